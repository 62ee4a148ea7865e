import PyProof.Rows.All
import Wide.All
import OpenK.AllK
import Wide.FinOn
import HandS.Base
import HandS.Call
import HandS.List
import HandS.Comp
import HandS.Ends
import HandS.Exc
import HandS.ExcOwn
import HandS.Words
import HandS.WordsList
import HandS.WordsExc
import HandS.IsInst
import HandS.Wide
import HandS.Flow
import HandS.Defaults
import HandS.ExcValue
import HandS.ExcIs
import HandS.TryOnly
import HandS.Dict
import HandS.Head0
import HandS.Head1
import HandS.Head2
import HandS.HeadEnd
import HandS.HeadHook1
import HandS.HeadHook2
import HandS.Deep
import HandS.Style
import HandS.More
import HandS.Text
import HandS.Zip
import PyProof.StrLawsJoin
import HandS.Iter
import HandS.Strs
import HandS.TupAny
import KE.KDictZip
import HandS.TupLe
import HandS.ListEq
import PyProof.NeKinds
import HandS.WordsDict
import PySem.Challenge.RW_fitwhatever_k53_dealings_counted
import KE.KStateDown
import Lean
set_option Elab.async false
set_option linter.all false
set_option maxRecDepth 100000
set_option maxHeartbeats 1000000
namespace TL
open PySem PySem.Spec L2

/-! ## kinds of values, of owned things -/
structure Ty where
  p : V → Hp → Prop
  mono : ∀ {v : V} {F F' : Hp}, Same F F' → p v F → p v F'
structure OTy where
  p : HO → Hp → Prop
  mono : ∀ {o : HO} {F F' : Hp}, Same F F' → p o F → p o F'
abbrev Sto := List (Option Ty)
abbrev Own := List (Addr × OTy)

theorem same_new {H : Hp} {p : Addr} {o : HO} (h : H p = none) : Same H (upd H p o) := fun b u e => by
  rw [upd_ne (ne_of_none e h)]
  exact e

/-- F, the frozen part, and what is owned, in H -/
structure HS (D : Own) (H F : Hp) : Prop where
  sub : Same F H
  own : ∀ a O, (a, O) ∈ D → F a = none ∧ ∃ o, H a = some o ∧ O.p o F
  nd : (D.map (·.1)).Nodup

theorem HS.free {D : Own} {H F : Hp} (h : HS D H F) {p : Addr} (e : H p = none) : F p = none := h.sub.free e
theorem HS.notin {D : Own} {H F : Hp} (h : HS D H F) {p : Addr} (e : H p = none) : ∀ O, (p, O) ∉ D := fun O m => by
  obtain ⟨_, o, q, _⟩ := h.own p O m
  rw [e] at q; cases q
theorem HS.new {D : Own} {H F : Hp} (h : HS D H F) {p : Addr} {o : HO} {O : OTy} (e : H p = none) (q : O.p o F) : HS ((p, O) :: D) (upd H p o) F where
  sub := h.sub.trans (same_new e)
  own := fun a O' m => by
    rcases List.mem_cons.mp m with z | z
    · cases z
      exact ⟨h.free e, o, upd_same, q⟩
    · obtain ⟨n, u, hu, hp⟩ := h.own a O' z
      exact ⟨n, u, (same_new e) a u hu, hp⟩
  nd := by
    rw [List.map_cons, List.nodup_cons]
    refine ⟨fun m => ?_, h.nd⟩
    obtain ⟨⟨a, O'⟩, m1, m2⟩ := List.mem_map.mp m
    cases m2
    exact h.notin e O' m1
theorem HS.frz {D : Own} {H F : Hp} (h : HS D H F) {p : Addr} {o : HO} (e : H p = none) : HS D (upd H p o) (upd F p o) where
  sub := fun b u q => by
    by_cases z : b = p
    · subst z
      rw [upd_same] at q ⊢
      exact q
    · rw [upd_ne z] at q ⊢
      exact h.sub b u q
  own := fun a O' m => by
    obtain ⟨n, u, hu, hp⟩ := h.own a O' m
    have z : a ≠ p := ne_of_none hu e
    refine ⟨by rw [upd_ne z]; exact n, u, by rw [upd_ne z]; exact hu, O'.mono (same_new (h.free e)) hp⟩
  nd := h.nd
theorem HS.at {D : Own} {H F : Hp} (h : HS D H F) {k : Nat} {a : Addr} {O : OTy} (e : D[k]? = some (a, O)) : ∃ o, H a = some o ∧ O.p o F := (h.own a O (List.mem_of_getElem? e)).2
theorem own_uniq {D : Own} (nd : (D.map (·.1)).Nodup) {k j : Nat} {a : Addr} {O O' : OTy} (e : D[k]? = some (a, O)) (e' : D[j]? = some (a, O')) : k = j :=
  nd_ix nd (x := a) (by rw [List.getElem?_map, e]; rfl) (by rw [List.getElem?_map, e']; rfl)
theorem HS.put {D : Own} {H F : Hp} (h : HS D H F) {k : Nat} {a : Addr} {O O' : OTy} {o : HO} (e : D[k]? = some (a, O)) (q : O'.p o F) : HS (D.set k (a, O')) (upd H a o) F where
  sub := fun b u z => by
    have n := (h.own a O (List.mem_of_getElem? e)).1
    have z2 : b ≠ a := ne_of_none z n
    rw [upd_ne z2]
    exact h.sub b u z
  own := fun b O2 m => by
    obtain ⟨j, hj⟩ := List.getElem?_of_mem m
    by_cases z : j = k
    · subst z
      have lt : j < D.length := (List.getElem?_eq_some_iff.mp e).1
      rw [List.getElem?_set_self lt] at hj
      cases hj
      exact ⟨(h.own _ O (List.mem_of_getElem? e)).1, o, upd_same, q⟩
    · rw [List.getElem?_set_ne (Ne.symm z)] at hj
      obtain ⟨n, u, hu, hp⟩ := h.own b O2 (List.mem_of_getElem? hj)
      have nz : b ≠ a := fun q => by
        subst q
        exact z (own_uniq h.nd hj e)
      exact ⟨n, u, by rw [upd_ne nz]; exact hu, hp⟩
  nd := by
    have : (D.set k (a, O')).map (·.1) = D.map (·.1) := by
      rw [List.map_set]
      refine List.ext_getElem? fun i => ?_
      by_cases z : i = k
      · subst z
        have lt : i < (D.map (·.1)).length := by rw [List.length_map]; exact (List.getElem?_eq_some_iff.mp e).1
        rw [List.getElem?_set_self lt, List.getElem?_map, e]
        rfl
      · rw [List.getElem?_set_ne (Ne.symm z)]
    rw [this]
    exact h.nd
theorem HS.drop {D D' : Own} {H F : Hp} (h : HS D H F) (s : D'.Sublist D) : HS D' H F where
  sub := h.sub
  own := fun a O m => h.own a O (s.subset m)
  nd := (s.map _).nodup h.nd
/-- an owned thing is frozen -/
theorem HS.freeze {D : Own} {H F : Hp} (h : HS D H F) {k : Nat} {a : Addr} {O : OTy} (e : D[k]? = some (a, O)) : ∃ o, O.p o F ∧ HS (D.eraseIdx k) H (upd F a o) ∧ Same F (upd F a o) := by
  obtain ⟨n, o, ho, hp⟩ := h.own a O (List.mem_of_getElem? e)
  refine ⟨o, hp, ?_, same_new n⟩
  have sl : (D.eraseIdx k).Sublist D := List.eraseIdx_sublist _ _
  refine ⟨fun b u q => ?_, fun b O2 m => ?_, (sl.map _).nodup h.nd⟩
  · by_cases z : b = a
    · subst z
      rw [upd_same] at q
      rw [← q]; exact ho
    · rw [upd_ne z] at q
      exact h.sub b u q
  · obtain ⟨n2, u, hu, hp2⟩ := h.own b O2 (sl.subset m)
    have nz : b ≠ a := fun q => by
      subst q
      obtain ⟨j, hj⟩ := List.getElem?_of_mem m
      rw [List.getElem?_eraseIdx] at hj
      split at hj
      · rename_i lt
        have := own_uniq h.nd hj e
        omega
      · rename_i lt
        have := own_uniq h.nd hj e
        omega
    exact ⟨by rw [upd_ne nz]; exact n2, u, hu, O2.mono (same_new n) hp2⟩

/-- the slots -/
inductive SS (F : Hp) : Sto → St → Prop
  | nil : SS F [] []
  | non {G : Sto} {σ : St} {x : Option V} : SS F G σ → SS F (none :: G) (x :: σ)
  | som {G : Sto} {σ : St} {R : Ty} {v : V} : R.p v F → SS F G σ → SS F (some R :: G) (some v :: σ)
theorem SS.mono {F F' : Hp} {G : Sto} {σ : St} (h : SS F G σ) (s : Same F F') : SS F' G σ := by
  induction h with
  | nil => exact .nil
  | non _ ih => exact .non ih
  | som r _ ih => exact .som (Ty.mono _ s r) ih
theorem SS.get {F : Hp} {G : Sto} {σ : St} (h : SS F G σ) : ∀ {i : Nat} {R : Ty}, G[i]? = some (some R) → ∃ v, σ[i]? = some (some v) ∧ R.p v F := by
  induction h with
  | nil => intro i R e; simp at e
  | non _ ih =>
    intro i R e
    cases i with
    | zero => simp at e
    | succ i => simpa using ih (by simpa using e)
  | som r _ ih =>
    intro i R e
    cases i with
    | zero =>
      simp at e
      subst e
      exact ⟨_, by simp, r⟩
    | succ i => simpa using ih (by simpa using e)
theorem SS.set {F : Hp} {G : Sto} {σ : St} {R : Ty} {v : V} (h : SS F G σ) (r : R.p v F) : ∀ (i : Nat), SS F (G.set i (some R)) (σ.set i (some v)) := by
  induction h with
  | nil => intro i; exact .nil
  | non h ih =>
    intro i
    cases i with
    | zero => exact .som r h
    | succ i => exact .non (ih i)
  | som q h ih =>
    intro i
    cases i with
    | zero => exact .som r h
    | succ i => exact .som q (ih i)
theorem SS.unset {F : Hp} {G : Sto} {σ : St} {x : Option V} (h : SS F G σ) : ∀ (i : Nat), SS F (G.set i none) (σ.set i x) := by
  induction h with
  | nil => intro i; exact .nil
  | non h ih =>
    intro i
    cases i with
    | zero => exact .non h
    | succ i => exact .non (ih i)
  | som q h ih =>
    intro i
    cases i with
    | zero => exact .non h
    | succ i => exact .som q (ih i)
/-- G' says less than G -/
inductive SLe : Sto → Sto → Prop
  | nil : SLe [] []
  | drop {G G' : Sto} {x : Option Ty} : SLe G G' → SLe (x :: G) (none :: G')
  | imp {G G' : Sto} {R R' : Ty} : (∀ v F, R.p v F → R'.p v F) → SLe G G' → SLe (some R :: G) (some R' :: G')
theorem SLe.refl : ∀ (G : Sto), SLe G G
  | [] => .nil
  | none :: G => .drop (SLe.refl G)
  | some R :: G => .imp (fun _ _ h => h) (SLe.refl G)
theorem SS.weak {F : Hp} {G G' : Sto} (l : SLe G G') : ∀ {σ : St}, SS F G σ → SS F G' σ := by
  induction l with
  | nil => intro σ h; exact h
  | drop _ ih =>
    intro σ h
    cases h with
    | non h => exact .non (ih h)
    | som r h => exact .non (ih h)
  | imp f _ ih =>
    intro σ h
    cases h with
    | som r h => exact .som (f _ _ r) (ih h)
theorem SS.len {F : Hp} {G : Sto} {σ : St} (h : SS F G σ) : σ.length = G.length := by
  induction h with
  | nil => rfl
  | non _ ih => simp [ih]
  | som _ _ ih => simp [ih]

inductive AllP (F : Hp) : List Ty → List V → Prop
  | nil : AllP F [] []
  | cons {R : Ty} {Rs : List Ty} {v : V} {vs : List V} : R.p v F → AllP F Rs vs → AllP F (R :: Rs) (v :: vs)
theorem AllP.mono {F F' : Hp} {Rs : List Ty} {vs : List V} (h : AllP F Rs vs) (s : Same F F') : AllP F' Rs vs := by
  induction h with
  | nil => exact .nil
  | cons r _ ih => exact .cons (Ty.mono _ s r) ih
theorem AllP.len {F : Hp} {Rs : List Ty} {vs : List V} (h : AllP F Rs vs) : vs.length = Rs.length := by
  induction h with
  | nil => rfl
  | cons _ _ ih => simp [ih]
theorem AllP.get {F : Hp} {Rs : List Ty} {vs : List V} (h : AllP F Rs vs) : ∀ {i : Nat} {R : Ty}, Rs[i]? = some R → ∃ v, vs[i]? = some v ∧ R.p v F := by
  induction h with
  | nil => intro i R e; simp at e
  | cons r _ ih =>
    intro i R e
    cases i with
    | zero => simp at e; subst e; exact ⟨_, by simp, r⟩
    | succ i => simpa using ih (by simpa using e)
theorem AllP.append {F : Hp} {Rs Rs' : List Ty} {vs vs' : List V} (h : AllP F Rs vs) (h' : AllP F Rs' vs') : AllP F (Rs ++ Rs') (vs ++ vs') := by
  induction h with
  | nil => exact h'
  | cons r _ ih => exact .cons r ih
theorem SS.start {F : Hp} {Rs : List Ty} {vs : List V} {N : List Str} (h : AllP F Rs vs) : SS F (Rs.map some ++ List.replicate (N.length - vs.length) none) (L2.start N vs) := by
  unfold L2.start
  generalize N.length - vs.length = m
  induction h with
  | nil =>
    induction m with
    | zero => exact .nil
    | succ m ih => exact .non ih
  | cons r _ ih => exact .som r ih

/-! ## judgements -/
def Ev (te : TE) (G : Sto) (D : Own) (R : Ty) (D' : Own) : Prop :=
  ∀ (σ : St) (H F : Hp), HS D H F → SS F G σ → ∀ Q : VK, (∀ v H' F', Same F F' → HS D' H' F' → R.p v F' → Q v H') → te σ H Q
def EvT (tt : TT) (G : Sto) (D : Own) (b : Bool) (D' : Own) : Prop :=
  ∀ (σ : St) (H F : Hp), HS D H F → SS F G σ → ∀ Q : Bool → Hp → Prop, (∀ H' F', Same F F' → HS D' H' F' → Q b H') → tt σ H Q
def EvA (ta : TA) (G : Sto) (D : Own) (Rs : List Ty) (D' : Own) : Prop :=
  ∀ (σ : St) (H F : Hp), HS D H F → SS F G σ → ∀ Q : List V → Hp → Prop, (∀ vs H' F', Same F F' → HS D' H' F' → AllP F' Rs vs → Q vs H') → ta σ H Q
/-- a new owned thing at p -/
def EvN (te : TE) (G : Sto) (D : Own) (O : OTy) (D' : Own) : Prop :=
  ∀ (σ : St) (H F : Hp), HS D H F → SS F G σ → ∀ Q : VK, (∀ p H' F', Same F F' → HS ((p, O) :: D') H' F' → Q (.ref p) H') → te σ H Q

def StP (F0 : Hp) (G : Sto) (D : Own) : St → Hp → Prop := fun σ H => ∃ F, Same F0 F ∧ HS D H F ∧ SS F G σ
/-- from G, D: P -/
def Go (P : St → Hp → Prop) (F0 : Hp) (G : Sto) (D : Own) : Prop := ∀ σ H F, Same F0 F → HS D H F → SS F G σ → P σ H
def GoV (P : VK) (F0 : Hp) (R : Ty) (D : Own) : Prop := ∀ v H F, Same F0 F → HS D H F → R.p v F → P v H
/-- an exception of the class c leaves -/
def GoX (P : XK) (F0 : Hp) (c : Value) (D : Own) : Prop := ∀ H F, Same F0 F → HS D H F → P c none H
theorem Go.of_sp {F0 : Hp} {G : Sto} {D : Own} : Go (StP F0 G D) F0 G D := fun σ H F s h ss => ⟨F, s, h, ss⟩
theorem Go.weak {P : St → Hp → Prop} {F0 : Hp} {G G' : Sto} {D D' : Own} (h : Go P F0 G' D') (l : SLe G G') (d : D'.Sublist D) : Go P F0 G D :=
  fun σ H F s hs ss => h σ H F s (hs.drop d) (ss.weak l)
theorem Go.mono {P P' : St → Hp → Prop} {F0 : Hp} {G : Sto} {D : Own} (h : Go P F0 G D) (f : ∀ σ H, P σ H → P' σ H) : Go P' F0 G D := fun σ H F s hs ss => f _ _ (h σ H F s hs ss)

/-! ## data -/
mutual
theorem dp_mono {K : PySem.W.Frag} {F F' : Hp} (s : Same F F') : ∀ (d : PyData) (v : V), Dp K F v d → Dp K F' v d
  | .none, _, h => by cases h; exact .non
  | .bool b, _, h => by cases h; exact .bl b
  | .int i, _, h => by cases h; exact .int i
  | .str x, _, h => by cases h; exact .str x
  | .list ds, _, h => by
    cases h with
    | lst h1 h2 => exact .lst (s.seq h1) (dpAll_mono s ds _ h2)
  | .tuple ds, _, h => by
    cases h with
    | tup h1 h2 =>
      refine .tup ?_ (dpAll_mono s ds _ h2)
      rcases h1 with (h1 | ⟨o, h1⟩) | h1
      · exact .inl (.inl (s _ _ h1))
      · exact .inl (.inr ⟨o, s _ _ h1⟩)
      · exact .inr h1
  | .dict _, _, h => by cases h
theorem dpAll_mono {K : PySem.W.Frag} {F F' : Hp} (s : Same F F') : ∀ (ds : List PyData) (vs : List V), DpAll K F vs ds → DpAll K F' vs ds
  | [], _, h => by cases h; exact .nil
  | d :: ds, _, h => by
    cases h with
    | cons h1 h2 => exact .cons (dp_mono s d _ h1) (dpAll_mono s ds _ h2)
end
/-- v is the data d -/
def D (K : PySem.W.Frag) (d : PyData) : Ty := ⟨fun v F => Dp K F v d, fun s h => dp_mono s d _ h⟩
abbrev DI (K : PySem.W.Frag) (i : Int) : Ty := D K (.int i)
abbrev DB (K : PySem.W.Frag) (b : Bool) : Ty := D K (.bool b)
abbrev DS (K : PySem.W.Frag) (x : Str) : Ty := D K (.str x)
abbrev DN (K : PySem.W.Frag) : Ty := D K .none
/-- any value -/
def Any : Ty := ⟨fun _ _ => True, fun _ _ => trivial⟩
/-- just this value -/
def Is (v : V) : Ty := ⟨fun w _ => w = v, fun _ h => h⟩
/-- an owned list of data -/
def OL (K : PySem.W.Frag) (ds : List PyData) : OTy := ⟨fun o F => ∃ xs, o = .lst xs ∧ DpAll K F xs ds, fun s ⟨xs, e, h⟩ => ⟨xs, e, dpAll_mono s ds xs h⟩⟩
section
variable {K : PySem.W.Frag} {F : Hp} {v : V}
theorem dp_int {i : Int} (h : (DI K i).p v F) : v = .int i := by cases h; rfl
theorem dp_bl {b : Bool} (h : (DB K b).p v F) : v = .bl b := by cases h; rfl
theorem dp_str {x : Str} (h : (DS K x).p v F) : v = .str x := by cases h; rfl
theorem dp_non (h : (DN K).p v F) : v = .non := by cases h; rfl
theorem dp_tup {ds : List PyData} (h : (D K (.tuple ds)).p v F) : ∃ a xs, v = .ref a ∧ SqT K F a xs ∧ DpAll K F xs ds := by
  cases h with
  | tup h1 h2 => exact ⟨_, _, rfl, h1, h2⟩
theorem dp_lst {ds : List PyData} (h : (D K (.list ds)).p v F) : ∃ a xs, v = .ref a ∧ SqL K F a xs ∧ DpAll K F xs ds := by
  cases h with
  | lst h1 h2 => exact ⟨_, _, rfl, h1, h2⟩
theorem same_sqT {F F' : Hp} {a : Addr} {xs : List V} (s : Same F F') (h : SqT K F a xs) : SqT K F' a xs := by
  rcases h with (h1 | ⟨o, h1⟩) | h1
  · exact .inl (.inl (s _ _ h1))
  · exact .inl (.inr ⟨o, s _ _ h1⟩)
  · exact .inr h1
theorem dpAll_get : ∀ {ds : List PyData} {vs : List V}, DpAll K F vs ds → ∀ {i : Nat} {d : PyData}, ds[i]? = some d → ∃ v, vs[i]? = some v ∧ Dp K F v d
  | [], _, h, i, d, e => by simp at e
  | a :: ds, _, h, i, d, e => by
    cases h with
    | cons h1 h2 =>
      cases i with
      | zero => simp at e; subst e; exact ⟨_, by simp, h1⟩
      | succ i =>
        obtain ⟨v, h3, h4⟩ := dpAll_get h2 (i := i) (d := d) (by simpa using e)
        exact ⟨v, by simpa using h3, h4⟩
theorem dpAll_len : ∀ {ds : List PyData} {vs : List V}, DpAll K F vs ds → vs.length = ds.length
  | [], _, h => by cases h; rfl
  | a :: ds, _, h => by
    cases h with
    | cons h1 h2 => simp [dpAll_len h2]
theorem dpAll_append : ∀ {ds : List PyData} {vs : List V} {es : List PyData} {ws : List V}, DpAll K F vs ds → DpAll K F ws es → DpAll K F (vs ++ ws) (ds ++ es)
  | [], _, _, _, h, h' => by cases h; exact h'
  | a :: ds, _, _, _, h, h' => by
    cases h with
    | cons h1 h2 => exact .cons h1 (dpAll_append h2 h')
theorem dpAll_set {d : PyData} {v : V} (hv : Dp K F v d) : ∀ {ds : List PyData} {vs : List V}, DpAll K F vs ds → ∀ (i : Nat), DpAll K F (vs.set i v) (ds.set i d)
  | [], _, h, i => by cases h; exact .nil
  | a :: ds, _, h, i => by
    cases h with
    | cons h1 h2 =>
      cases i with
      | zero => exact .cons hv h2
      | succ i => exact .cons h1 (dpAll_set hv h2 i)
theorem allP_dp : ∀ {ds : List PyData} {vs : List V}, AllP F (ds.map (D K)) vs → DpAll K F vs ds
  | [], _, h => by cases h; exact .nil
  | a :: ds, _, h => by
    cases h with
    | cons h1 h2 => exact .cons h1 (allP_dp h2)
end
end TL

set_option Elab.async false
set_option linter.all false
set_option maxRecDepth 100000
set_option maxHeartbeats 1000000
namespace TL
open PySem PySem.Spec L2
section
variable {K : PySem.W.Frag} {G : Sto} {D0 D1 D2 D3 : Own} {te ta tb tc : TE} {tt tu : TT} {R Ra Rb : Ty}

/-! ## expressions -/
theorem ev_var {i : Nat} (h : G[i]? = some (some R)) : Ev (tVar i) G D0 R D0 := fun σ H F hs ss Q q => by
  obtain ⟨v, e, r⟩ := ss.get h
  exact ⟨v, e, q v H F (Same.refl _) hs r⟩
theorem ev_c {v : V} (h : ∀ F, R.p v F) : Ev (tC v) G D0 R D0 := fun σ H F hs ss Q q => q v H F (Same.refl _) hs (h F)
theorem ev_int {i : Int} : Ev (tC (.int i)) G D0 (DI K i) D0 := ev_c fun _ => .int i
theorem ev_bl {b : Bool} : Ev (tC (.bl b)) G D0 (DB K b) D0 := ev_c fun _ => .bl b
theorem ev_str {x : Str} : Ev (tC (.str x)) G D0 (DS K x) D0 := ev_c fun _ => .str x
theorem ev_non : Ev (tC .non) G D0 (DN K) D0 := ev_c fun _ => .non
theorem ev_imp (h : Ev te G D0 R D1) (f : ∀ v F, R.p v F → Ra.p v F) : Ev te G D0 Ra D1 := fun σ H F hs ss Q q =>
  h σ H F hs ss Q fun v H' F' s hs' r => q v H' F' s hs' (f v F' r)
theorem ev_eq (h : Ev te G D0 R D1) (e : R = Ra) : Ev te G D0 Ra D1 := e ▸ h
theorem ev_d {d e : PyData} (h : Ev te G D0 (D K d) D1) (q : d = e) : Ev te G D0 (D K e) D1 := q ▸ h
theorem evT_b {b c : Bool} (h : EvT tt G D0 b D1) (q : b = c) : EvT tt G D0 c D1 := q ▸ h
/-- two in a row -/
theorem ev2 {r : R2} (ha : Ev ta G D0 Ra D1) (hb : Ev tb G D1 Rb D2) (hr : ∀ x y H F, HS D2 H F → Ra.p x F → Rb.p y F → ∀ Q : VK, (∀ v H' F', Same F F' → HS D3 H' F' → R.p v F' → Q v H') → r x y H Q) : Ev (tOp r ta tb) G D0 R D3 := fun σ H F hs ss Q q =>
  ha σ H F hs ss _ fun x H1 F1 s1 hs1 r1 => hb σ H1 F1 hs1 (ss.mono s1) _ fun y H2 F2 s2 hs2 r2 =>
    hr x y H2 F2 hs2 (Ra.mono s2 r1) r2 Q fun v H3 F3 s3 => q v H3 F3 ((s1.trans s2).trans s3)
theorem ev1 {r : V → Hp → VK → Prop} (ha : Ev ta G D0 Ra D1) (hr : ∀ x H F, HS D1 H F → Ra.p x F → ∀ Q : VK, (∀ v H' F', Same F F' → HS D3 H' F' → R.p v F' → Q v H') → r x H Q) : Ev (tUn r ta) G D0 R D3 := fun σ H F hs ss Q q =>
  ha σ H F hs ss _ fun x H1 F1 s1 hs1 r1 => hr x H1 F1 hs1 r1 Q fun v H3 F3 s3 => q v H3 F3 (s1.trans s3)
theorem ev_opI0 {g : Int → Int → Int} {i j : Int} (ha : Ev ta G D0 (DI K i) D1) (hb : Ev tb G D1 (DI K j) D2) : Ev (tOp (rI0 fun i j => .int (g i j)) ta tb) G D0 (DI K (g i j)) D2 :=
  ev2 ha hb fun x y H F hs rx ry Q q => by
    rw [dp_int rx, dp_int ry]
    exact ⟨i, j, rfl, rfl, q _ H F (Same.refl _) hs (.int _)⟩
theorem ev_opI {C : Int → Int → Prop} {g : Int → Int → Int} {i j : Int} (ha : Ev ta G D0 (DI K i) D1) (hb : Ev tb G D1 (DI K j) D2) (c : C i j) : Ev (tOp (rI C fun i j => .int (g i j)) ta tb) G D0 (DI K (g i j)) D2 :=
  ev2 ha hb fun x y H F hs rx ry Q q => by
    rw [dp_int rx, dp_int ry]
    exact ⟨i, j, rfl, rfl, c, q _ H F (Same.refl _) hs (.int _)⟩
theorem ev_opB0 {g : Int → Int → Bool} {i j : Int} (ha : Ev ta G D0 (DI K i) D1) (hb : Ev tb G D1 (DI K j) D2) : Ev (tOp (rI0 fun i j => .bl (g i j)) ta tb) G D0 (DB K (g i j)) D2 :=
  ev2 ha hb fun x y H F hs rx ry Q q => by
    rw [dp_int rx, dp_int ry]
    exact ⟨i, j, rfl, rfl, q _ H F (Same.refl _) hs (.bl _)⟩
theorem ev_unI {g : Int → Int} {i : Int} (ha : Ev ta G D0 (DI K i) D1) : Ev (tUn (rU fun i => .int (g i)) ta) G D0 (DI K (g i)) D1 :=
  ev1 ha fun x H F hs rx Q q => by
    rw [dp_int rx]
    exact ⟨i, rfl, q _ H F (Same.refl _) hs (.int _)⟩
/-! == of plain things -/
theorem ev_eqI {i j : Int} (ha : Ev ta G D0 (DI K i) D1) (hb : Ev tb G D1 (DI K j) D2) : Ev (tOp rEq ta tb) G D0 (DB K (decide (i = j))) D2 :=
  ev2 ha hb fun x y H F hs rx ry Q q => by
    rw [dp_int rx, dp_int ry]
    refine ⟨rfl, ?_⟩
    rw [dec_int, Bool.beq_eq_decide_eq]
    exact q _ H F (Same.refl _) hs (.bl _)
theorem ev_neI {i j : Int} (ha : Ev ta G D0 (DI K i) D1) (hb : Ev tb G D1 (DI K j) D2) : Ev (tOp rNe ta tb) G D0 (DB K (!decide (i = j))) D2 :=
  ev2 ha hb fun x y H F hs rx ry Q q => by
    rw [dp_int rx, dp_int ry]
    refine ⟨rfl, ?_⟩
    rw [dec_int, Bool.beq_eq_decide_eq]
    exact q _ H F (Same.refl _) hs (.bl _)
theorem ev_eqS {i j : Str} (ha : Ev ta G D0 (DS K i) D1) (hb : Ev tb G D1 (DS K j) D2) : Ev (tOp rEq ta tb) G D0 (DB K (decide (i = j))) D2 :=
  ev2 ha hb fun x y H F hs rx ry Q q => by
    rw [dp_str rx, dp_str ry]
    refine ⟨rfl, ?_⟩
    have e : decide (V.str i = V.str j) = decide (i = j) := by simp
    rw [e]
    exact q _ H F (Same.refl _) hs (.bl _)
theorem ev_neS {i j : Str} (ha : Ev ta G D0 (DS K i) D1) (hb : Ev tb G D1 (DS K j) D2) : Ev (tOp rNe ta tb) G D0 (DB K (!decide (i = j))) D2 :=
  ev2 ha hb fun x y H F hs rx ry Q q => by
    rw [dp_str rx, dp_str ry]
    refine ⟨rfl, ?_⟩
    have e : decide (V.str i = V.str j) = decide (i = j) := by simp
    rw [e]
    exact q _ H F (Same.refl _) hs (.bl _)
theorem ev_eqB {i j : Bool} (ha : Ev ta G D0 (DB K i) D1) (hb : Ev tb G D1 (DB K j) D2) : Ev (tOp rEq ta tb) G D0 (DB K (i == j)) D2 :=
  ev2 ha hb fun x y H F hs rx ry Q q => by
    rw [dp_bl rx, dp_bl ry]
    refine ⟨rfl, ?_⟩
    rw [dec_bl]
    exact q _ H F (Same.refl _) hs (.bl _)
theorem ev_neB {i j : Bool} (ha : Ev ta G D0 (DB K i) D1) (hb : Ev tb G D1 (DB K j) D2) : Ev (tOp rNe ta tb) G D0 (DB K (!(i == j))) D2 :=
  ev2 ha hb fun x y H F hs rx ry Q q => by
    rw [dp_bl rx, dp_bl ry]
    refine ⟨rfl, ?_⟩
    rw [dec_bl]
    exact q _ H F (Same.refl _) hs (.bl _)
/-! == of data -/
theorem dp_up {H F : Hp} {D : Own} (hs : HS D H F) {d : PyData} {v : V} (h : Dp K F v d) : Dp K H v d := dp_mono hs.sub d v h
theorem ev_eqD {d e : PyData} (ha : Ev ta G D0 (D K d) D1) (hb : Ev tb G D1 (D K e) D2) (sd : SeqAt.shaped d = true) (se : SeqAt.shaped e = true) : Ev (tOp (rEqD K) ta tb) G D0 (DB K (PyData.eqv d e)) D2 :=
  ev2 ha hb fun x y H F hs rx ry Q q => ⟨d, e, dp_up hs rx, dp_up hs ry, sd, se, q _ H F (Same.refl _) hs (.bl _)⟩
theorem ev_neD {d e : PyData} (ha : Ev ta G D0 (D K d) D1) (hb : Ev tb G D1 (D K e) D2) (sd : SeqAt.shaped d = true) (se : SeqAt.shaped e = true) : Ev (tOp (rNeD K) ta tb) G D0 (DB K (!PyData.eqv d e)) D2 :=
  ev2 ha hb fun x y H F hs rx ry Q q => ⟨d, e, dp_up hs rx, dp_up hs ry, sd, se, q _ H F (Same.refl _) hs (.bl _)⟩
/-! truth values -/
theorem ev_andV {a b : Bool} (ha : Ev ta G D0 (DB K a) D1) (hb : a = true → Ev tb G D1 (DB K b) D1) : Ev (tAndV ta tb) G D0 (DB K (a && b)) D1 := fun σ H F hs ss Q q =>
  ha σ H F hs ss _ fun x H1 F1 s1 hs1 r1 => by
    refine ⟨a, dp_bl r1, ?_⟩
    cases a with
    | true => exact hb rfl σ H1 F1 hs1 (ss.mono s1) Q fun v H2 F2 s2 h2 r2 => q v H2 F2 (s1.trans s2) h2 r2
    | false => exact q _ H1 F1 s1 hs1 (.bl _)
theorem ev_orV {a b : Bool} (ha : Ev ta G D0 (DB K a) D1) (hb : a = false → Ev tb G D1 (DB K b) D1) : Ev (tOrV ta tb) G D0 (DB K (a || b)) D1 := fun σ H F hs ss Q q =>
  ha σ H F hs ss _ fun x H1 F1 s1 hs1 r1 => by
    refine ⟨a, dp_bl r1, ?_⟩
    cases a with
    | false => exact hb rfl σ H1 F1 hs1 (ss.mono s1) Q fun v H2 F2 s2 h2 r2 => q v H2 F2 (s1.trans s2) h2 r2
    | true => exact q _ H1 F1 s1 hs1 (.bl _)
theorem ev_notV {a : Bool} (ha : Ev ta G D0 (DB K a) D1) : Ev (tNotV ta) G D0 (DB K (!a)) D1 := fun σ H F hs ss Q q =>
  ha σ H F hs ss _ fun x H1 F1 s1 hs1 r1 => ⟨a, dp_bl r1, q _ H1 F1 s1 hs1 (.bl _)⟩
theorem evT_test {b : Bool} (h : Ev te G D0 (DB K b) D1) : EvT (tTest te) G D0 b D1 := fun σ H F hs ss Q q =>
  h σ H F hs ss _ fun v H' F' s hs' r => ⟨b, dp_bl r, q H' F' s hs'⟩
theorem evT_B {b : Bool} (h : Ev te G D0 (DB K b) D1) : EvT (tB te) G D0 b D1 := fun σ H F hs ss Q q =>
  h σ H F hs ss _ fun v H' F' s hs' r => ⟨b, dp_bl r, q H' F' s hs'⟩
theorem evT_and {a b : Bool} (ha : EvT tt G D0 a D1) (hb : a = true → EvT tu G D1 b D1) : EvT (tAnd tt tu) G D0 (a && b) D1 := fun σ H F hs ss Q q =>
  ha σ H F hs ss _ fun H1 F1 s1 hs1 => by
    cases a with
    | true => exact hb rfl σ H1 F1 hs1 (ss.mono s1) Q fun H2 F2 s2 h2 => q H2 F2 (s1.trans s2) h2
    | false => exact q H1 F1 s1 hs1
theorem evT_or {a b : Bool} (ha : EvT tt G D0 a D1) (hb : a = false → EvT tu G D1 b D1) : EvT (tOr tt tu) G D0 (a || b) D1 := fun σ H F hs ss Q q =>
  ha σ H F hs ss _ fun H1 F1 s1 hs1 => by
    cases a with
    | false => exact hb rfl σ H1 F1 hs1 (ss.mono s1) Q fun H2 F2 s2 h2 => q H2 F2 (s1.trans s2) h2
    | true => exact q H1 F1 s1 hs1
theorem evT_not {a : Bool} (ha : EvT tt G D0 a D1) : EvT (tNot tt) G D0 (!a) D1 := fun σ H F hs ss Q q =>
  ha σ H F hs ss _ fun H1 F1 s1 hs1 => q H1 F1 s1 hs1
theorem ev_if {b : Bool} (hc : EvT tt G D0 b D1) (h1 : b = true → Ev ta G D1 R D2) (h2 : b = false → Ev tb G D1 R D2) : Ev (tIf tt ta tb) G D0 R D2 := fun σ H F hs ss Q q =>
  hc σ H F hs ss _ fun H1 F1 s1 hs1 => by
    cases b with
    | true => exact h1 rfl σ H1 F1 hs1 (ss.mono s1) Q fun v H2 F2 s2 h2 r2 => q v H2 F2 (s1.trans s2) h2 r2
    | false => exact h2 rfl σ H1 F1 hs1 (ss.mono s1) Q fun v H2 F2 s2 h2 r2 => q v H2 F2 (s1.trans s2) h2 r2
theorem ev_isN (h : Ev te G D0 (DN K) D1) : Ev (tIsN te) G D0 (DB K true) D1 := fun σ H F hs ss Q q =>
  h σ H F hs ss _ fun v H' F' s hs' r => by
    rw [dp_non r]
    exact q _ H' F' s hs' (.bl true)
theorem ev_isNot (h : Ev te G D0 R D1) (n : ∀ F, ¬ R.p .non F) : Ev (tIsN te) G D0 (DB K false) D1 := fun σ H F hs ss Q q =>
  h σ H F hs ss _ fun v H' F' s hs' r => by
    have e : decide (v = V.non) = false := decide_eq_false fun z => n F' (z ▸ r)
    show Q (.bl (decide (v = V.non))) H'
    rw [e]
    exact q _ H' F' s hs' (.bl false)
theorem ev_notN0 (h : Ev te G D0 (DN K) D1) : Ev (tNotN te) G D0 (DB K false) D1 := fun σ H F hs ss Q q =>
  h σ H F hs ss _ fun v H' F' s hs' r => by
    rw [dp_non r]
    exact q _ H' F' s hs' (.bl false)
theorem ev_notN (h : Ev te G D0 R D1) (n : ∀ F, ¬ R.p .non F) : Ev (tNotN te) G D0 (DB K true) D1 := fun σ H F hs ss Q q =>
  h σ H F hs ss _ fun v H' F' s hs' r => by
    have e : decide (v = V.non) = false := decide_eq_false fun z => n F' (z ▸ r)
    show Q (.bl (!decide (v = V.non))) H'
    rw [e]
    exact q _ H' F' s hs' (.bl true)

/-! ## arguments, displays -/
theorem evA_nil : EvA tNil G D0 [] D0 := fun σ H F hs ss Q q => q [] H F (Same.refl _) hs .nil
theorem evA_cons {tr : TA} {Rs : List Ty} (h : Ev te G D0 R D1) (hr : EvA tr G D1 Rs D2) : EvA (tCons te tr) G D0 (R :: Rs) D2 := fun σ H F hs ss Q q =>
  h σ H F hs ss _ fun v H1 F1 s1 hs1 r1 => hr σ H1 F1 hs1 (ss.mono s1) _ fun vs H2 F2 s2 hs2 r2 => q _ H2 F2 (s1.trans s2) hs2 (.cons (R.mono s2 r1) r2)
/-- data in arguments -/
def EvDs (K : PySem.W.Frag) (ta : TA) (G : Sto) (D0 : Own) (ds : List PyData) (D1 : Own) : Prop := EvA ta G D0 (ds.map (D K)) D1
theorem evD_nil : EvDs K tNil G D0 [] D0 := evA_nil
theorem evD_cons {tr : TA} {d : PyData} {ds : List PyData} (h : Ev te G D0 (D K d) D1) (hr : EvDs K tr G D1 ds D2) : EvDs K (tCons te tr) G D0 (d :: ds) D2 := evA_cons h hr
theorem sizeLine_big : 100000 ≤ sizeLine := by decide
theorem ev_tup {t : TA} {ds : List PyData} (h : EvDs K t G D0 ds D1) (hl : ds.length ≤ 100000) : Ev (tTup t) G D0 (D K (.tuple ds)) D1 := fun σ H F hs ss Q q =>
  h σ H F hs ss _ fun vs H1 F1 s1 hs1 r1 => by
    have r2 := allP_dp r1
    refine ⟨by rw [dpAll_len r2]; exact Nat.le_trans hl sizeLine_big, fun p hp => ?_⟩
    have s2 : Same F1 (upd F1 p (.tup vs)) := same_new (hs1.free hp)
    exact q _ _ _ (s1.trans s2) (hs1.frz hp) (.tup (SqT.of upd_same) (dpAll_mono s2 ds vs r2))
/-- a list that nobody changes -/
theorem ev_lst {t : TA} {ds : List PyData} (h : EvDs K t G D0 ds D1) (hl : ds.length ≤ 100000) : Ev (tLst t) G D0 (D K (.list ds)) D1 := fun σ H F hs ss Q q =>
  h σ H F hs ss _ fun vs H1 F1 s1 hs1 r1 => by
    have r2 := allP_dp r1
    refine ⟨by rw [dpAll_len r2]; exact Nat.le_trans hl sizeLine_big, fun p hp => ?_⟩
    have s2 : Same F1 (upd F1 p (.lst vs)) := same_new (hs1.free hp)
    exact q _ _ _ (s1.trans s2) (hs1.frz hp) (.lst (SqL.of upd_same) (dpAll_mono s2 ds vs r2))
/-- a list of one's own -/
theorem evN_lst {t : TA} {ds : List PyData} (h : EvDs K t G D0 ds D1) (hl : ds.length ≤ 100000) : EvN (tLst t) G D0 (OL K ds) D1 := fun σ H F hs ss Q q =>
  h σ H F hs ss _ fun vs H1 F1 s1 hs1 r1 => by
    have r2 := allP_dp r1
    refine ⟨by rw [dpAll_len r2]; exact Nat.le_trans hl sizeLine_big, fun p hp => ?_⟩
    exact q _ _ _ s1 (hs1.new hp ⟨vs, rfl, r2⟩)
/-- a new thing of one's own is frozen -/
theorem ev_of_N {ds : List PyData} (h : EvN te G D0 (OL K ds) D1) : Ev te G D0 (D K (.list ds)) D1 := fun σ H F hs ss Q q =>
  h σ H F hs ss _ fun p H1 F1 s1 hs1 => by
    obtain ⟨o, ⟨xs, e, hx⟩, hs2, s2⟩ := hs1.freeze (k := 0) rfl
    subst e
    exact q _ _ _ (s1.trans s2) hs2 (.lst (SqL.of upd_same) (dpAll_mono s2 ds xs hx))

/-! ## items -/
theorem sqT_up {H F : Hp} {D : Own} (hs : HS D H F) {a : Addr} {xs : List V} (h : SqT K F a xs) : SqT K H a xs := same_sqT hs.sub h
theorem sqL_up {H F : Hp} {D : Own} (hs : HS D H F) {a : Addr} {xs : List V} (h : SqL K F a xs) : SqL K H a xs := hs.sub.seq h
theorem atI_map {ds : List PyData} {vs : List V} {F : Hp} (h : DpAll K F vs ds) {i : Int} {d : PyData} (e : atI ds i = some d) : ∃ v, atI vs i = some v ∧ Dp K F v d := by
  unfold atI at e ⊢
  rw [dpAll_len h]
  cases q : ixN ds.length i with
  | none => rw [q] at e; cases e
  | some j =>
    rw [q] at e
    exact dpAll_get h e
theorem ev_ixT {ds : List PyData} {i : Int} {d : PyData} (ha : Ev ta G D0 (D K (.tuple ds)) D1) (hb : Ev tb G D1 (DI K i) D2) (e : atI ds i = some d) : Ev (tOp (rIxT K) ta tb) G D0 (D K d) D2 :=
  ev2 ha hb fun x y H F hs rx ry Q q => by
    obtain ⟨a, xs, rfl, h1, h2⟩ := dp_tup rx
    rw [dp_int ry]
    obtain ⟨v, e1, e2⟩ := atI_map h2 e
    exact ⟨a, xs, i, v, rfl, rfl, sqT_up hs h1, e1, q _ H F (Same.refl _) hs e2⟩
theorem ev_ixL {ds : List PyData} {i : Int} {d : PyData} (ha : Ev ta G D0 (D K (.list ds)) D1) (hb : Ev tb G D1 (DI K i) D2) (e : atI ds i = some d) : Ev (tOp (rIxL K) ta tb) G D0 (D K d) D2 :=
  ev2 ha hb fun x y H F hs rx ry Q q => by
    obtain ⟨a, xs, rfl, h1, h2⟩ := dp_lst rx
    rw [dp_int ry]
    obtain ⟨v, e1, e2⟩ := atI_map h2 e
    exact ⟨a, xs, i, v, rfl, rfl, sqL_up hs h1, e1, q _ H F (Same.refl _) hs e2⟩
/-- of an owned list, at k -/
theorem ev_ixO {ds : List PyData} {i : Int} {d : PyData} {k : Nat} {a : Addr} (ha : Ev ta G D0 (Is (.ref a)) D1) (hb : Ev tb G D1 (DI K i) D2) (hk : D2[k]? = some (a, OL K ds)) (e : atI ds i = some d) : Ev (tOp (rIxL K) ta tb) G D0 (D K d) D2 :=
  ev2 ha hb fun x y H F hs rx ry Q q => by
    have ex : x = .ref a := rx
    subst ex
    rw [dp_int ry]
    obtain ⟨o, ho, xs, rfl, h2⟩ := hs.at hk
    obtain ⟨v, e1, e2⟩ := atI_map h2 e
    exact ⟨a, xs, i, v, rfl, rfl, SqL.of ho, e1, q _ H F (Same.refl _) hs e2⟩
theorem atI_nil {α : Type} {i : Int} : atI ([] : List α) i = none := by
  unfold atI
  cases ixN ([] : List α).length i <;> simp

/-! ## built-ins -/
theorem evCB {r : List V → Hp → VK → Prop} {t : TA} {Rs : List Ty} (h : EvA t G D0 Rs D1) (hr : ∀ vs H F, HS D1 H F → AllP F Rs vs → ∀ Q : VK, (∀ v H' F', Same F F' → HS D2 H' F' → R.p v F' → Q v H') → r vs H Q) : Ev (tCB r t) G D0 R D2 := fun σ H F hs ss Q q =>
  h σ H F hs ss _ fun vs H1 F1 s1 hs1 r1 => hr vs H1 F1 hs1 r1 Q fun v H2 F2 s2 => q v H2 F2 (s1.trans s2)
theorem allP1 {F : Hp} {vs : List V} (h : AllP F [R] vs) : ∃ v, vs = [v] ∧ R.p v F := by
  cases h with
  | cons h1 h2 => cases h2; exact ⟨_, rfl, h1⟩
theorem allP2 {F : Hp} {vs : List V} (h : AllP F [Ra, Rb] vs) : ∃ v w, vs = [v, w] ∧ Ra.p v F ∧ Rb.p w F := by
  cases h with
  | cons h1 h2 =>
    obtain ⟨w, rfl, h3⟩ := allP1 h2
    exact ⟨_, _, rfl, h1, h3⟩
abbrev cAbs : List V → Hp → VK → Prop := fun xs H Q => ∃ i, xs = [.int i] ∧ Q (.int (if i < 0 then -i else i)) H
abbrev cMax2 : List V → Hp → VK → Prop := fun xs H Q => ∃ i j, xs = [.int i, .int j] ∧ Q (.int (if j > i then j else i)) H
abbrev cMin2 : List V → Hp → VK → Prop := fun xs H Q => ∃ i j, xs = [.int i, .int j] ∧ Q (.int (if j < i then j else i)) H
abbrev cInt1 : List V → Hp → VK → Prop := fun xs H Q => (∃ i, xs = [.int i] ∧ Q (.int i) H) ∨ ∃ k, xs = [.bl k] ∧ Q (.int (if k then 1 else 0)) H
abbrev cLen (K : PySem.W.Frag) : List V → Hp → VK → Prop := fun xs H Q => ∃ x n, xs = [x] ∧ LenV K x H n ∧ Q (.int n) H
theorem ev_abs {i : Int} (h : Ev te G D0 (DI K i) D1) : Ev (tCB cAbs (tCons te tNil)) G D0 (DI K (if i < 0 then -i else i)) D1 :=
  evCB (evA_cons h evA_nil) fun vs H F hs r Q q => by
    obtain ⟨v, rfl, h1⟩ := allP1 r
    rw [dp_int h1]
    exact ⟨i, rfl, q _ H F (Same.refl _) hs (.int _)⟩
theorem ev_max2 {i j : Int} (ha : Ev ta G D0 (DI K i) D1) (hb : Ev tb G D1 (DI K j) D2) : Ev (tCB cMax2 (tCons ta (tCons tb tNil))) G D0 (DI K (if j > i then j else i)) D2 :=
  evCB (evA_cons ha (evA_cons hb evA_nil)) fun vs H F hs r Q q => by
    obtain ⟨v, w, rfl, h1, h2⟩ := allP2 r
    rw [dp_int h1, dp_int h2]
    exact ⟨i, j, rfl, q _ H F (Same.refl _) hs (.int _)⟩
theorem ev_min2 {i j : Int} (ha : Ev ta G D0 (DI K i) D1) (hb : Ev tb G D1 (DI K j) D2) : Ev (tCB cMin2 (tCons ta (tCons tb tNil))) G D0 (DI K (if j < i then j else i)) D2 :=
  evCB (evA_cons ha (evA_cons hb evA_nil)) fun vs H F hs r Q q => by
    obtain ⟨v, w, rfl, h1, h2⟩ := allP2 r
    rw [dp_int h1, dp_int h2]
    exact ⟨i, j, rfl, q _ H F (Same.refl _) hs (.int _)⟩
theorem ev_intB {b : Bool} (h : Ev te G D0 (DB K b) D1) : Ev (tCB cInt1 (tCons te tNil)) G D0 (DI K (if b then 1 else 0)) D1 :=
  evCB (evA_cons h evA_nil) fun vs H F hs r Q q => by
    obtain ⟨v, rfl, h1⟩ := allP1 r
    rw [dp_bl h1]
    exact .inr ⟨b, rfl, q _ H F (Same.refl _) hs (.int _)⟩
theorem ev_lenT {ds : List PyData} (h : Ev te G D0 (D K (.tuple ds)) D1) : Ev (tCB (cLen K) (tCons te tNil)) G D0 (DI K ds.length) D1 :=
  evCB (evA_cons h evA_nil) fun vs H F hs r Q q => by
    obtain ⟨v, rfl, h1⟩ := allP1 r
    obtain ⟨a, xs, rfl, h2, h3⟩ := dp_tup h1
    exact ⟨_, ds.length, rfl, .inr ⟨xs, sqT_up hs h2, (dpAll_len h3).symm⟩, q _ H F (Same.refl _) hs (.int _)⟩
theorem ev_lenL {ds : List PyData} (h : Ev te G D0 (D K (.list ds)) D1) : Ev (tCB (cLen K) (tCons te tNil)) G D0 (DI K ds.length) D1 :=
  evCB (evA_cons h evA_nil) fun vs H F hs r Q q => by
    obtain ⟨v, rfl, h1⟩ := allP1 r
    obtain ⟨a, xs, rfl, h2, h3⟩ := dp_lst h1
    exact ⟨_, ds.length, rfl, .inl ⟨xs, sqL_up hs h2, (dpAll_len h3).symm⟩, q _ H F (Same.refl _) hs (.int _)⟩
end
end TL

set_option Elab.async false
set_option linter.all false
set_option maxRecDepth 100000
set_option maxHeartbeats 1000000
namespace TL
open PySem PySem.Spec L2
section
variable {K : PySem.W.Frag} {G G1 G2 : Sto} {D0 D1 D2 D3 : Own} {te ta tb tc : TE} {tt tu : TT} {R Ra Rb : Ty} {E En : Ends} {F0 F1 : Hp} {t u : TS}

theorem Go.up {P : St → Hp → Prop} (h : Go P F0 G D0) (s : Same F0 F1) : Go P F1 G D0 := fun σ H F s1 => h σ H F (s.trans s1)
theorem GoV.up {P : VK} (h : GoV P F0 R D0) (s : Same F0 F1) : GoV P F1 R D0 := fun v H F s1 => h v H F (s.trans s1)
theorem GoX.up {P : XK} {c : Value} (h : GoX P F0 c D0) (s : Same F0 F1) : GoX P F1 c D0 := fun H F s1 => h H F (s.trans s1)
theorem GoV.imp {P : VK} (h : GoV P F0 R D0) (f : ∀ v F, Ra.p v F → R.p v F) : GoV P F0 Ra D0 := fun v H F s hs r => h v H F s hs (f v F r)
theorem GoV.drop {P : VK} (h : GoV P F0 R D1) (s : D1.Sublist D0) : GoV P F0 R D0 := fun v H F s1 hs r => h v H F s1 (hs.drop s) r
theorem Ev.drop (h : Ev te G D0 R D1) (s : D2.Sublist D1) : Ev te G D0 R D2 := fun σ H F hs ss Q q => h σ H F hs ss Q fun v H' F' s1 hs' r => q v H' F' s1 (hs'.drop s) r

/-! ## statements -/
theorem go_seq (h : Go (t { E with nx := u E }) F0 G D0) : Go (tSeq t u E) F0 G D0 := h
theorem go_next (h : Go E.nx F0 G D0) : Go (tNext E) F0 G D0 := h
theorem go_brk (h : Go E.bk F0 G D0) : Go (tBreak E) F0 G D0 := h
theorem go_cont (h : Go E.ct F0 G D0) : Go (tCont E) F0 G D0 := h
theorem go_if {b : Bool} (hc : EvT tt G D0 b D1) (h1 : b = true → Go (t E) F0 G D1) (h2 : b = false → Go (u E) F0 G D1) : Go (tIfS tt t u E) F0 G D0 := fun σ H F s hs ss =>
  hc σ H F hs ss _ fun H1 F2 s1 hs1 => by
    cases b with
    | true => exact h1 rfl σ H1 F2 (s.trans s1) hs1 (ss.mono s1)
    | false => exact h2 rfl σ H1 F2 (s.trans s1) hs1 (ss.mono s1)
theorem go_ret (h : Ev te G D0 R D1) (k : GoV E.rt F0 R D1) : Go (tRet te E) F0 G D0 := fun σ H F s hs ss =>
  h σ H F hs ss _ fun v H1 F1 s1 hs1 r1 => k v H1 F1 (s.trans s1) hs1 r1
theorem go_retN (k : GoV E.rt F0 (DN K) D0) : Go (tRetN E) F0 G D0 := fun σ H F s hs ss => k _ H F s hs .non
theorem go_drop (h : Ev te G D0 R D1) (k : Go E.nx F0 G D1) : Go (tDrop te E) F0 G D0 := fun σ H F s hs ss =>
  h σ H F hs ss _ fun v H1 F1 s1 hs1 r1 => k σ H1 F1 (s.trans s1) hs1 (ss.mono s1)
/-- what a target does with a value of a kind -/
def EvG (g : TG) (G : Sto) (R : Ty) (G1 : Sto) : Prop := ∀ (v : V) (σ : St) (H F : Hp) (D : Own), HS D H F → SS F G σ → R.p v F → ∀ Q : St → Hp → Prop, (∀ σ', SS F G1 σ' → Q σ' H) → g v σ H Q
def EvGs (K : PySem.W.Frag) (g : TGs) (G : Sto) (ds : List PyData) (G1 : Sto) : Prop := ∀ (vs : List V) (σ : St) (H F : Hp) (D : Own), HS D H F → SS F G σ → DpAll K F vs ds → ∀ Q : St → Hp → Prop, (∀ σ', SS F G1 σ' → Q σ' H) → g vs σ H Q
theorem evG_name {i : Nat} : EvG (gName i) G R (G.set i (some R)) := fun v σ H F D hs ss r Q q => q _ (ss.set r i)
theorem evGs_nil : EvGs K gNil G [] G := fun vs σ H F D hs ss r Q q => by
  cases r
  exact ⟨rfl, q _ ss⟩
theorem evGs_cons {g : TG} {gs : TGs} {d : PyData} {ds : List PyData} (h1 : EvG g G (TL.D K d) G1) (h2 : EvGs K gs G1 ds G2) : EvGs K (gCons g gs) G (d :: ds) G2 := fun vs σ H F D hs ss r Q q => by
  cases r with
  | cons r1 r2 => exact ⟨_, _, rfl, h1 _ σ H F D hs ss r1 _ fun σ' ss' => h2 _ σ' H F D hs ss' r2 Q q⟩
theorem evG_tup {gs : TGs} {ds : List PyData} {n : Nat} (h : EvGs K gs G ds G1) (hn : ds.length = n) : EvG (gTup K n gs) G (TL.D K (.tuple ds)) G1 := fun v σ H F D hs ss r Q q => by
  obtain ⟨a, xs, rfl, h1, h2⟩ := dp_tup r
  exact ⟨a, xs, rfl, sqT_up hs h1, (dpAll_len h2).trans hn, h xs σ H F D hs ss h2 Q q⟩
theorem go_asg {g : TG} (h : Ev te G D0 R D1) (hg : EvG g G R G1) (k : Go E.nx F0 G1 D1) : Go (tAsg te g E) F0 G D0 := fun σ H F s hs ss =>
  h σ H F hs ss _ fun v H1 F1 s1 hs1 r1 => hg v σ H1 F1 D1 hs1 (ss.mono s1) r1 _ fun σ' ss' => k σ' H1 F1 (s.trans s1) hs1 ss'
theorem go_set {i : Nat} (h : Ev te G D0 R D1) (k : Go E.nx F0 (G.set i (some R)) D1) : Go (tAsg te (gName i) E) F0 G D0 := go_asg h evG_name k
/-- a new owned thing at a name -/
theorem go_setN {i : Nat} {O : OTy} (h : EvN te G D0 O D1) (k : ∀ p, Go E.nx F0 (G.set i (some (Is (.ref p)))) ((p, O) :: D1)) : Go (tAsg te (gName i) E) F0 G D0 := fun σ H F s hs ss =>
  h σ H F hs ss _ fun p H1 F1 s1 hs1 => k p _ H1 F1 (s.trans s1) hs1 ((ss.mono s1).set (R := Is (.ref p)) rfl i)
theorem go_par {i j : Nat} {t : TA} (h : EvA t G D0 [Ra, Rb] D1) (k : Go E.nx F0 ((G.set i (some Ra)).set j (some Rb)) D1) : Go (tPar i j t E) F0 G D0 := fun σ H F s hs ss =>
  h σ H F hs ss _ fun vs H1 F1 s1 hs1 r1 => by
    obtain ⟨v, w, rfl, r2, r3⟩ := allP2 r1
    exact ⟨v, w, rfl, k _ H1 F1 (s.trans s1) hs1 (((ss.mono s1).set r2 i).set r3 j)⟩
/-- xs[i] = e, xs owned -/
theorem go_setO {ds : List PyData} {i : Int} {j k : Nat} {a : Addr} {d : PyData} (h : Ev te G D0 (TL.D K d) D1) (ho : Ev ta G D1 (Is (.ref a)) D2) (hi : Ev tb G D2 (DI K i) D3) (hk : D3[k]? = some (a, OL K ds)) (hj : ixN ds.length i = some j)
    (q : Go E.nx F0 G (D3.set k (a, OL K (ds.set j d)))) : Go (tAsg te (gSub ta tb rSetL) E) F0 G D0 := fun σ H F s hs ss =>
  h σ H F hs ss _ fun v H1 F1 s1 hs1 r1 => ho σ H1 F1 hs1 (ss.mono s1) _ fun x H2 F2 s2 hs2 r2 => hi σ H2 F2 hs2 ((ss.mono s1).mono s2) _ fun y H3 F3 s3 hs3 r3 => by
    have ex : x = .ref a := r2
    subst ex
    rw [dp_int r3]
    obtain ⟨o, ho, xs, rfl, h2⟩ := hs3.at hk
    refine ⟨a, xs, i, j, rfl, rfl, ho, by rw [dpAll_len h2]; exact hj, ?_⟩
    exact q σ _ F3 (((s.trans s1).trans s2).trans s3) (hs3.put hk ⟨_, rfl, dpAll_set (dp_mono (s2.trans s3) d v r1) h2 j⟩) (((ss.mono s1).mono s2).mono s3)
/-- xs.append(e), xs owned -/
theorem go_app {ds : List PyData} {k : Nat} {a : Addr} {d : PyData} (ho : Ev ta G D0 (Is (.ref a)) D1) (h : Ev te G D1 (TL.D K d) D2) (hk1 : ∃ (k1 : Nat) (ds1 : List PyData), D1[k1]? = some (a, OL K ds1)) (hk : D2[k]? = some (a, OL K ds)) (hz : ds.length < 100000)
    (q : Go E.nx F0 G (D2.set k (a, OL K (ds ++ [d])))) : Go (tDrop (tBM K "list" rAppend ta (tCons te tNil)) E) F0 G D0 := fun σ H F s hs ss =>
  ho σ H F hs ss _ fun x H1 F1 s1 hs1 r1 => by
    have ex : x = .ref a := r1
    subst ex
    obtain ⟨k1, ds1, hk1⟩ := hk1
    obtain ⟨o1, ho1, xs1, rfl, h21⟩ := hs1.at hk1
    refine ⟨.inl ⟨rfl, xs1, SqL.of ho1⟩, h σ H1 F1 hs1 (ss.mono s1) _ fun v H2 F2 s2 hs2 r2 => ?_⟩
    obtain ⟨o, ho, xs, rfl, h2⟩ := hs2.at hk
    refine ⟨a, xs, v, rfl, rfl, ho, by rw [dpAll_len h2]; exact Nat.lt_of_lt_of_le hz sizeLine_big, ?_⟩
    exact q σ _ F2 ((s.trans s1).trans s2) (hs2.put hk ⟨_, rfl, dpAll_append h2 (.cons r2 .nil)⟩) ((ss.mono s1).mono s2)

/-! ## loops -/
def ItOk (K : PySem.W.Frag) (J : It) (ds : List PyData) (F0 : Hp) : Prop := ∀ (D : Own) (H F : Hp), Same F0 F → HS D H F → ∀ i : Nat,
  (∀ d, ds[i]? = some d → J.go i H ∧ ∀ x H', J.yld i H x H' → ∃ F2, Same F F2 ∧ HS D H' F2 ∧ Dp K F2 x d) ∧ (ds.length ≤ i → J.stop i H)
def EvIt (K : PySem.W.Frag) (wi : TI) (G : Sto) (D0 : Own) (ds : List PyData) (D1 : Own) : Prop := ∀ (σ : St) (H F : Hp), HS D0 H F → SS F G σ → ∀ R : It → Hp → Prop,
  (∀ J H' F', Same F F' → HS D1 H' F' → ItOk K J ds F' → R J H') → wi σ H R
theorem go_for {S : Type} {wi : TI} {g : TG} {tb : TS} {ds : List PyData} (hi : EvIt K wi G D0 ds D1) (I : Nat → S → Prop) (Gs : S → Sto) (Ds : S → Own) (s0 : S) (h0 : I 0 s0) (w0 : SLe G (Gs s0)) (d0 : (Ds s0).Sublist D1)
    (step : ∀ F1, Same F0 F1 → ∀ k s d, ds[k]? = some d → I k s → ∃ G', EvG g (Gs s) (TL.D K d) G' ∧ ∀ Nx : St → Hp → Prop, (∀ s', I (k + 1) s' → Go Nx F1 (Gs s') (Ds s')) → Go (tb { E with nx := Nx, ct := Nx, bk := E.nx }) F1 G' (Ds s))
    (done : ∀ s, I ds.length s → Go E.nx F0 (Gs s) (Ds s)) : Go (tFor wi g tb E) F0 G D0 := fun σ H F s hs ss =>
  hi σ H F hs ss _ fun J H1 F1 s1 hs1 ok => by
    refine ⟨fun i m σ H => m = ds.length - i ∧ i ≤ ds.length ∧ ∃ x, I i x ∧ StP F1 (Gs x) (Ds x) σ H, ⟨ds.length, by simp, Nat.zero_le _, s0, h0, F1, Same.refl _, hs1.drop d0, (ss.mono s1).weak w0⟩, ?_⟩
    rintro i m σ2 H2 ⟨rfl, hle, x, hx, F2, s2, hs2, ss2⟩
    by_cases hlt : i < ds.length
    · have hd : ds[i]? = some ds[i] := by simp [hlt]
      obtain ⟨go, yl⟩ := (ok (Ds x) H2 F2 s2 hs2 i).1 _ hd
      refine .inr ⟨go, fun σ' H' => ∃ x', I (i + 1) x' ∧ StP F1 (Gs x') (Ds x') σ' H', fun σ' H' p => ⟨ds.length - (i + 1), by omega, rfl, hlt, p⟩, fun v H3 hy => ?_⟩
      obtain ⟨F3, s3, hs3, r3⟩ := yl v H3 hy
      obtain ⟨G', hg, hb⟩ := step F1 (s.trans s1) i x _ hd hx
      exact hg v σ2 H3 F3 (Ds x) hs3 (ss2.mono s3) r3 _ fun σ4 ss4 => hb _ (fun x' hx' σ5 H5 F5 s5 hs5 ss5 => ⟨x', hx', F5, s5, hs5, ss5⟩) σ4 H3 F3 (s2.trans s3) hs3 ss4
    · have e : i = ds.length := by omega
      subst e
      exact .inl ⟨(ok (Ds x) H2 F2 s2 hs2 _).2 (Nat.le_refl _), done x hx σ2 H2 F2 ((s.trans s1).trans s2) hs2 ss2⟩
theorem evIt_list {tl : TE} {ds : List PyData} (h : Ev tl G D0 (TL.D K (.list ds)) D1) : EvIt K (iList K tl) G D0 ds D1 := fun σ H F hs ss R q =>
  h σ H F hs ss _ fun v H1 F1 s1 hs1 r1 => by
    obtain ⟨a, xs, rfl, h1, h2⟩ := dp_lst r1
    refine ⟨a, rfl, ⟨xs, sqL_up hs1 h1⟩, q _ H1 F1 s1 hs1 fun D H2 F2 s2 hs2 i => ⟨fun d hd => ?_, fun hl => ?_⟩⟩
    · obtain ⟨v, e1, e2⟩ := dpAll_get h2 hd
      have sq : SqL K H2 a xs := sqL_up hs2 (s2.seq h1)
      refine ⟨⟨xs, v, sq, e1⟩, fun x H' hy => ?_⟩
      obtain ⟨e3, e4⟩ := hy
      subst e3
      have e5 := e4 xs sq
      rw [e1] at e5
      cases e5
      exact ⟨F2, Same.refl _, hs2, dp_mono s2 d v e2⟩
    · exact ⟨xs, sqL_up hs2 (s2.seq h1), by rw [dpAll_len h2]; exact hl⟩
theorem evIt_tup {tl : TE} {ds : List PyData} (h : Ev tl G D0 (TL.D K (.tuple ds)) D1) : EvIt K (iTup K tl) G D0 ds D1 := fun σ H F hs ss R q =>
  h σ H F hs ss _ fun v H1 F1 s1 hs1 r1 => by
    obtain ⟨a, xs, rfl, h1, h2⟩ := dp_tup r1
    refine ⟨a, rfl, ⟨xs, sqT_up hs1 h1⟩, q _ H1 F1 s1 hs1 fun D H2 F2 s2 hs2 i => ⟨fun d hd => ?_, fun hl => ?_⟩⟩
    · obtain ⟨v, e1, e2⟩ := dpAll_get h2 hd
      have sq : SqT K H2 a xs := sqT_up hs2 (same_sqT s2 h1)
      refine ⟨⟨xs, v, sq, e1⟩, fun x H' hy => ?_⟩
      obtain ⟨e3, e4⟩ := hy
      subst e3
      have e5 := e4 xs sq
      rw [e1] at e5
      cases e5
      exact ⟨F2, Same.refl _, hs2, dp_mono s2 d v e2⟩
    · exact ⟨xs, sqT_up hs2 (same_sqT s2 h1), by rw [dpAll_len h2]; exact hl⟩
def rangeD (lo : Int) (n : Nat) : List PyData := (List.range n).map fun i : Nat => PyData.int (lo + (i : Int))
theorem rangeD_len {lo : Int} {n : Nat} : (rangeD lo n).length = n := by simp [rangeD]
theorem rangeD_get {lo : Int} {n i : Nat} {d : PyData} (h : (rangeD lo n)[i]? = some d) : i < n ∧ d = .int (lo + (i : Int)) := by
  unfold rangeD at h
  rw [List.getElem?_map] at h
  by_cases hi : i < n
  · rw [List.getElem?_range hi] at h
    cases h
    exact ⟨hi, rfl⟩
  · rw [List.getElem?_eq_none (by simpa using hi)] at h
    cases h
theorem itr_ok {lo : Int} {n : Nat} {F : Hp} : ItOk K (Itr lo n) (rangeD lo n) F := fun D H2 F2 s2 hs2 i => ⟨fun d hd => by
    obtain ⟨h1, rfl⟩ := rangeD_get hd
    refine ⟨h1, fun x H' hy => ?_⟩
    obtain ⟨e1, e2⟩ := hy
    subst e1 e2
    exact ⟨F2, Same.refl _, hs2, .int _⟩, fun hl => by rw [rangeD_len] at hl; exact hl⟩
theorem evIt_rng1 {n : Int} (h : Ev te G D0 (DI K n) D1) (hn : -(2 ^ 62) ≤ n ∧ n < 2 ^ 62) : EvIt K (iRng1 (tCons te tNil)) G D0 (rangeD 0 n.toNat) D1 := fun σ H F hs ss R q =>
  h σ H F hs ss _ fun v H1 F1 s1 hs1 r1 => ⟨n, by rw [dp_int r1], hn.1, hn.2, q _ H1 F1 s1 hs1 itr_ok⟩
theorem evIt_rng2 {lo n : Int} (ha : Ev ta G D0 (DI K lo) D1) (h : Ev te G D1 (DI K n) D2) (hn : -(2 ^ 62) ≤ lo ∧ lo < 2 ^ 62 ∧ -(2 ^ 62) ≤ n ∧ n < 2 ^ 62) : EvIt K (iRng2 (tCons ta (tCons te tNil))) G D0 (rangeD lo (n - lo).toNat) D2 := fun σ H F hs ss R q =>
  ha σ H F hs ss _ fun v H1 F1 s1 hs1 r1 => h σ H1 F1 hs1 (ss.mono s1) _ fun w H2 F2 s2 hs2 r2 => ⟨lo, n, by rw [dp_int r1, dp_int r2], hn, q _ H2 F2 (s1.trans s2) hs2 itr_ok⟩
theorem go_while {S : Type} {tb : TS} (I : S → Prop) (Gs : S → Sto) (Ds : S → Own) (μ : S → Nat) (bv : S → Bool) (s0 : S) (h0 : I s0) (w0 : SLe G (Gs s0)) (d0 : (Ds s0).Sublist D0)
    (hc : ∀ s, I s → EvT tt (Gs s) (Ds s) (bv s) (Ds s))
    (step : ∀ s, I s → bv s = true → ∀ Nx : St → Hp → Prop, (∀ s', I s' → μ s' < μ s → Go Nx F0 (Gs s') (Ds s')) → Go (tb { E with nx := Nx, ct := Nx, bk := E.nx }) F0 (Gs s) (Ds s))
    (done : ∀ s, I s → bv s = false → Go E.nx F0 (Gs s) (Ds s)) : Go (tWhile tt tb E) F0 G D0 := fun σ H F s hs ss => by
  refine ⟨fun m σ H => ∃ x, m = μ x ∧ I x ∧ StP F0 (Gs x) (Ds x) σ H, ⟨_, s0, rfl, h0, F, s, hs.drop d0, ss.weak w0⟩, ?_⟩
  rintro m σ2 H2 ⟨x, rfl, hx, F2, s2, hs2, ss2⟩
  refine hc x hx σ2 H2 F2 hs2 ss2 _ fun H3 F3 s3 hs3 => ?_
  cases e : bv x with
  | true =>
    refine ⟨fun σ' H' => ∃ x', I x' ∧ μ x' < μ x ∧ StP F0 (Gs x') (Ds x') σ' H', fun σ' H' ⟨x', h1, h2, h3⟩ => ⟨μ x', h2, x', rfl, h1, h3⟩, ?_⟩
    exact step x hx e _ (fun x' h1 h2 σ5 H5 F5 s5 hs5 ss5 => ⟨x', h1, h2, F5, s5, hs5, ss5⟩) σ2 H3 F3 (s2.trans s3) hs3 (ss2.mono s3)
  | false => exact done x hx e σ2 H3 F3 (s2.trans s3) hs3 (ss2.mono s3)

/-! ## calls -/
inductive Out where
  | ok (R : Ty)
  | err (c : Value)
  | new (O : OTy)
/-- a new owned thing is handed back -/
def GoN (P : VK) (F0 : Hp) (O : OTy) (D : Own) : Prop := ∀ p H F, Same F0 F → HS ((p, O) :: D) H F → P (.ref p) H
def Post (o : Out) (rt : VK) (X : XK) (F : Hp) (D : Own) : Prop := match o with
  | .ok R => GoV rt F R D
  | .err c => GoX X F c D
  | .new O => GoN rt F O D
theorem GoN.up {P : VK} {O : OTy} (h : GoN P F0 O D0) (s : Same F0 F1) : GoN P F1 O D0 := fun p H F s1 => h p H F (s.trans s1)
theorem go_retO {O : OTy} (h : EvN te G D0 O D1) (k : GoN E.rt F0 O D1) : Go (tRet te E) F0 G D0 := fun σ H F s hs ss =>
  h σ H F hs ss _ fun p H1 F1 s1 hs1 => k p H1 F1 (s.trans s1) hs1
theorem Post.up {o : Out} {rt : VK} {X : XK} (h : Post o rt X F0 D0) (s : Same F0 F1) : Post o rt X F1 D0 := by
  cases o with
  | ok R => exact GoV.up h s
  | err c => exact GoX.up h s
  | new O => exact GoN.up h s
theorem Post.new {rt : VK} {X : XK} {o : Out} {O : OTy} (h : Post o rt X F0 D0) (e : o = .new O) : GoN rt F0 O D0 := by subst e; exact h
theorem Post.ok {rt : VK} {X : XK} {o : Out} (h : Post o rt X F0 D0) (e : o = .ok R) : GoV rt F0 R D0 := by subst e; exact h
theorem Post.err {rt : VK} {X : XK} {o : Out} {c : Value} (h : Post o rt X F0 D0) (e : o = .err c) : GoX X F0 c D0 := by subst e; exact h
/-- a def that leaves all that is owned as it is -/
def fsp {T : Type} (args : T → List Ty) (pre : T → Prop) (out : T → Out) : Sp := fun vs H Q X => ∃ (x : T) (F : Hp) (D : Own), HS D H F ∧ AllP F (args x) vs ∧ pre x ∧ Post (out x) Q X F D
/-- a def whose first argument is owned, and changes from O to O1 -/
def fspM {T : Type} (O O1 : T → OTy) (args : T → List Ty) (pre : T → Prop) (out : T → Out) : Sp := fun vs H Q X => ∃ (x : T) (F : Hp) (D : Own) (k : Nat) (a : Addr), HS D H F ∧ D[k]? = some (a, O x) ∧ AllP F (Is (.ref a) :: args x) vs ∧ pre x ∧
  Post (out x) Q X F (D.set k (a, O1 x))
theorem ev_call {T : Type} {args : T → List Ty} {pre : T → Prop} {out : T → Out} {dvs : List V} {X : XK} {t : TA} {Rs Rd : List Ty} (x : T) (h : EvA t G D0 Rs D1) (hd : ∀ F, AllP F Rd dvs) (ea : args x = Rs ++ Rd) (hp : pre x) (ho : out x = .ok R) :
    Ev (tCall (fsp args pre out) dvs X t) G D0 R D1 := fun σ H F hs ss Q q =>
  h σ H F hs ss _ fun vs H1 F1 s1 hs1 r1 => ⟨x, F1, D1, hs1, by rw [ea]; exact r1.append (hd F1), hp, by rw [ho]; exact fun v H2 F2 s2 hs2 r2 => q v H2 F2 (s1.trans s2) hs2 r2⟩
theorem ev_call0 {T : Type} {args : T → List Ty} {pre : T → Prop} {out : T → Out} {X : XK} {t : TA} (x : T) (h : EvA t G D0 (args x) D1) (hp : pre x) (ho : out x = .ok R) : Ev (tCall (fsp args pre out) [] X t) G D0 R D1 :=
  ev_call x h (Rd := []) (fun _ => .nil) (by simp) hp ho
theorem ev_callM {T : Type} {O O1 : T → OTy} {args : T → List Ty} {pre : T → Prop} {out : T → Out} {X : XK} {t : TA} {k : Nat} {a : Addr} (x : T) (h : EvA t G D0 (Is (.ref a) :: args x) D1) (hk : D1[k]? = some (a, O x)) (hp : pre x) (ho : out x = .ok R) :
    Ev (tCall (fspM O O1 args pre out) [] X t) G D0 R (D1.set k (a, O1 x)) := fun σ H F hs ss Q q =>
  h σ H F hs ss _ fun vs H1 F1 s1 hs1 r1 => ⟨x, F1, D1, k, a, hs1, hk, by rw [List.append_nil]; exact r1, hp, by rw [ho]; exact fun v H2 F2 s2 hs2 r2 => q v H2 F2 (s1.trans s2) hs2 r2⟩
theorem evN_call0 {T : Type} {args : T → List Ty} {pre : T → Prop} {out : T → Out} {X : XK} {t : TA} {O : OTy} (x : T) (h : EvA t G D0 (args x) D1) (hp : pre x) (ho : out x = .new O) : EvN (tCall (fsp args pre out) [] X t) G D0 O D1 := fun σ H F hs ss Q q =>
  h σ H F hs ss _ fun vs H1 F1 s1 hs1 r1 => ⟨x, F1, D1, hs1, by rw [List.append_nil]; exact r1, hp, by rw [ho]; exact fun p H2 F2 s2 hs2 => q p H2 F2 (s1.trans s2) hs2⟩
/-- the owned argument is made in the call -/
theorem ev_callMN {T : Type} {O O1 : T → OTy} {args : T → List Ty} {pre : T → Prop} {out : T → Out} {X : XK} {t : TA} (x : T) (h : EvN te G D0 (O x) D1) (hr : ∀ p, EvA t G ((p, O x) :: D1) (args x) ((p, O x) :: D1)) (hp : pre x) (ho : out x = .ok R) :
    Ev (tCall (fspM O O1 args pre out) [] X (tCons te t)) G D0 R D1 := fun σ H F hs ss Q q =>
  h σ H F hs ss _ fun p H1 F1 s1 hs1 => hr p σ H1 F1 hs1 (ss.mono s1) _ fun vs H2 F2 s2 hs2 r2 => ⟨x, F2, (p, O x) :: D1, 0, p, hs2, rfl, by rw [List.append_nil]; exact .cons rfl r2, hp, by
    rw [ho]
    exact fun v H3 F3 s3 hs3 r3 => q v H3 F3 ((s1.trans s2).trans s3) (hs3.drop (List.sublist_cons_self _ _)) r3⟩
/-- a def's reading from its walk -/
theorem pure_of {T : Type} {args : T → List Ty} {pre : T → Prop} {out : T → Out} {N : List Str} {tf : TS} {vs : List V} {H : Hp} {Q : VK} {X : XK}
    (walk : ∀ (x : T) (F : Hp) (D : Own) (E : Ends), E.rt = Q → (∀ (K : PySem.W.Frag) G D1, GoV Q F (DN K) D1 → Go E.nx F G D1) → pre x → Post (out x) Q X F D → Go (tf E) F ((args x).map some ++ List.replicate (N.length - (args x).length) none) D)
    (h : fsp args pre out vs H Q X) : tf { nx := fun _ H' => Q .non H', rt := Q } (L2.start N vs) H := by
  obtain ⟨x, F, D, hs, ha, hp, po⟩ := h
  have z := SS.start (N := N) ha
  rw [ha.len] at z
  exact walk x F D { nx := fun _ H' => Q .non H', rt := Q } rfl (fun K G D1 k σ H F1 s hs ss => k _ H F1 s hs .non) hp po _ H F (Same.refl _) hs z
theorem pure_ofM {T : Type} {O O1 : T → OTy} {args : T → List Ty} {pre : T → Prop} {out : T → Out} {N : List Str} {tf : TS} {vs : List V} {H : Hp} {Q : VK} {X : XK}
    (walk : ∀ (x : T) (F : Hp) (D : Own) (k : Nat) (a : Addr) (E : Ends), D[k]? = some (a, O x) → E.rt = Q → (∀ (K : PySem.W.Frag) G D1, GoV Q F (DN K) D1 → Go E.nx F G D1) → pre x → Post (out x) Q X F (D.set k (a, O1 x)) →
      Go (tf E) F (some (Is (.ref a)) :: ((args x).map some ++ List.replicate (N.length - ((args x).length + 1)) none)) D)
    (h : fspM O O1 args pre out vs H Q X) : tf { nx := fun _ H' => Q .non H', rt := Q } (L2.start N vs) H := by
  obtain ⟨x, F, D, k, a, hs, hk, ha, hp, po⟩ := h
  have z := SS.start (N := N) ha
  rw [ha.len] at z
  exact walk x F D k a { nx := fun _ H' => Q .non H', rt := Q } hk rfl (fun K G D1 k σ H F1 s hs ss => k _ H F1 s hs .non) hp po _ H F (Same.refl _) hs z
theorem fsp_len {T : Type} {args : T → List Ty} {pre : T → Prop} {out : T → Out} {n : Nat} (e : ∀ x, (args x).length = n) : ∀ vs H Q E, fsp args pre out vs H Q E → vs.length = n := fun vs H Q E ⟨x, F, D, _, ha, _⟩ => by rw [ha.len, e]
theorem fspM_len {T : Type} {O O1 : T → OTy} {args : T → List Ty} {pre : T → Prop} {out : T → Out} {n : Nat} (e : ∀ x, (args x).length + 1 = n) : ∀ vs H Q E, fspM O O1 args pre out vs H Q E → vs.length = n := fun vs H Q E ⟨x, F, D, k, a, _, _, ha, _⟩ => by rw [ha.len, ← e x]; rfl
end
end TL

set_option Elab.async false
set_option linter.all false
set_option maxRecDepth 100000
set_option maxHeartbeats 1000000
namespace TL
open PySem PySem.Spec L2
open PyProof.Rows (AllBare)

/-! ## an exception that stands as a value: of the class cls, at a -/
def ExT (cls : Value) (a : Addr) : HO := .ext fun h => ∃ (oe : Obj) (vs : Array Value), h.get? a = some oe ∧ Zc cls none oe ∧ oe.data = .fields vs
theorem exT_ok {P : Program} {w : World} {H : Hp} {h : Heap} {a : Addr} {cls : Value} {oe : Obj} {vs : Array Value} (e : h.get? a = some oe) (z : Zc cls none oe) (d : oe.data = .fields vs) : ObjOk P w H h a (ExT cls a) :=
  ⟨⟨oe, vs, e, z, d⟩, ⟨oe, e⟩, fun h1 h2 ⟨o1, v1, a1, a2, a3⟩ k => ⟨o1, v1, k o1 a1, a2, a3⟩⟩
/-- as Inv.landed, the exception's object is tracked too -/
theorem landedT {X : Cx} {pins : List (Addr × Obj)} {σ : St} {H : Hp} {sI s' : Shared} {B : Heap} {a : Addr} {o : HO} (I : Inv X pins σ H sI) (nb : ∀ b o, sI.heap.get? b = some o → b ∉ frs X.stack → B.get? b = some o) (st : B.StaysIn s'.heap) (up : sI.heap.UpToSlots s'.heap) (os : s'.os = sI.os) (ag : AllBare s'.gens)
    (na : H a = none) (ga : sI.heap.get? a = none) (new : ObjOk X.prog X.w (upd H a o) s'.heap a o) : Inv X pins σ (upd H a o) s' := by
  have nf : ∀ b ∈ frs X.stack, ∀ o, sI.heap.get? b = some o → ∃ sl, s'.heap.get? b = some { o with slots := sl } := fun b hb o e =>
    let ⟨_, o2, e2, hd⟩ := I.stack.mem hb
    up b o e (by
      have z : o = o2 := Option.some.inj (e.symm.trans e2)
      rw [z]
      exact hd)
  have ne : ∀ b u, sI.heap.get? b = some u → b ≠ a := fun b u e z => by rw [z, ga] at e; cases e
  have ne2 : ∀ b u, H b = some u → b ≠ a := fun b u e z => by rw [z, na] at e; cases e
  have J := I.call (ch := []) (h' := s'.heap) (g' := s'.gens) (t' := s'.toks) (d' := s'.drawn) (H' := upd H a o)
    ⟨fun b o e _ hb _ => st b o (nb b o e hb), fun b o e _ hb _ => nf b hb o e, fun b u e n _ => (upd_ne (ne b u e)).trans n, fun b o e _ => by
      by_cases hb : b ∈ frs X.stack
      · obtain ⟨sl, q⟩ := nf b hb o e
        exact ⟨_, q⟩
      · exact ⟨o, st b o (nb b o e hb)⟩, fun b xs e => (upd_ne (ne2 b _ e)).trans e, fun b _ _ e => (upd_ne (ne2 b _ e)).trans e, fun b ps e => ⟨#[], by rw [upd_ne (ne2 b _ e), e]; simp⟩⟩
    ((I.inGround nb).laidN st na new) ag (fun _ z => nomatch z)
  obtain ⟨a1, a2, a3, a4, a5⟩ := s'
  have e5 : a5 = sI.os := os
  subst e5
  exact J
theorem suiteT {X : Cx} {pins : List (Addr × Obj)} {σ : St} {H : Hp} {s : Shared} {a : Addr} (I : Inv X pins σ H s) : Inv (X.suite a (X.pn ++ pins)) [] σ H s :=
  ⟨I.ok.suite _ _, I.os, I.bare, I.base, I.loc, I.cell, I.free, I.freeC, fun p hp => I.pin p (by rw [List.append_nil] at hp; exact hp), I.hok, I.len⟩
theorem unsuiteT {X : Cx} {pins pn' : List (Addr × Obj)} {σ : St} {H : Hp} {s : Shared} {a : Addr} (I : Inv (X.suite a (X.pn ++ pins)) pn' σ H s) (ok : X.Ok) : Inv X pins σ H s :=
  ⟨ok, I.os, I.bare, I.base, I.loc, I.cell, I.free, I.freeC, fun p hp => I.pin p (List.mem_append_left _ hp), I.hok, I.len⟩
/-- what the clause 'except x as n' wishes, the exception tracked -/
def wAsT (K : PySem.W.Frag) (c : Value) (i : Nat) (ts : TS) (Wout : WX) (D : Ends) : WX := fun cls d σ H =>
  ∃ b, PySem.W.exmOne K cls c = some b ∧ (b = true → d = none ∧ ∀ a, H a = none → ts { nx := fun σ' H' => D.nx (σ'.set i none) H', rt := D.rt, bk := fun σ' H' => D.bk (σ'.set i none) H', ct := fun σ' H' => D.ct (σ'.set i none) H' } (σ.set i (some (.ref a))) (upd H a (ExT cls a))) ∧
    (b = false → Wout cls d σ H)
section
variable {X : Cx} {x n : Str} {c : Value} {i : Nat} {body suite : List Stmt} {b0 : Stmt} {np pos pos' : Pos} {tb : WX → TS} {ts : TS} {Wout : WX}
/-- an exception's record is none of the frames -/
theorem off_frames {B h : Heap} {l : List Env} {a : Addr} {o : Obj} {vs : Array Value} (ff : h.FunFrames B l) (e : h.get? a = some o) (q : o.data = .fields vs) : a ∉ frs l := fun m => by
  obtain ⟨_, o2, e2, no⟩ := ff.mem m
  rw [e] at e2
  cases e2
  exact no _ q
/-- the class that the clause names, read in the suite's surroundings -/
theorem clause_names {pins : List (Addr × Obj)} {σ : St} {H : Hp} {s : Shared} {a : Addr} (I : Inv (X.suite a (X.pn ++ pins)) [] σ H s) (hc : Names X x c) {Q : Value → Shared → Prop} {E : Value → Shared → Prop} (q : Q c s) :
    wpAny (model X.prog X.w) (X.A.mark (some (.ref a))) (eval (.Name x np) X.env) Q E s := by
  obtain ⟨g, nd, m | ⟨m, bt, nn⟩⟩ := hc
  · exact ld_glob (X := X.suite a (X.pn ++ pins)) I g m q nd
  · exact ld_blt (X := X.suite a (X.pn ++ pins)) I g m bt q nn nd
/-- no clause takes it: on it goes -/
theorem goes_on {pins pins' : List (Addr × Obj)} {σ : St} {H : Hp} {sI s1 : Shared} {B : Heap} {a : Addr} {cls : Value} {d : Option Addr} {D : Ends} (hs : X.stack = X.env :: X.outer) (hf : X.env.frame = some X.env.locals) (tk : Takes X Wout)
    (J : Inv X pins' σ H sI) (nb : ∀ b o, sI.heap.get? b = some o → b ∉ frs X.stack → B.get? b = some o) (fl : HandSPX.FlyingZ B (X.env :: X.outer) a (Zc cls d) s1.heap) (up : sI.heap.UpToSlots s1.heap) (na : H a = none) (os : s1.os = sI.os) (ag : AllBare s1.gens) (w : Wout cls d σ H) :
    wpAny (model X.prog X.w) X.A (handleBy (.ref a) X.env []) (L2.SP X pins D) X.xe s1 := by
  refine wpAny_handleBy_nil ?_
  obtain ⟨_, _, _, oe, vs, t, ot, us, he, hz, hd, h1, _⟩ := id fl
  unfold PySem.passOn
  have last : wpAny (model X.prog X.w) X.A (setFlight (.ref a) X.env.frame) (fun _ z => wpAny (model X.prog X.w) X.A (throw (.ref a) : Sem Flow) (L2.SP X pins D) X.xe z) X.xe s1 := by
    rw [hf]
    exact HandSPX.setFlight_upZ fl fun h2 fl2 up2 => wpAny_throw (tk _ _ ⟨a, B, sI, pins', σ, H, cls, d, rfl, J, nb, up.trans up2, .inr (.inr (by rw [hs]; exact fl2)), na, os, ag, w⟩)
  refine wpAny_bind (wpAny_field he hd h1 ?_)
  have nn : ¬ ((Value.ref t == Value.none) = true) := by simp
  rw [if_neg nn]
  first
    | exact wpAny_bind last
    | exact wpAny_bind (wpAny_pure (wpAny_bind last))
theorem ps_try_asT (hs : X.stack = X.env :: X.outer) (hf : X.env.frame = some X.env.locals) (hN : X.N.Nodup) (hi : X.N[i]? = some n) (hln : X.env.kindOf n = some .local) (hc : Names X x c) (tk : Takes X Wout)
    (hb : ∀ (W : WX) (pn : List (Addr × Obj)) (xe : Value → Shared → Prop), Takes (X.tr pn xe) W → PassesOwn (model X.prog X.w) X.A X.env xe → PSs (X.tr pn xe) body (tb W))
    (hsu : ∀ (a : Addr) (pn : List (Addr × Obj)), PSs (X.suite a pn) (b0 :: suite) ts) :
    PS X (.Try body [.ExceptHandler (some (.Name x np)) (some n) (b0 :: suite) pos'] [] [] pos) (fun D σ H => tb (wAsT X.K c i ts Wout D) D σ H) := by
  refine ⟨fun pins s σ H D I h => wpAny_Try_except ?_⟩
  have ok := I.ok
  have frames : X.A.frames = some (X.env :: X.outer) := by rw [ok.frames, hs]
  let after : Value → Shared → Prop := fun e s1 => wpAny (model X.prog X.w) X.A (noteFrame e X.env) (fun _ s2 => wpAny (model X.prog X.w) X.A (setFlight e none) (fun _ s3 =>
    wpAny (model X.prog X.w) X.A (handleBy e X.env [.ExceptHandler (some (.Name x np)) (some n) (b0 :: suite) pos']) (L2.SP X pins D) X.xe s3) X.xe s2) X.xe s1
  have takes : Takes (X.tr (X.pn ++ pins) after) (wAsT X.K c i ts Wout D) := by
    rintro u s1 ⟨a, B, sI, pins2, σ2, H2, cls, d, rfl, J0, nb, up, sky, na, os, ag, k, hk, yes, no⟩
    have J : Inv X pins σ2 H2 sI := J0.ofTry ok
    rw [show (X.tr (X.pn ++ pins) after).stack = X.env :: X.outer from hs] at sky
    refine Sky.land Zc.steady frames hf sky fun h3 fl3 up3 => ?_
    have J3 : Inv X pins σ2 H2 { s1 with heap := h3 } := J.landed nb fl3.1 (up.trans up3) os ag
    obtain ⟨o3, v3, e3, z3, d3⟩ := fl3.there
    have off := off_frames fl3.2.2.1 e3 d3
    have away : sI.heap.get? a = none := by
      cases q : sI.heap.get? a with
      | none => rfl
      | some u =>
        have z := nb a u q (by rw [show (X.tr (X.pn ++ pins) after).stack = X.env :: X.outer from hs]; exact off)
        rw [fl3.2.1] at z
        cases z
    have cl : PySem.W.Looks (model X.prog X.w) h3 (typeOf (.ref a)) cls := fun A Q E s kp q => wpAny_typeOf_ref (kp _ _ e3) (by rw [z3.1]; exact q)
    refine wpAny_handleBy_cons (codeAny_handlers_test (clause_names (suiteT (a := a) J3) hc ((PySem.W.exm_one (M := model X.prog X.w) J3.kIn cl hk).here ?_))) (by intro q; cases q)
    cases k with
    | false => exact goes_on hs hf tk J nb fl3 (up.trans up3) na os ag (no rfl)
    | true =>
      obtain ⟨rfl, yes2⟩ := yes rfl
      refine codeAny_handlers_suite_as (HandSPX.lands_againZ fl3 fun h4 fl4 up4 => ?_)
      obtain ⟨o4, v4, e4, z4, d4⟩ := fl4.there
      have J4 : Inv X pins σ2 (upd H2 a (ExT cls a)) { s1 with heap := h4 } := landedT J nb fl4.1 ((up.trans up3).trans up4) os ag na away (exT_ok e4 z4 d4)
      refine store_ok (X := X.suite a (X.pn ++ pins)) (v := .ref a) (suiteT (a := a) J4) hN hi (.inl hln) rfl (fun s5 S5 => ?_) (.inr hln)
      refine wpAny_mono ((hsu a (X.pn ++ pins)).run [] s5 _ _ _ S5 (yes2 a na)) (fun f s6 out => ?_) (fun _ _ z => False.elim z)
      have fin : ∀ {σ6 : St} {H6 : Hp} {Q : Shared → Prop}, Inv (X.suite a (X.pn ++ pins)) [] σ6 H6 s6 → (∀ s7, Inv X pins (σ6.set i none) H6 s7 → Q s7) →
          wpAny (model X.prog X.w) X.A (do bindName X.env n .none; unbindBehindTheSuite X.env n pos') (fun _ s7 => Q s7) X.xe s6 := fun S6 hq => gone_ok (unsuiteT S6 ok) hN hi hln hq
      match f, out with
      | .next, ⟨σ6, H6, S6, q6⟩ => exact fin S6 fun s7 J7 => ⟨_, H6, J7, q6⟩
      | .brk, ⟨σ6, H6, S6, q6⟩ => exact fin S6 fun s7 J7 => ⟨_, H6, J7, q6⟩
      | .cont, ⟨σ6, H6, S6, q6⟩ => exact fin S6 fun s7 J7 => ⟨_, H6, J7, q6⟩
      | .ret u, ⟨v6, σ6, H6, S6, r6, q6⟩ => exact fin S6 fun s7 J7 => ⟨v6, _, H6, J7, r6, q6⟩
  refine wpAny_mono ((hb _ (X.pn ++ pins) after takes PassesOwn.looking).run [] s σ H D (I.toTry _) h) (fun f s1 out => ?_) (fun e s1 he => he)
  match f, out with
  | .next, ⟨σ2, H2, J, q⟩ => exact wpAny_execs_nil ⟨σ2, H2, J.ofTry ok, q⟩
  | .brk, ⟨σ2, H2, J, q⟩ => exact ⟨σ2, H2, J.ofTry ok, q⟩
  | .cont, ⟨σ2, H2, J, q⟩ => exact ⟨σ2, H2, J.ofTry ok, q⟩
  | .ret u, ⟨v, σ2, H2, J, r, q⟩ => exact ⟨v, σ2, H2, J.ofTry ok, r, q⟩
end

/-! ## isinstance -/
theorem exT_inst {X : Cx} {pins : List (Addr × Obj)} {σ : St} {H : Hp} {s : Shared} {a C : Addr} (I : Inv X pins σ H s) (h : H a = some (ExT (.ref C) a)) : ∃ oe, PySem.W.InstAt s.heap a oe C none := by
  obtain ⟨⟨oe, vs, hget, hz, hv⟩, _, _⟩ := I.hok a _ h
  obtain ⟨oc, od, oda, osl⟩ := oe
  obtain ⟨h1, h2⟩ := hz
  dsimp only at h1 h2 hv
  subst h1 h2 hv
  exact ⟨_, hget, rfl, rfl, trivial⟩
def rIsX (K : PySem.W.Frag) : List V → Hp → VK → Prop := fun xs H Q => ∃ (a C : Addr) (c : V) (u : Value) (b : Bool), xs = [.ref a, c] ∧ H a = some (ExT (.ref C) a) ∧ ExcC K C ∧ ClsV c u ∧ PySem.W.kitOne K (.ref C) u = some b ∧ Q (.bl b) H
def rIsXT (K : PySem.W.Frag) : List V → Hp → VK → Prop := fun xs H Q => ∃ (a C tp : Addr) (cs : List V) (us : List Value) (b : Bool), xs = [.ref a, .ref tp] ∧ H a = some (ExT (.ref C) a) ∧ ExcC K C ∧ SqT K H tp cs ∧ Paired ClsV cs us ∧ PySem.W.kitAny K (.ref C) us = some b ∧ Q (.bl b) H
section
variable {X : Cx}
theorem call_isX : CallR X (.builtin "isinstance") (rIsX X.K) := by
  intro pins s σ H xs us Q I r h
  obtain ⟨a, C, c, u, b, rfl, ha, hC, k, e, q⟩ := h
  obtain ⟨u1, u2, rfl, r1, r2⟩ := vals2 r
  have e2 := k.eq r2
  subst e2
  cases (show u1 = Value.ref a from r1)
  obtain ⟨oe, J⟩ := exT_inst I ha
  exact PySem.W.kia_one (PySem.W.handS_kitx_exc hC.hg hC.hk hC.hs hC.hd hC.ha hC.hn hC.ht hC.hm) I.kIn J e (fun z => nomatch z) fun tk => ⟨.bl b, H, I.tok tk, rfl, q⟩
theorem call_isXT : CallR X (.builtin "isinstance") (rIsXT X.K) := by
  intro pins s σ H xs us Q I r h
  obtain ⟨a, C, tp, cs, ws, b, rfl, ha, hC, hT, k, e, q⟩ := h
  obtain ⟨u1, u2, rfl, r1, r2⟩ := vals2 r
  cases (show u2 = Value.ref tp from r2)
  cases (show u1 = Value.ref a from r1)
  obtain ⟨oe, J⟩ := exT_inst I ha
  obtain ⟨its, rv, ⟨o, h1, h2, n, h3⟩, _⟩ := I.tuple hT
  have e3 := ClsV.all k rv
  subst e3
  obtain ⟨oc, od, dt, sl⟩ := o
  simp only at h2 h3
  subst h2 h3
  exact PySem.W.kia_tup (PySem.W.handS_kitx_exc hC.hg hC.hk hC.hs hC.hd hC.ha hC.hn hC.ht hC.hm) I.kIn J h1 e (fun z => nomatch z) fun tk => ⟨.bl b, H, I.tok tk, rfl, q⟩
/-- a value's class, asked of data: either an exception or data -/
theorem CallR.or {f : Value} {r r' : List V → Hp → VK → Prop} (h : CallR X f r) (h' : CallR X f r') : CallR X f (fun xs H Q => r xs H Q ∨ r' xs H Q) := fun pins s σ H xs us Q I rr z => by
  rcases z with z | z
  · exact h pins s σ H xs us Q I rr z
  · exact h' pins s σ H xs us Q I rr z
def cIsi (K : PySem.W.Frag) : List V → Hp → VK → Prop := fun xs H Q => rIsi K xs H Q ∨ rIsX K xs H Q
def cIsiT (K : PySem.W.Frag) : List V → Hp → VK → Prop := fun xs H Q => rIsiT K xs H Q ∨ rIsXT K xs H Q
theorem call_isiA : CallR X (.builtin "isinstance") (cIsi X.K) := CallR.or call_isi call_isX
theorem call_isiTA : CallR X (.builtin "isinstance") (cIsiT X.K) := CallR.or call_isiT call_isXT
end
def tyN : PyData → String
  | .none => "NoneType" | .bool _ => "bool" | .int _ => "int" | .str _ => "str" | .list _ => "list" | .tuple _ => "tuple" | .dict _ => "dict"
theorem tyX_of {K : PySem.W.Frag} {H : Hp} {v : V} {d : PyData} (h : Dp K H v d) : TyX K H v (.type (tyN d)) := by
  cases h with
  | non => exact .base .non
  | bl b => exact .base (.bl b)
  | int i => exact .base (.int i)
  | str x => exact .base (.str x)
  | lst h1 h2 =>
    rcases h1 with (h1 | ⟨o, h1⟩) | ⟨_, _, _, h1, h2, _⟩
    · exact .base (.lst h1)
    · exact .base (.frz h1)
    · exact .kList h1 h2
  | tup h1 h2 =>
    rcases h1 with (h1 | ⟨o, h1⟩) | ⟨_, _, _, h1, h2, _⟩
    · exact .base (.tup h1)
    · exact .fTuple h1
    · exact .kTuple h1 h2
/-- an exception as a value -/
def IsEx (C : Addr) : Ty := ⟨fun v F => ∃ a, v = .ref a ∧ F a = some (ExT (.ref C) a), fun s ⟨a, e, h⟩ => ⟨a, e, s _ _ h⟩⟩
/-- a tuple of values -/
def TupT (K : PySem.W.Frag) (Rs : List Ty) : Ty := ⟨fun v F => ∃ a xs, v = .ref a ∧ SqT K F a xs ∧ AllP F Rs xs, fun s ⟨a, xs, e, h1, h2⟩ => ⟨a, xs, e, same_sqT s h1, h2.mono s⟩⟩
section
variable {K : PySem.W.Frag} {G G1 G2 : Sto} {D0 D1 D2 D3 : Own} {te ta tb tc : TE} {tt tu : TT} {R Ra Rb : Ty} {E En : Ends} {F0 F1 : Hp} {t u : TS}
theorem ev_tupT {t : TA} {Rs : List Ty} (h : EvA t G D0 Rs D1) (hl : Rs.length ≤ 100000) : Ev (tTup t) G D0 (TupT K Rs) D1 := fun σ H F hs ss Q q =>
  h σ H F hs ss _ fun vs H1 F1 s1 hs1 r1 => by
    refine ⟨by rw [r1.len]; exact Nat.le_trans hl sizeLine_big, fun p hp => ?_⟩
    have s2 : Same F1 (upd F1 p (.tup vs)) := same_new (hs1.free hp)
    exact q _ _ _ (s1.trans s2) (hs1.frz hp) ⟨p, vs, rfl, SqT.of upd_same, r1.mono s2⟩
theorem ev_isi {d : PyData} {n : String} {b : Bool} (h : Ev te G D0 (D K d) D1) (k : kitB (tyN d) n = some b) : Ev (tCB (cIsi K) (tCons te (tCons (tC (.ty n)) tNil))) G D0 (DB K b) D1 :=
  evCB (evA_cons h (evA_cons (ev_c (R := Is (.ty n)) fun _ => rfl) evA_nil)) fun vs H F hs r Q q => by
    obtain ⟨v, w, rfl, h1, h2⟩ := allP2 r
    have e : w = .ty n := h2
    subst e
    exact .inl ⟨v, .ty n, _, _, b, rfl, .ty n, tyX_of (dp_up hs h1), kit_ty k, q _ H F (Same.refl _) hs (.bl _)⟩
/-- data against an own class -/
theorem ev_isiC {d : PyData} {C : Addr} {b : Bool} (h : Ev te G D0 (D K d) D1) (k : PySem.W.kitOne K (.type (tyN d)) (.ref C) = some b) : Ev (tCB (cIsi K) (tCons te (tCons (tC (.ref C)) tNil))) G D0 (DB K b) D1 :=
  evCB (evA_cons h (evA_cons (ev_c (R := Is (.ref C)) fun _ => rfl) evA_nil)) fun vs H F hs r Q q => by
    obtain ⟨v, w, rfl, h1, h2⟩ := allP2 r
    have e : w = .ref C := h2
    subst e
    exact .inl ⟨v, .ref C, _, _, b, rfl, .own C, tyX_of (dp_up hs h1), k, q _ H F (Same.refl _) hs (.bl _)⟩
theorem ev_isX {C : Addr} {c : V} {u : Value} {b : Bool} (h : Ev te G D0 (IsEx C) D1) (hC : ExcC K C) (hc : ClsV c u) (k : PySem.W.kitOne K (.ref C) u = some b) : Ev (tCB (cIsi K) (tCons te (tCons (tC c) tNil))) G D0 (DB K b) D1 :=
  evCB (evA_cons h (evA_cons (ev_c (R := Is c) fun _ => rfl) evA_nil)) fun vs H F hs r Q q => by
    obtain ⟨v, w, rfl, ⟨a, e1, h1⟩, h2⟩ := allP2 r
    have e : w = c := h2
    subst e e1
    exact .inr ⟨a, C, w, u, b, rfl, hs.sub _ _ h1, hC, hc, k, q _ H F (Same.refl _) hs (.bl _)⟩
/-- a written tuple of own classes -/
def tCls : List Addr → TA
  | [] => tNil
  | C :: r => tCons (tC (.ref C)) (tCls r)
theorem evA_cls : ∀ {Cs : List Addr}, EvA (tCls Cs) G D0 (Cs.map fun C => Is (.ref C)) D0
  | [] => evA_nil
  | C :: r => evA_cons (ev_c (R := Is (.ref C)) fun _ => rfl) evA_cls
theorem cls_pair {F : Hp} : ∀ {Cs : List Addr} {cs : List V}, AllP F (Cs.map fun C => Is (.ref C)) cs → Paired ClsV cs (Cs.map Value.ref)
  | [], _, h => by cases h; exact .nil
  | C :: r, _, h => by
    cases h with
    | cons h1 h2 =>
      cases h1
      exact .cons (.own C) (cls_pair h2)
theorem ev_isXT {C : Addr} {Cs : List Addr} {b : Bool} (h : Ev te G D0 (IsEx C) D1) (hC : ExcC K C) (hl : Cs.length ≤ 100000) (k : PySem.W.kitAny K (.ref C) (Cs.map Value.ref) = some b) : Ev (tCB (cIsiT K) (tCons te (tCons (tTup (tCls Cs)) tNil))) G D0 (DB K b) D1 :=
  evCB (evA_cons h (evA_cons (ev_tupT (K := K) evA_cls (by simpa using hl)) evA_nil)) fun vs H F hs r Q q => by
    obtain ⟨v, w, rfl, ⟨a, e1, h1⟩, ⟨tp, cs, e2, h2, h3⟩⟩ := allP2 r
    subst e1 e2
    exact .inr ⟨a, C, tp, cs, Cs.map Value.ref, b, rfl, hs.sub _ _ h1, hC, sqT_up hs h2, cls_pair h3, k, q _ H F (Same.refl _) hs (.bl _)⟩

/-! ## raise, try -/
/-- raise X('..') -/
def tRaiseX (C : Addr) (X : XK) : TS := fun _ _ H => X (.ref C) none H
theorem go_raise {C : Addr} {X : XK} (h : GoX X F0 (.ref C) D0) : Go (tRaiseX C X E) F0 G D0 := fun σ H F s hs ss => h H F s hs
/-- in a try's body: W is what the clauses wish -/
def tRaiseW (C : Addr) (W : WX) : TS := fun _ σ H => W (.ref C) none σ H
/-- a call that gives something -/
theorem ev_callS {T : Type} {args : T → List Ty} {pre : T → Prop} {out : T → Out} {X : St → XK} {t : TA} (x : T) (h : EvA t G D0 (args x) D1) (hp : pre x) (ho : out x = .ok R) : Ev (tCallS (fsp args pre out) X t) G D0 R D1 := fun σ H F hs ss Q q =>
  h σ H F hs ss _ fun vs H1 F1 s1 hs1 r1 => ⟨x, F1, D1, hs1, r1, hp, by rw [ho]; exact fun v H2 F2 s2 hs2 r2 => q v H2 F2 (s1.trans s2) hs2 r2⟩
/-- a call that raises: the whole statement is done -/
def EvX (te : TE) (G : Sto) (D : Own) (P : St → Hp → Prop) (F0 : Hp) : Prop := ∀ σ H F, Same F0 F → HS D H F → SS F G σ → ∀ Q : VK, te σ H Q
theorem evX_callS {T : Type} {args : T → List Ty} {pre : T → Prop} {out : T → Out} {W : WX} {t : TA} {c : Value} (x : T) (h : EvA t G D0 (args x) D1) (hp : pre x) (ho : out x = .err c) (hW : Go (W c none) F0 G D1) {P : St → Hp → Prop} : EvX (tCallS (fsp args pre out) (WE W) t) G D0 P F0 := fun σ H F s hs ss Q =>
  h σ H F hs ss _ fun vs H1 F1 s1 hs1 r1 => ⟨x, F1, D1, hs1, r1, hp, by rw [ho]; exact fun H2 F2 s2 hs2 => hW σ H2 F2 ((s.trans s1).trans s2) hs2 ((ss.mono s1).mono s2)⟩
theorem go_dropX {P : St → Hp → Prop} (h : EvX te G D0 P F0) : Go (tDrop te E) F0 G D0 := fun σ H F s hs ss => h σ H F s hs ss _
theorem go_asgX {P : St → Hp → Prop} {g : TG} (h : EvX te G D0 P F0) : Go (tAsg te g E) F0 G D0 := fun σ H F s hs ss => h σ H F s hs ss _
/-- the clause takes it -/
theorem go_wAsT {C : Addr} {c : Value} {i : Nat} {ts : TS} {Wout : WX} (e : PySem.W.exmOne K (.ref C) c = some true)
    (h : Go (ts { nx := fun σ' H' => E.nx (σ'.set i none) H', rt := E.rt, bk := fun σ' H' => E.bk (σ'.set i none) H', ct := fun σ' H' => E.ct (σ'.set i none) H' }) F0 (G.set i (some (IsEx C))) D0) : Go (wAsT K c i ts Wout E (.ref C) none) F0 G D0 := fun σ H F s hs ss =>
  ⟨true, e, fun _ => ⟨rfl, fun a ha => h _ _ (upd F a (ExT (.ref C) a)) (s.trans (same_new (hs.free ha))) (hs.frz ha) ((ss.mono (same_new (hs.free ha))).set (R := IsEx C) ⟨a, rfl, upd_same⟩ i)⟩, fun z => nomatch z⟩
theorem go_unset {P : St → Hp → Prop} {i : Nat} (h : Go P F0 (G.set i none) D0) : Go (fun σ H => P (σ.set i none) H) F0 G D0 := fun σ H F s hs ss => h _ H F s hs (ss.unset i)
end
end TL

set_option Elab.async false
set_option linter.all false
set_option maxRecDepth 100000
set_option maxHeartbeats 1000000
namespace TL
open PySem PySem.Spec L2
/-! ## operators that take what comes -/
def CDivA (_ j : Int) : Prop := j ≠ 0 ∧ j.natAbs.log2 < 9000
abbrev rAddS : R2 := fun x y H Q => ∃ i j, x = .str i ∧ y = .str j ∧ i.length + j.length ≤ sizeLine ∧ Q (.str (i ++ j)) H
abbrev rAddI : R2 := rI0 fun i j => .int (i + j)
abbrev rSubI : R2 := rI0 fun i j => .int (i - j)
abbrev rMulI : R2 := rI CMulW fun i j => .int (i * j)
abbrev rDivI : R2 := rI CDivA fun i j => .int (i.fdiv j)
abbrev rModI : R2 := rI (fun _ j => j ≠ 0) fun i j => .int (i.fmod j)
abbrev rPowI : R2 := rI CPow fun i j => .int (i ^ j.toNat)
abbrev rLtI : R2 := rI0 fun i j => .bl (decide (i < j))
abbrev rLeI : R2 := rI0 fun i j => .bl (decide (i ≤ j))
abbrev rGtI : R2 := rI0 fun i j => .bl (decide (j < i))
abbrev rGeI : R2 := rI0 fun i j => .bl (decide (j ≤ i))
/-- t + u, t empty: u itself -/
def rCatN (K : PySem.W.Frag) : R2 := fun x y H Q => ∃ a b ys, x = .ref a ∧ y = .ref b ∧ SqT K H a [] ∧ SqT K H b ys ∧ Q (.ref b) H
def qAdd (K : PySem.W.Frag) : R2 := fun x y H Q => rAddI x y H Q ∨ rAddS x y H Q ∨ rCat x y H Q ∨ rCatT K x y H Q ∨ rCatN K x y H Q
def qMul (K : PySem.W.Frag) : R2 := fun x y H Q => rMulI x y H Q ∨ rRep x y H Q
def qEq (K : PySem.W.Frag) : R2 := fun x y H Q => rEq x y H Q ∨ rEqD K x y H Q
def qNe (K : PySem.W.Frag) : R2 := fun x y H Q => rNe x y H Q ∨ rNeD K x y H Q
def qNegI : V → Hp → VK → Prop := rU fun i => .int (-i)
section
variable {X : Cx}
theorem op_div : OpR X (binaryOp .FloorDiv) rDivI := opI fun i j _ _ _ _ _ hc q => PyProof.Rows.floordiv_int hc.1 q (.inl (PyProof.noPylong_of_log2 hc.2))
theorem op_catN : OpR X (binaryOp .Add) (rCatN X.K) := by
  intro pins s σ H x y v u Q I rx ry h
  obtain ⟨a, b, ys, rfl, rfl, ha, hb, q⟩ := h
  cases rx
  cases ry
  obtain ⟨its, r1, p1, _⟩ := I.tuple ha
  obtain ⟨its2, r2, p2, _⟩ := I.tuple hb
  have none : its = [] := r1.nil_iff.mpr rfl
  obtain ⟨⟨c1, d1, t1, l1⟩, g1, k1, n1, m1⟩ := id p1
  obtain ⟨⟨c2, d2, t2, l2⟩, g2, k2, n2, m2⟩ := id p2
  simp only at k1 m1 k2 m2
  subst k1 m1 k2 m2
  exact concat_meets ⟨_, g1, rfl⟩ ⟨_, g2, rfl⟩ PySem.noFill_tuple_add PySem.seq_tuple_add PySem.F.slot_tuple_add PySem.F.entry_tuple_add (PySem.F.args_tuple_add_2 _ _)
    (PyProof.Rows.tuple_addW0 a b its.toArray its2.toArray n1 n2 d1 d2 l1 l2 (by simp [none])) ⟨g1, g2, ⟨.ref b, H, I, rfl, q⟩⟩
theorem op_addU : OpR X (binaryOp .Add) (qAdd X.K) := op_add.or (op_add_str.or (op_cat.or (op_catT.or op_catN)))
theorem op_mulU : OpR X (binaryOp .Mult) (qMul X.K) := op_mulW.or op_rep
theorem op_eqU (hu : X.A.units + 64 < cLine) : OpR X (compareOp .Eq) (qEq X.K) := op_eq.or (op_eqD hu)
theorem op_neU (hu : X.A.units + 64 < cLine) : OpR X (compareOp .NotEq) (qNe X.K) := op_ne.or (op_neD hu)
theorem un_negU : UnR X (unaryOp .USub) qNegI := un_neg
end
section
variable {K : PySem.W.Frag} {G G1 G2 : Sto} {D0 D1 D2 D3 : Own} {te ta tb tc : TE} {tt tu : TT} {R Ra Rb : Ty}
theorem ev_orL {r r' : R2} (h : Ev (tOp r ta tb) G D0 R D1) : Ev (tOp (fun x y H Q => r x y H Q ∨ r' x y H Q) ta tb) G D0 R D1 → True := fun _ => trivial
theorem ev2l {r r' : R2} (ha : Ev ta G D0 Ra D1) (hb : Ev tb G D1 Rb D2) (hr : ∀ x y H F, HS D2 H F → Ra.p x F → Rb.p y F → ∀ Q : VK, (∀ v H' F', Same F F' → HS D3 H' F' → R.p v F' → Q v H') → r x y H Q ∨ r' x y H Q) : Ev (tOp (fun x y H Q => r x y H Q ∨ r' x y H Q) ta tb) G D0 R D3 := ev2 ha hb hr
theorem ev_add {i j : Int} (ha : Ev ta G D0 (DI K i) D1) (hb : Ev tb G D1 (DI K j) D2) : Ev (tOp (qAdd K) ta tb) G D0 (DI K (i + j)) D2 :=
  ev2 ha hb fun x y H F hs rx ry Q q => by
    rw [dp_int rx, dp_int ry]
    exact .inl ⟨i, j, rfl, rfl, q _ H F (Same.refl _) hs (.int _)⟩
theorem ev_addS {i j : Str} (ha : Ev ta G D0 (DS K i) D1) (hb : Ev tb G D1 (DS K j) D2) (hl : i.length + j.length ≤ 100000) : Ev (tOp (qAdd K) ta tb) G D0 (DS K (i ++ j)) D2 :=
  ev2 ha hb fun x y H F hs rx ry Q q => by
    rw [dp_str rx, dp_str ry]
    exact .inr (.inl ⟨i, j, rfl, rfl, Nat.le_trans hl sizeLine_big, q _ H F (Same.refl _) hs (.str _)⟩)
theorem ev_sub {i j : Int} (ha : Ev ta G D0 (DI K i) D1) (hb : Ev tb G D1 (DI K j) D2) : Ev (tOp rSubI ta tb) G D0 (DI K (i - j)) D2 := ev_opI0 ha hb
theorem ev_mul {i j : Int} (ha : Ev ta G D0 (DI K i) D1) (hb : Ev tb G D1 (DI K j) D2) (c : CMulW i j) : Ev (tOp (qMul K) ta tb) G D0 (DI K (i * j)) D2 :=
  ev2 ha hb fun x y H F hs rx ry Q q => by
    rw [dp_int rx, dp_int ry]
    exact .inl ⟨i, j, rfl, rfl, c, q _ H F (Same.refl _) hs (.int _)⟩
theorem ev_div {i j : Int} (ha : Ev ta G D0 (DI K i) D1) (hb : Ev tb G D1 (DI K j) D2) (c : CDivA i j) : Ev (tOp rDivI ta tb) G D0 (DI K (i.fdiv j)) D2 := ev_opI ha hb c
theorem ev_mod {i j : Int} (ha : Ev ta G D0 (DI K i) D1) (hb : Ev tb G D1 (DI K j) D2) (c : j ≠ 0) : Ev (tOp rModI ta tb) G D0 (DI K (i.fmod j)) D2 := ev_opI (C := fun _ j => j ≠ 0) ha hb c
theorem ev_pow {i j : Int} (ha : Ev ta G D0 (DI K i) D1) (hb : Ev tb G D1 (DI K j) D2) (c : CPow i j) : Ev (tOp rPowI ta tb) G D0 (DI K (i ^ j.toNat)) D2 := ev_opI ha hb c
theorem ev_neg {i : Int} (ha : Ev ta G D0 (DI K i) D1) : Ev (tUn qNegI ta) G D0 (DI K (-i)) D1 := ev_unI ha
theorem ev_lt {i j : Int} (ha : Ev ta G D0 (DI K i) D1) (hb : Ev tb G D1 (DI K j) D2) : Ev (tOp rLtI ta tb) G D0 (DB K (decide (i < j))) D2 := ev_opB0 ha hb
theorem ev_le {i j : Int} (ha : Ev ta G D0 (DI K i) D1) (hb : Ev tb G D1 (DI K j) D2) : Ev (tOp rLeI ta tb) G D0 (DB K (decide (i ≤ j))) D2 := ev_opB0 ha hb
theorem ev_gt {i j : Int} (ha : Ev ta G D0 (DI K i) D1) (hb : Ev tb G D1 (DI K j) D2) : Ev (tOp rGtI ta tb) G D0 (DB K (decide (j < i))) D2 := ev_opB0 (g := fun i j => decide (j < i)) ha hb
theorem ev_ge {i j : Int} (ha : Ev ta G D0 (DI K i) D1) (hb : Ev tb G D1 (DI K j) D2) : Ev (tOp rGeI ta tb) G D0 (DB K (decide (j ≤ i))) D2 := ev_opB0 (g := fun i j => decide (j ≤ i)) ha hb
theorem ev_inl {r r' : R2} (h : Ev (tOp r ta tb) G D0 R D1) (m : True := trivial) : Ev (tOp (fun x y H Q => r x y H Q ∨ r' x y H Q) ta tb) G D0 R D1 → True := fun _ => trivial
theorem eq_I {i j : Int} (ha : Ev ta G D0 (DI K i) D1) (hb : Ev tb G D1 (DI K j) D2) : Ev (tOp (qEq K) ta tb) G D0 (DB K (decide (i = j))) D2 :=
  ev2 ha hb fun x y H F hs rx ry Q q => by
    rw [dp_int rx, dp_int ry]
    refine .inl ⟨rfl, ?_⟩
    rw [dec_int, Bool.beq_eq_decide_eq]
    exact q _ H F (Same.refl _) hs (.bl _)
theorem ne_I {i j : Int} (ha : Ev ta G D0 (DI K i) D1) (hb : Ev tb G D1 (DI K j) D2) : Ev (tOp (qNe K) ta tb) G D0 (DB K (!decide (i = j))) D2 :=
  ev2 ha hb fun x y H F hs rx ry Q q => by
    rw [dp_int rx, dp_int ry]
    refine .inl ⟨rfl, ?_⟩
    rw [dec_int, Bool.beq_eq_decide_eq]
    exact q _ H F (Same.refl _) hs (.bl _)
theorem eq_S {i j : Str} (ha : Ev ta G D0 (DS K i) D1) (hb : Ev tb G D1 (DS K j) D2) : Ev (tOp (qEq K) ta tb) G D0 (DB K (decide (i = j))) D2 :=
  ev2 ha hb fun x y H F hs rx ry Q q => by
    rw [dp_str rx, dp_str ry]
    refine .inl ⟨rfl, ?_⟩
    have e : decide (V.str i = V.str j) = decide (i = j) := by simp
    rw [e]
    exact q _ H F (Same.refl _) hs (.bl _)
theorem ne_S {i j : Str} (ha : Ev ta G D0 (DS K i) D1) (hb : Ev tb G D1 (DS K j) D2) : Ev (tOp (qNe K) ta tb) G D0 (DB K (!decide (i = j))) D2 :=
  ev2 ha hb fun x y H F hs rx ry Q q => by
    rw [dp_str rx, dp_str ry]
    refine .inl ⟨rfl, ?_⟩
    have e : decide (V.str i = V.str j) = decide (i = j) := by simp
    rw [e]
    exact q _ H F (Same.refl _) hs (.bl _)
theorem eq_B {i j : Bool} (ha : Ev ta G D0 (DB K i) D1) (hb : Ev tb G D1 (DB K j) D2) : Ev (tOp (qEq K) ta tb) G D0 (DB K (i == j)) D2 :=
  ev2 ha hb fun x y H F hs rx ry Q q => by
    rw [dp_bl rx, dp_bl ry]
    refine .inl ⟨rfl, ?_⟩
    rw [dec_bl]
    exact q _ H F (Same.refl _) hs (.bl _)
theorem ne_B {i j : Bool} (ha : Ev ta G D0 (DB K i) D1) (hb : Ev tb G D1 (DB K j) D2) : Ev (tOp (qNe K) ta tb) G D0 (DB K (!(i == j))) D2 :=
  ev2 ha hb fun x y H F hs rx ry Q q => by
    rw [dp_bl rx, dp_bl ry]
    refine .inl ⟨rfl, ?_⟩
    rw [dec_bl]
    exact q _ H F (Same.refl _) hs (.bl _)
theorem eq_D {d e : PyData} (ha : Ev ta G D0 (D K d) D1) (hb : Ev tb G D1 (D K e) D2) (sd : SeqAt.shaped d = true) (se : SeqAt.shaped e = true) : Ev (tOp (qEq K) ta tb) G D0 (DB K (PyData.eqv d e)) D2 :=
  ev2 ha hb fun x y H F hs rx ry Q q => .inr ⟨d, e, dp_up hs rx, dp_up hs ry, sd, se, q _ H F (Same.refl _) hs (.bl _)⟩
theorem ne_D {d e : PyData} (ha : Ev ta G D0 (D K d) D1) (hb : Ev tb G D1 (D K e) D2) (sd : SeqAt.shaped d = true) (se : SeqAt.shaped e = true) : Ev (tOp (qNe K) ta tb) G D0 (DB K (!PyData.eqv d e)) D2 :=
  ev2 ha hb fun x y H F hs rx ry Q q => .inr ⟨d, e, dp_up hs rx, dp_up hs ry, sd, se, q _ H F (Same.refl _) hs (.bl _)⟩
/-- items, by the rule for all sequences -/
theorem ix_T {ds : List PyData} {i : Int} {d : PyData} (ha : Ev ta G D0 (D K (.tuple ds)) D1) (hb : Ev tb G D1 (DI K i) D2) (e : atI ds i = some d) : Ev (tOp (rIx K) ta tb) G D0 (D K d) D2 :=
  ev2 ha hb fun x y H F hs rx ry Q q => by
    obtain ⟨a, xs, rfl, h1, h2⟩ := dp_tup rx
    rw [dp_int ry]
    obtain ⟨v, e1, e2⟩ := atI_map h2 e
    exact .inr (.inl ⟨a, xs, i, v, rfl, rfl, sqT_up hs h1, e1, q _ H F (Same.refl _) hs e2⟩)
theorem ix_L {ds : List PyData} {i : Int} {d : PyData} (ha : Ev ta G D0 (D K (.list ds)) D1) (hb : Ev tb G D1 (DI K i) D2) (e : atI ds i = some d) : Ev (tOp (rIx K) ta tb) G D0 (D K d) D2 :=
  ev2 ha hb fun x y H F hs rx ry Q q => by
    obtain ⟨a, xs, rfl, h1, h2⟩ := dp_lst rx
    rw [dp_int ry]
    obtain ⟨v, e1, e2⟩ := atI_map h2 e
    exact .inl ⟨a, xs, i, v, rfl, rfl, sqL_up hs h1, e1, q _ H F (Same.refl _) hs e2⟩
theorem ix_O {ds : List PyData} {i : Int} {d : PyData} {k : Nat} {a : Addr} (ha : Ev ta G D0 (Is (.ref a)) D1) (hb : Ev tb G D1 (DI K i) D2) (hk : D2[k]? = some (a, OL K ds)) (e : atI ds i = some d) : Ev (tOp (rIx K) ta tb) G D0 (D K d) D2 :=
  ev2 ha hb fun x y H F hs rx ry Q q => by
    have ex : x = .ref a := rx
    subst ex
    rw [dp_int ry]
    obtain ⟨o, ho, xs, rfl, h2⟩ := hs.at hk
    obtain ⟨v, e1, e2⟩ := atI_map h2 e
    exact .inl ⟨a, xs, i, v, rfl, rfl, SqL.of ho, e1, q _ H F (Same.refl _) hs e2⟩
end

/-! ## defs by name -/
structure Fo (P : Program) (w : World) (K : PySem.W.Frag) (mg : Str → Option Value) (base : Heap) (x : Str) (ps : List Str) (dvs : List V) (k : Nat) (sp : Sp) : Prop where
  ex : ∃ f fd ds, FnOk P w K mg base (L2.CX P w) k f fd ps sp ∧ mg x = some (.ref f) ∧ PySem.W.keepIn K (.ref f) = true ∧ Binds K fd ps ds ∧ Vals dvs ds
section
variable {X : Cx} {x : Str} {ps : List Str} {dvs : List V} {k : Nat} {sp : Sp} {t : TA} {e : Expr} {es : List Expr} {p pos : Pos} {EX : XK} {W : WX}
theorem pe_callF (F : Fo X.prog X.w X.K X.mg X.base x ps dvs k sp) (hr : Room k X.A) (hx : Passes (L2.CX X.prog X.w) X EX) (ha : PA X (e :: es) t) (hg : Gl X x := by rfl) (hdb : (x == ("__debug__" : Str)) = false := by decide)
    (he : starEach (e :: es) X.env = (false, eval e X.env) :: starEach es X.env := by rfl) (hpl : (backTo pos (starEach es X.env)).any (·.1) = false := by rfl) : PE X (.Call (.Name x p) (e :: es) [] pos) (tCall sp dvs EX t) := by
  obtain ⟨f, fd, ds, G, hm, hk, hb, hd⟩ := F.ex
  exact pe_call G hr hg hm hk hb hd hx ha hdb he hpl
def tCallSD (sp : Sp) (dvs : List V) (E : St → XK) (t : TA) : TE := fun σ H Q => t σ H fun vs H1 => sp (vs ++ dvs) H1 Q (E σ)
theorem pe_callFS (F : Fo X.prog X.w X.K X.mg X.base x ps dvs k sp) (hr : Room k X.A) (tk : Takes X W) (ha : PA X (e :: es) t) (hg : Gl X x := by rfl) (hdb : (x == ("__debug__" : Str)) = false := by decide)
    (he : starEach (e :: es) X.env = (false, eval e X.env) :: starEach es X.env := by rfl) (hpl : (backTo pos (starEach es X.env)).any (·.1) = false := by rfl) : PE X (.Call (.Name x p) (e :: es) [] pos) (tCallSD sp dvs (WE W) t) := by
  obtain ⟨f, fd, ds, FF, hm, hk, hb, hd⟩ := F.ex
  refine ⟨fun pins s σ H Q I h => ?_⟩
  refine wpAny_Call_Name_kw (ld_glob I hg hm ?_ hdb)
  refine PySem.W.callWith_K (h₀ := X.base) I.ok.mod.kin hk (thn (ha.run pos pins s σ H _ I h) fun us s1 ⟨vs, H1, I1, r, q⟩ => ⟨I1.kIn, ?_⟩) he hpl
  have r2 : Vals (vs ++ dvs) (us ++ ds) := r.append hd
  have hl : (us ++ ds).length = ps.length := by rw [← r2.length]; exact FF.len _ _ _ _ q
  refine wpAny_call (codeAny_mono (FF.run X.A X.stack s1 H1 ⟨us, []⟩ (us ++ ds) (vs ++ dvs) Q (WE W σ) hr I1.env0 (hb s1 us I1.kIn hl) r2 q) fun r s' hq => ?_)
  cases r with
  | error e => exact passAt tk σ pins H1 s1 e s' I1 hq
  | ok fl =>
    cases fl with
    | ret u => exact I1.after hq
    | next => exact False.elim hq
    | brk => exact False.elim hq
    | cont => exact False.elim hq
end
section
variable {K : PySem.W.Frag} {G G1 G2 : Sto} {D0 D1 D2 D3 : Own} {te ta tb tc : TE} {R Ra Rb : Ty} {E : Ends} {F0 F1 : Hp}
theorem ev_callSD {T : Type} {args : T → List Ty} {pre : T → Prop} {out : T → Out} {X : St → XK} {t : TA} (x : T) (h : EvA t G D0 (args x) D1) (hp : pre x) (ho : out x = .ok R) : Ev (tCallSD (fsp args pre out) [] X t) G D0 R D1 := fun σ H F hs ss Q q =>
  h σ H F hs ss _ fun vs H1 F1 s1 hs1 r1 => ⟨x, F1, D1, hs1, by rw [List.append_nil]; exact r1, hp, by rw [ho]; exact fun v H2 F2 s2 hs2 r2 => q v H2 F2 (s1.trans s2) hs2 r2⟩
theorem evX_callSD {T : Type} {args : T → List Ty} {pre : T → Prop} {out : T → Out} {W : WX} {t : TA} {c : Value} (x : T) (h : EvA t G D0 (args x) D1) (hp : pre x) (ho : out x = .err c) (hW : Go (W c none) F0 G D1) {P : St → Hp → Prop} : EvX (tCallSD (fsp args pre out) [] (WE W) t) G D0 P F0 := fun σ H F s hs ss Q =>
  h σ H F hs ss _ fun vs H1 F1 s1 hs1 r1 => ⟨x, F1, D1, hs1, by rw [List.append_nil]; exact r1, hp, by rw [ho]; exact fun H2 F2 s2 hs2 => hW σ H2 F2 ((s.trans s1).trans s2) hs2 ((ss.mono s1).mono s2)⟩
end
/-- a def of the text by its facts -/
theorem fo_mk {P : Program} {w : World} {K : PySem.W.Frag} {mg : Str → Option Value} {base : Heap} {x : Str} {ps : List Str} {k : Nat} {sp : Sp} {f : Addr} {fd : FuncData} {name qual : Str} {params : Arguments} {body : List Stmt} {scope : Scope}
    (F : FunD K name qual params body scope [] [] f fd) (hm : mg x = some (.ref f)) (ok : FnOk P w K mg base (L2.CX P w) k f fd ps sp)
    (h : ∀ (kV doc pm : Value) (an : Option Addr) (cdv ct : Value) (us : List Value), us.length = ps.length → bindArgs (PySem.W.fnOf name qual params body scope .none kV doc pm an cdv ct) ⟨us, []⟩ = pure (ps.zip us)) : Fo P w K mg base x ps [] k sp :=
  ⟨f, fd, [], ok, hm, F.kp, FunD.bindsN F h, .nil⟩
/-- .. called with n values, defaults behind the first j fill up -/
theorem fo_mkD {P : Program} {w : World} {K : PySem.W.Frag} {mg : Str → Option Value} {base : Heap} {x : Str} {ps : List Str} {k : Nat} {sp : Sp} {f : Addr} {fd : FuncData} {name qual : Str} {params : Arguments} {body : List Stmt} {scope : Scope} {dvs : List V}
    (F : FunD K name qual params body scope dvs [] f fd) (hm : mg x = some (.ref f)) (ok : FnOk P w K mg base (L2.CX P w) k f fd ps sp) (n j : Nat) (hd : dvs ≠ []) (hn : n + (dvs.length - j) = ps.length)
    (h : ∀ (T : Addr) (kV doc pm : Value) (an : Option Addr) (cdv ct : Value) (us its : List Value), us.length = n → its.length = dvs.length →
      ∃ k, bindArgs (PySem.W.fnOf name qual params body scope (.ref T) kV doc pm an cdv ct) ⟨us, []⟩ = seqItems? (.ref T) >>= k ∧ k (some its.toArray) = pure (ps.zip (us ++ its.drop j))) : Fo P w K mg base x ps (dvs.drop j) k sp := by
  obtain ⟨ds, h1, h2⟩ := FunD.binds1 F n j hd hn h
  exact ⟨f, fd, ds, ok, hm, F.kp, h2, h1⟩
end TL

set_option Elab.async false
set_option linter.all false
set_option maxRecDepth 100000
set_option maxHeartbeats 1000000
namespace TL
open PySem PySem.Spec L2
/-! ## short forms for the printed terms -/
section
variable {X : Cx} {x : Str} {pos : Pos}
theorem pe_globI {i : Int} (hg : Gl X x) (hm : ∃ t, X.mg x = some (.int i t)) (hd : (x == ("__debug__" : Str)) = false := by decide) : PE X (.Name x pos) (tC (.int i)) := by
  obtain ⟨t, h⟩ := hm
  exact pe_glob hg h ⟨t, rfl⟩ hd
theorem pe_globS {i : Str} (hg : Gl X x) (hm : ∃ t, X.mg x = some (.str i t)) (hd : (x == ("__debug__" : Str)) = false := by decide) : PE X (.Name x pos) (tC (.str i)) := by
  obtain ⟨t, h⟩ := hm
  exact pe_glob hg h ⟨t, rfl⟩ hd
/-- a list or a tuple, whichever it turns out to be -/
def iLT (K : PySem.W.Frag) (tl : TE) : TI := fun σ H R => tl σ H fun x H1 => ∃ a, x = .ref a ∧ ((∃ xs, SqL K H1 a xs) ∧ R (Itl K a) H1 ∨ (∃ xs, SqT K H1 a xs) ∧ R (Itt K a) H1)
theorem pi_lt {tg l : Expr} {tl : TE} (hl : PE X l tl) : PI X tg l (iLT X.K tl) := by
  refine ⟨fun pins s σ H R I h => ?_⟩
  refine thn (hl.run pins s σ H _ I h) fun v s1 ⟨x, H1, I1, r1, q1⟩ => ?_
  obtain ⟨a, e, q1⟩ := q1
  subst e
  cases r1
  rcases q1 with ⟨⟨xs, hq⟩, q⟩ | ⟨⟨xs, hq⟩, q⟩
  · obtain ⟨its, rv, p, hz⟩ := I1.list hq
    refine wpAny_pyIter_list p.isList ?_
    refine ⟨s1.heap.objs.size, [s1.heap.objs.size], _, _, H1, rfl, I1.kept (t' := s1.toks) fun b o e => Heap.get?_push_of_some _ e, turn_list a _, ⟨_, Heap.get?_push_size _ rfl, rfl, rfl⟩, fun b hb => ?_, q⟩
    have e : b = s1.heap.objs.size := by simpa using hb
    subst e
    exact I1.fpOk (Nat.le_refl _) (I1.hok.fresh (Nat.le_refl _))
  · obtain ⟨its, rv, p, hz⟩ := I1.tuple hq
    refine wpAny_pyIter_tuple (show s1.heap.IsTuple a its.toArray from p) ?_
    refine ⟨s1.heap.objs.size, [s1.heap.objs.size], _, _, H1, rfl, I1.kept (t' := s1.toks) fun b o e => Heap.get?_push_of_some _ e, turn_tuple a _, ⟨_, Heap.get?_push_size _ rfl, rfl, rfl⟩, fun b hb => ?_, q⟩
    have e : b = s1.heap.objs.size := by simpa using hb
    subst e
    exact I1.fpOk (Nat.le_refl _) (I1.hok.fresh (Nat.le_refl _))
def iSeq (K : PySem.W.Frag) (tl : TE) : TI := fun σ H R => iList K tl σ H R ∨ iTup K tl σ H R ∨ iLT K tl σ H R
theorem pi_seq {tg l : Expr} {tl : TE} (hl : PE X l tl) : PI X tg l (iSeq X.K tl) := ⟨fun pins s σ H R I h => by
  rcases h with h | h | h
  · exact (pi_list hl).run pins s σ H R I h
  · exact (pi_tup hl).run pins s σ H R I h
  · exact (pi_lt hl).run pins s σ H R I h⟩
/-- what is known of an own error's class -/
structure ExOk (K : PySem.W.Frag) (C : Addr) : Prop where
  x : PySem.W.excIn K C He.veBase "ValueError.__new__" = true
  k : PySem.W.keepIn K (.ref C) = true
  b : PySem.W.subIn K (.ref C) (.type "BaseException") = some true
  t : PySem.W.typeIn K (.ref C) = some (.type "type")
  c : ExcC K C
theorem ExOk.pmk {C : Addr} {m : Str} {j : Nat} {p p2 : Pos} (o : ExOk X.K C) (gC : X.mg x = some (.ref C)) (hg : Gl X x) (hdb : (x == ("__debug__" : Str)) = false := by decide) : PMk X (.Call (.Name x p) [.Constant (.str m) j p2] [] pos) (fun _ H Q => Q (.ref C) none H) :=
  pmk_own PySem.F.excBase_ValueError o.x gC o.k (raises_own o.b o.t) hg hdb
theorem ps_raiseX {C : Addr} {e : Expr} {EX : XK} (hc : X.calm = true) (tk : Takes X (fun cls d _ H => EX cls d H)) (he : PMk X e (fun _ H Q => Q (.ref C) none H)) : PS X (.Raise (some e) none pos) (tRaiseX C EX) := ps_raise hc tk he
theorem ps_raiseW {C : Addr} {e : Expr} {W : WX} (hc : X.calm = true) (tk : Takes X W) (he : PMk X e (fun _ H Q => Q (.ref C) none H)) : PS X (.Raise (some e) none pos) (tRaiseW C W) := ps_raise hc tk he
def tTryAs (K : PySem.W.Frag) (c : Value) (i : Nat) (tb : WX → TS) (ts : TS) (Wout : WX) : TS := fun D σ H => tb (wAsT K c i ts Wout D) D σ H
theorem ps_tryAs {n : Str} {c : Value} {i : Nat} {body suite : List Stmt} {b₀ : Stmt} {np pos' : Pos} {tb : WX → TS} {ts : TS} {Wout : WX} (hs : X.stack = X.env :: X.outer) (hf : X.env.frame = some X.env.locals) (hN : X.N.Nodup) (hi : X.N[i]? = some n) (hln : X.env.kindOf n = some .local) (hc : Names X x c) (tk : Takes X Wout)
    (hb : ∀ (W : WX) (pn : List (Addr × Obj)) (xe : Value → Shared → Prop), Takes (X.tr pn xe) W → PassesOwn (model X.prog X.w) X.A X.env xe → PSs (X.tr pn xe) body (tb W))
    (hsu : ∀ (a : Addr) (pn : List (Addr × Obj)), PSs (X.suite a pn) (b₀ :: suite) ts) :
    PS X (.Try body [.ExceptHandler (some (.Name x np)) (some n) (b₀ :: suite) pos'] [] [] pos) (tTryAs X.K c i tb ts Wout) := ps_try_asT hs hf hN hi hln hc tk hb hsu
end
section
variable {K : PySem.W.Frag} {G G1 G2 : Sto} {D0 D1 D2 D3 : Own} {te ta tb tc : TE} {tt tu : TT} {R Ra Rb : Ty} {E En : Ends} {F0 F1 : Hp} {t u : TS}
theorem evIt_seqL {tl : TE} {ds : List PyData} (h : Ev tl G D0 (TL.D K (.list ds)) D1) : EvIt K (iSeq K tl) G D0 ds D1 := fun σ H F hs ss R q => .inl (evIt_list h σ H F hs ss R q)
theorem evIt_seqT {tl : TE} {ds : List PyData} (h : Ev tl G D0 (TL.D K (.tuple ds)) D1) : EvIt K (iSeq K tl) G D0 ds D1 := fun σ H F hs ss R q => .inr (.inl (evIt_tup h σ H F hs ss R q))
theorem go_tryAs {c : Value} {i : Nat} {tb : WX → TS} {ts : TS} {Wout : WX} (h : ∀ W, W = wAsT K c i ts Wout E → Go (tb W E) F0 G D0) : Go (tTryAs K c i tb ts Wout E) F0 G D0 := h _ rfl
end
/-! ## kinds by class names -/
theorem tyX_mono {K : PySem.W.Frag} {F F' : Hp} {v : V} {n : Value} (s : Same F F') (h : TyX K F v n) : TyX K F' v n := by
  cases h with
  | base h =>
    cases h with
    | non => exact .base .non
    | bl b => exact .base (.bl b)
    | int i => exact .base (.int i)
    | str x => exact .base (.str x)
    | flt x => exact .base (.flt x)
    | lst e => exact .base (.lst (s _ _ e))
    | frz e => exact .base (.frz (s _ _ e))
    | tup e => exact .base (.tup (s _ _ e))
    | dK e => exact .base (.dK (s _ _ e))
    | dT e => exact .base (.dT (s _ _ e))
    | ins e cl ha hn htk hm => exact .base (.ins (s _ _ e) cl ha hn htk hm)
  | byt b => exact .byt b
  | set e => exact .set (s _ _ e)
  | kList e c => exact .kList e c
  | kTuple e c => exact .kTuple e c
  | kDict e c => exact .kDict e c
  | fTuple e => exact .fTuple (s _ _ e)
  | fDict e => exact .fDict (s _ _ e)
/-- a value of the built-in class n -/
def Of (K : PySem.W.Frag) (n : String) : Ty := ⟨fun v F => TyX K F v (.type n), tyX_mono⟩
theorem of_d {K : PySem.W.Frag} {d : PyData} {n : String} (e : tyN d = n) : ∀ v F, (D K d).p v F → (Of K n).p v F := fun v F h => by
  subst e
  exact tyX_of h
section
variable {K : PySem.W.Frag} {G G1 G2 : Sto} {D0 D1 D2 D3 : Own} {te ta tb tc : TE} {tt tu : TT} {R Ra Rb : Ty} {E En : Ends} {F0 F1 : Hp} {t u : TS}
theorem ev_isiO {m n : String} {b : Bool} (h : Ev te G D0 (Of K m) D1) (k : kitB m n = some b) : Ev (tCB (cIsi K) (tCons te (tCons (tC (.ty n)) tNil))) G D0 (DB K b) D1 :=
  evCB (evA_cons h (evA_cons (ev_c (R := Is (.ty n)) fun _ => rfl) evA_nil)) fun vs H F hs r Q q => by
    obtain ⟨v, w, rfl, h1, h2⟩ := allP2 r
    have e : w = .ty n := h2
    subst e
    exact .inl ⟨v, .ty n, _, _, b, rfl, .ty n, tyX_mono hs.sub h1, kit_ty k, q _ H F (Same.refl _) hs (.bl _)⟩
/-- a list of values of kinds -/
def LstT (K : PySem.W.Frag) (Rs : List Ty) : Ty := ⟨fun v F => ∃ a xs, v = .ref a ∧ SqL K F a xs ∧ AllP F Rs xs, fun s ⟨a, xs, e, h1, h2⟩ => ⟨a, xs, e, s.seq h1, h2.mono s⟩⟩
theorem ev_lstT {t : TA} {Rs : List Ty} (h : EvA t G D0 Rs D1) (hl : Rs.length ≤ 100000) : Ev (tLst t) G D0 (LstT K Rs) D1 := fun σ H F hs ss Q q =>
  h σ H F hs ss _ fun vs H1 F1 s1 hs1 r1 => by
    refine ⟨by rw [r1.len]; exact Nat.le_trans hl sizeLine_big, fun p hp => ?_⟩
    have s2 : Same F1 (upd F1 p (.lst vs)) := same_new (hs1.free hp)
    exact q _ _ _ (s1.trans s2) (hs1.frz hp) ⟨p, vs, rfl, SqL.of upd_same, r1.mono s2⟩
theorem atI_all {F : Hp} {Rs : List Ty} {vs : List V} (h : AllP F Rs vs) {i : Int} {R : Ty} (e : atI Rs i = some R) : ∃ v, atI vs i = some v ∧ R.p v F := by
  unfold atI at e ⊢
  rw [h.len]
  cases q : ixN Rs.length i with
  | none => rw [q] at e; cases e
  | some j =>
    rw [q] at e
    exact h.get e
theorem ix_LT {Rs : List Ty} {i : Int} (ha : Ev ta G D0 (LstT K Rs) D1) (hb : Ev tb G D1 (DI K i) D2) (e : atI Rs i = some R) : Ev (tOp (rIx K) ta tb) G D0 R D2 :=
  ev2 ha hb fun x y H F hs rx ry Q q => by
    obtain ⟨a, xs, rfl, h1, h2⟩ := rx
    rw [dp_int ry]
    obtain ⟨v, e1, e2⟩ := atI_all h2 e
    exact .inl ⟨a, xs, i, v, rfl, rfl, sqL_up hs h1, e1, q _ H F (Same.refl _) hs e2⟩
end
/-! ## the head -/
open PySem.W in
abbrev AlZ : Type := He.AlD × Bool
def obsZG (n : Nat) (fa : List He.Fa) (fn : List He.DefD) (ex : PySem.W.Frag → Bool) (g : Addr → Option Obj) : AlZ := (He.obsD fa fn (He.frG g (He.asD g n)), ex (He.frG g (He.asD g n)))
def SaysZ (fa : List He.Fa) (fn : List He.DefD) (ex : PySem.W.Frag → Bool) (K : PySem.W.Frag) : Prop := He.SaysD fa fn K ∧ ex K = true
def hookZ (n : Nat) (fa : List He.Fa) (fn : List He.DefD) (ex : PySem.W.Frag → Bool) : PySem.W.Hook where
  α := AlZ
  obs := fun s => obsZG n fa fn ex s.heap.get?
  val := fun _ => (He.valD fn, true)
  says := fun _ h => ∃ K : PySem.W.Frag, K.In h ∧ SaysZ fa fn ex K
  of := fun _ _ e => ⟨_, He.frG_in, congrArg (fun z : AlZ => z.1) e, congrArg (fun z : AlZ => z.2) e⟩
  keeps := fun _ _ _ ⟨K, hK, c⟩ k => ⟨K, PySem.W.Frag.In.keeps hK k, c⟩
theorem obsZG_eq {n : Nat} {fa : List He.Fa} {fn : List He.DefD} {ex : PySem.W.Frag → Bool} {g : Addr → Option Obj} {s : Shared} (h : ∀ a, g a = s.heap.get? a) : obsZG n fa fn ex g = (hookZ n fa fn ex).obs s := by
  have e : g = s.heap.get? := funext h
  rw [e] <;> rfl
def excB (K : PySem.W.Frag) (C : Addr) : Bool :=
  PySem.W.excIn K C He.veBase "ValueError.__new__" && (PySem.W.keepIn K (.ref C) && (decide (PySem.W.subIn K (.ref C) (.type "BaseException") = some true) && (decide (PySem.W.typeIn K (.ref C) = some (.type "type")) &&
  (He.eqO (PySem.W.findIn K (.ref C) "__getattribute__") (some (some (.builtin "BaseException.__getattribute__"))) && (He.eqO (PySem.W.findIn K (.ref C) "__getattr__") (some none) && (PySem.W.hasDictIn K C &&
  (He.eqO (PySem.W.findIn K (.ref C) "__class__") (some (some (.builtin "object.__class__"))) && (decide (PySem.W.specialIn K (.builtin "object.__class__") "__get__" = some (some (.builtin "getset_descriptor.__get__"))) && (decide (PySem.W.takesIn K (.builtin "object.__class__") = some true) &&
  decide (PySem.W.mroIn K C (.type "object") = some true))))))))))
theorem excB_ok {K : PySem.W.Frag} {C : Addr} (h : excB K C = true) : ExOk K C := by
  unfold excB at h
  simp only [Bool.and_eq_true, decide_eq_true_eq] at h
  obtain ⟨h1, h2, h3, h4, h5, h6, h7, h8, h9, h10, h11⟩ := h
  exact ⟨h1, h2, h3, h4, ⟨He.eqO_ok h5, He.eqO_ok h6, h3, h7, He.eqO_ok h8, h9, h10, h11⟩⟩
end TL

set_option Elab.async false
set_option linter.all false
set_option maxRecDepth 100000
set_option maxHeartbeats 1000000
namespace TL
open PySem PySem.Spec L2
theorem cx_no {P : Program} {w : World} {o : List Env} {H : Hp} {s : Shared} {e : Value} {s' : Shared} (z : L2.CX P w o H s E0 e s') : False := by
  obtain ⟨_, _, _, _, _, _, _, _, _, _, _, _, z⟩ := z
  exact z
theorem calm_fn {P : Program} {w : World} {K : PySem.W.Frag} {mg : Str → Option Value} {base : Heap} {k : Nat} {f : Addr} {fd : FuncData} {ps : List Str} {sp : Sp} (F : FnOk P w K mg base (L2.CX P w) k f fd ps sp) (h : ∀ vs H Q E, sp vs H Q E → sp vs H Q E0) : FnOk P w K mg base CX0 k f fd ps sp where
  run := fun A outer s H args us vs Q E hr e b r q => codeAny_mono (F.run A outer s H args us vs Q E0 hr e b r (h vs H Q E q)) fun r s' z => by
    cases r with
    | error e => exact (cx_no z).elim
    | ok fl => cases fl with
      | ret u => exact z
      | next => exact z
      | brk => exact z
      | cont => exact z
  len := F.len
/-- a law's promise -/
def lawSp (K : PySem.W.Frag) : Sp := fsp (T := List Int) (fun ns => [D K (.list (ns.map PyData.int))]) (fun ns => ns.length ≤ 63) (fun _ => .ok (DB K true))
theorem lawSp_E {K : PySem.W.Frag} : ∀ vs H Q E, lawSp K vs H Q E → lawSp K vs H Q E0 := fun vs H Q E ⟨x, F, D, h1, h2, h3, h4⟩ => ⟨x, F, D, h1, h2, h3, h4⟩
theorem ints_dp {K : PySem.W.Frag} {F : Hp} : ∀ ns : List Int, DpAll K F (ns.map V.int) (ns.map PyData.int)
  | [] => .nil
  | n :: ns => .cons (.int n) (ints_dp ns)
theorem law_sp {K : PySem.W.Frag} {H : Hp} {a : Addr} {ns : List Int} (hl : ns.length ≤ 63) (h : SqL K H a (ns.map V.int)) : lawSp K [.ref a] H (fun v _ => v = .bl true) E0 :=
  ⟨ns, H, [], ⟨Same.refl _, (fun a O m => by cases m), List.nodup_nil⟩, .cons (.lst h (ints_dp ns)) .nil, hl, fun v H' F' s hs r => dp_bl r⟩
end TL

set_option maxHeartbeats 1000000
namespace Nu
/-! ## whole numbers: the greatest common measure -/
theorem fmod_natAbs_lt {a b : Int} (h : b ≠ 0) : (a.fmod b).natAbs < b.natAbs := by
  rcases Int.lt_or_gt_of_ne h with hb | hb
  · have e : a.fmod b = -((-a).fmod (-b)) := by
      rw [Int.neg_fmod_neg, Int.neg_neg]
    have h1 := Int.fmod_nonneg_of_pos (-a) (show 0 < -b by omega)
    have h2 := Int.fmod_lt_of_pos (-a) (show 0 < -b by omega)
    omega
  · have h1 := Int.fmod_nonneg_of_pos a hb
    have h2 := Int.fmod_lt_of_pos a hb
    omega
theorem gcd_fmod (a b : Int) : Int.gcd b (a.fmod b) = Int.gcd a b := by
  have e : a.fmod b = a + b * (-(a.fdiv b)) := by
    have := Int.fmod_add_mul_fdiv a b
    grind
  rw [e]
  rw [Int.gcd_comm a b]
  exact Int.gcd_add_mul_left_right ..
/-- the bottom's sign on the measure -/
def by_ (t b : Int) : Int := if b < 0 then 0 - (Int.gcd t b : Int) else (Int.gcd t b : Int)
def q (t b : Int) : Rat := Rat.divInt t b
theorem gcd_pos {t b : Int} (h : b ≠ 0) : 0 < Int.gcd t b := Int.gcd_pos_of_ne_zero_right _ h
theorem by_ne {t b : Int} (h : b ≠ 0) : by_ t b ≠ 0 := by
  have := gcd_pos (t := t) h
  unfold by_
  split <;> omega
theorem by_le {t b : Int} (h : b ≠ 0) : (by_ t b).natAbs ≤ b.natAbs := by
  have := Int.gcd_le_natAbs_right t h
  unfold by_
  split <;> omega
theorem fdiv_dvd {a b c : Int} (hc : c ≠ 0) (h : a = c * b) : a.fdiv c = b := by
  subst h
  exact Int.mul_fdiv_cancel_left _ hc
theorem top_is {t b : Int} (h : b ≠ 0) : t.fdiv (by_ t b) = (q t b).num := by
  have gp := gcd_pos (t := t) h
  obtain ⟨u, hu⟩ := Int.gcd_dvd_left t b
  refine fdiv_dvd (by_ne h) ?_
  unfold q by_
  rw [Rat.num_divInt, Int.gcd_comm b t]
  have g0 : (Int.gcd t b : Int) ≠ 0 := by omega
  have e1 : b.sign * t / (Int.gcd t b : Int) = b.sign * u := by
    have : b.sign * t = (Int.gcd t b : Int) * (b.sign * u) := by
      conv => lhs; rw [hu]
      grind
    rw [this]
    exact Int.mul_ediv_cancel_left _ g0
  rw [e1]
  by_cases hb : b < 0
  · rw [if_pos hb, Int.sign_eq_neg_one_of_neg hb]
    conv => lhs; rw [hu]
    grind
  · rw [if_neg hb, Int.sign_eq_one_of_pos (by omega)]
    conv => lhs; rw [hu]
    grind
theorem bot_is {t b : Int} (h : b ≠ 0) : b.fdiv (by_ t b) = ((q t b).den : Int) := by
  have gp := gcd_pos (t := t) h
  obtain ⟨u, hu⟩ := Int.gcd_dvd_right t b
  refine fdiv_dvd (by_ne h) ?_
  unfold q by_
  rw [Rat.den_divInt, if_neg h, Int.gcd_comm b t]
  have g0 : (Int.gcd t b : Int) ≠ 0 := by omega
  have e1 : (((b.natAbs / Int.gcd t b : Nat)) : Int) = u.natAbs := by
    have : b.natAbs = Int.gcd t b * u.natAbs := by
      conv => lhs; rw [hu]
      rw [Int.natAbs_mul, Int.natAbs_natCast]
    rw [this, Nat.mul_div_cancel_left _ gp]
  rw [e1]
  have su : (b < 0 → u < 0) ∧ (0 < b → 0 < u) := by
    constructor
    · intro hb
      rcases Int.lt_or_le u 0 with z | z
      · exact z
      · have : 0 ≤ (Int.gcd t b : Int) * u := Int.mul_nonneg (by omega) z
        omega
    · intro hb
      rcases Int.lt_or_le 0 u with z | z
      · exact z
      · have : (Int.gcd t b : Int) * u ≤ 0 := Int.mul_nonpos_of_nonneg_of_nonpos (by omega) z
        omega
  by_cases hb : b < 0
  · rw [if_pos hb]
    have := su.1 hb
    have e : ((u.natAbs : Nat) : Int) = - u := by omega
    rw [e]
    conv => lhs; rw [hu]
    grind
  · rw [if_neg hb]
    have := su.2 (by omega)
    have e : ((u.natAbs : Nat) : Int) = u := by omega
    rw [e]
    conv => lhs; rw [hu]
/-- the law's own way: signs turned first -/
theorem q_neg {t b : Int} : q (0 - t) (0 - b) = q t b := by
  unfold q
  rw [Int.zero_sub, Int.zero_sub]
  exact Rat.neg_divInt_neg ..
theorem by_pos {t b : Int} (h : 0 < b) : by_ t b = (Int.gcd t b : Int) := by
  unfold by_
  rw [if_neg (by omega)]
theorem q_self (r : Rat) : q r.num r.den = r := Rat.num_divInt_den r
theorem den_ne (r : Rat) : (r.den : Int) ≠ 0 := by
  have := r.den_pos
  omega
theorem plus_is (a b : Rat) : q (a.num * b.den + b.num * a.den) (a.den * b.den) = a + b := by
  conv => rhs; rw [← q_self a, ← q_self b]
  exact (Rat.divInt_add_divInt _ _ (den_ne a) (den_ne b)).symm
theorem minus_is (a b : Rat) : q (a.num * b.den - b.num * a.den) (a.den * b.den) = a - b := by
  conv => rhs; rw [← q_self a, ← q_self b]
  exact (Rat.divInt_sub_divInt _ _ (den_ne a) (den_ne b)).symm
theorem times_is (a b : Rat) : q (a.num * b.num) (a.den * b.den) = a * b := by
  conv => rhs; rw [← q_self a, ← q_self b]
  exact (Rat.divInt_mul_divInt ..).symm
theorem over_is (a b : Rat) : q (a.num * b.den) (a.den * b.num) = a / b := by
  rw [Rat.div_def, Rat.inv_def]
  conv => rhs; lhs; rw [← q_self a]
  exact (Rat.divInt_mul_divInt ..).symm
theorem less_is (a b : Rat) : (a.num * b.den < b.num * a.den) ↔ a < b := (Rat.lt_iff a b).symm
theorem num_zero {r : Rat} : r.num = 0 ↔ r = 0 := Rat.num_eq_zero
theorem q_zero (b : Int) : q 0 b = 0 := by unfold q; exact Rat.zero_divInt b
theorem q_one (t : Int) : (q t 1).num = t ∧ (q t 1).den = 1 := by
  unfold q
  refine ⟨?_, ?_⟩
  · rw [Rat.num_divInt]; simp
  · rw [Rat.den_divInt]; simp
/-! ## sizes -/
def Bd (n : Nat) (r : Rat) : Prop := r.num.natAbs < 2 ^ n ∧ r.den < 2 ^ n
theorem natAbs_mul_lt {a b : Int} {n m : Nat} (ha : a.natAbs < 2 ^ n) (hb : b.natAbs < 2 ^ m) : (a * b).natAbs < 2 ^ (n + m) := by
  rw [Int.natAbs_mul, Nat.pow_add]
  exact Nat.mul_lt_mul'' ha hb
theorem natAbs_add_lt {a b : Int} {n : Nat} (ha : a.natAbs < 2 ^ n) (hb : b.natAbs < 2 ^ n) : (a + b).natAbs < 2 ^ (n + 1) := by
  rw [Nat.pow_succ]
  omega
theorem natAbs_sub_lt {a b : Int} {n : Nat} (ha : a.natAbs < 2 ^ n) (hb : b.natAbs < 2 ^ n) : (a - b).natAbs < 2 ^ (n + 1) := by
  rw [Nat.pow_succ]
  omega
theorem lt_pow_mono {a n m : Nat} (h : a < 2 ^ n) (l : n ≤ m) : a < 2 ^ m := Nat.lt_of_lt_of_le h (Nat.pow_le_pow_right (by decide) l)
theorem Bd.mono {n m : Nat} {r : Rat} (h : Bd n r) (l : n ≤ m) : Bd m r := ⟨lt_pow_mono h.1 l, lt_pow_mono h.2 l⟩
theorem natAbs_ediv_le (a : Int) {g : Nat} (h : 0 < g) : (a / (g : Int)).natAbs ≤ a.natAbs := by
  rcases Int.lt_or_le a 0 with z | z
  · have h1 : a / (g : Int) < 0 := Int.ediv_neg_of_neg_of_pos z (by omega)
    have h2 : a ≤ a / (g : Int) := by
      have h3 : a / (g : Int) * (g : Int) ≤ a := Int.ediv_mul_le a (by omega)
      have h4 : a - (g : Int) < a / (g : Int) * (g : Int) := by
        have := Int.lt_ediv_add_one_mul_self a (show (0 : Int) < g by omega)
        grind
      have : a * (g : Int) ≤ a * 1 := Int.mul_le_mul_of_nonpos_left (by omega) (by omega)
      refine Int.le_ediv_of_mul_le (by omega) ?_
      omega
    omega
  · have h1 : 0 ≤ a / (g : Int) := Int.ediv_nonneg z (by omega)
    have h2 : a / (g : Int) ≤ a := Int.ediv_le_self _ z
    omega
theorem q_bd {t b : Int} {n : Nat} (ht : t.natAbs < 2 ^ n) (hb : b.natAbs < 2 ^ n) (h : b ≠ 0) : Bd n (q t b) := by
  have gp := gcd_pos (t := t) h
  rw [Int.gcd_comm] at gp
  unfold q Bd
  rw [Rat.num_divInt, Rat.den_divInt, if_neg h]
  refine ⟨?_, Nat.lt_of_le_of_lt (Nat.div_le_self _ _) hb⟩
  refine Nat.lt_of_le_of_lt (natAbs_ediv_le _ gp) ?_
  rw [Int.natAbs_mul]
  have : b.sign.natAbs ≤ 1 := by
    rcases Int.lt_or_gt_of_ne h with z | z
    · rw [Int.sign_eq_neg_one_of_neg z]; decide
    · rw [Int.sign_eq_one_of_pos z]; decide
  have h2 : b.sign.natAbs * t.natAbs ≤ 1 * t.natAbs := Nat.mul_le_mul_right _ this
  omega
theorem den_abs {n : Nat} {r : Rat} (h : Bd n r) : ((r.den : Int)).natAbs < 2 ^ n := by simpa using h.2
theorem plus_bd {a b : Rat} {n m : Nat} (ha : Bd n a) (hb : Bd m b) : Bd (n + m + 1) (a + b) := by
  rw [← plus_is]
  refine q_bd (natAbs_add_lt (natAbs_mul_lt ha.1 (den_abs hb)) (by rw [Nat.add_comm]; exact natAbs_mul_lt hb.1 (den_abs ha))) (lt_pow_mono (natAbs_mul_lt (den_abs ha) (den_abs hb)) (by omega)) (Int.mul_ne_zero (den_ne a) (den_ne b))
theorem minus_bd {a b : Rat} {n m : Nat} (ha : Bd n a) (hb : Bd m b) : Bd (n + m + 1) (a - b) := by
  rw [← minus_is]
  refine q_bd (natAbs_sub_lt (natAbs_mul_lt ha.1 (den_abs hb)) (by rw [Nat.add_comm]; exact natAbs_mul_lt hb.1 (den_abs ha))) (lt_pow_mono (natAbs_mul_lt (den_abs ha) (den_abs hb)) (by omega)) (Int.mul_ne_zero (den_ne a) (den_ne b))
theorem times_bd {a b : Rat} {n m : Nat} (ha : Bd n a) (hb : Bd m b) : Bd (n + m) (a * b) := by
  rw [← times_is]
  exact q_bd (natAbs_mul_lt ha.1 hb.1) (natAbs_mul_lt (den_abs ha) (den_abs hb)) (Int.mul_ne_zero (den_ne a) (den_ne b))
theorem over_bd {a b : Rat} {n m : Nat} (ha : Bd n a) (hb : Bd m b) (h : b ≠ 0) : Bd (n + m) (a / b) := by
  rw [← over_is]
  exact q_bd (natAbs_mul_lt ha.1 (den_abs hb)) (natAbs_mul_lt (den_abs ha) hb.1) (Int.mul_ne_zero (den_ne a) (fun z => h (num_zero.mp z)))
end Nu

set_option Elab.async false
set_option linter.all false
set_option maxRecDepth 100000
set_option maxHeartbeats 1000000
namespace TL
open PySem PySem.Spec L2
/-! ## kinds by class names, numbers, wells: what most laws share -/
def kinds : List String := ["int", "bool", "NoneType", "str", "tuple", "list", "dict"]
abbrev DQ (K : PySem.W.Frag) (r : Rat) : Ty := D K (.tuple [.int r.num, .int r.den])
inductive NA where
  | odd1 (n : String) (m : String)
  | odd2 (t : Int) (n : String)
  | good (t b : Int)
def NA.args (K : PySem.W.Frag) : NA → List Ty
  | .odd1 n m => [Of K n, Of K m]
  | .odd2 t n => [DI K t, Of K n]
  | .good t b => [DI K t, DI K b]
def NA.pre : NA → Prop
  | .odd1 n m => n ∈ kinds ∧ n ≠ "int" ∧ m ∈ kinds
  | .odd2 t n => n ∈ kinds ∧ n ≠ "int"
  | .good t b => b.natAbs < 2 ^ 8000
def NA.out (K : PySem.W.Frag) : NA → Out
  | .good t b => if b = 0 then .err (.ref (He.ga K "NoNumber")) else .ok (DQ K (Nu.q t b))
  | _ => .err (.ref (He.ga K "NoNumber"))
/-- a well: its way, its cell, its turns -/
structure We where
  f : Int
  v : Int
  t : Int
def We.d (w : We) : List PyData := [.int w.f, .int w.v, .int w.t]
def We.ok (n : Nat) (w : We) : Prop := w.f = 1 ∨ (w.f = 0 ∧ w.v.natAbs < 2 ^ 60 ∧ 0 ≤ w.t ∧ w.t ≤ n)
def mix (v t : Int) : Int := ((((((v + 7919 * t * t) + t) * 48271).fmod 2305843009213693951) * 1442695040888963407 + 4321).fmod 2305843009213693921).fdiv 64
def We.val (w : We) (m : Int) : Int := if w.f = 1 then w.v.fmod m else (mix w.v (w.t + 1)).fmod m
def We.nx (w : We) (m : Int) : We := if w.f = 1 then ⟨w.f, w.v.fdiv m, w.t⟩ else ⟨w.f, w.v, w.t + 1⟩
def well (ns : List Int) (k : Int) : We := let c := if k < ns.length then ns.getD k.toNat 0 else 0; ⟨if 10 ^ 18 ≤ (if c < 0 then -c else c) then 1 else 0, c, 17 * k⟩
def pick (l : List Int) (i : Int) : Int := l.getD i.toNat 0
section
variable {K : PySem.W.Frag} {G : Sto} {D0 D1 D2 : Own} {te ta tb : TE} {F0 : Hp} {E : Ends} {X : XK}
theorem kit_int {n : String} (h : n ∈ kinds) : kitB n "int" = some (decide (n = "int") || decide (n = "bool")) := by
  simp only [kinds, List.mem_cons, List.not_mem_nil, or_false] at h
  rcases h with rfl | rfl | rfl | rfl | rfl | rfl | rfl <;> decide +kernel
theorem kit_bool {n : String} (h : n ∈ kinds) : kitB n "bool" = some (decide (n = "bool")) := by
  simp only [kinds, List.mem_cons, List.not_mem_nil, or_false] at h
  rcases h with rfl | rfl | rfl | rfl | rfl | rfl | rfl <;> decide +kernel
theorem whole_val (n : String) : ((decide (n = "int") || decide (n = "bool")) && !decide (n = "bool")) = decide (n = "int") := by
  by_cases h : n = "int"
  · subst h; decide
  · by_cases h2 : n = "bool" <;> simp [h, h2]
theorem ev_of {d : PyData} (h : Ev te G D0 (D K d) D1) : Ev te G D0 (Of K (tyN d)) D1 := ev_imp h (of_d rfl)
theorem mem_int : "int" ∈ kinds := by decide
theorem div_ok {t b : Int} (h0 : b ≠ 0) (hb : b.natAbs < 2 ^ 8000) : CDivA t (Nu.by_ t b) := by
  refine ⟨Nu.by_ne h0, ?_⟩
  have h1 := Nu.by_le (t := t) h0
  have : (Nu.by_ t b).natAbs < 2 ^ 8000 := Nat.lt_of_le_of_lt h1 hb
  exact Nat.lt_of_lt_of_le (PySem.Flt.log2_lt_of (by decide) this) (by decide)
theorem set_at {D : Own} {k : Nat} {x y : Addr × OTy} (h : D[k]? = some x) : (D.set k y)[k]? = some y := by
  have lt : k < D.length := (List.getElem?_eq_some_iff.mp h).1
  rw [List.getElem?_set_self lt]
theorem set_lt {D : Own} {k : Nat} {y : Addr × OTy} (lt : k < D.length) : (D.set k y)[k]? = some y := by
  rw [List.getElem?_set_self lt]
theorem set_id {D : Own} {k : Nat} {x : Addr × OTy} (h : D[k]? = some x) : D.set k x = D := by
  refine List.ext_getElem? fun i => ?_
  by_cases z : i = k
  · subst z
    rw [set_at h, h]
  · rw [List.getElem?_set_ne (Ne.symm z)]
theorem pick_at {l : List Int} {i : Int} (h0 : 0 ≤ i) (h1 : i < l.length) : atI (l.map PyData.int) i = some (.int (pick l i)) := by
  unfold atI ixN pick
  rw [if_pos h0, List.length_map, if_pos h1, Option.bind_some, List.getElem?_map]
  have h2 : i.toNat < l.length := by omega
  rw [List.getElem?_eq_getElem h2, List.getD_eq_getElem?_getD, List.getElem?_eq_getElem h2]
  rfl
theorem wmul {i j : Int} (a b : Nat) (ha : i.natAbs < 2 ^ a) (hb : j.natAbs < 2 ^ b) (h0 : 0 < a := by decide) (h1 : 0 < b := by decide) (h : a + b ≤ 1000000 := by decide) : CMulW i j := wide_mul ha hb h0 h1 h
theorem cdiv {i j : Int} (h0 : j ≠ 0) (hb : j.natAbs < 2 ^ 8000) : CDivA i j := ⟨h0, Nat.lt_of_lt_of_le (PySem.Flt.log2_lt_of (by decide) hb) (by decide)⟩
theorem mod_ok {a m : Int} (h : 0 < m) : 0 ≤ a.fmod m ∧ a.fmod m < m := ⟨Int.fmod_nonneg_of_pos a h, Int.fmod_lt_of_pos a h⟩
theorem We.val_ok {w : We} {m : Int} (h : 0 < m) : 0 ≤ w.val m ∧ w.val m < m := by
  unfold We.val
  split <;> exact mod_ok h
theorem We.nx_ok {w : We} {m : Int} {n : Nat} (h : w.ok n) : (w.nx m).ok (n + 1) := by
  unfold We.nx
  rcases h with h | ⟨h1, h2, h3, h4⟩
  · rw [if_pos h]; exact .inl h
  · rw [if_neg (by omega)]
    exact .inr ⟨h1, h2, by show 0 ≤ w.t + 1; omega, by show w.t + 1 ≤ ((n + 1 : Nat) : Int); omega⟩
theorem We.well_ok {ns : List Int} {i : Int} (h0 : 0 ≤ i) (h1 : i ≤ 63) : (well ns i).ok 1100 := by
  unfold well We.ok
  dsimp only
  generalize (if i < (ns.length : Int) then ns.getD i.toNat 0 else 0) = c
  by_cases hc : 10 ^ 18 ≤ if c < 0 then -c else c
  · rw [if_pos hc]; exact .inl rfl
  · rw [if_neg hc]
    refine .inr ⟨rfl, ?_, by omega, by omega⟩
    have e : ((2 : Nat) ^ 60) = 1152921504606846976 := by decide
    rw [e]
    have e2 : (10 : Int) ^ 18 = 1000000000000000000 := by decide
    rw [e2] at hc
    split at hc <;> omega
theorem eqv_q (a b : Rat) : PyData.eqv (.tuple [.int a.num, .int a.den]) (.tuple [.int b.num, .int b.den]) = decide (a = b) := by
  simp only [PyData.eqv, PyData.eqvAll, Bool.and_true]
  by_cases h : a = b
  · subst h; simp
  · rw [decide_eq_false h]
    cases e : (a.num == b.num && (a.den : Int) == (b.den : Int)) with
    | false => rfl
    | true =>
      simp only [Bool.and_eq_true, beq_iff_eq] at e
      exact absurd (Rat.ext e.1 (by omega)) h
theorem shaped_q (a b : Int) : SeqAt.shaped (.tuple [.int a, .int b]) = true := by rfl
theorem pick_pos {l : List Int} {i : Int} (h : ∀ x ∈ l, 0 < x) (h0 : 0 ≤ i) (h1 : i < l.length) : 0 < pick l i := by
  unfold pick
  have h2 : i.toNat < l.length := by omega
  rw [List.getD_eq_getElem?_getD, List.getElem?_eq_getElem h2]
  exact h _ (List.getElem_mem h2)
theorem pick_lt {l : List Int} {i : Int} {n : Nat} (h : ∀ x ∈ l, x.natAbs < n) (h0 : 0 ≤ i) (h1 : i < l.length) : (pick l i).natAbs < n := by
  unfold pick
  have h2 : i.toNat < l.length := by omega
  rw [List.getD_eq_getElem?_getD, List.getElem?_eq_getElem h2]
  exact h _ (List.getElem_mem h2)
theorem pick_ne {l : List Int} {i : Int} (h : ∀ x ∈ l, x ≠ 0) (h0 : 0 ≤ i) (h1 : i < l.length) : pick l i ≠ 0 := by
  unfold pick
  have h2 : i.toNat < l.length := by omega
  rw [List.getD_eq_getElem?_getD, List.getElem?_eq_getElem h2]
  exact h _ (List.getElem_mem h2)
theorem small {m : Int} (h : m.natAbs < 2 ^ 62) : m.natAbs < 2 ^ 8000 := Nu.lt_pow_mono h (by decide)
theorem number_args {x : NA} : ∃ R1 R2, x.args K = [R1, R2] := by
  cases x <;> exact ⟨_, _, rfl⟩
theorem ev_dnew : Ev tDNewK G D0 (Of K "dict") D0 := fun σ H F hs ss Q q p hp =>
  q _ _ (upd F p (.dK [])) (same_new (hs.free hp)) (hs.frz hp) (.base (.dK upd_same))
theorem out_good {t b : Int} (h : b ≠ 0) : NA.out K (.good t b) = .ok (DQ K (Nu.q t b)) := if_neg h
theorem out_nought {t : Int} : NA.out K (.good t 0) = .err (.ref (He.ga K "NoNumber")) := by simp [NA.out]
theorem ev_ofI {i : Int} (h : Ev te G D0 (DI K i) D1) : Ev te G D0 (Of K "int") D1 := ev_of h
end
end TL

set_option Elab.async false
set_option linter.all false
set_option maxRecDepth 100000
set_option maxHeartbeats 1000000
namespace TL
open PySem PySem.Spec L2
section
variable {K : PySem.W.Frag} {G G1 G2 : Sto} {D0 D1 D2 D3 : Own} {te ta tb : TE} {R Ra Rb : Ty} {F0 F1 : Hp} {E : Ends} {X : XK}
/-- a call that raises, the def around lets it out -/
theorem evX_call {T : Type} {args : T → List Ty} {pre : T → Prop} {out : T → Out} {t : TA} {c : Value} (x : T) (h : EvA t G D0 (args x) D1) (hp : pre x) (ho : out x = .err c) (hX : GoX X F0 c D1) {P : St → Hp → Prop} : EvX (tCall (fsp args pre out) [] X t) G D0 P F0 := fun σ H F s hs ss Q =>
  h σ H F hs ss _ fun vs H1 F1 s1 hs1 r1 => ⟨x, F1, D1, hs1, by rw [List.append_nil]; exact r1, hp, by rw [ho]; exact fun H2 F2 s2 hs2 => hX H2 F2 ((s.trans s1).trans s2) hs2⟩
theorem go_retX {P : St → Hp → Prop} (h : EvX te G D0 P F0) : Go (tRet te E) F0 G D0 := fun σ H F s hs ss => h σ H F s hs ss _
/-! numbers in products -/
theorem cq {i j : Int} {n m : Nat} (ha : i.natAbs < 2 ^ n) (hb : j.natAbs < 2 ^ m) (hn : n ≤ 8000) (hm : m ≤ 8000) : CMulW i j :=
  wmul 8001 8001 (Nu.lt_pow_mono ha (by omega)) (Nu.lt_pow_mono hb (by omega))
theorem numOf {a : Rat} {n : Nat} (h : Nu.Bd n a) : a.num.natAbs < 2 ^ n := h.1
theorem denOf {a : Rat} {n : Nat} (h : Nu.Bd n a) : ((a.den : Int)).natAbs < 2 ^ n := Nu.den_abs h
theorem dd_small {a b : Rat} (ha : Nu.Bd 3000 a) (hb : Nu.Bd 3000 b) : ((a.den : Int) * (b.den : Int)).natAbs < 2 ^ 8000 := Nu.lt_pow_mono (Nu.natAbs_mul_lt (Nu.den_abs ha) (Nu.den_abs hb)) (by decide)
theorem dd_ne (a b : Rat) : (a.den : Int) * (b.den : Int) ≠ 0 := Int.mul_ne_zero (Nu.den_ne a) (Nu.den_ne b)
theorem bd_small {i : Int} {n : Nat} (h : i.natAbs < 2 ^ n) (l : n ≤ 8000) : i.natAbs < 2 ^ 8000 := Nu.lt_pow_mono h l
theorem ev_q0 {a : Rat} (h : Ev te G D0 (DQ K a) D1) : Ev (tOp (rIx K) te (tC (.int 0))) G D0 (DI K a.num) D1 := ix_T h ev_int rfl
theorem ev_q1 {a : Rat} (h : Ev te G D0 (DQ K a) D1) : Ev (tOp (rIx K) te (tC (.int 1))) G D0 (DI K a.den) D1 := ix_T h ev_int rfl
theorem ev_qt {a b : Int} {r : Rat} (h : Ev te G D0 (D K (.tuple [.int a, .int b])) D1) (e1 : r.num = a) (e2 : (r.den : Int) = b) : Ev te G D0 (DQ K r) D1 := by
  subst e1 e2
  exact h
/-- the pair of a written top and bottom -/
theorem ev_pair {a b : Int} (r : Rat) (ha : Ev ta G D0 (DI K a) D1) (hb : Ev tb G D1 (DI K b) D2) (e1 : r.num = a) (e2 : (r.den : Int) = b) : Ev (tTup (tCons ta (tCons tb tNil))) G D0 (DQ K r) D2 :=
  ev_qt (ev_tup (evD_cons ha (evD_cons hb evD_nil)) (by simp)) e1 e2
theorem eq_Q {a b : Rat} (ha : Ev ta G D0 (DQ K a) D1) (hb : Ev tb G D1 (DQ K b) D2) : Ev (tOp (qEq K) ta tb) G D0 (DB K (decide (a = b))) D2 :=
  ev_d (eq_D ha hb (shaped_q _ _) (shaped_q _ _)) (by rw [eqv_q])
theorem ne_Q {a b : Rat} (ha : Ev ta G D0 (DQ K a) D1) (hb : Ev tb G D1 (DQ K b) D2) : Ev (tOp (qNe K) ta tb) G D0 (DB K (!decide (a = b))) D2 :=
  ev_d (ne_D ha hb (shaped_q _ _) (shaped_q _ _)) (by rw [eqv_q])
theorem SLe.keep {G G' : Sto} {x : Option Ty} (h : SLe G G') : SLe (x :: G) (x :: G') := by
  cases x with
  | none => exact .drop h
  | some R => exact .imp (fun _ _ h => h) h
theorem neg1_n : (-1 : Rat).num = -1 := rfl
theorem neg1_d : (((-1 : Rat).den : Nat) : Int) = 1 := rfl
theorem bd_neg1 : Nu.Bd 2 (-1) := ⟨by decide, by decide⟩
theorem bd_0 : Nu.Bd 1 0 := ⟨by decide, by decide⟩
end
end TL

set_option Elab.async false
set_option linter.all false
set_option maxRecDepth 100000
set_option maxHeartbeats 1000000
namespace TL
open PySem PySem.Spec L2
/-! ## comprehensions -/
theorem wipe_get (σ : L2.St) : ∀ (vs : List Nat) (j : Nat), (wipe σ vs)[j]? = if j ∈ vs then (σ[j]?).map (fun _ => none) else σ[j]?
  | [], j => by simp [wipe]
  | v :: vs, j => by
    have len := wipe_length σ vs
    unfold wipe
    by_cases e : v = j
    · subst e
      by_cases lt : v < (wipe σ vs).length
      · rw [List.getElem?_set_self lt]
        rw [len] at lt
        simp [lt]
      · rw [List.getElem?_eq_none (by simpa using lt)]
        rw [len] at lt
        simp [List.getElem?_eq_none (Nat.le_of_not_lt lt)]
    · rw [List.getElem?_set_ne e, wipe_get σ vs j]
      have : (j ∈ v :: vs) ↔ (j ∈ vs) := by
        simp only [List.mem_cons]
        constructor
        · rintro (h | h)
          · exact absurd h.symm e
          · exact h
        · exact .inr
      simp only [this]
theorem wipe_eq {σ τ : L2.St} {vs : List Nat} (h : ∀ j, j ∉ vs → σ[j]? = τ[j]?) (l : σ.length = τ.length) : wipe σ vs = wipe τ vs := by
  refine List.ext_getElem? fun j => ?_
  rw [wipe_get, wipe_get]
  by_cases m : j ∈ vs
  · rw [if_pos m, if_pos m]
    by_cases lt : j < σ.length
    · have lt2 : j < τ.length := by omega
      simp [lt, lt2]
    · have lt2 : ¬ j < τ.length := by omega
      simp [lt, lt2]
  · rw [if_neg m, if_neg m]
    exact h j m
theorem wipe_wipe (σ : L2.St) (vs : List Nat) : wipe (wipe σ vs) vs = wipe σ vs := wipe_eq (fun j m => by rw [wipe_get, if_neg m]) (wipe_length σ vs)
theorem wipe_set {σ τ : L2.St} {vs : List Nat} {i : Nat} {x : Option V} (m : i ∈ vs) (h : wipe τ vs = wipe σ vs) : wipe (τ.set i x) vs = wipe σ vs := by
  rw [← h]
  refine wipe_eq (fun j mj => ?_) (by simp)
  exact List.getElem?_set_ne (fun e => mj (by rw [← e]; exact m))
/-- the slots forgotten -/
def wipeG (G : Sto) : List Nat → Sto
  | [] => G
  | v :: vs => (wipeG G vs).set v none
theorem SS.wipe {F : Hp} {G : Sto} {σ : L2.St} (h : SS F G σ) : ∀ vs : List Nat, SS F (wipeG G vs) (L2.wipe σ vs)
  | [] => h
  | v :: vs => (SS.wipe h vs).unset v
/-- a target within a block: it writes the block's own names alone -/
def EvW (g : TG) (vs : List Nat) (G : Sto) (R : Ty) (G1 : Sto) : Prop := ∀ (v : V) (σ τ : L2.St) (H F : Hp) (D : Own), HS D H F → SS F G τ → wipe τ vs = wipe σ vs → R.p v F → ∀ Q : L2.St → Hp → Prop, (∀ σ', SS F G1 σ' → wipe σ' vs = wipe σ vs → Q σ' H) → g v τ H Q
def EvWs (K : PySem.W.Frag) (g : TGs) (vs : List Nat) (G : Sto) (ds : List PyData) (G1 : Sto) : Prop := ∀ (xs : List V) (σ τ : L2.St) (H F : Hp) (D : Own), HS D H F → SS F G τ → wipe τ vs = wipe σ vs → DpAll K F xs ds → ∀ Q : L2.St → Hp → Prop, (∀ σ', SS F G1 σ' → wipe σ' vs = wipe σ vs → Q σ' H) → g xs τ H Q
section
variable {K : PySem.W.Frag} {G G1 G2 : Sto} {D0 D1 D2 D3 : Own} {te ta tb : TE} {tt : TT} {R Ra Rb : Ty} {F0 F1 : Hp} {E : Ends} {X : XK} {vs : List Nat}
theorem evW_name {i : Nat} (m : i ∈ vs) : EvW (gName i) vs G R (G.set i (some R)) := fun v σ τ H F D hs ss w r Q q => q _ (ss.set r i) (wipe_set m w)
theorem evWs_nil : EvWs K gNil vs G [] G := fun xs σ τ H F D hs ss w r Q q => by
  cases r
  exact ⟨rfl, q _ ss w⟩
theorem evWs_cons {g : TG} {gs : TGs} {d : PyData} {ds : List PyData} (h1 : EvW g vs G (TL.D K d) G1) (h2 : EvWs K gs vs G1 ds G2) : EvWs K (gCons g gs) vs G (d :: ds) G2 := fun xs σ τ H F D hs ss w r Q q => by
  cases r with
  | cons r1 r2 => exact ⟨_, _, rfl, h1 _ σ τ H F D hs ss w r1 _ fun σ' ss' w' => h2 _ σ σ' H F D hs ss' w' r2 Q q⟩
theorem evW_tup {gs : TGs} {ds : List PyData} {n : Nat} (h : EvWs K gs vs G ds G1) (hn : ds.length = n) : EvW (gTup K n gs) vs G (TL.D K (.tuple ds)) G1 := fun v σ τ H F D hs ss w r Q q => by
  obtain ⟨a, xs, rfl, h1, h2⟩ := dp_tup r
  exact ⟨a, xs, rfl, sqT_up hs h1, (dpAll_len h2).trans hn, h xs σ τ H F D hs ss w h2 Q q⟩
theorem evT_yes : EvT tYes G D0 true D0 := fun σ H F hs ss Q q => q H F (Same.refl _) hs
/-- a comprehension, its turns by a state -/
theorem evN_lc {S : Type} {wi : TI} {g : TG} {ds res : List PyData} {DF : Own} (hi : EvIt K wi G D0 ds D1) (I : Nat → S → List PyData → Prop) (Ds : S → Own) (s0 : S) (h0 : I 0 s0 []) (d0 : (Ds s0).Sublist D1) (hl : ds.length ≤ 100000)
    (step : ∀ k s acc d p, ds[k]? = some d → I k s acc → ∃ G', EvW g vs (wipeG G vs) (TL.D K d) G' ∧ ∃ c s1, EvT tt G' ((p, OL K acc) :: Ds s) c ((p, OL K acc) :: Ds s1) ∧
      (c = true → ∃ e s2, Ev te G' ((p, OL K acc) :: Ds s1) (TL.D K e) ((p, OL K acc) :: Ds s2) ∧ I (k + 1) s2 (acc ++ [e])) ∧ (c = false → I (k + 1) s1 acc))
    (done : ∀ s acc, I ds.length s acc → acc = res ∧ (Ds s = DF)) : EvN (tLc wi g tt te vs) G D0 (OL K res) DF := fun σ H F hs ss Q q =>
  hi σ H F hs ss _ fun J H1 F1 s1 hs1 ok Dl hDl => by
    refine ⟨fun i m H => m = ds.length - i ∧ i ≤ ds.length ∧ ∃ (x : S) (acc : List PyData) (F2 : Hp), acc.length ≤ i ∧ I i x acc ∧ Same F1 F2 ∧ HS ((Dl, OL K acc) :: Ds x) H F2, ⟨ds.length, by simp, Nat.zero_le _, s0, [], F1, Nat.le_refl _, h0, Same.refl _, (hs1.drop d0).new hDl ⟨[], rfl, .nil⟩⟩, ?_⟩
    rintro i m H2 ⟨rfl, hle, x, acc, F2, la, hx, s2, hs2⟩
    by_cases hlt : i < ds.length
    · have hd : ds[i]? = some ds[i] := by simp [hlt]
      obtain ⟨go, yl⟩ := (ok _ H2 F2 s2 hs2 i).1 _ hd
      refine .inr ⟨go, fun H' => ∃ (x : S) (acc : List PyData) (F2 : Hp), acc.length ≤ i + 1 ∧ I (i + 1) x acc ∧ Same F1 F2 ∧ HS ((Dl, OL K acc) :: Ds x) H' F2, fun H' p => ⟨ds.length - (i + 1), by omega, rfl, hlt, p⟩, fun v H3 hy => ?_⟩
      obtain ⟨F3, s3, hs3, r3⟩ := yl v H3 hy
      obtain ⟨G', hg, c, x1, ht, hyes, hno⟩ := step i x acc _ Dl hd hx
      have ss3 : SS F3 (wipeG G vs) (L2.wipe σ vs) := ((ss.mono s1).mono (s2.trans s3)).wipe vs
      refine hg v σ (L2.wipe σ vs) H3 F3 _ hs3 ss3 (wipe_wipe σ vs) r3 _ fun σ' ss' w' => ⟨w', ?_⟩
      refine ht σ' H3 F3 hs3 ss' _ fun H4 F4 s4 hs4 => ?_
      cases c with
      | true =>
        obtain ⟨e, x2, he, hI⟩ := hyes rfl
        refine he σ' H4 F4 hs4 (ss'.mono s4) _ fun y H5 F5 s5 hs5 r5 => ?_
        obtain ⟨o, ho, xs, rfl, hxs⟩ := hs5.at (k := 0) rfl
        refine ⟨xs, ho, by rw [dpAll_len hxs]; exact Nat.lt_of_lt_of_le (Nat.lt_of_le_of_lt la (Nat.lt_of_lt_of_le hlt hl)) sizeLine_big, x2, acc ++ [e], F5, by simp; omega, hI, ((s2.trans s3).trans s4).trans s5, ?_⟩
        exact hs5.put (k := 0) (O' := OL K (acc ++ [e])) rfl ⟨_, rfl, dpAll_append hxs (.cons r5 .nil)⟩
      | false => exact ⟨x1, acc, F4, by omega, hno rfl, (s2.trans s3).trans s4, hs4⟩
    · have e : i = ds.length := by omega
      subst e
      obtain ⟨e1, e2⟩ := done x acc hx
      subst e1
      rw [e2] at hs2
      exact .inl ⟨(ok _ H2 F2 s2 (by rw [← e2] at hs2; exact hs2) _).2 (Nat.le_refl _), q Dl H2 F2 (s1.trans s2) hs2⟩
/-- a comprehension whose turns change nothing: what passes, and what is made of it -/
theorem evN_lcP {wi : TI} {g : TG} {ds : List PyData} (hi : EvIt K wi G D0 ds D1) (c : PyData → Bool) (f : PyData → PyData) (hl : ds.length ≤ 100000)
    (step : ∀ d, d ∈ ds → ∃ G', EvW g vs (wipeG G vs) (TL.D K d) G' ∧ (∀ D, EvT tt G' D (c d) D) ∧ (c d = true → ∀ D, Ev te G' D (TL.D K (f d)) D)) : EvN (tLc wi g tt te vs) G D0 (OL K ((ds.filter c).map f)) D1 := by
  refine evN_lc (S := Unit) hi (fun k _ acc => acc = ((ds.take k).filter c).map f) (fun _ => D1) () rfl (List.Sublist.refl _) hl ?_ ?_
  · rintro k s acc d p hd rfl
    obtain ⟨G', h1, h2, h3⟩ := step d (List.mem_of_getElem? hd)
    have tk : ds.take (k + 1) = ds.take k ++ [d] := by
      rw [List.take_succ, hd]
      rfl
    refine ⟨G', h1, c d, (), h2 _, fun e => ⟨f d, (), h3 e _, ?_⟩, fun e => ?_⟩
    · rw [tk, List.filter_append, List.map_append]
      simp [e]
    · rw [tk, List.filter_append, List.map_append]
      simp [e]
  · rintro s acc rfl
    rw [List.take_length]
    exact ⟨rfl, rfl⟩
end
end TL

set_option Elab.async false
set_option linter.all false
set_option maxRecDepth 100000
set_option maxHeartbeats 1000000
namespace TL
open PySem PySem.Spec L2
/-! ## lists: counts, slices, unpacking, freezing -/
def rCntD (K : PySem.W.Frag) : V → List V → Hp → VK → Prop := fun x xs H Q => ∃ (y : V) (d : PyData) (ds : List PyData), xs = [y] ∧ Dp K H x (.list ds) ∧ Dp K H y d ∧ SeqAt.shaped (.list ds) = true ∧ SeqAt.shaped d = true ∧ Q (.int (ds.countP fun z => PyData.eqv z d : Nat)) H
theorem mt_countD {X : Cx} (hu : X.A.units + 65 < cLine) : MtR X "list.count" (rCntD X.K) := by
  intro pins s σ H x xs v us Q I rx rxs h
  obtain ⟨y, d, ds, rfl, hl, hy, sl, sd, q⟩ := h
  obtain ⟨uy, rfl, ry⟩ := rxs.one
  obtain ⟨bs, r1⟩ := Dp.reads I d y uy hy ry
  have lay : PyData.canLayAll0 ds = true := SeqAt.canLay_of_shaped sl
  have room : X.A.units + 1 + min (PyData.depthAll ds) d.depth < cLine := by
    have h1 := SeqAt.depth_of_shaped sd
    have h2 : min (PyData.depthAll ds) d.depth ≤ d.depth := Nat.min_le_right _ _
    omega
  cases hl with
  | lst hs ha =>
    cases rx
    obtain ⟨its, rv, ⟨⟨cls, dd, data, sls⟩, n, ho, hc, hdn, hdt⟩, hlen⟩ := I.list hs
    simp only at hc hdt
    subst hc hdt
    obtain ⟨as, h4⟩ := Dp.readsAll I ds _ its ha rv
    have same : its.map (SeqAt.readOf s.heap) = ds := SeqAt.readsAll_map ds its as lay h4
    have cnt : its.toArray.toList.countP (fun u => PyData.eqv (SeqAt.readOf s.heap u) d) = ds.countP fun z => PyData.eqv z d := by
      rw [← same, List.countP_map]
      rfl
    refine call_meets PySem.F.slot_list_count ⟨_, ho, rfl⟩ PySem.F.entry_list_count (PySem.F.args_list_count_2 _ _)
      (SeqAt.list_countAt _ its.toArray n dd sls uy (fun u => PyData.eqv (SeqAt.readOf s.heap u) d)) ⟨ho, SeqAt.items_eqAt (vs := its.toArray) (show ReadsAll s.heap its.toArray.toList ds as from h4) r1 lay (SeqAt.canLay_of_shaped sd) room, ?_⟩
    rw [cnt]
    exact ⟨.int _, H, I.tok _, ⟨_, rfl⟩, q⟩
theorem hu_65 {k : Nat} {A : Around} (r : Room k A) : A.units + 65 < cLine := by
  have := r.un
  omega
/-- a list that stands in the frozen part itself -/
def DLs (K : PySem.W.Frag) (ds : List PyData) : Ty := ⟨fun v F => ∃ a xs, v = .ref a ∧ F a = some (.lst xs) ∧ DpAll K F xs ds, fun s ⟨a, xs, e, h1, h2⟩ => ⟨a, xs, e, s _ _ h1, dpAll_mono s ds xs h2⟩⟩
theorem dls_d {K : PySem.W.Frag} {ds : List PyData} : ∀ v F, (DLs K ds).p v F → (D K (.list ds)).p v F := fun v F ⟨a, xs, e, h1, h2⟩ => by
  subst e
  exact .lst (SqL.of h1) h2
theorem dpAll_drop {K : PySem.W.Frag} {F : Hp} : ∀ {ds : List PyData} {vs : List V}, DpAll K F vs ds → ∀ n, DpAll K F (vs.drop n) (ds.drop n)
  | _, _, h, 0 => h
  | [], _, h, n + 1 => by cases h; exact .nil
  | d :: ds, _, h, n + 1 => by
    cases h with
    | cons h1 h2 => exact dpAll_drop h2 n
theorem dpAll_take {K : PySem.W.Frag} {F : Hp} : ∀ {ds : List PyData} {vs : List V}, DpAll K F vs ds → ∀ n, DpAll K F (vs.take n) (ds.take n)
  | _, _, h, 0 => .nil
  | [], _, h, n + 1 => by cases h; exact .nil
  | d :: ds, _, h, n + 1 => by
    cases h with
    | cons h1 h2 => exact .cons h1 (dpAll_take h2 n)
theorem dpAll_rev {K : PySem.W.Frag} {F : Hp} : ∀ {ds : List PyData} {vs : List V}, DpAll K F vs ds → DpAll K F vs.reverse ds.reverse
  | [], _, h => by cases h; exact .nil
  | d :: ds, _, h => by
    cases h with
    | cons h1 h2 =>
      rw [List.reverse_cons, List.reverse_cons]
      exact dpAll_append (dpAll_rev h2) (.cons h1 .nil)
def cutD (ds : List PyData) (lo hi : Option Int) : List PyData := (ds.drop (HT.sIx ds.length 0 lo)).take (HT.sIx ds.length ds.length hi - HT.sIx ds.length 0 lo)
theorem dpAll_cut {K : PySem.W.Frag} {F : Hp} {ds : List PyData} {vs : List V} (h : DpAll K F vs ds) (lo hi : Option Int) : DpAll K F (cutV vs lo hi) (cutD ds lo hi) := by
  unfold cutV cutD
  rw [dpAll_len h]
  exact dpAll_take (dpAll_drop h _) _
/-- the parts of a slice -/
def EvO (to : TO) (G : Sto) (D : Own) (o : Option Int) (D' : Own) : Prop := ∀ (σ : L2.St) (H F : Hp), HS D H F → SS F G σ → ∀ Q : Option Int → Hp → Prop, (∀ H' F', Same F F' → HS D' H' F' → Q o H') → to σ H Q
section
variable {K : PySem.W.Frag} {G G1 G2 : Sto} {D0 D1 D2 D3 : Own} {te ta tb : TE} {tt : TT} {R Ra Rb : Ty} {F0 F1 : Hp} {E : Ends} {X : XK} {tl th : TO}
theorem evO_none : EvO tNoPart G D0 none D0 := fun σ H F hs ss Q q => q H F (Same.refl _) hs
theorem evO_some {i : Int} (h : Ev te G D0 (DI K i) D1) : EvO (tPart te) G D0 (some i) D1 := fun σ H F hs ss Q q =>
  h σ H F hs ss _ fun v H1 F1 s1 hs1 r1 => ⟨i, dp_int r1, q H1 F1 s1 hs1⟩
theorem ev_slL {ds : List PyData} {lo hi : Option Int} (h : Ev te G D0 (TL.D K (.list ds)) D1) (hl : EvO tl G D1 lo D2) (hh : EvO th G D2 hi D3) : Ev (tSl (rSlL K) te tl th) G D0 (DLs K (cutD ds lo hi)) D3 := fun σ H F hs ss Q q =>
  h σ H F hs ss _ fun v H1 F1 s1 hs1 r1 => hl σ H1 F1 hs1 (ss.mono s1) _ fun H2 F2 s2 hs2 => hh σ H2 F2 hs2 ((ss.mono s1).mono s2) _ fun H3 F3 s3 hs3 => by
    obtain ⟨a, xs, rfl, h1, h2⟩ := dp_lst r1
    refine ⟨a, xs, rfl, sqL_up hs3 ((s2.trans s3).seq h1), fun p hp => ?_⟩
    have s4 : Same F3 (upd F3 p (.lst (cutV xs lo hi))) := same_new (hs3.free hp)
    exact q _ _ _ (((s1.trans s2).trans s3).trans s4) (hs3.frz hp) ⟨p, _, rfl, upd_same, dpAll_cut (dpAll_mono ((s2.trans s3).trans s4) ds xs h2) lo hi⟩
theorem ev_revL {ds : List PyData} (h : Ev te G D0 (TL.D K (.list ds)) D1) : Ev (tRevL K te) G D0 (DLs K ds.reverse) D1 := fun σ H F hs ss Q q =>
  h σ H F hs ss _ fun v H1 F1 s1 hs1 r1 => by
    obtain ⟨a, xs, rfl, h1, h2⟩ := dp_lst r1
    refine ⟨a, xs, rfl, sqL_up hs1 h1, fun p hp => ?_⟩
    have s4 : Same F1 (upd F1 p (.lst xs.reverse)) := same_new (hs1.free hp)
    exact q _ _ _ (s1.trans s4) (hs1.frz hp) ⟨p, _, rfl, upd_same, dpAll_rev (dpAll_mono s4 ds xs h2)⟩
theorem ev_catL {ds es : List PyData} (ha : Ev ta G D0 (DLs K ds) D1) (hb : Ev tb G D1 (DLs K es) D2) (hl : ds.length + es.length ≤ 100000) : Ev (tOp (qAdd K) ta tb) G D0 (DLs K (ds ++ es)) D2 := fun σ H F hs ss Q q =>
  ha σ H F hs ss _ fun x H1 F1 s1 hs1 r1 => hb σ H1 F1 hs1 (ss.mono s1) _ fun y H2 F2 s2 hs2 r2 => by
    obtain ⟨a, xs, rfl, h1, h2⟩ := r1
    obtain ⟨b, ys, rfl, h3, h4⟩ := r2
    refine .inr (.inr (.inl ⟨a, b, xs, ys, rfl, rfl, hs2.sub _ _ (s2 _ _ h1), hs2.sub _ _ h3, by rw [dpAll_len h2, dpAll_len h4]; exact Nat.le_trans hl sizeLine_big, fun p hp => ?_⟩))
    have s4 : Same F2 (upd F2 p (.lst (xs ++ ys))) := same_new (hs2.free hp)
    exact q _ _ _ ((s1.trans s2).trans s4) (hs2.frz hp) ⟨p, _, rfl, upd_same, dpAll_append (dpAll_mono (s2.trans s4) ds xs h2) (dpAll_mono s4 es ys h4)⟩
theorem ev_dls {ds : List PyData} (h : Ev te G D0 (DLs K ds) D1) : Ev te G D0 (TL.D K (.list ds)) D1 := ev_imp h dls_d
theorem evG_lst {gs : TGs} {ds : List PyData} {n : Nat} (h : EvGs K gs G ds G1) (hn : ds.length = n) : EvG (gLst K n gs) G (TL.D K (.list ds)) G1 := fun v σ H F D hs ss r Q q => by
  obtain ⟨a, xs, rfl, h1, h2⟩ := dp_lst r
  exact ⟨a, xs, rfl, sqL_up hs h1, (dpAll_len h2).trans hn, h xs σ H F D hs ss h2 Q q⟩
theorem ev_count {ds : List PyData} {d : PyData} (ha : Ev ta G D0 (TL.D K (.list ds)) D1) (hb : Ev tb G D1 (TL.D K d) D2) (sl : SeqAt.shaped (.list ds) = true) (sd : SeqAt.shaped d = true) :
    Ev (tBM K "list" (rCntD K) ta (tCons tb tNil)) G D0 (DI K (ds.countP fun z => PyData.eqv z d : Nat)) D2 := fun σ H F hs ss Q q =>
  ha σ H F hs ss _ fun x H1 F1 s1 hs1 r1 => by
    obtain ⟨a, xs, rfl, h1, h2⟩ := dp_lst r1
    refine ⟨.inl ⟨rfl, xs, sqL_up hs1 h1⟩, hb σ H1 F1 hs1 (ss.mono s1) _ fun y H2 F2 s2 hs2 r2 => ?_⟩
    exact ⟨y, d, ds, rfl, dp_up hs2 (dp_mono s2 _ _ r1), dp_up hs2 r2, sl, sd, q _ H2 F2 (s1.trans s2) hs2 (.int _)⟩
/-- an owned list at k, held by the slot i, is frozen -/
theorem go_freeze {P : L2.St → Hp → Prop} {k i : Nat} {a : Addr} {ds : List PyData} (hk : D0[k]? = some (a, OL K ds)) (hi : G[i]? = some (some (Is (.ref a)))) (h : Go P F0 (G.set i (some (DLs K ds))) (D0.eraseIdx k)) : Go P F0 G D0 := fun σ H F s hs ss => by
  obtain ⟨o, ⟨xs, e, hx⟩, hs2, s2⟩ := hs.freeze hk
  subst e
  obtain ⟨v, e1, e2⟩ := ss.get hi
  have ev : v = .ref a := e2
  subst ev
  have z := (ss.mono s2).set (R := DLs K ds) (v := .ref a) ⟨a, xs, rfl, upd_same, dpAll_mono s2 ds xs hx⟩ i
  have same : σ.set i (some (.ref a)) = σ := by
    refine List.ext_getElem? fun j => ?_
    by_cases q : j = i
    · subst q
      have lt : j < σ.length := (List.getElem?_eq_some_iff.mp e1).1
      rw [List.getElem?_set_self lt, e1]
    · rw [List.getElem?_set_ne (Ne.symm q)]
  rw [same] at z
  exact h σ H _ (s.trans s2) hs2 z
end
end TL

set_option Elab.async false
set_option linter.all false
set_option maxRecDepth 100000
set_option maxHeartbeats 1000000
namespace TL
open PySem PySem.Spec L2
/-! ## kinds with something unknown in them -/
def Ty.ex {α : Type} (f : α → Ty) (p : α → Prop) : Ty := ⟨fun v F => ∃ a, p a ∧ (f a).p v F, fun s ⟨a, h1, h2⟩ => ⟨a, h1, (f a).mono s h2⟩⟩
def OTy.ex {α : Type} (f : α → OTy) (p : α → Prop) : OTy := ⟨fun v F => ∃ a, p a ∧ (f a).p v F, fun s ⟨a, h1, h2⟩ => ⟨a, h1, (f a).mono s h2⟩⟩
/-- the first entry of a table under a name -/
def getM (m : List (Str × PyData)) (k : Str) : Option PyData := (m.find? fun e => decide (e.1 = k)).map (·.2)
def putM (m : List (Str × PyData)) (k : Str) (d : PyData) : List (Str × PyData) :=
  if (m.any fun e => decide (e.1 = k)) = true then m.map (fun e => if e.1 = k then (e.1, d) else e) else m ++ [(k, d)]
inductive EntP (K : PySem.W.Frag) (F : Hp) : List (L2.Key × V) → List (Str × PyData) → Prop
  | nil : EntP K F [] []
  | cons {k : Str} {v : V} {d : PyData} {kvs : List (L2.Key × V)} {m : List (Str × PyData)} : Dp K F v d → EntP K F kvs m → EntP K F ((Sum.inr k, v) :: kvs) ((k, d) :: m)
theorem EntP.mono {K : PySem.W.Frag} {F F' : Hp} {kvs : List (L2.Key × V)} {m : List (Str × PyData)} (h : EntP K F kvs m) (s : Same F F') : EntP K F' kvs m := by
  induction h with
  | nil => exact .nil
  | cons h _ ih => exact .cons (dp_mono s _ _ h) ih
theorem EntP.len {K : PySem.W.Frag} {F : Hp} {kvs : List (L2.Key × V)} {m : List (Str × PyData)} (h : EntP K F kvs m) : kvs.length = m.length := by
  induction h with
  | nil => rfl
  | cons _ _ ih => simp [ih]
theorem EntP.keys {K : PySem.W.Frag} {F : Hp} {kvs : List (L2.Key × V)} {m : List (Str × PyData)} (h : EntP K F kvs m) : kvs.map (·.1) = (m.map (·.1)).map Sum.inr := by
  induction h with
  | nil => rfl
  | cons _ _ ih => simp [ih]
theorem EntP.get {K : PySem.W.Frag} {F : Hp} {kvs : List (L2.Key × V)} {m : List (Str × PyData)} (h : EntP K F kvs m) (k : Str) : (getM m k = none ∧ valV kvs (Sum.inr k) = none) ∨ ∃ d v, getM m k = some d ∧ valV kvs (Sum.inr k) = some v ∧ Dp K F v d := by
  induction h with
  | nil => exact .inl ⟨rfl, rfl⟩
  | @cons k' v d kvs m hd _ ih =>
    by_cases e : k' = k
    · subst e
      exact .inr ⟨d, v, by simp [getM], by simp [valV], hd⟩
    · have e1 : getM ((k', d) :: m) k = getM m k := by simp [getM, e]
      have e2 : valV ((Sum.inr k', v) :: kvs) (Sum.inr k : L2.Key) = valV kvs (Sum.inr k) := valV_neg (fun z => e (Sum.inr.inj z))
      rw [e1, e2]
      exact ih
theorem EntP.any {K : PySem.W.Frag} {F : Hp} {kvs : List (L2.Key × V)} {m : List (Str × PyData)} (h : EntP K F kvs m) (k : Str) : (kvs.any fun e => decide (e.1 = (Sum.inr k : L2.Key))) = (m.any fun e => decide (e.1 = k)) := by
  induction h with
  | nil => rfl
  | @cons k' v d kvs m _ _ ih =>
    rw [List.any_cons, List.any_cons, ih]
    congr 1
    by_cases e : k' = k
    · subst e; simp
    · simp [e]
theorem EntP.snoc {K : PySem.W.Frag} {F : Hp} {kvs : List (L2.Key × V)} {m : List (Str × PyData)} (h : EntP K F kvs m) {k : Str} {v : V} {d : PyData} (hd : Dp K F v d) : EntP K F (kvs ++ [(Sum.inr k, v)]) (m ++ [(k, d)]) := by
  induction h with
  | nil => exact .cons hd .nil
  | cons h _ ih => exact .cons h ih
theorem EntP.repl {K : PySem.W.Frag} {F : Hp} {kvs : List (L2.Key × V)} {m : List (Str × PyData)} (h : EntP K F kvs m) {k : Str} {v : V} {d : PyData} (hd : Dp K F v d) :
    EntP K F (kvs.map fun e => if e.1 = (Sum.inr k : L2.Key) then (e.1, v) else e) (m.map fun e => if e.1 = k then (e.1, d) else e) := by
  induction h with
  | nil => exact .nil
  | @cons k' v' d' kvs m h _ ih =>
    rw [List.map_cons, List.map_cons]
    by_cases e : k' = k
    · subst e
      rw [if_pos rfl, if_pos rfl]
      exact .cons hd ih
    · rw [if_neg (fun z => e (Sum.inr.inj z)), if_neg e]
      exact .cons h ih
theorem EntP.put {K : PySem.W.Frag} {F : Hp} {kvs : List (L2.Key × V)} {m : List (Str × PyData)} (h : EntP K F kvs m) {k : Str} {v : V} {d : PyData} (hd : Dp K F v d) : EntP K F (putK kvs (Sum.inr k) v) (putM m k d) := by
  unfold putK putM
  rw [h.any k]
  split
  · exact h.repl hd
  · exact h.snoc hd
/-- an owned dict, its keys texts -/
def OD (K : PySem.W.Frag) (m : List (Str × PyData)) : OTy := ⟨fun o F => ∃ kvs, o = .dK kvs ∧ EntP K F kvs m, fun s ⟨kvs, e, h⟩ => ⟨kvs, e, h.mono s⟩⟩
def rIxSd : R2 := rIxS
section
variable {K : PySem.W.Frag} {G G1 G2 : Sto} {D0 D1 D2 D3 : Own} {te ta tb tx : TE} {tt : TT} {R Ra Rb : Ty} {F0 F1 : Hp} {E : Ends} {X : XK} {tl th : TO}
/-- what is unknown of a slot's value is named -/
theorem go_open {α : Type} {P : L2.St → Hp → Prop} {f : α → Ty} {p : α → Prop} {i : Nat} (hi : G[i]? = some (some (Ty.ex f p))) (h : ∀ a, p a → Go P F0 (G.set i (some (f a))) D0) : Go P F0 G D0 := fun σ H F s hs ss => by
  obtain ⟨v, e1, a, pa, ra⟩ := ss.get hi
  have z := ss.set (R := f a) ra i
  have same : σ.set i (some v) = σ := by
    refine List.ext_getElem? fun j => ?_
    by_cases q : j = i
    · subst q
      have lt : j < σ.length := (List.getElem?_eq_some_iff.mp e1).1
      rw [List.getElem?_set_self lt, e1]
    · rw [List.getElem?_set_ne (Ne.symm q)]
  rw [same] at z
  exact h a pa σ H F s hs z
/-- what is unknown of an owned thing is named -/
theorem HS.reown {D : Own} {H F : Hp} (h : HS D H F) {k : Nat} {a : Addr} {O O' : OTy} (hk : D[k]? = some (a, O)) (f : ∀ o, O.p o F → H a = some o → O'.p o F) : HS (D.set k (a, O')) H F where
  sub := h.sub
  own := fun b O2 m => by
    rcases List.mem_or_eq_of_mem_set m with z | z
    · exact h.own b O2 z
    · cases z
      obtain ⟨n, o, e, q⟩ := h.own a O (List.mem_of_getElem? hk)
      exact ⟨n, o, e, f o q e⟩
  nd := by
    have : (D.set k (a, O')).map (·.1) = D.map (·.1) := by
      refine List.ext_getElem? fun j => ?_
      rw [List.getElem?_map, List.getElem?_map]
      by_cases q : k = j
      · subst q
        rw [List.getElem?_set_self (List.getElem?_eq_some_iff.mp hk).1, hk]
        rfl
      · rw [List.getElem?_set_ne q]
    rw [this]
    exact h.nd
theorem go_openO {α : Type} {P : L2.St → Hp → Prop} {f : α → OTy} {p : α → Prop} {k : Nat} {a : Addr} (hk : D0[k]? = some (a, OTy.ex f p)) (h : ∀ x, p x → Go P F0 G (D0.set k (a, f x))) : Go P F0 G D0 := fun σ H F s hs ss => by
  obtain ⟨n, o, e, x, px, rx⟩ := hs.own a _ (List.mem_of_getElem? hk)
  refine h x px σ H F s (hs.reown hk fun o' _ e' => ?_) ss
  rw [e] at e'
  cases e'
  exact rx
/-- an owned thing is said to be less -/
theorem go_shut {P : L2.St → Hp → Prop} {k : Nat} {a : Addr} {O O' : OTy} (hk : D0[k]? = some (a, O)) (f : ∀ o F, O.p o F → O'.p o F) (h : Go P F0 G (D0.set k (a, O'))) : Go P F0 G D0 := fun σ H F s hs ss =>
  h σ H F s (hs.reown hk fun o q _ => f o F q) ss
theorem ev_ex {α : Type} {f : α → Ty} {p : α → Prop} (a : α) (h : Ev te G D0 (f a) D1) (pa : p a) : Ev te G D0 (Ty.ex f p) D1 := ev_imp h fun _ _ r => ⟨a, pa, r⟩
/-! ## texts -/
theorem ix_S {x : Str} {i : Int} {c : Nat} (ha : Ev ta G D0 (DS K x) D1) (hb : Ev tb G D1 (DI K i) D2) (h : x.length ≤ sizeLine) (e : atI x.cps.toList i = some c) : Ev (tOp (rIx K) ta tb) G D0 (DS K ⟨#[c]⟩) D2 :=
  ev2 ha hb fun u v H F hs ru rv Q q => by
    rw [dp_str ru, dp_int rv]
    exact .inr (.inr ⟨x, i, c, rfl, rfl, h, e, q _ H F (Same.refl _) hs (.str _)⟩)
theorem ev_slS {x : Str} {lo hi : Option Int} (h : Ev te G D0 (DS K x) D1) (hl : EvO tl G D1 lo D2) (hh : EvO th G D2 hi D3) (hx : x.length ≤ sizeLine) : Ev (tSl rSlS te tl th) G D0 (DS K (cutS x lo hi)) D3 := fun σ H F hs ss Q q =>
  h σ H F hs ss _ fun v H1 F1 s1 hs1 r1 => hl σ H1 F1 hs1 (ss.mono s1) _ fun H2 F2 s2 hs2 => hh σ H2 F2 hs2 ((ss.mono s1).mono s2) _ fun H3 F3 s3 hs3 => by
    rw [dp_str r1]
    exact ⟨x, rfl, hx, q _ H3 F3 ((s1.trans s2).trans s3) hs3 (.str _)⟩
abbrev rJoin (K : PySem.W.Frag) : V → List V → Hp → VK → Prop := fun x xs H Q => ∃ a p, ∃ ys : List Str, x = .str a ∧ xs = [.ref p] ∧ (SqL K H p (ys.map V.str) ∨ SqT K H p (ys.map V.str)) ∧
      (ys.map (·.length)).sum + ys.length * a.length ≤ 16777216 ∧ Q (.str (Txt.join a ys)) H
theorem strs_of {F : Hp} : ∀ {ys : List Str} {xs : List V}, DpAll K F xs (ys.map PyData.str) → xs = ys.map V.str
  | [], _, h => by cases h; rfl
  | y :: ys, _, h => by
    cases h with
    | cons h1 h2 =>
      rw [dp_str h1, strs_of h2]
      rfl
theorem ev_joinN {s : Str} {ys : List Str} (ha : Ev ta G D0 (DS K s) D1) (hb : EvN tb G D1 (OL K (ys.map .str)) D2) (h : (ys.map (·.length)).sum + ys.length * s.length ≤ 16777216) : Ev (tM1 (rJoin K) ta tb) G D0 (DS K (Txt.join s ys)) D2 := fun σ H F hs ss Q q =>
  ha σ H F hs ss _ fun v H1 F1 s1 hs1 r1 => ⟨⟨s, dp_str r1⟩, hb σ H1 F1 hs1 (ss.mono s1) _ fun p H2 F2 s2 hs2 => by
    obtain ⟨o, ho, xs, rfl, hx⟩ := hs2.at (k := 0) rfl
    refine ⟨s, p, ys, dp_str r1, rfl, .inl (SqL.of (by rw [← strs_of hx]; exact ho)), h, ?_⟩
    exact q _ H2 F2 (s1.trans s2) (hs2.drop (List.sublist_cons_self _ _)) (.str _)⟩
/-! ## dicts -/
theorem evN_dnew : EvN tDNewK G D0 (OD K []) D0 := fun σ H F hs ss Q q p hp => q p _ F (Same.refl _) (hs.new hp ⟨[], rfl, .nil⟩)
theorem ev_dget {m : List (Str × PyData)} {k : Nat} {a : Addr} {x : Str} {d : PyData} (ho : Ev ta G D0 (Is (.ref a)) D1) (hi : Ev tb G D1 (DS K x) D2) (hk : D2[k]? = some (a, OD K m)) (hg : getM m x = some d) : Ev (tDGet ta tb) G D0 (D K d) D2 := fun σ H F hs ss Q q =>
  ho σ H F hs ss _ fun u H1 F1 s1 hs1 r1 => hi σ H1 F1 hs1 (ss.mono s1) _ fun v H2 F2 s2 hs2 r2 => by
    have eu : u = .ref a := r1
    obtain ⟨o, ho, kvs, rfl, hx⟩ := hs2.at hk
    rcases hx.get x with ⟨e1, _⟩ | ⟨d', v', e1, e2, e3⟩
    · rw [hg] at e1; cases e1
    · rw [hg] at e1
      cases e1
      refine ⟨a, v', eu, ?_, q _ H2 F2 (s1.trans s2) hs2 e3⟩
      rw [dp_str r2, ← e2]
      exact DGet.k (k := Sum.inr x) ho
theorem ev_dgetD {m : List (Str × PyData)} {k k1 : Nat} {m1 : List (Str × PyData)} {a : Addr} {x : Str} {d : PyData} (ho : Ev ta G D0 (Is (.ref a)) D1) (hk1 : D1[k1]? = some (a, OD K m1)) (hi : Ev tb G D1 (DS K x) D2) (hd : Ev tx G D2 (D K d) D3) (hk : D3[k]? = some (a, OD K m)) : Ev (tDGet2 ta tb tx) G D0 (D K ((getM m x).getD d)) D3 := fun σ H F hs ss Q q =>
  ho σ H F hs ss _ fun u H1 F1 s1 hs1 r1 => by
    have eu : u = .ref a := r1
    obtain ⟨o, ho, kvs1, rfl, _⟩ := hs1.at hk1
    refine ⟨a, eu, .inl ⟨kvs1, .inl ho⟩, hi σ H1 F1 hs1 (ss.mono s1) _ fun v H2 F2 s2 hs2 r2 => hd σ H2 F2 hs2 ((ss.mono s1).mono s2) _ fun z H3 F3 s3 hs3 r3 => ?_⟩
    obtain ⟨o, ho, kvs, rfl, hx⟩ := hs3.at hk
    have g : DGet H3 a v (valV kvs (Sum.inr x)) := by
      rw [dp_str r2]
      exact DGet.k (k := Sum.inr x) ho
    rcases hx.get x with ⟨e1, e2⟩ | ⟨d', v', e1, e2, e3⟩
    · refine ⟨_, g, ?_⟩
      rw [e2]
      exact q _ H3 F3 ((s1.trans s2).trans s3) hs3 (by rw [e1]; exact r3)
    · refine ⟨_, g, ?_⟩
      rw [e2]
      exact q _ H3 F3 ((s1.trans s2).trans s3) hs3 (by rw [e1]; exact e3)
theorem ev_din {m : List (Str × PyData)} {k : Nat} {a : Addr} {x : Str} (hi : Ev ta G D0 (DS K x) D1) (ho : Ev tb G D1 (Is (.ref a)) D2) (hk : D2[k]? = some (a, OD K m)) : Ev (tDIn ta tb) G D0 (DB K (getM m x).isSome) D2 := fun σ H F hs ss Q q =>
  hi σ H F hs ss _ fun v H1 F1 s1 hs1 r1 => ho σ H1 F1 hs1 (ss.mono s1) _ fun u H2 F2 s2 hs2 r2 => by
    have eu : u = .ref a := r2
    obtain ⟨o, ho, kvs, rfl, hx⟩ := hs2.at hk
    have g : DGet H2 a v (valV kvs (Sum.inr x)) := by
      rw [dp_str r1]
      exact DGet.k (k := Sum.inr x) ho
    have e : (valV kvs (Sum.inr x)).isSome = (getM m x).isSome := by
      rcases hx.get x with ⟨e1, e2⟩ | ⟨d', v', e1, e2, e3⟩ <;> rw [e1, e2] <;> rfl
    exact ⟨a, _, eu, g, by rw [e]; exact q _ H2 F2 (s1.trans s2) hs2 (.bl _)⟩
theorem go_dput {m : List (Str × PyData)} {k : Nat} {a : Addr} {x : Str} {d : PyData} (hv : Ev te G D0 (D K d) D1) (ho : Ev ta G D1 (Is (.ref a)) D2) (hi : Ev tb G D2 (DS K x) D3) (hk : D3[k]? = some (a, OD K m)) (hl : m.length < 100000)
    (q : Go E.nx F0 G (D3.set k (a, OD K (putM m x d)))) : Go (sDPut ta tb te E) F0 G D0 := fun σ H F s hs ss =>
  hv σ H F hs ss _ fun v H1 F1 s1 hs1 r1 => ho σ H1 F1 hs1 (ss.mono s1) _ fun u H2 F2 s2 hs2 r2 => hi σ H2 F2 hs2 ((ss.mono s1).mono s2) _ fun y H3 F3 s3 hs3 r3 => by
    have eu : u = .ref a := r2
    obtain ⟨o, ho, kvs, rfl, hx⟩ := hs3.at hk
    refine ⟨a, _, eu, by rw [dp_str r3]; exact DPut.k (k := Sum.inr x) ho (by rw [hx.len]; exact Nat.lt_of_lt_of_le hl sizeLine_big), ?_⟩
    exact q σ _ F3 (((s.trans s1).trans s2).trans s3) (hs3.put hk ⟨_, rfl, hx.put (dp_mono (s2.trans s3) d v r1)⟩) (((ss.mono s1).mono s2).mono s3)
/-! ## sorted, tuple(..), list(..) -/
abbrev rSortD : List V → Hp → VK → Prop := fun xs H Q => ∃ (a : Addr) (kvs : List (L2.Key × V)) (ks : List Str), xs = [.ref a] ∧ Rd H a (.dK kvs) ∧ kvs.map (·.1) = ks.map Sum.inr ∧ ks.length < 64 ∧
    ∀ ys p, ys.Perm ks → PyProof.Rows.sortedS ys = true → H p = none → Q (.ref p) (upd H p (.lst (ys.map V.str)))
abbrev qSort (K : PySem.W.Frag) : List V → Hp → VK → Prop := fun xs H Q => rSortedS K xs H Q ∨ rSortD xs H Q
theorem call_sort {X : Cx} (hcalm : X.calm = true) : CallR X (.builtin "sorted") (qSort X.K) := CallR.or cr_sortedS (call_sortedD hcalm)
theorem dp_strs {F : Hp} : ∀ ys : List Str, DpAll K F (ys.map V.str) (ys.map PyData.str)
  | [] => .nil
  | y :: ys => .cons (.str y) (dp_strs ys)
/-- the sorted names -/
def SortP (ks : List Str) (ds : List PyData) : Prop := ∃ ys : List Str, ds = ys.map .str ∧ ys.Perm ks ∧ PyProof.Rows.sortedS ys = true
theorem ev_sortD {m : List (Str × PyData)} {k : Nat} {a : Addr} (ho : Ev ta G D0 (Is (.ref a)) D1) (hk : D1[k]? = some (a, OD K m)) (hl : m.length < 64) : Ev (tCB (qSort K) (tCons ta tNil)) G D0 (Ty.ex (DLs K) (SortP (m.map (·.1)))) D1 := fun σ H F hs ss Q q =>
  ho σ H F hs ss _ fun u H1 F1 s1 hs1 r1 => by
    have eu : u = .ref a := r1
    obtain ⟨o, ho, kvs, rfl, hx⟩ := hs1.at hk
    refine .inr ⟨a, kvs, m.map (·.1), by rw [eu], .inl ho, hx.keys, by simpa using hl, fun ys p pm so hp => ?_⟩
    exact q _ _ (upd F1 p (.lst (ys.map V.str))) (s1.trans (same_new (hs1.free hp))) (hs1.frz hp) ⟨_, ⟨ys, rfl, pm, so⟩, p, _, rfl, upd_same, dp_strs ys⟩
theorem ev_sortL {ks : List Str} (ho : Ev ta G D0 (TL.D K (.list (ks.map .str))) D1) (hl : ks.length < 64) : Ev (tCB (qSort K) (tCons ta tNil)) G D0 (Ty.ex (DLs K) (SortP ks)) D1 := fun σ H F hs ss Q q =>
  ho σ H F hs ss _ fun u H1 F1 s1 hs1 r1 => by
    obtain ⟨a, xs, rfl, h1, h2⟩ := dp_lst r1
    rw [strs_of h2] at h1
    refine .inl ⟨a, ks, rfl, sqL_up hs1 h1, hl, fun ys p pm so hp => ?_⟩
    exact q _ _ (upd F1 p (.lst (ys.map V.str))) (s1.trans (same_new (hs1.free hp))) (hs1.frz hp) ⟨_, ⟨ys, rfl, pm, so⟩, p, _, rfl, upd_same, dp_strs ys⟩
abbrev cTup (K : PySem.W.Frag) : List V → Hp → VK → Prop := fun xs H Q => ∃ p ys, xs = [.ref p] ∧ ((SqL K H p ys ∧ ∀ l, H l = none → Q (.ref l) (upd H l (.tup ys))) ∨ (SqT K H p ys ∧ Q (.ref p) H))
abbrev cLst0 (K : PySem.W.Frag) : List V → Hp → VK → Prop := fun xs H Q => ∃ p ys, xs = [.ref p] ∧ (SqL K H p ys ∨ SqT K H p ys) ∧ ∀ l, H l = none → Q (.ref l) (upd H l (.lst ys))
abbrev cLstD : List V → Hp → VK → Prop := fun xs H Q => ∃ (a : Addr) (kvs : List (L2.Key × V)), xs = [.ref a] ∧ Rd H a (.dK kvs) ∧ ∀ p, H p = none → Q (.ref p) (upd H p (.lst (kvs.map fun kv => kV kv.1)))
abbrev cLst (K : PySem.W.Frag) : List V → Hp → VK → Prop := fun xs H Q => cLst0 K xs H Q ∨ cLstD xs H Q
theorem call_lstU {X : Cx} (hcalm : X.calm = true) : CallR X (.type "list") (cLst X.K) := CallR.or call_list_of (call_listD hcalm)
theorem keys_strs {F : Hp} {kvs : List (L2.Key × V)} {m : List (Str × PyData)} (h : EntP K F kvs m) : (kvs.map fun kv => kV kv.1) = (m.map (·.1)).map V.str := by
  induction h with
  | nil => rfl
  | cons _ _ ih =>
    rw [List.map_cons, List.map_cons, List.map_cons, ih]
    rfl
/-- list(a dict): its names -/
theorem ev_lstD {m : List (Str × PyData)} {k : Nat} {a : Addr} (ho : Ev ta G D0 (Is (.ref a)) D1) (hk : D1[k]? = some (a, OD K m)) : Ev (tCB (cLst K) (tCons ta tNil)) G D0 (DLs K ((m.map (·.1)).map .str)) D1 := fun σ H F hs ss Q q =>
  ho σ H F hs ss _ fun u H1 F1 s1 hs1 r1 => by
    have eu : u = .ref a := r1
    obtain ⟨o, ho, kvs, rfl, hx⟩ := hs1.at hk
    refine .inr ⟨a, kvs, by rw [eu], .inl ho, fun p hp => ?_⟩
    rw [keys_strs hx]
    exact q _ _ (upd F1 p (.lst ((m.map (·.1)).map V.str))) (s1.trans (same_new (hs1.free hp))) (hs1.frz hp) ⟨p, _, rfl, upd_same, dp_strs _⟩
/-- tuple(a new list) -/
theorem ev_tupN {ds : List PyData} (h : EvN te G D0 (OL K ds) D1) : Ev (tCB (cTup K) (tCons te tNil)) G D0 (TL.D K (.tuple ds)) D1 := fun σ H F hs ss Q q =>
  h σ H F hs ss _ fun p H1 F1 s1 hs1 => by
    obtain ⟨o, ho, xs, rfl, hx⟩ := hs1.at (k := 0) rfl
    refine ⟨p, xs, rfl, .inl ⟨SqL.of ho, fun l hl => ?_⟩⟩
    have s2 : Same F1 (upd F1 l (.tup xs)) := same_new (hs1.free hl)
    exact q _ _ (upd F1 l (.tup xs)) (s1.trans s2) ((hs1.frz hl).drop (List.sublist_cons_self _ _)) (.tup (SqT.of upd_same) (dpAll_mono s2 ds xs hx))
/-- tuple(a list that stands) -/
theorem ev_tupL {ds : List PyData} (h : Ev te G D0 (TL.D K (.list ds)) D1) : Ev (tCB (cTup K) (tCons te tNil)) G D0 (TL.D K (.tuple ds)) D1 := fun σ H F hs ss Q q =>
  h σ H F hs ss _ fun v H1 F1 s1 hs1 r1 => by
    obtain ⟨a, xs, rfl, h1, h2⟩ := dp_lst r1
    refine ⟨a, xs, rfl, .inl ⟨sqL_up hs1 h1, fun l hl => ?_⟩⟩
    have s2 : Same F1 (upd F1 l (.tup xs)) := same_new (hs1.free hl)
    exact q _ _ (upd F1 l (.tup xs)) (s1.trans s2) (hs1.frz hl) (.tup (SqT.of upd_same) (dpAll_mono s2 ds xs h2))
theorem ev_tupOfT {ds : List PyData} (h : Ev te G D0 (TL.D K (.tuple ds)) D1) : Ev (tCB (cTup K) (tCons te tNil)) G D0 (TL.D K (.tuple ds)) D1 := fun σ H F hs ss Q q =>
  h σ H F hs ss _ fun v H1 F1 s1 hs1 r1 => by
    obtain ⟨a, xs, rfl, h1, h2⟩ := dp_tup r1
    exact ⟨a, xs, rfl, .inr ⟨sqT_up hs1 h1, q _ H1 F1 s1 hs1 r1⟩⟩
theorem ev_lstL {ds : List PyData} (h : Ev te G D0 (TL.D K (.list ds)) D1) : Ev (tCB (cLst K) (tCons te tNil)) G D0 (DLs K ds) D1 := fun σ H F hs ss Q q =>
  h σ H F hs ss _ fun v H1 F1 s1 hs1 r1 => by
    obtain ⟨a, xs, rfl, h1, h2⟩ := dp_lst r1
    refine .inl ⟨a, xs, rfl, .inl (sqL_up hs1 h1), fun l hl => ?_⟩
    have s2 : Same F1 (upd F1 l (.lst xs)) := same_new (hs1.free hl)
    exact q _ _ (upd F1 l (.lst xs)) (s1.trans s2) (hs1.frz hl) ⟨l, xs, rfl, upd_same, dpAll_mono s2 ds xs h2⟩
theorem ev_lstOfT {ds : List PyData} (h : Ev te G D0 (TL.D K (.tuple ds)) D1) : Ev (tCB (cLst K) (tCons te tNil)) G D0 (DLs K ds) D1 := fun σ H F hs ss Q q =>
  h σ H F hs ss _ fun v H1 F1 s1 hs1 r1 => by
    obtain ⟨a, xs, rfl, h1, h2⟩ := dp_tup r1
    refine .inl ⟨a, xs, rfl, .inr (sqT_up hs1 h1), fun l hl => ?_⟩
    have s2 : Same F1 (upd F1 l (.lst xs)) := same_new (hs1.free hl)
    exact q _ _ (upd F1 l (.lst xs)) (s1.trans s2) (hs1.frz hl) ⟨l, xs, rfl, upd_same, dpAll_mono s2 ds xs h2⟩
theorem ev_lstO {ds : List PyData} {k : Nat} {a : Addr} (ho : Ev ta G D0 (Is (.ref a)) D1) (hk : D1[k]? = some (a, OL K ds)) : Ev (tCB (cLst K) (tCons ta tNil)) G D0 (DLs K ds) D1 := fun σ H F hs ss Q q =>
  ho σ H F hs ss _ fun u H1 F1 s1 hs1 r1 => by
    have eu : u = .ref a := r1
    obtain ⟨o, ho, xs, rfl, hx⟩ := hs1.at hk
    refine .inl ⟨a, xs, by rw [eu], .inl (SqL.of ho), fun l hl => ?_⟩
    have s2 : Same F1 (upd F1 l (.lst xs)) := same_new (hs1.free hl)
    exact q _ _ (upd F1 l (.lst xs)) (s1.trans s2) (hs1.frz hl) ⟨l, xs, rfl, upd_same, dpAll_mono s2 ds xs hx⟩
/-! ## zip of two tuples -/
theorem evIt_zipT {ds es : List PyData} (ha : Ev ta G D0 (TL.D K (.tuple ds)) D1) (hb : Ev tb G D1 (TL.D K (.tuple es)) D2) (hl : ds.length = es.length) : EvIt K (RZ.iZipA K (tCons ta (tCons tb tNil))) G D0 ((List.zip ds es).map fun e => .tuple [e.1, e.2]) D2 := fun σ H F hs ss R q =>
  ha σ H F hs ss _ fun v H1 F1 s1 hs1 r1 => hb σ H1 F1 hs1 (ss.mono s1) _ fun w H2 F2 s2 hs2 r2 => by
    obtain ⟨a, xs, rfl, h1, h2⟩ := dp_tup r1
    obtain ⟨b, ys, rfl, h3, h4⟩ := dp_tup r2
    refine ⟨a, b, xs, ys, rfl, .inr ⟨sqT_up hs2 (same_sqT s2 h1), sqT_up hs2 h3, q _ H2 F2 (s1.trans s2) hs2 fun D H3 F3 s3 hs3 i => ⟨fun d hd => ?_, fun hi => ?_⟩⟩⟩
    · rw [List.getElem?_map] at hd
      cases e : (List.zip ds es)[i]? with
      | none => rw [e] at hd; cases hd
      | some z =>
        rw [e] at hd
        cases hd
        obtain ⟨z1, z2⟩ := z
        obtain ⟨e1, e2⟩ := List.getElem?_zip_eq_some.mp e
        obtain ⟨x, ex, rx⟩ := dpAll_get h2 e1
        obtain ⟨y, ey, ry⟩ := dpAll_get h4 e2
        have qa : SqT K H3 a xs := sqT_up hs3 (same_sqT (s2.trans s3) h1)
        have qb : SqT K H3 b ys := sqT_up hs3 (same_sqT s3 h3)
        refine ⟨⟨xs, ys, x, y, qa, qb, ex, ey⟩, fun t H' hy => ?_⟩
        obtain ⟨T, x', y', rfl, hT, rfl, g1, g2⟩ := hy
        have k1 := g1 xs qa
        have k2 := g2 ys qb
        rw [ex] at k1
        rw [ey] at k2
        cases k1
        cases k2
        have s4 : Same F3 (upd F3 T (.tup [x, y])) := same_new (hs3.free hT)
        exact ⟨_, s4, hs3.frz hT, .tup (SqT.of upd_same) (.cons (dp_mono ((s2.trans s3).trans s4) _ _ rx) (.cons (dp_mono (s3.trans s4) _ _ ry) .nil))⟩
    · rw [List.length_map, List.length_zip] at hi
      refine ⟨xs, ys, sqT_up hs3 (same_sqT (s2.trans s3) h1), sqT_up hs3 (same_sqT s3 h3), ?_⟩
      rw [dpAll_len h2, dpAll_len h4]
      omega
theorem ne_DO {ds : List PyData} {e : PyData} {k : Nat} {a : Addr} (ho : Ev ta G D0 (Is (.ref a)) D1) (hb : Ev tb G D1 (TL.D K e) D2) (hk : D2[k]? = some (a, OL K ds)) (s1 : SeqAt.shaped (.list ds) = true) (s2 : SeqAt.shaped e = true) : Ev (tOp (qNe K) ta tb) G D0 (DB K (!PyData.eqv (.list ds) e)) D2 := fun σ H F hs ss Q q =>
  ho σ H F hs ss _ fun u H1 F1 t1 hs1 r1 => hb σ H1 F1 hs1 (ss.mono t1) _ fun v H2 F2 t2 hs2 r2 => by
    have eu : u = .ref a := r1
    obtain ⟨o, ho, xs, rfl, hx⟩ := hs2.at hk
    exact .inr ⟨.list ds, e, by rw [eu]; exact .lst (SqL.of ho) (dpAll_mono hs2.sub _ _ hx), dp_up hs2 r2, s1, s2, q _ H2 F2 (t1.trans t2) hs2 (.bl _)⟩
/-! ## a text in a list of texts -/
theorem inV_strs {x : Str} : ∀ ys : List Str, inV (.str x) (ys.map V.str) = decide (x ∈ ys)
  | [] => by simp [inV]
  | y :: ys => by
    have ih := inV_strs (x := x) ys
    unfold inV at ih ⊢
    rw [List.map_cons, List.any_cons, ih]
    have e : eqV (.str y) (.str x) = decide (x = y) := by
      by_cases h : x = y
      · subst h; simp [eqV]
      · have : ¬ y = x := fun z => h z.symm
        simp [eqV, h, this]
    rw [e]
    by_cases h : x = y <;> simp [h]
theorem flat_strs : ∀ ys : List Str, (ys.map V.str).all flatV = true
  | [] => rfl
  | y :: ys => by rw [List.map_cons, List.all_cons, flat_strs ys]; rfl
theorem ev_inO {x : Str} {ys : List Str} {k : Nat} {a : Addr} (ha : Ev ta G D0 (DS K x) D1) (hb : Ev tb G D1 (Is (.ref a)) D2) (hk : D2[k]? = some (a, OL K (ys.map .str))) : Ev (tOp (rIn K false) ta tb) G D0 (DB K (decide (x ∈ ys))) D2 := fun σ H F hs ss Q q =>
  ha σ H F hs ss _ fun v H1 F1 s1 hs1 r1 => hb σ H1 F1 hs1 (ss.mono s1) _ fun u H2 F2 s2 hs2 r2 => by
    have eu : u = .ref a := r2
    obtain ⟨o, ho, xs, rfl, hx⟩ := hs2.at hk
    rw [strs_of hx] at ho
    refine ⟨a, ys.map V.str, eu, .inl (SqL.of ho), by rw [dp_str r1]; rfl, flat_strs ys, ?_⟩
    have e : inV v (ys.map V.str) = decide (x ∈ ys) := by rw [dp_str r1]; exact inV_strs ys
    simp only [e]
    exact q _ H2 F2 (s1.trans s2) hs2 (.bl _)
end
end TL

set_option Elab.async false
set_option linter.all false
set_option maxRecDepth 100000
set_option maxHeartbeats 1000000
namespace TL
open PySem PySem.Spec L2
/-! ## data that the written part holds -/
mutual
def dataB (K : PySem.W.Frag) (v : Value) : PyData → Bool
  | .none => (match v with
    | .none => true
    | _ => false)
  | .bool b => (match v with
    | .bool c => b == c
    | _ => false)
  | .int i => (match v with
    | .int j _ => decide (j = i)
    | _ => false)
  | .str x => (match v with
    | .str y _ => decide (y = x)
    | _ => false)
  | .tuple ds => (match v with
    | .ref a => (match K.lookup a with
      | some o => (match o.data with
        | .seq its _ => decide (o.cls = .type "tuple") && (decide (its.size ≤ sizeLine) && dataAll K its.toList ds)
        | _ => false)
      | none => false)
    | _ => false)
  | .list ds => (match v with
    | .ref a => (match K.lookup a with
      | some o => (match o.data with
        | .seq its _ => decide (o.cls = .type "list") && (o.dict.isNone && (decide (its.size ≤ sizeLine) && dataAll K its.toList ds))
        | _ => false)
      | none => false)
    | _ => false)
  | .dict _ => false
def dataAll (K : PySem.W.Frag) (vs : List Value) : List PyData → Bool
  | [] => vs.isEmpty
  | d :: ds => (match vs with
    | [] => false
    | v :: vs => dataB K v d && dataAll K vs ds)
end
mutual
theorem dataB_ok {K : PySem.W.Frag} : ∀ (d : PyData) (v : Value), dataB K v d = true → ∃ x, RelV x v ∧ ∀ F, Dp K F x d
  | .none, v, h => by
    unfold dataB at h
    split at h
    · exact ⟨.non, rfl, fun _ => .non⟩
    · cases h
  | .bool b, v, h => by
    unfold dataB at h
    split at h
    · have e := eq_of_beq h
      subst e
      exact ⟨.bl _, rfl, fun _ => .bl _⟩
    · cases h
  | .int i, v, h => by
    unfold dataB at h
    split at h
    · have e := of_decide_eq_true h
      subst e
      exact ⟨.int _, ⟨_, rfl⟩, fun _ => .int _⟩
    · cases h
  | .str x, v, h => by
    unfold dataB at h
    split at h
    · have e := of_decide_eq_true h
      subst e
      exact ⟨.str _, ⟨_, rfl⟩, fun _ => .str _⟩
    · cases h
  | .tuple ds, v, h => by
    unfold dataB at h
    split at h
    · rename_i a
      split at h
      · rename_i o ho
        split at h
        · rename_i its n hd
          simp only [Bool.and_eq_true, decide_eq_true_eq] at h
          obtain ⟨h1, h2, h3⟩ := h
          obtain ⟨xs, hv, hx⟩ := dataAll_ok ds its.toList h3
          exact ⟨.ref a, rfl, fun F => .tup (.inr ⟨o, its, n, ho, h1, hd, h2, hv⟩) (hx F)⟩
        · cases h
      · cases h
    · cases h
  | .list ds, v, h => by
    unfold dataB at h
    split at h
    · rename_i a
      split at h
      · rename_i o ho
        split at h
        · rename_i its n hd
          simp only [Bool.and_eq_true, decide_eq_true_eq, Option.isNone_iff_eq_none] at h
          obtain ⟨h1, h0, h2, h3⟩ := h
          obtain ⟨xs, hv, hx⟩ := dataAll_ok ds its.toList h3
          exact ⟨.ref a, rfl, fun F => .lst (.inr ⟨o, its, n, ho, h1, h0, hd, h2, hv⟩) (hx F)⟩
        · cases h
      · cases h
    · cases h
  | .dict _, v, h => by
    unfold dataB at h
    cases h
theorem dataAll_ok {K : PySem.W.Frag} : ∀ (ds : List PyData) (vs : List Value), dataAll K vs ds = true → ∃ xs, Vals xs vs ∧ ∀ F, DpAll K F xs ds
  | [], vs, h => by
    unfold dataAll at h
    cases vs with
    | nil => exact ⟨[], .nil, fun _ => .nil⟩
    | cons => cases h
  | d :: ds, vs, h => by
    unfold dataAll at h
    cases vs with
    | nil => cases h
    | cons v vs =>
      simp only [Bool.and_eq_true] at h
      obtain ⟨x, r, hx⟩ := dataB_ok d v h.1
      obtain ⟨xs, rs, hxs⟩ := dataAll_ok ds vs h.2
      exact ⟨x :: xs, .cons r rs, fun F => .cons (hx F) (hxs F)⟩
end
theorem ev_con {K : PySem.W.Frag} {G : Sto} {D0 : Own} {a : Addr} {d : PyData} (h : dataB K (.ref a) d = true) : Ev (tC (.ref a)) G D0 (D K d) D0 := fun σ H F hs ss Q q => by
  obtain ⟨x, r, hx⟩ := dataB_ok d _ h
  have e : x = .ref a := by
    cases x <;> first | (have r' : (_ : Value) = _ := r; cases r'; rfl) | (obtain ⟨t, r'⟩ := r; cases r') | (have r' : (_ : Value) = _ := r; cases r')
  subst e
  exact q _ H F (Same.refl _) hs (hx F)
end TL

set_option Elab.async false
set_option linter.all false
set_option maxRecDepth 100000
set_option maxHeartbeats 1000000
namespace TL
open PySem PySem.Spec L2
/-! ## texts in order -/
theorem lt_irr : ∀ a : List Nat, ltCps a a = false
  | [] => rfl
  | x :: r => by simp [ltCps, lt_irr r]
theorem lt_tr : ∀ {a b c : List Nat}, ltCps a b = true → ltCps b c = true → ltCps a c = true
  | [], [], _, h, _ => by simp [ltCps] at h
  | [], _ :: _, [], _, h => by simp [ltCps] at h
  | [], _ :: _, _ :: _, _, _ => rfl
  | _ :: _, [], _, h, _ => by simp [ltCps] at h
  | x :: a, y :: b, [], _, h => by simp [ltCps] at h
  | x :: a, y :: b, z :: c, h1, h2 => by
    simp only [ltCps, Bool.or_eq_true, decide_eq_true_eq, Bool.and_eq_true, beq_iff_eq] at h1 h2 ⊢
    rcases h1 with h1 | ⟨h1, h1'⟩
    · rcases h2 with h2 | ⟨h2, h2'⟩
      · exact .inl (by omega)
      · exact .inl (by omega)
    · rcases h2 with h2 | ⟨h2, h2'⟩
      · exact .inl (by omega)
      · exact .inr ⟨by omega, lt_tr h1' h2'⟩
theorem lt_tri : ∀ {a b : List Nat}, ltCps a b = false → ltCps b a = false → a = b
  | [], [], _, _ => rfl
  | [], _ :: _, h, _ => by simp [ltCps] at h
  | _ :: _, [], _, h => by simp [ltCps] at h
  | x :: a, y :: b, h1, h2 => by
    simp only [ltCps, Bool.or_eq_false_iff, decide_eq_false_iff_not, Bool.and_eq_false_imp, beq_iff_eq] at h1 h2
    have e : x = y := by omega
    subst e
    rw [lt_tri (h1.2 rfl) (h2.2 rfl)]
def ltS (a b : Str) : Prop := ltCps a.cps.toList b.cps.toList = true
theorem str_ext {a b : Str} (h : a.cps.toList = b.cps.toList) : a = b := by
  obtain ⟨x⟩ := a
  obtain ⟨y⟩ := b
  congr
  exact Array.toList_inj.mp h
theorem ltS_irr (a : Str) : ¬ ltS a a := fun h => by
  unfold ltS at h
  rw [lt_irr] at h
  cases h
theorem ltS_tr {a b c : Str} (h : ltS a b) (k : ltS b c) : ltS a c := lt_tr h k
theorem ltS_tri {a b : Str} (h : ¬ ltS a b) (n : a ≠ b) : ltS b a := by
  unfold ltS at h ⊢
  cases e : ltCps b.cps.toList a.cps.toList with
  | true => rfl
  | false => exact absurd (str_ext (lt_tri (Bool.eq_false_iff.mpr h) e)) n
instance (a b : Str) : Decidable (ltS a b) := inferInstanceAs (Decidable (_ = true))
/-- two rising lists of the same names are one -/
theorem rising_one : ∀ {xs ys : List Str}, xs.Pairwise ltS → ys.Pairwise ltS → (∀ k, k ∈ xs ↔ k ∈ ys) → xs = ys
  | [], [], _, _, _ => rfl
  | [], y :: ys, _, _, h => absurd ((h y).mpr List.mem_cons_self) List.not_mem_nil
  | x :: xs, [], _, _, h => absurd ((h x).mp List.mem_cons_self) List.not_mem_nil
  | x :: xs, y :: ys, hx, hy, h => by
    rw [List.pairwise_cons] at hx hy
    have e : x = y := by
      rcases List.mem_cons.mp ((h x).mp List.mem_cons_self) with e | m
      · exact e
      · rcases List.mem_cons.mp ((h y).mpr List.mem_cons_self) with e | m2
        · exact e.symm
        · exact absurd (ltS_tr (hy.1 x m) (hx.1 y m2)) (ltS_irr y)
    subst e
    congr 1
    refine rising_one hx.2 hy.2 fun k => ?_
    constructor
    · intro m
      rcases List.mem_cons.mp ((h k).mp (List.mem_cons_of_mem _ m)) with e | m2
      · subst e
        exact absurd (hx.1 k m) (ltS_irr k)
      · exact m2
    · intro m
      rcases List.mem_cons.mp ((h k).mpr (List.mem_cons_of_mem _ m)) with e | m2
      · subst e
        exact absurd (hy.1 k m) (ltS_irr k)
      · exact m2
theorem rising_of : ∀ {p : Str} {r : List Str}, PyProof.Rows.risingS p r = true → (p :: r).Nodup → (p :: r).Pairwise ltS
  | p, [], _, _ => List.pairwise_singleton _ _
  | p, x :: r, h, nd => by
    simp only [PyProof.Rows.risingS, Bool.and_eq_true, Bool.not_eq_true'] at h
    rw [List.nodup_cons] at nd
    have ih := rising_of h.2 nd.2
    have px : ltS p x := ltS_tri (a := x) (b := p) (fun z => by unfold ltS at z; rw [h.1] at z; cases z) (fun e => nd.1 (by subst e; exact List.mem_cons_self))
    rw [List.pairwise_cons]
    refine ⟨fun k hk => ?_, ih⟩
    rcases List.mem_cons.mp hk with e | m
    · subst e; exact px
    · exact ltS_tr px ((List.pairwise_cons.mp ih).1 k m)
theorem sorted_of {ys : List Str} (h : PyProof.Rows.sortedS ys = true) (nd : ys.Nodup) : ys.Pairwise ltS := by
  cases ys with
  | nil => exact .nil
  | cons p r => exact rising_of h nd
def insU (k : Str) : List Str → List Str
  | [] => [k]
  | y :: ys => if ltS k y then k :: y :: ys else if k = y then y :: ys else y :: insU k ys
theorem mem_insU {k j : Str} : ∀ {ys : List Str}, j ∈ insU k ys ↔ j = k ∨ j ∈ ys
  | [] => by simp [insU]
  | y :: ys => by
    unfold insU
    split
    · simp
    · split
      · rename_i e
        subst e
        simp
      · rw [List.mem_cons, mem_insU, List.mem_cons]
        constructor
        · rintro (h | h | h)
          · exact .inr (.inl h)
          · exact .inl h
          · exact .inr (.inr h)
        · rintro (h | h | h)
          · exact .inr (.inl h)
          · exact .inl h
          · exact .inr (.inr h)
theorem rise_insU {k : Str} : ∀ {ys : List Str}, ys.Pairwise ltS → (insU k ys).Pairwise ltS
  | [], _ => List.pairwise_singleton _ _
  | y :: ys, h => by
    unfold insU
    have h' := List.pairwise_cons.mp h
    split
    · rename_i l
      rw [List.pairwise_cons]
      refine ⟨fun j hj => ?_, h⟩
      rcases List.mem_cons.mp hj with e | m
      · subst e; exact l
      · exact ltS_tr l (h'.1 j m)
    · split
      · exact h
      · rename_i n1 n2
        rw [List.pairwise_cons]
        refine ⟨fun j hj => ?_, rise_insU h'.2⟩
        rcases mem_insU.mp hj with e | m
        · subst e; exact ltS_tri n1 n2
        · exact h'.1 j m
/-- names in order, each once -/
def inOrder : List Str → List Str
  | [] => []
  | k :: ks => insU k (inOrder ks)
theorem mem_inOrder {j : Str} : ∀ {ks : List Str}, j ∈ inOrder ks ↔ j ∈ ks
  | [] => Iff.rfl
  | k :: ks => by
    show j ∈ insU k (inOrder ks) ↔ _
    rw [mem_insU, mem_inOrder, List.mem_cons]
theorem rise_inOrder : ∀ ks : List Str, (inOrder ks).Pairwise ltS
  | [] => .nil
  | k :: ks => rise_insU (rise_inOrder ks)
theorem inOrder_eq {ks js : List Str} (h : ∀ k, k ∈ ks ↔ k ∈ js) : inOrder ks = inOrder js := rising_one (rise_inOrder _) (rise_inOrder _) fun k => by rw [mem_inOrder, mem_inOrder, h]
theorem inOrder_self {ks : List Str} (h : ks.Pairwise ltS) : inOrder ks = ks := rising_one (rise_inOrder _) h fun k => mem_inOrder
/-- what sorted gives of names that differ -/
theorem sort_is {ks js : List Str} {ds : List PyData} (h : SortP ks ds) (nd : ks.Nodup) (e : ∀ k, k ∈ ks ↔ k ∈ js) : ds = (inOrder js).map .str := by
  obtain ⟨ys, rfl, pm, so⟩ := h
  rw [rising_one (sorted_of so (pm.nodup_iff.mpr nd)) (rise_inOrder js) fun k => by rw [pm.mem_iff, mem_inOrder, e]]
/-! ## tables of numbers -/
abbrev qT (r : Rat) : PyData := .tuple [.int r.num, .int r.den]
abbrev pairD (e : Str × Rat) : PyData := .tuple [.str e.1, qT e.2]
def tot : List (Str × Rat) → Str → Rat
  | [], _ => 0
  | e :: ps, k => (if e.1 = k then e.2 else 0) + tot ps k
def cnt : List (Str × Rat) → Str → Nat
  | [], _ => 0
  | e :: ps, k => (if e.1 = k then 1 else 0) + cnt ps k
theorem tot_app (k : Str) : ∀ ps qs : List (Str × Rat), tot (ps ++ qs) k = tot ps k + tot qs k
  | [], qs => by
    show tot qs k = 0 + tot qs k
    grind
  | e :: ps, qs => by
    show (if e.1 = k then e.2 else 0) + tot (ps ++ qs) k = (if e.1 = k then e.2 else 0) + tot ps k + tot qs k
    rw [tot_app k ps qs]
    grind
theorem tot_rev (k : Str) : ∀ ps : List (Str × Rat), tot ps.reverse k = tot ps k
  | [] => rfl
  | e :: ps => by
    rw [List.reverse_cons, tot_app, tot_rev k ps]
    show tot ps k + ((if e.1 = k then e.2 else 0) + 0) = (if e.1 = k then e.2 else 0) + tot ps k
    grind
theorem tot_none {k : Str} : ∀ {ps : List (Str × Rat)}, k ∉ ps.map (·.1) → tot ps k = 0
  | [], _ => rfl
  | e :: ps, h => by
    simp only [List.map_cons, List.mem_cons, not_or] at h
    have n : ¬ e.1 = k := fun z => h.1 z.symm
    show (if e.1 = k then e.2 else 0) + tot ps k = 0
    rw [if_neg n, tot_none h.2]
    grind
theorem cnt_app (k : Str) : ∀ ps qs : List (Str × Rat), cnt (ps ++ qs) k = cnt ps k + cnt qs k
  | [], qs => by simp [cnt]
  | e :: ps, qs => by
    show (if e.1 = k then 1 else 0) + cnt (ps ++ qs) k = (if e.1 = k then 1 else 0) + cnt ps k + cnt qs k
    rw [cnt_app k ps qs]
    omega
theorem cnt_le (k : Str) : ∀ ps : List (Str × Rat), cnt ps k ≤ ps.length
  | [] => Nat.le_refl _
  | e :: ps => by
    have := cnt_le k ps
    show (if e.1 = k then 1 else 0) + cnt ps k ≤ ps.length + 1
    split <;> omega
theorem cnt_take (k : Str) (j : Nat) (ps : List (Str × Rat)) : cnt (ps.take j) k ≤ cnt ps k := by
  have h := cnt_app k (ps.take j) (ps.drop j)
  rw [List.take_append_drop] at h
  omega
theorem cnt_one {k : Str} : ∀ {ps : List (Str × Rat)}, (ps.map (·.1)).Nodup → cnt ps k ≤ 1
  | [], _ => Nat.zero_le _
  | e :: ps, h => by
    rw [List.map_cons, List.nodup_cons] at h
    show (if e.1 = k then 1 else 0) + cnt ps k ≤ 1
    by_cases q : e.1 = k
    · rw [if_pos q]
      have z : cnt ps k = 0 := by
        have m := h.1
        rw [q] at m
        clear h
        induction ps with
        | nil => rfl
        | cons f ps ih =>
          simp only [List.map_cons, List.mem_cons, not_or] at m
          show (if f.1 = k then 1 else 0) + cnt ps k = 0
          rw [if_neg (fun z => m.1 z.symm), ih m.2]
      omega
    · rw [if_neg q]
      have := cnt_one (k := k) h.2
      omega
theorem tot_bd {k : Str} {b : Nat} : ∀ {ps : List (Str × Rat)}, (∀ e ∈ ps, Nu.Bd b e.2) → Nu.Bd (1 + (b + 1) * cnt ps k) (tot ps k)
  | [], _ => bd_0
  | e :: ps, h => by
    have ih := tot_bd (k := k) (ps := ps) fun f m => h f (List.mem_cons_of_mem _ m)
    show Nu.Bd (1 + (b + 1) * ((if e.1 = k then 1 else 0) + cnt ps k)) ((if e.1 = k then e.2 else 0) + tot ps k)
    by_cases q : e.1 = k
    · rw [if_pos q, if_pos q]
      refine (Nu.plus_bd (h e List.mem_cons_self) ih).mono ?_
      rw [Nat.mul_add]
      omega
    · rw [if_neg q, if_neg q, Nat.zero_add]
      have z : (0 : Rat) + tot ps k = tot ps k := by grind
      rw [z]
      exact ih
/-- the pairs of a sum: in order, each name once, no nought -/
def res (ps : List (Str × Rat)) : List (Str × Rat) := ((inOrder (ps.map (·.1))).filter fun k => !decide (tot ps k = 0)).map fun k => (k, tot ps k)
def sumD (n : Rat) (rs : List (Str × Rat)) : PyData := .tuple [qT n, .tuple (rs.map pairD)]
theorem res_keys (ps : List (Str × Rat)) : (res ps).map (·.1) = (inOrder (ps.map (·.1))).filter fun k => !decide (tot ps k = 0) := by
  unfold res
  rw [List.map_map]
  exact List.map_id _
theorem res_rise (ps : List (Str × Rat)) : ((res ps).map (·.1)).Pairwise ltS := by
  rw [res_keys]
  exact (rise_inOrder _).filter _
theorem rise_nodup {ks : List Str} (h : ks.Pairwise ltS) : ks.Nodup := h.imp fun l e => by subst e; exact ltS_irr _ l
theorem res_ext {ps qs : List (Str × Rat)} (h : ∀ k, tot ps k = tot qs k) : res ps = res qs := by
  have key : (inOrder (ps.map (·.1))).filter (fun k => !decide (tot ps k = 0)) = (inOrder (qs.map (·.1))).filter fun k => !decide (tot qs k = 0) := by
    refine rising_one ((rise_inOrder _).filter _) ((rise_inOrder _).filter _) fun k => ?_
    simp only [List.mem_filter, mem_inOrder, Bool.not_eq_true', decide_eq_false_iff_not, h k]
    constructor
    · rintro ⟨_, n⟩
      refine ⟨?_, n⟩
      by_cases m : k ∈ qs.map (·.1)
      · exact m
      · exact absurd (tot_none m) n
    · rintro ⟨_, n⟩
      refine ⟨?_, n⟩
      by_cases m : k ∈ ps.map (·.1)
      · exact m
      · exact absurd ((h k).symm.trans (tot_none m)) n
  have f : (fun k => (k, tot ps k)) = fun k => (k, tot qs k) := funext fun k => by rw [h k]
  unfold res
  rw [key, f]
theorem tot_map {k : Str} {f : Str → Rat} : ∀ {ks : List Str}, ks.Nodup → tot (ks.map fun j => (j, f j)) k = if k ∈ ks then f k else 0
  | [], _ => by simp [tot]
  | j :: ks, h => by
    rw [List.nodup_cons] at h
    show (if j = k then f j else 0) + tot (ks.map fun j => (j, f j)) k = _
    rw [tot_map h.2]
    by_cases e : j = k
    · subst e
      rw [if_pos rfl, if_neg h.1, if_pos List.mem_cons_self]
      grind
    · rw [if_neg e]
      have : (k ∈ j :: ks) ↔ (k ∈ ks) := by
        rw [List.mem_cons]
        constructor
        · rintro (z | z)
          · exact absurd z.symm e
          · exact z
        · exact .inr
      simp only [this]
      grind
theorem tot_res (ps : List (Str × Rat)) (k : Str) : tot (res ps) k = tot ps k := by
  unfold res
  rw [tot_map (rise_nodup ((rise_inOrder _).filter _))]
  by_cases m : k ∈ ps.map (·.1)
  · by_cases z : tot ps k = 0
    · rw [if_neg (by simp [z]), z]
    · rw [if_pos (by simp [List.mem_filter, mem_inOrder, m, z])]
  · rw [tot_none m, if_neg (by simp [List.mem_filter, mem_inOrder, m])]
theorem res_res (ps : List (Str × Rat)) : res (res ps) = res ps := res_ext (tot_res ps)
theorem res_rev (ps : List (Str × Rat)) : res ps.reverse = res ps := res_ext fun k => tot_rev k ps
theorem res_bd {ps : List (Str × Rat)} {b n : Nat} (h : ∀ e ∈ ps, Nu.Bd b e.2) (hn : ∀ k, 1 + (b + 1) * cnt ps k ≤ n) : ∀ e ∈ res ps, Nu.Bd n e.2 := by
  intro e m
  unfold res at m
  obtain ⟨k, _, rfl⟩ := List.mem_map.mp m
  exact (tot_bd h).mono (hn k)
theorem res_len (ps : List (Str × Rat)) : (res ps).length ≤ ps.length := by
  have h1 : ∀ (k : Str) (ys : List Str), (insU k ys).length ≤ ys.length + 1 := by
    intro k ys
    induction ys with
    | nil => exact Nat.le_refl _
    | cons y ys ih =>
      unfold insU
      split
      · simp
      · split
        · simp
        · simp only [List.length_cons]
          omega
  have h2 : ∀ ks : List Str, (inOrder ks).length ≤ ks.length := by
    intro ks
    induction ks with
    | nil => exact Nat.le_refl _
    | cons k ks ih =>
      have := h1 k (inOrder ks)
      show (insU k (inOrder ks)).length ≤ ks.length + 1
      omega
  unfold res
  rw [List.length_map]
  refine Nat.le_trans (List.length_filter_le _ _) (Nat.le_trans (h2 _) ?_)
  rw [List.length_map]
  exact Nat.le_refl _
/-- a table of what there is so far -/
structure TabOf (m : List (Str × PyData)) (ps : List (Str × Rat)) : Prop where
  nd : (m.map (·.1)).Nodup
  mem : ∀ k, k ∈ m.map (·.1) ↔ k ∈ ps.map (·.1)
  get : ∀ k, k ∈ ps.map (·.1) → getM m k = some (qT (tot ps k))
  len : m.length ≤ ps.length
theorem getM_none {m : List (Str × PyData)} {k : Str} (h : k ∉ m.map (·.1)) : getM m k = none := by
  unfold getM
  rw [List.find?_eq_none.mpr fun e he z => h (List.mem_map.mpr ⟨e, he, of_decide_eq_true z⟩)]
  rfl
theorem getM_put {m : List (Str × PyData)} {k j : Str} {d : PyData} : getM (putM m k d) j = if j = k then some d else getM m j := by
  unfold putM
  split
  · rename_i a
    induction m with
    | nil => cases a
    | cons e m ih =>
      rw [List.map_cons]
      by_cases h : e.1 = k
      · rw [if_pos h]
        by_cases q : j = k
        · subst q
          simp [getM, h]
        · have n : ¬ e.1 = j := fun z => q (z.symm.trans h)
          rw [if_neg q]
          have e1 : getM ((e.1, d) :: m.map fun e => if e.1 = k then (e.1, d) else e) j = getM (m.map fun e => if e.1 = k then (e.1, d) else e) j := by simp [getM, n]
          have e2 : getM (e :: m) j = getM m j := by simp [getM, n]
          rw [e1, e2]
          clear ih a
          induction m with
          | nil => rfl
          | cons f m ih =>
            rw [List.map_cons]
            by_cases h2 : f.1 = k
            · have n2 : ¬ f.1 = j := fun z => q (z.symm.trans h2)
              rw [if_pos h2]
              have e3 : getM ((f.1, d) :: m.map fun e => if e.1 = k then (e.1, d) else e) j = getM (m.map fun e => if e.1 = k then (e.1, d) else e) j := by simp [getM, n2]
              have e4 : getM (f :: m) j = getM m j := by simp [getM, n2]
              rw [e3, e4]
              exact ih (by simp [getM, n]) (by simp [getM, n])
            · rw [if_neg h2]
              by_cases h3 : f.1 = j
              · simp [getM, h3]
              · have e3 : getM (f :: m.map fun e => if e.1 = k then (e.1, d) else e) j = getM (m.map fun e => if e.1 = k then (e.1, d) else e) j := by simp [getM, h3]
                have e4 : getM (f :: m) j = getM m j := by simp [getM, h3]
                rw [e3, e4]
                exact ih (by simp [getM, n]) (by simp [getM, n])
      · have a' : (m.any fun e => decide (e.1 = k)) = true := by simpa [h] using a
        rw [if_neg h]
        have ih' := ih a'
        by_cases q : e.1 = j
        · have n : ¬ j = k := fun z => h (q.trans z)
          rw [if_neg n]
          simp [getM, q]
        · have e1 : getM (e :: m.map fun e => if e.1 = k then (e.1, d) else e) j = getM (m.map fun e => if e.1 = k then (e.1, d) else e) j := by simp [getM, q]
          have e2 : getM (e :: m) j = getM m j := by simp [getM, q]
          rw [e1, e2]
          exact ih'
  · rename_i a
    have no : ∀ e ∈ m, ¬ e.1 = k := fun e he z => a (List.any_eq_true.mpr ⟨e, he, decide_eq_true z⟩)
    unfold getM
    rw [List.find?_append]
    by_cases q : j = k
    · subst q
      rw [if_pos rfl, List.find?_eq_none.mpr fun e he z => no e he (of_decide_eq_true z)]
      simp
    · rw [if_neg q]
      have n : ¬ k = j := fun z => q z.symm
      cases f : m.find? fun e => decide (e.1 = j) with
      | none => simp [n]
      | some x => simp
theorem keys_put {m : List (Str × PyData)} {k : Str} {d : PyData} : (putM m k d).map (·.1) = if k ∈ m.map (·.1) then m.map (·.1) else m.map (·.1) ++ [k] := by
  unfold putM
  have c : (m.any fun e => decide (e.1 = k)) = decide (k ∈ m.map (·.1)) := by
    rw [Bool.eq_iff_iff, List.any_eq_true, decide_eq_true_eq, List.mem_map]
    constructor
    · rintro ⟨e, h1, h2⟩
      exact ⟨e, h1, of_decide_eq_true h2⟩
    · rintro ⟨e, h1, h2⟩
      exact ⟨e, h1, decide_eq_true h2⟩
  rw [c]
  by_cases h : k ∈ m.map (·.1)
  · rw [if_pos (decide_eq_true h), if_pos h, List.map_map]
    refine List.map_congr_left fun e _ => ?_
    show (if e.1 = k then (e.1, d) else e).1 = e.1
    split <;> rfl
  · rw [if_neg (by simpa using h), if_neg h, List.map_append]
    rfl
theorem TabOf.nil : TabOf [] [] := ⟨.nil, fun _ => Iff.rfl, fun _ h => absurd h List.not_mem_nil, Nat.le_refl _⟩
/-- what is looked up, with nought where nothing is -/
theorem TabOf.look {m : List (Str × PyData)} {ps : List (Str × Rat)} (h : TabOf m ps) (k : Str) : (getM m k).getD (qT 0) = qT (tot ps k) := by
  by_cases q : k ∈ ps.map (·.1)
  · rw [h.get k q]
    rfl
  · rw [getM_none (fun z => q ((h.mem k).mp z)), tot_none q]
    rfl
theorem TabOf.put {m : List (Str × PyData)} {ps : List (Str × Rat)} (h : TabOf m ps) (k : Str) (r : Rat) : TabOf (putM m k (qT (tot ps k + r))) (ps ++ [(k, r)]) where
  nd := by
    rw [keys_put]
    split
    · exact h.nd
    · rename_i n
      rw [List.nodup_append]
      refine ⟨h.nd, by simp, fun a ha b hb e => ?_⟩
      rw [List.mem_singleton] at hb
      subst hb
      subst e
      exact n ha
  mem := fun j => by
    rw [keys_put, List.map_append, List.mem_append]
    by_cases q : k ∈ m.map (·.1)
    · rw [if_pos q, h.mem j]
      constructor
      · exact .inl
      · rintro (z | z)
        · exact z
        · simp only [List.map_cons, List.map_nil, List.mem_singleton] at z
          subst z
          exact (h.mem _).mp q
    · rw [if_neg q, List.mem_append, h.mem j]
      rfl
  get := fun j hj => by
    rw [getM_put, tot_app]
    by_cases q : j = k
    · subst q
      rw [if_pos rfl]
      have : tot ps j + tot [(j, r)] j = tot ps j + r := by
        show tot ps j + ((if j = j then r else 0) + 0) = _
        rw [if_pos rfl]
        grind
      rw [this]
    · rw [if_neg q]
      have z : tot [(k, r)] j = 0 := by
        show (if k = j then r else 0) + 0 = 0
        rw [if_neg (fun e => q e.symm)]
        grind
      have z2 : tot ps j + tot [(k, r)] j = tot ps j := by rw [z]; grind
      rw [z2]
      rw [List.map_append, List.mem_append] at hj
      rcases hj with hj | hj
      · exact h.get j hj
      · simp only [List.map_cons, List.map_nil, List.mem_singleton] at hj
        exact absurd hj q
  len := by
    have : (putM m k (qT (tot ps k + r))).length ≤ m.length + 1 := by
      unfold putM
      split
      · rw [List.length_map]; omega
      · simp
    have := h.len
    simp only [List.length_append, List.length_cons, List.length_nil]
    omega
/-- a short text of signs that there are -/
structure Sh (z : Str) : Prop where
  len : z.length ≤ 20
  ok : ∀ c ∈ z.cps.toList, c < 0x110000
theorem app_cps (x y : Str) : (x ++ y).cps.toList = x.cps.toList ++ y.cps.toList := by
  show (x.cps ++ y.cps).toList = _
  rw [Array.toList_append]
theorem Sh.strOk {z : Str} (h : Sh z) : PyData.canLay0 (.str z) = true := by
  show z.cps.all (fun c => decide (c < 0x110000)) = true
  rw [← Array.all_toList, List.all_eq_true]
  exact fun c hc => decide_eq_true (h.ok c hc)
theorem mem_cut {z : Str} {lo hi : Option Int} {c : Nat} (h : c ∈ (cutS z lo hi).cps.toList) : c ∈ z.cps.toList := by
  have h' : c ∈ (z.cps.toList.drop (HT.sIx z.length 0 lo)).take (HT.sIx z.length z.length hi - HT.sIx z.length 0 lo) := h
  exact List.mem_of_mem_drop (List.mem_of_mem_take h')
theorem shaped_pairs {ps : List (Str × Rat)} (h : ∀ e ∈ ps, Sh e.1) : SeqAt.shaped (.list (ps.map pairD)) = true := by
  have h1 : PyData.canLayAll0 (ps.map pairD) = true := by
    induction ps with
    | nil => rfl
    | cons e ps ih =>
      rw [List.map_cons]
      show (PyData.canLay0 (pairD e) && PyData.canLayAll0 (ps.map pairD)) = true
      rw [ih fun f m => h f (List.mem_cons_of_mem _ m), Bool.and_true]
      show (PyData.canLay0 (.str e.1) && _) = true
      rw [(h e List.mem_cons_self).strOk]
      rfl
  have h2 : PyData.depthAll (ps.map pairD) ≤ 2 := by
    clear h h1
    induction ps with
    | nil => exact Nat.zero_le _
    | cons e ps ih =>
      rw [List.map_cons]
      show max (PyData.depth (pairD e)) (PyData.depthAll (ps.map pairD)) ≤ 2
      have : PyData.depth (pairD e) = 2 := rfl
      omega
  unfold SeqAt.shaped
  have h3 : PyData.canLay0 (.list (ps.map pairD)) = true := h1
  have h4 : PyData.depth (.list (ps.map pairD)) ≤ 64 := by
    show PyData.depthAll (ps.map pairD) + 1 ≤ 64
    omega
  rw [h3, Bool.true_and]
  exact decide_eq_true h4
theorem eqv_same {ps : List (Str × Rat)} (h : ∀ e ∈ ps, Sh e.1) : PyData.eqv (.list (ps.map pairD)) (.list (ps.map pairD)) = true := SeqAt.eqv_refl _ (SeqAt.canLay_of_shaped (shaped_pairs h))
theorem str_at {zs : List Str} {i : Int} (h0 : 0 ≤ i) (h1 : i < zs.length) : ∃ z ∈ zs, atI (zs.map PyData.str) i = some (.str z) := by
  have h2 : i.toNat < zs.length := by omega
  refine ⟨zs[i.toNat], List.getElem_mem h2, ?_⟩
  unfold atI ixN
  rw [if_pos h0, List.length_map, if_pos h1, Option.bind_some, List.getElem?_map, List.getElem?_eq_getElem h2]
  rfl
theorem pair_at {ps : List (Str × Rat)} {i : Int} (h0 : 0 ≤ i) (h1 : i < ps.length) : ∃ e ∈ ps, atI (ps.map pairD) i = some (pairD e) := by
  have h2 : i.toNat < ps.length := by omega
  refine ⟨ps[i.toNat], List.getElem_mem h2, ?_⟩
  unfold atI ixN
  rw [if_pos h0, List.length_map, if_pos h1, Option.bind_some, List.getElem?_map, List.getElem?_eq_getElem h2]
  rfl
/-! ## wells of which little is known -/
def OWl (K : PySem.W.Frag) (n : Nat) : OTy := OTy.ex (fun w : We => OL K w.d) (We.ok n)
theorem owl_in {K : PySem.W.Frag} {w : We} {n : Nat} (h : w.ok n) : ∀ o F, (OL K w.d).p o F → (OWl K n).p o F := fun o F r => ⟨w, h, r⟩
theorem We.ok.up {w : We} {n m : Nat} (h : w.ok n) (l : n ≤ m) : w.ok m := by
  rcases h with h | ⟨h1, h2, h3, h4⟩
  · exact .inl h
  · exact .inr ⟨h1, h2, h3, by omega⟩
theorem owl_up {K : PySem.W.Frag} {n m : Nat} (l : n ≤ m) : ∀ o F, (OWl K n).p o F → (OWl K m).p o F := fun o F ⟨w, h, r⟩ => ⟨w, h.up l, r⟩
section
variable {K : PySem.W.Frag} {G G1 G2 : Sto} {D0 D1 D2 D3 : Own} {te ta tb tx : TE} {tt : TT} {R Ra Rb : Ty} {F0 F1 : Hp} {E : Ends} {X : XK} {tl th : TO}
theorem GoV.reown {P : VK} {k : Nat} {a : Addr} {O O' : OTy} (h : GoV P F0 R (D0.set k (a, O'))) (hk : D0[k]? = some (a, O)) (f : ∀ o F, O.p o F → O'.p o F) : GoV P F0 R D0 := fun v H F s hs r =>
  h v H F s (hs.reown hk fun o q _ => f o F q) r
theorem go_openW {P : L2.St → Hp → Prop} {k : Nat} {a : Addr} {n : Nat} (hk : D0[k]? = some (a, OWl K n)) (h : ∀ w : We, w.ok n → Go P F0 G (D0.set k (a, OL K w.d))) : Go P F0 G D0 := go_openO hk h
theorem ev_lenO {ds : List PyData} {k : Nat} {a : Addr} (ho : Ev ta G D0 (Is (.ref a)) D1) (hk : D1[k]? = some (a, OL K ds)) : Ev (tCB (cLen K) (tCons ta tNil)) G D0 (DI K ds.length) D1 := fun σ H F hs ss Q q =>
  ho σ H F hs ss _ fun u H1 F1 s1 hs1 r1 => by
    have eu : u = .ref a := r1
    obtain ⟨o, ho, xs, rfl, hx⟩ := hs1.at hk
    exact ⟨u, ds.length, rfl, by rw [eu]; exact .inl ⟨xs, SqL.of ho, (dpAll_len hx).symm⟩, q _ H1 F1 s1 hs1 (.int _)⟩
theorem ev_lenS {z : Str} (h : Ev ta G D0 (DS K z) D1) (hz : z.length ≤ 100000) : Ev (tCB (cLen K) (tCons ta tNil)) G D0 (DI K z.length) D1 := fun σ H F hs ss Q q =>
  h σ H F hs ss _ fun u H1 F1 s1 hs1 r1 => ⟨u, z.length, rfl, by rw [dp_str r1]; exact ⟨Nat.le_trans hz sizeLine_big, rfl⟩, q _ H1 F1 s1 hs1 (.int _)⟩
theorem ev_shut {k : Nat} {a : Addr} {O O' : OTy} (h : Ev te G D0 R D1) (hk : D1[k]? = some (a, O)) (f : ∀ o F, O.p o F → O'.p o F) : Ev te G D0 R (D1.set k (a, O')) := fun σ H F hs ss Q q =>
  h σ H F hs ss Q fun v H1 F1 s1 hs1 r1 => q v H1 F1 s1 (hs1.reown hk fun o p _ => f o F1 p) r1
/-- [a text] -/
theorem evN_one {p : Str → Prop} (h : Ev te G D0 (Ty.ex (DS K) p) D1) : EvN (tLst (tCons te tNil)) G D0 (OTy.ex (fun zs : List Str => OL K (zs.map .str)) (fun zs => ∃ z, zs = [z] ∧ p z)) D1 := fun σ H F hs ss Q q =>
  h σ H F hs ss _ fun v H1 F1 s1 hs1 r1 => by
    obtain ⟨z, pz, rz⟩ := r1
    refine ⟨Nat.le_trans (by decide : 1 ≤ 100000) sizeLine_big, fun a ha => ?_⟩
    exact q a _ F1 s1 (hs1.new ha ⟨[z], ⟨z, rfl, pz⟩, [v], rfl, .cons rz .nil⟩)
end
end TL

set_option Elab.async false
set_option linter.all false
set_option maxRecDepth 100000
set_option maxHeartbeats 1000000
namespace TL
open PySem PySem.Spec L2
/-! ## the worth of a table under a making -/
def dot : List (Str × Rat) → (Str → Rat) → Rat
  | [], _ => 0
  | e :: ps, M => e.2 * M e.1 + dot ps M
def sumK : List Str → (Str → Rat) → Rat
  | [], _ => 0
  | k :: ks, f => f k + sumK ks f
theorem dot_app (M : Str → Rat) : ∀ ps qs : List (Str × Rat), dot (ps ++ qs) M = dot ps M + dot qs M
  | [], qs => by
    show dot qs M = 0 + dot qs M
    grind
  | e :: ps, qs => by
    show e.2 * M e.1 + dot (ps ++ qs) M = e.2 * M e.1 + dot ps M + dot qs M
    rw [dot_app M ps qs]
    grind
theorem sumK_add (f g : Str → Rat) : ∀ ks : List Str, sumK ks (fun k => f k + g k) = sumK ks f + sumK ks g
  | [] => by
    show (0 : Rat) = 0 + 0
    grind
  | k :: ks => by
    show f k + g k + sumK ks (fun k => f k + g k) = f k + sumK ks f + (g k + sumK ks g)
    rw [sumK_add f g ks]
    grind
theorem sumK_none {f : Str → Rat} : ∀ {ks : List Str}, (∀ k ∈ ks, f k = 0) → sumK ks f = 0
  | [], _ => rfl
  | k :: ks, h => by
    show f k + sumK ks f = 0
    rw [h k List.mem_cons_self, sumK_none fun j hj => h j (List.mem_cons_of_mem _ hj)]
    grind
theorem sumK_congr {f g : Str → Rat} : ∀ {ks : List Str}, (∀ k ∈ ks, f k = g k) → sumK ks f = sumK ks g
  | [], _ => rfl
  | k :: ks, h => by
    show f k + sumK ks f = g k + sumK ks g
    rw [h k List.mem_cons_self, sumK_congr fun j hj => h j (List.mem_cons_of_mem _ hj)]
theorem sumK_one {a : Str} {f : Str → Rat} : ∀ {ks : List Str}, ks.Nodup → a ∈ ks → sumK ks (fun k => if a = k then f k else 0) = f a
  | [], _, h => absurd h List.not_mem_nil
  | k :: ks, nd, h => by
    rw [List.nodup_cons] at nd
    show (if a = k then f k else 0) + sumK ks (fun k => if a = k then f k else 0) = f a
    by_cases e : a = k
    · subst e
      rw [if_pos rfl, sumK_none fun j hj => if_neg (fun z => nd.1 (by rw [z]; exact hj))]
      grind
    · rw [if_neg e, sumK_one nd.2 ((List.mem_cons.mp h).resolve_left e)]
      grind
theorem dot_tot (M : Str → Rat) {ks : List Str} (nd : ks.Nodup) : ∀ {ps : List (Str × Rat)}, (∀ e ∈ ps, e.1 ∈ ks) → dot ps M = sumK ks (fun k => tot ps k * M k)
  | [], _ => by
    rw [sumK_none fun k _ => by show (0 : Rat) * M k = 0; grind]
    rfl
  | e :: ps, h => by
    have ih := dot_tot M nd (ps := ps) fun f m => h f (List.mem_cons_of_mem _ m)
    show e.2 * M e.1 + dot ps M = _
    rw [ih]
    have e1 : sumK ks (fun k => tot (e :: ps) k * M k) = sumK ks (fun k => (if e.1 = k then e.2 * M k else 0) + tot ps k * M k) := sumK_congr fun k _ => by
      show ((if e.1 = k then e.2 else 0) + tot ps k) * M k = _
      by_cases q : e.1 = k
      · rw [if_pos q, if_pos q]
        grind
      · rw [if_neg q, if_neg q]
        grind
    rw [e1, sumK_add, sumK_one (f := fun k => e.2 * M k) nd (h e List.mem_cons_self)]
theorem res_name {ps : List (Str × Rat)} {e : Str × Rat} (h : e ∈ res ps) : e.1 ∈ ps.map (·.1) := by
  unfold res at h
  obtain ⟨k, hk, rfl⟩ := List.mem_map.mp h
  exact mem_inOrder.mp (List.mem_filter.mp hk).1
theorem dot_res (M : Str → Rat) (ps : List (Str × Rat)) : dot (res ps) M = dot ps M := by
  have nd := rise_nodup (rise_inOrder (ps.map (·.1)))
  rw [dot_tot M nd (ps := res ps) fun e he => mem_inOrder.mpr (res_name he), dot_tot M nd (ps := ps) fun e he => mem_inOrder.mpr (List.mem_map_of_mem he)]
  exact sumK_congr fun k _ => by rw [tot_res]
/-- each factor times r -/
def sc (ps : List (Str × Rat)) (r : Rat) : List (Str × Rat) := ps.map fun e => (e.1, e.2 * r)
theorem tot_sc (r : Rat) (k : Str) : ∀ ps : List (Str × Rat), tot (sc ps r) k = tot ps k * r
  | [] => by
    show (0 : Rat) = 0 * r
    grind
  | e :: ps => by
    show (if e.1 = k then e.2 * r else 0) + tot (sc ps r) k = ((if e.1 = k then e.2 else 0) + tot ps k) * r
    rw [tot_sc r k ps]
    by_cases q : e.1 = k
    · rw [if_pos q, if_pos q]
      grind
    · rw [if_neg q, if_neg q]
      grind
theorem dot_sc (r : Rat) (M : Str → Rat) : ∀ ps : List (Str × Rat), dot (sc ps r) M = dot ps M * r
  | [] => by
    show (0 : Rat) = 0 * r
    grind
  | e :: ps => by
    show e.2 * r * M e.1 + dot (sc ps r) M = (e.2 * M e.1 + dot ps M) * r
    rw [dot_sc r M ps]
    grind
theorem cnt_sc (r : Rat) (k : Str) : ∀ ps : List (Str × Rat), cnt (sc ps r) k = cnt ps k
  | [] => rfl
  | e :: ps => by
    show (if e.1 = k then 1 else 0) + cnt (sc ps r) k = (if e.1 = k then 1 else 0) + cnt ps k
    rw [cnt_sc r k ps]
theorem cnt_res (ps : List (Str × Rat)) (k : Str) : cnt (res ps) k ≤ 1 := cnt_one (rise_nodup (res_rise ps))
section
variable {K : PySem.W.Frag} {G G1 G2 : Sto} {D0 D1 D2 D3 : Own} {te ta tb tx : TE} {tt : TT} {R Ra Rb : Ty} {F0 F1 : Hp} {E : Ends} {X : XK} {tl th : TO}
/-- t + u, tuples of data -/
theorem ev_catT {ds es : List PyData} (ha : Ev ta G D0 (TL.D K (.tuple ds)) D1) (hb : Ev tb G D1 (TL.D K (.tuple es)) D2) (hl : ds.length + es.length ≤ 100000) : Ev (tOp (qAdd K) ta tb) G D0 (TL.D K (.tuple (ds ++ es))) D2 :=
  ev2 ha hb fun x y H F hs rx ry Q q => by
    obtain ⟨a, xs, rfl, h1, h2⟩ := dp_tup rx
    obtain ⟨b, ys, rfl, h3, h4⟩ := dp_tup ry
    have l1 := dpAll_len h2
    have l2 := dpAll_len h4
    cases ds with
    | nil =>
      have e : xs = [] := List.length_eq_zero_iff.mp l1
      subst e
      exact .inr (.inr (.inr (.inr ⟨a, b, ys, rfl, rfl, sqT_up hs h1, sqT_up hs h3, q _ H F (Same.refl _) hs ry⟩)))
    | cons d ds =>
      have ne : xs ≠ [] := fun e => by rw [e] at l1; cases l1
      refine .inr (.inr (.inr (.inl ⟨a, b, xs, ys, rfl, rfl, sqT_up hs h1, sqT_up hs h3, ne, by rw [l1, l2]; exact Nat.le_trans hl sizeLine_big, fun e => ?_, fun _ p hp => ?_⟩)))
      · have e2 : es = [] := by
          rw [e] at l2
          exact List.length_eq_zero_iff.mp l2.symm
        subst e2
        exact q _ H F (Same.refl _) hs (by rw [List.append_nil]; exact rx)
      · have s4 : Same F (upd F p (.tup (xs ++ ys))) := same_new (hs.free hp)
        exact q _ _ (upd F p (.tup (xs ++ ys))) s4 (hs.frz hp) (.tup (SqT.of upd_same) (dpAll_append (dpAll_mono s4 _ xs h2) (dpAll_mono s4 es ys h4)))
theorem ev_dnotin {m : List (Str × PyData)} {k : Nat} {a : Addr} {x : Str} (hi : Ev ta G D0 (DS K x) D1) (ho : Ev tb G D1 (Is (.ref a)) D2) (hk : D2[k]? = some (a, OD K m)) : Ev (tDNotIn ta tb) G D0 (DB K (!(getM m x).isSome)) D2 := fun σ H F hs ss Q q =>
  hi σ H F hs ss _ fun v H1 F1 s1 hs1 r1 => ho σ H1 F1 hs1 (ss.mono s1) _ fun u H2 F2 s2 hs2 r2 => by
    have eu : u = .ref a := r2
    obtain ⟨o, ho, kvs, rfl, hx⟩ := hs2.at hk
    have g : DGet H2 a v (valV kvs (Sum.inr x)) := by
      rw [dp_str r1]
      exact DGet.k (k := Sum.inr x) ho
    have e : (valV kvs (Sum.inr x)).isSome = (getM m x).isSome := by
      rcases hx.get x with ⟨e1, e2⟩ | ⟨d', v', e1, e2, e3⟩ <;> rw [e1, e2] <;> rfl
    exact ⟨a, _, eu, g, by rw [e]; exact q _ H2 F2 (s1.trans s2) hs2 (.bl _)⟩
end
end TL
namespace TL
open PySem PySem.Spec L2
/-! ## a def that reads an owned thing, handed anywhere -/
def fspR {T : Type} (O : T → OTy) (args : T → Addr → List Ty) (pre : T → Prop) (out : T → Out) : Sp := fun vs H Q X => ∃ (x : T) (F : Hp) (D : Own) (k : Nat) (a : Addr), HS D H F ∧ D[k]? = some (a, O x) ∧ AllP F (args x a) vs ∧ pre x ∧ Post (out x) Q X F D
section
variable {K : PySem.W.Frag} {G G1 G2 : Sto} {D0 D1 D2 D3 : Own} {te ta tb tx : TE} {tt : TT} {R Ra Rb : Ty} {F0 F1 : Hp} {E : Ends}
theorem ev_callR {T : Type} {O : T → OTy} {args : T → Addr → List Ty} {pre : T → Prop} {out : T → Out} {X : XK} {t : TA} {k : Nat} {a : Addr} (x : T) (h : EvA t G D0 (args x a) D1) (hk : D1[k]? = some (a, O x)) (hp : pre x) (ho : out x = .ok R) :
    Ev (tCall (fspR O args pre out) [] X t) G D0 R D1 := fun σ H F hs ss Q q =>
  h σ H F hs ss _ fun vs H1 F1 s1 hs1 r1 => ⟨x, F1, D1, k, a, hs1, hk, by rw [List.append_nil]; exact r1, hp, by rw [ho]; exact fun v H2 F2 s2 hs2 r2 => q v H2 F2 (s1.trans s2) hs2 r2⟩
theorem pure_ofR {T : Type} {O : T → OTy} {args : T → Addr → List Ty} {pre : T → Prop} {out : T → Out} {N : List Str} {tf : TS} {vs : List V} {H : Hp} {Q : VK} {X : XK}
    (walk : ∀ (x : T) (F : Hp) (D : Own) (k : Nat) (a : Addr) (E : Ends), D[k]? = some (a, O x) → E.rt = Q → pre x → Post (out x) Q X F D →
      Go (tf E) F ((args x a).map some ++ List.replicate (N.length - (args x a).length) none) D)
    (h : fspR O args pre out vs H Q X) : tf { nx := fun _ H' => Q .non H', rt := Q } (L2.start N vs) H := by
  obtain ⟨x, F, D, k, a, hs, hk, ha, hp, po⟩ := h
  have z := SS.start (N := N) ha
  rw [ha.len] at z
  exact walk x F D k a { nx := fun _ H' => Q .non H', rt := Q } hk rfl hp po _ H F (Same.refl _) hs z
theorem fspR_len {T : Type} {O : T → OTy} {args : T → Addr → List Ty} {pre : T → Prop} {out : T → Out} {n : Nat} (e : ∀ x a, (args x a).length = n) : ∀ vs H Q E, fspR O args pre out vs H Q E → vs.length = n := fun vs H Q E ⟨x, F, D, k, a, _, _, ha, _⟩ => by rw [ha.len, e]
end
end TL

set_option Elab.async false
set_option linter.all false
set_option maxRecDepth 100000
set_option maxHeartbeats 1000000
namespace TL
open PySem PySem.Spec L2
/-! ## a dict that is walked: locked meanwhile -/
def OZ (K : PySem.W.Frag) (m : List (Str × PyData)) (od : Obj) (kvs : List (L2.Key × V)) : OTy := ⟨fun o F => o = .frz od (.dK kvs) ∧ EntP K F kvs m, fun s ⟨e, h⟩ => ⟨e, h.mono s⟩⟩
def ItOkM (K : PySem.W.Frag) (c : Addr × OTy) (J : It) (ds : List PyData) (F0 : Hp) : Prop := ∀ (D : Own) (H F : Hp), c ∈ D → Same F0 F → HS D H F → ∀ i : Nat,
  (∀ d, ds[i]? = some d → J.go i H ∧ ∀ x H', J.yld i H x H' → ∃ F2, Same F F2 ∧ HS D H' F2 ∧ Dp K F2 x d) ∧ (ds.length ≤ i → J.stop i H)
def EvItM (K : PySem.W.Frag) (c : Addr × OTy) (wi : TI) (G : Sto) (D0 : Own) (ds : List PyData) (D1 : Own) : Prop := ∀ (σ : L2.St) (H F : Hp), HS D0 H F → SS F G σ → ∀ R : It → Hp → Prop,
  (∀ J H' F', Same F F' → HS D1 H' F' → ItOkM K c J ds F' → R J H') → wi σ H R
section
variable {K : PySem.W.Frag} {G G1 G2 : Sto} {D0 D1 D2 D3 : Own} {te ta tb tx : TE} {tt : TT} {R Ra Rb : Ty} {F0 F1 : Hp} {E : Ends} {X : XK}
theorem go_forM {S : Type} {wi : TI} {g : TG} {tb : TS} {ds : List PyData} {c : Addr × OTy} (hi : EvItM K c wi G D0 ds D1) (I : Nat → S → Prop) (Gs : S → Sto) (Ds : S → Own) (s0 : S) (h0 : I 0 s0) (w0 : SLe G (Gs s0)) (d0 : (Ds s0).Sublist D1) (cm : ∀ s, c ∈ Ds s)
    (step : ∀ F1, Same F0 F1 → ∀ k s d, ds[k]? = some d → I k s → ∃ G', EvG g (Gs s) (TL.D K d) G' ∧ ∀ Nx : L2.St → Hp → Prop, (∀ s', I (k + 1) s' → Go Nx F1 (Gs s') (Ds s')) → Go (tb { E with nx := Nx, ct := Nx, bk := E.nx }) F1 G' (Ds s))
    (done : ∀ s, I ds.length s → Go E.nx F0 (Gs s) (Ds s)) : Go (tFor wi g tb E) F0 G D0 := fun σ H F s hs ss =>
  hi σ H F hs ss _ fun J H1 F1 s1 hs1 ok => by
    refine ⟨fun i m σ H => m = ds.length - i ∧ i ≤ ds.length ∧ ∃ x, I i x ∧ StP F1 (Gs x) (Ds x) σ H, ⟨ds.length, by simp, Nat.zero_le _, s0, h0, F1, Same.refl _, hs1.drop d0, (ss.mono s1).weak w0⟩, ?_⟩
    rintro i m σ2 H2 ⟨rfl, hle, x, hx, F2, s2, hs2, ss2⟩
    by_cases hlt : i < ds.length
    · have hd : ds[i]? = some ds[i] := by simp [hlt]
      obtain ⟨go, yl⟩ := (ok (Ds x) H2 F2 (cm x) s2 hs2 i).1 _ hd
      refine .inr ⟨go, fun σ' H' => ∃ x', I (i + 1) x' ∧ StP F1 (Gs x') (Ds x') σ' H', fun σ' H' p => ⟨ds.length - (i + 1), by omega, rfl, hlt, p⟩, fun v H3 hy => ?_⟩
      obtain ⟨F3, s3, hs3, r3⟩ := yl v H3 hy
      obtain ⟨G', hg, hb⟩ := step F1 (s.trans s1) i x _ hd hx
      exact hg v σ2 H3 F3 (Ds x) hs3 (ss2.mono s3) r3 _ fun σ4 ss4 => hb _ (fun x' hx' σ5 H5 F5 s5 hs5 ss5 => ⟨x', hx', F5, s5, hs5, ss5⟩) σ4 H3 F3 (s2.trans s3) hs3 ss4
    · have e : i = ds.length := by omega
      subst e
      exact .inl ⟨(ok (Ds x) H2 F2 (cm x) s2 hs2 _).2 (Nat.le_refl _), done x hx σ2 H2 F2 ((s.trans s1).trans s2) hs2 ss2⟩
theorem ent_get {F : Hp} {kvs : List (L2.Key × V)} {m : List (Str × PyData)} (h : EntP K F kvs m) : ∀ {i : Nat} {z : Str}, (m.map (·.1))[i]? = some z → ∃ v, kvs[i]? = some (Sum.inr z, v) := by
  induction h with
  | nil => intro i z e; simp at e
  | @cons k v d kvs m hd _ ih =>
    intro i z e
    cases i with
    | zero =>
      simp at e
      subst e
      exact ⟨v, by simp⟩
    | succ i => exact ih (by simpa using e)
/-- the names of a locked dict -/
theorem evIt_keys {m : List (Str × PyData)} {od : Obj} {kvs : List (L2.Key × V)} {a : Addr} (ho : Ev te G D0 (Is (.ref a)) D1) (hm : (a, OZ K m od kvs) ∈ D1) : EvItM K (a, OZ K m od kvs) (iKeys te) G D0 ((m.map (·.1)).map .str) D1 := fun σ H F hs ss R q =>
  ho σ H F hs ss _ fun u H1 F1 s1 hs1 r1 => by
    have eu : u = .ref a := r1
    obtain ⟨_, o, ho, rfl, _⟩ := hs1.own a _ hm
    refine ⟨a, od, eu, .inl ⟨kvs, ho, q _ H1 F1 s1 hs1 fun D H2 F2 cm s2 hs2 i => ?_⟩⟩
    obtain ⟨_, o2, ho2, rfl, hx⟩ := hs2.own a _ cm
    refine ⟨fun d hd => ?_, fun hl => ⟨ho2, by rw [hx.len]; simpa using hl⟩⟩
    rw [List.getElem?_map] at hd
    cases e : (m.map (·.1))[i]? with
    | none => rw [e] at hd; cases hd
    | some z =>
      rw [e] at hd
      cases hd
      obtain ⟨v, hv⟩ := ent_get hx e
      refine ⟨⟨ho2, (List.getElem?_eq_some_iff.mp hv).1⟩, fun x H' hy => ?_⟩
      obtain ⟨rfl, k', v', h1, rfl⟩ := hy
      rw [hv] at h1
      cases h1
      exact ⟨F2, Same.refl _, hs2, .str z⟩
/-- a look into a locked dict -/
theorem ev_dgetZ {m : List (Str × PyData)} {od : Obj} {kvs : List (L2.Key × V)} {a : Addr} {x : Str} {d : PyData} (ho : Ev ta G D0 (Is (.ref a)) D1) (hi : Ev tb G D1 (DS K x) D2) (hm : (a, OZ K m od kvs) ∈ D2) (hg : getM m x = some d) : Ev (tDGet ta tb) G D0 (D K d) D2 := fun σ H F hs ss Q q =>
  ho σ H F hs ss _ fun u H1 F1 s1 hs1 r1 => hi σ H1 F1 hs1 (ss.mono s1) _ fun v H2 F2 s2 hs2 r2 => by
    have eu : u = .ref a := r1
    obtain ⟨_, o, ho, rfl, hx⟩ := hs2.own a _ hm
    rcases hx.get x with ⟨e1, _⟩ | ⟨d', v', e1, e2, e3⟩
    · rw [hg] at e1; cases e1
    · rw [hg] at e1
      cases e1
      refine ⟨a, v', eu, .inl ⟨kvs, Sum.inr x, .inr ⟨od, ho⟩, by rw [dp_str r2]; rfl, e2.symm⟩, q _ H2 F2 (s1.trans s2) hs2 e3⟩
/-- what follows the locked run, unlocked -/
structure Opens (K : PySem.W.Frag) (E' E : Ends) (a : Addr) (m : List (Str × PyData)) (od : Obj) (kvs : List (L2.Key × V)) : Prop where
  nx : ∀ {F : Hp} {G : Sto} {D : Own} {k : Nat}, D[k]? = some (a, OZ K m od kvs) → Go E.nx F G (D.set k (a, OD K m)) → Go E'.nx F G D
  rt : ∀ {F : Hp} {R : Ty} {D : Own} {k : Nat}, D[k]? = some (a, OZ K m od kvs) → GoV E.rt F R (D.set k (a, OD K m)) → GoV E'.rt F R D
theorem go_lock {t : TS} {m : List (Str × PyData)} {k : Nat} {a : Addr} (hk : D0[k]? = some (a, OD K m)) (h : ∀ od kvs E', Opens K E' E a m od kvs → Go (t E') F0 G (D0.set k (a, OZ K m od kvs))) : Go (tLock t E) F0 G D0 := fun σ H F s hs ss => by
  obtain ⟨o, ho, kvs, rfl, hx⟩ := hs.at hk
  refine ⟨a, .dK kvs, ho, trivial, fun od => ?_⟩
  refine h od kvs _ ⟨fun {F G D k} e q => fun σ H' F' s' hs' ss' => ?_, fun {F R D k} e q => fun v H' F' s' hs' r' => ?_⟩ σ _ F s (hs.put hk ⟨rfl, hx⟩) ss
  · obtain ⟨o, ho, rfl, hx'⟩ := hs'.at e
    exact ⟨ho, q σ _ F' s' (hs'.put e ⟨kvs, rfl, hx'⟩) ss'⟩
  · obtain ⟨o, ho, rfl, hx'⟩ := hs'.at e
    exact ⟨ho, q v _ F' s' (hs'.put e ⟨kvs, rfl, hx'⟩) r'⟩
end
end TL

set_option Elab.async false
set_option linter.all false
set_option maxRecDepth 100000
set_option maxHeartbeats 1000000
namespace TL
open PySem PySem.Spec L2
/-! ## tables that are in order already -/
theorem tot_of {e : Str × Rat} : ∀ {ps : List (Str × Rat)}, (ps.map (·.1)).Nodup → e ∈ ps → tot ps e.1 = e.2
  | [], _, h => absurd h List.not_mem_nil
  | f :: ps, nd, h => by
    rw [List.map_cons, List.nodup_cons] at nd
    show (if f.1 = e.1 then f.2 else 0) + tot ps e.1 = e.2
    rcases List.mem_cons.mp h with q | q
    · subst q
      rw [if_pos rfl, tot_none nd.1]
      grind
    · have n : ¬ f.1 = e.1 := fun z => nd.1 (by rw [z]; exact List.mem_map_of_mem q)
      rw [if_neg n, tot_of nd.2 q]
      grind
theorem res_id {ps : List (Str × Rat)} (h : (ps.map (·.1)).Pairwise ltS) (h0 : ∀ e ∈ ps, e.2 ≠ 0) : res ps = ps := by
  have nd := rise_nodup h
  unfold res
  rw [inOrder_self h]
  have f : (ps.map (·.1)).filter (fun k => !decide (tot ps k = 0)) = ps.map (·.1) := by
    rw [List.filter_eq_self]
    intro k hk
    obtain ⟨e, he, rfl⟩ := List.mem_map.mp hk
    rw [tot_of nd he]
    simpa using h0 e he
  rw [f, List.map_map]
  conv => rhs; rw [← List.map_id ps]
  refine List.map_congr_left fun e he => ?_
  show (e.1, tot ps e.1) = e
  rw [tot_of nd he]
theorem lt_pre (a b : List Nat) : ∀ p : List Nat, ltCps (p ++ a) (p ++ b) = ltCps a b
  | [] => rfl
  | x :: p => by
    have ih := lt_pre a b p
    simp [ltCps, ih]
theorem ltS_pre {w x y : Str} (h : ltS x y) : ltS (w ++ x) (w ++ y) := by
  unfold ltS at h ⊢
  rw [app_cps, app_cps, lt_pre]
  exact h
theorem pre_inj {w x y : Str} (h : w ++ x = w ++ y) : x = y := by
  have e : (w ++ x).cps.toList = (w ++ y).cps.toList := by rw [h]
  rw [app_cps, app_cps] at e
  exact str_ext (List.append_cancel_left e)
theorem rise_pre (w : Str) {ps : List (Str × Rat)} (h : (ps.map (·.1)).Pairwise ltS) : ((ps.map fun e => (w ++ e.1, e.2)).map (·.1)).Pairwise ltS := by
  rw [List.map_map]
  have e : ((·.1) ∘ fun e : Str × Rat => (w ++ e.1, e.2)) = fun e => w ++ e.1 := rfl
  rw [e]
  have h2 : (ps.map fun e => w ++ e.1) = (ps.map (·.1)).map (w ++ ·) := by rw [List.map_map]; rfl
  rw [h2, List.pairwise_map]
  exact h.imp fun l => ltS_pre l
/-- a sum's data can be held to another's, if its names are of signs that there are -/
theorem shaped_sum {n : Rat} {rs : List (Str × Rat)} (h : ∀ e ∈ rs, PyData.canLay0 (.str e.1) = true) : SeqAt.shaped (sumD n rs) = true := by
  have h1 : PyData.canLayAll0 (rs.map pairD) = true := by
    induction rs with
    | nil => rfl
    | cons e ps ih =>
      rw [List.map_cons]
      show (PyData.canLay0 (pairD e) && PyData.canLayAll0 (ps.map pairD)) = true
      rw [ih fun f m => h f (List.mem_cons_of_mem _ m), Bool.and_true]
      show (PyData.canLay0 (.str e.1) && _) = true
      rw [h e List.mem_cons_self]
      rfl
  have h2 : PyData.depthAll (rs.map pairD) ≤ 2 := by
    clear h h1
    induction rs with
    | nil => exact Nat.zero_le _
    | cons e ps ih =>
      rw [List.map_cons]
      show max (PyData.depth (pairD e)) (PyData.depthAll (ps.map pairD)) ≤ 2
      have : PyData.depth (pairD e) = 2 := rfl
      omega
  unfold SeqAt.shaped
  have h3 : PyData.canLay0 (sumD n rs) = true := by
    show (PyData.canLay0 (qT n) && (PyData.canLayAll0 (rs.map pairD) && true)) = true
    rw [h1]
    rfl
  have h4 : PyData.depth (sumD n rs) ≤ 64 := by
    show max (PyData.depth (qT n)) (max (PyData.depthAll (rs.map pairD) + 1) 0) + 1 ≤ 64
    have : PyData.depth (qT n) = 1 := rfl
    omega
  rw [h3, Bool.true_and]
  exact decide_eq_true h4
theorem eqv_sum {n : Rat} {rs : List (Str × Rat)} (h : ∀ e ∈ rs, PyData.canLay0 (.str e.1) = true) : PyData.eqv (sumD n rs) (sumD n rs) = true := SeqAt.eqv_refl _ (SeqAt.canLay_of_shaped (shaped_sum h))
/-- an owned thing made in the call, handed last, read only -/
theorem ev_callRN {T : Type} {K : PySem.W.Frag} {G : Sto} {D0 D1 D2 : Own} {ta tb : TE} {R Ra : Ty} {O : T → OTy} {args : T → Addr → List Ty} {pre : T → Prop} {out : T → Out} {X : XK} (x : T) (ha : Ev ta G D0 Ra D1) (hb : EvN tb G D1 (O x) D2) (hargs : ∀ a, args x a = [Ra, Is (.ref a)]) (hp : pre x) (ho : out x = .ok R) :
    Ev (tCall (fspR O args pre out) [] X (tCons ta (tCons tb tNil))) G D0 R D2 := fun σ H F hs ss Q q =>
  ha σ H F hs ss _ fun v H1 F1 s1 hs1 r1 => hb σ H1 F1 hs1 (ss.mono s1) _ fun p H2 F2 s2 hs2 =>
    ⟨x, F2, (p, O x) :: D2, 0, p, hs2, rfl, by rw [hargs]; exact .cons (Ra.mono s2 r1) (.cons rfl .nil), hp, by
      rw [ho]
      exact fun w H3 F3 s3 hs3 r3 => q w H3 F3 ((s1.trans s2).trans s3) (hs3.drop (List.sublist_cons_self _ _)) r3⟩
end TL

set_option Elab.async false
set_option linter.all false
set_option maxRecDepth 100000
set_option maxHeartbeats 1000000
/-! # how many texts a set of a list's texts holds -/
namespace TL
open PySem PySem.Spec L2 PyProof.Rows
/-- the texts met in the first n, each once -/
def stepS (σ : List Str) (v : Str) : List Str := if σ.any (· == v) then σ else σ ++ [v]
def metS (xs : List Str) : Nat → List Str
  | 0 => []
  | n + 1 => stepS (metS xs n) (xs.getD n Str.empty)
theorem stepS_any (σ : List Str) (v k : Str) : (stepS σ v).any (· == k) = (σ.any (· == k) || decide (k = v)) := by
  unfold stepS
  split
  · rename_i h
    by_cases e : k = v
    · subst e
      simp [h]
    · simp [e]
  · rw [List.any_append]
    congr 1
    by_cases e : k = v
    · subst e; simp
    · have hb : (v == k) = false := by simpa [beq_iff_eq] using (fun h' : v = k => e h'.symm)
      simp [hb, e]
theorem stepS_len (σ : List Str) (v : Str) : (stepS σ v).length = if σ.any (· == v) then σ.length else σ.length + 1 := by
  unfold stepS; split <;> simp
theorem metS_le (xs : List Str) : ∀ n, (metS xs n).length ≤ n
  | 0 => Nat.le_refl _
  | n + 1 => by
    have ih := metS_le xs n
    show (stepS (metS xs n) _).length ≤ n + 1
    rw [stepS_len]
    split <;> omega
section
variable {prog : Program} {w : World} {A : Around} {R : Result → Shared → Prop} {I : Addr} {fp wr : List Addr} {G : Array GenState → Array GenState → Prop} {n : Nat} {P : Nat → Value → Prop} {St : Nat → Shared → Prop}
theorem loopS (W : WalksS prog w A.in1 I fp wr G n P St) (S : Addr) (hSf : S ∉ fp) (xs : List Str) (hsz : xs.length = n) (hb : n + 1 < scanBound)
    (hval : ∀ i v, P i v → ∃ t, v = .str (xs.getD i Str.empty) t) :
    ∀ (k i : Nat) (s : Shared), n - i = k → i ≤ n → St i s →
      s.heap.SetOf (PySem.strKind prog w) S (fun k' => (metS xs i).any (· == k')) (metS xs i).length →
      (∀ s', Moved (S :: wr) G s s' → s'.heap.SetOf (PySem.strKind prog w) S (fun k' => (metS xs n).any (· == k')) (metS xs n).length → R (.ok (.ret .none)) s') →
      codeAny (model prog w) A (.builtin "set.update.loop" ⟨[.ref S, .ref I], []⟩) R s := by
  have hSw : S ∉ wr := fun h => hSf (W.sub _ h)
  have hsub : ∀ b ∈ wr, b ∈ S :: wr := fun b hb => List.mem_cons_of_mem _ hb
  intro k
  induction k with
  | zero =>
    intro i s hk hi hst hS hR
    have hin : i = n := by omega
    subst hin
    refine codeAny_builtin PyProof.Rows.F.entry_set_update_loop ?_
    rw [Around.under_plainId PyProof.Rows.F.plain_set_update_loop _]
    show wpAny _ A.in1 (pyNext (.ref I) >>= _) _ _ s
    refine wpAny_bind (W.done s _ _ hst fun s' hm => ?_)
    show wpAny _ A.in1 (ret Value.none) _ _ s'
    exact wpAny_pure (hR s' (hm.mono hsub) (by
      obtain ⟨o, es, ep, t, ho, rest⟩ := hS
      exact ⟨o, es, ep, t, hm.heap S _ hSw ho, rest⟩))
  | succ k ih =>
    intro i s hk hi hst hS hR
    have hlt : i < n := by omega
    refine codeAny_builtin PyProof.Rows.F.entry_set_update_loop ?_
    rw [Around.under_plainId PyProof.Rows.F.plain_set_update_loop _]
    show wpAny _ A.in1 (pyNext (.ref I) >>= _) _ _ s
    refine wpAny_bind (W.item i s _ _ hlt hst fun v s' hP hst' hm => ?_)
    obtain ⟨t, rfl⟩ := hval i v hP
    have hS' : s'.heap.SetOf (PySem.strKind prog w) S (fun k' => (metS xs i).any (· == k')) (metS xs i).length := by
      obtain ⟨o, es, ep, tb, ho, rest⟩ := hS
      exact ⟨o, es, ep, tb, hm.heap S _ hSw ho, rest⟩
    show wpAny _ A.in1 (holding [Value.str (xs.getD i Str.empty) t] (setAdd S (.str (xs.getD i Str.empty) t)) >>= _) _ _ s'
    refine wpAny_bind (wpAny_holding ?_)
    unfold setAdd
    refine wpAny_holding ?_
    refine wpAny_bind ((PySem.strKind prog w).pyHash (k := xs.getD i Str.empty) (strKind_is _ _ _ _) ?_)
    have hroom : (metS xs i).length + 1 < scanBound := by have := metS_le xs i; omega
    refine wpAny_setAddHashed_of (knd := PySem.strKind prog w) (s := { s' with toks := s'.toks + 1 }) (strKind_is _ _ _ _) rfl hS' hroom fun h' hsb hS2 => ?_
    have hSi : h'.SetOf (PySem.strKind prog w) S (fun k' => (metS xs (i + 1)).any (· == k')) (metS xs (i + 1)).length :=
      SetOf_congr hS2 (fun k' => by show _ = (stepS _ _).any _; rw [stepS_any]) (by show _ = (stepS _ _).length; rw [stepS_len])
    refine wpAny_pure ⟨plainId_quiet PyProof.Rows.F.plain_set_update_loop _, ih (i + 1) _ (by omega) hlt (W.frame _ s' _ _ hst' (Nat.le_succ _) fun b hb o e => ?_) hSi fun s'' hm'' hS'' => ?_⟩
    · rw [hsb.2 b (fun h : b = S => hSf (by rw [← h]; exact hb))]; exact e
    · refine hR s'' (Moved.trans W.gtrans ((hm.mono hsub).then_heap (Nat.le_succ _) fun b o hb e => ?_) hm'') hS''
      rw [hsb.2 b (fun h : b = S => hb (by rw [h]; exact List.mem_cons_self))]; exact e
end
section
variable {prog : Program} {w : World} {A : Around} {E : Value → Shared → Prop} {s : Shared}
set_option maxHeartbeats 3200000 in
theorem call_set_listN {l : Addr} {items : Array Value} {xs : List Str} {Q : Value → Shared → Prop}
    (hh : A.handled = none) (hl : s.heap.IsList l items) (hi : PyProof.Rows.StrsAre items.toList xs) (hn1 : items.size + 1 < scanBound)
    (h : ∀ (h' : Heap) (tk : Nat), h'.SetOf (PySem.strKind prog w) s.heap.objs.size (fun k' => (metS xs items.size).any (· == k')) (metS xs items.size).length →
      (∀ b o, b < s.heap.objs.size → s.heap.get? b = some o → h'.get? b = some o) → Q (.ref s.heap.objs.size) { s with heap := h', toks := tk }) :
    wpAny (model prog w) A (call (.type "set") [.ref l]) Q E s := by
  obtain ⟨c, tl, hmro⟩ := PySem.F.called_set.mro
  have hmade := PySem.F.called_set.made
  have hsub := PySem.F.called_set.sub
  refine wpAny_call (codeAny_of_tree ?_)
  show wpAny _ _ (callAny (.type "set") _) _ _ _
  refine wpAny_pure ⟨Code.quiet_builtin _ (by decide +kernel), codeAny_builtin PySem.F.entry_type_call ?_⟩
  rw [Around.under_plain (weight_type_call_type "set" [.ref l] []) rfl]
  have h1 := PySem.F.called_set.notType
  have h2 := PySem.F.called_set.canCreate
  have hct := PySem.F.typeCall_set_1 (.ref l)
  repeat (any_goals (first | assumption | wp_step))

  refine codeAny_mono (code_set_new_1 (.ref l) (E := E) (Q₁ := fun obj s₁ => ∃ led : Bool, obj = .ref s.heap.objs.size ∧ s₁ = { s with heap := s.heap.push { cls := .type "set", dict := none, data := .set #[] 0 (.fresh 0 0 led) } }) fun led => ⟨led, rfl, rfl⟩) fun r s₁ hr => ?_
  cases r with
  | error e => exact hr
  | ok fl =>
    cases fl with
    | ret obj =>
      obtain ⟨led, rfl, rfl⟩ := hr
      have hS : (s.heap.push { cls := .type "set", dict := none, data := .set #[] 0 (.fresh 0 0 led) }).get? s.heap.objs.size = some { cls := .type "set", dict := none, data := .set #[] 0 (.fresh 0 0 led) } := Heap.get?_push_size _ rfl
      have hT : Shared.TypeIs { s with heap := s.heap.push { cls := .type "set", dict := none, data := .set #[] 0 (.fresh 0 0 led) } } (.ref s.heap.objs.size) "set" := ⟨_, hS, rfl⟩
      have hli := PySem.F.called_set.init.lookup
      have hbi := PySem.F.called_set.init.bind (.ref s.heap.objs.size)
      repeat (any_goals (first | assumption | wp_step))

      refine codeAny_mono (codeAny_call_builtin (R := wants (fun r s₂ => r = .none ∧ ∃ h' tk, s₂ = { s with heap := h', toks := tk } ∧
          h'.SetOf (PySem.strKind prog w) s.heap.objs.size (fun k' => (metS xs items.size).any (· == k')) (metS xs items.size).length ∧
          (∀ b o, b < s.heap.objs.size → s.heap.get? b = some o → h'.get? b = some o)) E) PySem.F.called_set.init.plain PySem.F.entry_set_init (check_set_init_1 hT ?_)) fun r₂ s₂ hr₂ => ?_
      · obtain ⟨ol, hol, hcl, nl, hdl⟩ := hl
        obtain ⟨ocls, odict, odata, oslots⟩ := ol
        simp only at hcl hdl
        subst hcl; subst hdl
        have hol' : (s.heap.push { cls := .type "set", dict := none, data := .set #[] 0 (.fresh 0 0 led) }).get? l = some { cls := .type "list", dict := odict, data := .seq items nl, slots := oslots } := Heap.get?_push_of_some _ hol
        have hsls := PySem.F.sub_list_set
        have hslf := PySem.F.sub_list_frozenset
        have hne : (Value.type "list" == Value.type "dict") = false := by decide
        have hl1 : (s.heap.push { cls := .type "set", dict := none, data := .set #[] 0 (.fresh 0 0 led) }).IsList l items := ⟨_, hol', rfl, nl, rfl⟩
        unfold Builtin.«set.__init__» noKeywords Builtin.Frozenset.updateFrom
        generalize hPI : pyIter = PI
        wp_walk
        subst hPI

        refine wpAny_pyIter_list hl1 ?_
        refine wpAny_bind (wpAny_runValue ?_)
        have hlS : l < s.heap.objs.size := Heap.lt_size hol
        have hh3 : A.in1.in1.in1.handled = none := by simp [hh]
        have hneI : l ≠ (s.heap.push { cls := .type "set", dict := none, data := .set #[] 0 (.fresh 0 0 led) }).objs.size := by
          rw [Heap.size_push]; exact Nat.ne_of_lt (Nat.lt_succ_of_lt hlS)
        have hSf : s.heap.objs.size ∉ [(s.heap.push { cls := .type "set", dict := none, data := .set #[] 0 (.fresh 0 0 led) }).objs.size, l] := by
          rw [Heap.size_push]; simp only [List.mem_cons, List.mem_singleton, List.not_mem_nil, or_false, not_or]
          exact ⟨Nat.ne_of_lt (Nat.lt_succ_self _), Nat.ne_of_gt hlS⟩
        have hsz : xs.length = items.size := by rw [← StrsAre.len_eq hi, Array.length_toList]
        have hval : ∀ (i : Nat) (v : Value), items[i]? = some v → ∃ t, v = .str (xs.getD i Str.empty) t := fun i v hv => SS.strs_at hi i v (by rw [Array.getElem?_toList]; exact hv)
        refine loopS ((Walks.list hh3 _ l hneI items).toS) s.heap.objs.size
          hSf xs hsz hn1 hval (items.size - 0) 0 _ (by omega) (Nat.zero_le _)
          ⟨⟨_, Heap.get?_push_size _ rfl, rfl, rfl⟩, (hl1.push _)⟩ ?hS0 ?hR
        case hS0 =>
          have hget : ((s.heap.push { cls := .type "set", dict := none, data := .set #[] 0 (.fresh 0 0 led) }).push { cls := .type "list_iterator", data := .fields #[.ref l, .int 0 0] }).get? s.heap.objs.size
              = some { cls := .type "set", dict := none, data := .set #[] 0 (.fresh 0 0 led) } := Heap.get?_push_of_some _ hS
          exact PyProof.Rows.SetOf_congr ((PyProof.Rows.setObjOf_fresh (knd := PySem.strKind prog w) led).setOf hget (by unfold scanBound; omega)) (fun _ => rfl) rfl
        case hR =>
          intro s' hm hS'
          obtain ⟨h', g', d', tk', os'⟩ := s'
          have eg : g' = s.gens := hm.gens
          have ed : d' = s.drawn := hm.drawn
          have eo : os' = s.os := hm.os
          subst eg; subst ed; subst eo
          show wpAny _ _ _ _ _ _
          refine wpAny_pure ?_
          show wpAny _ _ (ret Value.none) _ _ _
          refine wpAny_pure ⟨rfl, h', tk', rfl, hS', fun b o hb e => ?_⟩
          have hb1 : b ≠ s.heap.objs.size := Nat.ne_of_lt hb
          have hb2 : b ≠ (s.heap.push { cls := .type "set", dict := none, data := .set #[] 0 (.fresh 0 0 led) }).objs.size := by
            rw [Heap.size_push]; exact Nat.ne_of_lt (Nat.lt_succ_of_lt hb)
          exact hm.heap b o (by simp only [List.mem_cons, List.mem_singleton, List.not_mem_nil, or_false, not_or]; exact ⟨hb1, hb2⟩) (Heap.get?_push_of_some _ (Heap.get?_push_of_some _ e))

      · cases r₂ with
        | error e => exact hr₂
        | ok fl₂ =>
          cases fl₂ with
          | ret r =>
            obtain ⟨rfl, h', tk, rfl, hS', hk'⟩ := hr₂
            repeat (any_goals (first | assumption | wp_step))
            exact h _ _ hS' hk'
          | _ => exact hr₂.elim
    | _ => exact hr.elim

end
/-- len(set(xs)) of a list of texts -/
def tLenSetN (K : PySem.W.Frag) (ta : TE) : TE := fun σ H Q => ta σ H fun x H1 => ∃ l, ∃ xs : List Str, x = .ref l ∧ SqL K H1 l (xs.map V.str) ∧ xs.length + 1 < scanBound ∧ Q (.int (metS xs xs.length).length) H1
theorem pe_lenSetN {X : Cx} {a : Expr} {ta : TE} {p p2 q pos : Pos} (hc : X.calm = true) (hg : Gl X "len") (hm : X.mg "len" = none) (hg2 : Gl X "set") (hm2 : X.mg "set" = none) (ha : PE X a ta)
    (na : starEach [a] X.env = (false, eval a X.env) :: starEach [] X.env := by rfl) : PE X (.Call (.Name "len" p) [.Call (.Name "set" p2) [a] [] q] [] pos) (tLenSetN X.K ta) := by
  refine ⟨fun pins s σ H Q I h => ?_⟩
  refine Call_ (ld_blt I hg hm boot_len ?_)
  refine PyProof.Rows.callWith_builtin1 (PyProof.Rows.args_cons ?_ rfl) rfl rfl
  refine Call_ (ld_blt I hg2 hm2 boot_set ?_)
  refine PyProof.Rows.callWith_type1 (PyProof.Rows.args_cons (thn (ha.run pins s σ H _ I h) fun v s1 ⟨x, H1, I1, r1, q1⟩ => PyProof.Rows.args_nil ?_) na) na rfl
  obtain ⟨l, xs, rfl, hq, h1, q1⟩ := q1
  have h0 := h1
  cases r1
  obtain ⟨its, r, pl, hz⟩ := I1.list hq
  have hl : its.toArray.size = xs.length := by rw [List.size_toArray, ← r.length, List.length_map]
  refine call_set_listN (I1.ok.hd hc) pl.isList (by simpa using strsAre_of r) (by rw [hl]; exact h0) fun h' tk hS hk => ?_
  refine PyProof.Rows.args_nil ?_
  rw [hl] at hS
  have hle := metS_le xs xs.length
  obtain ⟨o, es, ep, t, ho, hex, hd, _, _, _, hf, hn⟩ := hS
  have I2 : Inv X pins σ H1 { s1 with heap := h', toks := tk } := I1.kept fun b o e => hk b o (Heap.lt_size e) e
  unfold scanBound at h1
  refine call_len_set ho hex hd hf (by rw [hn]; omega) ⟨.int (metS xs xs.length).length, H1, I2.tok _, ⟨_, by rw [hn]⟩, q1⟩
end TL

section
set_option Elab.async false
set_option linter.all false
set_option maxRecDepth 100000
set_option maxHeartbeats 1000000
namespace TL
open PySem PySem.Spec L2
/-! ## list + list, wherever the lists stand -/
def rCatS (K : PySem.W.Frag) : R2 := fun x y H Q => ∃ l b xs zs, x = .ref l ∧ y = .ref b ∧ SqL K H l xs ∧ SqL K H b zs ∧ xs.length + zs.length ≤ sizeLine ∧ ∀ p, H p = none → Q (.ref p) (upd H p (.lst (xs ++ zs)))
theorem op_catS {X : Cx} : OpR X (binaryOp .Add) (rCatS X.K) := by
  intro pins s σ H x y v u Q I rx ry h
  obtain ⟨l, b, xs, zs, rfl, rfl, hH, hB, hz, q⟩ := h
  cases rx
  cases ry
  obtain ⟨its, r, ⟨⟨cls, dd, data, sl⟩, n, ho, hc, hdn, hdt⟩, hlen⟩ := I.list hH
  obtain ⟨its2, r2, ⟨⟨cls2, dd2, data2, sl2⟩, n2, ho2, hc2, hdn2, hdt2⟩, hlen2⟩ := I.list hB
  simp only at hc hdt hc2 hdt2
  subst hc hdt hc2 hdt2
  have l1 := r.length
  have l2 := r2.length
  refine concat_meets ⟨_, ho, rfl⟩ ⟨_, ho2, rfl⟩ PySem.noFill_list_add PySem.seq_list_add PySem.F.slot_list_add PySem.F.entry_list_add (PySem.F.args_list_add_2 _ _) (PyProof.Rows.list_addW l b its.toArray its2.toArray n n2 dd dd2 sl sl2 (by simp; omega)) ⟨ho, ho2, ?_⟩
  have ea : its.toArray ++ its2.toArray = (its ++ its2).toArray := by simp
  rw [ea]
  exact ⟨.ref _, _, I.lnew (t' := s.toks) (r.append r2) (by rw [List.length_append]; omega), rfl, q _ I.fresh⟩
/-- t + u, tuples; a new one has no dict of its own -/
def rCatP (K : PySem.W.Frag) : R2 := fun x y H Q => ∃ a b xs ys, x = .ref a ∧ y = .ref b ∧ SqT K H a xs ∧ SqT K H b ys ∧ xs.length + ys.length ≤ sizeLine ∧
  (xs = [] → Q (.ref b) H) ∧ (ys = [] → xs ≠ [] → Q (.ref a) H) ∧ (ys ≠ [] → xs ≠ [] → ∀ p o, H p = none → o.dict = none → Q (.ref p) (upd H p (.frz o (.tup (xs ++ ys)))))
theorem op_catP {X : Cx} : OpR X (binaryOp .Add) (rCatP X.K) := by
  intro pins s σ H x y v u Q I rx ry h
  obtain ⟨a, b, xs, ys, ex, ey, ha, hb, hz, q0, q1, q2⟩ := h
  by_cases hx : xs = []
  · subst hx
    exact op_catN pins s σ H x y v u Q I rx ry ⟨a, b, ys, ex, ey, ha, hb, q0 rfl⟩
  · subst ex ey
    cases rx
    cases ry
    obtain ⟨its, r1, p1, _⟩ := I.tuple ha
    obtain ⟨its2, r2, p2, _⟩ := I.tuple hb
    refine HT.cat_tup p1 p2 (fun z => hx (r1.nil_iff.mp z)) (fun z => ⟨.ref a, H, I, rfl, q1 (r2.nil_iff.mp z) hx⟩) (fun z => ?_) (by rw [← r1.length, ← r2.length]; exact hz)
    refine ⟨.ref s.heap.objs.size, _, I.laid (t' := s.toks) (o := .frz { cls := .type "tuple", data := .seq (its ++ its2).toArray } (.tup (xs ++ ys))) (fun b ob q => Heap.get?_push_of_some _ q) (Nat.le_refl _) ?_, rfl, q2 (fun w => z (r2.nil_iff.mpr w)) hx _ _ (I.hok.fresh (Nat.le_refl _)) rfl⟩
    exact ⟨Heap.get?_push_size _ rfl, by rw [List.length_append]; exact hz, _, r1.append r2, PyProof.Rows.IsTup.new _ _⟩
def qAddS (K : PySem.W.Frag) : R2 := fun x y H Q => qAdd K x y H Q ∨ rCatS K x y H Q ∨ rCatP K x y H Q
theorem op_addV {X : Cx} : OpR X (binaryOp .Add) (qAddS X.K) := op_addU.or (op_catS.or op_catP)
end TL

end
section
set_option Elab.async false
set_option linter.all false
set_option maxRecDepth 100000
set_option maxHeartbeats 1000000
/-! # what a def gives, in plain Lean -/
inductive Res (ε α : Type) where
  | ok (a : α)
  | err (n : PySem.Str) (e : ε)
  | stuck
namespace Res
variable {ε ε' α β γ σ ρ : Type}
def bind (m : Res ε α) (k : α → Res ε β) : Res ε β := match m with
  | .ok a => k a
  | .err n e => .err n e
  | .stuck => .stuck
def sat (m : Res ε α) (o : α → Prop) (r : PySem.Str → ε → Prop) : Prop := match m with
  | .ok a => o a
  | .err n e => r n e
  | .stuck => False
/-- what is known of the state where it raises -/
def mapE (g : ε → ε') (m : Res ε α) : Res ε' α := match m with
  | .ok a => .ok a
  | .err n e => .err n (g e)
  | .stuck => .stuck
/-- nothing raised may leave -/
def calm (m : Res Unit α) : Res ε' α := match m with
  | .ok a => .ok a
  | .err _ _ => .stuck
  | .stuck => .stuck
open Classical in
noncomputable def grd (c : Prop) (x : α) : Res ε α := if c then .ok x else .stuck
def opt (o : Option α) : Res ε α := match o with
  | some a => .ok a
  | none => .stuck
/-- a walk over a list; k behind it -/
def loop (body : α → σ → (σ → Res ε ρ) → Res ε ρ) (k : σ → Res ε ρ) : List α → σ → Res ε ρ
  | [], s => k s
  | x :: xs, s => body x s (loop body k xs)
/-- a while: n turns at most -/
def wloop (body : σ → (σ → Res ε ρ) → Res ε ρ) : Nat → σ → Res ε ρ
  | 0, _ => .stuck
  | n + 1, s => body s (wloop body n)
@[simp] theorem bind_ok (a : α) (k : α → Res ε β) : bind (.ok a) k = k a := rfl
@[simp] theorem bind_err (n : PySem.Str) (e : ε) (k : α → Res ε β) : bind (.err n e) k = .err n e := rfl
@[simp] theorem bind_stuck (k : α → Res ε β) : bind .stuck k = .stuck := rfl
@[simp] theorem mapE_ok (g : ε → ε') (a : α) : mapE g (.ok a) = .ok a := rfl
@[simp] theorem mapE_err (g : ε → ε') (n : PySem.Str) (e : ε) : mapE g (.err n e : Res ε α) = .err n (g e) := rfl
@[simp] theorem calm_ok (a : α) : (calm (.ok a) : Res ε' α) = .ok a := rfl
theorem grd_t {c : Prop} {x : α} (h : c) : (grd c x : Res ε α) = .ok x := if_pos h
@[simp] theorem opt_some (a : α) : (opt (some a) : Res ε α) = .ok a := rfl
theorem sat_opt {x : Option α} {k : α → Res ε β} {o : β → Prop} {r : PySem.Str → ε → Prop} (h : (bind (opt x) k).sat o r) : ∃ a, x = some a ∧ (k a).sat o r := by
  cases x with
  | some a => exact ⟨a, rfl, h⟩
  | none => exact (show False from h).elim
theorem sat_bind {m : Res ε α} {k : α → Res ε β} {o : β → Prop} {r : PySem.Str → ε → Prop} : (bind m k).sat o r ↔ m.sat (fun a => (k a).sat o r) r := by
  cases m <;> exact Iff.rfl
theorem sat_mono {m : Res ε α} {o o' : α → Prop} {r r' : PySem.Str → ε → Prop} (h : m.sat o r) (f : ∀ a, o a → o' a) (g : ∀ n e, r n e → r' n e) : m.sat o' r' := by
  cases m with
  | ok a => exact f a h
  | err n e => exact g n e h
  | stuck => exact h
theorem sat_grd {c : Prop} {x : α} {k : α → Res ε β} {o : β → Prop} {r : PySem.Str → ε → Prop} (h : (bind (grd c x) k).sat o r) : c ∧ (k x).sat o r := by
  unfold grd at h
  split at h
  · rename_i hc
    exact ⟨hc, h⟩
  · exact (show False from h).elim
end Res
namespace TL
open PySem PySem.Spec L2
structure Wish (K : PySem.W.Frag) (ε ρ : Type) where
  X : L2.St → XK
  De : ε → Own
  o : Hp → ρ → Prop
  r : Hp → Str → ε → Prop
  cond : Sto → Prop
  upo : ∀ {F F' : Hp} {a : ρ}, Same F F' → o F a → o F' a
  upr : ∀ {F F' : Hp} {n : Str} {e : ε}, Same F F' → r F n e → r F' n e
  err : ∀ {F : Hp} {n : Str} {e : ε} {G : Sto}, r F n e → cond G → Go (fun σ H => X σ (.ref (He.ga K n)) none H) F G (De e)
def Wish.W {K : PySem.W.Frag} {ε ρ : Type} (w : Wish K ε ρ) (F : Hp) (m : Res ε ρ) : Prop := m.sat (w.o F) (w.r F)
theorem Wish.up {K : PySem.W.Frag} {ε ρ : Type} {w : Wish K ε ρ} {F F' : Hp} {m : Res ε ρ} (h : w.W F m) (s : Same F F') : w.W F' m := Res.sat_mono h (fun _ => w.upo s) (fun _ _ => w.upr s)
def EvC (K : PySem.W.Frag) {ε α β S : Type} (X : L2.St → XK) (De : ε → Own) (te : TE) (G : Sto) (Dd : S → Own) (s : S) (M : (α → S → Res ε β) → Res ε β) (R : α → Ty) : Prop :=
  ∀ (kk : α → S → Res ε β) (σ : L2.St) (H F : Hp), HS (Dd s) H F → SS F G σ → ∀ (o : β → Prop) (r : Str → ε → Prop) (Q : VK), (M kk).sat o r →
    (∀ x s' v H' F', Same F F' → HS (Dd s') H' F' → (R x).p v F' → (kk x s').sat o r → Q v H') → (∀ n e, r n e → ∀ H' F', Same F F' → HS (De e) H' F' → X σ (.ref (He.ga K n)) none H') → te σ H Q
def EvTC (K : PySem.W.Frag) {ε β S : Type} (X : L2.St → XK) (De : ε → Own) (tt : TT) (G : Sto) (Dd : S → Own) (s : S) (M : (Bool → S → Res ε β) → Res ε β) : Prop :=
  ∀ (kk : Bool → S → Res ε β) (σ : L2.St) (H F : Hp), HS (Dd s) H F → SS F G σ → ∀ (o : β → Prop) (r : Str → ε → Prop) (Q : Bool → Hp → Prop), (M kk).sat o r →
    (∀ x s' H' F', Same F F' → HS (Dd s') H' F' → (kk x s').sat o r → Q x H') → (∀ n e, r n e → ∀ H' F', Same F F' → HS (De e) H' F' → X σ (.ref (He.ga K n)) none H') → tt σ H Q
/-- a new owned thing -/
def EvNC (K : PySem.W.Frag) {ε α β S : Type} (X : L2.St → XK) (De : ε → Own) (te : TE) (G : Sto) (Dd : S → Own) (s : S) (M : (α → S → Res ε β) → Res ε β) (O : α → OTy) : Prop :=
  ∀ (kk : α → S → Res ε β) (σ : L2.St) (H F : Hp), HS (Dd s) H F → SS F G σ → ∀ (o : β → Prop) (r : Str → ε → Prop) (Q : VK), (M kk).sat o r →
    (∀ x s' p H' F', Same F F' → HS ((p, O x) :: Dd s') H' F' → (kk x s').sat o r → Q (.ref p) H') → (∀ n e, r n e → ∀ H' F', Same F F' → HS (De e) H' F' → X σ (.ref (He.ga K n)) none H') → te σ H Q
def EvAC (K : PySem.W.Frag) {ε τ β S : Type} (X : L2.St → XK) (De : ε → Own) (ta : TA) (G : Sto) (Dd : S → Own) (s : S) (M : (τ → S → Res ε β) → Res ε β) (Rs : τ → List Ty) : Prop :=
  ∀ (kk : τ → S → Res ε β) (σ : L2.St) (H F : Hp), HS (Dd s) H F → SS F G σ → ∀ (o : β → Prop) (r : Str → ε → Prop) (Q : List V → Hp → Prop), (M kk).sat o r →
    (∀ x s' vs H' F', Same F F' → HS (Dd s') H' F' → AllP F' (Rs x) vs → (kk x s').sat o r → Q vs H') → (∀ n e, r n e → ∀ H' F', Same F F' → HS (De e) H' F' → X σ (.ref (He.ga K n)) none H') → ta σ H Q
section
variable {K : PySem.W.Frag} {ε ε' ρ α β γ δ S τ : Type} {X : L2.St → XK} {De : ε → Own} {G G1 G2 : Sto} {Dd : S → Own} {s : S} {te ta tb tc : TE} {tt tu : TT} {F0 F1 : Hp} {E : Ends}
theorem evc_of {R : Ty} {x : α} {R' : α → Ty} (h : Ev te G (Dd s) R (Dd s)) (e : R' x = R) : EvC (β := β) K X De te G Dd s (fun kk => kk x s) R' := fun kk σ H F hs ss o r Q hm q _ =>
  h σ H F hs ss Q fun v H' F' s' hs' r' => q x s v H' F' s' hs' (by rw [e]; exact r') hm
theorem evtc_of {b : Bool} (h : EvT tt G (Dd s) b (Dd s)) : EvTC (β := β) K X De tt G Dd s (fun kk => kk b s) := fun kk σ H F hs ss o r Q hm q _ =>
  h σ H F hs ss Q fun H' F' s' hs' => q b s H' F' s' hs' hm
theorem evc_var {i : Nat} {R : α → Ty} (x : α) (h : G[i]? = some (some (R x))) : EvC (β := β) K X De (tVar i) G Dd s (fun kk => kk x s) R := evc_of (ev_var h) rfl
theorem evc_int {i : Int} : EvC (β := β) K X De (tC (.int i)) G Dd s (fun kk => kk i s) (fun i => DI K i) := evc_of ev_int rfl
theorem evc_bl {b : Bool} : EvC (β := β) K X De (tC (.bl b)) G Dd s (fun kk => kk b s) (fun b => DB K b) := evc_of ev_bl rfl
theorem evc_non : EvC (β := β) K X De (tC .non) G Dd s (fun kk => kk () s) (fun _ => DN K) := evc_of ev_non rfl
/-- an operator -/
theorem evc2 {r : R2} {Ra : α → Ty} {Rb : β → Ty} {R : γ → Ty} {Ma : (α → S → Res ε δ) → Res ε δ} {Mb : S → (β → S → Res ε δ) → Res ε δ} {g : α → β → γ}
    (ha : EvC K X De ta G Dd s Ma Ra) (hb : ∀ s1, EvC K X De tb G Dd s1 (Mb s1) Rb)
    (hr : ∀ a b s2 x y H F, HS (Dd s2) H F → (Ra a).p x F → (Rb b).p y F → ∀ Q : VK, (∀ v H' F', Same F F' → HS (Dd s2) H' F' → (R (g a b)).p v F' → Q v H') → r x y H Q) :
    EvC K X De (tOp r ta tb) G Dd s (fun kk => Ma fun a s1 => Mb s1 fun b s2 => kk (g a b) s2) R := fun kk σ H F hs ss o r' Q hm q qe =>
  ha _ σ H F hs ss o r' _ hm (fun a s1 x H1 F1 t1 hs1 r1 hm1 => hb s1 _ σ H1 F1 hs1 (ss.mono t1) o r' _ hm1
    (fun b s2 y H2 F2 t2 hs2 r2 hm2 => hr a b s2 x y H2 F2 hs2 ((Ra a).mono t2 r1) r2 Q fun v H3 F3 t3 hs3 r3 => q _ s2 v H3 F3 ((t1.trans t2).trans t3) hs3 r3 hm2)
    (fun n e h H2 F2 t2 => qe n e h H2 F2 (t1.trans t2))) (fun n e h H1 F1 t1 => qe n e h H1 F1 t1)
/-- .. that asks something first -/
theorem evc2g {r : R2} {Ra : α → Ty} {Rb : β → Ty} {R : γ → Ty} {Ma : (α → S → Res ε δ) → Res ε δ} {Mb : S → (β → S → Res ε δ) → Res ε δ} {g : α → β → γ} {C : α → β → Prop}
    (ha : EvC K X De ta G Dd s Ma Ra) (hb : ∀ s1, EvC K X De tb G Dd s1 (Mb s1) Rb)
    (hr : ∀ a b s2 x y H F, C a b → HS (Dd s2) H F → (Ra a).p x F → (Rb b).p y F → ∀ Q : VK, (∀ v H' F', Same F F' → HS (Dd s2) H' F' → (R (g a b)).p v F' → Q v H') → r x y H Q) :
    EvC K X De (tOp r ta tb) G Dd s (fun kk => Ma fun a s1 => Mb s1 fun b s2 => Res.bind (Res.grd (C a b) (g a b)) fun z => kk z s2) R := fun kk σ H F hs ss o r' Q hm q qe =>
  ha _ σ H F hs ss o r' _ hm (fun a s1 x H1 F1 t1 hs1 r1 hm1 => hb s1 _ σ H1 F1 hs1 (ss.mono t1) o r' _ hm1
    (fun b s2 y H2 F2 t2 hs2 r2 hm2 => hr a b s2 x y H2 F2 (Res.sat_grd hm2).1 hs2 ((Ra a).mono t2 r1) r2 Q fun v H3 F3 t3 hs3 r3 => q _ s2 v H3 F3 ((t1.trans t2).trans t3) hs3 r3 (Res.sat_grd hm2).2)
    (fun n e h H2 F2 t2 => qe n e h H2 F2 (t1.trans t2))) (fun n e h H1 F1 t1 => qe n e h H1 F1 t1)
/-- .. that may find nothing -/
theorem evc2o {r : R2} {Ra : α → Ty} {Rb : β → Ty} {R : γ → Ty} {Ma : (α → S → Res ε δ) → Res ε δ} {Mb : S → (β → S → Res ε δ) → Res ε δ} {g : α → β → Option γ}
    (ha : EvC K X De ta G Dd s Ma Ra) (hb : ∀ s1, EvC K X De tb G Dd s1 (Mb s1) Rb)
    (hr : ∀ a b c s2 x y H F, g a b = some c → HS (Dd s2) H F → (Ra a).p x F → (Rb b).p y F → ∀ Q : VK, (∀ v H' F', Same F F' → HS (Dd s2) H' F' → (R c).p v F' → Q v H') → r x y H Q) :
    EvC K X De (tOp r ta tb) G Dd s (fun kk => Ma fun a s1 => Mb s1 fun b s2 => Res.bind (Res.opt (g a b)) fun z => kk z s2) R := fun kk σ H F hs ss o r' Q hm q qe =>
  ha _ σ H F hs ss o r' _ hm (fun a s1 x H1 F1 t1 hs1 r1 hm1 => hb s1 _ σ H1 F1 hs1 (ss.mono t1) o r' _ hm1
    (fun b s2 y H2 F2 t2 hs2 r2 hm2 => by
      obtain ⟨c, e, hm3⟩ := Res.sat_opt hm2
      exact hr a b c s2 x y H2 F2 e hs2 ((Ra a).mono t2 r1) r2 Q fun v H3 F3 t3 hs3 r3 => q _ s2 v H3 F3 ((t1.trans t2).trans t3) hs3 r3 hm3)
    (fun n e h H2 F2 t2 => qe n e h H2 F2 (t1.trans t2))) (fun n e h H1 F1 t1 => qe n e h H1 F1 t1)
theorem evc1 {t : TE → TE} {Ra : α → Ty} {R : γ → Ty} {Ma : (α → S → Res ε δ) → Res ε δ} {g : α → γ} {r : V → Hp → VK → Prop}
    (ha : EvC K X De ta G Dd s Ma Ra)
    (hr : ∀ a s2 x H F, HS (Dd s2) H F → (Ra a).p x F → ∀ Q : VK, (∀ v H' F', Same F F' → HS (Dd s2) H' F' → (R (g a)).p v F' → Q v H') → r x H Q) :
    EvC K X De (tUn r ta) G Dd s (fun kk => Ma fun a s1 => kk (g a) s1) R := fun kk σ H F hs ss o r' Q hm q qe =>
  ha _ σ H F hs ss o r' _ hm (fun a s1 x H1 F1 t1 hs1 r1 hm1 => hr a s1 x H1 F1 hs1 r1 Q fun v H3 F3 t3 hs3 r3 => q _ s1 v H3 F3 (t1.trans t3) hs3 r3 hm1) (fun n e h H1 F1 t1 => qe n e h H1 F1 t1)
theorem evc1g {Ra : α → Ty} {R : γ → Ty} {Ma : (α → S → Res ε δ) → Res ε δ} {g : α → γ} {r : V → Hp → VK → Prop} {C : α → Prop}
    (ha : EvC K X De ta G Dd s Ma Ra)
    (hr : ∀ a s2 x H F, C a → HS (Dd s2) H F → (Ra a).p x F → ∀ Q : VK, (∀ v H' F', Same F F' → HS (Dd s2) H' F' → (R (g a)).p v F' → Q v H') → r x H Q) :
    EvC K X De (tUn r ta) G Dd s (fun kk => Ma fun a s1 => Res.bind (Res.grd (C a) (g a)) fun z => kk z s1) R := fun kk σ H F hs ss o r' Q hm q qe =>
  ha _ σ H F hs ss o r' _ hm (fun a s1 x H1 F1 t1 hs1 r1 hm1 => hr a s1 x H1 F1 (Res.sat_grd hm1).1 hs1 r1 Q fun v H3 F3 t3 hs3 r3 => q _ s1 v H3 F3 (t1.trans t3) hs3 r3 (Res.sat_grd hm1).2) (fun n e h H1 F1 t1 => qe n e h H1 F1 t1)
theorem evc_imp {R R' : α → Ty} {M : (α → S → Res ε β) → Res ε β} (h : EvC K X De te G Dd s M R) (f : ∀ x v F, (R x).p v F → (R' x).p v F) : EvC K X De te G Dd s M R' := fun kk σ H F hs ss o r Q hm q qe =>
  h kk σ H F hs ss o r Q hm (fun x s' v H' F' t hs' r' => q x s' v H' F' t hs' (f x v F' r')) qe
/-- the value under another form -/
theorem evc_map {R : α → Ty} {R' : γ → Ty} {M : (α → S → Res ε β) → Res ε β} (f : α → γ) (h : EvC K X De te G Dd s M R) (e : ∀ x v F, (R x).p v F → (R' (f x)).p v F) : EvC K X De te G Dd s (fun kk => M fun x s' => kk (f x) s') R' := fun kk σ H F hs ss o r Q hm q qe =>
  h _ σ H F hs ss o r Q hm (fun x s' v H' F' t hs' r' hm' => q _ s' v H' F' t hs' (e x v F' r') hm') qe
theorem evc_mapg {R : α → Ty} {R' : γ → Ty} {M : (α → S → Res ε β) → Res ε β} (f : α → γ) (C : α → Prop) (h : EvC K X De te G Dd s M R) (e : ∀ x v F, C x → (R x).p v F → (R' (f x)).p v F) : EvC K X De te G Dd s (fun kk => M fun x s' => Res.bind (Res.grd (C x) (f x)) fun z => kk z s') R' := fun kk σ H F hs ss o r Q hm q qe =>
  h _ σ H F hs ss o r Q hm (fun x s' v H' F' t hs' r' hm' => q _ s' v H' F' t hs' (e x v F' (Res.sat_grd hm').1 r') (Res.sat_grd hm').2) qe
/-! ## arguments -/
theorem evac_nil : EvAC (β := β) K X De tNil G Dd s (fun kk => kk () s) (fun _ => []) := fun kk σ H F hs ss o r Q hm q _ => q () s [] H F (Same.refl _) hs .nil hm
theorem evac_cons {tr : TA} {R : α → Ty} {Rs : τ → List Ty} {Ma : (α → S → Res ε β) → Res ε β} {Mr : S → (τ → S → Res ε β) → Res ε β}
    (h : EvC K X De te G Dd s Ma R) (hr : ∀ s1, EvAC K X De tr G Dd s1 (Mr s1) Rs) : EvAC K X De (tCons te tr) G Dd s (fun kk => Ma fun a s1 => Mr s1 fun t s2 => kk (a, t) s2) (fun t => R t.1 :: Rs t.2) := fun kk σ H F hs ss o r Q hm q qe =>
  h _ σ H F hs ss o r _ hm (fun a s1 v H1 F1 t1 hs1 r1 hm1 => hr s1 _ σ H1 F1 hs1 (ss.mono t1) o r _ hm1
    (fun t s2 vs H2 F2 t2 hs2 r2 hm2 => q (a, t) s2 _ H2 F2 (t1.trans t2) hs2 (.cons ((R a).mono t2 r1) r2) hm2) (fun n e h H2 F2 t2 => qe n e h H2 F2 (t1.trans t2))) (fun n e h H1 F1 t1 => qe n e h H1 F1 t1)
theorem evc_CB {r : List V → Hp → VK → Prop} {t : TA} {Rs : τ → List Ty} {R : γ → Ty} {M : (τ → S → Res ε β) → Res ε β} {g : τ → γ} (h : EvAC K X De t G Dd s M Rs)
    (hr : ∀ a s2 vs H F, HS (Dd s2) H F → AllP F (Rs a) vs → ∀ Q : VK, (∀ v H' F', Same F F' → HS (Dd s2) H' F' → (R (g a)).p v F' → Q v H') → r vs H Q) : EvC K X De (tCB r t) G Dd s (fun kk => M fun a s1 => kk (g a) s1) R := fun kk σ H F hs ss o r' Q hm q qe =>
  h _ σ H F hs ss o r' _ hm (fun a s1 vs H1 F1 t1 hs1 r1 hm1 => hr a s1 vs H1 F1 hs1 r1 Q fun v H2 F2 t2 hs2 r2 => q _ s1 v H2 F2 (t1.trans t2) hs2 r2 hm1) qe
theorem evc_CBg {r : List V → Hp → VK → Prop} {t : TA} {Rs : τ → List Ty} {R : γ → Ty} {M : (τ → S → Res ε β) → Res ε β} {g : τ → γ} {C : τ → Prop} (h : EvAC K X De t G Dd s M Rs)
    (hr : ∀ a s2 vs H F, C a → HS (Dd s2) H F → AllP F (Rs a) vs → ∀ Q : VK, (∀ v H' F', Same F F' → HS (Dd s2) H' F' → (R (g a)).p v F' → Q v H') → r vs H Q) : EvC K X De (tCB r t) G Dd s (fun kk => M fun a s1 => Res.bind (Res.grd (C a) (g a)) fun z => kk z s1) R := fun kk σ H F hs ss o r' Q hm q qe =>
  h _ σ H F hs ss o r' _ hm (fun a s1 vs H1 F1 t1 hs1 r1 hm1 => hr a s1 vs H1 F1 (Res.sat_grd hm1).1 hs1 r1 Q fun v H2 F2 t2 hs2 r2 => q _ s1 v H2 F2 (t1.trans t2) hs2 r2 (Res.sat_grd hm1).2) qe
/-! ## tests -/
theorem evtc_test {M : (Bool → S → Res ε β) → Res ε β} (h : EvC K X De te G Dd s M (fun b => DB K b)) : EvTC K X De (tTest te) G Dd s M := fun kk σ H F hs ss o r Q hm q qe =>
  h kk σ H F hs ss o r _ hm (fun b s1 v H1 F1 t1 hs1 r1 hm1 => ⟨b, dp_bl r1, q b s1 H1 F1 t1 hs1 hm1⟩) qe
theorem evtc_B {M : (Bool → S → Res ε β) → Res ε β} (h : EvC K X De te G Dd s M (fun b => DB K b)) : EvTC K X De (tB te) G Dd s M := fun kk σ H F hs ss o r Q hm q qe =>
  h kk σ H F hs ss o r _ hm (fun b s1 v H1 F1 t1 hs1 r1 hm1 => ⟨b, dp_bl r1, q b s1 H1 F1 t1 hs1 hm1⟩) qe
theorem evtc_not {M : (Bool → S → Res ε β) → Res ε β} (h : EvTC K X De tt G Dd s M) : EvTC K X De (tNot tt) G Dd s (fun kk => M fun b s1 => kk (!b) s1) := fun kk σ H F hs ss o r Q hm q qe =>
  h _ σ H F hs ss o r _ hm (fun b s1 H1 F1 t1 hs1 hm1 => q _ s1 H1 F1 t1 hs1 hm1) qe
/-- both, the second one plain -/
theorem evtc_and {b : S → Bool} {M : (Bool → S → Res ε β) → Res ε β} (h : EvTC K X De tt G Dd s M) (hb : ∀ s1, EvTC (β := β) K X De tu G Dd s1 (fun kk => kk (b s1) s1)) : EvTC K X De (tAnd tt tu) G Dd s (fun kk => M fun a s1 => kk (a && b s1) s1) := fun kk σ H F hs ss o r Q hm q qe =>
  h _ σ H F hs ss o r _ hm (fun a s1 H1 F1 t1 hs1 hm1 => by
    cases a with
    | true => exact hb s1 (fun b s => kk (true && b) s) σ H1 F1 hs1 (ss.mono t1) o r _ hm1 (fun c s2 H2 F2 t2 hs2 hm2 => q c s2 H2 F2 (t1.trans t2) hs2 (by simpa using hm2)) (fun n e h H2 F2 t2 => qe n e h H2 F2 (t1.trans t2))
    | false => exact q false s1 H1 F1 t1 hs1 hm1) qe
theorem evtc_or {b : S → Bool} {M : (Bool → S → Res ε β) → Res ε β} (h : EvTC K X De tt G Dd s M) (hb : ∀ s1, EvTC (β := β) K X De tu G Dd s1 (fun kk => kk (b s1) s1)) : EvTC K X De (tOr tt tu) G Dd s (fun kk => M fun a s1 => kk (a || b s1) s1) := fun kk σ H F hs ss o r Q hm q qe =>
  h _ σ H F hs ss o r _ hm (fun a s1 H1 F1 t1 hs1 hm1 => by
    cases a with
    | false => exact hb s1 (fun b s => kk (false || b) s) σ H1 F1 hs1 (ss.mono t1) o r _ hm1 (fun c s2 H2 F2 t2 hs2 hm2 => q c s2 H2 F2 (t1.trans t2) hs2 (by simpa using hm2)) (fun n e h H2 F2 t2 => qe n e h H2 F2 (t1.trans t2))
    | true => exact q true s1 H1 F1 t1 hs1 hm1) qe
/-- both, the second one asked only then -/
theorem evtc_andM {M : (Bool → S → Res ε β) → Res ε β} {Mb : S → (Bool → S → Res ε (Bool × S)) → Res ε (Bool × S)} (h : EvTC K X De tt G Dd s M) (hb : ∀ s1, EvTC (β := Bool × S) K X De tu G Dd s1 (Mb s1)) :
    EvTC K X De (tAnd tt tu) G Dd s (fun kk => M fun a s1 => Res.bind (if a = true then Mb s1 (fun b s => .ok (b, s)) else .ok (false, s1)) fun t => kk t.1 t.2) := fun kk σ H F hs ss o r Q hm q qe =>
  h _ σ H F hs ss o r _ hm (fun a s1 H1 F1 t1 hs1 hm1 => by
    cases a with
    | true =>
      rw [if_pos rfl, Res.sat_bind] at hm1
      exact hb s1 (fun b s => .ok (b, s)) σ H1 F1 hs1 (ss.mono t1) (fun t => (kk t.1 t.2).sat o r) r _ hm1 (fun c s2 H2 F2 t2 hs2 hm2 => q c s2 H2 F2 (t1.trans t2) hs2 hm2) (fun n e h H2 F2 t2 => qe n e h H2 F2 (t1.trans t2))
    | false => exact q false s1 H1 F1 t1 hs1 hm1) qe
theorem evtc_orM {M : (Bool → S → Res ε β) → Res ε β} {Mb : S → (Bool → S → Res ε (Bool × S)) → Res ε (Bool × S)} (h : EvTC K X De tt G Dd s M) (hb : ∀ s1, EvTC (β := Bool × S) K X De tu G Dd s1 (Mb s1)) :
    EvTC K X De (tOr tt tu) G Dd s (fun kk => M fun a s1 => Res.bind (if a = true then .ok (true, s1) else Mb s1 (fun b s => .ok (b, s))) fun t => kk t.1 t.2) := fun kk σ H F hs ss o r Q hm q qe =>
  h _ σ H F hs ss o r _ hm (fun a s1 H1 F1 t1 hs1 hm1 => by
    cases a with
    | false =>
      rw [if_neg (by decide), Res.sat_bind] at hm1
      exact hb s1 (fun b s => .ok (b, s)) σ H1 F1 hs1 (ss.mono t1) (fun t => (kk t.1 t.2).sat o r) r _ hm1 (fun c s2 H2 F2 t2 hs2 hm2 => q c s2 H2 F2 (t1.trans t2) hs2 hm2) (fun n e h H2 F2 t2 => qe n e h H2 F2 (t1.trans t2))
    | true => exact q true s1 H1 F1 t1 hs1 hm1) qe
/-! truth values -/
theorem evc_notV {M : (Bool → S → Res ε β) → Res ε β} (h : EvC K X De te G Dd s M (fun b => DB K b)) : EvC K X De (tNotV te) G Dd s (fun kk => M fun b s1 => kk (!b) s1) (fun b => DB K b) := fun kk σ H F hs ss o r Q hm q qe =>
  h _ σ H F hs ss o r _ hm (fun b s1 v H1 F1 t1 hs1 r1 hm1 => ⟨b, dp_bl r1, q _ s1 _ H1 F1 t1 hs1 (.bl _) hm1⟩) qe
theorem evc_andV {b : S → Bool} {M : (Bool → S → Res ε β) → Res ε β} (h : EvC K X De ta G Dd s M (fun b => DB K b)) (hb : ∀ s1, EvC (β := β) K X De tb G Dd s1 (fun kk => kk (b s1) s1) (fun b => DB K b)) : EvC K X De (tAndV ta tb) G Dd s (fun kk => M fun a s1 => kk (a && b s1) s1) (fun b => DB K b) := fun kk σ H F hs ss o r Q hm q qe =>
  h _ σ H F hs ss o r _ hm (fun a s1 v H1 F1 t1 hs1 r1 hm1 => by
    refine ⟨a, dp_bl r1, ?_⟩
    cases a with
    | true => exact hb s1 (fun b s => kk (true && b) s) σ H1 F1 hs1 (ss.mono t1) o r _ hm1 (fun c s2 v2 H2 F2 t2 hs2 r2 hm2 => q c s2 v2 H2 F2 (t1.trans t2) hs2 r2 (by simpa using hm2)) (fun n e h H2 F2 t2 => qe n e h H2 F2 (t1.trans t2))
    | false => exact q false s1 _ H1 F1 t1 hs1 (.bl _) hm1) qe
theorem evc_orV {b : S → Bool} {M : (Bool → S → Res ε β) → Res ε β} (h : EvC K X De ta G Dd s M (fun b => DB K b)) (hb : ∀ s1, EvC (β := β) K X De tb G Dd s1 (fun kk => kk (b s1) s1) (fun b => DB K b)) : EvC K X De (tOrV ta tb) G Dd s (fun kk => M fun a s1 => kk (a || b s1) s1) (fun b => DB K b) := fun kk σ H F hs ss o r Q hm q qe =>
  h _ σ H F hs ss o r _ hm (fun a s1 v H1 F1 t1 hs1 r1 hm1 => by
    refine ⟨a, dp_bl r1, ?_⟩
    cases a with
    | false => exact hb s1 (fun b s => kk (false || b) s) σ H1 F1 hs1 (ss.mono t1) o r _ hm1 (fun c s2 v2 H2 F2 t2 hs2 r2 hm2 => q c s2 v2 H2 F2 (t1.trans t2) hs2 r2 (by simpa using hm2)) (fun n e h H2 F2 t2 => qe n e h H2 F2 (t1.trans t2))
    | true => exact q true s1 _ H1 F1 t1 hs1 (.bl _) hm1) qe
theorem evc_andVM {M : (Bool → S → Res ε β) → Res ε β} {Mb : S → (Bool → S → Res ε (Bool × S)) → Res ε (Bool × S)} (h : EvC K X De ta G Dd s M (fun b => DB K b)) (hb : ∀ s1, EvC (β := Bool × S) K X De tb G Dd s1 (Mb s1) (fun b => DB K b)) :
    EvC K X De (tAndV ta tb) G Dd s (fun kk => M fun a s1 => Res.bind (if a = true then Mb s1 (fun b s => .ok (b, s)) else .ok (false, s1)) fun t => kk t.1 t.2) (fun b => DB K b) := fun kk σ H F hs ss o r Q hm q qe =>
  h _ σ H F hs ss o r _ hm (fun a s1 v H1 F1 t1 hs1 r1 hm1 => by
    refine ⟨a, dp_bl r1, ?_⟩
    cases a with
    | true =>
      rw [if_pos rfl, Res.sat_bind] at hm1
      exact hb s1 (fun b s => .ok (b, s)) σ H1 F1 hs1 (ss.mono t1) (fun t => (kk t.1 t.2).sat o r) r _ hm1 (fun c s2 v2 H2 F2 t2 hs2 r2 hm2 => q c s2 v2 H2 F2 (t1.trans t2) hs2 r2 hm2) (fun n e h H2 F2 t2 => qe n e h H2 F2 (t1.trans t2))
    | false => exact q false s1 _ H1 F1 t1 hs1 (.bl _) hm1) qe
theorem evc_orVM {M : (Bool → S → Res ε β) → Res ε β} {Mb : S → (Bool → S → Res ε (Bool × S)) → Res ε (Bool × S)} (h : EvC K X De ta G Dd s M (fun b => DB K b)) (hb : ∀ s1, EvC (β := Bool × S) K X De tb G Dd s1 (Mb s1) (fun b => DB K b)) :
    EvC K X De (tOrV ta tb) G Dd s (fun kk => M fun a s1 => Res.bind (if a = true then .ok (true, s1) else Mb s1 (fun b s => .ok (b, s))) fun t => kk t.1 t.2) (fun b => DB K b) := fun kk σ H F hs ss o r Q hm q qe =>
  h _ σ H F hs ss o r _ hm (fun a s1 v H1 F1 t1 hs1 r1 hm1 => by
    refine ⟨a, dp_bl r1, ?_⟩
    cases a with
    | false =>
      rw [if_neg (by decide), Res.sat_bind] at hm1
      exact hb s1 (fun b s => .ok (b, s)) σ H1 F1 hs1 (ss.mono t1) (fun t => (kk t.1 t.2).sat o r) r _ hm1 (fun c s2 v2 H2 F2 t2 hs2 r2 hm2 => q c s2 v2 H2 F2 (t1.trans t2) hs2 r2 hm2) (fun n e h H2 F2 t2 => qe n e h H2 F2 (t1.trans t2))
    | true => exact q true s1 _ H1 F1 t1 hs1 (.bl _) hm1) qe
/-- a if t else b, both plain -/
theorem evc_if {M : (Bool → S → Res ε β) → Res ε β} {R : α → Ty} {a b : S → α} (h : EvTC K X De tt G Dd s M) (ha : ∀ s1, EvC (β := β) K X De ta G Dd s1 (fun kk => kk (a s1) s1) R) (hb : ∀ s1, EvC (β := β) K X De tb G Dd s1 (fun kk => kk (b s1) s1) R) :
    EvC K X De (tIf tt ta tb) G Dd s (fun kk => M fun c s1 => kk (if c = true then a s1 else b s1) s1) R := fun kk σ H F hs ss o r Q hm q qe =>
  h _ σ H F hs ss o r _ hm (fun c s1 H1 F1 t1 hs1 hm1 => by
    cases c with
    | true => exact ha s1 kk σ H1 F1 hs1 (ss.mono t1) o r _ hm1 (fun x s2 v2 H2 F2 t2 hs2 r2 hm2 => q x s2 v2 H2 F2 (t1.trans t2) hs2 r2 hm2) (fun n e h H2 F2 t2 => qe n e h H2 F2 (t1.trans t2))
    | false => exact hb s1 kk σ H1 F1 hs1 (ss.mono t1) o r _ hm1 (fun x s2 v2 H2 F2 t2 hs2 r2 hm2 => q x s2 v2 H2 F2 (t1.trans t2) hs2 r2 hm2) (fun n e h H2 F2 t2 => qe n e h H2 F2 (t1.trans t2))) qe
theorem evc_ifM {M : (Bool → S → Res ε β) → Res ε β} {R : α → Ty} {Ma Mb : S → (α → S → Res ε (α × S)) → Res ε (α × S)} (h : EvTC K X De tt G Dd s M) (ha : ∀ s1, EvC (β := α × S) K X De ta G Dd s1 (Ma s1) R) (hb : ∀ s1, EvC (β := α × S) K X De tb G Dd s1 (Mb s1) R) :
    EvC K X De (tIf tt ta tb) G Dd s (fun kk => M fun c s1 => Res.bind (if c = true then Ma s1 (fun b s => .ok (b, s)) else Mb s1 (fun b s => .ok (b, s))) fun t => kk t.1 t.2) R := fun kk σ H F hs ss o r Q hm q qe =>
  h _ σ H F hs ss o r _ hm (fun c s1 H1 F1 t1 hs1 hm1 => by
    cases c with
    | true =>
      rw [if_pos rfl, Res.sat_bind] at hm1
      exact ha s1 (fun b s => .ok (b, s)) σ H1 F1 hs1 (ss.mono t1) (fun t => (kk t.1 t.2).sat o r) r _ hm1 (fun c s2 v2 H2 F2 t2 hs2 r2 hm2 => q c s2 v2 H2 F2 (t1.trans t2) hs2 r2 hm2) (fun n e h H2 F2 t2 => qe n e h H2 F2 (t1.trans t2))
    | false =>
      rw [if_neg (by decide), Res.sat_bind] at hm1
      exact hb s1 (fun b s => .ok (b, s)) σ H1 F1 hs1 (ss.mono t1) (fun t => (kk t.1 t.2).sat o r) r _ hm1 (fun c s2 v2 H2 F2 t2 hs2 r2 hm2 => q c s2 v2 H2 F2 (t1.trans t2) hs2 r2 hm2) (fun n e h H2 F2 t2 => qe n e h H2 F2 (t1.trans t2))) qe
end
end TL

end
section
set_option Elab.async false
set_option linter.all false
set_option maxRecDepth 100000
set_option maxHeartbeats 1000000
namespace TL
open PySem PySem.Spec L2
/-! ## lists of values of kinds -/
/-- an owned list -/
def OLT {α : Type} (R : α → Ty) (xs : List α) : OTy := ⟨fun o F => ∃ vs, o = .lst vs ∧ AllP F (xs.map R) vs, fun s ⟨vs, e, h⟩ => ⟨vs, e, h.mono s⟩⟩
/-- a list that stands -/
def LT (K : PySem.W.Frag) {α : Type} (R : α → Ty) (xs : List α) : Ty := ⟨fun v F => ∃ a vs, v = .ref a ∧ SqL K F a vs ∧ AllP F (xs.map R) vs, fun s ⟨a, vs, e, h1, h2⟩ => ⟨a, vs, e, s.seq h1, h2.mono s⟩⟩
/-- a tuple of any length that stands -/
def VT (K : PySem.W.Frag) {α : Type} (R : α → Ty) (xs : List α) : Ty := ⟨fun v F => ∃ a vs, v = .ref a ∧ SqT K F a vs ∧ AllP F (xs.map R) vs, fun s ⟨a, vs, e, h1, h2⟩ => ⟨a, vs, e, same_sqT s h1, h2.mono s⟩⟩
/-! the forms of data -/
structure Tx where
  s : Str
  ok : PyData.canLay0 (.str s) = true
theorem Tx.ext' {a b : Tx} (h : a.s = b.s) : a = b := by cases a; cases b; cases h; rfl
instance : DecidableEq Tx := fun a b => if h : a.s = b.s then .isTrue (Tx.ext' h) else .isFalse fun e => h (by rw [e])
abbrev eI : Int → PyData := .int
abbrev eB : Bool → PyData := .bool
abbrev eS (t : Tx) : PyData := .str t.s
abbrev eU (_ : Unit) : PyData := .none
abbrev eQ (r : Rat) : PyData := .tuple [.int r.num, .int r.den]
abbrev eL {α : Type} (f : α → PyData) (xs : List α) : PyData := .list (xs.map f)
abbrev eV {α : Type} (f : α → PyData) (xs : List α) : PyData := .tuple (xs.map f)
abbrev eO {α : Type} (f : α → PyData) : Option α → PyData
  | none => .none
  | some x => f x
abbrev e1 {α : Type} (f : α → PyData) (x : α) : PyData := .tuple [f x]
abbrev e2 {α β : Type} (f : α → PyData) (g : β → PyData) (x : α × β) : PyData := .tuple [f x.1, g x.2]
abbrev e3 {α β γ : Type} (f : α → PyData) (g : β → PyData) (h : γ → PyData) (x : α × β × γ) : PyData := .tuple [f x.1, g x.2.1, h x.2.2]
abbrev e4 {α β γ δ : Type} (f : α → PyData) (g : β → PyData) (h : γ → PyData) (i : δ → PyData) (x : α × β × γ × δ) : PyData := .tuple [f x.1, g x.2.1, h x.2.2.1, i x.2.2.2]
abbrev e5 {α β γ δ ζ : Type} (f : α → PyData) (g : β → PyData) (h : γ → PyData) (i : δ → PyData) (j : ζ → PyData) (x : α × β × γ × δ × ζ) : PyData := .tuple [f x.1, g x.2.1, h x.2.2.1, i x.2.2.2.1, j x.2.2.2.2]
abbrev tD (K : PySem.W.Frag) {α : Type} (e : α → PyData) (x : α) : Ty := TL.D K (e x)
theorem allP_map {K : PySem.W.Frag} {F : Hp} {α : Type} {e : α → PyData} {xs : List α} {vs : List V} (h : AllP F (xs.map (tD K e)) vs) : DpAll K F vs (xs.map e) := by
  have z : xs.map (tD K e) = (xs.map e).map (TL.D K) := by rw [List.map_map]; rfl
  rw [z] at h
  exact allP_dp h
theorem dp_allP {K : PySem.W.Frag} {F : Hp} : ∀ {ds : List PyData} {vs : List V}, DpAll K F vs ds → AllP F (ds.map (TL.D K)) vs
  | [], _, h => by cases h; exact .nil
  | d :: ds, _, h => by
    cases h with
    | cons h1 h2 => exact .cons h1 (dp_allP h2)
theorem map_allP {K : PySem.W.Frag} {F : Hp} {α : Type} {e : α → PyData} {xs : List α} {vs : List V} (h : DpAll K F vs (xs.map e)) : AllP F (xs.map (tD K e)) vs := by
  have z : xs.map (tD K e) = (xs.map e).map (TL.D K) := by rw [List.map_map]; rfl
  rw [z]
  exact dp_allP h
section
variable {K : PySem.W.Frag} {ε ε' ρ α β γ δ S τ σt ω : Type} {X : L2.St → XK} {De : ε → Own} {G G1 G2 : Sto} {D0 : Own} {Dd : S → Own} {s : S} {te ta tb tc : TE} {tt tu : TT} {F0 F1 : Hp} {E : Ends} {w : Wish K ε ρ}
/-! ## cells in a family -/
structure Bor {Ω : Type} (Dp : Ω → Own) (k : Nat) (a : Addr) (O : ω → OTy) (gt : Ω → ω) (st : Ω → ω → Ω) : Prop where
  at_ : ∀ w, (Dp w)[k]? = some (a, O (gt w))
  set_ : ∀ w v, (Dp w).set k (a, O v) = Dp (st w v)
abbrev Bor1 (Dp : ω → Own) (k : Nat) (a : Addr) (O : ω → OTy) : Prop := Bor Dp k a O id (fun _ v => v)
theorem Bor.here {D : Own} {a : Addr} {O : ω → OTy} : Bor1 (fun w => (a, O w) :: D) 0 a O := ⟨fun _ => rfl, fun _ _ => rfl⟩
theorem Bor.cons {Dp : ω → Own} {k : Nat} {a : Addr} {O : ω → OTy} {c : Addr × OTy} (B : Bor1 Dp k a O) : Bor1 (fun w => c :: Dp w) (k + 1) a O :=
  ⟨fun w => by rw [List.getElem?_cons_succ]; exact B.at_ w, fun w v => by rw [List.set_cons_succ, B.set_ w v]⟩
theorem Bor.get1 {Dp : ω → Own} {k : Nat} {a : Addr} {O : ω → OTy} (B : Bor1 Dp k a O) (w : ω) : (Dp w)[k]? = some (a, O w) := B.at_ w
/-! ## the wish of a def -/
def dwish (K : PySem.W.Frag) (Xk : XK) (Q : VK) (out : ρ → Out) (Dr : ρ → Own) (De : ε → Own) : Wish K ε ρ where
  X := fun _ => Xk
  De := De
  o := fun F r => Post (out r) Q Xk F (Dr r)
  r := fun F n e => GoX Xk F (.ref (He.ga K n)) (De e)
  cond := fun _ => True
  upo := fun s h => h.up s
  upr := fun s h => GoX.up h s
  err := fun h _ σ H F s hs _ => h H F s hs
theorem goX_of {Xk : XK} {c : Value} {D D' : Own} {F : Hp} (h : GoX Xk F c D') (s : D'.Sublist D) : GoX Xk F c D := fun H F' t hs => h H F' t (hs.drop s)
theorem wish_err {o : ρ → Prop} (c : w.cond G) : ∀ n e, w.r F0 n e → ∀ (σ : L2.St) (H' F' : Hp), Same F0 F' → HS (w.De e) H' F' → SS F' G σ → w.X σ (.ref (He.ga K n)) none H' := fun n e h σ H' F' t hs ss => w.err h c σ H' F' t hs ss
theorem GoN.drop {P : VK} {O : OTy} {D1 D0 : Own} {F0 : Hp} (h : GoN P F0 O D1) (s : D1.Sublist D0) : GoN P F0 O D0 := fun p H F s1 hs => h p H F s1 (hs.drop (s.cons₂ _))
/-! ## statements -/
theorem go_asgC {i : Nat} {g : TG} {M : (α → Unit → Res ε ρ) → Res ε ρ} {R : α → Ty} {Gx : α → Sto} {kk : α → Res ε ρ} (h : EvC K w.X w.De te G (fun _ : Unit => D0) () M R) (hg : ∀ x, EvG g G (R x) (Gx x))
    {m : Res ε ρ} (hP : w.W F0 m) (q : ∀ x, w.W F0 (kk x) → Go E.nx F0 (Gx x) D0) (c : w.cond G := by first | exact trivial | walk_at "cond") (hm : m = (M fun v _ => Res.bind (.ok v) kk) := by exact rfl) : Go (tAsg te g E) F0 G D0 := by subst hm; exact (fun σ H F t hs ss =>
  h _ σ H F hs ss _ _ _ hP (fun x _ v H1 F1 t1 hs1 r1 hm => hg x v σ H1 F1 D0 hs1 (ss.mono t1) r1 _ fun σ' ss' => q x hm σ' H1 F1 (t.trans t1) hs1 ss') (fun n e hr H1 F1 t1 hs1 => w.err hr c σ H1 F1 (t.trans t1) hs1 (ss.mono t1)))
theorem go_setC {i : Nat} {M : (α → Unit → Res ε ρ) → Res ε ρ} {R : α → Ty} {kk : α → Res ε ρ} (h : EvC K w.X w.De te G (fun _ : Unit => D0) () M R)
    {m : Res ε ρ} (hP : w.W F0 m) (q : ∀ x, w.W F0 (kk x) → Go E.nx F0 (G.set i (some (R x))) D0) (c : w.cond G := by first | exact trivial | walk_at "cond") (hm : m = (M fun v _ => Res.bind (.ok v) kk) := by exact rfl) : Go (tAsg te (gName i) E) F0 G D0 := go_asgC (i := i) h (fun _ => evG_name) hP q c hm
theorem go_asgCS {g : TG} {M : (α → S → Res ε ρ) → Res ε ρ} {R : α → Ty} {Gx : α → Sto} {kk : α × S → Res ε ρ} (h : EvC K w.X w.De te G Dd s M R) (hg : ∀ x, EvG g G (R x) (Gx x))
    {m : Res ε ρ} (hP : w.W F0 m) (q : ∀ x, w.W F0 (kk x) → Go E.nx F0 (Gx x.1) (Dd x.2)) (c : w.cond G := by first | exact trivial | walk_at "cond") (hm : m = (M fun v s' => Res.bind (.ok (v, s')) kk) := by exact rfl) : Go (tAsg te g E) F0 G (Dd s) := by subst hm; exact (fun σ H F t hs ss =>
  h _ σ H F hs ss _ _ _ hP (fun x s' v H1 F1 t1 hs1 r1 hm => hg x v σ H1 F1 _ hs1 (ss.mono t1) r1 _ fun σ' ss' => q (x, s') hm σ' H1 F1 (t.trans t1) hs1 ss') (fun n e hr H1 F1 t1 hs1 => w.err hr c σ H1 F1 (t.trans t1) hs1 (ss.mono t1)))
theorem go_setCS {i : Nat} {M : (α → S → Res ε ρ) → Res ε ρ} {R : α → Ty} {kk : α × S → Res ε ρ} (h : EvC K w.X w.De te G Dd s M R)
    {m : Res ε ρ} (hP : w.W F0 m) (q : ∀ x, w.W F0 (kk x) → Go E.nx F0 (G.set i (some (R x.1))) (Dd x.2)) (c : w.cond G := by first | exact trivial | walk_at "cond") (hm : m = (M fun v s' => Res.bind (.ok (v, s')) kk) := by exact rfl) : Go (tAsg te (gName i) E) F0 G (Dd s) := go_asgCS h (fun _ => evG_name) hP q c hm
theorem go_setNC {i : Nat} {M : (α → Unit → Res ε ρ) → Res ε ρ} {O : α → OTy} {kk : α → Res ε ρ} (h : EvNC K w.X w.De te G (fun _ : Unit => D0) () M O)
    {m : Res ε ρ} (hP : w.W F0 m) (q : ∀ x p, w.W F0 (kk x) → Go E.nx F0 (G.set i (some (Is (.ref p)))) ((p, O x) :: D0)) (c : w.cond G := by first | exact trivial | walk_at "cond") (hm : m = (M fun v _ => Res.bind (.ok v) kk) := by exact rfl) : Go (tAsg te (gName i) E) F0 G D0 := by subst hm; exact (fun σ H F t hs ss =>
  h _ σ H F hs ss _ _ _ hP (fun x _ p H1 F1 t1 hs1 hm => q x p hm _ H1 F1 (t.trans t1) hs1 ((ss.mono t1).set (R := Is (.ref p)) rfl i)) (fun n e hr H1 F1 t1 hs1 => w.err hr c σ H1 F1 (t.trans t1) hs1 (ss.mono t1)))
theorem go_setNCS {i : Nat} {M : (α → S → Res ε ρ) → Res ε ρ} {O : α → OTy} {kk : α × S → Res ε ρ} (h : EvNC K w.X w.De te G Dd s M O)
    {m : Res ε ρ} (hP : w.W F0 m) (q : ∀ x p, w.W F0 (kk x) → Go E.nx F0 (G.set i (some (Is (.ref p)))) ((p, O x.1) :: Dd x.2)) (c : w.cond G := by first | exact trivial | walk_at "cond") (hm : m = (M fun v s' => Res.bind (.ok (v, s')) kk) := by exact rfl) : Go (tAsg te (gName i) E) F0 G (Dd s) := by subst hm; exact (fun σ H F t hs ss =>
  h _ σ H F hs ss _ _ _ hP (fun x s' p H1 F1 t1 hs1 hm => q (x, s') p hm _ H1 F1 (t.trans t1) hs1 ((ss.mono t1).set (R := Is (.ref p)) rfl i)) (fun n e hr H1 F1 t1 hs1 => w.err hr c σ H1 F1 (t.trans t1) hs1 (ss.mono t1)))
theorem go_dropC {M : (α → Unit → Res ε ρ) → Res ε ρ} {R : α → Ty} {kk : α → Res ε ρ} (h : EvC K w.X w.De te G (fun _ : Unit => D0) () M R)
    {m : Res ε ρ} (hP : w.W F0 m) (q : ∀ x, w.W F0 (kk x) → Go E.nx F0 G D0) (c : w.cond G := by first | exact trivial | walk_at "cond") (hm : m = (M fun v _ => Res.bind (.ok v) kk) := by exact rfl) : Go (tDrop te E) F0 G D0 := by subst hm; exact (fun σ H F t hs ss =>
  h _ σ H F hs ss _ _ _ hP (fun x _ v H1 F1 t1 hs1 r1 hm => q x hm σ H1 F1 (t.trans t1) hs1 (ss.mono t1)) (fun n e hr H1 F1 t1 hs1 => w.err hr c σ H1 F1 (t.trans t1) hs1 (ss.mono t1)))
theorem go_dropCS {M : (α → S → Res ε ρ) → Res ε ρ} {R : α → Ty} {kk : α × S → Res ε ρ} (h : EvC K w.X w.De te G Dd s M R)
    {m : Res ε ρ} (hP : w.W F0 m) (q : ∀ x, w.W F0 (kk x) → Go E.nx F0 G (Dd x.2)) (c : w.cond G := by first | exact trivial | walk_at "cond") (hm : m = (M fun v s' => Res.bind (.ok (v, s')) kk) := by exact rfl) : Go (tDrop te E) F0 G (Dd s) := by subst hm; exact (fun σ H F t hs ss =>
  h _ σ H F hs ss _ _ _ hP (fun x s' v H1 F1 t1 hs1 r1 hm => q (x, s') hm σ H1 F1 (t.trans t1) hs1 (ss.mono t1)) (fun n e hr H1 F1 t1 hs1 => w.err hr c σ H1 F1 (t.trans t1) hs1 (ss.mono t1)))
theorem go_retC {M : (α → S → Res ε ρ) → Res ε ρ} {R : α → Ty} (f : α → S → ρ) (h : EvC K w.X w.De te G Dd s M R)
    {m : Res ε ρ} (hP : w.W F0 m) (hr : ∀ F v s', w.o F (f v s') → GoV E.rt F (R v) (Dd s')) (c : w.cond G := by first | exact trivial | walk_at "cond") (hm : m = (M fun v s' => .ok (f v s')) := by exact rfl) : Go (tRet te E) F0 G (Dd s) := by subst hm; exact (fun σ H F t hs ss =>
  h _ σ H F hs ss _ _ _ hP (fun x s' v H1 F1 t1 hs1 r1 hm => hr F0 x s' hm v H1 F1 (t.trans t1) hs1 r1) (fun n e hr H1 F1 t1 hs1 => w.err hr c σ H1 F1 (t.trans t1) hs1 (ss.mono t1)))
theorem go_retNC {M : (α → S → Res ε ρ) → Res ε ρ} {O : α → OTy} (f : α → S → ρ) (h : EvNC K w.X w.De te G Dd s M O)
    {m : Res ε ρ} (hP : w.W F0 m) (hr : ∀ F v s', w.o F (f v s') → GoN E.rt F (O v) (Dd s')) (c : w.cond G := by first | exact trivial | walk_at "cond") (hm : m = (M fun v s' => .ok (f v s')) := by exact rfl) : Go (tRet te E) F0 G (Dd s) := by subst hm; exact (fun σ H F t hs ss =>
  h _ σ H F hs ss _ _ _ hP (fun x s' p H1 F1 t1 hs1 hm => hr F0 x s' hm p H1 F1 (t.trans t1) hs1) (fun n e hr H1 F1 t1 hs1 => w.err hr c σ H1 F1 (t.trans t1) hs1 (ss.mono t1)))
theorem go_ifC {t u : TS} {M : (Bool → Unit → Res ε ρ) → Res ε ρ} {mA mB : Res ε ρ} (h : EvTC K w.X w.De tt G (fun _ : Unit => D0) () M) {m : Res ε ρ} (hP : w.W F0 m)
    (h1 : w.W F0 mA → Go (t E) F0 G D0) (h2 : w.W F0 mB → Go (u E) F0 G D0) (c : w.cond G := by first | exact trivial | walk_at "cond") (hm : m = (M fun b _ => if b = true then mA else mB) := by exact rfl) : Go (tIfS tt t u E) F0 G D0 := by subst hm; exact (fun σ H F t hs ss =>
  h _ σ H F hs ss _ _ _ hP (fun b _ H1 F1 t1 hs1 hm => by
    cases b with
    | true => exact h1 hm σ H1 F1 (t.trans t1) hs1 (ss.mono t1)
    | false => exact h2 hm σ H1 F1 (t.trans t1) hs1 (ss.mono t1)) (fun n e hr H1 F1 t1 hs1 => w.err hr c σ H1 F1 (t.trans t1) hs1 (ss.mono t1)))
theorem go_ifCS {t u : TS} {M : (Bool → S → Res ε ρ) → Res ε ρ} {mA mB : S → Res ε ρ} (h : EvTC K w.X w.De tt G Dd s M) {m : Res ε ρ} (hP : w.W F0 m)
    (h1 : ∀ s', w.W F0 (mA s') → Go (t E) F0 G (Dd s')) (h2 : ∀ s', w.W F0 (mB s') → Go (u E) F0 G (Dd s')) (c : w.cond G := by first | exact trivial | walk_at "cond") (hm : m = (M fun b s' => Res.bind (.ok s') fun s' => if b = true then mA s' else mB s') := by exact rfl) : Go (tIfS tt t u E) F0 G (Dd s) := by subst hm; exact (fun σ H F t hs ss =>
  h _ σ H F hs ss _ _ _ hP (fun b s' H1 F1 t1 hs1 hm => by
    cases b with
    | true => exact h1 s' hm σ H1 F1 (t.trans t1) hs1 (ss.mono t1)
    | false => exact h2 s' hm σ H1 F1 (t.trans t1) hs1 (ss.mono t1)) (fun n e hr H1 F1 t1 hs1 => w.err hr c σ H1 F1 (t.trans t1) hs1 (ss.mono t1)))
theorem go_raiseC {Xk : XK} {n : Str} {e : ε} (hx : w.X = fun _ => Xk) (hP : w.W F0 (.err n e)) (hd : (w.De e).Sublist D0) (c : w.cond G := by first | exact trivial | walk_at "cond") : Go (tRaiseX (He.ga K n) Xk E) F0 G D0 := fun σ H F t hs ss => by
  have z := w.err hP c σ H F t (hs.drop hd) ss
  rw [hx] at z
  exact z
theorem go_parC {i j : Nat} {t : TA} {Ra : α → Ty} {Rb : β → Ty} {M : ((α × β × Unit) → Unit → Res ε ρ) → Res ε ρ} {kk : α × β → Res ε ρ} (h : EvAC K w.X w.De t G (fun _ : Unit => D0) () M (fun t => Ra t.1 :: Rb t.2.1 :: []))
    {m : Res ε ρ} (hP : w.W F0 m) (q : ∀ x, w.W F0 (kk x) → Go E.nx F0 ((G.set i (some (Ra x.1))).set j (some (Rb x.2))) D0) (c : w.cond G := by first | exact trivial | walk_at "cond") (hm : m = (M fun v _ => Res.bind (.ok (v.1, v.2.1)) kk) := by exact rfl) : Go (tPar i j t E) F0 G D0 := by subst hm; exact (fun σ H F t hs ss =>
  h _ σ H F hs ss _ _ _ hP (fun x _ vs H1 F1 t1 hs1 r1 hm => by
    obtain ⟨v, w', rfl, r2, r3⟩ := allP2 r1
    exact ⟨v, w', rfl, q (x.1, x.2.1) hm _ H1 F1 (t.trans t1) hs1 (((ss.mono t1).set r2 i).set r3 j)⟩) (fun n e hr H1 F1 t1 hs1 => w.err hr c σ H1 F1 (t.trans t1) hs1 (ss.mono t1)))
theorem go_parCS {i j : Nat} {t : TA} {Ra : α → Ty} {Rb : β → Ty} {M : ((α × β × Unit) → S → Res ε ρ) → Res ε ρ} {kk : (α × β) × S → Res ε ρ} (h : EvAC K w.X w.De t G Dd s M (fun t => Ra t.1 :: Rb t.2.1 :: []))
    {m : Res ε ρ} (hP : w.W F0 m) (q : ∀ x, w.W F0 (kk x) → Go E.nx F0 ((G.set i (some (Ra x.1.1))).set j (some (Rb x.1.2))) (Dd x.2)) (c : w.cond G := by first | exact trivial | walk_at "cond") (hm : m = (M fun v s' => Res.bind (.ok ((v.1, v.2.1), s')) kk) := by exact rfl) : Go (tPar i j t E) F0 G (Dd s) := by subst hm; exact (fun σ H F t hs ss =>
  h _ σ H F hs ss _ _ _ hP (fun x s' vs H1 F1 t1 hs1 r1 hm => by
    obtain ⟨v, w', rfl, r2, r3⟩ := allP2 r1
    exact ⟨v, w', rfl, q ((x.1, x.2.1), s') hm _ H1 F1 (t.trans t1) hs1 (((ss.mono t1).set r2 i).set r3 j)⟩) (fun n e hr H1 F1 t1 hs1 => w.err hr c σ H1 F1 (t.trans t1) hs1 (ss.mono t1)))
/-! ## walks -/
def ItOkT (J : It) (cnd : Own → Prop) (Rs : List Ty) (F0 : Hp) : Prop := ∀ (D : Own) (H F : Hp), cnd D → Same F0 F → HS D H F → ∀ i : Nat,
  (∀ R, Rs[i]? = some R → J.go i H ∧ ∀ x H', J.yld i H x H' → ∃ F2, Same F F2 ∧ HS D H' F2 ∧ R.p x F2) ∧ (Rs.length ≤ i → J.stop i H)
def EvItC (K : PySem.W.Frag) {ε α β S : Type} (X : L2.St → XK) (De : ε → Own) (wi : TI) (G : Sto) (Dd : S → Own) (s : S) (cnd : Own → Prop) (M : (List α → S → Res ε β) → Res ε β) (R : α → Ty) : Prop :=
  ∀ (kk : List α → S → Res ε β) (σ : L2.St) (H F : Hp), HS (Dd s) H F → SS F G σ → ∀ (o : β → Prop) (r : Str → ε → Prop) (Q : It → Hp → Prop), (M kk).sat o r →
    (∀ xs s' J H' F', Same F F' → HS (Dd s') H' F' → ItOkT J cnd (xs.map R) F' → (kk xs s').sat o r → Q J H') → (∀ n e, r n e → ∀ H' F', Same F F' → HS (De e) H' F' → X σ (.ref (He.ga K n)) none H') → wi σ H Q
theorem itOkT_of {J : It} {ds : List PyData} {F : Hp} (h : ItOk K J ds F) : ItOkT J (fun _ => True) (ds.map (TL.D K)) F := fun D H F1 _ s hs i => by
  obtain ⟨h1, h2⟩ := h D H F1 s hs i
  refine ⟨fun R e => ?_, fun l => h2 (by simpa using l)⟩
  rw [List.getElem?_map] at e
  cases q : ds[i]? with
  | none => rw [q] at e; cases e
  | some d =>
    rw [q] at e
    cases e
    exact h1 d q
theorem go_forC {wi : TI} {g : TG} {tb : TS} {cnd : Own → Prop} {R : α → Ty} {M : (List α → Unit → Res ε ρ) → Res ε ρ} {body : α → σt → (σt → Res ε ρ) → Res ε ρ} {k : σt → Res ε ρ}
    (hi : EvItC K w.X w.De wi G (fun _ : Unit => D0) () cnd M R) (Gs : σt → Sto) (Ds : σt → Own) (s0 : σt) (Gx : σt → α → Sto) {m : Res ε ρ} (hP : w.W F0 m)
    (w0 : SLe G (Gs s0)) (d0 : (Ds s0).Sublist D0) (cm : ∀ s, cnd (Ds s)) (hg : ∀ s x, EvG g (Gs s) (R x) (Gx s x))
    (done : ∀ F1, Same F0 F1 → ∀ s, w.W F1 (k s) → Go E.nx F1 (Gs s) (Ds s))
    (step : (∀ F1, Same F0 F1 → ∀ s, w.W F1 (k s) → Go E.nx F1 (Gs s) (Ds s)) → ∀ F1, Same F0 F1 → ∀ x s nx (Nx : L2.St → Hp → Prop), (∀ F2, Same F1 F2 → ∀ s', w.W F2 (nx s') → Go Nx F2 (Gs s') (Ds s')) → w.W F1 (body x s nx) → Go (tb { E with nx := Nx, ct := Nx, bk := E.nx }) F1 (Gx s x) (Ds s)) (c : w.cond G := by first | exact trivial | walk_at "cond") (hm : m = (M fun xs _ => Res.loop body k xs s0) := by exact rfl) :
    Go (tFor wi g tb E) F0 G D0 := by subst hm; exact (fun σ H F t hs ss =>
  hi _ σ H F hs ss _ _ _ hP (fun xs _ J H1 F1 t1 hs1 ok hm => by
    have hm1 : w.W F1 (Res.loop body k xs s0) := Wish.up (w := w) hm (t.trans t1)
    refine ⟨fun i m σ H => m = xs.length - i ∧ i ≤ xs.length ∧ ∃ F', Same F1 F' ∧ ∃ x, w.W F' (Res.loop body k (xs.drop i) x) ∧ StP F' (Gs x) (Ds x) σ H, ⟨xs.length, by simp, Nat.zero_le _, F1, Same.refl _, s0, hm1, F1, Same.refl _, hs1.drop d0, (ss.mono t1).weak w0⟩, ?_⟩
    rintro i m σ2 H2 ⟨rfl, hle, F', t', x, hx, F2, t2, hs2, ss2⟩
    by_cases hlt : i < xs.length
    · obtain ⟨go, yl⟩ := (ok (Ds x) H2 F2 (cm x) (t'.trans t2) hs2 i).1 (R xs[i]) (by rw [List.getElem?_map, List.getElem?_eq_getElem hlt]; rfl)
      rw [List.drop_eq_getElem_cons hlt] at hx
      refine .inr ⟨go, fun σ' H' => ∃ F3, Same F' F3 ∧ ∃ x', w.W F3 (Res.loop body k (xs.drop (i + 1)) x') ∧ StP F3 (Gs x') (Ds x') σ' H', fun σ' H' ⟨F3, t3, p⟩ => ⟨xs.length - (i + 1), by omega, rfl, hlt, F3, t'.trans t3, p⟩, fun v H3 hy => ?_⟩
      obtain ⟨F3, t3, hs3, r3⟩ := yl v H3 hy
      exact hg x _ v σ2 H3 F3 (Ds x) hs3 (ss2.mono t3) r3 _ fun σ4 ss4 => step done F' ((t.trans t1).trans t') _ x _ _ (fun F5 t5 s' hs' σ5 H5 F6 t6 hs5 ss5 => ⟨F5, t5, s', hs', F6, t6, hs5, ss5⟩) hx σ4 H3 F3 (t2.trans t3) hs3 ss4
    · have e : i = xs.length := by omega
      subst e
      rw [List.drop_length] at hx
      exact .inl ⟨(ok (Ds x) H2 F2 (cm x) (t'.trans t2) hs2 _).2 (by simp), done F' ((t.trans t1).trans t') x hx σ2 H2 F2 t2 hs2 ss2⟩) (fun n e hr H1 F1 t1 hs1 => w.err hr c σ H1 F1 (t.trans t1) hs1 (ss.mono t1)))
theorem go_forCS {wi : TI} {g : TG} {tb : TS} {cnd : Own → Prop} {R : α → Ty} {M : (List α → S → Res ε ρ) → Res ε ρ} {body : α → σt → (σt → Res ε ρ) → Res ε ρ} {k : σt → Res ε ρ}
    (hi : EvItC K w.X w.De wi G Dd s cnd M R) (Gs : σt → Sto) (Ds : σt → Own) (s0 : S → σt) (Gx : σt → α → Sto) {m : Res ε ρ} (hP : w.W F0 m)
    (w0 : ∀ s', SLe G (Gs (s0 s'))) (d0 : ∀ s', (Ds (s0 s')).Sublist (Dd s')) (cm : ∀ s, cnd (Ds s)) (hg : ∀ s x, EvG g (Gs s) (R x) (Gx s x))
    (done : ∀ F1, Same F0 F1 → ∀ s, w.W F1 (k s) → Go E.nx F1 (Gs s) (Ds s))
    (step : (∀ F1, Same F0 F1 → ∀ s, w.W F1 (k s) → Go E.nx F1 (Gs s) (Ds s)) → ∀ F1, Same F0 F1 → ∀ x s nx (Nx : L2.St → Hp → Prop), (∀ F2, Same F1 F2 → ∀ s', w.W F2 (nx s') → Go Nx F2 (Gs s') (Ds s')) → w.W F1 (body x s nx) → Go (tb { E with nx := Nx, ct := Nx, bk := E.nx }) F1 (Gx s x) (Ds s)) (c : w.cond G := by first | exact trivial | walk_at "cond") (hm : m = (M fun xs s' => Res.loop body k xs (s0 s')) := by exact rfl) :
    Go (tFor wi g tb E) F0 G (Dd s) := by subst hm; exact (fun σ H F t hs ss =>
  hi _ σ H F hs ss _ _ _ hP (fun xs s' J H1 F1 t1 hs1 ok hm => by
    have hm1 : w.W F1 (Res.loop body k xs (s0 s')) := Wish.up (w := w) hm (t.trans t1)
    refine ⟨fun i m σ H => m = xs.length - i ∧ i ≤ xs.length ∧ ∃ F', Same F1 F' ∧ ∃ x, w.W F' (Res.loop body k (xs.drop i) x) ∧ StP F' (Gs x) (Ds x) σ H, ⟨xs.length, by simp, Nat.zero_le _, F1, Same.refl _, s0 s', hm1, F1, Same.refl _, hs1.drop (d0 s'), (ss.mono t1).weak (w0 s')⟩, ?_⟩
    rintro i m σ2 H2 ⟨rfl, hle, F', t', x, hx, F2, t2, hs2, ss2⟩
    by_cases hlt : i < xs.length
    · obtain ⟨go, yl⟩ := (ok (Ds x) H2 F2 (cm x) (t'.trans t2) hs2 i).1 (R xs[i]) (by rw [List.getElem?_map, List.getElem?_eq_getElem hlt]; rfl)
      rw [List.drop_eq_getElem_cons hlt] at hx
      refine .inr ⟨go, fun σ' H' => ∃ F3, Same F' F3 ∧ ∃ x', w.W F3 (Res.loop body k (xs.drop (i + 1)) x') ∧ StP F3 (Gs x') (Ds x') σ' H', fun σ' H' ⟨F3, t3, p⟩ => ⟨xs.length - (i + 1), by omega, rfl, hlt, F3, t'.trans t3, p⟩, fun v H3 hy => ?_⟩
      obtain ⟨F3, t3, hs3, r3⟩ := yl v H3 hy
      exact hg x _ v σ2 H3 F3 (Ds x) hs3 (ss2.mono t3) r3 _ fun σ4 ss4 => step done F' ((t.trans t1).trans t') _ x _ _ (fun F5 t5 s' hs' σ5 H5 F6 t6 hs5 ss5 => ⟨F5, t5, s', hs', F6, t6, hs5, ss5⟩) hx σ4 H3 F3 (t2.trans t3) hs3 ss4
    · have e : i = xs.length := by omega
      subst e
      rw [List.drop_length] at hx
      exact .inl ⟨(ok (Ds x) H2 F2 (cm x) (t'.trans t2) hs2 _).2 (by simp), done F' ((t.trans t1).trans t') x hx σ2 H2 F2 t2 hs2 ss2⟩) (fun n e hr H1 F1 t1 hs1 => w.err hr c σ H1 F1 (t.trans t1) hs1 (ss.mono t1)))
theorem go_whileC {tb : TS} {Mt : σt → (Bool → Unit → Res ε ρ) → Res ε ρ} {mb : σt → (σt → Res ε ρ) → Res ε ρ} {k : σt → Res ε ρ} (Gs : σt → Sto) (Ds : σt → Own) (s0 : σt) (n : Nat)
    (hc : ∀ s, EvTC K w.X w.De tt (Gs s) (fun _ : Unit => Ds s) () (Mt s)) {m : Res ε ρ} (hP : w.W F0 m)
    (w0 : SLe G (Gs s0)) (d0 : (Ds s0).Sublist D0)
    (done : ∀ F1, Same F0 F1 → ∀ s, w.W F1 (k s) → Go E.nx F1 (Gs s) (Ds s))
    (step : (∀ F1, Same F0 F1 → ∀ s, w.W F1 (k s) → Go E.nx F1 (Gs s) (Ds s)) → ∀ F1, Same F0 F1 → ∀ s nx (Nx : L2.St → Hp → Prop), (∀ F2, Same F1 F2 → ∀ s', w.W F2 (nx s') → Go Nx F2 (Gs s') (Ds s')) → w.W F1 (mb s nx) → Go (tb { E with nx := Nx, ct := Nx, bk := E.nx }) F1 (Gs s) (Ds s)) (c : ∀ s, w.cond (Gs s) := by first | exact fun _ => trivial | (intro _; walk_at "cond")) (hm : m = (Res.wloop (fun s nx => Mt s fun b _ => if b = true then mb s nx else k s) n s0) := by exact rfl) :
    Go (tWhile tt tb E) F0 G D0 := by subst hm; exact (fun σ H F t hs ss => by
  refine ⟨fun m σ H => ∃ F1, Same F0 F1 ∧ ∃ x, w.W F1 (Res.wloop (fun s nx => Mt s fun b _ => if b = true then mb s nx else k s) m x) ∧ StP F1 (Gs x) (Ds x) σ H, ⟨n, F0, Same.refl _, s0, hP, F, t, hs.drop d0, ss.weak w0⟩, ?_⟩
  rintro m σ2 H2 ⟨F1, t1, x, hx, F2, t2, hs2, ss2⟩
  cases m with
  | zero => exact (show False from hx).elim
  | succ m =>
    refine hc x _ σ2 H2 F2 hs2 ss2 _ _ _ (show (Mt x fun b _ => if b = true then mb x (Res.wloop _ m) else k x).sat (w.o F1) (w.r F1) from hx) (fun b _ H3 F3 t3 hs3 hm => ?_) (fun n e hr H1 F4 t4 hs1 => w.err hr (c x) σ2 H1 F4 (t2.trans t4) hs1 (ss2.mono t4))
    cases b with
    | true =>
      refine ⟨fun σ' H' => ∃ F5, Same F1 F5 ∧ ∃ x', w.W F5 (Res.wloop (fun s nx => Mt s fun b _ => if b = true then mb s nx else k s) m x') ∧ StP F5 (Gs x') (Ds x') σ' H', fun σ' H' ⟨F5, t5, x', h1, h2⟩ => ⟨m, Nat.lt_succ_self m, F5, t1.trans t5, x', h1, h2⟩, ?_⟩
      exact step done F1 t1 x _ _ (fun F5 t5 s' hs' σ5 H5 F6 t6 hs5 ss5 => ⟨F5, t5, s', hs', F6, t6, hs5, ss5⟩) hm σ2 H3 F3 (t2.trans t3) hs3 (ss2.mono t3)
    | false => exact done F1 t1 x hm σ2 H3 F3 (t2.trans t3) hs3 (ss2.mono t3))
theorem go_join {t : TS} (k : σt → Res ε ρ) (Gs : σt → Sto) (Ds : σt → Own) (hk : ∀ F1, Same F0 F1 → ∀ s, w.W F1 (k s) → Go E.nx F1 (Gs s) (Ds s)) (h : (∀ F1, Same F0 F1 → ∀ s, w.W F1 (k s) → Go E.nx F1 (Gs s) (Ds s)) → Go (t E) F0 G D0) : Go (t E) F0 G D0 := h hk
end
end TL

end
section
set_option Elab.async false
set_option linter.all false
set_option maxRecDepth 100000
set_option maxHeartbeats 1000000
namespace TL
open PySem PySem.Spec L2
/-! ## forms of data that may be held to one another -/
structure Enc {α : Type} (e : α → PyData) (n : Nat) : Prop where
  lay : ∀ x, PyData.canLay0 (e x) = true
  dep : ∀ x, (e x).depth ≤ n
  inj : ∀ x y, PyData.eqv (e x) (e y) = true ↔ x = y
theorem Enc.shaped {α : Type} {e : α → PyData} {n : Nat} (h : Enc e n) (hn : n ≤ 64) (x : α) : SeqAt.shaped (e x) = true := by
  unfold SeqAt.shaped
  rw [h.lay x, Bool.true_and]
  exact decide_eq_true (Nat.le_trans (h.dep x) hn)
theorem Enc.eq {α : Type} [DecidableEq α] {e : α → PyData} {n : Nat} (h : Enc e n) (x y : α) : PyData.eqv (e x) (e y) = decide (x = y) := by
  by_cases q : x = y
  · rw [decide_eq_true q, (h.inj x y).mpr q]
  · rw [decide_eq_false q]
    cases z : PyData.eqv (e x) (e y) with
    | false => rfl
    | true => exact absurd ((h.inj x y).mp z) q
theorem enc_I : Enc eI 0 := ⟨fun _ => rfl, fun _ => Nat.le_refl _, fun x y => by
  show (x == y) = true ↔ _
  simp⟩
theorem enc_B : Enc eB 0 := ⟨fun _ => rfl, fun _ => Nat.le_refl _, fun x y => by
  show (x == y) = true ↔ _
  simp⟩
theorem enc_U : Enc eU 0 := ⟨fun _ => rfl, fun _ => Nat.le_refl _, fun x y => by
  show true = true ↔ _
  simp⟩
theorem eqvS (x y : Str) : PyData.eqv (.str x) (.str y) = (x == y) := rfl
theorem enc_S : Enc eS 0 := ⟨fun x => x.ok, fun _ => Nat.le_refl _, fun x y => by
  rw [eqvS]
  simp only [beq_iff_eq]
  exact ⟨Tx.ext', fun h => by rw [h]⟩⟩
theorem enc_Q : Enc eQ 1 := ⟨fun _ => rfl, fun _ => Nat.le_refl _, fun x y => by
  show PyData.eqv (.tuple [.int x.num, .int x.den]) (.tuple [.int y.num, .int y.den]) = true ↔ _
  rw [eqv_q]
  simp⟩
theorem dep2 {a b : PyData} {n m : Nat} (h : a.depth ≤ n) (h' : b.depth ≤ m) : (PyData.tuple [a, b]).depth ≤ max n m + 1 := by
  show max a.depth (max b.depth 0) + 1 ≤ _
  omega
theorem enc_2 {α β : Type} {f : α → PyData} {g : β → PyData} {n m : Nat} (hf : Enc f n) (hg : Enc g m) : Enc (e2 f g) (max n m + 1) := ⟨fun x => by
    show (PyData.canLay0 (f x.1) && (PyData.canLay0 (g x.2) && true)) = true
    rw [hf.lay, hg.lay]; rfl, fun x => dep2 (hf.dep _) (hg.dep _), fun x y => by
    show (PyData.eqv (f x.1) (f y.1) && (PyData.eqv (g x.2) (g y.2) && true)) = true ↔ _
    simp only [Bool.and_eq_true, Bool.and_true, hf.inj, hg.inj]
    exact ⟨fun h => Prod.ext h.1 h.2, fun h => by rw [h]; exact ⟨rfl, rfl⟩⟩⟩
theorem enc_3 {α β γ : Type} {f : α → PyData} {g : β → PyData} {h : γ → PyData} {n m k : Nat} (hf : Enc f n) (hg : Enc g m) (hh : Enc h k) : Enc (e3 f g h) (max n (max m k) + 1) := ⟨fun x => by
    show (PyData.canLay0 (f x.1) && (PyData.canLay0 (g x.2.1) && (PyData.canLay0 (h x.2.2) && true))) = true
    rw [hf.lay, hg.lay, hh.lay]; rfl, fun x => by
    have h1 := hf.dep x.1
    have h2 := hg.dep x.2.1
    have h3 := hh.dep x.2.2
    show max (f x.1).depth (max (g x.2.1).depth (max (h x.2.2).depth 0)) + 1 ≤ _
    omega, fun x y => by
    show (PyData.eqv (f x.1) (f y.1) && (PyData.eqv (g x.2.1) (g y.2.1) && (PyData.eqv (h x.2.2) (h y.2.2) && true))) = true ↔ _
    simp only [Bool.and_eq_true, Bool.and_true, hf.inj, hg.inj, hh.inj]
    exact ⟨fun h => Prod.ext h.1 (Prod.ext h.2.1 h.2.2), fun h => by rw [h]; exact ⟨rfl, rfl, rfl⟩⟩⟩
theorem enc_1 {α : Type} {f : α → PyData} {n : Nat} (hf : Enc f n) : Enc (e1 f) (n + 1) := ⟨fun x => by
    show (PyData.canLay0 (f x) && true) = true
    rw [hf.lay]; rfl, fun x => by
    have h1 := hf.dep x
    show max (f x).depth 0 + 1 ≤ _
    omega, fun x y => by
    show (PyData.eqv (f x) (f y) && true) = true ↔ _
    simp only [Bool.and_true, hf.inj]⟩
theorem encAll_lay {α : Type} {f : α → PyData} {n : Nat} (hf : Enc f n) : ∀ xs : List α, PyData.canLayAll0 (xs.map f) = true
  | [] => rfl
  | x :: xs => by
    show (PyData.canLay0 (f x) && PyData.canLayAll0 (xs.map f)) = true
    rw [hf.lay, encAll_lay hf xs]; rfl
theorem encAll_dep {α : Type} {f : α → PyData} {n : Nat} (hf : Enc f n) : ∀ xs : List α, PyData.depthAll (xs.map f) ≤ n
  | [] => Nat.zero_le _
  | x :: xs => by
    show max (f x).depth (PyData.depthAll (xs.map f)) ≤ n
    have := hf.dep x
    have := encAll_dep hf xs
    omega
theorem encAll_inj {α : Type} {f : α → PyData} {n : Nat} (hf : Enc f n) : ∀ xs ys : List α, PyData.eqvAll (xs.map f) (ys.map f) = true ↔ xs = ys
  | [], [] => by simp [PyData.eqvAll]
  | [], y :: ys => by simp [PyData.eqvAll]
  | x :: xs, [] => by simp [PyData.eqvAll]
  | x :: xs, y :: ys => by
    show (PyData.eqv (f x) (f y) && PyData.eqvAll (xs.map f) (ys.map f)) = true ↔ _
    simp only [Bool.and_eq_true, hf.inj, encAll_inj hf xs ys, List.cons.injEq]
theorem enc_L {α : Type} {f : α → PyData} {n : Nat} (hf : Enc f n) : Enc (eL f) (n + 1) := ⟨fun xs => encAll_lay hf xs, fun xs => by
  have := encAll_dep hf xs
  show PyData.depthAll (xs.map f) + 1 ≤ _
  omega, fun xs ys => encAll_inj hf xs ys⟩
theorem enc_V {α : Type} {f : α → PyData} {n : Nat} (hf : Enc f n) : Enc (eV f) (n + 1) := ⟨fun xs => encAll_lay hf xs, fun xs => by
  have := encAll_dep hf xs
  show PyData.depthAll (xs.map f) + 1 ≤ _
  omega, fun xs ys => encAll_inj hf xs ys⟩
/-! ## texts -/
theorem canLay_app' {x y : Str} (hx : PyData.canLay0 (.str x) = true) (hy : PyData.canLay0 (.str y) = true) : PyData.canLay0 (.str (x ++ y)) = true := by
  have hx' : x.cps.all (fun c => decide (c < 0x110000)) = true := hx
  have hy' : y.cps.all (fun c => decide (c < 0x110000)) = true := hy
  show (x ++ y).cps.all (fun c => decide (c < 0x110000)) = true
  rw [← Array.all_toList] at hx' hy' ⊢
  rw [app_cps, List.all_append, hx', hy']
  rfl
def Tx.app (a b : Tx) : Tx := ⟨a.s ++ b.s, canLay_app' a.ok b.ok⟩
instance : Append Tx := ⟨Tx.app⟩
theorem Tx.app_s (a b : Tx) : (a ++ b).s = a.s ++ b.s := rfl
def Tx.len (a : Tx) : Nat := a.s.length
theorem canLay_of {x : Str} (h : ∀ c ∈ x.cps.toList, c < 0x110000) : PyData.canLay0 (.str x) = true := by
  show x.cps.all (fun c => decide (c < 0x110000)) = true
  rw [← Array.all_toList, List.all_eq_true]
  exact fun c hc => decide_eq_true (h c hc)
theorem Tx.all (t : Tx) : ∀ c ∈ t.s.cps.toList, c < 0x110000 := fun c hc => by
  have h : t.s.cps.all (fun c => decide (c < 0x110000)) = true := t.ok
  rw [← Array.all_toList, List.all_eq_true] at h
  exact of_decide_eq_true (h c hc)
/-- one sign -/
def Tx.sg (c : Nat) (h : c < 0x110000) : Tx := ⟨⟨#[c]⟩, canLay_of fun d hd => by
  have : d = c := by simpa using hd
  omega⟩
theorem atI_mem {α : Type} {l : List α} {i : Int} {x : α} (h : atI l i = some x) : x ∈ l := by
  unfold atI at h
  cases q : ixN l.length i with
  | none => rw [q] at h; cases h
  | some j =>
    rw [q] at h
    exact List.mem_of_getElem? h
/-- the text's sign at i -/
def Tx.at (t : Tx) (i : Int) : Option Tx := if t.s.length ≤ 100000 then (match h : atI t.s.cps.toList i with
  | some c => some (Tx.sg c (t.all c (atI_mem h)))
  | none => none) else none
theorem cut_ok (t : Tx) (lo hi : Option Int) : PyData.canLay0 (.str (cutS t.s lo hi)) = true := canLay_of fun c hc => by
  have sub : ∀ c ∈ (cutS t.s lo hi).cps.toList, c ∈ t.s.cps.toList := by
    intro c hc
    unfold cutS at hc
    have hc2 := hc
    simp at hc2
    exact List.mem_of_mem_drop (List.mem_of_mem_take hc2)
  exact t.all c (sub c hc)
def Tx.cut (t : Tx) (lo hi : Option Int) : Tx := ⟨cutS t.s lo hi, cut_ok t lo hi⟩
end TL

end
section
set_option Elab.async false
set_option linter.all false
set_option maxRecDepth 100000
set_option maxHeartbeats 1000000
namespace TL
open PySem PySem.Spec L2
section
variable {K : PySem.W.Frag} {ε ε' ρ α β γ δ S τ σt ω : Type} {X : L2.St → XK} {De : ε → Own} {G G1 G2 : Sto} {D0 : Own} {Dd : S → Own} {s : S} {te ta tb tc : TE} {tt tu : TT} {F0 F1 : Hp} {E : Ends} {w : Wish K ε ρ}
  {Mi : (Int → S → Res ε δ) → Res ε δ} {Mj : S → (Int → S → Res ε δ) → Res ε δ}
/-! ## whole numbers -/
theorem evc_add (ha : EvC K X De ta G Dd s Mi (tD K eI)) (hb : ∀ s1, EvC K X De tb G Dd s1 (Mj s1) (tD K eI)) : EvC K X De (tOp (qAddS K) ta tb) G Dd s (fun kk => Mi fun a s1 => Mj s1 fun b s2 => kk (a + b) s2) (tD K eI) :=
  evc2 ha hb fun a b s2 x y H F hs rx ry Q q => by
    rw [dp_int rx, dp_int ry]
    exact .inl (.inl ⟨a, b, rfl, rfl, q _ H F (Same.refl _) hs (.int _)⟩)
theorem evc_sub (ha : EvC K X De ta G Dd s Mi (tD K eI)) (hb : ∀ s1, EvC K X De tb G Dd s1 (Mj s1) (tD K eI)) : EvC K X De (tOp rSubI ta tb) G Dd s (fun kk => Mi fun a s1 => Mj s1 fun b s2 => kk (a - b) s2) (tD K eI) :=
  evc2 ha hb fun a b s2 x y H F hs rx ry Q q => by
    rw [dp_int rx, dp_int ry]
    exact ⟨a, b, rfl, rfl, q _ H F (Same.refl _) hs (.int _)⟩
theorem evc_mul (ha : EvC K X De ta G Dd s Mi (tD K eI)) (hb : ∀ s1, EvC K X De tb G Dd s1 (Mj s1) (tD K eI)) : EvC K X De (tOp (qMul K) ta tb) G Dd s (fun kk => Mi fun a s1 => Mj s1 fun b s2 => Res.bind (Res.grd (CMulW a b) (a * b)) fun z => kk z s2) (tD K eI) :=
  evc2g ha hb fun a b s2 x y H F c hs rx ry Q q => by
    rw [dp_int rx, dp_int ry]
    exact .inl ⟨a, b, rfl, rfl, c, q _ H F (Same.refl _) hs (.int _)⟩
theorem evc_div (ha : EvC K X De ta G Dd s Mi (tD K eI)) (hb : ∀ s1, EvC K X De tb G Dd s1 (Mj s1) (tD K eI)) : EvC K X De (tOp rDivI ta tb) G Dd s (fun kk => Mi fun a s1 => Mj s1 fun b s2 => Res.bind (Res.grd (CDivA a b) (a.fdiv b)) fun z => kk z s2) (tD K eI) :=
  evc2g ha hb fun a b s2 x y H F c hs rx ry Q q => by
    rw [dp_int rx, dp_int ry]
    exact ⟨a, b, rfl, rfl, c, q _ H F (Same.refl _) hs (.int _)⟩
theorem evc_mod (ha : EvC K X De ta G Dd s Mi (tD K eI)) (hb : ∀ s1, EvC K X De tb G Dd s1 (Mj s1) (tD K eI)) : EvC K X De (tOp rModI ta tb) G Dd s (fun kk => Mi fun a s1 => Mj s1 fun b s2 => Res.bind (Res.grd (b ≠ 0) (a.fmod b)) fun z => kk z s2) (tD K eI) :=
  evc2g ha hb fun a b s2 x y H F c hs rx ry Q q => by
    rw [dp_int rx, dp_int ry]
    exact ⟨a, b, rfl, rfl, c, q _ H F (Same.refl _) hs (.int _)⟩
theorem evc_pow (ha : EvC K X De ta G Dd s Mi (tD K eI)) (hb : ∀ s1, EvC K X De tb G Dd s1 (Mj s1) (tD K eI)) : EvC K X De (tOp rPowI ta tb) G Dd s (fun kk => Mi fun a s1 => Mj s1 fun b s2 => Res.bind (Res.grd (CPow a b) (a ^ b.toNat)) fun z => kk z s2) (tD K eI) :=
  evc2g ha hb fun a b s2 x y H F c hs rx ry Q q => by
    rw [dp_int rx, dp_int ry]
    exact ⟨a, b, rfl, rfl, c, q _ H F (Same.refl _) hs (.int _)⟩
theorem evc_neg (ha : EvC K X De ta G Dd s Mi (tD K eI)) : EvC K X De (tUn qNegI ta) G Dd s (fun kk => Mi fun a s1 => kk (-a) s1) (tD K eI) :=
  evc1 (t := id) ha fun a s2 x H F hs rx Q q => by
    rw [dp_int rx]
    exact ⟨a, rfl, q _ H F (Same.refl _) hs (.int _)⟩
theorem evc_cmpI {f : Int → Int → Bool} (ha : EvC K X De ta G Dd s Mi (tD K eI)) (hb : ∀ s1, EvC K X De tb G Dd s1 (Mj s1) (tD K eI)) : EvC K X De (tOp (rI0 fun i j => .bl (f i j)) ta tb) G Dd s (fun kk => Mi fun a s1 => Mj s1 fun b s2 => kk (f a b) s2) (tD K eB) :=
  evc2 ha hb fun a b s2 x y H F hs rx ry Q q => by
    rw [dp_int rx, dp_int ry]
    exact ⟨a, b, rfl, rfl, q _ H F (Same.refl _) hs (.bl _)⟩
theorem evc_lt (ha : EvC K X De ta G Dd s Mi (tD K eI)) (hb : ∀ s1, EvC K X De tb G Dd s1 (Mj s1) (tD K eI)) : EvC K X De (tOp rLtI ta tb) G Dd s (fun kk => Mi fun a s1 => Mj s1 fun b s2 => kk (decide (a < b)) s2) (tD K eB) := evc_cmpI ha hb
theorem evc_le (ha : EvC K X De ta G Dd s Mi (tD K eI)) (hb : ∀ s1, EvC K X De tb G Dd s1 (Mj s1) (tD K eI)) : EvC K X De (tOp rLeI ta tb) G Dd s (fun kk => Mi fun a s1 => Mj s1 fun b s2 => kk (decide (a ≤ b)) s2) (tD K eB) := evc_cmpI ha hb
theorem evc_gt (ha : EvC K X De ta G Dd s Mi (tD K eI)) (hb : ∀ s1, EvC K X De tb G Dd s1 (Mj s1) (tD K eI)) : EvC K X De (tOp rGtI ta tb) G Dd s (fun kk => Mi fun a s1 => Mj s1 fun b s2 => kk (decide (b < a)) s2) (tD K eB) := evc_cmpI (f := fun i j => decide (j < i)) ha hb
theorem evc_ge (ha : EvC K X De ta G Dd s Mi (tD K eI)) (hb : ∀ s1, EvC K X De tb G Dd s1 (Mj s1) (tD K eI)) : EvC K X De (tOp rGeI ta tb) G Dd s (fun kk => Mi fun a s1 => Mj s1 fun b s2 => kk (decide (b ≤ a)) s2) (tD K eB) := evc_cmpI (f := fun i j => decide (j ≤ i)) ha hb
/-! equal or not -/
section
variable [DecidableEq α] {e : α → PyData} {n : Nat} {Ma : (α → S → Res ε δ) → Res ε δ} {Mb : S → (α → S → Res ε δ) → Res ε δ}
theorem evc_eq (he : Enc e n) (ha : EvC K X De ta G Dd s Ma (tD K e)) (hb : ∀ s1, EvC K X De tb G Dd s1 (Mb s1) (tD K e)) (hn : n ≤ 64 := by decide) : EvC K X De (tOp (qEq K) ta tb) G Dd s (fun kk => Ma fun a s1 => Mb s1 fun b s2 => kk (decide (a = b)) s2) (tD K eB) :=
  evc2 ha hb fun a b s2 x y H F hs rx ry Q q => by
    refine .inr ⟨e a, e b, dp_up hs rx, dp_up hs ry, he.shaped hn a, he.shaped hn b, ?_⟩
    rw [he.eq]
    exact q _ H F (Same.refl _) hs (.bl _)
theorem evc_ne (he : Enc e n) (ha : EvC K X De ta G Dd s Ma (tD K e)) (hb : ∀ s1, EvC K X De tb G Dd s1 (Mb s1) (tD K e)) (hn : n ≤ 64 := by decide) : EvC K X De (tOp (qNe K) ta tb) G Dd s (fun kk => Ma fun a s1 => Mb s1 fun b s2 => kk (!decide (a = b)) s2) (tD K eB) :=
  evc2 ha hb fun a b s2 x y H F hs rx ry Q q => by
    refine .inr ⟨e a, e b, dp_up hs rx, dp_up hs ry, he.shaped hn a, he.shaped hn b, ?_⟩
    rw [he.eq]
    exact q _ H F (Same.refl _) hs (.bl _)
end
/-! chains of two comparisons: a < b < c -/
theorem evc_chain {g g' : Int → Int → Bool} {c : S → Int}
    (ha : EvC K X De ta G Dd s Mi (tD K eI)) (hb : ∀ s1, EvC K X De tb G Dd s1 (Mj s1) (tD K eI)) (hc : ∀ s1, EvC (β := δ) K X De tc G Dd s1 (fun kk => kk (c s1) s1) (tD K eI)) :
    EvC K X De (tChain (rI0 fun i j => .bl (g i j)) (rI0 fun i j => .bl (g' i j)) ta tb tc) G Dd s (fun kk => Mi fun a s1 => Mj s1 fun b s2 => kk (g a b && g' b (c s2)) s2) (tD K eB) := fun kk σ H F hs ss o rr Q hm q qe =>
  ha _ σ H F hs ss o rr _ hm (fun a s1 x H1 F1 t1 hs1 r1 hm1 => hb s1 _ σ H1 F1 hs1 (ss.mono t1) o rr _ hm1
    (fun b s2 y H2 F2 t2 hs2 r2 hm2 => by
      refine ⟨a, b, dp_int r1, dp_int r2, g a b, rfl, ?_⟩
      cases e : g a b with
      | false =>
        rw [e] at hm2
        exact q false s2 _ H2 F2 (t1.trans t2) hs2 (.bl _) hm2
      | true =>
        rw [e] at hm2
        refine hc s2 (fun z s3 => kk (true && g' b z) s3) σ H2 F2 hs2 ((ss.mono t1).mono t2) o rr _ hm2 (fun z s3 u H4 F4 t4 hs4 r4 hm4 => ?_) (fun n e h H2 F2 t4 => qe n e h H2 F2 ((t1.trans t2).trans t4))
        exact ⟨b, z, dp_int r2, dp_int r4, q (true && g' b z) s3 _ H4 F4 ((t1.trans t2).trans t4) hs4 (by rw [Bool.true_and]; exact .bl _) hm4⟩)
    (fun n e h H2 F2 t2 => qe n e h H2 F2 (t1.trans t2))) (fun n e h H1 F1 t1 => qe n e h H1 F1 t1)
/-! ## texts -/
section
variable {Ma : (Tx → S → Res ε δ) → Res ε δ} {Mb : S → (Tx → S → Res ε δ) → Res ε δ}
theorem evc_str {x : Str} (h : PyData.canLay0 (.str x) = true) : EvC (β := β) K X De (tC (.str x)) G Dd s (fun kk => kk ⟨x, h⟩ s) (tD K eS) := evc_of ev_str rfl
theorem evc_addS (ha : EvC K X De ta G Dd s Ma (tD K eS)) (hb : ∀ s1, EvC K X De tb G Dd s1 (Mb s1) (tD K eS)) : EvC K X De (tOp (qAddS K) ta tb) G Dd s (fun kk => Ma fun a s1 => Mb s1 fun b s2 => Res.bind (Res.grd (a.len + b.len ≤ 100000) (a ++ b)) fun z => kk z s2) (tD K eS) :=
  evc2g ha hb fun a b s2 x y H F c hs rx ry Q q => by
    rw [dp_str rx, dp_str ry]
    exact .inl (.inr (.inl ⟨a.s, b.s, rfl, rfl, Nat.le_trans c sizeLine_big, q _ H F (Same.refl _) hs (.str _)⟩))
theorem Tx.at_some {t c : Tx} {i : Int} (h : t.at i = some c) : t.s.length ≤ 100000 ∧ ∃ d, atI t.s.cps.toList i = some d ∧ c.s = ⟨#[d]⟩ := by
  unfold Tx.at at h
  split at h
  · rename_i hl
    split at h
    · rename_i d hd
      cases h
      exact ⟨hl, d, hd, rfl⟩
    · cases h
  · cases h
theorem evc_ixS (ha : EvC K X De ta G Dd s Ma (tD K eS)) (hb : ∀ s1, EvC K X De tb G Dd s1 (Mj s1) (tD K eI)) : EvC K X De (tOp (rIx K) ta tb) G Dd s (fun kk => Ma fun a s1 => Mj s1 fun b s2 => Res.bind (Res.opt (a.at b)) fun z => kk z s2) (tD K eS) :=
  evc2o ha hb fun a b c s2 x y H F e hs rx ry Q q => by
    rw [dp_str rx, dp_int ry]
    obtain ⟨h1, d, h2, h3⟩ := Tx.at_some e
    refine .inr (.inr ⟨a.s, b, d, rfl, rfl, Nat.le_trans h1 sizeLine_big, h2, q _ H F (Same.refl _) hs ?_⟩)
    show Dp K F _ (.str c.s)
    rw [h3]
    exact .str _
end
/-! ## numbers (Q): top and bottom -/
theorem evc_q0 {Ma : (Rat → S → Res ε δ) → Res ε δ} (ha : EvC K X De ta G Dd s Ma (tD K eQ)) : EvC K X De (tOp (rIx K) ta (tC (.int 0))) G Dd s (fun kk => Ma fun a s1 => kk a.num s1) (tD K eI) := fun kk σ H F hs ss o r Q hm q qe =>
  ha _ σ H F hs ss o r _ hm (fun a s1 v H1 F1 t1 hs1 r1 hm1 => by
    obtain ⟨p, xs, rfl, h1, h2⟩ := dp_tup r1
    obtain ⟨u, e1, e2⟩ := atI_map h2 (i := 0) (d := .int a.num) rfl
    exact .inr (.inl ⟨p, xs, 0, u, rfl, rfl, sqT_up hs1 h1, e1, q _ s1 _ H1 F1 t1 hs1 e2 hm1⟩)) qe
theorem evc_q1 {Ma : (Rat → S → Res ε δ) → Res ε δ} (ha : EvC K X De ta G Dd s Ma (tD K eQ)) : EvC K X De (tOp (rIx K) ta (tC (.int 1))) G Dd s (fun kk => Ma fun a s1 => kk (a.den : Int) s1) (tD K eI) := fun kk σ H F hs ss o r Q hm q qe =>
  ha _ σ H F hs ss o r _ hm (fun a s1 v H1 F1 t1 hs1 r1 hm1 => by
    obtain ⟨p, xs, rfl, h1, h2⟩ := dp_tup r1
    obtain ⟨u, e1, e2⟩ := atI_map h2 (i := 1) (d := .int a.den) rfl
    exact .inr (.inl ⟨p, xs, 1, u, rfl, rfl, sqT_up hs1 h1, e1, q _ s1 _ H1 F1 t1 hs1 e2 hm1⟩)) qe
/-- a part of a tuple of written length -/
theorem evc_ixc {e : α → PyData} {e' : β → PyData} {f : α → β} {i : Int} {Ma : (α → S → Res ε δ) → Res ε δ} (ha : EvC K X De ta G Dd s Ma (tD K e)) (he : ∀ x, ∃ ds, e x = .tuple ds ∧ atI ds i = some (e' (f x))) :
    EvC K X De (tOp (rIx K) ta (tC (.int i))) G Dd s (fun kk => Ma fun a s1 => kk (f a) s1) (tD K e') := fun kk σ H F hs ss o r Q hm q qe =>
  ha _ σ H F hs ss o r _ hm (fun a s1 v H1 F1 t1 hs1 r1 hm1 => by
    obtain ⟨ds, h1, h2⟩ := he a
    have r2 : (TL.D K (.tuple ds)).p v F1 := by rw [← h1]; exact r1
    obtain ⟨p, xs, rfl, h3, h4⟩ := dp_tup r2
    obtain ⟨u, e1, e2⟩ := atI_map h4 h2
    exact .inr (.inl ⟨p, xs, i, u, rfl, rfl, sqT_up hs1 h3, e1, q _ s1 _ H1 F1 t1 hs1 e2 hm1⟩)) qe
/-! ## displays -/
theorem evac_data2 : True := trivial
theorem evc_tup1 {a : α → PyData} {t : TA} {M : ((α × Unit) → S → Res ε δ) → Res ε δ} (h : EvAC K X De t G Dd s M (fun t => tD K a t.1 :: [])) : EvC K X De (tTup t) G Dd s (fun kk => M fun t s1 => kk t.1 s1) (tD K (e1 a)) := fun kk σ H F hs ss o r Q hm q qe =>
  h _ σ H F hs ss o r _ hm (fun t s1 vs H1 F1 t1 hs1 r1 hm1 => by
    have r2 : DpAll K F1 vs [a t.1] := allP_dp (ds := [a t.1]) r1
    refine ⟨by rw [dpAll_len r2]; exact Nat.le_trans (show 1 ≤ 100000 by decide) sizeLine_big, fun p hp => ?_⟩
    have t2 : Same F1 (upd F1 p (.tup vs)) := same_new (hs1.free hp)
    exact q _ s1 _ _ _ (t1.trans t2) (hs1.frz hp) (.tup (SqT.of upd_same) (dpAll_mono t2 _ vs r2)) hm1) qe
theorem evc_tup2 {a : α → PyData} {b : β → PyData} {t : TA} {M : ((α × β × Unit) → S → Res ε δ) → Res ε δ} (h : EvAC K X De t G Dd s M (fun t => tD K a t.1 :: tD K b t.2.1 :: [])) : EvC K X De (tTup t) G Dd s (fun kk => M fun t s1 => kk (t.1, t.2.1) s1) (tD K (e2 a b)) := fun kk σ H F hs ss o r Q hm q qe =>
  h _ σ H F hs ss o r _ hm (fun t s1 vs H1 F1 t1 hs1 r1 hm1 => by
    have r2 : DpAll K F1 vs [a t.1, b t.2.1] := allP_dp (ds := [a t.1, b t.2.1]) r1
    refine ⟨by rw [dpAll_len r2]; exact Nat.le_trans (show 2 ≤ 100000 by decide) sizeLine_big, fun p hp => ?_⟩
    have t2 : Same F1 (upd F1 p (.tup vs)) := same_new (hs1.free hp)
    exact q _ s1 _ _ _ (t1.trans t2) (hs1.frz hp) (.tup (SqT.of upd_same) (dpAll_mono t2 _ vs r2)) hm1) qe
theorem evc_tup3 {a : α → PyData} {b : β → PyData} {c : γ → PyData} {t : TA} {M : ((α × β × γ × Unit) → S → Res ε δ) → Res ε δ} (h : EvAC K X De t G Dd s M (fun t => tD K a t.1 :: tD K b t.2.1 :: tD K c t.2.2.1 :: [])) : EvC K X De (tTup t) G Dd s (fun kk => M fun t s1 => kk (t.1, t.2.1, t.2.2.1) s1) (tD K (e3 a b c)) := fun kk σ H F hs ss o r Q hm q qe =>
  h _ σ H F hs ss o r _ hm (fun t s1 vs H1 F1 t1 hs1 r1 hm1 => by
    have r2 : DpAll K F1 vs [a t.1, b t.2.1, c t.2.2.1] := allP_dp (ds := [a t.1, b t.2.1, c t.2.2.1]) r1
    refine ⟨by rw [dpAll_len r2]; exact Nat.le_trans (show 3 ≤ 100000 by decide) sizeLine_big, fun p hp => ?_⟩
    have t2 : Same F1 (upd F1 p (.tup vs)) := same_new (hs1.free hp)
    exact q _ s1 _ _ _ (t1.trans t2) (hs1.frz hp) (.tup (SqT.of upd_same) (dpAll_mono t2 _ vs r2)) hm1) qe
/-- a pair of a top and a bottom, in lowest terms -/
noncomputable def mkQ (a b : Int) : Option Rat := open Classical in if h : ∃ r : Rat, r.num = a ∧ (r.den : Int) = b then some h.choose else none
theorem mkQ_some {a b : Int} {r : Rat} (h : mkQ a b = some r) : r.num = a ∧ (r.den : Int) = b := by
  unfold mkQ at h
  split at h
  · rename_i q
    cases h
    exact q.choose_spec
  · cases h
theorem mkQ_of (r : Rat) : mkQ r.num r.den = some r := by
  unfold mkQ
  have h : ∃ q : Rat, q.num = r.num ∧ (q.den : Int) = r.den := ⟨r, rfl, rfl⟩
  rw [dif_pos h]
  have z := h.choose_spec
  exact congrArg some (Rat.ext z.1 (by have := z.2; omega))
theorem mkQ_1 (a : Int) : mkQ a 1 = some (a : Rat) := by
  have h := mkQ_of (a : Rat)
  have e1 : ((a : Rat)).num = a := Rat.num_intCast a
  have e2 : ((a : Rat)).den = 1 := Rat.den_intCast a
  rw [e1, e2] at h
  exact h
theorem evc_mkQ {M : ((Int × Int × Unit) → S → Res ε δ) → Res ε δ} {t : TA} (h : EvAC K X De t G Dd s M (fun t => tD K eI t.1 :: tD K eI t.2.1 :: [])) : EvC K X De (tTup t) G Dd s (fun kk => M fun t s1 => Res.bind (Res.opt (mkQ t.1 t.2.1)) fun z => kk z s1) (tD K eQ) := fun kk σ H F hs ss o r Q hm q qe =>
  h _ σ H F hs ss o r _ hm (fun t s1 vs H1 F1 t1 hs1 r1 hm1 => by
    obtain ⟨z, e, hm2⟩ := Res.sat_opt hm1
    obtain ⟨z1, z2⟩ := mkQ_some e
    have r2 : DpAll K F1 vs [.int t.1, .int t.2.1] := allP_dp (ds := [.int t.1, .int t.2.1]) r1
    rw [← z1, ← z2] at r2
    refine ⟨by rw [dpAll_len r2]; exact Nat.le_trans (show 2 ≤ 100000 by decide) sizeLine_big, fun p hp => ?_⟩
    have t2 : Same F1 (upd F1 p (.tup vs)) := same_new (hs1.free hp)
    exact q z s1 _ _ _ (t1.trans t2) (hs1.frz hp) (.tup (SqT.of upd_same) (dpAll_mono t2 _ vs r2)) hm2) qe
/-- a written pair that is a number -/
theorem evc_litQ {a b : Int} (z : Rat) (e1 : z.num = a) (e2 : (z.den : Int) = b) : EvC (β := β) K X De (tTup (tCons (tC (.int a)) (tCons (tC (.int b)) tNil))) G Dd s (fun kk => kk z s) (tD K eQ) := evc_of (ev_pair z ev_int ev_int e1 e2) rfl
/-- a constant of the module -/
theorem evc_con {a : Addr} {e : α → PyData} (x : α) (h : dataB K (.ref a) (e x) = true) : EvC (β := β) K X De (tC (.ref a)) G Dd s (fun kk => kk x s) (tD K e) := evc_of (ev_con h) rfl
/-! ## lists and tuples that are read -/
def SView (K : PySem.W.Frag) (Dd : S → Own) (R : α → Ty) (f : α → List β) (Re : β → Ty) : Prop := ∀ x s v H F, HS (Dd s) H F → (R x).p v F → ∃ a vs, v = .ref a ∧ (SqL K H a vs ∨ SqT K H a vs) ∧ AllP F ((f x).map Re) vs
theorem sv_L {e : α → PyData} : SView K Dd (tD K (eL e)) id (tD K e) := fun x s v H F hs r => by
  obtain ⟨a, vs, rfl, h1, h2⟩ := dp_lst r
  exact ⟨a, vs, rfl, .inl (sqL_up hs h1), map_allP h2⟩
theorem sv_V {e : α → PyData} : SView K Dd (tD K (eV e)) id (tD K e) := fun x s v H F hs r => by
  obtain ⟨a, vs, rfl, h1, h2⟩ := dp_tup r
  exact ⟨a, vs, rfl, .inr (sqT_up hs h1), map_allP h2⟩
theorem sv_LT {Re : α → Ty} : SView K Dd (LT K Re) id Re := fun x s v H F hs ⟨a, vs, e, h1, h2⟩ => ⟨a, vs, e, .inl (sqL_up hs h1), h2⟩
theorem sv_VT {Re : α → Ty} : SView K Dd (VT K Re) id Re := fun x s v H F hs ⟨a, vs, e, h1, h2⟩ => ⟨a, vs, e, .inr (sqT_up hs h1), h2⟩
theorem sv_O {Re : β → Ty} {xs : List β} {a : Addr} {k : Nat} (hk : ∀ s, (Dd s)[k]? = some (a, OLT Re xs)) : SView K Dd (fun _ : Unit => Is (.ref a)) (fun _ => xs) Re := fun x s v H F hs r => by
  obtain ⟨o, ho, vs, rfl, h⟩ := hs.at (hk s)
  exact ⟨a, vs, r, .inl (SqL.of ho), h⟩
section
variable {Ma : (α → S → Res ε δ) → Res ε δ} {Mb : S → (α → S → Res ε δ) → Res ε δ} {R : α → Ty} {f : α → List β} {Re : β → Ty}
theorem atI_allP {F : Hp} {Re : β → Ty} {xs : List β} {vs : List V} (h : AllP F (xs.map Re) vs) {i : Int} {x : β} (e : atI xs i = some x) : ∃ v, atI vs i = some v ∧ (Re x).p v F := by
  refine atI_all h ?_
  unfold atI at e ⊢
  rw [List.length_map]
  cases q : ixN xs.length i with
  | none => rw [q] at e; cases e
  | some j =>
    rw [q] at e
    rw [Option.bind_some] at e ⊢
    rw [List.getElem?_map, e]
    rfl
theorem evc_ix (hv : SView K Dd R f Re) (ha : EvC K X De ta G Dd s Ma R) (hb : ∀ s1, EvC K X De tb G Dd s1 (Mj s1) (tD K eI)) : EvC K X De (tOp (rIx K) ta tb) G Dd s (fun kk => Ma fun a s1 => Mj s1 fun b s2 => Res.bind (Res.opt (atI (f a) b)) fun z => kk z s2) Re :=
  evc2o ha hb fun a b c s2 x y H F e hs rx ry Q q => by
    obtain ⟨p, vs, rfl, h1, h2⟩ := hv a s2 x H F hs rx
    rw [dp_int ry]
    obtain ⟨v, e1, e2⟩ := atI_allP h2 e
    rcases h1 with h1 | h1
    · exact .inl ⟨p, vs, b, v, rfl, rfl, h1, e1, q _ H F (Same.refl _) hs e2⟩
    · exact .inr (.inl ⟨p, vs, b, v, rfl, rfl, h1, e1, q _ H F (Same.refl _) hs e2⟩)
theorem evc_len (hv : SView K Dd R f Re) (ha : EvC K X De ta G Dd s Ma R) : EvC K X De (tCB (cLen K) (tCons ta tNil)) G Dd s (fun kk => Ma fun a s1 => kk ((f a).length : Int) s1) (tD K eI) := by
  have h1 := evac_cons (β := δ) ha fun _ => evac_nil
  refine evc_CB h1 (g := fun a => ((f a.1).length : Int)) fun a s2 vs H F hs r Q q => ?_
  · obtain ⟨v, rfl, h1⟩ := allP1 r
    obtain ⟨p, xs, rfl, h2, h3⟩ := hv a.1 s2 v H F hs h1
    have l := h3.len
    rw [List.length_map] at l
    rcases h2 with h2 | h2
    · exact ⟨_, (f a.1).length, rfl, .inl ⟨xs, h2, l.symm⟩, q _ H F (Same.refl _) hs (.int _)⟩
    · exact ⟨_, (f a.1).length, rfl, .inr ⟨xs, h2, l.symm⟩, q _ H F (Same.refl _) hs (.int _)⟩
end
theorem evc_lenS {Ma : (Tx → S → Res ε δ) → Res ε δ} (ha : EvC K X De ta G Dd s Ma (tD K eS)) : EvC K X De (tCB (cLen K) (tCons ta tNil)) G Dd s (fun kk => Ma fun a s1 => Res.bind (Res.grd (a.len ≤ 100000) (a.len : Int)) fun z => kk z s1) (tD K eI) := by
  have h1 := evac_cons (β := δ) ha fun _ => evac_nil
  refine evc_CBg h1 (g := fun a => (a.1.len : Int)) (C := fun a => a.1.len ≤ 100000) fun a s2 vs H F c hs r Q q => ?_
  · obtain ⟨v, rfl, h1⟩ := allP1 r
    rw [dp_str h1]
    exact ⟨_, a.1.len, rfl, ⟨Nat.le_trans c sizeLine_big, rfl⟩, q _ H F (Same.refl _) hs (.int _)⟩
theorem evc_abs (ha : EvC K X De ta G Dd s Mi (tD K eI)) : EvC K X De (tCB cAbs (tCons ta tNil)) G Dd s (fun kk => Mi fun a s1 => kk (if a < 0 then -a else a) s1) (tD K eI) := by
  have h1 := evac_cons (β := δ) ha fun _ => evac_nil
  refine evc_CB h1 (g := fun a => if a.1 < 0 then -a.1 else a.1) fun a s2 vs H F hs r Q q => ?_
  · obtain ⟨v, rfl, h1⟩ := allP1 r
    rw [dp_int h1]
    exact ⟨a.1, rfl, q _ H F (Same.refl _) hs (.int _)⟩
theorem evc_max2 (ha : EvC K X De ta G Dd s Mi (tD K eI)) (hb : ∀ s1, EvC K X De tb G Dd s1 (Mj s1) (tD K eI)) : EvC K X De (tCB cMax2 (tCons ta (tCons tb tNil))) G Dd s (fun kk => Mi fun a s1 => Mj s1 fun b s2 => kk (if b > a then b else a) s2) (tD K eI) := by
  have h1 := evac_cons (β := δ) ha fun s1 => evac_cons (hb s1) fun _ => evac_nil
  refine evc_CB h1 (g := fun a => if a.2.1 > a.1 then a.2.1 else a.1) fun a s2 vs H F hs r Q q => ?_
  · obtain ⟨v, u, rfl, h1, h2⟩ := allP2 r
    rw [dp_int h1, dp_int h2]
    exact ⟨a.1, a.2.1, rfl, q _ H F (Same.refl _) hs (.int _)⟩
theorem evc_min2 (ha : EvC K X De ta G Dd s Mi (tD K eI)) (hb : ∀ s1, EvC K X De tb G Dd s1 (Mj s1) (tD K eI)) : EvC K X De (tCB cMin2 (tCons ta (tCons tb tNil))) G Dd s (fun kk => Mi fun a s1 => Mj s1 fun b s2 => kk (if b < a then b else a) s2) (tD K eI) := by
  have h1 := evac_cons (β := δ) ha fun s1 => evac_cons (hb s1) fun _ => evac_nil
  refine evc_CB h1 (g := fun a => if a.2.1 < a.1 then a.2.1 else a.1) fun a s2 vs H F hs r Q q => ?_
  · obtain ⟨v, u, rfl, h1, h2⟩ := allP2 r
    rw [dp_int h1, dp_int h2]
    exact ⟨a.1, a.2.1, rfl, q _ H F (Same.refl _) hs (.int _)⟩
theorem evc_intB {Ma : (Bool → S → Res ε δ) → Res ε δ} (ha : EvC K X De ta G Dd s Ma (tD K eB)) : EvC K X De (tCB cInt1 (tCons ta tNil)) G Dd s (fun kk => Ma fun a s1 => kk (if a = true then 1 else 0) s1) (tD K eI) := by
  have h1 := evac_cons (β := δ) ha fun _ => evac_nil
  refine evc_CB h1 (g := fun a => if a.1 = true then (1 : Int) else 0) fun a s2 vs H F hs r Q q => ?_
  · obtain ⟨v, rfl, h1⟩ := allP1 r
    rw [dp_bl h1]
    exact .inr ⟨a.1, rfl, q _ H F (Same.refl _) hs (.int _)⟩
end
end TL

end
section
set_option Elab.async false
set_option linter.all false
set_option maxRecDepth 100000
set_option maxHeartbeats 1000000
namespace TL
open PySem PySem.Spec L2
/-! ## defs -/
/-- a def that owns nothing of the caller's -/
def spP (K : PySem.W.Frag) {τ ρ : Type} (args : τ → List Ty) (mf : τ → Res Unit ρ) (out : ρ → Out) : Sp := fun vs H Q X => ∃ (x : τ) (F : Hp) (D : Own), HS D H F ∧ AllP F (args x) vs ∧ (dwish K X Q out (fun _ => D) (fun _ : Unit => D)).W F (mf x)
/-- a def with a cell of the caller's -/
def spC (K : PySem.W.Frag) {τ ρ ω : Type} (O : ω → OTy) (args : Addr → τ → List Ty) (mf : τ → ω → Res ω (ρ × ω)) (out : ρ → Out) : Sp := fun vs H Q X => ∃ (x : τ) (y : ω) (F : Hp) (Dp : ω → Own) (k : Nat) (a : Addr), Bor1 Dp k a O ∧ HS (Dp y) H F ∧ AllP F (args a x) vs ∧
  (dwish K X Q (fun r : ρ × ω => out r.1) (fun r => Dp r.2) Dp).W F (mf x y)
section
variable {K : PySem.W.Frag} {ε ε' ρ α β γ δ S τ τ' σt ω : Type} {Xk : XK} {De : ε → Own} {G G1 G2 : Sto} {D0 : Own} {Dd : S → Own} {s : S} {te ta tb tc : TE} {tt tu : TT} {F0 F1 : Hp} {E : Ends} {w : Wish K ε ρ} {t : TA} {n : Nat} {dvs : List V} {args : τ → List Ty} {Rs : τ' → List Ty}
/-- a call; nothing is known where it raises -/
theorem evc_callP {mf : τ → Res Unit γ} {R : γ → Ty} {M : (τ → S → Res Unit δ) → Res Unit δ} {De : Unit → Own} {sp : Sp} (hsp : ∀ vs H Q X, spP K args mf (fun r => .ok (R r)) vs H Q X → sp vs H Q X) (h : EvAC K (fun _ => Xk) De t G Dd s M args) (hde : ∀ s, (De ()).Sublist (Dd s)) :
    EvC K (fun _ => Xk) De (tCall sp [] Xk t) G Dd s (fun kk => M fun x s1 => Res.bind (mf x) fun z => kk z s1) R := fun kk σ H F hs ss o r Q hm q qe =>
  h _ σ H F hs ss o r _ hm (fun x s1 vs H1 F1 t1 hs1 r1 hm1 => hsp _ _ _ _ ⟨x, F1, Dd s1, hs1, by rw [List.append_nil]; exact r1, by
    rw [Res.sat_bind] at hm1
    exact Res.sat_mono hm1 (fun z hz v H2 F2 t2 hs2 r2 => q z s1 v H2 F2 (t1.trans t2) hs2 r2 hz) (fun n e he H2 F2 t2 hs2 => qe n e he H2 F2 (t1.trans t2) (hs2.drop (hde s1)))⟩) qe
/-- .. g: the state where it raises -/
theorem evc_callPE {mf : τ → Res Unit γ} {R : γ → Ty} {M : (τ → S → Res ε δ) → Res ε δ} {sp : Sp} (hsp : ∀ vs H Q X, spP K args mf (fun r => .ok (R r)) vs H Q X → sp vs H Q X) (g : S → ε) (h : EvAC K (fun _ => Xk) De t G Dd s M args) (hde : ∀ s, (De (g s)).Sublist (Dd s)) :
    EvC K (fun _ => Xk) De (tCall sp [] Xk t) G Dd s (fun kk => M fun x s1 => Res.bind (Res.mapE (fun _ => g s1) (mf x)) fun z => kk z s1) R := fun kk σ H F hs ss o r Q hm q qe =>
  h _ σ H F hs ss o r _ hm (fun x s1 vs H1 F1 t1 hs1 r1 hm1 => hsp _ _ _ _ ⟨x, F1, Dd s1, hs1, by rw [List.append_nil]; exact r1, by
    cases e : mf x with
    | ok z =>
      rw [e] at hm1
      exact fun v H2 F2 t2 hs2 r2 => q z s1 v H2 F2 (t1.trans t2) hs2 r2 hm1
    | err n u =>
      rw [e] at hm1
      exact fun H2 F2 t2 hs2 => qe n _ hm1 H2 F2 (t1.trans t2) (hs2.drop (hde s1))
    | stuck =>
      rw [e] at hm1
      exact hm1⟩) qe
theorem evnc_callP {mf : τ → Res Unit γ} {O : γ → OTy} {M : (τ → S → Res Unit δ) → Res Unit δ} {De : Unit → Own} {sp : Sp} (hsp : ∀ vs H Q X, spP K args mf (fun r => .new (O r)) vs H Q X → sp vs H Q X) (h : EvAC K (fun _ => Xk) De t G Dd s M args) (hde : ∀ s, (De ()).Sublist (Dd s)) :
    EvNC K (fun _ => Xk) De (tCall sp [] Xk t) G Dd s (fun kk => M fun x s1 => Res.bind (mf x) fun z => kk z s1) O := fun kk σ H F hs ss o r Q hm q qe =>
  h _ σ H F hs ss o r _ hm (fun x s1 vs H1 F1 t1 hs1 r1 hm1 => hsp _ _ _ _ ⟨x, F1, Dd s1, hs1, by rw [List.append_nil]; exact r1, by
    rw [Res.sat_bind] at hm1
    exact Res.sat_mono hm1 (fun z hz p H2 F2 t2 hs2 => q z s1 p H2 F2 (t1.trans t2) hs2 hz) (fun n e he H2 F2 t2 hs2 => qe n e he H2 F2 (t1.trans t2) (hs2.drop (hde s1)))⟩) qe
/-- a call with a cell -/
theorem evc_callC {O : ω → OTy} {k : Nat} {a : Addr} {args : Addr → τ → List Ty} {mf : τ → ω → Res ω (γ × ω)} {R : γ → Ty} {Dd : ω → Own} {s : ω} {M : (τ → ω → Res ε δ) → Res ε δ} {sp : Sp} (hsp : ∀ vs H Q X, spC K O args mf (fun r => .ok (R r)) vs H Q X → sp vs H Q X) (g : ω → ε) (B : Bor1 Dd k a O) (h : EvAC K (fun _ => Xk) De t G Dd s M (args a)) (hde : ∀ s, (De (g s)).Sublist (Dd s)) :
    EvC K (fun _ => Xk) De (tCall sp [] Xk t) G Dd s (fun kk => M fun x s1 => Res.bind (Res.mapE g (mf x s1)) fun z => kk z.1 z.2) R := fun kk σ H F hs ss o r Q hm q qe =>
  h _ σ H F hs ss o r _ hm (fun x s1 vs H1 F1 t1 hs1 r1 hm1 => hsp _ _ _ _ ⟨x, s1, F1, Dd, k, a, B, hs1, by rw [List.append_nil]; exact r1, by
    cases e : mf x s1 with
    | ok z =>
      rw [e] at hm1
      exact fun v H2 F2 t2 hs2 r2 => q z.1 z.2 v H2 F2 (t1.trans t2) hs2 r2 hm1
    | err n u =>
      rw [e] at hm1
      exact fun H2 F2 t2 hs2 => qe n _ hm1 H2 F2 (t1.trans t2) (hs2.drop (hde u))
    | stuck =>
      rw [e] at hm1
      exact hm1⟩) qe
/-- .. the cell's state is what stands where it raises -/
theorem evc_callC0 {O : ω → OTy} {k : Nat} {a : Addr} {args : Addr → τ → List Ty} {mf : τ → ω → Res ω (γ × ω)} {R : γ → Ty} {Dd De : ω → Own} {s : ω} {M : (τ → ω → Res ω δ) → Res ω δ} {sp : Sp} (hsp : ∀ vs H Q X, spC K O args mf (fun r => .ok (R r)) vs H Q X → sp vs H Q X) (B : Bor1 Dd k a O) (h : EvAC K (fun _ => Xk) De t G Dd s M (args a)) (hde : ∀ s, (De s).Sublist (Dd s)) :
    EvC K (fun _ => Xk) De (tCall sp [] Xk t) G Dd s (fun kk => M fun x s1 => Res.bind (mf x s1) fun z => kk z.1 z.2) R := fun kk σ H F hs ss o r Q hm q qe =>
  h _ σ H F hs ss o r _ hm (fun x s1 vs H1 F1 t1 hs1 r1 hm1 => hsp _ _ _ _ ⟨x, s1, F1, Dd, k, a, B, hs1, by rw [List.append_nil]; exact r1, by
    rw [Res.sat_bind] at hm1
    exact Res.sat_mono hm1 (fun z hz v H2 F2 t2 hs2 r2 => q z.1 z.2 v H2 F2 (t1.trans t2) hs2 r2 hz) (fun n e he H2 F2 t2 hs2 => qe n e he H2 F2 (t1.trans t2) (hs2.drop (hde e)))⟩) qe
theorem evnc_callC {O : ω → OTy} {k : Nat} {a : Addr} {args : Addr → τ → List Ty} {mf : τ → ω → Res ω (γ × ω)} {O' : γ → OTy} {Dd : ω → Own} {s : ω} {M : (τ → ω → Res ε δ) → Res ε δ} {sp : Sp} (hsp : ∀ vs H Q X, spC K O args mf (fun r => .new (O' r)) vs H Q X → sp vs H Q X) (g : ω → ε) (B : Bor1 Dd k a O) (h : EvAC K (fun _ => Xk) De t G Dd s M (args a)) (hde : ∀ s, (De (g s)).Sublist (Dd s)) :
    EvNC K (fun _ => Xk) De (tCall sp [] Xk t) G Dd s (fun kk => M fun x s1 => Res.bind (Res.mapE g (mf x s1)) fun z => kk z.1 z.2) O' := fun kk σ H F hs ss o r Q hm q qe =>
  h _ σ H F hs ss o r _ hm (fun x s1 vs H1 F1 t1 hs1 r1 hm1 => hsp _ _ _ _ ⟨x, s1, F1, Dd, k, a, B, hs1, by rw [List.append_nil]; exact r1, by
    cases e : mf x s1 with
    | ok z =>
      rw [e] at hm1
      exact fun p H2 F2 t2 hs2 => q z.1 z.2 p H2 F2 (t1.trans t2) hs2 hm1
    | err n u =>
      rw [e] at hm1
      exact fun H2 F2 t2 hs2 => qe n _ hm1 H2 F2 (t1.trans t2) (hs2.drop (hde u))
    | stuck =>
      rw [e] at hm1
      exact hm1⟩) qe
theorem evnc_callC0 {O : ω → OTy} {k : Nat} {a : Addr} {args : Addr → τ → List Ty} {mf : τ → ω → Res ω (γ × ω)} {O' : γ → OTy} {Dd De : ω → Own} {s : ω} {M : (τ → ω → Res ω δ) → Res ω δ} {sp : Sp} (hsp : ∀ vs H Q X, spC K O args mf (fun r => .new (O' r)) vs H Q X → sp vs H Q X) (B : Bor1 Dd k a O) (h : EvAC K (fun _ => Xk) De t G Dd s M (args a)) (hde : ∀ s, (De s).Sublist (Dd s)) :
    EvNC K (fun _ => Xk) De (tCall sp [] Xk t) G Dd s (fun kk => M fun x s1 => Res.bind (mf x s1) fun z => kk z.1 z.2) O' := fun kk σ H F hs ss o r Q hm q qe =>
  h _ σ H F hs ss o r _ hm (fun x s1 vs H1 F1 t1 hs1 r1 hm1 => hsp _ _ _ _ ⟨x, s1, F1, Dd, k, a, B, hs1, by rw [List.append_nil]; exact r1, by
    rw [Res.sat_bind] at hm1
    exact Res.sat_mono hm1 (fun z hz p H2 F2 t2 hs2 => q z.1 z.2 p H2 F2 (t1.trans t2) hs2 hz) (fun n e he H2 F2 t2 hs2 => qe n e he H2 F2 (t1.trans t2) (hs2.drop (hde e)))⟩) qe
/-! ## what is new and at once stands -/
theorem evc_frzL {e : α → PyData} {M : (List α → S → Res ε δ) → Res ε δ} {X : L2.St → XK} (h : EvNC K X De te G Dd s M (OLT (tD K e))) : EvC K X De te G Dd s M (tD K (eL e)) := fun kk σ H F hs ss o r Q hm q qe =>
  h kk σ H F hs ss o r Q hm (fun xs s1 p H1 F1 t1 hs1 hm1 => by
    obtain ⟨u, ⟨vs, rfl, hx⟩, hs2, t2⟩ := hs1.freeze (k := 0) rfl
    exact q xs s1 _ H1 _ (t1.trans t2) hs2 (.lst (SqL.of upd_same) (dpAll_mono t2 _ vs (allP_map hx))) hm1) qe
theorem evc_frzLT {R : α → Ty} {M : (List α → S → Res ε δ) → Res ε δ} {X : L2.St → XK} (h : EvNC K X De te G Dd s M (OLT R)) : EvC K X De te G Dd s M (LT K R) := fun kk σ H F hs ss o r Q hm q qe =>
  h kk σ H F hs ss o r Q hm (fun xs s1 p H1 F1 t1 hs1 hm1 => by
    obtain ⟨u, ⟨vs, rfl, hx⟩, hs2, t2⟩ := hs1.freeze (k := 0) rfl
    exact q xs s1 _ H1 _ (t1.trans t2) hs2 ⟨p, vs, rfl, SqL.of upd_same, hx.mono t2⟩ hm1) qe
/-- an owned list, held by the slot i, stands from now on -/
theorem go_frzL {P : L2.St → Hp → Prop} {k i : Nat} {a : Addr} {e : α → PyData} {xs : List α} (hk : D0[k]? = some (a, OLT (tD K e) xs)) (hi : G[i]? = some (some (Is (.ref a)))) (h : Go P F0 (G.set i (some (tD K (eL e) xs))) (D0.eraseIdx k)) : Go P F0 G D0 := fun σ H F s hs ss => by
  obtain ⟨o, ⟨vs, e0, hx⟩, hs2, s2⟩ := hs.freeze hk
  subst e0
  obtain ⟨v, e1, e2⟩ := ss.get hi
  have ev : v = .ref a := e2
  subst ev
  have z := (ss.mono s2).set (R := tD K (eL e) xs) (v := .ref a) (.lst (SqL.of upd_same) (dpAll_mono s2 _ vs (allP_map hx))) i
  have same : σ.set i (some (.ref a)) = σ := by
    refine List.ext_getElem? fun j => ?_
    by_cases q : j = i
    · subst q
      have lt : j < σ.length := (List.getElem?_eq_some_iff.mp e1).1
      rw [List.getElem?_set_self lt, e1]
    · rw [List.getElem?_set_ne (Ne.symm q)]
  rw [same] at z
  exact h σ H _ (s.trans s2) hs2 z
/-! list displays -/
theorem evnc_lst0 {R : α → Ty} {X : L2.St → XK} : EvNC (β := δ) K X De (tLst tNil) G Dd s (fun kk => kk [] s) (OLT R) := fun kk σ H F hs ss o r Q hm q qe =>
  ⟨Nat.zero_le _, fun p hp => q [] s p _ F (Same.refl _) (hs.new hp ⟨[], rfl, .nil⟩) hm⟩
/-- the items of a display, all of one kind -/
def EvAL (K : PySem.W.Frag) {ε α β S : Type} (X : L2.St → XK) (De : ε → Own) (ta : TA) (G : Sto) (Dd : S → Own) (s : S) (n : Nat) (M : (List α → S → Res ε β) → Res ε β) (R : α → Ty) : Prop :=
  ∀ (kk : List α → S → Res ε β) (σ : L2.St) (H F : Hp), HS (Dd s) H F → SS F G σ → ∀ (o : β → Prop) (r : Str → ε → Prop) (Q : List V → Hp → Prop), (M kk).sat o r →
    (∀ x s' vs H' F', x.length = n → Same F F' → HS (Dd s') H' F' → AllP F' (x.map R) vs → (kk x s').sat o r → Q vs H') → (∀ n e, r n e → ∀ H' F', Same F F' → HS (De e) H' F' → X σ (.ref (He.ga K n)) none H') → ta σ H Q
theorem eval_nil {R : α → Ty} {X : L2.St → XK} : EvAL (β := δ) K X De tNil G Dd s 0 (fun kk => kk [] s) R := fun kk σ H F hs ss o r Q hm q _ => q [] s [] H F rfl (Same.refl _) hs .nil hm
theorem eval_cons {tr : TA} {R : α → Ty} {X : L2.St → XK} {n : Nat} {Ma : (α → S → Res ε β) → Res ε β} {Mr : S → (List α → S → Res ε β) → Res ε β}
    (h : EvC K X De te G Dd s Ma R) (hr : ∀ s1, EvAL K X De tr G Dd s1 n (Mr s1) R) : EvAL K X De (tCons te tr) G Dd s (n + 1) (fun kk => Ma fun a s1 => Mr s1 fun t s2 => kk (a :: t) s2) R := fun kk σ H F hs ss o r Q hm q qe =>
  h _ σ H F hs ss o r _ hm (fun a s1 v H1 F1 t1 hs1 r1 hm1 => hr s1 _ σ H1 F1 hs1 (ss.mono t1) o r _ hm1
    (fun t s2 vs H2 F2 l2 t2 hs2 r2 hm2 => q (a :: t) s2 _ H2 F2 (by rw [List.length_cons, l2]) (t1.trans t2) hs2 (.cons ((R a).mono t2 r1) r2) hm2) (fun n e h H2 F2 t2 => qe n e h H2 F2 (t1.trans t2))) (fun n e h H1 F1 t1 => qe n e h H1 F1 t1)
theorem evnc_lst {R : α → Ty} {X : L2.St → XK} {n : Nat} {M : (List α → S → Res ε β) → Res ε β} (h : EvAL K X De t G Dd s n M R) (hn : n ≤ 100000 := by decide) : EvNC K X De (tLst t) G Dd s M (OLT R) := fun kk σ H F hs ss o r Q hm q qe =>
  h _ σ H F hs ss o r _ hm (fun xs s1 vs H1 F1 l1 t1 hs1 r1 hm1 =>
    ⟨by rw [r1.len, List.length_map, l1]; exact Nat.le_trans hn sizeLine_big, fun p hp => q xs s1 p _ F1 t1 (hs1.new hp ⟨vs, rfl, r1⟩) hm1⟩) qe
/-! ## comprehensions -/
def _root_.Res.lc {ε α β σ : Type} (body : α → σ → Res ε (Option β × σ)) : List α → σ → Res ε (List β × σ)
  | [], s => .ok ([], s)
  | x :: xs, s => Res.bind (body x s) fun t => Res.bind (Res.lc body xs t.2) fun u => .ok ((match t.1 with
    | some y => y :: u.1
    | none => u.1), u.2)
/-- what a turn leaves of the list made so far -/
def lcAcc {β : Type} (acc : List β) (o : Option β) : List β := match o with
  | some y => acc ++ [y]
  | none => acc
theorem lc_split {body : α → S → Res Unit (Option β × S)} : ∀ (xs : List α) (s : S) (acc : List β) (o : List β × S → Prop), (Res.lc body xs s).sat (fun z => o (acc ++ z.1, z.2)) (fun _ _ => False) → ∀ x ys, xs = x :: ys →
    (body x s).sat (fun t => (Res.lc body ys t.2).sat (fun z => o (lcAcc acc t.1 ++ z.1, z.2)) (fun _ _ => False)) (fun _ _ => False) := fun xs s acc o h x ys e => by
  subst e
  unfold Res.lc at h
  rw [Res.sat_bind] at h
  refine Res.sat_mono h (fun t ht => ?_) (fun _ _ z => z)
  rw [Res.sat_bind] at ht
  refine Res.sat_mono ht (fun z hz => ?_) (fun _ _ z => z)
  unfold lcAcc
  cases e : t.1 with
  | some y =>
    have hz' : o (acc ++ (match t.1 with
      | some y => y :: z.1
      | none => z.1), z.2) := hz
    rw [e] at hz'
    rw [List.append_assoc]
    exact hz'
  | none =>
    have hz' : o (acc ++ (match t.1 with
      | some y => y :: z.1
      | none => z.1), z.2) := hz
    rw [e] at hz'
    exact hz'
theorem evnc_lc {wi : TI} {g : TG} {vs : List Nat} {cnd : Own → Prop} {R : α → Ty} {Re : β → Ty} {X : L2.St → XK} {M : (List α → S → Res ε δ) → Res ε δ} {G1 : α → Sto}
    {Mt : α → S → (Bool → S → Res Unit (Option β × S)) → Res Unit (Option β × S)} {Mb : α → S → (β → S → Res Unit (Option β × S)) → Res Unit (Option β × S)}
    (hi : EvItC K X De wi G Dd s cnd M R) (hg : ∀ x, EvW g vs (wipeG G vs) (R x) (G1 x)) (cm : ∀ s c, cnd (c :: Dd s))
    (ht : ∀ x s1 (c : Addr × OTy), EvTC K (fun _ => E0) (fun _ : Unit => []) tt (G1 x) (fun s => c :: Dd s) s1 (Mt x s1))
    (hb : ∀ x s1 (c : Addr × OTy), EvC K (fun _ => E0) (fun _ : Unit => []) te (G1 x) (fun s => c :: Dd s) s1 (Mb x s1) Re) :
    EvNC K X De (tLc wi g tt te vs) G Dd s (fun kk => M fun xs s1 => Res.bind (Res.grd (xs.length ≤ 100000) xs) fun xs => Res.bind (Res.calm (Res.lc (fun x s1 => Mt x s1 fun b s2 => if b = true then Mb x s2 fun y s3 => .ok (some y, s3) else .ok (none, s2)) xs s1)) fun z => kk z.1 z.2) (OLT Re) := fun kk σ H F hs ss o r Q hm q qe =>
  hi _ σ H F hs ss o r _ hm (fun xs s1 J H1 F1 t1 hs1 ok hm1 Dl hDl => by
    obtain ⟨hl, hm2⟩ := Res.sat_grd hm1
    generalize hbody : (fun x s1 => Mt x s1 fun b s2 => if b = true then Mb x s2 fun y s3 => Res.ok (some y, s3) else Res.ok (none, s2)) = body at hm2
    have hm3 : (Res.lc body xs s1).sat (fun z => (kk z.1 z.2).sat o r) (fun _ _ => False) := by
      cases e : Res.lc body xs s1 with
      | ok z => rw [e] at hm2; exact hm2
      | err n u => rw [e] at hm2; exact hm2
      | stuck => rw [e] at hm2; exact hm2
    refine ⟨fun i m H => m = xs.length - i ∧ i ≤ xs.length ∧ ∃ (x : S) (acc : List β) (F2 : Hp), acc.length ≤ i ∧ (Res.lc body (xs.drop i) x).sat (fun z => (kk (acc ++ z.1) z.2).sat o r) (fun _ _ => False) ∧ Same F1 F2 ∧ HS ((Dl, OLT Re acc) :: Dd x) H F2,
      ⟨xs.length, by simp, Nat.zero_le _, s1, [], F1, Nat.le_refl _, hm3, Same.refl _, hs1.new hDl ⟨[], rfl, .nil⟩⟩, ?_⟩
    rintro i m H2 ⟨rfl, hle, x, acc, F2, la, hx, t2, hs2⟩
    by_cases hlt : i < xs.length
    · obtain ⟨go, yl⟩ := (ok _ H2 F2 (cm x _) t2 hs2 i).1 (R xs[i]) (by rw [List.getElem?_map, List.getElem?_eq_getElem hlt]; rfl)
      have hx2 := lc_split (xs.drop i) x acc (fun z => (kk z.1 z.2).sat o r) hx _ _ (List.drop_eq_getElem_cons hlt)
      refine .inr ⟨go, fun H' => ∃ (x : S) (acc : List β) (F2 : Hp), acc.length ≤ i + 1 ∧ (Res.lc body (xs.drop (i + 1)) x).sat (fun z => (kk (acc ++ z.1) z.2).sat o r) (fun _ _ => False) ∧ Same F1 F2 ∧ HS ((Dl, OLT Re acc) :: Dd x) H' F2, fun H' p => ⟨xs.length - (i + 1), by omega, rfl, hlt, p⟩, fun v H3 hy => ?_⟩
      obtain ⟨F3, t3, hs3, r3⟩ := yl v H3 hy
      have ss3 : SS F3 (wipeG G vs) (L2.wipe σ vs) := ((ss.mono t1).mono (t2.trans t3)).wipe vs
      refine hg xs[i] v σ (L2.wipe σ vs) H3 F3 _ hs3 ss3 (wipe_wipe σ vs) r3 _ fun σ' ss' w' => ⟨w', ?_⟩
      rw [← hbody] at hx2
      refine ht xs[i] x (Dl, OLT Re acc) _ σ' H3 F3 hs3 ss' _ _ _ hx2 (fun b s2 H4 F4 t4 hs4 hm4 => ?_) (fun n e h => h.elim)
      cases b with
      | true =>
        refine hb xs[i] s2 (Dl, OLT Re acc) _ σ' H4 F4 hs4 (ss'.mono t4) _ _ _ hm4 (fun y s5 u H5 F5 t5 hs5 r5 hm5 => ?_) (fun n e h => h.elim)
        obtain ⟨o5, ho, ws, rfl, hxs⟩ := hs5.at (k := 0) rfl
        have l5 := hxs.len
        rw [List.length_map] at l5
        refine ⟨ws, ho, by rw [l5]; exact Nat.lt_of_lt_of_le (Nat.lt_of_le_of_lt la (Nat.lt_of_lt_of_le hlt hl)) sizeLine_big, s5, acc ++ [y], F5, by simp; omega, by rw [hbody] at hm5; exact hm5, ((t2.trans t3).trans t4).trans t5, ?_⟩
        exact hs5.put (k := 0) (O' := OLT Re (acc ++ [y])) rfl ⟨_, rfl, by rw [List.map_append]; exact hxs.append (.cons r5 .nil)⟩
      | false =>
        exact ⟨s2, acc, F4, by omega, by rw [hbody] at hm4; exact hm4, (t2.trans t3).trans t4, hs4⟩
    · have e : i = xs.length := by omega
      subst e
      rw [List.drop_length] at hx
      have hx' : (kk (acc ++ []) x).sat o r := hx
      rw [List.append_nil] at hx'
      exact .inl ⟨(ok _ H2 F2 (cm x _) t2 hs2 _).2 (by simp), q acc x Dl H2 F2 (t1.trans t2) hs2 hx'⟩) qe
theorem evnc_lc0 {wi : TI} {g : TG} {vs : List Nat} {cnd : Own → Prop} {R : α → Ty} {Re : β → Ty} {X : L2.St → XK} {M : (List α → S → Res ε δ) → Res ε δ} {G1 : α → Sto}
    {Mb : α → S → (β → S → Res Unit (Option β × S)) → Res Unit (Option β × S)}
    (hi : EvItC K X De wi G Dd s cnd M R) (hg : ∀ x, EvW g vs (wipeG G vs) (R x) (G1 x)) (cm : ∀ s c, cnd (c :: Dd s))
    (hb : ∀ x s1 (c : Addr × OTy), EvC K (fun _ => E0) (fun _ : Unit => []) te (G1 x) (fun s => c :: Dd s) s1 (Mb x s1) Re) :
    EvNC K X De (tLc wi g tYes te vs) G Dd s (fun kk => M fun xs s1 => Res.bind (Res.grd (xs.length ≤ 100000) xs) fun xs => Res.bind (Res.calm (Res.lc (fun x s1 => Mb x s1 fun y s3 => .ok (some y, s3)) xs s1)) fun z => kk z.1 z.2) (OLT Re) :=
  evnc_lc (Mt := fun x s1 kk => kk true s1) hi hg cm (fun x s1 c => evtc_of evT_yes) hb
theorem evtc_yes {X : L2.St → XK} : EvTC (β := δ) K X De tYes G Dd s (fun kk => kk true s) := evtc_of evT_yes
/-! ## what is walked -/
theorem allP_get {F : Hp} {Rs : List Ty} {vs : List V} (h : AllP F Rs vs) {i : Nat} {R : Ty} (e : Rs[i]? = some R) : ∃ v, vs[i]? = some v ∧ R.p v F := h.get e
theorem evItc_LT {R : α → Ty} {R0 : List α → Ty} {X : L2.St → XK} {M : (List α → S → Res ε δ) → Res ε δ} (h : EvC K X De te G Dd s M R0) (f : ∀ xs v F, (R0 xs).p v F → ∃ a vs, v = .ref a ∧ SqL K F a vs ∧ AllP F (xs.map R) vs) : EvItC K X De (iSeq K te) G Dd s (fun _ => True) M R := fun kk σ H F hs ss o r Q hm q qe =>
  .inl (h kk σ H F hs ss o r _ hm (fun xs s1 v H1 F1 t1 hs1 r1 hm1 => by
    obtain ⟨a, vs, rfl, h1, h2⟩ := f xs v F1 r1
    refine ⟨a, rfl, ⟨vs, sqL_up hs1 h1⟩, q xs s1 _ H1 F1 t1 hs1 (fun D H2 F2 _ s2 hs2 i => ⟨fun R' hR => ?_, fun hl => ?_⟩) hm1⟩
    · obtain ⟨v, e1, e2⟩ := h2.get hR
      have sq : SqL K H2 a vs := sqL_up hs2 (s2.seq h1)
      refine ⟨⟨vs, v, sq, e1⟩, fun x H' hy => ?_⟩
      obtain ⟨e3, e4⟩ := hy
      subst e3
      have e5 := e4 vs sq
      rw [e1] at e5
      cases e5
      exact ⟨F2, Same.refl _, hs2, R'.mono s2 e2⟩
    · exact ⟨vs, sqL_up hs2 (s2.seq h1), by rw [h2.len]; exact hl⟩) qe)
theorem evItc_VT {R : α → Ty} {R0 : List α → Ty} {X : L2.St → XK} {M : (List α → S → Res ε δ) → Res ε δ} (h : EvC K X De te G Dd s M R0) (f : ∀ xs v F, (R0 xs).p v F → ∃ a vs, v = .ref a ∧ SqT K F a vs ∧ AllP F (xs.map R) vs) : EvItC K X De (iSeq K te) G Dd s (fun _ => True) M R := fun kk σ H F hs ss o r Q hm q qe =>
  .inr (.inl (h kk σ H F hs ss o r _ hm (fun xs s1 v H1 F1 t1 hs1 r1 hm1 => by
    obtain ⟨a, vs, rfl, h1, h2⟩ := f xs v F1 r1
    refine ⟨a, rfl, ⟨vs, sqT_up hs1 h1⟩, q xs s1 _ H1 F1 t1 hs1 (fun D H2 F2 _ s2 hs2 i => ⟨fun R' hR => ?_, fun hl => ?_⟩) hm1⟩
    · obtain ⟨v, e1, e2⟩ := h2.get hR
      have sq : SqT K H2 a vs := sqT_up hs2 (same_sqT s2 h1)
      refine ⟨⟨vs, v, sq, e1⟩, fun x H' hy => ?_⟩
      obtain ⟨e3, e4⟩ := hy
      subst e3
      have e5 := e4 vs sq
      rw [e1] at e5
      cases e5
      exact ⟨F2, Same.refl _, hs2, R'.mono s2 e2⟩
    · exact ⟨vs, sqT_up hs2 (same_sqT s2 h1), by rw [h2.len]; exact hl⟩) qe))
theorem evItc_L {e : α → PyData} {X : L2.St → XK} {M : (List α → S → Res ε δ) → Res ε δ} (h : EvC K X De te G Dd s M (tD K (eL e))) : EvItC K X De (iSeq K te) G Dd s (fun _ => True) M (tD K e) :=
  evItc_LT h fun xs v F r => let ⟨a, vs, h0, h1, h2⟩ := dp_lst r; ⟨a, vs, h0, h1, map_allP h2⟩
theorem evItc_V {e : α → PyData} {X : L2.St → XK} {M : (List α → S → Res ε δ) → Res ε δ} (h : EvC K X De te G Dd s M (tD K (eV e))) : EvItC K X De (iSeq K te) G Dd s (fun _ => True) M (tD K e) :=
  evItc_VT h fun xs v F r => let ⟨a, vs, h0, h1, h2⟩ := dp_tup r; ⟨a, vs, h0, h1, map_allP h2⟩
def rangeL (lo : Int) (n : Nat) : List Int := (List.range n).map fun i : Nat => lo + (i : Int)
theorem itr_okT {lo : Int} {n : Nat} {F : Hp} : ItOkT (Itr lo n) (fun _ => True) ((rangeL lo n).map (tD K eI)) F := by
  have h := itOkT_of (K := K) (itr_ok (K := K) (lo := lo) (n := n) (F := F))
  have e : (rangeD lo n).map (TL.D K) = (rangeL lo n).map (tD K eI) := by
    unfold rangeD rangeL
    rw [List.map_map, List.map_map]
    rfl
  rw [e] at h
  exact h
theorem evItc_rng1 {X : L2.St → XK} {M : (Int → S → Res ε δ) → Res ε δ} (h : EvC K X De te G Dd s M (tD K eI)) :
    EvItC K X De (iRng1 (tCons te tNil)) G Dd s (fun _ => True) (fun kk => M fun n s1 => Res.bind (Res.grd (-(2 ^ 62) ≤ n ∧ n < 2 ^ 62) (rangeL 0 n.toNat)) fun xs => kk xs s1) (tD K eI) := fun kk σ H F hs ss o r Q hm q qe =>
  h _ σ H F hs ss o r _ hm (fun n s1 v H1 F1 t1 hs1 r1 hm1 => by
    obtain ⟨hn, hm2⟩ := Res.sat_grd hm1
    exact ⟨n, by rw [dp_int r1], hn.1, hn.2, q _ s1 _ H1 F1 t1 hs1 itr_okT hm2⟩) qe
theorem evItc_rng2 {X : L2.St → XK} {Ma : (Int → S → Res ε δ) → Res ε δ} {Mb : S → (Int → S → Res ε δ) → Res ε δ} (ha : EvC K X De ta G Dd s Ma (tD K eI)) (hb : ∀ s1, EvC K X De tb G Dd s1 (Mb s1) (tD K eI)) :
    EvItC K X De (iRng2 (tCons ta (tCons tb tNil))) G Dd s (fun _ => True) (fun kk => Ma fun lo s1 => Mb s1 fun n s2 => Res.bind (Res.grd (-(2 ^ 62) ≤ lo ∧ lo < 2 ^ 62 ∧ -(2 ^ 62) ≤ n ∧ n < 2 ^ 62) (rangeL lo (n - lo).toNat)) fun xs => kk xs s2) (tD K eI) := fun kk σ H F hs ss o r Q hm q qe =>
  ha _ σ H F hs ss o r _ hm (fun lo s1 v H1 F1 t1 hs1 r1 hm1 => hb s1 _ σ H1 F1 hs1 (ss.mono t1) o r _ hm1 (fun n s2 u H2 F2 t2 hs2 r2 hm2 => by
    obtain ⟨hn, hm3⟩ := Res.sat_grd hm2
    exact ⟨lo, n, by rw [dp_int r1, dp_int r2], hn, q _ s2 _ H2 F2 (t1.trans t2) hs2 itr_okT hm3⟩) (fun n e h H2 F2 t2 => qe n e h H2 F2 (t1.trans t2))) qe
/-! ## owned lists changed -/
theorem go_appC {R : α → Ty} {xs : List α} {k : Nat} {a : Addr} {M : (α → S → Res ε ρ) → Res ε ρ} {kk : List α × S → Res ε ρ} (ho : G[n]? = some (some (Is (.ref a)))) (h : EvC K w.X w.De te G Dd s M R) (hk : ∀ s, (Dd s)[k]? = some (a, OLT R xs))
    {m : Res ε ρ} (hP : w.W F0 m) (q : ∀ x, w.W F0 (kk x) → Go E.nx F0 G ((Dd x.2).set k (a, OLT R x.1))) (c : w.cond G := by first | exact trivial | walk_at "cond") (hm : m = (M fun v s' => Res.bind (Res.grd (xs.length < 100000) (xs ++ [v], s')) kk) := by exact rfl) : Go (tDrop (tBM K "list" rAppend (tVar n) (tCons te tNil)) E) F0 G (Dd s) := by subst hm; exact (fun σ H F t hs ss => by
  obtain ⟨v0, e0, r0⟩ := ss.get ho
  have r0' : v0 = .ref a := r0
  subst r0'
  obtain ⟨o1, ho1, xs1, rfl, h21⟩ := hs.at (hk s)
  refine ⟨_, e0, .inl ⟨rfl, xs1, SqL.of ho1⟩, h _ σ H F hs ss _ _ _ hP (fun x s' v H1 F1 t1 hs1 r1 hm => ?_) (fun n e hr H1 F1 t1 hs1 => w.err hr c σ H1 F1 (t.trans t1) hs1 (ss.mono t1))⟩
  obtain ⟨hl, hm2⟩ := Res.sat_grd hm
  obtain ⟨o, ho, vs, rfl, h2⟩ := hs1.at (hk s')
  have l2 := h2.len
  rw [List.length_map] at l2
  refine ⟨a, vs, v, rfl, rfl, ho, by rw [l2]; exact Nat.lt_of_lt_of_le hl sizeLine_big, ?_⟩
  exact q (xs ++ [x], s') hm2 σ _ F1 (t.trans t1) (hs1.put (hk s') ⟨_, rfl, by rw [List.map_append]; exact h2.append (.cons r1 .nil)⟩) (ss.mono t1))
theorem allP_set {F : Hp} {R : α → Ty} {v : V} {x : α} (hv : (R x).p v F) : ∀ {xs : List α} {vs : List V}, AllP F (xs.map R) vs → ∀ i, AllP F ((xs.set i x).map R) (vs.set i v)
  | [], _, h, i => by cases h; exact .nil
  | y :: xs, _, h, i => by
    cases h with
    | cons h1 h2 =>
      cases i with
      | zero => exact .cons hv h2
      | succ i => exact .cons h1 (allP_set hv h2 i)
/-- xs[i] = e -/
theorem go_setO1 {R : α → Ty} {xs : List α} {k : Nat} {a : Addr} {Ma : (α → S → Res ε ρ) → Res ε ρ} {Mi : S → (Int → S → Res ε ρ) → Res ε ρ} {kk : List α × S → Res ε ρ} (ho : G[n]? = some (some (Is (.ref a)))) (h : EvC K w.X w.De te G Dd s Ma R) (hi : ∀ s1, EvC K w.X w.De tb G Dd s1 (Mi s1) (tD K eI)) (hk : ∀ s, (Dd s)[k]? = some (a, OLT R xs))
    {m : Res ε ρ} (hP : w.W F0 m) (q : ∀ x, w.W F0 (kk x) → Go E.nx F0 G ((Dd x.2).set k (a, OLT R x.1))) (c : w.cond G := by first | exact trivial | walk_at "cond") (hm : m = (Ma fun v s1 => Mi s1 fun i s2 => Res.bind (Res.opt (ixN xs.length i)) fun j => Res.bind (.ok (xs.set j v, s2)) kk) := by exact rfl) : Go (tAsg te (gSub (tVar n) tb rSetL) E) F0 G (Dd s) := by subst hm; exact (fun σ H F t hs ss =>
  h _ σ H F hs ss _ _ _ hP (fun x s1 v H1 F1 t1 hs1 r1 hm => by
    obtain ⟨v0, e0, r0⟩ := ss.get ho
    have r0' : v0 = .ref a := r0
    subst r0'
    refine ⟨_, e0, hi s1 _ σ H1 F1 hs1 (ss.mono t1) _ _ _ hm (fun i s2 u H2 F2 t2 hs2 r2 hm2 => ?_) (fun n e hr H2 F2 t2 hs2 => w.err hr c σ H2 F2 ((t.trans t1).trans t2) hs2 ((ss.mono t1).mono t2))⟩
    obtain ⟨j, ej, hm3⟩ := Res.sat_opt hm2
    obtain ⟨o, ho, vs, rfl, h2⟩ := hs2.at (hk s2)
    have l2 := h2.len
    rw [List.length_map] at l2
    refine ⟨a, vs, i, j, rfl, dp_int r2, ho, by rw [l2]; exact ej, ?_⟩
    exact q (xs.set j x, s2) hm3 σ _ F2 ((t.trans t1).trans t2) (hs2.put (hk s2) ⟨_, rfl, allP_set ((R x).mono t2 r1) h2 j⟩) ((ss.mono t1).mono t2)) (fun n e hr H1 F1 t1 hs1 => w.err hr c σ H1 F1 (t.trans t1) hs1 (ss.mono t1)))
/-! ## from a promise to the walk -/
theorem pure_ofP {args : τ → List Ty} {mf : τ → Res Unit γ} {out : γ → Out} {N : List Str} {tf : TS} {vs : List V} {H : Hp} {Q : VK} {X : XK}
    (walk : ∀ (x : τ) (F : Hp) (D : Own) (E : Ends), E.rt = Q → (∀ (K : PySem.W.Frag) G D1, GoV Q F (DN K) D1 → Go E.nx F G D1) → (dwish K X Q out (fun _ => D) (fun _ : Unit => D)).W F (mf x) → Go (tf E) F ((args x).map some ++ List.replicate (N.length - (args x).length) none) D)
    (h : spP K args mf out vs H Q X) : tf { nx := fun _ H' => Q .non H', rt := Q } (L2.start N vs) H := by
  obtain ⟨x, F, D, hs, ha, hp⟩ := h
  have z := SS.start (N := N) ha
  rw [ha.len] at z
  exact walk x F D { nx := fun _ H' => Q .non H', rt := Q } rfl (fun K G D1 k σ H F1 s hs ss => k _ H F1 s hs .non) hp _ H F (Same.refl _) hs z
theorem pure_ofC {O : ω → OTy} {args : Addr → τ → List Ty} {mf : τ → ω → Res ω (γ × ω)} {out : γ → Out} {N : List Str} {tf : TS} {vs : List V} {H : Hp} {Q : VK} {X : XK}
    (walk : ∀ (x : τ) (y : ω) (F : Hp) (Dp : ω → Own) (k : Nat) (a : Addr) (E : Ends), Bor1 Dp k a O → E.rt = Q → (∀ (K : PySem.W.Frag) G D1, GoV Q F (DN K) D1 → Go E.nx F G D1) → (dwish K X Q (fun r : γ × ω => out r.1) (fun r => Dp r.2) Dp).W F (mf x y) →
      Go (tf E) F ((args a x).map some ++ List.replicate (N.length - (args a x).length) none) (Dp y))
    (h : spC K O args mf out vs H Q X) : tf { nx := fun _ H' => Q .non H', rt := Q } (L2.start N vs) H := by
  obtain ⟨x, y, F, Dp, k, a, B, hs, ha, hp⟩ := h
  have z := SS.start (N := N) ha
  rw [ha.len] at z
  exact walk x y F Dp k a { nx := fun _ H' => Q .non H', rt := Q } B rfl (fun K G D1 k σ H F1 s hs ss => k _ H F1 s hs .non) hp _ H F (Same.refl _) hs z
/-- the law itself -/
theorem pure_ofLaw {N : List Str} {tf : TS} {mf : List Int → Res Unit Bool} (htrue : ∀ ns : List Int, ns.length ≤ 63 → mf ns = .ok true) {vs : List V} {H : Hp} {Q : VK} {X : XK}
    (walk : ∀ (x : List Int) (F : Hp) (D : Own) (E : Ends), E.rt = Q → (∀ (K : PySem.W.Frag) G D1, GoV Q F (DN K) D1 → Go E.nx F G D1) → (dwish K X Q (fun r : Bool => .ok (tD K eB r)) (fun _ => D) (fun _ : Unit => D)).W F (mf x) → Go (tf E) F (some (tD K (eL eI) x) :: List.replicate (N.length - 1) none) D)
    (h : lawSp K vs H Q X) : tf { nx := fun _ H' => Q .non H', rt := Q } (L2.start N vs) H := by
  obtain ⟨x, F, D, hs, ha, hl, hp⟩ := h
  have z := SS.start (N := N) ha
  rw [ha.len] at z
  refine walk x F D { nx := fun _ H' => Q .non H', rt := Q } rfl (fun K G D1 k σ H F1 s hs ss => k _ H F1 s hs .non) ?_ _ H F (Same.refl _) hs z
  rw [htrue x hl]
  exact hp
theorem spP_len {args : τ → List Ty} {mf : τ → Res Unit γ} {out : γ → Out} {n : Nat} (e : ∀ x, (args x).length = n) : ∀ vs H Q E, spP K args mf out vs H Q E → vs.length = n := fun vs H Q E ⟨x, F, D, _, ha, _⟩ => by rw [ha.len, e]
theorem spC_len {O : ω → OTy} {args : Addr → τ → List Ty} {mf : τ → ω → Res ω (γ × ω)} {out : γ → Out} {n : Nat} (e : ∀ a x, (args a x).length = n) : ∀ vs H Q E, spC K O args mf out vs H Q E → vs.length = n := fun vs H Q E ⟨x, y, F, D, k, a, _, _, ha, _⟩ => by rw [ha.len, e]
end
end TL

end
section
set_option Elab.async false
set_option linter.all false
set_option maxRecDepth 100000
set_option maxHeartbeats 1000000
namespace TL
open PySem PySem.Spec L2
/-! ## dicts: owned while they are filled, then they stand -/
def tFrz (t : TS) : TS := fun D σ H => ∃ d u, H d = some u ∧ Mut (some u) ∧ ∀ od, t D σ (upd H d (.frz od u))
theorem ps_frz {X : Cx} {st : Stmt} {t : TS} (h : PS X st t) : PS X st (tFrz t) := by
  refine ⟨fun pins s σ H D I hw => ?_⟩
  obtain ⟨d, u, hd, mu, hw⟩ := hw
  obtain ⟨od, I1⟩ := I.lock hd mu
  exact h.run pins s σ _ D I1 (hw od)
/-- what an expression gives stands from then on -/
def tFrzA (t : TE) : TE := fun σ H Q => t σ H fun v H1 => ∃ d u, H1 d = some u ∧ Mut (some u) ∧ ∀ od, Q v (upd H1 d (.frz od u))
theorem pe_frzA {X : Cx} {e : Expr} {t : TE} (h : PE X e t) : PE X e (tFrzA t) := by
  refine ⟨fun pins s σ H Q I hw => ?_⟩
  refine thn (h.run pins s σ H _ I hw) fun v s1 ⟨x, H1, I1, r, d, u, hd, mu, q⟩ => ?_
  obtain ⟨od, I2⟩ := I1.lock hd mu
  exact ⟨x, _, I2, r, q od⟩
abbrev mapK {α : Type} (e : α → PyData) (m : List (Tx × α)) : List (Str × PyData) := m.map fun x => (x.1.s, e x.2)
/-- an owned dict with text keys -/
abbrev OX (K : PySem.W.Frag) {α : Type} (e : α → PyData) (m : List (Tx × α)) : OTy := OD K (mapK e m)
/-- a dict that stands -/
def DZ (K : PySem.W.Frag) {α : Type} (e : α → PyData) (m : List (Tx × α)) : Ty := ⟨fun v F => ∃ a od kvs, v = .ref a ∧ F a = some (.frz od (.dK kvs)) ∧ EntP K F kvs (mapK e m), fun s ⟨a, od, kvs, h0, h1, h2⟩ => ⟨a, od, kvs, h0, s _ _ h1, h2.mono s⟩⟩
def dget {κ α : Type} [DecidableEq κ] (m : List (κ × α)) (k : κ) : Option α := (m.find? fun e => decide (e.1 = k)).map (·.2)
def dput {κ α : Type} [DecidableEq κ] (m : List (κ × α)) (k : κ) (d : α) : List (κ × α) :=
  if (m.any fun e => decide (e.1 = k)) = true then m.map (fun e => if e.1 = k then (e.1, d) else e) else m ++ [(k, d)]
theorem tx_eq {a b : Tx} : a.s = b.s ↔ a = b := ⟨Tx.ext', fun h => by rw [h]⟩
theorem getM_mapK {α : Type} {e : α → PyData} {k : Tx} : ∀ m : List (Tx × α), getM (mapK e m) k.s = (dget m k).map e
  | [] => rfl
  | x :: m => by
    have ih := getM_mapK (e := e) (k := k) m
    unfold getM dget at ih ⊢
    by_cases h : x.1 = k
    · have h' : x.1.s = k.s := by rw [h]
      simp [h]
    · have h' : ¬ x.1.s = k.s := fun z => h (Tx.ext' z)
      simp only [mapK, List.map_cons, List.find?_cons, h, h', decide_false] at ih ⊢
      exact ih
theorem putM_mapK {α : Type} {e : α → PyData} {k : Tx} {v : α} (m : List (Tx × α)) : putM (mapK e m) k.s (e v) = mapK e (dput m k v) := by
  unfold putM dput
  have h1 : ((mapK e m).any fun z => decide (z.1 = k.s)) = (m.any fun z => decide (z.1 = k)) := by
    induction m with
    | nil => rfl
    | cons x m ih =>
      simp only [mapK, List.map_cons, List.any_cons] at ih ⊢
      rw [ih]
      by_cases h : x.1 = k
      · simp [h]
      · have h' : ¬ x.1.s = k.s := fun z => h (Tx.ext' z)
        simp [h, h']
  rw [h1]
  split
  · simp only [mapK, List.map_map]
    refine List.map_congr_left fun x _ => ?_
    by_cases h : x.1 = k
    · simp [h]
    · have h' : ¬ x.1.s = k.s := fun z => h (Tx.ext' z)
      simp [h, h']
  · simp [mapK]
section
variable {K : PySem.W.Frag} {ε ε' ρ α β γ δ S τ τ' σt ω : Type} {X : L2.St → XK} {De : ε → Own} {G G1 G2 : Sto} {D0 : Own} {Dd : S → Own} {s : S} {te ta tb tc tx : TE} {tt tu : TT} {F0 F1 : Hp} {E : Ends} {w : Wish K ε ρ} {t : TA} {n : Nat}
/-- how a dict is read -/
def DView (K : PySem.W.Frag) (Dd : S → Own) (R : α → Ty) (f : α → List (Tx × β)) (e : β → PyData) : Prop := ∀ x s v H F, HS (Dd s) H F → (R x).p v F → ∃ a kvs, v = .ref a ∧ EntP K F kvs (mapK e (f x)) ∧ (H a = some (.dK kvs) ∨ ∃ od, H a = some (.frz od (.dK kvs)))
theorem dv_Z {e : β → PyData} : DView K Dd (DZ K e) id e := fun x s v H F hs ⟨a, od, kvs, h0, h1, h2⟩ => ⟨a, kvs, h0, h2, .inr ⟨od, hs.sub _ _ h1⟩⟩
theorem dv_O {e : β → PyData} {m : List (Tx × β)} {a : Addr} {k : Nat} (hk : ∀ s, (Dd s)[k]? = some (a, OX K e m)) : DView K Dd (fun _ : Unit => Is (.ref a)) (fun _ => m) e := fun x s v H F hs r => by
  obtain ⟨o, ho, kvs, rfl, h⟩ := hs.at (hk s)
  exact ⟨a, kvs, r, h, .inl ho⟩
theorem dget_at {H : Hp} {a : Addr} {kvs : List (L2.Key × V)} {x : Str} (h : H a = some (.dK kvs) ∨ ∃ od, H a = some (.frz od (.dK kvs))) : DGet H a (.str x) (valV kvs (Sum.inr x)) := by
  rcases h with h | ⟨od, h⟩
  · exact DGet.k (k := Sum.inr x) h
  · exact .inl ⟨kvs, Sum.inr x, .inr ⟨od, h⟩, rfl, rfl⟩
section
variable {R : α → Ty} {f : α → List (Tx × β)} {e : β → PyData} {Ma : (α → S → Res ε δ) → Res ε δ} {Mb : S → (Tx → S → Res ε δ) → Res ε δ}
theorem ent_at {F : Hp} {kvs : List (L2.Key × V)} {m : List (Tx × β)} (h : EntP K F kvs (mapK e m)) (k : Tx) : (dget m k = none ∧ valV kvs (Sum.inr k.s) = none) ∨ ∃ d v, dget m k = some d ∧ valV kvs (Sum.inr k.s) = some v ∧ Dp K F v (e d) := by
  rcases h.get k.s with ⟨h1, h2⟩ | ⟨d, v, h1, h2, h3⟩
  · rw [getM_mapK] at h1
    exact .inl ⟨by simpa using h1, h2⟩
  · rw [getM_mapK] at h1
    cases q : dget m k with
    | none => rw [q] at h1; cases h1
    | some b =>
      rw [q] at h1
      cases h1
      exact .inr ⟨b, v, rfl, h2, h3⟩
theorem evc_dget (hv : DView K Dd R f e) (ha : EvC K X De ta G Dd s Ma R) (hb : ∀ s1, EvC K X De tb G Dd s1 (Mb s1) (tD K eS)) : EvC K X De (tDGet ta tb) G Dd s (fun kk => Ma fun a s1 => Mb s1 fun b s2 => Res.bind (Res.opt (dget (f a) b)) fun z => kk z s2) (tD K e) := fun kk σ H F hs ss o r Q hm q qe =>
  ha _ σ H F hs ss o r _ hm (fun a s1 x H1 F1 t1 hs1 r1 hm1 => hb s1 _ σ H1 F1 hs1 (ss.mono t1) o r _ hm1
    (fun b s2 y H2 F2 t2 hs2 r2 hm2 => by
      obtain ⟨d, ed, hm3⟩ := Res.sat_opt hm2
      obtain ⟨p, kvs, rfl, h1, h2⟩ := hv a s2 x H2 F2 hs2 ((R a).mono t2 r1)
      rcases ent_at h1 b with ⟨h3, _⟩ | ⟨d', v, h3, h4, h5⟩
      · rw [ed] at h3; cases h3
      · rw [ed] at h3
        cases h3
        refine ⟨p, v, rfl, ?_, q d s2 v H2 F2 (t1.trans t2) hs2 h5 hm3⟩
        rw [dp_str r2, ← h4]
        exact dget_at h2)
    (fun n e h H2 F2 t2 => qe n e h H2 F2 (t1.trans t2))) qe
theorem evc_din (hv : DView K Dd R f e) {Mb : (Tx → S → Res ε δ) → Res ε δ} {Ma : S → (α → S → Res ε δ) → Res ε δ} (hb : EvC K X De tb G Dd s Mb (tD K eS)) (ha : ∀ s1, EvC K X De ta G Dd s1 (Ma s1) R) : EvC K X De (tDIn tb ta) G Dd s (fun kk => Mb fun b s1 => Ma s1 fun a s2 => kk (dget (f a) b).isSome s2) (tD K eB) := fun kk σ H F hs ss o r Q hm q qe =>
  hb _ σ H F hs ss o r _ hm (fun b s1 y H1 F1 t1 hs1 r1 hm1 => ha s1 _ σ H1 F1 hs1 (ss.mono t1) o r _ hm1
    (fun a s2 x H2 F2 t2 hs2 r2 hm2 => by
      obtain ⟨p, kvs, rfl, h1, h2⟩ := hv a s2 x H2 F2 hs2 r2
      have g := dget_at (x := b.s) h2
      rw [← dp_str r1] at g
      have ee : (valV kvs (Sum.inr b.s)).isSome = (dget (f a) b).isSome := by
        rcases ent_at h1 b with ⟨h3, h4⟩ | ⟨d', v, h3, h4, h5⟩ <;> rw [h3, h4] <;> rfl
      exact ⟨p, _, rfl, g, by rw [ee]; exact q _ s2 _ H2 F2 (t1.trans t2) hs2 (.bl _) hm2⟩)
    (fun n e h H2 F2 t2 => qe n e h H2 F2 (t1.trans t2))) qe
theorem evc_dnotin (hv : DView K Dd R f e) {Mb : (Tx → S → Res ε δ) → Res ε δ} {Ma : S → (α → S → Res ε δ) → Res ε δ} (hb : EvC K X De tb G Dd s Mb (tD K eS)) (ha : ∀ s1, EvC K X De ta G Dd s1 (Ma s1) R) : EvC K X De (tDNotIn tb ta) G Dd s (fun kk => Mb fun b s1 => Ma s1 fun a s2 => kk (!(dget (f a) b).isSome) s2) (tD K eB) := fun kk σ H F hs ss o r Q hm q qe =>
  hb _ σ H F hs ss o r _ hm (fun b s1 y H1 F1 t1 hs1 r1 hm1 => ha s1 _ σ H1 F1 hs1 (ss.mono t1) o r _ hm1
    (fun a s2 x H2 F2 t2 hs2 r2 hm2 => by
      obtain ⟨p, kvs, rfl, h1, h2⟩ := hv a s2 x H2 F2 hs2 r2
      have g := dget_at (x := b.s) h2
      rw [← dp_str r1] at g
      have ee : (valV kvs (Sum.inr b.s)).isSome = (dget (f a) b).isSome := by
        rcases ent_at h1 b with ⟨h3, h4⟩ | ⟨d', v, h3, h4, h5⟩ <;> rw [h3, h4] <;> rfl
      exact ⟨p, _, rfl, g, by rw [ee]; exact q _ s2 _ H2 F2 (t1.trans t2) hs2 (.bl _) hm2⟩)
    (fun n e h H2 F2 t2 => qe n e h H2 F2 (t1.trans t2))) qe
theorem isD_of {H : Hp} {a : Addr} {kvs : List (L2.Key × V)} (h : H a = some (.dK kvs) ∨ ∃ od, H a = some (.frz od (.dK kvs))) : IsD H a := by
  rcases h with h | ⟨od, h⟩
  · exact .inl ⟨kvs, .inl h⟩
  · exact .inl ⟨kvs, .inr ⟨od, h⟩⟩
theorem evc_dgetD (hv : DView K Dd R f e) {Mx : S → (β → S → Res ε δ) → Res ε δ} (ha : EvC K X De ta G Dd s Ma R) (hb : ∀ s1, EvC K X De tb G Dd s1 (Mb s1) (tD K eS)) (hx : ∀ s1, EvC K X De tx G Dd s1 (Mx s1) (tD K e)) :
    EvC K X De (tDGet2 ta tb tx) G Dd s (fun kk => Ma fun a s1 => Mb s1 fun b s2 => Mx s2 fun x s3 => kk ((dget (f a) b).getD x) s3) (tD K e) := fun kk σ H F hs ss o r Q hm q qe =>
  ha _ σ H F hs ss o r _ hm (fun a s1 x H1 F1 t1 hs1 r1 hm1 => by
    obtain ⟨p, kvs0, rfl, _, h20⟩ := hv a s1 x H1 F1 hs1 r1
    refine ⟨p, rfl, isD_of h20, hb s1 _ σ H1 F1 hs1 (ss.mono t1) o r _ hm1 (fun b s2 y H2 F2 t2 hs2 r2 hm2 => hx s2 _ σ H2 F2 hs2 ((ss.mono t1).mono t2) o r _ hm2
      (fun z s3 u H3 F3 t3 hs3 r3 hm3 => ?_) (fun n e h H3 F3 t3 => qe n e h H3 F3 ((t1.trans t2).trans t3))) (fun n e h H2 F2 t2 => qe n e h H2 F2 (t1.trans t2))⟩
    obtain ⟨p', kvs, ep, h1, h2⟩ := hv a s3 _ H3 F3 hs3 ((R a).mono (t2.trans t3) r1)
    cases ep
    have g := dget_at (x := b.s) h2
    rw [← dp_str r2] at g
    rcases ent_at h1 b with ⟨h3, h4⟩ | ⟨d', v, h3, h4, h5⟩
    · refine ⟨_, g, ?_⟩
      rw [h4]
      rw [h3] at hm3
      exact q z s3 _ H3 F3 ((t1.trans t2).trans t3) hs3 r3 hm3
    · refine ⟨_, g, ?_⟩
      rw [h4]
      rw [h3] at hm3
      exact q d' s3 _ H3 F3 ((t1.trans t2).trans t3) hs3 h5 hm3) qe
end
theorem evnc_dnew {e : β → PyData} : EvNC (β := δ) K X De tDNewK G Dd s (fun kk => kk [] s) (OX K e) := fun kk σ H F hs ss o r Q hm q qe p hp => q [] s p _ F (Same.refl _) (hs.new hp ⟨[], rfl, .nil⟩) hm
/-- d[k] = v -/
theorem go_dputC {e : β → PyData} {m : List (Tx × β)} {k : Nat} {a : Addr} {Ma : (β → S → Res ε ρ) → Res ε ρ} {Mi : S → (Tx → S → Res ε ρ) → Res ε ρ} {kk : List (Tx × β) × S → Res ε ρ} (ho : G[n]? = some (some (Is (.ref a)))) (h : EvC K w.X w.De te G Dd s Ma (tD K e)) (hi : ∀ s1, EvC K w.X w.De tb G Dd s1 (Mi s1) (tD K eS)) (hk : ∀ s, (Dd s)[k]? = some (a, OX K e m))
    {mm : Res ε ρ} (hP : w.W F0 mm) (q : ∀ x, w.W F0 (kk x) → Go E.nx F0 G ((Dd x.2).set k (a, OX K e x.1))) (c : w.cond G := by first | exact trivial | walk_at "cond") (hm : mm = (Ma fun v s1 => Mi s1 fun x s2 => Res.bind (Res.grd (m.length < 100000) (dput m x v, s2)) kk) := by exact rfl) : Go (sDPut (tVar n) tb te E) F0 G (Dd s) := by subst hm; exact (fun σ H F t hs ss =>
  h _ σ H F hs ss _ _ _ hP (fun x s1 v H1 F1 t1 hs1 r1 hm => by
    obtain ⟨v0, e0, r0⟩ := ss.get ho
    have r0' : v0 = .ref a := r0
    subst r0'
    refine ⟨_, e0, hi s1 _ σ H1 F1 hs1 (ss.mono t1) _ _ _ hm (fun y s2 u H2 F2 t2 hs2 r2 hm2 => ?_) (fun n e hr H2 F2 t2 hs2 => w.err hr c σ H2 F2 ((t.trans t1).trans t2) hs2 ((ss.mono t1).mono t2))⟩
    obtain ⟨hl, hm3⟩ := Res.sat_grd hm2
    obtain ⟨o, ho, kvs, rfl, h2⟩ := hs2.at (hk s2)
    have l2 := h2.len
    rw [List.length_map] at l2
    refine ⟨a, _, rfl, by rw [dp_str r2]; exact DPut.k (k := Sum.inr y.s) ho (by rw [l2]; exact Nat.lt_of_lt_of_le hl sizeLine_big), ?_⟩
    exact q (dput m y x, s2) hm3 σ _ F2 ((t.trans t1).trans t2) (hs2.put (hk s2) ⟨_, rfl, by rw [← putM_mapK]; exact h2.put (dp_mono t2 _ v r1)⟩) ((ss.mono t1).mono t2)) (fun n e hr H1 F1 t1 hs1 => w.err hr c σ H1 F1 (t.trans t1) hs1 (ss.mono t1)))
/-- an owned dict, held by the slot i, stands from now on -/
theorem hs_frzD {D : Own} {H F : Hp} (hs : HS D H F) {k : Nat} {a : Addr} {e : β → PyData} {m : List (Tx × β)} (hk : D[k]? = some (a, OX K e m)) : ∃ kvs, H a = some (.dK kvs) ∧ ∀ od, ∃ F', Same F F' ∧ HS (D.eraseIdx k) (upd H a (.frz od (.dK kvs))) F' ∧ (DZ K e m).p (.ref a) F' := by
  obtain ⟨o, ho, kvs, rfl, hx⟩ := hs.at hk
  refine ⟨kvs, ho, fun od => ?_⟩
  have hs1 : HS (D.set k (a, ⟨fun o _ => o = .frz od (.dK kvs), fun _ h => h⟩)) (upd H a (.frz od (.dK kvs))) F := hs.put hk rfl
  have hk1 : (D.set k (a, (⟨fun o _ => o = .frz od (.dK kvs), fun _ h => h⟩ : OTy)))[k]? = some (a, ⟨fun o _ => o = .frz od (.dK kvs), fun _ h => h⟩) := set_at hk
  obtain ⟨o2, ho2, hs2, t2⟩ := hs1.freeze hk1
  have ho2' : o2 = .frz od (.dK kvs) := ho2
  subst ho2'
  refine ⟨_, t2, ?_, a, od, kvs, rfl, upd_same, hx.mono t2⟩
  have er : (D.set k (a, (⟨fun o _ => o = .frz od (.dK kvs), fun _ h => h⟩ : OTy))).eraseIdx k = D.eraseIdx k := by
    refine List.ext_getElem? fun i => ?_
    rw [List.getElem?_eraseIdx, List.getElem?_eraseIdx]
    split
    · rw [List.getElem?_set_ne (by omega)]
    · rw [List.getElem?_set_ne (by omega)]
  rw [er] at hs2
  exact hs2
theorem set_get {σ : L2.St} {i : Nat} {v : V} (e : σ[i]? = some (some v)) : σ.set i (some v) = σ := by
  refine List.ext_getElem? fun j => ?_
  by_cases q : j = i
  · subst q
    have lt : j < σ.length := (List.getElem?_eq_some_iff.mp e).1
    rw [List.getElem?_set_self lt, e]
  · rw [List.getElem?_set_ne (Ne.symm q)]
theorem go_frzD {t : TS} {k i : Nat} {a : Addr} {e : β → PyData} {m : List (Tx × β)} (hk : D0[k]? = some (a, OX K e m)) (hi : G[i]? = some (some (Is (.ref a)))) (h : Go (t E) F0 (G.set i (some (DZ K e m))) (D0.eraseIdx k)) : Go (tFrz t E) F0 G D0 := fun σ H F s hs ss => by
  obtain ⟨kvs, ho, f⟩ := hs_frzD hs hk
  obtain ⟨v, e1, e2⟩ := ss.get hi
  have ev : v = .ref a := e2
  subst ev
  refine ⟨a, _, ho, trivial, fun od => ?_⟩
  obtain ⟨F', t1, hs1, r1⟩ := f od
  have z := (ss.mono t1).set r1 i
  rw [set_get e1] at z
  exact h σ _ F' (s.trans t1) hs1 z
/-- what an expression newly makes stands at once -/
theorem evc_frzD {e : β → PyData} {M : (List (Tx × β) → S → Res ε δ) → Res ε δ} (h : EvNC K X De te G Dd s M (OX K e)) : EvC K X De (tFrzA te) G Dd s M (DZ K e) := fun kk σ H F hs ss o r Q hm q qe =>
  h kk σ H F hs ss o r _ hm (fun m s1 p H1 F1 t1 hs1 hm1 => by
    obtain ⟨kvs, ho, f⟩ := hs_frzD hs1 (k := 0) rfl
    refine ⟨p, _, ho, trivial, fun od => ?_⟩
    obtain ⟨F', t2, hs2, r2⟩ := f od
    exact q m s1 _ _ F' (t1.trans t2) hs2 r2 hm1) qe
theorem erase_perm {α : Type} : ∀ {l : List α} {k : Nat} {x : α}, l[k]? = some x → (x :: l.eraseIdx k).Perm l
  | [], k, x, h => by simp at h
  | y :: l, 0, x, h => by
    simp at h
    subst h
    exact List.Perm.refl _
  | y :: l, k + 1, x, h => by
    have ih := erase_perm (l := l) (k := k) (x := x) (by simpa using h)
    rw [List.eraseIdx_cons_succ]
    exact (List.Perm.swap y x _).trans (ih.cons y)
/-- an owned thing held by the slot i is handed on -/
theorem hs_front {D : Own} {H F : Hp} (hs : HS D H F) {k : Nat} {a : Addr} {O : OTy} (hk : D[k]? = some (a, O)) : HS ((a, O) :: D.eraseIdx k) H F where
  sub := hs.sub
  own := fun b O' m => by
    rcases List.mem_cons.mp m with z | z
    · cases z
      exact hs.own _ _ (List.mem_of_getElem? hk)
    · exact hs.own b O' ((List.eraseIdx_sublist _ _).subset z)
  nd := by
    have p : ((a, O) :: D.eraseIdx k).Perm D := erase_perm hk
    exact ((p.map (·.1)).nodup_iff).mpr hs.nd
theorem evnc_var {k i : Nat} {a : Addr} {O : α → OTy} {Dd' : S → Own} (x : α) (hk : (Dd s)[k]? = some (a, O x)) (hi : G[i]? = some (some (Is (.ref a)))) (hD : (Dd s).eraseIdx k = Dd' s) {kk : α → S → Res ε δ} {o : δ → Prop} {r : Str → ε → Prop} {Q : VK} {σ : L2.St} {H F : Hp} (hs : HS (Dd s) H F) (ss : SS F G σ) (hm : (kk x s).sat o r)
    (q : ∀ x s' p H' F', Same F F' → HS ((p, O x) :: Dd' s') H' F' → (kk x s').sat o r → Q (.ref p) H') : tVar i σ H Q := by
  obtain ⟨v, e1, e2⟩ := ss.get hi
  have ev : v = .ref a := e2
  subst ev
  exact ⟨_, e1, q x s a H F (Same.refl _) (by rw [← hD]; exact hs_front hs hk) hm⟩
/-- return x, x owned: handed on -/
theorem go_retOC {k i : Nat} {a : Addr} {O : α → OTy} (x : α) (rr : ρ) (hk : D0[k]? = some (a, O x)) (hi : G[i]? = some (some (Is (.ref a)))) (hP : w.W F0 (.ok rr)) (hr : ∀ F, w.o F rr → GoN E.rt F (O x) (D0.eraseIdx k)) : Go (tRet (tVar i) E) F0 G D0 := fun σ H F t hs ss => by
  obtain ⟨v, e1, e2⟩ := ss.get hi
  have ev : v = .ref a := e2
  subst ev
  exact ⟨_, e1, hr F0 hP a H F t (hs_front hs hk)⟩
/-! walks over a dict that stands -/
theorem evItc_keys {e : β → PyData} {M : (List (Tx × β) → S → Res ε δ) → Res ε δ} (h : EvC K X De te G Dd s M (DZ K e)) : EvItC K X De (iKeys te) G Dd s (fun _ => True) (fun kk => M fun m s1 => kk (m.map (·.1)) s1) (tD K eS) := fun kk σ H F hs ss o r Q hm q qe =>
  h _ σ H F hs ss o r _ hm (fun m s1 v H1 F1 t1 hs1 ⟨a, od, kvs, h0, h1, h2⟩ hm1 => by
    refine ⟨a, od, h0, .inl ⟨kvs, hs1.sub _ _ h1, q _ s1 _ H1 F1 t1 hs1 (fun D H2 F2 _ t2 hs2 i => ?_) hm1⟩⟩
    have ho2 : H2 a = some (.frz od (.dK kvs)) := hs2.sub _ _ (t2 _ _ h1)
    refine ⟨fun R hR => ?_, fun hl => ⟨ho2, by rw [h2.len]; simpa using hl⟩⟩
    rw [List.getElem?_map, List.getElem?_map] at hR
    cases q2 : m[i]? with
    | none => rw [q2] at hR; cases hR
    | some z =>
      rw [q2] at hR
      cases hR
      have e3 : ((mapK e m).map (·.1))[i]? = some z.1.s := by rw [List.getElem?_map, List.getElem?_map, q2]; rfl
      obtain ⟨v', hv⟩ := ent_get h2 e3
      refine ⟨⟨ho2, (List.getElem?_eq_some_iff.mp hv).1⟩, fun x H' hy => ?_⟩
      obtain ⟨rfl, k', v'', h5, rfl⟩ := hy
      rw [hv] at h5
      cases h5
      exact ⟨F2, Same.refl _, hs2, .str _⟩) qe
end
end TL

end
section
set_option Elab.async false
set_option linter.all false
set_option maxRecDepth 100000
set_option maxHeartbeats 1000000
def Res.fuel : Nat := 2 ^ 20000
theorem Res.fuel_big {n : Nat} (h : n < 2 ^ 20000) : n < Res.fuel := h
namespace TL
open PySem PySem.Spec L2
/-! ## order of texts -/
def leT (a b : Tx) : Bool := !ltCps b.s.cps.toList a.s.cps.toList
theorem leT_trans (a b c : Tx) (h : leT a b = true) (k : leT b c = true) : leT a c = true := by
  unfold leT at *
  simp only [Bool.not_eq_true'] at *
  cases e : ltCps c.s.cps.toList a.s.cps.toList with
  | false => rfl
  | true =>
    exfalso
    by_cases q : ltCps b.s.cps.toList a.s.cps.toList = true
    · rw [h] at q; cases q
    · by_cases q2 : ltCps a.s.cps.toList b.s.cps.toList = true
      · have := lt_tr e q2
        rw [k] at this; cases this
      · have e2 := lt_tri (Bool.eq_false_iff.mpr q) (Bool.eq_false_iff.mpr q2)
        rw [← e2] at e
        rw [k] at e; cases e
theorem leT_total (a b : Tx) : (leT a b || leT b a) = true := by
  unfold leT
  cases e : ltCps b.s.cps.toList a.s.cps.toList with
  | false => rfl
  | true =>
    cases e2 : ltCps a.s.cps.toList b.s.cps.toList with
    | false => rfl
    | true =>
      have := lt_tr e e2
      rw [lt_irr] at this; cases this
theorem leT_anti {a b : Tx} (h : leT a b = true) (k : leT b a = true) : a = b := by
  unfold leT at *
  simp only [Bool.not_eq_true'] at *
  exact Tx.ext' (str_ext (lt_tri k h))
def sortT (xs : List Tx) : List Tx := xs.mergeSort leT
theorem sortT_perm (xs : List Tx) : (sortT xs).Perm xs := List.mergeSort_perm _ _
theorem sortT_le (xs : List Tx) : (sortT xs).Pairwise fun a b => leT a b = true := List.pairwise_mergeSort leT_trans leT_total xs
theorem sortT_of {xs ys : List Tx} (p : ys.Perm xs) (h : ys.Pairwise fun a b => leT a b = true) : ys = sortT xs :=
  List.Perm.eq_of_pairwise (fun a b _ _ => leT_anti) h (sortT_le xs) (p.trans (sortT_perm xs).symm)
theorem rising_le : ∀ {p : Tx} {r : List Tx}, PyProof.Rows.risingS p.s (r.map (·.s)) = true → (p :: r).Pairwise fun a b => leT a b = true
  | p, [], _ => List.pairwise_singleton _ _
  | p, x :: r, h => by
    simp only [List.map_cons, PyProof.Rows.risingS, Bool.and_eq_true] at h
    have ih := rising_le (p := x) (r := r) h.2
    rw [List.pairwise_cons]
    refine ⟨fun k hk => ?_, ih⟩
    rcases List.mem_cons.mp hk with e | m
    · subst e; exact h.1
    · exact leT_trans _ _ _ h.1 ((List.pairwise_cons.mp ih).1 k m)
theorem perm_lift : ∀ {ys : List Str} {xs : List Tx}, ys.Perm (xs.map (·.s)) → ∃ zs : List Tx, ys = zs.map (·.s) ∧ zs.Perm xs := fun {ys xs} h => by
  have : ∀ {a b : List Str}, a.Perm b → ∀ {xs : List Tx}, b = xs.map (·.s) → ∃ zs : List Tx, a = zs.map (·.s) ∧ zs.Perm xs := by
    intro a b p
    induction p with
    | nil => intro xs e; cases xs with
      | nil => exact ⟨[], rfl, .nil⟩
      | cons x xs => cases e
    | cons x p ih => intro xs e; cases xs with
      | nil => cases e
      | cons y xs =>
        rw [List.map_cons] at e
        injection e with e1 e2
        obtain ⟨zs, h1, h2⟩ := ih e2
        exact ⟨y :: zs, by rw [e1, h1]; rfl, h2.cons y⟩
    | swap x y l => intro xs e; match xs, e with
      | u :: v :: xs, e =>
        rw [List.map_cons, List.map_cons] at e
        injection e with e1 e2
        injection e2 with e2 e3
        exact ⟨v :: u :: xs, by rw [e1, e2, e3]; rfl, List.Perm.swap u v xs⟩
      | [], e => cases e
      | [_], e => simp at e
    | trans p q ih1 ih2 => intro xs e
                           obtain ⟨zs, h1, h2⟩ := ih2 e
                           obtain ⟨us, h3, h4⟩ := ih1 h1
                           exact ⟨us, h3, h4.trans h2⟩
  exact this h rfl
theorem sorted_is {ys : List Str} {xs : List Tx} (p : ys.Perm (xs.map (·.s))) (h : PyProof.Rows.sortedS ys = true) : ys = (sortT xs).map (·.s) := by
  obtain ⟨zs, rfl, q⟩ := perm_lift p
  have : zs.Pairwise fun a b => leT a b = true := by
    cases zs with
    | nil => exact .nil
    | cons z zs => exact rising_le h
  rw [sortT_of q this]
/-! ## slices, joins -/
def cutL {α : Type} (xs : List α) (lo hi : Option Int) : List α := (xs.drop (HT.sIx xs.length 0 lo)).take (HT.sIx xs.length xs.length hi - HT.sIx xs.length 0 lo)
theorem allP_drop {F : Hp} {α : Type} {R : α → Ty} : ∀ {xs : List α} {vs : List V}, AllP F (xs.map R) vs → ∀ n, AllP F ((xs.drop n).map R) (vs.drop n)
  | _, _, h, 0 => h
  | [], _, h, n + 1 => by cases h; exact .nil
  | x :: xs, _, h, n + 1 => by
    cases h with
    | cons h1 h2 => exact allP_drop h2 n
theorem allP_take {F : Hp} {α : Type} {R : α → Ty} : ∀ {xs : List α} {vs : List V}, AllP F (xs.map R) vs → ∀ n, AllP F ((xs.take n).map R) (vs.take n)
  | _, _, h, 0 => .nil
  | [], _, h, n + 1 => by cases h; exact .nil
  | x :: xs, _, h, n + 1 => by
    cases h with
    | cons h1 h2 => exact .cons h1 (allP_take h2 n)
theorem allP_cut {F : Hp} {α : Type} {R : α → Ty} {xs : List α} {vs : List V} (h : AllP F (xs.map R) vs) (lo hi : Option Int) : AllP F ((cutL xs lo hi).map R) (cutV vs lo hi) := by
  have l := h.len
  rw [List.length_map] at l
  unfold cutV cutL
  rw [l]
  exact allP_take (allP_drop h _) _
theorem allP_rev {F : Hp} {α : Type} {R : α → Ty} : ∀ {xs : List α} {vs : List V}, AllP F (xs.map R) vs → AllP F (xs.reverse.map R) vs.reverse
  | [], _, h => by cases h; exact .nil
  | x :: xs, _, h => by
    cases h with
    | cons h1 h2 =>
      rw [List.reverse_cons, List.reverse_cons, List.map_append]
      exact (allP_rev h2).append (.cons h1 .nil)
theorem join_cons (a x y : Str) (xs : List Str) : Txt.join a (x :: y :: xs) = (x ++ a) ++ Txt.join a (y :: xs) := by
  rw [TL.join_eq, TL.join_eq]
  rfl
theorem join_ok (a : Tx) : ∀ xs : List Tx, ∀ c ∈ (Txt.join a.s (xs.map (·.s))).cps.toList, c < 0x110000
  | [], c, hc => by
    rw [List.map_nil, TL.join_eq] at hc
    cases hc
  | [x], c, hc => by
    rw [List.map_cons, List.map_nil, TL.join_eq] at hc
    exact x.all c hc
  | x :: y :: xs, c, hc => by
    have h' := hc
    rw [List.map_cons, List.map_cons, join_cons, app_cps, app_cps, List.append_assoc] at h'
    rcases List.mem_append.mp h' with h1 | h1
    · exact x.all c h1
    · rcases List.mem_append.mp h1 with h2 | h2
      · exact a.all c h2
      · exact join_ok a (y :: xs) c h2
def Tx.join (a : Tx) (xs : List Tx) : Tx := ⟨Txt.join a.s (xs.map (·.s)), canLay_of (join_ok a xs)⟩
def joinC (a : Tx) (xs : List Tx) : Prop := (xs.map Tx.len).sum + xs.length * a.len ≤ 16777216
def unL2 {α : Type} : List α → Option (α × α)
  | [a, b] => some (a, b)
  | _ => none
def unL3 {α : Type} : List α → Option (α × α × α)
  | [a, b, c] => some (a, b, c)
  | _ => none
def unL4 {α : Type} : List α → Option (α × α × α × α)
  | [a, b, c, d] => some (a, b, c, d)
  | _ => none
section
variable {K : PySem.W.Frag} {ε ε' ρ α β γ δ S τ τ' σt ω : Type} {X : L2.St → XK} {De : ε → Own} {G G1 G2 : Sto} {D0 : Own} {Dd : S → Own} {s : S} {te ta tb tc tx : TE} {tt tu : TT} {F0 F1 : Hp} {E : Ends} {w : Wish K ε ρ} {t : TA} {n : Nat} {tl th : TO}
theorem evc_strC {x : Str} (c : Tx) (e : c.s = x) : EvC (β := β) K X De (tC (.str x)) G Dd s (fun kk => kk c s) (tD K eS) := evc_of ev_str (by rw [← e])
instance (i j : Int) : Decidable (CPow i j) := inferInstanceAs (Decidable (_ ∧ _ ∧ _))
theorem evc_powC {a b c : Int} (h : CPow a b) (e : a ^ b.toNat = c) : EvC (β := β) K X De (tOp rPowI (tC (.int a)) (tC (.int b))) G Dd s (fun kk => kk c s) (tD K eI) := evc_of (ev_pow ev_int ev_int h) (by rw [e])
theorem evc_tup0 {e : α → PyData} : EvC (β := β) K X De (tTup tNil) G Dd s (fun kk => kk [] s) (tD K (eV e)) := evc_of (ev_tup evD_nil (by simp)) rfl
theorem evc_isi {n : String} {b : Bool} {e : α → PyData} {x : α} (h : EvC (β := δ) K X De te G Dd s (fun kk => kk x s) (tD K e)) (k : ∀ x : α, kitB (tyN (e x)) n = some b) : EvC (β := δ) K X De (tCB (cIsi K) (tCons te (tCons (tC (.ty n)) tNil))) G Dd s (fun kk => kk b s) (tD K eB) := fun kk σ H F hs ss o r Q hm q qe =>
  h (fun _ s => kk b s) σ H F hs ss o r _ hm (fun y s1 v H1 F1 t1 hs1 r1 hm1 => .inl ⟨v, .ty n, _, _, b, rfl, .ty n, tyX_of (dp_up hs1 r1), kit_ty (k y), q b s1 _ H1 F1 t1 hs1 (.bl _) hm1⟩) qe
/-! lists and tuples put together -/
theorem evc_catL {e : α → PyData} {Ma : (List α → S → Res ε δ) → Res ε δ} {Mb : S → (List α → S → Res ε δ) → Res ε δ} (ha : EvC K X De ta G Dd s Ma (tD K (eL e))) (hb : ∀ s1, EvC K X De tb G Dd s1 (Mb s1) (tD K (eL e))) :
    EvC K X De (tOp (qAddS K) ta tb) G Dd s (fun kk => Ma fun a s1 => Mb s1 fun b s2 => Res.bind (Res.grd (a.length + b.length ≤ 100000) (a ++ b)) fun z => kk z s2) (tD K (eL e)) :=
  evc2g ha hb fun a b s2 x y H F c hs rx ry Q q => by
    obtain ⟨p, xs, rfl, h1, h2⟩ := dp_lst rx
    obtain ⟨p', ys, rfl, h3, h4⟩ := dp_lst ry
    refine .inr (.inl ⟨p, p', xs, ys, rfl, rfl, sqL_up hs h1, sqL_up hs h3, by rw [dpAll_len h2, dpAll_len h4, List.length_map, List.length_map]; exact Nat.le_trans c sizeLine_big, fun u hu => ?_⟩)
    have s4 : Same F (upd F u (.lst (xs ++ ys))) := same_new (hs.free hu)
    refine q _ _ _ s4 (hs.frz hu) (.lst (SqL.of upd_same) ?_)
    rw [List.map_append]
    exact dpAll_append (dpAll_mono s4 _ xs h2) (dpAll_mono s4 _ ys h4)
theorem evc_catV {e : α → PyData} {Ma : (List α → S → Res ε δ) → Res ε δ} {Mb : S → (List α → S → Res ε δ) → Res ε δ} (ha : EvC K X De ta G Dd s Ma (tD K (eV e))) (hb : ∀ s1, EvC K X De tb G Dd s1 (Mb s1) (tD K (eV e))) :
    EvC K X De (tOp (qAddS K) ta tb) G Dd s (fun kk => Ma fun a s1 => Mb s1 fun b s2 => Res.bind (Res.grd (a.length + b.length ≤ 100000) (a ++ b)) fun z => kk z s2) (tD K (eV e)) :=
  evc2g ha hb fun a b s2 x y H F c hs rx ry Q q => by
    obtain ⟨p, xs, rfl, h1, h2⟩ := dp_tup rx
    obtain ⟨p', ys, rfl, h3, h4⟩ := dp_tup ry
    by_cases hx : xs = []
    · subst hx
      have ea : a = [] := by
        have l := dpAll_len h2
        simp at l
        exact List.length_eq_zero_iff.mp l.symm
      subst ea
      exact .inl (.inr (.inr (.inr (.inr ⟨p, p', ys, rfl, rfl, sqT_up hs h1, sqT_up hs h3, q _ H F (Same.refl _) hs (.tup h3 h4)⟩))))
    · refine .inl (.inr (.inr (.inr (.inl ⟨p, p', xs, ys, rfl, rfl, sqT_up hs h1, sqT_up hs h3, hx, ?_, fun hy => ?_, fun hy u hu => ?_⟩))))
      · rw [dpAll_len h2, dpAll_len h4, List.length_map, List.length_map]; exact Nat.le_trans c sizeLine_big
      · subst hy
        have eb : b = [] := by
          have l := dpAll_len h4
          simp at l
          exact List.length_eq_zero_iff.mp l.symm
        subst eb
        refine q _ H F (Same.refl _) hs ?_
        rw [List.append_nil]
        exact .tup h1 h2
      · have s4 : Same F (upd F u (.tup (xs ++ ys))) := same_new (hs.free hu)
        refine q _ _ _ s4 (hs.frz hu) (.tup (SqT.of upd_same) ?_)
        rw [List.map_append]
        exact dpAll_append (dpAll_mono s4 _ xs h2) (dpAll_mono s4 _ ys h4)
theorem allP_strs {F : Hp} {xs : List Tx} {vs : List V} (h : AllP F (xs.map (tD K eS)) vs) : vs = (xs.map (·.s)).map V.str := by
  have h2 := allP_map h
  have e : xs.map eS = (xs.map (·.s)).map PyData.str := by rw [List.map_map]; rfl
  rw [e] at h2
  exact strs_of h2
section
variable {R : α → Ty} {f : α → List Tx} {Ma : (Tx → S → Res ε δ) → Res ε δ} {Mb : S → (α → S → Res ε δ) → Res ε δ}
theorem mem_txs {x : Tx} {xs : List Tx} : decide (x.s ∈ xs.map (·.s)) = decide (x ∈ xs) := by
  have : x.s ∈ xs.map (·.s) ↔ x ∈ xs := ⟨fun h => let ⟨y, h1, h2⟩ := List.mem_map.mp h; Tx.ext' h2 ▸ h1, fun h => List.mem_map_of_mem h⟩
  exact decide_eq_decide.mpr this
theorem evc_inS (hv : SView K Dd R f (tD K eS)) (ha : EvC K X De ta G Dd s Ma (tD K eS)) (hb : ∀ s1, EvC K X De tb G Dd s1 (Mb s1) R) : EvC K X De (tOp (rIn K false) ta tb) G Dd s (fun kk => Ma fun a s1 => Mb s1 fun b s2 => kk (decide (a ∈ f b)) s2) (tD K eB) :=
  evc2 ha hb fun a b s2 x y H F hs rx ry Q q => by
    obtain ⟨p, vs, rfl, h1, h2⟩ := hv b s2 y H F hs ry
    have e := allP_strs h2
    subst e
    refine ⟨p, _, rfl, h1, by rw [dp_str rx]; rfl, flat_strs _, ?_⟩
    have e : inV x (((f b).map (·.s)).map V.str) = decide (a ∈ f b) := by rw [dp_str rx, inV_strs, mem_txs]
    simp only [e]
    exact q _ H F (Same.refl _) hs (.bl _)
theorem evc_notinS (hv : SView K Dd R f (tD K eS)) (ha : EvC K X De ta G Dd s Ma (tD K eS)) (hb : ∀ s1, EvC K X De tb G Dd s1 (Mb s1) R) : EvC K X De (tOp (rIn K true) ta tb) G Dd s (fun kk => Ma fun a s1 => Mb s1 fun b s2 => kk (!decide (a ∈ f b)) s2) (tD K eB) :=
  evc2 ha hb fun a b s2 x y H F hs rx ry Q q => by
    obtain ⟨p, vs, rfl, h1, h2⟩ := hv b s2 y H F hs ry
    have e := allP_strs h2
    subst e
    refine ⟨p, _, rfl, h1, by rw [dp_str rx]; rfl, flat_strs _, ?_⟩
    have e : inV x (((f b).map (·.s)).map V.str) = decide (a ∈ f b) := by rw [dp_str rx, inV_strs, mem_txs]
    simp only [e]
    exact q _ H F (Same.refl _) hs (.bl _)
end
/-! slices -/
def EvOC (K : PySem.W.Frag) {ε β S : Type} (X : L2.St → XK) (De : ε → Own) (to : TO) (G : Sto) (Dd : S → Own) (s : S) (M : (Option Int → S → Res ε β) → Res ε β) : Prop :=
  ∀ (kk : Option Int → S → Res ε β) (σ : L2.St) (H F : Hp), HS (Dd s) H F → SS F G σ → ∀ (o : β → Prop) (r : Str → ε → Prop) (Q : Option Int → Hp → Prop), (M kk).sat o r →
    (∀ x s' H' F', Same F F' → HS (Dd s') H' F' → (kk x s').sat o r → Q x H') → (∀ n e, r n e → ∀ H' F', Same F F' → HS (De e) H' F' → X σ (.ref (He.ga K n)) none H') → to σ H Q
theorem evo_none : EvOC (β := β) K X De tNoPart G Dd s (fun kk => kk none s) := fun kk σ H F hs ss o r Q hm q _ => q none s H F (Same.refl _) hs hm
theorem evo_some {M : (Int → S → Res ε β) → Res ε β} (h : EvC K X De te G Dd s M (tD K eI)) : EvOC K X De (tPart te) G Dd s (fun kk => M fun i s1 => kk (some i) s1) := fun kk σ H F hs ss o r Q hm q qe =>
  h _ σ H F hs ss o r _ hm (fun i s1 v H1 F1 t1 hs1 r1 hm1 => ⟨i, dp_int r1, q (some i) s1 H1 F1 t1 hs1 hm1⟩) qe
section
variable {R : α → Ty} {f : α → List β} {Re : β → Ty} {Ma : (α → S → Res ε δ) → Res ε δ} {Ml Mh : S → (Option Int → S → Res ε δ) → Res ε δ}
theorem evnc_slL (hv : SView K Dd R f Re) (hvL : ∀ x s v H F, HS (Dd s) H F → (R x).p v F → ∃ a vs, v = .ref a ∧ SqL K H a vs ∧ AllP F ((f x).map Re) vs) (ha : EvC K X De te G Dd s Ma R) (hl : ∀ s1, EvOC K X De tl G Dd s1 (Ml s1)) (hh : ∀ s1, EvOC K X De th G Dd s1 (Mh s1)) :
    EvNC K X De (tSl (rSlL K) te tl th) G Dd s (fun kk => Ma fun a s1 => Ml s1 fun lo s2 => Mh s2 fun hi s3 => kk (cutL (f a) lo hi) s3) (OLT Re) := fun kk σ H F hs ss o r Q hm q qe =>
  ha _ σ H F hs ss o r _ hm (fun a s1 v H1 F1 t1 hs1 r1 hm1 => hl s1 _ σ H1 F1 hs1 (ss.mono t1) o r _ hm1 (fun lo s2 H2 F2 t2 hs2 hm2 => hh s2 _ σ H2 F2 hs2 ((ss.mono t1).mono t2) o r _ hm2 (fun hi s3 H3 F3 t3 hs3 hm3 => by
    obtain ⟨p, vs, rfl, h1, h2⟩ := hvL a s3 v H3 F3 hs3 ((R a).mono (t2.trans t3) r1)
    exact ⟨p, vs, rfl, h1, fun u hu => q _ s3 u _ F3 ((t1.trans t2).trans t3) (hs3.new hu ⟨_, rfl, allP_cut h2 lo hi⟩) hm3⟩)
    (fun n e h H3 F3 t3 => qe n e h H3 F3 ((t1.trans t2).trans t3))) (fun n e h H2 F2 t2 => qe n e h H2 F2 (t1.trans t2))) qe
theorem evnc_revL (hvL : ∀ x s v H F, HS (Dd s) H F → (R x).p v F → ∃ a vs, v = .ref a ∧ SqL K H a vs ∧ AllP F ((f x).map Re) vs) (ha : EvC K X De te G Dd s Ma R) : EvNC K X De (tRevL K te) G Dd s (fun kk => Ma fun a s1 => kk (f a).reverse s1) (OLT Re) := fun kk σ H F hs ss o r Q hm q qe =>
  ha _ σ H F hs ss o r _ hm (fun a s1 v H1 F1 t1 hs1 r1 hm1 => by
    obtain ⟨p, vs, rfl, h1, h2⟩ := hvL a s1 v H1 F1 hs1 r1
    exact ⟨p, vs, rfl, h1, fun u hu => q _ s1 u _ F1 t1 (hs1.new hu ⟨_, rfl, allP_rev h2⟩) hm1⟩) qe
theorem evnc_lstS (hv : SView K Dd R f Re) (ha : EvC K X De ta G Dd s Ma R) : EvNC K X De (tCB (cLst K) (tCons ta tNil)) G Dd s (fun kk => Ma fun a s1 => kk (f a) s1) (OLT Re) := fun kk σ H F hs ss o r Q hm q qe =>
  ha _ σ H F hs ss o r _ hm (fun a s1 v H1 F1 t1 hs1 r1 hm1 => by
    obtain ⟨p, vs, rfl, h1, h2⟩ := hv a s1 v H1 F1 hs1 r1
    exact .inl ⟨p, vs, rfl, h1, fun u hu => q _ s1 u _ F1 t1 (hs1.new hu ⟨_, rfl, h2⟩) hm1⟩) qe
end
theorem lv_L {e : α → PyData} : ∀ x s v H F, HS (Dd s) H F → (tD K (eL e) x).p v F → ∃ a vs, v = .ref a ∧ SqL K H a vs ∧ AllP F ((id x).map (tD K e)) vs := fun x s v H F hs r => by
  obtain ⟨a, vs, rfl, h1, h2⟩ := dp_lst r
  exact ⟨a, vs, rfl, sqL_up hs h1, map_allP h2⟩
theorem lv_LT {Re : α → Ty} : ∀ x s v H F, HS (Dd s) H F → (LT K Re x).p v F → ∃ a vs, v = .ref a ∧ SqL K H a vs ∧ AllP F ((id x).map Re) vs := fun x s v H F hs ⟨a, vs, e, h1, h2⟩ => ⟨a, vs, e, sqL_up hs h1, h2⟩
theorem lv_O {Re : β → Ty} {xs : List β} {a : Addr} {k : Nat} (hk : ∀ s, (Dd s)[k]? = some (a, OLT Re xs)) : ∀ (x : Unit) s v H F, HS (Dd s) H F → ((fun _ : Unit => Is (.ref a)) x).p v F → ∃ b vs, v = .ref b ∧ SqL K H b vs ∧ AllP F (((fun _ => xs) x).map Re) vs := fun x s v H F hs r => by
  obtain ⟨o, ho, vs, rfl, h⟩ := hs.at (hk s)
  exact ⟨a, vs, r, SqL.of ho, h⟩
theorem evc_slS {Ma : (Tx → S → Res ε δ) → Res ε δ} {Ml Mh : S → (Option Int → S → Res ε δ) → Res ε δ} (ha : EvC K X De te G Dd s Ma (tD K eS)) (hl : ∀ s1, EvOC K X De tl G Dd s1 (Ml s1)) (hh : ∀ s1, EvOC K X De th G Dd s1 (Mh s1)) :
    EvC K X De (tSl rSlS te tl th) G Dd s (fun kk => Ma fun a s1 => Ml s1 fun lo s2 => Mh s2 fun hi s3 => Res.bind (Res.grd (Tx.len a ≤ 100000) (Tx.cut a lo hi)) fun z => kk z s3) (tD K eS) := fun kk σ H F hs ss o r Q hm q qe =>
  ha _ σ H F hs ss o r _ hm (fun a s1 v H1 F1 t1 hs1 r1 hm1 => hl s1 _ σ H1 F1 hs1 (ss.mono t1) o r _ hm1 (fun lo s2 H2 F2 t2 hs2 hm2 => hh s2 _ σ H2 F2 hs2 ((ss.mono t1).mono t2) o r _ hm2 (fun hi s3 H3 F3 t3 hs3 hm3 => by
    obtain ⟨c, hm4⟩ := Res.sat_grd hm3
    rw [dp_str r1]
    exact ⟨a.s, rfl, Nat.le_trans c sizeLine_big, q (Tx.cut a lo hi) s3 _ H3 F3 ((t1.trans t2).trans t3) hs3 (.str _) hm4⟩)
    (fun n e h H3 F3 t3 => qe n e h H3 F3 ((t1.trans t2).trans t3))) (fun n e h H2 F2 t2 => qe n e h H2 F2 (t1.trans t2))) qe
theorem evc_join {Ma : (Tx → S → Res ε δ) → Res ε δ} {Mb : S → (List Tx → S → Res ε δ) → Res ε δ} (ha : EvC K X De ta G Dd s Ma (tD K eS)) (hb : ∀ s1, EvC K X De tb G Dd s1 (Mb s1) (tD K (eL eS))) :
    EvC K X De (tM1 (rJoin K) ta tb) G Dd s (fun kk => Ma fun a s1 => Mb s1 fun b s2 => Res.bind (Res.grd (joinC a b) (Tx.join a b)) fun z => kk z s2) (tD K eS) := fun kk σ H F hs ss o r Q hm q qe =>
  ha _ σ H F hs ss o r _ hm (fun a s1 v H1 F1 t1 hs1 r1 hm1 => ⟨⟨a.s, dp_str r1⟩, hb s1 _ σ H1 F1 hs1 (ss.mono t1) o r _ hm1 (fun b s2 u H2 F2 t2 hs2 r2 hm2 => by
    obtain ⟨c, hm3⟩ := Res.sat_grd hm2
    obtain ⟨p, xs, rfl, h1, h2⟩ := dp_lst r2
    have e := allP_strs (map_allP h2)
    subst e
    refine ⟨a.s, p, b.map Tx.s, dp_str r1, rfl, .inl (sqL_up hs2 h1), ?_, q (Tx.join a b) s2 (.str (Tx.join a b).s) H2 F2 (t1.trans t2) hs2 (.str _) hm3⟩
    rw [List.map_map, List.length_map]
    exact c) (fun n e h H2 F2 t2 => qe n e h H2 F2 (t1.trans t2))⟩) qe
/-! sorted, tuple, list -/
theorem evc_sortS {R : α → Ty} {f : α → List Tx} {Ma : (α → S → Res ε δ) → Res ε δ} (hvL : ∀ x s v H F, HS (Dd s) H F → (R x).p v F → ∃ a vs, v = .ref a ∧ SqL K H a vs ∧ AllP F ((f x).map (tD K eS)) vs) (ha : EvC K X De ta G Dd s Ma R) :
    EvC K X De (tCB (qSort K) (tCons ta tNil)) G Dd s (fun kk => Ma fun a s1 => Res.bind (Res.grd ((f a).length < 64) (sortT (f a))) fun z => kk z s1) (tD K (eL eS)) := fun kk σ H F hs ss o r Q hm q qe =>
  ha _ σ H F hs ss o r _ hm (fun a s1 v H1 F1 t1 hs1 r1 hm1 => by
    obtain ⟨c, hm2⟩ := Res.sat_grd hm1
    obtain ⟨p, vs, rfl, h1, h2⟩ := hvL a s1 v H1 F1 hs1 r1
    have e := allP_strs h2
    subst e
    refine .inl ⟨p, (f a).map (·.s), rfl, h1, by rw [List.length_map]; exact c, fun ys u pm so hu => ?_⟩
    have e := sorted_is pm so
    subst e
    have s4 : Same F1 (upd F1 u (.lst (((sortT (f a)).map (·.s)).map V.str))) := same_new (hs1.free hu)
    refine q _ s1 _ _ _ (t1.trans s4) (hs1.frz hu) (.lst (SqL.of upd_same) ?_) hm2
    have e2 : (sortT (f a)).map eS = ((sortT (f a)).map (·.s)).map PyData.str := by rw [List.map_map]; rfl
    rw [e2]
    exact dp_strs _) qe
theorem mapK_keys {e : β → PyData} (m : List (Tx × β)) : (mapK e m).map (·.1) = (m.map (·.1)).map (·.s) := by
  rw [List.map_map, List.map_map]; rfl
theorem evc_sortD {R : α → Ty} {f : α → List (Tx × β)} {e : β → PyData} {Ma : (α → S → Res ε δ) → Res ε δ} (hv : DView K Dd R f e) (ha : EvC K X De ta G Dd s Ma R) :
    EvC K X De (tCB (qSort K) (tCons ta tNil)) G Dd s (fun kk => Ma fun a s1 => Res.bind (Res.grd ((f a).length < 64) (sortT ((f a).map Prod.fst))) fun z => kk z s1) (tD K (eL eS)) := fun kk σ H F hs ss o r Q hm q qe =>
  ha _ σ H F hs ss o r _ hm (fun a s1 v H1 F1 t1 hs1 r1 hm1 => by
    obtain ⟨c, hm2⟩ := Res.sat_grd hm1
    obtain ⟨p, kvs, rfl, h1, h2⟩ := hv a s1 v H1 F1 hs1 r1
    have hr : Rd H1 p (.dK kvs) := by
      rcases h2 with h2 | ⟨od, h2⟩
      · exact .inl h2
      · exact .inr ⟨od, h2⟩
    refine .inr ⟨p, kvs, ((f a).map (·.1)).map (·.s), rfl, hr, by rw [h1.keys, mapK_keys], by rw [List.length_map, List.length_map]; exact c, fun ys u pm so hu => ?_⟩
    have e := sorted_is pm so
    subst e
    have s4 : Same F1 (upd F1 u (.lst (((sortT ((f a).map Prod.fst)).map (·.s)).map V.str))) := same_new (hs1.free hu)
    refine q _ s1 _ _ _ (t1.trans s4) (hs1.frz hu) (.lst (SqL.of upd_same) ?_) hm2
    have e2 : (sortT ((f a).map Prod.fst)).map eS = ((sortT ((f a).map Prod.fst)).map (·.s)).map PyData.str := by rw [List.map_map]; rfl
    rw [e2]
    exact dp_strs _) qe
theorem evnc_lstD {R : α → Ty} {f : α → List (Tx × β)} {e : β → PyData} {Ma : (α → S → Res ε δ) → Res ε δ} (hv : DView K Dd R f e) (ha : EvC K X De ta G Dd s Ma R) :
    EvNC K X De (tCB (cLst K) (tCons ta tNil)) G Dd s (fun kk => Ma fun a s1 => kk ((f a).map Prod.fst) s1) (OLT (tD K eS)) := fun kk σ H F hs ss o r Q hm q qe =>
  ha _ σ H F hs ss o r _ hm (fun a s1 v H1 F1 t1 hs1 r1 hm1 => by
    obtain ⟨p, kvs, rfl, h1, h2⟩ := hv a s1 v H1 F1 hs1 r1
    have hr : Rd H1 p (.dK kvs) := by
      rcases h2 with h2 | ⟨od, h2⟩
      · exact .inl h2
      · exact .inr ⟨od, h2⟩
    refine .inr ⟨p, kvs, rfl, hr, fun u hu => ?_⟩
    rw [keys_strs h1, mapK_keys]
    refine q _ s1 u _ F1 t1 (hs1.new hu ⟨_, rfl, map_allP ?_⟩) hm1
    have e2 : ((f a).map Prod.fst).map eS = ((f a).map fun x => x.1.s).map PyData.str := by rw [List.map_map, List.map_map]; rfl
    rw [e2]
    have e3 : ((f a).map (·.1)).map (·.s) = (f a).map fun x => x.1.s := by rw [List.map_map]; rfl
    rw [e3]
    exact dp_strs _) qe
theorem evc_tupL {e : α → PyData} {M : (List α → S → Res ε δ) → Res ε δ} (h : EvC K X De te G Dd s M (tD K (eL e))) : EvC K X De (tCB (cTup K) (tCons te tNil)) G Dd s M (tD K (eV e)) := fun kk σ H F hs ss o r Q hm q qe =>
  h kk σ H F hs ss o r _ hm (fun xs s1 v H1 F1 t1 hs1 r1 hm1 => by
    obtain ⟨a, vs, rfl, h1, h2⟩ := dp_lst r1
    refine ⟨a, vs, rfl, .inl ⟨sqL_up hs1 h1, fun l hl => ?_⟩⟩
    have s2 : Same F1 (upd F1 l (.tup vs)) := same_new (hs1.free hl)
    exact q xs s1 _ _ (upd F1 l (.tup vs)) (t1.trans s2) (hs1.frz hl) (.tup (SqT.of upd_same) (dpAll_mono s2 _ vs h2)) hm1) qe
theorem evc_tupV {e : α → PyData} {M : (List α → S → Res ε δ) → Res ε δ} (h : EvC K X De te G Dd s M (tD K (eV e))) : EvC K X De (tCB (cTup K) (tCons te tNil)) G Dd s M (tD K (eV e)) := fun kk σ H F hs ss o r Q hm q qe =>
  h kk σ H F hs ss o r _ hm (fun xs s1 v H1 F1 t1 hs1 r1 hm1 => by
    obtain ⟨a, vs, rfl, h1, h2⟩ := dp_tup r1
    exact ⟨a, vs, rfl, .inr ⟨sqT_up hs1 h1, q xs s1 _ H1 F1 t1 hs1 r1 hm1⟩⟩) qe
theorem evc_unL2 {e : α → PyData} {M : (List α → S → Res ε δ) → Res ε δ} (h : EvC K X De te G Dd s M (tD K (eL e))) : EvC K X De te G Dd s (fun kk => M fun xs s1 => Res.bind (Res.opt (unL2 xs)) fun z => kk z s1) (fun z => TL.D K (.list [e z.1, e z.2])) := fun kk σ H F hs ss o r Q hm q qe =>
  h _ σ H F hs ss o r _ hm (fun xs s1 v H1 F1 t1 hs1 r1 hm1 => by
    obtain ⟨z, e1, hm2⟩ := Res.sat_opt hm1
    match xs, e1 with
    | [a, b], e1 => cases e1; exact q (a, b) s1 v H1 F1 t1 hs1 r1 hm2) qe
theorem evc_unL3 {e : α → PyData} {M : (List α → S → Res ε δ) → Res ε δ} (h : EvC K X De te G Dd s M (tD K (eL e))) : EvC K X De te G Dd s (fun kk => M fun xs s1 => Res.bind (Res.opt (unL3 xs)) fun z => kk z s1) (fun z => TL.D K (.list [e z.1, e z.2.1, e z.2.2])) := fun kk σ H F hs ss o r Q hm q qe =>
  h _ σ H F hs ss o r _ hm (fun xs s1 v H1 F1 t1 hs1 r1 hm1 => by
    obtain ⟨z, e1, hm2⟩ := Res.sat_opt hm1
    match xs, e1 with
    | [a, b, c], e1 => cases e1; exact q (a, b, c) s1 v H1 F1 t1 hs1 r1 hm2) qe
end
end TL

end
section
set_option Elab.async false
set_option linter.all false
set_option maxRecDepth 100000
set_option maxHeartbeats 1000000
/-! # try, errors, tests that are known -/
namespace Res
variable {ε ε' α β γ σ ρ : Type}
/-- what stands in a try; kn: the classes that may come, and whether the clause takes them -/
def tryE (kn : List (PySem.Str × Bool)) (mb : Res Unit σ) (mh : PySem.Str → Res ε ρ) (e0 : ε) (k : σ → Res ε ρ) : Res ε ρ := match mb with
  | .ok s => k s
  | .err n _ => match kn.lookup n with
    | some true => mh n
    | some false => .err n e0
    | none => .stuck
  | .stuck => .stuck
@[simp] theorem tryE_ok (kn : List (PySem.Str × Bool)) (s : σ) (mh : PySem.Str → Res ε ρ) (e0 : ε) (k : σ → Res ε ρ) : tryE kn (.ok s) mh e0 k = k s := rfl
theorem tryE_err {kn : List (PySem.Str × Bool)} {n : PySem.Str} {u : Unit} {mh : PySem.Str → Res ε ρ} {e0 : ε} {k : σ → Res ε ρ} (h : kn.lookup n = some true) : tryE kn (.err n u : Res Unit σ) mh e0 k = mh n := by
  unfold tryE
  simp only [h]
end Res
namespace TL
open PySem PySem.Spec L2
/-- an error whose class is told -/
def EXN (K : PySem.W.Frag) (n : Str) : Ty := IsEx (He.ga K n)
/-- what is known of the classes of errors -/
def excCB (K : PySem.W.Frag) (C : Addr) : Bool :=
  decide (PySem.W.subIn K (.ref C) (.type "BaseException") = some true) &&
  (He.eqO (PySem.W.findIn K (.ref C) "__getattribute__") (some (some (.builtin "BaseException.__getattribute__"))) && (He.eqO (PySem.W.findIn K (.ref C) "__getattr__") (some none) && (PySem.W.hasDictIn K C &&
  (He.eqO (PySem.W.findIn K (.ref C) "__class__") (some (some (.builtin "object.__class__"))) && (decide (PySem.W.specialIn K (.builtin "object.__class__") "__get__" = some (some (.builtin "getset_descriptor.__get__"))) && (decide (PySem.W.takesIn K (.builtin "object.__class__") = some true) &&
  decide (PySem.W.mroIn K C (.type "object") = some true)))))))
theorem excCB_ok {K : PySem.W.Frag} {C : Addr} (h : excCB K C = true) : ExcC K C := by
  unfold excCB at h
  simp only [Bool.and_eq_true, decide_eq_true_eq] at h
  obtain ⟨h3, h5, h6, h7, h8, h9, h10, h11⟩ := h
  exact ⟨He.eqO_ok h5, He.eqO_ok h6, h3, h7, He.eqO_ok h8, h9, h10, h11⟩
def xAllB (K : PySem.W.Frag) (l : List Str) : Bool := l.all fun n => excCB K (He.ga K n)
def xExmB (K : PySem.W.Frag) (kn : List (Str × Bool)) (c : Value) : Bool := kn.all fun q => decide (PySem.W.exmOne K (.ref (He.ga K q.1)) c = some q.2)
def xIsB (K : PySem.W.Frag) (kn : List (Str × Bool)) (c : Value) : Bool := kn.all fun q => decide (PySem.W.kitOne K (.ref (He.ga K q.1)) c = some q.2)
def xAnyB (K : PySem.W.Frag) (kn : List (Str × Bool)) (cs : List Value) : Bool := kn.all fun q => decide (PySem.W.kitAny K (.ref (He.ga K q.1)) cs = some q.2)
theorem lookup_mem {β : Type} {n : Str} {b : β} : ∀ {l : List (Str × β)}, l.lookup n = some b → (n, b) ∈ l
  | [], h => by cases h
  | (m, c) :: l, h => by
    rw [List.lookup_cons] at h
    by_cases q : n = m
    · subst q
      simp at h
      subst h
      exact List.mem_cons_self
    · have q' : (n == m) = false := by simp [q]
      rw [q'] at h
      exact List.mem_cons_of_mem _ (lookup_mem h)
theorem xAllB_ok {K : PySem.W.Frag} {l : List Str} {n : Str} (h : xAllB K l = true) (m : n ∈ l) : ExcC K (He.ga K n) := excCB_ok (List.all_eq_true.mp h n m)
theorem xExmB_ok {K : PySem.W.Frag} {kn : List (Str × Bool)} {c : Value} (h : xExmB K kn c = true) {n : Str} {b : Bool} (e : kn.lookup n = some b) : PySem.W.exmOne K (.ref (He.ga K n)) c = some b := of_decide_eq_true (List.all_eq_true.mp h _ (lookup_mem e))
theorem xIsB_ok {K : PySem.W.Frag} {kn : List (Str × Bool)} {c : Value} (h : xIsB K kn c = true) {n : Str} {b : Bool} (e : kn.lookup n = some b) : PySem.W.kitOne K (.ref (He.ga K n)) c = some b := of_decide_eq_true (List.all_eq_true.mp h _ (lookup_mem e))
theorem xAnyB_ok {K : PySem.W.Frag} {kn : List (Str × Bool)} {c : List Value} (h : xAnyB K kn c = true) {n : Str} {b : Bool} (e : kn.lookup n = some b) : PySem.W.kitAny K (.ref (He.ga K n)) c = some b := of_decide_eq_true (List.all_eq_true.mp h _ (lookup_mem e))
section
variable {K : PySem.W.Frag} {ε ε' ρ α β γ δ S τ τ' σt ω : Type} {X : L2.St → XK} {Xk : XK} {De : ε → Own} {G G1 G2 : Sto} {D0 : Own} {Dd : S → Own} {s : S} {te ta tb tc : TE} {tt tu : TT} {F0 F1 : Hp} {E : Ends} {w : Wish K ε ρ} {t : TA} {n : Nat} {dvs : List V} {args : τ → List Ty} {Rs : τ' → List Ty}
def tryR (kn : List (Str × Bool)) (mh : Str → Res ε ρ) (e0 : ε) (n : Str) : Res ε ρ := match kn.lookup n with
  | some true => mh n
  | some false => .err n e0
  | none => .stuck
abbrev TryErr (w : Wish K ε ρ) (W : WX) (F0 : Hp) (D0 : Own) (Gh : Sto) (kn : List (Str × Bool)) (mh : Str → Res ε ρ) (e0 : ε) : Prop := ∀ (F : Hp) (n : Str) (G : Sto), Same F0 F → w.W F (tryR kn mh e0 n) → SLe G Gh → Go (fun σ H => W (.ref (He.ga K n)) none σ H) F G D0
/-- the wish within a try -/
def tryWish (w : Wish K ε ρ) (W : WX) (F0 : Hp) (D0 : Own) (Gh : Sto) (kn : List (Str × Bool)) (mh : Str → Res ε ρ) (e0 : ε) (k : σt → Res ε ρ) (err : TryErr w W F0 D0 Gh kn mh e0) : Wish K Unit σt where
  X := WE W
  De := fun _ => D0
  o := fun F a => w.W F (k a)
  r := fun F n _ => Same F0 F ∧ w.W F (tryR kn mh e0 n)
  cond := fun G => SLe G Gh
  upo := fun s h => Wish.up h s
  upr := fun s h => ⟨h.1.trans s, Wish.up h.2 s⟩
  err := fun h c => err _ _ _ h.1 h.2 c
theorem go_tryC {c : Value} {i : Nat} {tb : WX → TS} {ts : TS} {Wout : WX} {kn : List (Str × Bool)} {mb : Res Unit σt} {mh : Str → Res ε ρ} {e0 : ε} {k : σt → Res ε ρ} (Gh : Sto) (Gk : σt → Sto)
    (hc : xExmB K kn c = true) (hD : (w.De e0).Sublist D0) (hW : ∀ σ H u, w.X σ u none H → Wout u none σ H) {m : Res ε ρ} (hP : w.W F0 m) (hcd : w.cond Gh) (hG : SLe G Gh)
    (hk : ∀ F, Same F0 F → ∀ s, w.W F (k s) → Go E.nx F (Gk s) D0)
    (hh : (∀ F, Same F0 F → ∀ s, w.W F (k s) → Go E.nx F (Gk s) D0) → ∀ F, Same F0 F → ∀ n, w.W F (mh n) → Go (ts { nx := fun σ' H' => E.nx (σ'.set i none) H', rt := E.rt, bk := fun σ' H' => E.bk (σ'.set i none) H', ct := fun σ' H' => E.ct (σ'.set i none) H' }) F (Gh.set i (some (EXN K n))) D0)
    (hb : (∀ F, Same F0 F → ∀ s, w.W F (k s) → Go E.nx F (Gk s) D0) → ∀ (W : WX) (err : TryErr w W F0 D0 Gh kn mh e0), (tryWish w W F0 D0 Gh kn mh e0 k err).W F0 mb → Go (tb W E) F0 G D0)
    (hm : m = Res.tryE kn mb mh e0 k := by exact rfl) : Go (tTryAs K c i tb ts Wout E) F0 G D0 := by
  subst hm
  refine go_tryAs fun W eW => ?_
  subst eW
  refine hb hk _ (fun F n G s h l => ?_) ?_
  · refine Go.weak ?_ l (List.Sublist.refl _)
    unfold tryR at h
    cases e : kn.lookup n with
    | none =>
      rw [e] at h
      exact (show False from h).elim
    | some b =>
      rw [e] at h
      have k0 := xExmB_ok hc e
      cases b with
      | true => exact go_wAsT k0 (hh hk F s n h)
      | false =>
        intro σ H F' s' hs ss
        exact ⟨false, k0, (fun z => by cases z), fun _ => hW σ H _ (w.err (show w.r F n e0 from h) hcd σ H F' s' (hs.drop hD) ss)⟩
  · unfold Wish.W Res.tryE at hP
    unfold Wish.W Res.sat
    cases mb with
    | ok a => exact hP
    | err n u => exact ⟨Same.refl _, by unfold Wish.W tryR; exact hP⟩
    | stuck => exact hP
/-! isinstance of an error -/
theorem evc_isX {n : Str} {i : Nat} {c : V} {u : Value} {kn : List (Str × Bool)} {l : List Str} (h : G[i]? = some (some (EXN K n))) (hl : xAllB K l = true) (hk : xIsB K kn u = true) (hc : ClsV c u) (hs : kn.map (·.1) = l) :
    EvC (β := δ) K X De (tCB (cIsi K) (tCons (tVar i) (tCons (tC c) tNil))) G Dd s (fun kk => Res.bind (Res.opt (kn.lookup n)) fun z => kk z s) (tD K eB) := fun kk σ H F hs' ss o r Q hm q qe => by
  obtain ⟨b, e, hm2⟩ := Res.sat_opt hm
  have z : Ev (tCB (cIsi K) (tCons (tVar i) (tCons (tC c) tNil))) G (Dd s) (DB K b) (Dd s) := ev_isX (ev_var h) (xAllB_ok hl (by rw [← hs]; exact List.mem_map.mpr ⟨_, lookup_mem e, rfl⟩)) hc (xIsB_ok hk e)
  exact evc_of (X := X) (De := De) (R' := tD K eB) z rfl kk σ H F hs' ss o r Q hm2 q qe
theorem evc_isXT {n : Str} {i : Nat} {Cs : List Addr} {kn : List (Str × Bool)} {l : List Str} (h : G[i]? = some (some (EXN K n))) (hl : xAllB K l = true) (hk : xAnyB K kn (Cs.map Value.ref) = true) (h9 : Cs.length ≤ 100000) (hs : kn.map (·.1) = l) :
    EvC (β := δ) K X De (tCB (cIsiT K) (tCons (tVar i) (tCons (tTup (tCls Cs)) tNil))) G Dd s (fun kk => Res.bind (Res.opt (kn.lookup n)) fun z => kk z s) (tD K eB) := fun kk σ H F hs' ss o r Q hm q qe => by
  obtain ⟨b, e, hm2⟩ := Res.sat_opt hm
  have z : Ev (tCB (cIsiT K) (tCons (tVar i) (tCons (tTup (tCls Cs)) tNil))) G (Dd s) (DB K b) (Dd s) := ev_isXT (ev_var h) (xAllB_ok hl (by rw [← hs]; exact List.mem_map.mpr ⟨_, lookup_mem e, rfl⟩)) h9 (xAnyB_ok hk e)
  exact evc_of (X := X) (De := De) (R' := tD K eB) z rfl kk σ H F hs' ss o r Q hm2 q qe
/-! calls in a try; defaults -/
theorem AllP.app {F : Hp} {vs ws : List V} {Rs Ss : List Ty} (h : AllP F Rs vs) (h' : AllP F Ss ws) : AllP F (Rs ++ Ss) (vs ++ ws) := by
  induction h with
  | nil => exact h'
  | cons a _ ih => exact .cons a ih
/-- any call: the errors' way X, defaults dvs -/
theorem evc_callX {mf : τ → Res Unit γ} {R : γ → Ty} {f : τ' → τ} {M : (τ' → S → Res ε δ) → Res ε δ} {sp : Sp} (hsp : ∀ vs H Q X, spP K args mf (fun r => .ok (R r)) vs H Q X → sp vs H Q X) (g : S → ε) (h : EvAC K X De t G Dd s M Rs) (hde : ∀ s, (De (g s)).Sublist (Dd s)) (hd : ∀ x F vs, AllP F (Rs x) vs → AllP F (args (f x)) (vs ++ dvs)) :
    EvC K X De (tCallSD sp dvs X t) G Dd s (fun kk => M fun x s1 => Res.bind (Res.mapE (fun _ => g s1) (mf (f x))) fun z => kk z s1) R := fun kk σ H F hs ss o r Q hm q qe =>
  h _ σ H F hs ss o r _ hm (fun x s1 vs H1 F1 t1 hs1 r1 hm1 => hsp _ _ _ _ ⟨f x, F1, Dd s1, hs1, hd _ _ _ r1, by
    cases e : mf (f x) with
    | ok z =>
      rw [e] at hm1
      exact fun v H2 F2 t2 hs2 r2 => q z s1 v H2 F2 (t1.trans t2) hs2 r2 hm1
    | err n u =>
      rw [e] at hm1
      exact fun H2 F2 t2 hs2 => qe n _ hm1 H2 F2 (t1.trans t2) (hs2.drop (hde s1))
    | stuck =>
      rw [e] at hm1
      exact hm1⟩) qe
theorem evnc_callX {mf : τ → Res Unit γ} {O : γ → OTy} {f : τ' → τ} {M : (τ' → S → Res ε δ) → Res ε δ} {sp : Sp} (hsp : ∀ vs H Q X, spP K args mf (fun r => .new (O r)) vs H Q X → sp vs H Q X) (g : S → ε) (h : EvAC K X De t G Dd s M Rs) (hde : ∀ s, (De (g s)).Sublist (Dd s)) (hd : ∀ x F vs, AllP F (Rs x) vs → AllP F (args (f x)) (vs ++ dvs)) :
    EvNC K X De (tCallSD sp dvs X t) G Dd s (fun kk => M fun x s1 => Res.bind (Res.mapE (fun _ => g s1) (mf (f x))) fun z => kk z s1) O := fun kk σ H F hs ss o r Q hm q qe =>
  h _ σ H F hs ss o r _ hm (fun x s1 vs H1 F1 t1 hs1 r1 hm1 => hsp _ _ _ _ ⟨f x, F1, Dd s1, hs1, hd _ _ _ r1, by
    cases e : mf (f x) with
    | ok z =>
      rw [e] at hm1
      exact fun p H2 F2 t2 hs2 => q z s1 p H2 F2 (t1.trans t2) hs2 hm1
    | err n u =>
      rw [e] at hm1
      exact fun H2 F2 t2 hs2 => qe n _ hm1 H2 F2 (t1.trans t2) (hs2.drop (hde s1))
    | stuck =>
      rw [e] at hm1
      exact hm1⟩) qe
/-- in a def's own body (the errors' way is X) -/
theorem evc_callD {mf : τ → Res Unit γ} {R : γ → Ty} {f : τ' → τ} {M : (τ' → S → Res ε δ) → Res ε δ} {sp : Sp} (hsp : ∀ vs H Q X, spP K args mf (fun r => .ok (R r)) vs H Q X → sp vs H Q X) (g : S → ε) (h : EvAC K (fun _ => Xk) De t G Dd s M Rs) (hde : ∀ s, (De (g s)).Sublist (Dd s)) (hd : ∀ x F vs, AllP F (Rs x) vs → AllP F (args (f x)) (vs ++ dvs)) :
    EvC K (fun _ => Xk) De (tCall sp dvs Xk t) G Dd s (fun kk => M fun x s1 => Res.bind (Res.mapE (fun _ => g s1) (mf (f x))) fun z => kk z s1) R := evc_callX hsp g h hde hd
theorem evnc_callD {mf : τ → Res Unit γ} {O : γ → OTy} {f : τ' → τ} {M : (τ' → S → Res ε δ) → Res ε δ} {sp : Sp} (hsp : ∀ vs H Q X, spP K args mf (fun r => .new (O r)) vs H Q X → sp vs H Q X) (g : S → ε) (h : EvAC K (fun _ => Xk) De t G Dd s M Rs) (hde : ∀ s, (De (g s)).Sublist (Dd s)) (hd : ∀ x F vs, AllP F (Rs x) vs → AllP F (args (f x)) (vs ++ dvs)) :
    EvNC K (fun _ => Xk) De (tCall sp dvs Xk t) G Dd s (fun kk => M fun x s1 => Res.bind (Res.mapE (fun _ => g s1) (mf (f x))) fun z => kk z s1) O := evnc_callX hsp g h hde hd
/-! tests whose answer is known -/
theorem go_ifT {t u : TS} (h : EvTC (β := ρ) K w.X w.De tt G (fun _ : Unit => D0) () (fun kk => kk true ())) {m : Res ε ρ} (hP : w.W F0 m) (h1 : w.W F0 m → Go (t E) F0 G D0) (c : w.cond G := by first | exact trivial | walk_at "cond") : Go (tIfS tt t u E) F0 G D0 := fun σ H F q hs ss =>
  h (fun b _ => if b = true then m else .stuck) σ H F hs ss _ _ _ hP (fun b _ H1 F1 t1 hs1 hm => by
    cases b with
    | true => exact h1 hP σ H1 F1 (q.trans t1) hs1 (ss.mono t1)
    | false => exact (show False from hm).elim) (fun n e hr H1 F1 t1 hs1 => w.err hr c σ H1 F1 (q.trans t1) hs1 (ss.mono t1))
theorem go_ifF {t u : TS} (h : EvTC (β := ρ) K w.X w.De tt G (fun _ : Unit => D0) () (fun kk => kk false ())) {m : Res ε ρ} (hP : w.W F0 m) (h1 : w.W F0 m → Go (u E) F0 G D0) (c : w.cond G := by first | exact trivial | walk_at "cond") : Go (tIfS tt t u E) F0 G D0 := fun σ H F q hs ss =>
  h (fun b _ => if b = true then .stuck else m) σ H F hs ss _ _ _ hP (fun b _ H1 F1 t1 hs1 hm => by
    cases b with
    | false => exact h1 hP σ H1 F1 (q.trans t1) hs1 (ss.mono t1)
    | true => exact (show False from hm).elim) (fun n e hr H1 F1 t1 hs1 => w.err hr c σ H1 F1 (q.trans t1) hs1 (ss.mono t1))
theorem evc_isN {b : Bool} {x : α} {R : α → Ty} (h : EvC (β := δ) K X De te G Dd s (fun kk => kk x s) R) (hn : ∀ y v F, (R y).p v F → decide (v = V.non) = b) : EvC (β := δ) K X De (tIsN te) G Dd s (fun kk => kk b s) (tD K eB) := fun kk σ H F hs ss o r Q hm q qe =>
  h (fun _ s => kk b s) σ H F hs ss o r _ hm (fun y s1 v H1 F1 t1 hs1 r1 hm1 => by
    show Q (.bl (decide (v = V.non))) H1
    rw [hn y v F1 r1]
    exact q b s1 _ H1 F1 t1 hs1 (.bl b) hm1) qe
theorem evc_isNN {b : Bool} {x : α} {R : α → Ty} (h : EvC (β := δ) K X De te G Dd s (fun kk => kk x s) R) (hn : ∀ y v F, (R y).p v F → decide (v = V.non) = b) : EvC (β := δ) K X De (tNotN te) G Dd s (fun kk => kk (!b) s) (tD K eB) := fun kk σ H F hs ss o r Q hm q qe =>
  h (fun _ s => kk (!b) s) σ H F hs ss o r _ hm (fun y s1 v H1 F1 t1 hs1 r1 hm1 => by
    show Q (.bl (!decide (v = V.non))) H1
    rw [hn y v F1 r1]
    exact q (!b) s1 _ H1 F1 t1 hs1 (.bl _) hm1) qe
theorem isn_U : ∀ (y : Unit) (v : V) (F : Hp), (tD K eU y).p v F → decide (v = V.non) = true := fun y v F r => by
  have e : v = .non := dp_non r
  subst e
  rfl
theorem isn_D {e : α → PyData} (h : ∀ y, tyN (e y) ≠ "NoneType") : ∀ (y : α) (v : V) (F : Hp), (tD K e y).p v F → decide (v = V.non) = false := fun y v F r => decide_eq_false fun z => by
  subst z
  have r' : Dp K F .non (e y) := r
  have hy := h y
  generalize e y = d at r' hy
  cases r' with
  | non => exact hy rfl
end
end TL

end
section
set_option Elab.async false
set_option linter.all false
set_option maxRecDepth 100000
set_option maxHeartbeats 1000000
/-! # things of the program's own classes -/
namespace TL
open PySem PySem.Spec L2
/-! ## reading: methods, makings, with the errors' way in the state -/
structure FoM (P : Program) (w : World) (K : PySem.W.Frag) (mg : Str → Option Value) (base : Heap) (C : Addr) (m : Str) (ps : List Str) (dvs : List V) (k : Nat) (sp : Sp) : Prop where
  ex : ∃ f fd ds, FnOk P w K mg base (L2.CX P w) k f fd ps sp ∧ Cls K C ∧ Meth K C m f ∧ Binds K fd ps ds ∧ Vals dvs ds
structure FoI (P : Program) (w : World) (K : PySem.W.Frag) (mg : Str → Option Value) (base : Heap) (x : Str) (C : Addr) (ps : List Str) (dvs : List V) (k : Nat) (sp : Sp) : Prop where
  ex : ∃ f fd ds, FnOk P w K mg base (L2.CX P w) k f fd ps sp ∧ mg x = some (.ref C) ∧ Mk K C f ∧ Binds K fd ps ds ∧ Vals dvs ds
def tMethSD (C : Addr) (m : Str) (sp : Sp) (dvs : List V) (E : L2.St → XK) (ta : TE) (t : TA) : TE := fun σ H Q => ta σ H fun x H1 => ∃ a dx fs, x = .ref a ∧ H1 a = some (.ins C dx fs) ∧ fs.lookup m = none ∧
  t σ H1 fun vs H2 => sp (x :: (vs ++ dvs)) H2 Q (E σ)
def tMakeSD (C : Addr) (sp : Sp) (dvs : List V) (E : L2.St → XK) (t : TA) : TE := fun σ H Q => t σ H fun vs H1 => ∀ x dx, H1 x = none → H1 dx = none → dx ≠ x →
  sp (.ref x :: (vs ++ dvs)) (upd (upd H1 dx (.own x)) x (.ins C dx [])) (fun v H2 => v = .non ∧ Q (.ref x) H2) (E σ)
section
variable {X : Cx} {k : Nat} {C : Addr} {ps : List Str} {sp : Sp} {dvs : List V} {W : WX} {x m : Str} {p pos apos : Pos} {e o : Expr} {es : List Expr} {ta : TE} {t : TA}
theorem run_fnS {f : Addr} {fd : FuncData} {ds : List Value} {pins : List (Addr × Obj)} {σ : L2.St} {H : Hp} {s : Shared} {Q : VK} {us : List Value} {vs : List V} (F : FnOk X.prog X.w X.K X.mg X.base (L2.CX X.prog X.w) k f fd ps sp) (hr : Room k X.A) (hb : Binds X.K fd ps ds) (hd : Vals dvs ds) (tk : Takes X W)
    (I : Inv X pins σ H s) (r : Vals vs us) (h : sp (vs ++ dvs) H Q (WE W σ)) : wpAny (model X.prog X.w) X.A (call (.ref f) us) (EP X pins σ Q) X.xe s := by
  have r2 : Vals (vs ++ dvs) (us ++ ds) := r.append hd
  have hl : (us ++ ds).length = ps.length := by rw [← r2.length]; exact F.len _ _ _ _ h
  refine wpAny_call (codeAny_mono (F.run X.A X.stack s H ⟨us, []⟩ (us ++ ds) (vs ++ dvs) Q (WE W σ) hr I.env0 (hb s us I.kIn hl) r2 h) fun r s' hq => ?_)
  cases r with
  | error e => exact passAt tk σ pins H s e s' I hq
  | ok fl =>
    cases fl with
    | ret u => exact I.after hq
    | next => exact False.elim hq
    | brk => exact False.elim hq
    | cont => exact False.elim hq
theorem pe_methF {pl : Sem Bool} (he : PE X o ta) (F : FoM X.prog X.w X.K X.mg X.base C m ps dvs k sp) (hr : Room k X.A) (tk : Takes X W) (ha : PA X (e :: es) t)
    (hst : starEach (e :: es) X.env = (false, eval e X.env) :: starEach es X.env := by rfl) (hpl : (backTo pos (starEach es X.env)).any (·.1) = false := by rfl)
    (ht : eval (.Call (.Attribute o m apos) (e :: es) [] pos) X.env = (do
      let ov ← eval o X.env
      standAt apos.atName
      let (f, first) ← holding [ov] (getMethod ov m pl)
      callWith pos f first (backTo pos (starEach (e :: es) X.env)) (backToKw pos (keywordEach [] X.env))) := by rfl) :
    PE X (.Call (.Attribute o m apos) (e :: es) [] pos) (tMethSD C m sp dvs (WE W) ta t) := by
  obtain ⟨f, fd, ds, FF, c, hm, hb, hd⟩ := F.ex
  refine ⟨fun pins s σ H Q I h => ?_⟩
  refine PySem.W.methodCall_KW (pl := pl) (thn (he.run pins s σ H _ I h) fun u s1 ⟨x, H1, I1, rx, a, dx, fs, ex, ea, l, q⟩ => ?_) ht
  subst ex
  obtain rfl : u = Value.ref a := rx
  refine getmeth_ok I1 ea c hm l ?_
  refine PySem.W.callWith_K (first := [.ref a]) (h₀ := X.base) I.ok.mod.kin hm.kp (thn (ha.run pos pins s1 σ H1 _ I1 q) fun us s2 ⟨vs, H2, I2, r, q2⟩ => ⟨I2.kIn, ?_⟩) hst hpl
  exact run_fnS (us := .ref a :: us) (vs := .ref a :: vs) FF hr hb hd tk I2 (.cons rfl r) q2
theorem pe_methF0 {pl : Sem Bool} (he : PE X o ta) (F : FoM X.prog X.w X.K X.mg X.base C m ps dvs k sp) (hr : Room k X.A) (tk : Takes X W)
    (ht : eval (.Call (.Attribute o m apos) [] [] pos) X.env = (do
      let ov ← eval o X.env
      standAt apos.atName
      let (f, first) ← holding [ov] (getMethod ov m pl)
      callWith pos f first (backTo pos (starEach [] X.env)) (backToKw pos (keywordEach [] X.env))) := by rfl) :
    PE X (.Call (.Attribute o m apos) [] [] pos) (tMethSD C m sp dvs (WE W) ta tNil) := by
  obtain ⟨f, fd, ds, FF, c, hm, hb, hd⟩ := F.ex
  refine ⟨fun pins s σ H Q I h => ?_⟩
  refine PySem.W.methodCall_KW (pl := pl) (thn (he.run pins s σ H _ I h) fun u s1 ⟨x, H1, I1, rx, a, dx, fs, ex, ea, l, q⟩ => ?_) ht
  subst ex
  obtain rfl : u = Value.ref a := rx
  refine getmeth_ok I1 ea c hm l ?_
  exact PySem.W.callWith_K0 (first := [.ref a]) I1.kIn hm.kp (run_fnS (us := [.ref a]) (vs := [.ref a]) FF hr hb hd tk I1 (.cons rfl .nil) q)
theorem run_makeS {f : Addr} {fd : FuncData} {ds : List Value} {pins : List (Addr × Obj)} {σ : L2.St} {H : Hp} {s : Shared} {Q : VK} {us : List Value} {vs : List V} (M : Mk X.K C f) (F : FnOk X.prog X.w X.K X.mg X.base (L2.CX X.prog X.w) k f fd ps sp) (hr : Room (k + 1) X.A) (hb : Binds X.K fd ps ds) (hd : Vals dvs ds)
    (tk : Takes X W) (I : Inv X pins σ H s) (r : Vals vs us)
    (h : ∀ x dx, H x = none → H dx = none → dx ≠ x → sp (.ref x :: (vs ++ dvs)) (upd (upd H dx (.own x)) x (.ins C dx [])) (fun v H2 => v = .non ∧ Q (.ref x) H2) (WE W σ)) :
    wpAny (model X.prog X.w) X.A (call (.ref C) us) (EP X pins σ Q) X.xe s := by
  have hq := h (s.heap.objs.size + 1) s.heap.objs.size (I.hok.fresh (Nat.le_succ _)) (I.hok.fresh (Nat.le_refl _)) (Nat.ne_of_lt (Nat.lt_succ_self _))
  have I2 := Inv.made (C := C) I
  have r2 : Vals (V.ref (s.heap.objs.size + 1) :: (vs ++ dvs)) (Value.ref (s.heap.objs.size + 1) :: (us ++ ds)) := .cons rfl (r.append hd)
  have hl : (Value.ref (s.heap.objs.size + 1) :: us ++ ds).length = ps.length := by
    have e := r2.length
    rw [F.len _ _ _ _ hq] at e
    exact e.symm
  refine wpAny_call (make_map (f := f) I.kIn M.makes M.init (beq_iff_eq.mp M.fn) (codeAny_mono (F.run _ X.stack _ _ ⟨Value.ref (s.heap.objs.size + 1) :: us, []⟩ (Value.ref (s.heap.objs.size + 1) :: (us ++ ds)) _ _ (WE W σ) (hr.make C us [])
    (I2.env0.make C us []) (hb _ (Value.ref (s.heap.objs.size + 1) :: us) I2.kIn hl) r2 hq) fun r s' hq' => ?_))
  cases r with
  | error e => exact passAt tk σ pins _ _ e s' I2 hq'
  | ok fl =>
    cases fl with
    | ret u =>
      obtain ⟨v, H', I3, rv, ev, q3⟩ := I2.after hq'
      subst ev
      exact ⟨rv, ⟨V.ref (s.heap.objs.size + 1), H', I3, rfl, q3⟩⟩
    | next => exact False.elim hq'
    | brk => exact False.elim hq'
    | cont => exact False.elim hq'
theorem pe_makeF (F : FoI X.prog X.w X.K X.mg X.base x C ps dvs k sp) (hr : Room (k + 1) X.A) (tk : Takes X W)
    (ha : PA X (e :: es) t) (hg : Gl X x := by rfl) (hdb : (x == ("__debug__" : Str)) = false := by decide) (he : starEach (e :: es) X.env = (false, eval e X.env) :: starEach es X.env := by rfl) (hpl : (backTo pos (starEach es X.env)).any (·.1) = false := by rfl) :
    PE X (.Call (.Name x p) (e :: es) [] pos) (tMakeSD C sp dvs (WE W) t) := by
  obtain ⟨f, fd, ds, FF, hm, M, hb, hd⟩ := F.ex
  refine ⟨fun pins s σ H Q I h => ?_⟩
  refine wpAny_Call_Name_kw (ld_glob I hg hm ?_ hdb)
  refine PySem.W.callWith_K (h₀ := X.base) I.ok.mod.kin M.kp (thn (ha.run pos pins s σ H _ I h) fun us s1 ⟨vs, H1, I1, r, q⟩ => ⟨I1.kIn, ?_⟩) he hpl
  exact run_makeS M FF hr hb hd tk I1 r q
end
/-! ## what is known of a thing -/
/-- the fields of a thing, in the order in which they were set -/
abbrev Fds : Type := List (Str × Ty)
def FdsP (F : Hp) (fds : Fds) (fs : List (Str × V)) : Prop := fs.map (·.1) = fds.map (·.1) ∧ AllP F (fds.map (·.2)) (fs.map (·.2))
theorem FdsP.up {F F' : Hp} {fds : Fds} {fs : List (Str × V)} (h : FdsP F fds fs) (s : Same F F') : FdsP F' fds fs := ⟨h.1, h.2.mono s⟩
/-- a thing that is being made, or is changed -/
def OI (K : PySem.W.Frag) (C : Addr) (fds : Fds) : OTy := ⟨fun o F => ∃ dx fs, o = .ins C dx fs ∧ FdsP F fds fs, fun s ⟨dx, fs, e, h⟩ => ⟨dx, fs, e, h.up s⟩⟩
/-- a thing that stands -/
def IN (K : PySem.W.Frag) (C : Addr) (fds : Fds) : Ty := ⟨fun v F => ∃ a dx fs, v = .ref a ∧ F a = some (.ins C dx fs) ∧ FdsP F fds fs, fun s ⟨a, dx, fs, e, h, h2⟩ => ⟨a, dx, fs, e, s _ _ h, h2.up s⟩⟩
/-- .. at a known place -/
def INa (K : PySem.W.Frag) (C : Addr) (a : Addr) (fds : Fds) : Ty := ⟨fun v F => v = .ref a ∧ ∃ dx fs, F a = some (.ins C dx fs) ∧ FdsP F fds fs, fun s ⟨e, dx, fs, h, h2⟩ => ⟨e, dx, fs, s _ _ h, h2.up s⟩⟩
theorem INa.to {K : PySem.W.Frag} {C a : Addr} {fds : Fds} {v : V} {F : Hp} (h : (INa K C a fds).p v F) : (IN K C fds).p v F := let ⟨e, dx, fs, h1, h2⟩ := h; ⟨a, dx, fs, e, h1, h2⟩
theorem lookup_at : ∀ {fs : List (Str × V)} {j : Nat} {f : Str} {v : V}, (fs.map (·.1)).Nodup → (fs.map (·.1))[j]? = some f → (fs.map (·.2))[j]? = some v → fs.lookup f = some v
  | [], j, f, v, _, h, _ => by simp at h
  | (g, u) :: fs, 0, f, v, nd, h1, h2 => by
    simp at h1 h2
    subst h1 h2
    simp
  | (g, u) :: fs, j + 1, f, v, nd, h1, h2 => by
    have ne : ¬ f = g := fun z => by
      subst z
      have h1' : (fs.map (·.1))[j]? = some f := by simpa using h1
      rw [List.map_cons, List.nodup_cons] at nd
      exact nd.1 (List.mem_of_getElem? h1')
    rw [List.lookup_cons]
    have q : (f == g) = false := by simp [ne]
    rw [q]
    rw [List.map_cons, List.nodup_cons] at nd
    exact lookup_at nd.2 (by simpa using h1) (by simpa using h2)
theorem lookup_off {fs : List (Str × V)} {m : Str} (h : m ∉ fs.map (·.1)) : fs.lookup m = none := by
  induction fs with
  | nil => rfl
  | cons x fs ih =>
    rw [List.map_cons, List.mem_cons, not_or] at h
    rw [List.lookup_cons]
    have q : (m == x.1) = false := by simp [h.1]
    rw [q]
    exact ih h.2
theorem FdsP.at {F : Hp} {fds : Fds} {fs : List (Str × V)} (h : FdsP F fds fs) {j : Nat} {f : Str} {R : Ty} (nd : (fds.map (·.1)).Nodup) (e : fds[j]? = some (f, R)) : ∃ v, fs.lookup f = some v ∧ R.p v F := by
  have e1 : (fds.map (·.1))[j]? = some f := by rw [List.getElem?_map, e]; rfl
  have e2 : (fds.map (·.2))[j]? = some R := by rw [List.getElem?_map, e]; rfl
  obtain ⟨v, h1, h2⟩ := h.2.get e2
  exact ⟨v, lookup_at (by rw [h.1]; exact nd) (by rw [h.1]; exact e1) h1, h2⟩
section
variable {K : PySem.W.Frag} {ε ε' ρ α β γ δ S τ τ' σt ω : Type} {X : L2.St → XK} {Xk : XK} {De : ε → Own} {G G1 G2 : Sto} {D0 : Own} {Dd : S → Own} {s : S} {te ta tb tc : TE} {tt tu : TT} {F0 F1 : Hp} {E : Ends} {w : Wish K ε ρ} {t : TA} {n : Nat} {dvs : List V} {args : τ → List Ty} {Rs : τ' → List Ty} {C : Addr}
/-- x.f of a thing that stands -/
theorem evc_fld {j : Nat} {f : Str} {fl : α → Fds} {Rx : α → Ty} {R : γ → Ty} {g : α → γ} {M : (α → S → Res ε δ) → Res ε δ} (h : EvC K X De te G Dd s M Rx) (hx : ∀ x v F, (Rx x).p v F → (IN K C (fl x)).p v F) (c : Cls K C) (na : NoAttr K C f)
    {ns : List Str} (hns : ∀ x, (fl x).map (·.1) = ns) (nd : ns.Nodup) (e : ∀ x, (fl x)[j]? = some (f, R (g x))) : EvC K X De (tFld K te f) G Dd s (fun kk => M fun x s1 => kk (g x) s1) R := fun kk σ H F hs ss o r Q hm q qe =>
  h _ σ H F hs ss o r _ hm (fun x s1 v H1 F1 t1 hs1 r1 hm1 => by
    obtain ⟨a, dx, fs, e0, h1, h2⟩ := hx x v F1 r1
    obtain ⟨u, h3, h4⟩ := h2.at (by rw [hns x]; exact nd) (e x)
    exact ⟨a, C, dx, fs, u, e0, hs1.sub _ _ h1, c, na, h3, q (g x) s1 u H1 F1 t1 hs1 h4 hm1⟩) qe
/-- .. of one's own thing -/
theorem evc_fldO {j k i : Nat} {a : Addr} {f : Str} {fds : Fds} {R : γ → Ty} (x : γ) (hi : G[i]? = some (some (Is (.ref a)))) (hk : ∀ s, (Dd s)[k]? = some (a, OI K C fds)) (c : Cls K C) (na : NoAttr K C f) {ns : List Str} (hns : fds.map (·.1) = ns) (nd : ns.Nodup) (e : fds[j]? = some (f, R x)) :
    EvC (β := δ) K X De (tFld K (tVar i) f) G Dd s (fun kk => kk x s) R := fun kk σ H F hs ss o r Q hm q qe => by
  obtain ⟨v, e1, e2⟩ := ss.get hi
  have ev : v = .ref a := e2
  subst ev
  obtain ⟨o1, ho, dx, fs, rfl, h2⟩ := hs.at (hk s)
  obtain ⟨u, h3, h4⟩ := h2.at (by rw [hns]; exact nd) e
  exact ⟨_, e1, a, C, dx, fs, u, rfl, ho, c, na, h3, q x s u H F (Same.refl _) hs h4 hm⟩
theorem putF_new {f : Str} {y : V} : ∀ {fs : List (Str × V)}, f ∉ fs.map (·.1) → putF f y fs = fs ++ [(f, y)]
  | [], _ => rfl
  | (g, u) :: fs, h => by
    rw [List.map_cons, List.mem_cons, not_or] at h
    unfold putF
    first
      | rw [if_neg (Ne.symm h.1), putF_new h.2]; rfl
      | rw [if_neg h.1, putF_new h.2]; rfl
      | (simp only [beq_iff_eq]; rw [if_neg (Ne.symm h.1), putF_new h.2]; rfl)
      | (simp only [beq_iff_eq]; rw [if_neg h.1, putF_new h.2]; rfl)
/-- self.f = e, a new field -/
theorem go_fldC {i k : Nat} {a : Addr} {f : Str} {fds : Fds} {R : α → Ty} {M : (α → S → Res ε ρ) → Res ε ρ} {kk : α × S → Res ε ρ} (h : EvC K w.X w.De te G Dd s M R) (hi : G[i]? = some (some (Is (.ref a)))) (hk : ∀ s, (Dd s)[k]? = some (a, OI K C fds)) (c : Cls K C) (na : NoAttr K C f) {ns : List Str} (hns : fds.map (·.1) = ns) (hn : f ∉ ns) (hl : fds.length < 1000)
    {m : Res ε ρ} (hP : w.W F0 m) (q : ∀ x, w.W F0 (kk x) → Go E.nx F0 G ((Dd x.2).set k (a, OI K C (fds ++ [(f, R x.1)])))) (cc : w.cond G := by first | exact trivial | walk_at "cond") (hm : m = (M fun v s' => Res.bind (.ok (v, s')) kk) := by exact rfl) : Go (sFld K (tVar i) te f E) F0 G (Dd s) := by subst hm; exact (fun σ H F t hs ss =>
  h _ σ H F hs ss _ _ _ hP (fun x s' y H1 F1 t1 hs1 r1 hm => by
    obtain ⟨v, e1, e2⟩ := (ss.mono t1).get hi
    have ev : v = .ref a := e2
    subst ev
    obtain ⟨o1, ho, dx, fs, rfl, h2⟩ := hs1.at (hk s')
    have ln : fs.length = fds.length := by
      have := congrArg List.length h2.1
      simpa using this
    refine ⟨_, e1, a, C, dx, fs, rfl, ho, c, na, by rw [ln]; exact hl, ?_⟩
    refine q (x, s') hm σ _ F1 (t.trans t1) (hs1.put (hk s') ⟨dx, _, rfl, ?_⟩) (ss.mono t1)
    rw [putF_new (by rw [h2.1, hns]; exact hn)]
    refine ⟨by simp [h2.1], ?_⟩
    rw [List.map_append, List.map_append]
    exact h2.2.app (.cons r1 .nil)) (fun n e hr H1 F1 t1 hs1 => w.err hr cc σ H1 F1 (t.trans t1) hs1 (ss.mono t1)))
/-- a thing of one's own, held by the slot i, stands from now on -/
theorem go_frzI {P : L2.St → Hp → Prop} {k i : Nat} {a : Addr} {fds : Fds} (hk : D0[k]? = some (a, OI K C fds)) (hi : G[i]? = some (some (Is (.ref a)))) (h : Go P F0 (G.set i (some (INa K C a fds))) (D0.eraseIdx k)) : Go P F0 G D0 := fun σ H F s hs ss => by
  obtain ⟨o, ⟨dx, fs, e0, hx⟩, hs2, s2⟩ := hs.freeze hk
  subst e0
  obtain ⟨v, e1, e2⟩ := ss.get hi
  have ev : v = .ref a := e2
  subst ev
  have z := (ss.mono s2).set (R := INa K C a fds) (v := .ref a) ⟨rfl, dx, fs, upd_same, hx.up s2⟩ i
  rw [set_get e1] at z
  exact h σ H _ (s.trans s2) hs2 z
/-- x.m(..) of a thing that stands -/
theorem evc_methX {m : Str} {fl : α → Fds} {Rx : α → Ty} {R : γ → Ty} {mf : τ → Res Unit γ} {f : α → τ' → τ} {Ma : (α → S → Res ε δ) → Res ε δ} {Mt : S → (τ' → S → Res ε δ) → Res ε δ} {sp : Sp} (hsp : ∀ vs H Q X, spP K args mf (fun r => .ok (R r)) vs H Q X → sp vs H Q X) (g : S → ε)
    (ha : EvC K X De ta G Dd s Ma Rx) (ht : ∀ s1, EvAC K X De t G Dd s1 (Mt s1) Rs) (hx : ∀ x v F, (Rx x).p v F → (IN K C (fl x)).p v F) {ns : List Str} (hns : ∀ x, (fl x).map (·.1) = ns) (hn : m ∉ ns) (hde : ∀ s, (De (g s)).Sublist (Dd s))
    (hd : ∀ x y F v vs, (Rx x).p v F → AllP F (Rs y) vs → AllP F (args (f x y)) (v :: (vs ++ dvs))) :
    EvC K X De (tMethSD C m sp dvs X ta t) G Dd s (fun kk => Ma fun x s1 => Mt s1 fun y s2 => Res.bind (Res.mapE (fun _ => g s2) (mf (f x y))) fun z => kk z s2) R := fun kk σ H F hs ss o r Q hm q qe =>
  ha _ σ H F hs ss o r _ hm (fun x s1 v H1 F1 t1 hs1 r1 hm1 => by
    obtain ⟨a, dx, fs, e0, h1, h2⟩ := hx x v F1 r1
    refine ⟨a, dx, fs, e0, hs1.sub _ _ h1, lookup_off (by rw [h2.1, hns x]; exact hn), ht s1 _ σ H1 F1 hs1 (ss.mono t1) o r _ hm1 (fun y s2 vs H2 F2 t2 hs2 r2 hm2 => hsp _ _ _ _ ⟨f x y, F2, Dd s2, hs2, hd _ _ _ _ _ ((Rx x).mono t2 r1) r2, ?_⟩) (fun n e h H2 F2 t2 => qe n e h H2 F2 (t1.trans t2))⟩
    cases e : mf (f x y) with
    | ok z =>
      rw [e] at hm2
      exact fun v H3 F3 t3 hs3 r3 => q z s2 v H3 F3 ((t1.trans t2).trans t3) hs3 r3 hm2
    | err n u =>
      rw [e] at hm2
      exact fun H3 F3 t3 hs3 => qe n _ hm2 H3 F3 ((t1.trans t2).trans t3) (hs3.drop (hde s2))
    | stuck =>
      rw [e] at hm2
      exact hm2) qe
theorem evnc_methX {m : Str} {fl : α → Fds} {Rx : α → Ty} {O : γ → OTy} {mf : τ → Res Unit γ} {f : α → τ' → τ} {Ma : (α → S → Res ε δ) → Res ε δ} {Mt : S → (τ' → S → Res ε δ) → Res ε δ} {sp : Sp} (hsp : ∀ vs H Q X, spP K args mf (fun r => .new (O r)) vs H Q X → sp vs H Q X) (g : S → ε)
    (ha : EvC K X De ta G Dd s Ma Rx) (ht : ∀ s1, EvAC K X De t G Dd s1 (Mt s1) Rs) (hx : ∀ x v F, (Rx x).p v F → (IN K C (fl x)).p v F) {ns : List Str} (hns : ∀ x, (fl x).map (·.1) = ns) (hn : m ∉ ns) (hde : ∀ s, (De (g s)).Sublist (Dd s))
    (hd : ∀ x y F v vs, (Rx x).p v F → AllP F (Rs y) vs → AllP F (args (f x y)) (v :: (vs ++ dvs))) :
    EvNC K X De (tMethSD C m sp dvs X ta t) G Dd s (fun kk => Ma fun x s1 => Mt s1 fun y s2 => Res.bind (Res.mapE (fun _ => g s2) (mf (f x y))) fun z => kk z s2) O := fun kk σ H F hs ss o r Q hm q qe =>
  ha _ σ H F hs ss o r _ hm (fun x s1 v H1 F1 t1 hs1 r1 hm1 => by
    obtain ⟨a, dx, fs, e0, h1, h2⟩ := hx x v F1 r1
    refine ⟨a, dx, fs, e0, hs1.sub _ _ h1, lookup_off (by rw [h2.1, hns x]; exact hn), ht s1 _ σ H1 F1 hs1 (ss.mono t1) o r _ hm1 (fun y s2 vs H2 F2 t2 hs2 r2 hm2 => hsp _ _ _ _ ⟨f x y, F2, Dd s2, hs2, hd _ _ _ _ _ ((Rx x).mono t2 r1) r2, ?_⟩) (fun n e h H2 F2 t2 => qe n e h H2 F2 (t1.trans t2))⟩
    cases e : mf (f x y) with
    | ok z =>
      rw [e] at hm2
      exact fun v H3 F3 t3 hs3 => q z s2 v H3 F3 ((t1.trans t2).trans t3) hs3 hm2
    | err n u =>
      rw [e] at hm2
      exact fun H3 F3 t3 hs3 => qe n _ hm2 H3 F3 ((t1.trans t2).trans t3) (hs3.drop (hde s2))
    | stuck =>
      rw [e] at hm2
      exact hm2) qe
/-! ## __init__ -/
/-- the end of a making: the thing stands -/
def GoI (K : PySem.W.Frag) (Q : VK) (F : Hp) (C a : Addr) (fds : Fds) (D : Own) : Prop := ∀ H' F', Same F F' → HS D H' F' → (INa K C a fds).p (.ref a) F' → Q .non H'
theorem GoI.up {Q : VK} {F F' : Hp} {a : Addr} {fds : Fds} {D : Own} (h : GoI K Q F C a fds D) (s : Same F F') : GoI K Q F' C a fds D := fun H1 F1 t hs r => h H1 F1 (s.trans t) hs r
def iwish (K : PySem.W.Frag) (C : Addr) (Xk : XK) (Q : VK) (a : Addr) (fl : ρ → Fds) (D : Own) : Wish K Unit ρ where
  X := fun _ => Xk
  De := fun _ => D
  o := fun F r => GoI K Q F C a (fl r) D
  r := fun F n _ => GoX Xk F (.ref (He.ga K n)) D
  cond := fun _ => True
  upo := fun s h => h.up s
  upr := fun s h => GoX.up h s
  err := fun h _ σ H F s hs _ => h H F s hs
def spI (K : PySem.W.Frag) (C : Addr) {τ ρ : Type} (args : τ → List Ty) (mf : τ → Res Unit ρ) (fl : ρ → Fds) : Sp := fun vs H Q X => ∃ (x : τ) (F : Hp) (D : Own) (a : Addr) (us : List V), vs = .ref a :: us ∧ HS ((a, OI K C []) :: D) H F ∧ AllP F (args x) us ∧ (iwish K C X Q a fl D).W F (mf x)
theorem spI_len {args : τ → List Ty} {mf : τ → Res Unit γ} {fl : γ → Fds} {k : Nat} (h : ∀ x, (args x).length = k) : ∀ vs H Q E, spI K C args mf fl vs H Q E → vs.length = k + 1 := fun vs H Q E ⟨x, F, D, a, us, e, hs, ha, _⟩ => by
  rw [e, List.length_cons, ha.len, h x]
theorem pure_ofI {args : τ → List Ty} {mf : τ → Res Unit γ} {fl : γ → Fds} {N : List Str} {tf : TS} {vs : List V} {H : Hp} {Q : VK} {X : XK}
    (walk : ∀ (x : τ) (F : Hp) (D : Own) (a : Addr) (E : Ends), E.rt = Q → (∀ F1 r G D1, GoI K Q F1 C a (fl r) D → G[0]? = some (some (INa K C a (fl r))) → D.Sublist D1 → Go E.nx F1 G D1) → (iwish K C X Q a fl D).W F (mf x) → Go (tf E) F (some (Is (.ref a)) :: ((args x).map some ++ List.replicate (N.length - 1 - (args x).length) none)) ((a, OI K C []) :: D))
    (h : spI K C args mf fl vs H Q X) : tf { nx := fun _ H' => Q .non H', rt := Q } (L2.start N vs) H := by
  obtain ⟨x, F, D, a, us, e, hs, ha, hp⟩ := h
  subst e
  have z := SS.start (N := N) (AllP.cons (R := Is (.ref a)) rfl ha)
  rw [List.length_cons, ha.len] at z
  have e2 : ((Is (.ref a) :: args x).map some ++ List.replicate (N.length - ((args x).length + 1)) none) = some (Is (.ref a)) :: ((args x).map some ++ List.replicate (N.length - 1 - (args x).length) none) := by
    rw [List.map_cons, List.cons_append, Nat.sub_sub, Nat.add_comm 1]
  rw [e2] at z
  refine walk x F D a { nx := fun _ H' => Q .non H', rt := Q } rfl (fun F1 r G D1 g hg sb σ H' F' s hs' ss => ?_) hp _ H F (Same.refl _) hs z
  obtain ⟨v, e1, e3⟩ := ss.get hg
  have ev : v = .ref a := e3.1
  subst ev
  exact g H' F' s (hs'.drop sb) e3
/-- C(..) -/
theorem evc_makeX {R : γ → Ty} {mf : τ → Res Unit γ} {fl : γ → Fds} {f : τ' → τ} {M : (τ' → S → Res ε δ) → Res ε δ} {sp : Sp} (hsp : ∀ vs H Q X, spI K C args mf fl vs H Q X → sp vs H Q X) (g : S → ε) (h : EvAC K X De t G Dd s M Rs) (hde : ∀ s, (De (g s)).Sublist (Dd s)) (hd : ∀ x F vs, AllP F (Rs x) vs → AllP F (args (f x)) (vs ++ dvs))
    (hR : ∀ r v F, (IN K C (fl r)).p v F → (R r).p v F) :
    EvC K X De (tMakeSD C sp dvs X t) G Dd s (fun kk => M fun x s1 => Res.bind (Res.mapE (fun _ => g s1) (mf (f x))) fun z => kk z s1) R := fun kk σ H F hs ss o r Q hm q qe =>
  h _ σ H F hs ss o r _ hm (fun x s1 vs H1 F1 t1 hs1 r1 hm1 a dx na nd ne => hsp _ _ _ _ ⟨f x, F1, Dd s1, a, _, rfl, by
    have hs2 : HS (Dd s1) (upd H1 dx (.own a)) F1 := ⟨hs1.sub.trans (same_new nd), fun b O' m => by
      obtain ⟨h1, o1, h2, h3⟩ := hs1.own b O' m
      refine ⟨h1, o1, ?_, h3⟩
      rw [upd_ne fun z => by subst z; rw [nd] at h2; cases h2]
      exact h2, hs1.nd⟩
    exact hs2.new (by rw [upd_ne (Ne.symm ne)]; exact na) ⟨dx, [], rfl, rfl, .nil⟩, hd _ _ _ r1, by
    cases e : mf (f x) with
    | ok z =>
      rw [e] at hm1
      intro H' F' s' hs' r'
      exact ⟨rfl, q z s1 _ H' F' (t1.trans s') hs' (hR _ _ _ (INa.to r')) hm1⟩
    | err n u =>
      rw [e] at hm1
      exact fun H2 F2 t2 hs2 => qe n _ hm1 H2 F2 (t1.trans t2) (hs2.drop (hde s1))
    | stuck =>
      rw [e] at hm1
      exact hm1⟩) qe
end
end TL

end
section
set_option Elab.async false
set_option linter.all false
set_option maxRecDepth 100000
set_option maxHeartbeats 1000000
/-! # signs of texts, all and any, sets' sizes -/
namespace TL
open PySem PySem.Spec L2
/-- the signs of a text -/
def Tx.signs (t : Tx) : List Tx := t.s.cps.toList.pmap (fun c h => Tx.sg c h) fun c hc => t.all c hc
theorem Tx.signs_map (t : Tx) : t.signs.map (·.s) = t.s.cps.toList.map fun c => (⟨#[c]⟩ : Str) := by
  unfold Tx.signs
  rw [List.map_pmap]
  exact List.pmap_eq_map ..
/-- whether a text lies in a text -/
def Tx.has (t u : Tx) : Bool := !(Builtin.Str.occurrences t.s u.s 0 t.s.length 1).isEmpty
/-- how many texts a set of them holds -/
def nset (xs : List Tx) : Int := ((metS (xs.map (·.s)) xs.length).length : Int)
def rInS (neg : Bool) : R2 := fun x y H Q => ∃ i j, x = .str i ∧ y = .str j ∧ Q (.bl (if neg then !(!(Builtin.Str.occurrences j i 0 j.length 1).isEmpty) else !(Builtin.Str.occurrences j i 0 j.length 1).isEmpty)) H
theorem op_inS {X : Cx} : OpR X (compareOp .In) (rInS false) := op_in_str
theorem op_notinS {X : Cx} : OpR X (compareOp .NotIn) (rInS true) := op_notin_str
section
variable {K : PySem.W.Frag} {ε ε' ρ α β γ δ S τ τ' σt ω : Type} {X : L2.St → XK} {De : ε → Own} {G G1 G2 : Sto} {D0 : Own} {Dd : S → Own} {s : S} {te ta tb tc tx : TE} {tt tu : TT} {F0 F1 : Hp} {E : Ends} {w : Wish K ε ρ} {t : TA}
theorem evItc_S {M : (Tx → S → Res ε δ) → Res ε δ} (h : EvC K X De te G Dd s M (tD K eS)) : EvItC K X De (iStr te) G Dd s (fun _ => True) (fun kk => M fun x s1 => kk (Tx.signs x) s1) (tD K eS) := fun kk σ H F hs ss o r Q hm q qe =>
  h _ σ H F hs ss o r _ hm (fun x s1 v H1 F1 t1 hs1 r1 hm1 => by
    refine ⟨x.s, dp_str r1, q (Tx.signs x) s1 _ H1 F1 t1 hs1 (fun D H2 F2 _ s2 hs2 i => ?_) hm1⟩
    have sm := x.signs_map
    have ln : x.signs.length = x.s.cps.size := by
      have := congrArg List.length sm
      simpa using this
    refine ⟨fun R hR => ?_, fun hl => ?_⟩
    · rw [List.getElem?_map] at hR
      cases q2 : x.signs[i]? with
      | none => rw [q2] at hR; cases hR
      | some z =>
        rw [q2] at hR
        cases hR
        have lt : i < x.s.cps.size := by rw [← ln]; exact (List.getElem?_eq_some_iff.mp q2).1
        refine ⟨lt, fun y H' hy => ?_⟩
        obtain ⟨e1, c, e2, e3⟩ := hy
        subst e1 e3
        have e4 : (x.signs.map (·.s))[i]? = some z.s := by rw [List.getElem?_map, q2]; rfl
        rw [sm, List.getElem?_map, Array.getElem?_toList, e2] at e4
        have e5 : (⟨#[c]⟩ : Str) = z.s := Option.some.inj e4
        rw [e5]
        exact ⟨F2, Same.refl _, hs2, .str _⟩
    · show x.s.cps.size ≤ i
      rw [← ln]
      simpa using hl) qe
theorem evc_inTx {Ma : (Tx → S → Res ε δ) → Res ε δ} {Mb : S → (Tx → S → Res ε δ) → Res ε δ} (ha : EvC K X De ta G Dd s Ma (tD K eS)) (hb : ∀ s1, EvC K X De tb G Dd s1 (Mb s1) (tD K eS)) : EvC K X De (tOp (rInS false) ta tb) G Dd s (fun kk => Ma fun a s1 => Mb s1 fun b s2 => kk (Tx.has b a) s2) (tD K eB) :=
  evc2 ha hb fun a b s2 x y H F hs rx ry Q q => ⟨a.s, b.s, dp_str rx, dp_str ry, q _ H F (Same.refl _) hs (.bl _)⟩
theorem evc_notinTx {Ma : (Tx → S → Res ε δ) → Res ε δ} {Mb : S → (Tx → S → Res ε δ) → Res ε δ} (ha : EvC K X De ta G Dd s Ma (tD K eS)) (hb : ∀ s1, EvC K X De tb G Dd s1 (Mb s1) (tD K eS)) : EvC K X De (tOp (rInS true) ta tb) G Dd s (fun kk => Ma fun a s1 => Mb s1 fun b s2 => kk (!Tx.has b a) s2) (tD K eB) :=
  evc2 ha hb fun a b s2 x y H F hs rx ry Q q => ⟨a.s, b.s, dp_str rx, dp_str ry, q _ H F (Same.refl _) hs (.bl _)⟩
theorem evc_lenSet {M : (List Tx → S → Res ε δ) → Res ε δ} (h : EvC K X De te G Dd s M (tD K (eL eS))) : EvC K X De (tLenSetN K te) G Dd s (fun kk => M fun xs s1 => Res.bind (Res.grd (xs.length + 1 < 4096) (nset xs)) fun z => kk z s1) (tD K eI) := fun kk σ H F hs ss o r Q hm q qe =>
  h _ σ H F hs ss o r _ hm (fun xs s1 v H1 F1 t1 hs1 r1 hm1 => by
    obtain ⟨hl, hm2⟩ := Res.sat_grd hm1
    obtain ⟨p, vs, rfl, h1, h2⟩ := dp_lst r1
    have e := allP_strs (K := K) (map_allP h2)
    subst e
    refine ⟨p, xs.map (·.s), rfl, sqL_up hs1 h1, by rw [List.length_map]; exact hl, ?_⟩
    rw [List.length_map]
    exact q (nset xs) s1 _ H1 F1 t1 hs1 (.int _) hm2) qe
theorem allP_bls {F : Hp} : ∀ {bs : List Bool} {vs : List V}, AllP F (bs.map (tD K eB)) vs → vs = bs.map V.bl
  | [], _, h => by cases h; rfl
  | b :: bs, _, h => by
    cases h with
    | cons h1 h2 =>
      rw [allP_bls h2, dp_bl h1]
      rfl
theorem evc_all {M : (List Bool → S → Res ε δ) → Res ε δ} (h : EvC K X De te G Dd s M (tD K (eL eB))) : EvC K X De (tCB (rAll K) (tCons te tNil)) G Dd s (fun kk => M fun xs s1 => kk (xs.all id) s1) (tD K eB) := fun kk σ H F hs ss o r Q hm q qe =>
  h _ σ H F hs ss o r _ hm (fun xs s1 v H1 F1 t1 hs1 r1 hm1 => by
    obtain ⟨p, vs, rfl, h1, h2⟩ := dp_lst r1
    have e := allP_bls (K := K) (map_allP h2)
    subst e
    exact ⟨p, xs, rfl, sqL_up hs1 h1, q _ s1 _ H1 F1 t1 hs1 (.bl _) hm1⟩) qe
theorem evc_any {M : (List Bool → S → Res ε δ) → Res ε δ} (h : EvC K X De te G Dd s M (tD K (eL eB))) : EvC K X De (tCB (rAny K) (tCons te tNil)) G Dd s (fun kk => M fun xs s1 => kk (xs.any id) s1) (tD K eB) := fun kk σ H F hs ss o r Q hm q qe =>
  h _ σ H F hs ss o r _ hm (fun xs s1 v H1 F1 t1 hs1 r1 hm1 => by
    obtain ⟨p, vs, rfl, h1, h2⟩ := dp_lst r1
    have e := allP_bls (K := K) (map_allP h2)
    subst e
    exact ⟨p, xs, rfl, sqL_up hs1 h1, q _ s1 _ H1 F1 t1 hs1 (.bl _) hm1⟩) qe
/-- len of a tuple of a known shape -/
theorem evc_lenT {n : Nat} {e : α → PyData} {M : (α → S → Res ε δ) → Res ε δ} (h : EvC K X De te G Dd s M (tD K e)) (hn : ∀ x : α, ∃ ds, e x = .tuple ds ∧ ds.length = n) : EvC K X De (tCB (cLen K) (tCons te tNil)) G Dd s (fun kk => M fun _ s1 => kk (n : Int) s1) (tD K eI) := fun kk σ H F hs ss o r Q hm q qe =>
  h _ σ H F hs ss o r _ hm (fun x s1 v H1 F1 t1 hs1 r1 hm1 => by
    obtain ⟨ds, e1, e2⟩ := hn x
    have r1' : Dp K F1 v (e x) := r1
    rw [e1] at r1'
    obtain ⟨a, xs, rfl, h2, h3⟩ := dp_tup r1'
    exact ⟨_, n, rfl, .inr ⟨xs, sqT_up hs1 h2, by rw [← dpAll_len h3] at e2; exact e2.symm⟩, q (n : Int) s1 _ H1 F1 t1 hs1 (.int _) hm1⟩) qe
end
end TL

end
section
set_option Elab.async false
set_option linter.all false
set_option maxRecDepth 100000
set_option maxHeartbeats 1000000
/-! # what the head tells of classes; defs by name -/
namespace TL
open PySem PySem.Spec L2
section
variable {P : Program} {w : World} {K : PySem.W.Frag} {mg : Str → Option Value} {base : Heap} {x m : Str} {C : Addr} {ps : List Str} {k : Nat} {sp : Sp} {f : Addr} {fd : FuncData} {name qual : Str} {params : Arguments} {body : List Stmt} {scope : Scope}
theorem fom_mk (F : FunD K name qual params body scope [] [] f fd) (c : Cls K C) (hm : Meth K C m f) (ok : FnOk P w K mg base (L2.CX P w) k f fd ps sp)
    (h : ∀ (kV doc pm : Value) (an : Option Addr) (cdv ct : Value) (us : List Value), us.length = ps.length → bindArgs (PySem.W.fnOf name qual params body scope .none kV doc pm an cdv ct) ⟨us, []⟩ = pure (ps.zip us)) : FoM P w K mg base C m ps [] k sp :=
  ⟨f, fd, [], ok, c, hm, FunD.bindsN F h, .nil⟩
theorem foi_mk (F : FunD K name qual params body scope [] [] f fd) (hg : mg x = some (.ref C)) (M : Mk K C f) (ok : FnOk P w K mg base (L2.CX P w) k f fd ps sp)
    (h : ∀ (kV doc pm : Value) (an : Option Addr) (cdv ct : Value) (us : List Value), us.length = ps.length → bindArgs (PySem.W.fnOf name qual params body scope .none kV doc pm an cdv ct) ⟨us, []⟩ = pure (ps.zip us)) : FoI P w K mg base x C ps [] k sp :=
  ⟨f, fd, [], ok, hg, M, FunD.bindsN F h, .nil⟩
variable {dvs : List V}
theorem fom_mkD (F : FunD K name qual params body scope dvs [] f fd) (c : Cls K C) (hm : Meth K C m f) (ok : FnOk P w K mg base (L2.CX P w) k f fd ps sp) (n j : Nat) (hd : dvs ≠ []) (hn : n + (dvs.length - j) = ps.length)
    (h : ∀ (T : Addr) (kV doc pm : Value) (an : Option Addr) (cdv ct : Value) (us its : List Value), us.length = n → its.length = dvs.length →
      ∃ k, bindArgs (PySem.W.fnOf name qual params body scope (.ref T) kV doc pm an cdv ct) ⟨us, []⟩ = seqItems? (.ref T) >>= k ∧ k (some its.toArray) = pure (ps.zip (us ++ its.drop j))) : FoM P w K mg base C m ps (dvs.drop j) k sp := by
  obtain ⟨ds, h1, h2⟩ := FunD.binds1 F n j hd hn h
  exact ⟨f, fd, ds, ok, c, hm, h2, h1⟩
theorem foi_mkD (F : FunD K name qual params body scope dvs [] f fd) (hg : mg x = some (.ref C)) (M : Mk K C f) (ok : FnOk P w K mg base (L2.CX P w) k f fd ps sp) (n j : Nat) (hd : dvs ≠ []) (hn : n + (dvs.length - j) = ps.length)
    (h : ∀ (T : Addr) (kV doc pm : Value) (an : Option Addr) (cdv ct : Value) (us its : List Value), us.length = n → its.length = dvs.length →
      ∃ k, bindArgs (PySem.W.fnOf name qual params body scope (.ref T) kV doc pm an cdv ct) ⟨us, []⟩ = seqItems? (.ref T) >>= k ∧ k (some its.toArray) = pure (ps.zip (us ++ its.drop j))) : FoI P w K mg base x C ps (dvs.drop j) k sp := by
  obtain ⟨ds, h1, h2⟩ := FunD.binds1 F n j hd hn h
  exact ⟨f, fd, ds, ok, hg, M, h2, h1⟩
end
section
variable {F : Hp} {τ : Type} {args : τ → List Ty}
theorem hd0 : ∀ (x : τ) (F : Hp) (vs : List V), AllP F (args x) vs → AllP F (args x) (vs ++ []) := fun x F vs h => by rw [List.append_nil]; exact h
theorem hdm0 {α τ' : Type} {Rx : α → Ty} {Rs : τ' → List Ty} : ∀ (x : α) (y : τ') (F : Hp) (v : V) (vs : List V), (Rx x).p v F → AllP F (Rs y) vs → AllP F (Rx x :: Rs y) (v :: (vs ++ [])) := fun x y F v vs r h => by rw [List.append_nil]; exact .cons r h
variable {K : PySem.W.Frag} {ε δ α β γ ζ η S : Type} {X : L2.St → XK} {De : ε → Own} {G : Sto} {Dd : S → Own} {s : S} {te : TE}
theorem evc_tup4 {t : TA} {a : α → PyData} {b : β → PyData} {c : γ → PyData} {d : ζ → PyData} {M : ((α × β × γ × ζ × Unit) → S → Res ε δ) → Res ε δ} (h : EvAC K X De t G Dd s M (fun t => tD K a t.1 :: tD K b t.2.1 :: tD K c t.2.2.1 :: tD K d t.2.2.2.1 :: [])) : EvC K X De (tTup t) G Dd s (fun kk => M fun t s1 => kk (t.1, t.2.1, t.2.2.1, t.2.2.2.1) s1) (tD K (e4 a b c d)) := fun kk σ H F hs ss o r Q hm q qe =>
  h _ σ H F hs ss o r _ hm (fun t s1 vs H1 F1 t1 hs1 r1 hm1 => by
    have r2 : DpAll K F1 vs [a t.1, b t.2.1, c t.2.2.1, d t.2.2.2.1] := allP_dp (ds := [a t.1, b t.2.1, c t.2.2.1, d t.2.2.2.1]) r1
    refine ⟨by rw [dpAll_len r2]; exact Nat.le_trans (show 4 ≤ 100000 by decide) sizeLine_big, fun p hp => ?_⟩
    have t2 : Same F1 (upd F1 p (.tup vs)) := same_new (hs1.free hp)
    exact q _ s1 _ _ _ (t1.trans t2) (hs1.frz hp) (.tup (SqT.of upd_same) (dpAll_mono t2 _ vs r2)) hm1) qe
theorem evc_tup5 {t : TA} {a : α → PyData} {b : β → PyData} {c : γ → PyData} {d : ζ → PyData} {e : η → PyData} {M : ((α × β × γ × ζ × η × Unit) → S → Res ε δ) → Res ε δ} (h : EvAC K X De t G Dd s M (fun t => tD K a t.1 :: tD K b t.2.1 :: tD K c t.2.2.1 :: tD K d t.2.2.2.1 :: tD K e t.2.2.2.2.1 :: [])) : EvC K X De (tTup t) G Dd s (fun kk => M fun t s1 => kk (t.1, t.2.1, t.2.2.1, t.2.2.2.1, t.2.2.2.2.1) s1) (tD K (e5 a b c d e)) := fun kk σ H F hs ss o r Q hm q qe =>
  h _ σ H F hs ss o r _ hm (fun t s1 vs H1 F1 t1 hs1 r1 hm1 => by
    have r2 : DpAll K F1 vs [a t.1, b t.2.1, c t.2.2.1, d t.2.2.2.1, e t.2.2.2.2.1] := allP_dp (ds := [a t.1, b t.2.1, c t.2.2.1, d t.2.2.2.1, e t.2.2.2.2.1]) r1
    refine ⟨by rw [dpAll_len r2]; exact Nat.le_trans (show 5 ≤ 100000 by decide) sizeLine_big, fun p hp => ?_⟩
    have t2 : Same F1 (upd F1 p (.tup vs)) := same_new (hs1.free hp)
    exact q _ s1 _ _ _ (t1.trans t2) (hs1.frz hp) (.tup (SqT.of upd_same) (dpAll_mono t2 _ vs r2)) hm1) qe
theorem isn_IN {C : Addr} {fl : α → Fds} : ∀ (y : α) (v : V) (F : Hp), (IN K C (fl y)).p v F → decide (v = V.non) = false := fun y v F ⟨a, dx, fs, e, _⟩ => decide_eq_false fun z => by rw [e] at z; cases z
theorem evc_weak {R R' : α → Ty} {M : (α → S → Res ε δ) → Res ε δ} (h : EvC K X De te G Dd s M R) (hx : ∀ x v F, (R x).p v F → (R' x).p v F) : EvC K X De te G Dd s M R' := fun kk σ H F hs ss o r Q hm q qe =>
  h kk σ H F hs ss o r Q hm (fun x s' v H' F' t hs' r' hm' => q x s' v H' F' t hs' (hx x v F' r') hm') qe
end
end TL

end
section
set_option Elab.async false
set_option linter.all false
set_option maxRecDepth 100000
set_option maxHeartbeats 1000000
/-! # numbers as texts, beginnings and parts of texts -/
namespace TL
open PySem PySem.Spec L2
theorem str_lay (s : String) : PyData.canLay0 (.str (Str.ofString s)) = true := canLay_of fun c hc => by
  rw [Str.ofString_eq_toList] at hc
  have h : ∃ ch : Char, c = ch.toNat := by
    simp only [List.mem_map] at hc
    obtain ⟨ch, _, e⟩ := hc
    exact ⟨ch, e.symm⟩
  obtain ⟨ch, rfl⟩ := h
  have := ch.valid
  rcases this with h | h
  · exact Nat.lt_trans h (by decide)
  · exact h.2
/-- a number's text -/
def Tx.ofI (i : Int) : Tx := ⟨Str.ofString (toString i), str_lay _⟩
def Tx.int? (t : Tx) : Option Int := if t.s.length ≤ 640 then intText? t.s else none
def Tx.starts (t u : Tx) : Bool := Txt.startswith t.s u.s
theorem part_all (t u : Tx) : ∀ c, c ∈ (Txt.partition t.s u.s).1.cps.toList ∨ c ∈ (Txt.partition t.s u.s).2.1.cps.toList ∨ c ∈ (Txt.partition t.s u.s).2.2.cps.toList → c < 0x110000 := fun c h => by
  have e := congrArg (fun z : Str => z.cps.toList) (PySem.StrLaws.partition_sum t.s u.s)
  simp only [app_cps] at e
  refine t.all c ?_
  rw [← e]
  rcases h with h | h | h
  · exact List.mem_append_left _ (List.mem_append_left _ h)
  · exact List.mem_append_left _ (List.mem_append_right _ h)
  · exact List.mem_append_right _ h
def Tx.part (t u : Tx) : Tx × Tx × Tx := (⟨(Txt.partition t.s u.s).1, canLay_of fun c h => part_all t u c (.inl h)⟩, ⟨(Txt.partition t.s u.s).2.1, canLay_of fun c h => part_all t u c (.inr (.inl h))⟩, ⟨(Txt.partition t.s u.s).2.2, canLay_of fun c h => part_all t u c (.inr (.inr h))⟩)
theorem mul_all (t : Tx) (n : Int) : ∀ c ∈ (Txt.mul t.s n).cps.toList, c < 0x110000 := fun c h => by
  unfold Txt.mul at h
  split at h
  · exact absurd h (by decide +revert)
  · split at h
    · exact t.all c h
    · have key : ∀ (k : Nat) (acc : Array Nat), (∀ c ∈ acc.toList, c < 0x110000) → ∀ c ∈ ((List.replicate k t.s.cps).foldl (· ++ ·) acc).toList, c < 0x110000 := by
        intro k
        induction k with
        | zero => intro acc ha c hc; exact ha c hc
        | succ k ih =>
          intro acc ha
          rw [List.replicate_succ, List.foldl_cons]
          refine ih _ fun c hc => ?_
          rw [Array.toList_append] at hc
          rcases List.mem_append.mp hc with q | q
          · exact ha c q
          · exact t.all c q
      exact key _ #[] (fun c hc => by cases hc) c h
def Tx.mul (t : Tx) (n : Int) : Tx := ⟨Txt.mul t.s n, canLay_of (mul_all t n)⟩
def rStrI : List V → Hp → VK → Prop := fun xs H Q => ∃ i, xs = [.int i] ∧ i.natAbs.log2 < 1920 ∧ Q (.str (toString i)) H
def rIntS : List V → Hp → VK → Prop := fun xs H Q => ∃ a n, xs = [.str a] ∧ PySem.intText? a = some n ∧ a.length ≤ 640 ∧ Q (.int n) H
def rStarts : V → List V → Hp → VK → Prop := fun x xs H Q => ∃ a b, x = .str a ∧ xs = [.str b] ∧ Q (.bl (Txt.startswith a b)) H
def rPart : V → List V → Hp → VK → Prop := fun x xs H Q => ∃ a b, x = .str a ∧ xs = [.str b] ∧ (b.length == 0) = false ∧ a.length ≤ sizeLine ∧ ∀ p, H p = none → Q (.ref p) (upd H p (.tup [.str (Txt.partition a b).1, .str (Txt.partition a b).2.1, .str (Txt.partition a b).2.2]))
def rMulS : R2 := fun x y H Q => ∃ a n, x = .str a ∧ y = .int n ∧ MulOk a n ∧ Q (.str (Txt.mul a n)) H
section
variable {X : Cx} {o e : Expr} {to te : TE} {apos pos : Pos}
theorem call_strI : CallR X (.type "str") rStrI := call_str_int
theorem call_intS : CallR X (.type "int") rIntS := call_int_str
theorem pe_starts (ho : PE X o to) (he : PE X e te) (hs : starEach [e] X.env = [(false, eval e X.env)] := by rfl) (hbase : attributeBase o "startswith" X.env (eval o X.env) = eval o X.env := by rfl) (hline : (apos.endLine == pos.line) = true := by rfl) :
    PE X (.Call (.Attribute o "startswith" apos) [e] [] pos) (tM1 rStarts to te) := pe_m1 F.slot_str_startswith F.type_str_startswith mt_startswith ho he hs hbase hline
theorem op_mulS : OpR X (binaryOp .Mult) rMulS := by
  intro pins s σ H x y v u Q I rx ry h
  obtain ⟨a, n, rfl, rfl, ok, q⟩ := h
  obtain ⟨t, rfl⟩ := rx
  obtain ⟨t', rfl⟩ := ry
  exact PySem.SB.mul ok fun t' k => ⟨.str (Txt.mul a n), H, I.tok k, ⟨_, rfl⟩, q⟩
end
section
variable {K : PySem.W.Frag} {ε ε' ρ α β γ δ S τ τ' σt ω : Type} {X : L2.St → XK} {De : ε → Own} {G G1 G2 : Sto} {D0 : Own} {Dd : S → Own} {s : S} {te ta tb tc tx : TE} {tt tu : TT} {F0 F1 : Hp} {E : Ends} {w : Wish K ε ρ} {t : TA}
theorem evc_strI {M : (Int → S → Res ε δ) → Res ε δ} (h : EvC K X De te G Dd s M (tD K eI)) : EvC K X De (tCB rStrI (tCons te tNil)) G Dd s (fun kk => M fun i s1 => Res.bind (Res.grd (i.natAbs.log2 < 1920) (Tx.ofI i)) fun z => kk z s1) (tD K eS) := fun kk σ H F hs ss o r Q hm q qe =>
  h _ σ H F hs ss o r _ hm (fun i s1 v H1 F1 t1 hs1 r1 hm1 => by
    obtain ⟨c, hm2⟩ := Res.sat_grd hm1
    exact ⟨i, by rw [dp_int r1], c, q (Tx.ofI i) s1 _ H1 F1 t1 hs1 (.str _) hm2⟩) qe
theorem evc_intS {M : (Tx → S → Res ε δ) → Res ε δ} (h : EvC K X De te G Dd s M (tD K eS)) : EvC K X De (tCB rIntS (tCons te tNil)) G Dd s (fun kk => M fun a s1 => Res.bind (Res.opt (Tx.int? a)) fun z => kk z s1) (tD K eI) := fun kk σ H F hs ss o r Q hm q qe =>
  h _ σ H F hs ss o r _ hm (fun a s1 v H1 F1 t1 hs1 r1 hm1 => by
    obtain ⟨z, e, hm2⟩ := Res.sat_opt hm1
    unfold Tx.int? at e
    split at e
    · rename_i hl
      exact ⟨a.s, z, by rw [dp_str r1], e, hl, q z s1 _ H1 F1 t1 hs1 (.int _) hm2⟩
    · cases e) qe
theorem evc_starts {Ma : (Tx → S → Res ε δ) → Res ε δ} {Mb : S → (Tx → S → Res ε δ) → Res ε δ} (ha : EvC K X De ta G Dd s Ma (tD K eS)) (hb : ∀ s1, EvC K X De tb G Dd s1 (Mb s1) (tD K eS)) :
    EvC K X De (tM1 rStarts ta tb) G Dd s (fun kk => Ma fun a s1 => Mb s1 fun b s2 => kk (Tx.starts a b) s2) (tD K eB) := fun kk σ H F hs ss o r Q hm q qe =>
  ha _ σ H F hs ss o r _ hm (fun a s1 v H1 F1 t1 hs1 r1 hm1 => ⟨⟨a.s, dp_str r1⟩, hb s1 _ σ H1 F1 hs1 (ss.mono t1) o r _ hm1 (fun b s2 u H2 F2 t2 hs2 r2 hm2 =>
    ⟨a.s, b.s, dp_str r1, by rw [dp_str r2], q (Tx.starts a b) s2 _ H2 F2 (t1.trans t2) hs2 (.bl _) hm2⟩) (fun n e h H2 F2 t2 => qe n e h H2 F2 (t1.trans t2))⟩) qe
theorem evc_part {Ma : (Tx → S → Res ε δ) → Res ε δ} {Mb : S → (Tx → S → Res ε δ) → Res ε δ} (ha : EvC K X De ta G Dd s Ma (tD K eS)) (hb : ∀ s1, EvC K X De tb G Dd s1 (Mb s1) (tD K eS)) :
    EvC K X De (tM1 rPart ta tb) G Dd s (fun kk => Ma fun a s1 => Mb s1 fun b s2 => Res.bind (Res.grd (0 < b.len ∧ a.len ≤ 100000) (Tx.part a b)) fun z => kk z s2) (tD K (e3 eS eS eS)) := fun kk σ H F hs ss o r Q hm q qe =>
  ha _ σ H F hs ss o r _ hm (fun a s1 v H1 F1 t1 hs1 r1 hm1 => ⟨⟨a.s, dp_str r1⟩, hb s1 _ σ H1 F1 hs1 (ss.mono t1) o r _ hm1 (fun b s2 u H2 F2 t2 hs2 r2 hm2 => by
    obtain ⟨⟨c1, c2⟩, hm3⟩ := Res.sat_grd hm2
    refine ⟨a.s, b.s, dp_str r1, by rw [dp_str r2], ?_, Nat.le_trans c2 sizeLine_big, fun p hp => ?_⟩
    · have : b.s.length ≠ 0 := Nat.ne_of_gt c1
      simpa using this
    · have t3 : Same F2 (upd F2 p (.tup [.str (Txt.partition a.s b.s).1, .str (Txt.partition a.s b.s).2.1, .str (Txt.partition a.s b.s).2.2])) := same_new (hs2.free hp)
      refine q (Tx.part a b) s2 _ _ _ ((t1.trans t2).trans t3) (hs2.frz hp) ?_ hm3
      exact .tup (SqT.of upd_same) (.cons (.str _) (.cons (.str _) (.cons (.str _) .nil)))) (fun n e h H2 F2 t2 => qe n e h H2 F2 (t1.trans t2))⟩) qe
theorem evc_mulS {Ma : (Tx → S → Res ε δ) → Res ε δ} {Mb : S → (Int → S → Res ε δ) → Res ε δ} (ha : EvC K X De ta G Dd s Ma (tD K eS)) (hb : ∀ s1, EvC K X De tb G Dd s1 (Mb s1) (tD K eI)) :
    EvC K X De (tOp rMulS ta tb) G Dd s (fun kk => Ma fun a s1 => Mb s1 fun b s2 => Res.bind (Res.grd (MulOk a.s b) (Tx.mul a b)) fun z => kk z s2) (tD K eS) :=
  evc2g ha hb fun a b s2 x y H F c hs rx ry Q q => ⟨a.s, b, dp_str rx, by rw [dp_int ry], c, q _ H F (Same.refl _) hs (.str _)⟩
theorem evc_q2 {M : (Rat → S → Res ε δ) → Res ε δ} (h : EvC K X De te G Dd s M (tD K eQ)) : EvC K X De te G Dd s (fun kk => M fun r s1 => kk (r.num, ((r.den : Nat) : Int)) s1) (tD K (e2 eI eI)) := fun kk σ H F hs ss o r Q hm q qe =>
  h _ σ H F hs ss o r Q hm (fun x s' v H' F' t hs' r' hm' => q (x.num, ((x.den : Nat) : Int)) s' v H' F' t hs' r' hm') qe
end
end TL

end
section
set_option Elab.async false
set_option linter.all false
set_option maxRecDepth 100000
set_option maxHeartbeats 1000000
/-! # calls with a cell made for them; owned lists compared, popped, lengthened -/
namespace TL
open PySem PySem.Spec L2
def popL {α : Type} (xs : List α) : Option (α × List α) := match xs.getLast? with
  | some y => some (y, xs.dropLast)
  | none => none
section
variable {K : PySem.W.Frag} {ε ε' ρ α β γ δ S τ τ' σt ω : Type} {X : L2.St → XK} {Xk : XK} {De : ε → Own} {G G1 G2 : Sto} {D0 : Own} {Dd : S → Own} {s : S} {te ta tb tc tx : TE} {tt tu : TT} {F0 F1 : Hp} {E : Ends} {w : Wish K ε ρ} {t : TA} {n : Nat} {Rs : τ → List Ty}
/-- f(g(..), ..): g's new thing is f's cell -/
theorem evc_callCN {O : ω → OTy} {args : Addr → τ → List Ty} {mf : τ → ω → Res ω (γ × ω)} {R : γ → Ty} {Mn : (ω → S → Res ε δ) → Res ε δ} {Mt : S → (τ → S → Res ε δ) → Res ε δ} {sp : Sp} (hsp : ∀ vs H Q X, spC K O args mf (fun r => .ok (R r)) vs H Q X → sp vs H Q X) (g : S → ε)
    (hn : EvNC K (fun _ => Xk) De ta G Dd s Mn O) (ht : ∀ y p s1, EvAC K (fun _ => Xk) De t G (fun s => (p, O y) :: Dd s) s1 (Mt s1) Rs) (ha : ∀ a x, args a x = Is (.ref a) :: Rs x) (hde : ∀ s, (De (g s)).Sublist (Dd s)) :
    EvC K (fun _ => Xk) De (tCall sp [] Xk (tCons ta t)) G Dd s (fun kk => Mn fun y s1 => Mt s1 fun x s2 => Res.bind (Res.mapE (fun _ => g s2) (mf x y)) fun z => kk z.1 s2) R := fun kk σ H F hs ss o r Q hm q qe =>
  hn _ σ H F hs ss o r _ hm (fun y s1 p H1 F1 t1 hs1 hm1 => ht y p s1 _ σ H1 F1 hs1 (ss.mono t1) o r _ hm1 (fun x s2 vs H2 F2 t2 hs2 r2 hm2 => hsp _ _ _ _ ⟨x, y, F2, fun y' => (p, O y') :: Dd s2, 0, p, Bor.here, hs2, by rw [List.append_nil, ha]; exact .cons rfl r2, by
    cases e : mf x y with
    | ok z =>
      rw [e] at hm2
      exact fun v H3 F3 t3 hs3 r3 => q z.1 s2 v H3 F3 ((t1.trans t2).trans t3) (hs3.drop (List.sublist_cons_self _ _)) r3 hm2
    | err n u =>
      rw [e] at hm2
      exact fun H3 F3 t3 hs3 => qe n _ hm2 H3 F3 ((t1.trans t2).trans t3) ((hs3.drop (List.sublist_cons_self _ _)).drop (hde s2))
    | stuck =>
      rw [e] at hm2
      exact hm2⟩) (fun n e h H2 F2 t2 => qe n e h H2 F2 (t1.trans t2))) qe
theorem evnc_callCN {O : ω → OTy} {args : Addr → τ → List Ty} {mf : τ → ω → Res ω (γ × ω)} {O2 : γ → OTy} {Mn : (ω → S → Res ε δ) → Res ε δ} {Mt : S → (τ → S → Res ε δ) → Res ε δ} {sp : Sp} (hsp : ∀ vs H Q X, spC K O args mf (fun r => .new (O2 r)) vs H Q X → sp vs H Q X) (g : S → ε)
    (hn : EvNC K (fun _ => Xk) De ta G Dd s Mn O) (ht : ∀ y p s1, EvAC K (fun _ => Xk) De t G (fun s => (p, O y) :: Dd s) s1 (Mt s1) Rs) (ha : ∀ a x, args a x = Is (.ref a) :: Rs x) (hde : ∀ s, (De (g s)).Sublist (Dd s)) :
    EvNC K (fun _ => Xk) De (tCall sp [] Xk (tCons ta t)) G Dd s (fun kk => Mn fun y s1 => Mt s1 fun x s2 => Res.bind (Res.mapE (fun _ => g s2) (mf x y)) fun z => kk z.1 s2) O2 := fun kk σ H F hs ss o r Q hm q qe =>
  hn _ σ H F hs ss o r _ hm (fun y s1 p H1 F1 t1 hs1 hm1 => ht y p s1 _ σ H1 F1 hs1 (ss.mono t1) o r _ hm1 (fun x s2 vs H2 F2 t2 hs2 r2 hm2 => hsp _ _ _ _ ⟨x, y, F2, fun y' => (p, O y') :: Dd s2, 0, p, Bor.here, hs2, by rw [List.append_nil, ha]; exact .cons rfl r2, by
    cases e : mf x y with
    | ok z =>
      rw [e] at hm2
      exact fun v H3 F3 t3 hs3 => q z.1 s2 v H3 F3 ((t1.trans t2).trans t3) (hs3.drop ((List.sublist_cons_self _ _).cons₂ _)) hm2
    | err n u =>
      rw [e] at hm2
      exact fun H3 F3 t3 hs3 => qe n _ hm2 H3 F3 ((t1.trans t2).trans t3) ((hs3.drop (List.sublist_cons_self _ _)).drop (hde s2))
    | stuck =>
      rw [e] at hm2
      exact hm2⟩) (fun n e h H2 F2 t2 => qe n e h H2 F2 (t1.trans t2))) qe
/-- an owned list against a value -/
theorem evc_eqO [DecidableEq α] {e : α → PyData} {m i k : Nat} {a : Addr} {xs : List α} {Mb : (List α → S → Res ε δ) → Res ε δ} (he : Enc (eL e) m) (hi : G[i]? = some (some (Is (.ref a)))) (hk : ∀ s, (Dd s)[k]? = some (a, OLT (tD K e) xs)) (hb : EvC K X De tb G Dd s Mb (tD K (eL e))) (hn : m ≤ 64 := by decide) :
    EvC K X De (tOp (qEq K) (tVar i) tb) G Dd s (fun kk => Mb fun b s2 => kk (decide (xs = b)) s2) (tD K eB) := fun kk σ H F hs ss o r Q hm q qe => by
  obtain ⟨v, e1, e2⟩ := ss.get hi
  have ev : v = .ref a := e2
  subst ev
  refine ⟨_, e1, hb _ σ H F hs ss o r _ hm (fun b s2 y H2 F2 t2 hs2 r2 hm2 => ?_) qe⟩
  obtain ⟨o1, ho, vs, rfl, hx⟩ := hs2.at (hk s2)
  refine .inr ⟨eL e xs, eL e b, .lst (SqL.of ho) (dpAll_mono hs2.sub _ vs (allP_map hx)), dp_up hs2 r2, he.shaped hn xs, he.shaped hn b, ?_⟩
  rw [he.eq]
  exact q _ s2 _ H2 F2 t2 hs2 (.bl _) hm2
theorem evc_neO [DecidableEq α] {e : α → PyData} {m i k : Nat} {a : Addr} {xs : List α} {Mb : (List α → S → Res ε δ) → Res ε δ} (he : Enc (eL e) m) (hi : G[i]? = some (some (Is (.ref a)))) (hk : ∀ s, (Dd s)[k]? = some (a, OLT (tD K e) xs)) (hb : EvC K X De tb G Dd s Mb (tD K (eL e))) (hn : m ≤ 64 := by decide) :
    EvC K X De (tOp (qNe K) (tVar i) tb) G Dd s (fun kk => Mb fun b s2 => kk (!decide (xs = b)) s2) (tD K eB) := fun kk σ H F hs ss o r Q hm q qe => by
  obtain ⟨v, e1, e2⟩ := ss.get hi
  have ev : v = .ref a := e2
  subst ev
  refine ⟨_, e1, hb _ σ H F hs ss o r _ hm (fun b s2 y H2 F2 t2 hs2 r2 hm2 => ?_) qe⟩
  obtain ⟨o1, ho, vs, rfl, hx⟩ := hs2.at (hk s2)
  refine .inr ⟨eL e xs, eL e b, .lst (SqL.of ho) (dpAll_mono hs2.sub _ vs (allP_map hx)), dp_up hs2 r2, he.shaped hn xs, he.shaped hn b, ?_⟩
  rw [he.eq]
  exact q _ s2 _ H2 F2 t2 hs2 (.bl _) hm2
/-- xs.pop() -/
theorem evc_popL {R : α → Ty} {k i : Nat} {a : Addr} {Dd : List α → Own} {s : List α} (B : Bor1 Dd k a (OLT R)) (hi : G[i]? = some (some (Is (.ref a)))) : EvC (β := δ) K X De (tBM0 K "list" rPop (tVar i)) G Dd s (fun kk => Res.bind (Res.opt (popL s)) fun z => kk z.1 z.2) R := fun kk σ H F hs ss o r Q hm q qe => by
  obtain ⟨v, e1, e2⟩ := ss.get hi
  have ev : v = .ref a := e2
  subst ev
  obtain ⟨z, ez, hm2⟩ := Res.sat_opt hm
  obtain ⟨o1, ho, vs, rfl, hx⟩ := hs.at (B.at_ s)
  unfold popL at ez
  have ln := hx.len
  rw [List.length_map] at ln
  cases el : s.getLast? with
  | none => simp [el] at ez
  | some y =>
    simp only [el] at ez
    cases ez
    rw [List.getLast?_eq_getElem?] at el
    have e3 : (s.map R)[s.length - 1]? = some (R y) := by rw [List.getElem?_map, el]; rfl
    obtain ⟨u, hu, ru⟩ := hx.get e3
    refine ⟨_, e1, .inl ⟨rfl, vs, SqL.of ho⟩, a, vs, u, rfl, rfl, ho, by rw [ln]; exact hu, ?_⟩
    refine q y s.dropLast u _ F (Same.refl _) ?_ ru hm2
    have z := hs.put (O' := OLT R s.dropLast) (o := .lst vs.dropLast) (B.at_ s) ⟨_, rfl, ?_⟩
    · rw [B.set_ s] at z
      exact z
    · have key : ∀ {Rs : List Ty} {us : List V}, AllP F Rs us → AllP F Rs.dropLast us.dropLast := by
        intro Rs us h
        induction h with
        | nil => exact .nil
        | cons a h ih =>
          cases h with
          | nil => exact .nil
          | cons b h => exact .cons a ih
      have := key hx
      rwa [← List.map_dropLast] at this
end
end TL

end
section
set_option Elab.async false
set_option linter.all false
set_option maxRecDepth 100000
set_option maxHeartbeats 1000000
/-! # two cells in one expression -/
namespace TL
open PySem PySem.Spec L2
section
variable {K : PySem.W.Frag} {ε ε' ρ α β γ δ S τ τ' σt ω Ω : Type} {X : L2.St → XK} {Xk : XK} {De : ε → Own} {G G1 G2 : Sto} {D0 : Own} {Dd : S → Own} {s : S} {te ta tb tc tx : TE} {tt tu : TT} {F0 F1 : Hp} {E : Ends} {w : Wish K ε ρ} {t : TA} {n : Nat} {Rs : τ → List Ty} {gt : Ω → ω} {st : Ω → ω → Ω} {O : ω → OTy} {k : Nat} {a : Addr}
theorem Bor.ahead {Dp : Ω → Own} {c : Ω → Addr × OTy} (B : Bor Dp k a O gt st) (h : ∀ w v, c (st w v) = c w) : Bor (fun w => c w :: Dp w) (k + 1) a O gt st :=
  ⟨fun w => by rw [List.getElem?_cons_succ]; exact B.at_ w, fun w v => by rw [List.set_cons_succ, B.set_ w v, h]⟩
theorem Bor.at0 {D : Ω → Own} (h1 : ∀ w v, gt (st w v) = v) (h2 : ∀ w v, D (st w v) = D w) : Bor (fun w => (a, O (gt w)) :: D w) 0 a O gt st :=
  ⟨fun w => rfl, fun w v => by rw [List.set_cons_zero, h1, h2]⟩
theorem Bor.of1 {Dp : ω → Own} (B : Bor1 Dp k a O) (h1 : ∀ w v, gt (st w v) = v) : Bor (fun w => Dp (gt w)) k a O gt st :=
  ⟨fun w => B.at_ (gt w), fun w v => by rw [h1]; exact B.set_ (gt w) v⟩
theorem evc_callCL {args : Addr → τ → List Ty} {mf : τ → ω → Res ω (γ × ω)} {R : γ → Ty} {Dd : Ω → Own} {s : Ω} {M : (τ → Ω → Res ε δ) → Res ε δ} {sp : Sp} (hsp : ∀ vs H Q X, spC K O args mf (fun r => .ok (R r)) vs H Q X → sp vs H Q X) {g : Ω → ω → ε} (B : Bor Dd k a O gt st) (h : EvAC K (fun _ => Xk) De t G Dd s M (args a)) (hde : ∀ s y, (De (g s y)).Sublist (Dd (st s y))) (hsg : ∀ w v v', st (st w v) v' = st w v') (hgs : ∀ w v, gt (st w v) = v) (hid : ∀ w, st w (gt w) = w) :
    EvC K (fun _ => Xk) De (tCall sp [] Xk t) G Dd s (fun kk => M fun x s1 => Res.bind (Res.mapE (g s1) (mf x (gt s1))) fun z => kk z.1 (st s1 z.2)) R := fun kk σ H F hs ss o r Q hm q qe =>
  h _ σ H F hs ss o r _ hm (fun x s1 vs H1 F1 t1 hs1 r1 hm1 => hsp _ _ _ _ ⟨x, gt s1, F1, fun y => Dd (st s1 y), k, a, ⟨fun y => by rw [B.at_, hgs]; rfl, fun y v => by rw [B.set_, hsg]⟩, by show HS (Dd (st s1 (gt s1))) H1 F1; rw [hid]; exact hs1, by rw [List.append_nil]; exact r1, by
    cases e : mf x (gt s1) with
    | ok z =>
      rw [e] at hm1
      exact fun v H2 F2 t2 hs2 r2 => q z.1 (st s1 z.2) v H2 F2 (t1.trans t2) hs2 r2 hm1
    | err n u =>
      rw [e] at hm1
      exact fun H2 F2 t2 hs2 => qe n _ hm1 H2 F2 (t1.trans t2) (hs2.drop (hde s1 u))
    | stuck =>
      rw [e] at hm1
      exact hm1⟩) qe
theorem evc_popLL {R : α → Ty} {i : Nat} {Dd : Ω → Own} {s : Ω} {gt : Ω → List α} {st : Ω → List α → Ω} (B : Bor Dd k a (OLT R) gt st) (hi : G[i]? = some (some (Is (.ref a)))) : EvC (β := δ) K X De (tBM0 K "list" rPop (tVar i)) G Dd s (fun kk => Res.bind (Res.opt (popL (gt s))) fun z => kk z.1 (st s z.2)) R := fun kk σ H F hs ss o r Q hm q qe => by
  obtain ⟨v, e1, e2⟩ := ss.get hi
  have ev : v = .ref a := e2
  subst ev
  obtain ⟨z, ez, hm2⟩ := Res.sat_opt hm
  obtain ⟨o1, ho, vs, rfl, hx⟩ := hs.at (B.at_ s)
  generalize gt s = xs at ez hx
  unfold popL at ez
  have ln := hx.len
  rw [List.length_map] at ln
  cases el : xs.getLast? with
  | none => simp [el] at ez
  | some y =>
    simp only [el] at ez
    cases ez
    rw [List.getLast?_eq_getElem?] at el
    have e3 : (xs.map R)[xs.length - 1]? = some (R y) := by rw [List.getElem?_map, el]; rfl
    obtain ⟨u, hu, ru⟩ := hx.get e3
    refine ⟨_, e1, .inl ⟨rfl, vs, SqL.of ho⟩, a, vs, u, rfl, rfl, ho, by rw [ln]; exact hu, ?_⟩
    refine q y (st s xs.dropLast) u _ F (Same.refl _) ?_ ru hm2
    have z := hs.put (O' := OLT R xs.dropLast) (o := .lst vs.dropLast) (B.at_ s) ⟨_, rfl, ?_⟩
    · rw [B.set_ s] at z
      exact z
    · have key : ∀ {Rs : List Ty} {us : List V}, AllP F Rs us → AllP F Rs.dropLast us.dropLast := by
        intro Rs us h
        induction h with
        | nil => exact .nil
        | cons a h ih =>
          cases h with
          | nil => exact .nil
          | cons b h => exact .cons a ih
      have := key hx
      rwa [← List.map_dropLast] at this
end
end TL

end
section
set_option Elab.async false
set_option linter.all false
set_option maxRecDepth 100000
set_option maxHeartbeats 1000000
/-! # owned lists lengthened and emptied, dicts copied -/
namespace TL
open PySem PySem.Spec L2
section
variable {K : PySem.W.Frag} {ε ε' ρ α β γ δ S τ τ' σt ω Ω : Type} {X : L2.St → XK} {Xk : XK} {De : ε → Own} {G G1 G2 : Sto} {D0 : Own} {Dd : S → Own} {s : S} {te ta tb tc tx : TE} {tt tu : TT} {F0 F1 : Hp} {E : Ends} {w : Wish K ε ρ} {t : TA} {n : Nat}
theorem allP_app {F : Hp} {R : α → Ty} {xs ys : List α} {vs us : List V} (h : AllP F (xs.map R) vs) (h2 : AllP F (ys.map R) us) : AllP F ((xs ++ ys).map R) (vs ++ us) := by
  rw [List.map_append]
  exact h.app h2
theorem go_extNC {R : α → Ty} {xs : List α} {k : Nat} {a : Addr} {M : (List α → S → Res ε ρ) → Res ε ρ} {kk : List α × S → Res ε ρ} (ho : G[n]? = some (some (Is (.ref a)))) (h : EvNC K w.X w.De te G Dd s M (OLT R)) (hk : ∀ s, (Dd s)[k]? = some (a, OLT R xs))
    {m : Res ε ρ} (hP : w.W F0 m) (q : ∀ x, w.W F0 (kk x) → Go E.nx F0 G ((Dd x.2).set k (a, OLT R x.1))) (c : w.cond G := by first | exact trivial | walk_at "cond") (hm : m = (M fun v s' => Res.bind (Res.grd (xs.length + v.length ≤ 100000) (xs ++ v, s')) kk) := by exact rfl) : Go (tDrop (tBM K "list" rExtend (tVar n) (tCons te tNil)) E) F0 G (Dd s) := by subst hm; exact (fun σ H F t hs ss => by
  obtain ⟨v0, e0, r0⟩ := ss.get ho
  have r0' : v0 = .ref a := r0
  subst r0'
  obtain ⟨o1, ho1, xs1, rfl, h21⟩ := hs.at (hk s)
  refine ⟨_, e0, .inl ⟨rfl, xs1, SqL.of ho1⟩, h _ σ H F hs ss _ _ _ hP (fun ys s' p H1 F1 t1 hs1 hm => ?_) (fun n e hr H1 F1 t1 hs1 => w.err hr c σ H1 F1 (t.trans t1) hs1 (ss.mono t1))⟩
  obtain ⟨hl, hm2⟩ := Res.sat_grd hm
  have hk1 : ((p, OLT R ys) :: Dd s')[k + 1]? = some (a, OLT R xs) := by rw [List.getElem?_cons_succ]; exact hk s'
  obtain ⟨o, ho2, vs, rfl, h2⟩ := hs1.at hk1
  obtain ⟨o3, ho3, us, rfl, h3⟩ := hs1.at (k := 0) rfl
  have l2 := h2.len
  have l3 := h3.len
  rw [List.length_map] at l2 l3
  refine ⟨a, p, vs, us, rfl, rfl, ho2, ho3, by rw [l2, l3]; exact Nat.le_trans hl sizeLine_big, ?_⟩
  have z := hs1.put (O' := OLT R (xs ++ ys)) (o := .lst (vs ++ us)) hk1 ⟨_, rfl, allP_app h2 h3⟩
  rw [List.set_cons_succ] at z
  exact q (xs ++ ys, s') hm2 σ _ F1 (t.trans t1) (z.drop (List.sublist_cons_self _ _)) (ss.mono t1))
/-- xs.clear() -/
theorem go_clearC {R : α → Ty} {xs : List α} {k : Nat} {a : Addr} {kk : List α × Unit → Res ε ρ} (ho : G[n]? = some (some (Is (.ref a)))) (hk : D0[k]? = some (a, OLT R xs))
    {m : Res ε ρ} (hP : w.W F0 m) (q : ∀ x, w.W F0 (kk x) → Go E.nx F0 G (D0.set k (a, OLT R x.1))) (hm : m = Res.bind (.ok ([], ())) kk := by exact rfl) : Go (tDrop (tBM0 K "list" rClear (tVar n)) E) F0 G D0 := by subst hm; exact (fun σ H F t hs ss => by
  obtain ⟨v0, e0, r0⟩ := ss.get ho
  have r0' : v0 = .ref a := r0
  subst r0'
  obtain ⟨o1, ho1, vs, rfl, h2⟩ := hs.at hk
  refine ⟨_, e0, .inl ⟨rfl, vs, SqL.of ho1⟩, a, vs, rfl, rfl, ho1, ?_⟩
  exact q ([], ()) hP σ _ F t (hs.put (O' := OLT R []) (o := .lst []) hk ⟨_, rfl, .nil⟩) ss)
end
/-! dict(d) -/
def cDctK (K : PySem.W.Frag) : List V → Hp → VK → Prop := fun xs H Q => ∃ a kvs, xs = [.ref a] ∧ Rd H a (.dK kvs) ∧ ∀ p, H p = none → Q (.ref p) (upd H p (.dK kvs))
theorem call_dctK {X : Cx} : CallR X (.type "dict") (cDctK X.K) := by
  intro pins s σ H xs us Q I r h
  obtain ⟨a, kvs, rfl, e, q⟩ := h
  obtain ⟨u, rfl, r1⟩ := vals1 r
  cases (show u = Value.ref a from r1)
  exact d_copyOf I e fun p s' hp I2 => ⟨.ref p, _, I2, rfl, q p hp⟩
section
variable {K : PySem.W.Frag} {ε ε' ρ α β γ δ S τ τ' σt ω Ω : Type} {X : L2.St → XK} {Xk : XK} {De : ε → Own} {G G1 G2 : Sto} {D0 : Own} {Dd : S → Own} {s : S} {te ta tb tc tx : TE} {tt tu : TT} {F0 F1 : Hp} {E : Ends} {w : Wish K ε ρ} {t : TA} {n : Nat}
theorem evnc_dcopy {R : α → Ty} {f : α → List (Tx × β)} {e : β → PyData} {Ma : (α → S → Res ε δ) → Res ε δ} (hv : DView K Dd R f e) (ha : EvC K X De ta G Dd s Ma R) : EvNC K X De (tCB (cDctK K) (tCons ta tNil)) G Dd s (fun kk => Ma fun a s1 => kk (f a) s1) (OX K e) := fun kk σ H F hs ss o r Q hm q qe =>
  ha _ σ H F hs ss o r _ hm (fun a s1 v H1 F1 t1 hs1 r1 hm1 => by
    obtain ⟨p, kvs, rfl, h1, h2⟩ := hv a s1 v H1 F1 hs1 r1
    refine ⟨p, kvs, rfl, h2, fun p' hp => ?_⟩
    exact q (f a) s1 p' _ F1 t1 (hs1.new hp ⟨kvs, rfl, h1⟩) hm1) qe
end
end TL

end
section
set_option Elab.async false
set_option linter.all false
set_option maxRecDepth 100000
set_option maxHeartbeats 1000000
/-! # two new lists, one behind the other -/
namespace TL
open PySem PySem.Spec L2
section
variable {K : PySem.W.Frag} {ε ε' ρ α β γ δ S τ τ' σt ω Ω : Type} {X : L2.St → XK} {Xk : XK} {De : ε → Own} {G G1 G2 : Sto} {D0 : Own} {Dd : S → Own} {s : S} {te ta tb tc tx : TE} {tt tu : TT} {F0 F1 : Hp} {E : Ends} {w : Wish K ε ρ} {t : TA} {n : Nat}
theorem evnc_catO {R : α → Ty} {Ma : (List α → S → Res ε δ) → Res ε δ} {Mb : S → (List α → S → Res ε δ) → Res ε δ} (ha : EvNC K X De ta G Dd s Ma (OLT R)) (hb : ∀ x p s1, EvNC K X De tb G (fun s => (p, OLT R x) :: Dd s) s1 (Mb s1) (OLT R)) :
    EvNC K X De (tOp (qAddS K) ta tb) G Dd s (fun kk => Ma fun x s1 => Mb s1 fun y s2 => Res.bind (Res.grd (x.length + y.length ≤ 100000) (x ++ y)) fun z => kk z s2) (OLT R) := fun kk σ H F hs ss o r Q hm q qe =>
  ha _ σ H F hs ss o r _ hm (fun x s1 p H1 F1 t1 hs1 hm1 => hb x p s1 _ σ H1 F1 hs1 (ss.mono t1) o r _ hm1 (fun y s2 p2 H2 F2 t2 hs2 hm2 => by
    obtain ⟨hl, hm3⟩ := Res.sat_grd hm2
    obtain ⟨o1, ho1, vs, rfl, hx⟩ := hs2.at (k := 1) rfl
    obtain ⟨o2, ho2, us, rfl, hy⟩ := hs2.at (k := 0) rfl
    have l1 := hx.len
    have l2 := hy.len
    rw [List.length_map] at l1 l2
    refine .inr (.inl ⟨p, p2, vs, us, rfl, rfl, SqL.of ho1, SqL.of ho2, by rw [l1, l2]; exact Nat.le_trans hl sizeLine_big, fun a ha => ?_⟩)
    exact q (x ++ y) s2 a _ F2 (t1.trans t2) ((hs2.drop ((List.sublist_cons_self _ _).trans (List.sublist_cons_self _ _))).new ha ⟨_, rfl, allP_app hx hy⟩) hm3) (fun n e h H2 F2 t2 => qe n e h H2 F2 (t1.trans t2))) qe
end
end TL

end
section
set_option Elab.async false
set_option linter.all false
set_option maxRecDepth 100000
set_option maxHeartbeats 1000000
/-! # text.index(text) -/
namespace TL
open PySem PySem.Spec L2
def rIdx : V → List V → Hp → VK → Prop := fun x xs H Q => ∃ a b i rest, x = .str a ∧ xs = [.str b] ∧ PySem.Builtin.Str.occurrences a b 0 a.length 1 = i :: rest ∧ Q (.int (i : Int)) H
section
variable {X : Cx} {o e : Expr} {to te : TE} {apos pos : Pos}
theorem mt_index : MtR X "str.index" rIdx := by
  intro pins s σ H x xs v us Q I rx rs h
  obtain ⟨a, b, i, rest, rfl, rfl, ho, h⟩ := h
  obtain ⟨t, rfl⟩ := rx
  cases rs with
  | cons r1 rs =>
    cases rs
    obtain ⟨u, rfl⟩ := r1
    exact PySem.SC.index ho (⟨.int (i : Int), H, I.tok _, ⟨_, rfl⟩, h⟩)
theorem pe_index (ho : PE X o to) (he : PE X e te) (hs : starEach [e] X.env = [(false, eval e X.env)] := by rfl) (hbase : attributeBase o "index" X.env (eval o X.env) = eval o X.env := by rfl) (hline : (apos.endLine == pos.line) = true := by rfl) :
    PE X (.Call (.Attribute o "index" apos) [e] [] pos) (tM1 rIdx to te) := pe_m1 F.slot_str_index F.type_str_index mt_index ho he hs hbase hline
end
def Tx.index? (a b : Tx) : Option Int := match PySem.Builtin.Str.occurrences a.s b.s 0 a.s.length 1 with
  | i :: _ => some (i : Int)
  | [] => none
section
variable {K : PySem.W.Frag} {ε ε' ρ α β γ δ S τ τ' σt ω : Type} {X : L2.St → XK} {De : ε → Own} {G G1 G2 : Sto} {D0 : Own} {Dd : S → Own} {s : S} {te ta tb tc tx : TE} {tt tu : TT} {F0 F1 : Hp} {E : Ends} {w : Wish K ε ρ} {t : TA}
theorem evc_index {Ma : (Tx → S → Res ε δ) → Res ε δ} {Mb : S → (Tx → S → Res ε δ) → Res ε δ} (ha : EvC K X De ta G Dd s Ma (tD K eS)) (hb : ∀ s1, EvC K X De tb G Dd s1 (Mb s1) (tD K eS)) :
    EvC K X De (tM1 rIdx ta tb) G Dd s (fun kk => Ma fun a s1 => Mb s1 fun b s2 => Res.bind (Res.opt (Tx.index? a b)) fun z => kk z s2) (tD K eI) := fun kk σ H F hs ss o r Q hm q qe =>
  ha _ σ H F hs ss o r _ hm (fun a s1 v H1 F1 t1 hs1 r1 hm1 => ⟨⟨a.s, dp_str r1⟩, hb s1 _ σ H1 F1 hs1 (ss.mono t1) o r _ hm1 (fun b s2 u H2 F2 t2 hs2 r2 hm2 => by
    obtain ⟨z, ez, hm3⟩ := Res.sat_opt hm2
    unfold Tx.index? at ez
    split at ez
    · rename_i i rest ho
      cases ez
      exact ⟨a.s, b.s, i, rest, dp_str r1, by rw [dp_str r2], ho, q (i : Int) s2 _ H2 F2 (t1.trans t2) hs2 (.int _) hm3⟩
    · cases ez) (fun n e h H2 F2 t2 => qe n e h H2 F2 (t1.trans t2))⟩) qe
end
end TL

end
section
set_option Elab.async false
set_option linter.all false
set_option maxRecDepth 100000
set_option maxHeartbeats 1000000
/-! # the borrow: an owned list handed to a def that only reads it -/
namespace TL
open PySem PySem.Spec L2
def Flat (R : Ty) : Prop := ∀ v F F', R.p v F → R.p v F'
def FlatO (O : OTy) : Prop := ∀ o F F', O.p o F → O.p o F'
def pinO (o : Option HO) : OTy := ⟨fun u _ => some u = o, fun _ h => h⟩
noncomputable def lend (D : Own) (H : Hp) (a b : Addr) (O : OTy) : Own :=
  (a, O) :: ((D.filter fun c => decide (c.1 ≠ a ∧ c.1 ≠ b)).map fun c => (c.1, pinO (H c.1)))
theorem lend_in {D : Own} {H F : Hp} {k kb : Nat} {a b : Addr} {O Ob : OTy} {ob : HO} (h : HS D H F) (hk : D[k]? = some (a, O)) (hkb : D[kb]? = some (b, Ob)) (ne : k ≠ kb) (eb : H b = some ob) : HS (lend D H a b O) H (upd F b ob) := by
  have nab : a ≠ b := fun q => by subst q; exact ne (own_uniq h.nd hk hkb)
  obtain ⟨fb, _⟩ := h.own b Ob (List.mem_of_getElem? hkb)
  have s2 : Same F (upd F b ob) := same_new fb
  refine ⟨fun x u q => ?_, fun x O2 m => ?_, ?_⟩
  · by_cases z : x = b
    · subst z
      rw [upd_same] at q
      rw [← q]; exact eb
    · rw [upd_ne z] at q
      exact h.sub x u q
  · rcases List.mem_cons.mp m with q | q
    · cases q
      obtain ⟨n, o, ho, hp⟩ := h.own a O (List.mem_of_getElem? hk)
      exact ⟨by rw [upd_ne nab]; exact n, o, ho, O.mono s2 hp⟩
    · obtain ⟨c, hc, e⟩ := List.mem_map.mp q
      cases e
      obtain ⟨hc1, hc2⟩ := List.mem_filter.mp hc
      have hc3 := of_decide_eq_true hc2
      obtain ⟨n, o, ho, hp⟩ := h.own c.1 c.2 hc1
      exact ⟨by rw [upd_ne hc3.2]; exact n, o, ho, ho.symm⟩
  · show (a :: (((D.filter fun c => decide (c.1 ≠ a ∧ c.1 ≠ b)).map fun c => (c.1, pinO (H c.1))).map (·.1))).Nodup
    rw [List.map_map]
    refine List.nodup_cons.mpr ⟨fun q => ?_, ?_⟩
    · obtain ⟨c, hc, e⟩ := List.mem_map.mp q
      have hc3 := of_decide_eq_true (List.mem_filter.mp hc).2
      exact hc3.1 e
    · exact (List.filter_sublist.map _).nodup h.nd
theorem lend_out {D : Own} {H F H2 F2 : Hp} {k kb : Nat} {a b : Addr} {O Ob O2 : OTy} {ob : HO} (h : HS D H F) (hk : D[k]? = some (a, O)) (hkb : D[kb]? = some (b, Ob)) (ne : k ≠ kb) (eb : H b = some ob) (fo : FlatO O2)
    (t : Same (upd F b ob) F2) (h2 : HS (lend D H a b O2) H2 F2) : HS (D.set k (a, O2)) H2 F := by
  obtain ⟨fb, _⟩ := h.own b Ob (List.mem_of_getElem? hkb)
  have s2 : Same F (upd F b ob) := same_new fb
  refine ⟨(s2.trans t).trans h2.sub, fun x O3 m => ?_, ?_⟩
  · obtain ⟨j, hj⟩ := List.getElem?_of_mem m
    by_cases z : j = k
    · subst z
      rw [List.getElem?_set_self (List.getElem?_eq_some_iff.mp hk).1] at hj
      cases hj
      obtain ⟨n, _⟩ := h.own a O (List.mem_of_getElem? hk)
      obtain ⟨_, o, ho, hp⟩ := h2.own a O2 (List.mem_cons_self ..)
      exact ⟨n, o, ho, fo _ _ _ hp⟩
    · rw [List.getElem?_set_ne (Ne.symm z)] at hj
      have nxa : x ≠ a := fun q => by subst q; exact z (own_uniq h.nd hj hk)
      obtain ⟨n, o, ho, hp⟩ := h.own x O3 (List.mem_of_getElem? hj)
      by_cases y : x = b
      · subst y
        rw [eb] at ho
        cases ho
        exact ⟨n, ob, h2.sub x ob (t x ob upd_same), hp⟩
      · have mm : (x, pinO (H x)) ∈ lend D H a b O2 := List.mem_cons_of_mem _ (List.mem_map.mpr ⟨(x, O3), List.mem_filter.mpr ⟨List.mem_of_getElem? hj, decide_eq_true ⟨nxa, y⟩⟩, rfl⟩)
        obtain ⟨_, o2, ho2, hp2⟩ := h2.own _ _ mm
        have e2 : some o2 = H x := hp2
        rw [ho] at e2
        cases e2
        exact ⟨n, o, ho2, hp⟩
  · have e : (D.set k (a, O2)).map (·.1) = D.map (·.1) := by
      rw [List.map_set]
      refine List.ext_getElem? fun j => ?_
      by_cases z : j = k
      · subst z
        rw [List.getElem?_set_self (by rw [List.length_map]; exact (List.getElem?_eq_some_iff.mp hk).1), List.getElem?_map, hk]
        rfl
      · rw [List.getElem?_set_ne (Ne.symm z)]
    rw [e]; exact h.nd
theorem flat_S {K : PySem.W.Frag} (x : Tx) : Flat (tD K eS x) := fun v F F' h => by rw [dp_str h]; exact .str _
theorem flat_I {K : PySem.W.Frag} (x : Int) : Flat (tD K eI x) := fun v F F' h => by rw [dp_int h]; exact .int _
theorem flat_B {K : PySem.W.Frag} (x : Bool) : Flat (tD K eB x) := fun v F F' h => by rw [dp_bl h]; exact .bl _
theorem flat_all {Rs : List Ty} (f : ∀ R ∈ Rs, Flat R) {F F' : Hp} {vs : List V} (h : AllP F Rs vs) : AllP F' Rs vs := by
  induction h with
  | nil => exact .nil
  | cons h1 _ ih => exact .cons (f _ (List.mem_cons_self ..) _ _ _ h1) (ih fun R m => f R (List.mem_cons_of_mem _ m))
theorem flatO_L {R : α → Ty} (f : ∀ x, Flat (R x)) (xs : List α) : FlatO (OLT R xs) := fun o F F' h => by
  obtain ⟨vs, e, h2⟩ := h
  exact ⟨vs, e, flat_all (fun R m => by obtain ⟨x, _, e⟩ := List.mem_map.mp m; rw [← e]; exact f x) h2⟩
theorem up_nil {F : Hp} {vs : List V} (h : AllP F [] vs) : AllP F [] vs := h
theorem up_same {F : Hp} {R : Ty} {Rs Rs' : List Ty} {vs : List V} (f : ∀ {vs}, AllP F Rs vs → AllP F Rs' vs) (h : AllP F (R :: Rs) vs) : AllP F (R :: Rs') vs := by
  cases h with
  | cons h1 h2 => exact .cons h1 (f h2)
theorem up_bor {F : Hp} {T : Ty} {b : Addr} {Rs Rs' : List Ty} {vs : List V} (hb : T.p (.ref b) F) (f : ∀ {vs}, AllP F Rs vs → AllP F Rs' vs) (h : AllP F (Is (.ref b) :: Rs) vs) : AllP F (T :: Rs') vs := by
  cases h with
  | cons h1 h2 =>
    have e : _ = V.ref b := h1
    subst e
    exact .cons hb (f h2)
section
variable {K : PySem.W.Frag} {ε ε' ρ α β γ δ S τ τ' σt ω : Type} {X : L2.St → XK} {Xk : XK} {De : ε → Own} {G G1 G2 : Sto} {D0 : Own} {Dd : S → Own} {s : S} {te ta tb tc tx : TE} {tt tu : TT} {F0 F1 : Hp} {E : Ends} {w : Wish K ε ρ} {t : TA}
theorem evc_callCB {O : ω → OTy} {k kb : Nat} {a b : Addr} {e : β → PyData} {xs : List β} {args : Addr → τ → List Ty} {mf : τ → ω → Res ω (γ × ω)} {R : γ → Ty} {Dd : ω → Own} {s : ω} {f : τ' → τ} {Rs : τ' → List Ty} {M : (τ' → ω → Res ε δ) → Res ε δ} {sp : Sp} (hsp : ∀ vs H Q X, spC K O args mf (fun r => .ok (R r)) vs H Q X → sp vs H Q X) (g : ω → ε) (B : Bor1 Dd k a O) (hb : ∀ s, (Dd s)[kb]? = some (b, OLT (tD K e) xs)) (fo : ∀ w, FlatO (O w)) (fr : ∀ z, Flat (R z)) (h : EvAC K (fun _ => Xk) De t G Dd s M Rs)
    (hup : ∀ x vs F, (tD K (eL e) xs).p (.ref b) F → AllP F (Rs x) vs → AllP F (args a (f x)) vs) (hde : ∀ s, (De (g s)).Sublist (Dd s)) (hne : k ≠ kb := by decide) :
    EvC K (fun _ => Xk) De (tCall sp [] Xk t) G Dd s (fun kk => M fun x s1 => Res.bind (Res.mapE g (mf (f x) s1)) fun z => kk z.1 z.2) R := fun kk σ H F hs ss o r Q hm q qe =>
  h _ σ H F hs ss o r _ hm (fun x s1 vs H1 F1 t1 hs1 r1 hm1 => by
    obtain ⟨ob, eb, us, rfl, hx⟩ := hs1.at (hb s1)
    have hkb := hb s1
    obtain ⟨fb, _⟩ := hs1.own b _ (List.mem_of_getElem? hkb)
    have s2 : Same F1 (upd F1 b (.lst us)) := same_new fb
    have r2 : AllP (upd F1 b (.lst us)) (args a (f x)) vs := hup x vs _ (.lst (SqL.of upd_same) (dpAll_mono s2 _ us (allP_map hx))) (r1.mono s2)
    refine hsp _ _ _ _ ⟨f x, s1, upd F1 b (.lst us), fun w => lend (Dd s1) H1 a b (O w), 0, a, ⟨fun _ => rfl, fun _ _ => rfl⟩, lend_in hs1 (B.get1 s1) hkb hne eb, by rw [List.append_nil]; exact r2, ?_⟩
    cases e' : mf (f x) s1 with
    | ok z =>
      rw [e'] at hm1
      exact fun v H2 F2 t2 hs2 r3 => q z.1 z.2 v H2 F1 t1 (by rw [← B.set_ s1 z.2]; exact lend_out hs1 (B.get1 s1) hkb hne eb (fo _) t2 hs2) (fr _ _ _ _ r3) hm1
    | err n u =>
      rw [e'] at hm1
      exact fun H2 F2 t2 hs2 => qe n _ hm1 H2 F1 t1 ((show HS (Dd u) H2 F1 by rw [← B.set_ s1 u]; exact lend_out hs1 (B.get1 s1) hkb hne eb (fo _) t2 hs2).drop (hde u))
    | stuck =>
      rw [e'] at hm1
      exact hm1) qe
end
end TL

end
section
set_option Elab.async false
set_option linter.all false
set_option maxRecDepth 100000
set_option maxHeartbeats 1000000
/-! # a comprehension that walks one's own list -/
namespace TL
open PySem PySem.Spec L2
section
variable {K : PySem.W.Frag} {ε ε' ρ α β γ δ S τ τ' σt ω : Type} {X : L2.St → XK} {Xk : XK} {De : ε → Own} {G G1 G2 : Sto} {D0 : Own} {Dd : S → Own} {s : S} {te ta tb tc tx : TE} {tt tu : TT} {F0 F1 : Hp} {E : Ends} {w : Wish K ε ρ} {t : TA}
def hasC (b : Addr) (O : OTy) : Own → Prop := fun D => (b, O) ∈ D
theorem hasC_of {b : Addr} {O : OTy} {k : Nat} (hk : ∀ s, (Dd s)[k]? = some (b, O)) : ∀ s c, hasC b O (c :: Dd s) := fun s c => List.mem_cons_of_mem _ (List.mem_of_getElem? (hk s))
theorem evItc_O {R : α → Ty} {b : Addr} {i k : Nat} {xs : List α} (hi : G[i]? = some (some (Is (.ref b)))) (hk : ∀ s, (Dd s)[k]? = some (b, OLT R xs)) : EvItC (β := δ) K X De (iSeq K (tVar i)) G Dd s (hasC b (OLT R xs)) (fun kk => kk xs s) R := fun kk σ H F hs ss o r Q hm q qe => by
  obtain ⟨v, e1, e2⟩ := ss.get hi
  have ev : v = .ref b := e2
  subst ev
  obtain ⟨o1, ho, vs, rfl, hx⟩ := hs.at (hk s)
  refine .inl ⟨_, e1, b, rfl, ⟨vs, SqL.of ho⟩, q xs s _ H F (Same.refl _) hs (fun D H2 F2 c s2 hs2 i => ?_) hm⟩
  obtain ⟨_, o2, ho2, vs2, rfl, h2⟩ := hs2.own b _ c
  refine ⟨fun R' hR => ?_, fun hl => ?_⟩
  · obtain ⟨v, e1, e2⟩ := h2.get hR
    have sq : SqL K H2 b vs2 := SqL.of ho2
    refine ⟨⟨vs2, v, sq, e1⟩, fun x H' hy => ?_⟩
    obtain ⟨e3, e4⟩ := hy
    subst e3
    have e5 := e4 vs2 sq
    rw [e1] at e5
    cases e5
    exact ⟨F2, Same.refl _, hs2, e2⟩
  · exact ⟨vs2, SqL.of ho2, by rw [h2.len]; exact hl⟩
end
end TL

end
section
set_option Elab.async false
set_option linter.all false
set_option maxRecDepth 100000
set_option maxHeartbeats 1000000
/-! # defs with any cells of the caller's: read (spR), changed (spM); makings with cells (spIR) -/
namespace TL
open PySem PySem.Spec L2
/-- who owns D owns D' -/
def DLe (D D' : Own) : Prop := ∀ H F, HS D H F → HS D' H F
theorem DLe.of {D D' : Own} (s : D'.Sublist D) : DLe D D' := fun _ _ h => h.drop s
theorem DLe.rfl {D : Own} : DLe D D := fun _ _ h => h
theorem DLe.trans {D D' D2 : Own} (h : DLe D D') (h' : DLe D' D2) : DLe D D2 := fun H F q => h' H F (h H F q)
/-- a read cell -/
def RdC (D : Own) (a : Addr) (O : OTy) : Prop := ∃ k : Nat, D[k]? = some (a, O)
theorem RdC.cons {D : Own} {a : Addr} {O : OTy} {c : Addr × OTy} (h : RdC D a O) : RdC (c :: D) a O := let ⟨k, e⟩ := h; ⟨k + 1, by rw [List.getElem?_cons_succ]; exact e⟩
theorem RdC.here {D : Own} {a : Addr} {O : OTy} : RdC ((a, O) :: D) a O := ⟨0, rfl⟩
theorem RdC.of {D : Own} {a : Addr} {O : OTy} {k : Nat} (h : D[k]? = some (a, O)) : RdC D a O := ⟨k, h⟩
/-- a changed cell -/
def WrC {Ω ω : Type} (Dp : Ω → Own) (a : Addr) (O : ω → OTy) (gt : Ω → ω) (st : Ω → ω → Ω) : Prop := ∃ k, Bor Dp k a O gt st
theorem Bor.sub {S Ω ω : Type} {Dp : Ω → Own} {k : Nat} {a : Addr} {O : ω → OTy} {gt : Ω → ω} {st : Ω → ω → Ω} (B : Bor Dp k a O gt st) {f : S → Ω} {gt' : S → ω} {st' : S → ω → S} (h1 : ∀ s, gt (f s) = gt' s) (h2 : ∀ s v, st (f s) v = f (st' s v)) : Bor (fun s => Dp (f s)) k a O gt' st' :=
  ⟨fun s => by rw [B.at_, h1], fun s v => by rw [B.set_, h2]⟩
def spR (K : PySem.W.Frag) {τ ρ : Type} (args : τ → List Ty) (pl : τ → Own → Prop) (mf : τ → Res Unit ρ) (out : ρ → Out) : Sp := fun vs H Q X => ∃ (x : τ) (F : Hp) (D : Own), pl x D ∧ HS D H F ∧ AllP F (args x) vs ∧ (dwish K X Q out (fun _ => D) (fun _ : Unit => D)).W F (mf x)
def spM (K : PySem.W.Frag) {τ Ω ρ : Type} (args : τ → List Ty) (pl : τ → (Ω → Own) → Prop) (mf : τ → Ω → Res Ω (ρ × Ω)) (out : ρ → Out) : Sp := fun vs H Q X => ∃ (x : τ) (y : Ω) (F : Hp) (Dp : Ω → Own), pl x Dp ∧ HS (Dp y) H F ∧ AllP F (args x) vs ∧ (dwish K X Q (fun r : ρ × Ω => out r.1) (fun r => Dp r.2) Dp).W F (mf x y)
def spIR (K : PySem.W.Frag) (C : Addr) {τ ρ : Type} (args : τ → List Ty) (pl : τ → Own → Prop) (mf : τ → Res Unit ρ) (fl : ρ → Fds) : Sp := fun vs H Q X => ∃ (x : τ) (F : Hp) (D : Own) (a : Addr) (us : List V), vs = .ref a :: us ∧ pl x D ∧ HS ((a, OI K C []) :: D) H F ∧ AllP F (args x) us ∧ (iwish K C X Q a fl D).W F (mf x)
section
variable {K : PySem.W.Frag} {ε ε' ρ α β γ δ S τ τ' σt ω Ω : Type} {X : L2.St → XK} {Xk : XK} {De : ε → Own} {G G1 G2 : Sto} {D0 : Own} {Dd : S → Own} {s : S} {te ta tb tc tx : TE} {tt tu : TT} {F0 F1 : Hp} {E : Ends} {w : Wish K ε ρ} {t : TA} {n : Nat} {dvs : List V} {args : τ → List Ty} {Rs : τ' → List Ty} {C : Addr} {pl : τ → Own → Prop} {plm : τ → (Ω → Own) → Prop} {sp : Sp} {m : Str}
theorem hdR0 {S τ' : Type} {Rs : τ' → List Ty} : ∀ (x : τ') (s : S) (F : Hp) (vs : List V), AllP F (Rs x) vs → AllP F (Rs x) (vs ++ []) := fun x s F vs h => by rw [List.append_nil]; exact h
theorem hdmR0 {S α τ' : Type} {Rx : α → Ty} {Rs : τ' → List Ty} : ∀ (x : α) (y : τ') (s : S) (F : Hp) (v : V) (vs : List V), (Rx x).p v F → AllP F (Rs y) vs → AllP F (Rx x :: Rs y) (v :: (vs ++ [])) := fun x y s F v vs r h => by rw [List.append_nil]; exact .cons r h
/-! ## read only -/
theorem evc_callR {mf : τ → Res Unit γ} {R : γ → Ty} {f : τ' → S → τ} {M : (τ' → S → Res ε δ) → Res ε δ} (hsp : ∀ vs H Q X, spR K args pl mf (fun r => .ok (R r)) vs H Q X → sp vs H Q X) {g : S → ε} (h : EvAC K X De t G Dd s M Rs) (hpl : ∀ x s, pl (f x s) (Dd s)) (hde : ∀ s, DLe (Dd s) (De (g s))) (hd : ∀ x s F vs, AllP F (Rs x) vs → AllP F (args (f x s)) (vs ++ dvs)) :
    EvC K X De (tCallSD sp dvs X t) G Dd s (fun kk => M fun x s1 => Res.bind (Res.mapE (fun _ => g s1) (mf (f x s1))) fun z => kk z s1) R := fun kk σ H F hs ss o r Q hm q qe =>
  h _ σ H F hs ss o r _ hm (fun x s1 vs H1 F1 t1 hs1 r1 hm1 => hsp _ _ _ _ ⟨f x s1, F1, Dd s1, hpl x s1, hs1, hd _ _ _ _ r1, by
    cases e : mf (f x s1) with
    | ok z =>
      rw [e] at hm1
      exact fun v H2 F2 t2 hs2 r2 => q z s1 v H2 F2 (t1.trans t2) hs2 r2 hm1
    | err n u =>
      rw [e] at hm1
      exact fun H2 F2 t2 hs2 => qe n _ hm1 H2 F2 (t1.trans t2) (hde s1 _ _ hs2)
    | stuck =>
      rw [e] at hm1
      exact hm1⟩) qe
theorem evnc_callR {mf : τ → Res Unit γ} {O : γ → OTy} {f : τ' → S → τ} {M : (τ' → S → Res ε δ) → Res ε δ} (hsp : ∀ vs H Q X, spR K args pl mf (fun r => .new (O r)) vs H Q X → sp vs H Q X) {g : S → ε} (h : EvAC K X De t G Dd s M Rs) (hpl : ∀ x s, pl (f x s) (Dd s)) (hde : ∀ s, DLe (Dd s) (De (g s))) (hd : ∀ x s F vs, AllP F (Rs x) vs → AllP F (args (f x s)) (vs ++ dvs)) :
    EvNC K X De (tCallSD sp dvs X t) G Dd s (fun kk => M fun x s1 => Res.bind (Res.mapE (fun _ => g s1) (mf (f x s1))) fun z => kk z s1) O := fun kk σ H F hs ss o r Q hm q qe =>
  h _ σ H F hs ss o r _ hm (fun x s1 vs H1 F1 t1 hs1 r1 hm1 => hsp _ _ _ _ ⟨f x s1, F1, Dd s1, hpl x s1, hs1, hd _ _ _ _ r1, by
    cases e : mf (f x s1) with
    | ok z =>
      rw [e] at hm1
      exact fun p H2 F2 t2 hs2 => q z s1 p H2 F2 (t1.trans t2) hs2 hm1
    | err n u =>
      rw [e] at hm1
      exact fun H2 F2 t2 hs2 => qe n _ hm1 H2 F2 (t1.trans t2) (hde s1 _ _ hs2)
    | stuck =>
      rw [e] at hm1
      exact hm1⟩) qe
/-- what a method wants of the thing at hand -/
abbrev RecOk {S α : Type} (Dd : S → Own) (Rx : α → Ty) (C : Addr) (m : Str) : Prop := ∀ x s v H F, HS (Dd s) H F → (Rx x).p v F → ∃ a dx fs, v = .ref a ∧ H a = some (.ins C dx fs) ∧ fs.lookup m = none
theorem recOk_IN {Rx : α → Ty} {fl : α → Fds} (hx : ∀ x v F, (Rx x).p v F → (IN K C (fl x)).p v F) {ns : List Str} (hns : ∀ x, (fl x).map (·.1) = ns) (hn : m ∉ ns) : RecOk Dd Rx C m := fun x s v H F hs r => by
  obtain ⟨a, dx, fs, e0, h1, h2⟩ := hx x v F r
  exact ⟨a, dx, fs, e0, hs.sub _ _ h1, lookup_off (by rw [h2.1, hns x]; exact hn)⟩
theorem recOk_O {a : Addr} {O : S → OTy} {k : Nat} (hk : ∀ s, (Dd s)[k]? = some (a, O s)) (h : ∀ s o F, (O s).p o F → ∃ dx fs, o = .ins C dx fs ∧ fs.lookup m = none) : RecOk Dd (fun _ : Unit => Is (.ref a)) C m := fun x s v H F hs r => by
  have ev : v = .ref a := r
  obtain ⟨o, ho, hp⟩ := hs.at (hk s)
  obtain ⟨dx, fs, e, l⟩ := h s o F hp
  subst e
  exact ⟨a, dx, fs, ev, ho, l⟩
theorem evc_methR {Rx : α → Ty} {R : γ → Ty} {mf : τ → Res Unit γ} {f : α → τ' → S → τ} {Ma : (α → S → Res ε δ) → Res ε δ} {Mt : S → (τ' → S → Res ε δ) → Res ε δ} (hsp : ∀ vs H Q X, spR K args pl mf (fun r => .ok (R r)) vs H Q X → sp vs H Q X) {g : S → ε}
    (ha : EvC K X De ta G Dd s Ma Rx) (ht : ∀ s1, EvAC K X De t G Dd s1 (Mt s1) Rs) (hrec : RecOk Dd Rx C m) (hpl : ∀ x y s, pl (f x y s) (Dd s)) (hde : ∀ s, DLe (Dd s) (De (g s)))
    (hd : ∀ x y s F v vs, (Rx x).p v F → AllP F (Rs y) vs → AllP F (args (f x y s)) (v :: (vs ++ dvs))) :
    EvC K X De (tMethSD C m sp dvs X ta t) G Dd s (fun kk => Ma fun x s1 => Mt s1 fun y s2 => Res.bind (Res.mapE (fun _ => g s2) (mf (f x y s2))) fun z => kk z s2) R := fun kk σ H F hs ss o r Q hm q qe =>
  ha _ σ H F hs ss o r _ hm (fun x s1 v H1 F1 t1 hs1 r1 hm1 => by
    obtain ⟨a, dx, fs, e0, h1, h2⟩ := hrec x s1 v H1 F1 hs1 r1
    refine ⟨a, dx, fs, e0, h1, h2, ht s1 _ σ H1 F1 hs1 (ss.mono t1) o r _ hm1 (fun y s2 vs H2 F2 t2 hs2 r2 hm2 => hsp _ _ _ _ ⟨f x y s2, F2, Dd s2, hpl x y s2, hs2, hd _ _ _ _ _ _ ((Rx x).mono t2 r1) r2, ?_⟩) (fun n e h H2 F2 t2 => qe n e h H2 F2 (t1.trans t2))⟩
    cases e : mf (f x y s2) with
    | ok z =>
      rw [e] at hm2
      exact fun v H3 F3 t3 hs3 r3 => q z s2 v H3 F3 ((t1.trans t2).trans t3) hs3 r3 hm2
    | err n u =>
      rw [e] at hm2
      exact fun H3 F3 t3 hs3 => qe n _ hm2 H3 F3 ((t1.trans t2).trans t3) (hde s2 _ _ hs3)
    | stuck =>
      rw [e] at hm2
      exact hm2) qe
theorem evnc_methR {Rx : α → Ty} {O : γ → OTy} {mf : τ → Res Unit γ} {f : α → τ' → S → τ} {Ma : (α → S → Res ε δ) → Res ε δ} {Mt : S → (τ' → S → Res ε δ) → Res ε δ} (hsp : ∀ vs H Q X, spR K args pl mf (fun r => .new (O r)) vs H Q X → sp vs H Q X) {g : S → ε}
    (ha : EvC K X De ta G Dd s Ma Rx) (ht : ∀ s1, EvAC K X De t G Dd s1 (Mt s1) Rs) (hrec : RecOk Dd Rx C m) (hpl : ∀ x y s, pl (f x y s) (Dd s)) (hde : ∀ s, DLe (Dd s) (De (g s)))
    (hd : ∀ x y s F v vs, (Rx x).p v F → AllP F (Rs y) vs → AllP F (args (f x y s)) (v :: (vs ++ dvs))) :
    EvNC K X De (tMethSD C m sp dvs X ta t) G Dd s (fun kk => Ma fun x s1 => Mt s1 fun y s2 => Res.bind (Res.mapE (fun _ => g s2) (mf (f x y s2))) fun z => kk z s2) O := fun kk σ H F hs ss o r Q hm q qe =>
  ha _ σ H F hs ss o r _ hm (fun x s1 v H1 F1 t1 hs1 r1 hm1 => by
    obtain ⟨a, dx, fs, e0, h1, h2⟩ := hrec x s1 v H1 F1 hs1 r1
    refine ⟨a, dx, fs, e0, h1, h2, ht s1 _ σ H1 F1 hs1 (ss.mono t1) o r _ hm1 (fun y s2 vs H2 F2 t2 hs2 r2 hm2 => hsp _ _ _ _ ⟨f x y s2, F2, Dd s2, hpl x y s2, hs2, hd _ _ _ _ _ _ ((Rx x).mono t2 r1) r2, ?_⟩) (fun n e h H2 F2 t2 => qe n e h H2 F2 (t1.trans t2))⟩
    cases e : mf (f x y s2) with
    | ok z =>
      rw [e] at hm2
      exact fun p H3 F3 t3 hs3 => q z s2 p H3 F3 ((t1.trans t2).trans t3) hs3 hm2
    | err n u =>
      rw [e] at hm2
      exact fun H3 F3 t3 hs3 => qe n _ hm2 H3 F3 ((t1.trans t2).trans t3) (hde s2 _ _ hs3)
    | stuck =>
      rw [e] at hm2
      exact hm2) qe
theorem evc_makeR {R : γ → Ty} {mf : τ → Res Unit γ} {fl : γ → Fds} {f : τ' → S → τ} {M : (τ' → S → Res ε δ) → Res ε δ} (hsp : ∀ vs H Q X, spIR K C args pl mf fl vs H Q X → sp vs H Q X) {g : S → ε} (h : EvAC K X De t G Dd s M Rs) (hpl : ∀ x s, pl (f x s) (Dd s)) (hde : ∀ s, DLe (Dd s) (De (g s))) (hd : ∀ x s F vs, AllP F (Rs x) vs → AllP F (args (f x s)) (vs ++ dvs))
    (hR : ∀ r v F, (IN K C (fl r)).p v F → (R r).p v F) :
    EvC K X De (tMakeSD C sp dvs X t) G Dd s (fun kk => M fun x s1 => Res.bind (Res.mapE (fun _ => g s1) (mf (f x s1))) fun z => kk z s1) R := fun kk σ H F hs ss o r Q hm q qe =>
  h _ σ H F hs ss o r _ hm (fun x s1 vs H1 F1 t1 hs1 r1 hm1 a dx na nd ne => hsp _ _ _ _ ⟨f x s1, F1, Dd s1, a, _, rfl, hpl x s1, by
    have hs2 : HS (Dd s1) (upd H1 dx (.own a)) F1 := ⟨hs1.sub.trans (same_new nd), fun b O' m => by
      obtain ⟨h1, o1, h2, h3⟩ := hs1.own b O' m
      refine ⟨h1, o1, ?_, h3⟩
      rw [upd_ne fun z => by subst z; rw [nd] at h2; cases h2]
      exact h2, hs1.nd⟩
    exact hs2.new (by rw [upd_ne (Ne.symm ne)]; exact na) ⟨dx, [], rfl, rfl, .nil⟩, hd _ _ _ _ r1, by
    cases e : mf (f x s1) with
    | ok z =>
      rw [e] at hm1
      intro H' F' s' hs' r'
      exact ⟨rfl, q z s1 _ H' F' (t1.trans s') hs' (hR _ _ _ (INa.to r')) hm1⟩
    | err n u =>
      rw [e] at hm1
      exact fun H2 F2 t2 hs2 => qe n _ hm1 H2 F2 (t1.trans t2) (hde s1 _ _ hs2)
    | stuck =>
      rw [e] at hm1
      exact hm1⟩) qe
/-! ## changed -/
theorem evc_callM {mf : τ → Ω → Res Ω (γ × Ω)} {R : γ → Ty} {f : τ' → S → τ} {gt : S → Ω} {st : S → Ω → S} {M : (τ' → S → Res ε δ) → Res ε δ} (hsp : ∀ vs H Q X, spM K args plm mf (fun r => .ok (R r)) vs H Q X → sp vs H Q X) {g : S → Ω → ε} (h : EvAC K X De t G Dd s M Rs) (hid : ∀ s, st s (gt s) = s) (hpl : ∀ x s, plm (f x s) (fun y => Dd (st s y))) (hde : ∀ s y, DLe (Dd (st s y)) (De (g s y))) (hd : ∀ x s F vs, AllP F (Rs x) vs → AllP F (args (f x s)) (vs ++ dvs)) :
    EvC K X De (tCallSD sp dvs X t) G Dd s (fun kk => M fun x s1 => Res.bind (Res.mapE (g s1) (mf (f x s1) (gt s1))) fun z => kk z.1 (st s1 z.2)) R := fun kk σ H F hs ss o r Q hm q qe =>
  h _ σ H F hs ss o r _ hm (fun x s1 vs H1 F1 t1 hs1 r1 hm1 => hsp _ _ _ _ ⟨f x s1, gt s1, F1, fun y => Dd (st s1 y), hpl x s1, by show HS (Dd (st s1 (gt s1))) H1 F1; rw [hid]; exact hs1, hd _ _ _ _ r1, by
    cases e : mf (f x s1) (gt s1) with
    | ok z =>
      rw [e] at hm1
      exact fun v H2 F2 t2 hs2 r2 => q z.1 (st s1 z.2) v H2 F2 (t1.trans t2) hs2 r2 hm1
    | err n u =>
      rw [e] at hm1
      exact fun H2 F2 t2 hs2 => qe n _ hm1 H2 F2 (t1.trans t2) (hde s1 u _ _ hs2)
    | stuck =>
      rw [e] at hm1
      exact hm1⟩) qe
theorem evnc_callM {mf : τ → Ω → Res Ω (γ × Ω)} {O : γ → OTy} {f : τ' → S → τ} {gt : S → Ω} {st : S → Ω → S} {M : (τ' → S → Res ε δ) → Res ε δ} (hsp : ∀ vs H Q X, spM K args plm mf (fun r => .new (O r)) vs H Q X → sp vs H Q X) {g : S → Ω → ε} (h : EvAC K X De t G Dd s M Rs) (hid : ∀ s, st s (gt s) = s) (hpl : ∀ x s, plm (f x s) (fun y => Dd (st s y))) (hde : ∀ s y, DLe (Dd (st s y)) (De (g s y))) (hd : ∀ x s F vs, AllP F (Rs x) vs → AllP F (args (f x s)) (vs ++ dvs)) :
    EvNC K X De (tCallSD sp dvs X t) G Dd s (fun kk => M fun x s1 => Res.bind (Res.mapE (g s1) (mf (f x s1) (gt s1))) fun z => kk z.1 (st s1 z.2)) O := fun kk σ H F hs ss o r Q hm q qe =>
  h _ σ H F hs ss o r _ hm (fun x s1 vs H1 F1 t1 hs1 r1 hm1 => hsp _ _ _ _ ⟨f x s1, gt s1, F1, fun y => Dd (st s1 y), hpl x s1, by show HS (Dd (st s1 (gt s1))) H1 F1; rw [hid]; exact hs1, hd _ _ _ _ r1, by
    cases e : mf (f x s1) (gt s1) with
    | ok z =>
      rw [e] at hm1
      exact fun p H2 F2 t2 hs2 => q z.1 (st s1 z.2) p H2 F2 (t1.trans t2) hs2 hm1
    | err n u =>
      rw [e] at hm1
      exact fun H2 F2 t2 hs2 => qe n _ hm1 H2 F2 (t1.trans t2) (hde s1 u _ _ hs2)
    | stuck =>
      rw [e] at hm1
      exact hm1⟩) qe
theorem evc_methM {Rx : α → Ty} {mf : τ → Ω → Res Ω (γ × Ω)} {R : γ → Ty} {f : α → τ' → S → τ} {gt : S → Ω} {st : S → Ω → S} {Ma : (α → S → Res ε δ) → Res ε δ} {Mt : S → (τ' → S → Res ε δ) → Res ε δ} (hsp : ∀ vs H Q X, spM K args plm mf (fun r => .ok (R r)) vs H Q X → sp vs H Q X) {g : S → Ω → ε}
    (ha : EvC K X De ta G Dd s Ma Rx) (ht : ∀ s1, EvAC K X De t G Dd s1 (Mt s1) Rs) (hrec : RecOk Dd Rx C m) (hid : ∀ s, st s (gt s) = s) (hpl : ∀ x y s, plm (f x y s) (fun w => Dd (st s w))) (hde : ∀ s y, DLe (Dd (st s y)) (De (g s y)))
    (hd : ∀ x y s F v vs, (Rx x).p v F → AllP F (Rs y) vs → AllP F (args (f x y s)) (v :: (vs ++ dvs))) :
    EvC K X De (tMethSD C m sp dvs X ta t) G Dd s (fun kk => Ma fun x s1 => Mt s1 fun y s2 => Res.bind (Res.mapE (g s2) (mf (f x y s2) (gt s2))) fun z => kk z.1 (st s2 z.2)) R := fun kk σ H F hs ss o r Q hm q qe =>
  ha _ σ H F hs ss o r _ hm (fun x s1 v H1 F1 t1 hs1 r1 hm1 => by
    obtain ⟨a, dx, fs, e0, h1, h2⟩ := hrec x s1 v H1 F1 hs1 r1
    refine ⟨a, dx, fs, e0, h1, h2, ht s1 _ σ H1 F1 hs1 (ss.mono t1) o r _ hm1 (fun y s2 vs H2 F2 t2 hs2 r2 hm2 => hsp _ _ _ _ ⟨f x y s2, gt s2, F2, fun y => Dd (st s2 y), hpl x y s2, by show HS (Dd (st s2 (gt s2))) H2 F2; rw [hid]; exact hs2, hd _ _ _ _ _ _ ((Rx x).mono t2 r1) r2, ?_⟩) (fun n e h H2 F2 t2 => qe n e h H2 F2 (t1.trans t2))⟩
    cases e : mf (f x y s2) (gt s2) with
    | ok z =>
      rw [e] at hm2
      exact fun v H3 F3 t3 hs3 r3 => q z.1 (st s2 z.2) v H3 F3 ((t1.trans t2).trans t3) hs3 r3 hm2
    | err n u =>
      rw [e] at hm2
      exact fun H3 F3 t3 hs3 => qe n _ hm2 H3 F3 ((t1.trans t2).trans t3) (hde s2 u _ _ hs3)
    | stuck =>
      rw [e] at hm2
      exact hm2) qe
theorem evnc_methM {Rx : α → Ty} {mf : τ → Ω → Res Ω (γ × Ω)} {O : γ → OTy} {f : α → τ' → S → τ} {gt : S → Ω} {st : S → Ω → S} {Ma : (α → S → Res ε δ) → Res ε δ} {Mt : S → (τ' → S → Res ε δ) → Res ε δ} (hsp : ∀ vs H Q X, spM K args plm mf (fun r => .new (O r)) vs H Q X → sp vs H Q X) {g : S → Ω → ε}
    (ha : EvC K X De ta G Dd s Ma Rx) (ht : ∀ s1, EvAC K X De t G Dd s1 (Mt s1) Rs) (hrec : RecOk Dd Rx C m) (hid : ∀ s, st s (gt s) = s) (hpl : ∀ x y s, plm (f x y s) (fun w => Dd (st s w))) (hde : ∀ s y, DLe (Dd (st s y)) (De (g s y)))
    (hd : ∀ x y s F v vs, (Rx x).p v F → AllP F (Rs y) vs → AllP F (args (f x y s)) (v :: (vs ++ dvs))) :
    EvNC K X De (tMethSD C m sp dvs X ta t) G Dd s (fun kk => Ma fun x s1 => Mt s1 fun y s2 => Res.bind (Res.mapE (g s2) (mf (f x y s2) (gt s2))) fun z => kk z.1 (st s2 z.2)) O := fun kk σ H F hs ss o r Q hm q qe =>
  ha _ σ H F hs ss o r _ hm (fun x s1 v H1 F1 t1 hs1 r1 hm1 => by
    obtain ⟨a, dx, fs, e0, h1, h2⟩ := hrec x s1 v H1 F1 hs1 r1
    refine ⟨a, dx, fs, e0, h1, h2, ht s1 _ σ H1 F1 hs1 (ss.mono t1) o r _ hm1 (fun y s2 vs H2 F2 t2 hs2 r2 hm2 => hsp _ _ _ _ ⟨f x y s2, gt s2, F2, fun y => Dd (st s2 y), hpl x y s2, by show HS (Dd (st s2 (gt s2))) H2 F2; rw [hid]; exact hs2, hd _ _ _ _ _ _ ((Rx x).mono t2 r1) r2, ?_⟩) (fun n e h H2 F2 t2 => qe n e h H2 F2 (t1.trans t2))⟩
    cases e : mf (f x y s2) (gt s2) with
    | ok z =>
      rw [e] at hm2
      exact fun p H3 F3 t3 hs3 => q z.1 (st s2 z.2) p H3 F3 ((t1.trans t2).trans t3) hs3 hm2
    | err n u =>
      rw [e] at hm2
      exact fun H3 F3 t3 hs3 => qe n _ hm2 H3 F3 ((t1.trans t2).trans t3) (hde s2 u _ _ hs3)
    | stuck =>
      rw [e] at hm2
      exact hm2) qe
/-! ## from a promise to the walk -/
theorem pure_ofRd {mf : τ → Res Unit γ} {out : γ → Out} {N : List Str} {tf : TS} {vs : List V} {H : Hp} {Q : VK} {X : XK}
    (walk : ∀ (x : τ) (F : Hp) (D : Own) (E : Ends), pl x D → E.rt = Q → (∀ (K : PySem.W.Frag) G D1, GoV Q F (DN K) D1 → Go E.nx F G D1) → (dwish K X Q out (fun _ => D) (fun _ : Unit => D)).W F (mf x) → Go (tf E) F ((args x).map some ++ List.replicate (N.length - (args x).length) none) D)
    (h : spR K args pl mf out vs H Q X) : tf { nx := fun _ H' => Q .non H', rt := Q } (L2.start N vs) H := by
  obtain ⟨x, F, D, hp0, hs, ha, hp⟩ := h
  have z := SS.start (N := N) ha
  rw [ha.len] at z
  exact walk x F D { nx := fun _ H' => Q .non H', rt := Q } hp0 rfl (fun K G D1 k σ H F1 s hs ss => k _ H F1 s hs .non) hp _ H F (Same.refl _) hs z
theorem pure_ofWr {mf : τ → Ω → Res Ω (γ × Ω)} {out : γ → Out} {N : List Str} {tf : TS} {vs : List V} {H : Hp} {Q : VK} {X : XK}
    (walk : ∀ (x : τ) (y : Ω) (F : Hp) (Dp : Ω → Own) (E : Ends), plm x Dp → E.rt = Q → (∀ (K : PySem.W.Frag) G D1, GoV Q F (DN K) D1 → Go E.nx F G D1) → (dwish K X Q (fun r : γ × Ω => out r.1) (fun r => Dp r.2) Dp).W F (mf x y) →
      Go (tf E) F ((args x).map some ++ List.replicate (N.length - (args x).length) none) (Dp y))
    (h : spM K args plm mf out vs H Q X) : tf { nx := fun _ H' => Q .non H', rt := Q } (L2.start N vs) H := by
  obtain ⟨x, y, F, Dp, hp0, hs, ha, hp⟩ := h
  have z := SS.start (N := N) ha
  rw [ha.len] at z
  exact walk x y F Dp { nx := fun _ H' => Q .non H', rt := Q } hp0 rfl (fun K G D1 k σ H F1 s hs ss => k _ H F1 s hs .non) hp _ H F (Same.refl _) hs z
theorem pure_ofIRd {mf : τ → Res Unit γ} {fl : γ → Fds} {N : List Str} {tf : TS} {vs : List V} {H : Hp} {Q : VK} {X : XK}
    (walk : ∀ (x : τ) (F : Hp) (D : Own) (a : Addr) (E : Ends), pl x D → E.rt = Q → (∀ F1 r G D1, GoI K Q F1 C a (fl r) D → G[0]? = some (some (INa K C a (fl r))) → D.Sublist D1 → Go E.nx F1 G D1) → (iwish K C X Q a fl D).W F (mf x) → Go (tf E) F (some (Is (.ref a)) :: ((args x).map some ++ List.replicate (N.length - 1 - (args x).length) none)) ((a, OI K C []) :: D))
    (h : spIR K C args pl mf fl vs H Q X) : tf { nx := fun _ H' => Q .non H', rt := Q } (L2.start N vs) H := by
  obtain ⟨x, F, D, a, us, e, hp0, hs, ha, hp⟩ := h
  subst e
  have z := SS.start (N := N) (AllP.cons (R := Is (.ref a)) rfl ha)
  rw [List.length_cons, ha.len] at z
  have e2 : ((Is (.ref a) :: args x).map some ++ List.replicate (N.length - ((args x).length + 1)) none) = some (Is (.ref a)) :: ((args x).map some ++ List.replicate (N.length - 1 - (args x).length) none) := by
    rw [List.map_cons, List.cons_append, Nat.sub_sub, Nat.add_comm 1]
  rw [e2] at z
  refine walk x F D a { nx := fun _ H' => Q .non H', rt := Q } hp0 rfl (fun F1 r G D1 g hg sb σ H' F' s hs' ss => ?_) hp _ H F (Same.refl _) hs z
  obtain ⟨v, e1, e3⟩ := ss.get hg
  have ev : v = .ref a := e3.1
  subst ev
  exact g H' F' s (hs'.drop sb) e3
theorem spR_len {mf : τ → Res Unit γ} {out : γ → Out} {n : Nat} (e : ∀ x, (args x).length = n) : ∀ vs H Q E, spR K args pl mf out vs H Q E → vs.length = n := fun vs H Q E ⟨x, F, D, _, _, ha, _⟩ => by rw [ha.len, e]
theorem spM_len {mf : τ → Ω → Res Ω (γ × Ω)} {out : γ → Out} {n : Nat} (e : ∀ x, (args x).length = n) : ∀ vs H Q E, spM K args plm mf out vs H Q E → vs.length = n := fun vs H Q E ⟨x, y, F, D, _, _, ha, _⟩ => by rw [ha.len, e]
theorem spIR_len {mf : τ → Res Unit γ} {fl : γ → Fds} {k : Nat} (h : ∀ x, (args x).length = k) : ∀ vs H Q E, spIR K C args pl mf fl vs H Q E → vs.length = k + 1 := fun vs H Q E ⟨x, F, D, a, us, e, _, hs, ha, _⟩ => by
  rw [e, List.length_cons, ha.len, h x]
end
end TL

end
section
set_option Elab.async false
set_option linter.all false
set_option maxRecDepth 100000
set_option maxHeartbeats 1000000
/-! # more for defs with cells -/
namespace TL
open PySem PySem.Spec L2
theorem at_n {S : Type} {Dd : S → Own} {c : S → Addr × OTy} (n : Nat) (h : ∀ s, (Dd s)[n]? = some (c s)) : ∀ s, (Dd s)[n]? = some (c s) := h
theorem at_cons {D : Own} {k : Nat} {c c' : Addr × OTy} (h : D[k]? = some c) : (c' :: D)[k + 1]? = some c := by rw [List.getElem?_cons_succ]; exact h
section
variable {K : PySem.W.Frag} {ε ε' ρ α β γ δ S τ τ' σt ω Ω : Type} {X : L2.St → XK} {Xk : XK} {De : ε → Own} {G G1 G2 : Sto} {D0 : Own} {Dd : S → Own} {s : S} {te ta tb tc tx : TE} {tt tu : TT} {F0 F1 : Hp} {E : Ends} {w : Wish K ε ρ} {t : TA} {n : Nat} {dvs : List V} {args : τ → List Ty} {Rs : τ' → List Ty} {C : Addr} {pl : τ → Own → Prop} {plm : τ → (Ω → Own) → Prop} {sp : Sp} {m : Str}
theorem hasC_at {b : Addr} {O : OTy} {k : Nat} {Ds : σt → Own} (hk : ∀ s, (Ds s)[k]? = some (b, O)) : ∀ s, hasC b O (Ds s) := fun s => List.mem_of_getElem? (hk s)
theorem evc_callRD {mf : τ → Res Unit γ} {R : γ → Ty} {f : τ' → S → τ} {M : (τ' → S → Res ε δ) → Res ε δ} (hsp : ∀ vs H Q X, spR K args pl mf (fun r => .ok (R r)) vs H Q X → sp vs H Q X) {g : S → ε} (h : EvAC K (fun _ => Xk) De t G Dd s M Rs) (hpl : ∀ x s, pl (f x s) (Dd s)) (hde : ∀ s, DLe (Dd s) (De (g s))) (hd : ∀ x s F vs, AllP F (Rs x) vs → AllP F (args (f x s)) (vs ++ dvs)) :
    EvC K (fun _ => Xk) De (tCall sp dvs Xk t) G Dd s (fun kk => M fun x s1 => Res.bind (Res.mapE (fun _ => g s1) (mf (f x s1))) fun z => kk z s1) R := evc_callR (g := g) hsp h hpl hde hd
theorem evnc_callRD {mf : τ → Res Unit γ} {O : γ → OTy} {f : τ' → S → τ} {M : (τ' → S → Res ε δ) → Res ε δ} (hsp : ∀ vs H Q X, spR K args pl mf (fun r => .new (O r)) vs H Q X → sp vs H Q X) {g : S → ε} (h : EvAC K (fun _ => Xk) De t G Dd s M Rs) (hpl : ∀ x s, pl (f x s) (Dd s)) (hde : ∀ s, DLe (Dd s) (De (g s))) (hd : ∀ x s F vs, AllP F (Rs x) vs → AllP F (args (f x s)) (vs ++ dvs)) :
    EvNC K (fun _ => Xk) De (tCall sp dvs Xk t) G Dd s (fun kk => M fun x s1 => Res.bind (Res.mapE (fun _ => g s1) (mf (f x s1))) fun z => kk z s1) O := evnc_callR (g := g) hsp h hpl hde hd
theorem evc_callMD {mf : τ → Ω → Res Ω (γ × Ω)} {R : γ → Ty} {f : τ' → S → τ} {gt : S → Ω} {st : S → Ω → S} {M : (τ' → S → Res ε δ) → Res ε δ} (hsp : ∀ vs H Q X, spM K args plm mf (fun r => .ok (R r)) vs H Q X → sp vs H Q X) {g : S → Ω → ε} (h : EvAC K (fun _ => Xk) De t G Dd s M Rs) (hid : ∀ s, st s (gt s) = s) (hpl : ∀ x s, plm (f x s) (fun y => Dd (st s y))) (hde : ∀ s y, DLe (Dd (st s y)) (De (g s y))) (hd : ∀ x s F vs, AllP F (Rs x) vs → AllP F (args (f x s)) (vs ++ dvs)) :
    EvC K (fun _ => Xk) De (tCall sp dvs Xk t) G Dd s (fun kk => M fun x s1 => Res.bind (Res.mapE (g s1) (mf (f x s1) (gt s1))) fun z => kk z.1 (st s1 z.2)) R := evc_callM (g := g) hsp h hid hpl hde hd
theorem evnc_callMD {mf : τ → Ω → Res Ω (γ × Ω)} {O : γ → OTy} {f : τ' → S → τ} {gt : S → Ω} {st : S → Ω → S} {M : (τ' → S → Res ε δ) → Res ε δ} (hsp : ∀ vs H Q X, spM K args plm mf (fun r => .new (O r)) vs H Q X → sp vs H Q X) {g : S → Ω → ε} (h : EvAC K (fun _ => Xk) De t G Dd s M Rs) (hid : ∀ s, st s (gt s) = s) (hpl : ∀ x s, plm (f x s) (fun y => Dd (st s y))) (hde : ∀ s y, DLe (Dd (st s y)) (De (g s y))) (hd : ∀ x s F vs, AllP F (Rs x) vs → AllP F (args (f x s)) (vs ++ dvs)) :
    EvNC K (fun _ => Xk) De (tCall sp dvs Xk t) G Dd s (fun kk => M fun x s1 => Res.bind (Res.mapE (g s1) (mf (f x s1) (gt s1))) fun z => kk z.1 (st s1 z.2)) O := evnc_callM (g := g) hsp h hid hpl hde hd
/-- tuple(xs) of one's own list -/
theorem evc_tupO {β' : Type} {i k : Nat} {a : Addr} {e : β' → PyData} {xs : List β'} (hi : G[i]? = some (some (Is (.ref a)))) (hk : ∀ s, (Dd s)[k]? = some (a, OLT (tD K e) xs)) : EvC (β := δ) K X De (tCB (cTup K) (tCons (tVar i) tNil)) G Dd s (fun kk => kk xs s) (tD K (eV e)) := fun kk σ H F hs ss o r Q hm q qe => by
  obtain ⟨v, e1, e2⟩ := ss.get hi
  have ev : v = .ref a := e2
  subst ev
  obtain ⟨o1, ho, vs, rfl, hx⟩ := hs.at (hk s)
  refine ⟨_, e1, a, vs, rfl, .inl ⟨SqL.of ho, fun l hl => ?_⟩⟩
  have s2 : Same F (upd F l (.tup vs)) := same_new (hs.free hl)
  exact q xs s _ _ (upd F l (.tup vs)) s2 (hs.frz hl) (.tup (SqT.of upd_same) (dpAll_mono s2 _ vs (allP_map hx))) hm
theorem evc_tupOT {β' : Type} {i k : Nat} {a : Addr} {R : β' → Ty} {xs : List β'} (hi : G[i]? = some (some (Is (.ref a)))) (hk : ∀ s, (Dd s)[k]? = some (a, OLT R xs)) : EvC (β := δ) K X De (tCB (cTup K) (tCons (tVar i) tNil)) G Dd s (fun kk => kk xs s) (VT K R) := fun kk σ H F hs ss o r Q hm q qe => by
  obtain ⟨v, e1, e2⟩ := ss.get hi
  have ev : v = .ref a := e2
  subst ev
  obtain ⟨o1, ho, vs, rfl, hx⟩ := hs.at (hk s)
  refine ⟨_, e1, a, vs, rfl, .inl ⟨SqL.of ho, fun l hl => ?_⟩⟩
  have s2 : Same F (upd F l (.tup vs)) := same_new (hs.free hl)
  exact q xs s _ _ (upd F l (.tup vs)) s2 (hs.frz hl) ⟨l, vs, rfl, SqT.of upd_same, hx.mono s2⟩ hm
theorem evc_tupLT {R : α → Ty} {M : (List α → S → Res ε δ) → Res ε δ} (h : EvC K X De te G Dd s M (LT K R)) : EvC K X De (tCB (cTup K) (tCons te tNil)) G Dd s M (VT K R) := fun kk σ H F hs ss o r Q hm q qe =>
  h kk σ H F hs ss o r _ hm (fun xs s1 v H1 F1 t1 hs1 r1 hm1 => by
    obtain ⟨a, vs, rfl, h1, h2⟩ := r1
    refine ⟨a, vs, rfl, .inl ⟨sqL_up hs1 h1, fun l hl => ?_⟩⟩
    have s2 : Same F1 (upd F1 l (.tup vs)) := same_new (hs1.free hl)
    exact q xs s1 _ _ (upd F1 l (.tup vs)) (t1.trans s2) (hs1.frz hl) ⟨l, vs, rfl, SqT.of upd_same, h2.mono s2⟩ hm1) qe
theorem evc_tupVT {R : α → Ty} {M : (List α → S → Res ε δ) → Res ε δ} (h : EvC K X De te G Dd s M (VT K R)) : EvC K X De (tCB (cTup K) (tCons te tNil)) G Dd s M (VT K R) := fun kk σ H F hs ss o r Q hm q qe =>
  h kk σ H F hs ss o r _ hm (fun xs s1 v H1 F1 t1 hs1 r1 hm1 => by
    obtain ⟨a, vs, e0, h1, h2⟩ := r1
    subst e0
    exact ⟨a, vs, rfl, .inr ⟨sqT_up hs1 h1, q xs s1 _ H1 F1 t1 hs1 ⟨a, vs, rfl, h1, h2⟩ hm1⟩⟩) qe
/-! ## a list or a tuple -/
def WT (K : PySem.W.Frag) {α : Type} (R : α → Ty) (xs : List α) : Ty := ⟨fun v F => ∃ a vs, v = .ref a ∧ (SqL K F a vs ∨ SqT K F a vs) ∧ AllP F (xs.map R) vs, fun s ⟨a, vs, e, h1, h2⟩ => ⟨a, vs, e, h1.imp s.seq (same_sqT s), h2.mono s⟩⟩
theorem sv_W {Re : α → Ty} : SView K Dd (WT K Re) id Re := fun x s v H F hs ⟨a, vs, e, h1, h2⟩ => ⟨a, vs, e, h1.imp (sqL_up hs) (sqT_up hs), h2⟩
theorem w_L {e : α → PyData} : ∀ (xs : List α) (v : V) (F : Hp), (tD K (eL e) xs).p v F → (WT K (tD K e) xs).p v F := fun xs v F r => let ⟨a, vs, h0, h1, h2⟩ := dp_lst r; ⟨a, vs, h0, .inl h1, map_allP h2⟩
theorem w_V {e : α → PyData} : ∀ (xs : List α) (v : V) (F : Hp), (tD K (eV e) xs).p v F → (WT K (tD K e) xs).p v F := fun xs v F r => let ⟨a, vs, h0, h1, h2⟩ := dp_tup r; ⟨a, vs, h0, .inr h1, map_allP h2⟩
theorem w_LT {Re : α → Ty} : ∀ (xs : List α) (v : V) (F : Hp), (LT K Re xs).p v F → (WT K Re xs).p v F := fun xs v F ⟨a, vs, h0, h1, h2⟩ => ⟨a, vs, h0, .inl h1, h2⟩
theorem w_VT {Re : α → Ty} : ∀ (xs : List α) (v : V) (F : Hp), (VT K Re xs).p v F → (WT K Re xs).p v F := fun xs v F ⟨a, vs, h0, h1, h2⟩ => ⟨a, vs, h0, .inr h1, h2⟩
theorem evItc_W {R : α → Ty} {M : (List α → S → Res ε δ) → Res ε δ} (h : EvC K X De te G Dd s M (WT K R)) : EvItC K X De (iSeq K te) G Dd s (fun _ => True) M R := fun kk σ H F hs ss o r Q hm q qe =>
  .inr (.inr (h kk σ H F hs ss o r _ hm (fun xs s1 v H1 F1 t1 hs1 r1 hm1 => by
    obtain ⟨a, vs, rfl, h1, h2⟩ := r1
    refine ⟨a, rfl, ?_⟩
    rcases h1 with h1 | h1
    · refine .inl ⟨⟨vs, sqL_up hs1 h1⟩, q xs s1 _ H1 F1 t1 hs1 (fun D H2 F2 _ s2 hs2 i => ⟨fun R' hR => ?_, fun hl => ?_⟩) hm1⟩
      · obtain ⟨v, e1, e2⟩ := h2.get hR
        have sq : SqL K H2 a vs := sqL_up hs2 (s2.seq h1)
        refine ⟨⟨vs, v, sq, e1⟩, fun x H' hy => ?_⟩
        obtain ⟨e3, e4⟩ := hy
        subst e3
        have e5 := e4 vs sq
        rw [e1] at e5
        cases e5
        exact ⟨F2, Same.refl _, hs2, R'.mono s2 e2⟩
      · exact ⟨vs, sqL_up hs2 (s2.seq h1), by rw [h2.len]; exact hl⟩
    · refine .inr ⟨⟨vs, sqT_up hs1 h1⟩, q xs s1 _ H1 F1 t1 hs1 (fun D H2 F2 _ s2 hs2 i => ⟨fun R' hR => ?_, fun hl => ?_⟩) hm1⟩
      · obtain ⟨v, e1, e2⟩ := h2.get hR
        have sq : SqT K H2 a vs := sqT_up hs2 (same_sqT s2 h1)
        refine ⟨⟨vs, v, sq, e1⟩, fun x H' hy => ?_⟩
        obtain ⟨e3, e4⟩ := hy
        subst e3
        have e5 := e4 vs sq
        rw [e1] at e5
        cases e5
        exact ⟨F2, Same.refl _, hs2, R'.mono s2 e2⟩
      · exact ⟨vs, sqT_up hs2 (same_sqT s2 h1), by rw [h2.len]; exact hl⟩) qe))
theorem evc_tupW {e : α → PyData} {M : (List α → S → Res ε δ) → Res ε δ} (h : EvC K X De te G Dd s M (WT K (tD K e))) : EvC K X De (tCB (cTup K) (tCons te tNil)) G Dd s M (tD K (eV e)) := fun kk σ H F hs ss o r Q hm q qe =>
  h kk σ H F hs ss o r _ hm (fun xs s1 v H1 F1 t1 hs1 r1 hm1 => by
    obtain ⟨a, vs, rfl, h1, h2⟩ := r1
    have h3 := allP_map h2
    rcases h1 with h1 | h1
    · refine ⟨a, vs, rfl, .inl ⟨sqL_up hs1 h1, fun l hl => ?_⟩⟩
      have s2 : Same F1 (upd F1 l (.tup vs)) := same_new (hs1.free hl)
      exact q xs s1 _ _ (upd F1 l (.tup vs)) (t1.trans s2) (hs1.frz hl) (.tup (SqT.of upd_same) (dpAll_mono s2 _ vs h3)) hm1
    · exact ⟨a, vs, rfl, .inr ⟨sqT_up hs1 h1, q xs s1 _ H1 F1 t1 hs1 (.tup h1 h3) hm1⟩⟩) qe
theorem evc_tupWT {R : α → Ty} {M : (List α → S → Res ε δ) → Res ε δ} (h : EvC K X De te G Dd s M (WT K R)) : EvC K X De (tCB (cTup K) (tCons te tNil)) G Dd s M (VT K R) := fun kk σ H F hs ss o r Q hm q qe =>
  h kk σ H F hs ss o r _ hm (fun xs s1 v H1 F1 t1 hs1 r1 hm1 => by
    obtain ⟨a, vs, rfl, h1, h2⟩ := r1
    rcases h1 with h1 | h1
    · refine ⟨a, vs, rfl, .inl ⟨sqL_up hs1 h1, fun l hl => ?_⟩⟩
      have s2 : Same F1 (upd F1 l (.tup vs)) := same_new (hs1.free hl)
      exact q xs s1 _ _ (upd F1 l (.tup vs)) (t1.trans s2) (hs1.frz hl) ⟨l, vs, rfl, SqT.of upd_same, h2.mono s2⟩ hm1
    · exact ⟨a, vs, rfl, .inr ⟨sqT_up hs1 h1, q xs s1 _ H1 F1 t1 hs1 ⟨a, vs, rfl, h1, h2⟩ hm1⟩⟩) qe
theorem isn_W {R : α → Ty} : ∀ (y : List α) (v : V) (F : Hp), (WT K R y).p v F → decide (v = V.non) = false := fun y v F ⟨a, vs, e, _⟩ => decide_eq_false fun z => by rw [e] at z; cases z
theorem isn_LT {R : α → Ty} : ∀ (y : List α) (v : V) (F : Hp), (LT K R y).p v F → decide (v = V.non) = false := fun y v F ⟨a, vs, e, _⟩ => decide_eq_false fun z => by rw [e] at z; cases z
theorem isn_VT {R : α → Ty} : ∀ (y : List α) (v : V) (F : Hp), (VT K R y).p v F → decide (v = V.non) = false := fun y v F ⟨a, vs, e, _⟩ => decide_eq_false fun z => by rw [e] at z; cases z
theorem isn_Is {a : Addr} : ∀ (y : Unit) (v : V) (F : Hp), ((fun _ : Unit => Is (.ref a)) y).p v F → decide (v = V.non) = false := fun y v F r => by
  have e : v = .ref a := r
  subst e
  rfl
end
end TL

end
section
set_option Elab.async false
set_option linter.all false
set_option maxRecDepth 100000
set_option maxHeartbeats 1000000
/-! # kinds by structure: tuples without a dict of their own, None or a thing, dicts of anything -/
namespace TL
open PySem PySem.Spec L2
/-! ## readings -/
/-- a tuple that has no dict of its own -/
def PuT (K : PySem.W.Frag) (F : Hp) (a : Addr) (xs : List V) : Prop := (∃ o, F a = some (.frz o (.tup xs)) ∧ o.dict = none) ∨ ∃ (o : Obj) (its : Array Value) (n : Nat), K.lookup a = some o ∧ o.cls = .type "tuple" ∧ o.dict = none ∧ o.data = .seq its n ∧ its.size ≤ sizeLine ∧ Vals xs its.toList
theorem PuT.sq {K : PySem.W.Frag} {F : Hp} {a : Addr} {xs : List V} (h : PuT K F a xs) : SqT K F a xs := by
  rcases h with ⟨o, h, _⟩ | ⟨o, its, n, h1, h2, h3, h4, h5, h6⟩
  · exact .inl (.inr ⟨o, h⟩)
  · exact .inr ⟨o, its, n, h1, h2, h4, h5, h6⟩
theorem PuT.up {K : PySem.W.Frag} {F F' : Hp} {a : Addr} {xs : List V} (s : Same F F') (h : PuT K F a xs) : PuT K F' a xs := by
  rcases h with ⟨o, h, q⟩ | h
  · exact .inl ⟨o, s _ _ h, q⟩
  · exact .inr h
section
variable {X : Cx} {t : TA} {es : List Expr} {pos : Pos}
def tTupP (t : TA) : TE := fun σ H Q => t σ H fun xs H1 => xs.length ≤ sizeLine ∧ ∀ p o, H1 p = none → o.dict = none → Q (.ref p) (upd H1 p (.frz o (.tup xs)))
theorem pe_tupP {x1} (h : PA X es t) : PE X (.Tuple es x1 pos) (tTupP t) := by
  refine ⟨fun pins s σ H Q I hq => ?_⟩
  refine wpAny_Tuple_spliced (thn (h.run pos pins s σ H _ I hq) fun us s1 ⟨xs, H1, I1, r, z, q⟩ => ⟨by rw [← r.length]; exact z, ?_⟩)
  have hf : H1 s1.heap.objs.size = none := I1.hok.fresh (Nat.le_refl _)
  refine ⟨.ref s1.heap.objs.size, _, I1.laid (t' := s1.toks) (o := .frz { cls := .type "tuple", data := .seq us.toArray } (.tup xs)) (fun b u e => Heap.get?_push_of_some _ e) (Nat.le_refl _) ?_, rfl, q _ _ hf rfl⟩
  exact ⟨Heap.get?_push_size _ rfl, z, us, r, ⟨_, Heap.get?_push_size _ rfl, rfl, _, rfl⟩⟩
/-- tuple(..) -/
def cTupP (K : PySem.W.Frag) : List V → Hp → VK → Prop := fun xs H Q => ∃ p ys, xs = [.ref p] ∧ ((SqL K H p ys ∧ ∀ l o, H l = none → o.dict = none → Q (.ref l) (upd H l (.frz o (.tup ys)))) ∨ (SqT K H p ys ∧ Q (.ref p) H))
theorem call_tupP : CallR X (.type "tuple") (cTupP X.K) := by
  intro pins s σ H xs us Q I r h
  obtain ⟨p, ys, rfl, h⟩ := h
  obtain ⟨u, rfl, rx⟩ := vals1 r
  cases rx
  rcases h with ⟨hq, q⟩ | ⟨hq, q⟩
  · obtain ⟨its, r', pl, hz⟩ := I.list hq
    have hlen := r'.length
    refine call_tuple_list pl.isList (fun h' kp => ?_) (by simp only [List.size_toArray] <;> omega)
    have I1 : Inv X pins σ H { s with heap := h' } := I.kept (t' := s.toks) kp
    have I2 : Inv X pins σ (upd H h'.objs.size (.frz { cls := .type "tuple", data := .seq its.toArray } (.tup ys))) { s with heap := h'.push { cls := .type "tuple", data := .seq its.toArray } } :=
      I1.laid (t' := s.toks) (fun b o e => Heap.get?_push_of_some _ e) (Nat.le_refl _) (show ObjOk X.prog X.w _ _ _ (.frz _ (.tup ys)) from ⟨Heap.get?_push_size _ rfl, hz, its, r', PyProof.Rows.IsTup.new _ _⟩)
    exact ⟨.ref h'.objs.size, _, I2, rfl, q _ _ (I1.hok.fresh (Nat.le_refl _)) rfl⟩
  · obtain ⟨its, r', pl, hz⟩ := I.tuple hq
    exact call_tuple_same pl ⟨.ref p, H, I, rfl, q⟩
/-- t[lo:hi] -/
def rSlP (K : PySem.W.Frag) : V → Option Int → Option Int → Hp → VK → Prop := fun x lo hi H Q => ∃ a xs, x = .ref a ∧ SqT K H a xs ∧
  (HT.sIx xs.length 0 lo = 0 ∧ HT.sIx xs.length xs.length hi = xs.length → Q (.ref a) H) ∧
  (¬ (HT.sIx xs.length 0 lo = 0 ∧ HT.sIx xs.length xs.length hi = xs.length) → ∀ p o, H p = none → o.dict = none → Q (.ref p) (upd H p (.frz o (.tup (cutV xs lo hi)))))
theorem sl_tupP : SlR X (rSlP X.K) := by
  intro pins s σ H x v vl vu lo hi sl Q I rx hs pl pu h
  obtain ⟨a, xs, rfl, hx, q1, q2⟩ := h
  cases rx
  obtain ⟨its, r, ht, hz⟩ := I.tuple hx
  have hlen : its.toArray.size = xs.length := by rw [List.size_toArray]; exact r.length.symm
  refine ⟨"tuple", _, PyProof.Rows.slot_tuple_getitem.lookup, ht.typeIs, ?_⟩
  by_cases hw : HT.sIx xs.length 0 lo = 0 ∧ HT.sIx xs.length xs.length hi = xs.length
  · exact getItem_tuple_whole ht hs pl pu (by rw [hlen]; exact hw) ⟨.ref a, H, I, rfl, q1 hw⟩
  · refine HT.getItem_tuple_cut ht hs pl pu (by rw [hlen]; exact hw) ?_ (by rw [hlen]; exact hz)
    rw [hlen]
    refine ⟨.ref s.heap.objs.size, _, I.laid (t' := s.toks) (o := .frz { cls := .type "tuple", data := .seq (List.take (HT.sIx xs.length xs.length hi - HT.sIx xs.length 0 lo) (List.drop (HT.sIx xs.length 0 lo) its.toArray.toList)).toArray } (.tup (cutV xs lo hi))) (fun b ob q => Heap.get?_push_of_some _ q) (Nat.le_refl _) ?_, rfl, q2 hw _ _ (I.hok.fresh (Nat.le_refl _)) rfl⟩
    exact ⟨Heap.get?_push_size _ rfl, Nat.le_trans (cutV_length xs lo hi) hz, _, (r.drop (HT.sIx xs.length 0 lo)).take (HT.sIx xs.length xs.length hi - HT.sIx xs.length 0 lo), PyProof.Rows.IsTup.new _ _⟩
theorem plainTup {pins : List (Addr × Obj)} {σ : L2.St} {H : Hp} {s : Shared} {a : Addr} {xs : List V} (I : Inv X pins σ H s) (h : PuT X.K H a xs) : ∃ its : List Value, Vals xs its ∧ PlainSeq "tuple" s.heap a its.toArray ∧ xs.length ≤ sizeLine := by
  rcases h with ⟨o, h, hd⟩ | ⟨o, its, n, hk, hc, hd, hs, hz, r⟩
  · obtain ⟨e, z, its, r, ⟨o2, e2, c2, n2, d2⟩⟩ := (show ObjOk X.prog X.w H s.heap a (.frz o (.tup xs)) from I.hok a _ h)
    rw [e] at e2
    cases e2
    exact ⟨its, r, ⟨o, n2, e, c2, hd, d2⟩, z⟩
  · refine ⟨its.toList, r, ⟨o, n, I.kIn a o hk, hc, hd, by simpa using hs⟩, ?_⟩
    have e := r.length
    simp only [Array.length_toList] at e
    omega
theorem pairs_of2 {pins : List (Addr × Obj)} {σ : L2.St} {H : Hp} {s : Shared} (I : Inv X pins σ H s) : ∀ {ps : List Addr} {kvs : List (L2.Key × V)}, Paired (fun p kv => SqT X.K H p [kV kv.1, kv.2]) ps kvs →
    ∃ (prs : List (L2.Key × Value)) (us : List (Value × Value)), KV kvs prs ∧ prs.length = ps.length ∧ us.length = ps.length ∧ ∀ (j : Nat) (k v : Value), us[j]? = some (k, v) → ∃ (b : Addr) (key : L2.Key), ps[j]? = some b ∧ s.heap.IsTuple b #[k, v] ∧ prs[j]? = some (key, v) ∧ keyIs key k = true
  | _, _, .nil => ⟨[], [], .nil, rfl, rfl, fun j k v e => by simp at e⟩
  | _, _, .cons (a := p) (b := kv) h t => by
    obtain ⟨prs, us, r, hl, hl2, hp⟩ := pairs_of2 I t
    obtain ⟨its, rv, ht, _⟩ := I.tuple h
    obtain ⟨u, y, ei, ru, ry⟩ := vals2 rv
    subst ei
    refine ⟨(kv.1, y) :: prs, (u, y) :: us, .cons ⟨rfl, ry⟩ r, by rw [List.length_cons, List.length_cons, hl], by rw [List.length_cons, List.length_cons, hl2], fun j k v e => ?_⟩
    cases j with
    | zero =>
      have e' : (u, y) = (k, v) := Option.some.inj e
      cases e'
      exact ⟨p, kv.1, rfl, ht, rfl, kV_is (P := X.prog) (w := X.w) ru⟩
    | succ j =>
      obtain ⟨b, key, e1, e2, e3, e4⟩ := hp j k v (by simpa using e)
      exact ⟨b, key, by simpa using e1, e2, by simpa using e3, e4⟩
/-- dict(ps), a list or a tuple of pairs -/
def cDctT (K : PySem.W.Frag) : List V → Hp → VK → Prop := fun xs H Q => ∃ (a : Addr) (ps : List Addr) (kvs : List (L2.Key × V)), xs = [.ref a] ∧ PuT K H a (ps.map V.ref) ∧ Paired (fun p kv => SqT K H p [kV kv.1, kv.2]) ps kvs ∧
    ∀ p, H p = none → Q (.ref p) (upd H p (.dK (mergeK [] kvs)))
theorem call_dctT (hcalm : X.calm = true) : CallR X (.type "dict") (cDctT X.K) := by
  intro pins s σ H xs us Q I r q
  obtain ⟨a, ps, kvs, ex, hq, hp, q⟩ := q
  subst ex
  obtain ⟨u, eu, rx⟩ := vals1 r
  subst eu
  cases rx
  obtain ⟨its, rv, pl, hz⟩ := plainTup I hq
  have ei := refs_at rv
  subst ei
  rw [List.length_map] at hz
  obtain ⟨prs, vs, rel, hl, hl2, hpr⟩ := pairs_of2 I hp
  refine call_dict_pairs (knd := mixKind X.prog X.w) (kvs := prs) (PairArg.tuple a (ps.map Value.ref).toArray (fun j => ps.getD j 0) vs) (I.ok.hd hcalm) ⟨pl, by simp [hl2], fun j k v e => ?_⟩ ⟨by rw [hl, hl2], fun i key v e => ?_⟩ (by rw [hl2]; exact hz) fun h' tk hd' k => ?_
  · obtain ⟨b, key, e1, e2, _, _⟩ := hpr j k v e
    have e3 : ps.getD j 0 = b := by rw [List.getD_eq_getElem?_getD, e1]; rfl
    exact ⟨by dsimp only; rw [e3]; simp [e1], by dsimp only; rw [e3]; exact .inl e2⟩
  · obtain ⟨b, k2, e1, e2, e3, e4⟩ := hpr i key v e
    exact ⟨k2, e3, e4⟩
  · have hm : (s.heap.objs.size == sysModules) = false := beq_eq_false_iff_ne.mpr (Nat.ne_of_gt I.big)
    have hlen : (mergeK [] kvs).length ≤ sizeLine := by
      refine Nat.le_trans (length_mergeK kvs []) ?_
      rw [List.length_nil, Nat.zero_add, rel.length, hl]
      exact hz
    exact ⟨.ref s.heap.objs.size, upd H s.heap.objs.size (.dK (mergeK [] kvs)), I.laid (t' := tk) (fun b o e => k b o (by simp) e) (Nat.le_refl _) (show ObjOk X.prog X.w _ _ _ (.dK (mergeK [] kvs)) from ⟨hlen, hm, merged [] prs, KV.merge rel .nil, hd'⟩), rfl, q _ (I.hok.fresh (Nat.le_refl _))⟩
end
end TL

end
section
set_option Elab.async false
set_option linter.all false
set_option maxRecDepth 100000
set_option maxHeartbeats 1000000
/-! # kinds by structure -/
namespace TL
open PySem PySem.Spec L2
/-- a tuple of things of such kinds -/
def TU (K : PySem.W.Frag) (Rs : List Ty) : Ty := ⟨fun v F => ∃ a vs, v = .ref a ∧ SqT K F a vs ∧ AllP F Rs vs, fun s ⟨a, vs, e, h1, h2⟩ => ⟨a, vs, e, same_sqT s h1, h2.mono s⟩⟩
/-- a tuple of any length, without a dict of its own -/
def VP (K : PySem.W.Frag) {α : Type} (R : α → Ty) (xs : List α) : Ty := ⟨fun v F => ∃ a vs, v = .ref a ∧ PuT K F a vs ∧ AllP F (xs.map R) vs, fun s ⟨a, vs, e, h1, h2⟩ => ⟨a, vs, e, h1.up s, h2.mono s⟩⟩
/-- None or a thing -/
def OpT {α : Type} (K : PySem.W.Frag) (R : α → Ty) (x : Option α) : Ty := ⟨fun v F => match x with
  | none => v = .non
  | some y => (R y).p v F, fun {v F F'} s h => by cases x with
  | none => exact h
  | some y => exact (R y).mono s h⟩
/-! ## what is data -/
abbrev Dat (K : PySem.W.Frag) (R : Ty) (d : PyData) : Prop := ∀ v F, R.p v F → Dp K F v d
def DD (K : PySem.W.Frag) (Rs : List Ty) (ds : List PyData) : Prop := ∀ F vs, AllP F Rs vs → DpAll K F vs ds
section
variable {K : PySem.W.Frag} {α β : Type}
theorem dd_nil : DD K [] [] := fun F vs h => by cases h; exact .nil
theorem dd_cons {R : Ty} {Rs : List Ty} {d : PyData} {ds : List PyData} (h : Dat K R d) (t : DD K Rs ds) : DD K (R :: Rs) (d :: ds) := fun F vs r => by
  cases r with
  | cons r1 r2 => exact .cons (h _ _ r1) (t _ _ r2)
theorem dd_map {R : α → Ty} {e : α → PyData} (h : ∀ x, Dat K (R x) (e x)) : ∀ xs : List α, DD K (xs.map R) (xs.map e)
  | [] => dd_nil
  | x :: xs => dd_cons (h x) (dd_map h xs)
theorem d_id {d : PyData} : Dat K (TL.D K d) d := fun _ _ h => h
theorem d_b {e : α → PyData} (x : α) : Dat K (tD K e x) (e x) := fun _ _ h => h
theorem d_T {Rs : List Ty} {ds : List PyData} (h : DD K Rs ds) : Dat K (TU K Rs) (.tuple ds) := fun v F ⟨a, vs, e, h1, h2⟩ => by subst e; exact .tup h1 (h _ _ h2)
theorem d_V {R : α → Ty} {e : α → PyData} (h : ∀ x, Dat K (R x) (e x)) (xs : List α) : Dat K (VP K R xs) (eV e xs) := fun v F ⟨a, vs, e0, h1, h2⟩ => by subst e0; exact .tup h1.sq (dd_map h xs _ _ h2)
theorem d_L {R : α → Ty} {e : α → PyData} (h : ∀ x, Dat K (R x) (e x)) (xs : List α) : Dat K (LT K R xs) (eL e xs) := fun v F ⟨a, vs, e0, h1, h2⟩ => by subst e0; exact .lst h1 (dd_map h xs _ _ h2)
theorem d_O {R : α → Ty} {e : α → PyData} (h : ∀ x, Dat K (R x) (e x)) (x : Option α) : Dat K (OpT K R x) (eO e x) := fun v F r => by
  cases x with
  | none => have e0 : v = .non := r; subst e0; exact .non
  | some y => exact h y v F r
/-- and back -/
abbrev Tad (K : PySem.W.Frag) (R : Ty) (d : PyData) : Prop := ∀ v F, Dp K F v d → R.p v F
def AA (K : PySem.W.Frag) (Rs : List Ty) (ds : List PyData) : Prop := ∀ F vs, DpAll K F vs ds → AllP F Rs vs
theorem aa_nil : AA K [] [] := fun F vs h => by cases h; exact .nil
theorem aa_cons {R : Ty} {Rs : List Ty} {d : PyData} {ds : List PyData} (h : Tad K R d) (t : AA K Rs ds) : AA K (R :: Rs) (d :: ds) := fun F vs r => by
  cases r with
  | cons r1 r2 => exact .cons (h _ _ r1) (t _ _ r2)
theorem aa_map {R : α → Ty} {e : α → PyData} (h : ∀ x, Tad K (R x) (e x)) : ∀ xs : List α, AA K (xs.map R) (xs.map e)
  | [] => aa_nil
  | x :: xs => aa_cons (h x) (aa_map h xs)
theorem u_id {d : PyData} : Tad K (TL.D K d) d := fun _ _ h => h
theorem u_b {e : α → PyData} (x : α) : Tad K (tD K e x) (e x) := fun _ _ h => h
theorem u_T {Rs : List Ty} {ds : List PyData} (h : AA K Rs ds) : Tad K (TU K Rs) (.tuple ds) := fun v F r => by
  obtain ⟨a, vs, e, h1, h2⟩ := dp_tup r
  exact ⟨a, vs, e, h1, h _ _ h2⟩
theorem u_L {R : α → Ty} {e : α → PyData} (h : ∀ x, Tad K (R x) (e x)) (xs : List α) : Tad K (LT K R xs) (eL e xs) := fun v F r => by
  obtain ⟨a, vs, e, h1, h2⟩ := dp_lst r
  exact ⟨a, vs, e, h1, aa_map h xs _ _ h2⟩
end
/-! ## entries of a dict -/
/-- keys as the dict holds them -/
structure KeyE (κ : Type) where
  f : κ → L2.Key
  inj : ∀ a b, f a = f b → a = b
def kS : KeyE Tx := ⟨fun t => Sum.inr t.s, fun a b h => Tx.ext' (Sum.inr.inj h)⟩
def kI : KeyE Int := ⟨fun i => Sum.inl i, fun a b h => Sum.inl.inj h⟩
inductive EntT {κ α : Type} (k : KeyE κ) (R : α → Ty) (F : Hp) : List (L2.Key × V) → List (κ × α) → Prop
  | nil : EntT k R F [] []
  | cons {x : κ} {v : V} {d : α} {kvs : List (L2.Key × V)} {m : List (κ × α)} : (R d).p v F → EntT k R F kvs m → EntT k R F ((k.f x, v) :: kvs) ((x, d) :: m)
section
variable {κ α : Type} [DecidableEq κ] {k : KeyE κ} {R : α → Ty} {F F' : Hp} {kvs : List (L2.Key × V)} {m : List (κ × α)}
omit [DecidableEq κ] in
theorem EntT.mono (h : EntT k R F kvs m) (s : Same F F') : EntT k R F' kvs m := by
  induction h with
  | nil => exact .nil
  | cons h _ ih => exact .cons ((R _).mono s h) ih
omit [DecidableEq κ] in
theorem EntT.len (h : EntT k R F kvs m) : kvs.length = m.length := by
  induction h with
  | nil => rfl
  | cons _ _ ih => simp [ih]
omit [DecidableEq κ] in
theorem EntT.keys (h : EntT k R F kvs m) : kvs.map (·.1) = m.map fun e => k.f e.1 := by
  induction h with
  | nil => rfl
  | cons _ _ ih => simp [ih]
omit [DecidableEq κ] in
theorem EntT.vals (h : EntT k R F kvs m) : AllP F (m.map fun e => R e.2) (kvs.map (·.2)) := by
  induction h with
  | nil => exact .nil
  | cons h _ ih => exact .cons h ih
theorem EntT.get (h : EntT k R F kvs m) (x : κ) : (dget m x = none ∧ valV kvs (k.f x) = none) ∨ ∃ d v, dget m x = some d ∧ valV kvs (k.f x) = some v ∧ (R d).p v F := by
  induction h with
  | nil => exact .inl ⟨rfl, rfl⟩
  | @cons x' v d kvs m hd _ ih =>
    by_cases e : x' = x
    · subst e
      exact .inr ⟨d, v, by simp [dget], by simp [valV], hd⟩
    · have e1 : dget ((x', d) :: m) x = dget m x := by simp [dget, e]
      have e2 : valV ((k.f x', v) :: kvs) (k.f x) = valV kvs (k.f x) := valV_neg (fun z => e (k.inj _ _ z))
      rw [e1, e2]
      exact ih
theorem EntT.any (h : EntT k R F kvs m) (x : κ) : (kvs.any fun e => decide (e.1 = k.f x)) = (m.any fun e => decide (e.1 = x)) := by
  induction h with
  | nil => rfl
  | @cons x' v d kvs m _ _ ih =>
    rw [List.any_cons, List.any_cons, ih]
    congr 1
    by_cases e : x' = x
    · subst e; simp
    · have e' : ¬ k.f x' = k.f x := fun z => e (k.inj _ _ z)
      simp [e, e']
omit [DecidableEq κ] in
theorem EntT.snoc (h : EntT k R F kvs m) {x : κ} {v : V} {d : α} (hd : (R d).p v F) : EntT k R F (kvs ++ [(k.f x, v)]) (m ++ [(x, d)]) := by
  induction h with
  | nil => exact .cons hd .nil
  | cons h _ ih => exact .cons h ih
theorem EntT.repl (h : EntT k R F kvs m) {x : κ} {v : V} {d : α} (hd : (R d).p v F) :
    EntT k R F (kvs.map fun e => if e.1 = k.f x then (e.1, v) else e) (m.map fun e => if e.1 = x then (e.1, d) else e) := by
  induction h with
  | nil => exact .nil
  | @cons x' v' d' kvs m h _ ih =>
    rw [List.map_cons, List.map_cons]
    by_cases e : x' = x
    · subst e
      rw [if_pos rfl, if_pos rfl]
      exact .cons hd ih
    · rw [if_neg (fun z => e (k.inj _ _ z)), if_neg e]
      exact .cons h ih
theorem EntT.put (h : EntT k R F kvs m) {x : κ} {v : V} {d : α} (hd : (R d).p v F) : EntT k R F (putK kvs (k.f x) v) (dput m x d) := by
  unfold putK dput
  rw [h.any x]
  split
  · exact h.repl hd
  · exact h.snoc hd
theorem EntT.merge {kvs2 : List (L2.Key × V)} {m2 : List (κ × α)} (h2 : EntT k R F kvs2 m2) : ∀ {kvs : List (L2.Key × V)} {m : List (κ × α)}, EntT k R F kvs m → EntT k R F (mergeK kvs kvs2) (m2.foldl (fun a e => dput a e.1 e.2) m) := by
  induction h2 with
  | nil => intro kvs m h; exact h
  | cons h _ ih => intro kvs m h'; exact ih (h'.put h)
theorem EntT.drop (h : EntT k R F kvs m) (x : κ) : EntT k R F (dropK kvs (k.f x)) (m.filter fun e => decide (e.1 ≠ x)) := by
  induction h with
  | nil => exact .nil
  | @cons x' v' d' kvs m h _ ih =>
    unfold dropK at ih ⊢
    rw [List.filter_cons, List.filter_cons]
    by_cases e : x' = x
    · subst e
      simpa using ih
    · have e' : ¬ k.f x' = k.f x := fun z => e (k.inj _ _ z)
      simp only [ne_eq, e, e', not_false_eq_true, decide_true, if_true]
      exact .cons h ih
end
/-- ps as a dict: later ones win -/
def dof {κ α : Type} [DecidableEq κ] (ps : List (κ × α)) : List (κ × α) := ps.foldl (fun a e => dput a e.1 e.2) []
def dmerge {κ α : Type} [DecidableEq κ] (m ps : List (κ × α)) : List (κ × α) := ps.foldl (fun a e => dput a e.1 e.2) m
def ddrop {κ α : Type} [DecidableEq κ] (m : List (κ × α)) (x : κ) : List (κ × α) := m.filter fun e => decide (e.1 ≠ x)
/-- an owned dict -/
def OXT {κ α : Type} (k : KeyE κ) (R : α → Ty) (m : List (κ × α)) : OTy := ⟨fun o F => ∃ kvs, o = .dK kvs ∧ EntT k R F kvs m, fun s ⟨kvs, e, h⟩ => ⟨kvs, e, h.mono s⟩⟩
/-- a dict that stands -/
def DT {κ α : Type} (k : KeyE κ) (R : α → Ty) (m : List (κ × α)) : Ty := ⟨fun v F => ∃ a od kvs, v = .ref a ∧ F a = some (.frz od (.dK kvs)) ∧ EntT k R F kvs m, fun s ⟨a, od, kvs, h0, h1, h2⟩ => ⟨a, od, kvs, h0, s _ _ h1, h2.mono s⟩⟩
/-- which values are such keys -/
abbrev KeyV {κ : Type} (k : KeyE κ) (Rk : κ → Ty) : Prop := ∀ x v F, (Rk x).p v F → v = kV (k.f x)
theorem kvS {K : PySem.W.Frag} : KeyV kS (tD K eS) := fun x v F r => dp_str r
theorem kvI {K : PySem.W.Frag} : KeyV kI (tD K eI) := fun x v F r => dp_int r
theorem kS_at {K : PySem.W.Frag} (x : Tx) (F : Hp) : (tD K eS x).p (kV (kS.f x)) F := .str _
theorem kI_at {K : PySem.W.Frag} (x : Int) (F : Hp) : (tD K eI x).p (kV (kI.f x)) F := .int _
section
variable {K : PySem.W.Frag} {ε ε' ρ α β γ δ S τ τ' σt ω κ : Type} [DecidableEq κ] {X : L2.St → XK} {De : ε → Own} {G G1 G2 : Sto} {D0 : Own} {Dd : S → Own} {s : S} {te ta tb tc tx : TE} {tt tu : TT} {F0 F1 : Hp} {E : Ends} {w : Wish K ε ρ} {t : TA} {n : Nat} {k : KeyE κ} {Rk : κ → Ty} {Rv : β → Ty}
def DVw {S α β κ : Type} (Dd : S → Own) (R : α → Ty) (f : α → List (κ × β)) (k : KeyE κ) (Rv : β → Ty) : Prop := ∀ x s v H F, HS (Dd s) H F → (R x).p v F → ∃ a kvs, v = .ref a ∧ EntT k Rv F kvs (f x) ∧ (H a = some (.dK kvs) ∨ ∃ od, H a = some (.frz od (.dK kvs)))
omit [DecidableEq κ] in
theorem dw_Z : DVw Dd (DT k Rv) id k Rv := fun x s v H F hs ⟨a, od, kvs, h0, h1, h2⟩ => ⟨a, kvs, h0, h2, .inr ⟨od, hs.sub _ _ h1⟩⟩
omit [DecidableEq κ] in
theorem dw_O {m : List (κ × β)} {a : Addr} {j : Nat} (hk : ∀ s, (Dd s)[j]? = some (a, OXT k Rv m)) : DVw Dd (fun _ : Unit => Is (.ref a)) (fun _ => m) k Rv := fun x s v H F hs r => by
  obtain ⟨o, ho, kvs, rfl, h⟩ := hs.at (hk s)
  exact ⟨a, kvs, r, h, .inl ho⟩
theorem dgetK_at {H : Hp} {a : Addr} {kvs : List (L2.Key × V)} {x : L2.Key} (h : H a = some (.dK kvs) ∨ ∃ od, H a = some (.frz od (.dK kvs))) : DGet H a (kV x) (valV kvs x) := by
  rcases h with h | ⟨od, h⟩
  · exact DGet.k h
  · exact .inl ⟨kvs, x, .inr ⟨od, h⟩, rfl, rfl⟩
variable {R : α → Ty} {f : α → List (κ × β)} {Ma : (α → S → Res ε δ) → Res ε δ} {Mb : S → (κ → S → Res ε δ) → Res ε δ}
theorem evc_dgetT (hv : DVw Dd R f k Rv) (hkv : KeyV k Rk) (ha : EvC K X De ta G Dd s Ma R) (hb : ∀ s1, EvC K X De tb G Dd s1 (Mb s1) Rk) : EvC K X De (tDGet ta tb) G Dd s (fun kk => Ma fun a s1 => Mb s1 fun b s2 => Res.bind (Res.opt (dget (f a) b)) fun z => kk z s2) Rv := fun kk σ H F hs ss o r Q hm q qe =>
  ha _ σ H F hs ss o r _ hm (fun a s1 x H1 F1 t1 hs1 r1 hm1 => hb s1 _ σ H1 F1 hs1 (ss.mono t1) o r _ hm1
    (fun b s2 y H2 F2 t2 hs2 r2 hm2 => by
      obtain ⟨d, ed, hm3⟩ := Res.sat_opt hm2
      obtain ⟨p, kvs, rfl, h1, h2⟩ := hv a s2 x H2 F2 hs2 ((R a).mono t2 r1)
      rcases h1.get b with ⟨h3, _⟩ | ⟨d', v, h3, h4, h5⟩
      · rw [ed] at h3; cases h3
      · rw [ed] at h3
        cases h3
        refine ⟨p, v, rfl, ?_, q d s2 v H2 F2 (t1.trans t2) hs2 h5 hm3⟩
        rw [hkv _ _ _ r2, ← h4]
        exact dgetK_at h2)
    (fun n e h H2 F2 t2 => qe n e h H2 F2 (t1.trans t2))) qe
theorem evc_dinT (hv : DVw Dd R f k Rv) (hkv : KeyV k Rk) {Mb : (κ → S → Res ε δ) → Res ε δ} {Ma : S → (α → S → Res ε δ) → Res ε δ} (hb : EvC K X De tb G Dd s Mb Rk) (ha : ∀ s1, EvC K X De ta G Dd s1 (Ma s1) R) : EvC K X De (tDIn tb ta) G Dd s (fun kk => Mb fun b s1 => Ma s1 fun a s2 => kk (dget (f a) b).isSome s2) (tD K eB) := fun kk σ H F hs ss o r Q hm q qe =>
  hb _ σ H F hs ss o r _ hm (fun b s1 y H1 F1 t1 hs1 r1 hm1 => ha s1 _ σ H1 F1 hs1 (ss.mono t1) o r _ hm1
    (fun a s2 x H2 F2 t2 hs2 r2 hm2 => by
      obtain ⟨p, kvs, rfl, h1, h2⟩ := hv a s2 x H2 F2 hs2 r2
      have g := dgetK_at (x := k.f b) h2
      rw [← hkv _ _ _ r1] at g
      have ee : (valV kvs (k.f b)).isSome = (dget (f a) b).isSome := by
        rcases h1.get b with ⟨h3, h4⟩ | ⟨d', v, h3, h4, h5⟩ <;> rw [h3, h4] <;> rfl
      exact ⟨p, _, rfl, g, by rw [ee]; exact q _ s2 _ H2 F2 (t1.trans t2) hs2 (.bl _) hm2⟩)
    (fun n e h H2 F2 t2 => qe n e h H2 F2 (t1.trans t2))) qe
theorem evc_dnotinT (hv : DVw Dd R f k Rv) (hkv : KeyV k Rk) {Mb : (κ → S → Res ε δ) → Res ε δ} {Ma : S → (α → S → Res ε δ) → Res ε δ} (hb : EvC K X De tb G Dd s Mb Rk) (ha : ∀ s1, EvC K X De ta G Dd s1 (Ma s1) R) : EvC K X De (tDNotIn tb ta) G Dd s (fun kk => Mb fun b s1 => Ma s1 fun a s2 => kk (!(dget (f a) b).isSome) s2) (tD K eB) := fun kk σ H F hs ss o r Q hm q qe =>
  hb _ σ H F hs ss o r _ hm (fun b s1 y H1 F1 t1 hs1 r1 hm1 => ha s1 _ σ H1 F1 hs1 (ss.mono t1) o r _ hm1
    (fun a s2 x H2 F2 t2 hs2 r2 hm2 => by
      obtain ⟨p, kvs, rfl, h1, h2⟩ := hv a s2 x H2 F2 hs2 r2
      have g := dgetK_at (x := k.f b) h2
      rw [← hkv _ _ _ r1] at g
      have ee : (valV kvs (k.f b)).isSome = (dget (f a) b).isSome := by
        rcases h1.get b with ⟨h3, h4⟩ | ⟨d', v, h3, h4, h5⟩ <;> rw [h3, h4] <;> rfl
      exact ⟨p, _, rfl, g, by rw [ee]; exact q _ s2 _ H2 F2 (t1.trans t2) hs2 (.bl _) hm2⟩)
    (fun n e h H2 F2 t2 => qe n e h H2 F2 (t1.trans t2))) qe
theorem evc_dgetDT (hv : DVw Dd R f k Rv) (hkv : KeyV k Rk) {Mx : S → (β → S → Res ε δ) → Res ε δ} (ha : EvC K X De ta G Dd s Ma R) (hb : ∀ s1, EvC K X De tb G Dd s1 (Mb s1) Rk) (hx : ∀ s1, EvC K X De tx G Dd s1 (Mx s1) Rv) :
    EvC K X De (tDGet2 ta tb tx) G Dd s (fun kk => Ma fun a s1 => Mb s1 fun b s2 => Mx s2 fun x s3 => kk ((dget (f a) b).getD x) s3) Rv := fun kk σ H F hs ss o r Q hm q qe =>
  ha _ σ H F hs ss o r _ hm (fun a s1 x H1 F1 t1 hs1 r1 hm1 => by
    obtain ⟨p, kvs0, rfl, _, h20⟩ := hv a s1 x H1 F1 hs1 r1
    refine ⟨p, rfl, isD_of h20, hb s1 _ σ H1 F1 hs1 (ss.mono t1) o r _ hm1 (fun b s2 y H2 F2 t2 hs2 r2 hm2 => hx s2 _ σ H2 F2 hs2 ((ss.mono t1).mono t2) o r _ hm2
      (fun z s3 u H3 F3 t3 hs3 r3 hm3 => ?_) (fun n e h H3 F3 t3 => qe n e h H3 F3 ((t1.trans t2).trans t3))) (fun n e h H2 F2 t2 => qe n e h H2 F2 (t1.trans t2))⟩
    obtain ⟨p', kvs, ep, h1, h2⟩ := hv a s3 _ H3 F3 hs3 ((R a).mono (t2.trans t3) r1)
    cases ep
    have g := dgetK_at (x := k.f b) h2
    rw [← hkv _ _ _ r2] at g
    rcases h1.get b with ⟨h3, h4⟩ | ⟨d', v, h3, h4, h5⟩
    · refine ⟨_, g, ?_⟩
      rw [h4]
      rw [h3] at hm3
      exact q z s3 _ H3 F3 ((t1.trans t2).trans t3) hs3 r3 hm3
    · refine ⟨_, g, ?_⟩
      rw [h4]
      rw [h3] at hm3
      exact q d' s3 _ H3 F3 ((t1.trans t2).trans t3) hs3 h5 hm3) qe
/-- d.get(k) -/
theorem evc_dget1T (hv : DVw Dd R f k Rv) (hkv : KeyV k Rk) (ha : EvC K X De ta G Dd s Ma R) (hb : ∀ s1, EvC K X De tb G Dd s1 (Mb s1) Rk) :
    EvC K X De (tDGet1 ta tb) G Dd s (fun kk => Ma fun a s1 => Mb s1 fun b s2 => kk (dget (f a) b) s2) (OpT K Rv) := fun kk σ H F hs ss o r Q hm q qe =>
  ha _ σ H F hs ss o r _ hm (fun a s1 x H1 F1 t1 hs1 r1 hm1 => by
    obtain ⟨p, kvs0, rfl, _, h20⟩ := hv a s1 x H1 F1 hs1 r1
    refine ⟨p, rfl, isD_of h20, hb s1 _ σ H1 F1 hs1 (ss.mono t1) o r _ hm1 (fun b s2 y H2 F2 t2 hs2 r2 hm2 => ?_) (fun n e h H2 F2 t2 => qe n e h H2 F2 (t1.trans t2))⟩
    obtain ⟨p', kvs, ep, h1, h2⟩ := hv a s2 _ H2 F2 hs2 ((R a).mono t2 r1)
    cases ep
    have g := dgetK_at (x := k.f b) h2
    rw [← hkv _ _ _ r2] at g
    rcases h1.get b with ⟨h3, h4⟩ | ⟨d', v, h3, h4, h5⟩
    · refine ⟨_, g, ?_⟩
      rw [h4]
      rw [h3] at hm2
      exact q none s2 _ H2 F2 (t1.trans t2) hs2 rfl hm2
    · refine ⟨_, g, ?_⟩
      rw [h4]
      rw [h3] at hm2
      exact q (some d') s2 _ H2 F2 (t1.trans t2) hs2 h5 hm2) qe
omit [DecidableEq κ] in
theorem evnc_dnewT : EvNC (β := δ) K X De tDNewK G Dd s (fun kk => kk [] s) (OXT k Rv) := fun kk σ H F hs ss o r Q hm q qe p hp => q [] s p _ F (Same.refl _) (hs.new hp ⟨[], rfl, .nil⟩) hm
theorem go_dputT {m : List (κ × β)} {j : Nat} {a : Addr} {Ma : (β → S → Res ε ρ) → Res ε ρ} {Mi : S → (κ → S → Res ε ρ) → Res ε ρ} {kk : List (κ × β) × S → Res ε ρ} (hkv : KeyV k Rk) (ho : G[n]? = some (some (Is (.ref a)))) (h : EvC K w.X w.De te G Dd s Ma Rv) (hi : ∀ s1, EvC K w.X w.De tb G Dd s1 (Mi s1) Rk) (hk : ∀ s, (Dd s)[j]? = some (a, OXT k Rv m))
    {mm : Res ε ρ} (hP : w.W F0 mm) (q : ∀ x, w.W F0 (kk x) → Go E.nx F0 G ((Dd x.2).set j (a, OXT k Rv x.1))) (c : w.cond G := by first | exact trivial | walk_at "cond") (hm : mm = (Ma fun v s1 => Mi s1 fun x s2 => Res.bind (Res.grd (m.length < 100000) (dput m x v, s2)) kk) := by exact rfl) : Go (sDPut (tVar n) tb te E) F0 G (Dd s) := by subst hm; exact (fun σ H F t hs ss =>
  h _ σ H F hs ss _ _ _ hP (fun x s1 v H1 F1 t1 hs1 r1 hm => by
    obtain ⟨v0, e0, r0⟩ := ss.get ho
    have r0' : v0 = .ref a := r0
    subst r0'
    refine ⟨_, e0, hi s1 _ σ H1 F1 hs1 (ss.mono t1) _ _ _ hm (fun y s2 u H2 F2 t2 hs2 r2 hm2 => ?_) (fun n e hr H2 F2 t2 hs2 => w.err hr c σ H2 F2 ((t.trans t1).trans t2) hs2 ((ss.mono t1).mono t2))⟩
    obtain ⟨hl, hm3⟩ := Res.sat_grd hm2
    obtain ⟨o, ho, kvs, rfl, h2⟩ := hs2.at (hk s2)
    have l2 := h2.len
    refine ⟨a, _, rfl, by rw [hkv _ _ _ r2]; exact DPut.k (k := k.f y) ho (by rw [l2]; exact Nat.lt_of_lt_of_le hl sizeLine_big), ?_⟩
    exact q (dput m y x, s2) hm3 σ _ F2 ((t.trans t1).trans t2) (hs2.put (hk s2) ⟨_, rfl, h2.put ((Rv x).mono t2 r1)⟩) ((ss.mono t1).mono t2)) (fun n e hr H1 F1 t1 hs1 => w.err hr c σ H1 F1 (t.trans t1) hs1 (ss.mono t1)))
omit [DecidableEq κ] in
theorem hs_frzDT {D : Own} {H F : Hp} (hs : HS D H F) {j : Nat} {a : Addr} {m : List (κ × β)} (hk : D[j]? = some (a, OXT k Rv m)) : ∃ kvs, H a = some (.dK kvs) ∧ ∀ od, ∃ F', Same F F' ∧ HS (D.eraseIdx j) (upd H a (.frz od (.dK kvs))) F' ∧ (DT k Rv m).p (.ref a) F' := by
  obtain ⟨o, ho, kvs, rfl, hx⟩ := hs.at hk
  refine ⟨kvs, ho, fun od => ?_⟩
  have hs1 : HS (D.set j (a, ⟨fun o _ => o = .frz od (.dK kvs), fun _ h => h⟩)) (upd H a (.frz od (.dK kvs))) F := hs.put hk rfl
  have hk1 : (D.set j (a, (⟨fun o _ => o = .frz od (.dK kvs), fun _ h => h⟩ : OTy)))[j]? = some (a, ⟨fun o _ => o = .frz od (.dK kvs), fun _ h => h⟩) := set_at hk
  obtain ⟨o2, ho2, hs2, t2⟩ := hs1.freeze hk1
  have ho2' : o2 = .frz od (.dK kvs) := ho2
  subst ho2'
  refine ⟨_, t2, ?_, a, od, kvs, rfl, upd_same, hx.mono t2⟩
  have er : (D.set j (a, (⟨fun o _ => o = .frz od (.dK kvs), fun _ h => h⟩ : OTy))).eraseIdx j = D.eraseIdx j := by
    refine List.ext_getElem? fun i => ?_
    rw [List.getElem?_eraseIdx, List.getElem?_eraseIdx]
    split
    · rw [List.getElem?_set_ne (by omega)]
    · rw [List.getElem?_set_ne (by omega)]
  rw [er] at hs2
  exact hs2
omit [DecidableEq κ] in
theorem go_frzDT {t : TS} {j i : Nat} {a : Addr} {m : List (κ × β)} (hk : D0[j]? = some (a, OXT k Rv m)) (hi : G[i]? = some (some (Is (.ref a)))) (h : Go (t E) F0 (G.set i (some (DT k Rv m))) (D0.eraseIdx j)) : Go (tFrz t E) F0 G D0 := fun σ H F s hs ss => by
  obtain ⟨kvs, ho, f⟩ := hs_frzDT hs hk
  obtain ⟨v, e1, e2⟩ := ss.get hi
  have ev : v = .ref a := e2
  subst ev
  refine ⟨a, _, ho, trivial, fun od => ?_⟩
  obtain ⟨F', t1, hs1, r1⟩ := f od
  have z := (ss.mono t1).set r1 i
  rw [set_get e1] at z
  exact h σ _ F' (s.trans t1) hs1 z
omit [DecidableEq κ] in
theorem evc_frzDT {M : (List (κ × β) → S → Res ε δ) → Res ε δ} (h : EvNC K X De te G Dd s M (OXT k Rv)) : EvC K X De (tFrzA te) G Dd s M (DT k Rv) := fun kk σ H F hs ss o r Q hm q qe =>
  h kk σ H F hs ss o r _ hm (fun m s1 p H1 F1 t1 hs1 hm1 => by
    obtain ⟨kvs, ho, f⟩ := hs_frzDT hs1 (j := 0) rfl
    refine ⟨p, _, ho, trivial, fun od => ?_⟩
    obtain ⟨F', t2, hs2, r2⟩ := f od
    exact q m s1 _ _ F' (t1.trans t2) hs2 r2 hm1) qe
omit [DecidableEq κ] in
theorem ent_getK {F : Hp} {kvs : List (L2.Key × V)} {m : List (κ × β)} (h : EntT k Rv F kvs m) {i : Nat} {z : κ × β} (e : m[i]? = some z) : ∃ v, kvs[i]? = some (k.f z.1, v) ∧ (Rv z.2).p v F := by
  induction h generalizing i with
  | nil => simp at e
  | cons h _ ih =>
    cases i with
    | zero => simp at e; subst e; exact ⟨_, rfl, h⟩
    | succ i => simpa using ih (by simpa using e)
omit [DecidableEq κ] in
theorem evItc_keysT (hat : ∀ x F, (Rk x).p (kV (k.f x)) F) {M : (List (κ × β) → S → Res ε δ) → Res ε δ} (h : EvC K X De te G Dd s M (DT k Rv)) : EvItC K X De (iKeys te) G Dd s (fun _ => True) (fun kk => M fun m s1 => kk (m.map (·.1)) s1) Rk := fun kk σ H F hs ss o r Q hm q qe =>
  h _ σ H F hs ss o r _ hm (fun m s1 v H1 F1 t1 hs1 ⟨a, od, kvs, h0, h1, h2⟩ hm1 => by
    refine ⟨a, od, h0, .inl ⟨kvs, hs1.sub _ _ h1, q _ s1 _ H1 F1 t1 hs1 (fun D H2 F2 _ t2 hs2 i => ?_) hm1⟩⟩
    have ho2 : H2 a = some (.frz od (.dK kvs)) := hs2.sub _ _ (t2 _ _ h1)
    refine ⟨fun R hR => ?_, fun hl => ⟨ho2, by rw [h2.len]; simpa using hl⟩⟩
    rw [List.getElem?_map, List.getElem?_map] at hR
    cases q2 : m[i]? with
    | none => rw [q2] at hR; cases hR
    | some z =>
      rw [q2] at hR
      cases hR
      obtain ⟨v', hv, _⟩ := ent_getK h2 q2
      refine ⟨⟨ho2, (List.getElem?_eq_some_iff.mp hv).1⟩, fun x H' hy => ?_⟩
      obtain ⟨rfl, k', v'', h5, rfl⟩ := hy
      rw [hv] at h5
      cases h5
      exact ⟨F2, Same.refl _, hs2, hat _ _⟩) qe
end
end TL

end
section
set_option Elab.async false
set_option linter.all false
set_option maxRecDepth 100000
set_option maxHeartbeats 1000000
/-! # kinds by structure: expressions -/
namespace TL
open PySem PySem.Spec L2
/-- a list of known length -/
def LF (K : PySem.W.Frag) (Rs : List Ty) : Ty := ⟨fun v F => ∃ a vs, v = .ref a ∧ SqL K F a vs ∧ AllP F Rs vs, fun s ⟨a, vs, e, h1, h2⟩ => ⟨a, vs, e, s.seq h1, h2.mono s⟩⟩
/-- a list, or a tuple without a dict of its own -/
def WP (K : PySem.W.Frag) {α : Type} (R : α → Ty) (xs : List α) : Ty := ⟨fun v F => ∃ a vs, v = .ref a ∧ (SqL K F a vs ∨ PuT K F a vs) ∧ AllP F (xs.map R) vs, fun s ⟨a, vs, e, h1, h2⟩ => ⟨a, vs, e, h1.imp s.seq (PuT.up s), h2.mono s⟩⟩
theorem puT_up {K : PySem.W.Frag} {D : Own} {H F : Hp} {a : Addr} {vs : List V} (hs : HS D H F) (h : PuT K F a vs) : PuT K H a vs := h.up hs.sub
section
variable {K : PySem.W.Frag} {ε ε' ρ α β γ δ S τ τ' σt ω κ : Type} {X : L2.St → XK} {De : ε → Own} {G G1 G2 : Sto} {D0 : Own} {Dd : S → Own} {s : S} {te ta tb tc tx : TE} {tt tu : TT} {F0 F1 : Hp} {E : Ends} {w : Wish K ε ρ} {t : TA} {n : Nat}
theorem go_frzLT {P : L2.St → Hp → Prop} {k i : Nat} {a : Addr} {R : α → Ty} {xs : List α} (hk : D0[k]? = some (a, OLT R xs)) (hi : G[i]? = some (some (Is (.ref a)))) (h : Go P F0 (G.set i (some (LT K R xs))) (D0.eraseIdx k)) : Go P F0 G D0 := fun σ H F s hs ss => by
  obtain ⟨o, ⟨vs, e0, hx⟩, hs2, s2⟩ := hs.freeze hk
  subst e0
  obtain ⟨v, e1, e2⟩ := ss.get hi
  have ev : v = .ref a := e2
  subst ev
  have z := (ss.mono s2).set (R := LT K R xs) (v := .ref a) ⟨a, vs, rfl, SqL.of upd_same, hx.mono s2⟩ i
  rw [set_get e1] at z
  exact h σ H _ (s.trans s2) hs2 z
/-! ## displays -/
theorem evc_tupT {Rs : γ → List Ty} {g : τ → γ} {M : (τ → S → Res ε δ) → Res ε δ} (h : EvAC K X De t G Dd s M (fun t => Rs (g t))) (hn : ∀ x, (Rs x).length = n) (hl : n ≤ 100000 := by decide) : EvC K X De (tTupP t) G Dd s (fun kk => M fun t s1 => kk (g t) s1) (fun x => TU K (Rs x)) := fun kk σ H F hs ss o r Q hm q qe =>
  h _ σ H F hs ss o r _ hm (fun t s1 vs H1 F1 t1 hs1 r1 hm1 => ⟨by rw [r1.len, hn]; exact Nat.le_trans hl sizeLine_big, fun p ob hp hd => by
    have s2 : Same F1 (upd F1 p (.frz ob (.tup vs))) := same_new (hs1.free hp)
    exact q (g t) s1 _ _ _ (t1.trans s2) (hs1.frz hp) ⟨p, vs, rfl, .inl (.inr ⟨ob, upd_same⟩), r1.mono s2⟩ hm1⟩) qe
theorem evc_tupVp {R : α → Ty} {M : (List α → S → Res ε δ) → Res ε δ} (h : EvAL K X De t G Dd s n M R) (hl : n ≤ 100000 := by decide) : EvC K X De (tTupP t) G Dd s M (VP K R) := fun kk σ H F hs ss o r Q hm q qe =>
  h _ σ H F hs ss o r _ hm (fun xs s1 vs H1 F1 l1 t1 hs1 r1 hm1 => ⟨by rw [r1.len, List.length_map, l1]; exact Nat.le_trans hl sizeLine_big, fun p ob hp hd => by
    have s2 : Same F1 (upd F1 p (.frz ob (.tup vs))) := same_new (hs1.free hp)
    exact q xs s1 _ _ _ (t1.trans s2) (hs1.frz hp) ⟨p, vs, rfl, .inl ⟨ob, upd_same, hd⟩, r1.mono s2⟩ hm1⟩) qe
theorem evc_mkQP {M : ((Int × Int × Unit) → S → Res ε δ) → Res ε δ} (h : EvAC K X De t G Dd s M (fun t => tD K eI t.1 :: tD K eI t.2.1 :: [])) : EvC K X De (tTupP t) G Dd s (fun kk => M fun t s1 => Res.bind (Res.opt (mkQ t.1 t.2.1)) fun z => kk z s1) (tD K eQ) := fun kk σ H F hs ss o r Q hm q qe =>
  h _ σ H F hs ss o r _ hm (fun t s1 vs H1 F1 t1 hs1 r1 hm1 => ⟨by rw [r1.len]; exact Nat.le_trans (by decide : 2 ≤ 100000) sizeLine_big, fun p ob hp hd => by
    obtain ⟨z, e, hm2⟩ := Res.sat_opt hm1
    have s2 : Same F1 (upd F1 p (.frz ob (.tup vs))) := same_new (hs1.free hp)
    obtain ⟨e1, e2⟩ := mkQ_some e
    refine q z s1 _ _ _ (t1.trans s2) (hs1.frz hp) (.tup (.inl (.inr ⟨ob, upd_same⟩)) ?_) hm2
    have r2 := dpAll_mono s2 [.int t.1, .int t.2.1] vs (allP_dp (ds := [.int t.1, .int t.2.1]) r1)
    rw [e1, e2]
    exact r2⟩) qe
theorem evc_litQP {a b : Int} (z : Rat) (e1 : z.num = a) (e2 : (z.den : Int) = b) : EvC (β := β) K X De (tTupP (tCons (tC (.int a)) (tCons (tC (.int b)) tNil))) G Dd s (fun kk => kk z s) (tD K eQ) := fun kk σ H F hs ss o r Q hm q qe =>
  ⟨Nat.le_trans (by decide : 2 ≤ 100000) sizeLine_big, fun p ob hp hd => by
    have s2 : Same F (upd F p (.frz ob (.tup [.int a, .int b]))) := same_new (hs.free hp)
    refine q z s _ _ _ s2 (hs.frz hp) (.tup (.inl (.inr ⟨ob, upd_same⟩)) ?_) hm
    rw [e1, e2]
    exact .cons (.int _) (.cons (.int _) .nil)⟩
/-! ## parts -/
theorem evc_ixT {Rs : α → List Ty} {R' : β → Ty} {f : α → β} {i : Int} {Ma : (α → S → Res ε δ) → Res ε δ} (ha : EvC K X De ta G Dd s Ma (fun x => TU K (Rs x))) (he : ∀ x, atI (Rs x) i = some (R' (f x))) :
    EvC K X De (tOp (rIx K) ta (tC (.int i))) G Dd s (fun kk => Ma fun x s1 => kk (f x) s1) R' := fun kk σ H F hs ss o r Q hm q qe =>
  ha _ σ H F hs ss o r _ hm (fun x s1 v H1 F1 t1 hs1 r1 hm1 => by
    obtain ⟨a, vs, rfl, h1, h2⟩ := r1
    have e := he x
    unfold atI at e
    rw [← h2.len] at e
    obtain ⟨j, ej, eg⟩ := Option.bind_eq_some_iff.mp e
    obtain ⟨u, hu, ru⟩ := h2.get eg
    exact .inr (.inl ⟨a, vs, i, u, rfl, rfl, sqT_up hs1 h1, by unfold atI; rw [ej]; exact hu, q (f x) s1 u H1 F1 t1 hs1 ru hm1⟩)) qe
theorem evc_lenTU {Rs : α → List Ty} {M : (α → S → Res ε δ) → Res ε δ} (h : EvC K X De te G Dd s M (fun x => TU K (Rs x))) (hn : ∀ x : α, (Rs x).length = n) : EvC K X De (tCB (cLen K) (tCons te tNil)) G Dd s (fun kk => M fun _ s1 => kk (n : Int) s1) (tD K eI) := fun kk σ H F hs ss o r Q hm q qe =>
  h _ σ H F hs ss o r _ hm (fun x s1 v H1 F1 t1 hs1 r1 hm1 => by
    obtain ⟨a, xs, rfl, h2, h3⟩ := r1
    exact ⟨_, n, rfl, .inr ⟨xs, sqT_up hs1 h2, by rw [h3.len, hn]⟩, q (n : Int) s1 _ H1 F1 t1 hs1 (.int _) hm1⟩) qe
theorem evc_unLT2 {R : α → Ty} {M : (List α → S → Res ε δ) → Res ε δ} (h : EvC K X De te G Dd s M (LT K R)) : EvC K X De te G Dd s (fun kk => M fun xs s1 => Res.bind (Res.opt (unL2 xs)) fun z => kk z s1) (fun z => LF K [R z.1, R z.2]) := fun kk σ H F hs ss o r Q hm q qe =>
  h _ σ H F hs ss o r _ hm (fun xs s1 v H1 F1 t1 hs1 r1 hm1 => by
    obtain ⟨z, e1, hm2⟩ := Res.sat_opt hm1
    match xs, e1 with
    | [a, b], e1 => cases e1; exact q (a, b) s1 v H1 F1 t1 hs1 r1 hm2) qe
theorem evc_unLT3 {R : α → Ty} {M : (List α → S → Res ε δ) → Res ε δ} (h : EvC K X De te G Dd s M (LT K R)) : EvC K X De te G Dd s (fun kk => M fun xs s1 => Res.bind (Res.opt (unL3 xs)) fun z => kk z s1) (fun z => LF K [R z.1, R z.2.1, R z.2.2]) := fun kk σ H F hs ss o r Q hm q qe =>
  h _ σ H F hs ss o r _ hm (fun xs s1 v H1 F1 t1 hs1 r1 hm1 => by
    obtain ⟨z, e1, hm2⟩ := Res.sat_opt hm1
    match xs, e1 with
    | [a, b, c], e1 => cases e1; exact q (a, b, c) s1 v H1 F1 t1 hs1 r1 hm2) qe
theorem evc_unLT4 {R : α → Ty} {M : (List α → S → Res ε δ) → Res ε δ} (h : EvC K X De te G Dd s M (LT K R)) : EvC K X De te G Dd s (fun kk => M fun xs s1 => Res.bind (Res.opt (unL4 xs)) fun z => kk z s1) (fun z => LF K [R z.1, R z.2.1, R z.2.2.1, R z.2.2.2]) := fun kk σ H F hs ss o r Q hm q qe =>
  h _ σ H F hs ss o r _ hm (fun xs s1 v H1 F1 t1 hs1 r1 hm1 => by
    obtain ⟨z, e1, hm2⟩ := Res.sat_opt hm1
    match xs, e1 with
    | [a, b, c, d], e1 => cases e1; exact q (a, b, c, d) s1 v H1 F1 t1 hs1 r1 hm2) qe
/-! ## targets -/
def EvGsT (g : TGs) (G : Sto) (Rs : List Ty) (G1 : Sto) : Prop := ∀ (vs : List V) (σ : L2.St) (H F : Hp) (D : Own), HS D H F → SS F G σ → AllP F Rs vs → ∀ Q : L2.St → Hp → Prop, (∀ σ', SS F G1 σ' → Q σ' H) → g vs σ H Q
theorem evGsT_nil : EvGsT gNil G [] G := fun vs σ H F D hs ss r Q q => by
  cases r
  exact ⟨rfl, q _ ss⟩
theorem evGsT_cons {g : TG} {gs : TGs} {R : Ty} {Rs : List Ty} (h1 : EvG g G R G1) (h2 : EvGsT gs G1 Rs G2) : EvGsT (gCons g gs) G (R :: Rs) G2 := fun vs σ H F D hs ss r Q q => by
  cases r with
  | cons r1 r2 => exact ⟨_, _, rfl, h1 _ σ H F D hs ss r1 _ fun σ' ss' => h2 _ σ' H F D hs ss' r2 Q q⟩
theorem evG_tupT {gs : TGs} {Rs : List Ty} {n : Nat} (h : EvGsT gs G Rs G1) (hn : Rs.length = n) : EvG (gTup K n gs) G (TU K Rs) G1 := fun v σ H F D hs ss r Q q => by
  obtain ⟨a, vs, rfl, h1, h2⟩ := r
  exact ⟨a, vs, rfl, sqT_up hs h1, by rw [h2.len]; exact hn, h vs σ H F D hs ss h2 Q q⟩
theorem evG_lstT {gs : TGs} {Rs : List Ty} {n : Nat} (h : EvGsT gs G Rs G1) (hn : Rs.length = n) : EvG (gLst K n gs) G (LF K Rs) G1 := fun v σ H F D hs ss r Q q => by
  obtain ⟨a, vs, rfl, h1, h2⟩ := r
  exact ⟨a, vs, rfl, sqL_up hs h1, by rw [h2.len]; exact hn, h vs σ H F D hs ss h2 Q q⟩
theorem evG_Q {gs : TGs} {r : Rat} (h : EvGsT gs G [tD K eI r.num, tD K eI ((r.den : Nat) : Int)] G1) : EvG (gTup K 2 gs) G (tD K eQ r) G1 := fun v σ H F D hs ss r Q q => by
  obtain ⟨a, vs, rfl, h1, h2⟩ := dp_tup r
  exact ⟨a, vs, rfl, sqT_up hs h1, dpAll_len h2, h vs σ H F D hs ss (dp_allP h2) Q q⟩
def EvWsT (g : TGs) (vs : List Nat) (G : Sto) (Rs : List Ty) (G1 : Sto) : Prop := ∀ (xs : List V) (σ τ : L2.St) (H F : Hp) (D : Own), HS D H F → SS F G τ → wipe τ vs = wipe σ vs → AllP F Rs xs → ∀ Q : L2.St → Hp → Prop, (∀ σ', SS F G1 σ' → wipe σ' vs = wipe σ vs → Q σ' H) → g xs τ H Q
theorem evWsT_nil {vs : List Nat} : EvWsT gNil vs G [] G := fun xs σ τ H F D hs ss w r Q q => by
  cases r
  exact ⟨rfl, q _ ss w⟩
theorem evWsT_cons {g : TG} {gs : TGs} {vs : List Nat} {R : Ty} {Rs : List Ty} (h1 : EvW g vs G R G1) (h2 : EvWsT gs vs G1 Rs G2) : EvWsT (gCons g gs) vs G (R :: Rs) G2 := fun xs σ τ H F D hs ss w r Q q => by
  cases r with
  | cons r1 r2 => exact ⟨_, _, rfl, h1 _ σ τ H F D hs ss w r1 _ fun σ' ss' w' => h2 _ σ σ' H F D hs ss' w' r2 Q q⟩
theorem evW_tupT {gs : TGs} {vs : List Nat} {Rs : List Ty} {n : Nat} (h : EvWsT gs vs G Rs G1) (hn : Rs.length = n) : EvW (gTup K n gs) vs G (TU K Rs) G1 := fun v σ τ H F D hs ss w r Q q => by
  obtain ⟨a, xs, rfl, h1, h2⟩ := r
  exact ⟨a, xs, rfl, sqT_up hs h1, by rw [h2.len]; exact hn, h xs σ τ H F D hs ss w h2 Q q⟩
theorem evW_Q {gs : TGs} {vs : List Nat} {r : Rat} (h : EvWsT gs vs G [tD K eI r.num, tD K eI ((r.den : Nat) : Int)] G1) : EvW (gTup K 2 gs) vs G (tD K eQ r) G1 := fun v σ τ H F D hs ss w r Q q => by
  obtain ⟨a, xs, rfl, h1, h2⟩ := dp_tup r
  exact ⟨a, xs, rfl, sqT_up hs h1, dpAll_len h2, h xs σ τ H F D hs ss w (dp_allP h2) Q q⟩
/-! ## lists and tuples read -/
theorem sv_P {Re : α → Ty} : SView K Dd (VP K Re) id Re := fun x s v H F hs ⟨a, vs, e, h1, h2⟩ => ⟨a, vs, e, .inr (puT_up hs h1).sq, h2⟩
theorem sv_WP {Re : α → Ty} : SView K Dd (WP K Re) id Re := fun x s v H F hs ⟨a, vs, e, h1, h2⟩ => ⟨a, vs, e, h1.imp (sqL_up hs) (fun h => (puT_up hs h).sq), h2⟩
theorem evItc_l {R : α → Ty} {M : (List α → S → Res ε δ) → Res ε δ} (h : EvC K X De te G Dd s M (LT K R)) : EvItC K X De (iSeq K te) G Dd s (fun _ => True) M R := evItc_LT h fun _ _ _ r => r
theorem evItc_p {R : α → Ty} {M : (List α → S → Res ε δ) → Res ε δ} (h : EvC K X De te G Dd s M (VP K R)) : EvItC K X De (iSeq K te) G Dd s (fun _ => True) M R := evItc_VT h fun _ _ _ ⟨a, vs, e, h1, h2⟩ => ⟨a, vs, e, h1.sq, h2⟩
theorem wp_w {R : α → Ty} : ∀ (xs : List α) (v : V) (F : Hp), (WP K R xs).p v F → (WT K R xs).p v F := fun xs v F ⟨a, vs, e, h1, h2⟩ => ⟨a, vs, e, h1.imp id PuT.sq, h2⟩
theorem evItc_w {R : α → Ty} {M : (List α → S → Res ε δ) → Res ε δ} (h : EvC K X De te G Dd s M (WP K R)) : EvItC K X De (iSeq K te) G Dd s (fun _ => True) M R := evItc_W (evc_weak h wp_w)
theorem wp_l {R : α → Ty} : ∀ (xs : List α) (v : V) (F : Hp), (LT K R xs).p v F → (WP K R xs).p v F := fun xs v F ⟨a, vs, h0, h1, h2⟩ => ⟨a, vs, h0, .inl h1, h2⟩
theorem wp_p {R : α → Ty} : ∀ (xs : List α) (v : V) (F : Hp), (VP K R xs).p v F → (WP K R xs).p v F := fun xs v F ⟨a, vs, h0, h1, h2⟩ => ⟨a, vs, h0, .inr h1, h2⟩
theorem isn_P {R : α → Ty} : ∀ (y : List α) (v : V) (F : Hp), (VP K R y).p v F → decide (v = V.non) = false := fun y v F ⟨a, vs, e, _⟩ => decide_eq_false fun z => by rw [e] at z; cases z
theorem isn_WP {R : α → Ty} : ∀ (y : List α) (v : V) (F : Hp), (WP K R y).p v F → decide (v = V.non) = false := fun y v F ⟨a, vs, e, _⟩ => decide_eq_false fun z => by rw [e] at z; cases z
theorem isn_T {Rs : α → List Ty} : ∀ (y : α) (v : V) (F : Hp), (TU K (Rs y)).p v F → decide (v = V.non) = false := fun y v F ⟨a, vs, e, _⟩ => decide_eq_false fun z => by rw [e] at z; cases z
theorem isn_DT {k : KeyE κ} {R : α → Ty} : ∀ (y : List (κ × α)) (v : V) (F : Hp), (DT k R y).p v F → decide (v = V.non) = false := fun y v F ⟨a, od, kvs, e, _⟩ => decide_eq_false fun z => by rw [e] at z; cases z
/-! tuple(..) -/
theorem evc_tupOf {R : α → Ty} {f : α → List β} {Re : β → Ty} {M : (α → S → Res ε δ) → Res ε δ} (h : EvC K X De te G Dd s M R) (hv : ∀ x s v H F, HS (Dd s) H F → (R x).p v F → ∃ a vs, v = .ref a ∧ (SqL K H a vs ∧ AllP F ((f x).map Re) vs ∨ SqT K H a vs ∧ (VP K Re (f x)).p v F)) :
    EvC K X De (tCB (cTupP K) (tCons te tNil)) G Dd s (fun kk => M fun x s1 => kk (f x) s1) (VP K Re) := fun kk σ H F hs ss o r Q hm q qe =>
  h _ σ H F hs ss o r _ hm (fun xs s1 v H1 F1 t1 hs1 r1 hm1 => by
    obtain ⟨a, vs, e0, h1⟩ := hv xs s1 v H1 F1 hs1 r1
    subst e0
    rcases h1 with ⟨h1, h2⟩ | ⟨h1, h2⟩
    · refine ⟨a, vs, rfl, .inl ⟨h1, fun l ob hl hd => ?_⟩⟩
      have s2 : Same F1 (upd F1 l (.frz ob (.tup vs))) := same_new (hs1.free hl)
      exact q _ s1 _ _ _ (t1.trans s2) (hs1.frz hl) ⟨l, vs, rfl, .inl ⟨ob, upd_same, hd⟩, h2.mono s2⟩ hm1
    · exact ⟨a, vs, rfl, .inr ⟨h1, q _ s1 _ H1 F1 t1 hs1 h2 hm1⟩⟩) qe
theorem tv_l {Re : α → Ty} : ∀ x s v H F, HS (Dd s) H F → (LT K Re x).p v F → ∃ a vs, v = .ref a ∧ (SqL K H a vs ∧ AllP F ((id x).map Re) vs ∨ SqT K H a vs ∧ (VP K Re (id x)).p v F) := fun x s v H F hs ⟨a, vs, e, h1, h2⟩ => ⟨a, vs, e, .inl ⟨sqL_up hs h1, h2⟩⟩
theorem tv_p {Re : α → Ty} : ∀ x s v H F, HS (Dd s) H F → (VP K Re x).p v F → ∃ a vs, v = .ref a ∧ (SqL K H a vs ∧ AllP F ((id x).map Re) vs ∨ SqT K H a vs ∧ (VP K Re (id x)).p v F) := fun x s v H F hs ⟨a, vs, e, h1, h2⟩ => ⟨a, vs, e, .inr ⟨(puT_up hs h1).sq, a, vs, e, h1, h2⟩⟩
theorem tv_w {Re : α → Ty} : ∀ x s v H F, HS (Dd s) H F → (WP K Re x).p v F → ∃ a vs, v = .ref a ∧ (SqL K H a vs ∧ AllP F ((id x).map Re) vs ∨ SqT K H a vs ∧ (VP K Re (id x)).p v F) := fun x s v H F hs ⟨a, vs, e, h1, h2⟩ => by
  rcases h1 with h1 | h1
  · exact ⟨a, vs, e, .inl ⟨sqL_up hs h1, h2⟩⟩
  · exact ⟨a, vs, e, .inr ⟨(puT_up hs h1).sq, a, vs, e, h1, h2⟩⟩
theorem tv_O {Re : β → Ty} {xs : List β} {a : Addr} {j : Nat} (hk : ∀ s, (Dd s)[j]? = some (a, OLT Re xs)) : ∀ (x : Unit) s v H F, HS (Dd s) H F → ((fun _ : Unit => Is (.ref a)) x).p v F → ∃ b vs, v = .ref b ∧ (SqL K H b vs ∧ AllP F (((fun _ => xs) x).map Re) vs ∨ SqT K H b vs ∧ (VP K Re ((fun _ : Unit => xs) x)).p v F) := fun x s v H F hs r => by
  obtain ⟨o, ho, vs, rfl, h⟩ := hs.at (hk s)
  exact ⟨a, vs, r, .inl ⟨SqL.of ho, h⟩⟩
/-! t[lo:hi] -/
theorem evc_slP {Re : α → Ty} {Ma : (List α → S → Res ε δ) → Res ε δ} {Ml Mh : S → (Option Int → S → Res ε δ) → Res ε δ} {tl th : TO} (ha : EvC K X De te G Dd s Ma (VP K Re)) (hl : ∀ s1, EvOC K X De tl G Dd s1 (Ml s1)) (hh : ∀ s1, EvOC K X De th G Dd s1 (Mh s1)) :
    EvC K X De (tSl (rSlP K) te tl th) G Dd s (fun kk => Ma fun a s1 => Ml s1 fun lo s2 => Mh s2 fun hi s3 => kk (cutL a lo hi) s3) (VP K Re) := fun kk σ H F hs ss o r Q hm q qe =>
  ha _ σ H F hs ss o r _ hm (fun a s1 v H1 F1 t1 hs1 r1 hm1 => hl s1 _ σ H1 F1 hs1 (ss.mono t1) o r _ hm1 (fun lo s2 H2 F2 t2 hs2 hm2 => hh s2 _ σ H2 F2 hs2 ((ss.mono t1).mono t2) o r _ hm2 (fun hi s3 H3 F3 t3 hs3 hm3 => by
    obtain ⟨p, vs, e0, h1, h2⟩ := (VP K Re a).mono (t2.trans t3) r1
    have hc := allP_cut h2 lo hi
    refine ⟨p, vs, e0, (puT_up hs3 h1).sq, fun hw => ?_, fun hw u ob hu hd => ?_⟩
    · have ec : cutV vs lo hi = vs := by
        unfold cutV
        rw [hw.1, hw.2]
        simp
      rw [ec] at hc
      exact q _ s3 _ H3 F3 ((t1.trans t2).trans t3) hs3 ⟨p, vs, rfl, h1, hc⟩ hm3
    · have s4 : Same F3 (upd F3 u (.frz ob (.tup (cutV vs lo hi)))) := same_new (hs3.free hu)
      exact q _ s3 _ _ _ (((t1.trans t2).trans t3).trans s4) (hs3.frz hu) ⟨u, _, rfl, .inl ⟨ob, upd_same, hd⟩, hc.mono s4⟩ hm3)
    (fun n e h H3 F3 t3 => qe n e h H3 F3 ((t1.trans t2).trans t3))) (fun n e h H2 F2 t2 => qe n e h H2 F2 (t1.trans t2))) qe
/-! + -/
theorem evc_catLT {R : α → Ty} {Ma : (List α → S → Res ε δ) → Res ε δ} {Mb : S → (List α → S → Res ε δ) → Res ε δ} (ha : EvC K X De ta G Dd s Ma (LT K R)) (hb : ∀ s1, EvC K X De tb G Dd s1 (Mb s1) (LT K R)) :
    EvC K X De (tOp (qAddS K) ta tb) G Dd s (fun kk => Ma fun a s1 => Mb s1 fun b s2 => Res.bind (Res.grd (a.length + b.length ≤ 100000) (a ++ b)) fun z => kk z s2) (LT K R) :=
  evc2g ha hb fun a b s2 x y H F c hs rx ry Q q => by
    obtain ⟨p, xs, rfl, h1, h2⟩ := rx
    obtain ⟨p', ys, rfl, h3, h4⟩ := ry
    have l2 := h2.len
    have l4 := h4.len
    rw [List.length_map] at l2 l4
    refine .inr (.inl ⟨p, p', xs, ys, rfl, rfl, sqL_up hs h1, sqL_up hs h3, by rw [l2, l4]; exact Nat.le_trans c sizeLine_big, fun u hu => ?_⟩)
    have s4 : Same F (upd F u (.lst (xs ++ ys))) := same_new (hs.free hu)
    exact q _ _ _ s4 (hs.frz hu) ⟨u, _, rfl, SqL.of upd_same, allP_app (h2.mono s4) (h4.mono s4)⟩
theorem evc_catP {R : α → Ty} {Ma : (List α → S → Res ε δ) → Res ε δ} {Mb : S → (List α → S → Res ε δ) → Res ε δ} (ha : EvC K X De ta G Dd s Ma (VP K R)) (hb : ∀ s1, EvC K X De tb G Dd s1 (Mb s1) (VP K R)) :
    EvC K X De (tOp (qAddS K) ta tb) G Dd s (fun kk => Ma fun a s1 => Mb s1 fun b s2 => Res.bind (Res.grd (a.length + b.length ≤ 100000) (a ++ b)) fun z => kk z s2) (VP K R) :=
  evc2g ha hb fun a b s2 x y H F c hs rx ry Q q => by
    obtain ⟨p, xs, rfl, h1, h2⟩ := rx
    obtain ⟨p', ys, rfl, h3, h4⟩ := ry
    have l2 := h2.len
    have l4 := h4.len
    rw [List.length_map] at l2 l4
    refine .inr (.inr ⟨p, p', xs, ys, rfl, rfl, (puT_up hs h1).sq, (puT_up hs h3).sq, by rw [l2, l4]; exact Nat.le_trans c sizeLine_big, fun hx => ?_, fun hy hx => ?_, fun hy hx u ob hu hd => ?_⟩)
    · subst hx
      exact q _ H F (Same.refl _) hs ⟨p', ys, rfl, h3, by have z := allP_app h2 h4; simpa using z⟩
    · subst hy
      exact q _ H F (Same.refl _) hs ⟨p, xs, rfl, h1, by have z := allP_app h2 h4; simpa using z⟩
    · have s4 : Same F (upd F u (.frz ob (.tup (xs ++ ys)))) := same_new (hs.free hu)
      exact q _ _ _ s4 (hs.frz hu) ⟨u, _, rfl, .inl ⟨ob, upd_same, hd⟩, allP_app (h2.mono s4) (h4.mono s4)⟩
/-! ## None or a thing -/
theorem evc_noneT {R : α → Ty} {M : (Unit → S → Res ε δ) → Res ε δ} (h : EvC K X De te G Dd s M (tD K eU)) : EvC K X De te G Dd s (fun kk => M fun _ s1 => kk none s1) (OpT K R) := fun kk σ H F hs ss o r Q hm q qe =>
  h _ σ H F hs ss o r _ hm (fun _ s1 v H1 F1 t1 hs1 r1 hm1 => q none s1 v H1 F1 t1 hs1 (dp_non r1) hm1) qe
theorem evc_someT {R : α → Ty} {M : (α → S → Res ε δ) → Res ε δ} (h : EvC K X De te G Dd s M R) : EvC K X De te G Dd s (fun kk => M fun x s1 => kk (some x) s1) (OpT K R) := fun kk σ H F hs ss o r Q hm q qe =>
  h _ σ H F hs ss o r _ hm (fun x s1 v H1 F1 t1 hs1 r1 hm1 => q (some x) s1 v H1 F1 t1 hs1 r1 hm1) qe
theorem evc_unop {R : α → Ty} {M : (Option α → S → Res ε δ) → Res ε δ} (h : EvC K X De te G Dd s M (OpT K R)) : EvC K X De te G Dd s (fun kk => M fun x s1 => Res.bind (Res.opt x) fun y => kk y s1) R := fun kk σ H F hs ss o r Q hm q qe =>
  h _ σ H F hs ss o r _ hm (fun x s1 v H1 F1 t1 hs1 r1 hm1 => by
    obtain ⟨y, e, hm2⟩ := Res.sat_opt hm1
    subst e
    exact q y s1 v H1 F1 t1 hs1 r1 hm2) qe
theorem evc_isNO {R : α → Ty} {M : (Option α → S → Res ε δ) → Res ε δ} (h : EvC K X De te G Dd s M (OpT K R)) (hn : ∀ y v F, (R y).p v F → decide (v = V.non) = false) : EvC K X De (tIsN te) G Dd s (fun kk => M fun x s1 => kk x.isNone s1) (tD K eB) := fun kk σ H F hs ss o r Q hm q qe =>
  h _ σ H F hs ss o r _ hm (fun x s1 v H1 F1 t1 hs1 r1 hm1 => by
    show Q (.bl (decide (v = V.non))) H1
    cases x with
    | none =>
      have e : v = .non := r1
      subst e
      exact q true s1 _ H1 F1 t1 hs1 (.bl _) hm1
    | some y =>
      rw [hn y v F1 r1]
      exact q false s1 _ H1 F1 t1 hs1 (.bl _) hm1) qe
theorem evc_isNNO {R : α → Ty} {M : (Option α → S → Res ε δ) → Res ε δ} (h : EvC K X De te G Dd s M (OpT K R)) (hn : ∀ y v F, (R y).p v F → decide (v = V.non) = false) : EvC K X De (tNotN te) G Dd s (fun kk => M fun x s1 => kk x.isSome s1) (tD K eB) := fun kk σ H F hs ss o r Q hm q qe =>
  h _ σ H F hs ss o r _ hm (fun x s1 v H1 F1 t1 hs1 r1 hm1 => by
    show Q (.bl (!decide (v = V.non))) H1
    cases x with
    | none =>
      have e : v = .non := r1
      subst e
      exact q false s1 _ H1 F1 t1 hs1 (.bl _) hm1
    | some y =>
      rw [hn y v F1 r1]
      exact q true s1 _ H1 F1 t1 hs1 (.bl _) hm1) qe
/-! a list of data in another form -/
theorem evc_conv {R : α → Ty} {R' : γ → Ty} {M : (α → S → Res ε β) → Res ε β} (f : α → γ) (h : EvC K X De te G Dd s M R) (e : ∀ x v F, (R x).p v F → (R' (f x)).p v F) : EvC K X De te G Dd s (fun kk => M fun x s' => kk (f x) s') R' := evc_map f h e
theorem cv_all {R : α → Ty} {R' : β → Ty} {f : α → β} (h : ∀ x v F, (R x).p v F → (R' (f x)).p v F) {F : Hp} : ∀ {xs : List α} {vs : List V}, AllP F (xs.map R) vs → AllP F ((xs.map f).map R') vs
  | [], _, r => by cases r; exact .nil
  | x :: xs, _, r => by
    cases r with
    | cons r1 r2 => exact .cons (h _ _ _ r1) (cv_all h r2)
theorem cv_L {R : α → Ty} {R' : β → Ty} {f : α → β} (h : ∀ x v F, (R x).p v F → (R' (f x)).p v F) : ∀ xs v F, (LT K R xs).p v F → (LT K R' (xs.map f)).p v F := fun xs v F ⟨a, vs, e, h1, h2⟩ => ⟨a, vs, e, h1, cv_all h h2⟩
theorem cv_none {R : α → Ty} : ∀ (x : Unit) v F, (tD K eU x).p v F → (OpT K R none).p v F := fun x v F r => dp_non r
theorem cv_some {R : α → Ty} : ∀ (x : α) v F, (R x).p v F → (OpT K R (some x)).p v F := fun x v F r => r
end
end TL

end
section
set_option Elab.async false
set_option linter.all false
set_option maxRecDepth 100000
set_option maxHeartbeats 1000000
/-! # kinds by structure: zip, enumerate, dicts made and asked -/
namespace TL
open PySem PySem.Spec L2
def enumI {α : Type} (xs : List α) : List (Int × α) := xs.zipIdx.map fun p => ((p.2 : Int), p.1)
def cDctLi (K : PySem.W.Frag) : List V → Hp → VK → Prop := fun xs H Q => ∃ (a : Addr) (ps : List Addr) (kvs : List (L2.Key × V)), xs = [.ref a] ∧ SqL K H a (ps.map V.ref) ∧ Paired (fun p kv => SqT K H p [kV kv.1, kv.2]) ps kvs ∧
    ∀ p, H p = none → Q (.ref p) (upd H p (.dK (mergeK [] kvs)))
def cDctU (K : PySem.W.Frag) : List V → Hp → VK → Prop := fun xs H Q => cDctK K xs H Q ∨ cDctLi K xs H Q ∨ cDctT K xs H Q
theorem call_dctU {X : Cx} (hcalm : X.calm = true) : CallR X (.type "dict") (cDctU X.K) := CallR.or call_dctK (CallR.or (call_dictP hcalm) (call_dctT hcalm))
section
variable {K : PySem.W.Frag} {ε ε' ρ α β γ δ S τ τ' σt ω κ : Type} {X : L2.St → XK} {De : ε → Own} {G G1 G2 : Sto} {D0 : Own} {Dd : S → Own} {s : S} {te ta tb tc tx : TE} {tt tu : TT} {F0 F1 : Hp} {E : Ends} {w : Wish K ε ρ} {t : TA} {n : Nat}
theorem zip_get {F : Hp} {Ra : α → Ty} {Rb : β → Ty} {xs : List α} {ys : List β} {vs us : List V} (h2 : AllP F (xs.map Ra) vs) (h4 : AllP F (ys.map Rb) us) {i : Nat} {z : α × β} (e : (List.zip xs ys)[i]? = some z) : ∃ x y, vs[i]? = some x ∧ us[i]? = some y ∧ (Ra z.1).p x F ∧ (Rb z.2).p y F := by
  obtain ⟨z1, z2⟩ := z
  obtain ⟨e1, e2⟩ := List.getElem?_zip_eq_some.mp e
  obtain ⟨x, ex, rx⟩ := h2.get (i := i) (R := Ra z1) (by rw [List.getElem?_map, e1]; rfl)
  obtain ⟨y, ey, ry⟩ := h4.get (i := i) (R := Rb z2) (by rw [List.getElem?_map, e2]; rfl)
  exact ⟨x, y, ex, ey, rx, ry⟩
theorem evItc_zipL {Ra : α → Ty} {Rb : β → Ty} {Ma : (List α → S → Res ε δ) → Res ε δ} {Mb : S → (List β → S → Res ε δ) → Res ε δ} (ha : EvC K X De ta G Dd s Ma (LT K Ra)) (hb : ∀ s1, EvC K X De tb G Dd s1 (Mb s1) (LT K Rb)) :
    EvItC K X De (RZ.iZipA K (tCons ta (tCons tb tNil))) G Dd s (fun _ => True) (fun kk => Ma fun xs s1 => Mb s1 fun ys s2 => kk (List.zip xs ys) s2) (fun z => TU K [Ra z.1, Rb z.2]) := fun kk σ H F hs ss o r Q hm q qe =>
  ha _ σ H F hs ss o r _ hm (fun xs s1 v H1 F1 t1 hs1 r1 hm1 => hb s1 _ σ H1 F1 hs1 (ss.mono t1) o r _ hm1 (fun ys s2 u H2 F2 t2 hs2 r2 hm2 => by
    obtain ⟨a, vs, rfl, h1, h2⟩ := (LT K Ra xs).mono t2 r1
    obtain ⟨b, us, rfl, h3, h4⟩ := r2
    refine ⟨a, b, vs, us, rfl, .inl ⟨sqL_up hs2 h1, sqL_up hs2 h3, q _ s2 _ H2 F2 (t1.trans t2) hs2 (fun D H3 F3 _ s3 hs3 i => ⟨fun R hR => ?_, fun hi => ?_⟩) hm2⟩⟩
    · rw [List.getElem?_map] at hR
      cases e : (List.zip xs ys)[i]? with
      | none => rw [e] at hR; cases hR
      | some z =>
        rw [e] at hR
        cases hR
        obtain ⟨x, y, ex, ey, rx, ry⟩ := zip_get h2 h4 e
        have qa : SqL K H3 a vs := sqL_up hs3 (s3.seq h1)
        have qb : SqL K H3 b us := sqL_up hs3 (s3.seq h3)
        refine ⟨⟨vs, us, x, y, qa, qb, ex, ey⟩, fun t H' hy => ?_⟩
        obtain ⟨T, x', y', rfl, hT, rfl, g1, g2⟩ := hy
        have k1 := g1 vs qa
        have k2 := g2 us qb
        rw [ex] at k1
        rw [ey] at k2
        cases k1
        cases k2
        have s4 : Same F3 (upd F3 T (.tup [x, y])) := same_new (hs3.free hT)
        exact ⟨_, s4, hs3.frz hT, _, _, rfl, SqT.of upd_same, .cons ((Ra z.1).mono (s3.trans s4) rx) (.cons ((Rb z.2).mono (s3.trans s4) ry) .nil)⟩
    · rw [List.length_map, List.length_zip] at hi
      refine ⟨vs, us, sqL_up hs3 (s3.seq h1), sqL_up hs3 (s3.seq h3), ?_⟩
      have l2 := h2.len
      have l4 := h4.len
      rw [List.length_map] at l2 l4
      omega) (fun n e h H2 F2 t2 => qe n e h H2 F2 (t1.trans t2))) qe
theorem evItc_zipT {Ra : α → Ty} {Rb : β → Ty} {Ma : (List α → S → Res ε δ) → Res ε δ} {Mb : S → (List β → S → Res ε δ) → Res ε δ} (ha : EvC K X De ta G Dd s Ma (VP K Ra)) (hb : ∀ s1, EvC K X De tb G Dd s1 (Mb s1) (VP K Rb)) :
    EvItC K X De (RZ.iZipA K (tCons ta (tCons tb tNil))) G Dd s (fun _ => True) (fun kk => Ma fun xs s1 => Mb s1 fun ys s2 => kk (List.zip xs ys) s2) (fun z => TU K [Ra z.1, Rb z.2]) := fun kk σ H F hs ss o r Q hm q qe =>
  ha _ σ H F hs ss o r _ hm (fun xs s1 v H1 F1 t1 hs1 r1 hm1 => hb s1 _ σ H1 F1 hs1 (ss.mono t1) o r _ hm1 (fun ys s2 u H2 F2 t2 hs2 r2 hm2 => by
    obtain ⟨a, vs, rfl, h1', h2⟩ := (VP K Ra xs).mono t2 r1
    obtain ⟨b, us, rfl, h3', h4⟩ := r2
    have h1 := h1'.sq
    have h3 := h3'.sq
    refine ⟨a, b, vs, us, rfl, .inr ⟨sqT_up hs2 h1, sqT_up hs2 h3, q _ s2 _ H2 F2 (t1.trans t2) hs2 (fun D H3 F3 _ s3 hs3 i => ⟨fun R hR => ?_, fun hi => ?_⟩) hm2⟩⟩
    · rw [List.getElem?_map] at hR
      cases e : (List.zip xs ys)[i]? with
      | none => rw [e] at hR; cases hR
      | some z =>
        rw [e] at hR
        cases hR
        obtain ⟨x, y, ex, ey, rx, ry⟩ := zip_get h2 h4 e
        have qa : SqT K H3 a vs := sqT_up hs3 (same_sqT s3 h1)
        have qb : SqT K H3 b us := sqT_up hs3 (same_sqT s3 h3)
        refine ⟨⟨vs, us, x, y, qa, qb, ex, ey⟩, fun t H' hy => ?_⟩
        obtain ⟨T, x', y', rfl, hT, rfl, g1, g2⟩ := hy
        have k1 := g1 vs qa
        have k2 := g2 us qb
        rw [ex] at k1
        rw [ey] at k2
        cases k1
        cases k2
        have s4 : Same F3 (upd F3 T (.tup [x, y])) := same_new (hs3.free hT)
        exact ⟨_, s4, hs3.frz hT, _, _, rfl, SqT.of upd_same, .cons ((Ra z.1).mono (s3.trans s4) rx) (.cons ((Rb z.2).mono (s3.trans s4) ry) .nil)⟩
    · rw [List.length_map, List.length_zip] at hi
      refine ⟨vs, us, sqT_up hs3 (same_sqT s3 h1), sqT_up hs3 (same_sqT s3 h3), ?_⟩
      have l2 := h2.len
      have l4 := h4.len
      rw [List.length_map] at l2 l4
      omega) (fun n e h H2 F2 t2 => qe n e h H2 F2 (t1.trans t2))) qe
theorem evItc_enum {Ra : α → Ty} {Ma : (List α → S → Res ε δ) → Res ε δ} (ha : EvC K X De ta G Dd s Ma (LT K Ra)) :
    EvItC K X De (iEnum K (tCons ta tNil)) G Dd s (fun _ => True) (fun kk => Ma fun xs s1 => kk (enumI xs) s1) (fun z => TU K [tD K eI z.1, Ra z.2]) := fun kk σ H F hs ss o r Q hm q qe =>
  ha _ σ H F hs ss o r _ hm (fun xs s1 v H1 F1 t1 hs1 r1 hm1 => by
    obtain ⟨a, vs, rfl, h1, h2⟩ := r1
    refine ⟨a, vs, rfl, sqL_up hs1 h1, q _ s1 _ H1 F1 t1 hs1 (fun D H3 F3 _ s3 hs3 i => ⟨fun R hR => ?_, fun hi => ?_⟩) hm1⟩
    · rw [List.getElem?_map] at hR
      unfold enumI at hR
      rw [List.getElem?_map, List.getElem?_zipIdx] at hR
      cases e : xs[i]? with
      | none => rw [e] at hR; cases hR
      | some z =>
        rw [e] at hR
        cases hR
        obtain ⟨x, ex, rx⟩ := h2.get (i := i) (R := Ra z) (by rw [List.getElem?_map, e]; rfl)
        have qa : SqL K H3 a vs := sqL_up hs3 (s3.seq h1)
        refine ⟨⟨vs, x, qa, ex⟩, fun t H' hy => ?_⟩
        obtain ⟨T, x', rfl, hT, rfl, g1⟩ := hy
        have k1 := g1 vs qa
        rw [ex] at k1
        cases k1
        have s4 : Same F3 (upd F3 T (.tup [.int (i : Nat), x])) := same_new (hs3.free hT)
        refine ⟨_, s4, hs3.frz hT, _, _, rfl, SqT.of upd_same, .cons ?_ (.cons ((Ra z).mono (s3.trans s4) rx) .nil)⟩
        have e0 : (0 + i : Nat) = i := Nat.zero_add i
        show Dp K _ _ (.int ((0 + i : Nat) : Int))
        rw [e0]
        exact .int _
    · unfold enumI at hi
      rw [List.length_map, List.length_map, List.length_zipIdx] at hi
      refine ⟨vs, sqL_up hs3 (s3.seq h1), ?_⟩
      have l2 := h2.len
      rw [List.length_map] at l2
      omega) qe
/-! ## dict(..) -/
theorem paired_of {F H : Hp} {k : KeyE κ} {Rk : κ → Ty} {Rv : β → Ty} (hkv : KeyV k Rk) {f : V → Prop} (sub : Same F H) : ∀ {ps : List (κ × β)} {vs : List V}, AllP F (ps.map fun z => TU K [Rk z.1, Rv z.2]) vs → ∃ (as : List Addr) (kvs : List (L2.Key × V)), vs = as.map V.ref ∧ Paired (fun p kv => SqT K H p [kV kv.1, kv.2]) as kvs ∧ EntT k Rv F kvs ps
  | [], _, h => by cases h; exact ⟨[], [], rfl, .nil, .nil⟩
  | z :: ps, _, h => by
    cases h with
    | cons r1 r2 =>
      obtain ⟨as, kvs, e, h1, h2⟩ := paired_of hkv (f := f) sub r2
      obtain ⟨a, us, rfl, h3, h4⟩ := r1
      cases h4 with
      | cons q1 h4 =>
        cases h4 with
        | cons q2 h4 =>
          cases h4
          refine ⟨a :: as, (k.f z.1, _) :: kvs, by rw [e]; rfl, .cons ?_ h1, .cons q2 h2⟩
          rw [hkv _ _ _ q1] at h3
          exact same_sqT sub h3
variable [DecidableEq κ] {k : KeyE κ} {Rk : κ → Ty} {Rv : β → Ty}
/-- dict(ps), a tuple of pairs -/
theorem evnc_dctP {M : (List (κ × β) → S → Res ε δ) → Res ε δ} (hkv : KeyV k Rk) (h : EvC K X De te G Dd s M (VP K fun z : κ × β => TU K [Rk z.1, Rv z.2])) : EvNC K X De (tCB (cDctU K) (tCons te tNil)) G Dd s (fun kk => M fun ps s1 => kk (dof ps) s1) (OXT k Rv) := fun kk σ H F hs ss o r Q hm q qe =>
  h _ σ H F hs ss o r _ hm (fun ps s1 v H1 F1 t1 hs1 r1 hm1 => by
    obtain ⟨a, vs, rfl, h1, h2⟩ := r1
    obtain ⟨as, kvs, e, h3, h4⟩ := paired_of (K := K) (H := H1) hkv (f := fun _ => True) hs1.sub h2
    subst e
    exact .inr (.inr ⟨a, as, kvs, rfl, puT_up hs1 h1, h3, fun p hp => q (dof ps) s1 p _ F1 t1 (hs1.new hp ⟨_, rfl, h4.merge .nil⟩) hm1⟩)) qe
/-- .. a list of pairs -/
theorem evnc_dctL {M : (List (κ × β) → S → Res ε δ) → Res ε δ} (hkv : KeyV k Rk) (h : EvC K X De te G Dd s M (LT K fun z : κ × β => TU K [Rk z.1, Rv z.2])) : EvNC K X De (tCB (cDctU K) (tCons te tNil)) G Dd s (fun kk => M fun ps s1 => kk (dof ps) s1) (OXT k Rv) := fun kk σ H F hs ss o r Q hm q qe =>
  h _ σ H F hs ss o r _ hm (fun ps s1 v H1 F1 t1 hs1 r1 hm1 => by
    obtain ⟨a, vs, rfl, h1, h2⟩ := r1
    obtain ⟨as, kvs, e, h3, h4⟩ := paired_of (K := K) (H := H1) hkv (f := fun _ => True) hs1.sub h2
    subst e
    exact .inr (.inl ⟨a, as, kvs, rfl, sqL_up hs1 h1, h3, fun p hp => q (dof ps) s1 p _ F1 t1 (hs1.new hp ⟨_, rfl, h4.merge .nil⟩) hm1⟩)) qe
omit [DecidableEq κ] in
/-- .. a dict -/
theorem evnc_dcopyT {R : α → Ty} {f : α → List (κ × β)} {Ma : (α → S → Res ε δ) → Res ε δ} (hv : DVw Dd R f k Rv) (ha : EvC K X De ta G Dd s Ma R) : EvNC K X De (tCB (cDctU K) (tCons ta tNil)) G Dd s (fun kk => Ma fun a s1 => kk (f a) s1) (OXT k Rv) := fun kk σ H F hs ss o r Q hm q qe =>
  ha _ σ H F hs ss o r _ hm (fun a s1 v H1 F1 t1 hs1 r1 hm1 => by
    obtain ⟨p, kvs, rfl, h1, h2⟩ := hv a s1 v H1 F1 hs1 r1
    exact .inl ⟨p, kvs, rfl, h2, fun p' hp => q (f a) s1 p' _ F1 t1 (hs1.new hp ⟨kvs, rfl, h1⟩) hm1⟩) qe
/-! {k: v, ..} -/
def EvPC (K : PySem.W.Frag) {ε β S κ υ : Type} (X : L2.St → XK) (De : ε → Own) (trs : List (TE × TE)) (G : Sto) (Dd : S → Own) (s : S) (n : Nat) (M : (List (κ × υ) → S → Res ε β) → Res ε β) (k : KeyE κ) (Rv : υ → Ty) : Prop :=
  ∀ (kk : List (κ × υ) → S → Res ε β) (σ : L2.St) (H F : Hp), HS (Dd s) H F → SS F G σ → ∀ (o : β → Prop) (r : Str → ε → Prop) (Q : List (V × V) → Hp → Prop), (M kk).sat o r →
    (∀ x s' kvs H' F', kvs.length = n → Same F F' → HS (Dd s') H' F' → EntT k Rv F' kvs x → (kk x s').sat o r → Q (kvs.map fun kv => (kV kv.1, kv.2)) H') → (∀ n e, r n e → ∀ H' F', Same F F' → HS (De e) H' F' → X σ (.ref (He.ga K n)) none H') → tPairs trs σ H Q
omit [DecidableEq κ] in
theorem evpc_nil : EvPC (β := δ) K X De [] G Dd s 0 (fun kk => kk [] s) k Rv := fun kk σ H F hs ss o r Q hm q _ => q [] s [] H F rfl (Same.refl _) hs .nil hm
omit [DecidableEq κ] in
theorem evpc_cons {trs : List (TE × TE)} {n : Nat} {Mk : (κ → S → Res ε δ) → Res ε δ} {Mv : S → (β → S → Res ε δ) → Res ε δ} {Mr : S → (List (κ × β) → S → Res ε δ) → Res ε δ} (hkv : KeyV k Rk) (hk : EvC K X De ta G Dd s Mk Rk) (hv : ∀ s1, EvC K X De tb G Dd s1 (Mv s1) Rv) (hr : ∀ s1, EvPC K X De trs G Dd s1 n (Mr s1) k Rv) :
    EvPC K X De ((ta, tb) :: trs) G Dd s (n + 1) (fun kk => Mk fun x s1 => Mv s1 fun y s2 => Mr s2 fun m s3 => kk ((x, y) :: m) s3) k Rv := fun kk σ H F hs ss o r Q hm q qe =>
  hk _ σ H F hs ss o r _ hm (fun x s1 v H1 F1 t1 hs1 r1 hm1 => hv s1 _ σ H1 F1 hs1 (ss.mono t1) o r _ hm1 (fun y s2 u H2 F2 t2 hs2 r2 hm2 => hr s2 _ σ H2 F2 hs2 ((ss.mono t1).mono t2) o r _ hm2 (fun m s3 kvs H3 F3 l3 t3 hs3 r3 hm3 => by
    have z := q ((x, y) :: m) s3 ((k.f x, u) :: kvs) H3 F3 (by simp [l3]) ((t1.trans t2).trans t3) hs3 (.cons ((Rv y).mono t3 r2) r3) hm3
    rw [List.map_cons] at z
    rw [hkv _ _ _ r1]
    exact z) (fun n e h H3 F3 t3 => qe n e h H3 F3 ((t1.trans t2).trans t3))) (fun n e h H2 F2 t2 => qe n e h H2 F2 (t1.trans t2))) qe
theorem evnc_disp {trs : List (TE × TE)} {n : Nat} {M : (List (κ × β) → S → Res ε δ) → Res ε δ} {De : ε → Own} (h : ∀ p, EvPC K X De trs G (fun s => (p, OXT k Rv []) :: Dd s) s n M k Rv) (hn : n ≤ 15 := by decide) : EvNC K X De (tDisp trs) G Dd s (fun kk => M fun ps s1 => kk (dof ps) s1) (OXT k Rv) := fun kk σ H F hs ss o r Q hm q qe p hp =>
  h p _ σ _ F (hs.new hp ⟨[], rfl, .nil⟩) ss o r _ hm (fun ps s1 kvs H1 F1 l1 t1 hs1 r1 hm1 => by
    obtain ⟨o1, ho1, kvs1, rfl, h1⟩ := hs1.at (k := 0) rfl
    cases h1
    refine ⟨ho1, kvs, rfl, by rw [l1]; exact hn, ?_⟩
    exact q (dof ps) s1 p _ F1 t1 (hs1.put (k := 0) (O' := OXT k Rv (dof ps)) rfl ⟨_, rfl, r1.merge .nil⟩) hm1) qe
/-! sorted(d), list(d) -/
theorem keysT_strs {F : Hp} {kvs : List (L2.Key × V)} {m : List (Tx × β)} (h : EntT kS Rv F kvs m) : kvs.map (·.1) = ((m.map (·.1)).map (·.s)).map Sum.inr := by
  rw [h.keys, List.map_map, List.map_map]
  rfl
omit [DecidableEq κ] in
theorem evnc_lstDT (hat : ∀ x F, (Rk x).p (kV (k.f x)) F) {R : α → Ty} {f : α → List (κ × β)} {Ma : (α → S → Res ε δ) → Res ε δ} (hv : DVw Dd R f k Rv) (ha : EvC K X De ta G Dd s Ma R) :
    EvNC K X De (tCB (cLst K) (tCons ta tNil)) G Dd s (fun kk => Ma fun a s1 => kk ((f a).map (·.1)) s1) (OLT Rk) := fun kk σ H F hs ss o r Q hm q qe =>
  ha _ σ H F hs ss o r _ hm (fun a s1 v H1 F1 t1 hs1 r1 hm1 => by
    obtain ⟨p, kvs, rfl, h1, h2⟩ := hv a s1 v H1 F1 hs1 r1
    have hr : L2.Rd H1 p (.dK kvs) := by
      rcases h2 with h2 | ⟨od, h2⟩
      · exact .inl h2
      · exact .inr ⟨od, h2⟩
    refine .inr ⟨p, kvs, rfl, hr, fun u hu => ?_⟩
    refine q _ s1 u _ F1 t1 (hs1.new hu ⟨_, rfl, ?_⟩) hm1
    have key : ∀ {kvs : List (L2.Key × V)} {m : List (κ × β)}, EntT k Rv F1 kvs m → AllP F1 ((m.map (·.1)).map Rk) (kvs.map fun kv => kV kv.1) := by
      intro kvs m h
      induction h with
      | nil => exact .nil
      | cons _ _ ih => exact .cons (hat _ _) ih
    exact key h1) qe
end
end TL

end
section
set_option Elab.async false
set_option linter.all false
set_option maxRecDepth 100000
set_option maxHeartbeats 1000000
/-! # kinds by structure: d.update, d.pop, sorted(d), what the written part holds -/
namespace TL
open PySem PySem.Spec L2
/-! ## d.update(e), e a dict -/
def tDUpd (td te : TE) : TE := fun σ H Q => td σ H fun x H1 => ∃ a, x = .ref a ∧ IsD H1 a ∧ te σ H1 fun y H2 => ∃ b kvs more, y = .ref b ∧ a ≠ b ∧ H2 a = some (.dK kvs) ∧ L2.Rd H2 b (.dK more) ∧ kvs.length + more.length ≤ sizeLine ∧ Q .non (upd H2 a (.dK (mergeK kvs more)))
section
variable {X : Cx} {o e f : Expr} {apos cpos : Pos} {td ty tx : TE} {pins : List (Addr × Obj)} {σ : L2.St} {H : Hp} {s : Shared} {a b : Addr} {kvs more : List (L2.Key × V)} {A : Around} {E : Value → Shared → Prop}
theorem d_upd {Q : Value → Shared → Prop} (I : Inv X pins σ H s) (ne : a ≠ b) (ea : H a = some (.dK kvs)) (eb : L2.Rd H b (.dK more)) (hl : kvs.length + more.length ≤ sizeLine)
    (h : ∀ s', Inv X pins σ (upd H a (.dK (mergeK kvs more))) s' → Q .none s') : wpAny (model X.prog X.w) A (call (.builtin "dict.update") [.ref a, .ref b]) Q E s := by
  obtain ⟨z, hd, vs, rel, dd⟩ := dk_of I.hok ea
  obtain ⟨z2, hd2, vs2, rel2, dd2⟩ := dk_rd I.hok eb
  have l1 := rel.length
  have l2 := rel2.length
  refine call_meetsIn PySem.F.slot_dict_update dd.typeIs PySem.F.entry_dict_update (PySem.F.args_dict_update_2 _ _) (meets_dict_update (mixKind X.prog X.w) a b ne hd2) ⟨vs, vs2, dd, dd2, by rw [← l1, ← l2]; exact hl, fun h' dd' _ hs => h _ ?_⟩
  have he : ∃ q, h'.get? a = some q := let ⟨q, _, _, hq, _⟩ := dd'; ⟨q, hq⟩
  exact d_write (t' := s.toks) I (by rw [ea]; exact True.intro) hs he (dk_new (Nat.le_trans (length_mergeK more kvs) hl) hd (KV.merge rel2 rel) dd')
theorem pe_dupd (ho : PE X o td) (he : PE X e ty) (m : M1 X o "update" apos e cpos) : PE X (.Call (.Attribute o "update" apos) [e] [] cpos) (tDUpd td ty) := by
  refine ⟨fun pins s σ H Q I h => ?_⟩
  refine wpAny_Call_method m.base m.few m.line PySem.F.plainAttrs_dict PySem.F.slot_dict_update PySem.F.type_dict_update (thn (ho.run pins s σ H _ I h) fun u s1 ⟨x, H1, I1, rx, a, ex, d, q1⟩ => ?_)
  subst ex
  obtain rfl : u = Value.ref a := rx
  obtain ⟨t1, t2, _⟩ := isD_at I1 d
  refine ⟨t1, t2, ?_⟩
  rw [m.trees]
  refine Calls.callWith_builtin rfl (Calls.evalArgs_plain (Calls.spliced_cons (thn (he.run pins s1 σ H1 _ I1 q1) fun iv s2 ⟨y, H2, I2, ry, b, kvs, more, ey, ne, ea, eb, hl, q2⟩ => Calls.spliced_nil ?_)))
  subst ey
  obtain rfl : iv = Value.ref b := ry
  exact d_upd I2 ne ea eb hl fun s3 I3 => ⟨.non, _, I3, rfl, q2⟩
end
/-! ## what the written part holds, its tuples without a dict of their own -/
mutual
inductive DpP (K : PySem.W.Frag) : V → PyData → Prop
  | non : DpP K .non .none
  | bl (b : Bool) : DpP K (.bl b) (.bool b)
  | int (i : Int) : DpP K (.int i) (.int i)
  | str (x : Str) : DpP K (.str x) (.str x)
  | lst {a : Addr} {xs : List V} {ds : List PyData} : (∀ H, SqL K H a xs) → DpPs K xs ds → DpP K (.ref a) (.list ds)
  | tup {a : Addr} {xs : List V} {ds : List PyData} : (∀ H, PuT K H a xs) → DpPs K xs ds → DpP K (.ref a) (.tuple ds)
inductive DpPs (K : PySem.W.Frag) : List V → List PyData → Prop
  | nil : DpPs K [] []
  | cons {v : V} {d : PyData} {vs : List V} {ds : List PyData} : DpP K v d → DpPs K vs ds → DpPs K (v :: vs) (d :: ds)
end
mutual
def dataPB (K : PySem.W.Frag) (v : Value) : PyData → Bool
  | .none => (match v with
    | .none => true
    | _ => false)
  | .bool b => (match v with
    | .bool c => b == c
    | _ => false)
  | .int i => (match v with
    | .int j _ => decide (j = i)
    | _ => false)
  | .str x => (match v with
    | .str y _ => decide (y = x)
    | _ => false)
  | .tuple ds => (match v with
    | .ref a => (match K.lookup a with
      | some o => (match o.data with
        | .seq its _ => decide (o.cls = .type "tuple") && (o.dict.isNone && (decide (its.size ≤ sizeLine) && dataPAll K its.toList ds))
        | _ => false)
      | none => false)
    | _ => false)
  | .list ds => (match v with
    | .ref a => (match K.lookup a with
      | some o => (match o.data with
        | .seq its _ => decide (o.cls = .type "list") && (o.dict.isNone && (decide (its.size ≤ sizeLine) && dataPAll K its.toList ds))
        | _ => false)
      | none => false)
    | _ => false)
  | .dict _ => false
def dataPAll (K : PySem.W.Frag) (vs : List Value) : List PyData → Bool
  | [] => vs.isEmpty
  | d :: ds => (match vs with
    | [] => false
    | v :: vs => dataPB K v d && dataPAll K vs ds)
end
mutual
theorem dataPB_ok {K : PySem.W.Frag} : ∀ (d : PyData) (v : Value), dataPB K v d = true → ∃ x, RelV x v ∧ DpP K x d
  | .none, v, h => by
    unfold dataPB at h
    split at h
    · exact ⟨.non, rfl, .non⟩
    · cases h
  | .bool b, v, h => by
    unfold dataPB at h
    split at h
    · have e := eq_of_beq h
      subst e
      exact ⟨.bl _, rfl, .bl _⟩
    · cases h
  | .int i, v, h => by
    unfold dataPB at h
    split at h
    · have e := of_decide_eq_true h
      subst e
      exact ⟨.int _, ⟨_, rfl⟩, .int _⟩
    · cases h
  | .str x, v, h => by
    unfold dataPB at h
    split at h
    · have e := of_decide_eq_true h
      subst e
      exact ⟨.str _, ⟨_, rfl⟩, .str _⟩
    · cases h
  | .tuple ds, v, h => by
    unfold dataPB at h
    split at h
    · rename_i a
      split at h
      · rename_i o ho
        split at h
        · rename_i its n hd
          simp only [Bool.and_eq_true, decide_eq_true_eq, Option.isNone_iff_eq_none] at h
          obtain ⟨h1, h0, h2, h3⟩ := h
          obtain ⟨xs, hv, hx⟩ := dataPAll_ok ds its.toList h3
          exact ⟨.ref a, rfl, .tup (fun H => .inr ⟨o, its, n, ho, h1, h0, hd, h2, hv⟩) hx⟩
        · cases h
      · cases h
    · cases h
  | .list ds, v, h => by
    unfold dataPB at h
    split at h
    · rename_i a
      split at h
      · rename_i o ho
        split at h
        · rename_i its n hd
          simp only [Bool.and_eq_true, decide_eq_true_eq, Option.isNone_iff_eq_none] at h
          obtain ⟨h1, h0, h2, h3⟩ := h
          obtain ⟨xs, hv, hx⟩ := dataPAll_ok ds its.toList h3
          exact ⟨.ref a, rfl, .lst (fun H => .inr ⟨o, its, n, ho, h1, h0, hd, h2, hv⟩) hx⟩
        · cases h
      · cases h
    · cases h
  | .dict _, v, h => by
    unfold dataPB at h
    cases h
theorem dataPAll_ok {K : PySem.W.Frag} : ∀ (ds : List PyData) (vs : List Value), dataPAll K vs ds = true → ∃ xs, Vals xs vs ∧ DpPs K xs ds
  | [], vs, h => by
    unfold dataPAll at h
    cases vs with
    | nil => exact ⟨[], .nil, .nil⟩
    | cons => cases h
  | d :: ds, vs, h => by
    unfold dataPAll at h
    cases vs with
    | nil => cases h
    | cons v vs =>
      simp only [Bool.and_eq_true] at h
      obtain ⟨x, h1, h2⟩ := dataPB_ok d v h.1
      obtain ⟨xs, h3, h4⟩ := dataPAll_ok ds vs h.2
      exact ⟨x :: xs, .cons h1 h3, .cons h2 h4⟩
end
/-- what such data are, by structure -/
abbrev Cad (K : PySem.W.Frag) (R : Ty) (d : PyData) : Prop := ∀ v F, DpP K v d → R.p v F
def CC (K : PySem.W.Frag) (Rs : List Ty) (ds : List PyData) : Prop := ∀ F vs, DpPs K vs ds → AllP F Rs vs
section
variable {K : PySem.W.Frag} {α β : Type}
theorem c_I (i : Int) : Cad K (tD K eI i) (eI i) := fun v F r => by cases r; exact .int _
theorem c_B (i : Bool) : Cad K (tD K eB i) (eB i) := fun v F r => by cases r; exact .bl _
theorem c_S (i : Tx) : Cad K (tD K eS i) (eS i) := fun v F r => by cases r; exact .str _
theorem c_N (i : Unit) : Cad K (tD K eU i) (eU i) := fun v F r => by cases r; exact .non
theorem cc_nil : CC K [] [] := fun F vs h => by cases h; exact .nil
theorem cc_cons {R : Ty} {Rs : List Ty} {d : PyData} {ds : List PyData} (h : Cad K R d) (t : CC K Rs ds) : CC K (R :: Rs) (d :: ds) := fun F vs r => by
  cases r with
  | cons r1 r2 => exact .cons (h _ _ r1) (t _ _ r2)
theorem cc_map {R : α → Ty} {e : α → PyData} (h : ∀ x, Cad K (R x) (e x)) : ∀ xs : List α, CC K (xs.map R) (xs.map e)
  | [] => cc_nil
  | x :: xs => cc_cons (h x) (cc_map h xs)
theorem c_Q (r : Rat) : Cad K (tD K eQ r) (eQ r) := fun v F h => by
  cases h with
  | tup h1 h2 => exact .tup (h1 F).sq (allP_dp (cc_cons (c_I r.num) (cc_cons (c_I (r.den : Int)) cc_nil) F _ h2))
theorem c_T {Rs : List Ty} {ds : List PyData} (h : CC K Rs ds) : Cad K (TU K Rs) (.tuple ds) := fun v F r => by
  cases r with
  | tup h1 h2 => exact ⟨_, _, rfl, (h1 F).sq, h _ _ h2⟩
theorem c_V {R : α → Ty} {e : α → PyData} (h : ∀ x, Cad K (R x) (e x)) (xs : List α) : Cad K (VP K R xs) (eV e xs) := fun v F r => by
  cases r with
  | tup h1 h2 => exact ⟨_, _, rfl, h1 F, cc_map h xs _ _ h2⟩
theorem c_L {R : α → Ty} {e : α → PyData} (h : ∀ x, Cad K (R x) (e x)) (xs : List α) : Cad K (LT K R xs) (eL e xs) := fun v F r => by
  cases r with
  | lst h1 h2 => exact ⟨_, _, rfl, h1 F, cc_map h xs _ _ h2⟩
end
section
variable {K : PySem.W.Frag} {ε ε' ρ α β γ δ S τ τ' σt ω κ : Type} {X : L2.St → XK} {De : ε → Own} {G G1 G2 : Sto} {D0 : Own} {Dd : S → Own} {s : S} {te ta tb tc tx : TE} {tt tu : TT} {F0 F1 : Hp} {E : Ends} {w : Wish K ε ρ} {t : TA} {n : Nat} {Rv : β → Ty} {k : KeyE κ} {Rk : κ → Ty}
theorem evc_conT {a : Addr} {d : PyData} {R : α → Ty} (x : α) (h : dataPB K (.ref a) d = true) (c : Cad K (R x) d) : EvC (β := β) K X De (tC (.ref a)) G Dd s (fun kk => kk x s) R := fun kk σ H F hs ss o r Q hm q qe => by
  obtain ⟨y, h1, h2⟩ := dataPB_ok d _ h
  have ey : y = .ref a := by cases h2 <;> first | (cases h1; done) | (cases h1; rfl) | (obtain ⟨_, h1⟩ := h1; cases h1; done)
  subst ey
  exact q x s _ H F (Same.refl _) hs (c _ _ h2) hm
theorem evc_sortDT {R : α → Ty} {f : α → List (Tx × β)} {Ma : (α → S → Res ε δ) → Res ε δ} (hv : DVw Dd R f kS Rv) (ha : EvC K X De ta G Dd s Ma R) :
    EvC K X De (tCB (qSort K) (tCons ta tNil)) G Dd s (fun kk => Ma fun a s1 => Res.bind (Res.grd ((f a).length < 64) (sortT ((f a).map Prod.fst))) fun z => kk z s1) (LT K (tD K eS)) := fun kk σ H F hs ss o r Q hm q qe =>
  ha _ σ H F hs ss o r _ hm (fun a s1 v H1 F1 t1 hs1 r1 hm1 => by
    obtain ⟨c, hm2⟩ := Res.sat_grd hm1
    obtain ⟨p, kvs, rfl, h1, h2⟩ := hv a s1 v H1 F1 hs1 r1
    have hr : L2.Rd H1 p (.dK kvs) := by
      rcases h2 with h2 | ⟨od, h2⟩
      · exact .inl h2
      · exact .inr ⟨od, h2⟩
    refine .inr ⟨p, kvs, ((f a).map (·.1)).map (·.s), rfl, hr, keysT_strs h1, by rw [List.length_map, List.length_map]; exact c, fun ys u pm so hu => ?_⟩
    have e := sorted_is pm so
    subst e
    have s4 : Same F1 (upd F1 u (.lst (((sortT ((f a).map Prod.fst)).map (·.s)).map V.str))) := same_new (hs1.free hu)
    refine q _ s1 _ _ _ (t1.trans s4) (hs1.frz hu) ⟨u, _, rfl, SqL.of upd_same, map_allP (e := eS) ?_⟩ hm2
    have e2 : (sortT ((f a).map Prod.fst)).map eS = ((sortT ((f a).map Prod.fst)).map (·.s)).map PyData.str := by rw [List.map_map]; rfl
    rw [e2]
    exact dp_strs _) qe
variable [DecidableEq κ]
/-- d.update(e) -/
theorem go_updT {m : List (κ × β)} {j i : Nat} {a : Addr} {R : α → Ty} {f : α → List (κ × β)} {M : (α → S → Res ε ρ) → Res ε ρ} {kk : List (κ × β) × S → Res ε ρ} (ho : G[i]? = some (some (Is (.ref a)))) (h : EvC K w.X w.De te G Dd s M R) (hv : ∀ x v F, (R x).p v F → (DT k Rv (f x)).p v F) (hk : ∀ s, (Dd s)[j]? = some (a, OXT k Rv m))
    {mm : Res ε ρ} (hP : w.W F0 mm) (q : ∀ x, w.W F0 (kk x) → Go E.nx F0 G ((Dd x.2).set j (a, OXT k Rv x.1))) (c : w.cond G := by first | exact trivial | walk_at "cond") (hm : mm = (M fun x s1 => Res.bind (Res.grd (m.length + (f x).length ≤ 100000) (dmerge m (f x), s1)) kk) := by exact rfl) : Go (tDrop (tDUpd (tVar i) te) E) F0 G (Dd s) := by subst hm; exact (fun σ H F t hs ss => by
  obtain ⟨v0, e0, r0⟩ := ss.get ho
  have r0' : v0 = .ref a := r0
  subst r0'
  obtain ⟨o1, ho1, kvs1, rfl, h1⟩ := hs.at (hk s)
  refine ⟨_, e0, a, rfl, .inl ⟨kvs1, .inl ho1⟩, h _ σ H F hs ss _ _ _ hP (fun x s1 v H1 F1 t1 hs1 r1 hm => ?_) (fun n e hr H1 F1 t1 hs1 => w.err hr c σ H1 F1 (t.trans t1) hs1 (ss.mono t1))⟩
  obtain ⟨hl, hm2⟩ := Res.sat_grd hm
  obtain ⟨b, od, kvs2, eb, hb, h2⟩ := hv x v F1 r1
  obtain ⟨o2, ho2, kvs3, rfl, h3⟩ := hs1.at (hk s1)
  have ne : a ≠ b := fun z => by
    subst z
    have := hs1.sub _ _ hb
    rw [ho2] at this
    cases this
  refine ⟨b, kvs3, kvs2, eb, ne, ho2, .inr ⟨od, hs1.sub _ _ hb⟩, by rw [h3.len, h2.len]; exact Nat.le_trans hl sizeLine_big, ?_⟩
  exact q (dmerge m (f x), s1) hm2 σ _ F1 (t.trans t1) (hs1.put (hk s1) ⟨_, rfl, h2.merge h3⟩) (ss.mono t1))
/-- d.pop(k) -/
theorem evc_dpopT {j i : Nat} {a : Addr} {Dd : List (κ × β) → Own} {s : List (κ × β)} {kk' : Type} {Mb : (κ → List (κ × β) → Res ε δ) → Res ε δ} (B : Bor1 Dd j a (OXT k Rv)) (hkv : KeyV k Rk) (hi : G[i]? = some (some (Is (.ref a)))) (hb : EvC K X De tb G Dd s Mb Rk) : EvC K X De (tDPop1 (tVar i) tb) G Dd s (fun kk => Mb fun x s1 => Res.bind (Res.opt (dget s1 x)) fun z => kk z (ddrop s1 x)) Rv := fun kk σ H F hs ss o r Q hm q qe => by
  obtain ⟨v, e1, e2⟩ := ss.get hi
  have ev : v = .ref a := e2
  subst ev
  obtain ⟨o1, ho1, kvs1, rfl, h1⟩ := hs.at (B.at_ s)
  refine ⟨_, e1, a, rfl, .inl ⟨kvs1, .inl ho1⟩, hb _ σ H F hs ss o r _ hm (fun x s1 u H1 F1 t1 hs1 r1 hm1 => ?_) qe⟩
  obtain ⟨d, ed, hm2⟩ := Res.sat_opt hm1
  obtain ⟨o2, ho2, kvs2, rfl, h2⟩ := hs1.at (B.at_ s1)
  have h2' : EntT k Rv F1 kvs2 s1 := h2
  rcases h2'.get x with ⟨h3, _⟩ | ⟨d', v', h3, h4, h5⟩
  · rw [ed] at h3; cases h3
  · rw [ed] at h3
    cases h3
    refine ⟨kvs2, k.f x, v', ho2, hkv _ _ _ r1, h4, q d (ddrop s1 x) v' _ F1 t1 ?_ h5 hm2⟩
    have z := hs1.put (O' := OXT k Rv (ddrop s1 x)) (o := .dK (dropK kvs2 (k.f x))) (B.at_ s1) ⟨_, rfl, h2'.drop x⟩
    rw [B.set_ s1] at z
    exact z
omit [DecidableEq κ] in
theorem evc_eqOT [DecidableEq α] {e : α → PyData} {R : α → Ty} {m i j : Nat} {a : Addr} {xs : List α} {Mb : (List α → S → Res ε δ) → Res ε δ} (he : Enc (eL e) m) (hd : ∀ x, Dat K (R x) (e x)) (hi : G[i]? = some (some (Is (.ref a)))) (hk : ∀ s, (Dd s)[j]? = some (a, OLT R xs)) (hb : EvC K X De tb G Dd s Mb (tD K (eL e))) (hn : m ≤ 64 := by decide) :
    EvC K X De (tOp (qEq K) (tVar i) tb) G Dd s (fun kk => Mb fun b s2 => kk (decide (xs = b)) s2) (tD K eB) := fun kk σ H F hs ss o r Q hm q qe => by
  obtain ⟨v, e1, e2⟩ := ss.get hi
  have ev : v = .ref a := e2
  subst ev
  refine ⟨_, e1, hb _ σ H F hs ss o r _ hm (fun b s2 y H2 F2 t2 hs2 r2 hm2 => ?_) qe⟩
  obtain ⟨o1, ho, vs, rfl, hx⟩ := hs2.at (hk s2)
  refine .inr ⟨eL e xs, eL e b, .lst (SqL.of ho) (dpAll_mono hs2.sub _ vs (dd_map hd xs _ _ hx)), dp_up hs2 r2, he.shaped hn xs, he.shaped hn b, ?_⟩
  rw [he.eq]
  exact q _ s2 _ H2 F2 t2 hs2 (.bl _) hm2
omit [DecidableEq κ] in
theorem evc_neOT [DecidableEq α] {e : α → PyData} {R : α → Ty} {m i j : Nat} {a : Addr} {xs : List α} {Mb : (List α → S → Res ε δ) → Res ε δ} (he : Enc (eL e) m) (hd : ∀ x, Dat K (R x) (e x)) (hi : G[i]? = some (some (Is (.ref a)))) (hk : ∀ s, (Dd s)[j]? = some (a, OLT R xs)) (hb : EvC K X De tb G Dd s Mb (tD K (eL e))) (hn : m ≤ 64 := by decide) :
    EvC K X De (tOp (qNe K) (tVar i) tb) G Dd s (fun kk => Mb fun b s2 => kk (!decide (xs = b)) s2) (tD K eB) := fun kk σ H F hs ss o r Q hm q qe => by
  obtain ⟨v, e1, e2⟩ := ss.get hi
  have ev : v = .ref a := e2
  subst ev
  refine ⟨_, e1, hb _ σ H F hs ss o r _ hm (fun b s2 y H2 F2 t2 hs2 r2 hm2 => ?_) qe⟩
  obtain ⟨o1, ho, vs, rfl, hx⟩ := hs2.at (hk s2)
  refine .inr ⟨eL e xs, eL e b, .lst (SqL.of ho) (dpAll_mono hs2.sub _ vs (dd_map hd xs _ _ hx)), dp_up hs2 r2, he.shaped hn xs, he.shaped hn b, ?_⟩
  rw [he.eq]
  exact q _ s2 _ H2 F2 t2 hs2 (.bl _) hm2
end
/-- the law itself -/
theorem pure_ofLawT {K : PySem.W.Frag} {N : List Str} {tf : TS} {mf : List Int → Res Unit Bool} (htrue : ∀ ns : List Int, ns.length ≤ 63 → mf ns = .ok true) {vs : List V} {H : Hp} {Q : VK} {X : XK}
    (walk : ∀ (x : List Int) (F : Hp) (D : Own) (E : Ends), E.rt = Q → (∀ (K : PySem.W.Frag) G D1, GoV Q F (DN K) D1 → Go E.nx F G D1) → (dwish K X Q (fun r : Bool => .ok (tD K eB r)) (fun _ => D) (fun _ : Unit => D)).W F (mf x) → Go (tf E) F (some (LT K (tD K eI) x) :: List.replicate (N.length - 1) none) D)
    (h : lawSp K vs H Q X) : tf { nx := fun _ H' => Q .non H', rt := Q } (L2.start N vs) H :=
  pure_ofLaw htrue (fun x F D E hrt hnx hP => (walk x F D E hrt hnx hP).weak (SLe.imp (fun v F h => u_L (fun _ => u_id) x v F h) (SLe.refl _)) (List.Sublist.refl _)) h
abbrev T2 (K : PySem.W.Frag) {α β : Type} (r0 : α → Ty) (r1 : β → Ty) (x : α × β) : Ty := TU K [r0 x.1, r1 x.2]
abbrev T3 (K : PySem.W.Frag) {α β γ : Type} (r0 : α → Ty) (r1 : β → Ty) (r2 : γ → Ty) (x : α × β × γ) : Ty := TU K [r0 x.1, r1 x.2.1, r2 x.2.2]
abbrev T4 (K : PySem.W.Frag) {α β γ δ : Type} (r0 : α → Ty) (r1 : β → Ty) (r2 : γ → Ty) (r3 : δ → Ty) (x : α × β × γ × δ) : Ty := TU K [r0 x.1, r1 x.2.1, r2 x.2.2.1, r3 x.2.2.2]
abbrev T5 (K : PySem.W.Frag) {α β γ δ ζ : Type} (r0 : α → Ty) (r1 : β → Ty) (r2 : γ → Ty) (r3 : δ → Ty) (r4 : ζ → Ty) (x : α × β × γ × δ × ζ) : Ty := TU K [r0 x.1, r1 x.2.1, r2 x.2.2.1, r3 x.2.2.2.1, r4 x.2.2.2.2]
abbrev T6 (K : PySem.W.Frag) {α β γ δ ζ η : Type} (r0 : α → Ty) (r1 : β → Ty) (r2 : γ → Ty) (r3 : δ → Ty) (r4 : ζ → Ty) (r5 : η → Ty) (x : α × β × γ × δ × ζ × η) : Ty := TU K [r0 x.1, r1 x.2.1, r2 x.2.2.1, r3 x.2.2.2.1, r4 x.2.2.2.2.1, r5 x.2.2.2.2.2]
abbrev T7 (K : PySem.W.Frag) {α β γ δ ζ η θ : Type} (r0 : α → Ty) (r1 : β → Ty) (r2 : γ → Ty) (r3 : δ → Ty) (r4 : ζ → Ty) (r5 : η → Ty) (r6 : θ → Ty) (x : α × β × γ × δ × ζ × η × θ) : Ty := TU K [r0 x.1, r1 x.2.1, r2 x.2.2.1, r3 x.2.2.2.1, r4 x.2.2.2.2.1, r5 x.2.2.2.2.2.1, r6 x.2.2.2.2.2.2]
abbrev T8 (K : PySem.W.Frag) {α β γ δ ζ η θ ι : Type} (r0 : α → Ty) (r1 : β → Ty) (r2 : γ → Ty) (r3 : δ → Ty) (r4 : ζ → Ty) (r5 : η → Ty) (r6 : θ → Ty) (r7 : ι → Ty) (x : α × β × γ × δ × ζ × η × θ × ι) : Ty := TU K [r0 x.1, r1 x.2.1, r2 x.2.2.1, r3 x.2.2.2.1, r4 x.2.2.2.2.1, r5 x.2.2.2.2.2.1, r6 x.2.2.2.2.2.2.1, r7 x.2.2.2.2.2.2.2]
end TL

end
section
set_option Elab.async false
set_option linter.all false
set_option maxRecDepth 100000
set_option maxHeartbeats 1000000
/-! # more walks -/
namespace TL
open PySem PySem.Spec L2
section
variable {K : PySem.W.Frag} {ε ε' ρ α β γ δ S τ τ' σt ω κ : Type} {X : L2.St → XK} {De : ε → Own} {G G1 G2 : Sto} {D0 : Own} {Dd : S → Own} {s : S} {te ta tb tc tx : TE} {tt tu : TT} {F0 F1 : Hp} {E : Ends} {w : Wish K ε ρ} {t : TA} {n : Nat}
theorem evItc_seqT {R0 : α → Ty} {f : α → List β} {R : β → Ty} {M : (α → S → Res ε δ) → Res ε δ} (h : EvC K X De te G Dd s M R0) (hf : ∀ x v F, (R0 x).p v F → ∃ a vs, v = .ref a ∧ SqT K F a vs ∧ AllP F ((f x).map R) vs) : EvItC K X De (iSeq K te) G Dd s (fun _ => True) (fun kk => M fun x s1 => kk (f x) s1) R := fun kk σ H F hs ss o r Q hm q qe =>
  evItc_VT (R := R) (R0 := fun xs => VT K R xs) (evc_map f h fun x v F r => hf x v F r) (fun xs v F ⟨a, vs, e, h1, h2⟩ => ⟨a, vs, e, h1, h2⟩) kk σ H F hs ss o r Q hm q qe
theorem evItc_Q {M : (Rat → S → Res ε δ) → Res ε δ} (h : EvC K X De te G Dd s M (tD K eQ)) : EvItC K X De (iSeq K te) G Dd s (fun _ => True) (fun kk => M fun r s1 => kk [r.num, ((r.den : Nat) : Int)] s1) (tD K eI) :=
  evItc_seqT (f := fun r : Rat => [r.num, ((r.den : Nat) : Int)]) h fun x v F r => by
    obtain ⟨a, vs, e, h1, h2⟩ := dp_tup r
    exact ⟨a, vs, e, h1, dp_allP h2⟩
theorem evItc_T {Rs : α → List Ty} {f : α → List β} {R : β → Ty} {M : (α → S → Res ε δ) → Res ε δ} (h : EvC K X De te G Dd s M (fun x => TU K (Rs x))) (he : ∀ x, Rs x = (f x).map R) : EvItC K X De (iSeq K te) G Dd s (fun _ => True) (fun kk => M fun x s1 => kk (f x) s1) R :=
  evItc_seqT h fun x v F ⟨a, vs, e, h1, h2⟩ => ⟨a, vs, e, h1, by rw [← he x]; exact h2⟩
/-- what is known of a value's class -/
abbrev TyV {S α : Type} (K : PySem.W.Frag) (Dd : S → Own) (R : α → Ty) (own : String) : Prop := ∀ x s v H F, HS (Dd s) H F → (R x).p v F → TyX K H v (.type own)
theorem tyL {H : Hp} {a : Addr} {vs : List V} (h : SqL K H a vs) : TyX K H (.ref a) (.type "list") := by
  rcases h with (h1 | ⟨o, h1⟩) | ⟨_, _, _, h1, h2, _⟩
  · exact .base (.lst h1)
  · exact .base (.frz h1)
  · exact .kList h1 h2
theorem tyT {H : Hp} {a : Addr} {vs : List V} (h : SqT K H a vs) : TyX K H (.ref a) (.type "tuple") := by
  rcases h with (h1 | ⟨o, h1⟩) | ⟨_, _, _, h1, h2, _⟩
  · exact .base (.tup h1)
  · exact .fTuple h1
  · exact .kTuple h1 h2
theorem ty_L {R : α → Ty} : TyV K Dd (LT K R) "list" := fun x s v H F hs ⟨a, vs, e, h1, _⟩ => by subst e; exact tyL (sqL_up hs h1)
theorem ty_V {R : α → Ty} : TyV K Dd (VP K R) "tuple" := fun x s v H F hs ⟨a, vs, e, h1, _⟩ => by subst e; exact tyT (puT_up hs h1).sq
theorem ty_T {Rs : α → List Ty} : TyV K Dd (fun x => TU K (Rs x)) "tuple" := fun x s v H F hs ⟨a, vs, e, h1, _⟩ => by subst e; exact tyT (sqT_up hs h1)
theorem ty_D {k : KeyE κ} {R : α → Ty} : TyV K Dd (DT k R) "dict" := fun x s v H F hs ⟨a, od, kvs, e, h1, _⟩ => by subst e; exact .fDict (hs.sub _ _ h1)
theorem ty_d {e : α → PyData} {own : String} (h : ∀ x, tyN (e x) = own) : TyV K Dd (tD K e) own := fun x s v H F hs r => by rw [← h x]; exact tyX_of (dp_up hs r)
theorem ty_OL {j : Nat} {a : Addr} {R : α → Ty} {xs : List α} (hk : ∀ s, (Dd s)[j]? = some (a, OLT R xs)) : TyV K Dd (fun _ : Unit => Is (.ref a)) "list" := fun x s v H F hs r => by
  obtain ⟨o, ho, vs, rfl, _⟩ := hs.at (hk s)
  have e : v = .ref a := r
  subst e
  exact .base (.lst ho)
theorem ty_OD {j : Nat} {a : Addr} {k : KeyE κ} {R : α → Ty} {m : List (κ × α)} (hk : ∀ s, (Dd s)[j]? = some (a, OXT k R m)) : TyV K Dd (fun _ : Unit => Is (.ref a)) "dict" := fun x s v H F hs r => by
  obtain ⟨o, ho, vs, rfl, _⟩ := hs.at (hk s)
  have e : v = .ref a := r
  subst e
  exact .base (.dK ho)
theorem evc_isiG {n own : String} {b : Bool} {R : α → Ty} {M : (α → S → Res ε δ) → Res ε δ} (h : EvC K X De te G Dd s M R) (ty : TyV K Dd R own) (k : kitB own n = some b) : EvC K X De (tCB (cIsi K) (tCons te (tCons (tC (.ty n)) tNil))) G Dd s (fun kk => M fun _ s1 => kk b s1) (tD K eB) := fun kk σ H F hs ss o r Q hm q qe =>
  h _ σ H F hs ss o r _ hm (fun y s1 v H1 F1 t1 hs1 r1 hm1 => .inl ⟨v, .ty n, _, _, b, rfl, .ty n, ty y s1 v H1 F1 hs1 r1, kit_ty k, q b s1 _ H1 F1 t1 hs1 (.bl _) hm1⟩) qe
end
end TL

end
section
set_option Elab.async false
set_option linter.all false
set_option maxRecDepth 100000
set_option maxHeartbeats 1000000
/-! # x in xs of flat things, is True, a list made for one call -/
namespace TL
open PySem PySem.Spec L2
def rIsBl : R2 := fun x y H Q => ∃ a b, x = .bl a ∧ y = .bl b ∧ Q (.bl (decide (a = b))) H
def rIsNotBl : R2 := fun x y H Q => ∃ a b, x = .bl a ∧ y = .bl b ∧ Q (.bl (!decide (a = b))) H
/-- values of flat things -/
structure FlatE (K : PySem.W.Frag) {β : Type} [DecidableEq β] (Re : β → Ty) where
  g : β → V
  hg : ∀ x v F, (Re x).p v F → v = g x
  hf : ∀ x, flatV (g x) = true
  he : ∀ x y, eqV (g x) (g y) = decide (x = y)
def fl_S {K : PySem.W.Frag} : FlatE K (tD K eS) := ⟨fun x => .str x.s, fun x v F r => dp_str r, fun _ => rfl, fun x y => by
  show (x.s == y.s) = decide (x = y)
  by_cases h : x = y
  · subst h; simp
  · have h' : ¬ x.s = y.s := fun z => h (Tx.ext' z)
    simp [h, h']⟩
def fl_I {K : PySem.W.Frag} : FlatE K (tD K eI) := ⟨fun x => .int x, fun x v F r => dp_int r, fun _ => rfl, fun x y => by
  show (x == y) = decide (x = y)
  rfl⟩
def fl_B {K : PySem.W.Frag} : FlatE K (tD K eB) := ⟨fun x => .bl x, fun x v F r => dp_bl r, fun _ => rfl, fun x y => by cases x <;> cases y <;> rfl⟩
section
variable {K : PySem.W.Frag} {ε ε' ρ α β γ δ S τ τ' σt ω κ : Type} {X : L2.St → XK} {De : ε → Own} {G G1 G2 : Sto} {D0 : Own} {Dd : S → Own} {s : S} {te ta tb tc tx : TE} {tt tu : TT} {F0 F1 : Hp} {E : Ends} {w : Wish K ε ρ} {t : TA} {n : Nat}
theorem flat_all_of [DecidableEq β] {Re : β → Ty} (fl : FlatE K Re) {F : Hp} : ∀ {xs : List β} {vs : List V}, AllP F (xs.map Re) vs → vs = xs.map fl.g
  | [], _, h => by cases h; rfl
  | x :: xs, _, h => by
    cases h with
    | cons h1 h2 => rw [List.map_cons, ← flat_all_of fl h2, ← fl.hg _ _ _ h1]
theorem inV_flat [DecidableEq β] {Re : β → Ty} (fl : FlatE K Re) (x : β) (xs : List β) : inV (fl.g x) (xs.map fl.g) = decide (x ∈ xs) := by
  unfold inV
  induction xs with
  | nil => rfl
  | cons y ys ih =>
    rw [List.map_cons, List.any_cons, ih, fl.he]
    by_cases h : y = x
    · subst h; simp
    · have h' : ¬ x = y := fun z => h z.symm
      simp [h, h']
theorem evc_inG [DecidableEq β] {Re : β → Ty} {R : α → Ty} {f : α → List β} {Ma : (β → S → Res ε δ) → Res ε δ} {Mb : S → (α → S → Res ε δ) → Res ε δ} (fl : FlatE K Re) (hv : SView K Dd R f Re) (ha : EvC K X De ta G Dd s Ma Re) (hb : ∀ s1, EvC K X De tb G Dd s1 (Mb s1) R) : EvC K X De (tOp (rIn K false) ta tb) G Dd s (fun kk => Ma fun a s1 => Mb s1 fun b s2 => kk (decide (a ∈ f b)) s2) (tD K eB) :=
  evc2 ha hb fun a b s2 x y H F hs rx ry Q q => by
    obtain ⟨p, vs, rfl, h1, h2⟩ := hv b s2 y H F hs ry
    have e := flat_all_of fl h2
    subst e
    refine ⟨p, _, rfl, h1, by rw [fl.hg _ _ _ rx]; exact fl.hf _, by rw [List.all_eq_true]; intro z hz; obtain ⟨u, _, eu⟩ := List.mem_map.mp hz; rw [← eu]; exact fl.hf _, ?_⟩
    have e : inV x ((f b).map fl.g) = decide (a ∈ f b) := by rw [fl.hg _ _ _ rx, inV_flat]
    simp only [e]
    exact q _ H F (Same.refl _) hs (.bl _)
theorem evc_notinG [DecidableEq β] {Re : β → Ty} {R : α → Ty} {f : α → List β} {Ma : (β → S → Res ε δ) → Res ε δ} {Mb : S → (α → S → Res ε δ) → Res ε δ} (fl : FlatE K Re) (hv : SView K Dd R f Re) (ha : EvC K X De ta G Dd s Ma Re) (hb : ∀ s1, EvC K X De tb G Dd s1 (Mb s1) R) : EvC K X De (tOp (rIn K true) ta tb) G Dd s (fun kk => Ma fun a s1 => Mb s1 fun b s2 => kk (!decide (a ∈ f b)) s2) (tD K eB) :=
  evc2 ha hb fun a b s2 x y H F hs rx ry Q q => by
    obtain ⟨p, vs, rfl, h1, h2⟩ := hv b s2 y H F hs ry
    have e := flat_all_of fl h2
    subst e
    refine ⟨p, _, rfl, h1, by rw [fl.hg _ _ _ rx]; exact fl.hf _, by rw [List.all_eq_true]; intro z hz; obtain ⟨u, _, eu⟩ := List.mem_map.mp hz; rw [← eu]; exact fl.hf _, ?_⟩
    have e : inV x ((f b).map fl.g) = decide (a ∈ f b) := by rw [fl.hg _ _ _ rx, inV_flat]
    simp only [e]
    exact q _ H F (Same.refl _) hs (.bl _)
theorem evc_isBl {Ma : (Bool → S → Res ε δ) → Res ε δ} {Mb : S → (Bool → S → Res ε δ) → Res ε δ} (ha : EvC K X De ta G Dd s Ma (tD K eB)) (hb : ∀ s1, EvC K X De tb G Dd s1 (Mb s1) (tD K eB)) : EvC K X De (tOp rIsBl ta tb) G Dd s (fun kk => Ma fun a s1 => Mb s1 fun b s2 => kk (decide (a = b)) s2) (tD K eB) :=
  evc2 ha hb fun a b s2 x y H F hs rx ry Q q => ⟨a, b, dp_bl rx, dp_bl ry, q _ H F (Same.refl _) hs (.bl _)⟩
theorem evc_isnotBl {Ma : (Bool → S → Res ε δ) → Res ε δ} {Mb : S → (Bool → S → Res ε δ) → Res ε δ} (ha : EvC K X De ta G Dd s Ma (tD K eB)) (hb : ∀ s1, EvC K X De tb G Dd s1 (Mb s1) (tD K eB)) : EvC K X De (tOp rIsNotBl ta tb) G Dd s (fun kk => Ma fun a s1 => Mb s1 fun b s2 => kk (!decide (a = b)) s2) (tD K eB) :=
  evc2 ha hb fun a b s2 x y H F hs rx ry Q q => ⟨a, b, dp_bl rx, dp_bl ry, q _ H F (Same.refl _) hs (.bl _)⟩
/-- f(..).append(x): the list is let go -/
theorem go_appTmp {R : α → Ty} {M : (List α → S → Res ε ρ) → Res ε ρ} {Ma : List α → S → (α → S → Res ε ρ) → Res ε ρ} {kk : S → Res ε ρ} (h : EvNC K w.X w.De te G Dd s M (OLT R)) (ha : ∀ xs p s1, EvC K w.X w.De ta G (fun s => (p, OLT R xs) :: Dd s) s1 (Ma xs s1) R)
    {m : Res ε ρ} (hP : w.W F0 m) (q : ∀ x, w.W F0 (kk x) → Go E.nx F0 G (Dd x)) (c : w.cond G := by first | exact trivial | walk_at "cond") (hm : m = (M fun xs s1 => Ma xs s1 fun v s2 => Res.bind (Res.grd (xs.length < 100000) s2) kk) := by exact rfl) : Go (tDrop (tBM K "list" rAppend te (tCons ta tNil)) E) F0 G (Dd s) := by subst hm; exact (fun σ H F t hs ss =>
  h _ σ H F hs ss _ _ _ hP (fun xs s1 p H1 F1 t1 hs1 hm1 => by
    obtain ⟨o1, ho1, vs, rfl, h2⟩ := hs1.at (k := 0) rfl
    refine .inl ⟨rfl, vs, SqL.of ho1⟩ |> fun ty => ⟨ty, ha xs p s1 _ σ H1 F1 hs1 (ss.mono t1) _ _ _ hm1 (fun v s2 u H2 F2 t2 hs2 r2 hm2 => ?_) (fun n e hr H2 F2 t2 hs2 => w.err hr c σ H2 F2 ((t.trans t1).trans t2) hs2 ((ss.mono t1).mono t2))⟩
    obtain ⟨hl, hm3⟩ := Res.sat_grd hm2
    obtain ⟨o2, ho2, us, rfl, h3⟩ := hs2.at (k := 0) rfl
    have l3 := h3.len
    rw [List.length_map] at l3
    refine ⟨p, us, u, rfl, rfl, ho2, by rw [l3]; exact Nat.lt_of_lt_of_le hl sizeLine_big, ?_⟩
    exact q s2 hm3 σ _ F2 ((t.trans t1).trans t2) ((hs2.put (k := 0) (O' := OLT R (xs ++ [v])) rfl ⟨_, rfl, by rw [List.map_append]; exact h3.append (.cons r2 .nil)⟩).drop (List.sublist_cons_self _ _)) ((ss.mono t1).mono t2))
    (fun n e hr H1 F1 t1 hs1 => w.err hr c σ H1 F1 (t.trans t1) hs1 (ss.mono t1)))
/-- f(..).clear() -/
theorem go_clearTmp {R : α → Ty} {M : (List α → S → Res ε ρ) → Res ε ρ} {kk : S → Res ε ρ} (h : EvNC K w.X w.De te G Dd s M (OLT R))
    {m : Res ε ρ} (hP : w.W F0 m) (q : ∀ x, w.W F0 (kk x) → Go E.nx F0 G (Dd x)) (c : w.cond G := by first | exact trivial | walk_at "cond") (hm : m = (M fun xs s1 => Res.bind (.ok s1) kk) := by exact rfl) : Go (tDrop (tBM0 K "list" rClear te) E) F0 G (Dd s) := by subst hm; exact (fun σ H F t hs ss =>
  h _ σ H F hs ss _ _ _ hP (fun xs s1 p H1 F1 t1 hs1 hm1 => by
    obtain ⟨o1, ho1, vs, rfl, h2⟩ := hs1.at (k := 0) rfl
    exact ⟨.inl ⟨rfl, vs, SqL.of ho1⟩, p, vs, rfl, rfl, ho1, q s1 hm1 σ _ F1 (t.trans t1) ((hs1.put (k := 0) (O' := OLT R []) (o := .lst []) rfl ⟨_, rfl, .nil⟩).drop (List.sublist_cons_self _ _)) (ss.mono t1)⟩)
    (fun n e hr H1 F1 t1 hs1 => w.err hr c σ H1 F1 (t.trans t1) hs1 (ss.mono t1)))
/-- zip of one's own list and a list that stands -/
theorem evItc_zipO {i j : Nat} {a : Addr} {xs : List α} {Ra : α → Ty} {Rb : β → Ty} {Mb : (List β → S → Res ε δ) → Res ε δ} (hi : G[i]? = some (some (Is (.ref a)))) (hk : ∀ s, (Dd s)[j]? = some (a, OLT Ra xs)) (hb : EvC K X De tb G Dd s Mb (LT K Rb)) :
    EvItC K X De (RZ.iZipA K (tCons (tVar i) (tCons tb tNil))) G Dd s (hasC a (OLT Ra xs)) (fun kk => Mb fun ys s2 => kk (List.zip xs ys) s2) (fun z => TU K [Ra z.1, Rb z.2]) := fun kk σ H F hs ss o r Q hm q qe => by
  obtain ⟨v, e1, e2⟩ := ss.get hi
  have ev : v = .ref a := e2
  subst ev
  refine ⟨_, e1, hb _ σ H F hs ss o r _ hm (fun ys s2 u H2 F2 t2 hs2 r2 hm2 => ?_) qe⟩
  obtain ⟨o1, ho, vs, rfl, hx⟩ := hs2.at (hk s2)
  obtain ⟨b, us, rfl, h3, h4⟩ := r2
  refine ⟨a, b, vs, us, rfl, .inl ⟨SqL.of ho, sqL_up hs2 h3, q _ s2 _ H2 F2 t2 hs2 (fun D H3 F3 c s3 hs3 i => ?_) hm2⟩⟩
  obtain ⟨_, o2, ho2, vs2, rfl, h2⟩ := hs3.own a _ c
  refine ⟨fun R hR => ?_, fun hi => ?_⟩
  · rw [List.getElem?_map] at hR
    cases e : (List.zip xs ys)[i]? with
    | none => rw [e] at hR; cases hR
    | some z =>
      rw [e] at hR
      cases hR
      obtain ⟨x, y, ex, ey, rx, ry⟩ := zip_get h2 (h4.mono s3) e
      have qa : SqL K H3 a vs2 := SqL.of ho2
      have qb : SqL K H3 b us := sqL_up hs3 (s3.seq h3)
      refine ⟨⟨vs2, us, x, y, qa, qb, ex, ey⟩, fun t H' hy => ?_⟩
      obtain ⟨T, x', y', rfl, hT, rfl, g1, g2⟩ := hy
      have k1 := g1 vs2 qa
      have k2 := g2 us qb
      rw [ex] at k1
      rw [ey] at k2
      cases k1
      cases k2
      have s4 : Same F3 (upd F3 T (.tup [x, y])) := same_new (hs3.free hT)
      exact ⟨_, s4, hs3.frz hT, _, _, rfl, SqT.of upd_same, .cons ((Ra z.1).mono s4 rx) (.cons ((Rb z.2).mono s4 ry) .nil)⟩
  · rw [List.length_map, List.length_zip] at hi
    refine ⟨vs2, us, SqL.of ho2, sqL_up hs3 (s3.seq h3), ?_⟩
    have l2 := h2.len
    have l4 := h4.len
    rw [List.length_map] at l2 l4
    omega
end
end TL

end
section
set_option Elab.async false
set_option linter.all false
set_option maxRecDepth 100000
set_option maxHeartbeats 1000000
/-! # dicts of data compared; a tuple's part at a place that is reckoned; d.pop of a cell that is written -/
namespace TL
open PySem PySem.Spec L2
inductive DEn (K : PySem.W.Frag) (H : Hp) : List (L2.Key × V) → List (L2.Key × PyData) → Prop
  | nil : DEn K H [] []
  | cons {k : L2.Key} {v : V} {d : PyData} {ks : List (L2.Key × V)} {es : List (L2.Key × PyData)} : L2.Dp K H v d → SeqAt.shaped d = true → DEn K H ks es → DEn K H ((k, v) :: ks) ((k, d) :: es)
def dval (es : List (L2.Key × PyData)) (k : L2.Key) : Option PyData := (es.find? fun e => decide (e.1 = k)).map (·.2)
def deqD (xs ys : List (L2.Key × PyData)) : Bool := xs.length == ys.length && xs.all fun p => match dval ys p.1 with
  | none => false
  | some y => PyData.eqv p.2 y
theorem DEn.len {K : PySem.W.Frag} {H : Hp} {ks : List (L2.Key × V)} {es : List (L2.Key × PyData)} (h : DEn K H ks es) : ks.length = es.length := by
  induction h with
  | nil => rfl
  | cons _ _ _ ih => simp [ih]
theorem DEn.val {K : PySem.W.Frag} {H : Hp} {ks : List (L2.Key × V)} {es : List (L2.Key × PyData)} (h : DEn K H ks es) (k : L2.Key) : (valV ks k = none ∧ dval es k = none) ∨ ∃ v d, valV ks k = some v ∧ dval es k = some d ∧ L2.Dp K H v d ∧ SeqAt.shaped d = true := by
  induction h with
  | nil => exact .inl ⟨rfl, rfl⟩
  | @cons k' v d ks es h1 h2 _ ih =>
    by_cases e : k' = k
    · exact .inr ⟨v, d, by simp [valV, e], by simp [dval, e], h1, h2⟩
    · rw [valV_neg (p := (k', v)) e, show dval ((k', d) :: es) k = dval es k by simp [dval, e]]
      exact ih
section
variable {X : Cx} {pins : List (Addr × Obj)} {σ : L2.St} {H : Hp} {s : Shared}
theorem hits_D (I : Inv X pins σ H s) {A : Around} (hu : A.in1.units + 64 < cLine) {ls : List (L2.Key × V)} {vb : List (L2.Key × Value)} {fs : List (L2.Key × PyData)} (rb : KV ls vb) (hl : DEn X.K H ls fs) {ks : List (L2.Key × V)} {va : List (L2.Key × Value)} {es : List (L2.Key × PyData)} (ra : KV ks va) (hk : DEn X.K H ks es) :
    PySem.W.KeqHits A.in1 s vb va (es.all fun p => match dval fs p.1 with
      | none => false
      | some y => PyData.eqv p.2 y) := by
  unfold KV at ra
  induction hk generalizing va with
  | nil => cases ra; exact .nil
  | @cons k v d ks es h1 h2 h3 ih =>
    cases ra with
    | @cons _ q _ qs h t =>
      obtain ⟨k', u⟩ := q
      obtain ⟨ek, ru⟩ := h
      have ek' : k = k' := ek
      subst ek'
      rw [List.all_cons]
      rcases hl.val k with ⟨n1, n2⟩ | ⟨y, d', n1, n2, n3, n4⟩
      · have z : valueAt vb k = none := by
          have := rb.val k
          rw [n1] at this
          cases e : valueAt vb k with
          | none => rfl
          | some w => rw [e] at this; exact this.elim
        rw [n2]
        simp only [Bool.false_and]
        exact .miss z
      · have rr : RelO (some y) (valueAt vb k) := by rw [← n1]; exact rb.val k
        obtain ⟨w, hw, rw_⟩ := rr.some_of
        rw [n2]
        dsimp only
        obtain ⟨as, r1⟩ := Dp.reads I d v u h1 ru
        obtain ⟨bs, r2⟩ := Dp.reads I d' y w n3 rw_
        exact .hit hw (PySem.W.keq_at r1 r2 h2 n4 hu) (ih t)
def rEqDD (K : PySem.W.Frag) : R2 := fun x y H Q => ∃ a b ks ls es fs, x = .ref a ∧ y = .ref b ∧ L2.Rd H a (.dK ks) ∧ L2.Rd H b (.dK ls) ∧ DEn K H ks es ∧ DEn K H ls fs ∧ Q (.bl (deqD es fs)) H
def rNeDD (K : PySem.W.Frag) : R2 := fun x y H Q => ∃ a b ks ls es fs, x = .ref a ∧ y = .ref b ∧ L2.Rd H a (.dK ks) ∧ L2.Rd H b (.dK ls) ∧ DEn K H ks es ∧ DEn K H ls fs ∧ Q (.bl (!deqD es fs)) H
theorem op_eqDD {k : Nat} (hr : Room k X.A) : OpR X (compareOp .Eq) (rEqDD X.K) := by
  intro pins s σ H x y v u Q I rx ry h
  obtain ⟨a, b, ks, ls, es, fs, rfl, rfl, ea, eb, h1, h2, q⟩ := h
  obtain rfl : v = Value.ref a := rx
  obtain rfl : u = Value.ref b := ry
  obtain ⟨_, ya, va, ra, da⟩ := dk_rd I.hok ea
  obtain ⟨_, yb, vb, rb, db⟩ := dk_rd I.hok eb
  have hu := hr.un
  have e : (va.length == vb.length && (es.all fun p => match dval fs p.1 with
      | none => false
      | some y => PyData.eqv p.2 y)) = deqD es fs := by
    unfold deqD
    rw [← ra.length, ← rb.length, h1.len, h2.len]
  exact PySem.W.keq_eq (knd := mixKind X.prog X.w) ya yb da db (by omega) (fun _ => hits_D I (by show X.A.units + 1 + 64 < _; omega) rb h2 ra h1) (fin_bl I q (by rw [e]))
theorem op_neDD {k : Nat} (hr : Room k X.A) : OpR X (compareOp .NotEq) (rNeDD X.K) := by
  intro pins s σ H x y v u Q I rx ry h
  obtain ⟨a, b, ks, ls, es, fs, rfl, rfl, ea, eb, h1, h2, q⟩ := h
  obtain rfl : v = Value.ref a := rx
  obtain rfl : u = Value.ref b := ry
  obtain ⟨_, ya, va, ra, da⟩ := dk_rd I.hok ea
  obtain ⟨_, yb, vb, rb, db⟩ := dk_rd I.hok eb
  have hu := hr.un
  have e : (va.length == vb.length && (es.all fun p => match dval fs p.1 with
      | none => false
      | some y => PyData.eqv p.2 y)) = deqD es fs := by
    unfold deqD
    rw [← ra.length, ← rb.length, h1.len, h2.len]
  exact PySem.W.keq_ne (knd := mixKind X.prog X.w) ya yb da db (by omega) (fun _ => hits_D I (by show X.A.units + 1 + 64 < _; omega) rb h2 ra h1) (fin_bl I q (by rw [e]))
end
/-- two dicts, whatever the order of their keys -/
def deq {κ α : Type} [DecidableEq κ] [DecidableEq α] (xs ys : List (κ × α)) : Bool := xs.length == ys.length && xs.all fun p => match dget ys p.1 with
  | none => false
  | some y => decide (p.2 = y)
section
variable {K : PySem.W.Frag} {ε ε' ρ α β γ δ S τ τ' σt ω κ : Type} [DecidableEq κ] {X : L2.St → XK} {De : ε → Own} {G G1 G2 : Sto} {D0 : Own} {Dd : S → Own} {s : S} {te ta tb tc tx : TE} {tt tu : TT} {F0 F1 : Hp} {E : Ends} {w : Wish K ε ρ} {t : TA} {n : Nat} {k : KeyE κ} {Rk : κ → Ty} {Rv : β → Ty}
omit [DecidableEq κ] in
theorem EntT.den {e : β → PyData} {m : Nat} {F H : Hp} {D : Own} (hs : HS D H F) (he : Enc e m) (hn : m ≤ 64) (hd : ∀ x, Dat K (Rv x) (e x)) {kvs : List (L2.Key × V)} {ms : List (κ × β)} (h : EntT k Rv F kvs ms) : DEn K H kvs (ms.map fun p => (k.f p.1, e p.2)) := by
  induction h with
  | nil => exact .nil
  | cons h _ ih => exact .cons (dp_up hs (hd _ _ _ h)) (he.shaped hn _) ih
theorem dval_map {e : β → PyData} (x : κ) : ∀ ms : List (κ × β), dval (ms.map fun p => (k.f p.1, e p.2)) (k.f x) = (dget ms x).map e
  | [] => rfl
  | p :: ms => by
    have ih := dval_map (e := e) x ms
    unfold dval dget at ih ⊢
    rw [List.map_cons, List.find?_cons, List.find?_cons]
    by_cases q : p.1 = x
    · simp [q]
    · have q' : ¬ k.f p.1 = k.f x := fun z => q (k.inj _ _ z)
      simp only [q, q', decide_false]
      exact ih
theorem deqD_map [DecidableEq β] {e : β → PyData} {m : Nat} (he : Enc e m) (xs ys : List (κ × β)) : deqD (xs.map fun p => (k.f p.1, e p.2)) (ys.map fun p => (k.f p.1, e p.2)) = deq xs ys := by
  unfold deqD deq
  rw [List.length_map, List.length_map, List.all_map]
  congr 1
  congr 1
  funext p
  simp only [Function.comp]
  rw [dval_map]
  cases dget ys p.1 with
  | none => rfl
  | some y => exact he.eq _ _
variable {R : α → Ty} {R' : γ → Ty} {f : α → List (κ × β)} {f' : γ → List (κ × β)} {Ma : (α → S → Res ε δ) → Res ε δ} {Mb : S → (γ → S → Res ε δ) → Res ε δ}
theorem dvw_rd (hv : DVw Dd R f k Rv) {a : α} {s : S} {x : V} {H F : Hp} (hs : HS (Dd s) H F) (r : (R a).p x F) : ∃ p kvs, x = .ref p ∧ EntT k Rv F kvs (f a) ∧ L2.Rd H p (.dK kvs) := by
  obtain ⟨p, kvs, e, h1, h2⟩ := hv a s x H F hs r
  rcases h2 with h2 | ⟨od, h2⟩
  · exact ⟨p, kvs, e, h1, .inl h2⟩
  · exact ⟨p, kvs, e, h1, .inr ⟨od, h2⟩⟩
theorem evc_eqD [DecidableEq β] {e : β → PyData} {m : Nat} (he : Enc e m) (hd : ∀ x, Dat K (Rv x) (e x)) (hv : DVw Dd R f k Rv) (hv' : DVw Dd R' f' k Rv) (ha : EvC K X De ta G Dd s Ma R) (hb : ∀ s1, EvC K X De tb G Dd s1 (Mb s1) R') (hn : m ≤ 64 := by decide) : EvC K X De (tOp (rEqDD K) ta tb) G Dd s (fun kk => Ma fun a s1 => Mb s1 fun b s2 => kk (deq (f a) (f' b)) s2) (tD K eB) := fun kk σ H F hs ss o r Q hm q qe =>
  ha _ σ H F hs ss o r _ hm (fun a s1 x H1 F1 t1 hs1 r1 hm1 => hb s1 _ σ H1 F1 hs1 (ss.mono t1) o r _ hm1
    (fun b s2 y H2 F2 t2 hs2 r2 hm2 => by
      obtain ⟨p, kvs, rfl, h1, h2⟩ := dvw_rd hv hs2 ((R a).mono t2 r1)
      obtain ⟨p', kvs', rfl, h1', h2'⟩ := dvw_rd hv' hs2 r2
      refine ⟨p, p', kvs, kvs', _, _, rfl, rfl, h2, h2', h1.den hs2 he hn hd, h1'.den hs2 he hn hd, ?_⟩
      rw [deqD_map he]
      exact q _ s2 _ H2 F2 (t1.trans t2) hs2 (.bl _) hm2)
    (fun n e h H2 F2 t2 => qe n e h H2 F2 (t1.trans t2))) qe
theorem evc_neD [DecidableEq β] {e : β → PyData} {m : Nat} (he : Enc e m) (hd : ∀ x, Dat K (Rv x) (e x)) (hv : DVw Dd R f k Rv) (hv' : DVw Dd R' f' k Rv) (ha : EvC K X De ta G Dd s Ma R) (hb : ∀ s1, EvC K X De tb G Dd s1 (Mb s1) R') (hn : m ≤ 64 := by decide) : EvC K X De (tOp (rNeDD K) ta tb) G Dd s (fun kk => Ma fun a s1 => Mb s1 fun b s2 => kk (!deq (f a) (f' b)) s2) (tD K eB) := fun kk σ H F hs ss o r Q hm q qe =>
  ha _ σ H F hs ss o r _ hm (fun a s1 x H1 F1 t1 hs1 r1 hm1 => hb s1 _ σ H1 F1 hs1 (ss.mono t1) o r _ hm1
    (fun b s2 y H2 F2 t2 hs2 r2 hm2 => by
      obtain ⟨p, kvs, rfl, h1, h2⟩ := dvw_rd hv hs2 ((R a).mono t2 r1)
      obtain ⟨p', kvs', rfl, h1', h2'⟩ := dvw_rd hv' hs2 r2
      refine ⟨p, p', kvs, kvs', _, _, rfl, rfl, h2, h2', h1.den hs2 he hn hd, h1'.den hs2 he hn hd, ?_⟩
      rw [deqD_map he]
      exact q _ s2 _ H2 F2 (t1.trans t2) hs2 (.bl _) hm2)
    (fun n e h H2 F2 t2 => qe n e h H2 F2 (t1.trans t2))) qe
/-! ## a tuple's part at a place that is reckoned -/
theorem evc_ixTd {Rs : α → List Ty} {R' : β → Ty} {f : α → List (Option β)} {Ma : (α → S → Res ε δ) → Res ε δ} {Mb : S → (Int → S → Res ε δ) → Res ε δ} (hf : ∀ x, (f x).length = (Rs x).length ∧ ∀ (j : Nat) (y : β), (f x)[j]? = some (some y) → (Rs x)[j]? = some (R' y)) (ha : EvC K X De ta G Dd s Ma (fun x => TU K (Rs x))) (hb : ∀ s1, EvC K X De tb G Dd s1 (Mb s1) (tD K eI)) :
    EvC K X De (tOp (rIx K) ta tb) G Dd s (fun kk => Ma fun x s1 => Mb s1 fun i s2 => Res.bind (Res.opt ((atI (f x) i).bind id)) fun z => kk z s2) R' := fun kk σ H F hs ss o r Q hm q qe =>
  ha _ σ H F hs ss o r _ hm (fun x s1 v H1 F1 t1 hs1 r1 hm1 => hb s1 _ σ H1 F1 hs1 (ss.mono t1) o r _ hm1
    (fun i s2 y H2 F2 t2 hs2 r2 hm2 => by
      have ey : y = .int i := dp_int r2
      subst ey
      obtain ⟨a, vs, rfl, h1, h2⟩ := (TU K (Rs x)).mono t2 r1
      obtain ⟨z, ez, hm3⟩ := Res.sat_opt hm2
      obtain ⟨oz, e1, e2⟩ := Option.bind_eq_some_iff.mp ez
      have e2' : oz = some z := e2
      subst e2'
      unfold atI at e1
      rw [(hf x).1, ← h2.len] at e1
      obtain ⟨j, ej, eg⟩ := Option.bind_eq_some_iff.mp e1
      obtain ⟨u, hu, ru⟩ := h2.get ((hf x).2 j z eg)
      exact .inr (.inl ⟨a, vs, i, u, rfl, rfl, sqT_up hs2 h1, by unfold atI; rw [ej]; exact hu, q z s2 u H2 F2 (t1.trans t2) hs2 ru hm3⟩))
    (fun n e h H2 F2 t2 => qe n e h H2 F2 (t1.trans t2))) qe
end
end TL

end
section
set_option Elab.async false
set_option linter.all false
set_option maxRecDepth 100000
set_option maxHeartbeats 1000000
/-! # d.pop beside other cells; d[k] = v where v or k change d -/
namespace TL
open PySem PySem.Spec L2
section
variable {K : PySem.W.Frag} {ε ε' ρ α β γ δ S τ τ' σt ω κ Ω : Type} [DecidableEq κ] {X : L2.St → XK} {De : ε → Own} {G G1 G2 : Sto} {D0 : Own} {Dd : S → Own} {s : S} {te ta tb tc tx : TE} {tt tu : TT} {F0 F1 : Hp} {E : Ends} {w : Wish K ε ρ} {t : TA} {n : Nat} {k : KeyE κ} {Rk : κ → Ty} {Rv : β → Ty}
theorem evc_dpopLL {j i : Nat} {a : Addr} {Dd : Ω → Own} {s : Ω} {gt : Ω → List (κ × β)} {st : Ω → List (κ × β) → Ω} {Mb : (κ → Ω → Res ε δ) → Res ε δ} (B : Bor Dd j a (OXT k Rv) gt st) (hkv : KeyV k Rk) (hi : G[i]? = some (some (Is (.ref a)))) (hb : EvC K X De tb G Dd s Mb Rk) :
    EvC K X De (tDPop1 (tVar i) tb) G Dd s (fun kk => Mb fun x s1 => Res.bind (Res.opt (dget (gt s1) x)) fun z => kk z (st s1 (ddrop (gt s1) x))) Rv := fun kk σ H F hs ss o r Q hm q qe => by
  obtain ⟨v, e1, e2⟩ := ss.get hi
  have ev : v = .ref a := e2
  subst ev
  obtain ⟨o1, ho1, kvs1, rfl, h1⟩ := hs.at (B.at_ s)
  refine ⟨_, e1, a, rfl, .inl ⟨kvs1, .inl ho1⟩, hb _ σ H F hs ss o r _ hm (fun x s1 u H1 F1 t1 hs1 r1 hm1 => ?_) qe⟩
  obtain ⟨d, ed, hm2⟩ := Res.sat_opt hm1
  obtain ⟨o2, ho2, kvs2, rfl, h2⟩ := hs1.at (B.at_ s1)
  have h2' : EntT k Rv F1 kvs2 (gt s1) := h2
  rcases h2'.get x with ⟨h3, _⟩ | ⟨d', v', h3, h4, h5⟩
  · rw [ed] at h3; cases h3
  · rw [ed] at h3
    cases h3
    refine ⟨kvs2, k.f x, v', ho2, hkv _ _ _ r1, h4, q d (st s1 (ddrop (gt s1) x)) v' _ F1 t1 ?_ h5 hm2⟩
    have z := hs1.put (O' := OXT k Rv (ddrop (gt s1) x)) (o := .dK (dropK kvs2 (k.f x))) (B.at_ s1) ⟨_, rfl, h2'.drop x⟩
    rw [B.set_ s1] at z
    exact z
theorem evc_dpop1 {j i : Nat} {a : Addr} {Dd : List (κ × β) → Own} {s : List (κ × β)} {Mb : (κ → List (κ × β) → Res ε δ) → Res ε δ} (B : Bor1 Dd j a (OXT k Rv)) (hkv : KeyV k Rk) (hi : G[i]? = some (some (Is (.ref a)))) (hb : EvC K X De tb G Dd s Mb Rk) :
    EvC (β := δ) K X De (tDPop1 (tVar i) tb) G Dd s (fun kk => Mb fun x s1 => Res.bind (Res.opt (dget s1 x)) fun z => kk z (ddrop s1 x)) Rv := evc_dpopT (kk' := Unit) B hkv hi hb
theorem go_dputS {m : S → List (κ × β)} {j : Nat} {a : Addr} {Ma : (β → S → Res ε ρ) → Res ε ρ} {Mi : S → (κ → S → Res ε ρ) → Res ε ρ} {kk : List (κ × β) × S → Res ε ρ} (hkv : KeyV k Rk) (ho : G[n]? = some (some (Is (.ref a)))) (h : EvC K w.X w.De te G Dd s Ma Rv) (hi : ∀ s1, EvC K w.X w.De tb G Dd s1 (Mi s1) Rk) (hk : ∀ s, (Dd s)[j]? = some (a, OXT k Rv (m s)))
    {mm : Res ε ρ} (hP : w.W F0 mm) (q : ∀ x, w.W F0 (kk x) → Go E.nx F0 G ((Dd x.2).set j (a, OXT k Rv x.1))) (c : w.cond G := by first | exact trivial | walk_at "cond") (hm : mm = (Ma fun v s1 => Mi s1 fun x s2 => Res.bind (Res.grd ((m s2).length < 100000) (dput (m s2) x v, s2)) kk) := by exact rfl) : Go (sDPut (tVar n) tb te E) F0 G (Dd s) := by subst hm; exact (fun σ H F t hs ss =>
  h _ σ H F hs ss _ _ _ hP (fun x s1 v H1 F1 t1 hs1 r1 hm => by
    obtain ⟨v0, e0, r0⟩ := ss.get ho
    have r0' : v0 = .ref a := r0
    subst r0'
    refine ⟨_, e0, hi s1 _ σ H1 F1 hs1 (ss.mono t1) _ _ _ hm (fun y s2 u H2 F2 t2 hs2 r2 hm2 => ?_) (fun n e hr H2 F2 t2 hs2 => w.err hr c σ H2 F2 ((t.trans t1).trans t2) hs2 ((ss.mono t1).mono t2))⟩
    obtain ⟨hl, hm3⟩ := Res.sat_grd hm2
    obtain ⟨o, ho, kvs, rfl, h2⟩ := hs2.at (hk s2)
    have l2 := h2.len
    refine ⟨a, _, rfl, by rw [hkv _ _ _ r2]; exact DPut.k (k := k.f y) ho (by rw [l2]; exact Nat.lt_of_lt_of_le hl sizeLine_big), ?_⟩
    exact q (dput (m s2) y x, s2) hm3 σ _ F2 ((t.trans t1).trans t2) (hs2.put (hk s2) ⟨_, rfl, h2.put ((Rv x).mono t2 r1)⟩) ((ss.mono t1).mono t2)) (fun n e hr H1 F1 t1 hs1 => w.err hr c σ H1 F1 (t.trans t1) hs1 (ss.mono t1)))
end
end TL

end
section
set_option Elab.async false
set_option linter.all false
set_option maxRecDepth 100000
set_option maxHeartbeats 1000000
/-! # slices of tuples whose parts are of many kinds; xs.reverse() -/
namespace TL
open PySem PySem.Spec L2
section
variable {K : PySem.W.Frag} {ε ε' ρ α β γ δ S τ τ' σt ω κ Ω : Type} {X : L2.St → XK} {De : ε → Own} {G G1 G2 : Sto} {D0 : Own} {Dd : S → Own} {s : S} {te ta tb tc tx : TE} {tt tu : TT} {F0 F1 : Hp} {E : Ends} {w : Wish K ε ρ} {t : TA} {n : Nat} {Rk : κ → Ty} {Rv : β → Ty}
theorem evc_slT {Rs : α → List Ty} {Rs' : γ → List Ty} {f : α → γ} {lo hi : Option Int} {Ma : (α → S → Res ε δ) → Res ε δ} {tl th : TO} (he : ∀ x, cutL (Rs x) lo hi = Rs' (f x)) (ha : EvC K X De te G Dd s Ma (fun x => TU K (Rs x))) (hl : ∀ s1, EvOC K X De tl G Dd s1 (fun (kk : Option Int → S → Res ε δ) => kk lo s1)) (hh : ∀ s1, EvOC K X De th G Dd s1 (fun (kk : Option Int → S → Res ε δ) => kk hi s1)) :
    EvC K X De (tSl (rSlP K) te tl th) G Dd s (fun kk => Ma fun x s1 => kk (f x) s1) (fun y => TU K (Rs' y)) := fun kk σ H F hs ss o r Q hm q qe =>
  ha _ σ H F hs ss o r _ hm (fun x s1 v H1 F1 t1 hs1 r1 hm1 => hl s1 (fun l s2 => if l = lo then kk (f x) s2 else .stuck) σ H1 F1 hs1 (ss.mono t1) o r _ (by show (if lo = lo then _ else _ : Res ε δ).sat o r; rw [if_pos rfl]; exact hm1) (fun lo' s2 H2 F2 t2 hs2 hm2 => by
    by_cases e1 : lo' = lo
    case neg =>
      have hm2' : (if lo' = lo then kk (f x) s2 else Res.stuck : Res ε δ).sat o r := hm2
      rw [if_neg e1] at hm2'
      exact hm2'.elim
    case pos =>
    have hm2' : (if lo' = lo then kk (f x) s2 else Res.stuck : Res ε δ).sat o r := hm2
    rw [if_pos e1] at hm2'
    subst e1
    refine hh s2 (fun l s3 => if l = hi then kk (f x) s3 else .stuck) σ H2 F2 hs2 ((ss.mono t1).mono t2) o r _ (by show (if hi = hi then _ else _ : Res ε δ).sat o r; rw [if_pos rfl]; exact hm2') (fun hi' s3 H3 F3 t3 hs3 hm3 => ?_) (fun n e h H3 F3 t3 => qe n e h H3 F3 ((t1.trans t2).trans t3))
    by_cases e2 : hi' = hi
    case neg =>
      have hm3' : (if hi' = hi then kk (f x) s3 else Res.stuck : Res ε δ).sat o r := hm3
      rw [if_neg e2] at hm3'
      exact hm3'.elim
    case pos =>
    have hm3' : (if hi' = hi then kk (f x) s3 else Res.stuck : Res ε δ).sat o r := hm3
    rw [if_pos e2] at hm3'
    subst e2
    obtain ⟨p, vs, e0, h1, h2⟩ := (TU K (Rs x)).mono (t2.trans t3) r1
    have h2' : AllP F3 ((Rs x).map id) vs := by rw [List.map_id]; exact h2
    have hc := allP_cut h2' lo' hi'
    rw [List.map_id, he] at hc
    refine ⟨p, vs, e0, sqT_up hs3 h1, fun hw => ?_, fun hw u ob hu hd => ?_⟩
    · have ec : cutV vs lo' hi' = vs := by
        unfold cutV
        rw [hw.1, hw.2]
        simp
      rw [ec] at hc
      exact q _ s3 _ H3 F3 ((t1.trans t2).trans t3) hs3 ⟨p, vs, rfl, h1, hc⟩ hm3'
    · have s4 : Same F3 (upd F3 u (.frz ob (.tup (cutV vs lo' hi')))) := same_new (hs3.free hu)
      exact q _ s3 _ _ _ (((t1.trans t2).trans t3).trans s4) (hs3.frz hu) ⟨u, _, rfl, PuT.sq (.inl ⟨ob, upd_same, hd⟩), hc.mono s4⟩ hm3')
    (fun n e h H2 F2 t2 => qe n e h H2 F2 (t1.trans t2))) qe
theorem enc_4 {α β γ δ : Type} {f : α → PyData} {g : β → PyData} {h : γ → PyData} {i : δ → PyData} {n m k l : Nat} (hf : Enc f n) (hg : Enc g m) (hh : Enc h k) (hi : Enc i l) : Enc (e4 f g h i) (max n (max m (max k l)) + 1) := ⟨fun x => by
    show (PyData.canLay0 (f x.1) && (PyData.canLay0 (g x.2.1) && (PyData.canLay0 (h x.2.2.1) && (PyData.canLay0 (i x.2.2.2) && true)))) = true
    rw [hf.lay, hg.lay, hh.lay, hi.lay]; rfl, fun x => by
    have h1 := hf.dep x.1
    have h2 := hg.dep x.2.1
    have h3 := hh.dep x.2.2.1
    have h4 := hi.dep x.2.2.2
    show max (f x.1).depth (max (g x.2.1).depth (max (h x.2.2.1).depth (max (i x.2.2.2).depth 0))) + 1 ≤ _
    omega, fun x y => by
    show (PyData.eqv (f x.1) (f y.1) && (PyData.eqv (g x.2.1) (g y.2.1) && (PyData.eqv (h x.2.2.1) (h y.2.2.1) && (PyData.eqv (i x.2.2.2) (i y.2.2.2) && true)))) = true ↔ _
    simp only [Bool.and_eq_true, Bool.and_true, hf.inj, hg.inj, hh.inj, hi.inj]
    exact ⟨fun h => Prod.ext h.1 (Prod.ext h.2.1 (Prod.ext h.2.2.1 h.2.2.2)), fun h => by rw [h]; exact ⟨rfl, rfl, rfl, rfl⟩⟩⟩
theorem go_revC {R : α → Ty} {xs : List α} {k : Nat} {a : Addr} {kk : List α × Unit → Res ε ρ} (ho : G[n]? = some (some (Is (.ref a)))) (hk : D0[k]? = some (a, OLT R xs))
    {m : Res ε ρ} (hP : w.W F0 m) (q : ∀ x, w.W F0 (kk x) → Go E.nx F0 G (D0.set k (a, OLT R x.1))) (hm : m = Res.bind (.ok (xs.reverse, ())) kk := by exact rfl) : Go (tDrop (tBM0 K "list" rReverse (tVar n)) E) F0 G D0 := by subst hm; exact (fun σ H F t hs ss => by
  obtain ⟨v0, e0, r0⟩ := ss.get ho
  have r0' : v0 = .ref a := r0
  subst r0'
  obtain ⟨o1, ho1, vs, rfl, h2⟩ := hs.at hk
  have h3 : AllP F (xs.reverse.map R) vs.reverse := allP_rev h2
  refine ⟨_, e0, .inl ⟨rfl, vs, SqL.of ho1⟩, a, vs, rfl, rfl, ho1, ?_⟩
  exact q (xs.reverse, ()) hP σ _ F t (hs.put (O' := OLT R xs.reverse) (o := .lst vs.reverse) hk ⟨_, rfl, h3⟩) ss)
end
end TL
namespace TL
open PySem PySem.Spec L2
section
variable {K : PySem.W.Frag} {ε ρ α β γ δ S : Type} {X : L2.St → XK} {De : ε → Own} {G : Sto} {Dd : S → Own} {s : S} {te : TE}
theorem eQ_pair {a b : Int} {r : Rat} (h : mkQ a b = some r) : eQ r = e2 eI eI (a, b) := by
  obtain ⟨h1, h2⟩ := mkQ_some h
  subst h1
  subst h2
  rfl
/-- a pair of whole numbers in lowest terms is a number -/
theorem evc_pairQ {M : (Int × Int → S → Res ε δ) → Res ε δ} (h : EvC K X De te G Dd s M (tD K (e2 eI eI))) : EvC K X De te G Dd s (fun kk => M fun x s1 => Res.bind (Res.opt (mkQ x.1 x.2)) fun z => kk z s1) (tD K eQ) := fun kk σ H F hs ss o r Q hm q qe =>
  h _ σ H F hs ss o r _ hm (fun x s1 v H1 F1 t1 hs1 r1 hm1 => by
    obtain ⟨z, ez, hm2⟩ := Res.sat_opt hm1
    refine q z s1 v H1 F1 t1 hs1 ?_ hm2
    have e : eQ z = e2 eI eI x := eQ_pair ez
    show (tD K eQ z).p v F1
    unfold tD at r1 ⊢
    rw [e]
    exact r1) qe
end
end TL
namespace TL
open PySem PySem.Spec L2
/-- a thing of one of two kinds -/
def SU {α β : Type} (R : α → Ty) (R' : β → Ty) : α ⊕ β → Ty
  | .inl a => R a
  | .inr b => R' b
section
variable {K : PySem.W.Frag} {ε ρ α β γ δ S : Type} {X : L2.St → XK} {De : ε → Own} {G : Sto} {Dd : S → Own} {s : S} {te : TE}
theorem evc_prj {R : α → Ty} {R' : β → Ty} (f : α → Option β) {M : (α → S → Res ε δ) → Res ε δ} (h : EvC K X De te G Dd s M R) (hf : ∀ x y v F, f x = some y → (R x).p v F → (R' y).p v F) : EvC K X De te G Dd s (fun kk => M fun x s1 => Res.bind (Res.opt (f x)) fun z => kk z s1) R' := fun kk σ H F hs ss o r Q hm q qe =>
  h _ σ H F hs ss o r _ hm (fun x s1 v H1 F1 t1 hs1 r1 hm1 => by
    obtain ⟨z, ez, hm2⟩ := Res.sat_opt hm1
    exact q z s1 v H1 F1 t1 hs1 (hf x z v F1 ez r1) hm2) qe
end
end TL

end
section
set_option Elab.async false
set_option linter.all false
set_option maxRecDepth 100000
set_option maxHeartbeats 1000000
/-! # x *= i; sum(xs); lists whose items are dicts or data compared -/
namespace TL
open PySem PySem.Spec L2
def ipMul : TIp := fun x y H Q => ∃ i j, x = .int i ∧ y = .int j ∧ CMulW i j ∧ Q (.int (i * j)) H
section
variable {X : Cx}
theorem ip_mul : PIp X .Mult ipMul := by
  intro pins s σ H x y v u Q I r1 r2 h
  obtain ⟨i, j, e1, e2, hc, q⟩ := h
  subst e1; subst e2
  obtain ⟨t, rfl⟩ := r1
  obtain ⟨t', rfl⟩ := r2
  exact PyProof.Rows.imul_int ⟨.int _, H, I.tok _, ⟨_, rfl⟩, q⟩ hc.ok
def ipAdd : TIp := ipI fun i j => i + j
theorem ip_addI : PIp X .Add ipAdd := ip_add
end
section
variable {K : PySem.W.Frag} {ε ρ α β γ δ S : Type} {X : L2.St → XK} {De : ε → Own} {G : Sto} {D0 : Own} {Dd : S → Own} {s : S} {te ta tb : TE} {F0 : Hp} {E : Ends} {w : Wish K ε ρ} {n : Nat}
theorem go_augMul {x0 : Int} {M : (Int → S → Res ε ρ) → Res ε ρ} {kk : Int × S → Res ε ρ} (ho : G[n]? = some (some (tD K eI x0))) (h : EvC K w.X w.De te G Dd s M (tD K eI))
    {mm : Res ε ρ} (hP : w.W F0 mm) (q : ∀ x, w.W F0 (kk x) → Go E.nx F0 (G.set n (some (tD K eI x.1))) (Dd x.2)) (c : w.cond G := by first | exact trivial | walk_at "cond") (hm : mm = (M fun v s1 => Res.bind (Res.grd (CMulW x0 v) (x0 * v)) fun z => Res.bind (.ok (z, s1)) kk) := by exact rfl) : Go (tAug n te ipMul E) F0 G (Dd s) := by subst hm; exact (fun σ H F t hs ss => by
  obtain ⟨v0, e0, r0⟩ := ss.get ho
  have ev0 : v0 = .int x0 := dp_int r0
  subst ev0
  refine ⟨_, e0, h _ σ H F hs ss _ _ _ hP (fun x s1 v H1 F1 t1 hs1 r1 hm => ?_) (fun n e hr H1 F1 t1 hs1 => w.err hr c σ H1 F1 (t.trans t1) hs1 (ss.mono t1))⟩
  have ev : v = .int x := dp_int r1
  subst ev
  obtain ⟨hc, hm2⟩ := Res.sat_grd hm
  exact ⟨x0, x, rfl, rfl, hc, q (x0 * x, s1) hm2 _ H1 F1 (t.trans t1) hs1 ((ss.mono t1).set (R := tD K eI (x0 * x)) (.int _) n)⟩)
theorem go_augAdd {x0 : Int} {M : (Int → S → Res ε ρ) → Res ε ρ} {kk : Int × S → Res ε ρ} (ho : G[n]? = some (some (tD K eI x0))) (h : EvC K w.X w.De te G Dd s M (tD K eI))
    {mm : Res ε ρ} (hP : w.W F0 mm) (q : ∀ x, w.W F0 (kk x) → Go E.nx F0 (G.set n (some (tD K eI x.1))) (Dd x.2)) (c : w.cond G := by first | exact trivial | walk_at "cond") (hm : mm = (M fun v s1 => Res.bind (.ok (x0 + v, s1)) kk) := by exact rfl) : Go (tAug n te ipAdd E) F0 G (Dd s) := by subst hm; exact (fun σ H F t hs ss => by
  obtain ⟨v0, e0, r0⟩ := ss.get ho
  have ev0 : v0 = .int x0 := dp_int r0
  subst ev0
  refine ⟨_, e0, h _ σ H F hs ss _ _ _ hP (fun x s1 v H1 F1 t1 hs1 r1 hm => ?_) (fun n e hr H1 F1 t1 hs1 => w.err hr c σ H1 F1 (t.trans t1) hs1 (ss.mono t1))⟩
  have ev : v = .int x := dp_int r1
  subst ev
  exact ⟨x0, x, rfl, rfl, q (x0 + x, s1) hm _ H1 F1 (t.trans t1) hs1 ((ss.mono t1).set (R := tD K eI (x0 + x)) (.int _) n)⟩)
theorem ints_of {F : Hp} : ∀ {xs : List Int} {vs : List V}, AllP F (xs.map (tD K eI)) vs → vs = xs.map V.int
  | [], _, h => by cases h; rfl
  | x :: xs, _, h => by
    cases h with
    | cons h1 h2 => rw [dp_int h1, ints_of h2]; rfl
theorem evc_sum {M : (List Int → S → Res ε δ) → Res ε δ} (ha : EvC K X De ta G Dd s M (LT K (tD K eI))) : EvC K X De (tCB (rSum K) (tCons ta tNil)) G Dd s (fun kk => M fun xs s1 => kk xs.sum s1) (tD K eI) := by
  have h1 := evac_cons (β := δ) ha fun _ => evac_nil
  refine evc_CB h1 (g := fun a => a.1.sum) fun a s2 vs H F hs r Q q => ?_
  obtain ⟨v, rfl, h1⟩ := allP1 r
  obtain ⟨p, us, rfl, h2, h3⟩ := h1
  have e := ints_of h3
  subst e
  exact ⟨p, a.1, rfl, sqL_up hs h2, q _ H F (Same.refl _) hs (.int _)⟩
/-! chains whose last part asks -/
theorem evc_chainM {g g' : Int → Int → Bool} {Mi : (Int → S → Res ε δ) → Res ε δ} {Mj : S → (Int → S → Res ε δ) → Res ε δ} {Mk : S → (Int → S → Res ε (Bool × S)) → Res ε (Bool × S)} {tc : TE}
    (ha : EvC K X De ta G Dd s Mi (tD K eI)) (hb : ∀ s1, EvC K X De tb G Dd s1 (Mj s1) (tD K eI)) (hc : ∀ s1, EvC (β := Bool × S) K X De tc G Dd s1 (Mk s1) (tD K eI)) :
    EvC K X De (tChain (rI0 fun i j => .bl (g i j)) (rI0 fun i j => .bl (g' i j)) ta tb tc) G Dd s (fun kk => Mi fun a s1 => Mj s1 fun b s2 => Res.bind (if g a b = true then Mk s2 (fun c s3 => .ok (g' b c, s3)) else .ok (false, s2)) fun t => kk t.1 t.2) (tD K eB) := fun kk σ H F hs ss o rr Q hm q qe =>
  ha _ σ H F hs ss o rr _ hm (fun a s1 x H1 F1 t1 hs1 r1 hm1 => hb s1 _ σ H1 F1 hs1 (ss.mono t1) o rr _ hm1
    (fun b s2 y H2 F2 t2 hs2 r2 hm2 => by
      refine ⟨a, b, dp_int r1, dp_int r2, g a b, rfl, ?_⟩
      cases e : g a b with
      | false =>
        have hm3 : (Res.bind (if g a b = true then Mk s2 (fun c s3 => .ok (g' b c, s3)) else .ok (false, s2)) fun t => kk t.1 t.2).sat o rr := hm2
        rw [e, if_neg (by decide)] at hm3
        exact q false s2 _ H2 F2 (t1.trans t2) hs2 (.bl _) hm3
      | true =>
        have hm3 : (Res.bind (if g a b = true then Mk s2 (fun c s3 => .ok (g' b c, s3)) else .ok (false, s2)) fun t => kk t.1 t.2).sat o rr := hm2
        rw [e, if_pos rfl, Res.sat_bind] at hm3
        refine hc s2 (fun c s3 => .ok (g' b c, s3)) σ H2 F2 hs2 ((ss.mono t1).mono t2) (fun t => (kk t.1 t.2).sat o rr) rr _ hm3 (fun z s3 u H4 F4 t4 hs4 r4 hm4 => ?_) (fun n e h H2 F2 t4 => qe n e h H2 F2 ((t1.trans t2).trans t4))
        exact ⟨b, z, dp_int r2, dp_int r4, q (g' b z) s3 _ H4 F4 ((t1.trans t2).trans t4) hs4 (.bl _) hm4⟩)
    (fun n e h H2 F2 t2 => qe n e h H2 F2 (t1.trans t2))) (fun n e h H1 F1 t1 => qe n e h H1 F1 t1)
end
end TL

end
section
set_option Elab.async false
set_option linter.all false
set_option maxRecDepth 100000
set_option maxHeartbeats 1000000
/-! # lists whose items are dicts or data compared, == and != -/
namespace TL
open PySem PySem.Spec L2
inductive EqV (K : PySem.W.Frag) (H : Hp) : V → V → Bool → Prop
  | dat {v u : V} {d e : PyData} : L2.Dp K H v d → L2.Dp K H u e → SeqAt.shaped d = true → SeqAt.shaped e = true → EqV K H v u (PyData.eqv d e)
  | dic {a b : Addr} {ks ls : List (L2.Key × V)} {es fs : List (L2.Key × PyData)} : L2.Rd H a (.dK ks) → L2.Rd H b (.dK ls) → DEn K H ks es → DEn K H ls fs → EqV K H (.ref a) (.ref b) (deqD es fs)
inductive EqVs (K : PySem.W.Frag) (H : Hp) : List V → List V → List Bool → Prop
  | nil : EqVs K H [] [] []
  | cons {v u : V} {vs us : List V} {b : Bool} {bs : List Bool} : EqV K H v u b → EqVs K H vs us bs → EqVs K H (v :: vs) (u :: us) (b :: bs)
theorem rd_fun {H : Hp} {a : Addr} {ks ls : List (L2.Key × V)} (h : L2.Rd H a (.dK ks)) (h' : L2.Rd H a (.dK ls)) : ks = ls := by
  rcases h with h | ⟨o, h⟩ <;> rcases h' with h' | ⟨o', h'⟩ <;> rw [h] at h' <;> cases h' <;> rfl
theorem DEn.keys {K : PySem.W.Frag} {H : Hp} {ks : List (L2.Key × V)} {es : List (L2.Key × PyData)} (h : DEn K H ks es) : es.map (·.1) = ks.map (·.1) := by
  induction h with
  | nil => rfl
  | cons _ _ _ ih => simp [ih]
theorem DEn.lay {K : PySem.W.Frag} {H : Hp} {ks : List (L2.Key × V)} {es : List (L2.Key × PyData)} (h : DEn K H ks es) : ∀ p ∈ es, SeqAt.shaped p.2 = true := by
  induction h with
  | nil => intro p hp; cases hp
  | cons _ h2 _ ih =>
    intro p hp
    rcases List.mem_cons.mp hp with rfl | hp
    · exact h2
    · exact ih p hp
section
variable {X : Cx} {pins : List (Addr × Obj)} {σ : L2.St} {H : Hp} {s : Shared}
theorem den_fun (I : Inv X pins σ H s) {ks : List (L2.Key × V)} {va : List (L2.Key × Value)} (ra : KV ks va) {es : List (L2.Key × PyData)} (h : DEn X.K H ks es) : ∀ {fs : List (L2.Key × PyData)}, DEn X.K H ks fs → es = fs := by
  unfold KV at ra
  induction h generalizing va with
  | nil => intro fs h'; cases h'; rfl
  | @cons k v d ks es h1 h2 h3 ih =>
    intro fs h'
    cases h' with
    | @cons _ _ d' _ fs g1 g2 g3 =>
      cases ra with
      | @cons _ q _ qs hq t =>
        obtain ⟨as, r1⟩ := Dp.reads I d v q.2 h1 hq.2
        obtain ⟨bs, r2⟩ := Dp.reads I d' v q.2 g1 hq.2
        have e := (PySem.Reads.unique r1 d' bs r2).1
        rw [e, ih t g3]
theorem deq_same {es : List (L2.Key × PyData)} (nd : (es.map (·.1)).Nodup) (hs : ∀ p ∈ es, SeqAt.shaped p.2 = true) : deqD es es = true := by
  unfold deqD
  rw [Bool.and_eq_true]
  refine ⟨by simp, List.all_eq_true.mpr fun p hp => ?_⟩
  have g : dval es p.1 = some p.2 := by
    clear hs
    induction es with
    | nil => cases hp
    | cons q es ih =>
      rw [List.map_cons, List.nodup_cons] at nd
      unfold dval at ih ⊢
      rw [List.find?_cons]
      rcases List.mem_cons.mp hp with rfl | hp'
      · simp
      · have ne : q.1 ≠ p.1 := fun e => nd.1 (e ▸ List.mem_map_of_mem hp')
        simp only [ne, decide_false]
        exact ih nd.2 hp'
  rw [g]
  exact SeqAt.eqv_refl _ (SeqAt.canLay_of_shaped (hs p hp))
theorem eqP_V (I : Inv X pins σ H s) {A : Around} (hu : A.units + 80 < cLine) {v u : V} {x y : Value} {b : Bool} (rx : RelV v x) (ry : RelV u y) (h : EqV X.K H v u b) : SeqAt.EqP X.prog X.w A.in1 s x y b := by
  cases h with
  | dat h1 h2 s1 s2 =>
    obtain ⟨as, r1⟩ := Dp.reads I _ v x h1 rx
    obtain ⟨bs, r2⟩ := Dp.reads I _ u y h2 ry
    exact SeqAt.EqAt.eqP (PySem.W.keq_at r1 r2 s1 s2 (by show A.units + 1 + 64 < _; omega))
  | @dic a c ks ls es fs ea eb h1 h2 =>
    obtain rfl : x = Value.ref a := rx
    obtain rfl : y = Value.ref c := ry
    obtain ⟨_, ya, va, ra, da⟩ := dk_rd I.hok ea
    obtain ⟨_, yb, vb, rb, db⟩ := dk_rd I.hok eb
    by_cases hab : a = c
    · subst hab
      have e1 := rd_fun ea eb
      subst e1
      have e2 := den_fun I ra h1 h2
      subst e2
      have nd : (es.map (·.1)).Nodup := by
        rw [h1.keys, ra.keys]
        obtain ⟨_, _, _, _, _, _, _, _, nd⟩ := da
        exact nd
      rw [deq_same nd h1.lay]
      exact SeqAt.EqAt.eqP (SeqAt.EqAt.same _)
    · refine SeqAt.eqP_refs hab fun E Q hq => ?_
      have e : (va.length == vb.length && (es.all fun p => match dval fs p.1 with
          | none => false
          | some y => PyData.eqv p.2 y)) = deqD es fs := by
        unfold deqD
        rw [← ra.length, ← rb.length, h1.len, h2.len]
        all_goals rfl
      exact PySem.W.keq_eq (knd := mixKind X.prog X.w) ya yb da db (by show A.units + 1 < _; omega) (fun _ => hits_D I (A := A.in1) (by show A.units + 1 + 1 + 64 < _; omega) rb h2 ra h1) ((congrArg (fun b => Q (.bool b) s) e).mpr hq)
end
end TL

namespace PySem.SeqAt
open AutoSeq1 (wpAny_loadPart')
open MeetsSeq MeetsSeq2 MeetsSeq3 SeqRoads2
section
variable {prog : Program} {w : World}
/-- the loop behind xs != ys, its items compared within one model -/
theorem neL_loop (l b : Addr) (xs ys : Array Value) (n n2 : Nat) (dd dd2 : Option Addr) (sl sl2 : Array (Option Value)) (hz : xs.size = ys.size) (e : Nat → Bool) (k : Nat) :
    ∀ i : Nat, xs.size - i = k → MeetsIn prog w (Builtin.«list.__eq__.loop» ⟨[.ref l, .ref b, rawInt i, rawInt 3], []⟩)
      (fun A R s => s.heap.get? l = some { cls := .type "list", dict := dd, data := .seq xs n, slots := sl } ∧ s.heap.get? b = some { cls := .type "list", dict := dd2, data := .seq ys n2, slots := sl2 } ∧
        (∀ j (h1 : j < xs.size) (h2 : j < ys.size), EqP prog w A.in1 s xs[j] ys[j] (e j)) ∧ R (.ok (.ret (.bool (!((List.range xs.size).drop i).all e)))) s) := by
  induction k with
  | zero =>
    intro i hk A R s h
    obtain ⟨hp, g, d, tk, os⟩ := s; obtain ⟨hl, hb, he, h⟩ := h
    wp_walk using wpAny_loadPart' hl, wpAny_loadPart' hb
    have a1 : xs[((i : Nat) : Int).toNat]? = none := by simp; omega
    have a2 : ys[((i : Nat) : Int).toNat]? = none := by simp; omega
    have hd : (List.range xs.size).drop i = [] := by simp; omega
    rw [hd] at h
    rw [a1, a2]
    wp_walk using wpAny_loadPart' hl, wpAny_loadPart' hb
    show R (.ok (.ret (.bool (xs.size != ys.size)))) _
    rw [hz]
    simpa using h
  | succ k ih =>
    intro i hk A R s h
    obtain ⟨hp, g, d, tk, os⟩ := s; obtain ⟨hl, hb, he, h⟩ := h
    wp_walk using wpAny_loadPart' hl, wpAny_loadPart' hb
    have lt1 : i < xs.size := by omega
    have lt2 : i < ys.size := by omega
    have a1 : xs[((i : Nat) : Int).toNat]? = some xs[i] := by simp [lt1]
    have a2 : ys[((i : Nat) : Int).toNat]? = some ys[i] := by simp [lt2]
    have hd : (List.range xs.size).drop i = i :: (List.range xs.size).drop (i + 1) := by simp [List.drop_eq_getElem_cons, lt1]
    have hc : ((i : Int) + 1) = ((i + 1 : Nat) : Int) := by push_cast; rfl
    rw [hd, List.all_cons] at h
    rw [a1, a2]
    refine wpAny_bind (he i lt1 lt2 _ _ ?_)
    cases hb' : e i with
    | true =>
      rw [hb'] at h
      wp_walk
      rw [hc]
      exact ⟨plainId_quiet plain_eq_loop _, codeAny_builtin entry_eq_loop (by
        rw [Around.under_plainId plain_eq_loop _]
        exact ih (i + 1) (by omega) A R _ ⟨hl, hb, he, by simpa using h⟩)⟩
    | false =>
      rw [hb'] at h
      wp_walk using wpAny_loadPart' hl, wpAny_loadPart' hb
      rw [a1, a2]
      wp_walk
      simpa using h
theorem neL_in (l b : Addr) (xs ys : Array Value) (n n2 : Nat) (dd dd2 : Option Addr) (sl sl2 : Array (Option Value)) (hz : xs.size = ys.size) (e : Nat → Bool) :
    MeetsIn prog w (Builtin.«list.__ne__» ⟨[.ref l, .ref b], []⟩)
      (fun A R s => s.heap.get? l = some { cls := .type "list", dict := dd, data := .seq xs n, slots := sl } ∧ s.heap.get? b = some { cls := .type "list", dict := dd2, data := .seq ys n2, slots := sl2 } ∧
        (∀ j (h1 : j < xs.size) (h2 : j < ys.size), EqP prog w A.in1 s xs[j] ys[j] (e j)) ∧ R (.ok (.ret (.bool (!(List.range xs.size).all e)))) s) := by
  intro A R s h
  obtain ⟨hp, g, d, tk, os⟩ := s; obtain ⟨hl, hb, he, h⟩ := h
  have f3 := AutoSeq1.sub_list_list
  have hne : ¬ (xs.size != ys.size) = true := by simp [hz]
  wp_walk using wpAny_loadPart' hl, wpAny_loadPart' hb
  exact ⟨plainId_quiet plain_eq_loop _, codeAny_builtin entry_eq_loop (by
    rw [Around.under_plainId plain_eq_loop _]
    exact neL_loop l b xs ys n n2 dd dd2 sl sl2 hz e _ 0 rfl A R _ ⟨hl, hb, he, by simpa using h⟩)⟩
theorem rcneP_lists {A : Around} {s : Shared} {l b : Addr} {xs ys : Array Value} {e : Nat → Bool} (hl : s.heap.IsList l xs) (hb : s.heap.IsList b ys) (hz : xs.size = ys.size) (hu : A.units < cLine)
    (he : ∀ j (h1 : j < xs.size) (h2 : j < ys.size), EqP prog w A.in1 s xs[j] ys[j] (e j)) (E Q : Value → Shared → Prop) (h : Q (.bool (!(List.range xs.size).all e)) s) : wpAny (model prog w) A (richCompare .NotEq (.ref l) (.ref b)) Q E s := by
  obtain ⟨⟨cls, dd, data, sl⟩, ho, hc, n, hd⟩ := id hl
  obtain ⟨⟨cls2, dd2, data2, sl2⟩, ho2, hc2, n2, hd2⟩ := id hb
  simp only at hc hd hc2 hd2
  subst hc hd hc2 hd2
  have ta : s.TypeIs (.ref l) "list" := ⟨_, ho, rfl⟩
  have tb : s.TypeIs (.ref b) "list" := ⟨_, ho2, rfl⟩
  exact wpAny_richCompare_same_room (op := .NotEq) ta tb F.slot_list_ne (call_meetsIn F.slot_list_ne ta F.entry_list_ne (F.args_list_ne_2 _ _) (neL_in l b xs ys n n2 dd dd2 sl sl2 hz e)
    ⟨ho, ho2, he, show Value.bool (!(List.range xs.size).all e) ≠ Value.notImplemented ∧ Q (.bool (!(List.range xs.size).all e)) s from ⟨(fun x => nomatch x), h⟩⟩) hu
end
end PySem.SeqAt
namespace TL
open PySem PySem.Spec L2
theorem EqVs.len {K : PySem.W.Frag} {H : Hp} {xs ys : List V} {bs : List Bool} (h : EqVs K H xs ys bs) : xs.length = ys.length ∧ xs.length = bs.length := by
  induction h with
  | nil => exact ⟨rfl, rfl⟩
  | cons _ _ ih => exact ⟨by rw [List.length_cons, List.length_cons, ih.1], by rw [List.length_cons, List.length_cons, ih.2]⟩
theorem EqVs.at_ {K : PySem.W.Frag} {H : Hp} {xs ys : List V} {bs : List Bool} (h : EqVs K H xs ys bs) : ∀ {j : Nat} {x y : V}, xs[j]? = some x → ys[j]? = some y → EqV K H x y (bs.getD j true) := by
  induction h with
  | nil => intro j x y h; simp at h
  | @cons v u vs us b bs h1 _ ih =>
    intro j x y hx hy
    cases j with
    | zero => cases hx; cases hy; exact h1
    | succ j => exact ih hx hy
theorem vals_at {xs : List V} {us : List Value} {i : Nat} (r : Vals xs us) (h : i < xs.length) (h' : i < us.length) : RelV xs[i] us[i] := by
  obtain ⟨u, e, ru⟩ := Vals.get r (List.getElem?_eq_getElem h)
  rw [List.getElem?_eq_getElem h'] at e
  cases e
  exact ru
def rEqLL (K : PySem.W.Frag) : R2 := fun x y H Q => ∃ a b xs ys, x = .ref a ∧ y = .ref b ∧ SqL K H a xs ∧ SqL K H b ys ∧ ((xs.length ≠ ys.length ∧ Q (.bl false) H) ∨ ∃ bs, EqVs K H xs ys bs ∧ Q (.bl (bs.all id)) H)
def rNeLL (K : PySem.W.Frag) : R2 := fun x y H Q => ∃ a b xs ys, x = .ref a ∧ y = .ref b ∧ SqL K H a xs ∧ SqL K H b ys ∧ ((xs.length ≠ ys.length ∧ Q (.bl true) H) ∨ ∃ bs, EqVs K H xs ys bs ∧ Q (.bl (!bs.all id)) H)
theorem all_range (bs : List Bool) : (List.range bs.length).all (fun j => bs.getD j true) = bs.all id := by
  rw [Bool.eq_iff_iff, List.all_eq_true, List.all_eq_true]
  constructor
  · intro h b hb
    obtain ⟨i, hi, e⟩ := List.mem_iff_getElem.mp hb
    have := h i (List.mem_range.mpr hi)
    rw [List.getD_eq_getElem?_getD, List.getElem?_eq_getElem hi] at this
    rw [← e]
    exact this
  · intro h i hi
    have hi' := List.mem_range.mp hi
    rw [List.getD_eq_getElem?_getD, List.getElem?_eq_getElem hi']
    exact h _ (List.getElem_mem hi')
section
variable {X : Cx}
theorem op_eqLL {k : Nat} (hr : Room k X.A) : OpR X (compareOp .Eq) (rEqLL X.K) := by
  intro pins s σ H x y v u Q I rx ry h
  obtain ⟨a, b, xs, ys, rfl, rfl, ha, hb, h⟩ := h
  obtain rfl : v = Value.ref a := rx
  obtain rfl : u = Value.ref b := ry
  obtain ⟨its, r1, p1, _⟩ := I.list ha
  obtain ⟨its2, r2, p2, _⟩ := I.list hb
  have hu := hr.un
  have l1 := r1.length
  have l2 := r2.length
  rcases h with ⟨hne, q⟩ | ⟨bs, hv, q⟩
  · exact SeqAt.RcAt.lists_lengths p1.isList p2.isList (by simp; omega) (by omega) X.prog X.w _ _ ⟨.bl _, H, I, rfl, q⟩
  · have lb := hv.len
    refine SeqAt.rcP_lists p1.isList p2.isList (e := fun j => bs.getD j true) (by simp; omega) (by omega) (fun j h1 h2 => ?_) _ _ ?_
    · have h1' : j < xs.length := by rw [l1]; simpa using h1
      have h2' : j < ys.length := by rw [l2]; simpa using h2
      exact eqP_V I (by omega) (vals_at r1 h1' (by simpa using h1)) (vals_at r2 h2' (by simpa using h2)) (hv.at_ (List.getElem?_eq_getElem h1') (List.getElem?_eq_getElem h2'))
    · refine ⟨.bl _, H, I, ?_, q⟩
      have : its.toArray.size = bs.length := by simp; omega
      rw [this, all_range]
      rfl
theorem op_neLL {k : Nat} (hr : Room k X.A) : OpR X (compareOp .NotEq) (rNeLL X.K) := by
  intro pins s σ H x y v u Q I rx ry h
  obtain ⟨a, b, xs, ys, rfl, rfl, ha, hb, h⟩ := h
  obtain rfl : v = Value.ref a := rx
  obtain rfl : u = Value.ref b := ry
  obtain ⟨its, r1, p1, _⟩ := I.list ha
  obtain ⟨its2, r2, p2, _⟩ := I.list hb
  have hu := hr.un
  have l1 := r1.length
  have l2 := r2.length
  rcases h with ⟨hne, q⟩ | ⟨bs, hv, q⟩
  · exact SeqAt.RcNeAt.lists_lengths p1.isList p2.isList (by simp; omega) (by omega) X.prog X.w _ _ ⟨.bl _, H, I, rfl, q⟩
  · have lb := hv.len
    refine SeqAt.rcneP_lists p1.isList p2.isList (e := fun j => bs.getD j true) (by simp; omega) (by omega) (fun j h1 h2 => ?_) _ _ ?_
    · have h1' : j < xs.length := by rw [l1]; simpa using h1
      have h2' : j < ys.length := by rw [l2]; simpa using h2
      exact eqP_V I (by omega) (vals_at r1 h1' (by simpa using h1)) (vals_at r2 h2' (by simpa using h2)) (hv.at_ (List.getElem?_eq_getElem h1') (List.getElem?_eq_getElem h2'))
    · refine ⟨.bl _, H, I, ?_, q⟩
      have : its.toArray.size = bs.length := by simp; omega
      rw [this, all_range]
      rfl
end
/-- things of a kind compared -/
def EqK (K : PySem.W.Frag) {α β : Type} (R : α → Ty) (R' : β → Ty) (f : α → β → Option Bool) : Prop := ∀ x y b v u (D : Own) H F, HS D H F → f x y = some b → (R x).p v F → (R' y).p u F → EqV K H v u b
theorem eqk_D {K : PySem.W.Frag} {α : Type} [DecidableEq α] {R : α → Ty} {e : α → PyData} {m : Nat} (he : Enc e m) (hd : ∀ x, Dat K (R x) (e x)) (hn : m ≤ 64 := by decide) : EqK K R R (fun x y => some (decide (x = y))) := fun x y b v u D H F hs eb h1 h2 => by
  cases eb
  rw [← he.eq]
  exact .dat (dp_up hs (hd _ _ _ h1)) (dp_up hs (hd _ _ _ h2)) (he.shaped hn _) (he.shaped hn _)
theorem eqk_DT {K : PySem.W.Frag} {κ α : Type} [DecidableEq κ] [DecidableEq α] {k : KeyE κ} {R : α → Ty} {e : α → PyData} {m : Nat} (he : Enc e m) (hd : ∀ x, Dat K (R x) (e x)) (hn : m ≤ 64 := by decide) : EqK K (DT k R) (DT k R) (fun x y => some (deq x y)) := fun x y b v u D H F hs eb h1 h2 => by
  cases eb
  obtain ⟨a, od, kvs, rfl, g1, g2⟩ := h1
  obtain ⟨a', od', kvs', rfl, g1', g2'⟩ := h2
  rw [← deqD_map (k := k) he]
  exact .dic (.inr ⟨od, hs.sub _ _ g1⟩) (.inr ⟨od', hs.sub _ _ g1'⟩) (g2.den hs he hn hd) (g2'.den hs he hn hd)
def eqSU {α β α' β' : Type} (f : α → α' → Option Bool) (g : β → β' → Option Bool) : α ⊕ β → α' ⊕ β' → Option Bool
  | .inl a, .inl b => f a b
  | .inr a, .inr b => g a b
  | _, _ => none
theorem eqk_SU {K : PySem.W.Frag} {α β α' β' : Type} {R : α → Ty} {S : β → Ty} {R' : α' → Ty} {S' : β' → Ty} {f : α → α' → Option Bool} {g : β → β' → Option Bool} (hf : EqK K R R' f) (hg : EqK K S S' g) : EqK K (SU R S) (SU R' S') (eqSU f g) := fun x y b v u D H F hs eb h1 h2 => by
  cases x with
  | inl a => cases y with
    | inl c => exact hf a c b v u D H F hs eb h1 h2
    | inr c => cases eb
  | inr a => cases y with
    | inl c => cases eb
    | inr c => exact hg a c b v u D H F hs eb h1 h2
def eqZ {α β : Type} (f : α → β → Option Bool) : List α → List β → Option (List Bool)
  | [], [] => some []
  | x :: xs, y :: ys => (f x y).bind fun b => (eqZ f xs ys).map fun bs => b :: bs
  | _, _ => none
/-- two lists compared -/
def eqLs {α β : Type} (f : α → β → Option Bool) (xs : List α) (ys : List β) : Option Bool := if xs.length = ys.length then (eqZ f xs ys).map fun bs => bs.all id else some false
theorem eqZ_vs {K : PySem.W.Frag} {α β : Type} {R : α → Ty} {R' : β → Ty} {f : α → β → Option Bool} (hf : EqK K R R' f) {D : Own} {H F : Hp} (hs : HS D H F) : ∀ {xs : List α} {ys : List β} {vs us : List V} {bs : List Bool}, eqZ f xs ys = some bs → AllP F (xs.map R) vs → AllP F (ys.map R') us → EqVs K H vs us bs
  | [], [], _, _, _, e, h1, h2 => by
    cases e
    cases h1
    cases h2
    exact .nil
  | x :: xs, y :: ys, _, _, _, e, h1, h2 => by
    obtain ⟨b, eb, e2⟩ := Option.bind_eq_some_iff.mp e
    obtain ⟨bs, es, e3⟩ := Option.map_eq_some_iff.mp e2
    subst e3
    cases h1 with
    | cons g1 g2 => cases h2 with
      | cons g1' g2' => exact .cons (hf _ _ _ _ _ _ _ _ hs eb g1 g1') (eqZ_vs hf hs es g2 g2')
  | [], y :: ys, _, _, _, e, _, _ => by cases e
  | x :: xs, [], _, _, _, e, _, _ => by cases e
section
variable {K : PySem.W.Frag} {ε ρ α β γ δ S : Type} {X : L2.St → XK} {De : ε → Own} {G : Sto} {Dd : S → Own} {s : S} {ta tb : TE}
variable {R : α → Ty} {R' : γ → Ty} {f : α → γ → Option Bool} {Ma : (List α → S → Res ε δ) → Res ε δ} {Mb : S → (List γ → S → Res ε δ) → Res ε δ}
theorem evc_eqLL (hf : EqK K R R' f) (ha : EvC K X De ta G Dd s Ma (LT K R)) (hb : ∀ s1, EvC K X De tb G Dd s1 (Mb s1) (LT K R')) : EvC K X De (tOp (rEqLL K) ta tb) G Dd s (fun kk => Ma fun a s1 => Mb s1 fun b s2 => Res.bind (Res.opt (eqLs f a b)) fun z => kk z s2) (tD K eB) := fun kk σ H F hs ss o r Q hm q qe =>
  ha _ σ H F hs ss o r _ hm (fun a s1 x H1 F1 t1 hs1 r1 hm1 => hb s1 _ σ H1 F1 hs1 (ss.mono t1) o r _ hm1
    (fun b s2 y H2 F2 t2 hs2 r2 hm2 => by
      obtain ⟨z, ez, hm3⟩ := Res.sat_opt hm2
      obtain ⟨p, vs, rfl, h1, h2⟩ := (LT K R a).mono t2 r1
      obtain ⟨p', us, rfl, h1', h2'⟩ := r2
      refine ⟨p, p', vs, us, rfl, rfl, sqL_up hs2 h1, sqL_up hs2 h1', ?_⟩
      have l1 := h2.len
      have l2 := h2'.len
      rw [List.length_map] at l1 l2
      unfold eqLs at ez
      split at ez
      · obtain ⟨bs, eb, e2⟩ := Option.map_eq_some_iff.mp ez
        subst e2
        exact .inr ⟨bs, eqZ_vs hf hs2 eb h2 h2', q _ s2 _ H2 F2 (t1.trans t2) hs2 (.bl _) hm3⟩
      · cases ez
        exact .inl ⟨by omega, q _ s2 _ H2 F2 (t1.trans t2) hs2 (.bl _) hm3⟩)
    (fun n e h H2 F2 t2 => qe n e h H2 F2 (t1.trans t2))) qe
theorem evc_neLL (hf : EqK K R R' f) (ha : EvC K X De ta G Dd s Ma (LT K R)) (hb : ∀ s1, EvC K X De tb G Dd s1 (Mb s1) (LT K R')) : EvC K X De (tOp (rNeLL K) ta tb) G Dd s (fun kk => Ma fun a s1 => Mb s1 fun b s2 => Res.bind (Res.opt (eqLs f a b)) fun z => kk (!z) s2) (tD K eB) := fun kk σ H F hs ss o r Q hm q qe =>
  ha _ σ H F hs ss o r _ hm (fun a s1 x H1 F1 t1 hs1 r1 hm1 => hb s1 _ σ H1 F1 hs1 (ss.mono t1) o r _ hm1
    (fun b s2 y H2 F2 t2 hs2 r2 hm2 => by
      obtain ⟨z, ez, hm3⟩ := Res.sat_opt hm2
      obtain ⟨p, vs, rfl, h1, h2⟩ := (LT K R a).mono t2 r1
      obtain ⟨p', us, rfl, h1', h2'⟩ := r2
      refine ⟨p, p', vs, us, rfl, rfl, sqL_up hs2 h1, sqL_up hs2 h1', ?_⟩
      have l1 := h2.len
      have l2 := h2'.len
      rw [List.length_map] at l1 l2
      unfold eqLs at ez
      split at ez
      · obtain ⟨bs, eb, e2⟩ := Option.map_eq_some_iff.mp ez
        subst e2
        exact .inr ⟨bs, eqZ_vs hf hs2 eb h2 h2', q _ s2 _ H2 F2 (t1.trans t2) hs2 (.bl _) hm3⟩
      · cases ez
        exact .inl ⟨by omega, q _ s2 _ H2 F2 (t1.trans t2) hs2 (.bl _) hm3⟩)
    (fun n e h H2 F2 t2 => qe n e h H2 F2 (t1.trans t2))) qe
end
end TL

end
section
set_option Elab.async false
set_option linter.all false
set_option maxRecDepth 100000
set_option maxHeartbeats 1000000
/-! # len(d) -/
namespace TL
open PySem PySem.Spec L2
def cLenD : List V → Hp → VK → Prop := fun xs H Q => ∃ a kvs, xs = [V.ref a] ∧ L2.Rd H a (.dK kvs) ∧ Q (.int kvs.length) H
theorem call_lenDR {X : Cx} : CallR X (.builtin "len") cLenD := by
  intro pins s σ H xs us Q I r h
  obtain ⟨a, kvs, rfl, ha, q⟩ := h
  obtain ⟨u, rfl, ru⟩ := vals1 r
  cases ru
  exact d_len I ha fun t s' I' => ⟨.int kvs.length, H, I', ⟨t, rfl⟩, q⟩
section
variable {K : PySem.W.Frag} {ε ρ α β γ δ S κ : Type} [DecidableEq κ] {X : L2.St → XK} {De : ε → Own} {G : Sto} {Dd : S → Own} {s : S} {ta tb : TE} {k : KeyE κ} {Rv : β → Ty} {R : α → Ty} {f : α → List (κ × β)} {Ma : (α → S → Res ε δ) → Res ε δ}
theorem evc_lenD (hv : DVw Dd R f k Rv) (ha : EvC K X De ta G Dd s Ma R) : EvC K X De (tCB cLenD (tCons ta tNil)) G Dd s (fun kk => Ma fun a s1 => kk ((f a).length : Int) s1) (tD K eI) := by
  have h1 := evac_cons (β := δ) ha fun _ => evac_nil
  refine evc_CB h1 (g := fun a => ((f a.1).length : Int)) fun a s2 vs H F hs r Q q => ?_
  obtain ⟨v, rfl, h1⟩ := allP1 r
  obtain ⟨p, kvs, rfl, h2, h3⟩ := dvw_rd hv hs h1
  refine ⟨p, kvs, rfl, h3, ?_⟩
  rw [h2.len]
  exact q _ H F (Same.refl _) hs (.int _)
end
section
variable {K : PySem.W.Frag} {ε ρ α β γ δ S : Type} {X : L2.St → XK} {De : ε → Own} {G : Sto} {Dd : S → Own} {s : S} {ta tb : TE} {R : α → Ty} {R' : γ → Ty} {Re : β → Ty} {f : α → List β} {g : γ → List β} {Ma : (α → S → Res ε δ) → Res ε δ} {Mb : S → (γ → S → Res ε δ) → Res ε δ}
/-- a new list out of two that stand or are owned -/
theorem evnc_catV (hA : ∀ x s v H F, HS (Dd s) H F → (R x).p v F → ∃ a vs, v = .ref a ∧ SqL K H a vs ∧ AllP F ((f x).map Re) vs) (hB : ∀ x s v H F, HS (Dd s) H F → (R' x).p v F → ∃ a vs, v = .ref a ∧ SqL K H a vs ∧ AllP F ((g x).map Re) vs)
    (ha : EvC K X De ta G Dd s Ma R) (hb : ∀ s1, EvC K X De tb G Dd s1 (Mb s1) R') :
    EvNC K X De (tOp (qAddS K) ta tb) G Dd s (fun kk => Ma fun a s1 => Mb s1 fun b s2 => Res.bind (Res.grd ((f a).length + (g b).length ≤ 100000) (f a ++ g b)) fun z => kk z s2) (OLT Re) := fun kk σ H F hs ss o r Q hm q qe =>
  ha _ σ H F hs ss o r _ hm (fun a s1 v H1 F1 t1 hs1 r1 hm1 => hb s1 _ σ H1 F1 hs1 (ss.mono t1) o r _ hm1 (fun b s2 u H2 F2 t2 hs2 r2 hm2 => by
    obtain ⟨hl, hm3⟩ := Res.sat_grd hm2
    obtain ⟨p, vs, rfl, h1, hx⟩ := hA a s2 v H2 F2 hs2 ((R a).mono t2 r1)
    obtain ⟨p2, us, rfl, h2, hy⟩ := hB b s2 u H2 F2 hs2 r2
    have l1 := hx.len
    have l2 := hy.len
    rw [List.length_map] at l1 l2
    refine .inr (.inl ⟨p, p2, vs, us, rfl, rfl, h1, h2, by rw [l1, l2]; exact Nat.le_trans hl sizeLine_big, fun c hc => ?_⟩)
    exact q (f a ++ g b) s2 c _ F2 (t1.trans t2) (hs2.new hc ⟨_, rfl, allP_app hx hy⟩) hm3) (fun n e h H2 F2 t2 => qe n e h H2 F2 (t1.trans t2))) qe
end
end TL

end
section
set_option Elab.async false
set_option linter.all false
set_option maxRecDepth 100000
set_option maxHeartbeats 1000000
/-! # defs that end behind a loop: the way on from any later heap -/
namespace TL
open PySem PySem.Spec L2
section
variable {K : PySem.W.Frag} {ε ε' ρ α β γ δ S τ τ' σt ω Ω : Type}
theorem pure_ofPF {args : τ → List Ty} {mf : τ → Res Unit γ} {out : γ → Out} {N : List Str} {tf : TS} {vs : List V} {H : Hp} {Q : VK} {X : XK}
    (walk : ∀ (x : τ) (F : Hp) (D : Own) (E : Ends), E.rt = Q → (∀ (F : Hp) (K : PySem.W.Frag) G D1, GoV Q F (DN K) D1 → Go E.nx F G D1) → (dwish K X Q out (fun _ => D) (fun _ : Unit => D)).W F (mf x) → Go (tf E) F ((args x).map some ++ List.replicate (N.length - (args x).length) none) D)
    (h : spP K args mf out vs H Q X) : tf { nx := fun _ H' => Q .non H', rt := Q } (L2.start N vs) H := by
  obtain ⟨x, F, D, hs, ha, hp⟩ := h
  have z := SS.start (N := N) ha
  rw [ha.len] at z
  exact walk x F D { nx := fun _ H' => Q .non H', rt := Q } rfl (fun _ K G D1 k σ H F1 s hs ss => k _ H F1 s hs .non) hp _ H F (Same.refl _) hs z
theorem pure_ofCF {O : ω → OTy} {args : Addr → τ → List Ty} {mf : τ → ω → Res ω (γ × ω)} {out : γ → Out} {N : List Str} {tf : TS} {vs : List V} {H : Hp} {Q : VK} {X : XK}
    (walk : ∀ (x : τ) (y : ω) (F : Hp) (Dp : ω → Own) (k : Nat) (a : Addr) (E : Ends), Bor1 Dp k a O → E.rt = Q → (∀ (F : Hp) (K : PySem.W.Frag) G D1, GoV Q F (DN K) D1 → Go E.nx F G D1) → (dwish K X Q (fun r : γ × ω => out r.1) (fun r => Dp r.2) Dp).W F (mf x y) →
      Go (tf E) F ((args a x).map some ++ List.replicate (N.length - (args a x).length) none) (Dp y))
    (h : spC K O args mf out vs H Q X) : tf { nx := fun _ H' => Q .non H', rt := Q } (L2.start N vs) H := by
  obtain ⟨x, y, F, Dp, k, a, B, hs, ha, hp⟩ := h
  have z := SS.start (N := N) ha
  rw [ha.len] at z
  exact walk x y F Dp k a { nx := fun _ H' => Q .non H', rt := Q } B rfl (fun _ K G D1 k σ H F1 s hs ss => k _ H F1 s hs .non) hp _ H F (Same.refl _) hs z
theorem pure_ofRdF {mf : τ → Res Unit γ} {out : γ → Out} {N : List Str} {tf : TS} {vs : List V} {H : Hp} {Q : VK} {X : XK}
    (walk : ∀ (x : τ) (F : Hp) (D : Own) (E : Ends), pl x D → E.rt = Q → (∀ (F : Hp) (K : PySem.W.Frag) G D1, GoV Q F (DN K) D1 → Go E.nx F G D1) → (dwish K X Q out (fun _ => D) (fun _ : Unit => D)).W F (mf x) → Go (tf E) F ((args x).map some ++ List.replicate (N.length - (args x).length) none) D)
    (h : spR K args pl mf out vs H Q X) : tf { nx := fun _ H' => Q .non H', rt := Q } (L2.start N vs) H := by
  obtain ⟨x, F, D, hp0, hs, ha, hp⟩ := h
  have z := SS.start (N := N) ha
  rw [ha.len] at z
  exact walk x F D { nx := fun _ H' => Q .non H', rt := Q } hp0 rfl (fun _ K G D1 k σ H F1 s hs ss => k _ H F1 s hs .non) hp _ H F (Same.refl _) hs z
theorem pure_ofWrF {mf : τ → Ω → Res Ω (γ × Ω)} {out : γ → Out} {N : List Str} {tf : TS} {vs : List V} {H : Hp} {Q : VK} {X : XK}
    (walk : ∀ (x : τ) (y : Ω) (F : Hp) (Dp : Ω → Own) (E : Ends), plm x Dp → E.rt = Q → (∀ (F : Hp) (K : PySem.W.Frag) G D1, GoV Q F (DN K) D1 → Go E.nx F G D1) → (dwish K X Q (fun r : γ × Ω => out r.1) (fun r => Dp r.2) Dp).W F (mf x y) →
      Go (tf E) F ((args x).map some ++ List.replicate (N.length - (args x).length) none) (Dp y))
    (h : spM K args plm mf out vs H Q X) : tf { nx := fun _ H' => Q .non H', rt := Q } (L2.start N vs) H := by
  obtain ⟨x, y, F, Dp, hp0, hs, ha, hp⟩ := h
  have z := SS.start (N := N) ha
  rw [ha.len] at z
  exact walk x y F Dp { nx := fun _ H' => Q .non H', rt := Q } hp0 rfl (fun _ K G D1 k σ H F1 s hs ss => k _ H F1 s hs .non) hp _ H F (Same.refl _) hs z
end
end TL

end
section
set_option Elab.async false
set_option linter.all false
set_option maxRecDepth 100000
set_option maxHeartbeats 4000000
open TL PySem L2
def sx_2ac8088b : Tx := ⟨"abcdefghijklmnopqrstuvwxyz0123456789.", by decide +kernel⟩
def sx_da39a3ee : Tx := ⟨"", by decide +kernel⟩
def sx_ced9d84c : Tx := ⟨"a0.z", by decide +kernel⟩
def sx_87acec17 : Tx := ⟨"0123456789", by decide +kernel⟩
def sx_d68c19a0 : Tx := ⟨"abcdefghij", by decide +kernel⟩
def sx_425af12a : Tx := ⟨"abcdefgh", by decide +kernel⟩
def sx_3a52ce78 : Tx := ⟨".", by decide +kernel⟩
noncomputable def l_well_k1 (vk : Int) (s2 : Int) : Res Unit ((List Int)) :=
  Res.bind (Res.grd (CMulW (17 : Int) vk) ((17 : Int) * vk)) fun z4 => .ok [(if decide ((1000000000000000000 : Int) ≤ (if s2 < 0 then -s2 else s2)) = true then (1 : Int) else 0), s2, z4]
noncomputable def l_well (vscript : (List Int)) (vk : Int) : Res Unit ((List Int)) :=
  Res.bind (.ok (0 : Int)) fun x1 => if decide (vk < (List.length vscript : Int)) = true then Res.bind (Res.opt (atI vscript vk)) fun z6 => Res.bind (.ok z6) fun x5 => (l_well_k1 vk) x5 else (l_well_k1 vk) x1


noncomputable def l_take (vwell_here : (List Int)) (vmany : Int) : Res (List Int) (Int × (List Int)) :=
  Res.bind (Res.opt (atI vwell_here (0 : Int))) fun z22 => if decide (z22 = (1 : Int)) = true then Res.bind (Res.opt (atI vwell_here (1 : Int))) fun z6 => Res.bind (Res.grd (vmany ≠ 0) (Int.fmod z6 vmany)) fun z7 => Res.bind (.ok z7) fun x1 => Res.bind (Res.opt (atI vwell_here (1 : Int))) fun z4 => Res.bind (Res.grd (CDivA z4 vmany) (Int.fdiv z4 vmany)) fun z5 => Res.bind (Res.opt (ixN (List.length vwell_here) (1 : Int))) fun j3 => Res.bind (.ok (List.set vwell_here j3 z5, ())) fun x2 => .ok (x1, x2.1) else Res.bind (Res.opt (atI vwell_here (2 : Int))) fun z21 => Res.bind (.ok (z21 + (1 : Int))) fun x8 => Res.bind (Res.opt (ixN (List.length vwell_here) (2 : Int))) fun j10 => Res.bind (.ok (List.set vwell_here j10 x8, ())) fun x9 => Res.bind (Res.opt (atI x9.1 (1 : Int))) fun z16 => Res.bind (Res.grd (CMulW (7919 : Int) x8) ((7919 : Int) * x8)) fun z17 => Res.bind (Res.grd (CMulW z17 x8) (z17 * x8)) fun z18 => Res.bind (Res.grd (CMulW ((z16 + z18) + x8) (48271 : Int)) (((z16 + z18) + x8) * (48271 : Int))) fun z19 => Res.bind (Res.grd ((2305843009213693951 : Int) ≠ 0) (Int.fmod z19 (2305843009213693951 : Int))) fun z20 => Res.bind (.ok z20) fun x11 => Res.bind (Res.grd (CMulW x11 (1442695040888963407 : Int)) (x11 * (1442695040888963407 : Int))) fun z12 => Res.bind (Res.grd ((2305843009213693921 : Int) ≠ 0) (Int.fmod (z12 + (4321 : Int)) (2305843009213693921 : Int))) fun z13 => Res.bind (Res.grd (CDivA z13 (64 : Int)) (Int.fdiv z13 (64 : Int))) fun z14 => Res.bind (Res.grd (vmany ≠ 0) (Int.fmod z14 vmany)) fun z15 => .ok (z15, x9.1)


noncomputable def l_name (vwell_here : (List Int)) (vmost : Int) : Res (List Int) (Tx × (List Int)) :=
  Res.bind (.ok sx_2ac8088b) fun x1 => Res.bind (l_take vwell_here (6 : Int)) fun z13 => Res.bind (Res.opt (atI [(4 : Int), vmost] (if decide (z13.1 = (5 : Int)) = true then (1 : Int) else 0))) fun z12 => Res.bind (l_take z13.2 z12) fun z11 => Res.bind (.ok (((1 : Int) + z11.1), z11.2)) fun x2 => Res.bind (Res.grd (-(2 ^ 62) ≤ x2.1 ∧ x2.1 < 2 ^ 62) (rangeL 0 (Int.toNat x2.1))) fun z3 => Res.bind (Res.grd (z3.length ≤ 100000) z3) fun z8 => Res.bind (Res.calm (Res.lc (fun (x4 : Int) (s5 : (List Int)) => Res.bind (Res.mapE (fun _ : (List Int) => ()) (l_take s5 (37 : Int))) fun z7 => Res.bind (Res.opt (Tx.at x1 z7.1)) fun z6 => .ok (some z6, z7.2)) z8 x2.2)) fun z9 => Res.bind (Res.grd (joinC sx_da39a3ee z9.1) (Tx.join sx_da39a3ee z9.1)) fun z10 => .ok (z10, z9.2)

noncomputable def l_names_k1  (s3 : ((List Tx) × (List Int))) : Res (List Int) ((List Tx) × (List Int)) :=
  .ok (s3.1, s3.2)
noncomputable def l_names_k2 (s3 : ((List Tx) × (List Int))) (n4 : ((List Tx) × (List Int)) → Res (List Int) ((List Tx) × (List Int))) (s8 : (Tx × (List Int))) (s11 : (Tx × Int)) : Res (List Int) ((List Tx) × (List Int)) :=
  Res.bind (Res.grd (List.length s3.1 < 100000) (s3.1 ++ [s11.1], ())) fun x14 => n4 (x14.1, s8.2)
noncomputable def l_names_b3  (s11 : (Tx × Int)) (n12 : (Tx × Int) → Res (List Int) ((List Tx) × (List Int))) : Res (List Int) ((List Tx) × (List Int)) :=
  Res.bind (Res.grd (Tx.len s11.1 ≤ 100000) (Tx.cut s11.1 none (some (18 : Int)))) fun z17 => Res.bind (Res.grd ((10 : Int) ≠ 0) (Int.fmod s11.2 (10 : Int))) fun z19 => Res.bind (Res.opt (Tx.at sx_87acec17 z19)) fun z18 => Res.bind (Res.grd (Tx.len z17 + Tx.len z18 ≤ 100000) (z17 ++ z18)) fun z20 => Res.bind (Res.grd (CDivA s11.2 (10 : Int)) (Int.fdiv s11.2 (10 : Int))) fun z22 => Res.bind (Res.grd ((10 : Int) ≠ 0) (Int.fmod z22 (10 : Int))) fun z23 => Res.bind (Res.opt (Tx.at sx_d68c19a0 z23)) fun z21 => Res.bind (Res.grd (Tx.len z20 + Tx.len z21 ≤ 100000) (z20 ++ z21)) fun z24 => Res.bind (.ok z24) fun x15 => Res.bind (.ok (s11.2 + (1 : Int))) fun x16 => n12 (x15, x16)
noncomputable def l_names_k4 (s3 : ((List Tx) × (List Int))) (n4 : ((List Tx) × (List Int)) → Res (List Int) ((List Tx) × (List Int))) (s8 : (Tx × (List Int))) : Res (List Int) ((List Tx) × (List Int)) :=
  Res.bind (.ok (0 : Int)) fun x10 => Res.wloop (fun s11 n12 => if decide (s11.1 ∈ s3.1) = true then l_names_b3 s11 n12 else (l_names_k2 s3 n4 s8) s11) Res.fuel (s8.1, x10)
noncomputable def l_names_b5  (s3 : ((List Tx) × (List Int))) (n4 : ((List Tx) × (List Int)) → Res (List Int) ((List Tx) × (List Int))) : Res (List Int) ((List Tx) × (List Int)) :=
  Res.bind (l_name s3.2 (20 : Int)) fun z32 => Res.bind (.ok (z32.1, z32.2)) fun x6 => Res.bind (l_take x6.2 (3 : Int)) fun z31 => Res.bind (.ok z31.2) fun s7 => if decide (z31.1 = (0 : Int)) = true then Res.bind (Res.opt (atI s3.1 (-(1 : Int)))) fun z26 => Res.bind (l_take s7 (4 : Int)) fun z28 => Res.bind (Res.opt (Tx.at sx_ced9d84c z28.1)) fun z27 => Res.bind (Res.grd (Tx.len z26 + Tx.len z27 ≤ 100000) (z26 ++ z27)) fun z29 => Res.bind (Res.grd (Tx.len z29 ≤ 100000) (Tx.cut z29 none (some (20 : Int)))) fun z30 => Res.bind (.ok (z30, z28.2)) fun x25 => (l_names_k4 s3 n4) (x25.1, x25.2) else (l_names_k4 s3 n4) (x6.1, s7)
noncomputable def l_names (vwell_here : (List Int)) (vmany : Int) : Res (List Int) ((List Tx) × (List Int)) :=
  Res.bind (l_name vwell_here (20 : Int)) fun z33 => Res.bind (.ok ([z33.1], z33.2)) fun x1 => Res.wloop (fun s3 n4 => if decide ((List.length s3.1 : Int) < vmany) = true then l_names_b5 s3 n4 else l_names_k1 s3) Res.fuel (x1.1, x1.2)

noncomputable def l_common_k1  (s1 : (Int × Int)) : Res Unit (Int) :=
  .ok (if s1.1 < 0 then -s1.1 else s1.1)
noncomputable def l_common_b2  (s1 : (Int × Int)) (n2 : (Int × Int) → Res Unit (Int)) : Res Unit (Int) :=
  Res.bind (Res.grd (s1.2 ≠ 0) (Int.fmod s1.1 s1.2)) fun z5 => Res.bind (.ok (s1.2, z5)) fun x4 => n2 (x4.1, x4.2)
noncomputable def l_common (vone : Int) (vother : Int) : Res Unit (Int) :=
  Res.wloop (fun s1 n2 => if (!decide (s1.2 = (0 : Int))) = true then l_common_b2 s1 n2 else l_common_k1 s1) Res.fuel (vone, vother)

noncomputable def l_num_k1  (s1 : (Int × Int)) : Res Unit (Rat) :=
  Res.bind (l_common s1.1 s1.2) fun z7 => Res.bind (.ok z7) fun x3 => Res.bind (Res.grd (CDivA s1.1 x3) (Int.fdiv s1.1 x3)) fun z5 => Res.bind (Res.grd (CDivA s1.2 x3) (Int.fdiv s1.2 x3)) fun z6 => Res.bind (Res.opt (mkQ z5 z6)) fun z4 => .ok z4
noncomputable def l_num (vtop : Int) (vbottom : Int) : Res Unit (Rat) :=
  if decide (vbottom < (0 : Int)) = true then Res.bind (.ok ((0 : Int) - vtop)) fun x8 => Res.bind (.ok ((0 : Int) - vbottom)) fun x9 => l_num_k1 (x8, x9) else l_num_k1 (vtop, vbottom)


noncomputable def l_number (vwell_here : (List Int)) : Res (List Int) (Rat × (List Int)) :=
  Res.bind (l_take vwell_here (8 : Int)) fun z11 => Res.bind (.ok (z11.1, z11.2)) fun x1 => if decide (x1.1 = (7 : Int)) = true then Res.bind (Res.grd (CMulW (2 : Int) (100000000 : Int)) ((2 : Int) * (100000000 : Int))) fun z4 => Res.bind (l_take x1.2 (z4 + (1 : Int))) fun z3 => Res.bind (l_take z3.2 (100000000 : Int)) fun z5 => Res.bind (Res.mapE (fun _ => z5.2) (l_num (z3.1 - (100000000 : Int)) ((1 : Int) + z5.1))) fun z2 => .ok (z2, z5.2) else if decide ((4 : Int) < x1.1) = true then Res.bind (l_take x1.2 (201 : Int)) fun z7 => Res.bind (l_take z7.2 (6 : Int)) fun z8 => Res.bind (Res.mapE (fun _ => z8.2) (l_num (z7.1 - (100 : Int)) ((1 : Int) + z8.1))) fun z6 => .ok (z6, z8.2) else Res.bind (l_take x1.2 (9 : Int)) fun z10 => Res.bind (Res.opt (mkQ (z10.1 - (4 : Int)) (1 : Int))) fun z9 => .ok (z9, z10.2)

noncomputable def l_sum_k1  (s3 : ((List (Tx × Rat)) × (List Int))) : Res (List Int) ((Rat × (List (Tx × Rat))) × (List Int)) :=
  Res.bind (l_number s3.2) fun z7 => .ok ((z7.1, s3.1), z7.2)
noncomputable def l_sum_k2 (n5 : ((List (Tx × Rat)) × (List Int)) → Res (List Int) ((Rat × (List (Tx × Rat))) × (List Int))) (s9 : ((List (Tx × Rat)) × (List Int))) : Res (List Int) ((Rat × (List (Tx × Rat))) × (List Int)) :=
  n5 (s9.1, s9.2)
noncomputable def l_sum_k3 (n5 : ((List (Tx × Rat)) × (List Int)) → Res (List Int) ((Rat × (List (Tx × Rat))) × (List Int))) (x11 : (Rat × (List Int))) (s12 : (List (Tx × Rat))) : Res (List Int) ((Rat × (List (Tx × Rat))) × (List Int)) :=
  (l_sum_k2 n5) (s12, x11.2)
noncomputable def l_sum_b4  (x4 : Tx) (s3 : ((List (Tx × Rat)) × (List Int))) (n5 : ((List (Tx × Rat)) × (List Int)) → Res (List Int) ((Rat × (List (Tx × Rat))) × (List Int))) : Res (List Int) ((Rat × (List (Tx × Rat))) × (List Int)) :=
  Res.bind (l_take s3.2 (3 : Int)) fun z16 => Res.bind (.ok z16.2) fun s8 => if decide ((0 : Int) < z16.1) = true then Res.bind (l_number s8) fun z15 => Res.bind (.ok (z15.1, z15.2)) fun x11 => if (!decide (x11.1 = (0 : Rat))) = true then Res.bind (Res.grd (List.length s3.1 < 100000) (s3.1 ++ [(x4, x11.1)], ())) fun x14 => (l_sum_k3 n5 x11) x14.1 else (l_sum_k3 n5 x11) s3.1 else (l_sum_k2 n5) (s3.1, s8)
noncomputable def l_sum (vwell_here : (List Int)) (vnames_here : (List Tx)) : Res (List Int) ((Rat × (List (Tx × Rat))) × (List Int)) :=
  Res.bind (.ok []) fun x1 => Res.bind (Res.grd (List.length vnames_here < 64) (sortT vnames_here)) fun z17 => Res.loop l_sum_b4 l_sum_k1 z17 (x1, vwell_here)


noncomputable def m_is_whole (vthing : Int) : Res Unit (Bool) :=
  .ok (true && (!false))

noncomputable def m_common_k1  (s1 : (Int × Int)) : Res Unit (Int) :=
  .ok (if s1.1 < 0 then -s1.1 else s1.1)
noncomputable def m_common_b2  (s1 : (Int × Int)) (n2 : (Int × Int) → Res Unit (Int)) : Res Unit (Int) :=
  Res.bind (Res.grd (s1.2 ≠ 0) (Int.fmod s1.1 s1.2)) fun z5 => Res.bind (.ok (s1.2, z5)) fun x4 => n2 (x4.1, x4.2)
noncomputable def m_common (vone : Int) (vother : Int) : Res Unit (Int) :=
  Res.wloop (fun s1 n2 => if (!decide (s1.2 = (0 : Int))) = true then m_common_b2 s1 n2 else m_common_k1 s1) Res.fuel (vone, vother)

noncomputable def m_number_of_k1 (vtop : Int) (vbottom : Int) (s2 : Int) : Res Unit (Rat) :=
  Res.bind (Res.grd (CDivA vtop s2) (Int.fdiv vtop s2)) fun z5 => Res.bind (Res.grd (CDivA vbottom s2) (Int.fdiv vbottom s2)) fun z6 => Res.bind (Res.opt (mkQ z5 z6)) fun z4 => .ok z4
noncomputable def m_number_of (vtop : Int) (vbottom : Int) : Res Unit (Rat) :=
  Res.bind (m_is_whole vtop) fun z9 => Res.bind (if (!z9) = true then .ok (true, ()) else Res.bind (m_is_whole vbottom) fun z11 => .ok (((!z11) || decide (vbottom = (0 : Int))), ())) fun z10 => if z10.1 = true then .err "NoNumber" () else Res.bind (m_common vtop vbottom) fun z8 => Res.bind (.ok z8) fun x1 => if decide (vbottom < (0 : Int)) = true then Res.bind (.ok ((0 : Int) - x1)) fun x7 => (m_number_of_k1 vtop vbottom) x7 else (m_number_of_k1 vtop vbottom) x1


noncomputable def m_times (va : Rat) (vb : Rat) : Res Unit (Rat) :=
  Res.bind (Res.grd (CMulW (Rat.num va) (Rat.num vb)) ((Rat.num va) * (Rat.num vb))) fun z2 => Res.bind (Res.grd (CMulW ((Rat.den va : Nat) : Int) ((Rat.den vb : Nat) : Int)) (((Rat.den va : Nat) : Int) * ((Rat.den vb : Nat) : Int))) fun z3 => Res.bind (m_number_of z2 z3) fun z1 => .ok z1


noncomputable def m_plus (va : Rat) (vb : Rat) : Res Unit (Rat) :=
  Res.bind (Res.grd (CMulW (Rat.num va) ((Rat.den vb : Nat) : Int)) ((Rat.num va) * ((Rat.den vb : Nat) : Int))) fun z2 => Res.bind (Res.grd (CMulW (Rat.num vb) ((Rat.den va : Nat) : Int)) ((Rat.num vb) * ((Rat.den va : Nat) : Int))) fun z3 => Res.bind (Res.grd (CMulW ((Rat.den va : Nat) : Int) ((Rat.den vb : Nat) : Int)) (((Rat.den va : Nat) : Int) * ((Rat.den vb : Nat) : Int))) fun z4 => Res.bind (m_number_of (z2 + z3) z4) fun z1 => .ok z1

noncomputable def m_sum_at_k1  (s2 : Rat) : Res Unit (Rat) :=
  .ok s2
noncomputable def m_sum_at_b2 (vmaking : (List (Tx × Rat))) (x3 : (Tx × Rat)) (s2 : Rat) (n4 : Rat → Res Unit (Rat)) : Res Unit (Rat) :=
  if (!(dget vmaking x3.1).isSome) = true then .err "NoSum" () else Res.bind (Res.opt (dget vmaking x3.1)) fun z9 => Res.bind (m_times x3.2 z9) fun z8 => Res.bind (m_plus s2 z8) fun z7 => Res.bind (.ok z7) fun x6 => n4 x6
noncomputable def m_sum_at (va : (Rat × (List (Tx × Rat)))) (vmaking : (List (Tx × Rat))) : Res Unit (Rat) :=
  Res.bind (.ok va.1) fun x1 => Res.loop (m_sum_at_b2 vmaking) m_sum_at_k1 va.2 x1


noncomputable def l_mul (vone : Rat) (vother : Rat) : Res Unit (Rat) :=
  Res.bind (Res.grd (CMulW (Rat.num vone) (Rat.num vother)) ((Rat.num vone) * (Rat.num vother))) fun z2 => Res.bind (Res.grd (CMulW ((Rat.den vone : Nat) : Int) ((Rat.den vother : Nat) : Int)) (((Rat.den vone : Nat) : Int) * ((Rat.den vother : Nat) : Int))) fun z3 => Res.bind (l_num z2 z3) fun z1 => .ok z1


noncomputable def l_add (vone : Rat) (vother : Rat) : Res Unit (Rat) :=
  Res.bind (Res.grd (CMulW (Rat.num vone) ((Rat.den vother : Nat) : Int)) ((Rat.num vone) * ((Rat.den vother : Nat) : Int))) fun z2 => Res.bind (Res.grd (CMulW (Rat.num vother) ((Rat.den vone : Nat) : Int)) ((Rat.num vother) * ((Rat.den vone : Nat) : Int))) fun z3 => Res.bind (Res.grd (CMulW ((Rat.den vone : Nat) : Int) ((Rat.den vother : Nat) : Int)) (((Rat.den vone : Nat) : Int) * ((Rat.den vother : Nat) : Int))) fun z4 => Res.bind (l_num (z2 + z3) z4) fun z1 => .ok z1

noncomputable def m_sum_of_k1 (vnumber : Rat) (s3 : (List (Tx × Rat))) : Res Unit ((Rat × (List (Tx × Rat)))) :=
  Res.bind (Res.grd (List.length s3 < 64) (sortT (List.map Prod.fst s3))) fun z13 => Res.bind (Res.grd (z13.length ≤ 100000) z13) fun z11 => Res.bind (Res.calm (Res.lc (fun (x7 : Tx) (s8 : Unit) => Res.bind (Res.opt (dget s3 x7)) fun z9 => if (!decide (z9 = (0 : Rat))) = true then Res.bind (Res.opt (dget s3 x7)) fun z10 => .ok (some (x7, z10), s8) else .ok (none, s8)) z11 ())) fun z12 => .ok (vnumber, z12.1)
noncomputable def m_sum_of_b2  (x4 : (Tx × Rat)) (s3 : (List (Tx × Rat))) (n5 : (List (Tx × Rat)) → Res Unit ((Rat × (List (Tx × Rat))))) : Res Unit ((Rat × (List (Tx × Rat)))) :=
  Res.bind (m_plus ((dget s3 x4.1).getD (0 : Rat)) x4.2) fun z15 => Res.bind (Res.grd (List.length s3 < 100000) (dput s3 x4.1 z15, ())) fun x14 => n5 x14.1
noncomputable def m_sum_of (vnumber : Rat) (vpairs : (List (Tx × Rat))) : Res Unit ((Rat × (List (Tx × Rat)))) :=
  Res.bind (.ok []) fun x1 => Res.loop m_sum_of_b2 (m_sum_of_k1 vnumber) vpairs x1


noncomputable def m_sum_plus (va : (Rat × (List (Tx × Rat)))) (vb : (Rat × (List (Tx × Rat)))) : Res Unit ((Rat × (List (Tx × Rat)))) :=
  Res.bind (m_plus va.1 vb.1) fun z2 => Res.bind (Res.grd (List.length va.2 + List.length vb.2 ≤ 100000) (va.2 ++ vb.2)) fun z3 => Res.bind (m_sum_of z2 z3) fun z1 => .ok z1


noncomputable def m_sum_times (va : (Rat × (List (Tx × Rat)))) (vnumber : Rat) : Res Unit ((Rat × (List (Tx × Rat)))) :=
  Res.bind (m_times va.1 vnumber) fun z7 => Res.bind (Res.grd (va.2.length ≤ 100000) va.2) fun z4 => Res.bind (Res.calm (Res.lc (fun (x1 : (Tx × Rat)) (s2 : Unit) => Res.bind (m_times x1.2 vnumber) fun z3 => .ok (some (x1.1, z3), s2)) z4 ())) fun z5 => Res.bind (m_sum_of z7 z5.1) fun z6 => .ok z6


noncomputable def m_sum_minus (va : (Rat × (List (Tx × Rat)))) (vb : (Rat × (List (Tx × Rat)))) : Res Unit ((Rat × (List (Tx × Rat)))) :=
  Res.bind (Res.opt (mkQ (-(1 : Int)) (1 : Int))) fun z3 => Res.bind (m_sum_times vb z3) fun z2 => Res.bind (m_sum_plus va z2) fun z1 => .ok z1


noncomputable def l_right (vsums : (List (Rat × (List (Tx × Rat))))) (vnumbers : (List Rat)) (vmaking : (List (Tx × Rat))) : Res Unit (Bool) :=
  Res.bind (Res.opt (unL3 vsums)) fun z50 => Res.bind (.ok z50) fun x1 => Res.bind (Res.grd (vsums.length ≤ 100000) vsums) fun z5 => Res.bind (Res.calm (Res.lc (fun (x2 : (Rat × (List (Tx × Rat)))) (s3 : Unit) => Res.bind (m_sum_at x2 vmaking) fun z4 => .ok (some z4, s3)) z5 ())) fun z6 => Res.bind (Res.opt (unL3 z6.1)) fun z49 => Res.bind (.ok z49) fun x7 => Res.bind (Res.opt (mkQ (-(1 : Int)) (1 : Int))) fun z48 => Res.bind (l_mul x7.2.1 z48) fun z47 => Res.bind (l_add x7.1 z47) fun z46 => Res.bind (.ok z46) fun x8 => Res.bind (m_sum_plus x1.1 x1.2.1) fun z41 => Res.bind (m_sum_at z41 vmaking) fun z40 => Res.bind (l_add x7.1 x7.2.1) fun z42 => Res.bind (if (!decide (z40 = z42)) = true then .ok (true, ()) else Res.bind (m_sum_minus x1.1 x1.2.1) fun z45 => Res.bind (m_sum_at z45 vmaking) fun z44 => .ok ((!decide (z44 = x8)), ())) fun z43 => if z43.1 = true then .ok false else Res.bind (Res.opt (atI vnumbers (0 : Int))) fun z37 => Res.bind (m_sum_times x1.1 z37) fun z36 => Res.bind (Res.opt (atI vnumbers (1 : Int))) fun z39 => Res.bind (m_sum_times x1.2.2 z39) fun z38 => Res.bind (m_sum_plus z36 z38) fun z35 => Res.bind (.ok z35) fun x9 => Res.bind (m_sum_at x9 vmaking) fun z29 => Res.bind (Res.opt (atI vnumbers (0 : Int))) fun z32 => Res.bind (l_mul x7.1 z32) fun z31 => Res.bind (Res.opt (atI vnumbers (1 : Int))) fun z34 => Res.bind (l_mul x7.2.2 z34) fun z33 => Res.bind (l_add z31 z33) fun z30 => if (!decide (z29 = z30)) = true then .ok false else Res.bind (m_sum_plus x1.1 x1.2.1) fun z26 => Res.bind (m_sum_plus z26 x1.2.2) fun z25 => Res.bind (m_sum_plus x1.2.1 x1.1) fun z28 => Res.bind (m_sum_plus x1.2.2 z28) fun z27 => if (!decide (z25 = z27)) = true then .ok false else Res.bind (Res.opt (atI vnumbers (0 : Int))) fun z19 => Res.bind (m_sum_times x1.1 z19) fun z18 => Res.bind (Res.opt (atI vnumbers (1 : Int))) fun z20 => Res.bind (m_sum_times z18 z20) fun z17 => Res.bind (Res.opt (atI vnumbers (0 : Int))) fun z23 => Res.bind (Res.opt (atI vnumbers (1 : Int))) fun z24 => Res.bind (l_mul z23 z24) fun z22 => Res.bind (m_sum_times x1.1 z22) fun z21 => if (!decide (z17 = z21)) = true then .ok false else Res.bind (m_sum_minus x1.1 x1.1) fun z16 => Res.bind (.ok z16) fun x10 => Res.bind (if decide (x10 = ((0 : Rat), [])) = true then Res.bind (m_sum_at x10 []) fun z12 => Res.bind (if decide (z12 = (0 : Rat)) = true then Res.bind (m_sum_minus x1.1 x1.2.2) fun z15 => Res.bind (m_sum_plus z15 x1.2.2) fun z14 => .ok (decide (z14 = x1.1), ()) else .ok (false, ())) fun z13 => .ok (z13.1, z13.2) else .ok (false, ())) fun z11 => .ok z11.1


noncomputable def m_sum_called (va : (Rat × (List (Tx × Rat)))) (vword : Tx) : Res Unit ((Rat × (List (Tx × Rat)))) :=
  Res.bind (Res.grd (va.2.length ≤ 100000) va.2) fun z5 => Res.bind (Res.calm (Res.lc (fun (x1 : (Tx × Rat)) (s2 : Unit) => Res.bind (Res.grd (Tx.len vword + Tx.len sx_3a52ce78 ≤ 100000) (vword ++ sx_3a52ce78)) fun z3 => Res.bind (Res.grd (Tx.len z3 + Tx.len x1.1 ≤ 100000) (z3 ++ x1.1)) fun z4 => .ok (some (z4, x1.2), s2)) z5 ())) fun z6 => .ok (va.1, z6.1)

noncomputable def l_called_k1 (vsome : (Rat × (List (Tx × Rat)))) (vmaking : (List (Tx × Rat))) (vword : Tx) (s3 : (List (Tx × Rat))) : Res Unit (Bool) :=
  Res.bind (m_sum_called vsome vword) fun z13 => Res.bind (.ok z13) fun x7 => Res.bind (m_sum_at x7 s3) fun z11 => Res.bind (m_sum_at vsome vmaking) fun z12 => if (!decide (z11 = z12)) = true then .ok false else Res.bind (m_sum_of x7.1 (List.reverse x7.2)) fun z8 => Res.bind (if decide (z8 = x7) = true then Res.bind (m_sum_of vsome.1 vsome.2) fun z10 => .ok (decide (z10 = vsome), ()) else .ok (false, ())) fun z9 => .ok z9.1
noncomputable def l_called_b2 (vmaking : (List (Tx × Rat))) (vword : Tx) (x4 : Tx) (s3 : (List (Tx × Rat))) (n5 : (List (Tx × Rat)) → Res Unit (Bool)) : Res Unit (Bool) :=
  Res.bind (Res.opt (dget vmaking x4)) fun z15 => Res.bind (Res.grd (Tx.len vword + Tx.len sx_3a52ce78 ≤ 100000) (vword ++ sx_3a52ce78)) fun z16 => Res.bind (Res.grd (Tx.len z16 + Tx.len x4 ≤ 100000) (z16 ++ x4)) fun z17 => Res.bind (Res.grd (List.length s3 < 100000) (dput s3 z17 z15, ())) fun x14 => n5 x14.1
noncomputable def l_called (vsome : (Rat × (List (Tx × Rat)))) (vmaking : (List (Tx × Rat))) (vword : Tx) : Res Unit (Bool) :=
  Res.bind (.ok []) fun x1 => Res.loop (l_called_b2 vmaking vword) (l_called_k1 vsome vmaking vword) (List.map Prod.fst vmaking) x1

noncomputable def l_law_k1  (s2 : Unit) : Res Unit (Bool) :=
  .ok true
noncomputable def l_law_k2 (n4 : Unit → Res Unit (Bool)) (x9 : ((List (Rat × (List (Tx × Rat)))) × (List Int))) (x16 : ((List Rat) × (List Int))) (s25 : ((List (Tx × Rat)) × (List Int))) : Res Unit (Bool) :=
  Res.bind (l_right x9.1 x16.1 s25.1) fun z34 => Res.bind (if (!z34) = true then .ok (true, ()) else Res.bind (l_right (List.reverse x9.1) x16.1 s25.1) fun z36 => .ok ((!z36), ())) fun z35 => if z35.1 = true then .ok false else Res.bind (Res.opt (atI x9.1 (0 : Int))) fun z31 => Res.bind (Res.mapE (fun _ : (List Int) => ()) (l_take s25.2 (8 : Int))) fun z32 => Res.bind (Res.grd (Tx.len sx_425af12a ≤ 100000) (Tx.cut sx_425af12a none (some ((1 : Int) + z32.1)))) fun z33 => Res.bind (l_called z31 s25.1 z33) fun z30 => Res.bind (.ok z32.2) fun s29 => if (!z30) = true then .ok false else n4 ()
noncomputable def l_law_b3  (x26 : Tx) (s25 : ((List (Tx × Rat)) × (List Int))) (n27 : ((List (Tx × Rat)) × (List Int)) → Res Unit (Bool)) : Res Unit (Bool) :=
  Res.bind (Res.mapE (fun _ : (List Int) => ()) (l_number s25.2)) fun z38 => Res.bind (Res.grd (List.length s25.1 < 100000) (dput s25.1 x26 z38.1, z38.2)) fun x37 => n27 (x37.1, x37.2)
noncomputable def l_law_b4 (vscript : (List Int)) (x3 : Int) (s2 : Unit) (n4 : Unit → Res Unit (Bool)) : Res Unit (Bool) :=
  Res.bind (l_well vscript x3) fun z41 => Res.bind (.ok z41) fun x6 => Res.bind (Res.mapE (fun _ : (List Int) => ()) (l_take x6 (6 : Int))) fun z40 => Res.bind (Res.mapE (fun _ : (List Int) => ()) (l_names z40.2 ((1 : Int) + z40.1))) fun z39 => Res.bind (.ok (z39.1, z39.2)) fun x8 => Res.bind (Res.grd (-(2 ^ 62) ≤ (3 : Int) ∧ (3 : Int) < 2 ^ 62) (rangeL 0 (Int.toNat (3 : Int)))) fun z10 => Res.bind (Res.grd (z10.length ≤ 100000) z10) fun z14 => Res.bind (Res.calm (Res.lc (fun (x11 : Int) (s12 : (List Int)) => Res.bind (Res.mapE (fun _ : (List Int) => ()) (l_sum s12 x8.1)) fun z13 => .ok (some z13.1, z13.2)) z14 x8.2)) fun z15 => Res.bind (.ok (z15.1, z15.2)) fun x9 => Res.bind (Res.grd (-(2 ^ 62) ≤ (2 : Int) ∧ (2 : Int) < 2 ^ 62) (rangeL 0 (Int.toNat (2 : Int)))) fun z17 => Res.bind (Res.grd (z17.length ≤ 100000) z17) fun z21 => Res.bind (Res.calm (Res.lc (fun (x18 : Int) (s19 : (List Int)) => Res.bind (Res.mapE (fun _ : (List Int) => ()) (l_number s19)) fun z20 => .ok (some z20.1, z20.2)) z21 x9.2)) fun z22 => Res.bind (.ok (z22.1, z22.2)) fun x16 => Res.bind (.ok []) fun x23 => Res.loop l_law_b3 (l_law_k2 n4 x9 x16) x8.1 (x23, x16.2)
noncomputable def l_law (vscript : (List Int)) : Res Unit (Bool) :=
  Res.bind (Res.grd (-(2 ^ 62) ≤ (if (if (20 : Int) < (List.length vscript : Int) then (20 : Int) else (List.length vscript : Int)) > (1 : Int) then (if (20 : Int) < (List.length vscript : Int) then (20 : Int) else (List.length vscript : Int)) else (1 : Int)) ∧ (if (if (20 : Int) < (List.length vscript : Int) then (20 : Int) else (List.length vscript : Int)) > (1 : Int) then (if (20 : Int) < (List.length vscript : Int) then (20 : Int) else (List.length vscript : Int)) else (1 : Int)) < 2 ^ 62) (rangeL 0 (Int.toNat (if (if (20 : Int) < (List.length vscript : Int) then (20 : Int) else (List.length vscript : Int)) > (1 : Int) then (if (20 : Int) < (List.length vscript : Int) then (20 : Int) else (List.length vscript : Int)) else (1 : Int))))) fun z1 => Res.loop (l_law_b4 vscript) l_law_k1 z1 ()

end
section
set_option Elab.async false
set_option linter.all false
set_option maxRecDepth 100000
set_option maxHeartbeats 4000000
open TL PySem L2
def sx_32d10c7b : Tx := ⟨"abcdefghijklmnopqrstuvwxyz", by decide +kernel⟩
def sx_14f39952 : Tx := ⟨"abcdefghijklmnop", by decide +kernel⟩
def sx_7bc55599 : Tx := ⟨"fixed", by decide +kernel⟩
def sx_95c4bea1 : Tx := ⟨"big", by decide +kernel⟩
def sx_89f6229a : Tx := ⟨"small", by decide +kernel⟩
def xl_5bb3d9ed : List (PySem.Str × Bool) := [("FitError", true), ("NoBins", true), ("NoDealing", true), ("NoFace", true), ("NoFit", true), ("NoJoint", true), ("NoMaking", true), ("NoNumber", true), ("NoPart", true), ("NoProgram", true), ("NoRow", true), ("NoSheet", true), ("NoSize", true), ("NoSum", true), ("TooMany", true)]
def xl_f5c026f9 : List (PySem.Str × Bool) := [("FitError", false), ("NoBins", true), ("NoDealing", false), ("NoFace", false), ("NoFit", false), ("NoJoint", false), ("NoMaking", false), ("NoNumber", false), ("NoPart", false), ("NoProgram", false), ("NoRow", false), ("NoSheet", false), ("NoSize", false), ("NoSum", false), ("TooMany", false)]
def xl_e8630764 : List (PySem.Str × Bool) := [("FitError", false), ("NoBins", false), ("NoDealing", true), ("NoFace", true), ("NoFit", true), ("NoJoint", true), ("NoMaking", true), ("NoNumber", true), ("NoPart", true), ("NoProgram", true), ("NoRow", false), ("NoSheet", false), ("NoSize", false), ("NoSum", false), ("TooMany", false)]
def xl_9cbeb521 : List (PySem.Str × Bool) := [("FitError", false), ("NoBins", false), ("NoDealing", false), ("NoFace", false), ("NoFit", false), ("NoJoint", false), ("NoMaking", false), ("NoNumber", false), ("NoPart", false), ("NoProgram", false), ("NoRow", true), ("NoSheet", true), ("NoSize", true), ("NoSum", true), ("TooMany", true)]
noncomputable def l_word_k1 (vk : Int) (s3 : (Tx × (List Int))) : Res (List Int) (Tx × (List Int)) :=
  Res.bind (Res.opt (Tx.at sx_14f39952 vk)) fun z7 => Res.bind (Res.grd (Tx.len s3.1 + Tx.len z7 ≤ 100000) (s3.1 ++ z7)) fun z8 => .ok (z8, s3.2)
noncomputable def l_word_b2  (x4 : Int) (s3 : (Tx × (List Int))) (n5 : (Tx × (List Int)) → Res (List Int) (Tx × (List Int))) : Res (List Int) (Tx × (List Int)) :=
  Res.bind (l_take s3.2 (26 : Int)) fun z11 => Res.bind (Res.opt (Tx.at sx_32d10c7b z11.1)) fun z10 => Res.bind (Res.grd (Tx.len s3.1 + Tx.len z10 ≤ 100000) (s3.1 ++ z10)) fun z12 => Res.bind (.ok (z12, z11.2)) fun x9 => n5 (x9.1, x9.2)
noncomputable def l_word (vwell_here : (List Int)) (vk : Int) : Res (List Int) (Tx × (List Int)) :=
  Res.bind (.ok sx_da39a3ee) fun x1 => Res.bind (l_take vwell_here (7 : Int)) fun z13 => Res.bind (Res.grd (-(2 ^ 62) ≤ z13.1 ∧ z13.1 < 2 ^ 62) (rangeL 0 (Int.toNat z13.1))) fun z2 => Res.loop l_word_b2 (l_word_k1 vk) z2 (x1, z13.2)


noncomputable def l_size (vwell_here : (List Int)) : Res (List Int) ((Tx × Int × Int × Int) × (List Int)) :=
  Res.bind (l_take vwell_here (3 : Int)) fun z14 => Res.bind (Res.opt (atI [(1 : Int), (60 : Int), (1000000 : Int)] z14.1)) fun z13 => Res.bind (l_take z14.2 z13) fun z12 => Res.bind (.ok (((1 : Int) + z12.1), z12.2)) fun x1 => Res.bind (l_take x1.2 (3 : Int)) fun z11 => Res.bind (Res.opt (atI [(30 : Int), (1000 : Int), (1000000000000 : Int)] z11.1)) fun z10 => Res.bind (.ok (z10, z11.2)) fun x2 => Res.bind (Res.grd (CMulW (2 : Int) x2.1) ((2 : Int) * x2.1)) fun z9 => Res.bind (l_take x2.2 (z9 + (1 : Int))) fun z8 => Res.bind (.ok ((z8.1 - x2.1), z8.2)) fun x3 => Res.bind (l_word x3.2 (0 : Int)) fun z4 => Res.bind (l_take z4.2 x2.1) fun z5 => Res.bind (l_take z5.2 (4 : Int)) fun z6 => Res.bind (Res.grd (CMulW z5.1 (if decide ((0 : Int) < z6.1) = true then (1 : Int) else 0)) (z5.1 * (if decide ((0 : Int) < z6.1) = true then (1 : Int) else 0))) fun z7 => .ok ((z4.1, x3.1, (x3.1 + z7), x1.1), z6.2)


noncomputable def l_num_k58 (vtop : Int) (vbottom : Int) : Res Unit (Rat) :=
  Res.bind (l_common vtop vbottom) fun z5 => Res.bind (.ok z5) fun x1 => Res.bind (Res.grd (CDivA vtop x1) (Int.fdiv vtop x1)) fun z3 => Res.bind (Res.grd (CDivA vbottom x1) (Int.fdiv vbottom x1)) fun z4 => Res.bind (Res.opt (mkQ z3 z4)) fun z2 => .ok z2

noncomputable def l_shifts_k1  (s4 : ((List (Tx × Rat × Tx)) × (List Int))) : Res (List Int) ((List (Tx × Rat × Tx)) × (List Int)) :=
  .ok (s4.1, s4.2)
noncomputable def l_shifts_b2 (vbottom : Int) (x5 : Int) (s4 : ((List (Tx × Rat × Tx)) × (List Int))) (n6 : ((List (Tx × Rat × Tx)) × (List Int)) → Res (List Int) ((List (Tx × Rat × Tx)) × (List Int))) : Res (List Int) ((List (Tx × Rat × Tx)) × (List Int)) :=
  Res.bind (l_take s4.2 (1000000000000 : Int)) fun z14 => Res.bind (Res.mapE (fun _ => z14.2) (l_num_k58 z14.1 vbottom)) fun z13 => Res.bind (.ok (z13, z14.2)) fun x8 => Res.bind (l_word x8.2 ((1 : Int) + x5)) fun z10 => Res.bind (l_take z10.2 (3 : Int)) fun z12 => Res.bind (Res.opt (atI [sx_7bc55599, sx_95c4bea1, sx_89f6229a] z12.1)) fun z11 => Res.bind (Res.grd (List.length s4.1 < 100000) (s4.1 ++ [(z10.1, x8.1, z11)], z12.2)) fun x9 => n6 (x9.1, x9.2)
noncomputable def l_shifts (vwell_here : (List Int)) (vbottom : Int) : Res (List Int) ((List (Tx × Rat × Tx)) × (List Int)) :=
  Res.bind (.ok []) fun x1 => Res.bind (l_take vwell_here (4 : Int)) fun z15 => Res.bind (Res.grd (-(2 ^ 62) ≤ (if (z15.1 - (1 : Int)) > (0 : Int) then (z15.1 - (1 : Int)) else (0 : Int)) ∧ (if (z15.1 - (1 : Int)) > (0 : Int) then (z15.1 - (1 : Int)) else (0 : Int)) < 2 ^ 62) (rangeL 0 (Int.toNat (if (z15.1 - (1 : Int)) > (0 : Int) then (z15.1 - (1 : Int)) else (0 : Int))))) fun z3 => Res.loop (l_shifts_b2 vbottom) l_shifts_k1 z3 (x1, z15.2)


noncomputable def m_is_name (vtext : Tx) : Res Unit (Bool) :=
  Res.bind (Res.grd (Tx.len vtext ≤ 100000) (Tx.len vtext : Int)) fun z5 => Res.bind (if (decide ((1 : Int) ≤ z5) && decide (z5 ≤ (30 : Int))) = true then Res.bind (Res.grd ((Tx.signs vtext).length ≤ 100000) (Tx.signs vtext)) fun z3 => Res.bind (Res.calm (Res.lc (fun (x1 : Tx) (s2 : Unit) => .ok (some (Tx.has sx_2ac8088b x1), s2)) z3 ())) fun z4 => .ok ((List.all z4.1 id), z4.2) else .ok (false, ())) fun z6 => .ok z6.1


noncomputable def m_is_less (va : Rat) (vb : Rat) : Res Unit (Bool) :=
  Res.bind (Res.grd (CMulW (Rat.num va) ((Rat.den vb : Nat) : Int)) ((Rat.num va) * ((Rat.den vb : Nat) : Int))) fun z1 => Res.bind (Res.grd (CMulW (Rat.num vb) ((Rat.den va : Nat) : Int)) ((Rat.num vb) * ((Rat.den va : Nat) : Int))) fun z2 => .ok (decide (z1 < z2))


noncomputable def m_Size_names (vself : (Tx × Rat × Rat × (List (Tx × Rat × Tx)))) : Res Unit ((List Tx)) :=
  Res.bind (Res.grd (vself.2.2.2.length ≤ 100000) vself.2.2.2) fun z3 => Res.bind (Res.calm (Res.lc (fun (x1 : (Tx × Rat × Tx)) (s2 : Unit) => .ok (some x1.1, s2)) z3 ())) fun z4 => Res.bind (Res.grd (List.length [vself.1] + List.length z4.1 ≤ 100000) ([vself.1] ++ z4.1)) fun z5 => .ok z5

noncomputable def m_Size___init___k1 (vname : Tx) (vleast : Rat) (vmost : Rat) (vshifts : (List (Tx × Rat × Tx))) (s1 : Unit) : Res Unit ((Tx × Rat × Rat × (List (Tx × Rat × Tx)))) :=
  Res.bind (.ok (vname, ())) fun x5 => Res.bind (.ok (vleast, ())) fun x6 => Res.bind (.ok (vmost, ())) fun x7 => Res.bind (.ok (vshifts, ())) fun x8 => Res.bind (Res.mapE (fun _ => ()) (m_Size_names (x5.1, x6.1, x7.1, x8.1))) fun z10 => Res.bind (Res.grd (List.length z10 + 1 < 4096) (nset z10)) fun z9 => Res.bind (Res.mapE (fun _ => ()) (m_Size_names (x5.1, x6.1, x7.1, x8.1))) fun z11 => if decide (z9 < (List.length z11 : Int)) = true then .err "NoSize" () else .ok (x5.1, x6.1, x7.1, x8.1)
noncomputable def m_Size___init___b2  (x2 : (Tx × Rat × Tx)) (s1 : Unit) (n3 : Unit → Res Unit ((Tx × Rat × Rat × (List (Tx × Rat × Tx))))) : Res Unit ((Tx × Rat × Rat × (List (Tx × Rat × Tx)))) :=
  Res.bind (m_is_name x2.1) fun z12 => Res.bind (if (!z12) = true then .ok (true, ()) else Res.bind (m_is_less x2.2.1 (0 : Rat)) fun z14 => .ok ((z14 || (!decide (x2.2.2 ∈ [sx_7bc55599, sx_95c4bea1, sx_89f6229a]))), ())) fun z13 => if z13.1 = true then .err "NoSize" () else n3 ()
noncomputable def m_Size___init__ (vname : Tx) (vleast : Rat) (vmost : Rat) (vshifts : (List (Tx × Rat × Tx))) : Res Unit ((Tx × Rat × Rat × (List (Tx × Rat × Tx)))) :=
  Res.bind (m_is_name vname) fun z15 => Res.bind (if (!z15) = true then .ok (true, ()) else Res.bind (m_is_less vmost vleast) fun z17 => .ok (z17, ())) fun z16 => if z16.1 = true then .err "NoSize" () else Res.loop m_Size___init___b2 (m_Size___init___k1 vname vleast vmost vshifts) vshifts ()


noncomputable def m_check_count (vmany : Int) : Res Unit (Unit) :=
  if (!(decide ((1 : Int) ≤ vmany) && decide (vmany ≤ (30 : Int)))) = true then .err "NoBins" () else .ok ()


noncomputable def m_minus (va : Rat) (vb : Rat) : Res Unit (Rat) :=
  Res.bind (Res.grd (CMulW (Rat.num va) ((Rat.den vb : Nat) : Int)) ((Rat.num va) * ((Rat.den vb : Nat) : Int))) fun z2 => Res.bind (Res.grd (CMulW (Rat.num vb) ((Rat.den va : Nat) : Int)) ((Rat.num vb) * ((Rat.den va : Nat) : Int))) fun z3 => Res.bind (Res.grd (CMulW ((Rat.den va : Nat) : Int) ((Rat.den vb : Nat) : Int)) (((Rat.den va : Nat) : Int) * ((Rat.den vb : Nat) : Int))) fun z4 => Res.bind (m_number_of (z2 - z3) z4) fun z1 => .ok z1


noncomputable def m_bin_bounds (vsize : (Tx × Rat × Rat × (List (Tx × Rat × Tx)))) (vmany : Int) (vk : Int) : Res Unit ((Rat × Rat)) :=
  Res.bind (m_check_count vmany) fun z12 => Res.bind (.ok z12) fun x1 => if (!(decide ((0 : Int) ≤ vk) && decide (vk < vmany))) = true then .err "NoBins" () else Res.bind (m_minus vsize.2.2.1 vsize.2.1) fun z10 => Res.bind (Res.opt (mkQ (1 : Int) vmany)) fun z11 => Res.bind (m_times z10 z11) fun z9 => Res.bind (.ok z9) fun x2 => Res.bind (Res.opt (mkQ vk (1 : Int))) fun z5 => Res.bind (m_times x2 z5) fun z4 => Res.bind (m_plus vsize.2.1 z4) fun z3 => Res.bind (Res.opt (mkQ (vk + (1 : Int)) (1 : Int))) fun z8 => Res.bind (m_times x2 z8) fun z7 => Res.bind (m_plus vsize.2.1 z7) fun z6 => .ok (z3, z6)


noncomputable def l_whole (vfound : Int) : Res Unit (Bool) :=
  .ok (true && (!false))


noncomputable def l_is_number (vfound : Rat) (vdue : Rat) : Res Unit (Bool) :=
  Res.bind (if true = true then Res.bind (if decide (vfound = vdue) = true then Res.bind (l_whole (Rat.num vfound)) fun z3 => Res.bind (if z3 = true then Res.bind (l_whole ((Rat.den vfound : Nat) : Int)) fun z5 => .ok (z5, ()) else .ok (false, ())) fun z4 => .ok (z4.1, z4.2) else .ok (false, ())) fun z2 => .ok (z2.1, z2.2) else .ok (false, ())) fun z1 => .ok z1.1

noncomputable def l_bins_right_k1  (s2 : Unit) : Res Unit (Bool) :=
  .ok true
noncomputable def l_bins_right_b2 (vsize_here : (Tx × Rat × Rat × (List (Tx × Rat × Tx)))) (vlow : Int) (vwide : Int) (vbottom : Int) (vmany : Int) (x3 : Int) (s2 : Unit) (n4 : Unit → Res Unit (Bool)) : Res Unit (Bool) :=
  Res.bind (m_bin_bounds vsize_here vmany x3) fun z22 => Res.bind (.ok z22) fun x6 => if ((!true) || (!decide ((2 : Int) = (2 : Int)))) = true then .ok false else Res.bind (Res.grd (-(2 ^ 62) ≤ (2 : Int) ∧ (2 : Int) < 2 ^ 62) (rangeL 0 (Int.toNat (2 : Int)))) fun z8 => Res.bind (Res.grd (z8.length ≤ 100000) z8) fun z15 => Res.bind (Res.calm (Res.lc (fun (x9 : Int) (s10 : Unit) => Res.bind (Res.grd (CMulW vlow vmany) (vlow * vmany)) fun z12 => Res.bind (Res.grd (CMulW vwide (x3 + x9)) (vwide * (x3 + x9))) fun z13 => Res.bind (Res.grd (CMulW vbottom vmany) (vbottom * vmany)) fun z14 => Res.bind (l_num_k58 (z12 + z13) z14) fun z11 => .ok (some z11, s10)) z15 ())) fun z16 => Res.bind (.ok z16.1) fun x7 => Res.bind (Res.opt (atI x7 (0 : Int))) fun z18 => Res.bind (l_is_number x6.1 z18) fun z17 => Res.bind (if (!z17) = true then .ok (true, ()) else Res.bind (Res.opt (atI x7 (1 : Int))) fun z21 => Res.bind (l_is_number x6.2 z21) fun z20 => .ok ((!z20), ())) fun z19 => if z19.1 = true then .ok false else n4 ()
noncomputable def l_bins_right (vsize_here : (Tx × Rat × Rat × (List (Tx × Rat × Tx)))) (vlow : Int) (vwide : Int) (vbottom : Int) (vmany : Int) : Res Unit (Bool) :=
  Res.bind (Res.grd (-(2 ^ 62) ≤ vmany ∧ vmany < 2 ^ 62) (rangeL 0 (Int.toNat vmany))) fun z1 => Res.loop (l_bins_right_b2 vsize_here vlow vwide vbottom vmany) l_bins_right_k1 z1 ()

noncomputable def l_refused_k1  (s5 : (List Bool)) : Res Unit (Bool) :=
  .ok (decide (s5 = [true, true, false, false]))
noncomputable def l_refused_h2  (n4 : PySem.Str) : Res Unit (Bool) :=
  Res.bind (Res.opt (List.lookup n4 xl_f5c026f9)) fun z12 => Res.bind (Res.opt (List.lookup n4 xl_5bb3d9ed)) fun z13 => Res.bind (.ok [z12, z13]) fun x6 => Res.bind (Res.opt (List.lookup n4 xl_e8630764)) fun z11 => Res.bind (Res.grd (List.length x6 < 100000) (x6 ++ [z11], ())) fun x8 => Res.bind (Res.opt (List.lookup n4 xl_9cbeb521)) fun z10 => Res.bind (Res.grd (List.length x8.1 < 100000) (x8.1 ++ [z10], ())) fun x9 => l_refused_k1 x9.1
noncomputable def l_refused (vsize_here : (Tx × Rat × Rat × (List (Tx × Rat × Tx)))) (vmany : Int) (vk : Int) : Res Unit (Bool) :=
  Res.bind (.ok []) fun x1 => Res.tryE xl_5bb3d9ed (Res.bind (Res.mapE (fun _ => ()) (m_bin_bounds vsize_here vmany vk)) fun z15 => Res.bind (.ok z15) fun x14 => .ok x1) l_refused_h2 () l_refused_k1

noncomputable def l_law_k58_k1 (x3 : ((Tx × Int × Int × Int) × (List Int))) (x4 : ((List (Tx × Rat × Tx)) × (List Int))) (x5 : (Tx × Rat × Rat × (List (Tx × Rat × Tx)))) (x6 : (Int × (List Int))) (x11 : (Int × (List Int))) (s12 : Unit) : Res Unit (Bool) :=
  Res.bind (l_refused x5 x6.1 (x6.1 + x11.1)) fun z18 => if (!z18) = true then .ok false else if (!decide ((x5.1, x5.2.2.2) = (x3.1.1, x4.1))) = true then .ok false else Res.bind (l_num_k58 x3.1.2.1 x3.1.2.2.2) fun z16 => Res.bind (l_num_k58 x3.1.2.2.1 x3.1.2.2.2) fun z17 => .ok (decide ((x5.2.1, x5.2.2.1) = (z16, z17)))
noncomputable def l_law_k58_b2 (x5 : (Tx × Rat × Rat × (List (Tx × Rat × Tx)))) (x13 : (Int × Int)) (s12 : Unit) (n14 : Unit → Res Unit (Bool)) : Res Unit (Bool) :=
  Res.bind (l_refused x5 x13.1 x13.2) fun z19 => if (!z19) = true then .ok false else n14 ()
noncomputable def l_law_k58_k3 (x3 : ((Tx × Int × Int × Int) × (List Int))) (x4 : ((List (Tx × Rat × Tx)) × (List Int))) (x5 : (Tx × Rat × Rat × (List (Tx × Rat × Tx)))) (x6 : (Int × (List Int))) (s7 : Unit) : Res Unit (Bool) :=
  Res.bind (Res.mapE (fun _ : (List Int) => ()) (l_take x6.2 (1000000000000 : Int))) fun z20 => Res.bind (.ok (z20.1, z20.2)) fun x11 => Res.loop (l_law_k58_b2 x5) (l_law_k58_k1 x3 x4 x5 x6 x11) [((0 : Int), (0 : Int)), (((0 : Int) - x11.1), (0 : Int)), ((31 : Int), (0 : Int)), (((31 : Int) + x11.1), (30 : Int)), (x6.1, (-(1 : Int))), (x6.1, ((-(1 : Int)) - x11.1)), (x6.1, x6.1)] ()
noncomputable def l_law_k58_b4 (x3 : ((Tx × Int × Int × Int) × (List Int))) (x5 : (Tx × Rat × Rat × (List (Tx × Rat × Tx)))) (x8 : Int) (s7 : Unit) (n9 : Unit → Res Unit (Bool)) : Res Unit (Bool) :=
  Res.bind (l_bins_right x5 x3.1.2.1 (x3.1.2.2.1 - x3.1.2.1) x3.1.2.2.2 x8) fun z21 => if (!z21) = true then .ok false else n9 ()
noncomputable def l_law_k58 (vscript : (List Int)) : Res Unit (Bool) :=
  Res.bind (l_well vscript (0 : Int)) fun z28 => Res.bind (.ok z28) fun x1 => Res.bind (Res.mapE (fun _ : (List Int) => ()) (l_size x1)) fun z27 => Res.bind (.ok (z27.1, z27.2)) fun x3 => Res.bind (Res.mapE (fun _ : (List Int) => ()) (l_shifts x3.2 x3.1.2.2.2)) fun z26 => Res.bind (.ok (z26.1, z26.2)) fun x4 => Res.bind (l_num_k58 x3.1.2.1 x3.1.2.2.2) fun z24 => Res.bind (l_num_k58 x3.1.2.2.1 x3.1.2.2.2) fun z25 => Res.bind (Res.mapE (fun _ => ()) (m_Size___init__ x3.1.1 z24 z25 x4.1)) fun z23 => Res.bind (.ok z23) fun x5 => Res.bind (Res.mapE (fun _ : (List Int) => ()) (l_take x4.2 (30 : Int))) fun z22 => Res.bind (.ok (((1 : Int) + z22.1), z22.2)) fun x6 => Res.loop (l_law_k58_b4 x3 x5) (l_law_k58_k3 x3 x4 x5 x6) [x6.1, (1 : Int), (30 : Int)] ()

end
section
set_option Elab.async false
set_option linter.all false
set_option maxRecDepth 100000
set_option maxHeartbeats 4000000
open TL PySem L2
def sx_d7dacae2 : Tx := ⟨"zz", by decide +kernel⟩

noncomputable def l_names_k07 (vwell_here : (List Int)) (vmany : Int) : Res (List Int) ((List Tx) × (List Int)) :=
  Res.bind (.ok sx_2ac8088b) fun x1 => Res.bind (Res.grd (-(2 ^ 62) ≤ (30 : Int) ∧ (30 : Int) < 2 ^ 62) (rangeL 0 (Int.toNat (30 : Int)))) fun z3 => Res.bind (Res.grd (z3.length ≤ 100000) z3) fun z8 => Res.bind (Res.calm (Res.lc (fun (x4 : Int) (s5 : (List Int)) => Res.bind (Res.mapE (fun _ : (List Int) => ()) (l_take s5 (37 : Int))) fun z7 => Res.bind (Res.opt (Tx.at x1 z7.1)) fun z6 => .ok (some z6, z7.2)) z8 vwell_here)) fun z9 => Res.bind (Res.grd (joinC sx_da39a3ee z9.1) (Tx.join sx_da39a3ee z9.1)) fun z40 => Res.bind (.ok (z40, z9.2)) fun x2 => Res.bind (l_take x2.2 (3 : Int)) fun z39 => Res.bind (.ok z39.2) fun s10 => if decide (z39.1 = (1 : Int)) = true then Res.bind (l_take s10 (30 : Int)) fun z20 => Res.bind (.ok (z20.1, z20.2)) fun x11 => Res.bind (Res.grd (-(2 ^ 62) ≤ vmany ∧ vmany < 2 ^ 62) (rangeL 0 (Int.toNat vmany))) fun z12 => Res.bind (Res.grd (z12.length ≤ 100000) z12) fun z18 => Res.bind (Res.calm (Res.lc (fun (x13 : Int) (s14 : Unit) => Res.bind (Res.grd (CMulW (7 : Int) x13) ((7 : Int) * x13)) fun z15 => Res.bind (Res.grd ((30 : Int) ≠ 0) (Int.fmod (x11.1 + z15) (30 : Int))) fun z16 => Res.bind (Res.grd (Tx.len x2.1 ≤ 100000) (Tx.cut x2.1 none (some ((1 : Int) + z16)))) fun z17 => .ok (some z17, s14)) z18 ())) fun z19 => .ok (z19.1, x11.2) else Res.bind (l_take s10 (30 : Int)) fun z38 => Res.bind (.ok (((1 : Int) + z38.1), z38.2)) fun x21 => Res.bind (l_take x21.2 x21.1) fun z37 => Res.bind (.ok (z37.1, z37.2)) fun x22 => Res.bind (l_take x22.2 (37 : Int)) fun z36 => Res.bind (.ok (z36.1, z36.2)) fun x23 => Res.bind (Res.grd (-(2 ^ 62) ≤ vmany ∧ vmany < 2 ^ 62) (rangeL 0 (Int.toNat vmany))) fun z24 => Res.bind (Res.grd (z24.length ≤ 100000) z24) fun z34 => Res.bind (Res.calm (Res.lc (fun (x25 : Int) (s26 : Unit) => Res.bind (Res.grd (Tx.len x2.1 ≤ 100000) (Tx.cut x2.1 none (some x22.1))) fun z27 => Res.bind (Res.grd (CMulW (5 : Int) x25) ((5 : Int) * x25)) fun z29 => Res.bind (Res.grd ((37 : Int) ≠ 0) (Int.fmod (x23.1 + z29) (37 : Int))) fun z30 => Res.bind (Res.opt (Tx.at x1 z30)) fun z28 => Res.bind (Res.grd (Tx.len z27 + Tx.len z28 ≤ 100000) (z27 ++ z28)) fun z31 => Res.bind (Res.grd (Tx.len x2.1 ≤ 100000) (Tx.cut x2.1 (some (x22.1 + (1 : Int))) (some x21.1))) fun z32 => Res.bind (Res.grd (Tx.len z31 + Tx.len z32 ≤ 100000) (z31 ++ z32)) fun z33 => .ok (some z33, s26)) z34 ())) fun z35 => .ok (z35.1, x23.2)


noncomputable def l_some (vwell_here : (List Int)) (vkind : Int) : Res (List Int) (Rat × (List Int)) :=
  if decide (vkind = (4 : Int)) = true then Res.bind (Res.grd (CMulW (2 : Int) (100000000000000000 : Int)) ((2 : Int) * (100000000000000000 : Int))) fun z3 => Res.bind (l_take vwell_here (z3 + (1 : Int))) fun z2 => Res.bind (Res.opt (mkQ (z2.1 - (100000000000000000 : Int)) (1 : Int))) fun z1 => .ok (z1, z2.2) else if decide (vkind = (3 : Int)) = true then Res.bind (Res.grd (CMulW (2 : Int) (1000000 : Int)) ((2 : Int) * (1000000 : Int))) fun z6 => Res.bind (l_take vwell_here (z6 + (1 : Int))) fun z5 => Res.bind (l_take z5.2 (1000 : Int)) fun z7 => Res.bind (Res.mapE (fun _ => z7.2) (l_num (z5.1 - (1000000 : Int)) ((1 : Int) + z7.1))) fun z4 => .ok (z4, z7.2) else if decide (vkind = (2 : Int)) = true then Res.bind (Res.grd (CMulW (2 : Int) (1000000000000000 : Int)) ((2 : Int) * (1000000000000000 : Int))) fun z10 => Res.bind (l_take vwell_here (z10 + (1 : Int))) fun z9 => Res.bind (Res.opt (mkQ (z9.1 - (1000000000000000 : Int)) (1 : Int))) fun z8 => .ok (z8, z9.2) else Res.bind (l_take vwell_here (21 : Int)) fun z12 => Res.bind (l_take z12.2 (5 : Int)) fun z14 => Res.bind (Res.opt (atI [(1 : Int), (1 : Int), (2 : Int), (3 : Int), (6 : Int)] z14.1)) fun z13 => Res.bind (Res.mapE (fun _ => z14.2) (l_num (z12.1 - (10 : Int)) z13)) fun z11 => .ok (z11, z14.2)


noncomputable def l_wide (vwell_here : (List Int)) (vkind : Int) : Res (List Int) (Rat × (List Int)) :=
  Res.bind (l_some vwell_here vkind) fun z5 => Res.bind (.ok (z5.1, z5.2)) fun x1 => Res.bind (l_take x1.2 (8 : Int)) fun z4 => Res.bind (.ok z4.2) fun s2 => if decide (z4.1 = (1 : Int)) = true then .ok ((0 : Rat), s2) else Res.bind (Res.opt (mkQ (if (Rat.num x1.1) < 0 then -(Rat.num x1.1) else (Rat.num x1.1)) ((Rat.den x1.1 : Nat) : Int))) fun z3 => .ok (z3, s2)

noncomputable def l_sizes_k1  (s6 : ((List (Tx × Rat × Rat × (List (Tx × Rat × Tx)))) × (List Tx) × (List Int))) : Res (List Int) ((List (Tx × Rat × Rat × (List (Tx × Rat × Tx)))) × (List Int)) :=
  .ok (s6.1, s6.2.2)
noncomputable def l_sizes_k2 (s6 : ((List (Tx × Rat × Rat × (List (Tx × Rat × Tx)))) × (List Tx) × (List Int))) (n7 : ((List (Tx × Rat × Rat × (List (Tx × Rat × Tx)))) × (List Tx) × (List Int)) → Res (List Int) ((List (Tx × Rat × Rat × (List (Tx × Rat × Tx)))) × (List Int))) (x9 : (Tx × (List Tx))) (x10 : (Rat × (List Int))) (x11 : (Rat × (List Int))) (s15 : ((List (Tx × Rat × Tx)) × (List Tx) × (List Int))) : Res (List Int) ((List (Tx × Rat × Rat × (List (Tx × Rat × Tx)))) × (List Int)) :=
  Res.bind (Res.grd (List.length s6.1 < 100000) (s6.1 ++ [(x9.1, x10.1, x11.1, s15.1)], ())) fun x19 => n7 (x19.1, s15.2.1, s15.2.2)
noncomputable def l_sizes_k3 (n17 : ((List (Tx × Rat × Tx)) × (List Tx) × (List Int)) → Res (List Int) ((List (Tx × Rat × Rat × (List (Tx × Rat × Tx)))) × (List Int))) (s20 : ((List (Tx × Rat × Tx)) × (List Tx) × (List Int))) : Res (List Int) ((List (Tx × Rat × Rat × (List (Tx × Rat × Tx)))) × (List Int)) :=
  n17 (s20.1, s20.2.1, s20.2.2)
noncomputable def l_sizes_b4 (x1 : (Int × (List Int))) (x16 : Int) (s15 : ((List (Tx × Rat × Tx)) × (List Tx) × (List Int))) (n17 : ((List (Tx × Rat × Tx)) × (List Tx) × (List Int)) → Res (List Int) ((List (Tx × Rat × Rat × (List (Tx × Rat × Tx)))) × (List Int))) : Res (List Int) ((List (Tx × Rat × Rat × (List (Tx × Rat × Tx)))) × (List Int)) :=
  if (!decide (s15.2.1 = [])) = true then Res.bind (l_wide s15.2.2 x1.1) fun z27 => Res.bind (.ok (z27.1, z27.2)) fun x22 => Res.bind (Res.opt (popL (s15.2.1, x22.2).1)) fun z24 => Res.bind (Res.mapE (fun y => y) (l_take ((z24.2, (s15.2.1, x22.2).2).2) (3 : Int))) fun z26 => Res.bind (Res.opt (atI [sx_7bc55599, sx_95c4bea1, sx_89f6229a] z26.1)) fun z25 => Res.bind (Res.grd (List.length s15.1 < 100000) (s15.1 ++ [(z24.1, x22.1, z25)], ((z24.2, (s15.2.1, x22.2).2).1, z26.2))) fun x23 => (l_sizes_k3 n17) (x23.1, x23.2.1, x23.2.2) else (l_sizes_k3 n17) (s15.1, s15.2.1, s15.2.2)
noncomputable def l_sizes_b5 (x1 : (Int × (List Int))) (s6 : ((List (Tx × Rat × Rat × (List (Tx × Rat × Tx)))) × (List Tx) × (List Int))) (n7 : ((List (Tx × Rat × Rat × (List (Tx × Rat × Tx)))) × (List Tx) × (List Int)) → Res (List Int) ((List (Tx × Rat × Rat × (List (Tx × Rat × Tx)))) × (List Int))) : Res (List Int) ((List (Tx × Rat × Rat × (List (Tx × Rat × Tx)))) × (List Int)) :=
  Res.bind (Res.opt (popL s6.2.1)) fun z33 => Res.bind (.ok (z33.1, z33.2)) fun x9 => Res.bind (l_some s6.2.2 x1.1) fun z32 => Res.bind (.ok (z32.1, z32.2)) fun x10 => Res.bind (l_wide x10.2 x1.1) fun z31 => Res.bind (Res.mapE (fun _ => z31.2) (l_add x10.1 z31.1)) fun z30 => Res.bind (.ok (z30, z31.2)) fun x11 => Res.bind (.ok []) fun x12 => Res.bind (l_take x11.2 (6 : Int)) fun z29 => Res.bind (Res.opt (atI [(0 : Int), (0 : Int), (1 : Int), (1 : Int), (2 : Int), (3 : Int)] z29.1)) fun z28 => Res.bind (Res.grd (-(2 ^ 62) ≤ z28 ∧ z28 < 2 ^ 62) (rangeL 0 (Int.toNat z28))) fun z14 => Res.loop (l_sizes_b4 x1) (l_sizes_k2 s6 n7 x9 x10 x11) z14 (x12, x9.2, z29.2)
noncomputable def l_sizes (vwell_here : (List Int)) (vmany : Int) (vmost : Int) (vkinds : Int) : Res (List Int) ((List (Tx × Rat × Rat × (List (Tx × Rat × Tx)))) × (List Int)) :=
  Res.bind (l_take vwell_here vkinds) fun z35 => Res.bind (.ok (z35.1, z35.2)) fun x1 => Res.bind (l_names_k07 x1.2 vmost) fun z34 => Res.bind (.ok (z34.1, z34.2)) fun x2 => Res.bind (.ok []) fun x4 => Res.wloop (fun s6 n7 => if ((!decide (s6.2.1 = [])) && decide ((List.length s6.1 : Int) < vmany)) = true then (l_sizes_b5 x1) s6 n7 else l_sizes_k1 s6) Res.fuel (x4, x2.1, x2.2)


noncomputable def m_Size_names_k07 (vself : (Tx × Rat × Rat × (List (Tx × Rat × Tx)))) : Res Unit ((List Tx)) :=
  Res.bind (Res.grd (vself.2.2.2.length ≤ 100000) vself.2.2.2) fun z3 => Res.bind (Res.calm (Res.lc (fun (x1 : (Tx × Rat × Tx)) (s2 : Unit) => .ok (some x1.1, s2)) z3 ())) fun z4 => Res.bind (Res.grd (([vself.1]).length + (z4.1).length ≤ 100000) ([vself.1] ++ z4.1)) fun z5 => .ok z5

noncomputable def m_Size___init___k07_k1 (vname : Tx) (vleast : Rat) (vmost : Rat) (vshifts : (List (Tx × Rat × Tx))) (s1 : Unit) : Res Unit ((Tx × Rat × Rat × (List (Tx × Rat × Tx)))) :=
  Res.bind (.ok (vname, ())) fun x5 => Res.bind (.ok (vleast, ())) fun x6 => Res.bind (.ok (vmost, ())) fun x7 => Res.bind (.ok (vshifts, ())) fun x8 => Res.bind (Res.mapE (fun _ => ()) (m_Size_names_k07 (x5.1, x6.1, x7.1, x8.1))) fun z10 => Res.bind (Res.grd (List.length z10 + 1 < 4096) (nset z10)) fun z9 => Res.bind (Res.mapE (fun _ => ()) (m_Size_names_k07 (x5.1, x6.1, x7.1, x8.1))) fun z11 => if decide (z9 < (List.length z11 : Int)) = true then .err "NoSize" () else .ok (x5.1, x6.1, x7.1, x8.1)
noncomputable def m_Size___init___k07_b2  (x2 : (Tx × Rat × Tx)) (s1 : Unit) (n3 : Unit → Res Unit ((Tx × Rat × Rat × (List (Tx × Rat × Tx))))) : Res Unit ((Tx × Rat × Rat × (List (Tx × Rat × Tx)))) :=
  Res.bind (m_is_name x2.1) fun z12 => Res.bind (if (!z12) = true then .ok (true, ()) else Res.bind (m_is_less x2.2.1 (0 : Rat)) fun z14 => .ok ((z14 || (!decide (x2.2.2 ∈ [sx_7bc55599, sx_95c4bea1, sx_89f6229a]))), ())) fun z13 => if z13.1 = true then .err "NoSize" () else n3 ()
noncomputable def m_Size___init___k07 (vname : Tx) (vleast : Rat) (vmost : Rat) (vshifts : (List (Tx × Rat × Tx))) : Res Unit ((Tx × Rat × Rat × (List (Tx × Rat × Tx)))) :=
  Res.bind (m_is_name vname) fun z15 => Res.bind (if (!z15) = true then .ok (true, ()) else Res.bind (m_is_less vmost vleast) fun z17 => .ok (z17, ())) fun z16 => if z16.1 = true then .err "NoSize" () else Res.loop m_Size___init___k07_b2 (m_Size___init___k07_k1 vname vleast vmost vshifts) vshifts ()


noncomputable def l_is (vfound : Rat) (vdue_here : Rat) : Res Unit (Bool) :=
  if ((!true) || ((!decide ((2 : Int) = (2 : Int))) || (!decide (vfound = vdue_here)))) = true then .ok false else Res.bind (Res.grd ([Rat.num vfound, ((Rat.den vfound : Nat) : Int)].length ≤ 100000) [Rat.num vfound, ((Rat.den vfound : Nat) : Int)]) fun z7 => Res.bind (Res.calm (Res.lc (fun (x5 : Int) (s6 : Unit) => .ok (some (true && (!false)), s6)) z7 ())) fun z8 => .ok (!decide (false ∈ z8.1))


noncomputable def l_fields (vmade : (Tx × Rat × Rat × (List (Tx × Rat × Tx)))) (vsize : (Tx × Rat × Rat × (List (Tx × Rat × Tx)))) : Res Unit (Bool) :=
  Res.bind (if (!decide (vmade.1 = vsize.1)) = true then .ok (true, ()) else Res.bind (l_is vmade.2.1 vsize.2.1) fun z13 => Res.bind (if (!z13) = true then .ok (true, ()) else Res.bind (l_is vmade.2.2.1 vsize.2.2.1) fun z15 => .ok ((!z15), ())) fun z14 => .ok (z14.1, z14.2)) fun z12 => if z12.1 = true then .ok false else if ((!true) || (!decide (vmade.2.2.2 = vsize.2.2.2))) = true then .ok false else Res.bind (Res.grd (vsize.2.2.2.length ≤ 100000) vsize.2.2.2) fun z4 => Res.bind (Res.calm (Res.lc (fun (x2 : (Tx × Rat × Tx)) (s3 : Unit) => .ok (some x2.1, s3)) z4 ())) fun z5 => Res.bind (Res.grd (List.length [vsize.1] + List.length z5.1 ≤ 100000) ([vsize.1] ++ z5.1)) fun z11 => Res.bind (.ok z11) fun x1 => Res.bind (Res.mapE (fun _ => ()) (m_Size_names_k07 vmade)) fun z10 => Res.bind (.ok z10) fun x6 => if ((!true) || (!decide (x6 = x1))) = true then .ok false else Res.bind (Res.grd (List.length x6 < 100000) (x6 ++ [sx_d7dacae2], ())) fun x8 => Res.bind (Res.mapE (fun _ => ()) (m_Size_names_k07 vmade)) fun z9 => .ok (decide (z9 = x1))

noncomputable def m_Size___init___k07_2_k1 (vname : Tx) (vleast : Rat) (vmost : Rat) (x1 : (List (Tx × Rat × Tx))) (s2 : Unit) : Res Unit ((Tx × Rat × Rat × (List (Tx × Rat × Tx)))) :=
  Res.bind (.ok (vname, ())) fun x6 => Res.bind (.ok (vleast, ())) fun x7 => Res.bind (.ok (vmost, ())) fun x8 => Res.bind (.ok (x1, ())) fun x9 => Res.bind (Res.mapE (fun _ => ()) (m_Size_names_k07 (x6.1, x7.1, x8.1, x9.1))) fun z11 => Res.bind (Res.grd (List.length z11 + 1 < 4096) (nset z11)) fun z10 => Res.bind (Res.mapE (fun _ => ()) (m_Size_names_k07 (x6.1, x7.1, x8.1, x9.1))) fun z12 => if decide (z10 < (List.length z12 : Int)) = true then .err "NoSize" () else .ok (x6.1, x7.1, x8.1, x9.1)
noncomputable def m_Size___init___k07_2_b2  (x3 : (Tx × Rat × Tx)) (s2 : Unit) (n4 : Unit → Res Unit ((Tx × Rat × Rat × (List (Tx × Rat × Tx))))) : Res Unit ((Tx × Rat × Rat × (List (Tx × Rat × Tx)))) :=
  Res.bind (m_is_name x3.1) fun z13 => Res.bind (if (!z13) = true then .ok (true, ()) else Res.bind (m_is_less x3.2.1 (0 : Rat)) fun z15 => .ok ((z15 || (!decide (x3.2.2 ∈ [sx_7bc55599, sx_95c4bea1, sx_89f6229a]))), ())) fun z14 => if z14.1 = true then .err "NoSize" () else n4 ()
noncomputable def m_Size___init___k07_2 (vname : Tx) (vleast : Rat) (vmost : Rat) (vshifts : Unit) : Res Unit ((Tx × Rat × Rat × (List (Tx × Rat × Tx)))) :=
  Res.bind (m_is_name vname) fun z16 => Res.bind (if (!z16) = true then .ok (true, ()) else Res.bind (m_is_less vmost vleast) fun z18 => .ok (z18, ())) fun z17 => if z17.1 = true then .err "NoSize" () else Res.bind (.ok []) fun x1 => Res.loop m_Size___init___k07_2_b2 (m_Size___init___k07_2_k1 vname vleast vmost x1) x1 ()


noncomputable def l_less (vone : Rat) (vother : Rat) : Res Unit (Rat) :=
  Res.bind (Res.opt (mkQ ((0 : Int) - (Rat.num vother)) ((Rat.den vother : Nat) : Int))) fun z2 => Res.bind (l_add vone z2) fun z1 => .ok z1


noncomputable def l_value (vwell_here : (List Int)) (vsize : (Tx × Rat × Rat × (List (Tx × Rat × Tx)))) : Res (List Int) (Rat × (List Int)) :=
  Res.bind (l_take vwell_here (4 : Int)) fun z8 => Res.bind (.ok (((1 : Int) + z8.1), z8.2)) fun x1 => Res.bind (l_take x1.2 (x1.1 + (1 : Int))) fun z7 => Res.bind (Res.mapE (fun _ => z7.2) (l_num z7.1 x1.1)) fun z6 => Res.bind (.ok (z6, z7.2)) fun x2 => Res.bind (Res.mapE (fun _ => x2.2) (l_less vsize.2.2.1 vsize.2.1)) fun z5 => Res.bind (Res.mapE (fun _ => x2.2) (l_mul x2.1 z5)) fun z4 => Res.bind (Res.mapE (fun _ => x2.2) (l_add vsize.2.1 z4)) fun z3 => .ok (z3, x2.2)

noncomputable def m_Size_room_k1 (vshift : Tx) (s3 : (List (Tx × Rat))) : Res Unit (Rat) :=
  Res.bind (Res.opt (dget s3 vshift)) fun z7 => .ok z7
noncomputable def m_Size_room_b2 (vself : (Tx × Rat × Rat × (List (Tx × Rat × Tx)))) (vvalue : Rat) (x4 : (Tx × Rat × Tx)) (s3 : (List (Tx × Rat))) (n5 : (List (Tx × Rat)) → Res Unit (Rat)) : Res Unit (Rat) :=
  Res.bind (m_minus vvalue vself.2.1) fun z12 => Res.bind (m_minus vself.2.2.1 vvalue) fun z13 => Res.bind (.ok (dof [(sx_7bc55599, (0 : Rat)), (sx_95c4bea1, z12), (sx_89f6229a, z13)])) fun x8 => Res.bind (Res.opt (dget x8 x4.2.2)) fun z11 => Res.bind (m_plus x4.2.1 z11) fun z10 => Res.bind (Res.grd (List.length s3 < 100000) (dput s3 x4.1 z10, ())) fun x9 => n5 x9.1
noncomputable def m_Size_room (vself : (Tx × Rat × Rat × (List (Tx × Rat × Tx)))) (vshift : Tx) (vvalue : Rat) : Res Unit (Rat) :=
  Res.bind (.ok []) fun x1 => Res.loop (m_Size_room_b2 vself vvalue) (m_Size_room_k1 vshift) vself.2.2.2 x1


noncomputable def l_due (vsize : (Tx × Rat × Rat × (List (Tx × Rat × Tx)))) (vallowance : Rat) (vway : Tx) (vvalue_here : Rat) : Res Unit (Rat) :=
  if decide (vway = sx_7bc55599) = true then .ok vallowance else if decide (vway = sx_95c4bea1) = true then Res.bind (l_less vvalue_here vsize.2.1) fun z2 => Res.bind (l_add vallowance z2) fun z1 => .ok z1 else Res.bind (l_less vsize.2.2.1 vvalue_here) fun z4 => Res.bind (l_add vallowance z4) fun z3 => .ok z3

noncomputable def l_right_k07_k1 (vsize : (Tx × Rat × Rat × (List (Tx × Rat × Tx)))) (x3 : (Tx × Rat × Rat × (List (Tx × Rat × Tx)))) (s6 : (List Int)) : Res (List Int) (Bool × (List Int)) :=
  Res.bind (Res.mapE (fun _ => s6) (l_fields x3 vsize)) fun z10 => .ok (z10, s6)
noncomputable def l_right_k07_k2 (s6 : (List Int)) (n8 : (List Int) → Res (List Int) (Bool × (List Int))) (s11 : Unit) : Res (List Int) (Bool × (List Int)) :=
  n8 s6
noncomputable def l_right_k07_b3 (vsize : (Tx × Rat × Rat × (List (Tx × Rat × Tx)))) (x3 : (Tx × Rat × Rat × (List (Tx × Rat × Tx)))) (s6 : (List Int)) (x7 : Rat) (x12 : (Tx × Rat × Tx)) (s11 : Unit) (n13 : Unit → Res (List Int) (Bool × (List Int))) : Res (List Int) (Bool × (List Int)) :=
  Res.bind (Res.mapE (fun _ => s6) (m_Size_room x3 x12.1 x7)) fun z16 => Res.bind (Res.mapE (fun _ => s6) (l_due vsize x12.2.1 x12.2.2 x7)) fun z17 => Res.bind (Res.mapE (fun _ => s6) (l_is z16 z17)) fun z15 => if (!z15) = true then .ok (false, s6) else n13 ()
noncomputable def l_right_k07_b4 (vsize : (Tx × Rat × Rat × (List (Tx × Rat × Tx)))) (x3 : (Tx × Rat × Rat × (List (Tx × Rat × Tx)))) (x7 : Rat) (s6 : (List Int)) (n8 : (List Int) → Res (List Int) (Bool × (List Int))) : Res (List Int) (Bool × (List Int)) :=
  Res.loop (l_right_k07_b3 vsize x3 s6 x7) (l_right_k07_k2 s6 n8) vsize.2.2.2 ()
noncomputable def l_right_k07 (vwell_here : (List Int)) (vsize : (Tx × Rat × Rat × (List (Tx × Rat × Tx)))) : Res (List Int) (Bool × (List Int)) :=
  Res.bind (.ok vsize.2.2.2) fun x1 => Res.bind (Res.mapE (fun _ => vwell_here) (m_Size___init___k07 vsize.1 vsize.2.1 vsize.2.2.1 x1)) fun z26 => Res.bind (.ok z26) fun x3 => Res.bind (Res.mapE (fun _ => vwell_here) (l_fields x3 vsize)) fun z25 => if ((!z25) || (!decide (x1 = vsize.2.2.2))) = true then .ok (false, vwell_here) else Res.bind (.ok ([], ())) fun x4 => Res.bind (Res.grd (List.length x4.1 < 100000) (x4.1 ++ [(sx_d7dacae2, (1 : Rat), sx_7bc55599)], ())) fun x5 => Res.bind (if decide (vsize.2.2.2 = []) = true then Res.bind (Res.mapE (fun _ => vwell_here) (m_Size___init___k07_2 vsize.1 vsize.2.1 vsize.2.2.1 ())) fun z24 => Res.bind (Res.mapE (fun _ => vwell_here) (l_fields z24 vsize)) fun z23 => .ok ((!z23), ()) else .ok (false, ())) fun z22 => if z22.1 = true then .ok (false, vwell_here) else Res.bind (Res.mapE (fun _ => vwell_here) (m_Size___init___k07 vsize.1 vsize.2.1 vsize.2.2.1 vsize.2.2.2)) fun z21 => Res.bind (Res.mapE (fun _ => vwell_here) (l_fields z21 vsize)) fun z20 => if (!z20) = true then .ok (false, vwell_here) else Res.bind (l_value vwell_here vsize) fun z18 => Res.bind (l_value z18.2 vsize) fun z19 => Res.loop (l_right_k07_b4 vsize x3) (l_right_k07_k1 vsize x3) [vsize.2.1, vsize.2.2.1, z18.1, z19.1] z19.2

noncomputable def l_law_k07_k1  (s2 : Unit) : Res Unit (Bool) :=
  .ok true
noncomputable def l_law_k07_k2 (n4 : Unit → Res Unit (Bool)) (s8 : (List Int)) : Res Unit (Bool) :=
  n4 ()
noncomputable def l_law_k07_b3  (x9 : (Tx × Rat × Rat × (List (Tx × Rat × Tx)))) (s8 : (List Int)) (n10 : (List Int) → Res Unit (Bool)) : Res Unit (Bool) :=
  Res.bind (Res.mapE (fun _ : (List Int) => ()) (l_right_k07 s8 x9)) fun z13 => Res.bind (.ok z13.2) fun s12 => if (!z13.1) = true then .ok false else n10 s12
noncomputable def l_law_k07_b4 (vscript : (List Int)) (x3 : Int) (s2 : Unit) (n4 : Unit → Res Unit (Bool)) : Res Unit (Bool) :=
  Res.bind (l_well vscript x3) fun z16 => Res.bind (.ok z16) fun x6 => Res.bind (Res.mapE (fun _ : (List Int) => ()) (l_take x6 (4 : Int))) fun z15 => Res.bind (Res.mapE (fun _ : (List Int) => ()) (l_sizes z15.2 ((1 : Int) + z15.1) (12 : Int) (5 : Int))) fun z14 => Res.loop l_law_k07_b3 (l_law_k07_k2 n4) z14.1 z14.2
noncomputable def l_law_k07 (vscript : (List Int)) : Res Unit (Bool) :=
  Res.bind (Res.grd (-(2 ^ 62) ≤ (if (if (6 : Int) < (List.length vscript : Int) then (6 : Int) else (List.length vscript : Int)) > (1 : Int) then (if (6 : Int) < (List.length vscript : Int) then (6 : Int) else (List.length vscript : Int)) else (1 : Int)) ∧ (if (if (6 : Int) < (List.length vscript : Int) then (6 : Int) else (List.length vscript : Int)) > (1 : Int) then (if (6 : Int) < (List.length vscript : Int) then (6 : Int) else (List.length vscript : Int)) else (1 : Int)) < 2 ^ 62) (rangeL 0 (Int.toNat (if (if (6 : Int) < (List.length vscript : Int) then (6 : Int) else (List.length vscript : Int)) > (1 : Int) then (if (6 : Int) < (List.length vscript : Int) then (6 : Int) else (List.length vscript : Int)) else (1 : Int))))) fun z1 => Res.loop (l_law_k07_b4 vscript) l_law_k07_k1 z1 ()

end
section
set_option Elab.async false
set_option linter.all false
set_option maxRecDepth 100000
set_option synthInstance.maxSize 4000
set_option maxHeartbeats 4000000
open TL PySem L2
def xl_a7d8e757 : List (PySem.Str × Bool) := [("FitError", false), ("NoBins", false), ("NoDealing", true), ("NoFace", false), ("NoFit", false), ("NoJoint", false), ("NoMaking", false), ("NoNumber", false), ("NoPart", false), ("NoProgram", false), ("NoRow", false), ("NoSheet", false), ("NoSize", false), ("NoSum", false), ("TooMany", false)]
def xl_0592de21 : List (PySem.Str × Bool) := [("FitError", false), ("NoBins", true), ("NoDealing", false), ("NoFace", true), ("NoFit", true), ("NoJoint", true), ("NoMaking", true), ("NoNumber", true), ("NoPart", true), ("NoProgram", true), ("NoRow", false), ("NoSheet", false), ("NoSize", false), ("NoSum", false), ("TooMany", false)]
noncomputable def l_steps_k1  (s4 : ((List (Rat × Rat × Int)) × (List Int))) : Res (List Int) ((List (Rat × Rat × Int)) × (List Int)) :=
  .ok (s4.1, s4.2)
noncomputable def l_steps_b2  (x5 : Int) (s4 : ((List (Rat × Rat × Int)) × (List Int))) (n6 : ((List (Rat × Rat × Int)) × (List Int)) → Res (List Int) ((List (Rat × Rat × Int)) × (List Int))) : Res (List Int) ((List (Rat × Rat × Int)) × (List Int)) :=
  Res.bind (l_take s4.2 (2001 : Int)) fun z21 => Res.bind (.ok ((z21.1 - (1000 : Int)), z21.2)) fun x8 => Res.bind (l_take x8.2 (200 : Int)) fun z18 => Res.bind (l_take z18.2 (2 : Int)) fun z19 => Res.bind (Res.grd (CMulW z18.1 z19.1) (z18.1 * z19.1)) fun z20 => Res.bind (.ok ((x8.1 + z20), z19.2)) fun x9 => Res.bind (l_take x9.2 (9 : Int)) fun z15 => Res.bind (l_take z15.2 ((100000000000000000 : Int) + (1 : Int))) fun z16 => Res.bind (l_take z16.2 (2 : Int)) fun z17 => Res.bind (Res.opt (atI [z15.1, z16.1] z17.1)) fun z14 => Res.bind (.ok (z14, z17.2)) fun x10 => Res.bind (Res.mapE (fun _ => x10.2) (l_num_k58 x8.1 (60 : Int))) fun z12 => Res.bind (Res.mapE (fun _ => x10.2) (l_num_k58 x9.1 (60 : Int))) fun z13 => Res.bind (Res.grd (List.length s4.1 < 100000) (s4.1 ++ [(z12, z13, x10.1)], ())) fun x11 => n6 (x11.1, x10.2)
noncomputable def l_steps (vwell_here : (List Int)) (vmany : Int) : Res (List Int) ((List (Rat × Rat × Int)) × (List Int)) :=
  Res.bind (.ok []) fun x1 => Res.bind (Res.grd (-(2 ^ 62) ≤ vmany ∧ vmany < 2 ^ 62) (rangeL 0 (Int.toNat vmany))) fun z3 => Res.loop l_steps_b2 l_steps_k1 z3 (x1, vwell_here)

noncomputable def l_drawn_k1 (s6 : ((List (Tx × (List (Rat × Rat × Int)))) × (List Int))) (s12 : ((List (Tx × Int)) × (List Int))) : Res Unit (((List (Tx × (List (Rat × Rat × Int)))) × (List (Tx × Int)))) :=
  .ok (s6.1, s12.1)
noncomputable def l_drawn_b2 (s6 : ((List (Tx × (List (Rat × Rat × Int)))) × (List Int))) (x13 : Tx) (s12 : ((List (Tx × Int)) × (List Int))) (n14 : ((List (Tx × Int)) × (List Int)) → Res Unit (((List (Tx × (List (Rat × Rat × Int)))) × (List (Tx × Int))))) : Res Unit (((List (Tx × (List (Rat × Rat × Int)))) × (List (Tx × Int)))) :=
  Res.bind (Res.opt (dget s6.1 x13)) fun z18 => Res.bind (Res.mapE (fun _ : (List Int) => ()) (l_take s12.2 (List.length z18 : Int))) fun z17 => Res.bind (Res.grd (List.length s12.1 < 100000) (dput s12.1 x13 z17.1, z17.2)) fun x16 => n14 (x16.1, x16.2)
noncomputable def l_drawn_k3  (s6 : ((List (Tx × (List (Rat × Rat × Int)))) × (List Int))) : Res Unit (((List (Tx × (List (Rat × Rat × Int)))) × (List (Tx × Int)))) :=
  Res.bind (.ok []) fun x10 => Res.loop (l_drawn_b2 s6) (l_drawn_k1 s6) (List.map Prod.fst s6.1) (x10, s6.2)
noncomputable def l_drawn_b4  (x7 : Int) (s6 : ((List (Tx × (List (Rat × Rat × Int)))) × (List Int))) (n8 : ((List (Tx × (List (Rat × Rat × Int)))) × (List Int)) → Res Unit (((List (Tx × (List (Rat × Rat × Int)))) × (List (Tx × Int))))) : Res Unit (((List (Tx × (List (Rat × Rat × Int)))) × (List (Tx × Int)))) :=
  Res.bind (Res.mapE (fun _ : (List Int) => ()) (l_take s6.2 (8 : Int))) fun z21 => Res.bind (Res.mapE (fun _ : (List Int) => ()) (l_steps z21.2 ((1 : Int) + z21.1))) fun z20 => Res.bind (Res.mapE (fun _ : (List Int) => ()) (l_word z20.2 x7)) fun z22 => Res.bind (Res.grd (Tx.len z22.1 + Tx.len sx_3a52ce78 ≤ 100000) (z22.1 ++ sx_3a52ce78)) fun z23 => Res.bind (Res.mapE (fun _ : (List Int) => ()) (l_word z22.2 (0 : Int))) fun z24 => Res.bind (Res.grd (Tx.len z23 + Tx.len z24.1 ≤ 100000) (z23 ++ z24.1)) fun z25 => Res.bind (Res.grd (List.length s6.1 < 100000) (dput s6.1 z25 z20.1, z24.2)) fun x19 => n8 (x19.1, x19.2)
noncomputable def l_drawn (vscript : (List Int)) : Res Unit (((List (Tx × (List (Rat × Rat × Int)))) × (List (Tx × Int)))) :=
  Res.bind (l_well vscript (0 : Int)) fun z27 => Res.bind (.ok z27) fun x1 => Res.bind (.ok []) fun x3 => Res.bind (Res.mapE (fun _ : (List Int) => ()) (l_take x1 (7 : Int))) fun z26 => Res.bind (Res.grd (-(2 ^ 62) ≤ z26.1 ∧ z26.1 < 2 ^ 62) (rangeL 0 (Int.toNat z26.1))) fun z5 => Res.loop l_drawn_b4 l_drawn_k3 z5 (x3, z26.2)

noncomputable def m_check_menus_k1  (s1 : Unit) : Res Unit (Unit) :=
  .ok ()
noncomputable def m_check_menus_k2 (n3 : Unit → Res Unit (Unit)) (s5 : Unit) : Res Unit (Unit) :=
  n3 ()
noncomputable def m_check_menus_b3  (x6 : (Rat × Rat × Int)) (s5 : Unit) (n7 : Unit → Res Unit (Unit)) : Res Unit (Unit) :=
  Res.bind (m_is_less x6.2.1 x6.1) fun z9 => if (z9 || decide (x6.2.2 < (0 : Int))) = true then .err "NoDealing" () else n7 ()
noncomputable def m_check_menus_b4 (vmenus : (List (Tx × (List (Rat × Rat × Int))))) (x2 : Tx) (s1 : Unit) (n3 : Unit → Res Unit (Unit)) : Res Unit (Unit) :=
  Res.bind (Res.opt (dget vmenus x2)) fun z11 => if (!(decide ((1 : Int) ≤ (List.length z11 : Int)) && decide ((List.length z11 : Int) ≤ (8 : Int)))) = true then .err "NoDealing" () else Res.bind (Res.opt (dget vmenus x2)) fun z10 => Res.loop m_check_menus_b3 (m_check_menus_k2 n3) z10 ()
noncomputable def m_check_menus (vmenus : (List (Tx × (List (Rat × Rat × Int))))) : Res Unit (Unit) :=
  Res.loop (m_check_menus_b4 vmenus) m_check_menus_k1 (List.map Prod.fst vmenus) ()

noncomputable def m_dealings_many_k1  (s3 : Int) : Res Unit (Int) :=
  .ok s3
noncomputable def m_dealings_many_b2 (vmenus : (List (Tx × (List (Rat × Rat × Int))))) (x4 : Tx) (s3 : Int) (n5 : Int → Res Unit (Int)) : Res Unit (Int) :=
  Res.bind (Res.opt (dget vmenus x4)) fun z9 => Res.bind (Res.grd (CMulW s3 (List.length z9 : Int)) (s3 * (List.length z9 : Int))) fun z8 => Res.bind (.ok (z8, ())) fun x7 => n5 x7.1
noncomputable def m_dealings_many (vmenus : (List (Tx × (List (Rat × Rat × Int))))) : Res Unit (Int) :=
  Res.bind (m_check_menus vmenus) fun z10 => Res.bind (.ok z10) fun x1 => Res.bind (.ok (1 : Int)) fun x2 => Res.loop (m_dealings_many_b2 vmenus) m_dealings_many_k1 (List.map Prod.fst vmenus) x2

noncomputable def m_check_dealing_k1  (s2 : Unit) : Res Unit (Unit) :=
  .ok ()
noncomputable def m_check_dealing_b2 (vmenus : (List (Tx × (List (Rat × Rat × Int))))) (vdealing : (List (Tx × Int))) (x3 : Tx) (s2 : Unit) (n4 : Unit → Res Unit (Unit)) : Res Unit (Unit) :=
  Res.bind (Res.opt (dget vdealing x3)) fun z6 => Res.bind (if decide ((0 : Int) ≤ z6) = true then Res.bind (Res.opt (dget vmenus x3)) fun z8 => .ok (decide (z6 < (List.length z8 : Int)), ()) else .ok (false, ())) fun z7 => if (!z7.1) = true then .err "NoDealing" () else n4 ()
noncomputable def m_check_dealing (vmenus : (List (Tx × (List (Rat × Rat × Int))))) (vdealing : (List (Tx × Int))) : Res Unit (Unit) :=
  Res.bind (m_check_menus vmenus) fun z11 => Res.bind (.ok z11) fun x1 => Res.bind (Res.grd (List.length vmenus < 64) (sortT (List.map Prod.fst vmenus))) fun z9 => Res.bind (Res.grd (List.length vdealing < 64) (sortT (List.map Prod.fst vdealing))) fun z10 => if (!decide (z9 = z10)) = true then .err "NoDealing" () else Res.loop (m_check_dealing_b2 vmenus vdealing) m_check_dealing_k1 (List.map Prod.fst vmenus) ()


noncomputable def m_price_of (vmenus : (List (Tx × (List (Rat × Rat × Int))))) (vdealing : (List (Tx × Int))) : Res Unit (Int) :=
  Res.bind (m_check_dealing vmenus vdealing) fun z9 => Res.bind (.ok z9) fun x1 => Res.bind (Res.grd ((List.map Prod.fst vmenus).length ≤ 100000) (List.map Prod.fst vmenus)) fun z7 => Res.bind (Res.calm (Res.lc (fun (x2 : Tx) (s3 : Unit) => Res.bind (Res.opt (dget vmenus x2)) fun z5 => Res.bind (Res.opt (dget vdealing x2)) fun z6 => Res.bind (Res.opt (atI z5 z6)) fun z4 => .ok (some z4.2.2, s3)) z7 ())) fun z8 => .ok (List.sum z8.1)

noncomputable def l_spoilt_k1 (x12 : ((List (List (Rat × Rat × Int))) × (List Int))) (s17 : (List (List (Tx × (List (Rat × Rat × Int)))))) : Res (List Int) ((List (List (Tx × (List (Rat × Rat × Int))))) × (List Int)) :=
  .ok (s17, x12.2)
noncomputable def l_spoilt_b2 (vmenus : (List (Tx × (List (Rat × Rat × Int))))) (x1 : (Tx × (List Int))) (x18 : (List (Rat × Rat × Int))) (s17 : (List (List (Tx × (List (Rat × Rat × Int)))))) (n19 : (List (List (Tx × (List (Rat × Rat × Int))))) → Res (List Int) ((List (List (Tx × (List (Rat × Rat × Int))))) × (List Int))) : Res (List Int) ((List (List (Tx × (List (Rat × Rat × Int))))) × (List Int)) :=
  Res.bind (.ok vmenus) fun x21 => Res.bind (Res.grd (List.length x21 < 100000) (dput x21 x1.1 x18, ())) fun x23 => Res.bind (Res.grd (List.length s17 < 100000) (s17 ++ [x23.1], ())) fun x24 => n19 x24.1
noncomputable def l_spoilt_k3 (vmenus : (List (Tx × (List (Rat × Rat × Int))))) (x1 : (Tx × (List Int))) (s8 : ((List (List (Rat × Rat × Int))) × (List Int))) : Res (List Int) ((List (List (Tx × (List (Rat × Rat × Int))))) × (List Int)) :=
  Res.bind (l_steps s8.2 (9 : Int)) fun z25 => Res.bind (Res.grd (List.length s8.1 + List.length [[], z25.1] ≤ 100000) (s8.1 ++ [[], z25.1])) fun z13 => Res.bind (.ok (z13, z25.2)) fun x12 => Res.bind (.ok []) fun x15 => Res.loop (l_spoilt_b2 vmenus x1) (l_spoilt_k1 x12) x12.1 x15
noncomputable def l_spoilt_b4 (x2 : (List (Rat × Rat × Int))) (x3 : (Int × (List Int))) (x9 : (Rat × Rat × Int)) (s8 : ((List (List (Rat × Rat × Int))) × (List Int))) (n10 : ((List (List (Rat × Rat × Int))) × (List Int)) → Res (List Int) ((List (List (Tx × (List (Rat × Rat × Int))))) × (List Int))) : Res (List Int) ((List (List (Tx × (List (Rat × Rat × Int))))) × (List Int)) :=
  Res.bind (Res.grd (List.length (cutL x2 none (some x3.1)) + List.length [x9] ≤ 100000) ((cutL x2 none (some x3.1)) ++ [x9])) fun z27 => Res.bind (Res.grd (List.length z27 + List.length (cutL x2 (some (x3.1 + (1 : Int))) none) ≤ 100000) (z27 ++ (cutL x2 (some (x3.1 + (1 : Int))) none))) fun z28 => Res.bind (Res.grd (List.length s8.1 < 100000) (s8.1 ++ [z28], ())) fun x26 => n10 (x26.1, s8.2)
noncomputable def l_spoilt (vmenus : (List (Tx × (List (Rat × Rat × Int))))) (vwell_here : (List Int)) : Res (List Int) ((List (List (Tx × (List (Rat × Rat × Int))))) × (List Int)) :=
  Res.bind (Res.grd (List.length vmenus < 64) (sortT (List.map Prod.fst vmenus))) fun z37 => Res.bind (l_take vwell_here (List.length vmenus : Int)) fun z38 => Res.bind (Res.opt (atI z37 z38.1)) fun z36 => Res.bind (.ok (z36, z38.2)) fun x1 => Res.bind (Res.opt (dget vmenus x1.1)) fun z35 => Res.bind (.ok z35) fun x2 => Res.bind (l_take x1.2 (List.length x2 : Int)) fun z34 => Res.bind (.ok (z34.1, z34.2)) fun x3 => Res.bind (Res.opt (atI x2 x3.1)) fun z33 => Res.bind (.ok z33) fun x4 => Res.bind (l_take x3.2 (1000 : Int)) fun z31 => Res.bind (Res.grd (CMulW ((Rat.den x4.1 : Nat) : Int) ((1 : Int) + z31.1)) (((Rat.den x4.1 : Nat) : Int) * ((1 : Int) + z31.1))) fun z32 => Res.bind (Res.mapE (fun _ => z31.2) (l_num_k58 ((Rat.num x4.1) - z32) ((Rat.den x4.1 : Nat) : Int))) fun z30 => Res.bind (.ok (z30, z31.2)) fun x5 => Res.bind (.ok []) fun x6 => Res.bind (l_take x5.2 (100000000000000000 : Int)) fun z29 => Res.loop (l_spoilt_b4 x2 x3) (l_spoilt_k3 vmenus x1) [(x4.1, x5.1, x4.2.2), (x4.1, x4.2.1, ((-(1 : Int)) - z29.1))] (x6, z29.2)

noncomputable def l_refused_k53_k1  (s5 : (List Bool)) : Res Unit (Bool) :=
  .ok (decide (s5 = [true, true, false, false]))
noncomputable def l_refused_k53_h2  (n4 : PySem.Str) : Res Unit (Bool) :=
  Res.bind (Res.opt (List.lookup n4 xl_5bb3d9ed)) fun z12 => Res.bind (Res.opt (List.lookup n4 xl_5bb3d9ed)) fun z13 => Res.bind (.ok [z12, z13]) fun x6 => Res.bind (Res.opt (List.lookup n4 xl_0592de21)) fun z11 => Res.bind (Res.grd (List.length x6 < 100000) (x6 ++ [z11], ())) fun x8 => Res.bind (Res.opt (List.lookup n4 xl_9cbeb521)) fun z10 => Res.bind (Res.grd (List.length x8.1 < 100000) (x8.1 ++ [z10], ())) fun x9 => l_refused_k53_k1 x9.1
noncomputable def l_refused_k53_k3 (x1 : (List Bool)) (s14 : Unit) : Res Unit ((List Bool)) :=
  .ok x1
noncomputable def l_refused_k53 (vway : Int) (vmenus : (List (Tx × (List (Rat × Rat × Int))))) (vdealing : (List (Tx × Int))) : Res Unit (Bool) :=
  Res.bind (.ok []) fun x1 => Res.tryE xl_a7d8e757 (if decide (vway = (0 : Int)) = true then Res.bind (Res.mapE (fun _ => ()) (m_dealings_many vmenus)) fun z17 => Res.bind (.ok z17) fun x16 => (l_refused_k53_k3 x1) () else Res.bind (Res.mapE (fun _ => ()) (m_price_of vmenus vdealing)) fun z19 => Res.bind (.ok z19) fun x18 => (l_refused_k53_k3 x1) ()) l_refused_k53_h2 () l_refused_k53_k1

noncomputable def l_spoilt_dealings_k1 (vdealing : (List (Tx × Int))) (x1 : (Tx × (List Int))) (s4 : ((List (List (Tx × Int))) × (List Int))) : Res (List Int) ((List (List (Tx × Int))) × (List Int)) :=
  Res.bind (.ok vdealing) fun x8 => Res.bind (Res.opt (dget x8 x1.1)) fun z18 => Res.bind (.ok (z18, (ddrop x8 x1.1))) fun x10 => Res.bind (.ok vdealing) fun x11 => Res.bind (Res.grd (List.length x11 < 100000) (dput x11 sx_d7dacae2 (0 : Int), ())) fun x13 => Res.bind (.ok x10.2) fun x14 => Res.bind (Res.grd (List.length x14 < 100000) (dput x14 sx_d7dacae2 (0 : Int), ())) fun x16 => Res.bind (Res.grd (List.length s4.1 + List.length [x10.2, x13.1, x16.1] ≤ 100000) (s4.1 ++ [x10.2, x13.1, x16.1])) fun z17 => .ok (z17, s4.2)
noncomputable def l_spoilt_dealings_b2 (vdealing : (List (Tx × Int))) (x1 : (Tx × (List Int))) (x5 : Int) (s4 : ((List (List (Tx × Int))) × (List Int))) (n6 : ((List (List (Tx × Int))) × (List Int)) → Res (List Int) ((List (List (Tx × Int))) × (List Int))) : Res (List Int) ((List (List (Tx × Int))) × (List Int)) :=
  Res.bind (.ok vdealing) fun x19 => Res.bind (Res.grd (List.length x19 < 100000) (dput x19 x1.1 x5, ())) fun x21 => Res.bind (Res.grd (List.length s4.1 < 100000) (s4.1 ++ [x21.1], ())) fun x22 => n6 (x22.1, s4.2)
noncomputable def l_spoilt_dealings (vmenus : (List (Tx × (List (Rat × Rat × Int))))) (vdealing : (List (Tx × Int))) (vwell_here : (List Int)) : Res (List Int) ((List (List (Tx × Int))) × (List Int)) :=
  Res.bind (Res.grd (List.length vmenus < 64) (sortT (List.map Prod.fst vmenus))) fun z28 => Res.bind (l_take vwell_here (List.length vmenus : Int)) fun z29 => Res.bind (Res.opt (atI z28 z29.1)) fun z27 => Res.bind (.ok (z27, z29.2)) fun x1 => Res.bind (.ok []) fun x2 => Res.bind (l_take x1.2 (1000 : Int)) fun z23 => Res.bind (Res.opt (dget vmenus x1.1)) fun z24 => Res.bind (Res.opt (dget vmenus x1.1)) fun z25 => Res.bind (l_take z23.2 (1000 : Int)) fun z26 => Res.loop (l_spoilt_dealings_b2 vdealing x1) (l_spoilt_dealings_k1 vdealing x1) [((-(1 : Int)) - z23.1), (List.length z24 : Int), ((List.length z25 : Int) + z26.1)] (x2, z26.2)

noncomputable def l_law_k53_k1 (s4 : (Int × Int)) (x8 : (List ((List (Tx × (List (Rat × Rat × Int)))) ⊕ (List (Tx × Int))))) (s12 : (List Int)) : Res Unit (Bool) :=
  Res.bind (m_dealings_many []) fun z14 => Res.bind (if decide (z14 = (1 : Int)) = true then Res.bind (m_price_of [] []) fun z16 => Res.bind (if decide (z16 = (0 : Int)) = true then Res.bind (Res.opt (atI x8 (0 : Int))) fun z20 => Res.bind (Res.opt ((fun x : ((List (Tx × (List (Rat × Rat × Int)))) ⊕ (List (Tx × Int))) => match x with | Sum.inl y => (some y : Option (List (Tx × (List (Rat × Rat × Int))))) | _ => none) z20)) fun z19 => Res.bind (m_dealings_many z19) fun z18 => .ok (decide (z18 = s4.1), ()) else .ok (false, ())) fun z17 => .ok (z17.1, z17.2) else .ok (false, ())) fun z15 => .ok z15.1
noncomputable def l_law_k53_k2 (s4 : (Int × Int)) (x8 : (List ((List (Tx × (List (Rat × Rat × Int)))) ⊕ (List (Tx × Int))))) (s25 : (List Int)) : Res Unit (Bool) :=
  (l_law_k53_k1 s4 x8) s25
noncomputable def l_law_k53_b3 (x1 : ((List (Tx × (List (Rat × Rat × Int)))) × (List (Tx × Int)))) (x26 : (List (Tx × Int))) (s25 : (List Int)) (n27 : (List Int) → Res Unit (Bool)) : Res Unit (Bool) :=
  Res.bind (l_refused_k53 (1 : Int) x1.1 x26) fun z29 => if (!z29) = true then .ok false else n27 s25
noncomputable def l_law_k53_k4 (x1 : ((List (Tx × (List (Rat × Rat × Int)))) × (List (Tx × Int)))) (s4 : (Int × Int)) (x8 : (List ((List (Tx × (List (Rat × Rat × Int)))) ⊕ (List (Tx × Int))))) (s21 : (List Int)) : Res Unit (Bool) :=
  Res.bind (Res.mapE (fun _ : (List Int) => ()) (l_spoilt_dealings x1.1 x1.2 s21)) fun z30 => Res.loop (l_law_k53_b3 x1) (l_law_k53_k2 s4 x8) z30.1 z30.2
noncomputable def l_law_k53_b5 (x1 : ((List (Tx × (List (Rat × Rat × Int)))) × (List (Tx × Int)))) (x22 : (List (Tx × (List (Rat × Rat × Int))))) (s21 : (List Int)) (n23 : (List Int) → Res Unit (Bool)) : Res Unit (Bool) :=
  Res.bind (l_refused_k53 (0 : Int) x22 x1.2) fun z31 => Res.bind (if (!z31) = true then .ok (true, ()) else Res.bind (l_refused_k53 (1 : Int) x22 x1.2) fun z33 => .ok ((!z33), ())) fun z32 => if z32.1 = true then .ok false else n23 s21
noncomputable def l_law_k53_k6 (vscript : (List Int)) (x1 : ((List (Tx × (List (Rat × Rat × Int)))) × (List (Tx × Int)))) (s4 : (Int × Int)) : Res Unit (Bool) :=
  Res.bind (.ok [((Sum.inl x1.1) : ((List (Tx × (List (Rat × Rat × Int)))) ⊕ (List (Tx × Int)))), ((Sum.inr x1.2) : ((List (Tx × (List (Rat × Rat × Int)))) ⊕ (List (Tx × Int))))]) fun x8 => Res.bind (Res.opt (atI x8 (0 : Int))) fun z46 => Res.bind (Res.opt ((fun x : ((List (Tx × (List (Rat × Rat × Int)))) ⊕ (List (Tx × Int))) => match x with | Sum.inl y => (some y : Option (List (Tx × (List (Rat × Rat × Int))))) | _ => none) z46)) fun z45 => Res.bind (m_dealings_many z45) fun z44 => Res.bind (Res.opt (atI x8 (0 : Int))) fun z49 => Res.bind (Res.opt ((fun x : ((List (Tx × (List (Rat × Rat × Int)))) ⊕ (List (Tx × Int))) => match x with | Sum.inl y => (some y : Option (List (Tx × (List (Rat × Rat × Int))))) | _ => none) z49)) fun z48 => Res.bind (Res.opt (atI x8 (1 : Int))) fun z51 => Res.bind (Res.opt ((fun x : ((List (Tx × (List (Rat × Rat × Int)))) ⊕ (List (Tx × Int))) => match x with | Sum.inr y => (some y : Option (List (Tx × Int))) | _ => none) z51)) fun z50 => Res.bind (m_price_of z48 z50) fun z47 => Res.bind (.ok [z44, z47]) fun x9 => Res.bind (Res.opt (atI x9 (0 : Int))) fun z37 => Res.bind (l_whole z37) fun z36 => Res.bind (if (!z36) = true then .ok (true, ()) else Res.bind (Res.opt (atI x9 (1 : Int))) fun z40 => Res.bind (l_whole z40) fun z39 => Res.bind (if (!z39) = true then .ok (true, ()) else Res.bind (if (!decide (x9 = [s4.1, s4.2])) = true then .ok (true, ()) else Res.bind (Res.opt (eqLs (eqSU (fun x y : (List (Tx × (List (Rat × Rat × Int)))) => some (deq x y)) (fun x y : (List (Tx × Int)) => some (deq x y))) x8 [((Sum.inl x1.1) : ((List (Tx × (List (Rat × Rat × Int)))) ⊕ (List (Tx × Int)))), ((Sum.inr x1.2) : ((List (Tx × (List (Rat × Rat × Int)))) ⊕ (List (Tx × Int))))])) fun z43 => .ok ((!z43), ())) fun z42 => .ok (z42.1, z42.2)) fun z41 => .ok (z41.1, z41.2)) fun z38 => if z38.1 = true then .ok false else Res.bind (l_well vscript (1 : Int)) fun z35 => Res.bind (.ok z35) fun x10 => if (!deq x1.1 []) = true then Res.bind (Res.mapE (fun _ : (List Int) => ()) (l_spoilt x1.1 x10)) fun z34 => Res.loop (l_law_k53_b5 x1) (l_law_k53_k4 x1 s4 x8) z34.1 z34.2 else (l_law_k53_k1 s4 x8) x10
noncomputable def l_law_k53_b7 (x1 : ((List (Tx × (List (Rat × Rat × Int)))) × (List (Tx × Int)))) (x5 : Tx) (s4 : (Int × Int)) (n6 : (Int × Int) → Res Unit (Bool)) : Res Unit (Bool) :=
  Res.bind (Res.opt (dget x1.1 x5)) fun z57 => Res.bind (Res.grd (CMulW s4.1 (List.length z57 : Int)) (s4.1 * (List.length z57 : Int))) fun z58 => Res.bind (.ok z58) fun x52 => Res.bind (Res.opt (dget x1.1 x5)) fun z55 => Res.bind (Res.opt (dget x1.2 x5)) fun z56 => Res.bind (Res.opt (atI z55 z56)) fun z54 => Res.bind (.ok (s4.2 + z54.2.2)) fun x53 => n6 (x52, x53)
noncomputable def l_law_k53 (vscript : (List Int)) : Res Unit (Bool) :=
  Res.bind (l_drawn vscript) fun z59 => Res.bind (.ok z59) fun x1 => Res.bind (.ok (1 : Int)) fun x2 => Res.bind (.ok (0 : Int)) fun x3 => Res.loop (l_law_k53_b7 x1) (l_law_k53_k6 vscript x1) (List.map Prod.fst x1.1) (x2, x3)

end
section
set_option Elab.async false
set_option linter.all false
set_option maxRecDepth 100000
set_option maxHeartbeats 1000000
open TL PySem L2
/-! # what a mirror gives, by properties -/
namespace Res
variable {ε ε' α β γ σ ρ : Type}
def To (m : Res ε α) (P : α → Prop) : Prop := ∃ a, m = .ok a ∧ P a
theorem To.ok {a : α} {P : α → Prop} (h : P a) : (Res.ok a : Res ε α).To P := ⟨a, rfl, h⟩
theorem To.mono {m : Res ε α} {P Q : α → Prop} (h : m.To P) (f : ∀ a, P a → Q a) : m.To Q := let ⟨a, e, p⟩ := h; ⟨a, e, f a p⟩
theorem To.b {m : Res ε α} {k : α → Res ε β} {P : α → Prop} {Q : β → Prop} (h : m.To P) (f : ∀ a, P a → (k a).To Q) : (bind m k).To Q := by
  obtain ⟨a, rfl, p⟩ := h
  exact f a p
theorem To.e {m : Res ε α} {k : α → Res ε β} {a : α} {Q : β → Prop} (h : m = .ok a) (f : (k a).To Q) : (bind m k).To Q := by
  subst h
  exact f
theorem To.g {c : Prop} {x : α} {k : α → Res ε β} {Q : β → Prop} (h : c) (f : (k x).To Q) : (bind (grd c x) k).To Q := To.e (grd_t h) f
theorem To.o {x : Option α} {a : α} {k : α → Res ε β} {Q : β → Prop} (h : x = some a) (f : (k a).To Q) : (bind (opt x) k).To Q := by
  subst h
  exact f
theorem To.v {a : α} {k : α → Res ε β} {Q : β → Prop} (f : (k a).To Q) : (bind (.ok a) k).To Q := f
theorem To.mE {m : Res ε α} {g : ε → ε'} {P : α → Prop} (h : m.To P) : (mapE g m).To P := by
  obtain ⟨a, rfl, p⟩ := h
  exact ⟨a, rfl, p⟩
theorem To.calm {m : Res Unit α} {P : α → Prop} (h : m.To P) : (Res.calm m : Res ε' α).To P := by
  obtain ⟨a, rfl, p⟩ := h
  exact ⟨a, rfl, p⟩
theorem To.i {b : Bool} {m n : Res ε α} {P : α → Prop} (h1 : b = true → m.To P) (h2 : b = false → n.To P) : (if b = true then m else n).To P := by
  cases b with
  | true => exact h1 rfl
  | false => exact h2 rfl
theorem To.loop {body : α → σ → (σ → Res ε ρ) → Res ε ρ} {k : σ → Res ε ρ} {P : ρ → Prop} (I : List α → σ → Prop) : ∀ {xs : List α} {s0 : σ},
    I [] s0 → (∀ pre x post s, xs = pre ++ x :: post → I pre s → ∀ nx : σ → Res ε ρ, (∀ s', I (pre ++ [x]) s' → (nx s').To P) → (body x s nx).To P) → (∀ s, I xs s → (k s).To P) → (Res.loop body k xs s0).To P := by
  intro xs s0 h0 step done
  have key : ∀ (post pre : List α) (s : σ), xs = pre ++ post → I pre s → (Res.loop body k post s).To P := by
    intro post
    induction post with
    | nil =>
      intro pre s e h
      rw [List.append_nil] at e
      subst e
      exact done s h
    | cons x post ih =>
      intro pre s e h
      exact step pre x post s e h _ fun s' hs' => ih (pre ++ [x]) s' (by rw [List.append_assoc]; exact e) hs'
  exact key xs [] s0 rfl h0
theorem To.wloop {body : σ → (σ → Res ε ρ) → Res ε ρ} {P : ρ → Prop} (I : σ → Prop) (μ : σ → Nat) : ∀ {n : Nat} {s0 : σ}, I s0 → μ s0 < n →
    (∀ s, I s → ∀ nx : σ → Res ε ρ, (∀ s', I s' → μ s' < μ s → (nx s').To P) → (body s nx).To P) → (Res.wloop body n s0).To P := by
  intro n
  induction n with
  | zero => intro s0 _ h; omega
  | succ n ih =>
    intro s0 h0 hn step
    exact step s0 h0 _ fun s' h1 h2 => ih h1 (by omega) step
/-- a loop whose turns all go on -/
theorem loop_fold {body : α → σ → (σ → Res ε ρ) → Res ε ρ} {k : σ → Res ε ρ} (f : σ → α → σ) : ∀ (xs : List α) (s : σ), (∀ x ∈ xs, ∀ s (nx : σ → Res ε ρ), body x s nx = nx (f s x)) → Res.loop body k xs s = k (xs.foldl f s)
  | [], s, _ => rfl
  | x :: xs, s, h => by
    show body x s (Res.loop body k xs) = _
    rw [h x List.mem_cons_self, loop_fold f xs (f s x) fun y hy => h y (List.mem_cons_of_mem _ hy)]
    rfl
/-- .. as long as something stays true -/
theorem loop_foldI {body : α → σ → (σ → Res ε ρ) → Res ε ρ} {k : σ → Res ε ρ} (f : σ → α → σ) (I : List α → σ → Prop) : ∀ {xs : List α} {s0 : σ}, I [] s0 →
    (∀ pre x post s, xs = pre ++ x :: post → I pre s → (∀ nx : σ → Res ε ρ, body x s nx = nx (f s x)) ∧ I (pre ++ [x]) (f s x)) → Res.loop body k xs s0 = k (xs.foldl f s0) ∧ I xs (xs.foldl f s0) := by
  intro xs s0 h0 step
  have key : ∀ (post pre : List α) (s : σ), xs = pre ++ post → I pre s → Res.loop body k post s = k (post.foldl f s) ∧ I xs (post.foldl f s) := by
    intro post
    induction post with
    | nil =>
      intro pre s e h
      rw [List.append_nil] at e
      subst e
      exact ⟨rfl, h⟩
    | cons x post ih =>
      intro pre s e h
      obtain ⟨h1, h2⟩ := step pre x post s e h
      obtain ⟨h3, h4⟩ := ih (pre ++ [x]) (f s x) (by rw [List.append_assoc]; exact e) h2
      exact ⟨(h1 _).trans h3, h4⟩
  exact key xs [] s0 rfl h0
/-- a comprehension whose turns are plain -/
theorem lc_map {body : α → σ → Res ε (Option β × σ)} (f : α → Option β) (s : σ) : ∀ (xs : List α), (∀ x ∈ xs, body x s = .ok (f x, s)) → Res.lc body xs s = .ok (xs.filterMap f, s)
  | [], _ => rfl
  | x :: xs, h => by
    unfold Res.lc
    rw [h x List.mem_cons_self, bind_ok, lc_map f s xs fun y hy => h y (List.mem_cons_of_mem _ hy), bind_ok]
    cases e : f x <;> simp [List.filterMap_cons, e]
/-- a comprehension with a state -/
theorem To.lc {body : α → σ → Res ε (Option β × σ)} (J : Nat → σ → Prop) (P : β → Prop) : ∀ {xs : List α} {s : σ} {n : Nat}, J n s → (∀ x ∈ xs, ∀ m s, n ≤ m → m < n + xs.length → J m s → (body x s).To fun t => (∃ y, t.1 = some y ∧ P y) ∧ J (m + 1) t.2) →
    (Res.lc body xs s).To fun z => z.1.length = xs.length ∧ (∀ y ∈ z.1, P y) ∧ J (n + xs.length) z.2 := by
  intro xs
  induction xs with
  | nil => intro s n h _; exact .ok ⟨rfl, (fun y hy => by cases hy), h⟩
  | cons x xs ih =>
    intro s n h step
    unfold Res.lc
    refine To.b (step x List.mem_cons_self n s (Nat.le_refl _) (by simp) h) fun t ⟨⟨y, e, py⟩, hj⟩ => ?_
    refine To.b (ih (n := n + 1) hj fun x' hx m s' h1 h2 h3 => step x' (List.mem_cons_of_mem _ hx) m s' (by omega) (by simp at h2 ⊢; omega) h3) fun u ⟨hl, hp, hj2⟩ => .ok ?_
    rw [e]
    refine ⟨by simp [hl], fun z hz => ?_, by simp at hj2 ⊢; rw [show n + (xs.length + 1) = n + 1 + xs.length by omega]; exact hj2⟩
    rcases List.mem_cons.mp hz with q | q
    · subst q; exact py
    · exact hp z q
end Res
open Res
/-! ## sizes -/
theorem cmulw {i j : Int} (a b : Nat) (ha : i.natAbs < 2 ^ a) (hb : j.natAbs < 2 ^ b) (h0 : 0 < a := by decide) (h1 : 0 < b := by decide) (h : a + b ≤ 1000000 := by decide) : CMulW i j := wmul a b ha hb h0 h1 h
/-! ## wells -/
/-- a well of which at most n were taken -/
def Wl (n : Nat) (w : List Int) : Prop := ∃ x : We, w = [x.f, x.v, x.t] ∧ x.ok n
theorem Wl.up {n m : Nat} {w : List Int} (h : Wl n w) (l : n ≤ m) : Wl m w := let ⟨x, e, o⟩ := h; ⟨x, e, o.up l⟩

theorem small_of {m : Int} (h0 : 0 < m) (h1 : m ≤ 100000000000000000000) : m.natAbs < 2 ^ 8000 := by
  have e : (2 : Nat) ^ 70 = 1180591620717411303424 := by decide
  exact Nat.lt_of_lt_of_le (show m.natAbs < 2 ^ 70 by omega) (Nat.pow_le_pow_right (by decide) (by decide))

end
section
set_option Elab.async false
set_option linter.all false
set_option maxRecDepth 100000
set_option maxHeartbeats 1000000
open TL PySem L2 Res
/-! # k06, part 1: numbers, wells -/
theorem common_b (I : Int × Int → Prop) : True := trivial
theorem l_common_eq {t b : Int} (hb : b.natAbs < 2 ^ 8000) : l_common t b = .ok ((Int.gcd t b : Nat) : Int) := by
  have h : (l_common t b).To fun r => r = ((Int.gcd t b : Nat) : Int) := by
    unfold l_common
    refine To.wloop (fun s : Int × Int => Int.gcd s.1 s.2 = Int.gcd t b ∧ s.2.natAbs ≤ b.natAbs) (fun s => s.2.natAbs) ⟨rfl, Nat.le_refl _⟩ (Res.fuel_big (Nat.lt_of_lt_of_le hb (Nat.pow_le_pow_right (by decide) (by decide)))) ?_
    rintro ⟨x, y⟩ ⟨h1, h2⟩ nx hn
    refine To.i (fun c => ?_) fun c => ?_
    · have y0 : y ≠ 0 := by simpa using c
      unfold l_common_b2
      refine To.g y0 (hn (y, x.fmod y) ⟨?_, ?_⟩ (Nu.fmod_natAbs_lt y0))
      · show Int.gcd y (x.fmod y) = _
        rw [Nu.gcd_fmod]; exact h1
      · have : (x.fmod y).natAbs < y.natAbs := Nu.fmod_natAbs_lt y0
        show (x.fmod y).natAbs ≤ _
        have h2' : y.natAbs ≤ b.natAbs := h2
        omega
    · have y0 : y = 0 := by simpa using c
      subst y0
      refine .ok ?_
      have h1' : Int.gcd x 0 = Int.gcd t b := h1
      rw [← h1', Int.gcd_zero_right]
      show (if x < 0 then -x else x) = _
      split <;> omega
  obtain ⟨a, e, rfl⟩ := h
  exact e
theorem m_common_eq {t b : Int} (hb : b.natAbs < 2 ^ 8000) : m_common t b = .ok ((Int.gcd t b : Nat) : Int) := l_common_eq hb
theorem mkQ_q {t b : Int} (h : b ≠ 0) : mkQ (t.fdiv (Nu.by_ t b)) (b.fdiv (Nu.by_ t b)) = some (Nu.q t b) := by
  rw [Nu.top_is h, Nu.bot_is h]
  exact mkQ_of _
theorem m_number_of_eq {t b : Int} (h : b ≠ 0) (hb : b.natAbs < 2 ^ 8000) : m_number_of t b = .ok (Nu.q t b) := by
  have w1 : m_is_whole t = .ok true := rfl
  have w2 : m_is_whole b = .ok true := rfl
  have d : ∀ z, CDivA z (Nu.by_ t b) := fun z => div_ok h hb
  have k : m_number_of_k1 t b (Nu.by_ t b) = .ok (Nu.q t b) := by
    unfold m_number_of_k1
    rw [grd_t (d t), bind_ok, grd_t (d b), bind_ok, mkQ_q h]
    rfl
  unfold m_number_of
  rw [w1, w2]
  simp only [bind_ok, Bool.not_true, Bool.false_or, Bool.false_eq_true, if_false]
  rw [m_common_eq hb]
  simp only [bind_ok, decide_eq_true_eq, if_neg h]
  unfold Nu.by_ at k
  by_cases c : b < 0
  · rw [if_pos c]
    rw [if_pos c] at k
    exact k
  · rw [if_neg c]
    rw [if_neg c] at k
    exact k
theorem m_number_of_0 {t : Int} : m_number_of t 0 = .err "NoNumber" () := by
  unfold m_number_of
  have w1 : m_is_whole t = .ok true := rfl
  have w2 : m_is_whole 0 = .ok true := rfl
  rw [w1, w2]
  simp
theorem l_num_k1_eq {t b : Int} (h : 0 < b) (hb : b.natAbs < 2 ^ 8000) : l_num_k1 (t, b) = .ok (Nu.q t b) := by
  have d : ∀ z, CDivA z ((Int.gcd t b : Nat) : Int) := fun z => by
    have := div_ok (t := t) (b := b) (by omega) hb
    rw [Nu.by_pos h] at this
    exact this
  have e := mkQ_q (t := t) (b := b) (by omega)
  rw [Nu.by_pos h] at e
  unfold l_num_k1
  simp only
  rw [l_common_eq hb]
  simp only [bind_ok]
  rw [grd_t (d t), bind_ok, grd_t (d b), bind_ok, e]
  rfl
theorem l_num_eq {t b : Int} (h : b ≠ 0) (hb : b.natAbs < 2 ^ 8000) : l_num t b = .ok (Nu.q t b) := by
  unfold l_num
  by_cases c : b < 0
  · rw [if_pos (decide_eq_true c)]
    simp only [bind_ok]
    rw [l_num_k1_eq (by omega) (by omega), Nu.q_neg]
  · rw [if_neg (by simpa using c)]
    exact l_num_k1_eq (by omega) hb
section
variable {a b : Rat} (ha : Nu.Bd 3000 a) (hb : Nu.Bd 3000 b)
include ha hb
theorem dd_small' : ((a.den : Int) * (b.den : Int)).natAbs < 2 ^ 8000 → True := fun _ => trivial
theorem m_plus_eq : m_plus a b = .ok (a + b) := by
  unfold m_plus
  rw [grd_t (cq ha.1 (Nu.den_abs hb) (by decide) (by decide)), bind_ok, grd_t (cq hb.1 (Nu.den_abs ha) (by decide) (by decide)), bind_ok, grd_t (cq (Nu.den_abs ha) (Nu.den_abs hb) (by decide) (by decide)), bind_ok,
    m_number_of_eq (dd_ne a b) (dd_small ha hb), bind_ok, Nu.plus_is]
theorem m_times_eq : m_times a b = .ok (a * b) := by
  unfold m_times
  rw [grd_t (cq ha.1 hb.1 (by decide) (by decide)), bind_ok, grd_t (cq (Nu.den_abs ha) (Nu.den_abs hb) (by decide) (by decide)), bind_ok, m_number_of_eq (dd_ne a b) (dd_small ha hb), bind_ok, Nu.times_is]
theorem l_add_eq : l_add a b = .ok (a + b) := by
  unfold l_add
  rw [grd_t (cq ha.1 (Nu.den_abs hb) (by decide) (by decide)), bind_ok, grd_t (cq hb.1 (Nu.den_abs ha) (by decide) (by decide)), bind_ok, grd_t (cq (Nu.den_abs ha) (Nu.den_abs hb) (by decide) (by decide)), bind_ok,
    l_num_eq (dd_ne a b) (dd_small ha hb), bind_ok, Nu.plus_is]
theorem l_mul_eq : l_mul a b = .ok (a * b) := by
  unfold l_mul
  rw [grd_t (cq ha.1 hb.1 (by decide) (by decide)), bind_ok, grd_t (cq (Nu.den_abs ha) (Nu.den_abs hb) (by decide) (by decide)), bind_ok, l_num_eq (dd_ne a b) (dd_small ha hb), bind_ok, Nu.times_is]
end
/-! ## wells -/
theorem well_to {ns : List Int} {i : Int} (h0 : 0 ≤ i) (h1 : i ≤ 63) : (l_well ns i).To (Wl 1100) := by
  have k : ∀ c : Int, (l_well_k1 i c).To (Wl 1100) := fun c => by
    unfold l_well_k1
    have p7 : (2 : Nat) ^ 7 = 128 := by decide
    refine To.g (cmulw 5 7 (by decide) (by omega)) (.ok ?_)
    by_cases hc : 1000000000000000000 ≤ if c < 0 then -c else c
    · rw [if_pos (decide_eq_true hc)]
      exact ⟨⟨1, c, 17 * i⟩, rfl, .inl rfl⟩
    · rw [if_neg (by simpa using hc)]
      refine ⟨⟨0, c, 17 * i⟩, rfl, .inr ⟨rfl, ?_, by show 0 ≤ 17 * i; omega, by show 17 * i ≤ ((1100 : Nat) : Int); omega⟩⟩
      have e : ((2 : Nat) ^ 60) = 1152921504606846976 := by decide
      rw [e]
      show c.natAbs < _
      split at hc <;> omega
  unfold l_well
  refine To.v (To.i (fun c => ?_) fun _ => k 0)
  have c' : i < (ns.length : Int) := by simpa using c
  refine To.o (a := ns[i.toNat]) ?_ (k _)
  unfold atI ixN
  rw [if_pos h0, if_pos c', Option.bind_some, List.getElem?_eq_getElem]
theorem take_to {n : Nat} {w : List Int} {m : Int} (h : Wl n w) (hm : 0 < m) (hm3 : m ≤ 100000000000000000000) (hn : n ≤ 2 ^ 40) : (l_take w m).To fun r => 0 ≤ r.1 ∧ r.1 < m ∧ Wl (n + 1) r.2 := by
  have hm2 := small_of hm hm3
  obtain ⟨x, rfl, ok⟩ := h
  have m0 : m ≠ 0 := by omega
  unfold l_take
  refine To.o (a := x.f) rfl (To.i (fun c => ?_) fun c => ?_)
  · have hf : x.f = 1 := by simpa using c
    refine To.o (a := x.v) rfl (To.g m0 (To.v (To.o (a := x.v) rfl (To.g (cdiv m0 hm2) (To.o (a := 1) rfl (To.v (.ok ?_)))))))
    exact ⟨(mod_ok hm).1, (mod_ok hm).2, ⟨x.f, x.v.fdiv m, x.t⟩, rfl, .inl hf⟩
  · have hf : ¬ x.f = 1 := by simpa using c
    obtain ⟨h1, h2, h3, h4⟩ := ok.resolve_left hf
    have t1 : (x.t + 1).natAbs < 2 ^ 41 := by
      have : ((2 : Nat) ^ 41) = 2 * 2 ^ 40 := by decide
      omega
    have m1 : CMulW 7919 (x.t + 1) := wmul 13 41 (by decide) t1
    have b2 : (7919 * (x.t + 1)).natAbs < 2 ^ 54 := Nu.natAbs_mul_lt (n := 13) (m := 41) (by decide) t1
    have m2 : CMulW (7919 * (x.t + 1)) (x.t + 1) := wmul 54 41 b2 t1
    have b3 : (7919 * (x.t + 1) * (x.t + 1)).natAbs < 2 ^ 95 := Nu.natAbs_mul_lt (n := 54) (m := 41) b2 t1
    have b4 : (x.v + 7919 * (x.t + 1) * (x.t + 1)).natAbs < 2 ^ 96 := Nu.natAbs_add_lt (Nu.lt_pow_mono h2 (by decide)) b3
    have b5 : (x.v + 7919 * (x.t + 1) * (x.t + 1) + (x.t + 1)).natAbs < 2 ^ 97 := Nu.natAbs_add_lt b4 (Nu.lt_pow_mono t1 (by decide))
    have m3 : CMulW (x.v + 7919 * (x.t + 1) * (x.t + 1) + (x.t + 1)) 48271 := wmul 97 16 b5 (by decide)
    have b6 : (((x.v + 7919 * (x.t + 1) * (x.t + 1) + (x.t + 1)) * 48271).fmod 2305843009213693951).natAbs < 2 ^ 61 := by
      have := mod_ok (a := (x.v + 7919 * (x.t + 1) * (x.t + 1) + (x.t + 1)) * 48271) (m := 2305843009213693951) (by decide)
      have e : ((2 : Nat) ^ 61) = 2305843009213693952 := by decide
      omega
    have m4 : CMulW (((x.v + 7919 * (x.t + 1) * (x.t + 1) + (x.t + 1)) * 48271).fmod 2305843009213693951) 1442695040888963407 := wmul 61 61 b6 (by decide)
    refine To.o (a := x.t) rfl (To.v (To.o (a := 2) rfl (To.v (To.o (a := x.v) rfl (To.g m1 (To.g m2 (To.g m3 (To.g (by decide) (To.v (To.g m4 (To.g (by decide) (To.g (cdiv (by decide) (by decide)) (To.g m0 (.ok ?_))))))))))))))
    exact ⟨(mod_ok hm).1, (mod_ok hm).2, ⟨x.f, x.v, x.t + 1⟩, rfl, .inr ⟨h1, h2, by show 0 ≤ x.t + 1; omega, by show x.t + 1 ≤ ((n + 1 : Nat) : Int); omega⟩⟩

end
section
set_option Elab.async false
set_option linter.all false
set_option maxRecDepth 100000
set_option maxHeartbeats 1000000
open TL PySem L2 Res
/-! # texts -/
theorem Tx.len_app (a b : Tx) : (a ++ b).len = a.len + b.len := by
  show (a.s.cps ++ b.s.cps).size = a.s.cps.size + b.s.cps.size
  exact Array.size_append
theorem Tx.at_ok {t : Tx} {i : Int} (h0 : 0 ≤ i) (h1 : i < t.len) (h2 : t.len ≤ 100000) : ∃ c, t.at i = some c ∧ c.len = 1 ∧ ∃ d, t.s.cps.toList[i.toNat]? = some d ∧ c.s = ⟨#[d]⟩ := by
  have hl : i.toNat < t.s.cps.toList.length := by
    show i.toNat < t.s.cps.toList.length
    have : t.len = t.s.cps.toList.length := by simp [Tx.len, Str.length]
    omega
  have e : atI t.s.cps.toList i = some t.s.cps.toList[i.toNat] := by
    unfold atI ixN
    have : t.len = t.s.cps.toList.length := by simp [Tx.len, Str.length]
    rw [if_pos h0, if_pos (by omega), Option.bind_some, List.getElem?_eq_getElem hl]
  unfold Tx.at
  rw [if_pos (show t.s.length ≤ 100000 from h2)]
  split
  · rename_i c hc
    rw [e] at hc
    cases hc
    exact ⟨_, rfl, rfl, _, List.getElem?_eq_getElem hl, rfl⟩
  · rename_i hc
    rw [e] at hc
    cases hc
theorem Tx.cut_le (t : Tx) (k : Nat) : (t.cut none (some (k : Int))).len ≤ k := by
  show (((t.s.cps.toList.drop (HT.sIx t.s.length 0 none)).take (HT.sIx t.s.length t.s.length (some (k : Int)) - HT.sIx t.s.length 0 none)).toArray).size ≤ k
  rw [HT.sIx_nat, HT.sIx_none, List.size_toArray, List.length_take]
  omega
theorem Tx.join_len {a : Tx} (ha : a.len = 0) : ∀ xs : List Tx, (Tx.join a xs).len = (xs.map Tx.len).sum
  | [] => by
    show (Txt.join a.s []).length = 0
    rw [TL.join_eq]; rfl
  | [x] => by
    show (Txt.join a.s [x.s]).length = x.s.length + 0
    rw [TL.join_eq]; rfl
  | x :: y :: xs => by
    have ih := Tx.join_len ha (y :: xs)
    show (Txt.join a.s (x.s :: y.s :: xs.map (·.s))).length = x.len + ((y :: xs).map Tx.len).sum
    rw [← ih, join_cons]
    show ((x.s.cps ++ a.s.cps) ++ (Txt.join a.s (y.s :: xs.map (·.s))).cps).size = x.s.cps.size + _
    rw [Array.size_append, Array.size_append]
    have : a.s.cps.size = 0 := ha
    have e : (Tx.join a (y :: xs)).len = (Txt.join a.s (y.s :: xs.map (·.s))).cps.size := rfl
    omega
theorem joinC_of {a : Tx} (ha : a.len = 0) {xs : List Tx} (h : (xs.map Tx.len).sum ≤ 1000000) : joinC a xs := by
  unfold joinC
  rw [ha]
  omega
theorem sum_ones' : ∀ {xs : List Tx}, (∀ x ∈ xs, x.len = 1) → (xs.map Tx.len).sum = xs.length
  | [], _ => rfl
  | x :: xs, h => by
    rw [List.map_cons, List.sum_cons, h x List.mem_cons_self, sum_ones' fun y hy => h y (List.mem_cons_of_mem _ hy), List.length_cons]
    omega
theorem rangeL_len (lo : Int) (n : Nat) : (rangeL lo n).length = n := by simp [rangeL]
theorem rangeL_mem {lo : Int} {n : Nat} {i : Int} (h : i ∈ rangeL lo n) : lo ≤ i ∧ i < lo + n := by
  unfold rangeL at h
  obtain ⟨k, hk, rfl⟩ := List.mem_map.mp h
  have := List.mem_range.mp hk
  omega
theorem atI_nat' {α : Type} {xs : List α} {i : Int} (h0 : 0 ≤ i) (h1 : i < xs.length) : atI xs i = some (xs[i.toNat]'(by omega)) := by
  unfold atI ixN
  rw [if_pos h0, if_pos h1, Option.bind_some, List.getElem?_eq_getElem]
theorem atI_mem' {α : Type} {xs : List α} {i : Int} (h0 : 0 ≤ i) (h1 : i < xs.length) : ∃ x ∈ xs, atI xs i = some x := ⟨_, List.getElem_mem (by omega), atI_nat' h0 h1⟩
theorem atI_last' {α : Type} {xs : List α} (h : xs ≠ []) : ∃ x ∈ xs, atI xs (-1) = some x := by
  have lp : 0 < xs.length := List.length_pos_iff.mpr h
  refine ⟨xs[xs.length - 1], List.getElem_mem _, ?_⟩
  unfold atI ixN
  rw [if_neg (by decide), if_pos (by omega), Option.bind_some, show ((-1 : Int) + (xs.length : Int)).toNat = xs.length - 1 by omega, List.getElem?_eq_getElem]
/-! pigeons -/
theorem pigeon {α : Type} [DecidableEq α] (f : Nat → α) (N : Nat) (inj : ∀ i j, i < N → j < N → f i = f j → i = j) : ∀ (t : Nat) (L : List α), t ≤ N → (∀ s, s < t → f s ∈ L) → t ≤ L.length
  | 0, _, _, _ => Nat.zero_le _
  | t + 1, L, hN, h => by
    have m := h t (Nat.lt_succ_self t)
    have l := List.length_erase_of_mem m
    have ih := pigeon f N inj t (L.erase (f t)) (by omega) fun s hs => (List.mem_erase_of_ne fun e => absurd (inj _ _ (by omega) (by omega) e) (by omega)).mpr (h s (by omega))
    have := List.length_pos_of_mem m
    omega
/-- a text's last two signs -/
def tail2 (z : Tx) : List Nat := z.s.cps.toList.drop (z.s.cps.toList.length - 2)
theorem tail2_app {x a b : Tx} {c d : Nat} (ha : a.s = ⟨#[c]⟩) (hb : b.s = ⟨#[d]⟩) : tail2 (x ++ a ++ b) = [c, d] := by
  have e : (x ++ a ++ b).s.cps.toList = x.s.cps.toList ++ [c, d] := by
    show ((x.s.cps ++ a.s.cps) ++ b.s.cps).toList = _
    rw [ha, hb, Array.toList_append, Array.toList_append, List.append_assoc]
    rfl
  unfold tail2
  rw [e, List.length_append]
  have : x.s.cps.toList.length + [c, d].length - 2 = x.s.cps.toList.length := by simp
  rw [this, List.drop_left]

end
section
set_option Elab.async false
set_option linter.all false
set_option maxRecDepth 100000
set_option maxHeartbeats 1000000
open TL PySem L2 Res
/-! # words with a sign that tells them apart; sets of names -/
theorem Tx.app_l (a b : Tx) : (a ++ b).s.cps.toList = a.s.cps.toList ++ b.s.cps.toList := Array.toList_append
theorem Tx.len_l (a : Tx) : a.len = a.s.cps.toList.length := by simp [Tx.len, Str.length]
theorem rangeL_at {lo : Int} {n : Nat} {pre post : List Int} {x : Int} (h : rangeL lo n = pre ++ x :: post) : x = lo + pre.length := by
  have e : (rangeL lo n)[pre.length]? = some x := by rw [h]; simp
  unfold rangeL at e
  rw [List.getElem?_map] at e
  cases q : (List.range n)[pre.length]? with
  | none => rw [q] at e; cases e
  | some j =>
    rw [q] at e
    have lt := (List.getElem?_eq_some_iff.mp q).1
    rw [List.getElem?_range (by simpa using lt)] at q
    cases q
    exact (Option.some.inj e).symm
/-- letters, and behind them the k-th one -/
def Wd (k : Nat) (t : Tx) : Prop := ∃ cs : List Nat, t.s.cps.toList = cs ++ [97 + k] ∧ (∀ c ∈ cs, 97 ≤ c ∧ c < 123) ∧ cs.length ≤ 6
theorem Wd.inj {j k : Nat} {t : Tx} (h : Wd j t) (h' : Wd k t) : j = k := by
  obtain ⟨cs, e, _⟩ := h
  obtain ⟨ds, e', _⟩ := h'
  rw [e] at e'
  have := (List.append_inj' e' rfl).2
  simp at this
  omega
theorem abc_at {i : Int} (h0 : 0 ≤ i) (h1 : i < 26) : ∃ c, sx_32d10c7b.at i = some c ∧ ∃ d, c.s = ⟨#[d]⟩ ∧ 97 ≤ d ∧ d < 123 := by
  have l : sx_32d10c7b.len = 26 := by decide +kernel
  obtain ⟨c, hc, _, d, hd, e⟩ := Tx.at_ok (t := sx_32d10c7b) h0 (by rw [l]; exact h1) (by rw [l]; decide)
  refine ⟨c, hc, d, e, ?_⟩
  have all : ∀ d ∈ sx_32d10c7b.s.cps.toList, 97 ≤ d ∧ d < 123 := by decide +kernel
  exact all d (List.mem_of_getElem? hd)
theorem p_at {k : Nat} (h : k < 16) : ∃ c, sx_14f39952.at (k : Int) = some c ∧ c.s = ⟨#[97 + k]⟩ := by
  have l : sx_14f39952.len = 16 := by decide +kernel
  obtain ⟨c, hc, _, d, hd, e⟩ := Tx.at_ok (t := sx_14f39952) (i := (k : Int)) (by omega) (by rw [l]; omega) (by rw [l]; decide)
  refine ⟨c, hc, ?_⟩
  rw [e]
  have key : ∀ k : Nat, k < 16 → sx_14f39952.s.cps.toList[((k : Int)).toNat]? = some (97 + k) := by decide +kernel
  rw [key k h] at hd
  rw [← Option.some.inj hd]
theorem l_word_to {n : Nat} {w : List Int} {k : Nat} (h : Wl n w) (hn : n ≤ 2 ^ 39) (hk : k < 16) : (l_word w (k : Int)).To fun r => Wd k r.1 ∧ Wl (n + 8) r.2 := by
  have p39 : (2 : Nat) ^ 39 = 549755813888 := by decide
  have p40 : (2 : Nat) ^ 40 = 1099511627776 := by decide
  have b62 : (2 : Int) ^ 62 = 4611686018427387904 := by decide
  unfold l_word
  refine To.v (To.b (take_to h (by decide) (by decide) (by omega)) fun z ⟨z0, z1, hz⟩ => To.g ⟨by omega, by omega⟩ ?_)
  refine To.loop (fun pre (s : Tx × List Int) => (∀ c ∈ s.1.s.cps.toList, 97 ≤ c ∧ c < 123) ∧ s.1.s.cps.toList.length = pre.length ∧ Wl (n + 1 + pre.length) s.2) ⟨?_, ?_, hz⟩ ?_ ?_
  · have : sx_da39a3ee.s.cps.toList = [] := by decide +kernel
    show ∀ c ∈ sx_da39a3ee.s.cps.toList, _
    rw [this]
    intro c hc
    cases hc
  · show sx_da39a3ee.s.cps.toList.length = 0
    decide +kernel
  · rintro pre x post ⟨t, v⟩ hp ⟨i1, i2, i3⟩ nx hnx
    dsimp only at i1 i2 i3
    have pl : pre.length < 7 := by
      have := congrArg List.length hp
      rw [rangeL_len] at this
      simp at this
      omega
    unfold l_word_b2
    dsimp only
    refine To.b (take_to i3 (by decide) (by decide) (by omega)) fun u ⟨u0, u1, hu⟩ => ?_
    obtain ⟨c, hc, d, e, d0, d1⟩ := abc_at u0 u1
    have cl : c.len = 1 := by rw [Tx.len_l, e]; rfl
    have tl : t.len = pre.length := by rw [Tx.len_l, i2]
    refine To.o hc (To.g (by omega) (To.v (hnx _ ⟨?_, ?_, hu.up (by simp; omega)⟩)))
    · show ∀ c' ∈ (t ++ c).s.cps.toList, _
      rw [Tx.app_l, e]
      intro c' hc'
      rcases List.mem_append.mp hc' with q | q
      · exact i1 c' q
      · simp at q
        subst q
        exact ⟨d0, d1⟩
    · show (t ++ c).s.cps.toList.length = _
      rw [Tx.app_l, e]
      simp [i2]
  · rintro ⟨t, v⟩ ⟨i1, i2, i3⟩
    dsimp only at i1 i2 i3
    rw [rangeL_len] at i2 i3
    unfold l_word_k1
    dsimp only
    obtain ⟨c, hc, e⟩ := p_at hk
    have cl : c.len = 1 := by rw [Tx.len_l, e]; rfl
    have tl : t.len = z.1.toNat := by rw [Tx.len_l, i2]
    refine To.o hc (To.g (by omega) (.ok ⟨⟨t.s.cps.toList, ?_, i1, by rw [i2]; omega⟩, i3.up (by omega)⟩))
    show (t ++ c).s.cps.toList = _
    rw [Tx.app_l, e]
/-! names are names -/
theorem has_sg {u x : Tx} {c : Nat} (e : x.s = ⟨#[c]⟩) : Tx.has u x = decide (c ∈ u.s.cps.toList) := by
  unfold Tx.has
  rw [e]
  exact PySem.StrLaws.found_one _ _
theorem signs_mem {t x : Tx} (h : x ∈ t.signs) : ∃ c ∈ t.s.cps.toList, x.s = ⟨#[c]⟩ := by
  have m : x.s ∈ t.signs.map (·.s) := List.mem_map_of_mem h
  rw [Tx.signs_map] at m
  obtain ⟨c, hc, e⟩ := List.mem_map.mp m
  exact ⟨c, hc, e.symm⟩
theorem is_name_of {t : Tx} (h1 : 1 ≤ t.len) (h2 : t.len ≤ 30) (h : ∀ c ∈ t.s.cps.toList, c ∈ sx_2ac8088b.s.cps.toList) : m_is_name t = .ok true := by
  unfold m_is_name
  have sl : t.signs.length = t.len := by
    have := congrArg List.length t.signs_map
    rw [List.length_map, List.length_map, ← Tx.len_l] at this
    exact this
  rw [grd_t (by omega), bind_ok, if_pos (by simp; omega), grd_t (by omega), bind_ok, lc_map (fun x => some (Tx.has sx_2ac8088b x)) () _ fun x hx => rfl, calm_ok, bind_ok]
  simp only [bind_ok]
  congr 1
  rw [List.all_eq_true]
  intro b hb
  obtain ⟨x, hx, e⟩ := List.mem_filterMap.mp hb
  obtain ⟨c, hc, ex⟩ := signs_mem hx
  cases e
  show Tx.has _ _ = true
  rw [has_sg ex]
  exact decide_eq_true (h c hc)
theorem letter_ok {c : Nat} (h0 : 97 ≤ c) (h1 : c < 123) : c ∈ sx_2ac8088b.s.cps.toList := by
  have key : ∀ k : Nat, k < 26 → 97 + k ∈ sx_2ac8088b.s.cps.toList := by decide +kernel
  have := key (c - 97) (by omega)
  rwa [show 97 + (c - 97) = c by omega] at this
theorem Wd.name {k : Nat} {t : Tx} (h : Wd k t) (hk : k < 16) : m_is_name t = .ok true := by
  obtain ⟨cs, e, h1, h2⟩ := h
  have l : t.len = cs.length + 1 := by rw [Tx.len_l, e]; simp
  refine is_name_of (by omega) (by omega) fun c hc => ?_
  rw [e] at hc
  rcases List.mem_append.mp hc with q | q
  · exact letter_ok (h1 c q).1 (h1 c q).2
  · simp at q
    exact letter_ok (by omega) (by omega)
theorem metS_nd {ys : List Str} (nd : ys.Nodup) : ∀ n, n ≤ ys.length → metS ys n = ys.take n
  | 0, _ => rfl
  | n + 1, h => by
    have ih := metS_nd nd n (by omega)
    have lt : n < ys.length := by omega
    have g : ys.getD n Str.empty = ys[n] := by simp [List.getD, List.getElem?_eq_getElem lt]
    show stepS (metS ys n) (ys.getD n Str.empty) = _
    rw [ih, g]
    unfold stepS
    have no : ¬ (ys.take n).any (· == ys[n]) = true := fun z => by
      obtain ⟨y, hy, e⟩ := List.any_eq_true.mp z
      have e' : y = ys[n] := by simpa using e
      subst e'
      obtain ⟨i, hi, e2⟩ := List.mem_iff_getElem.mp hy
      rw [List.getElem_take] at e2
      have hi' : i < n := by simp at hi; omega
      exact absurd ((List.getElem_inj nd).mp e2) (by omega)
    rw [if_neg no, List.take_add_one, List.getElem?_eq_getElem lt]
    rfl
theorem nset_nd {xs : List Tx} (nd : xs.Nodup) : nset xs = (xs.length : Int) := by
  unfold nset
  have nd2 : (xs.map (·.s)).Nodup := List.Pairwise.map _ (fun a b h e => h (Tx.ext' e)) nd
  rw [metS_nd nd2 _ (by simp)]
  simp

end
section
set_option Elab.async false
set_option linter.all false
set_option maxRecDepth 100000
set_option maxHeartbeats 1000000
open TL PySem L2 Res
/-! # numbers -/
theorem l_num_k58_eq {t b : Int} (h : 0 < b) (hb : b.natAbs < 2 ^ 8000) : l_num_k58 t b = .ok (Nu.q t b) := by
  have d : ∀ z, CDivA z ((Int.gcd t b : Nat) : Int) := fun z => by
    have := div_ok (t := t) (b := b) (by omega) hb
    rw [Nu.by_pos h] at this
    exact this
  have e := mkQ_q (t := t) (b := b) (by omega)
  rw [Nu.by_pos h] at e
  unfold l_num_k58
  rw [l_common_eq hb]
  simp only [bind_ok]
  rw [grd_t (d t), bind_ok, grd_t (d b), bind_ok, e]
  rfl
section
variable {a b : Rat} (ha : Nu.Bd 3000 a) (hb : Nu.Bd 3000 b)
include ha hb
theorem m_is_less_eq : m_is_less a b = .ok (decide (a.num * b.den < b.num * a.den)) := by
  unfold m_is_less
  rw [grd_t (cq ha.1 (Nu.den_abs hb) (by decide) (by decide)), bind_ok, grd_t (cq hb.1 (Nu.den_abs ha) (by decide) (by decide)), bind_ok]
theorem m_minus_eq : m_minus a b = .ok (a - b) := by
  unfold m_minus
  rw [grd_t (cq ha.1 (Nu.den_abs hb) (by decide) (by decide)), bind_ok, grd_t (cq hb.1 (Nu.den_abs ha) (by decide) (by decide)), bind_ok, grd_t (cq (Nu.den_abs ha) (Nu.den_abs hb) (by decide) (by decide)), bind_ok,
    m_number_of_eq (dd_ne a b) (dd_small ha hb), bind_ok, Nu.minus_is]
end
theorem q_cross {t b : Int} (h : b ≠ 0) : (Nu.q t b).num * b = t * ((Nu.q t b).den : Int) := by
  have h2 := Rat.num_divInt_den (Nu.q t b)
  have e : Rat.divInt (Nu.q t b).num ((Nu.q t b).den : Int) = Rat.divInt t b := h2
  have d0 : ((Nu.q t b).den : Int) ≠ 0 := by exact_mod_cast (Nu.q t b).den_nz
  exact (Rat.divInt_eq_divInt_iff d0 h).mp e
theorem q_le {t u b : Int} (h : 0 < b) (l : t ≤ u) : ¬ (Nu.q u b).num * ((Nu.q t b).den : Int) < (Nu.q t b).num * ((Nu.q u b).den : Int) := fun z => by
  have e1 := q_cross (t := t) (b := b) (by omega)
  have e2 := q_cross (t := u) (b := b) (by omega)
  have d1 : 0 < ((Nu.q t b).den : Int) := by exact_mod_cast (Nu.q t b).den_pos
  have d2 : 0 < ((Nu.q u b).den : Int) := by exact_mod_cast (Nu.q u b).den_pos
  generalize (Nu.q t b).num = n1 at *
  generalize ((Nu.q t b).den : Int) = m1 at *
  generalize (Nu.q u b).num = n2 at *
  generalize ((Nu.q u b).den : Int) = m2 at *
  have z2 : n2 * m1 * b < n1 * m2 * b := Int.mul_lt_mul_of_pos_right z h
  have e3 : n2 * m1 * b = u * (m1 * m2) := by rw [show n2 * m1 * b = n2 * b * m1 by ac_rfl, e2]; ac_rfl
  have e4 : n1 * m2 * b = t * (m1 * m2) := by rw [show n1 * m2 * b = n1 * b * m2 by ac_rfl, e1]; ac_rfl
  rw [e3, e4] at z2
  have := Int.mul_le_mul_of_nonneg_right l (Int.le_of_lt (Int.mul_pos d1 d2))
  omega
theorem q_nn {t b : Int} (h : 0 < b) (l : 0 ≤ t) : 0 ≤ (Nu.q t b).num := by
  have e := q_cross (t := t) (b := b) (by omega)
  have d : 0 < ((Nu.q t b).den : Int) := by exact_mod_cast (Nu.q t b).den_pos
  have : 0 ≤ (Nu.q t b).num * b := by rw [e]; exact Int.mul_nonneg l (Int.le_of_lt d)
  rcases Int.lt_or_le (Nu.q t b).num 0 with q | q
  · have := Int.mul_neg_of_neg_of_pos q h
    omega
  · exact q
/-- 1 / m, k: pairs in lowest terms -/
theorem mkQ_one {m : Int} (h : 0 < m) : mkQ 1 m = some (Nu.q 1 m) := by
  let r : Rat := { num := 1, den := m.toNat, den_nz := by omega, reduced := Nat.coprime_one_left _ }
  have hr : mkQ r.num r.den = some r := mkQ_of r
  have e1 : (r.den : Int) = m := by show ((m.toNat : Nat) : Int) = m; omega
  have e2 : Nu.q 1 m = r := by
    have := Nu.q_self r
    rw [e1] at this
    exact this
  rw [e1] at hr
  rw [e2]
  exact hr
theorem mkQ_int (k : Int) : mkQ k 1 = some (Nu.q k 1) := by
  have h := Nu.q_one k
  have := mkQ_of (Nu.q k 1)
  rw [h.1, h.2] at this
  exact this
theorem q_div (t b : Int) : Nu.q t b = (t : Rat) / (b : Rat) := by
  unfold Nu.q
  exact Rat.divInt_eq_div t b
theorem bin_is {low high b m k : Int} (hb : 0 < b) (hm : 0 < m) : Nu.q low b + (Nu.q high b - Nu.q low b) * Nu.q 1 m * Nu.q k 1 = Nu.q (low * m + (high - low) * k) (b * m) := by
  rw [q_div, q_div, q_div, q_div, q_div]
  have hb' : (b : Rat) ≠ 0 := by exact_mod_cast (by omega : b ≠ 0)
  have hm' : (m : Rat) ≠ 0 := by exact_mod_cast (by omega : m ≠ 0)
  push_cast
  grind

end
section
set_option Elab.async false
set_option linter.all false
set_option maxRecDepth 100000
set_option maxHeartbeats 1000000
open TL PySem PySem.Spec L2 Res
/-! # tables: names with numbers -/
def ltT (a b : Tx) : Prop := ltS a.s b.s
theorem ltT_irr (a : Tx) : ¬ ltT a a := ltS_irr a.s
theorem ltT_tr {a b c : Tx} (h : ltT a b) (k : ltT b c) : ltT a c := ltS_tr h k
theorem ltT_tri {a b : Tx} (h : ¬ ltT a b) (n : a ≠ b) : ltT b a := ltS_tri h fun e => n (Tx.ext' e)
instance (a b : Tx) : Decidable (ltT a b) := inferInstanceAs (Decidable (ltS a.s b.s))
theorem leT_of_ltT {a b : Tx} (h : ltT a b) : leT a b = true := by
  unfold leT
  cases e : ltCps b.s.cps.toList a.s.cps.toList with
  | false => rfl
  | true => exact absurd (ltT_tr h e) (ltT_irr a)
theorem ltT_of_leT {a b : Tx} (h : leT a b = true) (n : a ≠ b) : ltT a b := by
  by_cases q : ltT b a
  · unfold leT at h
    have : ltCps b.s.cps.toList a.s.cps.toList = true := q
    rw [this] at h
    cases h
  · exact ltT_tri q fun e => n e.symm
theorem riseT_one : ∀ {xs ys : List Tx}, xs.Pairwise ltT → ys.Pairwise ltT → (∀ k, k ∈ xs ↔ k ∈ ys) → xs = ys
  | [], [], _, _, _ => rfl
  | [], y :: ys, _, _, h => absurd ((h y).mpr List.mem_cons_self) List.not_mem_nil
  | x :: xs, [], _, _, h => absurd ((h x).mp List.mem_cons_self) List.not_mem_nil
  | x :: xs, y :: ys, hx, hy, h => by
    rw [List.pairwise_cons] at hx hy
    have e : x = y := by
      rcases List.mem_cons.mp ((h x).mp List.mem_cons_self) with e | m
      · exact e
      · rcases List.mem_cons.mp ((h y).mpr List.mem_cons_self) with e | m2
        · exact e.symm
        · exact absurd (ltT_tr (hy.1 x m) (hx.1 y m2)) (ltT_irr y)
    subst e
    congr 1
    refine riseT_one hx.2 hy.2 fun k => ?_
    constructor
    · intro m
      rcases List.mem_cons.mp ((h k).mp (List.mem_cons_of_mem _ m)) with e | m2
      · subst e
        exact absurd (hx.1 k m) (ltT_irr k)
      · exact m2
    · intro m
      rcases List.mem_cons.mp ((h k).mpr (List.mem_cons_of_mem _ m)) with e | m2
      · subst e
        exact absurd (hy.1 k m) (ltT_irr k)
      · exact m2
def insT (k : Tx) : List Tx → List Tx
  | [] => [k]
  | y :: ys => if ltT k y then k :: y :: ys else if k = y then y :: ys else y :: insT k ys
theorem mem_insT {k j : Tx} : ∀ {ys : List Tx}, j ∈ insT k ys ↔ j = k ∨ j ∈ ys
  | [] => by simp [insT]
  | y :: ys => by
    unfold insT
    split
    · simp
    · split
      · rename_i e
        subst e
        simp
      · rw [List.mem_cons, mem_insT, List.mem_cons]
        constructor
        · rintro (h | h | h)
          · exact .inr (.inl h)
          · exact .inl h
          · exact .inr (.inr h)
        · rintro (h | h | h)
          · exact .inr (.inl h)
          · exact .inl h
          · exact .inr (.inr h)
theorem rise_insT {k : Tx} : ∀ {ys : List Tx}, ys.Pairwise ltT → (insT k ys).Pairwise ltT
  | [], _ => List.pairwise_singleton _ _
  | y :: ys, h => by
    unfold insT
    have h' := List.pairwise_cons.mp h
    split
    · rename_i l
      rw [List.pairwise_cons]
      refine ⟨fun j hj => ?_, h⟩
      rcases List.mem_cons.mp hj with e | m
      · subst e; exact l
      · exact ltT_tr l (h'.1 j m)
    · split
      · exact h
      · rename_i n1 n2
        rw [List.pairwise_cons]
        refine ⟨fun j hj => ?_, rise_insT h'.2⟩
        rcases mem_insT.mp hj with e | m
        · subst e; exact ltT_tri n1 n2
        · exact h'.1 j m
/-- names in order, each once -/
def ordT : List Tx → List Tx
  | [] => []
  | k :: ks => insT k (ordT ks)
theorem mem_ordT {j : Tx} : ∀ {ks : List Tx}, j ∈ ordT ks ↔ j ∈ ks
  | [] => Iff.rfl
  | k :: ks => by
    show j ∈ insT k (ordT ks) ↔ _
    rw [mem_insT, mem_ordT, List.mem_cons]
theorem rise_ordT : ∀ ks : List Tx, (ordT ks).Pairwise ltT
  | [] => .nil
  | k :: ks => rise_insT (rise_ordT ks)
theorem ordT_eq {ks js : List Tx} (h : ∀ k, k ∈ ks ↔ k ∈ js) : ordT ks = ordT js := riseT_one (rise_ordT _) (rise_ordT _) fun k => by rw [mem_ordT, mem_ordT, h]
theorem ordT_self {ks : List Tx} (h : ks.Pairwise ltT) : ordT ks = ks := riseT_one (rise_ordT _) h fun k => mem_ordT
/-- what sorted gives of names that differ -/
def totT : List (Tx × Rat) → Tx → Rat
  | [], _ => 0
  | e :: ps, k => (if e.1 = k then e.2 else 0) + totT ps k
def cntT : List (Tx × Rat) → Tx → Nat
  | [], _ => 0
  | e :: ps, k => (if e.1 = k then 1 else 0) + cntT ps k
theorem t_tot_app (k : Tx) : ∀ ps qs : List (Tx × Rat), totT (ps ++ qs) k = totT ps k + totT qs k
  | [], qs => by
    show totT qs k = 0 + totT qs k
    grind
  | e :: ps, qs => by
    show (if e.1 = k then e.2 else 0) + totT (ps ++ qs) k = (if e.1 = k then e.2 else 0) + totT ps k + totT qs k
    rw [t_tot_app k ps qs]
    grind
theorem t_tot_rev (k : Tx) : ∀ ps : List (Tx × Rat), totT ps.reverse k = totT ps k
  | [] => rfl
  | e :: ps => by
    rw [List.reverse_cons, t_tot_app, t_tot_rev k ps]
    show totT ps k + ((if e.1 = k then e.2 else 0) + 0) = (if e.1 = k then e.2 else 0) + totT ps k
    grind
theorem t_tot_none {k : Tx} : ∀ {ps : List (Tx × Rat)}, k ∉ ps.map (·.1) → totT ps k = 0
  | [], _ => rfl
  | e :: ps, h => by
    simp only [List.map_cons, List.mem_cons, not_or] at h
    have n : ¬ e.1 = k := fun z => h.1 z.symm
    show (if e.1 = k then e.2 else 0) + totT ps k = 0
    rw [if_neg n, t_tot_none h.2]
    grind
theorem t_cnt_app (k : Tx) : ∀ ps qs : List (Tx × Rat), cntT (ps ++ qs) k = cntT ps k + cntT qs k
  | [], qs => by simp [cntT]
  | e :: ps, qs => by
    show (if e.1 = k then 1 else 0) + cntT (ps ++ qs) k = (if e.1 = k then 1 else 0) + cntT ps k + cntT qs k
    rw [t_cnt_app k ps qs]
    omega
theorem t_cnt_le (k : Tx) : ∀ ps : List (Tx × Rat), cntT ps k ≤ ps.length
  | [] => Nat.le_refl _
  | e :: ps => by
    have := t_cnt_le k ps
    show (if e.1 = k then 1 else 0) + cntT ps k ≤ ps.length + 1
    split <;> omega
theorem t_cnt_take (k : Tx) (j : Nat) (ps : List (Tx × Rat)) : cntT (ps.take j) k ≤ cntT ps k := by
  have h := t_cnt_app k (ps.take j) (ps.drop j)
  rw [List.take_append_drop] at h
  omega
theorem t_cnt_one {k : Tx} : ∀ {ps : List (Tx × Rat)}, (ps.map (·.1)).Nodup → cntT ps k ≤ 1
  | [], _ => Nat.zero_le _
  | e :: ps, h => by
    rw [List.map_cons, List.nodup_cons] at h
    show (if e.1 = k then 1 else 0) + cntT ps k ≤ 1
    by_cases q : e.1 = k
    · rw [if_pos q]
      have z : cntT ps k = 0 := by
        have m := h.1
        rw [q] at m
        clear h
        induction ps with
        | nil => rfl
        | cons f ps ih =>
          simp only [List.map_cons, List.mem_cons, not_or] at m
          show (if f.1 = k then 1 else 0) + cntT ps k = 0
          rw [if_neg (fun z => m.1 z.symm), ih m.2]
      omega
    · rw [if_neg q]
      have := t_cnt_one (k := k) h.2
      omega
theorem t_tot_bd {k : Tx} {b : Nat} : ∀ {ps : List (Tx × Rat)}, (∀ e ∈ ps, Nu.Bd b e.2) → Nu.Bd (1 + (b + 1) * cntT ps k) (totT ps k)
  | [], _ => bd_0
  | e :: ps, h => by
    have ih := t_tot_bd (k := k) (ps := ps) fun f m => h f (List.mem_cons_of_mem _ m)
    show Nu.Bd (1 + (b + 1) * ((if e.1 = k then 1 else 0) + cntT ps k)) ((if e.1 = k then e.2 else 0) + totT ps k)
    by_cases q : e.1 = k
    · rw [if_pos q, if_pos q]
      refine (Nu.plus_bd (h e List.mem_cons_self) ih).mono ?_
      rw [Nat.mul_add]
      omega
    · rw [if_neg q, if_neg q, Nat.zero_add]
      have z : (0 : Rat) + totT ps k = totT ps k := by grind
      rw [z]
      exact ih
/-- the pairs of a sum: in order, each name once, no nought -/
def resT (ps : List (Tx × Rat)) : List (Tx × Rat) := ((ordT (ps.map (·.1))).filter fun k => !decide (totT ps k = 0)).map fun k => (k, totT ps k)
theorem t_res_keys (ps : List (Tx × Rat)) : (resT ps).map (·.1) = (ordT (ps.map (·.1))).filter fun k => !decide (totT ps k = 0) := by
  unfold resT
  rw [List.map_map]
  exact List.map_id _
theorem t_res_rise (ps : List (Tx × Rat)) : ((resT ps).map (·.1)).Pairwise ltT := by
  rw [t_res_keys]
  exact (rise_ordT _).filter _
theorem t_rise_nodup {ks : List Tx} (h : ks.Pairwise ltT) : ks.Nodup := h.imp fun l e => by subst e; exact ltT_irr _ l
theorem t_res_ext {ps qs : List (Tx × Rat)} (h : ∀ k, totT ps k = totT qs k) : resT ps = resT qs := by
  have key : (ordT (ps.map (·.1))).filter (fun k => !decide (totT ps k = 0)) = (ordT (qs.map (·.1))).filter fun k => !decide (totT qs k = 0) := by
    refine riseT_one ((rise_ordT _).filter _) ((rise_ordT _).filter _) fun k => ?_
    simp only [List.mem_filter, mem_ordT, Bool.not_eq_true', decide_eq_false_iff_not, h k]
    constructor
    · rintro ⟨_, n⟩
      refine ⟨?_, n⟩
      by_cases m : k ∈ qs.map (·.1)
      · exact m
      · exact absurd (t_tot_none m) n
    · rintro ⟨_, n⟩
      refine ⟨?_, n⟩
      by_cases m : k ∈ ps.map (·.1)
      · exact m
      · exact absurd ((h k).symm.trans (t_tot_none m)) n
  have f : (fun k => (k, totT ps k)) = fun k => (k, totT qs k) := funext fun k => by rw [h k]
  unfold resT
  rw [key, f]
theorem t_tot_map {k : Tx} {f : Tx → Rat} : ∀ {ks : List Tx}, ks.Nodup → totT (ks.map fun j => (j, f j)) k = if k ∈ ks then f k else 0
  | [], _ => by simp [totT]
  | j :: ks, h => by
    rw [List.nodup_cons] at h
    show (if j = k then f j else 0) + totT (ks.map fun j => (j, f j)) k = _
    rw [t_tot_map h.2]
    by_cases e : j = k
    · subst e
      rw [if_pos rfl, if_neg h.1, if_pos List.mem_cons_self]
      grind
    · rw [if_neg e]
      have : (k ∈ j :: ks) ↔ (k ∈ ks) := by
        rw [List.mem_cons]
        constructor
        · rintro (z | z)
          · exact absurd z.symm e
          · exact z
        · exact .inr
      simp only [this]
      grind
theorem t_tot_res (ps : List (Tx × Rat)) (k : Tx) : totT (resT ps) k = totT ps k := by
  unfold resT
  rw [t_tot_map (t_rise_nodup ((rise_ordT _).filter _))]
  by_cases m : k ∈ ps.map (·.1)
  · by_cases z : totT ps k = 0
    · rw [if_neg (by simp [z]), z]
    · rw [if_pos (by simp [List.mem_filter, mem_ordT, m, z])]
  · rw [t_tot_none m, if_neg (by simp [List.mem_filter, mem_ordT, m])]
theorem t_res_res (ps : List (Tx × Rat)) : resT (resT ps) = resT ps := t_res_ext (t_tot_res ps)
theorem t_res_rev (ps : List (Tx × Rat)) : resT ps.reverse = resT ps := t_res_ext fun k => t_tot_rev k ps
theorem t_res_bd {ps : List (Tx × Rat)} {b n : Nat} (h : ∀ e ∈ ps, Nu.Bd b e.2) (hn : ∀ k, 1 + (b + 1) * cntT ps k ≤ n) : ∀ e ∈ resT ps, Nu.Bd n e.2 := by
  intro e m
  unfold resT at m
  obtain ⟨k, _, rfl⟩ := List.mem_map.mp m
  exact (t_tot_bd h).mono (hn k)
theorem t_res_len (ps : List (Tx × Rat)) : (resT ps).length ≤ ps.length := by
  have h1 : ∀ (k : Tx) (ys : List Tx), (insT k ys).length ≤ ys.length + 1 := by
    intro k ys
    induction ys with
    | nil => exact Nat.le_refl _
    | cons y ys ih =>
      unfold insT
      split
      · simp
      · split
        · simp
        · simp only [List.length_cons]
          omega
  have h2 : ∀ ks : List Tx, (ordT ks).length ≤ ks.length := by
    intro ks
    induction ks with
    | nil => exact Nat.le_refl _
    | cons k ks ih =>
      have := h1 k (ordT ks)
      show (insT k (ordT ks)).length ≤ ks.length + 1
      omega
  unfold resT
  rw [List.length_map]
  refine Nat.le_trans (List.length_filter_le _ _) (Nat.le_trans (h2 _) ?_)
  rw [List.length_map]
  exact Nat.le_refl _
theorem t_getM_none {β : Type} {m : List (Tx × β)} {k : Tx} (h : k ∉ m.map (·.1)) : dget m k = none := by
  unfold dget
  rw [List.find?_eq_none.mpr fun e he z => h (List.mem_map.mpr ⟨e, he, of_decide_eq_true z⟩)]
  rfl
theorem t_getM_put {β : Type} {m : List (Tx × β)} {k j : Tx} {d : β} : dget (dput m k d) j = if j = k then some d else dget m j := by
  unfold dput
  split
  · rename_i a
    induction m with
    | nil => cases a
    | cons e m ih =>
      rw [List.map_cons]
      by_cases h : e.1 = k
      · rw [if_pos h]
        by_cases q : j = k
        · subst q
          simp [dget, h]
        · have n : ¬ e.1 = j := fun z => q (z.symm.trans h)
          rw [if_neg q]
          have e1 : dget ((e.1, d) :: m.map fun e => if e.1 = k then (e.1, d) else e) j = dget (m.map fun e => if e.1 = k then (e.1, d) else e) j := by simp [dget, n]
          have e2 : dget (e :: m) j = dget m j := by simp [dget, n]
          rw [e1, e2]
          clear ih a
          induction m with
          | nil => rfl
          | cons f m ih =>
            rw [List.map_cons]
            by_cases h2 : f.1 = k
            · have n2 : ¬ f.1 = j := fun z => q (z.symm.trans h2)
              rw [if_pos h2]
              have e3 : dget ((f.1, d) :: m.map fun e => if e.1 = k then (e.1, d) else e) j = dget (m.map fun e => if e.1 = k then (e.1, d) else e) j := by simp [dget, n2]
              have e4 : dget (f :: m) j = dget m j := by simp [dget, n2]
              rw [e3, e4]
              exact ih (by simp [dget, n]) (by simp [dget, n])
            · rw [if_neg h2]
              by_cases h3 : f.1 = j
              · simp [dget, h3]
              · have e3 : dget (f :: m.map fun e => if e.1 = k then (e.1, d) else e) j = dget (m.map fun e => if e.1 = k then (e.1, d) else e) j := by simp [dget, h3]
                have e4 : dget (f :: m) j = dget m j := by simp [dget, h3]
                rw [e3, e4]
                exact ih (by simp [dget, n]) (by simp [dget, n])
      · have a' : (m.any fun e => decide (e.1 = k)) = true := by simpa [h] using a
        rw [if_neg h]
        have ih' := ih a'
        by_cases q : e.1 = j
        · have n : ¬ j = k := fun z => h (q.trans z)
          rw [if_neg n]
          simp [dget, q]
        · have e1 : dget (e :: m.map fun e => if e.1 = k then (e.1, d) else e) j = dget (m.map fun e => if e.1 = k then (e.1, d) else e) j := by simp [dget, q]
          have e2 : dget (e :: m) j = dget m j := by simp [dget, q]
          rw [e1, e2]
          exact ih'
  · rename_i a
    have no : ∀ e ∈ m, ¬ e.1 = k := fun e he z => a (List.any_eq_true.mpr ⟨e, he, decide_eq_true z⟩)
    unfold dget
    rw [List.find?_append]
    by_cases q : j = k
    · subst q
      rw [if_pos rfl, List.find?_eq_none.mpr fun e he z => no e he (of_decide_eq_true z)]
      simp
    · rw [if_neg q]
      have n : ¬ k = j := fun z => q z.symm
      cases f : m.find? fun e => decide (e.1 = j) with
      | none => simp [n]
      | some x => simp
theorem t_keys_put {β : Type} {m : List (Tx × β)} {k : Tx} {d : β} : (dput m k d).map (·.1) = if k ∈ m.map (·.1) then m.map (·.1) else m.map (·.1) ++ [k] := by
  unfold dput
  have c : (m.any fun e => decide (e.1 = k)) = decide (k ∈ m.map (·.1)) := by
    rw [Bool.eq_iff_iff, List.any_eq_true, decide_eq_true_eq, List.mem_map]
    constructor
    · rintro ⟨e, h1, h2⟩
      exact ⟨e, h1, of_decide_eq_true h2⟩
    · rintro ⟨e, h1, h2⟩
      exact ⟨e, h1, decide_eq_true h2⟩
  rw [c]
  by_cases h : k ∈ m.map (·.1)
  · rw [if_pos (decide_eq_true h), if_pos h, List.map_map]
    refine List.map_congr_left fun e _ => ?_
    show (if e.1 = k then (e.1, d) else e).1 = e.1
    split <;> rfl
  · rw [if_neg (by simpa using h), if_neg h, List.map_append]
    rfl
def dotT : List (Tx × Rat) → (Tx → Rat) → Rat
  | [], _ => 0
  | e :: ps, M => e.2 * M e.1 + dotT ps M
def sumT : List Tx → (Tx → Rat) → Rat
  | [], _ => 0
  | k :: ks, f => f k + sumT ks f
theorem t_dot_app (M : Tx → Rat) : ∀ ps qs : List (Tx × Rat), dotT (ps ++ qs) M = dotT ps M + dotT qs M
  | [], qs => by
    show dotT qs M = 0 + dotT qs M
    grind
  | e :: ps, qs => by
    show e.2 * M e.1 + dotT (ps ++ qs) M = e.2 * M e.1 + dotT ps M + dotT qs M
    rw [t_dot_app M ps qs]
    grind
theorem t_sumK_add (f g : Tx → Rat) : ∀ ks : List Tx, sumT ks (fun k => f k + g k) = sumT ks f + sumT ks g
  | [] => by
    show (0 : Rat) = 0 + 0
    grind
  | k :: ks => by
    show f k + g k + sumT ks (fun k => f k + g k) = f k + sumT ks f + (g k + sumT ks g)
    rw [t_sumK_add f g ks]
    grind
theorem t_sumK_none {f : Tx → Rat} : ∀ {ks : List Tx}, (∀ k ∈ ks, f k = 0) → sumT ks f = 0
  | [], _ => rfl
  | k :: ks, h => by
    show f k + sumT ks f = 0
    rw [h k List.mem_cons_self, t_sumK_none fun j hj => h j (List.mem_cons_of_mem _ hj)]
    grind
theorem t_sumK_congr {f g : Tx → Rat} : ∀ {ks : List Tx}, (∀ k ∈ ks, f k = g k) → sumT ks f = sumT ks g
  | [], _ => rfl
  | k :: ks, h => by
    show f k + sumT ks f = g k + sumT ks g
    rw [h k List.mem_cons_self, t_sumK_congr fun j hj => h j (List.mem_cons_of_mem _ hj)]
theorem t_sumK_one {a : Tx} {f : Tx → Rat} : ∀ {ks : List Tx}, ks.Nodup → a ∈ ks → sumT ks (fun k => if a = k then f k else 0) = f a
  | [], _, h => absurd h List.not_mem_nil
  | k :: ks, nd, h => by
    rw [List.nodup_cons] at nd
    show (if a = k then f k else 0) + sumT ks (fun k => if a = k then f k else 0) = f a
    by_cases e : a = k
    · subst e
      rw [if_pos rfl, t_sumK_none fun j hj => if_neg (fun z => nd.1 (by rw [z]; exact hj))]
      grind
    · rw [if_neg e, t_sumK_one nd.2 ((List.mem_cons.mp h).resolve_left e)]
      grind
theorem t_dot_tot (M : Tx → Rat) {ks : List Tx} (nd : ks.Nodup) : ∀ {ps : List (Tx × Rat)}, (∀ e ∈ ps, e.1 ∈ ks) → dotT ps M = sumT ks (fun k => totT ps k * M k)
  | [], _ => by
    rw [t_sumK_none fun k _ => by show (0 : Rat) * M k = 0; grind]
    rfl
  | e :: ps, h => by
    have ih := t_dot_tot M nd (ps := ps) fun f m => h f (List.mem_cons_of_mem _ m)
    show e.2 * M e.1 + dotT ps M = _
    rw [ih]
    have e1 : sumT ks (fun k => totT (e :: ps) k * M k) = sumT ks (fun k => (if e.1 = k then e.2 * M k else 0) + totT ps k * M k) := t_sumK_congr fun k _ => by
      show ((if e.1 = k then e.2 else 0) + totT ps k) * M k = _
      by_cases q : e.1 = k
      · rw [if_pos q, if_pos q]
        grind
      · rw [if_neg q, if_neg q]
        grind
    rw [e1, t_sumK_add, t_sumK_one (f := fun k => e.2 * M k) nd (h e List.mem_cons_self)]
theorem t_res_name {ps : List (Tx × Rat)} {e : Tx × Rat} (h : e ∈ resT ps) : e.1 ∈ ps.map (·.1) := by
  unfold resT at h
  obtain ⟨k, hk, rfl⟩ := List.mem_map.mp h
  exact mem_ordT.mp (List.mem_filter.mp hk).1
theorem t_dot_res (M : Tx → Rat) (ps : List (Tx × Rat)) : dotT (resT ps) M = dotT ps M := by
  have nd := t_rise_nodup (rise_ordT (ps.map (·.1)))
  rw [t_dot_tot M nd (ps := resT ps) fun e he => mem_ordT.mpr (t_res_name he), t_dot_tot M nd (ps := ps) fun e he => mem_ordT.mpr (List.mem_map_of_mem he)]
  exact t_sumK_congr fun k _ => by rw [t_tot_res]
/-- each factor times r -/
def scT (ps : List (Tx × Rat)) (r : Rat) : List (Tx × Rat) := ps.map fun e => (e.1, e.2 * r)
theorem t_tot_sc (r : Rat) (k : Tx) : ∀ ps : List (Tx × Rat), totT (scT ps r) k = totT ps k * r
  | [] => by
    show (0 : Rat) = 0 * r
    grind
  | e :: ps => by
    show (if e.1 = k then e.2 * r else 0) + totT (scT ps r) k = ((if e.1 = k then e.2 else 0) + totT ps k) * r
    rw [t_tot_sc r k ps]
    by_cases q : e.1 = k
    · rw [if_pos q, if_pos q]
      grind
    · rw [if_neg q, if_neg q]
      grind
theorem t_dot_sc (r : Rat) (M : Tx → Rat) : ∀ ps : List (Tx × Rat), dotT (scT ps r) M = dotT ps M * r
  | [] => by
    show (0 : Rat) = 0 * r
    grind
  | e :: ps => by
    show e.2 * r * M e.1 + dotT (scT ps r) M = (e.2 * M e.1 + dotT ps M) * r
    rw [t_dot_sc r M ps]
    grind
theorem t_cnt_sc (r : Rat) (k : Tx) : ∀ ps : List (Tx × Rat), cntT (scT ps r) k = cntT ps k
  | [] => rfl
  | e :: ps => by
    show (if e.1 = k then 1 else 0) + cntT (scT ps r) k = (if e.1 = k then 1 else 0) + cntT ps k
    rw [t_cnt_sc r k ps]
theorem t_cnt_res (ps : List (Tx × Rat)) (k : Tx) : cntT (resT ps) k ≤ 1 := t_cnt_one (t_rise_nodup (t_res_rise ps))
theorem t_tot_of {e : Tx × Rat} : ∀ {ps : List (Tx × Rat)}, (ps.map (·.1)).Nodup → e ∈ ps → totT ps e.1 = e.2
  | [], _, h => absurd h List.not_mem_nil
  | f :: ps, nd, h => by
    rw [List.map_cons, List.nodup_cons] at nd
    show (if f.1 = e.1 then f.2 else 0) + totT ps e.1 = e.2
    rcases List.mem_cons.mp h with q | q
    · subst q
      rw [if_pos rfl, t_tot_none nd.1]
      grind
    · have n : ¬ f.1 = e.1 := fun z => nd.1 (by rw [z]; exact List.mem_map_of_mem q)
      rw [if_neg n, t_tot_of nd.2 q]
      grind
theorem t_res_id {ps : List (Tx × Rat)} (h : (ps.map (·.1)).Pairwise ltT) (h0 : ∀ e ∈ ps, e.2 ≠ 0) : resT ps = ps := by
  have nd := t_rise_nodup h
  unfold resT
  rw [ordT_self h]
  have f : (ps.map (·.1)).filter (fun k => !decide (totT ps k = 0)) = ps.map (·.1) := by
    rw [List.filter_eq_self]
    intro k hk
    obtain ⟨e, he, rfl⟩ := List.mem_map.mp hk
    rw [t_tot_of nd he]
    simpa using h0 e he
  rw [f, List.map_map]
  conv => rhs; rw [← List.map_id ps]
  refine List.map_congr_left fun e he => ?_
  show (e.1, totT ps e.1) = e
  rw [t_tot_of nd he]
/-! ## sorted names -/
theorem sortT_ord {xs : List Tx} (nd : xs.Nodup) : sortT xs = ordT xs := by
  have nd2 : (sortT xs).Nodup := (sortT_perm xs).nodup_iff.mpr nd
  refine riseT_one ?_ (rise_ordT xs) fun k => by rw [(sortT_perm xs).mem_iff, mem_ordT]
  exact ((sortT_le xs).and nd2).imp fun h => ltT_of_leT h.1 h.2
theorem sortT_rise {xs : List Tx} (nd : xs.Nodup) : (sortT xs).Pairwise ltT := by
  rw [sortT_ord nd]
  exact rise_ordT xs
theorem sortT_len (xs : List Tx) : (sortT xs).length = xs.length := (sortT_perm xs).length_eq
theorem ordT_len (xs : List Tx) : (ordT xs).length ≤ xs.length := by
  have h1 : ∀ (k : Tx) (ys : List Tx), (insT k ys).length ≤ ys.length + 1 := by
    intro k ys
    induction ys with
    | nil => exact Nat.le_refl _
    | cons y ys ih =>
      unfold insT
      split
      · simp
      · split
        · simp
        · simp only [List.length_cons]
          omega
  induction xs with
  | nil => exact Nat.le_refl _
  | cons x xs ih =>
    have := h1 x (ordT xs)
    show (insT x (ordT xs)).length ≤ xs.length + 1
    omega
/-! ## a dict that adds up -/
def addM (m : List (Tx × Rat)) (e : Tx × Rat) : List (Tx × Rat) := dput m e.1 ((dget m e.1).getD 0 + e.2)
structure TabT (m ps : List (Tx × Rat)) : Prop where
  nd : (m.map (·.1)).Nodup
  mem : ∀ k, k ∈ m.map (·.1) ↔ k ∈ ps.map (·.1)
  get : ∀ k, k ∈ ps.map (·.1) → dget m k = some (totT ps k)
  len : m.length ≤ ps.length
theorem TabT.nil : TabT [] [] := ⟨.nil, fun _ => Iff.rfl, fun _ h => absurd h List.not_mem_nil, Nat.le_refl _⟩
theorem TabT.look {m ps : List (Tx × Rat)} (h : TabT m ps) (k : Tx) : (dget m k).getD 0 = totT ps k := by
  by_cases q : k ∈ ps.map (·.1)
  · rw [h.get k q]; rfl
  · rw [t_getM_none (fun z => q ((h.mem k).mp z)), t_tot_none q]; rfl
theorem TabT.put {m ps : List (Tx × Rat)} (h : TabT m ps) (e : Tx × Rat) : TabT (addM m e) (ps ++ [e]) := by
  have tk : ∀ k, totT (ps ++ [e]) k = totT ps k + (if e.1 = k then e.2 else 0) := fun k => by
    rw [t_tot_app]
    show totT ps k + ((if e.1 = k then e.2 else 0) + 0) = _
    grind
  have mk : ∀ k, k ∈ (addM m e).map (·.1) ↔ k ∈ (ps ++ [e]).map (·.1) := fun k => by
    unfold addM
    rw [t_keys_put, List.map_append, List.mem_append]
    have hk := h.mem k
    have he := h.mem e.1
    split
    · rename_i c
      constructor
      · intro z; exact .inl (hk.mp z)
      · rintro (z | z)
        · exact hk.mpr z
        · simp at z; subst z; exact c
    · rw [List.mem_append]
      constructor
      · rintro (z | z)
        · exact .inl (hk.mp z)
        · exact .inr (by simpa using z)
      · rintro (z | z)
        · exact .inl (hk.mpr z)
        · exact .inr (by simpa using z)
  refine ⟨?_, mk, fun k hk => ?_, ?_⟩
  · unfold addM
    rw [t_keys_put]
    split
    · exact h.nd
    · rename_i c
      rw [List.nodup_append]
      refine ⟨h.nd, by simp, fun a ha b hb q => ?_⟩
      rw [List.mem_singleton] at hb
      subst hb; subst q
      exact c ha
  · unfold addM
    rw [t_getM_put, tk]
    by_cases q : k = e.1
    · subst q
      rw [if_pos rfl, if_pos rfl, h.look]
    · have q' : ¬ e.1 = k := fun z => q z.symm
      rw [if_neg q, if_neg q']
      have hp : k ∈ ps.map (·.1) := by
        rw [List.map_append, List.mem_append] at hk
        rcases hk with z | z
        · exact z
        · simp at z; exact absurd z q
      rw [h.get k hp]
      congr 1
      grind
  · have : (addM m e).length = ((addM m e).map (·.1)).length := by simp
    rw [this]
    unfold addM
    rw [t_keys_put]
    have := h.len
    split
    · simp; omega
    · simp; omega
theorem TabT.foldl : ∀ (qs : List (Tx × Rat)) {m ps : List (Tx × Rat)}, TabT m ps → TabT (qs.foldl addM m) (ps ++ qs)
  | [], m, ps, h => by rw [List.append_nil]; exact h
  | e :: qs, m, ps, h => by
    have := TabT.foldl qs (h.put e)
    rw [List.append_assoc] at this
    exact this
/-- what a table leaves, in order -/
theorem filt_res {m ps : List (Tx × Rat)} (h : TabT m ps) : (sortT (m.map Prod.fst)).filterMap (fun k => if totT ps k = 0 then none else some (k, totT ps k)) = resT ps := by
  have e : sortT (m.map Prod.fst) = ordT (ps.map (·.1)) := by
    rw [sortT_ord h.nd]
    exact ordT_eq h.mem
  rw [e]
  unfold resT
  generalize ordT (ps.map (·.1)) = l
  induction l with
  | nil => rfl
  | cons k l ih =>
    rw [List.filterMap_cons]
    by_cases q : totT ps k = 0
    · rw [if_pos q, List.filter_cons_of_neg (by simp [q])]
      exact ih
    · rw [if_neg q, List.filter_cons_of_pos (by simp [q]), List.map_cons]
      simp only [ih]

end
section
set_option Elab.async false
set_option linter.all false
set_option maxRecDepth 100000
set_option maxHeartbeats 1000000
open TL PySem L2 Res
/-! # menus and dealings: what the program makes of them -/
abbrev Stp := Rat × Rat × Int
abbrev Mn := List (Tx × List Stp)
abbrev Dl := List (Tx × Int)
theorem loop_allG {ε α ρ : Type} {body : α → Unit → (Unit → Res ε ρ) → Res ε ρ} {k : Unit → Res ε ρ} {bad : Res ε ρ} (f : α → Bool) : ∀ (xs : List α), (∀ x ∈ xs, ∀ nx : Unit → Res ε ρ, body x () nx = if f x = true then nx () else bad) → Res.loop body k xs () = if xs.all f = true then k () else bad
  | [], _ => by rw [List.all_nil, if_pos rfl]; rfl
  | x :: xs, h => by
    show body x () (Res.loop body k xs) = _
    rw [h x List.mem_cons_self, List.all_cons]
    cases f x with
    | true =>
      rw [if_pos rfl, Bool.true_and]
      exact loop_allG f xs (fun y hy => h y (List.mem_cons_of_mem _ hy))
    | false =>
      rw [if_neg (by decide), Bool.false_and, if_neg (by decide)]
theorem loop_mapG {ε α β σ ρ : Type} {body : β → σ → (σ → Res ε ρ) → Res ε ρ} {k : σ → Res ε ρ} (g : α → β) : ∀ (xs : List α) (s : σ), Res.loop body k (xs.map g) s = Res.loop (fun x => body (g x)) k xs s
  | [], _ => rfl
  | x :: xs, s => by
    show body (g x) s (Res.loop body k (xs.map g)) = body (g x) s (Res.loop (fun x => body (g x)) k xs)
    congr 1
    funext s'
    exact loop_mapG g xs s'
theorem dgetG {α : Type} {p : Tx × α} : ∀ {m : List (Tx × α)}, (m.map (·.1)).Nodup → p ∈ m → dget m p.1 = some p.2
  | [], _, hp => by cases hp
  | q :: m, nd, hp => by
    rw [List.map_cons, List.nodup_cons] at nd
    rcases List.mem_cons.mp hp with rfl | hp'
    · simp [dget]
    · have ne : q.1 ≠ p.1 := fun e => nd.1 (e ▸ List.mem_map_of_mem hp')
      have ih := dgetG nd.2 hp'
      unfold dget at ih ⊢
      rw [List.find?_cons]
      simp only [ne, decide_false]
      exact ih
def stpB (s : Stp) : Bool := !(decide (s.2.1.num * (s.1.den : Int) < s.1.num * (s.2.1.den : Int)) || decide (s.2.2 < 0))
def chk (ss : List Stp) : Bool := (decide ((1 : Int) ≤ (List.length ss : Int)) && decide ((List.length ss : Int) ≤ 8)) && ss.all stpB
/-- menus with numbers of any size that fits -/
structure MnB (m : Mn) : Prop where
  nd : (m.map (·.1)).Nodup
  bd : ∀ p ∈ m, ∀ s ∈ p.2, Nu.Bd 100 s.1 ∧ Nu.Bd 100 s.2.1
  le : m.length ≤ 6
theorem menus_eq {m : Mn} (h : MnB m) : m_check_menus m = if m.all (fun p => chk p.2) = true then .ok () else .err "NoDealing" () := by
  unfold m_check_menus
  rw [loop_mapG, loop_allG (bad := .err "NoDealing" ()) (fun p => chk p.2) _ fun p hp nx => ?_]
  · rfl
  · unfold m_check_menus_b4
    rw [dgetG h.nd hp, opt_some, bind_ok, bind_ok]
    have e : Res.loop m_check_menus_b3 (m_check_menus_k2 nx) p.2 () = if p.2.all stpB = true then nx () else .err "NoDealing" () := by
      refine loop_allG stpB _ fun s hs nx' => ?_
      obtain ⟨b1, b2⟩ := h.bd p hp s hs
      unfold m_check_menus_b3 stpB
      rw [m_is_less_eq (b2.mono (by decide)) (b1.mono (by decide)), bind_ok]
      cases (decide (s.2.1.num * (s.1.den : Int) < s.1.num * (s.2.1.den : Int)) || decide (s.2.2 < 0)) <;> rfl
    rw [e]
    unfold chk
    cases (decide ((1 : Int) ≤ (List.length p.2 : Int)) && decide ((List.length p.2 : Int) ≤ 8)) with
    | true => rw [if_neg (by decide), Bool.true_and]
    | false => rw [if_pos (by decide), Bool.false_and, if_neg (by decide)]
/-- good menus -/
structure MnOk (m : Mn) : Prop where
  b : MnB m
  g : ∀ p ∈ m, chk p.2 = true
def prodM (m : Mn) : Int := m.foldl (fun s p => s * (List.length p.2 : Int)) 1
theorem MnOk.all {m : Mn} (h : MnOk m) : m.all (fun p => chk p.2) = true := List.all_eq_true.mpr h.g
theorem chk_len {ss : List Stp} (h : chk ss = true) : 1 ≤ ss.length ∧ ss.length ≤ 8 := by
  unfold chk at h
  rw [Bool.and_eq_true, Bool.and_eq_true, decide_eq_true_eq, decide_eq_true_eq] at h
  omega
theorem prod_bd {pre post m : Mn} (h : MnOk m) (hp : m = pre ++ post) : 0 ≤ prodM pre ∧ prodM pre ≤ 8 ^ pre.length := by
  have key : ∀ (xs : Mn) (s : Int) (n : Nat), (∀ p ∈ xs, chk p.2 = true) → 0 ≤ s → s ≤ 8 ^ n → 0 ≤ xs.foldl (fun s p => s * (List.length p.2 : Int)) s ∧ xs.foldl (fun s p => s * (List.length p.2 : Int)) s ≤ 8 ^ (n + xs.length) := by
    intro xs
    induction xs with
    | nil => intro s n _ h0 h1; exact ⟨h0, h1⟩
    | cons p xs ih =>
      intro s n hx h0 h1
      have hl := chk_len (hx p List.mem_cons_self)
      rw [List.foldl_cons, List.length_cons, show n + (xs.length + 1) = (n + 1) + xs.length by omega]
      refine ih _ _ (fun q hq => hx q (List.mem_cons_of_mem _ hq)) (Int.mul_nonneg h0 (by omega)) ?_
      rw [Int.pow_succ]
      exact Int.mul_le_mul h1 (by omega) (by omega) (Int.le_trans h0 h1)
  have := key pre 1 0 (fun p hp' => h.g p (by rw [hp]; exact List.mem_append_left _ hp')) (by decide) (by decide)
  rwa [Nat.zero_add] at this
theorem prod_cm {pre post m : Mn} {p : Tx × List Stp} (h : MnOk m) (hp : m = pre ++ p :: post) : CMulW (prodM pre) (List.length p.2 : Int) := by
  obtain ⟨h0, h1⟩ := prod_bd h hp
  have hl := chk_len (h.g p (by rw [hp]; simp))
  have l6 := h.b.le
  have pl : pre.length ≤ 6 := by rw [hp] at l6; simp at l6; omega
  have e : (8 : Int) ^ pre.length ≤ 8 ^ 6 := by
    have := Nat.pow_le_pow_right (n := 8) (by decide) pl
    exact_mod_cast this
  have e2 : (8 : Int) ^ 6 = 262144 := by decide
  have e3 : (2 : Nat) ^ 30 = 1073741824 := by decide
  exact cmulw 30 4 (by omega) (by omega)
theorem many_eq {m : Mn} (h : MnOk m) : m_dealings_many m = .ok (prodM m) := by
  have key : (m_dealings_many m).To (· = prodM m) := by
    unfold m_dealings_many
    rw [menus_eq h.b, if_pos h.all, bind_ok, bind_ok, bind_ok, loop_mapG]
    refine To.loop (fun pre s => s = prodM pre) rfl ?_ fun s hs => by unfold m_dealings_many_k1; exact .ok hs
    intro pre p post s hp hs nx hnx
    subst hs
    unfold m_dealings_many_b2
    rw [dgetG h.b.nd (by rw [hp]; simp), opt_some, bind_ok]
    refine To.g (prod_cm h hp) (To.v (hnx _ ?_))
    show prodM pre * _ = prodM (pre ++ [p])
    unfold prodM
    rw [List.foldl_append]
    rfl
  obtain ⟨v, e, rfl⟩ := key
  exact e
theorem many_err {m : Mn} (h : MnB m) (hb : m.all (fun p => chk p.2) = false) : m_dealings_many m = .err "NoDealing" () := by
  unfold m_dealings_many
  rw [menus_eq h, hb]
  rfl
/-! a dealing -/
def dlB (m : Mn) (d : Dl) (p : Tx × List Stp) : Bool := match dget d p.1 with
  | none => false
  | some v => decide (0 ≤ v) && decide (v < (List.length p.2 : Int))
theorem dealing_eq {m : Mn} {d : Dl} (h : MnB m) (hd : d.length ≤ 10) : m_check_dealing m d = if m.all (fun p => chk p.2) = true then (if sortT (m.map Prod.fst) = sortT (d.map Prod.fst) then (if m.all (dlB m d) = true then .ok () else .err "NoDealing" ()) else .err "NoDealing" ()) else .err "NoDealing" () := by
  have ml := h.le
  unfold m_check_dealing
  rw [menus_eq h]
  cases m.all (fun p => chk p.2) with
  | false => rfl
  | true =>
    rw [if_pos rfl, if_pos rfl, bind_ok, bind_ok, grd_t (by omega), bind_ok, grd_t (by omega), bind_ok]
    by_cases c : sortT (m.map Prod.fst) = sortT (d.map Prod.fst)
    · rw [if_neg (by simpa using c), if_pos c, loop_mapG, loop_allG (bad := .err "NoDealing" ()) (dlB m d) _ fun p hp nx => ?_]
      · rfl
      · have mem : p.1 ∈ d.map Prod.fst := (sortT_perm _).mem_iff.mp (c ▸ (sortT_perm _).mem_iff.mpr (List.mem_map_of_mem hp))
        obtain ⟨v, hv⟩ : ∃ v, dget d p.1 = some v := by
          cases e : dget d p.1 with
          | some v => exact ⟨v, rfl⟩
          | none =>
            unfold dget at e
            rw [Option.map_eq_none_iff, List.find?_eq_none] at e
            obtain ⟨q, hq, e2⟩ := List.mem_map.mp mem
            exact absurd (e q hq) (by simp [e2])
        have e : dlB m d p = (decide (0 ≤ v) && decide (v < (List.length p.2 : Int))) := by unfold dlB; rw [hv]
        unfold m_check_dealing_b2
        rw [e, hv, opt_some, bind_ok, dgetG h.nd hp, opt_some, bind_ok]
        by_cases c1 : 0 ≤ v
        · rw [if_pos (decide_eq_true c1), bind_ok, decide_eq_true c1, Bool.true_and]
          by_cases c2 : v < (List.length p.2 : Int)
          · rw [decide_eq_true c2, if_neg (by decide), if_pos rfl]
          · rw [decide_eq_false c2, if_pos (by decide), if_neg (by decide)]
        · rw [if_neg (by simpa using c1), bind_ok, decide_eq_false c1, Bool.false_and, if_pos (by decide), if_neg (by decide)]
    · rw [if_pos (by simpa using c), if_neg c]
/-- good dealings -/
structure DlOk (m : Mn) (d : Dl) : Prop where
  keys : d.map (·.1) = m.map (·.1)
  g : ∀ p ∈ m, ∃ v, dget d p.1 = some v ∧ 0 ≤ v ∧ v < (List.length p.2 : Int)
def prc (d : Dl) (p : Tx × List Stp) : Int := match dget d p.1 with
  | none => 0
  | some v => match atI p.2 v with
    | none => 0
    | some s => s.2.2
theorem prc_at {m : Mn} {d : Dl} {p : Tx × List Stp} (h : DlOk m d) (hp : p ∈ m) : ∃ v s, dget d p.1 = some v ∧ atI p.2 v = some s ∧ prc d p = s.2.2 := by
  obtain ⟨v, hv, v0, v1⟩ := h.g p hp
  obtain ⟨s, _, hs⟩ := atI_mem' v0 v1
  refine ⟨v, s, hv, hs, ?_⟩
  unfold prc
  rw [hv]
  dsimp only
  rw [hs]
theorem DlOk.all {m : Mn} {d : Dl} (h : DlOk m d) : m.all (dlB m d) = true := List.all_eq_true.mpr fun p hp => by
  obtain ⟨v, hv, v0, v1⟩ := h.g p hp
  unfold dlB
  rw [hv]
  dsimp only
  rw [decide_eq_true v0, decide_eq_true v1]
  rfl
theorem DlOk.len {m : Mn} {d : Dl} (h : DlOk m d) : d.length = m.length := by
  have := congrArg List.length h.keys
  simpa using this
theorem price_eq {m : Mn} {d : Dl} (h : MnOk m) (hd : DlOk m d) : m_price_of m d = .ok (m.map (prc d)).sum := by
  have ml := h.b.le
  have dl := hd.len
  have e : sortT (m.map Prod.fst) = sortT (d.map Prod.fst) := by rw [show d.map Prod.fst = m.map Prod.fst from hd.keys]
  unfold m_price_of
  rw [dealing_eq h.b (by omega), if_pos h.all, if_pos e, if_pos hd.all, bind_ok, bind_ok, grd_t (by rw [List.length_map]; omega), bind_ok]
  have key : ∀ xs : Mn, (∀ p ∈ xs, p ∈ m) → (Res.lc (fun (x2 : Tx) (s3 : Unit) => Res.bind (Res.opt (dget m x2)) fun z5 => Res.bind (Res.opt (dget d x2)) fun z6 => Res.bind (Res.opt (atI z5 z6)) fun z4 => (.ok (some z4.2.2, s3) : Res Unit (Option Int × Unit))) (xs.map Prod.fst) ()) = .ok (xs.map (prc d), ()) := by
    intro xs
    induction xs with
    | nil => intro _; rfl
    | cons p xs ih =>
      intro hx
      obtain ⟨v, s, hv, hs, e⟩ := prc_at hd (hx p List.mem_cons_self)
      rw [List.map_cons, List.map_cons]
      unfold Res.lc
      rw [dgetG h.b.nd (hx p List.mem_cons_self), opt_some, bind_ok, hv, opt_some, bind_ok, hs, opt_some, bind_ok, bind_ok, ih (fun q hq => hx q (List.mem_cons_of_mem _ hq)), bind_ok, e]
  rw [key m (fun p hp => hp), calm_ok, bind_ok]
theorem price_err {m : Mn} {d : Dl} (h : MnB m) (hd : d.length ≤ 10) (hb : m.all (fun p => chk p.2) = false ∨ sortT (m.map Prod.fst) ≠ sortT (d.map Prod.fst) ∨ m.all (dlB m d) = false) : m_price_of m d = .err "NoDealing" () := by
  have e : m_check_dealing m d = .err "NoDealing" () := by
    rw [dealing_eq h hd]
    by_cases c1 : m.all (fun p => chk p.2) = true
    · rw [if_pos c1]
      by_cases c2 : sortT (m.map Prod.fst) = sortT (d.map Prod.fst)
      · rw [if_pos c2]
        rcases hb with q | q | q
        · rw [q] at c1; cases c1
        · exact absurd c2 q
        · rw [q, if_neg (by decide)]
      · rw [if_neg c2]
    · rw [if_neg c1]
  unfold m_price_of
  rw [e]
  rfl

end
section
set_option Elab.async false
set_option linter.all false
set_option maxRecDepth 100000
set_option maxHeartbeats 1000000
open TL PySem L2 Res
/-! # menus and dealings drawn -/
theorem keys_putG {α : Type} {m : List (Tx × α)} {k : Tx} {d : α} : (dput m k d).map (·.1) = if k ∈ m.map (·.1) then m.map (·.1) else m.map (·.1) ++ [k] := t_keys_put
theorem nd_putG {α : Type} {m : List (Tx × α)} {k : Tx} {d : α} (nd : (m.map (·.1)).Nodup) : ((dput m k d).map (·.1)).Nodup := by
  rw [keys_putG]
  split
  · exact nd
  · rename_i c
    rw [List.nodup_append]
    exact ⟨nd, by simp, fun a ha b hb e => by simp at hb; subst hb; subst e; exact c ha⟩
theorem mem_putG {α : Type} {m : List (Tx × α)} {k : Tx} {d : α} {p : Tx × α} (hp : p ∈ dput m k d) : p ∈ m ∨ p.2 = d := by
  unfold dput at hp
  split at hp
  · obtain ⟨e, he, rfl⟩ := List.mem_map.mp hp
    split
    · exact .inr rfl
    · exact .inl he
  · rcases List.mem_append.mp hp with q | q
    · exact .inl q
    · simp at q
      subst q
      exact .inr rfl
theorem len_putG {α : Type} {m : List (Tx × α)} {k : Tx} {d : α} : (dput m k d).length ≤ m.length + 1 := by
  have := congrArg List.length (keys_putG (m := m) (k := k) (d := d))
  rw [List.length_map] at this
  split at this <;> simp at this <;> omega
structure StG (s : Stp) : Prop where
  b1 : Nu.Bd 60 s.1
  b2 : Nu.Bd 60 s.2.1
  g : stpB s = true
theorem steps_to {n : Nat} {w : List Int} {k : Int} (h : Wl n w) (hn : n ≤ 2 ^ 38) (k0 : 0 ≤ k) (k1 : k ≤ 9) : (l_steps w k).To fun r => (r.1.length : Int) = k ∧ (∀ s ∈ r.1, StG s) ∧ Wl (n + 60) r.2 := by
  have p38 : (2 : Nat) ^ 38 = 274877906944 := by decide
  have p40 : (2 : Nat) ^ 40 = 1099511627776 := by decide
  have p60 : (2 : Nat) ^ 60 = 1152921504606846976 := by decide
  have p62 : (2 : Int) ^ 62 = 4611686018427387904 := by decide
  have b60 : (60 : Int).natAbs < 2 ^ 8000 := Nat.lt_of_lt_of_le (show (60 : Int).natAbs < 2 ^ 60 by decide) (Nat.pow_le_pow_right (by decide) (by decide))
  unfold l_steps
  refine To.v (To.g ⟨by omega, by omega⟩ (To.loop (fun pre (s : List Stp × List Int) => s.1.length = pre.length ∧ (∀ x ∈ s.1, StG x) ∧ Wl (n + 6 * pre.length) s.2) ⟨rfl, (fun x hx => by cases hx), h⟩ ?_ ?_))
  · rintro pre x post ⟨ss, v⟩ hp ⟨i1, i2, i3⟩ nx hnx
    dsimp only at i1 i2 i3
    have pl : pre.length < 9 := by
      have := congrArg List.length hp
      rw [rangeL_len] at this
      simp at this
      omega
    unfold l_steps_b2
    refine To.b (take_to i3 (by decide) (by decide) (by omega)) fun a ⟨a0, a1, ha⟩ => To.v (To.b (take_to ha (by decide) (by decide) (by omega)) fun b ⟨b0, b1, hb⟩ => To.b (take_to hb (by decide) (by decide) (by omega)) fun c ⟨c0, c1, hc⟩ => ?_)
    refine To.g (cmulw 9 2 (by omega) (by omega)) (To.v (To.b (take_to hc (by decide) (by decide) (by omega)) fun d ⟨d0, d1, hd⟩ => To.b (take_to hd (by decide) (by decide) (by omega)) fun e ⟨e0, e1, he⟩ => To.b (take_to he (by decide) (by decide) (by omega)) fun f ⟨f0, f1, hf⟩ => ?_))
    have bc : 0 ≤ b.1 * c.1 ∧ b.1 * c.1 ≤ 200 := by
      have cs : c.1 = 0 ∨ c.1 = 1 := by omega
      rcases cs with q | q <;> rw [q] <;> omega
    obtain ⟨pr, hpr, epr⟩ := atI_mem' (xs := [d.1, e.1]) f0 (by simpa using f1)
    have pr0 : 0 ≤ pr := by
      simp at hpr
      omega
    refine To.o epr (To.v ?_)
    dsimp only
    rw [l_num_k58_eq (by decide) b60, l_num_k58_eq (by decide) b60]
    refine To.v (To.v (To.g (show ss.length < 100000 by omega) (hnx _ ⟨by simp [i1], ?_, hf.up (by simp; omega)⟩)))
    intro y hy
    rcases List.mem_append.mp hy with q | q
    · exact i2 y q
    · simp at q
      subst q
      refine ⟨Nu.q_bd (by omega) (by decide) (by decide), Nu.q_bd (by omega) (by decide) (by decide), ?_⟩
      unfold stpB
      dsimp only
      rw [decide_eq_false (q_le (t := a.1 - 1000) (u := a.1 - 1000 + b.1 * c.1) (by decide) (by omega)), decide_eq_false (by omega)]
      rfl
  · rintro ⟨ss, v⟩ ⟨i1, i2, i3⟩
    dsimp only at i1 i2 i3
    rw [rangeL_len] at i1 i3
    unfold l_steps_k1
    exact .ok ⟨by show (ss.length : Int) = k; omega, i2, i3.up (by omega)⟩
theorem chk_of {ss : List Stp} (h1 : 1 ≤ ss.length) (h8 : ss.length ≤ 8) (hg : ∀ s ∈ ss, StG s) : chk ss = true := by
  unfold chk
  rw [decide_eq_true (by omega), decide_eq_true (by omega), List.all_eq_true.mpr fun s hs => (hg s hs).g]
  rfl
/-- names with a point in them -/
def Pt (t : Tx) : Prop := 46 ∈ t.s.cps.toList
structure MnG (m : Mn) : Prop where
  nd : (m.map (·.1)).Nodup
  g : ∀ p ∈ m, (∀ s ∈ p.2, StG s) ∧ chk p.2 = true
  pt : ∀ k ∈ m.map (·.1), Pt k
  le : m.length ≤ 6
theorem MnG.ok {m : Mn} (h : MnG m) : MnOk m := ⟨⟨h.nd, fun p hp s hs => ⟨((h.g p hp).1 s hs).b1.mono (by decide), ((h.g p hp).1 s hs).b2.mono (by decide)⟩, h.le⟩, fun p hp => (h.g p hp).2⟩
theorem drawn_to {ns : List Int} : (l_drawn ns).To fun r => MnG r.1 ∧ DlOk r.1 r.2 := by
  have p38 : (2 : Nat) ^ 38 = 274877906944 := by decide
  have p39 : (2 : Nat) ^ 39 = 549755813888 := by decide
  have p40 : (2 : Nat) ^ 40 = 1099511627776 := by decide
  have p62 : (2 : Int) ^ 62 = 4611686018427387904 := by decide
  have dl : sx_3a52ce78.len = 1 := by decide +kernel
  have dm : 46 ∈ sx_3a52ce78.s.cps.toList := by decide +kernel
  unfold l_drawn
  refine To.b (well_to (by decide) (by decide)) fun w hw => To.v (To.v (To.b (To.mE (take_to hw (by decide) (by decide) (by decide))) fun y ⟨y0, y1, hy⟩ => To.g ⟨by omega, by omega⟩ ?_))
  refine To.loop (fun pre (s : Mn × List Int) => (s.1.map (·.1)).Nodup ∧ (∀ p ∈ s.1, (∀ t ∈ p.2, StG t) ∧ chk p.2 = true) ∧ (∀ k ∈ s.1.map (·.1), Pt k) ∧ s.1.length ≤ pre.length ∧ Wl (1101 + 100 * pre.length) s.2) ⟨.nil, (fun p hp => by cases hp), (fun k hk => by cases hk), Nat.le_refl _, hy⟩ ?_ ?_
  · rintro pre x post ⟨m, v⟩ hp ⟨i1, i2, i3, i4, i5⟩ nx hnx
    dsimp only at i1 i2 i3 i4 i5
    have pl : pre.length < 6 := by
      have := congrArg List.length hp
      rw [rangeL_len] at this
      simp at this
      omega
    have hx := rangeL_mem (lo := 0) (n := y.1.toNat) (i := x) (by rw [hp]; simp)
    obtain ⟨xn, ex⟩ : ∃ xn : Nat, x = (xn : Int) := ⟨x.toNat, by omega⟩
    subst ex
    unfold l_drawn_b4
    refine To.b (To.mE (take_to i5 (by decide) (by decide) (by omega))) fun a ⟨a0, a1, ha⟩ => To.b (To.mE (steps_to ha (by omega) (by omega) (by omega))) fun s ⟨s1, s2, hs⟩ => ?_
    refine To.b (To.mE (l_word_to hs (by omega) (by omega))) fun b ⟨b1, hb⟩ => ?_
    have bl : b.1.len ≤ 7 := by
      obtain ⟨cs, e, _, cl⟩ := b1
      rw [Tx.len_l, e]
      simp
      omega
    refine To.g (by omega) (To.b (To.mE (l_word_to (k := 0) hb (by omega) (by decide))) fun c ⟨c1, hc⟩ => ?_)
    have cl : c.1.len ≤ 7 := by
      obtain ⟨cs, e, _, cl⟩ := c1
      rw [Tx.len_l, e]
      simp
      omega
    refine To.g (by rw [Tx.len_app, dl]; omega) (To.g (show m.length < 100000 by omega) (hnx _ ⟨nd_putG i1, fun p hp => ?_, fun k hk => ?_, ?_, hc.up (by simp; omega)⟩))
    · rcases mem_putG hp with q | q
      · exact i2 p q
      · rw [q]
        exact ⟨s2, chk_of (by omega) (by omega) s2⟩
    · have hk' : k ∈ (dput m (b.1 ++ sx_3a52ce78 ++ c.1) s.1).map (·.1) := hk
      have pt : Pt (b.1 ++ sx_3a52ce78 ++ c.1) := by
        unfold Pt
        rw [Tx.app_l, Tx.app_l]
        exact List.mem_append_left _ (List.mem_append_right _ dm)
      rw [keys_putG] at hk'
      split at hk'
      · exact i3 k hk'
      · rcases List.mem_append.mp hk' with q | q
        · exact i3 k q
        · simp at q
          subst q
          exact pt
    · have := len_putG (m := m) (k := b.1 ++ sx_3a52ce78 ++ c.1) (d := s.1)
      show (dput m _ s.1).length ≤ (pre ++ [_]).length
      simp
      omega
  · rintro ⟨m, v⟩ ⟨i1, i2, i3, i4, i5⟩
    dsimp only at i1 i2 i3 i4 i5
    rw [rangeL_len] at i4 i5
    have mg : MnG m := ⟨i1, i2, i3, by omega⟩
    unfold l_drawn_k3
    dsimp only
    rw [bind_ok, loop_mapG]
    refine To.loop (fun pre (s : Dl × List Int) => s.1.map (·.1) = pre.map (·.1) ∧ (∀ p ∈ pre, ∃ v, dget s.1 p.1 = some v ∧ 0 ≤ v ∧ v < (List.length p.2 : Int)) ∧ Wl (2000 + pre.length) s.2) ⟨rfl, (fun p hp => by cases hp), i5.up (by omega)⟩ ?_ ?_
    · rintro pre p post ⟨d, u⟩ hp ⟨j1, j2, j3⟩ nx hnx
      dsimp only at j1 j2 j3
      have hpm : p ∈ m := by rw [hp]; simp
      have pl : pre.length ≤ 6 := by
        have := congrArg List.length hp
        have := mg.le
        simp at *
        omega
      have cl := chk_len (mg.g p hpm).2
      have dl : d.length = pre.length := by
        have := congrArg List.length j1
        simpa using this
      have fr : p.1 ∉ d.map (·.1) := by
        rw [j1]
        have nd := mg.nd
        rw [hp, List.map_append, List.map_cons] at nd
        exact fun hm => (List.nodup_append.mp nd).2.2 _ hm _ List.mem_cons_self rfl
      unfold l_drawn_b2
      dsimp only
      rw [dgetG mg.nd hpm, opt_some, bind_ok]
      refine To.b (To.mE (take_to j3 (by omega) (by omega) (by omega))) fun a ⟨a0, a1, ha⟩ => To.g (show d.length < 100000 by omega) (hnx _ ⟨?_, fun q hq => ?_, ha.up (by simp; omega)⟩)
      · show (dput d p.1 a.1).map (·.1) = _
        rw [keys_putG, if_neg fr, j1, List.map_append]
        rfl
      · show ∃ v, dget (dput d p.1 a.1) q.1 = some v ∧ _
        rw [t_getM_put]
        by_cases c : q.1 = p.1
        · rw [if_pos c]
          refine ⟨a.1, rfl, a0, ?_⟩
          rcases List.mem_append.mp hq with z | z
          · exact absurd (c ▸ List.mem_map_of_mem z) (j1 ▸ fr)
          · simp at z
            rw [z]
            exact a1
        · rw [if_neg c]
          rcases List.mem_append.mp hq with z | z
          · exact j2 q z
          · simp at z
            exact absurd (by rw [z]) c
    · rintro ⟨d, u⟩ ⟨j1, j2, j3⟩
      unfold l_drawn_k1
      exact .ok ⟨mg, ⟨j1, j2⟩⟩

end
section
set_option Elab.async false
set_option linter.all false
set_option maxRecDepth 100000
set_option maxHeartbeats 1000000
open TL PySem L2 Res
/-! # what is spoilt is refused; the law -/
theorem tell : l_refused_k53_h2 "NoDealing" = .ok true := by
  unfold l_refused_k53_h2
  rw [show List.lookup ("NoDealing" : PySem.Str) xl_5bb3d9ed = some true by decide +kernel, show List.lookup ("NoDealing" : PySem.Str) xl_0592de21 = some false by decide +kernel, show List.lookup ("NoDealing" : PySem.Str) xl_9cbeb521 = some false by decide +kernel]
  simp only [opt_some, bind_ok]
  rw [grd_t (by simp), bind_ok, grd_t (by simp), bind_ok]
  rfl
theorem ref0 {m : Mn} {d : Dl} (h : m_dealings_many m = .err "NoDealing" ()) : l_refused_k53 0 m d = .ok true := by
  unfold l_refused_k53
  rw [bind_ok, if_pos (by decide), h, mapE_err, bind_err, tryE_err (by decide +kernel)]
  exact tell
theorem ref1 {m : Mn} {d : Dl} (h : m_price_of m d = .err "NoDealing" ()) : l_refused_k53 1 m d = .ok true := by
  unfold l_refused_k53
  rw [bind_ok, if_neg (by decide), h, mapE_err, bind_err, tryE_err (by decide +kernel)]
  exact tell
theorem get_putG {α : Type} {m : List (Tx × α)} {k j : Tx} {d : α} : dget (dput m k d) j = if j = k then some d else dget m j := t_getM_put
theorem dget_memG {α : Type} {m : List (Tx × α)} {k : Tx} {v : α} (h : dget m k = some v) : (k, v) ∈ m := by
  unfold dget at h
  obtain ⟨e, he, rfl⟩ := Option.map_eq_some_iff.mp h
  have h1 := List.find?_some he
  have h2 := List.mem_of_find?_eq_some he
  have : e.1 = k := by simpa using h1
  rw [← this]
  exact h2
/-- rows that are none -/
structure Bad (r : List Stp) : Prop where
  b : ∀ s ∈ r, Nu.Bd 100 s.1 ∧ Nu.Bd 100 s.2.1
  c : chk r = false
theorem bad_put {m : Mn} {k : Tx} {r : List Stp} (h : MnG m) (hk : k ∈ m.map (·.1)) (hr : Bad r) : MnB (dput m k r) ∧ (dput m k r).all (fun p => chk p.2) = false := by
  refine ⟨⟨nd_putG h.nd, fun p hp s hs => ?_, ?_⟩, ?_⟩
  · rcases mem_putG hp with q | q
    · exact h.ok.b.bd p q s hs
    · rw [q] at hs
      exact hr.b s hs
  · have := congrArg List.length (keys_putG (m := m) (k := k) (d := r))
    rw [if_pos hk] at this
    have le := h.le
    simp at this
    omega
  · have mem : (k, r) ∈ dput m k r := dget_memG (by rw [get_putG, if_pos rfl])
    rw [Bool.eq_false_iff]
    intro z
    have := List.all_eq_true.mp z _ mem
    rw [show chk (k, r).2 = false from hr.c] at this
    cases this
theorem q_sub_lt {r : Rat} {c : Int} (hc : 0 < c) : stpB (r, Nu.q (r.num - (r.den : Int) * c) (r.den : Int), 0) = false := by
  have dp : (0 : Rat) < ((r.den : Int) : Rat) := by exact_mod_cast r.den_pos
  have d0 : ((r.den : Int) : Rat) ≠ 0 := fun z => by rw [z] at dp; exact absurd dp (by decide)
  have cp : (0 : Rat) < (c : Rat) := by exact_mod_cast hc
  have e1 : Nu.q (r.num - (r.den : Int) * c) (r.den : Int) * ((r.den : Int) : Rat) = (r.num : Rat) - ((r.den : Int) : Rat) * (c : Rat) := by
    rw [q_div, Rat.div_mul_cancel d0, Rat.intCast_sub, Rat.intCast_mul]
  have e2 : r * ((r.den : Int) : Rat) = (r.num : Rat) := by
    have q := Nu.q_self r
    rw [q_div] at q
    have t := Rat.div_mul_cancel (a := (r.num : Rat)) d0
    rw [q] at t
    exact t
  have lt : Nu.q (r.num - (r.den : Int) * c) (r.den : Int) < r := by
    generalize Nu.q (r.num - (r.den : Int) * c) (r.den : Int) = x at e1
    generalize hD : ((r.den : Int) : Rat) = D at *
    generalize (r.num : Rat) = N at *
    refine Rat.not_le.mp fun z => ?_
    have h1 := Rat.mul_nonneg (show (0 : Rat) ≤ x - r by grind) (Rat.le_of_lt dp)
    have h2 := Rat.mul_pos dp cp
    grind
  unfold stpB
  dsimp only
  rw [decide_eq_true ((Nu.less_is _ _).mpr lt)]
  rfl
theorem stp_bad {r : Rat} {x y : Int} {z : Rat} (h : stpB (r, z, x) = false) (hx : 0 ≤ x) (hy : 0 ≤ y) : stpB (r, z, y) = false := by
  unfold stpB at h ⊢
  dsimp only at h ⊢
  rw [decide_eq_false (show ¬ x < 0 by omega), Bool.or_false] at h
  rw [decide_eq_false (show ¬ y < 0 by omega), Bool.or_false]
  exact h
theorem chk_bad {ss : List Stp} {s : Stp} (hs : s ∈ ss) (hb : stpB s = false) : chk ss = false := by
  rw [Bool.eq_false_iff]
  intro z
  unfold chk at z
  rw [Bool.and_eq_true] at z
  have := List.all_eq_true.mp z.2 s hs
  rw [hb] at this
  cases this
theorem mem_cutL {α : Type} {xs : List α} {lo hi : Option Int} {x : α} (h : x ∈ cutL xs lo hi) : x ∈ xs := List.mem_of_mem_drop (List.mem_of_mem_take h)
theorem len_cutL {α : Type} {xs : List α} {lo hi : Option Int} : (cutL xs lo hi).length ≤ xs.length := by
  unfold cutL
  rw [List.length_take, List.length_drop]
  omega
theorem spoilt_to {n : Nat} {w : List Int} {m : Mn} (h : Wl n w) (hn : n ≤ 2 ^ 37) (hm : MnG m) (ne : m ≠ []) : (l_spoilt m w).To fun r => (∀ x ∈ r.1, MnB x ∧ x.all (fun p => chk p.2) = false) ∧ Wl (n + 100) r.2 := by
  have p37 : (2 : Nat) ^ 37 = 137438953472 := by decide
  have p38 : (2 : Nat) ^ 38 = 274877906944 := by decide
  have p40 : (2 : Nat) ^ 40 = 1099511627776 := by decide
  have p11 : (2 : Nat) ^ 11 = 2048 := by decide
  have le := hm.le
  have pos : 0 < m.length := List.length_pos_iff.mpr ne
  unfold l_spoilt
  refine To.g (by omega) (To.b (take_to h (by omega) (by omega) (by omega)) fun a ⟨a0, a1, ha⟩ => ?_)
  obtain ⟨k, hk, ek⟩ := atI_mem' (xs := sortT (m.map Prod.fst)) a0 (by rw [sortT_len, List.length_map]; exact a1)
  have hk' : k ∈ m.map (·.1) := (sortT_perm _).mem_iff.mp hk
  obtain ⟨p, hp, rfl⟩ := List.mem_map.mp hk'
  obtain ⟨hg, hc⟩ := hm.g p hp
  have cl := chk_len hc
  refine To.o ek (To.v ?_)
  dsimp only
  rw [dgetG hm.nd hp, opt_some, bind_ok, bind_ok]
  refine To.b (take_to ha (by omega) (by omega) (by omega)) fun b ⟨b0, b1, hb⟩ => To.v ?_
  obtain ⟨s, hs, es⟩ := atI_mem' b0 b1
  have sg := hg s hs
  refine To.o es (To.v (To.b (take_to hb (by decide) (by decide) (by omega)) fun c ⟨c0, c1, hcw⟩ => ?_))
  have den60 := Nu.den_abs sg.b1
  refine To.g (cmulw 60 11 den60 (by omega)) ?_
  have dp : 0 < (s.1.den : Int) := by exact_mod_cast s.1.den_pos
  have big : ((s.1.den : Int)).natAbs < 2 ^ 8000 := Nat.lt_of_lt_of_le den60 (Nat.pow_le_pow_right (by decide) (by decide))
  rw [l_num_k58_eq dp big]
  have nb : (s.1.num - (s.1.den : Int) * (1 + c.1)).natAbs < 2 ^ 100 := by
    have h1 : ((s.1.den : Int) * (1 + c.1)).natAbs < 2 ^ 71 := Nu.natAbs_mul_lt (n := 60) (m := 11) den60 (by omega)
    have h2 := sg.b1.1
    have h3 := Nu.natAbs_sub_lt (n := 71) (Nu.lt_pow_mono h2 (by decide)) h1
    exact Nu.lt_pow_mono h3 (by decide)
  have qb : Nu.Bd 100 (Nu.q (s.1.num - (s.1.den : Int) * (1 + c.1)) (s.1.den : Int)) := Nu.q_bd nb (Nu.lt_pow_mono den60 (by decide)) (by omega)
  have ql := q_sub_lt (r := s.1) (c := 1 + c.1) (by omega)
  generalize hB : Nu.q (s.1.num - (s.1.den : Int) * (1 + c.1)) (s.1.den : Int) = B at qb ql
  have sp : 0 ≤ s.2.2 := by
    have := sg.g
    unfold stpB at this
    rw [Bool.not_eq_true', Bool.or_eq_false_iff] at this
    have := of_decide_eq_false this.2
    omega
  refine To.v (To.v (To.v (To.b (take_to hcw (by decide) (by decide) (by omega)) fun e ⟨e0, e1, he⟩ => ?_)))
  have odd : ∀ x ∈ [(s.1, B, s.2.2), (s.1, s.2.1, -(1 : Int) - e.1)], (Nu.Bd 100 x.1 ∧ Nu.Bd 100 x.2.1) ∧ stpB x = false := by
    intro x hx
    simp at hx
    rcases hx with rfl | rfl
    · exact ⟨⟨sg.b1.mono (by decide), qb⟩, stp_bad ql (by decide) sp⟩
    · refine ⟨⟨sg.b1.mono (by decide), sg.b2.mono (by decide)⟩, ?_⟩
      unfold stpB
      dsimp only
      rw [decide_eq_true (show -(1 : Int) - e.1 < 0 by omega), Bool.or_true]
      rfl
  refine To.loop (fun pre (s' : List (List Stp) × List Int) => (∀ r ∈ s'.1, Bad r) ∧ s'.1.length = pre.length ∧ Wl (n + 4) s'.2) ⟨(fun r hr => by cases hr), rfl, he⟩ ?_ ?_
  · rintro pre x post ⟨rs, v⟩ hpx ⟨i1, i2, i3⟩ nx hnx
    dsimp only at i1 i2 i3
    have hx := odd x (by rw [hpx]; simp)
    have pl : pre.length < 2 := by
      have := congrArg List.length hpx
      simp at this
      omega
    have l1 := len_cutL (xs := p.2) (lo := none) (hi := some b.1)
    have l2 := len_cutL (xs := p.2) (lo := some (b.1 + 1)) (hi := none)
    unfold l_spoilt_b4
    refine To.g (by simp; omega) (To.g (by simp; omega) (To.g (show rs.length < 100000 by omega) (hnx _ ⟨fun r hr => ?_, by simp [i2], i3⟩)))
    rcases List.mem_append.mp hr with q | q
    · exact i1 r q
    · simp at q
      subst q
      refine ⟨fun t ht => ?_, chk_bad (s := x) (by simp) hx.2⟩
      simp only [List.mem_append, List.mem_cons, List.not_mem_nil, or_false] at ht
      rcases ht with ht | ht | ht
      · have := hg t (mem_cutL ht)
        exact ⟨this.b1.mono (by decide), this.b2.mono (by decide)⟩
      · subst ht
        exact hx.1
      · have := hg t (mem_cutL ht)
        exact ⟨this.b1.mono (by decide), this.b2.mono (by decide)⟩
  · rintro ⟨rs, v⟩ ⟨i1, i2, i3⟩
    dsimp only at i1 i2 i3
    have i2' : rs.length = 2 := i2
    unfold l_spoilt_k3
    refine To.b (steps_to i3 (by omega) (by decide) (by decide)) fun q ⟨q1, q2, hq⟩ => To.g (by simp; omega) (To.v (To.v ?_))
    dsimp only
    have all : ∀ r ∈ rs ++ [[], q.1], Bad r := by
      intro r hr
      rcases List.mem_append.mp hr with z | z
      · exact i1 r z
      · simp at z
        rcases z with rfl | rfl
        · exact ⟨(fun s hs => by cases hs), by decide⟩
        · refine ⟨fun t ht => ⟨(q2 t ht).b1.mono (by decide), (q2 t ht).b2.mono (by decide)⟩, ?_⟩
          unfold chk
          rw [decide_eq_false (show ¬ (q.1.length : Int) ≤ 8 by omega), Bool.and_false, Bool.false_and]
    refine To.loop (fun pre (s' : List Mn) => (∀ x ∈ s', MnB x ∧ x.all (fun p => chk p.2) = false) ∧ s'.length = pre.length) ⟨(fun x hx => by cases hx), rfl⟩ ?_ ?_
    · rintro pre x post s' hpx ⟨j1, j2⟩ nx hnx
      have hx := all x (by rw [hpx]; simp)
      have pl : pre.length < 4 := by
        have := congrArg List.length hpx
        simp at this
        omega
      unfold l_spoilt_b2
      refine To.v (To.g (by omega) (To.g (by omega) (hnx _ ⟨fun y hy => ?_, by simp [j2]⟩)))
      rcases List.mem_append.mp hy with z | z
      · exact j1 y z
      · simp at z
        subst z
        exact bad_put hm hk' hx
    · rintro s' ⟨j1, j2⟩
      unfold l_spoilt_k1
      exact .ok ⟨j1, hq.up (by omega)⟩

end
section
set_option Elab.async false
set_option linter.all false
set_option maxRecDepth 100000
set_option maxHeartbeats 1000000
open TL PySem L2 Res
theorem keys_drop {m : Dl} {k : Tx} (nd : (m.map (·.1)).Nodup) (hk : k ∈ m.map (·.1)) : (ddrop m k).length + 1 = m.length ∧ ∀ p ∈ ddrop m k, p ∈ m := by
  unfold ddrop
  refine ⟨?_, fun p hp => (List.mem_filter.mp hp).1⟩
  induction m with
  | nil => cases hk
  | cons q m ih =>
    rw [List.map_cons, List.nodup_cons] at nd
    rw [List.filter_cons]
    by_cases c : q.1 = k
    · rw [if_neg (by simpa using c)]
      have : m.filter (fun e => decide (e.1 ≠ k)) = m := List.filter_eq_self.mpr fun e he => by
        have : e.1 ≠ k := fun z => nd.1 (c ▸ z ▸ List.mem_map_of_mem he)
        simpa using this
      rw [this]
      rfl
    · rw [if_pos (by simpa using c), List.length_cons, List.length_cons]
      rw [List.map_cons] at hk
      rcases List.mem_cons.mp hk with z | z
      · exact absurd z.symm c
      · rw [ih nd.2 z]
theorem zz_pt : ¬ Pt sx_d7dacae2 := by
  unfold Pt
  decide +kernel
theorem sort_len_ne {xs ys : List Tx} (h : xs.length ≠ ys.length) : sortT xs ≠ sortT ys := fun e => by
  have := congrArg List.length e
  rw [sortT_len, sortT_len] at this
  exact h this
theorem sort_mem_ne {xs ys : List Tx} {z : Tx} (h : z ∈ ys) (h' : z ∉ xs) : sortT xs ≠ sortT ys := fun e => by
  have : z ∈ sortT ys := (sortT_perm ys).mem_iff.mpr h
  rw [← e] at this
  exact h' ((sortT_perm xs).mem_iff.mp this)
theorem sdeal_to {n : Nat} {w : List Int} {m : Mn} {d : Dl} (h : Wl n w) (hn : n ≤ 2 ^ 37) (hm : MnG m) (hd : DlOk m d) (ne : m ≠ []) : (l_spoilt_dealings m d w).To fun r => (∀ x ∈ r.1, m_price_of m x = .err "NoDealing" ()) ∧ Wl (n + 100) r.2 := by
  have p37 : (2 : Nat) ^ 37 = 137438953472 := by decide
  have p38 : (2 : Nat) ^ 38 = 274877906944 := by decide
  have p40 : (2 : Nat) ^ 40 = 1099511627776 := by decide
  have le := hm.le
  have dl := hd.len
  have pos : 0 < m.length := List.length_pos_iff.mpr ne
  have dnd : (d.map (·.1)).Nodup := by rw [hd.keys]; exact hm.nd
  unfold l_spoilt_dealings
  refine To.g (by omega) (To.b (take_to h (by omega) (by omega) (by omega)) fun a ⟨a0, a1, ha⟩ => ?_)
  obtain ⟨k, hk, ek⟩ := atI_mem' (xs := sortT (m.map Prod.fst)) a0 (by rw [sortT_len, List.length_map]; exact a1)
  have hk' : k ∈ m.map (·.1) := (sortT_perm _).mem_iff.mp hk
  obtain ⟨p, hp, rfl⟩ := List.mem_map.mp hk'
  have hkd : p.1 ∈ d.map (·.1) := by rw [hd.keys]; exact hk'
  refine To.o ek (To.v (To.v (To.b (take_to ha (by decide) (by decide) (by omega)) fun b ⟨b0, b1, hb⟩ => ?_)))
  dsimp only
  rw [dgetG hm.nd hp, opt_some, bind_ok, bind_ok]
  refine To.b (take_to hb (by decide) (by decide) (by omega)) fun c ⟨c0, c1, hc⟩ => ?_
  refine To.loop (fun pre (s : List Dl × List Int) => (∀ x ∈ s.1, m_price_of m x = .err "NoDealing" ()) ∧ s.1.length = pre.length ∧ Wl (n + 3) s.2) ⟨(fun x hx => by cases hx), rfl, hc⟩ ?_ ?_
  · rintro pre x post ⟨s, v⟩ hpx ⟨i1, i2, i3⟩ nx hnx
    dsimp only at i1 i2 i3
    have pl : pre.length < 3 := by
      have := congrArg List.length hpx
      simp at this
      omega
    have hx : x < 0 ∨ (List.length p.2 : Int) ≤ x := by
      have mem : x ∈ [-(1 : Int) - b.1, (List.length p.2 : Int), (List.length p.2 : Int) + c.1] := by rw [hpx]; simp
      simp at mem
      omega
    unfold l_spoilt_dealings_b2
    refine To.v (To.g (by omega) (To.g (show s.length < 100000 by omega) (hnx _ ⟨fun y hy => ?_, by simp [i2], i3⟩)))
    rcases List.mem_append.mp hy with z | z
    · exact i1 y z
    · simp at z
      subst z
      have dl2 := len_putG (m := d) (k := p.1) (d := x)
      refine price_err hm.ok.b (by omega) (.inr (.inr ?_))
      rw [Bool.eq_false_iff]
      intro z
      have := List.all_eq_true.mp z p hp
      unfold dlB at this
      rw [get_putG, if_pos rfl] at this
      dsimp only at this
      rw [Bool.and_eq_true, decide_eq_true_eq, decide_eq_true_eq] at this
      omega
  · rintro ⟨s, v⟩ ⟨i1, i2, i3⟩
    dsimp only at i1 i2 i3
    have i2' : s.length = 3 := i2
    obtain ⟨v0, hv0⟩ : ∃ v0, dget d p.1 = some v0 := by
      obtain ⟨v0, hv, _⟩ := hd.g p hp
      exact ⟨v0, hv⟩
    obtain ⟨dr1, dr2⟩ := keys_drop dnd hkd
    have l2 := len_putG (m := d) (k := sx_d7dacae2) (d := 0)
    have l3 := len_putG (m := ddrop d p.1) (k := sx_d7dacae2) (d := 0)
    have zk : sx_d7dacae2 ∉ m.map (·.1) := fun z => zz_pt (hm.pt _ z)
    unfold l_spoilt_dealings_k1
    dsimp only
    rw [bind_ok, hv0, opt_some, bind_ok, bind_ok, bind_ok]
    refine To.g (by omega) (To.v (To.g (by show (ddrop d p.1).length < 100000; omega) (To.g (by simp; omega) (.ok ⟨fun x hx => ?_, i3.up (by omega)⟩))))
    rcases List.mem_append.mp hx with z | z
    · exact i1 x z
    · have ml : (m.map Prod.fst).length = m.length := List.length_map ..
      simp at z
      rcases z with rfl | rfl | rfl
      · refine price_err hm.ok.b (by omega) (.inr (.inl (sort_len_ne ?_)))
        rw [List.length_map, List.length_map]
        omega
      · refine price_err hm.ok.b (by omega) (.inr (.inl (sort_mem_ne (z := sx_d7dacae2) ?_ zk)))
        show sx_d7dacae2 ∈ (dput d sx_d7dacae2 0).map (·.1)
        rw [keys_putG]
        split
        · assumption
        · simp
      · refine price_err hm.ok.b (by omega) (.inr (.inl (sort_mem_ne (z := sx_d7dacae2) ?_ zk)))
        show sx_d7dacae2 ∈ (dput (ddrop d p.1) sx_d7dacae2 0).map (·.1)
        rw [keys_putG]
        split
        · assumption
        · simp
theorem deqG {α : Type} [DecidableEq α] {m : List (Tx × α)} (nd : (m.map (·.1)).Nodup) : deq m m = true := by
  unfold deq
  rw [Bool.and_eq_true]
  refine ⟨by simp, List.all_eq_true.mpr fun p hp => ?_⟩
  rw [dgetG nd hp]
  simp
theorem sum_foldl : ∀ (xs : List Int) (a : Int), xs.foldl (· + ·) a = a + xs.sum
  | [], a => by simp
  | x :: xs, a => by rw [List.foldl_cons, sum_foldl xs, List.sum_cons]; omega
theorem l_law_k53_true : ∀ ns : List Int, ns.length ≤ 63 → l_law_k53 ns = .ok true := by
  intro ns hl
  have p37 : (2 : Nat) ^ 37 = 137438953472 := by decide
  have key : (l_law_k53 ns).To (· = true) := by
    unfold l_law_k53
    refine To.b drawn_to fun x ⟨hm, hd⟩ => To.v (To.v (To.v ?_))
    obtain ⟨m, d⟩ := x
    dsimp only at hm hd ⊢
    have ok := hm.ok
    have me := many_eq ok
    have pe := price_eq ok hd
    have dnd : (d.map (·.1)).Nodup := by rw [hd.keys]; exact hm.nd
    rw [loop_mapG]
    refine To.loop (fun pre (s : Int × Int) => s.1 = prodM pre ∧ s.2 = (pre.map (prc d)).sum) ⟨rfl, rfl⟩ ?_ ?_
    · rintro pre p post ⟨a, b⟩ hp ⟨i1, i2⟩ nx hnx
      dsimp only at i1 i2
      subst i1
      subst i2
      have hpm : p ∈ m := by rw [hp]; simp
      obtain ⟨v, s, hv, hs, e⟩ := prc_at hd hpm
      unfold l_law_k53_b7
      dsimp only
      rw [dgetG hm.nd hpm, opt_some, bind_ok]
      refine To.g (prod_cm ok hp) (To.v (To.v ?_))
      rw [hv]
      refine To.v (To.o hs (To.v (hnx _ ⟨?_, ?_⟩)))
      · show prodM pre * _ = prodM (pre ++ [p])
        unfold prodM
        rw [List.foldl_append]
        rfl
      · show (pre.map (prc d)).sum + s.2.2 = ((pre ++ [p]).map (prc d)).sum
        rw [List.map_append, List.sum_append, e.symm]
        simp
    · rintro ⟨a, b⟩ ⟨i1, i2⟩
      dsimp only at i1 i2
      subst i1
      subst i2
      have fin : ∀ v, (l_law_k53_k1 (prodM m, (m.map (prc d)).sum) [Sum.inl m, Sum.inr d] v).To (· = true) := fun v => by
        have e0 : MnOk [] := ⟨⟨.nil, (fun p hp => by cases hp), by decide⟩, fun p hp => by cases hp⟩
        have m0 : m_dealings_many [] = .ok 1 := many_eq e0
        have q0 : m_price_of [] [] = .ok 0 := price_eq e0 ⟨rfl, fun p hp => by cases hp⟩
        unfold l_law_k53_k1
        rw [m0, bind_ok, if_pos (by decide), q0, bind_ok, if_pos (by decide)]
        refine To.v (To.e (a := (true, ())) ?_ (.ok rfl))
        refine (?_ : Res.bind _ _ = _)
        rw [show atI [(Sum.inl m : Mn ⊕ Dl), Sum.inr d] (0 : Int) = some (Sum.inl m) from rfl, opt_some, bind_ok]
        dsimp only
        rw [opt_some, bind_ok, me, bind_ok]
        simp
      unfold l_law_k53_k6
      refine To.v ?_
      dsimp only
      rw [show atI [(Sum.inl m : Mn ⊕ Dl), Sum.inr d] (0 : Int) = some (Sum.inl m) from rfl, show atI [(Sum.inl m : Mn ⊕ Dl), Sum.inr d] (1 : Int) = some (Sum.inr d) from rfl]
      refine To.v (To.v ?_)
      rw [me]
      refine To.v (To.v (To.v (To.v (To.v ?_))))
      rw [pe]
      refine To.v (To.v ?_)
      refine To.o (a := prodM m) rfl (To.v (To.e (a := (false, ())) ?_ ?_))
      · have eqs : eqLs (eqSU (fun x y : Mn => some (deq x y)) fun x y : Dl => some (deq x y)) [Sum.inl m, Sum.inr d] [Sum.inl m, Sum.inr d] = some true := by
          have e1 := deqG hm.nd
          have e2 := deqG dnd
          unfold eqLs
          rw [if_pos rfl]
          show Option.map _ ((some (deq m m)).bind fun b => ((some (deq d d)).bind fun b2 => (some []).map fun bs => b2 :: bs).map fun bs => b :: bs) = _
          rw [e1, e2]
          rfl
        have w1 : ∀ z : Int, l_whole z = .ok true := fun z => rfl
        rw [if_neg (by decide), show atI [prodM m, (List.map (prc d) m).sum] (1 : Int) = some (List.map (prc d) m).sum from rfl, opt_some, bind_ok, w1, bind_ok, if_neg (by decide), if_neg (by simp), eqs]
        rfl
      · rw [if_neg (by decide)]
        refine To.b (well_to (by decide) (by decide)) fun w hw => To.v (To.i (fun c => ?_) fun _ => fin _)
        have ne : m ≠ [] := fun z => by
          subst z
          cases c
        refine To.b (To.mE (spoilt_to hw (by decide) hm ne)) fun sp ⟨s1, hs⟩ => ?_
        refine To.loop (fun _ (v : List Int) => Wl (1100 + 100) v) hs ?_ fun v hv => ?_
        · intro pre x post v hp hv nx hnx
          have hx := s1 x (by rw [hp]; simp)
          unfold l_law_k53_b5
          have dl : d.length = m.length := hd.len
          have le := hm.le
          rw [ref0 (many_err hx.1 hx.2), bind_ok]
          refine To.e (a := (false, ())) ?_ ?_
          · rw [if_neg (by decide), ref1 (price_err hx.1 (by show d.length ≤ 10; omega) (.inl hx.2))]
            rfl
          · rw [if_neg (by decide)]
            exact hnx _ hv
        · unfold l_law_k53_k4
          dsimp only
          refine To.b (To.mE (sdeal_to hv (by decide) hm hd ne)) fun sd ⟨d1, hsd⟩ => ?_
          refine To.loop (fun _ _ => True) trivial ?_ fun v _ => by unfold l_law_k53_k2; exact fin v
          intro pre x post v hp _ nx hnx
          unfold l_law_k53_b3
          rw [ref1 (d1 x (by rw [hp]; simp)), bind_ok, if_neg (by decide)]
          exact hnx _ trivial
  obtain ⟨v, e, rfl⟩ := key
  exact e

end
set_option Elab.async false
set_option linter.all false
set_option maxRecDepth 100000
set_option synthInstance.maxSize 4000
set_option maxHeartbeats 4000000
open PySem PySem.Spec L2 TL
namespace K53
def top (i : Nat) : Stmt := PySem.Challenge.pw_fitwhatever_k53_dealings_counted.main.body.getD i (.Pass ⟨0, 0, 0, 0⟩)
abbrev s_NoFit___init__ : Stmt := inClass (top 10) 0
abbrev N_NoFit___init__ : List Str := ["self", "chain"]
theorem sc_NoFit___init__ : FnScope N_NoFit___init__ ["self", "chain"] (defScope s_NoFit___init__) := ⟨rfl, rfl, rfl, by decide +kernel, rfl, by decide +kernel, by decide +kernel⟩
abbrev s_NoSheet___init__ : Stmt := inClass (top 14) 0
abbrev N_NoSheet___init__ : List Str := ["self", "row"]
theorem sc_NoSheet___init__ : FnScope N_NoSheet___init__ ["self", "row"] (defScope s_NoSheet___init__) := ⟨rfl, rfl, rfl, by decide +kernel, rfl, by decide +kernel, by decide +kernel⟩
abbrev s_is_less : Stmt := top 17
abbrev N_is_less : List Str := ["a", "b"]
theorem sc_is_less : FnScope N_is_less ["a", "b"] (defScope s_is_less) := ⟨rfl, rfl, rfl, by decide +kernel, rfl, by decide +kernel, by decide +kernel⟩
abbrev s_check_menus : Stmt := top 20
abbrev N_check_menus : List Str := ["menus", "name", "least", "most", "price"]
theorem sc_check_menus : FnScope N_check_menus ["menus"] (defScope s_check_menus) := ⟨rfl, rfl, rfl, by decide +kernel, rfl, by decide +kernel, by decide +kernel⟩
abbrev s_check_dealing : Stmt := top 21
abbrev N_check_dealing : List Str := ["menus", "dealing", "name"]
theorem sc_check_dealing : FnScope N_check_dealing ["menus", "dealing"] (defScope s_check_dealing) := ⟨rfl, rfl, rfl, by decide +kernel, rfl, by decide +kernel, by decide +kernel⟩
abbrev s_dealings_many : Stmt := top 22
abbrev N_dealings_many : List Str := ["menus", "many", "name"]
theorem sc_dealings_many : FnScope N_dealings_many ["menus"] (defScope s_dealings_many) := ⟨rfl, rfl, rfl, by decide +kernel, rfl, by decide +kernel, by decide +kernel⟩
abbrev s_price_of : Stmt := top 23
abbrev N_price_of : List Str := ["menus", "dealing", "name"]
theorem sc_price_of : FnScope N_price_of ["menus", "dealing"] (defScope s_price_of) := ⟨rfl, rfl, rfl, by decide +kernel, rfl, by decide +kernel, by decide +kernel⟩
abbrev s__law_well : Stmt := top 25
abbrev N__law_well : List Str := ["_law_script", "_law_k", "_law_cell"]
theorem sc__law_well : FnScope N__law_well ["_law_script", "_law_k"] (defScope s__law_well) := ⟨rfl, rfl, rfl, by decide +kernel, rfl, by decide +kernel, by decide +kernel⟩
abbrev s__law_take : Stmt := top 26
abbrev N__law_take : List Str := ["_law_well_here", "_law_many", "_law_digit", "_law_turn", "_law_number"]
theorem sc__law_take : FnScope N__law_take ["_law_well_here", "_law_many"] (defScope s__law_take) := ⟨rfl, rfl, rfl, by decide +kernel, rfl, by decide +kernel, by decide +kernel⟩
abbrev s__law_common : Stmt := top 27
abbrev N__law_common : List Str := ["_law_one", "_law_other"]
theorem sc__law_common : FnScope N__law_common ["_law_one", "_law_other"] (defScope s__law_common) := ⟨rfl, rfl, rfl, by decide +kernel, rfl, by decide +kernel, by decide +kernel⟩
abbrev s__law_num : Stmt := top 28
abbrev N__law_num : List Str := ["_law_top", "_law_bottom", "_law_by"]
theorem sc__law_num : FnScope N__law_num ["_law_top", "_law_bottom"] (defScope s__law_num) := ⟨rfl, rfl, rfl, by decide +kernel, rfl, by decide +kernel, by decide +kernel⟩
abbrev s__law_word : Stmt := top 29
abbrev N__law_word : List Str := ["_law_well_here", "_law_k", "_law_word_here", "_law_turn"]
theorem sc__law_word : FnScope N__law_word ["_law_well_here", "_law_k"] (defScope s__law_word) := ⟨rfl, rfl, rfl, by decide +kernel, rfl, by decide +kernel, by decide +kernel⟩
abbrev s__law_whole : Stmt := top 30
abbrev N__law_whole : List Str := ["_law_found"]
theorem sc__law_whole : FnScope N__law_whole ["_law_found"] (defScope s__law_whole) := ⟨rfl, rfl, rfl, by decide +kernel, rfl, by decide +kernel, by decide +kernel⟩
abbrev s__law_steps : Stmt := top 31
abbrev N__law_steps : List Str := ["_law_well_here", "_law_many", "_law_steps_here", "_law_k", "_law_low", "_law_high", "_law_price"]
theorem sc__law_steps : FnScope N__law_steps ["_law_well_here", "_law_many"] (defScope s__law_steps) := ⟨rfl, rfl, rfl, by decide +kernel, rfl, by decide +kernel, by decide +kernel⟩
abbrev s__law_drawn : Stmt := top 32
abbrev N__law_drawn : List Str := ["_law_script", "_law_well_here", "_law_menus", "_law_k", "_law_dealing", "_law_name"]
theorem sc__law_drawn : FnScope N__law_drawn ["_law_script"] (defScope s__law_drawn) := ⟨rfl, rfl, rfl, by decide +kernel, rfl, by decide +kernel, by decide +kernel⟩
abbrev s__law_refused : Stmt := top 33
abbrev N__law_refused : List Str := ["_law_way", "_law_menus", "_law_dealing", "_law_told", "e"]
theorem sc__law_refused : FnScope N__law_refused ["_law_way", "_law_menus", "_law_dealing"] (defScope s__law_refused) := ⟨rfl, rfl, rfl, by decide +kernel, rfl, by decide +kernel, by decide +kernel⟩
abbrev s__law_spoilt : Stmt := top 34
abbrev N__law_spoilt : List Str := ["_law_menus", "_law_well_here", "_law_name", "_law_steps_here", "_law_at", "_law_low", "_law_high", "_law_price", "_law_beyond", "_law_some", "_law_odd", "_law_found", "_law_row", "_law_other"]
theorem sc__law_spoilt : FnScope N__law_spoilt ["_law_menus", "_law_well_here"] (defScope s__law_spoilt) := ⟨rfl, rfl, rfl, by decide +kernel, rfl, by decide +kernel, by decide +kernel⟩
abbrev s__law_spoilt_dealings : Stmt := top 35
abbrev N__law_spoilt_dealings : List Str := ["_law_menus", "_law_dealing", "_law_well_here", "_law_name", "_law_found", "_law_number", "_law_other", "_law_fewer", "_law_more"]
theorem sc__law_spoilt_dealings : FnScope N__law_spoilt_dealings ["_law_menus", "_law_dealing", "_law_well_here"] (defScope s__law_spoilt_dealings) := ⟨rfl, rfl, rfl, by decide +kernel, rfl, by decide +kernel, by decide +kernel⟩
abbrev s_law : Stmt := top 36
abbrev N_law : List Str := ["_law_script", "_law_menus", "_law_dealing", "_law_many", "_law_price", "_law_name", "_law_handed", "_law_found", "_law_well_here", "_law_other"]
theorem sc_law : FnScope N_law ["_law_script"] (defScope s_law) := ⟨rfl, rfl, rfl, by decide +kernel, rfl, by decide +kernel, by decide +kernel⟩
def sp_is_less (K : PySem.W.Frag) : Sp := spP K (τ := Rat × Rat × Unit) (fun t => [(tD K eQ) t.1, (tD K eQ) t.2.1]) (fun t => m_is_less t.1 t.2.1) (fun r => .ok ((tD K eB) r))
abbrev w_is_less (K : PySem.W.Frag) (X : XK) (Q : VK) (D0 : Own) : Wish K Unit (Bool) := dwish K X Q (fun r => .ok ((tD K eB) r)) (fun _ => D0) (fun _ : Unit => D0)
def sp_check_menus (K : PySem.W.Frag) : Sp := spP K (τ := (List (Tx × (List (Rat × Rat × Int)))) × Unit) (fun t => [(DT kS (VP K (T3 K (tD K eQ) (tD K eQ) (tD K eI)))) t.1]) (fun t => m_check_menus t.1) (fun r => .ok ((tD K eU) r))
abbrev w_check_menus (K : PySem.W.Frag) (X : XK) (Q : VK) (D0 : Own) : Wish K Unit (Unit) := dwish K X Q (fun r => .ok ((tD K eU) r)) (fun _ => D0) (fun _ : Unit => D0)
def sp_check_dealing (K : PySem.W.Frag) : Sp := spP K (τ := (List (Tx × (List (Rat × Rat × Int)))) × (List (Tx × Int)) × Unit) (fun t => [(DT kS (VP K (T3 K (tD K eQ) (tD K eQ) (tD K eI)))) t.1, (DT kS (tD K eI)) t.2.1]) (fun t => m_check_dealing t.1 t.2.1) (fun r => .ok ((tD K eU) r))
abbrev w_check_dealing (K : PySem.W.Frag) (X : XK) (Q : VK) (D0 : Own) : Wish K Unit (Unit) := dwish K X Q (fun r => .ok ((tD K eU) r)) (fun _ => D0) (fun _ : Unit => D0)
def sp_dealings_many (K : PySem.W.Frag) : Sp := spP K (τ := (List (Tx × (List (Rat × Rat × Int)))) × Unit) (fun t => [(DT kS (VP K (T3 K (tD K eQ) (tD K eQ) (tD K eI)))) t.1]) (fun t => m_dealings_many t.1) (fun r => .ok ((tD K eI) r))
abbrev w_dealings_many (K : PySem.W.Frag) (X : XK) (Q : VK) (D0 : Own) : Wish K Unit (Int) := dwish K X Q (fun r => .ok ((tD K eI) r)) (fun _ => D0) (fun _ : Unit => D0)
def sp_price_of (K : PySem.W.Frag) : Sp := spP K (τ := (List (Tx × (List (Rat × Rat × Int)))) × (List (Tx × Int)) × Unit) (fun t => [(DT kS (VP K (T3 K (tD K eQ) (tD K eQ) (tD K eI)))) t.1, (DT kS (tD K eI)) t.2.1]) (fun t => m_price_of t.1 t.2.1) (fun r => .ok ((tD K eI) r))
abbrev w_price_of (K : PySem.W.Frag) (X : XK) (Q : VK) (D0 : Own) : Wish K Unit (Int) := dwish K X Q (fun r => .ok ((tD K eI) r)) (fun _ => D0) (fun _ : Unit => D0)
def sp__law_well (K : PySem.W.Frag) : Sp := spP K (τ := (List Int) × Int × Unit) (fun t => [(LT K (tD K eI)) t.1, (tD K eI) t.2.1]) (fun t => l_well t.1 t.2.1) (fun r => .new ((OLT (tD K eI)) r))
abbrev w__law_well (K : PySem.W.Frag) (X : XK) (Q : VK) (D0 : Own) : Wish K Unit ((List Int)) := dwish K X Q (fun r => .new ((OLT (tD K eI)) r)) (fun _ => D0) (fun _ : Unit => D0)
def sp__law_take (K : PySem.W.Frag) : Sp := spC K (τ := Unit × Int × Unit) (OLT (tD K eI)) (fun a t => [Is (.ref a), (tD K eI) t.2.1]) (fun t y => l_take y t.2.1) (fun r => .ok ((tD K eI) r))
abbrev w__law_take (K : PySem.W.Frag) (X : XK) (Q : VK) (Dp : (List Int) → Own) : Wish K (List Int) (Int × (List Int)) := dwish K X Q (fun r : Int × (List Int) => (fun r => .ok ((tD K eI) r)) r.1) (fun r => Dp r.2) Dp
def sp__law_common (K : PySem.W.Frag) : Sp := spP K (τ := Int × Int × Unit) (fun t => [(tD K eI) t.1, (tD K eI) t.2.1]) (fun t => l_common t.1 t.2.1) (fun r => .ok ((tD K eI) r))
abbrev w__law_common (K : PySem.W.Frag) (X : XK) (Q : VK) (D0 : Own) : Wish K Unit (Int) := dwish K X Q (fun r => .ok ((tD K eI) r)) (fun _ => D0) (fun _ : Unit => D0)
def sp__law_num (K : PySem.W.Frag) : Sp := spP K (τ := Int × Int × Unit) (fun t => [(tD K eI) t.1, (tD K eI) t.2.1]) (fun t => l_num_k58 t.1 t.2.1) (fun r => .ok ((tD K eQ) r))
abbrev w__law_num (K : PySem.W.Frag) (X : XK) (Q : VK) (D0 : Own) : Wish K Unit (Rat) := dwish K X Q (fun r => .ok ((tD K eQ) r)) (fun _ => D0) (fun _ : Unit => D0)
def sp__law_word (K : PySem.W.Frag) : Sp := spC K (τ := Unit × Int × Unit) (OLT (tD K eI)) (fun a t => [Is (.ref a), (tD K eI) t.2.1]) (fun t y => l_word y t.2.1) (fun r => .ok ((tD K eS) r))
abbrev w__law_word (K : PySem.W.Frag) (X : XK) (Q : VK) (Dp : (List Int) → Own) : Wish K (List Int) (Tx × (List Int)) := dwish K X Q (fun r : Tx × (List Int) => (fun r => .ok ((tD K eS) r)) r.1) (fun r => Dp r.2) Dp
def sp__law_whole (K : PySem.W.Frag) : Sp := spP K (τ := Int × Unit) (fun t => [(tD K eI) t.1]) (fun t => l_whole t.1) (fun r => .ok ((tD K eB) r))
abbrev w__law_whole (K : PySem.W.Frag) (X : XK) (Q : VK) (D0 : Own) : Wish K Unit (Bool) := dwish K X Q (fun r => .ok ((tD K eB) r)) (fun _ => D0) (fun _ : Unit => D0)
def sp__law_steps (K : PySem.W.Frag) : Sp := spC K (τ := Unit × Int × Unit) (OLT (tD K eI)) (fun a t => [Is (.ref a), (tD K eI) t.2.1]) (fun t y => l_steps y t.2.1) (fun r => .ok ((VP K (T3 K (tD K eQ) (tD K eQ) (tD K eI))) r))
abbrev w__law_steps (K : PySem.W.Frag) (X : XK) (Q : VK) (Dp : (List Int) → Own) : Wish K (List Int) ((List (Rat × Rat × Int)) × (List Int)) := dwish K X Q (fun r : (List (Rat × Rat × Int)) × (List Int) => (fun r => .ok ((VP K (T3 K (tD K eQ) (tD K eQ) (tD K eI))) r)) r.1) (fun r => Dp r.2) Dp
def sp__law_drawn (K : PySem.W.Frag) : Sp := spP K (τ := (List Int) × Unit) (fun t => [(LT K (tD K eI)) t.1]) (fun t => l_drawn t.1) (fun r => .ok ((T2 K (DT kS (VP K (T3 K (tD K eQ) (tD K eQ) (tD K eI)))) (DT kS (tD K eI))) r))
abbrev w__law_drawn (K : PySem.W.Frag) (X : XK) (Q : VK) (D0 : Own) : Wish K Unit (((List (Tx × (List (Rat × Rat × Int)))) × (List (Tx × Int)))) := dwish K X Q (fun r => .ok ((T2 K (DT kS (VP K (T3 K (tD K eQ) (tD K eQ) (tD K eI)))) (DT kS (tD K eI))) r)) (fun _ => D0) (fun _ : Unit => D0)
def sp__law_refused (K : PySem.W.Frag) : Sp := spP K (τ := Int × (List (Tx × (List (Rat × Rat × Int)))) × (List (Tx × Int)) × Unit) (fun t => [(tD K eI) t.1, (DT kS (VP K (T3 K (tD K eQ) (tD K eQ) (tD K eI)))) t.2.1, (DT kS (tD K eI)) t.2.2.1]) (fun t => l_refused_k53 t.1 t.2.1 t.2.2.1) (fun r => .ok ((tD K eB) r))
abbrev w__law_refused (K : PySem.W.Frag) (X : XK) (Q : VK) (D0 : Own) : Wish K Unit (Bool) := dwish K X Q (fun r => .ok ((tD K eB) r)) (fun _ => D0) (fun _ : Unit => D0)
def sp__law_spoilt (K : PySem.W.Frag) : Sp := spC K (τ := (List (Tx × (List (Rat × Rat × Int)))) × Unit × Unit) (OLT (tD K eI)) (fun a t => [(DT kS (VP K (T3 K (tD K eQ) (tD K eQ) (tD K eI)))) t.1, Is (.ref a)]) (fun t y => l_spoilt t.1 y) (fun r => .ok ((LT K (DT kS (VP K (T3 K (tD K eQ) (tD K eQ) (tD K eI))))) r))
abbrev w__law_spoilt (K : PySem.W.Frag) (X : XK) (Q : VK) (Dp : (List Int) → Own) : Wish K (List Int) ((List (List (Tx × (List (Rat × Rat × Int))))) × (List Int)) := dwish K X Q (fun r : (List (List (Tx × (List (Rat × Rat × Int))))) × (List Int) => (fun r => .ok ((LT K (DT kS (VP K (T3 K (tD K eQ) (tD K eQ) (tD K eI))))) r)) r.1) (fun r => Dp r.2) Dp
def sp__law_spoilt_dealings (K : PySem.W.Frag) : Sp := spC K (τ := (List (Tx × (List (Rat × Rat × Int)))) × (List (Tx × Int)) × Unit × Unit) (OLT (tD K eI)) (fun a t => [(DT kS (VP K (T3 K (tD K eQ) (tD K eQ) (tD K eI)))) t.1, (DT kS (tD K eI)) t.2.1, Is (.ref a)]) (fun t y => l_spoilt_dealings t.1 t.2.1 y) (fun r => .ok ((LT K (DT kS (tD K eI))) r))
abbrev w__law_spoilt_dealings (K : PySem.W.Frag) (X : XK) (Q : VK) (Dp : (List Int) → Own) : Wish K (List Int) ((List (List (Tx × Int))) × (List Int)) := dwish K X Q (fun r : (List (List (Tx × Int))) × (List Int) => (fun r => .ok ((LT K (DT kS (tD K eI))) r)) r.1) (fun r => Dp r.2) Dp
abbrev sp_law (K : PySem.W.Frag) : Sp := lawSp K
abbrev w_law (K : PySem.W.Frag) (X : XK) (Q : VK) (D0 : Own) : Wish K Unit (Bool) := dwish K X Q (fun r => .ok ((tD K eB) r)) (fun _ => D0) (fun _ : Unit => D0)
structure Txt (K : PySem.W.Frag) (mg : Str → Option Value) : Prop where
  b_ValueError : mg "ValueError" = none
  b_abs : mg "abs" = none
  b_bool : mg "bool" = none
  b_dict : mg "dict" = none
  b_int : mg "int" = none
  b_isinstance : mg "isinstance" = none
  b_len : mg "len" = none
  b_range : mg "range" = none
  b_sorted : mg "sorted" = none
  b_sum : mg "sum" = none
  b_tuple : mg "tuple" = none
  e_NoDealing : ExOk K (He.ga K "NoDealing")
  g_FitError : mg "FitError" = some (.ref (He.ga K "FitError"))
  g_NoBins : mg "NoBins" = some (.ref (He.ga K "NoBins"))
  g_NoDealing : mg "NoDealing" = some (.ref (He.ga K "NoDealing"))
  g_NoFace : mg "NoFace" = some (.ref (He.ga K "NoFace"))
  g_NoFit : mg "NoFit" = some (.ref (He.ga K "NoFit"))
  g_NoJoint : mg "NoJoint" = some (.ref (He.ga K "NoJoint"))
  g_NoMaking : mg "NoMaking" = some (.ref (He.ga K "NoMaking"))
  g_NoNumber : mg "NoNumber" = some (.ref (He.ga K "NoNumber"))
  g_NoPart : mg "NoPart" = some (.ref (He.ga K "NoPart"))
  g_NoProgram : mg "NoProgram" = some (.ref (He.ga K "NoProgram"))
  g_NoRow : mg "NoRow" = some (.ref (He.ga K "NoRow"))
  g_NoSheet : mg "NoSheet" = some (.ref (He.ga K "NoSheet"))
  g_NoSize : mg "NoSize" = some (.ref (He.ga K "NoSize"))
  g_NoSum : mg "NoSum" = some (.ref (He.ga K "NoSum"))
  g_TooMany : mg "TooMany" = some (.ref (He.ga K "TooMany"))
  k_MOST_STEPS : ∃ t, mg "MOST_STEPS" = some (.int 8 t)
  x_all : xAllB K ["FitError", "NoBins", "NoDealing", "NoFace", "NoFit", "NoJoint", "NoMaking", "NoNumber", "NoPart", "NoProgram", "NoRow", "NoSheet", "NoSize", "NoSum", "TooMany"] = true
  xa_0592de21 : xAnyB K xl_0592de21 (([He.ga K "NoBins", He.ga K "NoFace", He.ga K "NoFit", He.ga K "NoJoint", He.ga K "NoMaking", He.ga K "NoNumber", He.ga K "NoPart", He.ga K "NoProgram"] : List Addr).map Value.ref) = true
  xa_9cbeb521 : xAnyB K xl_9cbeb521 (([He.ga K "NoRow", He.ga K "NoSheet", He.ga K "NoSize", He.ga K "NoSum", He.ga K "TooMany"] : List Addr).map Value.ref) = true
  xe_NoDealing : xExmB K xl_a7d8e757 (.ref (He.ga K "NoDealing")) = true
  xi_FitError : xIsB K xl_5bb3d9ed (.ref (He.ga K "FitError")) = true
  xi_ValueError : xIsB K xl_5bb3d9ed (.type "ValueError") = true
def t_is_less (K : PySem.W.Frag) (X : XK) : TS :=
  (tRet (tOp rLtI (tOp (qMul K) (tOp (rIx K) (tVar 0) (tC (.int 0))) (tOp (rIx K) (tVar 1) (tC (.int 1)))) (tOp (qMul K) (tOp (rIx K) (tVar 1) (tC (.int 0))) (tOp (rIx K) (tVar 0) (tC (.int 1))))))
def t_check_menus (K : PySem.W.Frag) (X : XK) : TS :=
  (tFor (iKeys (tVar 0)) (gName 1)
  (tSeq (tIfS (tNot (tTest (tChain rLeI rLeI (tC (.int 1)) (tCB (cLen K) (tCons (tDGet (tVar 0) (tVar 1)) tNil)) (tC (.int 8)))))
  (tRaiseX (He.ga K "NoDealing") X)
  tNext)
  (tFor (iSeq K (tDGet (tVar 0) (tVar 1))) (gTup K 3 (gCons (gName 2) (gCons (gName 3) (gCons (gName 4) gNil))))
  (tIfS (tOr (tB (tCall (sp_is_less K) [] X (tCons (tVar 3) (tCons (tVar 2) tNil)))) (tTest (tOp rLtI (tVar 4) (tC (.int 0)))))
  (tRaiseX (He.ga K "NoDealing") X)
  tNext))))
def t_check_dealing (K : PySem.W.Frag) (X : XK) : TS :=
  (tSeq (tDrop (tCall (sp_check_menus K) [] X (tCons (tVar 0) tNil)))
  (tSeq (tIfS (tTest (tOp (qNe K) (tCB (qSort K) (tCons (tVar 0) tNil)) (tCB (qSort K) (tCons (tVar 1) tNil))))
  (tRaiseX (He.ga K "NoDealing") X)
  tNext)
  (tFor (iKeys (tVar 0)) (gName 2)
  (tIfS (tNot (tTest (tChain rLeI rLtI (tC (.int 0)) (tDGet (tVar 1) (tVar 2)) (tCB (cLen K) (tCons (tDGet (tVar 0) (tVar 2)) tNil)))))
  (tRaiseX (He.ga K "NoDealing") X)
  tNext))))
def t_dealings_many (K : PySem.W.Frag) (X : XK) : TS :=
  (tSeq (tDrop (tCall (sp_check_menus K) [] X (tCons (tVar 0) tNil)))
  (tSeq (tAsg (tC (.int 1)) (gName 1))
  (tSeq (tFor (iKeys (tVar 0)) (gName 2)
  (tAug 1 (tCB (cLen K) (tCons (tDGet (tVar 0) (tVar 2)) tNil)) ipMul))
  (tRet (tVar 1)))))
def t_price_of (K : PySem.W.Frag) (X : XK) : TS :=
  (tSeq (tDrop (tCall (sp_check_dealing K) [] X (tCons (tVar 0) (tCons (tVar 1) tNil))))
  (tRet (tCB (rSum K) (tCons (tLc (iKeys (tVar 0)) (gName 2) tYes (tOp (rIx K) (tOp (rIx K) (tDGet (tVar 0) (tVar 2)) (tDGet (tVar 1) (tVar 2))) (tC (.int 2))) [2]) tNil))))
def t__law_well (K : PySem.W.Frag) (X : XK) : TS :=
  (tSeq (tAsg (tC (.int 0)) (gName 2))
  (tSeq (tIfS (tTest (tOp rLtI (tVar 1) (tCB (cLen K) (tCons (tVar 0) tNil))))
  (tAsg (tOp (rIx K) (tVar 0) (tVar 1)) (gName 2))
  tNext)
  (tRet (tLst (tCons (tCB cInt1 (tCons (tOp rGeI (tCB cAbs (tCons (tVar 2) tNil)) (tOp rPowI (tC (.int 10)) (tC (.int 18)))) tNil)) (tCons (tVar 2) (tCons (tOp (qMul K) (tC (.int 17)) (tVar 1)) tNil)))))))
def t__law_take (K : PySem.W.Frag) (X : XK) : TS :=
  (tSeq (tIfS (tTest (tOp (qEq K) (tOp (rIx K) (tVar 0) (tC (.int 0))) (tC (.int 1))))
  (tSeq (tAsg (tOp rModI (tOp (rIx K) (tVar 0) (tC (.int 1))) (tVar 1)) (gName 2))
  (tSeq (tAsg (tOp rDivI (tOp (rIx K) (tVar 0) (tC (.int 1))) (tVar 1)) (gSub (tVar 0) (tC (.int 1)) rSetL))
  (tRet (tVar 2))))
  tNext)
  (tSeq (tAsg (tOp (qAddS K) (tOp (rIx K) (tVar 0) (tC (.int 2))) (tC (.int 1))) (gName 3))
  (tSeq (tAsg (tVar 3) (gSub (tVar 0) (tC (.int 2)) rSetL))
  (tSeq (tAsg (tOp rModI (tOp (qMul K) (tOp (qAddS K) (tOp (qAddS K) (tOp (rIx K) (tVar 0) (tC (.int 1))) (tOp (qMul K) (tOp (qMul K) (tC (.int 7919)) (tVar 3)) (tVar 3))) (tVar 3)) (tC (.int 48271))) (tC (.int 2305843009213693951))) (gName 4))
  (tRet (tOp rModI (tOp rDivI (tOp rModI (tOp (qAddS K) (tOp (qMul K) (tVar 4) (tC (.int 1442695040888963407))) (tC (.int 4321))) (tC (.int 2305843009213693921))) (tC (.int 64))) (tVar 1)))))))
def t__law_common (K : PySem.W.Frag) (X : XK) : TS :=
  (tSeq (tWhile (tTest (tOp (qNe K) (tVar 1) (tC (.int 0))))
  (tPar 0 1 (tCons (tVar 1) (tCons (tOp rModI (tVar 0) (tVar 1)) tNil))))
  (tRet (tCB cAbs (tCons (tVar 0) tNil))))
def t__law_num (K : PySem.W.Frag) (X : XK) : TS :=
  (tSeq (tAsg (tCall (sp__law_common K) [] X (tCons (tVar 0) (tCons (tVar 1) tNil))) (gName 2))
  (tRet (tTupP (tCons (tOp rDivI (tVar 0) (tVar 2)) (tCons (tOp rDivI (tVar 1) (tVar 2)) tNil)))))
def t__law_word (K : PySem.W.Frag) (X : XK) : TS :=
  (tSeq (tAsg (tC (.str "")) (gName 2))
  (tSeq (tFor (iRng1 (tCons (tCall (sp__law_take K) [] X (tCons (tVar 0) (tCons (tC (.int 7)) tNil))) tNil)) (gName 3)
  (tAsg (tOp (qAddS K) (tVar 2) (tOp (rIx K) (tC (.str "abcdefghijklmnopqrstuvwxyz")) (tCall (sp__law_take K) [] X (tCons (tVar 0) (tCons (tC (.int 26)) tNil))))) (gName 2)))
  (tRet (tOp (qAddS K) (tVar 2) (tOp (rIx K) (tC (.str "abcdefghijklmnop")) (tVar 1))))))
def t__law_whole (K : PySem.W.Frag) (X : XK) : TS :=
  (tRet (tAndV (tCB (cIsi K) (tCons (tVar 0) (tCons (tC (.ty "int")) tNil))) (tNotV (tCB (cIsi K) (tCons (tVar 0) (tCons (tC (.ty "bool")) tNil))))))
def t__law_steps (K : PySem.W.Frag) (X : XK) : TS :=
  (tSeq (tAsg (tLst tNil) (gName 2))
  (tSeq (tFor (iRng1 (tCons (tVar 1) tNil)) (gName 3)
  (tSeq (tAsg (tOp rSubI (tCall (sp__law_take K) [] X (tCons (tVar 0) (tCons (tC (.int 2001)) tNil))) (tC (.int 1000))) (gName 4))
  (tSeq (tAsg (tOp (qAddS K) (tVar 4) (tOp (qMul K) (tCall (sp__law_take K) [] X (tCons (tVar 0) (tCons (tC (.int 200)) tNil))) (tCall (sp__law_take K) [] X (tCons (tVar 0) (tCons (tC (.int 2)) tNil))))) (gName 5))
  (tSeq (tAsg (tOp (rIx K) (tLst (tCons (tCall (sp__law_take K) [] X (tCons (tVar 0) (tCons (tC (.int 9)) tNil))) (tCons (tCall (sp__law_take K) [] X (tCons (tVar 0) (tCons (tOp (qAddS K) (tOp rPowI (tC (.int 10)) (tC (.int 17))) (tC (.int 1))) tNil))) tNil))) (tCall (sp__law_take K) [] X (tCons (tVar 0) (tCons (tC (.int 2)) tNil)))) (gName 6))
  (tDrop (tBM K "list" rAppend (tVar 2) (tCons (tTupP (tCons (tCall (sp__law_num K) [] X (tCons (tVar 4) (tCons (tC (.int 60)) tNil))) (tCons (tCall (sp__law_num K) [] X (tCons (tVar 5) (tCons (tC (.int 60)) tNil))) (tCons (tVar 6) tNil)))) tNil)))))))
  (tRet (tCB (cTupP K) (tCons (tVar 2) tNil)))))
def t__law_drawn (K : PySem.W.Frag) (X : XK) : TS :=
  (tSeq (tAsg (tCall (sp__law_well K) [] X (tCons (tVar 0) (tCons (tC (.int 0)) tNil))) (gName 1))
  (tSeq (tAsg tDNewK (gName 2))
  (tSeq (tFor (iRng1 (tCons (tCall (sp__law_take K) [] X (tCons (tVar 1) (tCons (tC (.int 7)) tNil))) tNil)) (gName 3)
  (sDPut (tVar 2) (tOp (qAddS K) (tOp (qAddS K) (tCall (sp__law_word K) [] X (tCons (tVar 1) (tCons (tVar 3) tNil))) (tC (.str "."))) (tCall (sp__law_word K) [] X (tCons (tVar 1) (tCons (tC (.int 0)) tNil)))) (tCall (sp__law_steps K) [] X (tCons (tVar 1) (tCons (tOp (qAddS K) (tC (.int 1)) (tCall (sp__law_take K) [] X (tCons (tVar 1) (tCons (tC (.int 8)) tNil)))) tNil)))))
  (tSeq (tAsg tDNewK (gName 4))
  (tSeq (tFrz (tFor (iKeys (tVar 2)) (gName 5)
  (sDPut (tVar 4) (tVar 5) (tCall (sp__law_take K) [] X (tCons (tVar 1) (tCons (tCB (cLen K) (tCons (tDGet (tVar 2) (tVar 5)) tNil)) tNil))))))
  (tFrz (tRet (tTupP (tCons (tVar 2) (tCons (tVar 4) tNil))))))))))
def t__law_refused (K : PySem.W.Frag) (X : XK) : TS :=
  (tSeq (tAsg (tLst tNil) (gName 3))
  (tSeq (tTryAs K (.ref (He.ga K "NoDealing")) 4 (fun W => (tIfS (tTest (tOp (qEq K) (tVar 0) (tC (.int 0))))
  (tDrop (tCallSD (sp_dealings_many K) [] (WE W) (tCons (tVar 1) tNil)))
  (tDrop (tCallSD (sp_price_of K) [] (WE W) (tCons (tVar 1) (tCons (tVar 2) tNil))))))
  (tSeq (tAsg (tLst (tCons (tCB (cIsi K) (tCons (tVar 4) (tCons (tC (.ref (He.ga K "FitError"))) tNil))) (tCons (tCB (cIsi K) (tCons (tVar 4) (tCons (tC (.ty "ValueError")) tNil))) tNil))) (gName 3))
  (tSeq (tDrop (tBM K "list" rAppend (tVar 3) (tCons (tCB (cIsiT K) (tCons (tVar 4) (tCons (tTup (tCls [He.ga K "NoBins", He.ga K "NoFace", He.ga K "NoFit", He.ga K "NoJoint", He.ga K "NoMaking", He.ga K "NoNumber", He.ga K "NoPart", He.ga K "NoProgram"])) tNil))) tNil)))
  (tDrop (tBM K "list" rAppend (tVar 3) (tCons (tCB (cIsiT K) (tCons (tVar 4) (tCons (tTup (tCls [He.ga K "NoRow", He.ga K "NoSheet", He.ga K "NoSize", He.ga K "NoSum", He.ga K "TooMany"])) tNil))) tNil)))))
  (fun cls d _ H => X cls d H))
  (tRet (tOp (qEq K) (tVar 3) (tLst (tCons (tC (.bl true)) (tCons (tC (.bl true)) (tCons (tC (.bl false)) (tCons (tC (.bl false)) tNil)))))))))
def t__law_spoilt (K : PySem.W.Frag) (X : XK) : TS :=
  (tSeq (tAsg (tOp (rIx K) (tCB (qSort K) (tCons (tVar 0) tNil)) (tCall (sp__law_take K) [] X (tCons (tVar 1) (tCons (tCB cLenD (tCons (tVar 0) tNil)) tNil)))) (gName 2))
  (tSeq (tAsg (tDGet (tVar 0) (tVar 2)) (gName 3))
  (tSeq (tAsg (tCall (sp__law_take K) [] X (tCons (tVar 1) (tCons (tCB (cLen K) (tCons (tVar 3) tNil)) tNil))) (gName 4))
  (tSeq (tAsg (tOp (rIx K) (tVar 3) (tVar 4)) (gTup K 3 (gCons (gName 5) (gCons (gName 6) (gCons (gName 7) gNil)))))
  (tSeq (tAsg (tCall (sp__law_num K) [] X (tCons (tOp rSubI (tOp (rIx K) (tVar 5) (tC (.int 0))) (tOp (qMul K) (tOp (rIx K) (tVar 5) (tC (.int 1))) (tOp (qAddS K) (tC (.int 1)) (tCall (sp__law_take K) [] X (tCons (tVar 1) (tCons (tC (.int 1000)) tNil)))))) (tCons (tOp (rIx K) (tVar 5) (tC (.int 1))) tNil))) (gName 8))
  (tSeq (tAsg (tLst tNil) (gName 9))
  (tSeq (tFor (iSeq K (tLst (tCons (tTupP (tCons (tVar 5) (tCons (tVar 8) (tCons (tVar 7) tNil)))) (tCons (tTupP (tCons (tVar 5) (tCons (tVar 6) (tCons (tOp rSubI (tUn qNegI (tC (.int 1))) (tCall (sp__law_take K) [] X (tCons (tVar 1) (tCons (tOp rPowI (tC (.int 10)) (tC (.int 17))) tNil)))) tNil)))) tNil)))) (gName 10)
  (tDrop (tBM K "list" rAppend (tVar 9) (tCons (tOp (qAddS K) (tOp (qAddS K) (tSl (rSlP K) (tVar 3) tNoPart (tPart (tVar 4))) (tTupP (tCons (tVar 10) tNil))) (tSl (rSlP K) (tVar 3) (tPart (tOp (qAddS K) (tVar 4) (tC (.int 1)))) tNoPart)) tNil))))
  (tSeq (tAsg (tOp (qAddS K) (tVar 9) (tLst (tCons (tTupP tNil) (tCons (tCall (sp__law_steps K) [] X (tCons (tVar 1) (tCons (tC (.int 9)) tNil))) tNil)))) (gName 9))
  (tSeq (tAsg (tLst tNil) (gName 11))
  (tSeq (tFor (iSeq K (tVar 9)) (gName 12)
  (tSeq (tAsg (tCB (cDctU K) (tCons (tVar 0) tNil)) (gName 13))
  (tSeq (sDPut (tVar 13) (tVar 2) (tVar 12))
  (tFrz (tDrop (tBM K "list" rAppend (tVar 11) (tCons (tVar 13) tNil)))))))
  (tRet (tVar 11))))))))))))
def t__law_spoilt_dealings (K : PySem.W.Frag) (X : XK) : TS :=
  (tSeq (tAsg (tOp (rIx K) (tCB (qSort K) (tCons (tVar 0) tNil)) (tCall (sp__law_take K) [] X (tCons (tVar 2) (tCons (tCB cLenD (tCons (tVar 0) tNil)) tNil)))) (gName 3))
  (tSeq (tAsg (tLst tNil) (gName 4))
  (tSeq (tFor (iSeq K (tLst (tCons (tOp rSubI (tUn qNegI (tC (.int 1))) (tCall (sp__law_take K) [] X (tCons (tVar 2) (tCons (tC (.int 1000)) tNil)))) (tCons (tCB (cLen K) (tCons (tDGet (tVar 0) (tVar 3)) tNil)) (tCons (tOp (qAddS K) (tCB (cLen K) (tCons (tDGet (tVar 0) (tVar 3)) tNil)) (tCall (sp__law_take K) [] X (tCons (tVar 2) (tCons (tC (.int 1000)) tNil)))) tNil))))) (gName 5)
  (tSeq (tAsg (tCB (cDctU K) (tCons (tVar 1) tNil)) (gName 6))
  (tSeq (sDPut (tVar 6) (tVar 3) (tVar 5))
  (tFrz (tDrop (tBM K "list" rAppend (tVar 4) (tCons (tVar 6) tNil)))))))
  (tSeq (tAsg (tCB (cDctU K) (tCons (tVar 1) tNil)) (gName 7))
  (tSeq (tDrop (tDPop1 (tVar 7) (tVar 3)))
  (tSeq (tAsg (tCB (cDctU K) (tCons (tVar 1) tNil)) (gName 8))
  (tSeq (sDPut (tVar 8) (tC (.str "zz")) (tC (.int 0)))
  (tSeq (tFrz (tAsg (tCB (cDctU K) (tCons (tVar 7) tNil)) (gName 6)))
  (tSeq (sDPut (tVar 6) (tC (.str "zz")) (tC (.int 0)))
  (tFrz (tFrz (tRet (tOp (qAddS K) (tVar 4) (tLst (tCons (tVar 7) (tCons (tVar 8) (tCons (tVar 6) tNil)))))))))))))))))
def t_law (K : PySem.W.Frag) (X : XK) : TS :=
  (tSeq (tAsg (tCall (sp__law_drawn K) [] X (tCons (tVar 0) tNil)) (gTup K 2 (gCons (gName 1) (gCons (gName 2) gNil))))
  (tSeq (tAsg (tC (.int 1)) (gName 3))
  (tSeq (tAsg (tC (.int 0)) (gName 4))
  (tSeq (tFor (iKeys (tVar 1)) (gName 5)
  (tSeq (tAsg (tOp (qMul K) (tVar 3) (tCB (cLen K) (tCons (tDGet (tVar 1) (tVar 5)) tNil))) (gName 3))
  (tAsg (tOp (qAddS K) (tVar 4) (tOp (rIx K) (tOp (rIx K) (tDGet (tVar 1) (tVar 5)) (tDGet (tVar 2) (tVar 5))) (tC (.int 2)))) (gName 4))))
  (tSeq (tAsg (tLst (tCons (tFrzA (tCB (cDctU K) (tCons (tVar 1) tNil))) (tCons (tFrzA (tCB (cDctU K) (tCons (tVar 2) tNil))) tNil))) (gName 6))
  (tSeq (tAsg (tLst (tCons (tCall (sp_dealings_many K) [] X (tCons (tOp (rIx K) (tVar 6) (tC (.int 0))) tNil)) (tCons (tCall (sp_price_of K) [] X (tCons (tOp (rIx K) (tVar 6) (tC (.int 0))) (tCons (tOp (rIx K) (tVar 6) (tC (.int 1))) tNil))) tNil))) (gName 7))
  (tSeq (tIfS (tOr (tNot (tB (tCall (sp__law_whole K) [] X (tCons (tOp (rIx K) (tVar 7) (tC (.int 0))) tNil)))) (tOr (tNot (tB (tCall (sp__law_whole K) [] X (tCons (tOp (rIx K) (tVar 7) (tC (.int 1))) tNil)))) (tOr (tTest (tOp (qNe K) (tVar 7) (tLst (tCons (tVar 3) (tCons (tVar 4) tNil))))) (tTest (tOp (rNeLL K) (tVar 6) (tLst (tCons (tVar 1) (tCons (tVar 2) tNil))))))))
  (tRet (tC (.bl false)))
  tNext)
  (tSeq (tAsg (tCall (sp__law_well K) [] X (tCons (tVar 0) (tCons (tC (.int 1)) tNil))) (gName 8))
  (tSeq (tIfS (tTest (tOp (rNeDD K) (tVar 1) (tFrzA tDNewK)))
  (tSeq (tFor (iSeq K (tCall (sp__law_spoilt K) [] X (tCons (tVar 1) (tCons (tVar 8) tNil)))) (gName 9)
  (tIfS (tOr (tNot (tB (tCall (sp__law_refused K) [] X (tCons (tC (.int 0)) (tCons (tVar 9) (tCons (tVar 2) tNil)))))) (tNot (tB (tCall (sp__law_refused K) [] X (tCons (tC (.int 1)) (tCons (tVar 9) (tCons (tVar 2) tNil)))))))
  (tRet (tC (.bl false)))
  tNext))
  (tFor (iSeq K (tCall (sp__law_spoilt_dealings K) [] X (tCons (tVar 1) (tCons (tVar 2) (tCons (tVar 8) tNil))))) (gName 9)
  (tIfS (tNot (tB (tCall (sp__law_refused K) [] X (tCons (tC (.int 1)) (tCons (tVar 1) (tCons (tVar 9) tNil))))))
  (tRet (tC (.bl false)))
  tNext)))
  tNext)
  (tRet (tAndV (tOp (qEq K) (tCall (sp_dealings_many K) [] X (tCons (tFrzA tDNewK) tNil)) (tC (.int 1))) (tAndV (tOp (qEq K) (tCall (sp_price_of K) [] X (tCons (tFrzA tDNewK) (tCons (tFrzA tDNewK) tNil))) (tC (.int 0))) (tOp (qEq K) (tCall (sp_dealings_many K) [] X (tCons (tOp (rIx K) (tVar 6) (tC (.int 0))) tNil)) (tVar 3))))))))))))))
section
variable {P : Program} {w : World} {K : PySem.W.Frag} {mg : Str → Option Value} {base : Heap}
theorem body_is_less (T : Txt K mg) {f : Addr} {cdv : Value} {A : Around} {outer : List Env} {s : Shared} {H : Hp} {X : XK} (hr : Room 0 (A.deeper (PyProof.Rows.envOfC "is_less" (defScope s_is_less) s.heap.objs.size f cdv))) :
    PSs (cxOf (L2.CX P w) P w K mg base N_is_less "is_less" (defScope s_is_less) f cdv A outer s H X) (defBody s_is_less) (t_is_less K X) :=
  (pss_one (ps_ret (pe_cmpR op_lt (pe_op op_mulU (pe_ix ix_seq (pv 0) pe_int (fun _ _ => rfl)) (pe_ix ix_seq (pv 1) pe_int (fun _ _ => rfl))) (pe_op op_mulU (pe_ix ix_seq (pv 1) pe_int (fun _ _ => rfl)) (pe_ix ix_seq (pv 0) pe_int (fun _ _ => rfl))) (nomark _))))
theorem body_check_menus (T : Txt K mg) (F_is_less : Fo P w K mg base "is_less" ["a", "b"] [] 1 (sp_is_less K)) {f : Addr} {cdv : Value} {A : Around} {outer : List Env} {s : Shared} {H : Hp} {X : XK} (hr : Room 1 (A.deeper (PyProof.Rows.envOfC "check_menus" (defScope s_check_menus) s.heap.objs.size f cdv))) :
    PSs (cxOf (L2.CX P w) P w K mg base N_check_menus "check_menus" (defScope s_check_menus) f cdv A outer s H X) (defBody s_check_menus) (t_check_menus K X) :=
  (pss_one (ps_for (passes_of rfl) rfl (pi_keys (pv 0)) (pg_name (i := 1) sc_check_menus.nd rfl (Or.inl rfl))
    (pss_cons (ps_if (pt_not (pt_chain op_le op_le pe_int (pe_callB call_len rfl T.b_len (by decide +kernel) (pa_cons (pe_dget (hu_of hr) (pv 0) (pv 1) (fun _ _ => rfl)) pa_nil)) (pe_globI rfl T.k_MOST_STEPS)))
    (pss_one (ps_raiseX rfl (takes_of rfl rfl rfl rfl) (T.e_NoDealing.pmk T.g_NoDealing (by exact rfl))))
    pss_nil)
    (pss_one (ps_for (passes_of rfl) rfl (pi_seq (pe_dget (hu_of hr) (pv 0) (pv 1) (fun _ _ => rfl))) (pg_tup rfl (pgs_cons (pg_name (i := 2) sc_check_menus.nd rfl (Or.inl rfl)) (pgs_cons (pg_name (i := 3) sc_check_menus.nd rfl (Or.inl rfl)) (pgs_cons (pg_name (i := 4) sc_check_menus.nd rfl (Or.inl rfl)) pgs_nil))))
    (pss_one (ps_if (PW.pt (pw_or (pt_val (pe_callF F_is_less (hr.mono (by decide)) (passes_call (takes_of rfl rfl rfl rfl) (fun _ _ _ _ h => h)) (pa_cons (pv 3) (pa_cons (pv 2) pa_nil)))) (pw_or1 (pt_cmpR op_lt (pv 4) pe_int (nomark _)))))
    (pss_one (ps_raiseX rfl (takes_of rfl rfl rfl rfl) (T.e_NoDealing.pmk T.g_NoDealing (by exact rfl))))
    pss_nil)))))))
theorem body_check_dealing (T : Txt K mg) (F_check_menus : Fo P w K mg base "check_menus" ["menus"] [] 2 (sp_check_menus K)) {f : Addr} {cdv : Value} {A : Around} {outer : List Env} {s : Shared} {H : Hp} {X : XK} (hr : Room 2 (A.deeper (PyProof.Rows.envOfC "check_dealing" (defScope s_check_dealing) s.heap.objs.size f cdv))) :
    PSs (cxOf (L2.CX P w) P w K mg base N_check_dealing "check_dealing" (defScope s_check_dealing) f cdv A outer s H X) (defBody s_check_dealing) (t_check_dealing K X) :=
  (pss_cons (ps_expr (pe_callF F_check_menus (hr.mono (by decide)) (passes_call (takes_of rfl rfl rfl rfl) (fun _ _ _ _ h => h)) (pa_cons (pv 0) pa_nil)))
    (pss_cons (ps_if (pt_cmpR (op_neU hr.units) (pe_callB (call_sort rfl) rfl T.b_sorted (by decide +kernel) (pa_cons (pv 0) pa_nil)) (pe_callB (call_sort rfl) rfl T.b_sorted (by decide +kernel) (pa_cons (pv 1) pa_nil)) (nomark _))
    (pss_one (ps_raiseX rfl (takes_of rfl rfl rfl rfl) (T.e_NoDealing.pmk T.g_NoDealing (by exact rfl))))
    pss_nil)
    (pss_one (ps_for (passes_of rfl) rfl (pi_keys (pv 0)) (pg_name (i := 2) sc_check_dealing.nd rfl (Or.inl rfl))
    (pss_one (ps_if (pt_not (pt_chain op_le op_lt pe_int (pe_dget (hu_of hr) (pv 1) (pv 2) (fun _ _ => rfl)) (pe_callB call_len rfl T.b_len (by decide +kernel) (pa_cons (pe_dget (hu_of hr) (pv 0) (pv 2) (fun _ _ => rfl)) pa_nil))))
    (pss_one (ps_raiseX rfl (takes_of rfl rfl rfl rfl) (T.e_NoDealing.pmk T.g_NoDealing (by exact rfl))))
    pss_nil))))))
theorem body_dealings_many (T : Txt K mg) (F_check_menus : Fo P w K mg base "check_menus" ["menus"] [] 2 (sp_check_menus K)) {f : Addr} {cdv : Value} {A : Around} {outer : List Env} {s : Shared} {H : Hp} {X : XK} (hr : Room 2 (A.deeper (PyProof.Rows.envOfC "dealings_many" (defScope s_dealings_many) s.heap.objs.size f cdv))) :
    PSs (cxOf (L2.CX P w) P w K mg base N_dealings_many "dealings_many" (defScope s_dealings_many) f cdv A outer s H X) (defBody s_dealings_many) (t_dealings_many K X) :=
  (pss_cons (ps_expr (pe_callF F_check_menus (hr.mono (by decide)) (passes_call (takes_of rfl rfl rfl rfl) (fun _ _ _ _ h => h)) (pa_cons (pv 0) pa_nil)))
    (pss_cons (ps_set (i := 1) sc_dealings_many.nd rfl (Or.inl rfl) pe_int)
    (pss_cons (ps_for (passes_of rfl) rfl (pi_keys (pv 0)) (pg_name (i := 2) sc_dealings_many.nd rfl (Or.inl rfl))
    (pss_one (ps_aug (i := 1) sc_dealings_many.nd rfl (Or.inl rfl) (pe_callB call_len rfl T.b_len (by decide +kernel) (pa_cons (pe_dget (hu_of hr) (pv 0) (pv 2) (fun _ _ => rfl)) pa_nil)) ip_mul)))
    (pss_one (ps_ret (pv 1))))))
theorem body_price_of (T : Txt K mg) (F_check_dealing : Fo P w K mg base "check_dealing" ["menus", "dealing"] [] 3 (sp_check_dealing K)) {f : Addr} {cdv : Value} {A : Around} {outer : List Env} {s : Shared} {H : Hp} {X : XK} (hr : Room 3 (A.deeper (PyProof.Rows.envOfC "price_of" (defScope s_price_of) s.heap.objs.size f cdv))) :
    PSs (cxOf (L2.CX P w) P w K mg base N_price_of "price_of" (defScope s_price_of) f cdv A outer s H X) (defBody s_price_of) (t_price_of K X) :=
  (pss_cons (ps_expr (pe_callF F_check_dealing (hr.mono (by decide)) (passes_call (takes_of rfl rfl rfl rfl) (fun _ _ _ _ h => h)) (pa_cons (pv 0) (pa_cons (pv 1) pa_nil))))
    (pss_one (ps_ret (pe_callB (cr_sum rfl) rfl T.b_sum (by decide +kernel) (pa_cons (pe_lc (own := [("name", 2)]) (g := (gName 2)) (tt := tYes) rfl sc_price_of.nd  (pi_keys (pv 0)) (blkOk_by (N := N_price_of) (sc := defScope s_price_of) (by decide +kernel)) (fun _ _ _ _ _ => (pg_name (i := 2) sc_price_of.nd rfl (Or.inl rfl))) (fun _ _ _ _ _ => pts_nil) (fun _ _ _ _ _ => (pe_ix ix_seq (pe_ix ix_seq (pe_dget (hu_of hr) (pv 0) (pv 2) (fun _ _ => rfl)) (pe_dget (hu_of hr) (pv 1) (pv 2) (fun _ _ => rfl)) (fun _ _ => rfl)) pe_int (fun _ _ => rfl)))) pa_nil)))))
theorem body__law_well (T : Txt K mg) {f : Addr} {cdv : Value} {A : Around} {outer : List Env} {s : Shared} {H : Hp} {X : XK} (hr : Room 0 (A.deeper (PyProof.Rows.envOfC "_law_well" (defScope s__law_well) s.heap.objs.size f cdv))) :
    PSs (cxOf (L2.CX P w) P w K mg base N__law_well "_law_well" (defScope s__law_well) f cdv A outer s H X) (defBody s__law_well) (t__law_well K X) :=
  (pss_cons (ps_set (i := 2) sc__law_well.nd rfl (Or.inl rfl) pe_int)
    (pss_cons (ps_if (pt_cmpR op_lt (pv 1) (pe_callB call_len rfl T.b_len (by decide +kernel) (pa_cons (pv 0) pa_nil)) (nomark _))
    (pss_one (ps_set (i := 2) sc__law_well.nd rfl (Or.inl rfl) (pe_ix ix_seq (pv 0) (pv 1) (fun _ _ => rfl))))
    pss_nil)
    (pss_one (ps_ret (pe_lst (pa_cons (pe_callTy call_int1 rfl T.b_int (by decide +kernel) (pa_cons (pe_cmpR op_ge (pe_callB call_abs rfl T.b_abs (by decide +kernel) (pa_cons (pv 2) pa_nil)) (pe_op op_pow pe_int pe_int) (nomark _)) pa_nil)) (pa_cons (pv 2) (pa_cons (pe_op op_mulU pe_int (pv 1)) pa_nil))))))))
theorem body__law_take (T : Txt K mg) {f : Addr} {cdv : Value} {A : Around} {outer : List Env} {s : Shared} {H : Hp} {X : XK} (hr : Room 0 (A.deeper (PyProof.Rows.envOfC "_law_take" (defScope s__law_take) s.heap.objs.size f cdv))) :
    PSs (cxOf (L2.CX P w) P w K mg base N__law_take "_law_take" (defScope s__law_take) f cdv A outer s H X) (defBody s__law_take) (t__law_take K X) :=
  (pss_cons (ps_if (pt_cmpR (op_eqU hr.units) (pe_ix ix_seq (pv 0) pe_int (fun _ _ => rfl)) pe_int (nomark _))
    (pss_cons (ps_set (i := 2) sc__law_take.nd rfl (Or.inl rfl) (pe_op op_modN (pe_ix ix_seq (pv 0) pe_int (fun _ _ => rfl)) (pv 1)))
    (pss_cons (ps_asg (pe_op op_div (pe_ix ix_seq (pv 0) pe_int (fun _ _ => rfl)) (pv 1)) (pg_sub (pv 0) pe_int set_list))
    (pss_one (ps_ret (pv 2)))))
    pss_nil)
    (pss_cons (ps_set (i := 3) sc__law_take.nd rfl (Or.inl rfl) (pe_op op_addV (pe_ix ix_seq (pv 0) pe_int (fun _ _ => rfl)) pe_int))
    (pss_cons (ps_asg (pv 3) (pg_sub (pv 0) pe_int set_list))
    (pss_cons (ps_set (i := 4) sc__law_take.nd rfl (Or.inl rfl) (pe_op op_modN (pe_op op_mulU (pe_op op_addV (pe_op op_addV (pe_ix ix_seq (pv 0) pe_int (fun _ _ => rfl)) (pe_op op_mulU (pe_op op_mulU pe_int (pv 3)) (pv 3))) (pv 3)) pe_int) pe_int))
    (pss_one (ps_ret (pe_op op_modN (pe_op op_div (pe_op op_modN (pe_op op_addV (pe_op op_mulU (pv 4) pe_int) pe_int) pe_int) pe_int) (pv 1))))))))
theorem body__law_common (T : Txt K mg) {f : Addr} {cdv : Value} {A : Around} {outer : List Env} {s : Shared} {H : Hp} {X : XK} (hr : Room 0 (A.deeper (PyProof.Rows.envOfC "_law_common" (defScope s__law_common) s.heap.objs.size f cdv))) :
    PSs (cxOf (L2.CX P w) P w K mg base N__law_common "_law_common" (defScope s__law_common) f cdv A outer s H X) (defBody s__law_common) (t__law_common K X) :=
  (pss_cons (ps_while (passes_of rfl) (pt_cmpR (op_neU hr.units) (pv 1) pe_int (nomark _))
    (pss_one (ps_par (by rfl) sc__law_common.nd rfl rfl (by decide) rfl rfl (pa_cons (pv 1) (pa_cons (pe_op op_modN (pv 0) (pv 1)) pa_nil)) (by rfl))))
    (pss_one (ps_ret (pe_callB call_abs rfl T.b_abs (by decide +kernel) (pa_cons (pv 0) pa_nil)))))
theorem body__law_num (T : Txt K mg) (F__law_common : Fo P w K mg base "_law_common" ["_law_one", "_law_other"] [] 1 (sp__law_common K)) {f : Addr} {cdv : Value} {A : Around} {outer : List Env} {s : Shared} {H : Hp} {X : XK} (hr : Room 1 (A.deeper (PyProof.Rows.envOfC "_law_num" (defScope s__law_num) s.heap.objs.size f cdv))) :
    PSs (cxOf (L2.CX P w) P w K mg base N__law_num "_law_num" (defScope s__law_num) f cdv A outer s H X) (defBody s__law_num) (t__law_num K X) :=
  (pss_cons (ps_set (i := 2) sc__law_num.nd rfl (Or.inl rfl) (pe_callF F__law_common (hr.mono (by decide)) (passes_call (takes_of rfl rfl rfl rfl) (fun _ _ _ _ h => h)) (pa_cons (pv 0) (pa_cons (pv 1) pa_nil))))
    (pss_one (ps_ret (pe_tupP (pa_cons (pe_op op_div (pv 0) (pv 2)) (pa_cons (pe_op op_div (pv 1) (pv 2)) pa_nil))))))
theorem body__law_word (T : Txt K mg) (F__law_take : Fo P w K mg base "_law_take" ["_law_well_here", "_law_many"] [] 1 (sp__law_take K)) {f : Addr} {cdv : Value} {A : Around} {outer : List Env} {s : Shared} {H : Hp} {X : XK} (hr : Room 1 (A.deeper (PyProof.Rows.envOfC "_law_word" (defScope s__law_word) s.heap.objs.size f cdv))) :
    PSs (cxOf (L2.CX P w) P w K mg base N__law_word "_law_word" (defScope s__law_word) f cdv A outer s H X) (defBody s__law_word) (t__law_word K X) :=
  (pss_cons (ps_set (i := 2) sc__law_word.nd rfl (Or.inl rfl) pe_str)
    (pss_cons (ps_for (passes_of rfl) rfl (pi_range1 rfl T.b_range (pa_cons (pe_callF F__law_take (hr.mono (by decide)) (passes_call (takes_of rfl rfl rfl rfl) (fun _ _ _ _ h => h)) (pa_cons (pv 0) (pa_cons pe_int pa_nil))) pa_nil)) (pg_name (i := 3) sc__law_word.nd rfl (Or.inl rfl))
    (pss_one (ps_set (i := 2) sc__law_word.nd rfl (Or.inl rfl) (pe_op op_addV (pv 2) (pe_ix ix_seq pe_str (pe_callF F__law_take (hr.mono (by decide)) (passes_call (takes_of rfl rfl rfl rfl) (fun _ _ _ _ h => h)) (pa_cons (pv 0) (pa_cons pe_int pa_nil))) (fun _ _ => rfl))))))
    (pss_one (ps_ret (pe_op op_addV (pv 2) (pe_ix ix_seq pe_str (pv 1) (fun _ _ => rfl)))))))
theorem body__law_whole (T : Txt K mg) {f : Addr} {cdv : Value} {A : Around} {outer : List Env} {s : Shared} {H : Hp} {X : XK} (hr : Room 0 (A.deeper (PyProof.Rows.envOfC "_law_whole" (defScope s__law_whole) s.heap.objs.size f cdv))) :
    PSs (cxOf (L2.CX P w) P w K mg base N__law_whole "_law_whole" (defScope s__law_whole) f cdv A outer s H X) (defBody s__law_whole) (t__law_whole K X) :=
  (pss_one (ps_ret (pe_and (pe_callB call_isiA rfl T.b_isinstance (by decide +kernel) (pa_cons (pv 0) (pa_cons (pe_bltn rfl T.b_int (by decide +kernel) rfl) pa_nil))) (pe_one (pe_not (pe_callB call_isiA rfl T.b_isinstance (by decide +kernel) (pa_cons (pv 0) (pa_cons (pe_bltn rfl T.b_bool (by decide +kernel) rfl) pa_nil))))))))
theorem body__law_steps (T : Txt K mg) (F__law_num : Fo P w K mg base "_law_num" ["_law_top", "_law_bottom"] [] 2 (sp__law_num K)) (F__law_take : Fo P w K mg base "_law_take" ["_law_well_here", "_law_many"] [] 1 (sp__law_take K)) {f : Addr} {cdv : Value} {A : Around} {outer : List Env} {s : Shared} {H : Hp} {X : XK} (hr : Room 2 (A.deeper (PyProof.Rows.envOfC "_law_steps" (defScope s__law_steps) s.heap.objs.size f cdv))) :
    PSs (cxOf (L2.CX P w) P w K mg base N__law_steps "_law_steps" (defScope s__law_steps) f cdv A outer s H X) (defBody s__law_steps) (t__law_steps K X) :=
  (pss_cons (ps_set (i := 2) sc__law_steps.nd rfl (Or.inl rfl) (pe_lst pa_nil))
    (pss_cons (ps_for (passes_of rfl) rfl (pi_range1 rfl T.b_range (pa_cons (pv 1) pa_nil)) (pg_name (i := 3) sc__law_steps.nd rfl (Or.inl rfl))
    (pss_cons (ps_set (i := 4) sc__law_steps.nd rfl (Or.inl rfl) (pe_op op_sub (pe_callF F__law_take (hr.mono (by decide)) (passes_call (takes_of rfl rfl rfl rfl) (fun _ _ _ _ h => h)) (pa_cons (pv 0) (pa_cons pe_int pa_nil))) pe_int))
    (pss_cons (ps_set (i := 5) sc__law_steps.nd rfl (Or.inl rfl) (pe_op op_addV (pv 4) (pe_op op_mulU (pe_callF F__law_take (hr.mono (by decide)) (passes_call (takes_of rfl rfl rfl rfl) (fun _ _ _ _ h => h)) (pa_cons (pv 0) (pa_cons pe_int pa_nil))) (pe_callF F__law_take (hr.mono (by decide)) (passes_call (takes_of rfl rfl rfl rfl) (fun _ _ _ _ h => h)) (pa_cons (pv 0) (pa_cons pe_int pa_nil))))))
    (pss_cons (ps_set (i := 6) sc__law_steps.nd rfl (Or.inl rfl) (pe_ix ix_seq (pe_lst (pa_cons (pe_callF F__law_take (hr.mono (by decide)) (passes_call (takes_of rfl rfl rfl rfl) (fun _ _ _ _ h => h)) (pa_cons (pv 0) (pa_cons pe_int pa_nil))) (pa_cons (pe_callF F__law_take (hr.mono (by decide)) (passes_call (takes_of rfl rfl rfl rfl) (fun _ _ _ _ h => h)) (pa_cons (pv 0) (pa_cons (pe_op op_addV (pe_op op_pow pe_int pe_int) pe_int) pa_nil))) pa_nil))) (pe_callF F__law_take (hr.mono (by decide)) (passes_call (takes_of rfl rfl rfl rfl) (fun _ _ _ _ h => h)) (pa_cons (pv 0) (pa_cons pe_int pa_nil))) (fun _ _ => rfl)))
    (pss_one (ps_expr (pe_bm PySem.F.plainAttrs_list PySem.F.slot_list_append PySem.F.type_list_append mt_append (pv 2) (pa_cons (pe_tupP (pa_cons (pe_callF F__law_num (hr.mono (by decide)) (passes_call (takes_of rfl rfl rfl rfl) (fun _ _ _ _ h => h)) (pa_cons (pv 4) (pa_cons pe_int pa_nil))) (pa_cons (pe_callF F__law_num (hr.mono (by decide)) (passes_call (takes_of rfl rfl rfl rfl) (fun _ _ _ _ h => h)) (pa_cons (pv 5) (pa_cons pe_int pa_nil))) (pa_cons (pv 6) pa_nil)))) pa_nil))))))))
    (pss_one (ps_ret (pe_callTy call_tupP rfl T.b_tuple (by decide +kernel) (pa_cons (pv 2) pa_nil))))))
theorem body__law_drawn (T : Txt K mg) (F__law_steps : Fo P w K mg base "_law_steps" ["_law_well_here", "_law_many"] [] 3 (sp__law_steps K)) (F__law_take : Fo P w K mg base "_law_take" ["_law_well_here", "_law_many"] [] 1 (sp__law_take K)) (F__law_well : Fo P w K mg base "_law_well" ["_law_script", "_law_k"] [] 1 (sp__law_well K)) (F__law_word : Fo P w K mg base "_law_word" ["_law_well_here", "_law_k"] [] 2 (sp__law_word K)) {f : Addr} {cdv : Value} {A : Around} {outer : List Env} {s : Shared} {H : Hp} {X : XK} (hr : Room 3 (A.deeper (PyProof.Rows.envOfC "_law_drawn" (defScope s__law_drawn) s.heap.objs.size f cdv))) :
    PSs (cxOf (L2.CX P w) P w K mg base N__law_drawn "_law_drawn" (defScope s__law_drawn) f cdv A outer s H X) (defBody s__law_drawn) (t__law_drawn K X) :=
  (pss_cons (ps_set (i := 1) sc__law_drawn.nd rfl (Or.inl rfl) (pe_callF F__law_well (hr.mono (by decide)) (passes_call (takes_of rfl rfl rfl rfl) (fun _ _ _ _ h => h)) (pa_cons (pv 0) (pa_cons pe_int pa_nil))))
    (pss_cons (ps_set (i := 2) sc__law_drawn.nd rfl (Or.inl rfl) pe_dnewK)
    (pss_cons (ps_for (passes_of rfl) rfl (pi_range1 rfl T.b_range (pa_cons (pe_callF F__law_take (hr.mono (by decide)) (passes_call (takes_of rfl rfl rfl rfl) (fun _ _ _ _ h => h)) (pa_cons (pv 1) (pa_cons pe_int pa_nil))) pa_nil)) (pg_name (i := 3) sc__law_drawn.nd rfl (Or.inl rfl))
    (pss_one (ps_dput (hu_of hr) (pv 2) (pe_op op_addV (pe_op op_addV (pe_callF F__law_word (hr.mono (by decide)) (passes_call (takes_of rfl rfl rfl rfl) (fun _ _ _ _ h => h)) (pa_cons (pv 1) (pa_cons (pv 3) pa_nil))) pe_str) (pe_callF F__law_word (hr.mono (by decide)) (passes_call (takes_of rfl rfl rfl rfl) (fun _ _ _ _ h => h)) (pa_cons (pv 1) (pa_cons pe_int pa_nil)))) (pe_callF F__law_steps (hr.mono (by decide)) (passes_call (takes_of rfl rfl rfl rfl) (fun _ _ _ _ h => h)) (pa_cons (pv 1) (pa_cons (pe_op op_addV pe_int (pe_callF F__law_take (hr.mono (by decide)) (passes_call (takes_of rfl rfl rfl rfl) (fun _ _ _ _ h => h)) (pa_cons (pv 1) (pa_cons pe_int pa_nil)))) pa_nil))) rfl)))
    (pss_cons (ps_set (i := 4) sc__law_drawn.nd rfl (Or.inl rfl) pe_dnewK)
    (pss_cons (ps_frz (ps_for (passes_of rfl) rfl (pi_keys (pv 2)) (pg_name (i := 5) sc__law_drawn.nd rfl (Or.inl rfl))
    (pss_one (ps_dput (hu_of hr) (pv 4) (pv 5) (pe_callF F__law_take (hr.mono (by decide)) (passes_call (takes_of rfl rfl rfl rfl) (fun _ _ _ _ h => h)) (pa_cons (pv 1) (pa_cons (pe_callB call_len rfl T.b_len (by decide +kernel) (pa_cons (pe_dget (hu_of hr) (pv 2) (pv 5) (fun _ _ => rfl)) pa_nil)) pa_nil))) rfl))))
    (pss_one (ps_frz (ps_ret (pe_tupP (pa_cons (pv 2) (pa_cons (pv 4) pa_nil)))))))))))
theorem body__law_refused (T : Txt K mg) (F_dealings_many : Fo P w K mg base "dealings_many" ["menus"] [] 3 (sp_dealings_many K)) (F_price_of : Fo P w K mg base "price_of" ["menus", "dealing"] [] 4 (sp_price_of K)) {f : Addr} {cdv : Value} {A : Around} {outer : List Env} {s : Shared} {H : Hp} {X : XK} (hr : Room 4 (A.deeper (PyProof.Rows.envOfC "_law_refused" (defScope s__law_refused) s.heap.objs.size f cdv))) :
    PSs (cxOf (L2.CX P w) P w K mg base N__law_refused "_law_refused" (defScope s__law_refused) f cdv A outer s H X) (defBody s__law_refused) (t__law_refused K X) :=
  (pss_cons (ps_set (i := 3) sc__law_refused.nd rfl (Or.inl rfl) (pe_lst pa_nil))
    (pss_cons (ps_tryAs rfl rfl sc__law_refused.nd rfl rfl ⟨rfl, by decide, Or.inl T.g_NoDealing⟩ (takes_of rfl rfl rfl rfl) (fun W pn xe tk po => (pss_one (ps_if (pt_cmpR (op_eqU hr.units) (pv 0) pe_int (nomark _))
    (pss_one (ps_expr (pe_callFS F_dealings_many (hr.mono (by decide)) tk (pa_cons (pv 1) pa_nil))))
    (pss_one (ps_expr (pe_callFS F_price_of (hr.mono (by decide)) tk (pa_cons (pv 1) (pa_cons (pv 2) pa_nil))))))))
    (fun a pn => (pss_cons (ps_set (i := 3) sc__law_refused.nd rfl (Or.inl rfl) (pe_lst (pa_cons (pe_callB call_isiA rfl T.b_isinstance (by decide +kernel) (pa_cons (pv 4) (pa_cons (pe_glob rfl T.g_FitError rfl) pa_nil))) (pa_cons (pe_callB call_isiA rfl T.b_isinstance (by decide +kernel) (pa_cons (pv 4) (pa_cons (pe_bltn rfl T.b_ValueError (by decide +kernel) rfl) pa_nil))) pa_nil))))
    (pss_cons (ps_expr (pe_bm PySem.F.plainAttrs_list PySem.F.slot_list_append PySem.F.type_list_append mt_append (pv 3) (pa_cons (pe_callB call_isiTA rfl T.b_isinstance (by decide +kernel) (pa_cons (pv 4) (pa_cons (pe_tup (pa_cons (pe_glob rfl T.g_NoBins rfl) (pa_cons (pe_glob rfl T.g_NoFace rfl) (pa_cons (pe_glob rfl T.g_NoFit rfl) (pa_cons (pe_glob rfl T.g_NoJoint rfl) (pa_cons (pe_glob rfl T.g_NoMaking rfl) (pa_cons (pe_glob rfl T.g_NoNumber rfl) (pa_cons (pe_glob rfl T.g_NoPart rfl) (pa_cons (pe_glob rfl T.g_NoProgram rfl) pa_nil))))))))) pa_nil))) pa_nil)))
    (pss_one (ps_expr (pe_bm PySem.F.plainAttrs_list PySem.F.slot_list_append PySem.F.type_list_append mt_append (pv 3) (pa_cons (pe_callB call_isiTA rfl T.b_isinstance (by decide +kernel) (pa_cons (pv 4) (pa_cons (pe_tup (pa_cons (pe_glob rfl T.g_NoRow rfl) (pa_cons (pe_glob rfl T.g_NoSheet rfl) (pa_cons (pe_glob rfl T.g_NoSize rfl) (pa_cons (pe_glob rfl T.g_NoSum rfl) (pa_cons (pe_glob rfl T.g_TooMany rfl) pa_nil)))))) pa_nil))) pa_nil))))))))
    (pss_one (ps_ret (pe_cmpR (op_eqU hr.units) (pv 3) (pe_lst (pa_cons pe_bl (pa_cons pe_bl (pa_cons pe_bl (pa_cons pe_bl pa_nil))))) (nomark _))))))
theorem body__law_spoilt (T : Txt K mg) (F__law_num : Fo P w K mg base "_law_num" ["_law_top", "_law_bottom"] [] 2 (sp__law_num K)) (F__law_steps : Fo P w K mg base "_law_steps" ["_law_well_here", "_law_many"] [] 3 (sp__law_steps K)) (F__law_take : Fo P w K mg base "_law_take" ["_law_well_here", "_law_many"] [] 1 (sp__law_take K)) {f : Addr} {cdv : Value} {A : Around} {outer : List Env} {s : Shared} {H : Hp} {X : XK} (hr : Room 3 (A.deeper (PyProof.Rows.envOfC "_law_spoilt" (defScope s__law_spoilt) s.heap.objs.size f cdv))) :
    PSs (cxOf (L2.CX P w) P w K mg base N__law_spoilt "_law_spoilt" (defScope s__law_spoilt) f cdv A outer s H X) (defBody s__law_spoilt) (t__law_spoilt K X) :=
  (pss_cons (ps_set (i := 2) sc__law_spoilt.nd rfl (Or.inl rfl) (pe_ix ix_seq (pe_callB (call_sort rfl) rfl T.b_sorted (by decide +kernel) (pa_cons (pv 0) pa_nil)) (pe_callF F__law_take (hr.mono (by decide)) (passes_call (takes_of rfl rfl rfl rfl) (fun _ _ _ _ h => h)) (pa_cons (pv 1) (pa_cons (pe_callB call_lenDR rfl T.b_len (by decide +kernel) (pa_cons (pv 0) pa_nil)) pa_nil))) (fun _ _ => rfl)))
    (pss_cons (ps_set (i := 3) sc__law_spoilt.nd rfl (Or.inl rfl) (pe_dget (hu_of hr) (pv 0) (pv 2) (fun _ _ => rfl)))
    (pss_cons (ps_set (i := 4) sc__law_spoilt.nd rfl (Or.inl rfl) (pe_callF F__law_take (hr.mono (by decide)) (passes_call (takes_of rfl rfl rfl rfl) (fun _ _ _ _ h => h)) (pa_cons (pv 1) (pa_cons (pe_callB call_len rfl T.b_len (by decide +kernel) (pa_cons (pv 3) pa_nil)) pa_nil))))
    (pss_cons (ps_asg (pe_ix ix_seq (pv 3) (pv 4) (fun _ _ => rfl)) (pg_tup rfl (pgs_cons (pg_name (i := 5) sc__law_spoilt.nd rfl (Or.inl rfl)) (pgs_cons (pg_name (i := 6) sc__law_spoilt.nd rfl (Or.inl rfl)) (pgs_cons (pg_name (i := 7) sc__law_spoilt.nd rfl (Or.inl rfl)) pgs_nil)))))
    (pss_cons (ps_set (i := 8) sc__law_spoilt.nd rfl (Or.inl rfl) (pe_callF F__law_num (hr.mono (by decide)) (passes_call (takes_of rfl rfl rfl rfl) (fun _ _ _ _ h => h)) (pa_cons (pe_op op_sub (pe_ix ix_seq (pv 5) pe_int (fun _ _ => rfl)) (pe_op op_mulU (pe_ix ix_seq (pv 5) pe_int (fun _ _ => rfl)) (pe_op op_addV pe_int (pe_callF F__law_take (hr.mono (by decide)) (passes_call (takes_of rfl rfl rfl rfl) (fun _ _ _ _ h => h)) (pa_cons (pv 1) (pa_cons pe_int pa_nil)))))) (pa_cons (pe_ix ix_seq (pv 5) pe_int (fun _ _ => rfl)) pa_nil))))
    (pss_cons (ps_set (i := 9) sc__law_spoilt.nd rfl (Or.inl rfl) (pe_lst pa_nil))
    (pss_cons (ps_for (passes_of rfl) rfl (pi_seq (pe_lst (pa_cons (pe_tupP (pa_cons (pv 5) (pa_cons (pv 8) (pa_cons (pv 7) pa_nil)))) (pa_cons (pe_tupP (pa_cons (pv 5) (pa_cons (pv 6) (pa_cons (pe_op op_sub (pe_un un_negU pe_int) (pe_callF F__law_take (hr.mono (by decide)) (passes_call (takes_of rfl rfl rfl rfl) (fun _ _ _ _ h => h)) (pa_cons (pv 1) (pa_cons (pe_op op_pow pe_int pe_int) pa_nil)))) pa_nil)))) pa_nil)))) (pg_name (i := 10) sc__law_spoilt.nd rfl (Or.inl rfl))
    (pss_one (ps_expr (pe_bm PySem.F.plainAttrs_list PySem.F.slot_list_append PySem.F.type_list_append mt_append (pv 9) (pa_cons (pe_op op_addV (pe_op op_addV (pe_slice sl_tupP (pv 3) po_none (po_some (pv 4))) (pe_tupP (pa_cons (pv 10) pa_nil))) (pe_slice sl_tupP (pv 3) (po_some (pe_op op_addV (pv 4) pe_int)) po_none)) pa_nil)))))
    (pss_cons (ps_set (i := 9) sc__law_spoilt.nd rfl (Or.inl rfl) (pe_op op_addV (pv 9) (pe_lst (pa_cons (pe_tupP pa_nil) (pa_cons (pe_callF F__law_steps (hr.mono (by decide)) (passes_call (takes_of rfl rfl rfl rfl) (fun _ _ _ _ h => h)) (pa_cons (pv 1) (pa_cons pe_int pa_nil))) pa_nil)))))
    (pss_cons (ps_set (i := 11) sc__law_spoilt.nd rfl (Or.inl rfl) (pe_lst pa_nil))
    (pss_cons (ps_for (passes_of rfl) rfl (pi_seq (pv 9)) (pg_name (i := 12) sc__law_spoilt.nd rfl (Or.inl rfl))
    (pss_cons (ps_set (i := 13) sc__law_spoilt.nd rfl (Or.inl rfl) (pe_callTy (call_dctU rfl) rfl T.b_dict (by decide +kernel) (pa_cons (pv 0) pa_nil)))
    (pss_cons (ps_dput (hu_of hr) (pv 13) (pv 2) (pv 12) rfl)
    (pss_one (ps_frz (ps_expr (pe_bm PySem.F.plainAttrs_list PySem.F.slot_list_append PySem.F.type_list_append mt_append (pv 11) (pa_cons (pv 13) pa_nil))))))))
    (pss_one (ps_ret (pv 11)))))))))))))
theorem body__law_spoilt_dealings (T : Txt K mg) (F__law_take : Fo P w K mg base "_law_take" ["_law_well_here", "_law_many"] [] 1 (sp__law_take K)) {f : Addr} {cdv : Value} {A : Around} {outer : List Env} {s : Shared} {H : Hp} {X : XK} (hr : Room 1 (A.deeper (PyProof.Rows.envOfC "_law_spoilt_dealings" (defScope s__law_spoilt_dealings) s.heap.objs.size f cdv))) :
    PSs (cxOf (L2.CX P w) P w K mg base N__law_spoilt_dealings "_law_spoilt_dealings" (defScope s__law_spoilt_dealings) f cdv A outer s H X) (defBody s__law_spoilt_dealings) (t__law_spoilt_dealings K X) :=
  (pss_cons (ps_set (i := 3) sc__law_spoilt_dealings.nd rfl (Or.inl rfl) (pe_ix ix_seq (pe_callB (call_sort rfl) rfl T.b_sorted (by decide +kernel) (pa_cons (pv 0) pa_nil)) (pe_callF F__law_take (hr.mono (by decide)) (passes_call (takes_of rfl rfl rfl rfl) (fun _ _ _ _ h => h)) (pa_cons (pv 2) (pa_cons (pe_callB call_lenDR rfl T.b_len (by decide +kernel) (pa_cons (pv 0) pa_nil)) pa_nil))) (fun _ _ => rfl)))
    (pss_cons (ps_set (i := 4) sc__law_spoilt_dealings.nd rfl (Or.inl rfl) (pe_lst pa_nil))
    (pss_cons (ps_for (passes_of rfl) rfl (pi_seq (pe_lst (pa_cons (pe_op op_sub (pe_un un_negU pe_int) (pe_callF F__law_take (hr.mono (by decide)) (passes_call (takes_of rfl rfl rfl rfl) (fun _ _ _ _ h => h)) (pa_cons (pv 2) (pa_cons pe_int pa_nil)))) (pa_cons (pe_callB call_len rfl T.b_len (by decide +kernel) (pa_cons (pe_dget (hu_of hr) (pv 0) (pv 3) (fun _ _ => rfl)) pa_nil)) (pa_cons (pe_op op_addV (pe_callB call_len rfl T.b_len (by decide +kernel) (pa_cons (pe_dget (hu_of hr) (pv 0) (pv 3) (fun _ _ => rfl)) pa_nil)) (pe_callF F__law_take (hr.mono (by decide)) (passes_call (takes_of rfl rfl rfl rfl) (fun _ _ _ _ h => h)) (pa_cons (pv 2) (pa_cons pe_int pa_nil)))) pa_nil))))) (pg_name (i := 5) sc__law_spoilt_dealings.nd rfl (Or.inl rfl))
    (pss_cons (ps_set (i := 6) sc__law_spoilt_dealings.nd rfl (Or.inl rfl) (pe_callTy (call_dctU rfl) rfl T.b_dict (by decide +kernel) (pa_cons (pv 1) pa_nil)))
    (pss_cons (ps_dput (hu_of hr) (pv 6) (pv 3) (pv 5) rfl)
    (pss_one (ps_frz (ps_expr (pe_bm PySem.F.plainAttrs_list PySem.F.slot_list_append PySem.F.type_list_append mt_append (pv 4) (pa_cons (pv 6) pa_nil))))))))
    (pss_cons (ps_set (i := 7) sc__law_spoilt_dealings.nd rfl (Or.inl rfl) (pe_callTy (call_dctU rfl) rfl T.b_dict (by decide +kernel) (pa_cons (pv 1) pa_nil)))
    (pss_cons (ps_expr (pe_dpop1 (pv 7) (pv 3) ⟨rfl, rfl, rfl, rfl⟩))
    (pss_cons (ps_set (i := 8) sc__law_spoilt_dealings.nd rfl (Or.inl rfl) (pe_callTy (call_dctU rfl) rfl T.b_dict (by decide +kernel) (pa_cons (pv 1) pa_nil)))
    (pss_cons (ps_dput (hu_of hr) (pv 8) pe_str pe_int rfl)
    (pss_cons (ps_frz (ps_set (i := 6) sc__law_spoilt_dealings.nd rfl (Or.inl rfl) (pe_callTy (call_dctU rfl) rfl T.b_dict (by decide +kernel) (pa_cons (pv 7) pa_nil))))
    (pss_cons (ps_dput (hu_of hr) (pv 6) pe_str pe_int rfl)
    (pss_one (ps_frz (ps_frz (ps_ret (pe_op op_addV (pv 4) (pe_lst (pa_cons (pv 7) (pa_cons (pv 8) (pa_cons (pv 6) pa_nil))))))))))))))))))
theorem body_law (T : Txt K mg) (F__law_drawn : Fo P w K mg base "_law_drawn" ["_law_script"] [] 4 (sp__law_drawn K)) (F__law_refused : Fo P w K mg base "_law_refused" ["_law_way", "_law_menus", "_law_dealing"] [] 5 (sp__law_refused K)) (F__law_spoilt : Fo P w K mg base "_law_spoilt" ["_law_menus", "_law_well_here"] [] 4 (sp__law_spoilt K)) (F__law_spoilt_dealings : Fo P w K mg base "_law_spoilt_dealings" ["_law_menus", "_law_dealing", "_law_well_here"] [] 2 (sp__law_spoilt_dealings K)) (F__law_well : Fo P w K mg base "_law_well" ["_law_script", "_law_k"] [] 1 (sp__law_well K)) (F__law_whole : Fo P w K mg base "_law_whole" ["_law_found"] [] 1 (sp__law_whole K)) (F_dealings_many : Fo P w K mg base "dealings_many" ["menus"] [] 3 (sp_dealings_many K)) (F_price_of : Fo P w K mg base "price_of" ["menus", "dealing"] [] 4 (sp_price_of K)) {f : Addr} {cdv : Value} {A : Around} {outer : List Env} {s : Shared} {H : Hp} {X : XK} (hr : Room 5 (A.deeper (PyProof.Rows.envOfC "law" (defScope s_law) s.heap.objs.size f cdv))) :
    PSs (cxOf (L2.CX P w) P w K mg base N_law "law" (defScope s_law) f cdv A outer s H X) (defBody s_law) (t_law K X) :=
  (pss_cons (ps_asg (pe_callF F__law_drawn (hr.mono (by decide)) (passes_call (takes_of rfl rfl rfl rfl) (fun _ _ _ _ h => h)) (pa_cons (pv 0) pa_nil)) (pg_tup rfl (pgs_cons (pg_name (i := 1) sc_law.nd rfl (Or.inl rfl)) (pgs_cons (pg_name (i := 2) sc_law.nd rfl (Or.inl rfl)) pgs_nil))))
    (pss_cons (ps_set (i := 3) sc_law.nd rfl (Or.inl rfl) pe_int)
    (pss_cons (ps_set (i := 4) sc_law.nd rfl (Or.inl rfl) pe_int)
    (pss_cons (ps_for (passes_of rfl) rfl (pi_keys (pv 1)) (pg_name (i := 5) sc_law.nd rfl (Or.inl rfl))
    (pss_cons (ps_set (i := 3) sc_law.nd rfl (Or.inl rfl) (pe_op op_mulU (pv 3) (pe_callB call_len rfl T.b_len (by decide +kernel) (pa_cons (pe_dget (hu_of hr) (pv 1) (pv 5) (fun _ _ => rfl)) pa_nil))))
    (pss_one (ps_set (i := 4) sc_law.nd rfl (Or.inl rfl) (pe_op op_addV (pv 4) (pe_ix ix_seq (pe_ix ix_seq (pe_dget (hu_of hr) (pv 1) (pv 5) (fun _ _ => rfl)) (pe_dget (hu_of hr) (pv 2) (pv 5) (fun _ _ => rfl)) (fun _ _ => rfl)) pe_int (fun _ _ => rfl)))))))
    (pss_cons (ps_set (i := 6) sc_law.nd rfl (Or.inl rfl) (pe_lst (pa_cons (pe_frzA (pe_callTy (call_dctU rfl) rfl T.b_dict (by decide +kernel) (pa_cons (pv 1) pa_nil))) (pa_cons (pe_frzA (pe_callTy (call_dctU rfl) rfl T.b_dict (by decide +kernel) (pa_cons (pv 2) pa_nil))) pa_nil))))
    (pss_cons (ps_set (i := 7) sc_law.nd rfl (Or.inl rfl) (pe_lst (pa_cons (pe_callF F_dealings_many (hr.mono (by decide)) (passes_call (takes_of rfl rfl rfl rfl) (fun _ _ _ _ h => h)) (pa_cons (pe_ix ix_seq (pv 6) pe_int (fun _ _ => rfl)) pa_nil)) (pa_cons (pe_callF F_price_of (hr.mono (by decide)) (passes_call (takes_of rfl rfl rfl rfl) (fun _ _ _ _ h => h)) (pa_cons (pe_ix ix_seq (pv 6) pe_int (fun _ _ => rfl)) (pa_cons (pe_ix ix_seq (pv 6) pe_int (fun _ _ => rfl)) pa_nil))) pa_nil))))
    (pss_cons (ps_if (PW.pt (pw_or (pt_not (pt_val (pe_callF F__law_whole (hr.mono (by decide)) (passes_call (takes_of rfl rfl rfl rfl) (fun _ _ _ _ h => h)) (pa_cons (pe_ix ix_seq (pv 7) pe_int (fun _ _ => rfl)) pa_nil)))) (pw_or (pt_not (pt_val (pe_callF F__law_whole (hr.mono (by decide)) (passes_call (takes_of rfl rfl rfl rfl) (fun _ _ _ _ h => h)) (pa_cons (pe_ix ix_seq (pv 7) pe_int (fun _ _ => rfl)) pa_nil)))) (pw_or (pt_cmpR (op_neU hr.units) (pv 7) (pe_lst (pa_cons (pv 3) (pa_cons (pv 4) pa_nil))) (nomark _)) (pw_or1 (pt_cmpR (op_neLL hr) (pv 6) (pe_lst (pa_cons (pv 1) (pa_cons (pv 2) pa_nil))) (nomark _)))))))
    (pss_one (ps_ret pe_bl))
    pss_nil)
    (pss_cons (ps_set (i := 8) sc_law.nd rfl (Or.inl rfl) (pe_callF F__law_well (hr.mono (by decide)) (passes_call (takes_of rfl rfl rfl rfl) (fun _ _ _ _ h => h)) (pa_cons (pv 0) (pa_cons pe_int pa_nil))))
    (pss_cons (ps_if (pt_cmpR (op_neDD hr) (pv 1) (pe_frzA pe_dnewK) (nomark _))
    (pss_cons (ps_for (passes_of rfl) rfl (pi_seq (pe_callF F__law_spoilt (hr.mono (by decide)) (passes_call (takes_of rfl rfl rfl rfl) (fun _ _ _ _ h => h)) (pa_cons (pv 1) (pa_cons (pv 8) pa_nil)))) (pg_name (i := 9) sc_law.nd rfl (Or.inl rfl))
    (pss_one (ps_if (PW.pt (pw_or (pt_not (pt_val (pe_callF F__law_refused (hr.mono (by decide)) (passes_call (takes_of rfl rfl rfl rfl) (fun _ _ _ _ h => h)) (pa_cons pe_int (pa_cons (pv 9) (pa_cons (pv 2) pa_nil)))))) (pw_or1 (pt_not (pt_val (pe_callF F__law_refused (hr.mono (by decide)) (passes_call (takes_of rfl rfl rfl rfl) (fun _ _ _ _ h => h)) (pa_cons pe_int (pa_cons (pv 9) (pa_cons (pv 2) pa_nil)))))))))
    (pss_one (ps_ret pe_bl))
    pss_nil)))
    (pss_one (ps_for (passes_of rfl) rfl (pi_seq (pe_callF F__law_spoilt_dealings (hr.mono (by decide)) (passes_call (takes_of rfl rfl rfl rfl) (fun _ _ _ _ h => h)) (pa_cons (pv 1) (pa_cons (pv 2) (pa_cons (pv 8) pa_nil))))) (pg_name (i := 9) sc_law.nd rfl (Or.inl rfl))
    (pss_one (ps_if (pt_not (pt_val (pe_callF F__law_refused (hr.mono (by decide)) (passes_call (takes_of rfl rfl rfl rfl) (fun _ _ _ _ h => h)) (pa_cons pe_int (pa_cons (pv 1) (pa_cons (pv 9) pa_nil))))))
    (pss_one (ps_ret pe_bl))
    pss_nil)))))
    pss_nil)
    (pss_one (ps_ret (pe_and (pe_cmpR (op_eqU hr.units) (pe_callF F_dealings_many (hr.mono (by decide)) (passes_call (takes_of rfl rfl rfl rfl) (fun _ _ _ _ h => h)) (pa_cons (pe_frzA pe_dnewK) pa_nil)) pe_int (nomark _)) (pe_and (pe_cmpR (op_eqU hr.units) (pe_callF F_price_of (hr.mono (by decide)) (passes_call (takes_of rfl rfl rfl rfl) (fun _ _ _ _ h => h)) (pa_cons (pe_frzA pe_dnewK) (pa_cons (pe_frzA pe_dnewK) pa_nil))) pe_int (nomark _)) (pe_one (pe_cmpR (op_eqU hr.units) (pe_callF F_dealings_many (hr.mono (by decide)) (passes_call (takes_of rfl rfl rfl rfl) (fun _ _ _ _ h => h)) (pa_cons (pe_ix ix_seq (pv 6) pe_int (fun _ _ => rfl)) pa_nil)) (pv 3) (nomark _))))))))))))))))
end
end K53
set_option Elab.async false
set_option linter.all false
set_option maxRecDepth 100000
set_option synthInstance.maxSize 4000
set_option maxHeartbeats 4000000
open PySem PySem.Spec L2 TL
local macro_rules | `(tactic| walk_at "sle") => `(tactic| repeat' first | exact SLe.nil | refine SLe.keep ?_ | refine SLe.drop ?_)
local macro_rules | `(tactic| walk_at "sub") => `(tactic| repeat' first | exact List.Sublist.refl _ | refine List.Sublist.cons₂ _ ?_ | refine List.Sublist.cons _ ?_)
local macro_rules | `(tactic| walk_at "dd") => `(tactic| try dsimp only [List.set, List.eraseIdx])
local macro_rules | `(tactic| walk_at "cond") => `(tactic| (show SLe _ _; repeat' first | exact SLe.nil | refine SLe.keep ?_ | refine SLe.drop ?_))
namespace K53
section
variable {K : PySem.W.Frag} {mg : Str → Option Value} {D0 : Own} {F0 : Hp} {E : Ends} {X : XK}
theorem walk_is_less (T : Txt K mg) {va : Rat} {vb : Rat} (hnx : ∀ (F : Hp) (K : PySem.W.Frag) G D1, GoV E.rt F (DN K) D1 → Go E.nx F G D1) (hP : (w_is_less K X E.rt D0).W F0 (m_is_less va vb)) :
    Go (t_is_less K X E) F0 [some ((tD K eQ) va), some ((tD K eQ) vb)] D0 := by
  unfold m_is_less at hP
  exact go_retC (w := (w_is_less K X E.rt D0)) (Dd := fun _ : Unit => D0) (s := ()) (fun v _ => v) (evc_lt (evc_mul (evc_q0 (evc_var (R := (tD K eQ)) (va) rfl)) fun _ => (evc_q1 (evc_var (R := (tD K eQ)) (vb) rfl))) fun _ => (evc_mul (evc_q0 (evc_var (R := (tD K eQ)) (vb) rfl)) fun _ => (evc_q1 (evc_var (R := (tD K eQ)) (va) rfl)))) hP (fun F v s h => (show GoV _ _ _ _ from h).drop (by walk_at "sub"))
theorem pure_is_less (T : Txt K mg) (vs : List V) (H : Hp) (Q : VK) (X : XK) (h : sp_is_less K vs H Q X) : t_is_less K X { nx := fun _ H' => Q .non H', rt := Q } (L2.start N_is_less vs) H :=
  pure_ofPF (fun x F D E hrt hnx hP => by
    subst hrt
    exact walk_is_less T hnx hP) h
theorem len_is_less (K : PySem.W.Frag) : ∀ vs H Q E, sp_is_less K vs H Q E → vs.length = 2 := spP_len fun _ => rfl
theorem walk_check_menus (T : Txt K mg) {vmenus : (List (Tx × (List (Rat × Rat × Int))))} (hnx : ∀ (F : Hp) (K : PySem.W.Frag) G D1, GoV E.rt F (DN K) D1 → Go E.nx F G D1) (hP : (w_check_menus K X E.rt D0).W F0 (m_check_menus vmenus)) :
    Go (t_check_menus K X E) F0 [some ((DT kS (VP K (T3 K (tD K eQ) (tD K eQ) (tD K eI)))) vmenus), none, none, none, none] D0 := by
  unfold m_check_menus at hP
  refine go_forC (w := (w_check_menus K X E.rt D0)) (σt := Unit) (evItc_keysT kS_at (evc_var (R := (DT kS (VP K (T3 K (tD K eQ) (tD K eQ) (tD K eI))))) (vmenus) rfl)) (fun s1 => [some ((DT kS (VP K (T3 K (tD K eQ) (tD K eQ) (tD K eI)))) vmenus), none, none, none, none]) (fun s1 => D0) () (fun s1 x2 => [some ((DT kS (VP K (T3 K (tD K eQ) (tD K eQ) (tD K eI)))) vmenus), some ((tD K eS) x2), none, none, none]) hP (by walk_at "sle") (by walk_at "sub") (fun _ => trivial) (fun _ _ => evG_name) ?_ ?_
  · intro F4 t4 s1 hP
    unfold m_check_menus_k1 at hP
    walk_at "dd"
    exact hnx _ K _ _ ((show GoV _ _ _ _ from hP).drop (by walk_at "sub"))
  · intro hB4 F4 t4 x2 s1 n3 Nx hN4 hP
    unfold m_check_menus_b4 at hP
    walk_at "dd"
    refine go_seq (go_ifC (w := (w_check_menus K X E.rt D0)) (evtc_not (evtc_test (evc_chain (g := fun i j => decide (i ≤ j)) (g' := fun i j => decide (i ≤ j)) evc_int (fun _ => (evc_len sv_P (evc_dgetT dw_Z kvS (evc_var (R := (DT kS (VP K (T3 K (tD K eQ) (tD K eQ) (tD K eI))))) (vmenus) rfl) fun _ => (evc_var (R := (tD K eS)) (x2) rfl)))) fun _ => evc_int))) hP ?_ ?_)
    · intro hP
      walk_at "dd"
      exact go_raiseC (w := (w_check_menus K X E.rt D0)) rfl hP (by walk_at "sub")
    · intro hP
      walk_at "dd"
      refine go_next ?_
      walk_at "dd"
      refine go_forC (w := (w_check_menus K X E.rt D0)) (σt := Unit) (evItc_p (evc_dgetT dw_Z kvS (evc_var (R := (DT kS (VP K (T3 K (tD K eQ) (tD K eQ) (tD K eI))))) (vmenus) rfl) fun _ => (evc_var (R := (tD K eS)) (x2) rfl))) (fun s5 => [some ((DT kS (VP K (T3 K (tD K eQ) (tD K eQ) (tD K eI)))) vmenus), some ((tD K eS) x2), none, none, none]) (fun s5 => D0) () (fun s5 x6 => [some ((DT kS (VP K (T3 K (tD K eQ) (tD K eQ) (tD K eI)))) vmenus), some ((tD K eS) x2), some ((tD K eQ) x6.1), some ((tD K eQ) x6.2.1), some ((tD K eI) x6.2.2)]) hP (by walk_at "sle") (by walk_at "sub") (fun _ => trivial) (fun _ _ => (evG_tupT (evGsT_cons evG_name (evGsT_cons evG_name (evGsT_cons evG_name evGsT_nil))) rfl)) ?_ ?_
      · intro F8 t8 s5 hP
        unfold m_check_menus_k2 at hP
        walk_at "dd"
        exact (hN4 _ t8 () hP).weak (by walk_at "sle") (by walk_at "sub")
      · intro hB8 F8 t8 x6 s5 n7 Nx hN8 hP
        unfold m_check_menus_b3 at hP
        walk_at "dd"
        refine go_ifC (w := (w_check_menus K X E.rt D0)) (evtc_or (evtc_B (evc_callP (fun _ _ _ _ h => h) (evac_cons (evc_var (R := (tD K eQ)) (x6.2.1) rfl) fun _ => (evac_cons (evc_var (R := (tD K eQ)) (x6.1) rfl) fun _ => evac_nil)) (fun _ => by walk_at "sub"))) fun _ => (evtc_test (evc_lt (evc_var (R := (tD K eI)) (x6.2.2) rfl) fun _ => evc_int))) hP ?_ ?_
        · intro hP
          walk_at "dd"
          exact go_raiseC (w := (w_check_menus K X E.rt D0)) rfl hP (by walk_at "sub")
        · intro hP
          walk_at "dd"
          refine go_next ?_
          walk_at "dd"
          exact (hN8 _ (Same.refl _) () hP).weak (by walk_at "sle") (by walk_at "sub")
theorem pure_check_menus (T : Txt K mg) (vs : List V) (H : Hp) (Q : VK) (X : XK) (h : sp_check_menus K vs H Q X) : t_check_menus K X { nx := fun _ H' => Q .non H', rt := Q } (L2.start N_check_menus vs) H :=
  pure_ofPF (fun x F D E hrt hnx hP => by
    subst hrt
    exact walk_check_menus T hnx hP) h
theorem len_check_menus (K : PySem.W.Frag) : ∀ vs H Q E, sp_check_menus K vs H Q E → vs.length = 1 := spP_len fun _ => rfl
theorem walk_check_dealing (T : Txt K mg) {vmenus : (List (Tx × (List (Rat × Rat × Int))))} {vdealing : (List (Tx × Int))} (hnx : ∀ (F : Hp) (K : PySem.W.Frag) G D1, GoV E.rt F (DN K) D1 → Go E.nx F G D1) (hP : (w_check_dealing K X E.rt D0).W F0 (m_check_dealing vmenus vdealing)) :
    Go (t_check_dealing K X E) F0 [some ((DT kS (VP K (T3 K (tD K eQ) (tD K eQ) (tD K eI)))) vmenus), some ((DT kS (tD K eI)) vdealing), none] D0 := by
  unfold m_check_dealing at hP
  refine go_seq (go_dropC (w := (w_check_dealing K X E.rt D0)) (evc_callP (fun _ _ _ _ h => h) (evac_cons (evc_var (R := (DT kS (VP K (T3 K (tD K eQ) (tD K eQ) (tD K eI))))) (vmenus) rfl) fun _ => evac_nil) (fun _ => by walk_at "sub")) hP fun x1 hP => ?_)
  walk_at "dd"
  refine go_seq (go_ifC (w := (w_check_dealing K X E.rt D0)) (evtc_test (evc_ne (enc_L enc_S) (evc_weak (R' := tD K (eL eS)) (evc_sortDT dw_Z (evc_var (R := (DT kS (VP K (T3 K (tD K eQ) (tD K eQ) (tD K eI))))) (vmenus) rfl)) (d_L (R := (tD K eS)) (e := eS) (d_b (e := eS)))) fun _ => (evc_weak (R' := tD K (eL eS)) (evc_sortDT dw_Z (evc_var (R := (DT kS (tD K eI))) (vdealing) rfl)) (d_L (R := (tD K eS)) (e := eS) (d_b (e := eS)))))) hP ?_ ?_)
  · intro hP
    walk_at "dd"
    exact go_raiseC (w := (w_check_dealing K X E.rt D0)) rfl hP (by walk_at "sub")
  · intro hP
    walk_at "dd"
    refine go_next ?_
    walk_at "dd"
    refine go_forC (w := (w_check_dealing K X E.rt D0)) (σt := Unit) (evItc_keysT kS_at (evc_var (R := (DT kS (VP K (T3 K (tD K eQ) (tD K eQ) (tD K eI))))) (vmenus) rfl)) (fun s2 => [some ((DT kS (VP K (T3 K (tD K eQ) (tD K eQ) (tD K eI)))) vmenus), some ((DT kS (tD K eI)) vdealing), none]) (fun s2 => D0) () (fun s2 x3 => [some ((DT kS (VP K (T3 K (tD K eQ) (tD K eQ) (tD K eI)))) vmenus), some ((DT kS (tD K eI)) vdealing), some ((tD K eS) x3)]) hP (by walk_at "sle") (by walk_at "sub") (fun _ => trivial) (fun _ _ => evG_name) ?_ ?_
    · intro F5 t5 s2 hP
      unfold m_check_dealing_k1 at hP
      walk_at "dd"
      exact hnx _ K _ _ ((show GoV _ _ _ _ from hP).drop (by walk_at "sub"))
    · intro hB5 F5 t5 x3 s2 n4 Nx hN5 hP
      unfold m_check_dealing_b2 at hP
      walk_at "dd"
      refine go_ifC (w := (w_check_dealing K X E.rt D0)) (evtc_not (evtc_test (evc_chainM (g := fun i j => decide (i ≤ j)) (g' := fun i j => decide (i < j)) evc_int (fun _ => (evc_dgetT dw_Z kvS (evc_var (R := (DT kS (tD K eI))) (vdealing) rfl) fun _ => (evc_var (R := (tD K eS)) (x3) rfl))) fun _ => (evc_len sv_P (evc_dgetT dw_Z kvS (evc_var (R := (DT kS (VP K (T3 K (tD K eQ) (tD K eQ) (tD K eI))))) (vmenus) rfl) fun _ => (evc_var (R := (tD K eS)) (x3) rfl)))))) hP ?_ ?_
      · intro hP
        walk_at "dd"
        exact go_raiseC (w := (w_check_dealing K X E.rt D0)) rfl hP (by walk_at "sub")
      · intro hP
        walk_at "dd"
        refine go_next ?_
        walk_at "dd"
        exact (hN5 _ (Same.refl _) () hP).weak (by walk_at "sle") (by walk_at "sub")
theorem pure_check_dealing (T : Txt K mg) (vs : List V) (H : Hp) (Q : VK) (X : XK) (h : sp_check_dealing K vs H Q X) : t_check_dealing K X { nx := fun _ H' => Q .non H', rt := Q } (L2.start N_check_dealing vs) H :=
  pure_ofPF (fun x F D E hrt hnx hP => by
    subst hrt
    exact walk_check_dealing T hnx hP) h
theorem len_check_dealing (K : PySem.W.Frag) : ∀ vs H Q E, sp_check_dealing K vs H Q E → vs.length = 2 := spP_len fun _ => rfl
theorem walk_dealings_many (T : Txt K mg) {vmenus : (List (Tx × (List (Rat × Rat × Int))))} (hnx : ∀ (F : Hp) (K : PySem.W.Frag) G D1, GoV E.rt F (DN K) D1 → Go E.nx F G D1) (hP : (w_dealings_many K X E.rt D0).W F0 (m_dealings_many vmenus)) :
    Go (t_dealings_many K X E) F0 [some ((DT kS (VP K (T3 K (tD K eQ) (tD K eQ) (tD K eI)))) vmenus), none, none] D0 := by
  unfold m_dealings_many at hP
  refine go_seq (go_dropC (w := (w_dealings_many K X E.rt D0)) (evc_callP (fun _ _ _ _ h => h) (evac_cons (evc_var (R := (DT kS (VP K (T3 K (tD K eQ) (tD K eQ) (tD K eI))))) (vmenus) rfl) fun _ => evac_nil) (fun _ => by walk_at "sub")) hP fun x1 hP => ?_)
  walk_at "dd"
  refine go_seq (go_setC (w := (w_dealings_many K X E.rt D0)) evc_int hP fun x2 hP => ?_)
  walk_at "dd"
  refine go_seq (go_forC (w := (w_dealings_many K X E.rt D0)) (σt := Int) (evItc_keysT kS_at (evc_var (R := (DT kS (VP K (T3 K (tD K eQ) (tD K eQ) (tD K eI))))) (vmenus) rfl)) (fun s3 => [some ((DT kS (VP K (T3 K (tD K eQ) (tD K eQ) (tD K eI)))) vmenus), some ((tD K eI) s3), none]) (fun s3 => D0) x2 (fun s3 x4 => [some ((DT kS (VP K (T3 K (tD K eQ) (tD K eQ) (tD K eI)))) vmenus), some ((tD K eI) s3), some ((tD K eS) x4)]) hP (by walk_at "sle") (by walk_at "sub") (fun _ => trivial) (fun _ _ => evG_name) ?_ ?_)
  · intro F6 t6 s3 hP
    unfold m_dealings_many_k1 at hP
    walk_at "dd"
    exact go_retC (w := (w_dealings_many K X E.rt D0)) (Dd := fun _ : Unit => D0) (s := ()) (fun v _ => v) (evc_var (R := (tD K eI)) (s3) rfl) hP (fun F v s h => (show GoV _ _ _ _ from h).drop (by walk_at "sub"))
  · intro hB6 F6 t6 x4 s3 n5 Nx hN6 hP
    unfold m_dealings_many_b2 at hP
    walk_at "dd"
    refine go_augMul (w := (w_dealings_many K X E.rt D0)) (Dd := fun _ : Unit => D0) (s := ()) (x0 := s3) (n := 1) rfl (evc_len sv_P (evc_dgetT dw_Z kvS (evc_var (R := (DT kS (VP K (T3 K (tD K eQ) (tD K eQ) (tD K eI))))) (vmenus) rfl) fun _ => (evc_var (R := (tD K eS)) (x4) rfl))) hP fun x7 hP => ?_
    walk_at "dd"
    exact (hN6 _ (Same.refl _) x7.1 hP).weak (by walk_at "sle") (by walk_at "sub")
theorem pure_dealings_many (T : Txt K mg) (vs : List V) (H : Hp) (Q : VK) (X : XK) (h : sp_dealings_many K vs H Q X) : t_dealings_many K X { nx := fun _ H' => Q .non H', rt := Q } (L2.start N_dealings_many vs) H :=
  pure_ofPF (fun x F D E hrt hnx hP => by
    subst hrt
    exact walk_dealings_many T hnx hP) h
theorem len_dealings_many (K : PySem.W.Frag) : ∀ vs H Q E, sp_dealings_many K vs H Q E → vs.length = 1 := spP_len fun _ => rfl
theorem walk_price_of (T : Txt K mg) {vmenus : (List (Tx × (List (Rat × Rat × Int))))} {vdealing : (List (Tx × Int))} (hnx : ∀ (F : Hp) (K : PySem.W.Frag) G D1, GoV E.rt F (DN K) D1 → Go E.nx F G D1) (hP : (w_price_of K X E.rt D0).W F0 (m_price_of vmenus vdealing)) :
    Go (t_price_of K X E) F0 [some ((DT kS (VP K (T3 K (tD K eQ) (tD K eQ) (tD K eI)))) vmenus), some ((DT kS (tD K eI)) vdealing), none] D0 := by
  unfold m_price_of at hP
  refine go_seq (go_dropC (w := (w_price_of K X E.rt D0)) (evc_callP (fun _ _ _ _ h => h) (evac_cons (evc_var (R := (DT kS (VP K (T3 K (tD K eQ) (tD K eQ) (tD K eI))))) (vmenus) rfl) fun _ => (evac_cons (evc_var (R := (DT kS (tD K eI))) (vdealing) rfl) fun _ => evac_nil)) (fun _ => by walk_at "sub")) hP fun x1 hP => ?_)
  walk_at "dd"
  exact go_retC (w := (w_price_of K X E.rt D0)) (Dd := fun _ : Unit => D0) (s := ()) (fun v _ => v) (evc_sum (evc_frzLT (evnc_lc0 (G1 := (fun x2 => [some ((DT kS (VP K (T3 K (tD K eQ) (tD K eQ) (tD K eI)))) vmenus), some ((DT kS (tD K eI)) vdealing), some ((tD K eS) x2)])) (evItc_keysT kS_at (evc_var (R := (DT kS (VP K (T3 K (tD K eQ) (tD K eQ) (tD K eI))))) (vmenus) rfl)) (fun _ => (evW_name (by decide))) (fun _ _ => trivial) (fun x2 _ _ => (evc_ixT (i := 2) (Rs := fun x : (Rat × Rat × Int) => [(tD K eQ) x.1, (tD K eQ) x.2.1, (tD K eI) x.2.2]) (R' := (tD K eI)) (f := fun x => x.2.2) (evc_ix sv_P (evc_dgetT dw_Z kvS (evc_var (R := (DT kS (VP K (T3 K (tD K eQ) (tD K eQ) (tD K eI))))) (vmenus) rfl) fun _ => (evc_var (R := (tD K eS)) (x2) rfl)) fun _ => (evc_dgetT dw_Z kvS (evc_var (R := (DT kS (tD K eI))) (vdealing) rfl) fun _ => (evc_var (R := (tD K eS)) (x2) rfl))) fun _ => rfl))))) hP (fun F v s h => (show GoV _ _ _ _ from h).drop (by walk_at "sub"))
theorem pure_price_of (T : Txt K mg) (vs : List V) (H : Hp) (Q : VK) (X : XK) (h : sp_price_of K vs H Q X) : t_price_of K X { nx := fun _ H' => Q .non H', rt := Q } (L2.start N_price_of vs) H :=
  pure_ofPF (fun x F D E hrt hnx hP => by
    subst hrt
    exact walk_price_of T hnx hP) h
theorem len_price_of (K : PySem.W.Frag) : ∀ vs H Q E, sp_price_of K vs H Q E → vs.length = 2 := spP_len fun _ => rfl
theorem walk__law_well (T : Txt K mg) {vscript : (List Int)} {vk : Int} (hnx : ∀ (F : Hp) (K : PySem.W.Frag) G D1, GoV E.rt F (DN K) D1 → Go E.nx F G D1) (hP : (w__law_well K X E.rt D0).W F0 (l_well vscript vk)) :
    Go (t__law_well K X E) F0 [some ((LT K (tD K eI)) vscript), some ((tD K eI) vk), none] D0 := by
  unfold l_well at hP
  refine go_seq (go_setC (w := (w__law_well K X E.rt D0)) evc_int hP fun x1 hP => ?_)
  walk_at "dd"
  refine go_seq (go_join (w := (w__law_well K X E.rt D0)) (l_well_k1 vk) (fun s2 => [some ((LT K (tD K eI)) vscript), some ((tD K eI) vk), some ((tD K eI) s2)]) (fun s2 => D0) ?_ ?_)
  · intro F3 t3 s2 hP
    unfold l_well_k1 at hP
    walk_at "dd"
    exact go_retNC (w := (w__law_well K X E.rt D0)) (Dd := fun _ : Unit => D0) (s := ()) (fun v _ => v) (evnc_lst (eval_cons (evc_intB (evc_ge (evc_abs (evc_var (R := (tD K eI)) (s2) rfl)) fun _ => (evc_powC (c := (1000000000000000000 : Int)) (by decide) (by decide +kernel)))) fun _ => (eval_cons (evc_var (R := (tD K eI)) (s2) rfl) fun _ => (eval_cons (evc_mul evc_int fun _ => (evc_var (R := (tD K eI)) (vk) rfl)) fun _ => eval_nil)))) hP (fun F v s h => (show GoN _ _ _ _ from h).drop (by walk_at "sub"))
  · intro hk3
    walk_at "dd"
    refine go_ifC (w := (w__law_well K X E.rt D0)) (evtc_test (evc_lt (evc_var (R := (tD K eI)) (vk) rfl) fun _ => (evc_len sv_LT (evc_var (R := (LT K (tD K eI))) (vscript) rfl)))) hP ?_ ?_
    · intro hP
      walk_at "dd"
      refine go_setC (w := (w__law_well K X E.rt D0)) (evc_ix sv_LT (evc_var (R := (LT K (tD K eI))) (vscript) rfl) fun _ => (evc_var (R := (tD K eI)) (vk) rfl)) hP fun x5 hP => ?_
      walk_at "dd"
      exact ((hk3 _ (Same.refl _) x5) hP).weak (by walk_at "sle") (by walk_at "sub")
    · intro hP
      walk_at "dd"
      refine go_next ?_
      walk_at "dd"
      exact ((hk3 _ (Same.refl _) x1) hP).weak (by walk_at "sle") (by walk_at "sub")
theorem pure__law_well (T : Txt K mg) (vs : List V) (H : Hp) (Q : VK) (X : XK) (h : sp__law_well K vs H Q X) : t__law_well K X { nx := fun _ H' => Q .non H', rt := Q } (L2.start N__law_well vs) H :=
  pure_ofPF (fun x F D E hrt hnx hP => by
    subst hrt
    exact walk__law_well T hnx hP) h
theorem len__law_well (K : PySem.W.Frag) : ∀ vs H Q E, sp__law_well K vs H Q E → vs.length = 2 := spP_len fun _ => rfl
theorem walk__law_take (T : Txt K mg) {vwell_here : (List Int)} {vmany : Int} {Dp : (List Int) → Own} {k : Nat} {a : Addr} (B : Bor1 Dp k a (OLT (tD K eI))) (hnx : ∀ (F : Hp) (K : PySem.W.Frag) G D1, GoV E.rt F (DN K) D1 → Go E.nx F G D1) (hP : (w__law_take K X E.rt Dp).W F0 (l_take vwell_here vmany)) :
    Go (t__law_take K X E) F0 [some (Is (.ref a)), some ((tD K eI) vmany), none, none, none] (Dp vwell_here) := by
  unfold l_take at hP
  refine go_seq (go_ifC (w := (w__law_take K X E.rt Dp)) (evtc_test (evc_eq enc_I (evc_ix (sv_O (Re := (tD K eI)) (xs := vwell_here) (fun _ => B.get1 _)) (evc_var (R := fun _ : Unit => Is (.ref a)) () rfl) fun _ => evc_int) fun _ => evc_int)) hP ?_ ?_)
  · intro hP
    walk_at "dd"
    refine go_seq (go_setC (w := (w__law_take K X E.rt Dp)) (evc_mod (evc_ix (sv_O (Re := (tD K eI)) (xs := vwell_here) (fun _ => B.get1 _)) (evc_var (R := fun _ : Unit => Is (.ref a)) () rfl) fun _ => evc_int) fun _ => (evc_var (R := (tD K eI)) (vmany) rfl)) hP fun x1 hP => ?_)
    walk_at "dd"
    refine go_seq (go_setO1 (w := (w__law_take K X E.rt Dp)) (Dd := fun _ : Unit => Dp (vwell_here)) (s := ()) (R := (tD K eI)) (xs := vwell_here) (n := 0) rfl (evc_div (evc_ix (sv_O (Re := (tD K eI)) (xs := vwell_here) (fun _ => B.get1 _)) (evc_var (R := fun _ : Unit => Is (.ref a)) () rfl) fun _ => evc_int) fun _ => (evc_var (R := (tD K eI)) (vmany) rfl)) (fun _ => evc_int) (fun _ => B.get1 _) hP fun x2 hP => ?_)
    walk_at "dd"
    rw [B.set_]
    exact go_retC (w := (w__law_take K X E.rt Dp)) (Dd := fun _ : Unit => Dp (x2.1)) (s := ()) (fun v _ => (v, x2.1)) (evc_var (R := (tD K eI)) (x1) rfl) hP (fun F v s h => (show GoV _ _ _ _ from h).drop (by walk_at "sub"))
  · intro hP
    walk_at "dd"
    refine go_next ?_
    walk_at "dd"
    refine go_seq (go_setC (w := (w__law_take K X E.rt Dp)) (evc_add (evc_ix (sv_O (Re := (tD K eI)) (xs := vwell_here) (fun _ => B.get1 _)) (evc_var (R := fun _ : Unit => Is (.ref a)) () rfl) fun _ => evc_int) fun _ => evc_int) hP fun x8 hP => ?_)
    walk_at "dd"
    refine go_seq (go_setO1 (w := (w__law_take K X E.rt Dp)) (Dd := fun _ : Unit => Dp (vwell_here)) (s := ()) (R := (tD K eI)) (xs := vwell_here) (n := 0) rfl (evc_var (R := (tD K eI)) (x8) rfl) (fun _ => evc_int) (fun _ => B.get1 _) hP fun x9 hP => ?_)
    walk_at "dd"
    rw [B.set_]
    refine go_seq (go_setC (w := (w__law_take K X E.rt Dp)) (evc_mod (evc_mul (evc_add (evc_add (evc_ix (sv_O (Re := (tD K eI)) (xs := x9.1) (fun _ => B.get1 _)) (evc_var (R := fun _ : Unit => Is (.ref a)) () rfl) fun _ => evc_int) fun _ => (evc_mul (evc_mul evc_int fun _ => (evc_var (R := (tD K eI)) (x8) rfl)) fun _ => (evc_var (R := (tD K eI)) (x8) rfl))) fun _ => (evc_var (R := (tD K eI)) (x8) rfl)) fun _ => evc_int) fun _ => evc_int) hP fun x11 hP => ?_)
    walk_at "dd"
    exact go_retC (w := (w__law_take K X E.rt Dp)) (Dd := fun _ : Unit => Dp (x9.1)) (s := ()) (fun v _ => (v, x9.1)) (evc_mod (evc_div (evc_mod (evc_add (evc_mul (evc_var (R := (tD K eI)) (x11) rfl) fun _ => evc_int) fun _ => evc_int) fun _ => evc_int) fun _ => evc_int) fun _ => (evc_var (R := (tD K eI)) (vmany) rfl)) hP (fun F v s h => (show GoV _ _ _ _ from h).drop (by walk_at "sub"))
theorem pure__law_take (T : Txt K mg) (vs : List V) (H : Hp) (Q : VK) (X : XK) (h : sp__law_take K vs H Q X) : t__law_take K X { nx := fun _ H' => Q .non H', rt := Q } (L2.start N__law_take vs) H :=
  pure_ofCF (fun x y F Dp k a E B hrt hnx hP => by
    subst hrt
    exact walk__law_take T B hnx hP) h
theorem len__law_take (K : PySem.W.Frag) : ∀ vs H Q E, sp__law_take K vs H Q E → vs.length = 2 := spC_len fun _ _ => rfl
theorem walk__law_common (T : Txt K mg) {vone : Int} {vother : Int} (hnx : ∀ (F : Hp) (K : PySem.W.Frag) G D1, GoV E.rt F (DN K) D1 → Go E.nx F G D1) (hP : (w__law_common K X E.rt D0).W F0 (l_common vone vother)) :
    Go (t__law_common K X E) F0 [some ((tD K eI) vone), some ((tD K eI) vother)] D0 := by
  unfold l_common at hP
  refine go_seq (go_whileC (w := (w__law_common K X E.rt D0)) (σt := (Int × Int)) (Mt := fun s1 kk => kk (!decide (s1.2 = (0 : Int))) ()) (mb := l_common_b2) (k := l_common_k1) (fun s1 => [some ((tD K eI) s1.1), some ((tD K eI) s1.2)]) (fun s1 => D0) (vone, vother) Res.fuel (fun s1 => (evtc_test (evc_ne enc_I (evc_var (R := (tD K eI)) (s1.2) rfl) fun _ => evc_int))) hP (by walk_at "sle") (by walk_at "sub") ?_ ?_)
  · intro F3 t3 s1 hP
    unfold l_common_k1 at hP
    walk_at "dd"
    exact go_retC (w := (w__law_common K X E.rt D0)) (Dd := fun _ : Unit => D0) (s := ()) (fun v _ => v) (evc_abs (evc_var (R := (tD K eI)) (s1.1) rfl)) hP (fun F v s h => (show GoV _ _ _ _ from h).drop (by walk_at "sub"))
  · intro hB3 F3 t3 s1 n2 Nx hN3 hP
    unfold l_common_b2 at hP
    walk_at "dd"
    refine go_parC (w := (w__law_common K X E.rt D0)) (evac_cons (evc_var (R := (tD K eI)) (s1.2) rfl) fun _ => (evac_cons (evc_mod (evc_var (R := (tD K eI)) (s1.1) rfl) fun _ => (evc_var (R := (tD K eI)) (s1.2) rfl)) fun _ => evac_nil)) hP fun x4 hP => ?_
    walk_at "dd"
    exact (hN3 _ (Same.refl _) (x4.1, x4.2) hP).weak (by walk_at "sle") (by walk_at "sub")
theorem pure__law_common (T : Txt K mg) (vs : List V) (H : Hp) (Q : VK) (X : XK) (h : sp__law_common K vs H Q X) : t__law_common K X { nx := fun _ H' => Q .non H', rt := Q } (L2.start N__law_common vs) H :=
  pure_ofPF (fun x F D E hrt hnx hP => by
    subst hrt
    exact walk__law_common T hnx hP) h
theorem len__law_common (K : PySem.W.Frag) : ∀ vs H Q E, sp__law_common K vs H Q E → vs.length = 2 := spP_len fun _ => rfl
theorem walk__law_num (T : Txt K mg) {vtop : Int} {vbottom : Int} (hnx : ∀ (F : Hp) (K : PySem.W.Frag) G D1, GoV E.rt F (DN K) D1 → Go E.nx F G D1) (hP : (w__law_num K X E.rt D0).W F0 (l_num_k58 vtop vbottom)) :
    Go (t__law_num K X E) F0 [some ((tD K eI) vtop), some ((tD K eI) vbottom), none] D0 := by
  unfold l_num_k58 at hP
  refine go_seq (go_setC (w := (w__law_num K X E.rt D0)) (evc_callP (fun _ _ _ _ h => h) (evac_cons (evc_var (R := (tD K eI)) (vtop) rfl) fun _ => (evac_cons (evc_var (R := (tD K eI)) (vbottom) rfl) fun _ => evac_nil)) (fun _ => by walk_at "sub")) hP fun x1 hP => ?_)
  walk_at "dd"
  exact go_retC (w := (w__law_num K X E.rt D0)) (Dd := fun _ : Unit => D0) (s := ()) (fun v _ => v) (evc_mkQP (evac_cons (evc_div (evc_var (R := (tD K eI)) (vtop) rfl) fun _ => (evc_var (R := (tD K eI)) (x1) rfl)) fun _ => (evac_cons (evc_div (evc_var (R := (tD K eI)) (vbottom) rfl) fun _ => (evc_var (R := (tD K eI)) (x1) rfl)) fun _ => evac_nil))) hP (fun F v s h => (show GoV _ _ _ _ from h).drop (by walk_at "sub"))
theorem pure__law_num (T : Txt K mg) (vs : List V) (H : Hp) (Q : VK) (X : XK) (h : sp__law_num K vs H Q X) : t__law_num K X { nx := fun _ H' => Q .non H', rt := Q } (L2.start N__law_num vs) H :=
  pure_ofPF (fun x F D E hrt hnx hP => by
    subst hrt
    exact walk__law_num T hnx hP) h
theorem len__law_num (K : PySem.W.Frag) : ∀ vs H Q E, sp__law_num K vs H Q E → vs.length = 2 := spP_len fun _ => rfl
theorem walk__law_word (T : Txt K mg) {vwell_here : (List Int)} {vk : Int} {Dp : (List Int) → Own} {k : Nat} {a : Addr} (B : Bor1 Dp k a (OLT (tD K eI))) (hnx : ∀ (F : Hp) (K : PySem.W.Frag) G D1, GoV E.rt F (DN K) D1 → Go E.nx F G D1) (hP : (w__law_word K X E.rt Dp).W F0 (l_word vwell_here vk)) :
    Go (t__law_word K X E) F0 [some (Is (.ref a)), some ((tD K eI) vk), none, none] (Dp vwell_here) := by
  unfold l_word at hP
  refine go_seq (go_setC (w := (w__law_word K X E.rt Dp)) (evc_strC sx_da39a3ee rfl) hP fun x1 hP => ?_)
  walk_at "dd"
  refine go_seq (go_forCS (w := (w__law_word K X E.rt Dp)) (σt := (Tx × (List Int))) (Dd := fun (s : (List Int)) => Dp s) (s := vwell_here) (evItc_rng1 (evc_callC0 (fun _ _ _ _ h => h) B (evac_cons (evc_var (R := fun _ : Unit => Is (.ref a)) () rfl) fun _ => (evac_cons evc_int fun _ => evac_nil)) (fun _ => by walk_at "sub"))) (fun s3 => [some (Is (.ref a)), some ((tD K eI) vk), some ((tD K eS) s3.1), none]) (fun s3 => Dp (s3.2)) (fun s1 => (x1, s1)) (fun s3 x4 => [some (Is (.ref a)), some ((tD K eI) vk), some ((tD K eS) s3.1), some ((tD K eI) x4)]) hP (fun _ => by walk_at "sle") (fun _ => by walk_at "sub") (fun _ => trivial) (fun _ _ => evG_name) ?_ ?_)
  · intro F6 t6 s3 hP
    unfold l_word_k1 at hP
    walk_at "dd"
    exact go_retC (w := (w__law_word K X E.rt Dp)) (Dd := fun _ : Unit => Dp (s3.2)) (s := ()) (fun v _ => (v, s3.2)) (evc_addS (evc_var (R := (tD K eS)) (s3.1) rfl) fun _ => (evc_ixS (evc_strC sx_14f39952 rfl) fun _ => (evc_var (R := (tD K eI)) (vk) rfl))) hP (fun F v s h => (show GoV _ _ _ _ from h).drop (by walk_at "sub"))
  · intro hB6 F6 t6 x4 s3 n5 Nx hN6 hP
    unfold l_word_b2 at hP
    walk_at "dd"
    refine go_setCS (w := (w__law_word K X E.rt Dp)) (Dd := fun (s : (List Int)) => Dp s) (s := s3.2) (evc_addS (evc_var (R := (tD K eS)) (s3.1) rfl) fun _ => (evc_ixS (evc_strC sx_32d10c7b rfl) fun _ => (evc_callC0 (fun _ _ _ _ h => h) B (evac_cons (evc_var (R := fun _ : Unit => Is (.ref a)) () rfl) fun _ => (evac_cons evc_int fun _ => evac_nil)) (fun _ => by walk_at "sub")))) hP fun x9 hP => ?_
    walk_at "dd"
    exact (hN6 _ (Same.refl _) (x9.1, x9.2) hP).weak (by walk_at "sle") (by walk_at "sub")
theorem pure__law_word (T : Txt K mg) (vs : List V) (H : Hp) (Q : VK) (X : XK) (h : sp__law_word K vs H Q X) : t__law_word K X { nx := fun _ H' => Q .non H', rt := Q } (L2.start N__law_word vs) H :=
  pure_ofCF (fun x y F Dp k a E B hrt hnx hP => by
    subst hrt
    exact walk__law_word T B hnx hP) h
theorem len__law_word (K : PySem.W.Frag) : ∀ vs H Q E, sp__law_word K vs H Q E → vs.length = 2 := spC_len fun _ _ => rfl
theorem walk__law_whole (T : Txt K mg) {vfound : Int} (hnx : ∀ (F : Hp) (K : PySem.W.Frag) G D1, GoV E.rt F (DN K) D1 → Go E.nx F G D1) (hP : (w__law_whole K X E.rt D0).W F0 (l_whole vfound)) :
    Go (t__law_whole K X E) F0 [some ((tD K eI) vfound)] D0 := by
  unfold l_whole at hP
  exact go_retC (w := (w__law_whole K X E.rt D0)) (Dd := fun _ : Unit => D0) (s := ()) (fun v _ => v) (evc_andV (evc_isiG (n := "int") (own := "int") (b := true) (evc_var (R := (tD K eI)) (vfound) rfl) (ty_d fun _ => rfl) (by decide +kernel)) fun _ => (evc_notV (evc_isiG (n := "bool") (own := "int") (b := false) (evc_var (R := (tD K eI)) (vfound) rfl) (ty_d fun _ => rfl) (by decide +kernel)))) hP (fun F v s h => (show GoV _ _ _ _ from h).drop (by walk_at "sub"))
theorem pure__law_whole (T : Txt K mg) (vs : List V) (H : Hp) (Q : VK) (X : XK) (h : sp__law_whole K vs H Q X) : t__law_whole K X { nx := fun _ H' => Q .non H', rt := Q } (L2.start N__law_whole vs) H :=
  pure_ofPF (fun x F D E hrt hnx hP => by
    subst hrt
    exact walk__law_whole T hnx hP) h
theorem len__law_whole (K : PySem.W.Frag) : ∀ vs H Q E, sp__law_whole K vs H Q E → vs.length = 1 := spP_len fun _ => rfl
theorem walk__law_steps (T : Txt K mg) {vwell_here : (List Int)} {vmany : Int} {Dp : (List Int) → Own} {k : Nat} {a : Addr} (B : Bor1 Dp k a (OLT (tD K eI))) (hnx : ∀ (F : Hp) (K : PySem.W.Frag) G D1, GoV E.rt F (DN K) D1 → Go E.nx F G D1) (hP : (w__law_steps K X E.rt Dp).W F0 (l_steps vwell_here vmany)) :
    Go (t__law_steps K X E) F0 [some (Is (.ref a)), some ((tD K eI) vmany), none, none, none, none, none] (Dp vwell_here) := by
  unfold l_steps at hP
  refine go_seq (go_setNC (w := (w__law_steps K X E.rt Dp)) (evnc_lst0 (R := (T3 K (tD K eQ) (tD K eQ) (tD K eI)))) hP fun x1 p2 hP => ?_)
  walk_at "dd"
  refine go_seq (go_forC (w := (w__law_steps K X E.rt Dp)) (σt := ((List (Rat × Rat × Int)) × (List Int))) (evItc_rng1 (evc_var (R := (tD K eI)) (vmany) rfl)) (fun s4 => [some (Is (.ref a)), some ((tD K eI) vmany), some (Is (.ref p2)), none, none, none, none]) (fun s4 => (p2, (OLT (T3 K (tD K eQ) (tD K eQ) (tD K eI))) (s4.1)) :: Dp (s4.2)) (x1, vwell_here) (fun s4 x5 => [some (Is (.ref a)), some ((tD K eI) vmany), some (Is (.ref p2)), some ((tD K eI) x5), none, none, none]) hP (by walk_at "sle") (by walk_at "sub") (fun _ => trivial) (fun _ _ => evG_name) ?_ ?_)
  · intro F7 t7 s4 hP
    unfold l_steps_k1 at hP
    walk_at "dd"
    refine go_frzLT (K := K) (k := 0) (i := 2) (R := (T3 K (tD K eQ) (tD K eQ) (tD K eI))) rfl rfl ?_
    walk_at "dd"
    walk_at "dd"
    exact go_retC (w := (w__law_steps K X E.rt Dp)) (Dd := fun _ : Unit => Dp (s4.2)) (s := ()) (fun v _ => (v, s4.2)) (evc_tupOf (f := id) (evc_var (R := (LT K (T3 K (tD K eQ) (tD K eQ) (tD K eI)))) (s4.1) rfl) tv_l) hP (fun F v s h => (show GoV _ _ _ _ from h).drop (by walk_at "sub"))
  · intro hB7 F7 t7 x5 s4 n6 Nx hN7 hP
    unfold l_steps_b2 at hP
    walk_at "dd"
    refine go_seq (go_setCS (w := (w__law_steps K X E.rt Dp)) (Dd := fun (s : (List Int)) => (p2, (OLT (T3 K (tD K eQ) (tD K eQ) (tD K eI))) (s4.1)) :: Dp s) (s := s4.2) (evc_sub (evc_callC0 (fun _ _ _ _ h => h) (Bor.cons B) (evac_cons (evc_var (R := fun _ : Unit => Is (.ref a)) () rfl) fun _ => (evac_cons evc_int fun _ => evac_nil)) (fun _ => by walk_at "sub")) fun _ => evc_int) hP fun x8 hP => ?_)
    walk_at "dd"
    refine go_seq (go_setCS (w := (w__law_steps K X E.rt Dp)) (Dd := fun (s : (List Int)) => (p2, (OLT (T3 K (tD K eQ) (tD K eQ) (tD K eI))) (s4.1)) :: Dp s) (s := x8.2) (evc_add (evc_var (R := (tD K eI)) (x8.1) rfl) fun _ => (evc_mul (evc_callC0 (fun _ _ _ _ h => h) (Bor.cons B) (evac_cons (evc_var (R := fun _ : Unit => Is (.ref a)) () rfl) fun _ => (evac_cons evc_int fun _ => evac_nil)) (fun _ => by walk_at "sub")) fun _ => (evc_callC0 (fun _ _ _ _ h => h) (Bor.cons B) (evac_cons (evc_var (R := fun _ : Unit => Is (.ref a)) () rfl) fun _ => (evac_cons evc_int fun _ => evac_nil)) (fun _ => by walk_at "sub")))) hP fun x9 hP => ?_)
    walk_at "dd"
    refine go_seq (go_setCS (w := (w__law_steps K X E.rt Dp)) (Dd := fun (s : (List Int)) => (p2, (OLT (T3 K (tD K eQ) (tD K eQ) (tD K eI))) (s4.1)) :: Dp s) (s := x9.2) (evc_ix sv_LT (evc_frzLT (evnc_lst (eval_cons (evc_callC0 (fun _ _ _ _ h => h) (Bor.cons B) (evac_cons (evc_var (R := fun _ : Unit => Is (.ref a)) () rfl) fun _ => (evac_cons evc_int fun _ => evac_nil)) (fun _ => by walk_at "sub")) fun _ => (eval_cons (evc_callC0 (fun _ _ _ _ h => h) (Bor.cons B) (evac_cons (evc_var (R := fun _ : Unit => Is (.ref a)) () rfl) fun _ => (evac_cons (evc_add (evc_powC (c := (100000000000000000 : Int)) (by decide) (by decide +kernel)) fun _ => evc_int) fun _ => evac_nil)) (fun _ => by walk_at "sub")) fun _ => eval_nil)))) fun _ => (evc_callC0 (fun _ _ _ _ h => h) (Bor.cons B) (evac_cons (evc_var (R := fun _ : Unit => Is (.ref a)) () rfl) fun _ => (evac_cons evc_int fun _ => evac_nil)) (fun _ => by walk_at "sub"))) hP fun x10 hP => ?_)
    walk_at "dd"
    refine go_appC (w := (w__law_steps K X E.rt Dp)) (Dd := fun _ : Unit => (p2, (OLT (T3 K (tD K eQ) (tD K eQ) (tD K eI))) (s4.1)) :: Dp (x10.2)) (s := ()) (R := (T3 K (tD K eQ) (tD K eQ) (tD K eI))) (xs := s4.1) (n := 2) rfl (evc_tupT (Rs := fun x : (Rat × Rat × Int) => [(tD K eQ) x.1, (tD K eQ) x.2.1, (tD K eI) x.2.2]) (n := 3) (g := fun (t : Rat × Rat × Int × Unit) => (t.1, t.2.1, t.2.2.1)) (evac_cons (R := (tD K eQ)) (Rs := fun (t : Rat × Int × Unit) => [(tD K eQ) t.1, (tD K eI) t.2.1]) (evc_callPE (fun _ _ _ _ h => h) (fun _ => x10.2) (evac_cons (evc_var (R := (tD K eI)) (x8.1) rfl) fun _ => (evac_cons evc_int fun _ => evac_nil)) (fun _ => by walk_at "sub")) fun _ => (evac_cons (R := (tD K eQ)) (Rs := fun (t : Int × Unit) => [(tD K eI) t.1]) (evc_callPE (fun _ _ _ _ h => h) (fun _ => x10.2) (evac_cons (evc_var (R := (tD K eI)) (x9.1) rfl) fun _ => (evac_cons evc_int fun _ => evac_nil)) (fun _ => by walk_at "sub")) fun _ => (evac_cons (R := (tD K eI)) (Rs := fun (t : Unit) => []) (evc_var (R := (tD K eI)) (x10.1) rfl) fun _ => evac_nil))) (fun _ => rfl)) (at_n 0 fun _ => rfl) hP fun x11 hP => ?_
    walk_at "dd"
    exact (hN7 _ (Same.refl _) (x11.1, x10.2) hP).weak (by walk_at "sle") (by walk_at "sub")
theorem pure__law_steps (T : Txt K mg) (vs : List V) (H : Hp) (Q : VK) (X : XK) (h : sp__law_steps K vs H Q X) : t__law_steps K X { nx := fun _ H' => Q .non H', rt := Q } (L2.start N__law_steps vs) H :=
  pure_ofCF (fun x y F Dp k a E B hrt hnx hP => by
    subst hrt
    exact walk__law_steps T B hnx hP) h
theorem len__law_steps (K : PySem.W.Frag) : ∀ vs H Q E, sp__law_steps K vs H Q E → vs.length = 2 := spC_len fun _ _ => rfl
theorem walk__law_drawn (T : Txt K mg) {vscript : (List Int)} (hnx : ∀ (F : Hp) (K : PySem.W.Frag) G D1, GoV E.rt F (DN K) D1 → Go E.nx F G D1) (hP : (w__law_drawn K X E.rt D0).W F0 (l_drawn vscript)) :
    Go (t__law_drawn K X E) F0 [some ((LT K (tD K eI)) vscript), none, none, none, none, none] D0 := by
  unfold l_drawn at hP
  refine go_seq (go_setNC (w := (w__law_drawn K X E.rt D0)) (evnc_callP (fun _ _ _ _ h => h) (evac_cons (evc_var (R := (LT K (tD K eI))) (vscript) rfl) fun _ => (evac_cons evc_int fun _ => evac_nil)) (fun _ => by walk_at "sub")) hP fun x1 p2 hP => ?_)
  walk_at "dd"
  refine go_seq (go_setNC (w := (w__law_drawn K X E.rt D0)) (evnc_dnewT (k := kS) (Rv := (VP K (T3 K (tD K eQ) (tD K eQ) (tD K eI))))) hP fun x3 p4 hP => ?_)
  walk_at "dd"
  refine go_seq (go_forCS (w := (w__law_drawn K X E.rt D0)) (σt := ((List (Tx × (List (Rat × Rat × Int)))) × (List Int))) (Dd := fun (s : (List Int)) => (p4, (OXT kS (VP K (T3 K (tD K eQ) (tD K eQ) (tD K eI)))) (x3)) :: (p2, (OLT (tD K eI)) s) :: D0) (s := x1) (evItc_rng1 (evc_callC (fun _ _ _ _ h => h) (fun _ : (List Int) => ()) (Bor.cons (Bor.here (O := (OLT (tD K eI))))) (evac_cons (evc_var (R := fun _ : Unit => Is (.ref p2)) () rfl) fun _ => (evac_cons evc_int fun _ => evac_nil)) (fun _ => by walk_at "sub"))) (fun s6 => [some ((LT K (tD K eI)) vscript), some (Is (.ref p2)), some (Is (.ref p4)), none, none, none]) (fun s6 => (p4, (OXT kS (VP K (T3 K (tD K eQ) (tD K eQ) (tD K eI)))) (s6.1)) :: (p2, (OLT (tD K eI)) (s6.2)) :: D0) (fun s1 => (x3, s1)) (fun s6 x7 => [some ((LT K (tD K eI)) vscript), some (Is (.ref p2)), some (Is (.ref p4)), some ((tD K eI) x7), none, none]) hP (fun _ => by walk_at "sle") (fun _ => by walk_at "sub") (fun _ => trivial) (fun _ _ => evG_name) ?_ ?_)
  · intro F9 t9 s6 hP
    unfold l_drawn_k3 at hP
    walk_at "dd"
    refine go_seq (go_setNC (w := (w__law_drawn K X E.rt D0)) (evnc_dnewT (k := kS) (Rv := (tD K eI))) hP fun x10 p11 hP => ?_)
    walk_at "dd"
    refine go_seq ?_
    walk_at "dd"
    refine go_frzDT (j := 1) (i := 2) (k := kS) (Rv := (VP K (T3 K (tD K eQ) (tD K eQ) (tD K eI)))) rfl rfl ?_
    walk_at "dd"
    refine go_forC (w := (w__law_drawn K X E.rt D0)) (σt := ((List (Tx × Int)) × (List Int))) (evItc_keysT kS_at (evc_var (R := (DT kS (VP K (T3 K (tD K eQ) (tD K eQ) (tD K eI))))) (s6.1) rfl)) (fun s12 => [some ((LT K (tD K eI)) vscript), some (Is (.ref p2)), some ((DT kS (VP K (T3 K (tD K eQ) (tD K eQ) (tD K eI)))) s6.1), none, some (Is (.ref p11)), none]) (fun s12 => (p11, (OXT kS (tD K eI)) (s12.1)) :: (p2, (OLT (tD K eI)) (s12.2)) :: D0) (x10, s6.2) (fun s12 x13 => [some ((LT K (tD K eI)) vscript), some (Is (.ref p2)), some ((DT kS (VP K (T3 K (tD K eQ) (tD K eQ) (tD K eI)))) s6.1), none, some (Is (.ref p11)), some ((tD K eS) x13)]) hP (by walk_at "sle") (by walk_at "sub") (fun _ => trivial) (fun _ _ => evG_name) ?_ ?_
    · intro F15 t15 s12 hP
      unfold l_drawn_k1 at hP
      walk_at "dd"
      refine go_frzDT (j := 0) (i := 4) (k := kS) (Rv := (tD K eI)) rfl rfl ?_
      walk_at "dd"
      exact go_retC (w := (w__law_drawn K X E.rt D0)) (Dd := fun _ : Unit => (p2, (OLT (tD K eI)) (s12.2)) :: D0) (s := ()) (fun v _ => v) (evc_tupT (Rs := fun x : ((List (Tx × (List (Rat × Rat × Int)))) × (List (Tx × Int))) => [(DT kS (VP K (T3 K (tD K eQ) (tD K eQ) (tD K eI)))) x.1, (DT kS (tD K eI)) x.2]) (n := 2) (g := fun (t : (List (Tx × (List (Rat × Rat × Int)))) × (List (Tx × Int)) × Unit) => (t.1, t.2.1)) (evac_cons (R := (DT kS (VP K (T3 K (tD K eQ) (tD K eQ) (tD K eI))))) (Rs := fun (t : (List (Tx × Int)) × Unit) => [(DT kS (tD K eI)) t.1]) (evc_var (R := (DT kS (VP K (T3 K (tD K eQ) (tD K eQ) (tD K eI))))) (s6.1) rfl) fun _ => (evac_cons (R := (DT kS (tD K eI))) (Rs := fun (t : Unit) => []) (evc_var (R := (DT kS (tD K eI))) (s12.1) rfl) fun _ => evac_nil)) (fun _ => rfl)) hP (fun F v s h => (show GoV _ _ _ _ from h).drop (by walk_at "sub"))
    · intro hB15 F15 t15 x13 s12 n14 Nx hN15 hP
      unfold l_drawn_b2 at hP
      walk_at "dd"
      refine go_dputT (w := (w__law_drawn K X E.rt D0)) (Dd := fun (s : (List Int)) => (p11, (OXT kS (tD K eI)) (s12.1)) :: (p2, (OLT (tD K eI)) s) :: D0) (s := s12.2) (k := kS) (Rv := (tD K eI)) (m := s12.1) (hkv := kvS) (n := 4) rfl (evc_callC (fun _ _ _ _ h => h) (fun _ : (List Int) => ()) (Bor.cons (Bor.here (O := (OLT (tD K eI))))) (evac_cons (evc_var (R := fun _ : Unit => Is (.ref p2)) () rfl) fun _ => (evac_cons (evc_len sv_P (evc_dgetT dw_Z kvS (evc_var (R := (DT kS (VP K (T3 K (tD K eQ) (tD K eQ) (tD K eI))))) (s6.1) rfl) fun _ => (evc_var (R := (tD K eS)) (x13) rfl))) fun _ => evac_nil)) (fun _ => by walk_at "sub")) (fun _ => (evc_var (R := (tD K eS)) (x13) rfl)) (at_n 0 fun _ => rfl) hP fun x16 hP => ?_
      walk_at "dd"
      exact (hN15 _ (Same.refl _) (x16.1, x16.2) hP).weak (by walk_at "sle") (by walk_at "sub")
  · intro hB9 F9 t9 x7 s6 n8 Nx hN9 hP
    unfold l_drawn_b4 at hP
    walk_at "dd"
    refine go_dputT (w := (w__law_drawn K X E.rt D0)) (Dd := fun (s : (List Int)) => (p4, (OXT kS (VP K (T3 K (tD K eQ) (tD K eQ) (tD K eI)))) (s6.1)) :: (p2, (OLT (tD K eI)) s) :: D0) (s := s6.2) (k := kS) (Rv := (VP K (T3 K (tD K eQ) (tD K eQ) (tD K eI)))) (m := s6.1) (hkv := kvS) (n := 2) rfl (evc_callC (fun _ _ _ _ h => h) (fun _ : (List Int) => ()) (Bor.cons (Bor.here (O := (OLT (tD K eI))))) (evac_cons (evc_var (R := fun _ : Unit => Is (.ref p2)) () rfl) fun _ => (evac_cons (evc_add evc_int fun _ => (evc_callC (fun _ _ _ _ h => h) (fun _ : (List Int) => ()) (Bor.cons (Bor.here (O := (OLT (tD K eI))))) (evac_cons (evc_var (R := fun _ : Unit => Is (.ref p2)) () rfl) fun _ => (evac_cons evc_int fun _ => evac_nil)) (fun _ => by walk_at "sub"))) fun _ => evac_nil)) (fun _ => by walk_at "sub")) (fun _ => (evc_addS (evc_addS (evc_callC (fun _ _ _ _ h => h) (fun _ : (List Int) => ()) (Bor.cons (Bor.here (O := (OLT (tD K eI))))) (evac_cons (evc_var (R := fun _ : Unit => Is (.ref p2)) () rfl) fun _ => (evac_cons (evc_var (R := (tD K eI)) (x7) rfl) fun _ => evac_nil)) (fun _ => by walk_at "sub")) fun _ => (evc_strC sx_3a52ce78 rfl)) fun _ => (evc_callC (fun _ _ _ _ h => h) (fun _ : (List Int) => ()) (Bor.cons (Bor.here (O := (OLT (tD K eI))))) (evac_cons (evc_var (R := fun _ : Unit => Is (.ref p2)) () rfl) fun _ => (evac_cons evc_int fun _ => evac_nil)) (fun _ => by walk_at "sub")))) (at_n 0 fun _ => rfl) hP fun x19 hP => ?_
    walk_at "dd"
    exact (hN9 _ (Same.refl _) (x19.1, x19.2) hP).weak (by walk_at "sle") (by walk_at "sub")
theorem pure__law_drawn (T : Txt K mg) (vs : List V) (H : Hp) (Q : VK) (X : XK) (h : sp__law_drawn K vs H Q X) : t__law_drawn K X { nx := fun _ H' => Q .non H', rt := Q } (L2.start N__law_drawn vs) H :=
  pure_ofPF (fun x F D E hrt hnx hP => by
    subst hrt
    exact walk__law_drawn T hnx hP) h
theorem len__law_drawn (K : PySem.W.Frag) : ∀ vs H Q E, sp__law_drawn K vs H Q E → vs.length = 1 := spP_len fun _ => rfl
theorem walk__law_refused (T : Txt K mg) {vway : Int} {vmenus : (List (Tx × (List (Rat × Rat × Int))))} {vdealing : (List (Tx × Int))} (hnx : ∀ (F : Hp) (K : PySem.W.Frag) G D1, GoV E.rt F (DN K) D1 → Go E.nx F G D1) (hP : (w__law_refused K X E.rt D0).W F0 (l_refused_k53 vway vmenus vdealing)) :
    Go (t__law_refused K X E) F0 [some ((tD K eI) vway), some ((DT kS (VP K (T3 K (tD K eQ) (tD K eQ) (tD K eI)))) vmenus), some ((DT kS (tD K eI)) vdealing), none, none] D0 := by
  unfold l_refused_k53 at hP
  refine go_seq (go_setNC (w := (w__law_refused K X E.rt D0)) (evnc_lst0 (R := (tD K eB))) hP fun x1 p2 hP => ?_)
  walk_at "dd"
  refine go_frzLT (K := K) (k := 0) (i := 3) (R := (tD K eB)) rfl rfl ?_
  walk_at "dd"
  walk_at "dd"
  refine go_seq (go_tryC (w := (w__law_refused K X E.rt D0)) [some ((tD K eI) vway), some ((DT kS (VP K (T3 K (tD K eQ) (tD K eQ) (tD K eI)))) vmenus), some ((DT kS (tD K eI)) vdealing), some ((LT K (tD K eB)) x1), none] (fun s5 => [some ((tD K eI) vway), some ((DT kS (VP K (T3 K (tD K eQ) (tD K eQ) (tD K eI)))) vmenus), some ((DT kS (tD K eI)) vdealing), some ((LT K (tD K eB)) s5), none]) T.xe_NoDealing (by walk_at "sub") (fun _ _ _ h => h) hP (by first | exact trivial | walk_at "cond") (by walk_at "sle") ?_ ?_ ?_)
  · intro F3 t3 s5 hP
    unfold l_refused_k53_k1 at hP
    walk_at "dd"
    exact go_retC (w := (w__law_refused K X E.rt D0)) (Dd := fun _ : Unit => D0) (s := ()) (fun v _ => v) (evc_eq (enc_L enc_B) (evc_weak (R' := tD K (eL eB)) (evc_var (R := (LT K (tD K eB))) (s5) rfl) (d_L (R := (tD K eB)) (e := eB) (d_b (e := eB)))) fun _ => (evc_weak (R' := tD K (eL eB)) (evc_frzLT (evnc_lst (eval_cons evc_bl fun _ => (eval_cons evc_bl fun _ => (eval_cons evc_bl fun _ => (eval_cons evc_bl fun _ => eval_nil)))))) (d_L (R := (tD K eB)) (e := eB) (d_b (e := eB))))) hP (fun F v s h => (show GoV _ _ _ _ from h).drop (by walk_at "sub"))
  · intro hk3 F3h t3h n4 hP
    walk_at "dd"
    unfold l_refused_k53_h2 at hP
    walk_at "dd"
    walk_at "dd"
    refine go_seq (go_setNC (w := (w__law_refused K X E.rt D0)) (evnc_lst (eval_cons (evc_isX (n := n4) rfl T.x_all T.xi_FitError (.own _) rfl) fun _ => (eval_cons (evc_isX (n := n4) rfl T.x_all T.xi_ValueError (.ty _) rfl) fun _ => eval_nil))) hP fun x6 p7 hP => ?_)
    walk_at "dd"
    refine go_seq (go_appC (w := (w__law_refused K X E.rt D0)) (Dd := fun _ : Unit => (p7, (OLT (tD K eB)) (x6)) :: D0) (s := ()) (R := (tD K eB)) (xs := x6) (n := 3) rfl (evc_isXT (n := n4) rfl T.x_all T.xa_0592de21 (by simp) rfl) (at_n 0 fun _ => rfl) hP fun x8 hP => ?_)
    walk_at "dd"
    refine go_appC (w := (w__law_refused K X E.rt D0)) (Dd := fun _ : Unit => (p7, (OLT (tD K eB)) (x8.1)) :: D0) (s := ()) (R := (tD K eB)) (xs := x8.1) (n := 3) rfl (evc_isXT (n := n4) rfl T.x_all T.xa_9cbeb521 (by simp) rfl) (at_n 0 fun _ => rfl) hP fun x9 hP => ?_
    walk_at "dd"
    refine go_frzLT (K := K) (k := 0) (i := 3) (R := (tD K eB)) rfl rfl ?_
    walk_at "dd"
    walk_at "dd"
    refine go_unset ?_
    walk_at "dd"
    walk_at "dd"
    exact ((hk3 _ t3h x9.1) hP).weak (by walk_at "sle") (by walk_at "sub")
  · intro hk3 W3 err3 hP
    walk_at "dd"
    walk_at "dd"
    refine go_join (w := tryWish (w__law_refused K X E.rt D0) W3 F0 D0 [some ((tD K eI) vway), some ((DT kS (VP K (T3 K (tD K eQ) (tD K eQ) (tD K eI)))) vmenus), some ((DT kS (tD K eI)) vdealing), some ((LT K (tD K eB)) x1), none] xl_a7d8e757 l_refused_k53_h2 () l_refused_k53_k1 err3) (l_refused_k53_k3 x1) (fun s14 => [some ((tD K eI) vway), some ((DT kS (VP K (T3 K (tD K eQ) (tD K eQ) (tD K eI)))) vmenus), some ((DT kS (tD K eI)) vdealing), some ((LT K (tD K eB)) x1), none]) (fun s14 => D0) ?_ ?_
    · intro F15 t15 s14 hP
      unfold l_refused_k53_k3 at hP
      walk_at "dd"
      exact ((hk3 _ t15 x1) hP).weak (by walk_at "sle") (by walk_at "sub")
    · intro hk15
      walk_at "dd"
      refine go_ifC (w := tryWish (w__law_refused K X E.rt D0) W3 F0 D0 [some ((tD K eI) vway), some ((DT kS (VP K (T3 K (tD K eQ) (tD K eQ) (tD K eI)))) vmenus), some ((DT kS (tD K eI)) vdealing), some ((LT K (tD K eB)) x1), none] xl_a7d8e757 l_refused_k53_h2 () l_refused_k53_k1 err3) (evtc_test (evc_eq enc_I (evc_var (R := (tD K eI)) (vway) rfl) fun _ => evc_int)) hP ?_ ?_
      · intro hP
        walk_at "dd"
        refine go_dropC (w := tryWish (w__law_refused K X E.rt D0) W3 F0 D0 [some ((tD K eI) vway), some ((DT kS (VP K (T3 K (tD K eQ) (tD K eQ) (tD K eI)))) vmenus), some ((DT kS (tD K eI)) vdealing), some ((LT K (tD K eB)) x1), none] xl_a7d8e757 l_refused_k53_h2 () l_refused_k53_k1 err3) (evc_callX (f := fun y => y) (fun _ _ _ _ h => h) (fun _ => ()) (evac_cons (evc_var (R := (DT kS (VP K (T3 K (tD K eQ) (tD K eQ) (tD K eI))))) (vmenus) rfl) fun _ => evac_nil) (fun _ => by walk_at "sub") hd0) hP fun x16 hP => ?_
        walk_at "dd"
        exact ((hk15 _ (Same.refl _) ()) hP).weak (by walk_at "sle") (by walk_at "sub")
      · intro hP
        walk_at "dd"
        refine go_dropC (w := tryWish (w__law_refused K X E.rt D0) W3 F0 D0 [some ((tD K eI) vway), some ((DT kS (VP K (T3 K (tD K eQ) (tD K eQ) (tD K eI)))) vmenus), some ((DT kS (tD K eI)) vdealing), some ((LT K (tD K eB)) x1), none] xl_a7d8e757 l_refused_k53_h2 () l_refused_k53_k1 err3) (evc_callX (f := fun y => y) (fun _ _ _ _ h => h) (fun _ => ()) (evac_cons (evc_var (R := (DT kS (VP K (T3 K (tD K eQ) (tD K eQ) (tD K eI))))) (vmenus) rfl) fun _ => (evac_cons (evc_var (R := (DT kS (tD K eI))) (vdealing) rfl) fun _ => evac_nil)) (fun _ => by walk_at "sub") hd0) hP fun x18 hP => ?_
        walk_at "dd"
        exact ((hk15 _ (Same.refl _) ()) hP).weak (by walk_at "sle") (by walk_at "sub")
theorem pure__law_refused (T : Txt K mg) (vs : List V) (H : Hp) (Q : VK) (X : XK) (h : sp__law_refused K vs H Q X) : t__law_refused K X { nx := fun _ H' => Q .non H', rt := Q } (L2.start N__law_refused vs) H :=
  pure_ofPF (fun x F D E hrt hnx hP => by
    subst hrt
    exact walk__law_refused T hnx hP) h
theorem len__law_refused (K : PySem.W.Frag) : ∀ vs H Q E, sp__law_refused K vs H Q E → vs.length = 3 := spP_len fun _ => rfl
theorem walk__law_spoilt (T : Txt K mg) {vmenus : (List (Tx × (List (Rat × Rat × Int))))} {vwell_here : (List Int)} {Dp : (List Int) → Own} {k : Nat} {a : Addr} (B : Bor1 Dp k a (OLT (tD K eI))) (hnx : ∀ (F : Hp) (K : PySem.W.Frag) G D1, GoV E.rt F (DN K) D1 → Go E.nx F G D1) (hP : (w__law_spoilt K X E.rt Dp).W F0 (l_spoilt vmenus vwell_here)) :
    Go (t__law_spoilt K X E) F0 [some ((DT kS (VP K (T3 K (tD K eQ) (tD K eQ) (tD K eI)))) vmenus), some (Is (.ref a)), none, none, none, none, none, none, none, none, none, none, none, none] (Dp vwell_here) := by
  unfold l_spoilt at hP
  refine go_seq (go_setCS (w := (w__law_spoilt K X E.rt Dp)) (Dd := fun (s : (List Int)) => Dp s) (s := vwell_here) (evc_ix sv_LT (evc_sortDT dw_Z (evc_var (R := (DT kS (VP K (T3 K (tD K eQ) (tD K eQ) (tD K eI))))) (vmenus) rfl)) fun _ => (evc_callC0 (fun _ _ _ _ h => h) B (evac_cons (evc_var (R := fun _ : Unit => Is (.ref a)) () rfl) fun _ => (evac_cons (evc_lenD dw_Z (evc_var (R := (DT kS (VP K (T3 K (tD K eQ) (tD K eQ) (tD K eI))))) (vmenus) rfl)) fun _ => evac_nil)) (fun _ => by walk_at "sub"))) hP fun x1 hP => ?_)
  walk_at "dd"
  refine go_seq (go_setC (w := (w__law_spoilt K X E.rt Dp)) (evc_dgetT dw_Z kvS (evc_var (R := (DT kS (VP K (T3 K (tD K eQ) (tD K eQ) (tD K eI))))) (vmenus) rfl) fun _ => (evc_var (R := (tD K eS)) (x1.1) rfl)) hP fun x2 hP => ?_)
  walk_at "dd"
  refine go_seq (go_setCS (w := (w__law_spoilt K X E.rt Dp)) (Dd := fun (s : (List Int)) => Dp s) (s := x1.2) (evc_callC0 (fun _ _ _ _ h => h) B (evac_cons (evc_var (R := fun _ : Unit => Is (.ref a)) () rfl) fun _ => (evac_cons (evc_len sv_P (evc_var (R := (VP K (T3 K (tD K eQ) (tD K eQ) (tD K eI)))) (x2) rfl)) fun _ => evac_nil)) (fun _ => by walk_at "sub")) hP fun x3 hP => ?_)
  walk_at "dd"
  refine go_seq (go_asgC (i := 0) (w := (w__law_spoilt K X E.rt Dp)) (Gx := fun x4 => [some ((DT kS (VP K (T3 K (tD K eQ) (tD K eQ) (tD K eI)))) vmenus), some (Is (.ref a)), some ((tD K eS) x1.1), some ((VP K (T3 K (tD K eQ) (tD K eQ) (tD K eI))) x2), some ((tD K eI) x3.1), some ((tD K eQ) x4.1), some ((tD K eQ) x4.2.1), some ((tD K eI) x4.2.2), none, none, none, none, none, none]) (evc_ix sv_P (evc_var (R := (VP K (T3 K (tD K eQ) (tD K eQ) (tD K eI)))) (x2) rfl) fun _ => (evc_var (R := (tD K eI)) (x3.1) rfl)) (fun _ => (evG_tupT (evGsT_cons evG_name (evGsT_cons evG_name (evGsT_cons evG_name evGsT_nil))) rfl)) hP fun x4 hP => ?_)
  walk_at "dd"
  refine go_seq (go_setCS (w := (w__law_spoilt K X E.rt Dp)) (Dd := fun (s : (List Int)) => Dp s) (s := x3.2) (evc_callPE (fun _ _ _ _ h => h) (fun s => s) (evac_cons (evc_sub (evc_q0 (evc_var (R := (tD K eQ)) (x4.1) rfl)) fun _ => (evc_mul (evc_q1 (evc_var (R := (tD K eQ)) (x4.1) rfl)) fun _ => (evc_add evc_int fun _ => (evc_callC0 (fun _ _ _ _ h => h) B (evac_cons (evc_var (R := fun _ : Unit => Is (.ref a)) () rfl) fun _ => (evac_cons evc_int fun _ => evac_nil)) (fun _ => by walk_at "sub"))))) fun _ => (evac_cons (evc_q1 (evc_var (R := (tD K eQ)) (x4.1) rfl)) fun _ => evac_nil)) (fun _ => by walk_at "sub")) hP fun x5 hP => ?_)
  walk_at "dd"
  refine go_seq (go_setNC (w := (w__law_spoilt K X E.rt Dp)) (evnc_lst0 (R := (VP K (T3 K (tD K eQ) (tD K eQ) (tD K eI))))) hP fun x6 p7 hP => ?_)
  walk_at "dd"
  refine go_seq (go_forCS (w := (w__law_spoilt K X E.rt Dp)) (σt := ((List (List (Rat × Rat × Int))) × (List Int))) (Dd := fun (s : (List Int)) => (p7, (OLT (VP K (T3 K (tD K eQ) (tD K eQ) (tD K eI)))) (x6)) :: Dp s) (s := x5.2) (evItc_l (evc_frzLT (evnc_lst (eval_cons (evc_tupT (Rs := fun x : (Rat × Rat × Int) => [(tD K eQ) x.1, (tD K eQ) x.2.1, (tD K eI) x.2.2]) (n := 3) (g := fun (t : Rat × Rat × Int × Unit) => (t.1, t.2.1, t.2.2.1)) (evac_cons (R := (tD K eQ)) (Rs := fun (t : Rat × Int × Unit) => [(tD K eQ) t.1, (tD K eI) t.2.1]) (evc_var (R := (tD K eQ)) (x4.1) rfl) fun _ => (evac_cons (R := (tD K eQ)) (Rs := fun (t : Int × Unit) => [(tD K eI) t.1]) (evc_var (R := (tD K eQ)) (x5.1) rfl) fun _ => (evac_cons (R := (tD K eI)) (Rs := fun (t : Unit) => []) (evc_var (R := (tD K eI)) (x4.2.2) rfl) fun _ => evac_nil))) (fun _ => rfl)) fun _ => (eval_cons (evc_tupT (Rs := fun x : (Rat × Rat × Int) => [(tD K eQ) x.1, (tD K eQ) x.2.1, (tD K eI) x.2.2]) (n := 3) (g := fun (t : Rat × Rat × Int × Unit) => (t.1, t.2.1, t.2.2.1)) (evac_cons (R := (tD K eQ)) (Rs := fun (t : Rat × Int × Unit) => [(tD K eQ) t.1, (tD K eI) t.2.1]) (evc_var (R := (tD K eQ)) (x4.1) rfl) fun _ => (evac_cons (R := (tD K eQ)) (Rs := fun (t : Int × Unit) => [(tD K eI) t.1]) (evc_var (R := (tD K eQ)) (x4.2.1) rfl) fun _ => (evac_cons (R := (tD K eI)) (Rs := fun (t : Unit) => []) (evc_sub (evc_neg evc_int) fun _ => (evc_callC0 (fun _ _ _ _ h => h) (Bor.cons B) (evac_cons (evc_var (R := fun _ : Unit => Is (.ref a)) () rfl) fun _ => (evac_cons (evc_powC (c := (100000000000000000 : Int)) (by decide) (by decide +kernel)) fun _ => evac_nil)) (fun _ => by walk_at "sub"))) fun _ => evac_nil))) (fun _ => rfl)) fun _ => eval_nil))))) (fun s8 => [some ((DT kS (VP K (T3 K (tD K eQ) (tD K eQ) (tD K eI)))) vmenus), some (Is (.ref a)), some ((tD K eS) x1.1), some ((VP K (T3 K (tD K eQ) (tD K eQ) (tD K eI))) x2), some ((tD K eI) x3.1), some ((tD K eQ) x4.1), some ((tD K eQ) x4.2.1), some ((tD K eI) x4.2.2), some ((tD K eQ) x5.1), some (Is (.ref p7)), none, none, none, none]) (fun s8 => (p7, (OLT (VP K (T3 K (tD K eQ) (tD K eQ) (tD K eI)))) (s8.1)) :: Dp (s8.2)) (fun s1 => (x6, s1)) (fun s8 x9 => [some ((DT kS (VP K (T3 K (tD K eQ) (tD K eQ) (tD K eI)))) vmenus), some (Is (.ref a)), some ((tD K eS) x1.1), some ((VP K (T3 K (tD K eQ) (tD K eQ) (tD K eI))) x2), some ((tD K eI) x3.1), some ((tD K eQ) x4.1), some ((tD K eQ) x4.2.1), some ((tD K eI) x4.2.2), some ((tD K eQ) x5.1), some (Is (.ref p7)), some ((T3 K (tD K eQ) (tD K eQ) (tD K eI)) x9), none, none, none]) hP (fun _ => by walk_at "sle") (fun _ => by walk_at "sub") (fun _ => trivial) (fun _ _ => evG_name) ?_ ?_)
  · intro F11 t11 s8 hP
    unfold l_spoilt_k3 at hP
    walk_at "dd"
    refine go_frzLT (K := K) (k := 0) (i := 9) (R := (VP K (T3 K (tD K eQ) (tD K eQ) (tD K eI)))) rfl rfl ?_
    walk_at "dd"
    walk_at "dd"
    refine go_seq (go_setNCS (w := (w__law_spoilt K X E.rt Dp)) (Dd := fun (s : (List Int)) => Dp s) (s := s8.2) (evnc_catV (Re := (VP K (T3 K (tD K eQ) (tD K eQ) (tD K eI)))) lv_LT lv_LT (evc_var (R := (LT K (VP K (T3 K (tD K eQ) (tD K eQ) (tD K eI))))) (s8.1) rfl) fun _ => (evc_frzLT (evnc_lst (eval_cons (evc_tupVp (R := (T3 K (tD K eQ) (tD K eQ) (tD K eI))) eval_nil) fun _ => (eval_cons (evc_callC0 (fun _ _ _ _ h => h) B (evac_cons (evc_var (R := fun _ : Unit => Is (.ref a)) () rfl) fun _ => (evac_cons evc_int fun _ => evac_nil)) (fun _ => by walk_at "sub")) fun _ => eval_nil))))) hP fun x12 p14 hP => ?_)
    walk_at "dd"
    refine go_seq (go_setNC (w := (w__law_spoilt K X E.rt Dp)) (evnc_lst0 (R := (DT kS (VP K (T3 K (tD K eQ) (tD K eQ) (tD K eI)))))) hP fun x15 p16 hP => ?_)
    walk_at "dd"
    refine go_frzLT (K := K) (k := 1) (i := 9) (R := (VP K (T3 K (tD K eQ) (tD K eQ) (tD K eI)))) rfl rfl ?_
    walk_at "dd"
    walk_at "dd"
    refine go_seq (go_forC (w := (w__law_spoilt K X E.rt Dp)) (σt := (List (List (Tx × (List (Rat × Rat × Int)))))) (evItc_l (evc_var (R := (LT K (VP K (T3 K (tD K eQ) (tD K eQ) (tD K eI))))) (x12.1) rfl)) (fun s17 => [some ((DT kS (VP K (T3 K (tD K eQ) (tD K eQ) (tD K eI)))) vmenus), some (Is (.ref a)), some ((tD K eS) x1.1), some ((VP K (T3 K (tD K eQ) (tD K eQ) (tD K eI))) x2), some ((tD K eI) x3.1), some ((tD K eQ) x4.1), some ((tD K eQ) x4.2.1), some ((tD K eI) x4.2.2), some ((tD K eQ) x5.1), some ((LT K (VP K (T3 K (tD K eQ) (tD K eQ) (tD K eI)))) x12.1), none, some (Is (.ref p16)), none, none]) (fun s17 => (p16, (OLT (DT kS (VP K (T3 K (tD K eQ) (tD K eQ) (tD K eI))))) (s17)) :: Dp (x12.2)) x15 (fun s17 x18 => [some ((DT kS (VP K (T3 K (tD K eQ) (tD K eQ) (tD K eI)))) vmenus), some (Is (.ref a)), some ((tD K eS) x1.1), some ((VP K (T3 K (tD K eQ) (tD K eQ) (tD K eI))) x2), some ((tD K eI) x3.1), some ((tD K eQ) x4.1), some ((tD K eQ) x4.2.1), some ((tD K eI) x4.2.2), some ((tD K eQ) x5.1), some ((LT K (VP K (T3 K (tD K eQ) (tD K eQ) (tD K eI)))) x12.1), none, some (Is (.ref p16)), some ((VP K (T3 K (tD K eQ) (tD K eQ) (tD K eI))) x18), none]) hP (by walk_at "sle") (by walk_at "sub") (fun _ => trivial) (fun _ _ => evG_name) ?_ ?_)
    · intro F20 t20 s17 hP
      unfold l_spoilt_k1 at hP
      walk_at "dd"
      refine go_frzLT (K := K) (k := 0) (i := 11) (R := (DT kS (VP K (T3 K (tD K eQ) (tD K eQ) (tD K eI))))) rfl rfl ?_
      walk_at "dd"
      walk_at "dd"
      exact go_retC (w := (w__law_spoilt K X E.rt Dp)) (Dd := fun _ : Unit => Dp (x12.2)) (s := ()) (fun v _ => (v, x12.2)) (evc_var (R := (LT K (DT kS (VP K (T3 K (tD K eQ) (tD K eQ) (tD K eI)))))) (s17) rfl) hP (fun F v s h => (show GoV _ _ _ _ from h).drop (by walk_at "sub"))
    · intro hB20 F20 t20 x18 s17 n19 Nx hN20 hP
      unfold l_spoilt_b2 at hP
      walk_at "dd"
      refine go_seq (go_setNC (w := (w__law_spoilt K X E.rt Dp)) (evnc_dcopyT dw_Z (evc_var (R := (DT kS (VP K (T3 K (tD K eQ) (tD K eQ) (tD K eI))))) (vmenus) rfl)) hP fun x21 p22 hP => ?_)
      walk_at "dd"
      refine go_seq (go_dputT (w := (w__law_spoilt K X E.rt Dp)) (Dd := fun _ : Unit => (p22, (OXT kS (VP K (T3 K (tD K eQ) (tD K eQ) (tD K eI)))) (x21)) :: (p16, (OLT (DT kS (VP K (T3 K (tD K eQ) (tD K eQ) (tD K eI))))) (s17)) :: Dp (x12.2)) (s := ()) (k := kS) (Rv := (VP K (T3 K (tD K eQ) (tD K eQ) (tD K eI)))) (m := x21) (hkv := kvS) (n := 13) rfl (evc_var (R := (VP K (T3 K (tD K eQ) (tD K eQ) (tD K eI)))) (x18) rfl) (fun _ => (evc_var (R := (tD K eS)) (x1.1) rfl)) (at_n 0 fun _ => rfl) hP fun x23 hP => ?_)
      walk_at "dd"
      refine go_frzDT (j := 0) (i := 13) (k := kS) (Rv := (VP K (T3 K (tD K eQ) (tD K eQ) (tD K eI)))) rfl rfl ?_
      walk_at "dd"
      refine go_appC (w := (w__law_spoilt K X E.rt Dp)) (Dd := fun _ : Unit => (p16, (OLT (DT kS (VP K (T3 K (tD K eQ) (tD K eQ) (tD K eI))))) (s17)) :: Dp (x12.2)) (s := ()) (R := (DT kS (VP K (T3 K (tD K eQ) (tD K eQ) (tD K eI))))) (xs := s17) (n := 11) rfl (evc_var (R := (DT kS (VP K (T3 K (tD K eQ) (tD K eQ) (tD K eI))))) (x23.1) rfl) (at_n 0 fun _ => rfl) hP fun x24 hP => ?_
      walk_at "dd"
      exact (hN20 _ (Same.refl _) x24.1 hP).weak (by walk_at "sle") (by walk_at "sub")
  · intro hB11 F11 t11 x9 s8 n10 Nx hN11 hP
    unfold l_spoilt_b4 at hP
    walk_at "dd"
    refine go_appC (w := (w__law_spoilt K X E.rt Dp)) (Dd := fun _ : Unit => (p7, (OLT (VP K (T3 K (tD K eQ) (tD K eQ) (tD K eI)))) (s8.1)) :: Dp (s8.2)) (s := ()) (R := (VP K (T3 K (tD K eQ) (tD K eQ) (tD K eI)))) (xs := s8.1) (n := 9) rfl (evc_catP (evc_catP (evc_slP (evc_var (R := (VP K (T3 K (tD K eQ) (tD K eQ) (tD K eI)))) (x2) rfl) (fun _ => evo_none) fun _ => (evo_some (evc_var (R := (tD K eI)) (x3.1) rfl))) fun _ => (evc_tupVp (R := (T3 K (tD K eQ) (tD K eQ) (tD K eI))) (eval_cons (evc_var (R := (T3 K (tD K eQ) (tD K eQ) (tD K eI))) (x9) rfl) fun _ => eval_nil))) fun _ => (evc_slP (evc_var (R := (VP K (T3 K (tD K eQ) (tD K eQ) (tD K eI)))) (x2) rfl) (fun _ => (evo_some (evc_add (evc_var (R := (tD K eI)) (x3.1) rfl) fun _ => evc_int))) fun _ => evo_none)) (at_n 0 fun _ => rfl) hP fun x26 hP => ?_
    walk_at "dd"
    exact (hN11 _ (Same.refl _) (x26.1, s8.2) hP).weak (by walk_at "sle") (by walk_at "sub")
theorem pure__law_spoilt (T : Txt K mg) (vs : List V) (H : Hp) (Q : VK) (X : XK) (h : sp__law_spoilt K vs H Q X) : t__law_spoilt K X { nx := fun _ H' => Q .non H', rt := Q } (L2.start N__law_spoilt vs) H :=
  pure_ofCF (fun x y F Dp k a E B hrt hnx hP => by
    subst hrt
    exact walk__law_spoilt T B hnx hP) h
theorem len__law_spoilt (K : PySem.W.Frag) : ∀ vs H Q E, sp__law_spoilt K vs H Q E → vs.length = 2 := spC_len fun _ _ => rfl
theorem walk__law_spoilt_dealings (T : Txt K mg) {vmenus : (List (Tx × (List (Rat × Rat × Int))))} {vdealing : (List (Tx × Int))} {vwell_here : (List Int)} {Dp : (List Int) → Own} {k : Nat} {a : Addr} (B : Bor1 Dp k a (OLT (tD K eI))) (hnx : ∀ (F : Hp) (K : PySem.W.Frag) G D1, GoV E.rt F (DN K) D1 → Go E.nx F G D1) (hP : (w__law_spoilt_dealings K X E.rt Dp).W F0 (l_spoilt_dealings vmenus vdealing vwell_here)) :
    Go (t__law_spoilt_dealings K X E) F0 [some ((DT kS (VP K (T3 K (tD K eQ) (tD K eQ) (tD K eI)))) vmenus), some ((DT kS (tD K eI)) vdealing), some (Is (.ref a)), none, none, none, none, none, none] (Dp vwell_here) := by
  unfold l_spoilt_dealings at hP
  refine go_seq (go_setCS (w := (w__law_spoilt_dealings K X E.rt Dp)) (Dd := fun (s : (List Int)) => Dp s) (s := vwell_here) (evc_ix sv_LT (evc_sortDT dw_Z (evc_var (R := (DT kS (VP K (T3 K (tD K eQ) (tD K eQ) (tD K eI))))) (vmenus) rfl)) fun _ => (evc_callC0 (fun _ _ _ _ h => h) B (evac_cons (evc_var (R := fun _ : Unit => Is (.ref a)) () rfl) fun _ => (evac_cons (evc_lenD dw_Z (evc_var (R := (DT kS (VP K (T3 K (tD K eQ) (tD K eQ) (tD K eI))))) (vmenus) rfl)) fun _ => evac_nil)) (fun _ => by walk_at "sub"))) hP fun x1 hP => ?_)
  walk_at "dd"
  refine go_seq (go_setNC (w := (w__law_spoilt_dealings K X E.rt Dp)) (evnc_lst0 (R := (DT kS (tD K eI)))) hP fun x2 p3 hP => ?_)
  walk_at "dd"
  refine go_seq (go_forCS (w := (w__law_spoilt_dealings K X E.rt Dp)) (σt := ((List (List (Tx × Int))) × (List Int))) (Dd := fun (s : (List Int)) => (p3, (OLT (DT kS (tD K eI))) (x2)) :: Dp s) (s := x1.2) (evItc_l (evc_frzLT (evnc_lst (eval_cons (evc_sub (evc_neg evc_int) fun _ => (evc_callC0 (fun _ _ _ _ h => h) (Bor.cons B) (evac_cons (evc_var (R := fun _ : Unit => Is (.ref a)) () rfl) fun _ => (evac_cons evc_int fun _ => evac_nil)) (fun _ => by walk_at "sub"))) fun _ => (eval_cons (evc_len sv_P (evc_dgetT dw_Z kvS (evc_var (R := (DT kS (VP K (T3 K (tD K eQ) (tD K eQ) (tD K eI))))) (vmenus) rfl) fun _ => (evc_var (R := (tD K eS)) (x1.1) rfl))) fun _ => (eval_cons (evc_add (evc_len sv_P (evc_dgetT dw_Z kvS (evc_var (R := (DT kS (VP K (T3 K (tD K eQ) (tD K eQ) (tD K eI))))) (vmenus) rfl) fun _ => (evc_var (R := (tD K eS)) (x1.1) rfl))) fun _ => (evc_callC0 (fun _ _ _ _ h => h) (Bor.cons B) (evac_cons (evc_var (R := fun _ : Unit => Is (.ref a)) () rfl) fun _ => (evac_cons evc_int fun _ => evac_nil)) (fun _ => by walk_at "sub"))) fun _ => eval_nil)))))) (fun s4 => [some ((DT kS (VP K (T3 K (tD K eQ) (tD K eQ) (tD K eI)))) vmenus), some ((DT kS (tD K eI)) vdealing), some (Is (.ref a)), some ((tD K eS) x1.1), some (Is (.ref p3)), none, none, none, none]) (fun s4 => (p3, (OLT (DT kS (tD K eI))) (s4.1)) :: Dp (s4.2)) (fun s1 => (x2, s1)) (fun s4 x5 => [some ((DT kS (VP K (T3 K (tD K eQ) (tD K eQ) (tD K eI)))) vmenus), some ((DT kS (tD K eI)) vdealing), some (Is (.ref a)), some ((tD K eS) x1.1), some (Is (.ref p3)), some ((tD K eI) x5), none, none, none]) hP (fun _ => by walk_at "sle") (fun _ => by walk_at "sub") (fun _ => trivial) (fun _ _ => evG_name) ?_ ?_)
  · intro F7 t7 s4 hP
    unfold l_spoilt_dealings_k1 at hP
    walk_at "dd"
    refine go_seq (go_setNC (w := (w__law_spoilt_dealings K X E.rt Dp)) (evnc_dcopyT dw_Z (evc_var (R := (DT kS (tD K eI))) (vdealing) rfl)) hP fun x8 p9 hP => ?_)
    walk_at "dd"
    refine go_seq (go_dropCS (w := (w__law_spoilt_dealings K X E.rt Dp)) (Dd := fun (s : (List (Tx × Int))) => (p9, (OXT kS (tD K eI)) s) :: (p3, (OLT (DT kS (tD K eI))) (s4.1)) :: Dp (s4.2)) (s := x8) (evc_dpop1 (Bor.here (O := (OXT kS (tD K eI)))) kvS rfl (evc_var (R := (tD K eS)) (x1.1) rfl)) hP fun x10 hP => ?_)
    walk_at "dd"
    refine go_seq (go_setNC (w := (w__law_spoilt_dealings K X E.rt Dp)) (evnc_dcopyT dw_Z (evc_var (R := (DT kS (tD K eI))) (vdealing) rfl)) hP fun x11 p12 hP => ?_)
    walk_at "dd"
    refine go_seq (go_dputT (w := (w__law_spoilt_dealings K X E.rt Dp)) (Dd := fun _ : Unit => (p12, (OXT kS (tD K eI)) (x11)) :: (p9, (OXT kS (tD K eI)) (x10.2)) :: (p3, (OLT (DT kS (tD K eI))) (s4.1)) :: Dp (s4.2)) (s := ()) (k := kS) (Rv := (tD K eI)) (m := x11) (hkv := kvS) (n := 8) rfl evc_int (fun _ => (evc_strC sx_d7dacae2 rfl)) (at_n 0 fun _ => rfl) hP fun x13 hP => ?_)
    walk_at "dd"
    refine go_seq ?_
    walk_at "dd"
    refine go_frzDT (j := 1) (i := 7) (k := kS) (Rv := (tD K eI)) rfl rfl ?_
    walk_at "dd"
    refine go_setNC (w := (w__law_spoilt_dealings K X E.rt Dp)) (evnc_dcopyT dw_Z (evc_var (R := (DT kS (tD K eI))) (x10.2) rfl)) hP fun x14 p15 hP => ?_
    walk_at "dd"
    refine go_seq (go_dputT (w := (w__law_spoilt_dealings K X E.rt Dp)) (Dd := fun _ : Unit => (p15, (OXT kS (tD K eI)) (x14)) :: (p12, (OXT kS (tD K eI)) (x13.1)) :: (p3, (OLT (DT kS (tD K eI))) (s4.1)) :: Dp (s4.2)) (s := ()) (k := kS) (Rv := (tD K eI)) (m := x14) (hkv := kvS) (n := 6) rfl evc_int (fun _ => (evc_strC sx_d7dacae2 rfl)) (at_n 0 fun _ => rfl) hP fun x16 hP => ?_)
    walk_at "dd"
    refine go_frzLT (K := K) (k := 2) (i := 4) (R := (DT kS (tD K eI))) rfl rfl ?_
    walk_at "dd"
    walk_at "dd"
    refine go_frzDT (j := 1) (i := 8) (k := kS) (Rv := (tD K eI)) rfl rfl ?_
    walk_at "dd"
    refine go_frzDT (j := 0) (i := 6) (k := kS) (Rv := (tD K eI)) rfl rfl ?_
    walk_at "dd"
    exact go_retC (w := (w__law_spoilt_dealings K X E.rt Dp)) (Dd := fun _ : Unit => Dp (s4.2)) (s := ()) (fun v _ => (v, s4.2)) (evc_catLT (evc_var (R := (LT K (DT kS (tD K eI)))) (s4.1) rfl) fun _ => (evc_frzLT (evnc_lst (eval_cons (evc_var (R := (DT kS (tD K eI))) (x10.2) rfl) fun _ => (eval_cons (evc_var (R := (DT kS (tD K eI))) (x13.1) rfl) fun _ => (eval_cons (evc_var (R := (DT kS (tD K eI))) (x16.1) rfl) fun _ => eval_nil)))))) hP (fun F v s h => (show GoV _ _ _ _ from h).drop (by walk_at "sub"))
  · intro hB7 F7 t7 x5 s4 n6 Nx hN7 hP
    unfold l_spoilt_dealings_b2 at hP
    walk_at "dd"
    refine go_seq (go_setNC (w := (w__law_spoilt_dealings K X E.rt Dp)) (evnc_dcopyT dw_Z (evc_var (R := (DT kS (tD K eI))) (vdealing) rfl)) hP fun x19 p20 hP => ?_)
    walk_at "dd"
    refine go_seq (go_dputT (w := (w__law_spoilt_dealings K X E.rt Dp)) (Dd := fun _ : Unit => (p20, (OXT kS (tD K eI)) (x19)) :: (p3, (OLT (DT kS (tD K eI))) (s4.1)) :: Dp (s4.2)) (s := ()) (k := kS) (Rv := (tD K eI)) (m := x19) (hkv := kvS) (n := 6) rfl (evc_var (R := (tD K eI)) (x5) rfl) (fun _ => (evc_var (R := (tD K eS)) (x1.1) rfl)) (at_n 0 fun _ => rfl) hP fun x21 hP => ?_)
    walk_at "dd"
    refine go_frzDT (j := 0) (i := 6) (k := kS) (Rv := (tD K eI)) rfl rfl ?_
    walk_at "dd"
    refine go_appC (w := (w__law_spoilt_dealings K X E.rt Dp)) (Dd := fun _ : Unit => (p3, (OLT (DT kS (tD K eI))) (s4.1)) :: Dp (s4.2)) (s := ()) (R := (DT kS (tD K eI))) (xs := s4.1) (n := 4) rfl (evc_var (R := (DT kS (tD K eI))) (x21.1) rfl) (at_n 0 fun _ => rfl) hP fun x22 hP => ?_
    walk_at "dd"
    exact (hN7 _ (Same.refl _) (x22.1, s4.2) hP).weak (by walk_at "sle") (by walk_at "sub")
theorem pure__law_spoilt_dealings (T : Txt K mg) (vs : List V) (H : Hp) (Q : VK) (X : XK) (h : sp__law_spoilt_dealings K vs H Q X) : t__law_spoilt_dealings K X { nx := fun _ H' => Q .non H', rt := Q } (L2.start N__law_spoilt_dealings vs) H :=
  pure_ofCF (fun x y F Dp k a E B hrt hnx hP => by
    subst hrt
    exact walk__law_spoilt_dealings T B hnx hP) h
theorem len__law_spoilt_dealings (K : PySem.W.Frag) : ∀ vs H Q E, sp__law_spoilt_dealings K vs H Q E → vs.length = 3 := spC_len fun _ _ => rfl
theorem walk_law (T : Txt K mg) {vscript : (List Int)} (hnx : ∀ (K : PySem.W.Frag) G D1, GoV E.rt F0 (DN K) D1 → Go E.nx F0 G D1) (hP : (w_law K X E.rt D0).W F0 (l_law_k53 vscript)) :
    Go (t_law K X E) F0 [some ((LT K (tD K eI)) vscript), none, none, none, none, none, none, none, none, none] D0 := by
  unfold l_law_k53 at hP
  refine go_seq (go_asgC (i := 0) (w := (w_law K X E.rt D0)) (Gx := fun x1 => [some ((LT K (tD K eI)) vscript), some ((DT kS (VP K (T3 K (tD K eQ) (tD K eQ) (tD K eI)))) x1.1), some ((DT kS (tD K eI)) x1.2), none, none, none, none, none, none, none]) (evc_callP (fun _ _ _ _ h => h) (evac_cons (evc_var (R := (LT K (tD K eI))) (vscript) rfl) fun _ => evac_nil) (fun _ => by walk_at "sub")) (fun _ => (evG_tupT (evGsT_cons evG_name (evGsT_cons evG_name evGsT_nil)) rfl)) hP fun x1 hP => ?_)
  walk_at "dd"
  refine go_seq (go_setC (w := (w_law K X E.rt D0)) evc_int hP fun x2 hP => ?_)
  walk_at "dd"
  refine go_seq (go_setC (w := (w_law K X E.rt D0)) evc_int hP fun x3 hP => ?_)
  walk_at "dd"
  refine go_seq (go_forC (w := (w_law K X E.rt D0)) (σt := (Int × Int)) (evItc_keysT kS_at (evc_var (R := (DT kS (VP K (T3 K (tD K eQ) (tD K eQ) (tD K eI))))) (x1.1) rfl)) (fun s4 => [some ((LT K (tD K eI)) vscript), some ((DT kS (VP K (T3 K (tD K eQ) (tD K eQ) (tD K eI)))) x1.1), some ((DT kS (tD K eI)) x1.2), some ((tD K eI) s4.1), some ((tD K eI) s4.2), none, none, none, none, none]) (fun s4 => D0) (x2, x3) (fun s4 x5 => [some ((LT K (tD K eI)) vscript), some ((DT kS (VP K (T3 K (tD K eQ) (tD K eQ) (tD K eI)))) x1.1), some ((DT kS (tD K eI)) x1.2), some ((tD K eI) s4.1), some ((tD K eI) s4.2), some ((tD K eS) x5), none, none, none, none]) hP (by walk_at "sle") (by walk_at "sub") (fun _ => trivial) (fun _ _ => evG_name) ?_ ?_)
  · intro F7 t7 s4 hP
    unfold l_law_k53_k6 at hP
    walk_at "dd"
    refine go_seq (go_setC (w := (w_law K X E.rt D0)) (evc_frzLT (evnc_lst (eval_cons (evc_conv (R' := (SU (DT kS (VP K (T3 K (tD K eQ) (tD K eQ) (tD K eI)))) (DT kS (tD K eI)))) (fun y : (List (Tx × (List (Rat × Rat × Int)))) => ((Sum.inl y) : ((List (Tx × (List (Rat × Rat × Int)))) ⊕ (List (Tx × Int))))) (evc_frzDT (evnc_dcopyT dw_Z (evc_var (R := (DT kS (VP K (T3 K (tD K eQ) (tD K eQ) (tD K eI))))) (x1.1) rfl))) (fun _ _ _ h => h)) fun _ => (eval_cons (evc_conv (R' := (SU (DT kS (VP K (T3 K (tD K eQ) (tD K eQ) (tD K eI)))) (DT kS (tD K eI)))) (fun y : (List (Tx × Int)) => ((Sum.inr y) : ((List (Tx × (List (Rat × Rat × Int)))) ⊕ (List (Tx × Int))))) (evc_frzDT (evnc_dcopyT dw_Z (evc_var (R := (DT kS (tD K eI))) (x1.2) rfl))) (fun _ _ _ h => h)) fun _ => eval_nil)))) hP fun x8 hP => ?_)
    walk_at "dd"
    refine go_seq (go_setC (w := (w_law K X E.rt D0)) (evc_frzLT (evnc_lst (eval_cons (evc_callP (fun _ _ _ _ h => h) (evac_cons (evc_prj (R' := (DT kS (VP K (T3 K (tD K eQ) (tD K eQ) (tD K eI))))) (fun x : ((List (Tx × (List (Rat × Rat × Int)))) ⊕ (List (Tx × Int))) => match x with | Sum.inl y => (some y : Option (List (Tx × (List (Rat × Rat × Int))))) | _ => none) (evc_ix sv_LT (evc_var (R := (LT K (SU (DT kS (VP K (T3 K (tD K eQ) (tD K eQ) (tD K eI)))) (DT kS (tD K eI))))) (x8) rfl) fun _ => evc_int) (fun x y v F e h => by rcases x with x | x <;> first | (cases e; exact h) | cases e)) fun _ => evac_nil) (fun _ => by walk_at "sub")) fun _ => (eval_cons (evc_callP (fun _ _ _ _ h => h) (evac_cons (evc_prj (R' := (DT kS (VP K (T3 K (tD K eQ) (tD K eQ) (tD K eI))))) (fun x : ((List (Tx × (List (Rat × Rat × Int)))) ⊕ (List (Tx × Int))) => match x with | Sum.inl y => (some y : Option (List (Tx × (List (Rat × Rat × Int))))) | _ => none) (evc_ix sv_LT (evc_var (R := (LT K (SU (DT kS (VP K (T3 K (tD K eQ) (tD K eQ) (tD K eI)))) (DT kS (tD K eI))))) (x8) rfl) fun _ => evc_int) (fun x y v F e h => by rcases x with x | x <;> first | (cases e; exact h) | cases e)) fun _ => (evac_cons (evc_prj (R' := (DT kS (tD K eI))) (fun x : ((List (Tx × (List (Rat × Rat × Int)))) ⊕ (List (Tx × Int))) => match x with | Sum.inr y => (some y : Option (List (Tx × Int))) | _ => none) (evc_ix sv_LT (evc_var (R := (LT K (SU (DT kS (VP K (T3 K (tD K eQ) (tD K eQ) (tD K eI)))) (DT kS (tD K eI))))) (x8) rfl) fun _ => evc_int) (fun x y v F e h => by rcases x with x | x <;> first | (cases e; exact h) | cases e)) fun _ => evac_nil)) (fun _ => by walk_at "sub")) fun _ => eval_nil)))) hP fun x9 hP => ?_)
    walk_at "dd"
    refine go_seq (go_ifC (w := (w_law K X E.rt D0)) (evtc_orM (evtc_not (evtc_B (evc_callP (fun _ _ _ _ h => h) (evac_cons (evc_ix sv_LT (evc_var (R := (LT K (tD K eI))) (x9) rfl) fun _ => evc_int) fun _ => evac_nil) (fun _ => by walk_at "sub")))) fun _ => (evtc_orM (evtc_not (evtc_B (evc_callP (fun _ _ _ _ h => h) (evac_cons (evc_ix sv_LT (evc_var (R := (LT K (tD K eI))) (x9) rfl) fun _ => evc_int) fun _ => evac_nil) (fun _ => by walk_at "sub")))) fun _ => (evtc_orM (evtc_test (evc_ne (enc_L enc_I) (evc_weak (R' := tD K (eL eI)) (evc_var (R := (LT K (tD K eI))) (x9) rfl) (d_L (R := (tD K eI)) (e := eI) (d_b (e := eI)))) fun _ => (evc_weak (R' := tD K (eL eI)) (evc_frzLT (evnc_lst (eval_cons (evc_var (R := (tD K eI)) (s4.1) rfl) fun _ => (eval_cons (evc_var (R := (tD K eI)) (s4.2) rfl) fun _ => eval_nil)))) (d_L (R := (tD K eI)) (e := eI) (d_b (e := eI)))))) fun _ => (evtc_test (evc_neLL (eqk_SU (eqk_DT (k := kS) (enc_V (enc_3 enc_Q enc_Q enc_I)) (d_V (R := (T3 K (tD K eQ) (tD K eQ) (tD K eI))) (e := (e3 eQ eQ eI)) (fun x => d_T (dd_cons ((d_b (e := eQ)) x.1) (dd_cons ((d_b (e := eQ)) x.2.1) (dd_cons ((d_b (e := eI)) x.2.2) dd_nil)))))) (eqk_DT (k := kS) enc_I (d_b (e := eI)))) (evc_var (R := (LT K (SU (DT kS (VP K (T3 K (tD K eQ) (tD K eQ) (tD K eI)))) (DT kS (tD K eI))))) (x8) rfl) fun _ => (evc_frzLT (evnc_lst (eval_cons (evc_conv (R' := (SU (DT kS (VP K (T3 K (tD K eQ) (tD K eQ) (tD K eI)))) (DT kS (tD K eI)))) (fun y : (List (Tx × (List (Rat × Rat × Int)))) => ((Sum.inl y) : ((List (Tx × (List (Rat × Rat × Int)))) ⊕ (List (Tx × Int))))) (evc_var (R := (DT kS (VP K (T3 K (tD K eQ) (tD K eQ) (tD K eI))))) (x1.1) rfl) (fun _ _ _ h => h)) fun _ => (eval_cons (evc_conv (R' := (SU (DT kS (VP K (T3 K (tD K eQ) (tD K eQ) (tD K eI)))) (DT kS (tD K eI)))) (fun y : (List (Tx × Int)) => ((Sum.inr y) : ((List (Tx × (List (Rat × Rat × Int)))) ⊕ (List (Tx × Int))))) (evc_var (R := (DT kS (tD K eI))) (x1.2) rfl) (fun _ _ _ h => h)) fun _ => eval_nil))))))))) hP ?_ ?_)
    · intro hP
      walk_at "dd"
      exact go_retC (w := (w_law K X E.rt D0)) (Dd := fun _ : Unit => D0) (s := ()) (fun v _ => v) evc_bl hP (fun F v s h => (show GoV _ _ _ _ from h).drop (by walk_at "sub"))
    · intro hP
      walk_at "dd"
      refine go_next ?_
      walk_at "dd"
      refine go_seq (go_setNC (w := (w_law K X E.rt D0)) (evnc_callP (fun _ _ _ _ h => h) (evac_cons (evc_var (R := (LT K (tD K eI))) (vscript) rfl) fun _ => (evac_cons evc_int fun _ => evac_nil)) (fun _ => by walk_at "sub")) hP fun x10 p11 hP => ?_)
      walk_at "dd"
      refine go_seq (go_join (w := (w_law K X E.rt D0)) (l_law_k53_k1 s4 x8) (fun s12 => [some ((LT K (tD K eI)) vscript), some ((DT kS (VP K (T3 K (tD K eQ) (tD K eQ) (tD K eI)))) x1.1), some ((DT kS (tD K eI)) x1.2), some ((tD K eI) s4.1), some ((tD K eI) s4.2), none, some ((LT K (SU (DT kS (VP K (T3 K (tD K eQ) (tD K eQ) (tD K eI)))) (DT kS (tD K eI)))) x8), some ((LT K (tD K eI)) x9), some (Is (.ref p11)), none]) (fun s12 => (p11, (OLT (tD K eI)) (s12)) :: D0) ?_ ?_)
      · intro F13 t13 s12 hP
        unfold l_law_k53_k1 at hP
        walk_at "dd"
        exact go_retC (w := (w_law K X E.rt D0)) (Dd := fun _ : Unit => (p11, (OLT (tD K eI)) (s12)) :: D0) (s := ()) (fun v _ => v) (evc_andVM (evc_eq enc_I (evc_callP (fun _ _ _ _ h => h) (evac_cons (evc_frzDT (evnc_dnewT (k := kS) (Rv := (VP K (T3 K (tD K eQ) (tD K eQ) (tD K eI)))))) fun _ => evac_nil) (fun _ => by walk_at "sub")) fun _ => evc_int) fun _ => (evc_andVM (evc_eq enc_I (evc_callP (fun _ _ _ _ h => h) (evac_cons (evc_frzDT (evnc_dnewT (k := kS) (Rv := (VP K (T3 K (tD K eQ) (tD K eQ) (tD K eI)))))) fun _ => (evac_cons (evc_frzDT (evnc_dnewT (k := kS) (Rv := (tD K eI)))) fun _ => evac_nil)) (fun _ => by walk_at "sub")) fun _ => evc_int) fun _ => (evc_eq enc_I (evc_callP (fun _ _ _ _ h => h) (evac_cons (evc_prj (R' := (DT kS (VP K (T3 K (tD K eQ) (tD K eQ) (tD K eI))))) (fun x : ((List (Tx × (List (Rat × Rat × Int)))) ⊕ (List (Tx × Int))) => match x with | Sum.inl y => (some y : Option (List (Tx × (List (Rat × Rat × Int))))) | _ => none) (evc_ix sv_LT (evc_var (R := (LT K (SU (DT kS (VP K (T3 K (tD K eQ) (tD K eQ) (tD K eI)))) (DT kS (tD K eI))))) (x8) rfl) fun _ => evc_int) (fun x y v F e h => by rcases x with x | x <;> first | (cases e; exact h) | cases e)) fun _ => evac_nil) (fun _ => by walk_at "sub")) fun _ => (evc_var (R := (tD K eI)) (s4.1) rfl)))) hP (fun F v s h => (show GoV _ _ _ _ from h).drop (by walk_at "sub"))
      · intro hk13
        walk_at "dd"
        refine go_ifC (w := (w_law K X E.rt D0)) (evtc_test (evc_neD (enc_V (enc_3 enc_Q enc_Q enc_I)) (d_V (R := (T3 K (tD K eQ) (tD K eQ) (tD K eI))) (e := (e3 eQ eQ eI)) (fun x => d_T (dd_cons ((d_b (e := eQ)) x.1) (dd_cons ((d_b (e := eQ)) x.2.1) (dd_cons ((d_b (e := eI)) x.2.2) dd_nil))))) dw_Z dw_Z (evc_var (R := (DT kS (VP K (T3 K (tD K eQ) (tD K eQ) (tD K eI))))) (x1.1) rfl) fun _ => (evc_frzDT (evnc_dnewT (k := kS) (Rv := (VP K (T3 K (tD K eQ) (tD K eQ) (tD K eI)))))))) hP ?_ ?_
        · intro hP
          walk_at "dd"
          refine go_seq (go_forCS (w := (w_law K X E.rt D0)) (σt := (List Int)) (Dd := fun (s : (List Int)) => (p11, (OLT (tD K eI)) s) :: D0) (s := x10) (evItc_l (evc_callC (fun _ _ _ _ h => h) (fun _ : (List Int) => ()) (Bor.here (O := (OLT (tD K eI)))) (evac_cons (evc_var (R := (DT kS (VP K (T3 K (tD K eQ) (tD K eQ) (tD K eI))))) (x1.1) rfl) fun _ => (evac_cons (evc_var (R := fun _ : Unit => Is (.ref p11)) () rfl) fun _ => evac_nil)) (fun _ => by walk_at "sub"))) (fun s21 => [some ((LT K (tD K eI)) vscript), some ((DT kS (VP K (T3 K (tD K eQ) (tD K eQ) (tD K eI)))) x1.1), some ((DT kS (tD K eI)) x1.2), some ((tD K eI) s4.1), some ((tD K eI) s4.2), none, some ((LT K (SU (DT kS (VP K (T3 K (tD K eQ) (tD K eQ) (tD K eI)))) (DT kS (tD K eI)))) x8), some ((LT K (tD K eI)) x9), some (Is (.ref p11)), none]) (fun s21 => (p11, (OLT (tD K eI)) (s21)) :: D0) (fun s1 => s1) (fun s21 x22 => [some ((LT K (tD K eI)) vscript), some ((DT kS (VP K (T3 K (tD K eQ) (tD K eQ) (tD K eI)))) x1.1), some ((DT kS (tD K eI)) x1.2), some ((tD K eI) s4.1), some ((tD K eI) s4.2), none, some ((LT K (SU (DT kS (VP K (T3 K (tD K eQ) (tD K eQ) (tD K eI)))) (DT kS (tD K eI)))) x8), some ((LT K (tD K eI)) x9), some (Is (.ref p11)), some ((DT kS (VP K (T3 K (tD K eQ) (tD K eQ) (tD K eI)))) x22)]) hP (fun _ => by walk_at "sle") (fun _ => by walk_at "sub") (fun _ => trivial) (fun _ _ => evG_name) ?_ ?_)
          · intro F24 t24 s21 hP
            unfold l_law_k53_k4 at hP
            walk_at "dd"
            refine go_forCS (w := (w_law K X E.rt D0)) (σt := (List Int)) (Dd := fun (s : (List Int)) => (p11, (OLT (tD K eI)) s) :: D0) (s := s21) (evItc_l (evc_callC (fun _ _ _ _ h => h) (fun _ : (List Int) => ()) (Bor.here (O := (OLT (tD K eI)))) (evac_cons (evc_var (R := (DT kS (VP K (T3 K (tD K eQ) (tD K eQ) (tD K eI))))) (x1.1) rfl) fun _ => (evac_cons (evc_var (R := (DT kS (tD K eI))) (x1.2) rfl) fun _ => (evac_cons (evc_var (R := fun _ : Unit => Is (.ref p11)) () rfl) fun _ => evac_nil))) (fun _ => by walk_at "sub"))) (fun s25 => [some ((LT K (tD K eI)) vscript), some ((DT kS (VP K (T3 K (tD K eQ) (tD K eQ) (tD K eI)))) x1.1), some ((DT kS (tD K eI)) x1.2), some ((tD K eI) s4.1), some ((tD K eI) s4.2), none, some ((LT K (SU (DT kS (VP K (T3 K (tD K eQ) (tD K eQ) (tD K eI)))) (DT kS (tD K eI)))) x8), some ((LT K (tD K eI)) x9), some (Is (.ref p11)), none]) (fun s25 => (p11, (OLT (tD K eI)) (s25)) :: D0) (fun s1 => s1) (fun s25 x26 => [some ((LT K (tD K eI)) vscript), some ((DT kS (VP K (T3 K (tD K eQ) (tD K eQ) (tD K eI)))) x1.1), some ((DT kS (tD K eI)) x1.2), some ((tD K eI) s4.1), some ((tD K eI) s4.2), none, some ((LT K (SU (DT kS (VP K (T3 K (tD K eQ) (tD K eQ) (tD K eI)))) (DT kS (tD K eI)))) x8), some ((LT K (tD K eI)) x9), some (Is (.ref p11)), some ((DT kS (tD K eI)) x26)]) hP (fun _ => by walk_at "sle") (fun _ => by walk_at "sub") (fun _ => trivial) (fun _ _ => evG_name) ?_ ?_
            · intro F28 t28 s25 hP
              unfold l_law_k53_k2 at hP
              walk_at "dd"
              exact ((hk13 _ (t24.trans t28) s25) hP).weak (by walk_at "sle") (by walk_at "sub")
            · intro hB28 F28 t28 x26 s25 n27 Nx hN28 hP
              unfold l_law_k53_b3 at hP
              walk_at "dd"
              refine go_ifC (w := (w_law K X E.rt D0)) (evtc_not (evtc_B (evc_callP (fun _ _ _ _ h => h) (evac_cons evc_int fun _ => (evac_cons (evc_var (R := (DT kS (VP K (T3 K (tD K eQ) (tD K eQ) (tD K eI))))) (x1.1) rfl) fun _ => (evac_cons (evc_var (R := (DT kS (tD K eI))) (x26) rfl) fun _ => evac_nil))) (fun _ => by walk_at "sub")))) hP ?_ ?_
              · intro hP
                walk_at "dd"
                exact go_retC (w := (w_law K X E.rt D0)) (Dd := fun _ : Unit => (p11, (OLT (tD K eI)) (s25)) :: D0) (s := ()) (fun v _ => v) evc_bl hP (fun F v s h => (show GoV _ _ _ _ from h).drop (by walk_at "sub"))
              · intro hP
                walk_at "dd"
                refine go_next ?_
                walk_at "dd"
                exact (hN28 _ (Same.refl _) s25 hP).weak (by walk_at "sle") (by walk_at "sub")
          · intro hB24 F24 t24 x22 s21 n23 Nx hN24 hP
            unfold l_law_k53_b5 at hP
            walk_at "dd"
            refine go_ifC (w := (w_law K X E.rt D0)) (evtc_orM (evtc_not (evtc_B (evc_callP (fun _ _ _ _ h => h) (evac_cons evc_int fun _ => (evac_cons (evc_var (R := (DT kS (VP K (T3 K (tD K eQ) (tD K eQ) (tD K eI))))) (x22) rfl) fun _ => (evac_cons (evc_var (R := (DT kS (tD K eI))) (x1.2) rfl) fun _ => evac_nil))) (fun _ => by walk_at "sub")))) fun _ => (evtc_not (evtc_B (evc_callP (fun _ _ _ _ h => h) (evac_cons evc_int fun _ => (evac_cons (evc_var (R := (DT kS (VP K (T3 K (tD K eQ) (tD K eQ) (tD K eI))))) (x22) rfl) fun _ => (evac_cons (evc_var (R := (DT kS (tD K eI))) (x1.2) rfl) fun _ => evac_nil))) (fun _ => by walk_at "sub"))))) hP ?_ ?_
            · intro hP
              walk_at "dd"
              exact go_retC (w := (w_law K X E.rt D0)) (Dd := fun _ : Unit => (p11, (OLT (tD K eI)) (s21)) :: D0) (s := ()) (fun v _ => v) evc_bl hP (fun F v s h => (show GoV _ _ _ _ from h).drop (by walk_at "sub"))
            · intro hP
              walk_at "dd"
              refine go_next ?_
              walk_at "dd"
              exact (hN24 _ (Same.refl _) s21 hP).weak (by walk_at "sle") (by walk_at "sub")
        · intro hP
          walk_at "dd"
          refine go_next ?_
          walk_at "dd"
          exact ((hk13 _ (Same.refl _) x10) hP).weak (by walk_at "sle") (by walk_at "sub")
  · intro hB7 F7 t7 x5 s4 n6 Nx hN7 hP
    unfold l_law_k53_b7 at hP
    walk_at "dd"
    refine go_seq (go_setC (w := (w_law K X E.rt D0)) (evc_mul (evc_var (R := (tD K eI)) (s4.1) rfl) fun _ => (evc_len sv_P (evc_dgetT dw_Z kvS (evc_var (R := (DT kS (VP K (T3 K (tD K eQ) (tD K eQ) (tD K eI))))) (x1.1) rfl) fun _ => (evc_var (R := (tD K eS)) (x5) rfl)))) hP fun x52 hP => ?_)
    walk_at "dd"
    refine go_setC (w := (w_law K X E.rt D0)) (evc_add (evc_var (R := (tD K eI)) (s4.2) rfl) fun _ => (evc_ixT (i := 2) (Rs := fun x : (Rat × Rat × Int) => [(tD K eQ) x.1, (tD K eQ) x.2.1, (tD K eI) x.2.2]) (R' := (tD K eI)) (f := fun x => x.2.2) (evc_ix sv_P (evc_dgetT dw_Z kvS (evc_var (R := (DT kS (VP K (T3 K (tD K eQ) (tD K eQ) (tD K eI))))) (x1.1) rfl) fun _ => (evc_var (R := (tD K eS)) (x5) rfl)) fun _ => (evc_dgetT dw_Z kvS (evc_var (R := (DT kS (tD K eI))) (x1.2) rfl) fun _ => (evc_var (R := (tD K eS)) (x5) rfl))) fun _ => rfl)) hP fun x53 hP => ?_
    walk_at "dd"
    exact (hN7 _ (Same.refl _) (x52, x53) hP).weak (by walk_at "sle") (by walk_at "sub")
theorem pure_law (T : Txt K mg) (vs : List V) (H : Hp) (Q : VK) (X : XK) (h : sp_law K vs H Q X) : t_law K X { nx := fun _ H' => Q .non H', rt := Q } (L2.start N_law vs) H :=
  pure_ofLawT (mf := l_law_k53) l_law_k53_true (fun x F D E hrt hnx hP => by
    subst hrt
    exact walk_law T hnx hP) h
theorem len_law (K : PySem.W.Frag) : ∀ vs H Q E, sp_law K vs H Q E → vs.length = 1 := fun vs H Q E ⟨x, F, D, _, h, _⟩ => h.len
end
end K53

set_option Elab.async false
set_option linter.all false
set_option maxRecDepth 100000
set_option synthInstance.maxSize 4000
set_option maxHeartbeats 4000000
open PySem PySem.Spec L2 TL
namespace K53
section
variable {P : Program} {w : World} {K : PySem.W.Frag} {mg : Str → Option Value} {base : Heap}
theorem ok_is_less (T : Txt K mg) {f : Addr} {fd : FuncData} (FD : FunD K "is_less" "is_less" (defArgs s_is_less) (defBody s_is_less) (defScope s_is_less) [] [] f fd) : FnOk P w K mg base (L2.CX P w) 1 f fd ["a", "b"] (sp_is_less K) :=
  FD.ok sc_is_less (len_is_less K) fun cdv A outer s H vs Q X hr h => ⟨t_is_less K X, body_is_less T hr, pure_is_less T vs H Q X h⟩
theorem ok_check_menus (T : Txt K mg) (F_is_less : Fo P w K mg base "is_less" ["a", "b"] [] 1 (sp_is_less K)) {f : Addr} {fd : FuncData} (FD : FunD K "check_menus" "check_menus" (defArgs s_check_menus) (defBody s_check_menus) (defScope s_check_menus) [] [] f fd) : FnOk P w K mg base (L2.CX P w) 2 f fd ["menus"] (sp_check_menus K) :=
  FD.ok sc_check_menus (len_check_menus K) fun cdv A outer s H vs Q X hr h => ⟨t_check_menus K X, body_check_menus T F_is_less hr, pure_check_menus T vs H Q X h⟩
theorem ok_check_dealing (T : Txt K mg) (F_check_menus : Fo P w K mg base "check_menus" ["menus"] [] 2 (sp_check_menus K)) {f : Addr} {fd : FuncData} (FD : FunD K "check_dealing" "check_dealing" (defArgs s_check_dealing) (defBody s_check_dealing) (defScope s_check_dealing) [] [] f fd) : FnOk P w K mg base (L2.CX P w) 3 f fd ["menus", "dealing"] (sp_check_dealing K) :=
  FD.ok sc_check_dealing (len_check_dealing K) fun cdv A outer s H vs Q X hr h => ⟨t_check_dealing K X, body_check_dealing T F_check_menus hr, pure_check_dealing T vs H Q X h⟩
theorem ok_dealings_many (T : Txt K mg) (F_check_menus : Fo P w K mg base "check_menus" ["menus"] [] 2 (sp_check_menus K)) {f : Addr} {fd : FuncData} (FD : FunD K "dealings_many" "dealings_many" (defArgs s_dealings_many) (defBody s_dealings_many) (defScope s_dealings_many) [] [] f fd) : FnOk P w K mg base (L2.CX P w) 3 f fd ["menus"] (sp_dealings_many K) :=
  FD.ok sc_dealings_many (len_dealings_many K) fun cdv A outer s H vs Q X hr h => ⟨t_dealings_many K X, body_dealings_many T F_check_menus hr, pure_dealings_many T vs H Q X h⟩
theorem ok_price_of (T : Txt K mg) (F_check_dealing : Fo P w K mg base "check_dealing" ["menus", "dealing"] [] 3 (sp_check_dealing K)) {f : Addr} {fd : FuncData} (FD : FunD K "price_of" "price_of" (defArgs s_price_of) (defBody s_price_of) (defScope s_price_of) [] [] f fd) : FnOk P w K mg base (L2.CX P w) 4 f fd ["menus", "dealing"] (sp_price_of K) :=
  FD.ok sc_price_of (len_price_of K) fun cdv A outer s H vs Q X hr h => ⟨t_price_of K X, body_price_of T F_check_dealing hr, pure_price_of T vs H Q X h⟩
theorem ok__law_well (T : Txt K mg) {f : Addr} {fd : FuncData} (FD : FunD K "_law_well" "_law_well" (defArgs s__law_well) (defBody s__law_well) (defScope s__law_well) [] [] f fd) : FnOk P w K mg base (L2.CX P w) 1 f fd ["_law_script", "_law_k"] (sp__law_well K) :=
  FD.ok sc__law_well (len__law_well K) fun cdv A outer s H vs Q X hr h => ⟨t__law_well K X, body__law_well T hr, pure__law_well T vs H Q X h⟩
theorem ok__law_take (T : Txt K mg) {f : Addr} {fd : FuncData} (FD : FunD K "_law_take" "_law_take" (defArgs s__law_take) (defBody s__law_take) (defScope s__law_take) [] [] f fd) : FnOk P w K mg base (L2.CX P w) 1 f fd ["_law_well_here", "_law_many"] (sp__law_take K) :=
  FD.ok sc__law_take (len__law_take K) fun cdv A outer s H vs Q X hr h => ⟨t__law_take K X, body__law_take T hr, pure__law_take T vs H Q X h⟩
theorem ok__law_common (T : Txt K mg) {f : Addr} {fd : FuncData} (FD : FunD K "_law_common" "_law_common" (defArgs s__law_common) (defBody s__law_common) (defScope s__law_common) [] [] f fd) : FnOk P w K mg base (L2.CX P w) 1 f fd ["_law_one", "_law_other"] (sp__law_common K) :=
  FD.ok sc__law_common (len__law_common K) fun cdv A outer s H vs Q X hr h => ⟨t__law_common K X, body__law_common T hr, pure__law_common T vs H Q X h⟩
theorem ok__law_num (T : Txt K mg) (F__law_common : Fo P w K mg base "_law_common" ["_law_one", "_law_other"] [] 1 (sp__law_common K)) {f : Addr} {fd : FuncData} (FD : FunD K "_law_num" "_law_num" (defArgs s__law_num) (defBody s__law_num) (defScope s__law_num) [] [] f fd) : FnOk P w K mg base (L2.CX P w) 2 f fd ["_law_top", "_law_bottom"] (sp__law_num K) :=
  FD.ok sc__law_num (len__law_num K) fun cdv A outer s H vs Q X hr h => ⟨t__law_num K X, body__law_num T F__law_common hr, pure__law_num T vs H Q X h⟩
theorem ok__law_word (T : Txt K mg) (F__law_take : Fo P w K mg base "_law_take" ["_law_well_here", "_law_many"] [] 1 (sp__law_take K)) {f : Addr} {fd : FuncData} (FD : FunD K "_law_word" "_law_word" (defArgs s__law_word) (defBody s__law_word) (defScope s__law_word) [] [] f fd) : FnOk P w K mg base (L2.CX P w) 2 f fd ["_law_well_here", "_law_k"] (sp__law_word K) :=
  FD.ok sc__law_word (len__law_word K) fun cdv A outer s H vs Q X hr h => ⟨t__law_word K X, body__law_word T F__law_take hr, pure__law_word T vs H Q X h⟩
theorem ok__law_whole (T : Txt K mg) {f : Addr} {fd : FuncData} (FD : FunD K "_law_whole" "_law_whole" (defArgs s__law_whole) (defBody s__law_whole) (defScope s__law_whole) [] [] f fd) : FnOk P w K mg base (L2.CX P w) 1 f fd ["_law_found"] (sp__law_whole K) :=
  FD.ok sc__law_whole (len__law_whole K) fun cdv A outer s H vs Q X hr h => ⟨t__law_whole K X, body__law_whole T hr, pure__law_whole T vs H Q X h⟩
theorem ok__law_steps (T : Txt K mg) (F__law_num : Fo P w K mg base "_law_num" ["_law_top", "_law_bottom"] [] 2 (sp__law_num K)) (F__law_take : Fo P w K mg base "_law_take" ["_law_well_here", "_law_many"] [] 1 (sp__law_take K)) {f : Addr} {fd : FuncData} (FD : FunD K "_law_steps" "_law_steps" (defArgs s__law_steps) (defBody s__law_steps) (defScope s__law_steps) [] [] f fd) : FnOk P w K mg base (L2.CX P w) 3 f fd ["_law_well_here", "_law_many"] (sp__law_steps K) :=
  FD.ok sc__law_steps (len__law_steps K) fun cdv A outer s H vs Q X hr h => ⟨t__law_steps K X, body__law_steps T F__law_num F__law_take hr, pure__law_steps T vs H Q X h⟩
theorem ok__law_drawn (T : Txt K mg) (F__law_steps : Fo P w K mg base "_law_steps" ["_law_well_here", "_law_many"] [] 3 (sp__law_steps K)) (F__law_take : Fo P w K mg base "_law_take" ["_law_well_here", "_law_many"] [] 1 (sp__law_take K)) (F__law_well : Fo P w K mg base "_law_well" ["_law_script", "_law_k"] [] 1 (sp__law_well K)) (F__law_word : Fo P w K mg base "_law_word" ["_law_well_here", "_law_k"] [] 2 (sp__law_word K)) {f : Addr} {fd : FuncData} (FD : FunD K "_law_drawn" "_law_drawn" (defArgs s__law_drawn) (defBody s__law_drawn) (defScope s__law_drawn) [] [] f fd) : FnOk P w K mg base (L2.CX P w) 4 f fd ["_law_script"] (sp__law_drawn K) :=
  FD.ok sc__law_drawn (len__law_drawn K) fun cdv A outer s H vs Q X hr h => ⟨t__law_drawn K X, body__law_drawn T F__law_steps F__law_take F__law_well F__law_word hr, pure__law_drawn T vs H Q X h⟩
theorem ok__law_refused (T : Txt K mg) (F_dealings_many : Fo P w K mg base "dealings_many" ["menus"] [] 3 (sp_dealings_many K)) (F_price_of : Fo P w K mg base "price_of" ["menus", "dealing"] [] 4 (sp_price_of K)) {f : Addr} {fd : FuncData} (FD : FunD K "_law_refused" "_law_refused" (defArgs s__law_refused) (defBody s__law_refused) (defScope s__law_refused) [] [] f fd) : FnOk P w K mg base (L2.CX P w) 5 f fd ["_law_way", "_law_menus", "_law_dealing"] (sp__law_refused K) :=
  FD.ok sc__law_refused (len__law_refused K) fun cdv A outer s H vs Q X hr h => ⟨t__law_refused K X, body__law_refused T F_dealings_many F_price_of hr, pure__law_refused T vs H Q X h⟩
theorem ok__law_spoilt (T : Txt K mg) (F__law_num : Fo P w K mg base "_law_num" ["_law_top", "_law_bottom"] [] 2 (sp__law_num K)) (F__law_steps : Fo P w K mg base "_law_steps" ["_law_well_here", "_law_many"] [] 3 (sp__law_steps K)) (F__law_take : Fo P w K mg base "_law_take" ["_law_well_here", "_law_many"] [] 1 (sp__law_take K)) {f : Addr} {fd : FuncData} (FD : FunD K "_law_spoilt" "_law_spoilt" (defArgs s__law_spoilt) (defBody s__law_spoilt) (defScope s__law_spoilt) [] [] f fd) : FnOk P w K mg base (L2.CX P w) 4 f fd ["_law_menus", "_law_well_here"] (sp__law_spoilt K) :=
  FD.ok sc__law_spoilt (len__law_spoilt K) fun cdv A outer s H vs Q X hr h => ⟨t__law_spoilt K X, body__law_spoilt T F__law_num F__law_steps F__law_take hr, pure__law_spoilt T vs H Q X h⟩
theorem ok__law_spoilt_dealings (T : Txt K mg) (F__law_take : Fo P w K mg base "_law_take" ["_law_well_here", "_law_many"] [] 1 (sp__law_take K)) {f : Addr} {fd : FuncData} (FD : FunD K "_law_spoilt_dealings" "_law_spoilt_dealings" (defArgs s__law_spoilt_dealings) (defBody s__law_spoilt_dealings) (defScope s__law_spoilt_dealings) [] [] f fd) : FnOk P w K mg base (L2.CX P w) 2 f fd ["_law_menus", "_law_dealing", "_law_well_here"] (sp__law_spoilt_dealings K) :=
  FD.ok sc__law_spoilt_dealings (len__law_spoilt_dealings K) fun cdv A outer s H vs Q X hr h => ⟨t__law_spoilt_dealings K X, body__law_spoilt_dealings T F__law_take hr, pure__law_spoilt_dealings T vs H Q X h⟩
theorem ok_law (T : Txt K mg) (F__law_drawn : Fo P w K mg base "_law_drawn" ["_law_script"] [] 4 (sp__law_drawn K)) (F__law_refused : Fo P w K mg base "_law_refused" ["_law_way", "_law_menus", "_law_dealing"] [] 5 (sp__law_refused K)) (F__law_spoilt : Fo P w K mg base "_law_spoilt" ["_law_menus", "_law_well_here"] [] 4 (sp__law_spoilt K)) (F__law_spoilt_dealings : Fo P w K mg base "_law_spoilt_dealings" ["_law_menus", "_law_dealing", "_law_well_here"] [] 2 (sp__law_spoilt_dealings K)) (F__law_well : Fo P w K mg base "_law_well" ["_law_script", "_law_k"] [] 1 (sp__law_well K)) (F__law_whole : Fo P w K mg base "_law_whole" ["_law_found"] [] 1 (sp__law_whole K)) (F_dealings_many : Fo P w K mg base "dealings_many" ["menus"] [] 3 (sp_dealings_many K)) (F_price_of : Fo P w K mg base "price_of" ["menus", "dealing"] [] 4 (sp_price_of K)) {f : Addr} {fd : FuncData} (FD : FunD K "law" "law" (defArgs s_law) (defBody s_law) (defScope s_law) [] [] f fd) : FnOk P w K mg base (L2.CX P w) 6 f fd ["_law_script"] (sp_law K) :=
  FD.ok sc_law (len_law K) fun cdv A outer s H vs Q X hr h => ⟨t_law K X, body_law T F__law_drawn F__law_refused F__law_spoilt F__law_spoilt_dealings F__law_well F__law_whole F_dealings_many F_price_of hr, pure_law T vs H Q X h⟩
end
def d0 : He.DefD := ⟨("is_less", none), "is_less", "is_less", defArgs s_is_less, defBody s_is_less, defScope s_is_less, [], []⟩
def d1 : He.DefD := ⟨("check_menus", none), "check_menus", "check_menus", defArgs s_check_menus, defBody s_check_menus, defScope s_check_menus, [], []⟩
def d2 : He.DefD := ⟨("check_dealing", none), "check_dealing", "check_dealing", defArgs s_check_dealing, defBody s_check_dealing, defScope s_check_dealing, [], []⟩
def d3 : He.DefD := ⟨("dealings_many", none), "dealings_many", "dealings_many", defArgs s_dealings_many, defBody s_dealings_many, defScope s_dealings_many, [], []⟩
def d4 : He.DefD := ⟨("price_of", none), "price_of", "price_of", defArgs s_price_of, defBody s_price_of, defScope s_price_of, [], []⟩
def d5 : He.DefD := ⟨("_law_well", none), "_law_well", "_law_well", defArgs s__law_well, defBody s__law_well, defScope s__law_well, [], []⟩
def d6 : He.DefD := ⟨("_law_take", none), "_law_take", "_law_take", defArgs s__law_take, defBody s__law_take, defScope s__law_take, [], []⟩
def d7 : He.DefD := ⟨("_law_common", none), "_law_common", "_law_common", defArgs s__law_common, defBody s__law_common, defScope s__law_common, [], []⟩
def d8 : He.DefD := ⟨("_law_num", none), "_law_num", "_law_num", defArgs s__law_num, defBody s__law_num, defScope s__law_num, [], []⟩
def d9 : He.DefD := ⟨("_law_word", none), "_law_word", "_law_word", defArgs s__law_word, defBody s__law_word, defScope s__law_word, [], []⟩
def d10 : He.DefD := ⟨("_law_whole", none), "_law_whole", "_law_whole", defArgs s__law_whole, defBody s__law_whole, defScope s__law_whole, [], []⟩
def d11 : He.DefD := ⟨("_law_steps", none), "_law_steps", "_law_steps", defArgs s__law_steps, defBody s__law_steps, defScope s__law_steps, [], []⟩
def d12 : He.DefD := ⟨("_law_drawn", none), "_law_drawn", "_law_drawn", defArgs s__law_drawn, defBody s__law_drawn, defScope s__law_drawn, [], []⟩
def d13 : He.DefD := ⟨("_law_refused", none), "_law_refused", "_law_refused", defArgs s__law_refused, defBody s__law_refused, defScope s__law_refused, [], []⟩
def d14 : He.DefD := ⟨("_law_spoilt", none), "_law_spoilt", "_law_spoilt", defArgs s__law_spoilt, defBody s__law_spoilt, defScope s__law_spoilt, [], []⟩
def d15 : He.DefD := ⟨("_law_spoilt_dealings", none), "_law_spoilt_dealings", "_law_spoilt_dealings", defArgs s__law_spoilt_dealings, defBody s__law_spoilt_dealings, defScope s__law_spoilt_dealings, [], []⟩
def d16 : He.DefD := ⟨("law", none), "law", "law", defArgs s_law, defBody s_law, defScope s_law, [], []⟩
def fn : List He.DefD := [d0, d1, d2, d3, d4, d5, d6, d7, d8, d9, d10, d11, d12, d13, d14, d15, d16]
def fa : List He.Fa := [.free "ValueError", .free "abs", .free "bool", .free "dict", .free "int", .free "isinstance", .free "len", .free "range", .free "sorted", .free "sum", .free "tuple", .glo "FitError", .glo "NoBins", .glo "NoDealing", .glo "NoFace", .glo "NoFit", .glo "NoJoint", .glo "NoMaking", .glo "NoNumber", .glo "NoPart", .glo "NoProgram", .glo "NoRow", .glo "NoSheet", .glo "NoSize", .glo "NoSum", .glo "TooMany", .int "MOST_STEPS" 8, .glo "is_less", .glo "check_menus", .glo "check_dealing", .glo "dealings_many", .glo "price_of", .glo "_law_well", .glo "_law_take", .glo "_law_common", .glo "_law_num", .glo "_law_word", .glo "_law_whole", .glo "_law_steps", .glo "_law_drawn", .glo "_law_refused", .glo "_law_spoilt", .glo "_law_spoilt_dealings", .glo "law"]
def ex (K : PySem.W.Frag) : Bool := (excB K (He.ga K "NoDealing") && (decide (xAllB K ["FitError", "NoBins", "NoDealing", "NoFace", "NoFit", "NoJoint", "NoMaking", "NoNumber", "NoPart", "NoProgram", "NoRow", "NoSheet", "NoSize", "NoSum", "TooMany"] = true) && (decide (xAnyB K xl_0592de21 (([He.ga K "NoBins", He.ga K "NoFace", He.ga K "NoFit", He.ga K "NoJoint", He.ga K "NoMaking", He.ga K "NoNumber", He.ga K "NoPart", He.ga K "NoProgram"] : List Addr).map Value.ref) = true) && (decide (xAnyB K xl_9cbeb521 (([He.ga K "NoRow", He.ga K "NoSheet", He.ga K "NoSize", He.ga K "NoSum", He.ga K "TooMany"] : List Addr).map Value.ref) = true) && (decide (xExmB K xl_a7d8e757 (.ref (He.ga K "NoDealing")) = true) && (decide (xIsB K xl_5bb3d9ed (.ref (He.ga K "FitError")) = true) && (decide (xIsB K xl_5bb3d9ed (.type "ValueError") = true) && true)))))))
abbrev R : PySem.W.OpenRow := PySem.W.OpenLaw.row PySem.Challenge.rw_fitwhatever_k53_dealings_counted
abbrev hk : PySem.W.Hook := hookZ 5 fa fn ex
def ob (s : PySem.W.SharedT) : AlZ := obsZG 5 fa fn ex (HandSHeadRun.getT s)
theorem ob_eq (s : PySem.W.SharedT) : ob s = hk.obs s.abs := obsZG_eq (HandSHeadRun.getT_eq s)
theorem run (w : World) : HandSHeadRun.RunEq R (PySem.W.view R.prog [36]) hk ob 20000 ((["FitError", "NoNumber", "NoSum", "NoSize", "NoMaking", "NoPart", "NoFace", "NoJoint", "TooMany", "NoFit", "NoProgram", "NoDealing", "NoBins", "NoSheet", "NoRow", "is_less", "MOST_STEPS", "check_menus", "check_dealing", "dealings_many", "price_of", "_law_well", "_law_take", "_law_common", "_law_num", "_law_word", "_law_whole", "_law_steps", "_law_drawn", "_law_refused"] : List PySem.Str) ++ (["_law_spoilt", "_law_spoilt_dealings"] : List PySem.Str)) w := by
  intro os
  kernel_rfl
theorem facts {P : Program} {w : World} {K : PySem.W.Frag} {h : Heap} {mg : Str → Option Value} {f : Addr} (KX : K.In h) (G : h.Ns mainGlobals mg) (hfa : mg ("law" : Str) = some (.ref f)) (c : SaysZ fa fn ex K) :
    ∃ fd : FuncData, (∀ (s : Shared) (v : Value), BindsTo s fd ⟨[v], []⟩ [("_law_script", v)]) ∧ ∀ base : Heap, K.In base → base.Ns mainGlobals mg → FnOk P w K mg base L2.CX0 6 f fd ["_law_script"] (sp_law K) := by
  have ce := c.2
  unfold ex at ce
  simp only [Bool.and_eq_true] at ce
  obtain ⟨x0, x1, x2, x3, x4, x5, x6, _⟩ := ce
  have T : Txt K mg := {
    b_ValueError := He.free_ok KX G (c.1.fact 0 rfl)
    b_abs := He.free_ok KX G (c.1.fact 1 rfl)
    b_bool := He.free_ok KX G (c.1.fact 2 rfl)
    b_dict := He.free_ok KX G (c.1.fact 3 rfl)
    b_int := He.free_ok KX G (c.1.fact 4 rfl)
    b_isinstance := He.free_ok KX G (c.1.fact 5 rfl)
    b_len := He.free_ok KX G (c.1.fact 6 rfl)
    b_range := He.free_ok KX G (c.1.fact 7 rfl)
    b_sorted := He.free_ok KX G (c.1.fact 8 rfl)
    b_sum := He.free_ok KX G (c.1.fact 9 rfl)
    b_tuple := He.free_ok KX G (c.1.fact 10 rfl)
    g_FitError := He.glo_ok KX G (c.1.fact 11 rfl)
    g_NoBins := He.glo_ok KX G (c.1.fact 12 rfl)
    g_NoDealing := He.glo_ok KX G (c.1.fact 13 rfl)
    g_NoFace := He.glo_ok KX G (c.1.fact 14 rfl)
    g_NoFit := He.glo_ok KX G (c.1.fact 15 rfl)
    g_NoJoint := He.glo_ok KX G (c.1.fact 16 rfl)
    g_NoMaking := He.glo_ok KX G (c.1.fact 17 rfl)
    g_NoNumber := He.glo_ok KX G (c.1.fact 18 rfl)
    g_NoPart := He.glo_ok KX G (c.1.fact 19 rfl)
    g_NoProgram := He.glo_ok KX G (c.1.fact 20 rfl)
    g_NoRow := He.glo_ok KX G (c.1.fact 21 rfl)
    g_NoSheet := He.glo_ok KX G (c.1.fact 22 rfl)
    g_NoSize := He.glo_ok KX G (c.1.fact 23 rfl)
    g_NoSum := He.glo_ok KX G (c.1.fact 24 rfl)
    g_TooMany := He.glo_ok KX G (c.1.fact 25 rfl)
    k_MOST_STEPS := He.int_ok KX G (c.1.fact 26 rfl)
    e_NoDealing := excB_ok x0
    x_all := of_decide_eq_true x1
    xa_0592de21 := of_decide_eq_true x2
    xa_9cbeb521 := of_decide_eq_true x3
    xe_NoDealing := of_decide_eq_true x4
    xi_FitError := of_decide_eq_true x5
    xi_ValueError := of_decide_eq_true x6 }
  obtain ⟨fd0, FD0⟩ := c.1.def_ 0 (d := d0) rfl
  have hg0 : mg "is_less" = some (.ref (He.ga K "is_less")) := He.glo_ok KX G (c.1.fact 27 (f := .glo "is_less") rfl)
  obtain ⟨fd1, FD1⟩ := c.1.def_ 1 (d := d1) rfl
  have hg1 : mg "check_menus" = some (.ref (He.ga K "check_menus")) := He.glo_ok KX G (c.1.fact 28 (f := .glo "check_menus") rfl)
  obtain ⟨fd2, FD2⟩ := c.1.def_ 2 (d := d2) rfl
  have hg2 : mg "check_dealing" = some (.ref (He.ga K "check_dealing")) := He.glo_ok KX G (c.1.fact 29 (f := .glo "check_dealing") rfl)
  obtain ⟨fd3, FD3⟩ := c.1.def_ 3 (d := d3) rfl
  have hg3 : mg "dealings_many" = some (.ref (He.ga K "dealings_many")) := He.glo_ok KX G (c.1.fact 30 (f := .glo "dealings_many") rfl)
  obtain ⟨fd4, FD4⟩ := c.1.def_ 4 (d := d4) rfl
  have hg4 : mg "price_of" = some (.ref (He.ga K "price_of")) := He.glo_ok KX G (c.1.fact 31 (f := .glo "price_of") rfl)
  obtain ⟨fd5, FD5⟩ := c.1.def_ 5 (d := d5) rfl
  have hg5 : mg "_law_well" = some (.ref (He.ga K "_law_well")) := He.glo_ok KX G (c.1.fact 32 (f := .glo "_law_well") rfl)
  obtain ⟨fd6, FD6⟩ := c.1.def_ 6 (d := d6) rfl
  have hg6 : mg "_law_take" = some (.ref (He.ga K "_law_take")) := He.glo_ok KX G (c.1.fact 33 (f := .glo "_law_take") rfl)
  obtain ⟨fd7, FD7⟩ := c.1.def_ 7 (d := d7) rfl
  have hg7 : mg "_law_common" = some (.ref (He.ga K "_law_common")) := He.glo_ok KX G (c.1.fact 34 (f := .glo "_law_common") rfl)
  obtain ⟨fd8, FD8⟩ := c.1.def_ 8 (d := d8) rfl
  have hg8 : mg "_law_num" = some (.ref (He.ga K "_law_num")) := He.glo_ok KX G (c.1.fact 35 (f := .glo "_law_num") rfl)
  obtain ⟨fd9, FD9⟩ := c.1.def_ 9 (d := d9) rfl
  have hg9 : mg "_law_word" = some (.ref (He.ga K "_law_word")) := He.glo_ok KX G (c.1.fact 36 (f := .glo "_law_word") rfl)
  obtain ⟨fd10, FD10⟩ := c.1.def_ 10 (d := d10) rfl
  have hg10 : mg "_law_whole" = some (.ref (He.ga K "_law_whole")) := He.glo_ok KX G (c.1.fact 37 (f := .glo "_law_whole") rfl)
  obtain ⟨fd11, FD11⟩ := c.1.def_ 11 (d := d11) rfl
  have hg11 : mg "_law_steps" = some (.ref (He.ga K "_law_steps")) := He.glo_ok KX G (c.1.fact 38 (f := .glo "_law_steps") rfl)
  obtain ⟨fd12, FD12⟩ := c.1.def_ 12 (d := d12) rfl
  have hg12 : mg "_law_drawn" = some (.ref (He.ga K "_law_drawn")) := He.glo_ok KX G (c.1.fact 39 (f := .glo "_law_drawn") rfl)
  obtain ⟨fd13, FD13⟩ := c.1.def_ 13 (d := d13) rfl
  have hg13 : mg "_law_refused" = some (.ref (He.ga K "_law_refused")) := He.glo_ok KX G (c.1.fact 40 (f := .glo "_law_refused") rfl)
  obtain ⟨fd14, FD14⟩ := c.1.def_ 14 (d := d14) rfl
  have hg14 : mg "_law_spoilt" = some (.ref (He.ga K "_law_spoilt")) := He.glo_ok KX G (c.1.fact 41 (f := .glo "_law_spoilt") rfl)
  obtain ⟨fd15, FD15⟩ := c.1.def_ 15 (d := d15) rfl
  have hg15 : mg "_law_spoilt_dealings" = some (.ref (He.ga K "_law_spoilt_dealings")) := He.glo_ok KX G (c.1.fact 42 (f := .glo "_law_spoilt_dealings") rfl)
  obtain ⟨fd16, FD16⟩ := c.1.def_ 16 (d := d16) rfl
  have e := hfa.symm.trans (He.glo_ok KX G (c.1.fact 43 (f := .glo "law") rfl))
  cases e
  have b := FunD.bindsA (ps := ["_law_script"]) FD16 fun _ _ _ _ _ _ us hl => match us, hl with | [_], _ => rfl
  refine ⟨fd16, fun s v => b s [v] rfl, fun base _ _ => ?_⟩
  have O0 := ok_is_less (P := P) (w := w) (base := base) T FD0
  have F_is_less := fo_mk FD0 hg0 O0 (fun _ _ _ _ _ _ us hl => match us, hl with | [_, _], _ => rfl)
  have O1 := ok_check_menus (P := P) (w := w) (base := base) T F_is_less FD1
  have F_check_menus := fo_mk FD1 hg1 O1 (fun _ _ _ _ _ _ us hl => match us, hl with | [_], _ => rfl)
  have O2 := ok_check_dealing (P := P) (w := w) (base := base) T F_check_menus FD2
  have F_check_dealing := fo_mk FD2 hg2 O2 (fun _ _ _ _ _ _ us hl => match us, hl with | [_, _], _ => rfl)
  have O3 := ok_dealings_many (P := P) (w := w) (base := base) T F_check_menus FD3
  have F_dealings_many := fo_mk FD3 hg3 O3 (fun _ _ _ _ _ _ us hl => match us, hl with | [_], _ => rfl)
  have O4 := ok_price_of (P := P) (w := w) (base := base) T F_check_dealing FD4
  have F_price_of := fo_mk FD4 hg4 O4 (fun _ _ _ _ _ _ us hl => match us, hl with | [_, _], _ => rfl)
  have O5 := ok__law_well (P := P) (w := w) (base := base) T FD5
  have F__law_well := fo_mk FD5 hg5 O5 (fun _ _ _ _ _ _ us hl => match us, hl with | [_, _], _ => rfl)
  have O6 := ok__law_take (P := P) (w := w) (base := base) T FD6
  have F__law_take := fo_mk FD6 hg6 O6 (fun _ _ _ _ _ _ us hl => match us, hl with | [_, _], _ => rfl)
  have O7 := ok__law_common (P := P) (w := w) (base := base) T FD7
  have F__law_common := fo_mk FD7 hg7 O7 (fun _ _ _ _ _ _ us hl => match us, hl with | [_, _], _ => rfl)
  have O8 := ok__law_num (P := P) (w := w) (base := base) T F__law_common FD8
  have F__law_num := fo_mk FD8 hg8 O8 (fun _ _ _ _ _ _ us hl => match us, hl with | [_, _], _ => rfl)
  have O9 := ok__law_word (P := P) (w := w) (base := base) T F__law_take FD9
  have F__law_word := fo_mk FD9 hg9 O9 (fun _ _ _ _ _ _ us hl => match us, hl with | [_, _], _ => rfl)
  have O10 := ok__law_whole (P := P) (w := w) (base := base) T FD10
  have F__law_whole := fo_mk FD10 hg10 O10 (fun _ _ _ _ _ _ us hl => match us, hl with | [_], _ => rfl)
  have O11 := ok__law_steps (P := P) (w := w) (base := base) T F__law_num F__law_take FD11
  have F__law_steps := fo_mk FD11 hg11 O11 (fun _ _ _ _ _ _ us hl => match us, hl with | [_, _], _ => rfl)
  have O12 := ok__law_drawn (P := P) (w := w) (base := base) T F__law_steps F__law_take F__law_well F__law_word FD12
  have F__law_drawn := fo_mk FD12 hg12 O12 (fun _ _ _ _ _ _ us hl => match us, hl with | [_], _ => rfl)
  have O13 := ok__law_refused (P := P) (w := w) (base := base) T F_dealings_many F_price_of FD13
  have F__law_refused := fo_mk FD13 hg13 O13 (fun _ _ _ _ _ _ us hl => match us, hl with | [_, _, _], _ => rfl)
  have O14 := ok__law_spoilt (P := P) (w := w) (base := base) T F__law_num F__law_steps F__law_take FD14
  have F__law_spoilt := fo_mk FD14 hg14 O14 (fun _ _ _ _ _ _ us hl => match us, hl with | [_, _], _ => rfl)
  have O15 := ok__law_spoilt_dealings (P := P) (w := w) (base := base) T F__law_take FD15
  have F__law_spoilt_dealings := fo_mk FD15 hg15 O15 (fun _ _ _ _ _ _ us hl => match us, hl with | [_, _, _], _ => rfl)
  exact calm_fn (ok_law T F__law_drawn F__law_refused F__law_spoilt F__law_spoilt_dealings F__law_well F__law_whole F_dealings_many F_price_of FD16) lawSp_E
end K53
open PySem PySem.W PySem.Calls PyProof.Rows
set_option maxRecDepth 100000 in
set_option maxHeartbeats 0 in
theorem PySem.Challenge.cw_fitwhatever_k53_dealings_counted_holds : PySem.Challenge.rw_fitwhatever_k53_dealings_counted.Holds := by
  w_on; o_law
  refine HandSHeadRun.head_any (r := OpenLaw.row PySem.Challenge.rw_fitwhatever_k53_dealings_counted) (q := view (OpenLaw.row PySem.Challenge.rw_fitwhatever_k53_dealings_counted).prog [36]) (H := K53.hk) (ob := K53.ob) (M := 20000) (loose := (["FitError", "NoNumber", "NoSum", "NoSize", "NoMaking", "NoPart", "NoFace", "NoJoint", "TooMany", "NoFit", "NoProgram", "NoDealing", "NoBins", "NoSheet", "NoRow", "is_less", "MOST_STEPS", "check_menus", "check_dealing", "dealings_many", "price_of", "_law_well", "_law_take", "_law_common", "_law_num", "_law_word", "_law_whole", "_law_steps", "_law_drawn", "_law_refused"] : List PySem.Str) ++ (["_law_spoilt", "_law_spoilt_dealings"] : List PySem.Str)) (d := HandSHeadRun.topDef (OpenLaw.row PySem.Challenge.rw_fitwhatever_k53_dealings_counted).prog 36) (kwd := []) K53.ob_eq
    (by kernel_rfl) (fun s => by kernel_rfl) K53.run (by kernel_rfl) (by kernel_rfl) (by kernel_rfl) (by rfl) (by first | assumption | decide +kernel) (by decide +kernel) ⟨rfl, rfl, rfl, rfl, rfl, by decide +kernel⟩ ?hw ?hc
  case hw => w_witness2
  case hc =>
    refine L2.walk_ofE (l := PySem.Challenge.rw_fitwhatever_k53_dealings_counted) (n := 63) (k := 6) (x := "_law_script") (CX := L2.CX0) rfl (by decide) (by kernel_rfl) ⟨rfl, by decide, by decide⟩ ?F ?X
    case X => exact fun _ _ _ _ z => z
    case F =>
      intro w mg fa h Y G hmg0
      obtain ⟨K, KX, c⟩ := Y
      have hmg : mg ("law" : PySem.Str) = some (.ref fa) := by
        have e : (HandSHeadRun.topDef (OpenLaw.row PySem.Challenge.rw_fitwhatever_k53_dealings_counted).prog 36).name = ("law" : PySem.Str) := by kernel_rfl
        rw [← e]
        exact hmg0
      obtain ⟨fd, hb, hF⟩ := K53.facts (P := (PySem.Challenge.rw_fitwhatever_k53_dealings_counted).prog) (w := w) KX G hmg c
      exact ⟨K, fd, K53.sp_law K, KX, hb, fun H a ns hl _ hS => TL.law_sp hl hS, hF⟩
