import PyProof.Rows.All
import Wide.All
import OpenK.AllK
import Wide.FinOn
import HandS.Base
import HandS.Call
import HandS.List
import HandS.Comp
import HandS.Ends
import HandS.Exc
import HandS.ExcOwn
import HandS.Words
import HandS.WordsList
import HandS.WordsExc
import HandS.IsInst
import HandS.Wide
import HandS.Flow
import HandS.Defaults
import HandS.ExcValue
import HandS.ExcIs
import HandS.TryOnly
import HandS.Dict
import HandS.Head0
import HandS.Head1
import HandS.Head2
import HandS.HeadEnd
import HandS.HeadHook1
import HandS.HeadHook2
import HandS.Deep
import HandS.Style
import HandS.More
import HandS.Text
import HandS.Zip
import PyProof.StrLawsJoin
import HandS.Iter
import HandS.Strs
import HandS.TupAny
import KE.KDictZip
import HandS.TupLe
import HandS.ListEq
import PyProof.NeKinds
import HandS.WordsDict
import KE.SortData
import PyProof.AutoSeq1
import HandS.HotCalls
import HandS.ListItems
import HandS.Sort
import KE.KDictKeyed
import KE.KDictSum
import KE.DataMinMax
import HandS.TupSets
import KE.LtData
import PySem.Challenge.RW_fitwhatever_k21_chains
import KE.KStateDown
import Lean
set_option Elab.async false
set_option linter.all false
set_option maxRecDepth 100000
set_option maxHeartbeats 1000000
namespace TL
open PySem PySem.Spec L2
structure Ty where
  p : V → Hp → Prop
  mono : ∀ {v : V} {F F' : Hp}, Same F F' → p v F → p v F'
structure OTy where
  p : HO → Hp → Prop
  mono : ∀ {o : HO} {F F' : Hp}, Same F F' → p o F → p o F'
  q : HO → Hp → Hp → Prop
  qmono : ∀ {o : HO} {L F F' : Hp}, Same F F' → q o L F → q o L F'
@[reducible] def OTy.fl (p : HO → Hp → Prop) (mono : ∀ {o : HO} {F F' : Hp}, Same F F' → p o F → p o F') : OTy := ⟨p, mono, fun _ _ _ => True, fun _ h => h⟩
abbrev noH : Hp := fun _ => none
abbrev Sto := List (Option Ty)
abbrev Own := List (Addr × OTy)
theorem same_new {H : Hp} {p : Addr} {o : HO} (h : H p = none) : Same H (upd H p o) := fun b u e => by
  rw [upd_ne (ne_of_none e h)]
  exact e
structure DeepOk (D : Own) (H F : Hp) (L : Addr → Hp) : Prop where
  q : ∀ a O, (a, O) ∈ D → ∀ o, H a = some o → O.q o (L a) F
  at_ : ∀ a b o, a ∈ D.map (·.1) → L a b = some o → H b = some o ∧ F b = none ∧ b ∉ D.map (·.1)
  sep : ∀ a a' b, a ∈ D.map (·.1) → a' ∈ D.map (·.1) → L a b ≠ none → L a' b ≠ none → a = a'
structure HS (D : Own) (H F : Hp) : Prop where
  sub : Same F H
  own : ∀ a O, (a, O) ∈ D → F a = none ∧ ∃ o, H a = some o ∧ O.p o F
  nd : (D.map (·.1)).Nodup
  deep : ∃ L, DeepOk D H F L
theorem DeepOk.drop {D D' : Own} {H F : Hp} {L : Addr → Hp} (h : DeepOk D H F L) (s : ∀ c ∈ D', c ∈ D) : DeepOk D' H F L :=
  have m : ∀ a, a ∈ D'.map (·.1) → a ∈ D.map (·.1) := fun a ha => let ⟨c, hc, e⟩ := List.mem_map.mp ha; List.mem_map.mpr ⟨c, s c hc, e⟩
  ⟨fun a O z => h.q a O (s _ z), fun a b o z e => let ⟨h1, h2, h3⟩ := h.at_ a b o (m _ z) e; ⟨h1, h2, fun z' => h3 (m _ z')⟩, fun a a' b z z' => h.sep a a' b (m _ z) (m _ z')⟩
theorem DeepOk.updD {D D' : Own} {H F : Hp} {L : Addr → Hp} (h : DeepOk D H F L) {a : Addr} {o : HO} (hm : ∀ b O, (b, O) ∈ D' → b ≠ a → (b, O) ∈ D) (q0 : ∀ O, (a, O) ∈ D' → O.q o noH F) (ha : H a = none ∨ a ∈ D.map (·.1)) : ∃ L', DeepOk D' (L2.upd H a o) F L' := by
  have nb : ∀ c b u, c ∈ D.map (·.1) → L c b = some u → b ≠ a := fun c b u hc e z => by
    obtain ⟨h1, h2, h3⟩ := h.at_ c b u hc e
    subst z
    rcases ha with ha | ha
    · rw [ha] at h1; cases h1
    · exact h3 ha
  have mm : ∀ b, b ∈ D'.map (·.1) → b ≠ a → b ∈ D.map (·.1) := fun b hb ne => by
    obtain ⟨c, hc, e⟩ := List.mem_map.mp hb
    subst e
    exact List.mem_map.mpr ⟨c, hm c.1 c.2 hc ne, rfl⟩
  refine ⟨fun c => if c = a then noH else L c, fun b O m u hu => ?_, fun c b u hc e => ?_, fun c c' b hc hc' e e' => ?_⟩
  · by_cases z : b = a
    · subst z
      rw [upd_same] at hu
      cases hu
      rw [if_pos rfl]
      exact q0 O m
    · rw [if_neg z]
      rw [upd_ne z] at hu
      exact h.q b O (hm b O m z) u hu
  · by_cases z : c = a
    · rw [if_pos z] at e; cases e
    · rw [if_neg z] at e
      have hc2 := mm c hc z
      obtain ⟨h1, h2, h3⟩ := h.at_ c b u hc2 e
      have ne := nb c b u hc2 e
      exact ⟨by rw [upd_ne ne]; exact h1, h2, fun q => h3 (mm b q ne)⟩
  · by_cases z : c = a
    · rw [if_pos z] at e; exact absurd rfl e
    · by_cases z' : c' = a
      · rw [if_pos z'] at e'; exact absurd rfl e'
      · rw [if_neg z] at e
        rw [if_neg z'] at e'
        exact h.sep c c' b (mm c hc z) (mm c' hc' z') e e'
theorem DeepOk.frzD {D D' : Own} {H H' F : Hp} {L : Addr → Hp} (h : DeepOk D H F L) {p : Addr} {o : HO} (fp : F p = none) (hs : ∀ c ∈ D', c ∈ D) (hr : p ∉ D'.map (·.1)) (hp : H p = none ∨ p ∈ D.map (·.1)) (hH : ∀ b, b ≠ p → H' b = H b) : DeepOk D' H' (upd F p o) L := by
  have s : Same F (upd F p o) := same_new fp
  have m : ∀ a, a ∈ D'.map (·.1) → a ∈ D.map (·.1) := fun a ha => let ⟨c, hc, e⟩ := List.mem_map.mp ha; List.mem_map.mpr ⟨c, hs c hc, e⟩
  refine ⟨fun b O mb u hu => ?_, fun c b u hc e => ?_, fun c c' b hc hc' => h.sep c c' b (m c hc) (m c' hc')⟩
  · have ne : b ≠ p := fun z => hr (z ▸ List.mem_map_of_mem mb)
    rw [hH b ne] at hu
    exact O.qmono s (h.q b O (hs _ mb) u hu)
  · obtain ⟨h1, h2, h3⟩ := h.at_ c b u (m c hc) e
    have ne : b ≠ p := fun z => by
      subst z
      rcases hp with hp | hp
      · rw [hp] at h1; cases h1
      · exact h3 hp
    exact ⟨by rw [hH b ne]; exact h1, by rw [upd_ne ne]; exact h2, fun q => h3 (m b q)⟩
theorem HS.free {D : Own} {H F : Hp} (h : HS D H F) {p : Addr} (e : H p = none) : F p = none := h.sub.free e
theorem HS.notin {D : Own} {H F : Hp} (h : HS D H F) {p : Addr} (e : H p = none) : ∀ O, (p, O) ∉ D := fun O m => by
  obtain ⟨_, o, q, _⟩ := h.own p O m
  rw [e] at q; cases q
theorem HS.new {D : Own} {H F : Hp} (h : HS D H F) {p : Addr} {o : HO} {O : OTy} (e : H p = none) (q : O.p o F) (q0 : O.q o noH F := by trivial) : HS ((p, O) :: D) (upd H p o) F where
  sub := h.sub.trans (same_new e)
  own := fun a O' m => by
    rcases List.mem_cons.mp m with z | z
    · cases z
      exact ⟨h.free e, o, upd_same, q⟩
    · obtain ⟨n, u, hu, hp⟩ := h.own a O' z
      exact ⟨n, u, (same_new e) a u hu, hp⟩
  nd := by
    rw [List.map_cons, List.nodup_cons]
    refine ⟨fun m => ?_, h.nd⟩
    obtain ⟨⟨a, O'⟩, m1, m2⟩ := List.mem_map.mp m
    cases m2
    exact h.notin e O' m1
  deep := by
    obtain ⟨L, hL⟩ := h.deep
    refine hL.updD (fun b O' m ne => ?_) (fun O' m => ?_) (.inl e)
    · rcases List.mem_cons.mp m with z | z
      · cases z; exact absurd rfl ne
      · exact z
    · rcases List.mem_cons.mp m with z | z
      · cases z; exact q0
      · exact absurd z (h.notin e O')
theorem HS.frz {D : Own} {H F : Hp} (h : HS D H F) {p : Addr} {o : HO} (e : H p = none) : HS D (upd H p o) (upd F p o) where
  sub := fun b u q => by
    by_cases z : b = p
    · subst z
      rw [upd_same] at q ⊢
      exact q
    · rw [upd_ne z] at q ⊢
      exact h.sub b u q
  own := fun a O' m => by
    obtain ⟨n, u, hu, hp⟩ := h.own a O' m
    have z : a ≠ p := ne_of_none hu e
    refine ⟨by rw [upd_ne z]; exact n, u, by rw [upd_ne z]; exact hu, O'.mono (same_new (h.free e)) hp⟩
  nd := h.nd
  deep := by
    obtain ⟨L, hL⟩ := h.deep
    exact ⟨L, hL.frzD (h.free e) (fun _ m => m) (fun m => by
      obtain ⟨⟨a, O'⟩, m1, m2⟩ := List.mem_map.mp m
      cases m2
      exact h.notin e O' m1) (.inl e) fun b ne => upd_ne ne⟩
theorem HS.at {D : Own} {H F : Hp} (h : HS D H F) {k : Nat} {a : Addr} {O : OTy} (e : D[k]? = some (a, O)) : ∃ o, H a = some o ∧ O.p o F := (h.own a O (List.mem_of_getElem? e)).2
theorem own_uniq {D : Own} (nd : (D.map (·.1)).Nodup) {k j : Nat} {a : Addr} {O O' : OTy} (e : D[k]? = some (a, O)) (e' : D[j]? = some (a, O')) : k = j :=
  nd_ix nd (x := a) (by rw [List.getElem?_map, e]; rfl) (by rw [List.getElem?_map, e']; rfl)
theorem set_roots {D : Own} {k : Nat} {a : Addr} {O O' : OTy} (e : D[k]? = some (a, O)) : (D.set k (a, O')).map (·.1) = D.map (·.1) := by
  rw [List.map_set]
  refine List.ext_getElem? fun i => ?_
  by_cases z : i = k
  · subst z
    have lt : i < (D.map (·.1)).length := by rw [List.length_map]; exact (List.getElem?_eq_some_iff.mp e).1
    rw [List.getElem?_set_self lt, List.getElem?_map, e]
    rfl
  · rw [List.getElem?_set_ne (Ne.symm z)]
theorem HS.put {D : Own} {H F : Hp} (h : HS D H F) {k : Nat} {a : Addr} {O O' : OTy} {o : HO} (e : D[k]? = some (a, O)) (q : O'.p o F) (q0 : O'.q o noH F := by trivial) : HS (D.set k (a, O')) (upd H a o) F where
  sub := fun b u z => by
    have n := (h.own a O (List.mem_of_getElem? e)).1
    have z2 : b ≠ a := ne_of_none z n
    rw [upd_ne z2]
    exact h.sub b u z
  own := fun b O2 m => by
    obtain ⟨j, hj⟩ := List.getElem?_of_mem m
    by_cases z : j = k
    · subst z
      have lt : j < D.length := (List.getElem?_eq_some_iff.mp e).1
      rw [List.getElem?_set_self lt] at hj
      cases hj
      exact ⟨(h.own _ O (List.mem_of_getElem? e)).1, o, upd_same, q⟩
    · rw [List.getElem?_set_ne (Ne.symm z)] at hj
      obtain ⟨n, u, hu, hp⟩ := h.own b O2 (List.mem_of_getElem? hj)
      have nz : b ≠ a := fun q => by
        subst q
        exact z (own_uniq h.nd hj e)
      exact ⟨n, u, by rw [upd_ne nz]; exact hu, hp⟩
  nd := by
    rw [set_roots e]
    exact h.nd
  deep := by
    obtain ⟨L, hL⟩ := h.deep
    have ne : ∀ b O2, (b, O2) ∈ D.set k (a, O') → ((b, O2) ∈ D ∧ b ≠ a) ∨ (b = a ∧ O2 = O') := fun b O2 m => by
      obtain ⟨j, hj⟩ := List.getElem?_of_mem m
      by_cases z : j = k
      · subst z
        rw [List.getElem?_set_self (List.getElem?_eq_some_iff.mp e).1] at hj
        cases hj
        exact .inr ⟨rfl, rfl⟩
      · rw [List.getElem?_set_ne (Ne.symm z)] at hj
        exact .inl ⟨List.mem_of_getElem? hj, fun q => by
          subst q
          exact z (own_uniq h.nd hj e)⟩
    refine hL.updD (fun b O2 m nb => ?_) (fun O2 m => ?_) (.inr (List.mem_map_of_mem (f := (·.1)) (List.mem_of_getElem? e)))
    · rcases ne b O2 m with z | z
      · exact z.1
      · exact absurd z.1 nb
    · rcases ne a O2 m with z | z
      · exact absurd rfl z.2
      · rw [z.2]; exact q0
theorem HS.drop {D D' : Own} {H F : Hp} (h : HS D H F) (s : D'.Sublist D) : HS D' H F where
  sub := h.sub
  own := fun a O m => h.own a O (s.subset m)
  nd := (s.map _).nodup h.nd
  deep := let ⟨L, hL⟩ := h.deep; ⟨L, hL.drop fun c m => s.subset m⟩
theorem HS.perm {D D' : Own} {H F : Hp} (h : HS D H F) (s : D.Perm D') : HS D' H F where
  sub := h.sub
  own := fun a O m => h.own a O (s.mem_iff.mpr m)
  nd := (s.map _).nodup_iff.mp h.nd
  deep := let ⟨L, hL⟩ := h.deep; ⟨L, hL.drop fun c m => s.mem_iff.mpr m⟩
theorem HS.freeze {D : Own} {H F : Hp} (h : HS D H F) {k : Nat} {a : Addr} {O : OTy} (e : D[k]? = some (a, O)) : ∃ o, O.p o F ∧ HS (D.eraseIdx k) H (upd F a o) ∧ Same F (upd F a o) := by
  obtain ⟨n, o, ho, hp⟩ := h.own a O (List.mem_of_getElem? e)
  refine ⟨o, hp, ?_, same_new n⟩
  have sl : (D.eraseIdx k).Sublist D := List.eraseIdx_sublist _ _
  have nr : ∀ b O2, (b, O2) ∈ D.eraseIdx k → b ≠ a := fun b O2 m q => by
    subst q
    obtain ⟨j, hj⟩ := List.getElem?_of_mem m
    rw [List.getElem?_eraseIdx] at hj
    split at hj
    · rename_i lt
      have := own_uniq h.nd hj e
      omega
    · rename_i lt
      have := own_uniq h.nd hj e
      omega
  refine ⟨fun b u q => ?_, fun b O2 m => ?_, (sl.map _).nodup h.nd, ?_⟩
  · by_cases z : b = a
    · subst z
      rw [upd_same] at q
      rw [← q]; exact ho
    · rw [upd_ne z] at q
      exact h.sub b u q
  · obtain ⟨n2, u, hu, hp2⟩ := h.own b O2 (sl.subset m)
    exact ⟨by rw [upd_ne (nr b O2 m)]; exact n2, u, hu, O2.mono (same_new n) hp2⟩
  · obtain ⟨L, hL⟩ := h.deep
    exact ⟨L, hL.frzD n (fun c m => sl.subset m) (fun m => by
      obtain ⟨c, hc, ec⟩ := List.mem_map.mp m
      exact nr c.1 c.2 hc ec) (.inr (List.mem_map_of_mem (f := (·.1)) (List.mem_of_getElem? e))) fun b _ => rfl⟩
inductive SS (F : Hp) : Sto → St → Prop
  | nil : SS F [] []
  | non {G : Sto} {σ : St} {x : Option V} : SS F G σ → SS F (none :: G) (x :: σ)
  | som {G : Sto} {σ : St} {R : Ty} {v : V} : R.p v F → SS F G σ → SS F (some R :: G) (some v :: σ)
theorem SS.mono {F F' : Hp} {G : Sto} {σ : St} (h : SS F G σ) (s : Same F F') : SS F' G σ := by
  induction h with
  | nil => exact .nil
  | non _ ih => exact .non ih
  | som r _ ih => exact .som (Ty.mono _ s r) ih
theorem SS.get {F : Hp} {G : Sto} {σ : St} (h : SS F G σ) : ∀ {i : Nat} {R : Ty}, G[i]? = some (some R) → ∃ v, σ[i]? = some (some v) ∧ R.p v F := by
  induction h with
  | nil => intro i R e; simp at e
  | non _ ih =>
    intro i R e
    cases i with
    | zero => simp at e
    | succ i => simpa using ih (by simpa using e)
  | som r _ ih =>
    intro i R e
    cases i with
    | zero =>
      simp at e
      subst e
      exact ⟨_, by simp, r⟩
    | succ i => simpa using ih (by simpa using e)
theorem SS.set {F : Hp} {G : Sto} {σ : St} {R : Ty} {v : V} (h : SS F G σ) (r : R.p v F) : ∀ (i : Nat), SS F (G.set i (some R)) (σ.set i (some v)) := by
  induction h with
  | nil => intro i; exact .nil
  | non h ih =>
    intro i
    cases i with
    | zero => exact .som r h
    | succ i => exact .non (ih i)
  | som q h ih =>
    intro i
    cases i with
    | zero => exact .som r h
    | succ i => exact .som q (ih i)
theorem SS.unset {F : Hp} {G : Sto} {σ : St} {x : Option V} (h : SS F G σ) : ∀ (i : Nat), SS F (G.set i none) (σ.set i x) := by
  induction h with
  | nil => intro i; exact .nil
  | non h ih =>
    intro i
    cases i with
    | zero => exact .non h
    | succ i => exact .non (ih i)
  | som q h ih =>
    intro i
    cases i with
    | zero => exact .non h
    | succ i => exact .som q (ih i)
inductive SLe : Sto → Sto → Prop
  | nil : SLe [] []
  | drop {G G' : Sto} {x : Option Ty} : SLe G G' → SLe (x :: G) (none :: G')
  | imp {G G' : Sto} {R R' : Ty} : (∀ v F, R.p v F → R'.p v F) → SLe G G' → SLe (some R :: G) (some R' :: G')
theorem SLe.refl : ∀ (G : Sto), SLe G G
  | [] => .nil
  | none :: G => .drop (SLe.refl G)
  | some R :: G => .imp (fun _ _ h => h) (SLe.refl G)
theorem SS.weak {F : Hp} {G G' : Sto} (l : SLe G G') : ∀ {σ : St}, SS F G σ → SS F G' σ := by
  induction l with
  | nil => intro σ h; exact h
  | drop _ ih =>
    intro σ h
    cases h with
    | non h => exact .non (ih h)
    | som r h => exact .non (ih h)
  | imp f _ ih =>
    intro σ h
    cases h with
    | som r h => exact .som (f _ _ r) (ih h)
theorem SS.len {F : Hp} {G : Sto} {σ : St} (h : SS F G σ) : σ.length = G.length := by
  induction h with
  | nil => rfl
  | non _ ih => simp [ih]
  | som _ _ ih => simp [ih]
inductive AllP (F : Hp) : List Ty → List V → Prop
  | nil : AllP F [] []
  | cons {R : Ty} {Rs : List Ty} {v : V} {vs : List V} : R.p v F → AllP F Rs vs → AllP F (R :: Rs) (v :: vs)
theorem AllP.mono {F F' : Hp} {Rs : List Ty} {vs : List V} (h : AllP F Rs vs) (s : Same F F') : AllP F' Rs vs := by
  induction h with
  | nil => exact .nil
  | cons r _ ih => exact .cons (Ty.mono _ s r) ih
theorem AllP.len {F : Hp} {Rs : List Ty} {vs : List V} (h : AllP F Rs vs) : vs.length = Rs.length := by
  induction h with
  | nil => rfl
  | cons _ _ ih => simp [ih]
theorem AllP.get {F : Hp} {Rs : List Ty} {vs : List V} (h : AllP F Rs vs) : ∀ {i : Nat} {R : Ty}, Rs[i]? = some R → ∃ v, vs[i]? = some v ∧ R.p v F := by
  induction h with
  | nil => intro i R e; simp at e
  | cons r _ ih =>
    intro i R e
    cases i with
    | zero => simp at e; subst e; exact ⟨_, by simp, r⟩
    | succ i => simpa using ih (by simpa using e)
theorem AllP.append {F : Hp} {Rs Rs' : List Ty} {vs vs' : List V} (h : AllP F Rs vs) (h' : AllP F Rs' vs') : AllP F (Rs ++ Rs') (vs ++ vs') := by
  induction h with
  | nil => exact h'
  | cons r _ ih => exact .cons r ih
theorem SS.start {F : Hp} {Rs : List Ty} {vs : List V} {N : List Str} (h : AllP F Rs vs) : SS F (Rs.map some ++ List.replicate (N.length - vs.length) none) (L2.start N vs) := by
  unfold L2.start
  generalize N.length - vs.length = m
  induction h with
  | nil =>
    induction m with
    | zero => exact .nil
    | succ m ih => exact .non ih
  | cons r _ ih => exact .som r ih
def Ev (te : TE) (G : Sto) (D : Own) (R : Ty) (D' : Own) : Prop :=
  ∀ (σ : St) (H F : Hp), HS D H F → SS F G σ → ∀ Q : VK, (∀ v H' F', Same F F' → HS D' H' F' → R.p v F' → Q v H') → te σ H Q
def EvT (tt : TT) (G : Sto) (D : Own) (b : Bool) (D' : Own) : Prop :=
  ∀ (σ : St) (H F : Hp), HS D H F → SS F G σ → ∀ Q : Bool → Hp → Prop, (∀ H' F', Same F F' → HS D' H' F' → Q b H') → tt σ H Q
def StP (F0 : Hp) (G : Sto) (D : Own) : St → Hp → Prop := fun σ H => ∃ F, Same F0 F ∧ HS D H F ∧ SS F G σ
def Go (P : St → Hp → Prop) (F0 : Hp) (G : Sto) (D : Own) : Prop := ∀ σ H F, Same F0 F → HS D H F → SS F G σ → P σ H
def GoV (P : VK) (F0 : Hp) (R : Ty) (D : Own) : Prop := ∀ v H F, Same F0 F → HS D H F → R.p v F → P v H
def GoX (P : XK) (F0 : Hp) (c : Value) (D : Own) : Prop := ∀ H F, Same F0 F → HS D H F → P c none H
theorem Go.weak {P : St → Hp → Prop} {F0 : Hp} {G G' : Sto} {D D' : Own} (h : Go P F0 G' D') (l : SLe G G') (d : D'.Sublist D) : Go P F0 G D :=
  fun σ H F s hs ss => h σ H F s (hs.drop d) (ss.weak l)
theorem Go.mono {P P' : St → Hp → Prop} {F0 : Hp} {G : Sto} {D : Own} (h : Go P F0 G D) (f : ∀ σ H, P σ H → P' σ H) : Go P' F0 G D := fun σ H F s hs ss => f _ _ (h σ H F s hs ss)
mutual
theorem dp_mono {K : PySem.W.Frag} {F F' : Hp} (s : Same F F') : ∀ (d : PyData) (v : V), Dp K F v d → Dp K F' v d
  | .none, _, h => by cases h; exact .non
  | .bool b, _, h => by cases h; exact .bl b
  | .int i, _, h => by cases h; exact .int i
  | .str x, _, h => by cases h; exact .str x
  | .list ds, _, h => by
    cases h with
    | lst h1 h2 => exact .lst (s.seq h1) (dpAll_mono s ds _ h2)
  | .tuple ds, _, h => by
    cases h with
    | tup h1 h2 =>
      refine .tup ?_ (dpAll_mono s ds _ h2)
      rcases h1 with (h1 | ⟨o, h1⟩) | h1
      · exact .inl (.inl (s _ _ h1))
      · exact .inl (.inr ⟨o, s _ _ h1⟩)
      · exact .inr h1
  | .dict _, _, h => by cases h
theorem dpAll_mono {K : PySem.W.Frag} {F F' : Hp} (s : Same F F') : ∀ (ds : List PyData) (vs : List V), DpAll K F vs ds → DpAll K F' vs ds
  | [], _, h => by cases h; exact .nil
  | d :: ds, _, h => by
    cases h with
    | cons h1 h2 => exact .cons (dp_mono s d _ h1) (dpAll_mono s ds _ h2)
end
def D (K : PySem.W.Frag) (d : PyData) : Ty := ⟨fun v F => Dp K F v d, fun s h => dp_mono s d _ h⟩
abbrev DI (K : PySem.W.Frag) (i : Int) : Ty := D K (.int i)
abbrev DB (K : PySem.W.Frag) (b : Bool) : Ty := D K (.bool b)
abbrev DS (K : PySem.W.Frag) (x : Str) : Ty := D K (.str x)
abbrev DN (K : PySem.W.Frag) : Ty := D K .none
def Is (v : V) : Ty := ⟨fun w _ => w = v, fun _ h => h⟩
section
variable {K : PySem.W.Frag} {F : Hp} {v : V}
theorem dp_int {i : Int} (h : (DI K i).p v F) : v = .int i := by cases h; rfl
theorem dp_bl {b : Bool} (h : (DB K b).p v F) : v = .bl b := by cases h; rfl
theorem dp_str {x : Str} (h : (DS K x).p v F) : v = .str x := by cases h; rfl
theorem dp_tup {ds : List PyData} (h : (D K (.tuple ds)).p v F) : ∃ a xs, v = .ref a ∧ SqT K F a xs ∧ DpAll K F xs ds := by
  cases h with
  | tup h1 h2 => exact ⟨_, _, rfl, h1, h2⟩
theorem dp_lst {ds : List PyData} (h : (D K (.list ds)).p v F) : ∃ a xs, v = .ref a ∧ SqL K F a xs ∧ DpAll K F xs ds := by
  cases h with
  | lst h1 h2 => exact ⟨_, _, rfl, h1, h2⟩
theorem same_sqT {F F' : Hp} {a : Addr} {xs : List V} (s : Same F F') (h : SqT K F a xs) : SqT K F' a xs := by
  rcases h with (h1 | ⟨o, h1⟩) | h1
  · exact .inl (.inl (s _ _ h1))
  · exact .inl (.inr ⟨o, s _ _ h1⟩)
  · exact .inr h1
theorem allP_dp : ∀ {ds : List PyData} {vs : List V}, AllP F (ds.map (D K)) vs → DpAll K F vs ds
  | [], _, h => by cases h; exact .nil
  | a :: ds, _, h => by
    cases h with
    | cons h1 h2 => exact .cons h1 (allP_dp h2)
end
end TL
set_option Elab.async false
set_option linter.all false
set_option maxRecDepth 100000
set_option maxHeartbeats 1000000
namespace TL
open PySem PySem.Spec L2
section
variable {K : PySem.W.Frag} {G : Sto} {D0 D1 D2 D3 : Own} {te ta tb tc : TE} {tt tu : TT} {R Ra Rb : Ty}
theorem ev_var {i : Nat} (h : G[i]? = some (some R)) : Ev (tVar i) G D0 R D0 := fun σ H F hs ss Q q => by
  obtain ⟨v, e, r⟩ := ss.get h
  exact ⟨v, e, q v H F (Same.refl _) hs r⟩
theorem ev_c {v : V} (h : ∀ F, R.p v F) : Ev (tC v) G D0 R D0 := fun σ H F hs ss Q q => q v H F (Same.refl _) hs (h F)
theorem ev_int {i : Int} : Ev (tC (.int i)) G D0 (DI K i) D0 := ev_c fun _ => .int i
theorem ev_bl {b : Bool} : Ev (tC (.bl b)) G D0 (DB K b) D0 := ev_c fun _ => .bl b
theorem ev_str {x : Str} : Ev (tC (.str x)) G D0 (DS K x) D0 := ev_c fun _ => .str x
theorem ev2 {r : R2} (ha : Ev ta G D0 Ra D1) (hb : Ev tb G D1 Rb D2) (hr : ∀ x y H F, HS D2 H F → Ra.p x F → Rb.p y F → ∀ Q : VK, (∀ v H' F', Same F F' → HS D3 H' F' → R.p v F' → Q v H') → r x y H Q) : Ev (tOp r ta tb) G D0 R D3 := fun σ H F hs ss Q q =>
  ha σ H F hs ss _ fun x H1 F1 s1 hs1 r1 => hb σ H1 F1 hs1 (ss.mono s1) _ fun y H2 F2 s2 hs2 r2 =>
    hr x y H2 F2 hs2 (Ra.mono s2 r1) r2 Q fun v H3 F3 s3 => q v H3 F3 ((s1.trans s2).trans s3)
theorem ev_opI {C : Int → Int → Prop} {g : Int → Int → Int} {i j : Int} (ha : Ev ta G D0 (DI K i) D1) (hb : Ev tb G D1 (DI K j) D2) (c : C i j) : Ev (tOp (rI C fun i j => .int (g i j)) ta tb) G D0 (DI K (g i j)) D2 :=
  ev2 ha hb fun x y H F hs rx ry Q q => by
    rw [dp_int rx, dp_int ry]
    exact ⟨i, j, rfl, rfl, c, q _ H F (Same.refl _) hs (.int _)⟩
theorem dp_up {H F : Hp} {D : Own} (hs : HS D H F) {d : PyData} {v : V} (h : Dp K F v d) : Dp K H v d := dp_mono hs.sub d v h
theorem sizeLine_big : 100000 ≤ sizeLine := by decide
theorem sqT_up {H F : Hp} {D : Own} (hs : HS D H F) {a : Addr} {xs : List V} (h : SqT K F a xs) : SqT K H a xs := same_sqT hs.sub h
theorem sqL_up {H F : Hp} {D : Own} (hs : HS D H F) {a : Addr} {xs : List V} (h : SqL K F a xs) : SqL K H a xs := hs.sub.seq h
theorem allP1 {F : Hp} {vs : List V} (h : AllP F [R] vs) : ∃ v, vs = [v] ∧ R.p v F := by
  cases h with
  | cons h1 h2 => cases h2; exact ⟨_, rfl, h1⟩
theorem allP2 {F : Hp} {vs : List V} (h : AllP F [Ra, Rb] vs) : ∃ v w, vs = [v, w] ∧ Ra.p v F ∧ Rb.p w F := by
  cases h with
  | cons h1 h2 =>
    obtain ⟨w, rfl, h3⟩ := allP1 h2
    exact ⟨_, _, rfl, h1, h3⟩
abbrev cAbs : List V → Hp → VK → Prop := fun xs H Q => ∃ i, xs = [.int i] ∧ Q (.int (if i < 0 then -i else i)) H
abbrev cMax2 : List V → Hp → VK → Prop := fun xs H Q => ∃ i j, xs = [.int i, .int j] ∧ Q (.int (if j > i then j else i)) H
abbrev cMin2 : List V → Hp → VK → Prop := fun xs H Q => ∃ i j, xs = [.int i, .int j] ∧ Q (.int (if j < i then j else i)) H
abbrev cInt1 : List V → Hp → VK → Prop := fun xs H Q => (∃ i, xs = [.int i] ∧ Q (.int i) H) ∨ ∃ k, xs = [.bl k] ∧ Q (.int (if k then 1 else 0)) H
abbrev cLen (K : PySem.W.Frag) : List V → Hp → VK → Prop := fun xs H Q => ∃ x n, xs = [x] ∧ LenV K x H n ∧ Q (.int n) H
end
end TL
set_option Elab.async false
set_option linter.all false
set_option maxRecDepth 100000
set_option maxHeartbeats 1000000
namespace TL
open PySem PySem.Spec L2
section
variable {K : PySem.W.Frag} {G G1 G2 : Sto} {D0 D1 D2 D3 : Own} {te ta tb tc : TE} {tt tu : TT} {R Ra Rb : Ty} {E En : Ends} {F0 F1 : Hp} {t u : TS}
theorem Go.up {P : St → Hp → Prop} (h : Go P F0 G D0) (s : Same F0 F1) : Go P F1 G D0 := fun σ H F s1 => h σ H F (s.trans s1)
theorem GoV.up {P : VK} (h : GoV P F0 R D0) (s : Same F0 F1) : GoV P F1 R D0 := fun v H F s1 => h v H F (s.trans s1)
theorem GoX.up {P : XK} {c : Value} (h : GoX P F0 c D0) (s : Same F0 F1) : GoX P F1 c D0 := fun H F s1 => h H F (s.trans s1)
theorem GoV.imp {P : VK} (h : GoV P F0 R D0) (f : ∀ v F, Ra.p v F → R.p v F) : GoV P F0 Ra D0 := fun v H F s hs r => h v H F s hs (f v F r)
theorem GoV.drop {P : VK} (h : GoV P F0 R D1) (s : D1.Sublist D0) : GoV P F0 R D0 := fun v H F s1 hs r => h v H F s1 (hs.drop s) r
theorem Ev.drop (h : Ev te G D0 R D1) (s : D2.Sublist D1) : Ev te G D0 R D2 := fun σ H F hs ss Q q => h σ H F hs ss Q fun v H' F' s1 hs' r => q v H' F' s1 (hs'.drop s) r
theorem go_seq (h : Go (t { E with nx := u E }) F0 G D0) : Go (tSeq t u E) F0 G D0 := h
theorem go_next (h : Go E.nx F0 G D0) : Go (tNext E) F0 G D0 := h
def EvG (g : TG) (G : Sto) (R : Ty) (G1 : Sto) : Prop := ∀ (v : V) (σ : St) (H F : Hp) (D : Own), HS D H F → SS F G σ → R.p v F → ∀ Q : St → Hp → Prop, (∀ σ', SS F G1 σ' → Q σ' H) → g v σ H Q
theorem evG_name {i : Nat} : EvG (gName i) G R (G.set i (some R)) := fun v σ H F D hs ss r Q q => q _ (ss.set r i)
def ItOk (K : PySem.W.Frag) (J : It) (ds : List PyData) (F0 : Hp) : Prop := ∀ (D : Own) (H F : Hp), Same F0 F → HS D H F → ∀ i : Nat,
  (∀ d, ds[i]? = some d → J.go i H ∧ ∀ x H', J.yld i H x H' → ∃ F2, Same F F2 ∧ HS D H' F2 ∧ Dp K F2 x d) ∧ (ds.length ≤ i → J.stop i H)
def rangeD (lo : Int) (n : Nat) : List PyData := (List.range n).map fun i : Nat => PyData.int (lo + (i : Int))
theorem rangeD_len {lo : Int} {n : Nat} : (rangeD lo n).length = n := by simp [rangeD]
theorem rangeD_get {lo : Int} {n i : Nat} {d : PyData} (h : (rangeD lo n)[i]? = some d) : i < n ∧ d = .int (lo + (i : Int)) := by
  unfold rangeD at h
  rw [List.getElem?_map] at h
  by_cases hi : i < n
  · rw [List.getElem?_range hi] at h
    cases h
    exact ⟨hi, rfl⟩
  · rw [List.getElem?_eq_none (by simpa using hi)] at h
    cases h
theorem itr_ok {lo : Int} {n : Nat} {F : Hp} : ItOk K (Itr lo n) (rangeD lo n) F := fun D H2 F2 s2 hs2 i => ⟨fun d hd => by
    obtain ⟨h1, rfl⟩ := rangeD_get hd
    refine ⟨h1, fun x H' hy => ?_⟩
    obtain ⟨e1, e2⟩ := hy
    subst e1 e2
    exact ⟨F2, Same.refl _, hs2, .int _⟩, fun hl => by rw [rangeD_len] at hl; exact hl⟩
inductive Out where
  | ok (R : Ty)
  | err (c : Value)
  | new (O : OTy)
def GoN (P : VK) (F0 : Hp) (O : OTy) (D : Own) : Prop := ∀ p H F, Same F0 F → HS ((p, O) :: D) H F → P (.ref p) H
def Post (o : Out) (rt : VK) (X : XK) (F : Hp) (D : Own) : Prop := match o with
  | .ok R => GoV rt F R D
  | .err c => GoX X F c D
  | .new O => GoN rt F O D
theorem GoN.up {P : VK} {O : OTy} (h : GoN P F0 O D0) (s : Same F0 F1) : GoN P F1 O D0 := fun p H F s1 => h p H F (s.trans s1)
theorem Post.up {o : Out} {rt : VK} {X : XK} (h : Post o rt X F0 D0) (s : Same F0 F1) : Post o rt X F1 D0 := by
  cases o with
  | ok R => exact GoV.up h s
  | err c => exact GoX.up h s
  | new O => exact GoN.up h s
theorem Post.new {rt : VK} {X : XK} {o : Out} {O : OTy} (h : Post o rt X F0 D0) (e : o = .new O) : GoN rt F0 O D0 := by subst e; exact h
theorem Post.ok {rt : VK} {X : XK} {o : Out} (h : Post o rt X F0 D0) (e : o = .ok R) : GoV rt F0 R D0 := by subst e; exact h
theorem Post.err {rt : VK} {X : XK} {o : Out} {c : Value} (h : Post o rt X F0 D0) (e : o = .err c) : GoX X F0 c D0 := by subst e; exact h
def fsp {T : Type} (args : T → List Ty) (pre : T → Prop) (out : T → Out) : Sp := fun vs H Q X => ∃ (x : T) (F : Hp) (D : Own), HS D H F ∧ AllP F (args x) vs ∧ pre x ∧ Post (out x) Q X F D
end
end TL
set_option Elab.async false
set_option linter.all false
set_option maxRecDepth 100000
set_option maxHeartbeats 1000000
namespace TL
open PySem PySem.Spec L2
open PyProof.Rows (AllBare)
def ExT (cls : Value) (a : Addr) : HO := .ext fun h => ∃ (oe : Obj) (vs : Array Value), h.get? a = some oe ∧ Zc cls none oe ∧ oe.data = .fields vs
section
variable {X : Cx} {x n : Str} {c : Value} {i : Nat} {body suite : List Stmt} {b0 : Stmt} {np pos pos' : Pos} {tb : WX → TS} {ts : TS} {Wout : WX}
end
theorem exT_inst {X : Cx} {pins : List (Addr × Obj)} {σ : St} {H : Hp} {s : Shared} {a C : Addr} (I : Inv X pins σ H s) (h : H a = some (ExT (.ref C) a)) : ∃ oe, PySem.W.InstAt s.heap a oe C none := by
  obtain ⟨⟨oe, vs, hget, hz, hv⟩, _, _⟩ := I.hok a _ h
  obtain ⟨oc, od, oda, osl⟩ := oe
  obtain ⟨h1, h2⟩ := hz
  dsimp only at h1 h2 hv
  subst h1 h2 hv
  exact ⟨_, hget, rfl, rfl, trivial⟩
def rIsX (K : PySem.W.Frag) : List V → Hp → VK → Prop := fun xs H Q => ∃ (a C : Addr) (c : V) (u : Value) (b : Bool), xs = [.ref a, c] ∧ H a = some (ExT (.ref C) a) ∧ ExcC K C ∧ ClsV c u ∧ PySem.W.kitOne K (.ref C) u = some b ∧ Q (.bl b) H
section
variable {X : Cx}
theorem call_isX : CallR X (.builtin "isinstance") (rIsX X.K) := by
  intro pins s σ H xs us Q I r h
  obtain ⟨a, C, c, u, b, rfl, ha, hC, k, e, q⟩ := h
  obtain ⟨u1, u2, rfl, r1, r2⟩ := vals2 r
  have e2 := k.eq r2
  subst e2
  cases (show u1 = Value.ref a from r1)
  obtain ⟨oe, J⟩ := exT_inst I ha
  exact PySem.W.kia_one (PySem.W.handS_kitx_exc hC.hg hC.hk hC.hs hC.hd hC.ha hC.hn hC.ht hC.hm) I.kIn J e (fun z => nomatch z) fun tk => ⟨.bl b, H, I.tok tk, rfl, q⟩
theorem CallR.or {f : Value} {r r' : List V → Hp → VK → Prop} (h : CallR X f r) (h' : CallR X f r') : CallR X f (fun xs H Q => r xs H Q ∨ r' xs H Q) := fun pins s σ H xs us Q I rr z => by
  rcases z with z | z
  · exact h pins s σ H xs us Q I rr z
  · exact h' pins s σ H xs us Q I rr z
def cIsi (K : PySem.W.Frag) : List V → Hp → VK → Prop := fun xs H Q => rIsi K xs H Q ∨ rIsX K xs H Q
theorem call_isiA : CallR X (.builtin "isinstance") (cIsi X.K) := CallR.or call_isi call_isX
end
def tyN : PyData → String
  | .none => "NoneType" | .bool _ => "bool" | .int _ => "int" | .str _ => "str" | .list _ => "list" | .tuple _ => "tuple" | .dict _ => "dict"
theorem tyX_of {K : PySem.W.Frag} {H : Hp} {v : V} {d : PyData} (h : Dp K H v d) : TyX K H v (.type (tyN d)) := by
  cases h with
  | non => exact .base .non
  | bl b => exact .base (.bl b)
  | int i => exact .base (.int i)
  | str x => exact .base (.str x)
  | lst h1 h2 =>
    rcases h1 with (h1 | ⟨o, h1⟩) | ⟨_, _, _, h1, h2, _⟩
    · exact .base (.lst h1)
    · exact .base (.frz h1)
    · exact .kList h1 h2
  | tup h1 h2 =>
    rcases h1 with (h1 | ⟨o, h1⟩) | ⟨_, _, _, h1, h2, _⟩
    · exact .base (.tup h1)
    · exact .fTuple h1
    · exact .kTuple h1 h2
section
variable {K : PySem.W.Frag} {G G1 G2 : Sto} {D0 D1 D2 D3 : Own} {te ta tb tc : TE} {tt tu : TT} {R Ra Rb : Ty} {E En : Ends} {F0 F1 : Hp} {t u : TS}
end
end TL
set_option Elab.async false
set_option linter.all false
set_option maxRecDepth 100000
set_option maxHeartbeats 1000000
namespace TL
open PySem PySem.Spec L2
def CDivA (_ j : Int) : Prop := j ≠ 0 ∧ j.natAbs.log2 < 9000
abbrev rAddS : R2 := fun x y H Q => ∃ i j, x = .str i ∧ y = .str j ∧ i.length + j.length ≤ sizeLine ∧ Q (.str (i ++ j)) H
abbrev rAddI : R2 := rI0 fun i j => .int (i + j)
abbrev rSubI : R2 := rI0 fun i j => .int (i - j)
abbrev rMulI : R2 := rI CMulW fun i j => .int (i * j)
abbrev rDivI : R2 := rI CDivA fun i j => .int (i.fdiv j)
abbrev rModI : R2 := rI (fun _ j => j ≠ 0) fun i j => .int (i.fmod j)
abbrev rPowI : R2 := rI CPow fun i j => .int (i ^ j.toNat)
abbrev rLtI : R2 := rI0 fun i j => .bl (decide (i < j))
abbrev rGtI : R2 := rI0 fun i j => .bl (decide (j < i))
abbrev rGeI : R2 := rI0 fun i j => .bl (decide (j ≤ i))
def rCatN (K : PySem.W.Frag) : R2 := fun x y H Q => ∃ a b ys, x = .ref a ∧ y = .ref b ∧ SqT K H a [] ∧ SqT K H b ys ∧ Q (.ref b) H
def qAdd (K : PySem.W.Frag) : R2 := fun x y H Q => rAddI x y H Q ∨ rAddS x y H Q ∨ rCat x y H Q ∨ rCatT K x y H Q ∨ rCatN K x y H Q
def qMul (K : PySem.W.Frag) : R2 := fun x y H Q => rMulI x y H Q ∨ rRep x y H Q
def qEq (K : PySem.W.Frag) : R2 := fun x y H Q => rEq x y H Q ∨ rEqD K x y H Q
def qNe (K : PySem.W.Frag) : R2 := fun x y H Q => rNe x y H Q ∨ rNeD K x y H Q
def qNegI : V → Hp → VK → Prop := rU fun i => .int (-i)
section
variable {X : Cx}
theorem op_div : OpR X (binaryOp .FloorDiv) rDivI := opI fun i j _ _ _ _ _ hc q => PyProof.Rows.floordiv_int hc.1 q (.inl (PyProof.noPylong_of_log2 hc.2))
theorem op_catN : OpR X (binaryOp .Add) (rCatN X.K) := by
  intro pins s σ H x y v u Q I rx ry h
  obtain ⟨a, b, ys, rfl, rfl, ha, hb, q⟩ := h
  cases rx
  cases ry
  obtain ⟨its, r1, p1, _⟩ := I.tuple ha
  obtain ⟨its2, r2, p2, _⟩ := I.tuple hb
  have none : its = [] := r1.nil_iff.mpr rfl
  obtain ⟨⟨c1, d1, t1, l1⟩, g1, k1, n1, m1⟩ := id p1
  obtain ⟨⟨c2, d2, t2, l2⟩, g2, k2, n2, m2⟩ := id p2
  simp only at k1 m1 k2 m2
  subst k1 m1 k2 m2
  exact concat_meets ⟨_, g1, rfl⟩ ⟨_, g2, rfl⟩ PySem.noFill_tuple_add PySem.seq_tuple_add PySem.F.slot_tuple_add PySem.F.entry_tuple_add (PySem.F.args_tuple_add_2 _ _)
    (PyProof.Rows.tuple_addW0 a b its.toArray its2.toArray n1 n2 d1 d2 l1 l2 (by simp [none])) ⟨g1, g2, ⟨.ref b, H, I, rfl, q⟩⟩
theorem op_addU : OpR X (binaryOp .Add) (qAdd X.K) := op_add.or (op_add_str.or (op_cat.or (op_catT.or op_catN)))
theorem op_mulU : OpR X (binaryOp .Mult) (qMul X.K) := op_mulW.or op_rep
theorem op_eqU (hu : X.A.units + 64 < cLine) : OpR X (compareOp .Eq) (qEq X.K) := op_eq.or (op_eqD hu)
theorem op_neU (hu : X.A.units + 64 < cLine) : OpR X (compareOp .NotEq) (qNe X.K) := op_ne.or (op_neD hu)
theorem un_negU : UnR X (unaryOp .USub) qNegI := un_neg
end
section
variable {K : PySem.W.Frag} {G G1 G2 : Sto} {D0 D1 D2 D3 : Own} {te ta tb tc : TE} {tt tu : TT} {R Ra Rb : Ty}
theorem ev_pow {i j : Int} (ha : Ev ta G D0 (DI K i) D1) (hb : Ev tb G D1 (DI K j) D2) (c : CPow i j) : Ev (tOp rPowI ta tb) G D0 (DI K (i ^ j.toNat)) D2 := ev_opI ha hb c
end
structure Fo (P : Program) (w : World) (K : PySem.W.Frag) (mg : Str → Option Value) (base : Heap) (x : Str) (ps : List Str) (dvs : List V) (k : Nat) (sp : Sp) : Prop where
  ex : ∃ f fd ds, FnOk P w K mg base (L2.CX P w) k f fd ps sp ∧ mg x = some (.ref f) ∧ PySem.W.keepIn K (.ref f) = true ∧ Binds K fd ps ds ∧ Vals dvs ds
section
variable {X : Cx} {x : Str} {ps : List Str} {dvs : List V} {k : Nat} {sp : Sp} {t : TA} {e : Expr} {es : List Expr} {p pos : Pos} {EX : XK} {W : WX}
theorem pe_callF (F : Fo X.prog X.w X.K X.mg X.base x ps dvs k sp) (hr : Room k X.A) (hx : Passes (L2.CX X.prog X.w) X EX) (ha : PA X (e :: es) t) (hg : Gl X x := by rfl) (hdb : (x == ("__debug__" : Str)) = false := by decide)
    (he : starEach (e :: es) X.env = (false, eval e X.env) :: starEach es X.env := by rfl) (hpl : (backTo pos (starEach es X.env)).any (·.1) = false := by rfl) : PE X (.Call (.Name x p) (e :: es) [] pos) (tCall sp dvs EX t) := by
  obtain ⟨f, fd, ds, G, hm, hk, hb, hd⟩ := F.ex
  exact pe_call G hr hg hm hk hb hd hx ha hdb he hpl
def tCallSD (sp : Sp) (dvs : List V) (E : St → XK) (t : TA) : TE := fun σ H Q => t σ H fun vs H1 => sp (vs ++ dvs) H1 Q (E σ)
end
section
variable {K : PySem.W.Frag} {G G1 G2 : Sto} {D0 D1 D2 D3 : Own} {te ta tb tc : TE} {R Ra Rb : Ty} {E : Ends} {F0 F1 : Hp}
end
theorem fo_mk {P : Program} {w : World} {K : PySem.W.Frag} {mg : Str → Option Value} {base : Heap} {x : Str} {ps : List Str} {k : Nat} {sp : Sp} {f : Addr} {fd : FuncData} {name qual : Str} {params : Arguments} {body : List Stmt} {scope : Scope}
    (F : FunD K name qual params body scope [] [] f fd) (hm : mg x = some (.ref f)) (ok : FnOk P w K mg base (L2.CX P w) k f fd ps sp)
    (h : ∀ (kV doc pm : Value) (an : Option Addr) (cdv ct : Value) (us : List Value), us.length = ps.length → bindArgs (PySem.W.fnOf name qual params body scope .none kV doc pm an cdv ct) ⟨us, []⟩ = pure (ps.zip us)) : Fo P w K mg base x ps [] k sp :=
  ⟨f, fd, [], ok, hm, F.kp, FunD.bindsN F h, .nil⟩
end TL
set_option Elab.async false
set_option linter.all false
set_option maxRecDepth 100000
set_option maxHeartbeats 1000000
namespace TL
open PySem PySem.Spec L2
section
variable {X : Cx} {x : Str} {pos : Pos}
def iLT (K : PySem.W.Frag) (tl : TE) : TI := fun σ H R => tl σ H fun x H1 => ∃ a, x = .ref a ∧ ((∃ xs, SqL K H1 a xs) ∧ R (Itl K a) H1 ∨ (∃ xs, SqT K H1 a xs) ∧ R (Itt K a) H1)
theorem pi_lt {tg l : Expr} {tl : TE} (hl : PE X l tl) : PI X tg l (iLT X.K tl) := by
  refine ⟨fun pins s σ H R I h => ?_⟩
  refine thn (hl.run pins s σ H _ I h) fun v s1 ⟨x, H1, I1, r1, q1⟩ => ?_
  obtain ⟨a, e, q1⟩ := q1
  subst e
  cases r1
  rcases q1 with ⟨⟨xs, hq⟩, q⟩ | ⟨⟨xs, hq⟩, q⟩
  · obtain ⟨its, rv, p, hz⟩ := I1.list hq
    refine wpAny_pyIter_list p.isList ?_
    refine ⟨s1.heap.objs.size, [s1.heap.objs.size], _, _, H1, rfl, I1.kept (t' := s1.toks) fun b o e => Heap.get?_push_of_some _ e, turn_list a _, ⟨_, Heap.get?_push_size _ rfl, rfl, rfl⟩, fun b hb => ?_, q⟩
    have e : b = s1.heap.objs.size := by simpa using hb
    subst e
    exact I1.fpOk (Nat.le_refl _) (I1.hok.fresh (Nat.le_refl _))
  · obtain ⟨its, rv, p, hz⟩ := I1.tuple hq
    refine wpAny_pyIter_tuple (show s1.heap.IsTuple a its.toArray from p) ?_
    refine ⟨s1.heap.objs.size, [s1.heap.objs.size], _, _, H1, rfl, I1.kept (t' := s1.toks) fun b o e => Heap.get?_push_of_some _ e, turn_tuple a _, ⟨_, Heap.get?_push_size _ rfl, rfl, rfl⟩, fun b hb => ?_, q⟩
    have e : b = s1.heap.objs.size := by simpa using hb
    subst e
    exact I1.fpOk (Nat.le_refl _) (I1.hok.fresh (Nat.le_refl _))
def iSeq (K : PySem.W.Frag) (tl : TE) : TI := fun σ H R => iList K tl σ H R ∨ iTup K tl σ H R ∨ iLT K tl σ H R
theorem pi_seq {tg l : Expr} {tl : TE} (hl : PE X l tl) : PI X tg l (iSeq X.K tl) := ⟨fun pins s σ H R I h => by
  rcases h with h | h | h
  · exact (pi_list hl).run pins s σ H R I h
  · exact (pi_tup hl).run pins s σ H R I h
  · exact (pi_lt hl).run pins s σ H R I h⟩
structure ExOk (K : PySem.W.Frag) (C : Addr) : Prop where
  x : PySem.W.excIn K C He.veBase "ValueError.__new__" = true
  k : PySem.W.keepIn K (.ref C) = true
  b : PySem.W.subIn K (.ref C) (.type "BaseException") = some true
  t : PySem.W.typeIn K (.ref C) = some (.type "type")
  c : ExcC K C
end
section
variable {K : PySem.W.Frag} {G G1 G2 : Sto} {D0 D1 D2 D3 : Own} {te ta tb tc : TE} {tt tu : TT} {R Ra Rb : Ty} {E En : Ends} {F0 F1 : Hp} {t u : TS}
end
theorem tyX_mono {K : PySem.W.Frag} {F F' : Hp} {v : V} {n : Value} (s : Same F F') (h : TyX K F v n) : TyX K F' v n := by
  cases h with
  | base h =>
    cases h with
    | non => exact .base .non
    | bl b => exact .base (.bl b)
    | int i => exact .base (.int i)
    | str x => exact .base (.str x)
    | flt x => exact .base (.flt x)
    | lst e => exact .base (.lst (s _ _ e))
    | frz e => exact .base (.frz (s _ _ e))
    | tup e => exact .base (.tup (s _ _ e))
    | dK e => exact .base (.dK (s _ _ e))
    | dT e => exact .base (.dT (s _ _ e))
    | ins e cl ha hn htk hm => exact .base (.ins (s _ _ e) cl ha hn htk hm)
  | byt b => exact .byt b
  | set e => exact .set (s _ _ e)
  | kList e c => exact .kList e c
  | kTuple e c => exact .kTuple e c
  | kDict e c => exact .kDict e c
  | fTuple e => exact .fTuple (s _ _ e)
  | fDict e => exact .fDict (s _ _ e)
def Of (K : PySem.W.Frag) (n : String) : Ty := ⟨fun v F => TyX K F v (.type n), tyX_mono⟩
section
variable {K : PySem.W.Frag} {G G1 G2 : Sto} {D0 D1 D2 D3 : Own} {te ta tb tc : TE} {tt tu : TT} {R Ra Rb : Ty} {E En : Ends} {F0 F1 : Hp} {t u : TS}
theorem atI_all {F : Hp} {Rs : List Ty} {vs : List V} (h : AllP F Rs vs) {i : Int} {R : Ty} (e : atI Rs i = some R) : ∃ v, atI vs i = some v ∧ R.p v F := by
  unfold atI at e ⊢
  rw [h.len]
  cases q : ixN Rs.length i with
  | none => rw [q] at e; cases e
  | some j =>
    rw [q] at e
    exact h.get e
end
open PySem.W in
abbrev AlZ : Type := He.AlD × Bool
def SaysZ (fa : List He.Fa) (fn : List He.DefD) (ex : PySem.W.Frag → Bool) (K : PySem.W.Frag) : Prop := He.SaysD fa fn K ∧ ex K = true
end TL
set_option Elab.async false
set_option linter.all false
set_option maxRecDepth 100000
set_option maxHeartbeats 1000000
namespace TL
open PySem PySem.Spec L2
theorem cx_no {P : Program} {w : World} {o : List Env} {H : Hp} {s : Shared} {e : Value} {s' : Shared} (z : L2.CX P w o H s E0 e s') : False := by
  obtain ⟨_, _, _, _, _, _, _, _, _, _, _, _, z⟩ := z
  exact z
theorem calm_fn {P : Program} {w : World} {K : PySem.W.Frag} {mg : Str → Option Value} {base : Heap} {k : Nat} {f : Addr} {fd : FuncData} {ps : List Str} {sp : Sp} (F : FnOk P w K mg base (L2.CX P w) k f fd ps sp) (h : ∀ vs H Q E, sp vs H Q E → sp vs H Q E0) : FnOk P w K mg base CX0 k f fd ps sp where
  run := fun A outer s H args us vs Q E hr e b r q => codeAny_mono (F.run A outer s H args us vs Q E0 hr e b r (h vs H Q E q)) fun r s' z => by
    cases r with
    | error e => exact (cx_no z).elim
    | ok fl => cases fl with
      | ret u => exact z
      | next => exact z
      | brk => exact z
      | cont => exact z
  len := F.len
def lawSp (K : PySem.W.Frag) : Sp := fsp (T := List Int) (fun ns => [D K (.list (ns.map PyData.int))]) (fun ns => ns.length ≤ 63) (fun _ => .ok (DB K true))
theorem lawSp_E {K : PySem.W.Frag} : ∀ vs H Q E, lawSp K vs H Q E → lawSp K vs H Q E0 := fun vs H Q E ⟨x, F, D, h1, h2, h3, h4⟩ => ⟨x, F, D, h1, h2, h3, h4⟩
theorem ints_dp {K : PySem.W.Frag} {F : Hp} : ∀ ns : List Int, DpAll K F (ns.map V.int) (ns.map PyData.int)
  | [] => .nil
  | n :: ns => .cons (.int n) (ints_dp ns)
theorem law_sp {K : PySem.W.Frag} {H : Hp} {a : Addr} {ns : List Int} (hl : ns.length ≤ 63) (h : SqL K H a (ns.map V.int)) : lawSp K [.ref a] H (fun v _ => v = .bl true) E0 :=
  ⟨ns, H, [], ⟨Same.refl _, (fun a O m => by cases m), List.nodup_nil, fun _ => noH, (fun a O m => by cases m), (fun a b o m => by cases m), fun a a2 b m => by cases m⟩, .cons (.lst h (ints_dp ns)) .nil, hl, fun v H' F' s hs r => dp_bl r⟩
end TL
set_option maxHeartbeats 1000000
namespace Nu
theorem fmod_natAbs_lt {a b : Int} (h : b ≠ 0) : (a.fmod b).natAbs < b.natAbs := by
  rcases Int.lt_or_gt_of_ne h with hb | hb
  · have e : a.fmod b = -((-a).fmod (-b)) := by
      rw [Int.neg_fmod_neg, Int.neg_neg]
    have h1 := Int.fmod_nonneg_of_pos (-a) (show 0 < -b by omega)
    have h2 := Int.fmod_lt_of_pos (-a) (show 0 < -b by omega)
    omega
  · have h1 := Int.fmod_nonneg_of_pos a hb
    have h2 := Int.fmod_lt_of_pos a hb
    omega
theorem gcd_fmod (a b : Int) : Int.gcd b (a.fmod b) = Int.gcd a b := by
  have e : a.fmod b = a + b * (-(a.fdiv b)) := by
    have := Int.fmod_add_mul_fdiv a b
    grind
  rw [e]
  rw [Int.gcd_comm a b]
  exact Int.gcd_add_mul_left_right ..
def by_ (t b : Int) : Int := if b < 0 then 0 - (Int.gcd t b : Int) else (Int.gcd t b : Int)
def q (t b : Int) : Rat := Rat.divInt t b
theorem gcd_pos {t b : Int} (h : b ≠ 0) : 0 < Int.gcd t b := Int.gcd_pos_of_ne_zero_right _ h
theorem by_ne {t b : Int} (h : b ≠ 0) : by_ t b ≠ 0 := by
  have := gcd_pos (t := t) h
  unfold by_
  split <;> omega
theorem by_le {t b : Int} (h : b ≠ 0) : (by_ t b).natAbs ≤ b.natAbs := by
  have := Int.gcd_le_natAbs_right t h
  unfold by_
  split <;> omega
theorem fdiv_dvd {a b c : Int} (hc : c ≠ 0) (h : a = c * b) : a.fdiv c = b := by
  subst h
  exact Int.mul_fdiv_cancel_left _ hc
theorem top_is {t b : Int} (h : b ≠ 0) : t.fdiv (by_ t b) = (q t b).num := by
  have gp := gcd_pos (t := t) h
  obtain ⟨u, hu⟩ := Int.gcd_dvd_left t b
  refine fdiv_dvd (by_ne h) ?_
  unfold q by_
  rw [Rat.num_divInt, Int.gcd_comm b t]
  have g0 : (Int.gcd t b : Int) ≠ 0 := by omega
  have e1 : b.sign * t / (Int.gcd t b : Int) = b.sign * u := by
    have : b.sign * t = (Int.gcd t b : Int) * (b.sign * u) := by
      conv => lhs; rw [hu]
      grind
    rw [this]
    exact Int.mul_ediv_cancel_left _ g0
  rw [e1]
  by_cases hb : b < 0
  · rw [if_pos hb, Int.sign_eq_neg_one_of_neg hb]
    conv => lhs; rw [hu]
    grind
  · rw [if_neg hb, Int.sign_eq_one_of_pos (by omega)]
    conv => lhs; rw [hu]
    grind
theorem bot_is {t b : Int} (h : b ≠ 0) : b.fdiv (by_ t b) = ((q t b).den : Int) := by
  have gp := gcd_pos (t := t) h
  obtain ⟨u, hu⟩ := Int.gcd_dvd_right t b
  refine fdiv_dvd (by_ne h) ?_
  unfold q by_
  rw [Rat.den_divInt, if_neg h, Int.gcd_comm b t]
  have g0 : (Int.gcd t b : Int) ≠ 0 := by omega
  have e1 : (((b.natAbs / Int.gcd t b : Nat)) : Int) = u.natAbs := by
    have : b.natAbs = Int.gcd t b * u.natAbs := by
      conv => lhs; rw [hu]
      rw [Int.natAbs_mul, Int.natAbs_natCast]
    rw [this, Nat.mul_div_cancel_left _ gp]
  rw [e1]
  have su : (b < 0 → u < 0) ∧ (0 < b → 0 < u) := by
    constructor
    · intro hb
      rcases Int.lt_or_le u 0 with z | z
      · exact z
      · have : 0 ≤ (Int.gcd t b : Int) * u := Int.mul_nonneg (by omega) z
        omega
    · intro hb
      rcases Int.lt_or_le 0 u with z | z
      · exact z
      · have : (Int.gcd t b : Int) * u ≤ 0 := Int.mul_nonpos_of_nonneg_of_nonpos (by omega) z
        omega
  by_cases hb : b < 0
  · rw [if_pos hb]
    have := su.1 hb
    have e : ((u.natAbs : Nat) : Int) = - u := by omega
    rw [e]
    conv => lhs; rw [hu]
    grind
  · rw [if_neg hb]
    have := su.2 (by omega)
    have e : ((u.natAbs : Nat) : Int) = u := by omega
    rw [e]
    conv => lhs; rw [hu]
theorem q_neg {t b : Int} : q (0 - t) (0 - b) = q t b := by
  unfold q
  rw [Int.zero_sub, Int.zero_sub]
  exact Rat.neg_divInt_neg ..
theorem by_pos {t b : Int} (h : 0 < b) : by_ t b = (Int.gcd t b : Int) := by
  unfold by_
  rw [if_neg (by omega)]
theorem q_one (t : Int) : (q t 1).num = t ∧ (q t 1).den = 1 := by
  unfold q
  refine ⟨?_, ?_⟩
  · rw [Rat.num_divInt]; simp
  · rw [Rat.den_divInt]; simp
def Bd (n : Nat) (r : Rat) : Prop := r.num.natAbs < 2 ^ n ∧ r.den < 2 ^ n
theorem natAbs_mul_lt {a b : Int} {n m : Nat} (ha : a.natAbs < 2 ^ n) (hb : b.natAbs < 2 ^ m) : (a * b).natAbs < 2 ^ (n + m) := by
  rw [Int.natAbs_mul, Nat.pow_add]
  exact Nat.mul_lt_mul'' ha hb
theorem natAbs_add_lt {a b : Int} {n : Nat} (ha : a.natAbs < 2 ^ n) (hb : b.natAbs < 2 ^ n) : (a + b).natAbs < 2 ^ (n + 1) := by
  rw [Nat.pow_succ]
  omega
theorem lt_pow_mono {a n m : Nat} (h : a < 2 ^ n) (l : n ≤ m) : a < 2 ^ m := Nat.lt_of_lt_of_le h (Nat.pow_le_pow_right (by decide) l)
theorem Bd.mono {n m : Nat} {r : Rat} (h : Bd n r) (l : n ≤ m) : Bd m r := ⟨lt_pow_mono h.1 l, lt_pow_mono h.2 l⟩
theorem natAbs_ediv_le (a : Int) {g : Nat} (h : 0 < g) : (a / (g : Int)).natAbs ≤ a.natAbs := by
  rcases Int.lt_or_le a 0 with z | z
  · have h1 : a / (g : Int) < 0 := Int.ediv_neg_of_neg_of_pos z (by omega)
    have h2 : a ≤ a / (g : Int) := by
      have h3 : a / (g : Int) * (g : Int) ≤ a := Int.ediv_mul_le a (by omega)
      have h4 : a - (g : Int) < a / (g : Int) * (g : Int) := by
        have := Int.lt_ediv_add_one_mul_self a (show (0 : Int) < g by omega)
        grind
      have : a * (g : Int) ≤ a * 1 := Int.mul_le_mul_of_nonpos_left (by omega) (by omega)
      refine Int.le_ediv_of_mul_le (by omega) ?_
      omega
    omega
  · have h1 : 0 ≤ a / (g : Int) := Int.ediv_nonneg z (by omega)
    have h2 : a / (g : Int) ≤ a := Int.ediv_le_self _ z
    omega
theorem q_bd {t b : Int} {n : Nat} (ht : t.natAbs < 2 ^ n) (hb : b.natAbs < 2 ^ n) (h : b ≠ 0) : Bd n (q t b) := by
  have gp := gcd_pos (t := t) h
  rw [Int.gcd_comm] at gp
  unfold q Bd
  rw [Rat.num_divInt, Rat.den_divInt, if_neg h]
  refine ⟨?_, Nat.lt_of_le_of_lt (Nat.div_le_self _ _) hb⟩
  refine Nat.lt_of_le_of_lt (natAbs_ediv_le _ gp) ?_
  rw [Int.natAbs_mul]
  have : b.sign.natAbs ≤ 1 := by
    rcases Int.lt_or_gt_of_ne h with z | z
    · rw [Int.sign_eq_neg_one_of_neg z]; decide
    · rw [Int.sign_eq_one_of_pos z]; decide
  have h2 : b.sign.natAbs * t.natAbs ≤ 1 * t.natAbs := Nat.mul_le_mul_right _ this
  omega
end Nu
set_option Elab.async false
set_option linter.all false
set_option maxRecDepth 100000
set_option maxHeartbeats 1000000
namespace TL
open PySem PySem.Spec L2
def kinds : List String := ["int", "bool", "NoneType", "str", "tuple", "list", "dict"]
abbrev DQ (K : PySem.W.Frag) (r : Rat) : Ty := D K (.tuple [.int r.num, .int r.den])
inductive NA where
  | odd1 (n : String) (m : String)
  | odd2 (t : Int) (n : String)
  | good (t b : Int)
def NA.args (K : PySem.W.Frag) : NA → List Ty
  | .odd1 n m => [Of K n, Of K m]
  | .odd2 t n => [DI K t, Of K n]
  | .good t b => [DI K t, DI K b]
def NA.pre : NA → Prop
  | .odd1 n m => n ∈ kinds ∧ n ≠ "int" ∧ m ∈ kinds
  | .odd2 t n => n ∈ kinds ∧ n ≠ "int"
  | .good t b => b.natAbs < 2 ^ 8000
def NA.out (K : PySem.W.Frag) : NA → Out
  | .good t b => if b = 0 then .err (.ref (He.ga K "NoNumber")) else .ok (DQ K (Nu.q t b))
  | _ => .err (.ref (He.ga K "NoNumber"))
structure We where
  f : Int
  v : Int
  t : Int
def We.d (w : We) : List PyData := [.int w.f, .int w.v, .int w.t]
def We.ok (n : Nat) (w : We) : Prop := w.f = 1 ∨ (w.f = 0 ∧ w.v.natAbs < 2 ^ 60 ∧ 0 ≤ w.t ∧ w.t ≤ n)
def mix (v t : Int) : Int := ((((((v + 7919 * t * t) + t) * 48271).fmod 2305843009213693951) * 1442695040888963407 + 4321).fmod 2305843009213693921).fdiv 64
def We.val (w : We) (m : Int) : Int := if w.f = 1 then w.v.fmod m else (mix w.v (w.t + 1)).fmod m
def We.nx (w : We) (m : Int) : We := if w.f = 1 then ⟨w.f, w.v.fdiv m, w.t⟩ else ⟨w.f, w.v, w.t + 1⟩
section
variable {K : PySem.W.Frag} {G : Sto} {D0 D1 D2 : Own} {te ta tb : TE} {F0 : Hp} {E : Ends} {X : XK}
theorem div_ok {t b : Int} (h0 : b ≠ 0) (hb : b.natAbs < 2 ^ 8000) : CDivA t (Nu.by_ t b) := by
  refine ⟨Nu.by_ne h0, ?_⟩
  have h1 := Nu.by_le (t := t) h0
  have : (Nu.by_ t b).natAbs < 2 ^ 8000 := Nat.lt_of_le_of_lt h1 hb
  exact Nat.lt_of_lt_of_le (PySem.Flt.log2_lt_of (by decide) this) (by decide)
theorem set_at {D : Own} {k : Nat} {x y : Addr × OTy} (h : D[k]? = some x) : (D.set k y)[k]? = some y := by
  have lt : k < D.length := (List.getElem?_eq_some_iff.mp h).1
  rw [List.getElem?_set_self lt]
theorem wmul {i j : Int} (a b : Nat) (ha : i.natAbs < 2 ^ a) (hb : j.natAbs < 2 ^ b) (h0 : 0 < a := by decide) (h1 : 0 < b := by decide) (h : a + b ≤ 1000000 := by decide) : CMulW i j := wide_mul ha hb h0 h1 h
theorem cdiv {i j : Int} (h0 : j ≠ 0) (hb : j.natAbs < 2 ^ 8000) : CDivA i j := ⟨h0, Nat.lt_of_lt_of_le (PySem.Flt.log2_lt_of (by decide) hb) (by decide)⟩
theorem mod_ok {a m : Int} (h : 0 < m) : 0 ≤ a.fmod m ∧ a.fmod m < m := ⟨Int.fmod_nonneg_of_pos a h, Int.fmod_lt_of_pos a h⟩
theorem eqv_q (a b : Rat) : PyData.eqv (.tuple [.int a.num, .int a.den]) (.tuple [.int b.num, .int b.den]) = decide (a = b) := by
  simp only [PyData.eqv, PyData.eqvAll, Bool.and_true]
  by_cases h : a = b
  · subst h; simp
  · rw [decide_eq_false h]
    cases e : (a.num == b.num && (a.den : Int) == (b.den : Int)) with
    | false => rfl
    | true =>
      simp only [Bool.and_eq_true, beq_iff_eq] at e
      exact absurd (Rat.ext e.1 (by omega)) h
theorem small {m : Int} (h : m.natAbs < 2 ^ 62) : m.natAbs < 2 ^ 8000 := Nu.lt_pow_mono h (by decide)
end
end TL
set_option Elab.async false
set_option linter.all false
set_option maxRecDepth 100000
set_option maxHeartbeats 1000000
namespace TL
open PySem PySem.Spec L2
section
variable {K : PySem.W.Frag} {G G1 G2 : Sto} {D0 D1 D2 D3 : Own} {te ta tb : TE} {R Ra Rb : Ty} {F0 F1 : Hp} {E : Ends} {X : XK}
theorem cq {i j : Int} {n m : Nat} (ha : i.natAbs < 2 ^ n) (hb : j.natAbs < 2 ^ m) (hn : n ≤ 8000) (hm : m ≤ 8000) : CMulW i j :=
  wmul 8001 8001 (Nu.lt_pow_mono ha (by omega)) (Nu.lt_pow_mono hb (by omega))
theorem SLe.keep {G G' : Sto} {x : Option Ty} (h : SLe G G') : SLe (x :: G) (x :: G') := by
  cases x with
  | none => exact .drop h
  | some R => exact .imp (fun _ _ h => h) h
end
end TL
set_option Elab.async false
set_option linter.all false
set_option maxRecDepth 100000
set_option maxHeartbeats 1000000
namespace TL
open PySem PySem.Spec L2
theorem wipe_get (σ : L2.St) : ∀ (vs : List Nat) (j : Nat), (wipe σ vs)[j]? = if j ∈ vs then (σ[j]?).map (fun _ => none) else σ[j]?
  | [], j => by simp [wipe]
  | v :: vs, j => by
    have len := wipe_length σ vs
    unfold wipe
    by_cases e : v = j
    · subst e
      by_cases lt : v < (wipe σ vs).length
      · rw [List.getElem?_set_self lt]
        rw [len] at lt
        simp [lt]
      · rw [List.getElem?_eq_none (by simpa using lt)]
        rw [len] at lt
        simp [List.getElem?_eq_none (Nat.le_of_not_lt lt)]
    · rw [List.getElem?_set_ne e, wipe_get σ vs j]
      have : (j ∈ v :: vs) ↔ (j ∈ vs) := by
        simp only [List.mem_cons]
        constructor
        · rintro (h | h)
          · exact absurd h.symm e
          · exact h
        · exact .inr
      simp only [this]
theorem wipe_eq {σ τ : L2.St} {vs : List Nat} (h : ∀ j, j ∉ vs → σ[j]? = τ[j]?) (l : σ.length = τ.length) : wipe σ vs = wipe τ vs := by
  refine List.ext_getElem? fun j => ?_
  rw [wipe_get, wipe_get]
  by_cases m : j ∈ vs
  · rw [if_pos m, if_pos m]
    by_cases lt : j < σ.length
    · have lt2 : j < τ.length := by omega
      simp [lt, lt2]
    · have lt2 : ¬ j < τ.length := by omega
      simp [lt, lt2]
  · rw [if_neg m, if_neg m]
    exact h j m
theorem wipe_wipe (σ : L2.St) (vs : List Nat) : wipe (wipe σ vs) vs = wipe σ vs := wipe_eq (fun j m => by rw [wipe_get, if_neg m]) (wipe_length σ vs)
theorem wipe_set {σ τ : L2.St} {vs : List Nat} {i : Nat} {x : Option V} (m : i ∈ vs) (h : wipe τ vs = wipe σ vs) : wipe (τ.set i x) vs = wipe σ vs := by
  rw [← h]
  refine wipe_eq (fun j mj => ?_) (by simp)
  exact List.getElem?_set_ne (fun e => mj (by rw [← e]; exact m))
def wipeG (G : Sto) : List Nat → Sto
  | [] => G
  | v :: vs => (wipeG G vs).set v none
theorem SS.wipe {F : Hp} {G : Sto} {σ : L2.St} (h : SS F G σ) : ∀ vs : List Nat, SS F (wipeG G vs) (L2.wipe σ vs)
  | [] => h
  | v :: vs => (SS.wipe h vs).unset v
def EvW (g : TG) (vs : List Nat) (G : Sto) (R : Ty) (G1 : Sto) : Prop := ∀ (v : V) (σ τ : L2.St) (H F : Hp) (D : Own), HS D H F → SS F G τ → wipe τ vs = wipe σ vs → R.p v F → ∀ Q : L2.St → Hp → Prop, (∀ σ', SS F G1 σ' → wipe σ' vs = wipe σ vs → Q σ' H) → g v τ H Q
section
variable {K : PySem.W.Frag} {G G1 G2 : Sto} {D0 D1 D2 D3 : Own} {te ta tb : TE} {tt : TT} {R Ra Rb : Ty} {F0 F1 : Hp} {E : Ends} {X : XK} {vs : List Nat}
theorem evW_name {i : Nat} (m : i ∈ vs) : EvW (gName i) vs G R (G.set i (some R)) := fun v σ τ H F D hs ss w r Q q => q _ (ss.set r i) (wipe_set m w)
theorem evT_yes : EvT tYes G D0 true D0 := fun σ H F hs ss Q q => q H F (Same.refl _) hs
end
end TL
set_option Elab.async false
set_option linter.all false
set_option maxRecDepth 100000
set_option maxHeartbeats 1000000
namespace TL
open PySem PySem.Spec L2
theorem hu_65 {k : Nat} {A : Around} (r : Room k A) : A.units + 65 < cLine := by
  have := r.un
  omega
section
variable {K : PySem.W.Frag} {G G1 G2 : Sto} {D0 D1 D2 D3 : Own} {te ta tb : TE} {tt : TT} {R Ra Rb : Ty} {F0 F1 : Hp} {E : Ends} {X : XK} {tl th : TO}
end
end TL
set_option Elab.async false
set_option linter.all false
set_option maxRecDepth 100000
set_option maxHeartbeats 1000000
namespace TL
open PySem PySem.Spec L2
def Ty.ex {α : Type} (f : α → Ty) (p : α → Prop) : Ty := ⟨fun v F => ∃ a, p a ∧ (f a).p v F, fun s ⟨a, h1, h2⟩ => ⟨a, h1, (f a).mono s h2⟩⟩
def OTy.ex {α : Type} (f : α → OTy) (p : α → Prop) : OTy := .fl (fun v F => ∃ a, p a ∧ (f a).p v F) (fun s ⟨a, h1, h2⟩ => ⟨a, h1, (f a).mono s h2⟩)
def getM (m : List (Str × PyData)) (k : Str) : Option PyData := (m.find? fun e => decide (e.1 = k)).map (·.2)
def putM (m : List (Str × PyData)) (k : Str) (d : PyData) : List (Str × PyData) :=
  if (m.any fun e => decide (e.1 = k)) = true then m.map (fun e => if e.1 = k then (e.1, d) else e) else m ++ [(k, d)]
inductive EntP (K : PySem.W.Frag) (F : Hp) : List (L2.Key × V) → List (Str × PyData) → Prop
  | nil : EntP K F [] []
  | cons {k : Str} {v : V} {d : PyData} {kvs : List (L2.Key × V)} {m : List (Str × PyData)} : Dp K F v d → EntP K F kvs m → EntP K F ((Sum.inr k, v) :: kvs) ((k, d) :: m)
theorem EntP.mono {K : PySem.W.Frag} {F F' : Hp} {kvs : List (L2.Key × V)} {m : List (Str × PyData)} (h : EntP K F kvs m) (s : Same F F') : EntP K F' kvs m := by
  induction h with
  | nil => exact .nil
  | cons h _ ih => exact .cons (dp_mono s _ _ h) ih
theorem EntP.len {K : PySem.W.Frag} {F : Hp} {kvs : List (L2.Key × V)} {m : List (Str × PyData)} (h : EntP K F kvs m) : kvs.length = m.length := by
  induction h with
  | nil => rfl
  | cons _ _ ih => simp [ih]
theorem EntP.keys {K : PySem.W.Frag} {F : Hp} {kvs : List (L2.Key × V)} {m : List (Str × PyData)} (h : EntP K F kvs m) : kvs.map (·.1) = (m.map (·.1)).map Sum.inr := by
  induction h with
  | nil => rfl
  | cons _ _ ih => simp [ih]
theorem EntP.get {K : PySem.W.Frag} {F : Hp} {kvs : List (L2.Key × V)} {m : List (Str × PyData)} (h : EntP K F kvs m) (k : Str) : (getM m k = none ∧ valV kvs (Sum.inr k) = none) ∨ ∃ d v, getM m k = some d ∧ valV kvs (Sum.inr k) = some v ∧ Dp K F v d := by
  induction h with
  | nil => exact .inl ⟨rfl, rfl⟩
  | @cons k' v d kvs m hd _ ih =>
    by_cases e : k' = k
    · subst e
      exact .inr ⟨d, v, by simp [getM], by simp [valV], hd⟩
    · have e1 : getM ((k', d) :: m) k = getM m k := by simp [getM, e]
      have e2 : valV ((Sum.inr k', v) :: kvs) (Sum.inr k : L2.Key) = valV kvs (Sum.inr k) := valV_neg (fun z => e (Sum.inr.inj z))
      rw [e1, e2]
      exact ih
theorem EntP.any {K : PySem.W.Frag} {F : Hp} {kvs : List (L2.Key × V)} {m : List (Str × PyData)} (h : EntP K F kvs m) (k : Str) : (kvs.any fun e => decide (e.1 = (Sum.inr k : L2.Key))) = (m.any fun e => decide (e.1 = k)) := by
  induction h with
  | nil => rfl
  | @cons k' v d kvs m _ _ ih =>
    rw [List.any_cons, List.any_cons, ih]
    congr 1
    by_cases e : k' = k
    · subst e; simp
    · simp [e]
theorem EntP.snoc {K : PySem.W.Frag} {F : Hp} {kvs : List (L2.Key × V)} {m : List (Str × PyData)} (h : EntP K F kvs m) {k : Str} {v : V} {d : PyData} (hd : Dp K F v d) : EntP K F (kvs ++ [(Sum.inr k, v)]) (m ++ [(k, d)]) := by
  induction h with
  | nil => exact .cons hd .nil
  | cons h _ ih => exact .cons h ih
theorem EntP.repl {K : PySem.W.Frag} {F : Hp} {kvs : List (L2.Key × V)} {m : List (Str × PyData)} (h : EntP K F kvs m) {k : Str} {v : V} {d : PyData} (hd : Dp K F v d) :
    EntP K F (kvs.map fun e => if e.1 = (Sum.inr k : L2.Key) then (e.1, v) else e) (m.map fun e => if e.1 = k then (e.1, d) else e) := by
  induction h with
  | nil => exact .nil
  | @cons k' v' d' kvs m h _ ih =>
    rw [List.map_cons, List.map_cons]
    by_cases e : k' = k
    · subst e
      rw [if_pos rfl, if_pos rfl]
      exact .cons hd ih
    · rw [if_neg (fun z => e (Sum.inr.inj z)), if_neg e]
      exact .cons h ih
theorem EntP.put {K : PySem.W.Frag} {F : Hp} {kvs : List (L2.Key × V)} {m : List (Str × PyData)} (h : EntP K F kvs m) {k : Str} {v : V} {d : PyData} (hd : Dp K F v d) : EntP K F (putK kvs (Sum.inr k) v) (putM m k d) := by
  unfold putK putM
  rw [h.any k]
  split
  · exact h.repl hd
  · exact h.snoc hd
def OD (K : PySem.W.Frag) (m : List (Str × PyData)) : OTy := .fl (fun o F => ∃ kvs, o = .dK kvs ∧ EntP K F kvs m) (fun s ⟨kvs, e, h⟩ => ⟨kvs, e, h.mono s⟩)
section
variable {K : PySem.W.Frag} {G G1 G2 : Sto} {D0 D1 D2 D3 : Own} {te ta tb tx : TE} {tt : TT} {R Ra Rb : Ty} {F0 F1 : Hp} {E : Ends} {X : XK} {tl th : TO}
abbrev rJoin (K : PySem.W.Frag) : V → List V → Hp → VK → Prop := fun x xs H Q => ∃ a p, ∃ ys : List Str, x = .str a ∧ xs = [.ref p] ∧ (SqL K H p (ys.map V.str) ∨ SqT K H p (ys.map V.str)) ∧
      (ys.map (·.length)).sum + ys.length * a.length ≤ 16777216 ∧ Q (.str (Txt.join a ys)) H
theorem strs_of {F : Hp} : ∀ {ys : List Str} {xs : List V}, DpAll K F xs (ys.map PyData.str) → xs = ys.map V.str
  | [], _, h => by cases h; rfl
  | y :: ys, _, h => by
    cases h with
    | cons h1 h2 =>
      rw [dp_str h1, strs_of h2]
      rfl
abbrev cLst0 (K : PySem.W.Frag) : List V → Hp → VK → Prop := fun xs H Q => ∃ p ys, xs = [.ref p] ∧ (SqL K H p ys ∨ SqT K H p ys) ∧ ∀ l, H l = none → Q (.ref l) (upd H l (.lst ys))
abbrev cLstD : List V → Hp → VK → Prop := fun xs H Q => ∃ (a : Addr) (kvs : List (L2.Key × V)), xs = [.ref a] ∧ Rd H a (.dK kvs) ∧ ∀ p, H p = none → Q (.ref p) (upd H p (.lst (kvs.map fun kv => kV kv.1)))
abbrev cLst (K : PySem.W.Frag) : List V → Hp → VK → Prop := fun xs H Q => cLst0 K xs H Q ∨ cLstD xs H Q
theorem call_lstU {X : Cx} (hcalm : X.calm = true) : CallR X (.type "list") (cLst X.K) := CallR.or call_list_of (call_listD hcalm)
end
end TL
set_option Elab.async false
set_option linter.all false
set_option maxRecDepth 100000
set_option maxHeartbeats 1000000
namespace TL
open PySem PySem.Spec L2
mutual
def dataB (K : PySem.W.Frag) (v : Value) : PyData → Bool
  | .none => (match v with
    | .none => true
    | _ => false)
  | .bool b => (match v with
    | .bool c => b == c
    | _ => false)
  | .int i => (match v with
    | .int j _ => decide (j = i)
    | _ => false)
  | .str x => (match v with
    | .str y _ => decide (y = x)
    | _ => false)
  | .tuple ds => (match v with
    | .ref a => (match K.lookup a with
      | some o => (match o.data with
        | .seq its _ => decide (o.cls = .type "tuple") && (decide (its.size ≤ sizeLine) && dataAll K its.toList ds)
        | _ => false)
      | none => false)
    | _ => false)
  | .list ds => (match v with
    | .ref a => (match K.lookup a with
      | some o => (match o.data with
        | .seq its _ => decide (o.cls = .type "list") && (o.dict.isNone && (decide (its.size ≤ sizeLine) && dataAll K its.toList ds))
        | _ => false)
      | none => false)
    | _ => false)
  | .dict _ => false
def dataAll (K : PySem.W.Frag) (vs : List Value) : List PyData → Bool
  | [] => vs.isEmpty
  | d :: ds => (match vs with
    | [] => false
    | v :: vs => dataB K v d && dataAll K vs ds)
end
mutual
theorem dataB_ok {K : PySem.W.Frag} : ∀ (d : PyData) (v : Value), dataB K v d = true → ∃ x, RelV x v ∧ ∀ F, Dp K F x d
  | .none, v, h => by
    unfold dataB at h
    split at h
    · exact ⟨.non, rfl, fun _ => .non⟩
    · cases h
  | .bool b, v, h => by
    unfold dataB at h
    split at h
    · have e := eq_of_beq h
      subst e
      exact ⟨.bl _, rfl, fun _ => .bl _⟩
    · cases h
  | .int i, v, h => by
    unfold dataB at h
    split at h
    · have e := of_decide_eq_true h
      subst e
      exact ⟨.int _, ⟨_, rfl⟩, fun _ => .int _⟩
    · cases h
  | .str x, v, h => by
    unfold dataB at h
    split at h
    · have e := of_decide_eq_true h
      subst e
      exact ⟨.str _, ⟨_, rfl⟩, fun _ => .str _⟩
    · cases h
  | .tuple ds, v, h => by
    unfold dataB at h
    split at h
    · rename_i a
      split at h
      · rename_i o ho
        split at h
        · rename_i its n hd
          simp only [Bool.and_eq_true, decide_eq_true_eq] at h
          obtain ⟨h1, h2, h3⟩ := h
          obtain ⟨xs, hv, hx⟩ := dataAll_ok ds its.toList h3
          exact ⟨.ref a, rfl, fun F => .tup (.inr ⟨o, its, n, ho, h1, hd, h2, hv⟩) (hx F)⟩
        · cases h
      · cases h
    · cases h
  | .list ds, v, h => by
    unfold dataB at h
    split at h
    · rename_i a
      split at h
      · rename_i o ho
        split at h
        · rename_i its n hd
          simp only [Bool.and_eq_true, decide_eq_true_eq, Option.isNone_iff_eq_none] at h
          obtain ⟨h1, h0, h2, h3⟩ := h
          obtain ⟨xs, hv, hx⟩ := dataAll_ok ds its.toList h3
          exact ⟨.ref a, rfl, fun F => .lst (.inr ⟨o, its, n, ho, h1, h0, hd, h2, hv⟩) (hx F)⟩
        · cases h
      · cases h
    · cases h
  | .dict _, v, h => by
    unfold dataB at h
    cases h
theorem dataAll_ok {K : PySem.W.Frag} : ∀ (ds : List PyData) (vs : List Value), dataAll K vs ds = true → ∃ xs, Vals xs vs ∧ ∀ F, DpAll K F xs ds
  | [], vs, h => by
    unfold dataAll at h
    cases vs with
    | nil => exact ⟨[], .nil, fun _ => .nil⟩
    | cons => cases h
  | d :: ds, vs, h => by
    unfold dataAll at h
    cases vs with
    | nil => cases h
    | cons v vs =>
      simp only [Bool.and_eq_true] at h
      obtain ⟨x, r, hx⟩ := dataB_ok d v h.1
      obtain ⟨xs, rs, hxs⟩ := dataAll_ok ds vs h.2
      exact ⟨x :: xs, .cons r rs, fun F => .cons (hx F) (hxs F)⟩
end
end TL
set_option Elab.async false
set_option linter.all false
set_option maxRecDepth 100000
set_option maxHeartbeats 1000000
namespace TL
open PySem PySem.Spec L2
theorem lt_irr : ∀ a : List Nat, ltCps a a = false
  | [] => rfl
  | x :: r => by simp [ltCps, lt_irr r]
theorem lt_tr : ∀ {a b c : List Nat}, ltCps a b = true → ltCps b c = true → ltCps a c = true
  | [], [], _, h, _ => by simp [ltCps] at h
  | [], _ :: _, [], _, h => by simp [ltCps] at h
  | [], _ :: _, _ :: _, _, _ => rfl
  | _ :: _, [], _, h, _ => by simp [ltCps] at h
  | x :: a, y :: b, [], _, h => by simp [ltCps] at h
  | x :: a, y :: b, z :: c, h1, h2 => by
    simp only [ltCps, Bool.or_eq_true, decide_eq_true_eq, Bool.and_eq_true, beq_iff_eq] at h1 h2 ⊢
    rcases h1 with h1 | ⟨h1, h1'⟩
    · rcases h2 with h2 | ⟨h2, h2'⟩
      · exact .inl (by omega)
      · exact .inl (by omega)
    · rcases h2 with h2 | ⟨h2, h2'⟩
      · exact .inl (by omega)
      · exact .inr ⟨by omega, lt_tr h1' h2'⟩
theorem lt_tri : ∀ {a b : List Nat}, ltCps a b = false → ltCps b a = false → a = b
  | [], [], _, _ => rfl
  | [], _ :: _, h, _ => by simp [ltCps] at h
  | _ :: _, [], _, h => by simp [ltCps] at h
  | x :: a, y :: b, h1, h2 => by
    simp only [ltCps, Bool.or_eq_false_iff, decide_eq_false_iff_not, Bool.and_eq_false_imp, beq_iff_eq] at h1 h2
    have e : x = y := by omega
    subst e
    rw [lt_tri (h1.2 rfl) (h2.2 rfl)]
def ltS (a b : Str) : Prop := ltCps a.cps.toList b.cps.toList = true
theorem str_ext {a b : Str} (h : a.cps.toList = b.cps.toList) : a = b := by
  obtain ⟨x⟩ := a
  obtain ⟨y⟩ := b
  congr
  exact Array.toList_inj.mp h
theorem ltS_irr (a : Str) : ¬ ltS a a := fun h => by
  unfold ltS at h
  rw [lt_irr] at h
  cases h
theorem ltS_tr {a b c : Str} (h : ltS a b) (k : ltS b c) : ltS a c := lt_tr h k
theorem ltS_tri {a b : Str} (h : ¬ ltS a b) (n : a ≠ b) : ltS b a := by
  unfold ltS at h ⊢
  cases e : ltCps b.cps.toList a.cps.toList with
  | true => rfl
  | false => exact absurd (str_ext (lt_tri (Bool.eq_false_iff.mpr h) e)) n
instance (a b : Str) : Decidable (ltS a b) := inferInstanceAs (Decidable (_ = true))
abbrev qT (r : Rat) : PyData := .tuple [.int r.num, .int r.den]
def tot : List (Str × Rat) → Str → Rat
  | [], _ => 0
  | e :: ps, k => (if e.1 = k then e.2 else 0) + tot ps k
theorem tot_app (k : Str) : ∀ ps qs : List (Str × Rat), tot (ps ++ qs) k = tot ps k + tot qs k
  | [], qs => by
    show tot qs k = 0 + tot qs k
    grind
  | e :: ps, qs => by
    show (if e.1 = k then e.2 else 0) + tot (ps ++ qs) k = (if e.1 = k then e.2 else 0) + tot ps k + tot qs k
    rw [tot_app k ps qs]
    grind
theorem tot_none {k : Str} : ∀ {ps : List (Str × Rat)}, k ∉ ps.map (·.1) → tot ps k = 0
  | [], _ => rfl
  | e :: ps, h => by
    simp only [List.map_cons, List.mem_cons, not_or] at h
    have n : ¬ e.1 = k := fun z => h.1 z.symm
    show (if e.1 = k then e.2 else 0) + tot ps k = 0
    rw [if_neg n, tot_none h.2]
    grind
structure TabOf (m : List (Str × PyData)) (ps : List (Str × Rat)) : Prop where
  nd : (m.map (·.1)).Nodup
  mem : ∀ k, k ∈ m.map (·.1) ↔ k ∈ ps.map (·.1)
  get : ∀ k, k ∈ ps.map (·.1) → getM m k = some (qT (tot ps k))
  len : m.length ≤ ps.length
theorem getM_none {m : List (Str × PyData)} {k : Str} (h : k ∉ m.map (·.1)) : getM m k = none := by
  unfold getM
  rw [List.find?_eq_none.mpr fun e he z => h (List.mem_map.mpr ⟨e, he, of_decide_eq_true z⟩)]
  rfl
theorem getM_put {m : List (Str × PyData)} {k j : Str} {d : PyData} : getM (putM m k d) j = if j = k then some d else getM m j := by
  unfold putM
  split
  · rename_i a
    induction m with
    | nil => cases a
    | cons e m ih =>
      rw [List.map_cons]
      by_cases h : e.1 = k
      · rw [if_pos h]
        by_cases q : j = k
        · subst q
          simp [getM, h]
        · have n : ¬ e.1 = j := fun z => q (z.symm.trans h)
          rw [if_neg q]
          have e1 : getM ((e.1, d) :: m.map fun e => if e.1 = k then (e.1, d) else e) j = getM (m.map fun e => if e.1 = k then (e.1, d) else e) j := by simp [getM, n]
          have e2 : getM (e :: m) j = getM m j := by simp [getM, n]
          rw [e1, e2]
          clear ih a
          induction m with
          | nil => rfl
          | cons f m ih =>
            rw [List.map_cons]
            by_cases h2 : f.1 = k
            · have n2 : ¬ f.1 = j := fun z => q (z.symm.trans h2)
              rw [if_pos h2]
              have e3 : getM ((f.1, d) :: m.map fun e => if e.1 = k then (e.1, d) else e) j = getM (m.map fun e => if e.1 = k then (e.1, d) else e) j := by simp [getM, n2]
              have e4 : getM (f :: m) j = getM m j := by simp [getM, n2]
              rw [e3, e4]
              exact ih (by simp [getM, n]) (by simp [getM, n])
            · rw [if_neg h2]
              by_cases h3 : f.1 = j
              · simp [getM, h3]
              · have e3 : getM (f :: m.map fun e => if e.1 = k then (e.1, d) else e) j = getM (m.map fun e => if e.1 = k then (e.1, d) else e) j := by simp [getM, h3]
                have e4 : getM (f :: m) j = getM m j := by simp [getM, h3]
                rw [e3, e4]
                exact ih (by simp [getM, n]) (by simp [getM, n])
      · have a' : (m.any fun e => decide (e.1 = k)) = true := by simpa [h] using a
        rw [if_neg h]
        have ih' := ih a'
        by_cases q : e.1 = j
        · have n : ¬ j = k := fun z => h (q.trans z)
          rw [if_neg n]
          simp [getM, q]
        · have e1 : getM (e :: m.map fun e => if e.1 = k then (e.1, d) else e) j = getM (m.map fun e => if e.1 = k then (e.1, d) else e) j := by simp [getM, q]
          have e2 : getM (e :: m) j = getM m j := by simp [getM, q]
          rw [e1, e2]
          exact ih'
  · rename_i a
    have no : ∀ e ∈ m, ¬ e.1 = k := fun e he z => a (List.any_eq_true.mpr ⟨e, he, decide_eq_true z⟩)
    unfold getM
    rw [List.find?_append]
    by_cases q : j = k
    · subst q
      rw [if_pos rfl, List.find?_eq_none.mpr fun e he z => no e he (of_decide_eq_true z)]
      simp
    · rw [if_neg q]
      have n : ¬ k = j := fun z => q z.symm
      cases f : m.find? fun e => decide (e.1 = j) with
      | none => simp [n]
      | some x => simp
theorem keys_put {m : List (Str × PyData)} {k : Str} {d : PyData} : (putM m k d).map (·.1) = if k ∈ m.map (·.1) then m.map (·.1) else m.map (·.1) ++ [k] := by
  unfold putM
  have c : (m.any fun e => decide (e.1 = k)) = decide (k ∈ m.map (·.1)) := by
    rw [Bool.eq_iff_iff, List.any_eq_true, decide_eq_true_eq, List.mem_map]
    constructor
    · rintro ⟨e, h1, h2⟩
      exact ⟨e, h1, of_decide_eq_true h2⟩
    · rintro ⟨e, h1, h2⟩
      exact ⟨e, h1, decide_eq_true h2⟩
  rw [c]
  by_cases h : k ∈ m.map (·.1)
  · rw [if_pos (decide_eq_true h), if_pos h, List.map_map]
    refine List.map_congr_left fun e _ => ?_
    show (if e.1 = k then (e.1, d) else e).1 = e.1
    split <;> rfl
  · rw [if_neg (by simpa using h), if_neg h, List.map_append]
    rfl
theorem TabOf.nil : TabOf [] [] := ⟨.nil, fun _ => Iff.rfl, fun _ h => absurd h List.not_mem_nil, Nat.le_refl _⟩
theorem TabOf.look {m : List (Str × PyData)} {ps : List (Str × Rat)} (h : TabOf m ps) (k : Str) : (getM m k).getD (qT 0) = qT (tot ps k) := by
  by_cases q : k ∈ ps.map (·.1)
  · rw [h.get k q]
    rfl
  · rw [getM_none (fun z => q ((h.mem k).mp z)), tot_none q]
    rfl
theorem TabOf.put {m : List (Str × PyData)} {ps : List (Str × Rat)} (h : TabOf m ps) (k : Str) (r : Rat) : TabOf (putM m k (qT (tot ps k + r))) (ps ++ [(k, r)]) where
  nd := by
    rw [keys_put]
    split
    · exact h.nd
    · rename_i n
      rw [List.nodup_append]
      refine ⟨h.nd, by simp, fun a ha b hb e => ?_⟩
      rw [List.mem_singleton] at hb
      subst hb
      subst e
      exact n ha
  mem := fun j => by
    rw [keys_put, List.map_append, List.mem_append]
    by_cases q : k ∈ m.map (·.1)
    · rw [if_pos q, h.mem j]
      constructor
      · exact .inl
      · rintro (z | z)
        · exact z
        · simp only [List.map_cons, List.map_nil, List.mem_singleton] at z
          subst z
          exact (h.mem _).mp q
    · rw [if_neg q, List.mem_append, h.mem j]
      rfl
  get := fun j hj => by
    rw [getM_put, tot_app]
    by_cases q : j = k
    · subst q
      rw [if_pos rfl]
      have : tot ps j + tot [(j, r)] j = tot ps j + r := by
        show tot ps j + ((if j = j then r else 0) + 0) = _
        rw [if_pos rfl]
        grind
      rw [this]
    · rw [if_neg q]
      have z : tot [(k, r)] j = 0 := by
        show (if k = j then r else 0) + 0 = 0
        rw [if_neg (fun e => q e.symm)]
        grind
      have z2 : tot ps j + tot [(k, r)] j = tot ps j := by rw [z]; grind
      rw [z2]
      rw [List.map_append, List.mem_append] at hj
      rcases hj with hj | hj
      · exact h.get j hj
      · simp only [List.map_cons, List.map_nil, List.mem_singleton] at hj
        exact absurd hj q
  len := by
    have : (putM m k (qT (tot ps k + r))).length ≤ m.length + 1 := by
      unfold putM
      split
      · rw [List.length_map]; omega
      · simp
    have := h.len
    simp only [List.length_append, List.length_cons, List.length_nil]
    omega
structure Sh (z : Str) : Prop where
  len : z.length ≤ 20
  ok : ∀ c ∈ z.cps.toList, c < 0x110000
theorem app_cps (x y : Str) : (x ++ y).cps.toList = x.cps.toList ++ y.cps.toList := by
  show (x.cps ++ y.cps).toList = _
  rw [Array.toList_append]
theorem We.ok.up {w : We} {n m : Nat} (h : w.ok n) (l : n ≤ m) : w.ok m := by
  rcases h with h | ⟨h1, h2, h3, h4⟩
  · exact .inl h
  · exact .inr ⟨h1, h2, h3, by omega⟩
section
variable {K : PySem.W.Frag} {G G1 G2 : Sto} {D0 D1 D2 D3 : Own} {te ta tb tx : TE} {tt : TT} {R Ra Rb : Ty} {F0 F1 : Hp} {E : Ends} {X : XK} {tl th : TO}
end
end TL
set_option Elab.async false
set_option linter.all false
set_option maxRecDepth 100000
set_option maxHeartbeats 1000000
namespace TL
open PySem PySem.Spec L2
def sc (ps : List (Str × Rat)) (r : Rat) : List (Str × Rat) := ps.map fun e => (e.1, e.2 * r)
section
variable {K : PySem.W.Frag} {G G1 G2 : Sto} {D0 D1 D2 D3 : Own} {te ta tb tx : TE} {tt : TT} {R Ra Rb : Ty} {F0 F1 : Hp} {E : Ends} {X : XK} {tl th : TO}
end
end TL
namespace TL
open PySem PySem.Spec L2
section
variable {K : PySem.W.Frag} {G G1 G2 : Sto} {D0 D1 D2 D3 : Own} {te ta tb tx : TE} {tt : TT} {R Ra Rb : Ty} {F0 F1 : Hp} {E : Ends}
end
end TL
set_option Elab.async false
set_option linter.all false
set_option maxRecDepth 100000
set_option maxHeartbeats 1000000
namespace TL
open PySem PySem.Spec L2
def OZ (K : PySem.W.Frag) (m : List (Str × PyData)) (od : Obj) (kvs : List (L2.Key × V)) : OTy := .fl (fun o F => o = .frz od (.dK kvs) ∧ EntP K F kvs m) (fun s ⟨e, h⟩ => ⟨e, h.mono s⟩)
section
variable {K : PySem.W.Frag} {G G1 G2 : Sto} {D0 D1 D2 D3 : Own} {te ta tb tx : TE} {tt : TT} {R Ra Rb : Ty} {F0 F1 : Hp} {E : Ends} {X : XK}
structure Opens (K : PySem.W.Frag) (E' E : Ends) (a : Addr) (m : List (Str × PyData)) (od : Obj) (kvs : List (L2.Key × V)) : Prop where
  nx : ∀ {F : Hp} {G : Sto} {D : Own} {k : Nat}, D[k]? = some (a, OZ K m od kvs) → Go E.nx F G (D.set k (a, OD K m)) → Go E'.nx F G D
  rt : ∀ {F : Hp} {R : Ty} {D : Own} {k : Nat}, D[k]? = some (a, OZ K m od kvs) → GoV E.rt F R (D.set k (a, OD K m)) → GoV E'.rt F R D
end
end TL
set_option Elab.async false
set_option linter.all false
set_option maxRecDepth 100000
set_option maxHeartbeats 1000000
namespace TL
open PySem PySem.Spec L2
end TL
set_option Elab.async false
set_option linter.all false
set_option maxRecDepth 100000
set_option maxHeartbeats 1000000
namespace TL
open PySem PySem.Spec L2 PyProof.Rows
section
variable {prog : Program} {w : World} {A : Around} {R : Result → Shared → Prop} {I : Addr} {fp wr : List Addr} {G : Array GenState → Array GenState → Prop} {n : Nat} {P : Nat → Value → Prop} {St : Nat → Shared → Prop}
end
section
variable {prog : Program} {w : World} {A : Around} {E : Value → Shared → Prop} {s : Shared}
end
end TL
section
set_option Elab.async false
set_option linter.all false
set_option maxRecDepth 100000
set_option maxHeartbeats 1000000
namespace TL
open PySem PySem.Spec L2
def rCatS (K : PySem.W.Frag) : R2 := fun x y H Q => ∃ l b xs zs, x = .ref l ∧ y = .ref b ∧ SqL K H l xs ∧ SqL K H b zs ∧ xs.length + zs.length ≤ sizeLine ∧ ∀ p, H p = none → Q (.ref p) (upd H p (.lst (xs ++ zs)))
theorem op_catS {X : Cx} : OpR X (binaryOp .Add) (rCatS X.K) := by
  intro pins s σ H x y v u Q I rx ry h
  obtain ⟨l, b, xs, zs, rfl, rfl, hH, hB, hz, q⟩ := h
  cases rx
  cases ry
  obtain ⟨its, r, ⟨⟨cls, dd, data, sl⟩, n, ho, hc, hdn, hdt⟩, hlen⟩ := I.list hH
  obtain ⟨its2, r2, ⟨⟨cls2, dd2, data2, sl2⟩, n2, ho2, hc2, hdn2, hdt2⟩, hlen2⟩ := I.list hB
  simp only at hc hdt hc2 hdt2
  subst hc hdt hc2 hdt2
  have l1 := r.length
  have l2 := r2.length
  refine concat_meets ⟨_, ho, rfl⟩ ⟨_, ho2, rfl⟩ PySem.noFill_list_add PySem.seq_list_add PySem.F.slot_list_add PySem.F.entry_list_add (PySem.F.args_list_add_2 _ _) (PyProof.Rows.list_addW l b its.toArray its2.toArray n n2 dd dd2 sl sl2 (by simp; omega)) ⟨ho, ho2, ?_⟩
  have ea : its.toArray ++ its2.toArray = (its ++ its2).toArray := by simp
  rw [ea]
  exact ⟨.ref _, _, I.lnew (t' := s.toks) (r.append r2) (by rw [List.length_append]; omega), rfl, q _ I.fresh⟩
def rCatP (K : PySem.W.Frag) : R2 := fun x y H Q => ∃ a b xs ys, x = .ref a ∧ y = .ref b ∧ SqT K H a xs ∧ SqT K H b ys ∧ xs.length + ys.length ≤ sizeLine ∧
  (xs = [] → Q (.ref b) H) ∧ (ys = [] → xs ≠ [] → Q (.ref a) H) ∧ (ys ≠ [] → xs ≠ [] → ∀ p o, H p = none → o.dict = none → Q (.ref p) (upd H p (.frz o (.tup (xs ++ ys)))))
theorem op_catP {X : Cx} : OpR X (binaryOp .Add) (rCatP X.K) := by
  intro pins s σ H x y v u Q I rx ry h
  obtain ⟨a, b, xs, ys, ex, ey, ha, hb, hz, q0, q1, q2⟩ := h
  by_cases hx : xs = []
  · subst hx
    exact op_catN pins s σ H x y v u Q I rx ry ⟨a, b, ys, ex, ey, ha, hb, q0 rfl⟩
  · subst ex ey
    cases rx
    cases ry
    obtain ⟨its, r1, p1, _⟩ := I.tuple ha
    obtain ⟨its2, r2, p2, _⟩ := I.tuple hb
    refine HT.cat_tup p1 p2 (fun z => hx (r1.nil_iff.mp z)) (fun z => ⟨.ref a, H, I, rfl, q1 (r2.nil_iff.mp z) hx⟩) (fun z => ?_) (by rw [← r1.length, ← r2.length]; exact hz)
    refine ⟨.ref s.heap.objs.size, _, I.laid (t' := s.toks) (o := .frz { cls := .type "tuple", data := .seq (its ++ its2).toArray } (.tup (xs ++ ys))) (fun b ob q => Heap.get?_push_of_some _ q) (Nat.le_refl _) ?_, rfl, q2 (fun w => z (r2.nil_iff.mpr w)) hx _ _ (I.hok.fresh (Nat.le_refl _)) rfl⟩
    exact ⟨Heap.get?_push_size _ rfl, by rw [List.length_append]; exact hz, _, r1.append r2, PyProof.Rows.IsTup.new _ _⟩
def qAddS (K : PySem.W.Frag) : R2 := fun x y H Q => qAdd K x y H Q ∨ rCatS K x y H Q ∨ rCatP K x y H Q
theorem op_addV {X : Cx} : OpR X (binaryOp .Add) (qAddS X.K) := op_addU.or (op_catS.or op_catP)
end TL
end
section
set_option Elab.async false
set_option linter.all false
set_option maxRecDepth 100000
set_option maxHeartbeats 1000000
inductive Res (ε α : Type) where
  | ok (a : α)
  | err (n : PySem.Str) (e : ε)
  | stuck
namespace Res
variable {ε ε' α β γ σ ρ : Type}
def bind (m : Res ε α) (k : α → Res ε β) : Res ε β := match m with
  | .ok a => k a
  | .err n e => .err n e
  | .stuck => .stuck
def sat (m : Res ε α) (o : α → Prop) (r : PySem.Str → ε → Prop) : Prop := match m with
  | .ok a => o a
  | .err n e => r n e
  | .stuck => False
def mapE (g : ε → ε') (m : Res ε α) : Res ε' α := match m with
  | .ok a => .ok a
  | .err n e => .err n (g e)
  | .stuck => .stuck
def calm (m : Res Unit α) : Res ε' α := match m with
  | .ok a => .ok a
  | .err _ _ => .stuck
  | .stuck => .stuck
open Classical in
noncomputable def grd (c : Prop) (x : α) : Res ε α := if c then .ok x else .stuck
def opt (o : Option α) : Res ε α := match o with
  | some a => .ok a
  | none => .stuck
def loop (body : α → σ → (σ → Res ε ρ) → Res ε ρ) (k : σ → Res ε ρ) : List α → σ → Res ε ρ
  | [], s => k s
  | x :: xs, s => body x s (loop body k xs)
def wloop (body : σ → (σ → Res ε ρ) → Res ε ρ) : Nat → σ → Res ε ρ
  | 0, _ => .stuck
  | n + 1, s => body s (wloop body n)
@[simp] theorem bind_ok (a : α) (k : α → Res ε β) : bind (.ok a) k = k a := rfl
@[simp] theorem bind_err (n : PySem.Str) (e : ε) (k : α → Res ε β) : bind (.err n e) k = .err n e := rfl
@[simp] theorem bind_stuck (k : α → Res ε β) : bind .stuck k = .stuck := rfl
@[simp] theorem mapE_ok (g : ε → ε') (a : α) : mapE g (.ok a) = .ok a := rfl
@[simp] theorem mapE_err (g : ε → ε') (n : PySem.Str) (e : ε) : mapE g (.err n e : Res ε α) = .err n (g e) := rfl
@[simp] theorem calm_ok (a : α) : (calm (.ok a) : Res ε' α) = .ok a := rfl
theorem grd_t {c : Prop} {x : α} (h : c) : (grd c x : Res ε α) = .ok x := if_pos h
@[simp] theorem opt_some (a : α) : (opt (some a) : Res ε α) = .ok a := rfl
theorem sat_opt {x : Option α} {k : α → Res ε β} {o : β → Prop} {r : PySem.Str → ε → Prop} (h : (bind (opt x) k).sat o r) : ∃ a, x = some a ∧ (k a).sat o r := by
  cases x with
  | some a => exact ⟨a, rfl, h⟩
  | none => exact (show False from h).elim
theorem sat_bind {m : Res ε α} {k : α → Res ε β} {o : β → Prop} {r : PySem.Str → ε → Prop} : (bind m k).sat o r ↔ m.sat (fun a => (k a).sat o r) r := by
  cases m <;> exact Iff.rfl
theorem sat_mono {m : Res ε α} {o o' : α → Prop} {r r' : PySem.Str → ε → Prop} (h : m.sat o r) (f : ∀ a, o a → o' a) (g : ∀ n e, r n e → r' n e) : m.sat o' r' := by
  cases m with
  | ok a => exact f a h
  | err n e => exact g n e h
  | stuck => exact h
theorem sat_grd {c : Prop} {x : α} {k : α → Res ε β} {o : β → Prop} {r : PySem.Str → ε → Prop} (h : (bind (grd c x) k).sat o r) : c ∧ (k x).sat o r := by
  unfold grd at h
  split at h
  · rename_i hc
    exact ⟨hc, h⟩
  · exact (show False from h).elim
end Res
namespace TL
open PySem PySem.Spec L2
structure Wish (K : PySem.W.Frag) (ε ρ : Type) where
  X : L2.St → XK
  De : ε → Own
  o : Hp → ρ → Prop
  r : Hp → Str → ε → Prop
  cond : Sto → Prop
  upo : ∀ {F F' : Hp} {a : ρ}, Same F F' → o F a → o F' a
  upr : ∀ {F F' : Hp} {n : Str} {e : ε}, Same F F' → r F n e → r F' n e
  err : ∀ {F : Hp} {n : Str} {e : ε} {G : Sto}, r F n e → cond G → Go (fun σ H => X σ (.ref (He.ga K n)) none H) F G (De e)
def Wish.W {K : PySem.W.Frag} {ε ρ : Type} (w : Wish K ε ρ) (F : Hp) (m : Res ε ρ) : Prop := m.sat (w.o F) (w.r F)
theorem Wish.up {K : PySem.W.Frag} {ε ρ : Type} {w : Wish K ε ρ} {F F' : Hp} {m : Res ε ρ} (h : w.W F m) (s : Same F F') : w.W F' m := Res.sat_mono h (fun _ => w.upo s) (fun _ _ => w.upr s)
def EvC (K : PySem.W.Frag) {ε α β S : Type} (X : L2.St → XK) (De : ε → Own) (te : TE) (G : Sto) (Dd : S → Own) (s : S) (M : (α → S → Res ε β) → Res ε β) (R : α → Ty) : Prop :=
  ∀ (kk : α → S → Res ε β) (σ : L2.St) (H F : Hp), HS (Dd s) H F → SS F G σ → ∀ (o : β → Prop) (r : Str → ε → Prop) (Q : VK), (M kk).sat o r →
    (∀ x s' v H' F', Same F F' → HS (Dd s') H' F' → (R x).p v F' → (kk x s').sat o r → Q v H') → (∀ n e, r n e → ∀ H' F', Same F F' → HS (De e) H' F' → X σ (.ref (He.ga K n)) none H') → te σ H Q
def EvTC (K : PySem.W.Frag) {ε β S : Type} (X : L2.St → XK) (De : ε → Own) (tt : TT) (G : Sto) (Dd : S → Own) (s : S) (M : (Bool → S → Res ε β) → Res ε β) : Prop :=
  ∀ (kk : Bool → S → Res ε β) (σ : L2.St) (H F : Hp), HS (Dd s) H F → SS F G σ → ∀ (o : β → Prop) (r : Str → ε → Prop) (Q : Bool → Hp → Prop), (M kk).sat o r →
    (∀ x s' H' F', Same F F' → HS (Dd s') H' F' → (kk x s').sat o r → Q x H') → (∀ n e, r n e → ∀ H' F', Same F F' → HS (De e) H' F' → X σ (.ref (He.ga K n)) none H') → tt σ H Q
def EvNC (K : PySem.W.Frag) {ε α β S : Type} (X : L2.St → XK) (De : ε → Own) (te : TE) (G : Sto) (Dd : S → Own) (s : S) (M : (α → S → Res ε β) → Res ε β) (O : α → OTy) : Prop :=
  ∀ (kk : α → S → Res ε β) (σ : L2.St) (H F : Hp), HS (Dd s) H F → SS F G σ → ∀ (o : β → Prop) (r : Str → ε → Prop) (Q : VK), (M kk).sat o r →
    (∀ x s' p H' F', Same F F' → HS ((p, O x) :: Dd s') H' F' → (kk x s').sat o r → Q (.ref p) H') → (∀ n e, r n e → ∀ H' F', Same F F' → HS (De e) H' F' → X σ (.ref (He.ga K n)) none H') → te σ H Q
def EvAC (K : PySem.W.Frag) {ε τ β S : Type} (X : L2.St → XK) (De : ε → Own) (ta : TA) (G : Sto) (Dd : S → Own) (s : S) (M : (τ → S → Res ε β) → Res ε β) (Rs : τ → List Ty) : Prop :=
  ∀ (kk : τ → S → Res ε β) (σ : L2.St) (H F : Hp), HS (Dd s) H F → SS F G σ → ∀ (o : β → Prop) (r : Str → ε → Prop) (Q : List V → Hp → Prop), (M kk).sat o r →
    (∀ x s' vs H' F', Same F F' → HS (Dd s') H' F' → AllP F' (Rs x) vs → (kk x s').sat o r → Q vs H') → (∀ n e, r n e → ∀ H' F', Same F F' → HS (De e) H' F' → X σ (.ref (He.ga K n)) none H') → ta σ H Q
section
variable {K : PySem.W.Frag} {ε ε' ρ α β γ δ S τ : Type} {X : L2.St → XK} {De : ε → Own} {G G1 G2 : Sto} {Dd : S → Own} {s : S} {te ta tb tc : TE} {tt tu : TT} {F0 F1 : Hp} {E : Ends}
theorem evc_of {R : Ty} {x : α} {R' : α → Ty} (h : Ev te G (Dd s) R (Dd s)) (e : R' x = R) : EvC (β := β) K X De te G Dd s (fun kk => kk x s) R' := fun kk σ H F hs ss o r Q hm q _ =>
  h σ H F hs ss Q fun v H' F' s' hs' r' => q x s v H' F' s' hs' (by rw [e]; exact r') hm
theorem evtc_of {b : Bool} (h : EvT tt G (Dd s) b (Dd s)) : EvTC (β := β) K X De tt G Dd s (fun kk => kk b s) := fun kk σ H F hs ss o r Q hm q _ =>
  h σ H F hs ss Q fun H' F' s' hs' => q b s H' F' s' hs' hm
theorem evc_var {i : Nat} {R : α → Ty} (x : α) (h : G[i]? = some (some (R x))) : EvC (β := β) K X De (tVar i) G Dd s (fun kk => kk x s) R := evc_of (ev_var h) rfl
theorem evc_int {i : Int} : EvC (β := β) K X De (tC (.int i)) G Dd s (fun kk => kk i s) (fun i => DI K i) := evc_of ev_int rfl
theorem evc_bl {b : Bool} : EvC (β := β) K X De (tC (.bl b)) G Dd s (fun kk => kk b s) (fun b => DB K b) := evc_of ev_bl rfl
theorem evc2 {r : R2} {Ra : α → Ty} {Rb : β → Ty} {R : γ → Ty} {Ma : (α → S → Res ε δ) → Res ε δ} {Mb : S → (β → S → Res ε δ) → Res ε δ} {g : α → β → γ}
    (ha : EvC K X De ta G Dd s Ma Ra) (hb : ∀ s1, EvC K X De tb G Dd s1 (Mb s1) Rb)
    (hr : ∀ a b s2 x y H F, HS (Dd s2) H F → (Ra a).p x F → (Rb b).p y F → ∀ Q : VK, (∀ v H' F', Same F F' → HS (Dd s2) H' F' → (R (g a b)).p v F' → Q v H') → r x y H Q) :
    EvC K X De (tOp r ta tb) G Dd s (fun kk => Ma fun a s1 => Mb s1 fun b s2 => kk (g a b) s2) R := fun kk σ H F hs ss o r' Q hm q qe =>
  ha _ σ H F hs ss o r' _ hm (fun a s1 x H1 F1 t1 hs1 r1 hm1 => hb s1 _ σ H1 F1 hs1 (ss.mono t1) o r' _ hm1
    (fun b s2 y H2 F2 t2 hs2 r2 hm2 => hr a b s2 x y H2 F2 hs2 ((Ra a).mono t2 r1) r2 Q fun v H3 F3 t3 hs3 r3 => q _ s2 v H3 F3 ((t1.trans t2).trans t3) hs3 r3 hm2)
    (fun n e h H2 F2 t2 => qe n e h H2 F2 (t1.trans t2))) (fun n e h H1 F1 t1 => qe n e h H1 F1 t1)
theorem evc2g {r : R2} {Ra : α → Ty} {Rb : β → Ty} {R : γ → Ty} {Ma : (α → S → Res ε δ) → Res ε δ} {Mb : S → (β → S → Res ε δ) → Res ε δ} {g : α → β → γ} {C : α → β → Prop}
    (ha : EvC K X De ta G Dd s Ma Ra) (hb : ∀ s1, EvC K X De tb G Dd s1 (Mb s1) Rb)
    (hr : ∀ a b s2 x y H F, C a b → HS (Dd s2) H F → (Ra a).p x F → (Rb b).p y F → ∀ Q : VK, (∀ v H' F', Same F F' → HS (Dd s2) H' F' → (R (g a b)).p v F' → Q v H') → r x y H Q) :
    EvC K X De (tOp r ta tb) G Dd s (fun kk => Ma fun a s1 => Mb s1 fun b s2 => Res.bind (Res.grd (C a b) (g a b)) fun z => kk z s2) R := fun kk σ H F hs ss o r' Q hm q qe =>
  ha _ σ H F hs ss o r' _ hm (fun a s1 x H1 F1 t1 hs1 r1 hm1 => hb s1 _ σ H1 F1 hs1 (ss.mono t1) o r' _ hm1
    (fun b s2 y H2 F2 t2 hs2 r2 hm2 => hr a b s2 x y H2 F2 (Res.sat_grd hm2).1 hs2 ((Ra a).mono t2 r1) r2 Q fun v H3 F3 t3 hs3 r3 => q _ s2 v H3 F3 ((t1.trans t2).trans t3) hs3 r3 (Res.sat_grd hm2).2)
    (fun n e h H2 F2 t2 => qe n e h H2 F2 (t1.trans t2))) (fun n e h H1 F1 t1 => qe n e h H1 F1 t1)
theorem evc2o {r : R2} {Ra : α → Ty} {Rb : β → Ty} {R : γ → Ty} {Ma : (α → S → Res ε δ) → Res ε δ} {Mb : S → (β → S → Res ε δ) → Res ε δ} {g : α → β → Option γ}
    (ha : EvC K X De ta G Dd s Ma Ra) (hb : ∀ s1, EvC K X De tb G Dd s1 (Mb s1) Rb)
    (hr : ∀ a b c s2 x y H F, g a b = some c → HS (Dd s2) H F → (Ra a).p x F → (Rb b).p y F → ∀ Q : VK, (∀ v H' F', Same F F' → HS (Dd s2) H' F' → (R c).p v F' → Q v H') → r x y H Q) :
    EvC K X De (tOp r ta tb) G Dd s (fun kk => Ma fun a s1 => Mb s1 fun b s2 => Res.bind (Res.opt (g a b)) fun z => kk z s2) R := fun kk σ H F hs ss o r' Q hm q qe =>
  ha _ σ H F hs ss o r' _ hm (fun a s1 x H1 F1 t1 hs1 r1 hm1 => hb s1 _ σ H1 F1 hs1 (ss.mono t1) o r' _ hm1
    (fun b s2 y H2 F2 t2 hs2 r2 hm2 => by
      obtain ⟨c, e, hm3⟩ := Res.sat_opt hm2
      exact hr a b c s2 x y H2 F2 e hs2 ((Ra a).mono t2 r1) r2 Q fun v H3 F3 t3 hs3 r3 => q _ s2 v H3 F3 ((t1.trans t2).trans t3) hs3 r3 hm3)
    (fun n e h H2 F2 t2 => qe n e h H2 F2 (t1.trans t2))) (fun n e h H1 F1 t1 => qe n e h H1 F1 t1)
theorem evc1 {t : TE → TE} {Ra : α → Ty} {R : γ → Ty} {Ma : (α → S → Res ε δ) → Res ε δ} {g : α → γ} {r : V → Hp → VK → Prop}
    (ha : EvC K X De ta G Dd s Ma Ra)
    (hr : ∀ a s2 x H F, HS (Dd s2) H F → (Ra a).p x F → ∀ Q : VK, (∀ v H' F', Same F F' → HS (Dd s2) H' F' → (R (g a)).p v F' → Q v H') → r x H Q) :
    EvC K X De (tUn r ta) G Dd s (fun kk => Ma fun a s1 => kk (g a) s1) R := fun kk σ H F hs ss o r' Q hm q qe =>
  ha _ σ H F hs ss o r' _ hm (fun a s1 x H1 F1 t1 hs1 r1 hm1 => hr a s1 x H1 F1 hs1 r1 Q fun v H3 F3 t3 hs3 r3 => q _ s1 v H3 F3 (t1.trans t3) hs3 r3 hm1) (fun n e h H1 F1 t1 => qe n e h H1 F1 t1)
theorem evac_nil : EvAC (β := β) K X De tNil G Dd s (fun kk => kk () s) (fun _ => []) := fun kk σ H F hs ss o r Q hm q _ => q () s [] H F (Same.refl _) hs .nil hm
theorem evac_cons {tr : TA} {R : α → Ty} {Rs : τ → List Ty} {Ma : (α → S → Res ε β) → Res ε β} {Mr : S → (τ → S → Res ε β) → Res ε β}
    (h : EvC K X De te G Dd s Ma R) (hr : ∀ s1, EvAC K X De tr G Dd s1 (Mr s1) Rs) : EvAC K X De (tCons te tr) G Dd s (fun kk => Ma fun a s1 => Mr s1 fun t s2 => kk (a, t) s2) (fun t => R t.1 :: Rs t.2) := fun kk σ H F hs ss o r Q hm q qe =>
  h _ σ H F hs ss o r _ hm (fun a s1 v H1 F1 t1 hs1 r1 hm1 => hr s1 _ σ H1 F1 hs1 (ss.mono t1) o r _ hm1
    (fun t s2 vs H2 F2 t2 hs2 r2 hm2 => q (a, t) s2 _ H2 F2 (t1.trans t2) hs2 (.cons ((R a).mono t2 r1) r2) hm2) (fun n e h H2 F2 t2 => qe n e h H2 F2 (t1.trans t2))) (fun n e h H1 F1 t1 => qe n e h H1 F1 t1)
theorem evc_CB {r : List V → Hp → VK → Prop} {t : TA} {Rs : τ → List Ty} {R : γ → Ty} {M : (τ → S → Res ε β) → Res ε β} {g : τ → γ} (h : EvAC K X De t G Dd s M Rs)
    (hr : ∀ a s2 vs H F, HS (Dd s2) H F → AllP F (Rs a) vs → ∀ Q : VK, (∀ v H' F', Same F F' → HS (Dd s2) H' F' → (R (g a)).p v F' → Q v H') → r vs H Q) : EvC K X De (tCB r t) G Dd s (fun kk => M fun a s1 => kk (g a) s1) R := fun kk σ H F hs ss o r' Q hm q qe =>
  h _ σ H F hs ss o r' _ hm (fun a s1 vs H1 F1 t1 hs1 r1 hm1 => hr a s1 vs H1 F1 hs1 r1 Q fun v H2 F2 t2 hs2 r2 => q _ s1 v H2 F2 (t1.trans t2) hs2 r2 hm1) qe
theorem evtc_test {M : (Bool → S → Res ε β) → Res ε β} (h : EvC K X De te G Dd s M (fun b => DB K b)) : EvTC K X De (tTest te) G Dd s M := fun kk σ H F hs ss o r Q hm q qe =>
  h kk σ H F hs ss o r _ hm (fun b s1 v H1 F1 t1 hs1 r1 hm1 => ⟨b, dp_bl r1, q b s1 H1 F1 t1 hs1 hm1⟩) qe
theorem evtc_B {M : (Bool → S → Res ε β) → Res ε β} (h : EvC K X De te G Dd s M (fun b => DB K b)) : EvTC K X De (tB te) G Dd s M := fun kk σ H F hs ss o r Q hm q qe =>
  h kk σ H F hs ss o r _ hm (fun b s1 v H1 F1 t1 hs1 r1 hm1 => ⟨b, dp_bl r1, q b s1 H1 F1 t1 hs1 hm1⟩) qe
theorem evtc_not {M : (Bool → S → Res ε β) → Res ε β} (h : EvTC K X De tt G Dd s M) : EvTC K X De (tNot tt) G Dd s (fun kk => M fun b s1 => kk (!b) s1) := fun kk σ H F hs ss o r Q hm q qe =>
  h _ σ H F hs ss o r _ hm (fun b s1 H1 F1 t1 hs1 hm1 => q _ s1 H1 F1 t1 hs1 hm1) qe
theorem evtc_or {b : S → Bool} {M : (Bool → S → Res ε β) → Res ε β} (h : EvTC K X De tt G Dd s M) (hb : ∀ s1, EvTC (β := β) K X De tu G Dd s1 (fun kk => kk (b s1) s1)) : EvTC K X De (tOr tt tu) G Dd s (fun kk => M fun a s1 => kk (a || b s1) s1) := fun kk σ H F hs ss o r Q hm q qe =>
  h _ σ H F hs ss o r _ hm (fun a s1 H1 F1 t1 hs1 hm1 => by
    cases a with
    | false => exact hb s1 (fun b s => kk (false || b) s) σ H1 F1 hs1 (ss.mono t1) o r _ hm1 (fun c s2 H2 F2 t2 hs2 hm2 => q c s2 H2 F2 (t1.trans t2) hs2 (by simpa using hm2)) (fun n e h H2 F2 t2 => qe n e h H2 F2 (t1.trans t2))
    | true => exact q true s1 H1 F1 t1 hs1 hm1) qe
theorem evtc_andM {M : (Bool → S → Res ε β) → Res ε β} {Mb : S → (Bool → S → Res ε (Bool × S)) → Res ε (Bool × S)} (h : EvTC K X De tt G Dd s M) (hb : ∀ s1, EvTC (β := Bool × S) K X De tu G Dd s1 (Mb s1)) :
    EvTC K X De (tAnd tt tu) G Dd s (fun kk => M fun a s1 => Res.bind (if a = true then Mb s1 (fun b s => .ok (b, s)) else .ok (false, s1)) fun t => kk t.1 t.2) := fun kk σ H F hs ss o r Q hm q qe =>
  h _ σ H F hs ss o r _ hm (fun a s1 H1 F1 t1 hs1 hm1 => by
    cases a with
    | true =>
      rw [if_pos rfl, Res.sat_bind] at hm1
      exact hb s1 (fun b s => .ok (b, s)) σ H1 F1 hs1 (ss.mono t1) (fun t => (kk t.1 t.2).sat o r) r _ hm1 (fun c s2 H2 F2 t2 hs2 hm2 => q c s2 H2 F2 (t1.trans t2) hs2 hm2) (fun n e h H2 F2 t2 => qe n e h H2 F2 (t1.trans t2))
    | false => exact q false s1 H1 F1 t1 hs1 hm1) qe
theorem evtc_orM {M : (Bool → S → Res ε β) → Res ε β} {Mb : S → (Bool → S → Res ε (Bool × S)) → Res ε (Bool × S)} (h : EvTC K X De tt G Dd s M) (hb : ∀ s1, EvTC (β := Bool × S) K X De tu G Dd s1 (Mb s1)) :
    EvTC K X De (tOr tt tu) G Dd s (fun kk => M fun a s1 => Res.bind (if a = true then .ok (true, s1) else Mb s1 (fun b s => .ok (b, s))) fun t => kk t.1 t.2) := fun kk σ H F hs ss o r Q hm q qe =>
  h _ σ H F hs ss o r _ hm (fun a s1 H1 F1 t1 hs1 hm1 => by
    cases a with
    | false =>
      rw [if_neg (by decide), Res.sat_bind] at hm1
      exact hb s1 (fun b s => .ok (b, s)) σ H1 F1 hs1 (ss.mono t1) (fun t => (kk t.1 t.2).sat o r) r _ hm1 (fun c s2 H2 F2 t2 hs2 hm2 => q c s2 H2 F2 (t1.trans t2) hs2 hm2) (fun n e h H2 F2 t2 => qe n e h H2 F2 (t1.trans t2))
    | true => exact q true s1 H1 F1 t1 hs1 hm1) qe
theorem evc_notV {M : (Bool → S → Res ε β) → Res ε β} (h : EvC K X De te G Dd s M (fun b => DB K b)) : EvC K X De (tNotV te) G Dd s (fun kk => M fun b s1 => kk (!b) s1) (fun b => DB K b) := fun kk σ H F hs ss o r Q hm q qe =>
  h _ σ H F hs ss o r _ hm (fun b s1 v H1 F1 t1 hs1 r1 hm1 => ⟨b, dp_bl r1, q _ s1 _ H1 F1 t1 hs1 (.bl _) hm1⟩) qe
theorem evc_andV {b : S → Bool} {M : (Bool → S → Res ε β) → Res ε β} (h : EvC K X De ta G Dd s M (fun b => DB K b)) (hb : ∀ s1, EvC (β := β) K X De tb G Dd s1 (fun kk => kk (b s1) s1) (fun b => DB K b)) : EvC K X De (tAndV ta tb) G Dd s (fun kk => M fun a s1 => kk (a && b s1) s1) (fun b => DB K b) := fun kk σ H F hs ss o r Q hm q qe =>
  h _ σ H F hs ss o r _ hm (fun a s1 v H1 F1 t1 hs1 r1 hm1 => by
    refine ⟨a, dp_bl r1, ?_⟩
    cases a with
    | true => exact hb s1 (fun b s => kk (true && b) s) σ H1 F1 hs1 (ss.mono t1) o r _ hm1 (fun c s2 v2 H2 F2 t2 hs2 r2 hm2 => q c s2 v2 H2 F2 (t1.trans t2) hs2 r2 (by simpa using hm2)) (fun n e h H2 F2 t2 => qe n e h H2 F2 (t1.trans t2))
    | false => exact q false s1 _ H1 F1 t1 hs1 (.bl _) hm1) qe
theorem evc_andVM {M : (Bool → S → Res ε β) → Res ε β} {Mb : S → (Bool → S → Res ε (Bool × S)) → Res ε (Bool × S)} (h : EvC K X De ta G Dd s M (fun b => DB K b)) (hb : ∀ s1, EvC (β := Bool × S) K X De tb G Dd s1 (Mb s1) (fun b => DB K b)) :
    EvC K X De (tAndV ta tb) G Dd s (fun kk => M fun a s1 => Res.bind (if a = true then Mb s1 (fun b s => .ok (b, s)) else .ok (false, s1)) fun t => kk t.1 t.2) (fun b => DB K b) := fun kk σ H F hs ss o r Q hm q qe =>
  h _ σ H F hs ss o r _ hm (fun a s1 v H1 F1 t1 hs1 r1 hm1 => by
    refine ⟨a, dp_bl r1, ?_⟩
    cases a with
    | true =>
      rw [if_pos rfl, Res.sat_bind] at hm1
      exact hb s1 (fun b s => .ok (b, s)) σ H1 F1 hs1 (ss.mono t1) (fun t => (kk t.1 t.2).sat o r) r _ hm1 (fun c s2 v2 H2 F2 t2 hs2 r2 hm2 => q c s2 v2 H2 F2 (t1.trans t2) hs2 r2 hm2) (fun n e h H2 F2 t2 => qe n e h H2 F2 (t1.trans t2))
    | false => exact q false s1 _ H1 F1 t1 hs1 (.bl _) hm1) qe
end
end TL
end
section
set_option Elab.async false
set_option linter.all false
set_option maxRecDepth 100000
set_option maxHeartbeats 1000000
namespace TL
open PySem PySem.Spec L2
def OLT {α : Type} (R : α → Ty) (xs : List α) : OTy := .fl (fun o F => ∃ vs, o = .lst vs ∧ AllP F (xs.map R) vs) (fun s ⟨vs, e, h⟩ => ⟨vs, e, h.mono s⟩)
def LT (K : PySem.W.Frag) {α : Type} (R : α → Ty) (xs : List α) : Ty := ⟨fun v F => ∃ a vs, v = .ref a ∧ SqL K F a vs ∧ AllP F (xs.map R) vs, fun s ⟨a, vs, e, h1, h2⟩ => ⟨a, vs, e, s.seq h1, h2.mono s⟩⟩
structure Tx where
  s : Str
  ok : PyData.canLay0 (.str s) = true
theorem Tx.ext' {a b : Tx} (h : a.s = b.s) : a = b := by cases a; cases b; cases h; rfl
instance : DecidableEq Tx := fun a b => if h : a.s = b.s then .isTrue (Tx.ext' h) else .isFalse fun e => h (by rw [e])
abbrev eI : Int → PyData := .int
abbrev eB : Bool → PyData := .bool
abbrev eS (t : Tx) : PyData := .str t.s
abbrev eQ (r : Rat) : PyData := .tuple [.int r.num, .int r.den]
abbrev eL {α : Type} (f : α → PyData) (xs : List α) : PyData := .list (xs.map f)
abbrev eV {α : Type} (f : α → PyData) (xs : List α) : PyData := .tuple (xs.map f)
abbrev e1 {α : Type} (f : α → PyData) (x : α) : PyData := .tuple [f x]
abbrev e2 {α β : Type} (f : α → PyData) (g : β → PyData) (x : α × β) : PyData := .tuple [f x.1, g x.2]
abbrev e3 {α β γ : Type} (f : α → PyData) (g : β → PyData) (h : γ → PyData) (x : α × β × γ) : PyData := .tuple [f x.1, g x.2.1, h x.2.2]
abbrev e4 {α β γ δ : Type} (f : α → PyData) (g : β → PyData) (h : γ → PyData) (i : δ → PyData) (x : α × β × γ × δ) : PyData := .tuple [f x.1, g x.2.1, h x.2.2.1, i x.2.2.2]
abbrev e5 {α β γ δ ζ : Type} (f : α → PyData) (g : β → PyData) (h : γ → PyData) (i : δ → PyData) (j : ζ → PyData) (x : α × β × γ × δ × ζ) : PyData := .tuple [f x.1, g x.2.1, h x.2.2.1, i x.2.2.2.1, j x.2.2.2.2]
abbrev tD (K : PySem.W.Frag) {α : Type} (e : α → PyData) (x : α) : Ty := TL.D K (e x)
theorem allP_map {K : PySem.W.Frag} {F : Hp} {α : Type} {e : α → PyData} {xs : List α} {vs : List V} (h : AllP F (xs.map (tD K e)) vs) : DpAll K F vs (xs.map e) := by
  have z : xs.map (tD K e) = (xs.map e).map (TL.D K) := by rw [List.map_map]; rfl
  rw [z] at h
  exact allP_dp h
theorem dp_allP {K : PySem.W.Frag} {F : Hp} : ∀ {ds : List PyData} {vs : List V}, DpAll K F vs ds → AllP F (ds.map (TL.D K)) vs
  | [], _, h => by cases h; exact .nil
  | d :: ds, _, h => by
    cases h with
    | cons h1 h2 => exact .cons h1 (dp_allP h2)
theorem map_allP {K : PySem.W.Frag} {F : Hp} {α : Type} {e : α → PyData} {xs : List α} {vs : List V} (h : DpAll K F vs (xs.map e)) : AllP F (xs.map (tD K e)) vs := by
  have z : xs.map (tD K e) = (xs.map e).map (TL.D K) := by rw [List.map_map]; rfl
  rw [z]
  exact dp_allP h
section
variable {K : PySem.W.Frag} {ε ε' ρ α β γ δ S τ σt ω : Type} {X : L2.St → XK} {De : ε → Own} {G G1 G2 : Sto} {D0 : Own} {Dd : S → Own} {s : S} {te ta tb tc : TE} {tt tu : TT} {F0 F1 : Hp} {E : Ends} {w : Wish K ε ρ}
structure Bor {Ω : Type} (Dp : Ω → Own) (k : Nat) (a : Addr) (O : ω → OTy) (gt : Ω → ω) (st : Ω → ω → Ω) : Prop where
  at_ : ∀ w, (Dp w)[k]? = some (a, O (gt w))
  set_ : ∀ w v, (Dp w).set k (a, O v) = Dp (st w v)
abbrev Bor1 (Dp : ω → Own) (k : Nat) (a : Addr) (O : ω → OTy) : Prop := Bor Dp k a O id (fun _ v => v)
theorem Bor.here {D : Own} {a : Addr} {O : ω → OTy} : Bor1 (fun w => (a, O w) :: D) 0 a O := ⟨fun _ => rfl, fun _ _ => rfl⟩
theorem Bor.cons {Dp : ω → Own} {k : Nat} {a : Addr} {O : ω → OTy} {c : Addr × OTy} (B : Bor1 Dp k a O) : Bor1 (fun w => c :: Dp w) (k + 1) a O :=
  ⟨fun w => by rw [List.getElem?_cons_succ]; exact B.at_ w, fun w v => by rw [List.set_cons_succ, B.set_ w v]⟩
theorem Bor.get1 {Dp : ω → Own} {k : Nat} {a : Addr} {O : ω → OTy} (B : Bor1 Dp k a O) (w : ω) : (Dp w)[k]? = some (a, O w) := B.at_ w
def dwish (K : PySem.W.Frag) (Xk : XK) (Q : VK) (out : ρ → Out) (Dr : ρ → Own) (De : ε → Own) : Wish K ε ρ where
  X := fun _ => Xk
  De := De
  o := fun F r => Post (out r) Q Xk F (Dr r)
  r := fun F n e => GoX Xk F (.ref (He.ga K n)) (De e)
  cond := fun _ => True
  upo := fun s h => h.up s
  upr := fun s h => GoX.up h s
  err := fun h _ σ H F s hs _ => h H F s hs
theorem GoN.drop {P : VK} {O : OTy} {D1 D0 : Own} {F0 : Hp} (h : GoN P F0 O D1) (s : D1.Sublist D0) : GoN P F0 O D0 := fun p H F s1 hs => h p H F s1 (hs.drop (s.cons₂ _))
theorem go_asgC {i : Nat} {g : TG} {M : (α → Unit → Res ε ρ) → Res ε ρ} {R : α → Ty} {Gx : α → Sto} {kk : α → Res ε ρ} (h : EvC K w.X w.De te G (fun _ : Unit => D0) () M R) (hg : ∀ x, EvG g G (R x) (Gx x))
    {m : Res ε ρ} (hP : w.W F0 m) (q : ∀ x, w.W F0 (kk x) → Go E.nx F0 (Gx x) D0) (c : w.cond G := by first | exact trivial | walk_at "cond") (hm : m = (M fun v _ => Res.bind (.ok v) kk) := by exact rfl) : Go (tAsg te g E) F0 G D0 := by subst hm; exact (fun σ H F t hs ss =>
  h _ σ H F hs ss _ _ _ hP (fun x _ v H1 F1 t1 hs1 r1 hm => hg x v σ H1 F1 D0 hs1 (ss.mono t1) r1 _ fun σ' ss' => q x hm σ' H1 F1 (t.trans t1) hs1 ss') (fun n e hr H1 F1 t1 hs1 => w.err hr c σ H1 F1 (t.trans t1) hs1 (ss.mono t1)))
theorem go_setC {i : Nat} {M : (α → Unit → Res ε ρ) → Res ε ρ} {R : α → Ty} {kk : α → Res ε ρ} (h : EvC K w.X w.De te G (fun _ : Unit => D0) () M R)
    {m : Res ε ρ} (hP : w.W F0 m) (q : ∀ x, w.W F0 (kk x) → Go E.nx F0 (G.set i (some (R x))) D0) (c : w.cond G := by first | exact trivial | walk_at "cond") (hm : m = (M fun v _ => Res.bind (.ok v) kk) := by exact rfl) : Go (tAsg te (gName i) E) F0 G D0 := go_asgC (i := i) h (fun _ => evG_name) hP q c hm
theorem go_asgCS {g : TG} {M : (α → S → Res ε ρ) → Res ε ρ} {R : α → Ty} {Gx : α → Sto} {kk : α × S → Res ε ρ} (h : EvC K w.X w.De te G Dd s M R) (hg : ∀ x, EvG g G (R x) (Gx x))
    {m : Res ε ρ} (hP : w.W F0 m) (q : ∀ x, w.W F0 (kk x) → Go E.nx F0 (Gx x.1) (Dd x.2)) (c : w.cond G := by first | exact trivial | walk_at "cond") (hm : m = (M fun v s' => Res.bind (.ok (v, s')) kk) := by exact rfl) : Go (tAsg te g E) F0 G (Dd s) := by subst hm; exact (fun σ H F t hs ss =>
  h _ σ H F hs ss _ _ _ hP (fun x s' v H1 F1 t1 hs1 r1 hm => hg x v σ H1 F1 _ hs1 (ss.mono t1) r1 _ fun σ' ss' => q (x, s') hm σ' H1 F1 (t.trans t1) hs1 ss') (fun n e hr H1 F1 t1 hs1 => w.err hr c σ H1 F1 (t.trans t1) hs1 (ss.mono t1)))
theorem go_setCS {i : Nat} {M : (α → S → Res ε ρ) → Res ε ρ} {R : α → Ty} {kk : α × S → Res ε ρ} (h : EvC K w.X w.De te G Dd s M R)
    {m : Res ε ρ} (hP : w.W F0 m) (q : ∀ x, w.W F0 (kk x) → Go E.nx F0 (G.set i (some (R x.1))) (Dd x.2)) (c : w.cond G := by first | exact trivial | walk_at "cond") (hm : m = (M fun v s' => Res.bind (.ok (v, s')) kk) := by exact rfl) : Go (tAsg te (gName i) E) F0 G (Dd s) := go_asgCS h (fun _ => evG_name) hP q c hm
theorem go_setNC {i : Nat} {M : (α → Unit → Res ε ρ) → Res ε ρ} {O : α → OTy} {kk : α → Res ε ρ} (h : EvNC K w.X w.De te G (fun _ : Unit => D0) () M O)
    {m : Res ε ρ} (hP : w.W F0 m) (q : ∀ x p, w.W F0 (kk x) → Go E.nx F0 (G.set i (some (Is (.ref p)))) ((p, O x) :: D0)) (c : w.cond G := by first | exact trivial | walk_at "cond") (hm : m = (M fun v _ => Res.bind (.ok v) kk) := by exact rfl) : Go (tAsg te (gName i) E) F0 G D0 := by subst hm; exact (fun σ H F t hs ss =>
  h _ σ H F hs ss _ _ _ hP (fun x _ p H1 F1 t1 hs1 hm => q x p hm _ H1 F1 (t.trans t1) hs1 ((ss.mono t1).set (R := Is (.ref p)) rfl i)) (fun n e hr H1 F1 t1 hs1 => w.err hr c σ H1 F1 (t.trans t1) hs1 (ss.mono t1)))
theorem go_retC {M : (α → S → Res ε ρ) → Res ε ρ} {R : α → Ty} (f : α → S → ρ) (h : EvC K w.X w.De te G Dd s M R)
    {m : Res ε ρ} (hP : w.W F0 m) (hr : ∀ F v s', w.o F (f v s') → GoV E.rt F (R v) (Dd s')) (c : w.cond G := by first | exact trivial | walk_at "cond") (hm : m = (M fun v s' => .ok (f v s')) := by exact rfl) : Go (tRet te E) F0 G (Dd s) := by subst hm; exact (fun σ H F t hs ss =>
  h _ σ H F hs ss _ _ _ hP (fun x s' v H1 F1 t1 hs1 r1 hm => hr F0 x s' hm v H1 F1 (t.trans t1) hs1 r1) (fun n e hr H1 F1 t1 hs1 => w.err hr c σ H1 F1 (t.trans t1) hs1 (ss.mono t1)))
theorem go_retNC {M : (α → S → Res ε ρ) → Res ε ρ} {O : α → OTy} (f : α → S → ρ) (h : EvNC K w.X w.De te G Dd s M O)
    {m : Res ε ρ} (hP : w.W F0 m) (hr : ∀ F v s', w.o F (f v s') → GoN E.rt F (O v) (Dd s')) (c : w.cond G := by first | exact trivial | walk_at "cond") (hm : m = (M fun v s' => .ok (f v s')) := by exact rfl) : Go (tRet te E) F0 G (Dd s) := by subst hm; exact (fun σ H F t hs ss =>
  h _ σ H F hs ss _ _ _ hP (fun x s' p H1 F1 t1 hs1 hm => hr F0 x s' hm p H1 F1 (t.trans t1) hs1) (fun n e hr H1 F1 t1 hs1 => w.err hr c σ H1 F1 (t.trans t1) hs1 (ss.mono t1)))
theorem go_ifC {t u : TS} {M : (Bool → Unit → Res ε ρ) → Res ε ρ} {mA mB : Res ε ρ} (h : EvTC K w.X w.De tt G (fun _ : Unit => D0) () M) {m : Res ε ρ} (hP : w.W F0 m)
    (h1 : w.W F0 mA → Go (t E) F0 G D0) (h2 : w.W F0 mB → Go (u E) F0 G D0) (c : w.cond G := by first | exact trivial | walk_at "cond") (hm : m = (M fun b _ => if b = true then mA else mB) := by exact rfl) : Go (tIfS tt t u E) F0 G D0 := by subst hm; exact (fun σ H F t hs ss =>
  h _ σ H F hs ss _ _ _ hP (fun b _ H1 F1 t1 hs1 hm => by
    cases b with
    | true => exact h1 hm σ H1 F1 (t.trans t1) hs1 (ss.mono t1)
    | false => exact h2 hm σ H1 F1 (t.trans t1) hs1 (ss.mono t1)) (fun n e hr H1 F1 t1 hs1 => w.err hr c σ H1 F1 (t.trans t1) hs1 (ss.mono t1)))
theorem go_ifCS {t u : TS} {M : (Bool → S → Res ε ρ) → Res ε ρ} {mA mB : S → Res ε ρ} (h : EvTC K w.X w.De tt G Dd s M) {m : Res ε ρ} (hP : w.W F0 m)
    (h1 : ∀ s', w.W F0 (mA s') → Go (t E) F0 G (Dd s')) (h2 : ∀ s', w.W F0 (mB s') → Go (u E) F0 G (Dd s')) (c : w.cond G := by first | exact trivial | walk_at "cond") (hm : m = (M fun b s' => Res.bind (.ok s') fun s' => if b = true then mA s' else mB s') := by exact rfl) : Go (tIfS tt t u E) F0 G (Dd s) := by subst hm; exact (fun σ H F t hs ss =>
  h _ σ H F hs ss _ _ _ hP (fun b s' H1 F1 t1 hs1 hm => by
    cases b with
    | true => exact h1 s' hm σ H1 F1 (t.trans t1) hs1 (ss.mono t1)
    | false => exact h2 s' hm σ H1 F1 (t.trans t1) hs1 (ss.mono t1)) (fun n e hr H1 F1 t1 hs1 => w.err hr c σ H1 F1 (t.trans t1) hs1 (ss.mono t1)))
theorem go_parC {i j : Nat} {t : TA} {Ra : α → Ty} {Rb : β → Ty} {M : ((α × β × Unit) → Unit → Res ε ρ) → Res ε ρ} {kk : α × β → Res ε ρ} (h : EvAC K w.X w.De t G (fun _ : Unit => D0) () M (fun t => Ra t.1 :: Rb t.2.1 :: []))
    {m : Res ε ρ} (hP : w.W F0 m) (q : ∀ x, w.W F0 (kk x) → Go E.nx F0 ((G.set i (some (Ra x.1))).set j (some (Rb x.2))) D0) (c : w.cond G := by first | exact trivial | walk_at "cond") (hm : m = (M fun v _ => Res.bind (.ok (v.1, v.2.1)) kk) := by exact rfl) : Go (tPar i j t E) F0 G D0 := by subst hm; exact (fun σ H F t hs ss =>
  h _ σ H F hs ss _ _ _ hP (fun x _ vs H1 F1 t1 hs1 r1 hm => by
    obtain ⟨v, w', rfl, r2, r3⟩ := allP2 r1
    exact ⟨v, w', rfl, q (x.1, x.2.1) hm _ H1 F1 (t.trans t1) hs1 (((ss.mono t1).set r2 i).set r3 j)⟩) (fun n e hr H1 F1 t1 hs1 => w.err hr c σ H1 F1 (t.trans t1) hs1 (ss.mono t1)))
def ItOkT (J : It) (cnd : Own → Prop) (Rs : List Ty) (F0 : Hp) : Prop := ∀ (D : Own) (H F : Hp), cnd D → Same F0 F → HS D H F → ∀ i : Nat,
  (∀ R, Rs[i]? = some R → J.go i H ∧ ∀ x H', J.yld i H x H' → ∃ F2, Same F F2 ∧ HS D H' F2 ∧ R.p x F2) ∧ (Rs.length ≤ i → J.stop i H)
def EvItC (K : PySem.W.Frag) {ε α β S : Type} (X : L2.St → XK) (De : ε → Own) (wi : TI) (G : Sto) (Dd : S → Own) (s : S) (cnd : Own → Prop) (M : (List α → S → Res ε β) → Res ε β) (R : α → Ty) : Prop :=
  ∀ (kk : List α → S → Res ε β) (σ : L2.St) (H F : Hp), HS (Dd s) H F → SS F G σ → ∀ (o : β → Prop) (r : Str → ε → Prop) (Q : It → Hp → Prop), (M kk).sat o r →
    (∀ xs s' J H' F', Same F F' → HS (Dd s') H' F' → ItOkT J cnd (xs.map R) F' → (kk xs s').sat o r → Q J H') → (∀ n e, r n e → ∀ H' F', Same F F' → HS (De e) H' F' → X σ (.ref (He.ga K n)) none H') → wi σ H Q
theorem itOkT_of {J : It} {ds : List PyData} {F : Hp} (h : ItOk K J ds F) : ItOkT J (fun _ => True) (ds.map (TL.D K)) F := fun D H F1 _ s hs i => by
  obtain ⟨h1, h2⟩ := h D H F1 s hs i
  refine ⟨fun R e => ?_, fun l => h2 (by simpa using l)⟩
  rw [List.getElem?_map] at e
  cases q : ds[i]? with
  | none => rw [q] at e; cases e
  | some d =>
    rw [q] at e
    cases e
    exact h1 d q
theorem go_forC {wi : TI} {g : TG} {tb : TS} {cnd : Own → Prop} {R : α → Ty} {M : (List α → Unit → Res ε ρ) → Res ε ρ} {body : α → σt → (σt → Res ε ρ) → Res ε ρ} {k : σt → Res ε ρ}
    (hi : EvItC K w.X w.De wi G (fun _ : Unit => D0) () cnd M R) (Gs : σt → Sto) (Ds : σt → Own) (s0 : σt) (Gx : σt → α → Sto) {m : Res ε ρ} (hP : w.W F0 m)
    (w0 : SLe G (Gs s0)) (d0 : (Ds s0).Sublist D0) (cm : ∀ s, cnd (Ds s)) (hg : ∀ s x, EvG g (Gs s) (R x) (Gx s x))
    (done : ∀ F1, Same F0 F1 → ∀ s, w.W F1 (k s) → Go E.nx F1 (Gs s) (Ds s))
    (step : (∀ F1, Same F0 F1 → ∀ s, w.W F1 (k s) → Go E.nx F1 (Gs s) (Ds s)) → ∀ F1, Same F0 F1 → ∀ x s nx (Nx : L2.St → Hp → Prop), (∀ F2, Same F1 F2 → ∀ s', w.W F2 (nx s') → Go Nx F2 (Gs s') (Ds s')) → w.W F1 (body x s nx) → Go (tb { E with nx := Nx, ct := Nx, bk := E.nx }) F1 (Gx s x) (Ds s)) (c : w.cond G := by first | exact trivial | walk_at "cond") (hm : m = (M fun xs _ => Res.loop body k xs s0) := by exact rfl) :
    Go (tFor wi g tb E) F0 G D0 := by subst hm; exact (fun σ H F t hs ss =>
  hi _ σ H F hs ss _ _ _ hP (fun xs _ J H1 F1 t1 hs1 ok hm => by
    have hm1 : w.W F1 (Res.loop body k xs s0) := Wish.up (w := w) hm (t.trans t1)
    refine ⟨fun i m σ H => m = xs.length - i ∧ i ≤ xs.length ∧ ∃ F', Same F1 F' ∧ ∃ x, w.W F' (Res.loop body k (xs.drop i) x) ∧ StP F' (Gs x) (Ds x) σ H, ⟨xs.length, by simp, Nat.zero_le _, F1, Same.refl _, s0, hm1, F1, Same.refl _, hs1.drop d0, (ss.mono t1).weak w0⟩, ?_⟩
    rintro i m σ2 H2 ⟨rfl, hle, F', t', x, hx, F2, t2, hs2, ss2⟩
    by_cases hlt : i < xs.length
    · obtain ⟨go, yl⟩ := (ok (Ds x) H2 F2 (cm x) (t'.trans t2) hs2 i).1 (R xs[i]) (by rw [List.getElem?_map, List.getElem?_eq_getElem hlt]; rfl)
      rw [List.drop_eq_getElem_cons hlt] at hx
      refine .inr ⟨go, fun σ' H' => ∃ F3, Same F' F3 ∧ ∃ x', w.W F3 (Res.loop body k (xs.drop (i + 1)) x') ∧ StP F3 (Gs x') (Ds x') σ' H', fun σ' H' ⟨F3, t3, p⟩ => ⟨xs.length - (i + 1), by omega, rfl, hlt, F3, t'.trans t3, p⟩, fun v H3 hy => ?_⟩
      obtain ⟨F3, t3, hs3, r3⟩ := yl v H3 hy
      exact hg x _ v σ2 H3 F3 (Ds x) hs3 (ss2.mono t3) r3 _ fun σ4 ss4 => step done F' ((t.trans t1).trans t') _ x _ _ (fun F5 t5 s' hs' σ5 H5 F6 t6 hs5 ss5 => ⟨F5, t5, s', hs', F6, t6, hs5, ss5⟩) hx σ4 H3 F3 (t2.trans t3) hs3 ss4
    · have e : i = xs.length := by omega
      subst e
      rw [List.drop_length] at hx
      exact .inl ⟨(ok (Ds x) H2 F2 (cm x) (t'.trans t2) hs2 _).2 (by simp), done F' ((t.trans t1).trans t') x hx σ2 H2 F2 t2 hs2 ss2⟩) (fun n e hr H1 F1 t1 hs1 => w.err hr c σ H1 F1 (t.trans t1) hs1 (ss.mono t1)))
theorem go_forCS {wi : TI} {g : TG} {tb : TS} {cnd : Own → Prop} {R : α → Ty} {M : (List α → S → Res ε ρ) → Res ε ρ} {body : α → σt → (σt → Res ε ρ) → Res ε ρ} {k : σt → Res ε ρ}
    (hi : EvItC K w.X w.De wi G Dd s cnd M R) (Gs : σt → Sto) (Ds : σt → Own) (s0 : S → σt) (Gx : σt → α → Sto) {m : Res ε ρ} (hP : w.W F0 m)
    (w0 : ∀ s', SLe G (Gs (s0 s'))) (d0 : ∀ s', (Ds (s0 s')).Sublist (Dd s')) (cm : ∀ s, cnd (Ds s)) (hg : ∀ s x, EvG g (Gs s) (R x) (Gx s x))
    (done : ∀ F1, Same F0 F1 → ∀ s, w.W F1 (k s) → Go E.nx F1 (Gs s) (Ds s))
    (step : (∀ F1, Same F0 F1 → ∀ s, w.W F1 (k s) → Go E.nx F1 (Gs s) (Ds s)) → ∀ F1, Same F0 F1 → ∀ x s nx (Nx : L2.St → Hp → Prop), (∀ F2, Same F1 F2 → ∀ s', w.W F2 (nx s') → Go Nx F2 (Gs s') (Ds s')) → w.W F1 (body x s nx) → Go (tb { E with nx := Nx, ct := Nx, bk := E.nx }) F1 (Gx s x) (Ds s)) (c : w.cond G := by first | exact trivial | walk_at "cond") (hm : m = (M fun xs s' => Res.loop body k xs (s0 s')) := by exact rfl) :
    Go (tFor wi g tb E) F0 G (Dd s) := by subst hm; exact (fun σ H F t hs ss =>
  hi _ σ H F hs ss _ _ _ hP (fun xs s' J H1 F1 t1 hs1 ok hm => by
    have hm1 : w.W F1 (Res.loop body k xs (s0 s')) := Wish.up (w := w) hm (t.trans t1)
    refine ⟨fun i m σ H => m = xs.length - i ∧ i ≤ xs.length ∧ ∃ F', Same F1 F' ∧ ∃ x, w.W F' (Res.loop body k (xs.drop i) x) ∧ StP F' (Gs x) (Ds x) σ H, ⟨xs.length, by simp, Nat.zero_le _, F1, Same.refl _, s0 s', hm1, F1, Same.refl _, hs1.drop (d0 s'), (ss.mono t1).weak (w0 s')⟩, ?_⟩
    rintro i m σ2 H2 ⟨rfl, hle, F', t', x, hx, F2, t2, hs2, ss2⟩
    by_cases hlt : i < xs.length
    · obtain ⟨go, yl⟩ := (ok (Ds x) H2 F2 (cm x) (t'.trans t2) hs2 i).1 (R xs[i]) (by rw [List.getElem?_map, List.getElem?_eq_getElem hlt]; rfl)
      rw [List.drop_eq_getElem_cons hlt] at hx
      refine .inr ⟨go, fun σ' H' => ∃ F3, Same F' F3 ∧ ∃ x', w.W F3 (Res.loop body k (xs.drop (i + 1)) x') ∧ StP F3 (Gs x') (Ds x') σ' H', fun σ' H' ⟨F3, t3, p⟩ => ⟨xs.length - (i + 1), by omega, rfl, hlt, F3, t'.trans t3, p⟩, fun v H3 hy => ?_⟩
      obtain ⟨F3, t3, hs3, r3⟩ := yl v H3 hy
      exact hg x _ v σ2 H3 F3 (Ds x) hs3 (ss2.mono t3) r3 _ fun σ4 ss4 => step done F' ((t.trans t1).trans t') _ x _ _ (fun F5 t5 s' hs' σ5 H5 F6 t6 hs5 ss5 => ⟨F5, t5, s', hs', F6, t6, hs5, ss5⟩) hx σ4 H3 F3 (t2.trans t3) hs3 ss4
    · have e : i = xs.length := by omega
      subst e
      rw [List.drop_length] at hx
      exact .inl ⟨(ok (Ds x) H2 F2 (cm x) (t'.trans t2) hs2 _).2 (by simp), done F' ((t.trans t1).trans t') x hx σ2 H2 F2 t2 hs2 ss2⟩) (fun n e hr H1 F1 t1 hs1 => w.err hr c σ H1 F1 (t.trans t1) hs1 (ss.mono t1)))
theorem go_whileC {tb : TS} {Mt : σt → (Bool → Unit → Res ε ρ) → Res ε ρ} {mb : σt → (σt → Res ε ρ) → Res ε ρ} {k : σt → Res ε ρ} (Gs : σt → Sto) (Ds : σt → Own) (s0 : σt) (n : Nat)
    (hc : ∀ s, EvTC K w.X w.De tt (Gs s) (fun _ : Unit => Ds s) () (Mt s)) {m : Res ε ρ} (hP : w.W F0 m)
    (w0 : SLe G (Gs s0)) (d0 : (Ds s0).Sublist D0)
    (done : ∀ F1, Same F0 F1 → ∀ s, w.W F1 (k s) → Go E.nx F1 (Gs s) (Ds s))
    (step : (∀ F1, Same F0 F1 → ∀ s, w.W F1 (k s) → Go E.nx F1 (Gs s) (Ds s)) → ∀ F1, Same F0 F1 → ∀ s nx (Nx : L2.St → Hp → Prop), (∀ F2, Same F1 F2 → ∀ s', w.W F2 (nx s') → Go Nx F2 (Gs s') (Ds s')) → w.W F1 (mb s nx) → Go (tb { E with nx := Nx, ct := Nx, bk := E.nx }) F1 (Gs s) (Ds s)) (c : ∀ s, w.cond (Gs s) := by first | exact fun _ => trivial | (intro _; walk_at "cond")) (hm : m = (Res.wloop (fun s nx => Mt s fun b _ => if b = true then mb s nx else k s) n s0) := by exact rfl) :
    Go (tWhile tt tb E) F0 G D0 := by subst hm; exact (fun σ H F t hs ss => by
  refine ⟨fun m σ H => ∃ F1, Same F0 F1 ∧ ∃ x, w.W F1 (Res.wloop (fun s nx => Mt s fun b _ => if b = true then mb s nx else k s) m x) ∧ StP F1 (Gs x) (Ds x) σ H, ⟨n, F0, Same.refl _, s0, hP, F, t, hs.drop d0, ss.weak w0⟩, ?_⟩
  rintro m σ2 H2 ⟨F1, t1, x, hx, F2, t2, hs2, ss2⟩
  cases m with
  | zero => exact (show False from hx).elim
  | succ m =>
    refine hc x _ σ2 H2 F2 hs2 ss2 _ _ _ (show (Mt x fun b _ => if b = true then mb x (Res.wloop _ m) else k x).sat (w.o F1) (w.r F1) from hx) (fun b _ H3 F3 t3 hs3 hm => ?_) (fun n e hr H1 F4 t4 hs1 => w.err hr (c x) σ2 H1 F4 (t2.trans t4) hs1 (ss2.mono t4))
    cases b with
    | true =>
      refine ⟨fun σ' H' => ∃ F5, Same F1 F5 ∧ ∃ x', w.W F5 (Res.wloop (fun s nx => Mt s fun b _ => if b = true then mb s nx else k s) m x') ∧ StP F5 (Gs x') (Ds x') σ' H', fun σ' H' ⟨F5, t5, x', h1, h2⟩ => ⟨m, Nat.lt_succ_self m, F5, t1.trans t5, x', h1, h2⟩, ?_⟩
      exact step done F1 t1 x _ _ (fun F5 t5 s' hs' σ5 H5 F6 t6 hs5 ss5 => ⟨F5, t5, s', hs', F6, t6, hs5, ss5⟩) hm σ2 H3 F3 (t2.trans t3) hs3 (ss2.mono t3)
    | false => exact done F1 t1 x hm σ2 H3 F3 (t2.trans t3) hs3 (ss2.mono t3))
theorem go_join {t : TS} (k : σt → Res ε ρ) (Gs : σt → Sto) (Ds : σt → Own) (hk : ∀ F1, Same F0 F1 → ∀ s, w.W F1 (k s) → Go E.nx F1 (Gs s) (Ds s)) (h : (∀ F1, Same F0 F1 → ∀ s, w.W F1 (k s) → Go E.nx F1 (Gs s) (Ds s)) → Go (t E) F0 G D0) : Go (t E) F0 G D0 := h hk
end
end TL
end
section
set_option Elab.async false
set_option linter.all false
set_option maxRecDepth 100000
set_option maxHeartbeats 1000000
namespace TL
open PySem PySem.Spec L2
structure Enc {α : Type} (e : α → PyData) (n : Nat) : Prop where
  lay : ∀ x, PyData.canLay0 (e x) = true
  dep : ∀ x, (e x).depth ≤ n
  inj : ∀ x y, PyData.eqv (e x) (e y) = true ↔ x = y
theorem Enc.shaped {α : Type} {e : α → PyData} {n : Nat} (h : Enc e n) (hn : n ≤ 64) (x : α) : SeqAt.shaped (e x) = true := by
  unfold SeqAt.shaped
  rw [h.lay x, Bool.true_and]
  exact decide_eq_true (Nat.le_trans (h.dep x) hn)
theorem Enc.eq {α : Type} [DecidableEq α] {e : α → PyData} {n : Nat} (h : Enc e n) (x y : α) : PyData.eqv (e x) (e y) = decide (x = y) := by
  by_cases q : x = y
  · rw [decide_eq_true q, (h.inj x y).mpr q]
  · rw [decide_eq_false q]
    cases z : PyData.eqv (e x) (e y) with
    | false => rfl
    | true => exact absurd ((h.inj x y).mp z) q
theorem enc_I : Enc eI 0 := ⟨fun _ => rfl, fun _ => Nat.le_refl _, fun x y => by
  show (x == y) = true ↔ _
  simp⟩
theorem eqvS (x y : Str) : PyData.eqv (.str x) (.str y) = (x == y) := rfl
theorem enc_S : Enc eS 0 := ⟨fun x => x.ok, fun _ => Nat.le_refl _, fun x y => by
  rw [eqvS]
  simp only [beq_iff_eq]
  exact ⟨Tx.ext', fun h => by rw [h]⟩⟩
theorem enc_Q : Enc eQ 1 := ⟨fun _ => rfl, fun _ => Nat.le_refl _, fun x y => by
  show PyData.eqv (.tuple [.int x.num, .int x.den]) (.tuple [.int y.num, .int y.den]) = true ↔ _
  rw [eqv_q]
  simp⟩
theorem dep2 {a b : PyData} {n m : Nat} (h : a.depth ≤ n) (h' : b.depth ≤ m) : (PyData.tuple [a, b]).depth ≤ max n m + 1 := by
  show max a.depth (max b.depth 0) + 1 ≤ _
  omega
theorem enc_2 {α β : Type} {f : α → PyData} {g : β → PyData} {n m : Nat} (hf : Enc f n) (hg : Enc g m) : Enc (e2 f g) (max n m + 1) := ⟨fun x => by
    show (PyData.canLay0 (f x.1) && (PyData.canLay0 (g x.2) && true)) = true
    rw [hf.lay, hg.lay]; rfl, fun x => dep2 (hf.dep _) (hg.dep _), fun x y => by
    show (PyData.eqv (f x.1) (f y.1) && (PyData.eqv (g x.2) (g y.2) && true)) = true ↔ _
    simp only [Bool.and_eq_true, Bool.and_true, hf.inj, hg.inj]
    exact ⟨fun h => Prod.ext h.1 h.2, fun h => by rw [h]; exact ⟨rfl, rfl⟩⟩⟩
theorem enc_3 {α β γ : Type} {f : α → PyData} {g : β → PyData} {h : γ → PyData} {n m k : Nat} (hf : Enc f n) (hg : Enc g m) (hh : Enc h k) : Enc (e3 f g h) (max n (max m k) + 1) := ⟨fun x => by
    show (PyData.canLay0 (f x.1) && (PyData.canLay0 (g x.2.1) && (PyData.canLay0 (h x.2.2) && true))) = true
    rw [hf.lay, hg.lay, hh.lay]; rfl, fun x => by
    have h1 := hf.dep x.1
    have h2 := hg.dep x.2.1
    have h3 := hh.dep x.2.2
    show max (f x.1).depth (max (g x.2.1).depth (max (h x.2.2).depth 0)) + 1 ≤ _
    omega, fun x y => by
    show (PyData.eqv (f x.1) (f y.1) && (PyData.eqv (g x.2.1) (g y.2.1) && (PyData.eqv (h x.2.2) (h y.2.2) && true))) = true ↔ _
    simp only [Bool.and_eq_true, Bool.and_true, hf.inj, hg.inj, hh.inj]
    exact ⟨fun h => Prod.ext h.1 (Prod.ext h.2.1 h.2.2), fun h => by rw [h]; exact ⟨rfl, rfl, rfl⟩⟩⟩
theorem encAll_lay {α : Type} {f : α → PyData} {n : Nat} (hf : Enc f n) : ∀ xs : List α, PyData.canLayAll0 (xs.map f) = true
  | [] => rfl
  | x :: xs => by
    show (PyData.canLay0 (f x) && PyData.canLayAll0 (xs.map f)) = true
    rw [hf.lay, encAll_lay hf xs]; rfl
theorem encAll_dep {α : Type} {f : α → PyData} {n : Nat} (hf : Enc f n) : ∀ xs : List α, PyData.depthAll (xs.map f) ≤ n
  | [] => Nat.zero_le _
  | x :: xs => by
    show max (f x).depth (PyData.depthAll (xs.map f)) ≤ n
    have := hf.dep x
    have := encAll_dep hf xs
    omega
theorem encAll_inj {α : Type} {f : α → PyData} {n : Nat} (hf : Enc f n) : ∀ xs ys : List α, PyData.eqvAll (xs.map f) (ys.map f) = true ↔ xs = ys
  | [], [] => by simp [PyData.eqvAll]
  | [], y :: ys => by simp [PyData.eqvAll]
  | x :: xs, [] => by simp [PyData.eqvAll]
  | x :: xs, y :: ys => by
    show (PyData.eqv (f x) (f y) && PyData.eqvAll (xs.map f) (ys.map f)) = true ↔ _
    simp only [Bool.and_eq_true, hf.inj, encAll_inj hf xs ys, List.cons.injEq]
theorem enc_L {α : Type} {f : α → PyData} {n : Nat} (hf : Enc f n) : Enc (eL f) (n + 1) := ⟨fun xs => encAll_lay hf xs, fun xs => by
  have := encAll_dep hf xs
  show PyData.depthAll (xs.map f) + 1 ≤ _
  omega, fun xs ys => encAll_inj hf xs ys⟩
theorem enc_V {α : Type} {f : α → PyData} {n : Nat} (hf : Enc f n) : Enc (eV f) (n + 1) := ⟨fun xs => encAll_lay hf xs, fun xs => by
  have := encAll_dep hf xs
  show PyData.depthAll (xs.map f) + 1 ≤ _
  omega, fun xs ys => encAll_inj hf xs ys⟩
theorem canLay_app' {x y : Str} (hx : PyData.canLay0 (.str x) = true) (hy : PyData.canLay0 (.str y) = true) : PyData.canLay0 (.str (x ++ y)) = true := by
  have hx' : x.cps.all (fun c => decide (c < 0x110000)) = true := hx
  have hy' : y.cps.all (fun c => decide (c < 0x110000)) = true := hy
  show (x ++ y).cps.all (fun c => decide (c < 0x110000)) = true
  rw [← Array.all_toList] at hx' hy' ⊢
  rw [app_cps, List.all_append, hx', hy']
  rfl
def Tx.app (a b : Tx) : Tx := ⟨a.s ++ b.s, canLay_app' a.ok b.ok⟩
instance : Append Tx := ⟨Tx.app⟩
def Tx.len (a : Tx) : Nat := a.s.length
theorem canLay_of {x : Str} (h : ∀ c ∈ x.cps.toList, c < 0x110000) : PyData.canLay0 (.str x) = true := by
  show x.cps.all (fun c => decide (c < 0x110000)) = true
  rw [← Array.all_toList, List.all_eq_true]
  exact fun c hc => decide_eq_true (h c hc)
theorem Tx.all (t : Tx) : ∀ c ∈ t.s.cps.toList, c < 0x110000 := fun c hc => by
  have h : t.s.cps.all (fun c => decide (c < 0x110000)) = true := t.ok
  rw [← Array.all_toList, List.all_eq_true] at h
  exact of_decide_eq_true (h c hc)
def Tx.sg (c : Nat) (h : c < 0x110000) : Tx := ⟨⟨#[c]⟩, canLay_of fun d hd => by
  have : d = c := by simpa using hd
  omega⟩
theorem atI_mem {α : Type} {l : List α} {i : Int} {x : α} (h : atI l i = some x) : x ∈ l := by
  unfold atI at h
  cases q : ixN l.length i with
  | none => rw [q] at h; cases h
  | some j =>
    rw [q] at h
    exact List.mem_of_getElem? h
def Tx.at (t : Tx) (i : Int) : Option Tx := if t.s.length ≤ 100000 then (match h : atI t.s.cps.toList i with
  | some c => some (Tx.sg c (t.all c (atI_mem h)))
  | none => none) else none
theorem cut_ok (t : Tx) (lo hi : Option Int) : PyData.canLay0 (.str (cutS t.s lo hi)) = true := canLay_of fun c hc => by
  have sub : ∀ c ∈ (cutS t.s lo hi).cps.toList, c ∈ t.s.cps.toList := by
    intro c hc
    unfold cutS at hc
    have hc2 := hc
    simp at hc2
    exact List.mem_of_mem_drop (List.mem_of_mem_take hc2)
  exact t.all c (sub c hc)
def Tx.cut (t : Tx) (lo hi : Option Int) : Tx := ⟨cutS t.s lo hi, cut_ok t lo hi⟩
end TL
end
section
set_option Elab.async false
set_option linter.all false
set_option maxRecDepth 100000
set_option maxHeartbeats 1000000
namespace TL
open PySem PySem.Spec L2
section
variable {K : PySem.W.Frag} {ε ε' ρ α β γ δ S τ σt ω : Type} {X : L2.St → XK} {De : ε → Own} {G G1 G2 : Sto} {D0 : Own} {Dd : S → Own} {s : S} {te ta tb tc : TE} {tt tu : TT} {F0 F1 : Hp} {E : Ends} {w : Wish K ε ρ}
  {Mi : (Int → S → Res ε δ) → Res ε δ} {Mj : S → (Int → S → Res ε δ) → Res ε δ}
theorem evc_add (ha : EvC K X De ta G Dd s Mi (tD K eI)) (hb : ∀ s1, EvC K X De tb G Dd s1 (Mj s1) (tD K eI)) : EvC K X De (tOp (qAddS K) ta tb) G Dd s (fun kk => Mi fun a s1 => Mj s1 fun b s2 => kk (a + b) s2) (tD K eI) :=
  evc2 ha hb fun a b s2 x y H F hs rx ry Q q => by
    rw [dp_int rx, dp_int ry]
    exact .inl (.inl ⟨a, b, rfl, rfl, q _ H F (Same.refl _) hs (.int _)⟩)
theorem evc_sub (ha : EvC K X De ta G Dd s Mi (tD K eI)) (hb : ∀ s1, EvC K X De tb G Dd s1 (Mj s1) (tD K eI)) : EvC K X De (tOp rSubI ta tb) G Dd s (fun kk => Mi fun a s1 => Mj s1 fun b s2 => kk (a - b) s2) (tD K eI) :=
  evc2 ha hb fun a b s2 x y H F hs rx ry Q q => by
    rw [dp_int rx, dp_int ry]
    exact ⟨a, b, rfl, rfl, q _ H F (Same.refl _) hs (.int _)⟩
theorem evc_mul (ha : EvC K X De ta G Dd s Mi (tD K eI)) (hb : ∀ s1, EvC K X De tb G Dd s1 (Mj s1) (tD K eI)) : EvC K X De (tOp (qMul K) ta tb) G Dd s (fun kk => Mi fun a s1 => Mj s1 fun b s2 => Res.bind (Res.grd (CMulW a b) (a * b)) fun z => kk z s2) (tD K eI) :=
  evc2g ha hb fun a b s2 x y H F c hs rx ry Q q => by
    rw [dp_int rx, dp_int ry]
    exact .inl ⟨a, b, rfl, rfl, c, q _ H F (Same.refl _) hs (.int _)⟩
theorem evc_div (ha : EvC K X De ta G Dd s Mi (tD K eI)) (hb : ∀ s1, EvC K X De tb G Dd s1 (Mj s1) (tD K eI)) : EvC K X De (tOp rDivI ta tb) G Dd s (fun kk => Mi fun a s1 => Mj s1 fun b s2 => Res.bind (Res.grd (CDivA a b) (a.fdiv b)) fun z => kk z s2) (tD K eI) :=
  evc2g ha hb fun a b s2 x y H F c hs rx ry Q q => by
    rw [dp_int rx, dp_int ry]
    exact ⟨a, b, rfl, rfl, c, q _ H F (Same.refl _) hs (.int _)⟩
theorem evc_mod (ha : EvC K X De ta G Dd s Mi (tD K eI)) (hb : ∀ s1, EvC K X De tb G Dd s1 (Mj s1) (tD K eI)) : EvC K X De (tOp rModI ta tb) G Dd s (fun kk => Mi fun a s1 => Mj s1 fun b s2 => Res.bind (Res.grd (b ≠ 0) (a.fmod b)) fun z => kk z s2) (tD K eI) :=
  evc2g ha hb fun a b s2 x y H F c hs rx ry Q q => by
    rw [dp_int rx, dp_int ry]
    exact ⟨a, b, rfl, rfl, c, q _ H F (Same.refl _) hs (.int _)⟩
theorem evc_neg (ha : EvC K X De ta G Dd s Mi (tD K eI)) : EvC K X De (tUn qNegI ta) G Dd s (fun kk => Mi fun a s1 => kk (-a) s1) (tD K eI) :=
  evc1 (t := id) ha fun a s2 x H F hs rx Q q => by
    rw [dp_int rx]
    exact ⟨a, rfl, q _ H F (Same.refl _) hs (.int _)⟩
theorem evc_cmpI {f : Int → Int → Bool} (ha : EvC K X De ta G Dd s Mi (tD K eI)) (hb : ∀ s1, EvC K X De tb G Dd s1 (Mj s1) (tD K eI)) : EvC K X De (tOp (rI0 fun i j => .bl (f i j)) ta tb) G Dd s (fun kk => Mi fun a s1 => Mj s1 fun b s2 => kk (f a b) s2) (tD K eB) :=
  evc2 ha hb fun a b s2 x y H F hs rx ry Q q => by
    rw [dp_int rx, dp_int ry]
    exact ⟨a, b, rfl, rfl, q _ H F (Same.refl _) hs (.bl _)⟩
theorem evc_lt (ha : EvC K X De ta G Dd s Mi (tD K eI)) (hb : ∀ s1, EvC K X De tb G Dd s1 (Mj s1) (tD K eI)) : EvC K X De (tOp rLtI ta tb) G Dd s (fun kk => Mi fun a s1 => Mj s1 fun b s2 => kk (decide (a < b)) s2) (tD K eB) := evc_cmpI ha hb
theorem evc_gt (ha : EvC K X De ta G Dd s Mi (tD K eI)) (hb : ∀ s1, EvC K X De tb G Dd s1 (Mj s1) (tD K eI)) : EvC K X De (tOp rGtI ta tb) G Dd s (fun kk => Mi fun a s1 => Mj s1 fun b s2 => kk (decide (b < a)) s2) (tD K eB) := evc_cmpI (f := fun i j => decide (j < i)) ha hb
theorem evc_ge (ha : EvC K X De ta G Dd s Mi (tD K eI)) (hb : ∀ s1, EvC K X De tb G Dd s1 (Mj s1) (tD K eI)) : EvC K X De (tOp rGeI ta tb) G Dd s (fun kk => Mi fun a s1 => Mj s1 fun b s2 => kk (decide (b ≤ a)) s2) (tD K eB) := evc_cmpI (f := fun i j => decide (j ≤ i)) ha hb
section
variable [DecidableEq α] {e : α → PyData} {n : Nat} {Ma : (α → S → Res ε δ) → Res ε δ} {Mb : S → (α → S → Res ε δ) → Res ε δ}
theorem evc_eq (he : Enc e n) (ha : EvC K X De ta G Dd s Ma (tD K e)) (hb : ∀ s1, EvC K X De tb G Dd s1 (Mb s1) (tD K e)) (hn : n ≤ 64 := by decide) : EvC K X De (tOp (qEq K) ta tb) G Dd s (fun kk => Ma fun a s1 => Mb s1 fun b s2 => kk (decide (a = b)) s2) (tD K eB) :=
  evc2 ha hb fun a b s2 x y H F hs rx ry Q q => by
    refine .inr ⟨e a, e b, dp_up hs rx, dp_up hs ry, he.shaped hn a, he.shaped hn b, ?_⟩
    rw [he.eq]
    exact q _ H F (Same.refl _) hs (.bl _)
theorem evc_ne (he : Enc e n) (ha : EvC K X De ta G Dd s Ma (tD K e)) (hb : ∀ s1, EvC K X De tb G Dd s1 (Mb s1) (tD K e)) (hn : n ≤ 64 := by decide) : EvC K X De (tOp (qNe K) ta tb) G Dd s (fun kk => Ma fun a s1 => Mb s1 fun b s2 => kk (!decide (a = b)) s2) (tD K eB) :=
  evc2 ha hb fun a b s2 x y H F hs rx ry Q q => by
    refine .inr ⟨e a, e b, dp_up hs rx, dp_up hs ry, he.shaped hn a, he.shaped hn b, ?_⟩
    rw [he.eq]
    exact q _ H F (Same.refl _) hs (.bl _)
end
section
variable {Ma : (Tx → S → Res ε δ) → Res ε δ} {Mb : S → (Tx → S → Res ε δ) → Res ε δ}
theorem evc_addS (ha : EvC K X De ta G Dd s Ma (tD K eS)) (hb : ∀ s1, EvC K X De tb G Dd s1 (Mb s1) (tD K eS)) : EvC K X De (tOp (qAddS K) ta tb) G Dd s (fun kk => Ma fun a s1 => Mb s1 fun b s2 => Res.bind (Res.grd (a.len + b.len ≤ 100000) (a ++ b)) fun z => kk z s2) (tD K eS) :=
  evc2g ha hb fun a b s2 x y H F c hs rx ry Q q => by
    rw [dp_str rx, dp_str ry]
    exact .inl (.inr (.inl ⟨a.s, b.s, rfl, rfl, Nat.le_trans c sizeLine_big, q _ H F (Same.refl _) hs (.str _)⟩))
theorem Tx.at_some {t c : Tx} {i : Int} (h : t.at i = some c) : t.s.length ≤ 100000 ∧ ∃ d, atI t.s.cps.toList i = some d ∧ c.s = ⟨#[d]⟩ := by
  unfold Tx.at at h
  split at h
  · rename_i hl
    split at h
    · rename_i d hd
      cases h
      exact ⟨hl, d, hd, rfl⟩
    · cases h
  · cases h
theorem evc_ixS (ha : EvC K X De ta G Dd s Ma (tD K eS)) (hb : ∀ s1, EvC K X De tb G Dd s1 (Mj s1) (tD K eI)) : EvC K X De (tOp (rIx K) ta tb) G Dd s (fun kk => Ma fun a s1 => Mj s1 fun b s2 => Res.bind (Res.opt (a.at b)) fun z => kk z s2) (tD K eS) :=
  evc2o ha hb fun a b c s2 x y H F e hs rx ry Q q => by
    rw [dp_str rx, dp_int ry]
    obtain ⟨h1, d, h2, h3⟩ := Tx.at_some e
    refine .inr (.inr ⟨a.s, b, d, rfl, rfl, Nat.le_trans h1 sizeLine_big, h2, q _ H F (Same.refl _) hs ?_⟩)
    show Dp K F _ (.str c.s)
    rw [h3]
    exact .str _
end
noncomputable def mkQ (a b : Int) : Option Rat := open Classical in if h : ∃ r : Rat, r.num = a ∧ (r.den : Int) = b then some h.choose else none
theorem mkQ_some {a b : Int} {r : Rat} (h : mkQ a b = some r) : r.num = a ∧ (r.den : Int) = b := by
  unfold mkQ at h
  split at h
  · rename_i q
    cases h
    exact q.choose_spec
  · cases h
theorem mkQ_of (r : Rat) : mkQ r.num r.den = some r := by
  unfold mkQ
  have h : ∃ q : Rat, q.num = r.num ∧ (q.den : Int) = r.den := ⟨r, rfl, rfl⟩
  rw [dif_pos h]
  have z := h.choose_spec
  exact congrArg some (Rat.ext z.1 (by have := z.2; omega))
def SView (K : PySem.W.Frag) (Dd : S → Own) (R : α → Ty) (f : α → List β) (Re : β → Ty) : Prop := ∀ x s v H F, HS (Dd s) H F → (R x).p v F → ∃ a vs, v = .ref a ∧ (SqL K H a vs ∨ SqT K H a vs) ∧ AllP F ((f x).map Re) vs
theorem sv_LT {Re : α → Ty} : SView K Dd (LT K Re) id Re := fun x s v H F hs ⟨a, vs, e, h1, h2⟩ => ⟨a, vs, e, .inl (sqL_up hs h1), h2⟩
theorem sv_O {Re : β → Ty} {xs : List β} {a : Addr} {k : Nat} (hk : ∀ s, (Dd s)[k]? = some (a, OLT Re xs)) : SView K Dd (fun _ : Unit => Is (.ref a)) (fun _ => xs) Re := fun x s v H F hs r => by
  obtain ⟨o, ho, vs, rfl, h⟩ := hs.at (hk s)
  exact ⟨a, vs, r, .inl (SqL.of ho), h⟩
section
variable {Ma : (α → S → Res ε δ) → Res ε δ} {Mb : S → (α → S → Res ε δ) → Res ε δ} {R : α → Ty} {f : α → List β} {Re : β → Ty}
theorem atI_allP {F : Hp} {Re : β → Ty} {xs : List β} {vs : List V} (h : AllP F (xs.map Re) vs) {i : Int} {x : β} (e : atI xs i = some x) : ∃ v, atI vs i = some v ∧ (Re x).p v F := by
  refine atI_all h ?_
  unfold atI at e ⊢
  rw [List.length_map]
  cases q : ixN xs.length i with
  | none => rw [q] at e; cases e
  | some j =>
    rw [q] at e
    rw [Option.bind_some] at e ⊢
    rw [List.getElem?_map, e]
    rfl
theorem evc_ix (hv : SView K Dd R f Re) (ha : EvC K X De ta G Dd s Ma R) (hb : ∀ s1, EvC K X De tb G Dd s1 (Mj s1) (tD K eI)) : EvC K X De (tOp (rIx K) ta tb) G Dd s (fun kk => Ma fun a s1 => Mj s1 fun b s2 => Res.bind (Res.opt (atI (f a) b)) fun z => kk z s2) Re :=
  evc2o ha hb fun a b c s2 x y H F e hs rx ry Q q => by
    obtain ⟨p, vs, rfl, h1, h2⟩ := hv a s2 x H F hs rx
    rw [dp_int ry]
    obtain ⟨v, e1, e2⟩ := atI_allP h2 e
    rcases h1 with h1 | h1
    · exact .inl ⟨p, vs, b, v, rfl, rfl, h1, e1, q _ H F (Same.refl _) hs e2⟩
    · exact .inr (.inl ⟨p, vs, b, v, rfl, rfl, h1, e1, q _ H F (Same.refl _) hs e2⟩)
theorem evc_len (hv : SView K Dd R f Re) (ha : EvC K X De ta G Dd s Ma R) : EvC K X De (tCB (cLen K) (tCons ta tNil)) G Dd s (fun kk => Ma fun a s1 => kk ((f a).length : Int) s1) (tD K eI) := by
  have h1 := evac_cons (β := δ) ha fun _ => evac_nil
  refine evc_CB h1 (g := fun a => ((f a.1).length : Int)) fun a s2 vs H F hs r Q q => ?_
  · obtain ⟨v, rfl, h1⟩ := allP1 r
    obtain ⟨p, xs, rfl, h2, h3⟩ := hv a.1 s2 v H F hs h1
    have l := h3.len
    rw [List.length_map] at l
    rcases h2 with h2 | h2
    · exact ⟨_, (f a.1).length, rfl, .inl ⟨xs, h2, l.symm⟩, q _ H F (Same.refl _) hs (.int _)⟩
    · exact ⟨_, (f a.1).length, rfl, .inr ⟨xs, h2, l.symm⟩, q _ H F (Same.refl _) hs (.int _)⟩
end
theorem evc_abs (ha : EvC K X De ta G Dd s Mi (tD K eI)) : EvC K X De (tCB cAbs (tCons ta tNil)) G Dd s (fun kk => Mi fun a s1 => kk (if a < 0 then -a else a) s1) (tD K eI) := by
  have h1 := evac_cons (β := δ) ha fun _ => evac_nil
  refine evc_CB h1 (g := fun a => if a.1 < 0 then -a.1 else a.1) fun a s2 vs H F hs r Q q => ?_
  · obtain ⟨v, rfl, h1⟩ := allP1 r
    rw [dp_int h1]
    exact ⟨a.1, rfl, q _ H F (Same.refl _) hs (.int _)⟩
theorem evc_max2 (ha : EvC K X De ta G Dd s Mi (tD K eI)) (hb : ∀ s1, EvC K X De tb G Dd s1 (Mj s1) (tD K eI)) : EvC K X De (tCB cMax2 (tCons ta (tCons tb tNil))) G Dd s (fun kk => Mi fun a s1 => Mj s1 fun b s2 => kk (if b > a then b else a) s2) (tD K eI) := by
  have h1 := evac_cons (β := δ) ha fun s1 => evac_cons (hb s1) fun _ => evac_nil
  refine evc_CB h1 (g := fun a => if a.2.1 > a.1 then a.2.1 else a.1) fun a s2 vs H F hs r Q q => ?_
  · obtain ⟨v, u, rfl, h1, h2⟩ := allP2 r
    rw [dp_int h1, dp_int h2]
    exact ⟨a.1, a.2.1, rfl, q _ H F (Same.refl _) hs (.int _)⟩
theorem evc_min2 (ha : EvC K X De ta G Dd s Mi (tD K eI)) (hb : ∀ s1, EvC K X De tb G Dd s1 (Mj s1) (tD K eI)) : EvC K X De (tCB cMin2 (tCons ta (tCons tb tNil))) G Dd s (fun kk => Mi fun a s1 => Mj s1 fun b s2 => kk (if b < a then b else a) s2) (tD K eI) := by
  have h1 := evac_cons (β := δ) ha fun s1 => evac_cons (hb s1) fun _ => evac_nil
  refine evc_CB h1 (g := fun a => if a.2.1 < a.1 then a.2.1 else a.1) fun a s2 vs H F hs r Q q => ?_
  · obtain ⟨v, u, rfl, h1, h2⟩ := allP2 r
    rw [dp_int h1, dp_int h2]
    exact ⟨a.1, a.2.1, rfl, q _ H F (Same.refl _) hs (.int _)⟩
theorem evc_intB {Ma : (Bool → S → Res ε δ) → Res ε δ} (ha : EvC K X De ta G Dd s Ma (tD K eB)) : EvC K X De (tCB cInt1 (tCons ta tNil)) G Dd s (fun kk => Ma fun a s1 => kk (if a = true then 1 else 0) s1) (tD K eI) := by
  have h1 := evac_cons (β := δ) ha fun _ => evac_nil
  refine evc_CB h1 (g := fun a => if a.1 = true then (1 : Int) else 0) fun a s2 vs H F hs r Q q => ?_
  · obtain ⟨v, rfl, h1⟩ := allP1 r
    rw [dp_bl h1]
    exact .inr ⟨a.1, rfl, q _ H F (Same.refl _) hs (.int _)⟩
end
end TL
end
section
set_option Elab.async false
set_option linter.all false
set_option maxRecDepth 100000
set_option maxHeartbeats 1000000
namespace TL
open PySem PySem.Spec L2
def spP (K : PySem.W.Frag) {τ ρ : Type} (args : τ → List Ty) (mf : τ → Res Unit ρ) (out : ρ → Out) : Sp := fun vs H Q X => ∃ (x : τ) (F : Hp) (D : Own), HS D H F ∧ AllP F (args x) vs ∧ (dwish K X Q out (fun _ => D) (fun _ : Unit => D)).W F (mf x)
def spC (K : PySem.W.Frag) {τ ρ ω : Type} (O : ω → OTy) (args : Addr → τ → List Ty) (mf : τ → ω → Res ω (ρ × ω)) (out : ρ → Out) : Sp := fun vs H Q X => ∃ (x : τ) (y : ω) (F : Hp) (Dp : ω → Own) (k : Nat) (a : Addr), Bor1 Dp k a O ∧ HS (Dp y) H F ∧ AllP F (args a x) vs ∧
  (dwish K X Q (fun r : ρ × ω => out r.1) (fun r => Dp r.2) Dp).W F (mf x y)
section
variable {K : PySem.W.Frag} {ε ε' ρ α β γ δ S τ τ' σt ω : Type} {Xk : XK} {De : ε → Own} {G G1 G2 : Sto} {D0 : Own} {Dd : S → Own} {s : S} {te ta tb tc : TE} {tt tu : TT} {F0 F1 : Hp} {E : Ends} {w : Wish K ε ρ} {t : TA} {n : Nat} {dvs : List V} {args : τ → List Ty} {Rs : τ' → List Ty}
theorem evc_callP {mf : τ → Res Unit γ} {R : γ → Ty} {M : (τ → S → Res Unit δ) → Res Unit δ} {De : Unit → Own} {sp : Sp} (hsp : ∀ vs H Q X, spP K args mf (fun r => .ok (R r)) vs H Q X → sp vs H Q X) (h : EvAC K (fun _ => Xk) De t G Dd s M args) (hde : ∀ s, (De ()).Sublist (Dd s)) :
    EvC K (fun _ => Xk) De (tCall sp [] Xk t) G Dd s (fun kk => M fun x s1 => Res.bind (mf x) fun z => kk z s1) R := fun kk σ H F hs ss o r Q hm q qe =>
  h _ σ H F hs ss o r _ hm (fun x s1 vs H1 F1 t1 hs1 r1 hm1 => hsp _ _ _ _ ⟨x, F1, Dd s1, hs1, by rw [List.append_nil]; exact r1, by
    rw [Res.sat_bind] at hm1
    exact Res.sat_mono hm1 (fun z hz v H2 F2 t2 hs2 r2 => q z s1 v H2 F2 (t1.trans t2) hs2 r2 hz) (fun n e he H2 F2 t2 hs2 => qe n e he H2 F2 (t1.trans t2) (hs2.drop (hde s1)))⟩) qe
theorem evc_callPE {mf : τ → Res Unit γ} {R : γ → Ty} {M : (τ → S → Res ε δ) → Res ε δ} {sp : Sp} (hsp : ∀ vs H Q X, spP K args mf (fun r => .ok (R r)) vs H Q X → sp vs H Q X) (g : S → ε) (h : EvAC K (fun _ => Xk) De t G Dd s M args) (hde : ∀ s, (De (g s)).Sublist (Dd s)) :
    EvC K (fun _ => Xk) De (tCall sp [] Xk t) G Dd s (fun kk => M fun x s1 => Res.bind (Res.mapE (fun _ => g s1) (mf x)) fun z => kk z s1) R := fun kk σ H F hs ss o r Q hm q qe =>
  h _ σ H F hs ss o r _ hm (fun x s1 vs H1 F1 t1 hs1 r1 hm1 => hsp _ _ _ _ ⟨x, F1, Dd s1, hs1, by rw [List.append_nil]; exact r1, by
    cases e : mf x with
    | ok z =>
      rw [e] at hm1
      exact fun v H2 F2 t2 hs2 r2 => q z s1 v H2 F2 (t1.trans t2) hs2 r2 hm1
    | err n u =>
      rw [e] at hm1
      exact fun H2 F2 t2 hs2 => qe n _ hm1 H2 F2 (t1.trans t2) (hs2.drop (hde s1))
    | stuck =>
      rw [e] at hm1
      exact hm1⟩) qe
theorem evnc_callP {mf : τ → Res Unit γ} {O : γ → OTy} {M : (τ → S → Res Unit δ) → Res Unit δ} {De : Unit → Own} {sp : Sp} (hsp : ∀ vs H Q X, spP K args mf (fun r => .new (O r)) vs H Q X → sp vs H Q X) (h : EvAC K (fun _ => Xk) De t G Dd s M args) (hde : ∀ s, (De ()).Sublist (Dd s)) :
    EvNC K (fun _ => Xk) De (tCall sp [] Xk t) G Dd s (fun kk => M fun x s1 => Res.bind (mf x) fun z => kk z s1) O := fun kk σ H F hs ss o r Q hm q qe =>
  h _ σ H F hs ss o r _ hm (fun x s1 vs H1 F1 t1 hs1 r1 hm1 => hsp _ _ _ _ ⟨x, F1, Dd s1, hs1, by rw [List.append_nil]; exact r1, by
    rw [Res.sat_bind] at hm1
    exact Res.sat_mono hm1 (fun z hz p H2 F2 t2 hs2 => q z s1 p H2 F2 (t1.trans t2) hs2 hz) (fun n e he H2 F2 t2 hs2 => qe n e he H2 F2 (t1.trans t2) (hs2.drop (hde s1)))⟩) qe
theorem evc_callC {O : ω → OTy} {k : Nat} {a : Addr} {args : Addr → τ → List Ty} {mf : τ → ω → Res ω (γ × ω)} {R : γ → Ty} {Dd : ω → Own} {s : ω} {M : (τ → ω → Res ε δ) → Res ε δ} {sp : Sp} (hsp : ∀ vs H Q X, spC K O args mf (fun r => .ok (R r)) vs H Q X → sp vs H Q X) (g : ω → ε) (B : Bor1 Dd k a O) (h : EvAC K (fun _ => Xk) De t G Dd s M (args a)) (hde : ∀ s, (De (g s)).Sublist (Dd s)) :
    EvC K (fun _ => Xk) De (tCall sp [] Xk t) G Dd s (fun kk => M fun x s1 => Res.bind (Res.mapE g (mf x s1)) fun z => kk z.1 z.2) R := fun kk σ H F hs ss o r Q hm q qe =>
  h _ σ H F hs ss o r _ hm (fun x s1 vs H1 F1 t1 hs1 r1 hm1 => hsp _ _ _ _ ⟨x, s1, F1, Dd, k, a, B, hs1, by rw [List.append_nil]; exact r1, by
    cases e : mf x s1 with
    | ok z =>
      rw [e] at hm1
      exact fun v H2 F2 t2 hs2 r2 => q z.1 z.2 v H2 F2 (t1.trans t2) hs2 r2 hm1
    | err n u =>
      rw [e] at hm1
      exact fun H2 F2 t2 hs2 => qe n _ hm1 H2 F2 (t1.trans t2) (hs2.drop (hde u))
    | stuck =>
      rw [e] at hm1
      exact hm1⟩) qe
theorem evc_callC0 {O : ω → OTy} {k : Nat} {a : Addr} {args : Addr → τ → List Ty} {mf : τ → ω → Res ω (γ × ω)} {R : γ → Ty} {Dd De : ω → Own} {s : ω} {M : (τ → ω → Res ω δ) → Res ω δ} {sp : Sp} (hsp : ∀ vs H Q X, spC K O args mf (fun r => .ok (R r)) vs H Q X → sp vs H Q X) (B : Bor1 Dd k a O) (h : EvAC K (fun _ => Xk) De t G Dd s M (args a)) (hde : ∀ s, (De s).Sublist (Dd s)) :
    EvC K (fun _ => Xk) De (tCall sp [] Xk t) G Dd s (fun kk => M fun x s1 => Res.bind (mf x s1) fun z => kk z.1 z.2) R := fun kk σ H F hs ss o r Q hm q qe =>
  h _ σ H F hs ss o r _ hm (fun x s1 vs H1 F1 t1 hs1 r1 hm1 => hsp _ _ _ _ ⟨x, s1, F1, Dd, k, a, B, hs1, by rw [List.append_nil]; exact r1, by
    rw [Res.sat_bind] at hm1
    exact Res.sat_mono hm1 (fun z hz v H2 F2 t2 hs2 r2 => q z.1 z.2 v H2 F2 (t1.trans t2) hs2 r2 hz) (fun n e he H2 F2 t2 hs2 => qe n e he H2 F2 (t1.trans t2) (hs2.drop (hde e)))⟩) qe
theorem evc_frzLT {R : α → Ty} {M : (List α → S → Res ε δ) → Res ε δ} {X : L2.St → XK} (h : EvNC K X De te G Dd s M (OLT R)) : EvC K X De te G Dd s M (LT K R) := fun kk σ H F hs ss o r Q hm q qe =>
  h kk σ H F hs ss o r Q hm (fun xs s1 p H1 F1 t1 hs1 hm1 => by
    obtain ⟨u, ⟨vs, rfl, hx⟩, hs2, t2⟩ := hs1.freeze (k := 0) rfl
    exact q xs s1 _ H1 _ (t1.trans t2) hs2 ⟨p, vs, rfl, SqL.of upd_same, hx.mono t2⟩ hm1) qe
theorem evnc_lst0 {R : α → Ty} {X : L2.St → XK} : EvNC (β := δ) K X De (tLst tNil) G Dd s (fun kk => kk [] s) (OLT R) := fun kk σ H F hs ss o r Q hm q qe =>
  ⟨Nat.zero_le _, fun p hp => q [] s p _ F (Same.refl _) (hs.new hp ⟨[], rfl, .nil⟩) hm⟩
def EvAL (K : PySem.W.Frag) {ε α β S : Type} (X : L2.St → XK) (De : ε → Own) (ta : TA) (G : Sto) (Dd : S → Own) (s : S) (n : Nat) (M : (List α → S → Res ε β) → Res ε β) (R : α → Ty) : Prop :=
  ∀ (kk : List α → S → Res ε β) (σ : L2.St) (H F : Hp), HS (Dd s) H F → SS F G σ → ∀ (o : β → Prop) (r : Str → ε → Prop) (Q : List V → Hp → Prop), (M kk).sat o r →
    (∀ x s' vs H' F', x.length = n → Same F F' → HS (Dd s') H' F' → AllP F' (x.map R) vs → (kk x s').sat o r → Q vs H') → (∀ n e, r n e → ∀ H' F', Same F F' → HS (De e) H' F' → X σ (.ref (He.ga K n)) none H') → ta σ H Q
theorem eval_nil {R : α → Ty} {X : L2.St → XK} : EvAL (β := δ) K X De tNil G Dd s 0 (fun kk => kk [] s) R := fun kk σ H F hs ss o r Q hm q _ => q [] s [] H F rfl (Same.refl _) hs .nil hm
theorem eval_cons {tr : TA} {R : α → Ty} {X : L2.St → XK} {n : Nat} {Ma : (α → S → Res ε β) → Res ε β} {Mr : S → (List α → S → Res ε β) → Res ε β}
    (h : EvC K X De te G Dd s Ma R) (hr : ∀ s1, EvAL K X De tr G Dd s1 n (Mr s1) R) : EvAL K X De (tCons te tr) G Dd s (n + 1) (fun kk => Ma fun a s1 => Mr s1 fun t s2 => kk (a :: t) s2) R := fun kk σ H F hs ss o r Q hm q qe =>
  h _ σ H F hs ss o r _ hm (fun a s1 v H1 F1 t1 hs1 r1 hm1 => hr s1 _ σ H1 F1 hs1 (ss.mono t1) o r _ hm1
    (fun t s2 vs H2 F2 l2 t2 hs2 r2 hm2 => q (a :: t) s2 _ H2 F2 (by rw [List.length_cons, l2]) (t1.trans t2) hs2 (.cons ((R a).mono t2 r1) r2) hm2) (fun n e h H2 F2 t2 => qe n e h H2 F2 (t1.trans t2))) (fun n e h H1 F1 t1 => qe n e h H1 F1 t1)
theorem evnc_lst {R : α → Ty} {X : L2.St → XK} {n : Nat} {M : (List α → S → Res ε β) → Res ε β} (h : EvAL K X De t G Dd s n M R) (hn : n ≤ 100000 := by decide) : EvNC K X De (tLst t) G Dd s M (OLT R) := fun kk σ H F hs ss o r Q hm q qe =>
  h _ σ H F hs ss o r _ hm (fun xs s1 vs H1 F1 l1 t1 hs1 r1 hm1 =>
    ⟨by rw [r1.len, List.length_map, l1]; exact Nat.le_trans hn sizeLine_big, fun p hp => q xs s1 p _ F1 t1 (hs1.new hp ⟨vs, rfl, r1⟩) hm1⟩) qe
def _root_.Res.lc {ε α β σ : Type} (body : α → σ → Res ε (Option β × σ)) : List α → σ → Res ε (List β × σ)
  | [], s => .ok ([], s)
  | x :: xs, s => Res.bind (body x s) fun t => Res.bind (Res.lc body xs t.2) fun u => .ok ((match t.1 with
    | some y => y :: u.1
    | none => u.1), u.2)
def lcAcc {β : Type} (acc : List β) (o : Option β) : List β := match o with
  | some y => acc ++ [y]
  | none => acc
theorem lc_split {body : α → S → Res Unit (Option β × S)} : ∀ (xs : List α) (s : S) (acc : List β) (o : List β × S → Prop), (Res.lc body xs s).sat (fun z => o (acc ++ z.1, z.2)) (fun _ _ => False) → ∀ x ys, xs = x :: ys →
    (body x s).sat (fun t => (Res.lc body ys t.2).sat (fun z => o (lcAcc acc t.1 ++ z.1, z.2)) (fun _ _ => False)) (fun _ _ => False) := fun xs s acc o h x ys e => by
  subst e
  unfold Res.lc at h
  rw [Res.sat_bind] at h
  refine Res.sat_mono h (fun t ht => ?_) (fun _ _ z => z)
  rw [Res.sat_bind] at ht
  refine Res.sat_mono ht (fun z hz => ?_) (fun _ _ z => z)
  unfold lcAcc
  cases e : t.1 with
  | some y =>
    have hz' : o (acc ++ (match t.1 with
      | some y => y :: z.1
      | none => z.1), z.2) := hz
    rw [e] at hz'
    rw [List.append_assoc]
    exact hz'
  | none =>
    have hz' : o (acc ++ (match t.1 with
      | some y => y :: z.1
      | none => z.1), z.2) := hz
    rw [e] at hz'
    exact hz'
theorem evnc_lc {wi : TI} {g : TG} {vs : List Nat} {cnd : Own → Prop} {R : α → Ty} {Re : β → Ty} {X : L2.St → XK} {M : (List α → S → Res ε δ) → Res ε δ} {G1 : α → Sto}
    {Mt : α → S → (Bool → S → Res Unit (Option β × S)) → Res Unit (Option β × S)} {Mb : α → S → (β → S → Res Unit (Option β × S)) → Res Unit (Option β × S)}
    (hi : EvItC K X De wi G Dd s cnd M R) (hg : ∀ x, EvW g vs (wipeG G vs) (R x) (G1 x)) (cm : ∀ s c, cnd (c :: Dd s))
    (ht : ∀ x s1 (c : Addr × OTy), EvTC K (fun _ => E0) (fun _ : Unit => []) tt (G1 x) (fun s => c :: Dd s) s1 (Mt x s1))
    (hb : ∀ x s1 (c : Addr × OTy), EvC K (fun _ => E0) (fun _ : Unit => []) te (G1 x) (fun s => c :: Dd s) s1 (Mb x s1) Re) :
    EvNC K X De (tLc wi g tt te vs) G Dd s (fun kk => M fun xs s1 => Res.bind (Res.grd (xs.length ≤ 100000) xs) fun xs => Res.bind (Res.calm (Res.lc (fun x s1 => Mt x s1 fun b s2 => if b = true then Mb x s2 fun y s3 => .ok (some y, s3) else .ok (none, s2)) xs s1)) fun z => kk z.1 z.2) (OLT Re) := fun kk σ H F hs ss o r Q hm q qe =>
  hi _ σ H F hs ss o r _ hm (fun xs s1 J H1 F1 t1 hs1 ok hm1 Dl hDl => by
    obtain ⟨hl, hm2⟩ := Res.sat_grd hm1
    generalize hbody : (fun x s1 => Mt x s1 fun b s2 => if b = true then Mb x s2 fun y s3 => Res.ok (some y, s3) else Res.ok (none, s2)) = body at hm2
    have hm3 : (Res.lc body xs s1).sat (fun z => (kk z.1 z.2).sat o r) (fun _ _ => False) := by
      cases e : Res.lc body xs s1 with
      | ok z => rw [e] at hm2; exact hm2
      | err n u => rw [e] at hm2; exact hm2
      | stuck => rw [e] at hm2; exact hm2
    refine ⟨fun i m H => m = xs.length - i ∧ i ≤ xs.length ∧ ∃ (x : S) (acc : List β) (F2 : Hp), acc.length ≤ i ∧ (Res.lc body (xs.drop i) x).sat (fun z => (kk (acc ++ z.1) z.2).sat o r) (fun _ _ => False) ∧ Same F1 F2 ∧ HS ((Dl, OLT Re acc) :: Dd x) H F2,
      ⟨xs.length, by simp, Nat.zero_le _, s1, [], F1, Nat.le_refl _, hm3, Same.refl _, hs1.new hDl ⟨[], rfl, .nil⟩⟩, ?_⟩
    rintro i m H2 ⟨rfl, hle, x, acc, F2, la, hx, t2, hs2⟩
    by_cases hlt : i < xs.length
    · obtain ⟨go, yl⟩ := (ok _ H2 F2 (cm x _) t2 hs2 i).1 (R xs[i]) (by rw [List.getElem?_map, List.getElem?_eq_getElem hlt]; rfl)
      have hx2 := lc_split (xs.drop i) x acc (fun z => (kk z.1 z.2).sat o r) hx _ _ (List.drop_eq_getElem_cons hlt)
      refine .inr ⟨go, fun H' => ∃ (x : S) (acc : List β) (F2 : Hp), acc.length ≤ i + 1 ∧ (Res.lc body (xs.drop (i + 1)) x).sat (fun z => (kk (acc ++ z.1) z.2).sat o r) (fun _ _ => False) ∧ Same F1 F2 ∧ HS ((Dl, OLT Re acc) :: Dd x) H' F2, fun H' p => ⟨xs.length - (i + 1), by omega, rfl, hlt, p⟩, fun v H3 hy => ?_⟩
      obtain ⟨F3, t3, hs3, r3⟩ := yl v H3 hy
      have ss3 : SS F3 (wipeG G vs) (L2.wipe σ vs) := ((ss.mono t1).mono (t2.trans t3)).wipe vs
      refine hg xs[i] v σ (L2.wipe σ vs) H3 F3 _ hs3 ss3 (wipe_wipe σ vs) r3 _ fun σ' ss' w' => ⟨w', ?_⟩
      rw [← hbody] at hx2
      refine ht xs[i] x (Dl, OLT Re acc) _ σ' H3 F3 hs3 ss' _ _ _ hx2 (fun b s2 H4 F4 t4 hs4 hm4 => ?_) (fun n e h => h.elim)
      cases b with
      | true =>
        refine hb xs[i] s2 (Dl, OLT Re acc) _ σ' H4 F4 hs4 (ss'.mono t4) _ _ _ hm4 (fun y s5 u H5 F5 t5 hs5 r5 hm5 => ?_) (fun n e h => h.elim)
        obtain ⟨o5, ho, ws, rfl, hxs⟩ := hs5.at (k := 0) rfl
        have l5 := hxs.len
        rw [List.length_map] at l5
        refine ⟨ws, ho, by rw [l5]; exact Nat.lt_of_lt_of_le (Nat.lt_of_le_of_lt la (Nat.lt_of_lt_of_le hlt hl)) sizeLine_big, s5, acc ++ [y], F5, by simp; omega, by rw [hbody] at hm5; exact hm5, ((t2.trans t3).trans t4).trans t5, ?_⟩
        exact hs5.put (k := 0) (O' := OLT Re (acc ++ [y])) rfl ⟨_, rfl, by rw [List.map_append]; exact hxs.append (.cons r5 .nil)⟩
      | false =>
        exact ⟨s2, acc, F4, by omega, by rw [hbody] at hm4; exact hm4, (t2.trans t3).trans t4, hs4⟩
    · have e : i = xs.length := by omega
      subst e
      rw [List.drop_length] at hx
      have hx' : (kk (acc ++ []) x).sat o r := hx
      rw [List.append_nil] at hx'
      exact .inl ⟨(ok _ H2 F2 (cm x _) t2 hs2 _).2 (by simp), q acc x Dl H2 F2 (t1.trans t2) hs2 hx'⟩) qe
theorem evnc_lc0 {wi : TI} {g : TG} {vs : List Nat} {cnd : Own → Prop} {R : α → Ty} {Re : β → Ty} {X : L2.St → XK} {M : (List α → S → Res ε δ) → Res ε δ} {G1 : α → Sto}
    {Mb : α → S → (β → S → Res Unit (Option β × S)) → Res Unit (Option β × S)}
    (hi : EvItC K X De wi G Dd s cnd M R) (hg : ∀ x, EvW g vs (wipeG G vs) (R x) (G1 x)) (cm : ∀ s c, cnd (c :: Dd s))
    (hb : ∀ x s1 (c : Addr × OTy), EvC K (fun _ => E0) (fun _ : Unit => []) te (G1 x) (fun s => c :: Dd s) s1 (Mb x s1) Re) :
    EvNC K X De (tLc wi g tYes te vs) G Dd s (fun kk => M fun xs s1 => Res.bind (Res.grd (xs.length ≤ 100000) xs) fun xs => Res.bind (Res.calm (Res.lc (fun x s1 => Mb x s1 fun y s3 => .ok (some y, s3)) xs s1)) fun z => kk z.1 z.2) (OLT Re) :=
  evnc_lc (Mt := fun x s1 kk => kk true s1) hi hg cm (fun x s1 c => evtc_of evT_yes) hb
theorem evItc_LT {R : α → Ty} {R0 : List α → Ty} {X : L2.St → XK} {M : (List α → S → Res ε δ) → Res ε δ} (h : EvC K X De te G Dd s M R0) (f : ∀ xs v F, (R0 xs).p v F → ∃ a vs, v = .ref a ∧ SqL K F a vs ∧ AllP F (xs.map R) vs) : EvItC K X De (iSeq K te) G Dd s (fun _ => True) M R := fun kk σ H F hs ss o r Q hm q qe =>
  .inl (h kk σ H F hs ss o r _ hm (fun xs s1 v H1 F1 t1 hs1 r1 hm1 => by
    obtain ⟨a, vs, rfl, h1, h2⟩ := f xs v F1 r1
    refine ⟨a, rfl, ⟨vs, sqL_up hs1 h1⟩, q xs s1 _ H1 F1 t1 hs1 (fun D H2 F2 _ s2 hs2 i => ⟨fun R' hR => ?_, fun hl => ?_⟩) hm1⟩
    · obtain ⟨v, e1, e2⟩ := h2.get hR
      have sq : SqL K H2 a vs := sqL_up hs2 (s2.seq h1)
      refine ⟨⟨vs, v, sq, e1⟩, fun x H' hy => ?_⟩
      obtain ⟨e3, e4⟩ := hy
      subst e3
      have e5 := e4 vs sq
      rw [e1] at e5
      cases e5
      exact ⟨F2, Same.refl _, hs2, R'.mono s2 e2⟩
    · exact ⟨vs, sqL_up hs2 (s2.seq h1), by rw [h2.len]; exact hl⟩) qe)
theorem evItc_VT {R : α → Ty} {R0 : List α → Ty} {X : L2.St → XK} {M : (List α → S → Res ε δ) → Res ε δ} (h : EvC K X De te G Dd s M R0) (f : ∀ xs v F, (R0 xs).p v F → ∃ a vs, v = .ref a ∧ SqT K F a vs ∧ AllP F (xs.map R) vs) : EvItC K X De (iSeq K te) G Dd s (fun _ => True) M R := fun kk σ H F hs ss o r Q hm q qe =>
  .inr (.inl (h kk σ H F hs ss o r _ hm (fun xs s1 v H1 F1 t1 hs1 r1 hm1 => by
    obtain ⟨a, vs, rfl, h1, h2⟩ := f xs v F1 r1
    refine ⟨a, rfl, ⟨vs, sqT_up hs1 h1⟩, q xs s1 _ H1 F1 t1 hs1 (fun D H2 F2 _ s2 hs2 i => ⟨fun R' hR => ?_, fun hl => ?_⟩) hm1⟩
    · obtain ⟨v, e1, e2⟩ := h2.get hR
      have sq : SqT K H2 a vs := sqT_up hs2 (same_sqT s2 h1)
      refine ⟨⟨vs, v, sq, e1⟩, fun x H' hy => ?_⟩
      obtain ⟨e3, e4⟩ := hy
      subst e3
      have e5 := e4 vs sq
      rw [e1] at e5
      cases e5
      exact ⟨F2, Same.refl _, hs2, R'.mono s2 e2⟩
    · exact ⟨vs, sqT_up hs2 (same_sqT s2 h1), by rw [h2.len]; exact hl⟩) qe))
def rangeL (lo : Int) (n : Nat) : List Int := (List.range n).map fun i : Nat => lo + (i : Int)
theorem itr_okT {lo : Int} {n : Nat} {F : Hp} : ItOkT (Itr lo n) (fun _ => True) ((rangeL lo n).map (tD K eI)) F := by
  have h := itOkT_of (K := K) (itr_ok (K := K) (lo := lo) (n := n) (F := F))
  have e : (rangeD lo n).map (TL.D K) = (rangeL lo n).map (tD K eI) := by
    unfold rangeD rangeL
    rw [List.map_map, List.map_map]
    rfl
  rw [e] at h
  exact h
theorem evItc_rng1 {X : L2.St → XK} {M : (Int → S → Res ε δ) → Res ε δ} (h : EvC K X De te G Dd s M (tD K eI)) :
    EvItC K X De (iRng1 (tCons te tNil)) G Dd s (fun _ => True) (fun kk => M fun n s1 => Res.bind (Res.grd (-(2 ^ 62) ≤ n ∧ n < 2 ^ 62) (rangeL 0 n.toNat)) fun xs => kk xs s1) (tD K eI) := fun kk σ H F hs ss o r Q hm q qe =>
  h _ σ H F hs ss o r _ hm (fun n s1 v H1 F1 t1 hs1 r1 hm1 => by
    obtain ⟨hn, hm2⟩ := Res.sat_grd hm1
    exact ⟨n, by rw [dp_int r1], hn.1, hn.2, q _ s1 _ H1 F1 t1 hs1 itr_okT hm2⟩) qe
theorem evItc_rng2 {X : L2.St → XK} {Ma : (Int → S → Res ε δ) → Res ε δ} {Mb : S → (Int → S → Res ε δ) → Res ε δ} (ha : EvC K X De ta G Dd s Ma (tD K eI)) (hb : ∀ s1, EvC K X De tb G Dd s1 (Mb s1) (tD K eI)) :
    EvItC K X De (iRng2 (tCons ta (tCons tb tNil))) G Dd s (fun _ => True) (fun kk => Ma fun lo s1 => Mb s1 fun n s2 => Res.bind (Res.grd (-(2 ^ 62) ≤ lo ∧ lo < 2 ^ 62 ∧ -(2 ^ 62) ≤ n ∧ n < 2 ^ 62) (rangeL lo (n - lo).toNat)) fun xs => kk xs s2) (tD K eI) := fun kk σ H F hs ss o r Q hm q qe =>
  ha _ σ H F hs ss o r _ hm (fun lo s1 v H1 F1 t1 hs1 r1 hm1 => hb s1 _ σ H1 F1 hs1 (ss.mono t1) o r _ hm1 (fun n s2 u H2 F2 t2 hs2 r2 hm2 => by
    obtain ⟨hn, hm3⟩ := Res.sat_grd hm2
    exact ⟨lo, n, by rw [dp_int r1, dp_int r2], hn, q _ s2 _ H2 F2 (t1.trans t2) hs2 itr_okT hm3⟩) (fun n e h H2 F2 t2 => qe n e h H2 F2 (t1.trans t2))) qe
theorem go_appC {R : α → Ty} {xs : List α} {k : Nat} {a : Addr} {M : (α → S → Res ε ρ) → Res ε ρ} {kk : List α × S → Res ε ρ} (ho : G[n]? = some (some (Is (.ref a)))) (h : EvC K w.X w.De te G Dd s M R) (hk : ∀ s, (Dd s)[k]? = some (a, OLT R xs))
    {m : Res ε ρ} (hP : w.W F0 m) (q : ∀ x, w.W F0 (kk x) → Go E.nx F0 G ((Dd x.2).set k (a, OLT R x.1))) (c : w.cond G := by first | exact trivial | walk_at "cond") (hm : m = (M fun v s' => Res.bind (Res.grd (xs.length < 100000) (xs ++ [v], s')) kk) := by exact rfl) : Go (tDrop (tBM K "list" rAppend (tVar n) (tCons te tNil)) E) F0 G (Dd s) := by subst hm; exact (fun σ H F t hs ss => by
  obtain ⟨v0, e0, r0⟩ := ss.get ho
  have r0' : v0 = .ref a := r0
  subst r0'
  obtain ⟨o1, ho1, xs1, rfl, h21⟩ := hs.at (hk s)
  refine ⟨_, e0, .inl ⟨rfl, xs1, SqL.of ho1⟩, h _ σ H F hs ss _ _ _ hP (fun x s' v H1 F1 t1 hs1 r1 hm => ?_) (fun n e hr H1 F1 t1 hs1 => w.err hr c σ H1 F1 (t.trans t1) hs1 (ss.mono t1))⟩
  obtain ⟨hl, hm2⟩ := Res.sat_grd hm
  obtain ⟨o, ho, vs, rfl, h2⟩ := hs1.at (hk s')
  have l2 := h2.len
  rw [List.length_map] at l2
  refine ⟨a, vs, v, rfl, rfl, ho, by rw [l2]; exact Nat.lt_of_lt_of_le hl sizeLine_big, ?_⟩
  exact q (xs ++ [x], s') hm2 σ _ F1 (t.trans t1) (hs1.put (hk s') ⟨_, rfl, by rw [List.map_append]; exact h2.append (.cons r1 .nil)⟩) (ss.mono t1))
theorem allP_set {F : Hp} {R : α → Ty} {v : V} {x : α} (hv : (R x).p v F) : ∀ {xs : List α} {vs : List V}, AllP F (xs.map R) vs → ∀ i, AllP F ((xs.set i x).map R) (vs.set i v)
  | [], _, h, i => by cases h; exact .nil
  | y :: xs, _, h, i => by
    cases h with
    | cons h1 h2 =>
      cases i with
      | zero => exact .cons hv h2
      | succ i => exact .cons h1 (allP_set hv h2 i)
theorem go_setO1 {R : α → Ty} {xs : List α} {k : Nat} {a : Addr} {Ma : (α → S → Res ε ρ) → Res ε ρ} {Mi : S → (Int → S → Res ε ρ) → Res ε ρ} {kk : List α × S → Res ε ρ} (ho : G[n]? = some (some (Is (.ref a)))) (h : EvC K w.X w.De te G Dd s Ma R) (hi : ∀ s1, EvC K w.X w.De tb G Dd s1 (Mi s1) (tD K eI)) (hk : ∀ s, (Dd s)[k]? = some (a, OLT R xs))
    {m : Res ε ρ} (hP : w.W F0 m) (q : ∀ x, w.W F0 (kk x) → Go E.nx F0 G ((Dd x.2).set k (a, OLT R x.1))) (c : w.cond G := by first | exact trivial | walk_at "cond") (hm : m = (Ma fun v s1 => Mi s1 fun i s2 => Res.bind (Res.opt (ixN xs.length i)) fun j => Res.bind (.ok (xs.set j v, s2)) kk) := by exact rfl) : Go (tAsg te (gSub (tVar n) tb rSetL) E) F0 G (Dd s) := by subst hm; exact (fun σ H F t hs ss =>
  h _ σ H F hs ss _ _ _ hP (fun x s1 v H1 F1 t1 hs1 r1 hm => by
    obtain ⟨v0, e0, r0⟩ := ss.get ho
    have r0' : v0 = .ref a := r0
    subst r0'
    refine ⟨_, e0, hi s1 _ σ H1 F1 hs1 (ss.mono t1) _ _ _ hm (fun i s2 u H2 F2 t2 hs2 r2 hm2 => ?_) (fun n e hr H2 F2 t2 hs2 => w.err hr c σ H2 F2 ((t.trans t1).trans t2) hs2 ((ss.mono t1).mono t2))⟩
    obtain ⟨j, ej, hm3⟩ := Res.sat_opt hm2
    obtain ⟨o, ho, vs, rfl, h2⟩ := hs2.at (hk s2)
    have l2 := h2.len
    rw [List.length_map] at l2
    refine ⟨a, vs, i, j, rfl, dp_int r2, ho, by rw [l2]; exact ej, ?_⟩
    exact q (xs.set j x, s2) hm3 σ _ F2 ((t.trans t1).trans t2) (hs2.put (hk s2) ⟨_, rfl, allP_set ((R x).mono t2 r1) h2 j⟩) ((ss.mono t1).mono t2)) (fun n e hr H1 F1 t1 hs1 => w.err hr c σ H1 F1 (t.trans t1) hs1 (ss.mono t1)))
theorem pure_ofLaw {N : List Str} {tf : TS} {mf : List Int → Res Unit Bool} (htrue : ∀ ns : List Int, ns.length ≤ 63 → mf ns = .ok true) {vs : List V} {H : Hp} {Q : VK} {X : XK}
    (walk : ∀ (x : List Int) (F : Hp) (D : Own) (E : Ends), E.rt = Q → (∀ (K : PySem.W.Frag) G D1, GoV Q F (DN K) D1 → Go E.nx F G D1) → (dwish K X Q (fun r : Bool => .ok (tD K eB r)) (fun _ => D) (fun _ : Unit => D)).W F (mf x) → Go (tf E) F (some (tD K (eL eI) x) :: List.replicate (N.length - 1) none) D)
    (h : lawSp K vs H Q X) : tf { nx := fun _ H' => Q .non H', rt := Q } (L2.start N vs) H := by
  obtain ⟨x, F, D, hs, ha, hl, hp⟩ := h
  have z := SS.start (N := N) ha
  rw [ha.len] at z
  refine walk x F D { nx := fun _ H' => Q .non H', rt := Q } rfl (fun K G D1 k σ H F1 s hs ss => k _ H F1 s hs .non) ?_ _ H F (Same.refl _) hs z
  rw [htrue x hl]
  exact hp
theorem spP_len {args : τ → List Ty} {mf : τ → Res Unit γ} {out : γ → Out} {n : Nat} (e : ∀ x, (args x).length = n) : ∀ vs H Q E, spP K args mf out vs H Q E → vs.length = n := fun vs H Q E ⟨x, F, D, _, ha, _⟩ => by rw [ha.len, e]
theorem spC_len {O : ω → OTy} {args : Addr → τ → List Ty} {mf : τ → ω → Res ω (γ × ω)} {out : γ → Out} {n : Nat} (e : ∀ a x, (args a x).length = n) : ∀ vs H Q E, spC K O args mf out vs H Q E → vs.length = n := fun vs H Q E ⟨x, y, F, D, k, a, _, _, ha, _⟩ => by rw [ha.len, e]
end
end TL
end
section
set_option Elab.async false
set_option linter.all false
set_option maxRecDepth 100000
set_option maxHeartbeats 1000000
namespace TL
open PySem PySem.Spec L2
def tFrz (t : TS) : TS := fun D σ H => ∃ d u, H d = some u ∧ Mut (some u) ∧ ∀ od, t D σ (upd H d (.frz od u))
theorem ps_frz {X : Cx} {st : Stmt} {t : TS} (h : PS X st t) : PS X st (tFrz t) := by
  refine ⟨fun pins s σ H D I hw => ?_⟩
  obtain ⟨d, u, hd, mu, hw⟩ := hw
  obtain ⟨od, I1⟩ := I.lock hd mu
  exact h.run pins s σ _ D I1 (hw od)
def dget {κ α : Type} [DecidableEq κ] (m : List (κ × α)) (k : κ) : Option α := (m.find? fun e => decide (e.1 = k)).map (·.2)
def dput {κ α : Type} [DecidableEq κ] (m : List (κ × α)) (k : κ) (d : α) : List (κ × α) :=
  if (m.any fun e => decide (e.1 = k)) = true then m.map (fun e => if e.1 = k then (e.1, d) else e) else m ++ [(k, d)]
section
variable {K : PySem.W.Frag} {ε ε' ρ α β γ δ S τ τ' σt ω : Type} {X : L2.St → XK} {De : ε → Own} {G G1 G2 : Sto} {D0 : Own} {Dd : S → Own} {s : S} {te ta tb tc tx : TE} {tt tu : TT} {F0 F1 : Hp} {E : Ends} {w : Wish K ε ρ} {t : TA} {n : Nat}
section
variable {R : α → Ty} {f : α → List (Tx × β)} {e : β → PyData} {Ma : (α → S → Res ε δ) → Res ε δ} {Mb : S → (Tx → S → Res ε δ) → Res ε δ}
end
theorem set_get {σ : L2.St} {i : Nat} {v : V} (e : σ[i]? = some (some v)) : σ.set i (some v) = σ := by
  refine List.ext_getElem? fun j => ?_
  by_cases q : j = i
  · subst q
    have lt : j < σ.length := (List.getElem?_eq_some_iff.mp e).1
    rw [List.getElem?_set_self lt, e]
  · rw [List.getElem?_set_ne (Ne.symm q)]
theorem erase_perm {α : Type} : ∀ {l : List α} {k : Nat} {x : α}, l[k]? = some x → (x :: l.eraseIdx k).Perm l
  | [], k, x, h => by simp at h
  | y :: l, 0, x, h => by
    simp at h
    subst h
    exact List.Perm.refl _
  | y :: l, k + 1, x, h => by
    have ih := erase_perm (l := l) (k := k) (x := x) (by simpa using h)
    rw [List.eraseIdx_cons_succ]
    exact (List.Perm.swap y x _).trans (ih.cons y)
theorem hs_front {D : Own} {H F : Hp} (hs : HS D H F) {k : Nat} {a : Addr} {O : OTy} (hk : D[k]? = some (a, O)) : HS ((a, O) :: D.eraseIdx k) H F := hs.perm (erase_perm hk).symm
theorem go_retOC {k i : Nat} {a : Addr} {O : α → OTy} (x : α) (rr : ρ) (hk : D0[k]? = some (a, O x)) (hi : G[i]? = some (some (Is (.ref a)))) (hP : w.W F0 (.ok rr)) (hr : ∀ F, w.o F rr → GoN E.rt F (O x) (D0.eraseIdx k)) : Go (tRet (tVar i) E) F0 G D0 := fun σ H F t hs ss => by
  obtain ⟨v, e1, e2⟩ := ss.get hi
  have ev : v = .ref a := e2
  subst ev
  exact ⟨_, e1, hr F0 hP a H F t (hs_front hs hk)⟩
end
end TL
end
section
set_option Elab.async false
set_option linter.all false
set_option maxRecDepth 100000
set_option maxHeartbeats 1000000
def Res.fuel : Nat := 2 ^ 20000
theorem Res.fuel_big {n : Nat} (h : n < 2 ^ 20000) : n < Res.fuel := h
namespace TL
open PySem PySem.Spec L2
def leT (a b : Tx) : Bool := !ltCps b.s.cps.toList a.s.cps.toList
def sortT (xs : List Tx) : List Tx := xs.mergeSort leT
def cutL {α : Type} (xs : List α) (lo hi : Option Int) : List α := (xs.drop (HT.sIx xs.length 0 lo)).take (HT.sIx xs.length xs.length hi - HT.sIx xs.length 0 lo)
theorem allP_drop {F : Hp} {α : Type} {R : α → Ty} : ∀ {xs : List α} {vs : List V}, AllP F (xs.map R) vs → ∀ n, AllP F ((xs.drop n).map R) (vs.drop n)
  | _, _, h, 0 => h
  | [], _, h, n + 1 => by cases h; exact .nil
  | x :: xs, _, h, n + 1 => by
    cases h with
    | cons h1 h2 => exact allP_drop h2 n
theorem allP_take {F : Hp} {α : Type} {R : α → Ty} : ∀ {xs : List α} {vs : List V}, AllP F (xs.map R) vs → ∀ n, AllP F ((xs.take n).map R) (vs.take n)
  | _, _, h, 0 => .nil
  | [], _, h, n + 1 => by cases h; exact .nil
  | x :: xs, _, h, n + 1 => by
    cases h with
    | cons h1 h2 => exact .cons h1 (allP_take h2 n)
theorem allP_cut {F : Hp} {α : Type} {R : α → Ty} {xs : List α} {vs : List V} (h : AllP F (xs.map R) vs) (lo hi : Option Int) : AllP F ((cutL xs lo hi).map R) (cutV vs lo hi) := by
  have l := h.len
  rw [List.length_map] at l
  unfold cutV cutL
  rw [l]
  exact allP_take (allP_drop h _) _
theorem join_cons (a x y : Str) (xs : List Str) : Txt.join a (x :: y :: xs) = (x ++ a) ++ Txt.join a (y :: xs) := by
  rw [TL.join_eq, TL.join_eq]
  rfl
theorem join_ok (a : Tx) : ∀ xs : List Tx, ∀ c ∈ (Txt.join a.s (xs.map (·.s))).cps.toList, c < 0x110000
  | [], c, hc => by
    rw [List.map_nil, TL.join_eq] at hc
    cases hc
  | [x], c, hc => by
    rw [List.map_cons, List.map_nil, TL.join_eq] at hc
    exact x.all c hc
  | x :: y :: xs, c, hc => by
    have h' := hc
    rw [List.map_cons, List.map_cons, join_cons, app_cps, app_cps, List.append_assoc] at h'
    rcases List.mem_append.mp h' with h1 | h1
    · exact x.all c h1
    · rcases List.mem_append.mp h1 with h2 | h2
      · exact a.all c h2
      · exact join_ok a (y :: xs) c h2
def Tx.join (a : Tx) (xs : List Tx) : Tx := ⟨Txt.join a.s (xs.map (·.s)), canLay_of (join_ok a xs)⟩
def joinC (a : Tx) (xs : List Tx) : Prop := (xs.map Tx.len).sum + xs.length * a.len ≤ 16777216
section
variable {K : PySem.W.Frag} {ε ε' ρ α β γ δ S τ τ' σt ω : Type} {X : L2.St → XK} {De : ε → Own} {G G1 G2 : Sto} {D0 : Own} {Dd : S → Own} {s : S} {te ta tb tc tx : TE} {tt tu : TT} {F0 F1 : Hp} {E : Ends} {w : Wish K ε ρ} {t : TA} {n : Nat} {tl th : TO}
theorem evc_strC {x : Str} (c : Tx) (e : c.s = x) : EvC (β := β) K X De (tC (.str x)) G Dd s (fun kk => kk c s) (tD K eS) := evc_of ev_str (by rw [← e])
instance (i j : Int) : Decidable (CPow i j) := inferInstanceAs (Decidable (_ ∧ _ ∧ _))
theorem evc_powC {a b c : Int} (h : CPow a b) (e : a ^ b.toNat = c) : EvC (β := β) K X De (tOp rPowI (tC (.int a)) (tC (.int b))) G Dd s (fun kk => kk c s) (tD K eI) := evc_of (ev_pow ev_int ev_int h) (by rw [e])
theorem allP_strs {F : Hp} {xs : List Tx} {vs : List V} (h : AllP F (xs.map (tD K eS)) vs) : vs = (xs.map (·.s)).map V.str := by
  have h2 := allP_map h
  have e : xs.map eS = (xs.map (·.s)).map PyData.str := by rw [List.map_map]; rfl
  rw [e] at h2
  exact strs_of h2
section
variable {R : α → Ty} {f : α → List Tx} {Ma : (Tx → S → Res ε δ) → Res ε δ} {Mb : S → (α → S → Res ε δ) → Res ε δ}
end
def EvOC (K : PySem.W.Frag) {ε β S : Type} (X : L2.St → XK) (De : ε → Own) (to : TO) (G : Sto) (Dd : S → Own) (s : S) (M : (Option Int → S → Res ε β) → Res ε β) : Prop :=
  ∀ (kk : Option Int → S → Res ε β) (σ : L2.St) (H F : Hp), HS (Dd s) H F → SS F G σ → ∀ (o : β → Prop) (r : Str → ε → Prop) (Q : Option Int → Hp → Prop), (M kk).sat o r →
    (∀ x s' H' F', Same F F' → HS (Dd s') H' F' → (kk x s').sat o r → Q x H') → (∀ n e, r n e → ∀ H' F', Same F F' → HS (De e) H' F' → X σ (.ref (He.ga K n)) none H') → to σ H Q
theorem evo_none : EvOC (β := β) K X De tNoPart G Dd s (fun kk => kk none s) := fun kk σ H F hs ss o r Q hm q _ => q none s H F (Same.refl _) hs hm
theorem evo_some {M : (Int → S → Res ε β) → Res ε β} (h : EvC K X De te G Dd s M (tD K eI)) : EvOC K X De (tPart te) G Dd s (fun kk => M fun i s1 => kk (some i) s1) := fun kk σ H F hs ss o r Q hm q qe =>
  h _ σ H F hs ss o r _ hm (fun i s1 v H1 F1 t1 hs1 r1 hm1 => ⟨i, dp_int r1, q (some i) s1 H1 F1 t1 hs1 hm1⟩) qe
section
variable {R : α → Ty} {f : α → List β} {Re : β → Ty} {Ma : (α → S → Res ε δ) → Res ε δ} {Ml Mh : S → (Option Int → S → Res ε δ) → Res ε δ}
theorem evnc_lstS (hv : SView K Dd R f Re) (ha : EvC K X De ta G Dd s Ma R) : EvNC K X De (tCB (cLst K) (tCons ta tNil)) G Dd s (fun kk => Ma fun a s1 => kk (f a) s1) (OLT Re) := fun kk σ H F hs ss o r Q hm q qe =>
  ha _ σ H F hs ss o r _ hm (fun a s1 v H1 F1 t1 hs1 r1 hm1 => by
    obtain ⟨p, vs, rfl, h1, h2⟩ := hv a s1 v H1 F1 hs1 r1
    exact .inl ⟨p, vs, rfl, h1, fun u hu => q _ s1 u _ F1 t1 (hs1.new hu ⟨_, rfl, h2⟩) hm1⟩) qe
end
theorem lv_LT {Re : α → Ty} : ∀ x s v H F, HS (Dd s) H F → (LT K Re x).p v F → ∃ a vs, v = .ref a ∧ SqL K H a vs ∧ AllP F ((id x).map Re) vs := fun x s v H F hs ⟨a, vs, e, h1, h2⟩ => ⟨a, vs, e, sqL_up hs h1, h2⟩
theorem evc_slS {Ma : (Tx → S → Res ε δ) → Res ε δ} {Ml Mh : S → (Option Int → S → Res ε δ) → Res ε δ} (ha : EvC K X De te G Dd s Ma (tD K eS)) (hl : ∀ s1, EvOC K X De tl G Dd s1 (Ml s1)) (hh : ∀ s1, EvOC K X De th G Dd s1 (Mh s1)) :
    EvC K X De (tSl rSlS te tl th) G Dd s (fun kk => Ma fun a s1 => Ml s1 fun lo s2 => Mh s2 fun hi s3 => Res.bind (Res.grd (Tx.len a ≤ 100000) (Tx.cut a lo hi)) fun z => kk z s3) (tD K eS) := fun kk σ H F hs ss o r Q hm q qe =>
  ha _ σ H F hs ss o r _ hm (fun a s1 v H1 F1 t1 hs1 r1 hm1 => hl s1 _ σ H1 F1 hs1 (ss.mono t1) o r _ hm1 (fun lo s2 H2 F2 t2 hs2 hm2 => hh s2 _ σ H2 F2 hs2 ((ss.mono t1).mono t2) o r _ hm2 (fun hi s3 H3 F3 t3 hs3 hm3 => by
    obtain ⟨c, hm4⟩ := Res.sat_grd hm3
    rw [dp_str r1]
    exact ⟨a.s, rfl, Nat.le_trans c sizeLine_big, q (Tx.cut a lo hi) s3 _ H3 F3 ((t1.trans t2).trans t3) hs3 (.str _) hm4⟩)
    (fun n e h H3 F3 t3 => qe n e h H3 F3 ((t1.trans t2).trans t3))) (fun n e h H2 F2 t2 => qe n e h H2 F2 (t1.trans t2))) qe
theorem evc_join {Ma : (Tx → S → Res ε δ) → Res ε δ} {Mb : S → (List Tx → S → Res ε δ) → Res ε δ} (ha : EvC K X De ta G Dd s Ma (tD K eS)) (hb : ∀ s1, EvC K X De tb G Dd s1 (Mb s1) (tD K (eL eS))) :
    EvC K X De (tM1 (rJoin K) ta tb) G Dd s (fun kk => Ma fun a s1 => Mb s1 fun b s2 => Res.bind (Res.grd (joinC a b) (Tx.join a b)) fun z => kk z s2) (tD K eS) := fun kk σ H F hs ss o r Q hm q qe =>
  ha _ σ H F hs ss o r _ hm (fun a s1 v H1 F1 t1 hs1 r1 hm1 => ⟨⟨a.s, dp_str r1⟩, hb s1 _ σ H1 F1 hs1 (ss.mono t1) o r _ hm1 (fun b s2 u H2 F2 t2 hs2 r2 hm2 => by
    obtain ⟨c, hm3⟩ := Res.sat_grd hm2
    obtain ⟨p, xs, rfl, h1, h2⟩ := dp_lst r2
    have e := allP_strs (map_allP h2)
    subst e
    refine ⟨a.s, p, b.map Tx.s, dp_str r1, rfl, .inl (sqL_up hs2 h1), ?_, q (Tx.join a b) s2 (.str (Tx.join a b).s) H2 F2 (t1.trans t2) hs2 (.str _) hm3⟩
    rw [List.map_map, List.length_map]
    exact c) (fun n e h H2 F2 t2 => qe n e h H2 F2 (t1.trans t2))⟩) qe
end
end TL
end
section
set_option Elab.async false
set_option linter.all false
set_option maxRecDepth 100000
set_option maxHeartbeats 1000000
namespace Res
variable {ε ε' α β γ σ ρ : Type}
def tryE (kn : List (PySem.Str × Bool)) (mb : Res Unit σ) (mh : PySem.Str → Res ε ρ) (e0 : ε) (k : σ → Res ε ρ) : Res ε ρ := match mb with
  | .ok s => k s
  | .err n _ => match kn.lookup n with
    | some true => mh n
    | some false => .err n e0
    | none => .stuck
  | .stuck => .stuck
@[simp] theorem tryE_ok (kn : List (PySem.Str × Bool)) (s : σ) (mh : PySem.Str → Res ε ρ) (e0 : ε) (k : σ → Res ε ρ) : tryE kn (.ok s) mh e0 k = k s := rfl
end Res
namespace TL
open PySem PySem.Spec L2
section
variable {K : PySem.W.Frag} {ε ε' ρ α β γ δ S τ τ' σt ω : Type} {X : L2.St → XK} {Xk : XK} {De : ε → Own} {G G1 G2 : Sto} {D0 : Own} {Dd : S → Own} {s : S} {te ta tb tc : TE} {tt tu : TT} {F0 F1 : Hp} {E : Ends} {w : Wish K ε ρ} {t : TA} {n : Nat} {dvs : List V} {args : τ → List Ty} {Rs : τ' → List Ty}
theorem AllP.app {F : Hp} {vs ws : List V} {Rs Ss : List Ty} (h : AllP F Rs vs) (h' : AllP F Ss ws) : AllP F (Rs ++ Ss) (vs ++ ws) := by
  induction h with
  | nil => exact h'
  | cons a _ ih => exact .cons a ih
theorem go_ifF {t u : TS} (h : EvTC (β := ρ) K w.X w.De tt G (fun _ : Unit => D0) () (fun kk => kk false ())) {m : Res ε ρ} (hP : w.W F0 m) (h1 : w.W F0 m → Go (u E) F0 G D0) (c : w.cond G := by first | exact trivial | walk_at "cond") : Go (tIfS tt t u E) F0 G D0 := fun σ H F q hs ss =>
  h (fun b _ => if b = true then .stuck else m) σ H F hs ss _ _ _ hP (fun b _ H1 F1 t1 hs1 hm => by
    cases b with
    | false => exact h1 hP σ H1 F1 (q.trans t1) hs1 (ss.mono t1)
    | true => exact (show False from hm).elim) (fun n e hr H1 F1 t1 hs1 => w.err hr c σ H1 F1 (q.trans t1) hs1 (ss.mono t1))
end
end TL
end
section
set_option Elab.async false
set_option linter.all false
set_option maxRecDepth 100000
set_option maxHeartbeats 1000000
namespace TL
open PySem PySem.Spec L2
structure FoM (P : Program) (w : World) (K : PySem.W.Frag) (mg : Str → Option Value) (base : Heap) (C : Addr) (m : Str) (ps : List Str) (dvs : List V) (k : Nat) (sp : Sp) : Prop where
  ex : ∃ f fd ds, FnOk P w K mg base (L2.CX P w) k f fd ps sp ∧ Cls K C ∧ Meth K C m f ∧ Binds K fd ps ds ∧ Vals dvs ds
structure FoI (P : Program) (w : World) (K : PySem.W.Frag) (mg : Str → Option Value) (base : Heap) (x : Str) (C : Addr) (ps : List Str) (dvs : List V) (k : Nat) (sp : Sp) : Prop where
  ex : ∃ f fd ds, FnOk P w K mg base (L2.CX P w) k f fd ps sp ∧ mg x = some (.ref C) ∧ Mk K C f ∧ Binds K fd ps ds ∧ Vals dvs ds
section
variable {X : Cx} {k : Nat} {C : Addr} {ps : List Str} {sp : Sp} {dvs : List V} {W : WX} {x m : Str} {p pos apos : Pos} {e o : Expr} {es : List Expr} {ta : TE} {t : TA}
end
abbrev Fds : Type := List (Str × Ty)
def FdsP (F : Hp) (fds : Fds) (fs : List (Str × V)) : Prop := fs.map (·.1) = fds.map (·.1) ∧ AllP F (fds.map (·.2)) (fs.map (·.2))
theorem FdsP.up {F F' : Hp} {fds : Fds} {fs : List (Str × V)} (h : FdsP F fds fs) (s : Same F F') : FdsP F' fds fs := ⟨h.1, h.2.mono s⟩
def IN (K : PySem.W.Frag) (C : Addr) (fds : Fds) : Ty := ⟨fun v F => ∃ a dx fs, v = .ref a ∧ F a = some (.ins C dx fs) ∧ FdsP F fds fs, fun s ⟨a, dx, fs, e, h, h2⟩ => ⟨a, dx, fs, e, s _ _ h, h2.up s⟩⟩
def INa (K : PySem.W.Frag) (C : Addr) (a : Addr) (fds : Fds) : Ty := ⟨fun v F => v = .ref a ∧ ∃ dx fs, F a = some (.ins C dx fs) ∧ FdsP F fds fs, fun s ⟨e, dx, fs, h, h2⟩ => ⟨e, dx, fs, s _ _ h, h2.up s⟩⟩
theorem INa.to {K : PySem.W.Frag} {C a : Addr} {fds : Fds} {v : V} {F : Hp} (h : (INa K C a fds).p v F) : (IN K C fds).p v F := let ⟨e, dx, fs, h1, h2⟩ := h; ⟨a, dx, fs, e, h1, h2⟩
theorem lookup_at : ∀ {fs : List (Str × V)} {j : Nat} {f : Str} {v : V}, (fs.map (·.1)).Nodup → (fs.map (·.1))[j]? = some f → (fs.map (·.2))[j]? = some v → fs.lookup f = some v
  | [], j, f, v, _, h, _ => by simp at h
  | (g, u) :: fs, 0, f, v, nd, h1, h2 => by
    simp at h1 h2
    subst h1 h2
    simp
  | (g, u) :: fs, j + 1, f, v, nd, h1, h2 => by
    have ne : ¬ f = g := fun z => by
      subst z
      have h1' : (fs.map (·.1))[j]? = some f := by simpa using h1
      rw [List.map_cons, List.nodup_cons] at nd
      exact nd.1 (List.mem_of_getElem? h1')
    rw [List.lookup_cons]
    have q : (f == g) = false := by simp [ne]
    rw [q]
    rw [List.map_cons, List.nodup_cons] at nd
    exact lookup_at nd.2 (by simpa using h1) (by simpa using h2)
theorem FdsP.at {F : Hp} {fds : Fds} {fs : List (Str × V)} (h : FdsP F fds fs) {j : Nat} {f : Str} {R : Ty} (nd : (fds.map (·.1)).Nodup) (e : fds[j]? = some (f, R)) : ∃ v, fs.lookup f = some v ∧ R.p v F := by
  have e1 : (fds.map (·.1))[j]? = some f := by rw [List.getElem?_map, e]; rfl
  have e2 : (fds.map (·.2))[j]? = some R := by rw [List.getElem?_map, e]; rfl
  obtain ⟨v, h1, h2⟩ := h.2.get e2
  exact ⟨v, lookup_at (by rw [h.1]; exact nd) (by rw [h.1]; exact e1) h1, h2⟩
section
variable {K : PySem.W.Frag} {ε ε' ρ α β γ δ S τ τ' σt ω : Type} {X : L2.St → XK} {Xk : XK} {De : ε → Own} {G G1 G2 : Sto} {D0 : Own} {Dd : S → Own} {s : S} {te ta tb tc : TE} {tt tu : TT} {F0 F1 : Hp} {E : Ends} {w : Wish K ε ρ} {t : TA} {n : Nat} {dvs : List V} {args : τ → List Ty} {Rs : τ' → List Ty} {C : Addr}
def GoI (K : PySem.W.Frag) (Q : VK) (F : Hp) (C a : Addr) (fds : Fds) (D : Own) : Prop := ∀ H' F', Same F F' → HS D H' F' → (INa K C a fds).p (.ref a) F' → Q .non H'
theorem GoI.up {Q : VK} {F F' : Hp} {a : Addr} {fds : Fds} {D : Own} (h : GoI K Q F C a fds D) (s : Same F F') : GoI K Q F' C a fds D := fun H1 F1 t hs r => h H1 F1 (s.trans t) hs r
end
end TL
end
section
set_option Elab.async false
set_option linter.all false
set_option maxRecDepth 100000
set_option maxHeartbeats 1000000
namespace TL
open PySem PySem.Spec L2
def Tx.signs (t : Tx) : List Tx := t.s.cps.toList.pmap (fun c h => Tx.sg c h) fun c hc => t.all c hc
theorem Tx.signs_map (t : Tx) : t.signs.map (·.s) = t.s.cps.toList.map fun c => (⟨#[c]⟩ : Str) := by
  unfold Tx.signs
  rw [List.map_pmap]
  exact List.pmap_eq_map ..
def Tx.has (t u : Tx) : Bool := !(Builtin.Str.occurrences t.s u.s 0 t.s.length 1).isEmpty
section
variable {K : PySem.W.Frag} {ε ε' ρ α β γ δ S τ τ' σt ω : Type} {X : L2.St → XK} {De : ε → Own} {G G1 G2 : Sto} {D0 : Own} {Dd : S → Own} {s : S} {te ta tb tc tx : TE} {tt tu : TT} {F0 F1 : Hp} {E : Ends} {w : Wish K ε ρ} {t : TA}
end
end TL
end
section
set_option Elab.async false
set_option linter.all false
set_option maxRecDepth 100000
set_option maxHeartbeats 1000000
namespace TL
open PySem PySem.Spec L2
section
variable {P : Program} {w : World} {K : PySem.W.Frag} {mg : Str → Option Value} {base : Heap} {x m : Str} {C : Addr} {ps : List Str} {k : Nat} {sp : Sp} {f : Addr} {fd : FuncData} {name qual : Str} {params : Arguments} {body : List Stmt} {scope : Scope}
variable {dvs : List V}
end
section
variable {F : Hp} {τ : Type} {args : τ → List Ty}
theorem hd0 : ∀ (x : τ) (F : Hp) (vs : List V), AllP F (args x) vs → AllP F (args x) (vs ++ []) := fun x F vs h => by rw [List.append_nil]; exact h
variable {K : PySem.W.Frag} {ε δ α β γ ζ η S : Type} {X : L2.St → XK} {De : ε → Own} {G : Sto} {Dd : S → Own} {s : S} {te : TE}
theorem evc_weak {R R' : α → Ty} {M : (α → S → Res ε δ) → Res ε δ} (h : EvC K X De te G Dd s M R) (hx : ∀ x v F, (R x).p v F → (R' x).p v F) : EvC K X De te G Dd s M R' := fun kk σ H F hs ss o r Q hm q qe =>
  h kk σ H F hs ss o r Q hm (fun x s' v H' F' t hs' r' hm' => q x s' v H' F' t hs' (hx x v F' r') hm') qe
end
end TL
end
section
set_option Elab.async false
set_option linter.all false
set_option maxRecDepth 100000
set_option maxHeartbeats 1000000
namespace TL
open PySem PySem.Spec L2
section
variable {X : Cx} {o e : Expr} {to te : TE} {apos pos : Pos}
end
section
variable {K : PySem.W.Frag} {ε ε' ρ α β γ δ S τ τ' σt ω : Type} {X : L2.St → XK} {De : ε → Own} {G G1 G2 : Sto} {D0 : Own} {Dd : S → Own} {s : S} {te ta tb tc tx : TE} {tt tu : TT} {F0 F1 : Hp} {E : Ends} {w : Wish K ε ρ} {t : TA}
end
end TL
end
section
set_option Elab.async false
set_option linter.all false
set_option maxRecDepth 100000
set_option maxHeartbeats 1000000
namespace TL
open PySem PySem.Spec L2
def popL {α : Type} (xs : List α) : Option (α × List α) := match xs.getLast? with
  | some y => some (y, xs.dropLast)
  | none => none
section
variable {K : PySem.W.Frag} {ε ε' ρ α β γ δ S τ τ' σt ω : Type} {X : L2.St → XK} {Xk : XK} {De : ε → Own} {G G1 G2 : Sto} {D0 : Own} {Dd : S → Own} {s : S} {te ta tb tc tx : TE} {tt tu : TT} {F0 F1 : Hp} {E : Ends} {w : Wish K ε ρ} {t : TA} {n : Nat} {Rs : τ → List Ty}
theorem evc_callCN {O : ω → OTy} {args : Addr → τ → List Ty} {mf : τ → ω → Res ω (γ × ω)} {R : γ → Ty} {Mn : (ω → S → Res ε δ) → Res ε δ} {Mt : S → (τ → S → Res ε δ) → Res ε δ} {sp : Sp} (hsp : ∀ vs H Q X, spC K O args mf (fun r => .ok (R r)) vs H Q X → sp vs H Q X) (g : S → ε)
    (hn : EvNC K (fun _ => Xk) De ta G Dd s Mn O) (ht : ∀ y p s1, EvAC K (fun _ => Xk) De t G (fun s => (p, O y) :: Dd s) s1 (Mt s1) Rs) (ha : ∀ a x, args a x = Is (.ref a) :: Rs x) (hde : ∀ s, (De (g s)).Sublist (Dd s)) :
    EvC K (fun _ => Xk) De (tCall sp [] Xk (tCons ta t)) G Dd s (fun kk => Mn fun y s1 => Mt s1 fun x s2 => Res.bind (Res.mapE (fun _ => g s2) (mf x y)) fun z => kk z.1 s2) R := fun kk σ H F hs ss o r Q hm q qe =>
  hn _ σ H F hs ss o r _ hm (fun y s1 p H1 F1 t1 hs1 hm1 => ht y p s1 _ σ H1 F1 hs1 (ss.mono t1) o r _ hm1 (fun x s2 vs H2 F2 t2 hs2 r2 hm2 => hsp _ _ _ _ ⟨x, y, F2, fun y' => (p, O y') :: Dd s2, 0, p, Bor.here, hs2, by rw [List.append_nil, ha]; exact .cons rfl r2, by
    cases e : mf x y with
    | ok z =>
      rw [e] at hm2
      exact fun v H3 F3 t3 hs3 r3 => q z.1 s2 v H3 F3 ((t1.trans t2).trans t3) (hs3.drop (List.sublist_cons_self _ _)) r3 hm2
    | err n u =>
      rw [e] at hm2
      exact fun H3 F3 t3 hs3 => qe n _ hm2 H3 F3 ((t1.trans t2).trans t3) ((hs3.drop (List.sublist_cons_self _ _)).drop (hde s2))
    | stuck =>
      rw [e] at hm2
      exact hm2⟩) (fun n e h H2 F2 t2 => qe n e h H2 F2 (t1.trans t2))) qe
theorem evc_popL {R : α → Ty} {k i : Nat} {a : Addr} {Dd : List α → Own} {s : List α} (B : Bor1 Dd k a (OLT R)) (hi : G[i]? = some (some (Is (.ref a)))) : EvC (β := δ) K X De (tBM0 K "list" rPop (tVar i)) G Dd s (fun kk => Res.bind (Res.opt (popL s)) fun z => kk z.1 z.2) R := fun kk σ H F hs ss o r Q hm q qe => by
  obtain ⟨v, e1, e2⟩ := ss.get hi
  have ev : v = .ref a := e2
  subst ev
  obtain ⟨z, ez, hm2⟩ := Res.sat_opt hm
  obtain ⟨o1, ho, vs, rfl, hx⟩ := hs.at (B.at_ s)
  unfold popL at ez
  have ln := hx.len
  rw [List.length_map] at ln
  cases el : s.getLast? with
  | none => simp [el] at ez
  | some y =>
    simp only [el] at ez
    cases ez
    rw [List.getLast?_eq_getElem?] at el
    have e3 : (s.map R)[s.length - 1]? = some (R y) := by rw [List.getElem?_map, el]; rfl
    obtain ⟨u, hu, ru⟩ := hx.get e3
    refine ⟨_, e1, .inl ⟨rfl, vs, SqL.of ho⟩, a, vs, u, rfl, rfl, ho, by rw [ln]; exact hu, ?_⟩
    refine q y s.dropLast u _ F (Same.refl _) ?_ ru hm2
    have z := hs.put (O' := OLT R s.dropLast) (o := .lst vs.dropLast) (B.at_ s) ⟨_, rfl, ?_⟩
    · rw [B.set_ s] at z
      exact z
    · have key : ∀ {Rs : List Ty} {us : List V}, AllP F Rs us → AllP F Rs.dropLast us.dropLast := by
        intro Rs us h
        induction h with
        | nil => exact .nil
        | cons a h ih =>
          cases h with
          | nil => exact .nil
          | cons b h => exact .cons a ih
      have := key hx
      rwa [← List.map_dropLast] at this
end
end TL
end
section
set_option Elab.async false
set_option linter.all false
set_option maxRecDepth 100000
set_option maxHeartbeats 1000000
namespace TL
open PySem PySem.Spec L2
section
variable {K : PySem.W.Frag} {ε ε' ρ α β γ δ S τ τ' σt ω Ω : Type} {X : L2.St → XK} {Xk : XK} {De : ε → Own} {G G1 G2 : Sto} {D0 : Own} {Dd : S → Own} {s : S} {te ta tb tc tx : TE} {tt tu : TT} {F0 F1 : Hp} {E : Ends} {w : Wish K ε ρ} {t : TA} {n : Nat} {Rs : τ → List Ty} {gt : Ω → ω} {st : Ω → ω → Ω} {O : ω → OTy} {k : Nat} {a : Addr}
theorem Bor.ahead {Dp : Ω → Own} {c : Ω → Addr × OTy} (B : Bor Dp k a O gt st) (h : ∀ w v, c (st w v) = c w) : Bor (fun w => c w :: Dp w) (k + 1) a O gt st :=
  ⟨fun w => by rw [List.getElem?_cons_succ]; exact B.at_ w, fun w v => by rw [List.set_cons_succ, B.set_ w v, h]⟩
theorem Bor.at0 {D : Ω → Own} (h1 : ∀ w v, gt (st w v) = v) (h2 : ∀ w v, D (st w v) = D w) : Bor (fun w => (a, O (gt w)) :: D w) 0 a O gt st :=
  ⟨fun w => rfl, fun w v => by rw [List.set_cons_zero, h1, h2]⟩
theorem Bor.of1 {Dp : ω → Own} (B : Bor1 Dp k a O) (h1 : ∀ w v, gt (st w v) = v) : Bor (fun w => Dp (gt w)) k a O gt st :=
  ⟨fun w => B.at_ (gt w), fun w v => by rw [h1]; exact B.set_ (gt w) v⟩
theorem evc_callCL {args : Addr → τ → List Ty} {mf : τ → ω → Res ω (γ × ω)} {R : γ → Ty} {Dd : Ω → Own} {s : Ω} {M : (τ → Ω → Res ε δ) → Res ε δ} {sp : Sp} (hsp : ∀ vs H Q X, spC K O args mf (fun r => .ok (R r)) vs H Q X → sp vs H Q X) {g : Ω → ω → ε} (B : Bor Dd k a O gt st) (h : EvAC K (fun _ => Xk) De t G Dd s M (args a)) (hde : ∀ s y, (De (g s y)).Sublist (Dd (st s y))) (hsg : ∀ w v v', st (st w v) v' = st w v') (hgs : ∀ w v, gt (st w v) = v) (hid : ∀ w, st w (gt w) = w) :
    EvC K (fun _ => Xk) De (tCall sp [] Xk t) G Dd s (fun kk => M fun x s1 => Res.bind (Res.mapE (g s1) (mf x (gt s1))) fun z => kk z.1 (st s1 z.2)) R := fun kk σ H F hs ss o r Q hm q qe =>
  h _ σ H F hs ss o r _ hm (fun x s1 vs H1 F1 t1 hs1 r1 hm1 => hsp _ _ _ _ ⟨x, gt s1, F1, fun y => Dd (st s1 y), k, a, ⟨fun y => by rw [B.at_, hgs]; rfl, fun y v => by rw [B.set_, hsg]⟩, by show HS (Dd (st s1 (gt s1))) H1 F1; rw [hid]; exact hs1, by rw [List.append_nil]; exact r1, by
    cases e : mf x (gt s1) with
    | ok z =>
      rw [e] at hm1
      exact fun v H2 F2 t2 hs2 r2 => q z.1 (st s1 z.2) v H2 F2 (t1.trans t2) hs2 r2 hm1
    | err n u =>
      rw [e] at hm1
      exact fun H2 F2 t2 hs2 => qe n _ hm1 H2 F2 (t1.trans t2) (hs2.drop (hde s1 u))
    | stuck =>
      rw [e] at hm1
      exact hm1⟩) qe
end
end TL
end
section
set_option Elab.async false
set_option linter.all false
set_option maxRecDepth 100000
set_option maxHeartbeats 1000000
namespace TL
open PySem PySem.Spec L2
section
variable {K : PySem.W.Frag} {ε ε' ρ α β γ δ S τ τ' σt ω Ω : Type} {X : L2.St → XK} {Xk : XK} {De : ε → Own} {G G1 G2 : Sto} {D0 : Own} {Dd : S → Own} {s : S} {te ta tb tc tx : TE} {tt tu : TT} {F0 F1 : Hp} {E : Ends} {w : Wish K ε ρ} {t : TA} {n : Nat}
theorem allP_app {F : Hp} {R : α → Ty} {xs ys : List α} {vs us : List V} (h : AllP F (xs.map R) vs) (h2 : AllP F (ys.map R) us) : AllP F ((xs ++ ys).map R) (vs ++ us) := by
  rw [List.map_append]
  exact h.app h2
theorem go_extNC {R : α → Ty} {xs : List α} {k : Nat} {a : Addr} {M : (List α → S → Res ε ρ) → Res ε ρ} {kk : List α × S → Res ε ρ} (ho : G[n]? = some (some (Is (.ref a)))) (h : EvNC K w.X w.De te G Dd s M (OLT R)) (hk : ∀ s, (Dd s)[k]? = some (a, OLT R xs))
    {m : Res ε ρ} (hP : w.W F0 m) (q : ∀ x, w.W F0 (kk x) → Go E.nx F0 G ((Dd x.2).set k (a, OLT R x.1))) (c : w.cond G := by first | exact trivial | walk_at "cond") (hm : m = (M fun v s' => Res.bind (Res.grd (xs.length + v.length ≤ 100000) (xs ++ v, s')) kk) := by exact rfl) : Go (tDrop (tBM K "list" rExtend (tVar n) (tCons te tNil)) E) F0 G (Dd s) := by subst hm; exact (fun σ H F t hs ss => by
  obtain ⟨v0, e0, r0⟩ := ss.get ho
  have r0' : v0 = .ref a := r0
  subst r0'
  obtain ⟨o1, ho1, xs1, rfl, h21⟩ := hs.at (hk s)
  refine ⟨_, e0, .inl ⟨rfl, xs1, SqL.of ho1⟩, h _ σ H F hs ss _ _ _ hP (fun ys s' p H1 F1 t1 hs1 hm => ?_) (fun n e hr H1 F1 t1 hs1 => w.err hr c σ H1 F1 (t.trans t1) hs1 (ss.mono t1))⟩
  obtain ⟨hl, hm2⟩ := Res.sat_grd hm
  have hk1 : ((p, OLT R ys) :: Dd s')[k + 1]? = some (a, OLT R xs) := by rw [List.getElem?_cons_succ]; exact hk s'
  obtain ⟨o, ho2, vs, rfl, h2⟩ := hs1.at hk1
  obtain ⟨o3, ho3, us, rfl, h3⟩ := hs1.at (k := 0) rfl
  have l2 := h2.len
  have l3 := h3.len
  rw [List.length_map] at l2 l3
  refine ⟨a, p, vs, us, rfl, rfl, ho2, ho3, by rw [l2, l3]; exact Nat.le_trans hl sizeLine_big, ?_⟩
  have z := hs1.put (O' := OLT R (xs ++ ys)) (o := .lst (vs ++ us)) hk1 ⟨_, rfl, allP_app h2 h3⟩
  rw [List.set_cons_succ] at z
  exact q (xs ++ ys, s') hm2 σ _ F1 (t.trans t1) (z.drop (List.sublist_cons_self _ _)) (ss.mono t1))
theorem go_clearC {R : α → Ty} {xs : List α} {k : Nat} {a : Addr} {kk : List α × Unit → Res ε ρ} (ho : G[n]? = some (some (Is (.ref a)))) (hk : D0[k]? = some (a, OLT R xs))
    {m : Res ε ρ} (hP : w.W F0 m) (q : ∀ x, w.W F0 (kk x) → Go E.nx F0 G (D0.set k (a, OLT R x.1))) (hm : m = Res.bind (.ok ([], ())) kk := by exact rfl) : Go (tDrop (tBM0 K "list" rClear (tVar n)) E) F0 G D0 := by subst hm; exact (fun σ H F t hs ss => by
  obtain ⟨v0, e0, r0⟩ := ss.get ho
  have r0' : v0 = .ref a := r0
  subst r0'
  obtain ⟨o1, ho1, vs, rfl, h2⟩ := hs.at hk
  refine ⟨_, e0, .inl ⟨rfl, vs, SqL.of ho1⟩, a, vs, rfl, rfl, ho1, ?_⟩
  exact q ([], ()) hP σ _ F t (hs.put (O' := OLT R []) (o := .lst []) hk ⟨_, rfl, .nil⟩) ss)
end
section
variable {K : PySem.W.Frag} {ε ε' ρ α β γ δ S τ τ' σt ω Ω : Type} {X : L2.St → XK} {Xk : XK} {De : ε → Own} {G G1 G2 : Sto} {D0 : Own} {Dd : S → Own} {s : S} {te ta tb tc tx : TE} {tt tu : TT} {F0 F1 : Hp} {E : Ends} {w : Wish K ε ρ} {t : TA} {n : Nat}
end
end TL
end
section
set_option Elab.async false
set_option linter.all false
set_option maxRecDepth 100000
set_option maxHeartbeats 1000000
namespace TL
open PySem PySem.Spec L2
section
variable {K : PySem.W.Frag} {ε ε' ρ α β γ δ S τ τ' σt ω Ω : Type} {X : L2.St → XK} {Xk : XK} {De : ε → Own} {G G1 G2 : Sto} {D0 : Own} {Dd : S → Own} {s : S} {te ta tb tc tx : TE} {tt tu : TT} {F0 F1 : Hp} {E : Ends} {w : Wish K ε ρ} {t : TA} {n : Nat}
end
end TL
end
section
set_option Elab.async false
set_option linter.all false
set_option maxRecDepth 100000
set_option maxHeartbeats 1000000
namespace TL
open PySem PySem.Spec L2
def rIdx : V → List V → Hp → VK → Prop := fun x xs H Q => ∃ a b i rest, x = .str a ∧ xs = [.str b] ∧ PySem.Builtin.Str.occurrences a b 0 a.length 1 = i :: rest ∧ Q (.int (i : Int)) H
section
variable {X : Cx} {o e : Expr} {to te : TE} {apos pos : Pos}
theorem mt_index : MtR X "str.index" rIdx := by
  intro pins s σ H x xs v us Q I rx rs h
  obtain ⟨a, b, i, rest, rfl, rfl, ho, h⟩ := h
  obtain ⟨t, rfl⟩ := rx
  cases rs with
  | cons r1 rs =>
    cases rs
    obtain ⟨u, rfl⟩ := r1
    exact PySem.SC.index ho (⟨.int (i : Int), H, I.tok _, ⟨_, rfl⟩, h⟩)
theorem pe_index (ho : PE X o to) (he : PE X e te) (hs : starEach [e] X.env = [(false, eval e X.env)] := by rfl) (hbase : attributeBase o "index" X.env (eval o X.env) = eval o X.env := by rfl) (hline : (apos.endLine == pos.line) = true := by rfl) :
    PE X (.Call (.Attribute o "index" apos) [e] [] pos) (tM1 rIdx to te) := pe_m1 F.slot_str_index F.type_str_index mt_index ho he hs hbase hline
end
def Tx.index? (a b : Tx) : Option Int := match PySem.Builtin.Str.occurrences a.s b.s 0 a.s.length 1 with
  | i :: _ => some (i : Int)
  | [] => none
section
variable {K : PySem.W.Frag} {ε ε' ρ α β γ δ S τ τ' σt ω : Type} {X : L2.St → XK} {De : ε → Own} {G G1 G2 : Sto} {D0 : Own} {Dd : S → Own} {s : S} {te ta tb tc tx : TE} {tt tu : TT} {F0 F1 : Hp} {E : Ends} {w : Wish K ε ρ} {t : TA}
theorem evc_index {Ma : (Tx → S → Res ε δ) → Res ε δ} {Mb : S → (Tx → S → Res ε δ) → Res ε δ} (ha : EvC K X De ta G Dd s Ma (tD K eS)) (hb : ∀ s1, EvC K X De tb G Dd s1 (Mb s1) (tD K eS)) :
    EvC K X De (tM1 rIdx ta tb) G Dd s (fun kk => Ma fun a s1 => Mb s1 fun b s2 => Res.bind (Res.opt (Tx.index? a b)) fun z => kk z s2) (tD K eI) := fun kk σ H F hs ss o r Q hm q qe =>
  ha _ σ H F hs ss o r _ hm (fun a s1 v H1 F1 t1 hs1 r1 hm1 => ⟨⟨a.s, dp_str r1⟩, hb s1 _ σ H1 F1 hs1 (ss.mono t1) o r _ hm1 (fun b s2 u H2 F2 t2 hs2 r2 hm2 => by
    obtain ⟨z, ez, hm3⟩ := Res.sat_opt hm2
    unfold Tx.index? at ez
    split at ez
    · rename_i i rest ho
      cases ez
      exact ⟨a.s, b.s, i, rest, dp_str r1, by rw [dp_str r2], ho, q (i : Int) s2 _ H2 F2 (t1.trans t2) hs2 (.int _) hm3⟩
    · cases ez) (fun n e h H2 F2 t2 => qe n e h H2 F2 (t1.trans t2))⟩) qe
end
end TL
end
section
set_option Elab.async false
set_option linter.all false
set_option maxRecDepth 100000
set_option maxHeartbeats 1000000
namespace TL
open PySem PySem.Spec L2
section
variable {K : PySem.W.Frag} {ε ε' ρ α β γ δ S τ τ' σt ω : Type} {X : L2.St → XK} {Xk : XK} {De : ε → Own} {G G1 G2 : Sto} {D0 : Own} {Dd : S → Own} {s : S} {te ta tb tc tx : TE} {tt tu : TT} {F0 F1 : Hp} {E : Ends} {w : Wish K ε ρ} {t : TA}
end
end TL
end
section
set_option Elab.async false
set_option linter.all false
set_option maxRecDepth 100000
set_option maxHeartbeats 1000000
namespace TL
open PySem PySem.Spec L2
section
variable {K : PySem.W.Frag} {ε ε' ρ α β γ δ S τ τ' σt ω : Type} {X : L2.St → XK} {Xk : XK} {De : ε → Own} {G G1 G2 : Sto} {D0 : Own} {Dd : S → Own} {s : S} {te ta tb tc tx : TE} {tt tu : TT} {F0 F1 : Hp} {E : Ends} {w : Wish K ε ρ} {t : TA}
def hasC (b : Addr) (O : OTy) : Own → Prop := fun D => (b, O) ∈ D
theorem evItc_O {R : α → Ty} {b : Addr} {i k : Nat} {xs : List α} (hi : G[i]? = some (some (Is (.ref b)))) (hk : ∀ s, (Dd s)[k]? = some (b, OLT R xs)) : EvItC (β := δ) K X De (iSeq K (tVar i)) G Dd s (hasC b (OLT R xs)) (fun kk => kk xs s) R := fun kk σ H F hs ss o r Q hm q qe => by
  obtain ⟨v, e1, e2⟩ := ss.get hi
  have ev : v = .ref b := e2
  subst ev
  obtain ⟨o1, ho, vs, rfl, hx⟩ := hs.at (hk s)
  refine .inl ⟨_, e1, b, rfl, ⟨vs, SqL.of ho⟩, q xs s _ H F (Same.refl _) hs (fun D H2 F2 c s2 hs2 i => ?_) hm⟩
  obtain ⟨_, o2, ho2, vs2, rfl, h2⟩ := hs2.own b _ c
  refine ⟨fun R' hR => ?_, fun hl => ?_⟩
  · obtain ⟨v, e1, e2⟩ := h2.get hR
    have sq : SqL K H2 b vs2 := SqL.of ho2
    refine ⟨⟨vs2, v, sq, e1⟩, fun x H' hy => ?_⟩
    obtain ⟨e3, e4⟩ := hy
    subst e3
    have e5 := e4 vs2 sq
    rw [e1] at e5
    cases e5
    exact ⟨F2, Same.refl _, hs2, e2⟩
  · exact ⟨vs2, SqL.of ho2, by rw [h2.len]; exact hl⟩
end
end TL
end
section
set_option Elab.async false
set_option linter.all false
set_option maxRecDepth 100000
set_option maxHeartbeats 1000000
namespace TL
open PySem PySem.Spec L2
def DLe (D D' : Own) : Prop := ∀ H F, HS D H F → HS D' H F
theorem DLe.of {D D' : Own} (s : D'.Sublist D) : DLe D D' := fun _ _ h => h.drop s
theorem DLe.rfl {D : Own} : DLe D D := fun _ _ h => h
theorem DLe.trans {D D' D2 : Own} (h : DLe D D') (h' : DLe D' D2) : DLe D D2 := fun H F q => h' H F (h H F q)
def RdC (D : Own) (a : Addr) (O : OTy) : Prop := ∃ k : Nat, D[k]? = some (a, O)
theorem RdC.cons {D : Own} {a : Addr} {O : OTy} {c : Addr × OTy} (h : RdC D a O) : RdC (c :: D) a O := let ⟨k, e⟩ := h; ⟨k + 1, by rw [List.getElem?_cons_succ]; exact e⟩
theorem RdC.here {D : Own} {a : Addr} {O : OTy} : RdC ((a, O) :: D) a O := ⟨0, rfl⟩
theorem RdC.of {D : Own} {a : Addr} {O : OTy} {k : Nat} (h : D[k]? = some (a, O)) : RdC D a O := ⟨k, h⟩
theorem Bor.sub {S Ω ω : Type} {Dp : Ω → Own} {k : Nat} {a : Addr} {O : ω → OTy} {gt : Ω → ω} {st : Ω → ω → Ω} (B : Bor Dp k a O gt st) {f : S → Ω} {gt' : S → ω} {st' : S → ω → S} (h1 : ∀ s, gt (f s) = gt' s) (h2 : ∀ s v, st (f s) v = f (st' s v)) : Bor (fun s => Dp (f s)) k a O gt' st' :=
  ⟨fun s => by rw [B.at_, h1], fun s v => by rw [B.set_, h2]⟩
def spR (K : PySem.W.Frag) {τ ρ : Type} (args : τ → List Ty) (pl : τ → Own → Prop) (mf : τ → Res Unit ρ) (out : ρ → Out) : Sp := fun vs H Q X => ∃ (x : τ) (F : Hp) (D : Own), pl x D ∧ HS D H F ∧ AllP F (args x) vs ∧ (dwish K X Q out (fun _ => D) (fun _ : Unit => D)).W F (mf x)
section
variable {K : PySem.W.Frag} {ε ε' ρ α β γ δ S τ τ' σt ω Ω : Type} {X : L2.St → XK} {Xk : XK} {De : ε → Own} {G G1 G2 : Sto} {D0 : Own} {Dd : S → Own} {s : S} {te ta tb tc tx : TE} {tt tu : TT} {F0 F1 : Hp} {E : Ends} {w : Wish K ε ρ} {t : TA} {n : Nat} {dvs : List V} {args : τ → List Ty} {Rs : τ' → List Ty} {C : Addr} {pl : τ → Own → Prop} {plm : τ → (Ω → Own) → Prop} {sp : Sp} {m : Str}
theorem hdR0 {S τ' : Type} {Rs : τ' → List Ty} : ∀ (x : τ') (s : S) (F : Hp) (vs : List V), AllP F (Rs x) vs → AllP F (Rs x) (vs ++ []) := fun x s F vs h => by rw [List.append_nil]; exact h
theorem evc_callR {mf : τ → Res Unit γ} {R : γ → Ty} {f : τ' → S → τ} {M : (τ' → S → Res ε δ) → Res ε δ} (hsp : ∀ vs H Q X, spR K args pl mf (fun r => .ok (R r)) vs H Q X → sp vs H Q X) {g : S → ε} (h : EvAC K X De t G Dd s M Rs) (hpl : ∀ x s, pl (f x s) (Dd s)) (hde : ∀ s, DLe (Dd s) (De (g s))) (hd : ∀ x s F vs, AllP F (Rs x) vs → AllP F (args (f x s)) (vs ++ dvs)) :
    EvC K X De (tCallSD sp dvs X t) G Dd s (fun kk => M fun x s1 => Res.bind (Res.mapE (fun _ => g s1) (mf (f x s1))) fun z => kk z s1) R := fun kk σ H F hs ss o r Q hm q qe =>
  h _ σ H F hs ss o r _ hm (fun x s1 vs H1 F1 t1 hs1 r1 hm1 => hsp _ _ _ _ ⟨f x s1, F1, Dd s1, hpl x s1, hs1, hd _ _ _ _ r1, by
    cases e : mf (f x s1) with
    | ok z =>
      rw [e] at hm1
      exact fun v H2 F2 t2 hs2 r2 => q z s1 v H2 F2 (t1.trans t2) hs2 r2 hm1
    | err n u =>
      rw [e] at hm1
      exact fun H2 F2 t2 hs2 => qe n _ hm1 H2 F2 (t1.trans t2) (hde s1 _ _ hs2)
    | stuck =>
      rw [e] at hm1
      exact hm1⟩) qe
theorem spR_len {mf : τ → Res Unit γ} {out : γ → Out} {n : Nat} (e : ∀ x, (args x).length = n) : ∀ vs H Q E, spR K args pl mf out vs H Q E → vs.length = n := fun vs H Q E ⟨x, F, D, _, _, ha, _⟩ => by rw [ha.len, e]
end
end TL
end
section
set_option Elab.async false
set_option linter.all false
set_option maxRecDepth 100000
set_option maxHeartbeats 1000000
namespace TL
open PySem PySem.Spec L2
theorem at_n {S : Type} {Dd : S → Own} {c : S → Addr × OTy} (n : Nat) (h : ∀ s, (Dd s)[n]? = some (c s)) : ∀ s, (Dd s)[n]? = some (c s) := h
section
variable {K : PySem.W.Frag} {ε ε' ρ α β γ δ S τ τ' σt ω Ω : Type} {X : L2.St → XK} {Xk : XK} {De : ε → Own} {G G1 G2 : Sto} {D0 : Own} {Dd : S → Own} {s : S} {te ta tb tc tx : TE} {tt tu : TT} {F0 F1 : Hp} {E : Ends} {w : Wish K ε ρ} {t : TA} {n : Nat} {dvs : List V} {args : τ → List Ty} {Rs : τ' → List Ty} {C : Addr} {pl : τ → Own → Prop} {plm : τ → (Ω → Own) → Prop} {sp : Sp} {m : Str}
theorem hasC_at {b : Addr} {O : OTy} {k : Nat} {Ds : σt → Own} (hk : ∀ s, (Ds s)[k]? = some (b, O)) : ∀ s, hasC b O (Ds s) := fun s => List.mem_of_getElem? (hk s)
theorem evc_callRD {mf : τ → Res Unit γ} {R : γ → Ty} {f : τ' → S → τ} {M : (τ' → S → Res ε δ) → Res ε δ} (hsp : ∀ vs H Q X, spR K args pl mf (fun r => .ok (R r)) vs H Q X → sp vs H Q X) {g : S → ε} (h : EvAC K (fun _ => Xk) De t G Dd s M Rs) (hpl : ∀ x s, pl (f x s) (Dd s)) (hde : ∀ s, DLe (Dd s) (De (g s))) (hd : ∀ x s F vs, AllP F (Rs x) vs → AllP F (args (f x s)) (vs ++ dvs)) :
    EvC K (fun _ => Xk) De (tCall sp dvs Xk t) G Dd s (fun kk => M fun x s1 => Res.bind (Res.mapE (fun _ => g s1) (mf (f x s1))) fun z => kk z s1) R := evc_callR (g := g) hsp h hpl hde hd
end
end TL
end
section
set_option Elab.async false
set_option linter.all false
set_option maxRecDepth 100000
set_option maxHeartbeats 1000000
namespace TL
open PySem PySem.Spec L2
def PuT (K : PySem.W.Frag) (F : Hp) (a : Addr) (xs : List V) : Prop := (∃ o, F a = some (.frz o (.tup xs)) ∧ o.dict = none) ∨ ∃ (o : Obj) (its : Array Value) (n : Nat), K.lookup a = some o ∧ o.cls = .type "tuple" ∧ o.dict = none ∧ o.data = .seq its n ∧ its.size ≤ sizeLine ∧ Vals xs its.toList
theorem PuT.sq {K : PySem.W.Frag} {F : Hp} {a : Addr} {xs : List V} (h : PuT K F a xs) : SqT K F a xs := by
  rcases h with ⟨o, h, _⟩ | ⟨o, its, n, h1, h2, h3, h4, h5, h6⟩
  · exact .inl (.inr ⟨o, h⟩)
  · exact .inr ⟨o, its, n, h1, h2, h4, h5, h6⟩
theorem PuT.up {K : PySem.W.Frag} {F F' : Hp} {a : Addr} {xs : List V} (s : Same F F') (h : PuT K F a xs) : PuT K F' a xs := by
  rcases h with ⟨o, h, q⟩ | h
  · exact .inl ⟨o, s _ _ h, q⟩
  · exact .inr h
section
variable {X : Cx} {t : TA} {es : List Expr} {pos : Pos}
def tTupP (t : TA) : TE := fun σ H Q => t σ H fun xs H1 => xs.length ≤ sizeLine ∧ ∀ p o, H1 p = none → o.dict = none → Q (.ref p) (upd H1 p (.frz o (.tup xs)))
theorem pe_tupP {x1} (h : PA X es t) : PE X (.Tuple es x1 pos) (tTupP t) := by
  refine ⟨fun pins s σ H Q I hq => ?_⟩
  refine wpAny_Tuple_spliced (thn (h.run pos pins s σ H _ I hq) fun us s1 ⟨xs, H1, I1, r, z, q⟩ => ⟨by rw [← r.length]; exact z, ?_⟩)
  have hf : H1 s1.heap.objs.size = none := I1.hok.fresh (Nat.le_refl _)
  refine ⟨.ref s1.heap.objs.size, _, I1.laid (t' := s1.toks) (o := .frz { cls := .type "tuple", data := .seq us.toArray } (.tup xs)) (fun b u e => Heap.get?_push_of_some _ e) (Nat.le_refl _) ?_, rfl, q _ _ hf rfl⟩
  exact ⟨Heap.get?_push_size _ rfl, z, us, r, ⟨_, Heap.get?_push_size _ rfl, rfl, _, rfl⟩⟩
def cTupP (K : PySem.W.Frag) : List V → Hp → VK → Prop := fun xs H Q => ∃ p ys, xs = [.ref p] ∧ ((SqL K H p ys ∧ ∀ l o, H l = none → o.dict = none → Q (.ref l) (upd H l (.frz o (.tup ys)))) ∨ (SqT K H p ys ∧ Q (.ref p) H))
theorem call_tupP : CallR X (.type "tuple") (cTupP X.K) := by
  intro pins s σ H xs us Q I r h
  obtain ⟨p, ys, rfl, h⟩ := h
  obtain ⟨u, rfl, rx⟩ := vals1 r
  cases rx
  rcases h with ⟨hq, q⟩ | ⟨hq, q⟩
  · obtain ⟨its, r', pl, hz⟩ := I.list hq
    have hlen := r'.length
    refine call_tuple_list pl.isList (fun h' kp => ?_) (by simp only [List.size_toArray] <;> omega)
    have I1 : Inv X pins σ H { s with heap := h' } := I.kept (t' := s.toks) kp
    have I2 : Inv X pins σ (upd H h'.objs.size (.frz { cls := .type "tuple", data := .seq its.toArray } (.tup ys))) { s with heap := h'.push { cls := .type "tuple", data := .seq its.toArray } } :=
      I1.laid (t' := s.toks) (fun b o e => Heap.get?_push_of_some _ e) (Nat.le_refl _) (show ObjOk X.prog X.w _ _ _ (.frz _ (.tup ys)) from ⟨Heap.get?_push_size _ rfl, hz, its, r', PyProof.Rows.IsTup.new _ _⟩)
    exact ⟨.ref h'.objs.size, _, I2, rfl, q _ _ (I1.hok.fresh (Nat.le_refl _)) rfl⟩
  · obtain ⟨its, r', pl, hz⟩ := I.tuple hq
    exact call_tuple_same pl ⟨.ref p, H, I, rfl, q⟩
def rSlP (K : PySem.W.Frag) : V → Option Int → Option Int → Hp → VK → Prop := fun x lo hi H Q => ∃ a xs, x = .ref a ∧ SqT K H a xs ∧
  (HT.sIx xs.length 0 lo = 0 ∧ HT.sIx xs.length xs.length hi = xs.length → Q (.ref a) H) ∧
  (¬ (HT.sIx xs.length 0 lo = 0 ∧ HT.sIx xs.length xs.length hi = xs.length) → ∀ p o, H p = none → o.dict = none → Q (.ref p) (upd H p (.frz o (.tup (cutV xs lo hi)))))
theorem sl_tupP : SlR X (rSlP X.K) := by
  intro pins s σ H x v vl vu lo hi sl Q I rx hs pl pu h
  obtain ⟨a, xs, rfl, hx, q1, q2⟩ := h
  cases rx
  obtain ⟨its, r, ht, hz⟩ := I.tuple hx
  have hlen : its.toArray.size = xs.length := by rw [List.size_toArray]; exact r.length.symm
  refine ⟨"tuple", _, PyProof.Rows.slot_tuple_getitem.lookup, ht.typeIs, ?_⟩
  by_cases hw : HT.sIx xs.length 0 lo = 0 ∧ HT.sIx xs.length xs.length hi = xs.length
  · exact getItem_tuple_whole ht hs pl pu (by rw [hlen]; exact hw) ⟨.ref a, H, I, rfl, q1 hw⟩
  · refine HT.getItem_tuple_cut ht hs pl pu (by rw [hlen]; exact hw) ?_ (by rw [hlen]; exact hz)
    rw [hlen]
    refine ⟨.ref s.heap.objs.size, _, I.laid (t' := s.toks) (o := .frz { cls := .type "tuple", data := .seq (List.take (HT.sIx xs.length xs.length hi - HT.sIx xs.length 0 lo) (List.drop (HT.sIx xs.length 0 lo) its.toArray.toList)).toArray } (.tup (cutV xs lo hi))) (fun b ob q => Heap.get?_push_of_some _ q) (Nat.le_refl _) ?_, rfl, q2 hw _ _ (I.hok.fresh (Nat.le_refl _)) rfl⟩
    exact ⟨Heap.get?_push_size _ rfl, Nat.le_trans (cutV_length xs lo hi) hz, _, (r.drop (HT.sIx xs.length 0 lo)).take (HT.sIx xs.length xs.length hi - HT.sIx xs.length 0 lo), PyProof.Rows.IsTup.new _ _⟩
theorem plainTup {pins : List (Addr × Obj)} {σ : L2.St} {H : Hp} {s : Shared} {a : Addr} {xs : List V} (I : Inv X pins σ H s) (h : PuT X.K H a xs) : ∃ its : List Value, Vals xs its ∧ PlainSeq "tuple" s.heap a its.toArray ∧ xs.length ≤ sizeLine := by
  rcases h with ⟨o, h, hd⟩ | ⟨o, its, n, hk, hc, hd, hs, hz, r⟩
  · obtain ⟨e, z, its, r, ⟨o2, e2, c2, n2, d2⟩⟩ := (show ObjOk X.prog X.w H s.heap a (.frz o (.tup xs)) from I.hok a _ h)
    rw [e] at e2
    cases e2
    exact ⟨its, r, ⟨o, n2, e, c2, hd, d2⟩, z⟩
  · refine ⟨its.toList, r, ⟨o, n, I.kIn a o hk, hc, hd, by simpa using hs⟩, ?_⟩
    have e := r.length
    simp only [Array.length_toList] at e
    omega
end
end TL
end
section
set_option Elab.async false
set_option linter.all false
set_option maxRecDepth 100000
set_option maxHeartbeats 1000000
namespace TL
open PySem PySem.Spec L2
def TU (K : PySem.W.Frag) (Rs : List Ty) : Ty := ⟨fun v F => ∃ a vs, v = .ref a ∧ SqT K F a vs ∧ AllP F Rs vs, fun s ⟨a, vs, e, h1, h2⟩ => ⟨a, vs, e, same_sqT s h1, h2.mono s⟩⟩
def VP (K : PySem.W.Frag) {α : Type} (R : α → Ty) (xs : List α) : Ty := ⟨fun v F => ∃ a vs, v = .ref a ∧ PuT K F a vs ∧ AllP F (xs.map R) vs, fun s ⟨a, vs, e, h1, h2⟩ => ⟨a, vs, e, h1.up s, h2.mono s⟩⟩
abbrev Dat (K : PySem.W.Frag) (R : Ty) (d : PyData) : Prop := ∀ v F, R.p v F → Dp K F v d
def DD (K : PySem.W.Frag) (Rs : List Ty) (ds : List PyData) : Prop := ∀ F vs, AllP F Rs vs → DpAll K F vs ds
section
variable {K : PySem.W.Frag} {α β : Type}
theorem dd_nil : DD K [] [] := fun F vs h => by cases h; exact .nil
theorem dd_cons {R : Ty} {Rs : List Ty} {d : PyData} {ds : List PyData} (h : Dat K R d) (t : DD K Rs ds) : DD K (R :: Rs) (d :: ds) := fun F vs r => by
  cases r with
  | cons r1 r2 => exact .cons (h _ _ r1) (t _ _ r2)
theorem dd_map {R : α → Ty} {e : α → PyData} (h : ∀ x, Dat K (R x) (e x)) : ∀ xs : List α, DD K (xs.map R) (xs.map e)
  | [] => dd_nil
  | x :: xs => dd_cons (h x) (dd_map h xs)
theorem d_b {e : α → PyData} (x : α) : Dat K (tD K e x) (e x) := fun _ _ h => h
theorem d_T {Rs : List Ty} {ds : List PyData} (h : DD K Rs ds) : Dat K (TU K Rs) (.tuple ds) := fun v F ⟨a, vs, e, h1, h2⟩ => by subst e; exact .tup h1 (h _ _ h2)
theorem d_V {R : α → Ty} {e : α → PyData} (h : ∀ x, Dat K (R x) (e x)) (xs : List α) : Dat K (VP K R xs) (eV e xs) := fun v F ⟨a, vs, e0, h1, h2⟩ => by subst e0; exact .tup h1.sq (dd_map h xs _ _ h2)
theorem d_L {R : α → Ty} {e : α → PyData} (h : ∀ x, Dat K (R x) (e x)) (xs : List α) : Dat K (LT K R xs) (eL e xs) := fun v F ⟨a, vs, e0, h1, h2⟩ => by subst e0; exact .lst h1 (dd_map h xs _ _ h2)
abbrev Tad (K : PySem.W.Frag) (R : Ty) (d : PyData) : Prop := ∀ v F, Dp K F v d → R.p v F
def AA (K : PySem.W.Frag) (Rs : List Ty) (ds : List PyData) : Prop := ∀ F vs, DpAll K F vs ds → AllP F Rs vs
theorem aa_nil : AA K [] [] := fun F vs h => by cases h; exact .nil
theorem aa_cons {R : Ty} {Rs : List Ty} {d : PyData} {ds : List PyData} (h : Tad K R d) (t : AA K Rs ds) : AA K (R :: Rs) (d :: ds) := fun F vs r => by
  cases r with
  | cons r1 r2 => exact .cons (h _ _ r1) (t _ _ r2)
theorem aa_map {R : α → Ty} {e : α → PyData} (h : ∀ x, Tad K (R x) (e x)) : ∀ xs : List α, AA K (xs.map R) (xs.map e)
  | [] => aa_nil
  | x :: xs => aa_cons (h x) (aa_map h xs)
theorem u_id {d : PyData} : Tad K (TL.D K d) d := fun _ _ h => h
theorem u_L {R : α → Ty} {e : α → PyData} (h : ∀ x, Tad K (R x) (e x)) (xs : List α) : Tad K (LT K R xs) (eL e xs) := fun v F r => by
  obtain ⟨a, vs, e, h1, h2⟩ := dp_lst r
  exact ⟨a, vs, e, h1, aa_map h xs _ _ h2⟩
end
structure KeyE (κ : Type) where
  f : κ → L2.Key
  inj : ∀ a b, f a = f b → a = b
inductive EntT {κ α : Type} (k : KeyE κ) (R : α → Ty) (F : Hp) : List (L2.Key × V) → List (κ × α) → Prop
  | nil : EntT k R F [] []
  | cons {x : κ} {v : V} {d : α} {kvs : List (L2.Key × V)} {m : List (κ × α)} : (R d).p v F → EntT k R F kvs m → EntT k R F ((k.f x, v) :: kvs) ((x, d) :: m)
section
variable {κ α : Type} [DecidableEq κ] {k : KeyE κ} {R : α → Ty} {F F' : Hp} {kvs : List (L2.Key × V)} {m : List (κ × α)}
omit [DecidableEq κ] in
theorem EntT.mono (h : EntT k R F kvs m) (s : Same F F') : EntT k R F' kvs m := by
  induction h with
  | nil => exact .nil
  | cons h _ ih => exact .cons ((R _).mono s h) ih
omit [DecidableEq κ] in
theorem EntT.len (h : EntT k R F kvs m) : kvs.length = m.length := by
  induction h with
  | nil => rfl
  | cons _ _ ih => simp [ih]
omit [DecidableEq κ] in
theorem EntT.keys (h : EntT k R F kvs m) : kvs.map (·.1) = m.map fun e => k.f e.1 := by
  induction h with
  | nil => rfl
  | cons _ _ ih => simp [ih]
theorem EntT.get (h : EntT k R F kvs m) (x : κ) : (dget m x = none ∧ valV kvs (k.f x) = none) ∨ ∃ d v, dget m x = some d ∧ valV kvs (k.f x) = some v ∧ (R d).p v F := by
  induction h with
  | nil => exact .inl ⟨rfl, rfl⟩
  | @cons x' v d kvs m hd _ ih =>
    by_cases e : x' = x
    · subst e
      exact .inr ⟨d, v, by simp [dget], by simp [valV], hd⟩
    · have e1 : dget ((x', d) :: m) x = dget m x := by simp [dget, e]
      have e2 : valV ((k.f x', v) :: kvs) (k.f x) = valV kvs (k.f x) := valV_neg (fun z => e (k.inj _ _ z))
      rw [e1, e2]
      exact ih
theorem EntT.any (h : EntT k R F kvs m) (x : κ) : (kvs.any fun e => decide (e.1 = k.f x)) = (m.any fun e => decide (e.1 = x)) := by
  induction h with
  | nil => rfl
  | @cons x' v d kvs m _ _ ih =>
    rw [List.any_cons, List.any_cons, ih]
    congr 1
    by_cases e : x' = x
    · subst e; simp
    · have e' : ¬ k.f x' = k.f x := fun z => e (k.inj _ _ z)
      simp [e, e']
omit [DecidableEq κ] in
theorem EntT.snoc (h : EntT k R F kvs m) {x : κ} {v : V} {d : α} (hd : (R d).p v F) : EntT k R F (kvs ++ [(k.f x, v)]) (m ++ [(x, d)]) := by
  induction h with
  | nil => exact .cons hd .nil
  | cons h _ ih => exact .cons h ih
theorem EntT.repl (h : EntT k R F kvs m) {x : κ} {v : V} {d : α} (hd : (R d).p v F) :
    EntT k R F (kvs.map fun e => if e.1 = k.f x then (e.1, v) else e) (m.map fun e => if e.1 = x then (e.1, d) else e) := by
  induction h with
  | nil => exact .nil
  | @cons x' v' d' kvs m h _ ih =>
    rw [List.map_cons, List.map_cons]
    by_cases e : x' = x
    · subst e
      rw [if_pos rfl, if_pos rfl]
      exact .cons hd ih
    · rw [if_neg (fun z => e (k.inj _ _ z)), if_neg e]
      exact .cons h ih
theorem EntT.put (h : EntT k R F kvs m) {x : κ} {v : V} {d : α} (hd : (R d).p v F) : EntT k R F (putK kvs (k.f x) v) (dput m x d) := by
  unfold putK dput
  rw [h.any x]
  split
  · exact h.repl hd
  · exact h.snoc hd
theorem EntT.drop (h : EntT k R F kvs m) (x : κ) : EntT k R F (dropK kvs (k.f x)) (m.filter fun e => decide (e.1 ≠ x)) := by
  induction h with
  | nil => exact .nil
  | @cons x' v' d' kvs m h _ ih =>
    unfold dropK at ih ⊢
    rw [List.filter_cons, List.filter_cons]
    by_cases e : x' = x
    · subst e
      simpa using ih
    · have e' : ¬ k.f x' = k.f x := fun z => e (k.inj _ _ z)
      simp only [ne_eq, e, e', not_false_eq_true, decide_true, if_true]
      exact .cons h ih
end
def ddrop {κ α : Type} [DecidableEq κ] (m : List (κ × α)) (x : κ) : List (κ × α) := m.filter fun e => decide (e.1 ≠ x)
section
variable {K : PySem.W.Frag} {ε ε' ρ α β γ δ S τ τ' σt ω κ : Type} [DecidableEq κ] {X : L2.St → XK} {De : ε → Own} {G G1 G2 : Sto} {D0 : Own} {Dd : S → Own} {s : S} {te ta tb tc tx : TE} {tt tu : TT} {F0 F1 : Hp} {E : Ends} {w : Wish K ε ρ} {t : TA} {n : Nat} {k : KeyE κ} {Rk : κ → Ty} {Rv : β → Ty}
variable {R : α → Ty} {f : α → List (κ × β)} {Ma : (α → S → Res ε δ) → Res ε δ} {Mb : S → (κ → S → Res ε δ) → Res ε δ}
end
end TL
end
section
set_option Elab.async false
set_option linter.all false
set_option maxRecDepth 100000
set_option maxHeartbeats 1000000
namespace TL
open PySem PySem.Spec L2
theorem puT_up {K : PySem.W.Frag} {D : Own} {H F : Hp} {a : Addr} {vs : List V} (hs : HS D H F) (h : PuT K F a vs) : PuT K H a vs := h.up hs.sub
section
variable {K : PySem.W.Frag} {ε ε' ρ α β γ δ S τ τ' σt ω κ : Type} {X : L2.St → XK} {De : ε → Own} {G G1 G2 : Sto} {D0 : Own} {Dd : S → Own} {s : S} {te ta tb tc tx : TE} {tt tu : TT} {F0 F1 : Hp} {E : Ends} {w : Wish K ε ρ} {t : TA} {n : Nat}
theorem go_frzLT {P : L2.St → Hp → Prop} {k i : Nat} {a : Addr} {R : α → Ty} {xs : List α} (hk : D0[k]? = some (a, OLT R xs)) (hi : G[i]? = some (some (Is (.ref a)))) (h : Go P F0 (G.set i (some (LT K R xs))) (D0.eraseIdx k)) : Go P F0 G D0 := fun σ H F s hs ss => by
  obtain ⟨o, ⟨vs, e0, hx⟩, hs2, s2⟩ := hs.freeze hk
  subst e0
  obtain ⟨v, e1, e2⟩ := ss.get hi
  have ev : v = .ref a := e2
  subst ev
  have z := (ss.mono s2).set (R := LT K R xs) (v := .ref a) ⟨a, vs, rfl, SqL.of upd_same, hx.mono s2⟩ i
  rw [set_get e1] at z
  exact h σ H _ (s.trans s2) hs2 z
theorem evc_tupT {Rs : γ → List Ty} {g : τ → γ} {M : (τ → S → Res ε δ) → Res ε δ} (h : EvAC K X De t G Dd s M (fun t => Rs (g t))) (hn : ∀ x, (Rs x).length = n) (hl : n ≤ 100000 := by decide) : EvC K X De (tTupP t) G Dd s (fun kk => M fun t s1 => kk (g t) s1) (fun x => TU K (Rs x)) := fun kk σ H F hs ss o r Q hm q qe =>
  h _ σ H F hs ss o r _ hm (fun t s1 vs H1 F1 t1 hs1 r1 hm1 => ⟨by rw [r1.len, hn]; exact Nat.le_trans hl sizeLine_big, fun p ob hp hd => by
    have s2 : Same F1 (upd F1 p (.frz ob (.tup vs))) := same_new (hs1.free hp)
    exact q (g t) s1 _ _ _ (t1.trans s2) (hs1.frz hp) ⟨p, vs, rfl, .inl (.inr ⟨ob, upd_same⟩), r1.mono s2⟩ hm1⟩) qe
theorem evc_tupVp {R : α → Ty} {M : (List α → S → Res ε δ) → Res ε δ} (h : EvAL K X De t G Dd s n M R) (hl : n ≤ 100000 := by decide) : EvC K X De (tTupP t) G Dd s M (VP K R) := fun kk σ H F hs ss o r Q hm q qe =>
  h _ σ H F hs ss o r _ hm (fun xs s1 vs H1 F1 l1 t1 hs1 r1 hm1 => ⟨by rw [r1.len, List.length_map, l1]; exact Nat.le_trans hl sizeLine_big, fun p ob hp hd => by
    have s2 : Same F1 (upd F1 p (.frz ob (.tup vs))) := same_new (hs1.free hp)
    exact q xs s1 _ _ _ (t1.trans s2) (hs1.frz hp) ⟨p, vs, rfl, .inl ⟨ob, upd_same, hd⟩, r1.mono s2⟩ hm1⟩) qe
theorem evc_mkQP {M : ((Int × Int × Unit) → S → Res ε δ) → Res ε δ} (h : EvAC K X De t G Dd s M (fun t => tD K eI t.1 :: tD K eI t.2.1 :: [])) : EvC K X De (tTupP t) G Dd s (fun kk => M fun t s1 => Res.bind (Res.opt (mkQ t.1 t.2.1)) fun z => kk z s1) (tD K eQ) := fun kk σ H F hs ss o r Q hm q qe =>
  h _ σ H F hs ss o r _ hm (fun t s1 vs H1 F1 t1 hs1 r1 hm1 => ⟨by rw [r1.len]; exact Nat.le_trans (by decide : 2 ≤ 100000) sizeLine_big, fun p ob hp hd => by
    obtain ⟨z, e, hm2⟩ := Res.sat_opt hm1
    have s2 : Same F1 (upd F1 p (.frz ob (.tup vs))) := same_new (hs1.free hp)
    obtain ⟨e1, e2⟩ := mkQ_some e
    refine q z s1 _ _ _ (t1.trans s2) (hs1.frz hp) (.tup (.inl (.inr ⟨ob, upd_same⟩)) ?_) hm2
    have r2 := dpAll_mono s2 [.int t.1, .int t.2.1] vs (allP_dp (ds := [.int t.1, .int t.2.1]) r1)
    rw [e1, e2]
    exact r2⟩) qe
theorem evc_ixT {Rs : α → List Ty} {R' : β → Ty} {f : α → β} {i : Int} {Ma : (α → S → Res ε δ) → Res ε δ} (ha : EvC K X De ta G Dd s Ma (fun x => TU K (Rs x))) (he : ∀ x, atI (Rs x) i = some (R' (f x))) :
    EvC K X De (tOp (rIx K) ta (tC (.int i))) G Dd s (fun kk => Ma fun x s1 => kk (f x) s1) R' := fun kk σ H F hs ss o r Q hm q qe =>
  ha _ σ H F hs ss o r _ hm (fun x s1 v H1 F1 t1 hs1 r1 hm1 => by
    obtain ⟨a, vs, rfl, h1, h2⟩ := r1
    have e := he x
    unfold atI at e
    rw [← h2.len] at e
    obtain ⟨j, ej, eg⟩ := Option.bind_eq_some_iff.mp e
    obtain ⟨u, hu, ru⟩ := h2.get eg
    exact .inr (.inl ⟨a, vs, i, u, rfl, rfl, sqT_up hs1 h1, by unfold atI; rw [ej]; exact hu, q (f x) s1 u H1 F1 t1 hs1 ru hm1⟩)) qe
def EvGsT (g : TGs) (G : Sto) (Rs : List Ty) (G1 : Sto) : Prop := ∀ (vs : List V) (σ : L2.St) (H F : Hp) (D : Own), HS D H F → SS F G σ → AllP F Rs vs → ∀ Q : L2.St → Hp → Prop, (∀ σ', SS F G1 σ' → Q σ' H) → g vs σ H Q
theorem evGsT_nil : EvGsT gNil G [] G := fun vs σ H F D hs ss r Q q => by
  cases r
  exact ⟨rfl, q _ ss⟩
theorem evGsT_cons {g : TG} {gs : TGs} {R : Ty} {Rs : List Ty} (h1 : EvG g G R G1) (h2 : EvGsT gs G1 Rs G2) : EvGsT (gCons g gs) G (R :: Rs) G2 := fun vs σ H F D hs ss r Q q => by
  cases r with
  | cons r1 r2 => exact ⟨_, _, rfl, h1 _ σ H F D hs ss r1 _ fun σ' ss' => h2 _ σ' H F D hs ss' r2 Q q⟩
theorem evG_tupT {gs : TGs} {Rs : List Ty} {n : Nat} (h : EvGsT gs G Rs G1) (hn : Rs.length = n) : EvG (gTup K n gs) G (TU K Rs) G1 := fun v σ H F D hs ss r Q q => by
  obtain ⟨a, vs, rfl, h1, h2⟩ := r
  exact ⟨a, vs, rfl, sqT_up hs h1, by rw [h2.len]; exact hn, h vs σ H F D hs ss h2 Q q⟩
theorem sv_P {Re : α → Ty} : SView K Dd (VP K Re) id Re := fun x s v H F hs ⟨a, vs, e, h1, h2⟩ => ⟨a, vs, e, .inr (puT_up hs h1).sq, h2⟩
theorem evItc_l {R : α → Ty} {M : (List α → S → Res ε δ) → Res ε δ} (h : EvC K X De te G Dd s M (LT K R)) : EvItC K X De (iSeq K te) G Dd s (fun _ => True) M R := evItc_LT h fun _ _ _ r => r
theorem evItc_p {R : α → Ty} {M : (List α → S → Res ε δ) → Res ε δ} (h : EvC K X De te G Dd s M (VP K R)) : EvItC K X De (iSeq K te) G Dd s (fun _ => True) M R := evItc_VT h fun _ _ _ ⟨a, vs, e, h1, h2⟩ => ⟨a, vs, e, h1.sq, h2⟩
theorem evc_tupOf {R : α → Ty} {f : α → List β} {Re : β → Ty} {M : (α → S → Res ε δ) → Res ε δ} (h : EvC K X De te G Dd s M R) (hv : ∀ x s v H F, HS (Dd s) H F → (R x).p v F → ∃ a vs, v = .ref a ∧ (SqL K H a vs ∧ AllP F ((f x).map Re) vs ∨ SqT K H a vs ∧ (VP K Re (f x)).p v F)) :
    EvC K X De (tCB (cTupP K) (tCons te tNil)) G Dd s (fun kk => M fun x s1 => kk (f x) s1) (VP K Re) := fun kk σ H F hs ss o r Q hm q qe =>
  h _ σ H F hs ss o r _ hm (fun xs s1 v H1 F1 t1 hs1 r1 hm1 => by
    obtain ⟨a, vs, e0, h1⟩ := hv xs s1 v H1 F1 hs1 r1
    subst e0
    rcases h1 with ⟨h1, h2⟩ | ⟨h1, h2⟩
    · refine ⟨a, vs, rfl, .inl ⟨h1, fun l ob hl hd => ?_⟩⟩
      have s2 : Same F1 (upd F1 l (.frz ob (.tup vs))) := same_new (hs1.free hl)
      exact q _ s1 _ _ _ (t1.trans s2) (hs1.frz hl) ⟨l, vs, rfl, .inl ⟨ob, upd_same, hd⟩, h2.mono s2⟩ hm1
    · exact ⟨a, vs, rfl, .inr ⟨h1, q _ s1 _ H1 F1 t1 hs1 h2 hm1⟩⟩) qe
theorem tv_l {Re : α → Ty} : ∀ x s v H F, HS (Dd s) H F → (LT K Re x).p v F → ∃ a vs, v = .ref a ∧ (SqL K H a vs ∧ AllP F ((id x).map Re) vs ∨ SqT K H a vs ∧ (VP K Re (id x)).p v F) := fun x s v H F hs ⟨a, vs, e, h1, h2⟩ => ⟨a, vs, e, .inl ⟨sqL_up hs h1, h2⟩⟩
theorem evc_slP {Re : α → Ty} {Ma : (List α → S → Res ε δ) → Res ε δ} {Ml Mh : S → (Option Int → S → Res ε δ) → Res ε δ} {tl th : TO} (ha : EvC K X De te G Dd s Ma (VP K Re)) (hl : ∀ s1, EvOC K X De tl G Dd s1 (Ml s1)) (hh : ∀ s1, EvOC K X De th G Dd s1 (Mh s1)) :
    EvC K X De (tSl (rSlP K) te tl th) G Dd s (fun kk => Ma fun a s1 => Ml s1 fun lo s2 => Mh s2 fun hi s3 => kk (cutL a lo hi) s3) (VP K Re) := fun kk σ H F hs ss o r Q hm q qe =>
  ha _ σ H F hs ss o r _ hm (fun a s1 v H1 F1 t1 hs1 r1 hm1 => hl s1 _ σ H1 F1 hs1 (ss.mono t1) o r _ hm1 (fun lo s2 H2 F2 t2 hs2 hm2 => hh s2 _ σ H2 F2 hs2 ((ss.mono t1).mono t2) o r _ hm2 (fun hi s3 H3 F3 t3 hs3 hm3 => by
    obtain ⟨p, vs, e0, h1, h2⟩ := (VP K Re a).mono (t2.trans t3) r1
    have hc := allP_cut h2 lo hi
    refine ⟨p, vs, e0, (puT_up hs3 h1).sq, fun hw => ?_, fun hw u ob hu hd => ?_⟩
    · have ec : cutV vs lo hi = vs := by
        unfold cutV
        rw [hw.1, hw.2]
        simp
      rw [ec] at hc
      exact q _ s3 _ H3 F3 ((t1.trans t2).trans t3) hs3 ⟨p, vs, rfl, h1, hc⟩ hm3
    · have s4 : Same F3 (upd F3 u (.frz ob (.tup (cutV vs lo hi)))) := same_new (hs3.free hu)
      exact q _ s3 _ _ _ (((t1.trans t2).trans t3).trans s4) (hs3.frz hu) ⟨u, _, rfl, .inl ⟨ob, upd_same, hd⟩, hc.mono s4⟩ hm3)
    (fun n e h H3 F3 t3 => qe n e h H3 F3 ((t1.trans t2).trans t3))) (fun n e h H2 F2 t2 => qe n e h H2 F2 (t1.trans t2))) qe
theorem evc_catLT {R : α → Ty} {Ma : (List α → S → Res ε δ) → Res ε δ} {Mb : S → (List α → S → Res ε δ) → Res ε δ} (ha : EvC K X De ta G Dd s Ma (LT K R)) (hb : ∀ s1, EvC K X De tb G Dd s1 (Mb s1) (LT K R)) :
    EvC K X De (tOp (qAddS K) ta tb) G Dd s (fun kk => Ma fun a s1 => Mb s1 fun b s2 => Res.bind (Res.grd (a.length + b.length ≤ 100000) (a ++ b)) fun z => kk z s2) (LT K R) :=
  evc2g ha hb fun a b s2 x y H F c hs rx ry Q q => by
    obtain ⟨p, xs, rfl, h1, h2⟩ := rx
    obtain ⟨p', ys, rfl, h3, h4⟩ := ry
    have l2 := h2.len
    have l4 := h4.len
    rw [List.length_map] at l2 l4
    refine .inr (.inl ⟨p, p', xs, ys, rfl, rfl, sqL_up hs h1, sqL_up hs h3, by rw [l2, l4]; exact Nat.le_trans c sizeLine_big, fun u hu => ?_⟩)
    have s4 : Same F (upd F u (.lst (xs ++ ys))) := same_new (hs.free hu)
    exact q _ _ _ s4 (hs.frz hu) ⟨u, _, rfl, SqL.of upd_same, allP_app (h2.mono s4) (h4.mono s4)⟩
theorem evc_catP {R : α → Ty} {Ma : (List α → S → Res ε δ) → Res ε δ} {Mb : S → (List α → S → Res ε δ) → Res ε δ} (ha : EvC K X De ta G Dd s Ma (VP K R)) (hb : ∀ s1, EvC K X De tb G Dd s1 (Mb s1) (VP K R)) :
    EvC K X De (tOp (qAddS K) ta tb) G Dd s (fun kk => Ma fun a s1 => Mb s1 fun b s2 => Res.bind (Res.grd (a.length + b.length ≤ 100000) (a ++ b)) fun z => kk z s2) (VP K R) :=
  evc2g ha hb fun a b s2 x y H F c hs rx ry Q q => by
    obtain ⟨p, xs, rfl, h1, h2⟩ := rx
    obtain ⟨p', ys, rfl, h3, h4⟩ := ry
    have l2 := h2.len
    have l4 := h4.len
    rw [List.length_map] at l2 l4
    refine .inr (.inr ⟨p, p', xs, ys, rfl, rfl, (puT_up hs h1).sq, (puT_up hs h3).sq, by rw [l2, l4]; exact Nat.le_trans c sizeLine_big, fun hx => ?_, fun hy hx => ?_, fun hy hx u ob hu hd => ?_⟩)
    · subst hx
      exact q _ H F (Same.refl _) hs ⟨p', ys, rfl, h3, by have z := allP_app h2 h4; simpa using z⟩
    · subst hy
      exact q _ H F (Same.refl _) hs ⟨p, xs, rfl, h1, by have z := allP_app h2 h4; simpa using z⟩
    · have s4 : Same F (upd F u (.frz ob (.tup (xs ++ ys)))) := same_new (hs.free hu)
      exact q _ _ _ s4 (hs.frz hu) ⟨u, _, rfl, .inl ⟨ob, upd_same, hd⟩, allP_app (h2.mono s4) (h4.mono s4)⟩
end
end TL
end
section
set_option Elab.async false
set_option linter.all false
set_option maxRecDepth 100000
set_option maxHeartbeats 1000000
namespace TL
open PySem PySem.Spec L2
section
variable {K : PySem.W.Frag} {ε ε' ρ α β γ δ S τ τ' σt ω κ : Type} {X : L2.St → XK} {De : ε → Own} {G G1 G2 : Sto} {D0 : Own} {Dd : S → Own} {s : S} {te ta tb tc tx : TE} {tt tu : TT} {F0 F1 : Hp} {E : Ends} {w : Wish K ε ρ} {t : TA} {n : Nat}
variable [DecidableEq κ] {k : KeyE κ} {Rk : κ → Ty} {Rv : β → Ty}
end
end TL
end
section
set_option Elab.async false
set_option linter.all false
set_option maxRecDepth 100000
set_option maxHeartbeats 1000000
namespace TL
open PySem PySem.Spec L2
section
variable {X : Cx} {o e f : Expr} {apos cpos : Pos} {td ty tx : TE} {pins : List (Addr × Obj)} {σ : L2.St} {H : Hp} {s : Shared} {a b : Addr} {kvs more : List (L2.Key × V)} {A : Around} {E : Value → Shared → Prop}
end
mutual
inductive DpP (K : PySem.W.Frag) : V → PyData → Prop
  | non : DpP K .non .none
  | bl (b : Bool) : DpP K (.bl b) (.bool b)
  | int (i : Int) : DpP K (.int i) (.int i)
  | str (x : Str) : DpP K (.str x) (.str x)
  | lst {a : Addr} {xs : List V} {ds : List PyData} : (∀ H, SqL K H a xs) → DpPs K xs ds → DpP K (.ref a) (.list ds)
  | tup {a : Addr} {xs : List V} {ds : List PyData} : (∀ H, PuT K H a xs) → DpPs K xs ds → DpP K (.ref a) (.tuple ds)
inductive DpPs (K : PySem.W.Frag) : List V → List PyData → Prop
  | nil : DpPs K [] []
  | cons {v : V} {d : PyData} {vs : List V} {ds : List PyData} : DpP K v d → DpPs K vs ds → DpPs K (v :: vs) (d :: ds)
end
mutual
def dataPB (K : PySem.W.Frag) (v : Value) : PyData → Bool
  | .none => (match v with
    | .none => true
    | _ => false)
  | .bool b => (match v with
    | .bool c => b == c
    | _ => false)
  | .int i => (match v with
    | .int j _ => decide (j = i)
    | _ => false)
  | .str x => (match v with
    | .str y _ => decide (y = x)
    | _ => false)
  | .tuple ds => (match v with
    | .ref a => (match K.lookup a with
      | some o => (match o.data with
        | .seq its _ => decide (o.cls = .type "tuple") && (o.dict.isNone && (decide (its.size ≤ sizeLine) && dataPAll K its.toList ds))
        | _ => false)
      | none => false)
    | _ => false)
  | .list ds => (match v with
    | .ref a => (match K.lookup a with
      | some o => (match o.data with
        | .seq its _ => decide (o.cls = .type "list") && (o.dict.isNone && (decide (its.size ≤ sizeLine) && dataPAll K its.toList ds))
        | _ => false)
      | none => false)
    | _ => false)
  | .dict _ => false
def dataPAll (K : PySem.W.Frag) (vs : List Value) : List PyData → Bool
  | [] => vs.isEmpty
  | d :: ds => (match vs with
    | [] => false
    | v :: vs => dataPB K v d && dataPAll K vs ds)
end
mutual
theorem dataPB_ok {K : PySem.W.Frag} : ∀ (d : PyData) (v : Value), dataPB K v d = true → ∃ x, RelV x v ∧ DpP K x d
  | .none, v, h => by
    unfold dataPB at h
    split at h
    · exact ⟨.non, rfl, .non⟩
    · cases h
  | .bool b, v, h => by
    unfold dataPB at h
    split at h
    · have e := eq_of_beq h
      subst e
      exact ⟨.bl _, rfl, .bl _⟩
    · cases h
  | .int i, v, h => by
    unfold dataPB at h
    split at h
    · have e := of_decide_eq_true h
      subst e
      exact ⟨.int _, ⟨_, rfl⟩, .int _⟩
    · cases h
  | .str x, v, h => by
    unfold dataPB at h
    split at h
    · have e := of_decide_eq_true h
      subst e
      exact ⟨.str _, ⟨_, rfl⟩, .str _⟩
    · cases h
  | .tuple ds, v, h => by
    unfold dataPB at h
    split at h
    · rename_i a
      split at h
      · rename_i o ho
        split at h
        · rename_i its n hd
          simp only [Bool.and_eq_true, decide_eq_true_eq, Option.isNone_iff_eq_none] at h
          obtain ⟨h1, h0, h2, h3⟩ := h
          obtain ⟨xs, hv, hx⟩ := dataPAll_ok ds its.toList h3
          exact ⟨.ref a, rfl, .tup (fun H => .inr ⟨o, its, n, ho, h1, h0, hd, h2, hv⟩) hx⟩
        · cases h
      · cases h
    · cases h
  | .list ds, v, h => by
    unfold dataPB at h
    split at h
    · rename_i a
      split at h
      · rename_i o ho
        split at h
        · rename_i its n hd
          simp only [Bool.and_eq_true, decide_eq_true_eq, Option.isNone_iff_eq_none] at h
          obtain ⟨h1, h0, h2, h3⟩ := h
          obtain ⟨xs, hv, hx⟩ := dataPAll_ok ds its.toList h3
          exact ⟨.ref a, rfl, .lst (fun H => .inr ⟨o, its, n, ho, h1, h0, hd, h2, hv⟩) hx⟩
        · cases h
      · cases h
    · cases h
  | .dict _, v, h => by
    unfold dataPB at h
    cases h
theorem dataPAll_ok {K : PySem.W.Frag} : ∀ (ds : List PyData) (vs : List Value), dataPAll K vs ds = true → ∃ xs, Vals xs vs ∧ DpPs K xs ds
  | [], vs, h => by
    unfold dataPAll at h
    cases vs with
    | nil => exact ⟨[], .nil, .nil⟩
    | cons => cases h
  | d :: ds, vs, h => by
    unfold dataPAll at h
    cases vs with
    | nil => cases h
    | cons v vs =>
      simp only [Bool.and_eq_true] at h
      obtain ⟨x, h1, h2⟩ := dataPB_ok d v h.1
      obtain ⟨xs, h3, h4⟩ := dataPAll_ok ds vs h.2
      exact ⟨x :: xs, .cons h1 h3, .cons h2 h4⟩
end
section
variable {K : PySem.W.Frag} {α β : Type}
end
section
variable {K : PySem.W.Frag} {ε ε' ρ α β γ δ S τ τ' σt ω κ : Type} {X : L2.St → XK} {De : ε → Own} {G G1 G2 : Sto} {D0 : Own} {Dd : S → Own} {s : S} {te ta tb tc tx : TE} {tt tu : TT} {F0 F1 : Hp} {E : Ends} {w : Wish K ε ρ} {t : TA} {n : Nat} {Rv : β → Ty} {k : KeyE κ} {Rk : κ → Ty}
variable [DecidableEq κ]
omit [DecidableEq κ] in
theorem evc_neOT [DecidableEq α] {e : α → PyData} {R : α → Ty} {m i j : Nat} {a : Addr} {xs : List α} {Mb : (List α → S → Res ε δ) → Res ε δ} (he : Enc (eL e) m) (hd : ∀ x, Dat K (R x) (e x)) (hi : G[i]? = some (some (Is (.ref a)))) (hk : ∀ s, (Dd s)[j]? = some (a, OLT R xs)) (hb : EvC K X De tb G Dd s Mb (tD K (eL e))) (hn : m ≤ 64 := by decide) :
    EvC K X De (tOp (qNe K) (tVar i) tb) G Dd s (fun kk => Mb fun b s2 => kk (!decide (xs = b)) s2) (tD K eB) := fun kk σ H F hs ss o r Q hm q qe => by
  obtain ⟨v, e1, e2⟩ := ss.get hi
  have ev : v = .ref a := e2
  subst ev
  refine ⟨_, e1, hb _ σ H F hs ss o r _ hm (fun b s2 y H2 F2 t2 hs2 r2 hm2 => ?_) qe⟩
  obtain ⟨o1, ho, vs, rfl, hx⟩ := hs2.at (hk s2)
  refine .inr ⟨eL e xs, eL e b, .lst (SqL.of ho) (dpAll_mono hs2.sub _ vs (dd_map hd xs _ _ hx)), dp_up hs2 r2, he.shaped hn xs, he.shaped hn b, ?_⟩
  rw [he.eq]
  exact q _ s2 _ H2 F2 t2 hs2 (.bl _) hm2
end
theorem pure_ofLawT {K : PySem.W.Frag} {N : List Str} {tf : TS} {mf : List Int → Res Unit Bool} (htrue : ∀ ns : List Int, ns.length ≤ 63 → mf ns = .ok true) {vs : List V} {H : Hp} {Q : VK} {X : XK}
    (walk : ∀ (x : List Int) (F : Hp) (D : Own) (E : Ends), E.rt = Q → (∀ (K : PySem.W.Frag) G D1, GoV Q F (DN K) D1 → Go E.nx F G D1) → (dwish K X Q (fun r : Bool => .ok (tD K eB r)) (fun _ => D) (fun _ : Unit => D)).W F (mf x) → Go (tf E) F (some (LT K (tD K eI) x) :: List.replicate (N.length - 1) none) D)
    (h : lawSp K vs H Q X) : tf { nx := fun _ H' => Q .non H', rt := Q } (L2.start N vs) H :=
  pure_ofLaw htrue (fun x F D E hrt hnx hP => (walk x F D E hrt hnx hP).weak (SLe.imp (fun v F h => u_L (fun _ => u_id) x v F h) (SLe.refl _)) (List.Sublist.refl _)) h
abbrev T2 (K : PySem.W.Frag) {α β : Type} (r0 : α → Ty) (r1 : β → Ty) (x : α × β) : Ty := TU K [r0 x.1, r1 x.2]
abbrev T3 (K : PySem.W.Frag) {α β γ : Type} (r0 : α → Ty) (r1 : β → Ty) (r2 : γ → Ty) (x : α × β × γ) : Ty := TU K [r0 x.1, r1 x.2.1, r2 x.2.2]
end TL
end
section
set_option Elab.async false
set_option linter.all false
set_option maxRecDepth 100000
set_option maxHeartbeats 1000000
namespace TL
open PySem PySem.Spec L2
section
variable {K : PySem.W.Frag} {ε ε' ρ α β γ δ S τ τ' σt ω κ : Type} {X : L2.St → XK} {De : ε → Own} {G G1 G2 : Sto} {D0 : Own} {Dd : S → Own} {s : S} {te ta tb tc tx : TE} {tt tu : TT} {F0 F1 : Hp} {E : Ends} {w : Wish K ε ρ} {t : TA} {n : Nat}
abbrev TyV {S α : Type} (K : PySem.W.Frag) (Dd : S → Own) (R : α → Ty) (own : String) : Prop := ∀ x s v H F, HS (Dd s) H F → (R x).p v F → TyX K H v (.type own)
theorem tyT {H : Hp} {a : Addr} {vs : List V} (h : SqT K H a vs) : TyX K H (.ref a) (.type "tuple") := by
  rcases h with (h1 | ⟨o, h1⟩) | ⟨_, _, _, h1, h2, _⟩
  · exact .base (.tup h1)
  · exact .fTuple h1
  · exact .kTuple h1 h2
theorem ty_V {R : α → Ty} : TyV K Dd (VP K R) "tuple" := fun x s v H F hs ⟨a, vs, e, h1, _⟩ => by subst e; exact tyT (puT_up hs h1).sq
theorem ty_d {e : α → PyData} {own : String} (h : ∀ x, tyN (e x) = own) : TyV K Dd (tD K e) own := fun x s v H F hs r => by rw [← h x]; exact tyX_of (dp_up hs r)
theorem ty_OL {j : Nat} {a : Addr} {R : α → Ty} {xs : List α} (hk : ∀ s, (Dd s)[j]? = some (a, OLT R xs)) : TyV K Dd (fun _ : Unit => Is (.ref a)) "list" := fun x s v H F hs r => by
  obtain ⟨o, ho, vs, rfl, _⟩ := hs.at (hk s)
  have e : v = .ref a := r
  subst e
  exact .base (.lst ho)
theorem evc_isiG {n own : String} {b : Bool} {R : α → Ty} {M : (α → S → Res ε δ) → Res ε δ} (h : EvC K X De te G Dd s M R) (ty : TyV K Dd R own) (k : kitB own n = some b) : EvC K X De (tCB (cIsi K) (tCons te (tCons (tC (.ty n)) tNil))) G Dd s (fun kk => M fun _ s1 => kk b s1) (tD K eB) := fun kk σ H F hs ss o r Q hm q qe =>
  h _ σ H F hs ss o r _ hm (fun y s1 v H1 F1 t1 hs1 r1 hm1 => .inl ⟨v, .ty n, _, _, b, rfl, .ty n, ty y s1 v H1 F1 hs1 r1, kit_ty k, q b s1 _ H1 F1 t1 hs1 (.bl _) hm1⟩) qe
end
end TL
end
section
set_option Elab.async false
set_option linter.all false
set_option maxRecDepth 100000
set_option maxHeartbeats 1000000
namespace TL
open PySem PySem.Spec L2
structure FlatE (K : PySem.W.Frag) {β : Type} [DecidableEq β] (Re : β → Ty) where
  g : β → V
  hg : ∀ x v F, (Re x).p v F → v = g x
  hf : ∀ x, flatV (g x) = true
  he : ∀ x y, eqV (g x) (g y) = decide (x = y)
def fl_B {K : PySem.W.Frag} : FlatE K (tD K eB) := ⟨fun x => .bl x, fun x v F r => dp_bl r, fun _ => rfl, fun x y => by cases x <;> cases y <;> rfl⟩
section
variable {K : PySem.W.Frag} {ε ε' ρ α β γ δ S τ τ' σt ω κ : Type} {X : L2.St → XK} {De : ε → Own} {G G1 G2 : Sto} {D0 : Own} {Dd : S → Own} {s : S} {te ta tb tc tx : TE} {tt tu : TT} {F0 F1 : Hp} {E : Ends} {w : Wish K ε ρ} {t : TA} {n : Nat}
theorem flat_all_of [DecidableEq β] {Re : β → Ty} (fl : FlatE K Re) {F : Hp} : ∀ {xs : List β} {vs : List V}, AllP F (xs.map Re) vs → vs = xs.map fl.g
  | [], _, h => by cases h; rfl
  | x :: xs, _, h => by
    cases h with
    | cons h1 h2 => rw [List.map_cons, ← flat_all_of fl h2, ← fl.hg _ _ _ h1]
theorem inV_flat [DecidableEq β] {Re : β → Ty} (fl : FlatE K Re) (x : β) (xs : List β) : inV (fl.g x) (xs.map fl.g) = decide (x ∈ xs) := by
  unfold inV
  induction xs with
  | nil => rfl
  | cons y ys ih =>
    rw [List.map_cons, List.any_cons, ih, fl.he]
    by_cases h : y = x
    · subst h; simp
    · have h' : ¬ x = y := fun z => h z.symm
      simp [h, h']
theorem evc_inG [DecidableEq β] {Re : β → Ty} {R : α → Ty} {f : α → List β} {Ma : (β → S → Res ε δ) → Res ε δ} {Mb : S → (α → S → Res ε δ) → Res ε δ} (fl : FlatE K Re) (hv : SView K Dd R f Re) (ha : EvC K X De ta G Dd s Ma Re) (hb : ∀ s1, EvC K X De tb G Dd s1 (Mb s1) R) : EvC K X De (tOp (rIn K false) ta tb) G Dd s (fun kk => Ma fun a s1 => Mb s1 fun b s2 => kk (decide (a ∈ f b)) s2) (tD K eB) :=
  evc2 ha hb fun a b s2 x y H F hs rx ry Q q => by
    obtain ⟨p, vs, rfl, h1, h2⟩ := hv b s2 y H F hs ry
    have e := flat_all_of fl h2
    subst e
    refine ⟨p, _, rfl, h1, by rw [fl.hg _ _ _ rx]; exact fl.hf _, by rw [List.all_eq_true]; intro z hz; obtain ⟨u, _, eu⟩ := List.mem_map.mp hz; rw [← eu]; exact fl.hf _, ?_⟩
    have e : inV x ((f b).map fl.g) = decide (a ∈ f b) := by rw [fl.hg _ _ _ rx, inV_flat]
    simp only [e]
    exact q _ H F (Same.refl _) hs (.bl _)
end
end TL
end
section
set_option Elab.async false
set_option linter.all false
set_option maxRecDepth 100000
set_option maxHeartbeats 1000000
namespace TL
open PySem PySem.Spec L2
inductive DEn (K : PySem.W.Frag) (H : Hp) : List (L2.Key × V) → List (L2.Key × PyData) → Prop
  | nil : DEn K H [] []
  | cons {k : L2.Key} {v : V} {d : PyData} {ks : List (L2.Key × V)} {es : List (L2.Key × PyData)} : L2.Dp K H v d → SeqAt.shaped d = true → DEn K H ks es → DEn K H ((k, v) :: ks) ((k, d) :: es)
def dval (es : List (L2.Key × PyData)) (k : L2.Key) : Option PyData := (es.find? fun e => decide (e.1 = k)).map (·.2)
def deqD (xs ys : List (L2.Key × PyData)) : Bool := xs.length == ys.length && xs.all fun p => match dval ys p.1 with
  | none => false
  | some y => PyData.eqv p.2 y
theorem DEn.len {K : PySem.W.Frag} {H : Hp} {ks : List (L2.Key × V)} {es : List (L2.Key × PyData)} (h : DEn K H ks es) : ks.length = es.length := by
  induction h with
  | nil => rfl
  | cons _ _ _ ih => simp [ih]
theorem DEn.val {K : PySem.W.Frag} {H : Hp} {ks : List (L2.Key × V)} {es : List (L2.Key × PyData)} (h : DEn K H ks es) (k : L2.Key) : (valV ks k = none ∧ dval es k = none) ∨ ∃ v d, valV ks k = some v ∧ dval es k = some d ∧ L2.Dp K H v d ∧ SeqAt.shaped d = true := by
  induction h with
  | nil => exact .inl ⟨rfl, rfl⟩
  | @cons k' v d ks es h1 h2 _ ih =>
    by_cases e : k' = k
    · exact .inr ⟨v, d, by simp [valV, e], by simp [dval, e], h1, h2⟩
    · rw [valV_neg (p := (k', v)) e, show dval ((k', d) :: es) k = dval es k by simp [dval, e]]
      exact ih
section
variable {X : Cx} {pins : List (Addr × Obj)} {σ : L2.St} {H : Hp} {s : Shared}
end
section
variable {K : PySem.W.Frag} {ε ε' ρ α β γ δ S τ τ' σt ω κ : Type} [DecidableEq κ] {X : L2.St → XK} {De : ε → Own} {G G1 G2 : Sto} {D0 : Own} {Dd : S → Own} {s : S} {te ta tb tc tx : TE} {tt tu : TT} {F0 F1 : Hp} {E : Ends} {w : Wish K ε ρ} {t : TA} {n : Nat} {k : KeyE κ} {Rk : κ → Ty} {Rv : β → Ty}
omit [DecidableEq κ] in
theorem EntT.den {e : β → PyData} {m : Nat} {F H : Hp} {D : Own} (hs : HS D H F) (he : Enc e m) (hn : m ≤ 64) (hd : ∀ x, Dat K (Rv x) (e x)) {kvs : List (L2.Key × V)} {ms : List (κ × β)} (h : EntT k Rv F kvs ms) : DEn K H kvs (ms.map fun p => (k.f p.1, e p.2)) := by
  induction h with
  | nil => exact .nil
  | cons h _ ih => exact .cons (dp_up hs (hd _ _ _ h)) (he.shaped hn _) ih
variable {R : α → Ty} {R' : γ → Ty} {f : α → List (κ × β)} {f' : γ → List (κ × β)} {Ma : (α → S → Res ε δ) → Res ε δ} {Mb : S → (γ → S → Res ε δ) → Res ε δ}
end
end TL
end
section
set_option Elab.async false
set_option linter.all false
set_option maxRecDepth 100000
set_option maxHeartbeats 1000000
namespace TL
open PySem PySem.Spec L2
section
variable {K : PySem.W.Frag} {ε ε' ρ α β γ δ S τ τ' σt ω κ Ω : Type} [DecidableEq κ] {X : L2.St → XK} {De : ε → Own} {G G1 G2 : Sto} {D0 : Own} {Dd : S → Own} {s : S} {te ta tb tc tx : TE} {tt tu : TT} {F0 F1 : Hp} {E : Ends} {w : Wish K ε ρ} {t : TA} {n : Nat} {k : KeyE κ} {Rk : κ → Ty} {Rv : β → Ty}
end
end TL
end
section
set_option Elab.async false
set_option linter.all false
set_option maxRecDepth 100000
set_option maxHeartbeats 1000000
namespace TL
open PySem PySem.Spec L2
section
variable {K : PySem.W.Frag} {ε ε' ρ α β γ δ S τ τ' σt ω κ Ω : Type} {X : L2.St → XK} {De : ε → Own} {G G1 G2 : Sto} {D0 : Own} {Dd : S → Own} {s : S} {te ta tb tc tx : TE} {tt tu : TT} {F0 F1 : Hp} {E : Ends} {w : Wish K ε ρ} {t : TA} {n : Nat} {Rk : κ → Ty} {Rv : β → Ty}
theorem evc_slT {Rs : α → List Ty} {Rs' : γ → List Ty} {f : α → γ} {lo hi : Option Int} {Ma : (α → S → Res ε δ) → Res ε δ} {tl th : TO} (he : ∀ x, cutL (Rs x) lo hi = Rs' (f x)) (ha : EvC K X De te G Dd s Ma (fun x => TU K (Rs x))) (hl : ∀ s1, EvOC K X De tl G Dd s1 (fun (kk : Option Int → S → Res ε δ) => kk lo s1)) (hh : ∀ s1, EvOC K X De th G Dd s1 (fun (kk : Option Int → S → Res ε δ) => kk hi s1)) :
    EvC K X De (tSl (rSlP K) te tl th) G Dd s (fun kk => Ma fun x s1 => kk (f x) s1) (fun y => TU K (Rs' y)) := fun kk σ H F hs ss o r Q hm q qe =>
  ha _ σ H F hs ss o r _ hm (fun x s1 v H1 F1 t1 hs1 r1 hm1 => hl s1 (fun l s2 => if l = lo then kk (f x) s2 else .stuck) σ H1 F1 hs1 (ss.mono t1) o r _ (by show (if lo = lo then _ else _ : Res ε δ).sat o r; rw [if_pos rfl]; exact hm1) (fun lo' s2 H2 F2 t2 hs2 hm2 => by
    by_cases e1 : lo' = lo
    case neg =>
      have hm2' : (if lo' = lo then kk (f x) s2 else Res.stuck : Res ε δ).sat o r := hm2
      rw [if_neg e1] at hm2'
      exact hm2'.elim
    case pos =>
    have hm2' : (if lo' = lo then kk (f x) s2 else Res.stuck : Res ε δ).sat o r := hm2
    rw [if_pos e1] at hm2'
    subst e1
    refine hh s2 (fun l s3 => if l = hi then kk (f x) s3 else .stuck) σ H2 F2 hs2 ((ss.mono t1).mono t2) o r _ (by show (if hi = hi then _ else _ : Res ε δ).sat o r; rw [if_pos rfl]; exact hm2') (fun hi' s3 H3 F3 t3 hs3 hm3 => ?_) (fun n e h H3 F3 t3 => qe n e h H3 F3 ((t1.trans t2).trans t3))
    by_cases e2 : hi' = hi
    case neg =>
      have hm3' : (if hi' = hi then kk (f x) s3 else Res.stuck : Res ε δ).sat o r := hm3
      rw [if_neg e2] at hm3'
      exact hm3'.elim
    case pos =>
    have hm3' : (if hi' = hi then kk (f x) s3 else Res.stuck : Res ε δ).sat o r := hm3
    rw [if_pos e2] at hm3'
    subst e2
    obtain ⟨p, vs, e0, h1, h2⟩ := (TU K (Rs x)).mono (t2.trans t3) r1
    have h2' : AllP F3 ((Rs x).map id) vs := by rw [List.map_id]; exact h2
    have hc := allP_cut h2' lo' hi'
    rw [List.map_id, he] at hc
    refine ⟨p, vs, e0, sqT_up hs3 h1, fun hw => ?_, fun hw u ob hu hd => ?_⟩
    · have ec : cutV vs lo' hi' = vs := by
        unfold cutV
        rw [hw.1, hw.2]
        simp
      rw [ec] at hc
      exact q _ s3 _ H3 F3 ((t1.trans t2).trans t3) hs3 ⟨p, vs, rfl, h1, hc⟩ hm3'
    · have s4 : Same F3 (upd F3 u (.frz ob (.tup (cutV vs lo' hi')))) := same_new (hs3.free hu)
      exact q _ s3 _ _ _ (((t1.trans t2).trans t3).trans s4) (hs3.frz hu) ⟨u, _, rfl, PuT.sq (.inl ⟨ob, upd_same, hd⟩), hc.mono s4⟩ hm3')
    (fun n e h H2 F2 t2 => qe n e h H2 F2 (t1.trans t2))) qe
end
end TL
namespace TL
open PySem PySem.Spec L2
section
variable {K : PySem.W.Frag} {ε ρ α β γ δ S : Type} {X : L2.St → XK} {De : ε → Own} {G : Sto} {Dd : S → Own} {s : S} {te : TE}
end
end TL
namespace TL
open PySem PySem.Spec L2
section
variable {K : PySem.W.Frag} {ε ρ α β γ δ S : Type} {X : L2.St → XK} {De : ε → Own} {G : Sto} {Dd : S → Own} {s : S} {te : TE}
end
end TL
end
section
set_option Elab.async false
set_option linter.all false
set_option maxRecDepth 100000
set_option maxHeartbeats 1000000
namespace TL
open PySem PySem.Spec L2
section
variable {X : Cx}
end
section
variable {K : PySem.W.Frag} {ε ρ α β γ δ S : Type} {X : L2.St → XK} {De : ε → Own} {G : Sto} {D0 : Own} {Dd : S → Own} {s : S} {te ta tb : TE} {F0 : Hp} {E : Ends} {w : Wish K ε ρ} {n : Nat}
end
end TL
end
section
set_option Elab.async false
set_option linter.all false
set_option maxRecDepth 100000
set_option maxHeartbeats 1000000
namespace TL
open PySem PySem.Spec L2
inductive EqV (K : PySem.W.Frag) (H : Hp) : V → V → Bool → Prop
  | dat {v u : V} {d e : PyData} : L2.Dp K H v d → L2.Dp K H u e → SeqAt.shaped d = true → SeqAt.shaped e = true → EqV K H v u (PyData.eqv d e)
  | dic {a b : Addr} {ks ls : List (L2.Key × V)} {es fs : List (L2.Key × PyData)} : L2.Rd H a (.dK ks) → L2.Rd H b (.dK ls) → DEn K H ks es → DEn K H ls fs → EqV K H (.ref a) (.ref b) (deqD es fs)
inductive EqVs (K : PySem.W.Frag) (H : Hp) : List V → List V → List Bool → Prop
  | nil : EqVs K H [] [] []
  | cons {v u : V} {vs us : List V} {b : Bool} {bs : List Bool} : EqV K H v u b → EqVs K H vs us bs → EqVs K H (v :: vs) (u :: us) (b :: bs)
theorem DEn.keys {K : PySem.W.Frag} {H : Hp} {ks : List (L2.Key × V)} {es : List (L2.Key × PyData)} (h : DEn K H ks es) : es.map (·.1) = ks.map (·.1) := by
  induction h with
  | nil => rfl
  | cons _ _ _ ih => simp [ih]
theorem DEn.lay {K : PySem.W.Frag} {H : Hp} {ks : List (L2.Key × V)} {es : List (L2.Key × PyData)} (h : DEn K H ks es) : ∀ p ∈ es, SeqAt.shaped p.2 = true := by
  induction h with
  | nil => intro p hp; cases hp
  | cons _ h2 _ ih =>
    intro p hp
    rcases List.mem_cons.mp hp with rfl | hp
    · exact h2
    · exact ih p hp
section
variable {X : Cx} {pins : List (Addr × Obj)} {σ : L2.St} {H : Hp} {s : Shared}
end
end TL
namespace PySem.SeqAt
open AutoSeq1 (wpAny_loadPart')
open MeetsSeq MeetsSeq2 MeetsSeq3 SeqRoads2
section
variable {prog : Program} {w : World}
end
end PySem.SeqAt
namespace TL
open PySem PySem.Spec L2
theorem EqVs.len {K : PySem.W.Frag} {H : Hp} {xs ys : List V} {bs : List Bool} (h : EqVs K H xs ys bs) : xs.length = ys.length ∧ xs.length = bs.length := by
  induction h with
  | nil => exact ⟨rfl, rfl⟩
  | cons _ _ ih => exact ⟨by rw [List.length_cons, List.length_cons, ih.1], by rw [List.length_cons, List.length_cons, ih.2]⟩
theorem EqVs.at_ {K : PySem.W.Frag} {H : Hp} {xs ys : List V} {bs : List Bool} (h : EqVs K H xs ys bs) : ∀ {j : Nat} {x y : V}, xs[j]? = some x → ys[j]? = some y → EqV K H x y (bs.getD j true) := by
  induction h with
  | nil => intro j x y h; simp at h
  | @cons v u vs us b bs h1 _ ih =>
    intro j x y hx hy
    cases j with
    | zero => cases hx; cases hy; exact h1
    | succ j => exact ih hx hy
section
variable {X : Cx}
end
section
variable {K : PySem.W.Frag} {ε ρ α β γ δ S : Type} {X : L2.St → XK} {De : ε → Own} {G : Sto} {Dd : S → Own} {s : S} {ta tb : TE}
variable {R : α → Ty} {R' : γ → Ty} {f : α → γ → Option Bool} {Ma : (List α → S → Res ε δ) → Res ε δ} {Mb : S → (List γ → S → Res ε δ) → Res ε δ}
end
end TL
end
section
set_option Elab.async false
set_option linter.all false
set_option maxRecDepth 100000
set_option maxHeartbeats 1000000
namespace TL
open PySem PySem.Spec L2
section
variable {K : PySem.W.Frag} {ε ρ α β γ δ S κ : Type} [DecidableEq κ] {X : L2.St → XK} {De : ε → Own} {G : Sto} {Dd : S → Own} {s : S} {ta tb : TE} {k : KeyE κ} {Rv : β → Ty} {R : α → Ty} {f : α → List (κ × β)} {Ma : (α → S → Res ε δ) → Res ε δ}
end
section
variable {K : PySem.W.Frag} {ε ρ α β γ δ S : Type} {X : L2.St → XK} {De : ε → Own} {G : Sto} {Dd : S → Own} {s : S} {ta tb : TE} {R : α → Ty} {R' : γ → Ty} {Re : β → Ty} {f : α → List β} {g : γ → List β} {Ma : (α → S → Res ε δ) → Res ε δ} {Mb : S → (γ → S → Res ε δ) → Res ε δ}
end
end TL
end
section
set_option Elab.async false
set_option linter.all false
set_option maxRecDepth 100000
set_option maxHeartbeats 1000000
namespace TL
open PySem PySem.Spec L2
section
variable {K : PySem.W.Frag} {ε ε' ρ α β γ δ S τ τ' σt ω Ω : Type}
theorem pure_ofPF {args : τ → List Ty} {mf : τ → Res Unit γ} {out : γ → Out} {N : List Str} {tf : TS} {vs : List V} {H : Hp} {Q : VK} {X : XK}
    (walk : ∀ (x : τ) (F : Hp) (D : Own) (E : Ends), E.rt = Q → (∀ (F : Hp) (K : PySem.W.Frag) G D1, GoV Q F (DN K) D1 → Go E.nx F G D1) → (dwish K X Q out (fun _ => D) (fun _ : Unit => D)).W F (mf x) → Go (tf E) F ((args x).map some ++ List.replicate (N.length - (args x).length) none) D)
    (h : spP K args mf out vs H Q X) : tf { nx := fun _ H' => Q .non H', rt := Q } (L2.start N vs) H := by
  obtain ⟨x, F, D, hs, ha, hp⟩ := h
  have z := SS.start (N := N) ha
  rw [ha.len] at z
  exact walk x F D { nx := fun _ H' => Q .non H', rt := Q } rfl (fun _ K G D1 k σ H F1 s hs ss => k _ H F1 s hs .non) hp _ H F (Same.refl _) hs z
theorem pure_ofCF {O : ω → OTy} {args : Addr → τ → List Ty} {mf : τ → ω → Res ω (γ × ω)} {out : γ → Out} {N : List Str} {tf : TS} {vs : List V} {H : Hp} {Q : VK} {X : XK}
    (walk : ∀ (x : τ) (y : ω) (F : Hp) (Dp : ω → Own) (k : Nat) (a : Addr) (E : Ends), Bor1 Dp k a O → E.rt = Q → (∀ (F : Hp) (K : PySem.W.Frag) G D1, GoV Q F (DN K) D1 → Go E.nx F G D1) → (dwish K X Q (fun r : γ × ω => out r.1) (fun r => Dp r.2) Dp).W F (mf x y) →
      Go (tf E) F ((args a x).map some ++ List.replicate (N.length - (args a x).length) none) (Dp y))
    (h : spC K O args mf out vs H Q X) : tf { nx := fun _ H' => Q .non H', rt := Q } (L2.start N vs) H := by
  obtain ⟨x, y, F, Dp, k, a, B, hs, ha, hp⟩ := h
  have z := SS.start (N := N) ha
  rw [ha.len] at z
  exact walk x y F Dp k a { nx := fun _ H' => Q .non H', rt := Q } B rfl (fun _ K G D1 k σ H F1 s hs ss => k _ H F1 s hs .non) hp _ H F (Same.refl _) hs z
theorem pure_ofRdF {mf : τ → Res Unit γ} {out : γ → Out} {N : List Str} {tf : TS} {vs : List V} {H : Hp} {Q : VK} {X : XK}
    (walk : ∀ (x : τ) (F : Hp) (D : Own) (E : Ends), pl x D → E.rt = Q → (∀ (F : Hp) (K : PySem.W.Frag) G D1, GoV Q F (DN K) D1 → Go E.nx F G D1) → (dwish K X Q out (fun _ => D) (fun _ : Unit => D)).W F (mf x) → Go (tf E) F ((args x).map some ++ List.replicate (N.length - (args x).length) none) D)
    (h : spR K args pl mf out vs H Q X) : tf { nx := fun _ H' => Q .non H', rt := Q } (L2.start N vs) H := by
  obtain ⟨x, F, D, hp0, hs, ha, hp⟩ := h
  have z := SS.start (N := N) ha
  rw [ha.len] at z
  exact walk x F D { nx := fun _ H' => Q .non H', rt := Q } hp0 rfl (fun _ K G D1 k σ H F1 s hs ss => k _ H F1 s hs .non) hp _ H F (Same.refl _) hs z
end
end TL
end
section
set_option Elab.async false
set_option linter.all false
set_option maxRecDepth 100000
set_option maxHeartbeats 1000000
namespace TL
open PySem PySem.Spec L2
end TL
end
section
set_option Elab.async false
set_option linter.all false
set_option maxRecDepth 100000
set_option maxHeartbeats 1000000
namespace TL
open PySem PySem.Spec L2
def popAt {α : Type} (xs : List α) (i : Int) : Option (α × List α) := if -(2 ^ 63) ≤ i ∧ i < 2 ^ 63 then (seqIndex? i xs.length).bind fun k => xs[k]?.map fun y => (y, xs.eraseIdx k) else none
theorem allP_erase {F : Hp} : ∀ {Rs : List Ty} {us : List V}, AllP F Rs us → ∀ k, AllP F (Rs.eraseIdx k) (us.eraseIdx k)
  | _, _, .nil, _ => by simp; exact .nil
  | _, _, .cons h1 h2, 0 => h2
  | _, _, .cons h1 h2, k + 1 => .cons h1 (allP_erase h2 k)
theorem map_erase {α β : Type} (f : α → β) : ∀ (xs : List α) (k : Nat), (xs.map f).eraseIdx k = (xs.eraseIdx k).map f
  | [], _ => by simp
  | _ :: _, 0 => rfl
  | x :: xs, k + 1 => by
    show f x :: (xs.map f).eraseIdx k = f x :: (xs.eraseIdx k).map f
    rw [map_erase f xs k]
section
variable {K : PySem.W.Frag} {ε ρ α β γ δ S Ω : Type} {X : L2.St → XK} {De : ε → Own} {G : Sto} {tb : TE}
theorem evc_popAtLL {R : α → Ty} {i k : Nat} {a : Addr} {Dd : Ω → Own} {s : Ω} {gt : Ω → List α} {st : Ω → List α → Ω} {Mb : (Int → Ω → Res ε δ) → Res ε δ} (B : Bor Dd k a (OLT R) gt st) (hi : G[i]? = some (some (Is (.ref a)))) (hb : EvC K X De tb G Dd s Mb (tD K eI)) :
    EvC (β := δ) K X De (tBM K "list" rPopAt (tVar i) (tCons tb tNil)) G Dd s (fun kk => Mb fun j s1 => Res.bind (Res.opt (popAt (gt s1) j)) fun z => kk z.1 (st s1 z.2)) R := fun kk σ H F hs ss o r Q hm q qe => by
  obtain ⟨v, e1, e2⟩ := ss.get hi
  have ev : v = .ref a := e2
  subst ev
  obtain ⟨o1, ho, vs, rfl, hx⟩ := hs.at (B.at_ s)
  refine ⟨_, e1, .inl ⟨rfl, vs, SqL.of ho⟩, hb _ σ H F hs ss o r _ hm (fun j s1 u H1 F1 t1 hs1 r1 hm1 => ?_) qe⟩
  have eu : u = .int j := dp_int r1
  subst eu
  obtain ⟨z, ez, hm2⟩ := Res.sat_opt hm1
  obtain ⟨o2, ho2, us, rfl, hy⟩ := hs1.at (B.at_ s1)
  have ln := hy.len
  rw [List.length_map] at ln
  unfold popAt at ez
  split at ez
  · rename_i bd
    obtain ⟨m, em, e3⟩ := Option.bind_eq_some_iff.mp ez
    obtain ⟨y, ey, e4⟩ := Option.map_eq_some_iff.mp e3
    subst e4
    have e5 : ((gt s1).map R)[m]? = some (R y) := by rw [List.getElem?_map, ey]; rfl
    obtain ⟨w, hw, rw_⟩ := hy.get e5
    refine ⟨a, us, j, m, w, rfl, rfl, ho2, bd.1, bd.2, by rw [ln]; exact em, hw, ?_⟩
    have z := hs1.put (O' := OLT R ((gt s1).eraseIdx m)) (o := .lst (us.eraseIdx m)) (B.at_ s1) ⟨_, rfl, by
      have := allP_erase hy m
      rw [map_erase] at this
      exact this⟩
    rw [B.set_ s1] at z
    exact q y (st s1 ((gt s1).eraseIdx m)) w _ F1 t1 z rw_ hm2
  · cases ez
end
end TL
end
section
set_option Elab.async false
set_option linter.all false
set_option maxRecDepth 100000
set_option maxHeartbeats 1000000
namespace TL
open PySem PySem.Spec L2 PySem.W PySem.Calls PyProof.Rows
section
variable {prog : Program} {w : World} {A : Around} {E : Value → Shared → Prop} {s : Shared}
end
section
variable {X : Cx} {pins : List (Addr × Obj)} {σ : L2.St} {H : Hp} {s : Shared}
theorem each_zip (I : Inv X pins σ H s) : ∀ {vs : List V} {ds : List PyData} {us : List Value}, DpAll X.K H vs ds → Vals vs us →
    EachIs (fun u (b : V × PyData) => RelV b.1 u) us (vs.zip ds) ∧ EachIs (fun u (b : V × PyData) => ∃ as, Reads s.heap u b.2 as) us (vs.zip ds)
  | [], _, _, h, r => by cases h; cases r; exact ⟨.nil, .nil⟩
  | v :: vs, _, _, h, r => by
    cases h with
    | cons h1 h2 =>
      cases r with
      | cons r1 r2 =>
        obtain ⟨g1, g2⟩ := each_zip I h2 r2
        exact ⟨.cons r1 g1, .cons (Dp.reads I _ _ _ h1 r1) g2⟩
theorem each_vals : ∀ {us : List Value} {bs : List (V × PyData)}, EachIs (fun u (b : V × PyData) => RelV b.1 u) us bs → Vals (bs.map Prod.fst) us
  | _, _, .nil => .nil
  | _, _, .cons h t => .cons h (each_vals t)
theorem dpAll_snd {K : PySem.W.Frag} : ∀ {vs : List V} {ds : List PyData}, DpAll K H vs ds → (vs.zip ds).map Prod.snd = ds ∧ vs.length = ds.length
  | _, _, .nil => ⟨rfl, rfl⟩
  | _, _, .cons _ h => by
    obtain ⟨e1, e2⟩ := dpAll_snd h
    exact ⟨by rw [List.zip_cons_cons, List.map_cons, e1], by simp [e2]⟩
end
structure SoD {β : Type} (e : β → PyData) (n : Nat) : Prop where
  alk : ∀ x y, alike (e x) (e y) = true
  dep : ∀ x, (e x).depth ≤ n
  srt : (∀ x, ∃ d r, e x = .tuple (d :: r)) ∨ ∀ x, e x ≠ .none ∧ ∀ xs, e x ≠ .tuple xs
noncomputable def sortG {β : Type} (e : β → PyData) (xs : List β) : List β := xs.mergeSort (dataLe false e)
section
variable {K : PySem.W.Frag} {ε ε' ρ α β γ δ S τ τ' σt ω Ω : Type} {X : L2.St → XK} {Xk : XK} {De : ε → Own} {G G1 G2 : Sto} {D0 : Own} {Dd : S → Own} {s : S} {te ta tb tc tx : TE} {tt tu : TT} {F0 F1 : Hp} {E : Ends} {w : Wish K ε ρ} {t : TA} {n : Nat}
theorem allP_sort {F : Hp} {Re : β → Ty} {e : β → PyData} : ∀ {xs : List β} {vs : List V} {le : β → β → Bool}, AllP F (xs.map Re) vs → (∀ x v, (Re x).p v F → Dp K F v (e x)) → le = dataLe false e →
    AllP F ((xs.mergeSort le).map Re) (((vs.zip (xs.map e)).mergeSort (dataLe false Prod.snd)).map Prod.fst) := by
  intro xs vs le h hd hle
  subst hle
  have hl : vs.length = xs.length := by rw [h.len, List.length_map]
  let T : List (V × β) := vs.zip xs
  have e1 : vs.zip (xs.map e) = T.map (fun p => (p.1, e p.2)) := by
    show vs.zip (xs.map e) = (vs.zip xs).map _
    rw [List.zip_map_right]
    rfl
  have e2 : xs = T.map Prod.snd := by
    show xs = (vs.zip xs).map Prod.snd
    rw [List.map_snd_zip (by omega)]
  have m1 : (T.map (fun p => (p.1, e p.2))).mergeSort (dataLe false Prod.snd) = (T.mergeSort (fun p q => dataLe false e p.2 q.2)).map (fun p => (p.1, e p.2)) := (List.map_mergeSort (f := fun p : V × β => (p.1, e p.2)) (r := fun p q => dataLe false e p.2 q.2) (s := dataLe false Prod.snd) (fun a _ b _ => rfl)).symm
  have m2 : (T.map Prod.snd).mergeSort (dataLe false e) = (T.mergeSort (fun p q => dataLe false e p.2 q.2)).map Prod.snd := (List.map_mergeSort (f := fun p : V × β => p.2) (r := fun p q => dataLe false e p.2 q.2) (s := dataLe false e) (fun a _ b _ => rfl)).symm
  have hT : ∀ p ∈ T, (Re p.2).p p.1 F := fun p hp => by
    obtain ⟨i, hi⟩ := List.getElem?_of_mem hp
    have hz := List.getElem?_zip_eq_some.mp hi
    obtain ⟨v, hv, hr⟩ := h.get (i := i) (R := Re p.2) (by rw [List.getElem?_map, hz.2]; rfl)
    rw [hz.1] at hv
    cases hv
    exact hr
  rw [e1, m1, List.map_map]
  have m3 : (xs.mergeSort (dataLe false e)) = (T.mergeSort (fun p q => dataLe false e p.2 q.2)).map Prod.snd := by
    rw [← m2, ← e2]
  rw [m3]
  have hT2 : ∀ p ∈ T.mergeSort (fun p q => dataLe false e p.2 q.2), (Re p.2).p p.1 F := fun p hp => hT p (List.mem_mergeSort.mp hp)
  generalize T.mergeSort (fun p q => dataLe false e p.2 q.2) = U at hT2
  clear m1 m2 m3 hT e1 e2
  induction U with
  | nil => exact .nil
  | cons p U ih => exact .cons (hT2 p List.mem_cons_self) (ih fun q hq => hT2 q (List.mem_cons_of_mem _ hq))
end
theorem so_I : SoD eI 0 := ⟨fun _ _ => rfl, (fun _ => by simp [eI, PyData.depth]), .inr fun x => ⟨(fun z => by cases z), fun xs z => by cases z⟩⟩
theorem so_S : SoD eS 0 := ⟨fun _ _ => rfl, (fun _ => by simp [eS, PyData.depth]), .inr fun x => ⟨(fun z => by cases z), fun xs z => by cases z⟩⟩
theorem so_2 {α β : Type} {e : α → PyData} {g : β → PyData} {n m : Nat} (h : SoD e n) (h' : SoD g m) : SoD (e2 e g) (n + m + 1) := ⟨fun x y => by simp [e2, alike, alikeAll, h.alk, h'.alk], fun x => by
  have h1 := h.dep x.1
  have h2 := h'.dep x.2
  simp only [e2, PyData.depth, PyData.depthAll, Nat.max_def]
  repeat' split
  all_goals omega, .inl fun x => ⟨_, _, rfl⟩⟩
end TL
end
section
set_option Elab.async false
set_option linter.all false
set_option maxRecDepth 100000
set_option maxHeartbeats 1000000
namespace TL
open PySem PySem.Spec L2
section
variable {K : PySem.W.Frag} {ε ε' ρ α β γ δ S τ τ' σt ω Ω κ : Type} {X : L2.St → XK} {Xk : XK} {De : ε → Own} {G G1 G2 : Sto} {D0 : Own} {Dd : S → Own} {s : S} {te ta tb tc tx : TE} {tt tu : TT} {F0 F1 : Hp} {E : Ends} {w : Wish K ε ρ} {t : TA} {n : Nat} {k : KeyE κ} {Rk : κ → Ty} {Rv : β → Ty}
end
end TL
end
section
set_option Elab.async false
set_option linter.all false
set_option maxRecDepth 100000
set_option maxHeartbeats 1000000
namespace TL
open PySem PySem.Spec L2 PyProof.Rows PySem.Calls PySem.AutoSeq1
theorem meets_extendS (l : Addr) (items : Array Value) (n : Nat) (b : Addr) (items2 : Array Value) (n2 : Nat) (dd : Option Addr) (sl : Array (Option Value)) (hc0 : ¬(!items.isEmpty && Builtin.List.listTooLong (items.size + items2.size)) = true) (hc1 : items.size ≤ sizeLine) (hs2 : items.size + items2.size ≤ sizeLine + 1) :
    Meets (Builtin.«list.extend» ⟨[.ref l, .ref b], []⟩) (fun _ R s => s.heap.get? l = some { cls := .type "list", dict := none, data := .seq items n, slots := #[] } ∧ s.heap.get? b = some { cls := .type "list", dict := dd, data := .seq items2 n2, slots := sl } ∧ R (.ok (.ret Value.none)) { s with heap := s.heap.update l (Obj.mapSeq fun x => x ++ items2), toks := s.toks }) :=
  .of_wp fun prog w A R s h => by
    obtain ⟨hp, g, d, tk, os⟩ := s; obtain ⟨hl, hb, h⟩ := h; have f1 := idx_int; have f2 := AutoSeq1.sub_tuple_tuple; have f3 := AutoSeq1.sub_list_list; have f4 := AutoSeq1.sub_tuple_list; have f5 := AutoSeq1.sub_list_tuple;
    have hz' : (items ++ items2).size ≤ sizeLine + 1 := by rw [Array.size_append]; exact hs2
    wp_walk using (wpAny_updateSeq hl rfl (hz := hc1) (_hz' := hz')), wpAny_loadPart' hl, wpAny_loadPart' hb; exact ⟨_, rfl, h⟩
def rExtendS (K : PySem.W.Frag) : V → List V → Hp → VK → Prop := fun x vs H Q => ∃ l b xs zs, x = .ref l ∧ vs = [.ref b] ∧ H l = some (.lst xs) ∧ SqL K H b zs ∧ xs.length + zs.length ≤ sizeLine ∧ Q .non (upd H l (.lst (xs ++ zs)))
theorem mt_extendS {X : Cx} : MtM X "list.extend" (rExtendS X.K) := by
  intro pins s σ H x vs v us Q I rx rv h
  obtain ⟨l, b, xs, zs, rfl, rfl, hH, hB, hz, q⟩ := h
  cases rx
  obtain ⟨u, rfl, ru⟩ := rv.one
  cases ru
  obtain ⟨z, its, n, r, hl, e⟩ := I.lstM hH
  obtain ⟨its2, r2, ⟨⟨cls2, dd2, data2, sl2⟩, n2, e2, hc2, hdn2, hdt2⟩, hlen2⟩ := I.list hB
  simp only at hc2 hdt2
  subst hc2 hdt2
  have l2 := r2.length
  have hsz : its.toArray.size + its2.toArray.size ≤ sizeLine := by rw [List.size_toArray, List.size_toArray]; omega
  have hlong : ¬ (!its.toArray.isEmpty && Builtin.List.listTooLong (its.toArray.size + its2.toArray.size)) = true := by
    rw [notLongL hsz, Bool.and_false]
    exact Bool.false_ne_true
  refine call_meets F.slot_list_extend ⟨_, e, rfl⟩ F.entry_list_extend (F.args_list_extend_2 _ _)
    (meets_extendS l its.toArray n b its2.toArray n2 dd2 sl2 hlong (by rw [List.size_toArray]; omega) (by omega)) ⟨e, e2, ?_⟩
  refine ⟨.non, _, I.lset (its' := its ++ its2) hH e (by simp) (r.append r2) ?_, rfl, q⟩
  rw [List.length_append]
  omega
section
variable {K : PySem.W.Frag} {ε ε' ρ α β γ δ S τ τ' σt ω Ω κ : Type} {X : L2.St → XK} {Xk : XK} {De : ε → Own} {G G1 G2 : Sto} {D0 : Own} {Dd : S → Own} {s : S} {te ta tb tc tx : TE} {tt tu : TT} {F0 F1 : Hp} {E : Ends} {w : Wish K ε ρ} {t : TA} {n : Nat}
theorem go_extSC {R : α → Ty} {xs : List α} {k : Nat} {a : Addr} {M : (List α → S → Res ε ρ) → Res ε ρ} {kk : List α × S → Res ε ρ} (ho : G[n]? = some (some (Is (.ref a)))) (h : EvC K w.X w.De te G Dd s M (LT K R)) (hk : ∀ s, (Dd s)[k]? = some (a, OLT R xs))
    {m : Res ε ρ} (hP : w.W F0 m) (q : ∀ x, w.W F0 (kk x) → Go E.nx F0 G ((Dd x.2).set k (a, OLT R x.1))) (c : w.cond G := by first | exact trivial | walk_at "cond") (hm : m = (M fun v s' => Res.bind (Res.grd (xs.length + v.length ≤ 100000) (xs ++ v, s')) kk) := by exact rfl) : Go (tDrop (tBM K "list" (rExtendS K) (tVar n) (tCons te tNil)) E) F0 G (Dd s) := by subst hm; exact (fun σ H F t hs ss => by
  obtain ⟨v0, e0, r0⟩ := ss.get ho
  have r0' : v0 = .ref a := r0
  subst r0'
  obtain ⟨o1, ho1, xs1, rfl, h21⟩ := hs.at (hk s)
  refine ⟨_, e0, .inl ⟨rfl, xs1, SqL.of ho1⟩, h _ σ H F hs ss _ _ _ hP (fun ys s' u H1 F1 t1 hs1 r1 hm => ?_) (fun n e hr H1 F1 t1 hs1 => w.err hr c σ H1 F1 (t.trans t1) hs1 (ss.mono t1))⟩
  obtain ⟨hl, hm2⟩ := Res.sat_grd hm
  obtain ⟨p, us, rfl, h3, h4⟩ := r1
  obtain ⟨o, ho2, vs, rfl, h2⟩ := hs1.at (hk s')
  have l2 := h2.len
  have l3 := h4.len
  rw [List.length_map] at l2 l3
  refine ⟨a, p, vs, us, rfl, rfl, ho2, sqL_up hs1 h3, by rw [l2, l3]; exact Nat.le_trans hl sizeLine_big, ?_⟩
  exact q (xs ++ ys, s') hm2 σ _ F1 (t.trans t1) (hs1.put (hk s') ⟨_, rfl, allP_app h2 h4⟩) (ss.mono t1))
end
end TL
end
section
set_option Elab.async false
set_option linter.all false
set_option maxRecDepth 100000
set_option maxHeartbeats 1000000
namespace TL
open PySem PySem.Spec L2
end TL
end
section
set_option Elab.async false
set_option linter.all false
set_option maxRecDepth 100000
set_option maxHeartbeats 1000000
namespace TL
open PySem PySem.Spec L2
section
variable {K : PySem.W.Frag} {ε ε' ρ α β γ δ S τ τ' σt ω Ω κ : Type} {X : L2.St → XK} {Xk : XK} {De : ε → Own} {G G1 G2 : Sto} {D0 : Own} {Dd : S → Own} {s : S} {te ta tb tc tx : TE} {tt tu : TT} {F0 F1 : Hp} {E : Ends} {w : Wish K ε ρ} {t : TA} {n : Nat} {C : Addr} {P : L2.St → Hp → Prop}
theorem GoV.le {P : VK} {R : Ty} {D D' : Own} (h : GoV P F0 R D') (l : DLe D D') : GoV P F0 R D := fun v H F s hs r => h v H F s (l H F hs) r
theorem GoX.le {P : XK} {c : Value} {D D' : Own} (h : GoX P F0 c D') (l : DLe D D') : GoX P F0 c D := fun H F s hs => h H F s (l H F hs)
theorem Go.le {P : L2.St → Hp → Prop} {D D' : Own} (h : Go P F0 G D') (l : DLe D D') : Go P F0 G D := fun σ H F s hs ss => h σ H F s (l H F hs) ss
def GoIO (Q : VK) (F : Hp) (a : Addr) (O : OTy) (D : Own) : Prop := ∀ H' F', Same F F' → HS ((a, O) :: D) H' F' → Q .non H'
theorem GoIO.up {Q : VK} {F F' : Hp} {a : Addr} {O : OTy} {D : Own} (h : GoIO Q F a O D) (s : Same F F') : GoIO Q F' a O D := fun H1 F1 t hs => h H1 F1 (s.trans t) hs
end
end TL
end
section
set_option Elab.async false
set_option linter.all false
set_option maxRecDepth 100000
set_option maxHeartbeats 1000000
namespace TL
open PySem PySem.Spec L2
section
variable {K : PySem.W.Frag} {ε ε' ρ α β γ δ S τ τ' σt ω Ω κ : Type} [DecidableEq κ] {X : L2.St → XK} {Xk : XK} {De : ε → Own} {G G1 G2 : Sto} {D0 : Own} {Dd : S → Own} {s : S} {te ta tb tc tx : TE} {tt tu : TT} {F0 F1 : Hp} {E : Ends} {w : Wish K ε ρ} {t : TA} {n : Nat} {C : Addr} {k : KeyE κ} {Rk : κ → Ty} {Rv : β → Ty}
end
section
variable {K : PySem.W.Frag} {ε α δ S : Type} {X : L2.St → XK} {De : ε → Own} {G : Sto} {Dd : S → Own} {s : S} {t1 t2 : TE} {M : (α → S → Res ε δ) → Res ε δ} {O : α → OTy} {R : α → Ty}
end
end TL
end
section
set_option Elab.async false
set_option linter.all false
set_option maxRecDepth 100000
set_option maxHeartbeats 1000000
namespace TL
open PySem PySem.Spec L2
section
variable {K : PySem.W.Frag} {ε ε' ρ α β γ δ S τ τ' σt ω Ω : Type} {X : L2.St → XK} {Xk : XK} {De : ε → Own} {G G1 G2 : Sto} {D0 : Own} {Dd : S → Own} {s : S} {te ta tb tc tx : TE} {tt tu : TT} {F0 F1 : Hp} {E : Ends} {w : Wish K ε ρ} {t : TA} {n : Nat} {dvs : List V} {args : τ → List Ty} {Rs : τ' → List Ty} {C : Addr} {clr : τ → Own} {cl : τ → Ω → Own} {sp : Sp} {m : Str}
end
end TL
end
section
set_option Elab.async false
set_option linter.all false
set_option maxRecDepth 100000
set_option maxHeartbeats 1000000
namespace TL
open PySem PySem.Spec L2
open PySem.Sem (wp)
section
variable {prog : Program} {w : World} {A : Around} {E : Value → Shared → Prop} {s : Shared}
end
section
variable {prog : Program} {w : World} {A : Around} {E : Value → Shared → Prop} {s : Shared}
end
section
variable {K : PySem.W.Frag} {ε ε' ρ α β γ δ S τ τ' σt ω κ : Type} {X : L2.St → XK} {De : ε → Own} {G G1 G2 : Sto} {D0 : Own} {Dd : S → Own} {s : S} {te ta tb tc tx : TE} {k : KeyE κ} {Rk : κ → Ty} {Rv : β → Ty}
end
end TL
end
section
set_option Elab.async false
set_option linter.all false
set_option maxRecDepth 100000
namespace TL
open PySem PySem.Spec L2
def siftY {α : Type} : List Addr → Nat → List Addr → (Nat → List Addr → α) → α
  | [], seen, new, k => k seen new
  | a :: as, seen, new, k => match Nat.land (Nat.shiftRight seen a) 1 with
    | 0 => HandSHeadRun.frNat (Nat.lor seen (Nat.shiftLeft 1 a)) fun s => siftY as s (a :: new) k
    | _ => siftY as seen new k
def stepY {α : Type} (g : Addr → Option Obj) : List Addr → Nat → List Addr → (Nat → List Addr → α) → α
  | [], seen, new, k => k seen new
  | a :: as, seen, new, k => match g a with
    | some o => siftY (He.refsD o) seen new fun s n => stepY g as s n k
    | none => stepY g as seen new k
def asY (g : Addr → Option Obj) : Nat → List Addr → Nat → List Addr
  | 0, _, _ => []
  | n + 1, fr, seen => stepY g fr seen [] fun s new => new ++ asY g n new s
def frY (n : Nat) (g : Addr → Option Obj) : PySem.W.Frag := He.frG g (mainGlobals :: asY g n [mainGlobals] (Nat.shiftLeft 1 mainGlobals))
def obsYG (n : Nat) (fa : List He.Fa) (fn : List He.DefD) (ex : PySem.W.Frag → Bool) (g : Addr → Option Obj) : AlZ := (He.obsD fa fn (frY n g), ex (frY n g))
def hookY (n : Nat) (fa : List He.Fa) (fn : List He.DefD) (ex : PySem.W.Frag → Bool) : PySem.W.Hook where
  α := AlZ
  obs := fun s => obsYG n fa fn ex s.heap.get?
  val := fun _ => (He.valD fn, true)
  says := fun _ h => ∃ K : PySem.W.Frag, K.In h ∧ SaysZ fa fn ex K
  of := fun _ _ e => ⟨_, He.frG_in, congrArg (fun z : AlZ => z.1) e, congrArg (fun z : AlZ => z.2) e⟩
  keeps := fun _ _ _ ⟨K, hK, c⟩ k => ⟨K, PySem.W.Frag.In.keeps hK k, c⟩
theorem obsYG_eq {n : Nat} {fa : List He.Fa} {fn : List He.DefD} {ex : PySem.W.Frag → Bool} {g : Addr → Option Obj} {s : Shared} (h : ∀ a, g a = s.heap.get? a) : obsYG n fa fn ex g = (hookY n fa fn ex).obs s := by
  have e : g = s.heap.get? := funext h
  rw [e] <;> rfl
end TL
end
section
set_option Elab.async false
set_option linter.all false
set_option maxRecDepth 100000
set_option maxHeartbeats 1000000
namespace TL
open PySem PySem.Spec L2
section
variable {K : PySem.W.Frag} {ε ε' ρ α β γ δ S τ τ' σt ω κ : Type} {X : L2.St → XK} {De : ε → Own} {G G1 G2 : Sto} {D0 : Own} {Dd : S → Own} {s : S} {te ta tb tc tx : TE} {R : α → Ty} {f : α → List β} {e : β → PyData} {n : Nat} [DecidableEq β]
theorem any_enc (he : Enc e n) (a : β) : ∀ xs : List β, ((xs.map e).any fun z => PyData.eqv z (e a)) = decide (a ∈ xs)
  | [] => by simp
  | x :: xs => by
    rw [List.map_cons, List.any_cons, any_enc he a xs, he.eq]
    by_cases h : x = a
    · subst h; simp
    · simp [h, show ¬ a = x from fun q => h q.symm]
theorem shaped_all (he : Enc e n) (hn : n ≤ 63) (xs : List β) : SeqAt.shaped (.list (xs.map e)) = true := by
  unfold SeqAt.shaped
  have h1 : PyData.canLay0 (.list (xs.map e)) = true := by
    show PyData.canLayAll0 (xs.map e) = true
    induction xs with
    | nil => rfl
    | cons x xs ih =>
      show (PyData.canLay0 (e x) && PyData.canLayAll0 (xs.map e)) = true
      rw [he.lay x, ih]; rfl
  have h2 : (PyData.list (xs.map e)).depth ≤ 64 := by
    show PyData.depthAll (xs.map e) + 1 ≤ 64
    have h3 : PyData.depthAll (xs.map e) ≤ n := by
      clear h1
      induction xs with
      | nil => exact Nat.zero_le _
      | cons x xs ih =>
        show max (e x).depth (PyData.depthAll (xs.map e)) ≤ n
        exact Nat.max_le.mpr ⟨he.dep x, ih⟩
    omega
  rw [h1, Bool.true_and]
  exact decide_eq_true h2
theorem inD_args {F H : Hp} {D1 : Own} (hs : HS D1 H F) (he : Enc e n) (hn : n ≤ 63) {a : β} {xs : List β} {x : V} {p : Addr} {vs : List V} (rx : (tD K e a).p x F) (h1 : SqL K H p vs) (h2 : AllP F (xs.map (tD K e)) vs) :
    Dp K H x (e a) ∧ Dp K H (.ref p) (.list (xs.map e)) ∧ SeqAt.shaped (e a) = true ∧ SeqAt.shaped (.list (xs.map e)) = true := by
  have h3 : AllP F ((xs.map e).map (TL.D K)) vs := by rw [List.map_map]; exact h2
  exact ⟨dp_up hs rx, .lst h1 (dpAll_mono hs.sub _ _ (allP_dp h3)), he.shaped (by omega) a, shaped_all he hn xs⟩
theorem evc_notinD {Ma : (β → S → Res ε δ) → Res ε δ} {Mb : S → (α → S → Res ε δ) → Res ε δ} (he : Enc e n) (hv : ∀ x s v H F, HS (Dd s) H F → (R x).p v F → ∃ a vs, v = .ref a ∧ SqL K H a vs ∧ AllP F ((f x).map (tD K e)) vs) (ha : EvC K X De ta G Dd s Ma (tD K e)) (hb : ∀ s1, EvC K X De tb G Dd s1 (Mb s1) R) (hn : n ≤ 63 := by decide) :
    EvC K X De (tOp (rNotInD K) ta tb) G Dd s (fun kk => Ma fun a s1 => Mb s1 fun b s2 => kk (!decide (a ∈ f b)) s2) (tD K eB) :=
  evc2 ha hb fun a b s2 x y H F hs rx ry Q q => by
    obtain ⟨p, vs, rfl, h1, h2⟩ := hv b s2 y H F hs ry
    obtain ⟨q1, q2, q3, q4⟩ := inD_args hs he hn rx h1 h2
    refine ⟨_, _, q1, q2, q3, q4, ?_⟩
    rw [any_enc he]
    exact q _ H F (Same.refl _) hs (.bl _)
end
end TL
end
section
set_option Elab.async false
set_option linter.all false
set_option maxRecDepth 100000
set_option maxHeartbeats 1000000
namespace TL
open PySem PySem.Spec L2
section
variable {K : PySem.W.Frag} {ε ε' ρ α β γ δ S τ τ' σt ω κ : Type} {X : L2.St → XK} {Xk : XK} {De : ε → Own} {G G1 G2 : Sto} {D0 : Own} {Dd : S → Own} {s : S} {te ta tb tc tx : TE} {t : TA} {n : Nat} {Rs : τ → List Ty}
theorem evc_callCU {O : ω → OTy} {args : Addr → Unit × τ → List Ty} {mf : Unit × τ → ω → Res ω (γ × ω)} {R : γ → Ty} {Mn : (ω → S → Res ε δ) → Res ε δ} {Mt : S → (τ → S → Res ε δ) → Res ε δ} {sp : Sp} (hsp : ∀ vs H Q X, spC K O args mf (fun r => .ok (R r)) vs H Q X → sp vs H Q X) (g : S → ε)
    (hn : EvNC K (fun _ => Xk) De ta G Dd s Mn O) (ht : ∀ y p s1, EvAC K (fun _ => Xk) De t G (fun s => (p, O y) :: Dd s) s1 (Mt s1) Rs) (ha : ∀ a x, args a ((), x) = Is (.ref a) :: Rs x) (hde : ∀ s, (De (g s)).Sublist (Dd s)) :
    EvC K (fun _ => Xk) De (tCall sp [] Xk (tCons ta t)) G Dd s (fun kk => Mn fun y s1 => Mt s1 fun x s2 => Res.bind (Res.mapE (fun _ => g s2) (mf ((), x) y)) fun z => kk z.1 s2) R :=
  evc_callCN (args := fun a x => args a ((), x)) (mf := fun x => mf ((), x)) (fun vs H Q X ⟨x, r⟩ => hsp vs H Q X ⟨((), x), r⟩) g hn ht ha hde
end
end TL
end
section
set_option Elab.async false
set_option linter.all false
set_option maxRecDepth 100000
set_option maxHeartbeats 2000000
namespace TL
open PySem PySem.Spec PyProof.Rows L2
open L2H (RoomH)
structure FnL (P : Program) (w : World) (K : PySem.W.Frag) (mg : Str → Option Value) (base : Heap) (CX : CXT) (k : Nat) (f : Addr) (fd : FuncData) (ps : List Str) (sp : Sp) : Prop where
  len : ∀ vs H Q E, sp vs H Q E → vs.length = ps.length
  run : ∀ (A : Around) (outer : List Env) (s : Shared) (H : Hp) (args : Args) (us : List Value) (vs : List V) (Q : VK) (E : XK), RoomH k A → Env0 P w K mg base A outer s H → BindsTo s fd args (ps.zip us) → Vals vs us → sp vs H Q E →
    codeAny (model P w) A (.call (.ref f) args) (CR CX outer P w H s Q E) s
structure FoL (P : Program) (w : World) (K : PySem.W.Frag) (mg : Str → Option Value) (base : Heap) (x : Str) (ps : List Str) (dvs : List V) (k : Nat) (sp : Sp) : Prop where
  ex : ∃ f fd ds, FnL P w K mg base (L2.CX P w) k f fd ps sp ∧ mg x = some (.ref f) ∧ PySem.W.keepIn K (.ref f) = true ∧ Binds K fd ps ds ∧ Vals dvs ds
section
variable {X : Cx} {x : Str} {ps : List Str} {dvs : List V} {k : Nat} {sp : Sp} {t : TA} {e : Expr} {es : List Expr} {p pos : Pos} {EX : XK}
end
section
variable {P : Program} {w : World} {K : PySem.W.Frag} {mg : Str → Option Value} {base : Heap} {x name qual : Str} {params : Arguments} {body : List Stmt} {scope : Scope} {f : Addr} {fd : FuncData} {dvs : List V} {kws : List (Str × V)}
end
end TL
end
section
set_option Elab.async false
set_option linter.all false
set_option maxRecDepth 100000
set_option maxHeartbeats 1000000
namespace TL
open PySem PySem.Spec L2
section
variable {K : PySem.W.Frag} {ε ε' ρ α β γ δ S τ τ' σt ω κ : Type} {X : L2.St → XK} {Xk : XK} {G G1 G2 : Sto} {D0 : Own} {Dd : S → Own} {s : S} {t : TA} {args : τ → List Ty}
end
end TL
end
section
set_option Elab.async false
set_option linter.all false
set_option maxRecDepth 100000
set_option maxHeartbeats 1000000
namespace TL
open PySem PySem.Spec L2
def DSub (D D' : Own) : Prop := ∃ M : Own, D.Perm M ∧ D'.Sublist M
theorem HS.dsub {D D' : Own} {H F : Hp} (hs : HS D H F) (h : DSub D D') : HS D' H F := by
  obtain ⟨M, p, q⟩ := h
  exact (hs.perm p).drop q
theorem DSub.le {D D' : Own} (h : DSub D D') : DLe D D' := fun H F hs => hs.dsub h
section
variable {K : PySem.W.Frag} {ε ρ α S σt Γ : Type} {G : Sto} {D0 : Own} {Dd : S → Own} {s : S} {tt : TT} {F0 : Hp} {E : Ends} {w : Wish K ε ρ}
end
end TL
end
section
set_option Elab.async false
set_option linter.all false
set_option maxRecDepth 100000
set_option maxHeartbeats 1000000
namespace TL
open PySem PySem.Spec L2
section
variable {K : PySem.W.Frag} {ε α δ S τ γ : Type} {X : L2.St → XK} {De : ε → Own} {G : Sto} {Dd : S → Own} {s : S} {te : TE}
end
end TL
end
section
set_option Elab.async false
set_option linter.all false
set_option maxRecDepth 100000
set_option maxHeartbeats 1000000
namespace TL
open PySem PySem.Spec L2
abbrev HT {α β : Type} (K : PySem.W.Frag) (R1 : α → Ty) (R2 : β → Ty) (x : α × List β) : Ty := TU K (R1 x.1 :: x.2.map R2)
section
variable {K : PySem.W.Frag} {ε α β γ δ S : Type} {X : L2.St → XK} {De : ε → Own} {G : Sto} {Dd : S → Own} {s : S} {te ta tb : TE} {tt : TT}
theorem atI_hd {α : Type} (a : α) (l : List α) : atI (a :: l) 0 = some a := by
  unfold atI ixN
  rw [if_pos (by decide), if_pos (by simp)]
  rfl
end
end TL
end
section
set_option Elab.async false
set_option linter.all false
set_option maxRecDepth 100000
set_option maxHeartbeats 1000000
namespace TL
open PySem PySem.Spec L2
section
variable {K : PySem.W.Frag} {ε ρ α S : Type} {G : Sto} {Dd : S → Own} {s : S} {te ti : TE} {F0 : Hp} {E : Ends} {w : Wish K ε ρ} {n : Nat}
end
end TL
end
section
set_option Elab.async false
set_option linter.all false
set_option maxRecDepth 100000
set_option maxHeartbeats 1000000
namespace TL
open PySem PySem.Spec L2
section
variable {K : PySem.W.Frag} {β κ : Type} [DecidableEq κ] {G : Sto} {D0 : Own} {F0 : Hp} {E : Ends} {C : Addr} {Rv : β → Ty} {kE : KeyE κ}
end
section
variable {K : PySem.W.Frag} {ε α δ S : Type} {X : L2.St → XK} {De : ε → Own} {G : Sto} {Dd : S → Own} {s : S} {te : TE}
end
end TL
end
section
set_option Elab.async false
set_option linter.all false
set_option maxRecDepth 100000
set_option maxHeartbeats 1000000
namespace TL
open PySem PySem.Spec L2 PyProof.Rows
def rTupIxI (K : PySem.W.Frag) : V → List V → Hp → VK → Prop := fun x us H Q => ∃ (p : Addr) (ys : List Int) (z : Int) (j : Nat), x = .ref p ∧ us = [.int z] ∧ SqT K H p (ys.map V.int) ∧ ys[j]? = some z ∧ (∀ m, m < j → ys[m]? ≠ some z) ∧ Q (.int ((j : Nat) : Int)) H
theorem flat_ints (ys : List Int) : (ys.map V.int).all flatV = true := by
  rw [List.all_map]
  exact List.all_eq_true.mpr fun _ _ => rfl
theorem mt_tup_indexI {X : Cx} : MtR X "tuple.index" (rTupIxI X.K) := by
  intro pins s σ H x xs v us Q I rx rs h
  obtain ⟨p, ys, z, j, rfl, rfl, hq, hy, hno, q⟩ := h
  cases rx
  obtain ⟨u, rfl, t, rfl⟩ := vals1 rs
  obtain ⟨its, r, ⟨⟨cls, dd, dt, sl⟩, ho, hc, n, hd⟩, hz⟩ := I.tuple hq
  dsimp only at hc hd
  subst hc hd
  have hl : its.toArray.size = ys.length := by
    have := r.length
    rw [List.length_map] at this
    rw [List.size_toArray, ← this]
  have hj : j < its.toArray.size := by
    rw [hl]
    exact (List.getElem?_eq_some_iff.mp hy).1
  have spot : ∀ (m : Nat) (hm : m < its.toArray.size), ∃ i t', ys[m]? = some i ∧ its.toArray[m] = Value.int i t' := fun m hm => by
    have lt : m < ys.length := hl ▸ hm
    obtain ⟨w, hw, t', hw'⟩ := r.get (i := m) (x := .int ys[m]) (by simp [lt])
    have e := (List.getElem?_eq_some_iff.mp hw).2
    exact ⟨ys[m], t', List.getElem?_eq_getElem lt, by rw [← hw', ← e]; simp⟩
  refine call_meets PySem.F.slot_tuple_index ⟨_, ho, rfl⟩ PySem.F.entry_tuple_index (PySem.F.args_tuple_index_2 _ _)
    (TI.tuple_indexAt p its.toArray n dd sl (.int z t) (eqU (.int z)) j hj ?_ ?_)
    ⟨ho, fun w hw => mem_eqAt (x := .int z) ⟨t, rfl⟩ rfl r (flat_ints ys) w (by simpa using hw), ⟨.int ((j : Nat) : Int), H, I.tok _, ⟨_, rfl⟩, q⟩⟩
  · obtain ⟨i, t', h1, h2⟩ := spot j hj
    rw [hy] at h1
    cases h1
    rw [h2]
    exact beq_self_eq_true z
  · intro m hm lt
    obtain ⟨i, t', h1, h2⟩ := spot m hm
    rw [h2]
    exact beq_eq_false_iff_ne.mpr fun e => hno m lt (by rw [h1, e])
def tBMt (K : PySem.W.Frag) (r : V → List V → Hp → VK → Prop) (to : TE) (t : TA) : TE := fun σ H Q => to σ H fun x H1 => (∃ p ys, x = .ref p ∧ PuT K H1 p ys) ∧ t σ H1 fun xs H2 => r x xs H2 Q
theorem pe_bmT {X : Cx} {o e : Expr} {es : List Expr} {to : TE} {t : TA} {name : Str} {apos cpos : Pos} {id : String} {r : V → List V → Hp → VK → Prop} (pa : PlainAttrs "tuple") (slot : Slot "tuple" name id) (hty : typeOf (.builtin id) = pure (.type "method_descriptor")) (hm : MtR X id r) (ho : PE X o to) (ha : PA X (e :: es) t)
    (hbase : attributeBase o name X.env (eval o X.env) = eval o X.env := by rfl)
    (hfew : ((backTo cpos (starEach (e :: es) X.env)).all (fun x => !x.1) && (backToKw cpos (keywordEach [] X.env)).all (fun x => x.1.isSome) && decide ((e :: es).length + ([] : List Keyword).length + (if ([] : List Keyword).isEmpty then 0 else 1) < 30)) = true := by rfl)
    (hline : (apos.endLine == cpos.line) = true := by rfl) (hst : starEach (e :: es) X.env = (false, eval e X.env) :: starEach es X.env := by rfl) (hplain : (backTo cpos (starEach es X.env)).any (·.1) = false := by rfl) :
    PE X (.Call (.Attribute o name apos) (e :: es) [] cpos) (tBMt X.K r to t) := ⟨fun pins s σ H Q I h => by
  refine wpAny_Call_method_late hbase hfew hline rfl (thn (ho.run pins s σ H _ I h) fun v s1 ⟨x, H1, I1, r1, ty, q1⟩ => ?_)
  obtain ⟨p, ys, rfl, hp⟩ := ty
  obtain ⟨its, rv, ⟨ob, n, e0, c0, d0, e1⟩, hz⟩ := plainTup I1 hp
  cases r1
  refine ⟨"tuple", id, pa, slot, hty, ⟨ob, e0, c0⟩, fun a ea => by cases ea; exact ⟨ob, e0, d0⟩, ?_⟩
  have hA := ha.run cpos pins s1 σ H1 _ I1 q1
  rw [hst] at hA ⊢
  refine Calls.callWith_builtin (by show (false || (backTo cpos (starEach es X.env)).any (·.1)) = false; rw [hplain] <;> rfl) (Calls.evalArgs_plain ?_)
  exact thn hA fun us s2 ⟨vs, H2, I2, r2, q2⟩ => hm pins s2 σ H2 (.ref p) vs _ us Q I2 rfl r2 q2⟩
def idxL {α : Type} [DecidableEq α] (xs : List α) (x : α) : Option Int := (xs.findIdx? fun y => decide (y = x)).map fun n => ((n : Nat) : Int)
theorem idxL_at {α : Type} [DecidableEq α] {xs : List α} {x : α} {i : Int} (h : idxL xs x = some i) : ∃ j : Nat, i = (j : Int) ∧ xs[j]? = some x ∧ ∀ m, m < j → xs[m]? ≠ some x := by
  unfold idxL at h
  obtain ⟨j, hj, rfl⟩ := Option.map_eq_some_iff.mp h
  obtain ⟨h1, h2, h3⟩ := List.findIdx?_eq_some_iff_getElem.mp hj
  refine ⟨j, rfl, ?_, fun m hm e => ?_⟩
  · rw [List.getElem?_eq_getElem h1, of_decide_eq_true h2]
  · have lt : m < xs.length := Nat.lt_trans hm h1
    rw [List.getElem?_eq_getElem lt] at e
    have := h3 m hm
    simp only [Option.some.inj e, decide_true] at this
    exact absurd this (by decide)
section
variable {K : PySem.W.Frag} {ε α β γ δ S : Type} {X : L2.St → XK} {De : ε → Own} {G : Sto} {Dd : S → Own} {s : S} {te ta tb : TE}
theorem allP_ints {F : Hp} : ∀ {ys : List Int} {vs : List V}, AllP F (ys.map (tD K eI)) vs → vs = ys.map V.int
  | [], _, h => by cases h; rfl
  | y :: ys, _, h => by
    cases h with
    | cons h1 h2 =>
      rw [allP_ints h2, dp_int h1]
      rfl
theorem evc_tupIx {Ma : (List Int → S → Res ε δ) → Res ε δ} {Mb : S → (Int → S → Res ε δ) → Res ε δ} (ha : EvC K X De ta G Dd s Ma (VP K (tD K eI))) (hb : ∀ s1, EvC K X De tb G Dd s1 (Mb s1) (tD K eI)) :
    EvC K X De (tBMt K (rTupIxI K) ta (tCons tb tNil)) G Dd s (fun kk => Ma fun a s1 => Mb s1 fun b s2 => Res.bind (Res.opt (idxL a b)) fun z => kk z s2) (tD K eI) := fun kk σ H F hs ss o r Q hm q qe =>
  ha _ σ H F hs ss o r _ hm (fun a s1 x H1 F1 t1 hs1 r1 hm1 => by
    obtain ⟨p, vs, rfl, h1, h0⟩ := r1
    refine ⟨⟨p, vs, rfl, puT_up hs1 h1⟩, hb s1 _ σ H1 F1 hs1 (ss.mono t1) o r _ hm1 (fun b s2 y H2 F2 t2 hs2 r2 hm2 => ?_) (fun n e h H2 F2 t2 => qe n e h H2 F2 (t1.trans t2))⟩
    obtain ⟨z, ez, hm3⟩ := Res.sat_opt hm2
    obtain ⟨j, rfl, g1, g2⟩ := idxL_at ez
    have h2 := (puT_up hs2 (h1.up t2)).sq
    rw [allP_ints h0] at h2
    exact ⟨p, a, b, j, rfl, by rw [dp_int r2], h2, g1, g2, q _ s2 _ H2 F2 (t1.trans t2) hs2 (.int _) hm3⟩) qe
end
end TL
end
section
set_option Elab.async false
set_option linter.all false
set_option maxRecDepth 100000
set_option maxHeartbeats 1000000
namespace TL
open PySem PySem.Spec L2
structure InsD (K : PySem.W.Frag) (C : Addr) : Prop where
  c1 : Cls K C
  c2 : PySem.W.findIn K (.ref C) "__class__" = some (some (.builtin "object.__class__"))
  c3 : PySem.W.specialIn K (.builtin "object.__class__") "__get__" = some (some (.builtin "getset_descriptor.__get__"))
  c4 : PySem.W.takesIn K (.builtin "object.__class__") = some true
  c5 : PySem.W.mroIn K C (.type "object") = some true
  c6 : PySem.W.kitOne K (.ref C) (.ref C) = some true
section
variable {K : PySem.W.Frag} {ε ε' ρ α β γ δ S τ τ' σt ω κ : Type} {X : L2.St → XK} {De : ε → Own} {G G1 G2 : Sto} {D0 : Own} {Dd : S → Own} {s : S} {te ta tb tc tx : TE} {C : Addr}
end
end TL
end
section
set_option Elab.async false
set_option linter.all false
set_option maxRecDepth 100000
set_option maxHeartbeats 1000000
namespace TL
open PySem PySem.Spec PyProof.Rows L2
section
variable {K : PySem.W.Frag} {ε ε' ρ α β γ δ S τ τ' σt ω κ : Type} {X : L2.St → XK} {De : ε → Own} {G G1 G2 : Sto} {D0 : Own} {Dd : S → Own} {s : S} {te ta tb tc tx : TE}
end
section
variable {K : PySem.W.Frag} {ε ε' ρ α β γ δ S τ τ' σt ω κ : Type} {X : L2.St → XK} {De : ε → Own} {G G1 G2 : Sto} {D0 : Own} {Dd : S → Own} {s : S} {te ta tb tc tx : TE}
end
end TL
end
section
set_option Elab.async false
set_option linter.all false
set_option maxRecDepth 100000
set_option maxHeartbeats 1000000
namespace TL
open PySem PySem.Spec L2
section
variable {K : PySem.W.Frag} {ε ε' ρ α β γ δ S τ τ' σt ω κ : Type} {X : L2.St → XK} {De : ε → Own} {G G1 G2 : Sto} {D0 : Own} {Dd : S → Own} {s : S} {te ta tb tc tx tn tt ti : TE} {C : Addr}
end
end TL
end
section
set_option Elab.async false
set_option linter.all false
set_option maxRecDepth 100000
set_option maxHeartbeats 1000000
namespace TL
open PySem PySem.Spec L2 PyProof.Rows
abbrev HKvs := List (NestedKey × Addr × V)
abbrev PrH (p : NestedKey × Addr × V) (q : NestedKey × Addr × Value) : Prop := p.1 = q.1 ∧ p.2.1 = q.2.1 ∧ RelV p.2.2 q.2.2
def DhOk (ω : World) (a : Addr) (kvs : HKvs) (h : Heap) : Prop := kvs.length ≤ sizeLine ∧ (a == sysModules) = false ∧ (kvs.map (·.1)).Nodup ∧
  ∃ xs : List (NestedKey × Addr × Value), Paired PrH kvs xs ∧ ∃ o es ep, h.get? a = some o ∧ o.ExactDict ∧ o.data = .dict es ep ∧ es.toList = xs.map fun x => (⟨x.1.hash ω, .ref x.2.1, x.2.2⟩ : DictEntry)
def XD (ω : World) (a : Addr) (kvs : HKvs) : HO := .ext (DhOk ω a kvs)
def KyOk (K : PySem.W.Frag) (H : Hp) (kvs : HKvs) : Prop := ∀ e ∈ kvs, Dp K H (.ref e.2.1) e.1.data ∧ e.1.depth ≤ 8
theorem dh_at {P : Program} {w ω : World} {H : Hp} {h : Heap} {a b : Addr} {kvs : HKvs} (ok : ObjOk P w H h b (XD ω a kvs)) : a = b ∧ DhOk ω a kvs h := by
  obtain ⟨h1, _, st⟩ := ok
  refine ⟨?_, h1⟩
  by_cases ne : a = b
  · exact ne
  · exfalso
    let f : Obj → Obj := fun _ => { cls := .none, data := .fields #[] }
    have z := st h (h.update a f) h1 fun o e => (Heap.get?_update_other h f ne).trans e
    obtain ⟨_, _, _, xs, _, o, es, ep, ho, _⟩ := h1
    obtain ⟨_, _, _, xs', _, o', es', ep', ho', hx', _⟩ := z
    rw [Heap.get?_update_self f ho rfl] at ho'
    cases ho'
    exact nomatch hx'.1
theorem dh_ext {P : Program} {w ω : World} {H : Hp} {h : Heap} {a : Addr} {kvs : HKvs} (ok : DhOk ω a kvs h) : ObjOk P w H h a (XD ω a kvs) := by
  refine ⟨ok, ?_, fun h1 h2 q k => ?_⟩
  · obtain ⟨_, _, _, xs, _, o, es, ep, ho, _⟩ := ok
    exact ⟨o, ho⟩
  · obtain ⟨c1, c2, c3, xs, c4, o, es, ep, ho, c5⟩ := q
    exact ⟨c1, c2, c3, xs, c4, o, es, ep, k o ho, c5⟩
mutual
theorem nest_reads {h : Heap} : ∀ (k : NestedKey) (u : Value) (as : List Addr), Reads h u k.data as → NestedIs h k u
  | .none, _, _, r => by cases r; exact .none
  | .num i, _, _, r => by cases r; exact .int _ _
  | .text x, _, _, r => by cases r; exact .text _ _
  | .tup ks, _, _, r => by
    cases r with
    | tuple h1 h2 h3 h4 => exact .tup h1 h2 h3 (nest_readsA ks _ _ h4)
theorem nest_readsA {h : Heap} : ∀ (ks : List NestedKey) (us : List Value) (as : List Addr), ReadsAll h us (NestedKey.datas ks) as → NestedAll h ks us
  | [], _, _, r => by cases r; exact .nil
  | k :: ks, _, _, r => by
    cases r with
    | cons h1 h2 => exact .cons (nest_reads k _ _ h1) (nest_readsA ks _ _ h2)
end
section
variable {X : Cx} {pins : List (Addr × Obj)} {σ : L2.St} {H : Hp} {s : Shared} {a b : Addr} {k : NestedKey} {kvs : HKvs}
theorem key_is (I0 : Inv X pins σ H s) (hd : Dp X.K H (.ref b) k.data) (dep : k.depth ≤ 8) : (nestedKind X.prog X.w).is s.heap k b := by
  obtain ⟨as, r⟩ := Dp.reads I0 _ _ _ hd (show RelV (.ref b) (Value.ref b) from rfl)
  exact ⟨nest_reads k _ _ r, dep⟩
theorem paired_mem {xs : List (NestedKey × Addr × Value)} (p : Paired PrH kvs xs) : ∀ x ∈ xs, ∃ e ∈ kvs, e.1 = x.1 ∧ e.2.1 = x.2.1 := by
  induction p with
  | nil => intro x hx; cases hx
  | cons h _ ih =>
    intro x hx
    rcases List.mem_cons.mp hx with z | z
    · subst z; exact ⟨_, List.mem_cons_self, h.1, h.2.1⟩
    · obtain ⟨e, he, q⟩ := ih x z
      exact ⟨e, List.mem_cons_of_mem _ he, q⟩
theorem paired_keys {xs : List (NestedKey × Addr × Value)} (p : Paired PrH kvs xs) : xs.map (·.1) = kvs.map (·.1) := by
  induction p with
  | nil => rfl
  | cons h _ ih => rw [List.map_cons, List.map_cons, ih, h.1]
theorem dh_full (I0 : Inv X pins σ H s) (e : Rd H b (XD X.w a kvs)) (ky : KyOk X.K H kvs) : a = b ∧ (b == sysModules) = false ∧ kvs.length ≤ sizeLine ∧ (kvs.map (·.1)).Nodup ∧ ∃ xs, Paired PrH kvs xs ∧ s.heap.DictOfH (nestedKind X.prog X.w) b xs := by
  obtain ⟨e0, c1, c2, c3, xs, c4, o, es, ep, c5, c6, c7, c8⟩ := dh_at (e.ok I0.hok)
  subst e0
  refine ⟨rfl, c2, c1, c3, xs, c4, o, es, ep, c5, c6, c7, c8, fun x hx => ?_, ?_⟩
  · obtain ⟨u, hu, q1, q2⟩ := paired_mem c4 x hx
    obtain ⟨g1, g2⟩ := ky u hu
    rw [q1] at g1 g2
    rw [q2] at g1
    exact key_is I0 g1 g2
  · rw [paired_keys c4]
    exact c3
def valH (kvs : HKvs) (k : NestedKey) : Option V := (kvs.find? fun e => decide (e.1 = k)).map (·.2.2)
def putH (kvs : HKvs) (k : NestedKey) (b : Addr) (v : V) : HKvs := if (kvs.any fun e => decide (e.1 = k)) = true then kvs.map (fun e => if e.1 = k then (e.1, e.2.1, v) else e) else kvs ++ [(k, b, v)]
theorem paired_at {xs : List (NestedKey × Addr × Value)} (p : Paired PrH kvs xs) (k : NestedKey) : (atKey xs k).isSome = (kvs.any fun e => decide (e.1 = k)) := by
  induction p with
  | nil => rfl
  | @cons p q ps qs h _ ih =>
    unfold atKey at ih ⊢
    rw [List.find?_cons, List.any_cons]
    by_cases e : p.1 = k
    · have e' : q.1 = k := h.1 ▸ e
      simp [e, e']
    · have e' : ¬ q.1 = k := h.1 ▸ e
      simp only [e, e', decide_false, Bool.false_or]
      exact ih
theorem paired_put {xs : List (NestedKey × Addr × Value)} (p : Paired PrH kvs xs) {v : V} {r : Value} (rv : RelV v r) : Paired PrH (putH kvs k b v) (storedH xs k b r) := by
  unfold putH storedH
  rw [paired_at p k]
  split
  · have m : ∀ {l : HKvs} {m : List (NestedKey × Addr × Value)}, Paired PrH l m → Paired PrH (l.map fun e => if e.1 = k then (e.1, e.2.1, v) else e) (m.map (putAt k r)) := by
      intro l m q
      induction q with
      | nil => exact .nil
      | @cons p q ps qs h _ ih =>
        rw [List.map_cons, List.map_cons]
        refine .cons ?_ ih
        unfold putAt
        by_cases e : p.1 = k
        · have e' : q.1 = k := h.1 ▸ e
          rw [if_pos e, if_pos e']
          exact ⟨h.1, h.2.1, rv⟩
        · have e' : ¬ q.1 = k := h.1 ▸ e
          rw [if_neg e, if_neg e']
          exact h
    exact m p
  · have m : ∀ {l : HKvs} {m : List (NestedKey × Addr × Value)}, Paired PrH l m → Paired PrH (l ++ [(k, b, v)]) (m ++ [(k, b, r)]) := by
      intro l m q
      induction q with
      | nil => exact .cons ⟨rfl, rfl, rv⟩ .nil
      | cons h _ ih => exact .cons h ih
    exact m p
theorem putH_len (kvs : HKvs) (k : NestedKey) (b : Addr) (v : V) : (putH kvs k b v).length ≤ kvs.length + 1 := by
  unfold putH
  split
  · rw [List.length_map]; omega
  · rw [List.length_append]; exact Nat.le_refl _
theorem room8 (hu : X.A.units + 64 < cLine) : (nestedKind X.prog X.w).room X.A.in1 := by
  show X.A.units + 1 + 8 < cLine
  omega
end
structure AtH (ω : World) (K : PySem.W.Frag) (H : Hp) (x y : V) (a : Addr) (kvs : HKvs) (k : NestedKey) : Prop where
  dict : x = .ref a
  rd : ∃ a', Rd H a (XD ω a' kvs)
  ky : KyOk K H kvs
  key : ∃ b, y = .ref b ∧ Dp K H (.ref b) k.data
  dep : k.depth ≤ 8
def sHPut (ω : World) (K : PySem.W.Frag) (td ty tv : TE) : TS := fun D σ H => tv σ H fun v H1 => td σ H1 fun x H2 => ty σ H2 fun y H3 => ∃ a a' b kvs k, x = .ref a ∧ H3 a = some (XD ω a' kvs) ∧ KyOk K H3 kvs ∧ y = .ref b ∧ Dp K H3 (.ref b) k.data ∧ k.depth ≤ 8 ∧ kvs.length < sizeLine ∧ D.nx σ (upd H3 a (XD ω a' (putH kvs k b v)))
def tHNew (ω : World) : TE := fun _ H Q => ∀ p, H p = none → Q (.ref p) (upd H p (XD ω p []))
def rSortH (ω : World) (K : PySem.W.Frag) : List V → Hp → VK → Prop := fun xs H Q => ∃ (a a' : Addr) (kvs : HKvs), xs = [.ref a] ∧ Rd H a (XD ω a' kvs) ∧ KyOk K H kvs ∧ PySem.W.AllAlike (kvs.map fun e => e.1.data) ∧ PySem.W.Sortable (kvs.map fun e => e.1.data) ∧ (∀ e ∈ kvs, e.1.data.depth < 60) ∧
  ∀ p, H p = none → Q (.ref p) (upd H p (.lst ((((kvs.map fun e => V.ref e.2.1).zip (kvs.map fun e => e.1.data)).mergeSort (PySem.W.dataLe false Prod.snd)).map Prod.fst)))
section
variable {X : Cx} {o i e value : Expr} {pos pos' tpos : Pos} {td ty tv : TE}
theorem ps_hput (hu : X.A.units + 64 < cLine) (ho : PE X o td) (hi : PE X i ty) (hv : PE X value tv) (hs : swapsWith value (some (.Subscript o i pos')) pos.line X.env = pure false) :
    PS X (.Assign [.Subscript o i pos'] value pos) (sHPut X.w X.K td ty tv) := ⟨fun pins s σ H D I0 h => by
  refine wpAny_Assign_Subscript (thn (hv.run pins s σ H _ I0 h) fun r s1 ⟨v, H1, I1, rv, q1⟩ => thn (ho.run pins s1 σ H1 _ I1 q1) fun u s2 ⟨x, H2, I2, rx, q2⟩ => thn (hi.run pins s2 σ H2 _ I2 q2) fun iv s3 ⟨y, H3, I3, ry, a, a', b, kvs, k, ex, e, ky, ey, hk, dep, hl, q3⟩ => ?_) hs
  subst ex ey
  cases rx
  cases ry
  obtain ⟨ea, c1, c2, c3, xs, c4, c5⟩ := dh_full I3 (.inl e) ky
  subst ea
  have hz : xs.length ≤ sizeLine := by rw [← Paired.length c4]; exact c2
  refine wpAny_setItem_heap (hsz := hz) (room8 hu) (key_is I3 hk dep) c5 fun h' hm' hs' => ?_
  have c6 : Paired PrH (putH kvs k b v) (storedH xs k b r) := paired_put c4 rv
  obtain ⟨ob, es, ep, g1, g2, g3, g4, g5, g6⟩ := hm'
  have nw : DhOk X.w a' (putH kvs k b v) h' := ⟨Nat.le_trans (putH_len _ _ _ _) hl, c1, by rw [← paired_keys c6]; exact g6, _, c6, ob, es, ep, g1, g2, g3, g4⟩
  exact ⟨σ, _, I3.write (x := a') (e := a') (by rw [e]; exact True.intro) (.inl rfl) (fun c q hb z => (hs'.2 c hb).trans z) ⟨ob, g1⟩ (dh_ext nw), q3⟩⟩
theorem pe_hnew : PE X (.Dict [] [] pos) (tHNew X.w) := ⟨fun pins s σ H Q I0 h => by
  have hm : (s.heap.objs.size == sysModules) = false := beq_eq_false_iff_ne.mpr (Nat.ne_of_gt I0.big)
  refine wpAny_Dict_empty ⟨.ref s.heap.objs.size, _, I0.laid (a := s.heap.objs.size) (t' := s.toks) (fun _ _ q => Heap.get?_push_of_some _ q) (Nat.le_refl _) (dh_ext (kvs := []) ⟨Nat.zero_le _, hm, List.nodup_nil, [], .nil, _, #[], 0, Heap.get?_push_size _ rfl, ⟨rfl, rfl, rfl⟩, rfl, rfl⟩), rfl, h _ (I0.hok.fresh (Nat.le_refl _))⟩⟩
theorem keys_col {H : Hp} {h : Heap} {es : Array DictEntry} {xs : List (NestedKey × Addr × Value)} {kvs : HKvs} {acc : Array Value} (c4 : Paired PrH kvs xs) (c8 : es.toList = xs.map fun x => (⟨x.1.hash X.w, .ref x.2.1, x.2.2⟩ : DictEntry))
    (hacc : ItemsOf (fun i v => ∃ hi : i < es.size, v = es[i].key) acc es.size) : acc.toList = kvs.map fun e => Value.ref e.2.1 := by
  have hz : es.size = xs.length := by rw [← Array.length_toList, c8, List.length_map]
  have hl : kvs.length = xs.length := Paired.length c4
  refine List.ext_getElem? fun j => ?_
  by_cases hj : j < acc.size
  · have hje : j < es.size := hacc.1 ▸ hj
    obtain ⟨_, q⟩ := hacc.2 j acc[j] (Array.getElem?_eq_getElem hj)
    rw [Array.getElem?_toList, Array.getElem?_eq_getElem hj, q, List.getElem?_map]
    have e1 : es.toList[j]? = some es[j] := by rw [Array.getElem?_toList]; exact Array.getElem?_eq_getElem hje
    rw [c8, List.getElem?_map] at e1
    have hx : j < xs.length := by omega
    rw [List.getElem?_eq_getElem hx] at e1
    have e2 := Option.some.inj e1
    have hk : j < kvs.length := by omega
    rw [List.getElem?_eq_getElem hk, ← e2]
    have g : ∀ {l : HKvs} {m : List (NestedKey × Addr × Value)}, Paired PrH l m → ∀ (j : Nat) (h1 : j < l.length) (h2 : j < m.length), l[j].2.1 = m[j].2.1 := by
      intro l m q
      induction q with
      | nil => intro j h1; simp at h1
      | cons h _ ih =>
        intro j h1 h2
        cases j with
        | zero => exact h.2.1
        | succ j => simpa using ih j (by simpa using h1) (by simpa using h2)
    show some (Value.ref _) = some (Value.ref _)
    rw [g c4 j hk hx]
  · have e1 : acc.toList[j]? = none := by rw [Array.getElem?_toList]; exact Array.getElem?_eq_none (by omega)
    have e2 : (kvs.map fun e => Value.ref e.2.1)[j]? = none := List.getElem?_eq_none (by rw [List.length_map]; have := hacc.1; omega)
    rw [e1, e2]
theorem vals_refs : ∀ kvs : HKvs, Vals (kvs.map fun e => V.ref e.2.1) (kvs.map fun e => Value.ref e.2.1)
  | [] => .nil
  | e :: kvs => .cons rfl (vals_refs kvs)
end
section
variable {X : Cx}
theorem dpAll_refs {K : PySem.W.Frag} {H : Hp} : ∀ {kvs : HKvs}, KyOk K H kvs → DpAll K H (kvs.map fun e => V.ref e.2.1) (kvs.map fun e => e.1.data)
  | [], _ => .nil
  | e :: kvs, h => .cons (h e List.mem_cons_self).1 (dpAll_refs fun x hx => h x (List.mem_cons_of_mem _ hx))
open PySem.W PySem.Calls in
theorem cr_sortedH (hc : X.calm = true) (hu : X.A.units + 64 < cLine) : CallR X (.builtin "sorted") (rSortH X.w X.K) := by
  intro pins s σ H xs us Q I0 r q
  obtain ⟨a, a', kvs, rfl, e, ky, hal, hk, hdep, q⟩ := q
  rw [Vals.ref1 r]
  obtain ⟨e0, c1, c2, c3, xs, c4, o, es, ep, c5, c6, c7, c8⟩ := dh_at (e.ok I0.hok)
  subst e0
  have hz : es.size = kvs.length := by rw [← Array.length_toList, c8, List.length_map]; exact (Paired.length c4).symm
  refine call_function_entry kind_sorted plain_sorted entry_sorted (args_sorted1 _) ?_
  unfold Builtin.«sorted»
  refine wpAny_bind (m := checkCount "sorted" 1 1 _) (wpAny_pure ?_)
  refine wpAny_bind (kdu_collect (A := X.A.in1) (KdlSrc.rawDict (es := es) (ep := ep) c2) (I0.ok.hd hc) ⟨o, c5, c6, c7⟩ (by rw [hz]; exact c1) fun h' tk acc hkp hacc => ?_)
  rw [keys_col (X := X) (H := H) (h := h') c4 c8 hacc]
  have hL : (kvs.map fun e => Value.ref e.2.1).length ≤ sizeLine := by rw [List.length_map]; exact c1
  generalize hvs : (kvs.map fun e => Value.ref e.2.1) = vs at hL ⊢
  have I1 : Inv X pins σ H { s with heap := h', toks := tk } := I0.kept hkp
  refine wpAny_bind (wpAny_newList ?_ hL)
  have hoL : (h'.push (seqObj "list" vs.toArray 0)).get? h'.objs.size = some (seqObj "list" vs.toArray 0) := Heap.get?_push_size _ rfl
  show wpAny _ _ _ _ _ { s with heap := h'.push (seqObj "list" vs.toArray 0), toks := tk }
  have rv : Vals (kvs.map fun e => V.ref e.2.1) vs := hvs ▸ vals_refs kvs
  have hd := dpAll_refs ky
  obtain ⟨hzz, hll⟩ := dpAll_snd hd
  obtain ⟨e1, e2⟩ := each_zip I1 hd rv
  have er' : EachIs (fun u (b : V × PyData) => ∃ as, Reads (sortingHeap (h'.push (seqObj "list" vs.toArray 0)) h'.objs.size vs) u b.2 as) vs ((kvs.map fun e => V.ref e.2.1).zip (kvs.map fun e => e.1.data)) := e2.mono fun _ _ ⟨as, r⟩ => ⟨as, PyProof.Rows.Reads.keeps (fun b o hb => sortingHeap_old (Nat.ne_of_lt (Heap.lt_size hb)) (Heap.get?_push_of_some _ hb)) r⟩
  have hal' : AllAlike (((kvs.map fun e => V.ref e.2.1).zip (kvs.map fun e => e.1.data)).map Prod.snd) := by rw [hzz]; exact hal
  have hk' : Sortable (((kvs.map fun e => V.ref e.2.1).zip (kvs.map fun e => e.1.data)).map Prod.snd) := by rw [hzz]; exact hk
  have hb : ∀ d, d ∈ ((kvs.map fun e => V.ref e.2.1).zip (kvs.map fun e => e.1.data)).map Prod.snd → X.A.in1.in1.units + d.depth < cLine := fun d m => by
    rw [hzz] at m
    obtain ⟨x, hx, ed⟩ := List.mem_map.mp m
    have := hdep x hx
    rw [ed] at this
    have u2 : X.A.in1.in1.units = X.A.units + 2 := rfl
    omega
  have z := sortVals_data (R := fun u (b : V × PyData) => RelV b.1 u) (enc := Prod.snd) false e1 er' hal'
  refine wpAny_bind (wpAny_holding (wpAny_call_entry slot_list_sort ⟨_, hoL, rfl⟩ entry_list_sort ?body (args_list_sort _)))
  case body =>
    refine list_sort_vals (s := { s with heap := h'.push (seqObj "list" vs.toArray 0), toks := tk }) hoL (SortsAt.data (s := { s with heap := sortingHeap (h'.push (seqObj "list" vs.toArray 0)) h'.objs.size vs, toks := tk }) (each_map (R := fun v d => ∃ as, Reads (sortingHeap (h'.push (seqObj "list" vs.toArray 0)) h'.objs.size vs) v d as) Prod.snd er') hal' hk' hb) hL ⟨_, rfl, wpAny_pure ⟨_, rfl, ?_⟩⟩
    obtain ⟨ep', he'⟩ := PyProof.Rows.sortedHeap_at (vs := vs) (out := (sortVals (dataKind (sortingHeap (h'.push (seqObj "list" vs.toArray 0)) h'.objs.size vs) (((kvs.map fun e => V.ref e.2.1).zip (kvs.map fun e => e.1.data)).map Prod.snd)) false vs vs).toArray) hoL
    have hv := each_vals z
    have hlen2 : ((((kvs.map fun e => V.ref e.2.1).zip (kvs.map fun e => e.1.data)).mergeSort (dataLe false Prod.snd)).map Prod.fst).length ≤ sizeLine := by
      rw [List.length_map, List.length_mergeSort, List.length_zip, List.length_map, List.length_map, Nat.min_self]
      exact c1
    refine ⟨.ref h'.objs.size, upd H h'.objs.size (.lst ((((kvs.map fun e => V.ref e.2.1).zip (kvs.map fun e => e.1.data)).mergeSort (dataLe false Prod.snd)).map Prod.fst)), I1.laid (t' := tk) (fun b u e => ?_) (Nat.le_refl _) ⟨hlen2, _, ep', hv, he'⟩, rfl, q _ (I1.hok.fresh (Nat.le_refl _))⟩
    have hb' : b < h'.objs.size := Heap.lt_size e
    show (PyProof.Rows.sortedHeap _ _ _ _).get? b = some u
    rw [PyProof.Rows.sortedHeap_old (Nat.ne_of_lt hb') (by rw [size_push']; exact Nat.lt_succ_of_lt hb')]
    exact Heap.get?_push_of_some _ e
end
end TL
end
section
set_option Elab.async false
set_option linter.all false
set_option maxRecDepth 100000
set_option maxHeartbeats 1000000
namespace TL
open PySem PySem.Spec L2 PyProof.Rows
structure KL (κ : Type) where
  f : κ → NestedKey
  inj : ∀ a b, f a = f b → a = b
  e : κ → PyData
  he : ∀ x, (f x).data = e x
  n : Nat
  dep : ∀ x, (f x).depth ≤ n
def klS : KL Tx := ⟨fun t => .text t.s, (fun a b h => Tx.ext' (NestedKey.text.inj h)), eS, fun _ => rfl, 0, fun _ => Nat.le_refl _⟩
def klI : KL Int := ⟨fun i => .num i, (fun a b h => NestedKey.num.inj h), eI, fun _ => rfl, 0, fun _ => Nat.le_refl _⟩
def kl2 {α β : Type} (a : KL α) (b : KL β) : KL (α × β) := ⟨fun x => .tup [a.f x.1, b.f x.2], (fun x y h => by
  have h1 := NestedKey.tup.inj h
  have h2 := a.inj _ _ (List.cons.inj h1).1
  have h3 := b.inj _ _ (List.cons.inj (List.cons.inj h1).2).1
  exact Prod.ext h2 h3), fun x => .tuple [a.e x.1, b.e x.2], (fun x => by rw [NestedKey.data, NestedKey.datas, NestedKey.datas, NestedKey.datas, a.he, b.he]), a.n + b.n + 1, fun x => by
  have h1 := a.dep x.1
  have h2 := b.dep x.2
  simp only [NestedKey.depth, NestedKey.depthAll]
  omega⟩
theorem datas_map {α : Type} (a : KL α) : ∀ xs : List α, NestedKey.datas (xs.map a.f) = xs.map a.e
  | [] => rfl
  | x :: xs => by rw [List.map_cons, NestedKey.datas, datas_map a xs, a.he, List.map_cons]
theorem depth_map {α : Type} (a : KL α) : ∀ xs : List α, NestedKey.depthAll (xs.map a.f) ≤ a.n
  | [] => Nat.zero_le _
  | x :: xs => by
    rw [List.map_cons, NestedKey.depthAll]
    exact Nat.max_le.mpr ⟨a.dep x, depth_map a xs⟩
def klV {α : Type} (a : KL α) : KL (List α) := ⟨fun xs => .tup (xs.map a.f), (fun x y h => List.map_inj_right a.inj |>.mp (NestedKey.tup.inj h)), fun xs => .tuple (xs.map a.e), (fun x => by rw [NestedKey.data, datas_map]), a.n + 1, fun xs => by
  rw [NestedKey.depth]
  exact Nat.succ_le_succ (depth_map a xs)⟩
structure KeyN (κ : Type) where
  k : KL κ
  le : k.n ≤ 8
  tup : ∀ x, ∃ ds, k.e x = .tuple ds
@[reducible] def KeyN.f {κ : Type} (k : KeyN κ) : κ → NestedKey := k.k.f
@[reducible] def KeyN.e {κ : Type} (k : KeyN κ) : κ → PyData := k.k.e
def kn2 {α β : Type} (a : KL α) (b : KL β) (h : (kl2 a b).n ≤ 8 := by decide) : KeyN (α × β) := ⟨kl2 a b, h, fun _ => ⟨_, rfl⟩⟩
def knV {α : Type} (a : KL α) (h : (klV a).n ≤ 8 := by decide) : KeyN (List α) := ⟨klV a, h, fun _ => ⟨_, rfl⟩⟩
inductive EntH {κ α : Type} (K : PySem.W.Frag) (k : KeyN κ) (Rk : κ → Ty) (R : α → Ty) (F : Hp) : HKvs → List (κ × α) → Prop
  | nil : EntH K k Rk R F [] []
  | cons {x : κ} {b : Addr} {v : V} {d : α} {kvs : HKvs} {m : List (κ × α)} : (Rk x).p (.ref b) F → (R d).p v F → EntH K k Rk R F kvs m → EntH K k Rk R F ((k.f x, b, v) :: kvs) ((x, d) :: m)
section
variable {K : PySem.W.Frag} {κ α : Type} [DecidableEq κ] {k : KeyN κ} {Rk : κ → Ty} {R : α → Ty} {F F' : Hp} {kvs : HKvs} {m : List (κ × α)}
omit [DecidableEq κ] in
theorem EntH.mono (h : EntH K k Rk R F kvs m) (s : Same F F') : EntH K k Rk R F' kvs m := by
  induction h with
  | nil => exact .nil
  | cons g h _ ih => exact .cons ((Rk _).mono s g) ((R _).mono s h) ih
omit [DecidableEq κ] in
theorem EntH.len (h : EntH K k Rk R F kvs m) : kvs.length = m.length := by
  induction h with
  | nil => rfl
  | cons _ _ _ ih => simp [ih]
omit [DecidableEq κ] in
theorem EntH.ky (h : EntH K k Rk R F kvs m) (hd : ∀ x, Dat K (Rk x) (k.e x)) {H : Hp} (s : Same F H) : KyOk K H kvs := by
  induction h with
  | nil => intro e he; cases he
  | cons g h _ ih =>
    intro e he
    rcases List.mem_cons.mp he with z | z
    · subst z
      refine ⟨?_, Nat.le_trans (k.k.dep _) k.le⟩
      show Dp K H _ (k.k.f _).data
      rw [k.k.he]
      exact dp_mono s _ _ (hd _ _ _ g)
    · exact ih e z
theorem EntH.get (h : EntH K k Rk R F kvs m) (x : κ) : (dget m x = none ∧ valH kvs (k.f x) = none) ∨ ∃ d v, dget m x = some d ∧ valH kvs (k.f x) = some v ∧ (R d).p v F := by
  induction h with
  | nil => exact .inl ⟨rfl, rfl⟩
  | @cons x' b v d kvs m hk hd _ ih =>
    by_cases e : x' = x
    · subst e
      exact .inr ⟨d, v, by simp [dget], by simp [valH], hd⟩
    · have e1 : dget ((x', d) :: m) x = dget m x := by simp [dget, e]
      have e2 : valH ((k.f x', b, v) :: kvs) (k.f x) = valH kvs (k.f x) := by
        have e' : ¬ k.f x' = k.f x := fun z => e (k.k.inj _ _ z)
        simp [valH, e']
      rw [e1, e2]
      exact ih
theorem EntH.any (h : EntH K k Rk R F kvs m) (x : κ) : (kvs.any fun e => decide (e.1 = k.f x)) = (m.any fun e => decide (e.1 = x)) := by
  induction h with
  | nil => rfl
  | @cons x' b v d kvs m _ _ _ ih =>
    rw [List.any_cons, List.any_cons, ih]
    congr 1
    by_cases e : x' = x
    · subst e; simp
    · have e' : ¬ k.f x' = k.f x := fun z => e (k.k.inj _ _ z)
      simp [e, e']
theorem EntH.put (h : EntH K k Rk R F kvs m) {x : κ} {b : Addr} {v : V} {d : α} (hk : (Rk x).p (.ref b) F) (hd : (R d).p v F) : EntH K k Rk R F (putH kvs (k.f x) b v) (dput m x d) := by
  unfold putH dput
  rw [h.any x]
  split
  · rename_i hany
    clear hk hany
    induction h with
    | nil => exact .nil
    | @cons x' b' v' d' kvs m g h _ ih =>
      rw [List.map_cons, List.map_cons]
      by_cases e : x' = x
      · subst e
        rw [if_pos rfl, if_pos rfl]
        exact .cons g hd ih
      · rw [if_neg (fun z => e (k.k.inj _ _ z)), if_neg e]
        exact .cons g h ih
  · rename_i hany
    clear hany
    induction h with
    | nil => exact .cons hk hd .nil
    | cons g h _ ih => exact .cons g h ih
omit [DecidableEq κ] in
theorem EntH.keysP (h : EntH K k Rk R F kvs m) : AllP F ((m.map (·.1)).map Rk) (kvs.map fun e => V.ref e.2.1) := by
  induction h with
  | nil => exact .nil
  | cons g _ _ ih => exact .cons g ih
omit [DecidableEq κ] in
theorem EntH.datas (h : EntH K k Rk R F kvs m) : (kvs.map fun e => e.1.data) = (m.map (·.1)).map k.e := by
  induction h with
  | nil => rfl
  | cons g _ _ ih =>
    rw [List.map_cons, List.map_cons, List.map_cons, ih]
    exact congrArg (· :: _) (k.k.he _)
end
def OHT {κ α : Type} (K : PySem.W.Frag) (ω : World) (k : KeyN κ) (Rk : κ → Ty) (R : α → Ty) (m : List (κ × α)) : OTy := .fl (fun o F => ∃ a kvs, o = XD ω a kvs ∧ EntH K k Rk R F kvs m) (fun s ⟨a, kvs, e, h⟩ => ⟨a, kvs, e, h.mono s⟩)
def DHT {κ α : Type} (K : PySem.W.Frag) (ω : World) (k : KeyN κ) (Rk : κ → Ty) (R : α → Ty) (m : List (κ × α)) : Ty := ⟨fun v F => ∃ a a' od kvs, v = .ref a ∧ F a = some (.frz od (XD ω a' kvs)) ∧ EntH K k Rk R F kvs m, fun s ⟨a, a', od, kvs, h0, h1, h2⟩ => ⟨a, a', od, kvs, h0, s _ _ h1, h2.mono s⟩⟩
section
variable {K : PySem.W.Frag} {ω : World} {ε ε' ρ α β γ δ S τ τ' σt κ : Type} [DecidableEq κ] {X : L2.St → XK} {De : ε → Own} {G G1 G2 : Sto} {D0 : Own} {Dd : S → Own} {s : S} {te ta tb tc tx : TE} {tt tu : TT} {F0 F1 : Hp} {E : Ends} {w : Wish K ε ρ} {t : TA} {n : Nat} {k : KeyN κ} {Rk : κ → Ty} {Rv : β → Ty}
def DVh {S α β κ : Type} (K : PySem.W.Frag) (ω : World) (Dd : S → Own) (R : α → Ty) (f : α → List (κ × β)) (k : KeyN κ) (Rk : κ → Ty) (Rv : β → Ty) : Prop := ∀ x s v H F, HS (Dd s) H F → (R x).p v F → ∃ a a' kvs, v = .ref a ∧ EntH K k Rk Rv F kvs (f x) ∧ (H a = some (XD ω a' kvs) ∨ ∃ od, H a = some (.frz od (XD ω a' kvs)))
omit [DecidableEq κ] in
theorem dvh_Z : DVh K ω Dd (DHT K ω k Rk Rv) id k Rk Rv := fun x s v H F hs ⟨a, a', od, kvs, h0, h1, h2⟩ => ⟨a, a', kvs, h0, h2, .inr ⟨od, hs.sub _ _ h1⟩⟩
variable {R : α → Ty} {f : α → List (κ × β)} {Ma : (α → S → Res ε δ) → Res ε δ} {Mb : S → (κ → S → Res ε δ) → Res ε δ}
omit [DecidableEq κ] in
theorem key_ref (hd : ∀ x, Dat K (Rk x) (k.e x)) {x : κ} {v : V} {F : Hp} (r : (Rk x).p v F) : ∃ b, v = .ref b := by
  have z := hd x _ _ r
  obtain ⟨ds, e⟩ := k.tup x
  rw [show k.e x = .tuple ds from e] at z
  obtain ⟨a, xs, e1, _⟩ := dp_tup (K := K) (F := F) (ds := ds) z
  exact ⟨a, e1⟩
omit [DecidableEq κ] in
theorem evnc_hnewT : EvNC (β := δ) K X De (tHNew ω) G Dd s (fun kk => kk [] s) (OHT K ω k Rk Rv) := fun kk σ H F hs ss o r Q hm q qe p hp => q [] s p _ F (Same.refl _) (hs.new hp ⟨p, [], rfl, .nil⟩) hm
theorem go_hputT (hd : ∀ x, Dat K (Rk x) (k.e x)) {m : List (κ × β)} {j : Nat} {a : Addr} {Ma : (β → S → Res ε ρ) → Res ε ρ} {Mi : S → (κ → S → Res ε ρ) → Res ε ρ} {kk : List (κ × β) × S → Res ε ρ} (ho : G[n]? = some (some (Is (.ref a)))) (h : EvC K w.X w.De te G Dd s Ma Rv) (hi : ∀ s1, EvC K w.X w.De tb G Dd s1 (Mi s1) Rk) (hk : ∀ s, (Dd s)[j]? = some (a, OHT K ω k Rk Rv m))
    {mm : Res ε ρ} (hP : w.W F0 mm) (q : ∀ x, w.W F0 (kk x) → Go E.nx F0 G ((Dd x.2).set j (a, OHT K ω k Rk Rv x.1))) (c : w.cond G := by first | exact trivial | walk_at "cond") (hm : mm = (Ma fun v s1 => Mi s1 fun x s2 => Res.bind (Res.grd (m.length < 100000) (dput m x v, s2)) kk) := by exact rfl) : Go (sHPut ω K (tVar n) tb te E) F0 G (Dd s) := by subst hm; exact (fun σ H F t hs ss =>
  h _ σ H F hs ss _ _ _ hP (fun x s1 v H1 F1 t1 hs1 r1 hm => by
    obtain ⟨v0, e0, r0⟩ := ss.get ho
    have r0' : v0 = .ref a := r0
    subst r0'
    refine ⟨_, e0, hi s1 _ σ H1 F1 hs1 (ss.mono t1) _ _ _ hm (fun y s2 u H2 F2 t2 hs2 r2 hm2 => ?_) (fun n e hr H2 F2 t2 hs2 => w.err hr c σ H2 F2 ((t.trans t1).trans t2) hs2 ((ss.mono t1).mono t2))⟩
    obtain ⟨hl, hm3⟩ := Res.sat_grd hm2
    obtain ⟨o, ho, a', kvs, rfl, h2⟩ := hs2.at (hk s2)
    have l2 := h2.len
    obtain ⟨b, rfl⟩ := key_ref hd r2
    refine ⟨a, a', b, kvs, k.f y, rfl, ho, h2.ky hd hs2.sub, rfl, ?_, Nat.le_trans (k.k.dep _) k.le, by rw [l2]; exact Nat.lt_of_lt_of_le hl sizeLine_big, ?_⟩
    · show Dp K H2 _ (k.k.f y).data
      rw [k.k.he]
      exact dp_mono hs2.sub _ _ (hd _ _ _ r2)
    exact q (dput m y x, s2) hm3 σ _ F2 ((t.trans t1).trans t2) (hs2.put (hk s2) ⟨a', _, rfl, h2.put r2 ((Rv x).mono t2 r1)⟩) ((ss.mono t1).mono t2)) (fun n e hr H1 F1 t1 hs1 => w.err hr c σ H1 F1 (t.trans t1) hs1 (ss.mono t1)))
omit [DecidableEq κ] in
theorem hs_frzHT {D : Own} {H F : Hp} (hs : HS D H F) {j : Nat} {a : Addr} {m : List (κ × β)} (hk : D[j]? = some (a, OHT K ω k Rk Rv m)) : ∃ a' kvs, H a = some (XD ω a' kvs) ∧ ∀ od, ∃ F', Same F F' ∧ HS (D.eraseIdx j) (upd H a (.frz od (XD ω a' kvs))) F' ∧ (DHT K ω k Rk Rv m).p (.ref a) F' := by
  obtain ⟨o, ho, a', kvs, rfl, hx⟩ := hs.at hk
  refine ⟨a', kvs, ho, fun od => ?_⟩
  have hs1 : HS (D.set j (a, OTy.fl (fun o _ => o = .frz od (XD ω a' kvs)) fun _ h => h)) (upd H a (.frz od (XD ω a' kvs))) F := hs.put hk rfl
  have hk1 : (D.set j (a, (OTy.fl (fun o _ => o = .frz od (XD ω a' kvs)) fun _ h => h)))[j]? = some (a, OTy.fl (fun o _ => o = .frz od (XD ω a' kvs)) fun _ h => h) := set_at hk
  obtain ⟨o2, ho2, hs2, t2⟩ := hs1.freeze hk1
  have ho2' : o2 = .frz od (XD ω a' kvs) := ho2
  subst ho2'
  refine ⟨_, t2, ?_, a, a', od, kvs, rfl, upd_same, hx.mono t2⟩
  have er : (D.set j (a, (OTy.fl (fun o _ => o = .frz od (XD ω a' kvs)) fun _ h => h))).eraseIdx j = D.eraseIdx j := by
    refine List.ext_getElem? fun i => ?_
    rw [List.getElem?_eraseIdx, List.getElem?_eraseIdx]
    split
    · rw [List.getElem?_set_ne (by omega)]
    · rw [List.getElem?_set_ne (by omega)]
  rw [er] at hs2
  exact hs2
omit [DecidableEq κ] in
theorem go_frzHT {t : TS} {j i : Nat} {a : Addr} {m : List (κ × β)} (hk : D0[j]? = some (a, OHT K ω k Rk Rv m)) (hi : G[i]? = some (some (Is (.ref a)))) (h : Go (t E) F0 (G.set i (some (DHT K ω k Rk Rv m))) (D0.eraseIdx j)) : Go (tFrz t E) F0 G D0 := fun σ H F s hs ss => by
  obtain ⟨a', kvs, ho, f⟩ := hs_frzHT hs hk
  obtain ⟨v, e1, e2⟩ := ss.get hi
  have ev : v = .ref a := e2
  subst ev
  refine ⟨a, _, ho, trivial, fun od => ?_⟩
  obtain ⟨F', t1, hs1, r1⟩ := f od
  have z := (ss.mono t1).set r1 i
  rw [set_get e1] at z
  exact h σ _ F' (s.trans t1) hs1 z
structure SoL {β : Type} (e : β → PyData) (n : Nat) (c : List β → Prop) : Prop where
  alk : ∀ x y, PySem.W.alike (e x) (e y) = true
  dep : ∀ x, (e x).depth ≤ n
  srt : ∀ xs, c xs → PySem.W.Sortable (xs.map e)
omit [DecidableEq κ] in
theorem evnc_sortHT (hd : ∀ x, Dat K (Rk x) (k.e x)) (hv : DVh K ω Dd R f k Rk Rv) {c : List κ → Prop} (so : SoL k.e n c) (hn : n < 60 := by decide) (ha : EvC K X De ta G Dd s Ma R) :
    EvNC K X De (tCB (rSortH ω K) (tCons ta tNil)) G Dd s (fun kk => Ma fun a s1 => Res.bind (Res.grd (c ((f a).map Prod.fst)) (sortG k.e ((f a).map Prod.fst))) fun z => kk z s1) (OLT Rk) := fun kk σ H F hs ss o r Q hm q qe =>
  ha _ σ H F hs ss o r _ hm (fun a s1 v H1 F1 t1 hs1 r1 hm1 => by
    obtain ⟨hc, hm2⟩ := Res.sat_grd hm1
    obtain ⟨p, p', kvs, rfl, h1, h2⟩ := hv a s1 v H1 F1 hs1 r1
    have hr : L2.Rd H1 p (XD ω p' kvs) := by
      rcases h2 with h2 | ⟨od, h2⟩
      · exact .inl h2
      · exact .inr ⟨od, h2⟩
    have ed := h1.datas
    refine ⟨p, p', kvs, rfl, hr, h1.ky hd hs1.sub, ?_, ?_, fun x hx => ?_, fun u hu => ?_⟩
    · rw [ed]; exact PySem.W.AllAlike.of so.alk
    · rw [ed]; exact so.srt _ hc
    · have hm' : x.1.data ∈ (kvs.map fun e => e.1.data) := List.mem_map_of_mem hx
      rw [ed] at hm'
      obtain ⟨y, _, ey⟩ := List.mem_map.mp hm'
      rw [← ey]
      have := so.dep y
      omega
    · rw [ed]
      exact q _ s1 u _ F1 t1 (hs1.new hu ⟨_, rfl, allP_sort (e := k.e) h1.keysP (fun x v r => hd x v F1 r) rfl⟩) hm2) qe
end
theorem sol_of {β : Type} {e : β → PyData} {n : Nat} (h : SoD e n) : SoL e n (fun _ => True) := ⟨h.alk, h.dep, fun xs _ => by
  rcases h.srt with g | g
  · exact PySem.W.Sortable.tuples g
  · exact PySem.W.Sortable.others g⟩
theorem sol_V {β : Type} {e : β → PyData} {n : Nat} (h : SoD e n) : SoL (eV e) (n + 1) (fun xs => ∀ x ∈ xs, x ≠ []) := ⟨fun x y => by
    show PySem.W.alike (.tuple (x.map e)) (.tuple (y.map e)) = true
    have g : ∀ xs ys : List β, PySem.W.alikeAll (xs.map e) (ys.map e) = true := by
      intro xs
      induction xs with
      | nil => intro ys; cases ys <;> simp [PySem.W.alikeAll]
      | cons a xs ih =>
        intro ys
        cases ys with
        | nil => simp [PySem.W.alikeAll]
        | cons b ys => simp [PySem.W.alikeAll, h.alk, ih]
    simp [PySem.W.alike, g], fun x => by
    show (PyData.tuple (x.map e)).depth ≤ n + 1
    have g : ∀ xs : List β, PyData.depthAll (xs.map e) ≤ n := by
      intro xs
      induction xs with
      | nil => simp [PyData.depthAll]
      | cons a xs ih =>
        rw [List.map_cons, PyData.depthAll]
        exact Nat.max_le.mpr ⟨h.dep a, ih⟩
    simp only [PyData.depth]
    have := g x
    omega, fun xs hc => .inl fun d hd => by
    obtain ⟨x, hx, rfl⟩ := List.mem_map.mp hd
    cases x with
    | nil => exact absurd rfl (hc [] hx)
    | cons a r => exact ⟨_, _, rfl⟩⟩
def rMinT (K : PySem.W.Frag) : List V → Hp → VK → Prop := fun us H Q => ∃ (a : Addr) (m : Int) (ns : List Int), us = [V.ref a] ∧ SqT K H a ((m :: ns).map V.int) ∧ Q (.int (ns.foldl min m)) H
theorem reads_ints {h : Heap} : ∀ {us : List Value} {ns : List Int}, Vals (ns.map V.int) us → ReadsAll h us (ns.map .int) []
  | [], [], .nil => .nil
  | _ :: _, n :: ns, .cons r t => by
    obtain ⟨tk, rfl⟩ := r
    exact .cons (as := []) (.int _ _) (reads_ints t)
open PySem.W in
theorem cr_minT {X : Cx} (hc : X.calm = true) (hu : X.A.units + 64 < cLine) : CallR X (.builtin "min") (rMinT X.K) := by
  intro pins s σ H xs us Q I0 r q
  obtain ⟨a, m, ns, rfl, hs, q⟩ := q
  rw [Vals.ref1 r]
  obtain ⟨its, rv, ⟨o, h1, h2, n, h3⟩, hz⟩ := I0.tuple hs
  have hd : PyData.depthAll (PyData.int m :: ns.map .int) = 0 := depth_ints (m :: ns)
  refine min_tuple_data (x := .int m) (xs := ns.map .int) (as := []) (I0.ok.hd hc) ⟨o, h1, h2, n, h3⟩ (by simpa using reads_ints rv) ?_ (by rw [hd]; omega) fun i v h' tk bs _ hr hk => ?_
  · have e : (PyData.int m :: ns.map .int) = (m :: ns).map .int := rfl
    rw [e]
    refine ⟨fun x hx y hy => ?_, fun x hx => ?_⟩
    · obtain ⟨i, _, rfl⟩ := List.mem_map.mp hx
      obtain ⟨j, _, rfl⟩ := List.mem_map.mp hy
      rfl
    · obtain ⟨i, _, rfl⟩ := List.mem_map.mp hx
      exact fun z => nomatch z
  · rw [minD_ints] at hr
    cases hr
    exact ⟨.int _, H, I0.kept hk, ⟨_, rfl⟩, q⟩
section
variable {K : PySem.W.Frag} {ε α δ S : Type} {X : L2.St → XK} {De : ε → Own} {G : Sto} {Dd : S → Own} {s : S} {te : TE}
def minL : List Int → Option Int
  | [] => none
  | m :: ns => some (ns.foldl min m)
theorem evc_minT {M : (List Int → S → Res ε δ) → Res ε δ} (h : EvC K X De te G Dd s M (VP K (tD K eI))) : EvC K X De (tCB (rMinT K) (tCons te tNil)) G Dd s (fun kk => M fun xs s1 => Res.bind (Res.opt (minL xs)) fun z => kk z s1) (tD K eI) := fun kk σ H F hs ss o r Q hm q qe =>
  h _ σ H F hs ss o r _ hm (fun xs s1 v H1 F1 t1 hs1 r1 hm1 => by
    obtain ⟨z, ez, hm2⟩ := Res.sat_opt hm1
    obtain ⟨a, vs, rfl, h1, h2⟩ := r1
    have e1 : vs = xs.map V.int := by
      clear hm1 ez h1
      induction xs generalizing vs with
      | nil => cases h2; rfl
      | cons x xs ih =>
        cases h2 with
        | cons g1 g2 => rw [List.map_cons, ← ih _ g2, dp_int g1]
    subst e1
    cases xs with
    | nil => cases ez
    | cons m ns =>
      cases ez
      exact ⟨a, m, ns, rfl, (puT_up hs1 h1).sq, q _ s1 _ H1 F1 t1 hs1 (.int _) hm2⟩) qe
end
end TL
end
section
set_option Elab.async false
set_option linter.all false
set_option maxRecDepth 100000
set_option maxHeartbeats 1000000
namespace TL
open PySem PySem.Spec L2
section
variable {K : PySem.W.Frag} {ε α β δ S Ω : Type} {X : L2.St → XK} {De : ε → Own} {G : Sto} {Dd : S → Own} {s : S} {te tb : TE}
theorem allP_dat {F : Hp} {Re : β → Ty} {e : β → PyData} (hd : ∀ x, Dat K (Re x) (e x)) : ∀ {xs : List β} {vs : List V}, AllP F (xs.map Re) vs → AllP F (xs.map (tD K e)) vs
  | [], _, h => by cases h; exact .nil
  | x :: xs, _, h => by
    cases h with
    | cons h1 h2 => exact .cons (hd _ _ _ h1) (allP_dat hd h2)
theorem lv_dat {R : α → Ty} {f : α → List β} {Re : β → Ty} {e : β → PyData} (hd : ∀ x, Dat K (Re x) (e x)) (hv : ∀ x s v H F, HS (Dd s) H F → (R x).p v F → ∃ a vs, v = .ref a ∧ SqL K H a vs ∧ AllP F ((f x).map Re) vs) :
    ∀ x s v H F, HS (Dd s) H F → (R x).p v F → ∃ a vs, v = .ref a ∧ SqL K H a vs ∧ AllP F ((f x).map (tD K e)) vs := fun x s v H F hs r => by
  obtain ⟨a, vs, h0, h1, h2⟩ := hv x s v H F hs r
  exact ⟨a, vs, h0, h1, allP_dat hd h2⟩
theorem evc_lenLL {R : α → Ty} {i k : Nat} {a : Addr} {Dd : Ω → Own} {s : Ω} {gt : Ω → List α} {st : Ω → List α → Ω} (B : Bor Dd k a (OLT R) gt st) (hi : G[i]? = some (some (Is (.ref a)))) :
    EvC (β := δ) K X De (tCB (cLen K) (tCons (tVar i) tNil)) G Dd s (fun kk => kk (List.length (gt s) : Int) s) (tD K eI) := fun kk σ H F hs ss o r Q hm q qe => by
  obtain ⟨v, e1, e2⟩ := ss.get hi
  have ev : v = .ref a := e2
  subst ev
  obtain ⟨o1, ho, vs, rfl, hx⟩ := hs.at (B.at_ s)
  have hl := hx.len
  rw [List.length_map] at hl
  refine ⟨_, e1, ?_⟩
  exact ⟨_, vs.length, rfl, .inl ⟨vs, SqL.of ho, rfl⟩, by rw [hl]; exact q _ s _ H F (Same.refl _) hs (.int _) hm⟩
def memD {β : Type} [DecidableEq β] (a : β) (xs : List β) : Bool := decide (a ∈ xs)
theorem memD_iff {β : Type} [DecidableEq β] {a : β} {xs : List β} : memD a xs = true ↔ a ∈ xs := decide_eq_true_iff
variable [DecidableEq β] {R : α → Ty} {f : α → List β} {Re : β → Ty} {e : β → PyData} {n : Nat}
theorem evc_notinM {Ma : (β → S → Res ε δ) → Res ε δ} {Mb : S → (α → S → Res ε δ) → Res ε δ} (he : Enc e n) (hd : ∀ x, Dat K (Re x) (e x)) (hv : ∀ x s v H F, HS (Dd s) H F → (R x).p v F → ∃ a vs, v = .ref a ∧ SqL K H a vs ∧ AllP F ((f x).map Re) vs) (ha : EvC K X De te G Dd s Ma Re) (hb : ∀ s1, EvC K X De tb G Dd s1 (Mb s1) R) (hn : n ≤ 63 := by decide) :
    EvC K X De (tOp (rNotInD K) te tb) G Dd s (fun kk => Ma fun a s1 => Mb s1 fun b s2 => kk (!memD a (f b)) s2) (tD K eB) := evc_notinD he (lv_dat hd hv) (evc_weak ha hd) hb hn
end
end TL
end
section
set_option Elab.async false
set_option linter.all false
set_option maxRecDepth 100000
set_option maxHeartbeats 1000000
namespace TL
open PySem PySem.Spec L2
section
variable {K : PySem.W.Frag} {ε α β δ S : Type} {X : L2.St → XK} {De : ε → Own} {G : Sto} {Dd : S → Own} {s : S} {ta : TE} {tl th : TO}
end
end TL
end
section
set_option Elab.async false
set_option linter.all false
set_option maxRecDepth 100000
set_option maxHeartbeats 1000000
namespace TL
open PySem PySem.Spec L2 PyProof.Rows
section
variable {P : Program} {w : World}
def NoCls (P : Program) (w : World) (n : Nat) (s : Shared) (v : Value) : Prop := ∀ (A : Around) (E : Value → Shared → Prop) (Q : Bool → Shared → Prop), Q false s → wpAny (model P w) A (ofAClassStatement n v) Q E s
def Says (P : Program) (w : World) (n : Nat) (s : Shared) (v : Value) : Prop := ∀ (A : Around) (E : Value → Shared → Prop) (Q : Bool → Shared → Prop), (∀ b, Q b s) → wpAny (model P w) A (hashByValue n v) Q E s
theorem noCls_tup {n : Nat} {s : Shared} {a : Addr} {o : Obj} {vs : Array Value} {m : Nat} (ho : s.heap.get? a = some o) (hc : o.cls = .type "tuple") (hd : o.data = .seq vs m) (hq : ∀ v ∈ vs.toList, NoCls P w n s v) : NoCls P w (n + 1) s (.ref a) := fun A E Q h => by
  have hT : s.TypeIs (.ref a) "tuple" := ⟨o, ho, hc⟩
  unfold ofAClassStatement
  refine wpAny_bind (wpAny_typeOf hT ?_)
  have e : (("tuple" : String) == "tuple") = true := by decide
  dsimp only
  rw [if_pos e]
  refine wpAny_bind (wpAny_pure ?_)
  refine wp_if_neg (by decide) ?_
  first
    | skip
  show wpAny _ _ (seqItems? (.ref a) >>= _) _ _ s
  refine wpAny_bind (wpAny_seqItems ho hd ?_)
  refine wpAny_bind ?_
  show wpAny _ _ (forIn vs _ _) _ _ s
  rw [← Array.forIn_toList]
  refine wpAny_forIn_list _ (fun l r s' => r.1 = none ∧ s' = s ∧ ∀ v ∈ l, v ∈ vs.toList) _ ?_ ?_ _ _ ⟨rfl, rfl, fun _ m => m⟩
  · rintro v l r s' ⟨hr, rfl, hall⟩
    refine wpAny_bind (hq v (hall v List.mem_cons_self) _ _ _ ?_)
    refine wp_if_neg Bool.false_ne_true ?_
    exact wpAny_pure ⟨rfl, rfl, fun u m => hall u (List.mem_cons_of_mem _ m)⟩
  · rintro ⟨r1, r2⟩ s' ⟨hr, rfl, _⟩
    cases hr
    exact wpAny_pure h
theorem says_tup {n : Nat} {s : Shared} {a : Addr} {o : Obj} {vs : Array Value} {m : Nat} (ho : s.heap.get? a = some o) (hc : o.cls = .type "tuple") (hd : o.data = .seq vs m) (hq : ∀ v ∈ vs.toList, Says P w n s v) : Says P w (n + 1) s (.ref a) := fun A E Q h => by
  have hT : s.TypeIs (.ref a) "tuple" := ⟨o, ho, hc⟩
  unfold hashByValue
  refine wpAny_bind (wpAny_specialOf hT F.slot_tuple_hash.lookup ?_)
  show wpAny _ _ (seqItems? (.ref a) >>= _) _ _ s
  refine wpAny_bind (wpAny_seqItems ho hd ?_)
  refine wpAny_bind ?_
  show wpAny _ _ (forIn vs _ _) _ _ s
  rw [← Array.forIn_toList]
  refine wpAny_forIn_list _ (fun l r s' => s' = s ∧ ∀ v ∈ l, v ∈ vs.toList) _ ?_ ?_ _ _ ⟨rfl, fun _ m => m⟩
  · rintro v l r s' ⟨rfl, hall⟩
    refine wpAny_bind (hq v (hall v List.mem_cons_self) _ _ _ fun b => ?_)
    cases b with
    | true =>
      refine wp_if_neg (by decide) ?_
      exact wpAny_pure ⟨rfl, fun u m => hall u (List.mem_cons_of_mem _ m)⟩
    | false =>
      refine wp_if_pos (by decide) ?_
      refine wpAny_pure ?_
      exact wpAny_pure (h false)
  · rintro ⟨r1, r2⟩ s' ⟨rfl, _⟩
    cases r1 with
    | none => exact wpAny_pure (h true)
    | some b => exact wpAny_pure (h b)
mutual
theorem noCls_key : ∀ (k : NestedKey) (v : Value) (n : Nat) (s : Shared), NestedIs s.heap k v → k.depth ≤ n → NoCls P w n s v
  | .none, _, n, s, x, _ => by cases x; intro A E Q h; cases n <;> exact wpAny_pure h
  | .num i, _, n, s, x, _ => by cases x <;> intro A E Q h <;> cases n <;> exact wpAny_pure h
  | .text y, _, n, s, x, _ => by cases x; intro A E Q h; cases n <;> exact wpAny_pure h
  | .tup ks, _, n, s, x, hn => by
    cases x with
    | tup h1 h2 h3 h4 =>
      simp only [NestedKey.depth] at hn
      cases n with
      | zero => omega
      | succ n => exact noCls_tup h1 h2 h3 (noCls_keys ks _ n s h4 (by omega))
theorem noCls_keys : ∀ (ks : List NestedKey) (vs : List Value) (n : Nat) (s : Shared), NestedAll s.heap ks vs → NestedKey.depthAll ks ≤ n → ∀ v ∈ vs, NoCls P w n s v
  | [], _, n, s, x, _, v, hv => by cases x; cases hv
  | k :: ks, _, n, s, x, hn, v, hv => by
    cases x with
    | cons x1 x2 =>
      simp only [NestedKey.depthAll] at hn
      rcases List.mem_cons.mp hv with e | hv
      · rw [e]; exact noCls_key k _ n s x1 (by omega)
      · exact noCls_keys ks _ n s x2 (by omega) v hv
end
mutual
theorem says_key : ∀ (k : NestedKey) (v : Value) (n : Nat) (s : Shared), NestedIs s.heap k v → k.depth ≤ n → Says P w n s v
  | .none, _, n, s, x, _ => by cases x; intro A E Q h; cases n <;> exact wpAny_pure (h _)
  | .num i, _, n, s, x, _ => by cases x <;> intro A E Q h <;> cases n <;> exact wpAny_pure (h _)
  | .text y, _, n, s, x, _ => by cases x; intro A E Q h; cases n <;> exact wpAny_pure (h _)
  | .tup ks, _, n, s, x, hn => by
    cases x with
    | tup h1 h2 h3 h4 =>
      simp only [NestedKey.depth] at hn
      cases n with
      | zero => omega
      | succ n => exact says_tup h1 h2 h3 (says_keys ks _ n s h4 (by omega))
theorem says_keys : ∀ (ks : List NestedKey) (vs : List Value) (n : Nat) (s : Shared), NestedAll s.heap ks vs → NestedKey.depthAll ks ≤ n → ∀ v ∈ vs, Says P w n s v
  | [], _, n, s, x, _, v, hv => by cases x; cases hv
  | k :: ks, _, n, s, x, hn, v, hv => by
    cases x with
    | cons x1 x2 =>
      simp only [NestedKey.depthAll] at hn
      rcases List.mem_cons.mp hv with e | hv
      · rw [e]; exact says_key k _ n s x1 (by omega)
      · exact says_keys ks _ n s x2 (by omega) v hv
end
abbrev IsK (P : Program) (w : World) (h : Heap) (k : NestedKey) (a : Addr) : Prop := (nestedKind P w).is h k a
theorem unseen {A : Around} {E : Value → Shared → Prop} {s : Shared} {k : NestedKey} {b : Addr} {Q : Bool → Shared → Prop} (hk : IsK P w s.heap k b) {ys : List Value} (hy : ∀ y ∈ ys, ∃ k' c, y = Value.ref c ∧ IsK P w s.heap k' c) (h : Q false s) :
    wpAny (model P w) A (searchCouldBeSeen (.ref b) ys) Q E s := by
  unfold searchCouldBeSeen
  refine wpAny_bind ?_
  refine wpAny_forIn_list _ (fun l r s' => r.1 = none ∧ s' = s ∧ ∀ y ∈ l, y ∈ ys) _ ?_ ?_ _ _ ⟨rfl, rfl, fun _ m => m⟩
  · rintro v l r s' ⟨hr, rfl, hall⟩
    obtain ⟨k', c, rfl, hc⟩ := hy v (hall v List.mem_cons_self)
    have tl : ∀ y ∈ l, y ∈ ys := fun u m => hall u (List.mem_cons_of_mem _ m)
    dsimp only
    by_cases hv : (b == c || (carriedByValue (.ref b) && carriedByValue (.ref c))) = true
    · exact wp_if_pos hv (wpAny_pure ⟨rfl, rfl, tl⟩)
    · refine wp_if_neg hv (wpAny_bind ((nestedKind P w).quiet hk ?_))
      refine wp_if_neg (by decide) (wpAny_bind ((nestedKind P w).quiet hc ?_))
      refine wp_if_neg (by decide) (wpAny_bind (noCls_key k _ 8 _ hk.1 hk.2 _ _ _ ?_))
      refine wp_if_neg (by decide) (wpAny_bind (noCls_key k' _ 8 _ hc.1 hc.2 _ _ _ ?_))
      exact wp_if_neg (by decide) (wpAny_pure ⟨rfl, rfl, tl⟩)
  · rintro ⟨r1, r2⟩ s' ⟨hr, rfl, _⟩
    cases hr
    exact wpAny_pure h
end
end TL
end
section
set_option Elab.async false
set_option linter.all false
set_option maxRecDepth 100000
set_option maxHeartbeats 1000000
namespace TL
open PySem PySem.Spec L2 PyProof.Rows
section
variable {P : Program} {w : World} {A : Around} {E : Value → Shared → Prop} {s : Shared}
abbrev Mem := Addr × NestedKey
abbrev hOf (w : World) (k : NestedKey) : Int := k.hash w
def entsOf (w : World) (L : List Mem) : List (Int × Value) := L.map fun p => (hOf w p.2, Value.ref p.1)
theorem entsOf_len (w : World) (L : List Mem) : (entsOf w L).length = L.length := List.length_map ..
theorem entsOf_get {w : World} {L : List Mem} {i : Nat} {p : Mem} (h : L[i]? = some p) : (entsOf w L)[i]? = some (hOf w p.2, Value.ref p.1) := by
  unfold entsOf
  rw [List.getElem?_map, h]
  rfl
structure SetK (P : Program) (w : World) (h : Heap) (a : Addr) (L : List Mem) (es : Array (Int × Value)) (t : SetTable) : Prop where
  obj : ∃ o ep, h.get? a = some o ∧ o.ExactSet ∧ o.data = .set es ep t
  ent : es.toList = entsOf w L
  tab : TabOk t (L.map fun p => hOf w p.2)
  nd : (L.map Prod.snd).Nodup
  key : ∀ p ∈ L, IsK P w h p.2 p.1
  led : w.params.followText "set-order" = true ∨ t.led = true
  room : L.length * 5 < t.mask * 3
  few : L.length < 64
variable {a : Addr} {L : List Mem} {es : Array (Int × Value)} {t : SetTable}
theorem SetK.size (R : SetK P w s.heap a L es t) : es.size = L.length := by
  rw [← Array.length_toList, R.ent, entsOf_len]
theorem fits_by {L : List Mem} {es : Array (Int × Value)} {t : SetTable} (h1 : es.size = L.length) (h2 : t.place.size = L.length) (h3 : t.dummies = #[]) (h4 : L.length ≤ t.mask) : t.fits es.size = true := by
  unfold SetTable.fits SetTable.fill
  rw [h3, h1, h2, Bool.and_eq_true, beq_iff_eq, decide_eq_true_eq]
  exact ⟨rfl, by show L.length + 0 ≤ _; omega⟩
theorem SetK.place (R : SetK P w s.heap a L es t) : t.place.size = L.length := by
  have h := R.tab.sz
  rw [List.length_map] at h
  exact h
theorem SetK.fits (R : SetK P w s.heap a L es t) : t.fits es.size = true := fits_by R.size R.place R.tab.dm (by have := R.room; omega)
theorem SetK.at (R : SetK P w s.heap a L es t) {i : Nat} {p : Mem} (h : L[i]? = some p) : es[i]? = some (hOf w p.2, Value.ref p.1) := by
  rw [← Array.getElem?_toList, R.ent]
  exact entsOf_get h
theorem whole_table {t : SetTable} {hs : List Int} (T : TabOk t hs) : ¬ t.gaveWay = true := by
  unfold SetTable.gaveWay
  rw [mask_odd T.mok]
  decide
abbrev go0 (m : Nat) (h : Int) : SetTable.Probe := runAt m (SetTable.bits h % (m + 1)) (SetTable.bits h)
theorem nth_dummy (m : Nat) : ∀ (n : Nat) (p : SetTable.Probe), p.dummy = none → (nth m p n).dummy = none
  | 0, _, h => h
  | n + 1, p, h => nth_dummy m n (adv m p) (by unfold adv; split <;> exact h)
theorem nth_from (m c q : Nat) (h : Int) : nth m (nth m (go0 m h) c) q = nth m (go0 m h) (c + q) := (nth_add m c _ q).symm
def Ahead (w : World) (L : List Mem) (t : SetTable) (k : NestedKey) (c K : Nat) : Prop := ∀ (i : Nat) (p : Mem), L[i]? = some p → p.2 = k → ∃ c', c ≤ c' ∧ c' < K ∧ t.place.toList[i]? = some (way t.mask (hOf w k) c')
theorem seek (R : SetK P w s.heap a L es t) {x : Addr} {k : NestedKey} (hx : IsK P w s.heap k x) (hu : (nestedKind P w).room A) {K : Nat} (hKf : K < 10 * SetTable.turns t.mask)
    (hK : way t.mask (hOf w k) K ∉ t.place.toList) (hb : ∀ c, c < K → way t.mask (hOf w k) c ∈ t.place.toList) {Q : SetFound → Shared → Prop}
    (yes : k ∈ L.map Prod.snd → Q (.there none) s) (no : k ∉ L.map Prod.snd → Q (.free (way t.mask (hOf w k) K) false) s) :
    ∀ (f c : Nat) (st : Option SetTable.Probe), st.getD (t.probeStart (hOf w k)) = nth t.mask (go0 t.mask (hOf w k)) c → c ≤ K → K < c + f → Ahead w L t k c K →
      wpAny (model P w) A (setSearchFrom a (.ref x) (hOf w k) true f st) Q E s := by
  obtain ⟨o, ep, ho, hex, hd⟩ := R.obj
  intro f
  induction f with
  | zero => intro c st _ h1 h2; omega
  | succ f ih =>
    intro c st hst hc hf hah
    rw [setSearchFrom_succ]
    refine wpAny_bind (wpAny_setState_of ho hd R.fits ?_)
    dsimp only
    refine wp_if_neg (whole_table R.tab) ?_
    have hashAt : ∀ (i : Nat) (p : Mem), L[i]? = some p → (es[i]?.map Prod.fst).getD 0 = hOf w p.2 := fun i p hp => by rw [R.at hp]; rfl
    have wj : ∀ q, (nth t.mask (nth t.mask (go0 t.mask (hOf w k)) c) q).j = way t.mask (hOf w k) (c + q) := fun q => congrArg SetTable.Probe.j (nth_from _ _ _ _)
    have passed : ∀ {n : Nat}, (∀ k' i', k' < n → t.place.toList[i']? = some (nth t.mask (nth t.mask (go0 t.mask (hOf w k)) c) k').j → (es[i']?.map Prod.fst).getD 0 ≠ hOf w k) → ∀ {i : Nat} {p : Mem} {c' : Nat}, L[i]? = some p → p.2 = k → c ≤ c' → t.place.toList[i]? = some (way t.mask (hOf w k) c') → c + n ≤ c' := fun {n} hno {i p c'} h1 h2 h3 h4 => by
      rcases Nat.lt_or_ge c' (c + n) with z | z
      · refine absurd ((hashAt i p h1).trans (by rw [h2])) (hno (c' - c) i (by omega) ?_)
        rw [wj, show c + (c' - c) = c' by omega]
        exact h4
      · exact z
    rcases go_spec t R.tab.ris R.tab.dm (fun i => (es[i]?.map Prod.fst).getD 0) (hOf w k) (10 * SetTable.turns t.mask) (K - c) (nth t.mask (go0 t.mask (hOf w k)) c) (nth_dummy _ _ _ rfl) (by omega)
        (fun q hq => by rw [wj]; exact hb _ (by omega)) (by rw [wj, show c + (K - c) = K by omega]; exact hK) with ⟨q, i, hq, hi, hh, hno, hpr⟩ | ⟨hno, hpr⟩
    · have hp1 : t.probe (fun i => (es[i]?.map Prod.fst).getD 0) (hOf w k) (st.getD (t.probeStart (hOf w k))) = some (.candidate (nth t.mask (nth t.mask (go0 t.mask (hOf w k)) c) q).j i (nth t.mask (nth t.mask (go0 t.mask (hOf w k)) c) (q + 1))) := by rw [hst]; exact hpr
      rw [hp1]
      dsimp only
      have hil : i < L.length := by
        have h1 : i < t.place.toList.length := (List.getElem?_eq_some_iff.mp hi).1
        rw [Array.length_toList, R.place] at h1
        exact h1
      obtain ⟨p, hp⟩ : ∃ p, L[i]? = some p := ⟨_, List.getElem?_eq_getElem hil⟩
      have hm : p ∈ L := List.mem_of_getElem? hp
      have tail : wpAny (model P w) A (searchRest a (.ref x) (hOf w k) true f es t (nth t.mask (nth t.mask (go0 t.mask (hOf w k)) c) q).j i (nth t.mask (nth t.mask (go0 t.mask (hOf w k)) c) (q + 1))) Q E s := by
        unfold searchRest
        rw [R.at hp]
        dsimp only
        refine wpAny_bind (wpAny_holding ((nestedKind P w).eqBool hu (R.key p hm) hx ?_))
        refine wpAny_bind (wpAny_setState_of ho hd R.fits ?_)
        dsimp only
        by_cases e : p.2 = k
        · exact wp_if_pos (by simp [e]) (wpAny_pure (yes (List.mem_map.mpr ⟨p, hm, e⟩)))
        · refine wp_if_neg (by simp [e]) ?_
          rw [sameMem]
          dsimp only
          have hsl := slot_live R.tab.ris hi
          simp only [if_true, hsl, R.at hp]
          refine wpAny_bind (wpAny_isSame_ref_self (wpAny_bind (wpAny_pure ?_)))
          simp only [if_true]
          refine wp_if_neg (by simp [e]) ?_
          refine ih (c + (q + 1)) _ (nth_from _ _ _ _) (by omega) (by omega) fun i0 p0 h0 e0 => ?_
          obtain ⟨c', c1, c2, c3⟩ := hah i0 p0 h0 e0
          have g := passed hno h0 e0 c1 c3
          refine ⟨c', ?_, c2, c3⟩
          rcases Nat.lt_or_ge (c + q) c' with y | y
          · omega
          · exfalso
            have ec : c' = c + q := by omega
            rw [ec, ← wj] at c3
            have s0 := slot_live R.tab.ris c3
            rw [hsl] at s0
            cases s0
            rw [hp] at h0
            cases h0
            exact e e0
      by_cases hl : t.led = true
      · exact wp_if_neg (by simp [hl]) tail
      · refine wp_if_pos (by simp [hl]) (wpAny_bind (unseen hx (fun y hy => ?_) (wp_if_neg (by decide) tail)))
        obtain ⟨e, he, rfl⟩ := List.mem_map.mp hy
        have he2 : e ∈ es.toList := by simpa using (by simpa using he : e ∈ es ∧ _).1
        rw [R.ent] at he2
        obtain ⟨p2, h2, rfl⟩ := List.mem_map.mp he2
        exact ⟨p2.2, p2.1, rfl, R.key p2 h2⟩
    · have hp1 : t.probe (fun i => (es[i]?.map Prod.fst).getD 0) (hOf w k) (st.getD (t.probeStart (hOf w k))) = some (.empty (way t.mask (hOf w k) K) none) := by
        rw [hst, show way t.mask (hOf w k) K = (nth t.mask (nth t.mask (go0 t.mask (hOf w k)) c) (K - c)).j by rw [wj, show c + (K - c) = K by omega]]
        exact hpr
      rw [hp1]
      dsimp only
      refine wpAny_pure (no fun hm => ?_)
      obtain ⟨p0, h0, e0⟩ := List.mem_map.mp hm
      obtain ⟨i0, hi0⟩ := List.getElem?_of_mem h0
      obtain ⟨c', c1, c2, c3⟩ := hah i0 p0 hi0 e0
      have g := passed hno hi0 e0 c1 c3
      omega
theorem seek0 (R : SetK P w s.heap a L es t) {x : Addr} {k : NestedKey} (hx : IsK P w s.heap k x) (hu : (nestedKind P w).room A) {Q : SetFound → Shared → Prop}
    (yes : k ∈ L.map Prod.snd → Q (.there none) s)
    (no : ∀ K, k ∉ L.map Prod.snd → way t.mask (hOf w k) K ∉ t.place.toList → (∀ c, c < K → way t.mask (hOf w k) c ∈ t.place.toList) → Q (.free (way t.mask (hOf w k) K) false) s) :
    wpAny (model P w) A (setSearch a (.ref x) (hOf w k) true) Q E s := by
  obtain ⟨K, hKf, hK, hb⟩ := R.tab.first (by rw [List.length_map]; have := R.room; omega) (hOf w k)
  have small : K < 100000 := by
    refine Nat.lt_of_lt_of_le hKf ?_
    unfold SetTable.turns
    rcases R.tab.mok with e | e | e <;> omega
  unfold setSearch
  refine seek R hx hu hKf hK hb yes (fun hn => no K hn hK hb) 100000 0 none rfl (Nat.zero_le _) (by omega) fun i p hp e => ?_
  have h1 : (L.map fun p => hOf w p.2)[i]? = some (hOf w k) := by rw [List.getElem?_map, hp, ← e]; rfl
  have h2 : i < t.place.toList.length := by
    rw [Array.length_toList, R.place]
    exact (List.getElem?_eq_some_iff.mp hp).1
  have h3 := List.getElem?_eq_getElem h2
  obtain ⟨c, hc, ec⟩ := R.tab.before hK h1 h3
  exact ⟨c, Nat.zero_le _, hc, by rw [h3, ec]⟩
end
end TL
end
section
set_option Elab.async false
set_option linter.all false
set_option maxRecDepth 100000
set_option maxHeartbeats 2000000
namespace TL
open PySem PySem.Spec L2 PyProof.Rows
section
variable {P : Program} {w : World} {A : Around} {E : Value → Shared → Prop} {s : Shared}
theorem isK_off {h h' : Heap} {k : NestedKey} {a b : Addr} {o : Obj} {es : Array (Int × Value)} {ep : Nat} {t : SetTable} (hb : IsK P w h k b) (ho : h.get? a = some o) (hd : o.data = .set es ep t) (hs : Heap.SameBut a h h') : IsK P w h' k b :=
  ⟨NestedIs.at (fun c u vs n hc hv => (hs.2 c fun e => by
    subst e
    rw [ho] at hc
    cases hc
    rw [hd] at hv
    cases hv).trans hc) k _ hb.1, hb.2⟩
theorem isK_on {h h' : Heap} {k : NestedKey} {b : Addr} (hb : IsK P w h k b) (hk : ∀ c o, h.get? c = some o → h'.get? c = some o) : IsK P w h' k b :=
  ⟨NestedIs.at (fun c u vs n hc _ => hk c u hc) k _ hb.1, hb.2⟩
theorem ents_order {L : List Mem} {es : Array (Int × Value)} (he : es.toList = entsOf w L) (order : Array Nat) (hp : order.toList.Perm (List.range L.length)) :
    ∃ L2 : List Mem, L2.Perm L ∧ (order.filterMap (es[·]?)).toList = entsOf w L2 ∧ (L2.map fun p => hOf w p.2) = order.toList.map fun i => (es.map Prod.fst).getD i 0 := by
  have hin : ∀ i ∈ order.toList, i < L.length := fun i hi => List.mem_range.mp (hp.mem_iff.mp hi)
  refine ⟨order.toList.filterMap fun i => L[i]?, ?_, ?_, ?_⟩
  · have e : (List.range L.length).filterMap (fun i => L[i]?) = L := by
      refine List.ext_getElem? fun j => ?_
      have g : ∀ n, n ≤ L.length → (List.range n).filterMap (fun i => L[i]?) = L.take n := by
        intro n
        induction n with
        | zero => intro _; rfl
        | succ n ih =>
          intro hn
          rw [List.range_succ, List.filterMap_append, ih (by omega), List.take_add_one]
          congr 1
      rw [g _ (Nat.le_refl _), List.take_length]
    have z := hp.filterMap (fun i => L[i]?)
    rw [e] at z
    exact z
  · rw [Array.toList_filterMap]
    generalize order.toList = l at hin
    induction l with
    | nil => rfl
    | cons i l ih =>
      have hi := hin i List.mem_cons_self
      have e1 : L[i]? = some L[i] := List.getElem?_eq_getElem hi
      have e2 : es[i]? = some (hOf w L[i].2, Value.ref L[i].1) := by
        rw [← Array.getElem?_toList, he]
        exact entsOf_get e1
      rw [List.filterMap_cons_some e2, List.filterMap_cons_some e1, ih fun j hj => hin j (List.mem_cons_of_mem _ hj)]
      rfl
  · generalize order.toList = l at hin
    induction l with
    | nil => rfl
    | cons i l ih =>
      have hi := hin i List.mem_cons_self
      have e1 : L[i]? = some L[i] := List.getElem?_eq_getElem hi
      have e2 : es[i]? = some (hOf w L[i].2, Value.ref L[i].1) := by
        rw [← Array.getElem?_toList, he]
        exact entsOf_get e1
      rw [List.filterMap_cons_some e1, List.map_cons, List.map_cons, ih fun j hj => hin j (List.mem_cons_of_mem _ hj)]
      congr 1
      simp [Array.getD_eq_getD_getElem?, Array.getElem?_map, e2]
variable {a : Addr} {L : List Mem} {es : Array (Int × Value)} {t : SetTable} {ep : Nat} {o : Obj}
structure Half (P : Program) (w : World) (h : Heap) (a : Addr) (L : List Mem) (es : Array (Int × Value)) (t : SetTable) : Prop where
  ent : es.toList = entsOf w L
  tab : TabOk t (L.map fun p => hOf w p.2)
  nd : (L.map Prod.snd).Nodup
  key : ∀ p ∈ L, IsK P w h p.2 p.1
  led : w.params.followText "set-order" = true ∨ t.led = true
  few : L.length < 64
theorem put_relay (ho : s.heap.get? a = some o) (hex : o.ExactSet) (hd : o.data = .set es ep t) (R : Half P w s.heap a L es t) (hm : L.length ≤ t.mask) {wanted M : Nat}
    (hw : SetTable.sizeAbove wanted - 1 = M) (hM : MaskOk M) (hw2 : SetTable.sizeAbove wanted ≤ 128) (hn : L.length * 5 < M * 3) {Q : Unit → Shared → Prop}
    (hQ : ∀ h' L' es' t', Heap.SameBut a s.heap h' → SetK P w h' a L' es' t' → L'.Perm L → Q () { s with heap := h' }) : wpAny (model P w) A (setRelay a wanted) Q E s := by
  have hz : es.size = L.length := by rw [← Array.length_toList, R.ent, entsOf_len]
  have hpl : t.place.size = L.length := by
    have h := R.tab.sz
    rw [List.length_map] at h
    exact h
  obtain ⟨t', order, e, hp, T, em, el, _, _⟩ := relaid_ok t (hs := es.map Prod.fst) (wanted := wanted) hw hM (by rw [Array.size_map, hz]; omega)
  rw [Array.size_map, hz] at hp
  obtain ⟨L2, r2, r1, r3⟩ := ents_order R.ent order hp
  rw [← r3] at T
  have hz2 : (order.filterMap (es[·]?)).size = es.size := by rw [← Array.length_toList, r1, entsOf_len, r2.length_eq, hz]
  rw [setRelay_eq]
  refine wpAny_bind (wpAny_setState_of ho hd (fits_by hz hpl R.tab.dm hm) ?_)
  dsimp only
  refine wp_if_neg (by rw [sizeLine_eq]; omega) ?_
  rw [e]
  dsimp only
  refine wpAny_bind (wp_if_neg (by rw [hz2]; simp) (wpAny_pure ?_))
  dsimp only
  refine wpAny_storeSet_of ho hd ?_ (by rw [hz2, hz, sizeLine_eq]; have := R.few; omega)
  have sb : Heap.SameBut a s.heap (s.heap.update a (Obj.putSet (order.filterMap (es[·]?)) t')) := Heap.SameBut.update ..
  refine hQ _ L2 _ t' sb ⟨⟨_, ep + 1, store_at ho hd, ⟨hex.1, hex.2.1, hex.2.2⟩, rfl⟩, r1, T, (r2.map Prod.snd).nodup_iff.mpr R.nd, fun p hpm => isK_off (R.key p (r2.mem_iff.mp hpm)) ho hd sb, by rw [el]; exact R.led, ?_, by rw [r2.length_eq]; exact R.few⟩ r2
  rw [r2.length_eq, em]
  exact hn
theorem add_key (R : SetK P w s.heap a L es t) {x : Addr} {k : NestedKey} (hx : IsK P w s.heap k x) (hu : (nestedKind P w).room A) (hfew : L.length + 1 < 64) {Q : Bool → Shared → Prop}
    (hQ : ∀ b h' L' es' t', Heap.SameBut a s.heap h' → SetK P w h' a L' es' t' → (k ∈ L.map Prod.snd → L' = L) → (k ∉ L.map Prod.snd → L'.Perm ((x, k) :: L)) → Q b { s with heap := h' }) :
    wpAny (model P w) A (setAddHashed a (.ref x) (hOf w k)) Q E s := by
  obtain ⟨o, ep, ho, hex, hd⟩ := R.obj
  have hroom := R.room
  unfold setAddHashed
  refine wpAny_holding ?_
  rw [show (100000 : Nat) = 99999 + 1 from rfl, setAddHashedIn_succ]
  refine wpAny_bind (wpAny_setState_of ho hd R.fits ?_)
  dsimp only
  refine wp_if_neg (by simp [byScan, Value.scannable]) ?_
  refine wpAny_bind (seek0 R hx hu (fun hm => ?_) fun K hm hK hb => ?_)
  · exact wpAny_pure (hQ false s.heap L es t (Heap.SameBut.refl a s.heap) R (fun _ => rfl) fun z => absurd hm z)
  · dsimp only
    refine wpAny_bind (wpAny_setState_of ho hd R.fits ?_)
    dsimp only
    obtain ⟨q1, q2, q3, q4, q5, _, _, _, q9⟩ := R.tab.put hK hb
    generalize t.put (way t.mask (hOf w k) K) = pt at q1 q3 q4 q5 q9 ⊢
    obtain ⟨t1, p⟩ := pt
    dsimp only at q1 q3 q4 q5 q9 ⊢
    subst q1
    generalize SetTable.below t.place (way t.mask (hOf w k) K) = p at q2 q3 ⊢
    have pm : (L.take p ++ (x, k) :: L.drop p).Perm ((x, k) :: L) := by
      have h := @List.perm_middle _ (x, k) (L.take p) (L.drop p)
      rw [List.take_append_drop] at h
      exact h
    have hent : (SetTable.insertAt es p (hOf w k, Value.ref x)).toList = entsOf w (L.take p ++ (x, k) :: L.drop p) := by
      rw [SetTable.toList_insertAt, R.ent]
      unfold entsOf
      rw [List.map_append, List.map_cons, List.map_take, List.map_drop]
    have htab : (L.map fun p => hOf w p.2).take p ++ hOf w k :: (L.map fun p => hOf w p.2).drop p = (L.take p ++ (x, k) :: L.drop p).map fun p => hOf w p.2 := by
      rw [List.map_append, List.map_cons, List.map_take, List.map_drop]
    rw [htab] at q3
    rw [List.length_map] at q9
    generalize SetTable.insertAt es p (hOf w k, Value.ref x) = es1 at hent ⊢
    generalize L.take p ++ (x, k) :: L.drop p = L1 at pm hent q3
    have hlen : L1.length = L.length + 1 := pm.length_eq
    have hz1 : es1.size = L.length + 1 := by rw [← Array.length_toList, hent, entsOf_len, hlen]
    have byv : ∀ {t2 : SetTable}, (∃ b, t2 = (if b = true then t1 else { t1 with plain := false })) → TabOk t2 (L1.map fun p => hOf w p.2) ∧ t2.mask = t.mask ∧ t2.led = t.led ∧ t2.fill = L.length + 1 := fun {t2} ⟨b, e⟩ => by
      subst e
      cases b with
      | true => exact ⟨q3, q4, q5, q9⟩
      | false => exact ⟨⟨q3.ris, q3.dm, q3.sz, q3.mok, q3.bd, q3.reach⟩, q4, q5, q9⟩
    have more : ∀ t2, (∃ b, t2 = (if b = true then t1 else { t1 with plain := false })) → wpAny (model P w) A (do
        storeSet a es1 t2
        if !false && t2.tooFull then setRelay a (SetTable.grown (es.size + 1))
        return true) Q E s := by
      intro t2 hb2
      obtain ⟨T2, m2, l2, f2⟩ := byv hb2
      refine wpAny_bind (wpAny_storeSet_of ho hd ?_ (by rw [hz1, sizeLine_eq]; omega))
      have sb : Heap.SameBut a s.heap (s.heap.update a (Obj.putSet es1 t2)) := Heap.SameBut.update ..
      have ho1 := store_at (es' := es1) (t' := t2) ho hd
      generalize s.heap.update a (Obj.putSet es1 t2) = h1 at sb ho1 ⊢
      have H : Half P w h1 a L1 es1 t2 := ⟨hent, T2, by
        refine (pm.map Prod.snd).nodup_iff.mpr ?_
        rw [List.map_cons]
        exact List.nodup_cons.mpr ⟨hm, R.nd⟩, fun p hp => by
        rcases List.mem_cons.mp (pm.mem_iff.mp hp) with e | hp
        · rw [e]; exact isK_off hx ho hd sb
        · exact isK_off (R.key p hp) ho hd sb, by rw [l2]; exact R.led, by rw [hlen]; exact hfew⟩
      by_cases hf : t2.tooFull = true
      · have full : (L.length + 1) * 5 ≥ t2.mask * 3 := by
          have h := hf
          unfold SetTable.tooFull at h
          rw [decide_eq_true_eq, f2] at h
          exact h
        have relay : ∀ M, SetTable.sizeAbove (SetTable.grown (L.length + 1)) - 1 = M → MaskOk M → SetTable.sizeAbove (SetTable.grown (L.length + 1)) ≤ 128 → (L.length + 1) * 5 < M * 3 → L.length + 1 ≤ t2.mask →
            wpAny (model P w) A (setRelay a (SetTable.grown (L.length + 1))) (fun _ s' => wpAny (model P w) A (pure true) Q E s') E { s with heap := h1 } := fun M g1 g2 g3 g4 g5 =>
          put_relay (s := { s with heap := h1 }) ho1 ⟨hex.1, hex.2.1, hex.2.2⟩ rfl H (by rw [hlen]; exact g5) g1 g2 g3 (by rw [hlen]; exact g4) fun h2 L2 es2 t3 sb2 R2 pm2 => wpAny_pure (hQ true h2 L2 es2 t3 (sb.trans sb2) R2 (fun z => absurd z hm) fun _ => pm2.trans pm)
        have go : wpAny (model P w) A (setRelay a (SetTable.grown (L.length + 1))) (fun _ s' => wpAny (model P w) A (pure true) Q E s') E { s with heap := h1 } := by
          rw [m2] at full
          rcases R.tab.mok with e | e | e
          · rw [e] at full hroom
            have e2 : L.length = 4 := by omega
            exact relay 31 (by rw [e2]; decide +kernel) (.inr (.inl rfl)) (by rw [e2]; decide +kernel) (by omega) (by rw [m2, e]; omega)
          · rw [e] at full hroom
            have e2 : L.length = 18 := by omega
            exact relay 127 (by rw [e2]; decide +kernel) (.inr (.inr rfl)) (by rw [e2]; decide +kernel) (by omega) (by rw [m2, e]; omega)
          · rw [e] at full; omega
        rw [R.size]
        first
          | exact wpAny_bind (wp_if_pos (by simp [hf]) go)
          | exact wp_if_pos (by simp [hf]) (wpAny_bind go)
      · have none : wpAny (model P w) A (pure true) Q E { s with heap := h1 } := by
          refine wpAny_pure (hQ true h1 L1 es1 t2 sb ⟨⟨_, ep + 1, ho1, ⟨hex.1, hex.2.1, hex.2.2⟩, rfl⟩, H.ent, H.tab, H.nd, H.key, H.led, ?_, H.few⟩ (fun z => absurd z hm) fun _ => pm)
          have h := hf
          unfold SetTable.tooFull at h
          rw [decide_eq_true_eq, f2] at h
          rw [hlen]
          omega
        first
          | exact wp_if_neg (by simp [hf]) none
          | exact wpAny_bind (wp_if_neg (by simp [hf]) (wpAny_pure none))
    have says : ∀ b, wpAny (model P w) A (do
        let t ← pure (if b = true then t1 else { t1 with plain := false })
        storeSet a es1 t
        if !false && t.tooFull then setRelay a (SetTable.grown (es.size + 1))
        return true) Q E s := fun b => wpAny_bind (wpAny_pure (more _ ⟨b, rfl⟩))
    by_cases hp1 : t1.plain = true
    · first
        | (refine wpAny_bind (wp_if_pos hp1 (says_key k _ 8 _ hx.1 hx.2 _ _ _ fun b => ?_)); exact more _ ⟨b, rfl⟩)
        | (refine wp_if_pos hp1 (wpAny_bind (says_key k _ 8 _ hx.1 hx.2 _ _ _ fun b => ?_)); exact more _ ⟨b, rfl⟩)
    · first
        | (refine wpAny_bind (wp_if_neg hp1 (wpAny_pure ?_)); exact more _ ⟨true, rfl⟩)
        | (refine wp_if_neg hp1 (wpAny_bind (wpAny_pure ?_)); exact more _ ⟨true, rfl⟩)
        | (refine wp_if_neg hp1 ?_; exact more _ ⟨true, rfl⟩)
end
end TL
end
section
set_option Elab.async false
set_option linter.all false
set_option maxRecDepth 100000
set_option maxHeartbeats 3200000
namespace TL
open PySem PySem.Spec L2 PyProof.Rows
structure Kept (ks : List Mem) (n : Nat) (L : List Mem) : Prop where
  of : ∀ p ∈ L, p ∈ ks.take n
  all : ∀ p ∈ ks.take n, p.2 ∈ L.map Prod.snd
  le : L.length ≤ n
theorem Kept.next {ks L L' : List Mem} {n : Nat} {x : Mem} (g : Kept ks n L) (h : ks[n]? = some x) (c1 : x.2 ∈ L.map Prod.snd → L' = L) (c2 : x.2 ∉ L.map Prod.snd → L'.Perm (x :: L)) : Kept ks (n + 1) L' := by
  have et : ks.take (n + 1) = ks.take n ++ [x] := by rw [List.take_add_one, h]; rfl
  by_cases m : x.2 ∈ L.map Prod.snd
  · rw [c1 m]
    refine ⟨fun p hp => ?_, fun p hp => ?_, Nat.le_succ_of_le g.le⟩
    · rw [et]; exact List.mem_append_left _ (g.of p hp)
    · rw [et] at hp
      rcases List.mem_append.mp hp with z | z
      · exact g.all p z
      · rw [List.mem_singleton.mp z]; exact m
  · have pm := c2 m
    refine ⟨fun p hp => ?_, fun p hp => ?_, ?_⟩
    · rw [et]
      rcases List.mem_cons.mp (pm.mem_iff.mp hp) with e | z
      · rw [e]; exact List.mem_append_right _ (List.mem_singleton.mpr rfl)
      · exact List.mem_append_left _ (g.of p z)
    · rw [(pm.map Prod.snd).mem_iff, List.map_cons]
      rw [et] at hp
      rcases List.mem_append.mp hp with z | z
      · exact List.mem_cons_of_mem _ (g.all p z)
      · rw [List.mem_singleton.mp z]; exact List.mem_cons_self
    · rw [pm.length_eq]
      exact Nat.succ_le_succ g.le
section
variable {P : Program} {w : World} {A : Around} {E : Value → Shared → Prop} {s : Shared}
theorem SetK.move {h h' : Heap} {a : Addr} {L : List Mem} {es : Array (Int × Value)} {t : SetTable} (R : SetK P w h a L es t) (ha : ∀ o, h.get? a = some o → h'.get? a = some o) (hk : ∀ p ∈ L, IsK P w h' p.2 p.1) : SetK P w h' a L es t := by
  obtain ⟨o, ep, ho, r⟩ := R.obj
  exact ⟨⟨o, ep, ha o ho, r⟩, R.ent, R.tab, R.nd, hk, R.led, R.room, R.few⟩
theorem setK_new {h : Heap} {a : Addr} (ho : h.get? a = some { cls := .type "set", dict := none, data := .set #[] 0 (.fresh 0 0 (!w.params.followText "set-order")) }) : SetK P w h a [] #[] (.fresh 0 0 (!w.params.followText "set-order")) where
  obj := ⟨_, 0, ho, ⟨rfl, rfl, rfl⟩, rfl⟩
  ent := rfl
  tab := ⟨List.Pairwise.nil, rfl, rfl, .inl rfl, fun x hx => (by cases hx), fun i h j hi => (by simp at hi)⟩
  nd := List.nodup_nil
  key := fun p hp => (by cases hp)
  led := by
    show _ ∨ (!w.params.followText "set-order") = true
    cases w.params.followText "set-order"
    · exact .inr rfl
    · exact .inl rfl
  room := by show 0 * 5 < 7 * 3; decide
  few := by show 0 < 64; decide
variable {fp wr : List Addr} {G : Array GenState → Array GenState → Prop} {n : Nat} {Pv : Nat → Value → Prop} {St : Nat → Shared → Prop} {R : Result → Shared → Prop} {I : Addr}
theorem loopK (W : WalksS P w A.in1 I fp wr G n Pv St) (S : Addr) (hSf : S ∉ fp) (ks : List Mem) (hn : n = ks.length) (hfew : n < 64) (hval : ∀ i v, Pv i v → ∃ p, ks[i]? = some p ∧ v = .ref p.1)
    (h0 : Heap) (hk : ∀ p ∈ ks, IsK P w h0 p.2 p.1) (hS0 : h0.get? S = none) (hw0 : ∀ b ∈ wr, h0.get? b = none) (hu : (nestedKind P w).room A.in1) :
    ∀ (k i : Nat) (s : Shared), n - i = k → i ≤ n → St i s → (∀ b o, h0.get? b = some o → s.heap.get? b = some o) → (∃ L es t, SetK P w s.heap S L es t ∧ Kept ks i L) →
      (∀ s' L es t, Moved (S :: wr) G s s' → SetK P w s'.heap S L es t → Kept ks n L → (∀ b o, h0.get? b = some o → s'.heap.get? b = some o) → R (.ok (.ret .none)) s') →
      codeAny (model P w) A (.builtin "set.update.loop" ⟨[.ref S, .ref I], []⟩) R s := by
  have hSw : S ∉ wr := fun h => hSf (W.sub _ h)
  have still : ∀ {s s' : Shared}, Moved wr G s s' → (∀ b o, h0.get? b = some o → s.heap.get? b = some o) → ∀ b o, h0.get? b = some o → s'.heap.get? b = some o := fun hm q b o e =>
    hm.heap b o (fun hb => by rw [hw0 b hb] at e; cases e) (q b o e)
  have carry : ∀ {i : Nat} {s s' : Shared} {L : List Mem} {es : Array (Int × Value)} {t : SetTable}, Moved wr G s s' → (∀ b o, h0.get? b = some o → s'.heap.get? b = some o) → SetK P w s.heap S L es t → Kept ks i L → SetK P w s'.heap S L es t := fun hm q r g =>
    r.move (fun o e => hm.heap S o hSw e) fun p hp => isK_on (hk p (List.mem_of_mem_take (g.of p hp))) q
  intro k
  induction k with
  | zero =>
    intro i s hki hi hst hq ⟨L, es, t, hS, g⟩ hR
    have e : i = n := by omega
    subst e
    refine codeAny_builtin F.entry_set_update_loop ?_
    rw [Around.under_plainId F.plain_set_update_loop _]
    show wpAny _ A.in1 (pyNext (.ref I) >>= _) _ _ s
    refine wpAny_bind (W.done s _ _ hst fun s' hm => ?_)
    show wpAny _ A.in1 (ret Value.none) _ _ s'
    have q' := still hm hq
    exact wpAny_pure (hR s' L es t (hm.mono fun b hb => List.mem_cons_of_mem _ hb) (carry hm q' hS g) g q')
  | succ k ih =>
    intro i s hki hi hst hq ⟨L, es, t, hS, g⟩ hR
    refine codeAny_builtin F.entry_set_update_loop ?_
    rw [Around.under_plainId F.plain_set_update_loop _]
    show wpAny _ A.in1 (pyNext (.ref I) >>= _) _ _ s
    refine wpAny_bind (W.item i s _ _ (by omega) hst fun v s' hP hst' hm => ?_)
    obtain ⟨p, hp, rfl⟩ := hval i v hP
    have q' := still hm hq
    have hx : IsK P w s'.heap p.2 p.1 := isK_on (hk p (List.mem_of_getElem? hp)) q'
    show wpAny _ A.in1 (holding [Value.ref p.1] (setAdd S (.ref p.1)) >>= _) _ _ s'
    refine wpAny_bind (wpAny_holding ?_)
    unfold setAdd
    refine wpAny_holding (wpAny_bind ((nestedKind P w).pyHash hu hx ?_))
    have hS1 := carry hm q' hS g
    refine add_key (s := { s' with toks := s'.toks + (nestedKind P w).draws p.2 }) hS1 hx hu (by have := g.le; omega) fun b h' L' es' t' hsb hS2 c1 c2 => ?_
    have q2 : ∀ b o, h0.get? b = some o → h'.get? b = some o := fun b o e => (hsb.2 b (fun z => by rw [z, hS0] at e; cases e)).trans (q' b o e)
    refine wpAny_pure ⟨plainId_quiet F.plain_set_update_loop _, ih (i + 1) _ (by omega) (by omega) (W.frame _ s' _ _ hst' (Nat.le_add_right _ _) fun b hb o e => ?_) q2 ⟨L', es', t', hS2, g.next hp c1 c2⟩ fun s'' L2 es2 t2 hm2 hS3 g3 q3 => ?_⟩
    · rw [hsb.2 b (fun h : b = S => hSf (by rw [← h]; exact hb))]; exact e
    · refine hR s'' L2 es2 t2 (Moved.trans W.gtrans ((hm.mono fun b hb => List.mem_cons_of_mem _ hb).then_heap (Nat.le_add_right _ _) fun b o hb e => ?_) hm2) hS3 g3 q3
      rw [hsb.2 b (fun h : b = S => hb (by rw [h]; exact List.mem_cons_self))]; exact e
theorem call_setK {l : Addr} {items : Array Value} (ks : List Mem) {Q : Value → Shared → Prop} (hh : A.handled = none) (hl : s.heap.IsList l items) (hit : items.toList = ks.map fun p => Value.ref p.1)
    (hk : ∀ p ∈ ks, IsK P w s.heap p.2 p.1) (hfew : ks.length < 64) (hu : A.units + 60 < cLine)
    (h : ∀ (h' : Heap) (tk : Nat) L es t, SetK P w h' s.heap.objs.size L es t → Kept ks ks.length L → (∀ b o, s.heap.get? b = some o → h'.get? b = some o) → Q (.ref s.heap.objs.size) { s with heap := h', toks := tk }) :
    wpAny (model P w) A (call (.type "set") [.ref l]) Q E s := by
  have hisz : items.size = ks.length := by
    rw [← Array.length_toList, hit, List.length_map]
  obtain ⟨c, tl, hmro⟩ := PySem.F.called_set.mro
  have hmade := PySem.F.called_set.made
  have hsub := PySem.F.called_set.sub
  refine wpAny_call (codeAny_of_tree ?_)
  show wpAny _ _ (callAny (.type "set") _) _ _ _
  refine wpAny_pure ⟨Code.quiet_builtin _ (by decide +kernel), codeAny_builtin PySem.F.entry_type_call ?_⟩
  rw [Around.under_plain (weight_type_call_type "set" [.ref l] []) rfl]
  have h1 := PySem.F.called_set.notType
  have h2 := PySem.F.called_set.canCreate
  have hct := PySem.F.typeCall_set_1 (.ref l)
  repeat (any_goals (first | assumption | wp_step))
  generalize hled : (!w.params.followText "set-order") = led
  refine codeAny_mono (L2.code_set_led1 (.ref l) (E := E) (Q₁ := fun obj s₁ => obj = .ref s.heap.objs.size ∧ s₁ = { s with heap := s.heap.push { cls := .type "set", dict := none, data := .set #[] 0 (.fresh 0 0 led) } }) ⟨rfl, by rw [hled]⟩) fun r s₁ hr => ?_
  cases r with
  | error e => exact hr
  | ok fl =>
    cases fl with
    | ret obj =>
      obtain ⟨rfl, rfl⟩ := hr
      have hS : (s.heap.push { cls := .type "set", dict := none, data := .set #[] 0 (.fresh 0 0 led) }).get? s.heap.objs.size = some { cls := .type "set", dict := none, data := .set #[] 0 (.fresh 0 0 led) } := Heap.get?_push_size _ rfl
      have hT : Shared.TypeIs { s with heap := s.heap.push { cls := .type "set", dict := none, data := .set #[] 0 (.fresh 0 0 led) } } (.ref s.heap.objs.size) "set" := ⟨_, hS, rfl⟩
      have hli := PySem.F.called_set.init.lookup
      have hbi := PySem.F.called_set.init.bind (.ref s.heap.objs.size)
      repeat (any_goals (first | assumption | wp_step))
      refine codeAny_mono (codeAny_call_builtin (R := wants (fun r s₂ => r = .none ∧ ∃ h' tk L es t, s₂ = { s with heap := h', toks := tk } ∧ SetK P w h' s.heap.objs.size L es t ∧ Kept ks ks.length L ∧
          (∀ b o, s.heap.get? b = some o → h'.get? b = some o)) E) PySem.F.called_set.init.plain PySem.F.entry_set_init (check_set_init_1 hT ?_)) fun r₂ s₂ hr₂ => ?_
      · obtain ⟨ol, hol, hcl, nl, hdl⟩ := hl
        obtain ⟨ocls, odict, odata, oslots⟩ := ol
        simp only at hcl hdl
        subst hcl; subst hdl
        have hol' : (s.heap.push { cls := .type "set", dict := none, data := .set #[] 0 (.fresh 0 0 led) }).get? l = some { cls := .type "list", dict := odict, data := .seq items nl, slots := oslots } := Heap.get?_push_of_some _ hol
        have hsls := PySem.F.sub_list_set
        have hslf := PySem.F.sub_list_frozenset
        have hne : (Value.type "list" == Value.type "dict") = false := by decide
        have hl1 : (s.heap.push { cls := .type "set", dict := none, data := .set #[] 0 (.fresh 0 0 led) }).IsList l items := ⟨_, hol', rfl, nl, rfl⟩
        unfold Builtin.«set.__init__» noKeywords Builtin.Frozenset.updateFrom
        generalize hPI : pyIter = PI
        wp_walk
        subst hPI
        refine wpAny_pyIter_list hl1 ?_
        refine wpAny_bind (wpAny_runValue ?_)
        have hlS : l < s.heap.objs.size := Heap.lt_size hol
        have hh3 : A.in1.in1.in1.handled = none := by simp [hh]
        have hneI : l ≠ (s.heap.push { cls := .type "set", dict := none, data := .set #[] 0 (.fresh 0 0 led) }).objs.size := by
          rw [Heap.size_push]; exact Nat.ne_of_lt (Nat.lt_succ_of_lt hlS)
        have hSf : s.heap.objs.size ∉ [(s.heap.push { cls := .type "set", dict := none, data := .set #[] 0 (.fresh 0 0 led) }).objs.size, l] := by
          rw [Heap.size_push]; simp only [List.mem_cons, List.mem_singleton, List.not_mem_nil, or_false, not_or]
          exact ⟨Nat.ne_of_lt (Nat.lt_succ_self _), Nat.ne_of_gt hlS⟩
        have hval : ∀ (i : Nat) (v : Value), items[i]? = some v → ∃ p, ks[i]? = some p ∧ v = .ref p.1 := fun i v hv => by
          rw [← Array.getElem?_toList, hit, List.getElem?_map] at hv
          obtain ⟨p, hp, e⟩ := Option.map_eq_some_iff.mp hv
          exact ⟨p, hp, e.symm⟩
        have off : ∀ b, s.heap.objs.size ≤ b → s.heap.get? b = none := fun b hb => by
          cases q : s.heap.get? b with
          | none => rfl
          | some o => exact absurd (Heap.lt_size q) (Nat.not_lt.mpr hb)
        have hroom3 : (nestedKind P w).room A.in1.in1.in1 := by
          have u3 : A.in1.in1.in1.units = A.units + 3 := rfl
          show A.in1.in1.in1.units + 8 < cLine
          omega
        refine loopK ((Walks.list hh3 _ l hneI items).toS) s.heap.objs.size
          hSf ks hisz (by rw [hisz]; exact hfew) hval s.heap hk (off _ (Nat.le_refl _)) (fun b hb => off b (by rw [List.mem_singleton.mp hb, Heap.size_push]; exact Nat.le_succ _)) hroom3 (items.size - 0) 0 _ (by omega) (Nat.zero_le _)
          ⟨⟨_, Heap.get?_push_size _ rfl, rfl, rfl⟩, (hl1.push _)⟩ (fun b o e => Heap.get?_push_of_some _ (Heap.get?_push_of_some _ e)) ?hS0 ?hR
        case hS0 =>
          have hget : ((s.heap.push { cls := .type "set", dict := none, data := .set #[] 0 (.fresh 0 0 led) }).push { cls := .type "list_iterator", data := .fields #[.ref l, .int 0 0] }).get? s.heap.objs.size
              = some { cls := .type "set", dict := none, data := .set #[] 0 (.fresh 0 0 led) } := Heap.get?_push_of_some _ hS
          rw [← hled] at hget ⊢
          exact ⟨[], #[], _, setK_new hget, ⟨fun p hp => (by cases hp), fun p hp => (by simp at hp), Nat.le_refl _⟩⟩
        case hR =>
          intro s' L es t hm hS' g' q'
          obtain ⟨h', g2, d', tk', os'⟩ := s'
          have eg : g2 = s.gens := hm.gens
          have ed : d' = s.drawn := hm.drawn
          have eo : os' = s.os := hm.os
          subst eg; subst ed; subst eo
          show wpAny _ _ _ _ _ _
          refine wpAny_pure ?_
          show wpAny _ _ (ret Value.none) _ _ _
          rw [hisz] at g'
          exact wpAny_pure ⟨rfl, h', tk', L, es, t, rfl, hS', g', q'⟩
      · cases r₂ with
        | error e => exact hr₂
        | ok fl₂ =>
          cases fl₂ with
          | ret r =>
            obtain ⟨rfl, h', tk, L, es, t, rfl, hS', g', hk'⟩ := hr₂
            repeat (any_goals (first | assumption | wp_step))
            exact h _ _ _ _ _ hS' g' hk'
          | _ => exact hr₂.elim
    | _ => exact hr.elim
end
end TL
end
section
set_option Elab.async false
set_option linter.all false
set_option maxRecDepth 100000
set_option maxHeartbeats 3200000
namespace TL
open PySem PySem.Spec L2 PyProof.Rows
theorem permL_lift {α β : Type} {f : α → β} {vs ws : List β} (p : vs.Perm ws) : ∀ L : List α, ws = L.map f → ∃ L1 : List α, L1.Perm L ∧ vs = L1.map f := by
  induction p with
  | nil =>
    intro L e
    cases L with
    | nil => exact ⟨[], .nil, rfl⟩
    | cons a L => cases e
  | cons x p ih =>
    intro L e
    cases L with
    | nil => cases e
    | cons a L =>
      rw [List.map_cons] at e
      obtain ⟨e1, e2⟩ := List.cons.inj e
      obtain ⟨L1, p1, e3⟩ := ih L e2
      exact ⟨a :: L1, p1.cons a, by rw [List.map_cons, e1, e3]⟩
  | swap x y l =>
    intro L e
    cases L with
    | nil => cases e
    | cons a L =>
      cases L with
      | nil => cases e
      | cons b L =>
        rw [List.map_cons, List.map_cons] at e
        obtain ⟨e1, e2⟩ := List.cons.inj e
        obtain ⟨e3, e4⟩ := List.cons.inj e2
        exact ⟨b :: a :: L, .swap a b L, by rw [List.map_cons, List.map_cons, e1, e3, e4]⟩
  | trans p q ih1 ih2 =>
    intro L e
    obtain ⟨L2, p2, e2⟩ := ih2 L e
    obtain ⟨L1, p1, e1⟩ := ih1 L2 e2
    exact ⟨L1, p1.trans p2, e1⟩
abbrev refsOf (L : List Mem) : List V := L.map fun p => V.ref p.1
abbrev datsOf (L : List Mem) : List PyData := L.map fun p => p.2.data
def inRow (L : List Mem) : List V := (((refsOf L).zip (datsOf L)).mergeSort (PySem.W.dataLe false Prod.snd)).map Prod.fst
def tSortSet (K : PySem.W.Frag) (ta : TE) : TE := fun σ H Q => ta σ H fun x H1 => ∃ (l : Addr) (ks : List Mem), x = .ref l ∧ SqL K H1 l (refsOf ks) ∧ (∀ p ∈ ks, Dp K H1 (.ref p.1) p.2.data ∧ p.2.depth ≤ 8) ∧ ks.length < 64 ∧
  (∀ L : List Mem, (∀ p ∈ L, p ∈ ks) → PySem.W.AllAlike (datsOf L) ∧ PySem.W.Sortable (datsOf L) ∧ ∀ p ∈ L, p.2.data.depth < 60) ∧
  ∀ L : List Mem, (∀ p ∈ L, p ∈ ks) → (∀ p ∈ ks, p.2 ∈ L.map Prod.snd) → (L.map Prod.snd).Nodup → ∀ p, H1 p = none → Q (.ref p) (upd H1 p (.lst (inRow L)))
section
variable {X : Cx} {pins : List (Addr × Obj)} {σ : L2.St} {H : Hp} {s : Shared}
theorem vals_refsOf : ∀ L : List Mem, Vals (refsOf L) (L.map fun p => Value.ref p.1)
  | [] => .nil
  | e :: L => .cons rfl (vals_refsOf L)
theorem refs_vals : ∀ {L : List Mem} {us : List Value}, Vals (refsOf L) us → us = L.map fun p => Value.ref p.1
  | [], _, .nil => rfl
  | p :: L, _, .cons r t => by
    cases r
    rw [refs_vals t]
    rfl
theorem dps_of {K : PySem.W.Frag} : ∀ {L : List Mem}, (∀ p ∈ L, Dp K H (.ref p.1) p.2.data) → DpAll K H (refsOf L) (datsOf L)
  | [], _ => .nil
  | e :: L, h => .cons (h e List.mem_cons_self) (dps_of fun x hx => h x (List.mem_cons_of_mem _ hx))
open PySem.W PySem.Calls in
theorem sorted_setK (I0 : Inv X pins σ H s) (hc : X.calm = true) (hu : X.A.units + 64 < cLine) {a : Addr} {L : List Mem} {es : Array (Int × Value)} {t : SetTable} (R : SetK X.prog X.w s.heap a L es t) (hd0 : ∀ p ∈ L, Dp X.K H (.ref p.1) p.2.data)
    (ok : ∀ L1 : List Mem, L1.Perm L → AllAlike (datsOf L1) ∧ Sortable (datsOf L1) ∧ ∀ p ∈ L1, p.2.data.depth < 60) {Q : VK} (q : ∀ L1 : List Mem, L1.Perm L → ∀ p, H p = none → Q (.ref p) (upd H p (.lst (inRow L1)))) {E : Value → Shared → Prop} :
    wpAny (model X.prog X.w) X.A (call (.builtin "sorted") [.ref a]) (L2.EP X pins σ Q) E s := by
  obtain ⟨o, ep, ho, hex, hdt⟩ := R.obj
  refine call_function_entry kind_sorted plain_sorted entry_sorted (args_sorted1 _) ?_
  unfold Builtin.«sorted»
  refine wpAny_bind (m := checkCount "sorted" 1 1 _) (wpAny_pure ?_)
  refine wpAny_bind (collect_set (A := X.A.in1) (I0.ok.hd hc) ⟨o, ho, hex.1, hdt⟩ R.fits (by rw [R.size]; unfold scanBound; have := R.few; omega) R.tab.ris R.led fun s1 out hkp hz hg hos pm => ?_)
  rw [R.ent] at pm
  have em : (entsOf X.w L).map (·.2) = L.map fun p => Value.ref p.1 := by
    unfold entsOf
    rw [List.map_map]
    rfl
  rw [em] at pm
  obtain ⟨L1, p1, rfl⟩ := permL_lift pm L rfl
  obtain ⟨hal, hk, hdep⟩ := ok L1 p1
  have I1 : Inv X pins σ H s1 := by
    have z := I0.call (ch := []) (h' := s1.heap) (g' := s1.gens) (t' := s1.toks) (d' := s1.drawn) (H' := H) (Un.kept hkp) (I0.hok.kept hkp) (by rw [hg]; exact I0.bare) (fun _ z => nomatch z)
    obtain ⟨a1, a2, a3, a4, a5⟩ := s1
    have e5 : a5 = s.os := hos
    subst e5
    exact z
  have few : L1.length < 64 := by rw [p1.length_eq]; exact R.few
  have hL : (L1.map fun p => Value.ref p.1).length ≤ sizeLine := by rw [List.length_map, sizeLine_eq]; omega
  have rv := vals_refsOf L1
  have hd := dps_of (K := X.K) (H := H) (L := L1) fun p hp => hd0 p (p1.mem_iff.mp hp)
  generalize hvs : (L1.map fun p => Value.ref p.1) = vs at hL rv ⊢
  refine wpAny_bind (wpAny_newList ?_ hL)
  have hoL : (s1.heap.push (seqObj "list" vs.toArray 0)).get? s1.heap.objs.size = some (seqObj "list" vs.toArray 0) := Heap.get?_push_size _ rfl
  show wpAny _ _ _ _ _ { s1 with heap := s1.heap.push (seqObj "list" vs.toArray 0) }
  obtain ⟨hzz, hll⟩ := dpAll_snd hd
  obtain ⟨e1, e2⟩ := each_zip I1 hd rv
  have er' : EachIs (fun u (b : V × PyData) => ∃ as, Reads (sortingHeap (s1.heap.push (seqObj "list" vs.toArray 0)) s1.heap.objs.size vs) u b.2 as) vs ((refsOf L1).zip (datsOf L1)) := e2.mono fun _ _ ⟨as, r⟩ => ⟨as, PyProof.Rows.Reads.keeps (fun b o hb => sortingHeap_old (Nat.ne_of_lt (Heap.lt_size hb)) (Heap.get?_push_of_some _ hb)) r⟩
  have hal' : AllAlike (((refsOf L1).zip (datsOf L1)).map Prod.snd) := by rw [hzz]; exact hal
  have hk' : Sortable (((refsOf L1).zip (datsOf L1)).map Prod.snd) := by rw [hzz]; exact hk
  have hb : ∀ d, d ∈ ((refsOf L1).zip (datsOf L1)).map Prod.snd → X.A.in1.in1.units + d.depth < cLine := fun d m => by
    rw [hzz] at m
    obtain ⟨x, hx, ed⟩ := List.mem_map.mp m
    have := hdep x hx
    rw [ed] at this
    have u2 : X.A.in1.in1.units = X.A.units + 2 := rfl
    omega
  have z := sortVals_data (R := fun u (b : V × PyData) => RelV b.1 u) (enc := Prod.snd) false e1 er' hal'
  refine wpAny_bind (wpAny_holding (wpAny_call_entry slot_list_sort ⟨_, hoL, rfl⟩ entry_list_sort ?body (args_list_sort _)))
  case body =>
    refine list_sort_vals (s := { s1 with heap := s1.heap.push (seqObj "list" vs.toArray 0) }) hoL (SortsAt.data (s := { s1 with heap := sortingHeap (s1.heap.push (seqObj "list" vs.toArray 0)) s1.heap.objs.size vs }) (each_map (R := fun v d => ∃ as, Reads (sortingHeap (s1.heap.push (seqObj "list" vs.toArray 0)) s1.heap.objs.size vs) v d as) Prod.snd er') hal' hk' hb) hL ⟨_, rfl, wpAny_pure ⟨_, rfl, ?_⟩⟩
    obtain ⟨ep', he'⟩ := PyProof.Rows.sortedHeap_at (vs := vs) (out := (sortVals (dataKind (sortingHeap (s1.heap.push (seqObj "list" vs.toArray 0)) s1.heap.objs.size vs) (((refsOf L1).zip (datsOf L1)).map Prod.snd)) false vs vs).toArray) hoL
    have hv := each_vals z
    have hlen2 : (inRow L1).length ≤ sizeLine := by
      unfold inRow
      rw [List.length_map, List.length_mergeSort, List.length_zip, List.length_map, List.length_map, Nat.min_self, sizeLine_eq]
      omega
    refine ⟨.ref s1.heap.objs.size, upd H s1.heap.objs.size (.lst (inRow L1)), I1.laid (t' := s1.toks) (fun b u e => ?_) (Nat.le_refl _) ⟨hlen2, _, ep', hv, he'⟩, rfl, q L1 p1 _ (I1.hok.fresh (Nat.le_refl _))⟩
    have hb' : b < s1.heap.objs.size := Heap.lt_size e
    show (PyProof.Rows.sortedHeap _ _ _ _).get? b = some u
    rw [PyProof.Rows.sortedHeap_old (Nat.ne_of_lt hb') (by rw [size_push']; exact Nat.lt_succ_of_lt hb')]
    exact Heap.get?_push_of_some _ e
end
section
variable {X : Cx} {a : Expr} {ta : TE} {p p2 q pos : Pos}
theorem pe_sortSet (hc : X.calm = true) (hu : X.A.units + 64 < cLine) (hg : Gl X "sorted") (hm : X.mg "sorted" = none) (hg2 : Gl X "set") (hm2 : X.mg "set" = none) (ha : PE X a ta)
    (na : starEach [a] X.env = (false, eval a X.env) :: starEach [] X.env := by rfl) : PE X (.Call (.Name "sorted" p) [.Call (.Name "set" p2) [a] [] q] [] pos) (tSortSet X.K ta) := by
  refine ⟨fun pins s σ H Q I h => ?_⟩
  refine Call_ (ld_blt (u := .builtin "sorted") I hg hm (by decide +kernel) ?_)
  refine PyProof.Rows.callWith_builtin1 (PyProof.Rows.args_cons ?_ rfl) rfl rfl
  refine Call_ (ld_blt I hg2 hm2 boot_set ?_)
  refine PyProof.Rows.callWith_type1 (PyProof.Rows.args_cons (thn (ha.run pins s σ H _ I h) fun v s1 ⟨x, H1, I1, r1, q1⟩ => PyProof.Rows.args_nil ?_) na) na rfl
  obtain ⟨l, ks, rfl, hq, hkd, hfew, hok, q1⟩ := q1
  cases r1
  obtain ⟨its, r, pl, hz⟩ := I1.list hq
  refine call_setK ks (I1.ok.hd hc) pl.isList (by simpa using refs_vals r) (fun p hp => key_is I1 (hkd p hp).1 (hkd p hp).2) hfew (by omega) fun h' tk L es t R g hk => ?_
  refine PyProof.Rows.args_nil ?_
  have I2 : Inv X pins σ H1 { s1 with heap := h', toks := tk } := I1.kept hk
  have sub : ∀ p ∈ L, p ∈ ks := fun p hp => List.mem_of_mem_take (g.of p hp)
  have subP : ∀ {L1 : List Mem}, L1.Perm L → ∀ p ∈ L1, p ∈ ks := fun pm p hp => sub p (pm.mem_iff.mp hp)
  refine sorted_setK I2 hc hu R (fun p hp => (hkd p (sub p hp)).1) (fun L1 pm => hok L1 (subP pm)) fun L1 pm => q1 L1 (subP pm) (fun p hp => ?_) ((pm.map Prod.snd).nodup_iff.mpr R.nd)
  have z := g.all p (by rw [List.take_length]; exact hp)
  exact (pm.map Prod.snd).mem_iff.mpr z
end
end TL
end
section
set_option Elab.async false
set_option linter.all false
set_option maxRecDepth 100000
set_option maxHeartbeats 1000000
namespace TL
open PySem PySem.Spec L2
def AntE {β : Type} (e : β → PyData) : Prop := ∀ x y, PySem.W.dataLt (e x) (e y) = false → PySem.W.dataLt (e y) (e x) = false → x = y
theorem ant_S : AntE eS := fun x y h1 h2 => by
  unfold eS at h1 h2
  rw [PySem.W.dataLt_str, decide_eq_false_iff_not] at h1 h2
  have e : x.s.cps.toList = y.s.cps.toList := List.le_antisymm h2 h1
  refine Tx.ext' ?_
  have e2 : x.s.cps = y.s.cps := Array.toList_inj.mp e
  generalize x.s = a at e2
  generalize y.s = b at e2
  cases a
  cases b
  cases e2
  rfl
theorem ant_2 {α β : Type} {f : α → PyData} {g : β → PyData} {n m i j : Nat} (hf : AntE f) (hg : AntE g) (sf : SoD f n) (sg : SoD g m) (ef : Enc f i) (eg : Enc g j) : AntE (e2 f g) := fun x y h1 h2 => by
  unfold e2 at h1 h2
  rw [PySem.W.dataLt_pair (sf.alk _ _) (sg.alk _ _)] at h1 h2
  by_cases c : x.1 = y.1
  · rw [if_pos ((ef.inj _ _).mpr c)] at h1
    rw [if_pos ((ef.inj _ _).mpr c.symm)] at h2
    by_cases d : x.2 = y.2
    · exact Prod.ext c d
    · rw [if_neg fun z => d ((eg.inj _ _).mp z)] at h1
      rw [if_neg fun z => d ((eg.inj _ _).mp z).symm] at h2
      exact absurd (hg _ _ h1 h2) d
  · rw [if_neg fun z => c ((ef.inj _ _).mp z)] at h1
    rw [if_neg fun z => c ((ef.inj _ _).mp z).symm] at h2
    exact absurd (hf _ _ h1 h2) c
noncomputable def uniq {α : Type} (xs : List α) : List α := by
  classical exact xs.foldr (fun x acc => if x ∈ acc then acc else x :: acc) []
theorem mem_uniq0 {α : Type} : ∀ (xs : List α) (x : α), x ∈ uniq xs ↔ x ∈ xs := by
  classical
  intro xs
  induction xs with
  | nil => intro x; simp [uniq]
  | cons a xs ih =>
    intro x
    have e : uniq (a :: xs) = if a ∈ uniq xs then uniq xs else a :: uniq xs := rfl
    rw [e]
    split
    · rename_i h
      rw [ih, List.mem_cons]
      refine ⟨fun z => .inr z, fun z => ?_⟩
      rcases z with q | q
      · rw [q]; exact (ih a).mp h
      · exact q
    · rw [List.mem_cons, ih, List.mem_cons]
theorem mem_uniq {α : Type} {x : α} {xs : List α} : x ∈ uniq xs ↔ x ∈ xs := mem_uniq0 xs x
theorem nodup_uniq {α : Type} : ∀ xs : List α, (uniq xs).Nodup := by
  classical
  intro xs
  induction xs with
  | nil => simp [uniq]
  | cons a xs ih =>
    have e : uniq (a :: xs) = if a ∈ uniq xs then uniq xs else a :: uniq xs := rfl
    rw [e]
    split
    · exact ih
    · rename_i h
      exact List.nodup_cons.mpr ⟨h, ih⟩
open PySem.W PyProof.Rows in
theorem sortG_pw {β : Type} (e : β → PyData) (xs : List β) : (sortG e xs).Pairwise fun a b => dataLt (e b) (e a) = false := by
  have t := PySem.W.sortLe_total (listOrd itemOrd) false fun b : β => keyToks (e b)
  have pw : (sortG e xs).Pairwise fun a b => dataLe false e a b = true := List.pairwise_mergeSort (fun a b c h1 h2 => t.trans a b c h1 h2) (fun a b => by rcases t.total a b with h | h <;> (show (_ || _) = true; rw [show _ = true from h]; simp)) xs
  refine pw.imp fun {a b} h => ?_
  have h' : (!dataLt (e b) (e a)) = true := h
  simpa using h'
theorem sortG_perm {β : Type} (e : β → PyData) (xs : List β) : (sortG e xs).Perm xs := List.mergeSort_perm _ _
theorem sortG_of {β : Type} {e : β → PyData} (an : AntE e) {xs ys : List β} (p : xs.Perm ys) : sortG e xs = sortG e ys :=
  List.Perm.eq_of_pairwise (fun a b _ _ h1 h2 => an a b h2 h1) (sortG_pw e xs) (sortG_pw e ys) ((sortG_perm e xs).trans (p.trans (sortG_perm e ys).symm))
theorem sortG_is {β : Type} {e : β → PyData} (an : AntE e) {xs ys : List β} (pw : xs.Pairwise fun a b => PySem.W.dataLt (e b) (e a) = false) (p : xs.Perm ys) : xs = sortG e ys :=
  List.Perm.eq_of_pairwise (fun a b _ _ h1 h2 => an a b h2 h1) pw (sortG_pw e ys) (p.trans (sortG_perm e ys).symm)
theorem perm_of_mem {α : Type} {xs ys : List α} (h1 : xs.Nodup) (h2 : ys.Nodup) (h : ∀ x, x ∈ xs ↔ x ∈ ys) : xs.Perm ys := (List.perm_ext_iff_of_nodup h1 h2).mpr h
section
variable {K : PySem.W.Frag} {ε α β δ S κ : Type} {X : L2.St → XK} {De : ε → Own} {G : Sto} {Dd : S → Own} {s : S} {ta : TE} {k : KeyN κ} {Rk : κ → Ty} {n : Nat}
theorem ks_of (hd : ∀ x, Dat K (Rk x) (k.e x)) {F : Hp} : ∀ {xs : List κ} {vs : List V}, AllP F (xs.map Rk) vs → ∃ ks : List Mem, vs = refsOf ks ∧ ks.map Prod.snd = xs.map k.f ∧ ∀ p ∈ ks, ∃ x ∈ xs, p.2 = k.f x ∧ (Rk x).p (.ref p.1) F
  | [], _, h => by cases h; exact ⟨[], rfl, rfl, fun p hp => (by cases hp)⟩
  | x :: xs, _, h => by
    cases h with
    | @cons _ v _ vs h1 h2 =>
      obtain ⟨ks, e1, e2, e3⟩ := ks_of hd h2
      have hv : Dp K F _ (k.k.e x) := hd x _ F h1
      obtain ⟨ds, ed⟩ := k.tup x
      rw [ed] at hv
      obtain ⟨a, ws, ev, _, _⟩ := dp_tup hv
      subst ev
      refine ⟨(a, k.f x) :: ks, by rw [e1]; rfl, by rw [List.map_cons, List.map_cons, e2], fun p hp => ?_⟩
      rcases List.mem_cons.mp hp with z | z
      · subst z; exact ⟨x, List.mem_cons_self, rfl, h1⟩
      · obtain ⟨y, hy, q⟩ := e3 p z
        exact ⟨y, List.mem_cons_of_mem _ hy, q⟩
theorem ys_of {F : Hp} {xs : List κ} : ∀ {L : List Mem}, (∀ p ∈ L, ∃ x ∈ xs, p.2 = k.f x ∧ (Rk x).p (.ref p.1) F) → ∃ ys : List κ, L.map Prod.snd = ys.map k.f ∧ (∀ y ∈ ys, y ∈ xs) ∧ AllP F (ys.map Rk) (refsOf L)
  | [], _ => ⟨[], rfl, fun y hy => (by cases hy), .nil⟩
  | p :: L, h => by
    obtain ⟨x, hx, e, r⟩ := h p List.mem_cons_self
    obtain ⟨ys, e1, e2, e3⟩ := ys_of (L := L) fun q hq => h q (List.mem_cons_of_mem _ hq)
    exact ⟨x :: ys, by rw [List.map_cons, List.map_cons, e1, e], fun y hy => by
      rcases List.mem_cons.mp hy with z | z
      · rw [z]; exact hx
      · exact e2 y z, .cons r e3⟩
theorem dats_ys {L : List Mem} {ys : List κ} (h : L.map Prod.snd = ys.map k.f) : datsOf L = ys.map k.e := by
  have e : datsOf L = (L.map Prod.snd).map NestedKey.data := by rw [List.map_map]; rfl
  rw [e, h, List.map_map]
  exact List.map_congr_left fun y _ => k.k.he y
theorem evnc_sortSet {R : α → Ty} {f : α → List κ} {Ma : (α → S → Res ε δ) → Res ε δ} (hd : ∀ x, Dat K (Rk x) (k.e x)) (an : AntE k.e) (so : SoD k.e n) (hn : n < 60 := by decide)
    (hvL : ∀ x s v H F, HS (Dd s) H F → (R x).p v F → ∃ a vs, v = .ref a ∧ SqL K H a vs ∧ AllP F ((f x).map Rk) vs) (ha : EvC K X De ta G Dd s Ma R) :
    EvNC K X De (tSortSet K ta) G Dd s (fun kk => Ma fun a s1 => Res.bind (Res.grd ((f a).length < 64) (sortG k.e (uniq (f a)))) fun z => kk z s1) (OLT Rk) := fun kk σ H F hs ss o r Q hm q qe =>
  ha _ σ H F hs ss o r _ hm (fun a s1 v H1 F1 t1 hs1 r1 hm1 => by
    obtain ⟨hl, hm2⟩ := Res.sat_grd hm1
    obtain ⟨p, vs, rfl, h1, h2⟩ := hvL a s1 v H1 F1 hs1 r1
    obtain ⟨ks, rfl, e2, e3⟩ := ks_of hd h2
    have hlen : ks.length = (f a).length := by
      have z := congrArg List.length e2
      rwa [List.length_map, List.length_map] at z
    have sl := sol_of so
    refine ⟨p, ks, rfl, h1, fun q hq => ?_, by omega, fun L hL => ?_, fun L hL hall hnd u hu => ?_⟩
    · obtain ⟨x, _, e, rx⟩ := e3 q hq
      refine ⟨?_, ?_⟩
      · rw [e, k.k.he]
        exact dp_mono hs1.sub _ _ (hd _ _ _ rx)
      · rw [e]; exact Nat.le_trans (k.k.dep _) k.le
    · obtain ⟨ys, y1, y2, y3⟩ := ys_of (k := k) fun q hq => e3 q (hL q hq)
      refine ⟨by rw [dats_ys y1]; exact PySem.W.AllAlike.of so.alk, by rw [dats_ys y1]; exact sl.srt _ trivial, fun q hq => ?_⟩
      have hm' : q.2.data ∈ datsOf L := List.mem_map_of_mem hq
      rw [dats_ys y1] at hm'
      obtain ⟨y, _, ey⟩ := List.mem_map.mp hm'
      rw [← ey]
      have := so.dep y
      omega
    · obtain ⟨ys, y1, y2, y3⟩ := ys_of (k := k) fun q hq => e3 q (hL q hq)
      have nd : ys.Nodup := by
        rw [y1] at hnd
        exact List.Pairwise.of_map k.f (fun a b hne e => hne (congrArg k.f e)) hnd
      have hp : ys.Perm (uniq (f a)) := perm_of_mem nd (nodup_uniq _) fun y => by
        rw [mem_uniq]
        refine ⟨y2 y, fun hy => ?_⟩
        have h1 : k.f y ∈ ks.map Prod.snd := by rw [e2]; exact List.mem_map_of_mem hy
        obtain ⟨q, hq, eq⟩ := List.mem_map.mp h1
        have h2 := hall q hq
        rw [eq, y1] at h2
        obtain ⟨z, hz, ez⟩ := List.mem_map.mp h2
        rw [← k.k.inj _ _ ez]
        exact hz
      have er : inRow L = (((refsOf L).zip (ys.map k.e)).mergeSort (PySem.W.dataLe false Prod.snd)).map Prod.fst := by
        unfold inRow
        rw [dats_ys y1]
      rw [er]
      have ps := allP_sort (e := k.e) y3 (fun x v r => hd x v F1 r) rfl
      have es : ys.mergeSort (PySem.W.dataLe false k.e) = sortG k.e (uniq (f a)) := sortG_of an hp
      rw [es] at ps
      exact q _ s1 u _ F1 t1 (hs1.new hu ⟨_, rfl, ps⟩) hm2) qe
end
end TL
end
section
set_option Elab.async false
set_option linter.all false
set_option maxRecDepth 100000
set_option maxHeartbeats 4000000
open TL PySem L2
def sx_2ac8088b : Tx := ⟨"abcdefghijklmnopqrstuvwxyz0123456789.", by decide +kernel⟩
def sx_da39a3ee : Tx := ⟨"", by decide +kernel⟩
noncomputable def l_well_k1 (vk : Int) (s2 : Int) : Res Unit ((List Int)) :=
  Res.bind (Res.grd (CMulW (17 : Int) vk) ((17 : Int) * vk)) fun z4 => .ok [(if decide ((1000000000000000000 : Int) ≤ (if s2 < 0 then -s2 else s2)) = true then (1 : Int) else 0), s2, z4]
noncomputable def l_well (vscript : (List Int)) (vk : Int) : Res Unit ((List Int)) :=
  Res.bind (.ok (0 : Int)) fun x1 => if decide (vk < (List.length vscript : Int)) = true then Res.bind (Res.opt (atI vscript vk)) fun z6 => Res.bind (.ok z6) fun x5 => (l_well_k1 vk) x5 else (l_well_k1 vk) x1
noncomputable def l_take (vwell_here : (List Int)) (vmany : Int) : Res (List Int) (Int × (List Int)) :=
  Res.bind (Res.opt (atI vwell_here (0 : Int))) fun z22 => if decide (z22 = (1 : Int)) = true then Res.bind (Res.opt (atI vwell_here (1 : Int))) fun z6 => Res.bind (Res.grd (vmany ≠ 0) (Int.fmod z6 vmany)) fun z7 => Res.bind (.ok z7) fun x1 => Res.bind (Res.opt (atI vwell_here (1 : Int))) fun z4 => Res.bind (Res.grd (CDivA z4 vmany) (Int.fdiv z4 vmany)) fun z5 => Res.bind (Res.opt (ixN (List.length vwell_here) (1 : Int))) fun j3 => Res.bind (.ok (List.set vwell_here j3 z5, ())) fun x2 => .ok (x1, x2.1) else Res.bind (Res.opt (atI vwell_here (2 : Int))) fun z21 => Res.bind (.ok (z21 + (1 : Int))) fun x8 => Res.bind (Res.opt (ixN (List.length vwell_here) (2 : Int))) fun j10 => Res.bind (.ok (List.set vwell_here j10 x8, ())) fun x9 => Res.bind (Res.opt (atI x9.1 (1 : Int))) fun z16 => Res.bind (Res.grd (CMulW (7919 : Int) x8) ((7919 : Int) * x8)) fun z17 => Res.bind (Res.grd (CMulW z17 x8) (z17 * x8)) fun z18 => Res.bind (Res.grd (CMulW ((z16 + z18) + x8) (48271 : Int)) (((z16 + z18) + x8) * (48271 : Int))) fun z19 => Res.bind (Res.grd ((2305843009213693951 : Int) ≠ 0) (Int.fmod z19 (2305843009213693951 : Int))) fun z20 => Res.bind (.ok z20) fun x11 => Res.bind (Res.grd (CMulW x11 (1442695040888963407 : Int)) (x11 * (1442695040888963407 : Int))) fun z12 => Res.bind (Res.grd ((2305843009213693921 : Int) ≠ 0) (Int.fmod (z12 + (4321 : Int)) (2305843009213693921 : Int))) fun z13 => Res.bind (Res.grd (CDivA z13 (64 : Int)) (Int.fdiv z13 (64 : Int))) fun z14 => Res.bind (Res.grd (vmany ≠ 0) (Int.fmod z14 vmany)) fun z15 => .ok (z15, x9.1)
noncomputable def l_common_k1  (s1 : (Int × Int)) : Res Unit (Int) :=
  .ok (if s1.1 < 0 then -s1.1 else s1.1)
noncomputable def l_common_b2  (s1 : (Int × Int)) (n2 : (Int × Int) → Res Unit (Int)) : Res Unit (Int) :=
  Res.bind (Res.grd (s1.2 ≠ 0) (Int.fmod s1.1 s1.2)) fun z5 => Res.bind (.ok (s1.2, z5)) fun x4 => n2 (x4.1, x4.2)
noncomputable def l_common (vone : Int) (vother : Int) : Res Unit (Int) :=
  Res.wloop (fun s1 n2 => if (!decide (s1.2 = (0 : Int))) = true then l_common_b2 s1 n2 else l_common_k1 s1) Res.fuel (vone, vother)
noncomputable def l_num_k1  (s1 : (Int × Int)) : Res Unit (Rat) :=
  Res.bind (l_common s1.1 s1.2) fun z7 => Res.bind (.ok z7) fun x3 => Res.bind (Res.grd (CDivA s1.1 x3) (Int.fdiv s1.1 x3)) fun z5 => Res.bind (Res.grd (CDivA s1.2 x3) (Int.fdiv s1.2 x3)) fun z6 => Res.bind (Res.opt (mkQ z5 z6)) fun z4 => .ok z4
noncomputable def l_num (vtop : Int) (vbottom : Int) : Res Unit (Rat) :=
  if decide (vbottom < (0 : Int)) = true then Res.bind (.ok ((0 : Int) - vtop)) fun x8 => Res.bind (.ok ((0 : Int) - vbottom)) fun x9 => l_num_k1 (x8, x9) else l_num_k1 (vtop, vbottom)
end
section
set_option Elab.async false
set_option linter.all false
set_option maxRecDepth 100000
set_option maxHeartbeats 4000000
open TL PySem L2
def sx_32d10c7b : Tx := ⟨"abcdefghijklmnopqrstuvwxyz", by decide +kernel⟩
def sx_7bc55599 : Tx := ⟨"fixed", by decide +kernel⟩
def sx_95c4bea1 : Tx := ⟨"big", by decide +kernel⟩
def sx_89f6229a : Tx := ⟨"small", by decide +kernel⟩
noncomputable def m_is_name (vtext : Tx) : Res Unit (Bool) :=
  Res.bind (Res.grd (Tx.len vtext ≤ 100000) (Tx.len vtext : Int)) fun z5 => Res.bind (if (decide ((1 : Int) ≤ z5) && decide (z5 ≤ (30 : Int))) = true then Res.bind (Res.grd ((Tx.signs vtext).length ≤ 100000) (Tx.signs vtext)) fun z3 => Res.bind (Res.calm (Res.lc (fun (x1 : Tx) (s2 : Unit) => .ok (some (Tx.has sx_2ac8088b x1), s2)) z3 ())) fun z4 => .ok ((List.all z4.1 id), z4.2) else .ok (false, ())) fun z6 => .ok z6.1
end
section
set_option Elab.async false
set_option linter.all false
set_option maxRecDepth 100000
set_option maxHeartbeats 4000000
open TL PySem L2
end
section
set_option Elab.async false
set_option linter.all false
set_option maxRecDepth 100000
set_option maxHeartbeats 4000000
open TL PySem L2
end
section
set_option Elab.async false
set_option linter.all false
set_option maxRecDepth 100000
set_option synthInstance.maxSize 4000
set_option maxHeartbeats 4000000
open TL PySem L2
noncomputable def l_number_k11 (vwell_here : (List Int)) : Res (List Int) (Rat × (List Int)) :=
  Res.bind (l_take vwell_here (8 : Int)) fun z14 => Res.bind (.ok (z14.1, z14.2)) fun x1 => if decide (x1.1 = (7 : Int)) = true then Res.bind (Res.grd (CMulW (2 : Int) (100000000000000000 : Int)) ((2 : Int) * (100000000000000000 : Int))) fun z4 => Res.bind (l_take x1.2 (z4 + (1 : Int))) fun z3 => Res.bind (Res.opt (mkQ (z3.1 - (100000000000000000 : Int)) (1 : Int))) fun z2 => .ok (z2, z3.2) else if decide (x1.1 = (6 : Int)) = true then Res.bind (Res.grd (CMulW (2 : Int) (100000000 : Int)) ((2 : Int) * (100000000 : Int))) fun z7 => Res.bind (l_take x1.2 (z7 + (1 : Int))) fun z6 => Res.bind (l_take z6.2 (100000000 : Int)) fun z8 => Res.bind (Res.mapE (fun _ => z8.2) (l_num (z6.1 - (100000000 : Int)) ((1 : Int) + z8.1))) fun z5 => .ok (z5, z8.2) else if decide ((3 : Int) < x1.1) = true then Res.bind (l_take x1.2 (201 : Int)) fun z10 => Res.bind (l_take z10.2 (6 : Int)) fun z11 => Res.bind (Res.mapE (fun _ => z11.2) (l_num (z10.1 - (100 : Int)) ((1 : Int) + z11.1))) fun z9 => .ok (z9, z11.2) else Res.bind (l_take x1.2 (9 : Int)) fun z13 => Res.bind (Res.opt (mkQ (z13.1 - (4 : Int)) (1 : Int))) fun z12 => .ok (z12, z13.2)
end
section
set_option Elab.async false
set_option linter.all false
set_option maxRecDepth 100000
set_option synthInstance.maxSize 4000
set_option maxHeartbeats 4000000
open TL PySem L2
end
section
set_option Elab.async false
set_option linter.all false
set_option maxRecDepth 100000
set_option synthInstance.maxSize 4000
set_option maxHeartbeats 4000000
open TL PySem L2
def sx_11f6ad8e : Tx := ⟨"x", by decide +kernel⟩
def sx_95cb0bfd : Tx := ⟨"y", by decide +kernel⟩
end
section
set_option Elab.async false
set_option linter.all false
set_option maxRecDepth 100000
set_option synthInstance.maxSize 4000
set_option maxHeartbeats 4000000
open TL PySem L2
noncomputable def l_few (vwell_here : (List Int)) : Res (List Int) ((Int × Int) × (List Int)) :=
  Res.bind (l_take vwell_here (8 : Int)) fun z6 => Res.bind (.ok z6.2) fun s1 => if decide (z6.1 = (1 : Int)) = true then Res.bind (l_take s1 (4 : Int)) fun z2 => Res.bind (l_take z2.2 (8 : Int)) fun z3 => .ok ((((3 : Int) + z2.1), ((9 : Int) + z3.1)), z3.2) else Res.bind (l_take s1 (4 : Int)) fun z4 => Res.bind (l_take z4.2 (9 : Int)) fun z5 => .ok ((((1 : Int) + z4.1), z5.1), z5.2)
noncomputable def l_chains_k1  (s10 : ((List (List Int)) × (List ((List Int) × Bool)))) : Res Unit ((List (List Int))) :=
  Res.bind (Res.grd (∀ x ∈ List.map Prod.fst s10.2, x ≠ []) (sortG (eV eI) (List.map Prod.fst s10.2))) fun z13 => .ok z13
noncomputable def l_chains_k2 (n11 : ((List (List Int)) × (List ((List Int) × Bool))) → Res Unit ((List (List Int)))) (s16 : ((List (List Int)) × (List ((List Int) × Bool)))) : Res Unit ((List (List Int))) :=
  n11 (s16.1, s16.2)
noncomputable def l_chains_k3 (s10 : ((List (List Int)) × (List ((List Int) × Bool)))) (n11 : ((List (List Int)) × (List ((List Int) × Bool))) → Res Unit ((List (List Int)))) (s33 : (List (List Int))) : Res Unit ((List (List Int))) :=
  (l_chains_k2 n11) (s33, s10.2)
noncomputable def l_chains_b4 (vgaps_here : (List ((Tx × Tx) × (Tx × Tx) × (Rat × (List (Tx × Rat)))))) (s10 : ((List (List Int)) × (List ((List Int) × Bool)))) (n11 : ((List (List Int)) × (List ((List Int) × Bool))) → Res Unit ((List (List Int)))) : Res Unit ((List (List Int))) :=
  Res.bind (Res.opt (popL s10.1)) fun z47 => Res.bind (.ok (z47.1, z47.2)) fun x14 => Res.bind (Res.opt (atI x14.1 (-(1 : Int)))) fun z46 => Res.bind (Res.opt (atI vgaps_here z46)) fun z45 => Res.bind (.ok z45.2.1) fun x15 => Res.bind (Res.opt (atI x14.1 (0 : Int))) fun z44 => Res.bind (Res.opt (atI vgaps_here z44)) fun z43 => if decide (x15 = z43.1) = true then Res.bind (Res.opt (minL x14.1)) fun z22 => Res.bind (Res.opt (idxL x14.1 z22)) fun z21 => Res.bind (.ok z21) fun x18 => Res.bind (Res.grd (List.length (cutL x14.1 (some x18) none) + List.length (cutL x14.1 none (some x18)) ≤ 100000) ((cutL x14.1 (some x18) none) ++ (cutL x14.1 none (some x18)))) fun z20 => Res.bind (Res.grd (List.length s10.2 < 100000) (dput s10.2 z20 true, ())) fun x19 => (l_chains_k2 n11) (x14.2, x19.1) else Res.bind (Res.grd (x14.1.length ≤ 100000) x14.1) fun z31 => Res.bind (Res.calm (Res.lc (fun (x28 : Int) (s29 : Unit) => Res.bind (Res.opt (atI vgaps_here x28)) fun z30 => .ok (some z30.1, s29)) z31 ())) fun z32 => if (!memD x15 z32.1) = true then Res.bind (Res.grd (-(2 ^ 62) ≤ (List.length vgaps_here : Int) ∧ (List.length vgaps_here : Int) < 2 ^ 62) (rangeL 0 (Int.toNat (List.length vgaps_here : Int)))) fun z35 => Res.bind (Res.grd (z35.length ≤ 100000) z35) fun z40 => Res.bind (Res.calm (Res.lc (fun (x36 : Int) (s37 : Unit) => Res.bind (Res.opt (atI vgaps_here x36)) fun z38 => if decide (z38.1 = x15) = true then Res.bind (Res.grd (List.length x14.1 + List.length [x36] ≤ 100000) (x14.1 ++ [x36])) fun z39 => .ok (some z39, s37) else .ok (none, s37)) z40 ())) fun z41 => Res.bind (Res.grd (List.length x14.2 + List.length z41.1 ≤ 100000) (x14.2 ++ z41.1, z41.2)) fun x42 => (l_chains_k3 s10 n11) x42.1 else (l_chains_k3 s10 n11) x14.2
noncomputable def l_chains (vgaps_here : (List ((Tx × Tx) × (Tx × Tx) × (Rat × (List (Tx × Rat)))))) : Res Unit ((List (List Int))) :=
  Res.bind (.ok []) fun x1 => Res.bind (Res.grd (-(2 ^ 62) ≤ (List.length vgaps_here : Int) ∧ (List.length vgaps_here : Int) < 2 ^ 62) (rangeL 0 (Int.toNat (List.length vgaps_here : Int)))) fun z4 => Res.bind (Res.grd (z4.length ≤ 100000) z4) fun z7 => Res.bind (Res.calm (Res.lc (fun (x5 : Int) (s6 : Unit) => .ok (some [x5], s6)) z7 ())) fun z8 => Res.bind (.ok z8.1) fun x3 => Res.wloop (fun s10 n11 => if (!decide (s10.1 = [])) = true then (l_chains_b4 vgaps_here) s10 n11 else l_chains_k1 s10) Res.fuel (x3, x1)
end
section
set_option Elab.async false
set_option linter.all false
set_option maxRecDepth 100000
set_option synthInstance.maxSize 4000
set_option maxHeartbeats 4000000
open TL PySem L2
noncomputable def l_words_k21_k1 (x10 : (Int × (List Int))) (s15 : (List Tx)) : Res (List Int) ((List Tx) × (List Int)) :=
  .ok (s15, x10.2)
noncomputable def l_words_k21_b2 (x1 : Tx) (x2 : (Tx × (List Int))) (x10 : (Int × (List Int))) (x11 : Int) (x16 : Int) (s15 : (List Tx)) (n17 : (List Tx) → Res (List Int) ((List Tx) × (List Int))) : Res (List Int) ((List Tx) × (List Int)) :=
  Res.bind (Res.grd (CMulW (3 : Int) x16) ((3 : Int) * x16)) fun z26 => Res.bind (Res.grd ((26 : Int) ≠ 0) (Int.fmod (x11 + z26) (26 : Int))) fun z27 => Res.bind (Res.opt (Tx.at x1 z27)) fun z25 => Res.bind (.ok z25) fun x19 => Res.bind (Res.grd (CMulW (3 : Int) x16) ((3 : Int) * x16)) fun z21 => Res.bind (Res.grd ((8 : Int) ≠ 0) (Int.fmod (x10.1 + z21) (8 : Int))) fun z22 => Res.bind (Res.grd (Tx.len x2.1 ≤ 100000) (Tx.cut x2.1 none (some z22))) fun z23 => Res.bind (Res.grd (Tx.len x19 + Tx.len z23 ≤ 100000) (x19 ++ z23)) fun z24 => Res.bind (Res.grd (List.length s15 < 100000) (s15 ++ [z24], ())) fun x20 => n17 x20.1
noncomputable def l_words_k21 (vwell_here : (List Int)) (vmany : Int) : Res (List Int) ((List Tx) × (List Int)) :=
  Res.bind (.ok sx_32d10c7b) fun x1 => Res.bind (Res.grd (-(2 ^ 62) ≤ (8 : Int) ∧ (8 : Int) < 2 ^ 62) (rangeL 0 (Int.toNat (8 : Int)))) fun z3 => Res.bind (Res.grd (z3.length ≤ 100000) z3) fun z8 => Res.bind (Res.calm (Res.lc (fun (x4 : Int) (s5 : (List Int)) => Res.bind (Res.mapE (fun _ : (List Int) => ()) (l_take s5 (26 : Int))) fun z7 => Res.bind (Res.opt (Tx.at x1 z7.1)) fun z6 => .ok (some z6, z7.2)) z8 vwell_here)) fun z9 => Res.bind (Res.grd (joinC sx_da39a3ee z9.1) (Tx.join sx_da39a3ee z9.1)) fun z54 => Res.bind (.ok (z54, z9.2)) fun x2 => Res.bind (l_take x2.2 (16 : Int)) fun z53 => Res.bind (.ok (z53.1, z53.2)) fun x10 => if decide (x10.1 < (8 : Int)) = true then Res.bind (Res.opt (Tx.at x2.1 (7 : Int))) fun z29 => Res.bind (Res.opt (Tx.index? x1 z29)) fun z28 => Res.bind (.ok z28) fun x11 => Res.bind (.ok []) fun x12 => Res.bind (Res.grd (-(2 ^ 62) ≤ vmany ∧ vmany < 2 ^ 62) (rangeL 0 (Int.toNat vmany))) fun z14 => Res.loop (l_words_k21_b2 x1 x2 x10 x11) (l_words_k21_k1 x10) z14 x12 else Res.bind (l_take x10.2 (8 : Int)) fun z52 => Res.bind (.ok (((1 : Int) + z52.1), z52.2)) fun x30 => Res.bind (l_take x30.2 x30.1) fun z51 => Res.bind (.ok (z51.1, z51.2)) fun x31 => Res.bind (l_take x31.2 (26 : Int)) fun z50 => Res.bind (.ok (z50.1, z50.2)) fun x32 => Res.bind (Res.grd (-(2 ^ 62) ≤ vmany ∧ vmany < 2 ^ 62) (rangeL 0 (Int.toNat vmany))) fun z34 => Res.bind (Res.grd (z34.length ≤ 100000) z34) fun z40 => Res.bind (Res.calm (Res.lc (fun (x35 : Int) (s36 : Unit) => Res.bind (Res.grd (CMulW (3 : Int) x35) ((3 : Int) * x35)) fun z38 => Res.bind (Res.grd ((26 : Int) ≠ 0) (Int.fmod (x32.1 + z38) (26 : Int))) fun z39 => Res.bind (Res.opt (Tx.at x1 z39)) fun z37 => .ok (some z37, s36)) z40 ())) fun z41 => Res.bind (.ok z41.1) fun x33 => Res.bind (Res.grd (x33.length ≤ 100000) x33) fun z48 => Res.bind (Res.calm (Res.lc (fun (x42 : Tx) (s43 : Unit) => Res.bind (Res.grd (Tx.len x2.1 ≤ 100000) (Tx.cut x2.1 none (some x31.1))) fun z44 => Res.bind (Res.grd (Tx.len z44 + Tx.len x42 ≤ 100000) (z44 ++ x42)) fun z45 => Res.bind (Res.grd (Tx.len x2.1 ≤ 100000) (Tx.cut x2.1 (some (x31.1 + (1 : Int))) (some x30.1))) fun z46 => Res.bind (Res.grd (Tx.len z45 + Tx.len z46 ≤ 100000) (z45 ++ z46)) fun z47 => .ok (some z47, s43)) z48 ())) fun z49 => .ok (z49.1, x32.2)
noncomputable def l_nodes_k21_k1 (vmany : Int) (s3 : ((List (Tx × Tx)) × (List Int))) : Res (List Int) ((List (Tx × Tx)) × (List Int)) :=
  Res.bind (Res.grd (-(2 ^ 62) ≤ vmany ∧ vmany < 2 ^ 62) (rangeL 0 (Int.toNat vmany))) fun z7 => Res.bind (Res.grd (z7.length ≤ 100000) z7) fun z12 => Res.bind (Res.calm (Res.lc (fun (x8 : Int) (s9 : ((List (Tx × Tx)) × (List Int))) => Res.bind (Res.mapE (fun _ => ()) (l_take (s9.2) (List.length s9.1 : Int))) fun z11 => Res.bind (Res.opt (popAt (s9.1, z11.2).1 z11.1)) fun z10 => .ok (some z10.1, (z10.2, (s9.1, z11.2).2))) z12 (s3.1, s3.2))) fun z13 => .ok (z13.1, z13.2.2)
noncomputable def l_nodes_k21_b2  (x4 : Tx) (s3 : ((List (Tx × Tx)) × (List Int))) (n5 : ((List (Tx × Tx)) × (List Int)) → Res (List Int) ((List (Tx × Tx)) × (List Int))) : Res (List Int) ((List (Tx × Tx)) × (List Int)) :=
  Res.bind (Res.grd (List.length s3.1 + List.length [(sx_11f6ad8e, x4), (sx_95cb0bfd, x4)] ≤ 100000) (s3.1 ++ [(sx_11f6ad8e, x4), (sx_95cb0bfd, x4)], ())) fun x14 => n5 (x14.1, s3.2)
noncomputable def l_nodes_k21 (vwell_here : (List Int)) (vmany : Int) : Res (List Int) ((List (Tx × Tx)) × (List Int)) :=
  Res.bind (.ok []) fun x1 => Res.bind (l_words_k21 vwell_here (6 : Int)) fun z15 => Res.loop l_nodes_k21_b2 (l_nodes_k21_k1 vmany) z15.1 (x1, z15.2)
noncomputable def l_gaps_k21_k1  (s6 : ((List ((Tx × Tx) × (Tx × Tx) × (Rat × (List (Tx × Rat))))) × (List Int))) : Res (List Int) ((List ((Tx × Tx) × (Tx × Tx) × (Rat × (List (Tx × Rat))))) × (List Int)) :=
  .ok (s6.1, s6.2)
noncomputable def l_gaps_k21_k2 (s6 : ((List ((Tx × Tx) × (Tx × Tx) × (Rat × (List (Tx × Rat))))) × (List Int))) (n8 : ((List ((Tx × Tx) × (Tx × Tx) × (Rat × (List (Tx × Rat))))) × (List Int)) → Res (List Int) ((List ((Tx × Tx) × (Tx × Tx) × (Rat × (List (Tx × Rat))))) × (List Int))) (s13 : ((Tx × Tx) × (Tx × Tx) × (List Int))) : Res (List Int) ((List ((Tx × Tx) × (Tx × Tx) × (Rat × (List (Tx × Rat))))) × (List Int)) :=
  Res.bind (l_number_k11 s13.2.2) fun z16 => Res.bind (Res.grd (List.length s6.1 < 100000) (s6.1 ++ [(s13.1, s13.2.1, (z16.1, []))], z16.2)) fun x15 => n8 (x15.1, x15.2)
noncomputable def l_gaps_k21_b3 (x1 : ((Int × Int) × (List Int))) (x2 : ((List (Tx × Tx)) × (List Int))) (x7 : Int) (s6 : ((List ((Tx × Tx) × (Tx × Tx) × (Rat × (List (Tx × Rat))))) × (List Int))) (n8 : ((List ((Tx × Tx) × (Tx × Tx) × (Rat × (List (Tx × Rat))))) × (List Int)) → Res (List Int) ((List ((Tx × Tx) × (Tx × Tx) × (Rat × (List (Tx × Rat))))) × (List Int))) : Res (List Int) ((List ((Tx × Tx) × (Tx × Tx) × (Rat × (List (Tx × Rat))))) × (List Int)) :=
  Res.bind (l_take s6.2 x1.1.1) fun z25 => Res.bind (Res.opt (atI x2.1 z25.1)) fun z24 => Res.bind (.ok (z24, z25.2)) fun x10 => Res.bind (l_take x10.2 x1.1.1) fun z23 => Res.bind (Res.opt (atI x2.1 z23.1)) fun z22 => Res.bind (.ok (z22, z23.2)) fun x11 => Res.bind (if (!decide (s6.1 = [])) = true then Res.bind (l_take x11.2 (5 : Int)) fun z21 => .ok (decide (z21.1 = (1 : Int)), z21.2) else .ok (false, x11.2)) fun z20 => Res.bind (.ok z20.2) fun s12 => if z20.1 = true then Res.bind (l_take s12 (List.length s6.1 : Int)) fun z19 => Res.bind (Res.opt (atI s6.1 z19.1)) fun z18 => Res.bind (.ok ((z18.1, z18.2.1), z19.2)) fun x17 => (l_gaps_k21_k2 s6 n8) (x17.1.2, x17.1.1, x17.2) else (l_gaps_k21_k2 s6 n8) (x10.1, x11.1, s12)
noncomputable def l_gaps_k21 (vwell_here : (List Int)) : Res (List Int) ((List ((Tx × Tx) × (Tx × Tx) × (Rat × (List (Tx × Rat))))) × (List Int)) :=
  Res.bind (l_few vwell_here) fun z27 => Res.bind (.ok (z27.1, z27.2)) fun x1 => Res.bind (l_nodes_k21 x1.2 x1.1.1) fun z26 => Res.bind (.ok (z26.1, z26.2)) fun x2 => Res.bind (.ok []) fun x3 => Res.bind (Res.grd (-(2 ^ 62) ≤ x1.1.2 ∧ x1.1.2 < 2 ^ 62) (rangeL 0 (Int.toNat x1.1.2))) fun z5 => Res.loop (l_gaps_k21_b3 x1 x2) l_gaps_k21_k1 z5 (x3, x2.2)
noncomputable def m_nodes_of_k1  (s3 : (List (Tx × Tx))) : Res Unit ((List (Tx × Tx))) :=
  Res.bind (Res.grd (List.length s3 < 64) (sortG (e2 eS eS) (uniq s3))) fun z7 => .ok z7
noncomputable def m_nodes_of_b2  (x4 : ((Tx × Tx) × (Tx × Tx) × (Rat × (List (Tx × Rat))))) (s3 : (List (Tx × Tx))) (n5 : (List (Tx × Tx)) → Res Unit ((List (Tx × Tx)))) : Res Unit ((List (Tx × Tx))) :=
  Res.bind (Res.grd (List.length s3 + List.length [x4.1, x4.2.1] ≤ 100000) (s3 ++ [x4.1, x4.2.1], ())) fun x8 => n5 x8.1
noncomputable def m_nodes_of (vgaps : (List ((Tx × Tx) × (Tx × Tx) × (Rat × (List (Tx × Rat)))))) : Res Unit ((List (Tx × Tx))) :=
  Res.bind (.ok []) fun x1 => Res.loop m_nodes_of_b2 m_nodes_of_k1 vgaps x1
noncomputable def m_chains_behind_k1  (s14 : (List (List Int))) : Res Unit ((List (List Int))) :=
  .ok s14
noncomputable def m_chains_behind_k2  (s17 : (List (List Int))) : Res Unit ((List (List Int))) :=
  m_chains_behind_k1 s17
noncomputable def m_chains_behind_k3 (n19 : (List (List Int)) → Res Unit ((List (List Int)))) (s21 : (List (List Int))) : Res Unit ((List (List Int))) :=
  n19 s21
noncomputable def m_chains_behind_b4 (vgaps : (List ((Tx × Tx) × (Tx × Tx) × (Rat × (List (Tx × Rat)))))) (vway : (List Int)) (rec : (List ((Tx × Tx) × (Tx × Tx) × (Rat × (List (Tx × Rat))))) → (List Int) → Res Unit ((List (List Int)))) (x1 : (Tx × Tx)) (x18 : Int) (s17 : (List (List Int))) (n19 : (List (List Int)) → Res Unit ((List (List Int)))) : Res Unit ((List (List Int))) :=
  Res.bind (Res.opt (atI vgaps x18)) fun z26 => if decide (z26.1 = x1) = true then Res.bind (Res.grd (List.length vway + List.length [x18] ≤ 100000) (vway ++ [x18])) fun z25 => Res.bind (rec vgaps z25) fun z24 => Res.bind (Res.grd (List.length s17 + List.length z24 ≤ 100000) (s17 ++ z24, ())) fun x23 => (m_chains_behind_k3 n19) x23.1 else (m_chains_behind_k3 n19) s17
noncomputable def m_chains_behind_st (rec : (List ((Tx × Tx) × (Tx × Tx) × (Rat × (List (Tx × Rat))))) → (List Int) → Res Unit ((List (List Int)))) (vgaps : (List ((Tx × Tx) × (Tx × Tx) × (Rat × (List (Tx × Rat)))))) (vway : (List Int)) : Res Unit ((List (List Int))) :=
  Res.bind (Res.opt (atI vway (-(1 : Int)))) fun z31 => Res.bind (Res.opt (atI vgaps z31)) fun z30 => Res.bind (.ok z30.2.1) fun x1 => Res.bind (Res.opt (atI vway (0 : Int))) fun z29 => Res.bind (Res.opt (atI vgaps z29)) fun z28 => if decide (x1 = z28.1) = true then .ok [vway] else Res.bind (.ok []) fun x2 => Res.bind (Res.grd (vway.length ≤ 100000) vway) fun z12 => Res.bind (Res.calm (Res.lc (fun (x9 : Int) (s10 : Unit) => Res.bind (Res.opt (atI vgaps x9)) fun z11 => .ok (some z11.1, s10)) z12 ())) fun z13 => if (!memD x1 z13.1) = true then Res.bind (Res.opt (atI vway (0 : Int))) fun z27 => Res.bind (Res.grd (-(2 ^ 62) ≤ (z27 + (1 : Int)) ∧ (z27 + (1 : Int)) < 2 ^ 62 ∧ -(2 ^ 62) ≤ (List.length vgaps : Int) ∧ (List.length vgaps : Int) < 2 ^ 62) (rangeL (z27 + (1 : Int)) (Int.toNat ((List.length vgaps : Int) - (z27 + (1 : Int)))))) fun z16 => Res.loop (m_chains_behind_b4 vgaps vway rec x1) m_chains_behind_k2 z16 x2 else m_chains_behind_k1 x2
noncomputable def m_chains_behind_r : Nat → (List ((Tx × Tx) × (Tx × Tx) × (Rat × (List (Tx × Rat))))) → (List Int) → Res Unit ((List (List Int)))
  | 0 => fun _ _ => .stuck
  | m + 1 => m_chains_behind_st (m_chains_behind_r m)
noncomputable def m_chains_behind (vgaps : (List ((Tx × Tx) × (Tx × Tx) × (Rat × (List (Tx × Rat)))))) (vway : (List Int)) : Res Unit ((List (List Int))) :=
  m_chains_behind_r 24 vgaps vway
noncomputable def m_chains_of_k1  (s4 : (List (List Int))) : Res Unit ((List (List Int))) :=
  .ok s4
noncomputable def m_chains_of_b2 (vgaps : (List ((Tx × Tx) × (Tx × Tx) × (Rat × (List (Tx × Rat)))))) (x5 : Int) (s4 : (List (List Int))) (n6 : (List (List Int)) → Res Unit ((List (List Int)))) : Res Unit ((List (List Int))) :=
  Res.bind (m_chains_behind vgaps [x5]) fun z9 => Res.bind (Res.grd (List.length s4 + List.length z9 ≤ 100000) (s4 ++ z9, ())) fun x8 => n6 x8.1
noncomputable def m_chains_of (vgaps : (List ((Tx × Tx) × (Tx × Tx) × (Rat × (List (Tx × Rat)))))) : Res Unit ((List (List Int))) :=
  Res.bind (.ok []) fun x1 => Res.bind (Res.grd (-(2 ^ 62) ≤ (List.length vgaps : Int) ∧ (List.length vgaps : Int) < 2 ^ 62) (rangeL 0 (Int.toNat (List.length vgaps : Int)))) fun z3 => Res.loop (m_chains_of_b2 vgaps) m_chains_of_k1 z3 x1
noncomputable def l_are_chains_k1  (s1 : Unit) : Res Unit (Bool) :=
  .ok true
noncomputable def l_are_chains_b2  (x2 : (List Int)) (s1 : Unit) (n3 : Unit → Res Unit (Bool)) : Res Unit (Bool) :=
  Res.bind (if (!true) = true then .ok (true, ()) else Res.bind (Res.grd (x2.length ≤ 100000) x2) fun z11 => Res.bind (Res.calm (Res.lc (fun (x9 : Int) (s10 : Unit) => .ok (some (true && (!false)), s10)) z11 ())) fun z12 => .ok (decide (false ∈ z12.1), z12.2)) fun z13 => if z13.1 = true then .ok false else n3 ()
noncomputable def l_are_chains (vfound : (List (List Int))) : Res Unit (Bool) :=
  Res.loop l_are_chains_b2 l_are_chains_k1 vfound ()
noncomputable def l_law_k21_k1  (s2 : Unit) : Res Unit (Bool) :=
  Res.bind (m_nodes_of []) fun z6 => Res.bind (if decide (z6 = []) = true then Res.bind (m_chains_of []) fun z8 => .ok (decide (z8 = []), ()) else .ok (false, ())) fun z7 => .ok z7.1
noncomputable def l_law_k21_k2 (n4 : Unit → Res Unit (Bool)) (x9 : (List ((Tx × Tx) × (Tx × Tx) × (Rat × (List (Tx × Rat)))))) (x20 : (List ((Tx × Tx) × (Tx × Tx) × (Rat × (List (Tx × Rat)))))) (s22 : Unit) : Res Unit (Bool) :=
  if (!decide (x20 = x9)) = true then .ok false else n4 ()
noncomputable def l_law_k21_b3 (x10 : (List (Tx × Tx))) (x19 : (List (List Int))) (x20 : (List ((Tx × Tx) × (Tx × Tx) × (Rat × (List (Tx × Rat)))))) (x23 : Int) (s22 : Unit) (n24 : Unit → Res Unit (Bool)) : Res Unit (Bool) :=
  Res.bind (m_nodes_of x20) fun z36 => Res.bind (.ok z36) fun x26 => Res.bind (m_chains_of x20) fun z35 => Res.bind (.ok z35) fun x28 => Res.bind (if (!true) = true then .ok (true, ()) else Res.bind (if (!decide (x26 = x10)) = true then .ok (true, ()) else Res.bind (Res.mapE (fun _ => ()) (l_are_chains x28)) fun z34 => .ok (((!z34) || (!decide (x28 = x19))), ())) fun z33 => .ok (z33.1, z33.2)) fun z32 => if z32.1 = true then .ok false else Res.bind (.ok (([] : (List (Tx × Tx))), ())) fun x30 => Res.bind (.ok (([] : (List (List Int))), ())) fun x31 => n24 ()
noncomputable def l_law_k21_b4 (vscript : (List Int)) (x3 : Int) (s2 : Unit) (n4 : Unit → Res Unit (Bool)) : Res Unit (Bool) :=
  Res.bind (l_well vscript x3) fun z41 => Res.bind (Res.mapE (fun _ => ()) (l_gaps_k21 z41)) fun z40 => Res.bind (.ok z40.1) fun x9 => Res.bind (Res.grd (x9.length ≤ 100000) x9) fun z13 => Res.bind (Res.calm (Res.lc (fun (x11 : ((Tx × Tx) × (Tx × Tx) × (Rat × (List (Tx × Rat))))) (s12 : Unit) => .ok (some x11.1, s12)) z13 ())) fun z14 => Res.bind (Res.grd (x9.length ≤ 100000) x9) fun z17 => Res.bind (Res.calm (Res.lc (fun (x15 : ((Tx × Tx) × (Tx × Tx) × (Rat × (List (Tx × Rat))))) (s16 : Unit) => .ok (some x15.2.1, s16)) z17 z14.2)) fun z18 => Res.bind (Res.grd (List.length z14.1 + List.length z18.1 ≤ 100000) (z14.1 ++ z18.1)) fun z39 => Res.bind (Res.grd (List.length z39 < 64) (sortG (e2 eS eS) (uniq z39))) fun z38 => Res.bind (.ok z38) fun x10 => Res.bind (l_chains x9) fun z37 => Res.bind (.ok z37) fun x19 => Res.bind (.ok x9) fun x20 => Res.bind (Res.grd (-(2 ^ 62) ≤ (2 : Int) ∧ (2 : Int) < 2 ^ 62) (rangeL 0 (Int.toNat (2 : Int)))) fun z21 => Res.loop (l_law_k21_b3 x10 x19 x20) (l_law_k21_k2 n4 x9 x20) z21 ()
noncomputable def l_law_k21 (vscript : (List Int)) : Res Unit (Bool) :=
  Res.bind (Res.grd (-(2 ^ 62) ≤ (if (if (4 : Int) < (List.length vscript : Int) then (4 : Int) else (List.length vscript : Int)) > (1 : Int) then (if (4 : Int) < (List.length vscript : Int) then (4 : Int) else (List.length vscript : Int)) else (1 : Int)) ∧ (if (if (4 : Int) < (List.length vscript : Int) then (4 : Int) else (List.length vscript : Int)) > (1 : Int) then (if (4 : Int) < (List.length vscript : Int) then (4 : Int) else (List.length vscript : Int)) else (1 : Int)) < 2 ^ 62) (rangeL 0 (Int.toNat (if (if (4 : Int) < (List.length vscript : Int) then (4 : Int) else (List.length vscript : Int)) > (1 : Int) then (if (4 : Int) < (List.length vscript : Int) then (4 : Int) else (List.length vscript : Int)) else (1 : Int))))) fun z1 => Res.loop (l_law_k21_b4 vscript) l_law_k21_k1 z1 ()
end
section
set_option Elab.async false
set_option linter.all false
set_option maxRecDepth 100000
set_option maxHeartbeats 1000000
open TL PySem L2
namespace Res
variable {ε ε' α β γ σ ρ : Type}
def To (m : Res ε α) (P : α → Prop) : Prop := ∃ a, m = .ok a ∧ P a
theorem To.ok {a : α} {P : α → Prop} (h : P a) : (Res.ok a : Res ε α).To P := ⟨a, rfl, h⟩
theorem To.mono {m : Res ε α} {P Q : α → Prop} (h : m.To P) (f : ∀ a, P a → Q a) : m.To Q := let ⟨a, e, p⟩ := h; ⟨a, e, f a p⟩
theorem To.b {m : Res ε α} {k : α → Res ε β} {P : α → Prop} {Q : β → Prop} (h : m.To P) (f : ∀ a, P a → (k a).To Q) : (bind m k).To Q := by
  obtain ⟨a, rfl, p⟩ := h
  exact f a p
theorem To.e {m : Res ε α} {k : α → Res ε β} {a : α} {Q : β → Prop} (h : m = .ok a) (f : (k a).To Q) : (bind m k).To Q := by
  subst h
  exact f
theorem To.g {c : Prop} {x : α} {k : α → Res ε β} {Q : β → Prop} (h : c) (f : (k x).To Q) : (bind (grd c x) k).To Q := To.e (grd_t h) f
theorem To.o {x : Option α} {a : α} {k : α → Res ε β} {Q : β → Prop} (h : x = some a) (f : (k a).To Q) : (bind (opt x) k).To Q := by
  subst h
  exact f
theorem To.v {a : α} {k : α → Res ε β} {Q : β → Prop} (f : (k a).To Q) : (bind (.ok a) k).To Q := f
theorem To.mE {m : Res ε α} {g : ε → ε'} {P : α → Prop} (h : m.To P) : (mapE g m).To P := by
  obtain ⟨a, rfl, p⟩ := h
  exact ⟨a, rfl, p⟩
theorem To.calm {m : Res Unit α} {P : α → Prop} (h : m.To P) : (Res.calm m : Res ε' α).To P := by
  obtain ⟨a, rfl, p⟩ := h
  exact ⟨a, rfl, p⟩
theorem To.i {b : Bool} {m n : Res ε α} {P : α → Prop} (h1 : b = true → m.To P) (h2 : b = false → n.To P) : (if b = true then m else n).To P := by
  cases b with
  | true => exact h1 rfl
  | false => exact h2 rfl
theorem To.loop {body : α → σ → (σ → Res ε ρ) → Res ε ρ} {k : σ → Res ε ρ} {P : ρ → Prop} (I : List α → σ → Prop) : ∀ {xs : List α} {s0 : σ},
    I [] s0 → (∀ pre x post s, xs = pre ++ x :: post → I pre s → ∀ nx : σ → Res ε ρ, (∀ s', I (pre ++ [x]) s' → (nx s').To P) → (body x s nx).To P) → (∀ s, I xs s → (k s).To P) → (Res.loop body k xs s0).To P := by
  intro xs s0 h0 step done
  have key : ∀ (post pre : List α) (s : σ), xs = pre ++ post → I pre s → (Res.loop body k post s).To P := by
    intro post
    induction post with
    | nil =>
      intro pre s e h
      rw [List.append_nil] at e
      subst e
      exact done s h
    | cons x post ih =>
      intro pre s e h
      exact step pre x post s e h _ fun s' hs' => ih (pre ++ [x]) s' (by rw [List.append_assoc]; exact e) hs'
  exact key xs [] s0 rfl h0
theorem To.wloop {body : σ → (σ → Res ε ρ) → Res ε ρ} {P : ρ → Prop} (I : σ → Prop) (μ : σ → Nat) : ∀ {n : Nat} {s0 : σ}, I s0 → μ s0 < n →
    (∀ s, I s → ∀ nx : σ → Res ε ρ, (∀ s', I s' → μ s' < μ s → (nx s').To P) → (body s nx).To P) → (Res.wloop body n s0).To P := by
  intro n
  induction n with
  | zero => intro s0 _ h; omega
  | succ n ih =>
    intro s0 h0 hn step
    exact step s0 h0 _ fun s' h1 h2 => ih h1 (by omega) step
theorem loop_foldI {body : α → σ → (σ → Res ε ρ) → Res ε ρ} {k : σ → Res ε ρ} (f : σ → α → σ) (I : List α → σ → Prop) : ∀ {xs : List α} {s0 : σ}, I [] s0 →
    (∀ pre x post s, xs = pre ++ x :: post → I pre s → (∀ nx : σ → Res ε ρ, body x s nx = nx (f s x)) ∧ I (pre ++ [x]) (f s x)) → Res.loop body k xs s0 = k (xs.foldl f s0) ∧ I xs (xs.foldl f s0) := by
  intro xs s0 h0 step
  have key : ∀ (post pre : List α) (s : σ), xs = pre ++ post → I pre s → Res.loop body k post s = k (post.foldl f s) ∧ I xs (post.foldl f s) := by
    intro post
    induction post with
    | nil =>
      intro pre s e h
      rw [List.append_nil] at e
      subst e
      exact ⟨rfl, h⟩
    | cons x post ih =>
      intro pre s e h
      obtain ⟨h1, h2⟩ := step pre x post s e h
      obtain ⟨h3, h4⟩ := ih (pre ++ [x]) (f s x) (by rw [List.append_assoc]; exact e) h2
      exact ⟨(h1 _).trans h3, h4⟩
  exact key xs [] s0 rfl h0
theorem lc_map {body : α → σ → Res ε (Option β × σ)} (f : α → Option β) (s : σ) : ∀ (xs : List α), (∀ x ∈ xs, body x s = .ok (f x, s)) → Res.lc body xs s = .ok (xs.filterMap f, s)
  | [], _ => rfl
  | x :: xs, h => by
    unfold Res.lc
    rw [h x List.mem_cons_self, bind_ok, lc_map f s xs fun y hy => h y (List.mem_cons_of_mem _ hy), bind_ok]
    cases e : f x <;> simp [List.filterMap_cons, e]
theorem To.lc {body : α → σ → Res ε (Option β × σ)} (J : Nat → σ → Prop) (P : β → Prop) : ∀ {xs : List α} {s : σ} {n : Nat}, J n s → (∀ x ∈ xs, ∀ m s, n ≤ m → m < n + xs.length → J m s → (body x s).To fun t => (∃ y, t.1 = some y ∧ P y) ∧ J (m + 1) t.2) →
    (Res.lc body xs s).To fun z => z.1.length = xs.length ∧ (∀ y ∈ z.1, P y) ∧ J (n + xs.length) z.2 := by
  intro xs
  induction xs with
  | nil => intro s n h _; exact .ok ⟨rfl, (fun y hy => by cases hy), h⟩
  | cons x xs ih =>
    intro s n h step
    unfold Res.lc
    refine To.b (step x List.mem_cons_self n s (Nat.le_refl _) (by simp) h) fun t ⟨⟨y, e, py⟩, hj⟩ => ?_
    refine To.b (ih (n := n + 1) hj fun x' hx m s' h1 h2 h3 => step x' (List.mem_cons_of_mem _ hx) m s' (by omega) (by simp at h2 ⊢; omega) h3) fun u ⟨hl, hp, hj2⟩ => .ok ?_
    rw [e]
    refine ⟨by simp [hl], fun z hz => ?_, by simp at hj2 ⊢; rw [show n + (xs.length + 1) = n + 1 + xs.length by omega]; exact hj2⟩
    rcases List.mem_cons.mp hz with q | q
    · subst q; exact py
    · exact hp z q
end Res
open Res
theorem cmulw {i j : Int} (a b : Nat) (ha : i.natAbs < 2 ^ a) (hb : j.natAbs < 2 ^ b) (h0 : 0 < a := by decide) (h1 : 0 < b := by decide) (h : a + b ≤ 1000000 := by decide) : CMulW i j := wmul a b ha hb h0 h1 h
def Wl (n : Nat) (w : List Int) : Prop := ∃ x : We, w = [x.f, x.v, x.t] ∧ x.ok n
theorem Wl.up {n m : Nat} {w : List Int} (h : Wl n w) (l : n ≤ m) : Wl m w := let ⟨x, e, o⟩ := h; ⟨x, e, o.up l⟩
theorem small_of {m : Int} (h0 : 0 < m) (h1 : m ≤ 100000000000000000000) : m.natAbs < 2 ^ 8000 := by
  have e : (2 : Nat) ^ 70 = 1180591620717411303424 := by decide
  exact Nat.lt_of_lt_of_le (show m.natAbs < 2 ^ 70 by omega) (Nat.pow_le_pow_right (by decide) (by decide))
end
section
set_option Elab.async false
set_option linter.all false
set_option maxRecDepth 100000
set_option maxHeartbeats 1000000
open TL PySem L2 Res
theorem l_common_eq {t b : Int} (hb : b.natAbs < 2 ^ 8000) : l_common t b = .ok ((Int.gcd t b : Nat) : Int) := by
  have h : (l_common t b).To fun r => r = ((Int.gcd t b : Nat) : Int) := by
    unfold l_common
    refine To.wloop (fun s : Int × Int => Int.gcd s.1 s.2 = Int.gcd t b ∧ s.2.natAbs ≤ b.natAbs) (fun s => s.2.natAbs) ⟨rfl, Nat.le_refl _⟩ (Res.fuel_big (Nat.lt_of_lt_of_le hb (Nat.pow_le_pow_right (by decide) (by decide)))) ?_
    rintro ⟨x, y⟩ ⟨h1, h2⟩ nx hn
    refine To.i (fun c => ?_) fun c => ?_
    · have y0 : y ≠ 0 := by simpa using c
      unfold l_common_b2
      refine To.g y0 (hn (y, x.fmod y) ⟨?_, ?_⟩ (Nu.fmod_natAbs_lt y0))
      · show Int.gcd y (x.fmod y) = _
        rw [Nu.gcd_fmod]; exact h1
      · have : (x.fmod y).natAbs < y.natAbs := Nu.fmod_natAbs_lt y0
        show (x.fmod y).natAbs ≤ _
        have h2' : y.natAbs ≤ b.natAbs := h2
        omega
    · have y0 : y = 0 := by simpa using c
      subst y0
      refine .ok ?_
      have h1' : Int.gcd x 0 = Int.gcd t b := h1
      rw [← h1', Int.gcd_zero_right]
      show (if x < 0 then -x else x) = _
      split <;> omega
  obtain ⟨a, e, rfl⟩ := h
  exact e
theorem mkQ_q {t b : Int} (h : b ≠ 0) : mkQ (t.fdiv (Nu.by_ t b)) (b.fdiv (Nu.by_ t b)) = some (Nu.q t b) := by
  rw [Nu.top_is h, Nu.bot_is h]
  exact mkQ_of _
theorem l_num_k1_eq {t b : Int} (h : 0 < b) (hb : b.natAbs < 2 ^ 8000) : l_num_k1 (t, b) = .ok (Nu.q t b) := by
  have d : ∀ z, CDivA z ((Int.gcd t b : Nat) : Int) := fun z => by
    have := div_ok (t := t) (b := b) (by omega) hb
    rw [Nu.by_pos h] at this
    exact this
  have e := mkQ_q (t := t) (b := b) (by omega)
  rw [Nu.by_pos h] at e
  unfold l_num_k1
  simp only
  rw [l_common_eq hb]
  simp only [bind_ok]
  rw [grd_t (d t), bind_ok, grd_t (d b), bind_ok, e]
  rfl
theorem l_num_eq {t b : Int} (h : b ≠ 0) (hb : b.natAbs < 2 ^ 8000) : l_num t b = .ok (Nu.q t b) := by
  unfold l_num
  by_cases c : b < 0
  · rw [if_pos (decide_eq_true c)]
    simp only [bind_ok]
    rw [l_num_k1_eq (by omega) (by omega), Nu.q_neg]
  · rw [if_neg (by simpa using c)]
    exact l_num_k1_eq (by omega) hb
section
variable {a b : Rat} (ha : Nu.Bd 3000 a) (hb : Nu.Bd 3000 b)
include ha hb
end
theorem well_to {ns : List Int} {i : Int} (h0 : 0 ≤ i) (h1 : i ≤ 63) : (l_well ns i).To (Wl 1100) := by
  have k : ∀ c : Int, (l_well_k1 i c).To (Wl 1100) := fun c => by
    unfold l_well_k1
    have p7 : (2 : Nat) ^ 7 = 128 := by decide
    refine To.g (cmulw 5 7 (by decide) (by omega)) (.ok ?_)
    by_cases hc : 1000000000000000000 ≤ if c < 0 then -c else c
    · rw [if_pos (decide_eq_true hc)]
      exact ⟨⟨1, c, 17 * i⟩, rfl, .inl rfl⟩
    · rw [if_neg (by simpa using hc)]
      refine ⟨⟨0, c, 17 * i⟩, rfl, .inr ⟨rfl, ?_, by show 0 ≤ 17 * i; omega, by show 17 * i ≤ ((1100 : Nat) : Int); omega⟩⟩
      have e : ((2 : Nat) ^ 60) = 1152921504606846976 := by decide
      rw [e]
      show c.natAbs < _
      split at hc <;> omega
  unfold l_well
  refine To.v (To.i (fun c => ?_) fun _ => k 0)
  have c' : i < (ns.length : Int) := by simpa using c
  refine To.o (a := ns[i.toNat]) ?_ (k _)
  unfold atI ixN
  rw [if_pos h0, if_pos c', Option.bind_some, List.getElem?_eq_getElem]
theorem take_to {n : Nat} {w : List Int} {m : Int} (h : Wl n w) (hm : 0 < m) (hm3 : m ≤ 100000000000000000000) (hn : n ≤ 2 ^ 40) : (l_take w m).To fun r => 0 ≤ r.1 ∧ r.1 < m ∧ Wl (n + 1) r.2 := by
  have hm2 := small_of hm hm3
  obtain ⟨x, rfl, ok⟩ := h
  have m0 : m ≠ 0 := by omega
  unfold l_take
  refine To.o (a := x.f) rfl (To.i (fun c => ?_) fun c => ?_)
  · have hf : x.f = 1 := by simpa using c
    refine To.o (a := x.v) rfl (To.g m0 (To.v (To.o (a := x.v) rfl (To.g (cdiv m0 hm2) (To.o (a := 1) rfl (To.v (.ok ?_)))))))
    exact ⟨(mod_ok hm).1, (mod_ok hm).2, ⟨x.f, x.v.fdiv m, x.t⟩, rfl, .inl hf⟩
  · have hf : ¬ x.f = 1 := by simpa using c
    obtain ⟨h1, h2, h3, h4⟩ := ok.resolve_left hf
    have t1 : (x.t + 1).natAbs < 2 ^ 41 := by
      have : ((2 : Nat) ^ 41) = 2 * 2 ^ 40 := by decide
      omega
    have m1 : CMulW 7919 (x.t + 1) := wmul 13 41 (by decide) t1
    have b2 : (7919 * (x.t + 1)).natAbs < 2 ^ 54 := Nu.natAbs_mul_lt (n := 13) (m := 41) (by decide) t1
    have m2 : CMulW (7919 * (x.t + 1)) (x.t + 1) := wmul 54 41 b2 t1
    have b3 : (7919 * (x.t + 1) * (x.t + 1)).natAbs < 2 ^ 95 := Nu.natAbs_mul_lt (n := 54) (m := 41) b2 t1
    have b4 : (x.v + 7919 * (x.t + 1) * (x.t + 1)).natAbs < 2 ^ 96 := Nu.natAbs_add_lt (Nu.lt_pow_mono h2 (by decide)) b3
    have b5 : (x.v + 7919 * (x.t + 1) * (x.t + 1) + (x.t + 1)).natAbs < 2 ^ 97 := Nu.natAbs_add_lt b4 (Nu.lt_pow_mono t1 (by decide))
    have m3 : CMulW (x.v + 7919 * (x.t + 1) * (x.t + 1) + (x.t + 1)) 48271 := wmul 97 16 b5 (by decide)
    have b6 : (((x.v + 7919 * (x.t + 1) * (x.t + 1) + (x.t + 1)) * 48271).fmod 2305843009213693951).natAbs < 2 ^ 61 := by
      have := mod_ok (a := (x.v + 7919 * (x.t + 1) * (x.t + 1) + (x.t + 1)) * 48271) (m := 2305843009213693951) (by decide)
      have e : ((2 : Nat) ^ 61) = 2305843009213693952 := by decide
      omega
    have m4 : CMulW (((x.v + 7919 * (x.t + 1) * (x.t + 1) + (x.t + 1)) * 48271).fmod 2305843009213693951) 1442695040888963407 := wmul 61 61 b6 (by decide)
    refine To.o (a := x.t) rfl (To.v (To.o (a := 2) rfl (To.v (To.o (a := x.v) rfl (To.g m1 (To.g m2 (To.g m3 (To.g (by decide) (To.v (To.g m4 (To.g (by decide) (To.g (cdiv (by decide) (by decide)) (To.g m0 (.ok ?_))))))))))))))
    exact ⟨(mod_ok hm).1, (mod_ok hm).2, ⟨x.f, x.v, x.t + 1⟩, rfl, .inr ⟨h1, h2, by show 0 ≤ x.t + 1; omega, by show x.t + 1 ≤ ((n + 1 : Nat) : Int); omega⟩⟩
end
section
set_option Elab.async false
set_option linter.all false
set_option maxRecDepth 100000
set_option maxHeartbeats 1000000
open TL PySem L2 Res
theorem Tx.len_app (a b : Tx) : (a ++ b).len = a.len + b.len := by
  show (a.s.cps ++ b.s.cps).size = a.s.cps.size + b.s.cps.size
  exact Array.size_append
theorem Tx.at_ok {t : Tx} {i : Int} (h0 : 0 ≤ i) (h1 : i < t.len) (h2 : t.len ≤ 100000) : ∃ c, t.at i = some c ∧ c.len = 1 ∧ ∃ d, t.s.cps.toList[i.toNat]? = some d ∧ c.s = ⟨#[d]⟩ := by
  have hl : i.toNat < t.s.cps.toList.length := by
    show i.toNat < t.s.cps.toList.length
    have : t.len = t.s.cps.toList.length := by simp [Tx.len, Str.length]
    omega
  have e : atI t.s.cps.toList i = some t.s.cps.toList[i.toNat] := by
    unfold atI ixN
    have : t.len = t.s.cps.toList.length := by simp [Tx.len, Str.length]
    rw [if_pos h0, if_pos (by omega), Option.bind_some, List.getElem?_eq_getElem hl]
  unfold Tx.at
  rw [if_pos (show t.s.length ≤ 100000 from h2)]
  split
  · rename_i c hc
    rw [e] at hc
    cases hc
    exact ⟨_, rfl, rfl, _, List.getElem?_eq_getElem hl, rfl⟩
  · rename_i hc
    rw [e] at hc
    cases hc
theorem Tx.join_len {a : Tx} (ha : a.len = 0) : ∀ xs : List Tx, (Tx.join a xs).len = (xs.map Tx.len).sum
  | [] => by
    show (Txt.join a.s []).length = 0
    rw [TL.join_eq]; rfl
  | [x] => by
    show (Txt.join a.s [x.s]).length = x.s.length + 0
    rw [TL.join_eq]; rfl
  | x :: y :: xs => by
    have ih := Tx.join_len ha (y :: xs)
    show (Txt.join a.s (x.s :: y.s :: xs.map (·.s))).length = x.len + ((y :: xs).map Tx.len).sum
    rw [← ih, join_cons]
    show ((x.s.cps ++ a.s.cps) ++ (Txt.join a.s (y.s :: xs.map (·.s))).cps).size = x.s.cps.size + _
    rw [Array.size_append, Array.size_append]
    have : a.s.cps.size = 0 := ha
    have e : (Tx.join a (y :: xs)).len = (Txt.join a.s (y.s :: xs.map (·.s))).cps.size := rfl
    omega
theorem joinC_of {a : Tx} (ha : a.len = 0) {xs : List Tx} (h : (xs.map Tx.len).sum ≤ 1000000) : joinC a xs := by
  unfold joinC
  rw [ha]
  omega
theorem sum_ones' : ∀ {xs : List Tx}, (∀ x ∈ xs, x.len = 1) → (xs.map Tx.len).sum = xs.length
  | [], _ => rfl
  | x :: xs, h => by
    rw [List.map_cons, List.sum_cons, h x List.mem_cons_self, sum_ones' fun y hy => h y (List.mem_cons_of_mem _ hy), List.length_cons]
    omega
theorem rangeL_len (lo : Int) (n : Nat) : (rangeL lo n).length = n := by simp [rangeL]
theorem rangeL_mem {lo : Int} {n : Nat} {i : Int} (h : i ∈ rangeL lo n) : lo ≤ i ∧ i < lo + n := by
  unfold rangeL at h
  obtain ⟨k, hk, rfl⟩ := List.mem_map.mp h
  have := List.mem_range.mp hk
  omega
theorem atI_nat' {α : Type} {xs : List α} {i : Int} (h0 : 0 ≤ i) (h1 : i < xs.length) : atI xs i = some (xs[i.toNat]'(by omega)) := by
  unfold atI ixN
  rw [if_pos h0, if_pos h1, Option.bind_some, List.getElem?_eq_getElem]
theorem atI_mem' {α : Type} {xs : List α} {i : Int} (h0 : 0 ≤ i) (h1 : i < xs.length) : ∃ x ∈ xs, atI xs i = some x := ⟨_, List.getElem_mem (by omega), atI_nat' h0 h1⟩
end
section
set_option Elab.async false
set_option linter.all false
set_option maxRecDepth 100000
set_option maxHeartbeats 1000000
open TL PySem L2 Res
theorem Tx.len_l (a : Tx) : a.len = a.s.cps.toList.length := by simp [Tx.len, Str.length]
def Wd (k : Nat) (t : Tx) : Prop := ∃ cs : List Nat, t.s.cps.toList = cs ++ [97 + k] ∧ (∀ c ∈ cs, 97 ≤ c ∧ c < 123) ∧ cs.length ≤ 6
theorem Wd.inj {j k : Nat} {t : Tx} (h : Wd j t) (h' : Wd k t) : j = k := by
  obtain ⟨cs, e, _⟩ := h
  obtain ⟨ds, e', _⟩ := h'
  rw [e] at e'
  have := (List.append_inj' e' rfl).2
  simp at this
  omega
theorem abc_at {i : Int} (h0 : 0 ≤ i) (h1 : i < 26) : ∃ c, sx_32d10c7b.at i = some c ∧ ∃ d, c.s = ⟨#[d]⟩ ∧ 97 ≤ d ∧ d < 123 := by
  have l : sx_32d10c7b.len = 26 := by decide +kernel
  obtain ⟨c, hc, _, d, hd, e⟩ := Tx.at_ok (t := sx_32d10c7b) h0 (by rw [l]; exact h1) (by rw [l]; decide)
  refine ⟨c, hc, d, e, ?_⟩
  have all : ∀ d ∈ sx_32d10c7b.s.cps.toList, 97 ≤ d ∧ d < 123 := by decide +kernel
  exact all d (List.mem_of_getElem? hd)
theorem has_sg {u x : Tx} {c : Nat} (e : x.s = ⟨#[c]⟩) : Tx.has u x = decide (c ∈ u.s.cps.toList) := by
  unfold Tx.has
  rw [e]
  exact PySem.StrLaws.found_one _ _
theorem signs_mem {t x : Tx} (h : x ∈ t.signs) : ∃ c ∈ t.s.cps.toList, x.s = ⟨#[c]⟩ := by
  have m : x.s ∈ t.signs.map (·.s) := List.mem_map_of_mem h
  rw [Tx.signs_map] at m
  obtain ⟨c, hc, e⟩ := List.mem_map.mp m
  exact ⟨c, hc, e.symm⟩
theorem is_name_of {t : Tx} (h1 : 1 ≤ t.len) (h2 : t.len ≤ 30) (h : ∀ c ∈ t.s.cps.toList, c ∈ sx_2ac8088b.s.cps.toList) : m_is_name t = .ok true := by
  unfold m_is_name
  have sl : t.signs.length = t.len := by
    have := congrArg List.length t.signs_map
    rw [List.length_map, List.length_map, ← Tx.len_l] at this
    exact this
  rw [grd_t (by omega), bind_ok, if_pos (by simp; omega), grd_t (by omega), bind_ok, lc_map (fun x => some (Tx.has sx_2ac8088b x)) () _ fun x hx => rfl, calm_ok, bind_ok]
  simp only [bind_ok]
  congr 1
  rw [List.all_eq_true]
  intro b hb
  obtain ⟨x, hx, e⟩ := List.mem_filterMap.mp hb
  obtain ⟨c, hc, ex⟩ := signs_mem hx
  cases e
  show Tx.has _ _ = true
  rw [has_sg ex]
  exact decide_eq_true (h c hc)
theorem letter_ok {c : Nat} (h0 : 97 ≤ c) (h1 : c < 123) : c ∈ sx_2ac8088b.s.cps.toList := by
  have key : ∀ k : Nat, k < 26 → 97 + k ∈ sx_2ac8088b.s.cps.toList := by decide +kernel
  have := key (c - 97) (by omega)
  rwa [show 97 + (c - 97) = c by omega] at this
theorem Wd.name {k : Nat} {t : Tx} (h : Wd k t) (hk : k < 16) : m_is_name t = .ok true := by
  obtain ⟨cs, e, h1, h2⟩ := h
  have l : t.len = cs.length + 1 := by rw [Tx.len_l, e]; simp
  refine is_name_of (by omega) (by omega) fun c hc => ?_
  rw [e] at hc
  rcases List.mem_append.mp hc with q | q
  · exact letter_ok (h1 c q).1 (h1 c q).2
  · simp at q
    exact letter_ok (by omega) (by omega)
end
section
set_option Elab.async false
set_option linter.all false
set_option maxRecDepth 100000
set_option maxHeartbeats 1000000
open TL PySem L2 Res
section
variable {a b : Rat} (ha : Nu.Bd 3000 a) (hb : Nu.Bd 3000 b)
include ha hb
end
theorem mkQ_int (k : Int) : mkQ k 1 = some (Nu.q k 1) := by
  have h := Nu.q_one k
  have := mkQ_of (Nu.q k 1)
  rw [h.1, h.2] at this
  exact this
end
section
set_option Elab.async false
set_option linter.all false
set_option maxRecDepth 100000
set_option maxHeartbeats 1000000
open TL PySem L2 Res
structure Shs (sh : List (Tx × Rat × Tx)) : Prop where
  at_ : ∀ i e, sh[i]? = some e → Wd (i + 1) e.1 ∧ Nu.Bd 41 e.2.1 ∧ 0 ≤ e.2.1.num ∧ e.2.2 ∈ [sx_7bc55599, sx_95c4bea1, sx_89f6229a]
  len : sh.length ≤ 2
end
section
set_option Elab.async false
set_option linter.all false
set_option maxRecDepth 100000
set_option maxHeartbeats 1000000
open TL PySem L2 Res
structure Nmo (t : Tx) : Prop where
  l1 : 1 ≤ t.len
  l2 : t.len ≤ 30
  abc : ∀ c ∈ t.s.cps.toList, c ∈ sx_2ac8088b.s.cps.toList
theorem Nmo.name {t : Tx} (h : Nmo t) : m_is_name t = .ok true := is_name_of h.l1 h.l2 h.abc
theorem join_abc {P : Nat → Prop} {a : Tx} (ha : a.s.cps.toList = []) : ∀ xs : List Tx, (∀ x ∈ xs, ∀ c ∈ x.s.cps.toList, P c) → ∀ c ∈ (Tx.join a xs).s.cps.toList, P c
  | [], _, c, hc => by
    have e : (Tx.join a []).s.cps.toList = [] := by
      show (Txt.join a.s []).cps.toList = []
      rw [TL.join_eq]; rfl
    rw [e] at hc
    cases hc
  | [x], h, c, hc => by
    have e : (Tx.join a [x]).s = x.s := by
      show Txt.join a.s [x.s] = x.s
      rw [TL.join_eq]; rfl
    rw [e] at hc
    exact h x List.mem_cons_self c hc
  | x :: y :: xs, h, c, hc => by
    have ih := join_abc ha (y :: xs) (fun z hz => h z (List.mem_cons_of_mem _ hz)) c
    have e : (Tx.join a (x :: y :: xs)).s.cps.toList = x.s.cps.toList ++ a.s.cps.toList ++ (Tx.join a (y :: xs)).s.cps.toList := by
      show (Txt.join a.s (x.s :: y.s :: xs.map (·.s))).cps.toList = _
      rw [join_cons]
      show ((x.s.cps ++ a.s.cps) ++ (Txt.join a.s (y.s :: xs.map (·.s))).cps).toList = _
      rw [Array.toList_append, Array.toList_append]
      rfl
    rw [e, ha, List.append_nil] at hc
    rcases List.mem_append.mp hc with q | q
    · exact h x List.mem_cons_self c q
    · exact ih q
end
section
set_option Elab.async false
set_option linter.all false
set_option maxRecDepth 100000
set_option maxHeartbeats 1000000
open TL PySem L2 Res
abbrev Shi := Tx × Rat × Tx
abbrev Siz := Tx × Rat × Rat × List Shi
structure ShOk (e : Shi) : Prop where
  nm : Nmo e.1
  bd : Nu.Bd 62 e.2.1
  nn : 0 ≤ e.2.1.num
  way : e.2.2 ∈ [sx_7bc55599, sx_95c4bea1, sx_89f6229a]
structure SzOk (z : Siz) : Prop where
  nm : Nmo z.1
  bl : Nu.Bd 62 z.2.1
  bm : Nu.Bd 125 z.2.2.1
  le : ¬ z.2.2.1.num * (z.2.1.den : Int) < z.2.1.num * (z.2.2.1.den : Int)
  sh : ∀ e ∈ z.2.2.2, ShOk e
  nd : (z.1 :: z.2.2.2.map (·.1)).Nodup
  len : z.2.2.2.length ≤ 12
end
section
set_option Elab.async false
set_option linter.all false
set_option maxRecDepth 100000
set_option maxHeartbeats 1000000
open TL PySem PySem.Spec L2 Res
def ltT (a b : Tx) : Prop := ltS a.s b.s
theorem ltT_irr (a : Tx) : ¬ ltT a a := ltS_irr a.s
theorem ltT_tr {a b c : Tx} (h : ltT a b) (k : ltT b c) : ltT a c := ltS_tr h k
theorem ltT_tri {a b : Tx} (h : ¬ ltT a b) (n : a ≠ b) : ltT b a := ltS_tri h fun e => n (Tx.ext' e)
instance (a b : Tx) : Decidable (ltT a b) := inferInstanceAs (Decidable (ltS a.s b.s))
theorem riseT_one : ∀ {xs ys : List Tx}, xs.Pairwise ltT → ys.Pairwise ltT → (∀ k, k ∈ xs ↔ k ∈ ys) → xs = ys
  | [], [], _, _, _ => rfl
  | [], y :: ys, _, _, h => absurd ((h y).mpr List.mem_cons_self) List.not_mem_nil
  | x :: xs, [], _, _, h => absurd ((h x).mp List.mem_cons_self) List.not_mem_nil
  | x :: xs, y :: ys, hx, hy, h => by
    rw [List.pairwise_cons] at hx hy
    have e : x = y := by
      rcases List.mem_cons.mp ((h x).mp List.mem_cons_self) with e | m
      · exact e
      · rcases List.mem_cons.mp ((h y).mpr List.mem_cons_self) with e | m2
        · exact e.symm
        · exact absurd (ltT_tr (hy.1 x m) (hx.1 y m2)) (ltT_irr y)
    subst e
    congr 1
    refine riseT_one hx.2 hy.2 fun k => ?_
    constructor
    · intro m
      rcases List.mem_cons.mp ((h k).mp (List.mem_cons_of_mem _ m)) with e | m2
      · subst e
        exact absurd (hx.1 k m) (ltT_irr k)
      · exact m2
    · intro m
      rcases List.mem_cons.mp ((h k).mpr (List.mem_cons_of_mem _ m)) with e | m2
      · subst e
        exact absurd (hy.1 k m) (ltT_irr k)
      · exact m2
def insT (k : Tx) : List Tx → List Tx
  | [] => [k]
  | y :: ys => if ltT k y then k :: y :: ys else if k = y then y :: ys else y :: insT k ys
theorem mem_insT {k j : Tx} : ∀ {ys : List Tx}, j ∈ insT k ys ↔ j = k ∨ j ∈ ys
  | [] => by simp [insT]
  | y :: ys => by
    unfold insT
    split
    · simp
    · split
      · rename_i e
        subst e
        simp
      · rw [List.mem_cons, mem_insT, List.mem_cons]
        constructor
        · rintro (h | h | h)
          · exact .inr (.inl h)
          · exact .inl h
          · exact .inr (.inr h)
        · rintro (h | h | h)
          · exact .inr (.inl h)
          · exact .inl h
          · exact .inr (.inr h)
theorem rise_insT {k : Tx} : ∀ {ys : List Tx}, ys.Pairwise ltT → (insT k ys).Pairwise ltT
  | [], _ => List.pairwise_singleton _ _
  | y :: ys, h => by
    unfold insT
    have h' := List.pairwise_cons.mp h
    split
    · rename_i l
      rw [List.pairwise_cons]
      refine ⟨fun j hj => ?_, h⟩
      rcases List.mem_cons.mp hj with e | m
      · subst e; exact l
      · exact ltT_tr l (h'.1 j m)
    · split
      · exact h
      · rename_i n1 n2
        rw [List.pairwise_cons]
        refine ⟨fun j hj => ?_, rise_insT h'.2⟩
        rcases mem_insT.mp hj with e | m
        · subst e; exact ltT_tri n1 n2
        · exact h'.1 j m
def ordT : List Tx → List Tx
  | [] => []
  | k :: ks => insT k (ordT ks)
theorem mem_ordT {j : Tx} : ∀ {ks : List Tx}, j ∈ ordT ks ↔ j ∈ ks
  | [] => Iff.rfl
  | k :: ks => by
    show j ∈ insT k (ordT ks) ↔ _
    rw [mem_insT, mem_ordT, List.mem_cons]
theorem rise_ordT : ∀ ks : List Tx, (ordT ks).Pairwise ltT
  | [] => .nil
  | k :: ks => rise_insT (rise_ordT ks)
theorem ordT_self {ks : List Tx} (h : ks.Pairwise ltT) : ordT ks = ks := riseT_one (rise_ordT _) h fun k => mem_ordT
def totT : List (Tx × Rat) → Tx → Rat
  | [], _ => 0
  | e :: ps, k => (if e.1 = k then e.2 else 0) + totT ps k
theorem t_tot_app (k : Tx) : ∀ ps qs : List (Tx × Rat), totT (ps ++ qs) k = totT ps k + totT qs k
  | [], qs => by
    show totT qs k = 0 + totT qs k
    grind
  | e :: ps, qs => by
    show (if e.1 = k then e.2 else 0) + totT (ps ++ qs) k = (if e.1 = k then e.2 else 0) + totT ps k + totT qs k
    rw [t_tot_app k ps qs]
    grind
theorem t_tot_none {k : Tx} : ∀ {ps : List (Tx × Rat)}, k ∉ ps.map (·.1) → totT ps k = 0
  | [], _ => rfl
  | e :: ps, h => by
    simp only [List.map_cons, List.mem_cons, not_or] at h
    have n : ¬ e.1 = k := fun z => h.1 z.symm
    show (if e.1 = k then e.2 else 0) + totT ps k = 0
    rw [if_neg n, t_tot_none h.2]
    grind
def resT (ps : List (Tx × Rat)) : List (Tx × Rat) := ((ordT (ps.map (·.1))).filter fun k => !decide (totT ps k = 0)).map fun k => (k, totT ps k)
theorem t_rise_nodup {ks : List Tx} (h : ks.Pairwise ltT) : ks.Nodup := h.imp fun l e => by subst e; exact ltT_irr _ l
theorem t_res_ext {ps qs : List (Tx × Rat)} (h : ∀ k, totT ps k = totT qs k) : resT ps = resT qs := by
  have key : (ordT (ps.map (·.1))).filter (fun k => !decide (totT ps k = 0)) = (ordT (qs.map (·.1))).filter fun k => !decide (totT qs k = 0) := by
    refine riseT_one ((rise_ordT _).filter _) ((rise_ordT _).filter _) fun k => ?_
    simp only [List.mem_filter, mem_ordT, Bool.not_eq_true', decide_eq_false_iff_not, h k]
    constructor
    · rintro ⟨_, n⟩
      refine ⟨?_, n⟩
      by_cases m : k ∈ qs.map (·.1)
      · exact m
      · exact absurd (t_tot_none m) n
    · rintro ⟨_, n⟩
      refine ⟨?_, n⟩
      by_cases m : k ∈ ps.map (·.1)
      · exact m
      · exact absurd ((h k).symm.trans (t_tot_none m)) n
  have f : (fun k => (k, totT ps k)) = fun k => (k, totT qs k) := funext fun k => by rw [h k]
  unfold resT
  rw [key, f]
theorem t_getM_none {β : Type} {m : List (Tx × β)} {k : Tx} (h : k ∉ m.map (·.1)) : dget m k = none := by
  unfold dget
  rw [List.find?_eq_none.mpr fun e he z => h (List.mem_map.mpr ⟨e, he, of_decide_eq_true z⟩)]
  rfl
theorem t_getM_put {β : Type} {m : List (Tx × β)} {k j : Tx} {d : β} : dget (dput m k d) j = if j = k then some d else dget m j := by
  unfold dput
  split
  · rename_i a
    induction m with
    | nil => cases a
    | cons e m ih =>
      rw [List.map_cons]
      by_cases h : e.1 = k
      · rw [if_pos h]
        by_cases q : j = k
        · subst q
          simp [dget, h]
        · have n : ¬ e.1 = j := fun z => q (z.symm.trans h)
          rw [if_neg q]
          have e1 : dget ((e.1, d) :: m.map fun e => if e.1 = k then (e.1, d) else e) j = dget (m.map fun e => if e.1 = k then (e.1, d) else e) j := by simp [dget, n]
          have e2 : dget (e :: m) j = dget m j := by simp [dget, n]
          rw [e1, e2]
          clear ih a
          induction m with
          | nil => rfl
          | cons f m ih =>
            rw [List.map_cons]
            by_cases h2 : f.1 = k
            · have n2 : ¬ f.1 = j := fun z => q (z.symm.trans h2)
              rw [if_pos h2]
              have e3 : dget ((f.1, d) :: m.map fun e => if e.1 = k then (e.1, d) else e) j = dget (m.map fun e => if e.1 = k then (e.1, d) else e) j := by simp [dget, n2]
              have e4 : dget (f :: m) j = dget m j := by simp [dget, n2]
              rw [e3, e4]
              exact ih (by simp [dget, n]) (by simp [dget, n])
            · rw [if_neg h2]
              by_cases h3 : f.1 = j
              · simp [dget, h3]
              · have e3 : dget (f :: m.map fun e => if e.1 = k then (e.1, d) else e) j = dget (m.map fun e => if e.1 = k then (e.1, d) else e) j := by simp [dget, h3]
                have e4 : dget (f :: m) j = dget m j := by simp [dget, h3]
                rw [e3, e4]
                exact ih (by simp [dget, n]) (by simp [dget, n])
      · have a' : (m.any fun e => decide (e.1 = k)) = true := by simpa [h] using a
        rw [if_neg h]
        have ih' := ih a'
        by_cases q : e.1 = j
        · have n : ¬ j = k := fun z => h (q.trans z)
          rw [if_neg n]
          simp [dget, q]
        · have e1 : dget (e :: m.map fun e => if e.1 = k then (e.1, d) else e) j = dget (m.map fun e => if e.1 = k then (e.1, d) else e) j := by simp [dget, q]
          have e2 : dget (e :: m) j = dget m j := by simp [dget, q]
          rw [e1, e2]
          exact ih'
  · rename_i a
    have no : ∀ e ∈ m, ¬ e.1 = k := fun e he z => a (List.any_eq_true.mpr ⟨e, he, decide_eq_true z⟩)
    unfold dget
    rw [List.find?_append]
    by_cases q : j = k
    · subst q
      rw [if_pos rfl, List.find?_eq_none.mpr fun e he z => no e he (of_decide_eq_true z)]
      simp
    · rw [if_neg q]
      have n : ¬ k = j := fun z => q z.symm
      cases f : m.find? fun e => decide (e.1 = j) with
      | none => simp [n]
      | some x => simp
theorem t_keys_put {β : Type} {m : List (Tx × β)} {k : Tx} {d : β} : (dput m k d).map (·.1) = if k ∈ m.map (·.1) then m.map (·.1) else m.map (·.1) ++ [k] := by
  unfold dput
  have c : (m.any fun e => decide (e.1 = k)) = decide (k ∈ m.map (·.1)) := by
    rw [Bool.eq_iff_iff, List.any_eq_true, decide_eq_true_eq, List.mem_map]
    constructor
    · rintro ⟨e, h1, h2⟩
      exact ⟨e, h1, of_decide_eq_true h2⟩
    · rintro ⟨e, h1, h2⟩
      exact ⟨e, h1, decide_eq_true h2⟩
  rw [c]
  by_cases h : k ∈ m.map (·.1)
  · rw [if_pos (decide_eq_true h), if_pos h, List.map_map]
    refine List.map_congr_left fun e _ => ?_
    show (if e.1 = k then (e.1, d) else e).1 = e.1
    split <;> rfl
  · rw [if_neg (by simpa using h), if_neg h, List.map_append]
    rfl
theorem t_tot_of {e : Tx × Rat} : ∀ {ps : List (Tx × Rat)}, (ps.map (·.1)).Nodup → e ∈ ps → totT ps e.1 = e.2
  | [], _, h => absurd h List.not_mem_nil
  | f :: ps, nd, h => by
    rw [List.map_cons, List.nodup_cons] at nd
    show (if f.1 = e.1 then f.2 else 0) + totT ps e.1 = e.2
    rcases List.mem_cons.mp h with q | q
    · subst q
      rw [if_pos rfl, t_tot_none nd.1]
      grind
    · have n : ¬ f.1 = e.1 := fun z => nd.1 (by rw [z]; exact List.mem_map_of_mem q)
      rw [if_neg n, t_tot_of nd.2 q]
      grind
theorem t_res_id {ps : List (Tx × Rat)} (h : (ps.map (·.1)).Pairwise ltT) (h0 : ∀ e ∈ ps, e.2 ≠ 0) : resT ps = ps := by
  have nd := t_rise_nodup h
  unfold resT
  rw [ordT_self h]
  have f : (ps.map (·.1)).filter (fun k => !decide (totT ps k = 0)) = ps.map (·.1) := by
    rw [List.filter_eq_self]
    intro k hk
    obtain ⟨e, he, rfl⟩ := List.mem_map.mp hk
    rw [t_tot_of nd he]
    simpa using h0 e he
  rw [f, List.map_map]
  conv => rhs; rw [← List.map_id ps]
  refine List.map_congr_left fun e he => ?_
  show (e.1, totT ps e.1) = e
  rw [t_tot_of nd he]
def addM (m : List (Tx × Rat)) (e : Tx × Rat) : List (Tx × Rat) := dput m e.1 ((dget m e.1).getD 0 + e.2)
structure TabT (m ps : List (Tx × Rat)) : Prop where
  nd : (m.map (·.1)).Nodup
  mem : ∀ k, k ∈ m.map (·.1) ↔ k ∈ ps.map (·.1)
  get : ∀ k, k ∈ ps.map (·.1) → dget m k = some (totT ps k)
  len : m.length ≤ ps.length
theorem TabT.nil : TabT [] [] := ⟨.nil, fun _ => Iff.rfl, fun _ h => absurd h List.not_mem_nil, Nat.le_refl _⟩
theorem TabT.look {m ps : List (Tx × Rat)} (h : TabT m ps) (k : Tx) : (dget m k).getD 0 = totT ps k := by
  by_cases q : k ∈ ps.map (·.1)
  · rw [h.get k q]; rfl
  · rw [t_getM_none (fun z => q ((h.mem k).mp z)), t_tot_none q]; rfl
theorem TabT.put {m ps : List (Tx × Rat)} (h : TabT m ps) (e : Tx × Rat) : TabT (addM m e) (ps ++ [e]) := by
  have tk : ∀ k, totT (ps ++ [e]) k = totT ps k + (if e.1 = k then e.2 else 0) := fun k => by
    rw [t_tot_app]
    show totT ps k + ((if e.1 = k then e.2 else 0) + 0) = _
    grind
  have mk : ∀ k, k ∈ (addM m e).map (·.1) ↔ k ∈ (ps ++ [e]).map (·.1) := fun k => by
    unfold addM
    rw [t_keys_put, List.map_append, List.mem_append]
    have hk := h.mem k
    have he := h.mem e.1
    split
    · rename_i c
      constructor
      · intro z; exact .inl (hk.mp z)
      · rintro (z | z)
        · exact hk.mpr z
        · simp at z; subst z; exact c
    · rw [List.mem_append]
      constructor
      · rintro (z | z)
        · exact .inl (hk.mp z)
        · exact .inr (by simpa using z)
      · rintro (z | z)
        · exact .inl (hk.mpr z)
        · exact .inr (by simpa using z)
  refine ⟨?_, mk, fun k hk => ?_, ?_⟩
  · unfold addM
    rw [t_keys_put]
    split
    · exact h.nd
    · rename_i c
      rw [List.nodup_append]
      refine ⟨h.nd, by simp, fun a ha b hb q => ?_⟩
      rw [List.mem_singleton] at hb
      subst hb; subst q
      exact c ha
  · unfold addM
    rw [t_getM_put, tk]
    by_cases q : k = e.1
    · subst q
      rw [if_pos rfl, if_pos rfl, h.look]
    · have q' : ¬ e.1 = k := fun z => q z.symm
      rw [if_neg q, if_neg q']
      have hp : k ∈ ps.map (·.1) := by
        rw [List.map_append, List.mem_append] at hk
        rcases hk with z | z
        · exact z
        · simp at z; exact absurd z q
      rw [h.get k hp]
      congr 1
      grind
  · have : (addM m e).length = ((addM m e).map (·.1)).length := by simp
    rw [this]
    unfold addM
    rw [t_keys_put]
    have := h.len
    split
    · simp; omega
    · simp; omega
theorem TabT.foldl : ∀ (qs : List (Tx × Rat)) {m ps : List (Tx × Rat)}, TabT m ps → TabT (qs.foldl addM m) (ps ++ qs)
  | [], m, ps, h => by rw [List.append_nil]; exact h
  | e :: qs, m, ps, h => by
    have := TabT.foldl qs (h.put e)
    rw [List.append_assoc] at this
    exact this
end
section
set_option Elab.async false
set_option linter.all false
set_option maxRecDepth 100000
set_option maxHeartbeats 1000000
open TL PySem L2 Res
def due (z : Siz) (w : Tx) (v : Rat) : Rat := if w = sx_7bc55599 then 0 else if w = sx_95c4bea1 then v - z.2.1 else z.2.2.1 - v
end
section
set_option Elab.async false
set_option linter.all false
set_option maxRecDepth 100000
set_option maxHeartbeats 1000000
open TL PySem L2 Res
def nmz (z : Siz) : List Tx := z.1 :: z.2.2.2.map (·.1)
def alln (zs : List Siz) : List Tx := zs.flatMap nmz
structure StOk (zs : List Siz) : Prop where
  sz : ∀ z ∈ zs, SzOk z
  nd : (alln zs).Nodup
  le : (alln zs).length ≤ 12
end
section
set_option Elab.async false
set_option linter.all false
set_option maxRecDepth 100000
set_option maxHeartbeats 1000000
open TL PySem L2 Res
def room (z : Siz) (e : Shi) (v : Rat) : Rat := e.2.1 + due z e.2.2 v
def shk (z : Siz) (mk : List (Tx × Rat)) (v : Rat) (e : Shi) : Bool := match dget mk e.1 with
  | none => false
  | some t => !decide (t < 0 - room z e v) && !decide (room z e v < t)
def kept (mk : List (Tx × Rat)) (z : Siz) : Bool := match dget mk z.1 with
  | none => false
  | some v => (!decide (v < z.2.1) && !decide (z.2.2.1 < v)) && z.2.2.2.all (shk z mk v)
def keepsB (zs : List Siz) (mk : List (Tx × Rat)) : Bool := decide (sortT (mk.map Prod.fst) = sortT (alln zs)) && zs.all (kept mk)
def AllBd (n : Nat) (mk : List (Tx × Rat)) : Prop := ∀ p ∈ mk, Nu.Bd n p.2
end
section
set_option Elab.async false
set_option linter.all false
set_option maxRecDepth 100000
set_option maxHeartbeats 1000000
open TL PySem L2 Res
end
section
set_option Elab.async false
set_option linter.all false
set_option maxRecDepth 100000
set_option synthInstance.maxSize 4000
set_option maxHeartbeats 1000000
open TL PySem L2 Res
structure SzW (z : Siz) : Prop where
  nm : Nmo z.1
  bl : Nu.Bd 900 z.2.1
  bm : Nu.Bd 900 z.2.2.1
  le : ¬ z.2.2.1.num * (z.2.1.den : Int) < z.2.1.num * (z.2.2.1.den : Int)
  sh : ∀ e ∈ z.2.2.2, ShOk e
  nd : (nmz z).Nodup
  len : z.2.2.2.length ≤ 12
theorem SzOk.w {z : Siz} (h : SzOk z) : SzW z := ⟨h.nm, h.bl.mono (by decide), h.bm.mono (by decide), h.le, h.sh, h.nd, h.len⟩
structure StW (zs : List Siz) : Prop where
  sz : ∀ z ∈ zs, SzW z
  nd : (alln zs).Nodup
  le : (alln zs).length ≤ 30
theorem StOk.w {zs : List Siz} (h : StOk zs) : StW zs := ⟨fun z hz => (h.sz z hz).w, h.nd, Nat.le_trans h.le (by decide)⟩
end
section
set_option Elab.async false
set_option linter.all false
set_option maxRecDepth 100000
set_option synthInstance.maxSize 4000
set_option maxHeartbeats 1000000
open TL PySem L2 Res
theorem cut_pre {α : Type} (xs : List α) (k : Nat) : cutL xs none (some (k : Int)) = xs.take k := by
  unfold cutL
  rw [HT.sIx_nat, HT.sIx_none]
  simp only [Nat.sub_zero, List.drop_zero]
  rcases Nat.le_total k xs.length with q | q
  · rw [Nat.min_eq_left q]
  · rw [Nat.min_eq_right q, List.take_of_length_le (Nat.le_refl _), List.take_of_length_le q]
theorem cut_post {α : Type} (xs : List α) (k : Nat) : cutL xs (some (k : Int)) none = xs.drop k := by
  unfold cutL
  rw [HT.sIx_nat, HT.sIx_none]
  rcases Nat.le_total k xs.length with q | q
  · rw [Nat.min_eq_left q, List.take_of_length_le (by simp)]
  · rw [Nat.min_eq_right q, List.drop_eq_nil_of_le (Nat.le_refl _), List.drop_eq_nil_of_le q]
    simp
end
section
set_option Elab.async false
set_option linter.all false
set_option maxRecDepth 100000
set_option maxHeartbeats 1000000
open TL PySem L2 Res
structure Nms (zs : List Tx) : Prop where
  nd : zs.Nodup
  len : ∀ z ∈ zs, 1 ≤ z.len ∧ z.len ≤ 20
end
section
set_option Elab.async false
set_option linter.all false
set_option maxRecDepth 100000
set_option maxHeartbeats 1000000
open TL PySem L2 Res
end
section
set_option Elab.async false
set_option linter.all false
set_option maxRecDepth 100000
set_option maxHeartbeats 1000000
open TL PySem L2 Res
structure Sm (d : Nat) (zs : List Tx) (s : Rat × List (Tx × Rat)) : Prop where
  n : Nu.Bd d s.1
  e : ∀ e ∈ s.2, Nu.Bd d e.2
  rise : (s.2.map (·.1)).Pairwise ltT
  nz : ∀ e ∈ s.2, e.2 ≠ 0
  sub : ∀ e ∈ s.2, e.1 ∈ zs
theorem nodup_sub {α : Type} [DecidableEq α] : ∀ {l m : List α}, l.Nodup → (∀ x ∈ l, x ∈ m) → l.length ≤ m.length
  | [], _, _, _ => Nat.zero_le _
  | x :: l, m, nd, h => by
    rw [List.nodup_cons] at nd
    have hm := h x List.mem_cons_self
    have ih := nodup_sub (l := l) (m := m.erase x) nd.2 fun y hy => (List.mem_erase_of_ne (fun e : y = x => nd.1 (e ▸ hy))).mpr (h y (List.mem_cons_of_mem _ hy))
    have := List.length_erase_of_mem hm
    have := List.length_pos_of_mem hm
    rw [List.length_cons]
    omega
section
variable {d d' : Nat} {zs : List Tx} {a b c : Rat × List (Tx × Rat)}
theorem Sm.nd (h : Sm d zs a) : (a.2.map (·.1)).Nodup := t_rise_nodup h.rise
theorem Sm.len (h : Sm d zs a) : a.2.length ≤ zs.length := by
  have := nodup_sub h.nd fun x hx => by
    obtain ⟨e, he, rfl⟩ := List.mem_map.mp hx
    exact h.sub e he
  rwa [List.length_map] at this
theorem Sm.mono (h : Sm d zs a) (l : d ≤ d') : Sm d' zs a := ⟨h.n.mono l, fun e he => (h.e e he).mono l, h.rise, h.nz, h.sub⟩
theorem Sm.id (h : Sm d zs a) : resT a.2 = a.2 := t_res_id h.rise h.nz
theorem Sm.ext (ha : Sm d zs a) (hb : Sm d' zs b) (h1 : a.1 = b.1) (h2 : ∀ k, totT a.2 k = totT b.2 k) : a = b := by
  have := t_res_ext h2
  rw [ha.id, hb.id] at this
  exact Prod.ext h1 this
end
end
section
set_option Elab.async false
set_option linter.all false
set_option maxRecDepth 100000
set_option maxHeartbeats 1000000
open TL PySem L2 Res
structure Nm8 (t : Tx) : Prop where
  l1 : 1 ≤ t.len
  l2 : t.len ≤ 8
  abc : ∀ c ∈ t.s.cps.toList, 97 ≤ c ∧ c < 123
theorem ix26 : ∀ j : Fin 26, sx_32d10c7b.index? (Tx.sg (97 + j) (by omega)) = some ((j : Nat) : Int) := by decide +kernel
theorem ix_of {c : Tx} {j : Nat} (hj : j < 26) (e : c.s = ⟨#[97 + j]⟩) : sx_32d10c7b.index? c = some ((j : Nat) : Int) := by
  have : c = Tx.sg (97 + j) (by omega) := Tx.ext' e
  rw [this]
  exact ix26 ⟨j, hj⟩
end
section
set_option Elab.async false
set_option linter.all false
set_option maxRecDepth 100000
set_option maxHeartbeats 1000000
open TL PySem L2 Res
theorem atI_end {α : Type} (xs : List α) (x : α) : atI (xs ++ [x]) (-(1 : Int)) = some x := by
  unfold atI ixN
  rw [if_neg (by decide), if_pos (by simp; omega), Option.bind_some]
  have : ((-(1 : Int)) + ((xs ++ [x]).length : Int)).toNat = xs.length := by simp; omega
  rw [this]
  simp
structure Own8 (zs : List Siz) : Prop where
  st : StOk zs
  nm : ∀ t ∈ alln zs, Nm8 t
end
section
set_option Elab.async false
set_option linter.all false
set_option maxRecDepth 100000
set_option synthInstance.maxSize 4000
set_option maxHeartbeats 4000000
open TL PySem L2
open Res
abbrev Nod := Tx × Tx
abbrev Gap := Nod × Nod × Rat × List (Tx × Rat)
def lo22 (gs : List Gap) (k : Int) : Option Nod := (atI gs k).map (·.1)
def hi22 (gs : List Gap) (k : Int) : Option Nod := (atI gs k).map (·.2.1)
def Lk (gs : List Gap) : List Int → Prop
  | [] => True
  | [_] => True
  | a :: b :: r => hi22 gs a = lo22 gs b ∧ Lk gs (b :: r)
structure Wy (gs : List Gap) (w : List Int) : Prop where
  ne : w ≠ []
  val : ∀ k ∈ w, 0 ≤ k ∧ k < gs.length
  nd : (w.map (lo22 gs)).Nodup
  lk : Lk gs w
structure Cl (gs : List Gap) (w : List Int) : Prop where
  wy : Wy gs w
  cl : ∃ a b, w.head? = some a ∧ w.getLast? = some b ∧ hi22 gs b = lo22 gs a
structure Chn (gs : List Gap) (c : List Int) : Prop where
  cl : Cl gs c
  least : ∀ a r, c = a :: r → ∀ k ∈ r, a < k
section
variable {gs : List Gap}
theorem lk_suf : ∀ {x y : List Int}, Lk gs (x ++ y) → Lk gs y
  | [], _, h => h
  | [a], [], _ => trivial
  | [a], b :: y, h => h.2
  | a :: b :: x, y, h => lk_suf (x := b :: x) h.2
theorem lk_pre : ∀ {x y : List Int}, Lk gs (x ++ y) → Lk gs x
  | [], _, _ => trivial
  | [a], _, _ => trivial
  | a :: b :: x, y, h => ⟨h.1, lk_pre (x := b :: x) h.2⟩
theorem lk_mid : ∀ {x : List Int} {a b : Int} {y : List Int}, Lk gs (x ++ a :: b :: y) → hi22 gs a = lo22 gs b
  | [], _, _, _, h => h.1
  | [c], _, _, _, h => h.2.1
  | c :: d :: x, a, b, y, h => lk_mid (x := d :: x) h.2
theorem lk_app : ∀ {x y : List Int}, Lk gs x → Lk gs y → (∀ a ∈ x.getLast?, ∀ b ∈ y.head?, hi22 gs a = lo22 gs b) → Lk gs (x ++ y)
  | [], _, _, h, _ => h
  | [a], [], _, _, _ => trivial
  | [a], b :: y, _, h, j => ⟨j a rfl b rfl, h⟩
  | a :: b :: x, y, h, h2, j => ⟨h.1, lk_app (x := b :: x) h.2 h2 fun c hc d hd => j c (by simpa using hc) d hd⟩
theorem nd_of {w : List Int} (h : (w.map (lo22 gs)).Nodup) : w.Nodup := List.Pairwise.of_map _ (fun _ _ hne e => hne (congrArg _ e)) h
theorem mem_rng {n : Nat} {k : Int} : k ∈ rangeL 0 n ↔ 0 ≤ k ∧ k < n := by
  constructor
  · intro h; have := rangeL_mem h; omega
  · intro h
    unfold rangeL
    exact List.mem_map.mpr ⟨k.toNat, List.mem_range.mpr (by omega), by omega⟩
theorem Wy.len {w : List Int} (h : Wy gs w) : w.length ≤ gs.length := by
  have z := nodup_sub (m := rangeL 0 gs.length) (nd_of h.nd) fun k hk => mem_rng.mpr (h.val k hk)
  rwa [rangeL_len] at z
theorem Wy.pos {w : List Int} (h : Wy gs w) : 0 < w.length := List.length_pos_iff.mpr h.ne
theorem Wy.more {w : List Int} (h : Wy gs w) {b k : Int} (hb : w.getLast? = some b) (hk : 0 ≤ k ∧ k < gs.length) (e : hi22 gs b = lo22 gs k) (hn : lo22 gs k ∉ w.map (lo22 gs)) : Wy gs (w ++ [k]) where
  ne := by simp
  val := fun j hj => by
    rcases List.mem_append.mp hj with z | z
    · exact h.val j z
    · rw [List.mem_singleton.mp z]; exact hk
  nd := by
    rw [List.map_append]
    refine List.nodup_append.mpr ⟨h.nd, by simp, fun x hx y hy => ?_⟩
    rw [List.map_singleton, List.mem_singleton] at hy
    subst hy
    exact fun z => hn (z ▸ hx)
  lk := lk_app h.lk trivial fun a ha c hc => by
    rw [hb] at ha
    cases ha
    cases hc
    exact e
theorem Wy.pre {x y : List Int} (h : Wy gs (x ++ y)) (hx : x ≠ []) : Wy gs x where
  ne := hx
  val := fun k hk => h.val k (List.mem_append_left _ hk)
  nd := by
    have z := h.nd
    rw [List.map_append] at z
    exact (List.nodup_append.mp z).1
  lk := lk_pre h.lk
theorem cl_stop {w y : List Int} (h : Wy gs (w ++ y)) (hw : w ≠ []) {b : Int} (hb : w.getLast? = some b) (hm : hi22 gs b ∈ w.map (lo22 gs)) : y = [] := by
  cases y with
  | nil => rfl
  | cons k y =>
    exfalso
    obtain ⟨p, rfl⟩ := List.getLast?_eq_some_iff.mp hb
    have e : hi22 gs b = lo22 gs k := lk_mid (x := p) (y := y) (by have z := h.lk; simpa using z)
    have z := h.nd
    rw [List.map_append] at z
    exact (List.nodup_append.mp z).2.2 _ hm _ (List.mem_map_of_mem List.mem_cons_self) e
theorem rot_chn {x y : List Int} {m : Int} (h : Cl gs (x ++ m :: y)) (hm : ∀ k ∈ x ++ m :: y, m ≤ k) : Chn gs (m :: y ++ x) := by
  have pm : (m :: y ++ x).Perm (x ++ m :: y) := List.perm_append_comm
  have nd' : ((m :: y ++ x).map (lo22 gs)).Nodup := (pm.map _).nodup_iff.mpr h.wy.nd
  obtain ⟨a, b, ha, hb, e⟩ := h.cl
  have l1 : Lk gs (m :: y) := lk_suf h.wy.lk
  have l2 : Lk gs x := lk_pre h.wy.lk
  refine ⟨⟨⟨by simp, fun k hk => h.wy.val k (pm.mem_iff.mp hk), nd', lk_app l1 l2 fun c hc d hd => ?_⟩, ?_⟩, fun a' r' e' k hk => ?_⟩
  · cases x with
    | nil => cases hd
    | cons x0 x =>
      cases hd
      have ha' : a = d := by simpa using ha.symm
      subst ha'
      have hb' : c = b := by
        have z : (a :: x ++ m :: y).getLast? = (m :: y).getLast? := by
          rw [List.getLast?_append]
          cases e2 : (m :: y).getLast? with
          | none => simp at e2
          | some v => simp [e2]
        rw [z] at hb
        rw [hb] at hc
        exact (Option.some.inj hc).symm
      rw [hb']
      exact e
  · cases x with
    | nil =>
      simp at ha hb
      exact ⟨m, b, by simp, by simpa using hb, by rw [e, ha]⟩
    | cons x0 x =>
      have hz : (x0 :: x) ≠ [] := by simp
      refine ⟨m, (x0 :: x).getLast hz, by simp, by rw [List.getLast?_append, List.getLast?_eq_some_getLast hz]; rfl, ?_⟩
      have hd : x0 :: x = (x0 :: x).dropLast ++ [(x0 :: x).getLast hz] := (List.dropLast_concat_getLast hz).symm
      have z := h.wy.lk
      rw [hd, List.append_assoc] at z
      exact lk_mid z
  · cases e'
    have h1 := hm k (pm.mem_iff.mp (List.mem_cons_of_mem _ hk))
    have h2 := nd_of nd'
    have h3 : m ∉ y ++ x := (List.nodup_cons.mp h2).1
    have h4 : k ≠ m := fun z => h3 (z ▸ hk)
    omega
def subs {α : Type} : List α → List (List α)
  | [] => [[]]
  | x :: xs => subs xs ++ (subs xs).map (x :: ·)
theorem subs_len {α : Type} : ∀ xs : List α, (subs xs).length = 2 ^ xs.length
  | [] => rfl
  | x :: xs => by rw [subs, List.length_append, List.length_map, subs_len xs, List.length_cons, Nat.pow_succ]; omega
theorem filter_subs {α : Type} (p : α → Bool) : ∀ xs : List α, xs.filter p ∈ subs xs
  | [] => by simp [subs]
  | x :: xs => by
    rw [subs, List.filter_cons]
    split
    · exact List.mem_append_right _ (List.mem_map_of_mem (filter_subs p xs))
    · exact List.mem_append_left _ (filter_subs p xs)
theorem chn_det : ∀ {u v : List Int} {p : List Int}, Wy gs (p ++ u) → Wy gs (p ++ v) → p ≠ [] → (∀ k, k ∈ p ++ u ↔ k ∈ p ++ v) → u = v
  | [], [], _, _, _, _, _ => rfl
  | [], b :: v, p, hu, hv, _, hm => by
    exfalso
    have h1 : b ∈ p := by simpa using (hm b).mpr (by simp)
    have h2 := nd_of hv.nd
    exact (List.nodup_append.mp h2).2.2 b h1 b List.mem_cons_self rfl
  | a :: u, [], p, hu, hv, _, hm => by
    exfalso
    have h1 : a ∈ p := by simpa using (hm a).mp (by simp)
    have h2 := nd_of hu.nd
    exact (List.nodup_append.mp h2).2.2 a h1 a List.mem_cons_self rfl
  | a :: u, b :: v, p, hu, hv, hp, hm => by
    obtain ⟨q, l, rfl⟩ : ∃ q l, p = q ++ [l] := ⟨p.dropLast, p.getLast hp, (List.dropLast_concat_getLast hp).symm⟩
    have e1 : hi22 gs l = lo22 gs a := lk_mid (x := q) (y := u) (by have z := hu.lk; simpa using z)
    have e2 : hi22 gs l = lo22 gs b := lk_mid (x := q) (y := v) (by have z := hv.lk; simpa using z)
    have e3 : lo22 gs a = lo22 gs b := e1.symm.trans e2
    have hb : b ∈ q ++ [l] ++ a :: u := (hm b).mpr (by simp)
    have ha : a ∈ q ++ [l] ++ a :: u := by simp
    have hab : a = b := by
      have nd := hu.nd
      have inj : ∀ {w : List Int}, (w.map (lo22 gs)).Nodup → ∀ i ∈ w, ∀ j ∈ w, lo22 gs i = lo22 gs j → i = j := by
        intro w
        induction w with
        | nil => intro _ i hi; cases hi
        | cons c w ih =>
          intro nd i hi j hj e
          rw [List.map_cons, List.nodup_cons] at nd
          rcases List.mem_cons.mp hi with z | z
          · rcases List.mem_cons.mp hj with z' | z'
            · rw [z, z']
            · exact absurd (List.mem_map.mpr ⟨j, z', by rw [← e, z]⟩) nd.1
          · rcases List.mem_cons.mp hj with z' | z'
            · exact absurd (List.mem_map.mpr ⟨i, z, by rw [e, z']⟩) nd.1
            · exact ih nd.2 i z j z' e
      exact inj nd a ha b hb e3
    subst hab
    rw [chn_det (p := q ++ [l] ++ [a]) (u := u) (v := v) (by simpa using hu) (by simpa using hv) (by simp) (by simpa using hm)]
theorem chn_one {c d : List Int} (hc : Chn gs c) (hd : Chn gs d) (hm : ∀ k, k ∈ c ↔ k ∈ d) : c = d := by
  obtain ⟨a, r, rfl⟩ := List.exists_cons_of_ne_nil hc.cl.wy.ne
  obtain ⟨b, s, rfl⟩ := List.exists_cons_of_ne_nil hd.cl.wy.ne
  have h1 := hc.least a r rfl
  have h2 := hd.least b s rfl
  have hab : a = b := by
    rcases List.mem_cons.mp ((hm a).mp List.mem_cons_self) with z | z
    · exact z
    · rcases List.mem_cons.mp ((hm b).mpr List.mem_cons_self) with z' | z'
      · exact z'.symm
      · have := h1 b z'
        have := h2 a z
        omega
  subst hab
  rw [chn_det (p := [a]) (u := r) (v := s) hc.cl.wy hd.cl.wy (by simp) hm]
theorem nodup_mapOn {α β : Type} (f : α → β) : ∀ {xs : List α}, xs.Nodup → (∀ x ∈ xs, ∀ y ∈ xs, f x = f y → x = y) → (xs.map f).Nodup
  | [], _, _ => .nil
  | x :: xs, nd, h => by
    rw [List.nodup_cons] at nd
    rw [List.map_cons, List.nodup_cons]
    refine ⟨fun m => ?_, nodup_mapOn f nd.2 fun a ha b hb => h a (List.mem_cons_of_mem _ ha) b (List.mem_cons_of_mem _ hb)⟩
    obtain ⟨y, hy, e⟩ := List.mem_map.mp m
    have := h y (List.mem_cons_of_mem _ hy) x List.mem_cons_self e
    exact nd.1 (this ▸ hy)
theorem chn_few {ks : List (List Int)} (nd : ks.Nodup) (h : ∀ c ∈ ks, Chn gs c) (hn : gs.length ≤ 16) : ks.length ≤ 65536 := by
  let f : List Int → List Int := fun c => (rangeL 0 gs.length).filter fun k => decide (k ∈ c)
  have inj : ∀ c ∈ ks, ∀ d ∈ ks, f c = f d → c = d := fun c hc d hd e => chn_one (h c hc) (h d hd) fun k => by
    have g : ∀ {c : List Int}, Chn gs c → (k ∈ c ↔ k ∈ f c) := fun {c} hc => by
      show _ ↔ k ∈ List.filter _ _
      rw [List.mem_filter, decide_eq_true_iff]
      exact ⟨fun z => ⟨mem_rng.mpr (hc.cl.wy.val k z), z⟩, fun z => z.2⟩
    rw [g (h c hc), g (h d hd), e]
  have z := nodup_sub (m := subs (rangeL 0 gs.length)) (nodup_mapOn f nd inj) fun x hx => by
    obtain ⟨c, _, rfl⟩ := List.mem_map.mp hx
    exact filter_subs _ _
  rw [List.length_map, subs_len, rangeL_len] at z
  exact Nat.le_trans z (Nat.pow_le_pow_right (by decide) hn)
end
theorem keysP22 {κ α : Type} [DecidableEq κ] {m : List (κ × α)} {k : κ} {d : α} : (dput m k d).map (·.1) = if k ∈ m.map (·.1) then m.map (·.1) else m.map (·.1) ++ [k] := by
  unfold dput
  have e : (m.any fun e => decide (e.1 = k)) = true ↔ k ∈ m.map (·.1) := by
    rw [List.any_eq_true, List.mem_map]
    exact ⟨fun ⟨x, h1, h2⟩ => ⟨x, h1, of_decide_eq_true h2⟩, fun ⟨x, h1, h2⟩ => ⟨x, h1, decide_eq_true h2⟩⟩
  by_cases h : k ∈ m.map (·.1)
  · rw [if_pos (e.mpr h), if_pos h, List.map_map]
    refine List.map_congr_left fun x _ => ?_
    show (if x.1 = k then (x.1, d) else x).1 = x.1
    split <;> rfl
  · rw [if_neg (fun z => h (e.mp z)), if_neg h, List.map_append]
    rfl
theorem minL_ok : ∀ {w : List Int}, w ≠ [] → ∃ m, minL w = some m ∧ m ∈ w ∧ ∀ k ∈ w, m ≤ k
  | [], h => absurd rfl h
  | a :: r, _ => by
    have g : ∀ (r : List Int) (a : Int), (r.foldl min a = a ∨ r.foldl min a ∈ r) ∧ r.foldl min a ≤ a ∧ ∀ k ∈ r, r.foldl min a ≤ k := by
      intro r
      induction r with
      | nil => intro a; exact ⟨.inl rfl, Int.le_refl _, fun k hk => by cases hk⟩
      | cons b r ih =>
        intro a
        obtain ⟨h1, h2, h3⟩ := ih (min a b)
        refine ⟨?_, ?_, fun k hk => ?_⟩
        · rcases h1 with h1 | h1
          · rw [List.foldl_cons, h1]
            rcases Int.le_total a b with z | z
            · exact .inl (Int.min_eq_left z)
            · rw [Int.min_eq_right z]; exact .inr List.mem_cons_self
          · exact .inr (List.mem_cons_of_mem _ h1)
        · exact Int.le_trans h2 (Int.min_le_left _ _)
        · rcases List.mem_cons.mp hk with z | z
          · rw [z]; exact Int.le_trans h2 (Int.min_le_right _ _)
          · exact h3 k z
    obtain ⟨h1, h2, h3⟩ := g r a
    refine ⟨_, rfl, ?_, fun k hk => ?_⟩
    · rcases h1 with h1 | h1
      · rw [h1]; exact List.mem_cons_self
      · exact List.mem_cons_of_mem _ h1
    · rcases List.mem_cons.mp hk with z | z
      · rw [z]; exact h2
      · exact h3 k z
theorem idxL_ok {α : Type} [DecidableEq α] {w : List α} {m : α} (h : m ∈ w) : ∃ (j : Nat) (x y : List α), idxL w m = some (j : Int) ∧ w = x ++ m :: y ∧ x.length = j := by
  cases e : idxL w m with
  | none =>
    exfalso
    unfold idxL at e
    have z := Option.map_eq_none_iff.mp e
    rw [List.findIdx?_eq_none_iff] at z
    have := z m h
    simp at this
  | some i =>
    obtain ⟨j, rfl, hj, _⟩ := idxL_at e
    obtain ⟨hl, hx⟩ := List.getElem?_eq_some_iff.mp hj
    refine ⟨j, w.take j, w.drop (j + 1), rfl, ?_, List.length_take_of_le (Nat.le_of_lt hl)⟩
    rw [← hx, List.getElem_cons_drop, List.take_append_drop]
theorem pop_ok {α : Type} (p : List α) (w : α) : popL (p ++ [w]) = some (w, p) := by
  unfold popL
  simp
section
variable {gs : List Gap}
theorem hi_at {k : Int} (h : 0 ≤ k ∧ k < gs.length) : ∃ g, atI gs k = some g ∧ lo22 gs k = some g.1 ∧ hi22 gs k = some g.2.1 := by
  have e := atI_nat' (xs := gs) h.1 h.2
  exact ⟨_, e, by unfold lo22; rw [e]; rfl, by unfold hi22; rw [e]; rfl⟩
theorem lows_lc {ε : Type} {w : List Int} (hv : ∀ k ∈ w, 0 ≤ k ∧ k < gs.length) : Res.lc (fun (x28 : Int) (s29 : Unit) => Res.bind (Res.opt (atI gs x28)) fun z30 => (.ok (some z30.1, s29) : Res ε (Option Nod × Unit))) w () = .ok (w.filterMap (lo22 gs), ()) := lc_map (lo22 gs) () w fun x hx => by
  obtain ⟨g, e, e1, _⟩ := hi_at (hv x hx)
  rw [e, opt_some, bind_ok, e1]
theorem mem_lows {w : List Int} {v : Nod} : v ∈ w.filterMap (lo22 gs) ↔ some v ∈ w.map (lo22 gs) := by
  rw [List.mem_filterMap, List.mem_map]
theorem rng22 {n : Nat} (h : n ≤ 100000) : -(2 ^ 62) ≤ (n : Int) ∧ (n : Int) < 2 ^ 62 := by
  have h1 : (100000 : Int) < 2 ^ 62 := by decide
  have h2 : (0 : Int) ≤ 2 ^ 62 := by decide
  constructor <;> omega
def next22 (gs : List Gap) (w : List Int) (v : Nod) : List (List Int) := (rangeL 0 gs.length).filterMap fun k => if lo22 gs k = some v then some (w ++ [k]) else none
theorem next_mem {w u : List Int} {v : Nod} : u ∈ next22 gs w v ↔ ∃ k : Int, (0 ≤ k ∧ k < gs.length) ∧ lo22 gs k = some v ∧ u = w ++ [k] := by
  unfold next22
  rw [List.mem_filterMap]
  constructor
  · rintro ⟨k, hk, e⟩
    have hk' : 0 ≤ k ∧ k < gs.length := mem_rng.mp hk
    split at e
    · rename_i hv
      cases e
      exact ⟨k, hk', hv, rfl⟩
    · cases e
  · rintro ⟨k, hk, hv, rfl⟩
    exact ⟨k, mem_rng.mpr hk, by rw [if_pos hv]⟩
theorem next_eq {w : List Int} {v : Nod} (hw : w.length ≤ 1000) (hl : gs.length ≤ 1000) {α : Type} {k : List (List Int) → Unit → Res Unit α} : (Res.bind (Res.grd (-(2 ^ 62) ≤ (List.length gs : Int) ∧ (List.length gs : Int) < 2 ^ 62) (rangeL 0 (Int.toNat (List.length gs : Int)))) fun z35 => Res.bind (Res.grd (z35.length ≤ 100000) z35) fun z40 => Res.bind (Res.calm (Res.lc (fun (x36 : Int) (s37 : Unit) => Res.bind (Res.opt (atI gs x36)) fun z38 => if decide (z38.1 = v) = true then Res.bind (Res.grd (List.length w + List.length [x36] ≤ 100000) (w ++ [x36])) fun z39 => (.ok (some z39, s37) : Res Unit (Option (List Int) × Unit)) else .ok (none, s37)) z40 ())) fun z41 => k z41.1 z41.2) = k (next22 gs w v) () := by
  have h1 := rng22 (n := gs.length) (by omega)
  rw [grd_t h1, bind_ok, Int.toNat_natCast, grd_t (by rw [rangeL_len]; omega), bind_ok, lc_map (fun k => if lo22 gs k = some v then some (w ++ [k]) else none) () _ fun x hx => ?_]
  · rfl
  · obtain ⟨g, e, e1, _⟩ := hi_at (mem_rng.mp hx)
    rw [e, opt_some, bind_ok, e1]
    by_cases hv : g.1 = v
    · rw [if_pos (decide_eq_true hv), if_pos (by rw [hv]), grd_t (by simp; omega), bind_ok]
    · rw [if_neg (by simpa using hv), if_neg (fun z => hv (Option.some.inj z))]
structure St22 (gs : List Gap) (s : List (List Int) × List (List Int × Bool)) : Prop where
  wy : ∀ w ∈ s.1, Wy gs w
  pl : ∀ (i : Nat) w, s.1[i]? = some w → i < gs.length * w.length
  nd : (s.2.map (·.1)).Nodup
  ch : ∀ c ∈ s.2.map (·.1), Chn gs c
  all : ∀ u, Cl gs u → (∀ x m y, u = x ++ m :: y → (∀ k ∈ u, m ≤ k) → (m :: y ++ x) ∈ s.2.map (·.1)) ∨ ∃ w ∈ s.1, ∃ r, u = w ++ r
theorem sum_app22 (f : List Int → Nat) (a b : List (List Int)) : ((a ++ b).map f).sum = (a.map f).sum + (b.map f).sum := by rw [List.map_append, List.sum_append]
theorem sum_le22 {f : List Int → Nat} {b : Nat} : ∀ {l : List (List Int)}, (∀ w ∈ l, f w ≤ b) → (l.map f).sum ≤ l.length * b
  | [], _ => by simp
  | w :: l, h => by
    have h1 := h w List.mem_cons_self
    have h2 := sum_le22 (l := l) (b := b) fun x hx => h x (List.mem_cons_of_mem _ hx)
    rw [List.map_cons, List.sum_cons, List.length_cons, Nat.succ_mul]
    omega
theorem next_len (w : List Int) (v : Nod) : (next22 gs w v).length ≤ gs.length := by
  unfold next22
  have := List.length_filterMap_le (fun k => if lo22 gs k = some v then some (w ++ [k]) else none) (rangeL 0 gs.length)
  rwa [rangeL_len] at this
theorem last_at (w : List Int) (b : Int) (h : w.getLast? = some b) : atI w (-(1 : Int)) = some b := by
  obtain ⟨p, rfl⟩ := List.getLast?_eq_some_iff.mp h
  exact atI_end p b
def mu22 (s : List (List Int) × List (List Int × Bool)) : Nat := (s.1.map fun w => 17 ^ (17 - w.length)).sum
theorem l_chains_eq (hn : gs.length ≤ 16) : ∃ ks, l_chains gs = .ok (sortG (eV eI) ks) ∧ ks.Nodup ∧ ∀ c, c ∈ ks ↔ Chn gs c := by
  suffices h : (l_chains gs).To fun cs => ∃ ks, cs = sortG (eV eI) ks ∧ ks.Nodup ∧ ∀ c, c ∈ ks ↔ Chn gs c by
    obtain ⟨a, e, ks, rfl, h1, h2⟩ := h
    exact ⟨ks, e, h1, h2⟩
  unfold l_chains
  have h1 := rng22 (n := gs.length) (by omega)
  rw [bind_ok, grd_t h1, bind_ok, Int.toNat_natCast, grd_t (by rw [rangeL_len]; omega), bind_ok, lc_map (fun k => some [k]) () _ fun x _ => rfl, calm_ok, bind_ok, bind_ok]
  have e0 : (rangeL 0 gs.length).filterMap (fun k => some [k]) = (rangeL 0 gs.length).map (fun k => [k]) := by
    show List.filterMap (some ∘ fun k : Int => [k]) _ = _
    rw [List.filterMap_eq_map]
  rw [e0]
  have one : ∀ k : Int, 0 ≤ k ∧ k < gs.length → Wy gs [k] := fun k hk => ⟨by simp, fun j hj => by rw [List.mem_singleton.mp hj]; exact hk, by simp, trivial⟩
  refine To.wloop (St22 gs) mu22 ⟨fun w hw => ?_, fun i w hi => ?_, .nil, (fun c hc => by cases hc), fun u hu => .inr ?_⟩ (Res.fuel_big ?_) ?_
  · obtain ⟨k, hk, rfl⟩ := List.mem_map.mp hw
    exact one k (mem_rng.mp hk)
  · rw [List.getElem?_map] at hi
    obtain ⟨k, hk, rfl⟩ := Option.map_eq_some_iff.mp hi
    have := (List.getElem?_eq_some_iff.mp hk).1
    rw [rangeL_len] at this
    simpa using this
  · obtain ⟨a, r, rfl⟩ := List.exists_cons_of_ne_nil hu.wy.ne
    exact ⟨[a], List.mem_map.mpr ⟨a, mem_rng.mpr (hu.wy.val a List.mem_cons_self), rfl⟩, r, rfl⟩
  · show mu22 (_, _) < _
    have z : mu22 ((rangeL 0 gs.length).map (fun k => [k]), []) ≤ 16 * 17 ^ 17 := by
      refine Nat.le_trans (sum_le22 (b := 17 ^ 17) fun w _ => Nat.pow_le_pow_right (by decide) (by omega)) ?_
      rw [List.length_map, rangeL_len]
      exact Nat.mul_le_mul_right _ hn
    refine Nat.lt_of_le_of_lt z (Nat.lt_of_lt_of_le (show 16 * 17 ^ 17 < 2 ^ 80 by decide) (Nat.pow_le_pow_right (by decide) (by decide)))
  · intro s hs nx hnx
    by_cases hemp : s.1 = []
    · rw [if_neg (by simp [hemp])]
      unfold l_chains_k1
      refine To.g (fun x hx => ?_) (.ok ⟨_, rfl, hs.nd, fun c => ⟨hs.ch c, fun hc => ?_⟩⟩)
      · exact (hs.ch x hx).cl.wy.ne
      · obtain ⟨a, r, rfl⟩ := List.exists_cons_of_ne_nil hc.cl.wy.ne
        rcases hs.all _ hc.cl with z | ⟨w, hw, _⟩
        · have z2 := z [] a r rfl fun k hk => by
            rcases List.mem_cons.mp hk with q | q
            · rw [q]; exact Int.le_refl _
            · exact Int.le_of_lt (hc.least a r rfl k q)
          simpa using z2
        · rw [hemp] at hw; cases hw
    · rw [if_pos (by simp [hemp])]
      obtain ⟨st, fo⟩ := s
      obtain ⟨p, w, rfl⟩ : ∃ p w, st = p ++ [w] := ⟨st.dropLast, st.getLast hemp, (List.dropLast_concat_getLast hemp).symm⟩
      have hw := hs.wy w (by simp)
      have hwl := hw.len
      have hwp := hw.pos
      obtain ⟨b, hb⟩ : ∃ b, w.getLast? = some b := ⟨w.getLast hw.ne, List.getLast?_eq_some_getLast hw.ne⟩
      obtain ⟨a, r, ew⟩ := List.exists_cons_of_ne_nil hw.ne
      have hbm : b ∈ w := List.mem_of_getLast? hb
      obtain ⟨gb, eb, lb, hib⟩ := hi_at (hw.val b hbm)
      obtain ⟨ga, ea, la, hia⟩ := hi_at (hw.val a (by rw [ew]; exact List.mem_cons_self))
      have e1 : atI w (-(1 : Int)) = some b := last_at w b hb
      have e2 : atI w (0 : Int) = some a := by rw [ew]; exact atI_hd a r
      have hpl := hs.pl p.length w (by simp)
      have hplen : p.length ≤ 256 := by
        have : gs.length * w.length ≤ 16 * 16 := Nat.mul_le_mul hn (by omega)
        omega
      have hpw : ∀ v ∈ p, Wy gs v := fun v hv => hs.wy v (List.mem_append_left _ hv)
      have hpp : ∀ (i : Nat) v, p[i]? = some v → i < gs.length * v.length := fun i v hi => hs.pl i v (by
        have := (List.getElem?_eq_some_iff.mp hi).1
        show (p ++ [w])[i]? = some v
        rw [List.getElem?_append_left this]
        exact hi)
      have hmu : mu22 (p ++ [w], fo) = mu22 (p, fo) + 17 ^ (17 - w.length) := by
        show ((p ++ [w]).map _).sum = _
        rw [sum_app22]
        simp [mu22]
      have hpos : 0 < 17 ^ (17 - w.length) := Nat.pow_pos (by decide)
      unfold l_chains_b4
      dsimp only
      rw [pop_ok, opt_some, bind_ok, bind_ok, e1, opt_some, bind_ok, eb, opt_some, bind_ok, bind_ok, e2, opt_some, bind_ok, ea, opt_some, bind_ok]
      dsimp only
      have few : fo.length ≤ 65536 := by
        have z := chn_few hs.nd hs.ch hn
        rwa [List.length_map] at z
      by_cases hc : gb.2.1 = ga.1
      · rw [if_pos (decide_eq_true hc)]
        have hcl : Cl gs w := ⟨hw, a, b, by rw [ew]; rfl, hb, by rw [hib, la, hc]⟩
        obtain ⟨m, em, hm, hmin⟩ := minL_ok hw.ne
        obtain ⟨j, x, y, ej, ewx, hxl⟩ := idxL_ok hm
        rw [em, opt_some, bind_ok, ej, opt_some, bind_ok, bind_ok, cut_post, cut_pre]
        have d1 : w.drop j = m :: y := by rw [ewx, List.drop_left' hxl]
        have d2 : w.take j = x := by rw [ewx, List.take_left' hxl]
        rw [d1, d2]
        have hlen : (m :: y).length + x.length = w.length := by rw [ewx]; simp; omega
        refine To.g (by omega) (To.g (by omega) ?_)
        unfold l_chains_k2
        dsimp only
        have hrot : Chn gs (m :: y ++ x) := rot_chn (ewx ▸ hcl) (fun k hk => hmin k (by rw [ewx]; exact hk))
        refine hnx _ ⟨hpw, hpp, ?_, fun c hc' => ?_, fun u hu => ?_⟩ ?_
        · rw [keysP22]
          split
          · exact hs.nd
          · rename_i hni
            exact List.nodup_append.mpr ⟨hs.nd, by simp, fun q hq q' hq' => by rw [List.mem_singleton] at hq'; subst hq'; exact fun z => hni (z ▸ hq)⟩
        · rw [keysP22] at hc'
          split at hc'
          · exact hs.ch c hc'
          · rcases List.mem_append.mp hc' with z | z
            · exact hs.ch c z
            · rw [List.mem_singleton.mp z]; exact hrot
        · have sub : ∀ c, c ∈ fo.map (·.1) ∨ c = m :: y ++ x → c ∈ (dput fo (m :: y ++ x) true).map (·.1) := fun c h => by
            rw [keysP22]
            split
            · rename_i hin
              rcases h with h | h
              · exact h
              · rw [h]; exact hin
            · rcases h with h | h
              · exact List.mem_append_left _ h
              · rw [h]; exact List.mem_append_right _ (by simp)
          rcases hs.all u hu with z | ⟨v, hv, r', eu⟩
          · exact .inl fun x' m' y' e' h' => sub _ (.inl (z x' m' y' e' h'))
          · rcases List.mem_append.mp hv with hv | hv
            · exact .inr ⟨v, hv, r', eu⟩
            · rw [List.mem_singleton] at hv
              subst hv
              have hr' : r' = [] := cl_stop (eu ▸ hu.wy) hw.ne hb (by rw [hib, hc, ← la]; exact List.mem_map_of_mem (by rw [ew]; exact List.mem_cons_self))
              rw [hr', List.append_nil] at eu
              subst eu
              refine .inl fun x' m' y' e' h' => sub _ (.inr ?_)
              have hmm : m' = m := by
                have g1 := h' m hm
                have g2 := hmin m' (by rw [e']; simp)
                omega
              subst hmm
              have ndu := nd_of hu.wy.nd
              rw [ewx] at e' ndu
              have nx1 : m' ∉ x := fun z => (List.nodup_append.mp ndu).2.2 _ z _ List.mem_cons_self rfl
              have ndu2 := ndu
              rw [e'] at ndu2
              have nx2 : m' ∉ x' := fun z => (List.nodup_append.mp ndu2).2.2 _ z _ List.mem_cons_self rfl
              have key : ∀ (x x' : List Int) {y y' : List Int}, m' ∉ x → m' ∉ x' → x ++ m' :: y = x' ++ m' :: y' → x = x' ∧ y = y' := by
                intro x
                induction x with
                | nil =>
                  intro x' y y' _ h2 e
                  cases x' with
                  | nil => exact ⟨rfl, by simpa using e⟩
                  | cons c x' => simp at e; exact absurd (by rw [e.1]; exact List.mem_cons_self) h2
                | cons c x ih =>
                  intro x' y y' h1 h2 e
                  cases x' with
                  | nil => simp at e; exact absurd (by rw [e.1]; exact List.mem_cons_self) h1
                  | cons d x' =>
                    simp at e
                    obtain ⟨g1, g2⟩ := ih x' (fun z => h1 (List.mem_cons_of_mem _ z)) (fun z => h2 (List.mem_cons_of_mem _ z)) e.2
                    exact ⟨by rw [e.1, g1], g2⟩
              obtain ⟨g1, g2⟩ := key x x' nx1 nx2 e'
              rw [g1, g2]
        · show mu22 (p, _) < mu22 (p ++ [w], fo)
          rw [hmu]
          exact Nat.lt_add_of_pos_right hpos
      · rw [if_neg (by simpa using hc)]
        rw [grd_t (by omega), bind_ok, lows_lc (fun k hk => hw.val k hk), calm_ok, bind_ok]
        dsimp only
        by_cases hin : some gb.2.1 ∈ w.map (lo22 gs)
        · rw [if_neg (by rw [memD_iff.mpr (mem_lows.mpr hin)]; decide)]
          unfold l_chains_k3 l_chains_k2
          refine hnx _ ⟨hpw, hpp, hs.nd, hs.ch, fun u hu => ?_⟩ ?_
          · rcases hs.all u hu with z | ⟨v, hv, r', eu⟩
            · exact .inl z
            · rcases List.mem_append.mp hv with hv | hv
              · exact .inr ⟨v, hv, r', eu⟩
              · rw [List.mem_singleton] at hv
                subst hv
                have hr' : r' = [] := cl_stop (eu ▸ hu.wy) hw.ne hb (by rw [hib]; exact hin)
                rw [hr', List.append_nil] at eu
                subst eu
                exfalso
                obtain ⟨a', b', g1, g2, g3⟩ := hu.cl
                rw [ew] at g1
                cases g1
                rw [hb] at g2
                cases g2
                rw [hib, la] at g3
                exact hc (Option.some.inj g3)
          · show mu22 (p, fo) < mu22 (p ++ [w], fo)
            rw [hmu]
            exact Nat.lt_add_of_pos_right hpos
        · have nm : memD gb.2.1 (w.filterMap (lo22 gs)) = false := by
            cases e : memD gb.2.1 (w.filterMap (lo22 gs)) with
            | false => rfl
            | true => exact absurd (mem_lows.mp (memD_iff.mp e)) hin
          rw [if_pos (by rw [nm]; rfl)]
          rw [next_eq (w := w) (v := gb.2.1) (by omega) (by omega) (k := fun l u => Res.bind (Res.grd (List.length p + List.length l ≤ 100000) (p ++ l, u)) fun x42 => (l_chains_k3 (p ++ [w], fo) nx) x42.1)]
          have nl := next_len (gs := gs) w gb.2.1
          refine To.g (by omega) ?_
          unfold l_chains_k3 l_chains_k2
          dsimp only
          have hnl : ∀ v ∈ next22 gs w gb.2.1, v.length = w.length + 1 := fun v hv => by
            obtain ⟨k, _, _, rfl⟩ := next_mem.mp hv
            simp
          refine hnx _ ⟨fun v hv => ?_, fun i v hi => ?_, hs.nd, hs.ch, fun u hu => ?_⟩ ?_
          · rcases List.mem_append.mp hv with hv | hv
            · exact hpw v hv
            · obtain ⟨k, hk, hlo, rfl⟩ := next_mem.mp hv
              exact hw.more hb hk (by rw [hib, hlo]) (by rw [hlo]; exact hin)
          · show i < gs.length * v.length
            have hi' : (p ++ next22 gs w gb.2.1)[i]? = some v := hi
            by_cases hlt : i < p.length
            · rw [List.getElem?_append_left hlt] at hi'
              exact hpp i v hi'
            · rw [List.getElem?_append_right (by omega)] at hi'
              have h5 := (List.getElem?_eq_some_iff.mp hi').1
              have h6 := hnl v (List.mem_of_getElem? hi')
              rw [h6, Nat.mul_succ]
              omega
          · rcases hs.all u hu with z | ⟨v, hv, r', eu⟩
            · exact .inl z
            · rcases List.mem_append.mp hv with hv | hv
              · exact .inr ⟨v, List.mem_append_left _ hv, r', eu⟩
              · rw [List.mem_singleton] at hv
                subst hv
                cases r' with
                | nil =>
                  exfalso
                  rw [List.append_nil] at eu
                  subst eu
                  obtain ⟨a', b', g1, g2, g3⟩ := hu.cl
                  rw [ew] at g1
                  cases g1
                  rw [hb] at g2
                  cases g2
                  rw [hib, la] at g3
                  exact hc (Option.some.inj g3)
                | cons k r' =>
                  obtain ⟨q, eq⟩ := List.getLast?_eq_some_iff.mp hb
                  have hlk : hi22 gs b = lo22 gs k := lk_mid (x := q) (y := r') (by have z := hu.wy.lk; rw [eu, eq] at z; simpa using z)
                  have hkv := hu.wy.val k (by rw [eu]; simp)
                  exact .inr ⟨v ++ [k], List.mem_append_right _ (next_mem.mpr ⟨k, hkv, by rw [← hlk, hib], rfl⟩), r', by rw [eu]; simp⟩
          · show mu22 (p ++ next22 gs w gb.2.1, fo) < mu22 (p ++ [w], fo)
            rw [hmu]
            show ((p ++ next22 gs w gb.2.1).map _).sum < _
            rw [sum_app22]
            have g1 : ((next22 gs w gb.2.1).map fun v => 17 ^ (17 - v.length)).sum ≤ (next22 gs w gb.2.1).length * 17 ^ (16 - w.length) := sum_le22 fun v hv => by
              rw [hnl v hv, show 17 - (w.length + 1) = 16 - w.length by omega]
              exact Nat.le_refl _
            have g2 : (next22 gs w gb.2.1).length * 17 ^ (16 - w.length) ≤ 16 * 17 ^ (16 - w.length) := Nat.mul_le_mul_right _ (by omega)
            have g3 : 17 ^ (17 - w.length) = 17 * 17 ^ (16 - w.length) := by rw [show 17 - w.length = (16 - w.length) + 1 by omega, Nat.pow_succ, Nat.mul_comm]
            have g4 : 0 < 17 ^ (16 - w.length) := Nat.pow_pos (by decide)
            show (p.map _).sum + _ < mu22 (p, fo) + _
            have g5 : mu22 (p, fo) = (p.map fun v => 17 ^ (17 - v.length)).sum := rfl
            rw [g5, g3]
            omega
end
end
section
set_option Elab.async false
set_option linter.all false
set_option maxRecDepth 100000
set_option maxHeartbeats 1000000
open TL PySem L2 Res
section
variable {a b : Rat} {n m : Nat} (ha : Nu.Bd n a) (hb : Nu.Bd m b) (h : n + m ≤ 8000)
include ha hb h
end
end
section
set_option Elab.async false
set_option linter.all false
set_option maxRecDepth 100000
set_option maxHeartbeats 1000000
open TL PySem L2 Res
theorem AllBd.put {n : Nat} {m : List (Tx × Rat)} {k : Tx} {d : Rat} (h : AllBd n m) (hd : Nu.Bd n d) : AllBd n (dput m k d) := by
  intro p hp
  unfold dput at hp
  split at hp
  · obtain ⟨e, he, rfl⟩ := List.mem_map.mp hp
    split
    · exact hd
    · exact h e he
  · rcases List.mem_append.mp hp with q | q
    · exact h p q
    · simp at q
      subst q
      exact hd
theorem AllBd.mono {n m : Nat} {d : List (Tx × Rat)} (h : AllBd n d) (l : n ≤ m) : AllBd m d := fun p hp => (h p hp).mono l
structure Mkg (zs : List Siz) (d : List (Tx × Rat)) : Prop where
  keys : d.map (·.1) = alln zs
  bd : AllBd 500 d
  kp : ∀ z ∈ zs, kept d z = true
structure Mkg1 (pre : List Siz) (z : Siz) (ps : List Shi) (v : Rat) (d : List (Tx × Rat)) : Prop where
  keys : d.map (·.1) = alln pre ++ z.1 :: ps.map (·.1)
  bd : AllBd 500 d
  kp : ∀ z ∈ pre, kept d z = true
  vb : Nu.Bd 300 v
  val : dget d z.1 = some v
  sh : ∀ e ∈ ps, ∃ t, dget d e.1 = some t ∧ ¬ t < 0 - room z e v ∧ ¬ room z e v < t
section
variable {zs pre post : List Siz} {z : Siz} {d : List (Tx × Rat)} {v x : Rat} (ok : StOk zs) (hp : zs = pre ++ z :: post)
include ok hp
end
theorem Mkg.nil : Mkg [] [] := ⟨rfl, (fun p hp => by cases hp), fun z hz => by cases hz⟩
theorem Mkg.keeps {zs : List Siz} {d : List (Tx × Rat)} (h : Mkg zs d) : keepsB zs d = true := by
  unfold keepsB
  rw [show d.map Prod.fst = alln zs from h.keys, decide_eq_true rfl, Bool.true_and]
  exact List.all_eq_true.mpr h.kp
end
section
set_option Elab.async false
set_option linter.all false
set_option maxRecDepth 100000
set_option maxHeartbeats 1000000
open TL PySem L2 Res
structure Bn (d : List (Tx × Rat)) : Prop where
  nd : (d.map (·.1)).Nodup
  bd : AllBd 1100 d
  le : d.length ≤ 20
theorem Bn.put {m : List (Tx × Rat)} {k : Tx} {x : Rat} (h : Bn m) (hm : m.length ≤ 15) (hx : Nu.Bd 1100 x) : Bn (dput m k x) := by
  have kk := t_keys_put (m := m) (k := k) (d := x)
  refine ⟨?_, h.bd.put hx, ?_⟩
  · show ((dput m k x).map (·.1)).Nodup
    rw [kk]
    split
    · exact h.nd
    · rename_i c
      rw [List.nodup_append]
      exact ⟨h.nd, by simp, fun a ha b hb e => by simp at hb; subst hb; subst e; exact c ha⟩
  · have := congrArg List.length kk
    simp at this
    split at this <;> simp at this <;> omega
theorem Bn.drop {m : List (Tx × Rat)} {k : Tx} (h : Bn m) : Bn (ddrop m k) := by
  unfold ddrop
  refine ⟨List.Sublist.nodup (List.Sublist.map _ List.filter_sublist) h.nd, fun p hp => h.bd p ((List.mem_filter.mp hp).1), ?_⟩
  exact Nat.le_trans (List.length_filter_le _ _) h.le
end
section
set_option Elab.async false
set_option linter.all false
set_option maxRecDepth 100000
set_option maxHeartbeats 1000000
open TL PySem L2 Res
abbrev Tab := List (Tx × Rat)
section
variable {z : Siz} {fs : Tab} {f : Tx → Rat} {v : Rat} (hz : SzOk z) (hf : ∀ k, (dget fs k).getD 0 = f k) (hb : ∀ k, Nu.Bd 64 (f k)) (hv : Nu.Bd 125 v)
include hz hb hv
include hf
end
section
variable {z : Siz} {fs : Tab} {f : Tx → Rat} (hz : SzOk z) (hf : ∀ k, (dget fs k).getD 0 = f k) (hb : ∀ k, Nu.Bd 64 (f k))
include hz hf hb
end
end
section
set_option Elab.async false
set_option linter.all false
set_option maxRecDepth 100000
set_option maxHeartbeats 1000000
open TL PySem L2 Res
def val (mk : Tab) (k : Tx) : Rat := (dget mk k).getD 0
section
variable {zs : List Siz} {n : Rat} {ps : Tab} (ok : StOk zs) (nd : (ps.map (·.1)).Nodup) (hl : ps.length ≤ 60)
include ok nd hl
end
end
section
set_option Elab.async false
set_option linter.all false
set_option maxRecDepth 100000
set_option maxHeartbeats 1000000
open TL PySem L2 Res
end
section
set_option Elab.async false
set_option linter.all false
set_option maxRecDepth 100000
set_option maxHeartbeats 1000000
open TL PySem L2 Res
theorem number11_to {n : Nat} {w : List Int} (h : Wl n w) (hn : n ≤ 2 ^ 38) : (l_number_k11 w).To fun r => Nu.Bd 62 r.1 ∧ Wl (n + 3) r.2 := by
  have p38 : (2 : Nat) ^ 38 = 274877906944 := by decide
  have p40 : (2 : Nat) ^ 40 = 1099511627776 := by decide
  have p62 : (2 : Nat) ^ 62 = 4611686018427387904 := by decide
  have bg : ∀ b : Int, 0 < b → b < 200000000 → b.natAbs < 2 ^ 8000 := fun b _ _ => Nat.lt_of_lt_of_le (show b.natAbs < 2 ^ 62 by omega) (Nat.pow_le_pow_right (by decide) (by decide))
  unfold l_number_k11
  refine To.b (take_to h (by decide) (by decide) (by omega)) fun r ⟨r0, r1, hr⟩ => To.v (To.i (fun _ => ?_) fun _ => To.i (fun _ => ?_) fun _ => To.i (fun _ => ?_) fun _ => ?_)
  · refine To.g (cmulw 2 62 (by decide) (by decide)) (To.b (take_to hr (by decide) (by decide) (by omega)) fun u ⟨u0, u1, hu⟩ => To.o (mkQ_int _) (.ok ⟨Nu.q_bd (by omega) (by decide) (by decide), hu.up (by omega)⟩))
  · refine To.g (cmulw 2 62 (by decide) (by decide)) (To.b (take_to hr (by decide) (by decide) (by omega)) fun u ⟨u0, u1, hu⟩ => To.b (take_to hu (by decide) (by decide) (by omega)) fun v ⟨v0, v1, hv⟩ => ?_)
    rw [l_num_eq (by omega) (bg _ (by omega) (by omega))]
    exact To.v (.ok ⟨Nu.q_bd (by omega) (by omega) (by omega), hv.up (by omega)⟩)
  · refine To.b (take_to hr (by decide) (by decide) (by omega)) fun u ⟨u0, u1, hu⟩ => To.b (take_to hu (by decide) (by decide) (by omega)) fun v ⟨v0, v1, hv⟩ => ?_
    rw [l_num_eq (by omega) (bg _ (by omega) (by omega))]
    exact To.v (.ok ⟨Nu.q_bd (by omega) (by omega) (by omega), hv.up (by omega)⟩)
  · refine To.b (take_to hr (by decide) (by decide) (by omega)) fun u ⟨u0, u1, hu⟩ => To.o (mkQ_int _) (.ok ⟨Nu.q_bd (by omega) (by decide) (by decide), hu.up (by omega)⟩)
section
variable {zs : List Siz} {a : Rat × Tab} (ok : StOk zs) (h : Sm 62 (alln zs) a)
include ok h
end
section
variable {zs : List Siz} {n : Rat} {qs : Tab} {odd : Tx} (ok : StOk zs) (nd : (qs.map (·.1)).Nodup) (hl : qs.length ≤ 13) (hn : Nu.Bd 62 n) (hb : ∀ e ∈ qs, Nu.Bd 62 e.2) (hz : ∀ e ∈ qs, e.2 ≠ 0) (h1 : odd ∈ qs.map (·.1)) (h2 : odd ∉ alln zs)
include ok nd hl hn hb hz h1 h2
end
end
section
set_option Elab.async false
set_option linter.all false
set_option maxRecDepth 100000
set_option maxHeartbeats 1000000
open TL PySem L2 Res
abbrev SumT := Rat × List (Tx × Rat)
section
variable {d e : Nat} {zs : List Tx} {a b : SumT}
end
def mapS (f : Rat → Rat) (b : SumT) : SumT := (f b.1, b.2.map fun e => (e.1, f e.2))
def negS16 (b : SumT) : SumT := mapS (fun r => -r) b
theorem map_id (b : SumT) : mapS (fun r => r) b = b := by
  unfold mapS
  rw [show (fun e : Tx × Rat => (e.1, e.2)) = id from rfl, List.map_id]
section
variable {d e : Nat} {zs : List Tx} {a b : SumT}
theorem bd_neg {n : Nat} {r : Rat} (h : Nu.Bd n r) : Nu.Bd n (-r) := ⟨by show (-r.num).natAbs < _; rw [Int.natAbs_neg]; exact h.1, h.2⟩
theorem Sm.neg (hb : Sm e zs b) : Sm e zs (negS16 b) where
  n := bd_neg hb.n
  e := fun f hf => by
    obtain ⟨g, hg, rfl⟩ := List.mem_map.mp hf
    exact bd_neg (hb.e g hg)
  rise := by
    show ((b.2.map fun e => (e.1, -e.2)).map (·.1)).Pairwise ltT
    rw [List.map_map]
    exact hb.rise
  nz := fun f hf => by
    obtain ⟨g, hg, rfl⟩ := List.mem_map.mp hf
    have := hb.nz g hg
    show -g.2 ≠ 0
    grind
  sub := fun f hf => by
    obtain ⟨g, hg, rfl⟩ := List.mem_map.mp hf
    exact hb.sub g hg
end
end
section
set_option Elab.async false
set_option linter.all false
set_option maxRecDepth 100000
set_option synthInstance.maxSize 4000
set_option maxHeartbeats 4000000
open TL PySem L2
open Res
theorem cut_len22 (t : Tx) (a b : Option Int) : (t.cut a b).len ≤ t.len := by
  show (((t.s.cps.toList.drop (HT.sIx t.s.length 0 a)).take (HT.sIx t.s.length t.s.length b - HT.sIx t.s.length 0 a)).toArray).size ≤ t.s.length
  rw [List.size_toArray, List.length_take, List.length_drop]
  have : t.s.cps.toList.length = t.s.length := by simp [Str.length]
  omega
theorem few_to {n : Nat} {w : List Int} (h : Wl n w) (hn : n ≤ 2 ^ 39) : (l_few w).To fun r => (1 ≤ r.1.1 ∧ r.1.1 ≤ 6) ∧ (0 ≤ r.1.2 ∧ r.1.2 ≤ 16) ∧ Wl (n + 3) r.2 := by
  have p39 : (2 : Nat) ^ 39 = 549755813888 := by decide
  have p40 : (2 : Nat) ^ 40 = 1099511627776 := by decide
  unfold l_few
  refine To.b (take_to h (by decide) (by decide) (by omega)) fun r ⟨r0, r1, hr⟩ => To.v (To.i (fun _ => ?_) fun _ => ?_)
  · refine To.b (take_to hr (by decide) (by decide) (by omega)) fun u ⟨u0, u1, hu⟩ => To.b (take_to hu (by decide) (by decide) (by omega)) fun v ⟨v0, v1, hv⟩ => .ok ⟨?_, ?_, hv⟩
    · dsimp only; omega
    · dsimp only; omega
  · refine To.b (take_to hr (by decide) (by decide) (by omega)) fun u ⟨u0, u1, hu⟩ => To.b (take_to hu (by decide) (by decide) (by omega)) fun v ⟨v0, v1, hv⟩ => .ok ⟨?_, ?_, hv⟩
    · dsimp only; omega
    · dsimp only; omega
theorem l26 : sx_32d10c7b.len = 26 := by decide +kernel
theorem popAt_ok {α : Type} {xs : List α} {i : Int} (h0 : 0 ≤ i) (h1 : i < xs.length) (hl : xs.length ≤ 100000) : ∃ y, popAt xs i = some (y, xs.eraseIdx i.toNat) ∧ y ∈ xs := by
  have b63 : (2 : Int) ^ 63 = 9223372036854775808 := by decide
  unfold popAt
  rw [if_pos ⟨by omega, by omega⟩]
  have e : seqIndex? i xs.length = some i.toNat := by
    unfold seqIndex?
    have e1 : (if i < 0 then i + (xs.length : Int) else i) = i := if_neg (by omega)
    simp only [e1]
    have e2 : (decide (0 ≤ i) && decide (i < (xs.length : Int))) = true := by simp [h0, h1]
    rw [if_pos e2]
  rw [e, Option.bind_some, List.getElem?_eq_getElem (by omega)]
  exact ⟨_, rfl, List.getElem_mem _⟩
end
section
set_option Elab.async false
set_option linter.all false
set_option maxRecDepth 100000
set_option synthInstance.maxSize 4000
set_option maxHeartbeats 4000000
open TL PySem L2
open Res
structure GsOk (d : Nat) (zs : List Tx) (gs : List Gap) : Prop where
  len : gs.length ≤ 16
  sm : ∀ g ∈ gs, Sm d zs g.2.2
section
variable {gs : List Gap} {zs : List Tx} {d : Nat}
end
end
section
set_option Elab.async false
set_option linter.all false
set_option maxRecDepth 100000
set_option synthInstance.maxSize 4000
set_option maxHeartbeats 4000000
open TL PySem L2
open Res
theorem app_lt21 (w r r' : List Int) {k k' : Int} (h : k < k') : w ++ k :: r < w ++ k' :: r' := by
  induction w with
  | nil => exact List.cons_lt_cons_iff.mpr (.inl h)
  | cons a w ih => exact List.cons_lt_cons_iff.mpr (.inr ⟨rfl, ih⟩)
theorem dlt_ints (x y : List Int) : PySem.W.dataLt (eV eI x) (eV eI y) = decide (x < y) := by
  show PySem.W.dataLt (.tuple (x.map .int)) (.tuple (y.map .int)) = _
  rw [PySem.W.dataLt_tuple]
  exact PySem.W.dataLt_ints x y
theorem ant_VI : AntE (eV eI) := fun x y h1 h2 => by
  rw [dlt_ints, decide_eq_false_iff_not] at h1 h2
  exact List.le_antisymm h2 h1
theorem rng_mem21 {lo : Int} {n : Nat} {k : Int} : k ∈ rangeL lo n ↔ lo ≤ k ∧ k < lo + n := by
  constructor
  · intro h; have := rangeL_mem h; omega
  · intro h
    unfold rangeL
    exact List.mem_map.mpr ⟨(k - lo).toNat, List.mem_range.mpr (by omega), by omega⟩
theorem rng_pw21 (lo : Int) (n : Nat) : (rangeL lo n).Pairwise (· < ·) := by
  unfold rangeL
  rw [List.pairwise_map]
  exact List.pairwise_lt_range.imp fun h => by omega
structure Hv21 (gs : List Gap) (w : List Int) (ks : List Int) (L : List (List Int)) : Prop where
  mem : ∀ c, c ∈ L ↔ Chn gs c ∧ ∃ k ∈ ks, ∃ r, c = w ++ k :: r
  pw : L.Pairwise (· < ·)
structure Bh21 (gs : List Gap) (w : List Int) (L : List (List Int)) : Prop where
  mem : ∀ c, c ∈ L ↔ Chn gs c ∧ ∃ r, c = w ++ r
  pw : L.Pairwise (· < ·)
section
variable {gs : List Gap}
theorem nd21 {L : List (List Int)} (h : L.Pairwise (· < ·)) : L.Nodup := h.imp fun h e => by
  rw [e] at h
  exact List.lt_irrefl _ h
theorem Hv21.more {w pre : List Int} {x : Int} {s z : List (List Int)} (h : Hv21 gs w pre s) (hx : ∀ k ∈ pre, k < x) (hz : Bh21 gs (w ++ [x]) z) : Hv21 gs w (pre ++ [x]) (s ++ z) where
  mem := fun c => by
    rw [List.mem_append, h.mem, hz.mem]
    constructor
    · rintro (⟨hc, k, hk, r, e⟩ | ⟨hc, r, e⟩)
      · exact ⟨hc, k, List.mem_append_left _ hk, r, e⟩
      · exact ⟨hc, x, by simp, r, by rw [e]; simp⟩
    · rintro ⟨hc, k, hk, r, e⟩
      rcases List.mem_append.mp hk with q | q
      · exact .inl ⟨hc, k, q, r, e⟩
      · rw [List.mem_singleton.mp q] at e
        exact .inr ⟨hc, r, by rw [e]; simp⟩
  pw := List.pairwise_append.mpr ⟨h.pw, hz.pw, fun a ha b hb => by
    obtain ⟨_, k, hk, r, e⟩ := (h.mem a).mp ha
    obtain ⟨_, r', e'⟩ := (hz.mem b).mp hb
    rw [e, e', List.append_assoc]
    exact app_lt21 w r r' (hx k hk)⟩
theorem Hv21.skip {w pre : List Int} {x : Int} {s : List (List Int)} (h : Hv21 gs w pre s) (no : ∀ r, ¬ Chn gs (w ++ x :: r)) : Hv21 gs w (pre ++ [x]) s where
  mem := fun c => by
    rw [h.mem]
    constructor
    · rintro ⟨hc, k, hk, r, e⟩
      exact ⟨hc, k, List.mem_append_left _ hk, r, e⟩
    · rintro ⟨hc, k, hk, r, e⟩
      rcases List.mem_append.mp hk with q | q
      · exact ⟨hc, k, q, r, e⟩
      · rw [List.mem_singleton.mp q] at e
        exact absurd (e ▸ hc) (no r)
  pw := h.pw
theorem Hv21.few {w pre : List Int} {s : List (List Int)} (hn : gs.length ≤ 16) (h : Hv21 gs w pre s) : s.length ≤ 65536 := chn_few (nd21 h.pw) (fun c hc => ((h.mem c).mp hc).1) hn
theorem behind_to (hn : gs.length ≤ 16) : ∀ (m : Nat) (w : List Int), Wy gs w → (∀ a r, w = a :: r → ∀ k ∈ r, a < k) → 17 ≤ w.length + m → (m_chains_behind_r m gs w).To (Bh21 gs w) := by
  intro m
  induction m with
  | zero => intro w hw _ hm; have := hw.len; omega
  | succ m ih =>
    intro w hw hl hm
    have hwl := hw.len
    obtain ⟨b, hb⟩ : ∃ b, w.getLast? = some b := ⟨w.getLast hw.ne, List.getLast?_eq_some_getLast hw.ne⟩
    obtain ⟨a, r, ew⟩ := List.exists_cons_of_ne_nil hw.ne
    have hbm : b ∈ w := List.mem_of_getLast? hb
    have ham : a ∈ w := by rw [ew]; exact List.mem_cons_self
    obtain ⟨gb, eb, lb, hib⟩ := hi_at (hw.val b hbm)
    obtain ⟨ga, ea, la, hia⟩ := hi_at (hw.val a ham)
    have e1 : atI w (-(1 : Int)) = some b := last_at w b hb
    have e2 : atI w (0 : Int) = some a := by rw [ew]; exact atI_hd a r
    have hav := hw.val a ham
    show (m_chains_behind_st (m_chains_behind_r m) gs w).To _
    unfold m_chains_behind_st
    refine To.o e1 (To.o eb (To.v (To.o e2 (To.o ea (To.i (fun hc => ?_) fun hc => ?_)))))
    · have hcl : gb.2.1 = ga.1 := of_decide_eq_true hc
      have ch : Chn gs w := ⟨⟨hw, a, b, by rw [ew]; rfl, hb, by rw [hib, la, hcl]⟩, hl⟩
      refine .ok ⟨fun c => ?_, List.pairwise_singleton _ _⟩
      rw [List.mem_singleton]
      constructor
      · rintro rfl; exact ⟨ch, [], by simp⟩
      · rintro ⟨hc', r', e⟩
        subst e
        have z := cl_stop hc'.cl.wy hw.ne hb (by rw [hib, hcl, ← la]; exact List.mem_map_of_mem ham)
        rw [z, List.append_nil]
    · have hcl : gb.2.1 ≠ ga.1 := fun z => by simp [z] at hc
      have open' : ¬ Chn gs w := fun ch => by
        obtain ⟨a', b', h1, h2, h3⟩ := ch.cl.cl
        rw [ew] at h1
        cases h1
        rw [hb] at h2
        cases h2
        rw [hib, la] at h3
        exact hcl (Option.some.inj h3)
      refine To.v (To.g (by omega) ?_)
      rw [lows_lc hw.val, calm_ok, bind_ok]
      dsimp only
      refine To.i (fun hm2 => ?_) fun hm2 => ?_
      · have notin : hi22 gs b ∉ w.map (lo22 gs) := fun z => by
          rw [hib, ← mem_lows, ← memD_iff] at z
          simp [z] at hm2
        refine To.o e2 ?_
        have r1 := rng22 (n := gs.length) (by omega)
        refine To.g ⟨by omega, by omega, r1.1, r1.2⟩ ?_
        have er : Int.toNat ((gs.length : Int) - (a + 1)) = gs.length - (a.toNat + 1) := by omega
        rw [er]
        refine To.loop (fun pre s => Hv21 gs w pre s) ⟨fun c => ⟨(fun h => by cases h), fun ⟨_, k, hk, _⟩ => by cases hk⟩, .nil⟩ ?_ ?_
        · intro pre x post s hp hs nx hnx
          have hx : x ∈ rangeL (a + 1) (gs.length - (a.toNat + 1)) := by rw [hp]; simp
          have hxr := rng_mem21.mp hx
          have hxv : 0 ≤ x ∧ x < gs.length := by omega
          obtain ⟨gx, ex, lx, hix⟩ := hi_at hxv
          have hpre : ∀ k ∈ pre, k < x := fun k hk => by
            have z := rng_pw21 (a + 1) (gs.length - (a.toNat + 1))
            rw [hp] at z
            exact (List.pairwise_append.mp z).2.2 k hk x List.mem_cons_self
          unfold m_chains_behind_b4
          refine To.o ex (To.i (fun hv => ?_) fun hv => ?_)
          · have hv' : gx.1 = gb.2.1 := of_decide_eq_true hv
            refine To.g (by simp; omega) (To.b (ih (w ++ [x]) (hw.more hb hxv (by rw [hib, lx, hv']) (by rw [lx, hv', ← hib]; exact notin)) (fun a' r' e k hk => ?_) (by rw [List.length_append]; simp; omega)) fun z hz => ?_)
            · rw [ew] at e
              obtain ⟨e3, e4⟩ := List.cons.inj e
              subst e3 e4
              rcases List.mem_append.mp hk with q | q
              · exact hl _ _ ew k q
              · rw [List.mem_singleton.mp q]; omega
            · have hs' := hs.more hpre hz
              have fw := hs'.few hn
              rw [List.length_append] at fw
              refine To.g (by omega) ?_
              unfold m_chains_behind_k3
              exact hnx _ hs'
          · unfold m_chains_behind_k3
            refine hnx _ (hs.skip fun r' hc' => ?_)
            have lk := hc'.cl.wy.lk
            obtain ⟨p, e⟩ := List.getLast?_eq_some_iff.mp hb
            rw [e, List.append_assoc] at lk
            have z := lk_mid lk
            rw [hib, lx] at z
            exact (decide_eq_false_iff_not.mp hv) (Option.some.inj z).symm
        · intro s hs
          unfold m_chains_behind_k2 m_chains_behind_k1
          refine .ok ⟨fun c => ?_, hs.pw⟩
          rw [hs.mem]
          constructor
          · rintro ⟨hc', k, _, r', e⟩
            exact ⟨hc', k :: r', e⟩
          · rintro ⟨hc', r', e⟩
            cases r' with
            | nil => rw [List.append_nil] at e; exact absurd (e ▸ hc') open'
            | cons k r' =>
              refine ⟨hc', k, rng_mem21.mpr ?_, r', e⟩
              have hk1 := hc'.cl.wy.val k (by rw [e]; simp)
              have hk2 := hc'.least a (r ++ k :: r') (by rw [e, ew]; rfl) k (by simp)
              omega
      · unfold m_chains_behind_k1
        refine .ok ⟨fun c => ⟨(fun h => by cases h), fun ⟨hc', r', e⟩ => ?_⟩, .nil⟩
        subst e
        have hin : hi22 gs b ∈ w.map (lo22 gs) := by
          rw [hib, ← mem_lows, ← memD_iff]
          simpa using hm2
        have z := cl_stop hc'.cl.wy hw.ne hb hin
        rw [z, List.append_nil] at hc'
        exact absurd hc' open'
theorem one21 {k : Int} (hk : 0 ≤ k ∧ k < gs.length) : Wy gs [k] := ⟨by simp, fun j hj => by rw [List.mem_singleton.mp hj]; exact hk, by simp, trivial⟩
theorem chains_of_to (hn : gs.length ≤ 16) : (m_chains_of gs).To fun L => (∀ c, c ∈ L ↔ Chn gs c) ∧ L.Pairwise (· < ·) := by
  unfold m_chains_of
  refine To.v (To.g (rng22 (by omega)) ?_)
  rw [Int.toNat_natCast]
  refine To.loop (fun pre s => Hv21 gs [] pre s) ⟨fun c => ⟨(fun h => by cases h), fun ⟨_, k, hk, _⟩ => by cases hk⟩, .nil⟩ ?_ ?_
  · intro pre x post s hp hs nx hnx
    have hx := mem_rng.mp (show x ∈ rangeL 0 gs.length by rw [hp]; simp)
    have hpre : ∀ k ∈ pre, k < x := fun k hk => by
      have z := rng_pw21 0 gs.length
      rw [hp] at z
      exact (List.pairwise_append.mp z).2.2 k hk x List.mem_cons_self
    unfold m_chains_of_b2 m_chains_behind
    refine To.b (behind_to hn 24 [x] (one21 hx) (fun a r e k hk => by cases e; cases hk) (by simp)) fun z hz => ?_
    have hs' := hs.more hpre hz
    have fw := hs'.few hn
    rw [List.length_append] at fw
    exact To.g (by omega) (hnx _ hs')
  · intro s hs
    unfold m_chains_of_k1
    refine .ok ⟨fun c => ?_, hs.pw⟩
    rw [hs.mem]
    constructor
    · exact fun h => h.1
    · intro hc
      obtain ⟨a, r, e⟩ := List.exists_cons_of_ne_nil hc.cl.wy.ne
      exact ⟨hc, a, mem_rng.mpr (hc.cl.wy.val a (by rw [e]; simp)), r, e⟩
theorem chains_eq21 (hn : gs.length ≤ 16) : ∃ ks, l_chains gs = .ok ks ∧ m_chains_of gs = .ok ks ∧ ks.length ≤ 65536 ∧ (∀ c, c ∈ ks ↔ Chn gs c) ∧ ks.Pairwise (· < ·) := by
  obtain ⟨ks, e, nd, hk⟩ := l_chains_eq hn
  obtain ⟨L, eL, hL, pw⟩ := chains_of_to hn
  have es : L = sortG (eV eI) ks := sortG_is ant_VI (pw.imp fun {a b} h => by
    rw [dlt_ints, decide_eq_false_iff_not]
    exact fun z => List.lt_irrefl _ (List.lt_trans h z)) (perm_of_mem (nd21 pw) nd fun c => by rw [hL, hk])
  exact ⟨L, by rw [e, es], eL, chn_few (nd21 pw) (fun c hc => (hL c).mp hc) hn, hL, pw⟩
end
end
section
set_option Elab.async false
set_option linter.all false
set_option maxRecDepth 100000
set_option synthInstance.maxSize 4000
set_option maxHeartbeats 4000000
open TL PySem L2
open Res
theorem words21_to {n : Nat} {w : List Int} (h : Wl n w) (hn : n ≤ 2 ^ 38) : (l_words_k21 w 6).To fun r => r.1.length = 6 ∧ Wl (n + 20) r.2 := by
  have p38 : (2 : Nat) ^ 38 = 274877906944 := by decide
  have p40 : (2 : Nat) ^ 40 = 1099511627776 := by decide
  have b62 : (2 : Int) ^ 62 = 4611686018427387904 := by decide
  unfold l_words_k21
  refine To.v (To.g ⟨by omega, by omega⟩ (To.g (by rw [rangeL_len]; decide) ?_))
  refine To.b (To.calm (To.lc (fun k w => Wl k w) (fun t : Tx => t.len = 1 ∧ ∃ c, t.s = ⟨#[c]⟩ ∧ 97 ≤ c ∧ c < 123) (n := n) h fun x hx k s k1 k2 hk => ?_)) fun z ⟨z1, z2, z3⟩ => ?_
  · refine To.b (To.mE (take_to hk (by decide) (by decide) (by rw [rangeL_len] at k2; omega))) fun v ⟨v0, v1, hv⟩ => ?_
    obtain ⟨c, hc, d, e, q0, q1⟩ := abc_at v0 v1
    exact To.o hc (.ok ⟨⟨c, rfl, by rw [Tx.len_l, e]; rfl, d, e, q0, q1⟩, hv⟩)
  · have l0 : sx_da39a3ee.len = 0 := by decide +kernel
    have sl := sum_ones' (xs := z.1) fun x hx => (z2 x hx).1
    rw [rangeL_len] at z1 z3
    have z1' : z.1.length = 8 := z1
    refine To.g (joinC_of l0 (by omega)) (To.v ?_)
    have bl : (Tx.join sx_da39a3ee z.1).len = 8 := by rw [Tx.join_len l0, sl, z1']
    have fa : ∀ c ∈ (Tx.join sx_da39a3ee z.1).s.cps.toList, 97 ≤ c ∧ c < 123 := join_abc (by decide +kernel) z.1 fun t ht => by
      obtain ⟨_, c, e, h1, h2⟩ := z2 t ht
      rw [e]
      intro c' h'
      simp at h'
      subst h'
      exact ⟨h1, h2⟩
    generalize Tx.join sx_da39a3ee z.1 = base at bl fa
    have z3' : Wl (n + 8) z.2 := z3
    refine To.b (take_to z3' (by decide) (by decide) (by omega)) fun r ⟨r0, r1, hr⟩ => To.v ?_
    dsimp only at hr ⊢
    refine To.i (fun hc => ?_) fun hc => ?_
    · obtain ⟨c, hc7, _, d, hd, ed⟩ := Tx.at_ok (t := base) (i := 7) (by omega) (by rw [bl]; decide) (by rw [bl]; decide)
      have dd := fa d (List.mem_of_getElem? hd)
      have ix := ix_of (c := c) (j := d - 97) (by omega) (by rw [ed]; congr 3; omega)
      refine To.o hc7 (To.o ix (To.v (To.v (To.g ⟨by omega, by omega⟩ ?_))))
      refine To.loop (fun pre (s : List Tx) => s.length = pre.length) rfl ?_ ?_
      · intro pre x post s hp hs nx hnx
        have hx' := rangeL_mem (show x ∈ rangeL 0 (Int.toNat (6 : Int)) by rw [hp]; simp)
        have hx2 : 0 ≤ x ∧ x < 6 := ⟨hx'.1, by have := hx'.2; simpa using this⟩
        have pl : pre.length < 6 := by
          have := congrArg List.length hp
          rw [rangeL_len, List.length_append, List.length_cons] at this
          have e6 : Int.toNat (6 : Int) = 6 := rfl
          omega
        unfold l_words_k21_b2
        refine To.g (cmulw 3 3 (by decide) (by omega)) (To.g (by decide) ?_)
        have b := mod_ok (a := (((d - 97 : Nat) : Int)) + 3 * x) (m := 26) (by decide)
        obtain ⟨c2, hc2, hl2, _⟩ := Tx.at_ok (t := sx_32d10c7b) b.1 (by rw [l26]; exact b.2) (by rw [l26]; decide)
        refine To.o hc2 (To.v (To.g (cmulw 3 3 (by decide) (by omega)) (To.g (by decide) ?_)))
        have g1 := cut_len22 base none (some (Int.fmod (r.1 + 3 * x) 8))
        dsimp only
        refine To.g (by omega) (To.g (by omega) (To.g (by omega) ?_))
        exact hnx _ (by simp [hs])
      · intro s hs
        unfold l_words_k21_k1
        rw [rangeL_len] at hs
        exact .ok ⟨hs, hr.up (by omega)⟩
    · refine To.b (take_to hr (by decide) (by decide) (by omega)) fun q ⟨q0, q1, hq⟩ => To.v ?_
      dsimp only at hq ⊢
      refine To.b (take_to hq (by omega) (by omega) (by omega)) fun u ⟨u0, u1, hu⟩ => To.v ?_
      dsimp only at hu ⊢
      refine To.b (take_to hu (by decide) (by decide) (by omega)) fun v ⟨v0, v1, hv⟩ => To.v ?_
      refine To.g ⟨by omega, by omega⟩ (To.g (by rw [rangeL_len]; decide) ?_)
      refine To.b (To.calm (To.lc (fun _ _ => True) (fun t : Tx => t.len = 1) (n := 0) trivial fun x hx k s k1 k2 hk => ?_)) fun y ⟨y1, y2, y3⟩ => To.v ?_
      · have hx' := rangeL_mem hx
        have hx2 : 0 ≤ x ∧ x < 6 := ⟨hx'.1, by have := hx'.2; simpa using this⟩
        refine To.g (cmulw 3 3 (by decide) (by omega)) (To.g (by decide) ?_)
        have b := mod_ok (a := v.1 + 3 * x) (m := 26) (by decide)
        obtain ⟨c, hc, hc1, _⟩ := Tx.at_ok (t := sx_32d10c7b) b.1 (by rw [l26]; exact b.2) (by rw [l26]; decide)
        exact To.o hc (.ok ⟨⟨_, rfl, hc1⟩, trivial⟩)
      · rw [rangeL_len] at y1
        have y1' : y.1.length = 6 := y1
        refine To.g (by omega) ?_
        refine To.b (To.calm (To.lc (fun _ _ => True) (fun _ : Tx => True) (n := 0) trivial fun x hx k s k1 k2 hk => ?_)) fun y' ⟨y1b, y2', y3'⟩ => ?_
        · have lx := y2 x hx
          have g1 := cut_len22 base none (some u.1)
          have g2 := cut_len22 base (some (u.1 + 1)) (some (1 + q.1))
          exact To.g (by omega) (To.g (by omega) (To.g (by omega) (To.g (by rw [Tx.len_app]; omega) (.ok ⟨⟨_, rfl, trivial⟩, trivial⟩))))
        · refine .ok ⟨?_, hv.up (by omega)⟩
          have e : y'.1.length = y.1.length := y1b
          show y'.1.length = 6
          omega
theorem nodes21_to {n : Nat} {w : List Int} {m : Int} (h : Wl n w) (hn : n ≤ 2 ^ 37) (m0 : 0 ≤ m) (m1 : m ≤ 6) : (l_nodes_k21 w m).To fun r => (r.1.length : Int) = m ∧ Wl (n + 30) r.2 := by
  have p37 : (2 : Nat) ^ 37 = 137438953472 := by decide
  have p38 : (2 : Nat) ^ 38 = 274877906944 := by decide
  have p40 : (2 : Nat) ^ 40 = 1099511627776 := by decide
  have b62 : (2 : Int) ^ 62 = 4611686018427387904 := by decide
  unfold l_nodes_k21
  refine To.v (To.b (words21_to h (by omega)) fun z ⟨z1, z2⟩ => ?_)
  refine To.loop (fun pre (s : List Nod × List Int) => s.1.length = 2 * pre.length ∧ Wl (n + 20) s.2) ⟨rfl, z2⟩ ?_ ?_
  · rintro pre x post ⟨l, u⟩ hp ⟨i1, i2⟩ nx hnx
    have pl : pre.length < 6 := by
      rw [← z1, hp]; simp
    dsimp only at i1 i2
    unfold l_nodes_k21_b2
    dsimp only
    refine To.g (by rw [i1]; show _ + 2 ≤ _; omega) ?_
    exact hnx _ ⟨by show (l ++ [_, _]).length = _; simp [i1]; omega, i2⟩
  · rintro ⟨l, u⟩ ⟨i1, i2⟩
    dsimp only at i1 i2
    have il : l.length = 12 := by rw [i1, z1]
    unfold l_nodes_k21_k1
    dsimp only
    refine To.g ⟨by omega, by omega⟩ (To.g (by rw [rangeL_len]; omega) ?_)
    refine To.b (To.calm (To.lc (fun k (s : List Nod × List Int) => s.1.length = 12 - k ∧ Wl (n + 20 + k) s.2) (fun _ : Nod => True) (n := 0) ⟨il, i2⟩ fun x hx k s k1 k2 hk => ?_)) fun y ⟨y1, y2, y3⟩ => ?_
    · obtain ⟨l', u'⟩ := s
      obtain ⟨h1, h2⟩ := hk
      dsimp only at h1 h2 ⊢
      rw [rangeL_len] at k2
      refine To.b (To.mE (take_to h2 (by omega) (by omega) (by omega))) fun v ⟨v0, v1, hv⟩ => ?_
      obtain ⟨q, eq, _⟩ := popAt_ok v0 v1 (by omega)
      refine To.o eq (.ok ⟨⟨q, rfl, trivial⟩, ?_, hv⟩)
      show (l'.eraseIdx v.1.toNat).length = _
      rw [List.length_eraseIdx, if_pos (by omega)]
      omega
    · rw [rangeL_len] at y1 y3
      refine .ok ⟨?_, y3.2.up (by omega)⟩
      show (y.1.length : Int) = m
      rw [y1]; omega
theorem gaps21_to {n : Nat} {w : List Int} (h : Wl n w) (hn : n ≤ 2 ^ 36) : (l_gaps_k21 w).To fun r => r.1.length ≤ 16 := by
  have p36 : (2 : Nat) ^ 36 = 68719476736 := by decide
  have p37 : (2 : Nat) ^ 37 = 137438953472 := by decide
  have p38 : (2 : Nat) ^ 38 = 274877906944 := by decide
  have p39 : (2 : Nat) ^ 39 = 549755813888 := by decide
  have p40 : (2 : Nat) ^ 40 = 1099511627776 := by decide
  have b62 : (2 : Int) ^ 62 = 4611686018427387904 := by decide
  unfold l_gaps_k21
  refine To.b (few_to h (by omega)) fun u ⟨⟨u0, u1⟩, ⟨u2, u3⟩, hu⟩ => To.v ?_
  refine To.b (nodes21_to hu (by omega) (by dsimp only; omega) (by dsimp only; omega)) fun v ⟨v1, hv⟩ => To.v (To.v (To.g ?_ ?_))
  · dsimp only; exact ⟨by omega, by omega⟩
  dsimp only at v1 hv ⊢
  refine To.loop (fun pre (s : List Gap × List Int) => s.1.length = pre.length ∧ Wl (n + 100 + 10 * pre.length) s.2) ⟨rfl, hv.up (by omega)⟩ ?_ ?_
  · rintro pre x post ⟨l, q⟩ hp ⟨i1, i2⟩ nx hnx
    dsimp only at i1 i2
    have pl : pre.length < 16 := by
      have := congrArg List.length hp
      rw [rangeL_len, List.length_append, List.length_cons] at this
      omega
    have fin : ∀ (a b : Nod) (q : List Int) (m : Nat), Wl m q → m ≤ n + 100 + 10 * pre.length + 6 → (l_gaps_k21_k2 (l, q) nx (a, b, q)).To fun r => r.1.length ≤ 16 := fun a b q m hq hm => by
      unfold l_gaps_k21_k2
      dsimp only
      refine To.b (number11_to hq (by omega)) fun z ⟨_, hz⟩ => To.g (by omega) ?_
      exact hnx _ ⟨by show (l ++ [_]).length = _; simp [i1], hz.up (by simp; omega)⟩
    unfold l_gaps_k21_b3
    dsimp only
    refine To.b (take_to i2 (by omega) (by omega) (by omega)) fun a ⟨a0, a1, ha⟩ => ?_
    obtain ⟨g1, _, e1⟩ := atI_mem' (xs := v.1) (i := a.1) a0 (by omega)
    refine To.o e1 (To.v (To.b (take_to ha (by omega) (by omega) (by omega)) fun b ⟨b0, b1, hb⟩ => ?_))
    obtain ⟨g2, _, e2⟩ := atI_mem' (xs := v.1) (i := b.1) b0 (by omega)
    refine To.o e2 (To.v ?_)
    by_cases hl : l = []
    · subst hl
      rw [if_neg (by simp)]
      refine To.v (To.v ?_)
      rw [if_neg (by simp)]
      have z := fin g1 g2 b.2 _ hb (by omega)
      unfold l_gaps_k21_k2 at z ⊢
      exact z
    · rw [if_pos (by simp [hl])]
      refine To.b (P := fun c => Wl (n + 100 + 10 * pre.length + 3) c.2) ?_ fun c hc => To.v (To.i (fun _ => ?_) fun _ => ?_)
      · exact To.b (take_to hb (by decide) (by decide) (by omega)) fun b ⟨b0, b1, hb⟩ => .ok (hb.up (by omega))
      · have ll : 0 < l.length := List.length_pos_iff.mpr hl
        refine To.b (take_to hc (by omega) (by omega) (by omega)) fun d ⟨d0, d1, hd⟩ => ?_
        obtain ⟨g, _, eg⟩ := atI_mem' (xs := l) (i := d.1) d0 (by omega)
        refine To.o eg (To.v ?_)
        have z := fin g.2.1 g.1 d.2 _ hd (by omega)
        unfold l_gaps_k21_k2 at z ⊢
        exact z
      · have z := fin g1 g2 c.2 _ hc (by omega)
        unfold l_gaps_k21_k2 at z ⊢
        exact z
  · rintro ⟨l, q⟩ ⟨i1, i2⟩
    unfold l_gaps_k21_k1
    refine .ok ?_
    dsimp only at i1 ⊢
    rw [i1, rangeL_len]
    omega
theorem ant_n21 : AntE (e2 eS eS) := ant_2 ant_S ant_S so_S so_S enc_S enc_S
theorem nodes_of_eq {gs : List Gap} (hn : gs.length ≤ 31) : m_nodes_of gs = .ok (sortG (e2 eS eS) (uniq (gs.flatMap fun g => [g.1, g.2.1]))) := by
  have key := loop_foldI (ε := Unit) (body := m_nodes_of_b2) (k := m_nodes_of_k1) (fun s (g : Gap) => s ++ [g.1, g.2.1]) (fun pre s => s = pre.flatMap (fun g => [g.1, g.2.1]) ∧ s.length = 2 * pre.length) (xs := gs) (s0 := []) ⟨rfl, rfl⟩ fun pre x post s hp ⟨h1, h2⟩ => by
    have pl : pre.length < 31 := by
      have := congrArg List.length hp
      rw [List.length_append, List.length_cons] at this
      omega
    refine ⟨fun nx => ?_, ?_, ?_⟩
    · unfold m_nodes_of_b2
      rw [grd_t (by show s.length + 2 ≤ _; omega), bind_ok]
    · rw [h1, List.flatMap_append]; simp
    · simp [h2]; omega
  obtain ⟨h1, h2, h3⟩ := key
  unfold m_nodes_of
  rw [bind_ok, h1, h2]
  unfold m_nodes_of_k1
  rw [grd_t (by rw [← h2, h3]; omega), bind_ok]
theorem nodes_same21 (gs : List Gap) : sortG (e2 eS eS) (uniq (gs.filterMap (fun g => some g.1) ++ gs.filterMap fun g => some g.2.1)) = sortG (e2 eS eS) (uniq (gs.flatMap fun g => [g.1, g.2.1])) :=
  sortG_of ant_n21 (perm_of_mem (nodup_uniq _) (nodup_uniq _) fun x => by
    rw [mem_uniq, mem_uniq, List.mem_append, List.mem_filterMap, List.mem_filterMap, List.mem_flatMap]
    constructor
    · rintro (⟨g, hg, e⟩ | ⟨g, hg, e⟩)
      · cases e; exact ⟨g, hg, by simp⟩
      · cases e; exact ⟨g, hg, by simp⟩
    · rintro ⟨g, hg, e⟩
      rcases List.mem_cons.mp e with z | z
      · exact .inl ⟨g, hg, by rw [z]⟩
      · rw [List.mem_singleton] at z
        exact .inr ⟨g, hg, by rw [z]⟩)
theorem are_chains21 {L : List (List Int)} (h : ∀ c ∈ L, c.length ≤ 100000) : l_are_chains L = .ok true := by
  have key : (l_are_chains L).To fun b => b = true := by
    unfold l_are_chains
    refine To.loop (fun _ _ => True) trivial ?_ fun s _ => .ok rfl
    intro pre x post s hp _ nx hnx
    unfold l_are_chains_b2
    rw [if_neg (by decide), grd_t (h x (by rw [hp]; simp)), bind_ok, lc_map (fun _ => some true) () _ fun x _ => rfl, calm_ok, bind_ok, bind_ok]
    have e : (x.filterMap fun _ => some true) = x.map fun _ => true := by
      show List.filterMap (some ∘ fun _ => true) _ = _
      rw [List.filterMap_eq_map]
    dsimp only
    rw [e, if_neg (by simp)]
    exact hnx _ trivial
  obtain ⟨v, e, rfl⟩ := key
  exact e
theorem chains_nil21 : m_chains_of [] = .ok [] := by
  obtain ⟨ks, _, e, _, hk, _⟩ := chains_eq21 (gs := []) (by simp)
  cases ks with
  | nil => exact e
  | cons c ks =>
    have h0 : c.length ≤ 0 := ((hk c).mp List.mem_cons_self).cl.wy.len
    have z := ((hk c).mp List.mem_cons_self).cl.wy.pos
    omega
theorem l_law_k21_true : ∀ ns : List Int, ns.length ≤ 63 → l_law_k21 ns = .ok true := by
  intro ns hns
  have key : (l_law_k21 ns).To fun b => b = true := by
    unfold l_law_k21
    have b62 : (2 : Int) ^ 62 = 4611686018427387904 := by decide
    generalize hM : (if (if (4 : Int) < (List.length ns : Int) then (4 : Int) else (List.length ns : Int)) > (1 : Int) then (if (4 : Int) < (List.length ns : Int) then (4 : Int) else (List.length ns : Int)) else (1 : Int)) = M
    have M0 : 1 ≤ M ∧ M ≤ 4 := by
      rw [← hM]
      constructor
      · split <;> omega
      · split <;> split <;> omega
    refine To.g ⟨by omega, by omega⟩ ?_
    refine To.loop (fun _ _ => True) trivial ?_ fun s _ => ?_
    · intro pre x post s hp _ nx hnx
      have hx : 0 ≤ x ∧ x < 4 := by
        have := mem_rng.mp (show x ∈ rangeL 0 (Int.toNat M) by rw [hp]; simp)
        omega
      unfold l_law_k21_b4
      refine To.b (well_to hx.1 (by omega)) fun w hw => To.b (To.mE (gaps21_to hw (by decide))) fun r h1 => To.v (To.g (by omega) ?_)
      rw [lc_map (fun g : Gap => some g.1) () _ fun x _ => rfl, calm_ok, bind_ok]
      refine To.g (by omega) ?_
      dsimp only
      rw [lc_map (fun g : Gap => some g.2.1) () _ fun x _ => rfl, calm_ok, bind_ok]
      have l1 : (r.1.filterMap fun g : Gap => some g.1).length ≤ r.1.length := List.length_filterMap_le _ _
      have l2 : (r.1.filterMap fun g : Gap => some g.2.1).length ≤ r.1.length := List.length_filterMap_le _ _
      refine To.g (by dsimp only; omega) (To.g (by dsimp only; rw [List.length_append]; omega) (To.v ?_))
      dsimp only
      obtain ⟨ks, e1, e2, lk, hk, _⟩ := chains_eq21 h1
      rw [e1, bind_ok]
      refine To.v (To.v (To.g ⟨by omega, by omega⟩ ?_))
      refine To.loop (fun _ _ => True) trivial ?_ fun s _ => ?_
      · intro pre2 c post2 s2 hp2 _ nx2 hnx2
        unfold l_law_k21_b3
        rw [nodes_of_eq (by omega), bind_ok, bind_ok, e2, bind_ok, bind_ok, nodes_same21, if_neg (by decide), if_neg (by simp), are_chains21 fun c hc => by
          have := ((hk c).mp hc).cl.wy.len
          omega]
        rw [show Res.mapE (fun _ => ()) (.ok true : Res Unit Bool) = .ok true from rfl, bind_ok, bind_ok, bind_ok, if_neg (by simp)]
        exact To.v (To.v (hnx2 _ trivial))
      · unfold l_law_k21_k2
        rw [if_neg (by simp)]
        exact hnx _ trivial
    · unfold l_law_k21_k1
      have e0 : sortG (e2 eS eS) (uniq (([] : List Gap).flatMap fun g => [g.1, g.2.1])) = [] := by
        have z := (sortG_perm (e2 eS eS) (uniq (([] : List Gap).flatMap fun g => [g.1, g.2.1]))).length_eq
        have : uniq (([] : List Gap).flatMap fun g => [g.1, g.2.1]) = [] := rfl
        rw [this] at z ⊢
        exact List.length_eq_zero_iff.mp z
      rw [nodes_of_eq (by simp), bind_ok, e0, if_pos (by simp), chains_nil21, bind_ok, bind_ok]
      exact .ok (by simp)
  obtain ⟨v, e, rfl⟩ := key
  exact e
end
set_option Elab.async false
set_option linter.all false
set_option maxRecDepth 100000
set_option synthInstance.maxSize 4000
set_option maxHeartbeats 4000000
open PySem PySem.Spec L2 TL
namespace N21
def top (i : Nat) : Stmt := PySem.Challenge.pw_fitwhatever_k21_chains.main.body.getD i (.Pass ⟨0, 0, 0, 0⟩)
abbrev s_nodes_of : Stmt := top 1
abbrev N_nodes_of : List Str := ["gaps", "nodes", "low", "high", "apart"]
theorem sc_nodes_of : FnScope N_nodes_of ["gaps"] (defScope s_nodes_of) := ⟨rfl, rfl, rfl, by decide +kernel, rfl, by decide +kernel, by decide +kernel⟩
abbrev s_chains_behind : Stmt := top 2
abbrev N_chains_behind : List Str := ["gaps", "way", "here", "found", "k"]
theorem sc_chains_behind : FnScope N_chains_behind ["gaps", "way"] (defScope s_chains_behind) := ⟨rfl, rfl, rfl, by decide +kernel, rfl, by decide +kernel, by decide +kernel⟩
abbrev s_chains_of : Stmt := top 3
abbrev N_chains_of : List Str := ["gaps", "found", "k"]
theorem sc_chains_of : FnScope N_chains_of ["gaps"] (defScope s_chains_of) := ⟨rfl, rfl, rfl, by decide +kernel, rfl, by decide +kernel, by decide +kernel⟩
abbrev s__law_well : Stmt := top 5
abbrev N__law_well : List Str := ["_law_script", "_law_k", "_law_cell"]
theorem sc__law_well : FnScope N__law_well ["_law_script", "_law_k"] (defScope s__law_well) := ⟨rfl, rfl, rfl, by decide +kernel, rfl, by decide +kernel, by decide +kernel⟩
abbrev s__law_take : Stmt := top 6
abbrev N__law_take : List Str := ["_law_well_here", "_law_many", "_law_digit", "_law_turn", "_law_number_here"]
theorem sc__law_take : FnScope N__law_take ["_law_well_here", "_law_many"] (defScope s__law_take) := ⟨rfl, rfl, rfl, by decide +kernel, rfl, by decide +kernel, by decide +kernel⟩
abbrev s__law_common : Stmt := top 7
abbrev N__law_common : List Str := ["_law_one", "_law_other"]
theorem sc__law_common : FnScope N__law_common ["_law_one", "_law_other"] (defScope s__law_common) := ⟨rfl, rfl, rfl, by decide +kernel, rfl, by decide +kernel, by decide +kernel⟩
abbrev s__law_num : Stmt := top 8
abbrev N__law_num : List Str := ["_law_top", "_law_bottom", "_law_by"]
theorem sc__law_num : FnScope N__law_num ["_law_top", "_law_bottom"] (defScope s__law_num) := ⟨rfl, rfl, rfl, by decide +kernel, rfl, by decide +kernel, by decide +kernel⟩
abbrev s__law_number : Stmt := top 13
abbrev N__law_number : List Str := ["_law_well_here", "_law_way"]
theorem sc__law_number : FnScope N__law_number ["_law_well_here"] (defScope s__law_number) := ⟨rfl, rfl, rfl, by decide +kernel, rfl, by decide +kernel, by decide +kernel⟩
abbrev s__law_words : Stmt := top 14
abbrev N__law_words : List Str := ["_law_well_here", "_law_many", "_law_letters", "_law_base", "_law_k", "_law_start", "_law_at", "_law_words_here", "_law_letter", "_law_long", "_law_spot", "_law_first", "_law_some"]
theorem sc__law_words : FnScope N__law_words ["_law_well_here", "_law_many"] (defScope s__law_words) := ⟨rfl, rfl, rfl, by decide +kernel, rfl, by decide +kernel, by decide +kernel⟩
abbrev s__law_nodes : Stmt := top 15
abbrev N__law_nodes : List Str := ["_law_well_here", "_law_many", "_law_left", "_law_word", "_law_k"]
theorem sc__law_nodes : FnScope N__law_nodes ["_law_well_here", "_law_many"] (defScope s__law_nodes) := ⟨rfl, rfl, rfl, by decide +kernel, rfl, by decide +kernel, by decide +kernel⟩
abbrev s__law_few : Stmt := top 16
abbrev N__law_few : List Str := ["_law_well_here"]
theorem sc__law_few : FnScope N__law_few ["_law_well_here"] (defScope s__law_few) := ⟨rfl, rfl, rfl, by decide +kernel, rfl, by decide +kernel, by decide +kernel⟩
abbrev s__law_chains : Stmt := top 17
abbrev N__law_chains : List Str := ["_law_gaps_here", "_law_found", "_law_ways", "_law_k", "_law_way", "_law_here", "_law_at"]
theorem sc__law_chains : FnScope N__law_chains ["_law_gaps_here"] (defScope s__law_chains) := ⟨rfl, rfl, rfl, by decide +kernel, rfl, by decide +kernel, by decide +kernel⟩
abbrev s__law_gaps : Stmt := top 18
abbrev N__law_gaps : List Str := ["_law_well_here", "_law_nodes_here", "_law_many", "_law_some", "_law_gaps_here", "_law_k", "_law_low", "_law_high"]
theorem sc__law_gaps : FnScope N__law_gaps ["_law_well_here"] (defScope s__law_gaps) := ⟨rfl, rfl, rfl, by decide +kernel, rfl, by decide +kernel, by decide +kernel⟩
abbrev s__law_are_chains : Stmt := top 19
abbrev N__law_are_chains : List Str := ["_law_found", "_law_chain", "_law_k"]
theorem sc__law_are_chains : FnScope N__law_are_chains ["_law_found"] (defScope s__law_are_chains) := ⟨rfl, rfl, rfl, by decide +kernel, rfl, by decide +kernel, by decide +kernel⟩
abbrev s_law : Stmt := top 20
abbrev N_law : List Str := ["_law_script", "_law_k", "_law_gaps_here", "_law_nodes_here", "_law_gap", "_law_due", "_law_handed", "_law_turn", "_law_told", "_law_found"]
theorem sc_law : FnScope N_law ["_law_script"] (defScope s_law) := ⟨rfl, rfl, rfl, by decide +kernel, rfl, by decide +kernel, by decide +kernel⟩
def sp_nodes_of (K : PySem.W.Frag) (ω : World) : Sp := spP K (τ := (List ((Tx × Tx) × (Tx × Tx) × (Rat × (List (Tx × Rat))))) × Unit) (fun t => [(LT K (T3 K (T2 K (tD K eS) (tD K eS)) (T2 K (tD K eS) (tD K eS)) (T2 K (tD K eQ) (VP K (T2 K (tD K eS) (tD K eQ)))))) t.1]) (fun t => m_nodes_of t.1) (fun r => .new ((OLT (T2 K (tD K eS) (tD K eS))) r))
abbrev w_nodes_of (K : PySem.W.Frag) (ω : World) (X : XK) (Q : VK) (D0 : Own) : Wish K Unit ((List (Tx × Tx))) := dwish K X Q (fun r => .new ((OLT (T2 K (tD K eS) (tD K eS))) r)) (fun _ => D0) (fun _ : Unit => D0)
def sp_chains_behind_r (m : Nat) (K : PySem.W.Frag) (ω : World) : Sp := spP K (τ := (List ((Tx × Tx) × (Tx × Tx) × (Rat × (List (Tx × Rat))))) × (List Int) × Unit) (fun t => [(LT K (T3 K (T2 K (tD K eS) (tD K eS)) (T2 K (tD K eS) (tD K eS)) (T2 K (tD K eQ) (VP K (T2 K (tD K eS) (tD K eQ)))))) t.1, (LT K (tD K eI)) t.2.1]) (fun t => m_chains_behind_r m t.1 t.2.1) (fun r => .ok ((LT K (VP K (tD K eI))) r))
def sp_chains_behind (K : PySem.W.Frag) (ω : World) : Sp := sp_chains_behind_r 24 K ω
abbrev w_chains_behind (K : PySem.W.Frag) (ω : World) (X : XK) (Q : VK) (D0 : Own) : Wish K Unit ((List (List Int))) := dwish K X Q (fun r => .ok ((LT K (VP K (tD K eI))) r)) (fun _ => D0) (fun _ : Unit => D0)
def sp_chains_of (K : PySem.W.Frag) (ω : World) : Sp := spP K (τ := (List ((Tx × Tx) × (Tx × Tx) × (Rat × (List (Tx × Rat))))) × Unit) (fun t => [(LT K (T3 K (T2 K (tD K eS) (tD K eS)) (T2 K (tD K eS) (tD K eS)) (T2 K (tD K eQ) (VP K (T2 K (tD K eS) (tD K eQ)))))) t.1]) (fun t => m_chains_of t.1) (fun r => .new ((OLT (VP K (tD K eI))) r))
abbrev w_chains_of (K : PySem.W.Frag) (ω : World) (X : XK) (Q : VK) (D0 : Own) : Wish K Unit ((List (List Int))) := dwish K X Q (fun r => .new ((OLT (VP K (tD K eI))) r)) (fun _ => D0) (fun _ : Unit => D0)
def sp__law_well (K : PySem.W.Frag) (ω : World) : Sp := spP K (τ := (List Int) × Int × Unit) (fun t => [(LT K (tD K eI)) t.1, (tD K eI) t.2.1]) (fun t => l_well t.1 t.2.1) (fun r => .new ((OLT (tD K eI)) r))
abbrev w__law_well (K : PySem.W.Frag) (ω : World) (X : XK) (Q : VK) (D0 : Own) : Wish K Unit ((List Int)) := dwish K X Q (fun r => .new ((OLT (tD K eI)) r)) (fun _ => D0) (fun _ : Unit => D0)
def sp__law_take (K : PySem.W.Frag) (ω : World) : Sp := spC K (τ := Unit × Int × Unit) (OLT (tD K eI)) (fun a t => [Is (.ref a), (tD K eI) t.2.1]) (fun t y => l_take y t.2.1) (fun r => .ok ((tD K eI) r))
abbrev w__law_take (K : PySem.W.Frag) (ω : World) (X : XK) (Q : VK) (Dp : (List Int) → Own) : Wish K (List Int) (Int × (List Int)) := dwish K X Q (fun r : Int × (List Int) => (fun r => .ok ((tD K eI) r)) r.1) (fun r => Dp r.2) Dp
def sp__law_common (K : PySem.W.Frag) (ω : World) : Sp := spP K (τ := Int × Int × Unit) (fun t => [(tD K eI) t.1, (tD K eI) t.2.1]) (fun t => l_common t.1 t.2.1) (fun r => .ok ((tD K eI) r))
abbrev w__law_common (K : PySem.W.Frag) (ω : World) (X : XK) (Q : VK) (D0 : Own) : Wish K Unit (Int) := dwish K X Q (fun r => .ok ((tD K eI) r)) (fun _ => D0) (fun _ : Unit => D0)
def sp__law_num (K : PySem.W.Frag) (ω : World) : Sp := spP K (τ := Int × Int × Unit) (fun t => [(tD K eI) t.1, (tD K eI) t.2.1]) (fun t => l_num t.1 t.2.1) (fun r => .ok ((tD K eQ) r))
abbrev w__law_num (K : PySem.W.Frag) (ω : World) (X : XK) (Q : VK) (D0 : Own) : Wish K Unit (Rat) := dwish K X Q (fun r => .ok ((tD K eQ) r)) (fun _ => D0) (fun _ : Unit => D0)
def sp__law_number (K : PySem.W.Frag) (ω : World) : Sp := spC K (τ := Unit × Unit) (OLT (tD K eI)) (fun a t => [Is (.ref a)]) (fun t y => l_number_k11 y) (fun r => .ok ((tD K eQ) r))
abbrev w__law_number (K : PySem.W.Frag) (ω : World) (X : XK) (Q : VK) (Dp : (List Int) → Own) : Wish K (List Int) (Rat × (List Int)) := dwish K X Q (fun r : Rat × (List Int) => (fun r => .ok ((tD K eQ) r)) r.1) (fun r => Dp r.2) Dp
def sp__law_words (K : PySem.W.Frag) (ω : World) : Sp := spC K (τ := Unit × Int × Unit) (OLT (tD K eI)) (fun a t => [Is (.ref a), (tD K eI) t.2.1]) (fun t y => l_words_k21 y t.2.1) (fun r => .ok ((LT K (tD K eS)) r))
abbrev w__law_words (K : PySem.W.Frag) (ω : World) (X : XK) (Q : VK) (Dp : (List Int) → Own) : Wish K (List Int) ((List Tx) × (List Int)) := dwish K X Q (fun r : (List Tx) × (List Int) => (fun r => .ok ((LT K (tD K eS)) r)) r.1) (fun r => Dp r.2) Dp
def sp__law_nodes (K : PySem.W.Frag) (ω : World) : Sp := spC K (τ := Unit × Int × Unit) (OLT (tD K eI)) (fun a t => [Is (.ref a), (tD K eI) t.2.1]) (fun t y => l_nodes_k21 y t.2.1) (fun r => .ok ((LT K (T2 K (tD K eS) (tD K eS))) r))
abbrev w__law_nodes (K : PySem.W.Frag) (ω : World) (X : XK) (Q : VK) (Dp : (List Int) → Own) : Wish K (List Int) ((List (Tx × Tx)) × (List Int)) := dwish K X Q (fun r : (List (Tx × Tx)) × (List Int) => (fun r => .ok ((LT K (T2 K (tD K eS) (tD K eS))) r)) r.1) (fun r => Dp r.2) Dp
def sp__law_few (K : PySem.W.Frag) (ω : World) : Sp := spC K (τ := Unit × Unit) (OLT (tD K eI)) (fun a t => [Is (.ref a)]) (fun t y => l_few y) (fun r => .ok ((T2 K (tD K eI) (tD K eI)) r))
abbrev w__law_few (K : PySem.W.Frag) (ω : World) (X : XK) (Q : VK) (Dp : (List Int) → Own) : Wish K (List Int) ((Int × Int) × (List Int)) := dwish K X Q (fun r : (Int × Int) × (List Int) => (fun r => .ok ((T2 K (tD K eI) (tD K eI)) r)) r.1) (fun r => Dp r.2) Dp
def sp__law_chains (K : PySem.W.Frag) (ω : World) : Sp := spP K (τ := (List ((Tx × Tx) × (Tx × Tx) × (Rat × (List (Tx × Rat))))) × Unit) (fun t => [(LT K (T3 K (T2 K (tD K eS) (tD K eS)) (T2 K (tD K eS) (tD K eS)) (T2 K (tD K eQ) (VP K (T2 K (tD K eS) (tD K eQ)))))) t.1]) (fun t => l_chains t.1) (fun r => .ok ((LT K (VP K (tD K eI))) r))
abbrev w__law_chains (K : PySem.W.Frag) (ω : World) (X : XK) (Q : VK) (D0 : Own) : Wish K Unit ((List (List Int))) := dwish K X Q (fun r => .ok ((LT K (VP K (tD K eI))) r)) (fun _ => D0) (fun _ : Unit => D0)
def sp__law_gaps (K : PySem.W.Frag) (ω : World) : Sp := spC K (τ := Unit × Unit) (OLT (tD K eI)) (fun a t => [Is (.ref a)]) (fun t y => l_gaps_k21 y) (fun r => .ok ((LT K (T3 K (T2 K (tD K eS) (tD K eS)) (T2 K (tD K eS) (tD K eS)) (T2 K (tD K eQ) (VP K (T2 K (tD K eS) (tD K eQ)))))) r))
abbrev w__law_gaps (K : PySem.W.Frag) (ω : World) (X : XK) (Q : VK) (Dp : (List Int) → Own) : Wish K (List Int) ((List ((Tx × Tx) × (Tx × Tx) × (Rat × (List (Tx × Rat))))) × (List Int)) := dwish K X Q (fun r : (List ((Tx × Tx) × (Tx × Tx) × (Rat × (List (Tx × Rat))))) × (List Int) => (fun r => .ok ((LT K (T3 K (T2 K (tD K eS) (tD K eS)) (T2 K (tD K eS) (tD K eS)) (T2 K (tD K eQ) (VP K (T2 K (tD K eS) (tD K eQ)))))) r)) r.1) (fun r => Dp r.2) Dp
def sp__law_are_chains (K : PySem.W.Frag) (ω : World) : Sp := spR K (τ := (Addr × (List (List Int))) × Unit) (fun t => [Is (.ref t.1.1)]) (fun t D => RdC D t.1.1 ((OLT (VP K (tD K eI))) t.1.2) ∧ True) (fun t => l_are_chains t.1.2) (fun r => .ok ((tD K eB) r))
abbrev w__law_are_chains (K : PySem.W.Frag) (ω : World) (X : XK) (Q : VK) (D0 : Own) : Wish K Unit (Bool) := dwish K X Q (fun r => .ok ((tD K eB) r)) (fun _ => D0) (fun _ : Unit => D0)
abbrev sp_law (K : PySem.W.Frag) (ω : World) : Sp := lawSp K
abbrev w_law (K : PySem.W.Frag) (ω : World) (X : XK) (Q : VK) (D0 : Own) : Wish K Unit (Bool) := dwish K X Q (fun r => .ok ((tD K eB) r)) (fun _ => D0) (fun _ : Unit => D0)
structure Txt (K : PySem.W.Frag) (mg : Str → Option Value) : Prop where
  b_abs : mg "abs" = none
  b_bool : mg "bool" = none
  b_int : mg "int" = none
  b_isinstance : mg "isinstance" = none
  b_len : mg "len" = none
  b_list : mg "list" = none
  b_max : mg "max" = none
  b_min : mg "min" = none
  b_range : mg "range" = none
  b_set : mg "set" = none
  b_sorted : mg "sorted" = none
  b_tuple : mg "tuple" = none
def t_nodes_of (K : PySem.W.Frag) (ω : World) (X : XK) : TS :=
  (tSeq (tAsg (tLst tNil) (gName 1))
  (tSeq (tFor (iSeq K (tVar 0)) (gTup K 3 (gCons (gName 2) (gCons (gName 3) (gCons (gName 4) gNil))))
  (tDrop (tBM K "list" rExtend (tVar 1) (tCons (tLst (tCons (tVar 2) (tCons (tVar 3) tNil))) tNil))))
  (tRet (tSortSet K (tVar 1)))))
def t_chains_behind (m : Nat) (K : PySem.W.Frag) (ω : World) (X : XK) : TS :=
  (tSeq (tAsg (tOp (rIx K) (tOp (rIx K) (tVar 0) (tOp (rIx K) (tVar 1) (tUn qNegI (tC (.int 1))))) (tC (.int 1))) (gName 2))
  (tSeq (tIfS (tTest (tOp (qEq K) (tVar 2) (tOp (rIx K) (tOp (rIx K) (tVar 0) (tOp (rIx K) (tVar 1) (tC (.int 0)))) (tC (.int 0)))))
  (tRet (tLst (tCons (tCB (cTupP K) (tCons (tVar 1) tNil)) tNil)))
  tNext)
  (tSeq (tAsg (tLst tNil) (gName 3))
  (tSeq (tIfS (tTest (tOp (rNotInD K) (tVar 2) (tLc (iSeq K (tVar 1)) (gName 4) tYes (tOp (rIx K) (tOp (rIx K) (tVar 0) (tVar 4)) (tC (.int 0))) [4])))
  (tFor (iRng2 (tCons (tOp (qAddS K) (tOp (rIx K) (tVar 1) (tC (.int 0))) (tC (.int 1))) (tCons (tCB (cLen K) (tCons (tVar 0) tNil)) tNil))) (gName 4)
  (tIfS (tTest (tOp (qEq K) (tOp (rIx K) (tOp (rIx K) (tVar 0) (tVar 4)) (tC (.int 0))) (tVar 2)))
  (tDrop (tBM K "list" (rExtendS K) (tVar 3) (tCons (tCall (sp_chains_behind_r m K ω) [] X (tCons (tVar 0) (tCons (tOp (qAddS K) (tVar 1) (tLst (tCons (tVar 4) tNil))) tNil))) tNil)))
  tNext))
  tNext)
  (tRet (tVar 3))))))
def t_chains_of (K : PySem.W.Frag) (ω : World) (X : XK) : TS :=
  (tSeq (tAsg (tLst tNil) (gName 1))
  (tSeq (tFor (iRng1 (tCons (tCB (cLen K) (tCons (tVar 0) tNil)) tNil)) (gName 2)
  (tDrop (tBM K "list" (rExtendS K) (tVar 1) (tCons (tCall (sp_chains_behind K ω) [] X (tCons (tVar 0) (tCons (tLst (tCons (tVar 2) tNil)) tNil))) tNil))))
  (tRet (tVar 1))))
def t__law_well (K : PySem.W.Frag) (ω : World) (X : XK) : TS :=
  (tSeq (tAsg (tC (.int 0)) (gName 2))
  (tSeq (tIfS (tTest (tOp rLtI (tVar 1) (tCB (cLen K) (tCons (tVar 0) tNil))))
  (tAsg (tOp (rIx K) (tVar 0) (tVar 1)) (gName 2))
  tNext)
  (tRet (tLst (tCons (tCB cInt1 (tCons (tOp rGeI (tCB cAbs (tCons (tVar 2) tNil)) (tOp rPowI (tC (.int 10)) (tC (.int 18)))) tNil)) (tCons (tVar 2) (tCons (tOp (qMul K) (tC (.int 17)) (tVar 1)) tNil)))))))
def t__law_take (K : PySem.W.Frag) (ω : World) (X : XK) : TS :=
  (tSeq (tIfS (tTest (tOp (qEq K) (tOp (rIx K) (tVar 0) (tC (.int 0))) (tC (.int 1))))
  (tSeq (tAsg (tOp rModI (tOp (rIx K) (tVar 0) (tC (.int 1))) (tVar 1)) (gName 2))
  (tSeq (tAsg (tOp rDivI (tOp (rIx K) (tVar 0) (tC (.int 1))) (tVar 1)) (gSub (tVar 0) (tC (.int 1)) rSetL))
  (tRet (tVar 2))))
  tNext)
  (tSeq (tAsg (tOp (qAddS K) (tOp (rIx K) (tVar 0) (tC (.int 2))) (tC (.int 1))) (gName 3))
  (tSeq (tAsg (tVar 3) (gSub (tVar 0) (tC (.int 2)) rSetL))
  (tSeq (tAsg (tOp rModI (tOp (qMul K) (tOp (qAddS K) (tOp (qAddS K) (tOp (rIx K) (tVar 0) (tC (.int 1))) (tOp (qMul K) (tOp (qMul K) (tC (.int 7919)) (tVar 3)) (tVar 3))) (tVar 3)) (tC (.int 48271))) (tC (.int 2305843009213693951))) (gName 4))
  (tRet (tOp rModI (tOp rDivI (tOp rModI (tOp (qAddS K) (tOp (qMul K) (tVar 4) (tC (.int 1442695040888963407))) (tC (.int 4321))) (tC (.int 2305843009213693921))) (tC (.int 64))) (tVar 1)))))))
def t__law_common (K : PySem.W.Frag) (ω : World) (X : XK) : TS :=
  (tSeq (tWhile (tTest (tOp (qNe K) (tVar 1) (tC (.int 0))))
  (tPar 0 1 (tCons (tVar 1) (tCons (tOp rModI (tVar 0) (tVar 1)) tNil))))
  (tRet (tCB cAbs (tCons (tVar 0) tNil))))
def t__law_num (K : PySem.W.Frag) (ω : World) (X : XK) : TS :=
  (tSeq (tIfS (tTest (tOp rLtI (tVar 1) (tC (.int 0))))
  (tSeq (tAsg (tOp rSubI (tC (.int 0)) (tVar 0)) (gName 0))
  (tAsg (tOp rSubI (tC (.int 0)) (tVar 1)) (gName 1)))
  tNext)
  (tSeq (tAsg (tCall (sp__law_common K ω) [] X (tCons (tVar 0) (tCons (tVar 1) tNil))) (gName 2))
  (tRet (tTupP (tCons (tOp rDivI (tVar 0) (tVar 2)) (tCons (tOp rDivI (tVar 1) (tVar 2)) tNil))))))
def t__law_number (K : PySem.W.Frag) (ω : World) (X : XK) : TS :=
  (tSeq (tAsg (tCall (sp__law_take K ω) [] X (tCons (tVar 0) (tCons (tC (.int 8)) tNil))) (gName 1))
  (tSeq (tIfS (tTest (tOp (qEq K) (tVar 1) (tC (.int 7))))
  (tRet (tTupP (tCons (tOp rSubI (tCall (sp__law_take K ω) [] X (tCons (tVar 0) (tCons (tOp (qAddS K) (tOp (qMul K) (tC (.int 2)) (tOp rPowI (tC (.int 10)) (tC (.int 17)))) (tC (.int 1))) tNil))) (tOp rPowI (tC (.int 10)) (tC (.int 17)))) (tCons (tC (.int 1)) tNil))))
  tNext)
  (tSeq (tIfS (tTest (tOp (qEq K) (tVar 1) (tC (.int 6))))
  (tRet (tCall (sp__law_num K ω) [] X (tCons (tOp rSubI (tCall (sp__law_take K ω) [] X (tCons (tVar 0) (tCons (tOp (qAddS K) (tOp (qMul K) (tC (.int 2)) (tOp rPowI (tC (.int 10)) (tC (.int 8)))) (tC (.int 1))) tNil))) (tOp rPowI (tC (.int 10)) (tC (.int 8)))) (tCons (tOp (qAddS K) (tC (.int 1)) (tCall (sp__law_take K ω) [] X (tCons (tVar 0) (tCons (tOp rPowI (tC (.int 10)) (tC (.int 8))) tNil)))) tNil))))
  tNext)
  (tSeq (tIfS (tTest (tOp rGtI (tVar 1) (tC (.int 3))))
  (tRet (tCall (sp__law_num K ω) [] X (tCons (tOp rSubI (tCall (sp__law_take K ω) [] X (tCons (tVar 0) (tCons (tC (.int 201)) tNil))) (tC (.int 100))) (tCons (tOp (qAddS K) (tC (.int 1)) (tCall (sp__law_take K ω) [] X (tCons (tVar 0) (tCons (tC (.int 6)) tNil)))) tNil))))
  tNext)
  (tRet (tTupP (tCons (tOp rSubI (tCall (sp__law_take K ω) [] X (tCons (tVar 0) (tCons (tC (.int 9)) tNil))) (tC (.int 4))) (tCons (tC (.int 1)) tNil))))))))
def t__law_words (K : PySem.W.Frag) (ω : World) (X : XK) : TS :=
  (tSeq (tAsg (tC (.str "abcdefghijklmnopqrstuvwxyz")) (gName 2))
  (tSeq (tAsg (tM1 (rJoin K) (tC (.str "")) (tLc (iRng1 (tCons (tC (.int 8)) tNil)) (gName 4) tYes (tOp (rIx K) (tVar 2) (tCall (sp__law_take K ω) [] E0 (tCons (tVar 0) (tCons (tC (.int 26)) tNil)))) [4])) (gName 3))
  (tSeq (tAsg (tCall (sp__law_take K ω) [] X (tCons (tVar 0) (tCons (tC (.int 16)) tNil))) (gName 5))
  (tSeq (tIfS (tTest (tOp rLtI (tVar 5) (tC (.int 8))))
  (tSeq (tAsg (tM1 rIdx (tVar 2) (tOp (rIx K) (tVar 3) (tC (.int 7)))) (gName 6))
  (tSeq (tAsg (tLst tNil) (gName 7))
  (tSeq (tFor (iRng1 (tCons (tVar 1) tNil)) (gName 4)
  (tSeq (tAsg (tOp (rIx K) (tVar 2) (tOp rModI (tOp (qAddS K) (tVar 6) (tOp (qMul K) (tC (.int 3)) (tVar 4))) (tC (.int 26)))) (gName 8))
  (tDrop (tBM K "list" rAppend (tVar 7) (tCons (tOp (qAddS K) (tVar 8) (tSl rSlS (tVar 3) tNoPart (tPart (tOp rModI (tOp (qAddS K) (tVar 5) (tOp (qMul K) (tC (.int 3)) (tVar 4))) (tC (.int 8)))))) tNil)))))
  (tRet (tVar 7)))))
  tNext)
  (tSeq (tAsg (tOp (qAddS K) (tC (.int 1)) (tCall (sp__law_take K ω) [] X (tCons (tVar 0) (tCons (tC (.int 8)) tNil)))) (gName 9))
  (tSeq (tAsg (tCall (sp__law_take K ω) [] X (tCons (tVar 0) (tCons (tVar 9) tNil))) (gName 10))
  (tSeq (tAsg (tCall (sp__law_take K ω) [] X (tCons (tVar 0) (tCons (tC (.int 26)) tNil))) (gName 11))
  (tSeq (tAsg (tLc (iRng1 (tCons (tVar 1) tNil)) (gName 4) tYes (tOp (rIx K) (tVar 2) (tOp rModI (tOp (qAddS K) (tVar 11) (tOp (qMul K) (tC (.int 3)) (tVar 4))) (tC (.int 26)))) [4]) (gName 12))
  (tRet (tLc (iSeq K (tVar 12)) (gName 8) tYes (tOp (qAddS K) (tOp (qAddS K) (tSl rSlS (tVar 3) tNoPart (tPart (tVar 10))) (tVar 8)) (tSl rSlS (tVar 3) (tPart (tOp (qAddS K) (tVar 10) (tC (.int 1)))) (tPart (tVar 9)))) [8]))))))))))
def t__law_nodes (K : PySem.W.Frag) (ω : World) (X : XK) : TS :=
  (tSeq (tAsg (tLst tNil) (gName 2))
  (tSeq (tFor (iSeq K (tCall (sp__law_words K ω) [] X (tCons (tVar 0) (tCons (tC (.int 6)) tNil)))) (gName 3)
  (tDrop (tBM K "list" rExtend (tVar 2) (tCons (tLst (tCons (tTupP (tCons (tC (.str "x")) (tCons (tVar 3) tNil))) (tCons (tTupP (tCons (tC (.str "y")) (tCons (tVar 3) tNil))) tNil))) tNil))))
  (tRet (tLc (iRng1 (tCons (tVar 1) tNil)) (gName 4) tYes (tBM K "list" rPopAt (tVar 2) (tCons (tCall (sp__law_take K ω) [] E0 (tCons (tVar 0) (tCons (tCB (cLen K) (tCons (tVar 2) tNil)) tNil))) tNil)) [4]))))
def t__law_few (K : PySem.W.Frag) (ω : World) (X : XK) : TS :=
  (tSeq (tIfS (tTest (tOp (qEq K) (tCall (sp__law_take K ω) [] X (tCons (tVar 0) (tCons (tC (.int 8)) tNil))) (tC (.int 1))))
  (tRet (tTupP (tCons (tOp (qAddS K) (tC (.int 3)) (tCall (sp__law_take K ω) [] X (tCons (tVar 0) (tCons (tC (.int 4)) tNil)))) (tCons (tOp (qAddS K) (tC (.int 9)) (tCall (sp__law_take K ω) [] X (tCons (tVar 0) (tCons (tC (.int 8)) tNil)))) tNil))))
  tNext)
  (tRet (tTupP (tCons (tOp (qAddS K) (tC (.int 1)) (tCall (sp__law_take K ω) [] X (tCons (tVar 0) (tCons (tC (.int 4)) tNil)))) (tCons (tCall (sp__law_take K ω) [] X (tCons (tVar 0) (tCons (tC (.int 9)) tNil))) tNil)))))
def t__law_chains (K : PySem.W.Frag) (ω : World) (X : XK) : TS :=
  (tSeq (tAsg (tHNew ω) (gName 1))
  (tSeq (tAsg (tLc (iRng1 (tCons (tCB (cLen K) (tCons (tVar 0) tNil)) tNil)) (gName 3) tYes (tTupP (tCons (tVar 3) tNil)) [3]) (gName 2))
  (tSeq (tWhile (tTest (tOp (qNe K) (tVar 2) (tLst tNil)))
  (tSeq (tAsg (tBM0 K "list" rPop (tVar 2)) (gName 4))
  (tSeq (tAsg (tOp (rIx K) (tOp (rIx K) (tVar 0) (tOp (rIx K) (tVar 4) (tUn qNegI (tC (.int 1))))) (tC (.int 1))) (gName 5))
  (tIfS (tTest (tOp (qEq K) (tVar 5) (tOp (rIx K) (tOp (rIx K) (tVar 0) (tOp (rIx K) (tVar 4) (tC (.int 0)))) (tC (.int 0)))))
  (tSeq (tAsg (tBMt K (rTupIxI K) (tVar 4) (tCons (tCB (rMinT K) (tCons (tVar 4) tNil)) tNil)) (gName 6))
  (sHPut ω K (tVar 1) (tOp (qAddS K) (tSl (rSlP K) (tVar 4) (tPart (tVar 6)) tNoPart) (tSl (rSlP K) (tVar 4) tNoPart (tPart (tVar 6)))) (tC (.bl true))))
  (tIfS (tTest (tOp (rNotInD K) (tVar 5) (tLc (iSeq K (tVar 4)) (gName 3) tYes (tOp (rIx K) (tOp (rIx K) (tVar 0) (tVar 3)) (tC (.int 0))) [3])))
  (tDrop (tBM K "list" rExtend (tVar 2) (tCons (tLc (iRng1 (tCons (tCB (cLen K) (tCons (tVar 0) tNil)) tNil)) (gName 3) (tTest (tOp (qEq K) (tOp (rIx K) (tOp (rIx K) (tVar 0) (tVar 3)) (tC (.int 0))) (tVar 5))) (tOp (qAddS K) (tVar 4) (tTupP (tCons (tVar 3) tNil))) [3]) tNil)))
  tNext)))))
  (tFrz (tRet (tCB (rSortH ω K) (tCons (tVar 1) tNil)))))))
def t__law_gaps (K : PySem.W.Frag) (ω : World) (X : XK) : TS :=
  (tSeq (tAsg (tCall (sp__law_few K ω) [] X (tCons (tVar 0) tNil)) (gTup K 2 (gCons (gName 1) (gCons (gName 2) gNil))))
  (tSeq (tAsg (tCall (sp__law_nodes K ω) [] X (tCons (tVar 0) (tCons (tVar 1) tNil))) (gName 3))
  (tSeq (tAsg (tLst tNil) (gName 4))
  (tSeq (tFor (iRng1 (tCons (tVar 2) tNil)) (gName 5)
  (tSeq (tAsg (tOp (rIx K) (tVar 3) (tCall (sp__law_take K ω) [] X (tCons (tVar 0) (tCons (tVar 1) tNil)))) (gName 6))
  (tSeq (tAsg (tOp (rIx K) (tVar 3) (tCall (sp__law_take K ω) [] X (tCons (tVar 0) (tCons (tVar 1) tNil)))) (gName 7))
  (tSeq (tIfS (tAnd (tTest (tOp (qNe K) (tVar 4) (tLst tNil))) (tTest (tOp (qEq K) (tCall (sp__law_take K ω) [] X (tCons (tVar 0) (tCons (tC (.int 5)) tNil))) (tC (.int 1)))))
  (tAsg (tSl (rSlP K) (tOp (rIx K) (tVar 4) (tCall (sp__law_take K ω) [] X (tCons (tVar 0) (tCons (tCB (cLen K) (tCons (tVar 4) tNil)) tNil)))) tNoPart (tPart (tC (.int 2)))) (gTup K 2 (gCons (gName 7) (gCons (gName 6) gNil))))
  tNext)
  (tDrop (tBM K "list" rAppend (tVar 4) (tCons (tTupP (tCons (tVar 6) (tCons (tVar 7) (tCons (tTupP (tCons (tCall (sp__law_number K ω) [] X (tCons (tVar 0) tNil)) (tCons (tTupP tNil) tNil))) tNil)))) tNil)))))))
  (tRet (tVar 4))))))
def t__law_are_chains (K : PySem.W.Frag) (ω : World) (X : XK) : TS :=
  (tSeq (tIfS (tNot (tB (tCB (cIsi K) (tCons (tVar 0) (tCons (tC (.ty "list")) tNil)))))
  (tRet (tC (.bl false)))
  tNext)
  (tSeq (tFor (iSeq K (tVar 0)) (gName 1)
  (tIfS (tOr (tNot (tB (tCB (cIsi K) (tCons (tVar 1) (tCons (tC (.ty "tuple")) tNil))))) (tTest (tOp (rIn K false) (tC (.bl false)) (tLc (iSeq K (tVar 1)) (gName 2) tYes (tAndV (tCB (cIsi K) (tCons (tVar 2) (tCons (tC (.ty "int")) tNil))) (tNotV (tCB (cIsi K) (tCons (tVar 2) (tCons (tC (.ty "bool")) tNil))))) [2]))))
  (tRet (tC (.bl false)))
  tNext))
  (tRet (tC (.bl true)))))
def t_law (K : PySem.W.Frag) (ω : World) (X : XK) : TS :=
  (tSeq (tFor (iRng1 (tCons (tCB cMax2 (tCons (tC (.int 1)) (tCons (tCB cMin2 (tCons (tCB (cLen K) (tCons (tVar 0) tNil)) (tCons (tC (.int 4)) tNil))) tNil))) tNil)) (gName 1)
  (tSeq (tAsg (tCall (sp__law_gaps K ω) [] X (tCons (tCall (sp__law_well K ω) [] X (tCons (tVar 0) (tCons (tVar 1) tNil))) tNil)) (gName 2))
  (tSeq (tAsg (tSortSet K (tOp (qAddS K) (tLc (iSeq K (tVar 2)) (gName 4) tYes (tOp (rIx K) (tVar 4) (tC (.int 0))) [4]) (tLc (iSeq K (tVar 2)) (gName 4) tYes (tOp (rIx K) (tVar 4) (tC (.int 1))) [4]))) (gName 3))
  (tSeq (tAsg (tCall (sp__law_chains K ω) [] X (tCons (tVar 2) tNil)) (gName 5))
  (tSeq (tAsg (tCB (cLst K) (tCons (tVar 2) tNil)) (gName 6))
  (tSeq (tFor (iRng1 (tCons (tC (.int 2)) tNil)) (gName 7)
  (tSeq (tAsg (tCall (sp_nodes_of K ω) [] X (tCons (tVar 6) tNil)) (gName 8))
  (tSeq (tAsg (tCall (sp_chains_of K ω) [] X (tCons (tVar 6) tNil)) (gName 9))
  (tSeq (tIfS (tOr (tNot (tB (tCB (cIsi K) (tCons (tVar 8) (tCons (tC (.ty "list")) tNil))))) (tOr (tTest (tOp (qNe K) (tVar 8) (tVar 3))) (tOr (tNot (tB (tCall (sp__law_are_chains K ω) [] X (tCons (tVar 9) tNil)))) (tTest (tOp (qNe K) (tVar 9) (tVar 5))))))
  (tRet (tC (.bl false)))
  tNext)
  (tSeq (tDrop (tBM0 K "list" rClear (tVar 8)))
  (tDrop (tBM0 K "list" rClear (tVar 9))))))))
  (tIfS (tTest (tOp (qNe K) (tVar 6) (tVar 2)))
  (tRet (tC (.bl false)))
  tNext)))))))
  (tRet (tAndV (tOp (qEq K) (tCall (sp_nodes_of K ω) [] X (tCons (tLst tNil) tNil)) (tLst tNil)) (tOp (qEq K) (tCall (sp_chains_of K ω) [] X (tCons (tLst tNil) tNil)) (tLst tNil)))))
section
variable {P : Program} {ω : World} {K : PySem.W.Frag} {mg : Str → Option Value} {base : Heap}
theorem body_nodes_of (T : Txt K mg) {f : Addr} {cdv : Value} {A : Around} {outer : List Env} {s : Shared} {H : Hp} {X : XK} (hr : Room 0 (A.deeper (PyProof.Rows.envOfC "nodes_of" (defScope s_nodes_of) s.heap.objs.size f cdv))) :
    PSs (cxOf (L2.CX P ω) P ω K mg base N_nodes_of "nodes_of" (defScope s_nodes_of) f cdv A outer s H X) (defBody s_nodes_of) (t_nodes_of K ω X) :=
  (pss_cons (ps_set (i := 1) sc_nodes_of.nd rfl (Or.inl rfl) (pe_lst pa_nil))
    (pss_cons (ps_for (passes_of rfl) rfl (pi_seq (pv 0)) (pg_tup rfl (pgs_cons (pg_name (i := 2) sc_nodes_of.nd rfl (Or.inl rfl)) (pgs_cons (pg_name (i := 3) sc_nodes_of.nd rfl (Or.inl rfl)) (pgs_cons (pg_name (i := 4) sc_nodes_of.nd rfl (Or.inl rfl)) pgs_nil))))
    (pss_one (ps_expr (pe_bm PySem.F.plainAttrs_list PySem.F.slot_list_extend PySem.F.type_list_extend mt_extend (pv 1) (pa_cons (pe_lst (pa_cons (pv 2) (pa_cons (pv 3) pa_nil))) pa_nil)))))
    (pss_one (ps_ret (pe_sortSet rfl hr.units rfl T.b_sorted rfl T.b_set (pv 1))))))
theorem body_chains_behind (m : Nat) (T : Txt K mg) (F_chains_behind : Fo P ω K mg base "chains_behind" ["gaps", "way"] [] (1 + m) (sp_chains_behind_r m K ω)) {f : Addr} {cdv : Value} {A : Around} {outer : List Env} {s : Shared} {H : Hp} {X : XK} (hr : Room (1 + m) (A.deeper (PyProof.Rows.envOfC "chains_behind" (defScope s_chains_behind) s.heap.objs.size f cdv))) :
    PSs (cxOf (L2.CX P ω) P ω K mg base N_chains_behind "chains_behind" (defScope s_chains_behind) f cdv A outer s H X) (defBody s_chains_behind) (t_chains_behind m K ω X) :=
  (pss_cons (ps_set (i := 2) sc_chains_behind.nd rfl (Or.inl rfl) (pe_ix ix_seq (pe_ix ix_seq (pv 0) (pe_ix ix_seq (pv 1) (pe_un un_negU pe_int) (fun _ _ => rfl)) (fun _ _ => rfl)) pe_int (fun _ _ => rfl)))
    (pss_cons (ps_if (pt_cmpR (op_eqU hr.units) (pv 2) (pe_ix ix_seq (pe_ix ix_seq (pv 0) (pe_ix ix_seq (pv 1) pe_int (fun _ _ => rfl)) (fun _ _ => rfl)) pe_int (fun _ _ => rfl)) (nomark _))
    (pss_one (ps_ret (pe_lst (pa_cons (pe_callTy call_tupP rfl T.b_tuple (by decide +kernel) (pa_cons (pv 1) pa_nil)) pa_nil))))
    pss_nil)
    (pss_cons (ps_set (i := 3) sc_chains_behind.nd rfl (Or.inl rfl) (pe_lst pa_nil))
    (pss_cons (ps_if (pt_cmpR (op_notInD (hu_65 hr)) (pv 2) (pe_lc (own := [("k", 4)]) (g := (gName 4)) (tt := tYes) rfl sc_chains_behind.nd  (pi_seq (pv 1)) (blkOk_by (N := N_chains_behind) (sc := defScope s_chains_behind) (by decide +kernel)) (fun _ _ _ _ _ => (pg_name (i := 4) sc_chains_behind.nd rfl (Or.inl rfl))) (fun _ _ _ _ _ => pts_nil) (fun _ _ _ _ _ => (pe_ix ix_seq (pe_ix ix_seq (pv 0) (pv 4) (fun _ _ => rfl)) pe_int (fun _ _ => rfl)))) (by rfl))
    (pss_one (ps_for (passes_of rfl) rfl (pi_range2 rfl T.b_range (pa_cons (pe_op op_addV (pe_ix ix_seq (pv 1) pe_int (fun _ _ => rfl)) pe_int) (pa_cons (pe_callB call_len rfl T.b_len (by decide +kernel) (pa_cons (pv 0) pa_nil)) pa_nil))) (pg_name (i := 4) sc_chains_behind.nd rfl (Or.inl rfl))
    (pss_one (ps_if (pt_cmpR (op_eqU hr.units) (pe_ix ix_seq (pe_ix ix_seq (pv 0) (pv 4) (fun _ _ => rfl)) pe_int (fun _ _ => rfl)) (pv 2) (nomark _))
    (pss_one (ps_expr (pe_bm PySem.F.plainAttrs_list PySem.F.slot_list_extend PySem.F.type_list_extend mt_extendS (pv 3) (pa_cons (pe_callF F_chains_behind (hr.mono (by omega)) (passes_call (takes_of rfl rfl rfl rfl) (fun _ _ _ _ h => h)) (pa_cons (pv 0) (pa_cons (pe_op op_addV (pv 1) (pe_lst (pa_cons (pv 4) pa_nil))) pa_nil))) pa_nil))))
    pss_nil))))
    pss_nil)
    (pss_one (ps_ret (pv 3)))))))
theorem body_chains_of (T : Txt K mg) (F_chains_behind : Fo P ω K mg base "chains_behind" ["gaps", "way"] [] 25 (sp_chains_behind K ω)) {f : Addr} {cdv : Value} {A : Around} {outer : List Env} {s : Shared} {H : Hp} {X : XK} (hr : Room 25 (A.deeper (PyProof.Rows.envOfC "chains_of" (defScope s_chains_of) s.heap.objs.size f cdv))) :
    PSs (cxOf (L2.CX P ω) P ω K mg base N_chains_of "chains_of" (defScope s_chains_of) f cdv A outer s H X) (defBody s_chains_of) (t_chains_of K ω X) :=
  (pss_cons (ps_set (i := 1) sc_chains_of.nd rfl (Or.inl rfl) (pe_lst pa_nil))
    (pss_cons (ps_for (passes_of rfl) rfl (pi_range1 rfl T.b_range (pa_cons (pe_callB call_len rfl T.b_len (by decide +kernel) (pa_cons (pv 0) pa_nil)) pa_nil)) (pg_name (i := 2) sc_chains_of.nd rfl (Or.inl rfl))
    (pss_one (ps_expr (pe_bm PySem.F.plainAttrs_list PySem.F.slot_list_extend PySem.F.type_list_extend mt_extendS (pv 1) (pa_cons (pe_callF F_chains_behind (hr.mono (by decide)) (passes_call (takes_of rfl rfl rfl rfl) (fun _ _ _ _ h => h)) (pa_cons (pv 0) (pa_cons (pe_lst (pa_cons (pv 2) pa_nil)) pa_nil))) pa_nil)))))
    (pss_one (ps_ret (pv 1)))))
theorem body__law_well (T : Txt K mg) {f : Addr} {cdv : Value} {A : Around} {outer : List Env} {s : Shared} {H : Hp} {X : XK} (hr : Room 0 (A.deeper (PyProof.Rows.envOfC "_law_well" (defScope s__law_well) s.heap.objs.size f cdv))) :
    PSs (cxOf (L2.CX P ω) P ω K mg base N__law_well "_law_well" (defScope s__law_well) f cdv A outer s H X) (defBody s__law_well) (t__law_well K ω X) :=
  (pss_cons (ps_set (i := 2) sc__law_well.nd rfl (Or.inl rfl) pe_int)
    (pss_cons (ps_if (pt_cmpR op_lt (pv 1) (pe_callB call_len rfl T.b_len (by decide +kernel) (pa_cons (pv 0) pa_nil)) (nomark _))
    (pss_one (ps_set (i := 2) sc__law_well.nd rfl (Or.inl rfl) (pe_ix ix_seq (pv 0) (pv 1) (fun _ _ => rfl))))
    pss_nil)
    (pss_one (ps_ret (pe_lst (pa_cons (pe_callTy call_int1 rfl T.b_int (by decide +kernel) (pa_cons (pe_cmpR op_ge (pe_callB call_abs rfl T.b_abs (by decide +kernel) (pa_cons (pv 2) pa_nil)) (pe_op op_pow pe_int pe_int) (nomark _)) pa_nil)) (pa_cons (pv 2) (pa_cons (pe_op op_mulU pe_int (pv 1)) pa_nil))))))))
theorem body__law_take (T : Txt K mg) {f : Addr} {cdv : Value} {A : Around} {outer : List Env} {s : Shared} {H : Hp} {X : XK} (hr : Room 0 (A.deeper (PyProof.Rows.envOfC "_law_take" (defScope s__law_take) s.heap.objs.size f cdv))) :
    PSs (cxOf (L2.CX P ω) P ω K mg base N__law_take "_law_take" (defScope s__law_take) f cdv A outer s H X) (defBody s__law_take) (t__law_take K ω X) :=
  (pss_cons (ps_if (pt_cmpR (op_eqU hr.units) (pe_ix ix_seq (pv 0) pe_int (fun _ _ => rfl)) pe_int (nomark _))
    (pss_cons (ps_set (i := 2) sc__law_take.nd rfl (Or.inl rfl) (pe_op op_modN (pe_ix ix_seq (pv 0) pe_int (fun _ _ => rfl)) (pv 1)))
    (pss_cons (ps_asg (pe_op op_div (pe_ix ix_seq (pv 0) pe_int (fun _ _ => rfl)) (pv 1)) (pg_sub (pv 0) pe_int set_list))
    (pss_one (ps_ret (pv 2)))))
    pss_nil)
    (pss_cons (ps_set (i := 3) sc__law_take.nd rfl (Or.inl rfl) (pe_op op_addV (pe_ix ix_seq (pv 0) pe_int (fun _ _ => rfl)) pe_int))
    (pss_cons (ps_asg (pv 3) (pg_sub (pv 0) pe_int set_list))
    (pss_cons (ps_set (i := 4) sc__law_take.nd rfl (Or.inl rfl) (pe_op op_modN (pe_op op_mulU (pe_op op_addV (pe_op op_addV (pe_ix ix_seq (pv 0) pe_int (fun _ _ => rfl)) (pe_op op_mulU (pe_op op_mulU pe_int (pv 3)) (pv 3))) (pv 3)) pe_int) pe_int))
    (pss_one (ps_ret (pe_op op_modN (pe_op op_div (pe_op op_modN (pe_op op_addV (pe_op op_mulU (pv 4) pe_int) pe_int) pe_int) pe_int) (pv 1))))))))
theorem body__law_common (T : Txt K mg) {f : Addr} {cdv : Value} {A : Around} {outer : List Env} {s : Shared} {H : Hp} {X : XK} (hr : Room 0 (A.deeper (PyProof.Rows.envOfC "_law_common" (defScope s__law_common) s.heap.objs.size f cdv))) :
    PSs (cxOf (L2.CX P ω) P ω K mg base N__law_common "_law_common" (defScope s__law_common) f cdv A outer s H X) (defBody s__law_common) (t__law_common K ω X) :=
  (pss_cons (ps_while (passes_of rfl) (pt_cmpR (op_neU hr.units) (pv 1) pe_int (nomark _))
    (pss_one (ps_par (by rfl) sc__law_common.nd rfl rfl (by decide) rfl rfl (pa_cons (pv 1) (pa_cons (pe_op op_modN (pv 0) (pv 1)) pa_nil)) (by rfl))))
    (pss_one (ps_ret (pe_callB call_abs rfl T.b_abs (by decide +kernel) (pa_cons (pv 0) pa_nil)))))
theorem body__law_num (T : Txt K mg) (F__law_common : Fo P ω K mg base "_law_common" ["_law_one", "_law_other"] [] 1 (sp__law_common K ω)) {f : Addr} {cdv : Value} {A : Around} {outer : List Env} {s : Shared} {H : Hp} {X : XK} (hr : Room 1 (A.deeper (PyProof.Rows.envOfC "_law_num" (defScope s__law_num) s.heap.objs.size f cdv))) :
    PSs (cxOf (L2.CX P ω) P ω K mg base N__law_num "_law_num" (defScope s__law_num) f cdv A outer s H X) (defBody s__law_num) (t__law_num K ω X) :=
  (pss_cons (ps_if (pt_cmpR op_lt (pv 1) pe_int (nomark _))
    (pss_cons (ps_set (i := 0) sc__law_num.nd rfl (Or.inl rfl) (pe_op op_sub pe_int (pv 0)))
    (pss_one (ps_set (i := 1) sc__law_num.nd rfl (Or.inl rfl) (pe_op op_sub pe_int (pv 1)))))
    pss_nil)
    (pss_cons (ps_set (i := 2) sc__law_num.nd rfl (Or.inl rfl) (pe_callF F__law_common (hr.mono (by decide)) (passes_call (takes_of rfl rfl rfl rfl) (fun _ _ _ _ h => h)) (pa_cons (pv 0) (pa_cons (pv 1) pa_nil))))
    (pss_one (ps_ret (pe_tupP (pa_cons (pe_op op_div (pv 0) (pv 2)) (pa_cons (pe_op op_div (pv 1) (pv 2)) pa_nil)))))))
theorem body__law_number (T : Txt K mg) (F__law_num : Fo P ω K mg base "_law_num" ["_law_top", "_law_bottom"] [] 2 (sp__law_num K ω)) (F__law_take : Fo P ω K mg base "_law_take" ["_law_well_here", "_law_many"] [] 1 (sp__law_take K ω)) {f : Addr} {cdv : Value} {A : Around} {outer : List Env} {s : Shared} {H : Hp} {X : XK} (hr : Room 2 (A.deeper (PyProof.Rows.envOfC "_law_number" (defScope s__law_number) s.heap.objs.size f cdv))) :
    PSs (cxOf (L2.CX P ω) P ω K mg base N__law_number "_law_number" (defScope s__law_number) f cdv A outer s H X) (defBody s__law_number) (t__law_number K ω X) :=
  (pss_cons (ps_set (i := 1) sc__law_number.nd rfl (Or.inl rfl) (pe_callF F__law_take (hr.mono (by decide)) (passes_call (takes_of rfl rfl rfl rfl) (fun _ _ _ _ h => h)) (pa_cons (pv 0) (pa_cons pe_int pa_nil))))
    (pss_cons (ps_if (pt_cmpR (op_eqU hr.units) (pv 1) pe_int (nomark _))
    (pss_one (ps_ret (pe_tupP (pa_cons (pe_op op_sub (pe_callF F__law_take (hr.mono (by decide)) (passes_call (takes_of rfl rfl rfl rfl) (fun _ _ _ _ h => h)) (pa_cons (pv 0) (pa_cons (pe_op op_addV (pe_op op_mulU pe_int (pe_op op_pow pe_int pe_int)) pe_int) pa_nil))) (pe_op op_pow pe_int pe_int)) (pa_cons pe_int pa_nil)))))
    pss_nil)
    (pss_cons (ps_if (pt_cmpR (op_eqU hr.units) (pv 1) pe_int (nomark _))
    (pss_one (ps_ret (pe_callF F__law_num (hr.mono (by decide)) (passes_call (takes_of rfl rfl rfl rfl) (fun _ _ _ _ h => h)) (pa_cons (pe_op op_sub (pe_callF F__law_take (hr.mono (by decide)) (passes_call (takes_of rfl rfl rfl rfl) (fun _ _ _ _ h => h)) (pa_cons (pv 0) (pa_cons (pe_op op_addV (pe_op op_mulU pe_int (pe_op op_pow pe_int pe_int)) pe_int) pa_nil))) (pe_op op_pow pe_int pe_int)) (pa_cons (pe_op op_addV pe_int (pe_callF F__law_take (hr.mono (by decide)) (passes_call (takes_of rfl rfl rfl rfl) (fun _ _ _ _ h => h)) (pa_cons (pv 0) (pa_cons (pe_op op_pow pe_int pe_int) pa_nil)))) pa_nil)))))
    pss_nil)
    (pss_cons (ps_if (pt_cmpR op_gt (pv 1) pe_int (nomark _))
    (pss_one (ps_ret (pe_callF F__law_num (hr.mono (by decide)) (passes_call (takes_of rfl rfl rfl rfl) (fun _ _ _ _ h => h)) (pa_cons (pe_op op_sub (pe_callF F__law_take (hr.mono (by decide)) (passes_call (takes_of rfl rfl rfl rfl) (fun _ _ _ _ h => h)) (pa_cons (pv 0) (pa_cons pe_int pa_nil))) pe_int) (pa_cons (pe_op op_addV pe_int (pe_callF F__law_take (hr.mono (by decide)) (passes_call (takes_of rfl rfl rfl rfl) (fun _ _ _ _ h => h)) (pa_cons (pv 0) (pa_cons pe_int pa_nil)))) pa_nil)))))
    pss_nil)
    (pss_one (ps_ret (pe_tupP (pa_cons (pe_op op_sub (pe_callF F__law_take (hr.mono (by decide)) (passes_call (takes_of rfl rfl rfl rfl) (fun _ _ _ _ h => h)) (pa_cons (pv 0) (pa_cons pe_int pa_nil))) pe_int) (pa_cons pe_int pa_nil)))))))))
theorem body__law_words (T : Txt K mg) (F__law_take : Fo P ω K mg base "_law_take" ["_law_well_here", "_law_many"] [] 1 (sp__law_take K ω)) {f : Addr} {cdv : Value} {A : Around} {outer : List Env} {s : Shared} {H : Hp} {X : XK} (hr : Room 1 (A.deeper (PyProof.Rows.envOfC "_law_words" (defScope s__law_words) s.heap.objs.size f cdv))) :
    PSs (cxOf (L2.CX P ω) P ω K mg base N__law_words "_law_words" (defScope s__law_words) f cdv A outer s H X) (defBody s__law_words) (t__law_words K ω X) :=
  (pss_cons (ps_set (i := 2) sc__law_words.nd rfl (Or.inr rfl) pe_str)
    (pss_cons (ps_set (i := 3) sc__law_words.nd rfl (Or.inr rfl) (pe_join pe_str (pe_lc (own := [("_law_k", 4)]) (g := (gName 4)) (tt := tYes) rfl sc__law_words.nd  (pi_range1 rfl T.b_range (pa_cons pe_int pa_nil)) (blkOk_by (N := N__law_words) (sc := defScope s__law_words) (by decide +kernel)) (fun _ _ _ _ _ => (pg_name (i := 4) sc__law_words.nd rfl (Or.inl rfl))) (fun _ _ _ _ _ => pts_nil) (fun _ _ _ _ _ => (pe_ix ix_seq (pv 2) (pe_callF F__law_take (hr.mono (by decide)) passL (pa_cons (pv 0) (pa_cons pe_int pa_nil))) (fun _ _ => rfl))))))
    (pss_cons (ps_set (i := 5) sc__law_words.nd rfl (Or.inl rfl) (pe_callF F__law_take (hr.mono (by decide)) (passes_call (takes_of rfl rfl rfl rfl) (fun _ _ _ _ h => h)) (pa_cons (pv 0) (pa_cons pe_int pa_nil))))
    (pss_cons (ps_if (pt_cmpR op_lt (pv 5) pe_int (nomark _))
    (pss_cons (ps_set (i := 6) sc__law_words.nd rfl (Or.inl rfl) (pe_index (pv 2) (pe_ix ix_seq (pv 3) pe_int (fun _ _ => rfl))))
    (pss_cons (ps_set (i := 7) sc__law_words.nd rfl (Or.inl rfl) (pe_lst pa_nil))
    (pss_cons (ps_for (passes_of rfl) rfl (pi_range1 rfl T.b_range (pa_cons (pv 1) pa_nil)) (pg_name (i := 4) sc__law_words.nd rfl (Or.inl rfl))
    (pss_cons (ps_set (i := 8) sc__law_words.nd rfl (Or.inl rfl) (pe_ix ix_seq (pv 2) (pe_op op_modN (pe_op op_addV (pv 6) (pe_op op_mulU pe_int (pv 4))) pe_int) (fun _ _ => rfl)))
    (pss_one (ps_expr (pe_bm PySem.F.plainAttrs_list PySem.F.slot_list_append PySem.F.type_list_append mt_append (pv 7) (pa_cons (pe_op op_addV (pv 8) (pe_slice sl_str (pv 3) po_none (po_some (pe_op op_modN (pe_op op_addV (pv 5) (pe_op op_mulU pe_int (pv 4))) pe_int)))) pa_nil))))))
    (pss_one (ps_ret (pv 7))))))
    pss_nil)
    (pss_cons (ps_set (i := 9) sc__law_words.nd rfl (Or.inr rfl) (pe_op op_addV pe_int (pe_callF F__law_take (hr.mono (by decide)) (passes_call (takes_of rfl rfl rfl rfl) (fun _ _ _ _ h => h)) (pa_cons (pv 0) (pa_cons pe_int pa_nil)))))
    (pss_cons (ps_set (i := 10) sc__law_words.nd rfl (Or.inr rfl) (pe_callF F__law_take (hr.mono (by decide)) (passes_call (takes_of rfl rfl rfl rfl) (fun _ _ _ _ h => h)) (pa_cons (pv 0) (pa_cons (pv 9) pa_nil))))
    (pss_cons (ps_set (i := 11) sc__law_words.nd rfl (Or.inr rfl) (pe_callF F__law_take (hr.mono (by decide)) (passes_call (takes_of rfl rfl rfl rfl) (fun _ _ _ _ h => h)) (pa_cons (pv 0) (pa_cons pe_int pa_nil))))
    (pss_cons (ps_setLc (i := 12) (own := [("_law_k", 4)]) (g := (gName 4)) (tt := tYes) rfl sc__law_words.nd rfl rfl (sw_true rfl rfl rfl (by decide +kernel)) (pi_range1 rfl T.b_range (pa_cons (pv 1) pa_nil)) (blkOk_by (N := N__law_words) (sc := defScope s__law_words) (by decide +kernel)) (fun _ _ _ _ _ => (pg_name (i := 4) sc__law_words.nd rfl (Or.inl rfl))) (fun _ _ _ _ _ => pts_nil) (fun _ _ _ _ _ => (pe_ix ix_seq (pv 2) (pe_op op_modN (pe_op op_addV (pv 11) (pe_op op_mulU pe_int (pv 4))) pe_int) (fun _ _ => rfl))))
    (pss_one (ps_ret (pe_lc (own := [("_law_letter", 8)]) (g := (gName 8)) (tt := tYes) rfl sc__law_words.nd  (pi_seq (pv 12)) (blkOk_by (N := N__law_words) (sc := defScope s__law_words) (by decide +kernel)) (fun _ _ _ _ _ => (pg_name (i := 8) sc__law_words.nd rfl (Or.inl rfl))) (fun _ _ _ _ _ => pts_nil) (fun _ _ _ _ _ => (pe_op op_addV (pe_op op_addV (pe_slice sl_str (pv 3) po_none (po_some (pv 10))) (pv 8)) (pe_slice sl_str (pv 3) (po_some (pe_op op_addV (pv 10) pe_int)) (po_some (pv 9))))))))))))))))
theorem body__law_nodes (T : Txt K mg) (F__law_take : Fo P ω K mg base "_law_take" ["_law_well_here", "_law_many"] [] 1 (sp__law_take K ω)) (F__law_words : Fo P ω K mg base "_law_words" ["_law_well_here", "_law_many"] [] 2 (sp__law_words K ω)) {f : Addr} {cdv : Value} {A : Around} {outer : List Env} {s : Shared} {H : Hp} {X : XK} (hr : Room 2 (A.deeper (PyProof.Rows.envOfC "_law_nodes" (defScope s__law_nodes) s.heap.objs.size f cdv))) :
    PSs (cxOf (L2.CX P ω) P ω K mg base N__law_nodes "_law_nodes" (defScope s__law_nodes) f cdv A outer s H X) (defBody s__law_nodes) (t__law_nodes K ω X) :=
  (pss_cons (ps_set (i := 2) sc__law_nodes.nd rfl (Or.inr rfl) (pe_lst pa_nil))
    (pss_cons (ps_for (passes_of rfl) rfl (pi_seq (pe_callF F__law_words (hr.mono (by decide)) (passes_call (takes_of rfl rfl rfl rfl) (fun _ _ _ _ h => h)) (pa_cons (pv 0) (pa_cons pe_int pa_nil)))) (pg_name (i := 3) sc__law_nodes.nd rfl (Or.inl rfl))
    (pss_one (ps_expr (pe_bm PySem.F.plainAttrs_list PySem.F.slot_list_extend PySem.F.type_list_extend mt_extend (pv 2) (pa_cons (pe_lst (pa_cons (pe_tupP (pa_cons pe_str (pa_cons (pv 3) pa_nil))) (pa_cons (pe_tupP (pa_cons pe_str (pa_cons (pv 3) pa_nil))) pa_nil))) pa_nil)))))
    (pss_one (ps_ret (pe_lc (own := [("_law_k", 4)]) (g := (gName 4)) (tt := tYes) rfl sc__law_nodes.nd  (pi_range1 rfl T.b_range (pa_cons (pv 1) pa_nil)) (blkOk_by (N := N__law_nodes) (sc := defScope s__law_nodes) (by decide +kernel)) (fun _ _ _ _ _ => (pg_name (i := 4) sc__law_nodes.nd rfl (Or.inl rfl))) (fun _ _ _ _ _ => pts_nil) (fun _ _ _ _ _ => (pe_bm PySem.F.plainAttrs_list PySem.F.slot_list_pop PySem.F.type_list_pop mt_popAt (pv 2) (pa_cons (pe_callF F__law_take (hr.mono (by decide)) passL (pa_cons (pv 0) (pa_cons (pe_callB call_len rfl T.b_len (by decide +kernel) (pa_cons (pv 2) pa_nil)) pa_nil))) pa_nil))))))))
theorem body__law_few (T : Txt K mg) (F__law_take : Fo P ω K mg base "_law_take" ["_law_well_here", "_law_many"] [] 1 (sp__law_take K ω)) {f : Addr} {cdv : Value} {A : Around} {outer : List Env} {s : Shared} {H : Hp} {X : XK} (hr : Room 1 (A.deeper (PyProof.Rows.envOfC "_law_few" (defScope s__law_few) s.heap.objs.size f cdv))) :
    PSs (cxOf (L2.CX P ω) P ω K mg base N__law_few "_law_few" (defScope s__law_few) f cdv A outer s H X) (defBody s__law_few) (t__law_few K ω X) :=
  (pss_cons (ps_if (pt_cmpR (op_eqU hr.units) (pe_callF F__law_take (hr.mono (by decide)) (passes_call (takes_of rfl rfl rfl rfl) (fun _ _ _ _ h => h)) (pa_cons (pv 0) (pa_cons pe_int pa_nil))) pe_int (nomark _))
    (pss_one (ps_ret (pe_tupP (pa_cons (pe_op op_addV pe_int (pe_callF F__law_take (hr.mono (by decide)) (passes_call (takes_of rfl rfl rfl rfl) (fun _ _ _ _ h => h)) (pa_cons (pv 0) (pa_cons pe_int pa_nil)))) (pa_cons (pe_op op_addV pe_int (pe_callF F__law_take (hr.mono (by decide)) (passes_call (takes_of rfl rfl rfl rfl) (fun _ _ _ _ h => h)) (pa_cons (pv 0) (pa_cons pe_int pa_nil)))) pa_nil)))))
    pss_nil)
    (pss_one (ps_ret (pe_tupP (pa_cons (pe_op op_addV pe_int (pe_callF F__law_take (hr.mono (by decide)) (passes_call (takes_of rfl rfl rfl rfl) (fun _ _ _ _ h => h)) (pa_cons (pv 0) (pa_cons pe_int pa_nil)))) (pa_cons (pe_callF F__law_take (hr.mono (by decide)) (passes_call (takes_of rfl rfl rfl rfl) (fun _ _ _ _ h => h)) (pa_cons (pv 0) (pa_cons pe_int pa_nil))) pa_nil))))))
theorem body__law_chains (T : Txt K mg) {f : Addr} {cdv : Value} {A : Around} {outer : List Env} {s : Shared} {H : Hp} {X : XK} (hr : Room 0 (A.deeper (PyProof.Rows.envOfC "_law_chains" (defScope s__law_chains) s.heap.objs.size f cdv))) :
    PSs (cxOf (L2.CX P ω) P ω K mg base N__law_chains "_law_chains" (defScope s__law_chains) f cdv A outer s H X) (defBody s__law_chains) (t__law_chains K ω X) :=
  (pss_cons (ps_set (i := 1) sc__law_chains.nd rfl (Or.inl rfl) pe_hnew)
    (pss_cons (ps_setLc (i := 2) (own := [("_law_k", 3)]) (g := (gName 3)) (tt := tYes) rfl sc__law_chains.nd rfl rfl (sw_true rfl rfl rfl (by decide +kernel)) (pi_range1 rfl T.b_range (pa_cons (pe_callB call_len rfl T.b_len (by decide +kernel) (pa_cons (pv 0) pa_nil)) pa_nil)) (blkOk_by (N := N__law_chains) (sc := defScope s__law_chains) (by decide +kernel)) (fun _ _ _ _ _ => (pg_name (i := 3) sc__law_chains.nd rfl (Or.inl rfl))) (fun _ _ _ _ _ => pts_nil) (fun _ _ _ _ _ => (pe_tupP (pa_cons (pv 3) pa_nil))))
    (pss_cons (ps_while (passes_of rfl) (pt_cmpR (op_neU hr.units) (pv 2) (pe_lst pa_nil) (nomark _))
    (pss_cons (ps_set (i := 4) sc__law_chains.nd rfl (Or.inr rfl) (pe_bm0 PySem.F.plainAttrs_list PySem.F.slot_list_pop PySem.F.type_list_pop mt_pop (pv 2)))
    (pss_cons (ps_set (i := 5) sc__law_chains.nd rfl (Or.inr rfl) (pe_ix ix_seq (pe_ix ix_seq (pv 0) (pe_ix ix_seq (pv 4) (pe_un un_negU pe_int) (fun _ _ => rfl)) (fun _ _ => rfl)) pe_int (fun _ _ => rfl)))
    (pss_one (ps_if (pt_cmpR (op_eqU hr.units) (pv 5) (pe_ix ix_seq (pe_ix ix_seq (pv 0) (pe_ix ix_seq (pv 4) pe_int (fun _ _ => rfl)) (fun _ _ => rfl)) pe_int (fun _ _ => rfl)) (nomark _))
    (pss_cons (ps_set (i := 6) sc__law_chains.nd rfl (Or.inl rfl) (pe_bmT PySem.F.plainAttrs_tuple PySem.F.slot_tuple_index PySem.F.type_tuple_index mt_tup_indexI (pv 4) (pa_cons (pe_callB (cr_minT rfl hr.units) rfl T.b_min (by decide +kernel) (pa_cons (pv 4) pa_nil)) pa_nil)))
    (pss_one (ps_hput hr.units (pv 1) (pe_op op_addV (pe_slice sl_tupP (pv 4) (po_some (pv 6)) po_none) (pe_slice sl_tupP (pv 4) po_none (po_some (pv 6)))) pe_bl rfl)))
    (pss_one (ps_if (pt_cmpR (op_notInD (hu_65 hr)) (pv 5) (pe_lc (own := [("_law_k", 3)]) (g := (gName 3)) (tt := tYes) rfl sc__law_chains.nd  (pi_seq (pv 4)) (blkOk_by (N := N__law_chains) (sc := defScope s__law_chains) (by decide +kernel)) (fun _ _ _ _ _ => (pg_name (i := 3) sc__law_chains.nd rfl (Or.inl rfl))) (fun _ _ _ _ _ => pts_nil) (fun _ _ _ _ _ => (pe_ix ix_seq (pe_ix ix_seq (pv 0) (pv 3) (fun _ _ => rfl)) pe_int (fun _ _ => rfl)))) (by rfl))
    (pss_one (ps_expr (pe_bm PySem.F.plainAttrs_list PySem.F.slot_list_extend PySem.F.type_list_extend mt_extend (pv 2) (pa_cons (pe_lc (own := [("_law_k", 3)]) (g := (gName 3)) (tt := (tTest (tOp (qEq K) (tOp (rIx K) (tOp (rIx K) (tVar 0) (tVar 3)) (tC (.int 0))) (tVar 5)))) rfl sc__law_chains.nd  (pi_range1 rfl T.b_range (pa_cons (pe_callB call_len rfl T.b_len (by decide +kernel) (pa_cons (pv 0) pa_nil)) pa_nil)) (blkOk_by (N := N__law_chains) (sc := defScope s__law_chains) (by decide +kernel)) (fun _ _ _ _ _ => (pg_name (i := 3) sc__law_chains.nd rfl (Or.inl rfl))) (fun _ _ _ _ _ => pts_one (pt_cmpR (op_eqU hr.units) (pe_ix ix_seq (pe_ix ix_seq (pv 0) (pv 3) (fun _ _ => rfl)) pe_int (fun _ _ => rfl)) (pv 5) (nomark _))) (fun _ _ _ _ _ => (pe_op op_addV (pv 4) (pe_tupP (pa_cons (pv 3) pa_nil))))) pa_nil))))
    pss_nil)))))))
    (pss_one (ps_frz (ps_ret (pe_callB (cr_sortedH rfl hr.units) rfl T.b_sorted (by decide +kernel) (pa_cons (pv 1) pa_nil))))))))
theorem body__law_gaps (T : Txt K mg) (F__law_few : Fo P ω K mg base "_law_few" ["_law_well_here"] [] 2 (sp__law_few K ω)) (F__law_nodes : Fo P ω K mg base "_law_nodes" ["_law_well_here", "_law_many"] [] 3 (sp__law_nodes K ω)) (F__law_number : Fo P ω K mg base "_law_number" ["_law_well_here"] [] 3 (sp__law_number K ω)) (F__law_take : Fo P ω K mg base "_law_take" ["_law_well_here", "_law_many"] [] 1 (sp__law_take K ω)) {f : Addr} {cdv : Value} {A : Around} {outer : List Env} {s : Shared} {H : Hp} {X : XK} (hr : Room 3 (A.deeper (PyProof.Rows.envOfC "_law_gaps" (defScope s__law_gaps) s.heap.objs.size f cdv))) :
    PSs (cxOf (L2.CX P ω) P ω K mg base N__law_gaps "_law_gaps" (defScope s__law_gaps) f cdv A outer s H X) (defBody s__law_gaps) (t__law_gaps K ω X) :=
  (pss_cons (ps_asg (pe_callF F__law_few (hr.mono (by decide)) (passes_call (takes_of rfl rfl rfl rfl) (fun _ _ _ _ h => h)) (pa_cons (pv 0) pa_nil)) (pg_tup rfl (pgs_cons (pg_name (i := 1) sc__law_gaps.nd rfl (Or.inl rfl)) (pgs_cons (pg_name (i := 2) sc__law_gaps.nd rfl (Or.inl rfl)) pgs_nil))))
    (pss_cons (ps_set (i := 3) sc__law_gaps.nd rfl (Or.inl rfl) (pe_callF F__law_nodes (hr.mono (by decide)) (passes_call (takes_of rfl rfl rfl rfl) (fun _ _ _ _ h => h)) (pa_cons (pv 0) (pa_cons (pv 1) pa_nil))))
    (pss_cons (ps_set (i := 4) sc__law_gaps.nd rfl (Or.inl rfl) (pe_lst pa_nil))
    (pss_cons (ps_for (passes_of rfl) rfl (pi_range1 rfl T.b_range (pa_cons (pv 2) pa_nil)) (pg_name (i := 5) sc__law_gaps.nd rfl (Or.inl rfl))
    (pss_cons (ps_set (i := 6) sc__law_gaps.nd rfl (Or.inl rfl) (pe_ix ix_seq (pv 3) (pe_callF F__law_take (hr.mono (by decide)) (passes_call (takes_of rfl rfl rfl rfl) (fun _ _ _ _ h => h)) (pa_cons (pv 0) (pa_cons (pv 1) pa_nil))) (fun _ _ => rfl)))
    (pss_cons (ps_set (i := 7) sc__law_gaps.nd rfl (Or.inl rfl) (pe_ix ix_seq (pv 3) (pe_callF F__law_take (hr.mono (by decide)) (passes_call (takes_of rfl rfl rfl rfl) (fun _ _ _ _ h => h)) (pa_cons (pv 0) (pa_cons (pv 1) pa_nil))) (fun _ _ => rfl)))
    (pss_cons (ps_if (PW.pt (pw_and (pt_cmpR (op_neU hr.units) (pv 4) (pe_lst pa_nil) (nomark _)) (pw_and1 (pt_cmpR (op_eqU hr.units) (pe_callF F__law_take (hr.mono (by decide)) (passes_call (takes_of rfl rfl rfl rfl) (fun _ _ _ _ h => h)) (pa_cons (pv 0) (pa_cons pe_int pa_nil))) pe_int (nomark _)))))
    (pss_one (ps_asg (pe_slice sl_tupP (pe_ix ix_seq (pv 4) (pe_callF F__law_take (hr.mono (by decide)) (passes_call (takes_of rfl rfl rfl rfl) (fun _ _ _ _ h => h)) (pa_cons (pv 0) (pa_cons (pe_callB call_len rfl T.b_len (by decide +kernel) (pa_cons (pv 4) pa_nil)) pa_nil))) (fun _ _ => rfl)) po_none (po_some pe_int)) (pg_tup rfl (pgs_cons (pg_name (i := 7) sc__law_gaps.nd rfl (Or.inl rfl)) (pgs_cons (pg_name (i := 6) sc__law_gaps.nd rfl (Or.inl rfl)) pgs_nil)))))
    pss_nil)
    (pss_one (ps_expr (pe_bm PySem.F.plainAttrs_list PySem.F.slot_list_append PySem.F.type_list_append mt_append (pv 4) (pa_cons (pe_tupP (pa_cons (pv 6) (pa_cons (pv 7) (pa_cons (pe_tupP (pa_cons (pe_callF F__law_number (hr.mono (by decide)) (passes_call (takes_of rfl rfl rfl rfl) (fun _ _ _ _ h => h)) (pa_cons (pv 0) pa_nil)) (pa_cons (pe_tupP pa_nil) pa_nil))) pa_nil)))) pa_nil))))))))
    (pss_one (ps_ret (pv 4)))))))
theorem body__law_are_chains (T : Txt K mg) {f : Addr} {cdv : Value} {A : Around} {outer : List Env} {s : Shared} {H : Hp} {X : XK} (hr : Room 0 (A.deeper (PyProof.Rows.envOfC "_law_are_chains" (defScope s__law_are_chains) s.heap.objs.size f cdv))) :
    PSs (cxOf (L2.CX P ω) P ω K mg base N__law_are_chains "_law_are_chains" (defScope s__law_are_chains) f cdv A outer s H X) (defBody s__law_are_chains) (t__law_are_chains K ω X) :=
  (pss_cons (ps_if (pt_not (pt_val (pe_callB call_isiA rfl T.b_isinstance (by decide +kernel) (pa_cons (pv 0) (pa_cons (pe_bltn rfl T.b_list (by decide +kernel) rfl) pa_nil)))))
    (pss_one (ps_ret pe_bl))
    pss_nil)
    (pss_cons (ps_for (passes_of rfl) rfl (pi_seq (pv 0)) (pg_name (i := 1) sc__law_are_chains.nd rfl (Or.inl rfl))
    (pss_one (ps_if (PW.pt (pw_or (pt_not (pt_val (pe_callB call_isiA rfl T.b_isinstance (by decide +kernel) (pa_cons (pv 1) (pa_cons (pe_bltn rfl T.b_tuple (by decide +kernel) rfl) pa_nil))))) (pw_or1 (pt_cmpR op_in_seq pe_bl (pe_lc (own := [("_law_k", 2)]) (g := (gName 2)) (tt := tYes) rfl sc__law_are_chains.nd  (pi_seq (pv 1)) (blkOk_by (N := N__law_are_chains) (sc := defScope s__law_are_chains) (by decide +kernel)) (fun _ _ _ _ _ => (pg_name (i := 2) sc__law_are_chains.nd rfl (Or.inl rfl))) (fun _ _ _ _ _ => pts_nil) (fun _ _ _ _ _ => (pe_and (pe_callB call_isiA rfl T.b_isinstance (by decide +kernel) (pa_cons (pv 2) (pa_cons (pe_bltn rfl T.b_int (by decide +kernel) rfl) pa_nil))) (pe_one (pe_not (pe_callB call_isiA rfl T.b_isinstance (by decide +kernel) (pa_cons (pv 2) (pa_cons (pe_bltn rfl T.b_bool (by decide +kernel) rfl) pa_nil)))))))) (by rfl)))))
    (pss_one (ps_ret pe_bl))
    pss_nil)))
    (pss_one (ps_ret pe_bl))))
theorem body_law (T : Txt K mg) (F__law_are_chains : Fo P ω K mg base "_law_are_chains" ["_law_found"] [] 1 (sp__law_are_chains K ω)) (F__law_chains : Fo P ω K mg base "_law_chains" ["_law_gaps_here"] [] 1 (sp__law_chains K ω)) (F__law_gaps : Fo P ω K mg base "_law_gaps" ["_law_well_here"] [] 4 (sp__law_gaps K ω)) (F__law_well : Fo P ω K mg base "_law_well" ["_law_script", "_law_k"] [] 1 (sp__law_well K ω)) (F_chains_of : Fo P ω K mg base "chains_of" ["gaps"] [] 26 (sp_chains_of K ω)) (F_nodes_of : Fo P ω K mg base "nodes_of" ["gaps"] [] 1 (sp_nodes_of K ω)) {f : Addr} {cdv : Value} {A : Around} {outer : List Env} {s : Shared} {H : Hp} {X : XK} (hr : Room 26 (A.deeper (PyProof.Rows.envOfC "law" (defScope s_law) s.heap.objs.size f cdv))) :
    PSs (cxOf (L2.CX P ω) P ω K mg base N_law "law" (defScope s_law) f cdv A outer s H X) (defBody s_law) (t_law K ω X) :=
  (pss_cons (ps_for (passes_of rfl) rfl (pi_range1 rfl T.b_range (pa_cons (pe_callB (call_max2 rfl) rfl T.b_max (by decide +kernel) (pa_cons pe_int (pa_cons (pe_callB (call_min2 rfl) rfl T.b_min (by decide +kernel) (pa_cons (pe_callB call_len rfl T.b_len (by decide +kernel) (pa_cons (pv 0) pa_nil)) (pa_cons pe_int pa_nil))) pa_nil))) pa_nil)) (pg_name (i := 1) sc_law.nd rfl (Or.inl rfl))
    (pss_cons (ps_set (i := 2) sc_law.nd rfl (Or.inl rfl) (pe_callF F__law_gaps (hr.mono (by decide)) (passes_call (takes_of rfl rfl rfl rfl) (fun _ _ _ _ h => h)) (pa_cons (pe_callF F__law_well (hr.mono (by decide)) (passes_call (takes_of rfl rfl rfl rfl) (fun _ _ _ _ h => h)) (pa_cons (pv 0) (pa_cons (pv 1) pa_nil))) pa_nil)))
    (pss_cons (ps_set (i := 3) sc_law.nd rfl (Or.inl rfl) (pe_sortSet rfl hr.units rfl T.b_sorted rfl T.b_set (pe_op op_addV (pe_lc (own := [("_law_gap", 4)]) (g := (gName 4)) (tt := tYes) rfl sc_law.nd  (pi_seq (pv 2)) (blkOk_by (N := N_law) (sc := defScope s_law) (by decide +kernel)) (fun _ _ _ _ _ => (pg_name (i := 4) sc_law.nd rfl (Or.inl rfl))) (fun _ _ _ _ _ => pts_nil) (fun _ _ _ _ _ => (pe_ix ix_seq (pv 4) pe_int (fun _ _ => rfl)))) (pe_lc (own := [("_law_gap", 4)]) (g := (gName 4)) (tt := tYes) rfl sc_law.nd  (pi_seq (pv 2)) (blkOk_by (N := N_law) (sc := defScope s_law) (by decide +kernel)) (fun _ _ _ _ _ => (pg_name (i := 4) sc_law.nd rfl (Or.inl rfl))) (fun _ _ _ _ _ => pts_nil) (fun _ _ _ _ _ => (pe_ix ix_seq (pv 4) pe_int (fun _ _ => rfl)))))))
    (pss_cons (ps_set (i := 5) sc_law.nd rfl (Or.inl rfl) (pe_callF F__law_chains (hr.mono (by decide)) (passes_call (takes_of rfl rfl rfl rfl) (fun _ _ _ _ h => h)) (pa_cons (pv 2) pa_nil)))
    (pss_cons (ps_set (i := 6) sc_law.nd rfl (Or.inl rfl) (pe_callTy (call_lstU rfl) rfl T.b_list (by decide +kernel) (pa_cons (pv 2) pa_nil)))
    (pss_cons (ps_for (passes_of rfl) rfl (pi_range1 rfl T.b_range (pa_cons pe_int pa_nil)) (pg_name (i := 7) sc_law.nd rfl (Or.inl rfl))
    (pss_cons (ps_set (i := 8) sc_law.nd rfl (Or.inl rfl) (pe_callF F_nodes_of (hr.mono (by decide)) (passes_call (takes_of rfl rfl rfl rfl) (fun _ _ _ _ h => h)) (pa_cons (pv 6) pa_nil)))
    (pss_cons (ps_set (i := 9) sc_law.nd rfl (Or.inl rfl) (pe_callF F_chains_of (hr.mono (by decide)) (passes_call (takes_of rfl rfl rfl rfl) (fun _ _ _ _ h => h)) (pa_cons (pv 6) pa_nil)))
    (pss_cons (ps_if (PW.pt (pw_or (pt_not (pt_val (pe_callB call_isiA rfl T.b_isinstance (by decide +kernel) (pa_cons (pv 8) (pa_cons (pe_bltn rfl T.b_list (by decide +kernel) rfl) pa_nil))))) (pw_or (pt_cmpR (op_neU hr.units) (pv 8) (pv 3) (nomark _)) (pw_or (pt_not (pt_val (pe_callF F__law_are_chains (hr.mono (by decide)) (passes_call (takes_of rfl rfl rfl rfl) (fun _ _ _ _ h => h)) (pa_cons (pv 9) pa_nil)))) (pw_or1 (pt_cmpR (op_neU hr.units) (pv 9) (pv 5) (nomark _)))))))
    (pss_one (ps_ret pe_bl))
    pss_nil)
    (pss_cons (ps_expr (pe_bm0 PySem.F.plainAttrs_list PySem.F.slot_list_clear PySem.F.type_list_clear mt_clear (pv 8)))
    (pss_one (ps_expr (pe_bm0 PySem.F.plainAttrs_list PySem.F.slot_list_clear PySem.F.type_list_clear mt_clear (pv 9)))))))))
    (pss_one (ps_if (pt_cmpR (op_neU hr.units) (pv 6) (pv 2) (nomark _))
    (pss_one (ps_ret pe_bl))
    pss_nil))))))))
    (pss_one (ps_ret (pe_and (pe_cmpR (op_eqU hr.units) (pe_callF F_nodes_of (hr.mono (by decide)) (passes_call (takes_of rfl rfl rfl rfl) (fun _ _ _ _ h => h)) (pa_cons (pe_lst pa_nil) pa_nil)) (pe_lst pa_nil) (nomark _)) (pe_one (pe_cmpR (op_eqU hr.units) (pe_callF F_chains_of (hr.mono (by decide)) (passes_call (takes_of rfl rfl rfl rfl) (fun _ _ _ _ h => h)) (pa_cons (pe_lst pa_nil) pa_nil)) (pe_lst pa_nil) (nomark _)))))))
end
end N21
set_option Elab.async false
set_option linter.all false
set_option maxRecDepth 100000
set_option synthInstance.maxSize 4000
set_option maxHeartbeats 4000000
open PySem PySem.Spec L2 TL
local macro_rules | `(tactic| walk_at "sle") => `(tactic| repeat' first | exact SLe.nil | refine SLe.keep ?_ | refine SLe.drop ?_)
local macro_rules | `(tactic| walk_at "sub") => `(tactic| repeat' first | exact List.Sublist.refl _ | refine List.Sublist.cons₂ _ ?_ | refine List.Sublist.cons _ ?_)
local macro_rules | `(tactic| walk_at "dd") => `(tactic| try dsimp only [List.set, List.eraseIdx])
local macro_rules | `(tactic| walk_at "cond") => `(tactic| (show SLe _ _; repeat' first | exact SLe.nil | refine SLe.keep ?_ | refine SLe.drop ?_))
namespace N21
section
variable {K : PySem.W.Frag} {ω : World} {mg : Str → Option Value} {D0 : Own} {F0 : Hp} {E : Ends} {X : XK}
theorem walk_nodes_of (T : Txt K mg) {vgaps : (List ((Tx × Tx) × (Tx × Tx) × (Rat × (List (Tx × Rat)))))} (hnx : ∀ (F : Hp) (K : PySem.W.Frag) G D1, GoV E.rt F (DN K) D1 → Go E.nx F G D1) (hP : (w_nodes_of K ω X E.rt D0).W F0 (m_nodes_of vgaps)) :
    Go (t_nodes_of K ω X E) F0 [some ((LT K (T3 K (T2 K (tD K eS) (tD K eS)) (T2 K (tD K eS) (tD K eS)) (T2 K (tD K eQ) (VP K (T2 K (tD K eS) (tD K eQ)))))) vgaps), none, none, none, none] D0 := by
  unfold m_nodes_of at hP
  refine go_seq (go_setNC (w := (w_nodes_of K ω X E.rt D0)) (evnc_lst0 (R := (T2 K (tD K eS) (tD K eS)))) hP fun x1 p2 hP => ?_)
  walk_at "dd"
  refine go_seq (go_forC (w := (w_nodes_of K ω X E.rt D0)) (σt := (List (Tx × Tx))) (evItc_l (evc_var (R := (LT K (T3 K (T2 K (tD K eS) (tD K eS)) (T2 K (tD K eS) (tD K eS)) (T2 K (tD K eQ) (VP K (T2 K (tD K eS) (tD K eQ))))))) (vgaps) rfl)) (fun s3 => [some ((LT K (T3 K (T2 K (tD K eS) (tD K eS)) (T2 K (tD K eS) (tD K eS)) (T2 K (tD K eQ) (VP K (T2 K (tD K eS) (tD K eQ)))))) vgaps), some (Is (.ref p2)), none, none, none]) (fun s3 => (p2, (OLT (T2 K (tD K eS) (tD K eS))) (s3)) :: D0) x1 (fun s3 x4 => [some ((LT K (T3 K (T2 K (tD K eS) (tD K eS)) (T2 K (tD K eS) (tD K eS)) (T2 K (tD K eQ) (VP K (T2 K (tD K eS) (tD K eQ)))))) vgaps), some (Is (.ref p2)), some ((T2 K (tD K eS) (tD K eS)) x4.1), some ((T2 K (tD K eS) (tD K eS)) x4.2.1), some ((T2 K (tD K eQ) (VP K (T2 K (tD K eS) (tD K eQ)))) x4.2.2)]) hP (by walk_at "sle") (by walk_at "sub") (fun _ => trivial) (fun _ _ => (evG_tupT (evGsT_cons evG_name (evGsT_cons evG_name (evGsT_cons evG_name evGsT_nil))) rfl)) ?_ ?_)
  · intro F6 t6 s3 hP
    unfold m_nodes_of_k1 at hP
    walk_at "dd"
    refine go_frzLT (K := K) (k := 0) (i := 1) (R := (T2 K (tD K eS) (tD K eS))) rfl rfl ?_
    walk_at "dd"
    walk_at "dd"
    exact go_retNC (w := (w_nodes_of K ω X E.rt D0)) (Dd := fun _ : Unit => D0) (s := ()) (fun v _ => v) (evnc_sortSet (k := (kn2 klS klS)) (Rk := (T2 K (tD K eS) (tD K eS))) (fun x => d_T (dd_cons ((d_b (e := eS)) x.1) (dd_cons ((d_b (e := eS)) x.2) dd_nil))) (ant_2 ant_S ant_S so_S so_S enc_S enc_S) (so_2 so_S so_S) (by decide) lv_LT (evc_var (R := (LT K (T2 K (tD K eS) (tD K eS)))) (s3) rfl)) hP (fun F v s h => (show GoN _ _ _ _ from h).drop (by walk_at "sub"))
  · intro hB6 F6 t6 x4 s3 n5 Nx hN6 hP
    unfold m_nodes_of_b2 at hP
    walk_at "dd"
    refine go_extNC (w := (w_nodes_of K ω X E.rt D0)) (Dd := fun _ : Unit => (p2, (OLT (T2 K (tD K eS) (tD K eS))) (s3)) :: D0) (s := ()) (R := (T2 K (tD K eS) (tD K eS))) (xs := s3) (n := 1) rfl (evnc_lst (eval_cons (evc_var (R := (T2 K (tD K eS) (tD K eS))) (x4.1) rfl) fun _ => (eval_cons (evc_var (R := (T2 K (tD K eS) (tD K eS))) (x4.2.1) rfl) fun _ => eval_nil))) (at_n 0 fun _ => rfl) hP fun x8 hP => ?_
    walk_at "dd"
    exact (hN6 _ (Same.refl _) x8.1 hP).weak (by walk_at "sle") (by walk_at "sub")
theorem pure_nodes_of (T : Txt K mg) (vs : List V) (H : Hp) (Q : VK) (X : XK) (h : sp_nodes_of K ω vs H Q X) : t_nodes_of K ω X { nx := fun _ H' => Q .non H', rt := Q } (L2.start N_nodes_of vs) H :=
  pure_ofPF (fun x F D E hrt hnx hP => by
    subst hrt
    exact walk_nodes_of T hnx hP) h
theorem len_nodes_of (K : PySem.W.Frag) : ∀ vs H Q E, sp_nodes_of K ω vs H Q E → vs.length = 1 := spP_len fun _ => rfl
theorem walk_chains_behind (m : Nat) (T : Txt K mg) {vgaps : (List ((Tx × Tx) × (Tx × Tx) × (Rat × (List (Tx × Rat)))))} {vway : (List Int)} (hnx : ∀ (F : Hp) (K : PySem.W.Frag) G D1, GoV E.rt F (DN K) D1 → Go E.nx F G D1) (hP : (w_chains_behind K ω X E.rt D0).W F0 (m_chains_behind_st (m_chains_behind_r m) vgaps vway)) :
    Go (t_chains_behind m K ω X E) F0 [some ((LT K (T3 K (T2 K (tD K eS) (tD K eS)) (T2 K (tD K eS) (tD K eS)) (T2 K (tD K eQ) (VP K (T2 K (tD K eS) (tD K eQ)))))) vgaps), some ((LT K (tD K eI)) vway), none, none, none] D0 := by
  unfold m_chains_behind_st at hP
  refine go_seq (go_setC (w := (w_chains_behind K ω X E.rt D0)) (evc_ixT (i := 1) (Rs := fun x : ((Tx × Tx) × (Tx × Tx) × (Rat × (List (Tx × Rat)))) => [(T2 K (tD K eS) (tD K eS)) x.1, (T2 K (tD K eS) (tD K eS)) x.2.1, (T2 K (tD K eQ) (VP K (T2 K (tD K eS) (tD K eQ)))) x.2.2]) (R' := (T2 K (tD K eS) (tD K eS))) (f := fun x => x.2.1) (evc_ix sv_LT (evc_var (R := (LT K (T3 K (T2 K (tD K eS) (tD K eS)) (T2 K (tD K eS) (tD K eS)) (T2 K (tD K eQ) (VP K (T2 K (tD K eS) (tD K eQ))))))) (vgaps) rfl) fun _ => (evc_ix sv_LT (evc_var (R := (LT K (tD K eI))) (vway) rfl) fun _ => (evc_neg evc_int))) fun _ => rfl) hP fun x1 hP => ?_)
  walk_at "dd"
  refine go_seq (go_ifC (w := (w_chains_behind K ω X E.rt D0)) (evtc_test (evc_eq (enc_2 enc_S enc_S) (evc_weak (R' := tD K (e2 eS eS)) (evc_var (R := (T2 K (tD K eS) (tD K eS))) (x1) rfl) (fun x => d_T (dd_cons ((d_b (e := eS)) x.1) (dd_cons ((d_b (e := eS)) x.2) dd_nil)))) fun _ => (evc_weak (R' := tD K (e2 eS eS)) (evc_ixT (i := 0) (Rs := fun x : ((Tx × Tx) × (Tx × Tx) × (Rat × (List (Tx × Rat)))) => [(T2 K (tD K eS) (tD K eS)) x.1, (T2 K (tD K eS) (tD K eS)) x.2.1, (T2 K (tD K eQ) (VP K (T2 K (tD K eS) (tD K eQ)))) x.2.2]) (R' := (T2 K (tD K eS) (tD K eS))) (f := fun x => x.1) (evc_ix sv_LT (evc_var (R := (LT K (T3 K (T2 K (tD K eS) (tD K eS)) (T2 K (tD K eS) (tD K eS)) (T2 K (tD K eQ) (VP K (T2 K (tD K eS) (tD K eQ))))))) (vgaps) rfl) fun _ => (evc_ix sv_LT (evc_var (R := (LT K (tD K eI))) (vway) rfl) fun _ => evc_int)) fun _ => rfl) (fun x => d_T (dd_cons ((d_b (e := eS)) x.1) (dd_cons ((d_b (e := eS)) x.2) dd_nil)))))) hP ?_ ?_)
  · intro hP
    walk_at "dd"
    exact go_retC (w := (w_chains_behind K ω X E.rt D0)) (Dd := fun _ : Unit => D0) (s := ()) (fun v _ => v) (evc_frzLT (evnc_lst (eval_cons (evc_tupOf (f := id) (evc_var (R := (LT K (tD K eI))) (vway) rfl) tv_l) fun _ => eval_nil))) hP (fun F v s h => (show GoV _ _ _ _ from h).drop (by walk_at "sub"))
  · intro hP
    walk_at "dd"
    refine go_next ?_
    walk_at "dd"
    refine go_seq (go_setNC (w := (w_chains_behind K ω X E.rt D0)) (evnc_lst0 (R := (VP K (tD K eI)))) hP fun x2 p3 hP => ?_)
    walk_at "dd"
    refine go_seq (go_join (w := (w_chains_behind K ω X E.rt D0)) m_chains_behind_k1 (fun s14 => [some ((LT K (T3 K (T2 K (tD K eS) (tD K eS)) (T2 K (tD K eS) (tD K eS)) (T2 K (tD K eQ) (VP K (T2 K (tD K eS) (tD K eQ)))))) vgaps), some ((LT K (tD K eI)) vway), some ((T2 K (tD K eS) (tD K eS)) x1), some ((LT K (VP K (tD K eI))) s14), none]) (fun s14 => D0) ?_ ?_)
    · intro F15 t15 s14 hP
      unfold m_chains_behind_k1 at hP
      walk_at "dd"
      exact go_retC (w := (w_chains_behind K ω X E.rt D0)) (Dd := fun _ : Unit => D0) (s := ()) (fun v _ => v) (evc_var (R := (LT K (VP K (tD K eI)))) (s14) rfl) hP (fun F v s h => (show GoV _ _ _ _ from h).drop (by walk_at "sub"))
    · intro hk15
      walk_at "dd"
      refine go_ifC (w := (w_chains_behind K ω X E.rt D0)) (evtc_test (evc_notinM (enc_2 enc_S enc_S) (fun x => d_T (dd_cons ((d_b (e := eS)) x.1) (dd_cons ((d_b (e := eS)) x.2) dd_nil))) lv_LT (evc_var (R := (T2 K (tD K eS) (tD K eS))) (x1) rfl) fun _ => (evc_frzLT (evnc_lc0 (G1 := (fun x9 => [some ((LT K (T3 K (T2 K (tD K eS) (tD K eS)) (T2 K (tD K eS) (tD K eS)) (T2 K (tD K eQ) (VP K (T2 K (tD K eS) (tD K eQ)))))) vgaps), some ((LT K (tD K eI)) vway), some ((T2 K (tD K eS) (tD K eS)) x1), some (Is (.ref p3)), some ((tD K eI) x9)])) (evItc_l (evc_var (R := (LT K (tD K eI))) (vway) rfl)) (fun _ => (evW_name (by decide))) (fun _ _ => trivial) (fun x9 _ cq => (evc_ixT (i := 0) (Rs := fun x : ((Tx × Tx) × (Tx × Tx) × (Rat × (List (Tx × Rat)))) => [(T2 K (tD K eS) (tD K eS)) x.1, (T2 K (tD K eS) (tD K eS)) x.2.1, (T2 K (tD K eQ) (VP K (T2 K (tD K eS) (tD K eQ)))) x.2.2]) (R' := (T2 K (tD K eS) (tD K eS))) (f := fun x => x.1) (evc_ix sv_LT (evc_var (R := (LT K (T3 K (T2 K (tD K eS) (tD K eS)) (T2 K (tD K eS) (tD K eS)) (T2 K (tD K eQ) (VP K (T2 K (tD K eS) (tD K eQ))))))) (vgaps) rfl) fun _ => (evc_var (R := (tD K eI)) (x9) rfl)) fun _ => rfl)))))) hP ?_ ?_
      · intro hP
        walk_at "dd"
        refine go_forC (w := (w_chains_behind K ω X E.rt D0)) (σt := (List (List Int))) (evItc_rng2 (evc_add (evc_ix sv_LT (evc_var (R := (LT K (tD K eI))) (vway) rfl) fun _ => evc_int) fun _ => evc_int) fun _ => (evc_len sv_LT (evc_var (R := (LT K (T3 K (T2 K (tD K eS) (tD K eS)) (T2 K (tD K eS) (tD K eS)) (T2 K (tD K eQ) (VP K (T2 K (tD K eS) (tD K eQ))))))) (vgaps) rfl))) (fun s17 => [some ((LT K (T3 K (T2 K (tD K eS) (tD K eS)) (T2 K (tD K eS) (tD K eS)) (T2 K (tD K eQ) (VP K (T2 K (tD K eS) (tD K eQ)))))) vgaps), some ((LT K (tD K eI)) vway), some ((T2 K (tD K eS) (tD K eS)) x1), some (Is (.ref p3)), none]) (fun s17 => (p3, (OLT (VP K (tD K eI))) (s17)) :: D0) x2 (fun s17 x18 => [some ((LT K (T3 K (T2 K (tD K eS) (tD K eS)) (T2 K (tD K eS) (tD K eS)) (T2 K (tD K eQ) (VP K (T2 K (tD K eS) (tD K eQ)))))) vgaps), some ((LT K (tD K eI)) vway), some ((T2 K (tD K eS) (tD K eS)) x1), some (Is (.ref p3)), some ((tD K eI) x18)]) hP (by walk_at "sle") (by walk_at "sub") (fun _ => trivial) (fun _ _ => evG_name) ?_ ?_
        · intro F20 t20 s17 hP
          unfold m_chains_behind_k2 at hP
          walk_at "dd"
          refine go_frzLT (K := K) (k := 0) (i := 3) (R := (VP K (tD K eI))) rfl rfl ?_
          walk_at "dd"
          walk_at "dd"
          exact ((hk15 _ t20 s17) hP).weak (by walk_at "sle") (by walk_at "sub")
        · intro hB20 F20 t20 x18 s17 n19 Nx hN20 hP
          unfold m_chains_behind_b4 at hP
          walk_at "dd"
          refine go_join (w := (w_chains_behind K ω X E.rt D0)) (m_chains_behind_k3 n19) (fun s21 => [some ((LT K (T3 K (T2 K (tD K eS) (tD K eS)) (T2 K (tD K eS) (tD K eS)) (T2 K (tD K eQ) (VP K (T2 K (tD K eS) (tD K eQ)))))) vgaps), some ((LT K (tD K eI)) vway), some ((T2 K (tD K eS) (tD K eS)) x1), some (Is (.ref p3)), some ((tD K eI) x18)]) (fun s21 => (p3, (OLT (VP K (tD K eI))) (s21)) :: D0) ?_ ?_
          · intro F22 t22 s21 hP
            unfold m_chains_behind_k3 at hP
            walk_at "dd"
            exact (hN20 _ t22 s21 hP).weak (by walk_at "sle") (by walk_at "sub")
          · intro hk22
            walk_at "dd"
            refine go_ifC (w := (w_chains_behind K ω X E.rt D0)) (evtc_test (evc_eq (enc_2 enc_S enc_S) (evc_weak (R' := tD K (e2 eS eS)) (evc_ixT (i := 0) (Rs := fun x : ((Tx × Tx) × (Tx × Tx) × (Rat × (List (Tx × Rat)))) => [(T2 K (tD K eS) (tD K eS)) x.1, (T2 K (tD K eS) (tD K eS)) x.2.1, (T2 K (tD K eQ) (VP K (T2 K (tD K eS) (tD K eQ)))) x.2.2]) (R' := (T2 K (tD K eS) (tD K eS))) (f := fun x => x.1) (evc_ix sv_LT (evc_var (R := (LT K (T3 K (T2 K (tD K eS) (tD K eS)) (T2 K (tD K eS) (tD K eS)) (T2 K (tD K eQ) (VP K (T2 K (tD K eS) (tD K eQ))))))) (vgaps) rfl) fun _ => (evc_var (R := (tD K eI)) (x18) rfl)) fun _ => rfl) (fun x => d_T (dd_cons ((d_b (e := eS)) x.1) (dd_cons ((d_b (e := eS)) x.2) dd_nil)))) fun _ => (evc_weak (R' := tD K (e2 eS eS)) (evc_var (R := (T2 K (tD K eS) (tD K eS))) (x1) rfl) (fun x => d_T (dd_cons ((d_b (e := eS)) x.1) (dd_cons ((d_b (e := eS)) x.2) dd_nil)))))) hP ?_ ?_
            · intro hP
              walk_at "dd"
              refine go_extSC (w := (w_chains_behind K ω X E.rt D0)) (Dd := fun _ : Unit => (p3, (OLT (VP K (tD K eI))) (s17)) :: D0) (s := ()) (R := (VP K (tD K eI))) (xs := s17) (n := 3) rfl (evc_callP (fun _ _ _ _ h => h) (evac_cons (evc_var (R := (LT K (T3 K (T2 K (tD K eS) (tD K eS)) (T2 K (tD K eS) (tD K eS)) (T2 K (tD K eQ) (VP K (T2 K (tD K eS) (tD K eQ))))))) (vgaps) rfl) fun _ => (evac_cons (evc_catLT (evc_var (R := (LT K (tD K eI))) (vway) rfl) fun _ => (evc_frzLT (evnc_lst (eval_cons (evc_var (R := (tD K eI)) (x18) rfl) fun _ => eval_nil)))) fun _ => evac_nil)) (fun _ => by walk_at "sub")) (at_n 0 fun _ => rfl) hP fun x23 hP => ?_
              walk_at "dd"
              exact ((hk22 _ (Same.refl _) x23.1) hP).weak (by walk_at "sle") (by walk_at "sub")
            · intro hP
              walk_at "dd"
              refine go_next ?_
              walk_at "dd"
              exact ((hk22 _ (Same.refl _) s17) hP).weak (by walk_at "sle") (by walk_at "sub")
      · intro hP
        walk_at "dd"
        refine go_next ?_
        walk_at "dd"
        refine go_frzLT (K := K) (k := 0) (i := 3) (R := (VP K (tD K eI))) rfl rfl ?_
        walk_at "dd"
        walk_at "dd"
        exact ((hk15 _ (Same.refl _) x2) hP).weak (by walk_at "sle") (by walk_at "sub")
theorem pure_chains_behind (T : Txt K mg) (m : Nat) (vs : List V) (H : Hp) (Q : VK) (X : XK) (h : sp_chains_behind_r (m + 1) K ω vs H Q X) : t_chains_behind m K ω X { nx := fun _ H' => Q .non H', rt := Q } (L2.start N_chains_behind vs) H :=
  pure_ofPF (fun x F D E hrt hnx hP => by
    subst hrt
    exact walk_chains_behind m T hnx hP) h
theorem len_chains_behind_r (m : Nat) (K : PySem.W.Frag) : ∀ vs H Q E, sp_chains_behind_r m K ω vs H Q E → vs.length = 2 := spP_len fun _ => rfl
theorem rec0_chains_behind {vs : List V} {H : Hp} {Q : VK} {X : XK} (h : sp_chains_behind_r 0 K ω vs H Q X) : False := let ⟨_, _, _, _, _, hp⟩ := h; (show False from hp)
theorem walk_chains_of (T : Txt K mg) {vgaps : (List ((Tx × Tx) × (Tx × Tx) × (Rat × (List (Tx × Rat)))))} (hnx : ∀ (F : Hp) (K : PySem.W.Frag) G D1, GoV E.rt F (DN K) D1 → Go E.nx F G D1) (hP : (w_chains_of K ω X E.rt D0).W F0 (m_chains_of vgaps)) :
    Go (t_chains_of K ω X E) F0 [some ((LT K (T3 K (T2 K (tD K eS) (tD K eS)) (T2 K (tD K eS) (tD K eS)) (T2 K (tD K eQ) (VP K (T2 K (tD K eS) (tD K eQ)))))) vgaps), none, none] D0 := by
  unfold m_chains_of at hP
  refine go_seq (go_setNC (w := (w_chains_of K ω X E.rt D0)) (evnc_lst0 (R := (VP K (tD K eI)))) hP fun x1 p2 hP => ?_)
  walk_at "dd"
  refine go_seq (go_forC (w := (w_chains_of K ω X E.rt D0)) (σt := (List (List Int))) (evItc_rng1 (evc_len sv_LT (evc_var (R := (LT K (T3 K (T2 K (tD K eS) (tD K eS)) (T2 K (tD K eS) (tD K eS)) (T2 K (tD K eQ) (VP K (T2 K (tD K eS) (tD K eQ))))))) (vgaps) rfl))) (fun s4 => [some ((LT K (T3 K (T2 K (tD K eS) (tD K eS)) (T2 K (tD K eS) (tD K eS)) (T2 K (tD K eQ) (VP K (T2 K (tD K eS) (tD K eQ)))))) vgaps), some (Is (.ref p2)), none]) (fun s4 => (p2, (OLT (VP K (tD K eI))) (s4)) :: D0) x1 (fun s4 x5 => [some ((LT K (T3 K (T2 K (tD K eS) (tD K eS)) (T2 K (tD K eS) (tD K eS)) (T2 K (tD K eQ) (VP K (T2 K (tD K eS) (tD K eQ)))))) vgaps), some (Is (.ref p2)), some ((tD K eI) x5)]) hP (by walk_at "sle") (by walk_at "sub") (fun _ => trivial) (fun _ _ => evG_name) ?_ ?_)
  · intro F7 t7 s4 hP
    unfold m_chains_of_k1 at hP
    walk_at "dd"
    exact go_retOC (w := (w_chains_of K ω X E.rt D0)) (k := 0) (i := 1) (O := (OLT (VP K (tD K eI)))) (s4) _ rfl rfl hP fun F h => (show GoN _ _ _ _ from h).drop (by walk_at "sub")
  · intro hB7 F7 t7 x5 s4 n6 Nx hN7 hP
    unfold m_chains_of_b2 at hP
    walk_at "dd"
    refine go_extSC (w := (w_chains_of K ω X E.rt D0)) (Dd := fun _ : Unit => (p2, (OLT (VP K (tD K eI))) (s4)) :: D0) (s := ()) (R := (VP K (tD K eI))) (xs := s4) (n := 1) rfl (evc_callP (fun _ _ _ _ h => h) (evac_cons (evc_var (R := (LT K (T3 K (T2 K (tD K eS) (tD K eS)) (T2 K (tD K eS) (tD K eS)) (T2 K (tD K eQ) (VP K (T2 K (tD K eS) (tD K eQ))))))) (vgaps) rfl) fun _ => (evac_cons (evc_frzLT (evnc_lst (eval_cons (evc_var (R := (tD K eI)) (x5) rfl) fun _ => eval_nil))) fun _ => evac_nil)) (fun _ => by walk_at "sub")) (at_n 0 fun _ => rfl) hP fun x8 hP => ?_
    walk_at "dd"
    exact (hN7 _ (Same.refl _) x8.1 hP).weak (by walk_at "sle") (by walk_at "sub")
theorem pure_chains_of (T : Txt K mg) (vs : List V) (H : Hp) (Q : VK) (X : XK) (h : sp_chains_of K ω vs H Q X) : t_chains_of K ω X { nx := fun _ H' => Q .non H', rt := Q } (L2.start N_chains_of vs) H :=
  pure_ofPF (fun x F D E hrt hnx hP => by
    subst hrt
    exact walk_chains_of T hnx hP) h
theorem len_chains_of (K : PySem.W.Frag) : ∀ vs H Q E, sp_chains_of K ω vs H Q E → vs.length = 1 := spP_len fun _ => rfl
theorem walk__law_well (T : Txt K mg) {vscript : (List Int)} {vk : Int} (hnx : ∀ (F : Hp) (K : PySem.W.Frag) G D1, GoV E.rt F (DN K) D1 → Go E.nx F G D1) (hP : (w__law_well K ω X E.rt D0).W F0 (l_well vscript vk)) :
    Go (t__law_well K ω X E) F0 [some ((LT K (tD K eI)) vscript), some ((tD K eI) vk), none] D0 := by
  unfold l_well at hP
  refine go_seq (go_setC (w := (w__law_well K ω X E.rt D0)) evc_int hP fun x1 hP => ?_)
  walk_at "dd"
  refine go_seq (go_join (w := (w__law_well K ω X E.rt D0)) (l_well_k1 vk) (fun s2 => [some ((LT K (tD K eI)) vscript), some ((tD K eI) vk), some ((tD K eI) s2)]) (fun s2 => D0) ?_ ?_)
  · intro F3 t3 s2 hP
    unfold l_well_k1 at hP
    walk_at "dd"
    exact go_retNC (w := (w__law_well K ω X E.rt D0)) (Dd := fun _ : Unit => D0) (s := ()) (fun v _ => v) (evnc_lst (eval_cons (evc_intB (evc_ge (evc_abs (evc_var (R := (tD K eI)) (s2) rfl)) fun _ => (evc_powC (c := (1000000000000000000 : Int)) (by decide) (by decide +kernel)))) fun _ => (eval_cons (evc_var (R := (tD K eI)) (s2) rfl) fun _ => (eval_cons (evc_mul evc_int fun _ => (evc_var (R := (tD K eI)) (vk) rfl)) fun _ => eval_nil)))) hP (fun F v s h => (show GoN _ _ _ _ from h).drop (by walk_at "sub"))
  · intro hk3
    walk_at "dd"
    refine go_ifC (w := (w__law_well K ω X E.rt D0)) (evtc_test (evc_lt (evc_var (R := (tD K eI)) (vk) rfl) fun _ => (evc_len sv_LT (evc_var (R := (LT K (tD K eI))) (vscript) rfl)))) hP ?_ ?_
    · intro hP
      walk_at "dd"
      refine go_setC (w := (w__law_well K ω X E.rt D0)) (evc_ix sv_LT (evc_var (R := (LT K (tD K eI))) (vscript) rfl) fun _ => (evc_var (R := (tD K eI)) (vk) rfl)) hP fun x5 hP => ?_
      walk_at "dd"
      exact ((hk3 _ (Same.refl _) x5) hP).weak (by walk_at "sle") (by walk_at "sub")
    · intro hP
      walk_at "dd"
      refine go_next ?_
      walk_at "dd"
      exact ((hk3 _ (Same.refl _) x1) hP).weak (by walk_at "sle") (by walk_at "sub")
theorem pure__law_well (T : Txt K mg) (vs : List V) (H : Hp) (Q : VK) (X : XK) (h : sp__law_well K ω vs H Q X) : t__law_well K ω X { nx := fun _ H' => Q .non H', rt := Q } (L2.start N__law_well vs) H :=
  pure_ofPF (fun x F D E hrt hnx hP => by
    subst hrt
    exact walk__law_well T hnx hP) h
theorem len__law_well (K : PySem.W.Frag) : ∀ vs H Q E, sp__law_well K ω vs H Q E → vs.length = 2 := spP_len fun _ => rfl
theorem walk__law_take (T : Txt K mg) {vwell_here : (List Int)} {vmany : Int} {Dp : (List Int) → Own} {k : Nat} {a : Addr} (B : Bor1 Dp k a (OLT (tD K eI))) (hnx : ∀ (F : Hp) (K : PySem.W.Frag) G D1, GoV E.rt F (DN K) D1 → Go E.nx F G D1) (hP : (w__law_take K ω X E.rt Dp).W F0 (l_take vwell_here vmany)) :
    Go (t__law_take K ω X E) F0 [some (Is (.ref a)), some ((tD K eI) vmany), none, none, none] (Dp vwell_here) := by
  unfold l_take at hP
  refine go_seq (go_ifC (w := (w__law_take K ω X E.rt Dp)) (evtc_test (evc_eq enc_I (evc_ix (sv_O (Re := (tD K eI)) (xs := vwell_here) (fun _ => B.get1 _)) (evc_var (R := fun _ : Unit => Is (.ref a)) () rfl) fun _ => evc_int) fun _ => evc_int)) hP ?_ ?_)
  · intro hP
    walk_at "dd"
    refine go_seq (go_setC (w := (w__law_take K ω X E.rt Dp)) (evc_mod (evc_ix (sv_O (Re := (tD K eI)) (xs := vwell_here) (fun _ => B.get1 _)) (evc_var (R := fun _ : Unit => Is (.ref a)) () rfl) fun _ => evc_int) fun _ => (evc_var (R := (tD K eI)) (vmany) rfl)) hP fun x1 hP => ?_)
    walk_at "dd"
    refine go_seq (go_setO1 (w := (w__law_take K ω X E.rt Dp)) (Dd := fun _ : Unit => Dp (vwell_here)) (s := ()) (R := (tD K eI)) (xs := vwell_here) (n := 0) rfl (evc_div (evc_ix (sv_O (Re := (tD K eI)) (xs := vwell_here) (fun _ => B.get1 _)) (evc_var (R := fun _ : Unit => Is (.ref a)) () rfl) fun _ => evc_int) fun _ => (evc_var (R := (tD K eI)) (vmany) rfl)) (fun _ => evc_int) (fun _ => B.get1 _) hP fun x2 hP => ?_)
    walk_at "dd"
    rw [B.set_]
    exact go_retC (w := (w__law_take K ω X E.rt Dp)) (Dd := fun _ : Unit => Dp (x2.1)) (s := ()) (fun v _ => (v, x2.1)) (evc_var (R := (tD K eI)) (x1) rfl) hP (fun F v s h => (show GoV _ _ _ _ from h).drop (by walk_at "sub"))
  · intro hP
    walk_at "dd"
    refine go_next ?_
    walk_at "dd"
    refine go_seq (go_setC (w := (w__law_take K ω X E.rt Dp)) (evc_add (evc_ix (sv_O (Re := (tD K eI)) (xs := vwell_here) (fun _ => B.get1 _)) (evc_var (R := fun _ : Unit => Is (.ref a)) () rfl) fun _ => evc_int) fun _ => evc_int) hP fun x8 hP => ?_)
    walk_at "dd"
    refine go_seq (go_setO1 (w := (w__law_take K ω X E.rt Dp)) (Dd := fun _ : Unit => Dp (vwell_here)) (s := ()) (R := (tD K eI)) (xs := vwell_here) (n := 0) rfl (evc_var (R := (tD K eI)) (x8) rfl) (fun _ => evc_int) (fun _ => B.get1 _) hP fun x9 hP => ?_)
    walk_at "dd"
    rw [B.set_]
    refine go_seq (go_setC (w := (w__law_take K ω X E.rt Dp)) (evc_mod (evc_mul (evc_add (evc_add (evc_ix (sv_O (Re := (tD K eI)) (xs := x9.1) (fun _ => B.get1 _)) (evc_var (R := fun _ : Unit => Is (.ref a)) () rfl) fun _ => evc_int) fun _ => (evc_mul (evc_mul evc_int fun _ => (evc_var (R := (tD K eI)) (x8) rfl)) fun _ => (evc_var (R := (tD K eI)) (x8) rfl))) fun _ => (evc_var (R := (tD K eI)) (x8) rfl)) fun _ => evc_int) fun _ => evc_int) hP fun x11 hP => ?_)
    walk_at "dd"
    exact go_retC (w := (w__law_take K ω X E.rt Dp)) (Dd := fun _ : Unit => Dp (x9.1)) (s := ()) (fun v _ => (v, x9.1)) (evc_mod (evc_div (evc_mod (evc_add (evc_mul (evc_var (R := (tD K eI)) (x11) rfl) fun _ => evc_int) fun _ => evc_int) fun _ => evc_int) fun _ => evc_int) fun _ => (evc_var (R := (tD K eI)) (vmany) rfl)) hP (fun F v s h => (show GoV _ _ _ _ from h).drop (by walk_at "sub"))
theorem pure__law_take (T : Txt K mg) (vs : List V) (H : Hp) (Q : VK) (X : XK) (h : sp__law_take K ω vs H Q X) : t__law_take K ω X { nx := fun _ H' => Q .non H', rt := Q } (L2.start N__law_take vs) H :=
  pure_ofCF (fun x y F Dp k a E B hrt hnx hP => by
    subst hrt
    exact walk__law_take T B hnx hP) h
theorem len__law_take (K : PySem.W.Frag) : ∀ vs H Q E, sp__law_take K ω vs H Q E → vs.length = 2 := spC_len fun _ _ => rfl
theorem walk__law_common (T : Txt K mg) {vone : Int} {vother : Int} (hnx : ∀ (F : Hp) (K : PySem.W.Frag) G D1, GoV E.rt F (DN K) D1 → Go E.nx F G D1) (hP : (w__law_common K ω X E.rt D0).W F0 (l_common vone vother)) :
    Go (t__law_common K ω X E) F0 [some ((tD K eI) vone), some ((tD K eI) vother)] D0 := by
  unfold l_common at hP
  refine go_seq (go_whileC (w := (w__law_common K ω X E.rt D0)) (σt := (Int × Int)) (Mt := fun s1 kk => kk (!decide (s1.2 = (0 : Int))) ()) (mb := l_common_b2) (k := l_common_k1) (fun s1 => [some ((tD K eI) s1.1), some ((tD K eI) s1.2)]) (fun s1 => D0) (vone, vother) Res.fuel (fun s1 => (evtc_test (evc_ne enc_I (evc_var (R := (tD K eI)) (s1.2) rfl) fun _ => evc_int))) hP (by walk_at "sle") (by walk_at "sub") ?_ ?_)
  · intro F3 t3 s1 hP
    unfold l_common_k1 at hP
    walk_at "dd"
    exact go_retC (w := (w__law_common K ω X E.rt D0)) (Dd := fun _ : Unit => D0) (s := ()) (fun v _ => v) (evc_abs (evc_var (R := (tD K eI)) (s1.1) rfl)) hP (fun F v s h => (show GoV _ _ _ _ from h).drop (by walk_at "sub"))
  · intro hB3 F3 t3 s1 n2 Nx hN3 hP
    unfold l_common_b2 at hP
    walk_at "dd"
    refine go_parC (w := (w__law_common K ω X E.rt D0)) (evac_cons (evc_var (R := (tD K eI)) (s1.2) rfl) fun _ => (evac_cons (evc_mod (evc_var (R := (tD K eI)) (s1.1) rfl) fun _ => (evc_var (R := (tD K eI)) (s1.2) rfl)) fun _ => evac_nil)) hP fun x4 hP => ?_
    walk_at "dd"
    exact (hN3 _ (Same.refl _) (x4.1, x4.2) hP).weak (by walk_at "sle") (by walk_at "sub")
theorem pure__law_common (T : Txt K mg) (vs : List V) (H : Hp) (Q : VK) (X : XK) (h : sp__law_common K ω vs H Q X) : t__law_common K ω X { nx := fun _ H' => Q .non H', rt := Q } (L2.start N__law_common vs) H :=
  pure_ofPF (fun x F D E hrt hnx hP => by
    subst hrt
    exact walk__law_common T hnx hP) h
theorem len__law_common (K : PySem.W.Frag) : ∀ vs H Q E, sp__law_common K ω vs H Q E → vs.length = 2 := spP_len fun _ => rfl
theorem walk__law_num (T : Txt K mg) {vtop : Int} {vbottom : Int} (hnx : ∀ (F : Hp) (K : PySem.W.Frag) G D1, GoV E.rt F (DN K) D1 → Go E.nx F G D1) (hP : (w__law_num K ω X E.rt D0).W F0 (l_num vtop vbottom)) :
    Go (t__law_num K ω X E) F0 [some ((tD K eI) vtop), some ((tD K eI) vbottom), none] D0 := by
  unfold l_num at hP
  refine go_seq (go_join (w := (w__law_num K ω X E.rt D0)) l_num_k1 (fun s1 => [some ((tD K eI) s1.1), some ((tD K eI) s1.2), none]) (fun s1 => D0) ?_ ?_)
  · intro F2 t2 s1 hP
    unfold l_num_k1 at hP
    walk_at "dd"
    refine go_seq (go_setC (w := (w__law_num K ω X E.rt D0)) (evc_callP (fun _ _ _ _ h => h) (evac_cons (evc_var (R := (tD K eI)) (s1.1) rfl) fun _ => (evac_cons (evc_var (R := (tD K eI)) (s1.2) rfl) fun _ => evac_nil)) (fun _ => by walk_at "sub")) hP fun x3 hP => ?_)
    walk_at "dd"
    exact go_retC (w := (w__law_num K ω X E.rt D0)) (Dd := fun _ : Unit => D0) (s := ()) (fun v _ => v) (evc_mkQP (evac_cons (evc_div (evc_var (R := (tD K eI)) (s1.1) rfl) fun _ => (evc_var (R := (tD K eI)) (x3) rfl)) fun _ => (evac_cons (evc_div (evc_var (R := (tD K eI)) (s1.2) rfl) fun _ => (evc_var (R := (tD K eI)) (x3) rfl)) fun _ => evac_nil))) hP (fun F v s h => (show GoV _ _ _ _ from h).drop (by walk_at "sub"))
  · intro hk2
    walk_at "dd"
    refine go_ifC (w := (w__law_num K ω X E.rt D0)) (evtc_test (evc_lt (evc_var (R := (tD K eI)) (vbottom) rfl) fun _ => evc_int)) hP ?_ ?_
    · intro hP
      walk_at "dd"
      refine go_seq (go_setC (w := (w__law_num K ω X E.rt D0)) (evc_sub evc_int fun _ => (evc_var (R := (tD K eI)) (vtop) rfl)) hP fun x8 hP => ?_)
      walk_at "dd"
      refine go_setC (w := (w__law_num K ω X E.rt D0)) (evc_sub evc_int fun _ => (evc_var (R := (tD K eI)) (vbottom) rfl)) hP fun x9 hP => ?_
      walk_at "dd"
      exact ((hk2 _ (Same.refl _) (x8, x9)) hP).weak (by walk_at "sle") (by walk_at "sub")
    · intro hP
      walk_at "dd"
      refine go_next ?_
      walk_at "dd"
      exact ((hk2 _ (Same.refl _) (vtop, vbottom)) hP).weak (by walk_at "sle") (by walk_at "sub")
theorem pure__law_num (T : Txt K mg) (vs : List V) (H : Hp) (Q : VK) (X : XK) (h : sp__law_num K ω vs H Q X) : t__law_num K ω X { nx := fun _ H' => Q .non H', rt := Q } (L2.start N__law_num vs) H :=
  pure_ofPF (fun x F D E hrt hnx hP => by
    subst hrt
    exact walk__law_num T hnx hP) h
theorem len__law_num (K : PySem.W.Frag) : ∀ vs H Q E, sp__law_num K ω vs H Q E → vs.length = 2 := spP_len fun _ => rfl
theorem walk__law_number (T : Txt K mg) {vwell_here : (List Int)} {Dp : (List Int) → Own} {k : Nat} {a : Addr} (B : Bor1 Dp k a (OLT (tD K eI))) (hnx : ∀ (F : Hp) (K : PySem.W.Frag) G D1, GoV E.rt F (DN K) D1 → Go E.nx F G D1) (hP : (w__law_number K ω X E.rt Dp).W F0 (l_number_k11 vwell_here)) :
    Go (t__law_number K ω X E) F0 [some (Is (.ref a)), none] (Dp vwell_here) := by
  unfold l_number_k11 at hP
  refine go_seq (go_setCS (w := (w__law_number K ω X E.rt Dp)) (Dd := fun (s : (List Int)) => Dp s) (s := vwell_here) (evc_callC0 (fun _ _ _ _ h => h) B (evac_cons (evc_var (R := fun _ : Unit => Is (.ref a)) () rfl) fun _ => (evac_cons evc_int fun _ => evac_nil)) (fun _ => by walk_at "sub")) hP fun x1 hP => ?_)
  walk_at "dd"
  refine go_seq (go_ifC (w := (w__law_number K ω X E.rt Dp)) (evtc_test (evc_eq enc_I (evc_var (R := (tD K eI)) (x1.1) rfl) fun _ => evc_int)) hP ?_ ?_)
  · intro hP
    walk_at "dd"
    exact go_retC (w := (w__law_number K ω X E.rt Dp)) (Dd := fun (s : (List Int)) => Dp s) (s := x1.2) (fun v s => (v, s)) (evc_mkQP (evac_cons (evc_sub (evc_callC0 (fun _ _ _ _ h => h) B (evac_cons (evc_var (R := fun _ : Unit => Is (.ref a)) () rfl) fun _ => (evac_cons (evc_add (evc_mul evc_int fun _ => (evc_powC (c := (100000000000000000 : Int)) (by decide) (by decide +kernel))) fun _ => evc_int) fun _ => evac_nil)) (fun _ => by walk_at "sub")) fun _ => (evc_powC (c := (100000000000000000 : Int)) (by decide) (by decide +kernel))) fun _ => (evac_cons evc_int fun _ => evac_nil))) hP (fun F v s h => (show GoV _ _ _ _ from h).drop (by walk_at "sub"))
  · intro hP
    walk_at "dd"
    refine go_next ?_
    walk_at "dd"
    refine go_seq (go_ifC (w := (w__law_number K ω X E.rt Dp)) (evtc_test (evc_eq enc_I (evc_var (R := (tD K eI)) (x1.1) rfl) fun _ => evc_int)) hP ?_ ?_)
    · intro hP
      walk_at "dd"
      exact go_retC (w := (w__law_number K ω X E.rt Dp)) (Dd := fun (s : (List Int)) => Dp s) (s := x1.2) (fun v s => (v, s)) (evc_callPE (fun _ _ _ _ h => h) (fun s => s) (evac_cons (evc_sub (evc_callC0 (fun _ _ _ _ h => h) B (evac_cons (evc_var (R := fun _ : Unit => Is (.ref a)) () rfl) fun _ => (evac_cons (evc_add (evc_mul evc_int fun _ => (evc_powC (c := (100000000 : Int)) (by decide) (by decide +kernel))) fun _ => evc_int) fun _ => evac_nil)) (fun _ => by walk_at "sub")) fun _ => (evc_powC (c := (100000000 : Int)) (by decide) (by decide +kernel))) fun _ => (evac_cons (evc_add evc_int fun _ => (evc_callC0 (fun _ _ _ _ h => h) B (evac_cons (evc_var (R := fun _ : Unit => Is (.ref a)) () rfl) fun _ => (evac_cons (evc_powC (c := (100000000 : Int)) (by decide) (by decide +kernel)) fun _ => evac_nil)) (fun _ => by walk_at "sub"))) fun _ => evac_nil)) (fun _ => by walk_at "sub")) hP (fun F v s h => (show GoV _ _ _ _ from h).drop (by walk_at "sub"))
    · intro hP
      walk_at "dd"
      refine go_next ?_
      walk_at "dd"
      refine go_seq (go_ifC (w := (w__law_number K ω X E.rt Dp)) (evtc_test (evc_gt (evc_var (R := (tD K eI)) (x1.1) rfl) fun _ => evc_int)) hP ?_ ?_)
      · intro hP
        walk_at "dd"
        exact go_retC (w := (w__law_number K ω X E.rt Dp)) (Dd := fun (s : (List Int)) => Dp s) (s := x1.2) (fun v s => (v, s)) (evc_callPE (fun _ _ _ _ h => h) (fun s => s) (evac_cons (evc_sub (evc_callC0 (fun _ _ _ _ h => h) B (evac_cons (evc_var (R := fun _ : Unit => Is (.ref a)) () rfl) fun _ => (evac_cons evc_int fun _ => evac_nil)) (fun _ => by walk_at "sub")) fun _ => evc_int) fun _ => (evac_cons (evc_add evc_int fun _ => (evc_callC0 (fun _ _ _ _ h => h) B (evac_cons (evc_var (R := fun _ : Unit => Is (.ref a)) () rfl) fun _ => (evac_cons evc_int fun _ => evac_nil)) (fun _ => by walk_at "sub"))) fun _ => evac_nil)) (fun _ => by walk_at "sub")) hP (fun F v s h => (show GoV _ _ _ _ from h).drop (by walk_at "sub"))
      · intro hP
        walk_at "dd"
        refine go_next ?_
        walk_at "dd"
        exact go_retC (w := (w__law_number K ω X E.rt Dp)) (Dd := fun (s : (List Int)) => Dp s) (s := x1.2) (fun v s => (v, s)) (evc_mkQP (evac_cons (evc_sub (evc_callC0 (fun _ _ _ _ h => h) B (evac_cons (evc_var (R := fun _ : Unit => Is (.ref a)) () rfl) fun _ => (evac_cons evc_int fun _ => evac_nil)) (fun _ => by walk_at "sub")) fun _ => evc_int) fun _ => (evac_cons evc_int fun _ => evac_nil))) hP (fun F v s h => (show GoV _ _ _ _ from h).drop (by walk_at "sub"))
theorem pure__law_number (T : Txt K mg) (vs : List V) (H : Hp) (Q : VK) (X : XK) (h : sp__law_number K ω vs H Q X) : t__law_number K ω X { nx := fun _ H' => Q .non H', rt := Q } (L2.start N__law_number vs) H :=
  pure_ofCF (fun x y F Dp k a E B hrt hnx hP => by
    subst hrt
    exact walk__law_number T B hnx hP) h
theorem len__law_number (K : PySem.W.Frag) : ∀ vs H Q E, sp__law_number K ω vs H Q E → vs.length = 1 := spC_len fun _ _ => rfl
theorem walk__law_words (T : Txt K mg) {vwell_here : (List Int)} {vmany : Int} {Dp : (List Int) → Own} {k : Nat} {a : Addr} (B : Bor1 Dp k a (OLT (tD K eI))) (hnx : ∀ (F : Hp) (K : PySem.W.Frag) G D1, GoV E.rt F (DN K) D1 → Go E.nx F G D1) (hP : (w__law_words K ω X E.rt Dp).W F0 (l_words_k21 vwell_here vmany)) :
    Go (t__law_words K ω X E) F0 [some (Is (.ref a)), some ((tD K eI) vmany), none, none, none, none, none, none, none, none, none, none, none] (Dp vwell_here) := by
  unfold l_words_k21 at hP
  refine go_seq (go_setC (w := (w__law_words K ω X E.rt Dp)) (evc_strC sx_32d10c7b rfl) hP fun x1 hP => ?_)
  walk_at "dd"
  refine go_seq (go_setCS (w := (w__law_words K ω X E.rt Dp)) (Dd := fun (s : (List Int)) => Dp s) (s := vwell_here) (evc_join (evc_strC sx_da39a3ee rfl) fun _ => (evc_weak (R' := tD K (eL eS)) (evc_frzLT (evnc_lc0 (G1 := (fun x4 => [some (Is (.ref a)), some ((tD K eI) vmany), some ((tD K eS) x1), none, some ((tD K eI) x4), none, none, none, none, none, none, none, none])) (evItc_rng1 evc_int) (fun _ => (evW_name (by decide))) (fun _ _ => trivial) (fun x4 _ cq => (evc_ixS (evc_var (R := (tD K eS)) (x1) rfl) fun _ => (evc_callC (fun _ _ _ _ h => h) (fun _ : (List Int) => ()) (Bor.cons B) (evac_cons (evc_var (R := fun _ : Unit => Is (.ref a)) () rfl) fun _ => (evac_cons evc_int fun _ => evac_nil)) (fun _ => List.nil_sublist _)))))) (d_L (R := (tD K eS)) (e := eS) (d_b (e := eS))))) hP fun x2 hP => ?_)
  walk_at "dd"
  refine go_seq (go_setCS (w := (w__law_words K ω X E.rt Dp)) (Dd := fun (s : (List Int)) => Dp s) (s := x2.2) (evc_callC0 (fun _ _ _ _ h => h) B (evac_cons (evc_var (R := fun _ : Unit => Is (.ref a)) () rfl) fun _ => (evac_cons evc_int fun _ => evac_nil)) (fun _ => by walk_at "sub")) hP fun x10 hP => ?_)
  walk_at "dd"
  refine go_seq (go_ifC (w := (w__law_words K ω X E.rt Dp)) (evtc_test (evc_lt (evc_var (R := (tD K eI)) (x10.1) rfl) fun _ => evc_int)) hP ?_ ?_)
  · intro hP
    walk_at "dd"
    refine go_seq (go_setC (w := (w__law_words K ω X E.rt Dp)) (evc_index (evc_var (R := (tD K eS)) (x1) rfl) fun _ => (evc_ixS (evc_var (R := (tD K eS)) (x2.1) rfl) fun _ => evc_int)) hP fun x11 hP => ?_)
    walk_at "dd"
    refine go_seq (go_setNC (w := (w__law_words K ω X E.rt Dp)) (evnc_lst0 (R := (tD K eS))) hP fun x12 p13 hP => ?_)
    walk_at "dd"
    refine go_seq (go_forC (w := (w__law_words K ω X E.rt Dp)) (σt := (List Tx)) (evItc_rng1 (evc_var (R := (tD K eI)) (vmany) rfl)) (fun s15 => [some (Is (.ref a)), some ((tD K eI) vmany), some ((tD K eS) x1), some ((tD K eS) x2.1), none, some ((tD K eI) x10.1), some ((tD K eI) x11), some (Is (.ref p13)), none, none, none, none, none]) (fun s15 => (p13, (OLT (tD K eS)) (s15)) :: Dp (x10.2)) x12 (fun s15 x16 => [some (Is (.ref a)), some ((tD K eI) vmany), some ((tD K eS) x1), some ((tD K eS) x2.1), some ((tD K eI) x16), some ((tD K eI) x10.1), some ((tD K eI) x11), some (Is (.ref p13)), none, none, none, none, none]) hP (by walk_at "sle") (by walk_at "sub") (fun _ => trivial) (fun _ _ => evG_name) ?_ ?_)
    · intro F18 t18 s15 hP
      unfold l_words_k21_k1 at hP
      walk_at "dd"
      refine go_frzLT (K := K) (k := 0) (i := 7) (R := (tD K eS)) rfl rfl ?_
      walk_at "dd"
      walk_at "dd"
      exact go_retC (w := (w__law_words K ω X E.rt Dp)) (Dd := fun _ : Unit => Dp (x10.2)) (s := ()) (fun v _ => (v, x10.2)) (evc_var (R := (LT K (tD K eS))) (s15) rfl) hP (fun F v s h => (show GoV _ _ _ _ from h).drop (by walk_at "sub"))
    · intro hB18 F18 t18 x16 s15 n17 Nx hN18 hP
      unfold l_words_k21_b2 at hP
      walk_at "dd"
      refine go_seq (go_setC (w := (w__law_words K ω X E.rt Dp)) (evc_ixS (evc_var (R := (tD K eS)) (x1) rfl) fun _ => (evc_mod (evc_add (evc_var (R := (tD K eI)) (x11) rfl) fun _ => (evc_mul evc_int fun _ => (evc_var (R := (tD K eI)) (x16) rfl))) fun _ => evc_int)) hP fun x19 hP => ?_)
      walk_at "dd"
      refine go_appC (w := (w__law_words K ω X E.rt Dp)) (Dd := fun _ : Unit => (p13, (OLT (tD K eS)) (s15)) :: Dp (x10.2)) (s := ()) (R := (tD K eS)) (xs := s15) (n := 7) rfl (evc_addS (evc_var (R := (tD K eS)) (x19) rfl) fun _ => (evc_slS (evc_var (R := (tD K eS)) (x2.1) rfl) (fun _ => evo_none) fun _ => (evo_some (evc_mod (evc_add (evc_var (R := (tD K eI)) (x10.1) rfl) fun _ => (evc_mul evc_int fun _ => (evc_var (R := (tD K eI)) (x16) rfl))) fun _ => evc_int)))) (at_n 0 fun _ => rfl) hP fun x20 hP => ?_
      walk_at "dd"
      exact (hN18 _ (Same.refl _) x20.1 hP).weak (by walk_at "sle") (by walk_at "sub")
  · intro hP
    walk_at "dd"
    refine go_next ?_
    walk_at "dd"
    refine go_seq (go_setCS (w := (w__law_words K ω X E.rt Dp)) (Dd := fun (s : (List Int)) => Dp s) (s := x10.2) (evc_add evc_int fun _ => (evc_callC0 (fun _ _ _ _ h => h) B (evac_cons (evc_var (R := fun _ : Unit => Is (.ref a)) () rfl) fun _ => (evac_cons evc_int fun _ => evac_nil)) (fun _ => by walk_at "sub"))) hP fun x30 hP => ?_)
    walk_at "dd"
    refine go_seq (go_setCS (w := (w__law_words K ω X E.rt Dp)) (Dd := fun (s : (List Int)) => Dp s) (s := x30.2) (evc_callC0 (fun _ _ _ _ h => h) B (evac_cons (evc_var (R := fun _ : Unit => Is (.ref a)) () rfl) fun _ => (evac_cons (evc_var (R := (tD K eI)) (x30.1) rfl) fun _ => evac_nil)) (fun _ => by walk_at "sub")) hP fun x31 hP => ?_)
    walk_at "dd"
    refine go_seq (go_setCS (w := (w__law_words K ω X E.rt Dp)) (Dd := fun (s : (List Int)) => Dp s) (s := x31.2) (evc_callC0 (fun _ _ _ _ h => h) B (evac_cons (evc_var (R := fun _ : Unit => Is (.ref a)) () rfl) fun _ => (evac_cons evc_int fun _ => evac_nil)) (fun _ => by walk_at "sub")) hP fun x32 hP => ?_)
    walk_at "dd"
    refine go_seq (go_setC (w := (w__law_words K ω X E.rt Dp)) (evc_frzLT (evnc_lc0 (G1 := (fun x35 => [some (Is (.ref a)), some ((tD K eI) vmany), some ((tD K eS) x1), some ((tD K eS) x2.1), some ((tD K eI) x35), some ((tD K eI) x10.1), none, none, none, some ((tD K eI) x30.1), some ((tD K eI) x31.1), some ((tD K eI) x32.1), none])) (evItc_rng1 (evc_var (R := (tD K eI)) (vmany) rfl)) (fun _ => (evW_name (by decide))) (fun _ _ => trivial) (fun x35 _ cq => (evc_ixS (evc_var (R := (tD K eS)) (x1) rfl) fun _ => (evc_mod (evc_add (evc_var (R := (tD K eI)) (x32.1) rfl) fun _ => (evc_mul evc_int fun _ => (evc_var (R := (tD K eI)) (x35) rfl))) fun _ => evc_int))))) hP fun x33 hP => ?_)
    walk_at "dd"
    exact go_retC (w := (w__law_words K ω X E.rt Dp)) (Dd := fun _ : Unit => Dp (x32.2)) (s := ()) (fun v _ => (v, x32.2)) (evc_frzLT (evnc_lc0 (G1 := (fun x42 => [some (Is (.ref a)), some ((tD K eI) vmany), some ((tD K eS) x1), some ((tD K eS) x2.1), none, some ((tD K eI) x10.1), none, none, some ((tD K eS) x42), some ((tD K eI) x30.1), some ((tD K eI) x31.1), some ((tD K eI) x32.1), some ((LT K (tD K eS)) x33)])) (evItc_l (evc_var (R := (LT K (tD K eS))) (x33) rfl)) (fun _ => (evW_name (by decide))) (fun _ _ => trivial) (fun x42 _ cq => (evc_addS (evc_addS (evc_slS (evc_var (R := (tD K eS)) (x2.1) rfl) (fun _ => evo_none) fun _ => (evo_some (evc_var (R := (tD K eI)) (x31.1) rfl))) fun _ => (evc_var (R := (tD K eS)) (x42) rfl)) fun _ => (evc_slS (evc_var (R := (tD K eS)) (x2.1) rfl) (fun _ => (evo_some (evc_add (evc_var (R := (tD K eI)) (x31.1) rfl) fun _ => evc_int))) fun _ => (evo_some (evc_var (R := (tD K eI)) (x30.1) rfl))))))) hP (fun F v s h => (show GoV _ _ _ _ from h).drop (by walk_at "sub"))
theorem pure__law_words (T : Txt K mg) (vs : List V) (H : Hp) (Q : VK) (X : XK) (h : sp__law_words K ω vs H Q X) : t__law_words K ω X { nx := fun _ H' => Q .non H', rt := Q } (L2.start N__law_words vs) H :=
  pure_ofCF (fun x y F Dp k a E B hrt hnx hP => by
    subst hrt
    exact walk__law_words T B hnx hP) h
theorem len__law_words (K : PySem.W.Frag) : ∀ vs H Q E, sp__law_words K ω vs H Q E → vs.length = 2 := spC_len fun _ _ => rfl
theorem walk__law_nodes (T : Txt K mg) {vwell_here : (List Int)} {vmany : Int} {Dp : (List Int) → Own} {k : Nat} {a : Addr} (B : Bor1 Dp k a (OLT (tD K eI))) (hnx : ∀ (F : Hp) (K : PySem.W.Frag) G D1, GoV E.rt F (DN K) D1 → Go E.nx F G D1) (hP : (w__law_nodes K ω X E.rt Dp).W F0 (l_nodes_k21 vwell_here vmany)) :
    Go (t__law_nodes K ω X E) F0 [some (Is (.ref a)), some ((tD K eI) vmany), none, none, none] (Dp vwell_here) := by
  unfold l_nodes_k21 at hP
  refine go_seq (go_setNC (w := (w__law_nodes K ω X E.rt Dp)) (evnc_lst0 (R := (T2 K (tD K eS) (tD K eS)))) hP fun x1 p2 hP => ?_)
  walk_at "dd"
  refine go_seq (go_forCS (w := (w__law_nodes K ω X E.rt Dp)) (σt := ((List (Tx × Tx)) × (List Int))) (Dd := fun (s : (List Int)) => (p2, (OLT (T2 K (tD K eS) (tD K eS))) (x1)) :: Dp s) (s := vwell_here) (evItc_l (evc_callC0 (fun _ _ _ _ h => h) (Bor.cons B) (evac_cons (evc_var (R := fun _ : Unit => Is (.ref a)) () rfl) fun _ => (evac_cons evc_int fun _ => evac_nil)) (fun _ => by walk_at "sub"))) (fun s3 => [some (Is (.ref a)), some ((tD K eI) vmany), some (Is (.ref p2)), none, none]) (fun s3 => (p2, (OLT (T2 K (tD K eS) (tD K eS))) (s3.1)) :: Dp (s3.2)) (fun s1 => (x1, s1)) (fun s3 x4 => [some (Is (.ref a)), some ((tD K eI) vmany), some (Is (.ref p2)), some ((tD K eS) x4), none]) hP (fun _ => by walk_at "sle") (fun _ => by walk_at "sub") (fun _ => trivial) (fun _ _ => evG_name) ?_ ?_)
  · intro F6 t6 s3 hP
    unfold l_nodes_k21_k1 at hP
    walk_at "dd"
    exact go_retC (w := (w__law_nodes K ω X E.rt Dp)) (Dd := fun (s : ((List (Tx × Tx)) × (List Int))) => (p2, (OLT (T2 K (tD K eS) (tD K eS))) s.1) :: Dp s.2) (s := (s3.1, s3.2)) (fun v s => (v, s.2)) (evc_frzLT (evnc_lc0 (G1 := (fun x8 => [some (Is (.ref a)), some ((tD K eI) vmany), some (Is (.ref p2)), none, some ((tD K eI) x8)])) (evItc_rng1 (evc_var (R := (tD K eI)) (vmany) rfl)) (fun _ => (evW_name (by decide))) (fun _ _ => trivial) (fun x8 _ cq => (evc_popAtLL (Bor.ahead (Bor.at0 (O := (OLT (T2 K (tD K eS) (tD K eS)))) (gt := fun (w : ((List (Tx × Tx)) × (List Int))) => w.1) (st := fun (w : ((List (Tx × Tx)) × (List Int))) (v : (List (Tx × Tx))) => (v, w.2)) (fun _ _ => rfl) (fun _ _ => rfl)) (fun _ _ => rfl)) rfl (evc_callCL (sp := sp__law_take K ω) (gt := fun (w : ((List (Tx × Tx)) × (List Int))) => w.2) (st := fun (w : ((List (Tx × Tx)) × (List Int))) (v : (List Int)) => (w.1, v)) (g := fun _ _ => ()) (fun _ _ _ _ h => h) (Bor.ahead (Bor.ahead (Bor.of1 (gt := fun (w : ((List (Tx × Tx)) × (List Int))) => w.2) (st := fun (w : ((List (Tx × Tx)) × (List Int))) (v : (List Int)) => (w.1, v)) B (fun _ _ => rfl)) (fun _ _ => rfl)) (fun _ _ => rfl)) (evac_cons (evc_var (R := fun _ : Unit => Is (.ref a)) () rfl) fun _ => (evac_cons (evc_lenLL (Bor.ahead (Bor.at0 (O := (OLT (T2 K (tD K eS) (tD K eS)))) (gt := fun (w : ((List (Tx × Tx)) × (List Int))) => w.1) (st := fun (w : ((List (Tx × Tx)) × (List Int))) (v : (List (Tx × Tx))) => (v, w.2)) (fun _ _ => rfl) (fun _ _ => rfl)) (fun _ _ => rfl)) rfl) fun _ => evac_nil)) (fun _ _ => List.nil_sublist _) (fun _ _ _ => rfl) (fun _ _ => rfl) (fun _ => rfl)))))) hP (fun F v s h => (show GoV _ _ _ _ from h).drop (by walk_at "sub"))
  · intro hB6 F6 t6 x4 s3 n5 Nx hN6 hP
    unfold l_nodes_k21_b2 at hP
    walk_at "dd"
    refine go_extNC (w := (w__law_nodes K ω X E.rt Dp)) (Dd := fun _ : Unit => (p2, (OLT (T2 K (tD K eS) (tD K eS))) (s3.1)) :: Dp (s3.2)) (s := ()) (R := (T2 K (tD K eS) (tD K eS))) (xs := s3.1) (n := 2) rfl (evnc_lst (eval_cons (evc_tupT (Rs := fun x : (Tx × Tx) => [(tD K eS) x.1, (tD K eS) x.2]) (n := 2) (g := fun (t : Tx × Tx × Unit) => (t.1, t.2.1)) (evac_cons (R := (tD K eS)) (Rs := fun (t : Tx × Unit) => [(tD K eS) t.1]) (evc_strC sx_11f6ad8e rfl) fun _ => (evac_cons (R := (tD K eS)) (Rs := fun (t : Unit) => []) (evc_var (R := (tD K eS)) (x4) rfl) fun _ => evac_nil)) (fun _ => rfl)) fun _ => (eval_cons (evc_tupT (Rs := fun x : (Tx × Tx) => [(tD K eS) x.1, (tD K eS) x.2]) (n := 2) (g := fun (t : Tx × Tx × Unit) => (t.1, t.2.1)) (evac_cons (R := (tD K eS)) (Rs := fun (t : Tx × Unit) => [(tD K eS) t.1]) (evc_strC sx_95cb0bfd rfl) fun _ => (evac_cons (R := (tD K eS)) (Rs := fun (t : Unit) => []) (evc_var (R := (tD K eS)) (x4) rfl) fun _ => evac_nil)) (fun _ => rfl)) fun _ => eval_nil))) (at_n 0 fun _ => rfl) hP fun x14 hP => ?_
    walk_at "dd"
    exact (hN6 _ (Same.refl _) (x14.1, s3.2) hP).weak (by walk_at "sle") (by walk_at "sub")
theorem pure__law_nodes (T : Txt K mg) (vs : List V) (H : Hp) (Q : VK) (X : XK) (h : sp__law_nodes K ω vs H Q X) : t__law_nodes K ω X { nx := fun _ H' => Q .non H', rt := Q } (L2.start N__law_nodes vs) H :=
  pure_ofCF (fun x y F Dp k a E B hrt hnx hP => by
    subst hrt
    exact walk__law_nodes T B hnx hP) h
theorem len__law_nodes (K : PySem.W.Frag) : ∀ vs H Q E, sp__law_nodes K ω vs H Q E → vs.length = 2 := spC_len fun _ _ => rfl
theorem walk__law_few (T : Txt K mg) {vwell_here : (List Int)} {Dp : (List Int) → Own} {k : Nat} {a : Addr} (B : Bor1 Dp k a (OLT (tD K eI))) (hnx : ∀ (F : Hp) (K : PySem.W.Frag) G D1, GoV E.rt F (DN K) D1 → Go E.nx F G D1) (hP : (w__law_few K ω X E.rt Dp).W F0 (l_few vwell_here)) :
    Go (t__law_few K ω X E) F0 [some (Is (.ref a))] (Dp vwell_here) := by
  unfold l_few at hP
  refine go_seq (go_ifCS (w := (w__law_few K ω X E.rt Dp)) (Dd := fun (s : (List Int)) => Dp s) (s := vwell_here) (evtc_test (evc_eq enc_I (evc_callC0 (fun _ _ _ _ h => h) B (evac_cons (evc_var (R := fun _ : Unit => Is (.ref a)) () rfl) fun _ => (evac_cons evc_int fun _ => evac_nil)) (fun _ => by walk_at "sub")) fun _ => evc_int)) hP ?_ ?_)
  · intro s1 hP
    walk_at "dd"
    exact go_retC (w := (w__law_few K ω X E.rt Dp)) (Dd := fun (s : (List Int)) => Dp s) (s := s1) (fun v s => (v, s)) (evc_tupT (Rs := fun x : (Int × Int) => [(tD K eI) x.1, (tD K eI) x.2]) (n := 2) (g := fun (t : Int × Int × Unit) => (t.1, t.2.1)) (evac_cons (R := (tD K eI)) (Rs := fun (t : Int × Unit) => [(tD K eI) t.1]) (evc_add evc_int fun _ => (evc_callC0 (fun _ _ _ _ h => h) B (evac_cons (evc_var (R := fun _ : Unit => Is (.ref a)) () rfl) fun _ => (evac_cons evc_int fun _ => evac_nil)) (fun _ => by walk_at "sub"))) fun _ => (evac_cons (R := (tD K eI)) (Rs := fun (t : Unit) => []) (evc_add evc_int fun _ => (evc_callC0 (fun _ _ _ _ h => h) B (evac_cons (evc_var (R := fun _ : Unit => Is (.ref a)) () rfl) fun _ => (evac_cons evc_int fun _ => evac_nil)) (fun _ => by walk_at "sub"))) fun _ => evac_nil)) (fun _ => rfl)) hP (fun F v s h => (show GoV _ _ _ _ from h).drop (by walk_at "sub"))
  · intro s1 hP
    walk_at "dd"
    refine go_next ?_
    walk_at "dd"
    exact go_retC (w := (w__law_few K ω X E.rt Dp)) (Dd := fun (s : (List Int)) => Dp s) (s := s1) (fun v s => (v, s)) (evc_tupT (Rs := fun x : (Int × Int) => [(tD K eI) x.1, (tD K eI) x.2]) (n := 2) (g := fun (t : Int × Int × Unit) => (t.1, t.2.1)) (evac_cons (R := (tD K eI)) (Rs := fun (t : Int × Unit) => [(tD K eI) t.1]) (evc_add evc_int fun _ => (evc_callC0 (fun _ _ _ _ h => h) B (evac_cons (evc_var (R := fun _ : Unit => Is (.ref a)) () rfl) fun _ => (evac_cons evc_int fun _ => evac_nil)) (fun _ => by walk_at "sub"))) fun _ => (evac_cons (R := (tD K eI)) (Rs := fun (t : Unit) => []) (evc_callC0 (fun _ _ _ _ h => h) B (evac_cons (evc_var (R := fun _ : Unit => Is (.ref a)) () rfl) fun _ => (evac_cons evc_int fun _ => evac_nil)) (fun _ => by walk_at "sub")) fun _ => evac_nil)) (fun _ => rfl)) hP (fun F v s h => (show GoV _ _ _ _ from h).drop (by walk_at "sub"))
theorem pure__law_few (T : Txt K mg) (vs : List V) (H : Hp) (Q : VK) (X : XK) (h : sp__law_few K ω vs H Q X) : t__law_few K ω X { nx := fun _ H' => Q .non H', rt := Q } (L2.start N__law_few vs) H :=
  pure_ofCF (fun x y F Dp k a E B hrt hnx hP => by
    subst hrt
    exact walk__law_few T B hnx hP) h
theorem len__law_few (K : PySem.W.Frag) : ∀ vs H Q E, sp__law_few K ω vs H Q E → vs.length = 1 := spC_len fun _ _ => rfl
theorem walk__law_chains (T : Txt K mg) {vgaps_here : (List ((Tx × Tx) × (Tx × Tx) × (Rat × (List (Tx × Rat)))))} (hnx : ∀ (F : Hp) (K : PySem.W.Frag) G D1, GoV E.rt F (DN K) D1 → Go E.nx F G D1) (hP : (w__law_chains K ω X E.rt D0).W F0 (l_chains vgaps_here)) :
    Go (t__law_chains K ω X E) F0 [some ((LT K (T3 K (T2 K (tD K eS) (tD K eS)) (T2 K (tD K eS) (tD K eS)) (T2 K (tD K eQ) (VP K (T2 K (tD K eS) (tD K eQ)))))) vgaps_here), none, none, none, none, none, none] D0 := by
  unfold l_chains at hP
  refine go_seq (go_setNC (w := (w__law_chains K ω X E.rt D0)) (evnc_hnewT (k := (knV klI)) (Rk := (VP K (tD K eI))) (Rv := (tD K eB))) hP fun x1 p2 hP => ?_)
  walk_at "dd"
  refine go_seq (go_setNC (w := (w__law_chains K ω X E.rt D0)) (evnc_lc0 (G1 := (fun x5 => [some ((LT K (T3 K (T2 K (tD K eS) (tD K eS)) (T2 K (tD K eS) (tD K eS)) (T2 K (tD K eQ) (VP K (T2 K (tD K eS) (tD K eQ)))))) vgaps_here), some (Is (.ref p2)), none, some ((tD K eI) x5), none, none, none])) (evItc_rng1 (evc_len sv_LT (evc_var (R := (LT K (T3 K (T2 K (tD K eS) (tD K eS)) (T2 K (tD K eS) (tD K eS)) (T2 K (tD K eQ) (VP K (T2 K (tD K eS) (tD K eQ))))))) (vgaps_here) rfl))) (fun _ => (evW_name (by decide))) (fun _ _ => trivial) (fun x5 _ cq => (evc_tupVp (R := (tD K eI)) (eval_cons (evc_var (R := (tD K eI)) (x5) rfl) fun _ => eval_nil)))) hP fun x3 p9 hP => ?_)
  walk_at "dd"
  refine go_seq (go_whileC (w := (w__law_chains K ω X E.rt D0)) (σt := ((List (List Int)) × (List ((List Int) × Bool)))) (Mt := fun s10 kk => kk (!decide (s10.1 = [])) ()) (mb := (l_chains_b4 vgaps_here)) (k := l_chains_k1) (fun s10 => [some ((LT K (T3 K (T2 K (tD K eS) (tD K eS)) (T2 K (tD K eS) (tD K eS)) (T2 K (tD K eQ) (VP K (T2 K (tD K eS) (tD K eQ)))))) vgaps_here), some (Is (.ref p2)), some (Is (.ref p9)), none, none, none, none]) (fun s10 => (p9, (OLT (VP K (tD K eI))) (s10.1)) :: (p2, (OHT K ω (knV klI) (VP K (tD K eI)) (tD K eB)) (s10.2)) :: D0) (x3, x1) Res.fuel (fun s10 => (evtc_test (evc_neOT (xs := s10.1) (enc_L (enc_V enc_I)) (d_V (R := (tD K eI)) (e := eI) (d_b (e := eI))) rfl (at_n 0 fun _ => rfl) (evc_weak (R' := tD K (eL (eV eI))) (evc_frzLT (evnc_lst0 (R := (VP K (tD K eI))))) (d_L (R := (VP K (tD K eI))) (e := (eV eI)) (d_V (R := (tD K eI)) (e := eI) (d_b (e := eI)))))))) hP (by walk_at "sle") (by walk_at "sub") ?_ ?_)
  · intro F12 t12 s10 hP
    unfold l_chains_k1 at hP
    walk_at "dd"
    refine go_frzHT (j := 1) (i := 1) (k := (knV klI)) (Rk := (VP K (tD K eI))) (Rv := (tD K eB)) rfl rfl ?_
    walk_at "dd"
    exact go_retC (w := (w__law_chains K ω X E.rt D0)) (Dd := fun _ : Unit => (p9, (OLT (VP K (tD K eI))) (s10.1)) :: D0) (s := ()) (fun v _ => v) (evc_frzLT (evnc_sortHT (d_V (R := (tD K eI)) (e := eI) (d_b (e := eI))) dvh_Z (sol_V so_I) (by decide) (evc_var (R := (DHT K ω (knV klI) (VP K (tD K eI)) (tD K eB))) (s10.2) rfl))) hP (fun F v s h => (show GoV _ _ _ _ from h).drop (by walk_at "sub"))
  · intro hB12 F12 t12 s10 n11 Nx hN12 hP
    unfold l_chains_b4 at hP
    walk_at "dd"
    refine go_seq (go_setCS (w := (w__law_chains K ω X E.rt D0)) (Dd := fun (s : (List (List Int))) => (p9, (OLT (VP K (tD K eI))) s) :: (p2, (OHT K ω (knV klI) (VP K (tD K eI)) (tD K eB)) (s10.2)) :: D0) (s := s10.1) (evc_popL (Bor.here (O := (OLT (VP K (tD K eI))))) rfl) hP fun x14 hP => ?_)
    walk_at "dd"
    refine go_seq (go_setC (w := (w__law_chains K ω X E.rt D0)) (evc_ixT (i := 1) (Rs := fun x : ((Tx × Tx) × (Tx × Tx) × (Rat × (List (Tx × Rat)))) => [(T2 K (tD K eS) (tD K eS)) x.1, (T2 K (tD K eS) (tD K eS)) x.2.1, (T2 K (tD K eQ) (VP K (T2 K (tD K eS) (tD K eQ)))) x.2.2]) (R' := (T2 K (tD K eS) (tD K eS))) (f := fun x => x.2.1) (evc_ix sv_LT (evc_var (R := (LT K (T3 K (T2 K (tD K eS) (tD K eS)) (T2 K (tD K eS) (tD K eS)) (T2 K (tD K eQ) (VP K (T2 K (tD K eS) (tD K eQ))))))) (vgaps_here) rfl) fun _ => (evc_ix sv_P (evc_var (R := (VP K (tD K eI))) (x14.1) rfl) fun _ => (evc_neg evc_int))) fun _ => rfl) hP fun x15 hP => ?_)
    walk_at "dd"
    refine go_join (w := (w__law_chains K ω X E.rt D0)) (l_chains_k2 n11) (fun s16 => [some ((LT K (T3 K (T2 K (tD K eS) (tD K eS)) (T2 K (tD K eS) (tD K eS)) (T2 K (tD K eQ) (VP K (T2 K (tD K eS) (tD K eQ)))))) vgaps_here), some (Is (.ref p2)), some (Is (.ref p9)), none, some ((VP K (tD K eI)) x14.1), some ((T2 K (tD K eS) (tD K eS)) x15), none]) (fun s16 => (p9, (OLT (VP K (tD K eI))) (s16.1)) :: (p2, (OHT K ω (knV klI) (VP K (tD K eI)) (tD K eB)) (s16.2)) :: D0) ?_ ?_
    · intro F17 t17 s16 hP
      unfold l_chains_k2 at hP
      walk_at "dd"
      exact (hN12 _ t17 (s16.1, s16.2) hP).weak (by walk_at "sle") (by walk_at "sub")
    · intro hk17
      walk_at "dd"
      refine go_ifC (w := (w__law_chains K ω X E.rt D0)) (evtc_test (evc_eq (enc_2 enc_S enc_S) (evc_weak (R' := tD K (e2 eS eS)) (evc_var (R := (T2 K (tD K eS) (tD K eS))) (x15) rfl) (fun x => d_T (dd_cons ((d_b (e := eS)) x.1) (dd_cons ((d_b (e := eS)) x.2) dd_nil)))) fun _ => (evc_weak (R' := tD K (e2 eS eS)) (evc_ixT (i := 0) (Rs := fun x : ((Tx × Tx) × (Tx × Tx) × (Rat × (List (Tx × Rat)))) => [(T2 K (tD K eS) (tD K eS)) x.1, (T2 K (tD K eS) (tD K eS)) x.2.1, (T2 K (tD K eQ) (VP K (T2 K (tD K eS) (tD K eQ)))) x.2.2]) (R' := (T2 K (tD K eS) (tD K eS))) (f := fun x => x.1) (evc_ix sv_LT (evc_var (R := (LT K (T3 K (T2 K (tD K eS) (tD K eS)) (T2 K (tD K eS) (tD K eS)) (T2 K (tD K eQ) (VP K (T2 K (tD K eS) (tD K eQ))))))) (vgaps_here) rfl) fun _ => (evc_ix sv_P (evc_var (R := (VP K (tD K eI))) (x14.1) rfl) fun _ => evc_int)) fun _ => rfl) (fun x => d_T (dd_cons ((d_b (e := eS)) x.1) (dd_cons ((d_b (e := eS)) x.2) dd_nil)))))) hP ?_ ?_
      · intro hP
        walk_at "dd"
        refine go_seq (go_setC (w := (w__law_chains K ω X E.rt D0)) (evc_tupIx (evc_var (R := (VP K (tD K eI))) (x14.1) rfl) fun _ => (evc_minT (evc_var (R := (VP K (tD K eI))) (x14.1) rfl))) hP fun x18 hP => ?_)
        walk_at "dd"
        refine go_hputT (w := (w__law_chains K ω X E.rt D0)) (Dd := fun _ : Unit => (p9, (OLT (VP K (tD K eI))) (x14.2)) :: (p2, (OHT K ω (knV klI) (VP K (tD K eI)) (tD K eB)) (s10.2)) :: D0) (s := ()) (k := (knV klI)) (Rk := (VP K (tD K eI))) (Rv := (tD K eB)) (m := s10.2) (hd := (d_V (R := (tD K eI)) (e := eI) (d_b (e := eI)))) (n := 1) rfl evc_bl (fun _ => (evc_catP (evc_slP (evc_var (R := (VP K (tD K eI))) (x14.1) rfl) (fun _ => (evo_some (evc_var (R := (tD K eI)) (x18) rfl))) fun _ => evo_none) fun _ => (evc_slP (evc_var (R := (VP K (tD K eI))) (x14.1) rfl) (fun _ => evo_none) fun _ => (evo_some (evc_var (R := (tD K eI)) (x18) rfl))))) (at_n 1 fun _ => rfl) hP fun x19 hP => ?_
        walk_at "dd"
        exact ((hk17 _ (Same.refl _) (x14.2, x19.1)) hP).weak (by walk_at "sle") (by walk_at "sub")
      · intro hP
        walk_at "dd"
        refine go_join (w := (w__law_chains K ω X E.rt D0)) (l_chains_k3 s10 n11) (fun s33 => [some ((LT K (T3 K (T2 K (tD K eS) (tD K eS)) (T2 K (tD K eS) (tD K eS)) (T2 K (tD K eQ) (VP K (T2 K (tD K eS) (tD K eQ)))))) vgaps_here), some (Is (.ref p2)), some (Is (.ref p9)), none, some ((VP K (tD K eI)) x14.1), some ((T2 K (tD K eS) (tD K eS)) x15), none]) (fun s33 => (p9, (OLT (VP K (tD K eI))) (s33)) :: (p2, (OHT K ω (knV klI) (VP K (tD K eI)) (tD K eB)) (s10.2)) :: D0) ?_ ?_
        · intro F34 t34 s33 hP
          unfold l_chains_k3 at hP
          walk_at "dd"
          exact ((hk17 _ t34 (s33, s10.2)) hP).weak (by walk_at "sle") (by walk_at "sub")
        · intro hk34
          walk_at "dd"
          refine go_ifC (w := (w__law_chains K ω X E.rt D0)) (evtc_test (evc_notinM (enc_2 enc_S enc_S) (fun x => d_T (dd_cons ((d_b (e := eS)) x.1) (dd_cons ((d_b (e := eS)) x.2) dd_nil))) lv_LT (evc_var (R := (T2 K (tD K eS) (tD K eS))) (x15) rfl) fun _ => (evc_frzLT (evnc_lc0 (G1 := (fun x28 => [some ((LT K (T3 K (T2 K (tD K eS) (tD K eS)) (T2 K (tD K eS) (tD K eS)) (T2 K (tD K eQ) (VP K (T2 K (tD K eS) (tD K eQ)))))) vgaps_here), some (Is (.ref p2)), some (Is (.ref p9)), some ((tD K eI) x28), some ((VP K (tD K eI)) x14.1), some ((T2 K (tD K eS) (tD K eS)) x15), none])) (evItc_p (evc_var (R := (VP K (tD K eI))) (x14.1) rfl)) (fun _ => (evW_name (by decide))) (fun _ _ => trivial) (fun x28 _ cq => (evc_ixT (i := 0) (Rs := fun x : ((Tx × Tx) × (Tx × Tx) × (Rat × (List (Tx × Rat)))) => [(T2 K (tD K eS) (tD K eS)) x.1, (T2 K (tD K eS) (tD K eS)) x.2.1, (T2 K (tD K eQ) (VP K (T2 K (tD K eS) (tD K eQ)))) x.2.2]) (R' := (T2 K (tD K eS) (tD K eS))) (f := fun x => x.1) (evc_ix sv_LT (evc_var (R := (LT K (T3 K (T2 K (tD K eS) (tD K eS)) (T2 K (tD K eS) (tD K eS)) (T2 K (tD K eQ) (VP K (T2 K (tD K eS) (tD K eQ))))))) (vgaps_here) rfl) fun _ => (evc_var (R := (tD K eI)) (x28) rfl)) fun _ => rfl)))))) hP ?_ ?_
          · intro hP
            walk_at "dd"
            refine go_extNC (w := (w__law_chains K ω X E.rt D0)) (Dd := fun _ : Unit => (p9, (OLT (VP K (tD K eI))) (x14.2)) :: (p2, (OHT K ω (knV klI) (VP K (tD K eI)) (tD K eB)) (s10.2)) :: D0) (s := ()) (R := (VP K (tD K eI))) (xs := x14.2) (n := 2) rfl (evnc_lc (G1 := (fun x36 => [some ((LT K (T3 K (T2 K (tD K eS) (tD K eS)) (T2 K (tD K eS) (tD K eS)) (T2 K (tD K eQ) (VP K (T2 K (tD K eS) (tD K eQ)))))) vgaps_here), some (Is (.ref p2)), some (Is (.ref p9)), some ((tD K eI) x36), some ((VP K (tD K eI)) x14.1), some ((T2 K (tD K eS) (tD K eS)) x15), none])) (evItc_rng1 (evc_len sv_LT (evc_var (R := (LT K (T3 K (T2 K (tD K eS) (tD K eS)) (T2 K (tD K eS) (tD K eS)) (T2 K (tD K eQ) (VP K (T2 K (tD K eS) (tD K eQ))))))) (vgaps_here) rfl))) (fun _ => (evW_name (by decide))) (fun _ _ => trivial) (fun x36 _ cq => (evtc_test (evc_eq (enc_2 enc_S enc_S) (evc_weak (R' := tD K (e2 eS eS)) (evc_ixT (i := 0) (Rs := fun x : ((Tx × Tx) × (Tx × Tx) × (Rat × (List (Tx × Rat)))) => [(T2 K (tD K eS) (tD K eS)) x.1, (T2 K (tD K eS) (tD K eS)) x.2.1, (T2 K (tD K eQ) (VP K (T2 K (tD K eS) (tD K eQ)))) x.2.2]) (R' := (T2 K (tD K eS) (tD K eS))) (f := fun x => x.1) (evc_ix sv_LT (evc_var (R := (LT K (T3 K (T2 K (tD K eS) (tD K eS)) (T2 K (tD K eS) (tD K eS)) (T2 K (tD K eQ) (VP K (T2 K (tD K eS) (tD K eQ))))))) (vgaps_here) rfl) fun _ => (evc_var (R := (tD K eI)) (x36) rfl)) fun _ => rfl) (fun x => d_T (dd_cons ((d_b (e := eS)) x.1) (dd_cons ((d_b (e := eS)) x.2) dd_nil)))) fun _ => (evc_weak (R' := tD K (e2 eS eS)) (evc_var (R := (T2 K (tD K eS) (tD K eS))) (x15) rfl) (fun x => d_T (dd_cons ((d_b (e := eS)) x.1) (dd_cons ((d_b (e := eS)) x.2) dd_nil))))))) (fun x36 _ cq => (evc_catP (evc_var (R := (VP K (tD K eI))) (x14.1) rfl) fun _ => (evc_tupVp (R := (tD K eI)) (eval_cons (evc_var (R := (tD K eI)) (x36) rfl) fun _ => eval_nil))))) (at_n 0 fun _ => rfl) hP fun x42 hP => ?_
            walk_at "dd"
            exact ((hk34 _ (Same.refl _) x42.1) hP).weak (by walk_at "sle") (by walk_at "sub")
          · intro hP
            walk_at "dd"
            refine go_next ?_
            walk_at "dd"
            exact ((hk34 _ (Same.refl _) x14.2) hP).weak (by walk_at "sle") (by walk_at "sub")
theorem pure__law_chains (T : Txt K mg) (vs : List V) (H : Hp) (Q : VK) (X : XK) (h : sp__law_chains K ω vs H Q X) : t__law_chains K ω X { nx := fun _ H' => Q .non H', rt := Q } (L2.start N__law_chains vs) H :=
  pure_ofPF (fun x F D E hrt hnx hP => by
    subst hrt
    exact walk__law_chains T hnx hP) h
theorem len__law_chains (K : PySem.W.Frag) : ∀ vs H Q E, sp__law_chains K ω vs H Q E → vs.length = 1 := spP_len fun _ => rfl
theorem walk__law_gaps (T : Txt K mg) {vwell_here : (List Int)} {Dp : (List Int) → Own} {k : Nat} {a : Addr} (B : Bor1 Dp k a (OLT (tD K eI))) (hnx : ∀ (F : Hp) (K : PySem.W.Frag) G D1, GoV E.rt F (DN K) D1 → Go E.nx F G D1) (hP : (w__law_gaps K ω X E.rt Dp).W F0 (l_gaps_k21 vwell_here)) :
    Go (t__law_gaps K ω X E) F0 [some (Is (.ref a)), none, none, none, none, none, none, none] (Dp vwell_here) := by
  unfold l_gaps_k21 at hP
  refine go_seq (go_asgCS (w := (w__law_gaps K ω X E.rt Dp)) (Dd := fun (s : (List Int)) => Dp s) (s := vwell_here) (Gx := fun y => [some (Is (.ref a)), some ((tD K eI) y.1), some ((tD K eI) y.2), none, none, none, none, none]) (evc_callC0 (fun _ _ _ _ h => h) B (evac_cons (evc_var (R := fun _ : Unit => Is (.ref a)) () rfl) fun _ => evac_nil) (fun _ => by walk_at "sub")) (fun _ => (evG_tupT (evGsT_cons evG_name (evGsT_cons evG_name evGsT_nil)) rfl)) hP fun x1 hP => ?_)
  walk_at "dd"
  refine go_seq (go_setCS (w := (w__law_gaps K ω X E.rt Dp)) (Dd := fun (s : (List Int)) => Dp s) (s := x1.2) (evc_callC0 (fun _ _ _ _ h => h) B (evac_cons (evc_var (R := fun _ : Unit => Is (.ref a)) () rfl) fun _ => (evac_cons (evc_var (R := (tD K eI)) (x1.1.1) rfl) fun _ => evac_nil)) (fun _ => by walk_at "sub")) hP fun x2 hP => ?_)
  walk_at "dd"
  refine go_seq (go_setNC (w := (w__law_gaps K ω X E.rt Dp)) (evnc_lst0 (R := (T3 K (T2 K (tD K eS) (tD K eS)) (T2 K (tD K eS) (tD K eS)) (T2 K (tD K eQ) (VP K (T2 K (tD K eS) (tD K eQ))))))) hP fun x3 p4 hP => ?_)
  walk_at "dd"
  refine go_seq (go_forC (w := (w__law_gaps K ω X E.rt Dp)) (σt := ((List ((Tx × Tx) × (Tx × Tx) × (Rat × (List (Tx × Rat))))) × (List Int))) (evItc_rng1 (evc_var (R := (tD K eI)) (x1.1.2) rfl)) (fun s6 => [some (Is (.ref a)), some ((tD K eI) x1.1.1), some ((tD K eI) x1.1.2), some ((LT K (T2 K (tD K eS) (tD K eS))) x2.1), some (Is (.ref p4)), none, none, none]) (fun s6 => (p4, (OLT (T3 K (T2 K (tD K eS) (tD K eS)) (T2 K (tD K eS) (tD K eS)) (T2 K (tD K eQ) (VP K (T2 K (tD K eS) (tD K eQ)))))) (s6.1)) :: Dp (s6.2)) (x3, x2.2) (fun s6 x7 => [some (Is (.ref a)), some ((tD K eI) x1.1.1), some ((tD K eI) x1.1.2), some ((LT K (T2 K (tD K eS) (tD K eS))) x2.1), some (Is (.ref p4)), some ((tD K eI) x7), none, none]) hP (by walk_at "sle") (by walk_at "sub") (fun _ => trivial) (fun _ _ => evG_name) ?_ ?_)
  · intro F9 t9 s6 hP
    unfold l_gaps_k21_k1 at hP
    walk_at "dd"
    refine go_frzLT (K := K) (k := 0) (i := 4) (R := (T3 K (T2 K (tD K eS) (tD K eS)) (T2 K (tD K eS) (tD K eS)) (T2 K (tD K eQ) (VP K (T2 K (tD K eS) (tD K eQ)))))) rfl rfl ?_
    walk_at "dd"
    walk_at "dd"
    exact go_retC (w := (w__law_gaps K ω X E.rt Dp)) (Dd := fun _ : Unit => Dp (s6.2)) (s := ()) (fun v _ => (v, s6.2)) (evc_var (R := (LT K (T3 K (T2 K (tD K eS) (tD K eS)) (T2 K (tD K eS) (tD K eS)) (T2 K (tD K eQ) (VP K (T2 K (tD K eS) (tD K eQ))))))) (s6.1) rfl) hP (fun F v s h => (show GoV _ _ _ _ from h).drop (by walk_at "sub"))
  · intro hB9 F9 t9 x7 s6 n8 Nx hN9 hP
    unfold l_gaps_k21_b3 at hP
    walk_at "dd"
    refine go_seq (go_setCS (w := (w__law_gaps K ω X E.rt Dp)) (Dd := fun (s : (List Int)) => (p4, (OLT (T3 K (T2 K (tD K eS) (tD K eS)) (T2 K (tD K eS) (tD K eS)) (T2 K (tD K eQ) (VP K (T2 K (tD K eS) (tD K eQ)))))) (s6.1)) :: Dp s) (s := s6.2) (evc_ix sv_LT (evc_var (R := (LT K (T2 K (tD K eS) (tD K eS)))) (x2.1) rfl) fun _ => (evc_callC0 (fun _ _ _ _ h => h) (Bor.cons B) (evac_cons (evc_var (R := fun _ : Unit => Is (.ref a)) () rfl) fun _ => (evac_cons (evc_var (R := (tD K eI)) (x1.1.1) rfl) fun _ => evac_nil)) (fun _ => by walk_at "sub"))) hP fun x10 hP => ?_)
    walk_at "dd"
    refine go_seq (go_setCS (w := (w__law_gaps K ω X E.rt Dp)) (Dd := fun (s : (List Int)) => (p4, (OLT (T3 K (T2 K (tD K eS) (tD K eS)) (T2 K (tD K eS) (tD K eS)) (T2 K (tD K eQ) (VP K (T2 K (tD K eS) (tD K eQ)))))) (s6.1)) :: Dp s) (s := x10.2) (evc_ix sv_LT (evc_var (R := (LT K (T2 K (tD K eS) (tD K eS)))) (x2.1) rfl) fun _ => (evc_callC0 (fun _ _ _ _ h => h) (Bor.cons B) (evac_cons (evc_var (R := fun _ : Unit => Is (.ref a)) () rfl) fun _ => (evac_cons (evc_var (R := (tD K eI)) (x1.1.1) rfl) fun _ => evac_nil)) (fun _ => by walk_at "sub"))) hP fun x11 hP => ?_)
    walk_at "dd"
    refine go_seq (go_join (w := (w__law_gaps K ω X E.rt Dp)) (l_gaps_k21_k2 s6 n8) (fun s13 => [some (Is (.ref a)), some ((tD K eI) x1.1.1), some ((tD K eI) x1.1.2), some ((LT K (T2 K (tD K eS) (tD K eS))) x2.1), some (Is (.ref p4)), some ((tD K eI) x7), some ((T2 K (tD K eS) (tD K eS)) s13.1), some ((T2 K (tD K eS) (tD K eS)) s13.2.1)]) (fun s13 => (p4, (OLT (T3 K (T2 K (tD K eS) (tD K eS)) (T2 K (tD K eS) (tD K eS)) (T2 K (tD K eQ) (VP K (T2 K (tD K eS) (tD K eQ)))))) (s6.1)) :: Dp (s13.2.2)) ?_ ?_)
    · intro F14 t14 s13 hP
      unfold l_gaps_k21_k2 at hP
      walk_at "dd"
      refine go_appC (w := (w__law_gaps K ω X E.rt Dp)) (Dd := fun (s : (List Int)) => (p4, (OLT (T3 K (T2 K (tD K eS) (tD K eS)) (T2 K (tD K eS) (tD K eS)) (T2 K (tD K eQ) (VP K (T2 K (tD K eS) (tD K eQ)))))) (s6.1)) :: Dp s) (s := s13.2.2) (R := (T3 K (T2 K (tD K eS) (tD K eS)) (T2 K (tD K eS) (tD K eS)) (T2 K (tD K eQ) (VP K (T2 K (tD K eS) (tD K eQ)))))) (xs := s6.1) (n := 4) rfl (evc_tupT (Rs := fun x : ((Tx × Tx) × (Tx × Tx) × (Rat × (List (Tx × Rat)))) => [(T2 K (tD K eS) (tD K eS)) x.1, (T2 K (tD K eS) (tD K eS)) x.2.1, (T2 K (tD K eQ) (VP K (T2 K (tD K eS) (tD K eQ)))) x.2.2]) (n := 3) (g := fun (t : (Tx × Tx) × (Tx × Tx) × (Rat × (List (Tx × Rat))) × Unit) => (t.1, t.2.1, t.2.2.1)) (evac_cons (R := (T2 K (tD K eS) (tD K eS))) (Rs := fun (t : (Tx × Tx) × (Rat × (List (Tx × Rat))) × Unit) => [(T2 K (tD K eS) (tD K eS)) t.1, (T2 K (tD K eQ) (VP K (T2 K (tD K eS) (tD K eQ)))) t.2.1]) (evc_var (R := (T2 K (tD K eS) (tD K eS))) (s13.1) rfl) fun _ => (evac_cons (R := (T2 K (tD K eS) (tD K eS))) (Rs := fun (t : (Rat × (List (Tx × Rat))) × Unit) => [(T2 K (tD K eQ) (VP K (T2 K (tD K eS) (tD K eQ)))) t.1]) (evc_var (R := (T2 K (tD K eS) (tD K eS))) (s13.2.1) rfl) fun _ => (evac_cons (R := (T2 K (tD K eQ) (VP K (T2 K (tD K eS) (tD K eQ))))) (Rs := fun (t : Unit) => []) (evc_tupT (Rs := fun x : (Rat × (List (Tx × Rat))) => [(tD K eQ) x.1, (VP K (T2 K (tD K eS) (tD K eQ))) x.2]) (n := 2) (g := fun (t : Rat × (List (Tx × Rat)) × Unit) => (t.1, t.2.1)) (evac_cons (R := (tD K eQ)) (Rs := fun (t : (List (Tx × Rat)) × Unit) => [(VP K (T2 K (tD K eS) (tD K eQ))) t.1]) (evc_callC0 (fun _ _ _ _ h => h) (Bor.cons B) (evac_cons (evc_var (R := fun _ : Unit => Is (.ref a)) () rfl) fun _ => evac_nil) (fun _ => by walk_at "sub")) fun _ => (evac_cons (R := (VP K (T2 K (tD K eS) (tD K eQ)))) (Rs := fun (t : Unit) => []) (evc_tupVp (R := (T2 K (tD K eS) (tD K eQ))) eval_nil) fun _ => evac_nil)) (fun _ => rfl)) fun _ => evac_nil))) (fun _ => rfl)) (at_n 0 fun _ => rfl) hP fun x15 hP => ?_
      walk_at "dd"
      exact (hN9 _ t14 (x15.1, x15.2) hP).weak (by walk_at "sle") (by walk_at "sub")
    · intro hk14
      walk_at "dd"
      refine go_ifCS (w := (w__law_gaps K ω X E.rt Dp)) (Dd := fun (s : (List Int)) => (p4, (OLT (T3 K (T2 K (tD K eS) (tD K eS)) (T2 K (tD K eS) (tD K eS)) (T2 K (tD K eQ) (VP K (T2 K (tD K eS) (tD K eQ)))))) (s6.1)) :: Dp s) (s := x11.2) (evtc_andM (evtc_test (evc_neOT (xs := s6.1) (enc_L (enc_3 (enc_2 enc_S enc_S) (enc_2 enc_S enc_S) (enc_2 enc_Q (enc_V (enc_2 enc_S enc_Q))))) (fun x => d_T (dd_cons ((fun x => d_T (dd_cons ((d_b (e := eS)) x.1) (dd_cons ((d_b (e := eS)) x.2) dd_nil))) x.1) (dd_cons ((fun x => d_T (dd_cons ((d_b (e := eS)) x.1) (dd_cons ((d_b (e := eS)) x.2) dd_nil))) x.2.1) (dd_cons ((fun x => d_T (dd_cons ((d_b (e := eQ)) x.1) (dd_cons ((d_V (R := (T2 K (tD K eS) (tD K eQ))) (e := (e2 eS eQ)) (fun x => d_T (dd_cons ((d_b (e := eS)) x.1) (dd_cons ((d_b (e := eQ)) x.2) dd_nil)))) x.2) dd_nil))) x.2.2) dd_nil)))) rfl (at_n 0 fun _ => rfl) (evc_weak (R' := tD K (eL (e3 (e2 eS eS) (e2 eS eS) (e2 eQ (eV (e2 eS eQ)))))) (evc_frzLT (evnc_lst0 (R := (T3 K (T2 K (tD K eS) (tD K eS)) (T2 K (tD K eS) (tD K eS)) (T2 K (tD K eQ) (VP K (T2 K (tD K eS) (tD K eQ)))))))) (d_L (R := (T3 K (T2 K (tD K eS) (tD K eS)) (T2 K (tD K eS) (tD K eS)) (T2 K (tD K eQ) (VP K (T2 K (tD K eS) (tD K eQ)))))) (e := (e3 (e2 eS eS) (e2 eS eS) (e2 eQ (eV (e2 eS eQ))))) (fun x => d_T (dd_cons ((fun x => d_T (dd_cons ((d_b (e := eS)) x.1) (dd_cons ((d_b (e := eS)) x.2) dd_nil))) x.1) (dd_cons ((fun x => d_T (dd_cons ((d_b (e := eS)) x.1) (dd_cons ((d_b (e := eS)) x.2) dd_nil))) x.2.1) (dd_cons ((fun x => d_T (dd_cons ((d_b (e := eQ)) x.1) (dd_cons ((d_V (R := (T2 K (tD K eS) (tD K eQ))) (e := (e2 eS eQ)) (fun x => d_T (dd_cons ((d_b (e := eS)) x.1) (dd_cons ((d_b (e := eQ)) x.2) dd_nil)))) x.2) dd_nil))) x.2.2) dd_nil)))))))) fun _ => (evtc_test (evc_eq enc_I (evc_callC0 (fun _ _ _ _ h => h) (Bor.cons B) (evac_cons (evc_var (R := fun _ : Unit => Is (.ref a)) () rfl) fun _ => (evac_cons evc_int fun _ => evac_nil)) (fun _ => by walk_at "sub")) fun _ => evc_int))) hP ?_ ?_
      · intro s12 hP
        walk_at "dd"
        refine go_asgCS (w := (w__law_gaps K ω X E.rt Dp)) (Dd := fun (s : (List Int)) => (p4, (OLT (T3 K (T2 K (tD K eS) (tD K eS)) (T2 K (tD K eS) (tD K eS)) (T2 K (tD K eQ) (VP K (T2 K (tD K eS) (tD K eQ)))))) (s6.1)) :: Dp s) (s := s12) (Gx := fun y => [some (Is (.ref a)), some ((tD K eI) x1.1.1), some ((tD K eI) x1.1.2), some ((LT K (T2 K (tD K eS) (tD K eS))) x2.1), some (Is (.ref p4)), some ((tD K eI) x7), some ((T2 K (tD K eS) (tD K eS)) y.2), some ((T2 K (tD K eS) (tD K eS)) y.1)]) (evc_slT (Rs := fun x : ((Tx × Tx) × (Tx × Tx) × (Rat × (List (Tx × Rat)))) => [(T2 K (tD K eS) (tD K eS)) x.1, (T2 K (tD K eS) (tD K eS)) x.2.1, (T2 K (tD K eQ) (VP K (T2 K (tD K eS) (tD K eQ)))) x.2.2]) (Rs' := fun x : ((Tx × Tx) × (Tx × Tx)) => [(T2 K (tD K eS) (tD K eS)) x.1, (T2 K (tD K eS) (tD K eS)) x.2]) (f := fun x : ((Tx × Tx) × (Tx × Tx) × (Rat × (List (Tx × Rat)))) => (x.1, x.2.1)) (lo := none) (hi := (some (2 : Int))) (fun _ => rfl) (evc_ix (sv_O (Re := (T3 K (T2 K (tD K eS) (tD K eS)) (T2 K (tD K eS) (tD K eS)) (T2 K (tD K eQ) (VP K (T2 K (tD K eS) (tD K eQ)))))) (xs := s6.1) (at_n 0 fun _ => rfl)) (evc_var (R := fun _ : Unit => Is (.ref p4)) () rfl) fun _ => (evc_callC0 (fun _ _ _ _ h => h) (Bor.cons B) (evac_cons (evc_var (R := fun _ : Unit => Is (.ref a)) () rfl) fun _ => (evac_cons (evc_len (sv_O (Re := (T3 K (T2 K (tD K eS) (tD K eS)) (T2 K (tD K eS) (tD K eS)) (T2 K (tD K eQ) (VP K (T2 K (tD K eS) (tD K eQ)))))) (xs := s6.1) (at_n 0 fun _ => rfl)) (evc_var (R := fun _ : Unit => Is (.ref p4)) () rfl)) fun _ => evac_nil)) (fun _ => by walk_at "sub"))) (fun _ => evo_none) fun _ => (evo_some evc_int)) (fun _ => (evG_tupT (evGsT_cons evG_name (evGsT_cons evG_name evGsT_nil)) rfl)) hP fun x17 hP => ?_
        walk_at "dd"
        exact ((hk14 _ (Same.refl _) (x17.1.2, x17.1.1, x17.2)) hP).weak (by walk_at "sle") (by walk_at "sub")
      · intro s12 hP
        walk_at "dd"
        refine go_next ?_
        walk_at "dd"
        exact ((hk14 _ (Same.refl _) (x10.1, x11.1, s12)) hP).weak (by walk_at "sle") (by walk_at "sub")
theorem pure__law_gaps (T : Txt K mg) (vs : List V) (H : Hp) (Q : VK) (X : XK) (h : sp__law_gaps K ω vs H Q X) : t__law_gaps K ω X { nx := fun _ H' => Q .non H', rt := Q } (L2.start N__law_gaps vs) H :=
  pure_ofCF (fun x y F Dp k a E B hrt hnx hP => by
    subst hrt
    exact walk__law_gaps T B hnx hP) h
theorem len__law_gaps (K : PySem.W.Frag) : ∀ vs H Q E, sp__law_gaps K ω vs H Q E → vs.length = 1 := spC_len fun _ _ => rfl
theorem walk__law_are_chains (T : Txt K mg) {vfound : (List (List Int))} {a_vfound : Addr} {k_vfound : Nat} (r_vfound : D0[k_vfound]? = some (a_vfound, (OLT (VP K (tD K eI))) vfound)) (hnx : ∀ (F : Hp) (K : PySem.W.Frag) G D1, GoV E.rt F (DN K) D1 → Go E.nx F G D1) (hP : (w__law_are_chains K ω X E.rt D0).W F0 (l_are_chains vfound)) :
    Go (t__law_are_chains K ω X E) F0 [some (Is (.ref a_vfound)), none, none] D0 := by
  unfold l_are_chains at hP
  refine go_seq (go_ifF (w := (w__law_are_chains K ω X E.rt D0)) (evtc_not (evtc_B (evc_isiG (n := "list") (own := "list") (b := true) (evc_var (R := fun _ : Unit => Is (.ref a_vfound)) () rfl) (ty_OL (fun _ => r_vfound)) (by decide +kernel)))) hP (fun hP => ?_))
  walk_at "dd"
  refine go_next ?_
  walk_at "dd"
  refine go_seq (go_forC (w := (w__law_are_chains K ω X E.rt D0)) (σt := Unit) (evItc_O (R := (VP K (tD K eI))) (xs := vfound) rfl (fun _ => r_vfound)) (fun s1 => [some (Is (.ref a_vfound)), none, none]) (fun s1 => D0) () (fun s1 x2 => [some (Is (.ref a_vfound)), some ((VP K (tD K eI)) x2), none]) hP (by walk_at "sle") (by walk_at "sub") (hasC_at (fun _ => r_vfound)) (fun _ _ => evG_name) ?_ ?_)
  · intro F4 t4 s1 hP
    unfold l_are_chains_k1 at hP
    walk_at "dd"
    exact go_retC (w := (w__law_are_chains K ω X E.rt D0)) (Dd := fun _ : Unit => D0) (s := ()) (fun v _ => v) evc_bl hP (fun F v s h => (show GoV _ _ _ _ from h).drop (by walk_at "sub"))
  · intro hB4 F4 t4 x2 s1 n3 Nx hN4 hP
    unfold l_are_chains_b2 at hP
    walk_at "dd"
    refine go_ifC (w := (w__law_are_chains K ω X E.rt D0)) (evtc_orM (evtc_not (evtc_B (evc_isiG (n := "tuple") (own := "tuple") (b := true) (evc_var (R := (VP K (tD K eI))) (x2) rfl) ty_V (by decide +kernel)))) fun _ => (evtc_test (evc_inG fl_B sv_LT evc_bl fun _ => (evc_frzLT (evnc_lc0 (G1 := (fun x9 => [some (Is (.ref a_vfound)), some ((VP K (tD K eI)) x2), some ((tD K eI) x9)])) (evItc_p (evc_var (R := (VP K (tD K eI))) (x2) rfl)) (fun _ => (evW_name (by decide))) (fun _ _ => trivial) (fun x9 _ cq => (evc_andV (evc_isiG (n := "int") (own := "int") (b := true) (evc_var (R := (tD K eI)) (x9) rfl) (ty_d fun _ => rfl) (by decide +kernel)) fun _ => (evc_notV (evc_isiG (n := "bool") (own := "int") (b := false) (evc_var (R := (tD K eI)) (x9) rfl) (ty_d fun _ => rfl) (by decide +kernel)))))))))) hP ?_ ?_
    · intro hP
      walk_at "dd"
      exact go_retC (w := (w__law_are_chains K ω X E.rt D0)) (Dd := fun _ : Unit => D0) (s := ()) (fun v _ => v) evc_bl hP (fun F v s h => (show GoV _ _ _ _ from h).drop (by walk_at "sub"))
    · intro hP
      walk_at "dd"
      refine go_next ?_
      walk_at "dd"
      exact (hN4 _ (Same.refl _) () hP).weak (by walk_at "sle") (by walk_at "sub")
theorem pure__law_are_chains (T : Txt K mg) (vs : List V) (H : Hp) (Q : VK) (X : XK) (h : sp__law_are_chains K ω vs H Q X) : t__law_are_chains K ω X { nx := fun _ H' => Q .non H', rt := Q } (L2.start N__law_are_chains vs) H :=
  pure_ofRdF (fun x F D E hpl hrt hnx hP => by
    subst hrt
    obtain ⟨⟨_, r_vfound⟩, _⟩ := hpl
    exact walk__law_are_chains T r_vfound hnx hP) h
theorem len__law_are_chains (K : PySem.W.Frag) : ∀ vs H Q E, sp__law_are_chains K ω vs H Q E → vs.length = 1 := spR_len fun _ => rfl
theorem walk_law (T : Txt K mg) {vscript : (List Int)} (hnx : ∀ (K : PySem.W.Frag) G D1, GoV E.rt F0 (DN K) D1 → Go E.nx F0 G D1) (hP : (w_law K ω X E.rt D0).W F0 (l_law_k21 vscript)) :
    Go (t_law K ω X E) F0 [some ((LT K (tD K eI)) vscript), none, none, none, none, none, none, none, none, none] D0 := by
  unfold l_law_k21 at hP
  refine go_seq (go_forC (w := (w_law K ω X E.rt D0)) (σt := Unit) (evItc_rng1 (evc_max2 evc_int fun _ => (evc_min2 (evc_len sv_LT (evc_var (R := (LT K (tD K eI))) (vscript) rfl)) fun _ => evc_int))) (fun s2 => [some ((LT K (tD K eI)) vscript), none, none, none, none, none, none, none, none, none]) (fun s2 => D0) () (fun s2 x3 => [some ((LT K (tD K eI)) vscript), some ((tD K eI) x3), none, none, none, none, none, none, none, none]) hP (by walk_at "sle") (by walk_at "sub") (fun _ => trivial) (fun _ _ => evG_name) ?_ ?_)
  · intro F5 t5 s2 hP
    unfold l_law_k21_k1 at hP
    walk_at "dd"
    exact go_retC (w := (w_law K ω X E.rt D0)) (Dd := fun _ : Unit => D0) (s := ()) (fun v _ => v) (evc_andVM (evc_eq (enc_L (enc_2 enc_S enc_S)) (evc_weak (R' := tD K (eL (e2 eS eS))) (evc_frzLT (evnc_callP (fun _ _ _ _ h => h) (evac_cons (evc_frzLT (evnc_lst0 (R := (T3 K (T2 K (tD K eS) (tD K eS)) (T2 K (tD K eS) (tD K eS)) (T2 K (tD K eQ) (VP K (T2 K (tD K eS) (tD K eQ)))))))) fun _ => evac_nil) (fun _ => by walk_at "sub"))) (d_L (R := (T2 K (tD K eS) (tD K eS))) (e := (e2 eS eS)) (fun x => d_T (dd_cons ((d_b (e := eS)) x.1) (dd_cons ((d_b (e := eS)) x.2) dd_nil))))) fun _ => (evc_weak (R' := tD K (eL (e2 eS eS))) (evc_frzLT (evnc_lst0 (R := (T2 K (tD K eS) (tD K eS))))) (d_L (R := (T2 K (tD K eS) (tD K eS))) (e := (e2 eS eS)) (fun x => d_T (dd_cons ((d_b (e := eS)) x.1) (dd_cons ((d_b (e := eS)) x.2) dd_nil)))))) fun _ => (evc_eq (enc_L (enc_V enc_I)) (evc_weak (R' := tD K (eL (eV eI))) (evc_frzLT (evnc_callP (fun _ _ _ _ h => h) (evac_cons (evc_frzLT (evnc_lst0 (R := (T3 K (T2 K (tD K eS) (tD K eS)) (T2 K (tD K eS) (tD K eS)) (T2 K (tD K eQ) (VP K (T2 K (tD K eS) (tD K eQ)))))))) fun _ => evac_nil) (fun _ => by walk_at "sub"))) (d_L (R := (VP K (tD K eI))) (e := (eV eI)) (d_V (R := (tD K eI)) (e := eI) (d_b (e := eI))))) fun _ => (evc_weak (R' := tD K (eL (eV eI))) (evc_frzLT (evnc_lst0 (R := (VP K (tD K eI))))) (d_L (R := (VP K (tD K eI))) (e := (eV eI)) (d_V (R := (tD K eI)) (e := eI) (d_b (e := eI))))))) hP (fun F v s h => (show GoV _ _ _ _ from h).drop (by walk_at "sub"))
  · intro hB5 F5 t5 x3 s2 n4 Nx hN5 hP
    unfold l_law_k21_b4 at hP
    walk_at "dd"
    refine go_seq (go_setC (w := (w_law K ω X E.rt D0)) (evc_callCU (fun _ _ _ _ h => h) (fun _ => ()) (evnc_callP (fun _ _ _ _ h => h) (evac_cons (evc_var (R := (LT K (tD K eI))) (vscript) rfl) fun _ => (evac_cons (evc_var (R := (tD K eI)) (x3) rfl) fun _ => evac_nil)) (fun _ => by walk_at "sub")) (fun _ _ _ => evac_nil) (fun _ _ => rfl) (fun _ => by walk_at "sub")) hP fun x9 hP => ?_)
    walk_at "dd"
    refine go_seq (go_setC (w := (w_law K ω X E.rt D0)) (evc_frzLT (evnc_sortSet (k := (kn2 klS klS)) (Rk := (T2 K (tD K eS) (tD K eS))) (fun x => d_T (dd_cons ((d_b (e := eS)) x.1) (dd_cons ((d_b (e := eS)) x.2) dd_nil))) (ant_2 ant_S ant_S so_S so_S enc_S enc_S) (so_2 so_S so_S) (by decide) lv_LT (evc_catLT (evc_frzLT (evnc_lc0 (G1 := (fun x11 => [some ((LT K (tD K eI)) vscript), some ((tD K eI) x3), some ((LT K (T3 K (T2 K (tD K eS) (tD K eS)) (T2 K (tD K eS) (tD K eS)) (T2 K (tD K eQ) (VP K (T2 K (tD K eS) (tD K eQ)))))) x9), none, some ((T3 K (T2 K (tD K eS) (tD K eS)) (T2 K (tD K eS) (tD K eS)) (T2 K (tD K eQ) (VP K (T2 K (tD K eS) (tD K eQ))))) x11), none, none, none, none, none])) (evItc_l (evc_var (R := (LT K (T3 K (T2 K (tD K eS) (tD K eS)) (T2 K (tD K eS) (tD K eS)) (T2 K (tD K eQ) (VP K (T2 K (tD K eS) (tD K eQ))))))) (x9) rfl)) (fun _ => (evW_name (by decide))) (fun _ _ => trivial) (fun x11 _ cq => (evc_ixT (i := 0) (Rs := fun x : ((Tx × Tx) × (Tx × Tx) × (Rat × (List (Tx × Rat)))) => [(T2 K (tD K eS) (tD K eS)) x.1, (T2 K (tD K eS) (tD K eS)) x.2.1, (T2 K (tD K eQ) (VP K (T2 K (tD K eS) (tD K eQ)))) x.2.2]) (R' := (T2 K (tD K eS) (tD K eS))) (f := fun x => x.1) (evc_var (R := (T3 K (T2 K (tD K eS) (tD K eS)) (T2 K (tD K eS) (tD K eS)) (T2 K (tD K eQ) (VP K (T2 K (tD K eS) (tD K eQ)))))) (x11) rfl) fun _ => rfl)))) fun _ => (evc_frzLT (evnc_lc0 (G1 := (fun x15 => [some ((LT K (tD K eI)) vscript), some ((tD K eI) x3), some ((LT K (T3 K (T2 K (tD K eS) (tD K eS)) (T2 K (tD K eS) (tD K eS)) (T2 K (tD K eQ) (VP K (T2 K (tD K eS) (tD K eQ)))))) x9), none, some ((T3 K (T2 K (tD K eS) (tD K eS)) (T2 K (tD K eS) (tD K eS)) (T2 K (tD K eQ) (VP K (T2 K (tD K eS) (tD K eQ))))) x15), none, none, none, none, none])) (evItc_l (evc_var (R := (LT K (T3 K (T2 K (tD K eS) (tD K eS)) (T2 K (tD K eS) (tD K eS)) (T2 K (tD K eQ) (VP K (T2 K (tD K eS) (tD K eQ))))))) (x9) rfl)) (fun _ => (evW_name (by decide))) (fun _ _ => trivial) (fun x15 _ cq => (evc_ixT (i := 1) (Rs := fun x : ((Tx × Tx) × (Tx × Tx) × (Rat × (List (Tx × Rat)))) => [(T2 K (tD K eS) (tD K eS)) x.1, (T2 K (tD K eS) (tD K eS)) x.2.1, (T2 K (tD K eQ) (VP K (T2 K (tD K eS) (tD K eQ)))) x.2.2]) (R' := (T2 K (tD K eS) (tD K eS))) (f := fun x => x.2.1) (evc_var (R := (T3 K (T2 K (tD K eS) (tD K eS)) (T2 K (tD K eS) (tD K eS)) (T2 K (tD K eQ) (VP K (T2 K (tD K eS) (tD K eQ)))))) (x15) rfl) fun _ => rfl))))))) hP fun x10 hP => ?_)
    walk_at "dd"
    refine go_seq (go_setC (w := (w_law K ω X E.rt D0)) (evc_callP (fun _ _ _ _ h => h) (evac_cons (evc_var (R := (LT K (T3 K (T2 K (tD K eS) (tD K eS)) (T2 K (tD K eS) (tD K eS)) (T2 K (tD K eQ) (VP K (T2 K (tD K eS) (tD K eQ))))))) (x9) rfl) fun _ => evac_nil) (fun _ => by walk_at "sub")) hP fun x19 hP => ?_)
    walk_at "dd"
    refine go_seq (go_setC (w := (w_law K ω X E.rt D0)) (evc_frzLT (evnc_lstS sv_LT (evc_var (R := (LT K (T3 K (T2 K (tD K eS) (tD K eS)) (T2 K (tD K eS) (tD K eS)) (T2 K (tD K eQ) (VP K (T2 K (tD K eS) (tD K eQ))))))) (x9) rfl))) hP fun x20 hP => ?_)
    walk_at "dd"
    refine go_seq (go_forC (w := (w_law K ω X E.rt D0)) (σt := Unit) (evItc_rng1 evc_int) (fun s22 => [some ((LT K (tD K eI)) vscript), some ((tD K eI) x3), some ((LT K (T3 K (T2 K (tD K eS) (tD K eS)) (T2 K (tD K eS) (tD K eS)) (T2 K (tD K eQ) (VP K (T2 K (tD K eS) (tD K eQ)))))) x9), some ((LT K (T2 K (tD K eS) (tD K eS))) x10), none, some ((LT K (VP K (tD K eI))) x19), some ((LT K (T3 K (T2 K (tD K eS) (tD K eS)) (T2 K (tD K eS) (tD K eS)) (T2 K (tD K eQ) (VP K (T2 K (tD K eS) (tD K eQ)))))) x20), none, none, none]) (fun s22 => D0) () (fun s22 x23 => [some ((LT K (tD K eI)) vscript), some ((tD K eI) x3), some ((LT K (T3 K (T2 K (tD K eS) (tD K eS)) (T2 K (tD K eS) (tD K eS)) (T2 K (tD K eQ) (VP K (T2 K (tD K eS) (tD K eQ)))))) x9), some ((LT K (T2 K (tD K eS) (tD K eS))) x10), none, some ((LT K (VP K (tD K eI))) x19), some ((LT K (T3 K (T2 K (tD K eS) (tD K eS)) (T2 K (tD K eS) (tD K eS)) (T2 K (tD K eQ) (VP K (T2 K (tD K eS) (tD K eQ)))))) x20), some ((tD K eI) x23), none, none]) hP (by walk_at "sle") (by walk_at "sub") (fun _ => trivial) (fun _ _ => evG_name) ?_ ?_)
    · intro F25 t25 s22 hP
      unfold l_law_k21_k2 at hP
      walk_at "dd"
      refine go_ifC (w := (w_law K ω X E.rt D0)) (evtc_test (evc_ne (enc_L (enc_3 (enc_2 enc_S enc_S) (enc_2 enc_S enc_S) (enc_2 enc_Q (enc_V (enc_2 enc_S enc_Q))))) (evc_weak (R' := tD K (eL (e3 (e2 eS eS) (e2 eS eS) (e2 eQ (eV (e2 eS eQ)))))) (evc_var (R := (LT K (T3 K (T2 K (tD K eS) (tD K eS)) (T2 K (tD K eS) (tD K eS)) (T2 K (tD K eQ) (VP K (T2 K (tD K eS) (tD K eQ))))))) (x20) rfl) (d_L (R := (T3 K (T2 K (tD K eS) (tD K eS)) (T2 K (tD K eS) (tD K eS)) (T2 K (tD K eQ) (VP K (T2 K (tD K eS) (tD K eQ)))))) (e := (e3 (e2 eS eS) (e2 eS eS) (e2 eQ (eV (e2 eS eQ))))) (fun x => d_T (dd_cons ((fun x => d_T (dd_cons ((d_b (e := eS)) x.1) (dd_cons ((d_b (e := eS)) x.2) dd_nil))) x.1) (dd_cons ((fun x => d_T (dd_cons ((d_b (e := eS)) x.1) (dd_cons ((d_b (e := eS)) x.2) dd_nil))) x.2.1) (dd_cons ((fun x => d_T (dd_cons ((d_b (e := eQ)) x.1) (dd_cons ((d_V (R := (T2 K (tD K eS) (tD K eQ))) (e := (e2 eS eQ)) (fun x => d_T (dd_cons ((d_b (e := eS)) x.1) (dd_cons ((d_b (e := eQ)) x.2) dd_nil)))) x.2) dd_nil))) x.2.2) dd_nil)))))) fun _ => (evc_weak (R' := tD K (eL (e3 (e2 eS eS) (e2 eS eS) (e2 eQ (eV (e2 eS eQ)))))) (evc_var (R := (LT K (T3 K (T2 K (tD K eS) (tD K eS)) (T2 K (tD K eS) (tD K eS)) (T2 K (tD K eQ) (VP K (T2 K (tD K eS) (tD K eQ))))))) (x9) rfl) (d_L (R := (T3 K (T2 K (tD K eS) (tD K eS)) (T2 K (tD K eS) (tD K eS)) (T2 K (tD K eQ) (VP K (T2 K (tD K eS) (tD K eQ)))))) (e := (e3 (e2 eS eS) (e2 eS eS) (e2 eQ (eV (e2 eS eQ))))) (fun x => d_T (dd_cons ((fun x => d_T (dd_cons ((d_b (e := eS)) x.1) (dd_cons ((d_b (e := eS)) x.2) dd_nil))) x.1) (dd_cons ((fun x => d_T (dd_cons ((d_b (e := eS)) x.1) (dd_cons ((d_b (e := eS)) x.2) dd_nil))) x.2.1) (dd_cons ((fun x => d_T (dd_cons ((d_b (e := eQ)) x.1) (dd_cons ((d_V (R := (T2 K (tD K eS) (tD K eQ))) (e := (e2 eS eQ)) (fun x => d_T (dd_cons ((d_b (e := eS)) x.1) (dd_cons ((d_b (e := eQ)) x.2) dd_nil)))) x.2) dd_nil))) x.2.2) dd_nil)))))))) hP ?_ ?_
      · intro hP
        walk_at "dd"
        exact go_retC (w := (w_law K ω X E.rt D0)) (Dd := fun _ : Unit => D0) (s := ()) (fun v _ => v) evc_bl hP (fun F v s h => (show GoV _ _ _ _ from h).drop (by walk_at "sub"))
      · intro hP
        walk_at "dd"
        refine go_next ?_
        walk_at "dd"
        exact (hN5 _ t25 () hP).weak (by walk_at "sle") (by walk_at "sub")
    · intro hB25 F25 t25 x23 s22 n24 Nx hN25 hP
      unfold l_law_k21_b3 at hP
      walk_at "dd"
      refine go_seq (go_setNC (w := (w_law K ω X E.rt D0)) (evnc_callP (fun _ _ _ _ h => h) (evac_cons (evc_var (R := (LT K (T3 K (T2 K (tD K eS) (tD K eS)) (T2 K (tD K eS) (tD K eS)) (T2 K (tD K eQ) (VP K (T2 K (tD K eS) (tD K eQ))))))) (x20) rfl) fun _ => evac_nil) (fun _ => by walk_at "sub")) hP fun x26 p27 hP => ?_)
      walk_at "dd"
      refine go_seq (go_setNC (w := (w_law K ω X E.rt D0)) (evnc_callP (fun _ _ _ _ h => h) (evac_cons (evc_var (R := (LT K (T3 K (T2 K (tD K eS) (tD K eS)) (T2 K (tD K eS) (tD K eS)) (T2 K (tD K eQ) (VP K (T2 K (tD K eS) (tD K eQ))))))) (x20) rfl) fun _ => evac_nil) (fun _ => by walk_at "sub")) hP fun x28 p29 hP => ?_)
      walk_at "dd"
      refine go_seq (go_ifC (w := (w_law K ω X E.rt D0)) (evtc_orM (evtc_not (evtc_B (evc_isiG (n := "list") (own := "list") (b := true) (evc_var (R := fun _ : Unit => Is (.ref p27)) () rfl) (ty_OL (at_n 1 fun _ => rfl)) (by decide +kernel)))) fun _ => (evtc_orM (evtc_test (evc_neOT (xs := x26) (enc_L (enc_2 enc_S enc_S)) (fun x => d_T (dd_cons ((d_b (e := eS)) x.1) (dd_cons ((d_b (e := eS)) x.2) dd_nil))) rfl (at_n 1 fun _ => rfl) (evc_weak (R' := tD K (eL (e2 eS eS))) (evc_var (R := (LT K (T2 K (tD K eS) (tD K eS)))) (x10) rfl) (d_L (R := (T2 K (tD K eS) (tD K eS))) (e := (e2 eS eS)) (fun x => d_T (dd_cons ((d_b (e := eS)) x.1) (dd_cons ((d_b (e := eS)) x.2) dd_nil))))))) fun _ => (evtc_or (evtc_not (evtc_B (evc_callRD (sp := sp__law_are_chains K ω) (f := fun (y : Unit × Unit) (w : Unit) => ((p29, x28), ())) (g := (fun _ => ())) (fun _ _ _ _ h => h) (evac_cons (evc_var (R := fun _ : Unit => Is (.ref p29)) () rfl) fun _ => evac_nil) (fun _ w => ⟨(RdC.of (k := 0) rfl), trivial⟩) (fun _ => DLe.of (by walk_at "sub")) hdR0))) fun _ => (evtc_test (evc_neOT (xs := x28) (enc_L (enc_V enc_I)) (d_V (R := (tD K eI)) (e := eI) (d_b (e := eI))) rfl (at_n 0 fun _ => rfl) (evc_weak (R' := tD K (eL (eV eI))) (evc_var (R := (LT K (VP K (tD K eI)))) (x19) rfl) (d_L (R := (VP K (tD K eI))) (e := (eV eI)) (d_V (R := (tD K eI)) (e := eI) (d_b (e := eI)))))))))) hP ?_ ?_)
      · intro hP
        walk_at "dd"
        exact go_retC (w := (w_law K ω X E.rt D0)) (Dd := fun _ : Unit => (p29, (OLT (VP K (tD K eI))) (x28)) :: (p27, (OLT (T2 K (tD K eS) (tD K eS))) (x26)) :: D0) (s := ()) (fun v _ => v) evc_bl hP (fun F v s h => (show GoV _ _ _ _ from h).drop (by walk_at "sub"))
      · intro hP
        walk_at "dd"
        refine go_next ?_
        walk_at "dd"
        refine go_seq (go_clearC (w := (w_law K ω X E.rt D0)) (R := (T2 K (tD K eS) (tD K eS))) (xs := x26) (n := 8) (k := 1) rfl rfl hP fun x30 hP => ?_)
        walk_at "dd"
        refine go_clearC (w := (w_law K ω X E.rt D0)) (R := (VP K (tD K eI))) (xs := x28) (n := 9) (k := 0) rfl rfl hP fun x31 hP => ?_
        walk_at "dd"
        exact (hN25 _ (Same.refl _) () hP).weak (by walk_at "sle") (by walk_at "sub")
theorem pure_law (T : Txt K mg) (vs : List V) (H : Hp) (Q : VK) (X : XK) (h : sp_law K ω vs H Q X) : t_law K ω X { nx := fun _ H' => Q .non H', rt := Q } (L2.start N_law vs) H :=
  pure_ofLawT (mf := l_law_k21) l_law_k21_true (fun x F D E hrt hnx hP => by
    subst hrt
    exact walk_law T hnx hP) h
theorem len_law (K : PySem.W.Frag) : ∀ vs H Q E, sp_law K ω vs H Q E → vs.length = 1 := fun vs H Q E ⟨x, F, D, _, h, _⟩ => h.len
end
end N21
set_option Elab.async false
set_option linter.all false
set_option maxRecDepth 100000
set_option synthInstance.maxSize 4000
set_option maxHeartbeats 4000000
open PySem PySem.Spec L2 TL
namespace N21
section
variable {P : Program} {ω : World} {K : PySem.W.Frag} {mg : Str → Option Value} {base : Heap}
theorem ok_nodes_of (T : Txt K mg) {f : Addr} {fd : FuncData} (FD : FunD K "nodes_of" "nodes_of" (defArgs s_nodes_of) (defBody s_nodes_of) (defScope s_nodes_of) [] [] f fd) : FnOk P ω K mg base (L2.CX P ω) 1 f fd ["gaps"] (sp_nodes_of K ω) :=
  FD.ok sc_nodes_of (len_nodes_of K) fun cdv A outer s H vs Q X hr h => ⟨t_nodes_of K ω X, body_nodes_of T hr, pure_nodes_of T vs H Q X h⟩
theorem ok_chains_behind (T : Txt K mg) {f : Addr} {fd : FuncData} (FD : FunD K "chains_behind" "chains_behind" (defArgs s_chains_behind) (defBody s_chains_behind) (defScope s_chains_behind) [] [] f fd) (mk : ∀ l sp, FnOk P ω K mg base (L2.CX P ω) l f fd ["gaps", "way"] sp → Fo P ω K mg base "chains_behind" ["gaps", "way"] [] l sp) : ∀ m : Nat, FnOk P ω K mg base (L2.CX P ω) (1 + m) f fd ["gaps", "way"] (sp_chains_behind_r m K ω)
  | 0 => FD.ok sc_chains_behind (len_chains_behind_r 0 K) fun cdv A outer s H vs Q X hr h => (rec0_chains_behind h).elim
  | m + 1 => FD.ok sc_chains_behind (len_chains_behind_r (m + 1) K) fun cdv A outer s H vs Q X hr h => ⟨t_chains_behind m K ω X, body_chains_behind m T (mk _ _ (ok_chains_behind T FD mk m)) hr, pure_chains_behind T m vs H Q X h⟩
theorem ok_chains_of (T : Txt K mg) (F_chains_behind : Fo P ω K mg base "chains_behind" ["gaps", "way"] [] 25 (sp_chains_behind K ω)) {f : Addr} {fd : FuncData} (FD : FunD K "chains_of" "chains_of" (defArgs s_chains_of) (defBody s_chains_of) (defScope s_chains_of) [] [] f fd) : FnOk P ω K mg base (L2.CX P ω) 26 f fd ["gaps"] (sp_chains_of K ω) :=
  FD.ok sc_chains_of (len_chains_of K) fun cdv A outer s H vs Q X hr h => ⟨t_chains_of K ω X, body_chains_of T F_chains_behind hr, pure_chains_of T vs H Q X h⟩
theorem ok__law_well (T : Txt K mg) {f : Addr} {fd : FuncData} (FD : FunD K "_law_well" "_law_well" (defArgs s__law_well) (defBody s__law_well) (defScope s__law_well) [] [] f fd) : FnOk P ω K mg base (L2.CX P ω) 1 f fd ["_law_script", "_law_k"] (sp__law_well K ω) :=
  FD.ok sc__law_well (len__law_well K) fun cdv A outer s H vs Q X hr h => ⟨t__law_well K ω X, body__law_well T hr, pure__law_well T vs H Q X h⟩
theorem ok__law_take (T : Txt K mg) {f : Addr} {fd : FuncData} (FD : FunD K "_law_take" "_law_take" (defArgs s__law_take) (defBody s__law_take) (defScope s__law_take) [] [] f fd) : FnOk P ω K mg base (L2.CX P ω) 1 f fd ["_law_well_here", "_law_many"] (sp__law_take K ω) :=
  FD.ok sc__law_take (len__law_take K) fun cdv A outer s H vs Q X hr h => ⟨t__law_take K ω X, body__law_take T hr, pure__law_take T vs H Q X h⟩
theorem ok__law_common (T : Txt K mg) {f : Addr} {fd : FuncData} (FD : FunD K "_law_common" "_law_common" (defArgs s__law_common) (defBody s__law_common) (defScope s__law_common) [] [] f fd) : FnOk P ω K mg base (L2.CX P ω) 1 f fd ["_law_one", "_law_other"] (sp__law_common K ω) :=
  FD.ok sc__law_common (len__law_common K) fun cdv A outer s H vs Q X hr h => ⟨t__law_common K ω X, body__law_common T hr, pure__law_common T vs H Q X h⟩
theorem ok__law_num (T : Txt K mg) (F__law_common : Fo P ω K mg base "_law_common" ["_law_one", "_law_other"] [] 1 (sp__law_common K ω)) {f : Addr} {fd : FuncData} (FD : FunD K "_law_num" "_law_num" (defArgs s__law_num) (defBody s__law_num) (defScope s__law_num) [] [] f fd) : FnOk P ω K mg base (L2.CX P ω) 2 f fd ["_law_top", "_law_bottom"] (sp__law_num K ω) :=
  FD.ok sc__law_num (len__law_num K) fun cdv A outer s H vs Q X hr h => ⟨t__law_num K ω X, body__law_num T F__law_common hr, pure__law_num T vs H Q X h⟩
theorem ok__law_number (T : Txt K mg) (F__law_num : Fo P ω K mg base "_law_num" ["_law_top", "_law_bottom"] [] 2 (sp__law_num K ω)) (F__law_take : Fo P ω K mg base "_law_take" ["_law_well_here", "_law_many"] [] 1 (sp__law_take K ω)) {f : Addr} {fd : FuncData} (FD : FunD K "_law_number" "_law_number" (defArgs s__law_number) (defBody s__law_number) (defScope s__law_number) [] [] f fd) : FnOk P ω K mg base (L2.CX P ω) 3 f fd ["_law_well_here"] (sp__law_number K ω) :=
  FD.ok sc__law_number (len__law_number K) fun cdv A outer s H vs Q X hr h => ⟨t__law_number K ω X, body__law_number T F__law_num F__law_take hr, pure__law_number T vs H Q X h⟩
theorem ok__law_words (T : Txt K mg) (F__law_take : Fo P ω K mg base "_law_take" ["_law_well_here", "_law_many"] [] 1 (sp__law_take K ω)) {f : Addr} {fd : FuncData} (FD : FunD K "_law_words" "_law_words" (defArgs s__law_words) (defBody s__law_words) (defScope s__law_words) [] [] f fd) : FnOk P ω K mg base (L2.CX P ω) 2 f fd ["_law_well_here", "_law_many"] (sp__law_words K ω) :=
  FD.ok sc__law_words (len__law_words K) fun cdv A outer s H vs Q X hr h => ⟨t__law_words K ω X, body__law_words T F__law_take hr, pure__law_words T vs H Q X h⟩
theorem ok__law_nodes (T : Txt K mg) (F__law_take : Fo P ω K mg base "_law_take" ["_law_well_here", "_law_many"] [] 1 (sp__law_take K ω)) (F__law_words : Fo P ω K mg base "_law_words" ["_law_well_here", "_law_many"] [] 2 (sp__law_words K ω)) {f : Addr} {fd : FuncData} (FD : FunD K "_law_nodes" "_law_nodes" (defArgs s__law_nodes) (defBody s__law_nodes) (defScope s__law_nodes) [] [] f fd) : FnOk P ω K mg base (L2.CX P ω) 3 f fd ["_law_well_here", "_law_many"] (sp__law_nodes K ω) :=
  FD.ok sc__law_nodes (len__law_nodes K) fun cdv A outer s H vs Q X hr h => ⟨t__law_nodes K ω X, body__law_nodes T F__law_take F__law_words hr, pure__law_nodes T vs H Q X h⟩
theorem ok__law_few (T : Txt K mg) (F__law_take : Fo P ω K mg base "_law_take" ["_law_well_here", "_law_many"] [] 1 (sp__law_take K ω)) {f : Addr} {fd : FuncData} (FD : FunD K "_law_few" "_law_few" (defArgs s__law_few) (defBody s__law_few) (defScope s__law_few) [] [] f fd) : FnOk P ω K mg base (L2.CX P ω) 2 f fd ["_law_well_here"] (sp__law_few K ω) :=
  FD.ok sc__law_few (len__law_few K) fun cdv A outer s H vs Q X hr h => ⟨t__law_few K ω X, body__law_few T F__law_take hr, pure__law_few T vs H Q X h⟩
theorem ok__law_chains (T : Txt K mg) {f : Addr} {fd : FuncData} (FD : FunD K "_law_chains" "_law_chains" (defArgs s__law_chains) (defBody s__law_chains) (defScope s__law_chains) [] [] f fd) : FnOk P ω K mg base (L2.CX P ω) 1 f fd ["_law_gaps_here"] (sp__law_chains K ω) :=
  FD.ok sc__law_chains (len__law_chains K) fun cdv A outer s H vs Q X hr h => ⟨t__law_chains K ω X, body__law_chains T hr, pure__law_chains T vs H Q X h⟩
theorem ok__law_gaps (T : Txt K mg) (F__law_few : Fo P ω K mg base "_law_few" ["_law_well_here"] [] 2 (sp__law_few K ω)) (F__law_nodes : Fo P ω K mg base "_law_nodes" ["_law_well_here", "_law_many"] [] 3 (sp__law_nodes K ω)) (F__law_number : Fo P ω K mg base "_law_number" ["_law_well_here"] [] 3 (sp__law_number K ω)) (F__law_take : Fo P ω K mg base "_law_take" ["_law_well_here", "_law_many"] [] 1 (sp__law_take K ω)) {f : Addr} {fd : FuncData} (FD : FunD K "_law_gaps" "_law_gaps" (defArgs s__law_gaps) (defBody s__law_gaps) (defScope s__law_gaps) [] [] f fd) : FnOk P ω K mg base (L2.CX P ω) 4 f fd ["_law_well_here"] (sp__law_gaps K ω) :=
  FD.ok sc__law_gaps (len__law_gaps K) fun cdv A outer s H vs Q X hr h => ⟨t__law_gaps K ω X, body__law_gaps T F__law_few F__law_nodes F__law_number F__law_take hr, pure__law_gaps T vs H Q X h⟩
theorem ok__law_are_chains (T : Txt K mg) {f : Addr} {fd : FuncData} (FD : FunD K "_law_are_chains" "_law_are_chains" (defArgs s__law_are_chains) (defBody s__law_are_chains) (defScope s__law_are_chains) [] [] f fd) : FnOk P ω K mg base (L2.CX P ω) 1 f fd ["_law_found"] (sp__law_are_chains K ω) :=
  FD.ok sc__law_are_chains (len__law_are_chains K) fun cdv A outer s H vs Q X hr h => ⟨t__law_are_chains K ω X, body__law_are_chains T hr, pure__law_are_chains T vs H Q X h⟩
theorem ok_law (T : Txt K mg) (F__law_are_chains : Fo P ω K mg base "_law_are_chains" ["_law_found"] [] 1 (sp__law_are_chains K ω)) (F__law_chains : Fo P ω K mg base "_law_chains" ["_law_gaps_here"] [] 1 (sp__law_chains K ω)) (F__law_gaps : Fo P ω K mg base "_law_gaps" ["_law_well_here"] [] 4 (sp__law_gaps K ω)) (F__law_well : Fo P ω K mg base "_law_well" ["_law_script", "_law_k"] [] 1 (sp__law_well K ω)) (F_chains_of : Fo P ω K mg base "chains_of" ["gaps"] [] 26 (sp_chains_of K ω)) (F_nodes_of : Fo P ω K mg base "nodes_of" ["gaps"] [] 1 (sp_nodes_of K ω)) {f : Addr} {fd : FuncData} (FD : FunD K "law" "law" (defArgs s_law) (defBody s_law) (defScope s_law) [] [] f fd) : FnOk P ω K mg base (L2.CX P ω) 27 f fd ["_law_script"] (sp_law K ω) :=
  FD.ok sc_law (len_law K) fun cdv A outer s H vs Q X hr h => ⟨t_law K ω X, body_law T F__law_are_chains F__law_chains F__law_gaps F__law_well F_chains_of F_nodes_of hr, pure_law T vs H Q X h⟩
end
def d0 : He.DefD := ⟨("nodes_of", none), "nodes_of", "nodes_of", defArgs s_nodes_of, defBody s_nodes_of, defScope s_nodes_of, [], []⟩
def d1 : He.DefD := ⟨("chains_behind", none), "chains_behind", "chains_behind", defArgs s_chains_behind, defBody s_chains_behind, defScope s_chains_behind, [], []⟩
def d2 : He.DefD := ⟨("chains_of", none), "chains_of", "chains_of", defArgs s_chains_of, defBody s_chains_of, defScope s_chains_of, [], []⟩
def d3 : He.DefD := ⟨("_law_well", none), "_law_well", "_law_well", defArgs s__law_well, defBody s__law_well, defScope s__law_well, [], []⟩
def d4 : He.DefD := ⟨("_law_take", none), "_law_take", "_law_take", defArgs s__law_take, defBody s__law_take, defScope s__law_take, [], []⟩
def d5 : He.DefD := ⟨("_law_common", none), "_law_common", "_law_common", defArgs s__law_common, defBody s__law_common, defScope s__law_common, [], []⟩
def d6 : He.DefD := ⟨("_law_num", none), "_law_num", "_law_num", defArgs s__law_num, defBody s__law_num, defScope s__law_num, [], []⟩
def d7 : He.DefD := ⟨("_law_number", none), "_law_number", "_law_number", defArgs s__law_number, defBody s__law_number, defScope s__law_number, [], []⟩
def d8 : He.DefD := ⟨("_law_words", none), "_law_words", "_law_words", defArgs s__law_words, defBody s__law_words, defScope s__law_words, [], []⟩
def d9 : He.DefD := ⟨("_law_nodes", none), "_law_nodes", "_law_nodes", defArgs s__law_nodes, defBody s__law_nodes, defScope s__law_nodes, [], []⟩
def d10 : He.DefD := ⟨("_law_few", none), "_law_few", "_law_few", defArgs s__law_few, defBody s__law_few, defScope s__law_few, [], []⟩
def d11 : He.DefD := ⟨("_law_chains", none), "_law_chains", "_law_chains", defArgs s__law_chains, defBody s__law_chains, defScope s__law_chains, [], []⟩
def d12 : He.DefD := ⟨("_law_gaps", none), "_law_gaps", "_law_gaps", defArgs s__law_gaps, defBody s__law_gaps, defScope s__law_gaps, [], []⟩
def d13 : He.DefD := ⟨("_law_are_chains", none), "_law_are_chains", "_law_are_chains", defArgs s__law_are_chains, defBody s__law_are_chains, defScope s__law_are_chains, [], []⟩
def d14 : He.DefD := ⟨("law", none), "law", "law", defArgs s_law, defBody s_law, defScope s_law, [], []⟩
def fn : List He.DefD := [d0, d1, d2, d3, d4, d5, d6, d7, d8, d9, d10, d11, d12, d13, d14]
def fa : List He.Fa := [.free "abs", .free "bool", .free "int", .free "isinstance", .free "len", .free "list", .free "max", .free "min", .free "range", .free "set", .free "sorted", .free "tuple", .glo "nodes_of", .glo "chains_behind", .glo "chains_of", .glo "_law_well", .glo "_law_take", .glo "_law_common", .glo "_law_num", .glo "_law_number", .glo "_law_words", .glo "_law_nodes", .glo "_law_few", .glo "_law_chains", .glo "_law_gaps", .glo "_law_are_chains", .glo "law"]
def ex (K : PySem.W.Frag) : Bool := true
abbrev R : PySem.W.OpenRow := PySem.W.OpenLaw.row PySem.Challenge.rw_fitwhatever_k21_chains
abbrev hk : PySem.W.Hook := hookY 5 fa fn ex
def ob (s : PySem.W.SharedT) : AlZ := obsYG 5 fa fn ex (HandSHeadRun.getT s)
theorem ob_eq (s : PySem.W.SharedT) : ob s = hk.obs s.abs := obsYG_eq (HandSHeadRun.getT_eq s)
theorem run (ω : World) : HandSHeadRun.RunEq R (PySem.W.view R.prog [20]) hk ob 20000 ((["nodes_of", "chains_behind", "chains_of", "_law_well", "_law_take", "_law_common", "_law_num", "_law_add", "_law_mul", "_law_less", "_law_below", "_law_number", "_law_words", "_law_nodes", "_law_few", "_law_chains", "_law_gaps", "_law_are_chains"] : List PySem.Str)) ω := by
  intro os
  kernel_rfl
theorem facts {P : Program} {ω : World} {K : PySem.W.Frag} {h : Heap} {mg : Str → Option Value} {f : Addr} (KX : K.In h) (G : h.Ns mainGlobals mg) (hfa : mg ("law" : Str) = some (.ref f)) (c : SaysZ fa fn ex K) :
    ∃ fd : FuncData, (∀ (s : Shared) (v : Value), BindsTo s fd ⟨[v], []⟩ [("_law_script", v)]) ∧ ∀ base : Heap, K.In base → base.Ns mainGlobals mg → FnOk P ω K mg base L2.CX0 27 f fd ["_law_script"] (sp_law K ω) := by
  have ce := c.2
  unfold ex at ce
  simp only [Bool.and_eq_true] at ce
  obtain ⟨_⟩ := ce
  have T : Txt K mg := {
    b_abs := He.free_ok KX G (c.1.fact 0 rfl)
    b_bool := He.free_ok KX G (c.1.fact 1 rfl)
    b_int := He.free_ok KX G (c.1.fact 2 rfl)
    b_isinstance := He.free_ok KX G (c.1.fact 3 rfl)
    b_len := He.free_ok KX G (c.1.fact 4 rfl)
    b_list := He.free_ok KX G (c.1.fact 5 rfl)
    b_max := He.free_ok KX G (c.1.fact 6 rfl)
    b_min := He.free_ok KX G (c.1.fact 7 rfl)
    b_range := He.free_ok KX G (c.1.fact 8 rfl)
    b_set := He.free_ok KX G (c.1.fact 9 rfl)
    b_sorted := He.free_ok KX G (c.1.fact 10 rfl)
    b_tuple := He.free_ok KX G (c.1.fact 11 rfl) }
  obtain ⟨fd0, FD0⟩ := c.1.def_ 0 (d := d0) rfl
  have hg0 : mg "nodes_of" = some (.ref (He.ga K "nodes_of")) := He.glo_ok KX G (c.1.fact 12 (f := .glo "nodes_of") rfl)
  obtain ⟨fd1, FD1⟩ := c.1.def_ 1 (d := d1) rfl
  have hg1 : mg "chains_behind" = some (.ref (He.ga K "chains_behind")) := He.glo_ok KX G (c.1.fact 13 (f := .glo "chains_behind") rfl)
  obtain ⟨fd2, FD2⟩ := c.1.def_ 2 (d := d2) rfl
  have hg2 : mg "chains_of" = some (.ref (He.ga K "chains_of")) := He.glo_ok KX G (c.1.fact 14 (f := .glo "chains_of") rfl)
  obtain ⟨fd3, FD3⟩ := c.1.def_ 3 (d := d3) rfl
  have hg3 : mg "_law_well" = some (.ref (He.ga K "_law_well")) := He.glo_ok KX G (c.1.fact 15 (f := .glo "_law_well") rfl)
  obtain ⟨fd4, FD4⟩ := c.1.def_ 4 (d := d4) rfl
  have hg4 : mg "_law_take" = some (.ref (He.ga K "_law_take")) := He.glo_ok KX G (c.1.fact 16 (f := .glo "_law_take") rfl)
  obtain ⟨fd5, FD5⟩ := c.1.def_ 5 (d := d5) rfl
  have hg5 : mg "_law_common" = some (.ref (He.ga K "_law_common")) := He.glo_ok KX G (c.1.fact 17 (f := .glo "_law_common") rfl)
  obtain ⟨fd6, FD6⟩ := c.1.def_ 6 (d := d6) rfl
  have hg6 : mg "_law_num" = some (.ref (He.ga K "_law_num")) := He.glo_ok KX G (c.1.fact 18 (f := .glo "_law_num") rfl)
  obtain ⟨fd7, FD7⟩ := c.1.def_ 7 (d := d7) rfl
  have hg7 : mg "_law_number" = some (.ref (He.ga K "_law_number")) := He.glo_ok KX G (c.1.fact 19 (f := .glo "_law_number") rfl)
  obtain ⟨fd8, FD8⟩ := c.1.def_ 8 (d := d8) rfl
  have hg8 : mg "_law_words" = some (.ref (He.ga K "_law_words")) := He.glo_ok KX G (c.1.fact 20 (f := .glo "_law_words") rfl)
  obtain ⟨fd9, FD9⟩ := c.1.def_ 9 (d := d9) rfl
  have hg9 : mg "_law_nodes" = some (.ref (He.ga K "_law_nodes")) := He.glo_ok KX G (c.1.fact 21 (f := .glo "_law_nodes") rfl)
  obtain ⟨fd10, FD10⟩ := c.1.def_ 10 (d := d10) rfl
  have hg10 : mg "_law_few" = some (.ref (He.ga K "_law_few")) := He.glo_ok KX G (c.1.fact 22 (f := .glo "_law_few") rfl)
  obtain ⟨fd11, FD11⟩ := c.1.def_ 11 (d := d11) rfl
  have hg11 : mg "_law_chains" = some (.ref (He.ga K "_law_chains")) := He.glo_ok KX G (c.1.fact 23 (f := .glo "_law_chains") rfl)
  obtain ⟨fd12, FD12⟩ := c.1.def_ 12 (d := d12) rfl
  have hg12 : mg "_law_gaps" = some (.ref (He.ga K "_law_gaps")) := He.glo_ok KX G (c.1.fact 24 (f := .glo "_law_gaps") rfl)
  obtain ⟨fd13, FD13⟩ := c.1.def_ 13 (d := d13) rfl
  have hg13 : mg "_law_are_chains" = some (.ref (He.ga K "_law_are_chains")) := He.glo_ok KX G (c.1.fact 25 (f := .glo "_law_are_chains") rfl)
  obtain ⟨fd14, FD14⟩ := c.1.def_ 14 (d := d14) rfl
  have e := hfa.symm.trans (He.glo_ok KX G (c.1.fact 26 (f := .glo "law") rfl))
  cases e
  have b := FunD.bindsA (ps := ["_law_script"]) FD14 fun _ _ _ _ _ _ us hl => match us, hl with | [_], _ => rfl
  refine ⟨fd14, fun s v => b s [v] rfl, fun base _ _ => ?_⟩
  have O0 := ok_nodes_of (P := P) (ω := ω) (base := base) T FD0
  have F_nodes_of := fo_mk FD0 hg0 O0 (fun _ _ _ _ _ _ us hl => match us, hl with | [_], _ => rfl)
  have O1 : FnOk P ω K mg base (L2.CX P ω) 25 _ _ ["gaps", "way"] (sp_chains_behind K ω) := ok_chains_behind (P := P) (ω := ω) (base := base) T FD1 (fun l sp O => fo_mk FD1 hg1 O (fun _ _ _ _ _ _ us hl => match us, hl with | [_, _], _ => rfl)) 24
  have F_chains_behind := fo_mk FD1 hg1 O1 (fun _ _ _ _ _ _ us hl => match us, hl with | [_, _], _ => rfl)
  have O2 := ok_chains_of (P := P) (ω := ω) (base := base) T F_chains_behind FD2
  have F_chains_of := fo_mk FD2 hg2 O2 (fun _ _ _ _ _ _ us hl => match us, hl with | [_], _ => rfl)
  have O3 := ok__law_well (P := P) (ω := ω) (base := base) T FD3
  have F__law_well := fo_mk FD3 hg3 O3 (fun _ _ _ _ _ _ us hl => match us, hl with | [_, _], _ => rfl)
  have O4 := ok__law_take (P := P) (ω := ω) (base := base) T FD4
  have F__law_take := fo_mk FD4 hg4 O4 (fun _ _ _ _ _ _ us hl => match us, hl with | [_, _], _ => rfl)
  have O5 := ok__law_common (P := P) (ω := ω) (base := base) T FD5
  have F__law_common := fo_mk FD5 hg5 O5 (fun _ _ _ _ _ _ us hl => match us, hl with | [_, _], _ => rfl)
  have O6 := ok__law_num (P := P) (ω := ω) (base := base) T F__law_common FD6
  have F__law_num := fo_mk FD6 hg6 O6 (fun _ _ _ _ _ _ us hl => match us, hl with | [_, _], _ => rfl)
  have O7 := ok__law_number (P := P) (ω := ω) (base := base) T F__law_num F__law_take FD7
  have F__law_number := fo_mk FD7 hg7 O7 (fun _ _ _ _ _ _ us hl => match us, hl with | [_], _ => rfl)
  have O8 := ok__law_words (P := P) (ω := ω) (base := base) T F__law_take FD8
  have F__law_words := fo_mk FD8 hg8 O8 (fun _ _ _ _ _ _ us hl => match us, hl with | [_, _], _ => rfl)
  have O9 := ok__law_nodes (P := P) (ω := ω) (base := base) T F__law_take F__law_words FD9
  have F__law_nodes := fo_mk FD9 hg9 O9 (fun _ _ _ _ _ _ us hl => match us, hl with | [_, _], _ => rfl)
  have O10 := ok__law_few (P := P) (ω := ω) (base := base) T F__law_take FD10
  have F__law_few := fo_mk FD10 hg10 O10 (fun _ _ _ _ _ _ us hl => match us, hl with | [_], _ => rfl)
  have O11 := ok__law_chains (P := P) (ω := ω) (base := base) T FD11
  have F__law_chains := fo_mk FD11 hg11 O11 (fun _ _ _ _ _ _ us hl => match us, hl with | [_], _ => rfl)
  have O12 := ok__law_gaps (P := P) (ω := ω) (base := base) T F__law_few F__law_nodes F__law_number F__law_take FD12
  have F__law_gaps := fo_mk FD12 hg12 O12 (fun _ _ _ _ _ _ us hl => match us, hl with | [_], _ => rfl)
  have O13 := ok__law_are_chains (P := P) (ω := ω) (base := base) T FD13
  have F__law_are_chains := fo_mk FD13 hg13 O13 (fun _ _ _ _ _ _ us hl => match us, hl with | [_], _ => rfl)
  exact calm_fn (ok_law T F__law_are_chains F__law_chains F__law_gaps F__law_well F_chains_of F_nodes_of FD14) lawSp_E
end N21
open PySem PySem.W PySem.Calls PyProof.Rows
set_option maxRecDepth 100000 in
set_option maxHeartbeats 0 in
theorem PySem.Challenge.cw_fitwhatever_k21_chains_holds : PySem.Challenge.rw_fitwhatever_k21_chains.Holds := by
  w_on; o_law
  refine HandSHeadRun.head_any (r := OpenLaw.row PySem.Challenge.rw_fitwhatever_k21_chains) (q := view (OpenLaw.row PySem.Challenge.rw_fitwhatever_k21_chains).prog [20]) (H := N21.hk) (ob := N21.ob) (M := 20000) (loose := (["nodes_of", "chains_behind", "chains_of", "_law_well", "_law_take", "_law_common", "_law_num", "_law_add", "_law_mul", "_law_less", "_law_below", "_law_number", "_law_words", "_law_nodes", "_law_few", "_law_chains", "_law_gaps", "_law_are_chains"] : List PySem.Str)) (d := HandSHeadRun.topDef (OpenLaw.row PySem.Challenge.rw_fitwhatever_k21_chains).prog 20) (kwd := []) N21.ob_eq
    (by kernel_rfl) (fun s => by kernel_rfl) N21.run (by kernel_rfl) (by kernel_rfl) (by kernel_rfl) (by rfl) (by first | assumption | decide +kernel) (by decide +kernel) ⟨rfl, rfl, rfl, rfl, rfl, by decide +kernel⟩ ?hw ?hc
  case hw => w_witness2
  case hc =>
    refine L2.walk_ofE (l := PySem.Challenge.rw_fitwhatever_k21_chains) (n := 63) (k := 27) (x := "_law_script") (CX := L2.CX0) rfl (by decide) (by kernel_rfl) ⟨rfl, by decide, by decide⟩ ?F ?X
    case X => exact fun _ _ _ _ z => z
    case F =>
      intro ω mg fa h Y G hmg0
      obtain ⟨K, KX, c⟩ := Y
      have hmg : mg ("law" : PySem.Str) = some (.ref fa) := by
        have e : (HandSHeadRun.topDef (OpenLaw.row PySem.Challenge.rw_fitwhatever_k21_chains).prog 20).name = ("law" : PySem.Str) := by kernel_rfl
        rw [← e]
        exact hmg0
      obtain ⟨fd, hb, hF⟩ := N21.facts (P := (PySem.Challenge.rw_fitwhatever_k21_chains).prog) (ω := ω) KX G hmg c
      exact ⟨K, fd, N21.sp_law K ω, KX, hb, fun H a ns hl _ hS => TL.law_sp hl hS, hF⟩
