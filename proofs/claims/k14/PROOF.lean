import PyProof.Rows.All
import Wide.All
import OpenK.AllK
import Wide.FinOn
import HandS.Base
import HandS.Call
import HandS.List
import HandS.Comp
import HandS.Ends
import HandS.Exc
import HandS.ExcOwn
import HandS.Words
import HandS.WordsList
import HandS.WordsExc
import HandS.IsInst
import HandS.Wide
import HandS.Flow
import HandS.Defaults
import HandS.ExcValue
import HandS.ExcIs
import HandS.TryOnly
import HandS.Dict
import HandS.Head0
import HandS.Head1
import HandS.Head2
import HandS.HeadEnd
import HandS.HeadHook1
import HandS.HeadHook2
import HandS.Deep
import HandS.Style
import HandS.More
import HandS.Text
import HandS.Zip
import PyProof.StrLawsJoin
import HandS.Iter
import HandS.Strs
import HandS.TupAny
import KE.KDictZip
import HandS.TupLe
import HandS.ListEq
import PyProof.NeKinds
import HandS.WordsDict
import KE.SortData
import PyProof.AutoSeq1
import HandS.HotCalls
import HandS.ListItems
import HandS.Sort
import PySem.Challenge.RW_fitwhatever_k14_faces_put
import KE.KStateDown
import Lean
set_option Elab.async false
set_option linter.all false
set_option maxRecDepth 100000
set_option maxHeartbeats 1000000
namespace TL
open PySem PySem.Spec L2
structure Ty where
  p : V → Hp → Prop
  mono : ∀ {v : V} {F F' : Hp}, Same F F' → p v F → p v F'
structure OTy where
  p : HO → Hp → Prop
  mono : ∀ {o : HO} {F F' : Hp}, Same F F' → p o F → p o F'
  q : HO → Hp → Hp → Prop
  qmono : ∀ {o : HO} {L F F' : Hp}, Same F F' → q o L F → q o L F'
@[reducible] def OTy.fl (p : HO → Hp → Prop) (mono : ∀ {o : HO} {F F' : Hp}, Same F F' → p o F → p o F') : OTy := ⟨p, mono, fun _ _ _ => True, fun _ h => h⟩
abbrev noH : Hp := fun _ => none
abbrev Sto := List (Option Ty)
abbrev Own := List (Addr × OTy)
theorem same_new {H : Hp} {p : Addr} {o : HO} (h : H p = none) : Same H (upd H p o) := fun b u e => by
  rw [upd_ne (ne_of_none e h)]
  exact e
structure DeepOk (D : Own) (H F : Hp) (L : Addr → Hp) : Prop where
  q : ∀ a O, (a, O) ∈ D → ∀ o, H a = some o → O.q o (L a) F
  at_ : ∀ a b o, a ∈ D.map (·.1) → L a b = some o → H b = some o ∧ F b = none ∧ b ∉ D.map (·.1)
  sep : ∀ a a' b, a ∈ D.map (·.1) → a' ∈ D.map (·.1) → L a b ≠ none → L a' b ≠ none → a = a'
structure HS (D : Own) (H F : Hp) : Prop where
  sub : Same F H
  own : ∀ a O, (a, O) ∈ D → F a = none ∧ ∃ o, H a = some o ∧ O.p o F
  nd : (D.map (·.1)).Nodup
  deep : ∃ L, DeepOk D H F L
theorem DeepOk.drop {D D' : Own} {H F : Hp} {L : Addr → Hp} (h : DeepOk D H F L) (s : ∀ c ∈ D', c ∈ D) : DeepOk D' H F L :=
  have m : ∀ a, a ∈ D'.map (·.1) → a ∈ D.map (·.1) := fun a ha => let ⟨c, hc, e⟩ := List.mem_map.mp ha; List.mem_map.mpr ⟨c, s c hc, e⟩
  ⟨fun a O z => h.q a O (s _ z), fun a b o z e => let ⟨h1, h2, h3⟩ := h.at_ a b o (m _ z) e; ⟨h1, h2, fun z' => h3 (m _ z')⟩, fun a a' b z z' => h.sep a a' b (m _ z) (m _ z')⟩
theorem DeepOk.updD {D D' : Own} {H F : Hp} {L : Addr → Hp} (h : DeepOk D H F L) {a : Addr} {o : HO} (hm : ∀ b O, (b, O) ∈ D' → b ≠ a → (b, O) ∈ D) (q0 : ∀ O, (a, O) ∈ D' → O.q o noH F) (ha : H a = none ∨ a ∈ D.map (·.1)) : ∃ L', DeepOk D' (L2.upd H a o) F L' := by
  have nb : ∀ c b u, c ∈ D.map (·.1) → L c b = some u → b ≠ a := fun c b u hc e z => by
    obtain ⟨h1, h2, h3⟩ := h.at_ c b u hc e
    subst z
    rcases ha with ha | ha
    · rw [ha] at h1; cases h1
    · exact h3 ha
  have mm : ∀ b, b ∈ D'.map (·.1) → b ≠ a → b ∈ D.map (·.1) := fun b hb ne => by
    obtain ⟨c, hc, e⟩ := List.mem_map.mp hb
    subst e
    exact List.mem_map.mpr ⟨c, hm c.1 c.2 hc ne, rfl⟩
  refine ⟨fun c => if c = a then noH else L c, fun b O m u hu => ?_, fun c b u hc e => ?_, fun c c' b hc hc' e e' => ?_⟩
  · by_cases z : b = a
    · subst z
      rw [upd_same] at hu
      cases hu
      rw [if_pos rfl]
      exact q0 O m
    · rw [if_neg z]
      rw [upd_ne z] at hu
      exact h.q b O (hm b O m z) u hu
  · by_cases z : c = a
    · rw [if_pos z] at e; cases e
    · rw [if_neg z] at e
      have hc2 := mm c hc z
      obtain ⟨h1, h2, h3⟩ := h.at_ c b u hc2 e
      have ne := nb c b u hc2 e
      exact ⟨by rw [upd_ne ne]; exact h1, h2, fun q => h3 (mm b q ne)⟩
  · by_cases z : c = a
    · rw [if_pos z] at e; exact absurd rfl e
    · by_cases z' : c' = a
      · rw [if_pos z'] at e'; exact absurd rfl e'
      · rw [if_neg z] at e
        rw [if_neg z'] at e'
        exact h.sep c c' b (mm c hc z) (mm c' hc' z') e e'
theorem DeepOk.frzD {D D' : Own} {H H' F : Hp} {L : Addr → Hp} (h : DeepOk D H F L) {p : Addr} {o : HO} (fp : F p = none) (hs : ∀ c ∈ D', c ∈ D) (hr : p ∉ D'.map (·.1)) (hp : H p = none ∨ p ∈ D.map (·.1)) (hH : ∀ b, b ≠ p → H' b = H b) : DeepOk D' H' (upd F p o) L := by
  have s : Same F (upd F p o) := same_new fp
  have m : ∀ a, a ∈ D'.map (·.1) → a ∈ D.map (·.1) := fun a ha => let ⟨c, hc, e⟩ := List.mem_map.mp ha; List.mem_map.mpr ⟨c, hs c hc, e⟩
  refine ⟨fun b O mb u hu => ?_, fun c b u hc e => ?_, fun c c' b hc hc' => h.sep c c' b (m c hc) (m c' hc')⟩
  · have ne : b ≠ p := fun z => hr (z ▸ List.mem_map_of_mem mb)
    rw [hH b ne] at hu
    exact O.qmono s (h.q b O (hs _ mb) u hu)
  · obtain ⟨h1, h2, h3⟩ := h.at_ c b u (m c hc) e
    have ne : b ≠ p := fun z => by
      subst z
      rcases hp with hp | hp
      · rw [hp] at h1; cases h1
      · exact h3 hp
    exact ⟨by rw [hH b ne]; exact h1, by rw [upd_ne ne]; exact h2, fun q => h3 (m b q)⟩
theorem HS.free {D : Own} {H F : Hp} (h : HS D H F) {p : Addr} (e : H p = none) : F p = none := h.sub.free e
theorem HS.notin {D : Own} {H F : Hp} (h : HS D H F) {p : Addr} (e : H p = none) : ∀ O, (p, O) ∉ D := fun O m => by
  obtain ⟨_, o, q, _⟩ := h.own p O m
  rw [e] at q; cases q
theorem HS.new {D : Own} {H F : Hp} (h : HS D H F) {p : Addr} {o : HO} {O : OTy} (e : H p = none) (q : O.p o F) (q0 : O.q o noH F := by trivial) : HS ((p, O) :: D) (upd H p o) F where
  sub := h.sub.trans (same_new e)
  own := fun a O' m => by
    rcases List.mem_cons.mp m with z | z
    · cases z
      exact ⟨h.free e, o, upd_same, q⟩
    · obtain ⟨n, u, hu, hp⟩ := h.own a O' z
      exact ⟨n, u, (same_new e) a u hu, hp⟩
  nd := by
    rw [List.map_cons, List.nodup_cons]
    refine ⟨fun m => ?_, h.nd⟩
    obtain ⟨⟨a, O'⟩, m1, m2⟩ := List.mem_map.mp m
    cases m2
    exact h.notin e O' m1
  deep := by
    obtain ⟨L, hL⟩ := h.deep
    refine hL.updD (fun b O' m ne => ?_) (fun O' m => ?_) (.inl e)
    · rcases List.mem_cons.mp m with z | z
      · cases z; exact absurd rfl ne
      · exact z
    · rcases List.mem_cons.mp m with z | z
      · cases z; exact q0
      · exact absurd z (h.notin e O')
theorem HS.frz {D : Own} {H F : Hp} (h : HS D H F) {p : Addr} {o : HO} (e : H p = none) : HS D (upd H p o) (upd F p o) where
  sub := fun b u q => by
    by_cases z : b = p
    · subst z
      rw [upd_same] at q ⊢
      exact q
    · rw [upd_ne z] at q ⊢
      exact h.sub b u q
  own := fun a O' m => by
    obtain ⟨n, u, hu, hp⟩ := h.own a O' m
    have z : a ≠ p := ne_of_none hu e
    refine ⟨by rw [upd_ne z]; exact n, u, by rw [upd_ne z]; exact hu, O'.mono (same_new (h.free e)) hp⟩
  nd := h.nd
  deep := by
    obtain ⟨L, hL⟩ := h.deep
    exact ⟨L, hL.frzD (h.free e) (fun _ m => m) (fun m => by
      obtain ⟨⟨a, O'⟩, m1, m2⟩ := List.mem_map.mp m
      cases m2
      exact h.notin e O' m1) (.inl e) fun b ne => upd_ne ne⟩
theorem HS.at {D : Own} {H F : Hp} (h : HS D H F) {k : Nat} {a : Addr} {O : OTy} (e : D[k]? = some (a, O)) : ∃ o, H a = some o ∧ O.p o F := (h.own a O (List.mem_of_getElem? e)).2
theorem own_uniq {D : Own} (nd : (D.map (·.1)).Nodup) {k j : Nat} {a : Addr} {O O' : OTy} (e : D[k]? = some (a, O)) (e' : D[j]? = some (a, O')) : k = j :=
  nd_ix nd (x := a) (by rw [List.getElem?_map, e]; rfl) (by rw [List.getElem?_map, e']; rfl)
theorem set_roots {D : Own} {k : Nat} {a : Addr} {O O' : OTy} (e : D[k]? = some (a, O)) : (D.set k (a, O')).map (·.1) = D.map (·.1) := by
  rw [List.map_set]
  refine List.ext_getElem? fun i => ?_
  by_cases z : i = k
  · subst z
    have lt : i < (D.map (·.1)).length := by rw [List.length_map]; exact (List.getElem?_eq_some_iff.mp e).1
    rw [List.getElem?_set_self lt, List.getElem?_map, e]
    rfl
  · rw [List.getElem?_set_ne (Ne.symm z)]
theorem HS.put {D : Own} {H F : Hp} (h : HS D H F) {k : Nat} {a : Addr} {O O' : OTy} {o : HO} (e : D[k]? = some (a, O)) (q : O'.p o F) (q0 : O'.q o noH F := by trivial) : HS (D.set k (a, O')) (upd H a o) F where
  sub := fun b u z => by
    have n := (h.own a O (List.mem_of_getElem? e)).1
    have z2 : b ≠ a := ne_of_none z n
    rw [upd_ne z2]
    exact h.sub b u z
  own := fun b O2 m => by
    obtain ⟨j, hj⟩ := List.getElem?_of_mem m
    by_cases z : j = k
    · subst z
      have lt : j < D.length := (List.getElem?_eq_some_iff.mp e).1
      rw [List.getElem?_set_self lt] at hj
      cases hj
      exact ⟨(h.own _ O (List.mem_of_getElem? e)).1, o, upd_same, q⟩
    · rw [List.getElem?_set_ne (Ne.symm z)] at hj
      obtain ⟨n, u, hu, hp⟩ := h.own b O2 (List.mem_of_getElem? hj)
      have nz : b ≠ a := fun q => by
        subst q
        exact z (own_uniq h.nd hj e)
      exact ⟨n, u, by rw [upd_ne nz]; exact hu, hp⟩
  nd := by
    rw [set_roots e]
    exact h.nd
  deep := by
    obtain ⟨L, hL⟩ := h.deep
    have ne : ∀ b O2, (b, O2) ∈ D.set k (a, O') → ((b, O2) ∈ D ∧ b ≠ a) ∨ (b = a ∧ O2 = O') := fun b O2 m => by
      obtain ⟨j, hj⟩ := List.getElem?_of_mem m
      by_cases z : j = k
      · subst z
        rw [List.getElem?_set_self (List.getElem?_eq_some_iff.mp e).1] at hj
        cases hj
        exact .inr ⟨rfl, rfl⟩
      · rw [List.getElem?_set_ne (Ne.symm z)] at hj
        exact .inl ⟨List.mem_of_getElem? hj, fun q => by
          subst q
          exact z (own_uniq h.nd hj e)⟩
    refine hL.updD (fun b O2 m nb => ?_) (fun O2 m => ?_) (.inr (List.mem_map_of_mem (f := (·.1)) (List.mem_of_getElem? e)))
    · rcases ne b O2 m with z | z
      · exact z.1
      · exact absurd z.1 nb
    · rcases ne a O2 m with z | z
      · exact absurd rfl z.2
      · rw [z.2]; exact q0
theorem HS.drop {D D' : Own} {H F : Hp} (h : HS D H F) (s : D'.Sublist D) : HS D' H F where
  sub := h.sub
  own := fun a O m => h.own a O (s.subset m)
  nd := (s.map _).nodup h.nd
  deep := let ⟨L, hL⟩ := h.deep; ⟨L, hL.drop fun c m => s.subset m⟩
theorem HS.perm {D D' : Own} {H F : Hp} (h : HS D H F) (s : D.Perm D') : HS D' H F where
  sub := h.sub
  own := fun a O m => h.own a O (s.mem_iff.mpr m)
  nd := (s.map _).nodup_iff.mp h.nd
  deep := let ⟨L, hL⟩ := h.deep; ⟨L, hL.drop fun c m => s.mem_iff.mpr m⟩
theorem HS.mark {D : Own} {H F : Hp} (h : HS D H F) {p : Addr} {o : HO} (e : H p = none) : HS D (upd H p o) F where
  sub := h.sub.trans (same_new e)
  own := fun a O' m => by
    obtain ⟨n, u, hu, hp⟩ := h.own a O' m
    exact ⟨n, u, (same_new e) a u hu, hp⟩
  nd := h.nd
  deep := by
    obtain ⟨L, hL⟩ := h.deep
    refine hL.updD (fun b O' m ne => m) (fun O' m => absurd m (h.notin e O')) (.inl e)
theorem HS.freeze {D : Own} {H F : Hp} (h : HS D H F) {k : Nat} {a : Addr} {O : OTy} (e : D[k]? = some (a, O)) : ∃ o, O.p o F ∧ HS (D.eraseIdx k) H (upd F a o) ∧ Same F (upd F a o) := by
  obtain ⟨n, o, ho, hp⟩ := h.own a O (List.mem_of_getElem? e)
  refine ⟨o, hp, ?_, same_new n⟩
  have sl : (D.eraseIdx k).Sublist D := List.eraseIdx_sublist _ _
  have nr : ∀ b O2, (b, O2) ∈ D.eraseIdx k → b ≠ a := fun b O2 m q => by
    subst q
    obtain ⟨j, hj⟩ := List.getElem?_of_mem m
    rw [List.getElem?_eraseIdx] at hj
    split at hj
    · rename_i lt
      have := own_uniq h.nd hj e
      omega
    · rename_i lt
      have := own_uniq h.nd hj e
      omega
  refine ⟨fun b u q => ?_, fun b O2 m => ?_, (sl.map _).nodup h.nd, ?_⟩
  · by_cases z : b = a
    · subst z
      rw [upd_same] at q
      rw [← q]; exact ho
    · rw [upd_ne z] at q
      exact h.sub b u q
  · obtain ⟨n2, u, hu, hp2⟩ := h.own b O2 (sl.subset m)
    exact ⟨by rw [upd_ne (nr b O2 m)]; exact n2, u, hu, O2.mono (same_new n) hp2⟩
  · obtain ⟨L, hL⟩ := h.deep
    exact ⟨L, hL.frzD n (fun c m => sl.subset m) (fun m => by
      obtain ⟨c, hc, ec⟩ := List.mem_map.mp m
      exact nr c.1 c.2 hc ec) (.inr (List.mem_map_of_mem (f := (·.1)) (List.mem_of_getElem? e))) fun b _ => rfl⟩
inductive SS (F : Hp) : Sto → St → Prop
  | nil : SS F [] []
  | non {G : Sto} {σ : St} {x : Option V} : SS F G σ → SS F (none :: G) (x :: σ)
  | som {G : Sto} {σ : St} {R : Ty} {v : V} : R.p v F → SS F G σ → SS F (some R :: G) (some v :: σ)
theorem SS.mono {F F' : Hp} {G : Sto} {σ : St} (h : SS F G σ) (s : Same F F') : SS F' G σ := by
  induction h with
  | nil => exact .nil
  | non _ ih => exact .non ih
  | som r _ ih => exact .som (Ty.mono _ s r) ih
theorem SS.get {F : Hp} {G : Sto} {σ : St} (h : SS F G σ) : ∀ {i : Nat} {R : Ty}, G[i]? = some (some R) → ∃ v, σ[i]? = some (some v) ∧ R.p v F := by
  induction h with
  | nil => intro i R e; simp at e
  | non _ ih =>
    intro i R e
    cases i with
    | zero => simp at e
    | succ i => simpa using ih (by simpa using e)
  | som r _ ih =>
    intro i R e
    cases i with
    | zero =>
      simp at e
      subst e
      exact ⟨_, by simp, r⟩
    | succ i => simpa using ih (by simpa using e)
theorem SS.set {F : Hp} {G : Sto} {σ : St} {R : Ty} {v : V} (h : SS F G σ) (r : R.p v F) : ∀ (i : Nat), SS F (G.set i (some R)) (σ.set i (some v)) := by
  induction h with
  | nil => intro i; exact .nil
  | non h ih =>
    intro i
    cases i with
    | zero => exact .som r h
    | succ i => exact .non (ih i)
  | som q h ih =>
    intro i
    cases i with
    | zero => exact .som r h
    | succ i => exact .som q (ih i)
theorem SS.unset {F : Hp} {G : Sto} {σ : St} {x : Option V} (h : SS F G σ) : ∀ (i : Nat), SS F (G.set i none) (σ.set i x) := by
  induction h with
  | nil => intro i; exact .nil
  | non h ih =>
    intro i
    cases i with
    | zero => exact .non h
    | succ i => exact .non (ih i)
  | som q h ih =>
    intro i
    cases i with
    | zero => exact .non h
    | succ i => exact .som q (ih i)
inductive SLe : Sto → Sto → Prop
  | nil : SLe [] []
  | drop {G G' : Sto} {x : Option Ty} : SLe G G' → SLe (x :: G) (none :: G')
  | imp {G G' : Sto} {R R' : Ty} : (∀ v F, R.p v F → R'.p v F) → SLe G G' → SLe (some R :: G) (some R' :: G')
theorem SLe.refl : ∀ (G : Sto), SLe G G
  | [] => .nil
  | none :: G => .drop (SLe.refl G)
  | some R :: G => .imp (fun _ _ h => h) (SLe.refl G)
theorem SS.weak {F : Hp} {G G' : Sto} (l : SLe G G') : ∀ {σ : St}, SS F G σ → SS F G' σ := by
  induction l with
  | nil => intro σ h; exact h
  | drop _ ih =>
    intro σ h
    cases h with
    | non h => exact .non (ih h)
    | som r h => exact .non (ih h)
  | imp f _ ih =>
    intro σ h
    cases h with
    | som r h => exact .som (f _ _ r) (ih h)
theorem SS.len {F : Hp} {G : Sto} {σ : St} (h : SS F G σ) : σ.length = G.length := by
  induction h with
  | nil => rfl
  | non _ ih => simp [ih]
  | som _ _ ih => simp [ih]
inductive AllP (F : Hp) : List Ty → List V → Prop
  | nil : AllP F [] []
  | cons {R : Ty} {Rs : List Ty} {v : V} {vs : List V} : R.p v F → AllP F Rs vs → AllP F (R :: Rs) (v :: vs)
theorem AllP.mono {F F' : Hp} {Rs : List Ty} {vs : List V} (h : AllP F Rs vs) (s : Same F F') : AllP F' Rs vs := by
  induction h with
  | nil => exact .nil
  | cons r _ ih => exact .cons (Ty.mono _ s r) ih
theorem AllP.len {F : Hp} {Rs : List Ty} {vs : List V} (h : AllP F Rs vs) : vs.length = Rs.length := by
  induction h with
  | nil => rfl
  | cons _ _ ih => simp [ih]
theorem AllP.get {F : Hp} {Rs : List Ty} {vs : List V} (h : AllP F Rs vs) : ∀ {i : Nat} {R : Ty}, Rs[i]? = some R → ∃ v, vs[i]? = some v ∧ R.p v F := by
  induction h with
  | nil => intro i R e; simp at e
  | cons r _ ih =>
    intro i R e
    cases i with
    | zero => simp at e; subst e; exact ⟨_, by simp, r⟩
    | succ i => simpa using ih (by simpa using e)
theorem AllP.append {F : Hp} {Rs Rs' : List Ty} {vs vs' : List V} (h : AllP F Rs vs) (h' : AllP F Rs' vs') : AllP F (Rs ++ Rs') (vs ++ vs') := by
  induction h with
  | nil => exact h'
  | cons r _ ih => exact .cons r ih
theorem SS.start {F : Hp} {Rs : List Ty} {vs : List V} {N : List Str} (h : AllP F Rs vs) : SS F (Rs.map some ++ List.replicate (N.length - vs.length) none) (L2.start N vs) := by
  unfold L2.start
  generalize N.length - vs.length = m
  induction h with
  | nil =>
    induction m with
    | zero => exact .nil
    | succ m ih => exact .non ih
  | cons r _ ih => exact .som r ih
def Ev (te : TE) (G : Sto) (D : Own) (R : Ty) (D' : Own) : Prop :=
  ∀ (σ : St) (H F : Hp), HS D H F → SS F G σ → ∀ Q : VK, (∀ v H' F', Same F F' → HS D' H' F' → R.p v F' → Q v H') → te σ H Q
def EvT (tt : TT) (G : Sto) (D : Own) (b : Bool) (D' : Own) : Prop :=
  ∀ (σ : St) (H F : Hp), HS D H F → SS F G σ → ∀ Q : Bool → Hp → Prop, (∀ H' F', Same F F' → HS D' H' F' → Q b H') → tt σ H Q
def StP (F0 : Hp) (G : Sto) (D : Own) : St → Hp → Prop := fun σ H => ∃ F, Same F0 F ∧ HS D H F ∧ SS F G σ
def Go (P : St → Hp → Prop) (F0 : Hp) (G : Sto) (D : Own) : Prop := ∀ σ H F, Same F0 F → HS D H F → SS F G σ → P σ H
def GoV (P : VK) (F0 : Hp) (R : Ty) (D : Own) : Prop := ∀ v H F, Same F0 F → HS D H F → R.p v F → P v H
def GoX (P : XK) (F0 : Hp) (c : Value) (D : Own) : Prop := ∀ H F, Same F0 F → HS D H F → P c none H
theorem Go.weak {P : St → Hp → Prop} {F0 : Hp} {G G' : Sto} {D D' : Own} (h : Go P F0 G' D') (l : SLe G G') (d : D'.Sublist D) : Go P F0 G D :=
  fun σ H F s hs ss => h σ H F s (hs.drop d) (ss.weak l)
theorem Go.mono {P P' : St → Hp → Prop} {F0 : Hp} {G : Sto} {D : Own} (h : Go P F0 G D) (f : ∀ σ H, P σ H → P' σ H) : Go P' F0 G D := fun σ H F s hs ss => f _ _ (h σ H F s hs ss)
mutual
theorem dp_mono {K : PySem.W.Frag} {F F' : Hp} (s : Same F F') : ∀ (d : PyData) (v : V), Dp K F v d → Dp K F' v d
  | .none, _, h => by cases h; exact .non
  | .bool b, _, h => by cases h; exact .bl b
  | .int i, _, h => by cases h; exact .int i
  | .str x, _, h => by cases h; exact .str x
  | .list ds, _, h => by
    cases h with
    | lst h1 h2 => exact .lst (s.seq h1) (dpAll_mono s ds _ h2)
  | .tuple ds, _, h => by
    cases h with
    | tup h1 h2 =>
      refine .tup ?_ (dpAll_mono s ds _ h2)
      rcases h1 with (h1 | ⟨o, h1⟩) | h1
      · exact .inl (.inl (s _ _ h1))
      · exact .inl (.inr ⟨o, s _ _ h1⟩)
      · exact .inr h1
  | .dict _, _, h => by cases h
theorem dpAll_mono {K : PySem.W.Frag} {F F' : Hp} (s : Same F F') : ∀ (ds : List PyData) (vs : List V), DpAll K F vs ds → DpAll K F' vs ds
  | [], _, h => by cases h; exact .nil
  | d :: ds, _, h => by
    cases h with
    | cons h1 h2 => exact .cons (dp_mono s d _ h1) (dpAll_mono s ds _ h2)
end
def D (K : PySem.W.Frag) (d : PyData) : Ty := ⟨fun v F => Dp K F v d, fun s h => dp_mono s d _ h⟩
abbrev DI (K : PySem.W.Frag) (i : Int) : Ty := D K (.int i)
abbrev DB (K : PySem.W.Frag) (b : Bool) : Ty := D K (.bool b)
abbrev DS (K : PySem.W.Frag) (x : Str) : Ty := D K (.str x)
abbrev DN (K : PySem.W.Frag) : Ty := D K .none
def Is (v : V) : Ty := ⟨fun w _ => w = v, fun _ h => h⟩
section
variable {K : PySem.W.Frag} {F : Hp} {v : V}
theorem dp_int {i : Int} (h : (DI K i).p v F) : v = .int i := by cases h; rfl
theorem dp_bl {b : Bool} (h : (DB K b).p v F) : v = .bl b := by cases h; rfl
theorem dp_str {x : Str} (h : (DS K x).p v F) : v = .str x := by cases h; rfl
theorem dp_non (h : (DN K).p v F) : v = .non := by cases h; rfl
theorem dp_tup {ds : List PyData} (h : (D K (.tuple ds)).p v F) : ∃ a xs, v = .ref a ∧ SqT K F a xs ∧ DpAll K F xs ds := by
  cases h with
  | tup h1 h2 => exact ⟨_, _, rfl, h1, h2⟩
theorem dp_lst {ds : List PyData} (h : (D K (.list ds)).p v F) : ∃ a xs, v = .ref a ∧ SqL K F a xs ∧ DpAll K F xs ds := by
  cases h with
  | lst h1 h2 => exact ⟨_, _, rfl, h1, h2⟩
theorem same_sqT {F F' : Hp} {a : Addr} {xs : List V} (s : Same F F') (h : SqT K F a xs) : SqT K F' a xs := by
  rcases h with (h1 | ⟨o, h1⟩) | h1
  · exact .inl (.inl (s _ _ h1))
  · exact .inl (.inr ⟨o, s _ _ h1⟩)
  · exact .inr h1
theorem dpAll_get : ∀ {ds : List PyData} {vs : List V}, DpAll K F vs ds → ∀ {i : Nat} {d : PyData}, ds[i]? = some d → ∃ v, vs[i]? = some v ∧ Dp K F v d
  | [], _, h, i, d, e => by simp at e
  | a :: ds, _, h, i, d, e => by
    cases h with
    | cons h1 h2 =>
      cases i with
      | zero => simp at e; subst e; exact ⟨_, by simp, h1⟩
      | succ i =>
        obtain ⟨v, h3, h4⟩ := dpAll_get h2 (i := i) (d := d) (by simpa using e)
        exact ⟨v, by simpa using h3, h4⟩
theorem dpAll_len : ∀ {ds : List PyData} {vs : List V}, DpAll K F vs ds → vs.length = ds.length
  | [], _, h => by cases h; rfl
  | a :: ds, _, h => by
    cases h with
    | cons h1 h2 => simp [dpAll_len h2]
theorem allP_dp : ∀ {ds : List PyData} {vs : List V}, AllP F (ds.map (D K)) vs → DpAll K F vs ds
  | [], _, h => by cases h; exact .nil
  | a :: ds, _, h => by
    cases h with
    | cons h1 h2 => exact .cons h1 (allP_dp h2)
end
end TL
set_option Elab.async false
set_option linter.all false
set_option maxRecDepth 100000
set_option maxHeartbeats 1000000
namespace TL
open PySem PySem.Spec L2
section
variable {K : PySem.W.Frag} {G : Sto} {D0 D1 D2 D3 : Own} {te ta tb tc : TE} {tt tu : TT} {R Ra Rb : Ty}
theorem ev_var {i : Nat} (h : G[i]? = some (some R)) : Ev (tVar i) G D0 R D0 := fun σ H F hs ss Q q => by
  obtain ⟨v, e, r⟩ := ss.get h
  exact ⟨v, e, q v H F (Same.refl _) hs r⟩
theorem ev_c {v : V} (h : ∀ F, R.p v F) : Ev (tC v) G D0 R D0 := fun σ H F hs ss Q q => q v H F (Same.refl _) hs (h F)
theorem ev_int {i : Int} : Ev (tC (.int i)) G D0 (DI K i) D0 := ev_c fun _ => .int i
theorem ev_bl {b : Bool} : Ev (tC (.bl b)) G D0 (DB K b) D0 := ev_c fun _ => .bl b
theorem ev_str {x : Str} : Ev (tC (.str x)) G D0 (DS K x) D0 := ev_c fun _ => .str x
theorem ev_non : Ev (tC .non) G D0 (DN K) D0 := ev_c fun _ => .non
theorem ev2 {r : R2} (ha : Ev ta G D0 Ra D1) (hb : Ev tb G D1 Rb D2) (hr : ∀ x y H F, HS D2 H F → Ra.p x F → Rb.p y F → ∀ Q : VK, (∀ v H' F', Same F F' → HS D3 H' F' → R.p v F' → Q v H') → r x y H Q) : Ev (tOp r ta tb) G D0 R D3 := fun σ H F hs ss Q q =>
  ha σ H F hs ss _ fun x H1 F1 s1 hs1 r1 => hb σ H1 F1 hs1 (ss.mono s1) _ fun y H2 F2 s2 hs2 r2 =>
    hr x y H2 F2 hs2 (Ra.mono s2 r1) r2 Q fun v H3 F3 s3 => q v H3 F3 ((s1.trans s2).trans s3)
theorem ev_opI {C : Int → Int → Prop} {g : Int → Int → Int} {i j : Int} (ha : Ev ta G D0 (DI K i) D1) (hb : Ev tb G D1 (DI K j) D2) (c : C i j) : Ev (tOp (rI C fun i j => .int (g i j)) ta tb) G D0 (DI K (g i j)) D2 :=
  ev2 ha hb fun x y H F hs rx ry Q q => by
    rw [dp_int rx, dp_int ry]
    exact ⟨i, j, rfl, rfl, c, q _ H F (Same.refl _) hs (.int _)⟩
theorem dp_up {H F : Hp} {D : Own} (hs : HS D H F) {d : PyData} {v : V} (h : Dp K F v d) : Dp K H v d := dp_mono hs.sub d v h
theorem sizeLine_big : 100000 ≤ sizeLine := by decide
theorem sqT_up {H F : Hp} {D : Own} (hs : HS D H F) {a : Addr} {xs : List V} (h : SqT K F a xs) : SqT K H a xs := same_sqT hs.sub h
theorem sqL_up {H F : Hp} {D : Own} (hs : HS D H F) {a : Addr} {xs : List V} (h : SqL K F a xs) : SqL K H a xs := hs.sub.seq h
theorem atI_map {ds : List PyData} {vs : List V} {F : Hp} (h : DpAll K F vs ds) {i : Int} {d : PyData} (e : atI ds i = some d) : ∃ v, atI vs i = some v ∧ Dp K F v d := by
  unfold atI at e ⊢
  rw [dpAll_len h]
  cases q : ixN ds.length i with
  | none => rw [q] at e; cases e
  | some j =>
    rw [q] at e
    exact dpAll_get h e
theorem allP1 {F : Hp} {vs : List V} (h : AllP F [R] vs) : ∃ v, vs = [v] ∧ R.p v F := by
  cases h with
  | cons h1 h2 => cases h2; exact ⟨_, rfl, h1⟩
theorem allP2 {F : Hp} {vs : List V} (h : AllP F [Ra, Rb] vs) : ∃ v w, vs = [v, w] ∧ Ra.p v F ∧ Rb.p w F := by
  cases h with
  | cons h1 h2 =>
    obtain ⟨w, rfl, h3⟩ := allP1 h2
    exact ⟨_, _, rfl, h1, h3⟩
abbrev cAbs : List V → Hp → VK → Prop := fun xs H Q => ∃ i, xs = [.int i] ∧ Q (.int (if i < 0 then -i else i)) H
abbrev cMax2 : List V → Hp → VK → Prop := fun xs H Q => ∃ i j, xs = [.int i, .int j] ∧ Q (.int (if j > i then j else i)) H
abbrev cMin2 : List V → Hp → VK → Prop := fun xs H Q => ∃ i j, xs = [.int i, .int j] ∧ Q (.int (if j < i then j else i)) H
abbrev cInt1 : List V → Hp → VK → Prop := fun xs H Q => (∃ i, xs = [.int i] ∧ Q (.int i) H) ∨ ∃ k, xs = [.bl k] ∧ Q (.int (if k then 1 else 0)) H
abbrev cLen (K : PySem.W.Frag) : List V → Hp → VK → Prop := fun xs H Q => ∃ x n, xs = [x] ∧ LenV K x H n ∧ Q (.int n) H
end
end TL
set_option Elab.async false
set_option linter.all false
set_option maxRecDepth 100000
set_option maxHeartbeats 1000000
namespace TL
open PySem PySem.Spec L2
section
variable {K : PySem.W.Frag} {G G1 G2 : Sto} {D0 D1 D2 D3 : Own} {te ta tb tc : TE} {tt tu : TT} {R Ra Rb : Ty} {E En : Ends} {F0 F1 : Hp} {t u : TS}
theorem Go.up {P : St → Hp → Prop} (h : Go P F0 G D0) (s : Same F0 F1) : Go P F1 G D0 := fun σ H F s1 => h σ H F (s.trans s1)
theorem GoV.up {P : VK} (h : GoV P F0 R D0) (s : Same F0 F1) : GoV P F1 R D0 := fun v H F s1 => h v H F (s.trans s1)
theorem GoX.up {P : XK} {c : Value} (h : GoX P F0 c D0) (s : Same F0 F1) : GoX P F1 c D0 := fun H F s1 => h H F (s.trans s1)
theorem GoV.imp {P : VK} (h : GoV P F0 R D0) (f : ∀ v F, Ra.p v F → R.p v F) : GoV P F0 Ra D0 := fun v H F s hs r => h v H F s hs (f v F r)
theorem GoV.drop {P : VK} (h : GoV P F0 R D1) (s : D1.Sublist D0) : GoV P F0 R D0 := fun v H F s1 hs r => h v H F s1 (hs.drop s) r
theorem Ev.drop (h : Ev te G D0 R D1) (s : D2.Sublist D1) : Ev te G D0 R D2 := fun σ H F hs ss Q q => h σ H F hs ss Q fun v H' F' s1 hs' r => q v H' F' s1 (hs'.drop s) r
theorem go_seq (h : Go (t { E with nx := u E }) F0 G D0) : Go (tSeq t u E) F0 G D0 := h
theorem go_next (h : Go E.nx F0 G D0) : Go (tNext E) F0 G D0 := h
def EvG (g : TG) (G : Sto) (R : Ty) (G1 : Sto) : Prop := ∀ (v : V) (σ : St) (H F : Hp) (D : Own), HS D H F → SS F G σ → R.p v F → ∀ Q : St → Hp → Prop, (∀ σ', SS F G1 σ' → Q σ' H) → g v σ H Q
theorem evG_name {i : Nat} : EvG (gName i) G R (G.set i (some R)) := fun v σ H F D hs ss r Q q => q _ (ss.set r i)
def ItOk (K : PySem.W.Frag) (J : It) (ds : List PyData) (F0 : Hp) : Prop := ∀ (D : Own) (H F : Hp), Same F0 F → HS D H F → ∀ i : Nat,
  (∀ d, ds[i]? = some d → J.go i H ∧ ∀ x H', J.yld i H x H' → ∃ F2, Same F F2 ∧ HS D H' F2 ∧ Dp K F2 x d) ∧ (ds.length ≤ i → J.stop i H)
def rangeD (lo : Int) (n : Nat) : List PyData := (List.range n).map fun i : Nat => PyData.int (lo + (i : Int))
theorem rangeD_len {lo : Int} {n : Nat} : (rangeD lo n).length = n := by simp [rangeD]
theorem rangeD_get {lo : Int} {n i : Nat} {d : PyData} (h : (rangeD lo n)[i]? = some d) : i < n ∧ d = .int (lo + (i : Int)) := by
  unfold rangeD at h
  rw [List.getElem?_map] at h
  by_cases hi : i < n
  · rw [List.getElem?_range hi] at h
    cases h
    exact ⟨hi, rfl⟩
  · rw [List.getElem?_eq_none (by simpa using hi)] at h
    cases h
theorem itr_ok {lo : Int} {n : Nat} {F : Hp} : ItOk K (Itr lo n) (rangeD lo n) F := fun D H2 F2 s2 hs2 i => ⟨fun d hd => by
    obtain ⟨h1, rfl⟩ := rangeD_get hd
    refine ⟨h1, fun x H' hy => ?_⟩
    obtain ⟨e1, e2⟩ := hy
    subst e1 e2
    exact ⟨F2, Same.refl _, hs2, .int _⟩, fun hl => by rw [rangeD_len] at hl; exact hl⟩
inductive Out where
  | ok (R : Ty)
  | err (c : Value)
  | new (O : OTy)
def GoN (P : VK) (F0 : Hp) (O : OTy) (D : Own) : Prop := ∀ p H F, Same F0 F → HS ((p, O) :: D) H F → P (.ref p) H
def Post (o : Out) (rt : VK) (X : XK) (F : Hp) (D : Own) : Prop := match o with
  | .ok R => GoV rt F R D
  | .err c => GoX X F c D
  | .new O => GoN rt F O D
theorem GoN.up {P : VK} {O : OTy} (h : GoN P F0 O D0) (s : Same F0 F1) : GoN P F1 O D0 := fun p H F s1 => h p H F (s.trans s1)
theorem Post.up {o : Out} {rt : VK} {X : XK} (h : Post o rt X F0 D0) (s : Same F0 F1) : Post o rt X F1 D0 := by
  cases o with
  | ok R => exact GoV.up h s
  | err c => exact GoX.up h s
  | new O => exact GoN.up h s
theorem Post.new {rt : VK} {X : XK} {o : Out} {O : OTy} (h : Post o rt X F0 D0) (e : o = .new O) : GoN rt F0 O D0 := by subst e; exact h
theorem Post.ok {rt : VK} {X : XK} {o : Out} (h : Post o rt X F0 D0) (e : o = .ok R) : GoV rt F0 R D0 := by subst e; exact h
theorem Post.err {rt : VK} {X : XK} {o : Out} {c : Value} (h : Post o rt X F0 D0) (e : o = .err c) : GoX X F0 c D0 := by subst e; exact h
def fsp {T : Type} (args : T → List Ty) (pre : T → Prop) (out : T → Out) : Sp := fun vs H Q X => ∃ (x : T) (F : Hp) (D : Own), HS D H F ∧ AllP F (args x) vs ∧ pre x ∧ Post (out x) Q X F D
end
end TL
set_option Elab.async false
set_option linter.all false
set_option maxRecDepth 100000
set_option maxHeartbeats 1000000
namespace TL
open PySem PySem.Spec L2
open PyProof.Rows (AllBare)
def ExT (cls : Value) (a : Addr) : HO := .ext fun h => ∃ (oe : Obj) (vs : Array Value), h.get? a = some oe ∧ Zc cls none oe ∧ oe.data = .fields vs
section
variable {X : Cx} {x n : Str} {c : Value} {i : Nat} {body suite : List Stmt} {b0 : Stmt} {np pos pos' : Pos} {tb : WX → TS} {ts : TS} {Wout : WX}
end
theorem exT_inst {X : Cx} {pins : List (Addr × Obj)} {σ : St} {H : Hp} {s : Shared} {a C : Addr} (I : Inv X pins σ H s) (h : H a = some (ExT (.ref C) a)) : ∃ oe, PySem.W.InstAt s.heap a oe C none := by
  obtain ⟨⟨oe, vs, hget, hz, hv⟩, _, _⟩ := I.hok a _ h
  obtain ⟨oc, od, oda, osl⟩ := oe
  obtain ⟨h1, h2⟩ := hz
  dsimp only at h1 h2 hv
  subst h1 h2 hv
  exact ⟨_, hget, rfl, rfl, trivial⟩
def rIsX (K : PySem.W.Frag) : List V → Hp → VK → Prop := fun xs H Q => ∃ (a C : Addr) (c : V) (u : Value) (b : Bool), xs = [.ref a, c] ∧ H a = some (ExT (.ref C) a) ∧ ExcC K C ∧ ClsV c u ∧ PySem.W.kitOne K (.ref C) u = some b ∧ Q (.bl b) H
section
variable {X : Cx}
theorem call_isX : CallR X (.builtin "isinstance") (rIsX X.K) := by
  intro pins s σ H xs us Q I r h
  obtain ⟨a, C, c, u, b, rfl, ha, hC, k, e, q⟩ := h
  obtain ⟨u1, u2, rfl, r1, r2⟩ := vals2 r
  have e2 := k.eq r2
  subst e2
  cases (show u1 = Value.ref a from r1)
  obtain ⟨oe, J⟩ := exT_inst I ha
  exact PySem.W.kia_one (PySem.W.handS_kitx_exc hC.hg hC.hk hC.hs hC.hd hC.ha hC.hn hC.ht hC.hm) I.kIn J e (fun z => nomatch z) fun tk => ⟨.bl b, H, I.tok tk, rfl, q⟩
theorem CallR.or {f : Value} {r r' : List V → Hp → VK → Prop} (h : CallR X f r) (h' : CallR X f r') : CallR X f (fun xs H Q => r xs H Q ∨ r' xs H Q) := fun pins s σ H xs us Q I rr z => by
  rcases z with z | z
  · exact h pins s σ H xs us Q I rr z
  · exact h' pins s σ H xs us Q I rr z
def cIsi (K : PySem.W.Frag) : List V → Hp → VK → Prop := fun xs H Q => rIsi K xs H Q ∨ rIsX K xs H Q
theorem call_isiA : CallR X (.builtin "isinstance") (cIsi X.K) := CallR.or call_isi call_isX
end
def tyN : PyData → String
  | .none => "NoneType" | .bool _ => "bool" | .int _ => "int" | .str _ => "str" | .list _ => "list" | .tuple _ => "tuple" | .dict _ => "dict"
theorem tyX_of {K : PySem.W.Frag} {H : Hp} {v : V} {d : PyData} (h : Dp K H v d) : TyX K H v (.type (tyN d)) := by
  cases h with
  | non => exact .base .non
  | bl b => exact .base (.bl b)
  | int i => exact .base (.int i)
  | str x => exact .base (.str x)
  | lst h1 h2 =>
    rcases h1 with (h1 | ⟨o, h1⟩) | ⟨_, _, _, h1, h2, _⟩
    · exact .base (.lst h1)
    · exact .base (.frz h1)
    · exact .kList h1 h2
  | tup h1 h2 =>
    rcases h1 with (h1 | ⟨o, h1⟩) | ⟨_, _, _, h1, h2, _⟩
    · exact .base (.tup h1)
    · exact .fTuple h1
    · exact .kTuple h1 h2
section
variable {K : PySem.W.Frag} {G G1 G2 : Sto} {D0 D1 D2 D3 : Own} {te ta tb tc : TE} {tt tu : TT} {R Ra Rb : Ty} {E En : Ends} {F0 F1 : Hp} {t u : TS}
def tRaiseX (C : Addr) (X : XK) : TS := fun _ _ H => X (.ref C) none H
end
end TL
set_option Elab.async false
set_option linter.all false
set_option maxRecDepth 100000
set_option maxHeartbeats 1000000
namespace TL
open PySem PySem.Spec L2
def CDivA (_ j : Int) : Prop := j ≠ 0 ∧ j.natAbs.log2 < 9000
abbrev rAddS : R2 := fun x y H Q => ∃ i j, x = .str i ∧ y = .str j ∧ i.length + j.length ≤ sizeLine ∧ Q (.str (i ++ j)) H
abbrev rAddI : R2 := rI0 fun i j => .int (i + j)
abbrev rSubI : R2 := rI0 fun i j => .int (i - j)
abbrev rMulI : R2 := rI CMulW fun i j => .int (i * j)
abbrev rDivI : R2 := rI CDivA fun i j => .int (i.fdiv j)
abbrev rModI : R2 := rI (fun _ j => j ≠ 0) fun i j => .int (i.fmod j)
abbrev rPowI : R2 := rI CPow fun i j => .int (i ^ j.toNat)
abbrev rLtI : R2 := rI0 fun i j => .bl (decide (i < j))
abbrev rLeI : R2 := rI0 fun i j => .bl (decide (i ≤ j))
abbrev rGtI : R2 := rI0 fun i j => .bl (decide (j < i))
abbrev rGeI : R2 := rI0 fun i j => .bl (decide (j ≤ i))
def rCatN (K : PySem.W.Frag) : R2 := fun x y H Q => ∃ a b ys, x = .ref a ∧ y = .ref b ∧ SqT K H a [] ∧ SqT K H b ys ∧ Q (.ref b) H
def qAdd (K : PySem.W.Frag) : R2 := fun x y H Q => rAddI x y H Q ∨ rAddS x y H Q ∨ rCat x y H Q ∨ rCatT K x y H Q ∨ rCatN K x y H Q
def qMul (K : PySem.W.Frag) : R2 := fun x y H Q => rMulI x y H Q ∨ rRep x y H Q
def qEq (K : PySem.W.Frag) : R2 := fun x y H Q => rEq x y H Q ∨ rEqD K x y H Q
def qNe (K : PySem.W.Frag) : R2 := fun x y H Q => rNe x y H Q ∨ rNeD K x y H Q
def qNegI : V → Hp → VK → Prop := rU fun i => .int (-i)
section
variable {X : Cx}
theorem op_div : OpR X (binaryOp .FloorDiv) rDivI := opI fun i j _ _ _ _ _ hc q => PyProof.Rows.floordiv_int hc.1 q (.inl (PyProof.noPylong_of_log2 hc.2))
theorem op_catN : OpR X (binaryOp .Add) (rCatN X.K) := by
  intro pins s σ H x y v u Q I rx ry h
  obtain ⟨a, b, ys, rfl, rfl, ha, hb, q⟩ := h
  cases rx
  cases ry
  obtain ⟨its, r1, p1, _⟩ := I.tuple ha
  obtain ⟨its2, r2, p2, _⟩ := I.tuple hb
  have none : its = [] := r1.nil_iff.mpr rfl
  obtain ⟨⟨c1, d1, t1, l1⟩, g1, k1, n1, m1⟩ := id p1
  obtain ⟨⟨c2, d2, t2, l2⟩, g2, k2, n2, m2⟩ := id p2
  simp only at k1 m1 k2 m2
  subst k1 m1 k2 m2
  exact concat_meets ⟨_, g1, rfl⟩ ⟨_, g2, rfl⟩ PySem.noFill_tuple_add PySem.seq_tuple_add PySem.F.slot_tuple_add PySem.F.entry_tuple_add (PySem.F.args_tuple_add_2 _ _)
    (PyProof.Rows.tuple_addW0 a b its.toArray its2.toArray n1 n2 d1 d2 l1 l2 (by simp [none])) ⟨g1, g2, ⟨.ref b, H, I, rfl, q⟩⟩
theorem op_addU : OpR X (binaryOp .Add) (qAdd X.K) := op_add.or (op_add_str.or (op_cat.or (op_catT.or op_catN)))
theorem op_mulU : OpR X (binaryOp .Mult) (qMul X.K) := op_mulW.or op_rep
theorem op_eqU (hu : X.A.units + 64 < cLine) : OpR X (compareOp .Eq) (qEq X.K) := op_eq.or (op_eqD hu)
theorem op_neU (hu : X.A.units + 64 < cLine) : OpR X (compareOp .NotEq) (qNe X.K) := op_ne.or (op_neD hu)
theorem un_negU : UnR X (unaryOp .USub) qNegI := un_neg
end
section
variable {K : PySem.W.Frag} {G G1 G2 : Sto} {D0 D1 D2 D3 : Own} {te ta tb tc : TE} {tt tu : TT} {R Ra Rb : Ty}
theorem ev_pow {i j : Int} (ha : Ev ta G D0 (DI K i) D1) (hb : Ev tb G D1 (DI K j) D2) (c : CPow i j) : Ev (tOp rPowI ta tb) G D0 (DI K (i ^ j.toNat)) D2 := ev_opI ha hb c
end
structure Fo (P : Program) (w : World) (K : PySem.W.Frag) (mg : Str → Option Value) (base : Heap) (x : Str) (ps : List Str) (dvs : List V) (k : Nat) (sp : Sp) : Prop where
  ex : ∃ f fd ds, FnOk P w K mg base (L2.CX P w) k f fd ps sp ∧ mg x = some (.ref f) ∧ PySem.W.keepIn K (.ref f) = true ∧ Binds K fd ps ds ∧ Vals dvs ds
section
variable {X : Cx} {x : Str} {ps : List Str} {dvs : List V} {k : Nat} {sp : Sp} {t : TA} {e : Expr} {es : List Expr} {p pos : Pos} {EX : XK} {W : WX}
theorem pe_callF (F : Fo X.prog X.w X.K X.mg X.base x ps dvs k sp) (hr : Room k X.A) (hx : Passes (L2.CX X.prog X.w) X EX) (ha : PA X (e :: es) t) (hg : Gl X x := by rfl) (hdb : (x == ("__debug__" : Str)) = false := by decide)
    (he : starEach (e :: es) X.env = (false, eval e X.env) :: starEach es X.env := by rfl) (hpl : (backTo pos (starEach es X.env)).any (·.1) = false := by rfl) : PE X (.Call (.Name x p) (e :: es) [] pos) (tCall sp dvs EX t) := by
  obtain ⟨f, fd, ds, G, hm, hk, hb, hd⟩ := F.ex
  exact pe_call G hr hg hm hk hb hd hx ha hdb he hpl
def tCallSD (sp : Sp) (dvs : List V) (E : St → XK) (t : TA) : TE := fun σ H Q => t σ H fun vs H1 => sp (vs ++ dvs) H1 Q (E σ)
end
section
variable {K : PySem.W.Frag} {G G1 G2 : Sto} {D0 D1 D2 D3 : Own} {te ta tb tc : TE} {R Ra Rb : Ty} {E : Ends} {F0 F1 : Hp}
end
theorem fo_mk {P : Program} {w : World} {K : PySem.W.Frag} {mg : Str → Option Value} {base : Heap} {x : Str} {ps : List Str} {k : Nat} {sp : Sp} {f : Addr} {fd : FuncData} {name qual : Str} {params : Arguments} {body : List Stmt} {scope : Scope}
    (F : FunD K name qual params body scope [] [] f fd) (hm : mg x = some (.ref f)) (ok : FnOk P w K mg base (L2.CX P w) k f fd ps sp)
    (h : ∀ (kV doc pm : Value) (an : Option Addr) (cdv ct : Value) (us : List Value), us.length = ps.length → bindArgs (PySem.W.fnOf name qual params body scope .none kV doc pm an cdv ct) ⟨us, []⟩ = pure (ps.zip us)) : Fo P w K mg base x ps [] k sp :=
  ⟨f, fd, [], ok, hm, F.kp, FunD.bindsN F h, .nil⟩
theorem fo_mkD {P : Program} {w : World} {K : PySem.W.Frag} {mg : Str → Option Value} {base : Heap} {x : Str} {ps : List Str} {k : Nat} {sp : Sp} {f : Addr} {fd : FuncData} {name qual : Str} {params : Arguments} {body : List Stmt} {scope : Scope} {dvs : List V}
    (F : FunD K name qual params body scope dvs [] f fd) (hm : mg x = some (.ref f)) (ok : FnOk P w K mg base (L2.CX P w) k f fd ps sp) (n j : Nat) (hd : dvs ≠ []) (hn : n + (dvs.length - j) = ps.length)
    (h : ∀ (T : Addr) (kV doc pm : Value) (an : Option Addr) (cdv ct : Value) (us its : List Value), us.length = n → its.length = dvs.length →
      ∃ k, bindArgs (PySem.W.fnOf name qual params body scope (.ref T) kV doc pm an cdv ct) ⟨us, []⟩ = seqItems? (.ref T) >>= k ∧ k (some its.toArray) = pure (ps.zip (us ++ its.drop j))) : Fo P w K mg base x ps (dvs.drop j) k sp := by
  obtain ⟨ds, h1, h2⟩ := FunD.binds1 F n j hd hn h
  exact ⟨f, fd, ds, ok, hm, F.kp, h2, h1⟩
end TL
set_option Elab.async false
set_option linter.all false
set_option maxRecDepth 100000
set_option maxHeartbeats 1000000
namespace TL
open PySem PySem.Spec L2
section
variable {X : Cx} {x : Str} {pos : Pos}
theorem pe_globI {i : Int} (hg : Gl X x) (hm : ∃ t, X.mg x = some (.int i t)) (hd : (x == ("__debug__" : Str)) = false := by decide) : PE X (.Name x pos) (tC (.int i)) := by
  obtain ⟨t, h⟩ := hm
  exact pe_glob hg h ⟨t, rfl⟩ hd
theorem pe_globS {i : Str} (hg : Gl X x) (hm : ∃ t, X.mg x = some (.str i t)) (hd : (x == ("__debug__" : Str)) = false := by decide) : PE X (.Name x pos) (tC (.str i)) := by
  obtain ⟨t, h⟩ := hm
  exact pe_glob hg h ⟨t, rfl⟩ hd
def iLT (K : PySem.W.Frag) (tl : TE) : TI := fun σ H R => tl σ H fun x H1 => ∃ a, x = .ref a ∧ ((∃ xs, SqL K H1 a xs) ∧ R (Itl K a) H1 ∨ (∃ xs, SqT K H1 a xs) ∧ R (Itt K a) H1)
theorem pi_lt {tg l : Expr} {tl : TE} (hl : PE X l tl) : PI X tg l (iLT X.K tl) := by
  refine ⟨fun pins s σ H R I h => ?_⟩
  refine thn (hl.run pins s σ H _ I h) fun v s1 ⟨x, H1, I1, r1, q1⟩ => ?_
  obtain ⟨a, e, q1⟩ := q1
  subst e
  cases r1
  rcases q1 with ⟨⟨xs, hq⟩, q⟩ | ⟨⟨xs, hq⟩, q⟩
  · obtain ⟨its, rv, p, hz⟩ := I1.list hq
    refine wpAny_pyIter_list p.isList ?_
    refine ⟨s1.heap.objs.size, [s1.heap.objs.size], _, _, H1, rfl, I1.kept (t' := s1.toks) fun b o e => Heap.get?_push_of_some _ e, turn_list a _, ⟨_, Heap.get?_push_size _ rfl, rfl, rfl⟩, fun b hb => ?_, q⟩
    have e : b = s1.heap.objs.size := by simpa using hb
    subst e
    exact I1.fpOk (Nat.le_refl _) (I1.hok.fresh (Nat.le_refl _))
  · obtain ⟨its, rv, p, hz⟩ := I1.tuple hq
    refine wpAny_pyIter_tuple (show s1.heap.IsTuple a its.toArray from p) ?_
    refine ⟨s1.heap.objs.size, [s1.heap.objs.size], _, _, H1, rfl, I1.kept (t' := s1.toks) fun b o e => Heap.get?_push_of_some _ e, turn_tuple a _, ⟨_, Heap.get?_push_size _ rfl, rfl, rfl⟩, fun b hb => ?_, q⟩
    have e : b = s1.heap.objs.size := by simpa using hb
    subst e
    exact I1.fpOk (Nat.le_refl _) (I1.hok.fresh (Nat.le_refl _))
def iSeq (K : PySem.W.Frag) (tl : TE) : TI := fun σ H R => iList K tl σ H R ∨ iTup K tl σ H R ∨ iLT K tl σ H R
theorem pi_seq {tg l : Expr} {tl : TE} (hl : PE X l tl) : PI X tg l (iSeq X.K tl) := ⟨fun pins s σ H R I h => by
  rcases h with h | h | h
  · exact (pi_list hl).run pins s σ H R I h
  · exact (pi_tup hl).run pins s σ H R I h
  · exact (pi_lt hl).run pins s σ H R I h⟩
structure ExOk (K : PySem.W.Frag) (C : Addr) : Prop where
  x : PySem.W.excIn K C He.veBase "ValueError.__new__" = true
  k : PySem.W.keepIn K (.ref C) = true
  b : PySem.W.subIn K (.ref C) (.type "BaseException") = some true
  t : PySem.W.typeIn K (.ref C) = some (.type "type")
  c : ExcC K C
theorem ExOk.pmk {C : Addr} {m : Str} {j : Nat} {p p2 : Pos} (o : ExOk X.K C) (gC : X.mg x = some (.ref C)) (hg : Gl X x) (hdb : (x == ("__debug__" : Str)) = false := by decide) : PMk X (.Call (.Name x p) [.Constant (.str m) j p2] [] pos) (fun _ H Q => Q (.ref C) none H) :=
  pmk_own PySem.F.excBase_ValueError o.x gC o.k (raises_own o.b o.t) hg hdb
theorem ps_raiseX {C : Addr} {e : Expr} {EX : XK} (hc : X.calm = true) (tk : Takes X (fun cls d _ H => EX cls d H)) (he : PMk X e (fun _ H Q => Q (.ref C) none H)) : PS X (.Raise (some e) none pos) (tRaiseX C EX) := ps_raise hc tk he
end
section
variable {K : PySem.W.Frag} {G G1 G2 : Sto} {D0 D1 D2 D3 : Own} {te ta tb tc : TE} {tt tu : TT} {R Ra Rb : Ty} {E En : Ends} {F0 F1 : Hp} {t u : TS}
end
theorem tyX_mono {K : PySem.W.Frag} {F F' : Hp} {v : V} {n : Value} (s : Same F F') (h : TyX K F v n) : TyX K F' v n := by
  cases h with
  | base h =>
    cases h with
    | non => exact .base .non
    | bl b => exact .base (.bl b)
    | int i => exact .base (.int i)
    | str x => exact .base (.str x)
    | flt x => exact .base (.flt x)
    | lst e => exact .base (.lst (s _ _ e))
    | frz e => exact .base (.frz (s _ _ e))
    | tup e => exact .base (.tup (s _ _ e))
    | dK e => exact .base (.dK (s _ _ e))
    | dT e => exact .base (.dT (s _ _ e))
    | ins e cl ha hn htk hm => exact .base (.ins (s _ _ e) cl ha hn htk hm)
  | byt b => exact .byt b
  | set e => exact .set (s _ _ e)
  | kList e c => exact .kList e c
  | kTuple e c => exact .kTuple e c
  | kDict e c => exact .kDict e c
  | fTuple e => exact .fTuple (s _ _ e)
  | fDict e => exact .fDict (s _ _ e)
def Of (K : PySem.W.Frag) (n : String) : Ty := ⟨fun v F => TyX K F v (.type n), tyX_mono⟩
section
variable {K : PySem.W.Frag} {G G1 G2 : Sto} {D0 D1 D2 D3 : Own} {te ta tb tc : TE} {tt tu : TT} {R Ra Rb : Ty} {E En : Ends} {F0 F1 : Hp} {t u : TS}
theorem atI_all {F : Hp} {Rs : List Ty} {vs : List V} (h : AllP F Rs vs) {i : Int} {R : Ty} (e : atI Rs i = some R) : ∃ v, atI vs i = some v ∧ R.p v F := by
  unfold atI at e ⊢
  rw [h.len]
  cases q : ixN Rs.length i with
  | none => rw [q] at e; cases e
  | some j =>
    rw [q] at e
    exact h.get e
end
open PySem.W in
abbrev AlZ : Type := He.AlD × Bool
def SaysZ (fa : List He.Fa) (fn : List He.DefD) (ex : PySem.W.Frag → Bool) (K : PySem.W.Frag) : Prop := He.SaysD fa fn K ∧ ex K = true
def excB (K : PySem.W.Frag) (C : Addr) : Bool :=
  PySem.W.excIn K C He.veBase "ValueError.__new__" && (PySem.W.keepIn K (.ref C) && (decide (PySem.W.subIn K (.ref C) (.type "BaseException") = some true) && (decide (PySem.W.typeIn K (.ref C) = some (.type "type")) &&
  (He.eqO (PySem.W.findIn K (.ref C) "__getattribute__") (some (some (.builtin "BaseException.__getattribute__"))) && (He.eqO (PySem.W.findIn K (.ref C) "__getattr__") (some none) && (PySem.W.hasDictIn K C &&
  (He.eqO (PySem.W.findIn K (.ref C) "__class__") (some (some (.builtin "object.__class__"))) && (decide (PySem.W.specialIn K (.builtin "object.__class__") "__get__" = some (some (.builtin "getset_descriptor.__get__"))) && (decide (PySem.W.takesIn K (.builtin "object.__class__") = some true) &&
  decide (PySem.W.mroIn K C (.type "object") = some true))))))))))
theorem excB_ok {K : PySem.W.Frag} {C : Addr} (h : excB K C = true) : ExOk K C := by
  unfold excB at h
  simp only [Bool.and_eq_true, decide_eq_true_eq] at h
  obtain ⟨h1, h2, h3, h4, h5, h6, h7, h8, h9, h10, h11⟩ := h
  exact ⟨h1, h2, h3, h4, ⟨He.eqO_ok h5, He.eqO_ok h6, h3, h7, He.eqO_ok h8, h9, h10, h11⟩⟩
end TL
set_option Elab.async false
set_option linter.all false
set_option maxRecDepth 100000
set_option maxHeartbeats 1000000
namespace TL
open PySem PySem.Spec L2
theorem cx_no {P : Program} {w : World} {o : List Env} {H : Hp} {s : Shared} {e : Value} {s' : Shared} (z : L2.CX P w o H s E0 e s') : False := by
  obtain ⟨_, _, _, _, _, _, _, _, _, _, _, _, z⟩ := z
  exact z
theorem calm_fn {P : Program} {w : World} {K : PySem.W.Frag} {mg : Str → Option Value} {base : Heap} {k : Nat} {f : Addr} {fd : FuncData} {ps : List Str} {sp : Sp} (F : FnOk P w K mg base (L2.CX P w) k f fd ps sp) (h : ∀ vs H Q E, sp vs H Q E → sp vs H Q E0) : FnOk P w K mg base CX0 k f fd ps sp where
  run := fun A outer s H args us vs Q E hr e b r q => codeAny_mono (F.run A outer s H args us vs Q E0 hr e b r (h vs H Q E q)) fun r s' z => by
    cases r with
    | error e => exact (cx_no z).elim
    | ok fl => cases fl with
      | ret u => exact z
      | next => exact z
      | brk => exact z
      | cont => exact z
  len := F.len
def lawSp (K : PySem.W.Frag) : Sp := fsp (T := List Int) (fun ns => [D K (.list (ns.map PyData.int))]) (fun ns => ns.length ≤ 63) (fun _ => .ok (DB K true))
theorem lawSp_E {K : PySem.W.Frag} : ∀ vs H Q E, lawSp K vs H Q E → lawSp K vs H Q E0 := fun vs H Q E ⟨x, F, D, h1, h2, h3, h4⟩ => ⟨x, F, D, h1, h2, h3, h4⟩
theorem ints_dp {K : PySem.W.Frag} {F : Hp} : ∀ ns : List Int, DpAll K F (ns.map V.int) (ns.map PyData.int)
  | [] => .nil
  | n :: ns => .cons (.int n) (ints_dp ns)
theorem law_sp {K : PySem.W.Frag} {H : Hp} {a : Addr} {ns : List Int} (hl : ns.length ≤ 63) (h : SqL K H a (ns.map V.int)) : lawSp K [.ref a] H (fun v _ => v = .bl true) E0 :=
  ⟨ns, H, [], ⟨Same.refl _, (fun a O m => by cases m), List.nodup_nil, fun _ => noH, (fun a O m => by cases m), (fun a b o m => by cases m), fun a a2 b m => by cases m⟩, .cons (.lst h (ints_dp ns)) .nil, hl, fun v H' F' s hs r => dp_bl r⟩
end TL
set_option maxHeartbeats 1000000
namespace Nu
theorem fmod_natAbs_lt {a b : Int} (h : b ≠ 0) : (a.fmod b).natAbs < b.natAbs := by
  rcases Int.lt_or_gt_of_ne h with hb | hb
  · have e : a.fmod b = -((-a).fmod (-b)) := by
      rw [Int.neg_fmod_neg, Int.neg_neg]
    have h1 := Int.fmod_nonneg_of_pos (-a) (show 0 < -b by omega)
    have h2 := Int.fmod_lt_of_pos (-a) (show 0 < -b by omega)
    omega
  · have h1 := Int.fmod_nonneg_of_pos a hb
    have h2 := Int.fmod_lt_of_pos a hb
    omega
theorem gcd_fmod (a b : Int) : Int.gcd b (a.fmod b) = Int.gcd a b := by
  have e : a.fmod b = a + b * (-(a.fdiv b)) := by
    have := Int.fmod_add_mul_fdiv a b
    grind
  rw [e]
  rw [Int.gcd_comm a b]
  exact Int.gcd_add_mul_left_right ..
def by_ (t b : Int) : Int := if b < 0 then 0 - (Int.gcd t b : Int) else (Int.gcd t b : Int)
def q (t b : Int) : Rat := Rat.divInt t b
theorem gcd_pos {t b : Int} (h : b ≠ 0) : 0 < Int.gcd t b := Int.gcd_pos_of_ne_zero_right _ h
theorem by_ne {t b : Int} (h : b ≠ 0) : by_ t b ≠ 0 := by
  have := gcd_pos (t := t) h
  unfold by_
  split <;> omega
theorem by_le {t b : Int} (h : b ≠ 0) : (by_ t b).natAbs ≤ b.natAbs := by
  have := Int.gcd_le_natAbs_right t h
  unfold by_
  split <;> omega
theorem fdiv_dvd {a b c : Int} (hc : c ≠ 0) (h : a = c * b) : a.fdiv c = b := by
  subst h
  exact Int.mul_fdiv_cancel_left _ hc
theorem top_is {t b : Int} (h : b ≠ 0) : t.fdiv (by_ t b) = (q t b).num := by
  have gp := gcd_pos (t := t) h
  obtain ⟨u, hu⟩ := Int.gcd_dvd_left t b
  refine fdiv_dvd (by_ne h) ?_
  unfold q by_
  rw [Rat.num_divInt, Int.gcd_comm b t]
  have g0 : (Int.gcd t b : Int) ≠ 0 := by omega
  have e1 : b.sign * t / (Int.gcd t b : Int) = b.sign * u := by
    have : b.sign * t = (Int.gcd t b : Int) * (b.sign * u) := by
      conv => lhs; rw [hu]
      grind
    rw [this]
    exact Int.mul_ediv_cancel_left _ g0
  rw [e1]
  by_cases hb : b < 0
  · rw [if_pos hb, Int.sign_eq_neg_one_of_neg hb]
    conv => lhs; rw [hu]
    grind
  · rw [if_neg hb, Int.sign_eq_one_of_pos (by omega)]
    conv => lhs; rw [hu]
    grind
theorem bot_is {t b : Int} (h : b ≠ 0) : b.fdiv (by_ t b) = ((q t b).den : Int) := by
  have gp := gcd_pos (t := t) h
  obtain ⟨u, hu⟩ := Int.gcd_dvd_right t b
  refine fdiv_dvd (by_ne h) ?_
  unfold q by_
  rw [Rat.den_divInt, if_neg h, Int.gcd_comm b t]
  have g0 : (Int.gcd t b : Int) ≠ 0 := by omega
  have e1 : (((b.natAbs / Int.gcd t b : Nat)) : Int) = u.natAbs := by
    have : b.natAbs = Int.gcd t b * u.natAbs := by
      conv => lhs; rw [hu]
      rw [Int.natAbs_mul, Int.natAbs_natCast]
    rw [this, Nat.mul_div_cancel_left _ gp]
  rw [e1]
  have su : (b < 0 → u < 0) ∧ (0 < b → 0 < u) := by
    constructor
    · intro hb
      rcases Int.lt_or_le u 0 with z | z
      · exact z
      · have : 0 ≤ (Int.gcd t b : Int) * u := Int.mul_nonneg (by omega) z
        omega
    · intro hb
      rcases Int.lt_or_le 0 u with z | z
      · exact z
      · have : (Int.gcd t b : Int) * u ≤ 0 := Int.mul_nonpos_of_nonneg_of_nonpos (by omega) z
        omega
  by_cases hb : b < 0
  · rw [if_pos hb]
    have := su.1 hb
    have e : ((u.natAbs : Nat) : Int) = - u := by omega
    rw [e]
    conv => lhs; rw [hu]
    grind
  · rw [if_neg hb]
    have := su.2 (by omega)
    have e : ((u.natAbs : Nat) : Int) = u := by omega
    rw [e]
    conv => lhs; rw [hu]
theorem by_pos {t b : Int} (h : 0 < b) : by_ t b = (Int.gcd t b : Int) := by
  unfold by_
  rw [if_neg (by omega)]
theorem q_self (r : Rat) : q r.num r.den = r := Rat.num_divInt_den r
theorem den_ne (r : Rat) : (r.den : Int) ≠ 0 := by
  have := r.den_pos
  omega
theorem plus_is (a b : Rat) : q (a.num * b.den + b.num * a.den) (a.den * b.den) = a + b := by
  conv => rhs; rw [← q_self a, ← q_self b]
  exact (Rat.divInt_add_divInt _ _ (den_ne a) (den_ne b)).symm
theorem less_is (a b : Rat) : (a.num * b.den < b.num * a.den) ↔ a < b := (Rat.lt_iff a b).symm
theorem q_one (t : Int) : (q t 1).num = t ∧ (q t 1).den = 1 := by
  unfold q
  refine ⟨?_, ?_⟩
  · rw [Rat.num_divInt]; simp
  · rw [Rat.den_divInt]; simp
def Bd (n : Nat) (r : Rat) : Prop := r.num.natAbs < 2 ^ n ∧ r.den < 2 ^ n
theorem natAbs_mul_lt {a b : Int} {n m : Nat} (ha : a.natAbs < 2 ^ n) (hb : b.natAbs < 2 ^ m) : (a * b).natAbs < 2 ^ (n + m) := by
  rw [Int.natAbs_mul, Nat.pow_add]
  exact Nat.mul_lt_mul'' ha hb
theorem natAbs_add_lt {a b : Int} {n : Nat} (ha : a.natAbs < 2 ^ n) (hb : b.natAbs < 2 ^ n) : (a + b).natAbs < 2 ^ (n + 1) := by
  rw [Nat.pow_succ]
  omega
theorem lt_pow_mono {a n m : Nat} (h : a < 2 ^ n) (l : n ≤ m) : a < 2 ^ m := Nat.lt_of_lt_of_le h (Nat.pow_le_pow_right (by decide) l)
theorem Bd.mono {n m : Nat} {r : Rat} (h : Bd n r) (l : n ≤ m) : Bd m r := ⟨lt_pow_mono h.1 l, lt_pow_mono h.2 l⟩
theorem natAbs_ediv_le (a : Int) {g : Nat} (h : 0 < g) : (a / (g : Int)).natAbs ≤ a.natAbs := by
  rcases Int.lt_or_le a 0 with z | z
  · have h1 : a / (g : Int) < 0 := Int.ediv_neg_of_neg_of_pos z (by omega)
    have h2 : a ≤ a / (g : Int) := by
      have h3 : a / (g : Int) * (g : Int) ≤ a := Int.ediv_mul_le a (by omega)
      have h4 : a - (g : Int) < a / (g : Int) * (g : Int) := by
        have := Int.lt_ediv_add_one_mul_self a (show (0 : Int) < g by omega)
        grind
      have : a * (g : Int) ≤ a * 1 := Int.mul_le_mul_of_nonpos_left (by omega) (by omega)
      refine Int.le_ediv_of_mul_le (by omega) ?_
      omega
    omega
  · have h1 : 0 ≤ a / (g : Int) := Int.ediv_nonneg z (by omega)
    have h2 : a / (g : Int) ≤ a := Int.ediv_le_self _ z
    omega
theorem q_bd {t b : Int} {n : Nat} (ht : t.natAbs < 2 ^ n) (hb : b.natAbs < 2 ^ n) (h : b ≠ 0) : Bd n (q t b) := by
  have gp := gcd_pos (t := t) h
  rw [Int.gcd_comm] at gp
  unfold q Bd
  rw [Rat.num_divInt, Rat.den_divInt, if_neg h]
  refine ⟨?_, Nat.lt_of_le_of_lt (Nat.div_le_self _ _) hb⟩
  refine Nat.lt_of_le_of_lt (natAbs_ediv_le _ gp) ?_
  rw [Int.natAbs_mul]
  have : b.sign.natAbs ≤ 1 := by
    rcases Int.lt_or_gt_of_ne h with z | z
    · rw [Int.sign_eq_neg_one_of_neg z]; decide
    · rw [Int.sign_eq_one_of_pos z]; decide
  have h2 : b.sign.natAbs * t.natAbs ≤ 1 * t.natAbs := Nat.mul_le_mul_right _ this
  omega
theorem den_abs {n : Nat} {r : Rat} (h : Bd n r) : ((r.den : Int)).natAbs < 2 ^ n := by simpa using h.2
theorem plus_bd {a b : Rat} {n m : Nat} (ha : Bd n a) (hb : Bd m b) : Bd (n + m + 1) (a + b) := by
  rw [← plus_is]
  refine q_bd (natAbs_add_lt (natAbs_mul_lt ha.1 (den_abs hb)) (by rw [Nat.add_comm]; exact natAbs_mul_lt hb.1 (den_abs ha))) (lt_pow_mono (natAbs_mul_lt (den_abs ha) (den_abs hb)) (by omega)) (Int.mul_ne_zero (den_ne a) (den_ne b))
end Nu
set_option Elab.async false
set_option linter.all false
set_option maxRecDepth 100000
set_option maxHeartbeats 1000000
namespace TL
open PySem PySem.Spec L2
def kinds : List String := ["int", "bool", "NoneType", "str", "tuple", "list", "dict"]
abbrev DQ (K : PySem.W.Frag) (r : Rat) : Ty := D K (.tuple [.int r.num, .int r.den])
inductive NA where
  | odd1 (n : String) (m : String)
  | odd2 (t : Int) (n : String)
  | good (t b : Int)
def NA.args (K : PySem.W.Frag) : NA → List Ty
  | .odd1 n m => [Of K n, Of K m]
  | .odd2 t n => [DI K t, Of K n]
  | .good t b => [DI K t, DI K b]
def NA.pre : NA → Prop
  | .odd1 n m => n ∈ kinds ∧ n ≠ "int" ∧ m ∈ kinds
  | .odd2 t n => n ∈ kinds ∧ n ≠ "int"
  | .good t b => b.natAbs < 2 ^ 8000
def NA.out (K : PySem.W.Frag) : NA → Out
  | .good t b => if b = 0 then .err (.ref (He.ga K "NoNumber")) else .ok (DQ K (Nu.q t b))
  | _ => .err (.ref (He.ga K "NoNumber"))
structure We where
  f : Int
  v : Int
  t : Int
def We.d (w : We) : List PyData := [.int w.f, .int w.v, .int w.t]
def We.ok (n : Nat) (w : We) : Prop := w.f = 1 ∨ (w.f = 0 ∧ w.v.natAbs < 2 ^ 60 ∧ 0 ≤ w.t ∧ w.t ≤ n)
def mix (v t : Int) : Int := ((((((v + 7919 * t * t) + t) * 48271).fmod 2305843009213693951) * 1442695040888963407 + 4321).fmod 2305843009213693921).fdiv 64
def We.val (w : We) (m : Int) : Int := if w.f = 1 then w.v.fmod m else (mix w.v (w.t + 1)).fmod m
def We.nx (w : We) (m : Int) : We := if w.f = 1 then ⟨w.f, w.v.fdiv m, w.t⟩ else ⟨w.f, w.v, w.t + 1⟩
section
variable {K : PySem.W.Frag} {G : Sto} {D0 D1 D2 : Own} {te ta tb : TE} {F0 : Hp} {E : Ends} {X : XK}
theorem div_ok {t b : Int} (h0 : b ≠ 0) (hb : b.natAbs < 2 ^ 8000) : CDivA t (Nu.by_ t b) := by
  refine ⟨Nu.by_ne h0, ?_⟩
  have h1 := Nu.by_le (t := t) h0
  have : (Nu.by_ t b).natAbs < 2 ^ 8000 := Nat.lt_of_le_of_lt h1 hb
  exact Nat.lt_of_lt_of_le (PySem.Flt.log2_lt_of (by decide) this) (by decide)
theorem set_at {D : Own} {k : Nat} {x y : Addr × OTy} (h : D[k]? = some x) : (D.set k y)[k]? = some y := by
  have lt : k < D.length := (List.getElem?_eq_some_iff.mp h).1
  rw [List.getElem?_set_self lt]
theorem wmul {i j : Int} (a b : Nat) (ha : i.natAbs < 2 ^ a) (hb : j.natAbs < 2 ^ b) (h0 : 0 < a := by decide) (h1 : 0 < b := by decide) (h : a + b ≤ 1000000 := by decide) : CMulW i j := wide_mul ha hb h0 h1 h
theorem cdiv {i j : Int} (h0 : j ≠ 0) (hb : j.natAbs < 2 ^ 8000) : CDivA i j := ⟨h0, Nat.lt_of_lt_of_le (PySem.Flt.log2_lt_of (by decide) hb) (by decide)⟩
theorem mod_ok {a m : Int} (h : 0 < m) : 0 ≤ a.fmod m ∧ a.fmod m < m := ⟨Int.fmod_nonneg_of_pos a h, Int.fmod_lt_of_pos a h⟩
theorem eqv_q (a b : Rat) : PyData.eqv (.tuple [.int a.num, .int a.den]) (.tuple [.int b.num, .int b.den]) = decide (a = b) := by
  simp only [PyData.eqv, PyData.eqvAll, Bool.and_true]
  by_cases h : a = b
  · subst h; simp
  · rw [decide_eq_false h]
    cases e : (a.num == b.num && (a.den : Int) == (b.den : Int)) with
    | false => rfl
    | true =>
      simp only [Bool.and_eq_true, beq_iff_eq] at e
      exact absurd (Rat.ext e.1 (by omega)) h
theorem small {m : Int} (h : m.natAbs < 2 ^ 62) : m.natAbs < 2 ^ 8000 := Nu.lt_pow_mono h (by decide)
end
end TL
set_option Elab.async false
set_option linter.all false
set_option maxRecDepth 100000
set_option maxHeartbeats 1000000
namespace TL
open PySem PySem.Spec L2
section
variable {K : PySem.W.Frag} {G G1 G2 : Sto} {D0 D1 D2 D3 : Own} {te ta tb : TE} {R Ra Rb : Ty} {F0 F1 : Hp} {E : Ends} {X : XK}
theorem cq {i j : Int} {n m : Nat} (ha : i.natAbs < 2 ^ n) (hb : j.natAbs < 2 ^ m) (hn : n ≤ 8000) (hm : m ≤ 8000) : CMulW i j :=
  wmul 8001 8001 (Nu.lt_pow_mono ha (by omega)) (Nu.lt_pow_mono hb (by omega))
theorem dd_small {a b : Rat} (ha : Nu.Bd 3000 a) (hb : Nu.Bd 3000 b) : ((a.den : Int) * (b.den : Int)).natAbs < 2 ^ 8000 := Nu.lt_pow_mono (Nu.natAbs_mul_lt (Nu.den_abs ha) (Nu.den_abs hb)) (by decide)
theorem dd_ne (a b : Rat) : (a.den : Int) * (b.den : Int) ≠ 0 := Int.mul_ne_zero (Nu.den_ne a) (Nu.den_ne b)
theorem SLe.keep {G G' : Sto} {x : Option Ty} (h : SLe G G') : SLe (x :: G) (x :: G') := by
  cases x with
  | none => exact .drop h
  | some R => exact .imp (fun _ _ h => h) h
end
end TL
set_option Elab.async false
set_option linter.all false
set_option maxRecDepth 100000
set_option maxHeartbeats 1000000
namespace TL
open PySem PySem.Spec L2
theorem wipe_get (σ : L2.St) : ∀ (vs : List Nat) (j : Nat), (wipe σ vs)[j]? = if j ∈ vs then (σ[j]?).map (fun _ => none) else σ[j]?
  | [], j => by simp [wipe]
  | v :: vs, j => by
    have len := wipe_length σ vs
    unfold wipe
    by_cases e : v = j
    · subst e
      by_cases lt : v < (wipe σ vs).length
      · rw [List.getElem?_set_self lt]
        rw [len] at lt
        simp [lt]
      · rw [List.getElem?_eq_none (by simpa using lt)]
        rw [len] at lt
        simp [List.getElem?_eq_none (Nat.le_of_not_lt lt)]
    · rw [List.getElem?_set_ne e, wipe_get σ vs j]
      have : (j ∈ v :: vs) ↔ (j ∈ vs) := by
        simp only [List.mem_cons]
        constructor
        · rintro (h | h)
          · exact absurd h.symm e
          · exact h
        · exact .inr
      simp only [this]
theorem wipe_eq {σ τ : L2.St} {vs : List Nat} (h : ∀ j, j ∉ vs → σ[j]? = τ[j]?) (l : σ.length = τ.length) : wipe σ vs = wipe τ vs := by
  refine List.ext_getElem? fun j => ?_
  rw [wipe_get, wipe_get]
  by_cases m : j ∈ vs
  · rw [if_pos m, if_pos m]
    by_cases lt : j < σ.length
    · have lt2 : j < τ.length := by omega
      simp [lt, lt2]
    · have lt2 : ¬ j < τ.length := by omega
      simp [lt, lt2]
  · rw [if_neg m, if_neg m]
    exact h j m
theorem wipe_wipe (σ : L2.St) (vs : List Nat) : wipe (wipe σ vs) vs = wipe σ vs := wipe_eq (fun j m => by rw [wipe_get, if_neg m]) (wipe_length σ vs)
theorem wipe_set {σ τ : L2.St} {vs : List Nat} {i : Nat} {x : Option V} (m : i ∈ vs) (h : wipe τ vs = wipe σ vs) : wipe (τ.set i x) vs = wipe σ vs := by
  rw [← h]
  refine wipe_eq (fun j mj => ?_) (by simp)
  exact List.getElem?_set_ne (fun e => mj (by rw [← e]; exact m))
def wipeG (G : Sto) : List Nat → Sto
  | [] => G
  | v :: vs => (wipeG G vs).set v none
theorem SS.wipe {F : Hp} {G : Sto} {σ : L2.St} (h : SS F G σ) : ∀ vs : List Nat, SS F (wipeG G vs) (L2.wipe σ vs)
  | [] => h
  | v :: vs => (SS.wipe h vs).unset v
def EvW (g : TG) (vs : List Nat) (G : Sto) (R : Ty) (G1 : Sto) : Prop := ∀ (v : V) (σ τ : L2.St) (H F : Hp) (D : Own), HS D H F → SS F G τ → wipe τ vs = wipe σ vs → R.p v F → ∀ Q : L2.St → Hp → Prop, (∀ σ', SS F G1 σ' → wipe σ' vs = wipe σ vs → Q σ' H) → g v τ H Q
section
variable {K : PySem.W.Frag} {G G1 G2 : Sto} {D0 D1 D2 D3 : Own} {te ta tb : TE} {tt : TT} {R Ra Rb : Ty} {F0 F1 : Hp} {E : Ends} {X : XK} {vs : List Nat}
theorem evW_name {i : Nat} (m : i ∈ vs) : EvW (gName i) vs G R (G.set i (some R)) := fun v σ τ H F D hs ss w r Q q => q _ (ss.set r i) (wipe_set m w)
theorem evT_yes : EvT tYes G D0 true D0 := fun σ H F hs ss Q q => q H F (Same.refl _) hs
end
end TL
set_option Elab.async false
set_option linter.all false
set_option maxRecDepth 100000
set_option maxHeartbeats 1000000
namespace TL
open PySem PySem.Spec L2
section
variable {K : PySem.W.Frag} {G G1 G2 : Sto} {D0 D1 D2 D3 : Own} {te ta tb : TE} {tt : TT} {R Ra Rb : Ty} {F0 F1 : Hp} {E : Ends} {X : XK} {tl th : TO}
end
end TL
set_option Elab.async false
set_option linter.all false
set_option maxRecDepth 100000
set_option maxHeartbeats 1000000
namespace TL
open PySem PySem.Spec L2
def Ty.ex {α : Type} (f : α → Ty) (p : α → Prop) : Ty := ⟨fun v F => ∃ a, p a ∧ (f a).p v F, fun s ⟨a, h1, h2⟩ => ⟨a, h1, (f a).mono s h2⟩⟩
def OTy.ex {α : Type} (f : α → OTy) (p : α → Prop) : OTy := .fl (fun v F => ∃ a, p a ∧ (f a).p v F) (fun s ⟨a, h1, h2⟩ => ⟨a, h1, (f a).mono s h2⟩)
def getM (m : List (Str × PyData)) (k : Str) : Option PyData := (m.find? fun e => decide (e.1 = k)).map (·.2)
def putM (m : List (Str × PyData)) (k : Str) (d : PyData) : List (Str × PyData) :=
  if (m.any fun e => decide (e.1 = k)) = true then m.map (fun e => if e.1 = k then (e.1, d) else e) else m ++ [(k, d)]
inductive EntP (K : PySem.W.Frag) (F : Hp) : List (L2.Key × V) → List (Str × PyData) → Prop
  | nil : EntP K F [] []
  | cons {k : Str} {v : V} {d : PyData} {kvs : List (L2.Key × V)} {m : List (Str × PyData)} : Dp K F v d → EntP K F kvs m → EntP K F ((Sum.inr k, v) :: kvs) ((k, d) :: m)
theorem EntP.mono {K : PySem.W.Frag} {F F' : Hp} {kvs : List (L2.Key × V)} {m : List (Str × PyData)} (h : EntP K F kvs m) (s : Same F F') : EntP K F' kvs m := by
  induction h with
  | nil => exact .nil
  | cons h _ ih => exact .cons (dp_mono s _ _ h) ih
theorem EntP.len {K : PySem.W.Frag} {F : Hp} {kvs : List (L2.Key × V)} {m : List (Str × PyData)} (h : EntP K F kvs m) : kvs.length = m.length := by
  induction h with
  | nil => rfl
  | cons _ _ ih => simp [ih]
theorem EntP.keys {K : PySem.W.Frag} {F : Hp} {kvs : List (L2.Key × V)} {m : List (Str × PyData)} (h : EntP K F kvs m) : kvs.map (·.1) = (m.map (·.1)).map Sum.inr := by
  induction h with
  | nil => rfl
  | cons _ _ ih => simp [ih]
theorem EntP.get {K : PySem.W.Frag} {F : Hp} {kvs : List (L2.Key × V)} {m : List (Str × PyData)} (h : EntP K F kvs m) (k : Str) : (getM m k = none ∧ valV kvs (Sum.inr k) = none) ∨ ∃ d v, getM m k = some d ∧ valV kvs (Sum.inr k) = some v ∧ Dp K F v d := by
  induction h with
  | nil => exact .inl ⟨rfl, rfl⟩
  | @cons k' v d kvs m hd _ ih =>
    by_cases e : k' = k
    · subst e
      exact .inr ⟨d, v, by simp [getM], by simp [valV], hd⟩
    · have e1 : getM ((k', d) :: m) k = getM m k := by simp [getM, e]
      have e2 : valV ((Sum.inr k', v) :: kvs) (Sum.inr k : L2.Key) = valV kvs (Sum.inr k) := valV_neg (fun z => e (Sum.inr.inj z))
      rw [e1, e2]
      exact ih
theorem EntP.any {K : PySem.W.Frag} {F : Hp} {kvs : List (L2.Key × V)} {m : List (Str × PyData)} (h : EntP K F kvs m) (k : Str) : (kvs.any fun e => decide (e.1 = (Sum.inr k : L2.Key))) = (m.any fun e => decide (e.1 = k)) := by
  induction h with
  | nil => rfl
  | @cons k' v d kvs m _ _ ih =>
    rw [List.any_cons, List.any_cons, ih]
    congr 1
    by_cases e : k' = k
    · subst e; simp
    · simp [e]
theorem EntP.snoc {K : PySem.W.Frag} {F : Hp} {kvs : List (L2.Key × V)} {m : List (Str × PyData)} (h : EntP K F kvs m) {k : Str} {v : V} {d : PyData} (hd : Dp K F v d) : EntP K F (kvs ++ [(Sum.inr k, v)]) (m ++ [(k, d)]) := by
  induction h with
  | nil => exact .cons hd .nil
  | cons h _ ih => exact .cons h ih
theorem EntP.repl {K : PySem.W.Frag} {F : Hp} {kvs : List (L2.Key × V)} {m : List (Str × PyData)} (h : EntP K F kvs m) {k : Str} {v : V} {d : PyData} (hd : Dp K F v d) :
    EntP K F (kvs.map fun e => if e.1 = (Sum.inr k : L2.Key) then (e.1, v) else e) (m.map fun e => if e.1 = k then (e.1, d) else e) := by
  induction h with
  | nil => exact .nil
  | @cons k' v' d' kvs m h _ ih =>
    rw [List.map_cons, List.map_cons]
    by_cases e : k' = k
    · subst e
      rw [if_pos rfl, if_pos rfl]
      exact .cons hd ih
    · rw [if_neg (fun z => e (Sum.inr.inj z)), if_neg e]
      exact .cons h ih
theorem EntP.put {K : PySem.W.Frag} {F : Hp} {kvs : List (L2.Key × V)} {m : List (Str × PyData)} (h : EntP K F kvs m) {k : Str} {v : V} {d : PyData} (hd : Dp K F v d) : EntP K F (putK kvs (Sum.inr k) v) (putM m k d) := by
  unfold putK putM
  rw [h.any k]
  split
  · exact h.repl hd
  · exact h.snoc hd
def OD (K : PySem.W.Frag) (m : List (Str × PyData)) : OTy := .fl (fun o F => ∃ kvs, o = .dK kvs ∧ EntP K F kvs m) (fun s ⟨kvs, e, h⟩ => ⟨kvs, e, h.mono s⟩)
section
variable {K : PySem.W.Frag} {G G1 G2 : Sto} {D0 D1 D2 D3 : Own} {te ta tb tx : TE} {tt : TT} {R Ra Rb : Ty} {F0 F1 : Hp} {E : Ends} {X : XK} {tl th : TO}
abbrev rJoin (K : PySem.W.Frag) : V → List V → Hp → VK → Prop := fun x xs H Q => ∃ a p, ∃ ys : List Str, x = .str a ∧ xs = [.ref p] ∧ (SqL K H p (ys.map V.str) ∨ SqT K H p (ys.map V.str)) ∧
      (ys.map (·.length)).sum + ys.length * a.length ≤ 16777216 ∧ Q (.str (Txt.join a ys)) H
theorem strs_of {F : Hp} : ∀ {ys : List Str} {xs : List V}, DpAll K F xs (ys.map PyData.str) → xs = ys.map V.str
  | [], _, h => by cases h; rfl
  | y :: ys, _, h => by
    cases h with
    | cons h1 h2 =>
      rw [dp_str h1, strs_of h2]
      rfl
abbrev rSortD : List V → Hp → VK → Prop := fun xs H Q => ∃ (a : Addr) (kvs : List (L2.Key × V)) (ks : List Str), xs = [.ref a] ∧ Rd H a (.dK kvs) ∧ kvs.map (·.1) = ks.map Sum.inr ∧ ks.length < 64 ∧
    ∀ ys p, ys.Perm ks → PyProof.Rows.sortedS ys = true → H p = none → Q (.ref p) (upd H p (.lst (ys.map V.str)))
abbrev qSort (K : PySem.W.Frag) : List V → Hp → VK → Prop := fun xs H Q => rSortedS K xs H Q ∨ rSortD xs H Q
theorem call_sort {X : Cx} (hcalm : X.calm = true) : CallR X (.builtin "sorted") (qSort X.K) := CallR.or cr_sortedS (call_sortedD hcalm)
theorem dp_strs {F : Hp} : ∀ ys : List Str, DpAll K F (ys.map V.str) (ys.map PyData.str)
  | [] => .nil
  | y :: ys => .cons (.str y) (dp_strs ys)
abbrev cLst0 (K : PySem.W.Frag) : List V → Hp → VK → Prop := fun xs H Q => ∃ p ys, xs = [.ref p] ∧ (SqL K H p ys ∨ SqT K H p ys) ∧ ∀ l, H l = none → Q (.ref l) (upd H l (.lst ys))
abbrev cLstD : List V → Hp → VK → Prop := fun xs H Q => ∃ (a : Addr) (kvs : List (L2.Key × V)), xs = [.ref a] ∧ Rd H a (.dK kvs) ∧ ∀ p, H p = none → Q (.ref p) (upd H p (.lst (kvs.map fun kv => kV kv.1)))
abbrev cLst (K : PySem.W.Frag) : List V → Hp → VK → Prop := fun xs H Q => cLst0 K xs H Q ∨ cLstD xs H Q
theorem call_lstU {X : Cx} (hcalm : X.calm = true) : CallR X (.type "list") (cLst X.K) := CallR.or call_list_of (call_listD hcalm)
theorem inV_strs {x : Str} : ∀ ys : List Str, inV (.str x) (ys.map V.str) = decide (x ∈ ys)
  | [] => by simp [inV]
  | y :: ys => by
    have ih := inV_strs (x := x) ys
    unfold inV at ih ⊢
    rw [List.map_cons, List.any_cons, ih]
    have e : eqV (.str y) (.str x) = decide (x = y) := by
      by_cases h : x = y
      · subst h; simp [eqV]
      · have : ¬ y = x := fun z => h z.symm
        simp [eqV, h, this]
    rw [e]
    by_cases h : x = y <;> simp [h]
theorem flat_strs : ∀ ys : List Str, (ys.map V.str).all flatV = true
  | [] => rfl
  | y :: ys => by rw [List.map_cons, List.all_cons, flat_strs ys]; rfl
end
end TL
set_option Elab.async false
set_option linter.all false
set_option maxRecDepth 100000
set_option maxHeartbeats 1000000
namespace TL
open PySem PySem.Spec L2
mutual
def dataB (K : PySem.W.Frag) (v : Value) : PyData → Bool
  | .none => (match v with
    | .none => true
    | _ => false)
  | .bool b => (match v with
    | .bool c => b == c
    | _ => false)
  | .int i => (match v with
    | .int j _ => decide (j = i)
    | _ => false)
  | .str x => (match v with
    | .str y _ => decide (y = x)
    | _ => false)
  | .tuple ds => (match v with
    | .ref a => (match K.lookup a with
      | some o => (match o.data with
        | .seq its _ => decide (o.cls = .type "tuple") && (decide (its.size ≤ sizeLine) && dataAll K its.toList ds)
        | _ => false)
      | none => false)
    | _ => false)
  | .list ds => (match v with
    | .ref a => (match K.lookup a with
      | some o => (match o.data with
        | .seq its _ => decide (o.cls = .type "list") && (o.dict.isNone && (decide (its.size ≤ sizeLine) && dataAll K its.toList ds))
        | _ => false)
      | none => false)
    | _ => false)
  | .dict _ => false
def dataAll (K : PySem.W.Frag) (vs : List Value) : List PyData → Bool
  | [] => vs.isEmpty
  | d :: ds => (match vs with
    | [] => false
    | v :: vs => dataB K v d && dataAll K vs ds)
end
mutual
theorem dataB_ok {K : PySem.W.Frag} : ∀ (d : PyData) (v : Value), dataB K v d = true → ∃ x, RelV x v ∧ ∀ F, Dp K F x d
  | .none, v, h => by
    unfold dataB at h
    split at h
    · exact ⟨.non, rfl, fun _ => .non⟩
    · cases h
  | .bool b, v, h => by
    unfold dataB at h
    split at h
    · have e := eq_of_beq h
      subst e
      exact ⟨.bl _, rfl, fun _ => .bl _⟩
    · cases h
  | .int i, v, h => by
    unfold dataB at h
    split at h
    · have e := of_decide_eq_true h
      subst e
      exact ⟨.int _, ⟨_, rfl⟩, fun _ => .int _⟩
    · cases h
  | .str x, v, h => by
    unfold dataB at h
    split at h
    · have e := of_decide_eq_true h
      subst e
      exact ⟨.str _, ⟨_, rfl⟩, fun _ => .str _⟩
    · cases h
  | .tuple ds, v, h => by
    unfold dataB at h
    split at h
    · rename_i a
      split at h
      · rename_i o ho
        split at h
        · rename_i its n hd
          simp only [Bool.and_eq_true, decide_eq_true_eq] at h
          obtain ⟨h1, h2, h3⟩ := h
          obtain ⟨xs, hv, hx⟩ := dataAll_ok ds its.toList h3
          exact ⟨.ref a, rfl, fun F => .tup (.inr ⟨o, its, n, ho, h1, hd, h2, hv⟩) (hx F)⟩
        · cases h
      · cases h
    · cases h
  | .list ds, v, h => by
    unfold dataB at h
    split at h
    · rename_i a
      split at h
      · rename_i o ho
        split at h
        · rename_i its n hd
          simp only [Bool.and_eq_true, decide_eq_true_eq, Option.isNone_iff_eq_none] at h
          obtain ⟨h1, h0, h2, h3⟩ := h
          obtain ⟨xs, hv, hx⟩ := dataAll_ok ds its.toList h3
          exact ⟨.ref a, rfl, fun F => .lst (.inr ⟨o, its, n, ho, h1, h0, hd, h2, hv⟩) (hx F)⟩
        · cases h
      · cases h
    · cases h
  | .dict _, v, h => by
    unfold dataB at h
    cases h
theorem dataAll_ok {K : PySem.W.Frag} : ∀ (ds : List PyData) (vs : List Value), dataAll K vs ds = true → ∃ xs, Vals xs vs ∧ ∀ F, DpAll K F xs ds
  | [], vs, h => by
    unfold dataAll at h
    cases vs with
    | nil => exact ⟨[], .nil, fun _ => .nil⟩
    | cons => cases h
  | d :: ds, vs, h => by
    unfold dataAll at h
    cases vs with
    | nil => cases h
    | cons v vs =>
      simp only [Bool.and_eq_true] at h
      obtain ⟨x, r, hx⟩ := dataB_ok d v h.1
      obtain ⟨xs, rs, hxs⟩ := dataAll_ok ds vs h.2
      exact ⟨x :: xs, .cons r rs, fun F => .cons (hx F) (hxs F)⟩
end
end TL
set_option Elab.async false
set_option linter.all false
set_option maxRecDepth 100000
set_option maxHeartbeats 1000000
namespace TL
open PySem PySem.Spec L2
theorem lt_irr : ∀ a : List Nat, ltCps a a = false
  | [] => rfl
  | x :: r => by simp [ltCps, lt_irr r]
theorem lt_tr : ∀ {a b c : List Nat}, ltCps a b = true → ltCps b c = true → ltCps a c = true
  | [], [], _, h, _ => by simp [ltCps] at h
  | [], _ :: _, [], _, h => by simp [ltCps] at h
  | [], _ :: _, _ :: _, _, _ => rfl
  | _ :: _, [], _, h, _ => by simp [ltCps] at h
  | x :: a, y :: b, [], _, h => by simp [ltCps] at h
  | x :: a, y :: b, z :: c, h1, h2 => by
    simp only [ltCps, Bool.or_eq_true, decide_eq_true_eq, Bool.and_eq_true, beq_iff_eq] at h1 h2 ⊢
    rcases h1 with h1 | ⟨h1, h1'⟩
    · rcases h2 with h2 | ⟨h2, h2'⟩
      · exact .inl (by omega)
      · exact .inl (by omega)
    · rcases h2 with h2 | ⟨h2, h2'⟩
      · exact .inl (by omega)
      · exact .inr ⟨by omega, lt_tr h1' h2'⟩
theorem lt_tri : ∀ {a b : List Nat}, ltCps a b = false → ltCps b a = false → a = b
  | [], [], _, _ => rfl
  | [], _ :: _, h, _ => by simp [ltCps] at h
  | _ :: _, [], _, h => by simp [ltCps] at h
  | x :: a, y :: b, h1, h2 => by
    simp only [ltCps, Bool.or_eq_false_iff, decide_eq_false_iff_not, Bool.and_eq_false_imp, beq_iff_eq] at h1 h2
    have e : x = y := by omega
    subst e
    rw [lt_tri (h1.2 rfl) (h2.2 rfl)]
def ltS (a b : Str) : Prop := ltCps a.cps.toList b.cps.toList = true
theorem str_ext {a b : Str} (h : a.cps.toList = b.cps.toList) : a = b := by
  obtain ⟨x⟩ := a
  obtain ⟨y⟩ := b
  congr
  exact Array.toList_inj.mp h
theorem ltS_irr (a : Str) : ¬ ltS a a := fun h => by
  unfold ltS at h
  rw [lt_irr] at h
  cases h
theorem ltS_tr {a b c : Str} (h : ltS a b) (k : ltS b c) : ltS a c := lt_tr h k
theorem ltS_tri {a b : Str} (h : ¬ ltS a b) (n : a ≠ b) : ltS b a := by
  unfold ltS at h ⊢
  cases e : ltCps b.cps.toList a.cps.toList with
  | true => rfl
  | false => exact absurd (str_ext (lt_tri (Bool.eq_false_iff.mpr h) e)) n
instance (a b : Str) : Decidable (ltS a b) := inferInstanceAs (Decidable (_ = true))
abbrev qT (r : Rat) : PyData := .tuple [.int r.num, .int r.den]
def tot : List (Str × Rat) → Str → Rat
  | [], _ => 0
  | e :: ps, k => (if e.1 = k then e.2 else 0) + tot ps k
theorem tot_app (k : Str) : ∀ ps qs : List (Str × Rat), tot (ps ++ qs) k = tot ps k + tot qs k
  | [], qs => by
    show tot qs k = 0 + tot qs k
    grind
  | e :: ps, qs => by
    show (if e.1 = k then e.2 else 0) + tot (ps ++ qs) k = (if e.1 = k then e.2 else 0) + tot ps k + tot qs k
    rw [tot_app k ps qs]
    grind
theorem tot_none {k : Str} : ∀ {ps : List (Str × Rat)}, k ∉ ps.map (·.1) → tot ps k = 0
  | [], _ => rfl
  | e :: ps, h => by
    simp only [List.map_cons, List.mem_cons, not_or] at h
    have n : ¬ e.1 = k := fun z => h.1 z.symm
    show (if e.1 = k then e.2 else 0) + tot ps k = 0
    rw [if_neg n, tot_none h.2]
    grind
structure TabOf (m : List (Str × PyData)) (ps : List (Str × Rat)) : Prop where
  nd : (m.map (·.1)).Nodup
  mem : ∀ k, k ∈ m.map (·.1) ↔ k ∈ ps.map (·.1)
  get : ∀ k, k ∈ ps.map (·.1) → getM m k = some (qT (tot ps k))
  len : m.length ≤ ps.length
theorem getM_none {m : List (Str × PyData)} {k : Str} (h : k ∉ m.map (·.1)) : getM m k = none := by
  unfold getM
  rw [List.find?_eq_none.mpr fun e he z => h (List.mem_map.mpr ⟨e, he, of_decide_eq_true z⟩)]
  rfl
theorem getM_put {m : List (Str × PyData)} {k j : Str} {d : PyData} : getM (putM m k d) j = if j = k then some d else getM m j := by
  unfold putM
  split
  · rename_i a
    induction m with
    | nil => cases a
    | cons e m ih =>
      rw [List.map_cons]
      by_cases h : e.1 = k
      · rw [if_pos h]
        by_cases q : j = k
        · subst q
          simp [getM, h]
        · have n : ¬ e.1 = j := fun z => q (z.symm.trans h)
          rw [if_neg q]
          have e1 : getM ((e.1, d) :: m.map fun e => if e.1 = k then (e.1, d) else e) j = getM (m.map fun e => if e.1 = k then (e.1, d) else e) j := by simp [getM, n]
          have e2 : getM (e :: m) j = getM m j := by simp [getM, n]
          rw [e1, e2]
          clear ih a
          induction m with
          | nil => rfl
          | cons f m ih =>
            rw [List.map_cons]
            by_cases h2 : f.1 = k
            · have n2 : ¬ f.1 = j := fun z => q (z.symm.trans h2)
              rw [if_pos h2]
              have e3 : getM ((f.1, d) :: m.map fun e => if e.1 = k then (e.1, d) else e) j = getM (m.map fun e => if e.1 = k then (e.1, d) else e) j := by simp [getM, n2]
              have e4 : getM (f :: m) j = getM m j := by simp [getM, n2]
              rw [e3, e4]
              exact ih (by simp [getM, n]) (by simp [getM, n])
            · rw [if_neg h2]
              by_cases h3 : f.1 = j
              · simp [getM, h3]
              · have e3 : getM (f :: m.map fun e => if e.1 = k then (e.1, d) else e) j = getM (m.map fun e => if e.1 = k then (e.1, d) else e) j := by simp [getM, h3]
                have e4 : getM (f :: m) j = getM m j := by simp [getM, h3]
                rw [e3, e4]
                exact ih (by simp [getM, n]) (by simp [getM, n])
      · have a' : (m.any fun e => decide (e.1 = k)) = true := by simpa [h] using a
        rw [if_neg h]
        have ih' := ih a'
        by_cases q : e.1 = j
        · have n : ¬ j = k := fun z => h (q.trans z)
          rw [if_neg n]
          simp [getM, q]
        · have e1 : getM (e :: m.map fun e => if e.1 = k then (e.1, d) else e) j = getM (m.map fun e => if e.1 = k then (e.1, d) else e) j := by simp [getM, q]
          have e2 : getM (e :: m) j = getM m j := by simp [getM, q]
          rw [e1, e2]
          exact ih'
  · rename_i a
    have no : ∀ e ∈ m, ¬ e.1 = k := fun e he z => a (List.any_eq_true.mpr ⟨e, he, decide_eq_true z⟩)
    unfold getM
    rw [List.find?_append]
    by_cases q : j = k
    · subst q
      rw [if_pos rfl, List.find?_eq_none.mpr fun e he z => no e he (of_decide_eq_true z)]
      simp
    · rw [if_neg q]
      have n : ¬ k = j := fun z => q z.symm
      cases f : m.find? fun e => decide (e.1 = j) with
      | none => simp [n]
      | some x => simp
theorem keys_put {m : List (Str × PyData)} {k : Str} {d : PyData} : (putM m k d).map (·.1) = if k ∈ m.map (·.1) then m.map (·.1) else m.map (·.1) ++ [k] := by
  unfold putM
  have c : (m.any fun e => decide (e.1 = k)) = decide (k ∈ m.map (·.1)) := by
    rw [Bool.eq_iff_iff, List.any_eq_true, decide_eq_true_eq, List.mem_map]
    constructor
    · rintro ⟨e, h1, h2⟩
      exact ⟨e, h1, of_decide_eq_true h2⟩
    · rintro ⟨e, h1, h2⟩
      exact ⟨e, h1, decide_eq_true h2⟩
  rw [c]
  by_cases h : k ∈ m.map (·.1)
  · rw [if_pos (decide_eq_true h), if_pos h, List.map_map]
    refine List.map_congr_left fun e _ => ?_
    show (if e.1 = k then (e.1, d) else e).1 = e.1
    split <;> rfl
  · rw [if_neg (by simpa using h), if_neg h, List.map_append]
    rfl
theorem TabOf.nil : TabOf [] [] := ⟨.nil, fun _ => Iff.rfl, fun _ h => absurd h List.not_mem_nil, Nat.le_refl _⟩
theorem TabOf.look {m : List (Str × PyData)} {ps : List (Str × Rat)} (h : TabOf m ps) (k : Str) : (getM m k).getD (qT 0) = qT (tot ps k) := by
  by_cases q : k ∈ ps.map (·.1)
  · rw [h.get k q]
    rfl
  · rw [getM_none (fun z => q ((h.mem k).mp z)), tot_none q]
    rfl
theorem TabOf.put {m : List (Str × PyData)} {ps : List (Str × Rat)} (h : TabOf m ps) (k : Str) (r : Rat) : TabOf (putM m k (qT (tot ps k + r))) (ps ++ [(k, r)]) where
  nd := by
    rw [keys_put]
    split
    · exact h.nd
    · rename_i n
      rw [List.nodup_append]
      refine ⟨h.nd, by simp, fun a ha b hb e => ?_⟩
      rw [List.mem_singleton] at hb
      subst hb
      subst e
      exact n ha
  mem := fun j => by
    rw [keys_put, List.map_append, List.mem_append]
    by_cases q : k ∈ m.map (·.1)
    · rw [if_pos q, h.mem j]
      constructor
      · exact .inl
      · rintro (z | z)
        · exact z
        · simp only [List.map_cons, List.map_nil, List.mem_singleton] at z
          subst z
          exact (h.mem _).mp q
    · rw [if_neg q, List.mem_append, h.mem j]
      rfl
  get := fun j hj => by
    rw [getM_put, tot_app]
    by_cases q : j = k
    · subst q
      rw [if_pos rfl]
      have : tot ps j + tot [(j, r)] j = tot ps j + r := by
        show tot ps j + ((if j = j then r else 0) + 0) = _
        rw [if_pos rfl]
        grind
      rw [this]
    · rw [if_neg q]
      have z : tot [(k, r)] j = 0 := by
        show (if k = j then r else 0) + 0 = 0
        rw [if_neg (fun e => q e.symm)]
        grind
      have z2 : tot ps j + tot [(k, r)] j = tot ps j := by rw [z]; grind
      rw [z2]
      rw [List.map_append, List.mem_append] at hj
      rcases hj with hj | hj
      · exact h.get j hj
      · simp only [List.map_cons, List.map_nil, List.mem_singleton] at hj
        exact absurd hj q
  len := by
    have : (putM m k (qT (tot ps k + r))).length ≤ m.length + 1 := by
      unfold putM
      split
      · rw [List.length_map]; omega
      · simp
    have := h.len
    simp only [List.length_append, List.length_cons, List.length_nil]
    omega
structure Sh (z : Str) : Prop where
  len : z.length ≤ 20
  ok : ∀ c ∈ z.cps.toList, c < 0x110000
theorem app_cps (x y : Str) : (x ++ y).cps.toList = x.cps.toList ++ y.cps.toList := by
  show (x.cps ++ y.cps).toList = _
  rw [Array.toList_append]
theorem We.ok.up {w : We} {n m : Nat} (h : w.ok n) (l : n ≤ m) : w.ok m := by
  rcases h with h | ⟨h1, h2, h3, h4⟩
  · exact .inl h
  · exact .inr ⟨h1, h2, h3, by omega⟩
section
variable {K : PySem.W.Frag} {G G1 G2 : Sto} {D0 D1 D2 D3 : Own} {te ta tb tx : TE} {tt : TT} {R Ra Rb : Ty} {F0 F1 : Hp} {E : Ends} {X : XK} {tl th : TO}
end
end TL
set_option Elab.async false
set_option linter.all false
set_option maxRecDepth 100000
set_option maxHeartbeats 1000000
namespace TL
open PySem PySem.Spec L2
def sc (ps : List (Str × Rat)) (r : Rat) : List (Str × Rat) := ps.map fun e => (e.1, e.2 * r)
section
variable {K : PySem.W.Frag} {G G1 G2 : Sto} {D0 D1 D2 D3 : Own} {te ta tb tx : TE} {tt : TT} {R Ra Rb : Ty} {F0 F1 : Hp} {E : Ends} {X : XK} {tl th : TO}
end
end TL
namespace TL
open PySem PySem.Spec L2
section
variable {K : PySem.W.Frag} {G G1 G2 : Sto} {D0 D1 D2 D3 : Own} {te ta tb tx : TE} {tt : TT} {R Ra Rb : Ty} {F0 F1 : Hp} {E : Ends}
end
end TL
set_option Elab.async false
set_option linter.all false
set_option maxRecDepth 100000
set_option maxHeartbeats 1000000
namespace TL
open PySem PySem.Spec L2
def OZ (K : PySem.W.Frag) (m : List (Str × PyData)) (od : Obj) (kvs : List (L2.Key × V)) : OTy := .fl (fun o F => o = .frz od (.dK kvs) ∧ EntP K F kvs m) (fun s ⟨e, h⟩ => ⟨e, h.mono s⟩)
section
variable {K : PySem.W.Frag} {G G1 G2 : Sto} {D0 D1 D2 D3 : Own} {te ta tb tx : TE} {tt : TT} {R Ra Rb : Ty} {F0 F1 : Hp} {E : Ends} {X : XK}
structure Opens (K : PySem.W.Frag) (E' E : Ends) (a : Addr) (m : List (Str × PyData)) (od : Obj) (kvs : List (L2.Key × V)) : Prop where
  nx : ∀ {F : Hp} {G : Sto} {D : Own} {k : Nat}, D[k]? = some (a, OZ K m od kvs) → Go E.nx F G (D.set k (a, OD K m)) → Go E'.nx F G D
  rt : ∀ {F : Hp} {R : Ty} {D : Own} {k : Nat}, D[k]? = some (a, OZ K m od kvs) → GoV E.rt F R (D.set k (a, OD K m)) → GoV E'.rt F R D
end
end TL
set_option Elab.async false
set_option linter.all false
set_option maxRecDepth 100000
set_option maxHeartbeats 1000000
namespace TL
open PySem PySem.Spec L2
end TL
set_option Elab.async false
set_option linter.all false
set_option maxRecDepth 100000
set_option maxHeartbeats 1000000
namespace TL
open PySem PySem.Spec L2 PyProof.Rows
def stepS (σ : List Str) (v : Str) : List Str := if σ.any (· == v) then σ else σ ++ [v]
def metS (xs : List Str) : Nat → List Str
  | 0 => []
  | n + 1 => stepS (metS xs n) (xs.getD n Str.empty)
theorem stepS_any (σ : List Str) (v k : Str) : (stepS σ v).any (· == k) = (σ.any (· == k) || decide (k = v)) := by
  unfold stepS
  split
  · rename_i h
    by_cases e : k = v
    · subst e
      simp [h]
    · simp [e]
  · rw [List.any_append]
    congr 1
    by_cases e : k = v
    · subst e; simp
    · have hb : (v == k) = false := by simpa [beq_iff_eq] using (fun h' : v = k => e h'.symm)
      simp [hb, e]
theorem stepS_len (σ : List Str) (v : Str) : (stepS σ v).length = if σ.any (· == v) then σ.length else σ.length + 1 := by
  unfold stepS; split <;> simp
theorem metS_le (xs : List Str) : ∀ n, (metS xs n).length ≤ n
  | 0 => Nat.le_refl _
  | n + 1 => by
    have ih := metS_le xs n
    show (stepS (metS xs n) _).length ≤ n + 1
    rw [stepS_len]
    split <;> omega
section
variable {prog : Program} {w : World} {A : Around} {R : Result → Shared → Prop} {I : Addr} {fp wr : List Addr} {G : Array GenState → Array GenState → Prop} {n : Nat} {P : Nat → Value → Prop} {St : Nat → Shared → Prop}
theorem loopS (W : WalksS prog w A.in1 I fp wr G n P St) (S : Addr) (hSf : S ∉ fp) (xs : List Str) (hsz : xs.length = n) (hb : n + 1 < scanBound)
    (hval : ∀ i v, P i v → ∃ t, v = .str (xs.getD i Str.empty) t) :
    ∀ (k i : Nat) (s : Shared), n - i = k → i ≤ n → St i s →
      s.heap.SetOf (PySem.strKind prog w) S (fun k' => (metS xs i).any (· == k')) (metS xs i).length →
      (∀ s', Moved (S :: wr) G s s' → s'.heap.SetOf (PySem.strKind prog w) S (fun k' => (metS xs n).any (· == k')) (metS xs n).length → R (.ok (.ret .none)) s') →
      codeAny (model prog w) A (.builtin "set.update.loop" ⟨[.ref S, .ref I], []⟩) R s := by
  have hSw : S ∉ wr := fun h => hSf (W.sub _ h)
  have hsub : ∀ b ∈ wr, b ∈ S :: wr := fun b hb => List.mem_cons_of_mem _ hb
  intro k
  induction k with
  | zero =>
    intro i s hk hi hst hS hR
    have hin : i = n := by omega
    subst hin
    refine codeAny_builtin PyProof.Rows.F.entry_set_update_loop ?_
    rw [Around.under_plainId PyProof.Rows.F.plain_set_update_loop _]
    show wpAny _ A.in1 (pyNext (.ref I) >>= _) _ _ s
    refine wpAny_bind (W.done s _ _ hst fun s' hm => ?_)
    show wpAny _ A.in1 (ret Value.none) _ _ s'
    exact wpAny_pure (hR s' (hm.mono hsub) (by
      obtain ⟨o, es, ep, t, ho, rest⟩ := hS
      exact ⟨o, es, ep, t, hm.heap S _ hSw ho, rest⟩))
  | succ k ih =>
    intro i s hk hi hst hS hR
    have hlt : i < n := by omega
    refine codeAny_builtin PyProof.Rows.F.entry_set_update_loop ?_
    rw [Around.under_plainId PyProof.Rows.F.plain_set_update_loop _]
    show wpAny _ A.in1 (pyNext (.ref I) >>= _) _ _ s
    refine wpAny_bind (W.item i s _ _ hlt hst fun v s' hP hst' hm => ?_)
    obtain ⟨t, rfl⟩ := hval i v hP
    have hS' : s'.heap.SetOf (PySem.strKind prog w) S (fun k' => (metS xs i).any (· == k')) (metS xs i).length := by
      obtain ⟨o, es, ep, tb, ho, rest⟩ := hS
      exact ⟨o, es, ep, tb, hm.heap S _ hSw ho, rest⟩
    show wpAny _ A.in1 (holding [Value.str (xs.getD i Str.empty) t] (setAdd S (.str (xs.getD i Str.empty) t)) >>= _) _ _ s'
    refine wpAny_bind (wpAny_holding ?_)
    unfold setAdd
    refine wpAny_holding ?_
    refine wpAny_bind ((PySem.strKind prog w).pyHash (k := xs.getD i Str.empty) (strKind_is _ _ _ _) ?_)
    have hroom : (metS xs i).length + 1 < scanBound := by have := metS_le xs i; omega
    refine wpAny_setAddHashed_of (knd := PySem.strKind prog w) (s := { s' with toks := s'.toks + 1 }) (strKind_is _ _ _ _) rfl hS' hroom fun h' hsb hS2 => ?_
    have hSi : h'.SetOf (PySem.strKind prog w) S (fun k' => (metS xs (i + 1)).any (· == k')) (metS xs (i + 1)).length :=
      SetOf_congr hS2 (fun k' => by show _ = (stepS _ _).any _; rw [stepS_any]) (by show _ = (stepS _ _).length; rw [stepS_len])
    refine wpAny_pure ⟨plainId_quiet PyProof.Rows.F.plain_set_update_loop _, ih (i + 1) _ (by omega) hlt (W.frame _ s' _ _ hst' (Nat.le_succ _) fun b hb o e => ?_) hSi fun s'' hm'' hS'' => ?_⟩
    · rw [hsb.2 b (fun h : b = S => hSf (by rw [← h]; exact hb))]; exact e
    · refine hR s'' (Moved.trans W.gtrans ((hm.mono hsub).then_heap (Nat.le_succ _) fun b o hb e => ?_) hm'') hS''
      rw [hsb.2 b (fun h : b = S => hb (by rw [h]; exact List.mem_cons_self))]; exact e
end
section
variable {prog : Program} {w : World} {A : Around} {E : Value → Shared → Prop} {s : Shared}
set_option maxHeartbeats 3200000 in
theorem call_set_listN {l : Addr} {items : Array Value} {xs : List Str} {Q : Value → Shared → Prop}
    (hh : A.handled = none) (hl : s.heap.IsList l items) (hi : PyProof.Rows.StrsAre items.toList xs) (hn1 : items.size + 1 < scanBound)
    (h : ∀ (h' : Heap) (tk : Nat), h'.SetOf (PySem.strKind prog w) s.heap.objs.size (fun k' => (metS xs items.size).any (· == k')) (metS xs items.size).length →
      (∀ b o, b < s.heap.objs.size → s.heap.get? b = some o → h'.get? b = some o) → Q (.ref s.heap.objs.size) { s with heap := h', toks := tk }) :
    wpAny (model prog w) A (call (.type "set") [.ref l]) Q E s := by
  obtain ⟨c, tl, hmro⟩ := PySem.F.called_set.mro
  have hmade := PySem.F.called_set.made
  have hsub := PySem.F.called_set.sub
  refine wpAny_call (codeAny_of_tree ?_)
  show wpAny _ _ (callAny (.type "set") _) _ _ _
  refine wpAny_pure ⟨Code.quiet_builtin _ (by decide +kernel), codeAny_builtin PySem.F.entry_type_call ?_⟩
  rw [Around.under_plain (weight_type_call_type "set" [.ref l] []) rfl]
  have h1 := PySem.F.called_set.notType
  have h2 := PySem.F.called_set.canCreate
  have hct := PySem.F.typeCall_set_1 (.ref l)
  repeat (any_goals (first | assumption | wp_step))
  refine codeAny_mono (code_set_new_1 (.ref l) (E := E) (Q₁ := fun obj s₁ => ∃ led : Bool, obj = .ref s.heap.objs.size ∧ s₁ = { s with heap := s.heap.push { cls := .type "set", dict := none, data := .set #[] 0 (.fresh 0 0 led) } }) fun led => ⟨led, rfl, rfl⟩) fun r s₁ hr => ?_
  cases r with
  | error e => exact hr
  | ok fl =>
    cases fl with
    | ret obj =>
      obtain ⟨led, rfl, rfl⟩ := hr
      have hS : (s.heap.push { cls := .type "set", dict := none, data := .set #[] 0 (.fresh 0 0 led) }).get? s.heap.objs.size = some { cls := .type "set", dict := none, data := .set #[] 0 (.fresh 0 0 led) } := Heap.get?_push_size _ rfl
      have hT : Shared.TypeIs { s with heap := s.heap.push { cls := .type "set", dict := none, data := .set #[] 0 (.fresh 0 0 led) } } (.ref s.heap.objs.size) "set" := ⟨_, hS, rfl⟩
      have hli := PySem.F.called_set.init.lookup
      have hbi := PySem.F.called_set.init.bind (.ref s.heap.objs.size)
      repeat (any_goals (first | assumption | wp_step))
      refine codeAny_mono (codeAny_call_builtin (R := wants (fun r s₂ => r = .none ∧ ∃ h' tk, s₂ = { s with heap := h', toks := tk } ∧
          h'.SetOf (PySem.strKind prog w) s.heap.objs.size (fun k' => (metS xs items.size).any (· == k')) (metS xs items.size).length ∧
          (∀ b o, b < s.heap.objs.size → s.heap.get? b = some o → h'.get? b = some o)) E) PySem.F.called_set.init.plain PySem.F.entry_set_init (check_set_init_1 hT ?_)) fun r₂ s₂ hr₂ => ?_
      · obtain ⟨ol, hol, hcl, nl, hdl⟩ := hl
        obtain ⟨ocls, odict, odata, oslots⟩ := ol
        simp only at hcl hdl
        subst hcl; subst hdl
        have hol' : (s.heap.push { cls := .type "set", dict := none, data := .set #[] 0 (.fresh 0 0 led) }).get? l = some { cls := .type "list", dict := odict, data := .seq items nl, slots := oslots } := Heap.get?_push_of_some _ hol
        have hsls := PySem.F.sub_list_set
        have hslf := PySem.F.sub_list_frozenset
        have hne : (Value.type "list" == Value.type "dict") = false := by decide
        have hl1 : (s.heap.push { cls := .type "set", dict := none, data := .set #[] 0 (.fresh 0 0 led) }).IsList l items := ⟨_, hol', rfl, nl, rfl⟩
        unfold Builtin.«set.__init__» noKeywords Builtin.Frozenset.updateFrom
        generalize hPI : pyIter = PI
        wp_walk
        subst hPI
        refine wpAny_pyIter_list hl1 ?_
        refine wpAny_bind (wpAny_runValue ?_)
        have hlS : l < s.heap.objs.size := Heap.lt_size hol
        have hh3 : A.in1.in1.in1.handled = none := by simp [hh]
        have hneI : l ≠ (s.heap.push { cls := .type "set", dict := none, data := .set #[] 0 (.fresh 0 0 led) }).objs.size := by
          rw [Heap.size_push]; exact Nat.ne_of_lt (Nat.lt_succ_of_lt hlS)
        have hSf : s.heap.objs.size ∉ [(s.heap.push { cls := .type "set", dict := none, data := .set #[] 0 (.fresh 0 0 led) }).objs.size, l] := by
          rw [Heap.size_push]; simp only [List.mem_cons, List.mem_singleton, List.not_mem_nil, or_false, not_or]
          exact ⟨Nat.ne_of_lt (Nat.lt_succ_self _), Nat.ne_of_gt hlS⟩
        have hsz : xs.length = items.size := by rw [← StrsAre.len_eq hi, Array.length_toList]
        have hval : ∀ (i : Nat) (v : Value), items[i]? = some v → ∃ t, v = .str (xs.getD i Str.empty) t := fun i v hv => SS.strs_at hi i v (by rw [Array.getElem?_toList]; exact hv)
        refine loopS ((Walks.list hh3 _ l hneI items).toS) s.heap.objs.size
          hSf xs hsz hn1 hval (items.size - 0) 0 _ (by omega) (Nat.zero_le _)
          ⟨⟨_, Heap.get?_push_size _ rfl, rfl, rfl⟩, (hl1.push _)⟩ ?hS0 ?hR
        case hS0 =>
          have hget : ((s.heap.push { cls := .type "set", dict := none, data := .set #[] 0 (.fresh 0 0 led) }).push { cls := .type "list_iterator", data := .fields #[.ref l, .int 0 0] }).get? s.heap.objs.size
              = some { cls := .type "set", dict := none, data := .set #[] 0 (.fresh 0 0 led) } := Heap.get?_push_of_some _ hS
          exact PyProof.Rows.SetOf_congr ((PyProof.Rows.setObjOf_fresh (knd := PySem.strKind prog w) led).setOf hget (by unfold scanBound; omega)) (fun _ => rfl) rfl
        case hR =>
          intro s' hm hS'
          obtain ⟨h', g', d', tk', os'⟩ := s'
          have eg : g' = s.gens := hm.gens
          have ed : d' = s.drawn := hm.drawn
          have eo : os' = s.os := hm.os
          subst eg; subst ed; subst eo
          show wpAny _ _ _ _ _ _
          refine wpAny_pure ?_
          show wpAny _ _ (ret Value.none) _ _ _
          refine wpAny_pure ⟨rfl, h', tk', rfl, hS', fun b o hb e => ?_⟩
          have hb1 : b ≠ s.heap.objs.size := Nat.ne_of_lt hb
          have hb2 : b ≠ (s.heap.push { cls := .type "set", dict := none, data := .set #[] 0 (.fresh 0 0 led) }).objs.size := by
            rw [Heap.size_push]; exact Nat.ne_of_lt (Nat.lt_succ_of_lt hb)
          exact hm.heap b o (by simp only [List.mem_cons, List.mem_singleton, List.not_mem_nil, or_false, not_or]; exact ⟨hb1, hb2⟩) (Heap.get?_push_of_some _ (Heap.get?_push_of_some _ e))
      · cases r₂ with
        | error e => exact hr₂
        | ok fl₂ =>
          cases fl₂ with
          | ret r =>
            obtain ⟨rfl, h', tk, rfl, hS', hk'⟩ := hr₂
            repeat (any_goals (first | assumption | wp_step))
            exact h _ _ hS' hk'
          | _ => exact hr₂.elim
    | _ => exact hr.elim
end
def tLenSetN (K : PySem.W.Frag) (ta : TE) : TE := fun σ H Q => ta σ H fun x H1 => ∃ l, ∃ xs : List Str, x = .ref l ∧ SqL K H1 l (xs.map V.str) ∧ xs.length + 1 < scanBound ∧ Q (.int (metS xs xs.length).length) H1
theorem pe_lenSetN {X : Cx} {a : Expr} {ta : TE} {p p2 q pos : Pos} (hc : X.calm = true) (hg : Gl X "len") (hm : X.mg "len" = none) (hg2 : Gl X "set") (hm2 : X.mg "set" = none) (ha : PE X a ta)
    (na : starEach [a] X.env = (false, eval a X.env) :: starEach [] X.env := by rfl) : PE X (.Call (.Name "len" p) [.Call (.Name "set" p2) [a] [] q] [] pos) (tLenSetN X.K ta) := by
  refine ⟨fun pins s σ H Q I h => ?_⟩
  refine Call_ (ld_blt I hg hm boot_len ?_)
  refine PyProof.Rows.callWith_builtin1 (PyProof.Rows.args_cons ?_ rfl) rfl rfl
  refine Call_ (ld_blt I hg2 hm2 boot_set ?_)
  refine PyProof.Rows.callWith_type1 (PyProof.Rows.args_cons (thn (ha.run pins s σ H _ I h) fun v s1 ⟨x, H1, I1, r1, q1⟩ => PyProof.Rows.args_nil ?_) na) na rfl
  obtain ⟨l, xs, rfl, hq, h1, q1⟩ := q1
  have h0 := h1
  cases r1
  obtain ⟨its, r, pl, hz⟩ := I1.list hq
  have hl : its.toArray.size = xs.length := by rw [List.size_toArray, ← r.length, List.length_map]
  refine call_set_listN (I1.ok.hd hc) pl.isList (by simpa using strsAre_of r) (by rw [hl]; exact h0) fun h' tk hS hk => ?_
  refine PyProof.Rows.args_nil ?_
  rw [hl] at hS
  have hle := metS_le xs xs.length
  obtain ⟨o, es, ep, t, ho, hex, hd, _, _, _, hf, hn⟩ := hS
  have I2 : Inv X pins σ H1 { s1 with heap := h', toks := tk } := I1.kept fun b o e => hk b o (Heap.lt_size e) e
  unfold scanBound at h1
  refine call_len_set ho hex hd hf (by rw [hn]; omega) ⟨.int (metS xs xs.length).length, H1, I2.tok _, ⟨_, by rw [hn]⟩, q1⟩
end TL
section
set_option Elab.async false
set_option linter.all false
set_option maxRecDepth 100000
set_option maxHeartbeats 1000000
namespace TL
open PySem PySem.Spec L2
def rCatS (K : PySem.W.Frag) : R2 := fun x y H Q => ∃ l b xs zs, x = .ref l ∧ y = .ref b ∧ SqL K H l xs ∧ SqL K H b zs ∧ xs.length + zs.length ≤ sizeLine ∧ ∀ p, H p = none → Q (.ref p) (upd H p (.lst (xs ++ zs)))
theorem op_catS {X : Cx} : OpR X (binaryOp .Add) (rCatS X.K) := by
  intro pins s σ H x y v u Q I rx ry h
  obtain ⟨l, b, xs, zs, rfl, rfl, hH, hB, hz, q⟩ := h
  cases rx
  cases ry
  obtain ⟨its, r, ⟨⟨cls, dd, data, sl⟩, n, ho, hc, hdn, hdt⟩, hlen⟩ := I.list hH
  obtain ⟨its2, r2, ⟨⟨cls2, dd2, data2, sl2⟩, n2, ho2, hc2, hdn2, hdt2⟩, hlen2⟩ := I.list hB
  simp only at hc hdt hc2 hdt2
  subst hc hdt hc2 hdt2
  have l1 := r.length
  have l2 := r2.length
  refine concat_meets ⟨_, ho, rfl⟩ ⟨_, ho2, rfl⟩ PySem.noFill_list_add PySem.seq_list_add PySem.F.slot_list_add PySem.F.entry_list_add (PySem.F.args_list_add_2 _ _) (PyProof.Rows.list_addW l b its.toArray its2.toArray n n2 dd dd2 sl sl2 (by simp; omega)) ⟨ho, ho2, ?_⟩
  have ea : its.toArray ++ its2.toArray = (its ++ its2).toArray := by simp
  rw [ea]
  exact ⟨.ref _, _, I.lnew (t' := s.toks) (r.append r2) (by rw [List.length_append]; omega), rfl, q _ I.fresh⟩
def rCatP (K : PySem.W.Frag) : R2 := fun x y H Q => ∃ a b xs ys, x = .ref a ∧ y = .ref b ∧ SqT K H a xs ∧ SqT K H b ys ∧ xs.length + ys.length ≤ sizeLine ∧
  (xs = [] → Q (.ref b) H) ∧ (ys = [] → xs ≠ [] → Q (.ref a) H) ∧ (ys ≠ [] → xs ≠ [] → ∀ p o, H p = none → o.dict = none → Q (.ref p) (upd H p (.frz o (.tup (xs ++ ys)))))
theorem op_catP {X : Cx} : OpR X (binaryOp .Add) (rCatP X.K) := by
  intro pins s σ H x y v u Q I rx ry h
  obtain ⟨a, b, xs, ys, ex, ey, ha, hb, hz, q0, q1, q2⟩ := h
  by_cases hx : xs = []
  · subst hx
    exact op_catN pins s σ H x y v u Q I rx ry ⟨a, b, ys, ex, ey, ha, hb, q0 rfl⟩
  · subst ex ey
    cases rx
    cases ry
    obtain ⟨its, r1, p1, _⟩ := I.tuple ha
    obtain ⟨its2, r2, p2, _⟩ := I.tuple hb
    refine HT.cat_tup p1 p2 (fun z => hx (r1.nil_iff.mp z)) (fun z => ⟨.ref a, H, I, rfl, q1 (r2.nil_iff.mp z) hx⟩) (fun z => ?_) (by rw [← r1.length, ← r2.length]; exact hz)
    refine ⟨.ref s.heap.objs.size, _, I.laid (t' := s.toks) (o := .frz { cls := .type "tuple", data := .seq (its ++ its2).toArray } (.tup (xs ++ ys))) (fun b ob q => Heap.get?_push_of_some _ q) (Nat.le_refl _) ?_, rfl, q2 (fun w => z (r2.nil_iff.mpr w)) hx _ _ (I.hok.fresh (Nat.le_refl _)) rfl⟩
    exact ⟨Heap.get?_push_size _ rfl, by rw [List.length_append]; exact hz, _, r1.append r2, PyProof.Rows.IsTup.new _ _⟩
def qAddS (K : PySem.W.Frag) : R2 := fun x y H Q => qAdd K x y H Q ∨ rCatS K x y H Q ∨ rCatP K x y H Q
theorem op_addV {X : Cx} : OpR X (binaryOp .Add) (qAddS X.K) := op_addU.or (op_catS.or op_catP)
end TL
end
section
set_option Elab.async false
set_option linter.all false
set_option maxRecDepth 100000
set_option maxHeartbeats 1000000
inductive Res (ε α : Type) where
  | ok (a : α)
  | err (n : PySem.Str) (e : ε)
  | stuck
namespace Res
variable {ε ε' α β γ σ ρ : Type}
def bind (m : Res ε α) (k : α → Res ε β) : Res ε β := match m with
  | .ok a => k a
  | .err n e => .err n e
  | .stuck => .stuck
def sat (m : Res ε α) (o : α → Prop) (r : PySem.Str → ε → Prop) : Prop := match m with
  | .ok a => o a
  | .err n e => r n e
  | .stuck => False
def mapE (g : ε → ε') (m : Res ε α) : Res ε' α := match m with
  | .ok a => .ok a
  | .err n e => .err n (g e)
  | .stuck => .stuck
def calm (m : Res Unit α) : Res ε' α := match m with
  | .ok a => .ok a
  | .err _ _ => .stuck
  | .stuck => .stuck
open Classical in
noncomputable def grd (c : Prop) (x : α) : Res ε α := if c then .ok x else .stuck
def opt (o : Option α) : Res ε α := match o with
  | some a => .ok a
  | none => .stuck
def loop (body : α → σ → (σ → Res ε ρ) → Res ε ρ) (k : σ → Res ε ρ) : List α → σ → Res ε ρ
  | [], s => k s
  | x :: xs, s => body x s (loop body k xs)
def wloop (body : σ → (σ → Res ε ρ) → Res ε ρ) : Nat → σ → Res ε ρ
  | 0, _ => .stuck
  | n + 1, s => body s (wloop body n)
@[simp] theorem bind_ok (a : α) (k : α → Res ε β) : bind (.ok a) k = k a := rfl
@[simp] theorem bind_err (n : PySem.Str) (e : ε) (k : α → Res ε β) : bind (.err n e) k = .err n e := rfl
@[simp] theorem bind_stuck (k : α → Res ε β) : bind .stuck k = .stuck := rfl
@[simp] theorem mapE_ok (g : ε → ε') (a : α) : mapE g (.ok a) = .ok a := rfl
@[simp] theorem mapE_err (g : ε → ε') (n : PySem.Str) (e : ε) : mapE g (.err n e : Res ε α) = .err n (g e) := rfl
@[simp] theorem calm_ok (a : α) : (calm (.ok a) : Res ε' α) = .ok a := rfl
theorem grd_t {c : Prop} {x : α} (h : c) : (grd c x : Res ε α) = .ok x := if_pos h
@[simp] theorem opt_some (a : α) : (opt (some a) : Res ε α) = .ok a := rfl
theorem sat_opt {x : Option α} {k : α → Res ε β} {o : β → Prop} {r : PySem.Str → ε → Prop} (h : (bind (opt x) k).sat o r) : ∃ a, x = some a ∧ (k a).sat o r := by
  cases x with
  | some a => exact ⟨a, rfl, h⟩
  | none => exact (show False from h).elim
theorem sat_bind {m : Res ε α} {k : α → Res ε β} {o : β → Prop} {r : PySem.Str → ε → Prop} : (bind m k).sat o r ↔ m.sat (fun a => (k a).sat o r) r := by
  cases m <;> exact Iff.rfl
theorem sat_mono {m : Res ε α} {o o' : α → Prop} {r r' : PySem.Str → ε → Prop} (h : m.sat o r) (f : ∀ a, o a → o' a) (g : ∀ n e, r n e → r' n e) : m.sat o' r' := by
  cases m with
  | ok a => exact f a h
  | err n e => exact g n e h
  | stuck => exact h
theorem sat_grd {c : Prop} {x : α} {k : α → Res ε β} {o : β → Prop} {r : PySem.Str → ε → Prop} (h : (bind (grd c x) k).sat o r) : c ∧ (k x).sat o r := by
  unfold grd at h
  split at h
  · rename_i hc
    exact ⟨hc, h⟩
  · exact (show False from h).elim
end Res
namespace TL
open PySem PySem.Spec L2
structure Wish (K : PySem.W.Frag) (ε ρ : Type) where
  X : L2.St → XK
  De : ε → Own
  o : Hp → ρ → Prop
  r : Hp → Str → ε → Prop
  cond : Sto → Prop
  upo : ∀ {F F' : Hp} {a : ρ}, Same F F' → o F a → o F' a
  upr : ∀ {F F' : Hp} {n : Str} {e : ε}, Same F F' → r F n e → r F' n e
  err : ∀ {F : Hp} {n : Str} {e : ε} {G : Sto}, r F n e → cond G → Go (fun σ H => X σ (.ref (He.ga K n)) none H) F G (De e)
def Wish.W {K : PySem.W.Frag} {ε ρ : Type} (w : Wish K ε ρ) (F : Hp) (m : Res ε ρ) : Prop := m.sat (w.o F) (w.r F)
theorem Wish.up {K : PySem.W.Frag} {ε ρ : Type} {w : Wish K ε ρ} {F F' : Hp} {m : Res ε ρ} (h : w.W F m) (s : Same F F') : w.W F' m := Res.sat_mono h (fun _ => w.upo s) (fun _ _ => w.upr s)
def EvC (K : PySem.W.Frag) {ε α β S : Type} (X : L2.St → XK) (De : ε → Own) (te : TE) (G : Sto) (Dd : S → Own) (s : S) (M : (α → S → Res ε β) → Res ε β) (R : α → Ty) : Prop :=
  ∀ (kk : α → S → Res ε β) (σ : L2.St) (H F : Hp), HS (Dd s) H F → SS F G σ → ∀ (o : β → Prop) (r : Str → ε → Prop) (Q : VK), (M kk).sat o r →
    (∀ x s' v H' F', Same F F' → HS (Dd s') H' F' → (R x).p v F' → (kk x s').sat o r → Q v H') → (∀ n e, r n e → ∀ H' F', Same F F' → HS (De e) H' F' → X σ (.ref (He.ga K n)) none H') → te σ H Q
def EvTC (K : PySem.W.Frag) {ε β S : Type} (X : L2.St → XK) (De : ε → Own) (tt : TT) (G : Sto) (Dd : S → Own) (s : S) (M : (Bool → S → Res ε β) → Res ε β) : Prop :=
  ∀ (kk : Bool → S → Res ε β) (σ : L2.St) (H F : Hp), HS (Dd s) H F → SS F G σ → ∀ (o : β → Prop) (r : Str → ε → Prop) (Q : Bool → Hp → Prop), (M kk).sat o r →
    (∀ x s' H' F', Same F F' → HS (Dd s') H' F' → (kk x s').sat o r → Q x H') → (∀ n e, r n e → ∀ H' F', Same F F' → HS (De e) H' F' → X σ (.ref (He.ga K n)) none H') → tt σ H Q
def EvNC (K : PySem.W.Frag) {ε α β S : Type} (X : L2.St → XK) (De : ε → Own) (te : TE) (G : Sto) (Dd : S → Own) (s : S) (M : (α → S → Res ε β) → Res ε β) (O : α → OTy) : Prop :=
  ∀ (kk : α → S → Res ε β) (σ : L2.St) (H F : Hp), HS (Dd s) H F → SS F G σ → ∀ (o : β → Prop) (r : Str → ε → Prop) (Q : VK), (M kk).sat o r →
    (∀ x s' p H' F', Same F F' → HS ((p, O x) :: Dd s') H' F' → (kk x s').sat o r → Q (.ref p) H') → (∀ n e, r n e → ∀ H' F', Same F F' → HS (De e) H' F' → X σ (.ref (He.ga K n)) none H') → te σ H Q
def EvAC (K : PySem.W.Frag) {ε τ β S : Type} (X : L2.St → XK) (De : ε → Own) (ta : TA) (G : Sto) (Dd : S → Own) (s : S) (M : (τ → S → Res ε β) → Res ε β) (Rs : τ → List Ty) : Prop :=
  ∀ (kk : τ → S → Res ε β) (σ : L2.St) (H F : Hp), HS (Dd s) H F → SS F G σ → ∀ (o : β → Prop) (r : Str → ε → Prop) (Q : List V → Hp → Prop), (M kk).sat o r →
    (∀ x s' vs H' F', Same F F' → HS (Dd s') H' F' → AllP F' (Rs x) vs → (kk x s').sat o r → Q vs H') → (∀ n e, r n e → ∀ H' F', Same F F' → HS (De e) H' F' → X σ (.ref (He.ga K n)) none H') → ta σ H Q
section
variable {K : PySem.W.Frag} {ε ε' ρ α β γ δ S τ : Type} {X : L2.St → XK} {De : ε → Own} {G G1 G2 : Sto} {Dd : S → Own} {s : S} {te ta tb tc : TE} {tt tu : TT} {F0 F1 : Hp} {E : Ends}
theorem evc_of {R : Ty} {x : α} {R' : α → Ty} (h : Ev te G (Dd s) R (Dd s)) (e : R' x = R) : EvC (β := β) K X De te G Dd s (fun kk => kk x s) R' := fun kk σ H F hs ss o r Q hm q _ =>
  h σ H F hs ss Q fun v H' F' s' hs' r' => q x s v H' F' s' hs' (by rw [e]; exact r') hm
theorem evtc_of {b : Bool} (h : EvT tt G (Dd s) b (Dd s)) : EvTC (β := β) K X De tt G Dd s (fun kk => kk b s) := fun kk σ H F hs ss o r Q hm q _ =>
  h σ H F hs ss Q fun H' F' s' hs' => q b s H' F' s' hs' hm
theorem evc_var {i : Nat} {R : α → Ty} (x : α) (h : G[i]? = some (some (R x))) : EvC (β := β) K X De (tVar i) G Dd s (fun kk => kk x s) R := evc_of (ev_var h) rfl
theorem evc_int {i : Int} : EvC (β := β) K X De (tC (.int i)) G Dd s (fun kk => kk i s) (fun i => DI K i) := evc_of ev_int rfl
theorem evc_bl {b : Bool} : EvC (β := β) K X De (tC (.bl b)) G Dd s (fun kk => kk b s) (fun b => DB K b) := evc_of ev_bl rfl
theorem evc_non : EvC (β := β) K X De (tC .non) G Dd s (fun kk => kk () s) (fun _ => DN K) := evc_of ev_non rfl
theorem evc2 {r : R2} {Ra : α → Ty} {Rb : β → Ty} {R : γ → Ty} {Ma : (α → S → Res ε δ) → Res ε δ} {Mb : S → (β → S → Res ε δ) → Res ε δ} {g : α → β → γ}
    (ha : EvC K X De ta G Dd s Ma Ra) (hb : ∀ s1, EvC K X De tb G Dd s1 (Mb s1) Rb)
    (hr : ∀ a b s2 x y H F, HS (Dd s2) H F → (Ra a).p x F → (Rb b).p y F → ∀ Q : VK, (∀ v H' F', Same F F' → HS (Dd s2) H' F' → (R (g a b)).p v F' → Q v H') → r x y H Q) :
    EvC K X De (tOp r ta tb) G Dd s (fun kk => Ma fun a s1 => Mb s1 fun b s2 => kk (g a b) s2) R := fun kk σ H F hs ss o r' Q hm q qe =>
  ha _ σ H F hs ss o r' _ hm (fun a s1 x H1 F1 t1 hs1 r1 hm1 => hb s1 _ σ H1 F1 hs1 (ss.mono t1) o r' _ hm1
    (fun b s2 y H2 F2 t2 hs2 r2 hm2 => hr a b s2 x y H2 F2 hs2 ((Ra a).mono t2 r1) r2 Q fun v H3 F3 t3 hs3 r3 => q _ s2 v H3 F3 ((t1.trans t2).trans t3) hs3 r3 hm2)
    (fun n e h H2 F2 t2 => qe n e h H2 F2 (t1.trans t2))) (fun n e h H1 F1 t1 => qe n e h H1 F1 t1)
theorem evc2g {r : R2} {Ra : α → Ty} {Rb : β → Ty} {R : γ → Ty} {Ma : (α → S → Res ε δ) → Res ε δ} {Mb : S → (β → S → Res ε δ) → Res ε δ} {g : α → β → γ} {C : α → β → Prop}
    (ha : EvC K X De ta G Dd s Ma Ra) (hb : ∀ s1, EvC K X De tb G Dd s1 (Mb s1) Rb)
    (hr : ∀ a b s2 x y H F, C a b → HS (Dd s2) H F → (Ra a).p x F → (Rb b).p y F → ∀ Q : VK, (∀ v H' F', Same F F' → HS (Dd s2) H' F' → (R (g a b)).p v F' → Q v H') → r x y H Q) :
    EvC K X De (tOp r ta tb) G Dd s (fun kk => Ma fun a s1 => Mb s1 fun b s2 => Res.bind (Res.grd (C a b) (g a b)) fun z => kk z s2) R := fun kk σ H F hs ss o r' Q hm q qe =>
  ha _ σ H F hs ss o r' _ hm (fun a s1 x H1 F1 t1 hs1 r1 hm1 => hb s1 _ σ H1 F1 hs1 (ss.mono t1) o r' _ hm1
    (fun b s2 y H2 F2 t2 hs2 r2 hm2 => hr a b s2 x y H2 F2 (Res.sat_grd hm2).1 hs2 ((Ra a).mono t2 r1) r2 Q fun v H3 F3 t3 hs3 r3 => q _ s2 v H3 F3 ((t1.trans t2).trans t3) hs3 r3 (Res.sat_grd hm2).2)
    (fun n e h H2 F2 t2 => qe n e h H2 F2 (t1.trans t2))) (fun n e h H1 F1 t1 => qe n e h H1 F1 t1)
theorem evc2o {r : R2} {Ra : α → Ty} {Rb : β → Ty} {R : γ → Ty} {Ma : (α → S → Res ε δ) → Res ε δ} {Mb : S → (β → S → Res ε δ) → Res ε δ} {g : α → β → Option γ}
    (ha : EvC K X De ta G Dd s Ma Ra) (hb : ∀ s1, EvC K X De tb G Dd s1 (Mb s1) Rb)
    (hr : ∀ a b c s2 x y H F, g a b = some c → HS (Dd s2) H F → (Ra a).p x F → (Rb b).p y F → ∀ Q : VK, (∀ v H' F', Same F F' → HS (Dd s2) H' F' → (R c).p v F' → Q v H') → r x y H Q) :
    EvC K X De (tOp r ta tb) G Dd s (fun kk => Ma fun a s1 => Mb s1 fun b s2 => Res.bind (Res.opt (g a b)) fun z => kk z s2) R := fun kk σ H F hs ss o r' Q hm q qe =>
  ha _ σ H F hs ss o r' _ hm (fun a s1 x H1 F1 t1 hs1 r1 hm1 => hb s1 _ σ H1 F1 hs1 (ss.mono t1) o r' _ hm1
    (fun b s2 y H2 F2 t2 hs2 r2 hm2 => by
      obtain ⟨c, e, hm3⟩ := Res.sat_opt hm2
      exact hr a b c s2 x y H2 F2 e hs2 ((Ra a).mono t2 r1) r2 Q fun v H3 F3 t3 hs3 r3 => q _ s2 v H3 F3 ((t1.trans t2).trans t3) hs3 r3 hm3)
    (fun n e h H2 F2 t2 => qe n e h H2 F2 (t1.trans t2))) (fun n e h H1 F1 t1 => qe n e h H1 F1 t1)
theorem evc1 {t : TE → TE} {Ra : α → Ty} {R : γ → Ty} {Ma : (α → S → Res ε δ) → Res ε δ} {g : α → γ} {r : V → Hp → VK → Prop}
    (ha : EvC K X De ta G Dd s Ma Ra)
    (hr : ∀ a s2 x H F, HS (Dd s2) H F → (Ra a).p x F → ∀ Q : VK, (∀ v H' F', Same F F' → HS (Dd s2) H' F' → (R (g a)).p v F' → Q v H') → r x H Q) :
    EvC K X De (tUn r ta) G Dd s (fun kk => Ma fun a s1 => kk (g a) s1) R := fun kk σ H F hs ss o r' Q hm q qe =>
  ha _ σ H F hs ss o r' _ hm (fun a s1 x H1 F1 t1 hs1 r1 hm1 => hr a s1 x H1 F1 hs1 r1 Q fun v H3 F3 t3 hs3 r3 => q _ s1 v H3 F3 (t1.trans t3) hs3 r3 hm1) (fun n e h H1 F1 t1 => qe n e h H1 F1 t1)
theorem evc_map {R : α → Ty} {R' : γ → Ty} {M : (α → S → Res ε β) → Res ε β} (f : α → γ) (h : EvC K X De te G Dd s M R) (e : ∀ x v F, (R x).p v F → (R' (f x)).p v F) : EvC K X De te G Dd s (fun kk => M fun x s' => kk (f x) s') R' := fun kk σ H F hs ss o r Q hm q qe =>
  h _ σ H F hs ss o r Q hm (fun x s' v H' F' t hs' r' hm' => q _ s' v H' F' t hs' (e x v F' r') hm') qe
theorem evac_nil : EvAC (β := β) K X De tNil G Dd s (fun kk => kk () s) (fun _ => []) := fun kk σ H F hs ss o r Q hm q _ => q () s [] H F (Same.refl _) hs .nil hm
theorem evac_cons {tr : TA} {R : α → Ty} {Rs : τ → List Ty} {Ma : (α → S → Res ε β) → Res ε β} {Mr : S → (τ → S → Res ε β) → Res ε β}
    (h : EvC K X De te G Dd s Ma R) (hr : ∀ s1, EvAC K X De tr G Dd s1 (Mr s1) Rs) : EvAC K X De (tCons te tr) G Dd s (fun kk => Ma fun a s1 => Mr s1 fun t s2 => kk (a, t) s2) (fun t => R t.1 :: Rs t.2) := fun kk σ H F hs ss o r Q hm q qe =>
  h _ σ H F hs ss o r _ hm (fun a s1 v H1 F1 t1 hs1 r1 hm1 => hr s1 _ σ H1 F1 hs1 (ss.mono t1) o r _ hm1
    (fun t s2 vs H2 F2 t2 hs2 r2 hm2 => q (a, t) s2 _ H2 F2 (t1.trans t2) hs2 (.cons ((R a).mono t2 r1) r2) hm2) (fun n e h H2 F2 t2 => qe n e h H2 F2 (t1.trans t2))) (fun n e h H1 F1 t1 => qe n e h H1 F1 t1)
theorem evc_CB {r : List V → Hp → VK → Prop} {t : TA} {Rs : τ → List Ty} {R : γ → Ty} {M : (τ → S → Res ε β) → Res ε β} {g : τ → γ} (h : EvAC K X De t G Dd s M Rs)
    (hr : ∀ a s2 vs H F, HS (Dd s2) H F → AllP F (Rs a) vs → ∀ Q : VK, (∀ v H' F', Same F F' → HS (Dd s2) H' F' → (R (g a)).p v F' → Q v H') → r vs H Q) : EvC K X De (tCB r t) G Dd s (fun kk => M fun a s1 => kk (g a) s1) R := fun kk σ H F hs ss o r' Q hm q qe =>
  h _ σ H F hs ss o r' _ hm (fun a s1 vs H1 F1 t1 hs1 r1 hm1 => hr a s1 vs H1 F1 hs1 r1 Q fun v H2 F2 t2 hs2 r2 => q _ s1 v H2 F2 (t1.trans t2) hs2 r2 hm1) qe
theorem evc_CBg {r : List V → Hp → VK → Prop} {t : TA} {Rs : τ → List Ty} {R : γ → Ty} {M : (τ → S → Res ε β) → Res ε β} {g : τ → γ} {C : τ → Prop} (h : EvAC K X De t G Dd s M Rs)
    (hr : ∀ a s2 vs H F, C a → HS (Dd s2) H F → AllP F (Rs a) vs → ∀ Q : VK, (∀ v H' F', Same F F' → HS (Dd s2) H' F' → (R (g a)).p v F' → Q v H') → r vs H Q) : EvC K X De (tCB r t) G Dd s (fun kk => M fun a s1 => Res.bind (Res.grd (C a) (g a)) fun z => kk z s1) R := fun kk σ H F hs ss o r' Q hm q qe =>
  h _ σ H F hs ss o r' _ hm (fun a s1 vs H1 F1 t1 hs1 r1 hm1 => hr a s1 vs H1 F1 (Res.sat_grd hm1).1 hs1 r1 Q fun v H2 F2 t2 hs2 r2 => q _ s1 v H2 F2 (t1.trans t2) hs2 r2 (Res.sat_grd hm1).2) qe
theorem evtc_test {M : (Bool → S → Res ε β) → Res ε β} (h : EvC K X De te G Dd s M (fun b => DB K b)) : EvTC K X De (tTest te) G Dd s M := fun kk σ H F hs ss o r Q hm q qe =>
  h kk σ H F hs ss o r _ hm (fun b s1 v H1 F1 t1 hs1 r1 hm1 => ⟨b, dp_bl r1, q b s1 H1 F1 t1 hs1 hm1⟩) qe
theorem evtc_B {M : (Bool → S → Res ε β) → Res ε β} (h : EvC K X De te G Dd s M (fun b => DB K b)) : EvTC K X De (tB te) G Dd s M := fun kk σ H F hs ss o r Q hm q qe =>
  h kk σ H F hs ss o r _ hm (fun b s1 v H1 F1 t1 hs1 r1 hm1 => ⟨b, dp_bl r1, q b s1 H1 F1 t1 hs1 hm1⟩) qe
theorem evtc_not {M : (Bool → S → Res ε β) → Res ε β} (h : EvTC K X De tt G Dd s M) : EvTC K X De (tNot tt) G Dd s (fun kk => M fun b s1 => kk (!b) s1) := fun kk σ H F hs ss o r Q hm q qe =>
  h _ σ H F hs ss o r _ hm (fun b s1 H1 F1 t1 hs1 hm1 => q _ s1 H1 F1 t1 hs1 hm1) qe
theorem evtc_or {b : S → Bool} {M : (Bool → S → Res ε β) → Res ε β} (h : EvTC K X De tt G Dd s M) (hb : ∀ s1, EvTC (β := β) K X De tu G Dd s1 (fun kk => kk (b s1) s1)) : EvTC K X De (tOr tt tu) G Dd s (fun kk => M fun a s1 => kk (a || b s1) s1) := fun kk σ H F hs ss o r Q hm q qe =>
  h _ σ H F hs ss o r _ hm (fun a s1 H1 F1 t1 hs1 hm1 => by
    cases a with
    | false => exact hb s1 (fun b s => kk (false || b) s) σ H1 F1 hs1 (ss.mono t1) o r _ hm1 (fun c s2 H2 F2 t2 hs2 hm2 => q c s2 H2 F2 (t1.trans t2) hs2 (by simpa using hm2)) (fun n e h H2 F2 t2 => qe n e h H2 F2 (t1.trans t2))
    | true => exact q true s1 H1 F1 t1 hs1 hm1) qe
theorem evtc_orM {M : (Bool → S → Res ε β) → Res ε β} {Mb : S → (Bool → S → Res ε (Bool × S)) → Res ε (Bool × S)} (h : EvTC K X De tt G Dd s M) (hb : ∀ s1, EvTC (β := Bool × S) K X De tu G Dd s1 (Mb s1)) :
    EvTC K X De (tOr tt tu) G Dd s (fun kk => M fun a s1 => Res.bind (if a = true then .ok (true, s1) else Mb s1 (fun b s => .ok (b, s))) fun t => kk t.1 t.2) := fun kk σ H F hs ss o r Q hm q qe =>
  h _ σ H F hs ss o r _ hm (fun a s1 H1 F1 t1 hs1 hm1 => by
    cases a with
    | false =>
      rw [if_neg (by decide), Res.sat_bind] at hm1
      exact hb s1 (fun b s => .ok (b, s)) σ H1 F1 hs1 (ss.mono t1) (fun t => (kk t.1 t.2).sat o r) r _ hm1 (fun c s2 H2 F2 t2 hs2 hm2 => q c s2 H2 F2 (t1.trans t2) hs2 hm2) (fun n e h H2 F2 t2 => qe n e h H2 F2 (t1.trans t2))
    | true => exact q true s1 H1 F1 t1 hs1 hm1) qe
theorem evc_notV {M : (Bool → S → Res ε β) → Res ε β} (h : EvC K X De te G Dd s M (fun b => DB K b)) : EvC K X De (tNotV te) G Dd s (fun kk => M fun b s1 => kk (!b) s1) (fun b => DB K b) := fun kk σ H F hs ss o r Q hm q qe =>
  h _ σ H F hs ss o r _ hm (fun b s1 v H1 F1 t1 hs1 r1 hm1 => ⟨b, dp_bl r1, q _ s1 _ H1 F1 t1 hs1 (.bl _) hm1⟩) qe
theorem evc_andV {b : S → Bool} {M : (Bool → S → Res ε β) → Res ε β} (h : EvC K X De ta G Dd s M (fun b => DB K b)) (hb : ∀ s1, EvC (β := β) K X De tb G Dd s1 (fun kk => kk (b s1) s1) (fun b => DB K b)) : EvC K X De (tAndV ta tb) G Dd s (fun kk => M fun a s1 => kk (a && b s1) s1) (fun b => DB K b) := fun kk σ H F hs ss o r Q hm q qe =>
  h _ σ H F hs ss o r _ hm (fun a s1 v H1 F1 t1 hs1 r1 hm1 => by
    refine ⟨a, dp_bl r1, ?_⟩
    cases a with
    | true => exact hb s1 (fun b s => kk (true && b) s) σ H1 F1 hs1 (ss.mono t1) o r _ hm1 (fun c s2 v2 H2 F2 t2 hs2 r2 hm2 => q c s2 v2 H2 F2 (t1.trans t2) hs2 r2 (by simpa using hm2)) (fun n e h H2 F2 t2 => qe n e h H2 F2 (t1.trans t2))
    | false => exact q false s1 _ H1 F1 t1 hs1 (.bl _) hm1) qe
theorem evc_orV {b : S → Bool} {M : (Bool → S → Res ε β) → Res ε β} (h : EvC K X De ta G Dd s M (fun b => DB K b)) (hb : ∀ s1, EvC (β := β) K X De tb G Dd s1 (fun kk => kk (b s1) s1) (fun b => DB K b)) : EvC K X De (tOrV ta tb) G Dd s (fun kk => M fun a s1 => kk (a || b s1) s1) (fun b => DB K b) := fun kk σ H F hs ss o r Q hm q qe =>
  h _ σ H F hs ss o r _ hm (fun a s1 v H1 F1 t1 hs1 r1 hm1 => by
    refine ⟨a, dp_bl r1, ?_⟩
    cases a with
    | false => exact hb s1 (fun b s => kk (false || b) s) σ H1 F1 hs1 (ss.mono t1) o r _ hm1 (fun c s2 v2 H2 F2 t2 hs2 r2 hm2 => q c s2 v2 H2 F2 (t1.trans t2) hs2 r2 (by simpa using hm2)) (fun n e h H2 F2 t2 => qe n e h H2 F2 (t1.trans t2))
    | true => exact q true s1 _ H1 F1 t1 hs1 (.bl _) hm1) qe
theorem evc_andVM {M : (Bool → S → Res ε β) → Res ε β} {Mb : S → (Bool → S → Res ε (Bool × S)) → Res ε (Bool × S)} (h : EvC K X De ta G Dd s M (fun b => DB K b)) (hb : ∀ s1, EvC (β := Bool × S) K X De tb G Dd s1 (Mb s1) (fun b => DB K b)) :
    EvC K X De (tAndV ta tb) G Dd s (fun kk => M fun a s1 => Res.bind (if a = true then Mb s1 (fun b s => .ok (b, s)) else .ok (false, s1)) fun t => kk t.1 t.2) (fun b => DB K b) := fun kk σ H F hs ss o r Q hm q qe =>
  h _ σ H F hs ss o r _ hm (fun a s1 v H1 F1 t1 hs1 r1 hm1 => by
    refine ⟨a, dp_bl r1, ?_⟩
    cases a with
    | true =>
      rw [if_pos rfl, Res.sat_bind] at hm1
      exact hb s1 (fun b s => .ok (b, s)) σ H1 F1 hs1 (ss.mono t1) (fun t => (kk t.1 t.2).sat o r) r _ hm1 (fun c s2 v2 H2 F2 t2 hs2 r2 hm2 => q c s2 v2 H2 F2 (t1.trans t2) hs2 r2 hm2) (fun n e h H2 F2 t2 => qe n e h H2 F2 (t1.trans t2))
    | false => exact q false s1 _ H1 F1 t1 hs1 (.bl _) hm1) qe
end
end TL
end
section
set_option Elab.async false
set_option linter.all false
set_option maxRecDepth 100000
set_option maxHeartbeats 1000000
namespace TL
open PySem PySem.Spec L2
def OLT {α : Type} (R : α → Ty) (xs : List α) : OTy := .fl (fun o F => ∃ vs, o = .lst vs ∧ AllP F (xs.map R) vs) (fun s ⟨vs, e, h⟩ => ⟨vs, e, h.mono s⟩)
def LT (K : PySem.W.Frag) {α : Type} (R : α → Ty) (xs : List α) : Ty := ⟨fun v F => ∃ a vs, v = .ref a ∧ SqL K F a vs ∧ AllP F (xs.map R) vs, fun s ⟨a, vs, e, h1, h2⟩ => ⟨a, vs, e, s.seq h1, h2.mono s⟩⟩
structure Tx where
  s : Str
  ok : PyData.canLay0 (.str s) = true
theorem Tx.ext' {a b : Tx} (h : a.s = b.s) : a = b := by cases a; cases b; cases h; rfl
instance : DecidableEq Tx := fun a b => if h : a.s = b.s then .isTrue (Tx.ext' h) else .isFalse fun e => h (by rw [e])
abbrev eI : Int → PyData := .int
abbrev eB : Bool → PyData := .bool
abbrev eS (t : Tx) : PyData := .str t.s
abbrev eU (_ : Unit) : PyData := .none
abbrev eQ (r : Rat) : PyData := .tuple [.int r.num, .int r.den]
abbrev eL {α : Type} (f : α → PyData) (xs : List α) : PyData := .list (xs.map f)
abbrev eV {α : Type} (f : α → PyData) (xs : List α) : PyData := .tuple (xs.map f)
abbrev e1 {α : Type} (f : α → PyData) (x : α) : PyData := .tuple [f x]
abbrev e2 {α β : Type} (f : α → PyData) (g : β → PyData) (x : α × β) : PyData := .tuple [f x.1, g x.2]
abbrev e3 {α β γ : Type} (f : α → PyData) (g : β → PyData) (h : γ → PyData) (x : α × β × γ) : PyData := .tuple [f x.1, g x.2.1, h x.2.2]
abbrev e4 {α β γ δ : Type} (f : α → PyData) (g : β → PyData) (h : γ → PyData) (i : δ → PyData) (x : α × β × γ × δ) : PyData := .tuple [f x.1, g x.2.1, h x.2.2.1, i x.2.2.2]
abbrev e5 {α β γ δ ζ : Type} (f : α → PyData) (g : β → PyData) (h : γ → PyData) (i : δ → PyData) (j : ζ → PyData) (x : α × β × γ × δ × ζ) : PyData := .tuple [f x.1, g x.2.1, h x.2.2.1, i x.2.2.2.1, j x.2.2.2.2]
abbrev tD (K : PySem.W.Frag) {α : Type} (e : α → PyData) (x : α) : Ty := TL.D K (e x)
theorem allP_map {K : PySem.W.Frag} {F : Hp} {α : Type} {e : α → PyData} {xs : List α} {vs : List V} (h : AllP F (xs.map (tD K e)) vs) : DpAll K F vs (xs.map e) := by
  have z : xs.map (tD K e) = (xs.map e).map (TL.D K) := by rw [List.map_map]; rfl
  rw [z] at h
  exact allP_dp h
theorem dp_allP {K : PySem.W.Frag} {F : Hp} : ∀ {ds : List PyData} {vs : List V}, DpAll K F vs ds → AllP F (ds.map (TL.D K)) vs
  | [], _, h => by cases h; exact .nil
  | d :: ds, _, h => by
    cases h with
    | cons h1 h2 => exact .cons h1 (dp_allP h2)
theorem map_allP {K : PySem.W.Frag} {F : Hp} {α : Type} {e : α → PyData} {xs : List α} {vs : List V} (h : DpAll K F vs (xs.map e)) : AllP F (xs.map (tD K e)) vs := by
  have z : xs.map (tD K e) = (xs.map e).map (TL.D K) := by rw [List.map_map]; rfl
  rw [z]
  exact dp_allP h
section
variable {K : PySem.W.Frag} {ε ε' ρ α β γ δ S τ σt ω : Type} {X : L2.St → XK} {De : ε → Own} {G G1 G2 : Sto} {D0 : Own} {Dd : S → Own} {s : S} {te ta tb tc : TE} {tt tu : TT} {F0 F1 : Hp} {E : Ends} {w : Wish K ε ρ}
structure Bor {Ω : Type} (Dp : Ω → Own) (k : Nat) (a : Addr) (O : ω → OTy) (gt : Ω → ω) (st : Ω → ω → Ω) : Prop where
  at_ : ∀ w, (Dp w)[k]? = some (a, O (gt w))
  set_ : ∀ w v, (Dp w).set k (a, O v) = Dp (st w v)
abbrev Bor1 (Dp : ω → Own) (k : Nat) (a : Addr) (O : ω → OTy) : Prop := Bor Dp k a O id (fun _ v => v)
theorem Bor.here {D : Own} {a : Addr} {O : ω → OTy} : Bor1 (fun w => (a, O w) :: D) 0 a O := ⟨fun _ => rfl, fun _ _ => rfl⟩
theorem Bor.cons {Dp : ω → Own} {k : Nat} {a : Addr} {O : ω → OTy} {c : Addr × OTy} (B : Bor1 Dp k a O) : Bor1 (fun w => c :: Dp w) (k + 1) a O :=
  ⟨fun w => by rw [List.getElem?_cons_succ]; exact B.at_ w, fun w v => by rw [List.set_cons_succ, B.set_ w v]⟩
theorem Bor.get1 {Dp : ω → Own} {k : Nat} {a : Addr} {O : ω → OTy} (B : Bor1 Dp k a O) (w : ω) : (Dp w)[k]? = some (a, O w) := B.at_ w
def dwish (K : PySem.W.Frag) (Xk : XK) (Q : VK) (out : ρ → Out) (Dr : ρ → Own) (De : ε → Own) : Wish K ε ρ where
  X := fun _ => Xk
  De := De
  o := fun F r => Post (out r) Q Xk F (Dr r)
  r := fun F n e => GoX Xk F (.ref (He.ga K n)) (De e)
  cond := fun _ => True
  upo := fun s h => h.up s
  upr := fun s h => GoX.up h s
  err := fun h _ σ H F s hs _ => h H F s hs
theorem GoN.drop {P : VK} {O : OTy} {D1 D0 : Own} {F0 : Hp} (h : GoN P F0 O D1) (s : D1.Sublist D0) : GoN P F0 O D0 := fun p H F s1 hs => h p H F s1 (hs.drop (s.cons₂ _))
theorem go_asgC {i : Nat} {g : TG} {M : (α → Unit → Res ε ρ) → Res ε ρ} {R : α → Ty} {Gx : α → Sto} {kk : α → Res ε ρ} (h : EvC K w.X w.De te G (fun _ : Unit => D0) () M R) (hg : ∀ x, EvG g G (R x) (Gx x))
    {m : Res ε ρ} (hP : w.W F0 m) (q : ∀ x, w.W F0 (kk x) → Go E.nx F0 (Gx x) D0) (c : w.cond G := by first | exact trivial | walk_at "cond") (hm : m = (M fun v _ => Res.bind (.ok v) kk) := by exact rfl) : Go (tAsg te g E) F0 G D0 := by subst hm; exact (fun σ H F t hs ss =>
  h _ σ H F hs ss _ _ _ hP (fun x _ v H1 F1 t1 hs1 r1 hm => hg x v σ H1 F1 D0 hs1 (ss.mono t1) r1 _ fun σ' ss' => q x hm σ' H1 F1 (t.trans t1) hs1 ss') (fun n e hr H1 F1 t1 hs1 => w.err hr c σ H1 F1 (t.trans t1) hs1 (ss.mono t1)))
theorem go_setC {i : Nat} {M : (α → Unit → Res ε ρ) → Res ε ρ} {R : α → Ty} {kk : α → Res ε ρ} (h : EvC K w.X w.De te G (fun _ : Unit => D0) () M R)
    {m : Res ε ρ} (hP : w.W F0 m) (q : ∀ x, w.W F0 (kk x) → Go E.nx F0 (G.set i (some (R x))) D0) (c : w.cond G := by first | exact trivial | walk_at "cond") (hm : m = (M fun v _ => Res.bind (.ok v) kk) := by exact rfl) : Go (tAsg te (gName i) E) F0 G D0 := go_asgC (i := i) h (fun _ => evG_name) hP q c hm
theorem go_asgCS {g : TG} {M : (α → S → Res ε ρ) → Res ε ρ} {R : α → Ty} {Gx : α → Sto} {kk : α × S → Res ε ρ} (h : EvC K w.X w.De te G Dd s M R) (hg : ∀ x, EvG g G (R x) (Gx x))
    {m : Res ε ρ} (hP : w.W F0 m) (q : ∀ x, w.W F0 (kk x) → Go E.nx F0 (Gx x.1) (Dd x.2)) (c : w.cond G := by first | exact trivial | walk_at "cond") (hm : m = (M fun v s' => Res.bind (.ok (v, s')) kk) := by exact rfl) : Go (tAsg te g E) F0 G (Dd s) := by subst hm; exact (fun σ H F t hs ss =>
  h _ σ H F hs ss _ _ _ hP (fun x s' v H1 F1 t1 hs1 r1 hm => hg x v σ H1 F1 _ hs1 (ss.mono t1) r1 _ fun σ' ss' => q (x, s') hm σ' H1 F1 (t.trans t1) hs1 ss') (fun n e hr H1 F1 t1 hs1 => w.err hr c σ H1 F1 (t.trans t1) hs1 (ss.mono t1)))
theorem go_setCS {i : Nat} {M : (α → S → Res ε ρ) → Res ε ρ} {R : α → Ty} {kk : α × S → Res ε ρ} (h : EvC K w.X w.De te G Dd s M R)
    {m : Res ε ρ} (hP : w.W F0 m) (q : ∀ x, w.W F0 (kk x) → Go E.nx F0 (G.set i (some (R x.1))) (Dd x.2)) (c : w.cond G := by first | exact trivial | walk_at "cond") (hm : m = (M fun v s' => Res.bind (.ok (v, s')) kk) := by exact rfl) : Go (tAsg te (gName i) E) F0 G (Dd s) := go_asgCS h (fun _ => evG_name) hP q c hm
theorem go_setNC {i : Nat} {M : (α → Unit → Res ε ρ) → Res ε ρ} {O : α → OTy} {kk : α → Res ε ρ} (h : EvNC K w.X w.De te G (fun _ : Unit => D0) () M O)
    {m : Res ε ρ} (hP : w.W F0 m) (q : ∀ x p, w.W F0 (kk x) → Go E.nx F0 (G.set i (some (Is (.ref p)))) ((p, O x) :: D0)) (c : w.cond G := by first | exact trivial | walk_at "cond") (hm : m = (M fun v _ => Res.bind (.ok v) kk) := by exact rfl) : Go (tAsg te (gName i) E) F0 G D0 := by subst hm; exact (fun σ H F t hs ss =>
  h _ σ H F hs ss _ _ _ hP (fun x _ p H1 F1 t1 hs1 hm => q x p hm _ H1 F1 (t.trans t1) hs1 ((ss.mono t1).set (R := Is (.ref p)) rfl i)) (fun n e hr H1 F1 t1 hs1 => w.err hr c σ H1 F1 (t.trans t1) hs1 (ss.mono t1)))
theorem go_setNCS {i : Nat} {M : (α → S → Res ε ρ) → Res ε ρ} {O : α → OTy} {kk : α × S → Res ε ρ} (h : EvNC K w.X w.De te G Dd s M O)
    {m : Res ε ρ} (hP : w.W F0 m) (q : ∀ x p, w.W F0 (kk x) → Go E.nx F0 (G.set i (some (Is (.ref p)))) ((p, O x.1) :: Dd x.2)) (c : w.cond G := by first | exact trivial | walk_at "cond") (hm : m = (M fun v s' => Res.bind (.ok (v, s')) kk) := by exact rfl) : Go (tAsg te (gName i) E) F0 G (Dd s) := by subst hm; exact (fun σ H F t hs ss =>
  h _ σ H F hs ss _ _ _ hP (fun x s' p H1 F1 t1 hs1 hm => q (x, s') p hm _ H1 F1 (t.trans t1) hs1 ((ss.mono t1).set (R := Is (.ref p)) rfl i)) (fun n e hr H1 F1 t1 hs1 => w.err hr c σ H1 F1 (t.trans t1) hs1 (ss.mono t1)))
theorem go_dropC {M : (α → Unit → Res ε ρ) → Res ε ρ} {R : α → Ty} {kk : α → Res ε ρ} (h : EvC K w.X w.De te G (fun _ : Unit => D0) () M R)
    {m : Res ε ρ} (hP : w.W F0 m) (q : ∀ x, w.W F0 (kk x) → Go E.nx F0 G D0) (c : w.cond G := by first | exact trivial | walk_at "cond") (hm : m = (M fun v _ => Res.bind (.ok v) kk) := by exact rfl) : Go (tDrop te E) F0 G D0 := by subst hm; exact (fun σ H F t hs ss =>
  h _ σ H F hs ss _ _ _ hP (fun x _ v H1 F1 t1 hs1 r1 hm => q x hm σ H1 F1 (t.trans t1) hs1 (ss.mono t1)) (fun n e hr H1 F1 t1 hs1 => w.err hr c σ H1 F1 (t.trans t1) hs1 (ss.mono t1)))
theorem go_retC {M : (α → S → Res ε ρ) → Res ε ρ} {R : α → Ty} (f : α → S → ρ) (h : EvC K w.X w.De te G Dd s M R)
    {m : Res ε ρ} (hP : w.W F0 m) (hr : ∀ F v s', w.o F (f v s') → GoV E.rt F (R v) (Dd s')) (c : w.cond G := by first | exact trivial | walk_at "cond") (hm : m = (M fun v s' => .ok (f v s')) := by exact rfl) : Go (tRet te E) F0 G (Dd s) := by subst hm; exact (fun σ H F t hs ss =>
  h _ σ H F hs ss _ _ _ hP (fun x s' v H1 F1 t1 hs1 r1 hm => hr F0 x s' hm v H1 F1 (t.trans t1) hs1 r1) (fun n e hr H1 F1 t1 hs1 => w.err hr c σ H1 F1 (t.trans t1) hs1 (ss.mono t1)))
theorem go_retNC {M : (α → S → Res ε ρ) → Res ε ρ} {O : α → OTy} (f : α → S → ρ) (h : EvNC K w.X w.De te G Dd s M O)
    {m : Res ε ρ} (hP : w.W F0 m) (hr : ∀ F v s', w.o F (f v s') → GoN E.rt F (O v) (Dd s')) (c : w.cond G := by first | exact trivial | walk_at "cond") (hm : m = (M fun v s' => .ok (f v s')) := by exact rfl) : Go (tRet te E) F0 G (Dd s) := by subst hm; exact (fun σ H F t hs ss =>
  h _ σ H F hs ss _ _ _ hP (fun x s' p H1 F1 t1 hs1 hm => hr F0 x s' hm p H1 F1 (t.trans t1) hs1) (fun n e hr H1 F1 t1 hs1 => w.err hr c σ H1 F1 (t.trans t1) hs1 (ss.mono t1)))
theorem go_ifC {t u : TS} {M : (Bool → Unit → Res ε ρ) → Res ε ρ} {mA mB : Res ε ρ} (h : EvTC K w.X w.De tt G (fun _ : Unit => D0) () M) {m : Res ε ρ} (hP : w.W F0 m)
    (h1 : w.W F0 mA → Go (t E) F0 G D0) (h2 : w.W F0 mB → Go (u E) F0 G D0) (c : w.cond G := by first | exact trivial | walk_at "cond") (hm : m = (M fun b _ => if b = true then mA else mB) := by exact rfl) : Go (tIfS tt t u E) F0 G D0 := by subst hm; exact (fun σ H F t hs ss =>
  h _ σ H F hs ss _ _ _ hP (fun b _ H1 F1 t1 hs1 hm => by
    cases b with
    | true => exact h1 hm σ H1 F1 (t.trans t1) hs1 (ss.mono t1)
    | false => exact h2 hm σ H1 F1 (t.trans t1) hs1 (ss.mono t1)) (fun n e hr H1 F1 t1 hs1 => w.err hr c σ H1 F1 (t.trans t1) hs1 (ss.mono t1)))
theorem go_ifCS {t u : TS} {M : (Bool → S → Res ε ρ) → Res ε ρ} {mA mB : S → Res ε ρ} (h : EvTC K w.X w.De tt G Dd s M) {m : Res ε ρ} (hP : w.W F0 m)
    (h1 : ∀ s', w.W F0 (mA s') → Go (t E) F0 G (Dd s')) (h2 : ∀ s', w.W F0 (mB s') → Go (u E) F0 G (Dd s')) (c : w.cond G := by first | exact trivial | walk_at "cond") (hm : m = (M fun b s' => Res.bind (.ok s') fun s' => if b = true then mA s' else mB s') := by exact rfl) : Go (tIfS tt t u E) F0 G (Dd s) := by subst hm; exact (fun σ H F t hs ss =>
  h _ σ H F hs ss _ _ _ hP (fun b s' H1 F1 t1 hs1 hm => by
    cases b with
    | true => exact h1 s' hm σ H1 F1 (t.trans t1) hs1 (ss.mono t1)
    | false => exact h2 s' hm σ H1 F1 (t.trans t1) hs1 (ss.mono t1)) (fun n e hr H1 F1 t1 hs1 => w.err hr c σ H1 F1 (t.trans t1) hs1 (ss.mono t1)))
theorem go_raiseC {Xk : XK} {n : Str} {e : ε} (hx : w.X = fun _ => Xk) (hP : w.W F0 (.err n e)) (hd : (w.De e).Sublist D0) (c : w.cond G := by first | exact trivial | walk_at "cond") : Go (tRaiseX (He.ga K n) Xk E) F0 G D0 := fun σ H F t hs ss => by
  have z := w.err hP c σ H F t (hs.drop hd) ss
  rw [hx] at z
  exact z
theorem go_parC {i j : Nat} {t : TA} {Ra : α → Ty} {Rb : β → Ty} {M : ((α × β × Unit) → Unit → Res ε ρ) → Res ε ρ} {kk : α × β → Res ε ρ} (h : EvAC K w.X w.De t G (fun _ : Unit => D0) () M (fun t => Ra t.1 :: Rb t.2.1 :: []))
    {m : Res ε ρ} (hP : w.W F0 m) (q : ∀ x, w.W F0 (kk x) → Go E.nx F0 ((G.set i (some (Ra x.1))).set j (some (Rb x.2))) D0) (c : w.cond G := by first | exact trivial | walk_at "cond") (hm : m = (M fun v _ => Res.bind (.ok (v.1, v.2.1)) kk) := by exact rfl) : Go (tPar i j t E) F0 G D0 := by subst hm; exact (fun σ H F t hs ss =>
  h _ σ H F hs ss _ _ _ hP (fun x _ vs H1 F1 t1 hs1 r1 hm => by
    obtain ⟨v, w', rfl, r2, r3⟩ := allP2 r1
    exact ⟨v, w', rfl, q (x.1, x.2.1) hm _ H1 F1 (t.trans t1) hs1 (((ss.mono t1).set r2 i).set r3 j)⟩) (fun n e hr H1 F1 t1 hs1 => w.err hr c σ H1 F1 (t.trans t1) hs1 (ss.mono t1)))
def ItOkT (J : It) (cnd : Own → Prop) (Rs : List Ty) (F0 : Hp) : Prop := ∀ (D : Own) (H F : Hp), cnd D → Same F0 F → HS D H F → ∀ i : Nat,
  (∀ R, Rs[i]? = some R → J.go i H ∧ ∀ x H', J.yld i H x H' → ∃ F2, Same F F2 ∧ HS D H' F2 ∧ R.p x F2) ∧ (Rs.length ≤ i → J.stop i H)
def EvItC (K : PySem.W.Frag) {ε α β S : Type} (X : L2.St → XK) (De : ε → Own) (wi : TI) (G : Sto) (Dd : S → Own) (s : S) (cnd : Own → Prop) (M : (List α → S → Res ε β) → Res ε β) (R : α → Ty) : Prop :=
  ∀ (kk : List α → S → Res ε β) (σ : L2.St) (H F : Hp), HS (Dd s) H F → SS F G σ → ∀ (o : β → Prop) (r : Str → ε → Prop) (Q : It → Hp → Prop), (M kk).sat o r →
    (∀ xs s' J H' F', Same F F' → HS (Dd s') H' F' → ItOkT J cnd (xs.map R) F' → (kk xs s').sat o r → Q J H') → (∀ n e, r n e → ∀ H' F', Same F F' → HS (De e) H' F' → X σ (.ref (He.ga K n)) none H') → wi σ H Q
theorem itOkT_of {J : It} {ds : List PyData} {F : Hp} (h : ItOk K J ds F) : ItOkT J (fun _ => True) (ds.map (TL.D K)) F := fun D H F1 _ s hs i => by
  obtain ⟨h1, h2⟩ := h D H F1 s hs i
  refine ⟨fun R e => ?_, fun l => h2 (by simpa using l)⟩
  rw [List.getElem?_map] at e
  cases q : ds[i]? with
  | none => rw [q] at e; cases e
  | some d =>
    rw [q] at e
    cases e
    exact h1 d q
theorem go_forC {wi : TI} {g : TG} {tb : TS} {cnd : Own → Prop} {R : α → Ty} {M : (List α → Unit → Res ε ρ) → Res ε ρ} {body : α → σt → (σt → Res ε ρ) → Res ε ρ} {k : σt → Res ε ρ}
    (hi : EvItC K w.X w.De wi G (fun _ : Unit => D0) () cnd M R) (Gs : σt → Sto) (Ds : σt → Own) (s0 : σt) (Gx : σt → α → Sto) {m : Res ε ρ} (hP : w.W F0 m)
    (w0 : SLe G (Gs s0)) (d0 : (Ds s0).Sublist D0) (cm : ∀ s, cnd (Ds s)) (hg : ∀ s x, EvG g (Gs s) (R x) (Gx s x))
    (done : ∀ F1, Same F0 F1 → ∀ s, w.W F1 (k s) → Go E.nx F1 (Gs s) (Ds s))
    (step : (∀ F1, Same F0 F1 → ∀ s, w.W F1 (k s) → Go E.nx F1 (Gs s) (Ds s)) → ∀ F1, Same F0 F1 → ∀ x s nx (Nx : L2.St → Hp → Prop), (∀ F2, Same F1 F2 → ∀ s', w.W F2 (nx s') → Go Nx F2 (Gs s') (Ds s')) → w.W F1 (body x s nx) → Go (tb { E with nx := Nx, ct := Nx, bk := E.nx }) F1 (Gx s x) (Ds s)) (c : w.cond G := by first | exact trivial | walk_at "cond") (hm : m = (M fun xs _ => Res.loop body k xs s0) := by exact rfl) :
    Go (tFor wi g tb E) F0 G D0 := by subst hm; exact (fun σ H F t hs ss =>
  hi _ σ H F hs ss _ _ _ hP (fun xs _ J H1 F1 t1 hs1 ok hm => by
    have hm1 : w.W F1 (Res.loop body k xs s0) := Wish.up (w := w) hm (t.trans t1)
    refine ⟨fun i m σ H => m = xs.length - i ∧ i ≤ xs.length ∧ ∃ F', Same F1 F' ∧ ∃ x, w.W F' (Res.loop body k (xs.drop i) x) ∧ StP F' (Gs x) (Ds x) σ H, ⟨xs.length, by simp, Nat.zero_le _, F1, Same.refl _, s0, hm1, F1, Same.refl _, hs1.drop d0, (ss.mono t1).weak w0⟩, ?_⟩
    rintro i m σ2 H2 ⟨rfl, hle, F', t', x, hx, F2, t2, hs2, ss2⟩
    by_cases hlt : i < xs.length
    · obtain ⟨go, yl⟩ := (ok (Ds x) H2 F2 (cm x) (t'.trans t2) hs2 i).1 (R xs[i]) (by rw [List.getElem?_map, List.getElem?_eq_getElem hlt]; rfl)
      rw [List.drop_eq_getElem_cons hlt] at hx
      refine .inr ⟨go, fun σ' H' => ∃ F3, Same F' F3 ∧ ∃ x', w.W F3 (Res.loop body k (xs.drop (i + 1)) x') ∧ StP F3 (Gs x') (Ds x') σ' H', fun σ' H' ⟨F3, t3, p⟩ => ⟨xs.length - (i + 1), by omega, rfl, hlt, F3, t'.trans t3, p⟩, fun v H3 hy => ?_⟩
      obtain ⟨F3, t3, hs3, r3⟩ := yl v H3 hy
      exact hg x _ v σ2 H3 F3 (Ds x) hs3 (ss2.mono t3) r3 _ fun σ4 ss4 => step done F' ((t.trans t1).trans t') _ x _ _ (fun F5 t5 s' hs' σ5 H5 F6 t6 hs5 ss5 => ⟨F5, t5, s', hs', F6, t6, hs5, ss5⟩) hx σ4 H3 F3 (t2.trans t3) hs3 ss4
    · have e : i = xs.length := by omega
      subst e
      rw [List.drop_length] at hx
      exact .inl ⟨(ok (Ds x) H2 F2 (cm x) (t'.trans t2) hs2 _).2 (by simp), done F' ((t.trans t1).trans t') x hx σ2 H2 F2 t2 hs2 ss2⟩) (fun n e hr H1 F1 t1 hs1 => w.err hr c σ H1 F1 (t.trans t1) hs1 (ss.mono t1)))
theorem go_forCS {wi : TI} {g : TG} {tb : TS} {cnd : Own → Prop} {R : α → Ty} {M : (List α → S → Res ε ρ) → Res ε ρ} {body : α → σt → (σt → Res ε ρ) → Res ε ρ} {k : σt → Res ε ρ}
    (hi : EvItC K w.X w.De wi G Dd s cnd M R) (Gs : σt → Sto) (Ds : σt → Own) (s0 : S → σt) (Gx : σt → α → Sto) {m : Res ε ρ} (hP : w.W F0 m)
    (w0 : ∀ s', SLe G (Gs (s0 s'))) (d0 : ∀ s', (Ds (s0 s')).Sublist (Dd s')) (cm : ∀ s, cnd (Ds s)) (hg : ∀ s x, EvG g (Gs s) (R x) (Gx s x))
    (done : ∀ F1, Same F0 F1 → ∀ s, w.W F1 (k s) → Go E.nx F1 (Gs s) (Ds s))
    (step : (∀ F1, Same F0 F1 → ∀ s, w.W F1 (k s) → Go E.nx F1 (Gs s) (Ds s)) → ∀ F1, Same F0 F1 → ∀ x s nx (Nx : L2.St → Hp → Prop), (∀ F2, Same F1 F2 → ∀ s', w.W F2 (nx s') → Go Nx F2 (Gs s') (Ds s')) → w.W F1 (body x s nx) → Go (tb { E with nx := Nx, ct := Nx, bk := E.nx }) F1 (Gx s x) (Ds s)) (c : w.cond G := by first | exact trivial | walk_at "cond") (hm : m = (M fun xs s' => Res.loop body k xs (s0 s')) := by exact rfl) :
    Go (tFor wi g tb E) F0 G (Dd s) := by subst hm; exact (fun σ H F t hs ss =>
  hi _ σ H F hs ss _ _ _ hP (fun xs s' J H1 F1 t1 hs1 ok hm => by
    have hm1 : w.W F1 (Res.loop body k xs (s0 s')) := Wish.up (w := w) hm (t.trans t1)
    refine ⟨fun i m σ H => m = xs.length - i ∧ i ≤ xs.length ∧ ∃ F', Same F1 F' ∧ ∃ x, w.W F' (Res.loop body k (xs.drop i) x) ∧ StP F' (Gs x) (Ds x) σ H, ⟨xs.length, by simp, Nat.zero_le _, F1, Same.refl _, s0 s', hm1, F1, Same.refl _, hs1.drop (d0 s'), (ss.mono t1).weak (w0 s')⟩, ?_⟩
    rintro i m σ2 H2 ⟨rfl, hle, F', t', x, hx, F2, t2, hs2, ss2⟩
    by_cases hlt : i < xs.length
    · obtain ⟨go, yl⟩ := (ok (Ds x) H2 F2 (cm x) (t'.trans t2) hs2 i).1 (R xs[i]) (by rw [List.getElem?_map, List.getElem?_eq_getElem hlt]; rfl)
      rw [List.drop_eq_getElem_cons hlt] at hx
      refine .inr ⟨go, fun σ' H' => ∃ F3, Same F' F3 ∧ ∃ x', w.W F3 (Res.loop body k (xs.drop (i + 1)) x') ∧ StP F3 (Gs x') (Ds x') σ' H', fun σ' H' ⟨F3, t3, p⟩ => ⟨xs.length - (i + 1), by omega, rfl, hlt, F3, t'.trans t3, p⟩, fun v H3 hy => ?_⟩
      obtain ⟨F3, t3, hs3, r3⟩ := yl v H3 hy
      exact hg x _ v σ2 H3 F3 (Ds x) hs3 (ss2.mono t3) r3 _ fun σ4 ss4 => step done F' ((t.trans t1).trans t') _ x _ _ (fun F5 t5 s' hs' σ5 H5 F6 t6 hs5 ss5 => ⟨F5, t5, s', hs', F6, t6, hs5, ss5⟩) hx σ4 H3 F3 (t2.trans t3) hs3 ss4
    · have e : i = xs.length := by omega
      subst e
      rw [List.drop_length] at hx
      exact .inl ⟨(ok (Ds x) H2 F2 (cm x) (t'.trans t2) hs2 _).2 (by simp), done F' ((t.trans t1).trans t') x hx σ2 H2 F2 t2 hs2 ss2⟩) (fun n e hr H1 F1 t1 hs1 => w.err hr c σ H1 F1 (t.trans t1) hs1 (ss.mono t1)))
theorem go_whileC {tb : TS} {Mt : σt → (Bool → Unit → Res ε ρ) → Res ε ρ} {mb : σt → (σt → Res ε ρ) → Res ε ρ} {k : σt → Res ε ρ} (Gs : σt → Sto) (Ds : σt → Own) (s0 : σt) (n : Nat)
    (hc : ∀ s, EvTC K w.X w.De tt (Gs s) (fun _ : Unit => Ds s) () (Mt s)) {m : Res ε ρ} (hP : w.W F0 m)
    (w0 : SLe G (Gs s0)) (d0 : (Ds s0).Sublist D0)
    (done : ∀ F1, Same F0 F1 → ∀ s, w.W F1 (k s) → Go E.nx F1 (Gs s) (Ds s))
    (step : (∀ F1, Same F0 F1 → ∀ s, w.W F1 (k s) → Go E.nx F1 (Gs s) (Ds s)) → ∀ F1, Same F0 F1 → ∀ s nx (Nx : L2.St → Hp → Prop), (∀ F2, Same F1 F2 → ∀ s', w.W F2 (nx s') → Go Nx F2 (Gs s') (Ds s')) → w.W F1 (mb s nx) → Go (tb { E with nx := Nx, ct := Nx, bk := E.nx }) F1 (Gs s) (Ds s)) (c : ∀ s, w.cond (Gs s) := by first | exact fun _ => trivial | (intro _; walk_at "cond")) (hm : m = (Res.wloop (fun s nx => Mt s fun b _ => if b = true then mb s nx else k s) n s0) := by exact rfl) :
    Go (tWhile tt tb E) F0 G D0 := by subst hm; exact (fun σ H F t hs ss => by
  refine ⟨fun m σ H => ∃ F1, Same F0 F1 ∧ ∃ x, w.W F1 (Res.wloop (fun s nx => Mt s fun b _ => if b = true then mb s nx else k s) m x) ∧ StP F1 (Gs x) (Ds x) σ H, ⟨n, F0, Same.refl _, s0, hP, F, t, hs.drop d0, ss.weak w0⟩, ?_⟩
  rintro m σ2 H2 ⟨F1, t1, x, hx, F2, t2, hs2, ss2⟩
  cases m with
  | zero => exact (show False from hx).elim
  | succ m =>
    refine hc x _ σ2 H2 F2 hs2 ss2 _ _ _ (show (Mt x fun b _ => if b = true then mb x (Res.wloop _ m) else k x).sat (w.o F1) (w.r F1) from hx) (fun b _ H3 F3 t3 hs3 hm => ?_) (fun n e hr H1 F4 t4 hs1 => w.err hr (c x) σ2 H1 F4 (t2.trans t4) hs1 (ss2.mono t4))
    cases b with
    | true =>
      refine ⟨fun σ' H' => ∃ F5, Same F1 F5 ∧ ∃ x', w.W F5 (Res.wloop (fun s nx => Mt s fun b _ => if b = true then mb s nx else k s) m x') ∧ StP F5 (Gs x') (Ds x') σ' H', fun σ' H' ⟨F5, t5, x', h1, h2⟩ => ⟨m, Nat.lt_succ_self m, F5, t1.trans t5, x', h1, h2⟩, ?_⟩
      exact step done F1 t1 x _ _ (fun F5 t5 s' hs' σ5 H5 F6 t6 hs5 ss5 => ⟨F5, t5, s', hs', F6, t6, hs5, ss5⟩) hm σ2 H3 F3 (t2.trans t3) hs3 (ss2.mono t3)
    | false => exact done F1 t1 x hm σ2 H3 F3 (t2.trans t3) hs3 (ss2.mono t3))
theorem go_join {t : TS} (k : σt → Res ε ρ) (Gs : σt → Sto) (Ds : σt → Own) (hk : ∀ F1, Same F0 F1 → ∀ s, w.W F1 (k s) → Go E.nx F1 (Gs s) (Ds s)) (h : (∀ F1, Same F0 F1 → ∀ s, w.W F1 (k s) → Go E.nx F1 (Gs s) (Ds s)) → Go (t E) F0 G D0) : Go (t E) F0 G D0 := h hk
end
end TL
end
section
set_option Elab.async false
set_option linter.all false
set_option maxRecDepth 100000
set_option maxHeartbeats 1000000
namespace TL
open PySem PySem.Spec L2
structure Enc {α : Type} (e : α → PyData) (n : Nat) : Prop where
  lay : ∀ x, PyData.canLay0 (e x) = true
  dep : ∀ x, (e x).depth ≤ n
  inj : ∀ x y, PyData.eqv (e x) (e y) = true ↔ x = y
theorem Enc.shaped {α : Type} {e : α → PyData} {n : Nat} (h : Enc e n) (hn : n ≤ 64) (x : α) : SeqAt.shaped (e x) = true := by
  unfold SeqAt.shaped
  rw [h.lay x, Bool.true_and]
  exact decide_eq_true (Nat.le_trans (h.dep x) hn)
theorem Enc.eq {α : Type} [DecidableEq α] {e : α → PyData} {n : Nat} (h : Enc e n) (x y : α) : PyData.eqv (e x) (e y) = decide (x = y) := by
  by_cases q : x = y
  · rw [decide_eq_true q, (h.inj x y).mpr q]
  · rw [decide_eq_false q]
    cases z : PyData.eqv (e x) (e y) with
    | false => rfl
    | true => exact absurd ((h.inj x y).mp z) q
theorem enc_I : Enc eI 0 := ⟨fun _ => rfl, fun _ => Nat.le_refl _, fun x y => by
  show (x == y) = true ↔ _
  simp⟩
theorem eqvS (x y : Str) : PyData.eqv (.str x) (.str y) = (x == y) := rfl
theorem enc_S : Enc eS 0 := ⟨fun x => x.ok, fun _ => Nat.le_refl _, fun x y => by
  rw [eqvS]
  simp only [beq_iff_eq]
  exact ⟨Tx.ext', fun h => by rw [h]⟩⟩
theorem enc_Q : Enc eQ 1 := ⟨fun _ => rfl, fun _ => Nat.le_refl _, fun x y => by
  show PyData.eqv (.tuple [.int x.num, .int x.den]) (.tuple [.int y.num, .int y.den]) = true ↔ _
  rw [eqv_q]
  simp⟩
theorem dep2 {a b : PyData} {n m : Nat} (h : a.depth ≤ n) (h' : b.depth ≤ m) : (PyData.tuple [a, b]).depth ≤ max n m + 1 := by
  show max a.depth (max b.depth 0) + 1 ≤ _
  omega
theorem enc_2 {α β : Type} {f : α → PyData} {g : β → PyData} {n m : Nat} (hf : Enc f n) (hg : Enc g m) : Enc (e2 f g) (max n m + 1) := ⟨fun x => by
    show (PyData.canLay0 (f x.1) && (PyData.canLay0 (g x.2) && true)) = true
    rw [hf.lay, hg.lay]; rfl, fun x => dep2 (hf.dep _) (hg.dep _), fun x y => by
    show (PyData.eqv (f x.1) (f y.1) && (PyData.eqv (g x.2) (g y.2) && true)) = true ↔ _
    simp only [Bool.and_eq_true, Bool.and_true, hf.inj, hg.inj]
    exact ⟨fun h => Prod.ext h.1 h.2, fun h => by rw [h]; exact ⟨rfl, rfl⟩⟩⟩
theorem enc_3 {α β γ : Type} {f : α → PyData} {g : β → PyData} {h : γ → PyData} {n m k : Nat} (hf : Enc f n) (hg : Enc g m) (hh : Enc h k) : Enc (e3 f g h) (max n (max m k) + 1) := ⟨fun x => by
    show (PyData.canLay0 (f x.1) && (PyData.canLay0 (g x.2.1) && (PyData.canLay0 (h x.2.2) && true))) = true
    rw [hf.lay, hg.lay, hh.lay]; rfl, fun x => by
    have h1 := hf.dep x.1
    have h2 := hg.dep x.2.1
    have h3 := hh.dep x.2.2
    show max (f x.1).depth (max (g x.2.1).depth (max (h x.2.2).depth 0)) + 1 ≤ _
    omega, fun x y => by
    show (PyData.eqv (f x.1) (f y.1) && (PyData.eqv (g x.2.1) (g y.2.1) && (PyData.eqv (h x.2.2) (h y.2.2) && true))) = true ↔ _
    simp only [Bool.and_eq_true, Bool.and_true, hf.inj, hg.inj, hh.inj]
    exact ⟨fun h => Prod.ext h.1 (Prod.ext h.2.1 h.2.2), fun h => by rw [h]; exact ⟨rfl, rfl, rfl⟩⟩⟩
theorem encAll_lay {α : Type} {f : α → PyData} {n : Nat} (hf : Enc f n) : ∀ xs : List α, PyData.canLayAll0 (xs.map f) = true
  | [] => rfl
  | x :: xs => by
    show (PyData.canLay0 (f x) && PyData.canLayAll0 (xs.map f)) = true
    rw [hf.lay, encAll_lay hf xs]; rfl
theorem encAll_dep {α : Type} {f : α → PyData} {n : Nat} (hf : Enc f n) : ∀ xs : List α, PyData.depthAll (xs.map f) ≤ n
  | [] => Nat.zero_le _
  | x :: xs => by
    show max (f x).depth (PyData.depthAll (xs.map f)) ≤ n
    have := hf.dep x
    have := encAll_dep hf xs
    omega
theorem encAll_inj {α : Type} {f : α → PyData} {n : Nat} (hf : Enc f n) : ∀ xs ys : List α, PyData.eqvAll (xs.map f) (ys.map f) = true ↔ xs = ys
  | [], [] => by simp [PyData.eqvAll]
  | [], y :: ys => by simp [PyData.eqvAll]
  | x :: xs, [] => by simp [PyData.eqvAll]
  | x :: xs, y :: ys => by
    show (PyData.eqv (f x) (f y) && PyData.eqvAll (xs.map f) (ys.map f)) = true ↔ _
    simp only [Bool.and_eq_true, hf.inj, encAll_inj hf xs ys, List.cons.injEq]
theorem enc_L {α : Type} {f : α → PyData} {n : Nat} (hf : Enc f n) : Enc (eL f) (n + 1) := ⟨fun xs => encAll_lay hf xs, fun xs => by
  have := encAll_dep hf xs
  show PyData.depthAll (xs.map f) + 1 ≤ _
  omega, fun xs ys => encAll_inj hf xs ys⟩
theorem enc_V {α : Type} {f : α → PyData} {n : Nat} (hf : Enc f n) : Enc (eV f) (n + 1) := ⟨fun xs => encAll_lay hf xs, fun xs => by
  have := encAll_dep hf xs
  show PyData.depthAll (xs.map f) + 1 ≤ _
  omega, fun xs ys => encAll_inj hf xs ys⟩
theorem canLay_app' {x y : Str} (hx : PyData.canLay0 (.str x) = true) (hy : PyData.canLay0 (.str y) = true) : PyData.canLay0 (.str (x ++ y)) = true := by
  have hx' : x.cps.all (fun c => decide (c < 0x110000)) = true := hx
  have hy' : y.cps.all (fun c => decide (c < 0x110000)) = true := hy
  show (x ++ y).cps.all (fun c => decide (c < 0x110000)) = true
  rw [← Array.all_toList] at hx' hy' ⊢
  rw [app_cps, List.all_append, hx', hy']
  rfl
def Tx.app (a b : Tx) : Tx := ⟨a.s ++ b.s, canLay_app' a.ok b.ok⟩
instance : Append Tx := ⟨Tx.app⟩
def Tx.len (a : Tx) : Nat := a.s.length
theorem canLay_of {x : Str} (h : ∀ c ∈ x.cps.toList, c < 0x110000) : PyData.canLay0 (.str x) = true := by
  show x.cps.all (fun c => decide (c < 0x110000)) = true
  rw [← Array.all_toList, List.all_eq_true]
  exact fun c hc => decide_eq_true (h c hc)
theorem Tx.all (t : Tx) : ∀ c ∈ t.s.cps.toList, c < 0x110000 := fun c hc => by
  have h : t.s.cps.all (fun c => decide (c < 0x110000)) = true := t.ok
  rw [← Array.all_toList, List.all_eq_true] at h
  exact of_decide_eq_true (h c hc)
def Tx.sg (c : Nat) (h : c < 0x110000) : Tx := ⟨⟨#[c]⟩, canLay_of fun d hd => by
  have : d = c := by simpa using hd
  omega⟩
theorem atI_mem {α : Type} {l : List α} {i : Int} {x : α} (h : atI l i = some x) : x ∈ l := by
  unfold atI at h
  cases q : ixN l.length i with
  | none => rw [q] at h; cases h
  | some j =>
    rw [q] at h
    exact List.mem_of_getElem? h
def Tx.at (t : Tx) (i : Int) : Option Tx := if t.s.length ≤ 100000 then (match h : atI t.s.cps.toList i with
  | some c => some (Tx.sg c (t.all c (atI_mem h)))
  | none => none) else none
theorem cut_ok (t : Tx) (lo hi : Option Int) : PyData.canLay0 (.str (cutS t.s lo hi)) = true := canLay_of fun c hc => by
  have sub : ∀ c ∈ (cutS t.s lo hi).cps.toList, c ∈ t.s.cps.toList := by
    intro c hc
    unfold cutS at hc
    have hc2 := hc
    simp at hc2
    exact List.mem_of_mem_drop (List.mem_of_mem_take hc2)
  exact t.all c (sub c hc)
def Tx.cut (t : Tx) (lo hi : Option Int) : Tx := ⟨cutS t.s lo hi, cut_ok t lo hi⟩
end TL
end
section
set_option Elab.async false
set_option linter.all false
set_option maxRecDepth 100000
set_option maxHeartbeats 1000000
namespace TL
open PySem PySem.Spec L2
section
variable {K : PySem.W.Frag} {ε ε' ρ α β γ δ S τ σt ω : Type} {X : L2.St → XK} {De : ε → Own} {G G1 G2 : Sto} {D0 : Own} {Dd : S → Own} {s : S} {te ta tb tc : TE} {tt tu : TT} {F0 F1 : Hp} {E : Ends} {w : Wish K ε ρ}
  {Mi : (Int → S → Res ε δ) → Res ε δ} {Mj : S → (Int → S → Res ε δ) → Res ε δ}
theorem evc_add (ha : EvC K X De ta G Dd s Mi (tD K eI)) (hb : ∀ s1, EvC K X De tb G Dd s1 (Mj s1) (tD K eI)) : EvC K X De (tOp (qAddS K) ta tb) G Dd s (fun kk => Mi fun a s1 => Mj s1 fun b s2 => kk (a + b) s2) (tD K eI) :=
  evc2 ha hb fun a b s2 x y H F hs rx ry Q q => by
    rw [dp_int rx, dp_int ry]
    exact .inl (.inl ⟨a, b, rfl, rfl, q _ H F (Same.refl _) hs (.int _)⟩)
theorem evc_sub (ha : EvC K X De ta G Dd s Mi (tD K eI)) (hb : ∀ s1, EvC K X De tb G Dd s1 (Mj s1) (tD K eI)) : EvC K X De (tOp rSubI ta tb) G Dd s (fun kk => Mi fun a s1 => Mj s1 fun b s2 => kk (a - b) s2) (tD K eI) :=
  evc2 ha hb fun a b s2 x y H F hs rx ry Q q => by
    rw [dp_int rx, dp_int ry]
    exact ⟨a, b, rfl, rfl, q _ H F (Same.refl _) hs (.int _)⟩
theorem evc_mul (ha : EvC K X De ta G Dd s Mi (tD K eI)) (hb : ∀ s1, EvC K X De tb G Dd s1 (Mj s1) (tD K eI)) : EvC K X De (tOp (qMul K) ta tb) G Dd s (fun kk => Mi fun a s1 => Mj s1 fun b s2 => Res.bind (Res.grd (CMulW a b) (a * b)) fun z => kk z s2) (tD K eI) :=
  evc2g ha hb fun a b s2 x y H F c hs rx ry Q q => by
    rw [dp_int rx, dp_int ry]
    exact .inl ⟨a, b, rfl, rfl, c, q _ H F (Same.refl _) hs (.int _)⟩
theorem evc_div (ha : EvC K X De ta G Dd s Mi (tD K eI)) (hb : ∀ s1, EvC K X De tb G Dd s1 (Mj s1) (tD K eI)) : EvC K X De (tOp rDivI ta tb) G Dd s (fun kk => Mi fun a s1 => Mj s1 fun b s2 => Res.bind (Res.grd (CDivA a b) (a.fdiv b)) fun z => kk z s2) (tD K eI) :=
  evc2g ha hb fun a b s2 x y H F c hs rx ry Q q => by
    rw [dp_int rx, dp_int ry]
    exact ⟨a, b, rfl, rfl, c, q _ H F (Same.refl _) hs (.int _)⟩
theorem evc_mod (ha : EvC K X De ta G Dd s Mi (tD K eI)) (hb : ∀ s1, EvC K X De tb G Dd s1 (Mj s1) (tD K eI)) : EvC K X De (tOp rModI ta tb) G Dd s (fun kk => Mi fun a s1 => Mj s1 fun b s2 => Res.bind (Res.grd (b ≠ 0) (a.fmod b)) fun z => kk z s2) (tD K eI) :=
  evc2g ha hb fun a b s2 x y H F c hs rx ry Q q => by
    rw [dp_int rx, dp_int ry]
    exact ⟨a, b, rfl, rfl, c, q _ H F (Same.refl _) hs (.int _)⟩
theorem evc_neg (ha : EvC K X De ta G Dd s Mi (tD K eI)) : EvC K X De (tUn qNegI ta) G Dd s (fun kk => Mi fun a s1 => kk (-a) s1) (tD K eI) :=
  evc1 (t := id) ha fun a s2 x H F hs rx Q q => by
    rw [dp_int rx]
    exact ⟨a, rfl, q _ H F (Same.refl _) hs (.int _)⟩
theorem evc_cmpI {f : Int → Int → Bool} (ha : EvC K X De ta G Dd s Mi (tD K eI)) (hb : ∀ s1, EvC K X De tb G Dd s1 (Mj s1) (tD K eI)) : EvC K X De (tOp (rI0 fun i j => .bl (f i j)) ta tb) G Dd s (fun kk => Mi fun a s1 => Mj s1 fun b s2 => kk (f a b) s2) (tD K eB) :=
  evc2 ha hb fun a b s2 x y H F hs rx ry Q q => by
    rw [dp_int rx, dp_int ry]
    exact ⟨a, b, rfl, rfl, q _ H F (Same.refl _) hs (.bl _)⟩
theorem evc_lt (ha : EvC K X De ta G Dd s Mi (tD K eI)) (hb : ∀ s1, EvC K X De tb G Dd s1 (Mj s1) (tD K eI)) : EvC K X De (tOp rLtI ta tb) G Dd s (fun kk => Mi fun a s1 => Mj s1 fun b s2 => kk (decide (a < b)) s2) (tD K eB) := evc_cmpI ha hb
theorem evc_gt (ha : EvC K X De ta G Dd s Mi (tD K eI)) (hb : ∀ s1, EvC K X De tb G Dd s1 (Mj s1) (tD K eI)) : EvC K X De (tOp rGtI ta tb) G Dd s (fun kk => Mi fun a s1 => Mj s1 fun b s2 => kk (decide (b < a)) s2) (tD K eB) := evc_cmpI (f := fun i j => decide (j < i)) ha hb
theorem evc_ge (ha : EvC K X De ta G Dd s Mi (tD K eI)) (hb : ∀ s1, EvC K X De tb G Dd s1 (Mj s1) (tD K eI)) : EvC K X De (tOp rGeI ta tb) G Dd s (fun kk => Mi fun a s1 => Mj s1 fun b s2 => kk (decide (b ≤ a)) s2) (tD K eB) := evc_cmpI (f := fun i j => decide (j ≤ i)) ha hb
section
variable [DecidableEq α] {e : α → PyData} {n : Nat} {Ma : (α → S → Res ε δ) → Res ε δ} {Mb : S → (α → S → Res ε δ) → Res ε δ}
theorem evc_eq (he : Enc e n) (ha : EvC K X De ta G Dd s Ma (tD K e)) (hb : ∀ s1, EvC K X De tb G Dd s1 (Mb s1) (tD K e)) (hn : n ≤ 64 := by decide) : EvC K X De (tOp (qEq K) ta tb) G Dd s (fun kk => Ma fun a s1 => Mb s1 fun b s2 => kk (decide (a = b)) s2) (tD K eB) :=
  evc2 ha hb fun a b s2 x y H F hs rx ry Q q => by
    refine .inr ⟨e a, e b, dp_up hs rx, dp_up hs ry, he.shaped hn a, he.shaped hn b, ?_⟩
    rw [he.eq]
    exact q _ H F (Same.refl _) hs (.bl _)
theorem evc_ne (he : Enc e n) (ha : EvC K X De ta G Dd s Ma (tD K e)) (hb : ∀ s1, EvC K X De tb G Dd s1 (Mb s1) (tD K e)) (hn : n ≤ 64 := by decide) : EvC K X De (tOp (qNe K) ta tb) G Dd s (fun kk => Ma fun a s1 => Mb s1 fun b s2 => kk (!decide (a = b)) s2) (tD K eB) :=
  evc2 ha hb fun a b s2 x y H F hs rx ry Q q => by
    refine .inr ⟨e a, e b, dp_up hs rx, dp_up hs ry, he.shaped hn a, he.shaped hn b, ?_⟩
    rw [he.eq]
    exact q _ H F (Same.refl _) hs (.bl _)
end
theorem evc_chain {g g' : Int → Int → Bool} {c : S → Int}
    (ha : EvC K X De ta G Dd s Mi (tD K eI)) (hb : ∀ s1, EvC K X De tb G Dd s1 (Mj s1) (tD K eI)) (hc : ∀ s1, EvC (β := δ) K X De tc G Dd s1 (fun kk => kk (c s1) s1) (tD K eI)) :
    EvC K X De (tChain (rI0 fun i j => .bl (g i j)) (rI0 fun i j => .bl (g' i j)) ta tb tc) G Dd s (fun kk => Mi fun a s1 => Mj s1 fun b s2 => kk (g a b && g' b (c s2)) s2) (tD K eB) := fun kk σ H F hs ss o rr Q hm q qe =>
  ha _ σ H F hs ss o rr _ hm (fun a s1 x H1 F1 t1 hs1 r1 hm1 => hb s1 _ σ H1 F1 hs1 (ss.mono t1) o rr _ hm1
    (fun b s2 y H2 F2 t2 hs2 r2 hm2 => by
      refine ⟨a, b, dp_int r1, dp_int r2, g a b, rfl, ?_⟩
      cases e : g a b with
      | false =>
        rw [e] at hm2
        exact q false s2 _ H2 F2 (t1.trans t2) hs2 (.bl _) hm2
      | true =>
        rw [e] at hm2
        refine hc s2 (fun z s3 => kk (true && g' b z) s3) σ H2 F2 hs2 ((ss.mono t1).mono t2) o rr _ hm2 (fun z s3 u H4 F4 t4 hs4 r4 hm4 => ?_) (fun n e h H2 F2 t4 => qe n e h H2 F2 ((t1.trans t2).trans t4))
        exact ⟨b, z, dp_int r2, dp_int r4, q (true && g' b z) s3 _ H4 F4 ((t1.trans t2).trans t4) hs4 (by rw [Bool.true_and]; exact .bl _) hm4⟩)
    (fun n e h H2 F2 t2 => qe n e h H2 F2 (t1.trans t2))) (fun n e h H1 F1 t1 => qe n e h H1 F1 t1)
section
variable {Ma : (Tx → S → Res ε δ) → Res ε δ} {Mb : S → (Tx → S → Res ε δ) → Res ε δ}
theorem evc_addS (ha : EvC K X De ta G Dd s Ma (tD K eS)) (hb : ∀ s1, EvC K X De tb G Dd s1 (Mb s1) (tD K eS)) : EvC K X De (tOp (qAddS K) ta tb) G Dd s (fun kk => Ma fun a s1 => Mb s1 fun b s2 => Res.bind (Res.grd (a.len + b.len ≤ 100000) (a ++ b)) fun z => kk z s2) (tD K eS) :=
  evc2g ha hb fun a b s2 x y H F c hs rx ry Q q => by
    rw [dp_str rx, dp_str ry]
    exact .inl (.inr (.inl ⟨a.s, b.s, rfl, rfl, Nat.le_trans c sizeLine_big, q _ H F (Same.refl _) hs (.str _)⟩))
theorem Tx.at_some {t c : Tx} {i : Int} (h : t.at i = some c) : t.s.length ≤ 100000 ∧ ∃ d, atI t.s.cps.toList i = some d ∧ c.s = ⟨#[d]⟩ := by
  unfold Tx.at at h
  split at h
  · rename_i hl
    split at h
    · rename_i d hd
      cases h
      exact ⟨hl, d, hd, rfl⟩
    · cases h
  · cases h
theorem evc_ixS (ha : EvC K X De ta G Dd s Ma (tD K eS)) (hb : ∀ s1, EvC K X De tb G Dd s1 (Mj s1) (tD K eI)) : EvC K X De (tOp (rIx K) ta tb) G Dd s (fun kk => Ma fun a s1 => Mj s1 fun b s2 => Res.bind (Res.opt (a.at b)) fun z => kk z s2) (tD K eS) :=
  evc2o ha hb fun a b c s2 x y H F e hs rx ry Q q => by
    rw [dp_str rx, dp_int ry]
    obtain ⟨h1, d, h2, h3⟩ := Tx.at_some e
    refine .inr (.inr ⟨a.s, b, d, rfl, rfl, Nat.le_trans h1 sizeLine_big, h2, q _ H F (Same.refl _) hs ?_⟩)
    show Dp K F _ (.str c.s)
    rw [h3]
    exact .str _
end
theorem evc_q0 {Ma : (Rat → S → Res ε δ) → Res ε δ} (ha : EvC K X De ta G Dd s Ma (tD K eQ)) : EvC K X De (tOp (rIx K) ta (tC (.int 0))) G Dd s (fun kk => Ma fun a s1 => kk a.num s1) (tD K eI) := fun kk σ H F hs ss o r Q hm q qe =>
  ha _ σ H F hs ss o r _ hm (fun a s1 v H1 F1 t1 hs1 r1 hm1 => by
    obtain ⟨p, xs, rfl, h1, h2⟩ := dp_tup r1
    obtain ⟨u, e1, e2⟩ := atI_map h2 (i := 0) (d := .int a.num) rfl
    exact .inr (.inl ⟨p, xs, 0, u, rfl, rfl, sqT_up hs1 h1, e1, q _ s1 _ H1 F1 t1 hs1 e2 hm1⟩)) qe
theorem evc_q1 {Ma : (Rat → S → Res ε δ) → Res ε δ} (ha : EvC K X De ta G Dd s Ma (tD K eQ)) : EvC K X De (tOp (rIx K) ta (tC (.int 1))) G Dd s (fun kk => Ma fun a s1 => kk (a.den : Int) s1) (tD K eI) := fun kk σ H F hs ss o r Q hm q qe =>
  ha _ σ H F hs ss o r _ hm (fun a s1 v H1 F1 t1 hs1 r1 hm1 => by
    obtain ⟨p, xs, rfl, h1, h2⟩ := dp_tup r1
    obtain ⟨u, e1, e2⟩ := atI_map h2 (i := 1) (d := .int a.den) rfl
    exact .inr (.inl ⟨p, xs, 1, u, rfl, rfl, sqT_up hs1 h1, e1, q _ s1 _ H1 F1 t1 hs1 e2 hm1⟩)) qe
noncomputable def mkQ (a b : Int) : Option Rat := open Classical in if h : ∃ r : Rat, r.num = a ∧ (r.den : Int) = b then some h.choose else none
theorem mkQ_some {a b : Int} {r : Rat} (h : mkQ a b = some r) : r.num = a ∧ (r.den : Int) = b := by
  unfold mkQ at h
  split at h
  · rename_i q
    cases h
    exact q.choose_spec
  · cases h
theorem mkQ_of (r : Rat) : mkQ r.num r.den = some r := by
  unfold mkQ
  have h : ∃ q : Rat, q.num = r.num ∧ (q.den : Int) = r.den := ⟨r, rfl, rfl⟩
  rw [dif_pos h]
  have z := h.choose_spec
  exact congrArg some (Rat.ext z.1 (by have := z.2; omega))
theorem mkQ_1 (a : Int) : mkQ a 1 = some (a : Rat) := by
  have h := mkQ_of (a : Rat)
  have e1 : ((a : Rat)).num = a := Rat.num_intCast a
  have e2 : ((a : Rat)).den = 1 := Rat.den_intCast a
  rw [e1, e2] at h
  exact h
def SView (K : PySem.W.Frag) (Dd : S → Own) (R : α → Ty) (f : α → List β) (Re : β → Ty) : Prop := ∀ x s v H F, HS (Dd s) H F → (R x).p v F → ∃ a vs, v = .ref a ∧ (SqL K H a vs ∨ SqT K H a vs) ∧ AllP F ((f x).map Re) vs
theorem sv_LT {Re : α → Ty} : SView K Dd (LT K Re) id Re := fun x s v H F hs ⟨a, vs, e, h1, h2⟩ => ⟨a, vs, e, .inl (sqL_up hs h1), h2⟩
theorem sv_O {Re : β → Ty} {xs : List β} {a : Addr} {k : Nat} (hk : ∀ s, (Dd s)[k]? = some (a, OLT Re xs)) : SView K Dd (fun _ : Unit => Is (.ref a)) (fun _ => xs) Re := fun x s v H F hs r => by
  obtain ⟨o, ho, vs, rfl, h⟩ := hs.at (hk s)
  exact ⟨a, vs, r, .inl (SqL.of ho), h⟩
section
variable {Ma : (α → S → Res ε δ) → Res ε δ} {Mb : S → (α → S → Res ε δ) → Res ε δ} {R : α → Ty} {f : α → List β} {Re : β → Ty}
theorem atI_allP {F : Hp} {Re : β → Ty} {xs : List β} {vs : List V} (h : AllP F (xs.map Re) vs) {i : Int} {x : β} (e : atI xs i = some x) : ∃ v, atI vs i = some v ∧ (Re x).p v F := by
  refine atI_all h ?_
  unfold atI at e ⊢
  rw [List.length_map]
  cases q : ixN xs.length i with
  | none => rw [q] at e; cases e
  | some j =>
    rw [q] at e
    rw [Option.bind_some] at e ⊢
    rw [List.getElem?_map, e]
    rfl
theorem evc_ix (hv : SView K Dd R f Re) (ha : EvC K X De ta G Dd s Ma R) (hb : ∀ s1, EvC K X De tb G Dd s1 (Mj s1) (tD K eI)) : EvC K X De (tOp (rIx K) ta tb) G Dd s (fun kk => Ma fun a s1 => Mj s1 fun b s2 => Res.bind (Res.opt (atI (f a) b)) fun z => kk z s2) Re :=
  evc2o ha hb fun a b c s2 x y H F e hs rx ry Q q => by
    obtain ⟨p, vs, rfl, h1, h2⟩ := hv a s2 x H F hs rx
    rw [dp_int ry]
    obtain ⟨v, e1, e2⟩ := atI_allP h2 e
    rcases h1 with h1 | h1
    · exact .inl ⟨p, vs, b, v, rfl, rfl, h1, e1, q _ H F (Same.refl _) hs e2⟩
    · exact .inr (.inl ⟨p, vs, b, v, rfl, rfl, h1, e1, q _ H F (Same.refl _) hs e2⟩)
theorem evc_len (hv : SView K Dd R f Re) (ha : EvC K X De ta G Dd s Ma R) : EvC K X De (tCB (cLen K) (tCons ta tNil)) G Dd s (fun kk => Ma fun a s1 => kk ((f a).length : Int) s1) (tD K eI) := by
  have h1 := evac_cons (β := δ) ha fun _ => evac_nil
  refine evc_CB h1 (g := fun a => ((f a.1).length : Int)) fun a s2 vs H F hs r Q q => ?_
  · obtain ⟨v, rfl, h1⟩ := allP1 r
    obtain ⟨p, xs, rfl, h2, h3⟩ := hv a.1 s2 v H F hs h1
    have l := h3.len
    rw [List.length_map] at l
    rcases h2 with h2 | h2
    · exact ⟨_, (f a.1).length, rfl, .inl ⟨xs, h2, l.symm⟩, q _ H F (Same.refl _) hs (.int _)⟩
    · exact ⟨_, (f a.1).length, rfl, .inr ⟨xs, h2, l.symm⟩, q _ H F (Same.refl _) hs (.int _)⟩
end
theorem evc_lenS {Ma : (Tx → S → Res ε δ) → Res ε δ} (ha : EvC K X De ta G Dd s Ma (tD K eS)) : EvC K X De (tCB (cLen K) (tCons ta tNil)) G Dd s (fun kk => Ma fun a s1 => Res.bind (Res.grd (a.len ≤ 100000) (a.len : Int)) fun z => kk z s1) (tD K eI) := by
  have h1 := evac_cons (β := δ) ha fun _ => evac_nil
  refine evc_CBg h1 (g := fun a => (a.1.len : Int)) (C := fun a => a.1.len ≤ 100000) fun a s2 vs H F c hs r Q q => ?_
  · obtain ⟨v, rfl, h1⟩ := allP1 r
    rw [dp_str h1]
    exact ⟨_, a.1.len, rfl, ⟨Nat.le_trans c sizeLine_big, rfl⟩, q _ H F (Same.refl _) hs (.int _)⟩
theorem evc_abs (ha : EvC K X De ta G Dd s Mi (tD K eI)) : EvC K X De (tCB cAbs (tCons ta tNil)) G Dd s (fun kk => Mi fun a s1 => kk (if a < 0 then -a else a) s1) (tD K eI) := by
  have h1 := evac_cons (β := δ) ha fun _ => evac_nil
  refine evc_CB h1 (g := fun a => if a.1 < 0 then -a.1 else a.1) fun a s2 vs H F hs r Q q => ?_
  · obtain ⟨v, rfl, h1⟩ := allP1 r
    rw [dp_int h1]
    exact ⟨a.1, rfl, q _ H F (Same.refl _) hs (.int _)⟩
theorem evc_max2 (ha : EvC K X De ta G Dd s Mi (tD K eI)) (hb : ∀ s1, EvC K X De tb G Dd s1 (Mj s1) (tD K eI)) : EvC K X De (tCB cMax2 (tCons ta (tCons tb tNil))) G Dd s (fun kk => Mi fun a s1 => Mj s1 fun b s2 => kk (if b > a then b else a) s2) (tD K eI) := by
  have h1 := evac_cons (β := δ) ha fun s1 => evac_cons (hb s1) fun _ => evac_nil
  refine evc_CB h1 (g := fun a => if a.2.1 > a.1 then a.2.1 else a.1) fun a s2 vs H F hs r Q q => ?_
  · obtain ⟨v, u, rfl, h1, h2⟩ := allP2 r
    rw [dp_int h1, dp_int h2]
    exact ⟨a.1, a.2.1, rfl, q _ H F (Same.refl _) hs (.int _)⟩
theorem evc_min2 (ha : EvC K X De ta G Dd s Mi (tD K eI)) (hb : ∀ s1, EvC K X De tb G Dd s1 (Mj s1) (tD K eI)) : EvC K X De (tCB cMin2 (tCons ta (tCons tb tNil))) G Dd s (fun kk => Mi fun a s1 => Mj s1 fun b s2 => kk (if b < a then b else a) s2) (tD K eI) := by
  have h1 := evac_cons (β := δ) ha fun s1 => evac_cons (hb s1) fun _ => evac_nil
  refine evc_CB h1 (g := fun a => if a.2.1 < a.1 then a.2.1 else a.1) fun a s2 vs H F hs r Q q => ?_
  · obtain ⟨v, u, rfl, h1, h2⟩ := allP2 r
    rw [dp_int h1, dp_int h2]
    exact ⟨a.1, a.2.1, rfl, q _ H F (Same.refl _) hs (.int _)⟩
theorem evc_intB {Ma : (Bool → S → Res ε δ) → Res ε δ} (ha : EvC K X De ta G Dd s Ma (tD K eB)) : EvC K X De (tCB cInt1 (tCons ta tNil)) G Dd s (fun kk => Ma fun a s1 => kk (if a = true then 1 else 0) s1) (tD K eI) := by
  have h1 := evac_cons (β := δ) ha fun _ => evac_nil
  refine evc_CB h1 (g := fun a => if a.1 = true then (1 : Int) else 0) fun a s2 vs H F hs r Q q => ?_
  · obtain ⟨v, rfl, h1⟩ := allP1 r
    rw [dp_bl h1]
    exact .inr ⟨a.1, rfl, q _ H F (Same.refl _) hs (.int _)⟩
end
end TL
end
section
set_option Elab.async false
set_option linter.all false
set_option maxRecDepth 100000
set_option maxHeartbeats 1000000
namespace TL
open PySem PySem.Spec L2
def spP (K : PySem.W.Frag) {τ ρ : Type} (args : τ → List Ty) (mf : τ → Res Unit ρ) (out : ρ → Out) : Sp := fun vs H Q X => ∃ (x : τ) (F : Hp) (D : Own), HS D H F ∧ AllP F (args x) vs ∧ (dwish K X Q out (fun _ => D) (fun _ : Unit => D)).W F (mf x)
def spC (K : PySem.W.Frag) {τ ρ ω : Type} (O : ω → OTy) (args : Addr → τ → List Ty) (mf : τ → ω → Res ω (ρ × ω)) (out : ρ → Out) : Sp := fun vs H Q X => ∃ (x : τ) (y : ω) (F : Hp) (Dp : ω → Own) (k : Nat) (a : Addr), Bor1 Dp k a O ∧ HS (Dp y) H F ∧ AllP F (args a x) vs ∧
  (dwish K X Q (fun r : ρ × ω => out r.1) (fun r => Dp r.2) Dp).W F (mf x y)
section
variable {K : PySem.W.Frag} {ε ε' ρ α β γ δ S τ τ' σt ω : Type} {Xk : XK} {De : ε → Own} {G G1 G2 : Sto} {D0 : Own} {Dd : S → Own} {s : S} {te ta tb tc : TE} {tt tu : TT} {F0 F1 : Hp} {E : Ends} {w : Wish K ε ρ} {t : TA} {n : Nat} {dvs : List V} {args : τ → List Ty} {Rs : τ' → List Ty}
theorem evc_callP {mf : τ → Res Unit γ} {R : γ → Ty} {M : (τ → S → Res Unit δ) → Res Unit δ} {De : Unit → Own} {sp : Sp} (hsp : ∀ vs H Q X, spP K args mf (fun r => .ok (R r)) vs H Q X → sp vs H Q X) (h : EvAC K (fun _ => Xk) De t G Dd s M args) (hde : ∀ s, (De ()).Sublist (Dd s)) :
    EvC K (fun _ => Xk) De (tCall sp [] Xk t) G Dd s (fun kk => M fun x s1 => Res.bind (mf x) fun z => kk z s1) R := fun kk σ H F hs ss o r Q hm q qe =>
  h _ σ H F hs ss o r _ hm (fun x s1 vs H1 F1 t1 hs1 r1 hm1 => hsp _ _ _ _ ⟨x, F1, Dd s1, hs1, by rw [List.append_nil]; exact r1, by
    rw [Res.sat_bind] at hm1
    exact Res.sat_mono hm1 (fun z hz v H2 F2 t2 hs2 r2 => q z s1 v H2 F2 (t1.trans t2) hs2 r2 hz) (fun n e he H2 F2 t2 hs2 => qe n e he H2 F2 (t1.trans t2) (hs2.drop (hde s1)))⟩) qe
theorem evc_callPE {mf : τ → Res Unit γ} {R : γ → Ty} {M : (τ → S → Res ε δ) → Res ε δ} {sp : Sp} (hsp : ∀ vs H Q X, spP K args mf (fun r => .ok (R r)) vs H Q X → sp vs H Q X) (g : S → ε) (h : EvAC K (fun _ => Xk) De t G Dd s M args) (hde : ∀ s, (De (g s)).Sublist (Dd s)) :
    EvC K (fun _ => Xk) De (tCall sp [] Xk t) G Dd s (fun kk => M fun x s1 => Res.bind (Res.mapE (fun _ => g s1) (mf x)) fun z => kk z s1) R := fun kk σ H F hs ss o r Q hm q qe =>
  h _ σ H F hs ss o r _ hm (fun x s1 vs H1 F1 t1 hs1 r1 hm1 => hsp _ _ _ _ ⟨x, F1, Dd s1, hs1, by rw [List.append_nil]; exact r1, by
    cases e : mf x with
    | ok z =>
      rw [e] at hm1
      exact fun v H2 F2 t2 hs2 r2 => q z s1 v H2 F2 (t1.trans t2) hs2 r2 hm1
    | err n u =>
      rw [e] at hm1
      exact fun H2 F2 t2 hs2 => qe n _ hm1 H2 F2 (t1.trans t2) (hs2.drop (hde s1))
    | stuck =>
      rw [e] at hm1
      exact hm1⟩) qe
theorem evnc_callP {mf : τ → Res Unit γ} {O : γ → OTy} {M : (τ → S → Res Unit δ) → Res Unit δ} {De : Unit → Own} {sp : Sp} (hsp : ∀ vs H Q X, spP K args mf (fun r => .new (O r)) vs H Q X → sp vs H Q X) (h : EvAC K (fun _ => Xk) De t G Dd s M args) (hde : ∀ s, (De ()).Sublist (Dd s)) :
    EvNC K (fun _ => Xk) De (tCall sp [] Xk t) G Dd s (fun kk => M fun x s1 => Res.bind (mf x) fun z => kk z s1) O := fun kk σ H F hs ss o r Q hm q qe =>
  h _ σ H F hs ss o r _ hm (fun x s1 vs H1 F1 t1 hs1 r1 hm1 => hsp _ _ _ _ ⟨x, F1, Dd s1, hs1, by rw [List.append_nil]; exact r1, by
    rw [Res.sat_bind] at hm1
    exact Res.sat_mono hm1 (fun z hz p H2 F2 t2 hs2 => q z s1 p H2 F2 (t1.trans t2) hs2 hz) (fun n e he H2 F2 t2 hs2 => qe n e he H2 F2 (t1.trans t2) (hs2.drop (hde s1)))⟩) qe
theorem evc_callC {O : ω → OTy} {k : Nat} {a : Addr} {args : Addr → τ → List Ty} {mf : τ → ω → Res ω (γ × ω)} {R : γ → Ty} {Dd : ω → Own} {s : ω} {M : (τ → ω → Res ε δ) → Res ε δ} {sp : Sp} (hsp : ∀ vs H Q X, spC K O args mf (fun r => .ok (R r)) vs H Q X → sp vs H Q X) (g : ω → ε) (B : Bor1 Dd k a O) (h : EvAC K (fun _ => Xk) De t G Dd s M (args a)) (hde : ∀ s, (De (g s)).Sublist (Dd s)) :
    EvC K (fun _ => Xk) De (tCall sp [] Xk t) G Dd s (fun kk => M fun x s1 => Res.bind (Res.mapE g (mf x s1)) fun z => kk z.1 z.2) R := fun kk σ H F hs ss o r Q hm q qe =>
  h _ σ H F hs ss o r _ hm (fun x s1 vs H1 F1 t1 hs1 r1 hm1 => hsp _ _ _ _ ⟨x, s1, F1, Dd, k, a, B, hs1, by rw [List.append_nil]; exact r1, by
    cases e : mf x s1 with
    | ok z =>
      rw [e] at hm1
      exact fun v H2 F2 t2 hs2 r2 => q z.1 z.2 v H2 F2 (t1.trans t2) hs2 r2 hm1
    | err n u =>
      rw [e] at hm1
      exact fun H2 F2 t2 hs2 => qe n _ hm1 H2 F2 (t1.trans t2) (hs2.drop (hde u))
    | stuck =>
      rw [e] at hm1
      exact hm1⟩) qe
theorem evc_callC0 {O : ω → OTy} {k : Nat} {a : Addr} {args : Addr → τ → List Ty} {mf : τ → ω → Res ω (γ × ω)} {R : γ → Ty} {Dd De : ω → Own} {s : ω} {M : (τ → ω → Res ω δ) → Res ω δ} {sp : Sp} (hsp : ∀ vs H Q X, spC K O args mf (fun r => .ok (R r)) vs H Q X → sp vs H Q X) (B : Bor1 Dd k a O) (h : EvAC K (fun _ => Xk) De t G Dd s M (args a)) (hde : ∀ s, (De s).Sublist (Dd s)) :
    EvC K (fun _ => Xk) De (tCall sp [] Xk t) G Dd s (fun kk => M fun x s1 => Res.bind (mf x s1) fun z => kk z.1 z.2) R := fun kk σ H F hs ss o r Q hm q qe =>
  h _ σ H F hs ss o r _ hm (fun x s1 vs H1 F1 t1 hs1 r1 hm1 => hsp _ _ _ _ ⟨x, s1, F1, Dd, k, a, B, hs1, by rw [List.append_nil]; exact r1, by
    rw [Res.sat_bind] at hm1
    exact Res.sat_mono hm1 (fun z hz v H2 F2 t2 hs2 r2 => q z.1 z.2 v H2 F2 (t1.trans t2) hs2 r2 hz) (fun n e he H2 F2 t2 hs2 => qe n e he H2 F2 (t1.trans t2) (hs2.drop (hde e)))⟩) qe
theorem evc_frzLT {R : α → Ty} {M : (List α → S → Res ε δ) → Res ε δ} {X : L2.St → XK} (h : EvNC K X De te G Dd s M (OLT R)) : EvC K X De te G Dd s M (LT K R) := fun kk σ H F hs ss o r Q hm q qe =>
  h kk σ H F hs ss o r Q hm (fun xs s1 p H1 F1 t1 hs1 hm1 => by
    obtain ⟨u, ⟨vs, rfl, hx⟩, hs2, t2⟩ := hs1.freeze (k := 0) rfl
    exact q xs s1 _ H1 _ (t1.trans t2) hs2 ⟨p, vs, rfl, SqL.of upd_same, hx.mono t2⟩ hm1) qe
theorem evnc_lst0 {R : α → Ty} {X : L2.St → XK} : EvNC (β := δ) K X De (tLst tNil) G Dd s (fun kk => kk [] s) (OLT R) := fun kk σ H F hs ss o r Q hm q qe =>
  ⟨Nat.zero_le _, fun p hp => q [] s p _ F (Same.refl _) (hs.new hp ⟨[], rfl, .nil⟩) hm⟩
def EvAL (K : PySem.W.Frag) {ε α β S : Type} (X : L2.St → XK) (De : ε → Own) (ta : TA) (G : Sto) (Dd : S → Own) (s : S) (n : Nat) (M : (List α → S → Res ε β) → Res ε β) (R : α → Ty) : Prop :=
  ∀ (kk : List α → S → Res ε β) (σ : L2.St) (H F : Hp), HS (Dd s) H F → SS F G σ → ∀ (o : β → Prop) (r : Str → ε → Prop) (Q : List V → Hp → Prop), (M kk).sat o r →
    (∀ x s' vs H' F', x.length = n → Same F F' → HS (Dd s') H' F' → AllP F' (x.map R) vs → (kk x s').sat o r → Q vs H') → (∀ n e, r n e → ∀ H' F', Same F F' → HS (De e) H' F' → X σ (.ref (He.ga K n)) none H') → ta σ H Q
theorem eval_nil {R : α → Ty} {X : L2.St → XK} : EvAL (β := δ) K X De tNil G Dd s 0 (fun kk => kk [] s) R := fun kk σ H F hs ss o r Q hm q _ => q [] s [] H F rfl (Same.refl _) hs .nil hm
theorem eval_cons {tr : TA} {R : α → Ty} {X : L2.St → XK} {n : Nat} {Ma : (α → S → Res ε β) → Res ε β} {Mr : S → (List α → S → Res ε β) → Res ε β}
    (h : EvC K X De te G Dd s Ma R) (hr : ∀ s1, EvAL K X De tr G Dd s1 n (Mr s1) R) : EvAL K X De (tCons te tr) G Dd s (n + 1) (fun kk => Ma fun a s1 => Mr s1 fun t s2 => kk (a :: t) s2) R := fun kk σ H F hs ss o r Q hm q qe =>
  h _ σ H F hs ss o r _ hm (fun a s1 v H1 F1 t1 hs1 r1 hm1 => hr s1 _ σ H1 F1 hs1 (ss.mono t1) o r _ hm1
    (fun t s2 vs H2 F2 l2 t2 hs2 r2 hm2 => q (a :: t) s2 _ H2 F2 (by rw [List.length_cons, l2]) (t1.trans t2) hs2 (.cons ((R a).mono t2 r1) r2) hm2) (fun n e h H2 F2 t2 => qe n e h H2 F2 (t1.trans t2))) (fun n e h H1 F1 t1 => qe n e h H1 F1 t1)
theorem evnc_lst {R : α → Ty} {X : L2.St → XK} {n : Nat} {M : (List α → S → Res ε β) → Res ε β} (h : EvAL K X De t G Dd s n M R) (hn : n ≤ 100000 := by decide) : EvNC K X De (tLst t) G Dd s M (OLT R) := fun kk σ H F hs ss o r Q hm q qe =>
  h _ σ H F hs ss o r _ hm (fun xs s1 vs H1 F1 l1 t1 hs1 r1 hm1 =>
    ⟨by rw [r1.len, List.length_map, l1]; exact Nat.le_trans hn sizeLine_big, fun p hp => q xs s1 p _ F1 t1 (hs1.new hp ⟨vs, rfl, r1⟩) hm1⟩) qe
def _root_.Res.lc {ε α β σ : Type} (body : α → σ → Res ε (Option β × σ)) : List α → σ → Res ε (List β × σ)
  | [], s => .ok ([], s)
  | x :: xs, s => Res.bind (body x s) fun t => Res.bind (Res.lc body xs t.2) fun u => .ok ((match t.1 with
    | some y => y :: u.1
    | none => u.1), u.2)
def lcAcc {β : Type} (acc : List β) (o : Option β) : List β := match o with
  | some y => acc ++ [y]
  | none => acc
theorem lc_split {body : α → S → Res Unit (Option β × S)} : ∀ (xs : List α) (s : S) (acc : List β) (o : List β × S → Prop), (Res.lc body xs s).sat (fun z => o (acc ++ z.1, z.2)) (fun _ _ => False) → ∀ x ys, xs = x :: ys →
    (body x s).sat (fun t => (Res.lc body ys t.2).sat (fun z => o (lcAcc acc t.1 ++ z.1, z.2)) (fun _ _ => False)) (fun _ _ => False) := fun xs s acc o h x ys e => by
  subst e
  unfold Res.lc at h
  rw [Res.sat_bind] at h
  refine Res.sat_mono h (fun t ht => ?_) (fun _ _ z => z)
  rw [Res.sat_bind] at ht
  refine Res.sat_mono ht (fun z hz => ?_) (fun _ _ z => z)
  unfold lcAcc
  cases e : t.1 with
  | some y =>
    have hz' : o (acc ++ (match t.1 with
      | some y => y :: z.1
      | none => z.1), z.2) := hz
    rw [e] at hz'
    rw [List.append_assoc]
    exact hz'
  | none =>
    have hz' : o (acc ++ (match t.1 with
      | some y => y :: z.1
      | none => z.1), z.2) := hz
    rw [e] at hz'
    exact hz'
theorem evnc_lc {wi : TI} {g : TG} {vs : List Nat} {cnd : Own → Prop} {R : α → Ty} {Re : β → Ty} {X : L2.St → XK} {M : (List α → S → Res ε δ) → Res ε δ} {G1 : α → Sto}
    {Mt : α → S → (Bool → S → Res Unit (Option β × S)) → Res Unit (Option β × S)} {Mb : α → S → (β → S → Res Unit (Option β × S)) → Res Unit (Option β × S)}
    (hi : EvItC K X De wi G Dd s cnd M R) (hg : ∀ x, EvW g vs (wipeG G vs) (R x) (G1 x)) (cm : ∀ s c, cnd (c :: Dd s))
    (ht : ∀ x s1 (c : Addr × OTy), EvTC K (fun _ => E0) (fun _ : Unit => []) tt (G1 x) (fun s => c :: Dd s) s1 (Mt x s1))
    (hb : ∀ x s1 (c : Addr × OTy), EvC K (fun _ => E0) (fun _ : Unit => []) te (G1 x) (fun s => c :: Dd s) s1 (Mb x s1) Re) :
    EvNC K X De (tLc wi g tt te vs) G Dd s (fun kk => M fun xs s1 => Res.bind (Res.grd (xs.length ≤ 100000) xs) fun xs => Res.bind (Res.calm (Res.lc (fun x s1 => Mt x s1 fun b s2 => if b = true then Mb x s2 fun y s3 => .ok (some y, s3) else .ok (none, s2)) xs s1)) fun z => kk z.1 z.2) (OLT Re) := fun kk σ H F hs ss o r Q hm q qe =>
  hi _ σ H F hs ss o r _ hm (fun xs s1 J H1 F1 t1 hs1 ok hm1 Dl hDl => by
    obtain ⟨hl, hm2⟩ := Res.sat_grd hm1
    generalize hbody : (fun x s1 => Mt x s1 fun b s2 => if b = true then Mb x s2 fun y s3 => Res.ok (some y, s3) else Res.ok (none, s2)) = body at hm2
    have hm3 : (Res.lc body xs s1).sat (fun z => (kk z.1 z.2).sat o r) (fun _ _ => False) := by
      cases e : Res.lc body xs s1 with
      | ok z => rw [e] at hm2; exact hm2
      | err n u => rw [e] at hm2; exact hm2
      | stuck => rw [e] at hm2; exact hm2
    refine ⟨fun i m H => m = xs.length - i ∧ i ≤ xs.length ∧ ∃ (x : S) (acc : List β) (F2 : Hp), acc.length ≤ i ∧ (Res.lc body (xs.drop i) x).sat (fun z => (kk (acc ++ z.1) z.2).sat o r) (fun _ _ => False) ∧ Same F1 F2 ∧ HS ((Dl, OLT Re acc) :: Dd x) H F2,
      ⟨xs.length, by simp, Nat.zero_le _, s1, [], F1, Nat.le_refl _, hm3, Same.refl _, hs1.new hDl ⟨[], rfl, .nil⟩⟩, ?_⟩
    rintro i m H2 ⟨rfl, hle, x, acc, F2, la, hx, t2, hs2⟩
    by_cases hlt : i < xs.length
    · obtain ⟨go, yl⟩ := (ok _ H2 F2 (cm x _) t2 hs2 i).1 (R xs[i]) (by rw [List.getElem?_map, List.getElem?_eq_getElem hlt]; rfl)
      have hx2 := lc_split (xs.drop i) x acc (fun z => (kk z.1 z.2).sat o r) hx _ _ (List.drop_eq_getElem_cons hlt)
      refine .inr ⟨go, fun H' => ∃ (x : S) (acc : List β) (F2 : Hp), acc.length ≤ i + 1 ∧ (Res.lc body (xs.drop (i + 1)) x).sat (fun z => (kk (acc ++ z.1) z.2).sat o r) (fun _ _ => False) ∧ Same F1 F2 ∧ HS ((Dl, OLT Re acc) :: Dd x) H' F2, fun H' p => ⟨xs.length - (i + 1), by omega, rfl, hlt, p⟩, fun v H3 hy => ?_⟩
      obtain ⟨F3, t3, hs3, r3⟩ := yl v H3 hy
      have ss3 : SS F3 (wipeG G vs) (L2.wipe σ vs) := ((ss.mono t1).mono (t2.trans t3)).wipe vs
      refine hg xs[i] v σ (L2.wipe σ vs) H3 F3 _ hs3 ss3 (wipe_wipe σ vs) r3 _ fun σ' ss' w' => ⟨w', ?_⟩
      rw [← hbody] at hx2
      refine ht xs[i] x (Dl, OLT Re acc) _ σ' H3 F3 hs3 ss' _ _ _ hx2 (fun b s2 H4 F4 t4 hs4 hm4 => ?_) (fun n e h => h.elim)
      cases b with
      | true =>
        refine hb xs[i] s2 (Dl, OLT Re acc) _ σ' H4 F4 hs4 (ss'.mono t4) _ _ _ hm4 (fun y s5 u H5 F5 t5 hs5 r5 hm5 => ?_) (fun n e h => h.elim)
        obtain ⟨o5, ho, ws, rfl, hxs⟩ := hs5.at (k := 0) rfl
        have l5 := hxs.len
        rw [List.length_map] at l5
        refine ⟨ws, ho, by rw [l5]; exact Nat.lt_of_lt_of_le (Nat.lt_of_le_of_lt la (Nat.lt_of_lt_of_le hlt hl)) sizeLine_big, s5, acc ++ [y], F5, by simp; omega, by rw [hbody] at hm5; exact hm5, ((t2.trans t3).trans t4).trans t5, ?_⟩
        exact hs5.put (k := 0) (O' := OLT Re (acc ++ [y])) rfl ⟨_, rfl, by rw [List.map_append]; exact hxs.append (.cons r5 .nil)⟩
      | false =>
        exact ⟨s2, acc, F4, by omega, by rw [hbody] at hm4; exact hm4, (t2.trans t3).trans t4, hs4⟩
    · have e : i = xs.length := by omega
      subst e
      rw [List.drop_length] at hx
      have hx' : (kk (acc ++ []) x).sat o r := hx
      rw [List.append_nil] at hx'
      exact .inl ⟨(ok _ H2 F2 (cm x _) t2 hs2 _).2 (by simp), q acc x Dl H2 F2 (t1.trans t2) hs2 hx'⟩) qe
theorem evnc_lc0 {wi : TI} {g : TG} {vs : List Nat} {cnd : Own → Prop} {R : α → Ty} {Re : β → Ty} {X : L2.St → XK} {M : (List α → S → Res ε δ) → Res ε δ} {G1 : α → Sto}
    {Mb : α → S → (β → S → Res Unit (Option β × S)) → Res Unit (Option β × S)}
    (hi : EvItC K X De wi G Dd s cnd M R) (hg : ∀ x, EvW g vs (wipeG G vs) (R x) (G1 x)) (cm : ∀ s c, cnd (c :: Dd s))
    (hb : ∀ x s1 (c : Addr × OTy), EvC K (fun _ => E0) (fun _ : Unit => []) te (G1 x) (fun s => c :: Dd s) s1 (Mb x s1) Re) :
    EvNC K X De (tLc wi g tYes te vs) G Dd s (fun kk => M fun xs s1 => Res.bind (Res.grd (xs.length ≤ 100000) xs) fun xs => Res.bind (Res.calm (Res.lc (fun x s1 => Mb x s1 fun y s3 => .ok (some y, s3)) xs s1)) fun z => kk z.1 z.2) (OLT Re) :=
  evnc_lc (Mt := fun x s1 kk => kk true s1) hi hg cm (fun x s1 c => evtc_of evT_yes) hb
theorem evItc_LT {R : α → Ty} {R0 : List α → Ty} {X : L2.St → XK} {M : (List α → S → Res ε δ) → Res ε δ} (h : EvC K X De te G Dd s M R0) (f : ∀ xs v F, (R0 xs).p v F → ∃ a vs, v = .ref a ∧ SqL K F a vs ∧ AllP F (xs.map R) vs) : EvItC K X De (iSeq K te) G Dd s (fun _ => True) M R := fun kk σ H F hs ss o r Q hm q qe =>
  .inl (h kk σ H F hs ss o r _ hm (fun xs s1 v H1 F1 t1 hs1 r1 hm1 => by
    obtain ⟨a, vs, rfl, h1, h2⟩ := f xs v F1 r1
    refine ⟨a, rfl, ⟨vs, sqL_up hs1 h1⟩, q xs s1 _ H1 F1 t1 hs1 (fun D H2 F2 _ s2 hs2 i => ⟨fun R' hR => ?_, fun hl => ?_⟩) hm1⟩
    · obtain ⟨v, e1, e2⟩ := h2.get hR
      have sq : SqL K H2 a vs := sqL_up hs2 (s2.seq h1)
      refine ⟨⟨vs, v, sq, e1⟩, fun x H' hy => ?_⟩
      obtain ⟨e3, e4⟩ := hy
      subst e3
      have e5 := e4 vs sq
      rw [e1] at e5
      cases e5
      exact ⟨F2, Same.refl _, hs2, R'.mono s2 e2⟩
    · exact ⟨vs, sqL_up hs2 (s2.seq h1), by rw [h2.len]; exact hl⟩) qe)
theorem evItc_VT {R : α → Ty} {R0 : List α → Ty} {X : L2.St → XK} {M : (List α → S → Res ε δ) → Res ε δ} (h : EvC K X De te G Dd s M R0) (f : ∀ xs v F, (R0 xs).p v F → ∃ a vs, v = .ref a ∧ SqT K F a vs ∧ AllP F (xs.map R) vs) : EvItC K X De (iSeq K te) G Dd s (fun _ => True) M R := fun kk σ H F hs ss o r Q hm q qe =>
  .inr (.inl (h kk σ H F hs ss o r _ hm (fun xs s1 v H1 F1 t1 hs1 r1 hm1 => by
    obtain ⟨a, vs, rfl, h1, h2⟩ := f xs v F1 r1
    refine ⟨a, rfl, ⟨vs, sqT_up hs1 h1⟩, q xs s1 _ H1 F1 t1 hs1 (fun D H2 F2 _ s2 hs2 i => ⟨fun R' hR => ?_, fun hl => ?_⟩) hm1⟩
    · obtain ⟨v, e1, e2⟩ := h2.get hR
      have sq : SqT K H2 a vs := sqT_up hs2 (same_sqT s2 h1)
      refine ⟨⟨vs, v, sq, e1⟩, fun x H' hy => ?_⟩
      obtain ⟨e3, e4⟩ := hy
      subst e3
      have e5 := e4 vs sq
      rw [e1] at e5
      cases e5
      exact ⟨F2, Same.refl _, hs2, R'.mono s2 e2⟩
    · exact ⟨vs, sqT_up hs2 (same_sqT s2 h1), by rw [h2.len]; exact hl⟩) qe))
theorem evItc_V {e : α → PyData} {X : L2.St → XK} {M : (List α → S → Res ε δ) → Res ε δ} (h : EvC K X De te G Dd s M (tD K (eV e))) : EvItC K X De (iSeq K te) G Dd s (fun _ => True) M (tD K e) :=
  evItc_VT h fun xs v F r => let ⟨a, vs, h0, h1, h2⟩ := dp_tup r; ⟨a, vs, h0, h1, map_allP h2⟩
def rangeL (lo : Int) (n : Nat) : List Int := (List.range n).map fun i : Nat => lo + (i : Int)
theorem itr_okT {lo : Int} {n : Nat} {F : Hp} : ItOkT (Itr lo n) (fun _ => True) ((rangeL lo n).map (tD K eI)) F := by
  have h := itOkT_of (K := K) (itr_ok (K := K) (lo := lo) (n := n) (F := F))
  have e : (rangeD lo n).map (TL.D K) = (rangeL lo n).map (tD K eI) := by
    unfold rangeD rangeL
    rw [List.map_map, List.map_map]
    rfl
  rw [e] at h
  exact h
theorem evItc_rng1 {X : L2.St → XK} {M : (Int → S → Res ε δ) → Res ε δ} (h : EvC K X De te G Dd s M (tD K eI)) :
    EvItC K X De (iRng1 (tCons te tNil)) G Dd s (fun _ => True) (fun kk => M fun n s1 => Res.bind (Res.grd (-(2 ^ 62) ≤ n ∧ n < 2 ^ 62) (rangeL 0 n.toNat)) fun xs => kk xs s1) (tD K eI) := fun kk σ H F hs ss o r Q hm q qe =>
  h _ σ H F hs ss o r _ hm (fun n s1 v H1 F1 t1 hs1 r1 hm1 => by
    obtain ⟨hn, hm2⟩ := Res.sat_grd hm1
    exact ⟨n, by rw [dp_int r1], hn.1, hn.2, q _ s1 _ H1 F1 t1 hs1 itr_okT hm2⟩) qe
theorem go_appC {R : α → Ty} {xs : List α} {k : Nat} {a : Addr} {M : (α → S → Res ε ρ) → Res ε ρ} {kk : List α × S → Res ε ρ} (ho : G[n]? = some (some (Is (.ref a)))) (h : EvC K w.X w.De te G Dd s M R) (hk : ∀ s, (Dd s)[k]? = some (a, OLT R xs))
    {m : Res ε ρ} (hP : w.W F0 m) (q : ∀ x, w.W F0 (kk x) → Go E.nx F0 G ((Dd x.2).set k (a, OLT R x.1))) (c : w.cond G := by first | exact trivial | walk_at "cond") (hm : m = (M fun v s' => Res.bind (Res.grd (xs.length < 100000) (xs ++ [v], s')) kk) := by exact rfl) : Go (tDrop (tBM K "list" rAppend (tVar n) (tCons te tNil)) E) F0 G (Dd s) := by subst hm; exact (fun σ H F t hs ss => by
  obtain ⟨v0, e0, r0⟩ := ss.get ho
  have r0' : v0 = .ref a := r0
  subst r0'
  obtain ⟨o1, ho1, xs1, rfl, h21⟩ := hs.at (hk s)
  refine ⟨_, e0, .inl ⟨rfl, xs1, SqL.of ho1⟩, h _ σ H F hs ss _ _ _ hP (fun x s' v H1 F1 t1 hs1 r1 hm => ?_) (fun n e hr H1 F1 t1 hs1 => w.err hr c σ H1 F1 (t.trans t1) hs1 (ss.mono t1))⟩
  obtain ⟨hl, hm2⟩ := Res.sat_grd hm
  obtain ⟨o, ho, vs, rfl, h2⟩ := hs1.at (hk s')
  have l2 := h2.len
  rw [List.length_map] at l2
  refine ⟨a, vs, v, rfl, rfl, ho, by rw [l2]; exact Nat.lt_of_lt_of_le hl sizeLine_big, ?_⟩
  exact q (xs ++ [x], s') hm2 σ _ F1 (t.trans t1) (hs1.put (hk s') ⟨_, rfl, by rw [List.map_append]; exact h2.append (.cons r1 .nil)⟩) (ss.mono t1))
theorem allP_set {F : Hp} {R : α → Ty} {v : V} {x : α} (hv : (R x).p v F) : ∀ {xs : List α} {vs : List V}, AllP F (xs.map R) vs → ∀ i, AllP F ((xs.set i x).map R) (vs.set i v)
  | [], _, h, i => by cases h; exact .nil
  | y :: xs, _, h, i => by
    cases h with
    | cons h1 h2 =>
      cases i with
      | zero => exact .cons hv h2
      | succ i => exact .cons h1 (allP_set hv h2 i)
theorem go_setO1 {R : α → Ty} {xs : List α} {k : Nat} {a : Addr} {Ma : (α → S → Res ε ρ) → Res ε ρ} {Mi : S → (Int → S → Res ε ρ) → Res ε ρ} {kk : List α × S → Res ε ρ} (ho : G[n]? = some (some (Is (.ref a)))) (h : EvC K w.X w.De te G Dd s Ma R) (hi : ∀ s1, EvC K w.X w.De tb G Dd s1 (Mi s1) (tD K eI)) (hk : ∀ s, (Dd s)[k]? = some (a, OLT R xs))
    {m : Res ε ρ} (hP : w.W F0 m) (q : ∀ x, w.W F0 (kk x) → Go E.nx F0 G ((Dd x.2).set k (a, OLT R x.1))) (c : w.cond G := by first | exact trivial | walk_at "cond") (hm : m = (Ma fun v s1 => Mi s1 fun i s2 => Res.bind (Res.opt (ixN xs.length i)) fun j => Res.bind (.ok (xs.set j v, s2)) kk) := by exact rfl) : Go (tAsg te (gSub (tVar n) tb rSetL) E) F0 G (Dd s) := by subst hm; exact (fun σ H F t hs ss =>
  h _ σ H F hs ss _ _ _ hP (fun x s1 v H1 F1 t1 hs1 r1 hm => by
    obtain ⟨v0, e0, r0⟩ := ss.get ho
    have r0' : v0 = .ref a := r0
    subst r0'
    refine ⟨_, e0, hi s1 _ σ H1 F1 hs1 (ss.mono t1) _ _ _ hm (fun i s2 u H2 F2 t2 hs2 r2 hm2 => ?_) (fun n e hr H2 F2 t2 hs2 => w.err hr c σ H2 F2 ((t.trans t1).trans t2) hs2 ((ss.mono t1).mono t2))⟩
    obtain ⟨j, ej, hm3⟩ := Res.sat_opt hm2
    obtain ⟨o, ho, vs, rfl, h2⟩ := hs2.at (hk s2)
    have l2 := h2.len
    rw [List.length_map] at l2
    refine ⟨a, vs, i, j, rfl, dp_int r2, ho, by rw [l2]; exact ej, ?_⟩
    exact q (xs.set j x, s2) hm3 σ _ F2 ((t.trans t1).trans t2) (hs2.put (hk s2) ⟨_, rfl, allP_set ((R x).mono t2 r1) h2 j⟩) ((ss.mono t1).mono t2)) (fun n e hr H1 F1 t1 hs1 => w.err hr c σ H1 F1 (t.trans t1) hs1 (ss.mono t1)))
theorem pure_ofLaw {N : List Str} {tf : TS} {mf : List Int → Res Unit Bool} (htrue : ∀ ns : List Int, ns.length ≤ 63 → mf ns = .ok true) {vs : List V} {H : Hp} {Q : VK} {X : XK}
    (walk : ∀ (x : List Int) (F : Hp) (D : Own) (E : Ends), E.rt = Q → (∀ (K : PySem.W.Frag) G D1, GoV Q F (DN K) D1 → Go E.nx F G D1) → (dwish K X Q (fun r : Bool => .ok (tD K eB r)) (fun _ => D) (fun _ : Unit => D)).W F (mf x) → Go (tf E) F (some (tD K (eL eI) x) :: List.replicate (N.length - 1) none) D)
    (h : lawSp K vs H Q X) : tf { nx := fun _ H' => Q .non H', rt := Q } (L2.start N vs) H := by
  obtain ⟨x, F, D, hs, ha, hl, hp⟩ := h
  have z := SS.start (N := N) ha
  rw [ha.len] at z
  refine walk x F D { nx := fun _ H' => Q .non H', rt := Q } rfl (fun K G D1 k σ H F1 s hs ss => k _ H F1 s hs .non) ?_ _ H F (Same.refl _) hs z
  rw [htrue x hl]
  exact hp
theorem spP_len {args : τ → List Ty} {mf : τ → Res Unit γ} {out : γ → Out} {n : Nat} (e : ∀ x, (args x).length = n) : ∀ vs H Q E, spP K args mf out vs H Q E → vs.length = n := fun vs H Q E ⟨x, F, D, _, ha, _⟩ => by rw [ha.len, e]
theorem spC_len {O : ω → OTy} {args : Addr → τ → List Ty} {mf : τ → ω → Res ω (γ × ω)} {out : γ → Out} {n : Nat} (e : ∀ a x, (args a x).length = n) : ∀ vs H Q E, spC K O args mf out vs H Q E → vs.length = n := fun vs H Q E ⟨x, y, F, D, k, a, _, _, ha, _⟩ => by rw [ha.len, e]
end
end TL
end
section
set_option Elab.async false
set_option linter.all false
set_option maxRecDepth 100000
set_option maxHeartbeats 1000000
namespace TL
open PySem PySem.Spec L2
def tFrz (t : TS) : TS := fun D σ H => ∃ d u, H d = some u ∧ Mut (some u) ∧ ∀ od, t D σ (upd H d (.frz od u))
theorem ps_frz {X : Cx} {st : Stmt} {t : TS} (h : PS X st t) : PS X st (tFrz t) := by
  refine ⟨fun pins s σ H D I hw => ?_⟩
  obtain ⟨d, u, hd, mu, hw⟩ := hw
  obtain ⟨od, I1⟩ := I.lock hd mu
  exact h.run pins s σ _ D I1 (hw od)
def dget {κ α : Type} [DecidableEq κ] (m : List (κ × α)) (k : κ) : Option α := (m.find? fun e => decide (e.1 = k)).map (·.2)
def dput {κ α : Type} [DecidableEq κ] (m : List (κ × α)) (k : κ) (d : α) : List (κ × α) :=
  if (m.any fun e => decide (e.1 = k)) = true then m.map (fun e => if e.1 = k then (e.1, d) else e) else m ++ [(k, d)]
section
variable {K : PySem.W.Frag} {ε ε' ρ α β γ δ S τ τ' σt ω : Type} {X : L2.St → XK} {De : ε → Own} {G G1 G2 : Sto} {D0 : Own} {Dd : S → Own} {s : S} {te ta tb tc tx : TE} {tt tu : TT} {F0 F1 : Hp} {E : Ends} {w : Wish K ε ρ} {t : TA} {n : Nat}
section
variable {R : α → Ty} {f : α → List (Tx × β)} {e : β → PyData} {Ma : (α → S → Res ε δ) → Res ε δ} {Mb : S → (Tx → S → Res ε δ) → Res ε δ}
theorem isD_of {H : Hp} {a : Addr} {kvs : List (L2.Key × V)} (h : H a = some (.dK kvs) ∨ ∃ od, H a = some (.frz od (.dK kvs))) : IsD H a := by
  rcases h with h | ⟨od, h⟩
  · exact .inl ⟨kvs, .inl h⟩
  · exact .inl ⟨kvs, .inr ⟨od, h⟩⟩
end
theorem set_get {σ : L2.St} {i : Nat} {v : V} (e : σ[i]? = some (some v)) : σ.set i (some v) = σ := by
  refine List.ext_getElem? fun j => ?_
  by_cases q : j = i
  · subst q
    have lt : j < σ.length := (List.getElem?_eq_some_iff.mp e).1
    rw [List.getElem?_set_self lt, e]
  · rw [List.getElem?_set_ne (Ne.symm q)]
theorem erase_perm {α : Type} : ∀ {l : List α} {k : Nat} {x : α}, l[k]? = some x → (x :: l.eraseIdx k).Perm l
  | [], k, x, h => by simp at h
  | y :: l, 0, x, h => by
    simp at h
    subst h
    exact List.Perm.refl _
  | y :: l, k + 1, x, h => by
    have ih := erase_perm (l := l) (k := k) (x := x) (by simpa using h)
    rw [List.eraseIdx_cons_succ]
    exact (List.Perm.swap y x _).trans (ih.cons y)
theorem hs_front {D : Own} {H F : Hp} (hs : HS D H F) {k : Nat} {a : Addr} {O : OTy} (hk : D[k]? = some (a, O)) : HS ((a, O) :: D.eraseIdx k) H F := hs.perm (erase_perm hk).symm
theorem go_retOC {k i : Nat} {a : Addr} {O : α → OTy} (x : α) (rr : ρ) (hk : D0[k]? = some (a, O x)) (hi : G[i]? = some (some (Is (.ref a)))) (hP : w.W F0 (.ok rr)) (hr : ∀ F, w.o F rr → GoN E.rt F (O x) (D0.eraseIdx k)) : Go (tRet (tVar i) E) F0 G D0 := fun σ H F t hs ss => by
  obtain ⟨v, e1, e2⟩ := ss.get hi
  have ev : v = .ref a := e2
  subst ev
  exact ⟨_, e1, hr F0 hP a H F t (hs_front hs hk)⟩
end
end TL
end
section
set_option Elab.async false
set_option linter.all false
set_option maxRecDepth 100000
set_option maxHeartbeats 1000000
def Res.fuel : Nat := 2 ^ 20000
theorem Res.fuel_big {n : Nat} (h : n < 2 ^ 20000) : n < Res.fuel := h
namespace TL
open PySem PySem.Spec L2
def leT (a b : Tx) : Bool := !ltCps b.s.cps.toList a.s.cps.toList
theorem leT_trans (a b c : Tx) (h : leT a b = true) (k : leT b c = true) : leT a c = true := by
  unfold leT at *
  simp only [Bool.not_eq_true'] at *
  cases e : ltCps c.s.cps.toList a.s.cps.toList with
  | false => rfl
  | true =>
    exfalso
    by_cases q : ltCps b.s.cps.toList a.s.cps.toList = true
    · rw [h] at q; cases q
    · by_cases q2 : ltCps a.s.cps.toList b.s.cps.toList = true
      · have := lt_tr e q2
        rw [k] at this; cases this
      · have e2 := lt_tri (Bool.eq_false_iff.mpr q) (Bool.eq_false_iff.mpr q2)
        rw [← e2] at e
        rw [k] at e; cases e
theorem leT_total (a b : Tx) : (leT a b || leT b a) = true := by
  unfold leT
  cases e : ltCps b.s.cps.toList a.s.cps.toList with
  | false => rfl
  | true =>
    cases e2 : ltCps a.s.cps.toList b.s.cps.toList with
    | false => rfl
    | true =>
      have := lt_tr e e2
      rw [lt_irr] at this; cases this
theorem leT_anti {a b : Tx} (h : leT a b = true) (k : leT b a = true) : a = b := by
  unfold leT at *
  simp only [Bool.not_eq_true'] at *
  exact Tx.ext' (str_ext (lt_tri k h))
def sortT (xs : List Tx) : List Tx := xs.mergeSort leT
theorem sortT_perm (xs : List Tx) : (sortT xs).Perm xs := List.mergeSort_perm _ _
theorem sortT_le (xs : List Tx) : (sortT xs).Pairwise fun a b => leT a b = true := List.pairwise_mergeSort leT_trans leT_total xs
theorem sortT_of {xs ys : List Tx} (p : ys.Perm xs) (h : ys.Pairwise fun a b => leT a b = true) : ys = sortT xs :=
  List.Perm.eq_of_pairwise (fun a b _ _ => leT_anti) h (sortT_le xs) (p.trans (sortT_perm xs).symm)
theorem rising_le : ∀ {p : Tx} {r : List Tx}, PyProof.Rows.risingS p.s (r.map (·.s)) = true → (p :: r).Pairwise fun a b => leT a b = true
  | p, [], _ => List.pairwise_singleton _ _
  | p, x :: r, h => by
    simp only [List.map_cons, PyProof.Rows.risingS, Bool.and_eq_true] at h
    have ih := rising_le (p := x) (r := r) h.2
    rw [List.pairwise_cons]
    refine ⟨fun k hk => ?_, ih⟩
    rcases List.mem_cons.mp hk with e | m
    · subst e; exact h.1
    · exact leT_trans _ _ _ h.1 ((List.pairwise_cons.mp ih).1 k m)
theorem perm_lift : ∀ {ys : List Str} {xs : List Tx}, ys.Perm (xs.map (·.s)) → ∃ zs : List Tx, ys = zs.map (·.s) ∧ zs.Perm xs := fun {ys xs} h => by
  have : ∀ {a b : List Str}, a.Perm b → ∀ {xs : List Tx}, b = xs.map (·.s) → ∃ zs : List Tx, a = zs.map (·.s) ∧ zs.Perm xs := by
    intro a b p
    induction p with
    | nil => intro xs e; cases xs with
      | nil => exact ⟨[], rfl, .nil⟩
      | cons x xs => cases e
    | cons x p ih => intro xs e; cases xs with
      | nil => cases e
      | cons y xs =>
        rw [List.map_cons] at e
        injection e with e1 e2
        obtain ⟨zs, h1, h2⟩ := ih e2
        exact ⟨y :: zs, by rw [e1, h1]; rfl, h2.cons y⟩
    | swap x y l => intro xs e; match xs, e with
      | u :: v :: xs, e =>
        rw [List.map_cons, List.map_cons] at e
        injection e with e1 e2
        injection e2 with e2 e3
        exact ⟨v :: u :: xs, by rw [e1, e2, e3]; rfl, List.Perm.swap u v xs⟩
      | [], e => cases e
      | [_], e => simp at e
    | trans p q ih1 ih2 => intro xs e
                           obtain ⟨zs, h1, h2⟩ := ih2 e
                           obtain ⟨us, h3, h4⟩ := ih1 h1
                           exact ⟨us, h3, h4.trans h2⟩
  exact this h rfl
theorem sorted_is {ys : List Str} {xs : List Tx} (p : ys.Perm (xs.map (·.s))) (h : PyProof.Rows.sortedS ys = true) : ys = (sortT xs).map (·.s) := by
  obtain ⟨zs, rfl, q⟩ := perm_lift p
  have : zs.Pairwise fun a b => leT a b = true := by
    cases zs with
    | nil => exact .nil
    | cons z zs => exact rising_le h
  rw [sortT_of q this]
def cutL {α : Type} (xs : List α) (lo hi : Option Int) : List α := (xs.drop (HT.sIx xs.length 0 lo)).take (HT.sIx xs.length xs.length hi - HT.sIx xs.length 0 lo)
theorem allP_drop {F : Hp} {α : Type} {R : α → Ty} : ∀ {xs : List α} {vs : List V}, AllP F (xs.map R) vs → ∀ n, AllP F ((xs.drop n).map R) (vs.drop n)
  | _, _, h, 0 => h
  | [], _, h, n + 1 => by cases h; exact .nil
  | x :: xs, _, h, n + 1 => by
    cases h with
    | cons h1 h2 => exact allP_drop h2 n
theorem allP_take {F : Hp} {α : Type} {R : α → Ty} : ∀ {xs : List α} {vs : List V}, AllP F (xs.map R) vs → ∀ n, AllP F ((xs.take n).map R) (vs.take n)
  | _, _, h, 0 => .nil
  | [], _, h, n + 1 => by cases h; exact .nil
  | x :: xs, _, h, n + 1 => by
    cases h with
    | cons h1 h2 => exact .cons h1 (allP_take h2 n)
theorem allP_cut {F : Hp} {α : Type} {R : α → Ty} {xs : List α} {vs : List V} (h : AllP F (xs.map R) vs) (lo hi : Option Int) : AllP F ((cutL xs lo hi).map R) (cutV vs lo hi) := by
  have l := h.len
  rw [List.length_map] at l
  unfold cutV cutL
  rw [l]
  exact allP_take (allP_drop h _) _
theorem join_cons (a x y : Str) (xs : List Str) : Txt.join a (x :: y :: xs) = (x ++ a) ++ Txt.join a (y :: xs) := by
  rw [TL.join_eq, TL.join_eq]
  rfl
theorem join_ok (a : Tx) : ∀ xs : List Tx, ∀ c ∈ (Txt.join a.s (xs.map (·.s))).cps.toList, c < 0x110000
  | [], c, hc => by
    rw [List.map_nil, TL.join_eq] at hc
    cases hc
  | [x], c, hc => by
    rw [List.map_cons, List.map_nil, TL.join_eq] at hc
    exact x.all c hc
  | x :: y :: xs, c, hc => by
    have h' := hc
    rw [List.map_cons, List.map_cons, join_cons, app_cps, app_cps, List.append_assoc] at h'
    rcases List.mem_append.mp h' with h1 | h1
    · exact x.all c h1
    · rcases List.mem_append.mp h1 with h2 | h2
      · exact a.all c h2
      · exact join_ok a (y :: xs) c h2
def Tx.join (a : Tx) (xs : List Tx) : Tx := ⟨Txt.join a.s (xs.map (·.s)), canLay_of (join_ok a xs)⟩
def joinC (a : Tx) (xs : List Tx) : Prop := (xs.map Tx.len).sum + xs.length * a.len ≤ 16777216
section
variable {K : PySem.W.Frag} {ε ε' ρ α β γ δ S τ τ' σt ω : Type} {X : L2.St → XK} {De : ε → Own} {G G1 G2 : Sto} {D0 : Own} {Dd : S → Own} {s : S} {te ta tb tc tx : TE} {tt tu : TT} {F0 F1 : Hp} {E : Ends} {w : Wish K ε ρ} {t : TA} {n : Nat} {tl th : TO}
theorem evc_strC {x : Str} (c : Tx) (e : c.s = x) : EvC (β := β) K X De (tC (.str x)) G Dd s (fun kk => kk c s) (tD K eS) := evc_of ev_str (by rw [← e])
instance (i j : Int) : Decidable (CPow i j) := inferInstanceAs (Decidable (_ ∧ _ ∧ _))
theorem evc_powC {a b c : Int} (h : CPow a b) (e : a ^ b.toNat = c) : EvC (β := β) K X De (tOp rPowI (tC (.int a)) (tC (.int b))) G Dd s (fun kk => kk c s) (tD K eI) := evc_of (ev_pow ev_int ev_int h) (by rw [e])
theorem allP_strs {F : Hp} {xs : List Tx} {vs : List V} (h : AllP F (xs.map (tD K eS)) vs) : vs = (xs.map (·.s)).map V.str := by
  have h2 := allP_map h
  have e : xs.map eS = (xs.map (·.s)).map PyData.str := by rw [List.map_map]; rfl
  rw [e] at h2
  exact strs_of h2
section
variable {R : α → Ty} {f : α → List Tx} {Ma : (Tx → S → Res ε δ) → Res ε δ} {Mb : S → (α → S → Res ε δ) → Res ε δ}
theorem mem_txs {x : Tx} {xs : List Tx} : decide (x.s ∈ xs.map (·.s)) = decide (x ∈ xs) := by
  have : x.s ∈ xs.map (·.s) ↔ x ∈ xs := ⟨fun h => let ⟨y, h1, h2⟩ := List.mem_map.mp h; Tx.ext' h2 ▸ h1, fun h => List.mem_map_of_mem h⟩
  exact decide_eq_decide.mpr this
theorem evc_inS (hv : SView K Dd R f (tD K eS)) (ha : EvC K X De ta G Dd s Ma (tD K eS)) (hb : ∀ s1, EvC K X De tb G Dd s1 (Mb s1) R) : EvC K X De (tOp (rIn K false) ta tb) G Dd s (fun kk => Ma fun a s1 => Mb s1 fun b s2 => kk (decide (a ∈ f b)) s2) (tD K eB) :=
  evc2 ha hb fun a b s2 x y H F hs rx ry Q q => by
    obtain ⟨p, vs, rfl, h1, h2⟩ := hv b s2 y H F hs ry
    have e := allP_strs h2
    subst e
    refine ⟨p, _, rfl, h1, by rw [dp_str rx]; rfl, flat_strs _, ?_⟩
    have e : inV x (((f b).map (·.s)).map V.str) = decide (a ∈ f b) := by rw [dp_str rx, inV_strs, mem_txs]
    simp only [e]
    exact q _ H F (Same.refl _) hs (.bl _)
theorem evc_notinS (hv : SView K Dd R f (tD K eS)) (ha : EvC K X De ta G Dd s Ma (tD K eS)) (hb : ∀ s1, EvC K X De tb G Dd s1 (Mb s1) R) : EvC K X De (tOp (rIn K true) ta tb) G Dd s (fun kk => Ma fun a s1 => Mb s1 fun b s2 => kk (!decide (a ∈ f b)) s2) (tD K eB) :=
  evc2 ha hb fun a b s2 x y H F hs rx ry Q q => by
    obtain ⟨p, vs, rfl, h1, h2⟩ := hv b s2 y H F hs ry
    have e := allP_strs h2
    subst e
    refine ⟨p, _, rfl, h1, by rw [dp_str rx]; rfl, flat_strs _, ?_⟩
    have e : inV x (((f b).map (·.s)).map V.str) = decide (a ∈ f b) := by rw [dp_str rx, inV_strs, mem_txs]
    simp only [e]
    exact q _ H F (Same.refl _) hs (.bl _)
end
def EvOC (K : PySem.W.Frag) {ε β S : Type} (X : L2.St → XK) (De : ε → Own) (to : TO) (G : Sto) (Dd : S → Own) (s : S) (M : (Option Int → S → Res ε β) → Res ε β) : Prop :=
  ∀ (kk : Option Int → S → Res ε β) (σ : L2.St) (H F : Hp), HS (Dd s) H F → SS F G σ → ∀ (o : β → Prop) (r : Str → ε → Prop) (Q : Option Int → Hp → Prop), (M kk).sat o r →
    (∀ x s' H' F', Same F F' → HS (Dd s') H' F' → (kk x s').sat o r → Q x H') → (∀ n e, r n e → ∀ H' F', Same F F' → HS (De e) H' F' → X σ (.ref (He.ga K n)) none H') → to σ H Q
theorem evo_none : EvOC (β := β) K X De tNoPart G Dd s (fun kk => kk none s) := fun kk σ H F hs ss o r Q hm q _ => q none s H F (Same.refl _) hs hm
theorem evo_some {M : (Int → S → Res ε β) → Res ε β} (h : EvC K X De te G Dd s M (tD K eI)) : EvOC K X De (tPart te) G Dd s (fun kk => M fun i s1 => kk (some i) s1) := fun kk σ H F hs ss o r Q hm q qe =>
  h _ σ H F hs ss o r _ hm (fun i s1 v H1 F1 t1 hs1 r1 hm1 => ⟨i, dp_int r1, q (some i) s1 H1 F1 t1 hs1 hm1⟩) qe
section
variable {R : α → Ty} {f : α → List β} {Re : β → Ty} {Ma : (α → S → Res ε δ) → Res ε δ} {Ml Mh : S → (Option Int → S → Res ε δ) → Res ε δ}
theorem evnc_slL (hv : SView K Dd R f Re) (hvL : ∀ x s v H F, HS (Dd s) H F → (R x).p v F → ∃ a vs, v = .ref a ∧ SqL K H a vs ∧ AllP F ((f x).map Re) vs) (ha : EvC K X De te G Dd s Ma R) (hl : ∀ s1, EvOC K X De tl G Dd s1 (Ml s1)) (hh : ∀ s1, EvOC K X De th G Dd s1 (Mh s1)) :
    EvNC K X De (tSl (rSlL K) te tl th) G Dd s (fun kk => Ma fun a s1 => Ml s1 fun lo s2 => Mh s2 fun hi s3 => kk (cutL (f a) lo hi) s3) (OLT Re) := fun kk σ H F hs ss o r Q hm q qe =>
  ha _ σ H F hs ss o r _ hm (fun a s1 v H1 F1 t1 hs1 r1 hm1 => hl s1 _ σ H1 F1 hs1 (ss.mono t1) o r _ hm1 (fun lo s2 H2 F2 t2 hs2 hm2 => hh s2 _ σ H2 F2 hs2 ((ss.mono t1).mono t2) o r _ hm2 (fun hi s3 H3 F3 t3 hs3 hm3 => by
    obtain ⟨p, vs, rfl, h1, h2⟩ := hvL a s3 v H3 F3 hs3 ((R a).mono (t2.trans t3) r1)
    exact ⟨p, vs, rfl, h1, fun u hu => q _ s3 u _ F3 ((t1.trans t2).trans t3) (hs3.new hu ⟨_, rfl, allP_cut h2 lo hi⟩) hm3⟩)
    (fun n e h H3 F3 t3 => qe n e h H3 F3 ((t1.trans t2).trans t3))) (fun n e h H2 F2 t2 => qe n e h H2 F2 (t1.trans t2))) qe
theorem evnc_lstS (hv : SView K Dd R f Re) (ha : EvC K X De ta G Dd s Ma R) : EvNC K X De (tCB (cLst K) (tCons ta tNil)) G Dd s (fun kk => Ma fun a s1 => kk (f a) s1) (OLT Re) := fun kk σ H F hs ss o r Q hm q qe =>
  ha _ σ H F hs ss o r _ hm (fun a s1 v H1 F1 t1 hs1 r1 hm1 => by
    obtain ⟨p, vs, rfl, h1, h2⟩ := hv a s1 v H1 F1 hs1 r1
    exact .inl ⟨p, vs, rfl, h1, fun u hu => q _ s1 u _ F1 t1 (hs1.new hu ⟨_, rfl, h2⟩) hm1⟩) qe
end
theorem lv_LT {Re : α → Ty} : ∀ x s v H F, HS (Dd s) H F → (LT K Re x).p v F → ∃ a vs, v = .ref a ∧ SqL K H a vs ∧ AllP F ((id x).map Re) vs := fun x s v H F hs ⟨a, vs, e, h1, h2⟩ => ⟨a, vs, e, sqL_up hs h1, h2⟩
theorem evc_slS {Ma : (Tx → S → Res ε δ) → Res ε δ} {Ml Mh : S → (Option Int → S → Res ε δ) → Res ε δ} (ha : EvC K X De te G Dd s Ma (tD K eS)) (hl : ∀ s1, EvOC K X De tl G Dd s1 (Ml s1)) (hh : ∀ s1, EvOC K X De th G Dd s1 (Mh s1)) :
    EvC K X De (tSl rSlS te tl th) G Dd s (fun kk => Ma fun a s1 => Ml s1 fun lo s2 => Mh s2 fun hi s3 => Res.bind (Res.grd (Tx.len a ≤ 100000) (Tx.cut a lo hi)) fun z => kk z s3) (tD K eS) := fun kk σ H F hs ss o r Q hm q qe =>
  ha _ σ H F hs ss o r _ hm (fun a s1 v H1 F1 t1 hs1 r1 hm1 => hl s1 _ σ H1 F1 hs1 (ss.mono t1) o r _ hm1 (fun lo s2 H2 F2 t2 hs2 hm2 => hh s2 _ σ H2 F2 hs2 ((ss.mono t1).mono t2) o r _ hm2 (fun hi s3 H3 F3 t3 hs3 hm3 => by
    obtain ⟨c, hm4⟩ := Res.sat_grd hm3
    rw [dp_str r1]
    exact ⟨a.s, rfl, Nat.le_trans c sizeLine_big, q (Tx.cut a lo hi) s3 _ H3 F3 ((t1.trans t2).trans t3) hs3 (.str _) hm4⟩)
    (fun n e h H3 F3 t3 => qe n e h H3 F3 ((t1.trans t2).trans t3))) (fun n e h H2 F2 t2 => qe n e h H2 F2 (t1.trans t2))) qe
theorem evc_join {Ma : (Tx → S → Res ε δ) → Res ε δ} {Mb : S → (List Tx → S → Res ε δ) → Res ε δ} (ha : EvC K X De ta G Dd s Ma (tD K eS)) (hb : ∀ s1, EvC K X De tb G Dd s1 (Mb s1) (tD K (eL eS))) :
    EvC K X De (tM1 (rJoin K) ta tb) G Dd s (fun kk => Ma fun a s1 => Mb s1 fun b s2 => Res.bind (Res.grd (joinC a b) (Tx.join a b)) fun z => kk z s2) (tD K eS) := fun kk σ H F hs ss o r Q hm q qe =>
  ha _ σ H F hs ss o r _ hm (fun a s1 v H1 F1 t1 hs1 r1 hm1 => ⟨⟨a.s, dp_str r1⟩, hb s1 _ σ H1 F1 hs1 (ss.mono t1) o r _ hm1 (fun b s2 u H2 F2 t2 hs2 r2 hm2 => by
    obtain ⟨c, hm3⟩ := Res.sat_grd hm2
    obtain ⟨p, xs, rfl, h1, h2⟩ := dp_lst r2
    have e := allP_strs (map_allP h2)
    subst e
    refine ⟨a.s, p, b.map Tx.s, dp_str r1, rfl, .inl (sqL_up hs2 h1), ?_, q (Tx.join a b) s2 (.str (Tx.join a b).s) H2 F2 (t1.trans t2) hs2 (.str _) hm3⟩
    rw [List.map_map, List.length_map]
    exact c) (fun n e h H2 F2 t2 => qe n e h H2 F2 (t1.trans t2))⟩) qe
theorem evc_sortS {R : α → Ty} {f : α → List Tx} {Ma : (α → S → Res ε δ) → Res ε δ} (hvL : ∀ x s v H F, HS (Dd s) H F → (R x).p v F → ∃ a vs, v = .ref a ∧ SqL K H a vs ∧ AllP F ((f x).map (tD K eS)) vs) (ha : EvC K X De ta G Dd s Ma R) :
    EvC K X De (tCB (qSort K) (tCons ta tNil)) G Dd s (fun kk => Ma fun a s1 => Res.bind (Res.grd ((f a).length < 64) (sortT (f a))) fun z => kk z s1) (tD K (eL eS)) := fun kk σ H F hs ss o r Q hm q qe =>
  ha _ σ H F hs ss o r _ hm (fun a s1 v H1 F1 t1 hs1 r1 hm1 => by
    obtain ⟨c, hm2⟩ := Res.sat_grd hm1
    obtain ⟨p, vs, rfl, h1, h2⟩ := hvL a s1 v H1 F1 hs1 r1
    have e := allP_strs h2
    subst e
    refine .inl ⟨p, (f a).map (·.s), rfl, h1, by rw [List.length_map]; exact c, fun ys u pm so hu => ?_⟩
    have e := sorted_is pm so
    subst e
    have s4 : Same F1 (upd F1 u (.lst (((sortT (f a)).map (·.s)).map V.str))) := same_new (hs1.free hu)
    refine q _ s1 _ _ _ (t1.trans s4) (hs1.frz hu) (.lst (SqL.of upd_same) ?_) hm2
    have e2 : (sortT (f a)).map eS = ((sortT (f a)).map (·.s)).map PyData.str := by rw [List.map_map]; rfl
    rw [e2]
    exact dp_strs _) qe
end
end TL
end
section
set_option Elab.async false
set_option linter.all false
set_option maxRecDepth 100000
set_option maxHeartbeats 1000000
namespace Res
variable {ε ε' α β γ σ ρ : Type}
def tryE (kn : List (PySem.Str × Bool)) (mb : Res Unit σ) (mh : PySem.Str → Res ε ρ) (e0 : ε) (k : σ → Res ε ρ) : Res ε ρ := match mb with
  | .ok s => k s
  | .err n _ => match kn.lookup n with
    | some true => mh n
    | some false => .err n e0
    | none => .stuck
  | .stuck => .stuck
@[simp] theorem tryE_ok (kn : List (PySem.Str × Bool)) (s : σ) (mh : PySem.Str → Res ε ρ) (e0 : ε) (k : σ → Res ε ρ) : tryE kn (.ok s) mh e0 k = k s := rfl
end Res
namespace TL
open PySem PySem.Spec L2
section
variable {K : PySem.W.Frag} {ε ε' ρ α β γ δ S τ τ' σt ω : Type} {X : L2.St → XK} {Xk : XK} {De : ε → Own} {G G1 G2 : Sto} {D0 : Own} {Dd : S → Own} {s : S} {te ta tb tc : TE} {tt tu : TT} {F0 F1 : Hp} {E : Ends} {w : Wish K ε ρ} {t : TA} {n : Nat} {dvs : List V} {args : τ → List Ty} {Rs : τ' → List Ty}
theorem AllP.app {F : Hp} {vs ws : List V} {Rs Ss : List Ty} (h : AllP F Rs vs) (h' : AllP F Ss ws) : AllP F (Rs ++ Ss) (vs ++ ws) := by
  induction h with
  | nil => exact h'
  | cons a _ ih => exact .cons a ih
theorem go_ifF {t u : TS} (h : EvTC (β := ρ) K w.X w.De tt G (fun _ : Unit => D0) () (fun kk => kk false ())) {m : Res ε ρ} (hP : w.W F0 m) (h1 : w.W F0 m → Go (u E) F0 G D0) (c : w.cond G := by first | exact trivial | walk_at "cond") : Go (tIfS tt t u E) F0 G D0 := fun σ H F q hs ss =>
  h (fun b _ => if b = true then .stuck else m) σ H F hs ss _ _ _ hP (fun b _ H1 F1 t1 hs1 hm => by
    cases b with
    | false => exact h1 hP σ H1 F1 (q.trans t1) hs1 (ss.mono t1)
    | true => exact (show False from hm).elim) (fun n e hr H1 F1 t1 hs1 => w.err hr c σ H1 F1 (q.trans t1) hs1 (ss.mono t1))
theorem evc_isN {b : Bool} {x : α} {R : α → Ty} (h : EvC (β := δ) K X De te G Dd s (fun kk => kk x s) R) (hn : ∀ y v F, (R y).p v F → decide (v = V.non) = b) : EvC (β := δ) K X De (tIsN te) G Dd s (fun kk => kk b s) (tD K eB) := fun kk σ H F hs ss o r Q hm q qe =>
  h (fun _ s => kk b s) σ H F hs ss o r _ hm (fun y s1 v H1 F1 t1 hs1 r1 hm1 => by
    show Q (.bl (decide (v = V.non))) H1
    rw [hn y v F1 r1]
    exact q b s1 _ H1 F1 t1 hs1 (.bl b) hm1) qe
theorem isn_U : ∀ (y : Unit) (v : V) (F : Hp), (tD K eU y).p v F → decide (v = V.non) = true := fun y v F r => by
  have e : v = .non := dp_non r
  subst e
  rfl
theorem isn_D {e : α → PyData} (h : ∀ y, tyN (e y) ≠ "NoneType") : ∀ (y : α) (v : V) (F : Hp), (tD K e y).p v F → decide (v = V.non) = false := fun y v F r => decide_eq_false fun z => by
  subst z
  have r' : Dp K F .non (e y) := r
  have hy := h y
  generalize e y = d at r' hy
  cases r' with
  | non => exact hy rfl
end
end TL
end
section
set_option Elab.async false
set_option linter.all false
set_option maxRecDepth 100000
set_option maxHeartbeats 1000000
namespace TL
open PySem PySem.Spec L2
structure FoM (P : Program) (w : World) (K : PySem.W.Frag) (mg : Str → Option Value) (base : Heap) (C : Addr) (m : Str) (ps : List Str) (dvs : List V) (k : Nat) (sp : Sp) : Prop where
  ex : ∃ f fd ds, FnOk P w K mg base (L2.CX P w) k f fd ps sp ∧ Cls K C ∧ Meth K C m f ∧ Binds K fd ps ds ∧ Vals dvs ds
structure FoI (P : Program) (w : World) (K : PySem.W.Frag) (mg : Str → Option Value) (base : Heap) (x : Str) (C : Addr) (ps : List Str) (dvs : List V) (k : Nat) (sp : Sp) : Prop where
  ex : ∃ f fd ds, FnOk P w K mg base (L2.CX P w) k f fd ps sp ∧ mg x = some (.ref C) ∧ Mk K C f ∧ Binds K fd ps ds ∧ Vals dvs ds
def tMethSD (C : Addr) (m : Str) (sp : Sp) (dvs : List V) (E : L2.St → XK) (ta : TE) (t : TA) : TE := fun σ H Q => ta σ H fun x H1 => ∃ a dx fs, x = .ref a ∧ H1 a = some (.ins C dx fs) ∧ fs.lookup m = none ∧
  t σ H1 fun vs H2 => sp (x :: (vs ++ dvs)) H2 Q (E σ)
def tMakeSD (C : Addr) (sp : Sp) (dvs : List V) (E : L2.St → XK) (t : TA) : TE := fun σ H Q => t σ H fun vs H1 => ∀ x dx, H1 x = none → H1 dx = none → dx ≠ x →
  sp (.ref x :: (vs ++ dvs)) (upd (upd H1 dx (.own x)) x (.ins C dx [])) (fun v H2 => v = .non ∧ Q (.ref x) H2) (E σ)
section
variable {X : Cx} {k : Nat} {C : Addr} {ps : List Str} {sp : Sp} {dvs : List V} {W : WX} {x m : Str} {p pos apos : Pos} {e o : Expr} {es : List Expr} {ta : TE} {t : TA}
theorem run_fnS {f : Addr} {fd : FuncData} {ds : List Value} {pins : List (Addr × Obj)} {σ : L2.St} {H : Hp} {s : Shared} {Q : VK} {us : List Value} {vs : List V} (F : FnOk X.prog X.w X.K X.mg X.base (L2.CX X.prog X.w) k f fd ps sp) (hr : Room k X.A) (hb : Binds X.K fd ps ds) (hd : Vals dvs ds) (tk : Takes X W)
    (I : Inv X pins σ H s) (r : Vals vs us) (h : sp (vs ++ dvs) H Q (WE W σ)) : wpAny (model X.prog X.w) X.A (call (.ref f) us) (EP X pins σ Q) X.xe s := by
  have r2 : Vals (vs ++ dvs) (us ++ ds) := r.append hd
  have hl : (us ++ ds).length = ps.length := by rw [← r2.length]; exact F.len _ _ _ _ h
  refine wpAny_call (codeAny_mono (F.run X.A X.stack s H ⟨us, []⟩ (us ++ ds) (vs ++ dvs) Q (WE W σ) hr I.env0 (hb s us I.kIn hl) r2 h) fun r s' hq => ?_)
  cases r with
  | error e => exact passAt tk σ pins H s e s' I hq
  | ok fl =>
    cases fl with
    | ret u => exact I.after hq
    | next => exact False.elim hq
    | brk => exact False.elim hq
    | cont => exact False.elim hq
theorem pe_methF {pl : Sem Bool} (he : PE X o ta) (F : FoM X.prog X.w X.K X.mg X.base C m ps dvs k sp) (hr : Room k X.A) (tk : Takes X W) (ha : PA X (e :: es) t)
    (hst : starEach (e :: es) X.env = (false, eval e X.env) :: starEach es X.env := by rfl) (hpl : (backTo pos (starEach es X.env)).any (·.1) = false := by rfl)
    (ht : eval (.Call (.Attribute o m apos) (e :: es) [] pos) X.env = (do
      let ov ← eval o X.env
      standAt apos.atName
      let (f, first) ← holding [ov] (getMethod ov m pl)
      callWith pos f first (backTo pos (starEach (e :: es) X.env)) (backToKw pos (keywordEach [] X.env))) := by rfl) :
    PE X (.Call (.Attribute o m apos) (e :: es) [] pos) (tMethSD C m sp dvs (WE W) ta t) := by
  obtain ⟨f, fd, ds, FF, c, hm, hb, hd⟩ := F.ex
  refine ⟨fun pins s σ H Q I h => ?_⟩
  refine PySem.W.methodCall_KW (pl := pl) (thn (he.run pins s σ H _ I h) fun u s1 ⟨x, H1, I1, rx, a, dx, fs, ex, ea, l, q⟩ => ?_) ht
  subst ex
  obtain rfl : u = Value.ref a := rx
  refine getmeth_ok I1 ea c hm l ?_
  refine PySem.W.callWith_K (first := [.ref a]) (h₀ := X.base) I.ok.mod.kin hm.kp (thn (ha.run pos pins s1 σ H1 _ I1 q) fun us s2 ⟨vs, H2, I2, r, q2⟩ => ⟨I2.kIn, ?_⟩) hst hpl
  exact run_fnS (us := .ref a :: us) (vs := .ref a :: vs) FF hr hb hd tk I2 (.cons rfl r) q2
theorem pe_methF0 {pl : Sem Bool} (he : PE X o ta) (F : FoM X.prog X.w X.K X.mg X.base C m ps dvs k sp) (hr : Room k X.A) (tk : Takes X W)
    (ht : eval (.Call (.Attribute o m apos) [] [] pos) X.env = (do
      let ov ← eval o X.env
      standAt apos.atName
      let (f, first) ← holding [ov] (getMethod ov m pl)
      callWith pos f first (backTo pos (starEach [] X.env)) (backToKw pos (keywordEach [] X.env))) := by rfl) :
    PE X (.Call (.Attribute o m apos) [] [] pos) (tMethSD C m sp dvs (WE W) ta tNil) := by
  obtain ⟨f, fd, ds, FF, c, hm, hb, hd⟩ := F.ex
  refine ⟨fun pins s σ H Q I h => ?_⟩
  refine PySem.W.methodCall_KW (pl := pl) (thn (he.run pins s σ H _ I h) fun u s1 ⟨x, H1, I1, rx, a, dx, fs, ex, ea, l, q⟩ => ?_) ht
  subst ex
  obtain rfl : u = Value.ref a := rx
  refine getmeth_ok I1 ea c hm l ?_
  exact PySem.W.callWith_K0 (first := [.ref a]) I1.kIn hm.kp (run_fnS (us := [.ref a]) (vs := [.ref a]) FF hr hb hd tk I1 (.cons rfl .nil) q)
theorem run_makeS {f : Addr} {fd : FuncData} {ds : List Value} {pins : List (Addr × Obj)} {σ : L2.St} {H : Hp} {s : Shared} {Q : VK} {us : List Value} {vs : List V} (M : Mk X.K C f) (F : FnOk X.prog X.w X.K X.mg X.base (L2.CX X.prog X.w) k f fd ps sp) (hr : Room (k + 1) X.A) (hb : Binds X.K fd ps ds) (hd : Vals dvs ds)
    (tk : Takes X W) (I : Inv X pins σ H s) (r : Vals vs us)
    (h : ∀ x dx, H x = none → H dx = none → dx ≠ x → sp (.ref x :: (vs ++ dvs)) (upd (upd H dx (.own x)) x (.ins C dx [])) (fun v H2 => v = .non ∧ Q (.ref x) H2) (WE W σ)) :
    wpAny (model X.prog X.w) X.A (call (.ref C) us) (EP X pins σ Q) X.xe s := by
  have hq := h (s.heap.objs.size + 1) s.heap.objs.size (I.hok.fresh (Nat.le_succ _)) (I.hok.fresh (Nat.le_refl _)) (Nat.ne_of_lt (Nat.lt_succ_self _))
  have I2 := Inv.made (C := C) I
  have r2 : Vals (V.ref (s.heap.objs.size + 1) :: (vs ++ dvs)) (Value.ref (s.heap.objs.size + 1) :: (us ++ ds)) := .cons rfl (r.append hd)
  have hl : (Value.ref (s.heap.objs.size + 1) :: us ++ ds).length = ps.length := by
    have e := r2.length
    rw [F.len _ _ _ _ hq] at e
    exact e.symm
  refine wpAny_call (make_map (f := f) I.kIn M.makes M.init (beq_iff_eq.mp M.fn) (codeAny_mono (F.run _ X.stack _ _ ⟨Value.ref (s.heap.objs.size + 1) :: us, []⟩ (Value.ref (s.heap.objs.size + 1) :: (us ++ ds)) _ _ (WE W σ) (hr.make C us [])
    (I2.env0.make C us []) (hb _ (Value.ref (s.heap.objs.size + 1) :: us) I2.kIn hl) r2 hq) fun r s' hq' => ?_))
  cases r with
  | error e => exact passAt tk σ pins _ _ e s' I2 hq'
  | ok fl =>
    cases fl with
    | ret u =>
      obtain ⟨v, H', I3, rv, ev, q3⟩ := I2.after hq'
      subst ev
      exact ⟨rv, ⟨V.ref (s.heap.objs.size + 1), H', I3, rfl, q3⟩⟩
    | next => exact False.elim hq'
    | brk => exact False.elim hq'
    | cont => exact False.elim hq'
theorem pe_makeF (F : FoI X.prog X.w X.K X.mg X.base x C ps dvs k sp) (hr : Room (k + 1) X.A) (tk : Takes X W)
    (ha : PA X (e :: es) t) (hg : Gl X x := by rfl) (hdb : (x == ("__debug__" : Str)) = false := by decide) (he : starEach (e :: es) X.env = (false, eval e X.env) :: starEach es X.env := by rfl) (hpl : (backTo pos (starEach es X.env)).any (·.1) = false := by rfl) :
    PE X (.Call (.Name x p) (e :: es) [] pos) (tMakeSD C sp dvs (WE W) t) := by
  obtain ⟨f, fd, ds, FF, hm, M, hb, hd⟩ := F.ex
  refine ⟨fun pins s σ H Q I h => ?_⟩
  refine wpAny_Call_Name_kw (ld_glob I hg hm ?_ hdb)
  refine PySem.W.callWith_K (h₀ := X.base) I.ok.mod.kin M.kp (thn (ha.run pos pins s σ H _ I h) fun us s1 ⟨vs, H1, I1, r, q⟩ => ⟨I1.kIn, ?_⟩) he hpl
  exact run_makeS M FF hr hb hd tk I1 r q
end
abbrev Fds : Type := List (Str × Ty)
def FdsP (F : Hp) (fds : Fds) (fs : List (Str × V)) : Prop := fs.map (·.1) = fds.map (·.1) ∧ AllP F (fds.map (·.2)) (fs.map (·.2))
theorem FdsP.up {F F' : Hp} {fds : Fds} {fs : List (Str × V)} (h : FdsP F fds fs) (s : Same F F') : FdsP F' fds fs := ⟨h.1, h.2.mono s⟩
def OI (K : PySem.W.Frag) (C : Addr) (fds : Fds) : OTy := .fl (fun o F => ∃ dx fs, o = .ins C dx fs ∧ FdsP F fds fs) (fun s ⟨dx, fs, e, h⟩ => ⟨dx, fs, e, h.up s⟩)
def IN (K : PySem.W.Frag) (C : Addr) (fds : Fds) : Ty := ⟨fun v F => ∃ a dx fs, v = .ref a ∧ F a = some (.ins C dx fs) ∧ FdsP F fds fs, fun s ⟨a, dx, fs, e, h, h2⟩ => ⟨a, dx, fs, e, s _ _ h, h2.up s⟩⟩
def INa (K : PySem.W.Frag) (C : Addr) (a : Addr) (fds : Fds) : Ty := ⟨fun v F => v = .ref a ∧ ∃ dx fs, F a = some (.ins C dx fs) ∧ FdsP F fds fs, fun s ⟨e, dx, fs, h, h2⟩ => ⟨e, dx, fs, s _ _ h, h2.up s⟩⟩
theorem INa.to {K : PySem.W.Frag} {C a : Addr} {fds : Fds} {v : V} {F : Hp} (h : (INa K C a fds).p v F) : (IN K C fds).p v F := let ⟨e, dx, fs, h1, h2⟩ := h; ⟨a, dx, fs, e, h1, h2⟩
theorem lookup_at : ∀ {fs : List (Str × V)} {j : Nat} {f : Str} {v : V}, (fs.map (·.1)).Nodup → (fs.map (·.1))[j]? = some f → (fs.map (·.2))[j]? = some v → fs.lookup f = some v
  | [], j, f, v, _, h, _ => by simp at h
  | (g, u) :: fs, 0, f, v, nd, h1, h2 => by
    simp at h1 h2
    subst h1 h2
    simp
  | (g, u) :: fs, j + 1, f, v, nd, h1, h2 => by
    have ne : ¬ f = g := fun z => by
      subst z
      have h1' : (fs.map (·.1))[j]? = some f := by simpa using h1
      rw [List.map_cons, List.nodup_cons] at nd
      exact nd.1 (List.mem_of_getElem? h1')
    rw [List.lookup_cons]
    have q : (f == g) = false := by simp [ne]
    rw [q]
    rw [List.map_cons, List.nodup_cons] at nd
    exact lookup_at nd.2 (by simpa using h1) (by simpa using h2)
theorem lookup_off {fs : List (Str × V)} {m : Str} (h : m ∉ fs.map (·.1)) : fs.lookup m = none := by
  induction fs with
  | nil => rfl
  | cons x fs ih =>
    rw [List.map_cons, List.mem_cons, not_or] at h
    rw [List.lookup_cons]
    have q : (m == x.1) = false := by simp [h.1]
    rw [q]
    exact ih h.2
theorem FdsP.at {F : Hp} {fds : Fds} {fs : List (Str × V)} (h : FdsP F fds fs) {j : Nat} {f : Str} {R : Ty} (nd : (fds.map (·.1)).Nodup) (e : fds[j]? = some (f, R)) : ∃ v, fs.lookup f = some v ∧ R.p v F := by
  have e1 : (fds.map (·.1))[j]? = some f := by rw [List.getElem?_map, e]; rfl
  have e2 : (fds.map (·.2))[j]? = some R := by rw [List.getElem?_map, e]; rfl
  obtain ⟨v, h1, h2⟩ := h.2.get e2
  exact ⟨v, lookup_at (by rw [h.1]; exact nd) (by rw [h.1]; exact e1) h1, h2⟩
section
variable {K : PySem.W.Frag} {ε ε' ρ α β γ δ S τ τ' σt ω : Type} {X : L2.St → XK} {Xk : XK} {De : ε → Own} {G G1 G2 : Sto} {D0 : Own} {Dd : S → Own} {s : S} {te ta tb tc : TE} {tt tu : TT} {F0 F1 : Hp} {E : Ends} {w : Wish K ε ρ} {t : TA} {n : Nat} {dvs : List V} {args : τ → List Ty} {Rs : τ' → List Ty} {C : Addr}
theorem evc_fld {j : Nat} {f : Str} {fl : α → Fds} {Rx : α → Ty} {R : γ → Ty} {g : α → γ} {M : (α → S → Res ε δ) → Res ε δ} (h : EvC K X De te G Dd s M Rx) (hx : ∀ x v F, (Rx x).p v F → (IN K C (fl x)).p v F) (c : Cls K C) (na : NoAttr K C f)
    {ns : List Str} (hns : ∀ x, (fl x).map (·.1) = ns) (nd : ns.Nodup) (e : ∀ x, (fl x)[j]? = some (f, R (g x))) : EvC K X De (tFld K te f) G Dd s (fun kk => M fun x s1 => kk (g x) s1) R := fun kk σ H F hs ss o r Q hm q qe =>
  h _ σ H F hs ss o r _ hm (fun x s1 v H1 F1 t1 hs1 r1 hm1 => by
    obtain ⟨a, dx, fs, e0, h1, h2⟩ := hx x v F1 r1
    obtain ⟨u, h3, h4⟩ := h2.at (by rw [hns x]; exact nd) (e x)
    exact ⟨a, C, dx, fs, u, e0, hs1.sub _ _ h1, c, na, h3, q (g x) s1 u H1 F1 t1 hs1 h4 hm1⟩) qe
theorem evc_fldO {j k i : Nat} {a : Addr} {f : Str} {fds : Fds} {R : γ → Ty} (x : γ) (hi : G[i]? = some (some (Is (.ref a)))) (hk : ∀ s, (Dd s)[k]? = some (a, OI K C fds)) (c : Cls K C) (na : NoAttr K C f) {ns : List Str} (hns : fds.map (·.1) = ns) (nd : ns.Nodup) (e : fds[j]? = some (f, R x)) :
    EvC (β := δ) K X De (tFld K (tVar i) f) G Dd s (fun kk => kk x s) R := fun kk σ H F hs ss o r Q hm q qe => by
  obtain ⟨v, e1, e2⟩ := ss.get hi
  have ev : v = .ref a := e2
  subst ev
  obtain ⟨o1, ho, dx, fs, rfl, h2⟩ := hs.at (hk s)
  obtain ⟨u, h3, h4⟩ := h2.at (by rw [hns]; exact nd) e
  exact ⟨_, e1, a, C, dx, fs, u, rfl, ho, c, na, h3, q x s u H F (Same.refl _) hs h4 hm⟩
theorem putF_new {f : Str} {y : V} : ∀ {fs : List (Str × V)}, f ∉ fs.map (·.1) → putF f y fs = fs ++ [(f, y)]
  | [], _ => rfl
  | (g, u) :: fs, h => by
    rw [List.map_cons, List.mem_cons, not_or] at h
    unfold putF
    first
      | rw [if_neg (Ne.symm h.1), putF_new h.2]; rfl
      | rw [if_neg h.1, putF_new h.2]; rfl
      | (simp only [beq_iff_eq]; rw [if_neg (Ne.symm h.1), putF_new h.2]; rfl)
      | (simp only [beq_iff_eq]; rw [if_neg h.1, putF_new h.2]; rfl)
theorem go_fldC {i k : Nat} {a : Addr} {f : Str} {fds : Fds} {R : α → Ty} {M : (α → S → Res ε ρ) → Res ε ρ} {kk : α × S → Res ε ρ} (h : EvC K w.X w.De te G Dd s M R) (hi : G[i]? = some (some (Is (.ref a)))) (hk : ∀ s, (Dd s)[k]? = some (a, OI K C fds)) (c : Cls K C) (na : NoAttr K C f) {ns : List Str} (hns : fds.map (·.1) = ns) (hn : f ∉ ns) (hl : fds.length < 1000)
    {m : Res ε ρ} (hP : w.W F0 m) (q : ∀ x, w.W F0 (kk x) → Go E.nx F0 G ((Dd x.2).set k (a, OI K C (fds ++ [(f, R x.1)])))) (cc : w.cond G := by first | exact trivial | walk_at "cond") (hm : m = (M fun v s' => Res.bind (.ok (v, s')) kk) := by exact rfl) : Go (sFld K (tVar i) te f E) F0 G (Dd s) := by subst hm; exact (fun σ H F t hs ss =>
  h _ σ H F hs ss _ _ _ hP (fun x s' y H1 F1 t1 hs1 r1 hm => by
    obtain ⟨v, e1, e2⟩ := (ss.mono t1).get hi
    have ev : v = .ref a := e2
    subst ev
    obtain ⟨o1, ho, dx, fs, rfl, h2⟩ := hs1.at (hk s')
    have ln : fs.length = fds.length := by
      have := congrArg List.length h2.1
      simpa using this
    refine ⟨_, e1, a, C, dx, fs, rfl, ho, c, na, by rw [ln]; exact hl, ?_⟩
    refine q (x, s') hm σ _ F1 (t.trans t1) (hs1.put (hk s') ⟨dx, _, rfl, ?_⟩) (ss.mono t1)
    rw [putF_new (by rw [h2.1, hns]; exact hn)]
    refine ⟨by simp [h2.1], ?_⟩
    rw [List.map_append, List.map_append]
    exact h2.2.app (.cons r1 .nil)) (fun n e hr H1 F1 t1 hs1 => w.err hr cc σ H1 F1 (t.trans t1) hs1 (ss.mono t1)))
theorem go_frzI {P : L2.St → Hp → Prop} {k i : Nat} {a : Addr} {fds : Fds} (hk : D0[k]? = some (a, OI K C fds)) (hi : G[i]? = some (some (Is (.ref a)))) (h : Go P F0 (G.set i (some (INa K C a fds))) (D0.eraseIdx k)) : Go P F0 G D0 := fun σ H F s hs ss => by
  obtain ⟨o, ⟨dx, fs, e0, hx⟩, hs2, s2⟩ := hs.freeze hk
  subst e0
  obtain ⟨v, e1, e2⟩ := ss.get hi
  have ev : v = .ref a := e2
  subst ev
  have z := (ss.mono s2).set (R := INa K C a fds) (v := .ref a) ⟨rfl, dx, fs, upd_same, hx.up s2⟩ i
  rw [set_get e1] at z
  exact h σ H _ (s.trans s2) hs2 z
theorem evc_methX {m : Str} {fl : α → Fds} {Rx : α → Ty} {R : γ → Ty} {mf : τ → Res Unit γ} {f : α → τ' → τ} {Ma : (α → S → Res ε δ) → Res ε δ} {Mt : S → (τ' → S → Res ε δ) → Res ε δ} {sp : Sp} (hsp : ∀ vs H Q X, spP K args mf (fun r => .ok (R r)) vs H Q X → sp vs H Q X) (g : S → ε)
    (ha : EvC K X De ta G Dd s Ma Rx) (ht : ∀ s1, EvAC K X De t G Dd s1 (Mt s1) Rs) (hx : ∀ x v F, (Rx x).p v F → (IN K C (fl x)).p v F) {ns : List Str} (hns : ∀ x, (fl x).map (·.1) = ns) (hn : m ∉ ns) (hde : ∀ s, (De (g s)).Sublist (Dd s))
    (hd : ∀ x y F v vs, (Rx x).p v F → AllP F (Rs y) vs → AllP F (args (f x y)) (v :: (vs ++ dvs))) :
    EvC K X De (tMethSD C m sp dvs X ta t) G Dd s (fun kk => Ma fun x s1 => Mt s1 fun y s2 => Res.bind (Res.mapE (fun _ => g s2) (mf (f x y))) fun z => kk z s2) R := fun kk σ H F hs ss o r Q hm q qe =>
  ha _ σ H F hs ss o r _ hm (fun x s1 v H1 F1 t1 hs1 r1 hm1 => by
    obtain ⟨a, dx, fs, e0, h1, h2⟩ := hx x v F1 r1
    refine ⟨a, dx, fs, e0, hs1.sub _ _ h1, lookup_off (by rw [h2.1, hns x]; exact hn), ht s1 _ σ H1 F1 hs1 (ss.mono t1) o r _ hm1 (fun y s2 vs H2 F2 t2 hs2 r2 hm2 => hsp _ _ _ _ ⟨f x y, F2, Dd s2, hs2, hd _ _ _ _ _ ((Rx x).mono t2 r1) r2, ?_⟩) (fun n e h H2 F2 t2 => qe n e h H2 F2 (t1.trans t2))⟩
    cases e : mf (f x y) with
    | ok z =>
      rw [e] at hm2
      exact fun v H3 F3 t3 hs3 r3 => q z s2 v H3 F3 ((t1.trans t2).trans t3) hs3 r3 hm2
    | err n u =>
      rw [e] at hm2
      exact fun H3 F3 t3 hs3 => qe n _ hm2 H3 F3 ((t1.trans t2).trans t3) (hs3.drop (hde s2))
    | stuck =>
      rw [e] at hm2
      exact hm2) qe
theorem evnc_methX {m : Str} {fl : α → Fds} {Rx : α → Ty} {O : γ → OTy} {mf : τ → Res Unit γ} {f : α → τ' → τ} {Ma : (α → S → Res ε δ) → Res ε δ} {Mt : S → (τ' → S → Res ε δ) → Res ε δ} {sp : Sp} (hsp : ∀ vs H Q X, spP K args mf (fun r => .new (O r)) vs H Q X → sp vs H Q X) (g : S → ε)
    (ha : EvC K X De ta G Dd s Ma Rx) (ht : ∀ s1, EvAC K X De t G Dd s1 (Mt s1) Rs) (hx : ∀ x v F, (Rx x).p v F → (IN K C (fl x)).p v F) {ns : List Str} (hns : ∀ x, (fl x).map (·.1) = ns) (hn : m ∉ ns) (hde : ∀ s, (De (g s)).Sublist (Dd s))
    (hd : ∀ x y F v vs, (Rx x).p v F → AllP F (Rs y) vs → AllP F (args (f x y)) (v :: (vs ++ dvs))) :
    EvNC K X De (tMethSD C m sp dvs X ta t) G Dd s (fun kk => Ma fun x s1 => Mt s1 fun y s2 => Res.bind (Res.mapE (fun _ => g s2) (mf (f x y))) fun z => kk z s2) O := fun kk σ H F hs ss o r Q hm q qe =>
  ha _ σ H F hs ss o r _ hm (fun x s1 v H1 F1 t1 hs1 r1 hm1 => by
    obtain ⟨a, dx, fs, e0, h1, h2⟩ := hx x v F1 r1
    refine ⟨a, dx, fs, e0, hs1.sub _ _ h1, lookup_off (by rw [h2.1, hns x]; exact hn), ht s1 _ σ H1 F1 hs1 (ss.mono t1) o r _ hm1 (fun y s2 vs H2 F2 t2 hs2 r2 hm2 => hsp _ _ _ _ ⟨f x y, F2, Dd s2, hs2, hd _ _ _ _ _ ((Rx x).mono t2 r1) r2, ?_⟩) (fun n e h H2 F2 t2 => qe n e h H2 F2 (t1.trans t2))⟩
    cases e : mf (f x y) with
    | ok z =>
      rw [e] at hm2
      exact fun v H3 F3 t3 hs3 => q z s2 v H3 F3 ((t1.trans t2).trans t3) hs3 hm2
    | err n u =>
      rw [e] at hm2
      exact fun H3 F3 t3 hs3 => qe n _ hm2 H3 F3 ((t1.trans t2).trans t3) (hs3.drop (hde s2))
    | stuck =>
      rw [e] at hm2
      exact hm2) qe
def GoI (K : PySem.W.Frag) (Q : VK) (F : Hp) (C a : Addr) (fds : Fds) (D : Own) : Prop := ∀ H' F', Same F F' → HS D H' F' → (INa K C a fds).p (.ref a) F' → Q .non H'
theorem GoI.up {Q : VK} {F F' : Hp} {a : Addr} {fds : Fds} {D : Own} (h : GoI K Q F C a fds D) (s : Same F F') : GoI K Q F' C a fds D := fun H1 F1 t hs r => h H1 F1 (s.trans t) hs r
def iwish (K : PySem.W.Frag) (C : Addr) (Xk : XK) (Q : VK) (a : Addr) (fl : ρ → Fds) (D : Own) : Wish K Unit ρ where
  X := fun _ => Xk
  De := fun _ => D
  o := fun F r => GoI K Q F C a (fl r) D
  r := fun F n _ => GoX Xk F (.ref (He.ga K n)) D
  cond := fun _ => True
  upo := fun s h => h.up s
  upr := fun s h => GoX.up h s
  err := fun h _ σ H F s hs _ => h H F s hs
def spI (K : PySem.W.Frag) (C : Addr) {τ ρ : Type} (args : τ → List Ty) (mf : τ → Res Unit ρ) (fl : ρ → Fds) : Sp := fun vs H Q X => ∃ (x : τ) (F : Hp) (D : Own) (a : Addr) (us : List V), vs = .ref a :: us ∧ HS ((a, OI K C []) :: D) H F ∧ AllP F (args x) us ∧ (iwish K C X Q a fl D).W F (mf x)
theorem spI_len {args : τ → List Ty} {mf : τ → Res Unit γ} {fl : γ → Fds} {k : Nat} (h : ∀ x, (args x).length = k) : ∀ vs H Q E, spI K C args mf fl vs H Q E → vs.length = k + 1 := fun vs H Q E ⟨x, F, D, a, us, e, hs, ha, _⟩ => by
  rw [e, List.length_cons, ha.len, h x]
theorem pure_ofI {args : τ → List Ty} {mf : τ → Res Unit γ} {fl : γ → Fds} {N : List Str} {tf : TS} {vs : List V} {H : Hp} {Q : VK} {X : XK}
    (walk : ∀ (x : τ) (F : Hp) (D : Own) (a : Addr) (E : Ends), E.rt = Q → (∀ F1 r G D1, GoI K Q F1 C a (fl r) D → G[0]? = some (some (INa K C a (fl r))) → D.Sublist D1 → Go E.nx F1 G D1) → (iwish K C X Q a fl D).W F (mf x) → Go (tf E) F (some (Is (.ref a)) :: ((args x).map some ++ List.replicate (N.length - 1 - (args x).length) none)) ((a, OI K C []) :: D))
    (h : spI K C args mf fl vs H Q X) : tf { nx := fun _ H' => Q .non H', rt := Q } (L2.start N vs) H := by
  obtain ⟨x, F, D, a, us, e, hs, ha, hp⟩ := h
  subst e
  have z := SS.start (N := N) (AllP.cons (R := Is (.ref a)) rfl ha)
  rw [List.length_cons, ha.len] at z
  have e2 : ((Is (.ref a) :: args x).map some ++ List.replicate (N.length - ((args x).length + 1)) none) = some (Is (.ref a)) :: ((args x).map some ++ List.replicate (N.length - 1 - (args x).length) none) := by
    rw [List.map_cons, List.cons_append, Nat.sub_sub, Nat.add_comm 1]
  rw [e2] at z
  refine walk x F D a { nx := fun _ H' => Q .non H', rt := Q } rfl (fun F1 r G D1 g hg sb σ H' F' s hs' ss => ?_) hp _ H F (Same.refl _) hs z
  obtain ⟨v, e1, e3⟩ := ss.get hg
  have ev : v = .ref a := e3.1
  subst ev
  exact g H' F' s (hs'.drop sb) e3
theorem evc_makeX {R : γ → Ty} {mf : τ → Res Unit γ} {fl : γ → Fds} {f : τ' → τ} {M : (τ' → S → Res ε δ) → Res ε δ} {sp : Sp} (hsp : ∀ vs H Q X, spI K C args mf fl vs H Q X → sp vs H Q X) (g : S → ε) (h : EvAC K X De t G Dd s M Rs) (hde : ∀ s, (De (g s)).Sublist (Dd s)) (hd : ∀ x F vs, AllP F (Rs x) vs → AllP F (args (f x)) (vs ++ dvs))
    (hR : ∀ r v F, (IN K C (fl r)).p v F → (R r).p v F) :
    EvC K X De (tMakeSD C sp dvs X t) G Dd s (fun kk => M fun x s1 => Res.bind (Res.mapE (fun _ => g s1) (mf (f x))) fun z => kk z s1) R := fun kk σ H F hs ss o r Q hm q qe =>
  h _ σ H F hs ss o r _ hm (fun x s1 vs H1 F1 t1 hs1 r1 hm1 a dx na nd ne => hsp _ _ _ _ ⟨f x, F1, Dd s1, a, _, rfl, by
    have hs2 : HS (Dd s1) (upd H1 dx (.own a)) F1 := hs1.mark nd
    exact hs2.new (by rw [upd_ne (Ne.symm ne)]; exact na) ⟨dx, [], rfl, rfl, .nil⟩, hd _ _ _ r1, by
    cases e : mf (f x) with
    | ok z =>
      rw [e] at hm1
      intro H' F' s' hs' r'
      exact ⟨rfl, q z s1 _ H' F' (t1.trans s') hs' (hR _ _ _ (INa.to r')) hm1⟩
    | err n u =>
      rw [e] at hm1
      exact fun H2 F2 t2 hs2 => qe n _ hm1 H2 F2 (t1.trans t2) (hs2.drop (hde s1))
    | stuck =>
      rw [e] at hm1
      exact hm1⟩) qe
end
end TL
end
section
set_option Elab.async false
set_option linter.all false
set_option maxRecDepth 100000
set_option maxHeartbeats 1000000
namespace TL
open PySem PySem.Spec L2
def Tx.signs (t : Tx) : List Tx := t.s.cps.toList.pmap (fun c h => Tx.sg c h) fun c hc => t.all c hc
theorem Tx.signs_map (t : Tx) : t.signs.map (·.s) = t.s.cps.toList.map fun c => (⟨#[c]⟩ : Str) := by
  unfold Tx.signs
  rw [List.map_pmap]
  exact List.pmap_eq_map ..
def Tx.has (t u : Tx) : Bool := !(Builtin.Str.occurrences t.s u.s 0 t.s.length 1).isEmpty
def nset (xs : List Tx) : Int := ((metS (xs.map (·.s)) xs.length).length : Int)
def rInS (neg : Bool) : R2 := fun x y H Q => ∃ i j, x = .str i ∧ y = .str j ∧ Q (.bl (if neg then !(!(Builtin.Str.occurrences j i 0 j.length 1).isEmpty) else !(Builtin.Str.occurrences j i 0 j.length 1).isEmpty)) H
theorem op_inS {X : Cx} : OpR X (compareOp .In) (rInS false) := op_in_str
section
variable {K : PySem.W.Frag} {ε ε' ρ α β γ δ S τ τ' σt ω : Type} {X : L2.St → XK} {De : ε → Own} {G G1 G2 : Sto} {D0 : Own} {Dd : S → Own} {s : S} {te ta tb tc tx : TE} {tt tu : TT} {F0 F1 : Hp} {E : Ends} {w : Wish K ε ρ} {t : TA}
theorem evItc_S {M : (Tx → S → Res ε δ) → Res ε δ} (h : EvC K X De te G Dd s M (tD K eS)) : EvItC K X De (iStr te) G Dd s (fun _ => True) (fun kk => M fun x s1 => kk (Tx.signs x) s1) (tD K eS) := fun kk σ H F hs ss o r Q hm q qe =>
  h _ σ H F hs ss o r _ hm (fun x s1 v H1 F1 t1 hs1 r1 hm1 => by
    refine ⟨x.s, dp_str r1, q (Tx.signs x) s1 _ H1 F1 t1 hs1 (fun D H2 F2 _ s2 hs2 i => ?_) hm1⟩
    have sm := x.signs_map
    have ln : x.signs.length = x.s.cps.size := by
      have := congrArg List.length sm
      simpa using this
    refine ⟨fun R hR => ?_, fun hl => ?_⟩
    · rw [List.getElem?_map] at hR
      cases q2 : x.signs[i]? with
      | none => rw [q2] at hR; cases hR
      | some z =>
        rw [q2] at hR
        cases hR
        have lt : i < x.s.cps.size := by rw [← ln]; exact (List.getElem?_eq_some_iff.mp q2).1
        refine ⟨lt, fun y H' hy => ?_⟩
        obtain ⟨e1, c, e2, e3⟩ := hy
        subst e1 e3
        have e4 : (x.signs.map (·.s))[i]? = some z.s := by rw [List.getElem?_map, q2]; rfl
        rw [sm, List.getElem?_map, Array.getElem?_toList, e2] at e4
        have e5 : (⟨#[c]⟩ : Str) = z.s := Option.some.inj e4
        rw [e5]
        exact ⟨F2, Same.refl _, hs2, .str _⟩
    · show x.s.cps.size ≤ i
      rw [← ln]
      simpa using hl) qe
theorem evc_inTx {Ma : (Tx → S → Res ε δ) → Res ε δ} {Mb : S → (Tx → S → Res ε δ) → Res ε δ} (ha : EvC K X De ta G Dd s Ma (tD K eS)) (hb : ∀ s1, EvC K X De tb G Dd s1 (Mb s1) (tD K eS)) : EvC K X De (tOp (rInS false) ta tb) G Dd s (fun kk => Ma fun a s1 => Mb s1 fun b s2 => kk (Tx.has b a) s2) (tD K eB) :=
  evc2 ha hb fun a b s2 x y H F hs rx ry Q q => ⟨a.s, b.s, dp_str rx, dp_str ry, q _ H F (Same.refl _) hs (.bl _)⟩
theorem evc_lenSet {M : (List Tx → S → Res ε δ) → Res ε δ} (h : EvC K X De te G Dd s M (tD K (eL eS))) : EvC K X De (tLenSetN K te) G Dd s (fun kk => M fun xs s1 => Res.bind (Res.grd (xs.length + 1 < 4096) (nset xs)) fun z => kk z s1) (tD K eI) := fun kk σ H F hs ss o r Q hm q qe =>
  h _ σ H F hs ss o r _ hm (fun xs s1 v H1 F1 t1 hs1 r1 hm1 => by
    obtain ⟨hl, hm2⟩ := Res.sat_grd hm1
    obtain ⟨p, vs, rfl, h1, h2⟩ := dp_lst r1
    have e := allP_strs (K := K) (map_allP h2)
    subst e
    refine ⟨p, xs.map (·.s), rfl, sqL_up hs1 h1, by rw [List.length_map]; exact hl, ?_⟩
    rw [List.length_map]
    exact q (nset xs) s1 _ H1 F1 t1 hs1 (.int _) hm2) qe
theorem allP_bls {F : Hp} : ∀ {bs : List Bool} {vs : List V}, AllP F (bs.map (tD K eB)) vs → vs = bs.map V.bl
  | [], _, h => by cases h; rfl
  | b :: bs, _, h => by
    cases h with
    | cons h1 h2 =>
      rw [allP_bls h2, dp_bl h1]
      rfl
theorem evc_all {M : (List Bool → S → Res ε δ) → Res ε δ} (h : EvC K X De te G Dd s M (tD K (eL eB))) : EvC K X De (tCB (rAll K) (tCons te tNil)) G Dd s (fun kk => M fun xs s1 => kk (xs.all id) s1) (tD K eB) := fun kk σ H F hs ss o r Q hm q qe =>
  h _ σ H F hs ss o r _ hm (fun xs s1 v H1 F1 t1 hs1 r1 hm1 => by
    obtain ⟨p, vs, rfl, h1, h2⟩ := dp_lst r1
    have e := allP_bls (K := K) (map_allP h2)
    subst e
    exact ⟨p, xs, rfl, sqL_up hs1 h1, q _ s1 _ H1 F1 t1 hs1 (.bl _) hm1⟩) qe
end
end TL
end
section
set_option Elab.async false
set_option linter.all false
set_option maxRecDepth 100000
set_option maxHeartbeats 1000000
namespace TL
open PySem PySem.Spec L2
section
variable {P : Program} {w : World} {K : PySem.W.Frag} {mg : Str → Option Value} {base : Heap} {x m : Str} {C : Addr} {ps : List Str} {k : Nat} {sp : Sp} {f : Addr} {fd : FuncData} {name qual : Str} {params : Arguments} {body : List Stmt} {scope : Scope}
theorem fom_mk (F : FunD K name qual params body scope [] [] f fd) (c : Cls K C) (hm : Meth K C m f) (ok : FnOk P w K mg base (L2.CX P w) k f fd ps sp)
    (h : ∀ (kV doc pm : Value) (an : Option Addr) (cdv ct : Value) (us : List Value), us.length = ps.length → bindArgs (PySem.W.fnOf name qual params body scope .none kV doc pm an cdv ct) ⟨us, []⟩ = pure (ps.zip us)) : FoM P w K mg base C m ps [] k sp :=
  ⟨f, fd, [], ok, c, hm, FunD.bindsN F h, .nil⟩
theorem foi_mk (F : FunD K name qual params body scope [] [] f fd) (hg : mg x = some (.ref C)) (M : Mk K C f) (ok : FnOk P w K mg base (L2.CX P w) k f fd ps sp)
    (h : ∀ (kV doc pm : Value) (an : Option Addr) (cdv ct : Value) (us : List Value), us.length = ps.length → bindArgs (PySem.W.fnOf name qual params body scope .none kV doc pm an cdv ct) ⟨us, []⟩ = pure (ps.zip us)) : FoI P w K mg base x C ps [] k sp :=
  ⟨f, fd, [], ok, hg, M, FunD.bindsN F h, .nil⟩
variable {dvs : List V}
theorem foi_mkD (F : FunD K name qual params body scope dvs [] f fd) (hg : mg x = some (.ref C)) (M : Mk K C f) (ok : FnOk P w K mg base (L2.CX P w) k f fd ps sp) (n j : Nat) (hd : dvs ≠ []) (hn : n + (dvs.length - j) = ps.length)
    (h : ∀ (T : Addr) (kV doc pm : Value) (an : Option Addr) (cdv ct : Value) (us its : List Value), us.length = n → its.length = dvs.length →
      ∃ k, bindArgs (PySem.W.fnOf name qual params body scope (.ref T) kV doc pm an cdv ct) ⟨us, []⟩ = seqItems? (.ref T) >>= k ∧ k (some its.toArray) = pure (ps.zip (us ++ its.drop j))) : FoI P w K mg base x C ps (dvs.drop j) k sp := by
  obtain ⟨ds, h1, h2⟩ := FunD.binds1 F n j hd hn h
  exact ⟨f, fd, ds, ok, hg, M, h2, h1⟩
end
section
variable {F : Hp} {τ : Type} {args : τ → List Ty}
theorem hd0 : ∀ (x : τ) (F : Hp) (vs : List V), AllP F (args x) vs → AllP F (args x) (vs ++ []) := fun x F vs h => by rw [List.append_nil]; exact h
theorem hdm0 {α τ' : Type} {Rx : α → Ty} {Rs : τ' → List Ty} : ∀ (x : α) (y : τ') (F : Hp) (v : V) (vs : List V), (Rx x).p v F → AllP F (Rs y) vs → AllP F (Rx x :: Rs y) (v :: (vs ++ [])) := fun x y F v vs r h => by rw [List.append_nil]; exact .cons r h
variable {K : PySem.W.Frag} {ε δ α β γ ζ η S : Type} {X : L2.St → XK} {De : ε → Own} {G : Sto} {Dd : S → Own} {s : S} {te : TE}
theorem evc_weak {R R' : α → Ty} {M : (α → S → Res ε δ) → Res ε δ} (h : EvC K X De te G Dd s M R) (hx : ∀ x v F, (R x).p v F → (R' x).p v F) : EvC K X De te G Dd s M R' := fun kk σ H F hs ss o r Q hm q qe =>
  h kk σ H F hs ss o r Q hm (fun x s' v H' F' t hs' r' hm' => q x s' v H' F' t hs' (hx x v F' r') hm') qe
end
end TL
end
section
set_option Elab.async false
set_option linter.all false
set_option maxRecDepth 100000
set_option maxHeartbeats 1000000
namespace TL
open PySem PySem.Spec L2
theorem part_all (t u : Tx) : ∀ c, c ∈ (Txt.partition t.s u.s).1.cps.toList ∨ c ∈ (Txt.partition t.s u.s).2.1.cps.toList ∨ c ∈ (Txt.partition t.s u.s).2.2.cps.toList → c < 0x110000 := fun c h => by
  have e := congrArg (fun z : Str => z.cps.toList) (PySem.StrLaws.partition_sum t.s u.s)
  simp only [app_cps] at e
  refine t.all c ?_
  rw [← e]
  rcases h with h | h | h
  · exact List.mem_append_left _ (List.mem_append_left _ h)
  · exact List.mem_append_left _ (List.mem_append_right _ h)
  · exact List.mem_append_right _ h
def Tx.part (t u : Tx) : Tx × Tx × Tx := (⟨(Txt.partition t.s u.s).1, canLay_of fun c h => part_all t u c (.inl h)⟩, ⟨(Txt.partition t.s u.s).2.1, canLay_of fun c h => part_all t u c (.inr (.inl h))⟩, ⟨(Txt.partition t.s u.s).2.2, canLay_of fun c h => part_all t u c (.inr (.inr h))⟩)
section
variable {X : Cx} {o e : Expr} {to te : TE} {apos pos : Pos}
end
section
variable {K : PySem.W.Frag} {ε ε' ρ α β γ δ S τ τ' σt ω : Type} {X : L2.St → XK} {De : ε → Own} {G G1 G2 : Sto} {D0 : Own} {Dd : S → Own} {s : S} {te ta tb tc tx : TE} {tt tu : TT} {F0 F1 : Hp} {E : Ends} {w : Wish K ε ρ} {t : TA}
end
end TL
end
section
set_option Elab.async false
set_option linter.all false
set_option maxRecDepth 100000
set_option maxHeartbeats 1000000
namespace TL
open PySem PySem.Spec L2
section
variable {K : PySem.W.Frag} {ε ε' ρ α β γ δ S τ τ' σt ω : Type} {X : L2.St → XK} {Xk : XK} {De : ε → Own} {G G1 G2 : Sto} {D0 : Own} {Dd : S → Own} {s : S} {te ta tb tc tx : TE} {tt tu : TT} {F0 F1 : Hp} {E : Ends} {w : Wish K ε ρ} {t : TA} {n : Nat} {Rs : τ → List Ty}
end
end TL
end
section
set_option Elab.async false
set_option linter.all false
set_option maxRecDepth 100000
set_option maxHeartbeats 1000000
namespace TL
open PySem PySem.Spec L2
section
variable {K : PySem.W.Frag} {ε ε' ρ α β γ δ S τ τ' σt ω Ω : Type} {X : L2.St → XK} {Xk : XK} {De : ε → Own} {G G1 G2 : Sto} {D0 : Own} {Dd : S → Own} {s : S} {te ta tb tc tx : TE} {tt tu : TT} {F0 F1 : Hp} {E : Ends} {w : Wish K ε ρ} {t : TA} {n : Nat} {Rs : τ → List Ty} {gt : Ω → ω} {st : Ω → ω → Ω} {O : ω → OTy} {k : Nat} {a : Addr}
theorem Bor.ahead {Dp : Ω → Own} {c : Ω → Addr × OTy} (B : Bor Dp k a O gt st) (h : ∀ w v, c (st w v) = c w) : Bor (fun w => c w :: Dp w) (k + 1) a O gt st :=
  ⟨fun w => by rw [List.getElem?_cons_succ]; exact B.at_ w, fun w v => by rw [List.set_cons_succ, B.set_ w v, h]⟩
theorem Bor.of1 {Dp : ω → Own} (B : Bor1 Dp k a O) (h1 : ∀ w v, gt (st w v) = v) : Bor (fun w => Dp (gt w)) k a O gt st :=
  ⟨fun w => B.at_ (gt w), fun w v => by rw [h1]; exact B.set_ (gt w) v⟩
end
end TL
end
section
set_option Elab.async false
set_option linter.all false
set_option maxRecDepth 100000
set_option maxHeartbeats 1000000
namespace TL
open PySem PySem.Spec L2
section
variable {K : PySem.W.Frag} {ε ε' ρ α β γ δ S τ τ' σt ω Ω : Type} {X : L2.St → XK} {Xk : XK} {De : ε → Own} {G G1 G2 : Sto} {D0 : Own} {Dd : S → Own} {s : S} {te ta tb tc tx : TE} {tt tu : TT} {F0 F1 : Hp} {E : Ends} {w : Wish K ε ρ} {t : TA} {n : Nat}
theorem allP_app {F : Hp} {R : α → Ty} {xs ys : List α} {vs us : List V} (h : AllP F (xs.map R) vs) (h2 : AllP F (ys.map R) us) : AllP F ((xs ++ ys).map R) (vs ++ us) := by
  rw [List.map_append]
  exact h.app h2
theorem go_extNC {R : α → Ty} {xs : List α} {k : Nat} {a : Addr} {M : (List α → S → Res ε ρ) → Res ε ρ} {kk : List α × S → Res ε ρ} (ho : G[n]? = some (some (Is (.ref a)))) (h : EvNC K w.X w.De te G Dd s M (OLT R)) (hk : ∀ s, (Dd s)[k]? = some (a, OLT R xs))
    {m : Res ε ρ} (hP : w.W F0 m) (q : ∀ x, w.W F0 (kk x) → Go E.nx F0 G ((Dd x.2).set k (a, OLT R x.1))) (c : w.cond G := by first | exact trivial | walk_at "cond") (hm : m = (M fun v s' => Res.bind (Res.grd (xs.length + v.length ≤ 100000) (xs ++ v, s')) kk) := by exact rfl) : Go (tDrop (tBM K "list" rExtend (tVar n) (tCons te tNil)) E) F0 G (Dd s) := by subst hm; exact (fun σ H F t hs ss => by
  obtain ⟨v0, e0, r0⟩ := ss.get ho
  have r0' : v0 = .ref a := r0
  subst r0'
  obtain ⟨o1, ho1, xs1, rfl, h21⟩ := hs.at (hk s)
  refine ⟨_, e0, .inl ⟨rfl, xs1, SqL.of ho1⟩, h _ σ H F hs ss _ _ _ hP (fun ys s' p H1 F1 t1 hs1 hm => ?_) (fun n e hr H1 F1 t1 hs1 => w.err hr c σ H1 F1 (t.trans t1) hs1 (ss.mono t1))⟩
  obtain ⟨hl, hm2⟩ := Res.sat_grd hm
  have hk1 : ((p, OLT R ys) :: Dd s')[k + 1]? = some (a, OLT R xs) := by rw [List.getElem?_cons_succ]; exact hk s'
  obtain ⟨o, ho2, vs, rfl, h2⟩ := hs1.at hk1
  obtain ⟨o3, ho3, us, rfl, h3⟩ := hs1.at (k := 0) rfl
  have l2 := h2.len
  have l3 := h3.len
  rw [List.length_map] at l2 l3
  refine ⟨a, p, vs, us, rfl, rfl, ho2, ho3, by rw [l2, l3]; exact Nat.le_trans hl sizeLine_big, ?_⟩
  have z := hs1.put (O' := OLT R (xs ++ ys)) (o := .lst (vs ++ us)) hk1 ⟨_, rfl, allP_app h2 h3⟩
  rw [List.set_cons_succ] at z
  exact q (xs ++ ys, s') hm2 σ _ F1 (t.trans t1) (z.drop (List.sublist_cons_self _ _)) (ss.mono t1))
theorem go_clearC {R : α → Ty} {xs : List α} {k : Nat} {a : Addr} {kk : List α × Unit → Res ε ρ} (ho : G[n]? = some (some (Is (.ref a)))) (hk : D0[k]? = some (a, OLT R xs))
    {m : Res ε ρ} (hP : w.W F0 m) (q : ∀ x, w.W F0 (kk x) → Go E.nx F0 G (D0.set k (a, OLT R x.1))) (hm : m = Res.bind (.ok ([], ())) kk := by exact rfl) : Go (tDrop (tBM0 K "list" rClear (tVar n)) E) F0 G D0 := by subst hm; exact (fun σ H F t hs ss => by
  obtain ⟨v0, e0, r0⟩ := ss.get ho
  have r0' : v0 = .ref a := r0
  subst r0'
  obtain ⟨o1, ho1, vs, rfl, h2⟩ := hs.at hk
  refine ⟨_, e0, .inl ⟨rfl, vs, SqL.of ho1⟩, a, vs, rfl, rfl, ho1, ?_⟩
  exact q ([], ()) hP σ _ F t (hs.put (O' := OLT R []) (o := .lst []) hk ⟨_, rfl, .nil⟩) ss)
end
def cDctK (K : PySem.W.Frag) : List V → Hp → VK → Prop := fun xs H Q => ∃ a kvs, xs = [.ref a] ∧ Rd H a (.dK kvs) ∧ ∀ p, H p = none → Q (.ref p) (upd H p (.dK kvs))
theorem call_dctK {X : Cx} : CallR X (.type "dict") (cDctK X.K) := by
  intro pins s σ H xs us Q I r h
  obtain ⟨a, kvs, rfl, e, q⟩ := h
  obtain ⟨u, rfl, r1⟩ := vals1 r
  cases (show u = Value.ref a from r1)
  exact d_copyOf I e fun p s' hp I2 => ⟨.ref p, _, I2, rfl, q p hp⟩
section
variable {K : PySem.W.Frag} {ε ε' ρ α β γ δ S τ τ' σt ω Ω : Type} {X : L2.St → XK} {Xk : XK} {De : ε → Own} {G G1 G2 : Sto} {D0 : Own} {Dd : S → Own} {s : S} {te ta tb tc tx : TE} {tt tu : TT} {F0 F1 : Hp} {E : Ends} {w : Wish K ε ρ} {t : TA} {n : Nat}
end
end TL
end
section
set_option Elab.async false
set_option linter.all false
set_option maxRecDepth 100000
set_option maxHeartbeats 1000000
namespace TL
open PySem PySem.Spec L2
section
variable {K : PySem.W.Frag} {ε ε' ρ α β γ δ S τ τ' σt ω Ω : Type} {X : L2.St → XK} {Xk : XK} {De : ε → Own} {G G1 G2 : Sto} {D0 : Own} {Dd : S → Own} {s : S} {te ta tb tc tx : TE} {tt tu : TT} {F0 F1 : Hp} {E : Ends} {w : Wish K ε ρ} {t : TA} {n : Nat}
theorem evnc_catO {R : α → Ty} {Ma : (List α → S → Res ε δ) → Res ε δ} {Mb : S → (List α → S → Res ε δ) → Res ε δ} (ha : EvNC K X De ta G Dd s Ma (OLT R)) (hb : ∀ x p s1, EvNC K X De tb G (fun s => (p, OLT R x) :: Dd s) s1 (Mb s1) (OLT R)) :
    EvNC K X De (tOp (qAddS K) ta tb) G Dd s (fun kk => Ma fun x s1 => Mb s1 fun y s2 => Res.bind (Res.grd (x.length + y.length ≤ 100000) (x ++ y)) fun z => kk z s2) (OLT R) := fun kk σ H F hs ss o r Q hm q qe =>
  ha _ σ H F hs ss o r _ hm (fun x s1 p H1 F1 t1 hs1 hm1 => hb x p s1 _ σ H1 F1 hs1 (ss.mono t1) o r _ hm1 (fun y s2 p2 H2 F2 t2 hs2 hm2 => by
    obtain ⟨hl, hm3⟩ := Res.sat_grd hm2
    obtain ⟨o1, ho1, vs, rfl, hx⟩ := hs2.at (k := 1) rfl
    obtain ⟨o2, ho2, us, rfl, hy⟩ := hs2.at (k := 0) rfl
    have l1 := hx.len
    have l2 := hy.len
    rw [List.length_map] at l1 l2
    refine .inr (.inl ⟨p, p2, vs, us, rfl, rfl, SqL.of ho1, SqL.of ho2, by rw [l1, l2]; exact Nat.le_trans hl sizeLine_big, fun a ha => ?_⟩)
    exact q (x ++ y) s2 a _ F2 (t1.trans t2) ((hs2.drop ((List.sublist_cons_self _ _).trans (List.sublist_cons_self _ _))).new ha ⟨_, rfl, allP_app hx hy⟩) hm3) (fun n e h H2 F2 t2 => qe n e h H2 F2 (t1.trans t2))) qe
end
end TL
end
section
set_option Elab.async false
set_option linter.all false
set_option maxRecDepth 100000
set_option maxHeartbeats 1000000
namespace TL
open PySem PySem.Spec L2
def rIdx : V → List V → Hp → VK → Prop := fun x xs H Q => ∃ a b i rest, x = .str a ∧ xs = [.str b] ∧ PySem.Builtin.Str.occurrences a b 0 a.length 1 = i :: rest ∧ Q (.int (i : Int)) H
section
variable {X : Cx} {o e : Expr} {to te : TE} {apos pos : Pos}
theorem mt_index : MtR X "str.index" rIdx := by
  intro pins s σ H x xs v us Q I rx rs h
  obtain ⟨a, b, i, rest, rfl, rfl, ho, h⟩ := h
  obtain ⟨t, rfl⟩ := rx
  cases rs with
  | cons r1 rs =>
    cases rs
    obtain ⟨u, rfl⟩ := r1
    exact PySem.SC.index ho (⟨.int (i : Int), H, I.tok _, ⟨_, rfl⟩, h⟩)
theorem pe_index (ho : PE X o to) (he : PE X e te) (hs : starEach [e] X.env = [(false, eval e X.env)] := by rfl) (hbase : attributeBase o "index" X.env (eval o X.env) = eval o X.env := by rfl) (hline : (apos.endLine == pos.line) = true := by rfl) :
    PE X (.Call (.Attribute o "index" apos) [e] [] pos) (tM1 rIdx to te) := pe_m1 F.slot_str_index F.type_str_index mt_index ho he hs hbase hline
end
def Tx.index? (a b : Tx) : Option Int := match PySem.Builtin.Str.occurrences a.s b.s 0 a.s.length 1 with
  | i :: _ => some (i : Int)
  | [] => none
section
variable {K : PySem.W.Frag} {ε ε' ρ α β γ δ S τ τ' σt ω : Type} {X : L2.St → XK} {De : ε → Own} {G G1 G2 : Sto} {D0 : Own} {Dd : S → Own} {s : S} {te ta tb tc tx : TE} {tt tu : TT} {F0 F1 : Hp} {E : Ends} {w : Wish K ε ρ} {t : TA}
theorem evc_index {Ma : (Tx → S → Res ε δ) → Res ε δ} {Mb : S → (Tx → S → Res ε δ) → Res ε δ} (ha : EvC K X De ta G Dd s Ma (tD K eS)) (hb : ∀ s1, EvC K X De tb G Dd s1 (Mb s1) (tD K eS)) :
    EvC K X De (tM1 rIdx ta tb) G Dd s (fun kk => Ma fun a s1 => Mb s1 fun b s2 => Res.bind (Res.opt (Tx.index? a b)) fun z => kk z s2) (tD K eI) := fun kk σ H F hs ss o r Q hm q qe =>
  ha _ σ H F hs ss o r _ hm (fun a s1 v H1 F1 t1 hs1 r1 hm1 => ⟨⟨a.s, dp_str r1⟩, hb s1 _ σ H1 F1 hs1 (ss.mono t1) o r _ hm1 (fun b s2 u H2 F2 t2 hs2 r2 hm2 => by
    obtain ⟨z, ez, hm3⟩ := Res.sat_opt hm2
    unfold Tx.index? at ez
    split at ez
    · rename_i i rest ho
      cases ez
      exact ⟨a.s, b.s, i, rest, dp_str r1, by rw [dp_str r2], ho, q (i : Int) s2 _ H2 F2 (t1.trans t2) hs2 (.int _) hm3⟩
    · cases ez) (fun n e h H2 F2 t2 => qe n e h H2 F2 (t1.trans t2))⟩) qe
end
end TL
end
section
set_option Elab.async false
set_option linter.all false
set_option maxRecDepth 100000
set_option maxHeartbeats 1000000
namespace TL
open PySem PySem.Spec L2
section
variable {K : PySem.W.Frag} {ε ε' ρ α β γ δ S τ τ' σt ω : Type} {X : L2.St → XK} {Xk : XK} {De : ε → Own} {G G1 G2 : Sto} {D0 : Own} {Dd : S → Own} {s : S} {te ta tb tc tx : TE} {tt tu : TT} {F0 F1 : Hp} {E : Ends} {w : Wish K ε ρ} {t : TA}
end
end TL
end
section
set_option Elab.async false
set_option linter.all false
set_option maxRecDepth 100000
set_option maxHeartbeats 1000000
namespace TL
open PySem PySem.Spec L2
section
variable {K : PySem.W.Frag} {ε ε' ρ α β γ δ S τ τ' σt ω : Type} {X : L2.St → XK} {Xk : XK} {De : ε → Own} {G G1 G2 : Sto} {D0 : Own} {Dd : S → Own} {s : S} {te ta tb tc tx : TE} {tt tu : TT} {F0 F1 : Hp} {E : Ends} {w : Wish K ε ρ} {t : TA}
def hasC (b : Addr) (O : OTy) : Own → Prop := fun D => (b, O) ∈ D
theorem hasC_of {b : Addr} {O : OTy} {k : Nat} (hk : ∀ s, (Dd s)[k]? = some (b, O)) : ∀ s c, hasC b O (c :: Dd s) := fun s c => List.mem_cons_of_mem _ (List.mem_of_getElem? (hk s))
theorem evItc_O {R : α → Ty} {b : Addr} {i k : Nat} {xs : List α} (hi : G[i]? = some (some (Is (.ref b)))) (hk : ∀ s, (Dd s)[k]? = some (b, OLT R xs)) : EvItC (β := δ) K X De (iSeq K (tVar i)) G Dd s (hasC b (OLT R xs)) (fun kk => kk xs s) R := fun kk σ H F hs ss o r Q hm q qe => by
  obtain ⟨v, e1, e2⟩ := ss.get hi
  have ev : v = .ref b := e2
  subst ev
  obtain ⟨o1, ho, vs, rfl, hx⟩ := hs.at (hk s)
  refine .inl ⟨_, e1, b, rfl, ⟨vs, SqL.of ho⟩, q xs s _ H F (Same.refl _) hs (fun D H2 F2 c s2 hs2 i => ?_) hm⟩
  obtain ⟨_, o2, ho2, vs2, rfl, h2⟩ := hs2.own b _ c
  refine ⟨fun R' hR => ?_, fun hl => ?_⟩
  · obtain ⟨v, e1, e2⟩ := h2.get hR
    have sq : SqL K H2 b vs2 := SqL.of ho2
    refine ⟨⟨vs2, v, sq, e1⟩, fun x H' hy => ?_⟩
    obtain ⟨e3, e4⟩ := hy
    subst e3
    have e5 := e4 vs2 sq
    rw [e1] at e5
    cases e5
    exact ⟨F2, Same.refl _, hs2, e2⟩
  · exact ⟨vs2, SqL.of ho2, by rw [h2.len]; exact hl⟩
end
end TL
end
section
set_option Elab.async false
set_option linter.all false
set_option maxRecDepth 100000
set_option maxHeartbeats 1000000
namespace TL
open PySem PySem.Spec L2
def DLe (D D' : Own) : Prop := ∀ H F, HS D H F → HS D' H F
theorem DLe.of {D D' : Own} (s : D'.Sublist D) : DLe D D' := fun _ _ h => h.drop s
theorem DLe.rfl {D : Own} : DLe D D := fun _ _ h => h
theorem DLe.trans {D D' D2 : Own} (h : DLe D D') (h' : DLe D' D2) : DLe D D2 := fun H F q => h' H F (h H F q)
def RdC (D : Own) (a : Addr) (O : OTy) : Prop := ∃ k : Nat, D[k]? = some (a, O)
theorem RdC.cons {D : Own} {a : Addr} {O : OTy} {c : Addr × OTy} (h : RdC D a O) : RdC (c :: D) a O := let ⟨k, e⟩ := h; ⟨k + 1, by rw [List.getElem?_cons_succ]; exact e⟩
theorem RdC.here {D : Own} {a : Addr} {O : OTy} : RdC ((a, O) :: D) a O := ⟨0, rfl⟩
theorem RdC.of {D : Own} {a : Addr} {O : OTy} {k : Nat} (h : D[k]? = some (a, O)) : RdC D a O := ⟨k, h⟩
def WrC {Ω ω : Type} (Dp : Ω → Own) (a : Addr) (O : ω → OTy) (gt : Ω → ω) (st : Ω → ω → Ω) : Prop := ∃ k, Bor Dp k a O gt st
theorem Bor.sub {S Ω ω : Type} {Dp : Ω → Own} {k : Nat} {a : Addr} {O : ω → OTy} {gt : Ω → ω} {st : Ω → ω → Ω} (B : Bor Dp k a O gt st) {f : S → Ω} {gt' : S → ω} {st' : S → ω → S} (h1 : ∀ s, gt (f s) = gt' s) (h2 : ∀ s v, st (f s) v = f (st' s v)) : Bor (fun s => Dp (f s)) k a O gt' st' :=
  ⟨fun s => by rw [B.at_, h1], fun s v => by rw [B.set_, h2]⟩
def spR (K : PySem.W.Frag) {τ ρ : Type} (args : τ → List Ty) (pl : τ → Own → Prop) (mf : τ → Res Unit ρ) (out : ρ → Out) : Sp := fun vs H Q X => ∃ (x : τ) (F : Hp) (D : Own), pl x D ∧ HS D H F ∧ AllP F (args x) vs ∧ (dwish K X Q out (fun _ => D) (fun _ : Unit => D)).W F (mf x)
def spM (K : PySem.W.Frag) {τ Ω ρ : Type} (args : τ → List Ty) (pl : τ → (Ω → Own) → Prop) (mf : τ → Ω → Res Ω (ρ × Ω)) (out : ρ → Out) : Sp := fun vs H Q X => ∃ (x : τ) (y : Ω) (F : Hp) (Dp : Ω → Own), pl x Dp ∧ HS (Dp y) H F ∧ AllP F (args x) vs ∧ (dwish K X Q (fun r : ρ × Ω => out r.1) (fun r => Dp r.2) Dp).W F (mf x y)
def spIR (K : PySem.W.Frag) (C : Addr) {τ ρ : Type} (args : τ → List Ty) (pl : τ → Own → Prop) (mf : τ → Res Unit ρ) (fl : ρ → Fds) : Sp := fun vs H Q X => ∃ (x : τ) (F : Hp) (D : Own) (a : Addr) (us : List V), vs = .ref a :: us ∧ pl x D ∧ HS ((a, OI K C []) :: D) H F ∧ AllP F (args x) us ∧ (iwish K C X Q a fl D).W F (mf x)
section
variable {K : PySem.W.Frag} {ε ε' ρ α β γ δ S τ τ' σt ω Ω : Type} {X : L2.St → XK} {Xk : XK} {De : ε → Own} {G G1 G2 : Sto} {D0 : Own} {Dd : S → Own} {s : S} {te ta tb tc tx : TE} {tt tu : TT} {F0 F1 : Hp} {E : Ends} {w : Wish K ε ρ} {t : TA} {n : Nat} {dvs : List V} {args : τ → List Ty} {Rs : τ' → List Ty} {C : Addr} {pl : τ → Own → Prop} {plm : τ → (Ω → Own) → Prop} {sp : Sp} {m : Str}
theorem hdR0 {S τ' : Type} {Rs : τ' → List Ty} : ∀ (x : τ') (s : S) (F : Hp) (vs : List V), AllP F (Rs x) vs → AllP F (Rs x) (vs ++ []) := fun x s F vs h => by rw [List.append_nil]; exact h
theorem hdmR0 {S α τ' : Type} {Rx : α → Ty} {Rs : τ' → List Ty} : ∀ (x : α) (y : τ') (s : S) (F : Hp) (v : V) (vs : List V), (Rx x).p v F → AllP F (Rs y) vs → AllP F (Rx x :: Rs y) (v :: (vs ++ [])) := fun x y s F v vs r h => by rw [List.append_nil]; exact .cons r h
theorem evc_callR {mf : τ → Res Unit γ} {R : γ → Ty} {f : τ' → S → τ} {M : (τ' → S → Res ε δ) → Res ε δ} (hsp : ∀ vs H Q X, spR K args pl mf (fun r => .ok (R r)) vs H Q X → sp vs H Q X) {g : S → ε} (h : EvAC K X De t G Dd s M Rs) (hpl : ∀ x s, pl (f x s) (Dd s)) (hde : ∀ s, DLe (Dd s) (De (g s))) (hd : ∀ x s F vs, AllP F (Rs x) vs → AllP F (args (f x s)) (vs ++ dvs)) :
    EvC K X De (tCallSD sp dvs X t) G Dd s (fun kk => M fun x s1 => Res.bind (Res.mapE (fun _ => g s1) (mf (f x s1))) fun z => kk z s1) R := fun kk σ H F hs ss o r Q hm q qe =>
  h _ σ H F hs ss o r _ hm (fun x s1 vs H1 F1 t1 hs1 r1 hm1 => hsp _ _ _ _ ⟨f x s1, F1, Dd s1, hpl x s1, hs1, hd _ _ _ _ r1, by
    cases e : mf (f x s1) with
    | ok z =>
      rw [e] at hm1
      exact fun v H2 F2 t2 hs2 r2 => q z s1 v H2 F2 (t1.trans t2) hs2 r2 hm1
    | err n u =>
      rw [e] at hm1
      exact fun H2 F2 t2 hs2 => qe n _ hm1 H2 F2 (t1.trans t2) (hde s1 _ _ hs2)
    | stuck =>
      rw [e] at hm1
      exact hm1⟩) qe
abbrev RecOk {S α : Type} (Dd : S → Own) (Rx : α → Ty) (C : Addr) (m : Str) : Prop := ∀ x s v H F, HS (Dd s) H F → (Rx x).p v F → ∃ a dx fs, v = .ref a ∧ H a = some (.ins C dx fs) ∧ fs.lookup m = none
theorem recOk_O {a : Addr} {O : S → OTy} {k : Nat} (hk : ∀ s, (Dd s)[k]? = some (a, O s)) (h : ∀ s o F, (O s).p o F → ∃ dx fs, o = .ins C dx fs ∧ fs.lookup m = none) : RecOk Dd (fun _ : Unit => Is (.ref a)) C m := fun x s v H F hs r => by
  have ev : v = .ref a := r
  obtain ⟨o, ho, hp⟩ := hs.at (hk s)
  obtain ⟨dx, fs, e, l⟩ := h s o F hp
  subst e
  exact ⟨a, dx, fs, ev, ho, l⟩
theorem evc_makeR {R : γ → Ty} {mf : τ → Res Unit γ} {fl : γ → Fds} {f : τ' → S → τ} {M : (τ' → S → Res ε δ) → Res ε δ} (hsp : ∀ vs H Q X, spIR K C args pl mf fl vs H Q X → sp vs H Q X) {g : S → ε} (h : EvAC K X De t G Dd s M Rs) (hpl : ∀ x s, pl (f x s) (Dd s)) (hde : ∀ s, DLe (Dd s) (De (g s))) (hd : ∀ x s F vs, AllP F (Rs x) vs → AllP F (args (f x s)) (vs ++ dvs))
    (hR : ∀ r v F, (IN K C (fl r)).p v F → (R r).p v F) :
    EvC K X De (tMakeSD C sp dvs X t) G Dd s (fun kk => M fun x s1 => Res.bind (Res.mapE (fun _ => g s1) (mf (f x s1))) fun z => kk z s1) R := fun kk σ H F hs ss o r Q hm q qe =>
  h _ σ H F hs ss o r _ hm (fun x s1 vs H1 F1 t1 hs1 r1 hm1 a dx na nd ne => hsp _ _ _ _ ⟨f x s1, F1, Dd s1, a, _, rfl, hpl x s1, by
    have hs2 : HS (Dd s1) (upd H1 dx (.own a)) F1 := hs1.mark nd
    exact hs2.new (by rw [upd_ne (Ne.symm ne)]; exact na) ⟨dx, [], rfl, rfl, .nil⟩, hd _ _ _ _ r1, by
    cases e : mf (f x s1) with
    | ok z =>
      rw [e] at hm1
      intro H' F' s' hs' r'
      exact ⟨rfl, q z s1 _ H' F' (t1.trans s') hs' (hR _ _ _ (INa.to r')) hm1⟩
    | err n u =>
      rw [e] at hm1
      exact fun H2 F2 t2 hs2 => qe n _ hm1 H2 F2 (t1.trans t2) (hde s1 _ _ hs2)
    | stuck =>
      rw [e] at hm1
      exact hm1⟩) qe
theorem evc_callM {mf : τ → Ω → Res Ω (γ × Ω)} {R : γ → Ty} {f : τ' → S → τ} {gt : S → Ω} {st : S → Ω → S} {M : (τ' → S → Res ε δ) → Res ε δ} (hsp : ∀ vs H Q X, spM K args plm mf (fun r => .ok (R r)) vs H Q X → sp vs H Q X) {g : S → Ω → ε} (h : EvAC K X De t G Dd s M Rs) (hid : ∀ s, st s (gt s) = s) (hpl : ∀ x s, plm (f x s) (fun y => Dd (st s y))) (hde : ∀ s y, DLe (Dd (st s y)) (De (g s y))) (hd : ∀ x s F vs, AllP F (Rs x) vs → AllP F (args (f x s)) (vs ++ dvs)) :
    EvC K X De (tCallSD sp dvs X t) G Dd s (fun kk => M fun x s1 => Res.bind (Res.mapE (g s1) (mf (f x s1) (gt s1))) fun z => kk z.1 (st s1 z.2)) R := fun kk σ H F hs ss o r Q hm q qe =>
  h _ σ H F hs ss o r _ hm (fun x s1 vs H1 F1 t1 hs1 r1 hm1 => hsp _ _ _ _ ⟨f x s1, gt s1, F1, fun y => Dd (st s1 y), hpl x s1, by show HS (Dd (st s1 (gt s1))) H1 F1; rw [hid]; exact hs1, hd _ _ _ _ r1, by
    cases e : mf (f x s1) (gt s1) with
    | ok z =>
      rw [e] at hm1
      exact fun v H2 F2 t2 hs2 r2 => q z.1 (st s1 z.2) v H2 F2 (t1.trans t2) hs2 r2 hm1
    | err n u =>
      rw [e] at hm1
      exact fun H2 F2 t2 hs2 => qe n _ hm1 H2 F2 (t1.trans t2) (hde s1 u _ _ hs2)
    | stuck =>
      rw [e] at hm1
      exact hm1⟩) qe
theorem pure_ofIRd {mf : τ → Res Unit γ} {fl : γ → Fds} {N : List Str} {tf : TS} {vs : List V} {H : Hp} {Q : VK} {X : XK}
    (walk : ∀ (x : τ) (F : Hp) (D : Own) (a : Addr) (E : Ends), pl x D → E.rt = Q → (∀ F1 r G D1, GoI K Q F1 C a (fl r) D → G[0]? = some (some (INa K C a (fl r))) → D.Sublist D1 → Go E.nx F1 G D1) → (iwish K C X Q a fl D).W F (mf x) → Go (tf E) F (some (Is (.ref a)) :: ((args x).map some ++ List.replicate (N.length - 1 - (args x).length) none)) ((a, OI K C []) :: D))
    (h : spIR K C args pl mf fl vs H Q X) : tf { nx := fun _ H' => Q .non H', rt := Q } (L2.start N vs) H := by
  obtain ⟨x, F, D, a, us, e, hp0, hs, ha, hp⟩ := h
  subst e
  have z := SS.start (N := N) (AllP.cons (R := Is (.ref a)) rfl ha)
  rw [List.length_cons, ha.len] at z
  have e2 : ((Is (.ref a) :: args x).map some ++ List.replicate (N.length - ((args x).length + 1)) none) = some (Is (.ref a)) :: ((args x).map some ++ List.replicate (N.length - 1 - (args x).length) none) := by
    rw [List.map_cons, List.cons_append, Nat.sub_sub, Nat.add_comm 1]
  rw [e2] at z
  refine walk x F D a { nx := fun _ H' => Q .non H', rt := Q } hp0 rfl (fun F1 r G D1 g hg sb σ H' F' s hs' ss => ?_) hp _ H F (Same.refl _) hs z
  obtain ⟨v, e1, e3⟩ := ss.get hg
  have ev : v = .ref a := e3.1
  subst ev
  exact g H' F' s (hs'.drop sb) e3
theorem spR_len {mf : τ → Res Unit γ} {out : γ → Out} {n : Nat} (e : ∀ x, (args x).length = n) : ∀ vs H Q E, spR K args pl mf out vs H Q E → vs.length = n := fun vs H Q E ⟨x, F, D, _, _, ha, _⟩ => by rw [ha.len, e]
theorem spM_len {mf : τ → Ω → Res Ω (γ × Ω)} {out : γ → Out} {n : Nat} (e : ∀ x, (args x).length = n) : ∀ vs H Q E, spM K args plm mf out vs H Q E → vs.length = n := fun vs H Q E ⟨x, y, F, D, _, _, ha, _⟩ => by rw [ha.len, e]
theorem spIR_len {mf : τ → Res Unit γ} {fl : γ → Fds} {k : Nat} (h : ∀ x, (args x).length = k) : ∀ vs H Q E, spIR K C args pl mf fl vs H Q E → vs.length = k + 1 := fun vs H Q E ⟨x, F, D, a, us, e, _, hs, ha, _⟩ => by
  rw [e, List.length_cons, ha.len, h x]
end
end TL
end
section
set_option Elab.async false
set_option linter.all false
set_option maxRecDepth 100000
set_option maxHeartbeats 1000000
namespace TL
open PySem PySem.Spec L2
theorem at_n {S : Type} {Dd : S → Own} {c : S → Addr × OTy} (n : Nat) (h : ∀ s, (Dd s)[n]? = some (c s)) : ∀ s, (Dd s)[n]? = some (c s) := h
theorem at_cons {D : Own} {k : Nat} {c c' : Addr × OTy} (h : D[k]? = some c) : (c' :: D)[k + 1]? = some c := by rw [List.getElem?_cons_succ]; exact h
section
variable {K : PySem.W.Frag} {ε ε' ρ α β γ δ S τ τ' σt ω Ω : Type} {X : L2.St → XK} {Xk : XK} {De : ε → Own} {G G1 G2 : Sto} {D0 : Own} {Dd : S → Own} {s : S} {te ta tb tc tx : TE} {tt tu : TT} {F0 F1 : Hp} {E : Ends} {w : Wish K ε ρ} {t : TA} {n : Nat} {dvs : List V} {args : τ → List Ty} {Rs : τ' → List Ty} {C : Addr} {pl : τ → Own → Prop} {plm : τ → (Ω → Own) → Prop} {sp : Sp} {m : Str}
theorem evc_callRD {mf : τ → Res Unit γ} {R : γ → Ty} {f : τ' → S → τ} {M : (τ' → S → Res ε δ) → Res ε δ} (hsp : ∀ vs H Q X, spR K args pl mf (fun r => .ok (R r)) vs H Q X → sp vs H Q X) {g : S → ε} (h : EvAC K (fun _ => Xk) De t G Dd s M Rs) (hpl : ∀ x s, pl (f x s) (Dd s)) (hde : ∀ s, DLe (Dd s) (De (g s))) (hd : ∀ x s F vs, AllP F (Rs x) vs → AllP F (args (f x s)) (vs ++ dvs)) :
    EvC K (fun _ => Xk) De (tCall sp dvs Xk t) G Dd s (fun kk => M fun x s1 => Res.bind (Res.mapE (fun _ => g s1) (mf (f x s1))) fun z => kk z s1) R := evc_callR (g := g) hsp h hpl hde hd
theorem evc_callMD {mf : τ → Ω → Res Ω (γ × Ω)} {R : γ → Ty} {f : τ' → S → τ} {gt : S → Ω} {st : S → Ω → S} {M : (τ' → S → Res ε δ) → Res ε δ} (hsp : ∀ vs H Q X, spM K args plm mf (fun r => .ok (R r)) vs H Q X → sp vs H Q X) {g : S → Ω → ε} (h : EvAC K (fun _ => Xk) De t G Dd s M Rs) (hid : ∀ s, st s (gt s) = s) (hpl : ∀ x s, plm (f x s) (fun y => Dd (st s y))) (hde : ∀ s y, DLe (Dd (st s y)) (De (g s y))) (hd : ∀ x s F vs, AllP F (Rs x) vs → AllP F (args (f x s)) (vs ++ dvs)) :
    EvC K (fun _ => Xk) De (tCall sp dvs Xk t) G Dd s (fun kk => M fun x s1 => Res.bind (Res.mapE (g s1) (mf (f x s1) (gt s1))) fun z => kk z.1 (st s1 z.2)) R := evc_callM (g := g) hsp h hid hpl hde hd
end
end TL
end
section
set_option Elab.async false
set_option linter.all false
set_option maxRecDepth 100000
set_option maxHeartbeats 1000000
namespace TL
open PySem PySem.Spec L2
def PuT (K : PySem.W.Frag) (F : Hp) (a : Addr) (xs : List V) : Prop := (∃ o, F a = some (.frz o (.tup xs)) ∧ o.dict = none) ∨ ∃ (o : Obj) (its : Array Value) (n : Nat), K.lookup a = some o ∧ o.cls = .type "tuple" ∧ o.dict = none ∧ o.data = .seq its n ∧ its.size ≤ sizeLine ∧ Vals xs its.toList
theorem PuT.sq {K : PySem.W.Frag} {F : Hp} {a : Addr} {xs : List V} (h : PuT K F a xs) : SqT K F a xs := by
  rcases h with ⟨o, h, _⟩ | ⟨o, its, n, h1, h2, h3, h4, h5, h6⟩
  · exact .inl (.inr ⟨o, h⟩)
  · exact .inr ⟨o, its, n, h1, h2, h4, h5, h6⟩
theorem PuT.up {K : PySem.W.Frag} {F F' : Hp} {a : Addr} {xs : List V} (s : Same F F') (h : PuT K F a xs) : PuT K F' a xs := by
  rcases h with ⟨o, h, q⟩ | h
  · exact .inl ⟨o, s _ _ h, q⟩
  · exact .inr h
section
variable {X : Cx} {t : TA} {es : List Expr} {pos : Pos}
def tTupP (t : TA) : TE := fun σ H Q => t σ H fun xs H1 => xs.length ≤ sizeLine ∧ ∀ p o, H1 p = none → o.dict = none → Q (.ref p) (upd H1 p (.frz o (.tup xs)))
theorem pe_tupP {x1} (h : PA X es t) : PE X (.Tuple es x1 pos) (tTupP t) := by
  refine ⟨fun pins s σ H Q I hq => ?_⟩
  refine wpAny_Tuple_spliced (thn (h.run pos pins s σ H _ I hq) fun us s1 ⟨xs, H1, I1, r, z, q⟩ => ⟨by rw [← r.length]; exact z, ?_⟩)
  have hf : H1 s1.heap.objs.size = none := I1.hok.fresh (Nat.le_refl _)
  refine ⟨.ref s1.heap.objs.size, _, I1.laid (t' := s1.toks) (o := .frz { cls := .type "tuple", data := .seq us.toArray } (.tup xs)) (fun b u e => Heap.get?_push_of_some _ e) (Nat.le_refl _) ?_, rfl, q _ _ hf rfl⟩
  exact ⟨Heap.get?_push_size _ rfl, z, us, r, ⟨_, Heap.get?_push_size _ rfl, rfl, _, rfl⟩⟩
def cTupP (K : PySem.W.Frag) : List V → Hp → VK → Prop := fun xs H Q => ∃ p ys, xs = [.ref p] ∧ ((SqL K H p ys ∧ ∀ l o, H l = none → o.dict = none → Q (.ref l) (upd H l (.frz o (.tup ys)))) ∨ (SqT K H p ys ∧ Q (.ref p) H))
theorem call_tupP : CallR X (.type "tuple") (cTupP X.K) := by
  intro pins s σ H xs us Q I r h
  obtain ⟨p, ys, rfl, h⟩ := h
  obtain ⟨u, rfl, rx⟩ := vals1 r
  cases rx
  rcases h with ⟨hq, q⟩ | ⟨hq, q⟩
  · obtain ⟨its, r', pl, hz⟩ := I.list hq
    have hlen := r'.length
    refine call_tuple_list pl.isList (fun h' kp => ?_) (by simp only [List.size_toArray] <;> omega)
    have I1 : Inv X pins σ H { s with heap := h' } := I.kept (t' := s.toks) kp
    have I2 : Inv X pins σ (upd H h'.objs.size (.frz { cls := .type "tuple", data := .seq its.toArray } (.tup ys))) { s with heap := h'.push { cls := .type "tuple", data := .seq its.toArray } } :=
      I1.laid (t' := s.toks) (fun b o e => Heap.get?_push_of_some _ e) (Nat.le_refl _) (show ObjOk X.prog X.w _ _ _ (.frz _ (.tup ys)) from ⟨Heap.get?_push_size _ rfl, hz, its, r', PyProof.Rows.IsTup.new _ _⟩)
    exact ⟨.ref h'.objs.size, _, I2, rfl, q _ _ (I1.hok.fresh (Nat.le_refl _)) rfl⟩
  · obtain ⟨its, r', pl, hz⟩ := I.tuple hq
    exact call_tuple_same pl ⟨.ref p, H, I, rfl, q⟩
theorem plainTup {pins : List (Addr × Obj)} {σ : L2.St} {H : Hp} {s : Shared} {a : Addr} {xs : List V} (I : Inv X pins σ H s) (h : PuT X.K H a xs) : ∃ its : List Value, Vals xs its ∧ PlainSeq "tuple" s.heap a its.toArray ∧ xs.length ≤ sizeLine := by
  rcases h with ⟨o, h, hd⟩ | ⟨o, its, n, hk, hc, hd, hs, hz, r⟩
  · obtain ⟨e, z, its, r, ⟨o2, e2, c2, n2, d2⟩⟩ := (show ObjOk X.prog X.w H s.heap a (.frz o (.tup xs)) from I.hok a _ h)
    rw [e] at e2
    cases e2
    exact ⟨its, r, ⟨o, n2, e, c2, hd, d2⟩, z⟩
  · refine ⟨its.toList, r, ⟨o, n, I.kIn a o hk, hc, hd, by simpa using hs⟩, ?_⟩
    have e := r.length
    simp only [Array.length_toList] at e
    omega
theorem pairs_of2 {pins : List (Addr × Obj)} {σ : L2.St} {H : Hp} {s : Shared} (I : Inv X pins σ H s) : ∀ {ps : List Addr} {kvs : List (L2.Key × V)}, Paired (fun p kv => SqT X.K H p [kV kv.1, kv.2]) ps kvs →
    ∃ (prs : List (L2.Key × Value)) (us : List (Value × Value)), KV kvs prs ∧ prs.length = ps.length ∧ us.length = ps.length ∧ ∀ (j : Nat) (k v : Value), us[j]? = some (k, v) → ∃ (b : Addr) (key : L2.Key), ps[j]? = some b ∧ s.heap.IsTuple b #[k, v] ∧ prs[j]? = some (key, v) ∧ keyIs key k = true
  | _, _, .nil => ⟨[], [], .nil, rfl, rfl, fun j k v e => by simp at e⟩
  | _, _, .cons (a := p) (b := kv) h t => by
    obtain ⟨prs, us, r, hl, hl2, hp⟩ := pairs_of2 I t
    obtain ⟨its, rv, ht, _⟩ := I.tuple h
    obtain ⟨u, y, ei, ru, ry⟩ := vals2 rv
    subst ei
    refine ⟨(kv.1, y) :: prs, (u, y) :: us, .cons ⟨rfl, ry⟩ r, by rw [List.length_cons, List.length_cons, hl], by rw [List.length_cons, List.length_cons, hl2], fun j k v e => ?_⟩
    cases j with
    | zero =>
      have e' : (u, y) = (k, v) := Option.some.inj e
      cases e'
      exact ⟨p, kv.1, rfl, ht, rfl, kV_is (P := X.prog) (w := X.w) ru⟩
    | succ j =>
      obtain ⟨b, key, e1, e2, e3, e4⟩ := hp j k v (by simpa using e)
      exact ⟨b, key, by simpa using e1, e2, by simpa using e3, e4⟩
def cDctT (K : PySem.W.Frag) : List V → Hp → VK → Prop := fun xs H Q => ∃ (a : Addr) (ps : List Addr) (kvs : List (L2.Key × V)), xs = [.ref a] ∧ PuT K H a (ps.map V.ref) ∧ Paired (fun p kv => SqT K H p [kV kv.1, kv.2]) ps kvs ∧
    ∀ p, H p = none → Q (.ref p) (upd H p (.dK (mergeK [] kvs)))
theorem call_dctT (hcalm : X.calm = true) : CallR X (.type "dict") (cDctT X.K) := by
  intro pins s σ H xs us Q I r q
  obtain ⟨a, ps, kvs, ex, hq, hp, q⟩ := q
  subst ex
  obtain ⟨u, eu, rx⟩ := vals1 r
  subst eu
  cases rx
  obtain ⟨its, rv, pl, hz⟩ := plainTup I hq
  have ei := refs_at rv
  subst ei
  rw [List.length_map] at hz
  obtain ⟨prs, vs, rel, hl, hl2, hpr⟩ := pairs_of2 I hp
  refine call_dict_pairs (knd := mixKind X.prog X.w) (kvs := prs) (PairArg.tuple a (ps.map Value.ref).toArray (fun j => ps.getD j 0) vs) (I.ok.hd hcalm) ⟨pl, by simp [hl2], fun j k v e => ?_⟩ ⟨by rw [hl, hl2], fun i key v e => ?_⟩ (by rw [hl2]; exact hz) fun h' tk hd' k => ?_
  · obtain ⟨b, key, e1, e2, _, _⟩ := hpr j k v e
    have e3 : ps.getD j 0 = b := by rw [List.getD_eq_getElem?_getD, e1]; rfl
    exact ⟨by dsimp only; rw [e3]; simp [e1], by dsimp only; rw [e3]; exact .inl e2⟩
  · obtain ⟨b, k2, e1, e2, e3, e4⟩ := hpr i key v e
    exact ⟨k2, e3, e4⟩
  · have hm : (s.heap.objs.size == sysModules) = false := beq_eq_false_iff_ne.mpr (Nat.ne_of_gt I.big)
    have hlen : (mergeK [] kvs).length ≤ sizeLine := by
      refine Nat.le_trans (length_mergeK kvs []) ?_
      rw [List.length_nil, Nat.zero_add, rel.length, hl]
      exact hz
    exact ⟨.ref s.heap.objs.size, upd H s.heap.objs.size (.dK (mergeK [] kvs)), I.laid (t' := tk) (fun b o e => k b o (by simp) e) (Nat.le_refl _) (show ObjOk X.prog X.w _ _ _ (.dK (mergeK [] kvs)) from ⟨hlen, hm, merged [] prs, KV.merge rel .nil, hd'⟩), rfl, q _ (I.hok.fresh (Nat.le_refl _))⟩
end
end TL
end
section
set_option Elab.async false
set_option linter.all false
set_option maxRecDepth 100000
set_option maxHeartbeats 1000000
namespace TL
open PySem PySem.Spec L2
def TU (K : PySem.W.Frag) (Rs : List Ty) : Ty := ⟨fun v F => ∃ a vs, v = .ref a ∧ SqT K F a vs ∧ AllP F Rs vs, fun s ⟨a, vs, e, h1, h2⟩ => ⟨a, vs, e, same_sqT s h1, h2.mono s⟩⟩
def VP (K : PySem.W.Frag) {α : Type} (R : α → Ty) (xs : List α) : Ty := ⟨fun v F => ∃ a vs, v = .ref a ∧ PuT K F a vs ∧ AllP F (xs.map R) vs, fun s ⟨a, vs, e, h1, h2⟩ => ⟨a, vs, e, h1.up s, h2.mono s⟩⟩
def OpT {α : Type} (K : PySem.W.Frag) (R : α → Ty) (x : Option α) : Ty := ⟨fun v F => match x with
  | none => v = .non
  | some y => (R y).p v F, fun {v F F'} s h => by cases x with
  | none => exact h
  | some y => exact (R y).mono s h⟩
abbrev Dat (K : PySem.W.Frag) (R : Ty) (d : PyData) : Prop := ∀ v F, R.p v F → Dp K F v d
def DD (K : PySem.W.Frag) (Rs : List Ty) (ds : List PyData) : Prop := ∀ F vs, AllP F Rs vs → DpAll K F vs ds
section
variable {K : PySem.W.Frag} {α β : Type}
theorem dd_nil : DD K [] [] := fun F vs h => by cases h; exact .nil
theorem dd_cons {R : Ty} {Rs : List Ty} {d : PyData} {ds : List PyData} (h : Dat K R d) (t : DD K Rs ds) : DD K (R :: Rs) (d :: ds) := fun F vs r => by
  cases r with
  | cons r1 r2 => exact .cons (h _ _ r1) (t _ _ r2)
theorem dd_map {R : α → Ty} {e : α → PyData} (h : ∀ x, Dat K (R x) (e x)) : ∀ xs : List α, DD K (xs.map R) (xs.map e)
  | [] => dd_nil
  | x :: xs => dd_cons (h x) (dd_map h xs)
theorem d_b {e : α → PyData} (x : α) : Dat K (tD K e x) (e x) := fun _ _ h => h
theorem d_T {Rs : List Ty} {ds : List PyData} (h : DD K Rs ds) : Dat K (TU K Rs) (.tuple ds) := fun v F ⟨a, vs, e, h1, h2⟩ => by subst e; exact .tup h1 (h _ _ h2)
theorem d_V {R : α → Ty} {e : α → PyData} (h : ∀ x, Dat K (R x) (e x)) (xs : List α) : Dat K (VP K R xs) (eV e xs) := fun v F ⟨a, vs, e0, h1, h2⟩ => by subst e0; exact .tup h1.sq (dd_map h xs _ _ h2)
theorem d_L {R : α → Ty} {e : α → PyData} (h : ∀ x, Dat K (R x) (e x)) (xs : List α) : Dat K (LT K R xs) (eL e xs) := fun v F ⟨a, vs, e0, h1, h2⟩ => by subst e0; exact .lst h1 (dd_map h xs _ _ h2)
abbrev Tad (K : PySem.W.Frag) (R : Ty) (d : PyData) : Prop := ∀ v F, Dp K F v d → R.p v F
def AA (K : PySem.W.Frag) (Rs : List Ty) (ds : List PyData) : Prop := ∀ F vs, DpAll K F vs ds → AllP F Rs vs
theorem aa_nil : AA K [] [] := fun F vs h => by cases h; exact .nil
theorem aa_cons {R : Ty} {Rs : List Ty} {d : PyData} {ds : List PyData} (h : Tad K R d) (t : AA K Rs ds) : AA K (R :: Rs) (d :: ds) := fun F vs r => by
  cases r with
  | cons r1 r2 => exact .cons (h _ _ r1) (t _ _ r2)
theorem aa_map {R : α → Ty} {e : α → PyData} (h : ∀ x, Tad K (R x) (e x)) : ∀ xs : List α, AA K (xs.map R) (xs.map e)
  | [] => aa_nil
  | x :: xs => aa_cons (h x) (aa_map h xs)
theorem u_id {d : PyData} : Tad K (TL.D K d) d := fun _ _ h => h
theorem u_b {e : α → PyData} (x : α) : Tad K (tD K e x) (e x) := fun _ _ h => h
theorem u_L {R : α → Ty} {e : α → PyData} (h : ∀ x, Tad K (R x) (e x)) (xs : List α) : Tad K (LT K R xs) (eL e xs) := fun v F r => by
  obtain ⟨a, vs, e, h1, h2⟩ := dp_lst r
  exact ⟨a, vs, e, h1, aa_map h xs _ _ h2⟩
end
structure KeyE (κ : Type) where
  f : κ → L2.Key
  inj : ∀ a b, f a = f b → a = b
def kS : KeyE Tx := ⟨fun t => Sum.inr t.s, fun a b h => Tx.ext' (Sum.inr.inj h)⟩
inductive EntT {κ α : Type} (k : KeyE κ) (R : α → Ty) (F : Hp) : List (L2.Key × V) → List (κ × α) → Prop
  | nil : EntT k R F [] []
  | cons {x : κ} {v : V} {d : α} {kvs : List (L2.Key × V)} {m : List (κ × α)} : (R d).p v F → EntT k R F kvs m → EntT k R F ((k.f x, v) :: kvs) ((x, d) :: m)
section
variable {κ α : Type} [DecidableEq κ] {k : KeyE κ} {R : α → Ty} {F F' : Hp} {kvs : List (L2.Key × V)} {m : List (κ × α)}
omit [DecidableEq κ] in
theorem EntT.mono (h : EntT k R F kvs m) (s : Same F F') : EntT k R F' kvs m := by
  induction h with
  | nil => exact .nil
  | cons h _ ih => exact .cons ((R _).mono s h) ih
omit [DecidableEq κ] in
theorem EntT.len (h : EntT k R F kvs m) : kvs.length = m.length := by
  induction h with
  | nil => rfl
  | cons _ _ ih => simp [ih]
omit [DecidableEq κ] in
theorem EntT.keys (h : EntT k R F kvs m) : kvs.map (·.1) = m.map fun e => k.f e.1 := by
  induction h with
  | nil => rfl
  | cons _ _ ih => simp [ih]
theorem EntT.get (h : EntT k R F kvs m) (x : κ) : (dget m x = none ∧ valV kvs (k.f x) = none) ∨ ∃ d v, dget m x = some d ∧ valV kvs (k.f x) = some v ∧ (R d).p v F := by
  induction h with
  | nil => exact .inl ⟨rfl, rfl⟩
  | @cons x' v d kvs m hd _ ih =>
    by_cases e : x' = x
    · subst e
      exact .inr ⟨d, v, by simp [dget], by simp [valV], hd⟩
    · have e1 : dget ((x', d) :: m) x = dget m x := by simp [dget, e]
      have e2 : valV ((k.f x', v) :: kvs) (k.f x) = valV kvs (k.f x) := valV_neg (fun z => e (k.inj _ _ z))
      rw [e1, e2]
      exact ih
theorem EntT.any (h : EntT k R F kvs m) (x : κ) : (kvs.any fun e => decide (e.1 = k.f x)) = (m.any fun e => decide (e.1 = x)) := by
  induction h with
  | nil => rfl
  | @cons x' v d kvs m _ _ ih =>
    rw [List.any_cons, List.any_cons, ih]
    congr 1
    by_cases e : x' = x
    · subst e; simp
    · have e' : ¬ k.f x' = k.f x := fun z => e (k.inj _ _ z)
      simp [e, e']
omit [DecidableEq κ] in
theorem EntT.snoc (h : EntT k R F kvs m) {x : κ} {v : V} {d : α} (hd : (R d).p v F) : EntT k R F (kvs ++ [(k.f x, v)]) (m ++ [(x, d)]) := by
  induction h with
  | nil => exact .cons hd .nil
  | cons h _ ih => exact .cons h ih
theorem EntT.repl (h : EntT k R F kvs m) {x : κ} {v : V} {d : α} (hd : (R d).p v F) :
    EntT k R F (kvs.map fun e => if e.1 = k.f x then (e.1, v) else e) (m.map fun e => if e.1 = x then (e.1, d) else e) := by
  induction h with
  | nil => exact .nil
  | @cons x' v' d' kvs m h _ ih =>
    rw [List.map_cons, List.map_cons]
    by_cases e : x' = x
    · subst e
      rw [if_pos rfl, if_pos rfl]
      exact .cons hd ih
    · rw [if_neg (fun z => e (k.inj _ _ z)), if_neg e]
      exact .cons h ih
theorem EntT.put (h : EntT k R F kvs m) {x : κ} {v : V} {d : α} (hd : (R d).p v F) : EntT k R F (putK kvs (k.f x) v) (dput m x d) := by
  unfold putK dput
  rw [h.any x]
  split
  · exact h.repl hd
  · exact h.snoc hd
theorem EntT.merge {kvs2 : List (L2.Key × V)} {m2 : List (κ × α)} (h2 : EntT k R F kvs2 m2) : ∀ {kvs : List (L2.Key × V)} {m : List (κ × α)}, EntT k R F kvs m → EntT k R F (mergeK kvs kvs2) (m2.foldl (fun a e => dput a e.1 e.2) m) := by
  induction h2 with
  | nil => intro kvs m h; exact h
  | cons h _ ih => intro kvs m h'; exact ih (h'.put h)
theorem EntT.drop (h : EntT k R F kvs m) (x : κ) : EntT k R F (dropK kvs (k.f x)) (m.filter fun e => decide (e.1 ≠ x)) := by
  induction h with
  | nil => exact .nil
  | @cons x' v' d' kvs m h _ ih =>
    unfold dropK at ih ⊢
    rw [List.filter_cons, List.filter_cons]
    by_cases e : x' = x
    · subst e
      simpa using ih
    · have e' : ¬ k.f x' = k.f x := fun z => e (k.inj _ _ z)
      simp only [ne_eq, e, e', not_false_eq_true, decide_true, if_true]
      exact .cons h ih
end
def dof {κ α : Type} [DecidableEq κ] (ps : List (κ × α)) : List (κ × α) := ps.foldl (fun a e => dput a e.1 e.2) []
def ddrop {κ α : Type} [DecidableEq κ] (m : List (κ × α)) (x : κ) : List (κ × α) := m.filter fun e => decide (e.1 ≠ x)
def OXT {κ α : Type} (k : KeyE κ) (R : α → Ty) (m : List (κ × α)) : OTy := .fl (fun o F => ∃ kvs, o = .dK kvs ∧ EntT k R F kvs m) (fun s ⟨kvs, e, h⟩ => ⟨kvs, e, h.mono s⟩)
def DT {κ α : Type} (k : KeyE κ) (R : α → Ty) (m : List (κ × α)) : Ty := ⟨fun v F => ∃ a od kvs, v = .ref a ∧ F a = some (.frz od (.dK kvs)) ∧ EntT k R F kvs m, fun s ⟨a, od, kvs, h0, h1, h2⟩ => ⟨a, od, kvs, h0, s _ _ h1, h2.mono s⟩⟩
abbrev KeyV {κ : Type} (k : KeyE κ) (Rk : κ → Ty) : Prop := ∀ x v F, (Rk x).p v F → v = kV (k.f x)
theorem kvS {K : PySem.W.Frag} : KeyV kS (tD K eS) := fun x v F r => dp_str r
theorem kS_at {K : PySem.W.Frag} (x : Tx) (F : Hp) : (tD K eS x).p (kV (kS.f x)) F := .str _
section
variable {K : PySem.W.Frag} {ε ε' ρ α β γ δ S τ τ' σt ω κ : Type} [DecidableEq κ] {X : L2.St → XK} {De : ε → Own} {G G1 G2 : Sto} {D0 : Own} {Dd : S → Own} {s : S} {te ta tb tc tx : TE} {tt tu : TT} {F0 F1 : Hp} {E : Ends} {w : Wish K ε ρ} {t : TA} {n : Nat} {k : KeyE κ} {Rk : κ → Ty} {Rv : β → Ty}
def DVw {S α β κ : Type} (Dd : S → Own) (R : α → Ty) (f : α → List (κ × β)) (k : KeyE κ) (Rv : β → Ty) : Prop := ∀ x s v H F, HS (Dd s) H F → (R x).p v F → ∃ a kvs, v = .ref a ∧ EntT k Rv F kvs (f x) ∧ (H a = some (.dK kvs) ∨ ∃ od, H a = some (.frz od (.dK kvs)))
omit [DecidableEq κ] in
theorem dw_Z : DVw Dd (DT k Rv) id k Rv := fun x s v H F hs ⟨a, od, kvs, h0, h1, h2⟩ => ⟨a, kvs, h0, h2, .inr ⟨od, hs.sub _ _ h1⟩⟩
omit [DecidableEq κ] in
theorem dw_O {m : List (κ × β)} {a : Addr} {j : Nat} (hk : ∀ s, (Dd s)[j]? = some (a, OXT k Rv m)) : DVw Dd (fun _ : Unit => Is (.ref a)) (fun _ => m) k Rv := fun x s v H F hs r => by
  obtain ⟨o, ho, kvs, rfl, h⟩ := hs.at (hk s)
  exact ⟨a, kvs, r, h, .inl ho⟩
theorem dgetK_at {H : Hp} {a : Addr} {kvs : List (L2.Key × V)} {x : L2.Key} (h : H a = some (.dK kvs) ∨ ∃ od, H a = some (.frz od (.dK kvs))) : DGet H a (kV x) (valV kvs x) := by
  rcases h with h | ⟨od, h⟩
  · exact DGet.k h
  · exact .inl ⟨kvs, x, .inr ⟨od, h⟩, rfl, rfl⟩
variable {R : α → Ty} {f : α → List (κ × β)} {Ma : (α → S → Res ε δ) → Res ε δ} {Mb : S → (κ → S → Res ε δ) → Res ε δ}
theorem evc_dgetT (hv : DVw Dd R f k Rv) (hkv : KeyV k Rk) (ha : EvC K X De ta G Dd s Ma R) (hb : ∀ s1, EvC K X De tb G Dd s1 (Mb s1) Rk) : EvC K X De (tDGet ta tb) G Dd s (fun kk => Ma fun a s1 => Mb s1 fun b s2 => Res.bind (Res.opt (dget (f a) b)) fun z => kk z s2) Rv := fun kk σ H F hs ss o r Q hm q qe =>
  ha _ σ H F hs ss o r _ hm (fun a s1 x H1 F1 t1 hs1 r1 hm1 => hb s1 _ σ H1 F1 hs1 (ss.mono t1) o r _ hm1
    (fun b s2 y H2 F2 t2 hs2 r2 hm2 => by
      obtain ⟨d, ed, hm3⟩ := Res.sat_opt hm2
      obtain ⟨p, kvs, rfl, h1, h2⟩ := hv a s2 x H2 F2 hs2 ((R a).mono t2 r1)
      rcases h1.get b with ⟨h3, _⟩ | ⟨d', v, h3, h4, h5⟩
      · rw [ed] at h3; cases h3
      · rw [ed] at h3
        cases h3
        refine ⟨p, v, rfl, ?_, q d s2 v H2 F2 (t1.trans t2) hs2 h5 hm3⟩
        rw [hkv _ _ _ r2, ← h4]
        exact dgetK_at h2)
    (fun n e h H2 F2 t2 => qe n e h H2 F2 (t1.trans t2))) qe
theorem evc_dinT (hv : DVw Dd R f k Rv) (hkv : KeyV k Rk) {Mb : (κ → S → Res ε δ) → Res ε δ} {Ma : S → (α → S → Res ε δ) → Res ε δ} (hb : EvC K X De tb G Dd s Mb Rk) (ha : ∀ s1, EvC K X De ta G Dd s1 (Ma s1) R) : EvC K X De (tDIn tb ta) G Dd s (fun kk => Mb fun b s1 => Ma s1 fun a s2 => kk (dget (f a) b).isSome s2) (tD K eB) := fun kk σ H F hs ss o r Q hm q qe =>
  hb _ σ H F hs ss o r _ hm (fun b s1 y H1 F1 t1 hs1 r1 hm1 => ha s1 _ σ H1 F1 hs1 (ss.mono t1) o r _ hm1
    (fun a s2 x H2 F2 t2 hs2 r2 hm2 => by
      obtain ⟨p, kvs, rfl, h1, h2⟩ := hv a s2 x H2 F2 hs2 r2
      have g := dgetK_at (x := k.f b) h2
      rw [← hkv _ _ _ r1] at g
      have ee : (valV kvs (k.f b)).isSome = (dget (f a) b).isSome := by
        rcases h1.get b with ⟨h3, h4⟩ | ⟨d', v, h3, h4, h5⟩ <;> rw [h3, h4] <;> rfl
      exact ⟨p, _, rfl, g, by rw [ee]; exact q _ s2 _ H2 F2 (t1.trans t2) hs2 (.bl _) hm2⟩)
    (fun n e h H2 F2 t2 => qe n e h H2 F2 (t1.trans t2))) qe
theorem evc_dnotinT (hv : DVw Dd R f k Rv) (hkv : KeyV k Rk) {Mb : (κ → S → Res ε δ) → Res ε δ} {Ma : S → (α → S → Res ε δ) → Res ε δ} (hb : EvC K X De tb G Dd s Mb Rk) (ha : ∀ s1, EvC K X De ta G Dd s1 (Ma s1) R) : EvC K X De (tDNotIn tb ta) G Dd s (fun kk => Mb fun b s1 => Ma s1 fun a s2 => kk (!(dget (f a) b).isSome) s2) (tD K eB) := fun kk σ H F hs ss o r Q hm q qe =>
  hb _ σ H F hs ss o r _ hm (fun b s1 y H1 F1 t1 hs1 r1 hm1 => ha s1 _ σ H1 F1 hs1 (ss.mono t1) o r _ hm1
    (fun a s2 x H2 F2 t2 hs2 r2 hm2 => by
      obtain ⟨p, kvs, rfl, h1, h2⟩ := hv a s2 x H2 F2 hs2 r2
      have g := dgetK_at (x := k.f b) h2
      rw [← hkv _ _ _ r1] at g
      have ee : (valV kvs (k.f b)).isSome = (dget (f a) b).isSome := by
        rcases h1.get b with ⟨h3, h4⟩ | ⟨d', v, h3, h4, h5⟩ <;> rw [h3, h4] <;> rfl
      exact ⟨p, _, rfl, g, by rw [ee]; exact q _ s2 _ H2 F2 (t1.trans t2) hs2 (.bl _) hm2⟩)
    (fun n e h H2 F2 t2 => qe n e h H2 F2 (t1.trans t2))) qe
theorem evc_dgetDT (hv : DVw Dd R f k Rv) (hkv : KeyV k Rk) {Mx : S → (β → S → Res ε δ) → Res ε δ} (ha : EvC K X De ta G Dd s Ma R) (hb : ∀ s1, EvC K X De tb G Dd s1 (Mb s1) Rk) (hx : ∀ s1, EvC K X De tx G Dd s1 (Mx s1) Rv) :
    EvC K X De (tDGet2 ta tb tx) G Dd s (fun kk => Ma fun a s1 => Mb s1 fun b s2 => Mx s2 fun x s3 => kk ((dget (f a) b).getD x) s3) Rv := fun kk σ H F hs ss o r Q hm q qe =>
  ha _ σ H F hs ss o r _ hm (fun a s1 x H1 F1 t1 hs1 r1 hm1 => by
    obtain ⟨p, kvs0, rfl, _, h20⟩ := hv a s1 x H1 F1 hs1 r1
    refine ⟨p, rfl, isD_of h20, hb s1 _ σ H1 F1 hs1 (ss.mono t1) o r _ hm1 (fun b s2 y H2 F2 t2 hs2 r2 hm2 => hx s2 _ σ H2 F2 hs2 ((ss.mono t1).mono t2) o r _ hm2
      (fun z s3 u H3 F3 t3 hs3 r3 hm3 => ?_) (fun n e h H3 F3 t3 => qe n e h H3 F3 ((t1.trans t2).trans t3))) (fun n e h H2 F2 t2 => qe n e h H2 F2 (t1.trans t2))⟩
    obtain ⟨p', kvs, ep, h1, h2⟩ := hv a s3 _ H3 F3 hs3 ((R a).mono (t2.trans t3) r1)
    cases ep
    have g := dgetK_at (x := k.f b) h2
    rw [← hkv _ _ _ r2] at g
    rcases h1.get b with ⟨h3, h4⟩ | ⟨d', v, h3, h4, h5⟩
    · refine ⟨_, g, ?_⟩
      rw [h4]
      rw [h3] at hm3
      exact q z s3 _ H3 F3 ((t1.trans t2).trans t3) hs3 r3 hm3
    · refine ⟨_, g, ?_⟩
      rw [h4]
      rw [h3] at hm3
      exact q d' s3 _ H3 F3 ((t1.trans t2).trans t3) hs3 h5 hm3) qe
omit [DecidableEq κ] in
theorem evnc_dnewT : EvNC (β := δ) K X De tDNewK G Dd s (fun kk => kk [] s) (OXT k Rv) := fun kk σ H F hs ss o r Q hm q qe p hp => q [] s p _ F (Same.refl _) (hs.new hp ⟨[], rfl, .nil⟩) hm
theorem go_dputT {m : List (κ × β)} {j : Nat} {a : Addr} {Ma : (β → S → Res ε ρ) → Res ε ρ} {Mi : S → (κ → S → Res ε ρ) → Res ε ρ} {kk : List (κ × β) × S → Res ε ρ} (hkv : KeyV k Rk) (ho : G[n]? = some (some (Is (.ref a)))) (h : EvC K w.X w.De te G Dd s Ma Rv) (hi : ∀ s1, EvC K w.X w.De tb G Dd s1 (Mi s1) Rk) (hk : ∀ s, (Dd s)[j]? = some (a, OXT k Rv m))
    {mm : Res ε ρ} (hP : w.W F0 mm) (q : ∀ x, w.W F0 (kk x) → Go E.nx F0 G ((Dd x.2).set j (a, OXT k Rv x.1))) (c : w.cond G := by first | exact trivial | walk_at "cond") (hm : mm = (Ma fun v s1 => Mi s1 fun x s2 => Res.bind (Res.grd (m.length < 100000) (dput m x v, s2)) kk) := by exact rfl) : Go (sDPut (tVar n) tb te E) F0 G (Dd s) := by subst hm; exact (fun σ H F t hs ss =>
  h _ σ H F hs ss _ _ _ hP (fun x s1 v H1 F1 t1 hs1 r1 hm => by
    obtain ⟨v0, e0, r0⟩ := ss.get ho
    have r0' : v0 = .ref a := r0
    subst r0'
    refine ⟨_, e0, hi s1 _ σ H1 F1 hs1 (ss.mono t1) _ _ _ hm (fun y s2 u H2 F2 t2 hs2 r2 hm2 => ?_) (fun n e hr H2 F2 t2 hs2 => w.err hr c σ H2 F2 ((t.trans t1).trans t2) hs2 ((ss.mono t1).mono t2))⟩
    obtain ⟨hl, hm3⟩ := Res.sat_grd hm2
    obtain ⟨o, ho, kvs, rfl, h2⟩ := hs2.at (hk s2)
    have l2 := h2.len
    refine ⟨a, _, rfl, by rw [hkv _ _ _ r2]; exact DPut.k (k := k.f y) ho (by rw [l2]; exact Nat.lt_of_lt_of_le hl sizeLine_big), ?_⟩
    exact q (dput m y x, s2) hm3 σ _ F2 ((t.trans t1).trans t2) (hs2.put (hk s2) ⟨_, rfl, h2.put ((Rv x).mono t2 r1)⟩) ((ss.mono t1).mono t2)) (fun n e hr H1 F1 t1 hs1 => w.err hr c σ H1 F1 (t.trans t1) hs1 (ss.mono t1)))
omit [DecidableEq κ] in
theorem hs_frzDT {D : Own} {H F : Hp} (hs : HS D H F) {j : Nat} {a : Addr} {m : List (κ × β)} (hk : D[j]? = some (a, OXT k Rv m)) : ∃ kvs, H a = some (.dK kvs) ∧ ∀ od, ∃ F', Same F F' ∧ HS (D.eraseIdx j) (upd H a (.frz od (.dK kvs))) F' ∧ (DT k Rv m).p (.ref a) F' := by
  obtain ⟨o, ho, kvs, rfl, hx⟩ := hs.at hk
  refine ⟨kvs, ho, fun od => ?_⟩
  have hs1 : HS (D.set j (a, OTy.fl (fun o _ => o = .frz od (.dK kvs)) fun _ h => h)) (upd H a (.frz od (.dK kvs))) F := hs.put hk rfl
  have hk1 : (D.set j (a, (OTy.fl (fun o _ => o = .frz od (.dK kvs)) fun _ h => h)))[j]? = some (a, OTy.fl (fun o _ => o = .frz od (.dK kvs)) fun _ h => h) := set_at hk
  obtain ⟨o2, ho2, hs2, t2⟩ := hs1.freeze hk1
  have ho2' : o2 = .frz od (.dK kvs) := ho2
  subst ho2'
  refine ⟨_, t2, ?_, a, od, kvs, rfl, upd_same, hx.mono t2⟩
  have er : (D.set j (a, (OTy.fl (fun o _ => o = .frz od (.dK kvs)) fun _ h => h))).eraseIdx j = D.eraseIdx j := by
    refine List.ext_getElem? fun i => ?_
    rw [List.getElem?_eraseIdx, List.getElem?_eraseIdx]
    split
    · rw [List.getElem?_set_ne (by omega)]
    · rw [List.getElem?_set_ne (by omega)]
  rw [er] at hs2
  exact hs2
omit [DecidableEq κ] in
theorem go_frzDT {t : TS} {j i : Nat} {a : Addr} {m : List (κ × β)} (hk : D0[j]? = some (a, OXT k Rv m)) (hi : G[i]? = some (some (Is (.ref a)))) (h : Go (t E) F0 (G.set i (some (DT k Rv m))) (D0.eraseIdx j)) : Go (tFrz t E) F0 G D0 := fun σ H F s hs ss => by
  obtain ⟨kvs, ho, f⟩ := hs_frzDT hs hk
  obtain ⟨v, e1, e2⟩ := ss.get hi
  have ev : v = .ref a := e2
  subst ev
  refine ⟨a, _, ho, trivial, fun od => ?_⟩
  obtain ⟨F', t1, hs1, r1⟩ := f od
  have z := (ss.mono t1).set r1 i
  rw [set_get e1] at z
  exact h σ _ F' (s.trans t1) hs1 z
omit [DecidableEq κ] in
theorem ent_getK {F : Hp} {kvs : List (L2.Key × V)} {m : List (κ × β)} (h : EntT k Rv F kvs m) {i : Nat} {z : κ × β} (e : m[i]? = some z) : ∃ v, kvs[i]? = some (k.f z.1, v) ∧ (Rv z.2).p v F := by
  induction h generalizing i with
  | nil => simp at e
  | cons h _ ih =>
    cases i with
    | zero => simp at e; subst e; exact ⟨_, rfl, h⟩
    | succ i => simpa using ih (by simpa using e)
end
end TL
end
section
set_option Elab.async false
set_option linter.all false
set_option maxRecDepth 100000
set_option maxHeartbeats 1000000
namespace TL
open PySem PySem.Spec L2
theorem puT_up {K : PySem.W.Frag} {D : Own} {H F : Hp} {a : Addr} {vs : List V} (hs : HS D H F) (h : PuT K F a vs) : PuT K H a vs := h.up hs.sub
section
variable {K : PySem.W.Frag} {ε ε' ρ α β γ δ S τ τ' σt ω κ : Type} {X : L2.St → XK} {De : ε → Own} {G G1 G2 : Sto} {D0 : Own} {Dd : S → Own} {s : S} {te ta tb tc tx : TE} {tt tu : TT} {F0 F1 : Hp} {E : Ends} {w : Wish K ε ρ} {t : TA} {n : Nat}
theorem go_frzLT {P : L2.St → Hp → Prop} {k i : Nat} {a : Addr} {R : α → Ty} {xs : List α} (hk : D0[k]? = some (a, OLT R xs)) (hi : G[i]? = some (some (Is (.ref a)))) (h : Go P F0 (G.set i (some (LT K R xs))) (D0.eraseIdx k)) : Go P F0 G D0 := fun σ H F s hs ss => by
  obtain ⟨o, ⟨vs, e0, hx⟩, hs2, s2⟩ := hs.freeze hk
  subst e0
  obtain ⟨v, e1, e2⟩ := ss.get hi
  have ev : v = .ref a := e2
  subst ev
  have z := (ss.mono s2).set (R := LT K R xs) (v := .ref a) ⟨a, vs, rfl, SqL.of upd_same, hx.mono s2⟩ i
  rw [set_get e1] at z
  exact h σ H _ (s.trans s2) hs2 z
theorem evc_tupT {Rs : γ → List Ty} {g : τ → γ} {M : (τ → S → Res ε δ) → Res ε δ} (h : EvAC K X De t G Dd s M (fun t => Rs (g t))) (hn : ∀ x, (Rs x).length = n) (hl : n ≤ 100000 := by decide) : EvC K X De (tTupP t) G Dd s (fun kk => M fun t s1 => kk (g t) s1) (fun x => TU K (Rs x)) := fun kk σ H F hs ss o r Q hm q qe =>
  h _ σ H F hs ss o r _ hm (fun t s1 vs H1 F1 t1 hs1 r1 hm1 => ⟨by rw [r1.len, hn]; exact Nat.le_trans hl sizeLine_big, fun p ob hp hd => by
    have s2 : Same F1 (upd F1 p (.frz ob (.tup vs))) := same_new (hs1.free hp)
    exact q (g t) s1 _ _ _ (t1.trans s2) (hs1.frz hp) ⟨p, vs, rfl, .inl (.inr ⟨ob, upd_same⟩), r1.mono s2⟩ hm1⟩) qe
theorem evc_mkQP {M : ((Int × Int × Unit) → S → Res ε δ) → Res ε δ} (h : EvAC K X De t G Dd s M (fun t => tD K eI t.1 :: tD K eI t.2.1 :: [])) : EvC K X De (tTupP t) G Dd s (fun kk => M fun t s1 => Res.bind (Res.opt (mkQ t.1 t.2.1)) fun z => kk z s1) (tD K eQ) := fun kk σ H F hs ss o r Q hm q qe =>
  h _ σ H F hs ss o r _ hm (fun t s1 vs H1 F1 t1 hs1 r1 hm1 => ⟨by rw [r1.len]; exact Nat.le_trans (by decide : 2 ≤ 100000) sizeLine_big, fun p ob hp hd => by
    obtain ⟨z, e, hm2⟩ := Res.sat_opt hm1
    have s2 : Same F1 (upd F1 p (.frz ob (.tup vs))) := same_new (hs1.free hp)
    obtain ⟨e1, e2⟩ := mkQ_some e
    refine q z s1 _ _ _ (t1.trans s2) (hs1.frz hp) (.tup (.inl (.inr ⟨ob, upd_same⟩)) ?_) hm2
    have r2 := dpAll_mono s2 [.int t.1, .int t.2.1] vs (allP_dp (ds := [.int t.1, .int t.2.1]) r1)
    rw [e1, e2]
    exact r2⟩) qe
theorem evc_litQP {a b : Int} (z : Rat) (e1 : z.num = a) (e2 : (z.den : Int) = b) : EvC (β := β) K X De (tTupP (tCons (tC (.int a)) (tCons (tC (.int b)) tNil))) G Dd s (fun kk => kk z s) (tD K eQ) := fun kk σ H F hs ss o r Q hm q qe =>
  ⟨Nat.le_trans (by decide : 2 ≤ 100000) sizeLine_big, fun p ob hp hd => by
    have s2 : Same F (upd F p (.frz ob (.tup [.int a, .int b]))) := same_new (hs.free hp)
    refine q z s _ _ _ s2 (hs.frz hp) (.tup (.inl (.inr ⟨ob, upd_same⟩)) ?_) hm
    rw [e1, e2]
    exact .cons (.int _) (.cons (.int _) .nil)⟩
theorem evc_ixT {Rs : α → List Ty} {R' : β → Ty} {f : α → β} {i : Int} {Ma : (α → S → Res ε δ) → Res ε δ} (ha : EvC K X De ta G Dd s Ma (fun x => TU K (Rs x))) (he : ∀ x, atI (Rs x) i = some (R' (f x))) :
    EvC K X De (tOp (rIx K) ta (tC (.int i))) G Dd s (fun kk => Ma fun x s1 => kk (f x) s1) R' := fun kk σ H F hs ss o r Q hm q qe =>
  ha _ σ H F hs ss o r _ hm (fun x s1 v H1 F1 t1 hs1 r1 hm1 => by
    obtain ⟨a, vs, rfl, h1, h2⟩ := r1
    have e := he x
    unfold atI at e
    rw [← h2.len] at e
    obtain ⟨j, ej, eg⟩ := Option.bind_eq_some_iff.mp e
    obtain ⟨u, hu, ru⟩ := h2.get eg
    exact .inr (.inl ⟨a, vs, i, u, rfl, rfl, sqT_up hs1 h1, by unfold atI; rw [ej]; exact hu, q (f x) s1 u H1 F1 t1 hs1 ru hm1⟩)) qe
def EvGsT (g : TGs) (G : Sto) (Rs : List Ty) (G1 : Sto) : Prop := ∀ (vs : List V) (σ : L2.St) (H F : Hp) (D : Own), HS D H F → SS F G σ → AllP F Rs vs → ∀ Q : L2.St → Hp → Prop, (∀ σ', SS F G1 σ' → Q σ' H) → g vs σ H Q
theorem evGsT_nil : EvGsT gNil G [] G := fun vs σ H F D hs ss r Q q => by
  cases r
  exact ⟨rfl, q _ ss⟩
theorem evGsT_cons {g : TG} {gs : TGs} {R : Ty} {Rs : List Ty} (h1 : EvG g G R G1) (h2 : EvGsT gs G1 Rs G2) : EvGsT (gCons g gs) G (R :: Rs) G2 := fun vs σ H F D hs ss r Q q => by
  cases r with
  | cons r1 r2 => exact ⟨_, _, rfl, h1 _ σ H F D hs ss r1 _ fun σ' ss' => h2 _ σ' H F D hs ss' r2 Q q⟩
theorem evG_tupT {gs : TGs} {Rs : List Ty} {n : Nat} (h : EvGsT gs G Rs G1) (hn : Rs.length = n) : EvG (gTup K n gs) G (TU K Rs) G1 := fun v σ H F D hs ss r Q q => by
  obtain ⟨a, vs, rfl, h1, h2⟩ := r
  exact ⟨a, vs, rfl, sqT_up hs h1, by rw [h2.len]; exact hn, h vs σ H F D hs ss h2 Q q⟩
def EvWsT (g : TGs) (vs : List Nat) (G : Sto) (Rs : List Ty) (G1 : Sto) : Prop := ∀ (xs : List V) (σ τ : L2.St) (H F : Hp) (D : Own), HS D H F → SS F G τ → wipe τ vs = wipe σ vs → AllP F Rs xs → ∀ Q : L2.St → Hp → Prop, (∀ σ', SS F G1 σ' → wipe σ' vs = wipe σ vs → Q σ' H) → g xs τ H Q
theorem evWsT_nil {vs : List Nat} : EvWsT gNil vs G [] G := fun xs σ τ H F D hs ss w r Q q => by
  cases r
  exact ⟨rfl, q _ ss w⟩
theorem evWsT_cons {g : TG} {gs : TGs} {vs : List Nat} {R : Ty} {Rs : List Ty} (h1 : EvW g vs G R G1) (h2 : EvWsT gs vs G1 Rs G2) : EvWsT (gCons g gs) vs G (R :: Rs) G2 := fun xs σ τ H F D hs ss w r Q q => by
  cases r with
  | cons r1 r2 => exact ⟨_, _, rfl, h1 _ σ τ H F D hs ss w r1 _ fun σ' ss' w' => h2 _ σ σ' H F D hs ss' w' r2 Q q⟩
theorem evW_tupT {gs : TGs} {vs : List Nat} {Rs : List Ty} {n : Nat} (h : EvWsT gs vs G Rs G1) (hn : Rs.length = n) : EvW (gTup K n gs) vs G (TU K Rs) G1 := fun v σ τ H F D hs ss w r Q q => by
  obtain ⟨a, xs, rfl, h1, h2⟩ := r
  exact ⟨a, xs, rfl, sqT_up hs h1, by rw [h2.len]; exact hn, h xs σ τ H F D hs ss w h2 Q q⟩
theorem sv_P {Re : α → Ty} : SView K Dd (VP K Re) id Re := fun x s v H F hs ⟨a, vs, e, h1, h2⟩ => ⟨a, vs, e, .inr (puT_up hs h1).sq, h2⟩
theorem evItc_l {R : α → Ty} {M : (List α → S → Res ε δ) → Res ε δ} (h : EvC K X De te G Dd s M (LT K R)) : EvItC K X De (iSeq K te) G Dd s (fun _ => True) M R := evItc_LT h fun _ _ _ r => r
theorem evItc_p {R : α → Ty} {M : (List α → S → Res ε δ) → Res ε δ} (h : EvC K X De te G Dd s M (VP K R)) : EvItC K X De (iSeq K te) G Dd s (fun _ => True) M R := evItc_VT h fun _ _ _ ⟨a, vs, e, h1, h2⟩ => ⟨a, vs, e, h1.sq, h2⟩
theorem isn_P {R : α → Ty} : ∀ (y : List α) (v : V) (F : Hp), (VP K R y).p v F → decide (v = V.non) = false := fun y v F ⟨a, vs, e, _⟩ => decide_eq_false fun z => by rw [e] at z; cases z
theorem evc_tupOf {R : α → Ty} {f : α → List β} {Re : β → Ty} {M : (α → S → Res ε δ) → Res ε δ} (h : EvC K X De te G Dd s M R) (hv : ∀ x s v H F, HS (Dd s) H F → (R x).p v F → ∃ a vs, v = .ref a ∧ (SqL K H a vs ∧ AllP F ((f x).map Re) vs ∨ SqT K H a vs ∧ (VP K Re (f x)).p v F)) :
    EvC K X De (tCB (cTupP K) (tCons te tNil)) G Dd s (fun kk => M fun x s1 => kk (f x) s1) (VP K Re) := fun kk σ H F hs ss o r Q hm q qe =>
  h _ σ H F hs ss o r _ hm (fun xs s1 v H1 F1 t1 hs1 r1 hm1 => by
    obtain ⟨a, vs, e0, h1⟩ := hv xs s1 v H1 F1 hs1 r1
    subst e0
    rcases h1 with ⟨h1, h2⟩ | ⟨h1, h2⟩
    · refine ⟨a, vs, rfl, .inl ⟨h1, fun l ob hl hd => ?_⟩⟩
      have s2 : Same F1 (upd F1 l (.frz ob (.tup vs))) := same_new (hs1.free hl)
      exact q _ s1 _ _ _ (t1.trans s2) (hs1.frz hl) ⟨l, vs, rfl, .inl ⟨ob, upd_same, hd⟩, h2.mono s2⟩ hm1
    · exact ⟨a, vs, rfl, .inr ⟨h1, q _ s1 _ H1 F1 t1 hs1 h2 hm1⟩⟩) qe
theorem tv_l {Re : α → Ty} : ∀ x s v H F, HS (Dd s) H F → (LT K Re x).p v F → ∃ a vs, v = .ref a ∧ (SqL K H a vs ∧ AllP F ((id x).map Re) vs ∨ SqT K H a vs ∧ (VP K Re (id x)).p v F) := fun x s v H F hs ⟨a, vs, e, h1, h2⟩ => ⟨a, vs, e, .inl ⟨sqL_up hs h1, h2⟩⟩
theorem tv_p {Re : α → Ty} : ∀ x s v H F, HS (Dd s) H F → (VP K Re x).p v F → ∃ a vs, v = .ref a ∧ (SqL K H a vs ∧ AllP F ((id x).map Re) vs ∨ SqT K H a vs ∧ (VP K Re (id x)).p v F) := fun x s v H F hs ⟨a, vs, e, h1, h2⟩ => ⟨a, vs, e, .inr ⟨(puT_up hs h1).sq, a, vs, e, h1, h2⟩⟩
theorem tv_O {Re : β → Ty} {xs : List β} {a : Addr} {j : Nat} (hk : ∀ s, (Dd s)[j]? = some (a, OLT Re xs)) : ∀ (x : Unit) s v H F, HS (Dd s) H F → ((fun _ : Unit => Is (.ref a)) x).p v F → ∃ b vs, v = .ref b ∧ (SqL K H b vs ∧ AllP F (((fun _ => xs) x).map Re) vs ∨ SqT K H b vs ∧ (VP K Re ((fun _ : Unit => xs) x)).p v F) := fun x s v H F hs r => by
  obtain ⟨o, ho, vs, rfl, h⟩ := hs.at (hk s)
  exact ⟨a, vs, r, .inl ⟨SqL.of ho, h⟩⟩
theorem evc_catLT {R : α → Ty} {Ma : (List α → S → Res ε δ) → Res ε δ} {Mb : S → (List α → S → Res ε δ) → Res ε δ} (ha : EvC K X De ta G Dd s Ma (LT K R)) (hb : ∀ s1, EvC K X De tb G Dd s1 (Mb s1) (LT K R)) :
    EvC K X De (tOp (qAddS K) ta tb) G Dd s (fun kk => Ma fun a s1 => Mb s1 fun b s2 => Res.bind (Res.grd (a.length + b.length ≤ 100000) (a ++ b)) fun z => kk z s2) (LT K R) :=
  evc2g ha hb fun a b s2 x y H F c hs rx ry Q q => by
    obtain ⟨p, xs, rfl, h1, h2⟩ := rx
    obtain ⟨p', ys, rfl, h3, h4⟩ := ry
    have l2 := h2.len
    have l4 := h4.len
    rw [List.length_map] at l2 l4
    refine .inr (.inl ⟨p, p', xs, ys, rfl, rfl, sqL_up hs h1, sqL_up hs h3, by rw [l2, l4]; exact Nat.le_trans c sizeLine_big, fun u hu => ?_⟩)
    have s4 : Same F (upd F u (.lst (xs ++ ys))) := same_new (hs.free hu)
    exact q _ _ _ s4 (hs.frz hu) ⟨u, _, rfl, SqL.of upd_same, allP_app (h2.mono s4) (h4.mono s4)⟩
theorem evc_catP {R : α → Ty} {Ma : (List α → S → Res ε δ) → Res ε δ} {Mb : S → (List α → S → Res ε δ) → Res ε δ} (ha : EvC K X De ta G Dd s Ma (VP K R)) (hb : ∀ s1, EvC K X De tb G Dd s1 (Mb s1) (VP K R)) :
    EvC K X De (tOp (qAddS K) ta tb) G Dd s (fun kk => Ma fun a s1 => Mb s1 fun b s2 => Res.bind (Res.grd (a.length + b.length ≤ 100000) (a ++ b)) fun z => kk z s2) (VP K R) :=
  evc2g ha hb fun a b s2 x y H F c hs rx ry Q q => by
    obtain ⟨p, xs, rfl, h1, h2⟩ := rx
    obtain ⟨p', ys, rfl, h3, h4⟩ := ry
    have l2 := h2.len
    have l4 := h4.len
    rw [List.length_map] at l2 l4
    refine .inr (.inr ⟨p, p', xs, ys, rfl, rfl, (puT_up hs h1).sq, (puT_up hs h3).sq, by rw [l2, l4]; exact Nat.le_trans c sizeLine_big, fun hx => ?_, fun hy hx => ?_, fun hy hx u ob hu hd => ?_⟩)
    · subst hx
      exact q _ H F (Same.refl _) hs ⟨p', ys, rfl, h3, by have z := allP_app h2 h4; simpa using z⟩
    · subst hy
      exact q _ H F (Same.refl _) hs ⟨p, xs, rfl, h1, by have z := allP_app h2 h4; simpa using z⟩
    · have s4 : Same F (upd F u (.frz ob (.tup (xs ++ ys)))) := same_new (hs.free hu)
      exact q _ _ _ s4 (hs.frz hu) ⟨u, _, rfl, .inl ⟨ob, upd_same, hd⟩, allP_app (h2.mono s4) (h4.mono s4)⟩
theorem evc_unop {R : α → Ty} {M : (Option α → S → Res ε δ) → Res ε δ} (h : EvC K X De te G Dd s M (OpT K R)) : EvC K X De te G Dd s (fun kk => M fun x s1 => Res.bind (Res.opt x) fun y => kk y s1) R := fun kk σ H F hs ss o r Q hm q qe =>
  h _ σ H F hs ss o r _ hm (fun x s1 v H1 F1 t1 hs1 r1 hm1 => by
    obtain ⟨y, e, hm2⟩ := Res.sat_opt hm1
    subst e
    exact q y s1 v H1 F1 t1 hs1 r1 hm2) qe
theorem evc_isNNO {R : α → Ty} {M : (Option α → S → Res ε δ) → Res ε δ} (h : EvC K X De te G Dd s M (OpT K R)) (hn : ∀ y v F, (R y).p v F → decide (v = V.non) = false) : EvC K X De (tNotN te) G Dd s (fun kk => M fun x s1 => kk x.isSome s1) (tD K eB) := fun kk σ H F hs ss o r Q hm q qe =>
  h _ σ H F hs ss o r _ hm (fun x s1 v H1 F1 t1 hs1 r1 hm1 => by
    show Q (.bl (!decide (v = V.non))) H1
    cases x with
    | none =>
      have e : v = .non := r1
      subst e
      exact q false s1 _ H1 F1 t1 hs1 (.bl _) hm1
    | some y =>
      rw [hn y v F1 r1]
      exact q true s1 _ H1 F1 t1 hs1 (.bl _) hm1) qe
theorem evc_conv {R : α → Ty} {R' : γ → Ty} {M : (α → S → Res ε β) → Res ε β} (f : α → γ) (h : EvC K X De te G Dd s M R) (e : ∀ x v F, (R x).p v F → (R' (f x)).p v F) : EvC K X De te G Dd s (fun kk => M fun x s' => kk (f x) s') R' := evc_map f h e
theorem cv_all {R : α → Ty} {R' : β → Ty} {f : α → β} (h : ∀ x v F, (R x).p v F → (R' (f x)).p v F) {F : Hp} : ∀ {xs : List α} {vs : List V}, AllP F (xs.map R) vs → AllP F ((xs.map f).map R') vs
  | [], _, r => by cases r; exact .nil
  | x :: xs, _, r => by
    cases r with
    | cons r1 r2 => exact .cons (h _ _ _ r1) (cv_all h r2)
theorem cv_L {R : α → Ty} {R' : β → Ty} {f : α → β} (h : ∀ x v F, (R x).p v F → (R' (f x)).p v F) : ∀ xs v F, (LT K R xs).p v F → (LT K R' (xs.map f)).p v F := fun xs v F ⟨a, vs, e, h1, h2⟩ => ⟨a, vs, e, h1, cv_all h h2⟩
theorem cv_none {R : α → Ty} : ∀ (x : Unit) v F, (tD K eU x).p v F → (OpT K R none).p v F := fun x v F r => dp_non r
theorem cv_some {R : α → Ty} : ∀ (x : α) v F, (R x).p v F → (OpT K R (some x)).p v F := fun x v F r => r
end
end TL
end
section
set_option Elab.async false
set_option linter.all false
set_option maxRecDepth 100000
set_option maxHeartbeats 1000000
namespace TL
open PySem PySem.Spec L2
def cDctLi (K : PySem.W.Frag) : List V → Hp → VK → Prop := fun xs H Q => ∃ (a : Addr) (ps : List Addr) (kvs : List (L2.Key × V)), xs = [.ref a] ∧ SqL K H a (ps.map V.ref) ∧ Paired (fun p kv => SqT K H p [kV kv.1, kv.2]) ps kvs ∧
    ∀ p, H p = none → Q (.ref p) (upd H p (.dK (mergeK [] kvs)))
def cDctU (K : PySem.W.Frag) : List V → Hp → VK → Prop := fun xs H Q => cDctK K xs H Q ∨ cDctLi K xs H Q ∨ cDctT K xs H Q
theorem call_dctU {X : Cx} (hcalm : X.calm = true) : CallR X (.type "dict") (cDctU X.K) := CallR.or call_dctK (CallR.or (call_dictP hcalm) (call_dctT hcalm))
section
variable {K : PySem.W.Frag} {ε ε' ρ α β γ δ S τ τ' σt ω κ : Type} {X : L2.St → XK} {De : ε → Own} {G G1 G2 : Sto} {D0 : Own} {Dd : S → Own} {s : S} {te ta tb tc tx : TE} {tt tu : TT} {F0 F1 : Hp} {E : Ends} {w : Wish K ε ρ} {t : TA} {n : Nat}
theorem paired_of {F H : Hp} {k : KeyE κ} {Rk : κ → Ty} {Rv : β → Ty} (hkv : KeyV k Rk) {f : V → Prop} (sub : Same F H) : ∀ {ps : List (κ × β)} {vs : List V}, AllP F (ps.map fun z => TU K [Rk z.1, Rv z.2]) vs → ∃ (as : List Addr) (kvs : List (L2.Key × V)), vs = as.map V.ref ∧ Paired (fun p kv => SqT K H p [kV kv.1, kv.2]) as kvs ∧ EntT k Rv F kvs ps
  | [], _, h => by cases h; exact ⟨[], [], rfl, .nil, .nil⟩
  | z :: ps, _, h => by
    cases h with
    | cons r1 r2 =>
      obtain ⟨as, kvs, e, h1, h2⟩ := paired_of hkv (f := f) sub r2
      obtain ⟨a, us, rfl, h3, h4⟩ := r1
      cases h4 with
      | cons q1 h4 =>
        cases h4 with
        | cons q2 h4 =>
          cases h4
          refine ⟨a :: as, (k.f z.1, _) :: kvs, by rw [e]; rfl, .cons ?_ h1, .cons q2 h2⟩
          rw [hkv _ _ _ q1] at h3
          exact same_sqT sub h3
variable [DecidableEq κ] {k : KeyE κ} {Rk : κ → Ty} {Rv : β → Ty}
theorem evnc_dctP {M : (List (κ × β) → S → Res ε δ) → Res ε δ} (hkv : KeyV k Rk) (h : EvC K X De te G Dd s M (VP K fun z : κ × β => TU K [Rk z.1, Rv z.2])) : EvNC K X De (tCB (cDctU K) (tCons te tNil)) G Dd s (fun kk => M fun ps s1 => kk (dof ps) s1) (OXT k Rv) := fun kk σ H F hs ss o r Q hm q qe =>
  h _ σ H F hs ss o r _ hm (fun ps s1 v H1 F1 t1 hs1 r1 hm1 => by
    obtain ⟨a, vs, rfl, h1, h2⟩ := r1
    obtain ⟨as, kvs, e, h3, h4⟩ := paired_of (K := K) (H := H1) hkv (f := fun _ => True) hs1.sub h2
    subst e
    exact .inr (.inr ⟨a, as, kvs, rfl, puT_up hs1 h1, h3, fun p hp => q (dof ps) s1 p _ F1 t1 (hs1.new hp ⟨_, rfl, h4.merge .nil⟩) hm1⟩)) qe
theorem keysT_strs {F : Hp} {kvs : List (L2.Key × V)} {m : List (Tx × β)} (h : EntT kS Rv F kvs m) : kvs.map (·.1) = ((m.map (·.1)).map (·.s)).map Sum.inr := by
  rw [h.keys, List.map_map, List.map_map]
  rfl
end
end TL
end
section
set_option Elab.async false
set_option linter.all false
set_option maxRecDepth 100000
set_option maxHeartbeats 1000000
namespace TL
open PySem PySem.Spec L2
section
variable {X : Cx} {o e f : Expr} {apos cpos : Pos} {td ty tx : TE} {pins : List (Addr × Obj)} {σ : L2.St} {H : Hp} {s : Shared} {a b : Addr} {kvs more : List (L2.Key × V)} {A : Around} {E : Value → Shared → Prop}
end
mutual
inductive DpP (K : PySem.W.Frag) : V → PyData → Prop
  | non : DpP K .non .none
  | bl (b : Bool) : DpP K (.bl b) (.bool b)
  | int (i : Int) : DpP K (.int i) (.int i)
  | str (x : Str) : DpP K (.str x) (.str x)
  | lst {a : Addr} {xs : List V} {ds : List PyData} : (∀ H, SqL K H a xs) → DpPs K xs ds → DpP K (.ref a) (.list ds)
  | tup {a : Addr} {xs : List V} {ds : List PyData} : (∀ H, PuT K H a xs) → DpPs K xs ds → DpP K (.ref a) (.tuple ds)
inductive DpPs (K : PySem.W.Frag) : List V → List PyData → Prop
  | nil : DpPs K [] []
  | cons {v : V} {d : PyData} {vs : List V} {ds : List PyData} : DpP K v d → DpPs K vs ds → DpPs K (v :: vs) (d :: ds)
end
mutual
def dataPB (K : PySem.W.Frag) (v : Value) : PyData → Bool
  | .none => (match v with
    | .none => true
    | _ => false)
  | .bool b => (match v with
    | .bool c => b == c
    | _ => false)
  | .int i => (match v with
    | .int j _ => decide (j = i)
    | _ => false)
  | .str x => (match v with
    | .str y _ => decide (y = x)
    | _ => false)
  | .tuple ds => (match v with
    | .ref a => (match K.lookup a with
      | some o => (match o.data with
        | .seq its _ => decide (o.cls = .type "tuple") && (o.dict.isNone && (decide (its.size ≤ sizeLine) && dataPAll K its.toList ds))
        | _ => false)
      | none => false)
    | _ => false)
  | .list ds => (match v with
    | .ref a => (match K.lookup a with
      | some o => (match o.data with
        | .seq its _ => decide (o.cls = .type "list") && (o.dict.isNone && (decide (its.size ≤ sizeLine) && dataPAll K its.toList ds))
        | _ => false)
      | none => false)
    | _ => false)
  | .dict _ => false
def dataPAll (K : PySem.W.Frag) (vs : List Value) : List PyData → Bool
  | [] => vs.isEmpty
  | d :: ds => (match vs with
    | [] => false
    | v :: vs => dataPB K v d && dataPAll K vs ds)
end
mutual
theorem dataPB_ok {K : PySem.W.Frag} : ∀ (d : PyData) (v : Value), dataPB K v d = true → ∃ x, RelV x v ∧ DpP K x d
  | .none, v, h => by
    unfold dataPB at h
    split at h
    · exact ⟨.non, rfl, .non⟩
    · cases h
  | .bool b, v, h => by
    unfold dataPB at h
    split at h
    · have e := eq_of_beq h
      subst e
      exact ⟨.bl _, rfl, .bl _⟩
    · cases h
  | .int i, v, h => by
    unfold dataPB at h
    split at h
    · have e := of_decide_eq_true h
      subst e
      exact ⟨.int _, ⟨_, rfl⟩, .int _⟩
    · cases h
  | .str x, v, h => by
    unfold dataPB at h
    split at h
    · have e := of_decide_eq_true h
      subst e
      exact ⟨.str _, ⟨_, rfl⟩, .str _⟩
    · cases h
  | .tuple ds, v, h => by
    unfold dataPB at h
    split at h
    · rename_i a
      split at h
      · rename_i o ho
        split at h
        · rename_i its n hd
          simp only [Bool.and_eq_true, decide_eq_true_eq, Option.isNone_iff_eq_none] at h
          obtain ⟨h1, h0, h2, h3⟩ := h
          obtain ⟨xs, hv, hx⟩ := dataPAll_ok ds its.toList h3
          exact ⟨.ref a, rfl, .tup (fun H => .inr ⟨o, its, n, ho, h1, h0, hd, h2, hv⟩) hx⟩
        · cases h
      · cases h
    · cases h
  | .list ds, v, h => by
    unfold dataPB at h
    split at h
    · rename_i a
      split at h
      · rename_i o ho
        split at h
        · rename_i its n hd
          simp only [Bool.and_eq_true, decide_eq_true_eq, Option.isNone_iff_eq_none] at h
          obtain ⟨h1, h0, h2, h3⟩ := h
          obtain ⟨xs, hv, hx⟩ := dataPAll_ok ds its.toList h3
          exact ⟨.ref a, rfl, .lst (fun H => .inr ⟨o, its, n, ho, h1, h0, hd, h2, hv⟩) hx⟩
        · cases h
      · cases h
    · cases h
  | .dict _, v, h => by
    unfold dataPB at h
    cases h
theorem dataPAll_ok {K : PySem.W.Frag} : ∀ (ds : List PyData) (vs : List Value), dataPAll K vs ds = true → ∃ xs, Vals xs vs ∧ DpPs K xs ds
  | [], vs, h => by
    unfold dataPAll at h
    cases vs with
    | nil => exact ⟨[], .nil, .nil⟩
    | cons => cases h
  | d :: ds, vs, h => by
    unfold dataPAll at h
    cases vs with
    | nil => cases h
    | cons v vs =>
      simp only [Bool.and_eq_true] at h
      obtain ⟨x, h1, h2⟩ := dataPB_ok d v h.1
      obtain ⟨xs, h3, h4⟩ := dataPAll_ok ds vs h.2
      exact ⟨x :: xs, .cons h1 h3, .cons h2 h4⟩
end
abbrev Cad (K : PySem.W.Frag) (R : Ty) (d : PyData) : Prop := ∀ v F, DpP K v d → R.p v F
def CC (K : PySem.W.Frag) (Rs : List Ty) (ds : List PyData) : Prop := ∀ F vs, DpPs K vs ds → AllP F Rs vs
section
variable {K : PySem.W.Frag} {α β : Type}
theorem c_I (i : Int) : Cad K (tD K eI i) (eI i) := fun v F r => by cases r; exact .int _
theorem c_S (i : Tx) : Cad K (tD K eS i) (eS i) := fun v F r => by cases r; exact .str _
theorem cc_nil : CC K [] [] := fun F vs h => by cases h; exact .nil
theorem cc_cons {R : Ty} {Rs : List Ty} {d : PyData} {ds : List PyData} (h : Cad K R d) (t : CC K Rs ds) : CC K (R :: Rs) (d :: ds) := fun F vs r => by
  cases r with
  | cons r1 r2 => exact .cons (h _ _ r1) (t _ _ r2)
theorem cc_map {R : α → Ty} {e : α → PyData} (h : ∀ x, Cad K (R x) (e x)) : ∀ xs : List α, CC K (xs.map R) (xs.map e)
  | [] => cc_nil
  | x :: xs => cc_cons (h x) (cc_map h xs)
theorem c_Q (r : Rat) : Cad K (tD K eQ r) (eQ r) := fun v F h => by
  cases h with
  | tup h1 h2 => exact .tup (h1 F).sq (allP_dp (cc_cons (c_I r.num) (cc_cons (c_I (r.den : Int)) cc_nil) F _ h2))
theorem c_V {R : α → Ty} {e : α → PyData} (h : ∀ x, Cad K (R x) (e x)) (xs : List α) : Cad K (VP K R xs) (eV e xs) := fun v F r => by
  cases r with
  | tup h1 h2 => exact ⟨_, _, rfl, h1 F, cc_map h xs _ _ h2⟩
end
section
variable {K : PySem.W.Frag} {ε ε' ρ α β γ δ S τ τ' σt ω κ : Type} {X : L2.St → XK} {De : ε → Own} {G G1 G2 : Sto} {D0 : Own} {Dd : S → Own} {s : S} {te ta tb tc tx : TE} {tt tu : TT} {F0 F1 : Hp} {E : Ends} {w : Wish K ε ρ} {t : TA} {n : Nat} {Rv : β → Ty} {k : KeyE κ} {Rk : κ → Ty}
theorem evc_conT {a : Addr} {d : PyData} {R : α → Ty} (x : α) (h : dataPB K (.ref a) d = true) (c : Cad K (R x) d) : EvC (β := β) K X De (tC (.ref a)) G Dd s (fun kk => kk x s) R := fun kk σ H F hs ss o r Q hm q qe => by
  obtain ⟨y, h1, h2⟩ := dataPB_ok d _ h
  have ey : y = .ref a := by cases h2 <;> first | (cases h1; done) | (cases h1; rfl) | (obtain ⟨_, h1⟩ := h1; cases h1; done)
  subst ey
  exact q x s _ H F (Same.refl _) hs (c _ _ h2) hm
theorem evc_sortDT {R : α → Ty} {f : α → List (Tx × β)} {Ma : (α → S → Res ε δ) → Res ε δ} (hv : DVw Dd R f kS Rv) (ha : EvC K X De ta G Dd s Ma R) :
    EvC K X De (tCB (qSort K) (tCons ta tNil)) G Dd s (fun kk => Ma fun a s1 => Res.bind (Res.grd ((f a).length < 64) (sortT ((f a).map Prod.fst))) fun z => kk z s1) (LT K (tD K eS)) := fun kk σ H F hs ss o r Q hm q qe =>
  ha _ σ H F hs ss o r _ hm (fun a s1 v H1 F1 t1 hs1 r1 hm1 => by
    obtain ⟨c, hm2⟩ := Res.sat_grd hm1
    obtain ⟨p, kvs, rfl, h1, h2⟩ := hv a s1 v H1 F1 hs1 r1
    have hr : L2.Rd H1 p (.dK kvs) := by
      rcases h2 with h2 | ⟨od, h2⟩
      · exact .inl h2
      · exact .inr ⟨od, h2⟩
    refine .inr ⟨p, kvs, ((f a).map (·.1)).map (·.s), rfl, hr, keysT_strs h1, by rw [List.length_map, List.length_map]; exact c, fun ys u pm so hu => ?_⟩
    have e := sorted_is pm so
    subst e
    have s4 : Same F1 (upd F1 u (.lst (((sortT ((f a).map Prod.fst)).map (·.s)).map V.str))) := same_new (hs1.free hu)
    refine q _ s1 _ _ _ (t1.trans s4) (hs1.frz hu) ⟨u, _, rfl, SqL.of upd_same, map_allP (e := eS) ?_⟩ hm2
    have e2 : (sortT ((f a).map Prod.fst)).map eS = ((sortT ((f a).map Prod.fst)).map (·.s)).map PyData.str := by rw [List.map_map]; rfl
    rw [e2]
    exact dp_strs _) qe
variable [DecidableEq κ]
omit [DecidableEq κ] in
theorem evc_eqOT [DecidableEq α] {e : α → PyData} {R : α → Ty} {m i j : Nat} {a : Addr} {xs : List α} {Mb : (List α → S → Res ε δ) → Res ε δ} (he : Enc (eL e) m) (hd : ∀ x, Dat K (R x) (e x)) (hi : G[i]? = some (some (Is (.ref a)))) (hk : ∀ s, (Dd s)[j]? = some (a, OLT R xs)) (hb : EvC K X De tb G Dd s Mb (tD K (eL e))) (hn : m ≤ 64 := by decide) :
    EvC K X De (tOp (qEq K) (tVar i) tb) G Dd s (fun kk => Mb fun b s2 => kk (decide (xs = b)) s2) (tD K eB) := fun kk σ H F hs ss o r Q hm q qe => by
  obtain ⟨v, e1, e2⟩ := ss.get hi
  have ev : v = .ref a := e2
  subst ev
  refine ⟨_, e1, hb _ σ H F hs ss o r _ hm (fun b s2 y H2 F2 t2 hs2 r2 hm2 => ?_) qe⟩
  obtain ⟨o1, ho, vs, rfl, hx⟩ := hs2.at (hk s2)
  refine .inr ⟨eL e xs, eL e b, .lst (SqL.of ho) (dpAll_mono hs2.sub _ vs (dd_map hd xs _ _ hx)), dp_up hs2 r2, he.shaped hn xs, he.shaped hn b, ?_⟩
  rw [he.eq]
  exact q _ s2 _ H2 F2 t2 hs2 (.bl _) hm2
end
theorem pure_ofLawT {K : PySem.W.Frag} {N : List Str} {tf : TS} {mf : List Int → Res Unit Bool} (htrue : ∀ ns : List Int, ns.length ≤ 63 → mf ns = .ok true) {vs : List V} {H : Hp} {Q : VK} {X : XK}
    (walk : ∀ (x : List Int) (F : Hp) (D : Own) (E : Ends), E.rt = Q → (∀ (K : PySem.W.Frag) G D1, GoV Q F (DN K) D1 → Go E.nx F G D1) → (dwish K X Q (fun r : Bool => .ok (tD K eB r)) (fun _ => D) (fun _ : Unit => D)).W F (mf x) → Go (tf E) F (some (LT K (tD K eI) x) :: List.replicate (N.length - 1) none) D)
    (h : lawSp K vs H Q X) : tf { nx := fun _ H' => Q .non H', rt := Q } (L2.start N vs) H :=
  pure_ofLaw htrue (fun x F D E hrt hnx hP => (walk x F D E hrt hnx hP).weak (SLe.imp (fun v F h => u_L (fun _ => u_id) x v F h) (SLe.refl _)) (List.Sublist.refl _)) h
abbrev T2 (K : PySem.W.Frag) {α β : Type} (r0 : α → Ty) (r1 : β → Ty) (x : α × β) : Ty := TU K [r0 x.1, r1 x.2]
abbrev T3 (K : PySem.W.Frag) {α β γ : Type} (r0 : α → Ty) (r1 : β → Ty) (r2 : γ → Ty) (x : α × β × γ) : Ty := TU K [r0 x.1, r1 x.2.1, r2 x.2.2]
abbrev T4 (K : PySem.W.Frag) {α β γ δ : Type} (r0 : α → Ty) (r1 : β → Ty) (r2 : γ → Ty) (r3 : δ → Ty) (x : α × β × γ × δ) : Ty := TU K [r0 x.1, r1 x.2.1, r2 x.2.2.1, r3 x.2.2.2]
end TL
end
section
set_option Elab.async false
set_option linter.all false
set_option maxRecDepth 100000
set_option maxHeartbeats 1000000
namespace TL
open PySem PySem.Spec L2
section
variable {K : PySem.W.Frag} {ε ε' ρ α β γ δ S τ τ' σt ω κ : Type} {X : L2.St → XK} {De : ε → Own} {G G1 G2 : Sto} {D0 : Own} {Dd : S → Own} {s : S} {te ta tb tc tx : TE} {tt tu : TT} {F0 F1 : Hp} {E : Ends} {w : Wish K ε ρ} {t : TA} {n : Nat}
abbrev TyV {S α : Type} (K : PySem.W.Frag) (Dd : S → Own) (R : α → Ty) (own : String) : Prop := ∀ x s v H F, HS (Dd s) H F → (R x).p v F → TyX K H v (.type own)
theorem tyL {H : Hp} {a : Addr} {vs : List V} (h : SqL K H a vs) : TyX K H (.ref a) (.type "list") := by
  rcases h with (h1 | ⟨o, h1⟩) | ⟨_, _, _, h1, h2, _⟩
  · exact .base (.lst h1)
  · exact .base (.frz h1)
  · exact .kList h1 h2
theorem ty_L {R : α → Ty} : TyV K Dd (LT K R) "list" := fun x s v H F hs ⟨a, vs, e, h1, _⟩ => by subst e; exact tyL (sqL_up hs h1)
theorem ty_d {e : α → PyData} {own : String} (h : ∀ x, tyN (e x) = own) : TyV K Dd (tD K e) own := fun x s v H F hs r => by rw [← h x]; exact tyX_of (dp_up hs r)
theorem ty_OL {j : Nat} {a : Addr} {R : α → Ty} {xs : List α} (hk : ∀ s, (Dd s)[j]? = some (a, OLT R xs)) : TyV K Dd (fun _ : Unit => Is (.ref a)) "list" := fun x s v H F hs r => by
  obtain ⟨o, ho, vs, rfl, _⟩ := hs.at (hk s)
  have e : v = .ref a := r
  subst e
  exact .base (.lst ho)
theorem evc_isiG {n own : String} {b : Bool} {R : α → Ty} {M : (α → S → Res ε δ) → Res ε δ} (h : EvC K X De te G Dd s M R) (ty : TyV K Dd R own) (k : kitB own n = some b) : EvC K X De (tCB (cIsi K) (tCons te (tCons (tC (.ty n)) tNil))) G Dd s (fun kk => M fun _ s1 => kk b s1) (tD K eB) := fun kk σ H F hs ss o r Q hm q qe =>
  h _ σ H F hs ss o r _ hm (fun y s1 v H1 F1 t1 hs1 r1 hm1 => .inl ⟨v, .ty n, _, _, b, rfl, .ty n, ty y s1 v H1 F1 hs1 r1, kit_ty k, q b s1 _ H1 F1 t1 hs1 (.bl _) hm1⟩) qe
end
end TL
end
section
set_option Elab.async false
set_option linter.all false
set_option maxRecDepth 100000
set_option maxHeartbeats 1000000
namespace TL
open PySem PySem.Spec L2
structure FlatE (K : PySem.W.Frag) {β : Type} [DecidableEq β] (Re : β → Ty) where
  g : β → V
  hg : ∀ x v F, (Re x).p v F → v = g x
  hf : ∀ x, flatV (g x) = true
  he : ∀ x y, eqV (g x) (g y) = decide (x = y)
section
variable {K : PySem.W.Frag} {ε ε' ρ α β γ δ S τ τ' σt ω κ : Type} {X : L2.St → XK} {De : ε → Own} {G G1 G2 : Sto} {D0 : Own} {Dd : S → Own} {s : S} {te ta tb tc tx : TE} {tt tu : TT} {F0 F1 : Hp} {E : Ends} {w : Wish K ε ρ} {t : TA} {n : Nat}
end
end TL
end
section
set_option Elab.async false
set_option linter.all false
set_option maxRecDepth 100000
set_option maxHeartbeats 1000000
namespace TL
open PySem PySem.Spec L2
inductive DEn (K : PySem.W.Frag) (H : Hp) : List (L2.Key × V) → List (L2.Key × PyData) → Prop
  | nil : DEn K H [] []
  | cons {k : L2.Key} {v : V} {d : PyData} {ks : List (L2.Key × V)} {es : List (L2.Key × PyData)} : L2.Dp K H v d → SeqAt.shaped d = true → DEn K H ks es → DEn K H ((k, v) :: ks) ((k, d) :: es)
def dval (es : List (L2.Key × PyData)) (k : L2.Key) : Option PyData := (es.find? fun e => decide (e.1 = k)).map (·.2)
def deqD (xs ys : List (L2.Key × PyData)) : Bool := xs.length == ys.length && xs.all fun p => match dval ys p.1 with
  | none => false
  | some y => PyData.eqv p.2 y
theorem DEn.len {K : PySem.W.Frag} {H : Hp} {ks : List (L2.Key × V)} {es : List (L2.Key × PyData)} (h : DEn K H ks es) : ks.length = es.length := by
  induction h with
  | nil => rfl
  | cons _ _ _ ih => simp [ih]
theorem DEn.val {K : PySem.W.Frag} {H : Hp} {ks : List (L2.Key × V)} {es : List (L2.Key × PyData)} (h : DEn K H ks es) (k : L2.Key) : (valV ks k = none ∧ dval es k = none) ∨ ∃ v d, valV ks k = some v ∧ dval es k = some d ∧ L2.Dp K H v d ∧ SeqAt.shaped d = true := by
  induction h with
  | nil => exact .inl ⟨rfl, rfl⟩
  | @cons k' v d ks es h1 h2 _ ih =>
    by_cases e : k' = k
    · exact .inr ⟨v, d, by simp [valV, e], by simp [dval, e], h1, h2⟩
    · rw [valV_neg (p := (k', v)) e, show dval ((k', d) :: es) k = dval es k by simp [dval, e]]
      exact ih
section
variable {X : Cx} {pins : List (Addr × Obj)} {σ : L2.St} {H : Hp} {s : Shared}
end
section
variable {K : PySem.W.Frag} {ε ε' ρ α β γ δ S τ τ' σt ω κ : Type} [DecidableEq κ] {X : L2.St → XK} {De : ε → Own} {G G1 G2 : Sto} {D0 : Own} {Dd : S → Own} {s : S} {te ta tb tc tx : TE} {tt tu : TT} {F0 F1 : Hp} {E : Ends} {w : Wish K ε ρ} {t : TA} {n : Nat} {k : KeyE κ} {Rk : κ → Ty} {Rv : β → Ty}
omit [DecidableEq κ] in
theorem EntT.den {e : β → PyData} {m : Nat} {F H : Hp} {D : Own} (hs : HS D H F) (he : Enc e m) (hn : m ≤ 64) (hd : ∀ x, Dat K (Rv x) (e x)) {kvs : List (L2.Key × V)} {ms : List (κ × β)} (h : EntT k Rv F kvs ms) : DEn K H kvs (ms.map fun p => (k.f p.1, e p.2)) := by
  induction h with
  | nil => exact .nil
  | cons h _ ih => exact .cons (dp_up hs (hd _ _ _ h)) (he.shaped hn _) ih
variable {R : α → Ty} {R' : γ → Ty} {f : α → List (κ × β)} {f' : γ → List (κ × β)} {Ma : (α → S → Res ε δ) → Res ε δ} {Mb : S → (γ → S → Res ε δ) → Res ε δ}
end
end TL
end
section
set_option Elab.async false
set_option linter.all false
set_option maxRecDepth 100000
set_option maxHeartbeats 1000000
namespace TL
open PySem PySem.Spec L2
section
variable {K : PySem.W.Frag} {ε ε' ρ α β γ δ S τ τ' σt ω κ Ω : Type} [DecidableEq κ] {X : L2.St → XK} {De : ε → Own} {G G1 G2 : Sto} {D0 : Own} {Dd : S → Own} {s : S} {te ta tb tc tx : TE} {tt tu : TT} {F0 F1 : Hp} {E : Ends} {w : Wish K ε ρ} {t : TA} {n : Nat} {k : KeyE κ} {Rk : κ → Ty} {Rv : β → Ty}
end
end TL
end
section
set_option Elab.async false
set_option linter.all false
set_option maxRecDepth 100000
set_option maxHeartbeats 1000000
namespace TL
open PySem PySem.Spec L2
section
variable {K : PySem.W.Frag} {ε ε' ρ α β γ δ S τ τ' σt ω κ Ω : Type} {X : L2.St → XK} {De : ε → Own} {G G1 G2 : Sto} {D0 : Own} {Dd : S → Own} {s : S} {te ta tb tc tx : TE} {tt tu : TT} {F0 F1 : Hp} {E : Ends} {w : Wish K ε ρ} {t : TA} {n : Nat} {Rk : κ → Ty} {Rv : β → Ty}
theorem enc_4 {α β γ δ : Type} {f : α → PyData} {g : β → PyData} {h : γ → PyData} {i : δ → PyData} {n m k l : Nat} (hf : Enc f n) (hg : Enc g m) (hh : Enc h k) (hi : Enc i l) : Enc (e4 f g h i) (max n (max m (max k l)) + 1) := ⟨fun x => by
    show (PyData.canLay0 (f x.1) && (PyData.canLay0 (g x.2.1) && (PyData.canLay0 (h x.2.2.1) && (PyData.canLay0 (i x.2.2.2) && true)))) = true
    rw [hf.lay, hg.lay, hh.lay, hi.lay]; rfl, fun x => by
    have h1 := hf.dep x.1
    have h2 := hg.dep x.2.1
    have h3 := hh.dep x.2.2.1
    have h4 := hi.dep x.2.2.2
    show max (f x.1).depth (max (g x.2.1).depth (max (h x.2.2.1).depth (max (i x.2.2.2).depth 0))) + 1 ≤ _
    omega, fun x y => by
    show (PyData.eqv (f x.1) (f y.1) && (PyData.eqv (g x.2.1) (g y.2.1) && (PyData.eqv (h x.2.2.1) (h y.2.2.1) && (PyData.eqv (i x.2.2.2) (i y.2.2.2) && true)))) = true ↔ _
    simp only [Bool.and_eq_true, Bool.and_true, hf.inj, hg.inj, hh.inj, hi.inj]
    exact ⟨fun h => Prod.ext h.1 (Prod.ext h.2.1 (Prod.ext h.2.2.1 h.2.2.2)), fun h => by rw [h]; exact ⟨rfl, rfl, rfl, rfl⟩⟩⟩
end
end TL
namespace TL
open PySem PySem.Spec L2
section
variable {K : PySem.W.Frag} {ε ρ α β γ δ S : Type} {X : L2.St → XK} {De : ε → Own} {G : Sto} {Dd : S → Own} {s : S} {te : TE}
end
end TL
namespace TL
open PySem PySem.Spec L2
section
variable {K : PySem.W.Frag} {ε ρ α β γ δ S : Type} {X : L2.St → XK} {De : ε → Own} {G : Sto} {Dd : S → Own} {s : S} {te : TE}
theorem evc_prj {R : α → Ty} {R' : β → Ty} (f : α → Option β) {M : (α → S → Res ε δ) → Res ε δ} (h : EvC K X De te G Dd s M R) (hf : ∀ x y v F, f x = some y → (R x).p v F → (R' y).p v F) : EvC K X De te G Dd s (fun kk => M fun x s1 => Res.bind (Res.opt (f x)) fun z => kk z s1) R' := fun kk σ H F hs ss o r Q hm q qe =>
  h _ σ H F hs ss o r _ hm (fun x s1 v H1 F1 t1 hs1 r1 hm1 => by
    obtain ⟨z, ez, hm2⟩ := Res.sat_opt hm1
    exact q z s1 v H1 F1 t1 hs1 (hf x z v F1 ez r1) hm2) qe
end
end TL
end
section
set_option Elab.async false
set_option linter.all false
set_option maxRecDepth 100000
set_option maxHeartbeats 1000000
namespace TL
open PySem PySem.Spec L2
section
variable {X : Cx}
end
section
variable {K : PySem.W.Frag} {ε ρ α β γ δ S : Type} {X : L2.St → XK} {De : ε → Own} {G : Sto} {D0 : Own} {Dd : S → Own} {s : S} {te ta tb : TE} {F0 : Hp} {E : Ends} {w : Wish K ε ρ} {n : Nat}
end
end TL
end
section
set_option Elab.async false
set_option linter.all false
set_option maxRecDepth 100000
set_option maxHeartbeats 1000000
namespace TL
open PySem PySem.Spec L2
inductive EqV (K : PySem.W.Frag) (H : Hp) : V → V → Bool → Prop
  | dat {v u : V} {d e : PyData} : L2.Dp K H v d → L2.Dp K H u e → SeqAt.shaped d = true → SeqAt.shaped e = true → EqV K H v u (PyData.eqv d e)
  | dic {a b : Addr} {ks ls : List (L2.Key × V)} {es fs : List (L2.Key × PyData)} : L2.Rd H a (.dK ks) → L2.Rd H b (.dK ls) → DEn K H ks es → DEn K H ls fs → EqV K H (.ref a) (.ref b) (deqD es fs)
inductive EqVs (K : PySem.W.Frag) (H : Hp) : List V → List V → List Bool → Prop
  | nil : EqVs K H [] [] []
  | cons {v u : V} {vs us : List V} {b : Bool} {bs : List Bool} : EqV K H v u b → EqVs K H vs us bs → EqVs K H (v :: vs) (u :: us) (b :: bs)
theorem DEn.keys {K : PySem.W.Frag} {H : Hp} {ks : List (L2.Key × V)} {es : List (L2.Key × PyData)} (h : DEn K H ks es) : es.map (·.1) = ks.map (·.1) := by
  induction h with
  | nil => rfl
  | cons _ _ _ ih => simp [ih]
theorem DEn.lay {K : PySem.W.Frag} {H : Hp} {ks : List (L2.Key × V)} {es : List (L2.Key × PyData)} (h : DEn K H ks es) : ∀ p ∈ es, SeqAt.shaped p.2 = true := by
  induction h with
  | nil => intro p hp; cases hp
  | cons _ h2 _ ih =>
    intro p hp
    rcases List.mem_cons.mp hp with rfl | hp
    · exact h2
    · exact ih p hp
section
variable {X : Cx} {pins : List (Addr × Obj)} {σ : L2.St} {H : Hp} {s : Shared}
end
end TL
namespace PySem.SeqAt
open AutoSeq1 (wpAny_loadPart')
open MeetsSeq MeetsSeq2 MeetsSeq3 SeqRoads2
section
variable {prog : Program} {w : World}
end
end PySem.SeqAt
namespace TL
open PySem PySem.Spec L2
theorem EqVs.len {K : PySem.W.Frag} {H : Hp} {xs ys : List V} {bs : List Bool} (h : EqVs K H xs ys bs) : xs.length = ys.length ∧ xs.length = bs.length := by
  induction h with
  | nil => exact ⟨rfl, rfl⟩
  | cons _ _ ih => exact ⟨by rw [List.length_cons, List.length_cons, ih.1], by rw [List.length_cons, List.length_cons, ih.2]⟩
theorem EqVs.at_ {K : PySem.W.Frag} {H : Hp} {xs ys : List V} {bs : List Bool} (h : EqVs K H xs ys bs) : ∀ {j : Nat} {x y : V}, xs[j]? = some x → ys[j]? = some y → EqV K H x y (bs.getD j true) := by
  induction h with
  | nil => intro j x y h; simp at h
  | @cons v u vs us b bs h1 _ ih =>
    intro j x y hx hy
    cases j with
    | zero => cases hx; cases hy; exact h1
    | succ j => exact ih hx hy
section
variable {X : Cx}
end
section
variable {K : PySem.W.Frag} {ε ρ α β γ δ S : Type} {X : L2.St → XK} {De : ε → Own} {G : Sto} {Dd : S → Own} {s : S} {ta tb : TE}
variable {R : α → Ty} {R' : γ → Ty} {f : α → γ → Option Bool} {Ma : (List α → S → Res ε δ) → Res ε δ} {Mb : S → (List γ → S → Res ε δ) → Res ε δ}
end
end TL
end
section
set_option Elab.async false
set_option linter.all false
set_option maxRecDepth 100000
set_option maxHeartbeats 1000000
namespace TL
open PySem PySem.Spec L2
section
variable {K : PySem.W.Frag} {ε ρ α β γ δ S κ : Type} [DecidableEq κ] {X : L2.St → XK} {De : ε → Own} {G : Sto} {Dd : S → Own} {s : S} {ta tb : TE} {k : KeyE κ} {Rv : β → Ty} {R : α → Ty} {f : α → List (κ × β)} {Ma : (α → S → Res ε δ) → Res ε δ}
end
section
variable {K : PySem.W.Frag} {ε ρ α β γ δ S : Type} {X : L2.St → XK} {De : ε → Own} {G : Sto} {Dd : S → Own} {s : S} {ta tb : TE} {R : α → Ty} {R' : γ → Ty} {Re : β → Ty} {f : α → List β} {g : γ → List β} {Ma : (α → S → Res ε δ) → Res ε δ} {Mb : S → (γ → S → Res ε δ) → Res ε δ}
end
end TL
end
section
set_option Elab.async false
set_option linter.all false
set_option maxRecDepth 100000
set_option maxHeartbeats 1000000
namespace TL
open PySem PySem.Spec L2
section
variable {K : PySem.W.Frag} {ε ε' ρ α β γ δ S τ τ' σt ω Ω : Type}
theorem pure_ofPF {args : τ → List Ty} {mf : τ → Res Unit γ} {out : γ → Out} {N : List Str} {tf : TS} {vs : List V} {H : Hp} {Q : VK} {X : XK}
    (walk : ∀ (x : τ) (F : Hp) (D : Own) (E : Ends), E.rt = Q → (∀ (F : Hp) (K : PySem.W.Frag) G D1, GoV Q F (DN K) D1 → Go E.nx F G D1) → (dwish K X Q out (fun _ => D) (fun _ : Unit => D)).W F (mf x) → Go (tf E) F ((args x).map some ++ List.replicate (N.length - (args x).length) none) D)
    (h : spP K args mf out vs H Q X) : tf { nx := fun _ H' => Q .non H', rt := Q } (L2.start N vs) H := by
  obtain ⟨x, F, D, hs, ha, hp⟩ := h
  have z := SS.start (N := N) ha
  rw [ha.len] at z
  exact walk x F D { nx := fun _ H' => Q .non H', rt := Q } rfl (fun _ K G D1 k σ H F1 s hs ss => k _ H F1 s hs .non) hp _ H F (Same.refl _) hs z
theorem pure_ofCF {O : ω → OTy} {args : Addr → τ → List Ty} {mf : τ → ω → Res ω (γ × ω)} {out : γ → Out} {N : List Str} {tf : TS} {vs : List V} {H : Hp} {Q : VK} {X : XK}
    (walk : ∀ (x : τ) (y : ω) (F : Hp) (Dp : ω → Own) (k : Nat) (a : Addr) (E : Ends), Bor1 Dp k a O → E.rt = Q → (∀ (F : Hp) (K : PySem.W.Frag) G D1, GoV Q F (DN K) D1 → Go E.nx F G D1) → (dwish K X Q (fun r : γ × ω => out r.1) (fun r => Dp r.2) Dp).W F (mf x y) →
      Go (tf E) F ((args a x).map some ++ List.replicate (N.length - (args a x).length) none) (Dp y))
    (h : spC K O args mf out vs H Q X) : tf { nx := fun _ H' => Q .non H', rt := Q } (L2.start N vs) H := by
  obtain ⟨x, y, F, Dp, k, a, B, hs, ha, hp⟩ := h
  have z := SS.start (N := N) ha
  rw [ha.len] at z
  exact walk x y F Dp k a { nx := fun _ H' => Q .non H', rt := Q } B rfl (fun _ K G D1 k σ H F1 s hs ss => k _ H F1 s hs .non) hp _ H F (Same.refl _) hs z
theorem pure_ofRdF {mf : τ → Res Unit γ} {out : γ → Out} {N : List Str} {tf : TS} {vs : List V} {H : Hp} {Q : VK} {X : XK}
    (walk : ∀ (x : τ) (F : Hp) (D : Own) (E : Ends), pl x D → E.rt = Q → (∀ (F : Hp) (K : PySem.W.Frag) G D1, GoV Q F (DN K) D1 → Go E.nx F G D1) → (dwish K X Q out (fun _ => D) (fun _ : Unit => D)).W F (mf x) → Go (tf E) F ((args x).map some ++ List.replicate (N.length - (args x).length) none) D)
    (h : spR K args pl mf out vs H Q X) : tf { nx := fun _ H' => Q .non H', rt := Q } (L2.start N vs) H := by
  obtain ⟨x, F, D, hp0, hs, ha, hp⟩ := h
  have z := SS.start (N := N) ha
  rw [ha.len] at z
  exact walk x F D { nx := fun _ H' => Q .non H', rt := Q } hp0 rfl (fun _ K G D1 k σ H F1 s hs ss => k _ H F1 s hs .non) hp _ H F (Same.refl _) hs z
theorem pure_ofWrF {mf : τ → Ω → Res Ω (γ × Ω)} {out : γ → Out} {N : List Str} {tf : TS} {vs : List V} {H : Hp} {Q : VK} {X : XK}
    (walk : ∀ (x : τ) (y : Ω) (F : Hp) (Dp : Ω → Own) (E : Ends), plm x Dp → E.rt = Q → (∀ (F : Hp) (K : PySem.W.Frag) G D1, GoV Q F (DN K) D1 → Go E.nx F G D1) → (dwish K X Q (fun r : γ × Ω => out r.1) (fun r => Dp r.2) Dp).W F (mf x y) →
      Go (tf E) F ((args x).map some ++ List.replicate (N.length - (args x).length) none) (Dp y))
    (h : spM K args plm mf out vs H Q X) : tf { nx := fun _ H' => Q .non H', rt := Q } (L2.start N vs) H := by
  obtain ⟨x, y, F, Dp, hp0, hs, ha, hp⟩ := h
  have z := SS.start (N := N) ha
  rw [ha.len] at z
  exact walk x y F Dp { nx := fun _ H' => Q .non H', rt := Q } hp0 rfl (fun _ K G D1 k σ H F1 s hs ss => k _ H F1 s hs .non) hp _ H F (Same.refl _) hs z
end
end TL
end
section
set_option Elab.async false
set_option linter.all false
set_option maxRecDepth 100000
set_option maxHeartbeats 1000000
namespace TL
open PySem PySem.Spec L2
end TL
end
section
set_option Elab.async false
set_option linter.all false
set_option maxRecDepth 100000
set_option maxHeartbeats 1000000
namespace TL
open PySem PySem.Spec L2
section
variable {K : PySem.W.Frag} {ε ρ α β γ δ S Ω : Type} {X : L2.St → XK} {De : ε → Own} {G : Sto} {tb : TE}
end
end TL
end
section
set_option Elab.async false
set_option linter.all false
set_option maxRecDepth 100000
set_option maxHeartbeats 1000000
namespace TL
open PySem PySem.Spec L2 PySem.W PySem.Calls PyProof.Rows
section
variable {prog : Program} {w : World} {A : Around} {E : Value → Shared → Prop} {s : Shared}
end
section
variable {X : Cx} {pins : List (Addr × Obj)} {σ : L2.St} {H : Hp} {s : Shared}
end
structure SoD {β : Type} (e : β → PyData) (n : Nat) : Prop where
  alk : ∀ x y, alike (e x) (e y) = true
  dep : ∀ x, (e x).depth ≤ n
  srt : (∀ x, ∃ d r, e x = .tuple (d :: r)) ∨ ∀ x, e x ≠ .none ∧ ∀ xs, e x ≠ .tuple xs
section
variable {K : PySem.W.Frag} {ε ε' ρ α β γ δ S τ τ' σt ω Ω : Type} {X : L2.St → XK} {Xk : XK} {De : ε → Own} {G G1 G2 : Sto} {D0 : Own} {Dd : S → Own} {s : S} {te ta tb tc tx : TE} {tt tu : TT} {F0 F1 : Hp} {E : Ends} {w : Wish K ε ρ} {t : TA} {n : Nat}
end
end TL
end
section
set_option Elab.async false
set_option linter.all false
set_option maxRecDepth 100000
set_option maxHeartbeats 1000000
namespace TL
open PySem PySem.Spec L2
def OZT {κ α : Type} (k : KeyE κ) (R : α → Ty) (m : List (κ × α)) (od : Obj) (kvs : List (L2.Key × V)) : OTy := .fl (fun o F => o = .frz od (.dK kvs) ∧ EntT k R F kvs m) (fun s ⟨e, h⟩ => ⟨e, h.mono s⟩)
section
variable {K : PySem.W.Frag} {ε ε' ρ α β γ δ S τ τ' σt ω Ω κ : Type} {X : L2.St → XK} {Xk : XK} {De : ε → Own} {G G1 G2 : Sto} {D0 : Own} {Dd : S → Own} {s : S} {te ta tb tc tx : TE} {tt tu : TT} {F0 F1 : Hp} {E : Ends} {w : Wish K ε ρ} {t : TA} {n : Nat} {k : KeyE κ} {Rk : κ → Ty} {Rv : β → Ty}
theorem evnc_lockC {m : List (κ × β)} {j : Nat} {a : Addr} {C : Prop} {xs : List α} {mm : List α → Res Unit (γ × S)} {O : γ → OTy} (hk : ∀ s, (Dd s)[j]? = some (a, OXT k Rv m))
    (h : ∀ od kvs, EvNC (β := γ × S) K (fun _ => E0) (fun _ : Unit => []) te G (fun s => (Dd s).set j (a, OZT k Rv m od kvs)) s (fun kk => Res.bind (Res.grd C xs) fun z1 => Res.bind (Res.calm (mm z1)) fun z2 => kk z2.1 z2.2) O) :
    EvNC (β := δ) K X De (tLockE te) G Dd s (fun kk => Res.bind (Res.grd C xs) fun z1 => Res.bind (Res.calm (mm z1)) fun z2 => kk z2.1 z2.2) O := fun kk σ H F hs ss o r Q hm q qe => by
  obtain ⟨o1, ho, kvs, rfl, hx⟩ := hs.at (hk s)
  refine ⟨a, .dK kvs, ho, trivial, fun od => ?_⟩
  obtain ⟨hc, hm2⟩ := Res.sat_grd hm
  cases e : mm xs with
  | err n u => rw [e] at hm2; exact (show False from hm2).elim
  | stuck => rw [e] at hm2; exact (show False from hm2).elim
  | ok z =>
    rw [e] at hm2
    have hs1 : HS ((Dd s).set j (a, OZT k Rv m od kvs)) (upd H a (.frz od (.dK kvs))) F := hs.put (hk s) ⟨rfl, hx⟩
    refine h od kvs (fun x s' => .ok (x, s')) σ _ F hs1 ss (fun p => p = z) (fun _ _ => False) _ ?_ (fun x s' p H' F' t' hs' hz => ?_) (fun n e f => f.elim)
    · dsimp only
      rw [Res.grd_t hc, Res.bind_ok, e]
      exact rfl
    · have hz' : (x, s') = z := hz
      subst hz'
      have hk' : ((p, O x) :: (Dd s').set j (a, OZT k Rv m od kvs))[j + 1]? = some (a, OZT k Rv m od kvs) := by
        rw [List.getElem?_cons_succ]
        exact set_at (hk s')
      obtain ⟨o2, ho2, rfl, hx2⟩ := hs'.at hk'
      refine ⟨ho2, q x s' p _ F' t' ?_ hm2⟩
      have z2 := hs'.put (O' := OXT k Rv m) (o := .dK kvs) hk' ⟨kvs, rfl, hx2⟩
      rw [List.set_cons_succ, List.set_set] at z2
      have e3 : (Dd s').set j (a, OXT k Rv m) = Dd s' := by
        refine List.ext_getElem? fun i => ?_
        by_cases y : i = j
        · subst y
          rw [List.getElem?_set_self (List.getElem?_eq_some_iff.mp (hk s')).1, hk s']
        · rw [List.getElem?_set_ne (Ne.symm y)]
      rw [e3] at z2
      exact z2
end
end TL
end
section
set_option Elab.async false
set_option linter.all false
set_option maxRecDepth 100000
set_option maxHeartbeats 1000000
namespace TL
open PySem PySem.Spec L2 PyProof.Rows PySem.Calls PySem.AutoSeq1
section
variable {K : PySem.W.Frag} {ε ε' ρ α β γ δ S τ τ' σt ω Ω κ : Type} {X : L2.St → XK} {Xk : XK} {De : ε → Own} {G G1 G2 : Sto} {D0 : Own} {Dd : S → Own} {s : S} {te ta tb tc tx : TE} {tt tu : TT} {F0 F1 : Hp} {E : Ends} {w : Wish K ε ρ} {t : TA} {n : Nat}
end
end TL
end
section
set_option Elab.async false
set_option linter.all false
set_option maxRecDepth 100000
set_option maxHeartbeats 1000000
namespace TL
open PySem PySem.Spec L2
def FlatQ (O : OTy) : Prop := ∀ o L F, O.q o L F
def OX2 (Os : List OTy) (rt : List Addr → OTy) : OTy where
  p o F := ∃ bs : List Addr, bs.length = Os.length ∧ (rt bs).p o F
  mono s := fun ⟨bs, l, h⟩ => ⟨bs, l, (rt bs).mono s h⟩
  q o L F := ∃ bs : List Addr, bs.length = Os.length ∧ bs.Nodup ∧ (rt bs).p o F ∧ ∀ (i : Nat) (b : Addr) (O : OTy), bs[i]? = some b → Os[i]? = some O → ∃ u, L b = some u ∧ O.p u F
  qmono s := fun ⟨bs, l, n, h, f⟩ => ⟨bs, l, n, (rt bs).mono s h, fun i b O hb hO => let ⟨u, e, r⟩ := f i b O hb hO; ⟨u, e, O.mono s r⟩⟩
theorem zip_mem {bs : List Addr} {Os : List OTy} {b : Addr} {O : OTy} (h : (b, O) ∈ bs.zip Os) : ∃ i : Nat, bs[i]? = some b ∧ Os[i]? = some O := by
  obtain ⟨i, hi⟩ := List.getElem?_of_mem h
  exact ⟨i, List.getElem?_zip_eq_some.mp hi⟩
theorem zip_roots {bs : List Addr} {Os : List OTy} (hl : bs.length = Os.length) : (bs.zip Os).map (·.1) = bs := List.map_fst_zip (by omega)
theorem hs_openX {D : Own} {H F : Hp} {k : Nat} {a : Addr} {Os : List OTy} {rt : List Addr → OTy} (h : HS D H F) (hk : D[k]? = some (a, OX2 Os rt)) (fq : ∀ O ∈ Os, FlatQ O) (fr : ∀ bs, FlatQ (rt bs)) :
    ∃ bs, bs.length = Os.length ∧ HS (bs.zip Os ++ D.set k (a, rt bs)) H F := by
  obtain ⟨L, hL⟩ := h.deep
  have ma := List.mem_of_getElem? hk
  obtain ⟨n, o, ho, _⟩ := h.own a _ ma
  obtain ⟨bs, hl, bnd, hp, hb⟩ := hL.q a _ ma o ho
  have ra : a ∈ D.map (·.1) := List.mem_map_of_mem (f := (·.1)) ma
  have hat : ∀ b ∈ bs, ∃ u, L a b = some u := fun b hm => by
    obtain ⟨i, hi⟩ := List.getElem?_of_mem hm
    have lt : i < Os.length := by rw [← hl]; exact (List.getElem?_eq_some_iff.mp hi).1
    obtain ⟨u, e, _⟩ := hb i b Os[i] hi (List.getElem?_eq_getElem lt)
    exact ⟨u, e⟩
  have off : ∀ b ∈ bs, F b = none ∧ b ∉ D.map (·.1) := fun b hm => by
    obtain ⟨u, e⟩ := hat b hm
    exact (hL.at_ a b u ra e).2
  have cs : ∀ c O, (c, O) ∈ D.set k (a, rt bs) → (c = a ∧ O = rt bs) ∨ (c ≠ a ∧ (c, O) ∈ D) := fun c O m => by
    obtain ⟨j, hj⟩ := List.getElem?_of_mem m
    by_cases z : j = k
    · subst z
      rw [List.getElem?_set_self (List.getElem?_eq_some_iff.mp hk).1] at hj
      cases hj
      exact .inl ⟨rfl, rfl⟩
    · rw [List.getElem?_set_ne (Ne.symm z)] at hj
      exact .inr ⟨fun q => by subst q; exact z (own_uniq h.nd hj hk), List.mem_of_getElem? hj⟩
  have roots : (bs.zip Os ++ D.set k (a, rt bs)).map (·.1) = bs ++ D.map (·.1) := by
    rw [List.map_append, zip_roots hl, set_roots hk]
  refine ⟨bs, hl, h.sub, fun c O m => ?_, ?_, fun c => if c ∈ bs ∨ c = a then noH else L c, fun c O m u hu => ?_, fun c x u hc e => ?_, fun c c' x hc hc' e e' => ?_⟩
  · rcases List.mem_append.mp m with q | q
    · obtain ⟨i, h1, h2⟩ := zip_mem q
      obtain ⟨u, e, r⟩ := hb i c O h1 h2
      obtain ⟨g1, g2, _⟩ := hL.at_ a c u ra e
      exact ⟨g2, u, g1, r⟩
    · rcases cs c O q with ⟨e1, e2⟩ | ⟨_, m1⟩
      · subst e1 e2
        exact ⟨n, o, ho, hp⟩
      · exact h.own c O m1
  · rw [roots, List.nodup_append]
    exact ⟨bnd, h.nd, fun x hx y hy e => (off x hx).2 (e ▸ hy)⟩
  · rcases List.mem_append.mp m with q | q
    · obtain ⟨i, h1, h2⟩ := zip_mem q
      exact fq O (List.mem_of_getElem? h2) _ _ _
    · rcases cs c O q with ⟨e1, e2⟩ | ⟨n1, m1⟩
      · subst e1 e2
        exact fr bs _ _ _
      · have nb : c ∉ bs := fun z => (off c z).2 (List.mem_map_of_mem (f := (·.1)) m1)
        rw [if_neg fun z => z.elim nb n1]
        exact hL.q c O m1 u hu
  · rw [roots] at hc ⊢
    by_cases z : c ∈ bs ∨ c = a
    · rw [if_pos z] at e; cases e
    · rw [if_neg z] at e
      have hc2 : c ∈ D.map (·.1) := (List.mem_append.mp hc).resolve_left fun q => z (.inl q)
      obtain ⟨g1, g2, g3⟩ := hL.at_ c x u hc2 e
      refine ⟨g1, g2, fun q => ?_⟩
      rcases List.mem_append.mp q with q | q
      · obtain ⟨v, ev⟩ := hat x q
        exact z (.inr (hL.sep c a x hc2 ra (by rw [e]; exact Option.some_ne_none _) (by rw [ev]; exact Option.some_ne_none _)))
      · exact g3 q
  · rw [roots] at hc hc'
    by_cases z : c ∈ bs ∨ c = a
    · rw [if_pos z] at e; exact absurd rfl e
    · by_cases z' : c' ∈ bs ∨ c' = a
      · rw [if_pos z'] at e'; exact absurd rfl e'
      · rw [if_neg z] at e
        rw [if_neg z'] at e'
        exact hL.sep c c' x ((List.mem_append.mp hc).resolve_left fun q => z (.inl q)) ((List.mem_append.mp hc').resolve_left fun q => z' (.inl q)) e e'
theorem hs_closeX {D : Own} {H F : Hp} {k : Nat} {a : Addr} {Os : List OTy} {rt : List Addr → OTy} {bs : List Addr} (h : HS (bs.zip Os ++ D) H F) (hl : bs.length = Os.length) (hk : D[k]? = some (a, rt bs)) : HS (D.set k (a, OX2 Os rt)) H F := by
  obtain ⟨L, hL⟩ := h.deep
  have ma := List.mem_of_getElem? hk
  have hD : HS D H F := h.drop (List.sublist_append_right _ _)
  have roots : (bs.zip Os ++ D).map (·.1) = bs ++ D.map (·.1) := by rw [List.map_append, zip_roots hl]
  have nd := h.nd
  rw [roots, List.nodup_append] at nd
  have ra : a ∈ D.map (·.1) := List.mem_map_of_mem (f := (·.1)) ma
  have hb : ∀ (i : Nat) (b : Addr) (O : OTy), bs[i]? = some b → Os[i]? = some O → F b = none ∧ ∃ u, H b = some u ∧ O.p u F := fun i b O h1 h2 =>
    h.own b O (List.mem_append_left _ (List.mem_of_getElem? (i := i) (List.getElem?_zip_eq_some.mpr ⟨h1, h2⟩)))
  have hbm : ∀ b ∈ bs, F b = none := fun b hm => by
    obtain ⟨i, hi⟩ := List.getElem?_of_mem hm
    have lt : i < Os.length := by rw [← hl]; exact (List.getElem?_eq_some_iff.mp hi).1
    exact (hb i b Os[i] hi (List.getElem?_eq_getElem lt)).1
  have cs : ∀ c O, (c, O) ∈ D.set k (a, OX2 Os rt) → (c = a ∧ O = OX2 Os rt) ∨ (c ≠ a ∧ (c, O) ∈ D) := fun c O m => by
    obtain ⟨j, hj⟩ := List.getElem?_of_mem m
    by_cases z : j = k
    · subst z
      rw [List.getElem?_set_self (List.getElem?_eq_some_iff.mp hk).1] at hj
      cases hj
      exact .inl ⟨rfl, rfl⟩
    · rw [List.getElem?_set_ne (Ne.symm z)] at hj
      exact .inr ⟨fun q => by subst q; exact z (own_uniq hD.nd hj hk), List.mem_of_getElem? hj⟩
  refine ⟨h.sub, fun c O m => ?_, by rw [set_roots hk]; exact hD.nd, fun c => if c = a then (fun x => if x ∈ bs then H x else none) else L c, fun c O m u hu => ?_, fun c x u hc e => ?_, fun c c' x hc hc' e e' => ?_⟩
  · rcases cs c O m with ⟨e1, e2⟩ | ⟨_, m1⟩
    · subst e1 e2
      obtain ⟨n, o, ho, hp⟩ := hD.own c _ ma
      exact ⟨n, o, ho, bs, hl, hp⟩
    · exact hD.own c O m1
  · rcases cs c O m with ⟨e1, e2⟩ | ⟨n1, m1⟩
    · subst e1 e2
      rw [if_pos rfl]
      obtain ⟨n, o, ho, hp⟩ := hD.own c _ ma
      rw [hu] at ho
      cases ho
      refine ⟨bs, hl, nd.1, hp, fun i b O h1 h2 => ?_⟩
      obtain ⟨_, v, g1, g2⟩ := hb i b O h1 h2
      exact ⟨v, by dsimp only; rw [if_pos (List.mem_of_getElem? h1)]; exact g1, g2⟩
    · rw [if_neg n1]
      exact hL.q c O (List.mem_append_right _ m1) u hu
  · rw [set_roots hk] at hc ⊢
    have hc2 : c ∈ (bs.zip Os ++ D).map (·.1) := by rw [roots]; exact List.mem_append_right _ hc
    by_cases z : c = a
    · rw [if_pos z] at e
      by_cases y : x ∈ bs
      · rw [if_pos y] at e
        exact ⟨e, hbm x y, fun q => nd.2.2 x y x q rfl⟩
      · rw [if_neg y] at e; cases e
    · rw [if_neg z] at e
      obtain ⟨g1, g2, g3⟩ := hL.at_ c x u hc2 e
      exact ⟨g1, g2, fun q => g3 (by rw [roots]; exact List.mem_append_right _ q)⟩
  · rw [set_roots hk] at hc hc'
    have up : ∀ c, c ∈ D.map (·.1) → c ∈ (bs.zip Os ++ D).map (·.1) := fun c hc => by rw [roots]; exact List.mem_append_right _ hc
    have apart : ∀ c, c ∈ D.map (·.1) → L c x ≠ none → x ∉ bs := fun c hc ne y => by
      cases q : L c x with
      | none => exact ne q
      | some u => exact (hL.at_ c x u (up c hc) q).2.2 (by rw [roots]; exact List.mem_append_left _ y)
    by_cases z : c = a
    · by_cases z' : c' = a
      · rw [z, z']
      · rw [if_pos z] at e
        rw [if_neg z'] at e'
        by_cases y : x ∈ bs
        · exact absurd y (apart c' hc' e')
        · rw [if_neg y] at e; exact absurd rfl e
    · by_cases z' : c' = a
      · rw [if_neg z] at e
        rw [if_pos z'] at e'
        by_cases y : x ∈ bs
        · exact absurd y (apart c hc e)
        · rw [if_neg y] at e'; exact absurd rfl e'
      · rw [if_neg z] at e
        rw [if_neg z'] at e'
        exact hL.sep c c' x (up c hc) (up c' hc') e e'
end TL
end
section
set_option Elab.async false
set_option linter.all false
set_option maxRecDepth 100000
set_option maxHeartbeats 1000000
namespace TL
open PySem PySem.Spec L2
def OX1 (O : OTy) (rt : Addr → OTy) : OTy := OX2 [O] (fun bs => rt (bs.headD 0))
theorem one_of {α : Type} {bs : List α} (h : bs.length = 1) : ∃ b, bs = [b] := by
  rcases bs with _ | ⟨b, _ | ⟨c, bs⟩⟩
  · cases h
  · exact ⟨b, rfl⟩
  · simp at h
theorem hs_open1 {D : Own} {H F : Hp} {k : Nat} {a : Addr} {O : OTy} {rt : Addr → OTy} (h : HS D H F) (hk : D[k]? = some (a, OX1 O rt)) (fq : FlatQ O) (fr : ∀ b, FlatQ (rt b)) : ∃ b, HS ((b, O) :: D.set k (a, rt b)) H F := by
  obtain ⟨bs, hl, h2⟩ := hs_openX h hk (fun O' m => by rw [List.mem_singleton.mp m]; exact fq) (fun bs => fr _)
  obtain ⟨b, rfl⟩ := one_of hl
  exact ⟨b, h2⟩
theorem hs_close1 {D : Own} {H F : Hp} {k : Nat} {a b : Addr} {O : OTy} {rt : Addr → OTy} (h : HS ((b, O) :: D) H F) (hk : D[k]? = some (a, rt b)) : HS (D.set k (a, OX1 O rt)) H F := hs_closeX (bs := [b]) (Os := [O]) (rt := fun bs => rt (bs.headD 0)) h rfl hk
section
variable {K : PySem.W.Frag} {ε ε' ρ α β γ δ S τ τ' σt ω Ω κ : Type} {X : L2.St → XK} {Xk : XK} {De : ε → Own} {G G1 G2 : Sto} {D0 : Own} {Dd : S → Own} {s : S} {te ta tb tc tx : TE} {tt tu : TT} {F0 F1 : Hp} {E : Ends} {w : Wish K ε ρ} {t : TA} {n : Nat} {C : Addr} {P : L2.St → Hp → Prop}
theorem go_open1 {k : Nat} {a : Addr} {O : OTy} {rt : Addr → OTy} (hk : D0[k]? = some (a, OX1 O rt)) (fq : FlatQ O) (fr : ∀ b, FlatQ (rt b)) (h : ∀ b, Go P F0 G ((b, O) :: D0.set k (a, rt b))) : Go P F0 G D0 := fun σ H F t hs ss => by
  obtain ⟨b, hs2⟩ := hs_open1 hs hk fq fr
  exact h b σ H F t hs2 ss
theorem GoV.le {P : VK} {R : Ty} {D D' : Own} (h : GoV P F0 R D') (l : DLe D D') : GoV P F0 R D := fun v H F s hs r => h v H F s (l H F hs) r
theorem GoX.le {P : XK} {c : Value} {D D' : Own} (h : GoX P F0 c D') (l : DLe D D') : GoX P F0 c D := fun H F s hs => h H F s (l H F hs)
theorem Go.le {P : L2.St → Hp → Prop} {D D' : Own} (h : Go P F0 G D') (l : DLe D D') : Go P F0 G D := fun σ H F s hs ss => h σ H F s (l H F hs) ss
theorem dle_close1 {D : Own} {k : Nat} {a b : Addr} {O : OTy} {rt : Addr → OTy} (hk : D[k]? = some (a, rt b)) : DLe ((b, O) :: D) (D.set k (a, OX1 O rt)) := fun H F hs => hs_close1 hs hk
theorem go_fldNC {i k : Nat} {a : Addr} {f : Str} {fds : Fds} {O : α → OTy} {M : (α → S → Res ε ρ) → Res ε ρ} {kk : α × S → Res ε ρ} (h : EvNC K w.X w.De te G Dd s M O) (hi : G[i]? = some (some (Is (.ref a)))) (hk : ∀ s, (Dd s)[k]? = some (a, OI K C fds)) (c : Cls K C) (na : NoAttr K C f) {ns : List Str} (hns : fds.map (·.1) = ns) (hn : f ∉ ns) (hl : fds.length < 1000)
    {m : Res ε ρ} (hP : w.W F0 m) (q : ∀ x p, w.W F0 (kk x) → Go E.nx F0 G ((p, O x.1) :: (Dd x.2).set k (a, OI K C (fds ++ [(f, Is (.ref p))])))) (cc : w.cond G := by first | exact trivial | walk_at "cond") (hm : m = (M fun v s' => Res.bind (.ok (v, s')) kk) := by exact rfl) : Go (sFld K (tVar i) te f E) F0 G (Dd s) := by subst hm; exact (fun σ H F t hs ss =>
  h _ σ H F hs ss _ _ _ hP (fun x s' p H1 F1 t1 hs1 hm => by
    obtain ⟨v, e1, e2⟩ := (ss.mono t1).get hi
    have ev : v = .ref a := e2
    subst ev
    have hk' : ((p, O x) :: Dd s')[k + 1]? = some (a, OI K C fds) := by rw [List.getElem?_cons_succ]; exact hk s'
    obtain ⟨o1, ho, dx, fs, rfl, h2⟩ := hs1.at hk'
    have ln : fs.length = fds.length := by
      have := congrArg List.length h2.1
      simpa using this
    refine ⟨_, e1, a, C, dx, fs, rfl, ho, c, na, by rw [ln]; exact hl, ?_⟩
    have z := hs1.put (O' := OI K C (fds ++ [(f, Is (.ref p))])) (o := .ins C dx (putF f (.ref p) fs)) hk' ⟨dx, _, rfl, by
      rw [putF_new (by rw [h2.1, hns]; exact hn)]
      refine ⟨by simp [h2.1], ?_⟩
      rw [List.map_append, List.map_append]
      exact h2.2.app (.cons rfl .nil)⟩
    rw [List.set_cons_succ] at z
    exact q (x, s') p hm σ _ F1 (t.trans t1) z (ss.mono t1)) (fun n e hr H1 F1 t1 hs1 => w.err hr cc σ H1 F1 (t.trans t1) hs1 (ss.mono t1)))
def GoIO (Q : VK) (F : Hp) (a : Addr) (O : OTy) (D : Own) : Prop := ∀ H' F', Same F F' → HS ((a, O) :: D) H' F' → Q .non H'
theorem GoIO.up {Q : VK} {F F' : Hp} {a : Addr} {O : OTy} {D : Own} (h : GoIO Q F a O D) (s : Same F F') : GoIO Q F' a O D := fun H1 F1 t hs => h H1 F1 (s.trans t) hs
def iwishO (K : PySem.W.Frag) (Xk : XK) (Q : VK) (a : Addr) (Ob : ρ → OTy) (D : Own) : Wish K Unit ρ where
  X := fun _ => Xk
  De := fun _ => D
  o := fun F r => GoIO Q F a (Ob r) D
  r := fun F n _ => GoX Xk F (.ref (He.ga K n)) D
  cond := fun _ => True
  upo := fun s h => h.up s
  upr := fun s h => GoX.up h s
  err := fun h _ σ H F s hs _ => h H F s hs
def spIO (K : PySem.W.Frag) (C : Addr) {τ ρ : Type} (args : τ → List Ty) (mf : τ → Res Unit ρ) (Ob : ρ → OTy) : Sp := fun vs H Q X => ∃ (x : τ) (F : Hp) (D : Own) (a : Addr) (us : List V), vs = .ref a :: us ∧ HS ((a, OI K C []) :: D) H F ∧ AllP F (args x) us ∧ (iwishO K X Q a Ob D).W F (mf x)
theorem spIO_len {args : τ → List Ty} {mf : τ → Res Unit γ} {Ob : γ → OTy} {k : Nat} (h : ∀ x, (args x).length = k) : ∀ vs H Q E, spIO K C args mf Ob vs H Q E → vs.length = k + 1 := fun vs H Q E ⟨x, F, D, a, us, e, hs, ha, _⟩ => by
  rw [e, List.length_cons, ha.len, h x]
theorem pure_ofIO {args : τ → List Ty} {mf : τ → Res Unit γ} {Ob : γ → OTy} {N : List Str} {tf : TS} {vs : List V} {H : Hp} {Q : VK} {X : XK}
    (walk : ∀ (x : τ) (F : Hp) (D : Own) (a : Addr) (E : Ends), E.rt = Q → (∀ F1 r G D1, GoIO Q F1 a (Ob r) D → DLe D1 ((a, Ob r) :: D) → Go E.nx F1 G D1) → (iwishO K X Q a Ob D).W F (mf x) → Go (tf E) F (some (Is (.ref a)) :: ((args x).map some ++ List.replicate (N.length - 1 - (args x).length) none)) ((a, OI K C []) :: D))
    (h : spIO K C args mf Ob vs H Q X) : tf { nx := fun _ H' => Q .non H', rt := Q } (L2.start N vs) H := by
  obtain ⟨x, F, D, a, us, e, hs, ha, hp⟩ := h
  subst e
  have z := SS.start (N := N) (AllP.cons (R := Is (.ref a)) rfl ha)
  rw [List.length_cons, ha.len] at z
  have e2 : ((Is (.ref a) :: args x).map some ++ List.replicate (N.length - ((args x).length + 1)) none) = some (Is (.ref a)) :: ((args x).map some ++ List.replicate (N.length - 1 - (args x).length) none) := by
    rw [List.map_cons, List.cons_append, Nat.sub_sub, Nat.add_comm 1]
  rw [e2] at z
  refine walk x F D a { nx := fun _ H' => Q .non H', rt := Q } rfl (fun F1 r G D1 g sb σ H' F' s hs' ss => ?_) hp _ H F (Same.refl _) hs z
  exact g H' F' s (sb H' F' hs')
end
end TL
end
section
set_option Elab.async false
set_option linter.all false
set_option maxRecDepth 100000
set_option maxHeartbeats 1000000
namespace TL
open PySem PySem.Spec L2
def Pt {S : Type} (te : TE) (G : Sto) (Dd : S → Own) (a : Addr) : Prop := ∀ (s : S) (σ : L2.St) (H F : Hp), HS (Dd s) H F → SS F G σ → ∀ Q : VK, Q (.ref a) H → te σ H Q
section
variable {K : PySem.W.Frag} {ε ε' ρ α β γ δ S τ τ' σt ω Ω κ : Type} [DecidableEq κ] {X : L2.St → XK} {Xk : XK} {De : ε → Own} {G G1 G2 : Sto} {D0 : Own} {Dd : S → Own} {s : S} {te ta tb tc tx : TE} {tt tu : TT} {F0 F1 : Hp} {E : Ends} {w : Wish K ε ρ} {t : TA} {n : Nat} {C : Addr} {k : KeyE κ} {Rk : κ → Ty} {Rv : β → Ty}
omit [DecidableEq κ] in
theorem pt_fld {j k i : Nat} {a b : Addr} {f : Str} {fds : S → Fds} (hi : G[i]? = some (some (Is (.ref a)))) (hk : ∀ s, (Dd s)[k]? = some (a, OI K C (fds s))) (c : Cls K C) (na : NoAttr K C f) {ns : List Str} (hns : ∀ s, (fds s).map (·.1) = ns) (nd : ns.Nodup) (e : ∀ s, (fds s)[j]? = some (f, Is (.ref b))) : Pt (tFld K (tVar i) f) G Dd b := fun s σ H F hs ss Q q => by
  obtain ⟨v, e1, e2⟩ := ss.get hi
  have ev : v = .ref a := e2
  subst ev
  obtain ⟨o1, ho, dx, fs, rfl, h2⟩ := hs.at (hk s)
  obtain ⟨u, h3, h4⟩ := h2.at (by rw [hns]; exact nd) (e s)
  have eu : u = .ref b := h4
  subst eu
  exact ⟨_, e1, a, C, dx, fs, _, rfl, ho, c, na, h3, q⟩
omit [DecidableEq κ] in
theorem evc_pt {a : Addr} (h : Pt te G Dd a) : EvC (β := δ) K X De te G Dd s (fun kk => kk () s) (fun _ => Is (.ref a)) := fun kk σ H F hs ss o r Q hm q qe => h s σ H F hs ss Q (q () s _ H F (Same.refl _) hs rfl hm)
theorem go_dputP {m : List (κ × β)} {j : Nat} {a : Addr} {Ma : (β → S → Res ε ρ) → Res ε ρ} {Mi : S → (κ → S → Res ε ρ) → Res ε ρ} {kk : List (κ × β) × S → Res ε ρ} (hkv : KeyV k Rk) (ho : Pt ta G Dd a) (h : EvC K w.X w.De te G Dd s Ma Rv) (hi : ∀ s1, EvC K w.X w.De tb G Dd s1 (Mi s1) Rk) (hk : ∀ s, (Dd s)[j]? = some (a, OXT k Rv m))
    {mm : Res ε ρ} (hP : w.W F0 mm) (q : ∀ x, w.W F0 (kk x) → Go E.nx F0 G ((Dd x.2).set j (a, OXT k Rv x.1))) (c : w.cond G := by first | exact trivial | walk_at "cond") (hm : mm = (Ma fun v s1 => Mi s1 fun x s2 => Res.bind (Res.grd (m.length < 100000) (dput m x v, s2)) kk) := by exact rfl) : Go (sDPut ta tb te E) F0 G (Dd s) := by subst hm; exact (fun σ H F t hs ss =>
  h _ σ H F hs ss _ _ _ hP (fun x s1 v H1 F1 t1 hs1 r1 hm => ho s1 σ H1 F1 hs1 (ss.mono t1) _ (by
    refine hi s1 _ σ H1 F1 hs1 (ss.mono t1) _ _ _ hm (fun y s2 u H2 F2 t2 hs2 r2 hm2 => ?_) (fun n e hr H2 F2 t2 hs2 => w.err hr c σ H2 F2 ((t.trans t1).trans t2) hs2 ((ss.mono t1).mono t2))
    obtain ⟨hl, hm3⟩ := Res.sat_grd hm2
    obtain ⟨o, ho, kvs, rfl, h2⟩ := hs2.at (hk s2)
    have l2 := h2.len
    refine ⟨a, _, rfl, by rw [hkv _ _ _ r2]; exact DPut.k (k := k.f y) ho (by rw [l2]; exact Nat.lt_of_lt_of_le hl sizeLine_big), ?_⟩
    exact q (dput m y x, s2) hm3 σ _ F2 ((t.trans t1).trans t2) (hs2.put (hk s2) ⟨_, rfl, h2.put ((Rv x).mono t2 r1)⟩) ((ss.mono t1).mono t2))) (fun n e hr H1 F1 t1 hs1 => w.err hr c σ H1 F1 (t.trans t1) hs1 (ss.mono t1)))
omit [DecidableEq κ] in
theorem dw_OZ {m : List (κ × β)} {a : Addr} {j : Nat} {od : Obj} {kvs : List (L2.Key × V)} (hk : ∀ s, (Dd s)[j]? = some (a, OZT k Rv m od kvs)) : DVw Dd (fun _ : Unit => Is (.ref a)) (fun _ => m) k Rv := fun x s v H F hs r => by
  obtain ⟨o, ho, rfl, h⟩ := hs.at (hk s)
  exact ⟨a, kvs, r, h, .inr ⟨od, ho⟩⟩
omit [DecidableEq κ] in
theorem evItc_keysZ (hat : ∀ x F, (Rk x).p (kV (k.f x)) F) {m : List (κ × β)} {j : Nat} {a : Addr} {od : Obj} {kvs : List (L2.Key × V)} (hp : Pt te G Dd a) (hk : ∀ s, (Dd s)[j]? = some (a, OZT k Rv m od kvs)) : EvItC (β := δ) K X De (iKeys te) G Dd s (hasC a (OZT k Rv m od kvs)) (fun kk => kk (m.map (·.1)) s) Rk := fun kk σ H F hs ss o r Q hm q qe =>
  hp s σ H F hs ss _ (by
    obtain ⟨o1, ho, rfl, hx⟩ := hs.at (hk s)
    refine ⟨a, od, rfl, .inl ⟨kvs, ho, q _ s _ H F (Same.refl _) hs (fun D H2 F2 c t2 hs2 i => ?_) hm⟩⟩
    obtain ⟨_, o2, ho2, rfl, h2⟩ := hs2.own a _ c
    refine ⟨fun R hR => ?_, fun hl => ⟨ho2, by rw [h2.len]; simpa using hl⟩⟩
    rw [List.getElem?_map, List.getElem?_map] at hR
    cases q2 : m[i]? with
    | none => rw [q2] at hR; cases hR
    | some z =>
      rw [q2] at hR
      cases hR
      obtain ⟨v', hv, _⟩ := ent_getK h2 q2
      refine ⟨⟨ho2, (List.getElem?_eq_some_iff.mp hv).1⟩, fun x H' hy => ?_⟩
      obtain ⟨rfl, k', v'', h5, rfl⟩ := hy
      rw [hv] at h5
      cases h5
      exact ⟨F2, Same.refl _, hs2, hat _ _⟩)
end
section
variable {K : PySem.W.Frag} {ε α δ S : Type} {X : L2.St → XK} {De : ε → Own} {G : Sto} {Dd : S → Own} {s : S} {t1 t2 : TE} {M : (α → S → Res ε δ) → Res ε δ} {O : α → OTy} {R : α → Ty}
end
end TL
end
section
set_option Elab.async false
set_option linter.all false
set_option maxRecDepth 100000
set_option maxHeartbeats 1000000
namespace TL
open PySem PySem.Spec L2
def spX (K : PySem.W.Frag) {τ Ω ρ : Type} (args : τ → List Ty) (cl : τ → Ω → Own) (mf : τ → Ω → Res Ω (ρ × Ω)) (out : ρ → Out) : Sp := fun vs H Q X => ∃ (x : τ) (y : Ω) (F : Hp) (D0 : Own), HS (cl x y ++ D0) H F ∧ AllP F (args x) vs ∧ (dwish K X Q (fun r : ρ × Ω => out r.1) (fun r => cl x r.2 ++ D0) (fun e => cl x e ++ D0)).W F (mf x y)
def spXR (K : PySem.W.Frag) {τ ρ : Type} (args : τ → List Ty) (cl : τ → Own) (mf : τ → Res Unit ρ) (out : ρ → Out) : Sp := fun vs H Q X => ∃ (x : τ) (F : Hp) (D0 : Own), HS (cl x ++ D0) H F ∧ AllP F (args x) vs ∧ (dwish K X Q out (fun _ => cl x ++ D0) (fun _ : Unit => cl x ++ D0)).W F (mf x)
section
variable {K : PySem.W.Frag} {ε ε' ρ α β γ δ S τ τ' σt ω Ω : Type} {X : L2.St → XK} {Xk : XK} {De : ε → Own} {G G1 G2 : Sto} {D0 : Own} {Dd : S → Own} {s : S} {te ta tb tc tx : TE} {tt tu : TT} {F0 F1 : Hp} {E : Ends} {w : Wish K ε ρ} {t : TA} {n : Nat} {dvs : List V} {args : τ → List Ty} {Rs : τ' → List Ty} {C : Addr} {clr : τ → Own} {cl : τ → Ω → Own} {sp : Sp} {m : Str}
theorem evc_methXR {Rx : α → Ty} {R : γ → Ty} {mf : τ → Res Unit γ} {f : α → τ' → S → τ} {rest : α → τ' → S → Own} {Ma : (α → S → Res ε δ) → Res ε δ} {Mt : S → (τ' → S → Res ε δ) → Res ε δ} (hsp : ∀ vs H Q X, spXR K args clr mf (fun r => .ok (R r)) vs H Q X → sp vs H Q X) {g : S → ε}
    (ha : EvC K X De ta G Dd s Ma Rx) (ht : ∀ s1, EvAC K X De t G Dd s1 (Mt s1) Rs) (hrec : RecOk Dd Rx C m) (hp : ∀ x y s, (Dd s).Perm (clr (f x y s) ++ rest x y s)) (hde : ∀ s, DLe (Dd s) (De (g s)))
    (hd : ∀ x y s F v vs, (Rx x).p v F → AllP F (Rs y) vs → AllP F (args (f x y s)) (v :: (vs ++ dvs))) :
    EvC K X De (tMethSD C m sp dvs X ta t) G Dd s (fun kk => Ma fun x s1 => Mt s1 fun y s2 => Res.bind (Res.mapE (fun _ => g s2) (mf (f x y s2))) fun z => kk z s2) R := fun kk σ H F hs ss o r Q hm q qe =>
  ha _ σ H F hs ss o r _ hm (fun x s1 v H1 F1 t1 hs1 r1 hm1 => by
    obtain ⟨a, dx, fs, e0, h1, h2⟩ := hrec x s1 v H1 F1 hs1 r1
    refine ⟨a, dx, fs, e0, h1, h2, ht s1 _ σ H1 F1 hs1 (ss.mono t1) o r _ hm1 (fun y s2 vs H2 F2 t2 hs2 r2 hm2 => hsp _ _ _ _ ⟨f x y s2, F2, rest x y s2, hs2.perm (hp x y s2), hd _ _ _ _ _ _ ((Rx x).mono t2 r1) r2, ?_⟩) (fun n e h H2 F2 t2 => qe n e h H2 F2 (t1.trans t2))⟩
    cases e : mf (f x y s2) with
    | ok z =>
      rw [e] at hm2
      exact fun v H3 F3 t3 hs3 r3 => q z s2 v H3 F3 ((t1.trans t2).trans t3) (hs3.perm (hp x y s2).symm) r3 hm2
    | err n u =>
      rw [e] at hm2
      exact fun H3 F3 t3 hs3 => qe n _ hm2 H3 F3 ((t1.trans t2).trans t3) (hde s2 _ _ (hs3.perm (hp x y s2).symm))
    | stuck =>
      rw [e] at hm2
      exact hm2) qe
theorem evnc_methXR {Rx : α → Ty} {O : γ → OTy} {mf : τ → Res Unit γ} {f : α → τ' → S → τ} {rest : α → τ' → S → Own} {Ma : (α → S → Res ε δ) → Res ε δ} {Mt : S → (τ' → S → Res ε δ) → Res ε δ} (hsp : ∀ vs H Q X, spXR K args clr mf (fun r => .new (O r)) vs H Q X → sp vs H Q X) {g : S → ε}
    (ha : EvC K X De ta G Dd s Ma Rx) (ht : ∀ s1, EvAC K X De t G Dd s1 (Mt s1) Rs) (hrec : RecOk Dd Rx C m) (hp : ∀ x y s, (Dd s).Perm (clr (f x y s) ++ rest x y s)) (hde : ∀ s, DLe (Dd s) (De (g s)))
    (hd : ∀ x y s F v vs, (Rx x).p v F → AllP F (Rs y) vs → AllP F (args (f x y s)) (v :: (vs ++ dvs))) :
    EvNC K X De (tMethSD C m sp dvs X ta t) G Dd s (fun kk => Ma fun x s1 => Mt s1 fun y s2 => Res.bind (Res.mapE (fun _ => g s2) (mf (f x y s2))) fun z => kk z s2) O := fun kk σ H F hs ss o r Q hm q qe =>
  ha _ σ H F hs ss o r _ hm (fun x s1 v H1 F1 t1 hs1 r1 hm1 => by
    obtain ⟨a, dx, fs, e0, h1, h2⟩ := hrec x s1 v H1 F1 hs1 r1
    refine ⟨a, dx, fs, e0, h1, h2, ht s1 _ σ H1 F1 hs1 (ss.mono t1) o r _ hm1 (fun y s2 vs H2 F2 t2 hs2 r2 hm2 => hsp _ _ _ _ ⟨f x y s2, F2, rest x y s2, hs2.perm (hp x y s2), hd _ _ _ _ _ _ ((Rx x).mono t2 r1) r2, ?_⟩) (fun n e h H2 F2 t2 => qe n e h H2 F2 (t1.trans t2))⟩
    cases e : mf (f x y s2) with
    | ok z =>
      rw [e] at hm2
      exact fun p H3 F3 t3 hs3 => q z s2 p H3 F3 ((t1.trans t2).trans t3) (hs3.perm ((hp x y s2).symm.cons _)) hm2
    | err n u =>
      rw [e] at hm2
      exact fun H3 F3 t3 hs3 => qe n _ hm2 H3 F3 ((t1.trans t2).trans t3) (hde s2 _ _ (hs3.perm (hp x y s2).symm))
    | stuck =>
      rw [e] at hm2
      exact hm2) qe
theorem evc_methXM {Rx : α → Ty} {mf : τ → Ω → Res Ω (γ × Ω)} {R : γ → Ty} {f : α → τ' → S → τ} {rest : α → τ' → S → Own} {gt : S → Ω} {st : S → Ω → S} {Ma : (α → S → Res ε δ) → Res ε δ} {Mt : S → (τ' → S → Res ε δ) → Res ε δ} (hsp : ∀ vs H Q X, spX K args cl mf (fun r => .ok (R r)) vs H Q X → sp vs H Q X) {g : S → Ω → ε}
    (ha : EvC K X De ta G Dd s Ma Rx) (ht : ∀ s1, EvAC K X De t G Dd s1 (Mt s1) Rs) (hrec : RecOk Dd Rx C m) (hid : ∀ s, st s (gt s) = s) (hp : ∀ x y s w, (Dd (st s w)).Perm (cl (f x y s) w ++ rest x y s)) (hde : ∀ s y, DLe (Dd (st s y)) (De (g s y)))
    (hd : ∀ x y s F v vs, (Rx x).p v F → AllP F (Rs y) vs → AllP F (args (f x y s)) (v :: (vs ++ dvs))) :
    EvC K X De (tMethSD C m sp dvs X ta t) G Dd s (fun kk => Ma fun x s1 => Mt s1 fun y s2 => Res.bind (Res.mapE (g s2) (mf (f x y s2) (gt s2))) fun z => kk z.1 (st s2 z.2)) R := fun kk σ H F hs ss o r Q hm q qe =>
  ha _ σ H F hs ss o r _ hm (fun x s1 v H1 F1 t1 hs1 r1 hm1 => by
    obtain ⟨a, dx, fs, e0, h1, h2⟩ := hrec x s1 v H1 F1 hs1 r1
    refine ⟨a, dx, fs, e0, h1, h2, ht s1 _ σ H1 F1 hs1 (ss.mono t1) o r _ hm1 (fun y s2 vs H2 F2 t2 hs2 r2 hm2 => hsp _ _ _ _ ⟨f x y s2, gt s2, F2, rest x y s2, HS.perm (show HS (Dd (st s2 (gt s2))) H2 F2 by rw [hid]; exact hs2) (hp x y s2 _), hd _ _ _ _ _ _ ((Rx x).mono t2 r1) r2, ?_⟩) (fun n e h H2 F2 t2 => qe n e h H2 F2 (t1.trans t2))⟩
    cases e : mf (f x y s2) (gt s2) with
    | ok z =>
      rw [e] at hm2
      exact fun v H3 F3 t3 hs3 r3 => q z.1 (st s2 z.2) v H3 F3 ((t1.trans t2).trans t3) (hs3.perm (hp x y s2 _).symm) r3 hm2
    | err n u =>
      rw [e] at hm2
      exact fun H3 F3 t3 hs3 => qe n _ hm2 H3 F3 ((t1.trans t2).trans t3) (hde s2 u _ _ (hs3.perm (hp x y s2 _).symm))
    | stuck =>
      rw [e] at hm2
      exact hm2) qe
theorem pure_ofXR {mf : τ → Res Unit γ} {out : γ → Out} {N : List Str} {tf : TS} {vs : List V} {H : Hp} {Q : VK} {X : XK}
    (walk : ∀ (x : τ) (F : Hp) (D0 : Own) (E : Ends), E.rt = Q → (∀ (F : Hp) (K : PySem.W.Frag) G D1, GoV Q F (DN K) D1 → Go E.nx F G D1) → (dwish K X Q out (fun _ => clr x ++ D0) (fun _ : Unit => clr x ++ D0)).W F (mf x) → Go (tf E) F ((args x).map some ++ List.replicate (N.length - (args x).length) none) (clr x ++ D0))
    (h : spXR K args clr mf out vs H Q X) : tf { nx := fun _ H' => Q .non H', rt := Q } (L2.start N vs) H := by
  obtain ⟨x, F, D0, hs, ha, hp⟩ := h
  have z := SS.start (N := N) ha
  rw [ha.len] at z
  exact walk x F D0 { nx := fun _ H' => Q .non H', rt := Q } rfl (fun F K G D1 k σ H F1 s hs ss => k _ H F1 s hs .non) hp _ H F (Same.refl _) hs z
theorem pure_ofX {mf : τ → Ω → Res Ω (γ × Ω)} {out : γ → Out} {N : List Str} {tf : TS} {vs : List V} {H : Hp} {Q : VK} {X : XK}
    (walk : ∀ (x : τ) (y : Ω) (F : Hp) (D0 : Own) (E : Ends), E.rt = Q → (∀ (F : Hp) (K : PySem.W.Frag) G D1, GoV Q F (DN K) D1 → Go E.nx F G D1) → (dwish K X Q (fun r : γ × Ω => out r.1) (fun r => cl x r.2 ++ D0) (fun e => cl x e ++ D0)).W F (mf x y) → Go (tf E) F ((args x).map some ++ List.replicate (N.length - (args x).length) none) (cl x y ++ D0))
    (h : spX K args cl mf out vs H Q X) : tf { nx := fun _ H' => Q .non H', rt := Q } (L2.start N vs) H := by
  obtain ⟨x, y, F, D0, hs, ha, hp⟩ := h
  have z := SS.start (N := N) ha
  rw [ha.len] at z
  exact walk x y F D0 { nx := fun _ H' => Q .non H', rt := Q } rfl (fun F K G D1 k σ H F1 s hs ss => k _ H F1 s hs .non) hp _ H F (Same.refl _) hs z
theorem spXR_len {mf : τ → Res Unit γ} {out : γ → Out} {n : Nat} (e : ∀ x, (args x).length = n) : ∀ vs H Q E, spXR K args clr mf out vs H Q E → vs.length = n := fun vs H Q E ⟨x, F, D, _, ha, _⟩ => by rw [ha.len, e]
theorem spX_len {mf : τ → Ω → Res Ω (γ × Ω)} {out : γ → Out} {n : Nat} (e : ∀ x, (args x).length = n) : ∀ vs H Q E, spX K args cl mf out vs H Q E → vs.length = n := fun vs H Q E ⟨x, y, F, D, _, ha, _⟩ => by rw [ha.len, e]
end
end TL
end
section
set_option Elab.async false
set_option linter.all false
set_option maxRecDepth 100000
set_option maxHeartbeats 1000000
namespace TL
open PySem PySem.Spec L2
open PySem.Sem (wp)
section
variable {prog : Program} {w : World} {A : Around} {E : Value → Shared → Prop} {s : Shared}
end
section
variable {prog : Program} {w : World} {A : Around} {E : Value → Shared → Prop} {s : Shared}
end
section
variable {K : PySem.W.Frag} {ε ε' ρ α β γ δ S τ τ' σt ω κ : Type} {X : L2.St → XK} {De : ε → Own} {G G1 G2 : Sto} {D0 : Own} {Dd : S → Own} {s : S} {te ta tb tc tx : TE} {k : KeyE κ} {Rk : κ → Ty} {Rv : β → Ty}
end
end TL
end
section
set_option Elab.async false
set_option linter.all false
set_option maxRecDepth 100000
namespace TL
open PySem PySem.Spec L2
def siftY {α : Type} : List Addr → Nat → List Addr → (Nat → List Addr → α) → α
  | [], seen, new, k => k seen new
  | a :: as, seen, new, k => match Nat.land (Nat.shiftRight seen a) 1 with
    | 0 => HandSHeadRun.frNat (Nat.lor seen (Nat.shiftLeft 1 a)) fun s => siftY as s (a :: new) k
    | _ => siftY as seen new k
def stepY {α : Type} (g : Addr → Option Obj) : List Addr → Nat → List Addr → (Nat → List Addr → α) → α
  | [], seen, new, k => k seen new
  | a :: as, seen, new, k => match g a with
    | some o => siftY (He.refsD o) seen new fun s n => stepY g as s n k
    | none => stepY g as seen new k
def asY (g : Addr → Option Obj) : Nat → List Addr → Nat → List Addr
  | 0, _, _ => []
  | n + 1, fr, seen => stepY g fr seen [] fun s new => new ++ asY g n new s
def frY (n : Nat) (g : Addr → Option Obj) : PySem.W.Frag := He.frG g (mainGlobals :: asY g n [mainGlobals] (Nat.shiftLeft 1 mainGlobals))
def obsYG (n : Nat) (fa : List He.Fa) (fn : List He.DefD) (ex : PySem.W.Frag → Bool) (g : Addr → Option Obj) : AlZ := (He.obsD fa fn (frY n g), ex (frY n g))
def hookY (n : Nat) (fa : List He.Fa) (fn : List He.DefD) (ex : PySem.W.Frag → Bool) : PySem.W.Hook where
  α := AlZ
  obs := fun s => obsYG n fa fn ex s.heap.get?
  val := fun _ => (He.valD fn, true)
  says := fun _ h => ∃ K : PySem.W.Frag, K.In h ∧ SaysZ fa fn ex K
  of := fun _ _ e => ⟨_, He.frG_in, congrArg (fun z : AlZ => z.1) e, congrArg (fun z : AlZ => z.2) e⟩
  keeps := fun _ _ _ ⟨K, hK, c⟩ k => ⟨K, PySem.W.Frag.In.keeps hK k, c⟩
theorem obsYG_eq {n : Nat} {fa : List He.Fa} {fn : List He.DefD} {ex : PySem.W.Frag → Bool} {g : Addr → Option Obj} {s : Shared} (h : ∀ a, g a = s.heap.get? a) : obsYG n fa fn ex g = (hookY n fa fn ex).obs s := by
  have e : g = s.heap.get? := funext h
  rw [e] <;> rfl
end TL
end
section
set_option Elab.async false
set_option linter.all false
set_option maxRecDepth 100000
set_option maxHeartbeats 1000000
namespace TL
open PySem PySem.Spec L2
section
variable {K : PySem.W.Frag} {ε ε' ρ α β γ δ S τ τ' σt ω κ : Type} {X : L2.St → XK} {De : ε → Own} {G G1 G2 : Sto} {D0 : Own} {Dd : S → Own} {s : S} {te ta tb tc tx : TE} {R : α → Ty} {f : α → List β} {e : β → PyData} {n : Nat} [DecidableEq β]
end
end TL
end
section
set_option Elab.async false
set_option linter.all false
set_option maxRecDepth 100000
set_option maxHeartbeats 1000000
namespace TL
open PySem PySem.Spec L2
section
variable {K : PySem.W.Frag} {ε ε' ρ α β γ δ S τ τ' σt ω κ : Type} {X : L2.St → XK} {Xk : XK} {De : ε → Own} {G G1 G2 : Sto} {D0 : Own} {Dd : S → Own} {s : S} {te ta tb tc tx : TE} {t : TA} {n : Nat} {Rs : τ → List Ty}
end
end TL
end
section
set_option Elab.async false
set_option linter.all false
set_option maxRecDepth 100000
set_option maxHeartbeats 2000000
namespace TL
open PySem PySem.Spec PyProof.Rows L2
open L2H (RoomH)
structure FnL (P : Program) (w : World) (K : PySem.W.Frag) (mg : Str → Option Value) (base : Heap) (CX : CXT) (k : Nat) (f : Addr) (fd : FuncData) (ps : List Str) (sp : Sp) : Prop where
  len : ∀ vs H Q E, sp vs H Q E → vs.length = ps.length
  run : ∀ (A : Around) (outer : List Env) (s : Shared) (H : Hp) (args : Args) (us : List Value) (vs : List V) (Q : VK) (E : XK), RoomH k A → Env0 P w K mg base A outer s H → BindsTo s fd args (ps.zip us) → Vals vs us → sp vs H Q E →
    codeAny (model P w) A (.call (.ref f) args) (CR CX outer P w H s Q E) s
structure FoL (P : Program) (w : World) (K : PySem.W.Frag) (mg : Str → Option Value) (base : Heap) (x : Str) (ps : List Str) (dvs : List V) (k : Nat) (sp : Sp) : Prop where
  ex : ∃ f fd ds, FnL P w K mg base (L2.CX P w) k f fd ps sp ∧ mg x = some (.ref f) ∧ PySem.W.keepIn K (.ref f) = true ∧ Binds K fd ps ds ∧ Vals dvs ds
section
variable {X : Cx} {x : Str} {ps : List Str} {dvs : List V} {k : Nat} {sp : Sp} {t : TA} {e : Expr} {es : List Expr} {p pos : Pos} {EX : XK}
end
section
variable {P : Program} {w : World} {K : PySem.W.Frag} {mg : Str → Option Value} {base : Heap} {x name qual : Str} {params : Arguments} {body : List Stmt} {scope : Scope} {f : Addr} {fd : FuncData} {dvs : List V} {kws : List (Str × V)}
end
end TL
end
section
set_option Elab.async false
set_option linter.all false
set_option maxRecDepth 100000
set_option maxHeartbeats 1000000
namespace TL
open PySem PySem.Spec L2
section
variable {K : PySem.W.Frag} {ε ε' ρ α β γ δ S τ τ' σt ω κ : Type} {X : L2.St → XK} {Xk : XK} {G G1 G2 : Sto} {D0 : Own} {Dd : S → Own} {s : S} {t : TA} {args : τ → List Ty}
end
end TL
end
section
set_option Elab.async false
set_option linter.all false
set_option maxRecDepth 100000
set_option maxHeartbeats 1000000
namespace TL
open PySem PySem.Spec L2
def DSub (D D' : Own) : Prop := ∃ M : Own, D.Perm M ∧ D'.Sublist M
theorem HS.dsub {D D' : Own} {H F : Hp} (hs : HS D H F) (h : DSub D D') : HS D' H F := by
  obtain ⟨M, p, q⟩ := h
  exact (hs.perm p).drop q
theorem DSub.le {D D' : Own} (h : DSub D D') : DLe D D' := fun H F hs => hs.dsub h
section
variable {K : PySem.W.Frag} {ε ρ α S σt Γ : Type} {G : Sto} {D0 : Own} {Dd : S → Own} {s : S} {tt : TT} {F0 : Hp} {E : Ends} {w : Wish K ε ρ}
end
end TL
end
section
set_option Elab.async false
set_option linter.all false
set_option maxRecDepth 100000
set_option maxHeartbeats 1000000
namespace TL
open PySem PySem.Spec L2
abbrev eP (d : PyData) : PyData := d
def isP (n : String) (d : PyData) : Bool := (kitB (tyN d) n).getD false
theorem isP_ok {n : String} (h : ∀ o ∈ ["NoneType", "bool", "int", "str", "list", "tuple", "dict"], (kitB o n).isSome = true) (d : PyData) : kitB (tyN d) n = some (isP n d) := by
  have m : tyN d ∈ ["NoneType", "bool", "int", "str", "list", "tuple", "dict"] := by cases d <;> simp [tyN]
  obtain ⟨b, e⟩ := Option.isSome_iff_exists.mp (h _ m)
  unfold isP
  rw [e]
  rfl
def tupP : PyData → Option (List PyData)
  | .tuple xs => some xs
  | _ => none
section
variable {K : PySem.W.Frag} {ε α δ S τ γ : Type} {X : L2.St → XK} {De : ε → Own} {G : Sto} {Dd : S → Own} {s : S} {te : TE}
theorem evc_isiP {n : String} {M : (PyData → S → Res ε δ) → Res ε δ} (h : EvC K X De te G Dd s M (tD K eP)) (k : ∀ o ∈ ["NoneType", "bool", "int", "str", "list", "tuple", "dict"], (kitB o n).isSome = true) : EvC K X De (tCB (cIsi K) (tCons te (tCons (tC (.ty n)) tNil))) G Dd s (fun kk => M fun d s1 => kk (isP n d) s1) (tD K eB) := fun kk σ H F hs ss o r Q hm q qe =>
  h _ σ H F hs ss o r _ hm (fun d s1 v H1 F1 t1 hs1 r1 hm1 => .inl ⟨v, .ty n, _, _, isP n d, rfl, .ty n, tyX_of (dp_up hs1 r1), kit_ty (isP_ok k d), q _ s1 _ H1 F1 t1 hs1 (.bl _) hm1⟩) qe
theorem evItc_P {M : (PyData → S → Res ε δ) → Res ε δ} (h : EvC K X De te G Dd s M (tD K eP)) : EvItC K X De (iSeq K te) G Dd s (fun _ => True) (fun kk => M fun d s1 => Res.bind (Res.opt (tupP d)) fun xs => kk xs s1) (tD K eP) :=
  evItc_V (e := eP) (evc_prj (R' := tD K (eV eP)) tupP h fun d xs v F e r => by
    cases d <;> cases e
    show Dp K F v (.tuple (xs.map eP))
    rw [show xs.map eP = xs from List.map_id xs]
    exact r)
end
end TL
end
section
set_option Elab.async false
set_option linter.all false
set_option maxRecDepth 100000
set_option maxHeartbeats 1000000
namespace TL
open PySem PySem.Spec L2
abbrev HT {α β : Type} (K : PySem.W.Frag) (R1 : α → Ty) (R2 : β → Ty) (x : α × List β) : Ty := TU K (R1 x.1 :: x.2.map R2)
section
variable {K : PySem.W.Frag} {ε α β γ δ S : Type} {X : L2.St → XK} {De : ε → Own} {G : Sto} {Dd : S → Own} {s : S} {te ta tb : TE} {tt : TT}
end
end TL
end
section
set_option Elab.async false
set_option linter.all false
set_option maxRecDepth 100000
set_option maxHeartbeats 1000000
namespace TL
open PySem PySem.Spec L2
section
variable {K : PySem.W.Frag} {ε ρ α S : Type} {G : Sto} {Dd : S → Own} {s : S} {te ti : TE} {F0 : Hp} {E : Ends} {w : Wish K ε ρ} {n : Nat}
end
end TL
end
section
set_option Elab.async false
set_option linter.all false
set_option maxRecDepth 100000
set_option maxHeartbeats 1000000
namespace TL
open PySem PySem.Spec L2
section
variable {K : PySem.W.Frag} {β κ : Type} [DecidableEq κ] {G : Sto} {D0 : Own} {F0 : Hp} {E : Ends} {C : Addr} {Rv : β → Ty} {kE : KeyE κ}
end
section
variable {K : PySem.W.Frag} {ε α δ S : Type} {X : L2.St → XK} {De : ε → Own} {G : Sto} {Dd : S → Own} {s : S} {te : TE}
end
end TL
end
section
set_option Elab.async false
set_option linter.all false
set_option maxRecDepth 100000
set_option maxHeartbeats 1000000
namespace TL
open PySem PySem.Spec L2 PyProof.Rows
section
variable {K : PySem.W.Frag} {ε α β γ δ S : Type} {X : L2.St → XK} {De : ε → Own} {G : Sto} {Dd : S → Own} {s : S} {te ta tb : TE}
end
end TL
end
section
set_option Elab.async false
set_option linter.all false
set_option maxRecDepth 100000
set_option maxHeartbeats 1000000
namespace TL
open PySem PySem.Spec L2
structure InsD (K : PySem.W.Frag) (C : Addr) : Prop where
  c1 : Cls K C
  c2 : PySem.W.findIn K (.ref C) "__class__" = some (some (.builtin "object.__class__"))
  c3 : PySem.W.specialIn K (.builtin "object.__class__") "__get__" = some (some (.builtin "getset_descriptor.__get__"))
  c4 : PySem.W.takesIn K (.builtin "object.__class__") = some true
  c5 : PySem.W.mroIn K C (.type "object") = some true
  c6 : PySem.W.kitOne K (.ref C) (.ref C) = some true
section
variable {K : PySem.W.Frag} {ε ε' ρ α β γ δ S τ τ' σt ω κ : Type} {X : L2.St → XK} {De : ε → Own} {G G1 G2 : Sto} {D0 : Own} {Dd : S → Own} {s : S} {te ta tb tc tx : TE} {C : Addr}
end
end TL
end
section
set_option Elab.async false
set_option linter.all false
set_option maxRecDepth 100000
set_option maxHeartbeats 1000000
namespace TL
open PySem PySem.Spec PyProof.Rows L2
section
variable {K : PySem.W.Frag} {ε ε' ρ α β γ δ S τ τ' σt ω κ : Type} {X : L2.St → XK} {De : ε → Own} {G G1 G2 : Sto} {D0 : Own} {Dd : S → Own} {s : S} {te ta tb tc tx : TE}
end
section
variable {K : PySem.W.Frag} {ε ε' ρ α β γ δ S τ τ' σt ω κ : Type} {X : L2.St → XK} {De : ε → Own} {G G1 G2 : Sto} {D0 : Own} {Dd : S → Own} {s : S} {te ta tb tc tx : TE}
end
end TL
end
section
set_option Elab.async false
set_option linter.all false
set_option maxRecDepth 100000
set_option maxHeartbeats 1000000
namespace TL
open PySem PySem.Spec L2
def spIOR (K : PySem.W.Frag) (C : Addr) {τ ρ : Type} (args : τ → List Ty) (pl : τ → Own → Prop) (mf : τ → Res Unit ρ) (Ob : ρ → OTy) : Sp := fun vs H Q X => ∃ (x : τ) (F : Hp) (D : Own) (a : Addr) (us : List V), vs = .ref a :: us ∧ pl x D ∧ HS ((a, OI K C []) :: D) H F ∧ AllP F (args x) us ∧ (iwishO K X Q a Ob D).W F (mf x)
section
variable {K : PySem.W.Frag} {ε ε' ρ α β γ δ S τ τ' σt ω κ : Type} {X : L2.St → XK} {De : ε → Own} {G G1 G2 : Sto} {D0 : Own} {Dd : S → Own} {s : S} {te ta tb tc tx tn tt ti : TE} {C : Addr}
theorem spIOR_len {args : τ → List Ty} {pl : τ → Own → Prop} {mf : τ → Res Unit γ} {Ob : γ → OTy} {k : Nat} (h : ∀ x, (args x).length = k) : ∀ vs H Q E, spIOR K C args pl mf Ob vs H Q E → vs.length = k + 1 := fun vs H Q E ⟨x, F, D, a, us, e, _, hs, ha, _⟩ => by
  rw [e, List.length_cons, ha.len, h x]
theorem pure_ofIOR {args : τ → List Ty} {pl : τ → Own → Prop} {mf : τ → Res Unit γ} {Ob : γ → OTy} {N : List PySem.Str} {tf : TS} {vs : List V} {H : Hp} {Q : VK} {X : XK}
    (walk : ∀ (x : τ) (F : Hp) (D : Own) (a : Addr) (E : Ends), pl x D → E.rt = Q → (∀ F1 r G D1, GoIO Q F1 a (Ob r) D → DLe D1 ((a, Ob r) :: D) → Go E.nx F1 G D1) → (iwishO K X Q a Ob D).W F (mf x) → Go (tf E) F (some (Is (.ref a)) :: ((args x).map some ++ List.replicate (N.length - 1 - (args x).length) none)) ((a, OI K C []) :: D))
    (h : spIOR K C args pl mf Ob vs H Q X) : tf { nx := fun _ H' => Q .non H', rt := Q } (L2.start N vs) H := by
  obtain ⟨x, F, D, a, us, e, hp0, hs, ha, hp⟩ := h
  subst e
  have z := SS.start (N := N) (AllP.cons (R := Is (.ref a)) rfl ha)
  rw [List.length_cons, ha.len] at z
  have e2 : ((Is (.ref a) :: args x).map some ++ List.replicate (N.length - ((args x).length + 1)) none) = some (Is (.ref a)) :: ((args x).map some ++ List.replicate (N.length - 1 - (args x).length) none) := by
    rw [List.map_cons, List.cons_append, Nat.sub_sub, Nat.add_comm 1]
  rw [e2] at z
  refine walk x F D a { nx := fun _ H' => Q .non H', rt := Q } hp0 rfl (fun F1 r G D1 g sb σ H' F' s hs' ss => ?_) hp _ H F (Same.refl _) hs z
  exact g H' F' s (sb H' F' hs')
theorem evnc_makeCh {τ0 τ1 : Type} {Ob : γ → OTy} {mf0 : τ0 → Res Unit γ} {mf1 : τ1 → Res Unit γ} {args0 : τ0 → List Ty} {args1 : τ1 → List Ty} {pl0 : τ0 → Own → Prop} {f0 : α → S → τ0} {f1 : α → List β → τ1} {Rn : α → Ty} {R : β → Ty} {sp : Sp} {a : Addr} {n : Nat}
    {Mn : (α → S → Res ε δ) → Res ε δ} {Mt : S → (List β → S → Res ε δ) → Res ε δ} {Mi : S → (Int → S → Res ε δ) → Res ε δ}
    (hsp0 : ∀ vs H Q X, spIOR K C args0 pl0 mf0 Ob vs H Q X → sp vs H Q X) (hsp1 : ∀ vs H Q X, spIO K C args1 mf1 Ob vs H Q X → sp vs H Q X) (gg : S → ε)
    (hn : EvC K X De tn G Dd s Mn Rn) (hg : G[n]? = some (some (Is (.ref a)))) (ht : ∀ s1, EvC K X De tt G Dd s1 (Mt s1) (VP K R)) (hi : ∀ s1, EvC K X De ti G Dd s1 (Mi s1) (tD K eI)) (hpl : ∀ x s, pl0 (f0 x s) (Dd s)) (hde : ∀ s, (De (gg s)).Sublist (Dd s))
    (hd0 : ∀ x s F v, (Rn x).p v F → AllP F (args0 (f0 x s)) [v, .ref a]) (hd1 : ∀ x ys F v w, (Rn x).p v F → (VP K R ys).p w F → AllP F (args1 (f1 x ys)) [v, w]) :
    EvNC K X De (tMakeSD C sp [] X (tCons tn (tCons (tOp (rIx K) (tLst (tCons (tVar n) (tCons tt tNil))) ti) tNil))) G Dd s
      (fun kk => Mn fun x s0 => Mt s0 fun ys s1 => Mi s1 fun z s2 => Res.bind (if decide (z = 0) = true then Res.mapE (fun _ => gg s2) (mf0 (f0 x s2)) else if decide (z = 1) = true then Res.mapE (fun _ => gg s2) (mf1 (f1 x ys)) else .stuck) fun r => kk r s2) Ob := fun kk σ H F hs ss o r Q hm q qe =>
  hn _ σ H F hs ss o r _ hm (fun x s0 vn H1 F1 t1 hs1 rn hm1 => by
    obtain ⟨va, ea, ra⟩ := (ss.mono t1).get hg
    obtain rfl : va = .ref a := ra
    refine ⟨_, ea, ht s0 _ σ H1 F1 hs1 (ss.mono t1) o r _ hm1 (fun ys s1 vt H2 F2 t2 hs2 rt hm2 => ⟨by show 2 ≤ sizeLine; decide, fun p hp => ?_⟩) fun n e hr H2 F2 t2 hs2 => qe n e hr H2 F2 (t1.trans t2) hs2⟩
    have s3 : Same F2 (upd F2 p (.lst [.ref a, vt])) := same_new (hs2.free hp)
    refine hi s1 _ σ _ _ (hs2.frz hp) (((ss.mono t1).mono t2).mono s3) o r _ hm2 (fun z s2 vz H4 F4 t4 hs4 rz hm4 => ?_) fun n e hr H4 F4 t4 hs4 => qe n e hr H4 F4 (((t1.trans t2).trans s3).trans t4) hs4
    obtain rfl : vz = .int z := dp_int rz
    have tall : Same F1 F4 := (t2.trans s3).trans t4
    have lst : SqL K H4 p [.ref a, vt] := SqL.of (hs4.sub _ _ (t4 _ _ upd_same))
    have rn4 : (Rn x).p vn F4 := (Rn x).mono tall rn
    have rt4 : (VP K R ys).p vt F4 := (VP K R ys).mono (s3.trans t4) rt
    by_cases c0 : z = 0
    · subst c0
      refine .inl ⟨p, _, 0, .ref a, rfl, rfl, lst, rfl, fun b dx nb nd ne => hsp0 _ _ _ _ ⟨f0 x s2, F4, Dd s2, b, _, rfl, hpl x s2, ?_, by rw [List.append_nil]; exact hd0 x s2 F4 vn rn4, ?_⟩⟩
      · have hs5 : HS (Dd s2) (upd H4 dx (.own b)) F4 := hs4.mark nd
        exact hs5.new (by rw [upd_ne (Ne.symm ne)]; exact nb) ⟨dx, [], rfl, rfl, .nil⟩
      · have hm5 : (Res.bind (Res.mapE (fun _ => gg s2) (mf0 (f0 x s2))) fun r => kk r s2).sat o r := hm4
        cases e : mf0 (f0 x s2) with
        | ok y =>
          rw [e] at hm5
          intro H' F' s' hs'
          exact ⟨rfl, q y s2 b H' F' ((t1.trans tall).trans s') hs' hm5⟩
        | err n u =>
          rw [e] at hm5
          exact fun H6 F6 t6 hs6 => qe n _ hm5 H6 F6 ((t1.trans tall).trans t6) (hs6.drop (hde s2))
        | stuck =>
          rw [e] at hm5
          exact hm5
    · by_cases c1 : z = 1
      · subst c1
        refine .inl ⟨p, _, 1, vt, rfl, rfl, lst, rfl, fun b dx nb nd ne => hsp1 _ _ _ _ ⟨f1 x ys, F4, Dd s2, b, _, rfl, ?_, by rw [List.append_nil]; exact hd1 x ys F4 vn vt rn4 rt4, ?_⟩⟩
        · have hs5 : HS (Dd s2) (upd H4 dx (.own b)) F4 := hs4.mark nd
          exact hs5.new (by rw [upd_ne (Ne.symm ne)]; exact nb) ⟨dx, [], rfl, rfl, .nil⟩
        · have hm5 : (Res.bind (Res.mapE (fun _ => gg s2) (mf1 (f1 x ys))) fun r => kk r s2).sat o r := hm4
          cases e : mf1 (f1 x ys) with
          | ok y =>
            rw [e] at hm5
            intro H' F' s' hs'
            exact ⟨rfl, q y s2 b H' F' ((t1.trans tall).trans s') hs' hm5⟩
          | err n u =>
            rw [e] at hm5
            exact fun H6 F6 t6 hs6 => qe n _ hm5 H6 F6 ((t1.trans tall).trans t6) (hs6.drop (hde s2))
          | stuck =>
            rw [e] at hm5
            exact hm5
      · exact absurd hm4 (by rw [decide_eq_false c0, decide_eq_false c1]; exact fun h => h)) qe
theorem evc_isNNM {b : Bool} {R : α → Ty} {M : (α → S → Res ε δ) → Res ε δ} (h : EvC K X De te G Dd s M R) (hn : ∀ y v F, (R y).p v F → decide (v = V.non) = b) : EvC K X De (tNotN te) G Dd s (fun kk => M fun _ s1 => kk (!b) s1) (tD K eB) := fun kk σ H F hs ss o r Q hm q qe =>
  h _ σ H F hs ss o r _ hm (fun y s1 v H1 F1 t1 hs1 r1 hm1 => by
    have e := hn y v F1 r1
    show Q (.bl (!(decide (v = V.non)))) H1
    rw [e]
    exact q (!b) s1 _ H1 F1 t1 hs1 (.bl _) hm1) qe
end
end TL
end
section
set_option Elab.async false
set_option linter.all false
set_option maxRecDepth 100000
set_option maxHeartbeats 4000000
open TL PySem L2
def sx_2ac8088b : Tx := ⟨"abcdefghijklmnopqrstuvwxyz0123456789.", by decide +kernel⟩
def sx_da39a3ee : Tx := ⟨"", by decide +kernel⟩
noncomputable def l_well_k1 (vk : Int) (s2 : Int) : Res Unit ((List Int)) :=
  Res.bind (Res.grd (CMulW (17 : Int) vk) ((17 : Int) * vk)) fun z4 => .ok [(if decide ((1000000000000000000 : Int) ≤ (if s2 < 0 then -s2 else s2)) = true then (1 : Int) else 0), s2, z4]
noncomputable def l_well (vscript : (List Int)) (vk : Int) : Res Unit ((List Int)) :=
  Res.bind (.ok (0 : Int)) fun x1 => if decide (vk < (List.length vscript : Int)) = true then Res.bind (Res.opt (atI vscript vk)) fun z6 => Res.bind (.ok z6) fun x5 => (l_well_k1 vk) x5 else (l_well_k1 vk) x1
noncomputable def l_take (vwell_here : (List Int)) (vmany : Int) : Res (List Int) (Int × (List Int)) :=
  Res.bind (Res.opt (atI vwell_here (0 : Int))) fun z22 => if decide (z22 = (1 : Int)) = true then Res.bind (Res.opt (atI vwell_here (1 : Int))) fun z6 => Res.bind (Res.grd (vmany ≠ 0) (Int.fmod z6 vmany)) fun z7 => Res.bind (.ok z7) fun x1 => Res.bind (Res.opt (atI vwell_here (1 : Int))) fun z4 => Res.bind (Res.grd (CDivA z4 vmany) (Int.fdiv z4 vmany)) fun z5 => Res.bind (Res.opt (ixN (List.length vwell_here) (1 : Int))) fun j3 => Res.bind (.ok (List.set vwell_here j3 z5, ())) fun x2 => .ok (x1, x2.1) else Res.bind (Res.opt (atI vwell_here (2 : Int))) fun z21 => Res.bind (.ok (z21 + (1 : Int))) fun x8 => Res.bind (Res.opt (ixN (List.length vwell_here) (2 : Int))) fun j10 => Res.bind (.ok (List.set vwell_here j10 x8, ())) fun x9 => Res.bind (Res.opt (atI x9.1 (1 : Int))) fun z16 => Res.bind (Res.grd (CMulW (7919 : Int) x8) ((7919 : Int) * x8)) fun z17 => Res.bind (Res.grd (CMulW z17 x8) (z17 * x8)) fun z18 => Res.bind (Res.grd (CMulW ((z16 + z18) + x8) (48271 : Int)) (((z16 + z18) + x8) * (48271 : Int))) fun z19 => Res.bind (Res.grd ((2305843009213693951 : Int) ≠ 0) (Int.fmod z19 (2305843009213693951 : Int))) fun z20 => Res.bind (.ok z20) fun x11 => Res.bind (Res.grd (CMulW x11 (1442695040888963407 : Int)) (x11 * (1442695040888963407 : Int))) fun z12 => Res.bind (Res.grd ((2305843009213693921 : Int) ≠ 0) (Int.fmod (z12 + (4321 : Int)) (2305843009213693921 : Int))) fun z13 => Res.bind (Res.grd (CDivA z13 (64 : Int)) (Int.fdiv z13 (64 : Int))) fun z14 => Res.bind (Res.grd (vmany ≠ 0) (Int.fmod z14 vmany)) fun z15 => .ok (z15, x9.1)
noncomputable def l_common_k1  (s1 : (Int × Int)) : Res Unit (Int) :=
  .ok (if s1.1 < 0 then -s1.1 else s1.1)
noncomputable def l_common_b2  (s1 : (Int × Int)) (n2 : (Int × Int) → Res Unit (Int)) : Res Unit (Int) :=
  Res.bind (Res.grd (s1.2 ≠ 0) (Int.fmod s1.1 s1.2)) fun z5 => Res.bind (.ok (s1.2, z5)) fun x4 => n2 (x4.1, x4.2)
noncomputable def l_common (vone : Int) (vother : Int) : Res Unit (Int) :=
  Res.wloop (fun s1 n2 => if (!decide (s1.2 = (0 : Int))) = true then l_common_b2 s1 n2 else l_common_k1 s1) Res.fuel (vone, vother)
noncomputable def m_is_whole (vthing : Int) : Res Unit (Bool) :=
  .ok (true && (!false))
noncomputable def m_common_k1  (s1 : (Int × Int)) : Res Unit (Int) :=
  .ok (if s1.1 < 0 then -s1.1 else s1.1)
noncomputable def m_common_b2  (s1 : (Int × Int)) (n2 : (Int × Int) → Res Unit (Int)) : Res Unit (Int) :=
  Res.bind (Res.grd (s1.2 ≠ 0) (Int.fmod s1.1 s1.2)) fun z5 => Res.bind (.ok (s1.2, z5)) fun x4 => n2 (x4.1, x4.2)
noncomputable def m_common (vone : Int) (vother : Int) : Res Unit (Int) :=
  Res.wloop (fun s1 n2 => if (!decide (s1.2 = (0 : Int))) = true then m_common_b2 s1 n2 else m_common_k1 s1) Res.fuel (vone, vother)
noncomputable def m_number_of_k1 (vtop : Int) (vbottom : Int) (s2 : Int) : Res Unit (Rat) :=
  Res.bind (Res.grd (CDivA vtop s2) (Int.fdiv vtop s2)) fun z5 => Res.bind (Res.grd (CDivA vbottom s2) (Int.fdiv vbottom s2)) fun z6 => Res.bind (Res.opt (mkQ z5 z6)) fun z4 => .ok z4
noncomputable def m_number_of (vtop : Int) (vbottom : Int) : Res Unit (Rat) :=
  Res.bind (m_is_whole vtop) fun z9 => Res.bind (if (!z9) = true then .ok (true, ()) else Res.bind (m_is_whole vbottom) fun z11 => .ok (((!z11) || decide (vbottom = (0 : Int))), ())) fun z10 => if z10.1 = true then .err "NoNumber" () else Res.bind (m_common vtop vbottom) fun z8 => Res.bind (.ok z8) fun x1 => if decide (vbottom < (0 : Int)) = true then Res.bind (.ok ((0 : Int) - x1)) fun x7 => (m_number_of_k1 vtop vbottom) x7 else (m_number_of_k1 vtop vbottom) x1
noncomputable def m_plus (va : Rat) (vb : Rat) : Res Unit (Rat) :=
  Res.bind (Res.grd (CMulW (Rat.num va) ((Rat.den vb : Nat) : Int)) ((Rat.num va) * ((Rat.den vb : Nat) : Int))) fun z2 => Res.bind (Res.grd (CMulW (Rat.num vb) ((Rat.den va : Nat) : Int)) ((Rat.num vb) * ((Rat.den va : Nat) : Int))) fun z3 => Res.bind (Res.grd (CMulW ((Rat.den va : Nat) : Int) ((Rat.den vb : Nat) : Int)) (((Rat.den va : Nat) : Int) * ((Rat.den vb : Nat) : Int))) fun z4 => Res.bind (m_number_of (z2 + z3) z4) fun z1 => .ok z1
noncomputable def m_sum_of_k1 (vnumber : Rat) (s3 : (List (Tx × Rat))) : Res Unit ((Rat × (List (Tx × Rat)))) :=
  Res.bind (Res.grd (List.length s3 < 64) (sortT (List.map Prod.fst s3))) fun z13 => Res.bind (Res.grd (z13.length ≤ 100000) z13) fun z11 => Res.bind (Res.calm (Res.lc (fun (x7 : Tx) (s8 : Unit) => Res.bind (Res.opt (dget s3 x7)) fun z9 => if (!decide (z9 = (0 : Rat))) = true then Res.bind (Res.opt (dget s3 x7)) fun z10 => .ok (some (x7, z10), s8) else .ok (none, s8)) z11 ())) fun z12 => .ok (vnumber, z12.1)
noncomputable def m_sum_of_b2  (x4 : (Tx × Rat)) (s3 : (List (Tx × Rat))) (n5 : (List (Tx × Rat)) → Res Unit ((Rat × (List (Tx × Rat))))) : Res Unit ((Rat × (List (Tx × Rat)))) :=
  Res.bind (m_plus ((dget s3 x4.1).getD (0 : Rat)) x4.2) fun z15 => Res.bind (Res.grd (List.length s3 < 100000) (dput s3 x4.1 z15, ())) fun x14 => n5 x14.1
noncomputable def m_sum_of (vnumber : Rat) (vpairs : (List (Tx × Rat))) : Res Unit ((Rat × (List (Tx × Rat)))) :=
  Res.bind (.ok []) fun x1 => Res.loop m_sum_of_b2 (m_sum_of_k1 vnumber) vpairs x1
noncomputable def m_sum_plus (va : (Rat × (List (Tx × Rat)))) (vb : (Rat × (List (Tx × Rat)))) : Res Unit ((Rat × (List (Tx × Rat)))) :=
  Res.bind (m_plus va.1 vb.1) fun z2 => Res.bind (Res.grd (List.length va.2 + List.length vb.2 ≤ 100000) (va.2 ++ vb.2)) fun z3 => Res.bind (m_sum_of z2 z3) fun z1 => .ok z1
end
section
set_option Elab.async false
set_option linter.all false
set_option maxRecDepth 100000
set_option maxHeartbeats 4000000
open TL PySem L2
def sx_32d10c7b : Tx := ⟨"abcdefghijklmnopqrstuvwxyz", by decide +kernel⟩
def sx_7bc55599 : Tx := ⟨"fixed", by decide +kernel⟩
def sx_95c4bea1 : Tx := ⟨"big", by decide +kernel⟩
def sx_89f6229a : Tx := ⟨"small", by decide +kernel⟩
noncomputable def l_num_k58 (vtop : Int) (vbottom : Int) : Res Unit (Rat) :=
  Res.bind (l_common vtop vbottom) fun z5 => Res.bind (.ok z5) fun x1 => Res.bind (Res.grd (CDivA vtop x1) (Int.fdiv vtop x1)) fun z3 => Res.bind (Res.grd (CDivA vbottom x1) (Int.fdiv vbottom x1)) fun z4 => Res.bind (Res.opt (mkQ z3 z4)) fun z2 => .ok z2
noncomputable def m_is_name (vtext : Tx) : Res Unit (Bool) :=
  Res.bind (Res.grd (Tx.len vtext ≤ 100000) (Tx.len vtext : Int)) fun z5 => Res.bind (if (decide ((1 : Int) ≤ z5) && decide (z5 ≤ (30 : Int))) = true then Res.bind (Res.grd ((Tx.signs vtext).length ≤ 100000) (Tx.signs vtext)) fun z3 => Res.bind (Res.calm (Res.lc (fun (x1 : Tx) (s2 : Unit) => .ok (some (Tx.has sx_2ac8088b x1), s2)) z3 ())) fun z4 => .ok ((List.all z4.1 id), z4.2) else .ok (false, ())) fun z6 => .ok z6.1
noncomputable def m_is_less (va : Rat) (vb : Rat) : Res Unit (Bool) :=
  Res.bind (Res.grd (CMulW (Rat.num va) ((Rat.den vb : Nat) : Int)) ((Rat.num va) * ((Rat.den vb : Nat) : Int))) fun z1 => Res.bind (Res.grd (CMulW (Rat.num vb) ((Rat.den va : Nat) : Int)) ((Rat.num vb) * ((Rat.den va : Nat) : Int))) fun z2 => .ok (decide (z1 < z2))
end
section
set_option Elab.async false
set_option linter.all false
set_option maxRecDepth 100000
set_option maxHeartbeats 4000000
open TL PySem L2
noncomputable def m_Size_names_k07 (vself : (Tx × Rat × Rat × (List (Tx × Rat × Tx)))) : Res Unit ((List Tx)) :=
  Res.bind (Res.grd (vself.2.2.2.length ≤ 100000) vself.2.2.2) fun z3 => Res.bind (Res.calm (Res.lc (fun (x1 : (Tx × Rat × Tx)) (s2 : Unit) => .ok (some x1.1, s2)) z3 ())) fun z4 => Res.bind (Res.grd (([vself.1]).length + (z4.1).length ≤ 100000) ([vself.1] ++ z4.1)) fun z5 => .ok z5
noncomputable def m_Size___init___k07_k1 (vname : Tx) (vleast : Rat) (vmost : Rat) (vshifts : (List (Tx × Rat × Tx))) (s1 : Unit) : Res Unit ((Tx × Rat × Rat × (List (Tx × Rat × Tx)))) :=
  Res.bind (.ok (vname, ())) fun x5 => Res.bind (.ok (vleast, ())) fun x6 => Res.bind (.ok (vmost, ())) fun x7 => Res.bind (.ok (vshifts, ())) fun x8 => Res.bind (Res.mapE (fun _ => ()) (m_Size_names_k07 (x5.1, x6.1, x7.1, x8.1))) fun z10 => Res.bind (Res.grd (List.length z10 + 1 < 4096) (nset z10)) fun z9 => Res.bind (Res.mapE (fun _ => ()) (m_Size_names_k07 (x5.1, x6.1, x7.1, x8.1))) fun z11 => if decide (z9 < (List.length z11 : Int)) = true then .err "NoSize" () else .ok (x5.1, x6.1, x7.1, x8.1)
noncomputable def m_Size___init___k07_b2  (x2 : (Tx × Rat × Tx)) (s1 : Unit) (n3 : Unit → Res Unit ((Tx × Rat × Rat × (List (Tx × Rat × Tx))))) : Res Unit ((Tx × Rat × Rat × (List (Tx × Rat × Tx)))) :=
  Res.bind (m_is_name x2.1) fun z12 => Res.bind (if (!z12) = true then .ok (true, ()) else Res.bind (m_is_less x2.2.1 (0 : Rat)) fun z14 => .ok ((z14 || (!decide (x2.2.2 ∈ [sx_7bc55599, sx_95c4bea1, sx_89f6229a]))), ())) fun z13 => if z13.1 = true then .err "NoSize" () else n3 ()
noncomputable def m_Size___init___k07 (vname : Tx) (vleast : Rat) (vmost : Rat) (vshifts : (List (Tx × Rat × Tx))) : Res Unit ((Tx × Rat × Rat × (List (Tx × Rat × Tx)))) :=
  Res.bind (m_is_name vname) fun z15 => Res.bind (if (!z15) = true then .ok (true, ()) else Res.bind (m_is_less vmost vleast) fun z17 => .ok (z17, ())) fun z16 => if z16.1 = true then .err "NoSize" () else Res.loop m_Size___init___k07_b2 (m_Size___init___k07_k1 vname vleast vmost vshifts) vshifts ()
end
section
set_option Elab.async false
set_option linter.all false
set_option maxRecDepth 100000
set_option maxHeartbeats 4000000
open TL PySem L2
noncomputable def m_Stock_names_k1  (s3 : (List Tx)) : Res Unit ((List Tx)) :=
  .ok s3
noncomputable def m_Stock_names_b2  (x4 : (Tx × Rat × Rat × (List (Tx × Rat × Tx)))) (s3 : (List Tx)) (n5 : (List Tx) → Res Unit ((List Tx))) : Res Unit ((List Tx)) :=
  Res.bind (Res.mapE (fun _ => ()) (m_Size_names_k07 x4)) fun z8 => Res.bind (Res.grd (List.length s3 + List.length z8 ≤ 100000) (s3 ++ z8, ())) fun x7 => n5 x7.1
noncomputable def m_Stock_names (vself : (List (Tx × Rat × Rat × (List (Tx × Rat × Tx))))) : Res Unit ((List Tx)) :=
  Res.bind (.ok []) fun x1 => Res.loop m_Stock_names_b2 m_Stock_names_k1 vself x1
noncomputable def m_Stock___init__ (vsizes : (List (Tx × Rat × Rat × (List (Tx × Rat × Tx))))) : Res Unit ((List (Tx × Rat × Rat × (List (Tx × Rat × Tx))))) :=
  Res.bind (.ok (vsizes, ())) fun x1 => Res.bind (Res.mapE (fun _ => ()) (m_Stock_names x1.1)) fun z4 => Res.bind (.ok z4) fun x2 => Res.bind (Res.grd (List.length x2 + 1 < 4096) (nset x2)) fun z3 => if decide (z3 < (List.length x2 : Int)) = true then .err "NoSize" () else .ok x1.1
end
section
set_option Elab.async false
set_option linter.all false
set_option maxRecDepth 100000
set_option synthInstance.maxSize 4000
set_option maxHeartbeats 4000000
open TL PySem L2
end
section
set_option Elab.async false
set_option linter.all false
set_option maxRecDepth 100000
set_option synthInstance.maxSize 4000
set_option maxHeartbeats 4000000
open TL PySem L2
noncomputable def m_Stock_sizes (vself : (List (Tx × Rat × Rat × (List (Tx × Rat × Tx))))) : Res Unit ((List (Tx × Rat × Rat × (List (Tx × Rat × Tx))))) :=
  .ok vself
end
section
set_option Elab.async false
set_option linter.all false
set_option maxRecDepth 100000
set_option maxHeartbeats 4000000
open TL PySem L2
end
section
set_option Elab.async false
set_option linter.all false
set_option maxRecDepth 100000
set_option synthInstance.maxSize 4000
set_option maxHeartbeats 4000000
open TL PySem L2
def sx_89368e1d : Tx := ⟨"size", by decide +kernel⟩
end
section
set_option Elab.async false
set_option linter.all false
set_option maxRecDepth 100000
set_option synthInstance.maxSize 4000
set_option maxHeartbeats 4000000
open TL PySem L2
def sx_39d88b57 : Tx := ⟨"frame", by decide +kernel⟩
def sx_5f845998 : Tx := ⟨"xy", by decide +kernel⟩
def sx_11f6ad8e : Tx := ⟨"x", by decide +kernel⟩
def sx_95cb0bfd : Tx := ⟨"y", by decide +kernel⟩
noncomputable def l_number_k16 (vwell_here : (List Int)) : Res (List Int) (Rat × (List Int)) :=
  Res.bind (l_take vwell_here (8 : Int)) fun z11 => Res.bind (.ok (z11.1, z11.2)) fun x1 => if decide (x1.1 = (7 : Int)) = true then Res.bind (Res.grd (CMulW (2 : Int) (1000000000 : Int)) ((2 : Int) * (1000000000 : Int))) fun z4 => Res.bind (l_take x1.2 (z4 + (1 : Int))) fun z3 => Res.bind (l_take z3.2 (100000000 : Int)) fun z5 => Res.bind (Res.mapE (fun _ => z5.2) (l_num_k58 (z3.1 - (1000000000 : Int)) ((1 : Int) + z5.1))) fun z2 => .ok (z2, z5.2) else if decide ((4 : Int) < x1.1) = true then Res.bind (l_take x1.2 (201 : Int)) fun z7 => Res.bind (l_take z7.2 (6 : Int)) fun z8 => Res.bind (Res.mapE (fun _ => z8.2) (l_num_k58 (z7.1 - (100 : Int)) ((1 : Int) + z8.1))) fun z6 => .ok (z6, z8.2) else Res.bind (l_take x1.2 (9 : Int)) fun z10 => Res.bind (Res.opt (mkQ (z10.1 - (4 : Int)) (1 : Int))) fun z9 => .ok (z9, z10.2)
noncomputable def l_add_k16 (vone : Rat) (vother : Rat) : Res Unit (Rat) :=
  Res.bind (Res.grd (CMulW (Rat.num vone) ((Rat.den vother : Nat) : Int)) ((Rat.num vone) * ((Rat.den vother : Nat) : Int))) fun z2 => Res.bind (Res.grd (CMulW (Rat.num vother) ((Rat.den vone : Nat) : Int)) ((Rat.num vother) * ((Rat.den vone : Nat) : Int))) fun z3 => Res.bind (Res.grd (CMulW ((Rat.den vone : Nat) : Int) ((Rat.den vother : Nat) : Int)) (((Rat.den vone : Nat) : Int) * ((Rat.den vother : Nat) : Int))) fun z4 => Res.bind (l_num_k58 (z2 + z3) z4) fun z1 => .ok z1
noncomputable def l_sum_k16_k1  (s3 : ((List (Tx × Rat)) × (List Int))) : Res (List Int) ((Rat × (List (Tx × Rat))) × (List Int)) :=
  Res.bind (l_number_k16 s3.2) fun z7 => .ok ((z7.1, s3.1), z7.2)
noncomputable def l_sum_k16_k2 (n5 : ((List (Tx × Rat)) × (List Int)) → Res (List Int) ((Rat × (List (Tx × Rat))) × (List Int))) (s10 : (Rat × (List Int))) (s12 : (List (Tx × Rat))) : Res (List Int) ((Rat × (List (Tx × Rat))) × (List Int)) :=
  n5 (s12, s10.2)
noncomputable def l_sum_k16_k3 (s3 : ((List (Tx × Rat)) × (List Int))) (x4 : Tx) (n5 : ((List (Tx × Rat)) × (List Int)) → Res (List Int) ((Rat × (List (Tx × Rat))) × (List Int))) (s10 : (Rat × (List Int))) : Res (List Int) ((Rat × (List (Tx × Rat))) × (List Int)) :=
  if (!decide ((Rat.num s10.1) = (0 : Int))) = true then Res.bind (Res.grd (List.length s3.1 < 100000) (s3.1 ++ [(x4, s10.1)], ())) fun x14 => (l_sum_k16_k2 n5 s10) x14.1 else (l_sum_k16_k2 n5 s10) s3.1
noncomputable def l_sum_k16_b4  (x4 : Tx) (s3 : ((List (Tx × Rat)) × (List Int))) (n5 : ((List (Tx × Rat)) × (List Int)) → Res (List Int) ((Rat × (List (Tx × Rat))) × (List Int))) : Res (List Int) ((Rat × (List (Tx × Rat))) × (List Int)) :=
  Res.bind (l_take s3.2 (6 : Int)) fun z19 => Res.bind (.ok (z19.1, z19.2)) fun x8 => Res.bind (Res.opt (mkQ (-(1 : Int)) (1 : Int))) fun z18 => Res.bind (Res.opt (atI [(0 : Rat), (0 : Rat), (1 : Rat), z18, (2 : Rat), (0 : Rat)] x8.1)) fun z17 => Res.bind (.ok z17) fun x9 => if decide (x8.1 = (5 : Int)) = true then Res.bind (l_number_k16 x8.2) fun z16 => Res.bind (.ok (z16.1, z16.2)) fun x15 => (l_sum_k16_k3 s3 x4 n5) (x15.1, x15.2) else (l_sum_k16_k3 s3 x4 n5) (x9, x8.2)
noncomputable def l_sum_k16 (vwell_here : (List Int)) (vnames : (List Tx)) : Res (List Int) ((Rat × (List (Tx × Rat))) × (List Int)) :=
  Res.bind (.ok []) fun x1 => Res.bind (Res.grd (List.length vnames < 64) (sortT vnames)) fun z20 => Res.loop l_sum_k16_b4 l_sum_k16_k1 z20 (x1, vwell_here)
noncomputable def m_is_name_parts (vthing : Tx) : Res Unit (Bool) :=
  Res.bind (if (!true) = true then .ok (true, ()) else Res.bind (Res.grd (Tx.len vthing ≤ 100000) (Tx.len vthing : Int)) fun z6 => .ok ((!(decide ((1 : Int) ≤ z6) && decide (z6 ≤ (8 : Int)))), ())) fun z5 => if z5.1 = true then .ok false else Res.bind (Res.grd ((Tx.signs vthing).length ≤ 100000) (Tx.signs vthing)) fun z3 => Res.bind (Res.calm (Res.lc (fun (x1 : Tx) (s2 : Unit) => .ok (some (Tx.has sx_32d10c7b x1), s2)) z3 ())) fun z4 => .ok (List.all z4.1 id)
noncomputable def m_Part___init__ (vname : Tx) (vsizes : (List (Tx × Rat × Rat × (List (Tx × Rat × Tx))))) : Res Unit ((Tx × (List (Tx × Rat × Rat × (List (Tx × Rat × Tx)))) × (List (Tx × (Tx × (Rat × (List (Tx × Rat)))))))) :=
  Res.bind (m_is_name_parts vname) fun z12 => if (!z12) = true then .err "NoPart" () else Res.bind (.ok (vname, ())) fun x1 => Res.bind (Res.mapE (fun _ => ()) (m_Stock___init__ vsizes)) fun z11 => Res.bind (.ok (z11, ())) fun x2 => Res.bind (Res.mapE (fun _ => ()) (m_Stock_names x2.1)) fun z10 => Res.bind (Res.grd (z10.length ≤ 100000) z10) fun z6 => Res.bind (Res.calm (Res.lc (fun (x3 : Tx) (s4 : Unit) => Res.bind (m_is_name_parts x3) fun z5 => .ok (some z5, s4)) z6 ())) fun z7 => if (!(List.all z7.1 id)) = true then .err "NoSize" () else Res.bind (.ok ([], ())) fun x8 => .ok (x1.1, x2.1, x8.1)
noncomputable def m_has_names (vstock : (List (Tx × Rat × Rat × (List (Tx × Rat × Tx))))) (vadd : (Rat × (List (Tx × Rat)))) : Res Unit (Bool) :=
  Res.bind (Res.mapE (fun _ => ()) (m_Stock_names vstock)) fun z6 => Res.bind (.ok z6) fun x1 => Res.bind (Res.grd (vadd.2.length ≤ 100000) vadd.2) fun z4 => Res.bind (Res.calm (Res.lc (fun (x2 : (Tx × Rat)) (s3 : Unit) => .ok (some (decide (x2.1 ∈ x1)), s3)) z4 ())) fun z5 => .ok (List.all z5.1 id)
noncomputable def m_Part_check_added (vself : (Tx × (List (Tx × Rat × Rat × (List (Tx × Rat × Tx)))))) (vself_placed : (List (Tx × (Tx × (Rat × (List (Tx × Rat))))))) (vaxis : Tx) (vadd : (Rat × (List (Tx × Rat)))) : Res Unit (Unit) :=
  if (!decide (vaxis ∈ [sx_11f6ad8e, sx_95cb0bfd])) = true then .err "NoFace" () else Res.bind (m_has_names vself.2 vadd) fun z1 => if (!z1) = true then .err "NoFace" () else .ok ()
noncomputable def m_Part_put_face_k1 (vself_placed : (List (Tx × (Tx × (Rat × (List (Tx × Rat))))))) (vname : Tx) (vaxis : Tx) (s3 : (Rat × (List (Tx × Rat)))) : Res (List (Tx × (Tx × (Rat × (List (Tx × Rat)))))) (Unit × (List (Tx × (Tx × (Rat × (List (Tx × Rat))))))) :=
  Res.bind (Res.grd (List.length vself_placed < 100000) (dput vself_placed vname (vaxis, s3), ())) fun x5 => .ok ((), x5.1)
noncomputable def m_Part_put_face (vself : (Tx × (List (Tx × Rat × Rat × (List (Tx × Rat × Tx)))))) (vself_placed : (List (Tx × (Tx × (Rat × (List (Tx × Rat))))))) (vname : Tx) (vaxis : Tx) (vstart : (Option Tx)) (vadd : (Rat × (List (Tx × Rat)))) : Res (List (Tx × (Tx × (Rat × (List (Tx × Rat)))))) (Unit × (List (Tx × (Tx × (Rat × (List (Tx × Rat))))))) :=
  Res.bind (Res.mapE (fun _ => vself_placed) (m_is_name_parts vname)) fun z15 => if ((!z15) || (decide (vname = sx_39d88b57) || (dget vself_placed vname).isSome)) = true then .err "NoFace" vself_placed else Res.bind (Res.mapE (fun _ => vself_placed) (m_Part_check_added vself vself_placed vaxis vadd)) fun z14 => Res.bind (.ok z14) fun x1 => Res.bind (.ok vadd) fun x2 => if (Option.isSome vstart) = true then Res.bind (Res.opt vstart) fun z10 => Res.bind (if (!(dget vself_placed z10).isSome) = true then .ok (true, ()) else Res.bind (Res.opt vstart) fun z13 => Res.bind (Res.opt (dget vself_placed z13)) fun z12 => .ok ((!decide (z12.1 = vaxis)), ())) fun z11 => if z11.1 = true then .err "NoFace" vself_placed else Res.bind (Res.opt vstart) fun z9 => Res.bind (Res.opt (dget vself_placed z9)) fun z8 => Res.bind (Res.mapE (fun _ => vself_placed) (m_sum_plus z8.2 vadd)) fun z7 => Res.bind (.ok z7) fun x6 => (m_Part_put_face_k1 vself_placed vname vaxis) x6 else (m_Part_put_face_k1 vself_placed vname vaxis) x2
noncomputable def l_plus_k1 (vone : (Rat × (List (Tx × Rat)))) (vother : (Rat × (List (Tx × Rat)))) (vsign : Int) (s3 : (List (Tx × Rat))) : Res Unit ((Rat × (List (Tx × Rat)))) :=
  Res.bind (Res.grd (List.length s3 < 64) (sortT (List.map Prod.fst s3))) fun z17 => Res.bind (Res.grd (z17.length ≤ 100000) z17) fun z12 => Res.bind (Res.calm (Res.lc (fun (x8 : Tx) (s9 : Unit) => Res.bind (Res.opt (dget s3 x8)) fun z10 => if (!decide ((Rat.num z10) = (0 : Int))) = true then Res.bind (Res.opt (dget s3 x8)) fun z11 => .ok (some (x8, z11), s9) else .ok (none, s9)) z12 ())) fun z13 => Res.bind (.ok z13.1) fun x7 => Res.bind (Res.grd (CMulW vsign (Rat.num vother.1)) (vsign * (Rat.num vother.1))) fun z16 => Res.bind (Res.opt (mkQ z16 ((Rat.den vother.1 : Nat) : Int))) fun z15 => Res.bind (l_add_k16 vone.1 z15) fun z14 => .ok (z14, x7)
noncomputable def l_plus_b2 (vsign : Int) (x4 : (Tx × Rat)) (s3 : (List (Tx × Rat))) (n5 : (List (Tx × Rat)) → Res Unit ((Rat × (List (Tx × Rat))))) : Res Unit ((Rat × (List (Tx × Rat)))) :=
  Res.bind (Res.grd (CMulW vsign (Rat.num x4.2)) (vsign * (Rat.num x4.2))) fun z21 => Res.bind (Res.opt (mkQ z21 ((Rat.den x4.2 : Nat) : Int))) fun z20 => Res.bind (l_add_k16 ((dget s3 x4.1).getD (0 : Rat)) z20) fun z19 => Res.bind (Res.grd (List.length s3 < 100000) (dput s3 x4.1 z19, ())) fun x18 => n5 x18.1
noncomputable def l_plus (vone : (Rat × (List (Tx × Rat)))) (vother : (Rat × (List (Tx × Rat)))) (vsign : Int) : Res Unit ((Rat × (List (Tx × Rat)))) :=
  Res.bind (.ok (dof vone.2)) fun x1 => Res.loop (l_plus_b2 vsign) (l_plus_k1 vone vother vsign) vother.2 x1
noncomputable def l_placed_k1  (s5 : ((List (Tx × Tx × (Rat × (List (Tx × Rat))))) × (List (Tx × (Rat × (List (Tx × Rat))))))) : Res Unit ((List (Tx × Tx × (Rat × (List (Tx × Rat)))))) :=
  .ok s5.1
noncomputable def l_placed_k2 (s5 : ((List (Tx × Tx × (Rat × (List (Tx × Rat))))) × (List (Tx × (Rat × (List (Tx × Rat))))))) (x6 : (Tx × Tx × (Option Tx) × (Rat × (List (Tx × Rat))))) (n7 : ((List (Tx × Tx × (Rat × (List (Tx × Rat))))) × (List (Tx × (Rat × (List (Tx × Rat)))))) → Res Unit ((List (Tx × Tx × (Rat × (List (Tx × Rat))))))) (s10 : (Rat × (List (Tx × Rat)))) : Res Unit ((List (Tx × Tx × (Rat × (List (Tx × Rat)))))) :=
  Res.bind (Res.grd (List.length s5.2 < 100000) (dput s5.2 x6.1 s10, ())) fun x12 => Res.bind (Res.grd (List.length s5.1 < 100000) (s5.1 ++ [(x6.1, x6.2.1, s10)], ())) fun x13 => n7 (x13.1, x12.1)
noncomputable def l_placed_b3  (x6 : (Tx × Tx × (Option Tx) × (Rat × (List (Tx × Rat))))) (s5 : ((List (Tx × Tx × (Rat × (List (Tx × Rat))))) × (List (Tx × (Rat × (List (Tx × Rat))))))) (n7 : ((List (Tx × Tx × (Rat × (List (Tx × Rat))))) × (List (Tx × (Rat × (List (Tx × Rat)))))) → Res Unit ((List (Tx × Tx × (Rat × (List (Tx × Rat))))))) : Res Unit ((List (Tx × Tx × (Rat × (List (Tx × Rat)))))) :=
  Res.bind (.ok x6.2.2.2) fun x9 => if (Option.isSome x6.2.2.1) = true then Res.bind (Res.opt x6.2.2.1) fun z17 => Res.bind (Res.opt (dget s5.2 z17)) fun z16 => Res.bind (l_plus z16 x6.2.2.2 (1 : Int)) fun z15 => Res.bind (.ok z15) fun x14 => (l_placed_k2 s5 x6 n7) x14 else (l_placed_k2 s5 x6 n7) x9
noncomputable def l_placed (vfaces_here : (List (Tx × Tx × (Option Tx) × (Rat × (List (Tx × Rat)))))) : Res Unit ((List (Tx × Tx × (Rat × (List (Tx × Rat)))))) :=
  Res.bind (.ok []) fun x1 => Res.bind (.ok []) fun x3 => Res.loop l_placed_b3 l_placed_k1 vfaces_here (x3, x1)
noncomputable def m_Part_faces (vself : (Tx × (List (Tx × Rat × Rat × (List (Tx × Rat × Tx)))))) (vself_placed : (List (Tx × (Tx × (Rat × (List (Tx × Rat))))))) : Res Unit ((List (Tx × Tx × (Rat × (List (Tx × Rat)))))) :=
  Res.bind (Res.grd ((List.map Prod.fst vself_placed).length ≤ 100000) (List.map Prod.fst vself_placed)) fun z5 => Res.bind (Res.calm (Res.lc (fun (x1 : Tx) (s2 : Unit) => Res.bind (Res.opt (dget vself_placed x1)) fun z3 => Res.bind (Res.opt (dget vself_placed x1)) fun z4 => .ok (some (x1, z3.1, z4.2), s2)) z5 ())) fun z6 => .ok z6.1
noncomputable def m_Part_stock (vself : (Tx × (List (Tx × Rat × Rat × (List (Tx × Rat × Tx)))))) (vself_placed : (List (Tx × (Tx × (Rat × (List (Tx × Rat))))))) : Res Unit ((List (Tx × Rat × Rat × (List (Tx × Rat × Tx))))) :=
  .ok vself.2
noncomputable def l_fields_k16 (vstock : (List (Tx × Rat × Rat × (List (Tx × Rat × Tx))))) : Res Unit ((List (Tx × Rat × Rat × (List (Tx × Rat × Tx))))) :=
  Res.bind (Res.mapE (fun _ => ()) (m_Stock_sizes vstock)) fun z5 => Res.bind (Res.grd (z5.length ≤ 100000) z5) fun z3 => Res.bind (Res.calm (Res.lc (fun (x1 : (Tx × Rat × Rat × (List (Tx × Rat × Tx)))) (s2 : Unit) => .ok (some (x1.1, x1.2.1, x1.2.2.1, x1.2.2.2), s2)) z3 ())) fun z4 => .ok z4.1
noncomputable def l_plain_st (rec : PyData → Res Unit (Bool)) (vthing : PyData) : Res Unit (Bool) :=
  if (isP "tuple" vthing) = true then Res.bind (Res.opt (tupP vthing)) fun z1 => Res.bind (Res.grd (z1.length ≤ 100000) z1) fun z5 => Res.bind (Res.calm (Res.lc (fun (x2 : PyData) (s3 : Unit) => Res.bind (rec x2) fun z4 => .ok (some z4, s3)) z5 ())) fun z6 => .ok (List.all z6.1 id) else .ok ((isP "str" vthing) || ((isP "int" vthing) && (!(isP "bool" vthing))))
noncomputable def l_plain_r : Nat → PyData → Res Unit (Bool)
  | 0 => fun _ => .stuck
  | m + 1 => l_plain_st (l_plain_r m)
noncomputable def l_plain (vthing : PyData) : Res Unit (Bool) :=
  l_plain_r 24 vthing
noncomputable def l_is_list (vfound : (List (Tx × Tx × (Rat × (List (Tx × Rat)))))) (vdue : (List (Tx × Tx × (Rat × (List (Tx × Rat)))))) : Res Unit (Bool) :=
  Res.bind (if true = true then Res.bind (if decide (vfound = vdue) = true then Res.bind (Res.grd (vfound.length ≤ 100000) vfound) fun z4 => Res.bind (Res.calm (Res.lc (fun (x1 : (Tx × Tx × (Rat × (List (Tx × Rat))))) (s2 : Unit) => Res.bind (l_plain ((e3 eS eS (e2 eQ (eV (e2 eS eQ)))) x1)) fun z3 => .ok (some z3, s2)) z4 ())) fun z5 => .ok ((List.all z5.1 id), z5.2) else .ok (false, ())) fun z7 => .ok (z7.1, z7.2) else .ok (false, ())) fun z6 => .ok z6.1
end
section
set_option Elab.async false
set_option linter.all false
set_option maxRecDepth 100000
set_option synthInstance.maxSize 4000
set_option maxHeartbeats 4000000
open TL PySem L2
def sx_267b6efe : Tx := ⟨"lies", by decide +kernel⟩
end
section
set_option Elab.async false
set_option linter.all false
set_option maxRecDepth 100000
set_option synthInstance.maxSize 4000
set_option maxHeartbeats 4000000
open TL PySem L2
def sx_3fc88b83 : Tx := ⟨"part", by decide +kernel⟩
noncomputable def l_word_k14_k1 (x6 : (Tx × (List Int))) (s14 : Tx) : Res (List Int) (Tx × (List Int)) :=
  .ok (s14, x6.2)
noncomputable def l_word_k14_b2 (x1 : Tx) (s14 : Tx) (n15 : Tx → Res (List Int) (Tx × (List Int))) : Res (List Int) (Tx × (List Int)) :=
  Res.bind (Res.grd (Tx.len s14 ≤ 100000) (Tx.cut s14 none (some (-(1 : Int))))) fun z18 => Res.bind (Res.opt (Tx.at s14 (-(1 : Int)))) fun z21 => Res.bind (Res.opt (Tx.index? x1 z21)) fun z20 => Res.bind (Res.grd ((26 : Int) ≠ 0) (Int.fmod (z20 + (1 : Int)) (26 : Int))) fun z22 => Res.bind (Res.opt (Tx.at x1 z22)) fun z19 => Res.bind (Res.grd (Tx.len z18 + Tx.len z19 ≤ 100000) (z18 ++ z19)) fun z23 => Res.bind (.ok z23) fun x17 => n15 x17
noncomputable def l_word_k14_k3 (vtaken : (List Tx)) (x1 : Tx) (s4 : (List Int)) : Res (List Int) (Tx × (List Int)) :=
  Res.bind (l_take s4 (8 : Int)) fun z25 => Res.bind (Res.grd (-(2 ^ 62) ≤ ((1 : Int) + z25.1) ∧ ((1 : Int) + z25.1) < 2 ^ 62) (rangeL 0 (Int.toNat ((1 : Int) + z25.1)))) fun z7 => Res.bind (Res.grd (z7.length ≤ 100000) z7) fun z12 => Res.bind (Res.calm (Res.lc (fun (x8 : Int) (s9 : (List Int)) => Res.bind (Res.mapE (fun _ : (List Int) => ()) (l_take s9 (26 : Int))) fun z11 => Res.bind (Res.opt (Tx.at x1 z11.1)) fun z10 => .ok (some z10, z11.2)) z12 z25.2)) fun z13 => Res.bind (Res.grd (joinC sx_da39a3ee z13.1) (Tx.join sx_da39a3ee z13.1)) fun z24 => Res.bind (.ok (z24, z13.2)) fun x6 => Res.wloop (fun s14 n15 => if decide (s14 ∈ vtaken) = true then (l_word_k14_b2 x1) s14 n15 else (l_word_k14_k1 x6) s14) Res.fuel x6.1
noncomputable def l_word_k14 (vwell_here : (List Int)) (vtaken : (List Tx)) : Res (List Int) (Tx × (List Int)) :=
  Res.bind (.ok sx_32d10c7b) fun x1 => Res.bind (.ok [sx_39d88b57, sx_267b6efe, sx_3fc88b83, sx_95c4bea1, sx_89368e1d, sx_11f6ad8e, sx_7bc55599, sx_39d88b57]) fun x2 => Res.bind (l_take vwell_here (6 : Int)) fun z29 => Res.bind (.ok z29.2) fun s3 => if decide (z29.1 = (1 : Int)) = true then Res.bind (l_take s3 (8 : Int)) fun z28 => Res.bind (Res.opt (atI x2 z28.1)) fun z27 => Res.bind (.ok (z27, z28.2)) fun x26 => if (!decide (x26.1 ∈ vtaken)) = true then .ok (x26.1, x26.2) else (l_word_k14_k3 vtaken x1) x26.2 else (l_word_k14_k3 vtaken x1) s3
noncomputable def l_sizes_k14_k1  (s6 : ((List (Tx × Rat × Rat × (List (Tx × Rat × Tx)))) × (List Tx) × (List Int))) : Res (List Int) (((List (Tx × Rat × Rat × (List (Tx × Rat × Tx)))) × (List Tx)) × (List Int)) :=
  .ok ((s6.1, s6.2.1), s6.2.2)
noncomputable def l_sizes_k14_k2 (n8 : ((List (Tx × Rat × Rat × (List (Tx × Rat × Tx)))) × (List Tx) × (List Int)) → Res (List Int) (((List (Tx × Rat × Rat × (List (Tx × Rat × Tx)))) × (List Tx)) × (List Int))) (s10 : ((List (Tx × Rat × Rat × (List (Tx × Rat × Tx)))) × (List Tx) × (List Int))) : Res (List Int) (((List (Tx × Rat × Rat × (List (Tx × Rat × Tx)))) × (List Tx)) × (List Int)) :=
  n8 (s10.1, s10.2.1, s10.2.2)
noncomputable def l_sizes_k14_k3 (s6 : ((List (Tx × Rat × Rat × (List (Tx × Rat × Tx)))) × (List Tx) × (List Int))) (n8 : ((List (Tx × Rat × Rat × (List (Tx × Rat × Tx)))) × (List Tx) × (List Int)) → Res (List Int) (((List (Tx × Rat × Rat × (List (Tx × Rat × Tx)))) × (List Tx)) × (List Int))) (x12 : (Tx × (List Int))) (x14 : (Rat × (List Int))) (x15 : (Rat × (List Int))) (s19 : ((List (Tx × Rat × Tx)) × (List Tx) × (List Int))) : Res (List Int) (((List (Tx × Rat × Rat × (List (Tx × Rat × Tx)))) × (List Tx)) × (List Int)) :=
  Res.bind (Res.opt (mkQ (if (Rat.num x15.1) < 0 then -(Rat.num x15.1) else (Rat.num x15.1)) ((Rat.den x15.1 : Nat) : Int))) fun z25 => Res.bind (Res.mapE (fun _ => s19.2.2) (l_add_k16 x14.1 z25)) fun z24 => Res.bind (Res.grd (List.length s6.1 < 100000) (s6.1 ++ [(x12.1, x14.1, z24, s19.1)], ())) fun x23 => (l_sizes_k14_k2 n8) (x23.1, s19.2.1, s19.2.2)
noncomputable def l_sizes_k14_k4 (n21 : ((List (Tx × Rat × Tx)) × (List Tx) × (List Int)) → Res (List Int) (((List (Tx × Rat × Rat × (List (Tx × Rat × Tx)))) × (List Tx)) × (List Int))) (s26 : ((List (Tx × Rat × Tx)) × (List Tx) × (List Int))) : Res (List Int) (((List (Tx × Rat × Rat × (List (Tx × Rat × Tx)))) × (List Tx)) × (List Int)) :=
  n21 (s26.1, s26.2.1, s26.2.2)
noncomputable def l_sizes_k14_b5 (vmost : Int) (x20 : Int) (s19 : ((List (Tx × Rat × Tx)) × (List Tx) × (List Int))) (n21 : ((List (Tx × Rat × Tx)) × (List Tx) × (List Int)) → Res (List Int) (((List (Tx × Rat × Rat × (List (Tx × Rat × Tx)))) × (List Tx)) × (List Int))) : Res (List Int) (((List (Tx × Rat × Rat × (List (Tx × Rat × Tx)))) × (List Tx)) × (List Int)) :=
  if decide ((List.length s19.2.1 : Int) < vmost) = true then Res.bind (Res.mapE (fun y => y) (l_word_k14 s19.2.2 s19.2.1)) fun z37 => Res.bind (Res.grd (List.length s19.2.1 < 100000) (s19.2.1 ++ [z37.1], z37.2)) fun x28 => Res.bind (l_number_k16 x28.2) fun z36 => Res.bind (.ok (z36.1, z36.2)) fun x29 => Res.bind (l_take x29.2 (3 : Int)) fun z35 => Res.bind (Res.opt (atI [sx_7bc55599, sx_95c4bea1, sx_89f6229a] z35.1)) fun z34 => Res.bind (.ok (z34, z35.2)) fun x30 => Res.bind (Res.opt (atI x28.1 (-(1 : Int)))) fun z32 => Res.bind (Res.opt (mkQ (if (Rat.num x29.1) < 0 then -(Rat.num x29.1) else (Rat.num x29.1)) ((Rat.den x29.1 : Nat) : Int))) fun z33 => Res.bind (Res.grd (List.length s19.1 < 100000) (s19.1 ++ [(z32, z33, x30.1)], ())) fun x31 => (l_sizes_k14_k4 n21) (x31.1, x28.1, x30.2) else (l_sizes_k14_k4 n21) (s19.1, s19.2.1, s19.2.2)
noncomputable def l_sizes_k14_b6 (vmost : Int) (x7 : Int) (s6 : ((List (Tx × Rat × Rat × (List (Tx × Rat × Tx)))) × (List Tx) × (List Int))) (n8 : ((List (Tx × Rat × Rat × (List (Tx × Rat × Tx)))) × (List Tx) × (List Int)) → Res (List Int) (((List (Tx × Rat × Rat × (List (Tx × Rat × Tx)))) × (List Tx)) × (List Int))) : Res (List Int) (((List (Tx × Rat × Rat × (List (Tx × Rat × Tx)))) × (List Tx)) × (List Int)) :=
  if decide ((List.length s6.2.1 : Int) < vmost) = true then Res.bind (Res.mapE (fun y => y) (l_word_k14 s6.2.2 s6.2.1)) fun z42 => Res.bind (.ok (z42.1, z42.2)) fun x12 => Res.bind (Res.grd (List.length s6.2.1 < 100000) (s6.2.1 ++ [x12.1], ())) fun x13 => Res.bind (l_number_k16 x12.2) fun z41 => Res.bind (.ok (z41.1, z41.2)) fun x14 => Res.bind (l_number_k16 x14.2) fun z40 => Res.bind (.ok (z40.1, z40.2)) fun x15 => Res.bind (.ok []) fun x16 => Res.bind (l_take x15.2 (8 : Int)) fun z39 => Res.bind (Res.opt (atI [(0 : Int), (0 : Int), (1 : Int), (2 : Int), (0 : Int), (1 : Int), (0 : Int), (6 : Int)] z39.1)) fun z38 => Res.bind (Res.grd (-(2 ^ 62) ≤ z38 ∧ z38 < 2 ^ 62) (rangeL 0 (Int.toNat z38))) fun z18 => Res.loop (l_sizes_k14_b5 vmost) (l_sizes_k14_k3 s6 n8 x12 x14 x15) z18 (x16, x13.1, z39.2) else (l_sizes_k14_k2 n8) (s6.1, s6.2.1, s6.2.2)
noncomputable def l_sizes_k14 (vwell_here : (List Int)) (vmost : Int) : Res (List Int) (((List (Tx × Rat × Rat × (List (Tx × Rat × Tx)))) × (List Tx)) × (List Int)) :=
  Res.bind (.ok []) fun x1 => Res.bind (.ok []) fun x3 => Res.bind (l_take vwell_here (8 : Int)) fun z44 => Res.bind (Res.opt (atI [(0 : Int), (1 : Int), (2 : Int), (3 : Int), (4 : Int), (2 : Int), (3 : Int), (7 : Int)] z44.1)) fun z43 => Res.bind (Res.grd (-(2 ^ 62) ≤ z43 ∧ z43 < 2 ^ 62) (rangeL 0 (Int.toNat z43))) fun z5 => Res.loop (l_sizes_k14_b6 vmost) l_sizes_k14_k1 z5 (x3, x1, z44.2)
noncomputable def l_is_list_k14 (vfound : (List Tx)) (vdue : (List Tx)) : Res Unit (Bool) :=
  Res.bind (if true = true then Res.bind (if decide (vfound = vdue) = true then Res.bind (Res.grd (vfound.length ≤ 100000) vfound) fun z4 => Res.bind (Res.calm (Res.lc (fun (x1 : Tx) (s2 : Unit) => Res.bind (l_plain (eS x1)) fun z3 => .ok (some z3, s2)) z4 ())) fun z5 => .ok ((List.all z5.1 id), z5.2) else .ok (false, ())) fun z7 => .ok (z7.1, z7.2) else .ok (false, ())) fun z6 => .ok z6.1
noncomputable def l_faces_k14_k1  (s4 : ((List (Tx × Tx × (Option Tx) × (Rat × (List (Tx × Rat))))) × (List Int))) : Res (List Int) ((List (Tx × Tx × (Option Tx) × (Rat × (List (Tx × Rat))))) × (List Int)) :=
  .ok (s4.1, s4.2)
noncomputable def l_faces_k14_b2 (vnames : (List Tx)) (x5 : Int) (s4 : ((List (Tx × Tx × (Option Tx) × (Rat × (List (Tx × Rat))))) × (List Int))) (n6 : ((List (Tx × Tx × (Option Tx) × (Rat × (List (Tx × Rat))))) × (List Int)) → Res (List Int) ((List (Tx × Tx × (Option Tx) × (Rat × (List (Tx × Rat))))) × (List Int))) : Res (List Int) ((List (Tx × Tx × (Option Tx) × (Rat × (List (Tx × Rat))))) × (List Int)) :=
  Res.bind (Res.grd (s4.1.length ≤ 100000) s4.1) fun z11 => Res.bind (Res.calm (Res.lc (fun (x9 : (Tx × Tx × (Option Tx) × (Rat × (List (Tx × Rat))))) (s10 : (List Int)) => .ok (some x9.1, s10)) z11 s4.2)) fun z12 => Res.bind (Res.grd (List.length z12.1 + List.length [sx_39d88b57] ≤ 100000) (z12.1 ++ [sx_39d88b57])) fun z27 => Res.bind (l_word_k14 z12.2 z27) fun z26 => Res.bind (.ok (z26.1, z26.2)) fun x8 => Res.bind (l_take x8.2 (2 : Int)) fun z25 => Res.bind (Res.opt (Tx.at sx_5f845998 z25.1)) fun z24 => Res.bind (.ok (z24, z25.2)) fun x13 => Res.bind (Res.grd (s4.1.length ≤ 100000) s4.1) fun z17 => Res.bind (Res.calm (Res.lc (fun (x15 : (Tx × Tx × (Option Tx) × (Rat × (List (Tx × Rat))))) (s16 : Unit) => if decide (x15.2.1 = x13.1) = true then .ok (some x15.1, s16) else .ok (none, s16)) z17 ())) fun z18 => Res.bind (Res.grd (List.length (List.map (fun _ => (none : (Option Tx))) [(), ()]) + List.length (List.map some z18.1) ≤ 100000) ((List.map (fun _ => (none : (Option Tx))) [(), ()]) ++ (List.map some z18.1))) fun z23 => Res.bind (.ok z23) fun x14 => Res.bind (l_take x13.2 (List.length x14 : Int)) fun z21 => Res.bind (Res.opt (atI x14 z21.1)) fun z20 => Res.bind (l_sum_k16 z21.2 vnames) fun z22 => Res.bind (Res.grd (List.length s4.1 < 100000) (s4.1 ++ [(x8.1, x13.1, z20, z22.1)], z22.2)) fun x19 => n6 (x19.1, x19.2)
noncomputable def l_faces_k14 (vwell_here : (List Int)) (vnames : (List Tx)) (vmany : Int) : Res (List Int) ((List (Tx × Tx × (Option Tx) × (Rat × (List (Tx × Rat))))) × (List Int)) :=
  Res.bind (.ok []) fun x1 => Res.bind (Res.grd (-(2 ^ 62) ≤ vmany ∧ vmany < 2 ^ 62) (rangeL 0 (Int.toNat vmany))) fun z3 => Res.loop (l_faces_k14_b2 vnames) l_faces_k14_k1 z3 (x1, vwell_here)
noncomputable def l_law_k14_k1  (s2 : Unit) : Res Unit (Bool) :=
  .ok true
noncomputable def l_law_k14_k2 (n4 : Unit → Res Unit (Bool)) (x9 : (((List (Tx × Rat × Rat × (List (Tx × Rat × Tx)))) × (List Tx)) × (List Int))) (x17 : ((Tx × (List (Tx × Rat × Rat × (List (Tx × Rat × Tx)))) × (List (Tx × (Tx × (Rat × (List (Tx × Rat))))))) × (List Int))) (x22 : (List (Tx × Tx × (Rat × (List (Tx × Rat)))))) (s24 : (List (Tx × (Tx × (Rat × (List (Tx × Rat))))))) : Res Unit (Bool) :=
  Res.bind (Res.mapE (fun _ => ()) (m_Part_faces (x17.1.1, x17.1.2.1) s24)) fun z28 => Res.bind (if (!decide (z28 = x22)) = true then .ok (true, ()) else Res.bind (Res.mapE (fun _ => ()) (m_Part_stock (x17.1.1, x17.1.2.1) s24)) fun z31 => Res.bind (l_fields_k16 z31) fun z30 => .ok ((!decide (z30 = x9.1.1)), ())) fun z29 => if z29.1 = true then .ok false else n4 ()
noncomputable def l_law_k14_b3 (x17 : ((Tx × (List (Tx × Rat × Rat × (List (Tx × Rat × Tx)))) × (List (Tx × (Tx × (Rat × (List (Tx × Rat))))))) × (List Int))) (x21 : ((List (Tx × Tx × (Option Tx) × (Rat × (List (Tx × Rat))))) × (List Int))) (x22 : (List (Tx × Tx × (Rat × (List (Tx × Rat)))))) (x25 : Int) (s24 : (List (Tx × (Tx × (Rat × (List (Tx × Rat))))))) (n26 : (List (Tx × (Tx × (Rat × (List (Tx × Rat)))))) → Res Unit (Bool)) : Res Unit (Bool) :=
  Res.bind (Res.opt (atI x21.1 x25)) fun z40 => Res.bind (.ok z40) fun x32 => Res.bind (Res.mapE (fun y => ()) (m_Part_put_face (x17.1.1, x17.1.2.1) s24 x32.1 x32.2.1 x32.2.2.1 x32.2.2.2)) fun z39 => Res.bind (.ok z39.2) fun s33 => if false = true then .ok false else Res.bind (Res.mapE (fun _ => ()) (m_Part_faces (x17.1.1, x17.1.2.1) s33)) fun z38 => Res.bind (.ok z38) fun x34 => Res.bind (Res.mapE (fun _ => ()) (l_is_list x34 (cutL x22 none (some (x25 + (1 : Int)))))) fun z37 => if (!z37) = true then .ok false else Res.bind (.ok (([] : (List (Tx × Tx × (Rat × (List (Tx × Rat)))))), ())) fun x36 => n26 s33
noncomputable def l_law_k14_b4 (vscript : (List Int)) (x3 : Int) (s2 : Unit) (n4 : Unit → Res Unit (Bool)) : Res Unit (Bool) :=
  Res.bind (l_well vscript x3) fun z55 => Res.bind (.ok z55) fun x6 => Res.bind (Res.mapE (fun _ : (List Int) => ()) (l_word_k14 x6 [])) fun z54 => Res.bind (.ok (z54.1, z54.2)) fun x8 => Res.bind (Res.mapE (fun _ : (List Int) => ()) (l_sizes_k14 x8.2 (12 : Int))) fun z53 => Res.bind (.ok (z53.1, z53.2)) fun x9 => Res.bind (Res.grd (x9.1.1.length ≤ 100000) x9.1.1) fun z14 => Res.bind (Res.calm (Res.lc (fun (x11 : (Tx × Rat × Rat × (List (Tx × Rat × Tx)))) (s12 : Unit) => Res.bind (Res.mapE (fun _ => ()) (m_Size___init___k07 x11.1 x11.2.1 x11.2.2.1 x11.2.2.2)) fun z13 => .ok (some z13, s12)) z14 ())) fun z15 => Res.bind (.ok z15.1) fun x10 => Res.bind (Res.mapE (fun _ : (List Int) => ()) (l_take x9.2 (2 : Int))) fun z52 => Res.bind (if decide (z52.1 = (0 : Int)) = true then Res.mapE (fun _ => ()) (m_Part___init__ x8.1 x10) else if decide (z52.1 = (1 : Int)) = true then Res.mapE (fun _ => ()) (m_Part___init__ x8.1 x10) else .stuck) fun z51 => Res.bind (.ok (z51, z52.2)) fun x17 => Res.bind (.ok (([] : (List (Tx × Rat × Rat × (List (Tx × Rat × Tx))))), ())) fun x20 => Res.bind (if (!decide ((x17.1.1, x17.1.2.1).1 = x8.1)) = true then .ok (true, ()) else Res.bind (Res.mapE (fun _ => ()) (m_Part_stock (x17.1.1, x17.1.2.1) x17.1.2.2)) fun z47 => Res.bind (Res.mapE (fun _ => ()) (m_Stock_names z47)) fun z46 => Res.bind (l_is_list_k14 z46 x9.1.2) fun z45 => Res.bind (if (!z45) = true then .ok (true, ()) else Res.bind (Res.mapE (fun _ => ()) (m_Part_stock (x17.1.1, x17.1.2.1) x17.1.2.2)) fun z50 => Res.bind (l_fields_k16 z50) fun z49 => .ok ((!decide (z49 = x9.1.1)), ())) fun z48 => .ok (z48.1, z48.2)) fun z44 => if z44.1 = true then .ok false else Res.bind (Res.mapE (fun _ : (List Int) => ()) (l_take x17.2 (9 : Int))) fun z43 => Res.bind (Res.mapE (fun _ : (List Int) => ()) (l_faces_k14 z43.2 x9.1.2 ((1 : Int) + z43.1))) fun z42 => Res.bind (.ok (z42.1, z42.2)) fun x21 => Res.bind (l_placed x21.1) fun z41 => Res.bind (.ok z41) fun x22 => Res.bind (Res.grd (-(2 ^ 62) ≤ (List.length x21.1 : Int) ∧ (List.length x21.1 : Int) < 2 ^ 62) (rangeL 0 (Int.toNat (List.length x21.1 : Int)))) fun z23 => Res.loop (l_law_k14_b3 x17 x21 x22) (l_law_k14_k2 n4 x9 x17 x22) z23 x17.1.2.2
noncomputable def l_law_k14 (vscript : (List Int)) : Res Unit (Bool) :=
  Res.bind (Res.grd (-(2 ^ 62) ≤ (if (if (10 : Int) < (List.length vscript : Int) then (10 : Int) else (List.length vscript : Int)) > (1 : Int) then (if (10 : Int) < (List.length vscript : Int) then (10 : Int) else (List.length vscript : Int)) else (1 : Int)) ∧ (if (if (10 : Int) < (List.length vscript : Int) then (10 : Int) else (List.length vscript : Int)) > (1 : Int) then (if (10 : Int) < (List.length vscript : Int) then (10 : Int) else (List.length vscript : Int)) else (1 : Int)) < 2 ^ 62) (rangeL 0 (Int.toNat (if (if (10 : Int) < (List.length vscript : Int) then (10 : Int) else (List.length vscript : Int)) > (1 : Int) then (if (10 : Int) < (List.length vscript : Int) then (10 : Int) else (List.length vscript : Int)) else (1 : Int))))) fun z1 => Res.loop (l_law_k14_b4 vscript) l_law_k14_k1 z1 ()
end
section
set_option Elab.async false
set_option linter.all false
set_option maxRecDepth 100000
set_option maxHeartbeats 1000000
open TL PySem L2
namespace Res
variable {ε ε' α β γ σ ρ : Type}
def To (m : Res ε α) (P : α → Prop) : Prop := ∃ a, m = .ok a ∧ P a
theorem To.ok {a : α} {P : α → Prop} (h : P a) : (Res.ok a : Res ε α).To P := ⟨a, rfl, h⟩
theorem To.mono {m : Res ε α} {P Q : α → Prop} (h : m.To P) (f : ∀ a, P a → Q a) : m.To Q := let ⟨a, e, p⟩ := h; ⟨a, e, f a p⟩
theorem To.b {m : Res ε α} {k : α → Res ε β} {P : α → Prop} {Q : β → Prop} (h : m.To P) (f : ∀ a, P a → (k a).To Q) : (bind m k).To Q := by
  obtain ⟨a, rfl, p⟩ := h
  exact f a p
theorem To.e {m : Res ε α} {k : α → Res ε β} {a : α} {Q : β → Prop} (h : m = .ok a) (f : (k a).To Q) : (bind m k).To Q := by
  subst h
  exact f
theorem To.g {c : Prop} {x : α} {k : α → Res ε β} {Q : β → Prop} (h : c) (f : (k x).To Q) : (bind (grd c x) k).To Q := To.e (grd_t h) f
theorem To.o {x : Option α} {a : α} {k : α → Res ε β} {Q : β → Prop} (h : x = some a) (f : (k a).To Q) : (bind (opt x) k).To Q := by
  subst h
  exact f
theorem To.v {a : α} {k : α → Res ε β} {Q : β → Prop} (f : (k a).To Q) : (bind (.ok a) k).To Q := f
theorem To.mE {m : Res ε α} {g : ε → ε'} {P : α → Prop} (h : m.To P) : (mapE g m).To P := by
  obtain ⟨a, rfl, p⟩ := h
  exact ⟨a, rfl, p⟩
theorem To.calm {m : Res Unit α} {P : α → Prop} (h : m.To P) : (Res.calm m : Res ε' α).To P := by
  obtain ⟨a, rfl, p⟩ := h
  exact ⟨a, rfl, p⟩
theorem To.i {b : Bool} {m n : Res ε α} {P : α → Prop} (h1 : b = true → m.To P) (h2 : b = false → n.To P) : (if b = true then m else n).To P := by
  cases b with
  | true => exact h1 rfl
  | false => exact h2 rfl
theorem To.loop {body : α → σ → (σ → Res ε ρ) → Res ε ρ} {k : σ → Res ε ρ} {P : ρ → Prop} (I : List α → σ → Prop) : ∀ {xs : List α} {s0 : σ},
    I [] s0 → (∀ pre x post s, xs = pre ++ x :: post → I pre s → ∀ nx : σ → Res ε ρ, (∀ s', I (pre ++ [x]) s' → (nx s').To P) → (body x s nx).To P) → (∀ s, I xs s → (k s).To P) → (Res.loop body k xs s0).To P := by
  intro xs s0 h0 step done
  have key : ∀ (post pre : List α) (s : σ), xs = pre ++ post → I pre s → (Res.loop body k post s).To P := by
    intro post
    induction post with
    | nil =>
      intro pre s e h
      rw [List.append_nil] at e
      subst e
      exact done s h
    | cons x post ih =>
      intro pre s e h
      exact step pre x post s e h _ fun s' hs' => ih (pre ++ [x]) s' (by rw [List.append_assoc]; exact e) hs'
  exact key xs [] s0 rfl h0
theorem To.wloop {body : σ → (σ → Res ε ρ) → Res ε ρ} {P : ρ → Prop} (I : σ → Prop) (μ : σ → Nat) : ∀ {n : Nat} {s0 : σ}, I s0 → μ s0 < n →
    (∀ s, I s → ∀ nx : σ → Res ε ρ, (∀ s', I s' → μ s' < μ s → (nx s').To P) → (body s nx).To P) → (Res.wloop body n s0).To P := by
  intro n
  induction n with
  | zero => intro s0 _ h; omega
  | succ n ih =>
    intro s0 h0 hn step
    exact step s0 h0 _ fun s' h1 h2 => ih h1 (by omega) step
theorem loop_foldI {body : α → σ → (σ → Res ε ρ) → Res ε ρ} {k : σ → Res ε ρ} (f : σ → α → σ) (I : List α → σ → Prop) : ∀ {xs : List α} {s0 : σ}, I [] s0 →
    (∀ pre x post s, xs = pre ++ x :: post → I pre s → (∀ nx : σ → Res ε ρ, body x s nx = nx (f s x)) ∧ I (pre ++ [x]) (f s x)) → Res.loop body k xs s0 = k (xs.foldl f s0) ∧ I xs (xs.foldl f s0) := by
  intro xs s0 h0 step
  have key : ∀ (post pre : List α) (s : σ), xs = pre ++ post → I pre s → Res.loop body k post s = k (post.foldl f s) ∧ I xs (post.foldl f s) := by
    intro post
    induction post with
    | nil =>
      intro pre s e h
      rw [List.append_nil] at e
      subst e
      exact ⟨rfl, h⟩
    | cons x post ih =>
      intro pre s e h
      obtain ⟨h1, h2⟩ := step pre x post s e h
      obtain ⟨h3, h4⟩ := ih (pre ++ [x]) (f s x) (by rw [List.append_assoc]; exact e) h2
      exact ⟨(h1 _).trans h3, h4⟩
  exact key xs [] s0 rfl h0
theorem lc_map {body : α → σ → Res ε (Option β × σ)} (f : α → Option β) (s : σ) : ∀ (xs : List α), (∀ x ∈ xs, body x s = .ok (f x, s)) → Res.lc body xs s = .ok (xs.filterMap f, s)
  | [], _ => rfl
  | x :: xs, h => by
    unfold Res.lc
    rw [h x List.mem_cons_self, bind_ok, lc_map f s xs fun y hy => h y (List.mem_cons_of_mem _ hy), bind_ok]
    cases e : f x <;> simp [List.filterMap_cons, e]
theorem To.lc {body : α → σ → Res ε (Option β × σ)} (J : Nat → σ → Prop) (P : β → Prop) : ∀ {xs : List α} {s : σ} {n : Nat}, J n s → (∀ x ∈ xs, ∀ m s, n ≤ m → m < n + xs.length → J m s → (body x s).To fun t => (∃ y, t.1 = some y ∧ P y) ∧ J (m + 1) t.2) →
    (Res.lc body xs s).To fun z => z.1.length = xs.length ∧ (∀ y ∈ z.1, P y) ∧ J (n + xs.length) z.2 := by
  intro xs
  induction xs with
  | nil => intro s n h _; exact .ok ⟨rfl, (fun y hy => by cases hy), h⟩
  | cons x xs ih =>
    intro s n h step
    unfold Res.lc
    refine To.b (step x List.mem_cons_self n s (Nat.le_refl _) (by simp) h) fun t ⟨⟨y, e, py⟩, hj⟩ => ?_
    refine To.b (ih (n := n + 1) hj fun x' hx m s' h1 h2 h3 => step x' (List.mem_cons_of_mem _ hx) m s' (by omega) (by simp at h2 ⊢; omega) h3) fun u ⟨hl, hp, hj2⟩ => .ok ?_
    rw [e]
    refine ⟨by simp [hl], fun z hz => ?_, by simp at hj2 ⊢; rw [show n + (xs.length + 1) = n + 1 + xs.length by omega]; exact hj2⟩
    rcases List.mem_cons.mp hz with q | q
    · subst q; exact py
    · exact hp z q
end Res
open Res
theorem cmulw {i j : Int} (a b : Nat) (ha : i.natAbs < 2 ^ a) (hb : j.natAbs < 2 ^ b) (h0 : 0 < a := by decide) (h1 : 0 < b := by decide) (h : a + b ≤ 1000000 := by decide) : CMulW i j := wmul a b ha hb h0 h1 h
def Wl (n : Nat) (w : List Int) : Prop := ∃ x : We, w = [x.f, x.v, x.t] ∧ x.ok n
theorem Wl.up {n m : Nat} {w : List Int} (h : Wl n w) (l : n ≤ m) : Wl m w := let ⟨x, e, o⟩ := h; ⟨x, e, o.up l⟩
theorem small_of {m : Int} (h0 : 0 < m) (h1 : m ≤ 100000000000000000000) : m.natAbs < 2 ^ 8000 := by
  have e : (2 : Nat) ^ 70 = 1180591620717411303424 := by decide
  exact Nat.lt_of_lt_of_le (show m.natAbs < 2 ^ 70 by omega) (Nat.pow_le_pow_right (by decide) (by decide))
end
section
set_option Elab.async false
set_option linter.all false
set_option maxRecDepth 100000
set_option maxHeartbeats 1000000
open TL PySem L2 Res
theorem l_common_eq {t b : Int} (hb : b.natAbs < 2 ^ 8000) : l_common t b = .ok ((Int.gcd t b : Nat) : Int) := by
  have h : (l_common t b).To fun r => r = ((Int.gcd t b : Nat) : Int) := by
    unfold l_common
    refine To.wloop (fun s : Int × Int => Int.gcd s.1 s.2 = Int.gcd t b ∧ s.2.natAbs ≤ b.natAbs) (fun s => s.2.natAbs) ⟨rfl, Nat.le_refl _⟩ (Res.fuel_big (Nat.lt_of_lt_of_le hb (Nat.pow_le_pow_right (by decide) (by decide)))) ?_
    rintro ⟨x, y⟩ ⟨h1, h2⟩ nx hn
    refine To.i (fun c => ?_) fun c => ?_
    · have y0 : y ≠ 0 := by simpa using c
      unfold l_common_b2
      refine To.g y0 (hn (y, x.fmod y) ⟨?_, ?_⟩ (Nu.fmod_natAbs_lt y0))
      · show Int.gcd y (x.fmod y) = _
        rw [Nu.gcd_fmod]; exact h1
      · have : (x.fmod y).natAbs < y.natAbs := Nu.fmod_natAbs_lt y0
        show (x.fmod y).natAbs ≤ _
        have h2' : y.natAbs ≤ b.natAbs := h2
        omega
    · have y0 : y = 0 := by simpa using c
      subst y0
      refine .ok ?_
      have h1' : Int.gcd x 0 = Int.gcd t b := h1
      rw [← h1', Int.gcd_zero_right]
      show (if x < 0 then -x else x) = _
      split <;> omega
  obtain ⟨a, e, rfl⟩ := h
  exact e
theorem m_common_eq {t b : Int} (hb : b.natAbs < 2 ^ 8000) : m_common t b = .ok ((Int.gcd t b : Nat) : Int) := l_common_eq hb
theorem mkQ_q {t b : Int} (h : b ≠ 0) : mkQ (t.fdiv (Nu.by_ t b)) (b.fdiv (Nu.by_ t b)) = some (Nu.q t b) := by
  rw [Nu.top_is h, Nu.bot_is h]
  exact mkQ_of _
theorem m_number_of_eq {t b : Int} (h : b ≠ 0) (hb : b.natAbs < 2 ^ 8000) : m_number_of t b = .ok (Nu.q t b) := by
  have w1 : m_is_whole t = .ok true := rfl
  have w2 : m_is_whole b = .ok true := rfl
  have d : ∀ z, CDivA z (Nu.by_ t b) := fun z => div_ok h hb
  have k : m_number_of_k1 t b (Nu.by_ t b) = .ok (Nu.q t b) := by
    unfold m_number_of_k1
    rw [grd_t (d t), bind_ok, grd_t (d b), bind_ok, mkQ_q h]
    rfl
  unfold m_number_of
  rw [w1, w2]
  simp only [bind_ok, Bool.not_true, Bool.false_or, Bool.false_eq_true, if_false]
  rw [m_common_eq hb]
  simp only [bind_ok, decide_eq_true_eq, if_neg h]
  unfold Nu.by_ at k
  by_cases c : b < 0
  · rw [if_pos c]
    rw [if_pos c] at k
    exact k
  · rw [if_neg c]
    rw [if_neg c] at k
    exact k
section
variable {a b : Rat} (ha : Nu.Bd 3000 a) (hb : Nu.Bd 3000 b)
include ha hb
theorem m_plus_eq : m_plus a b = .ok (a + b) := by
  unfold m_plus
  rw [grd_t (cq ha.1 (Nu.den_abs hb) (by decide) (by decide)), bind_ok, grd_t (cq hb.1 (Nu.den_abs ha) (by decide) (by decide)), bind_ok, grd_t (cq (Nu.den_abs ha) (Nu.den_abs hb) (by decide) (by decide)), bind_ok,
    m_number_of_eq (dd_ne a b) (dd_small ha hb), bind_ok, Nu.plus_is]
end
theorem well_to {ns : List Int} {i : Int} (h0 : 0 ≤ i) (h1 : i ≤ 63) : (l_well ns i).To (Wl 1100) := by
  have k : ∀ c : Int, (l_well_k1 i c).To (Wl 1100) := fun c => by
    unfold l_well_k1
    have p7 : (2 : Nat) ^ 7 = 128 := by decide
    refine To.g (cmulw 5 7 (by decide) (by omega)) (.ok ?_)
    by_cases hc : 1000000000000000000 ≤ if c < 0 then -c else c
    · rw [if_pos (decide_eq_true hc)]
      exact ⟨⟨1, c, 17 * i⟩, rfl, .inl rfl⟩
    · rw [if_neg (by simpa using hc)]
      refine ⟨⟨0, c, 17 * i⟩, rfl, .inr ⟨rfl, ?_, by show 0 ≤ 17 * i; omega, by show 17 * i ≤ ((1100 : Nat) : Int); omega⟩⟩
      have e : ((2 : Nat) ^ 60) = 1152921504606846976 := by decide
      rw [e]
      show c.natAbs < _
      split at hc <;> omega
  unfold l_well
  refine To.v (To.i (fun c => ?_) fun _ => k 0)
  have c' : i < (ns.length : Int) := by simpa using c
  refine To.o (a := ns[i.toNat]) ?_ (k _)
  unfold atI ixN
  rw [if_pos h0, if_pos c', Option.bind_some, List.getElem?_eq_getElem]
theorem take_to {n : Nat} {w : List Int} {m : Int} (h : Wl n w) (hm : 0 < m) (hm3 : m ≤ 100000000000000000000) (hn : n ≤ 2 ^ 40) : (l_take w m).To fun r => 0 ≤ r.1 ∧ r.1 < m ∧ Wl (n + 1) r.2 := by
  have hm2 := small_of hm hm3
  obtain ⟨x, rfl, ok⟩ := h
  have m0 : m ≠ 0 := by omega
  unfold l_take
  refine To.o (a := x.f) rfl (To.i (fun c => ?_) fun c => ?_)
  · have hf : x.f = 1 := by simpa using c
    refine To.o (a := x.v) rfl (To.g m0 (To.v (To.o (a := x.v) rfl (To.g (cdiv m0 hm2) (To.o (a := 1) rfl (To.v (.ok ?_)))))))
    exact ⟨(mod_ok hm).1, (mod_ok hm).2, ⟨x.f, x.v.fdiv m, x.t⟩, rfl, .inl hf⟩
  · have hf : ¬ x.f = 1 := by simpa using c
    obtain ⟨h1, h2, h3, h4⟩ := ok.resolve_left hf
    have t1 : (x.t + 1).natAbs < 2 ^ 41 := by
      have : ((2 : Nat) ^ 41) = 2 * 2 ^ 40 := by decide
      omega
    have m1 : CMulW 7919 (x.t + 1) := wmul 13 41 (by decide) t1
    have b2 : (7919 * (x.t + 1)).natAbs < 2 ^ 54 := Nu.natAbs_mul_lt (n := 13) (m := 41) (by decide) t1
    have m2 : CMulW (7919 * (x.t + 1)) (x.t + 1) := wmul 54 41 b2 t1
    have b3 : (7919 * (x.t + 1) * (x.t + 1)).natAbs < 2 ^ 95 := Nu.natAbs_mul_lt (n := 54) (m := 41) b2 t1
    have b4 : (x.v + 7919 * (x.t + 1) * (x.t + 1)).natAbs < 2 ^ 96 := Nu.natAbs_add_lt (Nu.lt_pow_mono h2 (by decide)) b3
    have b5 : (x.v + 7919 * (x.t + 1) * (x.t + 1) + (x.t + 1)).natAbs < 2 ^ 97 := Nu.natAbs_add_lt b4 (Nu.lt_pow_mono t1 (by decide))
    have m3 : CMulW (x.v + 7919 * (x.t + 1) * (x.t + 1) + (x.t + 1)) 48271 := wmul 97 16 b5 (by decide)
    have b6 : (((x.v + 7919 * (x.t + 1) * (x.t + 1) + (x.t + 1)) * 48271).fmod 2305843009213693951).natAbs < 2 ^ 61 := by
      have := mod_ok (a := (x.v + 7919 * (x.t + 1) * (x.t + 1) + (x.t + 1)) * 48271) (m := 2305843009213693951) (by decide)
      have e : ((2 : Nat) ^ 61) = 2305843009213693952 := by decide
      omega
    have m4 : CMulW (((x.v + 7919 * (x.t + 1) * (x.t + 1) + (x.t + 1)) * 48271).fmod 2305843009213693951) 1442695040888963407 := wmul 61 61 b6 (by decide)
    refine To.o (a := x.t) rfl (To.v (To.o (a := 2) rfl (To.v (To.o (a := x.v) rfl (To.g m1 (To.g m2 (To.g m3 (To.g (by decide) (To.v (To.g m4 (To.g (by decide) (To.g (cdiv (by decide) (by decide)) (To.g m0 (.ok ?_))))))))))))))
    exact ⟨(mod_ok hm).1, (mod_ok hm).2, ⟨x.f, x.v, x.t + 1⟩, rfl, .inr ⟨h1, h2, by show 0 ≤ x.t + 1; omega, by show x.t + 1 ≤ ((n + 1 : Nat) : Int); omega⟩⟩
end
section
set_option Elab.async false
set_option linter.all false
set_option maxRecDepth 100000
set_option maxHeartbeats 1000000
open TL PySem L2 Res
theorem Tx.at_ok {t : Tx} {i : Int} (h0 : 0 ≤ i) (h1 : i < t.len) (h2 : t.len ≤ 100000) : ∃ c, t.at i = some c ∧ c.len = 1 ∧ ∃ d, t.s.cps.toList[i.toNat]? = some d ∧ c.s = ⟨#[d]⟩ := by
  have hl : i.toNat < t.s.cps.toList.length := by
    show i.toNat < t.s.cps.toList.length
    have : t.len = t.s.cps.toList.length := by simp [Tx.len, Str.length]
    omega
  have e : atI t.s.cps.toList i = some t.s.cps.toList[i.toNat] := by
    unfold atI ixN
    have : t.len = t.s.cps.toList.length := by simp [Tx.len, Str.length]
    rw [if_pos h0, if_pos (by omega), Option.bind_some, List.getElem?_eq_getElem hl]
  unfold Tx.at
  rw [if_pos (show t.s.length ≤ 100000 from h2)]
  split
  · rename_i c hc
    rw [e] at hc
    cases hc
    exact ⟨_, rfl, rfl, _, List.getElem?_eq_getElem hl, rfl⟩
  · rename_i hc
    rw [e] at hc
    cases hc
theorem Tx.join_len {a : Tx} (ha : a.len = 0) : ∀ xs : List Tx, (Tx.join a xs).len = (xs.map Tx.len).sum
  | [] => by
    show (Txt.join a.s []).length = 0
    rw [TL.join_eq]; rfl
  | [x] => by
    show (Txt.join a.s [x.s]).length = x.s.length + 0
    rw [TL.join_eq]; rfl
  | x :: y :: xs => by
    have ih := Tx.join_len ha (y :: xs)
    show (Txt.join a.s (x.s :: y.s :: xs.map (·.s))).length = x.len + ((y :: xs).map Tx.len).sum
    rw [← ih, join_cons]
    show ((x.s.cps ++ a.s.cps) ++ (Txt.join a.s (y.s :: xs.map (·.s))).cps).size = x.s.cps.size + _
    rw [Array.size_append, Array.size_append]
    have : a.s.cps.size = 0 := ha
    have e : (Tx.join a (y :: xs)).len = (Txt.join a.s (y.s :: xs.map (·.s))).cps.size := rfl
    omega
theorem joinC_of {a : Tx} (ha : a.len = 0) {xs : List Tx} (h : (xs.map Tx.len).sum ≤ 1000000) : joinC a xs := by
  unfold joinC
  rw [ha]
  omega
theorem sum_ones' : ∀ {xs : List Tx}, (∀ x ∈ xs, x.len = 1) → (xs.map Tx.len).sum = xs.length
  | [], _ => rfl
  | x :: xs, h => by
    rw [List.map_cons, List.sum_cons, h x List.mem_cons_self, sum_ones' fun y hy => h y (List.mem_cons_of_mem _ hy), List.length_cons]
    omega
theorem rangeL_len (lo : Int) (n : Nat) : (rangeL lo n).length = n := by simp [rangeL]
theorem rangeL_mem {lo : Int} {n : Nat} {i : Int} (h : i ∈ rangeL lo n) : lo ≤ i ∧ i < lo + n := by
  unfold rangeL at h
  obtain ⟨k, hk, rfl⟩ := List.mem_map.mp h
  have := List.mem_range.mp hk
  omega
theorem atI_nat' {α : Type} {xs : List α} {i : Int} (h0 : 0 ≤ i) (h1 : i < xs.length) : atI xs i = some (xs[i.toNat]'(by omega)) := by
  unfold atI ixN
  rw [if_pos h0, if_pos h1, Option.bind_some, List.getElem?_eq_getElem]
theorem atI_mem' {α : Type} {xs : List α} {i : Int} (h0 : 0 ≤ i) (h1 : i < xs.length) : ∃ x ∈ xs, atI xs i = some x := ⟨_, List.getElem_mem (by omega), atI_nat' h0 h1⟩
theorem pigeon {α : Type} [DecidableEq α] (f : Nat → α) (N : Nat) (inj : ∀ i j, i < N → j < N → f i = f j → i = j) : ∀ (t : Nat) (L : List α), t ≤ N → (∀ s, s < t → f s ∈ L) → t ≤ L.length
  | 0, _, _, _ => Nat.zero_le _
  | t + 1, L, hN, h => by
    have m := h t (Nat.lt_succ_self t)
    have l := List.length_erase_of_mem m
    have ih := pigeon f N inj t (L.erase (f t)) (by omega) fun s hs => (List.mem_erase_of_ne fun e => absurd (inj _ _ (by omega) (by omega) e) (by omega)).mpr (h s (by omega))
    have := List.length_pos_of_mem m
    omega
end
section
set_option Elab.async false
set_option linter.all false
set_option maxRecDepth 100000
set_option maxHeartbeats 1000000
open TL PySem L2 Res
structure Nms (zs : List Tx) : Prop where
  nd : zs.Nodup
  len : ∀ z ∈ zs, 1 ≤ z.len ∧ z.len ≤ 20
end
section
set_option Elab.async false
set_option linter.all false
set_option maxRecDepth 100000
set_option maxHeartbeats 1000000
open TL PySem L2 Res
end
section
set_option Elab.async false
set_option linter.all false
set_option maxRecDepth 100000
set_option maxHeartbeats 1000000
open TL PySem PySem.Spec L2 Res
def ltT (a b : Tx) : Prop := ltS a.s b.s
theorem ltT_irr (a : Tx) : ¬ ltT a a := ltS_irr a.s
theorem ltT_tr {a b c : Tx} (h : ltT a b) (k : ltT b c) : ltT a c := ltS_tr h k
theorem ltT_tri {a b : Tx} (h : ¬ ltT a b) (n : a ≠ b) : ltT b a := ltS_tri h fun e => n (Tx.ext' e)
instance (a b : Tx) : Decidable (ltT a b) := inferInstanceAs (Decidable (ltS a.s b.s))
theorem ltT_of_leT {a b : Tx} (h : leT a b = true) (n : a ≠ b) : ltT a b := by
  by_cases q : ltT b a
  · unfold leT at h
    have : ltCps b.s.cps.toList a.s.cps.toList = true := q
    rw [this] at h
    cases h
  · exact ltT_tri q fun e => n e.symm
theorem riseT_one : ∀ {xs ys : List Tx}, xs.Pairwise ltT → ys.Pairwise ltT → (∀ k, k ∈ xs ↔ k ∈ ys) → xs = ys
  | [], [], _, _, _ => rfl
  | [], y :: ys, _, _, h => absurd ((h y).mpr List.mem_cons_self) List.not_mem_nil
  | x :: xs, [], _, _, h => absurd ((h x).mp List.mem_cons_self) List.not_mem_nil
  | x :: xs, y :: ys, hx, hy, h => by
    rw [List.pairwise_cons] at hx hy
    have e : x = y := by
      rcases List.mem_cons.mp ((h x).mp List.mem_cons_self) with e | m
      · exact e
      · rcases List.mem_cons.mp ((h y).mpr List.mem_cons_self) with e | m2
        · exact e.symm
        · exact absurd (ltT_tr (hy.1 x m) (hx.1 y m2)) (ltT_irr y)
    subst e
    congr 1
    refine riseT_one hx.2 hy.2 fun k => ?_
    constructor
    · intro m
      rcases List.mem_cons.mp ((h k).mp (List.mem_cons_of_mem _ m)) with e | m2
      · subst e
        exact absurd (hx.1 k m) (ltT_irr k)
      · exact m2
    · intro m
      rcases List.mem_cons.mp ((h k).mpr (List.mem_cons_of_mem _ m)) with e | m2
      · subst e
        exact absurd (hy.1 k m) (ltT_irr k)
      · exact m2
def insT (k : Tx) : List Tx → List Tx
  | [] => [k]
  | y :: ys => if ltT k y then k :: y :: ys else if k = y then y :: ys else y :: insT k ys
theorem mem_insT {k j : Tx} : ∀ {ys : List Tx}, j ∈ insT k ys ↔ j = k ∨ j ∈ ys
  | [] => by simp [insT]
  | y :: ys => by
    unfold insT
    split
    · simp
    · split
      · rename_i e
        subst e
        simp
      · rw [List.mem_cons, mem_insT, List.mem_cons]
        constructor
        · rintro (h | h | h)
          · exact .inr (.inl h)
          · exact .inl h
          · exact .inr (.inr h)
        · rintro (h | h | h)
          · exact .inr (.inl h)
          · exact .inl h
          · exact .inr (.inr h)
theorem rise_insT {k : Tx} : ∀ {ys : List Tx}, ys.Pairwise ltT → (insT k ys).Pairwise ltT
  | [], _ => List.pairwise_singleton _ _
  | y :: ys, h => by
    unfold insT
    have h' := List.pairwise_cons.mp h
    split
    · rename_i l
      rw [List.pairwise_cons]
      refine ⟨fun j hj => ?_, h⟩
      rcases List.mem_cons.mp hj with e | m
      · subst e; exact l
      · exact ltT_tr l (h'.1 j m)
    · split
      · exact h
      · rename_i n1 n2
        rw [List.pairwise_cons]
        refine ⟨fun j hj => ?_, rise_insT h'.2⟩
        rcases mem_insT.mp hj with e | m
        · subst e; exact ltT_tri n1 n2
        · exact h'.1 j m
def ordT : List Tx → List Tx
  | [] => []
  | k :: ks => insT k (ordT ks)
theorem mem_ordT {j : Tx} : ∀ {ks : List Tx}, j ∈ ordT ks ↔ j ∈ ks
  | [] => Iff.rfl
  | k :: ks => by
    show j ∈ insT k (ordT ks) ↔ _
    rw [mem_insT, mem_ordT, List.mem_cons]
theorem rise_ordT : ∀ ks : List Tx, (ordT ks).Pairwise ltT
  | [] => .nil
  | k :: ks => rise_insT (rise_ordT ks)
theorem ordT_eq {ks js : List Tx} (h : ∀ k, k ∈ ks ↔ k ∈ js) : ordT ks = ordT js := riseT_one (rise_ordT _) (rise_ordT _) fun k => by rw [mem_ordT, mem_ordT, h]
theorem ordT_self {ks : List Tx} (h : ks.Pairwise ltT) : ordT ks = ks := riseT_one (rise_ordT _) h fun k => mem_ordT
def totT : List (Tx × Rat) → Tx → Rat
  | [], _ => 0
  | e :: ps, k => (if e.1 = k then e.2 else 0) + totT ps k
theorem t_tot_app (k : Tx) : ∀ ps qs : List (Tx × Rat), totT (ps ++ qs) k = totT ps k + totT qs k
  | [], qs => by
    show totT qs k = 0 + totT qs k
    grind
  | e :: ps, qs => by
    show (if e.1 = k then e.2 else 0) + totT (ps ++ qs) k = (if e.1 = k then e.2 else 0) + totT ps k + totT qs k
    rw [t_tot_app k ps qs]
    grind
theorem t_tot_none {k : Tx} : ∀ {ps : List (Tx × Rat)}, k ∉ ps.map (·.1) → totT ps k = 0
  | [], _ => rfl
  | e :: ps, h => by
    simp only [List.map_cons, List.mem_cons, not_or] at h
    have n : ¬ e.1 = k := fun z => h.1 z.symm
    show (if e.1 = k then e.2 else 0) + totT ps k = 0
    rw [if_neg n, t_tot_none h.2]
    grind
def resT (ps : List (Tx × Rat)) : List (Tx × Rat) := ((ordT (ps.map (·.1))).filter fun k => !decide (totT ps k = 0)).map fun k => (k, totT ps k)
theorem t_res_keys (ps : List (Tx × Rat)) : (resT ps).map (·.1) = (ordT (ps.map (·.1))).filter fun k => !decide (totT ps k = 0) := by
  unfold resT
  rw [List.map_map]
  exact List.map_id _
theorem t_res_rise (ps : List (Tx × Rat)) : ((resT ps).map (·.1)).Pairwise ltT := by
  rw [t_res_keys]
  exact (rise_ordT _).filter _
theorem t_rise_nodup {ks : List Tx} (h : ks.Pairwise ltT) : ks.Nodup := h.imp fun l e => by subst e; exact ltT_irr _ l
theorem t_res_ext {ps qs : List (Tx × Rat)} (h : ∀ k, totT ps k = totT qs k) : resT ps = resT qs := by
  have key : (ordT (ps.map (·.1))).filter (fun k => !decide (totT ps k = 0)) = (ordT (qs.map (·.1))).filter fun k => !decide (totT qs k = 0) := by
    refine riseT_one ((rise_ordT _).filter _) ((rise_ordT _).filter _) fun k => ?_
    simp only [List.mem_filter, mem_ordT, Bool.not_eq_true', decide_eq_false_iff_not, h k]
    constructor
    · rintro ⟨_, n⟩
      refine ⟨?_, n⟩
      by_cases m : k ∈ qs.map (·.1)
      · exact m
      · exact absurd (t_tot_none m) n
    · rintro ⟨_, n⟩
      refine ⟨?_, n⟩
      by_cases m : k ∈ ps.map (·.1)
      · exact m
      · exact absurd ((h k).symm.trans (t_tot_none m)) n
  have f : (fun k => (k, totT ps k)) = fun k => (k, totT qs k) := funext fun k => by rw [h k]
  unfold resT
  rw [key, f]
theorem t_getM_none {β : Type} {m : List (Tx × β)} {k : Tx} (h : k ∉ m.map (·.1)) : dget m k = none := by
  unfold dget
  rw [List.find?_eq_none.mpr fun e he z => h (List.mem_map.mpr ⟨e, he, of_decide_eq_true z⟩)]
  rfl
theorem t_getM_put {β : Type} {m : List (Tx × β)} {k j : Tx} {d : β} : dget (dput m k d) j = if j = k then some d else dget m j := by
  unfold dput
  split
  · rename_i a
    induction m with
    | nil => cases a
    | cons e m ih =>
      rw [List.map_cons]
      by_cases h : e.1 = k
      · rw [if_pos h]
        by_cases q : j = k
        · subst q
          simp [dget, h]
        · have n : ¬ e.1 = j := fun z => q (z.symm.trans h)
          rw [if_neg q]
          have e1 : dget ((e.1, d) :: m.map fun e => if e.1 = k then (e.1, d) else e) j = dget (m.map fun e => if e.1 = k then (e.1, d) else e) j := by simp [dget, n]
          have e2 : dget (e :: m) j = dget m j := by simp [dget, n]
          rw [e1, e2]
          clear ih a
          induction m with
          | nil => rfl
          | cons f m ih =>
            rw [List.map_cons]
            by_cases h2 : f.1 = k
            · have n2 : ¬ f.1 = j := fun z => q (z.symm.trans h2)
              rw [if_pos h2]
              have e3 : dget ((f.1, d) :: m.map fun e => if e.1 = k then (e.1, d) else e) j = dget (m.map fun e => if e.1 = k then (e.1, d) else e) j := by simp [dget, n2]
              have e4 : dget (f :: m) j = dget m j := by simp [dget, n2]
              rw [e3, e4]
              exact ih (by simp [dget, n]) (by simp [dget, n])
            · rw [if_neg h2]
              by_cases h3 : f.1 = j
              · simp [dget, h3]
              · have e3 : dget (f :: m.map fun e => if e.1 = k then (e.1, d) else e) j = dget (m.map fun e => if e.1 = k then (e.1, d) else e) j := by simp [dget, h3]
                have e4 : dget (f :: m) j = dget m j := by simp [dget, h3]
                rw [e3, e4]
                exact ih (by simp [dget, n]) (by simp [dget, n])
      · have a' : (m.any fun e => decide (e.1 = k)) = true := by simpa [h] using a
        rw [if_neg h]
        have ih' := ih a'
        by_cases q : e.1 = j
        · have n : ¬ j = k := fun z => h (q.trans z)
          rw [if_neg n]
          simp [dget, q]
        · have e1 : dget (e :: m.map fun e => if e.1 = k then (e.1, d) else e) j = dget (m.map fun e => if e.1 = k then (e.1, d) else e) j := by simp [dget, q]
          have e2 : dget (e :: m) j = dget m j := by simp [dget, q]
          rw [e1, e2]
          exact ih'
  · rename_i a
    have no : ∀ e ∈ m, ¬ e.1 = k := fun e he z => a (List.any_eq_true.mpr ⟨e, he, decide_eq_true z⟩)
    unfold dget
    rw [List.find?_append]
    by_cases q : j = k
    · subst q
      rw [if_pos rfl, List.find?_eq_none.mpr fun e he z => no e he (of_decide_eq_true z)]
      simp
    · rw [if_neg q]
      have n : ¬ k = j := fun z => q z.symm
      cases f : m.find? fun e => decide (e.1 = j) with
      | none => simp [n]
      | some x => simp
theorem t_keys_put {β : Type} {m : List (Tx × β)} {k : Tx} {d : β} : (dput m k d).map (·.1) = if k ∈ m.map (·.1) then m.map (·.1) else m.map (·.1) ++ [k] := by
  unfold dput
  have c : (m.any fun e => decide (e.1 = k)) = decide (k ∈ m.map (·.1)) := by
    rw [Bool.eq_iff_iff, List.any_eq_true, decide_eq_true_eq, List.mem_map]
    constructor
    · rintro ⟨e, h1, h2⟩
      exact ⟨e, h1, of_decide_eq_true h2⟩
    · rintro ⟨e, h1, h2⟩
      exact ⟨e, h1, decide_eq_true h2⟩
  rw [c]
  by_cases h : k ∈ m.map (·.1)
  · rw [if_pos (decide_eq_true h), if_pos h, List.map_map]
    refine List.map_congr_left fun e _ => ?_
    show (if e.1 = k then (e.1, d) else e).1 = e.1
    split <;> rfl
  · rw [if_neg (by simpa using h), if_neg h, List.map_append]
    rfl
theorem t_res_name {ps : List (Tx × Rat)} {e : Tx × Rat} (h : e ∈ resT ps) : e.1 ∈ ps.map (·.1) := by
  unfold resT at h
  obtain ⟨k, hk, rfl⟩ := List.mem_map.mp h
  exact mem_ordT.mp (List.mem_filter.mp hk).1
theorem t_tot_of {e : Tx × Rat} : ∀ {ps : List (Tx × Rat)}, (ps.map (·.1)).Nodup → e ∈ ps → totT ps e.1 = e.2
  | [], _, h => absurd h List.not_mem_nil
  | f :: ps, nd, h => by
    rw [List.map_cons, List.nodup_cons] at nd
    show (if f.1 = e.1 then f.2 else 0) + totT ps e.1 = e.2
    rcases List.mem_cons.mp h with q | q
    · subst q
      rw [if_pos rfl, t_tot_none nd.1]
      grind
    · have n : ¬ f.1 = e.1 := fun z => nd.1 (by rw [z]; exact List.mem_map_of_mem q)
      rw [if_neg n, t_tot_of nd.2 q]
      grind
theorem t_res_id {ps : List (Tx × Rat)} (h : (ps.map (·.1)).Pairwise ltT) (h0 : ∀ e ∈ ps, e.2 ≠ 0) : resT ps = ps := by
  have nd := t_rise_nodup h
  unfold resT
  rw [ordT_self h]
  have f : (ps.map (·.1)).filter (fun k => !decide (totT ps k = 0)) = ps.map (·.1) := by
    rw [List.filter_eq_self]
    intro k hk
    obtain ⟨e, he, rfl⟩ := List.mem_map.mp hk
    rw [t_tot_of nd he]
    simpa using h0 e he
  rw [f, List.map_map]
  conv => rhs; rw [← List.map_id ps]
  refine List.map_congr_left fun e he => ?_
  show (e.1, totT ps e.1) = e
  rw [t_tot_of nd he]
theorem sortT_ord {xs : List Tx} (nd : xs.Nodup) : sortT xs = ordT xs := by
  have nd2 : (sortT xs).Nodup := (sortT_perm xs).nodup_iff.mpr nd
  refine riseT_one ?_ (rise_ordT xs) fun k => by rw [(sortT_perm xs).mem_iff, mem_ordT]
  exact ((sortT_le xs).and nd2).imp fun h => ltT_of_leT h.1 h.2
theorem sortT_rise {xs : List Tx} (nd : xs.Nodup) : (sortT xs).Pairwise ltT := by
  rw [sortT_ord nd]
  exact rise_ordT xs
theorem sortT_len (xs : List Tx) : (sortT xs).length = xs.length := (sortT_perm xs).length_eq
def addM (m : List (Tx × Rat)) (e : Tx × Rat) : List (Tx × Rat) := dput m e.1 ((dget m e.1).getD 0 + e.2)
structure TabT (m ps : List (Tx × Rat)) : Prop where
  nd : (m.map (·.1)).Nodup
  mem : ∀ k, k ∈ m.map (·.1) ↔ k ∈ ps.map (·.1)
  get : ∀ k, k ∈ ps.map (·.1) → dget m k = some (totT ps k)
  len : m.length ≤ ps.length
theorem TabT.nil : TabT [] [] := ⟨.nil, fun _ => Iff.rfl, fun _ h => absurd h List.not_mem_nil, Nat.le_refl _⟩
theorem TabT.look {m ps : List (Tx × Rat)} (h : TabT m ps) (k : Tx) : (dget m k).getD 0 = totT ps k := by
  by_cases q : k ∈ ps.map (·.1)
  · rw [h.get k q]; rfl
  · rw [t_getM_none (fun z => q ((h.mem k).mp z)), t_tot_none q]; rfl
theorem TabT.put {m ps : List (Tx × Rat)} (h : TabT m ps) (e : Tx × Rat) : TabT (addM m e) (ps ++ [e]) := by
  have tk : ∀ k, totT (ps ++ [e]) k = totT ps k + (if e.1 = k then e.2 else 0) := fun k => by
    rw [t_tot_app]
    show totT ps k + ((if e.1 = k then e.2 else 0) + 0) = _
    grind
  have mk : ∀ k, k ∈ (addM m e).map (·.1) ↔ k ∈ (ps ++ [e]).map (·.1) := fun k => by
    unfold addM
    rw [t_keys_put, List.map_append, List.mem_append]
    have hk := h.mem k
    have he := h.mem e.1
    split
    · rename_i c
      constructor
      · intro z; exact .inl (hk.mp z)
      · rintro (z | z)
        · exact hk.mpr z
        · simp at z; subst z; exact c
    · rw [List.mem_append]
      constructor
      · rintro (z | z)
        · exact .inl (hk.mp z)
        · exact .inr (by simpa using z)
      · rintro (z | z)
        · exact .inl (hk.mpr z)
        · exact .inr (by simpa using z)
  refine ⟨?_, mk, fun k hk => ?_, ?_⟩
  · unfold addM
    rw [t_keys_put]
    split
    · exact h.nd
    · rename_i c
      rw [List.nodup_append]
      refine ⟨h.nd, by simp, fun a ha b hb q => ?_⟩
      rw [List.mem_singleton] at hb
      subst hb; subst q
      exact c ha
  · unfold addM
    rw [t_getM_put, tk]
    by_cases q : k = e.1
    · subst q
      rw [if_pos rfl, if_pos rfl, h.look]
    · have q' : ¬ e.1 = k := fun z => q z.symm
      rw [if_neg q, if_neg q']
      have hp : k ∈ ps.map (·.1) := by
        rw [List.map_append, List.mem_append] at hk
        rcases hk with z | z
        · exact z
        · simp at z; exact absurd z q
      rw [h.get k hp]
      congr 1
      grind
  · have : (addM m e).length = ((addM m e).map (·.1)).length := by simp
    rw [this]
    unfold addM
    rw [t_keys_put]
    have := h.len
    split
    · simp; omega
    · simp; omega
theorem TabT.foldl : ∀ (qs : List (Tx × Rat)) {m ps : List (Tx × Rat)}, TabT m ps → TabT (qs.foldl addM m) (ps ++ qs)
  | [], m, ps, h => by rw [List.append_nil]; exact h
  | e :: qs, m, ps, h => by
    have := TabT.foldl qs (h.put e)
    rw [List.append_assoc] at this
    exact this
theorem filt_res {m ps : List (Tx × Rat)} (h : TabT m ps) : (sortT (m.map Prod.fst)).filterMap (fun k => if totT ps k = 0 then none else some (k, totT ps k)) = resT ps := by
  have e : sortT (m.map Prod.fst) = ordT (ps.map (·.1)) := by
    rw [sortT_ord h.nd]
    exact ordT_eq h.mem
  rw [e]
  unfold resT
  generalize ordT (ps.map (·.1)) = l
  induction l with
  | nil => rfl
  | cons k l ih =>
    rw [List.filterMap_cons]
    by_cases q : totT ps k = 0
    · rw [if_pos q, List.filter_cons_of_neg (by simp [q])]
      exact ih
    · rw [if_neg q, List.filter_cons_of_pos (by simp [q]), List.map_cons]
      simp only [ih]
end
section
set_option Elab.async false
set_option linter.all false
set_option maxRecDepth 100000
set_option maxHeartbeats 1000000
open TL PySem L2 Res
structure Sm (d : Nat) (zs : List Tx) (s : Rat × List (Tx × Rat)) : Prop where
  n : Nu.Bd d s.1
  e : ∀ e ∈ s.2, Nu.Bd d e.2
  rise : (s.2.map (·.1)).Pairwise ltT
  nz : ∀ e ∈ s.2, e.2 ≠ 0
  sub : ∀ e ∈ s.2, e.1 ∈ zs
theorem nodup_sub {α : Type} [DecidableEq α] : ∀ {l m : List α}, l.Nodup → (∀ x ∈ l, x ∈ m) → l.length ≤ m.length
  | [], _, _, _ => Nat.zero_le _
  | x :: l, m, nd, h => by
    rw [List.nodup_cons] at nd
    have hm := h x List.mem_cons_self
    have ih := nodup_sub (l := l) (m := m.erase x) nd.2 fun y hy => (List.mem_erase_of_ne (fun e : y = x => nd.1 (e ▸ hy))).mpr (h y (List.mem_cons_of_mem _ hy))
    have := List.length_erase_of_mem hm
    have := List.length_pos_of_mem hm
    rw [List.length_cons]
    omega
section
variable {d d' : Nat} {zs : List Tx} {a b c : Rat × List (Tx × Rat)}
theorem Sm.nd (h : Sm d zs a) : (a.2.map (·.1)).Nodup := t_rise_nodup h.rise
theorem Sm.len (h : Sm d zs a) : a.2.length ≤ zs.length := by
  have := nodup_sub h.nd fun x hx => by
    obtain ⟨e, he, rfl⟩ := List.mem_map.mp hx
    exact h.sub e he
  rwa [List.length_map] at this
theorem Sm.mono (h : Sm d zs a) (l : d ≤ d') : Sm d' zs a := ⟨h.n.mono l, fun e he => (h.e e he).mono l, h.rise, h.nz, h.sub⟩
theorem Sm.id (h : Sm d zs a) : resT a.2 = a.2 := t_res_id h.rise h.nz
theorem Sm.ext (ha : Sm d zs a) (hb : Sm d' zs b) (h1 : a.1 = b.1) (h2 : ∀ k, totT a.2 k = totT b.2 k) : a = b := by
  have := t_res_ext h2
  rw [ha.id, hb.id] at this
  exact Prod.ext h1 this
theorem res_nz (ps : List (Tx × Rat)) : ∀ e ∈ resT ps, e.2 ≠ 0 := fun e he => by
  unfold resT at he
  obtain ⟨k, hk, rfl⟩ := List.mem_map.mp he
  have := (List.mem_filter.mp hk).2
  simpa using this
theorem neg1 : mkQ (-(1 : Int)) 1 = some (-1 : Rat) := by
  rw [mkQ_1]
  rfl
end
end
section
set_option Elab.async false
set_option linter.all false
set_option maxRecDepth 100000
set_option maxHeartbeats 1000000
open TL PySem L2 Res
theorem Tx.app_l (a b : Tx) : (a ++ b).s.cps.toList = a.s.cps.toList ++ b.s.cps.toList := Array.toList_append
theorem Tx.len_l (a : Tx) : a.len = a.s.cps.toList.length := by simp [Tx.len, Str.length]
theorem rangeL_at {lo : Int} {n : Nat} {pre post : List Int} {x : Int} (h : rangeL lo n = pre ++ x :: post) : x = lo + pre.length := by
  have e : (rangeL lo n)[pre.length]? = some x := by rw [h]; simp
  unfold rangeL at e
  rw [List.getElem?_map] at e
  cases q : (List.range n)[pre.length]? with
  | none => rw [q] at e; cases e
  | some j =>
    rw [q] at e
    have lt := (List.getElem?_eq_some_iff.mp q).1
    rw [List.getElem?_range (by simpa using lt)] at q
    cases q
    exact (Option.some.inj e).symm
def Wd (k : Nat) (t : Tx) : Prop := ∃ cs : List Nat, t.s.cps.toList = cs ++ [97 + k] ∧ (∀ c ∈ cs, 97 ≤ c ∧ c < 123) ∧ cs.length ≤ 6
theorem Wd.inj {j k : Nat} {t : Tx} (h : Wd j t) (h' : Wd k t) : j = k := by
  obtain ⟨cs, e, _⟩ := h
  obtain ⟨ds, e', _⟩ := h'
  rw [e] at e'
  have := (List.append_inj' e' rfl).2
  simp at this
  omega
theorem abc_at {i : Int} (h0 : 0 ≤ i) (h1 : i < 26) : ∃ c, sx_32d10c7b.at i = some c ∧ ∃ d, c.s = ⟨#[d]⟩ ∧ 97 ≤ d ∧ d < 123 := by
  have l : sx_32d10c7b.len = 26 := by decide +kernel
  obtain ⟨c, hc, _, d, hd, e⟩ := Tx.at_ok (t := sx_32d10c7b) h0 (by rw [l]; exact h1) (by rw [l]; decide)
  refine ⟨c, hc, d, e, ?_⟩
  have all : ∀ d ∈ sx_32d10c7b.s.cps.toList, 97 ≤ d ∧ d < 123 := by decide +kernel
  exact all d (List.mem_of_getElem? hd)
theorem has_sg {u x : Tx} {c : Nat} (e : x.s = ⟨#[c]⟩) : Tx.has u x = decide (c ∈ u.s.cps.toList) := by
  unfold Tx.has
  rw [e]
  exact PySem.StrLaws.found_one _ _
theorem signs_mem {t x : Tx} (h : x ∈ t.signs) : ∃ c ∈ t.s.cps.toList, x.s = ⟨#[c]⟩ := by
  have m : x.s ∈ t.signs.map (·.s) := List.mem_map_of_mem h
  rw [Tx.signs_map] at m
  obtain ⟨c, hc, e⟩ := List.mem_map.mp m
  exact ⟨c, hc, e.symm⟩
theorem is_name_of {t : Tx} (h1 : 1 ≤ t.len) (h2 : t.len ≤ 30) (h : ∀ c ∈ t.s.cps.toList, c ∈ sx_2ac8088b.s.cps.toList) : m_is_name t = .ok true := by
  unfold m_is_name
  have sl : t.signs.length = t.len := by
    have := congrArg List.length t.signs_map
    rw [List.length_map, List.length_map, ← Tx.len_l] at this
    exact this
  rw [grd_t (by omega), bind_ok, if_pos (by simp; omega), grd_t (by omega), bind_ok, lc_map (fun x => some (Tx.has sx_2ac8088b x)) () _ fun x hx => rfl, calm_ok, bind_ok]
  simp only [bind_ok]
  congr 1
  rw [List.all_eq_true]
  intro b hb
  obtain ⟨x, hx, e⟩ := List.mem_filterMap.mp hb
  obtain ⟨c, hc, ex⟩ := signs_mem hx
  cases e
  show Tx.has _ _ = true
  rw [has_sg ex]
  exact decide_eq_true (h c hc)
theorem letter_ok {c : Nat} (h0 : 97 ≤ c) (h1 : c < 123) : c ∈ sx_2ac8088b.s.cps.toList := by
  have key : ∀ k : Nat, k < 26 → 97 + k ∈ sx_2ac8088b.s.cps.toList := by decide +kernel
  have := key (c - 97) (by omega)
  rwa [show 97 + (c - 97) = c by omega] at this
theorem Wd.name {k : Nat} {t : Tx} (h : Wd k t) (hk : k < 16) : m_is_name t = .ok true := by
  obtain ⟨cs, e, h1, h2⟩ := h
  have l : t.len = cs.length + 1 := by rw [Tx.len_l, e]; simp
  refine is_name_of (by omega) (by omega) fun c hc => ?_
  rw [e] at hc
  rcases List.mem_append.mp hc with q | q
  · exact letter_ok (h1 c q).1 (h1 c q).2
  · simp at q
    exact letter_ok (by omega) (by omega)
theorem metS_nd {ys : List Str} (nd : ys.Nodup) : ∀ n, n ≤ ys.length → metS ys n = ys.take n
  | 0, _ => rfl
  | n + 1, h => by
    have ih := metS_nd nd n (by omega)
    have lt : n < ys.length := by omega
    have g : ys.getD n Str.empty = ys[n] := by simp [List.getD, List.getElem?_eq_getElem lt]
    show stepS (metS ys n) (ys.getD n Str.empty) = _
    rw [ih, g]
    unfold stepS
    have no : ¬ (ys.take n).any (· == ys[n]) = true := fun z => by
      obtain ⟨y, hy, e⟩ := List.any_eq_true.mp z
      have e' : y = ys[n] := by simpa using e
      subst e'
      obtain ⟨i, hi, e2⟩ := List.mem_iff_getElem.mp hy
      rw [List.getElem_take] at e2
      have hi' : i < n := by simp at hi; omega
      exact absurd ((List.getElem_inj nd).mp e2) (by omega)
    rw [if_neg no, List.take_add_one, List.getElem?_eq_getElem lt]
    rfl
theorem nset_nd {xs : List Tx} (nd : xs.Nodup) : nset xs = (xs.length : Int) := by
  unfold nset
  have nd2 : (xs.map (·.s)).Nodup := List.Pairwise.map _ (fun a b h e => h (Tx.ext' e)) nd
  rw [metS_nd nd2 _ (by simp)]
  simp
end
section
set_option Elab.async false
set_option linter.all false
set_option maxRecDepth 100000
set_option maxHeartbeats 1000000
open TL PySem L2 Res
theorem l_num_k58_eq {t b : Int} (h : 0 < b) (hb : b.natAbs < 2 ^ 8000) : l_num_k58 t b = .ok (Nu.q t b) := by
  have d : ∀ z, CDivA z ((Int.gcd t b : Nat) : Int) := fun z => by
    have := div_ok (t := t) (b := b) (by omega) hb
    rw [Nu.by_pos h] at this
    exact this
  have e := mkQ_q (t := t) (b := b) (by omega)
  rw [Nu.by_pos h] at e
  unfold l_num_k58
  rw [l_common_eq hb]
  simp only [bind_ok]
  rw [grd_t (d t), bind_ok, grd_t (d b), bind_ok, e]
  rfl
section
variable {a b : Rat} (ha : Nu.Bd 3000 a) (hb : Nu.Bd 3000 b)
include ha hb
theorem m_is_less_eq : m_is_less a b = .ok (decide (a.num * b.den < b.num * a.den)) := by
  unfold m_is_less
  rw [grd_t (cq ha.1 (Nu.den_abs hb) (by decide) (by decide)), bind_ok, grd_t (cq hb.1 (Nu.den_abs ha) (by decide) (by decide)), bind_ok]
end
theorem mkQ_int (k : Int) : mkQ k 1 = some (Nu.q k 1) := by
  have h := Nu.q_one k
  have := mkQ_of (Nu.q k 1)
  rw [h.1, h.2] at this
  exact this
end
section
set_option Elab.async false
set_option linter.all false
set_option maxRecDepth 100000
set_option maxHeartbeats 1000000
open TL PySem L2 Res
theorem pick3 {α : Type} {a b c : α} {i : Int} (h0 : 0 ≤ i) (h1 : i < 3) : ∃ q, atI [a, b, c] i = some q ∧ (q = a ∨ q = b ∨ q = c) := by
  have cs : i = 0 ∨ i = 1 ∨ i = 2 := by omega
  rcases cs with rfl | rfl | rfl
  · exact ⟨a, rfl, .inl rfl⟩
  · exact ⟨b, rfl, .inr (.inl rfl)⟩
  · exact ⟨c, rfl, .inr (.inr rfl)⟩
structure Shs (sh : List (Tx × Rat × Tx)) : Prop where
  at_ : ∀ i e, sh[i]? = some e → Wd (i + 1) e.1 ∧ Nu.Bd 41 e.2.1 ∧ 0 ≤ e.2.1.num ∧ e.2.2 ∈ [sx_7bc55599, sx_95c4bea1, sx_89f6229a]
  len : sh.length ≤ 2
theorem Shs.names {a : Tx} {sh : List (Tx × Rat × Tx)} (ha : Wd 0 a) (h : Shs sh) : (a :: sh.map (·.1)).Nodup := by
  rw [List.nodup_cons]
  refine ⟨fun m => ?_, ?_⟩
  · obtain ⟨e, he, rfl⟩ := List.mem_map.mp m
    obtain ⟨i, hi⟩ := List.mem_iff_getElem?.mp he
    exact absurd (ha.inj (h.at_ i e hi).1) (by omega)
  · rw [List.Nodup, List.pairwise_iff_getElem]
    intro i j hi hj lt e
    rw [List.length_map] at hi hj
    rw [List.getElem_map, List.getElem_map] at e
    have wi := (h.at_ i _ (List.getElem?_eq_getElem hi)).1
    have wj := (h.at_ j _ (List.getElem?_eq_getElem hj)).1
    rw [e] at wi
    exact absurd (wi.inj wj) (by omega)
end
section
set_option Elab.async false
set_option linter.all false
set_option maxRecDepth 100000
set_option maxHeartbeats 1000000
open TL PySem L2 Res
structure Nmo (t : Tx) : Prop where
  l1 : 1 ≤ t.len
  l2 : t.len ≤ 30
  abc : ∀ c ∈ t.s.cps.toList, c ∈ sx_2ac8088b.s.cps.toList
theorem Nmo.name {t : Tx} (h : Nmo t) : m_is_name t = .ok true := is_name_of h.l1 h.l2 h.abc
theorem fm_map {α β : Type} (f : α → β) (xs : List α) : xs.filterMap (fun x => some (f x)) = xs.map f := by rw [← List.filterMap_eq_map]; rfl
theorem join_abc {P : Nat → Prop} {a : Tx} (ha : a.s.cps.toList = []) : ∀ xs : List Tx, (∀ x ∈ xs, ∀ c ∈ x.s.cps.toList, P c) → ∀ c ∈ (Tx.join a xs).s.cps.toList, P c
  | [], _, c, hc => by
    have e : (Tx.join a []).s.cps.toList = [] := by
      show (Txt.join a.s []).cps.toList = []
      rw [TL.join_eq]; rfl
    rw [e] at hc
    cases hc
  | [x], h, c, hc => by
    have e : (Tx.join a [x]).s = x.s := by
      show Txt.join a.s [x.s] = x.s
      rw [TL.join_eq]; rfl
    rw [e] at hc
    exact h x List.mem_cons_self c hc
  | x :: y :: xs, h, c, hc => by
    have ih := join_abc ha (y :: xs) (fun z hz => h z (List.mem_cons_of_mem _ hz)) c
    have e : (Tx.join a (x :: y :: xs)).s.cps.toList = x.s.cps.toList ++ a.s.cps.toList ++ (Tx.join a (y :: xs)).s.cps.toList := by
      show (Txt.join a.s (x.s :: y.s :: xs.map (·.s))).cps.toList = _
      rw [join_cons]
      show ((x.s.cps ++ a.s.cps) ++ (Txt.join a.s (y.s :: xs.map (·.s))).cps).toList = _
      rw [Array.toList_append, Array.toList_append]
      rfl
    rw [e, ha, List.append_nil] at hc
    rcases List.mem_append.mp hc with q | q
    · exact h x List.mem_cons_self c q
    · exact ih q
end
section
set_option Elab.async false
set_option linter.all false
set_option maxRecDepth 100000
set_option maxHeartbeats 1000000
open TL PySem L2 Res
def absQ (r : Rat) : Rat := if r.num < 0 then -r else r
theorem absQ_num (r : Rat) : (absQ r).num = if r.num < 0 then -r.num else r.num := by
  unfold absQ
  split
  · rfl
  · rfl
theorem absQ_den (r : Rat) : (absQ r).den = r.den := by
  unfold absQ
  split
  · rfl
  · rfl
theorem absQ_nn (r : Rat) : 0 ≤ (absQ r).num := by
  rw [absQ_num]
  split <;> omega
theorem bd0' {n : Nat} (h : 0 < n) : Nu.Bd n (0 : Rat) := ⟨Nat.pow_pos (by decide), Nat.one_lt_pow (by omega) (by decide)⟩
theorem split_last {α : Type} {xs : List α} (h : xs ≠ []) : ∃ ys y, xs = ys ++ [y] := ⟨xs.dropLast, xs.getLast h, (List.dropLast_concat_getLast h).symm⟩
abbrev Shi := Tx × Rat × Tx
abbrev Siz := Tx × Rat × Rat × List Shi
structure ShOk (e : Shi) : Prop where
  nm : Nmo e.1
  bd : Nu.Bd 62 e.2.1
  nn : 0 ≤ e.2.1.num
  way : e.2.2 ∈ [sx_7bc55599, sx_95c4bea1, sx_89f6229a]
structure SzOk (z : Siz) : Prop where
  nm : Nmo z.1
  bl : Nu.Bd 62 z.2.1
  bm : Nu.Bd 125 z.2.2.1
  le : ¬ z.2.2.1.num * (z.2.1.den : Int) < z.2.1.num * (z.2.2.1.den : Int)
  sh : ∀ e ∈ z.2.2.2, ShOk e
  nd : (z.1 :: z.2.2.2.map (·.1)).Nodup
  len : z.2.2.2.length ≤ 12
end
section
set_option Elab.async false
set_option linter.all false
set_option maxRecDepth 100000
set_option maxHeartbeats 1000000
open TL PySem L2 Res
theorem names07 {z : Siz} (h : z.2.2.2.length ≤ 1000) : m_Size_names_k07 z = .ok (z.1 :: z.2.2.2.map (·.1)) := by
  unfold m_Size_names_k07
  rw [grd_t (by omega), bind_ok, lc_map (fun x : Shi => some x.1) () _ fun x hx => rfl, calm_ok, bind_ok]
  dsimp only
  rw [fm_map, grd_t (by simp; omega), bind_ok]
  rfl
theorem made07 {a : Tx} {l m : Rat} {sh : List Shi} (h : SzOk (a, l, m, sh)) : m_Size___init___k07 a l m sh = .ok (a, l, m, sh) := by
  have len : sh.length ≤ 12 := h.len
  unfold m_Size___init___k07
  rw [h.nm.name, bind_ok]
  simp only [Bool.not_true, Bool.false_eq_true, if_false]
  rw [m_is_less_eq (h.bm.mono (by decide)) (h.bl.mono (by decide))]
  simp only [bind_ok, decide_eq_true_eq, if_neg h.le]
  have fin : m_Size___init___k07_k1 a l m sh () = .ok (a, l, m, sh) := by
    unfold m_Size___init___k07_k1
    simp only [bind_ok]
    rw [names07 (by show sh.length ≤ 1000; omega)]
    simp only [mapE_ok, bind_ok]
    rw [grd_t (by simp; omega), bind_ok, nset_nd h.nd, if_neg (by simp)]
  have key : (Res.loop m_Size___init___k07_b2 (m_Size___init___k07_k1 a l m sh) sh ()).To (· = (a, l, m, sh)) := by
    refine To.loop (fun _ _ => True) trivial ?_ fun u _ => by cases u; rw [fin]; exact .ok rfl
    intro pre x post s hp _ nx hnx
    have hx : x ∈ sh := by rw [hp]; simp
    have e := h.sh x hx
    unfold m_Size___init___k07_b2
    rw [e.nm.name, bind_ok]
    simp only [Bool.not_true, Bool.false_eq_true, if_false]
    rw [m_is_less_eq (e.bd.mono (by decide)) (bd0' (by decide))]
    simp only [bind_ok]
    have c1 : decide (x.2.1.num * (((0 : Rat).den : Nat) : Int) < (0 : Rat).num * ((x.2.1.den : Nat) : Int)) = false := by
      refine decide_eq_false ?_
      have := e.nn
      show ¬ x.2.1.num * ((1 : Nat) : Int) < 0 * ((x.2.1.den : Nat) : Int)
      omega
    rw [c1, decide_eq_true e.way]
    simp only [Bool.not_true, Bool.or_false, Bool.false_eq_true, if_false]
    exact hnx () trivial
  obtain ⟨v, e, rfl⟩ := key
  exact e
def due (z : Siz) (w : Tx) (v : Rat) : Rat := if w = sx_7bc55599 then 0 else if w = sx_95c4bea1 then v - z.2.1 else z.2.2.1 - v
end
section
set_option Elab.async false
set_option linter.all false
set_option maxRecDepth 100000
set_option maxHeartbeats 1000000
open TL PySem L2 Res
def nmz (z : Siz) : List Tx := z.1 :: z.2.2.2.map (·.1)
def alln (zs : List Siz) : List Tx := zs.flatMap nmz
structure StOk (zs : List Siz) : Prop where
  sz : ∀ z ∈ zs, SzOk z
  nd : (alln zs).Nodup
  le : (alln zs).length ≤ 12
theorem alln_app (xs ys : List Siz) : alln (xs ++ ys) = alln xs ++ alln ys := by simp [alln]
theorem alln_cons (z : Siz) (ys : List Siz) : alln (z :: ys) = nmz z ++ alln ys := rfl
theorem alln_len : ∀ zs : List Siz, zs.length ≤ (alln zs).length
  | [] => Nat.le_refl _
  | z :: zs => by
    have := alln_len zs
    rw [alln_cons, List.length_append]
    simp [nmz]
    omega
theorem snames_eq {zs : List Siz} (ok : StOk zs) : m_Stock_names zs = .ok (alln zs) := by
  have key : (m_Stock_names zs).To (· = alln zs) := by
    unfold m_Stock_names
    refine To.v (To.loop (fun pre (s : List Tx) => s = alln pre) rfl ?_ fun s hs => .ok hs)
    intro pre x post s hp hs nx hnx
    subst hs
    have hx : x ∈ zs := by rw [hp]; simp
    have l1 := (ok.sz x hx).len
    have l2 : (alln pre).length ≤ 12 := by
      have := ok.le
      rw [hp, alln_app, List.length_append] at this
      omega
    unfold m_Stock_names_b2
    rw [names07 (by omega)]
    refine To.v (To.g (by simp; omega) (hnx _ ?_))
    show alln pre ++ nmz x = alln (pre ++ [x])
    rw [alln_app]
    simp [alln]
  obtain ⟨r, e, rfl⟩ := key
  exact e
theorem stock_eq {zs : List Siz} (ok : StOk zs) : m_Stock___init__ zs = .ok zs := by
  have le := ok.le
  unfold m_Stock___init__
  rw [bind_ok, snames_eq ok, mapE_ok, bind_ok, bind_ok, grd_t (by omega), bind_ok, nset_nd ok.nd, if_neg (by simp)]
end
section
set_option Elab.async false
set_option linter.all false
set_option maxRecDepth 100000
set_option maxHeartbeats 1000000
open TL PySem L2 Res
def room (z : Siz) (e : Shi) (v : Rat) : Rat := e.2.1 + due z e.2.2 v
def shk (z : Siz) (mk : List (Tx × Rat)) (v : Rat) (e : Shi) : Bool := match dget mk e.1 with
  | none => false
  | some t => !decide (t < 0 - room z e v) && !decide (room z e v < t)
def kept (mk : List (Tx × Rat)) (z : Siz) : Bool := match dget mk z.1 with
  | none => false
  | some v => (!decide (v < z.2.1) && !decide (z.2.2.1 < v)) && z.2.2.2.all (shk z mk v)
def keepsB (zs : List Siz) (mk : List (Tx × Rat)) : Bool := decide (sortT (mk.map Prod.fst) = sortT (alln zs)) && zs.all (kept mk)
def AllBd (n : Nat) (mk : List (Tx × Rat)) : Prop := ∀ p ∈ mk, Nu.Bd n p.2
theorem absQ_bd {n : Nat} {t : Rat} (h : Nu.Bd n t) : Nu.Bd n (absQ t) := by
  refine ⟨?_, ?_⟩
  · rw [absQ_num]
    have := h.1
    split <;> omega
  · rw [absQ_den]
    exact h.2
theorem mkQ_abs (t : Rat) : mkQ (if t.num < 0 then -t.num else t.num) ((t.den : Nat) : Int) = some (absQ t) := by
  rw [← mkQ_of (absQ t), absQ_num, absQ_den]
end
section
set_option Elab.async false
set_option linter.all false
set_option maxRecDepth 100000
set_option maxHeartbeats 1000000
open TL PySem L2 Res
end
section
set_option Elab.async false
set_option linter.all false
set_option maxRecDepth 100000
set_option synthInstance.maxSize 4000
set_option maxHeartbeats 1000000
open TL PySem L2 Res
structure SzW (z : Siz) : Prop where
  nm : Nmo z.1
  bl : Nu.Bd 900 z.2.1
  bm : Nu.Bd 900 z.2.2.1
  le : ¬ z.2.2.1.num * (z.2.1.den : Int) < z.2.1.num * (z.2.2.1.den : Int)
  sh : ∀ e ∈ z.2.2.2, ShOk e
  nd : (nmz z).Nodup
  len : z.2.2.2.length ≤ 12
theorem SzOk.w {z : Siz} (h : SzOk z) : SzW z := ⟨h.nm, h.bl.mono (by decide), h.bm.mono (by decide), h.le, h.sh, h.nd, h.len⟩
structure StW (zs : List Siz) : Prop where
  sz : ∀ z ∈ zs, SzW z
  nd : (alln zs).Nodup
  le : (alln zs).length ≤ 30
theorem StOk.w {zs : List Siz} (h : StOk zs) : StW zs := ⟨fun z hz => (h.sz z hz).w, h.nd, Nat.le_trans h.le (by decide)⟩
end
section
set_option Elab.async false
set_option linter.all false
set_option maxRecDepth 100000
set_option synthInstance.maxSize 4000
set_option maxHeartbeats 1000000
open TL PySem L2 Res
theorem cut_pre {α : Type} (xs : List α) (k : Nat) : cutL xs none (some (k : Int)) = xs.take k := by
  unfold cutL
  rw [HT.sIx_nat, HT.sIx_none]
  simp only [Nat.sub_zero, List.drop_zero]
  rcases Nat.le_total k xs.length with q | q
  · rw [Nat.min_eq_left q]
  · rw [Nat.min_eq_right q, List.take_of_length_le (Nat.le_refl _), List.take_of_length_le q]
end
section
set_option Elab.async false
set_option linter.all false
set_option maxRecDepth 100000
set_option maxHeartbeats 1000000
open TL PySem L2 Res
structure Nm8 (t : Tx) : Prop where
  l1 : 1 ≤ t.len
  l2 : t.len ≤ 8
  abc : ∀ c ∈ t.s.cps.toList, 97 ≤ c ∧ c < 123
theorem abc_in : ∀ c : Nat, c < 123 → 97 ≤ c → c ∈ sx_2ac8088b.s.cps.toList := by decide +kernel
theorem abc26_in : ∀ c : Nat, c < 123 → 97 ≤ c → c ∈ sx_32d10c7b.s.cps.toList := by decide +kernel
theorem Nm8.nmo {t : Tx} (h : Nm8 t) : Nmo t := ⟨h.l1, by have := h.l2; omega, fun c hc => abc_in c (h.abc c hc).2 (h.abc c hc).1⟩
theorem part_name {t : Tx} (h : Nm8 t) : m_is_name_parts t = .ok true := by
  have h1 := h.l1
  have h2 := h.l2
  have sl : t.signs.length = t.len := by
    have := congrArg List.length t.signs_map
    rw [List.length_map, List.length_map, ← Tx.len_l] at this
    exact this
  unfold m_is_name_parts
  rw [if_neg (by decide), grd_t (by omega), bind_ok, bind_ok]
  dsimp only
  rw [if_neg (by simp; omega), grd_t (by omega), bind_ok, lc_map (fun x => some (Tx.has sx_32d10c7b x)) () _ fun x hx => rfl, calm_ok, bind_ok]
  congr 1
  rw [List.all_eq_true]
  intro b hb
  obtain ⟨x, hx, e⟩ := List.mem_filterMap.mp hb
  obtain ⟨c, hc, ex⟩ := signs_mem hx
  cases e
  rw [has_sg ex]
  exact decide_eq_true (abc26_in c (h.abc c hc).2 (h.abc c hc).1)
theorem cut_last (t : Tx) : (t.cut none (some (-(1 : Int)))).s.cps.toList = t.s.cps.toList.take (t.s.cps.toList.length - 1) := by
  show (((t.s.cps.toList.drop (HT.sIx t.s.length 0 none)).take (HT.sIx t.s.length t.s.length (some (-(1 : Int))) - HT.sIx t.s.length 0 none)).toArray).toList = _
  have : t.s.length = t.s.cps.toList.length := by simp [Str.length]
  have e : HT.sIx t.s.cps.toList.length t.s.cps.toList.length (some (-(1 : Int))) = t.s.cps.toList.length - 1 := by
    show (if (-(1 : Int)) < 0 then ((-(1 : Int)) + ((t.s.cps.toList.length : Nat) : Int)).toNat else min (-(1 : Int)).toNat t.s.cps.toList.length) = _
    rw [if_pos (by decide)]
    omega
  rw [this, HT.sIx_none, e, Nat.sub_zero, List.drop_zero]
theorem at_last {t : Tx} {b : List Nat} {d : Nat} (h : t.s.cps.toList = b ++ [d]) (hl : t.len ≤ 100000) : ∃ c, t.at (-(1 : Int)) = some c ∧ c.s = ⟨#[d]⟩ := by
  have e : atI t.s.cps.toList (-(1 : Int)) = some d := by
    unfold atI ixN
    rw [if_neg (by decide), h, if_pos (by simp; omega), Option.bind_some]
    have : ((-(1 : Int)) + ((b ++ [d]).length : Int)).toNat = b.length := by simp; omega
    rw [this]
    simp
  unfold Tx.at
  rw [if_pos (show t.s.length ≤ 100000 from hl)]
  split
  · rename_i c hc
    rw [e] at hc
    cases hc
    exact ⟨_, rfl, rfl⟩
  · rename_i hc
    rw [e] at hc
    cases hc
theorem ix26 : ∀ j : Fin 26, sx_32d10c7b.index? (Tx.sg (97 + j) (by omega)) = some ((j : Nat) : Int) := by decide +kernel
theorem ix_of {c : Tx} {j : Nat} (hj : j < 26) (e : c.s = ⟨#[97 + j]⟩) : sx_32d10c7b.index? c = some ((j : Nat) : Int) := by
  have : c = Tx.sg (97 + j) (by omega) := Tx.ext' e
  rw [this]
  exact ix26 ⟨j, hj⟩
theorem at26 {j : Nat} (hj : j < 26) : ∃ c, sx_32d10c7b.at ((j : Nat) : Int) = some c ∧ c.len = 1 ∧ c.s = ⟨#[97 + j]⟩ := by
  have l : sx_32d10c7b.len = 26 := by decide +kernel
  obtain ⟨c, hc, cl, d, hd, e⟩ := Tx.at_ok (t := sx_32d10c7b) (i := ((j : Nat) : Int)) (by omega) (by rw [l]; omega) (by rw [l]; decide)
  refine ⟨c, hc, cl, ?_⟩
  have key : ∀ k : Nat, k < 26 → sx_32d10c7b.s.cps.toList[((k : Int)).toNat]? = some (97 + k) := by decide +kernel
  rw [key j hj] at hd
  rw [e, ← Option.some.inj hd]
theorem num16_to {n : Nat} {w : List Int} (h : Wl n w) (hn : n ≤ 2 ^ 38) : (l_number_k16 w).To fun r => Nu.Bd 40 r.1 ∧ Wl (n + 3) r.2 := by
  have p38 : (2 : Nat) ^ 38 = 274877906944 := by decide
  have p40 : (2 : Nat) ^ 40 = 1099511627776 := by decide
  have bg : ∀ b : Int, 0 < b → b < 200000000 → b.natAbs < 2 ^ 8000 := fun b _ _ => Nat.lt_of_lt_of_le (show b.natAbs < 2 ^ 40 by omega) (Nat.pow_le_pow_right (by decide) (by decide))
  unfold l_number_k16
  refine To.b (take_to h (by decide) (by decide) (by omega)) fun z ⟨z0, z1, hz⟩ => To.v (To.i (fun _ => ?_) fun _ => To.i (fun _ => ?_) fun _ => ?_)
  · refine To.g (cmulw 2 40 (by decide) (by decide)) (To.b (take_to hz (by decide) (by decide) (by omega)) fun u ⟨u0, u1, hu⟩ => To.b (take_to hu (by decide) (by decide) (by omega)) fun v ⟨v0, v1, hv⟩ => ?_)
    rw [l_num_k58_eq (by omega) (bg _ (by omega) (by omega)), mapE_ok]
    exact To.v (.ok ⟨Nu.q_bd (by omega) (by omega) (by omega), hv⟩)
  · refine To.b (take_to hz (by decide) (by decide) (by omega)) fun u ⟨u0, u1, hu⟩ => To.b (take_to hu (by decide) (by decide) (by omega)) fun v ⟨v0, v1, hv⟩ => ?_
    rw [l_num_k58_eq (by omega) (bg _ (by omega) (by omega)), mapE_ok]
    exact To.v (.ok ⟨Nu.q_bd (by omega) (by omega) (by omega), hv⟩)
  · refine To.b (take_to hz (by decide) (by decide) (by omega)) fun u ⟨u0, u1, hu⟩ => To.o (mkQ_int _) (.ok ⟨Nu.q_bd (by omega) (by decide) (by decide), hu.up (by omega)⟩)
theorem add16 {a b : Rat} (ha : Nu.Bd 3000 a) (hb : Nu.Bd 3000 b) : l_add_k16 a b = .ok (a + b) := by
  unfold l_add_k16
  have dp : (0 : Int) < (a.den : Int) * (b.den : Int) := Int.mul_pos (by have := a.den_pos; omega) (by have := b.den_pos; omega)
  rw [grd_t (cq ha.1 (Nu.den_abs hb) (by decide) (by decide)), bind_ok, grd_t (cq hb.1 (Nu.den_abs ha) (by decide) (by decide)), bind_ok, grd_t (cq (Nu.den_abs ha) (Nu.den_abs hb) (by decide) (by decide)), bind_ok,
    l_num_k58_eq dp (dd_small ha hb), bind_ok, Nu.plus_is]
end
section
set_option Elab.async false
set_option linter.all false
set_option maxRecDepth 100000
set_option maxHeartbeats 1000000
open TL PySem L2 Res
theorem atI_end {α : Type} (xs : List α) (x : α) : atI (xs ++ [x]) (-(1 : Int)) = some x := by
  unfold atI ixN
  rw [if_neg (by decide), if_pos (by simp; omega), Option.bind_some]
  have : ((-(1 : Int)) + ((xs ++ [x]).length : Int)).toNat = xs.length := by simp; omega
  rw [this]
  simp
structure Own8 (zs : List Siz) : Prop where
  st : StOk zs
  nm : ∀ t ∈ alln zs, Nm8 t
theorem nodup_snoc {α : Type} {xs : List α} {x : α} (h : xs.Nodup) (n : x ∉ xs) : (xs ++ [x]).Nodup := List.nodup_append.mpr ⟨h, by simp, fun a ha b hb e => n (by rw [List.mem_singleton.mp hb] at e; exact e ▸ ha)⟩
end
section
set_option Elab.async false
set_option linter.all false
set_option maxRecDepth 100000
set_option maxHeartbeats 1000000
open TL PySem L2 Res
theorem AllBd.put {n : Nat} {m : List (Tx × Rat)} {k : Tx} {d : Rat} (h : AllBd n m) (hd : Nu.Bd n d) : AllBd n (dput m k d) := by
  intro p hp
  unfold dput at hp
  split at hp
  · obtain ⟨e, he, rfl⟩ := List.mem_map.mp hp
    split
    · exact hd
    · exact h e he
  · rcases List.mem_append.mp hp with q | q
    · exact h p q
    · simp at q
      subst q
      exact hd
theorem AllBd.mono {n m : Nat} {d : List (Tx × Rat)} (h : AllBd n d) (l : n ≤ m) : AllBd m d := fun p hp => (h p hp).mono l
structure Mkg (zs : List Siz) (d : List (Tx × Rat)) : Prop where
  keys : d.map (·.1) = alln zs
  bd : AllBd 500 d
  kp : ∀ z ∈ zs, kept d z = true
structure Mkg1 (pre : List Siz) (z : Siz) (ps : List Shi) (v : Rat) (d : List (Tx × Rat)) : Prop where
  keys : d.map (·.1) = alln pre ++ z.1 :: ps.map (·.1)
  bd : AllBd 500 d
  kp : ∀ z ∈ pre, kept d z = true
  vb : Nu.Bd 300 v
  val : dget d z.1 = some v
  sh : ∀ e ∈ ps, ∃ t, dget d e.1 = some t ∧ ¬ t < 0 - room z e v ∧ ¬ room z e v < t
section
variable {zs pre post : List Siz} {z : Siz} {d : List (Tx × Rat)} {v x : Rat} (ok : StOk zs) (hp : zs = pre ++ z :: post)
include ok hp
end
theorem Mkg.nil : Mkg [] [] := ⟨rfl, (fun p hp => by cases hp), fun z hz => by cases hz⟩
theorem Mkg.keeps {zs : List Siz} {d : List (Tx × Rat)} (h : Mkg zs d) : keepsB zs d = true := by
  unfold keepsB
  rw [show d.map Prod.fst = alln zs from h.keys, decide_eq_true rfl, Bool.true_and]
  exact List.all_eq_true.mpr h.kp
end
section
set_option Elab.async false
set_option linter.all false
set_option maxRecDepth 100000
set_option maxHeartbeats 1000000
open TL PySem L2 Res
structure Bn (d : List (Tx × Rat)) : Prop where
  nd : (d.map (·.1)).Nodup
  bd : AllBd 1100 d
  le : d.length ≤ 20
theorem Bn.put {m : List (Tx × Rat)} {k : Tx} {x : Rat} (h : Bn m) (hm : m.length ≤ 15) (hx : Nu.Bd 1100 x) : Bn (dput m k x) := by
  have kk := t_keys_put (m := m) (k := k) (d := x)
  refine ⟨?_, h.bd.put hx, ?_⟩
  · show ((dput m k x).map (·.1)).Nodup
    rw [kk]
    split
    · exact h.nd
    · rename_i c
      rw [List.nodup_append]
      exact ⟨h.nd, by simp, fun a ha b hb e => by simp at hb; subst hb; subst e; exact c ha⟩
  · have := congrArg List.length kk
    simp at this
    split at this <;> simp at this <;> omega
theorem Bn.drop {m : List (Tx × Rat)} {k : Tx} (h : Bn m) : Bn (ddrop m k) := by
  unfold ddrop
  refine ⟨List.Sublist.nodup (List.Sublist.map _ List.filter_sublist) h.nd, fun p hp => h.bd p ((List.mem_filter.mp hp).1), ?_⟩
  exact Nat.le_trans (List.length_filter_le _ _) h.le
theorem dget_self {p : Tx × Rat} : ∀ {m : List (Tx × Rat)}, (m.map (·.1)).Nodup → p ∈ m → dget m p.1 = some p.2
  | [], _, hp => by cases hp
  | q :: m, nd, hp => by
    rw [List.map_cons, List.nodup_cons] at nd
    rcases List.mem_cons.mp hp with rfl | hp'
    · simp [dget]
    · have ne : q.1 ≠ p.1 := fun e => nd.1 (e ▸ List.mem_map_of_mem hp')
      have ih := dget_self nd.2 hp'
      unfold dget at ih ⊢
      rw [List.find?_cons]
      simp only [ne, decide_false]
      exact ih
end
section
set_option Elab.async false
set_option linter.all false
set_option maxRecDepth 100000
set_option maxHeartbeats 1000000
open TL PySem L2 Res
theorem sum16_to {n : Nat} {w : List Int} {ns : List Tx} (h : Wl n w) (hn : n ≤ 2 ^ 37) (nd : ns.Nodup) (hl : ns.length ≤ 30) : (l_sum_k16 w ns).To fun r => Sm 40 ns r.1 ∧ Wl (n + 200) r.2 := by
  have p37 : (2 : Nat) ^ 37 = 137438953472 := by decide
  have p38 : (2 : Nat) ^ 38 = 274877906944 := by decide
  have p40 : (2 : Nat) ^ 40 = 1099511627776 := by decide
  unfold l_sum_k16
  refine To.v (To.g (by omega) ?_)
  have rise := sortT_rise nd
  have sl := sortT_len ns
  refine To.loop (fun pre (s : List (Tx × Rat) × List Int) => (s.1.map (·.1)).Sublist pre ∧ (∀ e ∈ s.1, Nu.Bd 40 e.2 ∧ e.2 ≠ 0) ∧ Wl (n + 5 * pre.length) s.2) ⟨List.nil_sublist _, (fun e he => by cases he), h⟩ ?_ ?_
  · rintro pre x post ⟨ps, v⟩ hp ⟨i1, i2, i3⟩ nx hnx
    dsimp only at i1 i2 i3
    have pl : pre.length < 30 := by
      have := congrArg List.length hp
      rw [sl, List.length_append, List.length_cons] at this
      omega
    have psl : ps.length ≤ pre.length := by
      have := i1.length_le
      rwa [List.length_map] at this
    have fin : ∀ (f : Rat) (u : List Int), Nu.Bd 40 f → Wl (n + 5 * pre.length + 4) u → (l_sum_k16_k3 (ps, v) x nx (f, u)).To fun r => Sm 40 ns r.1 ∧ Wl (n + 200) r.2 := fun f u fb hu => by
      unfold l_sum_k16_k3
      dsimp only
      refine To.i (fun c => ?_) fun _ => ?_
      · refine To.g (by omega) ?_
        unfold l_sum_k16_k2
        refine hnx _ ⟨?_, ?_, hu.up (by rw [List.length_append, List.length_singleton]; omega)⟩
        · show ((ps ++ [(x, f)]).map (·.1)).Sublist (pre ++ [x])
          rw [List.map_append]
          exact i1.append (List.Sublist.refl _)
        · intro e he
          rcases List.mem_append.mp he with r | r
          · exact i2 e r
          · rw [List.mem_singleton.mp r]
            refine ⟨fb, fun z => ?_⟩
            have z' : f = 0 := z
            rw [z'] at c
            simp at c
      · unfold l_sum_k16_k2
        exact hnx _ ⟨i1.trans (List.sublist_append_left _ _), i2, hu.up (by rw [List.length_append, List.length_singleton]; omega)⟩
    unfold l_sum_k16_b4
    refine To.b (take_to i3 (by decide) (by decide) (by omega)) fun y ⟨y0, y1, hy⟩ => To.v ?_
    dsimp only
    refine To.o neg1 ?_
    obtain ⟨f, hf, fe⟩ := atI_mem' (xs := [(0 : Rat), 0, 1, -1, 2, 0]) y0 (by show _ < ((6 : Nat) : Int); omega)
    have fb : Nu.Bd 40 f := by
      have all : ∀ f ∈ [(0 : Rat), 0, 1, -1, 2, 0], f.num.natAbs < 2 ^ 40 ∧ f.den < 2 ^ 40 := by decide +kernel
      exact all f hf
    refine To.o fe (To.v (To.i (fun _ => ?_) fun _ => ?_))
    · exact To.b (num16_to hy (by omega)) fun u ⟨u1, hu⟩ => To.v (fin _ _ u1 (hu.up (by omega)))
    · exact fin _ _ fb (hy.up (by omega))
  · rintro ⟨ps, v⟩ ⟨i1, i2, i3⟩
    dsimp only at i1 i2 i3
    rw [sl] at i3
    unfold l_sum_k16_k1
    refine To.b (num16_to i3 (by omega)) fun u ⟨u1, hu⟩ => .ok ⟨⟨u1, fun e he => (i2 e he).1, rise.sublist i1, fun e he => (i2 e he).2, fun e he => ?_⟩, hu.up (by omega)⟩
    exact (sortT_perm ns).mem_iff.mp (i1.subset (List.mem_map_of_mem he))
abbrev SumT := Rat × List (Tx × Rat)
def addS (a b : SumT) : SumT := (a.1 + b.1, resT (a.2 ++ b.2))
theorem tot_le {ps : List (Tx × Rat)} {d : Nat} {k : Tx} (nd : (ps.map (·.1)).Nodup) (hb : ∀ e ∈ ps, Nu.Bd d e.2) (h0 : 0 < d) : Nu.Bd d (totT ps k) := by
  by_cases c : k ∈ ps.map (·.1)
  · obtain ⟨e, he, rfl⟩ := List.mem_map.mp c
    rw [t_tot_of nd he]
    exact hb e he
  · rw [t_tot_none c]
    exact bd0' h0
section
variable {d e : Nat} {zs : List Tx} {a b : SumT}
theorem tot2 (ha : Sm d zs a) (hb : Sm e zs b) (d0 : 0 < d) (e0 : 0 < e) (k : Tx) : Nu.Bd (d + e + 1) (totT (a.2 ++ b.2) k) := by
  rw [t_tot_app]
  exact Nu.plus_bd (tot_le ha.nd ha.e d0) (tot_le hb.nd hb.e e0)
theorem tot_pre {pre post : List (Tx × Rat)} (ha : Sm d zs a) (hb : Sm e zs b) (d0 : 0 < d) (e0 : 0 < e) (hp : a.2 ++ b.2 = pre ++ post) (k : Tx) : Nu.Bd (d + e + 1) (totT pre k) := by
  rcases List.append_eq_append_iff.mp hp with ⟨c, h1, h2⟩ | ⟨c, h1, h2⟩
  · rw [h1, t_tot_app]
    have n2 : (c.map (·.1)).Nodup := by
      have := hb.nd
      rw [h2, List.map_append] at this
      exact (List.nodup_append.mp this).1
    exact Nu.plus_bd (tot_le ha.nd ha.e d0) (tot_le n2 (fun f hf => hb.e f (by rw [h2]; exact List.mem_append_left _ hf)) e0)
  · have n2 : (pre.map (·.1)).Nodup := by
      have := ha.nd
      rw [h1, List.map_append] at this
      exact (List.nodup_append.mp this).1
    exact (tot_le n2 (fun f hf => ha.e f (by rw [h1]; exact List.mem_append_left _ hf)) d0).mono (by omega)
theorem m_sum_of_pre {n : Rat} {ps : List (Tx × Rat)} (hb : ∀ e ∈ ps, Nu.Bd 3000 e.2) (hc : ∀ pre post, ps = pre ++ post → ∀ k, Nu.Bd 3000 (totT pre k)) (hl : ps.length ≤ 62) : m_sum_of n ps = .ok (n, resT ps) := by
  unfold m_sum_of
  rw [bind_ok]
  have key := loop_foldI (ε := Unit) (body := m_sum_of_b2) (k := m_sum_of_k1 n) addM (fun pre m => TabT m pre) (xs := ps) (s0 := []) TabT.nil fun pre e post m hp hm => ⟨fun nx => ?_, hm.put e⟩
  · obtain ⟨e1, e2⟩ := key
    rw [e1]
    have len := e2.len
    unfold m_sum_of_k1
    rw [grd_t (by omega), bind_ok, grd_t (by rw [sortT_len, List.length_map]; omega), bind_ok]
    rw [lc_map (fun k => if totT ps k = 0 then none else some (k, totT ps k)) () _ fun k hk => ?_]
    · simp only [calm_ok, bind_ok]
      rw [filt_res e2]
    · have hk2 : k ∈ (ps.foldl addM []).map (·.1) := (sortT_perm _).mem_iff.mp hk
      have g := e2.get k ((e2.mem k).mp hk2)
      rw [g]
      simp only [opt_some, bind_ok]
      by_cases q : totT ps k = 0
      · simp [q]
      · simp [q]
  · unfold m_sum_of_b2
    have lk := hm.look e.1
    rw [lk]
    have ml := hm.len
    have pl : pre.length ≤ ps.length := by rw [hp, List.length_append]; omega
    rw [m_plus_eq (hc pre _ hp e.1) (hb e (by rw [hp]; exact List.mem_append_right _ List.mem_cons_self)), bind_ok, grd_t (by omega), bind_ok]
    unfold addM
    rw [lk]
theorem addS_sm (ha : Sm d zs a) (hb : Sm e zs b) (d0 : 0 < d) (e0 : 0 < e) : Sm (d + e + 1) zs (addS a b) where
  n := Nu.plus_bd ha.n hb.n
  e := fun f hf => by
    have hf' : f ∈ resT (a.2 ++ b.2) := hf
    unfold resT at hf'
    obtain ⟨k, _, rfl⟩ := List.mem_map.mp hf'
    exact tot2 ha hb d0 e0 k
  rise := t_res_rise _
  nz := res_nz _
  sub := fun f hf => by
    obtain ⟨g, hg, e1⟩ := List.mem_map.mp (t_res_name hf)
    rw [← e1]
    exact (List.mem_append.mp hg).elim (ha.sub g) (hb.sub g)
theorem plusS_eq (hz : zs.length ≤ 30) (ha : Sm d zs a) (hb : Sm e zs b) (d0 : 0 < d) (e0 : 0 < e) (h : d + e < 3000) : m_sum_plus a b = .ok (addS a b) := by
  have la := ha.len
  have lb := hb.len
  unfold m_sum_plus
  rw [m_plus_eq (ha.n.mono (by omega)) (hb.n.mono (by omega)), bind_ok, grd_t (by omega), bind_ok,
    m_sum_of_pre (fun f hf => (List.mem_append.mp hf).elim (fun q => (ha.e f q).mono (by omega)) fun q => (hb.e f q).mono (by omega)) (fun pre post hp k => (tot_pre ha hb d0 e0 hp k).mono (by omega)) (by rw [List.length_append]; omega), bind_ok]
  rfl
end
theorem dof_nd {α : Type} : ∀ {ps : List (Tx × α)}, (ps.map (·.1)).Nodup → dof ps = ps := by
  intro ps nd
  have key : ∀ (post pre : List (Tx × α)), ((pre ++ post).map (·.1)).Nodup → post.foldl (fun a e => dput a e.1 e.2) pre = pre ++ post := by
    intro post
    induction post with
    | nil => intro pre _; simp
    | cons x post ih =>
      intro pre nd
      have hx : x.1 ∉ pre.map (·.1) := fun hm => by
        rw [List.map_append, List.map_cons] at nd
        exact (List.nodup_append.mp nd).2.2 _ hm _ List.mem_cons_self rfl
      have e : dput pre x.1 x.2 = pre ++ [x] := by
        unfold dput
        rw [if_neg]
        simp only [List.any_eq_true, decide_eq_true_eq, not_exists, not_and]
        intro y hy ey
        exact hx (List.mem_map.mpr ⟨y, hy, ey⟩)
      rw [List.foldl_cons, e, ih _ (by rw [List.append_assoc]; exact nd), List.append_assoc]
      rfl
  have := key ps [] (by simpa using nd)
  simpa [dof] using this
theorem tab_self {ps : List (Tx × Rat)} (nd : (ps.map (·.1)).Nodup) : TabT ps ps := ⟨nd, fun _ => Iff.rfl, fun k hk => by
  obtain ⟨e, he, rfl⟩ := List.mem_map.mp hk
  rw [dget_self nd he, t_tot_of nd he], Nat.le_refl _⟩
def mapS (f : Rat → Rat) (b : SumT) : SumT := (f b.1, b.2.map fun e => (e.1, f e.2))
def negS (b : SumT) : SumT := mapS (fun r => -r) b
theorem lplus_eq {d e : Nat} {zs : List Tx} {a b : SumT} {s : Int} {f : Rat → Rat} (hz : zs.length ≤ 30) (ha : Sm d zs a) (hb : Sm e zs (mapS f b)) (hs : ∀ r : Rat, Nu.Bd 3000 (f r) → CMulW s r.num ∧ mkQ (s * r.num) ((r.den : Nat) : Int) = some (f r)) (d0 : 0 < d) (e0 : 0 < e) (h : d + e < 3000) : l_plus a b s = .ok (addS a (mapS f b)) := by
  have la := ha.len
  have lb := hb.len
  have fl : (b.2.map fun e => (e.1, f e.2)).length = b.2.length := by simp
  have lb' : b.2.length ≤ 30 := by
    have : (b.2.map fun e => (e.1, f e.2)).length ≤ zs.length := lb
    omega
  unfold l_plus
  rw [bind_ok, dof_nd ha.nd]
  have key := loop_foldI (ε := Unit) (body := l_plus_b2 s) (k := l_plus_k1 a b s) (fun m (e : Tx × Rat) => addM m (e.1, f e.2)) (fun pre m => TabT m (a.2 ++ pre.map fun e => (e.1, f e.2))) (xs := b.2) (s0 := a.2) (by rw [List.map_nil, List.append_nil]; exact tab_self ha.nd) fun pre x post m hp hm => ⟨fun nx => ?_, ?_⟩
  · obtain ⟨e1, e2⟩ := key
    rw [e1]
    have len := e2.len
    rw [List.length_append, List.length_map] at len
    unfold l_plus_k1
    rw [grd_t (by omega), bind_ok, grd_t (by rw [sortT_len, List.length_map]; omega), bind_ok]
    rw [lc_map (fun k => if totT (a.2 ++ b.2.map fun e => (e.1, f e.2)) k = 0 then none else some (k, totT (a.2 ++ b.2.map fun e => (e.1, f e.2)) k)) () _ fun k hk => ?_]
    · simp only [calm_ok, bind_ok]
      obtain ⟨q1, q2⟩ := hs b.1 (hb.n.mono (by omega))
      rw [filt_res e2, grd_t q1, bind_ok, q2, opt_some, bind_ok, add16 (b := f b.1) (ha.n.mono (by omega)) (show Nu.Bd 3000 (f b.1) from hb.n.mono (by omega)), bind_ok]
      rfl
    · have hk2 := (sortT_perm _).mem_iff.mp hk
      have g := e2.get k ((e2.mem k).mp hk2)
      rw [g]
      simp only [opt_some, bind_ok]
      by_cases q : totT (a.2 ++ b.2.map fun e => (e.1, f e.2)) k = 0
      · simp [q]
      · simp [q, Rat.num_eq_zero]
  · have hx : x ∈ b.2 := by rw [hp]; simp
    have bx : Nu.Bd e (f x.2) := hb.e (x.1, f x.2) (List.mem_map.mpr ⟨x, hx, rfl⟩)
    obtain ⟨q1, q2⟩ := hs x.2 (bx.mono (by omega))
    have lk := hm.look x.1
    have ml := hm.len
    rw [List.length_append, List.length_map] at ml
    have pl : pre.length ≤ b.2.length := by rw [hp, List.length_append]; omega
    have tb : Nu.Bd 3000 (totT (a.2 ++ pre.map fun e => (e.1, f e.2)) x.1) := (tot_pre (b := mapS f b) (post := (x :: post).map fun e => (e.1, f e.2)) ha hb d0 e0 (by show a.2 ++ (b.2.map fun e => (e.1, f e.2)) = _; rw [List.append_assoc, ← List.map_append, ← hp]) x.1).mono (by omega)
    unfold l_plus_b2
    rw [grd_t q1, bind_ok, q2, opt_some, bind_ok, lk, add16 tb (bx.mono (by omega)), bind_ok, grd_t (by omega), bind_ok]
    unfold addM
    rw [lk]
  · have := hm.put (x.1, f x.2)
    rw [List.append_assoc] at this
    rw [List.map_append]
    exact this
theorem map_id (b : SumT) : mapS (fun r => r) b = b := by
  unfold mapS
  rw [show (fun e : Tx × Rat => (e.1, e.2)) = id from rfl, List.map_id]
section
variable {d e : Nat} {zs : List Tx} {a b : SumT}
theorem bd_neg {n : Nat} {r : Rat} (h : Nu.Bd n r) : Nu.Bd n (-r) := ⟨by show (-r.num).natAbs < _; rw [Int.natAbs_neg]; exact h.1, h.2⟩
theorem Sm.neg (hb : Sm e zs b) : Sm e zs (negS b) where
  n := bd_neg hb.n
  e := fun f hf => by
    obtain ⟨g, hg, rfl⟩ := List.mem_map.mp hf
    exact bd_neg (hb.e g hg)
  rise := by
    show ((b.2.map fun e => (e.1, -e.2)).map (·.1)).Pairwise ltT
    rw [List.map_map]
    exact hb.rise
  nz := fun f hf => by
    obtain ⟨g, hg, rfl⟩ := List.mem_map.mp hf
    have := hb.nz g hg
    show -g.2 ≠ 0
    grind
  sub := fun f hf => by
    obtain ⟨g, hg, rfl⟩ := List.mem_map.mp hf
    exact hb.sub g hg
theorem lplus1 (hz : zs.length ≤ 30) (ha : Sm d zs a) (hb : Sm e zs b) (d0 : 0 < d) (e0 : 0 < e) (h : d + e < 3000) : l_plus a b 1 = .ok (addS a b) := by
  have := lplus_eq (f := fun r => r) (s := 1) hz ha (by rw [map_id]; exact hb) (fun r hr => ⟨cmulw 1 3000 (by decide) hr.1 , by rw [Int.one_mul]; exact mkQ_of r⟩) d0 e0 h
  rw [map_id] at this
  exact this
end
end
section
set_option Elab.async false
set_option linter.all false
set_option maxRecDepth 100000
set_option maxHeartbeats 1000000
open TL PySem L2 Res
abbrev Pl := List (Tx × Tx × SumT)
abbrev Axs : List Tx := [sx_11f6ad8e, sx_95cb0bfd]
structure PlOk (d : Nat) (ns : List Tx) (pl : Pl) : Prop where
  nd : (pl.map (·.1)).Nodup
  nm : ∀ e ∈ pl, Nm8 e.1 ∧ e.1 ≠ sx_39d88b57
  ax : ∀ e ∈ pl, e.2.1 ∈ Axs
  sm : ∀ e ∈ pl, Sm d ns e.2.2
  len : pl.length ≤ 30
theorem PlOk.mono {d d' : Nat} {ns : List Tx} {pl : Pl} (h : PlOk d ns pl) (l : d ≤ d') : PlOk d' ns pl := ⟨h.nd, h.nm, h.ax, fun e he => (h.sm e he).mono l, h.len⟩
theorem PlOk.nil {d : Nat} {ns : List Tx} : PlOk d ns [] := ⟨.nil, (fun e he => by cases he), (fun e he => by cases he), (fun e he => by cases he), Nat.zero_le _⟩
theorem PlOk.snoc {d : Nat} {ns : List Tx} {pl : Pl} {f : Tx × Tx × SumT} (h : PlOk d ns pl) (h1 : Nm8 f.1) (h2 : f.1 ≠ sx_39d88b57) (h3 : f.1 ∉ pl.map (·.1)) (h4 : f.2.1 ∈ Axs) (h5 : Sm d ns f.2.2) (h6 : pl.length < 30) : PlOk d ns (pl ++ [f]) := by
  refine ⟨by rw [List.map_append]; exact nodup_snoc h.nd h3, fun e he => ?_, fun e he => ?_, fun e he => ?_, by simp; omega⟩
  all_goals rcases List.mem_append.mp he with q | q
  · exact h.nm e q
  · rw [List.mem_singleton.mp q]; exact ⟨h1, h2⟩
  · exact h.ax e q
  · rw [List.mem_singleton.mp q]; exact h4
  · exact h.sm e q
  · rw [List.mem_singleton.mp q]; exact h5
theorem dget_isN {α : Type} {m : List (Tx × α)} {k : Tx} (h : k ∉ m.map (·.1)) : (dget m k).isSome = false := by rw [t_getM_none h]; rfl
theorem dput_snoc {α : Type} {m : List (Tx × α)} {k : Tx} {v : α} (h : k ∉ m.map (·.1)) : dput m k v = m ++ [(k, v)] := by
  unfold dput
  rw [if_neg]
  simp only [List.any_eq_true, decide_eq_true_eq, not_exists, not_and]
  intro y hy ey
  exact h (List.mem_map.mpr ⟨y, hy, ey⟩)
theorem dget_mem16 {α : Type} {p : Tx × α} : ∀ {m : List (Tx × α)}, (m.map (·.1)).Nodup → p ∈ m → dget m p.1 = some p.2
  | [], _, h => by cases h
  | q :: m, nd, h => by
    rw [List.map_cons, List.nodup_cons] at nd
    unfold dget
    rw [List.find?_cons]
    by_cases c : q.1 = p.1
    · rw [decide_eq_true c]
      rcases List.mem_cons.mp h with e | e
      · rw [e]; rfl
      · exact absurd (List.mem_map_of_mem (f := (·.1)) e) (by rw [← c]; exact nd.1)
    · rw [decide_eq_false c]
      rcases List.mem_cons.mp h with e | e
      · rw [e] at c; exact absurd rfl c
      · exact dget_mem16 nd.2 e
section
variable {nm : Tx} {zs : List Siz} {d e : Nat} {pl : Pl} {ax n : Tx} {s : SumT}
theorem has_names_eq (ok : Own8 zs) (hs : Sm d (alln zs) s) : m_has_names zs s = .ok true := by
  have l := hs.len
  have le := ok.st.le
  unfold m_has_names
  rw [snames_eq ok.st, mapE_ok, bind_ok, bind_ok, grd_t (by omega), bind_ok, lc_map (fun x => some (decide (x.1 ∈ alln zs))) () _ fun x hx => rfl, calm_ok, bind_ok]
  congr 1
  rw [List.all_eq_true]
  intro b hb
  obtain ⟨x, hx, e⟩ := List.mem_filterMap.mp hb
  cases e
  exact decide_eq_true (hs.sub x hx)
theorem check_eq (ok : Own8 zs) (hs : Sm d (alln zs) s) (ha : ax ∈ Axs) : m_Part_check_added (nm, zs) pl ax s = .ok () := by
  unfold m_Part_check_added
  rw [if_neg (by rw [decide_eq_true ha]; decide), has_names_eq ok hs, bind_ok, if_neg (by decide)]
theorem init16 (hn : Nm8 nm) (ok : Own8 zs) : m_Part___init__ nm zs = .ok (nm, zs, []) := by
  have le := ok.st.le
  unfold m_Part___init__
  rw [part_name hn, bind_ok, if_neg (by decide), bind_ok, stock_eq ok.st, mapE_ok, bind_ok, bind_ok, snames_eq ok.st, mapE_ok, bind_ok, grd_t (by omega), bind_ok, lc_map (fun x => some true) () _ fun x hx => by rw [part_name (ok.nm x hx), bind_ok], calm_ok, bind_ok]
  rw [if_neg]
  · rfl
  · simp only [Bool.not_eq_true', Bool.not_eq_false]
    rw [List.all_eq_true]
    intro b hb
    obtain ⟨x, hx, e⟩ := List.mem_filterMap.mp hb
    cases e
    rfl
variable (ok : Own8 zs) (h1 : Nm8 n) (h2 : n ≠ sx_39d88b57) (h3 : n ∉ pl.map (·.1)) (ha : ax ∈ Axs) (hs : Sm e (alln zs) s) (hp : PlOk d (alln zs) pl)
include ok h1 h2 h3 ha hs hp
theorem put_free : ((!true) || (decide (n = sx_39d88b57) || (dget pl n).isSome)) = false := by
  rw [dget_isN h3, decide_eq_false h2]
  rfl
theorem put_none : m_Part_put_face (nm, zs) pl n ax none s = .ok ((), pl ++ [(n, ax, s)]) := by
  have l := hp.len
  unfold m_Part_put_face
  rw [part_name h1, mapE_ok, bind_ok, if_neg (by rw [put_free ok h1 h2 h3 ha hs hp]; decide), check_eq ok hs ha, mapE_ok, bind_ok, bind_ok, bind_ok, if_neg (by decide)]
  unfold m_Part_put_face_k1
  rw [grd_t (by omega), bind_ok, dput_snoc h3]
variable {st : Tx} {q : SumT} (hq : dget pl st = some (ax, q)) (hqs : Sm d (alln zs) q) (d0 : 0 < d) (e0 : 0 < e) (hde : d + e < 3000)
include hq hqs d0 e0 hde
theorem put_some : m_Part_put_face (nm, zs) pl n ax (some st) s = .ok ((), pl ++ [(n, ax, addS q s)]) := by
  have l := hp.len
  have le := ok.st.le
  unfold m_Part_put_face
  rw [part_name h1, mapE_ok, bind_ok, if_neg (by rw [put_free ok h1 h2 h3 ha hs hp]; decide), check_eq ok hs ha, mapE_ok, bind_ok, bind_ok, bind_ok, if_pos (show (some st).isSome = true from rfl), opt_some, bind_ok, hq, if_neg (by simp), bind_ok, hq, opt_some, bind_ok, bind_ok]
  dsimp only
  rw [if_neg (by simp), bind_ok, hq, opt_some, bind_ok, plusS_eq (by omega) hqs hs d0 e0 hde, mapE_ok, bind_ok, bind_ok]
  unfold m_Part_put_face_k1
  rw [grd_t (by omega), bind_ok, dput_snoc h3]
end
theorem fm_some {α β : Type} {f : α → Option β} {g : α → β} : ∀ {xs : List α}, (∀ x ∈ xs, f x = some (g x)) → xs.filterMap f = xs.map g
  | [], _ => rfl
  | x :: xs, h => by rw [List.filterMap_cons, h x List.mem_cons_self, List.map_cons, fm_some fun y hy => h y (List.mem_cons_of_mem _ hy)]
theorem lc_some {α β ε σ : Type} {body : α → σ → Res ε (Option β × σ)} {g : α → β} {s : σ} : ∀ {xs : List α}, (∀ x ∈ xs, body x s = .ok (some (g x), s)) → Res.lc body xs s = .ok (xs.map g, s) := fun {xs} h => by
  rw [lc_map (fun x => some (g x)) s xs h, fm_some (g := g) fun x _ => rfl]
theorem faces_eq {v : Tx × List Siz} {pl : Pl} (nd : (pl.map (·.1)).Nodup) (l : pl.length ≤ 1000) : m_Part_faces v pl = .ok pl := by
  unfold m_Part_faces
  rw [grd_t (by rw [List.length_map]; omega), bind_ok]
  have key : Res.lc (fun (x1 : Tx) (s2 : Unit) => Res.bind (Res.opt (dget pl x1)) fun z3 => Res.bind (Res.opt (dget pl x1)) fun z4 => (.ok (some (x1, z3.1, z4.2), s2) : Res Unit (Option (Tx × Tx × SumT) × Unit))) (List.map Prod.fst pl) () = .ok (pl, ()) := by
    have e : ∀ (post : Pl), (∀ e ∈ post, dget pl e.1 = some e.2) → Res.lc (fun (x1 : Tx) (s2 : Unit) => Res.bind (Res.opt (dget pl x1)) fun z3 => Res.bind (Res.opt (dget pl x1)) fun z4 => (.ok (some (x1, z3.1, z4.2), s2) : Res Unit (Option (Tx × Tx × SumT) × Unit))) (List.map Prod.fst post) () = .ok (post, ()) := by
      intro post
      induction post with
      | nil => intro _; rfl
      | cons f post ih =>
        intro h
        rw [List.map_cons]
        unfold Res.lc
        rw [h f List.mem_cons_self, opt_some, bind_ok, bind_ok, bind_ok, ih fun y hy => h y (List.mem_cons_of_mem _ hy), bind_ok]
    exact e pl fun f hf => dget_mem16 nd hf
  rw [key]
  rfl
section
variable {nm : Tx} {zs : List Siz} {d e : Nat} {pl : Pl} {ax : Tx} {b : SumT}
end
end
section
set_option Elab.async false
set_option linter.all false
set_option maxRecDepth 100000
set_option maxHeartbeats 1000000
open TL PySem L2 Res
abbrev Fc := Tx × Tx × Option Tx × SumT
def stepB (pl : Pl) (f : Fc) : Pl := pl ++ [(f.1, f.2.1, match f.2.2.1 with
  | none => f.2.2.2
  | some st => match dget pl st with
    | none => f.2.2.2
    | some q => addS q.2 f.2.2.2)]
def build (fs : List Fc) : Pl := fs.foldl stepB []
theorem build_snoc (fs : List Fc) (f : Fc) : build (fs ++ [f]) = stepB (build fs) f := by
  unfold build
  rw [List.foldl_append]
  rfl
structure Step (ns : List Tx) (pl : Pl) (f : Fc) : Prop where
  nm : Nm8 f.1
  fr : f.1 ≠ sx_39d88b57
  new : f.1 ∉ pl.map (·.1)
  ax : f.2.1 ∈ Axs
  sm : Sm 40 ns f.2.2.2
  st : f.2.2.1 = none ∨ ∃ st q, f.2.2.1 = some st ∧ dget pl st = some (f.2.1, q)
def FOk (ns : List Tx) (fs : List Fc) : Prop := (∀ pre f post, fs = pre ++ f :: post → Step ns (build pre) f) ∧ fs.length ≤ 9
theorem FOk.pre {ns : List Tx} {pre post : List Fc} (h : FOk ns (pre ++ post)) : FOk ns pre := ⟨fun p f q e => h.1 p f (q ++ post) (by rw [e]; simp), by have := h.2; rw [List.length_append] at this; omega⟩
theorem FOk.snoc {ns : List Tx} {fs : List Fc} {f : Fc} (h : FOk ns fs) (s : Step ns (build fs) f) (l : fs.length < 9) : FOk ns (fs ++ [f]) := ⟨fun pre g post e => by
  rcases List.append_eq_append_iff.mp e with ⟨c, h1, h2⟩ | ⟨c, h1, h2⟩
  · cases c with
    | nil =>
      rw [List.append_nil] at h1
      simp at h2
      rw [h1, ← h2.1]
      exact s
    | cons x c =>
      have := congrArg List.length h2
      simp at this
  · cases c with
    | nil =>
      simp at h1 h2
      rw [← h1, h2.1]
      exact s
    | cons x c =>
      simp at h2
      rw [← h2.1] at h1
      exact h.1 pre g c h1, by rw [List.length_append, List.length_singleton]; omega⟩
theorem step_shape {d : Nat} {ns : List Tx} {pl : Pl} {f : Fc} (hp : PlOk d ns pl) (d0 : 0 < d) (s : Step ns pl f) : ∃ p, stepB pl f = pl ++ [(f.1, f.2.1, p)] ∧ Sm (d + 41) ns p ∧ ((f.2.2.1 = none ∧ p = f.2.2.2) ∨ ∃ st q, f.2.2.1 = some st ∧ dget pl st = some (f.2.1, q) ∧ Sm d ns q ∧ p = addS q f.2.2.2) := by
  rcases s.st with e | ⟨st, q, e1, e2⟩
  · exact ⟨f.2.2.2, by unfold stepB; rw [e], s.sm.mono (by omega), .inl ⟨e, rfl⟩⟩
  · have hm : ∃ x ∈ pl, x.1 = st ∧ x.2 = (f.2.1, q) := by
      unfold dget at e2
      obtain ⟨x, hx, ex⟩ := Option.map_eq_some_iff.mp e2
      exact ⟨x, List.mem_of_find?_eq_some hx, by simpa using List.find?_some hx, ex⟩
    obtain ⟨x, hx, x1, x2⟩ := hm
    have sq : Sm d ns q := by
      have := hp.sm x hx
      rw [x2] at this
      exact this
    exact ⟨addS q f.2.2.2, by unfold stepB; rw [e1]; dsimp only; rw [e2], addS_sm sq s.sm d0 (by decide), .inr ⟨st, q, e1, e2, sq, rfl⟩⟩
theorem build_ok {ns : List Tx} {fs : List Fc} (h : FOk ns fs) : PlOk (1 + 41 * fs.length) ns (build fs) ∧ (build fs).length = fs.length ∧ (build fs).map (fun e => (e.1, e.2.1)) = fs.map fun f => (f.1, f.2.1) := by
  have key : ∀ n, ∀ fs : List Fc, fs.length = n → FOk ns fs → PlOk (1 + 41 * fs.length) ns (build fs) ∧ (build fs).length = fs.length ∧ (build fs).map (fun e => (e.1, e.2.1)) = fs.map fun f => (f.1, f.2.1) := by
    intro n
    induction n with
    | zero =>
      intro fs hl _
      have : fs = [] := List.length_eq_zero_iff.mp hl
      subst this
      exact ⟨PlOk.nil, rfl, rfl⟩
    | succ n ih =>
      intro fs hl h
      obtain ⟨gs, f, rfl⟩ := split_last (xs := fs) (fun e => by rw [e] at hl; cases hl)
      have l9 := h.2
      rw [List.length_append, List.length_singleton] at hl l9
      obtain ⟨i1, i2, i3⟩ := ih gs (by omega) h.pre
      have s := h.1 gs f [] rfl
      obtain ⟨p, ep, sp, _⟩ := step_shape i1 (by omega) s
      rw [build_snoc, ep]
      refine ⟨?_, by simp [i2], by simp [i3]⟩
      refine ((i1.mono (show 1 + 41 * gs.length ≤ 1 + 41 * (gs ++ [f]).length by simp; omega)).snoc s.nm s.fr s.new s.ax (sp.mono (by simp; omega)) (by omega))
  exact key _ fs rfl h
theorem build_keys {ns : List Tx} {fs : List Fc} (h : FOk ns fs) : (build fs).map (·.1) = fs.map (·.1) := by
  have := congrArg (List.map (·.1)) (build_ok h).2.2
  rw [List.map_map, List.map_map] at this
  exact this
theorem ax2 {i : Int} (h0 : 0 ≤ i) (h1 : i < 2) : ∃ a, sx_5f845998.at i = some a ∧ a ∈ Axs := by
  have e0 : sx_5f845998.at 0 = some sx_11f6ad8e := by decide +kernel
  have e1 : sx_5f845998.at 1 = some sx_95cb0bfd := by decide +kernel
  have cs : i = 0 ∨ i = 1 := by omega
  rcases cs with c | c
  · exact ⟨_, by rw [c]; exact e0, by simp [Axs]⟩
  · exact ⟨_, by rw [c]; exact e1, by simp [Axs]⟩
section
variable {nm : Tx} {zs : List Siz} {fs : List Fc}
theorem placed16 {ns : List Tx} (hz : ns.length ≤ 30) (hf : FOk ns fs) : l_placed fs = .ok (build fs) := by
  have key : (l_placed fs).To (· = build fs) := by
    unfold l_placed
    refine To.v (To.v (To.loop (fun pre (s : Pl × List (Tx × SumT)) => s.1 = build pre ∧ s.2 = (build pre).map (fun e => (e.1, e.2.2))) ⟨rfl, rfl⟩ ?_ fun s hs => by unfold l_placed_k1; exact .ok hs.1))
    rintro pre f post ⟨s, m⟩ hq ⟨e1, e2⟩ nx hnx
    dsimp only at e1 e2
    subst e1
    subst e2
    have st := hf.1 pre f post hq
    have l9 := hf.2
    have fp : FOk ns pre := by rw [hq] at hf; exact hf.pre
    have pl : pre.length < 9 := by rw [hq, List.length_append, List.length_cons] at l9; omega
    obtain ⟨b1, b2, b3⟩ := build_ok fp
    obtain ⟨p, ep, sp, hc⟩ := step_shape b1 (by omega) st
    have mk : ((build pre).map (fun e => (e.1, e.2.2))).map (·.1) = (build pre).map (·.1) := by rw [List.map_map]; rfl
    have fin : ∀ r : SumT, r = p → (l_placed_k2 (build pre, (build pre).map (fun e => (e.1, e.2.2))) f nx r).To (· = build fs) := fun r er => by
      subst er
      unfold l_placed_k2
      dsimp only
      refine To.g (by rw [List.length_map]; omega) (To.g (by omega) (hnx _ ⟨?_, ?_⟩))
      · rw [build_snoc, ep]
      · show dput ((build pre).map (fun e => (e.1, e.2.2))) f.1 r = _
        rw [dput_snoc (by rw [mk]; exact st.new), build_snoc, ep, List.map_append]
        rfl
    unfold l_placed_b3
    dsimp only
    refine To.v ?_
    rcases hc with ⟨c1, c2⟩ | ⟨t, q, c1, c2, c3, c4⟩
    · rw [c1, if_neg (by decide)]
      exact fin _ c2.symm
    · rw [c1, if_pos (show (some t).isSome = true from rfl)]
      refine To.v ?_
      have g : dget ((build pre).map (fun e => (e.1, e.2.2))) t = some q := by
        unfold dget at c2
        obtain ⟨x, hx, ex⟩ := Option.map_eq_some_iff.mp c2
        have xm := List.mem_of_find?_eq_some hx
        have xt : x.1 = t := by simpa using List.find?_some hx
        have := dget_mem16 (p := (x.1, x.2.2)) (m := (build pre).map (fun e => (e.1, e.2.2))) (by rw [mk]; exact b1.nd) (List.mem_map.mpr ⟨x, xm, rfl⟩)
        rw [← xt, this]
        show some x.2.2 = some q
        rw [ex]
      refine To.o g ?_
      rw [lplus1 hz c3 st.sm (by omega) (by decide) (by omega)]
      exact To.v (To.v (fin _ c4.symm))
  obtain ⟨v, ev, rfl⟩ := key
  exact ev
end
end
section
set_option Elab.async false
set_option linter.all false
set_option maxRecDepth 100000
set_option maxHeartbeats 1000000
open TL PySem L2 Res
theorem isP_tup (ds : List PyData) : isP "tuple" (.tuple ds) = true := by
  show (kitB "tuple" "tuple").getD false = true
  decide +kernel
theorem isP_ts (s : Str) : isP "tuple" (.str s) = false := by
  show (kitB "str" "tuple").getD false = false
  decide +kernel
theorem isP_ti (i : Int) : isP "tuple" (.int i) = false := by
  show (kitB "int" "tuple").getD false = false
  decide +kernel
theorem isP_ss (s : Str) : isP "str" (.str s) = true := by
  show (kitB "str" "str").getD false = true
  decide +kernel
theorem isP_si (i : Int) : isP "str" (.int i) = false := by
  show (kitB "int" "str").getD false = false
  decide +kernel
theorem isP_ii (i : Int) : isP "int" (.int i) = true := by
  show (kitB "int" "int").getD false = true
  decide +kernel
theorem isP_bi (i : Int) : isP "bool" (.int i) = false := by
  show (kitB "int" "bool").getD false = false
  decide +kernel
theorem pl_str (m : Nat) (s : Str) : l_plain_r (m + 1) (.str s) = .ok true := by
  show l_plain_st (l_plain_r m) (.str s) = _
  unfold l_plain_st
  rw [isP_ts, if_neg (by decide), isP_ss]
  rfl
theorem pl_int (m : Nat) (i : Int) : l_plain_r (m + 1) (.int i) = .ok true := by
  show l_plain_st (l_plain_r m) (.int i) = _
  unfold l_plain_st
  rw [isP_ti, if_neg (by decide), isP_si, isP_ii, isP_bi]
  rfl
theorem pl_tup {m : Nat} {ds : List PyData} (h : ∀ d ∈ ds, l_plain_r m d = .ok true) (l : ds.length ≤ 100000) : l_plain_r (m + 1) (.tuple ds) = .ok true := by
  show l_plain_st (l_plain_r m) (.tuple ds) = _
  unfold l_plain_st
  rw [isP_tup, if_pos rfl, show tupP (.tuple ds) = some ds from rfl, opt_some, bind_ok, grd_t l, bind_ok, lc_some (g := fun _ => true) fun d hd => by rw [h d hd, bind_ok], calm_ok, bind_ok]
  congr 1
  rw [List.all_eq_true]
  intro b hb
  obtain ⟨x, _, rfl⟩ := List.mem_map.mp hb
  rfl
theorem pl_q (m : Nat) (r : Rat) : l_plain_r (m + 2) (eQ r) = .ok true := pl_tup (m := m + 1) (fun d hd => by
  have : d ∈ [PyData.int r.num, PyData.int r.den] := hd
  simp at this
  rcases this with rfl | rfl <;> exact pl_int m _) (by show 2 ≤ 100000; decide)
theorem pl_pair (m : Nat) (x : Tx × Rat) : l_plain_r (m + 3) (e2 eS eQ x) = .ok true := pl_tup (m := m + 2) (fun d hd => by
  have : d ∈ [eS x.1, eQ x.2] := hd
  simp at this
  rcases this with rfl | rfl
  · exact pl_str (m + 1) _
  · exact pl_q m _) (by show 2 ≤ 100000; decide)
theorem pl_sum {s : SumT} (m : Nat) (l : s.2.length ≤ 100000) : l_plain_r (m + 5) (e2 eQ (eV (e2 eS eQ)) s) = .ok true := pl_tup (m := m + 4) (fun d hd => by
  have : d ∈ [eQ s.1, eV (e2 eS eQ) s.2] := hd
  simp at this
  rcases this with rfl | rfl
  · exact pl_q (m + 2) _
  · refine pl_tup (m := m + 3) (fun d hd => ?_) (by rw [List.length_map]; exact l)
    obtain ⟨x, _, rfl⟩ := List.mem_map.mp hd
    exact pl_pair m x) (by show 2 ≤ 100000; decide)
theorem plain_face {f : Tx × Tx × SumT} (l : f.2.2.2.length ≤ 100000) : l_plain (e3 eS eS (e2 eQ (eV (e2 eS eQ))) f) = .ok true := pl_tup (m := 23) (fun d hd => by
  have : d ∈ [eS f.1, eS f.2.1, e2 eQ (eV (e2 eS eQ)) f.2.2] := hd
  simp at this
  rcases this with rfl | rfl | rfl
  · exact pl_str 22 _
  · exact pl_str 22 _
  · exact pl_sum 18 l) (by show 3 ≤ 100000; decide)
theorem is_list16 {d : Nat} {ns : List Tx} {pl : Pl} (hz : ns.length ≤ 30) (h : PlOk d ns pl) : l_is_list pl pl = .ok true := by
  have l := h.len
  unfold l_is_list
  rw [if_pos rfl, if_pos (by simp), grd_t (by omega), bind_ok, lc_some (g := fun _ => true) fun f hf => by rw [plain_face (by have := (h.sm f hf).len; omega), bind_ok], calm_ok, bind_ok, bind_ok, bind_ok]
  congr 1
  rw [List.all_eq_true]
  intro b hb
  obtain ⟨x, _, rfl⟩ := List.mem_map.mp hb
  rfl
section
variable {nm : Tx} {zs : List Siz} {d : Nat} {pl : Pl} {ax : Tx} {b : SumT}
end
end
section
set_option Elab.async false
set_option linter.all false
set_option maxRecDepth 100000
set_option maxHeartbeats 1000000
open TL PySem L2 Res
theorem word14a_to {n : Nat} {w : List Int} {T : List Tx} (h : Wl n w) (hn : n ≤ 2 ^ 38) (hT : T.length ≤ 25) : (l_word_k14_k3 T sx_32d10c7b w).To fun r => Nm8 r.1 ∧ r.1 ∉ T ∧ Wl (n + 10) r.2 := by
  have p38 : (2 : Nat) ^ 38 = 274877906944 := by decide
  have p40 : (2 : Nat) ^ 40 = 1099511627776 := by decide
  have p62 : (2 : Int) ^ 62 = 4611686018427387904 := by decide
  have d0 : sx_da39a3ee.len = 0 := by decide +kernel
  unfold l_word_k14_k3
  refine To.b (take_to h (by decide) (by decide) (by omega)) fun z ⟨z0, z1, hz⟩ => To.g ⟨by omega, by omega⟩ (To.g (by rw [rangeL_len]; omega) ?_)
  have rl : (rangeL 0 (Int.toNat (1 + z.1))).length = (1 + z.1).toNat := rangeL_len _ _
  refine To.b (To.calm (To.lc (fun m (s : List Int) => Wl (n + 1 + m) s) (fun t : Tx => t.len = 1 ∧ ∃ c, t.s = ⟨#[c]⟩ ∧ 97 ≤ c ∧ c < 123) (n := 0) hz ?_)) fun y ⟨yl, yp, yw⟩ => ?_
  · intro x hx m s h0 h1 hs
    rw [rl] at h1
    refine To.b (To.mE (take_to hs (by decide) (by decide) (by omega))) fun u ⟨u0, u1, hu⟩ => ?_
    obtain ⟨c, hc, d, e, q0, q1⟩ := abc_at u0 u1
    exact To.o hc (.ok ⟨⟨c, rfl, by rw [Tx.len_l, e]; rfl, d, e, q0, q1⟩, hu⟩)
  · rw [rl] at yl yw
    have sl : (y.1.map Tx.len).sum = (1 + z.1).toNat := by rw [sum_ones' fun x hx => (yp x hx).1, yl]
    refine To.g (joinC_of d0 (by omega)) (To.v ?_)
    have fl : (Tx.join sx_da39a3ee y.1).len = (1 + z.1).toNat := by rw [Tx.join_len d0, sl]
    have fa : ∀ c ∈ (Tx.join sx_da39a3ee y.1).s.cps.toList, 97 ≤ c ∧ c < 123 := join_abc (by decide +kernel) y.1 fun t ht => by
      obtain ⟨_, c, e, h1, h2⟩ := yp t ht
      rw [e]
      intro c' h'
      simp at h'
      subst h'
      exact ⟨h1, h2⟩
    generalize Tx.join sx_da39a3ee y.1 = t at fl fa
    rw [Tx.len_l] at fl
    obtain ⟨b, x, ebx⟩ := split_last (xs := t.s.cps.toList) (fun e => by rw [e] at fl; simp at fl; omega)
    have bx := fa x (by rw [ebx]; simp)
    have bb : ∀ c ∈ b, 97 ≤ c ∧ c < 123 := fun c hc => fa c (by rw [ebx]; simp [hc])
    have bl : b.length ≤ 7 := by
      rw [ebx] at fl
      simp at fl
      omega
    -- one of the 26 is free
    obtain ⟨j0, hj0, hf⟩ : ∃ j, j < 26 ∧ b ++ [97 + j] ∉ T.map fun t => t.s.cps.toList := by
      rcases Classical.em (∃ j, j < 26 ∧ b ++ [97 + j] ∉ T.map fun t => t.s.cps.toList) with q | q
      · exact q
      · have := pigeon (fun j => b ++ [97 + j]) 26 (fun i j _ _ e => by
          have := (List.append_inj' e rfl).2
          simp at this
          exact this) 26 (T.map fun t => t.s.cps.toList) (Nat.le_refl _) fun s hs => by
            rcases Classical.em (b ++ [97 + s] ∈ T.map fun t => t.s.cps.toList) with r | r
            · exact r
            · exact absurd ⟨s, hs, r⟩ q
        rw [List.length_map] at this
        omega
    have fx : ∀ s : Tx, ∀ j : Nat, j < 26 → s.s.cps.toList = b ++ [97 + j] → Nm8 s := fun s j hj e => by
      have ls : s.len = b.length + 1 := by rw [Tx.len_l, e]; simp
      refine ⟨by omega, by omega, fun c hc => ?_⟩
      rw [e] at hc
      rcases List.mem_append.mp hc with q | q
      · exact bb c q
      · simp at q; omega
    have ug : ∀ s : Tx, ∀ j k : Nat, s.s.cps.toList = b ++ [97 + j] → s.s.cps.toList = b ++ [97 + k] → j = k := fun s j k e e' => by
      rw [e] at e'
      have := (List.append_inj' e' rfl).2
      simp at this
      exact this
    refine To.wloop (fun s : Tx => ∃ j, j < 26 ∧ s.s.cps.toList = b ++ [97 + j]) (fun s => ((List.range 26).filter fun i => decide (s.s.cps.toList = b ++ [97 + (j0 + 26 - i) % 26])).headD 0) ⟨x - 97, by omega, by rw [ebx]; congr 2; omega⟩ (Res.fuel_big ?_) ?_
    · have : ∀ l : List Nat, (∀ i ∈ l, i < 26) → l.headD 0 < 2 ^ 5 := fun l hl => by
        cases l with
        | nil => decide
        | cons a l =>
          have := hl a List.mem_cons_self
          show a < 2 ^ 5
          have : (2 : Nat) ^ 5 = 32 := by decide
          omega
      exact Nat.lt_of_lt_of_le (this _ fun i hi => by simpa using (List.mem_filter.mp hi).1) (Nat.pow_le_pow_right (by decide) (by decide))
    · rintro s ⟨j, hj, es⟩ nx hnx
      -- how far it is
      have mu : ∀ (s : Tx) (j : Nat), j < 26 → s.s.cps.toList = b ++ [97 + j] → ((List.range 26).filter fun i => decide (s.s.cps.toList = b ++ [97 + (j0 + 26 - i) % 26])).headD 0 = (j0 + 26 - j) % 26 := fun s j hj es => by
        have e1 : (fun i => decide (s.s.cps.toList = b ++ [97 + (j0 + 26 - i) % 26])) = fun i => decide (j = (j0 + 26 - i) % 26) := by
          funext i
          refine decide_eq_decide.mpr ⟨fun e => ug s _ _ es e, fun e => by rw [es, e]⟩
        rw [e1]
        have e2 : ∀ j0 : Nat, j0 < 26 → ∀ j : Nat, j < 26 → ((List.range 26).filter fun i => decide (j = (j0 + 26 - i) % 26)).headD 0 = (j0 + 26 - j) % 26 := by decide +kernel
        exact e2 j0 hj0 j hj
      refine To.i (fun c => ?_) fun c => ?_
      · have hm : s ∈ T := by simpa using c
        have ne : j ≠ j0 := fun e => hf (by rw [← e, ← es]; exact List.mem_map_of_mem (f := fun t : Tx => t.s.cps.toList) hm)
        have ls : s.len = b.length + 1 := by rw [Tx.len_l, es]; simp
        obtain ⟨c1, e1, q1⟩ := at_last es (by omega)
        unfold l_word_k14_b2
        refine To.g (by omega) (To.o e1 (To.o (ix_of hj q1) (To.g (by decide) ?_)))
        have e2 : Int.fmod (((j : Nat) : Int) + 1) 26 = (((j + 1) % 26 : Nat) : Int) := by
          rw [Int.fmod_eq_emod_of_nonneg _ (by decide)]
          omega
        obtain ⟨c2, e3, cl2, q2⟩ := at26 (j := (j + 1) % 26) (by omega)
        rw [e2]
        have cut : (s.cut none (some (-(1 : Int)))).s.cps.toList = b := by
          rw [cut_last, es]
          simp
        have cutl : (s.cut none (some (-(1 : Int)))).len = b.length := by rw [Tx.len_l, cut]
        have en : (s.cut none (some (-(1 : Int))) ++ c2).s.cps.toList = b ++ [97 + (j + 1) % 26] := by rw [Tx.app_l, cut, q2]
        refine To.o e3 (To.g (by omega) (To.v (hnx _ ⟨(j + 1) % 26, by omega, en⟩ ?_)))
        rw [mu _ _ (by omega) en, mu s j hj es]
        have : ∀ j0 : Nat, j0 < 26 → ∀ j : Nat, j < 26 → j ≠ j0 → (j0 + 26 - (j + 1) % 26) % 26 < (j0 + 26 - j) % 26 := by decide +kernel
        exact this j0 hj0 j hj ne
      · unfold l_word_k14_k1
        exact .ok ⟨fx s j hj es, by simpa using c, yw.up (by omega)⟩
theorem word14_to {n : Nat} {w : List Int} {T : List Tx} (h : Wl n w) (hn : n ≤ 2 ^ 37) (hT : T.length ≤ 25) : (l_word_k14 w T).To fun r => Nm8 r.1 ∧ r.1 ∉ T ∧ Wl (n + 12) r.2 := by
  have p37 : (2 : Nat) ^ 37 = 137438953472 := by decide
  have p38 : (2 : Nat) ^ 38 = 274877906944 := by decide
  have p40 : (2 : Nat) ^ 40 = 1099511627776 := by decide
  unfold l_word_k14
  refine To.v (To.v (To.b (take_to h (by decide) (by decide) (by omega)) fun z ⟨z0, z1, hz⟩ => To.v (To.i (fun _ => ?_) fun _ => ?_)))
  · refine To.b (take_to hz (by decide) (by decide) (by omega)) fun y ⟨y0, y1, hy⟩ => ?_
    obtain ⟨t, mt, et⟩ := atI_mem' (xs := [sx_39d88b57, sx_267b6efe, sx_3fc88b83, sx_95c4bea1, sx_89368e1d, sx_11f6ad8e, sx_7bc55599, sx_39d88b57]) y0 (by show _ < ((8 : Nat) : Int); omega)
    have nm : Nm8 t := by
      simp only [List.mem_cons, List.not_mem_nil, or_false] at mt
      rcases mt with rfl | rfl | rfl | rfl | rfl | rfl | rfl | rfl <;> exact ⟨by decide +kernel, by decide +kernel, by decide +kernel⟩
    refine To.o et (To.v (To.i (fun c => .ok ⟨nm, by simpa using c, hy.up (by omega)⟩) fun _ => ?_))
    exact (word14a_to hy (by omega) hT).mono fun r ⟨r1, r2, r3⟩ => ⟨r1, r2, r3.up (by omega)⟩
  · exact (word14a_to hz (by omega) hT).mono fun r ⟨r1, r2, r3⟩ => ⟨r1, r2, r3.up (by omega)⟩
theorem sizes14_to {n : Nat} {w : List Int} (h : Wl n w) (hn : n ≤ 2 ^ 30) : (l_sizes_k14 w 12).To fun r => Own8 r.1.1 ∧ r.1.2 = alln r.1.1 ∧ Wl (n + 2000) r.2 := by
  have p30 : (2 : Nat) ^ 30 = 1073741824 := by decide
  have p38 : (2 : Nat) ^ 38 = 274877906944 := by decide
  have p40 : (2 : Nat) ^ 40 = 1099511627776 := by decide
  have p62 : (2 : Int) ^ 62 = 4611686018427387904 := by decide
  unfold l_sizes_k14
  refine To.v (To.v (To.b (take_to h (by decide) (by decide) (by omega)) fun yq ⟨yq0, yq1, hy⟩ => ?_))
  obtain ⟨y, my, ey⟩ := atI_mem' (xs := [(0 : Int), 1, 2, 3, 4, 2, 3, 7]) yq0 (by show _ < ((8 : Nat) : Int); omega)
  have yr : 0 ≤ y ∧ y ≤ 7 := by
    simp at my
    omega
  refine To.o ey (To.g ⟨by omega, by omega⟩ ?_)
  refine To.loop (fun pre (s : List Siz × List Tx × List Int) => s.2.1 = alln s.1 ∧ (∀ z ∈ s.1, SzOk z) ∧ s.2.1.Nodup ∧ s.2.1.length ≤ 12 ∧ (∀ t ∈ s.2.1, Nm8 t) ∧ s.1.length ≤ pre.length ∧ Wl (n + 1 + 200 * pre.length) s.2.2) ⟨rfl, (fun z hz => by cases hz), .nil, Nat.zero_le _, (fun t ht => by cases ht), Nat.le_refl _, hy⟩ ?_ ?_
  · rintro pre x post ⟨zs, ns, v⟩ hp ⟨i1, i2, i3, i4, i5, i6, i7⟩ nx hnx
    dsimp only at i1 i2 i3 i4 i5 i6 i7
    have pl : pre.length < 7 := by
      have := congrArg List.length hp
      rw [rangeL_len] at this
      simp at this
      omega
    unfold l_sizes_k14_b6
    dsimp only
    refine To.i (fun c => ?_) fun _ => ?_
    · have nl : ns.length < 12 := by
        have : (ns.length : Int) < 12 := by simpa using c
        omega
      refine To.b (To.mE (word14_to i7 (by omega) (by omega))) fun a ⟨a1, a2, ha⟩ => To.v (To.g (by omega) ?_)
      refine To.b (num16_to ha (by omega)) fun l ⟨lb, hl⟩ => To.v (To.b (num16_to hl (by omega)) fun m ⟨mb, hm⟩ => To.v (To.v ?_))
      refine To.b (take_to hm (by decide) (by decide) (by omega)) fun q ⟨q0, q1, hq⟩ => ?_
      obtain ⟨x', hx', ex⟩ := atI_mem' (xs := [(0 : Int), 0, 1, 2, 0, 1, 0, 6]) q0 (by show _ < ((8 : Nat) : Int); omega)
      have xr : 0 ≤ x' ∧ x' ≤ 6 := by
        simp at hx'
        omega
      refine To.o ex (To.g ⟨by omega, by omega⟩ ?_)
      dsimp only
      have nd0 : (ns ++ [a.1]).Nodup := nodup_snoc i3 a2
      refine To.loop (fun pre' (s : List Shi × List Tx × List Int) => s.2.1 = ns ++ (a.1 :: s.1.map (·.1)) ∧ (∀ e ∈ s.1, ShOk e) ∧ s.2.1.Nodup ∧ s.2.1.length ≤ 12 ∧ (∀ t ∈ s.2.1, Nm8 t) ∧ s.1.length ≤ pre'.length ∧ Wl (n + 1 + 200 * pre.length + 19 + 20 * pre'.length) s.2.2) ⟨rfl, (fun z hz => by cases hz), nd0, by simp; omega, ?_, Nat.le_refl _, hq⟩ ?_ ?_
      · intro t ht
        rcases List.mem_append.mp ht with r | r
        · exact i5 t r
        · rw [List.mem_singleton.mp r]; exact a1
      · rintro pre' u post' ⟨sh, ns', v'⟩ hp' ⟨j1, j2, j3, j4, j5, j6, j7⟩ nx' hnx'
        dsimp only at j1 j2 j3 j4 j5 j6 j7
        have pl' : pre'.length < 6 := by
          have := congrArg List.length hp'
          rw [rangeL_len] at this
          simp at this
          omega
        unfold l_sizes_k14_b5
        dsimp only
        refine To.i (fun c => ?_) fun _ => ?_
        · have nl' : ns'.length < 12 := by
            have : (ns'.length : Int) < 12 := by simpa using c
            omega
          refine To.b (To.mE (word14_to j7 (by omega) (by omega))) fun b ⟨b1, b2, hb⟩ => To.g (by omega) ?_
          refine To.b (num16_to hb (by omega)) fun al ⟨alb, hal⟩ => To.v ?_
          refine To.b (take_to hal (by decide) (by decide) (by omega)) fun f ⟨f0, f1, hf⟩ => ?_
          obtain ⟨k, ke, hk⟩ := pick3 (a := sx_7bc55599) (b := sx_95c4bea1) (c := sx_89f6229a) f0 f1
          refine To.o ke (To.v ?_)
          dsimp only
          refine To.o (atI_end _ _) ?_
          rw [mkQ_abs]
          refine To.o rfl (To.g (by omega) ?_)
          unfold l_sizes_k14_k4
          refine hnx' _ ⟨?_, ?_, nodup_snoc j3 b2, by simp; omega, ?_, by simp; omega, hf.up (by simp; omega)⟩
          · show ns' ++ [b.1] = ns ++ (a.1 :: (sh ++ [(b.1, absQ al.1, k)]).map (·.1))
            rw [j1]
            simp
          · intro e he
            rcases List.mem_append.mp he with r | r
            · exact j2 e r
            · rw [List.mem_singleton.mp r]
              exact ⟨b1.nmo, (absQ_bd alb).mono (by decide), absQ_nn _, by rcases hk with r | r | r <;> rw [r] <;> simp⟩
          · intro t ht
            rcases List.mem_append.mp ht with r | r
            · exact j5 t r
            · rw [List.mem_singleton.mp r]; exact b1
        · unfold l_sizes_k14_k4
          exact hnx' _ ⟨j1, j2, j3, j4, j5, by simp; omega, j7.up (by simp; omega)⟩
      · rintro ⟨sh, ns', v'⟩ ⟨j1, j2, j3, j4, j5, j6, j7⟩
        dsimp only at j1 j2 j3 j4 j5 j6 j7
        rw [rangeL_len] at j6 j7
        unfold l_sizes_k14_k3
        dsimp only
        rw [mkQ_abs, opt_some, bind_ok, add16 (lb.mono (by decide)) ((absQ_bd mb).mono (by decide)), mapE_ok]
        refine To.v (To.g (by omega) ?_)
        unfold l_sizes_k14_k2
        have an2 : alln (zs ++ [(a.1, l.1, l.1 + absQ m.1, sh)]) = alln zs ++ (a.1 :: sh.map (·.1)) := by
          rw [alln_app]
          simp [alln, nmz]
        have nd' : (a.1 :: sh.map (·.1)).Nodup := by
          rw [j1] at j3
          exact (List.nodup_append.mp j3).2.1
        refine hnx _ ⟨?_, ?_, j3, j4, j5, by simp; omega, j7.up (by simp; omega)⟩
        · show ns' = alln (zs ++ [(a.1, l.1, l.1 + absQ m.1, sh)])
          rw [an2, j1, i1]
        · intro z hz
          rcases List.mem_append.mp hz with r | r
          · exact i2 z r
          · rw [List.mem_singleton.mp r]
            refine ⟨a1.nmo, lb.mono (by decide), (Nu.plus_bd lb (absQ_bd mb)).mono (by decide), ?_, j2, nd', by show sh.length ≤ 12; omega⟩
            show ¬ (l.1 + absQ m.1).num * (l.1.den : Int) < l.1.num * ((l.1 + absQ m.1).den : Int)
            rw [Nu.less_is]
            have : 0 ≤ absQ m.1 := Rat.num_nonneg.mp (absQ_nn _)
            grind
    · unfold l_sizes_k14_k2
      exact hnx _ ⟨i1, i2, i3, i4, i5, by simp; omega, i7.up (by simp; omega)⟩
  · rintro ⟨zs, ns, v⟩ ⟨i1, i2, i3, i4, i5, i6, i7⟩
    dsimp only at i1 i2 i3 i4 i5 i6 i7
    rw [rangeL_len] at i7
    unfold l_sizes_k14_k1
    refine .ok ⟨⟨⟨i2, by show (alln zs).Nodup; rw [← i1]; exact i3, by show (alln zs).length ≤ 12; rw [← i1]; exact i4⟩, fun t ht => i5 t (by rw [i1]; exact ht)⟩, i1, i7.up (by omega)⟩
theorem faces14_to {n : Nat} {w : List Int} {ns : List Tx} {k : Int} (h : Wl n w) (hn : n ≤ 2 ^ 30) (nd : ns.Nodup) (hl : ns.length ≤ 30) (k0 : 0 ≤ k) (k9 : k ≤ 9) : (l_faces_k14 w ns k).To fun r => FOk ns r.1 ∧ r.1.length = k.toNat ∧ Wl (n + 3000) r.2 := by
  have p30 : (2 : Nat) ^ 30 = 1073741824 := by decide
  have p37 : (2 : Nat) ^ 37 = 137438953472 := by decide
  have p38 : (2 : Nat) ^ 38 = 274877906944 := by decide
  have p40 : (2 : Nat) ^ 40 = 1099511627776 := by decide
  have p62 : (2 : Int) ^ 62 = 4611686018427387904 := by decide
  unfold l_faces_k14
  refine To.v (To.g ⟨by omega, by omega⟩ (To.loop (fun pre (s : List Fc × List Int) => FOk ns s.1 ∧ s.1.length = pre.length ∧ Wl (n + 300 * pre.length) s.2) ⟨⟨fun pre f post e => by simp at e, Nat.zero_le _⟩, rfl, h⟩ ?_ ?_))
  · rintro pre x post ⟨fs, v⟩ hp ⟨i1, i2, i3⟩ nx hnx
    dsimp only at i1 i2 i3
    have pl : pre.length < 9 := by
      have := congrArg List.length hp
      rw [rangeL_len] at this
      simp at this
      omega
    obtain ⟨b1, b2, b3⟩ := build_ok i1
    have bk := build_keys i1
    unfold l_faces_k14_b2
    dsimp only
    refine To.g (by omega) ?_
    rw [lc_some (g := fun f : Fc => f.1) fun f _ => rfl, calm_ok, bind_ok]
    dsimp only
    refine To.g (by simp; omega) ?_
    refine To.b (word14_to i3 (by omega) (by simp; omega)) fun a ⟨a1, a2, ha⟩ => To.v ?_
    have an : a.1 ∉ fs.map (·.1) := fun z => a2 (List.mem_append_left _ z)
    have af : a.1 ≠ sx_39d88b57 := fun z => a2 (List.mem_append_right _ (by rw [z]; simp))
    refine To.b (take_to ha (by decide) (by decide) (by omega)) fun y ⟨y0, y1, hy⟩ => ?_
    obtain ⟨ax, ae, am⟩ := ax2 y0 (by omega)
    refine To.o ae (To.v ?_)
    dsimp only
    refine To.g (by omega) ?_
    rw [lc_map (fun f : Fc => if f.2.1 = ax then some f.1 else none) () _ fun f _ => by
      by_cases c : f.2.1 = ax
      · rw [if_pos (by simpa using c), if_pos c]
      · rw [if_neg (by simpa using c), if_neg c], calm_ok, bind_ok]
    dsimp only
    generalize hF : fs.filterMap (fun f : Fc => if f.2.1 = ax then some f.1 else none) = F
    have Fm : ∀ t ∈ F, ∃ f ∈ fs, f.1 = t ∧ f.2.1 = ax := fun t ht => by
      rw [← hF] at ht
      obtain ⟨f, hf, e⟩ := List.mem_filterMap.mp ht
      split at e
      · rename_i c
        injection e with e
        exact ⟨f, hf, e, c⟩
      · cases e
    have Fl : F.length ≤ fs.length := by rw [← hF]; exact List.length_filterMap_le _ _
    have Ll : (List.map (fun _ => (none : Option Tx)) [(), ()] ++ List.map some F).length = 2 + F.length := by simp; omega
    refine To.g (by simp; omega) (To.v ?_)
    refine To.b (take_to hy (by rw [Ll]; omega) (by rw [Ll]; omega) (by omega)) fun u ⟨u0, u1, hu⟩ => ?_
    obtain ⟨st, hst, se⟩ := atI_mem' u0 u1
    refine To.o se ?_
    refine To.b (sum16_to hu (by omega) nd hl) fun s ⟨s1, hs⟩ => To.g (by omega) ?_
    refine hnx _ ⟨i1.snoc ⟨a1, af, by rw [bk]; exact an, am, s1, ?_⟩ (by omega), by simp [i2], hs.up (by simp; omega)⟩
    have cs : st = none ∨ ∃ t ∈ F, st = some t := by
      rcases List.mem_append.mp hst with q | q
      · simp at q
        exact .inl q
      · obtain ⟨t, ht, e⟩ := List.mem_map.mp q
        exact .inr ⟨t, ht, e.symm⟩
    rcases cs with q | ⟨t, ht, q⟩
    · exact .inl q
    · obtain ⟨f, hf, f1, f2⟩ := Fm t ht
      have m2 : (f.1, f.2.1) ∈ (build fs).map (fun e => (e.1, e.2.1)) := by rw [b3]; exact List.mem_map.mpr ⟨f, hf, rfl⟩
      obtain ⟨g, hg, eg⟩ := List.mem_map.mp m2
      injection eg with g1 g2
      refine .inr ⟨t, g.2.2, q, ?_⟩
      have := dget_mem16 b1.nd hg
      rw [g1, f1] at this
      rw [this]
      show some (g.2.1, g.2.2) = some (ax, g.2.2)
      rw [g2, f2]
  · rintro ⟨fs, v⟩ ⟨i1, i2, i3⟩
    dsimp only at i1 i2 i3
    rw [rangeL_len] at i2 i3
    unfold l_faces_k14_k1
    exact .ok ⟨i1, i2, i3.up (by omega)⟩
section
variable {nm : Tx} {zs : List Siz} {fs : List Fc}
end
section
set_option Elab.async false
set_option linter.all false
set_option maxRecDepth 100000
set_option maxHeartbeats 1000000
set_option synthInstance.maxSize 4000
open TL PySem L2 Res
theorem fold_ext : ∀ (post : List Fc) (pl : Pl), ∃ e, post.foldl stepB pl = pl ++ e
  | [], pl => ⟨[], (List.append_nil _).symm⟩
  | f :: post, pl => by
    obtain ⟨e, h⟩ := fold_ext post (stepB pl f)
    rw [List.foldl_cons, h]
    unfold stepB
    rw [List.append_assoc]
    exact ⟨_, rfl⟩
theorem build_ext (pre post : List Fc) : ∃ e, build (pre ++ post) = build pre ++ e := by
  unfold build
  rw [List.foldl_append]
  exact fold_ext post _
theorem build_take {ns : List Tx} {pre post : List Fc} (h : FOk ns (pre ++ post)) : (build (pre ++ post)).take pre.length = build pre := by
  obtain ⟨e, he⟩ := build_ext pre post
  have l := (build_ok h.pre).2.1
  rw [he, ← l, List.take_left]
theorem names_list {xs : List Tx} (hl : xs.length ≤ 1000) : l_is_list_k14 xs xs = .ok true := by
  unfold l_is_list_k14
  rw [if_pos rfl, if_pos (decide_eq_true rfl), grd_t (by omega), bind_ok, lc_some (g := fun _ : Tx => true) fun x _ => by
    rw [show l_plain (eS x) = .ok true from pl_str 23 x.s]
    rfl, calm_ok, bind_ok, bind_ok, bind_ok]
  dsimp only
  congr 1
  rw [List.all_eq_true]
  intro b hb
  obtain ⟨x, _, rfl⟩ := List.mem_map.mp hb
  rfl
theorem fields_eq {zs : List Siz} (ok : Own8 zs) : l_fields_k16 zs = .ok zs := by
  have le := ok.st.le
  have zl := alln_len zs
  unfold l_fields_k16
  rw [show m_Stock_sizes zs = .ok zs from rfl, mapE_ok, bind_ok, grd_t (by omega), bind_ok, lc_some (g := fun z : Siz => z) fun z _ => rfl, calm_ok, bind_ok, List.map_id']
theorem put14 {nm : Tx} {zs : List Siz} {pre : List Fc} {f : Fc} (ok : Own8 zs) (fp : FOk (alln zs) pre) (pl : pre.length < 9) (st : Step (alln zs) (build pre) f) : m_Part_put_face (nm, zs) (build pre) f.1 f.2.1 f.2.2.1 f.2.2.2 = .ok ((), build (pre ++ [f])) := by
  obtain ⟨b1, b2, b3⟩ := build_ok fp
  obtain ⟨p, ep, sp, hc⟩ := step_shape b1 (by omega) st
  rw [build_snoc, ep]
  rcases hc with ⟨c1, c2⟩ | ⟨t, q, c1, c2, c3, c4⟩
  · rw [c1, put_none ok st.nm st.fr st.new st.ax st.sm b1, c2]
  · rw [c1, put_some ok st.nm st.fr st.new st.ax st.sm b1 c2 c3 (by omega) (by decide) (by omega), c4]
theorem l_law_k14_true : ∀ ns : List Int, ns.length ≤ 63 → l_law_k14 ns = .ok true := by
  intro ns hl
  have p62 : (2 : Int) ^ 62 = 4611686018427387904 := by decide
  have p30 : (2 : Nat) ^ 30 = 1073741824 := by decide
  have p37 : (2 : Nat) ^ 37 = 137438953472 := by decide
  have p38 : (2 : Nat) ^ 38 = 274877906944 := by decide
  have p40 : (2 : Nat) ^ 40 = 1099511627776 := by decide
  have key : (l_law_k14 ns).To (· = true) := by
    unfold l_law_k14
    generalize ht : (if (if (10 : Int) < (List.length ns : Int) then (10 : Int) else (List.length ns : Int)) > (1 : Int) then (if (10 : Int) < (List.length ns : Int) then (10 : Int) else (List.length ns : Int)) else (1 : Int)) = t
    have t0 : 1 ≤ t ∧ t ≤ 10 := by
      rw [← ht]
      split <;> split at * <;> omega
    refine To.g ⟨by omega, by omega⟩ (To.loop (fun _ _ => True) trivial ?_ fun _ _ => .ok rfl)
    intro pre x post s hp _ nx hnx
    have hx := rangeL_mem (lo := 0) (n := t.toNat) (i := x) (by rw [hp]; simp)
    unfold l_law_k14_b4
    refine To.b (well_to (by omega) (by omega)) fun w hw => To.v (To.b (To.mE (word14_to hw (by omega) (by simp))) fun nm ⟨n1, _, hnm⟩ => To.v ?_)
    refine To.b (To.mE (sizes14_to hnm (by omega))) fun zz ⟨sok, zn, hz⟩ => To.v ?_
    obtain ⟨⟨zs, zn'⟩, w2⟩ := zz
    dsimp only at sok zn hz ⊢
    subst zn
    have le := sok.st.le
    have zl := alln_len zs
    refine To.g (by omega) ?_
    rw [lc_some (g := fun z : Siz => z) fun z hz => by rw [made07 (sok.st.sz z hz), mapE_ok, bind_ok], List.map_id', calm_ok, bind_ok]
    refine To.v (To.b (To.mE (take_to hz (by decide) (by decide) (by omega))) fun u ⟨u0, u1, hu⟩ => ?_)
    refine To.e (a := (nm.1, zs, [])) ?_ (To.v (To.v ?_))
    · have cs : u.1 = 0 ∨ u.1 = 1 := by omega
      rcases cs with e | e
      · rw [e, if_pos (by decide), init16 n1 sok, mapE_ok]
      · rw [e, if_neg (by decide), if_pos (by decide), init16 n1 sok, mapE_ok]
    dsimp only
    have st : ∀ pl : Pl, m_Part_stock (nm.1, zs) pl = .ok zs := fun _ => rfl
    refine To.e (a := (false, ())) ?_ ?_
    · rw [if_neg (by simp), st, mapE_ok, bind_ok, snames_eq sok.st, mapE_ok, bind_ok, names_list (by omega), bind_ok, if_neg (by decide), bind_ok, fields_eq sok, bind_ok, bind_ok]
      simp
    rw [if_neg (by decide)]
    refine To.b (To.mE (take_to hu (by decide) (by decide) (by omega))) fun k ⟨k0, k1, hk⟩ => ?_
    refine To.b (To.mE (faces14_to hk (by omega) sok.st.nd (by omega) (by omega) (by omega))) fun fs ⟨fo, fl, hf⟩ => To.v ?_
    dsimp only
    rw [placed16 (by omega) fo]
    have fl9 := fo.2
    refine To.v (To.v (To.g ⟨by omega, by omega⟩ ?_))
    refine To.loop (fun pre (s : Pl) => s = build (fs.1.take pre.length)) rfl ?_ ?_
    · intro pre2 j post2 s hp2 hs nx2 hnx2
      subst hs
      have ej := rangeL_at hp2
      have pl2 : pre2.length < fs.1.length := by
        have := congrArg List.length hp2
        rw [rangeL_len, List.length_append, List.length_cons] at this
        omega
      have ej' : j = (pre2.length : Int) := by omega
      subst ej'
      obtain ⟨f, ef⟩ : ∃ f, fs.1[pre2.length]? = some f := ⟨_, List.getElem?_eq_getElem pl2⟩
      have af : atI fs.1 (pre2.length : Int) = some f := by
        rw [atI_nat' (by omega) (by omega)]
        have := List.getElem?_eq_getElem (l := fs.1) pl2
        rw [ef] at this
        exact this.symm
      have tk : fs.1.take (pre2.length + 1) = fs.1.take pre2.length ++ [f] := by rw [List.take_add_one, ef]; rfl
      have spl : fs.1 = (fs.1.take pre2.length ++ [f]) ++ fs.1.drop (pre2.length + 1) := by rw [← tk, List.take_append_drop]
      have lt : (fs.1.take pre2.length).length = pre2.length := by rw [List.length_take]; omega
      have fo2 : FOk (alln zs) ((fs.1.take pre2.length ++ [f]) ++ fs.1.drop (pre2.length + 1)) := by rw [← spl]; exact fo
      have stp : Step (alln zs) (build (fs.1.take pre2.length)) f := fo.1 (fs.1.take pre2.length) f (fs.1.drop (pre2.length + 1)) (by rw [List.append_assoc] at spl; exact spl)
      have due : (build fs.1).take (pre2.length + 1) = build (fs.1.take pre2.length ++ [f]) := by
        have b := build_take fo2
        rw [← spl, List.length_append, lt, List.length_singleton] at b
        exact b
      obtain ⟨b1, b2, b3⟩ := build_ok fo2.pre
      have kc : cutL (build fs.1) none (some ((pre2.length : Int) + 1)) = (build fs.1).take (pre2.length + 1) := cut_pre _ (pre2.length + 1)
      unfold l_law_k14_b3
      refine To.o af (To.v ?_)
      rw [put14 sok fo2.pre.pre (by omega) stp, mapE_ok]
      refine To.v (To.v ?_)
      dsimp only
      rw [if_neg (by decide), faces_eq b1.nd (by have := b1.len; omega), mapE_ok]
      refine To.v (To.v ?_)
      rw [kc, due, is_list16 (by omega) b1]
      refine To.v ?_
      rw [if_neg (by decide)]
      exact To.v (hnx2 _ (by rw [List.length_append, List.length_singleton, tk]))
    · intro s hs
      subst hs
      rw [rangeL_len, show ((fs.1.length : Int)).toNat = fs.1.length from Int.toNat_natCast _, List.take_length]
      obtain ⟨b1, b2, b3⟩ := build_ok fo
      unfold l_law_k14_k2
      dsimp only
      rw [faces_eq b1.nd (by have := b1.len; omega), mapE_ok]
      refine To.v (To.e (a := (false, ())) ?_ ?_)
      · rw [if_neg (by simp), st, mapE_ok, bind_ok, fields_eq sok, bind_ok]
        simp
      rw [if_neg (by decide)]
      exact hnx () trivial
  obtain ⟨v, e, rfl⟩ := key
  exact e
end
set_option Elab.async false
set_option linter.all false
set_option maxRecDepth 100000
set_option synthInstance.maxSize 4000
set_option maxHeartbeats 4000000
open PySem PySem.Spec L2 TL
namespace N14
def top (i : Nat) : Stmt := PySem.Challenge.pw_fitwhatever_k14_faces_put.main.body.getD i (.Pass ⟨0, 0, 0, 0⟩)
abbrev s_is_whole : Stmt := top 8
abbrev N_is_whole : List Str := ["thing"]
theorem sc_is_whole : FnScope N_is_whole ["thing"] (defScope s_is_whole) := ⟨rfl, rfl, rfl, by decide +kernel, rfl, by decide +kernel, by decide +kernel⟩
abbrev s_common : Stmt := top 9
abbrev N_common : List Str := ["one", "other"]
theorem sc_common : FnScope N_common ["one", "other"] (defScope s_common) := ⟨rfl, rfl, rfl, by decide +kernel, rfl, by decide +kernel, by decide +kernel⟩
abbrev s_number_of : Stmt := top 10
abbrev N_number_of : List Str := ["top", "bottom", "by"]
theorem sc_number_of : FnScope N_number_of ["top", "bottom"] (defScope s_number_of) := ⟨rfl, rfl, rfl, by decide +kernel, rfl, by decide +kernel, by decide +kernel⟩
abbrev s_plus : Stmt := top 11
abbrev N_plus : List Str := ["a", "b"]
theorem sc_plus : FnScope N_plus ["a", "b"] (defScope s_plus) := ⟨rfl, rfl, rfl, by decide +kernel, rfl, by decide +kernel, by decide +kernel⟩
abbrev s_is_less : Stmt := top 12
abbrev N_is_less : List Str := ["a", "b"]
theorem sc_is_less : FnScope N_is_less ["a", "b"] (defScope s_is_less) := ⟨rfl, rfl, rfl, by decide +kernel, rfl, by decide +kernel, by decide +kernel⟩
abbrev s_sum_of : Stmt := top 15
abbrev N_sum_of : List Str := ["number", "pairs", "factors", "name", "factor"]
theorem sc_sum_of : FnScope N_sum_of ["number", "pairs"] (defScope s_sum_of) := ⟨rfl, rfl, rfl, by decide +kernel, rfl, by decide +kernel, by decide +kernel⟩
abbrev s_sum_plus : Stmt := top 16
abbrev N_sum_plus : List Str := ["a", "b"]
theorem sc_sum_plus : FnScope N_sum_plus ["a", "b"] (defScope s_sum_plus) := ⟨rfl, rfl, rfl, by decide +kernel, rfl, by decide +kernel, by decide +kernel⟩
abbrev s_is_name_stocks : Stmt := top 22
abbrev N_is_name_stocks : List Str := ["text", "sign"]
theorem sc_is_name_stocks : FnScope N_is_name_stocks ["text"] (defScope s_is_name_stocks) := ⟨rfl, rfl, rfl, by decide +kernel, rfl, by decide +kernel, by decide +kernel⟩
abbrev s_Size___init__ : Stmt := inClass (top 24) 0
abbrev N_Size___init__ : List Str := ["self", "name", "least", "most", "shifts", "shift", "allowance", "way"]
theorem sc_Size___init__ : FnScope N_Size___init__ ["self", "name", "least", "most", "shifts"] (defScope s_Size___init__) := ⟨rfl, rfl, rfl, by decide +kernel, rfl, by decide +kernel, by decide +kernel⟩
abbrev s_Size_names : Stmt := inClass (top 24) 1
abbrev N_Size_names : List Str := ["self", "shift", "allowance", "way"]
theorem sc_Size_names : FnScope N_Size_names ["self"] (defScope s_Size_names) := ⟨rfl, rfl, rfl, by decide +kernel, rfl, by decide +kernel, by decide +kernel⟩
abbrev s_Stock___init__ : Stmt := inClass (top 25) 0
abbrev N_Stock___init__ : List Str := ["self", "sizes", "names"]
theorem sc_Stock___init__ : FnScope N_Stock___init__ ["self", "sizes"] (defScope s_Stock___init__) := ⟨rfl, rfl, rfl, by decide +kernel, rfl, by decide +kernel, by decide +kernel⟩
abbrev s_Stock_sizes : Stmt := inClass (top 25) 1
abbrev N_Stock_sizes : List Str := ["self"]
theorem sc_Stock_sizes : FnScope N_Stock_sizes ["self"] (defScope s_Stock_sizes) := ⟨rfl, rfl, rfl, by decide +kernel, rfl, by decide +kernel, by decide +kernel⟩
abbrev s_Stock_names : Stmt := inClass (top 25) 2
abbrev N_Stock_names : List Str := ["self", "found", "size"]
theorem sc_Stock_names : FnScope N_Stock_names ["self"] (defScope s_Stock_names) := ⟨rfl, rfl, rfl, by decide +kernel, rfl, by decide +kernel, by decide +kernel⟩
abbrev s_is_name_parts : Stmt := top 31
abbrev N_is_name_parts : List Str := ["thing", "sign"]
theorem sc_is_name_parts : FnScope N_is_name_parts ["thing"] (defScope s_is_name_parts) := ⟨rfl, rfl, rfl, by decide +kernel, rfl, by decide +kernel, by decide +kernel⟩
abbrev s_has_names : Stmt := top 33
abbrev N_has_names : List Str := ["stock", "add", "known", "name", "factor"]
theorem sc_has_names : FnScope N_has_names ["stock", "add"] (defScope s_has_names) := ⟨rfl, rfl, rfl, by decide +kernel, rfl, by decide +kernel, by decide +kernel⟩
abbrev s_Part___init__ : Stmt := inClass (top 34) 0
abbrev N_Part___init__ : List Str := ["self", "name", "sizes", "word"]
theorem sc_Part___init__ : FnScope N_Part___init__ ["self", "name", "sizes"] (defScope s_Part___init__) := ⟨rfl, rfl, rfl, by decide +kernel, rfl, by decide +kernel, by decide +kernel⟩
abbrev s_Part_stock : Stmt := inClass (top 34) 1
abbrev N_Part_stock : List Str := ["self"]
theorem sc_Part_stock : FnScope N_Part_stock ["self"] (defScope s_Part_stock) := ⟨rfl, rfl, rfl, by decide +kernel, rfl, by decide +kernel, by decide +kernel⟩
abbrev s_Part_faces : Stmt := inClass (top 34) 2
abbrev N_Part_faces : List Str := ["self", "name"]
theorem sc_Part_faces : FnScope N_Part_faces ["self"] (defScope s_Part_faces) := ⟨rfl, rfl, rfl, by decide +kernel, rfl, by decide +kernel, by decide +kernel⟩
abbrev s_Part_check_added : Stmt := inClass (top 34) 3
abbrev N_Part_check_added : List Str := ["self", "axis", "add"]
theorem sc_Part_check_added : FnScope N_Part_check_added ["self", "axis", "add"] (defScope s_Part_check_added) := ⟨rfl, rfl, rfl, by decide +kernel, rfl, by decide +kernel, by decide +kernel⟩
abbrev s_Part_put_face : Stmt := inClass (top 34) 4
abbrev N_Part_put_face : List Str := ["self", "name", "axis", "start", "add", "place"]
theorem sc_Part_put_face : FnScope N_Part_put_face ["self", "name", "axis", "start", "add"] (defScope s_Part_put_face) := ⟨rfl, rfl, rfl, by decide +kernel, rfl, by decide +kernel, by decide +kernel⟩
abbrev s__law_well : Stmt := top 36
abbrev N__law_well : List Str := ["_law_script", "_law_k", "_law_cell"]
theorem sc__law_well : FnScope N__law_well ["_law_script", "_law_k"] (defScope s__law_well) := ⟨rfl, rfl, rfl, by decide +kernel, rfl, by decide +kernel, by decide +kernel⟩
abbrev s__law_take : Stmt := top 37
abbrev N__law_take : List Str := ["_law_well_here", "_law_many", "_law_digit", "_law_turn", "_law_number_here"]
theorem sc__law_take : FnScope N__law_take ["_law_well_here", "_law_many"] (defScope s__law_take) := ⟨rfl, rfl, rfl, by decide +kernel, rfl, by decide +kernel, by decide +kernel⟩
abbrev s__law_common : Stmt := top 38
abbrev N__law_common : List Str := ["_law_one", "_law_other"]
theorem sc__law_common : FnScope N__law_common ["_law_one", "_law_other"] (defScope s__law_common) := ⟨rfl, rfl, rfl, by decide +kernel, rfl, by decide +kernel, by decide +kernel⟩
abbrev s__law_num : Stmt := top 39
abbrev N__law_num : List Str := ["_law_top", "_law_bottom", "_law_by"]
theorem sc__law_num : FnScope N__law_num ["_law_top", "_law_bottom"] (defScope s__law_num) := ⟨rfl, rfl, rfl, by decide +kernel, rfl, by decide +kernel, by decide +kernel⟩
abbrev s__law_add : Stmt := top 40
abbrev N__law_add : List Str := ["_law_one", "_law_other"]
theorem sc__law_add : FnScope N__law_add ["_law_one", "_law_other"] (defScope s__law_add) := ⟨rfl, rfl, rfl, by decide +kernel, rfl, by decide +kernel, by decide +kernel⟩
abbrev s__law_number : Stmt := top 41
abbrev N__law_number : List Str := ["_law_well_here", "_law_way"]
theorem sc__law_number : FnScope N__law_number ["_law_well_here"] (defScope s__law_number) := ⟨rfl, rfl, rfl, by decide +kernel, rfl, by decide +kernel, by decide +kernel⟩
abbrev s__law_word : Stmt := top 42
abbrev N__law_word : List Str := ["_law_well_here", "_law_taken", "_law_letters", "_law_some", "_law_word_here", "_law_k"]
theorem sc__law_word : FnScope N__law_word ["_law_well_here", "_law_taken"] (defScope s__law_word) := ⟨rfl, rfl, rfl, by decide +kernel, rfl, by decide +kernel, by decide +kernel⟩
abbrev s__law_sizes : Stmt := top 43
abbrev N__law_sizes : List Str := ["_law_well_here", "_law_most", "_law_names", "_law_sizes_here", "_law_k", "_law_name", "_law_least", "_law_wide", "_law_shifts", "_law_j", "_law_allow", "_law_way"]
theorem sc__law_sizes : FnScope N__law_sizes ["_law_well_here", "_law_most"] (defScope s__law_sizes) := ⟨rfl, rfl, rfl, by decide +kernel, rfl, by decide +kernel, by decide +kernel⟩
abbrev s__law_sum : Stmt := top 44
abbrev N__law_sum : List Str := ["_law_well_here", "_law_names", "_law_pairs", "_law_name", "_law_way", "_law_factor"]
theorem sc__law_sum : FnScope N__law_sum ["_law_well_here", "_law_names"] (defScope s__law_sum) := ⟨rfl, rfl, rfl, by decide +kernel, rfl, by decide +kernel, by decide +kernel⟩
abbrev s__law_plus : Stmt := top 45
abbrev N__law_plus : List Str := ["_law_one", "_law_other", "_law_sign", "_law_factors", "_law_name", "_law_factor", "_law_pairs"]
theorem sc__law_plus : FnScope N__law_plus ["_law_one", "_law_other", "_law_sign"] (defScope s__law_plus) := ⟨rfl, rfl, rfl, by decide +kernel, rfl, by decide +kernel, by decide +kernel⟩
abbrev s__law_faces : Stmt := top 46
abbrev N__law_faces : List Str := ["_law_well_here", "_law_names", "_law_many", "_law_faces_here", "_law_k", "_law_name", "_law_face", "_law_axis", "_law_some"]
theorem sc__law_faces : FnScope N__law_faces ["_law_well_here", "_law_names", "_law_many"] (defScope s__law_faces) := ⟨rfl, rfl, rfl, by decide +kernel, rfl, by decide +kernel, by decide +kernel⟩
abbrev s__law_placed : Stmt := top 47
abbrev N__law_placed : List Str := ["_law_faces_here", "_law_placed_here", "_law_told", "_law_name", "_law_axis", "_law_start", "_law_add_here", "_law_place"]
theorem sc__law_placed : FnScope N__law_placed ["_law_faces_here"] (defScope s__law_placed) := ⟨rfl, rfl, rfl, by decide +kernel, rfl, by decide +kernel, by decide +kernel⟩
abbrev s__law_plain : Stmt := top 48
abbrev N__law_plain : List Str := ["_law_thing", "_law_part"]
theorem sc__law_plain : FnScope N__law_plain ["_law_thing"] (defScope s__law_plain) := ⟨rfl, rfl, rfl, by decide +kernel, rfl, by decide +kernel, by decide +kernel⟩
abbrev s__law_is_list : Stmt := top 49
abbrev N__law_is_list : List Str := ["_law_found", "_law_due", "_law_part"]
theorem sc__law_is_list : FnScope N__law_is_list ["_law_found", "_law_due"] (defScope s__law_is_list) := ⟨rfl, rfl, rfl, by decide +kernel, rfl, by decide +kernel, by decide +kernel⟩
abbrev s__law_fields : Stmt := top 50
abbrev N__law_fields : List Str := ["_law_stock", "_law_size"]
theorem sc__law_fields : FnScope N__law_fields ["_law_stock"] (defScope s__law_fields) := ⟨rfl, rfl, rfl, by decide +kernel, rfl, by decide +kernel, by decide +kernel⟩
abbrev s_law : Stmt := top 51
abbrev N_law : List Str := ["_law_script", "_law_k", "_law_well_here", "_law_name", "_law_sizes_here", "_law_names", "_law_given", "_law_word_here", "_law_least", "_law_most", "_law_shifts", "_law_part", "_law_faces_here", "_law_due", "_law_j", "_law_face", "_law_axis", "_law_start", "_law_add_here", "_law_found"]
theorem sc_law : FnScope N_law ["_law_script"] (defScope s_law) := ⟨rfl, rfl, rfl, by decide +kernel, rfl, by decide +kernel, by decide +kernel⟩
abbrev R_Size (K : PySem.W.Frag) (x : (Tx × Rat × Rat × (List (Tx × Rat × Tx)))) : Ty := IN K (He.ga K "Size") [("name", (tD K eS) x.1), ("least", (tD K eQ) x.2.1), ("most", (tD K eQ) x.2.2.1), ("shifts", (VP K (T3 K (tD K eS) (tD K eQ) (tD K eS))) x.2.2.2)]
abbrev R_Stock (K : PySem.W.Frag) (x : (List (Tx × Rat × Rat × (List (Tx × Rat × Tx))))) : Ty := IN K (He.ga K "Stock") [("row", (VP K (R_Size K)) x)]
abbrev OIo_Part (K : PySem.W.Frag) (b1 : Addr) (x : (Tx × (List (Tx × Rat × Rat × (List (Tx × Rat × Tx)))))) : OTy := OI K (He.ga K "Part") [("name", (tD K eS) (x.1)), ("own", (R_Stock K) (x.2)), ("placed", Is (.ref b1))]
abbrev O_Part (K : PySem.W.Frag) (x : (Tx × (List (Tx × Rat × Rat × (List (Tx × Rat × Tx)))) × (List (Tx × (Tx × (Rat × (List (Tx × Rat)))))))) : OTy := OX1 ((OXT kS (T2 K (tD K eS) (T2 K (tD K eQ) (VP K (T2 K (tD K eS) (tD K eQ)))))) (x.2.2)) (fun b1 => OIo_Part K b1 (x.1, x.2.1))
def sp_is_whole (K : PySem.W.Frag) : Sp := spP K (τ := Int × Unit) (fun t => [(tD K eI) t.1]) (fun t => m_is_whole t.1) (fun r => .ok ((tD K eB) r))
abbrev w_is_whole (K : PySem.W.Frag) (X : XK) (Q : VK) (D0 : Own) : Wish K Unit (Bool) := dwish K X Q (fun r => .ok ((tD K eB) r)) (fun _ => D0) (fun _ : Unit => D0)
def sp_common (K : PySem.W.Frag) : Sp := spP K (τ := Int × Int × Unit) (fun t => [(tD K eI) t.1, (tD K eI) t.2.1]) (fun t => m_common t.1 t.2.1) (fun r => .ok ((tD K eI) r))
abbrev w_common (K : PySem.W.Frag) (X : XK) (Q : VK) (D0 : Own) : Wish K Unit (Int) := dwish K X Q (fun r => .ok ((tD K eI) r)) (fun _ => D0) (fun _ : Unit => D0)
def sp_number_of (K : PySem.W.Frag) : Sp := spP K (τ := Int × Int × Unit) (fun t => [(tD K eI) t.1, (tD K eI) t.2.1]) (fun t => m_number_of t.1 t.2.1) (fun r => .ok ((tD K eQ) r))
abbrev w_number_of (K : PySem.W.Frag) (X : XK) (Q : VK) (D0 : Own) : Wish K Unit (Rat) := dwish K X Q (fun r => .ok ((tD K eQ) r)) (fun _ => D0) (fun _ : Unit => D0)
def sp_plus (K : PySem.W.Frag) : Sp := spP K (τ := Rat × Rat × Unit) (fun t => [(tD K eQ) t.1, (tD K eQ) t.2.1]) (fun t => m_plus t.1 t.2.1) (fun r => .ok ((tD K eQ) r))
abbrev w_plus (K : PySem.W.Frag) (X : XK) (Q : VK) (D0 : Own) : Wish K Unit (Rat) := dwish K X Q (fun r => .ok ((tD K eQ) r)) (fun _ => D0) (fun _ : Unit => D0)
def sp_is_less (K : PySem.W.Frag) : Sp := spP K (τ := Rat × Rat × Unit) (fun t => [(tD K eQ) t.1, (tD K eQ) t.2.1]) (fun t => m_is_less t.1 t.2.1) (fun r => .ok ((tD K eB) r))
abbrev w_is_less (K : PySem.W.Frag) (X : XK) (Q : VK) (D0 : Own) : Wish K Unit (Bool) := dwish K X Q (fun r => .ok ((tD K eB) r)) (fun _ => D0) (fun _ : Unit => D0)
def sp_sum_of (K : PySem.W.Frag) : Sp := spP K (τ := Rat × (List (Tx × Rat)) × Unit) (fun t => [(tD K eQ) t.1, (VP K (T2 K (tD K eS) (tD K eQ))) t.2.1]) (fun t => m_sum_of t.1 t.2.1) (fun r => .ok ((T2 K (tD K eQ) (VP K (T2 K (tD K eS) (tD K eQ)))) r))
abbrev w_sum_of (K : PySem.W.Frag) (X : XK) (Q : VK) (D0 : Own) : Wish K Unit ((Rat × (List (Tx × Rat)))) := dwish K X Q (fun r => .ok ((T2 K (tD K eQ) (VP K (T2 K (tD K eS) (tD K eQ)))) r)) (fun _ => D0) (fun _ : Unit => D0)
def sp_sum_plus (K : PySem.W.Frag) : Sp := spP K (τ := (Rat × (List (Tx × Rat))) × (Rat × (List (Tx × Rat))) × Unit) (fun t => [(T2 K (tD K eQ) (VP K (T2 K (tD K eS) (tD K eQ)))) t.1, (T2 K (tD K eQ) (VP K (T2 K (tD K eS) (tD K eQ)))) t.2.1]) (fun t => m_sum_plus t.1 t.2.1) (fun r => .ok ((T2 K (tD K eQ) (VP K (T2 K (tD K eS) (tD K eQ)))) r))
abbrev w_sum_plus (K : PySem.W.Frag) (X : XK) (Q : VK) (D0 : Own) : Wish K Unit ((Rat × (List (Tx × Rat)))) := dwish K X Q (fun r => .ok ((T2 K (tD K eQ) (VP K (T2 K (tD K eS) (tD K eQ)))) r)) (fun _ => D0) (fun _ : Unit => D0)
def sp_is_name_stocks (K : PySem.W.Frag) : Sp := spP K (τ := Tx × Unit) (fun t => [(tD K eS) t.1]) (fun t => m_is_name t.1) (fun r => .ok ((tD K eB) r))
abbrev w_is_name_stocks (K : PySem.W.Frag) (X : XK) (Q : VK) (D0 : Own) : Wish K Unit (Bool) := dwish K X Q (fun r => .ok ((tD K eB) r)) (fun _ => D0) (fun _ : Unit => D0)
def sp_Size_names (K : PySem.W.Frag) : Sp := spP K (τ := (Tx × Rat × Rat × (List (Tx × Rat × Tx))) × Unit) (fun t => [(R_Size K) t.1]) (fun t => m_Size_names_k07 t.1) (fun r => .new ((OLT (tD K eS)) r))
abbrev w_Size_names (K : PySem.W.Frag) (X : XK) (Q : VK) (D0 : Own) : Wish K Unit ((List Tx)) := dwish K X Q (fun r => .new ((OLT (tD K eS)) r)) (fun _ => D0) (fun _ : Unit => D0)
def sp_Size___init__ (K : PySem.W.Frag) : Sp := spI K (He.ga K "Size") (τ := Tx × Rat × Rat × (List (Tx × Rat × Tx)) × Unit) (fun t => [(tD K eS) t.1, (tD K eQ) t.2.1, (tD K eQ) t.2.2.1, (VP K (T3 K (tD K eS) (tD K eQ) (tD K eS))) t.2.2.2.1]) (fun t => m_Size___init___k07 t.1 t.2.1 t.2.2.1 t.2.2.2.1) (fun r => [("name", (tD K eS) r.1), ("least", (tD K eQ) r.2.1), ("most", (tD K eQ) r.2.2.1), ("shifts", (VP K (T3 K (tD K eS) (tD K eQ) (tD K eS))) r.2.2.2)])
abbrev w_Size___init__ (K : PySem.W.Frag) (X : XK) (Q : VK) (a : Addr) (D0 : Own) : Wish K Unit (Tx × Rat × Rat × (List (Tx × Rat × Tx))) := iwish K (He.ga K "Size") X Q a (fun r : (Tx × Rat × Rat × (List (Tx × Rat × Tx))) => [("name", (tD K eS) r.1), ("least", (tD K eQ) r.2.1), ("most", (tD K eQ) r.2.2.1), ("shifts", (VP K (T3 K (tD K eS) (tD K eQ) (tD K eS))) r.2.2.2)]) D0
def sp_Stock_names (K : PySem.W.Frag) : Sp := spP K (τ := (List (Tx × Rat × Rat × (List (Tx × Rat × Tx)))) × Unit) (fun t => [(R_Stock K) t.1]) (fun t => m_Stock_names t.1) (fun r => .new ((OLT (tD K eS)) r))
abbrev w_Stock_names (K : PySem.W.Frag) (X : XK) (Q : VK) (D0 : Own) : Wish K Unit ((List Tx)) := dwish K X Q (fun r => .new ((OLT (tD K eS)) r)) (fun _ => D0) (fun _ : Unit => D0)
def sp_Stock___init___0 (K : PySem.W.Frag) : Sp := spIR K (He.ga K "Stock") (τ := (Addr × (List (Tx × Rat × Rat × (List (Tx × Rat × Tx))))) × Unit) (fun t => [Is (.ref t.1.1)]) (fun t D => RdC D t.1.1 ((OLT (R_Size K)) t.1.2) ∧ True) (fun t => m_Stock___init__ t.1.2) (fun r => [("row", (VP K (R_Size K)) r)])
abbrev w_Stock___init___0 (K : PySem.W.Frag) (X : XK) (Q : VK) (a : Addr) (D0 : Own) : Wish K Unit (List (Tx × Rat × Rat × (List (Tx × Rat × Tx)))) := iwish K (He.ga K "Stock") X Q a (fun r : (List (Tx × Rat × Rat × (List (Tx × Rat × Tx)))) => [("row", (VP K (R_Size K)) r)]) D0
def sp_Stock___init___1 (K : PySem.W.Frag) : Sp := spI K (He.ga K "Stock") (τ := (List (Tx × Rat × Rat × (List (Tx × Rat × Tx)))) × Unit) (fun t => [(VP K (R_Size K)) t.1]) (fun t => m_Stock___init__ t.1) (fun r => [("row", (VP K (R_Size K)) r)])
abbrev w_Stock___init___1 (K : PySem.W.Frag) (X : XK) (Q : VK) (a : Addr) (D0 : Own) : Wish K Unit (List (Tx × Rat × Rat × (List (Tx × Rat × Tx)))) := iwish K (He.ga K "Stock") X Q a (fun r : (List (Tx × Rat × Rat × (List (Tx × Rat × Tx)))) => [("row", (VP K (R_Size K)) r)]) D0
def sp_Stock___init__ (K : PySem.W.Frag) : Sp := fun vs H Q X => sp_Stock___init___0 K vs H Q X ∨ sp_Stock___init___1 K vs H Q X
def sp_Stock_sizes (K : PySem.W.Frag) : Sp := spP K (τ := (List (Tx × Rat × Rat × (List (Tx × Rat × Tx)))) × Unit) (fun t => [(R_Stock K) t.1]) (fun t => m_Stock_sizes t.1) (fun r => .ok ((LT K (R_Size K)) r))
abbrev w_Stock_sizes (K : PySem.W.Frag) (X : XK) (Q : VK) (D0 : Own) : Wish K Unit ((List (Tx × Rat × Rat × (List (Tx × Rat × Tx))))) := dwish K X Q (fun r => .ok ((LT K (R_Size K)) r)) (fun _ => D0) (fun _ : Unit => D0)
def sp_is_name_parts (K : PySem.W.Frag) : Sp := spP K (τ := Tx × Unit) (fun t => [(tD K eS) t.1]) (fun t => m_is_name_parts t.1) (fun r => .ok ((tD K eB) r))
abbrev w_is_name_parts (K : PySem.W.Frag) (X : XK) (Q : VK) (D0 : Own) : Wish K Unit (Bool) := dwish K X Q (fun r => .ok ((tD K eB) r)) (fun _ => D0) (fun _ : Unit => D0)
def sp_has_names (K : PySem.W.Frag) : Sp := spP K (τ := (List (Tx × Rat × Rat × (List (Tx × Rat × Tx)))) × (Rat × (List (Tx × Rat))) × Unit) (fun t => [(R_Stock K) t.1, (T2 K (tD K eQ) (VP K (T2 K (tD K eS) (tD K eQ)))) t.2.1]) (fun t => m_has_names t.1 t.2.1) (fun r => .ok ((tD K eB) r))
abbrev w_has_names (K : PySem.W.Frag) (X : XK) (Q : VK) (D0 : Own) : Wish K Unit (Bool) := dwish K X Q (fun r => .ok ((tD K eB) r)) (fun _ => D0) (fun _ : Unit => D0)
def sp_Part___init___0 (K : PySem.W.Frag) : Sp := spIOR K (He.ga K "Part") (τ := Tx × (Addr × (List (Tx × Rat × Rat × (List (Tx × Rat × Tx))))) × Unit) (fun t => [(tD K eS) t.1, Is (.ref t.2.1.1)]) (fun t D => RdC D t.2.1.1 ((OLT (R_Size K)) t.2.1.2) ∧ True) (fun t => m_Part___init__ t.1 t.2.1.2) (fun r => O_Part K r)
abbrev w_Part___init___0 (K : PySem.W.Frag) (X : XK) (Q : VK) (a : Addr) (D0 : Own) : Wish K Unit (Tx × (List (Tx × Rat × Rat × (List (Tx × Rat × Tx)))) × (List (Tx × (Tx × (Rat × (List (Tx × Rat))))))) := iwishO K X Q a (fun r : (Tx × (List (Tx × Rat × Rat × (List (Tx × Rat × Tx)))) × (List (Tx × (Tx × (Rat × (List (Tx × Rat))))))) => O_Part K r) D0
def sp_Part___init___1 (K : PySem.W.Frag) : Sp := spIO K (He.ga K "Part") (τ := Tx × (List (Tx × Rat × Rat × (List (Tx × Rat × Tx)))) × Unit) (fun t => [(tD K eS) t.1, (VP K (R_Size K)) t.2.1]) (fun t => m_Part___init__ t.1 t.2.1) (fun r => O_Part K r)
abbrev w_Part___init___1 (K : PySem.W.Frag) (X : XK) (Q : VK) (a : Addr) (D0 : Own) : Wish K Unit (Tx × (List (Tx × Rat × Rat × (List (Tx × Rat × Tx)))) × (List (Tx × (Tx × (Rat × (List (Tx × Rat))))))) := iwishO K X Q a (fun r : (Tx × (List (Tx × Rat × Rat × (List (Tx × Rat × Tx)))) × (List (Tx × (Tx × (Rat × (List (Tx × Rat))))))) => O_Part K r) D0
def sp_Part___init__ (K : PySem.W.Frag) : Sp := fun vs H Q X => sp_Part___init___0 K vs H Q X ∨ sp_Part___init___1 K vs H Q X
def sp_Part_stock (K : PySem.W.Frag) : Sp := spXR K (τ := (Addr × (Tx × (List (Tx × Rat × Rat × (List (Tx × Rat × Tx)))))) × (Addr × (List (Tx × (Tx × (Rat × (List (Tx × Rat))))))) × Unit) (fun t => [Is (.ref t.1.1)]) (fun t => [(t.1.1, OIo_Part K t.2.1.1 t.1.2), (t.2.1.1, (OXT kS (T2 K (tD K eS) (T2 K (tD K eQ) (VP K (T2 K (tD K eS) (tD K eQ)))))) t.2.1.2)]) (fun t => m_Part_stock t.1.2 t.2.1.2) (fun r => .ok ((R_Stock K) r))
abbrev w_Part_stock (K : PySem.W.Frag) (X : XK) (Q : VK) (a_vself : Addr) (vself : (Tx × (List (Tx × Rat × Rat × (List (Tx × Rat × Tx)))))) (a_vself_placed : Addr) (vself_placed : (List (Tx × (Tx × (Rat × (List (Tx × Rat))))))) (D0 : Own) : Wish K Unit ((List (Tx × Rat × Rat × (List (Tx × Rat × Tx))))) := dwish K X Q (fun r => .ok ((R_Stock K) r)) (fun _ => (a_vself, OIo_Part K a_vself_placed vself) :: (a_vself_placed, (OXT kS (T2 K (tD K eS) (T2 K (tD K eQ) (VP K (T2 K (tD K eS) (tD K eQ)))))) vself_placed) :: D0) (fun _ : Unit => (a_vself, OIo_Part K a_vself_placed vself) :: (a_vself_placed, (OXT kS (T2 K (tD K eS) (T2 K (tD K eQ) (VP K (T2 K (tD K eS) (tD K eQ)))))) vself_placed) :: D0)
def sp_Part_faces (K : PySem.W.Frag) : Sp := spXR K (τ := (Addr × (Tx × (List (Tx × Rat × Rat × (List (Tx × Rat × Tx)))))) × (Addr × (List (Tx × (Tx × (Rat × (List (Tx × Rat))))))) × Unit) (fun t => [Is (.ref t.1.1)]) (fun t => [(t.1.1, OIo_Part K t.2.1.1 t.1.2), (t.2.1.1, (OXT kS (T2 K (tD K eS) (T2 K (tD K eQ) (VP K (T2 K (tD K eS) (tD K eQ)))))) t.2.1.2)]) (fun t => m_Part_faces t.1.2 t.2.1.2) (fun r => .new ((OLT (T3 K (tD K eS) (tD K eS) (T2 K (tD K eQ) (VP K (T2 K (tD K eS) (tD K eQ)))))) r))
abbrev w_Part_faces (K : PySem.W.Frag) (X : XK) (Q : VK) (a_vself : Addr) (vself : (Tx × (List (Tx × Rat × Rat × (List (Tx × Rat × Tx)))))) (a_vself_placed : Addr) (vself_placed : (List (Tx × (Tx × (Rat × (List (Tx × Rat))))))) (D0 : Own) : Wish K Unit ((List (Tx × Tx × (Rat × (List (Tx × Rat)))))) := dwish K X Q (fun r => .new ((OLT (T3 K (tD K eS) (tD K eS) (T2 K (tD K eQ) (VP K (T2 K (tD K eS) (tD K eQ)))))) r)) (fun _ => (a_vself, OIo_Part K a_vself_placed vself) :: (a_vself_placed, (OXT kS (T2 K (tD K eS) (T2 K (tD K eQ) (VP K (T2 K (tD K eS) (tD K eQ)))))) vself_placed) :: D0) (fun _ : Unit => (a_vself, OIo_Part K a_vself_placed vself) :: (a_vself_placed, (OXT kS (T2 K (tD K eS) (T2 K (tD K eQ) (VP K (T2 K (tD K eS) (tD K eQ)))))) vself_placed) :: D0)
def sp_Part_check_added (K : PySem.W.Frag) : Sp := spXR K (τ := (Addr × (Tx × (List (Tx × Rat × Rat × (List (Tx × Rat × Tx)))))) × (Addr × (List (Tx × (Tx × (Rat × (List (Tx × Rat))))))) × Tx × (Rat × (List (Tx × Rat))) × Unit) (fun t => [Is (.ref t.1.1), (tD K eS) t.2.2.1, (T2 K (tD K eQ) (VP K (T2 K (tD K eS) (tD K eQ)))) t.2.2.2.1]) (fun t => [(t.1.1, OIo_Part K t.2.1.1 t.1.2), (t.2.1.1, (OXT kS (T2 K (tD K eS) (T2 K (tD K eQ) (VP K (T2 K (tD K eS) (tD K eQ)))))) t.2.1.2)]) (fun t => m_Part_check_added t.1.2 t.2.1.2 t.2.2.1 t.2.2.2.1) (fun r => .ok ((tD K eU) r))
abbrev w_Part_check_added (K : PySem.W.Frag) (X : XK) (Q : VK) (a_vself : Addr) (vself : (Tx × (List (Tx × Rat × Rat × (List (Tx × Rat × Tx)))))) (a_vself_placed : Addr) (vself_placed : (List (Tx × (Tx × (Rat × (List (Tx × Rat))))))) (D0 : Own) : Wish K Unit (Unit) := dwish K X Q (fun r => .ok ((tD K eU) r)) (fun _ => (a_vself, OIo_Part K a_vself_placed vself) :: (a_vself_placed, (OXT kS (T2 K (tD K eS) (T2 K (tD K eQ) (VP K (T2 K (tD K eS) (tD K eQ)))))) vself_placed) :: D0) (fun _ : Unit => (a_vself, OIo_Part K a_vself_placed vself) :: (a_vself_placed, (OXT kS (T2 K (tD K eS) (T2 K (tD K eQ) (VP K (T2 K (tD K eS) (tD K eQ)))))) vself_placed) :: D0)
def sp_Part_put_face (K : PySem.W.Frag) : Sp := spX K (τ := (Addr × (Tx × (List (Tx × Rat × Rat × (List (Tx × Rat × Tx)))))) × Addr × Tx × Tx × (Option Tx) × (Rat × (List (Tx × Rat))) × Unit) (Ω := (List (Tx × (Tx × (Rat × (List (Tx × Rat))))))) (fun t => [Is (.ref t.1.1), (tD K eS) t.2.2.1, (tD K eS) t.2.2.2.1, (OpT K (tD K eS)) t.2.2.2.2.1, (T2 K (tD K eQ) (VP K (T2 K (tD K eS) (tD K eQ)))) t.2.2.2.2.2.1]) (fun t y => [(t.1.1, OIo_Part K t.2.1 t.1.2), (t.2.1, (OXT kS (T2 K (tD K eS) (T2 K (tD K eQ) (VP K (T2 K (tD K eS) (tD K eQ)))))) (y))]) (fun t y => m_Part_put_face t.1.2 y t.2.2.1 t.2.2.2.1 t.2.2.2.2.1 t.2.2.2.2.2.1) (fun r => .ok ((tD K eU) r))
abbrev w_Part_put_face (K : PySem.W.Frag) (X : XK) (Q : VK) (a_vself : Addr) (vself : (Tx × (List (Tx × Rat × Rat × (List (Tx × Rat × Tx)))))) (a_vself_placed : Addr) (D0 : Own) : Wish K (List (Tx × (Tx × (Rat × (List (Tx × Rat)))))) (Unit × (List (Tx × (Tx × (Rat × (List (Tx × Rat))))))) := dwish K X Q (fun r : Unit × (List (Tx × (Tx × (Rat × (List (Tx × Rat)))))) => (fun r => .ok ((tD K eU) r)) r.1) (fun r => (a_vself, OIo_Part K a_vself_placed vself) :: (a_vself_placed, (OXT kS (T2 K (tD K eS) (T2 K (tD K eQ) (VP K (T2 K (tD K eS) (tD K eQ)))))) (r.2)) :: D0) (fun e => (a_vself, OIo_Part K a_vself_placed vself) :: (a_vself_placed, (OXT kS (T2 K (tD K eS) (T2 K (tD K eQ) (VP K (T2 K (tD K eS) (tD K eQ)))))) (e)) :: D0)
def sp__law_well (K : PySem.W.Frag) : Sp := spP K (τ := (List Int) × Int × Unit) (fun t => [(LT K (tD K eI)) t.1, (tD K eI) t.2.1]) (fun t => l_well t.1 t.2.1) (fun r => .new ((OLT (tD K eI)) r))
abbrev w__law_well (K : PySem.W.Frag) (X : XK) (Q : VK) (D0 : Own) : Wish K Unit ((List Int)) := dwish K X Q (fun r => .new ((OLT (tD K eI)) r)) (fun _ => D0) (fun _ : Unit => D0)
def sp__law_take (K : PySem.W.Frag) : Sp := spC K (τ := Unit × Int × Unit) (OLT (tD K eI)) (fun a t => [Is (.ref a), (tD K eI) t.2.1]) (fun t y => l_take y t.2.1) (fun r => .ok ((tD K eI) r))
abbrev w__law_take (K : PySem.W.Frag) (X : XK) (Q : VK) (Dp : (List Int) → Own) : Wish K (List Int) (Int × (List Int)) := dwish K X Q (fun r : Int × (List Int) => (fun r => .ok ((tD K eI) r)) r.1) (fun r => Dp r.2) Dp
def sp__law_common (K : PySem.W.Frag) : Sp := spP K (τ := Int × Int × Unit) (fun t => [(tD K eI) t.1, (tD K eI) t.2.1]) (fun t => l_common t.1 t.2.1) (fun r => .ok ((tD K eI) r))
abbrev w__law_common (K : PySem.W.Frag) (X : XK) (Q : VK) (D0 : Own) : Wish K Unit (Int) := dwish K X Q (fun r => .ok ((tD K eI) r)) (fun _ => D0) (fun _ : Unit => D0)
def sp__law_num (K : PySem.W.Frag) : Sp := spP K (τ := Int × Int × Unit) (fun t => [(tD K eI) t.1, (tD K eI) t.2.1]) (fun t => l_num_k58 t.1 t.2.1) (fun r => .ok ((tD K eQ) r))
abbrev w__law_num (K : PySem.W.Frag) (X : XK) (Q : VK) (D0 : Own) : Wish K Unit (Rat) := dwish K X Q (fun r => .ok ((tD K eQ) r)) (fun _ => D0) (fun _ : Unit => D0)
def sp__law_add (K : PySem.W.Frag) : Sp := spP K (τ := Rat × Rat × Unit) (fun t => [(tD K eQ) t.1, (tD K eQ) t.2.1]) (fun t => l_add_k16 t.1 t.2.1) (fun r => .ok ((tD K eQ) r))
abbrev w__law_add (K : PySem.W.Frag) (X : XK) (Q : VK) (D0 : Own) : Wish K Unit (Rat) := dwish K X Q (fun r => .ok ((tD K eQ) r)) (fun _ => D0) (fun _ : Unit => D0)
def sp__law_number (K : PySem.W.Frag) : Sp := spC K (τ := Unit × Unit) (OLT (tD K eI)) (fun a t => [Is (.ref a)]) (fun t y => l_number_k16 y) (fun r => .ok ((tD K eQ) r))
abbrev w__law_number (K : PySem.W.Frag) (X : XK) (Q : VK) (Dp : (List Int) → Own) : Wish K (List Int) (Rat × (List Int)) := dwish K X Q (fun r : Rat × (List Int) => (fun r => .ok ((tD K eQ) r)) r.1) (fun r => Dp r.2) Dp
def sp__law_word_0 (K : PySem.W.Frag) : Sp := spC K (τ := Unit × (List Tx) × Unit) (OLT (tD K eI)) (fun a t => [Is (.ref a), (LT K (tD K eS)) t.2.1]) (fun t y => l_word_k14 y t.2.1) (fun r => .ok ((tD K eS) r))
abbrev w__law_word_0 (K : PySem.W.Frag) (X : XK) (Q : VK) (Dp : (List Int) → Own) : Wish K (List Int) (Tx × (List Int)) := dwish K X Q (fun r : Tx × (List Int) => (fun r => .ok ((tD K eS) r)) r.1) (fun r => Dp r.2) Dp
def sp__law_word_1 (K : PySem.W.Frag) : Sp := spM K (τ := Addr × (Addr × (List Tx)) × Unit) (Ω := (List Int)) (fun t => [Is (.ref t.1), Is (.ref t.2.1.1)]) (fun t Dp => WrC Dp t.1 (OLT (tD K eI)) (fun y => y) (fun y v => v) ∧ (∃ k : Nat, ∀ y, (Dp y)[k]? = some (t.2.1.1, (OLT (tD K eS)) t.2.1.2)) ∧ True) (fun t y => l_word_k14 y t.2.1.2) (fun r => .ok ((tD K eS) r))
abbrev w__law_word_1 (K : PySem.W.Frag) (X : XK) (Q : VK) (Dp : (List Int) → Own) : Wish K (List Int) (Tx × (List Int)) := dwish K X Q (fun r : Tx × (List Int) => (fun r => .ok ((tD K eS) r)) r.1) (fun r => Dp r.2) Dp
def sp__law_word (K : PySem.W.Frag) : Sp := fun vs H Q X => sp__law_word_0 K vs H Q X ∨ sp__law_word_1 K vs H Q X
def sp__law_sizes (K : PySem.W.Frag) : Sp := spC K (τ := Unit × Int × Unit) (OLT (tD K eI)) (fun a t => [Is (.ref a), (tD K eI) t.2.1]) (fun t y => l_sizes_k14 y t.2.1) (fun r => .ok ((T2 K (LT K (T4 K (tD K eS) (tD K eQ) (tD K eQ) (VP K (T3 K (tD K eS) (tD K eQ) (tD K eS))))) (LT K (tD K eS))) r))
abbrev w__law_sizes (K : PySem.W.Frag) (X : XK) (Q : VK) (Dp : (List Int) → Own) : Wish K (List Int) (((List (Tx × Rat × Rat × (List (Tx × Rat × Tx)))) × (List Tx)) × (List Int)) := dwish K X Q (fun r : ((List (Tx × Rat × Rat × (List (Tx × Rat × Tx)))) × (List Tx)) × (List Int) => (fun r => .ok ((T2 K (LT K (T4 K (tD K eS) (tD K eQ) (tD K eQ) (VP K (T3 K (tD K eS) (tD K eQ) (tD K eS))))) (LT K (tD K eS))) r)) r.1) (fun r => Dp r.2) Dp
def sp__law_sum (K : PySem.W.Frag) : Sp := spC K (τ := Unit × (List Tx) × Unit) (OLT (tD K eI)) (fun a t => [Is (.ref a), (LT K (tD K eS)) t.2.1]) (fun t y => l_sum_k16 y t.2.1) (fun r => .ok ((T2 K (tD K eQ) (VP K (T2 K (tD K eS) (tD K eQ)))) r))
abbrev w__law_sum (K : PySem.W.Frag) (X : XK) (Q : VK) (Dp : (List Int) → Own) : Wish K (List Int) ((Rat × (List (Tx × Rat))) × (List Int)) := dwish K X Q (fun r : (Rat × (List (Tx × Rat))) × (List Int) => (fun r => .ok ((T2 K (tD K eQ) (VP K (T2 K (tD K eS) (tD K eQ)))) r)) r.1) (fun r => Dp r.2) Dp
def sp__law_plus (K : PySem.W.Frag) : Sp := spP K (τ := (Rat × (List (Tx × Rat))) × (Rat × (List (Tx × Rat))) × Int × Unit) (fun t => [(T2 K (tD K eQ) (VP K (T2 K (tD K eS) (tD K eQ)))) t.1, (T2 K (tD K eQ) (VP K (T2 K (tD K eS) (tD K eQ)))) t.2.1, (tD K eI) t.2.2.1]) (fun t => l_plus t.1 t.2.1 t.2.2.1) (fun r => .ok ((T2 K (tD K eQ) (VP K (T2 K (tD K eS) (tD K eQ)))) r))
abbrev w__law_plus (K : PySem.W.Frag) (X : XK) (Q : VK) (D0 : Own) : Wish K Unit ((Rat × (List (Tx × Rat)))) := dwish K X Q (fun r => .ok ((T2 K (tD K eQ) (VP K (T2 K (tD K eS) (tD K eQ)))) r)) (fun _ => D0) (fun _ : Unit => D0)
def sp__law_faces (K : PySem.W.Frag) : Sp := spC K (τ := Unit × (List Tx) × Int × Unit) (OLT (tD K eI)) (fun a t => [Is (.ref a), (LT K (tD K eS)) t.2.1, (tD K eI) t.2.2.1]) (fun t y => l_faces_k14 y t.2.1 t.2.2.1) (fun r => .ok ((LT K (T4 K (tD K eS) (tD K eS) (OpT K (tD K eS)) (T2 K (tD K eQ) (VP K (T2 K (tD K eS) (tD K eQ)))))) r))
abbrev w__law_faces (K : PySem.W.Frag) (X : XK) (Q : VK) (Dp : (List Int) → Own) : Wish K (List Int) ((List (Tx × Tx × (Option Tx) × (Rat × (List (Tx × Rat))))) × (List Int)) := dwish K X Q (fun r : (List (Tx × Tx × (Option Tx) × (Rat × (List (Tx × Rat))))) × (List Int) => (fun r => .ok ((LT K (T4 K (tD K eS) (tD K eS) (OpT K (tD K eS)) (T2 K (tD K eQ) (VP K (T2 K (tD K eS) (tD K eQ)))))) r)) r.1) (fun r => Dp r.2) Dp
def sp__law_placed (K : PySem.W.Frag) : Sp := spP K (τ := (List (Tx × Tx × (Option Tx) × (Rat × (List (Tx × Rat))))) × Unit) (fun t => [(LT K (T4 K (tD K eS) (tD K eS) (OpT K (tD K eS)) (T2 K (tD K eQ) (VP K (T2 K (tD K eS) (tD K eQ)))))) t.1]) (fun t => l_placed t.1) (fun r => .ok ((LT K (T3 K (tD K eS) (tD K eS) (T2 K (tD K eQ) (VP K (T2 K (tD K eS) (tD K eQ)))))) r))
abbrev w__law_placed (K : PySem.W.Frag) (X : XK) (Q : VK) (D0 : Own) : Wish K Unit ((List (Tx × Tx × (Rat × (List (Tx × Rat)))))) := dwish K X Q (fun r => .ok ((LT K (T3 K (tD K eS) (tD K eS) (T2 K (tD K eQ) (VP K (T2 K (tD K eS) (tD K eQ)))))) r)) (fun _ => D0) (fun _ : Unit => D0)
def sp__law_plain_r (m : Nat) (K : PySem.W.Frag) : Sp := spP K (τ := PyData × Unit) (fun t => [(tD K eP) t.1]) (fun t => l_plain_r m t.1) (fun r => .ok ((tD K eB) r))
def sp__law_plain (K : PySem.W.Frag) : Sp := sp__law_plain_r 24 K
abbrev w__law_plain (K : PySem.W.Frag) (X : XK) (Q : VK) (D0 : Own) : Wish K Unit (Bool) := dwish K X Q (fun r => .ok ((tD K eB) r)) (fun _ => D0) (fun _ : Unit => D0)
def sp__law_is_list_0 (K : PySem.W.Frag) : Sp := spP K (τ := (List Tx) × (List Tx) × Unit) (fun t => [(LT K (tD K eS)) t.1, (LT K (tD K eS)) t.2.1]) (fun t => l_is_list_k14 t.1 t.2.1) (fun r => .ok ((tD K eB) r))
abbrev w__law_is_list_0 (K : PySem.W.Frag) (X : XK) (Q : VK) (D0 : Own) : Wish K Unit (Bool) := dwish K X Q (fun r => .ok ((tD K eB) r)) (fun _ => D0) (fun _ : Unit => D0)
def sp__law_is_list_1 (K : PySem.W.Frag) : Sp := spR K (τ := (Addr × (List (Tx × Tx × (Rat × (List (Tx × Rat)))))) × (List (Tx × Tx × (Rat × (List (Tx × Rat))))) × Unit) (fun t => [Is (.ref t.1.1), (LT K (T3 K (tD K eS) (tD K eS) (T2 K (tD K eQ) (VP K (T2 K (tD K eS) (tD K eQ)))))) t.2.1]) (fun t D => RdC D t.1.1 ((OLT (T3 K (tD K eS) (tD K eS) (T2 K (tD K eQ) (VP K (T2 K (tD K eS) (tD K eQ)))))) t.1.2) ∧ True) (fun t => l_is_list t.1.2 t.2.1) (fun r => .ok ((tD K eB) r))
abbrev w__law_is_list_1 (K : PySem.W.Frag) (X : XK) (Q : VK) (D0 : Own) : Wish K Unit (Bool) := dwish K X Q (fun r => .ok ((tD K eB) r)) (fun _ => D0) (fun _ : Unit => D0)
def sp__law_is_list (K : PySem.W.Frag) : Sp := fun vs H Q X => sp__law_is_list_0 K vs H Q X ∨ sp__law_is_list_1 K vs H Q X
def sp__law_fields (K : PySem.W.Frag) : Sp := spP K (τ := (List (Tx × Rat × Rat × (List (Tx × Rat × Tx)))) × Unit) (fun t => [(R_Stock K) t.1]) (fun t => l_fields_k16 t.1) (fun r => .ok ((LT K (T4 K (tD K eS) (tD K eQ) (tD K eQ) (VP K (T3 K (tD K eS) (tD K eQ) (tD K eS))))) r))
abbrev w__law_fields (K : PySem.W.Frag) (X : XK) (Q : VK) (D0 : Own) : Wish K Unit ((List (Tx × Rat × Rat × (List (Tx × Rat × Tx))))) := dwish K X Q (fun r => .ok ((LT K (T4 K (tD K eS) (tD K eQ) (tD K eQ) (VP K (T3 K (tD K eS) (tD K eQ) (tD K eS))))) r)) (fun _ => D0) (fun _ : Unit => D0)
abbrev sp_law (K : PySem.W.Frag) : Sp := lawSp K
abbrev w_law (K : PySem.W.Frag) (X : XK) (Q : VK) (D0 : Own) : Wish K Unit (Bool) := dwish K X Q (fun r => .ok ((tD K eB) r)) (fun _ => D0) (fun _ : Unit => D0)
structure Txt (K : PySem.W.Frag) (mg : Str → Option Value) : Prop where
  b_abs : mg "abs" = none
  b_all : mg "all" = none
  b_bool : mg "bool" = none
  b_dict : mg "dict" = none
  b_int : mg "int" = none
  b_isinstance : mg "isinstance" = none
  b_len : mg "len" = none
  b_list : mg "list" = none
  b_max : mg "max" = none
  b_min : mg "min" = none
  b_range : mg "range" = none
  b_set : mg "set" = none
  b_sorted : mg "sorted" = none
  b_str : mg "str" = none
  b_tuple : mg "tuple" = none
  c_AXES : dataPB K (.ref (He.ga K "AXES")) (.tuple [.str "x", .str "y"]) = true
  c_NOUGHT : dataPB K (.ref (He.ga K "NOUGHT")) (.tuple [.int (0), .int (1)]) = true
  c_WAYS : dataPB K (.ref (He.ga K "WAYS")) (.tuple [.str "fixed", .str "big", .str "small"]) = true
  c_ZERO : dataPB K (.ref (He.ga K "ZERO")) (.tuple [.int (0), .int (1)]) = true
  cl_Part : Cls K (He.ga K "Part")
  cl_Size : Cls K (He.ga K "Size")
  cl_Stock : Cls K (He.ga K "Stock")
  e_NoFace : ExOk K (He.ga K "NoFace")
  e_NoNumber : ExOk K (He.ga K "NoNumber")
  e_NoPart : ExOk K (He.ga K "NoPart")
  e_NoSize : ExOk K (He.ga K "NoSize")
  g_AXES : mg "AXES" = some (.ref (He.ga K "AXES"))
  g_NOUGHT : mg "NOUGHT" = some (.ref (He.ga K "NOUGHT"))
  g_NoFace : mg "NoFace" = some (.ref (He.ga K "NoFace"))
  g_NoNumber : mg "NoNumber" = some (.ref (He.ga K "NoNumber"))
  g_NoPart : mg "NoPart" = some (.ref (He.ga K "NoPart"))
  g_NoSize : mg "NoSize" = some (.ref (He.ga K "NoSize"))
  g_Part : mg "Part" = some (.ref (He.ga K "Part"))
  g_Size : mg "Size" = some (.ref (He.ga K "Size"))
  g_Stock : mg "Stock" = some (.ref (He.ga K "Stock"))
  g_WAYS : mg "WAYS" = some (.ref (He.ga K "WAYS"))
  g_ZERO : mg "ZERO" = some (.ref (He.ga K "ZERO"))
  k_LETTERS : ∃ t, mg "LETTERS" = some (.str "abcdefghijklmnopqrstuvwxyz" t)
  k_MOST_SIGNS_parts : ∃ t, mg "MOST_SIGNS_parts" = some (.int 8 t)
  k_MOST_SIGNS_stocks : ∃ t, mg "MOST_SIGNS_stocks" = some (.int 30 t)
  k_RESERVED : ∃ t, mg "RESERVED" = some (.str "frame" t)
  k_SIGNS : ∃ t, mg "SIGNS" = some (.str "abcdefghijklmnopqrstuvwxyz0123456789." t)
  me_Part_check_added : Meth K (He.ga K "Part") "check_added" (He.ma K (He.ga K "Part") "check_added")
  me_Part_faces : Meth K (He.ga K "Part") "faces" (He.ma K (He.ga K "Part") "faces")
  me_Part_put_face : Meth K (He.ga K "Part") "put_face" (He.ma K (He.ga K "Part") "put_face")
  me_Part_stock : Meth K (He.ga K "Part") "stock" (He.ma K (He.ga K "Part") "stock")
  me_Size_names : Meth K (He.ga K "Size") "names" (He.ma K (He.ga K "Size") "names")
  me_Stock_names : Meth K (He.ga K "Stock") "names" (He.ma K (He.ga K "Stock") "names")
  me_Stock_sizes : Meth K (He.ga K "Stock") "sizes" (He.ma K (He.ga K "Stock") "sizes")
  mk_Part : Mk K (He.ga K "Part") (He.ma K (He.ga K "Part") "__init__")
  mk_Size : Mk K (He.ga K "Size") (He.ma K (He.ga K "Size") "__init__")
  mk_Stock : Mk K (He.ga K "Stock") (He.ma K (He.ga K "Stock") "__init__")
  na_Part_name : NoAttr K (He.ga K "Part") "name"
  na_Part_own : NoAttr K (He.ga K "Part") "own"
  na_Part_placed : NoAttr K (He.ga K "Part") "placed"
  na_Size_least : NoAttr K (He.ga K "Size") "least"
  na_Size_most : NoAttr K (He.ga K "Size") "most"
  na_Size_name : NoAttr K (He.ga K "Size") "name"
  na_Size_shifts : NoAttr K (He.ga K "Size") "shifts"
  na_Stock_row : NoAttr K (He.ga K "Stock") "row"
def t_is_whole (K : PySem.W.Frag) (X : XK) : TS :=
  (tRet (tAndV (tCB (cIsi K) (tCons (tVar 0) (tCons (tC (.ty "int")) tNil))) (tNotV (tCB (cIsi K) (tCons (tVar 0) (tCons (tC (.ty "bool")) tNil))))))
def t_common (K : PySem.W.Frag) (X : XK) : TS :=
  (tSeq (tWhile (tTest (tOp (qNe K) (tVar 1) (tC (.int 0))))
  (tPar 0 1 (tCons (tVar 1) (tCons (tOp rModI (tVar 0) (tVar 1)) tNil))))
  (tRet (tCB cAbs (tCons (tVar 0) tNil))))
def t_number_of (K : PySem.W.Frag) (X : XK) : TS :=
  (tSeq (tIfS (tOr (tNot (tB (tCall (sp_is_whole K) [] X (tCons (tVar 0) tNil)))) (tOr (tNot (tB (tCall (sp_is_whole K) [] X (tCons (tVar 1) tNil)))) (tTest (tOp (qEq K) (tVar 1) (tC (.int 0))))))
  (tRaiseX (He.ga K "NoNumber") X)
  tNext)
  (tSeq (tAsg (tCall (sp_common K) [] X (tCons (tVar 0) (tCons (tVar 1) tNil))) (gName 2))
  (tSeq (tIfS (tTest (tOp rLtI (tVar 1) (tC (.int 0))))
  (tAsg (tOp rSubI (tC (.int 0)) (tVar 2)) (gName 2))
  tNext)
  (tRet (tTupP (tCons (tOp rDivI (tVar 0) (tVar 2)) (tCons (tOp rDivI (tVar 1) (tVar 2)) tNil)))))))
def t_plus (K : PySem.W.Frag) (X : XK) : TS :=
  (tRet (tCall (sp_number_of K) [] X (tCons (tOp (qAddS K) (tOp (qMul K) (tOp (rIx K) (tVar 0) (tC (.int 0))) (tOp (rIx K) (tVar 1) (tC (.int 1)))) (tOp (qMul K) (tOp (rIx K) (tVar 1) (tC (.int 0))) (tOp (rIx K) (tVar 0) (tC (.int 1))))) (tCons (tOp (qMul K) (tOp (rIx K) (tVar 0) (tC (.int 1))) (tOp (rIx K) (tVar 1) (tC (.int 1)))) tNil))))
def t_is_less (K : PySem.W.Frag) (X : XK) : TS :=
  (tRet (tOp rLtI (tOp (qMul K) (tOp (rIx K) (tVar 0) (tC (.int 0))) (tOp (rIx K) (tVar 1) (tC (.int 1)))) (tOp (qMul K) (tOp (rIx K) (tVar 1) (tC (.int 0))) (tOp (rIx K) (tVar 0) (tC (.int 1))))))
def t_sum_of (K : PySem.W.Frag) (X : XK) : TS :=
  (tSeq (tAsg tDNewK (gName 2))
  (tSeq (tFor (iSeq K (tVar 1)) (gTup K 2 (gCons (gName 3) (gCons (gName 4) gNil)))
  (sDPut (tVar 2) (tVar 3) (tCall (sp_plus K) [] X (tCons (tDGet2 (tVar 2) (tVar 3) (tC (.ref (He.ga K "NOUGHT")))) (tCons (tVar 4) tNil)))))
  (tFrz (tRet (tTupP (tCons (tVar 0) (tCons (tCB (cTupP K) (tCons (tLc (iSeq K (tCB (qSort K) (tCons (tVar 2) tNil))) (gName 3) (tTest (tOp (qNe K) (tDGet (tVar 2) (tVar 3)) (tC (.ref (He.ga K "NOUGHT"))))) (tTupP (tCons (tVar 3) (tCons (tDGet (tVar 2) (tVar 3)) tNil))) [3]) tNil)) tNil)))))))
def t_sum_plus (K : PySem.W.Frag) (X : XK) : TS :=
  (tRet (tCall (sp_sum_of K) [] X (tCons (tCall (sp_plus K) [] X (tCons (tOp (rIx K) (tVar 0) (tC (.int 0))) (tCons (tOp (rIx K) (tVar 1) (tC (.int 0))) tNil))) (tCons (tOp (qAddS K) (tOp (rIx K) (tVar 0) (tC (.int 1))) (tOp (rIx K) (tVar 1) (tC (.int 1)))) tNil))))
def t_is_name_stocks (K : PySem.W.Frag) (X : XK) : TS :=
  (tRet (tAndV (tChain rLeI rLeI (tC (.int 1)) (tCB (cLen K) (tCons (tVar 0) tNil)) (tC (.int 30))) (tCB (rAll K) (tCons (tLc (iStr (tVar 0)) (gName 1) tYes (tOp (rInS false) (tVar 1) (tC (.str "abcdefghijklmnopqrstuvwxyz0123456789."))) [1]) tNil))))
def t_Size_names (K : PySem.W.Frag) (X : XK) : TS :=
  (tRet (tOp (qAddS K) (tLst (tCons (tFld K (tVar 0) "name") tNil)) (tLc (iSeq K (tFld K (tVar 0) "shifts")) (gTup K 3 (gCons (gName 1) (gCons (gName 2) (gCons (gName 3) gNil)))) tYes (tVar 1) [1, 2, 3])))
def t_Size___init__ (K : PySem.W.Frag) (X : XK) : TS :=
  (tSeq (tIfS (tOr (tNot (tB (tCall (sp_is_name_stocks K) [] X (tCons (tVar 1) tNil)))) (tB (tCall (sp_is_less K) [] X (tCons (tVar 3) (tCons (tVar 2) tNil)))))
  (tRaiseX (He.ga K "NoSize") X)
  tNext)
  (tSeq (tIfS (tB (tIsN (tVar 4)))
  (tAsg (tLst tNil) (gName 4))
  tNext)
  (tSeq (tFor (iSeq K (tVar 4)) (gTup K 3 (gCons (gName 5) (gCons (gName 6) (gCons (gName 7) gNil))))
  (tIfS (tOr (tNot (tB (tCall (sp_is_name_stocks K) [] X (tCons (tVar 5) tNil)))) (tOr (tB (tCall (sp_is_less K) [] X (tCons (tVar 6) (tCons (tC (.ref (He.ga K "ZERO"))) tNil)))) (tTest (tOp (rIn K true) (tVar 7) (tC (.ref (He.ga K "WAYS")))))))
  (tRaiseX (He.ga K "NoSize") X)
  tNext))
  (tSeq (sFld K (tVar 0) (tVar 1) "name")
  (tSeq (sFld K (tVar 0) (tVar 2) "least")
  (tSeq (sFld K (tVar 0) (tVar 3) "most")
  (tSeq (sFld K (tVar 0) (tCB (cTupP K) (tCons (tVar 4) tNil)) "shifts")
  (tIfS (tTest (tOp rLtI (tLenSetN K (tMethSD (He.ga K "Size") "names" (sp_Size_names K) [] (WE (fun cls d _ H => X cls d H)) (tVar 0) tNil)) (tCB (cLen K) (tCons (tMethSD (He.ga K "Size") "names" (sp_Size_names K) [] (WE (fun cls d _ H => X cls d H)) (tVar 0) tNil) tNil))))
  (tRaiseX (He.ga K "NoSize") X)
  tNext))))))))
def t_Stock_names (K : PySem.W.Frag) (X : XK) : TS :=
  (tSeq (tAsg (tLst tNil) (gName 1))
  (tSeq (tFor (iSeq K (tFld K (tVar 0) "row")) (gName 2)
  (tDrop (tBM K "list" rExtend (tVar 1) (tCons (tMethSD (He.ga K "Size") "names" (sp_Size_names K) [] (WE (fun cls d _ H => X cls d H)) (tVar 2) tNil) tNil))))
  (tRet (tVar 1))))
def t_Stock___init__ (K : PySem.W.Frag) (X : XK) : TS :=
  (tSeq (sFld K (tVar 0) (tCB (cTupP K) (tCons (tVar 1) tNil)) "row")
  (tSeq (tAsg (tMethSD (He.ga K "Stock") "names" (sp_Stock_names K) [] (WE (fun cls d _ H => X cls d H)) (tVar 0) tNil) (gName 2))
  (tIfS (tTest (tOp rLtI (tLenSetN K (tVar 2)) (tCB (cLen K) (tCons (tVar 2) tNil))))
  (tRaiseX (He.ga K "NoSize") X)
  tNext)))
def t_Stock_sizes (K : PySem.W.Frag) (X : XK) : TS :=
  (tRet (tCB (cLst K) (tCons (tFld K (tVar 0) "row") tNil)))
def t_is_name_parts (K : PySem.W.Frag) (X : XK) : TS :=
  (tSeq (tIfS (tOr (tNot (tB (tCB (cIsi K) (tCons (tVar 0) (tCons (tC (.ty "str")) tNil))))) (tNot (tTest (tChain rLeI rLeI (tC (.int 1)) (tCB (cLen K) (tCons (tVar 0) tNil)) (tC (.int 8))))))
  (tRet (tC (.bl false)))
  tNext)
  (tRet (tCB (rAll K) (tCons (tLc (iStr (tVar 0)) (gName 1) tYes (tOp (rInS false) (tVar 1) (tC (.str "abcdefghijklmnopqrstuvwxyz"))) [1]) tNil))))
def t_has_names (K : PySem.W.Frag) (X : XK) : TS :=
  (tSeq (tAsg (tMethSD (He.ga K "Stock") "names" (sp_Stock_names K) [] (WE (fun cls d _ H => X cls d H)) (tVar 0) tNil) (gName 2))
  (tRet (tCB (rAll K) (tCons (tLc (iSeq K (tOp (rIx K) (tVar 1) (tC (.int 1)))) (gTup K 2 (gCons (gName 3) (gCons (gName 4) gNil))) tYes (tOp (rIn K false) (tVar 3) (tVar 2)) [3, 4]) tNil))))
def t_Part___init__ (K : PySem.W.Frag) (X : XK) : TS :=
  (tSeq (tIfS (tNot (tB (tCall (sp_is_name_parts K) [] X (tCons (tVar 1) tNil))))
  (tRaiseX (He.ga K "NoPart") X)
  tNext)
  (tSeq (sFld K (tVar 0) (tVar 1) "name")
  (tSeq (sFld K (tVar 0) (tMakeSD (He.ga K "Stock") (sp_Stock___init__ K) [] (WE (fun cls d _ H => X cls d H)) (tCons (tVar 2) tNil)) "own")
  (tSeq (tIfS (tNot (tB (tCB (rAll K) (tCons (tLc (iSeq K (tMethSD (He.ga K "Stock") "names" (sp_Stock_names K) [] (WE (fun cls d _ H => X cls d H)) (tFld K (tVar 0) "own") tNil)) (gName 3) tYes (tCall (sp_is_name_parts K) [] E0 (tCons (tVar 3) tNil)) [3]) tNil))))
  (tRaiseX (He.ga K "NoSize") X)
  tNext)
  (sFld K (tVar 0) tDNewK "placed")))))
def t_Part_stock (K : PySem.W.Frag) (X : XK) : TS :=
  (tRet (tFld K (tVar 0) "own"))
def t_Part_faces (K : PySem.W.Frag) (X : XK) : TS :=
  (tRet (tLockE (tLc (iKeys (tFld K (tVar 0) "placed")) (gName 1) tYes (tTupP (tCons (tVar 1) (tCons (tOp (rIx K) (tDGet (tFld K (tVar 0) "placed") (tVar 1)) (tC (.int 0))) (tCons (tOp (rIx K) (tDGet (tFld K (tVar 0) "placed") (tVar 1)) (tC (.int 1))) tNil)))) [1])))
def t_Part_check_added (K : PySem.W.Frag) (X : XK) : TS :=
  (tSeq (tIfS (tTest (tOp (rIn K true) (tVar 1) (tC (.ref (He.ga K "AXES")))))
  (tRaiseX (He.ga K "NoFace") X)
  tNext)
  (tIfS (tNot (tB (tCall (sp_has_names K) [] X (tCons (tFld K (tVar 0) "own") (tCons (tVar 2) tNil)))))
  (tRaiseX (He.ga K "NoFace") X)
  tNext))
def t_Part_put_face (K : PySem.W.Frag) (X : XK) : TS :=
  (tSeq (tIfS (tOr (tNot (tB (tCall (sp_is_name_parts K) [] X (tCons (tVar 1) tNil)))) (tOr (tTest (tOp (qEq K) (tVar 1) (tC (.str "frame")))) (tB (tDIn (tVar 1) (tFld K (tVar 0) "placed")))))
  (tRaiseX (He.ga K "NoFace") X)
  tNext)
  (tSeq (tDrop (tMethSD (He.ga K "Part") "check_added" (sp_Part_check_added K) [] (WE (fun cls d _ H => X cls d H)) (tVar 0) (tCons (tVar 2) (tCons (tVar 4) tNil))))
  (tSeq (tAsg (tVar 4) (gName 5))
  (tSeq (tIfS (tB (tNotN (tVar 3)))
  (tSeq (tIfS (tOr (tB (tDNotIn (tVar 3) (tFld K (tVar 0) "placed"))) (tTest (tOp (qNe K) (tOp (rIx K) (tDGet (tFld K (tVar 0) "placed") (tVar 3)) (tC (.int 0))) (tVar 2))))
  (tRaiseX (He.ga K "NoFace") X)
  tNext)
  (tAsg (tCall (sp_sum_plus K) [] X (tCons (tOp (rIx K) (tDGet (tFld K (tVar 0) "placed") (tVar 3)) (tC (.int 1))) (tCons (tVar 4) tNil))) (gName 5)))
  tNext)
  (sDPut (tFld K (tVar 0) "placed") (tVar 1) (tTupP (tCons (tVar 2) (tCons (tVar 5) tNil))))))))
def t__law_well (K : PySem.W.Frag) (X : XK) : TS :=
  (tSeq (tAsg (tC (.int 0)) (gName 2))
  (tSeq (tIfS (tTest (tOp rLtI (tVar 1) (tCB (cLen K) (tCons (tVar 0) tNil))))
  (tAsg (tOp (rIx K) (tVar 0) (tVar 1)) (gName 2))
  tNext)
  (tRet (tLst (tCons (tCB cInt1 (tCons (tOp rGeI (tCB cAbs (tCons (tVar 2) tNil)) (tOp rPowI (tC (.int 10)) (tC (.int 18)))) tNil)) (tCons (tVar 2) (tCons (tOp (qMul K) (tC (.int 17)) (tVar 1)) tNil)))))))
def t__law_take (K : PySem.W.Frag) (X : XK) : TS :=
  (tSeq (tIfS (tTest (tOp (qEq K) (tOp (rIx K) (tVar 0) (tC (.int 0))) (tC (.int 1))))
  (tSeq (tAsg (tOp rModI (tOp (rIx K) (tVar 0) (tC (.int 1))) (tVar 1)) (gName 2))
  (tSeq (tAsg (tOp rDivI (tOp (rIx K) (tVar 0) (tC (.int 1))) (tVar 1)) (gSub (tVar 0) (tC (.int 1)) rSetL))
  (tRet (tVar 2))))
  tNext)
  (tSeq (tAsg (tOp (qAddS K) (tOp (rIx K) (tVar 0) (tC (.int 2))) (tC (.int 1))) (gName 3))
  (tSeq (tAsg (tVar 3) (gSub (tVar 0) (tC (.int 2)) rSetL))
  (tSeq (tAsg (tOp rModI (tOp (qMul K) (tOp (qAddS K) (tOp (qAddS K) (tOp (rIx K) (tVar 0) (tC (.int 1))) (tOp (qMul K) (tOp (qMul K) (tC (.int 7919)) (tVar 3)) (tVar 3))) (tVar 3)) (tC (.int 48271))) (tC (.int 2305843009213693951))) (gName 4))
  (tRet (tOp rModI (tOp rDivI (tOp rModI (tOp (qAddS K) (tOp (qMul K) (tVar 4) (tC (.int 1442695040888963407))) (tC (.int 4321))) (tC (.int 2305843009213693921))) (tC (.int 64))) (tVar 1)))))))
def t__law_common (K : PySem.W.Frag) (X : XK) : TS :=
  (tSeq (tWhile (tTest (tOp (qNe K) (tVar 1) (tC (.int 0))))
  (tPar 0 1 (tCons (tVar 1) (tCons (tOp rModI (tVar 0) (tVar 1)) tNil))))
  (tRet (tCB cAbs (tCons (tVar 0) tNil))))
def t__law_num (K : PySem.W.Frag) (X : XK) : TS :=
  (tSeq (tAsg (tCall (sp__law_common K) [] X (tCons (tVar 0) (tCons (tVar 1) tNil))) (gName 2))
  (tRet (tTupP (tCons (tOp rDivI (tVar 0) (tVar 2)) (tCons (tOp rDivI (tVar 1) (tVar 2)) tNil)))))
def t__law_add (K : PySem.W.Frag) (X : XK) : TS :=
  (tRet (tCall (sp__law_num K) [] X (tCons (tOp (qAddS K) (tOp (qMul K) (tOp (rIx K) (tVar 0) (tC (.int 0))) (tOp (rIx K) (tVar 1) (tC (.int 1)))) (tOp (qMul K) (tOp (rIx K) (tVar 1) (tC (.int 0))) (tOp (rIx K) (tVar 0) (tC (.int 1))))) (tCons (tOp (qMul K) (tOp (rIx K) (tVar 0) (tC (.int 1))) (tOp (rIx K) (tVar 1) (tC (.int 1)))) tNil))))
def t__law_number (K : PySem.W.Frag) (X : XK) : TS :=
  (tSeq (tAsg (tCall (sp__law_take K) [] X (tCons (tVar 0) (tCons (tC (.int 8)) tNil))) (gName 1))
  (tSeq (tIfS (tTest (tOp (qEq K) (tVar 1) (tC (.int 7))))
  (tRet (tCall (sp__law_num K) [] X (tCons (tOp rSubI (tCall (sp__law_take K) [] X (tCons (tVar 0) (tCons (tOp (qAddS K) (tOp (qMul K) (tC (.int 2)) (tOp rPowI (tC (.int 10)) (tC (.int 9)))) (tC (.int 1))) tNil))) (tOp rPowI (tC (.int 10)) (tC (.int 9)))) (tCons (tOp (qAddS K) (tC (.int 1)) (tCall (sp__law_take K) [] X (tCons (tVar 0) (tCons (tOp rPowI (tC (.int 10)) (tC (.int 8))) tNil)))) tNil))))
  tNext)
  (tSeq (tIfS (tTest (tOp rGtI (tVar 1) (tC (.int 4))))
  (tRet (tCall (sp__law_num K) [] X (tCons (tOp rSubI (tCall (sp__law_take K) [] X (tCons (tVar 0) (tCons (tC (.int 201)) tNil))) (tC (.int 100))) (tCons (tOp (qAddS K) (tC (.int 1)) (tCall (sp__law_take K) [] X (tCons (tVar 0) (tCons (tC (.int 6)) tNil)))) tNil))))
  tNext)
  (tRet (tTupP (tCons (tOp rSubI (tCall (sp__law_take K) [] X (tCons (tVar 0) (tCons (tC (.int 9)) tNil))) (tC (.int 4))) (tCons (tC (.int 1)) tNil)))))))
def t__law_word (K : PySem.W.Frag) (X : XK) : TS :=
  (tSeq (tAsg (tC (.str "abcdefghijklmnopqrstuvwxyz")) (gName 2))
  (tSeq (tAsg (tLst (tCons (tC (.str "frame")) (tCons (tC (.str "lies")) (tCons (tC (.str "part")) (tCons (tC (.str "big")) (tCons (tC (.str "size")) (tCons (tC (.str "x")) (tCons (tC (.str "fixed")) (tCons (tC (.str "frame")) tNil))))))))) (gName 3))
  (tSeq (tIfS (tTest (tOp (qEq K) (tCall (sp__law_take K) [] X (tCons (tVar 0) (tCons (tC (.int 6)) tNil))) (tC (.int 1))))
  (tSeq (tAsg (tOp (rIx K) (tVar 3) (tCall (sp__law_take K) [] X (tCons (tVar 0) (tCons (tC (.int 8)) tNil)))) (gName 4))
  (tIfS (tTest (tOp (rIn K true) (tVar 4) (tVar 1)))
  (tRet (tVar 4))
  tNext))
  tNext)
  (tSeq (tAsg (tM1 (rJoin K) (tC (.str "")) (tLc (iRng1 (tCons (tOp (qAddS K) (tC (.int 1)) (tCall (sp__law_take K) [] X (tCons (tVar 0) (tCons (tC (.int 8)) tNil)))) tNil)) (gName 5) tYes (tOp (rIx K) (tVar 2) (tCall (sp__law_take K) [] E0 (tCons (tVar 0) (tCons (tC (.int 26)) tNil)))) [5])) (gName 4))
  (tSeq (tWhile (tTest (tOp (rIn K false) (tVar 4) (tVar 1)))
  (tAsg (tOp (qAddS K) (tSl rSlS (tVar 4) tNoPart (tPart (tUn qNegI (tC (.int 1))))) (tOp (rIx K) (tVar 2) (tOp rModI (tOp (qAddS K) (tM1 rIdx (tVar 2) (tOp (rIx K) (tVar 4) (tUn qNegI (tC (.int 1))))) (tC (.int 1))) (tC (.int 26))))) (gName 4)))
  (tRet (tVar 4)))))))
def t__law_sizes (K : PySem.W.Frag) (X : XK) : TS :=
  (tSeq (tAsg (tLst tNil) (gName 2))
  (tSeq (tAsg (tLst tNil) (gName 3))
  (tSeq (tFor (iRng1 (tCons (tOp (rIx K) (tLst (tCons (tC (.int 0)) (tCons (tC (.int 1)) (tCons (tC (.int 2)) (tCons (tC (.int 3)) (tCons (tC (.int 4)) (tCons (tC (.int 2)) (tCons (tC (.int 3)) (tCons (tC (.int 7)) tNil))))))))) (tCall (sp__law_take K) [] X (tCons (tVar 0) (tCons (tC (.int 8)) tNil)))) tNil)) (gName 4)
  (tIfS (tTest (tOp rLtI (tCB (cLen K) (tCons (tVar 2) tNil)) (tVar 1)))
  (tSeq (tAsg (tCall (sp__law_word K) [] X (tCons (tVar 0) (tCons (tVar 2) tNil))) (gName 5))
  (tSeq (tDrop (tBM K "list" rAppend (tVar 2) (tCons (tVar 5) tNil)))
  (tSeq (tAsg (tCall (sp__law_number K) [] X (tCons (tVar 0) tNil)) (gName 6))
  (tSeq (tAsg (tCall (sp__law_number K) [] X (tCons (tVar 0) tNil)) (gName 7))
  (tSeq (tAsg (tLst tNil) (gName 8))
  (tSeq (tFor (iRng1 (tCons (tOp (rIx K) (tLst (tCons (tC (.int 0)) (tCons (tC (.int 0)) (tCons (tC (.int 1)) (tCons (tC (.int 2)) (tCons (tC (.int 0)) (tCons (tC (.int 1)) (tCons (tC (.int 0)) (tCons (tC (.int 6)) tNil))))))))) (tCall (sp__law_take K) [] X (tCons (tVar 0) (tCons (tC (.int 8)) tNil)))) tNil)) (gName 9)
  (tIfS (tTest (tOp rLtI (tCB (cLen K) (tCons (tVar 2) tNil)) (tVar 1)))
  (tSeq (tDrop (tBM K "list" rAppend (tVar 2) (tCons (tCall (sp__law_word K) [] X (tCons (tVar 0) (tCons (tVar 2) tNil))) tNil)))
  (tSeq (tAsg (tCall (sp__law_number K) [] X (tCons (tVar 0) tNil)) (gName 10))
  (tSeq (tAsg (tOp (rIx K) (tLst (tCons (tC (.str "fixed")) (tCons (tC (.str "big")) (tCons (tC (.str "small")) tNil)))) (tCall (sp__law_take K) [] X (tCons (tVar 0) (tCons (tC (.int 3)) tNil)))) (gName 11))
  (tDrop (tBM K "list" rAppend (tVar 8) (tCons (tTupP (tCons (tOp (rIx K) (tVar 2) (tUn qNegI (tC (.int 1)))) (tCons (tTupP (tCons (tCB cAbs (tCons (tOp (rIx K) (tVar 10) (tC (.int 0))) tNil)) (tCons (tOp (rIx K) (tVar 10) (tC (.int 1))) tNil))) (tCons (tVar 11) tNil)))) tNil))))))
  tNext))
  (tDrop (tBM K "list" rAppend (tVar 3) (tCons (tTupP (tCons (tVar 5) (tCons (tVar 6) (tCons (tCall (sp__law_add K) [] X (tCons (tVar 6) (tCons (tTupP (tCons (tCB cAbs (tCons (tOp (rIx K) (tVar 7) (tC (.int 0))) tNil)) (tCons (tOp (rIx K) (tVar 7) (tC (.int 1))) tNil))) tNil))) (tCons (tCB (cTupP K) (tCons (tVar 8) tNil)) tNil))))) tNil)))))))))
  tNext))
  (tRet (tTupP (tCons (tVar 3) (tCons (tVar 2) tNil)))))))
def t__law_sum (K : PySem.W.Frag) (X : XK) : TS :=
  (tSeq (tAsg (tLst tNil) (gName 2))
  (tSeq (tFor (iSeq K (tCB (qSort K) (tCons (tVar 1) tNil))) (gName 3)
  (tSeq (tAsg (tCall (sp__law_take K) [] X (tCons (tVar 0) (tCons (tC (.int 6)) tNil))) (gName 4))
  (tSeq (tAsg (tOp (rIx K) (tLst (tCons (tTupP (tCons (tC (.int 0)) (tCons (tC (.int 1)) tNil))) (tCons (tTupP (tCons (tC (.int 0)) (tCons (tC (.int 1)) tNil))) (tCons (tTupP (tCons (tC (.int 1)) (tCons (tC (.int 1)) tNil))) (tCons (tTupP (tCons (tUn qNegI (tC (.int 1))) (tCons (tC (.int 1)) tNil))) (tCons (tTupP (tCons (tC (.int 2)) (tCons (tC (.int 1)) tNil))) (tCons (tTupP (tCons (tC (.int 0)) (tCons (tC (.int 1)) tNil))) tNil))))))) (tVar 4)) (gName 5))
  (tSeq (tIfS (tTest (tOp (qEq K) (tVar 4) (tC (.int 5))))
  (tAsg (tCall (sp__law_number K) [] X (tCons (tVar 0) tNil)) (gName 5))
  tNext)
  (tIfS (tTest (tOp (qNe K) (tOp (rIx K) (tVar 5) (tC (.int 0))) (tC (.int 0))))
  (tDrop (tBM K "list" rAppend (tVar 2) (tCons (tTupP (tCons (tVar 3) (tCons (tVar 5) tNil))) tNil)))
  tNext)))))
  (tRet (tTupP (tCons (tCall (sp__law_number K) [] X (tCons (tVar 0) tNil)) (tCons (tCB (cTupP K) (tCons (tVar 2) tNil)) tNil))))))
def t__law_plus (K : PySem.W.Frag) (X : XK) : TS :=
  (tSeq (tAsg (tCB (cDctU K) (tCons (tOp (rIx K) (tVar 0) (tC (.int 1))) tNil)) (gName 3))
  (tSeq (tFor (iSeq K (tOp (rIx K) (tVar 1) (tC (.int 1)))) (gTup K 2 (gCons (gName 4) (gCons (gName 5) gNil)))
  (sDPut (tVar 3) (tVar 4) (tCall (sp__law_add K) [] X (tCons (tDGet2 (tVar 3) (tVar 4) (tTupP (tCons (tC (.int 0)) (tCons (tC (.int 1)) tNil)))) (tCons (tTupP (tCons (tOp (qMul K) (tVar 2) (tOp (rIx K) (tVar 5) (tC (.int 0)))) (tCons (tOp (rIx K) (tVar 5) (tC (.int 1))) tNil))) tNil)))))
  (tSeq (tFrz (tAsg (tCB (cTupP K) (tCons (tLc (iSeq K (tCB (qSort K) (tCons (tVar 3) tNil))) (gName 4) (tTest (tOp (qNe K) (tOp (rIx K) (tDGet (tVar 3) (tVar 4)) (tC (.int 0))) (tC (.int 0)))) (tTupP (tCons (tVar 4) (tCons (tDGet (tVar 3) (tVar 4)) tNil))) [4]) tNil)) (gName 6)))
  (tRet (tTupP (tCons (tCall (sp__law_add K) [] X (tCons (tOp (rIx K) (tVar 0) (tC (.int 0))) (tCons (tTupP (tCons (tOp (qMul K) (tVar 2) (tOp (rIx K) (tOp (rIx K) (tVar 1) (tC (.int 0))) (tC (.int 0)))) (tCons (tOp (rIx K) (tOp (rIx K) (tVar 1) (tC (.int 0))) (tC (.int 1))) tNil))) tNil))) (tCons (tVar 6) tNil)))))))
def t__law_faces (K : PySem.W.Frag) (X : XK) : TS :=
  (tSeq (tAsg (tLst tNil) (gName 3))
  (tSeq (tFor (iRng1 (tCons (tVar 2) tNil)) (gName 4)
  (tSeq (tAsg (tCall (sp__law_word K) [] X (tCons (tVar 0) (tCons (tOp (qAddS K) (tLc (iSeq K (tVar 3)) (gName 6) tYes (tOp (rIx K) (tVar 6) (tC (.int 0))) [6]) (tLst (tCons (tC (.str "frame")) tNil))) tNil))) (gName 5))
  (tSeq (tAsg (tOp (rIx K) (tC (.str "xy")) (tCall (sp__law_take K) [] X (tCons (tVar 0) (tCons (tC (.int 2)) tNil)))) (gName 7))
  (tSeq (tAsg (tOp (qAddS K) (tLst (tCons (tC .non) (tCons (tC .non) tNil))) (tLc (iSeq K (tVar 3)) (gName 6) (tTest (tOp (qEq K) (tOp (rIx K) (tVar 6) (tC (.int 1))) (tVar 7))) (tOp (rIx K) (tVar 6) (tC (.int 0))) [6])) (gName 8))
  (tDrop (tBM K "list" rAppend (tVar 3) (tCons (tTupP (tCons (tVar 5) (tCons (tVar 7) (tCons (tOp (rIx K) (tVar 8) (tCall (sp__law_take K) [] X (tCons (tVar 0) (tCons (tCB (cLen K) (tCons (tVar 8) tNil)) tNil)))) (tCons (tCall (sp__law_sum K) [] X (tCons (tVar 0) (tCons (tVar 1) tNil))) tNil))))) tNil)))))))
  (tRet (tVar 3))))
def t__law_placed (K : PySem.W.Frag) (X : XK) : TS :=
  (tSeq (tAsg tDNewK (gName 1))
  (tSeq (tAsg (tLst tNil) (gName 2))
  (tSeq (tFor (iSeq K (tVar 0)) (gTup K 4 (gCons (gName 3) (gCons (gName 4) (gCons (gName 5) (gCons (gName 6) gNil)))))
  (tSeq (tAsg (tVar 6) (gName 7))
  (tSeq (tIfS (tB (tNotN (tVar 5)))
  (tAsg (tCall (sp__law_plus K) [] X (tCons (tDGet (tVar 1) (tVar 5)) (tCons (tVar 6) (tCons (tC (.int 1)) tNil)))) (gName 7))
  tNext)
  (tSeq (sDPut (tVar 1) (tVar 3) (tVar 7))
  (tDrop (tBM K "list" rAppend (tVar 2) (tCons (tTupP (tCons (tVar 3) (tCons (tVar 4) (tCons (tVar 7) tNil)))) tNil)))))))
  (tRet (tVar 2)))))
def t__law_plain (m : Nat) (K : PySem.W.Frag) (X : XK) : TS :=
  (tSeq (tIfS (tB (tCB (cIsi K) (tCons (tVar 0) (tCons (tC (.ty "tuple")) tNil))))
  (tRet (tCB (rAll K) (tCons (tLc (iSeq K (tVar 0)) (gName 1) tYes (tCall (sp__law_plain_r m K) [] E0 (tCons (tVar 1) tNil)) [1]) tNil)))
  tNext)
  (tRet (tOrV (tCB (cIsi K) (tCons (tVar 0) (tCons (tC (.ty "str")) tNil))) (tAndV (tCB (cIsi K) (tCons (tVar 0) (tCons (tC (.ty "int")) tNil))) (tNotV (tCB (cIsi K) (tCons (tVar 0) (tCons (tC (.ty "bool")) tNil))))))))
def t__law_is_list (K : PySem.W.Frag) (X : XK) : TS :=
  (tRet (tAndV (tCB (cIsi K) (tCons (tVar 0) (tCons (tC (.ty "list")) tNil))) (tAndV (tOp (qEq K) (tVar 0) (tVar 1)) (tCB (rAll K) (tCons (tLc (iSeq K (tVar 0)) (gName 2) tYes (tCall (sp__law_plain K) [] E0 (tCons (tVar 2) tNil)) [2]) tNil)))))
def t__law_fields (K : PySem.W.Frag) (X : XK) : TS :=
  (tRet (tLc (iSeq K (tMethSD (He.ga K "Stock") "sizes" (sp_Stock_sizes K) [] (WE (fun cls d _ H => X cls d H)) (tVar 0) tNil)) (gName 1) tYes (tTupP (tCons (tFld K (tVar 1) "name") (tCons (tFld K (tVar 1) "least") (tCons (tFld K (tVar 1) "most") (tCons (tFld K (tVar 1) "shifts") tNil))))) [1]))
def t_law (K : PySem.W.Frag) (X : XK) : TS :=
  (tSeq (tFor (iRng1 (tCons (tCB cMax2 (tCons (tC (.int 1)) (tCons (tCB cMin2 (tCons (tCB (cLen K) (tCons (tVar 0) tNil)) (tCons (tC (.int 10)) tNil))) tNil))) tNil)) (gName 1)
  (tSeq (tAsg (tCall (sp__law_well K) [] X (tCons (tVar 0) (tCons (tVar 1) tNil))) (gName 2))
  (tSeq (tAsg (tCall (sp__law_word K) [] X (tCons (tVar 2) (tCons (tLst tNil) tNil))) (gName 3))
  (tSeq (tAsg (tCall (sp__law_sizes K) [] X (tCons (tVar 2) (tCons (tC (.int 12)) tNil))) (gTup K 2 (gCons (gName 4) (gCons (gName 5) gNil))))
  (tSeq (tAsg (tLc (iSeq K (tVar 4)) (gTup K 4 (gCons (gName 7) (gCons (gName 8) (gCons (gName 9) (gCons (gName 10) gNil))))) tYes (tMakeSD (He.ga K "Size") (sp_Size___init__ K) [] (WE (fun _ _ _ _ => False)) (tCons (tVar 7) (tCons (tVar 8) (tCons (tVar 9) (tCons (tVar 10) tNil))))) [7, 8, 9, 10]) (gName 6))
  (tSeq (tAsg (tMakeSD (He.ga K "Part") (sp_Part___init__ K) [] (WE (fun cls d _ H => X cls d H)) (tCons (tVar 3) (tCons (tOp (rIx K) (tLst (tCons (tVar 6) (tCons (tCB (cTupP K) (tCons (tVar 6) tNil)) tNil))) (tCall (sp__law_take K) [] X (tCons (tVar 2) (tCons (tC (.int 2)) tNil)))) tNil))) (gName 11))
  (tSeq (tDrop (tBM0 K "list" rClear (tVar 6)))
  (tSeq (tIfS (tOr (tTest (tOp (qNe K) (tFld K (tVar 11) "name") (tVar 3))) (tOr (tNot (tB (tCall (sp__law_is_list K) [] X (tCons (tMethSD (He.ga K "Stock") "names" (sp_Stock_names K) [] (WE (fun cls d _ H => X cls d H)) (tMethSD (He.ga K "Part") "stock" (sp_Part_stock K) [] (WE (fun cls d _ H => X cls d H)) (tVar 11) tNil) tNil) (tCons (tVar 5) tNil))))) (tTest (tOp (qNe K) (tCall (sp__law_fields K) [] X (tCons (tMethSD (He.ga K "Part") "stock" (sp_Part_stock K) [] (WE (fun cls d _ H => X cls d H)) (tVar 11) tNil) tNil)) (tVar 4)))))
  (tRet (tC (.bl false)))
  tNext)
  (tSeq (tAsg (tCall (sp__law_faces K) [] X (tCons (tVar 2) (tCons (tVar 5) (tCons (tOp (qAddS K) (tC (.int 1)) (tCall (sp__law_take K) [] X (tCons (tVar 2) (tCons (tC (.int 9)) tNil)))) tNil)))) (gName 12))
  (tSeq (tAsg (tCall (sp__law_placed K) [] X (tCons (tVar 12) tNil)) (gName 13))
  (tSeq (tFor (iRng1 (tCons (tCB (cLen K) (tCons (tVar 12) tNil)) tNil)) (gName 14)
  (tSeq (tAsg (tOp (rIx K) (tVar 12) (tVar 14)) (gTup K 4 (gCons (gName 15) (gCons (gName 16) (gCons (gName 17) (gCons (gName 18) gNil))))))
  (tSeq (tIfS (tB (tNotN (tMethSD (He.ga K "Part") "put_face" (sp_Part_put_face K) [] (WE (fun cls d _ H => X cls d H)) (tVar 11) (tCons (tVar 15) (tCons (tVar 16) (tCons (tVar 17) (tCons (tVar 18) tNil)))))))
  (tRet (tC (.bl false)))
  tNext)
  (tSeq (tAsg (tMethSD (He.ga K "Part") "faces" (sp_Part_faces K) [] (WE (fun cls d _ H => X cls d H)) (tVar 11) tNil) (gName 19))
  (tSeq (tIfS (tNot (tB (tCall (sp__law_is_list K) [] X (tCons (tVar 19) (tCons (tSl (rSlL K) (tVar 13) tNoPart (tPart (tOp (qAddS K) (tVar 14) (tC (.int 1))))) tNil)))))
  (tRet (tC (.bl false)))
  tNext)
  (tDrop (tBM0 K "list" rClear (tVar 19))))))))
  (tIfS (tOr (tTest (tOp (qNe K) (tMethSD (He.ga K "Part") "faces" (sp_Part_faces K) [] (WE (fun cls d _ H => X cls d H)) (tVar 11) tNil) (tVar 13))) (tTest (tOp (qNe K) (tCall (sp__law_fields K) [] X (tCons (tMethSD (He.ga K "Part") "stock" (sp_Part_stock K) [] (WE (fun cls d _ H => X cls d H)) (tVar 11) tNil) tNil)) (tVar 4))))
  (tRet (tC (.bl false)))
  tNext))))))))))))
  (tRet (tC (.bl true))))
section
variable {P : Program} {w : World} {K : PySem.W.Frag} {mg : Str → Option Value} {base : Heap}
theorem body_is_whole (T : Txt K mg) {f : Addr} {cdv : Value} {A : Around} {outer : List Env} {s : Shared} {H : Hp} {X : XK} (hr : Room 0 (A.deeper (PyProof.Rows.envOfC "is_whole" (defScope s_is_whole) s.heap.objs.size f cdv))) :
    PSs (cxOf (L2.CX P w) P w K mg base N_is_whole "is_whole" (defScope s_is_whole) f cdv A outer s H X) (defBody s_is_whole) (t_is_whole K X) :=
  (pss_one (ps_ret (pe_and (pe_callB call_isiA rfl T.b_isinstance (by decide +kernel) (pa_cons (pv 0) (pa_cons (pe_bltn rfl T.b_int (by decide +kernel) rfl) pa_nil))) (pe_one (pe_not (pe_callB call_isiA rfl T.b_isinstance (by decide +kernel) (pa_cons (pv 0) (pa_cons (pe_bltn rfl T.b_bool (by decide +kernel) rfl) pa_nil))))))))
theorem body_common (T : Txt K mg) {f : Addr} {cdv : Value} {A : Around} {outer : List Env} {s : Shared} {H : Hp} {X : XK} (hr : Room 0 (A.deeper (PyProof.Rows.envOfC "common" (defScope s_common) s.heap.objs.size f cdv))) :
    PSs (cxOf (L2.CX P w) P w K mg base N_common "common" (defScope s_common) f cdv A outer s H X) (defBody s_common) (t_common K X) :=
  (pss_cons (ps_while (passes_of rfl) (pt_cmpR (op_neU hr.units) (pv 1) pe_int (nomark _))
    (pss_one (ps_par (by rfl) sc_common.nd rfl rfl (by decide) rfl rfl (pa_cons (pv 1) (pa_cons (pe_op op_modN (pv 0) (pv 1)) pa_nil)) (by rfl))))
    (pss_one (ps_ret (pe_callB call_abs rfl T.b_abs (by decide +kernel) (pa_cons (pv 0) pa_nil)))))
theorem body_number_of (T : Txt K mg) (F_common : Fo P w K mg base "common" ["one", "other"] [] 1 (sp_common K)) (F_is_whole : Fo P w K mg base "is_whole" ["thing"] [] 1 (sp_is_whole K)) {f : Addr} {cdv : Value} {A : Around} {outer : List Env} {s : Shared} {H : Hp} {X : XK} (hr : Room 1 (A.deeper (PyProof.Rows.envOfC "number_of" (defScope s_number_of) s.heap.objs.size f cdv))) :
    PSs (cxOf (L2.CX P w) P w K mg base N_number_of "number_of" (defScope s_number_of) f cdv A outer s H X) (defBody s_number_of) (t_number_of K X) :=
  (pss_cons (ps_if (PW.pt (pw_or (pt_not (pt_val (pe_callF F_is_whole (hr.mono (by decide)) (passes_call (takes_of rfl rfl rfl rfl) (fun _ _ _ _ h => h)) (pa_cons (pv 0) pa_nil)))) (pw_or (pt_not (pt_val (pe_callF F_is_whole (hr.mono (by decide)) (passes_call (takes_of rfl rfl rfl rfl) (fun _ _ _ _ h => h)) (pa_cons (pv 1) pa_nil)))) (pw_or1 (pt_cmpR (op_eqU hr.units) (pv 1) pe_int (nomark _))))))
    (pss_one (ps_raiseX rfl (takes_of rfl rfl rfl rfl) (T.e_NoNumber.pmk T.g_NoNumber (by exact rfl))))
    pss_nil)
    (pss_cons (ps_set (i := 2) sc_number_of.nd rfl (Or.inl rfl) (pe_callF F_common (hr.mono (by decide)) (passes_call (takes_of rfl rfl rfl rfl) (fun _ _ _ _ h => h)) (pa_cons (pv 0) (pa_cons (pv 1) pa_nil))))
    (pss_cons (ps_if (pt_cmpR op_lt (pv 1) pe_int (nomark _))
    (pss_one (ps_set (i := 2) sc_number_of.nd rfl (Or.inl rfl) (pe_op op_sub pe_int (pv 2))))
    pss_nil)
    (pss_one (ps_ret (pe_tupP (pa_cons (pe_op op_div (pv 0) (pv 2)) (pa_cons (pe_op op_div (pv 1) (pv 2)) pa_nil))))))))
theorem body_plus (T : Txt K mg) (F_number_of : Fo P w K mg base "number_of" ["top", "bottom"] [] 2 (sp_number_of K)) {f : Addr} {cdv : Value} {A : Around} {outer : List Env} {s : Shared} {H : Hp} {X : XK} (hr : Room 2 (A.deeper (PyProof.Rows.envOfC "plus" (defScope s_plus) s.heap.objs.size f cdv))) :
    PSs (cxOf (L2.CX P w) P w K mg base N_plus "plus" (defScope s_plus) f cdv A outer s H X) (defBody s_plus) (t_plus K X) :=
  (pss_one (ps_ret (pe_callF F_number_of (hr.mono (by decide)) (passes_call (takes_of rfl rfl rfl rfl) (fun _ _ _ _ h => h)) (pa_cons (pe_op op_addV (pe_op op_mulU (pe_ix ix_seq (pv 0) pe_int (fun _ _ => rfl)) (pe_ix ix_seq (pv 1) pe_int (fun _ _ => rfl))) (pe_op op_mulU (pe_ix ix_seq (pv 1) pe_int (fun _ _ => rfl)) (pe_ix ix_seq (pv 0) pe_int (fun _ _ => rfl)))) (pa_cons (pe_op op_mulU (pe_ix ix_seq (pv 0) pe_int (fun _ _ => rfl)) (pe_ix ix_seq (pv 1) pe_int (fun _ _ => rfl))) pa_nil)))))
theorem body_is_less (T : Txt K mg) {f : Addr} {cdv : Value} {A : Around} {outer : List Env} {s : Shared} {H : Hp} {X : XK} (hr : Room 0 (A.deeper (PyProof.Rows.envOfC "is_less" (defScope s_is_less) s.heap.objs.size f cdv))) :
    PSs (cxOf (L2.CX P w) P w K mg base N_is_less "is_less" (defScope s_is_less) f cdv A outer s H X) (defBody s_is_less) (t_is_less K X) :=
  (pss_one (ps_ret (pe_cmpR op_lt (pe_op op_mulU (pe_ix ix_seq (pv 0) pe_int (fun _ _ => rfl)) (pe_ix ix_seq (pv 1) pe_int (fun _ _ => rfl))) (pe_op op_mulU (pe_ix ix_seq (pv 1) pe_int (fun _ _ => rfl)) (pe_ix ix_seq (pv 0) pe_int (fun _ _ => rfl))) (nomark _))))
theorem body_sum_of (T : Txt K mg) (F_plus : Fo P w K mg base "plus" ["a", "b"] [] 3 (sp_plus K)) {f : Addr} {cdv : Value} {A : Around} {outer : List Env} {s : Shared} {H : Hp} {X : XK} (hr : Room 3 (A.deeper (PyProof.Rows.envOfC "sum_of" (defScope s_sum_of) s.heap.objs.size f cdv))) :
    PSs (cxOf (L2.CX P w) P w K mg base N_sum_of "sum_of" (defScope s_sum_of) f cdv A outer s H X) (defBody s_sum_of) (t_sum_of K X) :=
  (pss_cons (ps_set (i := 2) sc_sum_of.nd rfl (Or.inr rfl) pe_dnewK)
    (pss_cons (ps_for (passes_of rfl) rfl (pi_seq (pv 1)) (pg_tup rfl (pgs_cons (pg_name (i := 3) sc_sum_of.nd rfl (Or.inl rfl)) (pgs_cons (pg_name (i := 4) sc_sum_of.nd rfl (Or.inl rfl)) pgs_nil)))
    (pss_one (ps_dput (hu_of hr) (pv 2) (pv 3) (pe_callF F_plus (hr.mono (by decide)) (passes_call (takes_of rfl rfl rfl rfl) (fun _ _ _ _ h => h)) (pa_cons (pe_dget2 (hu_of hr) (pv 2) (pv 3) (pe_glob rfl T.g_NOUGHT rfl) ⟨rfl, rfl, rfl, rfl⟩) (pa_cons (pv 4) pa_nil))) rfl)))
    (pss_one (ps_frz (ps_ret (pe_tupP (pa_cons (pv 0) (pa_cons (pe_callTy call_tupP rfl T.b_tuple (by decide +kernel) (pa_cons (pe_lc (own := [("name", 3)]) (g := (gName 3)) (tt := (tTest (tOp (qNe K) (tDGet (tVar 2) (tVar 3)) (tC (.ref (He.ga K "NOUGHT")))))) rfl sc_sum_of.nd  (pi_seq (pe_callB (call_sort rfl) rfl T.b_sorted (by decide +kernel) (pa_cons (pv 2) pa_nil))) (blkOk_by (N := N_sum_of) (sc := defScope s_sum_of) (by decide +kernel)) (fun _ _ _ _ _ => (pg_name (i := 3) sc_sum_of.nd rfl (Or.inl rfl))) (fun _ _ _ _ _ => pts_one (pt_cmpR (op_neU hr.units) (pe_dget (hu_of hr) (pv 2) (pv 3) (fun _ _ => rfl)) (pe_glob rfl T.g_NOUGHT rfl) (nomark _))) (fun _ _ _ _ _ => (pe_tupP (pa_cons (pv 3) (pa_cons (pe_dget (hu_of hr) (pv 2) (pv 3) (fun _ _ => rfl)) pa_nil))))) pa_nil)) pa_nil))))))))
theorem body_sum_plus (T : Txt K mg) (F_plus : Fo P w K mg base "plus" ["a", "b"] [] 3 (sp_plus K)) (F_sum_of : Fo P w K mg base "sum_of" ["number", "pairs"] [] 4 (sp_sum_of K)) {f : Addr} {cdv : Value} {A : Around} {outer : List Env} {s : Shared} {H : Hp} {X : XK} (hr : Room 4 (A.deeper (PyProof.Rows.envOfC "sum_plus" (defScope s_sum_plus) s.heap.objs.size f cdv))) :
    PSs (cxOf (L2.CX P w) P w K mg base N_sum_plus "sum_plus" (defScope s_sum_plus) f cdv A outer s H X) (defBody s_sum_plus) (t_sum_plus K X) :=
  (pss_one (ps_ret (pe_callF F_sum_of (hr.mono (by decide)) (passes_call (takes_of rfl rfl rfl rfl) (fun _ _ _ _ h => h)) (pa_cons (pe_callF F_plus (hr.mono (by decide)) (passes_call (takes_of rfl rfl rfl rfl) (fun _ _ _ _ h => h)) (pa_cons (pe_ix ix_seq (pv 0) pe_int (fun _ _ => rfl)) (pa_cons (pe_ix ix_seq (pv 1) pe_int (fun _ _ => rfl)) pa_nil))) (pa_cons (pe_op op_addV (pe_ix ix_seq (pv 0) pe_int (fun _ _ => rfl)) (pe_ix ix_seq (pv 1) pe_int (fun _ _ => rfl))) pa_nil)))))
theorem body_is_name_stocks (T : Txt K mg) {f : Addr} {cdv : Value} {A : Around} {outer : List Env} {s : Shared} {H : Hp} {X : XK} (hr : Room 0 (A.deeper (PyProof.Rows.envOfC "is_name" (defScope s_is_name_stocks) s.heap.objs.size f cdv))) :
    PSs (cxOf (L2.CX P w) P w K mg base N_is_name_stocks "is_name" (defScope s_is_name_stocks) f cdv A outer s H X) (defBody s_is_name_stocks) (t_is_name_stocks K X) :=
  (pss_one (ps_ret (pe_and (pe_chain op_le op_le pe_int (pe_callB call_len rfl T.b_len (by decide +kernel) (pa_cons (pv 0) pa_nil)) (pe_globI rfl T.k_MOST_SIGNS_stocks)) (pe_one (pe_callB (cr_all rfl) rfl T.b_all (by decide +kernel) (pa_cons (pe_lc (own := [("sign", 1)]) (g := (gName 1)) (tt := tYes) rfl sc_is_name_stocks.nd  (pi_str (pv 0)) (blkOk_by (N := N_is_name_stocks) (sc := defScope s_is_name_stocks) (by decide +kernel)) (fun _ _ _ _ _ => (pg_name (i := 1) sc_is_name_stocks.nd rfl (Or.inl rfl))) (fun _ _ _ _ _ => pts_nil) (fun _ _ _ _ _ => (pe_cmpR op_inS (pv 1) (pe_globS rfl T.k_SIGNS) (by rfl)))) pa_nil))))))
theorem body_Size_names (T : Txt K mg) {f : Addr} {cdv : Value} {A : Around} {outer : List Env} {s : Shared} {H : Hp} {X : XK} (hr : Room 0 (A.deeper (PyProof.Rows.envOfC "Size.names" (defScope s_Size_names) s.heap.objs.size f cdv))) :
    PSs (cxOf (L2.CX P w) P w K mg base N_Size_names "Size.names" (defScope s_Size_names) f cdv A outer s H X) (defBody s_Size_names) (t_Size_names K X) :=
  (pss_one (ps_ret (pe_op op_addV (pe_lst (pa_cons (pe_fld (pv 0) rfl) pa_nil)) (pe_lc (own := [("shift", 1), ("allowance", 2), ("way", 3)]) (g := (gTup K 3 (gCons (gName 1) (gCons (gName 2) (gCons (gName 3) gNil))))) (tt := tYes) rfl sc_Size_names.nd  (pi_seq (pe_fld (pv 0) rfl)) (blkOk_by (N := N_Size_names) (sc := defScope s_Size_names) (by decide +kernel)) (fun _ _ _ _ _ => (pg_tup rfl (pgs_cons (pg_name (i := 1) sc_Size_names.nd rfl (Or.inl rfl)) (pgs_cons (pg_name (i := 2) sc_Size_names.nd rfl (Or.inl rfl)) (pgs_cons (pg_name (i := 3) sc_Size_names.nd rfl (Or.inl rfl)) pgs_nil))))) (fun _ _ _ _ _ => pts_nil) (fun _ _ _ _ _ => (pv 1))))))
theorem body_Size___init__ (T : Txt K mg) (F_Size_names : FoM P w K mg base (He.ga K "Size") "names" ["self"] [] 1 (sp_Size_names K)) (F_is_less : Fo P w K mg base "is_less" ["a", "b"] [] 1 (sp_is_less K)) (F_is_name_stocks : Fo P w K mg base "is_name_stocks" ["text"] [] 1 (sp_is_name_stocks K)) {f : Addr} {cdv : Value} {A : Around} {outer : List Env} {s : Shared} {H : Hp} {X : XK} (hr : Room 1 (A.deeper (PyProof.Rows.envOfC "Size.__init__" (defScope s_Size___init__) s.heap.objs.size f cdv))) :
    PSs (cxOf (L2.CX P w) P w K mg base N_Size___init__ "Size.__init__" (defScope s_Size___init__) f cdv A outer s H X) (defBody s_Size___init__) (t_Size___init__ K X) :=
  (pss_cons (ps_if (PW.pt (pw_or (pt_not (pt_val (pe_callF F_is_name_stocks (hr.mono (by decide)) (passes_call (takes_of rfl rfl rfl rfl) (fun _ _ _ _ h => h)) (pa_cons (pv 1) pa_nil)))) (pw_or1 (pt_val (pe_callF F_is_less (hr.mono (by decide)) (passes_call (takes_of rfl rfl rfl rfl) (fun _ _ _ _ h => h)) (pa_cons (pv 3) (pa_cons (pv 2) pa_nil)))))))
    (pss_one (ps_raiseX rfl (takes_of rfl rfl rfl rfl) (T.e_NoSize.pmk T.g_NoSize (by exact rfl))))
    pss_nil)
    (pss_cons (ps_if (pt_cmp (pc_isN (pv 4)))
    (pss_one (ps_set (i := 4) sc_Size___init__.nd rfl (Or.inl rfl) (pe_lst pa_nil)))
    pss_nil)
    (pss_cons (ps_for (passes_of rfl) rfl (pi_seq (pv 4)) (pg_tup rfl (pgs_cons (pg_name (i := 5) sc_Size___init__.nd rfl (Or.inl rfl)) (pgs_cons (pg_name (i := 6) sc_Size___init__.nd rfl (Or.inl rfl)) (pgs_cons (pg_name (i := 7) sc_Size___init__.nd rfl (Or.inl rfl)) pgs_nil))))
    (pss_one (ps_if (PW.pt (pw_or (pt_not (pt_val (pe_callF F_is_name_stocks (hr.mono (by decide)) (passes_call (takes_of rfl rfl rfl rfl) (fun _ _ _ _ h => h)) (pa_cons (pv 5) pa_nil)))) (pw_or (pt_val (pe_callF F_is_less (hr.mono (by decide)) (passes_call (takes_of rfl rfl rfl rfl) (fun _ _ _ _ h => h)) (pa_cons (pv 6) (pa_cons (pe_glob rfl T.g_ZERO rfl) pa_nil)))) (pw_or1 (pt_cmpR op_notIn_seq (pv 7) (pe_glob rfl T.g_WAYS rfl) (by rfl))))))
    (pss_one (ps_raiseX rfl (takes_of rfl rfl rfl rfl) (T.e_NoSize.pmk T.g_NoSize (by exact rfl))))
    pss_nil)))
    (pss_cons (ps_fld (pv 0) (pv 1) rfl)
    (pss_cons (ps_fld (pv 0) (pv 2) rfl)
    (pss_cons (ps_fld (pv 0) (pv 3) rfl)
    (pss_cons (ps_fld (pv 0) (pe_callTy call_tupP rfl T.b_tuple (by decide +kernel) (pa_cons (pv 4) pa_nil)) rfl)
    (pss_one (ps_if (pt_cmpR op_lt (pe_lenSetN rfl rfl T.b_len rfl T.b_set (pe_methF0 (pv 0) F_Size_names (hr.mono (by decide)) (takes_of rfl rfl rfl rfl))) (pe_callB call_len rfl T.b_len (by decide +kernel) (pa_cons (pe_methF0 (pv 0) F_Size_names (hr.mono (by decide)) (takes_of rfl rfl rfl rfl)) pa_nil)) (nomark _))
    (pss_one (ps_raiseX rfl (takes_of rfl rfl rfl rfl) (T.e_NoSize.pmk T.g_NoSize (by exact rfl))))
    pss_nil)))))))))
theorem body_Stock_names (T : Txt K mg) (F_Size_names : FoM P w K mg base (He.ga K "Size") "names" ["self"] [] 1 (sp_Size_names K)) {f : Addr} {cdv : Value} {A : Around} {outer : List Env} {s : Shared} {H : Hp} {X : XK} (hr : Room 1 (A.deeper (PyProof.Rows.envOfC "Stock.names" (defScope s_Stock_names) s.heap.objs.size f cdv))) :
    PSs (cxOf (L2.CX P w) P w K mg base N_Stock_names "Stock.names" (defScope s_Stock_names) f cdv A outer s H X) (defBody s_Stock_names) (t_Stock_names K X) :=
  (pss_cons (ps_set (i := 1) sc_Stock_names.nd rfl (Or.inl rfl) (pe_lst pa_nil))
    (pss_cons (ps_for (passes_of rfl) rfl (pi_seq (pe_fld (pv 0) rfl)) (pg_name (i := 2) sc_Stock_names.nd rfl (Or.inl rfl))
    (pss_one (ps_expr (pe_bm PySem.F.plainAttrs_list PySem.F.slot_list_extend PySem.F.type_list_extend mt_extend (pv 1) (pa_cons (pe_methF0 (pv 2) F_Size_names (hr.mono (by decide)) (takes_of rfl rfl rfl rfl)) pa_nil)))))
    (pss_one (ps_ret (pv 1)))))
theorem body_Stock___init__ (T : Txt K mg) (F_Stock_names : FoM P w K mg base (He.ga K "Stock") "names" ["self"] [] 2 (sp_Stock_names K)) {f : Addr} {cdv : Value} {A : Around} {outer : List Env} {s : Shared} {H : Hp} {X : XK} (hr : Room 2 (A.deeper (PyProof.Rows.envOfC "Stock.__init__" (defScope s_Stock___init__) s.heap.objs.size f cdv))) :
    PSs (cxOf (L2.CX P w) P w K mg base N_Stock___init__ "Stock.__init__" (defScope s_Stock___init__) f cdv A outer s H X) (defBody s_Stock___init__) (t_Stock___init__ K X) :=
  (pss_cons (ps_fld (pv 0) (pe_callTy call_tupP rfl T.b_tuple (by decide +kernel) (pa_cons (pv 1) pa_nil)) rfl)
    (pss_cons (ps_set (i := 2) sc_Stock___init__.nd rfl (Or.inl rfl) (pe_methF0 (pv 0) F_Stock_names (hr.mono (by decide)) (takes_of rfl rfl rfl rfl)))
    (pss_one (ps_if (pt_cmpR op_lt (pe_lenSetN rfl rfl T.b_len rfl T.b_set (pv 2)) (pe_callB call_len rfl T.b_len (by decide +kernel) (pa_cons (pv 2) pa_nil)) (nomark _))
    (pss_one (ps_raiseX rfl (takes_of rfl rfl rfl rfl) (T.e_NoSize.pmk T.g_NoSize (by exact rfl))))
    pss_nil))))
theorem body_Stock_sizes (T : Txt K mg) {f : Addr} {cdv : Value} {A : Around} {outer : List Env} {s : Shared} {H : Hp} {X : XK} (hr : Room 0 (A.deeper (PyProof.Rows.envOfC "Stock.sizes" (defScope s_Stock_sizes) s.heap.objs.size f cdv))) :
    PSs (cxOf (L2.CX P w) P w K mg base N_Stock_sizes "Stock.sizes" (defScope s_Stock_sizes) f cdv A outer s H X) (defBody s_Stock_sizes) (t_Stock_sizes K X) :=
  (pss_one (ps_ret (pe_callTy (call_lstU rfl) rfl T.b_list (by decide +kernel) (pa_cons (pe_fld (pv 0) rfl) pa_nil))))
theorem body_is_name_parts (T : Txt K mg) {f : Addr} {cdv : Value} {A : Around} {outer : List Env} {s : Shared} {H : Hp} {X : XK} (hr : Room 0 (A.deeper (PyProof.Rows.envOfC "is_name" (defScope s_is_name_parts) s.heap.objs.size f cdv))) :
    PSs (cxOf (L2.CX P w) P w K mg base N_is_name_parts "is_name" (defScope s_is_name_parts) f cdv A outer s H X) (defBody s_is_name_parts) (t_is_name_parts K X) :=
  (pss_cons (ps_if (PW.pt (pw_or (pt_not (pt_val (pe_callB call_isiA rfl T.b_isinstance (by decide +kernel) (pa_cons (pv 0) (pa_cons (pe_bltn rfl T.b_str (by decide +kernel) rfl) pa_nil))))) (pw_or1 (pt_not (pt_chain op_le op_le pe_int (pe_callB call_len rfl T.b_len (by decide +kernel) (pa_cons (pv 0) pa_nil)) (pe_globI rfl T.k_MOST_SIGNS_parts))))))
    (pss_one (ps_ret pe_bl))
    pss_nil)
    (pss_one (ps_ret (pe_callB (cr_all rfl) rfl T.b_all (by decide +kernel) (pa_cons (pe_lc (own := [("sign", 1)]) (g := (gName 1)) (tt := tYes) rfl sc_is_name_parts.nd  (pi_str (pv 0)) (blkOk_by (N := N_is_name_parts) (sc := defScope s_is_name_parts) (by decide +kernel)) (fun _ _ _ _ _ => (pg_name (i := 1) sc_is_name_parts.nd rfl (Or.inl rfl))) (fun _ _ _ _ _ => pts_nil) (fun _ _ _ _ _ => (pe_cmpR op_inS (pv 1) (pe_globS rfl T.k_LETTERS) (by rfl)))) pa_nil)))))
theorem body_has_names (T : Txt K mg) (F_Stock_names : FoM P w K mg base (He.ga K "Stock") "names" ["self"] [] 2 (sp_Stock_names K)) {f : Addr} {cdv : Value} {A : Around} {outer : List Env} {s : Shared} {H : Hp} {X : XK} (hr : Room 2 (A.deeper (PyProof.Rows.envOfC "has_names" (defScope s_has_names) s.heap.objs.size f cdv))) :
    PSs (cxOf (L2.CX P w) P w K mg base N_has_names "has_names" (defScope s_has_names) f cdv A outer s H X) (defBody s_has_names) (t_has_names K X) :=
  (pss_cons (ps_set (i := 2) sc_has_names.nd rfl (Or.inr rfl) (pe_methF0 (pv 0) F_Stock_names (hr.mono (by decide)) (takes_of rfl rfl rfl rfl)))
    (pss_one (ps_ret (pe_callB (cr_all rfl) rfl T.b_all (by decide +kernel) (pa_cons (pe_lc (own := [("name", 3), ("factor", 4)]) (g := (gTup K 2 (gCons (gName 3) (gCons (gName 4) gNil)))) (tt := tYes) rfl sc_has_names.nd  (pi_seq (pe_ix ix_seq (pv 1) pe_int (fun _ _ => rfl))) (blkOk_by (N := N_has_names) (sc := defScope s_has_names) (by decide +kernel)) (fun _ _ _ _ _ => (pg_tup rfl (pgs_cons (pg_name (i := 3) sc_has_names.nd rfl (Or.inl rfl)) (pgs_cons (pg_name (i := 4) sc_has_names.nd rfl (Or.inl rfl)) pgs_nil)))) (fun _ _ _ _ _ => pts_nil) (fun _ _ _ _ _ => (pe_cmpR op_in_seq (pv 3) (pv 2) (by rfl)))) pa_nil)))))
theorem body_Part___init__ (T : Txt K mg) (F_Stock___init__ : FoI P w K mg base "Stock" (He.ga K "Stock") ["self", "sizes"] [] 3 (sp_Stock___init__ K)) (F_Stock_names : FoM P w K mg base (He.ga K "Stock") "names" ["self"] [] 2 (sp_Stock_names K)) (F_is_name_parts : Fo P w K mg base "is_name_parts" ["thing"] [] 1 (sp_is_name_parts K)) {f : Addr} {cdv : Value} {A : Around} {outer : List Env} {s : Shared} {H : Hp} {X : XK} (hr : Room 4 (A.deeper (PyProof.Rows.envOfC "Part.__init__" (defScope s_Part___init__) s.heap.objs.size f cdv))) :
    PSs (cxOf (L2.CX P w) P w K mg base N_Part___init__ "Part.__init__" (defScope s_Part___init__) f cdv A outer s H X) (defBody s_Part___init__) (t_Part___init__ K X) :=
  (pss_cons (ps_if (pt_not (pt_val (pe_callF F_is_name_parts (hr.mono (by decide)) (passes_call (takes_of rfl rfl rfl rfl) (fun _ _ _ _ h => h)) (pa_cons (pv 1) pa_nil))))
    (pss_one (ps_raiseX rfl (takes_of rfl rfl rfl rfl) (T.e_NoPart.pmk T.g_NoPart (by exact rfl))))
    pss_nil)
    (pss_cons (ps_fld (pv 0) (pv 1) rfl)
    (pss_cons (ps_fld (pv 0) (pe_makeF F_Stock___init__ (hr.mono (by decide)) (takes_of rfl rfl rfl rfl) (pa_cons (pv 2) pa_nil)) rfl)
    (pss_cons (ps_if (pt_not (pt_val (pe_callB (cr_all rfl) rfl T.b_all (by decide +kernel) (pa_cons (pe_lc (own := [("word", 3)]) (g := (gName 3)) (tt := tYes) rfl sc_Part___init__.nd  (pi_seq (pe_methF0 (pe_fld (pv 0) rfl) F_Stock_names (hr.mono (by decide)) (takes_of rfl rfl rfl rfl))) (blkOk_by (N := N_Part___init__) (sc := defScope s_Part___init__) (by decide +kernel)) (fun _ _ _ _ _ => (pg_name (i := 3) sc_Part___init__.nd rfl (Or.inl rfl))) (fun _ _ _ _ _ => pts_nil) (fun _ _ _ _ _ => (pe_callF F_is_name_parts (hr.mono (by decide)) passL (pa_cons (pv 3) pa_nil)))) pa_nil))))
    (pss_one (ps_raiseX rfl (takes_of rfl rfl rfl rfl) (T.e_NoSize.pmk T.g_NoSize (by exact rfl))))
    pss_nil)
    (pss_one (ps_fld (pv 0) pe_dnewK rfl))))))
theorem body_Part_stock (T : Txt K mg) {f : Addr} {cdv : Value} {A : Around} {outer : List Env} {s : Shared} {H : Hp} {X : XK} (hr : Room 0 (A.deeper (PyProof.Rows.envOfC "Part.stock" (defScope s_Part_stock) s.heap.objs.size f cdv))) :
    PSs (cxOf (L2.CX P w) P w K mg base N_Part_stock "Part.stock" (defScope s_Part_stock) f cdv A outer s H X) (defBody s_Part_stock) (t_Part_stock K X) :=
  (pss_one (ps_ret (pe_fld (pv 0) rfl)))
theorem body_Part_faces (T : Txt K mg) {f : Addr} {cdv : Value} {A : Around} {outer : List Env} {s : Shared} {H : Hp} {X : XK} (hr : Room 0 (A.deeper (PyProof.Rows.envOfC "Part.faces" (defScope s_Part_faces) s.heap.objs.size f cdv))) :
    PSs (cxOf (L2.CX P w) P w K mg base N_Part_faces "Part.faces" (defScope s_Part_faces) f cdv A outer s H X) (defBody s_Part_faces) (t_Part_faces K X) :=
  (pss_one (ps_ret (pe_lock (pe_lc (own := [("name", 1)]) (g := (gName 1)) (tt := tYes) rfl sc_Part_faces.nd  (pi_keys (pe_fld (pv 0) rfl)) (blkOk_by (N := N_Part_faces) (sc := defScope s_Part_faces) (by decide +kernel)) (fun _ _ _ _ _ => (pg_name (i := 1) sc_Part_faces.nd rfl (Or.inl rfl))) (fun _ _ _ _ _ => pts_nil) (fun _ _ _ _ _ => (pe_tupP (pa_cons (pv 1) (pa_cons (pe_ix ix_seq (pe_dget (hu_of hr) (pe_fld (pv 0) rfl) (pv 1) (fun _ _ => rfl)) pe_int (fun _ _ => rfl)) (pa_cons (pe_ix ix_seq (pe_dget (hu_of hr) (pe_fld (pv 0) rfl) (pv 1) (fun _ _ => rfl)) pe_int (fun _ _ => rfl)) pa_nil)))))))))
theorem body_Part_check_added (T : Txt K mg) (F_has_names : Fo P w K mg base "has_names" ["stock", "add"] [] 3 (sp_has_names K)) {f : Addr} {cdv : Value} {A : Around} {outer : List Env} {s : Shared} {H : Hp} {X : XK} (hr : Room 3 (A.deeper (PyProof.Rows.envOfC "Part.check_added" (defScope s_Part_check_added) s.heap.objs.size f cdv))) :
    PSs (cxOf (L2.CX P w) P w K mg base N_Part_check_added "Part.check_added" (defScope s_Part_check_added) f cdv A outer s H X) (defBody s_Part_check_added) (t_Part_check_added K X) :=
  (pss_cons (ps_if (pt_cmpR op_notIn_seq (pv 1) (pe_glob rfl T.g_AXES rfl) (by rfl))
    (pss_one (ps_raiseX rfl (takes_of rfl rfl rfl rfl) (T.e_NoFace.pmk T.g_NoFace (by exact rfl))))
    pss_nil)
    (pss_one (ps_if (pt_not (pt_val (pe_callF F_has_names (hr.mono (by decide)) (passes_call (takes_of rfl rfl rfl rfl) (fun _ _ _ _ h => h)) (pa_cons (pe_fld (pv 0) rfl) (pa_cons (pv 2) pa_nil)))))
    (pss_one (ps_raiseX rfl (takes_of rfl rfl rfl rfl) (T.e_NoFace.pmk T.g_NoFace (by exact rfl))))
    pss_nil)))
theorem body_Part_put_face (T : Txt K mg) (F_Part_check_added : FoM P w K mg base (He.ga K "Part") "check_added" ["self", "axis", "add"] [] 4 (sp_Part_check_added K)) (F_is_name_parts : Fo P w K mg base "is_name_parts" ["thing"] [] 1 (sp_is_name_parts K)) (F_sum_plus : Fo P w K mg base "sum_plus" ["a", "b"] [] 5 (sp_sum_plus K)) {f : Addr} {cdv : Value} {A : Around} {outer : List Env} {s : Shared} {H : Hp} {X : XK} (hr : Room 5 (A.deeper (PyProof.Rows.envOfC "Part.put_face" (defScope s_Part_put_face) s.heap.objs.size f cdv))) :
    PSs (cxOf (L2.CX P w) P w K mg base N_Part_put_face "Part.put_face" (defScope s_Part_put_face) f cdv A outer s H X) (defBody s_Part_put_face) (t_Part_put_face K X) :=
  (pss_cons (ps_if (PW.pt (pw_or (pt_not (pt_val (pe_callF F_is_name_parts (hr.mono (by decide)) (passes_call (takes_of rfl rfl rfl rfl) (fun _ _ _ _ h => h)) (pa_cons (pv 1) pa_nil)))) (pw_or (pt_cmpR (op_eqU hr.units) (pv 1) (pe_globS rfl T.k_RESERVED) (nomark _)) (pw_or1 (pt_cmp (pc_din (hu_of hr) (pv 1) (pe_fld (pv 0) rfl)))))))
    (pss_one (ps_raiseX rfl (takes_of rfl rfl rfl rfl) (T.e_NoFace.pmk T.g_NoFace (by exact rfl))))
    pss_nil)
    (pss_cons (ps_expr (pe_methF (pv 0) F_Part_check_added (hr.mono (by decide)) (takes_of rfl rfl rfl rfl) (pa_cons (pv 2) (pa_cons (pv 4) pa_nil))))
    (pss_cons (ps_set (i := 5) sc_Part_put_face.nd rfl (Or.inl rfl) (pv 4))
    (pss_cons (ps_if (pt_cmp (pc_notN (pv 3)))
    (pss_cons (ps_if (PW.pt (pw_or (pt_cmp (pc_dnotin (hu_of hr) (pv 3) (pe_fld (pv 0) rfl))) (pw_or1 (pt_cmpR (op_neU hr.units) (pe_ix ix_seq (pe_dget (hu_of hr) (pe_fld (pv 0) rfl) (pv 3) (fun _ _ => rfl)) pe_int (fun _ _ => rfl)) (pv 2) (nomark _)))))
    (pss_one (ps_raiseX rfl (takes_of rfl rfl rfl rfl) (T.e_NoFace.pmk T.g_NoFace (by exact rfl))))
    pss_nil)
    (pss_one (ps_set (i := 5) sc_Part_put_face.nd rfl (Or.inl rfl) (pe_callF F_sum_plus (hr.mono (by decide)) (passes_call (takes_of rfl rfl rfl rfl) (fun _ _ _ _ h => h)) (pa_cons (pe_ix ix_seq (pe_dget (hu_of hr) (pe_fld (pv 0) rfl) (pv 3) (fun _ _ => rfl)) pe_int (fun _ _ => rfl)) (pa_cons (pv 4) pa_nil))))))
    pss_nil)
    (pss_one (ps_dput (hu_of hr) (pe_fld (pv 0) rfl) (pv 1) (pe_tupP (pa_cons (pv 2) (pa_cons (pv 5) pa_nil))) rfl))))))
theorem body__law_well (T : Txt K mg) {f : Addr} {cdv : Value} {A : Around} {outer : List Env} {s : Shared} {H : Hp} {X : XK} (hr : Room 0 (A.deeper (PyProof.Rows.envOfC "_law_well" (defScope s__law_well) s.heap.objs.size f cdv))) :
    PSs (cxOf (L2.CX P w) P w K mg base N__law_well "_law_well" (defScope s__law_well) f cdv A outer s H X) (defBody s__law_well) (t__law_well K X) :=
  (pss_cons (ps_set (i := 2) sc__law_well.nd rfl (Or.inl rfl) pe_int)
    (pss_cons (ps_if (pt_cmpR op_lt (pv 1) (pe_callB call_len rfl T.b_len (by decide +kernel) (pa_cons (pv 0) pa_nil)) (nomark _))
    (pss_one (ps_set (i := 2) sc__law_well.nd rfl (Or.inl rfl) (pe_ix ix_seq (pv 0) (pv 1) (fun _ _ => rfl))))
    pss_nil)
    (pss_one (ps_ret (pe_lst (pa_cons (pe_callTy call_int1 rfl T.b_int (by decide +kernel) (pa_cons (pe_cmpR op_ge (pe_callB call_abs rfl T.b_abs (by decide +kernel) (pa_cons (pv 2) pa_nil)) (pe_op op_pow pe_int pe_int) (nomark _)) pa_nil)) (pa_cons (pv 2) (pa_cons (pe_op op_mulU pe_int (pv 1)) pa_nil))))))))
theorem body__law_take (T : Txt K mg) {f : Addr} {cdv : Value} {A : Around} {outer : List Env} {s : Shared} {H : Hp} {X : XK} (hr : Room 0 (A.deeper (PyProof.Rows.envOfC "_law_take" (defScope s__law_take) s.heap.objs.size f cdv))) :
    PSs (cxOf (L2.CX P w) P w K mg base N__law_take "_law_take" (defScope s__law_take) f cdv A outer s H X) (defBody s__law_take) (t__law_take K X) :=
  (pss_cons (ps_if (pt_cmpR (op_eqU hr.units) (pe_ix ix_seq (pv 0) pe_int (fun _ _ => rfl)) pe_int (nomark _))
    (pss_cons (ps_set (i := 2) sc__law_take.nd rfl (Or.inl rfl) (pe_op op_modN (pe_ix ix_seq (pv 0) pe_int (fun _ _ => rfl)) (pv 1)))
    (pss_cons (ps_asg (pe_op op_div (pe_ix ix_seq (pv 0) pe_int (fun _ _ => rfl)) (pv 1)) (pg_sub (pv 0) pe_int set_list))
    (pss_one (ps_ret (pv 2)))))
    pss_nil)
    (pss_cons (ps_set (i := 3) sc__law_take.nd rfl (Or.inl rfl) (pe_op op_addV (pe_ix ix_seq (pv 0) pe_int (fun _ _ => rfl)) pe_int))
    (pss_cons (ps_asg (pv 3) (pg_sub (pv 0) pe_int set_list))
    (pss_cons (ps_set (i := 4) sc__law_take.nd rfl (Or.inl rfl) (pe_op op_modN (pe_op op_mulU (pe_op op_addV (pe_op op_addV (pe_ix ix_seq (pv 0) pe_int (fun _ _ => rfl)) (pe_op op_mulU (pe_op op_mulU pe_int (pv 3)) (pv 3))) (pv 3)) pe_int) pe_int))
    (pss_one (ps_ret (pe_op op_modN (pe_op op_div (pe_op op_modN (pe_op op_addV (pe_op op_mulU (pv 4) pe_int) pe_int) pe_int) pe_int) (pv 1))))))))
theorem body__law_common (T : Txt K mg) {f : Addr} {cdv : Value} {A : Around} {outer : List Env} {s : Shared} {H : Hp} {X : XK} (hr : Room 0 (A.deeper (PyProof.Rows.envOfC "_law_common" (defScope s__law_common) s.heap.objs.size f cdv))) :
    PSs (cxOf (L2.CX P w) P w K mg base N__law_common "_law_common" (defScope s__law_common) f cdv A outer s H X) (defBody s__law_common) (t__law_common K X) :=
  (pss_cons (ps_while (passes_of rfl) (pt_cmpR (op_neU hr.units) (pv 1) pe_int (nomark _))
    (pss_one (ps_par (by rfl) sc__law_common.nd rfl rfl (by decide) rfl rfl (pa_cons (pv 1) (pa_cons (pe_op op_modN (pv 0) (pv 1)) pa_nil)) (by rfl))))
    (pss_one (ps_ret (pe_callB call_abs rfl T.b_abs (by decide +kernel) (pa_cons (pv 0) pa_nil)))))
theorem body__law_num (T : Txt K mg) (F__law_common : Fo P w K mg base "_law_common" ["_law_one", "_law_other"] [] 1 (sp__law_common K)) {f : Addr} {cdv : Value} {A : Around} {outer : List Env} {s : Shared} {H : Hp} {X : XK} (hr : Room 1 (A.deeper (PyProof.Rows.envOfC "_law_num" (defScope s__law_num) s.heap.objs.size f cdv))) :
    PSs (cxOf (L2.CX P w) P w K mg base N__law_num "_law_num" (defScope s__law_num) f cdv A outer s H X) (defBody s__law_num) (t__law_num K X) :=
  (pss_cons (ps_set (i := 2) sc__law_num.nd rfl (Or.inl rfl) (pe_callF F__law_common (hr.mono (by decide)) (passes_call (takes_of rfl rfl rfl rfl) (fun _ _ _ _ h => h)) (pa_cons (pv 0) (pa_cons (pv 1) pa_nil))))
    (pss_one (ps_ret (pe_tupP (pa_cons (pe_op op_div (pv 0) (pv 2)) (pa_cons (pe_op op_div (pv 1) (pv 2)) pa_nil))))))
theorem body__law_add (T : Txt K mg) (F__law_num : Fo P w K mg base "_law_num" ["_law_top", "_law_bottom"] [] 2 (sp__law_num K)) {f : Addr} {cdv : Value} {A : Around} {outer : List Env} {s : Shared} {H : Hp} {X : XK} (hr : Room 2 (A.deeper (PyProof.Rows.envOfC "_law_add" (defScope s__law_add) s.heap.objs.size f cdv))) :
    PSs (cxOf (L2.CX P w) P w K mg base N__law_add "_law_add" (defScope s__law_add) f cdv A outer s H X) (defBody s__law_add) (t__law_add K X) :=
  (pss_one (ps_ret (pe_callF F__law_num (hr.mono (by decide)) (passes_call (takes_of rfl rfl rfl rfl) (fun _ _ _ _ h => h)) (pa_cons (pe_op op_addV (pe_op op_mulU (pe_ix ix_seq (pv 0) pe_int (fun _ _ => rfl)) (pe_ix ix_seq (pv 1) pe_int (fun _ _ => rfl))) (pe_op op_mulU (pe_ix ix_seq (pv 1) pe_int (fun _ _ => rfl)) (pe_ix ix_seq (pv 0) pe_int (fun _ _ => rfl)))) (pa_cons (pe_op op_mulU (pe_ix ix_seq (pv 0) pe_int (fun _ _ => rfl)) (pe_ix ix_seq (pv 1) pe_int (fun _ _ => rfl))) pa_nil)))))
theorem body__law_number (T : Txt K mg) (F__law_num : Fo P w K mg base "_law_num" ["_law_top", "_law_bottom"] [] 2 (sp__law_num K)) (F__law_take : Fo P w K mg base "_law_take" ["_law_well_here", "_law_many"] [] 1 (sp__law_take K)) {f : Addr} {cdv : Value} {A : Around} {outer : List Env} {s : Shared} {H : Hp} {X : XK} (hr : Room 2 (A.deeper (PyProof.Rows.envOfC "_law_number" (defScope s__law_number) s.heap.objs.size f cdv))) :
    PSs (cxOf (L2.CX P w) P w K mg base N__law_number "_law_number" (defScope s__law_number) f cdv A outer s H X) (defBody s__law_number) (t__law_number K X) :=
  (pss_cons (ps_set (i := 1) sc__law_number.nd rfl (Or.inl rfl) (pe_callF F__law_take (hr.mono (by decide)) (passes_call (takes_of rfl rfl rfl rfl) (fun _ _ _ _ h => h)) (pa_cons (pv 0) (pa_cons pe_int pa_nil))))
    (pss_cons (ps_if (pt_cmpR (op_eqU hr.units) (pv 1) pe_int (nomark _))
    (pss_one (ps_ret (pe_callF F__law_num (hr.mono (by decide)) (passes_call (takes_of rfl rfl rfl rfl) (fun _ _ _ _ h => h)) (pa_cons (pe_op op_sub (pe_callF F__law_take (hr.mono (by decide)) (passes_call (takes_of rfl rfl rfl rfl) (fun _ _ _ _ h => h)) (pa_cons (pv 0) (pa_cons (pe_op op_addV (pe_op op_mulU pe_int (pe_op op_pow pe_int pe_int)) pe_int) pa_nil))) (pe_op op_pow pe_int pe_int)) (pa_cons (pe_op op_addV pe_int (pe_callF F__law_take (hr.mono (by decide)) (passes_call (takes_of rfl rfl rfl rfl) (fun _ _ _ _ h => h)) (pa_cons (pv 0) (pa_cons (pe_op op_pow pe_int pe_int) pa_nil)))) pa_nil)))))
    pss_nil)
    (pss_cons (ps_if (pt_cmpR op_gt (pv 1) pe_int (nomark _))
    (pss_one (ps_ret (pe_callF F__law_num (hr.mono (by decide)) (passes_call (takes_of rfl rfl rfl rfl) (fun _ _ _ _ h => h)) (pa_cons (pe_op op_sub (pe_callF F__law_take (hr.mono (by decide)) (passes_call (takes_of rfl rfl rfl rfl) (fun _ _ _ _ h => h)) (pa_cons (pv 0) (pa_cons pe_int pa_nil))) pe_int) (pa_cons (pe_op op_addV pe_int (pe_callF F__law_take (hr.mono (by decide)) (passes_call (takes_of rfl rfl rfl rfl) (fun _ _ _ _ h => h)) (pa_cons (pv 0) (pa_cons pe_int pa_nil)))) pa_nil)))))
    pss_nil)
    (pss_one (ps_ret (pe_tupP (pa_cons (pe_op op_sub (pe_callF F__law_take (hr.mono (by decide)) (passes_call (takes_of rfl rfl rfl rfl) (fun _ _ _ _ h => h)) (pa_cons (pv 0) (pa_cons pe_int pa_nil))) pe_int) (pa_cons pe_int pa_nil))))))))
theorem body__law_word (T : Txt K mg) (F__law_take : Fo P w K mg base "_law_take" ["_law_well_here", "_law_many"] [] 1 (sp__law_take K)) {f : Addr} {cdv : Value} {A : Around} {outer : List Env} {s : Shared} {H : Hp} {X : XK} (hr : Room 1 (A.deeper (PyProof.Rows.envOfC "_law_word" (defScope s__law_word) s.heap.objs.size f cdv))) :
    PSs (cxOf (L2.CX P w) P w K mg base N__law_word "_law_word" (defScope s__law_word) f cdv A outer s H X) (defBody s__law_word) (t__law_word K X) :=
  (pss_cons (ps_set (i := 2) sc__law_word.nd rfl (Or.inr rfl) pe_str)
    (pss_cons (ps_set (i := 3) sc__law_word.nd rfl (Or.inl rfl) (pe_lst (pa_cons pe_str (pa_cons pe_str (pa_cons pe_str (pa_cons pe_str (pa_cons pe_str (pa_cons pe_str (pa_cons pe_str (pa_cons pe_str pa_nil))))))))))
    (pss_cons (ps_if (pt_cmpR (op_eqU hr.units) (pe_callF F__law_take (hr.mono (by decide)) (passes_call (takes_of rfl rfl rfl rfl) (fun _ _ _ _ h => h)) (pa_cons (pv 0) (pa_cons pe_int pa_nil))) pe_int (nomark _))
    (pss_cons (ps_set (i := 4) sc__law_word.nd rfl (Or.inl rfl) (pe_ix ix_seq (pv 3) (pe_callF F__law_take (hr.mono (by decide)) (passes_call (takes_of rfl rfl rfl rfl) (fun _ _ _ _ h => h)) (pa_cons (pv 0) (pa_cons pe_int pa_nil))) (fun _ _ => rfl)))
    (pss_one (ps_if (pt_cmpR op_notIn_seq (pv 4) (pv 1) (by rfl))
    (pss_one (ps_ret (pv 4)))
    pss_nil)))
    pss_nil)
    (pss_cons (ps_set (i := 4) sc__law_word.nd rfl (Or.inl rfl) (pe_join pe_str (pe_lc (own := [("_law_k", 5)]) (g := (gName 5)) (tt := tYes) rfl sc__law_word.nd  (pi_range1 rfl T.b_range (pa_cons (pe_op op_addV pe_int (pe_callF F__law_take (hr.mono (by decide)) (passes_call (takes_of rfl rfl rfl rfl) (fun _ _ _ _ h => h)) (pa_cons (pv 0) (pa_cons pe_int pa_nil)))) pa_nil)) (blkOk_by (N := N__law_word) (sc := defScope s__law_word) (by decide +kernel)) (fun _ _ _ _ _ => (pg_name (i := 5) sc__law_word.nd rfl (Or.inl rfl))) (fun _ _ _ _ _ => pts_nil) (fun _ _ _ _ _ => (pe_ix ix_seq (pv 2) (pe_callF F__law_take (hr.mono (by decide)) passL (pa_cons (pv 0) (pa_cons pe_int pa_nil))) (fun _ _ => rfl))))))
    (pss_cons (ps_while (passes_of rfl) (pt_cmpR op_in_seq (pv 4) (pv 1) (by rfl))
    (pss_one (ps_set (i := 4) sc__law_word.nd rfl (Or.inl rfl) (pe_op op_addV (pe_slice sl_str (pv 4) po_none (po_some (pe_un un_negU pe_int))) (pe_ix ix_seq (pv 2) (pe_op op_modN (pe_op op_addV (pe_index (pv 2) (pe_ix ix_seq (pv 4) (pe_un un_negU pe_int) (fun _ _ => rfl))) pe_int) pe_int) (fun _ _ => rfl))))))
    (pss_one (ps_ret (pv 4))))))))
theorem body__law_sizes (T : Txt K mg) (F__law_add : Fo P w K mg base "_law_add" ["_law_one", "_law_other"] [] 3 (sp__law_add K)) (F__law_number : Fo P w K mg base "_law_number" ["_law_well_here"] [] 3 (sp__law_number K)) (F__law_take : Fo P w K mg base "_law_take" ["_law_well_here", "_law_many"] [] 1 (sp__law_take K)) (F__law_word : Fo P w K mg base "_law_word" ["_law_well_here", "_law_taken"] [] 2 (sp__law_word K)) {f : Addr} {cdv : Value} {A : Around} {outer : List Env} {s : Shared} {H : Hp} {X : XK} (hr : Room 3 (A.deeper (PyProof.Rows.envOfC "_law_sizes" (defScope s__law_sizes) s.heap.objs.size f cdv))) :
    PSs (cxOf (L2.CX P w) P w K mg base N__law_sizes "_law_sizes" (defScope s__law_sizes) f cdv A outer s H X) (defBody s__law_sizes) (t__law_sizes K X) :=
  (pss_cons (ps_set (i := 2) sc__law_sizes.nd rfl (Or.inl rfl) (pe_lst pa_nil))
    (pss_cons (ps_set (i := 3) sc__law_sizes.nd rfl (Or.inl rfl) (pe_lst pa_nil))
    (pss_cons (ps_for (passes_of rfl) rfl (pi_range1 rfl T.b_range (pa_cons (pe_ix ix_seq (pe_lst (pa_cons pe_int (pa_cons pe_int (pa_cons pe_int (pa_cons pe_int (pa_cons pe_int (pa_cons pe_int (pa_cons pe_int (pa_cons pe_int pa_nil))))))))) (pe_callF F__law_take (hr.mono (by decide)) (passes_call (takes_of rfl rfl rfl rfl) (fun _ _ _ _ h => h)) (pa_cons (pv 0) (pa_cons pe_int pa_nil))) (fun _ _ => rfl)) pa_nil)) (pg_name (i := 4) sc__law_sizes.nd rfl (Or.inl rfl))
    (pss_one (ps_if (pt_cmpR op_lt (pe_callB call_len rfl T.b_len (by decide +kernel) (pa_cons (pv 2) pa_nil)) (pv 1) (nomark _))
    (pss_cons (ps_set (i := 5) sc__law_sizes.nd rfl (Or.inl rfl) (pe_callF F__law_word (hr.mono (by decide)) (passes_call (takes_of rfl rfl rfl rfl) (fun _ _ _ _ h => h)) (pa_cons (pv 0) (pa_cons (pv 2) pa_nil))))
    (pss_cons (ps_expr (pe_bm PySem.F.plainAttrs_list PySem.F.slot_list_append PySem.F.type_list_append mt_append (pv 2) (pa_cons (pv 5) pa_nil)))
    (pss_cons (ps_set (i := 6) sc__law_sizes.nd rfl (Or.inl rfl) (pe_callF F__law_number (hr.mono (by decide)) (passes_call (takes_of rfl rfl rfl rfl) (fun _ _ _ _ h => h)) (pa_cons (pv 0) pa_nil)))
    (pss_cons (ps_set (i := 7) sc__law_sizes.nd rfl (Or.inl rfl) (pe_callF F__law_number (hr.mono (by decide)) (passes_call (takes_of rfl rfl rfl rfl) (fun _ _ _ _ h => h)) (pa_cons (pv 0) pa_nil)))
    (pss_cons (ps_set (i := 8) sc__law_sizes.nd rfl (Or.inl rfl) (pe_lst pa_nil))
    (pss_cons (ps_for (passes_of rfl) rfl (pi_range1 rfl T.b_range (pa_cons (pe_ix ix_seq (pe_lst (pa_cons pe_int (pa_cons pe_int (pa_cons pe_int (pa_cons pe_int (pa_cons pe_int (pa_cons pe_int (pa_cons pe_int (pa_cons pe_int pa_nil))))))))) (pe_callF F__law_take (hr.mono (by decide)) (passes_call (takes_of rfl rfl rfl rfl) (fun _ _ _ _ h => h)) (pa_cons (pv 0) (pa_cons pe_int pa_nil))) (fun _ _ => rfl)) pa_nil)) (pg_name (i := 9) sc__law_sizes.nd rfl (Or.inl rfl))
    (pss_one (ps_if (pt_cmpR op_lt (pe_callB call_len rfl T.b_len (by decide +kernel) (pa_cons (pv 2) pa_nil)) (pv 1) (nomark _))
    (pss_cons (ps_expr (pe_bm PySem.F.plainAttrs_list PySem.F.slot_list_append PySem.F.type_list_append mt_append (pv 2) (pa_cons (pe_callF F__law_word (hr.mono (by decide)) (passes_call (takes_of rfl rfl rfl rfl) (fun _ _ _ _ h => h)) (pa_cons (pv 0) (pa_cons (pv 2) pa_nil))) pa_nil)))
    (pss_cons (ps_set (i := 10) sc__law_sizes.nd rfl (Or.inl rfl) (pe_callF F__law_number (hr.mono (by decide)) (passes_call (takes_of rfl rfl rfl rfl) (fun _ _ _ _ h => h)) (pa_cons (pv 0) pa_nil)))
    (pss_cons (ps_set (i := 11) sc__law_sizes.nd rfl (Or.inl rfl) (pe_ix ix_seq (pe_lst (pa_cons pe_str (pa_cons pe_str (pa_cons pe_str pa_nil)))) (pe_callF F__law_take (hr.mono (by decide)) (passes_call (takes_of rfl rfl rfl rfl) (fun _ _ _ _ h => h)) (pa_cons (pv 0) (pa_cons pe_int pa_nil))) (fun _ _ => rfl)))
    (pss_one (ps_expr (pe_bm PySem.F.plainAttrs_list PySem.F.slot_list_append PySem.F.type_list_append mt_append (pv 8) (pa_cons (pe_tupP (pa_cons (pe_ix ix_seq (pv 2) (pe_un un_negU pe_int) (fun _ _ => rfl)) (pa_cons (pe_tupP (pa_cons (pe_callB call_abs rfl T.b_abs (by decide +kernel) (pa_cons (pe_ix ix_seq (pv 10) pe_int (fun _ _ => rfl)) pa_nil)) (pa_cons (pe_ix ix_seq (pv 10) pe_int (fun _ _ => rfl)) pa_nil))) (pa_cons (pv 11) pa_nil)))) pa_nil)))))))
    pss_nil)))
    (pss_one (ps_expr (pe_bm PySem.F.plainAttrs_list PySem.F.slot_list_append PySem.F.type_list_append mt_append (pv 3) (pa_cons (pe_tupP (pa_cons (pv 5) (pa_cons (pv 6) (pa_cons (pe_callF F__law_add (hr.mono (by decide)) (passes_call (takes_of rfl rfl rfl rfl) (fun _ _ _ _ h => h)) (pa_cons (pv 6) (pa_cons (pe_tupP (pa_cons (pe_callB call_abs rfl T.b_abs (by decide +kernel) (pa_cons (pe_ix ix_seq (pv 7) pe_int (fun _ _ => rfl)) pa_nil)) (pa_cons (pe_ix ix_seq (pv 7) pe_int (fun _ _ => rfl)) pa_nil))) pa_nil))) (pa_cons (pe_callTy call_tupP rfl T.b_tuple (by decide +kernel) (pa_cons (pv 8) pa_nil)) pa_nil))))) pa_nil))))))))))
    pss_nil)))
    (pss_one (ps_ret (pe_tupP (pa_cons (pv 3) (pa_cons (pv 2) pa_nil))))))))
theorem body__law_sum (T : Txt K mg) (F__law_number : Fo P w K mg base "_law_number" ["_law_well_here"] [] 3 (sp__law_number K)) (F__law_take : Fo P w K mg base "_law_take" ["_law_well_here", "_law_many"] [] 1 (sp__law_take K)) {f : Addr} {cdv : Value} {A : Around} {outer : List Env} {s : Shared} {H : Hp} {X : XK} (hr : Room 3 (A.deeper (PyProof.Rows.envOfC "_law_sum" (defScope s__law_sum) s.heap.objs.size f cdv))) :
    PSs (cxOf (L2.CX P w) P w K mg base N__law_sum "_law_sum" (defScope s__law_sum) f cdv A outer s H X) (defBody s__law_sum) (t__law_sum K X) :=
  (pss_cons (ps_set (i := 2) sc__law_sum.nd rfl (Or.inl rfl) (pe_lst pa_nil))
    (pss_cons (ps_for (passes_of rfl) rfl (pi_seq (pe_callB (call_sort rfl) rfl T.b_sorted (by decide +kernel) (pa_cons (pv 1) pa_nil))) (pg_name (i := 3) sc__law_sum.nd rfl (Or.inl rfl))
    (pss_cons (ps_set (i := 4) sc__law_sum.nd rfl (Or.inl rfl) (pe_callF F__law_take (hr.mono (by decide)) (passes_call (takes_of rfl rfl rfl rfl) (fun _ _ _ _ h => h)) (pa_cons (pv 0) (pa_cons pe_int pa_nil))))
    (pss_cons (ps_set (i := 5) sc__law_sum.nd rfl (Or.inl rfl) (pe_ix ix_seq (pe_lst (pa_cons (pe_tupP (pa_cons pe_int (pa_cons pe_int pa_nil))) (pa_cons (pe_tupP (pa_cons pe_int (pa_cons pe_int pa_nil))) (pa_cons (pe_tupP (pa_cons pe_int (pa_cons pe_int pa_nil))) (pa_cons (pe_tupP (pa_cons (pe_un un_negU pe_int) (pa_cons pe_int pa_nil))) (pa_cons (pe_tupP (pa_cons pe_int (pa_cons pe_int pa_nil))) (pa_cons (pe_tupP (pa_cons pe_int (pa_cons pe_int pa_nil))) pa_nil))))))) (pv 4) (fun _ _ => rfl)))
    (pss_cons (ps_if (pt_cmpR (op_eqU hr.units) (pv 4) pe_int (nomark _))
    (pss_one (ps_set (i := 5) sc__law_sum.nd rfl (Or.inl rfl) (pe_callF F__law_number (hr.mono (by decide)) (passes_call (takes_of rfl rfl rfl rfl) (fun _ _ _ _ h => h)) (pa_cons (pv 0) pa_nil))))
    pss_nil)
    (pss_one (ps_if (pt_cmpR (op_neU hr.units) (pe_ix ix_seq (pv 5) pe_int (fun _ _ => rfl)) pe_int (nomark _))
    (pss_one (ps_expr (pe_bm PySem.F.plainAttrs_list PySem.F.slot_list_append PySem.F.type_list_append mt_append (pv 2) (pa_cons (pe_tupP (pa_cons (pv 3) (pa_cons (pv 5) pa_nil))) pa_nil))))
    pss_nil))))))
    (pss_one (ps_ret (pe_tupP (pa_cons (pe_callF F__law_number (hr.mono (by decide)) (passes_call (takes_of rfl rfl rfl rfl) (fun _ _ _ _ h => h)) (pa_cons (pv 0) pa_nil)) (pa_cons (pe_callTy call_tupP rfl T.b_tuple (by decide +kernel) (pa_cons (pv 2) pa_nil)) pa_nil)))))))
theorem body__law_plus (T : Txt K mg) (F__law_add : Fo P w K mg base "_law_add" ["_law_one", "_law_other"] [] 3 (sp__law_add K)) {f : Addr} {cdv : Value} {A : Around} {outer : List Env} {s : Shared} {H : Hp} {X : XK} (hr : Room 3 (A.deeper (PyProof.Rows.envOfC "_law_plus" (defScope s__law_plus) s.heap.objs.size f cdv))) :
    PSs (cxOf (L2.CX P w) P w K mg base N__law_plus "_law_plus" (defScope s__law_plus) f cdv A outer s H X) (defBody s__law_plus) (t__law_plus K X) :=
  (pss_cons (ps_set (i := 3) sc__law_plus.nd rfl (Or.inr rfl) (pe_callTy (call_dctU rfl) rfl T.b_dict (by decide +kernel) (pa_cons (pe_ix ix_seq (pv 0) pe_int (fun _ _ => rfl)) pa_nil)))
    (pss_cons (ps_for (passes_of rfl) rfl (pi_seq (pe_ix ix_seq (pv 1) pe_int (fun _ _ => rfl))) (pg_tup rfl (pgs_cons (pg_name (i := 4) sc__law_plus.nd rfl (Or.inl rfl)) (pgs_cons (pg_name (i := 5) sc__law_plus.nd rfl (Or.inl rfl)) pgs_nil)))
    (pss_one (ps_dput (hu_of hr) (pv 3) (pv 4) (pe_callF F__law_add (hr.mono (by decide)) (passes_call (takes_of rfl rfl rfl rfl) (fun _ _ _ _ h => h)) (pa_cons (pe_dget2 (hu_of hr) (pv 3) (pv 4) (pe_tupP (pa_cons pe_int (pa_cons pe_int pa_nil))) ⟨rfl, rfl, rfl, rfl⟩) (pa_cons (pe_tupP (pa_cons (pe_op op_mulU (pv 2) (pe_ix ix_seq (pv 5) pe_int (fun _ _ => rfl))) (pa_cons (pe_ix ix_seq (pv 5) pe_int (fun _ _ => rfl)) pa_nil))) pa_nil))) rfl)))
    (pss_cons (ps_frz (ps_set (i := 6) sc__law_plus.nd rfl (Or.inl rfl) (pe_callTy call_tupP rfl T.b_tuple (by decide +kernel) (pa_cons (pe_lc (own := [("_law_name", 4)]) (g := (gName 4)) (tt := (tTest (tOp (qNe K) (tOp (rIx K) (tDGet (tVar 3) (tVar 4)) (tC (.int 0))) (tC (.int 0))))) rfl sc__law_plus.nd  (pi_seq (pe_callB (call_sort rfl) rfl T.b_sorted (by decide +kernel) (pa_cons (pv 3) pa_nil))) (blkOk_by (N := N__law_plus) (sc := defScope s__law_plus) (by decide +kernel)) (fun _ _ _ _ _ => (pg_name (i := 4) sc__law_plus.nd rfl (Or.inl rfl))) (fun _ _ _ _ _ => pts_one (pt_cmpR (op_neU hr.units) (pe_ix ix_seq (pe_dget (hu_of hr) (pv 3) (pv 4) (fun _ _ => rfl)) pe_int (fun _ _ => rfl)) pe_int (nomark _))) (fun _ _ _ _ _ => (pe_tupP (pa_cons (pv 4) (pa_cons (pe_dget (hu_of hr) (pv 3) (pv 4) (fun _ _ => rfl)) pa_nil))))) pa_nil))))
    (pss_one (ps_ret (pe_tupP (pa_cons (pe_callF F__law_add (hr.mono (by decide)) (passes_call (takes_of rfl rfl rfl rfl) (fun _ _ _ _ h => h)) (pa_cons (pe_ix ix_seq (pv 0) pe_int (fun _ _ => rfl)) (pa_cons (pe_tupP (pa_cons (pe_op op_mulU (pv 2) (pe_ix ix_seq (pe_ix ix_seq (pv 1) pe_int (fun _ _ => rfl)) pe_int (fun _ _ => rfl))) (pa_cons (pe_ix ix_seq (pe_ix ix_seq (pv 1) pe_int (fun _ _ => rfl)) pe_int (fun _ _ => rfl)) pa_nil))) pa_nil))) (pa_cons (pv 6) pa_nil))))))))
theorem body__law_faces (T : Txt K mg) (F__law_sum : Fo P w K mg base "_law_sum" ["_law_well_here", "_law_names"] [] 4 (sp__law_sum K)) (F__law_take : Fo P w K mg base "_law_take" ["_law_well_here", "_law_many"] [] 1 (sp__law_take K)) (F__law_word : Fo P w K mg base "_law_word" ["_law_well_here", "_law_taken"] [] 2 (sp__law_word K)) {f : Addr} {cdv : Value} {A : Around} {outer : List Env} {s : Shared} {H : Hp} {X : XK} (hr : Room 4 (A.deeper (PyProof.Rows.envOfC "_law_faces" (defScope s__law_faces) s.heap.objs.size f cdv))) :
    PSs (cxOf (L2.CX P w) P w K mg base N__law_faces "_law_faces" (defScope s__law_faces) f cdv A outer s H X) (defBody s__law_faces) (t__law_faces K X) :=
  (pss_cons (ps_set (i := 3) sc__law_faces.nd rfl (Or.inl rfl) (pe_lst pa_nil))
    (pss_cons (ps_for (passes_of rfl) rfl (pi_range1 rfl T.b_range (pa_cons (pv 2) pa_nil)) (pg_name (i := 4) sc__law_faces.nd rfl (Or.inl rfl))
    (pss_cons (ps_set (i := 5) sc__law_faces.nd rfl (Or.inl rfl) (pe_callF F__law_word (hr.mono (by decide)) (passes_call (takes_of rfl rfl rfl rfl) (fun _ _ _ _ h => h)) (pa_cons (pv 0) (pa_cons (pe_op op_addV (pe_lc (own := [("_law_face", 6)]) (g := (gName 6)) (tt := tYes) rfl sc__law_faces.nd  (pi_seq (pv 3)) (blkOk_by (N := N__law_faces) (sc := defScope s__law_faces) (by decide +kernel)) (fun _ _ _ _ _ => (pg_name (i := 6) sc__law_faces.nd rfl (Or.inl rfl))) (fun _ _ _ _ _ => pts_nil) (fun _ _ _ _ _ => (pe_ix ix_seq (pv 6) pe_int (fun _ _ => rfl)))) (pe_lst (pa_cons pe_str pa_nil))) pa_nil))))
    (pss_cons (ps_set (i := 7) sc__law_faces.nd rfl (Or.inr rfl) (pe_ix ix_seq pe_str (pe_callF F__law_take (hr.mono (by decide)) (passes_call (takes_of rfl rfl rfl rfl) (fun _ _ _ _ h => h)) (pa_cons (pv 0) (pa_cons pe_int pa_nil))) (fun _ _ => rfl)))
    (pss_cons (ps_set (i := 8) sc__law_faces.nd rfl (Or.inl rfl) (pe_op op_addV (pe_lst (pa_cons pe_non (pa_cons pe_non pa_nil))) (pe_lc (own := [("_law_face", 6)]) (g := (gName 6)) (tt := (tTest (tOp (qEq K) (tOp (rIx K) (tVar 6) (tC (.int 1))) (tVar 7)))) rfl sc__law_faces.nd  (pi_seq (pv 3)) (blkOk_by (N := N__law_faces) (sc := defScope s__law_faces) (by decide +kernel)) (fun _ _ _ _ _ => (pg_name (i := 6) sc__law_faces.nd rfl (Or.inl rfl))) (fun _ _ _ _ _ => pts_one (pt_cmpR (op_eqU hr.units) (pe_ix ix_seq (pv 6) pe_int (fun _ _ => rfl)) (pv 7) (nomark _))) (fun _ _ _ _ _ => (pe_ix ix_seq (pv 6) pe_int (fun _ _ => rfl))))))
    (pss_one (ps_expr (pe_bm PySem.F.plainAttrs_list PySem.F.slot_list_append PySem.F.type_list_append mt_append (pv 3) (pa_cons (pe_tupP (pa_cons (pv 5) (pa_cons (pv 7) (pa_cons (pe_ix ix_seq (pv 8) (pe_callF F__law_take (hr.mono (by decide)) (passes_call (takes_of rfl rfl rfl rfl) (fun _ _ _ _ h => h)) (pa_cons (pv 0) (pa_cons (pe_callB call_len rfl T.b_len (by decide +kernel) (pa_cons (pv 8) pa_nil)) pa_nil))) (fun _ _ => rfl)) (pa_cons (pe_callF F__law_sum (hr.mono (by decide)) (passes_call (takes_of rfl rfl rfl rfl) (fun _ _ _ _ h => h)) (pa_cons (pv 0) (pa_cons (pv 1) pa_nil))) pa_nil))))) pa_nil))))))))
    (pss_one (ps_ret (pv 3)))))
theorem body__law_placed (T : Txt K mg) (F__law_plus : Fo P w K mg base "_law_plus" ["_law_one", "_law_other", "_law_sign"] [] 4 (sp__law_plus K)) {f : Addr} {cdv : Value} {A : Around} {outer : List Env} {s : Shared} {H : Hp} {X : XK} (hr : Room 4 (A.deeper (PyProof.Rows.envOfC "_law_placed" (defScope s__law_placed) s.heap.objs.size f cdv))) :
    PSs (cxOf (L2.CX P w) P w K mg base N__law_placed "_law_placed" (defScope s__law_placed) f cdv A outer s H X) (defBody s__law_placed) (t__law_placed K X) :=
  (pss_cons (ps_set (i := 1) sc__law_placed.nd rfl (Or.inl rfl) pe_dnewK)
    (pss_cons (ps_set (i := 2) sc__law_placed.nd rfl (Or.inl rfl) (pe_lst pa_nil))
    (pss_cons (ps_for (passes_of rfl) rfl (pi_seq (pv 0)) (pg_tup rfl (pgs_cons (pg_name (i := 3) sc__law_placed.nd rfl (Or.inl rfl)) (pgs_cons (pg_name (i := 4) sc__law_placed.nd rfl (Or.inl rfl)) (pgs_cons (pg_name (i := 5) sc__law_placed.nd rfl (Or.inl rfl)) (pgs_cons (pg_name (i := 6) sc__law_placed.nd rfl (Or.inl rfl)) pgs_nil)))))
    (pss_cons (ps_set (i := 7) sc__law_placed.nd rfl (Or.inl rfl) (pv 6))
    (pss_cons (ps_if (pt_cmp (pc_notN (pv 5)))
    (pss_one (ps_set (i := 7) sc__law_placed.nd rfl (Or.inl rfl) (pe_callF F__law_plus (hr.mono (by decide)) (passes_call (takes_of rfl rfl rfl rfl) (fun _ _ _ _ h => h)) (pa_cons (pe_dget (hu_of hr) (pv 1) (pv 5) (fun _ _ => rfl)) (pa_cons (pv 6) (pa_cons pe_int pa_nil))))))
    pss_nil)
    (pss_cons (ps_dput (hu_of hr) (pv 1) (pv 3) (pv 7) rfl)
    (pss_one (ps_expr (pe_bm PySem.F.plainAttrs_list PySem.F.slot_list_append PySem.F.type_list_append mt_append (pv 2) (pa_cons (pe_tupP (pa_cons (pv 3) (pa_cons (pv 4) (pa_cons (pv 7) pa_nil)))) pa_nil))))))))
    (pss_one (ps_ret (pv 2))))))
theorem body__law_plain (m : Nat) (T : Txt K mg) (F__law_plain : Fo P w K mg base "_law_plain" ["_law_thing"] [] (1 + m) (sp__law_plain_r m K)) {f : Addr} {cdv : Value} {A : Around} {outer : List Env} {s : Shared} {H : Hp} {X : XK} (hr : Room (1 + m) (A.deeper (PyProof.Rows.envOfC "_law_plain" (defScope s__law_plain) s.heap.objs.size f cdv))) :
    PSs (cxOf (L2.CX P w) P w K mg base N__law_plain "_law_plain" (defScope s__law_plain) f cdv A outer s H X) (defBody s__law_plain) (t__law_plain m K X) :=
  (pss_cons (ps_if (pt_val (pe_callB call_isiA rfl T.b_isinstance (by decide +kernel) (pa_cons (pv 0) (pa_cons (pe_bltn rfl T.b_tuple (by decide +kernel) rfl) pa_nil))))
    (pss_one (ps_ret (pe_callB (cr_all rfl) rfl T.b_all (by decide +kernel) (pa_cons (pe_lc (own := [("_law_part", 1)]) (g := (gName 1)) (tt := tYes) rfl sc__law_plain.nd  (pi_seq (pv 0)) (blkOk_by (N := N__law_plain) (sc := defScope s__law_plain) (by decide +kernel)) (fun _ _ _ _ _ => (pg_name (i := 1) sc__law_plain.nd rfl (Or.inl rfl))) (fun _ _ _ _ _ => pts_nil) (fun _ _ _ _ _ => (pe_callF F__law_plain (hr.mono (by omega)) passL (pa_cons (pv 1) pa_nil)))) pa_nil))))
    pss_nil)
    (pss_one (ps_ret (pe_or (pe_callB call_isiA rfl T.b_isinstance (by decide +kernel) (pa_cons (pv 0) (pa_cons (pe_bltn rfl T.b_str (by decide +kernel) rfl) pa_nil))) (pe_one (pe_and (pe_callB call_isiA rfl T.b_isinstance (by decide +kernel) (pa_cons (pv 0) (pa_cons (pe_bltn rfl T.b_int (by decide +kernel) rfl) pa_nil))) (pe_one (pe_not (pe_callB call_isiA rfl T.b_isinstance (by decide +kernel) (pa_cons (pv 0) (pa_cons (pe_bltn rfl T.b_bool (by decide +kernel) rfl) pa_nil)))))))))))
theorem body__law_is_list (T : Txt K mg) (F__law_plain : Fo P w K mg base "_law_plain" ["_law_thing"] [] 25 (sp__law_plain K)) {f : Addr} {cdv : Value} {A : Around} {outer : List Env} {s : Shared} {H : Hp} {X : XK} (hr : Room 25 (A.deeper (PyProof.Rows.envOfC "_law_is_list" (defScope s__law_is_list) s.heap.objs.size f cdv))) :
    PSs (cxOf (L2.CX P w) P w K mg base N__law_is_list "_law_is_list" (defScope s__law_is_list) f cdv A outer s H X) (defBody s__law_is_list) (t__law_is_list K X) :=
  (pss_one (ps_ret (pe_and (pe_callB call_isiA rfl T.b_isinstance (by decide +kernel) (pa_cons (pv 0) (pa_cons (pe_bltn rfl T.b_list (by decide +kernel) rfl) pa_nil))) (pe_and (pe_cmpR (op_eqU hr.units) (pv 0) (pv 1) (nomark _)) (pe_one (pe_callB (cr_all rfl) rfl T.b_all (by decide +kernel) (pa_cons (pe_lc (own := [("_law_part", 2)]) (g := (gName 2)) (tt := tYes) rfl sc__law_is_list.nd  (pi_seq (pv 0)) (blkOk_by (N := N__law_is_list) (sc := defScope s__law_is_list) (by decide +kernel)) (fun _ _ _ _ _ => (pg_name (i := 2) sc__law_is_list.nd rfl (Or.inl rfl))) (fun _ _ _ _ _ => pts_nil) (fun _ _ _ _ _ => (pe_callF F__law_plain (hr.mono (by decide)) passL (pa_cons (pv 2) pa_nil)))) pa_nil)))))))
theorem body__law_fields (T : Txt K mg) (F_Stock_sizes : FoM P w K mg base (He.ga K "Stock") "sizes" ["self"] [] 1 (sp_Stock_sizes K)) {f : Addr} {cdv : Value} {A : Around} {outer : List Env} {s : Shared} {H : Hp} {X : XK} (hr : Room 1 (A.deeper (PyProof.Rows.envOfC "_law_fields" (defScope s__law_fields) s.heap.objs.size f cdv))) :
    PSs (cxOf (L2.CX P w) P w K mg base N__law_fields "_law_fields" (defScope s__law_fields) f cdv A outer s H X) (defBody s__law_fields) (t__law_fields K X) :=
  (pss_one (ps_ret (pe_lc (own := [("_law_size", 1)]) (g := (gName 1)) (tt := tYes) rfl sc__law_fields.nd  (pi_seq (pe_methF0 (pv 0) F_Stock_sizes (hr.mono (by decide)) (takes_of rfl rfl rfl rfl))) (blkOk_by (N := N__law_fields) (sc := defScope s__law_fields) (by decide +kernel)) (fun _ _ _ _ _ => (pg_name (i := 1) sc__law_fields.nd rfl (Or.inl rfl))) (fun _ _ _ _ _ => pts_nil) (fun _ _ _ _ _ => (pe_tupP (pa_cons (pe_fld (pv 1) rfl) (pa_cons (pe_fld (pv 1) rfl) (pa_cons (pe_fld (pv 1) rfl) (pa_cons (pe_fld (pv 1) rfl) pa_nil)))))))))
theorem body_law (T : Txt K mg) (F_Part___init__ : FoI P w K mg base "Part" (He.ga K "Part") ["self", "name", "sizes"] [] 5 (sp_Part___init__ K)) (F_Part_faces : FoM P w K mg base (He.ga K "Part") "faces" ["self"] [] 1 (sp_Part_faces K)) (F_Part_put_face : FoM P w K mg base (He.ga K "Part") "put_face" ["self", "name", "axis", "start", "add"] [] 6 (sp_Part_put_face K)) (F_Part_stock : FoM P w K mg base (He.ga K "Part") "stock" ["self"] [] 1 (sp_Part_stock K)) (F_Size___init__ : FoI P w K mg base "Size" (He.ga K "Size") ["self", "name", "least", "most", "shifts"] [] 2 (sp_Size___init__ K)) (F_Stock_names : FoM P w K mg base (He.ga K "Stock") "names" ["self"] [] 2 (sp_Stock_names K)) (F__law_faces : Fo P w K mg base "_law_faces" ["_law_well_here", "_law_names", "_law_many"] [] 5 (sp__law_faces K)) (F__law_fields : Fo P w K mg base "_law_fields" ["_law_stock"] [] 2 (sp__law_fields K)) (F__law_is_list : Fo P w K mg base "_law_is_list" ["_law_found", "_law_due"] [] 26 (sp__law_is_list K)) (F__law_placed : Fo P w K mg base "_law_placed" ["_law_faces_here"] [] 5 (sp__law_placed K)) (F__law_sizes : Fo P w K mg base "_law_sizes" ["_law_well_here", "_law_most"] [] 4 (sp__law_sizes K)) (F__law_take : Fo P w K mg base "_law_take" ["_law_well_here", "_law_many"] [] 1 (sp__law_take K)) (F__law_well : Fo P w K mg base "_law_well" ["_law_script", "_law_k"] [] 1 (sp__law_well K)) (F__law_word : Fo P w K mg base "_law_word" ["_law_well_here", "_law_taken"] [] 2 (sp__law_word K)) {f : Addr} {cdv : Value} {A : Around} {outer : List Env} {s : Shared} {H : Hp} {X : XK} (hr : Room 26 (A.deeper (PyProof.Rows.envOfC "law" (defScope s_law) s.heap.objs.size f cdv))) :
    PSs (cxOf (L2.CX P w) P w K mg base N_law "law" (defScope s_law) f cdv A outer s H X) (defBody s_law) (t_law K X) :=
  (pss_cons (ps_for (passes_of rfl) rfl (pi_range1 rfl T.b_range (pa_cons (pe_callB (call_max2 rfl) rfl T.b_max (by decide +kernel) (pa_cons pe_int (pa_cons (pe_callB (call_min2 rfl) rfl T.b_min (by decide +kernel) (pa_cons (pe_callB call_len rfl T.b_len (by decide +kernel) (pa_cons (pv 0) pa_nil)) (pa_cons pe_int pa_nil))) pa_nil))) pa_nil)) (pg_name (i := 1) sc_law.nd rfl (Or.inl rfl))
    (pss_cons (ps_set (i := 2) sc_law.nd rfl (Or.inl rfl) (pe_callF F__law_well (hr.mono (by decide)) (passes_call (takes_of rfl rfl rfl rfl) (fun _ _ _ _ h => h)) (pa_cons (pv 0) (pa_cons (pv 1) pa_nil))))
    (pss_cons (ps_set (i := 3) sc_law.nd rfl (Or.inl rfl) (pe_callF F__law_word (hr.mono (by decide)) (passes_call (takes_of rfl rfl rfl rfl) (fun _ _ _ _ h => h)) (pa_cons (pv 2) (pa_cons (pe_lst pa_nil) pa_nil))))
    (pss_cons (ps_asg (pe_callF F__law_sizes (hr.mono (by decide)) (passes_call (takes_of rfl rfl rfl rfl) (fun _ _ _ _ h => h)) (pa_cons (pv 2) (pa_cons pe_int pa_nil))) (pg_tup rfl (pgs_cons (pg_name (i := 4) sc_law.nd rfl (Or.inl rfl)) (pgs_cons (pg_name (i := 5) sc_law.nd rfl (Or.inl rfl)) pgs_nil))))
    (pss_cons (ps_setLc (i := 6) (own := [("_law_word_here", 7), ("_law_least", 8), ("_law_most", 9), ("_law_shifts", 10)]) (g := (gTup K 4 (gCons (gName 7) (gCons (gName 8) (gCons (gName 9) (gCons (gName 10) gNil)))))) (tt := tYes) rfl sc_law.nd rfl rfl (sw_true rfl rfl rfl (by decide +kernel)) (pi_seq (pv 4)) (blkOk_by (N := N_law) (sc := defScope s_law) (by decide +kernel)) (fun _ _ _ _ _ => (pg_tup rfl (pgs_cons (pg_name (i := 7) sc_law.nd rfl (Or.inl rfl)) (pgs_cons (pg_name (i := 8) sc_law.nd rfl (Or.inl rfl)) (pgs_cons (pg_name (i := 9) sc_law.nd rfl (Or.inl rfl)) (pgs_cons (pg_name (i := 10) sc_law.nd rfl (Or.inl rfl)) pgs_nil)))))) (fun _ _ _ _ _ => pts_nil) (fun _ _ _ _ _ => (pe_makeF F_Size___init__ (hr.mono (by decide)) takes0 (pa_cons (pv 7) (pa_cons (pv 8) (pa_cons (pv 9) (pa_cons (pv 10) pa_nil)))))))
    (pss_cons (ps_set (i := 11) sc_law.nd rfl (Or.inl rfl) (pe_makeF F_Part___init__ (hr.mono (by decide)) (takes_of rfl rfl rfl rfl) (pa_cons (pv 3) (pa_cons (pe_ix ix_seq (pe_lst (pa_cons (pv 6) (pa_cons (pe_callTy call_tupP rfl T.b_tuple (by decide +kernel) (pa_cons (pv 6) pa_nil)) pa_nil))) (pe_callF F__law_take (hr.mono (by decide)) (passes_call (takes_of rfl rfl rfl rfl) (fun _ _ _ _ h => h)) (pa_cons (pv 2) (pa_cons pe_int pa_nil))) (fun _ _ => rfl)) pa_nil))))
    (pss_cons (ps_expr (pe_bm0 PySem.F.plainAttrs_list PySem.F.slot_list_clear PySem.F.type_list_clear mt_clear (pv 6)))
    (pss_cons (ps_if (PW.pt (pw_or (pt_cmpR (op_neU hr.units) (pe_fld (pv 11) rfl) (pv 3) (nomark _)) (pw_or (pt_not (pt_val (pe_callF F__law_is_list (hr.mono (by decide)) (passes_call (takes_of rfl rfl rfl rfl) (fun _ _ _ _ h => h)) (pa_cons (pe_methF0 (pe_methF0 (pv 11) F_Part_stock (hr.mono (by decide)) (takes_of rfl rfl rfl rfl)) F_Stock_names (hr.mono (by decide)) (takes_of rfl rfl rfl rfl)) (pa_cons (pv 5) pa_nil))))) (pw_or1 (pt_cmpR (op_neU hr.units) (pe_callF F__law_fields (hr.mono (by decide)) (passes_call (takes_of rfl rfl rfl rfl) (fun _ _ _ _ h => h)) (pa_cons (pe_methF0 (pv 11) F_Part_stock (hr.mono (by decide)) (takes_of rfl rfl rfl rfl)) pa_nil)) (pv 4) (nomark _))))))
    (pss_one (ps_ret pe_bl))
    pss_nil)
    (pss_cons (ps_set (i := 12) sc_law.nd rfl (Or.inl rfl) (pe_callF F__law_faces (hr.mono (by decide)) (passes_call (takes_of rfl rfl rfl rfl) (fun _ _ _ _ h => h)) (pa_cons (pv 2) (pa_cons (pv 5) (pa_cons (pe_op op_addV pe_int (pe_callF F__law_take (hr.mono (by decide)) (passes_call (takes_of rfl rfl rfl rfl) (fun _ _ _ _ h => h)) (pa_cons (pv 2) (pa_cons pe_int pa_nil)))) pa_nil)))))
    (pss_cons (ps_set (i := 13) sc_law.nd rfl (Or.inl rfl) (pe_callF F__law_placed (hr.mono (by decide)) (passes_call (takes_of rfl rfl rfl rfl) (fun _ _ _ _ h => h)) (pa_cons (pv 12) pa_nil)))
    (pss_cons (ps_for (passes_of rfl) rfl (pi_range1 rfl T.b_range (pa_cons (pe_callB call_len rfl T.b_len (by decide +kernel) (pa_cons (pv 12) pa_nil)) pa_nil)) (pg_name (i := 14) sc_law.nd rfl (Or.inl rfl))
    (pss_cons (ps_asg (pe_ix ix_seq (pv 12) (pv 14) (fun _ _ => rfl)) (pg_tup rfl (pgs_cons (pg_name (i := 15) sc_law.nd rfl (Or.inl rfl)) (pgs_cons (pg_name (i := 16) sc_law.nd rfl (Or.inl rfl)) (pgs_cons (pg_name (i := 17) sc_law.nd rfl (Or.inl rfl)) (pgs_cons (pg_name (i := 18) sc_law.nd rfl (Or.inl rfl)) pgs_nil))))))
    (pss_cons (ps_if (pt_cmp (pc_notN (pe_methF (pv 11) F_Part_put_face (hr.mono (by decide)) (takes_of rfl rfl rfl rfl) (pa_cons (pv 15) (pa_cons (pv 16) (pa_cons (pv 17) (pa_cons (pv 18) pa_nil)))))))
    (pss_one (ps_ret pe_bl))
    pss_nil)
    (pss_cons (ps_set (i := 19) sc_law.nd rfl (Or.inl rfl) (pe_methF0 (pv 11) F_Part_faces (hr.mono (by decide)) (takes_of rfl rfl rfl rfl)))
    (pss_cons (ps_if (pt_not (pt_val (pe_callF F__law_is_list (hr.mono (by decide)) (passes_call (takes_of rfl rfl rfl rfl) (fun _ _ _ _ h => h)) (pa_cons (pv 19) (pa_cons (pe_slice sl_list (pv 13) po_none (po_some (pe_op op_addV (pv 14) pe_int))) pa_nil)))))
    (pss_one (ps_ret pe_bl))
    pss_nil)
    (pss_one (ps_expr (pe_bm0 PySem.F.plainAttrs_list PySem.F.slot_list_clear PySem.F.type_list_clear mt_clear (pv 19)))))))))
    (pss_one (ps_if (PW.pt (pw_or (pt_cmpR (op_neU hr.units) (pe_methF0 (pv 11) F_Part_faces (hr.mono (by decide)) (takes_of rfl rfl rfl rfl)) (pv 13) (nomark _)) (pw_or1 (pt_cmpR (op_neU hr.units) (pe_callF F__law_fields (hr.mono (by decide)) (passes_call (takes_of rfl rfl rfl rfl) (fun _ _ _ _ h => h)) (pa_cons (pe_methF0 (pv 11) F_Part_stock (hr.mono (by decide)) (takes_of rfl rfl rfl rfl)) pa_nil)) (pv 4) (nomark _)))))
    (pss_one (ps_ret pe_bl))
    pss_nil)))))))))))))
    (pss_one (ps_ret pe_bl)))
end
end N14
set_option Elab.async false
set_option linter.all false
set_option maxRecDepth 100000
set_option synthInstance.maxSize 4000
set_option maxHeartbeats 4000000
open PySem PySem.Spec L2 TL
local macro_rules | `(tactic| walk_at "sle") => `(tactic| repeat' first | exact SLe.nil | refine SLe.keep ?_ | refine SLe.drop ?_)
local macro_rules | `(tactic| walk_at "sub") => `(tactic| repeat' first | exact List.Sublist.refl _ | refine List.Sublist.cons₂ _ ?_ | refine List.Sublist.cons _ ?_)
local macro_rules | `(tactic| walk_at "dd") => `(tactic| try dsimp only [List.set, List.eraseIdx])
local macro_rules | `(tactic| walk_at "cond") => `(tactic| (show SLe _ _; repeat' first | exact SLe.nil | refine SLe.keep ?_ | refine SLe.drop ?_))
namespace N14
section
variable {K : PySem.W.Frag} {mg : Str → Option Value} {D0 : Own} {F0 : Hp} {E : Ends} {X : XK}
theorem walk_is_whole (T : Txt K mg) {vthing : Int} (hnx : ∀ (F : Hp) (K : PySem.W.Frag) G D1, GoV E.rt F (DN K) D1 → Go E.nx F G D1) (hP : (w_is_whole K X E.rt D0).W F0 (m_is_whole vthing)) :
    Go (t_is_whole K X E) F0 [some ((tD K eI) vthing)] D0 := by
  unfold m_is_whole at hP
  exact go_retC (w := (w_is_whole K X E.rt D0)) (Dd := fun _ : Unit => D0) (s := ()) (fun v _ => v) (evc_andV (evc_isiG (n := "int") (own := "int") (b := true) (evc_var (R := (tD K eI)) (vthing) rfl) (ty_d fun _ => rfl) (by decide +kernel)) fun _ => (evc_notV (evc_isiG (n := "bool") (own := "int") (b := false) (evc_var (R := (tD K eI)) (vthing) rfl) (ty_d fun _ => rfl) (by decide +kernel)))) hP (fun F v s h => (show GoV _ _ _ _ from h).drop (by walk_at "sub"))
theorem pure_is_whole (T : Txt K mg) (vs : List V) (H : Hp) (Q : VK) (X : XK) (h : sp_is_whole K vs H Q X) : t_is_whole K X { nx := fun _ H' => Q .non H', rt := Q } (L2.start N_is_whole vs) H :=
  pure_ofPF (fun x F D E hrt hnx hP => by
    subst hrt
    exact walk_is_whole T hnx hP) h
theorem len_is_whole (K : PySem.W.Frag) : ∀ vs H Q E, sp_is_whole K vs H Q E → vs.length = 1 := spP_len fun _ => rfl
theorem walk_common (T : Txt K mg) {vone : Int} {vother : Int} (hnx : ∀ (F : Hp) (K : PySem.W.Frag) G D1, GoV E.rt F (DN K) D1 → Go E.nx F G D1) (hP : (w_common K X E.rt D0).W F0 (m_common vone vother)) :
    Go (t_common K X E) F0 [some ((tD K eI) vone), some ((tD K eI) vother)] D0 := by
  unfold m_common at hP
  refine go_seq (go_whileC (w := (w_common K X E.rt D0)) (σt := (Int × Int)) (Mt := fun s1 kk => kk (!decide (s1.2 = (0 : Int))) ()) (mb := m_common_b2) (k := m_common_k1) (fun s1 => [some ((tD K eI) s1.1), some ((tD K eI) s1.2)]) (fun s1 => D0) (vone, vother) Res.fuel (fun s1 => (evtc_test (evc_ne enc_I (evc_var (R := (tD K eI)) (s1.2) rfl) fun _ => evc_int))) hP (by walk_at "sle") (by walk_at "sub") ?_ ?_)
  · intro F3 t3 s1 hP
    unfold m_common_k1 at hP
    walk_at "dd"
    exact go_retC (w := (w_common K X E.rt D0)) (Dd := fun _ : Unit => D0) (s := ()) (fun v _ => v) (evc_abs (evc_var (R := (tD K eI)) (s1.1) rfl)) hP (fun F v s h => (show GoV _ _ _ _ from h).drop (by walk_at "sub"))
  · intro hB3 F3 t3 s1 n2 Nx hN3 hP
    unfold m_common_b2 at hP
    walk_at "dd"
    refine go_parC (w := (w_common K X E.rt D0)) (evac_cons (evc_var (R := (tD K eI)) (s1.2) rfl) fun _ => (evac_cons (evc_mod (evc_var (R := (tD K eI)) (s1.1) rfl) fun _ => (evc_var (R := (tD K eI)) (s1.2) rfl)) fun _ => evac_nil)) hP fun x4 hP => ?_
    walk_at "dd"
    exact (hN3 _ (Same.refl _) (x4.1, x4.2) hP).weak (by walk_at "sle") (by walk_at "sub")
theorem pure_common (T : Txt K mg) (vs : List V) (H : Hp) (Q : VK) (X : XK) (h : sp_common K vs H Q X) : t_common K X { nx := fun _ H' => Q .non H', rt := Q } (L2.start N_common vs) H :=
  pure_ofPF (fun x F D E hrt hnx hP => by
    subst hrt
    exact walk_common T hnx hP) h
theorem len_common (K : PySem.W.Frag) : ∀ vs H Q E, sp_common K vs H Q E → vs.length = 2 := spP_len fun _ => rfl
theorem walk_number_of (T : Txt K mg) {vtop : Int} {vbottom : Int} (hnx : ∀ (F : Hp) (K : PySem.W.Frag) G D1, GoV E.rt F (DN K) D1 → Go E.nx F G D1) (hP : (w_number_of K X E.rt D0).W F0 (m_number_of vtop vbottom)) :
    Go (t_number_of K X E) F0 [some ((tD K eI) vtop), some ((tD K eI) vbottom), none] D0 := by
  unfold m_number_of at hP
  refine go_seq (go_ifC (w := (w_number_of K X E.rt D0)) (evtc_orM (evtc_not (evtc_B (evc_callP (fun _ _ _ _ h => h) (evac_cons (evc_var (R := (tD K eI)) (vtop) rfl) fun _ => evac_nil) (fun _ => by walk_at "sub")))) fun _ => (evtc_or (evtc_not (evtc_B (evc_callP (fun _ _ _ _ h => h) (evac_cons (evc_var (R := (tD K eI)) (vbottom) rfl) fun _ => evac_nil) (fun _ => by walk_at "sub")))) fun _ => (evtc_test (evc_eq enc_I (evc_var (R := (tD K eI)) (vbottom) rfl) fun _ => evc_int)))) hP ?_ ?_)
  · intro hP
    walk_at "dd"
    exact go_raiseC (w := (w_number_of K X E.rt D0)) rfl hP (by walk_at "sub")
  · intro hP
    walk_at "dd"
    refine go_next ?_
    walk_at "dd"
    refine go_seq (go_setC (w := (w_number_of K X E.rt D0)) (evc_callP (fun _ _ _ _ h => h) (evac_cons (evc_var (R := (tD K eI)) (vtop) rfl) fun _ => (evac_cons (evc_var (R := (tD K eI)) (vbottom) rfl) fun _ => evac_nil)) (fun _ => by walk_at "sub")) hP fun x1 hP => ?_)
    walk_at "dd"
    refine go_seq (go_join (w := (w_number_of K X E.rt D0)) (m_number_of_k1 vtop vbottom) (fun s2 => [some ((tD K eI) vtop), some ((tD K eI) vbottom), some ((tD K eI) s2)]) (fun s2 => D0) ?_ ?_)
    · intro F3 t3 s2 hP
      unfold m_number_of_k1 at hP
      walk_at "dd"
      exact go_retC (w := (w_number_of K X E.rt D0)) (Dd := fun _ : Unit => D0) (s := ()) (fun v _ => v) (evc_mkQP (evac_cons (evc_div (evc_var (R := (tD K eI)) (vtop) rfl) fun _ => (evc_var (R := (tD K eI)) (s2) rfl)) fun _ => (evac_cons (evc_div (evc_var (R := (tD K eI)) (vbottom) rfl) fun _ => (evc_var (R := (tD K eI)) (s2) rfl)) fun _ => evac_nil))) hP (fun F v s h => (show GoV _ _ _ _ from h).drop (by walk_at "sub"))
    · intro hk3
      walk_at "dd"
      refine go_ifC (w := (w_number_of K X E.rt D0)) (evtc_test (evc_lt (evc_var (R := (tD K eI)) (vbottom) rfl) fun _ => evc_int)) hP ?_ ?_
      · intro hP
        walk_at "dd"
        refine go_setC (w := (w_number_of K X E.rt D0)) (evc_sub evc_int fun _ => (evc_var (R := (tD K eI)) (x1) rfl)) hP fun x7 hP => ?_
        walk_at "dd"
        exact ((hk3 _ (Same.refl _) x7) hP).weak (by walk_at "sle") (by walk_at "sub")
      · intro hP
        walk_at "dd"
        refine go_next ?_
        walk_at "dd"
        exact ((hk3 _ (Same.refl _) x1) hP).weak (by walk_at "sle") (by walk_at "sub")
theorem pure_number_of (T : Txt K mg) (vs : List V) (H : Hp) (Q : VK) (X : XK) (h : sp_number_of K vs H Q X) : t_number_of K X { nx := fun _ H' => Q .non H', rt := Q } (L2.start N_number_of vs) H :=
  pure_ofPF (fun x F D E hrt hnx hP => by
    subst hrt
    exact walk_number_of T hnx hP) h
theorem len_number_of (K : PySem.W.Frag) : ∀ vs H Q E, sp_number_of K vs H Q E → vs.length = 2 := spP_len fun _ => rfl
theorem walk_plus (T : Txt K mg) {va : Rat} {vb : Rat} (hnx : ∀ (F : Hp) (K : PySem.W.Frag) G D1, GoV E.rt F (DN K) D1 → Go E.nx F G D1) (hP : (w_plus K X E.rt D0).W F0 (m_plus va vb)) :
    Go (t_plus K X E) F0 [some ((tD K eQ) va), some ((tD K eQ) vb)] D0 := by
  unfold m_plus at hP
  exact go_retC (w := (w_plus K X E.rt D0)) (Dd := fun _ : Unit => D0) (s := ()) (fun v _ => v) (evc_callP (fun _ _ _ _ h => h) (evac_cons (evc_add (evc_mul (evc_q0 (evc_var (R := (tD K eQ)) (va) rfl)) fun _ => (evc_q1 (evc_var (R := (tD K eQ)) (vb) rfl))) fun _ => (evc_mul (evc_q0 (evc_var (R := (tD K eQ)) (vb) rfl)) fun _ => (evc_q1 (evc_var (R := (tD K eQ)) (va) rfl)))) fun _ => (evac_cons (evc_mul (evc_q1 (evc_var (R := (tD K eQ)) (va) rfl)) fun _ => (evc_q1 (evc_var (R := (tD K eQ)) (vb) rfl))) fun _ => evac_nil)) (fun _ => by walk_at "sub")) hP (fun F v s h => (show GoV _ _ _ _ from h).drop (by walk_at "sub"))
theorem pure_plus (T : Txt K mg) (vs : List V) (H : Hp) (Q : VK) (X : XK) (h : sp_plus K vs H Q X) : t_plus K X { nx := fun _ H' => Q .non H', rt := Q } (L2.start N_plus vs) H :=
  pure_ofPF (fun x F D E hrt hnx hP => by
    subst hrt
    exact walk_plus T hnx hP) h
theorem len_plus (K : PySem.W.Frag) : ∀ vs H Q E, sp_plus K vs H Q E → vs.length = 2 := spP_len fun _ => rfl
theorem walk_is_less (T : Txt K mg) {va : Rat} {vb : Rat} (hnx : ∀ (F : Hp) (K : PySem.W.Frag) G D1, GoV E.rt F (DN K) D1 → Go E.nx F G D1) (hP : (w_is_less K X E.rt D0).W F0 (m_is_less va vb)) :
    Go (t_is_less K X E) F0 [some ((tD K eQ) va), some ((tD K eQ) vb)] D0 := by
  unfold m_is_less at hP
  exact go_retC (w := (w_is_less K X E.rt D0)) (Dd := fun _ : Unit => D0) (s := ()) (fun v _ => v) (evc_lt (evc_mul (evc_q0 (evc_var (R := (tD K eQ)) (va) rfl)) fun _ => (evc_q1 (evc_var (R := (tD K eQ)) (vb) rfl))) fun _ => (evc_mul (evc_q0 (evc_var (R := (tD K eQ)) (vb) rfl)) fun _ => (evc_q1 (evc_var (R := (tD K eQ)) (va) rfl)))) hP (fun F v s h => (show GoV _ _ _ _ from h).drop (by walk_at "sub"))
theorem pure_is_less (T : Txt K mg) (vs : List V) (H : Hp) (Q : VK) (X : XK) (h : sp_is_less K vs H Q X) : t_is_less K X { nx := fun _ H' => Q .non H', rt := Q } (L2.start N_is_less vs) H :=
  pure_ofPF (fun x F D E hrt hnx hP => by
    subst hrt
    exact walk_is_less T hnx hP) h
theorem len_is_less (K : PySem.W.Frag) : ∀ vs H Q E, sp_is_less K vs H Q E → vs.length = 2 := spP_len fun _ => rfl
theorem walk_sum_of (T : Txt K mg) {vnumber : Rat} {vpairs : (List (Tx × Rat))} (hnx : ∀ (F : Hp) (K : PySem.W.Frag) G D1, GoV E.rt F (DN K) D1 → Go E.nx F G D1) (hP : (w_sum_of K X E.rt D0).W F0 (m_sum_of vnumber vpairs)) :
    Go (t_sum_of K X E) F0 [some ((tD K eQ) vnumber), some ((VP K (T2 K (tD K eS) (tD K eQ))) vpairs), none, none, none] D0 := by
  unfold m_sum_of at hP
  refine go_seq (go_setNC (w := (w_sum_of K X E.rt D0)) (evnc_dnewT (k := kS) (Rv := (tD K eQ))) hP fun x1 p2 hP => ?_)
  walk_at "dd"
  refine go_seq (go_forC (w := (w_sum_of K X E.rt D0)) (σt := (List (Tx × Rat))) (evItc_p (evc_var (R := (VP K (T2 K (tD K eS) (tD K eQ)))) (vpairs) rfl)) (fun s3 => [some ((tD K eQ) vnumber), some ((VP K (T2 K (tD K eS) (tD K eQ))) vpairs), some (Is (.ref p2)), none, none]) (fun s3 => (p2, (OXT kS (tD K eQ)) (s3)) :: D0) x1 (fun s3 x4 => [some ((tD K eQ) vnumber), some ((VP K (T2 K (tD K eS) (tD K eQ))) vpairs), some (Is (.ref p2)), some ((tD K eS) x4.1), some ((tD K eQ) x4.2)]) hP (by walk_at "sle") (by walk_at "sub") (fun _ => trivial) (fun _ _ => (evG_tupT (evGsT_cons evG_name (evGsT_cons evG_name evGsT_nil)) rfl)) ?_ ?_)
  · intro F6 t6 s3 hP
    unfold m_sum_of_k1 at hP
    walk_at "dd"
    refine go_frzDT (j := 0) (i := 2) (k := kS) (Rv := (tD K eQ)) rfl rfl ?_
    walk_at "dd"
    exact go_retC (w := (w_sum_of K X E.rt D0)) (Dd := fun _ : Unit => D0) (s := ()) (fun v _ => v) (evc_tupT (Rs := fun x : (Rat × (List (Tx × Rat))) => [(tD K eQ) x.1, (VP K (T2 K (tD K eS) (tD K eQ))) x.2]) (n := 2) (g := fun (t : Rat × (List (Tx × Rat)) × Unit) => (t.1, t.2.1)) (evac_cons (R := (tD K eQ)) (Rs := fun (t : (List (Tx × Rat)) × Unit) => [(VP K (T2 K (tD K eS) (tD K eQ))) t.1]) (evc_var (R := (tD K eQ)) (vnumber) rfl) fun _ => (evac_cons (R := (VP K (T2 K (tD K eS) (tD K eQ)))) (Rs := fun (t : Unit) => []) (evc_tupOf (f := id) (evc_frzLT (evnc_lc (G1 := (fun x7 => [some ((tD K eQ) vnumber), some ((VP K (T2 K (tD K eS) (tD K eQ))) vpairs), some ((DT kS (tD K eQ)) s3), some ((tD K eS) x7), none])) (evItc_l (evc_sortDT dw_Z (evc_var (R := (DT kS (tD K eQ))) (s3) rfl))) (fun _ => (evW_name (by decide))) (fun _ _ => trivial) (fun x7 _ cq => (evtc_test (evc_ne enc_Q (evc_dgetT dw_Z kvS (evc_var (R := (DT kS (tD K eQ))) (s3) rfl) fun _ => (evc_var (R := (tD K eS)) (x7) rfl)) fun _ => (evc_conT (R := (tD K eQ)) (0 : Rat) T.c_NOUGHT (c_Q _))))) (fun x7 _ cq => (evc_tupT (Rs := fun x : (Tx × Rat) => [(tD K eS) x.1, (tD K eQ) x.2]) (n := 2) (g := fun (t : Tx × Rat × Unit) => (t.1, t.2.1)) (evac_cons (R := (tD K eS)) (Rs := fun (t : Rat × Unit) => [(tD K eQ) t.1]) (evc_var (R := (tD K eS)) (x7) rfl) fun _ => (evac_cons (R := (tD K eQ)) (Rs := fun (t : Unit) => []) (evc_dgetT dw_Z kvS (evc_var (R := (DT kS (tD K eQ))) (s3) rfl) fun _ => (evc_var (R := (tD K eS)) (x7) rfl)) fun _ => evac_nil)) (fun _ => rfl))))) tv_l) fun _ => evac_nil)) (fun _ => rfl)) hP (fun F v s h => (show GoV _ _ _ _ from h).drop (by walk_at "sub"))
  · intro hB6 F6 t6 x4 s3 n5 Nx hN6 hP
    unfold m_sum_of_b2 at hP
    walk_at "dd"
    refine go_dputT (w := (w_sum_of K X E.rt D0)) (Dd := fun _ : Unit => (p2, (OXT kS (tD K eQ)) (s3)) :: D0) (s := ()) (k := kS) (Rv := (tD K eQ)) (m := s3) (hkv := kvS) (n := 2) rfl (evc_callP (fun _ _ _ _ h => h) (evac_cons (evc_dgetDT (dw_O (k := kS) (Rv := (tD K eQ)) (m := s3) (at_n 0 fun _ => rfl)) kvS (evc_var (R := fun _ : Unit => Is (.ref p2)) () rfl) (fun _ => (evc_var (R := (tD K eS)) (x4.1) rfl)) fun _ => (evc_conT (R := (tD K eQ)) (0 : Rat) T.c_NOUGHT (c_Q _))) fun _ => (evac_cons (evc_var (R := (tD K eQ)) (x4.2) rfl) fun _ => evac_nil)) (fun _ => by walk_at "sub")) (fun _ => (evc_var (R := (tD K eS)) (x4.1) rfl)) (at_n 0 fun _ => rfl) hP fun x14 hP => ?_
    walk_at "dd"
    exact (hN6 _ (Same.refl _) x14.1 hP).weak (by walk_at "sle") (by walk_at "sub")
theorem pure_sum_of (T : Txt K mg) (vs : List V) (H : Hp) (Q : VK) (X : XK) (h : sp_sum_of K vs H Q X) : t_sum_of K X { nx := fun _ H' => Q .non H', rt := Q } (L2.start N_sum_of vs) H :=
  pure_ofPF (fun x F D E hrt hnx hP => by
    subst hrt
    exact walk_sum_of T hnx hP) h
theorem len_sum_of (K : PySem.W.Frag) : ∀ vs H Q E, sp_sum_of K vs H Q E → vs.length = 2 := spP_len fun _ => rfl
theorem walk_sum_plus (T : Txt K mg) {va : (Rat × (List (Tx × Rat)))} {vb : (Rat × (List (Tx × Rat)))} (hnx : ∀ (F : Hp) (K : PySem.W.Frag) G D1, GoV E.rt F (DN K) D1 → Go E.nx F G D1) (hP : (w_sum_plus K X E.rt D0).W F0 (m_sum_plus va vb)) :
    Go (t_sum_plus K X E) F0 [some ((T2 K (tD K eQ) (VP K (T2 K (tD K eS) (tD K eQ)))) va), some ((T2 K (tD K eQ) (VP K (T2 K (tD K eS) (tD K eQ)))) vb)] D0 := by
  unfold m_sum_plus at hP
  exact go_retC (w := (w_sum_plus K X E.rt D0)) (Dd := fun _ : Unit => D0) (s := ()) (fun v _ => v) (evc_callP (fun _ _ _ _ h => h) (evac_cons (evc_callP (fun _ _ _ _ h => h) (evac_cons (evc_ixT (i := 0) (Rs := fun x : (Rat × (List (Tx × Rat))) => [(tD K eQ) x.1, (VP K (T2 K (tD K eS) (tD K eQ))) x.2]) (R' := (tD K eQ)) (f := fun x => x.1) (evc_var (R := (T2 K (tD K eQ) (VP K (T2 K (tD K eS) (tD K eQ))))) (va) rfl) fun _ => rfl) fun _ => (evac_cons (evc_ixT (i := 0) (Rs := fun x : (Rat × (List (Tx × Rat))) => [(tD K eQ) x.1, (VP K (T2 K (tD K eS) (tD K eQ))) x.2]) (R' := (tD K eQ)) (f := fun x => x.1) (evc_var (R := (T2 K (tD K eQ) (VP K (T2 K (tD K eS) (tD K eQ))))) (vb) rfl) fun _ => rfl) fun _ => evac_nil)) (fun _ => by walk_at "sub")) fun _ => (evac_cons (evc_catP (evc_ixT (i := 1) (Rs := fun x : (Rat × (List (Tx × Rat))) => [(tD K eQ) x.1, (VP K (T2 K (tD K eS) (tD K eQ))) x.2]) (R' := (VP K (T2 K (tD K eS) (tD K eQ)))) (f := fun x => x.2) (evc_var (R := (T2 K (tD K eQ) (VP K (T2 K (tD K eS) (tD K eQ))))) (va) rfl) fun _ => rfl) fun _ => (evc_ixT (i := 1) (Rs := fun x : (Rat × (List (Tx × Rat))) => [(tD K eQ) x.1, (VP K (T2 K (tD K eS) (tD K eQ))) x.2]) (R' := (VP K (T2 K (tD K eS) (tD K eQ)))) (f := fun x => x.2) (evc_var (R := (T2 K (tD K eQ) (VP K (T2 K (tD K eS) (tD K eQ))))) (vb) rfl) fun _ => rfl)) fun _ => evac_nil)) (fun _ => by walk_at "sub")) hP (fun F v s h => (show GoV _ _ _ _ from h).drop (by walk_at "sub"))
theorem pure_sum_plus (T : Txt K mg) (vs : List V) (H : Hp) (Q : VK) (X : XK) (h : sp_sum_plus K vs H Q X) : t_sum_plus K X { nx := fun _ H' => Q .non H', rt := Q } (L2.start N_sum_plus vs) H :=
  pure_ofPF (fun x F D E hrt hnx hP => by
    subst hrt
    exact walk_sum_plus T hnx hP) h
theorem len_sum_plus (K : PySem.W.Frag) : ∀ vs H Q E, sp_sum_plus K vs H Q E → vs.length = 2 := spP_len fun _ => rfl
theorem walk_is_name_stocks (T : Txt K mg) {vtext : Tx} (hnx : ∀ (F : Hp) (K : PySem.W.Frag) G D1, GoV E.rt F (DN K) D1 → Go E.nx F G D1) (hP : (w_is_name_stocks K X E.rt D0).W F0 (m_is_name vtext)) :
    Go (t_is_name_stocks K X E) F0 [some ((tD K eS) vtext), none] D0 := by
  unfold m_is_name at hP
  exact go_retC (w := (w_is_name_stocks K X E.rt D0)) (Dd := fun _ : Unit => D0) (s := ()) (fun v _ => v) (evc_andVM (evc_chain (g := fun i j => decide (i ≤ j)) (g' := fun i j => decide (i ≤ j)) evc_int (fun _ => (evc_lenS (evc_var (R := (tD K eS)) (vtext) rfl))) fun _ => evc_int) fun _ => (evc_all (evc_weak (R' := tD K (eL eB)) (evc_frzLT (evnc_lc0 (G1 := (fun x1 => [some ((tD K eS) vtext), some ((tD K eS) x1)])) (evItc_S (evc_var (R := (tD K eS)) (vtext) rfl)) (fun _ => (evW_name (by decide))) (fun _ _ => trivial) (fun x1 _ cq => (evc_inTx (evc_var (R := (tD K eS)) (x1) rfl) fun _ => (evc_strC sx_2ac8088b rfl))))) (d_L (R := (tD K eB)) (e := eB) (d_b (e := eB)))))) hP (fun F v s h => (show GoV _ _ _ _ from h).drop (by walk_at "sub"))
theorem pure_is_name_stocks (T : Txt K mg) (vs : List V) (H : Hp) (Q : VK) (X : XK) (h : sp_is_name_stocks K vs H Q X) : t_is_name_stocks K X { nx := fun _ H' => Q .non H', rt := Q } (L2.start N_is_name_stocks vs) H :=
  pure_ofPF (fun x F D E hrt hnx hP => by
    subst hrt
    exact walk_is_name_stocks T hnx hP) h
theorem len_is_name_stocks (K : PySem.W.Frag) : ∀ vs H Q E, sp_is_name_stocks K vs H Q E → vs.length = 1 := spP_len fun _ => rfl
theorem walk_Size_names (T : Txt K mg) {vself : (Tx × Rat × Rat × (List (Tx × Rat × Tx)))} (hnx : ∀ (F : Hp) (K : PySem.W.Frag) G D1, GoV E.rt F (DN K) D1 → Go E.nx F G D1) (hP : (w_Size_names K X E.rt D0).W F0 (m_Size_names_k07 vself)) :
    Go (t_Size_names K X E) F0 [some ((R_Size K) vself), none, none, none] D0 := by
  unfold m_Size_names_k07 at hP
  exact go_retNC (w := (w_Size_names K X E.rt D0)) (Dd := fun _ : Unit => D0) (s := ()) (fun v _ => v) (evnc_catO (evnc_lst (eval_cons (evc_fld (j := 0) (ns := (["name", "least", "most", "shifts"] : List PySem.Str)) (R := (tD K eS)) (g := fun x : (Tx × Rat × Rat × (List (Tx × Rat × Tx))) => x.1) (fl := fun x : (Tx × Rat × Rat × (List (Tx × Rat × Tx))) => [("name", (tD K eS) x.1), ("least", (tD K eQ) x.2.1), ("most", (tD K eQ) x.2.2.1), ("shifts", (VP K (T3 K (tD K eS) (tD K eQ) (tD K eS))) x.2.2.2)]) (evc_var (R := (R_Size K)) (vself) rfl) (fun _ _ _ h => h) T.cl_Size T.na_Size_name (fun _ => rfl) (by decide +kernel) (fun _ => rfl)) fun _ => eval_nil)) fun _ _ _ => (evnc_lc0 (G1 := (fun x1 => [some ((R_Size K) vself), some ((tD K eS) x1.1), some ((tD K eQ) x1.2.1), some ((tD K eS) x1.2.2)])) (evItc_p (evc_fld (j := 3) (ns := (["name", "least", "most", "shifts"] : List PySem.Str)) (R := (VP K (T3 K (tD K eS) (tD K eQ) (tD K eS)))) (g := fun x : (Tx × Rat × Rat × (List (Tx × Rat × Tx))) => x.2.2.2) (fl := fun x : (Tx × Rat × Rat × (List (Tx × Rat × Tx))) => [("name", (tD K eS) x.1), ("least", (tD K eQ) x.2.1), ("most", (tD K eQ) x.2.2.1), ("shifts", (VP K (T3 K (tD K eS) (tD K eQ) (tD K eS))) x.2.2.2)]) (evc_var (R := (R_Size K)) (vself) rfl) (fun _ _ _ h => h) T.cl_Size T.na_Size_shifts (fun _ => rfl) (by decide +kernel) (fun _ => rfl))) (fun _ => (evW_tupT (evWsT_cons (evW_name (by decide)) (evWsT_cons (evW_name (by decide)) (evWsT_cons (evW_name (by decide)) evWsT_nil))) rfl)) (fun _ _ => trivial) (fun x1 _ cq => (evc_var (R := (tD K eS)) (x1.1) rfl)))) hP (fun F v s h => (show GoN _ _ _ _ from h).drop (by walk_at "sub"))
theorem pure_Size_names (T : Txt K mg) (vs : List V) (H : Hp) (Q : VK) (X : XK) (h : sp_Size_names K vs H Q X) : t_Size_names K X { nx := fun _ H' => Q .non H', rt := Q } (L2.start N_Size_names vs) H :=
  pure_ofPF (fun x F D E hrt hnx hP => by
    subst hrt
    exact walk_Size_names T hnx hP) h
theorem len_Size_names (K : PySem.W.Frag) : ∀ vs H Q E, sp_Size_names K vs H Q E → vs.length = 1 := spP_len fun _ => rfl
theorem walk_Size___init__ (T : Txt K mg) {vname : Tx} {vleast : Rat} {vmost : Rat} {vshifts : (List (Tx × Rat × Tx))} {a : Addr} (hnx : ∀ (F1 : Hp) (r : (Tx × Rat × Rat × (List (Tx × Rat × Tx)))) (G : Sto) (D1 : Own), GoI K E.rt F1 (He.ga K "Size") a [("name", (tD K eS) r.1), ("least", (tD K eQ) r.2.1), ("most", (tD K eQ) r.2.2.1), ("shifts", (VP K (T3 K (tD K eS) (tD K eQ) (tD K eS))) r.2.2.2)] D0 → G[0]? = some (some (INa K (He.ga K "Size") a [("name", (tD K eS) r.1), ("least", (tD K eQ) r.2.1), ("most", (tD K eQ) r.2.2.1), ("shifts", (VP K (T3 K (tD K eS) (tD K eQ) (tD K eS))) r.2.2.2)])) → D0.Sublist D1 → Go E.nx F1 G D1) (hP : (w_Size___init__ K X E.rt a D0).W F0 (m_Size___init___k07 vname vleast vmost vshifts)) :
    Go (t_Size___init__ K X E) F0 [some (Is (.ref a)), some ((tD K eS) vname), some ((tD K eQ) vleast), some ((tD K eQ) vmost), some ((VP K (T3 K (tD K eS) (tD K eQ) (tD K eS))) vshifts), none, none, none] ((a, OI K (He.ga K "Size") []) :: D0) := by
  unfold m_Size___init___k07 at hP
  refine go_seq (go_ifC (w := (w_Size___init__ K X E.rt a D0)) (evtc_orM (evtc_not (evtc_B (evc_callP (fun _ _ _ _ h => h) (evac_cons (evc_var (R := (tD K eS)) (vname) rfl) fun _ => evac_nil) (fun _ => by walk_at "sub")))) fun _ => (evtc_B (evc_callP (fun _ _ _ _ h => h) (evac_cons (evc_var (R := (tD K eQ)) (vmost) rfl) fun _ => (evac_cons (evc_var (R := (tD K eQ)) (vleast) rfl) fun _ => evac_nil)) (fun _ => by walk_at "sub")))) hP ?_ ?_)
  · intro hP
    walk_at "dd"
    exact go_raiseC (w := (w_Size___init__ K X E.rt a D0)) rfl hP (by walk_at "sub")
  · intro hP
    walk_at "dd"
    refine go_next ?_
    walk_at "dd"
    refine go_seq (go_ifF (w := (w_Size___init__ K X E.rt a D0)) (evtc_B (evc_isN (b := false) (evc_var (R := (VP K (T3 K (tD K eS) (tD K eQ) (tD K eS)))) (vshifts) rfl) isn_P)) hP (fun hP => ?_))
    walk_at "dd"
    refine go_next ?_
    walk_at "dd"
    refine go_seq (go_forC (w := (w_Size___init__ K X E.rt a D0)) (σt := Unit) (evItc_p (evc_var (R := (VP K (T3 K (tD K eS) (tD K eQ) (tD K eS)))) (vshifts) rfl)) (fun s1 => [some (Is (.ref a)), some ((tD K eS) vname), some ((tD K eQ) vleast), some ((tD K eQ) vmost), some ((VP K (T3 K (tD K eS) (tD K eQ) (tD K eS))) vshifts), none, none, none]) (fun s1 => (a, OI K (He.ga K "Size") []) :: D0) () (fun s1 x2 => [some (Is (.ref a)), some ((tD K eS) vname), some ((tD K eQ) vleast), some ((tD K eQ) vmost), some ((VP K (T3 K (tD K eS) (tD K eQ) (tD K eS))) vshifts), some ((tD K eS) x2.1), some ((tD K eQ) x2.2.1), some ((tD K eS) x2.2.2)]) hP (by walk_at "sle") (by walk_at "sub") (fun _ => trivial) (fun _ _ => (evG_tupT (evGsT_cons evG_name (evGsT_cons evG_name (evGsT_cons evG_name evGsT_nil))) rfl)) ?_ ?_)
    · intro F4 t4 s1 hP
      unfold m_Size___init___k07_k1 at hP
      walk_at "dd"
      refine go_seq (go_fldC (w := (w_Size___init__ K X E.rt a D0)) (Dd := fun _ : Unit => (a, OI K (He.ga K "Size") []) :: D0) (s := ()) (fds := []) (ns := ([] : List PySem.Str)) (i := 0) (evc_var (R := (tD K eS)) (vname) rfl) rfl (at_n 0 fun _ => rfl) T.cl_Size T.na_Size_name rfl (by decide +kernel) (by show 0 < 1000; decide) hP fun x5 hP => ?_)
      walk_at "dd"
      dsimp only [List.set, List.cons_append, List.nil_append]
      refine go_seq (go_fldC (w := (w_Size___init__ K X E.rt a D0)) (Dd := fun _ : Unit => (a, OI K (He.ga K "Size") [("name", (tD K eS) (x5.1))]) :: D0) (s := ()) (fds := [("name", (tD K eS) (x5.1))]) (ns := (["name"] : List PySem.Str)) (i := 0) (evc_var (R := (tD K eQ)) (vleast) rfl) rfl (at_n 0 fun _ => rfl) T.cl_Size T.na_Size_least rfl (by decide +kernel) (by show 1 < 1000; decide) hP fun x6 hP => ?_)
      walk_at "dd"
      dsimp only [List.set, List.cons_append, List.nil_append]
      refine go_seq (go_fldC (w := (w_Size___init__ K X E.rt a D0)) (Dd := fun _ : Unit => (a, OI K (He.ga K "Size") [("name", (tD K eS) (x5.1)), ("least", (tD K eQ) (x6.1))]) :: D0) (s := ()) (fds := [("name", (tD K eS) (x5.1)), ("least", (tD K eQ) (x6.1))]) (ns := (["name", "least"] : List PySem.Str)) (i := 0) (evc_var (R := (tD K eQ)) (vmost) rfl) rfl (at_n 0 fun _ => rfl) T.cl_Size T.na_Size_most rfl (by decide +kernel) (by show 2 < 1000; decide) hP fun x7 hP => ?_)
      walk_at "dd"
      dsimp only [List.set, List.cons_append, List.nil_append]
      refine go_seq (go_fldC (w := (w_Size___init__ K X E.rt a D0)) (Dd := fun _ : Unit => (a, OI K (He.ga K "Size") [("name", (tD K eS) (x5.1)), ("least", (tD K eQ) (x6.1)), ("most", (tD K eQ) (x7.1))]) :: D0) (s := ()) (fds := [("name", (tD K eS) (x5.1)), ("least", (tD K eQ) (x6.1)), ("most", (tD K eQ) (x7.1))]) (ns := (["name", "least", "most"] : List PySem.Str)) (i := 0) (evc_tupOf (f := id) (evc_var (R := (VP K (T3 K (tD K eS) (tD K eQ) (tD K eS)))) (vshifts) rfl) tv_p) rfl (at_n 0 fun _ => rfl) T.cl_Size T.na_Size_shifts rfl (by decide +kernel) (by show 3 < 1000; decide) hP fun x8 hP => ?_)
      walk_at "dd"
      dsimp only [List.set, List.cons_append, List.nil_append]
      refine go_frzI (k := 0) (i := 0) rfl rfl ?_
      walk_at "dd"
      refine go_ifC (w := (w_Size___init__ K X E.rt a D0)) (evtc_test (evc_lt (evc_lenSet (evc_weak (R' := tD K (eL eS)) (evc_frzLT (evnc_methX (sp := sp_Size_names K) (C := He.ga K "Size") (m := "names") (ns := (["name", "least", "most", "shifts"] : List PySem.Str)) (fl := fun x : (Tx × Rat × Rat × (List (Tx × Rat × Tx))) => [("name", (tD K eS) x.1), ("least", (tD K eQ) x.2.1), ("most", (tD K eQ) x.2.2.1), ("shifts", (VP K (T3 K (tD K eS) (tD K eQ) (tD K eS))) x.2.2.2)]) (f := fun x y => (x, y)) (fun _ _ _ _ h => h) (fun _ => ()) (evc_weak (R := fun x => INa K (He.ga K "Size") a [("name", (tD K eS) x.1), ("least", (tD K eQ) x.2.1), ("most", (tD K eQ) x.2.2.1), ("shifts", (VP K (T3 K (tD K eS) (tD K eQ) (tD K eS))) x.2.2.2)]) (R' := R_Size K) (evc_var (R := fun x => INa K (He.ga K "Size") a [("name", (tD K eS) x.1), ("least", (tD K eQ) x.2.1), ("most", (tD K eQ) x.2.2.1), ("shifts", (VP K (T3 K (tD K eS) (tD K eQ) (tD K eS))) x.2.2.2)]) ((x5.1, x6.1, x7.1, x8.1)) rfl) (fun _ _ _ h => INa.to h)) (fun _ => evac_nil) (fun _ _ _ h => h) (fun _ => rfl) (by decide +kernel) (fun _ => by walk_at "sub") hdm0)) (d_L (R := (tD K eS)) (e := eS) (d_b (e := eS))))) fun _ => (evc_len sv_LT (evc_frzLT (evnc_methX (sp := sp_Size_names K) (C := He.ga K "Size") (m := "names") (ns := (["name", "least", "most", "shifts"] : List PySem.Str)) (fl := fun x : (Tx × Rat × Rat × (List (Tx × Rat × Tx))) => [("name", (tD K eS) x.1), ("least", (tD K eQ) x.2.1), ("most", (tD K eQ) x.2.2.1), ("shifts", (VP K (T3 K (tD K eS) (tD K eQ) (tD K eS))) x.2.2.2)]) (f := fun x y => (x, y)) (fun _ _ _ _ h => h) (fun _ => ()) (evc_weak (R := fun x => INa K (He.ga K "Size") a [("name", (tD K eS) x.1), ("least", (tD K eQ) x.2.1), ("most", (tD K eQ) x.2.2.1), ("shifts", (VP K (T3 K (tD K eS) (tD K eQ) (tD K eS))) x.2.2.2)]) (R' := R_Size K) (evc_var (R := fun x => INa K (He.ga K "Size") a [("name", (tD K eS) x.1), ("least", (tD K eQ) x.2.1), ("most", (tD K eQ) x.2.2.1), ("shifts", (VP K (T3 K (tD K eS) (tD K eQ) (tD K eS))) x.2.2.2)]) ((x5.1, x6.1, x7.1, x8.1)) rfl) (fun _ _ _ h => INa.to h)) (fun _ => evac_nil) (fun _ _ _ h => h) (fun _ => rfl) (by decide +kernel) (fun _ => by walk_at "sub") hdm0))))) hP ?_ ?_
      · intro hP
        walk_at "dd"
        exact go_raiseC (w := (w_Size___init__ K X E.rt a D0)) rfl hP (by walk_at "sub")
      · intro hP
        walk_at "dd"
        refine go_next ?_
        walk_at "dd"
        exact hnx _ (x5.1, x6.1, x7.1, x8.1) _ _ hP rfl (by walk_at "sub")
    · intro hB4 F4 t4 x2 s1 n3 Nx hN4 hP
      unfold m_Size___init___k07_b2 at hP
      walk_at "dd"
      refine go_ifC (w := (w_Size___init__ K X E.rt a D0)) (evtc_orM (evtc_not (evtc_B (evc_callP (fun _ _ _ _ h => h) (evac_cons (evc_var (R := (tD K eS)) (x2.1) rfl) fun _ => evac_nil) (fun _ => by walk_at "sub")))) fun _ => (evtc_or (evtc_B (evc_callP (fun _ _ _ _ h => h) (evac_cons (evc_var (R := (tD K eQ)) (x2.2.1) rfl) fun _ => (evac_cons (evc_conT (R := (tD K eQ)) (0 : Rat) T.c_ZERO (c_Q _)) fun _ => evac_nil)) (fun _ => by walk_at "sub"))) fun _ => (evtc_test (evc_notinS sv_P (evc_var (R := (tD K eS)) (x2.2.2) rfl) fun _ => (evc_conT (R := (VP K (tD K eS))) [sx_7bc55599, sx_95c4bea1, sx_89f6229a] T.c_WAYS ((c_V (R := (tD K eS)) (e := eS) c_S) _)))))) hP ?_ ?_
      · intro hP
        walk_at "dd"
        exact go_raiseC (w := (w_Size___init__ K X E.rt a D0)) rfl hP (by walk_at "sub")
      · intro hP
        walk_at "dd"
        refine go_next ?_
        walk_at "dd"
        exact (hN4 _ (Same.refl _) () hP).weak (by walk_at "sle") (by walk_at "sub")
theorem pure_Size___init__ (T : Txt K mg) (vs : List V) (H : Hp) (Q : VK) (X : XK) (h : sp_Size___init__ K vs H Q X) : t_Size___init__ K X { nx := fun _ H' => Q .non H', rt := Q } (L2.start N_Size___init__ vs) H :=
  pure_ofI (fun x F D a E hrt hnx hP => by
    subst hrt
    exact walk_Size___init__ T hnx hP) h
theorem len_Size___init__ (K : PySem.W.Frag) : ∀ vs H Q E, sp_Size___init__ K vs H Q E → vs.length = 5 := spI_len fun _ => rfl
theorem walk_Stock_names (T : Txt K mg) {vself : (List (Tx × Rat × Rat × (List (Tx × Rat × Tx))))} (hnx : ∀ (F : Hp) (K : PySem.W.Frag) G D1, GoV E.rt F (DN K) D1 → Go E.nx F G D1) (hP : (w_Stock_names K X E.rt D0).W F0 (m_Stock_names vself)) :
    Go (t_Stock_names K X E) F0 [some ((R_Stock K) vself), none, none] D0 := by
  unfold m_Stock_names at hP
  refine go_seq (go_setNC (w := (w_Stock_names K X E.rt D0)) (evnc_lst0 (R := (tD K eS))) hP fun x1 p2 hP => ?_)
  walk_at "dd"
  refine go_seq (go_forC (w := (w_Stock_names K X E.rt D0)) (σt := (List Tx)) (evItc_p (evc_fld (j := 0) (ns := (["row"] : List PySem.Str)) (R := (VP K (R_Size K))) (g := fun x : (List (Tx × Rat × Rat × (List (Tx × Rat × Tx)))) => x) (fl := fun x : (List (Tx × Rat × Rat × (List (Tx × Rat × Tx)))) => [("row", (VP K (R_Size K)) x)]) (evc_var (R := (R_Stock K)) (vself) rfl) (fun _ _ _ h => h) T.cl_Stock T.na_Stock_row (fun _ => rfl) (by decide +kernel) (fun _ => rfl))) (fun s3 => [some ((R_Stock K) vself), some (Is (.ref p2)), none]) (fun s3 => (p2, (OLT (tD K eS)) (s3)) :: D0) x1 (fun s3 x4 => [some ((R_Stock K) vself), some (Is (.ref p2)), some ((R_Size K) x4)]) hP (by walk_at "sle") (by walk_at "sub") (fun _ => trivial) (fun _ _ => evG_name) ?_ ?_)
  · intro F6 t6 s3 hP
    unfold m_Stock_names_k1 at hP
    walk_at "dd"
    exact go_retOC (w := (w_Stock_names K X E.rt D0)) (k := 0) (i := 1) (O := (OLT (tD K eS))) (s3) _ rfl rfl hP fun F h => (show GoN _ _ _ _ from h).drop (by walk_at "sub")
  · intro hB6 F6 t6 x4 s3 n5 Nx hN6 hP
    unfold m_Stock_names_b2 at hP
    walk_at "dd"
    refine go_extNC (w := (w_Stock_names K X E.rt D0)) (Dd := fun _ : Unit => (p2, (OLT (tD K eS)) (s3)) :: D0) (s := ()) (R := (tD K eS)) (xs := s3) (n := 1) rfl (evnc_methX (sp := sp_Size_names K) (C := He.ga K "Size") (m := "names") (ns := (["name", "least", "most", "shifts"] : List PySem.Str)) (fl := fun x : (Tx × Rat × Rat × (List (Tx × Rat × Tx))) => [("name", (tD K eS) x.1), ("least", (tD K eQ) x.2.1), ("most", (tD K eQ) x.2.2.1), ("shifts", (VP K (T3 K (tD K eS) (tD K eQ) (tD K eS))) x.2.2.2)]) (f := fun x y => (x, y)) (fun _ _ _ _ h => h) (fun _ => ()) (evc_var (R := (R_Size K)) (x4) rfl) (fun _ => evac_nil) (fun _ _ _ h => h) (fun _ => rfl) (by decide +kernel) (fun _ => by walk_at "sub") hdm0) (at_n 0 fun _ => rfl) hP fun x7 hP => ?_
    walk_at "dd"
    exact (hN6 _ (Same.refl _) x7.1 hP).weak (by walk_at "sle") (by walk_at "sub")
theorem pure_Stock_names (T : Txt K mg) (vs : List V) (H : Hp) (Q : VK) (X : XK) (h : sp_Stock_names K vs H Q X) : t_Stock_names K X { nx := fun _ H' => Q .non H', rt := Q } (L2.start N_Stock_names vs) H :=
  pure_ofPF (fun x F D E hrt hnx hP => by
    subst hrt
    exact walk_Stock_names T hnx hP) h
theorem len_Stock_names (K : PySem.W.Frag) : ∀ vs H Q E, sp_Stock_names K vs H Q E → vs.length = 1 := spP_len fun _ => rfl
theorem walk_Stock___init___0 (T : Txt K mg) {vsizes : (List (Tx × Rat × Rat × (List (Tx × Rat × Tx))))} {a : Addr} {a_vsizes : Addr} {k_vsizes : Nat} (r_vsizes : D0[k_vsizes]? = some (a_vsizes, (OLT (R_Size K)) vsizes)) (hnx : ∀ (F1 : Hp) (r : (List (Tx × Rat × Rat × (List (Tx × Rat × Tx))))) (G : Sto) (D1 : Own), GoI K E.rt F1 (He.ga K "Stock") a [("row", (VP K (R_Size K)) r)] D0 → G[0]? = some (some (INa K (He.ga K "Stock") a [("row", (VP K (R_Size K)) r)])) → D0.Sublist D1 → Go E.nx F1 G D1) (hP : (w_Stock___init___0 K X E.rt a D0).W F0 (m_Stock___init__ vsizes)) :
    Go (t_Stock___init__ K X E) F0 [some (Is (.ref a)), some (Is (.ref a_vsizes)), none] ((a, OI K (He.ga K "Stock") []) :: D0) := by
  unfold m_Stock___init__ at hP
  refine go_seq (go_fldC (w := (w_Stock___init___0 K X E.rt a D0)) (Dd := fun _ : Unit => (a, OI K (He.ga K "Stock") []) :: D0) (s := ()) (fds := []) (ns := ([] : List PySem.Str)) (i := 0) (evc_tupOf (f := fun _ : Unit => vsizes) (Re := (R_Size K)) (evc_var (R := fun _ : Unit => Is (.ref a_vsizes)) () rfl) (tv_O (fun _ => at_cons (r_vsizes)))) rfl (at_n 0 fun _ => rfl) T.cl_Stock T.na_Stock_row rfl (by decide +kernel) (by show 0 < 1000; decide) hP fun x1 hP => ?_)
  walk_at "dd"
  dsimp only [List.set, List.cons_append, List.nil_append]
  refine go_frzI (k := 0) (i := 0) rfl rfl ?_
  walk_at "dd"
  refine go_seq (go_setC (w := (w_Stock___init___0 K X E.rt a D0)) (evc_frzLT (evnc_methX (sp := sp_Stock_names K) (C := He.ga K "Stock") (m := "names") (ns := (["row"] : List PySem.Str)) (fl := fun x : (List (Tx × Rat × Rat × (List (Tx × Rat × Tx)))) => [("row", (VP K (R_Size K)) x)]) (f := fun x y => (x, y)) (fun _ _ _ _ h => h) (fun _ => ()) (evc_weak (R := fun x => INa K (He.ga K "Stock") a [("row", (VP K (R_Size K)) x)]) (R' := R_Stock K) (evc_var (R := fun x => INa K (He.ga K "Stock") a [("row", (VP K (R_Size K)) x)]) (x1.1) rfl) (fun _ _ _ h => INa.to h)) (fun _ => evac_nil) (fun _ _ _ h => h) (fun _ => rfl) (by decide +kernel) (fun _ => by walk_at "sub") hdm0)) hP fun x2 hP => ?_)
  walk_at "dd"
  refine go_ifC (w := (w_Stock___init___0 K X E.rt a D0)) (evtc_test (evc_lt (evc_lenSet (evc_weak (R' := tD K (eL eS)) (evc_var (R := (LT K (tD K eS))) (x2) rfl) (d_L (R := (tD K eS)) (e := eS) (d_b (e := eS))))) fun _ => (evc_len sv_LT (evc_var (R := (LT K (tD K eS))) (x2) rfl)))) hP ?_ ?_
  · intro hP
    walk_at "dd"
    exact go_raiseC (w := (w_Stock___init___0 K X E.rt a D0)) rfl hP (by walk_at "sub")
  · intro hP
    walk_at "dd"
    refine go_next ?_
    walk_at "dd"
    exact hnx _ x1.1 _ _ hP rfl (by walk_at "sub")
theorem pure_Stock___init___0 (T : Txt K mg) (vs : List V) (H : Hp) (Q : VK) (X : XK) (h : sp_Stock___init___0 K vs H Q X) : t_Stock___init__ K X { nx := fun _ H' => Q .non H', rt := Q } (L2.start N_Stock___init__ vs) H :=
  pure_ofIRd (fun x F D a E hpl hrt hnx hP => by
    subst hrt
    obtain ⟨⟨_, r_vsizes⟩, _⟩ := hpl
    exact walk_Stock___init___0 T r_vsizes hnx hP) h
theorem len_Stock___init___0 (K : PySem.W.Frag) : ∀ vs H Q E, sp_Stock___init___0 K vs H Q E → vs.length = 2 := spIR_len fun _ => rfl
theorem walk_Stock___init___1 (T : Txt K mg) {vsizes : (List (Tx × Rat × Rat × (List (Tx × Rat × Tx))))} {a : Addr} (hnx : ∀ (F1 : Hp) (r : (List (Tx × Rat × Rat × (List (Tx × Rat × Tx))))) (G : Sto) (D1 : Own), GoI K E.rt F1 (He.ga K "Stock") a [("row", (VP K (R_Size K)) r)] D0 → G[0]? = some (some (INa K (He.ga K "Stock") a [("row", (VP K (R_Size K)) r)])) → D0.Sublist D1 → Go E.nx F1 G D1) (hP : (w_Stock___init___1 K X E.rt a D0).W F0 (m_Stock___init__ vsizes)) :
    Go (t_Stock___init__ K X E) F0 [some (Is (.ref a)), some ((VP K (R_Size K)) vsizes), none] ((a, OI K (He.ga K "Stock") []) :: D0) := by
  unfold m_Stock___init__ at hP
  refine go_seq (go_fldC (w := (w_Stock___init___1 K X E.rt a D0)) (Dd := fun _ : Unit => (a, OI K (He.ga K "Stock") []) :: D0) (s := ()) (fds := []) (ns := ([] : List PySem.Str)) (i := 0) (evc_tupOf (f := id) (evc_var (R := (VP K (R_Size K))) (vsizes) rfl) tv_p) rfl (at_n 0 fun _ => rfl) T.cl_Stock T.na_Stock_row rfl (by decide +kernel) (by show 0 < 1000; decide) hP fun x1 hP => ?_)
  walk_at "dd"
  dsimp only [List.set, List.cons_append, List.nil_append]
  refine go_frzI (k := 0) (i := 0) rfl rfl ?_
  walk_at "dd"
  refine go_seq (go_setC (w := (w_Stock___init___1 K X E.rt a D0)) (evc_frzLT (evnc_methX (sp := sp_Stock_names K) (C := He.ga K "Stock") (m := "names") (ns := (["row"] : List PySem.Str)) (fl := fun x : (List (Tx × Rat × Rat × (List (Tx × Rat × Tx)))) => [("row", (VP K (R_Size K)) x)]) (f := fun x y => (x, y)) (fun _ _ _ _ h => h) (fun _ => ()) (evc_weak (R := fun x => INa K (He.ga K "Stock") a [("row", (VP K (R_Size K)) x)]) (R' := R_Stock K) (evc_var (R := fun x => INa K (He.ga K "Stock") a [("row", (VP K (R_Size K)) x)]) (x1.1) rfl) (fun _ _ _ h => INa.to h)) (fun _ => evac_nil) (fun _ _ _ h => h) (fun _ => rfl) (by decide +kernel) (fun _ => by walk_at "sub") hdm0)) hP fun x2 hP => ?_)
  walk_at "dd"
  refine go_ifC (w := (w_Stock___init___1 K X E.rt a D0)) (evtc_test (evc_lt (evc_lenSet (evc_weak (R' := tD K (eL eS)) (evc_var (R := (LT K (tD K eS))) (x2) rfl) (d_L (R := (tD K eS)) (e := eS) (d_b (e := eS))))) fun _ => (evc_len sv_LT (evc_var (R := (LT K (tD K eS))) (x2) rfl)))) hP ?_ ?_
  · intro hP
    walk_at "dd"
    exact go_raiseC (w := (w_Stock___init___1 K X E.rt a D0)) rfl hP (by walk_at "sub")
  · intro hP
    walk_at "dd"
    refine go_next ?_
    walk_at "dd"
    exact hnx _ x1.1 _ _ hP rfl (by walk_at "sub")
theorem pure_Stock___init___1 (T : Txt K mg) (vs : List V) (H : Hp) (Q : VK) (X : XK) (h : sp_Stock___init___1 K vs H Q X) : t_Stock___init__ K X { nx := fun _ H' => Q .non H', rt := Q } (L2.start N_Stock___init__ vs) H :=
  pure_ofI (fun x F D a E hrt hnx hP => by
    subst hrt
    exact walk_Stock___init___1 T hnx hP) h
theorem len_Stock___init___1 (K : PySem.W.Frag) : ∀ vs H Q E, sp_Stock___init___1 K vs H Q E → vs.length = 2 := spI_len fun _ => rfl
theorem pure_Stock___init__ (T : Txt K mg) (vs : List V) (H : Hp) (Q : VK) (X : XK) (h : sp_Stock___init__ K vs H Q X) : t_Stock___init__ K X { nx := fun _ H' => Q .non H', rt := Q } (L2.start N_Stock___init__ vs) H := by
  rcases h with h | h
  · exact pure_Stock___init___0 T vs H Q X h
  · exact pure_Stock___init___1 T vs H Q X h
theorem len_Stock___init__ (K : PySem.W.Frag) : ∀ vs H Q E, sp_Stock___init__ K vs H Q E → vs.length = 2 := fun vs H Q E h => by
  rcases h with h | h
  · exact len_Stock___init___0 K vs H Q E h
  · exact len_Stock___init___1 K vs H Q E h
theorem walk_Stock_sizes (T : Txt K mg) {vself : (List (Tx × Rat × Rat × (List (Tx × Rat × Tx))))} (hnx : ∀ (F : Hp) (K : PySem.W.Frag) G D1, GoV E.rt F (DN K) D1 → Go E.nx F G D1) (hP : (w_Stock_sizes K X E.rt D0).W F0 (m_Stock_sizes vself)) :
    Go (t_Stock_sizes K X E) F0 [some ((R_Stock K) vself)] D0 := by
  unfold m_Stock_sizes at hP
  exact go_retC (w := (w_Stock_sizes K X E.rt D0)) (Dd := fun _ : Unit => D0) (s := ()) (fun v _ => v) (evc_frzLT (evnc_lstS sv_P (evc_fld (j := 0) (ns := (["row"] : List PySem.Str)) (R := (VP K (R_Size K))) (g := fun x : (List (Tx × Rat × Rat × (List (Tx × Rat × Tx)))) => x) (fl := fun x : (List (Tx × Rat × Rat × (List (Tx × Rat × Tx)))) => [("row", (VP K (R_Size K)) x)]) (evc_var (R := (R_Stock K)) (vself) rfl) (fun _ _ _ h => h) T.cl_Stock T.na_Stock_row (fun _ => rfl) (by decide +kernel) (fun _ => rfl)))) hP (fun F v s h => (show GoV _ _ _ _ from h).drop (by walk_at "sub"))
theorem pure_Stock_sizes (T : Txt K mg) (vs : List V) (H : Hp) (Q : VK) (X : XK) (h : sp_Stock_sizes K vs H Q X) : t_Stock_sizes K X { nx := fun _ H' => Q .non H', rt := Q } (L2.start N_Stock_sizes vs) H :=
  pure_ofPF (fun x F D E hrt hnx hP => by
    subst hrt
    exact walk_Stock_sizes T hnx hP) h
theorem len_Stock_sizes (K : PySem.W.Frag) : ∀ vs H Q E, sp_Stock_sizes K vs H Q E → vs.length = 1 := spP_len fun _ => rfl
theorem walk_is_name_parts (T : Txt K mg) {vthing : Tx} (hnx : ∀ (F : Hp) (K : PySem.W.Frag) G D1, GoV E.rt F (DN K) D1 → Go E.nx F G D1) (hP : (w_is_name_parts K X E.rt D0).W F0 (m_is_name_parts vthing)) :
    Go (t_is_name_parts K X E) F0 [some ((tD K eS) vthing), none] D0 := by
  unfold m_is_name_parts at hP
  refine go_seq (go_ifC (w := (w_is_name_parts K X E.rt D0)) (evtc_orM (evtc_not (evtc_B (evc_isiG (n := "str") (own := "str") (b := true) (evc_var (R := (tD K eS)) (vthing) rfl) (ty_d fun _ => rfl) (by decide +kernel)))) fun _ => (evtc_not (evtc_test (evc_chain (g := fun i j => decide (i ≤ j)) (g' := fun i j => decide (i ≤ j)) evc_int (fun _ => (evc_lenS (evc_var (R := (tD K eS)) (vthing) rfl))) fun _ => evc_int)))) hP ?_ ?_)
  · intro hP
    walk_at "dd"
    exact go_retC (w := (w_is_name_parts K X E.rt D0)) (Dd := fun _ : Unit => D0) (s := ()) (fun v _ => v) evc_bl hP (fun F v s h => (show GoV _ _ _ _ from h).drop (by walk_at "sub"))
  · intro hP
    walk_at "dd"
    refine go_next ?_
    walk_at "dd"
    exact go_retC (w := (w_is_name_parts K X E.rt D0)) (Dd := fun _ : Unit => D0) (s := ()) (fun v _ => v) (evc_all (evc_weak (R' := tD K (eL eB)) (evc_frzLT (evnc_lc0 (G1 := (fun x1 => [some ((tD K eS) vthing), some ((tD K eS) x1)])) (evItc_S (evc_var (R := (tD K eS)) (vthing) rfl)) (fun _ => (evW_name (by decide))) (fun _ _ => trivial) (fun x1 _ cq => (evc_inTx (evc_var (R := (tD K eS)) (x1) rfl) fun _ => (evc_strC sx_32d10c7b rfl))))) (d_L (R := (tD K eB)) (e := eB) (d_b (e := eB))))) hP (fun F v s h => (show GoV _ _ _ _ from h).drop (by walk_at "sub"))
theorem pure_is_name_parts (T : Txt K mg) (vs : List V) (H : Hp) (Q : VK) (X : XK) (h : sp_is_name_parts K vs H Q X) : t_is_name_parts K X { nx := fun _ H' => Q .non H', rt := Q } (L2.start N_is_name_parts vs) H :=
  pure_ofPF (fun x F D E hrt hnx hP => by
    subst hrt
    exact walk_is_name_parts T hnx hP) h
theorem len_is_name_parts (K : PySem.W.Frag) : ∀ vs H Q E, sp_is_name_parts K vs H Q E → vs.length = 1 := spP_len fun _ => rfl
theorem walk_has_names (T : Txt K mg) {vstock : (List (Tx × Rat × Rat × (List (Tx × Rat × Tx))))} {vadd : (Rat × (List (Tx × Rat)))} (hnx : ∀ (F : Hp) (K : PySem.W.Frag) G D1, GoV E.rt F (DN K) D1 → Go E.nx F G D1) (hP : (w_has_names K X E.rt D0).W F0 (m_has_names vstock vadd)) :
    Go (t_has_names K X E) F0 [some ((R_Stock K) vstock), some ((T2 K (tD K eQ) (VP K (T2 K (tD K eS) (tD K eQ)))) vadd), none, none, none] D0 := by
  unfold m_has_names at hP
  refine go_seq (go_setC (w := (w_has_names K X E.rt D0)) (evc_frzLT (evnc_methX (sp := sp_Stock_names K) (C := He.ga K "Stock") (m := "names") (ns := (["row"] : List PySem.Str)) (fl := fun x : (List (Tx × Rat × Rat × (List (Tx × Rat × Tx)))) => [("row", (VP K (R_Size K)) x)]) (f := fun x y => (x, y)) (fun _ _ _ _ h => h) (fun _ => ()) (evc_var (R := (R_Stock K)) (vstock) rfl) (fun _ => evac_nil) (fun _ _ _ h => h) (fun _ => rfl) (by decide +kernel) (fun _ => by walk_at "sub") hdm0)) hP fun x1 hP => ?_)
  walk_at "dd"
  exact go_retC (w := (w_has_names K X E.rt D0)) (Dd := fun _ : Unit => D0) (s := ()) (fun v _ => v) (evc_all (evc_weak (R' := tD K (eL eB)) (evc_frzLT (evnc_lc0 (G1 := (fun x2 => [some ((R_Stock K) vstock), some ((T2 K (tD K eQ) (VP K (T2 K (tD K eS) (tD K eQ)))) vadd), some ((LT K (tD K eS)) x1), some ((tD K eS) x2.1), some ((tD K eQ) x2.2)])) (evItc_p (evc_ixT (i := 1) (Rs := fun x : (Rat × (List (Tx × Rat))) => [(tD K eQ) x.1, (VP K (T2 K (tD K eS) (tD K eQ))) x.2]) (R' := (VP K (T2 K (tD K eS) (tD K eQ)))) (f := fun x => x.2) (evc_var (R := (T2 K (tD K eQ) (VP K (T2 K (tD K eS) (tD K eQ))))) (vadd) rfl) fun _ => rfl)) (fun _ => (evW_tupT (evWsT_cons (evW_name (by decide)) (evWsT_cons (evW_name (by decide)) evWsT_nil)) rfl)) (fun _ _ => trivial) (fun x2 _ cq => (evc_inS sv_LT (evc_var (R := (tD K eS)) (x2.1) rfl) fun _ => (evc_var (R := (LT K (tD K eS))) (x1) rfl))))) (d_L (R := (tD K eB)) (e := eB) (d_b (e := eB))))) hP (fun F v s h => (show GoV _ _ _ _ from h).drop (by walk_at "sub"))
theorem pure_has_names (T : Txt K mg) (vs : List V) (H : Hp) (Q : VK) (X : XK) (h : sp_has_names K vs H Q X) : t_has_names K X { nx := fun _ H' => Q .non H', rt := Q } (L2.start N_has_names vs) H :=
  pure_ofPF (fun x F D E hrt hnx hP => by
    subst hrt
    exact walk_has_names T hnx hP) h
theorem len_has_names (K : PySem.W.Frag) : ∀ vs H Q E, sp_has_names K vs H Q E → vs.length = 2 := spP_len fun _ => rfl
theorem walk_Part___init___0 (T : Txt K mg) {vname : Tx} {vsizes : (List (Tx × Rat × Rat × (List (Tx × Rat × Tx))))} {a : Addr} {a_vsizes : Addr} {k_vsizes : Nat} (r_vsizes : D0[k_vsizes]? = some (a_vsizes, (OLT (R_Size K)) vsizes)) (hnx : ∀ (F1 : Hp) (r : (Tx × (List (Tx × Rat × Rat × (List (Tx × Rat × Tx)))) × (List (Tx × (Tx × (Rat × (List (Tx × Rat)))))))) (G : Sto) (D1 : Own), GoIO E.rt F1 a (O_Part K r) D0 → DLe D1 ((a, O_Part K r) :: D0) → Go E.nx F1 G D1) (hP : (w_Part___init___0 K X E.rt a D0).W F0 (m_Part___init__ vname vsizes)) :
    Go (t_Part___init__ K X E) F0 [some (Is (.ref a)), some ((tD K eS) vname), some (Is (.ref a_vsizes)), none] ((a, OI K (He.ga K "Part") []) :: D0) := by
  unfold m_Part___init__ at hP
  refine go_seq (go_ifC (w := (w_Part___init___0 K X E.rt a D0)) (evtc_not (evtc_B (evc_callP (fun _ _ _ _ h => h) (evac_cons (evc_var (R := (tD K eS)) (vname) rfl) fun _ => evac_nil) (fun _ => by walk_at "sub")))) hP ?_ ?_)
  · intro hP
    walk_at "dd"
    exact go_raiseC (w := (w_Part___init___0 K X E.rt a D0)) rfl hP (by walk_at "sub")
  · intro hP
    walk_at "dd"
    refine go_next ?_
    walk_at "dd"
    refine go_seq (go_fldC (w := (w_Part___init___0 K X E.rt a D0)) (Dd := fun _ : Unit => (a, OI K (He.ga K "Part") []) :: D0) (s := ()) (fds := []) (ns := ([] : List PySem.Str)) (i := 0) (evc_var (R := (tD K eS)) (vname) rfl) rfl (at_n 0 fun _ => rfl) T.cl_Part T.na_Part_name rfl (by decide +kernel) (by show 0 < 1000; decide) hP fun x1 hP => ?_)
    walk_at "dd"
    dsimp only [List.set, List.cons_append, List.nil_append]
    refine go_seq (go_fldC (w := (w_Part___init___0 K X E.rt a D0)) (Dd := fun _ : Unit => (a, OI K (He.ga K "Part") [("name", (tD K eS) (x1.1))]) :: D0) (s := ()) (fds := [("name", (tD K eS) (x1.1))]) (ns := (["name"] : List PySem.Str)) (i := 0) (evc_makeR (sp := sp_Stock___init__ K) (R := R_Stock K) (f := fun (y : Unit × Unit) (w : Unit) => ((a_vsizes, vsizes), ())) (g := (fun _ => ())) (fun _ _ _ _ h => .inl h) (evac_cons (evc_var (R := fun _ : Unit => Is (.ref a_vsizes)) () rfl) fun _ => evac_nil) (fun _ w => ⟨(RdC.of  (at_cons (r_vsizes))), trivial⟩) (fun _ => DLe.of (by walk_at "sub")) hdR0 (fun _ _ _ h => h)) rfl (at_n 0 fun _ => rfl) T.cl_Part T.na_Part_own rfl (by decide +kernel) (by show 1 < 1000; decide) hP fun x2 hP => ?_)
    walk_at "dd"
    dsimp only [List.set, List.cons_append, List.nil_append]
    refine go_seq (go_ifC (w := (w_Part___init___0 K X E.rt a D0)) (evtc_not (evtc_B (evc_all (evc_weak (R' := tD K (eL eB)) (evc_frzLT (evnc_lc0 (G1 := (fun x3 => [some (Is (.ref a)), some ((tD K eS) vname), some (Is (.ref a_vsizes)), some ((tD K eS) x3)])) (evItc_l (evc_frzLT (evnc_methX (sp := sp_Stock_names K) (C := He.ga K "Stock") (m := "names") (ns := (["row"] : List PySem.Str)) (fl := fun x : (List (Tx × Rat × Rat × (List (Tx × Rat × Tx)))) => [("row", (VP K (R_Size K)) x)]) (f := fun x y => (x, y)) (fun _ _ _ _ h => h) (fun _ => ()) (evc_fldO (ns := (["name", "own"] : List PySem.Str)) (j := 1) (fds := [("name", (tD K eS) (x1.1)), ("own", (R_Stock K) (x2.1))]) (R := (R_Stock K)) (x2.1) rfl (at_n 0 fun _ => rfl) T.cl_Part T.na_Part_own rfl (by decide +kernel) rfl) (fun _ => evac_nil) (fun _ _ _ h => h) (fun _ => rfl) (by decide +kernel) (fun _ => by walk_at "sub") hdm0))) (fun _ => (evW_name (by decide))) (fun _ _ => trivial) (fun x3 _ cq => (evc_callP (fun _ _ _ _ h => h) (evac_cons (evc_var (R := (tD K eS)) (x3) rfl) fun _ => evac_nil) (fun _ => List.nil_sublist _))))) (d_L (R := (tD K eB)) (e := eB) (d_b (e := eB))))))) hP ?_ ?_)
    · intro hP
      walk_at "dd"
      exact go_raiseC (w := (w_Part___init___0 K X E.rt a D0)) rfl hP (by walk_at "sub")
    · intro hP
      walk_at "dd"
      refine go_next ?_
      walk_at "dd"
      refine go_fldNC (w := (w_Part___init___0 K X E.rt a D0)) (Dd := fun _ : Unit => (a, OI K (He.ga K "Part") [("name", (tD K eS) (x1.1)), ("own", (R_Stock K) (x2.1))]) :: D0) (s := ()) (fds := [("name", (tD K eS) (x1.1)), ("own", (R_Stock K) (x2.1))]) (ns := (["name", "own"] : List PySem.Str)) (i := 0) (evnc_dnewT (k := kS) (Rv := (T2 K (tD K eS) (T2 K (tD K eQ) (VP K (T2 K (tD K eS) (tD K eQ))))))) rfl (at_n 0 fun _ => rfl) T.cl_Part T.na_Part_placed rfl (by decide +kernel) (by show 2 < 1000; decide) hP fun x8 p9 hP => ?_
      walk_at "dd"
      dsimp only [List.set, List.cons_append, List.nil_append]
      exact hnx _ (x1.1, x2.1, x8.1) _ _ hP ((show DLe _ ((p9, (OXT kS (T2 K (tD K eS) (T2 K (tD K eQ) (VP K (T2 K (tD K eS) (tD K eQ)))))) (x8.1)) :: (a, OI K (He.ga K "Part") [("name", (tD K eS) (x1.1)), ("own", (R_Stock K) (x2.1)), ("placed", Is (.ref p9))]) :: D0) from DLe.of (by walk_at "sub")).trans (dle_close1 (D := (a, OI K (He.ga K "Part") [("name", (tD K eS) (x1.1)), ("own", (R_Stock K) (x2.1)), ("placed", Is (.ref p9))]) :: D0) (k := 0) (O := (OXT kS (T2 K (tD K eS) (T2 K (tD K eQ) (VP K (T2 K (tD K eS) (tD K eQ)))))) (x8.1)) (rt := fun b1 => OI K (He.ga K "Part") [("name", (tD K eS) (x1.1)), ("own", (R_Stock K) (x2.1)), ("placed", Is (.ref b1))]) rfl))
theorem pure_Part___init___0 (T : Txt K mg) (vs : List V) (H : Hp) (Q : VK) (X : XK) (h : sp_Part___init___0 K vs H Q X) : t_Part___init__ K X { nx := fun _ H' => Q .non H', rt := Q } (L2.start N_Part___init__ vs) H :=
  pure_ofIOR (fun x F D a E hpl hrt hnx hP => by
    subst hrt
    obtain ⟨⟨_, r_vsizes⟩, _⟩ := hpl
    exact walk_Part___init___0 T r_vsizes hnx hP) h
theorem len_Part___init___0 (K : PySem.W.Frag) : ∀ vs H Q E, sp_Part___init___0 K vs H Q E → vs.length = 3 := spIOR_len fun _ => rfl
theorem walk_Part___init___1 (T : Txt K mg) {vname : Tx} {vsizes : (List (Tx × Rat × Rat × (List (Tx × Rat × Tx))))} {a : Addr} (hnx : ∀ (F1 : Hp) (r : (Tx × (List (Tx × Rat × Rat × (List (Tx × Rat × Tx)))) × (List (Tx × (Tx × (Rat × (List (Tx × Rat)))))))) (G : Sto) (D1 : Own), GoIO E.rt F1 a (O_Part K r) D0 → DLe D1 ((a, O_Part K r) :: D0) → Go E.nx F1 G D1) (hP : (w_Part___init___1 K X E.rt a D0).W F0 (m_Part___init__ vname vsizes)) :
    Go (t_Part___init__ K X E) F0 [some (Is (.ref a)), some ((tD K eS) vname), some ((VP K (R_Size K)) vsizes), none] ((a, OI K (He.ga K "Part") []) :: D0) := by
  unfold m_Part___init__ at hP
  refine go_seq (go_ifC (w := (w_Part___init___1 K X E.rt a D0)) (evtc_not (evtc_B (evc_callP (fun _ _ _ _ h => h) (evac_cons (evc_var (R := (tD K eS)) (vname) rfl) fun _ => evac_nil) (fun _ => by walk_at "sub")))) hP ?_ ?_)
  · intro hP
    walk_at "dd"
    exact go_raiseC (w := (w_Part___init___1 K X E.rt a D0)) rfl hP (by walk_at "sub")
  · intro hP
    walk_at "dd"
    refine go_next ?_
    walk_at "dd"
    refine go_seq (go_fldC (w := (w_Part___init___1 K X E.rt a D0)) (Dd := fun _ : Unit => (a, OI K (He.ga K "Part") []) :: D0) (s := ()) (fds := []) (ns := ([] : List PySem.Str)) (i := 0) (evc_var (R := (tD K eS)) (vname) rfl) rfl (at_n 0 fun _ => rfl) T.cl_Part T.na_Part_name rfl (by decide +kernel) (by show 0 < 1000; decide) hP fun x1 hP => ?_)
    walk_at "dd"
    dsimp only [List.set, List.cons_append, List.nil_append]
    refine go_seq (go_fldC (w := (w_Part___init___1 K X E.rt a D0)) (Dd := fun _ : Unit => (a, OI K (He.ga K "Part") [("name", (tD K eS) (x1.1))]) :: D0) (s := ()) (fds := [("name", (tD K eS) (x1.1))]) (ns := (["name"] : List PySem.Str)) (i := 0) (evc_makeX (R := R_Stock K) (f := fun y => y) (fun _ _ _ _ h => .inr h) (fun _ => ()) (evac_cons (evc_var (R := (VP K (R_Size K))) (vsizes) rfl) fun _ => evac_nil) (fun _ => by walk_at "sub") hd0 (fun _ _ _ h => h)) rfl (at_n 0 fun _ => rfl) T.cl_Part T.na_Part_own rfl (by decide +kernel) (by show 1 < 1000; decide) hP fun x2 hP => ?_)
    walk_at "dd"
    dsimp only [List.set, List.cons_append, List.nil_append]
    refine go_seq (go_ifC (w := (w_Part___init___1 K X E.rt a D0)) (evtc_not (evtc_B (evc_all (evc_weak (R' := tD K (eL eB)) (evc_frzLT (evnc_lc0 (G1 := (fun x3 => [some (Is (.ref a)), some ((tD K eS) vname), some ((VP K (R_Size K)) vsizes), some ((tD K eS) x3)])) (evItc_l (evc_frzLT (evnc_methX (sp := sp_Stock_names K) (C := He.ga K "Stock") (m := "names") (ns := (["row"] : List PySem.Str)) (fl := fun x : (List (Tx × Rat × Rat × (List (Tx × Rat × Tx)))) => [("row", (VP K (R_Size K)) x)]) (f := fun x y => (x, y)) (fun _ _ _ _ h => h) (fun _ => ()) (evc_fldO (ns := (["name", "own"] : List PySem.Str)) (j := 1) (fds := [("name", (tD K eS) (x1.1)), ("own", (R_Stock K) (x2.1))]) (R := (R_Stock K)) (x2.1) rfl (at_n 0 fun _ => rfl) T.cl_Part T.na_Part_own rfl (by decide +kernel) rfl) (fun _ => evac_nil) (fun _ _ _ h => h) (fun _ => rfl) (by decide +kernel) (fun _ => by walk_at "sub") hdm0))) (fun _ => (evW_name (by decide))) (fun _ _ => trivial) (fun x3 _ cq => (evc_callP (fun _ _ _ _ h => h) (evac_cons (evc_var (R := (tD K eS)) (x3) rfl) fun _ => evac_nil) (fun _ => List.nil_sublist _))))) (d_L (R := (tD K eB)) (e := eB) (d_b (e := eB))))))) hP ?_ ?_)
    · intro hP
      walk_at "dd"
      exact go_raiseC (w := (w_Part___init___1 K X E.rt a D0)) rfl hP (by walk_at "sub")
    · intro hP
      walk_at "dd"
      refine go_next ?_
      walk_at "dd"
      refine go_fldNC (w := (w_Part___init___1 K X E.rt a D0)) (Dd := fun _ : Unit => (a, OI K (He.ga K "Part") [("name", (tD K eS) (x1.1)), ("own", (R_Stock K) (x2.1))]) :: D0) (s := ()) (fds := [("name", (tD K eS) (x1.1)), ("own", (R_Stock K) (x2.1))]) (ns := (["name", "own"] : List PySem.Str)) (i := 0) (evnc_dnewT (k := kS) (Rv := (T2 K (tD K eS) (T2 K (tD K eQ) (VP K (T2 K (tD K eS) (tD K eQ))))))) rfl (at_n 0 fun _ => rfl) T.cl_Part T.na_Part_placed rfl (by decide +kernel) (by show 2 < 1000; decide) hP fun x8 p9 hP => ?_
      walk_at "dd"
      dsimp only [List.set, List.cons_append, List.nil_append]
      exact hnx _ (x1.1, x2.1, x8.1) _ _ hP ((show DLe _ ((p9, (OXT kS (T2 K (tD K eS) (T2 K (tD K eQ) (VP K (T2 K (tD K eS) (tD K eQ)))))) (x8.1)) :: (a, OI K (He.ga K "Part") [("name", (tD K eS) (x1.1)), ("own", (R_Stock K) (x2.1)), ("placed", Is (.ref p9))]) :: D0) from DLe.of (by walk_at "sub")).trans (dle_close1 (D := (a, OI K (He.ga K "Part") [("name", (tD K eS) (x1.1)), ("own", (R_Stock K) (x2.1)), ("placed", Is (.ref p9))]) :: D0) (k := 0) (O := (OXT kS (T2 K (tD K eS) (T2 K (tD K eQ) (VP K (T2 K (tD K eS) (tD K eQ)))))) (x8.1)) (rt := fun b1 => OI K (He.ga K "Part") [("name", (tD K eS) (x1.1)), ("own", (R_Stock K) (x2.1)), ("placed", Is (.ref b1))]) rfl))
theorem pure_Part___init___1 (T : Txt K mg) (vs : List V) (H : Hp) (Q : VK) (X : XK) (h : sp_Part___init___1 K vs H Q X) : t_Part___init__ K X { nx := fun _ H' => Q .non H', rt := Q } (L2.start N_Part___init__ vs) H :=
  pure_ofIO (fun x F D a E hrt hnx hP => by
    subst hrt
    exact walk_Part___init___1 T hnx hP) h
theorem len_Part___init___1 (K : PySem.W.Frag) : ∀ vs H Q E, sp_Part___init___1 K vs H Q E → vs.length = 3 := spIO_len fun _ => rfl
theorem pure_Part___init__ (T : Txt K mg) (vs : List V) (H : Hp) (Q : VK) (X : XK) (h : sp_Part___init__ K vs H Q X) : t_Part___init__ K X { nx := fun _ H' => Q .non H', rt := Q } (L2.start N_Part___init__ vs) H := by
  rcases h with h | h
  · exact pure_Part___init___0 T vs H Q X h
  · exact pure_Part___init___1 T vs H Q X h
theorem len_Part___init__ (K : PySem.W.Frag) : ∀ vs H Q E, sp_Part___init__ K vs H Q E → vs.length = 3 := fun vs H Q E h => by
  rcases h with h | h
  · exact len_Part___init___0 K vs H Q E h
  · exact len_Part___init___1 K vs H Q E h
theorem walk_Part_stock (T : Txt K mg) {vself : (Tx × (List (Tx × Rat × Rat × (List (Tx × Rat × Tx)))))} {vself_placed : (List (Tx × (Tx × (Rat × (List (Tx × Rat))))))} {a_vself : Addr} {a_vself_placed : Addr} (hnx : ∀ (F : Hp) (K : PySem.W.Frag) G D1, GoV E.rt F (DN K) D1 → Go E.nx F G D1) (hP : (w_Part_stock K X E.rt a_vself vself a_vself_placed vself_placed D0).W F0 (m_Part_stock vself vself_placed)) :
    Go (t_Part_stock K X E) F0 [some (Is (.ref a_vself))] ((a_vself, OIo_Part K a_vself_placed vself) :: (a_vself_placed, (OXT kS (T2 K (tD K eS) (T2 K (tD K eQ) (VP K (T2 K (tD K eS) (tD K eQ)))))) vself_placed) :: D0) := by
  unfold m_Part_stock at hP
  exact go_retC (w := (w_Part_stock K X E.rt a_vself vself a_vself_placed vself_placed D0)) (Dd := fun _ : Unit => (a_vself, (OIo_Part K a_vself_placed) (vself)) :: (a_vself_placed, (OXT kS (T2 K (tD K eS) (T2 K (tD K eQ) (VP K (T2 K (tD K eS) (tD K eQ)))))) (vself_placed)) :: D0) (s := ()) (fun v _ => v) (evc_fldO (ns := (["name", "own", "placed"] : List PySem.Str)) (j := 1) (fds := [("name", (tD K eS) (vself.1)), ("own", (R_Stock K) (vself.2)), ("placed", Is (.ref a_vself_placed))]) (R := (R_Stock K)) (vself.2) rfl (at_n 0 fun _ => rfl) T.cl_Part T.na_Part_own rfl (by decide +kernel) rfl) hP (fun F v s h => (show GoV _ _ _ _ from h).drop (by walk_at "sub"))
theorem pure_Part_stock (T : Txt K mg) (vs : List V) (H : Hp) (Q : VK) (X : XK) (h : sp_Part_stock K vs H Q X) : t_Part_stock K X { nx := fun _ H' => Q .non H', rt := Q } (L2.start N_Part_stock vs) H :=
  pure_ofXR (fun x F D0 E hrt hnx hP => by
    subst hrt
    exact walk_Part_stock T hnx hP) h
theorem len_Part_stock (K : PySem.W.Frag) : ∀ vs H Q E, sp_Part_stock K vs H Q E → vs.length = 1 := spXR_len fun _ => rfl
theorem walk_Part_faces (T : Txt K mg) {vself : (Tx × (List (Tx × Rat × Rat × (List (Tx × Rat × Tx)))))} {vself_placed : (List (Tx × (Tx × (Rat × (List (Tx × Rat))))))} {a_vself : Addr} {a_vself_placed : Addr} (hnx : ∀ (F : Hp) (K : PySem.W.Frag) G D1, GoV E.rt F (DN K) D1 → Go E.nx F G D1) (hP : (w_Part_faces K X E.rt a_vself vself a_vself_placed vself_placed D0).W F0 (m_Part_faces vself vself_placed)) :
    Go (t_Part_faces K X E) F0 [some (Is (.ref a_vself)), none] ((a_vself, OIo_Part K a_vself_placed vself) :: (a_vself_placed, (OXT kS (T2 K (tD K eS) (T2 K (tD K eQ) (VP K (T2 K (tD K eS) (tD K eQ)))))) vself_placed) :: D0) := by
  unfold m_Part_faces at hP
  exact go_retNC (w := (w_Part_faces K X E.rt a_vself vself a_vself_placed vself_placed D0)) (Dd := fun _ : Unit => (a_vself, (OIo_Part K a_vself_placed) (vself)) :: (a_vself_placed, (OXT kS (T2 K (tD K eS) (T2 K (tD K eQ) (VP K (T2 K (tD K eS) (tD K eQ)))))) (vself_placed)) :: D0) (s := ()) (fun v _ => v) (evnc_lockC (k := kS) (Rv := (T2 K (tD K eS) (T2 K (tD K eQ) (VP K (T2 K (tD K eS) (tD K eQ)))))) (m := vself_placed) (a := a_vself_placed) (at_n 1 fun _ => rfl) fun od kvs => (evnc_lc0 (G1 := (fun x1 => [some (Is (.ref a_vself)), some ((tD K eS) x1)])) (evItc_keysZ (m := vself_placed) kS_at (pt_fld (ns := (["name", "own", "placed"] : List PySem.Str)) (j := 2) (fds := fun _ => [("name", (tD K eS) (vself.1)), ("own", (R_Stock K) (vself.2)), ("placed", Is (.ref a_vself_placed))]) (b := a_vself_placed) rfl (at_n 0 fun _ => rfl) T.cl_Part T.na_Part_placed (fun _ => rfl) (by decide +kernel) (fun _ => rfl)) (at_n 1 fun _ => rfl)) (fun _ => (evW_name (by decide))) (hasC_of (at_n 1 fun _ => rfl)) (fun x1 _ cq => (evc_tupT (Rs := fun x : (Tx × Tx × (Rat × (List (Tx × Rat)))) => [(tD K eS) x.1, (tD K eS) x.2.1, (T2 K (tD K eQ) (VP K (T2 K (tD K eS) (tD K eQ)))) x.2.2]) (n := 3) (g := fun (t : Tx × Tx × (Rat × (List (Tx × Rat))) × Unit) => (t.1, t.2.1, t.2.2.1)) (evac_cons (R := (tD K eS)) (Rs := fun (t : Tx × (Rat × (List (Tx × Rat))) × Unit) => [(tD K eS) t.1, (T2 K (tD K eQ) (VP K (T2 K (tD K eS) (tD K eQ)))) t.2.1]) (evc_var (R := (tD K eS)) (x1) rfl) fun _ => (evac_cons (R := (tD K eS)) (Rs := fun (t : (Rat × (List (Tx × Rat))) × Unit) => [(T2 K (tD K eQ) (VP K (T2 K (tD K eS) (tD K eQ)))) t.1]) (evc_ixT (i := 0) (Rs := fun x : (Tx × (Rat × (List (Tx × Rat)))) => [(tD K eS) x.1, (T2 K (tD K eQ) (VP K (T2 K (tD K eS) (tD K eQ)))) x.2]) (R' := (tD K eS)) (f := fun x => x.1) (evc_dgetT (dw_OZ (k := kS) (Rv := (T2 K (tD K eS) (T2 K (tD K eQ) (VP K (T2 K (tD K eS) (tD K eQ)))))) (m := vself_placed) (at_n 2 fun _ => rfl)) kvS (evc_pt (pt_fld (ns := (["name", "own", "placed"] : List PySem.Str)) (j := 2) (fds := fun _ => [("name", (tD K eS) (vself.1)), ("own", (R_Stock K) (vself.2)), ("placed", Is (.ref a_vself_placed))]) (b := a_vself_placed) rfl (at_n 1 fun _ => rfl) T.cl_Part T.na_Part_placed (fun _ => rfl) (by decide +kernel) (fun _ => rfl))) fun _ => (evc_var (R := (tD K eS)) (x1) rfl)) fun _ => rfl) fun _ => (evac_cons (R := (T2 K (tD K eQ) (VP K (T2 K (tD K eS) (tD K eQ))))) (Rs := fun (t : Unit) => []) (evc_ixT (i := 1) (Rs := fun x : (Tx × (Rat × (List (Tx × Rat)))) => [(tD K eS) x.1, (T2 K (tD K eQ) (VP K (T2 K (tD K eS) (tD K eQ)))) x.2]) (R' := (T2 K (tD K eQ) (VP K (T2 K (tD K eS) (tD K eQ))))) (f := fun x => x.2) (evc_dgetT (dw_OZ (k := kS) (Rv := (T2 K (tD K eS) (T2 K (tD K eQ) (VP K (T2 K (tD K eS) (tD K eQ)))))) (m := vself_placed) (at_n 2 fun _ => rfl)) kvS (evc_pt (pt_fld (ns := (["name", "own", "placed"] : List PySem.Str)) (j := 2) (fds := fun _ => [("name", (tD K eS) (vself.1)), ("own", (R_Stock K) (vself.2)), ("placed", Is (.ref a_vself_placed))]) (b := a_vself_placed) rfl (at_n 1 fun _ => rfl) T.cl_Part T.na_Part_placed (fun _ => rfl) (by decide +kernel) (fun _ => rfl))) fun _ => (evc_var (R := (tD K eS)) (x1) rfl)) fun _ => rfl) fun _ => evac_nil))) (fun _ => rfl))))) hP (fun F v s h => (show GoN _ _ _ _ from h).drop (by walk_at "sub"))
theorem pure_Part_faces (T : Txt K mg) (vs : List V) (H : Hp) (Q : VK) (X : XK) (h : sp_Part_faces K vs H Q X) : t_Part_faces K X { nx := fun _ H' => Q .non H', rt := Q } (L2.start N_Part_faces vs) H :=
  pure_ofXR (fun x F D0 E hrt hnx hP => by
    subst hrt
    exact walk_Part_faces T hnx hP) h
theorem len_Part_faces (K : PySem.W.Frag) : ∀ vs H Q E, sp_Part_faces K vs H Q E → vs.length = 1 := spXR_len fun _ => rfl
theorem walk_Part_check_added (T : Txt K mg) {vself : (Tx × (List (Tx × Rat × Rat × (List (Tx × Rat × Tx)))))} {vself_placed : (List (Tx × (Tx × (Rat × (List (Tx × Rat))))))} {vaxis : Tx} {vadd : (Rat × (List (Tx × Rat)))} {a_vself : Addr} {a_vself_placed : Addr} (hnx : ∀ (F : Hp) (K : PySem.W.Frag) G D1, GoV E.rt F (DN K) D1 → Go E.nx F G D1) (hP : (w_Part_check_added K X E.rt a_vself vself a_vself_placed vself_placed D0).W F0 (m_Part_check_added vself vself_placed vaxis vadd)) :
    Go (t_Part_check_added K X E) F0 [some (Is (.ref a_vself)), some ((tD K eS) vaxis), some ((T2 K (tD K eQ) (VP K (T2 K (tD K eS) (tD K eQ)))) vadd)] ((a_vself, OIo_Part K a_vself_placed vself) :: (a_vself_placed, (OXT kS (T2 K (tD K eS) (T2 K (tD K eQ) (VP K (T2 K (tD K eS) (tD K eQ)))))) vself_placed) :: D0) := by
  unfold m_Part_check_added at hP
  refine go_seq (go_ifC (w := (w_Part_check_added K X E.rt a_vself vself a_vself_placed vself_placed D0)) (evtc_test (evc_notinS sv_P (evc_var (R := (tD K eS)) (vaxis) rfl) fun _ => (evc_conT (R := (VP K (tD K eS))) [sx_11f6ad8e, sx_95cb0bfd] T.c_AXES ((c_V (R := (tD K eS)) (e := eS) c_S) _)))) hP ?_ ?_)
  · intro hP
    walk_at "dd"
    exact go_raiseC (w := (w_Part_check_added K X E.rt a_vself vself a_vself_placed vself_placed D0)) rfl hP (by walk_at "sub")
  · intro hP
    walk_at "dd"
    refine go_next ?_
    walk_at "dd"
    refine go_ifC (w := (w_Part_check_added K X E.rt a_vself vself a_vself_placed vself_placed D0)) (evtc_not (evtc_B (evc_callP (fun _ _ _ _ h => h) (evac_cons (evc_fldO (ns := (["name", "own", "placed"] : List PySem.Str)) (j := 1) (fds := [("name", (tD K eS) (vself.1)), ("own", (R_Stock K) (vself.2)), ("placed", Is (.ref a_vself_placed))]) (R := (R_Stock K)) (vself.2) rfl (at_n 0 fun _ => rfl) T.cl_Part T.na_Part_own rfl (by decide +kernel) rfl) fun _ => (evac_cons (evc_var (R := (T2 K (tD K eQ) (VP K (T2 K (tD K eS) (tD K eQ))))) (vadd) rfl) fun _ => evac_nil)) (fun _ => by walk_at "sub")))) hP ?_ ?_
    · intro hP
      walk_at "dd"
      exact go_raiseC (w := (w_Part_check_added K X E.rt a_vself vself a_vself_placed vself_placed D0)) rfl hP (by walk_at "sub")
    · intro hP
      walk_at "dd"
      refine go_next ?_
      walk_at "dd"
      exact hnx _ K _ _ ((show GoV _ _ _ _ from hP).drop (by walk_at "sub"))
theorem pure_Part_check_added (T : Txt K mg) (vs : List V) (H : Hp) (Q : VK) (X : XK) (h : sp_Part_check_added K vs H Q X) : t_Part_check_added K X { nx := fun _ H' => Q .non H', rt := Q } (L2.start N_Part_check_added vs) H :=
  pure_ofXR (fun x F D0 E hrt hnx hP => by
    subst hrt
    exact walk_Part_check_added T hnx hP) h
theorem len_Part_check_added (K : PySem.W.Frag) : ∀ vs H Q E, sp_Part_check_added K vs H Q E → vs.length = 3 := spXR_len fun _ => rfl
theorem walk_Part_put_face (T : Txt K mg) {vself : (Tx × (List (Tx × Rat × Rat × (List (Tx × Rat × Tx)))))} {vself_placed : (List (Tx × (Tx × (Rat × (List (Tx × Rat))))))} {vname : Tx} {vaxis : Tx} {vstart : (Option Tx)} {vadd : (Rat × (List (Tx × Rat)))} {a_vself : Addr} {a_vself_placed : Addr} (hnx : ∀ (F : Hp) (K : PySem.W.Frag) G D1, GoV E.rt F (DN K) D1 → Go E.nx F G D1) (hP : (w_Part_put_face K X E.rt a_vself vself a_vself_placed D0).W F0 (m_Part_put_face vself vself_placed vname vaxis vstart vadd)) :
    Go (t_Part_put_face K X E) F0 [some (Is (.ref a_vself)), some ((tD K eS) vname), some ((tD K eS) vaxis), some ((OpT K (tD K eS)) vstart), some ((T2 K (tD K eQ) (VP K (T2 K (tD K eS) (tD K eQ)))) vadd), none] ((a_vself, OIo_Part K a_vself_placed vself) :: (a_vself_placed, (OXT kS (T2 K (tD K eS) (T2 K (tD K eQ) (VP K (T2 K (tD K eS) (tD K eQ)))))) vself_placed) :: D0) := by
  unfold m_Part_put_face at hP
  refine go_seq (go_ifC (w := (w_Part_put_face K X E.rt a_vself vself a_vself_placed D0)) (evtc_or (evtc_not (evtc_B (evc_callPE (fun _ _ _ _ h => h) (fun s => vself_placed) (evac_cons (evc_var (R := (tD K eS)) (vname) rfl) fun _ => evac_nil) (fun _ => by walk_at "sub")))) fun _ => (evtc_or (evtc_test (evc_eq enc_S (evc_var (R := (tD K eS)) (vname) rfl) fun _ => (evc_strC sx_39d88b57 rfl))) fun _ => (evtc_B (evc_dinT (dw_O (k := kS) (Rv := (T2 K (tD K eS) (T2 K (tD K eQ) (VP K (T2 K (tD K eS) (tD K eQ)))))) (m := vself_placed) (at_n 1 fun _ => rfl)) kvS (evc_var (R := (tD K eS)) (vname) rfl) fun _ => (evc_pt (pt_fld (ns := (["name", "own", "placed"] : List PySem.Str)) (j := 2) (fds := fun _ => [("name", (tD K eS) (vself.1)), ("own", (R_Stock K) (vself.2)), ("placed", Is (.ref a_vself_placed))]) (b := a_vself_placed) rfl (at_n 0 fun _ => rfl) T.cl_Part T.na_Part_placed (fun _ => rfl) (by decide +kernel) (fun _ => rfl))))))) hP ?_ ?_)
  · intro hP
    walk_at "dd"
    exact go_raiseC (w := (w_Part_put_face K X E.rt a_vself vself a_vself_placed D0)) rfl hP (by walk_at "sub")
  · intro hP
    walk_at "dd"
    refine go_next ?_
    walk_at "dd"
    refine go_seq (go_dropC (w := (w_Part_put_face K X E.rt a_vself vself a_vself_placed D0)) (evc_methXR (sp := sp_Part_check_added K) (C := He.ga K "Part") (m := "check_added") (f := fun (x : Unit) (y : Tx × (Rat × (List (Tx × Rat))) × Unit) (w : Unit) => ((a_vself, vself), (a_vself_placed, vself_placed), y.1, y.2.1, ())) (rest := fun _ _ w => D0) (g := (fun s => vself_placed)) (fun _ _ _ _ h => h) (evc_var (R := fun _ : Unit => Is (.ref a_vself)) () rfl) (fun _ => (evac_cons (evc_var (R := (tD K eS)) (vaxis) rfl) fun _ => (evac_cons (evc_var (R := (T2 K (tD K eQ) (VP K (T2 K (tD K eS) (tD K eQ))))) (vadd) rfl) fun _ => evac_nil))) (recOk_O (at_n 0 fun _ => rfl) (fun _ o F h => by obtain ⟨dx, fs, e0, h2⟩ := h; exact ⟨dx, fs, e0, lookup_off (by rw [h2.1]; show ¬ ("check_added" : PySem.Str) ∈ (["name", "own", "placed"] : List PySem.Str); decide +kernel)⟩)) (fun _ _ w => ((erase_perm (k := 0) rfl).symm.trans ((((erase_perm (k := 0) rfl).symm.trans (((List.Perm.refl _)).cons _))).cons _))) (fun _ => DLe.of (by walk_at "sub")) hdmR0) hP fun x1 hP => ?_)
    walk_at "dd"
    refine go_seq (go_setC (w := (w_Part_put_face K X E.rt a_vself vself a_vself_placed D0)) (evc_var (R := (T2 K (tD K eQ) (VP K (T2 K (tD K eS) (tD K eQ))))) (vadd) rfl) hP fun x2 hP => ?_)
    walk_at "dd"
    refine go_seq (go_join (w := (w_Part_put_face K X E.rt a_vself vself a_vself_placed D0)) (m_Part_put_face_k1 vself_placed vname vaxis) (fun s3 => [some (Is (.ref a_vself)), some ((tD K eS) vname), some ((tD K eS) vaxis), some ((OpT K (tD K eS)) vstart), some ((T2 K (tD K eQ) (VP K (T2 K (tD K eS) (tD K eQ)))) vadd), some ((T2 K (tD K eQ) (VP K (T2 K (tD K eS) (tD K eQ)))) s3)]) (fun s3 => (a_vself, (OIo_Part K a_vself_placed) (vself)) :: (a_vself_placed, (OXT kS (T2 K (tD K eS) (T2 K (tD K eQ) (VP K (T2 K (tD K eS) (tD K eQ)))))) (vself_placed)) :: D0) ?_ ?_)
    · intro F4 t4 s3 hP
      unfold m_Part_put_face_k1 at hP
      walk_at "dd"
      refine go_dputP (w := (w_Part_put_face K X E.rt a_vself vself a_vself_placed D0)) (Dd := fun _ : Unit => (a_vself, (OIo_Part K a_vself_placed) (vself)) :: (a_vself_placed, (OXT kS (T2 K (tD K eS) (T2 K (tD K eQ) (VP K (T2 K (tD K eS) (tD K eQ)))))) (vself_placed)) :: D0) (s := ()) (k := kS) (Rv := (T2 K (tD K eS) (T2 K (tD K eQ) (VP K (T2 K (tD K eS) (tD K eQ)))))) (m := vself_placed) (hkv := kvS) (pt_fld (ns := (["name", "own", "placed"] : List PySem.Str)) (j := 2) (fds := fun _ => [("name", (tD K eS) (vself.1)), ("own", (R_Stock K) (vself.2)), ("placed", Is (.ref a_vself_placed))]) (b := a_vself_placed) rfl (at_n 0 fun _ => rfl) T.cl_Part T.na_Part_placed (fun _ => rfl) (by decide +kernel) (fun _ => rfl)) (evc_tupT (Rs := fun x : (Tx × (Rat × (List (Tx × Rat)))) => [(tD K eS) x.1, (T2 K (tD K eQ) (VP K (T2 K (tD K eS) (tD K eQ)))) x.2]) (n := 2) (g := fun (t : Tx × (Rat × (List (Tx × Rat))) × Unit) => (t.1, t.2.1)) (evac_cons (R := (tD K eS)) (Rs := fun (t : (Rat × (List (Tx × Rat))) × Unit) => [(T2 K (tD K eQ) (VP K (T2 K (tD K eS) (tD K eQ)))) t.1]) (evc_var (R := (tD K eS)) (vaxis) rfl) fun _ => (evac_cons (R := (T2 K (tD K eQ) (VP K (T2 K (tD K eS) (tD K eQ))))) (Rs := fun (t : Unit) => []) (evc_var (R := (T2 K (tD K eQ) (VP K (T2 K (tD K eS) (tD K eQ))))) (s3) rfl) fun _ => evac_nil)) (fun _ => rfl)) (fun _ => (evc_var (R := (tD K eS)) (vname) rfl)) (at_n 1 fun _ => rfl) hP fun x5 hP => ?_
      walk_at "dd"
      exact hnx _ K _ _ ((show GoV _ _ _ _ from hP).drop (by walk_at "sub"))
    · intro hk4
      walk_at "dd"
      refine go_ifC (w := (w_Part_put_face K X E.rt a_vself vself a_vself_placed D0)) (evtc_B (evc_isNNO (evc_var (R := (OpT K (tD K eS))) (vstart) rfl) (isn_D fun _ => (by decide : "str" ≠ "NoneType")))) hP ?_ ?_
      · intro hP
        walk_at "dd"
        refine go_seq (go_ifC (w := (w_Part_put_face K X E.rt a_vself vself a_vself_placed D0)) (evtc_orM (evtc_B (evc_dnotinT (dw_O (k := kS) (Rv := (T2 K (tD K eS) (T2 K (tD K eQ) (VP K (T2 K (tD K eS) (tD K eQ)))))) (m := vself_placed) (at_n 1 fun _ => rfl)) kvS (evc_unop (evc_var (R := (OpT K (tD K eS))) (vstart) rfl)) fun _ => (evc_pt (pt_fld (ns := (["name", "own", "placed"] : List PySem.Str)) (j := 2) (fds := fun _ => [("name", (tD K eS) (vself.1)), ("own", (R_Stock K) (vself.2)), ("placed", Is (.ref a_vself_placed))]) (b := a_vself_placed) rfl (at_n 0 fun _ => rfl) T.cl_Part T.na_Part_placed (fun _ => rfl) (by decide +kernel) (fun _ => rfl))))) fun _ => (evtc_test (evc_ne enc_S (evc_ixT (i := 0) (Rs := fun x : (Tx × (Rat × (List (Tx × Rat)))) => [(tD K eS) x.1, (T2 K (tD K eQ) (VP K (T2 K (tD K eS) (tD K eQ)))) x.2]) (R' := (tD K eS)) (f := fun x => x.1) (evc_dgetT (dw_O (k := kS) (Rv := (T2 K (tD K eS) (T2 K (tD K eQ) (VP K (T2 K (tD K eS) (tD K eQ)))))) (m := vself_placed) (at_n 1 fun _ => rfl)) kvS (evc_pt (pt_fld (ns := (["name", "own", "placed"] : List PySem.Str)) (j := 2) (fds := fun _ => [("name", (tD K eS) (vself.1)), ("own", (R_Stock K) (vself.2)), ("placed", Is (.ref a_vself_placed))]) (b := a_vself_placed) rfl (at_n 0 fun _ => rfl) T.cl_Part T.na_Part_placed (fun _ => rfl) (by decide +kernel) (fun _ => rfl))) fun _ => (evc_unop (evc_var (R := (OpT K (tD K eS))) (vstart) rfl))) fun _ => rfl) fun _ => (evc_var (R := (tD K eS)) (vaxis) rfl)))) hP ?_ ?_)
        · intro hP
          walk_at "dd"
          exact go_raiseC (w := (w_Part_put_face K X E.rt a_vself vself a_vself_placed D0)) rfl hP (by walk_at "sub")
        · intro hP
          walk_at "dd"
          refine go_next ?_
          walk_at "dd"
          refine go_setC (w := (w_Part_put_face K X E.rt a_vself vself a_vself_placed D0)) (evc_callPE (fun _ _ _ _ h => h) (fun s => vself_placed) (evac_cons (evc_ixT (i := 1) (Rs := fun x : (Tx × (Rat × (List (Tx × Rat)))) => [(tD K eS) x.1, (T2 K (tD K eQ) (VP K (T2 K (tD K eS) (tD K eQ)))) x.2]) (R' := (T2 K (tD K eQ) (VP K (T2 K (tD K eS) (tD K eQ))))) (f := fun x => x.2) (evc_dgetT (dw_O (k := kS) (Rv := (T2 K (tD K eS) (T2 K (tD K eQ) (VP K (T2 K (tD K eS) (tD K eQ)))))) (m := vself_placed) (at_n 1 fun _ => rfl)) kvS (evc_pt (pt_fld (ns := (["name", "own", "placed"] : List PySem.Str)) (j := 2) (fds := fun _ => [("name", (tD K eS) (vself.1)), ("own", (R_Stock K) (vself.2)), ("placed", Is (.ref a_vself_placed))]) (b := a_vself_placed) rfl (at_n 0 fun _ => rfl) T.cl_Part T.na_Part_placed (fun _ => rfl) (by decide +kernel) (fun _ => rfl))) fun _ => (evc_unop (evc_var (R := (OpT K (tD K eS))) (vstart) rfl))) fun _ => rfl) fun _ => (evac_cons (evc_var (R := (T2 K (tD K eQ) (VP K (T2 K (tD K eS) (tD K eQ))))) (vadd) rfl) fun _ => evac_nil)) (fun _ => by walk_at "sub")) hP fun x6 hP => ?_
          walk_at "dd"
          exact ((hk4 _ (Same.refl _) x6) hP).weak (by walk_at "sle") (by walk_at "sub")
      · intro hP
        walk_at "dd"
        refine go_next ?_
        walk_at "dd"
        exact ((hk4 _ (Same.refl _) x2) hP).weak (by walk_at "sle") (by walk_at "sub")
theorem pure_Part_put_face (T : Txt K mg) (vs : List V) (H : Hp) (Q : VK) (X : XK) (h : sp_Part_put_face K vs H Q X) : t_Part_put_face K X { nx := fun _ H' => Q .non H', rt := Q } (L2.start N_Part_put_face vs) H :=
  pure_ofX (fun x y F D0 E hrt hnx hP => by
    subst hrt
    exact walk_Part_put_face T hnx hP) h
theorem len_Part_put_face (K : PySem.W.Frag) : ∀ vs H Q E, sp_Part_put_face K vs H Q E → vs.length = 5 := spX_len fun _ => rfl
theorem walk__law_well (T : Txt K mg) {vscript : (List Int)} {vk : Int} (hnx : ∀ (F : Hp) (K : PySem.W.Frag) G D1, GoV E.rt F (DN K) D1 → Go E.nx F G D1) (hP : (w__law_well K X E.rt D0).W F0 (l_well vscript vk)) :
    Go (t__law_well K X E) F0 [some ((LT K (tD K eI)) vscript), some ((tD K eI) vk), none] D0 := by
  unfold l_well at hP
  refine go_seq (go_setC (w := (w__law_well K X E.rt D0)) evc_int hP fun x1 hP => ?_)
  walk_at "dd"
  refine go_seq (go_join (w := (w__law_well K X E.rt D0)) (l_well_k1 vk) (fun s2 => [some ((LT K (tD K eI)) vscript), some ((tD K eI) vk), some ((tD K eI) s2)]) (fun s2 => D0) ?_ ?_)
  · intro F3 t3 s2 hP
    unfold l_well_k1 at hP
    walk_at "dd"
    exact go_retNC (w := (w__law_well K X E.rt D0)) (Dd := fun _ : Unit => D0) (s := ()) (fun v _ => v) (evnc_lst (eval_cons (evc_intB (evc_ge (evc_abs (evc_var (R := (tD K eI)) (s2) rfl)) fun _ => (evc_powC (c := (1000000000000000000 : Int)) (by decide) (by decide +kernel)))) fun _ => (eval_cons (evc_var (R := (tD K eI)) (s2) rfl) fun _ => (eval_cons (evc_mul evc_int fun _ => (evc_var (R := (tD K eI)) (vk) rfl)) fun _ => eval_nil)))) hP (fun F v s h => (show GoN _ _ _ _ from h).drop (by walk_at "sub"))
  · intro hk3
    walk_at "dd"
    refine go_ifC (w := (w__law_well K X E.rt D0)) (evtc_test (evc_lt (evc_var (R := (tD K eI)) (vk) rfl) fun _ => (evc_len sv_LT (evc_var (R := (LT K (tD K eI))) (vscript) rfl)))) hP ?_ ?_
    · intro hP
      walk_at "dd"
      refine go_setC (w := (w__law_well K X E.rt D0)) (evc_ix sv_LT (evc_var (R := (LT K (tD K eI))) (vscript) rfl) fun _ => (evc_var (R := (tD K eI)) (vk) rfl)) hP fun x5 hP => ?_
      walk_at "dd"
      exact ((hk3 _ (Same.refl _) x5) hP).weak (by walk_at "sle") (by walk_at "sub")
    · intro hP
      walk_at "dd"
      refine go_next ?_
      walk_at "dd"
      exact ((hk3 _ (Same.refl _) x1) hP).weak (by walk_at "sle") (by walk_at "sub")
theorem pure__law_well (T : Txt K mg) (vs : List V) (H : Hp) (Q : VK) (X : XK) (h : sp__law_well K vs H Q X) : t__law_well K X { nx := fun _ H' => Q .non H', rt := Q } (L2.start N__law_well vs) H :=
  pure_ofPF (fun x F D E hrt hnx hP => by
    subst hrt
    exact walk__law_well T hnx hP) h
theorem len__law_well (K : PySem.W.Frag) : ∀ vs H Q E, sp__law_well K vs H Q E → vs.length = 2 := spP_len fun _ => rfl
theorem walk__law_take (T : Txt K mg) {vwell_here : (List Int)} {vmany : Int} {Dp : (List Int) → Own} {k : Nat} {a : Addr} (B : Bor1 Dp k a (OLT (tD K eI))) (hnx : ∀ (F : Hp) (K : PySem.W.Frag) G D1, GoV E.rt F (DN K) D1 → Go E.nx F G D1) (hP : (w__law_take K X E.rt Dp).W F0 (l_take vwell_here vmany)) :
    Go (t__law_take K X E) F0 [some (Is (.ref a)), some ((tD K eI) vmany), none, none, none] (Dp vwell_here) := by
  unfold l_take at hP
  refine go_seq (go_ifC (w := (w__law_take K X E.rt Dp)) (evtc_test (evc_eq enc_I (evc_ix (sv_O (Re := (tD K eI)) (xs := vwell_here) (fun _ => B.get1 _)) (evc_var (R := fun _ : Unit => Is (.ref a)) () rfl) fun _ => evc_int) fun _ => evc_int)) hP ?_ ?_)
  · intro hP
    walk_at "dd"
    refine go_seq (go_setC (w := (w__law_take K X E.rt Dp)) (evc_mod (evc_ix (sv_O (Re := (tD K eI)) (xs := vwell_here) (fun _ => B.get1 _)) (evc_var (R := fun _ : Unit => Is (.ref a)) () rfl) fun _ => evc_int) fun _ => (evc_var (R := (tD K eI)) (vmany) rfl)) hP fun x1 hP => ?_)
    walk_at "dd"
    refine go_seq (go_setO1 (w := (w__law_take K X E.rt Dp)) (Dd := fun _ : Unit => Dp (vwell_here)) (s := ()) (R := (tD K eI)) (xs := vwell_here) (n := 0) rfl (evc_div (evc_ix (sv_O (Re := (tD K eI)) (xs := vwell_here) (fun _ => B.get1 _)) (evc_var (R := fun _ : Unit => Is (.ref a)) () rfl) fun _ => evc_int) fun _ => (evc_var (R := (tD K eI)) (vmany) rfl)) (fun _ => evc_int) (fun _ => B.get1 _) hP fun x2 hP => ?_)
    walk_at "dd"
    rw [B.set_]
    exact go_retC (w := (w__law_take K X E.rt Dp)) (Dd := fun _ : Unit => Dp (x2.1)) (s := ()) (fun v _ => (v, x2.1)) (evc_var (R := (tD K eI)) (x1) rfl) hP (fun F v s h => (show GoV _ _ _ _ from h).drop (by walk_at "sub"))
  · intro hP
    walk_at "dd"
    refine go_next ?_
    walk_at "dd"
    refine go_seq (go_setC (w := (w__law_take K X E.rt Dp)) (evc_add (evc_ix (sv_O (Re := (tD K eI)) (xs := vwell_here) (fun _ => B.get1 _)) (evc_var (R := fun _ : Unit => Is (.ref a)) () rfl) fun _ => evc_int) fun _ => evc_int) hP fun x8 hP => ?_)
    walk_at "dd"
    refine go_seq (go_setO1 (w := (w__law_take K X E.rt Dp)) (Dd := fun _ : Unit => Dp (vwell_here)) (s := ()) (R := (tD K eI)) (xs := vwell_here) (n := 0) rfl (evc_var (R := (tD K eI)) (x8) rfl) (fun _ => evc_int) (fun _ => B.get1 _) hP fun x9 hP => ?_)
    walk_at "dd"
    rw [B.set_]
    refine go_seq (go_setC (w := (w__law_take K X E.rt Dp)) (evc_mod (evc_mul (evc_add (evc_add (evc_ix (sv_O (Re := (tD K eI)) (xs := x9.1) (fun _ => B.get1 _)) (evc_var (R := fun _ : Unit => Is (.ref a)) () rfl) fun _ => evc_int) fun _ => (evc_mul (evc_mul evc_int fun _ => (evc_var (R := (tD K eI)) (x8) rfl)) fun _ => (evc_var (R := (tD K eI)) (x8) rfl))) fun _ => (evc_var (R := (tD K eI)) (x8) rfl)) fun _ => evc_int) fun _ => evc_int) hP fun x11 hP => ?_)
    walk_at "dd"
    exact go_retC (w := (w__law_take K X E.rt Dp)) (Dd := fun _ : Unit => Dp (x9.1)) (s := ()) (fun v _ => (v, x9.1)) (evc_mod (evc_div (evc_mod (evc_add (evc_mul (evc_var (R := (tD K eI)) (x11) rfl) fun _ => evc_int) fun _ => evc_int) fun _ => evc_int) fun _ => evc_int) fun _ => (evc_var (R := (tD K eI)) (vmany) rfl)) hP (fun F v s h => (show GoV _ _ _ _ from h).drop (by walk_at "sub"))
theorem pure__law_take (T : Txt K mg) (vs : List V) (H : Hp) (Q : VK) (X : XK) (h : sp__law_take K vs H Q X) : t__law_take K X { nx := fun _ H' => Q .non H', rt := Q } (L2.start N__law_take vs) H :=
  pure_ofCF (fun x y F Dp k a E B hrt hnx hP => by
    subst hrt
    exact walk__law_take T B hnx hP) h
theorem len__law_take (K : PySem.W.Frag) : ∀ vs H Q E, sp__law_take K vs H Q E → vs.length = 2 := spC_len fun _ _ => rfl
theorem walk__law_common (T : Txt K mg) {vone : Int} {vother : Int} (hnx : ∀ (F : Hp) (K : PySem.W.Frag) G D1, GoV E.rt F (DN K) D1 → Go E.nx F G D1) (hP : (w__law_common K X E.rt D0).W F0 (l_common vone vother)) :
    Go (t__law_common K X E) F0 [some ((tD K eI) vone), some ((tD K eI) vother)] D0 := by
  unfold l_common at hP
  refine go_seq (go_whileC (w := (w__law_common K X E.rt D0)) (σt := (Int × Int)) (Mt := fun s1 kk => kk (!decide (s1.2 = (0 : Int))) ()) (mb := l_common_b2) (k := l_common_k1) (fun s1 => [some ((tD K eI) s1.1), some ((tD K eI) s1.2)]) (fun s1 => D0) (vone, vother) Res.fuel (fun s1 => (evtc_test (evc_ne enc_I (evc_var (R := (tD K eI)) (s1.2) rfl) fun _ => evc_int))) hP (by walk_at "sle") (by walk_at "sub") ?_ ?_)
  · intro F3 t3 s1 hP
    unfold l_common_k1 at hP
    walk_at "dd"
    exact go_retC (w := (w__law_common K X E.rt D0)) (Dd := fun _ : Unit => D0) (s := ()) (fun v _ => v) (evc_abs (evc_var (R := (tD K eI)) (s1.1) rfl)) hP (fun F v s h => (show GoV _ _ _ _ from h).drop (by walk_at "sub"))
  · intro hB3 F3 t3 s1 n2 Nx hN3 hP
    unfold l_common_b2 at hP
    walk_at "dd"
    refine go_parC (w := (w__law_common K X E.rt D0)) (evac_cons (evc_var (R := (tD K eI)) (s1.2) rfl) fun _ => (evac_cons (evc_mod (evc_var (R := (tD K eI)) (s1.1) rfl) fun _ => (evc_var (R := (tD K eI)) (s1.2) rfl)) fun _ => evac_nil)) hP fun x4 hP => ?_
    walk_at "dd"
    exact (hN3 _ (Same.refl _) (x4.1, x4.2) hP).weak (by walk_at "sle") (by walk_at "sub")
theorem pure__law_common (T : Txt K mg) (vs : List V) (H : Hp) (Q : VK) (X : XK) (h : sp__law_common K vs H Q X) : t__law_common K X { nx := fun _ H' => Q .non H', rt := Q } (L2.start N__law_common vs) H :=
  pure_ofPF (fun x F D E hrt hnx hP => by
    subst hrt
    exact walk__law_common T hnx hP) h
theorem len__law_common (K : PySem.W.Frag) : ∀ vs H Q E, sp__law_common K vs H Q E → vs.length = 2 := spP_len fun _ => rfl
theorem walk__law_num (T : Txt K mg) {vtop : Int} {vbottom : Int} (hnx : ∀ (F : Hp) (K : PySem.W.Frag) G D1, GoV E.rt F (DN K) D1 → Go E.nx F G D1) (hP : (w__law_num K X E.rt D0).W F0 (l_num_k58 vtop vbottom)) :
    Go (t__law_num K X E) F0 [some ((tD K eI) vtop), some ((tD K eI) vbottom), none] D0 := by
  unfold l_num_k58 at hP
  refine go_seq (go_setC (w := (w__law_num K X E.rt D0)) (evc_callP (fun _ _ _ _ h => h) (evac_cons (evc_var (R := (tD K eI)) (vtop) rfl) fun _ => (evac_cons (evc_var (R := (tD K eI)) (vbottom) rfl) fun _ => evac_nil)) (fun _ => by walk_at "sub")) hP fun x1 hP => ?_)
  walk_at "dd"
  exact go_retC (w := (w__law_num K X E.rt D0)) (Dd := fun _ : Unit => D0) (s := ()) (fun v _ => v) (evc_mkQP (evac_cons (evc_div (evc_var (R := (tD K eI)) (vtop) rfl) fun _ => (evc_var (R := (tD K eI)) (x1) rfl)) fun _ => (evac_cons (evc_div (evc_var (R := (tD K eI)) (vbottom) rfl) fun _ => (evc_var (R := (tD K eI)) (x1) rfl)) fun _ => evac_nil))) hP (fun F v s h => (show GoV _ _ _ _ from h).drop (by walk_at "sub"))
theorem pure__law_num (T : Txt K mg) (vs : List V) (H : Hp) (Q : VK) (X : XK) (h : sp__law_num K vs H Q X) : t__law_num K X { nx := fun _ H' => Q .non H', rt := Q } (L2.start N__law_num vs) H :=
  pure_ofPF (fun x F D E hrt hnx hP => by
    subst hrt
    exact walk__law_num T hnx hP) h
theorem len__law_num (K : PySem.W.Frag) : ∀ vs H Q E, sp__law_num K vs H Q E → vs.length = 2 := spP_len fun _ => rfl
theorem walk__law_add (T : Txt K mg) {vone : Rat} {vother : Rat} (hnx : ∀ (F : Hp) (K : PySem.W.Frag) G D1, GoV E.rt F (DN K) D1 → Go E.nx F G D1) (hP : (w__law_add K X E.rt D0).W F0 (l_add_k16 vone vother)) :
    Go (t__law_add K X E) F0 [some ((tD K eQ) vone), some ((tD K eQ) vother)] D0 := by
  unfold l_add_k16 at hP
  exact go_retC (w := (w__law_add K X E.rt D0)) (Dd := fun _ : Unit => D0) (s := ()) (fun v _ => v) (evc_callP (fun _ _ _ _ h => h) (evac_cons (evc_add (evc_mul (evc_q0 (evc_var (R := (tD K eQ)) (vone) rfl)) fun _ => (evc_q1 (evc_var (R := (tD K eQ)) (vother) rfl))) fun _ => (evc_mul (evc_q0 (evc_var (R := (tD K eQ)) (vother) rfl)) fun _ => (evc_q1 (evc_var (R := (tD K eQ)) (vone) rfl)))) fun _ => (evac_cons (evc_mul (evc_q1 (evc_var (R := (tD K eQ)) (vone) rfl)) fun _ => (evc_q1 (evc_var (R := (tD K eQ)) (vother) rfl))) fun _ => evac_nil)) (fun _ => by walk_at "sub")) hP (fun F v s h => (show GoV _ _ _ _ from h).drop (by walk_at "sub"))
theorem pure__law_add (T : Txt K mg) (vs : List V) (H : Hp) (Q : VK) (X : XK) (h : sp__law_add K vs H Q X) : t__law_add K X { nx := fun _ H' => Q .non H', rt := Q } (L2.start N__law_add vs) H :=
  pure_ofPF (fun x F D E hrt hnx hP => by
    subst hrt
    exact walk__law_add T hnx hP) h
theorem len__law_add (K : PySem.W.Frag) : ∀ vs H Q E, sp__law_add K vs H Q E → vs.length = 2 := spP_len fun _ => rfl
theorem walk__law_number (T : Txt K mg) {vwell_here : (List Int)} {Dp : (List Int) → Own} {k : Nat} {a : Addr} (B : Bor1 Dp k a (OLT (tD K eI))) (hnx : ∀ (F : Hp) (K : PySem.W.Frag) G D1, GoV E.rt F (DN K) D1 → Go E.nx F G D1) (hP : (w__law_number K X E.rt Dp).W F0 (l_number_k16 vwell_here)) :
    Go (t__law_number K X E) F0 [some (Is (.ref a)), none] (Dp vwell_here) := by
  unfold l_number_k16 at hP
  refine go_seq (go_setCS (w := (w__law_number K X E.rt Dp)) (Dd := fun (s : (List Int)) => Dp s) (s := vwell_here) (evc_callC0 (fun _ _ _ _ h => h) B (evac_cons (evc_var (R := fun _ : Unit => Is (.ref a)) () rfl) fun _ => (evac_cons evc_int fun _ => evac_nil)) (fun _ => by walk_at "sub")) hP fun x1 hP => ?_)
  walk_at "dd"
  refine go_seq (go_ifC (w := (w__law_number K X E.rt Dp)) (evtc_test (evc_eq enc_I (evc_var (R := (tD K eI)) (x1.1) rfl) fun _ => evc_int)) hP ?_ ?_)
  · intro hP
    walk_at "dd"
    exact go_retC (w := (w__law_number K X E.rt Dp)) (Dd := fun (s : (List Int)) => Dp s) (s := x1.2) (fun v s => (v, s)) (evc_callPE (fun _ _ _ _ h => h) (fun s => s) (evac_cons (evc_sub (evc_callC0 (fun _ _ _ _ h => h) B (evac_cons (evc_var (R := fun _ : Unit => Is (.ref a)) () rfl) fun _ => (evac_cons (evc_add (evc_mul evc_int fun _ => (evc_powC (c := (1000000000 : Int)) (by decide) (by decide +kernel))) fun _ => evc_int) fun _ => evac_nil)) (fun _ => by walk_at "sub")) fun _ => (evc_powC (c := (1000000000 : Int)) (by decide) (by decide +kernel))) fun _ => (evac_cons (evc_add evc_int fun _ => (evc_callC0 (fun _ _ _ _ h => h) B (evac_cons (evc_var (R := fun _ : Unit => Is (.ref a)) () rfl) fun _ => (evac_cons (evc_powC (c := (100000000 : Int)) (by decide) (by decide +kernel)) fun _ => evac_nil)) (fun _ => by walk_at "sub"))) fun _ => evac_nil)) (fun _ => by walk_at "sub")) hP (fun F v s h => (show GoV _ _ _ _ from h).drop (by walk_at "sub"))
  · intro hP
    walk_at "dd"
    refine go_next ?_
    walk_at "dd"
    refine go_seq (go_ifC (w := (w__law_number K X E.rt Dp)) (evtc_test (evc_gt (evc_var (R := (tD K eI)) (x1.1) rfl) fun _ => evc_int)) hP ?_ ?_)
    · intro hP
      walk_at "dd"
      exact go_retC (w := (w__law_number K X E.rt Dp)) (Dd := fun (s : (List Int)) => Dp s) (s := x1.2) (fun v s => (v, s)) (evc_callPE (fun _ _ _ _ h => h) (fun s => s) (evac_cons (evc_sub (evc_callC0 (fun _ _ _ _ h => h) B (evac_cons (evc_var (R := fun _ : Unit => Is (.ref a)) () rfl) fun _ => (evac_cons evc_int fun _ => evac_nil)) (fun _ => by walk_at "sub")) fun _ => evc_int) fun _ => (evac_cons (evc_add evc_int fun _ => (evc_callC0 (fun _ _ _ _ h => h) B (evac_cons (evc_var (R := fun _ : Unit => Is (.ref a)) () rfl) fun _ => (evac_cons evc_int fun _ => evac_nil)) (fun _ => by walk_at "sub"))) fun _ => evac_nil)) (fun _ => by walk_at "sub")) hP (fun F v s h => (show GoV _ _ _ _ from h).drop (by walk_at "sub"))
    · intro hP
      walk_at "dd"
      refine go_next ?_
      walk_at "dd"
      exact go_retC (w := (w__law_number K X E.rt Dp)) (Dd := fun (s : (List Int)) => Dp s) (s := x1.2) (fun v s => (v, s)) (evc_mkQP (evac_cons (evc_sub (evc_callC0 (fun _ _ _ _ h => h) B (evac_cons (evc_var (R := fun _ : Unit => Is (.ref a)) () rfl) fun _ => (evac_cons evc_int fun _ => evac_nil)) (fun _ => by walk_at "sub")) fun _ => evc_int) fun _ => (evac_cons evc_int fun _ => evac_nil))) hP (fun F v s h => (show GoV _ _ _ _ from h).drop (by walk_at "sub"))
theorem pure__law_number (T : Txt K mg) (vs : List V) (H : Hp) (Q : VK) (X : XK) (h : sp__law_number K vs H Q X) : t__law_number K X { nx := fun _ H' => Q .non H', rt := Q } (L2.start N__law_number vs) H :=
  pure_ofCF (fun x y F Dp k a E B hrt hnx hP => by
    subst hrt
    exact walk__law_number T B hnx hP) h
theorem len__law_number (K : PySem.W.Frag) : ∀ vs H Q E, sp__law_number K vs H Q E → vs.length = 1 := spC_len fun _ _ => rfl
theorem walk__law_word_0 (T : Txt K mg) {vwell_here : (List Int)} {vtaken : (List Tx)} {Dp : (List Int) → Own} {k : Nat} {a : Addr} (B : Bor1 Dp k a (OLT (tD K eI))) (hnx : ∀ (F : Hp) (K : PySem.W.Frag) G D1, GoV E.rt F (DN K) D1 → Go E.nx F G D1) (hP : (w__law_word_0 K X E.rt Dp).W F0 (l_word_k14 vwell_here vtaken)) :
    Go (t__law_word K X E) F0 [some (Is (.ref a)), some ((LT K (tD K eS)) vtaken), none, none, none, none] (Dp vwell_here) := by
  unfold l_word_k14 at hP
  refine go_seq (go_setC (w := (w__law_word_0 K X E.rt Dp)) (evc_strC sx_32d10c7b rfl) hP fun x1 hP => ?_)
  walk_at "dd"
  refine go_seq (go_setC (w := (w__law_word_0 K X E.rt Dp)) (evc_frzLT (evnc_lst (eval_cons (evc_strC sx_39d88b57 rfl) fun _ => (eval_cons (evc_strC sx_267b6efe rfl) fun _ => (eval_cons (evc_strC sx_3fc88b83 rfl) fun _ => (eval_cons (evc_strC sx_95c4bea1 rfl) fun _ => (eval_cons (evc_strC sx_89368e1d rfl) fun _ => (eval_cons (evc_strC sx_11f6ad8e rfl) fun _ => (eval_cons (evc_strC sx_7bc55599 rfl) fun _ => (eval_cons (evc_strC sx_39d88b57 rfl) fun _ => eval_nil)))))))))) hP fun x2 hP => ?_)
  walk_at "dd"
  refine go_seq (go_join (w := (w__law_word_0 K X E.rt Dp)) (l_word_k14_k3 vtaken x1) (fun s4 => [some (Is (.ref a)), some ((LT K (tD K eS)) vtaken), some ((tD K eS) x1), some ((LT K (tD K eS)) x2), none, none]) (fun s4 => Dp (s4)) ?_ ?_)
  · intro F5 t5 s4 hP
    unfold l_word_k14_k3 at hP
    walk_at "dd"
    refine go_seq (go_setCS (w := (w__law_word_0 K X E.rt Dp)) (Dd := fun (s : (List Int)) => Dp s) (s := s4) (evc_join (evc_strC sx_da39a3ee rfl) fun _ => (evc_weak (R' := tD K (eL eS)) (evc_frzLT (evnc_lc0 (G1 := (fun x8 => [some (Is (.ref a)), some ((LT K (tD K eS)) vtaken), some ((tD K eS) x1), some ((LT K (tD K eS)) x2), none, some ((tD K eI) x8)])) (evItc_rng1 (evc_add evc_int fun _ => (evc_callC0 (fun _ _ _ _ h => h) B (evac_cons (evc_var (R := fun _ : Unit => Is (.ref a)) () rfl) fun _ => (evac_cons evc_int fun _ => evac_nil)) (fun _ => by walk_at "sub")))) (fun _ => (evW_name (by decide))) (fun _ _ => trivial) (fun x8 _ cq => (evc_ixS (evc_var (R := (tD K eS)) (x1) rfl) fun _ => (evc_callC (fun _ _ _ _ h => h) (fun _ : (List Int) => ()) (Bor.cons B) (evac_cons (evc_var (R := fun _ : Unit => Is (.ref a)) () rfl) fun _ => (evac_cons evc_int fun _ => evac_nil)) (fun _ => List.nil_sublist _)))))) (d_L (R := (tD K eS)) (e := eS) (d_b (e := eS))))) hP fun x6 hP => ?_)
    walk_at "dd"
    refine go_seq (go_whileC (w := (w__law_word_0 K X E.rt Dp)) (σt := Tx) (Mt := fun s14 kk => kk (decide (s14 ∈ vtaken)) ()) (mb := (l_word_k14_b2 x1)) (k := (l_word_k14_k1 x6)) (fun s14 => [some (Is (.ref a)), some ((LT K (tD K eS)) vtaken), some ((tD K eS) x1), some ((LT K (tD K eS)) x2), some ((tD K eS) s14), none]) (fun s14 => Dp (x6.2)) x6.1 Res.fuel (fun s14 => (evtc_test (evc_inS sv_LT (evc_var (R := (tD K eS)) (s14) rfl) fun _ => (evc_var (R := (LT K (tD K eS))) (vtaken) rfl)))) hP (by walk_at "sle") (by walk_at "sub") ?_ ?_)
    · intro F16 t16 s14 hP
      unfold l_word_k14_k1 at hP
      walk_at "dd"
      exact go_retC (w := (w__law_word_0 K X E.rt Dp)) (Dd := fun _ : Unit => Dp (x6.2)) (s := ()) (fun v _ => (v, x6.2)) (evc_var (R := (tD K eS)) (s14) rfl) hP (fun F v s h => (show GoV _ _ _ _ from h).drop (by walk_at "sub"))
    · intro hB16 F16 t16 s14 n15 Nx hN16 hP
      unfold l_word_k14_b2 at hP
      walk_at "dd"
      refine go_setC (w := (w__law_word_0 K X E.rt Dp)) (evc_addS (evc_slS (evc_var (R := (tD K eS)) (s14) rfl) (fun _ => evo_none) fun _ => (evo_some (evc_neg evc_int))) fun _ => (evc_ixS (evc_var (R := (tD K eS)) (x1) rfl) fun _ => (evc_mod (evc_add (evc_index (evc_var (R := (tD K eS)) (x1) rfl) fun _ => (evc_ixS (evc_var (R := (tD K eS)) (s14) rfl) fun _ => (evc_neg evc_int))) fun _ => evc_int) fun _ => evc_int))) hP fun x17 hP => ?_
      walk_at "dd"
      exact (hN16 _ (Same.refl _) x17 hP).weak (by walk_at "sle") (by walk_at "sub")
  · intro hk5
    walk_at "dd"
    refine go_ifCS (w := (w__law_word_0 K X E.rt Dp)) (Dd := fun (s : (List Int)) => Dp s) (s := vwell_here) (evtc_test (evc_eq enc_I (evc_callC0 (fun _ _ _ _ h => h) B (evac_cons (evc_var (R := fun _ : Unit => Is (.ref a)) () rfl) fun _ => (evac_cons evc_int fun _ => evac_nil)) (fun _ => by walk_at "sub")) fun _ => evc_int)) hP ?_ ?_
    · intro s3 hP
      walk_at "dd"
      refine go_seq (go_setCS (w := (w__law_word_0 K X E.rt Dp)) (Dd := fun (s : (List Int)) => Dp s) (s := s3) (evc_ix sv_LT (evc_var (R := (LT K (tD K eS))) (x2) rfl) fun _ => (evc_callC0 (fun _ _ _ _ h => h) B (evac_cons (evc_var (R := fun _ : Unit => Is (.ref a)) () rfl) fun _ => (evac_cons evc_int fun _ => evac_nil)) (fun _ => by walk_at "sub"))) hP fun x26 hP => ?_)
      walk_at "dd"
      refine go_ifC (w := (w__law_word_0 K X E.rt Dp)) (evtc_test (evc_notinS sv_LT (evc_var (R := (tD K eS)) (x26.1) rfl) fun _ => (evc_var (R := (LT K (tD K eS))) (vtaken) rfl))) hP ?_ ?_
      · intro hP
        walk_at "dd"
        exact go_retC (w := (w__law_word_0 K X E.rt Dp)) (Dd := fun _ : Unit => Dp (x26.2)) (s := ()) (fun v _ => (v, x26.2)) (evc_var (R := (tD K eS)) (x26.1) rfl) hP (fun F v s h => (show GoV _ _ _ _ from h).drop (by walk_at "sub"))
      · intro hP
        walk_at "dd"
        refine go_next ?_
        walk_at "dd"
        exact ((hk5 _ (Same.refl _) x26.2) hP).weak (by walk_at "sle") (by walk_at "sub")
    · intro s3 hP
      walk_at "dd"
      refine go_next ?_
      walk_at "dd"
      exact ((hk5 _ (Same.refl _) s3) hP).weak (by walk_at "sle") (by walk_at "sub")
theorem pure__law_word_0 (T : Txt K mg) (vs : List V) (H : Hp) (Q : VK) (X : XK) (h : sp__law_word_0 K vs H Q X) : t__law_word K X { nx := fun _ H' => Q .non H', rt := Q } (L2.start N__law_word vs) H :=
  pure_ofCF (fun x y F Dp k a E B hrt hnx hP => by
    subst hrt
    exact walk__law_word_0 T B hnx hP) h
theorem len__law_word_0 (K : PySem.W.Frag) : ∀ vs H Q E, sp__law_word_0 K vs H Q E → vs.length = 2 := spC_len fun _ _ => rfl
theorem walk__law_word_1 (T : Txt K mg) {vwell_here : (List Int)} {vtaken : (List Tx)} {Dp : (List Int) → Own} {a_vwell_here : Addr} {k_vwell_here : Nat} {a_vtaken : Addr} {k_vtaken : Nat} (B_vwell_here : Bor Dp k_vwell_here a_vwell_here (OLT (tD K eI)) (fun y => y) (fun y v => v)) (r_vtaken : ∀ y, (Dp y)[k_vtaken]? = some (a_vtaken, (OLT (tD K eS)) vtaken)) (hnx : ∀ (F : Hp) (K : PySem.W.Frag) G D1, GoV E.rt F (DN K) D1 → Go E.nx F G D1) (hP : (w__law_word_1 K X E.rt Dp).W F0 (l_word_k14 vwell_here vtaken)) :
    Go (t__law_word K X E) F0 [some (Is (.ref a_vwell_here)), some (Is (.ref a_vtaken)), none, none, none, none] (Dp vwell_here) := by
  unfold l_word_k14 at hP
  refine go_seq (go_setC (w := (w__law_word_1 K X E.rt Dp)) (evc_strC sx_32d10c7b rfl) hP fun x1 hP => ?_)
  walk_at "dd"
  refine go_seq (go_setC (w := (w__law_word_1 K X E.rt Dp)) (evc_frzLT (evnc_lst (eval_cons (evc_strC sx_39d88b57 rfl) fun _ => (eval_cons (evc_strC sx_267b6efe rfl) fun _ => (eval_cons (evc_strC sx_3fc88b83 rfl) fun _ => (eval_cons (evc_strC sx_95c4bea1 rfl) fun _ => (eval_cons (evc_strC sx_89368e1d rfl) fun _ => (eval_cons (evc_strC sx_11f6ad8e rfl) fun _ => (eval_cons (evc_strC sx_7bc55599 rfl) fun _ => (eval_cons (evc_strC sx_39d88b57 rfl) fun _ => eval_nil)))))))))) hP fun x2 hP => ?_)
  walk_at "dd"
  refine go_seq (go_join (w := (w__law_word_1 K X E.rt Dp)) (l_word_k14_k3 vtaken x1) (fun s4 => [some (Is (.ref a_vwell_here)), some (Is (.ref a_vtaken)), some ((tD K eS) x1), some ((LT K (tD K eS)) x2), none, none]) (fun s4 => Dp (s4)) ?_ ?_)
  · intro F5 t5 s4 hP
    unfold l_word_k14_k3 at hP
    walk_at "dd"
    refine go_seq (go_setCS (w := (w__law_word_1 K X E.rt Dp)) (Dd := fun (s : (List Int)) => Dp s) (s := s4) (evc_join (evc_strC sx_da39a3ee rfl) fun _ => (evc_weak (R' := tD K (eL eS)) (evc_frzLT (evnc_lc0 (G1 := (fun x8 => [some (Is (.ref a_vwell_here)), some (Is (.ref a_vtaken)), some ((tD K eS) x1), some ((LT K (tD K eS)) x2), none, some ((tD K eI) x8)])) (evItc_rng1 (evc_add evc_int fun _ => (evc_callC0 (fun _ _ _ _ h => h) B_vwell_here (evac_cons (evc_var (R := fun _ : Unit => Is (.ref a_vwell_here)) () rfl) fun _ => (evac_cons evc_int fun _ => evac_nil)) (fun _ => by walk_at "sub")))) (fun _ => (evW_name (by decide))) (fun _ _ => trivial) (fun x8 _ cq => (evc_ixS (evc_var (R := (tD K eS)) (x1) rfl) fun _ => (evc_callC (fun _ _ _ _ h => h) (fun _ : (List Int) => ()) (Bor.cons B_vwell_here) (evac_cons (evc_var (R := fun _ : Unit => Is (.ref a_vwell_here)) () rfl) fun _ => (evac_cons evc_int fun _ => evac_nil)) (fun _ => List.nil_sublist _)))))) (d_L (R := (tD K eS)) (e := eS) (d_b (e := eS))))) hP fun x6 hP => ?_)
    walk_at "dd"
    refine go_seq (go_whileC (w := (w__law_word_1 K X E.rt Dp)) (σt := Tx) (Mt := fun s14 kk => kk (decide (s14 ∈ vtaken)) ()) (mb := (l_word_k14_b2 x1)) (k := (l_word_k14_k1 x6)) (fun s14 => [some (Is (.ref a_vwell_here)), some (Is (.ref a_vtaken)), some ((tD K eS) x1), some ((LT K (tD K eS)) x2), some ((tD K eS) s14), none]) (fun s14 => Dp (x6.2)) x6.1 Res.fuel (fun s14 => (evtc_test (evc_inS (sv_O (Re := (tD K eS)) (xs := vtaken) (fun _ => r_vtaken _)) (evc_var (R := (tD K eS)) (s14) rfl) fun _ => (evc_var (R := fun _ : Unit => Is (.ref a_vtaken)) () rfl)))) hP (by walk_at "sle") (by walk_at "sub") ?_ ?_)
    · intro F16 t16 s14 hP
      unfold l_word_k14_k1 at hP
      walk_at "dd"
      exact go_retC (w := (w__law_word_1 K X E.rt Dp)) (Dd := fun _ : Unit => Dp (x6.2)) (s := ()) (fun v _ => (v, x6.2)) (evc_var (R := (tD K eS)) (s14) rfl) hP (fun F v s h => (show GoV _ _ _ _ from h).drop (by walk_at "sub"))
    · intro hB16 F16 t16 s14 n15 Nx hN16 hP
      unfold l_word_k14_b2 at hP
      walk_at "dd"
      refine go_setC (w := (w__law_word_1 K X E.rt Dp)) (evc_addS (evc_slS (evc_var (R := (tD K eS)) (s14) rfl) (fun _ => evo_none) fun _ => (evo_some (evc_neg evc_int))) fun _ => (evc_ixS (evc_var (R := (tD K eS)) (x1) rfl) fun _ => (evc_mod (evc_add (evc_index (evc_var (R := (tD K eS)) (x1) rfl) fun _ => (evc_ixS (evc_var (R := (tD K eS)) (s14) rfl) fun _ => (evc_neg evc_int))) fun _ => evc_int) fun _ => evc_int))) hP fun x17 hP => ?_
      walk_at "dd"
      exact (hN16 _ (Same.refl _) x17 hP).weak (by walk_at "sle") (by walk_at "sub")
  · intro hk5
    walk_at "dd"
    refine go_ifCS (w := (w__law_word_1 K X E.rt Dp)) (Dd := fun (s : (List Int)) => Dp s) (s := vwell_here) (evtc_test (evc_eq enc_I (evc_callC0 (fun _ _ _ _ h => h) B_vwell_here (evac_cons (evc_var (R := fun _ : Unit => Is (.ref a_vwell_here)) () rfl) fun _ => (evac_cons evc_int fun _ => evac_nil)) (fun _ => by walk_at "sub")) fun _ => evc_int)) hP ?_ ?_
    · intro s3 hP
      walk_at "dd"
      refine go_seq (go_setCS (w := (w__law_word_1 K X E.rt Dp)) (Dd := fun (s : (List Int)) => Dp s) (s := s3) (evc_ix sv_LT (evc_var (R := (LT K (tD K eS))) (x2) rfl) fun _ => (evc_callC0 (fun _ _ _ _ h => h) B_vwell_here (evac_cons (evc_var (R := fun _ : Unit => Is (.ref a_vwell_here)) () rfl) fun _ => (evac_cons evc_int fun _ => evac_nil)) (fun _ => by walk_at "sub"))) hP fun x26 hP => ?_)
      walk_at "dd"
      refine go_ifC (w := (w__law_word_1 K X E.rt Dp)) (evtc_test (evc_notinS (sv_O (Re := (tD K eS)) (xs := vtaken) (fun _ => r_vtaken _)) (evc_var (R := (tD K eS)) (x26.1) rfl) fun _ => (evc_var (R := fun _ : Unit => Is (.ref a_vtaken)) () rfl))) hP ?_ ?_
      · intro hP
        walk_at "dd"
        exact go_retC (w := (w__law_word_1 K X E.rt Dp)) (Dd := fun _ : Unit => Dp (x26.2)) (s := ()) (fun v _ => (v, x26.2)) (evc_var (R := (tD K eS)) (x26.1) rfl) hP (fun F v s h => (show GoV _ _ _ _ from h).drop (by walk_at "sub"))
      · intro hP
        walk_at "dd"
        refine go_next ?_
        walk_at "dd"
        exact ((hk5 _ (Same.refl _) x26.2) hP).weak (by walk_at "sle") (by walk_at "sub")
    · intro s3 hP
      walk_at "dd"
      refine go_next ?_
      walk_at "dd"
      exact ((hk5 _ (Same.refl _) s3) hP).weak (by walk_at "sle") (by walk_at "sub")
theorem pure__law_word_1 (T : Txt K mg) (vs : List V) (H : Hp) (Q : VK) (X : XK) (h : sp__law_word_1 K vs H Q X) : t__law_word K X { nx := fun _ H' => Q .non H', rt := Q } (L2.start N__law_word vs) H :=
  pure_ofWrF (fun x y F Dp E hpl hrt hnx hP => by
    subst hrt
    obtain ⟨⟨_, B_vwell_here⟩, ⟨_, r_vtaken⟩, _⟩ := hpl
    exact walk__law_word_1 T B_vwell_here r_vtaken hnx hP) h
theorem len__law_word_1 (K : PySem.W.Frag) : ∀ vs H Q E, sp__law_word_1 K vs H Q E → vs.length = 2 := spM_len fun _ => rfl
theorem pure__law_word (T : Txt K mg) (vs : List V) (H : Hp) (Q : VK) (X : XK) (h : sp__law_word K vs H Q X) : t__law_word K X { nx := fun _ H' => Q .non H', rt := Q } (L2.start N__law_word vs) H := by
  rcases h with h | h
  · exact pure__law_word_0 T vs H Q X h
  · exact pure__law_word_1 T vs H Q X h
theorem len__law_word (K : PySem.W.Frag) : ∀ vs H Q E, sp__law_word K vs H Q E → vs.length = 2 := fun vs H Q E h => by
  rcases h with h | h
  · exact len__law_word_0 K vs H Q E h
  · exact len__law_word_1 K vs H Q E h
theorem walk__law_sizes (T : Txt K mg) {vwell_here : (List Int)} {vmost : Int} {Dp : (List Int) → Own} {k : Nat} {a : Addr} (B : Bor1 Dp k a (OLT (tD K eI))) (hnx : ∀ (F : Hp) (K : PySem.W.Frag) G D1, GoV E.rt F (DN K) D1 → Go E.nx F G D1) (hP : (w__law_sizes K X E.rt Dp).W F0 (l_sizes_k14 vwell_here vmost)) :
    Go (t__law_sizes K X E) F0 [some (Is (.ref a)), some ((tD K eI) vmost), none, none, none, none, none, none, none, none, none, none] (Dp vwell_here) := by
  unfold l_sizes_k14 at hP
  refine go_seq (go_setNC (w := (w__law_sizes K X E.rt Dp)) (evnc_lst0 (R := (tD K eS))) hP fun x1 p2 hP => ?_)
  walk_at "dd"
  refine go_seq (go_setNC (w := (w__law_sizes K X E.rt Dp)) (evnc_lst0 (R := (T4 K (tD K eS) (tD K eQ) (tD K eQ) (VP K (T3 K (tD K eS) (tD K eQ) (tD K eS)))))) hP fun x3 p4 hP => ?_)
  walk_at "dd"
  refine go_seq (go_forCS (w := (w__law_sizes K X E.rt Dp)) (σt := ((List (Tx × Rat × Rat × (List (Tx × Rat × Tx)))) × (List Tx) × (List Int))) (Dd := fun (s : (List Int)) => (p4, (OLT (T4 K (tD K eS) (tD K eQ) (tD K eQ) (VP K (T3 K (tD K eS) (tD K eQ) (tD K eS))))) (x3)) :: (p2, (OLT (tD K eS)) (x1)) :: Dp s) (s := vwell_here) (evItc_rng1 (evc_ix sv_LT (evc_frzLT (evnc_lst (eval_cons evc_int fun _ => (eval_cons evc_int fun _ => (eval_cons evc_int fun _ => (eval_cons evc_int fun _ => (eval_cons evc_int fun _ => (eval_cons evc_int fun _ => (eval_cons evc_int fun _ => (eval_cons evc_int fun _ => eval_nil)))))))))) fun _ => (evc_callC0 (fun _ _ _ _ h => h) (Bor.cons (Bor.cons B)) (evac_cons (evc_var (R := fun _ : Unit => Is (.ref a)) () rfl) fun _ => (evac_cons evc_int fun _ => evac_nil)) (fun _ => by walk_at "sub")))) (fun s6 => [some (Is (.ref a)), some ((tD K eI) vmost), some (Is (.ref p2)), some (Is (.ref p4)), none, none, none, none, none, none, none, none]) (fun s6 => (p4, (OLT (T4 K (tD K eS) (tD K eQ) (tD K eQ) (VP K (T3 K (tD K eS) (tD K eQ) (tD K eS))))) (s6.1)) :: (p2, (OLT (tD K eS)) (s6.2.1)) :: Dp (s6.2.2)) (fun s1 => (x3, x1, s1)) (fun s6 x7 => [some (Is (.ref a)), some ((tD K eI) vmost), some (Is (.ref p2)), some (Is (.ref p4)), some ((tD K eI) x7), none, none, none, none, none, none, none]) hP (fun _ => by walk_at "sle") (fun _ => by walk_at "sub") (fun _ => trivial) (fun _ _ => evG_name) ?_ ?_)
  · intro F9 t9 s6 hP
    unfold l_sizes_k14_k1 at hP
    walk_at "dd"
    refine go_frzLT (K := K) (k := 1) (i := 2) (R := (tD K eS)) rfl rfl ?_
    walk_at "dd"
    walk_at "dd"
    refine go_frzLT (K := K) (k := 0) (i := 3) (R := (T4 K (tD K eS) (tD K eQ) (tD K eQ) (VP K (T3 K (tD K eS) (tD K eQ) (tD K eS))))) rfl rfl ?_
    walk_at "dd"
    walk_at "dd"
    exact go_retC (w := (w__law_sizes K X E.rt Dp)) (Dd := fun _ : Unit => Dp (s6.2.2)) (s := ()) (fun v _ => (v, s6.2.2)) (evc_tupT (Rs := fun x : ((List (Tx × Rat × Rat × (List (Tx × Rat × Tx)))) × (List Tx)) => [(LT K (T4 K (tD K eS) (tD K eQ) (tD K eQ) (VP K (T3 K (tD K eS) (tD K eQ) (tD K eS))))) x.1, (LT K (tD K eS)) x.2]) (n := 2) (g := fun (t : (List (Tx × Rat × Rat × (List (Tx × Rat × Tx)))) × (List Tx) × Unit) => (t.1, t.2.1)) (evac_cons (R := (LT K (T4 K (tD K eS) (tD K eQ) (tD K eQ) (VP K (T3 K (tD K eS) (tD K eQ) (tD K eS)))))) (Rs := fun (t : (List Tx) × Unit) => [(LT K (tD K eS)) t.1]) (evc_var (R := (LT K (T4 K (tD K eS) (tD K eQ) (tD K eQ) (VP K (T3 K (tD K eS) (tD K eQ) (tD K eS)))))) (s6.1) rfl) fun _ => (evac_cons (R := (LT K (tD K eS))) (Rs := fun (t : Unit) => []) (evc_var (R := (LT K (tD K eS))) (s6.2.1) rfl) fun _ => evac_nil)) (fun _ => rfl)) hP (fun F v s h => (show GoV _ _ _ _ from h).drop (by walk_at "sub"))
  · intro hB9 F9 t9 x7 s6 n8 Nx hN9 hP
    unfold l_sizes_k14_b6 at hP
    walk_at "dd"
    refine go_join (w := (w__law_sizes K X E.rt Dp)) (l_sizes_k14_k2 n8) (fun s10 => [some (Is (.ref a)), some ((tD K eI) vmost), some (Is (.ref p2)), some (Is (.ref p4)), some ((tD K eI) x7), none, none, none, none, none, none, none]) (fun s10 => (p4, (OLT (T4 K (tD K eS) (tD K eQ) (tD K eQ) (VP K (T3 K (tD K eS) (tD K eQ) (tD K eS))))) (s10.1)) :: (p2, (OLT (tD K eS)) (s10.2.1)) :: Dp (s10.2.2)) ?_ ?_
    · intro F11 t11 s10 hP
      unfold l_sizes_k14_k2 at hP
      walk_at "dd"
      exact (hN9 _ t11 (s10.1, s10.2.1, s10.2.2) hP).weak (by walk_at "sle") (by walk_at "sub")
    · intro hk11
      walk_at "dd"
      refine go_ifC (w := (w__law_sizes K X E.rt Dp)) (evtc_test (evc_lt (evc_len (sv_O (Re := (tD K eS)) (xs := s6.2.1) (at_n 1 fun _ => rfl)) (evc_var (R := fun _ : Unit => Is (.ref p2)) () rfl)) fun _ => (evc_var (R := (tD K eI)) (vmost) rfl))) hP ?_ ?_
      · intro hP
        walk_at "dd"
        refine go_seq (go_setCS (w := (w__law_sizes K X E.rt Dp)) (Dd := fun (s : (List Int)) => (p4, (OLT (T4 K (tD K eS) (tD K eQ) (tD K eQ) (VP K (T3 K (tD K eS) (tD K eQ) (tD K eS))))) (s6.1)) :: (p2, (OLT (tD K eS)) (s6.2.1)) :: Dp s) (s := s6.2.2) (evc_callMD (sp := sp__law_word K) (f := fun (y : Unit × Unit × Unit) (w : (List Int)) => (a, (p2, s6.2.1), ())) (gt := fun (w : (List Int)) => w) (st := fun (w : (List Int)) (y : (List Int)) => y) (g := (fun (w : (List Int)) (y : (List Int)) => y)) (fun _ _ _ _ h => .inr h) (evac_cons (evc_var (R := fun _ : Unit => Is (.ref a)) () rfl) fun _ => (evac_cons (evc_var (R := fun _ : Unit => Is (.ref p2)) () rfl) fun _ => evac_nil)) (fun _ => rfl) (fun _ w => ⟨⟨_, Bor.sub (Bor.ahead (Bor.ahead (Bor.of1 (gt := fun (w : (List Int)) => w) (st := fun (w : (List Int)) (v : (List Int)) => v) B (fun _ _ => rfl)) (fun _ _ => rfl)) (fun _ _ => rfl)) (f := fun (y : (List Int)) => y) (gt' := fun (y : (List Int)) => y) (st' := fun (y : (List Int)) (v : (List Int)) => v) (fun _ => rfl) (fun _ _ => rfl)⟩, ⟨1, fun y => rfl⟩, trivial⟩) (fun _ _ => DLe.of (by walk_at "sub")) hdR0) hP fun x12 hP => ?_)
        walk_at "dd"
        refine go_seq (go_appC (w := (w__law_sizes K X E.rt Dp)) (Dd := fun _ : Unit => (p4, (OLT (T4 K (tD K eS) (tD K eQ) (tD K eQ) (VP K (T3 K (tD K eS) (tD K eQ) (tD K eS))))) (s6.1)) :: (p2, (OLT (tD K eS)) (s6.2.1)) :: Dp (x12.2)) (s := ()) (R := (tD K eS)) (xs := s6.2.1) (n := 2) rfl (evc_var (R := (tD K eS)) (x12.1) rfl) (at_n 1 fun _ => rfl) hP fun x13 hP => ?_)
        walk_at "dd"
        refine go_seq (go_setCS (w := (w__law_sizes K X E.rt Dp)) (Dd := fun (s : (List Int)) => (p4, (OLT (T4 K (tD K eS) (tD K eQ) (tD K eQ) (VP K (T3 K (tD K eS) (tD K eQ) (tD K eS))))) (s6.1)) :: (p2, (OLT (tD K eS)) (x13.1)) :: Dp s) (s := x12.2) (evc_callC0 (fun _ _ _ _ h => h) (Bor.cons (Bor.cons B)) (evac_cons (evc_var (R := fun _ : Unit => Is (.ref a)) () rfl) fun _ => evac_nil) (fun _ => by walk_at "sub")) hP fun x14 hP => ?_)
        walk_at "dd"
        refine go_seq (go_setCS (w := (w__law_sizes K X E.rt Dp)) (Dd := fun (s : (List Int)) => (p4, (OLT (T4 K (tD K eS) (tD K eQ) (tD K eQ) (VP K (T3 K (tD K eS) (tD K eQ) (tD K eS))))) (s6.1)) :: (p2, (OLT (tD K eS)) (x13.1)) :: Dp s) (s := x14.2) (evc_callC0 (fun _ _ _ _ h => h) (Bor.cons (Bor.cons B)) (evac_cons (evc_var (R := fun _ : Unit => Is (.ref a)) () rfl) fun _ => evac_nil) (fun _ => by walk_at "sub")) hP fun x15 hP => ?_)
        walk_at "dd"
        refine go_seq (go_setNC (w := (w__law_sizes K X E.rt Dp)) (evnc_lst0 (R := (T3 K (tD K eS) (tD K eQ) (tD K eS)))) hP fun x16 p17 hP => ?_)
        walk_at "dd"
        refine go_seq (go_forCS (w := (w__law_sizes K X E.rt Dp)) (σt := ((List (Tx × Rat × Tx)) × (List Tx) × (List Int))) (Dd := fun (s : (List Int)) => (p17, (OLT (T3 K (tD K eS) (tD K eQ) (tD K eS))) (x16)) :: (p4, (OLT (T4 K (tD K eS) (tD K eQ) (tD K eQ) (VP K (T3 K (tD K eS) (tD K eQ) (tD K eS))))) (s6.1)) :: (p2, (OLT (tD K eS)) (x13.1)) :: Dp s) (s := x15.2) (evItc_rng1 (evc_ix sv_LT (evc_frzLT (evnc_lst (eval_cons evc_int fun _ => (eval_cons evc_int fun _ => (eval_cons evc_int fun _ => (eval_cons evc_int fun _ => (eval_cons evc_int fun _ => (eval_cons evc_int fun _ => (eval_cons evc_int fun _ => (eval_cons evc_int fun _ => eval_nil)))))))))) fun _ => (evc_callC0 (fun _ _ _ _ h => h) (Bor.cons (Bor.cons (Bor.cons B))) (evac_cons (evc_var (R := fun _ : Unit => Is (.ref a)) () rfl) fun _ => (evac_cons evc_int fun _ => evac_nil)) (fun _ => by walk_at "sub")))) (fun s19 => [some (Is (.ref a)), some ((tD K eI) vmost), some (Is (.ref p2)), some (Is (.ref p4)), some ((tD K eI) x7), some ((tD K eS) x12.1), some ((tD K eQ) x14.1), some ((tD K eQ) x15.1), some (Is (.ref p17)), none, none, none]) (fun s19 => (p17, (OLT (T3 K (tD K eS) (tD K eQ) (tD K eS))) (s19.1)) :: (p4, (OLT (T4 K (tD K eS) (tD K eQ) (tD K eQ) (VP K (T3 K (tD K eS) (tD K eQ) (tD K eS))))) (s6.1)) :: (p2, (OLT (tD K eS)) (s19.2.1)) :: Dp (s19.2.2)) (fun s1 => (x16, x13.1, s1)) (fun s19 x20 => [some (Is (.ref a)), some ((tD K eI) vmost), some (Is (.ref p2)), some (Is (.ref p4)), some ((tD K eI) x7), some ((tD K eS) x12.1), some ((tD K eQ) x14.1), some ((tD K eQ) x15.1), some (Is (.ref p17)), some ((tD K eI) x20), none, none]) hP (fun _ => by walk_at "sle") (fun _ => by walk_at "sub") (fun _ => trivial) (fun _ _ => evG_name) ?_ ?_)
        · intro F22 t22 s19 hP
          unfold l_sizes_k14_k3 at hP
          walk_at "dd"
          refine go_frzLT (K := K) (k := 0) (i := 8) (R := (T3 K (tD K eS) (tD K eQ) (tD K eS))) rfl rfl ?_
          walk_at "dd"
          walk_at "dd"
          refine go_appC (w := (w__law_sizes K X E.rt Dp)) (Dd := fun _ : Unit => (p4, (OLT (T4 K (tD K eS) (tD K eQ) (tD K eQ) (VP K (T3 K (tD K eS) (tD K eQ) (tD K eS))))) (s6.1)) :: (p2, (OLT (tD K eS)) (s19.2.1)) :: Dp (s19.2.2)) (s := ()) (R := (T4 K (tD K eS) (tD K eQ) (tD K eQ) (VP K (T3 K (tD K eS) (tD K eQ) (tD K eS))))) (xs := s6.1) (n := 3) rfl (evc_tupT (Rs := fun x : (Tx × Rat × Rat × (List (Tx × Rat × Tx))) => [(tD K eS) x.1, (tD K eQ) x.2.1, (tD K eQ) x.2.2.1, (VP K (T3 K (tD K eS) (tD K eQ) (tD K eS))) x.2.2.2]) (n := 4) (g := fun (t : Tx × Rat × Rat × (List (Tx × Rat × Tx)) × Unit) => (t.1, t.2.1, t.2.2.1, t.2.2.2.1)) (evac_cons (R := (tD K eS)) (Rs := fun (t : Rat × Rat × (List (Tx × Rat × Tx)) × Unit) => [(tD K eQ) t.1, (tD K eQ) t.2.1, (VP K (T3 K (tD K eS) (tD K eQ) (tD K eS))) t.2.2.1]) (evc_var (R := (tD K eS)) (x12.1) rfl) fun _ => (evac_cons (R := (tD K eQ)) (Rs := fun (t : Rat × (List (Tx × Rat × Tx)) × Unit) => [(tD K eQ) t.1, (VP K (T3 K (tD K eS) (tD K eQ) (tD K eS))) t.2.1]) (evc_var (R := (tD K eQ)) (x14.1) rfl) fun _ => (evac_cons (R := (tD K eQ)) (Rs := fun (t : (List (Tx × Rat × Tx)) × Unit) => [(VP K (T3 K (tD K eS) (tD K eQ) (tD K eS))) t.1]) (evc_callPE (fun _ _ _ _ h => h) (fun _ => s19.2.2) (evac_cons (evc_var (R := (tD K eQ)) (x14.1) rfl) fun _ => (evac_cons (evc_mkQP (evac_cons (evc_abs (evc_q0 (evc_var (R := (tD K eQ)) (x15.1) rfl))) fun _ => (evac_cons (evc_q1 (evc_var (R := (tD K eQ)) (x15.1) rfl)) fun _ => evac_nil))) fun _ => evac_nil)) (fun _ => by walk_at "sub")) fun _ => (evac_cons (R := (VP K (T3 K (tD K eS) (tD K eQ) (tD K eS)))) (Rs := fun (t : Unit) => []) (evc_tupOf (f := id) (evc_var (R := (LT K (T3 K (tD K eS) (tD K eQ) (tD K eS)))) (s19.1) rfl) tv_l) fun _ => evac_nil)))) (fun _ => rfl)) (at_n 0 fun _ => rfl) hP fun x23 hP => ?_
          walk_at "dd"
          exact ((hk11 _ t22 (x23.1, s19.2.1, s19.2.2)) hP).weak (by walk_at "sle") (by walk_at "sub")
        · intro hB22 F22 t22 x20 s19 n21 Nx hN22 hP
          unfold l_sizes_k14_b5 at hP
          walk_at "dd"
          refine go_join (w := (w__law_sizes K X E.rt Dp)) (l_sizes_k14_k4 n21) (fun s26 => [some (Is (.ref a)), some ((tD K eI) vmost), some (Is (.ref p2)), some (Is (.ref p4)), some ((tD K eI) x7), some ((tD K eS) x12.1), some ((tD K eQ) x14.1), some ((tD K eQ) x15.1), some (Is (.ref p17)), some ((tD K eI) x20), none, none]) (fun s26 => (p17, (OLT (T3 K (tD K eS) (tD K eQ) (tD K eS))) (s26.1)) :: (p4, (OLT (T4 K (tD K eS) (tD K eQ) (tD K eQ) (VP K (T3 K (tD K eS) (tD K eQ) (tD K eS))))) (s6.1)) :: (p2, (OLT (tD K eS)) (s26.2.1)) :: Dp (s26.2.2)) ?_ ?_
          · intro F27 t27 s26 hP
            unfold l_sizes_k14_k4 at hP
            walk_at "dd"
            exact (hN22 _ t27 (s26.1, s26.2.1, s26.2.2) hP).weak (by walk_at "sle") (by walk_at "sub")
          · intro hk27
            walk_at "dd"
            refine go_ifC (w := (w__law_sizes K X E.rt Dp)) (evtc_test (evc_lt (evc_len (sv_O (Re := (tD K eS)) (xs := s19.2.1) (at_n 2 fun _ => rfl)) (evc_var (R := fun _ : Unit => Is (.ref p2)) () rfl)) fun _ => (evc_var (R := (tD K eI)) (vmost) rfl))) hP ?_ ?_
            · intro hP
              walk_at "dd"
              refine go_seq (go_appC (w := (w__law_sizes K X E.rt Dp)) (Dd := fun (s : (List Int)) => (p17, (OLT (T3 K (tD K eS) (tD K eQ) (tD K eS))) (s19.1)) :: (p4, (OLT (T4 K (tD K eS) (tD K eQ) (tD K eQ) (VP K (T3 K (tD K eS) (tD K eQ) (tD K eS))))) (s6.1)) :: (p2, (OLT (tD K eS)) (s19.2.1)) :: Dp s) (s := s19.2.2) (R := (tD K eS)) (xs := s19.2.1) (n := 2) rfl (evc_callMD (sp := sp__law_word K) (f := fun (y : Unit × Unit × Unit) (w : (List Int)) => (a, (p2, s19.2.1), ())) (gt := fun (w : (List Int)) => w) (st := fun (w : (List Int)) (y : (List Int)) => y) (g := (fun (w : (List Int)) (y : (List Int)) => y)) (fun _ _ _ _ h => .inr h) (evac_cons (evc_var (R := fun _ : Unit => Is (.ref a)) () rfl) fun _ => (evac_cons (evc_var (R := fun _ : Unit => Is (.ref p2)) () rfl) fun _ => evac_nil)) (fun _ => rfl) (fun _ w => ⟨⟨_, Bor.sub (Bor.ahead (Bor.ahead (Bor.ahead (Bor.of1 (gt := fun (w : (List Int)) => w) (st := fun (w : (List Int)) (v : (List Int)) => v) B (fun _ _ => rfl)) (fun _ _ => rfl)) (fun _ _ => rfl)) (fun _ _ => rfl)) (f := fun (y : (List Int)) => y) (gt' := fun (y : (List Int)) => y) (st' := fun (y : (List Int)) (v : (List Int)) => v) (fun _ => rfl) (fun _ _ => rfl)⟩, ⟨2, fun y => rfl⟩, trivial⟩) (fun _ _ => DLe.of (by walk_at "sub")) hdR0) (at_n 2 fun _ => rfl) hP fun x28 hP => ?_)
              walk_at "dd"
              refine go_seq (go_setCS (w := (w__law_sizes K X E.rt Dp)) (Dd := fun (s : (List Int)) => (p17, (OLT (T3 K (tD K eS) (tD K eQ) (tD K eS))) (s19.1)) :: (p4, (OLT (T4 K (tD K eS) (tD K eQ) (tD K eQ) (VP K (T3 K (tD K eS) (tD K eQ) (tD K eS))))) (s6.1)) :: (p2, (OLT (tD K eS)) (x28.1)) :: Dp s) (s := x28.2) (evc_callC0 (fun _ _ _ _ h => h) (Bor.cons (Bor.cons (Bor.cons B))) (evac_cons (evc_var (R := fun _ : Unit => Is (.ref a)) () rfl) fun _ => evac_nil) (fun _ => by walk_at "sub")) hP fun x29 hP => ?_)
              walk_at "dd"
              refine go_seq (go_setCS (w := (w__law_sizes K X E.rt Dp)) (Dd := fun (s : (List Int)) => (p17, (OLT (T3 K (tD K eS) (tD K eQ) (tD K eS))) (s19.1)) :: (p4, (OLT (T4 K (tD K eS) (tD K eQ) (tD K eQ) (VP K (T3 K (tD K eS) (tD K eQ) (tD K eS))))) (s6.1)) :: (p2, (OLT (tD K eS)) (x28.1)) :: Dp s) (s := x29.2) (evc_ix sv_LT (evc_frzLT (evnc_lst (eval_cons (evc_strC sx_7bc55599 rfl) fun _ => (eval_cons (evc_strC sx_95c4bea1 rfl) fun _ => (eval_cons (evc_strC sx_89f6229a rfl) fun _ => eval_nil))))) fun _ => (evc_callC0 (fun _ _ _ _ h => h) (Bor.cons (Bor.cons (Bor.cons B))) (evac_cons (evc_var (R := fun _ : Unit => Is (.ref a)) () rfl) fun _ => (evac_cons evc_int fun _ => evac_nil)) (fun _ => by walk_at "sub"))) hP fun x30 hP => ?_)
              walk_at "dd"
              refine go_appC (w := (w__law_sizes K X E.rt Dp)) (Dd := fun _ : Unit => (p17, (OLT (T3 K (tD K eS) (tD K eQ) (tD K eS))) (s19.1)) :: (p4, (OLT (T4 K (tD K eS) (tD K eQ) (tD K eQ) (VP K (T3 K (tD K eS) (tD K eQ) (tD K eS))))) (s6.1)) :: (p2, (OLT (tD K eS)) (x28.1)) :: Dp (x30.2)) (s := ()) (R := (T3 K (tD K eS) (tD K eQ) (tD K eS))) (xs := s19.1) (n := 8) rfl (evc_tupT (Rs := fun x : (Tx × Rat × Tx) => [(tD K eS) x.1, (tD K eQ) x.2.1, (tD K eS) x.2.2]) (n := 3) (g := fun (t : Tx × Rat × Tx × Unit) => (t.1, t.2.1, t.2.2.1)) (evac_cons (R := (tD K eS)) (Rs := fun (t : Rat × Tx × Unit) => [(tD K eQ) t.1, (tD K eS) t.2.1]) (evc_ix (sv_O (Re := (tD K eS)) (xs := x28.1) (at_n 2 fun _ => rfl)) (evc_var (R := fun _ : Unit => Is (.ref p2)) () rfl) fun _ => (evc_neg evc_int)) fun _ => (evac_cons (R := (tD K eQ)) (Rs := fun (t : Tx × Unit) => [(tD K eS) t.1]) (evc_mkQP (evac_cons (evc_abs (evc_q0 (evc_var (R := (tD K eQ)) (x29.1) rfl))) fun _ => (evac_cons (evc_q1 (evc_var (R := (tD K eQ)) (x29.1) rfl)) fun _ => evac_nil))) fun _ => (evac_cons (R := (tD K eS)) (Rs := fun (t : Unit) => []) (evc_var (R := (tD K eS)) (x30.1) rfl) fun _ => evac_nil))) (fun _ => rfl)) (at_n 0 fun _ => rfl) hP fun x31 hP => ?_
              walk_at "dd"
              exact ((hk27 _ (Same.refl _) (x31.1, x28.1, x30.2)) hP).weak (by walk_at "sle") (by walk_at "sub")
            · intro hP
              walk_at "dd"
              refine go_next ?_
              walk_at "dd"
              exact ((hk27 _ (Same.refl _) (s19.1, s19.2.1, s19.2.2)) hP).weak (by walk_at "sle") (by walk_at "sub")
      · intro hP
        walk_at "dd"
        refine go_next ?_
        walk_at "dd"
        exact ((hk11 _ (Same.refl _) (s6.1, s6.2.1, s6.2.2)) hP).weak (by walk_at "sle") (by walk_at "sub")
theorem pure__law_sizes (T : Txt K mg) (vs : List V) (H : Hp) (Q : VK) (X : XK) (h : sp__law_sizes K vs H Q X) : t__law_sizes K X { nx := fun _ H' => Q .non H', rt := Q } (L2.start N__law_sizes vs) H :=
  pure_ofCF (fun x y F Dp k a E B hrt hnx hP => by
    subst hrt
    exact walk__law_sizes T B hnx hP) h
theorem len__law_sizes (K : PySem.W.Frag) : ∀ vs H Q E, sp__law_sizes K vs H Q E → vs.length = 2 := spC_len fun _ _ => rfl
theorem walk__law_sum (T : Txt K mg) {vwell_here : (List Int)} {vnames : (List Tx)} {Dp : (List Int) → Own} {k : Nat} {a : Addr} (B : Bor1 Dp k a (OLT (tD K eI))) (hnx : ∀ (F : Hp) (K : PySem.W.Frag) G D1, GoV E.rt F (DN K) D1 → Go E.nx F G D1) (hP : (w__law_sum K X E.rt Dp).W F0 (l_sum_k16 vwell_here vnames)) :
    Go (t__law_sum K X E) F0 [some (Is (.ref a)), some ((LT K (tD K eS)) vnames), none, none, none, none] (Dp vwell_here) := by
  unfold l_sum_k16 at hP
  refine go_seq (go_setNC (w := (w__law_sum K X E.rt Dp)) (evnc_lst0 (R := (T2 K (tD K eS) (tD K eQ)))) hP fun x1 p2 hP => ?_)
  walk_at "dd"
  refine go_seq (go_forC (w := (w__law_sum K X E.rt Dp)) (σt := ((List (Tx × Rat)) × (List Int))) (evItc_l (evc_weak (evc_sortS lv_LT (evc_var (R := (LT K (tD K eS))) (vnames) rfl)) (u_L (R := (tD K eS)) (e := eS) (u_b (e := eS))))) (fun s3 => [some (Is (.ref a)), some ((LT K (tD K eS)) vnames), some (Is (.ref p2)), none, none, none]) (fun s3 => (p2, (OLT (T2 K (tD K eS) (tD K eQ))) (s3.1)) :: Dp (s3.2)) (x1, vwell_here) (fun s3 x4 => [some (Is (.ref a)), some ((LT K (tD K eS)) vnames), some (Is (.ref p2)), some ((tD K eS) x4), none, none]) hP (by walk_at "sle") (by walk_at "sub") (fun _ => trivial) (fun _ _ => evG_name) ?_ ?_)
  · intro F6 t6 s3 hP
    unfold l_sum_k16_k1 at hP
    walk_at "dd"
    refine go_frzLT (K := K) (k := 0) (i := 2) (R := (T2 K (tD K eS) (tD K eQ))) rfl rfl ?_
    walk_at "dd"
    walk_at "dd"
    exact go_retC (w := (w__law_sum K X E.rt Dp)) (Dd := fun (s : (List Int)) => Dp s) (s := s3.2) (fun v s => (v, s)) (evc_tupT (Rs := fun x : (Rat × (List (Tx × Rat))) => [(tD K eQ) x.1, (VP K (T2 K (tD K eS) (tD K eQ))) x.2]) (n := 2) (g := fun (t : Rat × (List (Tx × Rat)) × Unit) => (t.1, t.2.1)) (evac_cons (R := (tD K eQ)) (Rs := fun (t : (List (Tx × Rat)) × Unit) => [(VP K (T2 K (tD K eS) (tD K eQ))) t.1]) (evc_callC0 (fun _ _ _ _ h => h) B (evac_cons (evc_var (R := fun _ : Unit => Is (.ref a)) () rfl) fun _ => evac_nil) (fun _ => by walk_at "sub")) fun _ => (evac_cons (R := (VP K (T2 K (tD K eS) (tD K eQ)))) (Rs := fun (t : Unit) => []) (evc_tupOf (f := id) (evc_var (R := (LT K (T2 K (tD K eS) (tD K eQ)))) (s3.1) rfl) tv_l) fun _ => evac_nil)) (fun _ => rfl)) hP (fun F v s h => (show GoV _ _ _ _ from h).drop (by walk_at "sub"))
  · intro hB6 F6 t6 x4 s3 n5 Nx hN6 hP
    unfold l_sum_k16_b4 at hP
    walk_at "dd"
    refine go_seq (go_setCS (w := (w__law_sum K X E.rt Dp)) (Dd := fun (s : (List Int)) => (p2, (OLT (T2 K (tD K eS) (tD K eQ))) (s3.1)) :: Dp s) (s := s3.2) (evc_callC0 (fun _ _ _ _ h => h) (Bor.cons B) (evac_cons (evc_var (R := fun _ : Unit => Is (.ref a)) () rfl) fun _ => (evac_cons evc_int fun _ => evac_nil)) (fun _ => by walk_at "sub")) hP fun x8 hP => ?_)
    walk_at "dd"
    refine go_seq (go_setC (w := (w__law_sum K X E.rt Dp)) (evc_ix sv_LT (evc_frzLT (evnc_lst (eval_cons (evc_litQP (0 : Rat) (by decide +kernel) (by decide +kernel)) fun _ => (eval_cons (evc_litQP (0 : Rat) (by decide +kernel) (by decide +kernel)) fun _ => (eval_cons (evc_litQP (1 : Rat) (by decide +kernel) (by decide +kernel)) fun _ => (eval_cons (evc_mkQP (evac_cons (evc_neg evc_int) fun _ => (evac_cons evc_int fun _ => evac_nil))) fun _ => (eval_cons (evc_litQP (2 : Rat) (by decide +kernel) (by decide +kernel)) fun _ => (eval_cons (evc_litQP (0 : Rat) (by decide +kernel) (by decide +kernel)) fun _ => eval_nil)))))))) fun _ => (evc_var (R := (tD K eI)) (x8.1) rfl)) hP fun x9 hP => ?_)
    walk_at "dd"
    refine go_seq (go_join (w := (w__law_sum K X E.rt Dp)) (l_sum_k16_k3 s3 x4 n5) (fun s10 => [some (Is (.ref a)), some ((LT K (tD K eS)) vnames), some (Is (.ref p2)), some ((tD K eS) x4), some ((tD K eI) x8.1), some ((tD K eQ) s10.1)]) (fun s10 => (p2, (OLT (T2 K (tD K eS) (tD K eQ))) (s3.1)) :: Dp (s10.2)) ?_ ?_)
    · intro F11 t11 s10 hP
      unfold l_sum_k16_k3 at hP
      walk_at "dd"
      refine go_join (w := (w__law_sum K X E.rt Dp)) (l_sum_k16_k2 n5 s10) (fun s12 => [some (Is (.ref a)), some ((LT K (tD K eS)) vnames), some (Is (.ref p2)), some ((tD K eS) x4), some ((tD K eI) x8.1), some ((tD K eQ) s10.1)]) (fun s12 => (p2, (OLT (T2 K (tD K eS) (tD K eQ))) (s12)) :: Dp (s10.2)) ?_ ?_
      · intro F13 t13 s12 hP
        unfold l_sum_k16_k2 at hP
        walk_at "dd"
        exact (hN6 _ (t11.trans t13) (s12, s10.2) hP).weak (by walk_at "sle") (by walk_at "sub")
      · intro hk13
        walk_at "dd"
        refine go_ifC (w := (w__law_sum K X E.rt Dp)) (evtc_test (evc_ne enc_I (evc_q0 (evc_var (R := (tD K eQ)) (s10.1) rfl)) fun _ => evc_int)) hP ?_ ?_
        · intro hP
          walk_at "dd"
          refine go_appC (w := (w__law_sum K X E.rt Dp)) (Dd := fun _ : Unit => (p2, (OLT (T2 K (tD K eS) (tD K eQ))) (s3.1)) :: Dp (s10.2)) (s := ()) (R := (T2 K (tD K eS) (tD K eQ))) (xs := s3.1) (n := 2) rfl (evc_tupT (Rs := fun x : (Tx × Rat) => [(tD K eS) x.1, (tD K eQ) x.2]) (n := 2) (g := fun (t : Tx × Rat × Unit) => (t.1, t.2.1)) (evac_cons (R := (tD K eS)) (Rs := fun (t : Rat × Unit) => [(tD K eQ) t.1]) (evc_var (R := (tD K eS)) (x4) rfl) fun _ => (evac_cons (R := (tD K eQ)) (Rs := fun (t : Unit) => []) (evc_var (R := (tD K eQ)) (s10.1) rfl) fun _ => evac_nil)) (fun _ => rfl)) (at_n 0 fun _ => rfl) hP fun x14 hP => ?_
          walk_at "dd"
          exact ((hk13 _ (Same.refl _) x14.1) hP).weak (by walk_at "sle") (by walk_at "sub")
        · intro hP
          walk_at "dd"
          refine go_next ?_
          walk_at "dd"
          exact ((hk13 _ (Same.refl _) s3.1) hP).weak (by walk_at "sle") (by walk_at "sub")
    · intro hk11
      walk_at "dd"
      refine go_ifC (w := (w__law_sum K X E.rt Dp)) (evtc_test (evc_eq enc_I (evc_var (R := (tD K eI)) (x8.1) rfl) fun _ => evc_int)) hP ?_ ?_
      · intro hP
        walk_at "dd"
        refine go_setCS (w := (w__law_sum K X E.rt Dp)) (Dd := fun (s : (List Int)) => (p2, (OLT (T2 K (tD K eS) (tD K eQ))) (s3.1)) :: Dp s) (s := x8.2) (evc_callC0 (fun _ _ _ _ h => h) (Bor.cons B) (evac_cons (evc_var (R := fun _ : Unit => Is (.ref a)) () rfl) fun _ => evac_nil) (fun _ => by walk_at "sub")) hP fun x15 hP => ?_
        walk_at "dd"
        exact ((hk11 _ (Same.refl _) (x15.1, x15.2)) hP).weak (by walk_at "sle") (by walk_at "sub")
      · intro hP
        walk_at "dd"
        refine go_next ?_
        walk_at "dd"
        exact ((hk11 _ (Same.refl _) (x9, x8.2)) hP).weak (by walk_at "sle") (by walk_at "sub")
theorem pure__law_sum (T : Txt K mg) (vs : List V) (H : Hp) (Q : VK) (X : XK) (h : sp__law_sum K vs H Q X) : t__law_sum K X { nx := fun _ H' => Q .non H', rt := Q } (L2.start N__law_sum vs) H :=
  pure_ofCF (fun x y F Dp k a E B hrt hnx hP => by
    subst hrt
    exact walk__law_sum T B hnx hP) h
theorem len__law_sum (K : PySem.W.Frag) : ∀ vs H Q E, sp__law_sum K vs H Q E → vs.length = 2 := spC_len fun _ _ => rfl
theorem walk__law_plus (T : Txt K mg) {vone : (Rat × (List (Tx × Rat)))} {vother : (Rat × (List (Tx × Rat)))} {vsign : Int} (hnx : ∀ (F : Hp) (K : PySem.W.Frag) G D1, GoV E.rt F (DN K) D1 → Go E.nx F G D1) (hP : (w__law_plus K X E.rt D0).W F0 (l_plus vone vother vsign)) :
    Go (t__law_plus K X E) F0 [some ((T2 K (tD K eQ) (VP K (T2 K (tD K eS) (tD K eQ)))) vone), some ((T2 K (tD K eQ) (VP K (T2 K (tD K eS) (tD K eQ)))) vother), some ((tD K eI) vsign), none, none, none, none] D0 := by
  unfold l_plus at hP
  refine go_seq (go_setNC (w := (w__law_plus K X E.rt D0)) (evnc_dctP kvS (evc_ixT (i := 1) (Rs := fun x : (Rat × (List (Tx × Rat))) => [(tD K eQ) x.1, (VP K (T2 K (tD K eS) (tD K eQ))) x.2]) (R' := (VP K (T2 K (tD K eS) (tD K eQ)))) (f := fun x => x.2) (evc_var (R := (T2 K (tD K eQ) (VP K (T2 K (tD K eS) (tD K eQ))))) (vone) rfl) fun _ => rfl)) hP fun x1 p2 hP => ?_)
  walk_at "dd"
  refine go_seq (go_forC (w := (w__law_plus K X E.rt D0)) (σt := (List (Tx × Rat))) (evItc_p (evc_ixT (i := 1) (Rs := fun x : (Rat × (List (Tx × Rat))) => [(tD K eQ) x.1, (VP K (T2 K (tD K eS) (tD K eQ))) x.2]) (R' := (VP K (T2 K (tD K eS) (tD K eQ)))) (f := fun x => x.2) (evc_var (R := (T2 K (tD K eQ) (VP K (T2 K (tD K eS) (tD K eQ))))) (vother) rfl) fun _ => rfl)) (fun s3 => [some ((T2 K (tD K eQ) (VP K (T2 K (tD K eS) (tD K eQ)))) vone), some ((T2 K (tD K eQ) (VP K (T2 K (tD K eS) (tD K eQ)))) vother), some ((tD K eI) vsign), some (Is (.ref p2)), none, none, none]) (fun s3 => (p2, (OXT kS (tD K eQ)) (s3)) :: D0) x1 (fun s3 x4 => [some ((T2 K (tD K eQ) (VP K (T2 K (tD K eS) (tD K eQ)))) vone), some ((T2 K (tD K eQ) (VP K (T2 K (tD K eS) (tD K eQ)))) vother), some ((tD K eI) vsign), some (Is (.ref p2)), some ((tD K eS) x4.1), some ((tD K eQ) x4.2), none]) hP (by walk_at "sle") (by walk_at "sub") (fun _ => trivial) (fun _ _ => (evG_tupT (evGsT_cons evG_name (evGsT_cons evG_name evGsT_nil)) rfl)) ?_ ?_)
  · intro F6 t6 s3 hP
    unfold l_plus_k1 at hP
    walk_at "dd"
    refine go_seq ?_
    walk_at "dd"
    refine go_frzDT (j := 0) (i := 3) (k := kS) (Rv := (tD K eQ)) rfl rfl ?_
    walk_at "dd"
    refine go_setC (w := (w__law_plus K X E.rt D0)) (evc_tupOf (f := id) (evc_frzLT (evnc_lc (G1 := (fun x8 => [some ((T2 K (tD K eQ) (VP K (T2 K (tD K eS) (tD K eQ)))) vone), some ((T2 K (tD K eQ) (VP K (T2 K (tD K eS) (tD K eQ)))) vother), some ((tD K eI) vsign), some ((DT kS (tD K eQ)) s3), some ((tD K eS) x8), none, none])) (evItc_l (evc_sortDT dw_Z (evc_var (R := (DT kS (tD K eQ))) (s3) rfl))) (fun _ => (evW_name (by decide))) (fun _ _ => trivial) (fun x8 _ cq => (evtc_test (evc_ne enc_I (evc_q0 (evc_dgetT dw_Z kvS (evc_var (R := (DT kS (tD K eQ))) (s3) rfl) fun _ => (evc_var (R := (tD K eS)) (x8) rfl))) fun _ => evc_int))) (fun x8 _ cq => (evc_tupT (Rs := fun x : (Tx × Rat) => [(tD K eS) x.1, (tD K eQ) x.2]) (n := 2) (g := fun (t : Tx × Rat × Unit) => (t.1, t.2.1)) (evac_cons (R := (tD K eS)) (Rs := fun (t : Rat × Unit) => [(tD K eQ) t.1]) (evc_var (R := (tD K eS)) (x8) rfl) fun _ => (evac_cons (R := (tD K eQ)) (Rs := fun (t : Unit) => []) (evc_dgetT dw_Z kvS (evc_var (R := (DT kS (tD K eQ))) (s3) rfl) fun _ => (evc_var (R := (tD K eS)) (x8) rfl)) fun _ => evac_nil)) (fun _ => rfl))))) tv_l) hP fun x7 hP => ?_
    walk_at "dd"
    exact go_retC (w := (w__law_plus K X E.rt D0)) (Dd := fun _ : Unit => D0) (s := ()) (fun v _ => v) (evc_tupT (Rs := fun x : (Rat × (List (Tx × Rat))) => [(tD K eQ) x.1, (VP K (T2 K (tD K eS) (tD K eQ))) x.2]) (n := 2) (g := fun (t : Rat × (List (Tx × Rat)) × Unit) => (t.1, t.2.1)) (evac_cons (R := (tD K eQ)) (Rs := fun (t : (List (Tx × Rat)) × Unit) => [(VP K (T2 K (tD K eS) (tD K eQ))) t.1]) (evc_callP (fun _ _ _ _ h => h) (evac_cons (evc_ixT (i := 0) (Rs := fun x : (Rat × (List (Tx × Rat))) => [(tD K eQ) x.1, (VP K (T2 K (tD K eS) (tD K eQ))) x.2]) (R' := (tD K eQ)) (f := fun x => x.1) (evc_var (R := (T2 K (tD K eQ) (VP K (T2 K (tD K eS) (tD K eQ))))) (vone) rfl) fun _ => rfl) fun _ => (evac_cons (evc_mkQP (evac_cons (evc_mul (evc_var (R := (tD K eI)) (vsign) rfl) fun _ => (evc_q0 (evc_ixT (i := 0) (Rs := fun x : (Rat × (List (Tx × Rat))) => [(tD K eQ) x.1, (VP K (T2 K (tD K eS) (tD K eQ))) x.2]) (R' := (tD K eQ)) (f := fun x => x.1) (evc_var (R := (T2 K (tD K eQ) (VP K (T2 K (tD K eS) (tD K eQ))))) (vother) rfl) fun _ => rfl))) fun _ => (evac_cons (evc_q1 (evc_ixT (i := 0) (Rs := fun x : (Rat × (List (Tx × Rat))) => [(tD K eQ) x.1, (VP K (T2 K (tD K eS) (tD K eQ))) x.2]) (R' := (tD K eQ)) (f := fun x => x.1) (evc_var (R := (T2 K (tD K eQ) (VP K (T2 K (tD K eS) (tD K eQ))))) (vother) rfl) fun _ => rfl)) fun _ => evac_nil))) fun _ => evac_nil)) (fun _ => by walk_at "sub")) fun _ => (evac_cons (R := (VP K (T2 K (tD K eS) (tD K eQ)))) (Rs := fun (t : Unit) => []) (evc_var (R := (VP K (T2 K (tD K eS) (tD K eQ)))) (x7) rfl) fun _ => evac_nil)) (fun _ => rfl)) hP (fun F v s h => (show GoV _ _ _ _ from h).drop (by walk_at "sub"))
  · intro hB6 F6 t6 x4 s3 n5 Nx hN6 hP
    unfold l_plus_b2 at hP
    walk_at "dd"
    refine go_dputT (w := (w__law_plus K X E.rt D0)) (Dd := fun _ : Unit => (p2, (OXT kS (tD K eQ)) (s3)) :: D0) (s := ()) (k := kS) (Rv := (tD K eQ)) (m := s3) (hkv := kvS) (n := 3) rfl (evc_callP (fun _ _ _ _ h => h) (evac_cons (evc_dgetDT (dw_O (k := kS) (Rv := (tD K eQ)) (m := s3) (at_n 0 fun _ => rfl)) kvS (evc_var (R := fun _ : Unit => Is (.ref p2)) () rfl) (fun _ => (evc_var (R := (tD K eS)) (x4.1) rfl)) fun _ => (evc_litQP (0 : Rat) (by decide +kernel) (by decide +kernel))) fun _ => (evac_cons (evc_mkQP (evac_cons (evc_mul (evc_var (R := (tD K eI)) (vsign) rfl) fun _ => (evc_q0 (evc_var (R := (tD K eQ)) (x4.2) rfl))) fun _ => (evac_cons (evc_q1 (evc_var (R := (tD K eQ)) (x4.2) rfl)) fun _ => evac_nil))) fun _ => evac_nil)) (fun _ => by walk_at "sub")) (fun _ => (evc_var (R := (tD K eS)) (x4.1) rfl)) (at_n 0 fun _ => rfl) hP fun x18 hP => ?_
    walk_at "dd"
    exact (hN6 _ (Same.refl _) x18.1 hP).weak (by walk_at "sle") (by walk_at "sub")
theorem pure__law_plus (T : Txt K mg) (vs : List V) (H : Hp) (Q : VK) (X : XK) (h : sp__law_plus K vs H Q X) : t__law_plus K X { nx := fun _ H' => Q .non H', rt := Q } (L2.start N__law_plus vs) H :=
  pure_ofPF (fun x F D E hrt hnx hP => by
    subst hrt
    exact walk__law_plus T hnx hP) h
theorem len__law_plus (K : PySem.W.Frag) : ∀ vs H Q E, sp__law_plus K vs H Q E → vs.length = 3 := spP_len fun _ => rfl
theorem walk__law_faces (T : Txt K mg) {vwell_here : (List Int)} {vnames : (List Tx)} {vmany : Int} {Dp : (List Int) → Own} {k : Nat} {a : Addr} (B : Bor1 Dp k a (OLT (tD K eI))) (hnx : ∀ (F : Hp) (K : PySem.W.Frag) G D1, GoV E.rt F (DN K) D1 → Go E.nx F G D1) (hP : (w__law_faces K X E.rt Dp).W F0 (l_faces_k14 vwell_here vnames vmany)) :
    Go (t__law_faces K X E) F0 [some (Is (.ref a)), some ((LT K (tD K eS)) vnames), some ((tD K eI) vmany), none, none, none, none, none, none] (Dp vwell_here) := by
  unfold l_faces_k14 at hP
  refine go_seq (go_setNC (w := (w__law_faces K X E.rt Dp)) (evnc_lst0 (R := (T4 K (tD K eS) (tD K eS) (OpT K (tD K eS)) (T2 K (tD K eQ) (VP K (T2 K (tD K eS) (tD K eQ))))))) hP fun x1 p2 hP => ?_)
  walk_at "dd"
  refine go_seq (go_forC (w := (w__law_faces K X E.rt Dp)) (σt := ((List (Tx × Tx × (Option Tx) × (Rat × (List (Tx × Rat))))) × (List Int))) (evItc_rng1 (evc_var (R := (tD K eI)) (vmany) rfl)) (fun s4 => [some (Is (.ref a)), some ((LT K (tD K eS)) vnames), some ((tD K eI) vmany), some (Is (.ref p2)), none, none, none, none, none]) (fun s4 => (p2, (OLT (T4 K (tD K eS) (tD K eS) (OpT K (tD K eS)) (T2 K (tD K eQ) (VP K (T2 K (tD K eS) (tD K eQ)))))) (s4.1)) :: Dp (s4.2)) (x1, vwell_here) (fun s4 x5 => [some (Is (.ref a)), some ((LT K (tD K eS)) vnames), some ((tD K eI) vmany), some (Is (.ref p2)), some ((tD K eI) x5), none, none, none, none]) hP (by walk_at "sle") (by walk_at "sub") (fun _ => trivial) (fun _ _ => evG_name) ?_ ?_)
  · intro F7 t7 s4 hP
    unfold l_faces_k14_k1 at hP
    walk_at "dd"
    refine go_frzLT (K := K) (k := 0) (i := 3) (R := (T4 K (tD K eS) (tD K eS) (OpT K (tD K eS)) (T2 K (tD K eQ) (VP K (T2 K (tD K eS) (tD K eQ)))))) rfl rfl ?_
    walk_at "dd"
    walk_at "dd"
    exact go_retC (w := (w__law_faces K X E.rt Dp)) (Dd := fun _ : Unit => Dp (s4.2)) (s := ()) (fun v _ => (v, s4.2)) (evc_var (R := (LT K (T4 K (tD K eS) (tD K eS) (OpT K (tD K eS)) (T2 K (tD K eQ) (VP K (T2 K (tD K eS) (tD K eQ))))))) (s4.1) rfl) hP (fun F v s h => (show GoV _ _ _ _ from h).drop (by walk_at "sub"))
  · intro hB7 F7 t7 x5 s4 n6 Nx hN7 hP
    unfold l_faces_k14_b2 at hP
    walk_at "dd"
    refine go_seq (go_setCS (w := (w__law_faces K X E.rt Dp)) (Dd := fun (s : (List Int)) => (p2, (OLT (T4 K (tD K eS) (tD K eS) (OpT K (tD K eS)) (T2 K (tD K eQ) (VP K (T2 K (tD K eS) (tD K eQ)))))) (s4.1)) :: Dp s) (s := s4.2) (evc_callC0 (fun _ _ _ _ h => .inl h) (Bor.cons B) (evac_cons (evc_var (R := fun _ : Unit => Is (.ref a)) () rfl) fun _ => (evac_cons (evc_catLT (evc_frzLT (evnc_lc0 (G1 := (fun x9 => [some (Is (.ref a)), some ((LT K (tD K eS)) vnames), some ((tD K eI) vmany), some (Is (.ref p2)), some ((tD K eI) x5), none, some ((T4 K (tD K eS) (tD K eS) (OpT K (tD K eS)) (T2 K (tD K eQ) (VP K (T2 K (tD K eS) (tD K eQ))))) x9), none, none])) (evItc_O (R := (T4 K (tD K eS) (tD K eS) (OpT K (tD K eS)) (T2 K (tD K eQ) (VP K (T2 K (tD K eS) (tD K eQ)))))) (xs := s4.1) rfl (at_n 0 fun _ => rfl)) (fun _ => (evW_name (by decide))) (hasC_of (at_n 0 fun _ => rfl)) (fun x9 _ cq => (evc_ixT (i := 0) (Rs := fun x : (Tx × Tx × (Option Tx) × (Rat × (List (Tx × Rat)))) => [(tD K eS) x.1, (tD K eS) x.2.1, (OpT K (tD K eS)) x.2.2.1, (T2 K (tD K eQ) (VP K (T2 K (tD K eS) (tD K eQ)))) x.2.2.2]) (R' := (tD K eS)) (f := fun x => x.1) (evc_var (R := (T4 K (tD K eS) (tD K eS) (OpT K (tD K eS)) (T2 K (tD K eQ) (VP K (T2 K (tD K eS) (tD K eQ)))))) (x9) rfl) fun _ => rfl)))) fun _ => (evc_frzLT (evnc_lst (eval_cons (evc_strC sx_39d88b57 rfl) fun _ => eval_nil)))) fun _ => evac_nil)) (fun _ => by walk_at "sub")) hP fun x8 hP => ?_)
    walk_at "dd"
    refine go_seq (go_setCS (w := (w__law_faces K X E.rt Dp)) (Dd := fun (s : (List Int)) => (p2, (OLT (T4 K (tD K eS) (tD K eS) (OpT K (tD K eS)) (T2 K (tD K eQ) (VP K (T2 K (tD K eS) (tD K eQ)))))) (s4.1)) :: Dp s) (s := x8.2) (evc_ixS (evc_strC sx_5f845998 rfl) fun _ => (evc_callC0 (fun _ _ _ _ h => h) (Bor.cons B) (evac_cons (evc_var (R := fun _ : Unit => Is (.ref a)) () rfl) fun _ => (evac_cons evc_int fun _ => evac_nil)) (fun _ => by walk_at "sub"))) hP fun x13 hP => ?_)
    walk_at "dd"
    refine go_seq (go_setC (w := (w__law_faces K X E.rt Dp)) (evc_catLT (evc_conv (List.map (fun _ => (none : (Option Tx)))) (evc_frzLT (evnc_lst (eval_cons evc_non fun _ => (eval_cons evc_non fun _ => eval_nil)))) (cv_L cv_none)) fun _ => (evc_conv (List.map some) (evc_frzLT (evnc_lc (G1 := (fun x15 => [some (Is (.ref a)), some ((LT K (tD K eS)) vnames), some ((tD K eI) vmany), some (Is (.ref p2)), some ((tD K eI) x5), some ((tD K eS) x8.1), some ((T4 K (tD K eS) (tD K eS) (OpT K (tD K eS)) (T2 K (tD K eQ) (VP K (T2 K (tD K eS) (tD K eQ))))) x15), some ((tD K eS) x13.1), none])) (evItc_O (R := (T4 K (tD K eS) (tD K eS) (OpT K (tD K eS)) (T2 K (tD K eQ) (VP K (T2 K (tD K eS) (tD K eQ)))))) (xs := s4.1) rfl (at_n 0 fun _ => rfl)) (fun _ => (evW_name (by decide))) (hasC_of (at_n 0 fun _ => rfl)) (fun x15 _ cq => (evtc_test (evc_eq enc_S (evc_ixT (i := 1) (Rs := fun x : (Tx × Tx × (Option Tx) × (Rat × (List (Tx × Rat)))) => [(tD K eS) x.1, (tD K eS) x.2.1, (OpT K (tD K eS)) x.2.2.1, (T2 K (tD K eQ) (VP K (T2 K (tD K eS) (tD K eQ)))) x.2.2.2]) (R' := (tD K eS)) (f := fun x => x.2.1) (evc_var (R := (T4 K (tD K eS) (tD K eS) (OpT K (tD K eS)) (T2 K (tD K eQ) (VP K (T2 K (tD K eS) (tD K eQ)))))) (x15) rfl) fun _ => rfl) fun _ => (evc_var (R := (tD K eS)) (x13.1) rfl)))) (fun x15 _ cq => (evc_ixT (i := 0) (Rs := fun x : (Tx × Tx × (Option Tx) × (Rat × (List (Tx × Rat)))) => [(tD K eS) x.1, (tD K eS) x.2.1, (OpT K (tD K eS)) x.2.2.1, (T2 K (tD K eQ) (VP K (T2 K (tD K eS) (tD K eQ)))) x.2.2.2]) (R' := (tD K eS)) (f := fun x => x.1) (evc_var (R := (T4 K (tD K eS) (tD K eS) (OpT K (tD K eS)) (T2 K (tD K eQ) (VP K (T2 K (tD K eS) (tD K eQ)))))) (x15) rfl) fun _ => rfl)))) (cv_L cv_some))) hP fun x14 hP => ?_)
    walk_at "dd"
    refine go_appC (w := (w__law_faces K X E.rt Dp)) (Dd := fun (s : (List Int)) => (p2, (OLT (T4 K (tD K eS) (tD K eS) (OpT K (tD K eS)) (T2 K (tD K eQ) (VP K (T2 K (tD K eS) (tD K eQ)))))) (s4.1)) :: Dp s) (s := x13.2) (R := (T4 K (tD K eS) (tD K eS) (OpT K (tD K eS)) (T2 K (tD K eQ) (VP K (T2 K (tD K eS) (tD K eQ)))))) (xs := s4.1) (n := 3) rfl (evc_tupT (Rs := fun x : (Tx × Tx × (Option Tx) × (Rat × (List (Tx × Rat)))) => [(tD K eS) x.1, (tD K eS) x.2.1, (OpT K (tD K eS)) x.2.2.1, (T2 K (tD K eQ) (VP K (T2 K (tD K eS) (tD K eQ)))) x.2.2.2]) (n := 4) (g := fun (t : Tx × Tx × (Option Tx) × (Rat × (List (Tx × Rat))) × Unit) => (t.1, t.2.1, t.2.2.1, t.2.2.2.1)) (evac_cons (R := (tD K eS)) (Rs := fun (t : Tx × (Option Tx) × (Rat × (List (Tx × Rat))) × Unit) => [(tD K eS) t.1, (OpT K (tD K eS)) t.2.1, (T2 K (tD K eQ) (VP K (T2 K (tD K eS) (tD K eQ)))) t.2.2.1]) (evc_var (R := (tD K eS)) (x8.1) rfl) fun _ => (evac_cons (R := (tD K eS)) (Rs := fun (t : (Option Tx) × (Rat × (List (Tx × Rat))) × Unit) => [(OpT K (tD K eS)) t.1, (T2 K (tD K eQ) (VP K (T2 K (tD K eS) (tD K eQ)))) t.2.1]) (evc_var (R := (tD K eS)) (x13.1) rfl) fun _ => (evac_cons (R := (OpT K (tD K eS))) (Rs := fun (t : (Rat × (List (Tx × Rat))) × Unit) => [(T2 K (tD K eQ) (VP K (T2 K (tD K eS) (tD K eQ)))) t.1]) (evc_ix sv_LT (evc_var (R := (LT K (OpT K (tD K eS)))) (x14) rfl) fun _ => (evc_callC0 (fun _ _ _ _ h => h) (Bor.cons B) (evac_cons (evc_var (R := fun _ : Unit => Is (.ref a)) () rfl) fun _ => (evac_cons (evc_len sv_LT (evc_var (R := (LT K (OpT K (tD K eS)))) (x14) rfl)) fun _ => evac_nil)) (fun _ => by walk_at "sub"))) fun _ => (evac_cons (R := (T2 K (tD K eQ) (VP K (T2 K (tD K eS) (tD K eQ))))) (Rs := fun (t : Unit) => []) (evc_callC0 (fun _ _ _ _ h => h) (Bor.cons B) (evac_cons (evc_var (R := fun _ : Unit => Is (.ref a)) () rfl) fun _ => (evac_cons (evc_var (R := (LT K (tD K eS))) (vnames) rfl) fun _ => evac_nil)) (fun _ => by walk_at "sub")) fun _ => evac_nil)))) (fun _ => rfl)) (at_n 0 fun _ => rfl) hP fun x19 hP => ?_
    walk_at "dd"
    exact (hN7 _ (Same.refl _) (x19.1, x19.2) hP).weak (by walk_at "sle") (by walk_at "sub")
theorem pure__law_faces (T : Txt K mg) (vs : List V) (H : Hp) (Q : VK) (X : XK) (h : sp__law_faces K vs H Q X) : t__law_faces K X { nx := fun _ H' => Q .non H', rt := Q } (L2.start N__law_faces vs) H :=
  pure_ofCF (fun x y F Dp k a E B hrt hnx hP => by
    subst hrt
    exact walk__law_faces T B hnx hP) h
theorem len__law_faces (K : PySem.W.Frag) : ∀ vs H Q E, sp__law_faces K vs H Q E → vs.length = 3 := spC_len fun _ _ => rfl
theorem walk__law_placed (T : Txt K mg) {vfaces_here : (List (Tx × Tx × (Option Tx) × (Rat × (List (Tx × Rat)))))} (hnx : ∀ (F : Hp) (K : PySem.W.Frag) G D1, GoV E.rt F (DN K) D1 → Go E.nx F G D1) (hP : (w__law_placed K X E.rt D0).W F0 (l_placed vfaces_here)) :
    Go (t__law_placed K X E) F0 [some ((LT K (T4 K (tD K eS) (tD K eS) (OpT K (tD K eS)) (T2 K (tD K eQ) (VP K (T2 K (tD K eS) (tD K eQ)))))) vfaces_here), none, none, none, none, none, none, none] D0 := by
  unfold l_placed at hP
  refine go_seq (go_setNC (w := (w__law_placed K X E.rt D0)) (evnc_dnewT (k := kS) (Rv := (T2 K (tD K eQ) (VP K (T2 K (tD K eS) (tD K eQ)))))) hP fun x1 p2 hP => ?_)
  walk_at "dd"
  refine go_seq (go_setNC (w := (w__law_placed K X E.rt D0)) (evnc_lst0 (R := (T3 K (tD K eS) (tD K eS) (T2 K (tD K eQ) (VP K (T2 K (tD K eS) (tD K eQ))))))) hP fun x3 p4 hP => ?_)
  walk_at "dd"
  refine go_seq (go_forC (w := (w__law_placed K X E.rt D0)) (σt := ((List (Tx × Tx × (Rat × (List (Tx × Rat))))) × (List (Tx × (Rat × (List (Tx × Rat))))))) (evItc_l (evc_var (R := (LT K (T4 K (tD K eS) (tD K eS) (OpT K (tD K eS)) (T2 K (tD K eQ) (VP K (T2 K (tD K eS) (tD K eQ))))))) (vfaces_here) rfl)) (fun s5 => [some ((LT K (T4 K (tD K eS) (tD K eS) (OpT K (tD K eS)) (T2 K (tD K eQ) (VP K (T2 K (tD K eS) (tD K eQ)))))) vfaces_here), some (Is (.ref p2)), some (Is (.ref p4)), none, none, none, none, none]) (fun s5 => (p4, (OLT (T3 K (tD K eS) (tD K eS) (T2 K (tD K eQ) (VP K (T2 K (tD K eS) (tD K eQ)))))) (s5.1)) :: (p2, (OXT kS (T2 K (tD K eQ) (VP K (T2 K (tD K eS) (tD K eQ))))) (s5.2)) :: D0) (x3, x1) (fun s5 x6 => [some ((LT K (T4 K (tD K eS) (tD K eS) (OpT K (tD K eS)) (T2 K (tD K eQ) (VP K (T2 K (tD K eS) (tD K eQ)))))) vfaces_here), some (Is (.ref p2)), some (Is (.ref p4)), some ((tD K eS) x6.1), some ((tD K eS) x6.2.1), some ((OpT K (tD K eS)) x6.2.2.1), some ((T2 K (tD K eQ) (VP K (T2 K (tD K eS) (tD K eQ)))) x6.2.2.2), none]) hP (by walk_at "sle") (by walk_at "sub") (fun _ => trivial) (fun _ _ => (evG_tupT (evGsT_cons evG_name (evGsT_cons evG_name (evGsT_cons evG_name (evGsT_cons evG_name evGsT_nil)))) rfl)) ?_ ?_)
  · intro F8 t8 s5 hP
    unfold l_placed_k1 at hP
    walk_at "dd"
    refine go_frzLT (K := K) (k := 0) (i := 2) (R := (T3 K (tD K eS) (tD K eS) (T2 K (tD K eQ) (VP K (T2 K (tD K eS) (tD K eQ)))))) rfl rfl ?_
    walk_at "dd"
    walk_at "dd"
    exact go_retC (w := (w__law_placed K X E.rt D0)) (Dd := fun _ : Unit => (p2, (OXT kS (T2 K (tD K eQ) (VP K (T2 K (tD K eS) (tD K eQ))))) (s5.2)) :: D0) (s := ()) (fun v _ => v) (evc_var (R := (LT K (T3 K (tD K eS) (tD K eS) (T2 K (tD K eQ) (VP K (T2 K (tD K eS) (tD K eQ))))))) (s5.1) rfl) hP (fun F v s h => (show GoV _ _ _ _ from h).drop (by walk_at "sub"))
  · intro hB8 F8 t8 x6 s5 n7 Nx hN8 hP
    unfold l_placed_b3 at hP
    walk_at "dd"
    refine go_seq (go_setC (w := (w__law_placed K X E.rt D0)) (evc_var (R := (T2 K (tD K eQ) (VP K (T2 K (tD K eS) (tD K eQ))))) (x6.2.2.2) rfl) hP fun x9 hP => ?_)
    walk_at "dd"
    refine go_seq (go_join (w := (w__law_placed K X E.rt D0)) (l_placed_k2 s5 x6 n7) (fun s10 => [some ((LT K (T4 K (tD K eS) (tD K eS) (OpT K (tD K eS)) (T2 K (tD K eQ) (VP K (T2 K (tD K eS) (tD K eQ)))))) vfaces_here), some (Is (.ref p2)), some (Is (.ref p4)), some ((tD K eS) x6.1), some ((tD K eS) x6.2.1), some ((OpT K (tD K eS)) x6.2.2.1), some ((T2 K (tD K eQ) (VP K (T2 K (tD K eS) (tD K eQ)))) x6.2.2.2), some ((T2 K (tD K eQ) (VP K (T2 K (tD K eS) (tD K eQ)))) s10)]) (fun s10 => (p4, (OLT (T3 K (tD K eS) (tD K eS) (T2 K (tD K eQ) (VP K (T2 K (tD K eS) (tD K eQ)))))) (s5.1)) :: (p2, (OXT kS (T2 K (tD K eQ) (VP K (T2 K (tD K eS) (tD K eQ))))) (s5.2)) :: D0) ?_ ?_)
    · intro F11 t11 s10 hP
      unfold l_placed_k2 at hP
      walk_at "dd"
      refine go_seq (go_dputT (w := (w__law_placed K X E.rt D0)) (Dd := fun _ : Unit => (p4, (OLT (T3 K (tD K eS) (tD K eS) (T2 K (tD K eQ) (VP K (T2 K (tD K eS) (tD K eQ)))))) (s5.1)) :: (p2, (OXT kS (T2 K (tD K eQ) (VP K (T2 K (tD K eS) (tD K eQ))))) (s5.2)) :: D0) (s := ()) (k := kS) (Rv := (T2 K (tD K eQ) (VP K (T2 K (tD K eS) (tD K eQ))))) (m := s5.2) (hkv := kvS) (n := 1) rfl (evc_var (R := (T2 K (tD K eQ) (VP K (T2 K (tD K eS) (tD K eQ))))) (s10) rfl) (fun _ => (evc_var (R := (tD K eS)) (x6.1) rfl)) (at_n 1 fun _ => rfl) hP fun x12 hP => ?_)
      walk_at "dd"
      refine go_appC (w := (w__law_placed K X E.rt D0)) (Dd := fun _ : Unit => (p4, (OLT (T3 K (tD K eS) (tD K eS) (T2 K (tD K eQ) (VP K (T2 K (tD K eS) (tD K eQ)))))) (s5.1)) :: (p2, (OXT kS (T2 K (tD K eQ) (VP K (T2 K (tD K eS) (tD K eQ))))) (x12.1)) :: D0) (s := ()) (R := (T3 K (tD K eS) (tD K eS) (T2 K (tD K eQ) (VP K (T2 K (tD K eS) (tD K eQ)))))) (xs := s5.1) (n := 2) rfl (evc_tupT (Rs := fun x : (Tx × Tx × (Rat × (List (Tx × Rat)))) => [(tD K eS) x.1, (tD K eS) x.2.1, (T2 K (tD K eQ) (VP K (T2 K (tD K eS) (tD K eQ)))) x.2.2]) (n := 3) (g := fun (t : Tx × Tx × (Rat × (List (Tx × Rat))) × Unit) => (t.1, t.2.1, t.2.2.1)) (evac_cons (R := (tD K eS)) (Rs := fun (t : Tx × (Rat × (List (Tx × Rat))) × Unit) => [(tD K eS) t.1, (T2 K (tD K eQ) (VP K (T2 K (tD K eS) (tD K eQ)))) t.2.1]) (evc_var (R := (tD K eS)) (x6.1) rfl) fun _ => (evac_cons (R := (tD K eS)) (Rs := fun (t : (Rat × (List (Tx × Rat))) × Unit) => [(T2 K (tD K eQ) (VP K (T2 K (tD K eS) (tD K eQ)))) t.1]) (evc_var (R := (tD K eS)) (x6.2.1) rfl) fun _ => (evac_cons (R := (T2 K (tD K eQ) (VP K (T2 K (tD K eS) (tD K eQ))))) (Rs := fun (t : Unit) => []) (evc_var (R := (T2 K (tD K eQ) (VP K (T2 K (tD K eS) (tD K eQ))))) (s10) rfl) fun _ => evac_nil))) (fun _ => rfl)) (at_n 0 fun _ => rfl) hP fun x13 hP => ?_
      walk_at "dd"
      exact (hN8 _ t11 (x13.1, x12.1) hP).weak (by walk_at "sle") (by walk_at "sub")
    · intro hk11
      walk_at "dd"
      refine go_ifC (w := (w__law_placed K X E.rt D0)) (evtc_B (evc_isNNO (evc_var (R := (OpT K (tD K eS))) (x6.2.2.1) rfl) (isn_D fun _ => (by decide : "str" ≠ "NoneType")))) hP ?_ ?_
      · intro hP
        walk_at "dd"
        refine go_setC (w := (w__law_placed K X E.rt D0)) (evc_callP (fun _ _ _ _ h => h) (evac_cons (evc_dgetT (dw_O (k := kS) (Rv := (T2 K (tD K eQ) (VP K (T2 K (tD K eS) (tD K eQ))))) (m := s5.2) (at_n 1 fun _ => rfl)) kvS (evc_var (R := fun _ : Unit => Is (.ref p2)) () rfl) fun _ => (evc_unop (evc_var (R := (OpT K (tD K eS))) (x6.2.2.1) rfl))) fun _ => (evac_cons (evc_var (R := (T2 K (tD K eQ) (VP K (T2 K (tD K eS) (tD K eQ))))) (x6.2.2.2) rfl) fun _ => (evac_cons evc_int fun _ => evac_nil))) (fun _ => by walk_at "sub")) hP fun x14 hP => ?_
        walk_at "dd"
        exact ((hk11 _ (Same.refl _) x14) hP).weak (by walk_at "sle") (by walk_at "sub")
      · intro hP
        walk_at "dd"
        refine go_next ?_
        walk_at "dd"
        exact ((hk11 _ (Same.refl _) x9) hP).weak (by walk_at "sle") (by walk_at "sub")
theorem pure__law_placed (T : Txt K mg) (vs : List V) (H : Hp) (Q : VK) (X : XK) (h : sp__law_placed K vs H Q X) : t__law_placed K X { nx := fun _ H' => Q .non H', rt := Q } (L2.start N__law_placed vs) H :=
  pure_ofPF (fun x F D E hrt hnx hP => by
    subst hrt
    exact walk__law_placed T hnx hP) h
theorem len__law_placed (K : PySem.W.Frag) : ∀ vs H Q E, sp__law_placed K vs H Q E → vs.length = 1 := spP_len fun _ => rfl
theorem walk__law_plain (m : Nat) (T : Txt K mg) {vthing : PyData} (hnx : ∀ (F : Hp) (K : PySem.W.Frag) G D1, GoV E.rt F (DN K) D1 → Go E.nx F G D1) (hP : (w__law_plain K X E.rt D0).W F0 (l_plain_st (l_plain_r m) vthing)) :
    Go (t__law_plain m K X E) F0 [some ((tD K eP) vthing), none] D0 := by
  unfold l_plain_st at hP
  refine go_seq (go_ifC (w := (w__law_plain K X E.rt D0)) (evtc_B (evc_isiP (n := "tuple") (evc_var (R := (tD K eP)) (vthing) rfl) (by decide +kernel))) hP ?_ ?_)
  · intro hP
    walk_at "dd"
    exact go_retC (w := (w__law_plain K X E.rt D0)) (Dd := fun _ : Unit => D0) (s := ()) (fun v _ => v) (evc_all (evc_weak (R' := tD K (eL eB)) (evc_frzLT (evnc_lc0 (G1 := (fun x2 => [some ((tD K eP) vthing), some ((tD K eP) x2)])) (evItc_P (evc_var (R := (tD K eP)) (vthing) rfl)) (fun _ => (evW_name (by decide))) (fun _ _ => trivial) (fun x2 _ cq => (evc_callP (fun _ _ _ _ h => h) (evac_cons (evc_var (R := (tD K eP)) (x2) rfl) fun _ => evac_nil) (fun _ => List.nil_sublist _))))) (d_L (R := (tD K eB)) (e := eB) (d_b (e := eB))))) hP (fun F v s h => (show GoV _ _ _ _ from h).drop (by walk_at "sub"))
  · intro hP
    walk_at "dd"
    refine go_next ?_
    walk_at "dd"
    exact go_retC (w := (w__law_plain K X E.rt D0)) (Dd := fun _ : Unit => D0) (s := ()) (fun v _ => v) (evc_orV (evc_isiP (n := "str") (evc_var (R := (tD K eP)) (vthing) rfl) (by decide +kernel)) fun _ => (evc_andV (evc_isiP (n := "int") (evc_var (R := (tD K eP)) (vthing) rfl) (by decide +kernel)) fun _ => (evc_notV (evc_isiP (n := "bool") (evc_var (R := (tD K eP)) (vthing) rfl) (by decide +kernel))))) hP (fun F v s h => (show GoV _ _ _ _ from h).drop (by walk_at "sub"))
theorem pure__law_plain (T : Txt K mg) (m : Nat) (vs : List V) (H : Hp) (Q : VK) (X : XK) (h : sp__law_plain_r (m + 1) K vs H Q X) : t__law_plain m K X { nx := fun _ H' => Q .non H', rt := Q } (L2.start N__law_plain vs) H :=
  pure_ofPF (fun x F D E hrt hnx hP => by
    subst hrt
    exact walk__law_plain m T hnx hP) h
theorem len__law_plain_r (m : Nat) (K : PySem.W.Frag) : ∀ vs H Q E, sp__law_plain_r m K vs H Q E → vs.length = 1 := spP_len fun _ => rfl
theorem rec0__law_plain {vs : List V} {H : Hp} {Q : VK} {X : XK} (h : sp__law_plain_r 0 K vs H Q X) : False := let ⟨_, _, _, _, _, hp⟩ := h; (show False from hp)
theorem walk__law_is_list_0 (T : Txt K mg) {vfound : (List Tx)} {vdue : (List Tx)} (hnx : ∀ (F : Hp) (K : PySem.W.Frag) G D1, GoV E.rt F (DN K) D1 → Go E.nx F G D1) (hP : (w__law_is_list_0 K X E.rt D0).W F0 (l_is_list_k14 vfound vdue)) :
    Go (t__law_is_list K X E) F0 [some ((LT K (tD K eS)) vfound), some ((LT K (tD K eS)) vdue), none] D0 := by
  unfold l_is_list_k14 at hP
  exact go_retC (w := (w__law_is_list_0 K X E.rt D0)) (Dd := fun _ : Unit => D0) (s := ()) (fun v _ => v) (evc_andVM (evc_isiG (n := "list") (own := "list") (b := true) (evc_var (R := (LT K (tD K eS))) (vfound) rfl) ty_L (by decide +kernel)) fun _ => (evc_andVM (evc_eq (enc_L enc_S) (evc_weak (R' := tD K (eL eS)) (evc_var (R := (LT K (tD K eS))) (vfound) rfl) (d_L (R := (tD K eS)) (e := eS) (d_b (e := eS)))) fun _ => (evc_weak (R' := tD K (eL eS)) (evc_var (R := (LT K (tD K eS))) (vdue) rfl) (d_L (R := (tD K eS)) (e := eS) (d_b (e := eS))))) fun _ => (evc_all (evc_weak (R' := tD K (eL eB)) (evc_frzLT (evnc_lc0 (G1 := (fun x1 => [some ((LT K (tD K eS)) vfound), some ((LT K (tD K eS)) vdue), some ((tD K eS) x1)])) (evItc_l (evc_var (R := (LT K (tD K eS))) (vfound) rfl)) (fun _ => (evW_name (by decide))) (fun _ _ => trivial) (fun x1 _ cq => (evc_callP (fun _ _ _ _ h => h) (evac_cons (evc_conv (R' := tD K eP) (fun x : Tx => eS x) (evc_var (R := (tD K eS)) (x1) rfl) (fun _ _ _ h => h)) fun _ => evac_nil) (fun _ => List.nil_sublist _))))) (d_L (R := (tD K eB)) (e := eB) (d_b (e := eB))))))) hP (fun F v s h => (show GoV _ _ _ _ from h).drop (by walk_at "sub"))
theorem pure__law_is_list_0 (T : Txt K mg) (vs : List V) (H : Hp) (Q : VK) (X : XK) (h : sp__law_is_list_0 K vs H Q X) : t__law_is_list K X { nx := fun _ H' => Q .non H', rt := Q } (L2.start N__law_is_list vs) H :=
  pure_ofPF (fun x F D E hrt hnx hP => by
    subst hrt
    exact walk__law_is_list_0 T hnx hP) h
theorem len__law_is_list_0 (K : PySem.W.Frag) : ∀ vs H Q E, sp__law_is_list_0 K vs H Q E → vs.length = 2 := spP_len fun _ => rfl
theorem walk__law_is_list_1 (T : Txt K mg) {vfound : (List (Tx × Tx × (Rat × (List (Tx × Rat)))))} {vdue : (List (Tx × Tx × (Rat × (List (Tx × Rat)))))} {a_vfound : Addr} {k_vfound : Nat} (r_vfound : D0[k_vfound]? = some (a_vfound, (OLT (T3 K (tD K eS) (tD K eS) (T2 K (tD K eQ) (VP K (T2 K (tD K eS) (tD K eQ)))))) vfound)) (hnx : ∀ (F : Hp) (K : PySem.W.Frag) G D1, GoV E.rt F (DN K) D1 → Go E.nx F G D1) (hP : (w__law_is_list_1 K X E.rt D0).W F0 (l_is_list vfound vdue)) :
    Go (t__law_is_list K X E) F0 [some (Is (.ref a_vfound)), some ((LT K (T3 K (tD K eS) (tD K eS) (T2 K (tD K eQ) (VP K (T2 K (tD K eS) (tD K eQ)))))) vdue), none] D0 := by
  unfold l_is_list at hP
  exact go_retC (w := (w__law_is_list_1 K X E.rt D0)) (Dd := fun _ : Unit => D0) (s := ()) (fun v _ => v) (evc_andVM (evc_isiG (n := "list") (own := "list") (b := true) (evc_var (R := fun _ : Unit => Is (.ref a_vfound)) () rfl) (ty_OL (fun _ => r_vfound)) (by decide +kernel)) fun _ => (evc_andVM (evc_eqOT (xs := vfound) (enc_L (enc_3 enc_S enc_S (enc_2 enc_Q (enc_V (enc_2 enc_S enc_Q))))) (fun x => d_T (dd_cons ((d_b (e := eS)) x.1) (dd_cons ((d_b (e := eS)) x.2.1) (dd_cons ((fun x => d_T (dd_cons ((d_b (e := eQ)) x.1) (dd_cons ((d_V (R := (T2 K (tD K eS) (tD K eQ))) (e := (e2 eS eQ)) (fun x => d_T (dd_cons ((d_b (e := eS)) x.1) (dd_cons ((d_b (e := eQ)) x.2) dd_nil)))) x.2) dd_nil))) x.2.2) dd_nil)))) rfl (fun _ => r_vfound) (evc_weak (R' := tD K (eL (e3 eS eS (e2 eQ (eV (e2 eS eQ)))))) (evc_var (R := (LT K (T3 K (tD K eS) (tD K eS) (T2 K (tD K eQ) (VP K (T2 K (tD K eS) (tD K eQ))))))) (vdue) rfl) (d_L (R := (T3 K (tD K eS) (tD K eS) (T2 K (tD K eQ) (VP K (T2 K (tD K eS) (tD K eQ)))))) (e := (e3 eS eS (e2 eQ (eV (e2 eS eQ))))) (fun x => d_T (dd_cons ((d_b (e := eS)) x.1) (dd_cons ((d_b (e := eS)) x.2.1) (dd_cons ((fun x => d_T (dd_cons ((d_b (e := eQ)) x.1) (dd_cons ((d_V (R := (T2 K (tD K eS) (tD K eQ))) (e := (e2 eS eQ)) (fun x => d_T (dd_cons ((d_b (e := eS)) x.1) (dd_cons ((d_b (e := eQ)) x.2) dd_nil)))) x.2) dd_nil))) x.2.2) dd_nil))))))) fun _ => (evc_all (evc_weak (R' := tD K (eL eB)) (evc_frzLT (evnc_lc0 (G1 := (fun x1 => [some (Is (.ref a_vfound)), some ((LT K (T3 K (tD K eS) (tD K eS) (T2 K (tD K eQ) (VP K (T2 K (tD K eS) (tD K eQ)))))) vdue), some ((T3 K (tD K eS) (tD K eS) (T2 K (tD K eQ) (VP K (T2 K (tD K eS) (tD K eQ))))) x1)])) (evItc_O (R := (T3 K (tD K eS) (tD K eS) (T2 K (tD K eQ) (VP K (T2 K (tD K eS) (tD K eQ)))))) (xs := vfound) rfl (fun _ => r_vfound)) (fun _ => (evW_name (by decide))) (hasC_of (fun _ => r_vfound)) (fun x1 _ cq => (evc_callP (fun _ _ _ _ h => h) (evac_cons (evc_conv (R' := tD K eP) (fun x : (Tx × Tx × (Rat × (List (Tx × Rat)))) => (e3 eS eS (e2 eQ (eV (e2 eS eQ)))) x) (evc_weak (R' := tD K (e3 eS eS (e2 eQ (eV (e2 eS eQ))))) (evc_var (R := (T3 K (tD K eS) (tD K eS) (T2 K (tD K eQ) (VP K (T2 K (tD K eS) (tD K eQ)))))) (x1) rfl) (fun x => d_T (dd_cons ((d_b (e := eS)) x.1) (dd_cons ((d_b (e := eS)) x.2.1) (dd_cons ((fun x => d_T (dd_cons ((d_b (e := eQ)) x.1) (dd_cons ((d_V (R := (T2 K (tD K eS) (tD K eQ))) (e := (e2 eS eQ)) (fun x => d_T (dd_cons ((d_b (e := eS)) x.1) (dd_cons ((d_b (e := eQ)) x.2) dd_nil)))) x.2) dd_nil))) x.2.2) dd_nil))))) (fun _ _ _ h => h)) fun _ => evac_nil) (fun _ => List.nil_sublist _))))) (d_L (R := (tD K eB)) (e := eB) (d_b (e := eB))))))) hP (fun F v s h => (show GoV _ _ _ _ from h).drop (by walk_at "sub"))
theorem pure__law_is_list_1 (T : Txt K mg) (vs : List V) (H : Hp) (Q : VK) (X : XK) (h : sp__law_is_list_1 K vs H Q X) : t__law_is_list K X { nx := fun _ H' => Q .non H', rt := Q } (L2.start N__law_is_list vs) H :=
  pure_ofRdF (fun x F D E hpl hrt hnx hP => by
    subst hrt
    obtain ⟨⟨_, r_vfound⟩, _⟩ := hpl
    exact walk__law_is_list_1 T r_vfound hnx hP) h
theorem len__law_is_list_1 (K : PySem.W.Frag) : ∀ vs H Q E, sp__law_is_list_1 K vs H Q E → vs.length = 2 := spR_len fun _ => rfl
theorem pure__law_is_list (T : Txt K mg) (vs : List V) (H : Hp) (Q : VK) (X : XK) (h : sp__law_is_list K vs H Q X) : t__law_is_list K X { nx := fun _ H' => Q .non H', rt := Q } (L2.start N__law_is_list vs) H := by
  rcases h with h | h
  · exact pure__law_is_list_0 T vs H Q X h
  · exact pure__law_is_list_1 T vs H Q X h
theorem len__law_is_list (K : PySem.W.Frag) : ∀ vs H Q E, sp__law_is_list K vs H Q E → vs.length = 2 := fun vs H Q E h => by
  rcases h with h | h
  · exact len__law_is_list_0 K vs H Q E h
  · exact len__law_is_list_1 K vs H Q E h
theorem walk__law_fields (T : Txt K mg) {vstock : (List (Tx × Rat × Rat × (List (Tx × Rat × Tx))))} (hnx : ∀ (F : Hp) (K : PySem.W.Frag) G D1, GoV E.rt F (DN K) D1 → Go E.nx F G D1) (hP : (w__law_fields K X E.rt D0).W F0 (l_fields_k16 vstock)) :
    Go (t__law_fields K X E) F0 [some ((R_Stock K) vstock), none] D0 := by
  unfold l_fields_k16 at hP
  exact go_retC (w := (w__law_fields K X E.rt D0)) (Dd := fun _ : Unit => D0) (s := ()) (fun v _ => v) (evc_frzLT (evnc_lc0 (G1 := (fun x1 => [some ((R_Stock K) vstock), some ((R_Size K) x1)])) (evItc_l (evc_methX (ns := (["row"] : List PySem.Str)) (fl := fun x : (List (Tx × Rat × Rat × (List (Tx × Rat × Tx)))) => [("row", (VP K (R_Size K)) x)]) (f := fun x y => (x, y)) (fun _ _ _ _ h => h) (fun _ => ()) (evc_var (R := (R_Stock K)) (vstock) rfl) (fun _ => evac_nil) (fun _ _ _ h => h) (fun _ => rfl) (by decide +kernel) (fun _ => by walk_at "sub") hdm0)) (fun _ => (evW_name (by decide))) (fun _ _ => trivial) (fun x1 _ cq => (evc_tupT (Rs := fun x : (Tx × Rat × Rat × (List (Tx × Rat × Tx))) => [(tD K eS) x.1, (tD K eQ) x.2.1, (tD K eQ) x.2.2.1, (VP K (T3 K (tD K eS) (tD K eQ) (tD K eS))) x.2.2.2]) (n := 4) (g := fun (t : Tx × Rat × Rat × (List (Tx × Rat × Tx)) × Unit) => (t.1, t.2.1, t.2.2.1, t.2.2.2.1)) (evac_cons (R := (tD K eS)) (Rs := fun (t : Rat × Rat × (List (Tx × Rat × Tx)) × Unit) => [(tD K eQ) t.1, (tD K eQ) t.2.1, (VP K (T3 K (tD K eS) (tD K eQ) (tD K eS))) t.2.2.1]) (evc_fld (j := 0) (ns := (["name", "least", "most", "shifts"] : List PySem.Str)) (R := (tD K eS)) (g := fun x : (Tx × Rat × Rat × (List (Tx × Rat × Tx))) => x.1) (fl := fun x : (Tx × Rat × Rat × (List (Tx × Rat × Tx))) => [("name", (tD K eS) x.1), ("least", (tD K eQ) x.2.1), ("most", (tD K eQ) x.2.2.1), ("shifts", (VP K (T3 K (tD K eS) (tD K eQ) (tD K eS))) x.2.2.2)]) (evc_var (R := (R_Size K)) (x1) rfl) (fun _ _ _ h => h) T.cl_Size T.na_Size_name (fun _ => rfl) (by decide +kernel) (fun _ => rfl)) fun _ => (evac_cons (R := (tD K eQ)) (Rs := fun (t : Rat × (List (Tx × Rat × Tx)) × Unit) => [(tD K eQ) t.1, (VP K (T3 K (tD K eS) (tD K eQ) (tD K eS))) t.2.1]) (evc_fld (j := 1) (ns := (["name", "least", "most", "shifts"] : List PySem.Str)) (R := (tD K eQ)) (g := fun x : (Tx × Rat × Rat × (List (Tx × Rat × Tx))) => x.2.1) (fl := fun x : (Tx × Rat × Rat × (List (Tx × Rat × Tx))) => [("name", (tD K eS) x.1), ("least", (tD K eQ) x.2.1), ("most", (tD K eQ) x.2.2.1), ("shifts", (VP K (T3 K (tD K eS) (tD K eQ) (tD K eS))) x.2.2.2)]) (evc_var (R := (R_Size K)) (x1) rfl) (fun _ _ _ h => h) T.cl_Size T.na_Size_least (fun _ => rfl) (by decide +kernel) (fun _ => rfl)) fun _ => (evac_cons (R := (tD K eQ)) (Rs := fun (t : (List (Tx × Rat × Tx)) × Unit) => [(VP K (T3 K (tD K eS) (tD K eQ) (tD K eS))) t.1]) (evc_fld (j := 2) (ns := (["name", "least", "most", "shifts"] : List PySem.Str)) (R := (tD K eQ)) (g := fun x : (Tx × Rat × Rat × (List (Tx × Rat × Tx))) => x.2.2.1) (fl := fun x : (Tx × Rat × Rat × (List (Tx × Rat × Tx))) => [("name", (tD K eS) x.1), ("least", (tD K eQ) x.2.1), ("most", (tD K eQ) x.2.2.1), ("shifts", (VP K (T3 K (tD K eS) (tD K eQ) (tD K eS))) x.2.2.2)]) (evc_var (R := (R_Size K)) (x1) rfl) (fun _ _ _ h => h) T.cl_Size T.na_Size_most (fun _ => rfl) (by decide +kernel) (fun _ => rfl)) fun _ => (evac_cons (R := (VP K (T3 K (tD K eS) (tD K eQ) (tD K eS)))) (Rs := fun (t : Unit) => []) (evc_fld (j := 3) (ns := (["name", "least", "most", "shifts"] : List PySem.Str)) (R := (VP K (T3 K (tD K eS) (tD K eQ) (tD K eS)))) (g := fun x : (Tx × Rat × Rat × (List (Tx × Rat × Tx))) => x.2.2.2) (fl := fun x : (Tx × Rat × Rat × (List (Tx × Rat × Tx))) => [("name", (tD K eS) x.1), ("least", (tD K eQ) x.2.1), ("most", (tD K eQ) x.2.2.1), ("shifts", (VP K (T3 K (tD K eS) (tD K eQ) (tD K eS))) x.2.2.2)]) (evc_var (R := (R_Size K)) (x1) rfl) (fun _ _ _ h => h) T.cl_Size T.na_Size_shifts (fun _ => rfl) (by decide +kernel) (fun _ => rfl)) fun _ => evac_nil)))) (fun _ => rfl))))) hP (fun F v s h => (show GoV _ _ _ _ from h).drop (by walk_at "sub"))
theorem pure__law_fields (T : Txt K mg) (vs : List V) (H : Hp) (Q : VK) (X : XK) (h : sp__law_fields K vs H Q X) : t__law_fields K X { nx := fun _ H' => Q .non H', rt := Q } (L2.start N__law_fields vs) H :=
  pure_ofPF (fun x F D E hrt hnx hP => by
    subst hrt
    exact walk__law_fields T hnx hP) h
theorem len__law_fields (K : PySem.W.Frag) : ∀ vs H Q E, sp__law_fields K vs H Q E → vs.length = 1 := spP_len fun _ => rfl
theorem walk_law (T : Txt K mg) {vscript : (List Int)} (hnx : ∀ (K : PySem.W.Frag) G D1, GoV E.rt F0 (DN K) D1 → Go E.nx F0 G D1) (hP : (w_law K X E.rt D0).W F0 (l_law_k14 vscript)) :
    Go (t_law K X E) F0 [some ((LT K (tD K eI)) vscript), none, none, none, none, none, none, none, none, none, none, none, none, none, none, none, none, none, none, none] D0 := by
  unfold l_law_k14 at hP
  refine go_seq (go_forC (w := (w_law K X E.rt D0)) (σt := Unit) (evItc_rng1 (evc_max2 evc_int fun _ => (evc_min2 (evc_len sv_LT (evc_var (R := (LT K (tD K eI))) (vscript) rfl)) fun _ => evc_int))) (fun s2 => [some ((LT K (tD K eI)) vscript), none, none, none, none, none, none, none, none, none, none, none, none, none, none, none, none, none, none, none]) (fun s2 => D0) () (fun s2 x3 => [some ((LT K (tD K eI)) vscript), some ((tD K eI) x3), none, none, none, none, none, none, none, none, none, none, none, none, none, none, none, none, none, none]) hP (by walk_at "sle") (by walk_at "sub") (fun _ => trivial) (fun _ _ => evG_name) ?_ ?_)
  · intro F5 t5 s2 hP
    unfold l_law_k14_k1 at hP
    walk_at "dd"
    exact go_retC (w := (w_law K X E.rt D0)) (Dd := fun _ : Unit => D0) (s := ()) (fun v _ => v) evc_bl hP (fun F v s h => (show GoV _ _ _ _ from h).drop (by walk_at "sub"))
  · intro hB5 F5 t5 x3 s2 n4 Nx hN5 hP
    unfold l_law_k14_b4 at hP
    walk_at "dd"
    refine go_seq (go_setNC (w := (w_law K X E.rt D0)) (evnc_callP (fun _ _ _ _ h => h) (evac_cons (evc_var (R := (LT K (tD K eI))) (vscript) rfl) fun _ => (evac_cons (evc_var (R := (tD K eI)) (x3) rfl) fun _ => evac_nil)) (fun _ => by walk_at "sub")) hP fun x6 p7 hP => ?_)
    walk_at "dd"
    refine go_seq (go_setCS (w := (w_law K X E.rt D0)) (Dd := fun (s : (List Int)) => (p7, (OLT (tD K eI)) s) :: D0) (s := x6) (evc_callC (fun _ _ _ _ h => .inl h) (fun _ : (List Int) => ()) (Bor.here (O := (OLT (tD K eI)))) (evac_cons (evc_var (R := fun _ : Unit => Is (.ref p7)) () rfl) fun _ => (evac_cons (evc_frzLT (evnc_lst0 (R := (tD K eS)))) fun _ => evac_nil)) (fun _ => by walk_at "sub")) hP fun x8 hP => ?_)
    walk_at "dd"
    refine go_seq (go_asgCS (w := (w_law K X E.rt D0)) (Dd := fun (s : (List Int)) => (p7, (OLT (tD K eI)) s) :: D0) (s := x8.2) (Gx := fun y => [some ((LT K (tD K eI)) vscript), some ((tD K eI) x3), some (Is (.ref p7)), some ((tD K eS) x8.1), some ((LT K (T4 K (tD K eS) (tD K eQ) (tD K eQ) (VP K (T3 K (tD K eS) (tD K eQ) (tD K eS))))) y.1), some ((LT K (tD K eS)) y.2), none, none, none, none, none, none, none, none, none, none, none, none, none, none]) (evc_callC (fun _ _ _ _ h => h) (fun _ : (List Int) => ()) (Bor.here (O := (OLT (tD K eI)))) (evac_cons (evc_var (R := fun _ : Unit => Is (.ref p7)) () rfl) fun _ => (evac_cons evc_int fun _ => evac_nil)) (fun _ => by walk_at "sub")) (fun _ => (evG_tupT (evGsT_cons evG_name (evGsT_cons evG_name evGsT_nil)) rfl)) hP fun x9 hP => ?_)
    walk_at "dd"
    refine go_seq (go_setNC (w := (w_law K X E.rt D0)) (evnc_lc0 (G1 := (fun x11 => [some ((LT K (tD K eI)) vscript), some ((tD K eI) x3), some (Is (.ref p7)), some ((tD K eS) x8.1), some ((LT K (T4 K (tD K eS) (tD K eQ) (tD K eQ) (VP K (T3 K (tD K eS) (tD K eQ) (tD K eS))))) x9.1.1), some ((LT K (tD K eS)) x9.1.2), none, some ((tD K eS) x11.1), some ((tD K eQ) x11.2.1), some ((tD K eQ) x11.2.2.1), some ((VP K (T3 K (tD K eS) (tD K eQ) (tD K eS))) x11.2.2.2), none, none, none, none, none, none, none, none, none])) (evItc_l (evc_var (R := (LT K (T4 K (tD K eS) (tD K eQ) (tD K eQ) (VP K (T3 K (tD K eS) (tD K eQ) (tD K eS)))))) (x9.1.1) rfl)) (fun _ => (evW_tupT (evWsT_cons (evW_name (by decide)) (evWsT_cons (evW_name (by decide)) (evWsT_cons (evW_name (by decide)) (evWsT_cons (evW_name (by decide)) evWsT_nil)))) rfl)) (fun _ _ => trivial) (fun x11 _ cq => (evc_makeX (R := R_Size K) (f := fun y => y) (fun _ _ _ _ h => h) (fun _ => ()) (evac_cons (evc_var (R := (tD K eS)) (x11.1) rfl) fun _ => (evac_cons (evc_var (R := (tD K eQ)) (x11.2.1) rfl) fun _ => (evac_cons (evc_var (R := (tD K eQ)) (x11.2.2.1) rfl) fun _ => (evac_cons (evc_var (R := (VP K (T3 K (tD K eS) (tD K eQ) (tD K eS)))) (x11.2.2.2) rfl) fun _ => evac_nil)))) (fun _ => List.nil_sublist _) hd0 (fun _ _ _ h => h)))) hP fun x10 p16 hP => ?_)
    walk_at "dd"
    refine go_seq (go_setNCS (w := (w_law K X E.rt D0)) (Dd := fun (s : (List Int)) => (p16, (OLT (R_Size K)) (x10)) :: (p7, (OLT (tD K eI)) s) :: D0) (s := x9.2) (evnc_makeCh (sp := sp_Part___init__ K) (Ob := O_Part K) (f0 := fun (x : Tx) (_ : (List Int)) => (x, (p16, x10), ())) (f1 := fun (x : Tx) ys => (x, ys, ())) (fun _ _ _ _ h => .inl h) (fun _ _ _ _ h => .inr h) (fun _ => ()) (evc_var (R := (tD K eS)) (x8.1) rfl) rfl (fun _ => (evc_tupOf (f := fun _ : Unit => x10) (Re := (R_Size K)) (evc_var (R := fun _ : Unit => Is (.ref p16)) () rfl) (tv_O (at_n 0 fun _ => rfl)))) (fun _ => (evc_callC (fun _ _ _ _ h => h) (fun _ : (List Int) => ()) (Bor.cons (Bor.here (O := (OLT (tD K eI))))) (evac_cons (evc_var (R := fun _ : Unit => Is (.ref p7)) () rfl) fun _ => (evac_cons evc_int fun _ => evac_nil)) (fun _ => by walk_at "sub"))) (fun _ s => ⟨(RdC.of (k := 0) rfl), trivial⟩) (fun _ => by walk_at "sub") (fun _ _ _ _ h => .cons h (.cons rfl .nil)) (fun _ _ _ _ _ h1 h2 => .cons h1 (.cons h2 .nil))) hP fun x17 p18 hP => ?_)
    walk_at "dd"
    refine go_open1 (k := 0) rfl (fun _ _ _ => trivial) (fun _ _ _ _ => trivial) fun p19 => ?_
    walk_at "dd"
    walk_at "dd"
    refine go_seq (go_clearC (w := (w_law K X E.rt D0)) (R := (R_Size K)) (xs := x10) (n := 6) (k := 2) rfl rfl hP fun x20 hP => ?_)
    walk_at "dd"
    refine go_seq (go_ifC (w := (w_law K X E.rt D0)) (evtc_orM (evtc_test (evc_ne enc_S (evc_fldO (ns := (["name", "own", "placed"] : List PySem.Str)) (j := 0) (fds := [("name", (tD K eS) ((x17.1.1, x17.1.2.1).1)), ("own", (R_Stock K) ((x17.1.1, x17.1.2.1).2)), ("placed", Is (.ref p19))]) (R := (tD K eS)) ((x17.1.1, x17.1.2.1).1) rfl (at_n 1 fun _ => rfl) T.cl_Part T.na_Part_name rfl (by decide +kernel) rfl) fun _ => (evc_var (R := (tD K eS)) (x8.1) rfl))) fun _ => (evtc_orM (evtc_not (evtc_B (evc_callP (fun _ _ _ _ h => .inl h) (evac_cons (evc_frzLT (evnc_methX (sp := sp_Stock_names K) (C := He.ga K "Stock") (m := "names") (ns := (["row"] : List PySem.Str)) (fl := fun x : (List (Tx × Rat × Rat × (List (Tx × Rat × Tx)))) => [("row", (VP K (R_Size K)) x)]) (f := fun x y => (x, y)) (fun _ _ _ _ h => h) (fun _ => ()) (evc_methXR (sp := sp_Part_stock K) (C := He.ga K "Part") (m := "stock") (f := fun (x : Unit) (y : Unit) (w : Unit) => ((p18, (x17.1.1, x17.1.2.1)), (p19, x17.1.2.2), ())) (rest := fun _ _ w => (p16, (OLT (R_Size K)) (x20.1)) :: (p7, (OLT (tD K eI)) (x17.2)) :: D0) (g := (fun _ => ())) (fun _ _ _ _ h => h) (evc_var (R := fun _ : Unit => Is (.ref p18)) () rfl) (fun _ => evac_nil) (recOk_O (at_n 1 fun _ => rfl) (fun _ o F h => by obtain ⟨dx, fs, e0, h2⟩ := h; exact ⟨dx, fs, e0, lookup_off (by rw [h2.1]; show ¬ ("stock" : PySem.Str) ∈ (["name", "own", "placed"] : List PySem.Str); decide +kernel)⟩)) (fun _ _ w => ((erase_perm (k := 1) rfl).symm.trans ((((erase_perm (k := 0) rfl).symm.trans (((List.Perm.refl _)).cons _))).cons _))) (fun _ => DLe.of (by walk_at "sub")) hdmR0) (fun _ => evac_nil) (fun _ _ _ h => h) (fun _ => rfl) (by decide +kernel) (fun _ => by walk_at "sub") hdm0)) fun _ => (evac_cons (evc_var (R := (LT K (tD K eS))) (x9.1.2) rfl) fun _ => evac_nil)) (fun _ => by walk_at "sub")))) fun _ => (evtc_test (evc_ne (enc_L (enc_4 enc_S enc_Q enc_Q (enc_V (enc_3 enc_S enc_Q enc_S)))) (evc_weak (R' := tD K (eL (e4 eS eQ eQ (eV (e3 eS eQ eS))))) (evc_callP (fun _ _ _ _ h => h) (evac_cons (evc_methXR (sp := sp_Part_stock K) (C := He.ga K "Part") (m := "stock") (f := fun (x : Unit) (y : Unit) (w : Unit) => ((p18, (x17.1.1, x17.1.2.1)), (p19, x17.1.2.2), ())) (rest := fun _ _ w => (p16, (OLT (R_Size K)) (x20.1)) :: (p7, (OLT (tD K eI)) (x17.2)) :: D0) (g := (fun _ => ())) (fun _ _ _ _ h => h) (evc_var (R := fun _ : Unit => Is (.ref p18)) () rfl) (fun _ => evac_nil) (recOk_O (at_n 1 fun _ => rfl) (fun _ o F h => by obtain ⟨dx, fs, e0, h2⟩ := h; exact ⟨dx, fs, e0, lookup_off (by rw [h2.1]; show ¬ ("stock" : PySem.Str) ∈ (["name", "own", "placed"] : List PySem.Str); decide +kernel)⟩)) (fun _ _ w => ((erase_perm (k := 1) rfl).symm.trans ((((erase_perm (k := 0) rfl).symm.trans (((List.Perm.refl _)).cons _))).cons _))) (fun _ => DLe.of (by walk_at "sub")) hdmR0) fun _ => evac_nil) (fun _ => by walk_at "sub")) (d_L (R := (T4 K (tD K eS) (tD K eQ) (tD K eQ) (VP K (T3 K (tD K eS) (tD K eQ) (tD K eS))))) (e := (e4 eS eQ eQ (eV (e3 eS eQ eS)))) (fun x => d_T (dd_cons ((d_b (e := eS)) x.1) (dd_cons ((d_b (e := eQ)) x.2.1) (dd_cons ((d_b (e := eQ)) x.2.2.1) (dd_cons ((d_V (R := (T3 K (tD K eS) (tD K eQ) (tD K eS))) (e := (e3 eS eQ eS)) (fun x => d_T (dd_cons ((d_b (e := eS)) x.1) (dd_cons ((d_b (e := eQ)) x.2.1) (dd_cons ((d_b (e := eS)) x.2.2) dd_nil))))) x.2.2.2) dd_nil))))))) fun _ => (evc_weak (R' := tD K (eL (e4 eS eQ eQ (eV (e3 eS eQ eS))))) (evc_var (R := (LT K (T4 K (tD K eS) (tD K eQ) (tD K eQ) (VP K (T3 K (tD K eS) (tD K eQ) (tD K eS)))))) (x9.1.1) rfl) (d_L (R := (T4 K (tD K eS) (tD K eQ) (tD K eQ) (VP K (T3 K (tD K eS) (tD K eQ) (tD K eS))))) (e := (e4 eS eQ eQ (eV (e3 eS eQ eS)))) (fun x => d_T (dd_cons ((d_b (e := eS)) x.1) (dd_cons ((d_b (e := eQ)) x.2.1) (dd_cons ((d_b (e := eQ)) x.2.2.1) (dd_cons ((d_V (R := (T3 K (tD K eS) (tD K eQ) (tD K eS))) (e := (e3 eS eQ eS)) (fun x => d_T (dd_cons ((d_b (e := eS)) x.1) (dd_cons ((d_b (e := eQ)) x.2.1) (dd_cons ((d_b (e := eS)) x.2.2) dd_nil))))) x.2.2.2) dd_nil))))))))))) hP ?_ ?_)
    · intro hP
      walk_at "dd"
      exact go_retC (w := (w_law K X E.rt D0)) (Dd := fun _ : Unit => (p19, (OXT kS (T2 K (tD K eS) (T2 K (tD K eQ) (VP K (T2 K (tD K eS) (tD K eQ)))))) (x17.1.2.2)) :: (p18, (OIo_Part K p19) ((x17.1.1, x17.1.2.1))) :: (p16, (OLT (R_Size K)) (x20.1)) :: (p7, (OLT (tD K eI)) (x17.2)) :: D0) (s := ()) (fun v _ => v) evc_bl hP (fun F v s h => (show GoV _ _ _ _ from h).drop (by walk_at "sub"))
    · intro hP
      walk_at "dd"
      refine go_next ?_
      walk_at "dd"
      refine go_seq (go_setCS (w := (w_law K X E.rt D0)) (Dd := fun (s : (List Int)) => (p19, (OXT kS (T2 K (tD K eS) (T2 K (tD K eQ) (VP K (T2 K (tD K eS) (tD K eQ)))))) (x17.1.2.2)) :: (p18, (OIo_Part K p19) ((x17.1.1, x17.1.2.1))) :: (p16, (OLT (R_Size K)) (x20.1)) :: (p7, (OLT (tD K eI)) s) :: D0) (s := x17.2) (evc_callC (fun _ _ _ _ h => h) (fun _ : (List Int) => ()) (Bor.cons (Bor.cons (Bor.cons (Bor.here (O := (OLT (tD K eI))))))) (evac_cons (evc_var (R := fun _ : Unit => Is (.ref p7)) () rfl) fun _ => (evac_cons (evc_var (R := (LT K (tD K eS))) (x9.1.2) rfl) fun _ => (evac_cons (evc_add evc_int fun _ => (evc_callC (fun _ _ _ _ h => h) (fun _ : (List Int) => ()) (Bor.cons (Bor.cons (Bor.cons (Bor.here (O := (OLT (tD K eI))))))) (evac_cons (evc_var (R := fun _ : Unit => Is (.ref p7)) () rfl) fun _ => (evac_cons evc_int fun _ => evac_nil)) (fun _ => by walk_at "sub"))) fun _ => evac_nil))) (fun _ => by walk_at "sub")) hP fun x21 hP => ?_)
      walk_at "dd"
      refine go_seq (go_setC (w := (w_law K X E.rt D0)) (evc_callP (fun _ _ _ _ h => h) (evac_cons (evc_var (R := (LT K (T4 K (tD K eS) (tD K eS) (OpT K (tD K eS)) (T2 K (tD K eQ) (VP K (T2 K (tD K eS) (tD K eQ))))))) (x21.1) rfl) fun _ => evac_nil) (fun _ => by walk_at "sub")) hP fun x22 hP => ?_)
      walk_at "dd"
      refine go_seq (go_forC (w := (w_law K X E.rt D0)) (σt := (List (Tx × (Tx × (Rat × (List (Tx × Rat))))))) (evItc_rng1 (evc_len sv_LT (evc_var (R := (LT K (T4 K (tD K eS) (tD K eS) (OpT K (tD K eS)) (T2 K (tD K eQ) (VP K (T2 K (tD K eS) (tD K eQ))))))) (x21.1) rfl))) (fun s24 => [some ((LT K (tD K eI)) vscript), some ((tD K eI) x3), some (Is (.ref p7)), some ((tD K eS) x8.1), some ((LT K (T4 K (tD K eS) (tD K eQ) (tD K eQ) (VP K (T3 K (tD K eS) (tD K eQ) (tD K eS))))) x9.1.1), some ((LT K (tD K eS)) x9.1.2), some (Is (.ref p16)), none, none, none, none, some (Is (.ref p18)), some ((LT K (T4 K (tD K eS) (tD K eS) (OpT K (tD K eS)) (T2 K (tD K eQ) (VP K (T2 K (tD K eS) (tD K eQ)))))) x21.1), some ((LT K (T3 K (tD K eS) (tD K eS) (T2 K (tD K eQ) (VP K (T2 K (tD K eS) (tD K eQ)))))) x22), none, none, none, none, none, none]) (fun s24 => (p19, (OXT kS (T2 K (tD K eS) (T2 K (tD K eQ) (VP K (T2 K (tD K eS) (tD K eQ)))))) (s24)) :: (p18, (OIo_Part K p19) ((x17.1.1, x17.1.2.1))) :: (p16, (OLT (R_Size K)) (x20.1)) :: (p7, (OLT (tD K eI)) (x21.2)) :: D0) x17.1.2.2 (fun s24 x25 => [some ((LT K (tD K eI)) vscript), some ((tD K eI) x3), some (Is (.ref p7)), some ((tD K eS) x8.1), some ((LT K (T4 K (tD K eS) (tD K eQ) (tD K eQ) (VP K (T3 K (tD K eS) (tD K eQ) (tD K eS))))) x9.1.1), some ((LT K (tD K eS)) x9.1.2), some (Is (.ref p16)), none, none, none, none, some (Is (.ref p18)), some ((LT K (T4 K (tD K eS) (tD K eS) (OpT K (tD K eS)) (T2 K (tD K eQ) (VP K (T2 K (tD K eS) (tD K eQ)))))) x21.1), some ((LT K (T3 K (tD K eS) (tD K eS) (T2 K (tD K eQ) (VP K (T2 K (tD K eS) (tD K eQ)))))) x22), some ((tD K eI) x25), none, none, none, none, none]) hP (by walk_at "sle") (by walk_at "sub") (fun _ => trivial) (fun _ _ => evG_name) ?_ ?_)
      · intro F27 t27 s24 hP
        unfold l_law_k14_k2 at hP
        walk_at "dd"
        refine go_ifC (w := (w_law K X E.rt D0)) (evtc_orM (evtc_test (evc_ne (enc_L (enc_3 enc_S enc_S (enc_2 enc_Q (enc_V (enc_2 enc_S enc_Q))))) (evc_weak (R' := tD K (eL (e3 eS eS (e2 eQ (eV (e2 eS eQ)))))) (evc_frzLT (evnc_methXR (sp := sp_Part_faces K) (C := He.ga K "Part") (m := "faces") (f := fun (x : Unit) (y : Unit) (w : Unit) => ((p18, (x17.1.1, x17.1.2.1)), (p19, s24), ())) (rest := fun _ _ w => (p16, (OLT (R_Size K)) (x20.1)) :: (p7, (OLT (tD K eI)) (x21.2)) :: D0) (g := (fun _ => ())) (fun _ _ _ _ h => h) (evc_var (R := fun _ : Unit => Is (.ref p18)) () rfl) (fun _ => evac_nil) (recOk_O (at_n 1 fun _ => rfl) (fun _ o F h => by obtain ⟨dx, fs, e0, h2⟩ := h; exact ⟨dx, fs, e0, lookup_off (by rw [h2.1]; show ¬ ("faces" : PySem.Str) ∈ (["name", "own", "placed"] : List PySem.Str); decide +kernel)⟩)) (fun _ _ w => ((erase_perm (k := 1) rfl).symm.trans ((((erase_perm (k := 0) rfl).symm.trans (((List.Perm.refl _)).cons _))).cons _))) (fun _ => DLe.of (by walk_at "sub")) hdmR0)) (d_L (R := (T3 K (tD K eS) (tD K eS) (T2 K (tD K eQ) (VP K (T2 K (tD K eS) (tD K eQ)))))) (e := (e3 eS eS (e2 eQ (eV (e2 eS eQ))))) (fun x => d_T (dd_cons ((d_b (e := eS)) x.1) (dd_cons ((d_b (e := eS)) x.2.1) (dd_cons ((fun x => d_T (dd_cons ((d_b (e := eQ)) x.1) (dd_cons ((d_V (R := (T2 K (tD K eS) (tD K eQ))) (e := (e2 eS eQ)) (fun x => d_T (dd_cons ((d_b (e := eS)) x.1) (dd_cons ((d_b (e := eQ)) x.2) dd_nil)))) x.2) dd_nil))) x.2.2) dd_nil)))))) fun _ => (evc_weak (R' := tD K (eL (e3 eS eS (e2 eQ (eV (e2 eS eQ)))))) (evc_var (R := (LT K (T3 K (tD K eS) (tD K eS) (T2 K (tD K eQ) (VP K (T2 K (tD K eS) (tD K eQ))))))) (x22) rfl) (d_L (R := (T3 K (tD K eS) (tD K eS) (T2 K (tD K eQ) (VP K (T2 K (tD K eS) (tD K eQ)))))) (e := (e3 eS eS (e2 eQ (eV (e2 eS eQ))))) (fun x => d_T (dd_cons ((d_b (e := eS)) x.1) (dd_cons ((d_b (e := eS)) x.2.1) (dd_cons ((fun x => d_T (dd_cons ((d_b (e := eQ)) x.1) (dd_cons ((d_V (R := (T2 K (tD K eS) (tD K eQ))) (e := (e2 eS eQ)) (fun x => d_T (dd_cons ((d_b (e := eS)) x.1) (dd_cons ((d_b (e := eQ)) x.2) dd_nil)))) x.2) dd_nil))) x.2.2) dd_nil)))))))) fun _ => (evtc_test (evc_ne (enc_L (enc_4 enc_S enc_Q enc_Q (enc_V (enc_3 enc_S enc_Q enc_S)))) (evc_weak (R' := tD K (eL (e4 eS eQ eQ (eV (e3 eS eQ eS))))) (evc_callP (fun _ _ _ _ h => h) (evac_cons (evc_methXR (sp := sp_Part_stock K) (C := He.ga K "Part") (m := "stock") (f := fun (x : Unit) (y : Unit) (w : Unit) => ((p18, (x17.1.1, x17.1.2.1)), (p19, s24), ())) (rest := fun _ _ w => (p16, (OLT (R_Size K)) (x20.1)) :: (p7, (OLT (tD K eI)) (x21.2)) :: D0) (g := (fun _ => ())) (fun _ _ _ _ h => h) (evc_var (R := fun _ : Unit => Is (.ref p18)) () rfl) (fun _ => evac_nil) (recOk_O (at_n 1 fun _ => rfl) (fun _ o F h => by obtain ⟨dx, fs, e0, h2⟩ := h; exact ⟨dx, fs, e0, lookup_off (by rw [h2.1]; show ¬ ("stock" : PySem.Str) ∈ (["name", "own", "placed"] : List PySem.Str); decide +kernel)⟩)) (fun _ _ w => ((erase_perm (k := 1) rfl).symm.trans ((((erase_perm (k := 0) rfl).symm.trans (((List.Perm.refl _)).cons _))).cons _))) (fun _ => DLe.of (by walk_at "sub")) hdmR0) fun _ => evac_nil) (fun _ => by walk_at "sub")) (d_L (R := (T4 K (tD K eS) (tD K eQ) (tD K eQ) (VP K (T3 K (tD K eS) (tD K eQ) (tD K eS))))) (e := (e4 eS eQ eQ (eV (e3 eS eQ eS)))) (fun x => d_T (dd_cons ((d_b (e := eS)) x.1) (dd_cons ((d_b (e := eQ)) x.2.1) (dd_cons ((d_b (e := eQ)) x.2.2.1) (dd_cons ((d_V (R := (T3 K (tD K eS) (tD K eQ) (tD K eS))) (e := (e3 eS eQ eS)) (fun x => d_T (dd_cons ((d_b (e := eS)) x.1) (dd_cons ((d_b (e := eQ)) x.2.1) (dd_cons ((d_b (e := eS)) x.2.2) dd_nil))))) x.2.2.2) dd_nil))))))) fun _ => (evc_weak (R' := tD K (eL (e4 eS eQ eQ (eV (e3 eS eQ eS))))) (evc_var (R := (LT K (T4 K (tD K eS) (tD K eQ) (tD K eQ) (VP K (T3 K (tD K eS) (tD K eQ) (tD K eS)))))) (x9.1.1) rfl) (d_L (R := (T4 K (tD K eS) (tD K eQ) (tD K eQ) (VP K (T3 K (tD K eS) (tD K eQ) (tD K eS))))) (e := (e4 eS eQ eQ (eV (e3 eS eQ eS)))) (fun x => d_T (dd_cons ((d_b (e := eS)) x.1) (dd_cons ((d_b (e := eQ)) x.2.1) (dd_cons ((d_b (e := eQ)) x.2.2.1) (dd_cons ((d_V (R := (T3 K (tD K eS) (tD K eQ) (tD K eS))) (e := (e3 eS eQ eS)) (fun x => d_T (dd_cons ((d_b (e := eS)) x.1) (dd_cons ((d_b (e := eQ)) x.2.1) (dd_cons ((d_b (e := eS)) x.2.2) dd_nil))))) x.2.2.2) dd_nil)))))))))) hP ?_ ?_
        · intro hP
          walk_at "dd"
          exact go_retC (w := (w_law K X E.rt D0)) (Dd := fun _ : Unit => (p19, (OXT kS (T2 K (tD K eS) (T2 K (tD K eQ) (VP K (T2 K (tD K eS) (tD K eQ)))))) (s24)) :: (p18, (OIo_Part K p19) ((x17.1.1, x17.1.2.1))) :: (p16, (OLT (R_Size K)) (x20.1)) :: (p7, (OLT (tD K eI)) (x21.2)) :: D0) (s := ()) (fun v _ => v) evc_bl hP (fun F v s h => (show GoV _ _ _ _ from h).drop (by walk_at "sub"))
        · intro hP
          walk_at "dd"
          refine go_next ?_
          walk_at "dd"
          exact (hN5 _ t27 () hP).weak (by walk_at "sle") (by walk_at "sub")
      · intro hB27 F27 t27 x25 s24 n26 Nx hN27 hP
        unfold l_law_k14_b3 at hP
        walk_at "dd"
        refine go_seq (go_asgC (i := 0) (w := (w_law K X E.rt D0)) (Gx := fun x32 => [some ((LT K (tD K eI)) vscript), some ((tD K eI) x3), some (Is (.ref p7)), some ((tD K eS) x8.1), some ((LT K (T4 K (tD K eS) (tD K eQ) (tD K eQ) (VP K (T3 K (tD K eS) (tD K eQ) (tD K eS))))) x9.1.1), some ((LT K (tD K eS)) x9.1.2), some (Is (.ref p16)), none, none, none, none, some (Is (.ref p18)), some ((LT K (T4 K (tD K eS) (tD K eS) (OpT K (tD K eS)) (T2 K (tD K eQ) (VP K (T2 K (tD K eS) (tD K eQ)))))) x21.1), some ((LT K (T3 K (tD K eS) (tD K eS) (T2 K (tD K eQ) (VP K (T2 K (tD K eS) (tD K eQ)))))) x22), some ((tD K eI) x25), some ((tD K eS) x32.1), some ((tD K eS) x32.2.1), some ((OpT K (tD K eS)) x32.2.2.1), some ((T2 K (tD K eQ) (VP K (T2 K (tD K eS) (tD K eQ)))) x32.2.2.2), none]) (evc_ix sv_LT (evc_var (R := (LT K (T4 K (tD K eS) (tD K eS) (OpT K (tD K eS)) (T2 K (tD K eQ) (VP K (T2 K (tD K eS) (tD K eQ))))))) (x21.1) rfl) fun _ => (evc_var (R := (tD K eI)) (x25) rfl)) (fun _ => (evG_tupT (evGsT_cons evG_name (evGsT_cons evG_name (evGsT_cons evG_name (evGsT_cons evG_name evGsT_nil)))) rfl)) hP fun x32 hP => ?_)
        walk_at "dd"
        refine go_seq (go_ifCS (w := (w_law K X E.rt D0)) (Dd := fun (s : (List (Tx × (Tx × (Rat × (List (Tx × Rat))))))) => (p19, (OXT kS (T2 K (tD K eS) (T2 K (tD K eQ) (VP K (T2 K (tD K eS) (tD K eQ)))))) s) :: (p18, (OIo_Part K p19) ((x17.1.1, x17.1.2.1))) :: (p16, (OLT (R_Size K)) (x20.1)) :: (p7, (OLT (tD K eI)) (x21.2)) :: D0) (s := s24) (evtc_B (evc_isNNM (b := true) (evc_methXM (sp := sp_Part_put_face K) (C := He.ga K "Part") (m := "put_face") (f := fun (x : Unit) (y : Tx × Tx × (Option Tx) × (Rat × (List (Tx × Rat))) × Unit) (w : (List (Tx × (Tx × (Rat × (List (Tx × Rat))))))) => ((p18, (x17.1.1, x17.1.2.1)), p19, y.1, y.2.1, y.2.2.1, y.2.2.2.1, ())) (rest := fun _ _ w => (p16, (OLT (R_Size K)) (x20.1)) :: (p7, (OLT (tD K eI)) (x21.2)) :: D0) (gt := fun (w : (List (Tx × (Tx × (Rat × (List (Tx × Rat))))))) => w) (st := fun (w : (List (Tx × (Tx × (Rat × (List (Tx × Rat))))))) (y : (List (Tx × (Tx × (Rat × (List (Tx × Rat))))))) => y) (g := (fun (w : (List (Tx × (Tx × (Rat × (List (Tx × Rat))))))) (y : (List (Tx × (Tx × (Rat × (List (Tx × Rat))))))) => ())) (fun _ _ _ _ h => h) (evc_var (R := fun _ : Unit => Is (.ref p18)) () rfl) (fun _ => (evac_cons (evc_var (R := (tD K eS)) (x32.1) rfl) fun _ => (evac_cons (evc_var (R := (tD K eS)) (x32.2.1) rfl) fun _ => (evac_cons (evc_var (R := (OpT K (tD K eS))) (x32.2.2.1) rfl) fun _ => (evac_cons (evc_var (R := (T2 K (tD K eQ) (VP K (T2 K (tD K eS) (tD K eQ))))) (x32.2.2.2) rfl) fun _ => evac_nil))))) (recOk_O (at_n 1 fun _ => rfl) (fun _ o F h => by obtain ⟨dx, fs, e0, h2⟩ := h; exact ⟨dx, fs, e0, lookup_off (by rw [h2.1]; show ¬ ("put_face" : PySem.Str) ∈ (["name", "own", "placed"] : List PySem.Str); decide +kernel)⟩)) (fun _ => rfl) (fun _ _ w _ => ((erase_perm (k := 1) rfl).symm.trans ((((erase_perm (k := 0) rfl).symm.trans (((List.Perm.refl _)).cons _))).cons _))) (fun _ _ => DLe.of (by walk_at "sub")) hdmR0) isn_U)) hP ?_ ?_)
        · intro s33 hP
          walk_at "dd"
          exact go_retC (w := (w_law K X E.rt D0)) (Dd := fun _ : Unit => (p19, (OXT kS (T2 K (tD K eS) (T2 K (tD K eQ) (VP K (T2 K (tD K eS) (tD K eQ)))))) (s33)) :: (p18, (OIo_Part K p19) ((x17.1.1, x17.1.2.1))) :: (p16, (OLT (R_Size K)) (x20.1)) :: (p7, (OLT (tD K eI)) (x21.2)) :: D0) (s := ()) (fun v _ => v) evc_bl hP (fun F v s h => (show GoV _ _ _ _ from h).drop (by walk_at "sub"))
        · intro s33 hP
          walk_at "dd"
          refine go_next ?_
          walk_at "dd"
          refine go_seq (go_setNC (w := (w_law K X E.rt D0)) (evnc_methXR (sp := sp_Part_faces K) (C := He.ga K "Part") (m := "faces") (f := fun (x : Unit) (y : Unit) (w : Unit) => ((p18, (x17.1.1, x17.1.2.1)), (p19, s33), ())) (rest := fun _ _ w => (p16, (OLT (R_Size K)) (x20.1)) :: (p7, (OLT (tD K eI)) (x21.2)) :: D0) (g := (fun _ => ())) (fun _ _ _ _ h => h) (evc_var (R := fun _ : Unit => Is (.ref p18)) () rfl) (fun _ => evac_nil) (recOk_O (at_n 1 fun _ => rfl) (fun _ o F h => by obtain ⟨dx, fs, e0, h2⟩ := h; exact ⟨dx, fs, e0, lookup_off (by rw [h2.1]; show ¬ ("faces" : PySem.Str) ∈ (["name", "own", "placed"] : List PySem.Str); decide +kernel)⟩)) (fun _ _ w => ((erase_perm (k := 1) rfl).symm.trans ((((erase_perm (k := 0) rfl).symm.trans (((List.Perm.refl _)).cons _))).cons _))) (fun _ => DLe.of (by walk_at "sub")) hdmR0) hP fun x34 p35 hP => ?_)
          walk_at "dd"
          refine go_seq (go_ifC (w := (w_law K X E.rt D0)) (evtc_not (evtc_B (evc_callRD (sp := sp__law_is_list K) (f := fun (y : Unit × (List (Tx × Tx × (Rat × (List (Tx × Rat))))) × Unit) (w : Unit) => ((p35, x34), y.2.1, ())) (g := (fun _ => ())) (fun _ _ _ _ h => .inr h) (evac_cons (evc_var (R := fun _ : Unit => Is (.ref p35)) () rfl) fun _ => (evac_cons (evc_frzLT (evnc_slL sv_LT lv_LT (evc_var (R := (LT K (T3 K (tD K eS) (tD K eS) (T2 K (tD K eQ) (VP K (T2 K (tD K eS) (tD K eQ))))))) (x22) rfl) (fun _ => evo_none) fun _ => (evo_some (evc_add (evc_var (R := (tD K eI)) (x25) rfl) fun _ => evc_int)))) fun _ => evac_nil)) (fun _ w => ⟨(RdC.of (k := 0) rfl), trivial⟩) (fun _ => DLe.of (by walk_at "sub")) hdR0))) hP ?_ ?_)
          · intro hP
            walk_at "dd"
            exact go_retC (w := (w_law K X E.rt D0)) (Dd := fun _ : Unit => (p35, (OLT (T3 K (tD K eS) (tD K eS) (T2 K (tD K eQ) (VP K (T2 K (tD K eS) (tD K eQ)))))) (x34)) :: (p19, (OXT kS (T2 K (tD K eS) (T2 K (tD K eQ) (VP K (T2 K (tD K eS) (tD K eQ)))))) (s33)) :: (p18, (OIo_Part K p19) ((x17.1.1, x17.1.2.1))) :: (p16, (OLT (R_Size K)) (x20.1)) :: (p7, (OLT (tD K eI)) (x21.2)) :: D0) (s := ()) (fun v _ => v) evc_bl hP (fun F v s h => (show GoV _ _ _ _ from h).drop (by walk_at "sub"))
          · intro hP
            walk_at "dd"
            refine go_next ?_
            walk_at "dd"
            refine go_clearC (w := (w_law K X E.rt D0)) (R := (T3 K (tD K eS) (tD K eS) (T2 K (tD K eQ) (VP K (T2 K (tD K eS) (tD K eQ)))))) (xs := x34) (n := 19) (k := 0) rfl rfl hP fun x36 hP => ?_
            walk_at "dd"
            exact (hN27 _ (Same.refl _) s33 hP).weak (by walk_at "sle") (by walk_at "sub")
theorem pure_law (T : Txt K mg) (vs : List V) (H : Hp) (Q : VK) (X : XK) (h : sp_law K vs H Q X) : t_law K X { nx := fun _ H' => Q .non H', rt := Q } (L2.start N_law vs) H :=
  pure_ofLawT (mf := l_law_k14) l_law_k14_true (fun x F D E hrt hnx hP => by
    subst hrt
    exact walk_law T hnx hP) h
theorem len_law (K : PySem.W.Frag) : ∀ vs H Q E, sp_law K vs H Q E → vs.length = 1 := fun vs H Q E ⟨x, F, D, _, h, _⟩ => h.len
end
end N14
set_option Elab.async false
set_option linter.all false
set_option maxRecDepth 100000
set_option synthInstance.maxSize 4000
set_option maxHeartbeats 4000000
open PySem PySem.Spec L2 TL
namespace N14
section
variable {P : Program} {w : World} {K : PySem.W.Frag} {mg : Str → Option Value} {base : Heap}
theorem ok_is_whole (T : Txt K mg) {f : Addr} {fd : FuncData} (FD : FunD K "is_whole" "is_whole" (defArgs s_is_whole) (defBody s_is_whole) (defScope s_is_whole) [] [] f fd) : FnOk P w K mg base (L2.CX P w) 1 f fd ["thing"] (sp_is_whole K) :=
  FD.ok sc_is_whole (len_is_whole K) fun cdv A outer s H vs Q X hr h => ⟨t_is_whole K X, body_is_whole T hr, pure_is_whole T vs H Q X h⟩
theorem ok_common (T : Txt K mg) {f : Addr} {fd : FuncData} (FD : FunD K "common" "common" (defArgs s_common) (defBody s_common) (defScope s_common) [] [] f fd) : FnOk P w K mg base (L2.CX P w) 1 f fd ["one", "other"] (sp_common K) :=
  FD.ok sc_common (len_common K) fun cdv A outer s H vs Q X hr h => ⟨t_common K X, body_common T hr, pure_common T vs H Q X h⟩
theorem ok_number_of (T : Txt K mg) (F_common : Fo P w K mg base "common" ["one", "other"] [] 1 (sp_common K)) (F_is_whole : Fo P w K mg base "is_whole" ["thing"] [] 1 (sp_is_whole K)) {f : Addr} {fd : FuncData} (FD : FunD K "number_of" "number_of" (defArgs s_number_of) (defBody s_number_of) (defScope s_number_of) [.int 1] [] f fd) : FnOk P w K mg base (L2.CX P w) 2 f fd ["top", "bottom"] (sp_number_of K) :=
  FD.ok sc_number_of (len_number_of K) fun cdv A outer s H vs Q X hr h => ⟨t_number_of K X, body_number_of T F_common F_is_whole hr, pure_number_of T vs H Q X h⟩
theorem ok_plus (T : Txt K mg) (F_number_of : Fo P w K mg base "number_of" ["top", "bottom"] [] 2 (sp_number_of K)) {f : Addr} {fd : FuncData} (FD : FunD K "plus" "plus" (defArgs s_plus) (defBody s_plus) (defScope s_plus) [] [] f fd) : FnOk P w K mg base (L2.CX P w) 3 f fd ["a", "b"] (sp_plus K) :=
  FD.ok sc_plus (len_plus K) fun cdv A outer s H vs Q X hr h => ⟨t_plus K X, body_plus T F_number_of hr, pure_plus T vs H Q X h⟩
theorem ok_is_less (T : Txt K mg) {f : Addr} {fd : FuncData} (FD : FunD K "is_less" "is_less" (defArgs s_is_less) (defBody s_is_less) (defScope s_is_less) [] [] f fd) : FnOk P w K mg base (L2.CX P w) 1 f fd ["a", "b"] (sp_is_less K) :=
  FD.ok sc_is_less (len_is_less K) fun cdv A outer s H vs Q X hr h => ⟨t_is_less K X, body_is_less T hr, pure_is_less T vs H Q X h⟩
theorem ok_sum_of (T : Txt K mg) (F_plus : Fo P w K mg base "plus" ["a", "b"] [] 3 (sp_plus K)) {f : Addr} {fd : FuncData} (FD : FunD K "sum_of" "sum_of" (defArgs s_sum_of) (defBody s_sum_of) (defScope s_sum_of) [] [] f fd) : FnOk P w K mg base (L2.CX P w) 4 f fd ["number", "pairs"] (sp_sum_of K) :=
  FD.ok sc_sum_of (len_sum_of K) fun cdv A outer s H vs Q X hr h => ⟨t_sum_of K X, body_sum_of T F_plus hr, pure_sum_of T vs H Q X h⟩
theorem ok_sum_plus (T : Txt K mg) (F_plus : Fo P w K mg base "plus" ["a", "b"] [] 3 (sp_plus K)) (F_sum_of : Fo P w K mg base "sum_of" ["number", "pairs"] [] 4 (sp_sum_of K)) {f : Addr} {fd : FuncData} (FD : FunD K "sum_plus" "sum_plus" (defArgs s_sum_plus) (defBody s_sum_plus) (defScope s_sum_plus) [] [] f fd) : FnOk P w K mg base (L2.CX P w) 5 f fd ["a", "b"] (sp_sum_plus K) :=
  FD.ok sc_sum_plus (len_sum_plus K) fun cdv A outer s H vs Q X hr h => ⟨t_sum_plus K X, body_sum_plus T F_plus F_sum_of hr, pure_sum_plus T vs H Q X h⟩
theorem ok_is_name_stocks (T : Txt K mg) {f : Addr} {fd : FuncData} (FD : FunD K "is_name" "is_name" (defArgs s_is_name_stocks) (defBody s_is_name_stocks) (defScope s_is_name_stocks) [] [] f fd) : FnOk P w K mg base (L2.CX P w) 1 f fd ["text"] (sp_is_name_stocks K) :=
  FD.ok sc_is_name_stocks (len_is_name_stocks K) fun cdv A outer s H vs Q X hr h => ⟨t_is_name_stocks K X, body_is_name_stocks T hr, pure_is_name_stocks T vs H Q X h⟩
theorem ok_Size_names (T : Txt K mg) {f : Addr} {fd : FuncData} (FD : FunD K "names" "Size.names" (defArgs s_Size_names) (defBody s_Size_names) (defScope s_Size_names) [] [] f fd) : FnOk P w K mg base (L2.CX P w) 1 f fd ["self"] (sp_Size_names K) :=
  FD.ok sc_Size_names (len_Size_names K) fun cdv A outer s H vs Q X hr h => ⟨t_Size_names K X, body_Size_names T hr, pure_Size_names T vs H Q X h⟩
theorem ok_Size___init__ (T : Txt K mg) (F_Size_names : FoM P w K mg base (He.ga K "Size") "names" ["self"] [] 1 (sp_Size_names K)) (F_is_less : Fo P w K mg base "is_less" ["a", "b"] [] 1 (sp_is_less K)) (F_is_name_stocks : Fo P w K mg base "is_name_stocks" ["text"] [] 1 (sp_is_name_stocks K)) {f : Addr} {fd : FuncData} (FD : FunD K "__init__" "Size.__init__" (defArgs s_Size___init__) (defBody s_Size___init__) (defScope s_Size___init__) [.non] [] f fd) : FnOk P w K mg base (L2.CX P w) 2 f fd ["self", "name", "least", "most", "shifts"] (sp_Size___init__ K) :=
  FD.ok sc_Size___init__ (len_Size___init__ K) fun cdv A outer s H vs Q X hr h => ⟨t_Size___init__ K X, body_Size___init__ T F_Size_names F_is_less F_is_name_stocks hr, pure_Size___init__ T vs H Q X h⟩
theorem ok_Stock_names (T : Txt K mg) (F_Size_names : FoM P w K mg base (He.ga K "Size") "names" ["self"] [] 1 (sp_Size_names K)) {f : Addr} {fd : FuncData} (FD : FunD K "names" "Stock.names" (defArgs s_Stock_names) (defBody s_Stock_names) (defScope s_Stock_names) [] [] f fd) : FnOk P w K mg base (L2.CX P w) 2 f fd ["self"] (sp_Stock_names K) :=
  FD.ok sc_Stock_names (len_Stock_names K) fun cdv A outer s H vs Q X hr h => ⟨t_Stock_names K X, body_Stock_names T F_Size_names hr, pure_Stock_names T vs H Q X h⟩
theorem ok_Stock___init__ (T : Txt K mg) (F_Stock_names : FoM P w K mg base (He.ga K "Stock") "names" ["self"] [] 2 (sp_Stock_names K)) {f : Addr} {fd : FuncData} (FD : FunD K "__init__" "Stock.__init__" (defArgs s_Stock___init__) (defBody s_Stock___init__) (defScope s_Stock___init__) [] [] f fd) : FnOk P w K mg base (L2.CX P w) 3 f fd ["self", "sizes"] (sp_Stock___init__ K) :=
  FD.ok sc_Stock___init__ (len_Stock___init__ K) fun cdv A outer s H vs Q X hr h => ⟨t_Stock___init__ K X, body_Stock___init__ T F_Stock_names hr, pure_Stock___init__ T vs H Q X h⟩
theorem ok_Stock_sizes (T : Txt K mg) {f : Addr} {fd : FuncData} (FD : FunD K "sizes" "Stock.sizes" (defArgs s_Stock_sizes) (defBody s_Stock_sizes) (defScope s_Stock_sizes) [] [] f fd) : FnOk P w K mg base (L2.CX P w) 1 f fd ["self"] (sp_Stock_sizes K) :=
  FD.ok sc_Stock_sizes (len_Stock_sizes K) fun cdv A outer s H vs Q X hr h => ⟨t_Stock_sizes K X, body_Stock_sizes T hr, pure_Stock_sizes T vs H Q X h⟩
theorem ok_is_name_parts (T : Txt K mg) {f : Addr} {fd : FuncData} (FD : FunD K "is_name" "is_name" (defArgs s_is_name_parts) (defBody s_is_name_parts) (defScope s_is_name_parts) [] [] f fd) : FnOk P w K mg base (L2.CX P w) 1 f fd ["thing"] (sp_is_name_parts K) :=
  FD.ok sc_is_name_parts (len_is_name_parts K) fun cdv A outer s H vs Q X hr h => ⟨t_is_name_parts K X, body_is_name_parts T hr, pure_is_name_parts T vs H Q X h⟩
theorem ok_has_names (T : Txt K mg) (F_Stock_names : FoM P w K mg base (He.ga K "Stock") "names" ["self"] [] 2 (sp_Stock_names K)) {f : Addr} {fd : FuncData} (FD : FunD K "has_names" "has_names" (defArgs s_has_names) (defBody s_has_names) (defScope s_has_names) [] [] f fd) : FnOk P w K mg base (L2.CX P w) 3 f fd ["stock", "add"] (sp_has_names K) :=
  FD.ok sc_has_names (len_has_names K) fun cdv A outer s H vs Q X hr h => ⟨t_has_names K X, body_has_names T F_Stock_names hr, pure_has_names T vs H Q X h⟩
theorem ok_Part___init__ (T : Txt K mg) (F_Stock___init__ : FoI P w K mg base "Stock" (He.ga K "Stock") ["self", "sizes"] [] 3 (sp_Stock___init__ K)) (F_Stock_names : FoM P w K mg base (He.ga K "Stock") "names" ["self"] [] 2 (sp_Stock_names K)) (F_is_name_parts : Fo P w K mg base "is_name_parts" ["thing"] [] 1 (sp_is_name_parts K)) {f : Addr} {fd : FuncData} (FD : FunD K "__init__" "Part.__init__" (defArgs s_Part___init__) (defBody s_Part___init__) (defScope s_Part___init__) [] [] f fd) : FnOk P w K mg base (L2.CX P w) 5 f fd ["self", "name", "sizes"] (sp_Part___init__ K) :=
  FD.ok sc_Part___init__ (len_Part___init__ K) fun cdv A outer s H vs Q X hr h => ⟨t_Part___init__ K X, body_Part___init__ T F_Stock___init__ F_Stock_names F_is_name_parts hr, pure_Part___init__ T vs H Q X h⟩
theorem ok_Part_stock (T : Txt K mg) {f : Addr} {fd : FuncData} (FD : FunD K "stock" "Part.stock" (defArgs s_Part_stock) (defBody s_Part_stock) (defScope s_Part_stock) [] [] f fd) : FnOk P w K mg base (L2.CX P w) 1 f fd ["self"] (sp_Part_stock K) :=
  FD.ok sc_Part_stock (len_Part_stock K) fun cdv A outer s H vs Q X hr h => ⟨t_Part_stock K X, body_Part_stock T hr, pure_Part_stock T vs H Q X h⟩
theorem ok_Part_faces (T : Txt K mg) {f : Addr} {fd : FuncData} (FD : FunD K "faces" "Part.faces" (defArgs s_Part_faces) (defBody s_Part_faces) (defScope s_Part_faces) [] [] f fd) : FnOk P w K mg base (L2.CX P w) 1 f fd ["self"] (sp_Part_faces K) :=
  FD.ok sc_Part_faces (len_Part_faces K) fun cdv A outer s H vs Q X hr h => ⟨t_Part_faces K X, body_Part_faces T hr, pure_Part_faces T vs H Q X h⟩
theorem ok_Part_check_added (T : Txt K mg) (F_has_names : Fo P w K mg base "has_names" ["stock", "add"] [] 3 (sp_has_names K)) {f : Addr} {fd : FuncData} (FD : FunD K "check_added" "Part.check_added" (defArgs s_Part_check_added) (defBody s_Part_check_added) (defScope s_Part_check_added) [] [] f fd) : FnOk P w K mg base (L2.CX P w) 4 f fd ["self", "axis", "add"] (sp_Part_check_added K) :=
  FD.ok sc_Part_check_added (len_Part_check_added K) fun cdv A outer s H vs Q X hr h => ⟨t_Part_check_added K X, body_Part_check_added T F_has_names hr, pure_Part_check_added T vs H Q X h⟩
theorem ok_Part_put_face (T : Txt K mg) (F_Part_check_added : FoM P w K mg base (He.ga K "Part") "check_added" ["self", "axis", "add"] [] 4 (sp_Part_check_added K)) (F_is_name_parts : Fo P w K mg base "is_name_parts" ["thing"] [] 1 (sp_is_name_parts K)) (F_sum_plus : Fo P w K mg base "sum_plus" ["a", "b"] [] 5 (sp_sum_plus K)) {f : Addr} {fd : FuncData} (FD : FunD K "put_face" "Part.put_face" (defArgs s_Part_put_face) (defBody s_Part_put_face) (defScope s_Part_put_face) [] [] f fd) : FnOk P w K mg base (L2.CX P w) 6 f fd ["self", "name", "axis", "start", "add"] (sp_Part_put_face K) :=
  FD.ok sc_Part_put_face (len_Part_put_face K) fun cdv A outer s H vs Q X hr h => ⟨t_Part_put_face K X, body_Part_put_face T F_Part_check_added F_is_name_parts F_sum_plus hr, pure_Part_put_face T vs H Q X h⟩
theorem ok__law_well (T : Txt K mg) {f : Addr} {fd : FuncData} (FD : FunD K "_law_well" "_law_well" (defArgs s__law_well) (defBody s__law_well) (defScope s__law_well) [] [] f fd) : FnOk P w K mg base (L2.CX P w) 1 f fd ["_law_script", "_law_k"] (sp__law_well K) :=
  FD.ok sc__law_well (len__law_well K) fun cdv A outer s H vs Q X hr h => ⟨t__law_well K X, body__law_well T hr, pure__law_well T vs H Q X h⟩
theorem ok__law_take (T : Txt K mg) {f : Addr} {fd : FuncData} (FD : FunD K "_law_take" "_law_take" (defArgs s__law_take) (defBody s__law_take) (defScope s__law_take) [] [] f fd) : FnOk P w K mg base (L2.CX P w) 1 f fd ["_law_well_here", "_law_many"] (sp__law_take K) :=
  FD.ok sc__law_take (len__law_take K) fun cdv A outer s H vs Q X hr h => ⟨t__law_take K X, body__law_take T hr, pure__law_take T vs H Q X h⟩
theorem ok__law_common (T : Txt K mg) {f : Addr} {fd : FuncData} (FD : FunD K "_law_common" "_law_common" (defArgs s__law_common) (defBody s__law_common) (defScope s__law_common) [] [] f fd) : FnOk P w K mg base (L2.CX P w) 1 f fd ["_law_one", "_law_other"] (sp__law_common K) :=
  FD.ok sc__law_common (len__law_common K) fun cdv A outer s H vs Q X hr h => ⟨t__law_common K X, body__law_common T hr, pure__law_common T vs H Q X h⟩
theorem ok__law_num (T : Txt K mg) (F__law_common : Fo P w K mg base "_law_common" ["_law_one", "_law_other"] [] 1 (sp__law_common K)) {f : Addr} {fd : FuncData} (FD : FunD K "_law_num" "_law_num" (defArgs s__law_num) (defBody s__law_num) (defScope s__law_num) [] [] f fd) : FnOk P w K mg base (L2.CX P w) 2 f fd ["_law_top", "_law_bottom"] (sp__law_num K) :=
  FD.ok sc__law_num (len__law_num K) fun cdv A outer s H vs Q X hr h => ⟨t__law_num K X, body__law_num T F__law_common hr, pure__law_num T vs H Q X h⟩
theorem ok__law_add (T : Txt K mg) (F__law_num : Fo P w K mg base "_law_num" ["_law_top", "_law_bottom"] [] 2 (sp__law_num K)) {f : Addr} {fd : FuncData} (FD : FunD K "_law_add" "_law_add" (defArgs s__law_add) (defBody s__law_add) (defScope s__law_add) [] [] f fd) : FnOk P w K mg base (L2.CX P w) 3 f fd ["_law_one", "_law_other"] (sp__law_add K) :=
  FD.ok sc__law_add (len__law_add K) fun cdv A outer s H vs Q X hr h => ⟨t__law_add K X, body__law_add T F__law_num hr, pure__law_add T vs H Q X h⟩
theorem ok__law_number (T : Txt K mg) (F__law_num : Fo P w K mg base "_law_num" ["_law_top", "_law_bottom"] [] 2 (sp__law_num K)) (F__law_take : Fo P w K mg base "_law_take" ["_law_well_here", "_law_many"] [] 1 (sp__law_take K)) {f : Addr} {fd : FuncData} (FD : FunD K "_law_number" "_law_number" (defArgs s__law_number) (defBody s__law_number) (defScope s__law_number) [] [] f fd) : FnOk P w K mg base (L2.CX P w) 3 f fd ["_law_well_here"] (sp__law_number K) :=
  FD.ok sc__law_number (len__law_number K) fun cdv A outer s H vs Q X hr h => ⟨t__law_number K X, body__law_number T F__law_num F__law_take hr, pure__law_number T vs H Q X h⟩
theorem ok__law_word (T : Txt K mg) (F__law_take : Fo P w K mg base "_law_take" ["_law_well_here", "_law_many"] [] 1 (sp__law_take K)) {f : Addr} {fd : FuncData} (FD : FunD K "_law_word" "_law_word" (defArgs s__law_word) (defBody s__law_word) (defScope s__law_word) [] [] f fd) : FnOk P w K mg base (L2.CX P w) 2 f fd ["_law_well_here", "_law_taken"] (sp__law_word K) :=
  FD.ok sc__law_word (len__law_word K) fun cdv A outer s H vs Q X hr h => ⟨t__law_word K X, body__law_word T F__law_take hr, pure__law_word T vs H Q X h⟩
theorem ok__law_sizes (T : Txt K mg) (F__law_add : Fo P w K mg base "_law_add" ["_law_one", "_law_other"] [] 3 (sp__law_add K)) (F__law_number : Fo P w K mg base "_law_number" ["_law_well_here"] [] 3 (sp__law_number K)) (F__law_take : Fo P w K mg base "_law_take" ["_law_well_here", "_law_many"] [] 1 (sp__law_take K)) (F__law_word : Fo P w K mg base "_law_word" ["_law_well_here", "_law_taken"] [] 2 (sp__law_word K)) {f : Addr} {fd : FuncData} (FD : FunD K "_law_sizes" "_law_sizes" (defArgs s__law_sizes) (defBody s__law_sizes) (defScope s__law_sizes) [] [] f fd) : FnOk P w K mg base (L2.CX P w) 4 f fd ["_law_well_here", "_law_most"] (sp__law_sizes K) :=
  FD.ok sc__law_sizes (len__law_sizes K) fun cdv A outer s H vs Q X hr h => ⟨t__law_sizes K X, body__law_sizes T F__law_add F__law_number F__law_take F__law_word hr, pure__law_sizes T vs H Q X h⟩
theorem ok__law_sum (T : Txt K mg) (F__law_number : Fo P w K mg base "_law_number" ["_law_well_here"] [] 3 (sp__law_number K)) (F__law_take : Fo P w K mg base "_law_take" ["_law_well_here", "_law_many"] [] 1 (sp__law_take K)) {f : Addr} {fd : FuncData} (FD : FunD K "_law_sum" "_law_sum" (defArgs s__law_sum) (defBody s__law_sum) (defScope s__law_sum) [] [] f fd) : FnOk P w K mg base (L2.CX P w) 4 f fd ["_law_well_here", "_law_names"] (sp__law_sum K) :=
  FD.ok sc__law_sum (len__law_sum K) fun cdv A outer s H vs Q X hr h => ⟨t__law_sum K X, body__law_sum T F__law_number F__law_take hr, pure__law_sum T vs H Q X h⟩
theorem ok__law_plus (T : Txt K mg) (F__law_add : Fo P w K mg base "_law_add" ["_law_one", "_law_other"] [] 3 (sp__law_add K)) {f : Addr} {fd : FuncData} (FD : FunD K "_law_plus" "_law_plus" (defArgs s__law_plus) (defBody s__law_plus) (defScope s__law_plus) [] [] f fd) : FnOk P w K mg base (L2.CX P w) 4 f fd ["_law_one", "_law_other", "_law_sign"] (sp__law_plus K) :=
  FD.ok sc__law_plus (len__law_plus K) fun cdv A outer s H vs Q X hr h => ⟨t__law_plus K X, body__law_plus T F__law_add hr, pure__law_plus T vs H Q X h⟩
theorem ok__law_faces (T : Txt K mg) (F__law_sum : Fo P w K mg base "_law_sum" ["_law_well_here", "_law_names"] [] 4 (sp__law_sum K)) (F__law_take : Fo P w K mg base "_law_take" ["_law_well_here", "_law_many"] [] 1 (sp__law_take K)) (F__law_word : Fo P w K mg base "_law_word" ["_law_well_here", "_law_taken"] [] 2 (sp__law_word K)) {f : Addr} {fd : FuncData} (FD : FunD K "_law_faces" "_law_faces" (defArgs s__law_faces) (defBody s__law_faces) (defScope s__law_faces) [] [] f fd) : FnOk P w K mg base (L2.CX P w) 5 f fd ["_law_well_here", "_law_names", "_law_many"] (sp__law_faces K) :=
  FD.ok sc__law_faces (len__law_faces K) fun cdv A outer s H vs Q X hr h => ⟨t__law_faces K X, body__law_faces T F__law_sum F__law_take F__law_word hr, pure__law_faces T vs H Q X h⟩
theorem ok__law_placed (T : Txt K mg) (F__law_plus : Fo P w K mg base "_law_plus" ["_law_one", "_law_other", "_law_sign"] [] 4 (sp__law_plus K)) {f : Addr} {fd : FuncData} (FD : FunD K "_law_placed" "_law_placed" (defArgs s__law_placed) (defBody s__law_placed) (defScope s__law_placed) [] [] f fd) : FnOk P w K mg base (L2.CX P w) 5 f fd ["_law_faces_here"] (sp__law_placed K) :=
  FD.ok sc__law_placed (len__law_placed K) fun cdv A outer s H vs Q X hr h => ⟨t__law_placed K X, body__law_placed T F__law_plus hr, pure__law_placed T vs H Q X h⟩
theorem ok__law_plain (T : Txt K mg) {f : Addr} {fd : FuncData} (FD : FunD K "_law_plain" "_law_plain" (defArgs s__law_plain) (defBody s__law_plain) (defScope s__law_plain) [] [] f fd) (mk : ∀ l sp, FnOk P w K mg base (L2.CX P w) l f fd ["_law_thing"] sp → Fo P w K mg base "_law_plain" ["_law_thing"] [] l sp) : ∀ m : Nat, FnOk P w K mg base (L2.CX P w) (1 + m) f fd ["_law_thing"] (sp__law_plain_r m K)
  | 0 => FD.ok sc__law_plain (len__law_plain_r 0 K) fun cdv A outer s H vs Q X hr h => (rec0__law_plain h).elim
  | m + 1 => FD.ok sc__law_plain (len__law_plain_r (m + 1) K) fun cdv A outer s H vs Q X hr h => ⟨t__law_plain m K X, body__law_plain m T (mk _ _ (ok__law_plain T FD mk m)) hr, pure__law_plain T m vs H Q X h⟩
theorem ok__law_is_list (T : Txt K mg) (F__law_plain : Fo P w K mg base "_law_plain" ["_law_thing"] [] 25 (sp__law_plain K)) {f : Addr} {fd : FuncData} (FD : FunD K "_law_is_list" "_law_is_list" (defArgs s__law_is_list) (defBody s__law_is_list) (defScope s__law_is_list) [] [] f fd) : FnOk P w K mg base (L2.CX P w) 26 f fd ["_law_found", "_law_due"] (sp__law_is_list K) :=
  FD.ok sc__law_is_list (len__law_is_list K) fun cdv A outer s H vs Q X hr h => ⟨t__law_is_list K X, body__law_is_list T F__law_plain hr, pure__law_is_list T vs H Q X h⟩
theorem ok__law_fields (T : Txt K mg) (F_Stock_sizes : FoM P w K mg base (He.ga K "Stock") "sizes" ["self"] [] 1 (sp_Stock_sizes K)) {f : Addr} {fd : FuncData} (FD : FunD K "_law_fields" "_law_fields" (defArgs s__law_fields) (defBody s__law_fields) (defScope s__law_fields) [] [] f fd) : FnOk P w K mg base (L2.CX P w) 2 f fd ["_law_stock"] (sp__law_fields K) :=
  FD.ok sc__law_fields (len__law_fields K) fun cdv A outer s H vs Q X hr h => ⟨t__law_fields K X, body__law_fields T F_Stock_sizes hr, pure__law_fields T vs H Q X h⟩
theorem ok_law (T : Txt K mg) (F_Part___init__ : FoI P w K mg base "Part" (He.ga K "Part") ["self", "name", "sizes"] [] 5 (sp_Part___init__ K)) (F_Part_faces : FoM P w K mg base (He.ga K "Part") "faces" ["self"] [] 1 (sp_Part_faces K)) (F_Part_put_face : FoM P w K mg base (He.ga K "Part") "put_face" ["self", "name", "axis", "start", "add"] [] 6 (sp_Part_put_face K)) (F_Part_stock : FoM P w K mg base (He.ga K "Part") "stock" ["self"] [] 1 (sp_Part_stock K)) (F_Size___init__ : FoI P w K mg base "Size" (He.ga K "Size") ["self", "name", "least", "most", "shifts"] [] 2 (sp_Size___init__ K)) (F_Stock_names : FoM P w K mg base (He.ga K "Stock") "names" ["self"] [] 2 (sp_Stock_names K)) (F__law_faces : Fo P w K mg base "_law_faces" ["_law_well_here", "_law_names", "_law_many"] [] 5 (sp__law_faces K)) (F__law_fields : Fo P w K mg base "_law_fields" ["_law_stock"] [] 2 (sp__law_fields K)) (F__law_is_list : Fo P w K mg base "_law_is_list" ["_law_found", "_law_due"] [] 26 (sp__law_is_list K)) (F__law_placed : Fo P w K mg base "_law_placed" ["_law_faces_here"] [] 5 (sp__law_placed K)) (F__law_sizes : Fo P w K mg base "_law_sizes" ["_law_well_here", "_law_most"] [] 4 (sp__law_sizes K)) (F__law_take : Fo P w K mg base "_law_take" ["_law_well_here", "_law_many"] [] 1 (sp__law_take K)) (F__law_well : Fo P w K mg base "_law_well" ["_law_script", "_law_k"] [] 1 (sp__law_well K)) (F__law_word : Fo P w K mg base "_law_word" ["_law_well_here", "_law_taken"] [] 2 (sp__law_word K)) {f : Addr} {fd : FuncData} (FD : FunD K "law" "law" (defArgs s_law) (defBody s_law) (defScope s_law) [] [] f fd) : FnOk P w K mg base (L2.CX P w) 27 f fd ["_law_script"] (sp_law K) :=
  FD.ok sc_law (len_law K) fun cdv A outer s H vs Q X hr h => ⟨t_law K X, body_law T F_Part___init__ F_Part_faces F_Part_put_face F_Part_stock F_Size___init__ F_Stock_names F__law_faces F__law_fields F__law_is_list F__law_placed F__law_sizes F__law_take F__law_well F__law_word hr, pure_law T vs H Q X h⟩
end
def d0 : He.DefD := ⟨("is_whole", none), "is_whole", "is_whole", defArgs s_is_whole, defBody s_is_whole, defScope s_is_whole, [], []⟩
def d1 : He.DefD := ⟨("common", none), "common", "common", defArgs s_common, defBody s_common, defScope s_common, [], []⟩
def d2 : He.DefD := ⟨("number_of", none), "number_of", "number_of", defArgs s_number_of, defBody s_number_of, defScope s_number_of, [(.int 1 : He.Dv)], []⟩
def d3 : He.DefD := ⟨("plus", none), "plus", "plus", defArgs s_plus, defBody s_plus, defScope s_plus, [], []⟩
def d4 : He.DefD := ⟨("is_less", none), "is_less", "is_less", defArgs s_is_less, defBody s_is_less, defScope s_is_less, [], []⟩
def d5 : He.DefD := ⟨("sum_of", none), "sum_of", "sum_of", defArgs s_sum_of, defBody s_sum_of, defScope s_sum_of, [], []⟩
def d6 : He.DefD := ⟨("sum_plus", none), "sum_plus", "sum_plus", defArgs s_sum_plus, defBody s_sum_plus, defScope s_sum_plus, [], []⟩
def d7 : He.DefD := ⟨("is_name_stocks", none), "is_name", "is_name", defArgs s_is_name_stocks, defBody s_is_name_stocks, defScope s_is_name_stocks, [], []⟩
def d8 : He.DefD := ⟨("Size", some "names"), "names", "Size.names", defArgs s_Size_names, defBody s_Size_names, defScope s_Size_names, [], []⟩
def d9 : He.DefD := ⟨("Size", some "__init__"), "__init__", "Size.__init__", defArgs s_Size___init__, defBody s_Size___init__, defScope s_Size___init__, [(.non : He.Dv)], []⟩
def d10 : He.DefD := ⟨("Stock", some "names"), "names", "Stock.names", defArgs s_Stock_names, defBody s_Stock_names, defScope s_Stock_names, [], []⟩
def d11 : He.DefD := ⟨("Stock", some "__init__"), "__init__", "Stock.__init__", defArgs s_Stock___init__, defBody s_Stock___init__, defScope s_Stock___init__, [], []⟩
def d12 : He.DefD := ⟨("Stock", some "sizes"), "sizes", "Stock.sizes", defArgs s_Stock_sizes, defBody s_Stock_sizes, defScope s_Stock_sizes, [], []⟩
def d13 : He.DefD := ⟨("is_name_parts", none), "is_name", "is_name", defArgs s_is_name_parts, defBody s_is_name_parts, defScope s_is_name_parts, [], []⟩
def d14 : He.DefD := ⟨("has_names", none), "has_names", "has_names", defArgs s_has_names, defBody s_has_names, defScope s_has_names, [], []⟩
def d15 : He.DefD := ⟨("Part", some "__init__"), "__init__", "Part.__init__", defArgs s_Part___init__, defBody s_Part___init__, defScope s_Part___init__, [], []⟩
def d16 : He.DefD := ⟨("Part", some "stock"), "stock", "Part.stock", defArgs s_Part_stock, defBody s_Part_stock, defScope s_Part_stock, [], []⟩
def d17 : He.DefD := ⟨("Part", some "faces"), "faces", "Part.faces", defArgs s_Part_faces, defBody s_Part_faces, defScope s_Part_faces, [], []⟩
def d18 : He.DefD := ⟨("Part", some "check_added"), "check_added", "Part.check_added", defArgs s_Part_check_added, defBody s_Part_check_added, defScope s_Part_check_added, [], []⟩
def d19 : He.DefD := ⟨("Part", some "put_face"), "put_face", "Part.put_face", defArgs s_Part_put_face, defBody s_Part_put_face, defScope s_Part_put_face, [], []⟩
def d20 : He.DefD := ⟨("_law_well", none), "_law_well", "_law_well", defArgs s__law_well, defBody s__law_well, defScope s__law_well, [], []⟩
def d21 : He.DefD := ⟨("_law_take", none), "_law_take", "_law_take", defArgs s__law_take, defBody s__law_take, defScope s__law_take, [], []⟩
def d22 : He.DefD := ⟨("_law_common", none), "_law_common", "_law_common", defArgs s__law_common, defBody s__law_common, defScope s__law_common, [], []⟩
def d23 : He.DefD := ⟨("_law_num", none), "_law_num", "_law_num", defArgs s__law_num, defBody s__law_num, defScope s__law_num, [], []⟩
def d24 : He.DefD := ⟨("_law_add", none), "_law_add", "_law_add", defArgs s__law_add, defBody s__law_add, defScope s__law_add, [], []⟩
def d25 : He.DefD := ⟨("_law_number", none), "_law_number", "_law_number", defArgs s__law_number, defBody s__law_number, defScope s__law_number, [], []⟩
def d26 : He.DefD := ⟨("_law_word", none), "_law_word", "_law_word", defArgs s__law_word, defBody s__law_word, defScope s__law_word, [], []⟩
def d27 : He.DefD := ⟨("_law_sizes", none), "_law_sizes", "_law_sizes", defArgs s__law_sizes, defBody s__law_sizes, defScope s__law_sizes, [], []⟩
def d28 : He.DefD := ⟨("_law_sum", none), "_law_sum", "_law_sum", defArgs s__law_sum, defBody s__law_sum, defScope s__law_sum, [], []⟩
def d29 : He.DefD := ⟨("_law_plus", none), "_law_plus", "_law_plus", defArgs s__law_plus, defBody s__law_plus, defScope s__law_plus, [], []⟩
def d30 : He.DefD := ⟨("_law_faces", none), "_law_faces", "_law_faces", defArgs s__law_faces, defBody s__law_faces, defScope s__law_faces, [], []⟩
def d31 : He.DefD := ⟨("_law_placed", none), "_law_placed", "_law_placed", defArgs s__law_placed, defBody s__law_placed, defScope s__law_placed, [], []⟩
def d32 : He.DefD := ⟨("_law_plain", none), "_law_plain", "_law_plain", defArgs s__law_plain, defBody s__law_plain, defScope s__law_plain, [], []⟩
def d33 : He.DefD := ⟨("_law_is_list", none), "_law_is_list", "_law_is_list", defArgs s__law_is_list, defBody s__law_is_list, defScope s__law_is_list, [], []⟩
def d34 : He.DefD := ⟨("_law_fields", none), "_law_fields", "_law_fields", defArgs s__law_fields, defBody s__law_fields, defScope s__law_fields, [], []⟩
def d35 : He.DefD := ⟨("law", none), "law", "law", defArgs s_law, defBody s_law, defScope s_law, [], []⟩
def fn : List He.DefD := [d0, d1, d2, d3, d4, d5, d6, d7, d8, d9, d10, d11, d12, d13, d14, d15, d16, d17, d18, d19, d20, d21, d22, d23, d24, d25, d26, d27, d28, d29, d30, d31, d32, d33, d34, d35]
def fa : List He.Fa := [.free "abs", .free "all", .free "bool", .free "dict", .free "int", .free "isinstance", .free "len", .free "list", .free "max", .free "min", .free "range", .free "set", .free "sorted", .free "str", .free "tuple", .cls "Part", .cls "Size", .cls "Stock", .glo "AXES", .glo "NOUGHT", .glo "NoFace", .glo "NoNumber", .glo "NoPart", .glo "NoSize", .glo "Part", .glo "Size", .glo "Stock", .glo "WAYS", .glo "ZERO", .str "LETTERS" "abcdefghijklmnopqrstuvwxyz", .int "MOST_SIGNS_parts" 8, .int "MOST_SIGNS_stocks" 30, .str "RESERVED" "frame", .str "SIGNS" "abcdefghijklmnopqrstuvwxyz0123456789.", .meth "Part" "check_added", .meth "Part" "faces", .meth "Part" "put_face", .meth "Part" "stock", .meth "Size" "names", .meth "Stock" "names", .meth "Stock" "sizes", .mkr "Part", .mkr "Size", .mkr "Stock", .noat "Part" "name", .noat "Part" "own", .noat "Part" "placed", .noat "Size" "least", .noat "Size" "most", .noat "Size" "name", .noat "Size" "shifts", .noat "Stock" "row", .glo "is_whole", .glo "common", .glo "number_of", .glo "plus", .glo "is_less", .glo "sum_of", .glo "sum_plus", .glo "is_name_stocks", .glo "is_name_parts", .glo "has_names", .glo "_law_well", .glo "_law_take", .glo "_law_common", .glo "_law_num", .glo "_law_add", .glo "_law_number", .glo "_law_word", .glo "_law_sizes", .glo "_law_sum", .glo "_law_plus", .glo "_law_faces", .glo "_law_placed", .glo "_law_plain", .glo "_law_is_list", .glo "_law_fields", .glo "law"]
def ex (K : PySem.W.Frag) : Bool := (decide (dataPB K (.ref (He.ga K "AXES")) (.tuple [.str "x", .str "y"]) = true) && (decide (dataPB K (.ref (He.ga K "NOUGHT")) (.tuple [.int (0), .int (1)]) = true) && (decide (dataPB K (.ref (He.ga K "WAYS")) (.tuple [.str "fixed", .str "big", .str "small"]) = true) && (decide (dataPB K (.ref (He.ga K "ZERO")) (.tuple [.int (0), .int (1)]) = true) && (excB K (He.ga K "NoFace") && (excB K (He.ga K "NoNumber") && (excB K (He.ga K "NoPart") && (excB K (He.ga K "NoSize") && true))))))))
abbrev R : PySem.W.OpenRow := PySem.W.OpenLaw.row PySem.Challenge.rw_fitwhatever_k14_faces_put
abbrev hk : PySem.W.Hook := hookY 5 fa fn ex
def ob (s : PySem.W.SharedT) : AlZ := obsYG 5 fa fn ex (HandSHeadRun.getT s)
theorem ob_eq (s : PySem.W.SharedT) : ob s = hk.obs s.abs := obsYG_eq (HandSHeadRun.getT_eq s)
theorem run (w : World) : HandSHeadRun.RunEq R (PySem.W.view R.prog [51]) hk ob 20000 ((["_wall", "FitError", "NoNumber", "NoSize", "NoPart", "NoFace", "is_whole", "common", "number_of", "plus", "is_less", "NOUGHT", "sum_of", "sum_plus", "SIGNS", "MOST_SIGNS_stocks", "WAYS", "ZERO", "is_name", "is_name_stocks", "Size", "Stock", "LETTERS", "AXES", "MOST_SIGNS_parts", "RESERVED", "is_name_parts", "has_names", "Part", "_law_well"] : List PySem.Str) ++ (["_law_take", "_law_common", "_law_num", "_law_add", "_law_number", "_law_word", "_law_sizes", "_law_sum", "_law_plus", "_law_faces", "_law_placed", "_law_plain", "_law_is_list", "_law_fields"] : List PySem.Str)) w := by
  intro os
  kernel_rfl
theorem facts {P : Program} {w : World} {K : PySem.W.Frag} {h : Heap} {mg : Str → Option Value} {f : Addr} (KX : K.In h) (G : h.Ns mainGlobals mg) (hfa : mg ("law" : Str) = some (.ref f)) (c : SaysZ fa fn ex K) :
    ∃ fd : FuncData, (∀ (s : Shared) (v : Value), BindsTo s fd ⟨[v], []⟩ [("_law_script", v)]) ∧ ∀ base : Heap, K.In base → base.Ns mainGlobals mg → FnOk P w K mg base L2.CX0 27 f fd ["_law_script"] (sp_law K) := by
  have ce := c.2
  unfold ex at ce
  simp only [Bool.and_eq_true] at ce
  obtain ⟨x0, x1, x2, x3, x4, x5, x6, x7, _⟩ := ce
  have T : Txt K mg := {
    b_abs := He.free_ok KX G (c.1.fact 0 rfl)
    b_all := He.free_ok KX G (c.1.fact 1 rfl)
    b_bool := He.free_ok KX G (c.1.fact 2 rfl)
    b_dict := He.free_ok KX G (c.1.fact 3 rfl)
    b_int := He.free_ok KX G (c.1.fact 4 rfl)
    b_isinstance := He.free_ok KX G (c.1.fact 5 rfl)
    b_len := He.free_ok KX G (c.1.fact 6 rfl)
    b_list := He.free_ok KX G (c.1.fact 7 rfl)
    b_max := He.free_ok KX G (c.1.fact 8 rfl)
    b_min := He.free_ok KX G (c.1.fact 9 rfl)
    b_range := He.free_ok KX G (c.1.fact 10 rfl)
    b_set := He.free_ok KX G (c.1.fact 11 rfl)
    b_sorted := He.free_ok KX G (c.1.fact 12 rfl)
    b_str := He.free_ok KX G (c.1.fact 13 rfl)
    b_tuple := He.free_ok KX G (c.1.fact 14 rfl)
    cl_Part := He.cls_ok (c.1.fact 15 rfl)
    cl_Size := He.cls_ok (c.1.fact 16 rfl)
    cl_Stock := He.cls_ok (c.1.fact 17 rfl)
    g_AXES := He.glo_ok KX G (c.1.fact 18 rfl)
    g_NOUGHT := He.glo_ok KX G (c.1.fact 19 rfl)
    g_NoFace := He.glo_ok KX G (c.1.fact 20 rfl)
    g_NoNumber := He.glo_ok KX G (c.1.fact 21 rfl)
    g_NoPart := He.glo_ok KX G (c.1.fact 22 rfl)
    g_NoSize := He.glo_ok KX G (c.1.fact 23 rfl)
    g_Part := He.glo_ok KX G (c.1.fact 24 rfl)
    g_Size := He.glo_ok KX G (c.1.fact 25 rfl)
    g_Stock := He.glo_ok KX G (c.1.fact 26 rfl)
    g_WAYS := He.glo_ok KX G (c.1.fact 27 rfl)
    g_ZERO := He.glo_ok KX G (c.1.fact 28 rfl)
    k_LETTERS := He.str_ok KX G (c.1.fact 29 rfl)
    k_MOST_SIGNS_parts := He.int_ok KX G (c.1.fact 30 rfl)
    k_MOST_SIGNS_stocks := He.int_ok KX G (c.1.fact 31 rfl)
    k_RESERVED := He.str_ok KX G (c.1.fact 32 rfl)
    k_SIGNS := He.str_ok KX G (c.1.fact 33 rfl)
    me_Part_check_added := He.meth_ok (c.1.fact 34 rfl)
    me_Part_faces := He.meth_ok (c.1.fact 35 rfl)
    me_Part_put_face := He.meth_ok (c.1.fact 36 rfl)
    me_Part_stock := He.meth_ok (c.1.fact 37 rfl)
    me_Size_names := He.meth_ok (c.1.fact 38 rfl)
    me_Stock_names := He.meth_ok (c.1.fact 39 rfl)
    me_Stock_sizes := He.meth_ok (c.1.fact 40 rfl)
    mk_Part := He.mkr_ok (c.1.fact 41 rfl)
    mk_Size := He.mkr_ok (c.1.fact 42 rfl)
    mk_Stock := He.mkr_ok (c.1.fact 43 rfl)
    na_Part_name := He.noat_ok (c.1.fact 44 rfl)
    na_Part_own := He.noat_ok (c.1.fact 45 rfl)
    na_Part_placed := He.noat_ok (c.1.fact 46 rfl)
    na_Size_least := He.noat_ok (c.1.fact 47 rfl)
    na_Size_most := He.noat_ok (c.1.fact 48 rfl)
    na_Size_name := He.noat_ok (c.1.fact 49 rfl)
    na_Size_shifts := He.noat_ok (c.1.fact 50 rfl)
    na_Stock_row := He.noat_ok (c.1.fact 51 rfl)
    c_AXES := of_decide_eq_true x0
    c_NOUGHT := of_decide_eq_true x1
    c_WAYS := of_decide_eq_true x2
    c_ZERO := of_decide_eq_true x3
    e_NoFace := excB_ok x4
    e_NoNumber := excB_ok x5
    e_NoPart := excB_ok x6
    e_NoSize := excB_ok x7 }
  obtain ⟨fd0, FD0⟩ := c.1.def_ 0 (d := d0) rfl
  have hg0 : mg "is_whole" = some (.ref (He.ga K "is_whole")) := He.glo_ok KX G (c.1.fact 52 (f := .glo "is_whole") rfl)
  obtain ⟨fd1, FD1⟩ := c.1.def_ 1 (d := d1) rfl
  have hg1 : mg "common" = some (.ref (He.ga K "common")) := He.glo_ok KX G (c.1.fact 53 (f := .glo "common") rfl)
  obtain ⟨fd2, FD2⟩ := c.1.def_ 2 (d := d2) rfl
  have hg2 : mg "number_of" = some (.ref (He.ga K "number_of")) := He.glo_ok KX G (c.1.fact 54 (f := .glo "number_of") rfl)
  obtain ⟨fd3, FD3⟩ := c.1.def_ 3 (d := d3) rfl
  have hg3 : mg "plus" = some (.ref (He.ga K "plus")) := He.glo_ok KX G (c.1.fact 55 (f := .glo "plus") rfl)
  obtain ⟨fd4, FD4⟩ := c.1.def_ 4 (d := d4) rfl
  have hg4 : mg "is_less" = some (.ref (He.ga K "is_less")) := He.glo_ok KX G (c.1.fact 56 (f := .glo "is_less") rfl)
  obtain ⟨fd5, FD5⟩ := c.1.def_ 5 (d := d5) rfl
  have hg5 : mg "sum_of" = some (.ref (He.ga K "sum_of")) := He.glo_ok KX G (c.1.fact 57 (f := .glo "sum_of") rfl)
  obtain ⟨fd6, FD6⟩ := c.1.def_ 6 (d := d6) rfl
  have hg6 : mg "sum_plus" = some (.ref (He.ga K "sum_plus")) := He.glo_ok KX G (c.1.fact 58 (f := .glo "sum_plus") rfl)
  obtain ⟨fd7, FD7⟩ := c.1.def_ 7 (d := d7) rfl
  have hg7 : mg "is_name_stocks" = some (.ref (He.ga K "is_name_stocks")) := He.glo_ok KX G (c.1.fact 59 (f := .glo "is_name_stocks") rfl)
  obtain ⟨fd8, FD8⟩ := c.1.def_ 8 (d := d8) rfl
  obtain ⟨fd9, FD9⟩ := c.1.def_ 9 (d := d9) rfl
  obtain ⟨fd10, FD10⟩ := c.1.def_ 10 (d := d10) rfl
  obtain ⟨fd11, FD11⟩ := c.1.def_ 11 (d := d11) rfl
  obtain ⟨fd12, FD12⟩ := c.1.def_ 12 (d := d12) rfl
  obtain ⟨fd13, FD13⟩ := c.1.def_ 13 (d := d13) rfl
  have hg13 : mg "is_name_parts" = some (.ref (He.ga K "is_name_parts")) := He.glo_ok KX G (c.1.fact 60 (f := .glo "is_name_parts") rfl)
  obtain ⟨fd14, FD14⟩ := c.1.def_ 14 (d := d14) rfl
  have hg14 : mg "has_names" = some (.ref (He.ga K "has_names")) := He.glo_ok KX G (c.1.fact 61 (f := .glo "has_names") rfl)
  obtain ⟨fd15, FD15⟩ := c.1.def_ 15 (d := d15) rfl
  obtain ⟨fd16, FD16⟩ := c.1.def_ 16 (d := d16) rfl
  obtain ⟨fd17, FD17⟩ := c.1.def_ 17 (d := d17) rfl
  obtain ⟨fd18, FD18⟩ := c.1.def_ 18 (d := d18) rfl
  obtain ⟨fd19, FD19⟩ := c.1.def_ 19 (d := d19) rfl
  obtain ⟨fd20, FD20⟩ := c.1.def_ 20 (d := d20) rfl
  have hg20 : mg "_law_well" = some (.ref (He.ga K "_law_well")) := He.glo_ok KX G (c.1.fact 62 (f := .glo "_law_well") rfl)
  obtain ⟨fd21, FD21⟩ := c.1.def_ 21 (d := d21) rfl
  have hg21 : mg "_law_take" = some (.ref (He.ga K "_law_take")) := He.glo_ok KX G (c.1.fact 63 (f := .glo "_law_take") rfl)
  obtain ⟨fd22, FD22⟩ := c.1.def_ 22 (d := d22) rfl
  have hg22 : mg "_law_common" = some (.ref (He.ga K "_law_common")) := He.glo_ok KX G (c.1.fact 64 (f := .glo "_law_common") rfl)
  obtain ⟨fd23, FD23⟩ := c.1.def_ 23 (d := d23) rfl
  have hg23 : mg "_law_num" = some (.ref (He.ga K "_law_num")) := He.glo_ok KX G (c.1.fact 65 (f := .glo "_law_num") rfl)
  obtain ⟨fd24, FD24⟩ := c.1.def_ 24 (d := d24) rfl
  have hg24 : mg "_law_add" = some (.ref (He.ga K "_law_add")) := He.glo_ok KX G (c.1.fact 66 (f := .glo "_law_add") rfl)
  obtain ⟨fd25, FD25⟩ := c.1.def_ 25 (d := d25) rfl
  have hg25 : mg "_law_number" = some (.ref (He.ga K "_law_number")) := He.glo_ok KX G (c.1.fact 67 (f := .glo "_law_number") rfl)
  obtain ⟨fd26, FD26⟩ := c.1.def_ 26 (d := d26) rfl
  have hg26 : mg "_law_word" = some (.ref (He.ga K "_law_word")) := He.glo_ok KX G (c.1.fact 68 (f := .glo "_law_word") rfl)
  obtain ⟨fd27, FD27⟩ := c.1.def_ 27 (d := d27) rfl
  have hg27 : mg "_law_sizes" = some (.ref (He.ga K "_law_sizes")) := He.glo_ok KX G (c.1.fact 69 (f := .glo "_law_sizes") rfl)
  obtain ⟨fd28, FD28⟩ := c.1.def_ 28 (d := d28) rfl
  have hg28 : mg "_law_sum" = some (.ref (He.ga K "_law_sum")) := He.glo_ok KX G (c.1.fact 70 (f := .glo "_law_sum") rfl)
  obtain ⟨fd29, FD29⟩ := c.1.def_ 29 (d := d29) rfl
  have hg29 : mg "_law_plus" = some (.ref (He.ga K "_law_plus")) := He.glo_ok KX G (c.1.fact 71 (f := .glo "_law_plus") rfl)
  obtain ⟨fd30, FD30⟩ := c.1.def_ 30 (d := d30) rfl
  have hg30 : mg "_law_faces" = some (.ref (He.ga K "_law_faces")) := He.glo_ok KX G (c.1.fact 72 (f := .glo "_law_faces") rfl)
  obtain ⟨fd31, FD31⟩ := c.1.def_ 31 (d := d31) rfl
  have hg31 : mg "_law_placed" = some (.ref (He.ga K "_law_placed")) := He.glo_ok KX G (c.1.fact 73 (f := .glo "_law_placed") rfl)
  obtain ⟨fd32, FD32⟩ := c.1.def_ 32 (d := d32) rfl
  have hg32 : mg "_law_plain" = some (.ref (He.ga K "_law_plain")) := He.glo_ok KX G (c.1.fact 74 (f := .glo "_law_plain") rfl)
  obtain ⟨fd33, FD33⟩ := c.1.def_ 33 (d := d33) rfl
  have hg33 : mg "_law_is_list" = some (.ref (He.ga K "_law_is_list")) := He.glo_ok KX G (c.1.fact 75 (f := .glo "_law_is_list") rfl)
  obtain ⟨fd34, FD34⟩ := c.1.def_ 34 (d := d34) rfl
  have hg34 : mg "_law_fields" = some (.ref (He.ga K "_law_fields")) := He.glo_ok KX G (c.1.fact 76 (f := .glo "_law_fields") rfl)
  obtain ⟨fd35, FD35⟩ := c.1.def_ 35 (d := d35) rfl
  have e := hfa.symm.trans (He.glo_ok KX G (c.1.fact 77 (f := .glo "law") rfl))
  cases e
  have b := FunD.bindsA (ps := ["_law_script"]) FD35 fun _ _ _ _ _ _ us hl => match us, hl with | [_], _ => rfl
  refine ⟨fd35, fun s v => b s [v] rfl, fun base _ _ => ?_⟩
  have O0 := ok_is_whole (P := P) (w := w) (base := base) T FD0
  have F_is_whole := fo_mk FD0 hg0 O0 (fun _ _ _ _ _ _ us hl => match us, hl with | [_], _ => rfl)
  have O1 := ok_common (P := P) (w := w) (base := base) T FD1
  have F_common := fo_mk FD1 hg1 O1 (fun _ _ _ _ _ _ us hl => match us, hl with | [_, _], _ => rfl)
  have O2 := ok_number_of (P := P) (w := w) (base := base) T F_common F_is_whole FD2
  have F_number_of := fo_mkD FD2 hg2 O2 2 1 (List.cons_ne_nil _ _) rfl (fun _ _ _ _ _ _ _ us its hl hl2 => match us, its, hl, hl2 with | [_, _], [_], _, _ => ⟨_, rfl, rfl⟩)
  have O3 := ok_plus (P := P) (w := w) (base := base) T F_number_of FD3
  have F_plus := fo_mk FD3 hg3 O3 (fun _ _ _ _ _ _ us hl => match us, hl with | [_, _], _ => rfl)
  have O4 := ok_is_less (P := P) (w := w) (base := base) T FD4
  have F_is_less := fo_mk FD4 hg4 O4 (fun _ _ _ _ _ _ us hl => match us, hl with | [_, _], _ => rfl)
  have O5 := ok_sum_of (P := P) (w := w) (base := base) T F_plus FD5
  have F_sum_of := fo_mk FD5 hg5 O5 (fun _ _ _ _ _ _ us hl => match us, hl with | [_, _], _ => rfl)
  have O6 := ok_sum_plus (P := P) (w := w) (base := base) T F_plus F_sum_of FD6
  have F_sum_plus := fo_mk FD6 hg6 O6 (fun _ _ _ _ _ _ us hl => match us, hl with | [_, _], _ => rfl)
  have O7 := ok_is_name_stocks (P := P) (w := w) (base := base) T FD7
  have F_is_name_stocks := fo_mk FD7 hg7 O7 (fun _ _ _ _ _ _ us hl => match us, hl with | [_], _ => rfl)
  have O8 := ok_Size_names (P := P) (w := w) (base := base) T FD8
  have F_Size_names := fom_mk FD8 T.cl_Size T.me_Size_names O8 (fun _ _ _ _ _ _ us hl => match us, hl with | [_], _ => rfl)
  have O9 := ok_Size___init__ (P := P) (w := w) (base := base) T F_Size_names F_is_less F_is_name_stocks FD9
  have F_Size___init__ := foi_mkD FD9 T.g_Size T.mk_Size O9 5 1 (List.cons_ne_nil _ _) rfl (fun _ _ _ _ _ _ _ us its hl hl2 => match us, its, hl, hl2 with | [_, _, _, _, _], [_], _, _ => ⟨_, rfl, rfl⟩)
  have O10 := ok_Stock_names (P := P) (w := w) (base := base) T F_Size_names FD10
  have F_Stock_names := fom_mk FD10 T.cl_Stock T.me_Stock_names O10 (fun _ _ _ _ _ _ us hl => match us, hl with | [_], _ => rfl)
  have O11 := ok_Stock___init__ (P := P) (w := w) (base := base) T F_Stock_names FD11
  have F_Stock___init__ := foi_mk FD11 T.g_Stock T.mk_Stock O11 (fun _ _ _ _ _ _ us hl => match us, hl with | [_, _], _ => rfl)
  have O12 := ok_Stock_sizes (P := P) (w := w) (base := base) T FD12
  have F_Stock_sizes := fom_mk FD12 T.cl_Stock T.me_Stock_sizes O12 (fun _ _ _ _ _ _ us hl => match us, hl with | [_], _ => rfl)
  have O13 := ok_is_name_parts (P := P) (w := w) (base := base) T FD13
  have F_is_name_parts := fo_mk FD13 hg13 O13 (fun _ _ _ _ _ _ us hl => match us, hl with | [_], _ => rfl)
  have O14 := ok_has_names (P := P) (w := w) (base := base) T F_Stock_names FD14
  have F_has_names := fo_mk FD14 hg14 O14 (fun _ _ _ _ _ _ us hl => match us, hl with | [_, _], _ => rfl)
  have O15 := ok_Part___init__ (P := P) (w := w) (base := base) T F_Stock___init__ F_Stock_names F_is_name_parts FD15
  have F_Part___init__ := foi_mk FD15 T.g_Part T.mk_Part O15 (fun _ _ _ _ _ _ us hl => match us, hl with | [_, _, _], _ => rfl)
  have O16 := ok_Part_stock (P := P) (w := w) (base := base) T FD16
  have F_Part_stock := fom_mk FD16 T.cl_Part T.me_Part_stock O16 (fun _ _ _ _ _ _ us hl => match us, hl with | [_], _ => rfl)
  have O17 := ok_Part_faces (P := P) (w := w) (base := base) T FD17
  have F_Part_faces := fom_mk FD17 T.cl_Part T.me_Part_faces O17 (fun _ _ _ _ _ _ us hl => match us, hl with | [_], _ => rfl)
  have O18 := ok_Part_check_added (P := P) (w := w) (base := base) T F_has_names FD18
  have F_Part_check_added := fom_mk FD18 T.cl_Part T.me_Part_check_added O18 (fun _ _ _ _ _ _ us hl => match us, hl with | [_, _, _], _ => rfl)
  have O19 := ok_Part_put_face (P := P) (w := w) (base := base) T F_Part_check_added F_is_name_parts F_sum_plus FD19
  have F_Part_put_face := fom_mk FD19 T.cl_Part T.me_Part_put_face O19 (fun _ _ _ _ _ _ us hl => match us, hl with | [_, _, _, _, _], _ => rfl)
  have O20 := ok__law_well (P := P) (w := w) (base := base) T FD20
  have F__law_well := fo_mk FD20 hg20 O20 (fun _ _ _ _ _ _ us hl => match us, hl with | [_, _], _ => rfl)
  have O21 := ok__law_take (P := P) (w := w) (base := base) T FD21
  have F__law_take := fo_mk FD21 hg21 O21 (fun _ _ _ _ _ _ us hl => match us, hl with | [_, _], _ => rfl)
  have O22 := ok__law_common (P := P) (w := w) (base := base) T FD22
  have F__law_common := fo_mk FD22 hg22 O22 (fun _ _ _ _ _ _ us hl => match us, hl with | [_, _], _ => rfl)
  have O23 := ok__law_num (P := P) (w := w) (base := base) T F__law_common FD23
  have F__law_num := fo_mk FD23 hg23 O23 (fun _ _ _ _ _ _ us hl => match us, hl with | [_, _], _ => rfl)
  have O24 := ok__law_add (P := P) (w := w) (base := base) T F__law_num FD24
  have F__law_add := fo_mk FD24 hg24 O24 (fun _ _ _ _ _ _ us hl => match us, hl with | [_, _], _ => rfl)
  have O25 := ok__law_number (P := P) (w := w) (base := base) T F__law_num F__law_take FD25
  have F__law_number := fo_mk FD25 hg25 O25 (fun _ _ _ _ _ _ us hl => match us, hl with | [_], _ => rfl)
  have O26 := ok__law_word (P := P) (w := w) (base := base) T F__law_take FD26
  have F__law_word := fo_mk FD26 hg26 O26 (fun _ _ _ _ _ _ us hl => match us, hl with | [_, _], _ => rfl)
  have O27 := ok__law_sizes (P := P) (w := w) (base := base) T F__law_add F__law_number F__law_take F__law_word FD27
  have F__law_sizes := fo_mk FD27 hg27 O27 (fun _ _ _ _ _ _ us hl => match us, hl with | [_, _], _ => rfl)
  have O28 := ok__law_sum (P := P) (w := w) (base := base) T F__law_number F__law_take FD28
  have F__law_sum := fo_mk FD28 hg28 O28 (fun _ _ _ _ _ _ us hl => match us, hl with | [_, _], _ => rfl)
  have O29 := ok__law_plus (P := P) (w := w) (base := base) T F__law_add FD29
  have F__law_plus := fo_mk FD29 hg29 O29 (fun _ _ _ _ _ _ us hl => match us, hl with | [_, _, _], _ => rfl)
  have O30 := ok__law_faces (P := P) (w := w) (base := base) T F__law_sum F__law_take F__law_word FD30
  have F__law_faces := fo_mk FD30 hg30 O30 (fun _ _ _ _ _ _ us hl => match us, hl with | [_, _, _], _ => rfl)
  have O31 := ok__law_placed (P := P) (w := w) (base := base) T F__law_plus FD31
  have F__law_placed := fo_mk FD31 hg31 O31 (fun _ _ _ _ _ _ us hl => match us, hl with | [_], _ => rfl)
  have O32 : FnOk P w K mg base (L2.CX P w) 25 _ _ ["_law_thing"] (sp__law_plain K) := ok__law_plain (P := P) (w := w) (base := base) T FD32 (fun l sp O => fo_mk FD32 hg32 O (fun _ _ _ _ _ _ us hl => match us, hl with | [_], _ => rfl)) 24
  have F__law_plain := fo_mk FD32 hg32 O32 (fun _ _ _ _ _ _ us hl => match us, hl with | [_], _ => rfl)
  have O33 := ok__law_is_list (P := P) (w := w) (base := base) T F__law_plain FD33
  have F__law_is_list := fo_mk FD33 hg33 O33 (fun _ _ _ _ _ _ us hl => match us, hl with | [_, _], _ => rfl)
  have O34 := ok__law_fields (P := P) (w := w) (base := base) T F_Stock_sizes FD34
  have F__law_fields := fo_mk FD34 hg34 O34 (fun _ _ _ _ _ _ us hl => match us, hl with | [_], _ => rfl)
  exact calm_fn (ok_law T F_Part___init__ F_Part_faces F_Part_put_face F_Part_stock F_Size___init__ F_Stock_names F__law_faces F__law_fields F__law_is_list F__law_placed F__law_sizes F__law_take F__law_well F__law_word FD35) lawSp_E
end N14
open PySem PySem.W PySem.Calls PyProof.Rows
set_option maxRecDepth 100000 in
set_option maxHeartbeats 0 in
theorem PySem.Challenge.cw_fitwhatever_k14_faces_put_holds : PySem.Challenge.rw_fitwhatever_k14_faces_put.Holds := by
  w_on; o_law
  refine HandSHeadRun.head_any (r := OpenLaw.row PySem.Challenge.rw_fitwhatever_k14_faces_put) (q := view (OpenLaw.row PySem.Challenge.rw_fitwhatever_k14_faces_put).prog [51]) (H := N14.hk) (ob := N14.ob) (M := 20000) (loose := (["_wall", "FitError", "NoNumber", "NoSize", "NoPart", "NoFace", "is_whole", "common", "number_of", "plus", "is_less", "NOUGHT", "sum_of", "sum_plus", "SIGNS", "MOST_SIGNS_stocks", "WAYS", "ZERO", "is_name", "is_name_stocks", "Size", "Stock", "LETTERS", "AXES", "MOST_SIGNS_parts", "RESERVED", "is_name_parts", "has_names", "Part", "_law_well"] : List PySem.Str) ++ (["_law_take", "_law_common", "_law_num", "_law_add", "_law_number", "_law_word", "_law_sizes", "_law_sum", "_law_plus", "_law_faces", "_law_placed", "_law_plain", "_law_is_list", "_law_fields"] : List PySem.Str)) (d := HandSHeadRun.topDef (OpenLaw.row PySem.Challenge.rw_fitwhatever_k14_faces_put).prog 51) (kwd := []) N14.ob_eq
    (by kernel_rfl) (fun s => by kernel_rfl) N14.run (by kernel_rfl) (by kernel_rfl) (by kernel_rfl) (by rfl) (by first | assumption | decide +kernel) (by decide +kernel) ⟨rfl, rfl, rfl, rfl, rfl, by decide +kernel⟩ ?hw ?hc
  case hw => w_witness2
  case hc =>
    refine L2.walk_ofE (l := PySem.Challenge.rw_fitwhatever_k14_faces_put) (n := 63) (k := 27) (x := "_law_script") (CX := L2.CX0) rfl (by decide) (by kernel_rfl) ⟨rfl, by decide, by decide⟩ ?F ?X
    case X => exact fun _ _ _ _ z => z
    case F =>
      intro w mg fa h Y G hmg0
      obtain ⟨K, KX, c⟩ := Y
      have hmg : mg ("law" : PySem.Str) = some (.ref fa) := by
        have e : (HandSHeadRun.topDef (OpenLaw.row PySem.Challenge.rw_fitwhatever_k14_faces_put).prog 51).name = ("law" : PySem.Str) := by kernel_rfl
        rw [← e]
        exact hmg0
      obtain ⟨fd, hb, hF⟩ := N14.facts (P := (PySem.Challenge.rw_fitwhatever_k14_faces_put).prog) (w := w) KX G hmg c
      exact ⟨K, fd, N14.sp_law K, KX, hb, fun H a ns hl _ hS => TL.law_sp hl hS, hF⟩
