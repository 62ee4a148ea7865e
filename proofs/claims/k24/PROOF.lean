import PyProof.Rows.All
import Wide.All
import OpenK.AllK
import Wide.FinOn
import HandS.Base
import HandS.Call
import HandS.List
import HandS.Comp
import HandS.Ends
import HandS.Exc
import HandS.ExcOwn
import HandS.Words
import HandS.WordsList
import HandS.WordsExc
import HandS.IsInst
import HandS.Wide
import HandS.Flow
import HandS.Defaults
import HandS.ExcValue
import HandS.ExcIs
import HandS.TryOnly
import HandS.Dict
import HandS.Head0
import HandS.Head1
import HandS.Head2
import HandS.HeadEnd
import HandS.HeadHook1
import HandS.HeadHook2
import HandS.Deep
import HandS.Style
import HandS.More
import HandS.Text
import HandS.Zip
import PyProof.StrLawsJoin
import HandS.Iter
import HandS.Strs
import HandS.TupAny
import KE.KDictZip
import HandS.TupLe
import HandS.ListEq
import PyProof.NeKinds
import HandS.WordsDict
import KE.SortData
import PyProof.AutoSeq1
import HandS.HotCalls
import HandS.ListItems
import HandS.Sort
import KE.KDictKeyed
import KE.KDictSum
import KE.DataMinMax
import HandS.TupSets
import KE.LtData
import KE.GoesMore
import HandS.TupLen
import HandS.Conv
import KE.KDictItemsList
import KE.KDictWalk
import PyProof.ListStr
import KE.KEqDict
import PySem.Challenge.RW_fitwhatever_k24_least_places
import KE.KStateDown
import Lean
set_option Elab.async false
set_option linter.all false
set_option maxRecDepth 100000
set_option maxHeartbeats 4000000
set_option synthInstance.maxSize 4000
def hA:=@List.mem_map
def iD:=@List.mem_map_of_mem
def hZ:=@List.mem_cons
def hG:=@List.map_cons
def iK:=@List.nodup_cons
def iM:=@List.mem_of_getElem?
def iB:=@List.getElem?_map
def iZ:=@List.ext_getElem?
def gy:=@List.length_map
def iF:=@List.getElem?_eq_some_iff
def iQ:=@List.getElem?_set_self
def i9:=@List.getElem?_set_ne
def j8:=@List.getElem?_of_mem
def jA:=@List.getElem?_eraseIdx
def iA:=@Nat.le_refl
def iN:=@Bool.and_eq_true
def jP:=@List.nodup_nil
def ib:=@Int.natAbs_mul
def jQ:=@Int.mul_nonneg
def iE:=@Nat.lt_of_lt_of_le
def iO:=@Nat.pow_le_pow_right
def iq:=@Nat.lt_of_le_of_lt
def iP:=@Nat.mul_le_mul_right
def iu:=@List.any_cons
def j0:=@List.any_eq_true
def ja:=@List.find?_append
def jY:=@List.find?_eq_none
def iJ:=@List.map_map
def jF:=@List.map_congr_left
def i8:=@List.map_append
def jH:=@List.not_mem_nil
def iC:=@List.nodup_append
def i6:=@List.mem_singleton
def hY:=@List.mem_append
def i7:=@List.length_cons
def ig:=@List.getElem?_cons_succ
def iT:=@Nat.zero_le
def hJ:=@List.getElem?_eq_getElem
def jB:=@List.drop_eq_getElem_cons
def iH:=@Nat.le_trans
def iY:=@List.all_eq_true
def jS:=@Option.bind_some
def iI:=@List.append_nil
def iL:=@List.append_assoc
def jL:=@List.pairwise_cons
def gz:=@List.mem_cons_of_mem
def jb:=@List.size_toArray
def iU:=@Array.length_toList
def hU:=@List.getD_eq_getElem?_getD
def jW:=@Option.bind_eq_some_iff
def ir:=@List.find?_cons
def ia:=@Option.map_eq_some_iff
def gu:=@List.mem_cons_self
def jC:=@Array.getElem?_eq_getElem
def iW:=@Array.getElem?_toList
def iG:=@List.mem_append_left
def iV:=@List.mem_append_right
def jM:=@List.flatMap_cons
def iy:=@Int.mul_le_mul_of_nonneg_right
def iw:=@Int.le_of_lt
def jN:=@List.pairwise_iff_getElem
def jT:=@List.getElem_map
def jK:=@List.take_of_length_le
def jI:=@List.dropLast_concat_getLast
def iz:=@List.mem_filter
def jU:=@List.length_take
def iR:=@List.getElem?_append_left
def jV:=@List.getElem?_take_of_lt
def iS:=@List.getElem?_append_right
def jX:=@Nat.exists_eq_add_of_le
def iX:=@List.length_set
def j9:=@Nat.mul_le_mul_left
def jJ:=@Rat.num_nonneg
def jD:=@Rat.not_lt
def jR:=@Rat.mul_nonneg
def jd:=@List.pairwise_map
def jG:=@List.flatMap_append
def jE:=@List.sublist_append_left
def jZ:=@Rat.intCast_mul
def jO:=@List.getLast?_eq_some_iff
def ik:=@List.exists_cons_of_ne_nil
def je:=@Int.toNat_natCast
def ie:=@Rat.le_refl
abbrev jf:=PySem.W.Frag
namespace TL
open PySem PySem.Spec L2
structure Ty where
 p:V→Hp→Prop
 mono:∀ {v:V} {F F':Hp},Same F F'→p v F→p v F'
structure OTy where
 p:HO→Hp→Prop
 mono:∀ {o:HO} {F F':Hp},Same F F'→p o F→p o F'
 q:HO→Hp→Hp→Prop
 qmono:∀ {o:HO} {L F F':Hp},Same F F'→q o L F→q o L F'
@[reducible] def OTy.fl (p:HO→Hp→Prop) (mono:∀ {o:HO} {F F':Hp},Same F F'→p o F→p o F'):OTy:=⟨p,mono,fun _ _ _=>True,fun _ h=>h⟩
abbrev noH:Hp:=fun _=>none
abbrev Sto:=List (Option Ty)
abbrev Own:=List (Addr×OTy)
theorem Co {H:Hp} {p:Addr} {o:HO} (h:H p=none):Same H (upd H p o):=fun b u e=>by
 rw [upd_ne (ne_of_none e h)]
 exact e
structure DeepOk (D:Own) (H F:Hp) (L:Addr→Hp):Prop where
 q:∀ a O,(a,O)∈D→∀ o,H a=some o→O.q o (L a) F
 at_:∀ a b o,a∈D.map (·.1)→L a b=some o→H b=some o∧F b=none∧b∉D.map (·.1)
 sep:∀ a a' b,a∈D.map (·.1)→a'∈D.map (·.1)→L a b≠none→L a' b≠none→a=a'
structure HS (D:Own) (H F:Hp):Prop where
 sub:Same F H
 own:∀ a O,(a,O)∈D→F a=none∧∃ o,H a=some o∧O.p o F
 nd:(D.map (·.1)).Nodup
 deep:∃ L,DeepOk D H F L
theorem DeepOk.drop {D D':Own} {H F:Hp} {L:Addr→Hp} (h:DeepOk D H F L) (s:∀ c∈D',c∈D):DeepOk D' H F L:=
 have m:∀ a,a∈D'.map (·.1)→a∈D.map (·.1):=fun a ha=>let ⟨c,hc,e⟩:=hA.mp ha;hA.mpr ⟨c,s c hc,e⟩
 ⟨fun a O z=>h.q a O (s _ z),fun a b o z e=>let ⟨h1,h2,h3⟩:=h.at_ a b o (m _ z) e;⟨h1,h2,fun z'=>h3 (m _ z')⟩,fun a a' b z z'=>h.sep a a' b (m _ z) (m _ z')⟩
theorem DeepOk.updD {D D':Own} {H F:Hp} {L:Addr→Hp} (h:DeepOk D H F L) {a:Addr} {o:HO} (hm:∀ b O,(b,O)∈D'→b≠a→(b,O)∈D) (q0:∀ O,(a,O)∈D'→O.q o noH F) (ha:H a=none∨a∈D.map (·.1)):∃ L',DeepOk D' (L2.upd H a o) F L':=by
 have nb:∀ c b u,c∈D.map (·.1)→L c b=some u→b≠a:=fun c b u hc e z=>by
  obtain ⟨h1,h2,h3⟩:=h.at_ c b u hc e
  subst z
  rcases ha with ha | ha
  ·rw [ha] at h1;cases h1
  ·exact h3 ha
 have mm:∀ b,b∈D'.map (·.1)→b≠a→b∈D.map (·.1):=fun b hb ne=>by
  obtain ⟨c,hc,e⟩:=hA.mp hb
  subst e
  exact hA.mpr ⟨c,hm c.1 c.2 hc ne,rfl⟩
 refine ⟨fun c=>if c=a then noH else L c,fun b O m u hu=>?_,fun c b u hc e=>?_,fun c c' b hc hc' e e'=>?_⟩
 ·by_cases z:b=a
  ·subst z
   rw [upd_same] at hu
   cases hu
   rw [if_pos rfl]
   exact q0 O m
  ·rw [if_neg z]
   rw [upd_ne z] at hu
   exact h.q b O (hm b O m z) u hu
 ·by_cases z:c=a
  ·rw [if_pos z] at e;cases e
  ·rw [if_neg z] at e
   have hc2:=mm c hc z
   obtain ⟨h1,h2,h3⟩:=h.at_ c b u hc2 e
   have ne:=nb c b u hc2 e
   exact ⟨by rw [upd_ne ne];exact h1,h2,fun q=>h3 (mm b q ne)⟩
 ·by_cases z:c=a
  ·rw [if_pos z] at e;exact absurd rfl e
  ·by_cases z':c'=a
   ·rw [if_pos z'] at e';exact absurd rfl e'
   ·rw [if_neg z] at e
    rw [if_neg z'] at e'
    exact h.sep c c' b (mm c hc z) (mm c' hc' z') e e'
theorem DeepOk.frzD {D D':Own} {H H' F:Hp} {L:Addr→Hp} (h:DeepOk D H F L) {p:Addr} {o:HO} (fp:F p=none) (hs:∀ c∈D',c∈D) (hr:p∉D'.map (·.1)) (hp:H p=none∨p∈D.map (·.1)) (hH:∀ b,b≠p→H' b=H b):DeepOk D' H' (upd F p o) L:=by
 have s:Same F (upd F p o):=Co fp
 have m:∀ a,a∈D'.map (·.1)→a∈D.map (·.1):=fun a ha=>let ⟨c,hc,e⟩:=hA.mp ha;hA.mpr ⟨c,hs c hc,e⟩
 refine ⟨fun b O mb u hu=>?_,fun c b u hc e=>?_,fun c c' b hc hc'=>h.sep c c' b (m c hc) (m c' hc')⟩
 ·have ne:b≠p:=fun z=>hr (z ▸ iD mb)
  rw [hH b ne] at hu
  exact O.qmono s (h.q b O (hs _ mb) u hu)
 ·obtain ⟨h1,h2,h3⟩:=h.at_ c b u (m c hc) e
  have ne:b≠p:=fun z=>by
   subst z
   rcases hp with hp | hp
   ·rw [hp] at h1;cases h1
   ·exact h3 hp
  exact ⟨by rw [hH b ne];exact h1,by rw [upd_ne ne];exact h2,fun q=>h3 (m b q)⟩
theorem HS.free {D:Own} {H F:Hp} (h:HS D H F) {p:Addr} (e:H p=none):F p=none:=h.sub.free e
theorem HS.notin {D:Own} {H F:Hp} (h:HS D H F) {p:Addr} (e:H p=none):∀ O,(p,O)∉D:=fun O m=>by
 obtain ⟨_,o,q,_⟩:=h.own p O m
 rw [e] at q;cases q
theorem HS.new {D:Own} {H F:Hp} (h:HS D H F) {p:Addr} {o:HO} {O:OTy} (e:H p=none) (q:O.p o F) (q0:O.q o noH F:=by trivial):HS ((p,O)::D) (upd H p o) F where
 sub:=h.sub.trans (Co e)
 own:=fun a O' m=>by
  rcases hZ.mp m with z | z
  ·cases z
   exact ⟨h.free e,o,upd_same,q⟩
  ·obtain ⟨n,u,hu,hp⟩:=h.own a O' z
   exact ⟨n,u,(Co e) a u hu,hp⟩
 nd:=by
  rw [hG,iK]
  refine ⟨fun m=>?_,h.nd⟩
  obtain ⟨⟨a,O'⟩,m1,m2⟩:=hA.mp m
  cases m2
  exact h.notin e O' m1
 deep:=by
  obtain ⟨L,hL⟩:=h.deep
  refine hL.updD (fun b O' m ne=>?_) (fun O' m=>?_) (.inl e)
  ·rcases hZ.mp m with z | z
   ·cases z;exact absurd rfl ne
   ·exact z
  ·rcases hZ.mp m with z | z
   ·cases z;exact q0
   ·exact absurd z (h.notin e O')
theorem HS.frz {D:Own} {H F:Hp} (h:HS D H F) {p:Addr} {o:HO} (e:H p=none):HS D (upd H p o) (upd F p o) where
 sub:=fun b u q=>by
  by_cases z:b=p
  ·subst z
   rw [upd_same] at q ⊢
   exact q
  ·rw [upd_ne z] at q ⊢
   exact h.sub b u q
 own:=fun a O' m=>by
  obtain ⟨n,u,hu,hp⟩:=h.own a O' m
  have z:a≠p:=ne_of_none hu e
  refine ⟨by rw [upd_ne z];exact n,u,by rw [upd_ne z];exact hu,O'.mono (Co (h.free e)) hp⟩
 nd:=h.nd
 deep:=by
  obtain ⟨L,hL⟩:=h.deep
  exact ⟨L,hL.frzD (h.free e) (fun _ m=>m) (fun m=>by
   obtain ⟨⟨a,O'⟩,m1,m2⟩:=hA.mp m
   cases m2
   exact h.notin e O' m1) (.inl e) fun b ne=>upd_ne ne⟩
theorem HS.at {D:Own} {H F:Hp} (h:HS D H F) {k:Nat} {a:Addr} {O:OTy} (e:D[k]?=some (a,O)):∃ o,H a=some o∧O.p o F:=(h.own a O (iM e)).2
theorem ME {D:Own} (nd:(D.map (·.1)).Nodup) {k j:Nat} {a:Addr} {O O':OTy} (e:D[k]?=some (a,O)) (e':D[j]?=some (a,O')):k=j:=
 nd_ix nd (x:=a) (by rw [iB,e];rfl) (by rw [iB,e'];rfl)
theorem YV {D:Own} {k:Nat} {a:Addr} {O O':OTy} (e:D[k]?=some (a,O)):(D.set k (a,O')).map (·.1)=D.map (·.1):=by
 rw [List.map_set]
 refine iZ fun i=>?_
 by_cases z:i=k
 ·subst z
  have lt:i < (D.map (·.1)).length:=by rw [gy];exact (iF.mp e).1
  rw [iQ lt,iB,e]
  rfl
 ·rw [i9 (Ne.symm z)]
theorem HS.put {D:Own} {H F:Hp} (h:HS D H F) {k:Nat} {a:Addr} {O O':OTy} {o:HO} (e:D[k]?=some (a,O)) (q:O'.p o F) (q0:O'.q o noH F:=by trivial):HS (D.set k (a,O')) (upd H a o) F where
 sub:=fun b u z=>by
  have n:=(h.own a O (iM e)).1
  have z2:b≠a:=ne_of_none z n
  rw [upd_ne z2]
  exact h.sub b u z
 own:=fun b O2 m=>by
  obtain ⟨j,hj⟩:=j8 m
  by_cases z:j=k
  ·subst z
   have lt:j < D.length:=(iF.mp e).1
   rw [iQ lt] at hj
   cases hj
   exact ⟨(h.own _ O (iM e)).1,o,upd_same,q⟩
  ·rw [i9 (Ne.symm z)] at hj
   obtain ⟨n,u,hu,hp⟩:=h.own b O2 (iM hj)
   have nz:b≠a:=fun q=>by
    subst q
    exact z (ME h.nd hj e)
   exact ⟨n,u,by rw [upd_ne nz];exact hu,hp⟩
 nd:=by
  rw [YV e]
  exact h.nd
 deep:=by
  obtain ⟨L,hL⟩:=h.deep
  have ne:∀ b O2,(b,O2)∈D.set k (a,O')→((b,O2)∈D∧b≠a)∨(b=a∧O2=O'):=fun b O2 m=>by
   obtain ⟨j,hj⟩:=j8 m
   by_cases z:j=k
   ·subst z
    rw [iQ (iF.mp e).1] at hj
    cases hj
    exact .inr ⟨rfl,rfl⟩
   ·rw [i9 (Ne.symm z)] at hj
    exact .inl ⟨iM hj,fun q=>by
     subst q
     exact z (ME h.nd hj e)⟩
  refine hL.updD (fun b O2 m nb=>?_) (fun O2 m=>?_) (.inr (iD (f:=(·.1)) (iM e)))
  ·rcases ne b O2 m with z | z
   ·exact z.1
   ·exact absurd z.1 nb
  ·rcases ne a O2 m with z | z
   ·exact absurd rfl z.2
   ·rw [z.2];exact q0
theorem HS.drop {D D':Own} {H F:Hp} (h:HS D H F) (s:D'.Sublist D):HS D' H F where
 sub:=h.sub
 own:=fun a O m=>h.own a O (s.subset m)
 nd:=(s.map _).nodup h.nd
 deep:=let ⟨L,hL⟩:=h.deep;⟨L,hL.drop fun c m=>s.subset m⟩
theorem HS.perm {D D':Own} {H F:Hp} (h:HS D H F) (s:D.Perm D'):HS D' H F where
 sub:=h.sub
 own:=fun a O m=>h.own a O (s.mem_iff.mpr m)
 nd:=(s.map _).nodup_iff.mp h.nd
 deep:=let ⟨L,hL⟩:=h.deep;⟨L,hL.drop fun c m=>s.mem_iff.mpr m⟩
theorem HS.freeze {D:Own} {H F:Hp} (h:HS D H F) {k:Nat} {a:Addr} {O:OTy} (e:D[k]?=some (a,O)):∃ o,O.p o F∧HS (D.eraseIdx k) H (upd F a o)∧Same F (upd F a o):=by
 obtain ⟨n,o,ho,hp⟩:=h.own a O (iM e)
 refine ⟨o,hp,?_,Co n⟩
 have sl:(D.eraseIdx k).Sublist D:=List.eraseIdx_sublist _ _
 have nr:∀ b O2,(b,O2)∈D.eraseIdx k→b≠a:=fun b O2 m q=>by
  subst q
  obtain ⟨j,hj⟩:=j8 m
  rw [jA] at hj
  split at hj
  ·rename_i lt
   have:=ME h.nd hj e
   omega
  ·rename_i lt
   have:=ME h.nd hj e
   omega
 refine ⟨fun b u q=>?_,fun b O2 m=>?_,(sl.map _).nodup h.nd,?_⟩
 ·by_cases z:b=a
  ·subst z
   rw [upd_same] at q
   rw [← q];exact ho
  ·rw [upd_ne z] at q
   exact h.sub b u q
 ·obtain ⟨n2,u,hu,hp2⟩:=h.own b O2 (sl.subset m)
  exact ⟨by rw [upd_ne (nr b O2 m)];exact n2,u,hu,O2.mono (Co n) hp2⟩
 ·obtain ⟨L,hL⟩:=h.deep
  exact ⟨L,hL.frzD n (fun c m=>sl.subset m) (fun m=>by
   obtain ⟨c,hc,ec⟩:=hA.mp m
   exact nr c.1 c.2 hc ec) (.inr (iD (f:=(·.1)) (iM e))) fun b _=>rfl⟩
inductive SS (F:Hp):Sto→St→Prop
 | nil:SS F [] []
 | non {G:Sto} {σ:St} {x:Option V}:SS F G σ→SS F (none::G) (x::σ)
 | som {G:Sto} {σ:St} {R:Ty} {v:V}:R.p v F→SS F G σ→SS F (some R::G) (some v::σ)
theorem SS.mono {F F':Hp} {G:Sto} {σ:St} (h:SS F G σ) (s:Same F F'):SS F' G σ:=by
 induction h with
 | nil=>exact .nil
 | non _ ih=>exact .non ih
 | som r _ ih=>exact .som (Ty.mono _ s r) ih
theorem SS.get {F:Hp} {G:Sto} {σ:St} (h:SS F G σ):∀ {i:Nat} {R:Ty},G[i]?=some (some R)→∃ v,σ[i]?=some (some v)∧R.p v F:=by
 induction h with
 | nil=>intro i R e;simp at e
 | non _ ih=>
  intro i R e
  cases i with
  | zero=>simp at e
  | succ i=>simpa using ih (by simpa using e)
 | som r _ ih=>
  intro i R e
  cases i with
  | zero=>
   simp at e
   subst e
   exact ⟨_,by simp,r⟩
  | succ i=>simpa using ih (by simpa using e)
theorem SS.set {F:Hp} {G:Sto} {σ:St} {R:Ty} {v:V} (h:SS F G σ) (r:R.p v F):∀ (i:Nat),SS F (G.set i (some R)) (σ.set i (some v)):=by
 induction h with
 | nil=>intro i;exact .nil
 | non h ih=>
  intro i
  cases i with
  | zero=>exact .som r h
  | succ i=>exact .non (ih i)
 | som q h ih=>
  intro i
  cases i with
  | zero=>exact .som r h
  | succ i=>exact .som q (ih i)
theorem SS.unset {F:Hp} {G:Sto} {σ:St} {x:Option V} (h:SS F G σ):∀ (i:Nat),SS F (G.set i none) (σ.set i x):=by
 induction h with
 | nil=>intro i;exact .nil
 | non h ih=>
  intro i
  cases i with
  | zero=>exact .non h
  | succ i=>exact .non (ih i)
 | som q h ih=>
  intro i
  cases i with
  | zero=>exact .non h
  | succ i=>exact .som q (ih i)
inductive SLe:Sto→Sto→Prop
 | nil:SLe [] []
 | drop {G G':Sto} {x:Option Ty}:SLe G G'→SLe (x::G) (none::G')
 | imp {G G':Sto} {R R':Ty}:(∀ v F,R.p v F→R'.p v F)→SLe G G'→SLe (some R::G) (some R'::G')
theorem SLe.refl:∀ (G:Sto),SLe G G
 | []=>.nil
 | none::G=>.drop (SLe.refl G)
 | some R::G=>.imp (fun _ _ h=>h) (SLe.refl G)
theorem SS.weak {F:Hp} {G G':Sto} (l:SLe G G'):∀ {σ:St},SS F G σ→SS F G' σ:=by
 induction l with
 | nil=>intro σ h;exact h
 | drop _ ih=>
  intro σ h
  cases h with
  | non h=>exact .non (ih h)
  | som r h=>exact .non (ih h)
 | imp f _ ih=>
  intro σ h
  cases h with
  | som r h=>exact .som (f _ _ r) (ih h)
theorem SS.len {F:Hp} {G:Sto} {σ:St} (h:SS F G σ):σ.length=G.length:=by
 induction h with
 | nil=>rfl
 | non _ ih=>simp [ih]
 | som _ _ ih=>simp [ih]
inductive AllP (F:Hp):List Ty→List V→Prop
 | nil:AllP F [] []
 | cons {R:Ty} {Rs:List Ty} {v:V} {vs:List V}:R.p v F→AllP F Rs vs→AllP F (R::Rs) (v::vs)
theorem AllP.mono {F F':Hp} {Rs:List Ty} {vs:List V} (h:AllP F Rs vs) (s:Same F F'):AllP F' Rs vs:=by
 induction h with
 | nil=>exact .nil
 | cons r _ ih=>exact .cons (Ty.mono _ s r) ih
theorem AllP.len {F:Hp} {Rs:List Ty} {vs:List V} (h:AllP F Rs vs):vs.length=Rs.length:=by
 induction h with
 | nil=>rfl
 | cons _ _ ih=>simp [ih]
theorem AllP.get {F:Hp} {Rs:List Ty} {vs:List V} (h:AllP F Rs vs):∀ {i:Nat} {R:Ty},Rs[i]?=some R→∃ v,vs[i]?=some v∧R.p v F:=by
 induction h with
 | nil=>intro i R e;simp at e
 | cons r _ ih=>
  intro i R e
  cases i with
  | zero=>simp at e;subst e;exact ⟨_,by simp,r⟩
  | succ i=>simpa using ih (by simpa using e)
theorem AllP.append {F:Hp} {Rs Rs':List Ty} {vs vs':List V} (h:AllP F Rs vs) (h':AllP F Rs' vs'):AllP F (Rs++Rs') (vs++vs'):=by
 induction h with
 | nil=>exact h'
 | cons r _ ih=>exact .cons r ih
theorem SS.start {F:Hp} {Rs:List Ty} {vs:List V} {N:List Str} (h:AllP F Rs vs):SS F (Rs.map some++List.replicate (N.length - vs.length) none) (L2.start N vs):=by
 unfold L2.start
 generalize N.length - vs.length=m
 induction h with
 | nil=>
  induction m with
  | zero=>exact .nil
  | succ m ih=>exact .non ih
 | cons r _ ih=>exact .som r ih
def Ev (te:TE) (G:Sto) (D:Own) (R:Ty) (D':Own):Prop:=
 ∀ (σ:St) (H F:Hp),HS D H F→SS F G σ→∀ Q:VK,(∀ v H' F',Same F F'→HS D' H' F'→R.p v F'→Q v H')→te σ H Q
def EvT (tt:TT) (G:Sto) (D:Own) (b:Bool) (D':Own):Prop:=
 ∀ (σ:St) (H F:Hp),HS D H F→SS F G σ→∀ Q:Bool→Hp→Prop,(∀ H' F',Same F F'→HS D' H' F'→Q b H')→tt σ H Q
def StP (F0:Hp) (G:Sto) (D:Own):St→Hp→Prop:=fun σ H=>∃ F,Same F0 F∧HS D H F∧SS F G σ
def Go (P:St→Hp→Prop) (F0:Hp) (G:Sto) (D:Own):Prop:=∀ σ H F,Same F0 F→HS D H F→SS F G σ→P σ H
def GoV (P:VK) (F0:Hp) (R:Ty) (D:Own):Prop:=∀ v H F,Same F0 F→HS D H F→R.p v F→P v H
def GoX (P:XK) (F0:Hp) (c:Value) (D:Own):Prop:=∀ H F,Same F0 F→HS D H F→P c none H
theorem Go.weak {P:St→Hp→Prop} {F0:Hp} {G G':Sto} {D D':Own} (h:Go P F0 G' D') (l:SLe G G') (d:D'.Sublist D):Go P F0 G D:=
 fun σ H F s hs ss=>h σ H F s (hs.drop d) (ss.weak l)
theorem Go.mono {P P':St→Hp→Prop} {F0:Hp} {G:Sto} {D:Own} (h:Go P F0 G D) (f:∀ σ H,P σ H→P' σ H):Go P' F0 G D:=fun σ H F s hs ss=>f _ _ (h σ H F s hs ss)
mutual
theorem HK {K:jf} {F F':Hp} (s:Same F F'):∀ (d:PyData) (v:V),Dp K F v d→Dp K F' v d
 | .none,_,h=>by cases h;exact .non
 | .bool b,_,h=>by cases h;exact .bl b
 | .int i,_,h=>by cases h;exact .int i
 | .str x,_,h=>by cases h;exact .str x
 | .list ds,_,h=>by
  cases h with
  | lst h1 h2=>exact .lst (s.seq h1) (GO s ds _ h2)
 | .tuple ds,_,h=>by
  cases h with
  | tup h1 h2=>
   refine .tup ?_ (GO s ds _ h2)
   rcases h1 with (h1 | ⟨o,h1⟩) | h1
   ·exact .inl (.inl (s _ _ h1))
   ·exact .inl (.inr ⟨o,s _ _ h1⟩)
   ·exact .inr h1
 | .dict _,_,h=>by cases h
theorem GO {K:jf} {F F':Hp} (s:Same F F'):∀ (ds:List PyData) (vs:List V),DpAll K F vs ds→DpAll K F' vs ds
 | [],_,h=>by cases h;exact .nil
 | d::ds,_,h=>by
  cases h with
  | cons h1 h2=>exact .cons (HK s d _ h1) (GO s ds _ h2)
end
def D (K:jf) (d:PyData):Ty:=⟨fun v F=>Dp K F v d,fun s h=>HK s d _ h⟩
abbrev DI (K:jf) (i:Int):Ty:=D K (.int i)
abbrev DB (K:jf) (b:Bool):Ty:=D K (.bool b)
abbrev DS (K:jf) (x:Str):Ty:=D K (.str x)
abbrev DN (K:jf):Ty:=D K .none
def Is (v:V):Ty:=⟨fun w _=>w=v,fun _ h=>h⟩
section
variable {K:jf} {F:Hp} {v:V}
theorem Bo {i:Int} (h:(DI K i).p v F):v=.int i:=by cases h;rfl
theorem PY {b:Bool} (h:(DB K b).p v F):v=.bl b:=by cases h;rfl
theorem KF {x:Str} (h:(DS K x).p v F):v=.str x:=by cases h;rfl
theorem eG (h:(DN K).p v F):v=.non:=by cases h;rfl
theorem NC {ds:List PyData} (h:(D K (.tuple ds)).p v F):∃ a xs,v=.ref a∧SqT K F a xs∧DpAll K F xs ds:=by
 cases h with
 | tup h1 h2=>exact ⟨_,_,rfl,h1,h2⟩
theorem ZM {ds:List PyData} (h:(D K (.list ds)).p v F):∃ a xs,v=.ref a∧SqL K F a xs∧DpAll K F xs ds:=by
 cases h with
 | lst h1 h2=>exact ⟨_,_,rfl,h1,h2⟩
theorem KG {F F':Hp} {a:Addr} {xs:List V} (s:Same F F') (h:SqT K F a xs):SqT K F' a xs:=by
 rcases h with (h1 | ⟨o,h1⟩) | h1
 ·exact .inl (.inl (s _ _ h1))
 ·exact .inl (.inr ⟨o,s _ _ h1⟩)
 ·exact .inr h1
theorem SN:∀ {ds:List PyData} {vs:List V},DpAll K F vs ds→∀ {i:Nat} {d:PyData},ds[i]?=some d→∃ v,vs[i]?=some v∧Dp K F v d
 | [],_,h,i,d,e=>by simp at e
 | a::ds,_,h,i,d,e=>by
  cases h with
  | cons h1 h2=>
   cases i with
   | zero=>simp at e;subst e;exact ⟨_,by simp,h1⟩
   | succ i=>
    obtain ⟨v,h3,h4⟩:=SN h2 (i:=i) (d:=d) (by simpa using e)
    exact ⟨v,by simpa using h3,h4⟩
theorem ND:∀ {ds:List PyData} {vs:List V},DpAll K F vs ds→vs.length=ds.length
 | [],_,h=>by cases h;rfl
 | a::ds,_,h=>by
  cases h with
  | cons h1 h2=>simp [ND h2]
theorem MF:∀ {ds:List PyData} {vs:List V},AllP F (ds.map (D K)) vs→DpAll K F vs ds
 | [],_,h=>by cases h;exact .nil
 | a::ds,_,h=>by
  cases h with
  | cons h1 h2=>exact .cons h1 (MF h2)
end
end TL
namespace TL
open PySem PySem.Spec L2
section
variable {K:jf} {G:Sto} {D0 D1 D2 D3:Own} {te ta tb tc:TE} {tt tu:TT} {R Ra Rb:Ty}
theorem eH {i:Nat} (h:G[i]?=some (some R)):Ev (tVar i) G D0 R D0:=fun σ H F hs ss Q q=>by
 obtain ⟨v,e,r⟩:=ss.get h
 exact ⟨v,e,q v H F (Same.refl _) hs r⟩
theorem ev_c {v:V} (h:∀ F,R.p v F):Ev (tC v) G D0 R D0:=fun σ H F hs ss Q q=>q v H F (Same.refl _) hs (h F)
theorem WT {i:Int}:Ev (tC (.int i)) G D0 (DI K i) D0:=ev_c fun _=>.int i
theorem fu {b:Bool}:Ev (tC (.bl b)) G D0 (DB K b) D0:=ev_c fun _=>.bl b
theorem eJ {x:Str}:Ev (tC (.str x)) G D0 (DS K x) D0:=ev_c fun _=>.str x
theorem eK:Ev (tC .non) G D0 (DN K) D0:=ev_c fun _=>.non
theorem ev2 {r:R2} (ha:Ev ta G D0 Ra D1) (hb:Ev tb G D1 Rb D2) (hr:∀ x y H F,HS D2 H F→Ra.p x F→Rb.p y F→∀ Q:VK,(∀ v H' F',Same F F'→HS D3 H' F'→R.p v F'→Q v H')→r x y H Q):Ev (tOp r ta tb) G D0 R D3:=fun σ H F hs ss Q q=>
 ha σ H F hs ss _ fun x H1 F1 s1 hs1 r1=>hb σ H1 F1 hs1 (ss.mono s1) _ fun y H2 F2 s2 hs2 r2=>
  hr x y H2 F2 hs2 (Ra.mono s2 r1) r2 Q fun v H3 F3 s3=>q v H3 F3 ((s1.trans s2).trans s3)
theorem eM {C:Int→Int→Prop} {g:Int→Int→Int} {i j:Int} (ha:Ev ta G D0 (DI K i) D1) (hb:Ev tb G D1 (DI K j) D2) (c:C i j):Ev (tOp (rI C fun i j=>.int (g i j)) ta tb) G D0 (DI K (g i j)) D2:=
 ev2 ha hb fun x y H F hs rx ry Q q=>by
  rw [Bo rx,Bo ry]
  exact ⟨i,j,rfl,rfl,c,q _ H F (Same.refl _) hs (.int _)⟩
theorem LL {H F:Hp} {D:Own} (hs:HS D H F) {d:PyData} {v:V} (h:Dp K F v d):Dp K H v d:=HK hs.sub d v h
theorem Aq:100000≤sizeLine:=by decide
theorem JV {H F:Hp} {D:Own} (hs:HS D H F) {a:Addr} {xs:List V} (h:SqT K F a xs):SqT K H a xs:=KG hs.sub h
theorem Fl {H F:Hp} {D:Own} (hs:HS D H F) {a:Addr} {xs:List V} (h:SqL K F a xs):SqL K H a xs:=hs.sub.seq h
theorem Xf {ds:List PyData} {vs:List V} {F:Hp} (h:DpAll K F vs ds) {i:Int} {d:PyData} (e:atI ds i=some d):∃ v,atI vs i=some v∧Dp K F v d:=by
 unfold atI at e ⊢
 rw [ND h]
 cases q:ixN ds.length i with
 | none=>rw [q] at e;cases e
 | some j=>
  rw [q] at e
  exact SN h e
theorem Uj {F:Hp} {vs:List V} (h:AllP F [R] vs):∃ v,vs=[v]∧R.p v F:=by
 cases h with
 | cons h1 h2=>cases h2;exact ⟨_,rfl,h1⟩
theorem ZN {F:Hp} {vs:List V} (h:AllP F [Ra,Rb] vs):∃ v w,vs=[v,w]∧Ra.p v F∧Rb.p w F:=by
 cases h with
 | cons h1 h2=>
  obtain ⟨w,rfl,h3⟩:=Uj h2
  exact ⟨_,_,rfl,h1,h3⟩
abbrev cAbs:List V→Hp→VK→Prop:=fun xs H Q=>∃ i,xs=[.int i]∧Q (.int (if i < 0 then -i else i)) H
abbrev dc:List V→Hp→VK→Prop:=fun xs H Q=>∃ i j,xs=[.int i,.int j]∧Q (.int (if j > i then j else i)) H
abbrev de:List V→Hp→VK→Prop:=fun xs H Q=>∃ i j,xs=[.int i,.int j]∧Q (.int (if j < i then j else i)) H
abbrev ZO:List V→Hp→VK→Prop:=fun xs H Q=>(∃ i,xs=[.int i]∧Q (.int i) H)∨∃ k,xs=[.bl k]∧Q (.int (if k then 1 else 0)) H
abbrev cLen (K:jf):List V→Hp→VK→Prop:=fun xs H Q=>∃ x n,xs=[x]∧LenV K x H n∧Q (.int n) H
end
end TL
namespace TL
open PySem PySem.Spec L2
section
variable {K:jf} {G G1 G2:Sto} {D0 D1 D2 D3:Own} {te ta tb tc:TE} {tt tu:TT} {R Ra Rb:Ty} {E En:Ends} {F0 F1:Hp} {t u:TS}
theorem Go.up {P:St→Hp→Prop} (h:Go P F0 G D0) (s:Same F0 F1):Go P F1 G D0:=fun σ H F s1=>h σ H F (s.trans s1)
theorem GoV.up {P:VK} (h:GoV P F0 R D0) (s:Same F0 F1):GoV P F1 R D0:=fun v H F s1=>h v H F (s.trans s1)
theorem GoX.up {P:XK} {c:Value} (h:GoX P F0 c D0) (s:Same F0 F1):GoX P F1 c D0:=fun H F s1=>h H F (s.trans s1)
theorem GoV.imp {P:VK} (h:GoV P F0 R D0) (f:∀ v F,Ra.p v F→R.p v F):GoV P F0 Ra D0:=fun v H F s hs r=>h v H F s hs (f v F r)
theorem GoV.drop {P:VK} (h:GoV P F0 R D1) (s:D1.Sublist D0):GoV P F0 R D0:=fun v H F s1 hs r=>h v H F s1 (hs.drop s) r
theorem Ev.drop (h:Ev te G D0 R D1) (s:D2.Sublist D1):Ev te G D0 R D2:=fun σ H F hs ss Q q=>h σ H F hs ss Q fun v H' F' s1 hs' r=>q v H' F' s1 (hs'.drop s) r
theorem AB (h:Go (t { E with nx:=u E }) F0 G D0):Go (tSeq t u E) F0 G D0:=h
theorem Aw (h:Go E.nx F0 G D0):Go (tNext E) F0 G D0:=h
def EvG (g:TG) (G:Sto) (R:Ty) (G1:Sto):Prop:=∀ (v:V) (σ:St) (H F:Hp) (D:Own),HS D H F→SS F G σ→R.p v F→∀ Q:St→Hp→Prop,(∀ σ',SS F G1 σ'→Q σ' H)→g v σ H Q
theorem AE {i:Nat}:EvG (gName i) G R (G.set i (some R)):=fun v σ H F D hs ss r Q q=>q _ (ss.set r i)
def ItOk (K:jf) (J:It) (ds:List PyData) (F0:Hp):Prop:=∀ (D:Own) (H F:Hp),Same F0 F→HS D H F→∀ i:Nat,
 (∀ d,ds[i]?=some d→J.go i H∧∀ x H',J.yld i H x H'→∃ F2,Same F F2∧HS D H' F2∧Dp K F2 x d)∧(ds.length≤i→J.stop i H)
def LS (lo:Int) (n:Nat):List PyData:=(List.range n).map fun i:Nat=>PyData.int (lo+(i:Int))
theorem WU {lo:Int} {n:Nat}:(LS lo n).length=n:=by simp [LS]
theorem WV {lo:Int} {n i:Nat} {d:PyData} (h:(LS lo n)[i]?=some d):i < n∧d=.int (lo+(i:Int)):=by
 unfold LS at h
 rw [iB] at h
 by_cases hi:i < n
 ·rw [List.getElem?_range hi] at h
  cases h
  exact ⟨hi,rfl⟩
 ·rw [List.getElem?_eq_none (by simpa using hi)] at h
  cases h
theorem eN {lo:Int} {n:Nat} {F:Hp}:ItOk K (Itr lo n) (LS lo n) F:=fun D H2 F2 s2 hs2 i=>⟨fun d hd=>by
    obtain ⟨h1,rfl⟩:=WV hd
    refine ⟨h1,fun x H' hy=>?_⟩
    obtain ⟨e1,e2⟩:=hy
    subst e1 e2
    exact ⟨F2,Same.refl _,hs2,.int _⟩,fun hl=>by rw [WU] at hl;exact hl⟩
inductive Out where
  | ok (R:Ty)
  | err (c:Value)
  | new (O:OTy)
def GoN (P:VK) (F0:Hp) (O:OTy) (D:Own):Prop:=∀ p H F,Same F0 F→HS ((p,O)::D) H F→P (.ref p) H
def Post (o:Out) (rt:VK) (X:XK) (F:Hp) (D:Own):Prop:=match o with
 | .ok R=>GoV rt F R D
 | .err c=>GoX X F c D
 | .new O=>GoN rt F O D
theorem GoN.up {P:VK} {O:OTy} (h:GoN P F0 O D0) (s:Same F0 F1):GoN P F1 O D0:=fun p H F s1=>h p H F (s.trans s1)
theorem Post.up {o:Out} {rt:VK} {X:XK} (h:Post o rt X F0 D0) (s:Same F0 F1):Post o rt X F1 D0:=by
 cases o with
 | ok R=>exact GoV.up h s
 | err c=>exact GoX.up h s
 | new O=>exact GoN.up h s
theorem Post.ok {rt:VK} {X:XK} {o:Out} (h:Post o rt X F0 D0) (e:o=.ok R):GoV rt F0 R D0:=by subst e;exact h
theorem Post.err {rt:VK} {X:XK} {o:Out} {c:Value} (h:Post o rt X F0 D0) (e:o=.err c):GoX X F0 c D0:=by subst e;exact h
def fsp {T:Type} (args:T→List Ty) (pre:T→Prop) (out:T→Out):Sp:=fun vs H Q X=>∃ (x:T) (F:Hp) (D:Own),HS D H F∧AllP F (args x) vs∧pre x∧Post (out x) Q X F D
end
end TL
namespace TL
open PySem PySem.Spec L2
open PyProof.Rows (AllBare)
def ExT (cls:Value) (a:Addr):HO:=.ext fun h=>∃ (oe:Obj) (vs:Array Value),h.get? a=some oe∧Zc cls none oe∧oe.data=.fields vs
theorem ZP {X:Cx} {pins:List (Addr×Obj)} {σ:St} {H:Hp} {s:Shared} {a C:Addr} (I:Inv X pins σ H s) (h:H a=some (ExT (.ref C) a)):∃ oe,PySem.W.InstAt s.heap a oe C none:=by
 obtain ⟨⟨oe,vs,hget,hz,hv⟩,_,_⟩:=I.hok a _ h
 obtain ⟨oc,od,oda,osl⟩:=oe
 obtain ⟨h1,h2⟩:=hz
 dsimp only at h1 h2 hv
 subst h1 h2 hv
 exact ⟨_,hget,rfl,rfl,trivial⟩
def rIsX (K:jf):List V→Hp→VK→Prop:=fun xs H Q=>∃ (a C:Addr) (c:V) (u:Value) (b:Bool),xs=[.ref a,c]∧H a=some (ExT (.ref C) a)∧ExcC K C∧ClsV c u∧PySem.W.kitOne K (.ref C) u=some b∧Q (.bl b) H
section
variable {X:Cx}
theorem ZQ:CallR X (.builtin "isinstance") (rIsX X.K):=by
 intro pins s σ H xs us Q I r h
 obtain ⟨a,C,c,u,b,rfl,ha,hC,k,e,q⟩:=h
 obtain ⟨u1,u2,rfl,r1,r2⟩:=vals2 r
 have e2:=k.eq r2
 subst e2
 cases (show u1=Value.ref a from r1)
 obtain ⟨oe,J⟩:=ZP I ha
 exact PySem.W.kia_one (PySem.W.handS_kitx_exc hC.hg hC.hk hC.hs hC.hd hC.ha hC.hn hC.ht hC.hm) I.kIn J e (fun z=>nomatch z) fun tk=>⟨.bl b,H,I.tok tk,rfl,q⟩
theorem CallR.or {f:Value} {r r':List V→Hp→VK→Prop} (h:CallR X f r) (h':CallR X f r'):CallR X f (fun xs H Q=>r xs H Q∨r' xs H Q):=fun pins s σ H xs us Q I rr z=>by
 rcases z with z | z
 ·exact h pins s σ H xs us Q I rr z
 ·exact h' pins s σ H xs us Q I rr z
def cIsi (K:jf):List V→Hp→VK→Prop:=fun xs H Q=>rIsi K xs H Q∨rIsX K xs H Q
theorem JE:CallR X (.builtin "isinstance") (cIsi X.K):=CallR.or call_isi ZQ
end
def tyN:PyData→String
 | .none=>"NoneType" | .bool _=>"bool" | .int _=>"int" | .str _=>"str" | .list _=>"list" | .tuple _=>"tuple" | .dict _=>"dict"
theorem eO {K:jf} {H:Hp} {v:V} {d:PyData} (h:Dp K H v d):TyX K H v (.type (tyN d)):=by
 cases h with
 | non=>exact .base .non
 | bl b=>exact .base (.bl b)
 | int i=>exact .base (.int i)
 | str x=>exact .base (.str x)
 | lst h1 h2=>
  rcases h1 with (h1 | ⟨o,h1⟩) | ⟨_,_,_,h1,h2,_⟩
  ·exact .base (.lst h1)
  ·exact .base (.frz h1)
  ·exact .kList h1 h2
 | tup h1 h2=>
  rcases h1 with (h1 | ⟨o,h1⟩) | ⟨_,_,_,h1,h2,_⟩
  ·exact .base (.tup h1)
  ·exact .fTuple h1
  ·exact .kTuple h1 h2
section
variable {K:jf} {G G1 G2:Sto} {D0 D1 D2 D3:Own} {te ta tb tc:TE} {tt tu:TT} {R Ra Rb:Ty} {E En:Ends} {F0 F1:Hp} {t u:TS}
def P8 (C:Addr) (X:XK):TS:=fun _ _ H=>X (.ref C) none H
end
end TL
namespace TL
open PySem PySem.Spec L2
def K8 (_ j:Int):Prop:=j≠0∧j.natAbs.log2 < 9000
abbrev fv:R2:=fun x y H Q=>∃ i j,x=.str i∧y=.str j∧i.length+j.length≤sizeLine∧Q (.str (i++j)) H
abbrev fx:R2:=rI0 fun i j=>.int (i+j)
abbrev K9:R2:=rI0 fun i j=>.int (i - j)
abbrev fy:R2:=rI CMulW fun i j=>.int (i*j)
abbrev Nt:R2:=rI K8 fun i j=>.int (i.fdiv j)
abbrev Nv:R2:=rI (fun _ j=>j≠0) fun i j=>.int (i.fmod j)
abbrev LM:R2:=rI CPow fun i j=>.int (i ^ j.toNat)
abbrev rLtI:R2:=rI0 fun i j=>.bl (decide (i < j))
abbrev rGeI:R2:=rI0 fun i j=>.bl (decide (j≤i))
def df (K:jf):R2:=fun x y H Q=>∃ a b ys,x=.ref a∧y=.ref b∧SqT K H a []∧SqT K H b ys∧Q (.ref b) H
def qAdd (K:jf):R2:=fun x y H Q=>fx x y H Q∨fv x y H Q∨rCat x y H Q∨rCatT K x y H Q∨df K x y H Q
def qMul (K:jf):R2:=fun x y H Q=>fy x y H Q∨rRep x y H Q
def qEq (K:jf):R2:=fun x y H Q=>rEq x y H Q∨rEqD K x y H Q
def qNe (K:jf):R2:=fun x y H Q=>rNe x y H Q∨rNeD K x y H Q
def SO:V→Hp→VK→Prop:=rU fun i=>.int (-i)
section
variable {X:Cx}
theorem NF:OpR X (binaryOp .FloorDiv) Nt:=opI fun i j _ _ _ _ _ hc q=>PyProof.Rows.floordiv_int hc.1 q (.inl (PyProof.noPylong_of_log2 hc.2))
theorem Xg:OpR X (binaryOp .Add) (df X.K):=by
 intro pins s σ H x y v u Q I rx ry h
 obtain ⟨a,b,ys,rfl,rfl,ha,hb,q⟩:=h
 cases rx
 cases ry
 obtain ⟨its,r1,p1,_⟩:=I.tuple ha
 obtain ⟨its2,r2,p2,_⟩:=I.tuple hb
 have none:its=[]:=r1.nil_iff.mpr rfl
 obtain ⟨⟨c1,d1,t1,l1⟩,g1,k1,n1,m1⟩:=id p1
 obtain ⟨⟨c2,d2,t2,l2⟩,g2,k2,n2,m2⟩:=id p2
 simp only at k1 m1 k2 m2
 subst k1 m1 k2 m2
 exact concat_meets ⟨_,g1,rfl⟩ ⟨_,g2,rfl⟩ PySem.noFill_tuple_add PySem.seq_tuple_add PySem.F.slot_tuple_add PySem.F.entry_tuple_add (PySem.F.args_tuple_add_2 _ _)
  (PyProof.Rows.tuple_addW0 a b its.toArray its2.toArray n1 n2 d1 d2 l1 l2 (by simp [none])) ⟨g1,g2,⟨.ref b,H,I,rfl,q⟩⟩
theorem cH:OpR X (binaryOp .Add) (qAdd X.K):=op_add.or (op_add_str.or (op_cat.or (op_catT.or Xg)))
theorem B9:OpR X (binaryOp .Mult) (qMul X.K):=op_mulW.or op_rep
theorem FL (hu:X.A.units+64 < cLine):OpR X (compareOp .Eq) (qEq X.K):=op_eq.or (op_eqD hu)
theorem JW (hu:X.A.units+64 < cLine):OpR X (compareOp .NotEq) (qNe X.K):=op_ne.or (op_neD hu)
theorem P9:UnR X (unaryOp .USub) SO:=un_neg
end
section
variable {K:jf} {G G1 G2:Sto} {D0 D1 D2 D3:Own} {te ta tb tc:TE} {tt tu:TT} {R Ra Rb:Ty}
theorem eP {i j:Int} (ha:Ev ta G D0 (DI K i) D1) (hb:Ev tb G D1 (DI K j) D2) (c:CPow i j):Ev (tOp LM ta tb) G D0 (DI K (i ^ j.toNat)) D2:=eM ha hb c
end
structure Fo (P:Program) (w:World) (K:jf) (mg:Str→Option Value) (base:Heap) (x:Str) (ps:List Str) (dvs:List V) (k:Nat) (sp:Sp):Prop where
 ex:∃ f fd ds,FnOk P w K mg base (L2.CX P w) k f fd ps sp∧mg x=some (.ref f)∧PySem.W.keepIn K (.ref f)=true∧Binds K fd ps ds∧Vals dvs ds
section
variable {X:Cx} {x:Str} {ps:List Str} {dvs:List V} {k:Nat} {sp:Sp} {t:TA} {e:Expr} {es:List Expr} {p pos:Pos} {EX:XK} {W:WX}
theorem A4 (F:Fo X.prog X.w X.K X.mg X.base x ps dvs k sp) (hr:Room k X.A) (hx:Passes (L2.CX X.prog X.w) X EX) (ha:PA X (e::es) t) (hg:Gl X x:=by rfl) (hdb:(x == ("__debug__":Str))=false:=by decide)
    (he:starEach (e::es) X.env=(false,eval e X.env)::starEach es X.env:=by rfl) (hpl:(backTo pos (starEach es X.env)).any (·.1)=false:=by rfl):PE X (.Call (.Name x p) (e::es) [] pos) (tCall sp dvs EX t):=by
  obtain ⟨f,fd,ds,G,hm,hk,hb,hd⟩:=F.ex
  exact pe_call G hr hg hm hk hb hd hx ha hdb he hpl
def cI (sp:Sp) (dvs:List V) (E:St→XK) (t:TA):TE:=fun σ H Q=>t σ H fun vs H1=>sp (vs++dvs) H1 Q (E σ)
end
theorem BI {P:Program} {w:World} {K:jf} {mg:Str→Option Value} {base:Heap} {x:Str} {ps:List Str} {k:Nat} {sp:Sp} {f:Addr} {fd:FuncData} {name qual:Str} {params:Arguments} {body:List Stmt} {scope:Scope}
    (F:FunD K name qual params body scope [] [] f fd) (hm:mg x=some (.ref f)) (ok:FnOk P w K mg base (L2.CX P w) k f fd ps sp)
    (h:∀ (kV doc pm:Value) (an:Option Addr) (cdv ct:Value) (us:List Value),us.length=ps.length→bindArgs (PySem.W.fnOf name qual params body scope .none kV doc pm an cdv ct) ⟨us,[]⟩=pure (ps.zip us)):Fo P w K mg base x ps [] k sp:=
  ⟨f,fd,[],ok,hm,F.kp,FunD.bindsN F h,.nil⟩
theorem eR {P:Program} {w:World} {K:jf} {mg:Str→Option Value} {base:Heap} {x:Str} {ps:List Str} {k:Nat} {sp:Sp} {f:Addr} {fd:FuncData} {name qual:Str} {params:Arguments} {body:List Stmt} {scope:Scope} {dvs:List V}
    (F:FunD K name qual params body scope dvs [] f fd) (hm:mg x=some (.ref f)) (ok:FnOk P w K mg base (L2.CX P w) k f fd ps sp) (n j:Nat) (hd:dvs≠[]) (hn:n+(dvs.length - j)=ps.length)
    (h:∀ (T:Addr) (kV doc pm:Value) (an:Option Addr) (cdv ct:Value) (us its:List Value),us.length=n→its.length=dvs.length →
      ∃ k,bindArgs (PySem.W.fnOf name qual params body scope (.ref T) kV doc pm an cdv ct) ⟨us,[]⟩=seqItems? (.ref T) >>= k∧k (some its.toArray)=pure (ps.zip (us++its.drop j))):Fo P w K mg base x ps (dvs.drop j) k sp:=by
  obtain ⟨ds,h1,h2⟩:=FunD.binds1 F n j hd hn h
  exact ⟨f,fd,ds,ok,hm,F.kp,h2,h1⟩
end TL
namespace TL
open PySem PySem.Spec L2
section
variable {X:Cx} {x:Str} {pos:Pos}
def iLT (K:jf) (tl:TE):TI:=fun σ H R=>tl σ H fun x H1=>∃ a,x=.ref a∧((∃ xs,SqL K H1 a xs)∧R (Itl K a) H1∨(∃ xs,SqT K H1 a xs)∧R (Itt K a) H1)
theorem fz {tg l:Expr} {tl:TE} (hl:PE X l tl):PI X tg l (iLT X.K tl):=by
 refine ⟨fun pins s σ H R I h=>?_⟩
 refine thn (hl.run pins s σ H _ I h) fun v s1 ⟨x,H1,I1,r1,q1⟩=>?_
 obtain ⟨a,e,q1⟩:=q1
 subst e
 cases r1
 rcases q1 with ⟨⟨xs,hq⟩,q⟩ | ⟨⟨xs,hq⟩,q⟩
 ·obtain ⟨its,rv,p,hz⟩:=I1.list hq
  refine wpAny_pyIter_list p.isList ?_
  refine ⟨s1.heap.objs.size,[s1.heap.objs.size],_,_,H1,rfl,I1.kept (t':=s1.toks) fun b o e=>Heap.get?_push_of_some _ e,turn_list a _,⟨_,Heap.get?_push_size _ rfl,rfl,rfl⟩,fun b hb=>?_,q⟩
  have e:b=s1.heap.objs.size:=by simpa using hb
  subst e
  exact I1.fpOk (iA _) (I1.hok.fresh (iA _))
 ·obtain ⟨its,rv,p,hz⟩:=I1.tuple hq
  refine wpAny_pyIter_tuple (show s1.heap.IsTuple a its.toArray from p) ?_
  refine ⟨s1.heap.objs.size,[s1.heap.objs.size],_,_,H1,rfl,I1.kept (t':=s1.toks) fun b o e=>Heap.get?_push_of_some _ e,turn_tuple a _,⟨_,Heap.get?_push_size _ rfl,rfl,rfl⟩,fun b hb=>?_,q⟩
  have e:b=s1.heap.objs.size:=by simpa using hb
  subst e
  exact I1.fpOk (iA _) (I1.hok.fresh (iA _))
def iSeq (K:jf) (tl:TE):TI:=fun σ H R=>iList K tl σ H R∨iTup K tl σ H R∨iLT K tl σ H R
theorem Cb {tg l:Expr} {tl:TE} (hl:PE X l tl):PI X tg l (iSeq X.K tl):=⟨fun pins s σ H R I h=>by
 rcases h with h | h | h
 ·exact (pi_list hl).run pins s σ H R I h
 ·exact (pi_tup hl).run pins s σ H R I h
 ·exact (fz hl).run pins s σ H R I h⟩
structure ExOk (K:jf) (C:Addr):Prop where
 x:PySem.W.excIn K C He.veBase "ValueError.__new__"=true
 k:PySem.W.keepIn K (.ref C)=true
 b:PySem.W.subIn K (.ref C) (.type "BaseException")=some true
 t:PySem.W.typeIn K (.ref C)=some (.type "type")
 c:ExcC K C
theorem ExOk.pmk {C:Addr} {m:Str} {j:Nat} {p p2:Pos} (o:ExOk X.K C) (gC:X.mg x=some (.ref C)) (hg:Gl X x) (hdb:(x == ("__debug__":Str))=false:=by decide):PMk X (.Call (.Name x p) [.Constant (.str m) j p2] [] pos) (fun _ H Q=>Q (.ref C) none H):=
 pmk_own PySem.F.excBase_ValueError o.x gC o.k (raises_own o.b o.t) hg hdb
theorem SQ {C:Addr} {e:Expr} {EX:XK} (hc:X.calm=true) (tk:Takes X (fun cls d _ H=>EX cls d H)) (he:PMk X e (fun _ H Q=>Q (.ref C) none H)):PS X (.Raise (some e) none pos) (P8 C EX):=ps_raise hc tk he
end
theorem ZR {K:jf} {F F':Hp} {v:V} {n:Value} (s:Same F F') (h:TyX K F v n):TyX K F' v n:=by
 cases h with
 | base h=>
  cases h with
  | non=>exact .base .non
  | bl b=>exact .base (.bl b)
  | int i=>exact .base (.int i)
  | str x=>exact .base (.str x)
  | flt x=>exact .base (.flt x)
  | lst e=>exact .base (.lst (s _ _ e))
  | frz e=>exact .base (.frz (s _ _ e))
  | tup e=>exact .base (.tup (s _ _ e))
  | dK e=>exact .base (.dK (s _ _ e))
  | dT e=>exact .base (.dT (s _ _ e))
  | ins e cl ha hn htk hm=>exact .base (.ins (s _ _ e) cl ha hn htk hm)
 | byt b=>exact .byt b
 | set e=>exact .set (s _ _ e)
 | kList e c=>exact .kList e c
 | kTuple e c=>exact .kTuple e c
 | kDict e c=>exact .kDict e c
 | fTuple e=>exact .fTuple (s _ _ e)
 | fDict e=>exact .fDict (s _ _ e)
def Of (K:jf) (n:String):Ty:=⟨fun v F=>TyX K F v (.type n),ZR⟩
section
variable {K:jf} {G G1 G2:Sto} {D0 D1 D2 D3:Own} {te ta tb tc:TE} {tt tu:TT} {R Ra Rb:Ty} {E En:Ends} {F0 F1:Hp} {t u:TS}
theorem cJ {F:Hp} {Rs:List Ty} {vs:List V} (h:AllP F Rs vs) {i:Int} {R:Ty} (e:atI Rs i=some R):∃ v,atI vs i=some v∧R.p v F:=by
 unfold atI at e ⊢
 rw [h.len]
 cases q:ixN Rs.length i with
 | none=>rw [q] at e;cases e
 | some j=>
  rw [q] at e
  exact h.get e
end
open PySem.W in
abbrev AlZ:Type:=He.AlD×Bool
def dg (fa:List He.Fa) (fn:List He.DefD) (ex:jf→Bool) (K:jf):Prop:=He.SaysD fa fn K∧ex K=true
def excB (K:jf) (C:Addr):Bool:=
 PySem.W.excIn K C He.veBase "ValueError.__new__" && (PySem.W.keepIn K (.ref C) && (decide (PySem.W.subIn K (.ref C) (.type "BaseException")=some true) && (decide (PySem.W.typeIn K (.ref C)=some (.type "type")) &&
 (He.eqO (PySem.W.findIn K (.ref C) "__getattribute__") (some (some (.builtin "BaseException.__getattribute__"))) && (He.eqO (PySem.W.findIn K (.ref C) "__getattr__") (some none) && (PySem.W.hasDictIn K C &&
 (He.eqO (PySem.W.findIn K (.ref C) "__class__") (some (some (.builtin "object.__class__"))) && (decide (PySem.W.specialIn K (.builtin "object.__class__") "__get__"=some (some (.builtin "getset_descriptor.__get__"))) && (decide (PySem.W.takesIn K (.builtin "object.__class__")=some true) &&
 decide (PySem.W.mroIn K C (.type "object")=some true))))))))))
theorem Xh {K:jf} {C:Addr} (h:excB K C=true):ExOk K C:=by
 unfold excB at h
 simp only [iN,decide_eq_true_eq] at h
 obtain ⟨h1,h2,h3,h4,h5,h6,h7,h8,h9,h10,h11⟩:=h
 exact ⟨h1,h2,h3,h4,⟨He.eqO_ok h5,He.eqO_ok h6,h3,h7,He.eqO_ok h8,h9,h10,h11⟩⟩
end TL
namespace TL
open PySem PySem.Spec L2
theorem g7 {P:Program} {w:World} {o:List Env} {H:Hp} {s:Shared} {e:Value} {s':Shared} (z:L2.CX P w o H s E0 e s'):False:=by
 obtain ⟨_,_,_,_,_,_,_,_,_,_,_,_,z⟩:=z
 exact z
theorem cK {P:Program} {w:World} {K:jf} {mg:Str→Option Value} {base:Heap} {k:Nat} {f:Addr} {fd:FuncData} {ps:List Str} {sp:Sp} (F:FnOk P w K mg base (L2.CX P w) k f fd ps sp) (h:∀ vs H Q E,sp vs H Q E→sp vs H Q E0):FnOk P w K mg base CX0 k f fd ps sp where
  run:=fun A outer s H args us vs Q E hr e b r q=>codeAny_mono (F.run A outer s H args us vs Q E0 hr e b r (h vs H Q E q)) fun r s' z=>by
    cases r with
    | error e=>exact (g7 z).elim
    | ok fl=>cases fl with
      | ret u=>exact z
      | next=>exact z
      | brk=>exact z
      | cont=>exact z
  len:=F.len
def SR (K:jf):Sp:=fsp (T:=List Int) (fun ns=>[D K (.list (ns.map PyData.int))]) (fun ns=>ns.length≤63) (fun _=>.ok (DB K true))
theorem cL {K:jf}:∀ vs H Q E,SR K vs H Q E→SR K vs H Q E0:=fun vs H Q E ⟨x,F,D,h1,h2,h3,h4⟩=>⟨x,F,D,h1,h2,h3,h4⟩
theorem Xi {K:jf} {F:Hp}:∀ ns:List Int,DpAll K F (ns.map V.int) (ns.map PyData.int)
 | []=>.nil
 | n::ns=>.cons (.int n) (Xi ns)
theorem eT {K:jf} {H:Hp} {a:Addr} {ns:List Int} (hl:ns.length≤63) (h:SqL K H a (ns.map V.int)):SR K [.ref a] H (fun v _=>v=.bl true) E0:=
 ⟨ns,H,[],⟨Same.refl _,(fun a O m=>by cases m),jP,fun _=>noH,(fun a O m=>by cases m),(fun a b o m=>by cases m),fun a a2 b m=>by cases m⟩,.cons (.lst h (Xi ns)) .nil,hl,fun v H' F' s hs r=>PY r⟩
end TL
namespace Nu
theorem KH {a b:Int} (h:b≠0):(a.fmod b).natAbs < b.natAbs:=by
  rcases Int.lt_or_gt_of_ne h with hb | hb
  · have e:a.fmod b=-((-a).fmod (-b)):=by
      rw [Int.neg_fmod_neg,Int.neg_neg]
    have h1:=Int.fmod_nonneg_of_pos (-a) (show 0 < -b by omega)
    have h2:=Int.fmod_lt_of_pos (-a) (show 0 < -b by omega)
    omega
  · have h1:=Int.fmod_nonneg_of_pos a hb
    have h2:=Int.fmod_lt_of_pos a hb
    omega
theorem ZS (a b:Int):Int.gcd b (a.fmod b)=Int.gcd a b:=by
 have e:a.fmod b=a+b*(-(a.fdiv b)):=by
  have:=Int.fmod_add_mul_fdiv a b
  grind
 rw [e]
 rw [Int.gcd_comm a b]
 exact Int.gcd_add_mul_left_right ..
def by_ (t b:Int):Int:=if b < 0 then 0 - (Int.gcd t b:Int) else (Int.gcd t b:Int)
def q (t b:Int):Rat:=Rat.divInt t b
theorem PB {t b:Int} (h:b≠0):0 < Int.gcd t b:=Int.gcd_pos_of_ne_zero_right _ h
theorem ZT {t b:Int} (h:b≠0):by_ t b≠0:=by
 have:=PB (t:=t) h
 unfold by_
 split <;> omega
theorem g8 {t b:Int} (h:b≠0):(by_ t b).natAbs≤b.natAbs:=by
 have:=Int.gcd_le_natAbs_right t h
 unfold by_
 split <;> omega
theorem Uk {a b c:Int} (hc:c≠0) (h:a=c*b):a.fdiv c=b:=by
 subst h
 exact Int.mul_fdiv_cancel_left _ hc
theorem eW {t b:Int} (h:b≠0):t.fdiv (by_ t b)=(q t b).num:=by
 have gp:=PB (t:=t) h
 obtain ⟨u,hu⟩:=Int.gcd_dvd_left t b
 refine Uk (ZT h) ?_
 unfold q by_
 rw [Rat.num_divInt,Int.gcd_comm b t]
 have g0:(Int.gcd t b:Int)≠0:=by omega
 have e1:b.sign*t / (Int.gcd t b:Int)=b.sign*u:=by
  have:b.sign*t=(Int.gcd t b:Int)*(b.sign*u):=by
   conv=>lhs;rw [hu]
   grind
  rw [this]
  exact Int.mul_ediv_cancel_left _ g0
 rw [e1]
 by_cases hb:b < 0
 ·rw [if_pos hb,Int.sign_eq_neg_one_of_neg hb]
  conv=>lhs;rw [hu]
  grind
 ·rw [if_neg hb,Int.sign_eq_one_of_pos (by omega)]
  conv=>lhs;rw [hu]
  grind
theorem eX {t b:Int} (h:b≠0):b.fdiv (by_ t b)=((q t b).den:Int):=by
 have gp:=PB (t:=t) h
 obtain ⟨u,hu⟩:=Int.gcd_dvd_right t b
 refine Uk (ZT h) ?_
 unfold q by_
 rw [Rat.den_divInt,if_neg h,Int.gcd_comm b t]
 have g0:(Int.gcd t b:Int)≠0:=by omega
 have e1:(((b.natAbs / Int.gcd t b:Nat)):Int)=u.natAbs:=by
  have:b.natAbs=Int.gcd t b*u.natAbs:=by
   conv=>lhs;rw [hu]
   rw [ib,Int.natAbs_natCast]
  rw [this,Nat.mul_div_cancel_left _ gp]
 rw [e1]
 have su:(b < 0→u < 0)∧(0 < b→0 < u):=by
  constructor
  ·intro hb
   rcases Int.lt_or_le u 0 with z | z
   ·exact z
   ·have:0≤(Int.gcd t b:Int)*u:=jQ (by omega) z
    omega
  ·intro hb
   rcases Int.lt_or_le 0 u with z | z
   ·exact z
   ·have:(Int.gcd t b:Int)*u≤0:=Int.mul_nonpos_of_nonneg_of_nonpos (by omega) z
    omega
 by_cases hb:b < 0
 ·rw [if_pos hb]
  have:=su.1 hb
  have e:((u.natAbs:Nat):Int)=- u:=by omega
  rw [e]
  conv=>lhs;rw [hu]
  grind
 ·rw [if_neg hb]
  have:=su.2 (by omega)
  have e:((u.natAbs:Nat):Int)=u:=by omega
  rw [e]
  conv=>lhs;rw [hu]
theorem g9 {t b:Int}:q (0 - t) (0 - b)=q t b:=by
 unfold q
 rw [Int.zero_sub,Int.zero_sub]
 exact Rat.neg_divInt_neg ..
theorem ZU {t b:Int} (h:0 < b):by_ t b=(Int.gcd t b:Int):=by
 unfold by_
 rw [if_neg (by omega)]
theorem LU (r:Rat):q r.num r.den=r:=Rat.num_divInt_den r
theorem HF (r:Rat):(r.den:Int)≠0:=by
 have:=r.den_pos
 omega
theorem MG (a b:Rat):q (a.num*b.den+b.num*a.den) (a.den*b.den)=a+b:=by
 conv=>rhs;rw [← LU a,← LU b]
 exact (Rat.divInt_add_divInt _ _ (HF a) (HF b)).symm
theorem Ul (a b:Rat):q (a.num*b.den - b.num*a.den) (a.den*b.den)=a - b:=by
 conv=>rhs;rw [← LU a,← LU b]
 exact (Rat.divInt_sub_divInt _ _ (HF a) (HF b)).symm
theorem MH (a b:Rat):q (a.num*b.num) (a.den*b.den)=a*b:=by
 conv=>rhs;rw [← LU a,← LU b]
 exact (Rat.divInt_mul_divInt ..).symm
theorem PF (a b:Rat):(a.num*b.den < b.num*a.den)↔a < b:=(Rat.lt_iff a b).symm
theorem gA (t:Int):(q t 1).num=t∧(q t 1).den=1:=by
 unfold q
 refine ⟨?_,?_⟩
 ·rw [Rat.num_divInt];simp
 ·rw [Rat.den_divInt];simp
def Bd (n:Nat) (r:Rat):Prop:=r.num.natAbs < 2 ^ n∧r.den < 2 ^ n
theorem B5 {a b:Int} {n m:Nat} (ha:a.natAbs < 2 ^ n) (hb:b.natAbs < 2 ^ m):(a*b).natAbs < 2 ^ (n+m):=by
 rw [ib,Nat.pow_add]
 exact Nat.mul_lt_mul'' ha hb
theorem J2 {a b:Int} {n:Nat} (ha:a.natAbs < 2 ^ n) (hb:b.natAbs < 2 ^ n):(a+b).natAbs < 2 ^ (n+1):=by
 rw [Nat.pow_succ]
 omega
theorem RJ {a b:Int} {n:Nat} (ha:a.natAbs < 2 ^ n) (hb:b.natAbs < 2 ^ n):(a - b).natAbs < 2 ^ (n+1):=by
 rw [Nat.pow_succ]
 omega
theorem C4 {a n m:Nat} (h:a < 2 ^ n) (l:n≤m):a < 2 ^ m:=iE h (iO (by decide) l)
theorem Bd.mono {n m:Nat} {r:Rat} (h:Bd n r) (l:n≤m):Bd m r:=⟨C4 h.1 l,C4 h.2 l⟩
theorem PZ (a:Int) {g:Nat} (h:0 < g):(a / (g:Int)).natAbs≤a.natAbs:=by
 rcases Int.lt_or_le a 0 with z | z
 ·have h1:a / (g:Int) < 0:=Int.ediv_neg_of_neg_of_pos z (by omega)
  have h2:a≤a / (g:Int):=by
   have h3:a / (g:Int)*(g:Int)≤a:=Int.ediv_mul_le a (by omega)
   have h4:a - (g:Int) < a / (g:Int)*(g:Int):=by
    have:=Int.lt_ediv_add_one_mul_self a (show (0:Int) < g by omega)
    grind
   have:a*(g:Int)≤a*1:=Int.mul_le_mul_of_nonpos_left (by omega) (by omega)
   refine Int.le_ediv_of_mul_le (by omega) ?_
   omega
  omega
 ·have h1:0≤a / (g:Int):=Int.ediv_nonneg z (by omega)
  have h2:a / (g:Int)≤a:=Int.ediv_le_self _ z
  omega
theorem q_bd {t b:Int} {n:Nat} (ht:t.natAbs < 2 ^ n) (hb:b.natAbs < 2 ^ n) (h:b≠0):Bd n (q t b):=by
 have gp:=PB (t:=t) h
 rw [Int.gcd_comm] at gp
 unfold q Bd
 rw [Rat.num_divInt,Rat.den_divInt,if_neg h]
 refine ⟨?_,iq (Nat.div_le_self _ _) hb⟩
 refine iq (PZ _ gp) ?_
 rw [ib]
 have:b.sign.natAbs≤1:=by
  rcases Int.lt_or_gt_of_ne h with z | z
  ·rw [Int.sign_eq_neg_one_of_neg z];decide
  ·rw [Int.sign_eq_one_of_pos z];decide
 have h2:b.sign.natAbs*t.natAbs≤1*t.natAbs:=iP _ this
 omega
theorem AU {n:Nat} {r:Rat} (h:Bd n r):((r.den:Int)).natAbs < 2 ^ n:=by simpa using h.2
theorem L0 {a b:Rat} {n m:Nat} (ha:Bd n a) (hb:Bd m b):Bd (n+m+1) (a+b):=by
 rw [← MG]
 refine q_bd (J2 (B5 ha.1 (AU hb)) (by rw [Nat.add_comm];exact B5 hb.1 (AU ha))) (C4 (B5 (AU ha) (AU hb)) (by omega)) (Int.mul_ne_zero (HF a) (HF b))
theorem KI {a b:Rat} {n m:Nat} (ha:Bd n a) (hb:Bd m b):Bd (n+m+1) (a - b):=by
 rw [← Ul]
 refine q_bd (RJ (B5 ha.1 (AU hb)) (by rw [Nat.add_comm];exact B5 hb.1 (AU ha))) (C4 (B5 (AU ha) (AU hb)) (by omega)) (Int.mul_ne_zero (HF a) (HF b))
theorem Um {a b:Rat} {n m:Nat} (ha:Bd n a) (hb:Bd m b):Bd (n+m) (a*b):=by
 rw [← MH]
 exact q_bd (B5 ha.1 hb.1) (B5 (AU ha) (AU hb)) (Int.mul_ne_zero (HF a) (HF b))
end Nu
namespace TL
open PySem PySem.Spec L2
def kinds:List String:=["int","bool","NoneType","str","tuple","list","dict"]
abbrev DQ (K:jf) (r:Rat):Ty:=D K (.tuple [.int r.num,.int r.den])
inductive NA where
  | odd1 (n:String) (m:String)
  | odd2 (t:Int) (n:String)
  | good (t b:Int)
def NA.args (K:jf):NA→List Ty
 | .odd1 n m=>[Of K n,Of K m]
 | .odd2 t n=>[DI K t,Of K n]
 | .good t b=>[DI K t,DI K b]
def NA.pre:NA→Prop
 | .odd1 n m=>n∈kinds∧n≠"int"∧m∈kinds
 | .odd2 t n=>n∈kinds∧n≠"int"
 | .good t b=>b.natAbs < 2 ^ 8000
def NA.out (K:jf):NA→Out
 | .good t b=>if b=0 then .err (.ref (He.ga K "NoNumber")) else .ok (DQ K (Nu.q t b))
 | _=>.err (.ref (He.ga K "NoNumber"))
structure We where
 f:Int
 v:Int
 t:Int
def We.d (w:We):List PyData:=[.int w.f,.int w.v,.int w.t]
def We.ok (n:Nat) (w:We):Prop:=w.f=1∨(w.f=0∧w.v.natAbs < 2 ^ 60∧0≤w.t∧w.t≤n)
def mix (v t:Int):Int:=((((((v+7919*t*t)+t)*48271).fmod 2305843009213693951)*1442695040888963407+4321).fmod 2305843009213693921).fdiv 64
def We.val (w:We) (m:Int):Int:=if w.f=1 then w.v.fmod m else (mix w.v (w.t+1)).fmod m
def We.nx (w:We) (m:Int):We:=if w.f=1 then ⟨w.f,w.v.fdiv m,w.t⟩ else ⟨w.f,w.v,w.t+1⟩
section
variable {K:jf} {G:Sto} {D0 D1 D2:Own} {te ta tb:TE} {F0:Hp} {E:Ends} {X:XK}
theorem ZV {t b:Int} (h0:b≠0) (hb:b.natAbs < 2 ^ 8000):K8 t (Nu.by_ t b):=by
 refine ⟨Nu.ZT h0,?_⟩
 have h1:=Nu.g8 (t:=t) h0
 have:(Nu.by_ t b).natAbs < 2 ^ 8000:=iq h1 hb
 exact iE (PySem.Flt.log2_lt_of (by decide) this) (by decide)
theorem ZW {D:Own} {k:Nat} {x y:Addr×OTy} (h:D[k]?=some x):(D.set k y)[k]?=some y:=by
 have lt:k < D.length:=(iF.mp h).1
 rw [iQ lt]
theorem wmul {i j:Int} (a b:Nat) (ha:i.natAbs < 2 ^ a) (hb:j.natAbs < 2 ^ b) (h0:0 < a:=by decide) (h1:0 < b:=by decide) (h:a+b≤1000000:=by decide):CMulW i j:=wide_mul ha hb h0 h1 h
theorem cdiv {i j:Int} (h0:j≠0) (hb:j.natAbs < 2 ^ 8000):K8 i j:=⟨h0,iE (PySem.Flt.log2_lt_of (by decide) hb) (by decide)⟩
theorem NG {a m:Int} (h:0 < m):0≤a.fmod m∧a.fmod m < m:=⟨Int.fmod_nonneg_of_pos a h,Int.fmod_lt_of_pos a h⟩
theorem gB (a b:Rat):PyData.eqv (.tuple [.int a.num,.int a.den]) (.tuple [.int b.num,.int b.den])=decide (a=b):=by
 simp only [PyData.eqv,PyData.eqvAll,Bool.and_true]
 by_cases h:a=b
 ·subst h;simp
 ·rw [decide_eq_false h]
  cases e:(a.num == b.num && (a.den:Int) == (b.den:Int)) with
  | false=>rfl
  | true=>
   simp only [iN,beq_iff_eq] at e
   exact absurd (Rat.ext e.1 (by omega)) h
theorem small {m:Int} (h:m.natAbs < 2 ^ 62):m.natAbs < 2 ^ 8000:=Nu.C4 h (by decide)
end
end TL
namespace TL
open PySem PySem.Spec L2
section
variable {K:jf} {G G1 G2:Sto} {D0 D1 D2 D3:Own} {te ta tb:TE} {R Ra Rb:Ty} {F0 F1:Hp} {E:Ends} {X:XK}
theorem cq {i j:Int} {n m:Nat} (ha:i.natAbs < 2 ^ n) (hb:j.natAbs < 2 ^ m) (hn:n≤8000) (hm:m≤8000):CMulW i j:=
 wmul 8001 8001 (Nu.C4 ha (by omega)) (Nu.C4 hb (by omega))
theorem Pa {a b:Rat} (ha:Nu.Bd 3000 a) (hb:Nu.Bd 3000 b):((a.den:Int)*(b.den:Int)).natAbs < 2 ^ 8000:=Nu.C4 (Nu.B5 (Nu.AU ha) (Nu.AU hb)) (by decide)
theorem Nw (a b:Rat):(a.den:Int)*(b.den:Int)≠0:=Int.mul_ne_zero (Nu.HF a) (Nu.HF b)
theorem SLe.keep {G G':Sto} {x:Option Ty} (h:SLe G G'):SLe (x::G) (x::G'):=by
 cases x with
 | none=>exact .drop h
 | some R=>exact .imp (fun _ _ h=>h) h
theorem bd_0:Nu.Bd 1 0:=⟨by decide,by decide⟩
end
end TL
namespace TL
open PySem PySem.Spec L2
theorem MI (σ:L2.St):∀ (vs:List Nat) (j:Nat),(wipe σ vs)[j]?=if j∈vs then (σ[j]?).map (fun _=>none) else σ[j]?
 | [],j=>by simp [wipe]
 | v::vs,j=>by
  have len:=wipe_length σ vs
  unfold wipe
  by_cases e:v=j
  ·subst e
   by_cases lt:v < (wipe σ vs).length
   ·rw [iQ lt]
    rw [len] at lt
    simp [lt]
   ·rw [List.getElem?_eq_none (by simpa using lt)]
    rw [len] at lt
    simp [List.getElem?_eq_none (Nat.le_of_not_lt lt)]
  ·rw [i9 e,MI σ vs j]
   have:(j∈v::vs)↔(j∈vs):=by
    simp only [hZ]
    constructor
    ·rintro (h | h)
     ·exact absurd h.symm e
     ·exact h
    ·exact .inr
   simp only [this]
theorem Xj {σ τ:L2.St} {vs:List Nat} (h:∀ j,j∉vs→σ[j]?=τ[j]?) (l:σ.length=τ.length):wipe σ vs=wipe τ vs:=by
 refine iZ fun j=>?_
 rw [MI,MI]
 by_cases m:j∈vs
 ·rw [if_pos m,if_pos m]
  by_cases lt:j < σ.length
  ·have lt2:j < τ.length:=by omega
   simp [lt,lt2]
  ·have lt2:¬ j < τ.length:=by omega
   simp [lt,lt2]
 ·rw [if_neg m,if_neg m]
  exact h j m
theorem YW (σ:L2.St) (vs:List Nat):wipe (wipe σ vs) vs=wipe σ vs:=Xj (fun j m=>by rw [MI,if_neg m]) (wipe_length σ vs)
theorem ZX {σ τ:L2.St} {vs:List Nat} {i:Nat} {x:Option V} (m:i∈vs) (h:wipe τ vs=wipe σ vs):wipe (τ.set i x) vs=wipe σ vs:=by
 rw [← h]
 refine Xj (fun j mj=>?_) (by simp)
 exact i9 (fun e=>mj (by rw [← e];exact m))
def Uo (G:Sto):List Nat→Sto
 | []=>G
 | v::vs=>(Uo G vs).set v none
theorem SS.wipe {F:Hp} {G:Sto} {σ:L2.St} (h:SS F G σ):∀ vs:List Nat,SS F (Uo G vs) (L2.wipe σ vs)
 | []=>h
 | v::vs=>(SS.wipe h vs).unset v
def EvW (g:TG) (vs:List Nat) (G:Sto) (R:Ty) (G1:Sto):Prop:=∀ (v:V) (σ τ:L2.St) (H F:Hp) (D:Own),HS D H F→SS F G τ→wipe τ vs=wipe σ vs→R.p v F→∀ Q:L2.St→Hp→Prop,(∀ σ',SS F G1 σ'→wipe σ' vs=wipe σ vs→Q σ' H)→g v τ H Q
section
variable {K:jf} {G G1 G2:Sto} {D0 D1 D2 D3:Own} {te ta tb:TE} {tt:TT} {R Ra Rb:Ty} {F0 F1:Hp} {E:Ends} {X:XK} {vs:List Nat}
theorem DG {i:Nat} (m:i∈vs):EvW (gName i) vs G R (G.set i (some R)):=fun v σ τ H F D hs ss w r Q q=>q _ (ss.set r i) (ZX m w)
theorem cM:EvT tYes G D0 true D0:=fun σ H F hs ss Q q=>q H F (Same.refl _) hs
end
end TL
namespace TL
open PySem PySem.Spec L2
theorem gD {k:Nat} {A:Around} (r:Room k A):A.units+65 < cLine:=by
 have:=r.un
 omega
end TL
namespace TL
open PySem PySem.Spec L2
def Ty.ex {α:Type} (f:α→Ty) (p:α→Prop):Ty:=⟨fun v F=>∃ a,p a∧(f a).p v F,fun s ⟨a,h1,h2⟩=>⟨a,h1,(f a).mono s h2⟩⟩
def OTy.ex {α:Type} (f:α→OTy) (p:α→Prop):OTy:=.fl (fun v F=>∃ a,p a∧(f a).p v F) (fun s ⟨a,h1,h2⟩=>⟨a,h1,(f a).mono s h2⟩)
def getM (m:List (Str×PyData)) (k:Str):Option PyData:=(m.find? fun e=>decide (e.1=k)).map (·.2)
def putM (m:List (Str×PyData)) (k:Str) (d:PyData):List (Str×PyData):=
 if (m.any fun e=>decide (e.1=k))=true then m.map (fun e=>if e.1=k then (e.1,d) else e) else m++[(k,d)]
inductive EntP (K:jf) (F:Hp):List (L2.Key×V)→List (Str×PyData)→Prop
 | nil:EntP K F [] []
 | cons {k:Str} {v:V} {d:PyData} {kvs:List (L2.Key×V)} {m:List (Str×PyData)}:Dp K F v d→EntP K F kvs m→EntP K F ((Sum.inr k,v)::kvs) ((k,d)::m)
theorem EntP.mono {K:jf} {F F':Hp} {kvs:List (L2.Key×V)} {m:List (Str×PyData)} (h:EntP K F kvs m) (s:Same F F'):EntP K F' kvs m:=by
 induction h with
 | nil=>exact .nil
 | cons h _ ih=>exact .cons (HK s _ _ h) ih
theorem EntP.len {K:jf} {F:Hp} {kvs:List (L2.Key×V)} {m:List (Str×PyData)} (h:EntP K F kvs m):kvs.length=m.length:=by
 induction h with
 | nil=>rfl
 | cons _ _ ih=>simp [ih]
theorem EntP.keys {K:jf} {F:Hp} {kvs:List (L2.Key×V)} {m:List (Str×PyData)} (h:EntP K F kvs m):kvs.map (·.1)=(m.map (·.1)).map Sum.inr:=by
 induction h with
 | nil=>rfl
 | cons _ _ ih=>simp [ih]
theorem EntP.get {K:jf} {F:Hp} {kvs:List (L2.Key×V)} {m:List (Str×PyData)} (h:EntP K F kvs m) (k:Str):(getM m k=none∧valV kvs (Sum.inr k)=none)∨∃ d v,getM m k=some d∧valV kvs (Sum.inr k)=some v∧Dp K F v d:=by
 induction h with
 | nil=>exact .inl ⟨rfl,rfl⟩
 | @cons k' v d kvs m hd _ ih=>
  by_cases e:k'=k
  ·subst e
   exact .inr ⟨d,v,by simp [getM],by simp [valV],hd⟩
  ·have e1:getM ((k',d)::m) k=getM m k:=by simp [getM,e]
   have e2:valV ((Sum.inr k',v)::kvs) (Sum.inr k:L2.Key)=valV kvs (Sum.inr k):=valV_neg (fun z=>e (Sum.inr.inj z))
   rw [e1,e2]
   exact ih
theorem EntP.any {K:jf} {F:Hp} {kvs:List (L2.Key×V)} {m:List (Str×PyData)} (h:EntP K F kvs m) (k:Str):(kvs.any fun e=>decide (e.1=(Sum.inr k:L2.Key)))=(m.any fun e=>decide (e.1=k)):=by
 induction h with
 | nil=>rfl
 | @cons k' v d kvs m _ _ ih=>
  rw [iu,iu,ih]
  congr 1
  by_cases e:k'=k
  ·subst e;simp
  ·simp [e]
theorem EntP.snoc {K:jf} {F:Hp} {kvs:List (L2.Key×V)} {m:List (Str×PyData)} (h:EntP K F kvs m) {k:Str} {v:V} {d:PyData} (hd:Dp K F v d):EntP K F (kvs++[(Sum.inr k,v)]) (m++[(k,d)]):=by
 induction h with
 | nil=>exact .cons hd .nil
 | cons h _ ih=>exact .cons h ih
theorem EntP.repl {K:jf} {F:Hp} {kvs:List (L2.Key×V)} {m:List (Str×PyData)} (h:EntP K F kvs m) {k:Str} {v:V} {d:PyData} (hd:Dp K F v d) :
    EntP K F (kvs.map fun e=>if e.1=(Sum.inr k:L2.Key) then (e.1,v) else e) (m.map fun e=>if e.1=k then (e.1,d) else e):=by
  induction h with
  | nil=>exact .nil
  | @cons k' v' d' kvs m h _ ih=>
    rw [hG,hG]
    by_cases e:k'=k
    · subst e
      rw [if_pos rfl,if_pos rfl]
      exact .cons hd ih
    · rw [if_neg (fun z=>e (Sum.inr.inj z)),if_neg e]
      exact .cons h ih
theorem EntP.put {K:jf} {F:Hp} {kvs:List (L2.Key×V)} {m:List (Str×PyData)} (h:EntP K F kvs m) {k:Str} {v:V} {d:PyData} (hd:Dp K F v d):EntP K F (putK kvs (Sum.inr k) v) (putM m k d):=by
 unfold putK putM
 rw [h.any k]
 split
 ·exact h.repl hd
 ·exact h.snoc hd
def OD (K:jf) (m:List (Str×PyData)):OTy:=.fl (fun o F=>∃ kvs,o=.dK kvs∧EntP K F kvs m) (fun s ⟨kvs,e,h⟩=>⟨kvs,e,h.mono s⟩)
section
variable {K:jf} {G G1 G2:Sto} {D0 D1 D2 D3:Own} {te ta tb tx:TE} {tt:TT} {R Ra Rb:Ty} {F0 F1:Hp} {E:Ends} {X:XK} {tl th:TO}
abbrev rJoin (K:jf):V→List V→Hp→VK→Prop:=fun x xs H Q=>∃ a p,∃ ys:List Str,x=.str a∧xs=[.ref p]∧(SqL K H p (ys.map V.str)∨SqT K H p (ys.map V.str)) ∧
      (ys.map (·.length)).sum+ys.length*a.length≤16777216∧Q (.str (Txt.join a ys)) H
theorem Xl {F:Hp}:∀ {ys:List Str} {xs:List V},DpAll K F xs (ys.map PyData.str)→xs=ys.map V.str
 | [],_,h=>by cases h;rfl
 | y::ys,_,h=>by
  cases h with
  | cons h1 h2=>
   rw [KF h1,Xl h2]
   rfl
abbrev eY:List V→Hp→VK→Prop:=fun xs H Q=>∃ (a:Addr) (kvs:List (L2.Key×V)) (ks:List Str),xs=[.ref a]∧Rd H a (.dK kvs)∧kvs.map (·.1)=ks.map Sum.inr∧ks.length < 64 ∧
    ∀ ys p,ys.Perm ks→PyProof.Rows.sortedS ys=true→H p=none→Q (.ref p) (upd H p (.lst (ys.map V.str)))
abbrev SV (K:jf):List V→Hp→VK→Prop:=fun xs H Q=>rSortedS K xs H Q∨eY xs H Q
theorem NH {X:Cx} (hcalm:X.calm=true):CallR X (.builtin "sorted") (SV X.K):=CallR.or cr_sortedS (call_sortedD hcalm)
theorem TY {F:Hp}:∀ ys:List Str,DpAll K F (ys.map V.str) (ys.map PyData.str)
 | []=>.nil
 | y::ys=>.cons (.str y) (TY ys)
abbrev gE (K:jf):List V→Hp→VK→Prop:=fun xs H Q=>∃ p ys,xs=[.ref p]∧(SqL K H p ys∨SqT K H p ys)∧∀ l,H l=none→Q (.ref l) (upd H l (.lst ys))
abbrev gF:List V→Hp→VK→Prop:=fun xs H Q=>∃ (a:Addr) (kvs:List (L2.Key×V)),xs=[.ref a]∧Rd H a (.dK kvs)∧∀ p,H p=none→Q (.ref p) (upd H p (.lst (kvs.map fun kv=>kV kv.1)))
abbrev cLst (K:jf):List V→Hp→VK→Prop:=fun xs H Q=>gE K xs H Q∨gF xs H Q
theorem YX {X:Cx} (hcalm:X.calm=true):CallR X (.type "list") (cLst X.K):=CallR.or call_list_of (call_listD hcalm)
end
end TL
namespace TL
open PySem PySem.Spec L2
mutual
def MJ (K:jf) (v:Value):PyData→Bool
 | .none=>(match v with
  | .none=>true
  | _=>false)
 | .bool b=>(match v with
  | .bool c=>b == c
  | _=>false)
 | .int i=>(match v with
  | .int j _=>decide (j=i)
  | _=>false)
 | .str x=>(match v with
  | .str y _=>decide (y=x)
  | _=>false)
 | .tuple ds=>(match v with
  | .ref a=>(match K.lookup a with
   | some o=>(match o.data with
    | .seq its _=>decide (o.cls=.type "tuple") && (decide (its.size≤sizeLine) && L3 K its.toList ds)
    | _=>false)
   | none=>false)
  | _=>false)
 | .list ds=>(match v with
  | .ref a=>(match K.lookup a with
   | some o=>(match o.data with
    | .seq its _=>decide (o.cls=.type "list") && (o.dict.isNone && (decide (its.size≤sizeLine) && L3 K its.toList ds))
    | _=>false)
   | none=>false)
  | _=>false)
 | .dict _=>false
def L3 (K:jf) (vs:List Value):List PyData→Bool
 | []=>vs.isEmpty
 | d::ds=>(match vs with
  | []=>false
  | v::vs=>MJ K v d && L3 K vs ds)
end
mutual
theorem ZY {K:jf}:∀ (d:PyData) (v:Value),MJ K v d=true→∃ x,RelV x v∧∀ F,Dp K F x d
 | .none,v,h=>by
  unfold MJ at h
  split at h
  ·exact ⟨.non,rfl,fun _=>.non⟩
  ·cases h
 | .bool b,v,h=>by
  unfold MJ at h
  split at h
  ·have e:=eq_of_beq h
   subst e
   exact ⟨.bl _,rfl,fun _=>.bl _⟩
  ·cases h
 | .int i,v,h=>by
  unfold MJ at h
  split at h
  ·have e:=of_decide_eq_true h
   subst e
   exact ⟨.int _,⟨_,rfl⟩,fun _=>.int _⟩
  ·cases h
 | .str x,v,h=>by
  unfold MJ at h
  split at h
  ·have e:=of_decide_eq_true h
   subst e
   exact ⟨.str _,⟨_,rfl⟩,fun _=>.str _⟩
  ·cases h
 | .tuple ds,v,h=>by
  unfold MJ at h
  split at h
  ·rename_i a
   split at h
   ·rename_i o ho
    split at h
    ·rename_i its n hd
     simp only [iN,decide_eq_true_eq] at h
     obtain ⟨h1,h2,h3⟩:=h
     obtain ⟨xs,hv,hx⟩:=LV ds its.toList h3
     exact ⟨.ref a,rfl,fun F=>.tup (.inr ⟨o,its,n,ho,h1,hd,h2,hv⟩) (hx F)⟩
    ·cases h
   ·cases h
  ·cases h
 | .list ds,v,h=>by
  unfold MJ at h
  split at h
  ·rename_i a
   split at h
   ·rename_i o ho
    split at h
    ·rename_i its n hd
     simp only [iN,decide_eq_true_eq,Option.isNone_iff_eq_none] at h
     obtain ⟨h1,h0,h2,h3⟩:=h
     obtain ⟨xs,hv,hx⟩:=LV ds its.toList h3
     exact ⟨.ref a,rfl,fun F=>.lst (.inr ⟨o,its,n,ho,h1,h0,hd,h2,hv⟩) (hx F)⟩
    ·cases h
   ·cases h
  ·cases h
 | .dict _,v,h=>by
  unfold MJ at h
  cases h
theorem LV {K:jf}:∀ (ds:List PyData) (vs:List Value),L3 K vs ds=true→∃ xs,Vals xs vs∧∀ F,DpAll K F xs ds
 | [],vs,h=>by
  unfold L3 at h
  cases vs with
  | nil=>exact ⟨[],.nil,fun _=>.nil⟩
  | cons=>cases h
 | d::ds,vs,h=>by
  unfold L3 at h
  cases vs with
  | nil=>cases h
  | cons v vs=>
   simp only [iN] at h
   obtain ⟨x,r,hx⟩:=ZY d v h.1
   obtain ⟨xs,rs,hxs⟩:=LV ds vs h.2
   exact ⟨x::xs,.cons r rs,fun F=>.cons (hx F) (hxs F)⟩
end
end TL
namespace TL
open PySem PySem.Spec L2
theorem WW:∀ a:List Nat,ltCps a a=false
 | []=>rfl
 | x::r=>by simp [ltCps,WW r]
theorem Xm:∀ {a b c:List Nat},ltCps a b=true→ltCps b c=true→ltCps a c=true
 | [],[],_,h,_=>by simp [ltCps] at h
 | [],_::_,[],_,h=>by simp [ltCps] at h
 | [],_::_,_::_,_,_=>rfl
 | _::_,[],_,h,_=>by simp [ltCps] at h
 | x::a,y::b,[],_,h=>by simp [ltCps] at h
 | x::a,y::b,z::c,h1,h2=>by
  simp only [ltCps,Bool.or_eq_true,decide_eq_true_eq,iN,beq_iff_eq] at h1 h2 ⊢
  rcases h1 with h1 | ⟨h1,h1'⟩
  ·rcases h2 with h2 | ⟨h2,h2'⟩
   ·exact .inl (by omega)
   ·exact .inl (by omega)
  ·rcases h2 with h2 | ⟨h2,h2'⟩
   ·exact .inl (by omega)
   ·exact .inr ⟨by omega,Xm h1' h2'⟩
theorem TZ:∀ {a b:List Nat},ltCps a b=false→ltCps b a=false→a=b
 | [],[],_,_=>rfl
 | [],_::_,h,_=>by simp [ltCps] at h
 | _::_,[],_,h=>by simp [ltCps] at h
 | x::a,y::b,h1,h2=>by
  simp only [ltCps,Bool.or_eq_false_iff,decide_eq_false_iff_not,Bool.and_eq_false_imp,beq_iff_eq] at h1 h2
  have e:x=y:=by omega
  subst e
  rw [TZ (h1.2 rfl) (h2.2 rfl)]
def ltS (a b:Str):Prop:=ltCps a.cps.toList b.cps.toList=true
theorem Xn {a b:Str} (h:a.cps.toList=b.cps.toList):a=b:=by
 obtain ⟨x⟩:=a
 obtain ⟨y⟩:=b
 congr
 exact Array.toList_inj.mp h
theorem cN (a:Str):¬ ltS a a:=fun h=>by
 unfold ltS at h
 rw [WW] at h
 cases h
theorem eZ {a b c:Str} (h:ltS a b) (k:ltS b c):ltS a c:=Xm h k
theorem cO {a b:Str} (h:¬ ltS a b) (n:a≠b):ltS b a:=by
 unfold ltS at h ⊢
 cases e:ltCps b.cps.toList a.cps.toList with
 | true=>rfl
 | false=>exact absurd (Xn (TZ (Bool.eq_false_iff.mpr h) e)) n
instance (a b:Str):Decidable (ltS a b):=inferInstanceAs (Decidable (_=true))
abbrev qT (r:Rat):PyData:=.tuple [.int r.num,.int r.den]
def tot:List (Str×Rat)→Str→Rat
 | [],_=>0
 | e::ps,k=>(if e.1=k then e.2 else 0)+tot ps k
theorem Xo (k:Str):∀ ps qs:List (Str×Rat),tot (ps++qs) k=tot ps k+tot qs k
 | [],qs=>by
  show tot qs k=0+tot qs k
  grind
 | e::ps,qs=>by
  show (if e.1=k then e.2 else 0)+tot (ps++qs) k=(if e.1=k then e.2 else 0)+tot ps k+tot qs k
  rw [Xo k ps qs]
  grind
structure TabOf (m:List (Str×PyData)) (ps:List (Str×Rat)):Prop where
 nd:(m.map (·.1)).Nodup
 mem:∀ k,k∈m.map (·.1)↔k∈ps.map (·.1)
 get:∀ k,k∈ps.map (·.1)→getM m k=some (qT (tot ps k))
 len:m.length≤ps.length
theorem ZZ {m:List (Str×PyData)} {k j:Str} {d:PyData}:getM (putM m k d) j=if j=k then some d else getM m j:=by
 unfold putM
 split
 ·rename_i a
  induction m with
  | nil=>cases a
  | cons e m ih=>
   rw [hG]
   by_cases h:e.1=k
   ·rw [if_pos h]
    by_cases q:j=k
    ·subst q
     simp [getM,h]
    ·have n:¬ e.1=j:=fun z=>q (z.symm.trans h)
     rw [if_neg q]
     have e1:getM ((e.1,d)::m.map fun e=>if e.1=k then (e.1,d) else e) j=getM (m.map fun e=>if e.1=k then (e.1,d) else e) j:=by simp [getM,n]
     have e2:getM (e::m) j=getM m j:=by simp [getM,n]
     rw [e1,e2]
     clear ih a
     induction m with
     | nil=>rfl
     | cons f m ih=>
      rw [hG]
      by_cases h2:f.1=k
      ·have n2:¬ f.1=j:=fun z=>q (z.symm.trans h2)
       rw [if_pos h2]
       have e3:getM ((f.1,d)::m.map fun e=>if e.1=k then (e.1,d) else e) j=getM (m.map fun e=>if e.1=k then (e.1,d) else e) j:=by simp [getM,n2]
       have e4:getM (f::m) j=getM m j:=by simp [getM,n2]
       rw [e3,e4]
       exact ih (by simp [getM,n]) (by simp [getM,n])
      ·rw [if_neg h2]
       by_cases h3:f.1=j
       ·simp [getM,h3]
       ·have e3:getM (f::m.map fun e=>if e.1=k then (e.1,d) else e) j=getM (m.map fun e=>if e.1=k then (e.1,d) else e) j:=by simp [getM,h3]
        have e4:getM (f::m) j=getM m j:=by simp [getM,h3]
        rw [e3,e4]
        exact ih (by simp [getM,n]) (by simp [getM,n])
   ·have a':(m.any fun e=>decide (e.1=k))=true:=by simpa [h] using a
    rw [if_neg h]
    have ih':=ih a'
    by_cases q:e.1=j
    ·have n:¬ j=k:=fun z=>h (q.trans z)
     rw [if_neg n]
     simp [getM,q]
    ·have e1:getM (e::m.map fun e=>if e.1=k then (e.1,d) else e) j=getM (m.map fun e=>if e.1=k then (e.1,d) else e) j:=by simp [getM,q]
     have e2:getM (e::m) j=getM m j:=by simp [getM,q]
     rw [e1,e2]
     exact ih'
 ·rename_i a
  have no:∀ e∈m,¬ e.1=k:=fun e he z=>a (j0.mpr ⟨e,he,decide_eq_true z⟩)
  unfold getM
  rw [ja]
  by_cases q:j=k
  ·subst q
   rw [if_pos rfl,jY.mpr fun e he z=>no e he (of_decide_eq_true z)]
   simp
  ·rw [if_neg q]
   have n:¬ k=j:=fun z=>q z.symm
   cases f:m.find? fun e=>decide (e.1=j) with
   | none=>simp [n]
   | some x=>simp
theorem Uq {m:List (Str×PyData)} {k:Str} {d:PyData}:(putM m k d).map (·.1)=if k∈m.map (·.1) then m.map (·.1) else m.map (·.1)++[k]:=by
 unfold putM
 have c:(m.any fun e=>decide (e.1=k))=decide (k∈m.map (·.1)):=by
  rw [Bool.eq_iff_iff,j0,decide_eq_true_eq,hA]
  constructor
  ·rintro ⟨e,h1,h2⟩
   exact ⟨e,h1,of_decide_eq_true h2⟩
  ·rintro ⟨e,h1,h2⟩
   exact ⟨e,h1,decide_eq_true h2⟩
 rw [c]
 by_cases h:k∈m.map (·.1)
 ·rw [if_pos (decide_eq_true h),if_pos h,iJ]
  refine jF fun e _=>?_
  show (if e.1=k then (e.1,d) else e).1=e.1
  split <;> rfl
 ·rw [if_neg (by simpa using h),if_neg h,i8]
  rfl
theorem TabOf.nil:TabOf [] []:=⟨.nil,fun _=>Iff.rfl,fun _ h=>absurd h jH,iA _⟩
theorem TabOf.put {m:List (Str×PyData)} {ps:List (Str×Rat)} (h:TabOf m ps) (k:Str) (r:Rat):TabOf (putM m k (qT (tot ps k+r))) (ps++[(k,r)]) where
 nd:=by
  rw [Uq]
  split
  ·exact h.nd
  ·rename_i n
   rw [iC]
   refine ⟨h.nd,by simp,fun a ha b hb e=>?_⟩
   rw [i6] at hb
   subst hb
   subst e
   exact n ha
 mem:=fun j=>by
  rw [Uq,i8,hY]
  by_cases q:k∈m.map (·.1)
  ·rw [if_pos q,h.mem j]
   constructor
   ·exact .inl
   ·rintro (z | z)
    ·exact z
    ·simp only [hG,List.map_nil,i6] at z
     subst z
     exact (h.mem _).mp q
  ·rw [if_neg q,hY,h.mem j]
   rfl
 get:=fun j hj=>by
  rw [ZZ,Xo]
  by_cases q:j=k
  ·subst q
   rw [if_pos rfl]
   have:tot ps j+tot [(j,r)] j=tot ps j+r:=by
    show tot ps j+((if j=j then r else 0)+0)=_
    rw [if_pos rfl]
    grind
   rw [this]
  ·rw [if_neg q]
   have z:tot [(k,r)] j=0:=by
    show (if k=j then r else 0)+0=0
    rw [if_neg (fun e=>q e.symm)]
    grind
   have z2:tot ps j+tot [(k,r)] j=tot ps j:=by rw [z];grind
   rw [z2]
   rw [i8,hY] at hj
   rcases hj with hj | hj
   ·exact h.get j hj
   ·simp only [hG,List.map_nil,i6] at hj
    exact absurd hj q
 len:=by
  have:(putM m k (qT (tot ps k+r))).length≤m.length+1:=by
   unfold putM
   split
   ·rw [gy];omega
   ·simp
  have:=h.len
  simp only [List.length_append,i7,List.length_nil]
  omega
structure Sh (z:Str):Prop where
 len:z.length≤20
 ok:∀ c∈z.cps.toList,c < 0x110000
theorem Ta (x y:Str):(x++y).cps.toList=x.cps.toList++y.cps.toList:=by
 show (x.cps++y.cps).toList=_
 rw [Array.toList_append]
theorem We.ok.up {w:We} {n m:Nat} (h:w.ok n) (l:n≤m):w.ok m:=by
 rcases h with h | ⟨h1,h2,h3,h4⟩
 ·exact .inl h
 ·exact .inr ⟨h1,h2,h3,by omega⟩
end TL
namespace TL
open PySem PySem.Spec L2
def sc (ps:List (Str×Rat)) (r:Rat):List (Str×Rat):=ps.map fun e=>(e.1,e.2*r)
end TL
namespace TL
open PySem PySem.Spec L2
def OZ (K:jf) (m:List (Str×PyData)) (od:Obj) (kvs:List (L2.Key×V)):OTy:=.fl (fun o F=>o=.frz od (.dK kvs)∧EntP K F kvs m) (fun s ⟨e,h⟩=>⟨e,h.mono s⟩)
section
variable {K:jf} {G G1 G2:Sto} {D0 D1 D2 D3:Own} {te ta tb tx:TE} {tt:TT} {R Ra Rb:Ty} {F0 F1:Hp} {E:Ends} {X:XK}
structure Opens (K:jf) (E' E:Ends) (a:Addr) (m:List (Str×PyData)) (od:Obj) (kvs:List (L2.Key×V)):Prop where
 nx:∀ {F:Hp} {G:Sto} {D:Own} {k:Nat},D[k]?=some (a,OZ K m od kvs)→Go E.nx F G (D.set k (a,OD K m))→Go E'.nx F G D
 rt:∀ {F:Hp} {R:Ty} {D:Own} {k:Nat},D[k]?=some (a,OZ K m od kvs)→GoV E.rt F R (D.set k (a,OD K m))→GoV E'.rt F R D
end
end TL
section
namespace TL
open PySem PySem.Spec L2
def dh (K:jf):R2:=fun x y H Q=>∃ l b xs zs,x=.ref l∧y=.ref b∧SqL K H l xs∧SqL K H b zs∧xs.length+zs.length≤sizeLine∧∀ p,H p=none→Q (.ref p) (upd H p (.lst (xs++zs)))
theorem cP {X:Cx}:OpR X (binaryOp .Add) (dh X.K):=by
 intro pins s σ H x y v u Q I rx ry h
 obtain ⟨l,b,xs,zs,rfl,rfl,hH,hB,hz,q⟩:=h
 cases rx
 cases ry
 obtain ⟨its,r,⟨⟨cls,dd,data,sl⟩,n,ho,hc,hdn,hdt⟩,hlen⟩:=I.list hH
 obtain ⟨its2,r2,⟨⟨cls2,dd2,data2,sl2⟩,n2,ho2,hc2,hdn2,hdt2⟩,hlen2⟩:=I.list hB
 simp only at hc hdt hc2 hdt2
 subst hc hdt hc2 hdt2
 have l1:=r.length
 have l2:=r2.length
 refine concat_meets ⟨_,ho,rfl⟩ ⟨_,ho2,rfl⟩ PySem.noFill_list_add PySem.seq_list_add PySem.F.slot_list_add PySem.F.entry_list_add (PySem.F.args_list_add_2 _ _) (PyProof.Rows.list_addW l b its.toArray its2.toArray n n2 dd dd2 sl sl2 (by simp;omega)) ⟨ho,ho2,?_⟩
 have ea:its.toArray++its2.toArray=(its++its2).toArray:=by simp
 rw [ea]
 exact ⟨.ref _,_,I.lnew (t':=s.toks) (r.append r2) (by rw [List.length_append];omega),rfl,q _ I.fresh⟩
def di (K:jf):R2:=fun x y H Q=>∃ a b xs ys,x=.ref a∧y=.ref b∧SqT K H a xs∧SqT K H b ys∧xs.length+ys.length≤sizeLine ∧
 (xs=[]→Q (.ref b) H)∧(ys=[]→xs≠[]→Q (.ref a) H)∧(ys≠[]→xs≠[]→∀ p o,H p=none→o.dict=none→Q (.ref p) (upd H p (.frz o (.tup (xs++ys)))))
theorem cQ {X:Cx}:OpR X (binaryOp .Add) (di X.K):=by
 intro pins s σ H x y v u Q I rx ry h
 obtain ⟨a,b,xs,ys,ex,ey,ha,hb,hz,q0,q1,q2⟩:=h
 by_cases hx:xs=[]
 ·subst hx
  exact Xg pins s σ H x y v u Q I rx ry ⟨a,b,ys,ex,ey,ha,hb,q0 rfl⟩
 ·subst ex ey
  cases rx
  cases ry
  obtain ⟨its,r1,p1,_⟩:=I.tuple ha
  obtain ⟨its2,r2,p2,_⟩:=I.tuple hb
  refine HT.cat_tup p1 p2 (fun z=>hx (r1.nil_iff.mp z)) (fun z=>⟨.ref a,H,I,rfl,q1 (r2.nil_iff.mp z) hx⟩) (fun z=>?_) (by rw [← r1.length,← r2.length];exact hz)
  refine ⟨.ref s.heap.objs.size,_,I.laid (t':=s.toks) (o:=.frz { cls:=.type "tuple",data:=.seq (its++its2).toArray } (.tup (xs++ys))) (fun b ob q=>Heap.get?_push_of_some _ q) (iA _) ?_,rfl,q2 (fun w=>z (r2.nil_iff.mpr w)) hx _ _ (I.hok.fresh (iA _)) rfl⟩
  exact ⟨Heap.get?_push_size _ rfl,by rw [List.length_append];exact hz,_,r1.append r2,PyProof.Rows.IsTup.new _ _⟩
def Cc (K:jf):R2:=fun x y H Q=>qAdd K x y H Q∨dh K x y H Q∨di K x y H Q
theorem BE {X:Cx}:OpR X (binaryOp .Add) (Cc X.K):=cH.or (cP.or cQ)
end TL
end
section
inductive Res (ε α:Type) where
  | ok (a:α)
  | err (n:PySem.Str) (e:ε)
  | stuck
namespace Res
variable {ε ε' α β γ σ ρ:Type}
def bind (m:Res ε α) (k:α→Res ε β):Res ε β:=match m with
 | .ok a=>k a
 | .err n e=>.err n e
 | .stuck=>.stuck
def sat (m:Res ε α) (o:α→Prop) (r:PySem.Str→ε→Prop):Prop:=match m with
 | .ok a=>o a
 | .err n e=>r n e
 | .stuck=>False
def mapE (g:ε→ε') (m:Res ε α):Res ε' α:=match m with
 | .ok a=>.ok a
 | .err n e=>.err n (g e)
 | .stuck=>.stuck
def calm (m:Res Unit α):Res ε' α:=match m with
 | .ok a=>.ok a
 | .err _ _=>.stuck
 | .stuck=>.stuck
open Classical in
noncomputable def grd (c:Prop) (x:α):Res ε α:=if c then .ok x else .stuck
def opt (o:Option α):Res ε α:=match o with
 | some a=>.ok a
 | none=>.stuck
def loop (body:α→σ→(σ→Res ε ρ)→Res ε ρ) (k:σ→Res ε ρ):List α→σ→Res ε ρ
 | [],s=>k s
 | x::xs,s=>body x s (loop body k xs)
def wloop (body:σ→(σ→Res ε ρ)→Res ε ρ):Nat→σ→Res ε ρ
 | 0,_=>.stuck
 | n+1,s=>body s (wloop body n)
@[simp] theorem A3 (a:α) (k:α→Res ε β):bind (.ok a) k=k a:=rfl
@[simp] theorem gG (n:PySem.Str) (e:ε) (k:α→Res ε β):bind (.err n e) k=.err n e:=rfl
@[simp] theorem eh (k:α→Res ε β):bind .stuck k=.stuck:=rfl
@[simp] theorem EB (g:ε→ε') (a:α):mapE g (.ok a)=.ok a:=rfl
@[simp] theorem gH (g:ε→ε') (n:PySem.Str) (e:ε):mapE g (.err n e:Res ε α)=.err n (g e):=rfl
@[simp] theorem HL (a:α):(calm (.ok a):Res ε' α)=.ok a:=rfl
theorem Az {c:Prop} {x:α} (h:c):(grd c x:Res ε α)=.ok x:=if_pos h
@[simp] theorem AS (a:α):(opt (some a):Res ε α)=.ok a:=rfl
theorem FE {x:Option α} {k:α→Res ε β} {o:β→Prop} {r:PySem.Str→ε→Prop} (h:(bind (opt x) k).sat o r):∃ a,x=some a∧(k a).sat o r:=by
 cases x with
 | some a=>exact ⟨a,rfl,h⟩
 | none=>exact (show False from h).elim
theorem Hn {m:Res ε α} {k:α→Res ε β} {o:β→Prop} {r:PySem.Str→ε→Prop}:(bind m k).sat o r↔m.sat (fun a=>(k a).sat o r) r:=by
 cases m <;> exact Iff.rfl
theorem Ho {m:Res ε α} {o o':α→Prop} {r r':PySem.Str→ε→Prop} (h:m.sat o r) (f:∀ a,o a→o' a) (g:∀ n e,r n e→r' n e):m.sat o' r':=by
 cases m with
 | ok a=>exact f a h
 | err n e=>exact g n e h
 | stuck=>exact h
theorem DE {c:Prop} {x:α} {k:α→Res ε β} {o:β→Prop} {r:PySem.Str→ε→Prop} (h:(bind (grd c x) k).sat o r):c∧(k x).sat o r:=by
 unfold grd at h
 split at h
 ·rename_i hc
  exact ⟨hc,h⟩
 ·exact (show False from h).elim
end Res
namespace TL
open PySem PySem.Spec L2
structure Wish (K:jf) (ε ρ:Type) where
 X:L2.St→XK
 De:ε→Own
 o:Hp→ρ→Prop
 r:Hp→Str→ε→Prop
 cond:Sto→Prop
 upo:∀ {F F':Hp} {a:ρ},Same F F'→o F a→o F' a
 upr:∀ {F F':Hp} {n:Str} {e:ε},Same F F'→r F n e→r F' n e
 err:∀ {F:Hp} {n:Str} {e:ε} {G:Sto},r F n e→cond G→Go (fun σ H=>X σ (.ref (He.ga K n)) none H) F G (De e)
def Wish.W {K:jf} {ε ρ:Type} (w:Wish K ε ρ) (F:Hp) (m:Res ε ρ):Prop:=m.sat (w.o F) (w.r F)
theorem Wish.up {K:jf} {ε ρ:Type} {w:Wish K ε ρ} {F F':Hp} {m:Res ε ρ} (h:w.W F m) (s:Same F F'):w.W F' m:=Res.Ho h (fun _=>w.upo s) (fun _ _=>w.upr s)
def EvC (K:jf) {ε α β S:Type} (X:L2.St→XK) (De:ε→Own) (te:TE) (G:Sto) (Dd:S→Own) (s:S) (M:(α→S→Res ε β)→Res ε β) (R:α→Ty):Prop:=
 ∀ (kk:α→S→Res ε β) (σ:L2.St) (H F:Hp),HS (Dd s) H F→SS F G σ→∀ (o:β→Prop) (r:Str→ε→Prop) (Q:VK),(M kk).sat o r →
  (∀ x s' v H' F',Same F F'→HS (Dd s') H' F'→(R x).p v F'→(kk x s').sat o r→Q v H')→(∀ n e,r n e→∀ H' F',Same F F'→HS (De e) H' F'→X σ (.ref (He.ga K n)) none H')→te σ H Q
def EvTC (K:jf) {ε β S:Type} (X:L2.St→XK) (De:ε→Own) (tt:TT) (G:Sto) (Dd:S→Own) (s:S) (M:(Bool→S→Res ε β)→Res ε β):Prop:=
 ∀ (kk:Bool→S→Res ε β) (σ:L2.St) (H F:Hp),HS (Dd s) H F→SS F G σ→∀ (o:β→Prop) (r:Str→ε→Prop) (Q:Bool→Hp→Prop),(M kk).sat o r →
  (∀ x s' H' F',Same F F'→HS (Dd s') H' F'→(kk x s').sat o r→Q x H')→(∀ n e,r n e→∀ H' F',Same F F'→HS (De e) H' F'→X σ (.ref (He.ga K n)) none H')→tt σ H Q
def EvNC (K:jf) {ε α β S:Type} (X:L2.St→XK) (De:ε→Own) (te:TE) (G:Sto) (Dd:S→Own) (s:S) (M:(α→S→Res ε β)→Res ε β) (O:α→OTy):Prop:=
 ∀ (kk:α→S→Res ε β) (σ:L2.St) (H F:Hp),HS (Dd s) H F→SS F G σ→∀ (o:β→Prop) (r:Str→ε→Prop) (Q:VK),(M kk).sat o r →
  (∀ x s' p H' F',Same F F'→HS ((p,O x)::Dd s') H' F'→(kk x s').sat o r→Q (.ref p) H')→(∀ n e,r n e→∀ H' F',Same F F'→HS (De e) H' F'→X σ (.ref (He.ga K n)) none H')→te σ H Q
def EvAC (K:jf) {ε τ β S:Type} (X:L2.St→XK) (De:ε→Own) (ta:TA) (G:Sto) (Dd:S→Own) (s:S) (M:(τ→S→Res ε β)→Res ε β) (Rs:τ→List Ty):Prop:=
 ∀ (kk:τ→S→Res ε β) (σ:L2.St) (H F:Hp),HS (Dd s) H F→SS F G σ→∀ (o:β→Prop) (r:Str→ε→Prop) (Q:List V→Hp→Prop),(M kk).sat o r →
  (∀ x s' vs H' F',Same F F'→HS (Dd s') H' F'→AllP F' (Rs x) vs→(kk x s').sat o r→Q vs H')→(∀ n e,r n e→∀ H' F',Same F F'→HS (De e) H' F'→X σ (.ref (He.ga K n)) none H')→ta σ H Q
section
variable {K:jf} {ε ε' ρ α β γ δ S τ:Type} {X:L2.St→XK} {De:ε→Own} {G G1 G2:Sto} {Dd:S→Own} {s:S} {te ta tb tc:TE} {tt tu:TT} {F0 F1:Hp} {E:Ends}
theorem NI {R:Ty} {x:α} {R':α→Ty} (h:Ev te G (Dd s) R (Dd s)) (e:R' x=R):EvC (β:=β) K X De te G Dd s (fun kk=>kk x s) R':=fun kk σ H F hs ss o r Q hm q _=>
 h σ H F hs ss Q fun v H' F' s' hs' r'=>q x s v H' F' s' hs' (by rw [e];exact r') hm
theorem cR {b:Bool} (h:EvT tt G (Dd s) b (Dd s)):EvTC (β:=β) K X De tt G Dd s (fun kk=>kk b s):=fun kk σ H F hs ss o r Q hm q _=>
 h σ H F hs ss Q fun H' F' s' hs'=>q b s H' F' s' hs' hm
theorem A1 {i:Nat} {R:α→Ty} (x:α) (h:G[i]?=some (some (R x))):EvC (β:=β) K X De (tVar i) G Dd s (fun kk=>kk x s) R:=NI (eH h) rfl
theorem A9 {i:Int}:EvC (β:=β) K X De (tC (.int i)) G Dd s (fun kk=>kk i s) (fun i=>DI K i):=NI WT rfl
theorem Hq {b:Bool}:EvC (β:=β) K X De (tC (.bl b)) G Dd s (fun kk=>kk b s) (fun b=>DB K b):=NI fu rfl
theorem cS:EvC (β:=β) K X De (tC .non) G Dd s (fun kk=>kk () s) (fun _=>DN K):=NI eK rfl
theorem evc2 {r:R2} {Ra:α→Ty} {Rb:β→Ty} {R:γ→Ty} {Ma:(α→S→Res ε δ)→Res ε δ} {Mb:S→(β→S→Res ε δ)→Res ε δ} {g:α→β→γ}
    (ha:EvC K X De ta G Dd s Ma Ra) (hb:∀ s1,EvC K X De tb G Dd s1 (Mb s1) Rb)
    (hr:∀ a b s2 x y H F,HS (Dd s2) H F→(Ra a).p x F→(Rb b).p y F→∀ Q:VK,(∀ v H' F',Same F F'→HS (Dd s2) H' F'→(R (g a b)).p v F'→Q v H')→r x y H Q) :
    EvC K X De (tOp r ta tb) G Dd s (fun kk=>Ma fun a s1=>Mb s1 fun b s2=>kk (g a b) s2) R:=fun kk σ H F hs ss o r' Q hm q qe=>
  ha _ σ H F hs ss o r' _ hm (fun a s1 x H1 F1 t1 hs1 r1 hm1=>hb s1 _ σ H1 F1 hs1 (ss.mono t1) o r' _ hm1
    (fun b s2 y H2 F2 t2 hs2 r2 hm2=>hr a b s2 x y H2 F2 hs2 ((Ra a).mono t2 r1) r2 Q fun v H3 F3 t3 hs3 r3=>q _ s2 v H3 F3 ((t1.trans t2).trans t3) hs3 r3 hm2)
    (fun n e h H2 F2 t2=>qe n e h H2 F2 (t1.trans t2))) (fun n e h H1 F1 t1=>qe n e h H1 F1 t1)
theorem SW {r:R2} {Ra:α→Ty} {Rb:β→Ty} {R:γ→Ty} {Ma:(α→S→Res ε δ)→Res ε δ} {Mb:S→(β→S→Res ε δ)→Res ε δ} {g:α→β→γ} {C:α→β→Prop}
    (ha:EvC K X De ta G Dd s Ma Ra) (hb:∀ s1,EvC K X De tb G Dd s1 (Mb s1) Rb)
    (hr:∀ a b s2 x y H F,C a b→HS (Dd s2) H F→(Ra a).p x F→(Rb b).p y F→∀ Q:VK,(∀ v H' F',Same F F'→HS (Dd s2) H' F'→(R (g a b)).p v F'→Q v H')→r x y H Q) :
    EvC K X De (tOp r ta tb) G Dd s (fun kk=>Ma fun a s1=>Mb s1 fun b s2=>Res.bind (Res.grd (C a b) (g a b)) fun z=>kk z s2) R:=fun kk σ H F hs ss o r' Q hm q qe=>
  ha _ σ H F hs ss o r' _ hm (fun a s1 x H1 F1 t1 hs1 r1 hm1=>hb s1 _ σ H1 F1 hs1 (ss.mono t1) o r' _ hm1
    (fun b s2 y H2 F2 t2 hs2 r2 hm2=>hr a b s2 x y H2 F2 (Res.DE hm2).1 hs2 ((Ra a).mono t2 r1) r2 Q fun v H3 F3 t3 hs3 r3=>q _ s2 v H3 F3 ((t1.trans t2).trans t3) hs3 r3 (Res.DE hm2).2)
    (fun n e h H2 F2 t2=>qe n e h H2 F2 (t1.trans t2))) (fun n e h H1 F1 t1=>qe n e h H1 F1 t1)
theorem dj {r:R2} {Ra:α→Ty} {Rb:β→Ty} {R:γ→Ty} {Ma:(α→S→Res ε δ)→Res ε δ} {Mb:S→(β→S→Res ε δ)→Res ε δ} {g:α→β→Option γ}
    (ha:EvC K X De ta G Dd s Ma Ra) (hb:∀ s1,EvC K X De tb G Dd s1 (Mb s1) Rb)
    (hr:∀ a b c s2 x y H F,g a b=some c→HS (Dd s2) H F→(Ra a).p x F→(Rb b).p y F→∀ Q:VK,(∀ v H' F',Same F F'→HS (Dd s2) H' F'→(R c).p v F'→Q v H')→r x y H Q) :
    EvC K X De (tOp r ta tb) G Dd s (fun kk=>Ma fun a s1=>Mb s1 fun b s2=>Res.bind (Res.opt (g a b)) fun z=>kk z s2) R:=fun kk σ H F hs ss o r' Q hm q qe=>
  ha _ σ H F hs ss o r' _ hm (fun a s1 x H1 F1 t1 hs1 r1 hm1=>hb s1 _ σ H1 F1 hs1 (ss.mono t1) o r' _ hm1
    (fun b s2 y H2 F2 t2 hs2 r2 hm2=>by
      obtain ⟨c,e,hm3⟩:=Res.FE hm2
      exact hr a b c s2 x y H2 F2 e hs2 ((Ra a).mono t2 r1) r2 Q fun v H3 F3 t3 hs3 r3=>q _ s2 v H3 F3 ((t1.trans t2).trans t3) hs3 r3 hm3)
    (fun n e h H2 F2 t2=>qe n e h H2 F2 (t1.trans t2))) (fun n e h H1 F1 t1=>qe n e h H1 F1 t1)
theorem evc1 {t:TE→TE} {Ra:α→Ty} {R:γ→Ty} {Ma:(α→S→Res ε δ)→Res ε δ} {g:α→γ} {r:V→Hp→VK→Prop}
    (ha:EvC K X De ta G Dd s Ma Ra)
    (hr:∀ a s2 x H F,HS (Dd s2) H F→(Ra a).p x F→∀ Q:VK,(∀ v H' F',Same F F'→HS (Dd s2) H' F'→(R (g a)).p v F'→Q v H')→r x H Q) :
    EvC K X De (tUn r ta) G Dd s (fun kk=>Ma fun a s1=>kk (g a) s1) R:=fun kk σ H F hs ss o r' Q hm q qe=>
  ha _ σ H F hs ss o r' _ hm (fun a s1 x H1 F1 t1 hs1 r1 hm1=>hr a s1 x H1 F1 hs1 r1 Q fun v H3 F3 t3 hs3 r3=>q _ s1 v H3 F3 (t1.trans t3) hs3 r3 hm1) (fun n e h H1 F1 t1=>qe n e h H1 F1 t1)
theorem Xp {R:α→Ty} {R':γ→Ty} {M:(α→S→Res ε β)→Res ε β} (f:α→γ) (h:EvC K X De te G Dd s M R) (e:∀ x v F,(R x).p v F→(R' (f x)).p v F):EvC K X De te G Dd s (fun kk=>M fun x s'=>kk (f x) s') R':=fun kk σ H F hs ss o r Q hm q qe=>
 h _ σ H F hs ss o r Q hm (fun x s' v H' F' t hs' r' hm'=>q _ s' v H' F' t hs' (e x v F' r') hm') qe
theorem A2:EvAC (β:=β) K X De tNil G Dd s (fun kk=>kk () s) (fun _=>[]):=fun kk σ H F hs ss o r Q hm q _=>q () s [] H F (Same.refl _) hs .nil hm
theorem A0 {tr:TA} {R:α→Ty} {Rs:τ→List Ty} {Ma:(α→S→Res ε β)→Res ε β} {Mr:S→(τ→S→Res ε β)→Res ε β}
    (h:EvC K X De te G Dd s Ma R) (hr:∀ s1,EvAC K X De tr G Dd s1 (Mr s1) Rs):EvAC K X De (tCons te tr) G Dd s (fun kk=>Ma fun a s1=>Mr s1 fun t s2=>kk (a,t) s2) (fun t=>R t.1::Rs t.2):=fun kk σ H F hs ss o r Q hm q qe=>
  h _ σ H F hs ss o r _ hm (fun a s1 v H1 F1 t1 hs1 r1 hm1=>hr s1 _ σ H1 F1 hs1 (ss.mono t1) o r _ hm1
    (fun t s2 vs H2 F2 t2 hs2 r2 hm2=>q (a,t) s2 _ H2 F2 (t1.trans t2) hs2 (.cons ((R a).mono t2 r1) r2) hm2) (fun n e h H2 F2 t2=>qe n e h H2 F2 (t1.trans t2))) (fun n e h H1 F1 t1=>qe n e h H1 F1 t1)
theorem NJ {r:List V→Hp→VK→Prop} {t:TA} {Rs:τ→List Ty} {R:γ→Ty} {M:(τ→S→Res ε β)→Res ε β} {g:τ→γ} (h:EvAC K X De t G Dd s M Rs)
    (hr:∀ a s2 vs H F,HS (Dd s2) H F→AllP F (Rs a) vs→∀ Q:VK,(∀ v H' F',Same F F'→HS (Dd s2) H' F'→(R (g a)).p v F'→Q v H')→r vs H Q):EvC K X De (tCB r t) G Dd s (fun kk=>M fun a s1=>kk (g a) s1) R:=fun kk σ H F hs ss o r' Q hm q qe=>
  h _ σ H F hs ss o r' _ hm (fun a s1 vs H1 F1 t1 hs1 r1 hm1=>hr a s1 vs H1 F1 hs1 r1 Q fun v H2 F2 t2 hs2 r2=>q _ s1 v H2 F2 (t1.trans t2) hs2 r2 hm1) qe
theorem AN {M:(Bool→S→Res ε β)→Res ε β} (h:EvC K X De te G Dd s M (fun b=>DB K b)):EvTC K X De (tTest te) G Dd s M:=fun kk σ H F hs ss o r Q hm q qe=>
 h kk σ H F hs ss o r _ hm (fun b s1 v H1 F1 t1 hs1 r1 hm1=>⟨b,PY r1,q b s1 H1 F1 t1 hs1 hm1⟩) qe
theorem FM {M:(Bool→S→Res ε β)→Res ε β} (h:EvC K X De te G Dd s M (fun b=>DB K b)):EvTC K X De (tB te) G Dd s M:=fun kk σ H F hs ss o r Q hm q qe=>
 h kk σ H F hs ss o r _ hm (fun b s1 v H1 F1 t1 hs1 r1 hm1=>⟨b,PY r1,q b s1 H1 F1 t1 hs1 hm1⟩) qe
theorem Gq {M:(Bool→S→Res ε β)→Res ε β} (h:EvTC K X De tt G Dd s M):EvTC K X De (tNot tt) G Dd s (fun kk=>M fun b s1=>kk (!b) s1):=fun kk σ H F hs ss o r Q hm q qe=>
 h _ σ H F hs ss o r _ hm (fun b s1 H1 F1 t1 hs1 hm1=>q _ s1 H1 F1 t1 hs1 hm1) qe
theorem Pb {b:S→Bool} {M:(Bool→S→Res ε β)→Res ε β} (h:EvTC K X De tt G Dd s M) (hb:∀ s1,EvTC (β:=β) K X De tu G Dd s1 (fun kk=>kk (b s1) s1)):EvTC K X De (tAnd tt tu) G Dd s (fun kk=>M fun a s1=>kk (a && b s1) s1):=fun kk σ H F hs ss o r Q hm q qe=>
 h _ σ H F hs ss o r _ hm (fun a s1 H1 F1 t1 hs1 hm1=>by
  cases a with
  | true=>exact hb s1 (fun b s=>kk (true && b) s) σ H1 F1 hs1 (ss.mono t1) o r _ hm1 (fun c s2 H2 F2 t2 hs2 hm2=>q c s2 H2 F2 (t1.trans t2) hs2 (by simpa using hm2)) (fun n e h H2 F2 t2=>qe n e h H2 F2 (t1.trans t2))
  | false=>exact q false s1 H1 F1 t1 hs1 hm1) qe
theorem MK {b:S→Bool} {M:(Bool→S→Res ε β)→Res ε β} (h:EvTC K X De tt G Dd s M) (hb:∀ s1,EvTC (β:=β) K X De tu G Dd s1 (fun kk=>kk (b s1) s1)):EvTC K X De (tOr tt tu) G Dd s (fun kk=>M fun a s1=>kk (a || b s1) s1):=fun kk σ H F hs ss o r Q hm q qe=>
 h _ σ H F hs ss o r _ hm (fun a s1 H1 F1 t1 hs1 hm1=>by
  cases a with
  | false=>exact hb s1 (fun b s=>kk (false || b) s) σ H1 F1 hs1 (ss.mono t1) o r _ hm1 (fun c s2 H2 F2 t2 hs2 hm2=>q c s2 H2 F2 (t1.trans t2) hs2 (by simpa using hm2)) (fun n e h H2 F2 t2=>qe n e h H2 F2 (t1.trans t2))
  | true=>exact q true s1 H1 F1 t1 hs1 hm1) qe
theorem Pc {M:(Bool→S→Res ε β)→Res ε β} {Mb:S→(Bool→S→Res ε (Bool×S))→Res ε (Bool×S)} (h:EvTC K X De tt G Dd s M) (hb:∀ s1,EvTC (β:=Bool×S) K X De tu G Dd s1 (Mb s1)) :
    EvTC K X De (tOr tt tu) G Dd s (fun kk=>M fun a s1=>Res.bind (if a=true then .ok (true,s1) else Mb s1 (fun b s=>.ok (b,s))) fun t=>kk t.1 t.2):=fun kk σ H F hs ss o r Q hm q qe=>
  h _ σ H F hs ss o r _ hm (fun a s1 H1 F1 t1 hs1 hm1=>by
    cases a with
    | false=>
      rw [if_neg (by decide),Res.Hn] at hm1
      exact hb s1 (fun b s=>.ok (b,s)) σ H1 F1 hs1 (ss.mono t1) (fun t=>(kk t.1 t.2).sat o r) r _ hm1 (fun c s2 H2 F2 t2 hs2 hm2=>q c s2 H2 F2 (t1.trans t2) hs2 hm2) (fun n e h H2 F2 t2=>qe n e h H2 F2 (t1.trans t2))
    | true=>exact q true s1 H1 F1 t1 hs1 hm1) qe
theorem Ur {M:(Bool→S→Res ε β)→Res ε β} (h:EvC K X De te G Dd s M (fun b=>DB K b)):EvC K X De (tNotV te) G Dd s (fun kk=>M fun b s1=>kk (!b) s1) (fun b=>DB K b):=fun kk σ H F hs ss o r Q hm q qe=>
 h _ σ H F hs ss o r _ hm (fun b s1 v H1 F1 t1 hs1 r1 hm1=>⟨b,PY r1,q _ s1 _ H1 F1 t1 hs1 (.bl _) hm1⟩) qe
theorem Us {b:S→Bool} {M:(Bool→S→Res ε β)→Res ε β} (h:EvC K X De ta G Dd s M (fun b=>DB K b)) (hb:∀ s1,EvC (β:=β) K X De tb G Dd s1 (fun kk=>kk (b s1) s1) (fun b=>DB K b)):EvC K X De (tAndV ta tb) G Dd s (fun kk=>M fun a s1=>kk (a && b s1) s1) (fun b=>DB K b):=fun kk σ H F hs ss o r Q hm q qe=>
 h _ σ H F hs ss o r _ hm (fun a s1 v H1 F1 t1 hs1 r1 hm1=>by
  refine ⟨a,PY r1,?_⟩
  cases a with
  | true=>exact hb s1 (fun b s=>kk (true && b) s) σ H1 F1 hs1 (ss.mono t1) o r _ hm1 (fun c s2 v2 H2 F2 t2 hs2 r2 hm2=>q c s2 v2 H2 F2 (t1.trans t2) hs2 r2 (by simpa using hm2)) (fun n e h H2 F2 t2=>qe n e h H2 F2 (t1.trans t2))
  | false=>exact q false s1 _ H1 F1 t1 hs1 (.bl _) hm1) qe
end
end TL
end
section
namespace TL
open PySem PySem.Spec L2
def OLT {α:Type} (R:α→Ty) (xs:List α):OTy:=.fl (fun o F=>∃ vs,o=.lst vs∧AllP F (xs.map R) vs) (fun s ⟨vs,e,h⟩=>⟨vs,e,h.mono s⟩)
def LT (K:jf) {α:Type} (R:α→Ty) (xs:List α):Ty:=⟨fun v F=>∃ a vs,v=.ref a∧SqL K F a vs∧AllP F (xs.map R) vs,fun s ⟨a,vs,e,h1,h2⟩=>⟨a,vs,e,s.seq h1,h2.mono s⟩⟩
def VT (K:jf) {α:Type} (R:α→Ty) (xs:List α):Ty:=⟨fun v F=>∃ a vs,v=.ref a∧SqT K F a vs∧AllP F (xs.map R) vs,fun s ⟨a,vs,e,h1,h2⟩=>⟨a,vs,e,KG s h1,h2.mono s⟩⟩
structure Tx where
 s:Str
 ok:PyData.canLay0 (.str s)=true
theorem Tx.ext' {a b:Tx} (h:a.s=b.s):a=b:=by cases a;cases b;cases h;rfl
instance:DecidableEq Tx:=fun a b=>if h:a.s=b.s then .isTrue (Tx.ext' h) else .isFalse fun e=>h (by rw [e])
abbrev eI:Int→PyData:=.int
abbrev eB:Bool→PyData:=.bool
abbrev eS (t:Tx):PyData:=.str t.s
abbrev eU (_:Unit):PyData:=.none
abbrev eQ (r:Rat):PyData:=.tuple [.int r.num,.int r.den]
abbrev eL {α:Type} (f:α→PyData) (xs:List α):PyData:=.list (xs.map f)
abbrev eV {α:Type} (f:α→PyData) (xs:List α):PyData:=.tuple (xs.map f)
abbrev e1 {α:Type} (f:α→PyData) (x:α):PyData:=.tuple [f x]
abbrev e2 {α β:Type} (f:α→PyData) (g:β→PyData) (x:α×β):PyData:=.tuple [f x.1,g x.2]
abbrev e3 {α β γ:Type} (f:α→PyData) (g:β→PyData) (h:γ→PyData) (x:α×β×γ):PyData:=.tuple [f x.1,g x.2.1,h x.2.2]
abbrev e4 {α β γ δ:Type} (f:α→PyData) (g:β→PyData) (h:γ→PyData) (i:δ→PyData) (x:α×β×γ×δ):PyData:=.tuple [f x.1,g x.2.1,h x.2.2.1,i x.2.2.2]
abbrev e5 {α β γ δ ζ:Type} (f:α→PyData) (g:β→PyData) (h:γ→PyData) (i:δ→PyData) (j:ζ→PyData) (x:α×β×γ×δ×ζ):PyData:=.tuple [f x.1,g x.2.1,h x.2.2.1,i x.2.2.2.1,j x.2.2.2.2]
abbrev tD (K:jf) {α:Type} (e:α→PyData) (x:α):Ty:=TL.D K (e x)
theorem Za {K:jf} {F:Hp} {α:Type} {e:α→PyData} {xs:List α} {vs:List V} (h:AllP F (xs.map (tD K e)) vs):DpAll K F vs (xs.map e):=by
 have z:xs.map (tD K e)=(xs.map e).map (TL.D K):=by rw [iJ];rfl
 rw [z] at h
 exact MF h
theorem Tb {K:jf} {F:Hp}:∀ {ds:List PyData} {vs:List V},DpAll K F vs ds→AllP F (ds.map (TL.D K)) vs
 | [],_,h=>by cases h;exact .nil
 | d::ds,_,h=>by
  cases h with
  | cons h1 h2=>exact .cons h1 (Tb h2)
theorem Ut {K:jf} {F:Hp} {α:Type} {e:α→PyData} {xs:List α} {vs:List V} (h:DpAll K F vs (xs.map e)):AllP F (xs.map (tD K e)) vs:=by
 have z:xs.map (tD K e)=(xs.map e).map (TL.D K):=by rw [iJ];rfl
 rw [z]
 exact Tb h
section
variable {K:jf} {ε ε' ρ α β γ δ S τ σt ω:Type} {X:L2.St→XK} {De:ε→Own} {G G1 G2:Sto} {D0:Own} {Dd:S→Own} {s:S} {te ta tb tc:TE} {tt tu:TT} {F0 F1:Hp} {E:Ends} {w:Wish K ε ρ}
structure Bor {Ω:Type} (Dp:Ω→Own) (k:Nat) (a:Addr) (O:ω→OTy) (gt:Ω→ω) (st:Ω→ω→Ω):Prop where
 at_:∀ w,(Dp w)[k]?=some (a,O (gt w))
 set_:∀ w v,(Dp w).set k (a,O v)=Dp (st w v)
abbrev Bor1 (Dp:ω→Own) (k:Nat) (a:Addr) (O:ω→OTy):Prop:=Bor Dp k a O id (fun _ v=>v)
theorem Bor.here {D:Own} {a:Addr} {O:ω→OTy}:Bor1 (fun w=>(a,O w)::D) 0 a O:=⟨fun _=>rfl,fun _ _=>rfl⟩
theorem Bor.cons {Dp:ω→Own} {k:Nat} {a:Addr} {O:ω→OTy} {c:Addr×OTy} (B:Bor1 Dp k a O):Bor1 (fun w=>c::Dp w) (k+1) a O:=
 ⟨fun w=>by rw [ig];exact B.at_ w,fun w v=>by rw [List.set_cons_succ,B.set_ w v]⟩
theorem Bor.get1 {Dp:ω→Own} {k:Nat} {a:Addr} {O:ω→OTy} (B:Bor1 Dp k a O) (w:ω):(Dp w)[k]?=some (a,O w):=B.at_ w
def dwish (K:jf) (Xk:XK) (Q:VK) (out:ρ→Out) (Dr:ρ→Own) (De:ε→Own):Wish K ε ρ where
 X:=fun _=>Xk
 De:=De
 o:=fun F r=>Post (out r) Q Xk F (Dr r)
 r:=fun F n e=>GoX Xk F (.ref (He.ga K n)) (De e)
 cond:=fun _=>True
 upo:=fun s h=>h.up s
 upr:=fun s h=>GoX.up h s
 err:=fun h _ σ H F s hs _=>h H F s hs
theorem GoN.drop {P:VK} {O:OTy} {D1 D0:Own} {F0:Hp} (h:GoN P F0 O D1) (s:D1.Sublist D0):GoN P F0 O D0:=fun p H F s1 hs=>h p H F s1 (hs.drop (s.cons₂ _))
theorem ML {i:Nat} {g:TG} {M:(α→Unit→Res ε ρ)→Res ε ρ} {R:α→Ty} {Gx:α→Sto} {kk:α→Res ε ρ} (h:EvC K w.X w.De te G (fun _:Unit=>D0) () M R) (hg:∀ x,EvG g G (R x) (Gx x))
    {m:Res ε ρ} (hP:w.W F0 m) (q:∀ x,w.W F0 (kk x)→Go E.nx F0 (Gx x) D0) (c:w.cond G:=by first | exact trivial | walk_at "cond") (hm:m=(M fun v _=>Res.bind (.ok v) kk):=by exact rfl):Go (tAsg te g E) F0 G D0:=by subst hm;exact (fun σ H F t hs ss=>
  h _ σ H F hs ss _ _ _ hP (fun x _ v H1 F1 t1 hs1 r1 hm=>hg x v σ H1 F1 D0 hs1 (ss.mono t1) r1 _ fun σ' ss'=>q x hm σ' H1 F1 (t.trans t1) hs1 ss') (fun n e hr H1 F1 t1 hs1=>w.err hr c σ H1 F1 (t.trans t1) hs1 (ss.mono t1)))
theorem Ao {i:Nat} {M:(α→Unit→Res ε ρ)→Res ε ρ} {R:α→Ty} {kk:α→Res ε ρ} (h:EvC K w.X w.De te G (fun _:Unit=>D0) () M R)
    {m:Res ε ρ} (hP:w.W F0 m) (q:∀ x,w.W F0 (kk x)→Go E.nx F0 (G.set i (some (R x))) D0) (c:w.cond G:=by first | exact trivial | walk_at "cond") (hm:m=(M fun v _=>Res.bind (.ok v) kk):=by exact rfl):Go (tAsg te (gName i) E) F0 G D0:=ML (i:=i) h (fun _=>AE) hP q c hm
theorem Uu {g:TG} {M:(α→S→Res ε ρ)→Res ε ρ} {R:α→Ty} {Gx:α→Sto} {kk:α×S→Res ε ρ} (h:EvC K w.X w.De te G Dd s M R) (hg:∀ x,EvG g G (R x) (Gx x))
    {m:Res ε ρ} (hP:w.W F0 m) (q:∀ x,w.W F0 (kk x)→Go E.nx F0 (Gx x.1) (Dd x.2)) (c:w.cond G:=by first | exact trivial | walk_at "cond") (hm:m=(M fun v s'=>Res.bind (.ok (v,s')) kk):=by exact rfl):Go (tAsg te g E) F0 G (Dd s):=by subst hm;exact (fun σ H F t hs ss=>
  h _ σ H F hs ss _ _ _ hP (fun x s' v H1 F1 t1 hs1 r1 hm=>hg x v σ H1 F1 _ hs1 (ss.mono t1) r1 _ fun σ' ss'=>q (x,s') hm σ' H1 F1 (t.trans t1) hs1 ss') (fun n e hr H1 F1 t1 hs1=>w.err hr c σ H1 F1 (t.trans t1) hs1 (ss.mono t1)))
theorem BD {i:Nat} {M:(α→S→Res ε ρ)→Res ε ρ} {R:α→Ty} {kk:α×S→Res ε ρ} (h:EvC K w.X w.De te G Dd s M R)
    {m:Res ε ρ} (hP:w.W F0 m) (q:∀ x,w.W F0 (kk x)→Go E.nx F0 (G.set i (some (R x.1))) (Dd x.2)) (c:w.cond G:=by first | exact trivial | walk_at "cond") (hm:m=(M fun v s'=>Res.bind (.ok (v,s')) kk):=by exact rfl):Go (tAsg te (gName i) E) F0 G (Dd s):=Uu h (fun _=>AE) hP q c hm
theorem Br {i:Nat} {M:(α→Unit→Res ε ρ)→Res ε ρ} {O:α→OTy} {kk:α→Res ε ρ} (h:EvNC K w.X w.De te G (fun _:Unit=>D0) () M O)
    {m:Res ε ρ} (hP:w.W F0 m) (q:∀ x p,w.W F0 (kk x)→Go E.nx F0 (G.set i (some (Is (.ref p)))) ((p,O x)::D0)) (c:w.cond G:=by first | exact trivial | walk_at "cond") (hm:m=(M fun v _=>Res.bind (.ok v) kk):=by exact rfl):Go (tAsg te (gName i) E) F0 G D0:=by subst hm;exact (fun σ H F t hs ss=>
  h _ σ H F hs ss _ _ _ hP (fun x _ p H1 F1 t1 hs1 hm=>q x p hm _ H1 F1 (t.trans t1) hs1 ((ss.mono t1).set (R:=Is (.ref p)) rfl i)) (fun n e hr H1 F1 t1 hs1=>w.err hr c σ H1 F1 (t.trans t1) hs1 (ss.mono t1)))
theorem YY {i:Nat} {M:(α→S→Res ε ρ)→Res ε ρ} {O:α→OTy} {kk:α×S→Res ε ρ} (h:EvNC K w.X w.De te G Dd s M O)
    {m:Res ε ρ} (hP:w.W F0 m) (q:∀ x p,w.W F0 (kk x)→Go E.nx F0 (G.set i (some (Is (.ref p)))) ((p,O x.1)::Dd x.2)) (c:w.cond G:=by first | exact trivial | walk_at "cond") (hm:m=(M fun v s'=>Res.bind (.ok (v,s')) kk):=by exact rfl):Go (tAsg te (gName i) E) F0 G (Dd s):=by subst hm;exact (fun σ H F t hs ss=>
  h _ σ H F hs ss _ _ _ hP (fun x s' p H1 F1 t1 hs1 hm=>q (x,s') p hm _ H1 F1 (t.trans t1) hs1 ((ss.mono t1).set (R:=Is (.ref p)) rfl i)) (fun n e hr H1 F1 t1 hs1=>w.err hr c σ H1 F1 (t.trans t1) hs1 (ss.mono t1)))
theorem Zb {M:(α→Unit→Res ε ρ)→Res ε ρ} {R:α→Ty} {kk:α→Res ε ρ} (h:EvC K w.X w.De te G (fun _:Unit=>D0) () M R)
    {m:Res ε ρ} (hP:w.W F0 m) (q:∀ x,w.W F0 (kk x)→Go E.nx F0 G D0) (c:w.cond G:=by first | exact trivial | walk_at "cond") (hm:m=(M fun v _=>Res.bind (.ok v) kk):=by exact rfl):Go (tDrop te E) F0 G D0:=by subst hm;exact (fun σ H F t hs ss=>
  h _ σ H F hs ss _ _ _ hP (fun x _ v H1 F1 t1 hs1 r1 hm=>q x hm σ H1 F1 (t.trans t1) hs1 (ss.mono t1)) (fun n e hr H1 F1 t1 hs1=>w.err hr c σ H1 F1 (t.trans t1) hs1 (ss.mono t1)))
theorem AH {M:(α→S→Res ε ρ)→Res ε ρ} {R:α→Ty} (f:α→S→ρ) (h:EvC K w.X w.De te G Dd s M R)
    {m:Res ε ρ} (hP:w.W F0 m) (hr:∀ F v s',w.o F (f v s')→GoV E.rt F (R v) (Dd s')) (c:w.cond G:=by first | exact trivial | walk_at "cond") (hm:m=(M fun v s'=>.ok (f v s')):=by exact rfl):Go (tRet te E) F0 G (Dd s):=by subst hm;exact (fun σ H F t hs ss=>
  h _ σ H F hs ss _ _ _ hP (fun x s' v H1 F1 t1 hs1 r1 hm=>hr F0 x s' hm v H1 F1 (t.trans t1) hs1 r1) (fun n e hr H1 F1 t1 hs1=>w.err hr c σ H1 F1 (t.trans t1) hs1 (ss.mono t1)))
theorem Uv {M:(α→S→Res ε ρ)→Res ε ρ} {O:α→OTy} (f:α→S→ρ) (h:EvNC K w.X w.De te G Dd s M O)
    {m:Res ε ρ} (hP:w.W F0 m) (hr:∀ F v s',w.o F (f v s')→GoN E.rt F (O v) (Dd s')) (c:w.cond G:=by first | exact trivial | walk_at "cond") (hm:m=(M fun v s'=>.ok (f v s')):=by exact rfl):Go (tRet te E) F0 G (Dd s):=by subst hm;exact (fun σ H F t hs ss=>
  h _ σ H F hs ss _ _ _ hP (fun x s' p H1 F1 t1 hs1 hm=>hr F0 x s' hm p H1 F1 (t.trans t1) hs1) (fun n e hr H1 F1 t1 hs1=>w.err hr c σ H1 F1 (t.trans t1) hs1 (ss.mono t1)))
theorem Bp {t u:TS} {M:(Bool→Unit→Res ε ρ)→Res ε ρ} {mA mB:Res ε ρ} (h:EvTC K w.X w.De tt G (fun _:Unit=>D0) () M) {m:Res ε ρ} (hP:w.W F0 m)
    (h1:w.W F0 mA→Go (t E) F0 G D0) (h2:w.W F0 mB→Go (u E) F0 G D0) (c:w.cond G:=by first | exact trivial | walk_at "cond") (hm:m=(M fun b _=>if b=true then mA else mB):=by exact rfl):Go (tIfS tt t u E) F0 G D0:=by subst hm;exact (fun σ H F t hs ss=>
  h _ σ H F hs ss _ _ _ hP (fun b _ H1 F1 t1 hs1 hm=>by
    cases b with
    | true=>exact h1 hm σ H1 F1 (t.trans t1) hs1 (ss.mono t1)
    | false=>exact h2 hm σ H1 F1 (t.trans t1) hs1 (ss.mono t1)) (fun n e hr H1 F1 t1 hs1=>w.err hr c σ H1 F1 (t.trans t1) hs1 (ss.mono t1)))
theorem Xq {t u:TS} {M:(Bool→S→Res ε ρ)→Res ε ρ} {mA mB:S→Res ε ρ} (h:EvTC K w.X w.De tt G Dd s M) {m:Res ε ρ} (hP:w.W F0 m)
    (h1:∀ s',w.W F0 (mA s')→Go (t E) F0 G (Dd s')) (h2:∀ s',w.W F0 (mB s')→Go (u E) F0 G (Dd s')) (c:w.cond G:=by first | exact trivial | walk_at "cond") (hm:m=(M fun b s'=>Res.bind (.ok s') fun s'=>if b=true then mA s' else mB s'):=by exact rfl):Go (tIfS tt t u E) F0 G (Dd s):=by subst hm;exact (fun σ H F t hs ss=>
  h _ σ H F hs ss _ _ _ hP (fun b s' H1 F1 t1 hs1 hm=>by
    cases b with
    | true=>exact h1 s' hm σ H1 F1 (t.trans t1) hs1 (ss.mono t1)
    | false=>exact h2 s' hm σ H1 F1 (t.trans t1) hs1 (ss.mono t1)) (fun n e hr H1 F1 t1 hs1=>w.err hr c σ H1 F1 (t.trans t1) hs1 (ss.mono t1)))
theorem SX {Xk:XK} {n:Str} {e:ε} (hx:w.X=fun _=>Xk) (hP:w.W F0 (.err n e)) (hd:(w.De e).Sublist D0) (c:w.cond G:=by first | exact trivial | walk_at "cond"):Go (P8 (He.ga K n) Xk E) F0 G D0:=fun σ H F t hs ss=>by
 have z:=w.err hP c σ H F t (hs.drop hd) ss
 rw [hx] at z
 exact z
theorem Xr {i j:Nat} {t:TA} {Ra:α→Ty} {Rb:β→Ty} {M:((α×β×Unit)→Unit→Res ε ρ)→Res ε ρ} {kk:α×β→Res ε ρ} (h:EvAC K w.X w.De t G (fun _:Unit=>D0) () M (fun t=>Ra t.1::Rb t.2.1::[]))
    {m:Res ε ρ} (hP:w.W F0 m) (q:∀ x,w.W F0 (kk x)→Go E.nx F0 ((G.set i (some (Ra x.1))).set j (some (Rb x.2))) D0) (c:w.cond G:=by first | exact trivial | walk_at "cond") (hm:m=(M fun v _=>Res.bind (.ok (v.1,v.2.1)) kk):=by exact rfl):Go (tPar i j t E) F0 G D0:=by subst hm;exact (fun σ H F t hs ss=>
  h _ σ H F hs ss _ _ _ hP (fun x _ vs H1 F1 t1 hs1 r1 hm=>by
    obtain ⟨v,w',rfl,r2,r3⟩:=ZN r1
    exact ⟨v,w',rfl,q (x.1,x.2.1) hm _ H1 F1 (t.trans t1) hs1 (((ss.mono t1).set r2 i).set r3 j)⟩) (fun n e hr H1 F1 t1 hs1=>w.err hr c σ H1 F1 (t.trans t1) hs1 (ss.mono t1)))
def Zd (J:It) (cnd:Own→Prop) (Rs:List Ty) (F0:Hp):Prop:=∀ (D:Own) (H F:Hp),cnd D→Same F0 F→HS D H F→∀ i:Nat,
 (∀ R,Rs[i]?=some R→J.go i H∧∀ x H',J.yld i H x H'→∃ F2,Same F F2∧HS D H' F2∧R.p x F2)∧(Rs.length≤i→J.stop i H)
def Ie (K:jf) {ε α β S:Type} (X:L2.St→XK) (De:ε→Own) (wi:TI) (G:Sto) (Dd:S→Own) (s:S) (cnd:Own→Prop) (M:(List α→S→Res ε β)→Res ε β) (R:α→Ty):Prop:=
 ∀ (kk:List α→S→Res ε β) (σ:L2.St) (H F:Hp),HS (Dd s) H F→SS F G σ→∀ (o:β→Prop) (r:Str→ε→Prop) (Q:It→Hp→Prop),(M kk).sat o r →
  (∀ xs s' J H' F',Same F F'→HS (Dd s') H' F'→Zd J cnd (xs.map R) F'→(kk xs s').sat o r→Q J H')→(∀ n e,r n e→∀ H' F',Same F F'→HS (De e) H' F'→X σ (.ref (He.ga K n)) none H')→wi σ H Q
theorem Ze {J:It} {ds:List PyData} {F:Hp} (h:ItOk K J ds F):Zd J (fun _=>True) (ds.map (TL.D K)) F:=fun D H F1 _ s hs i=>by
 obtain ⟨h1,h2⟩:=h D H F1 s hs i
 refine ⟨fun R e=>?_,fun l=>h2 (by simpa using l)⟩
 rw [iB] at e
 cases q:ds[i]? with
 | none=>rw [q] at e;cases e
 | some d=>
  rw [q] at e
  cases e
  exact h1 d q
theorem BA {wi:TI} {g:TG} {tb:TS} {cnd:Own→Prop} {R:α→Ty} {M:(List α→Unit→Res ε ρ)→Res ε ρ} {body:α→σt→(σt→Res ε ρ)→Res ε ρ} {k:σt→Res ε ρ}
    (hi:Ie K w.X w.De wi G (fun _:Unit=>D0) () cnd M R) (Gs:σt→Sto) (Ds:σt→Own) (s0:σt) (Gx:σt→α→Sto) {m:Res ε ρ} (hP:w.W F0 m)
    (w0:SLe G (Gs s0)) (d0:(Ds s0).Sublist D0) (cm:∀ s,cnd (Ds s)) (hg:∀ s x,EvG g (Gs s) (R x) (Gx s x))
    (done:∀ F1,Same F0 F1→∀ s,w.W F1 (k s)→Go E.nx F1 (Gs s) (Ds s))
    (step:(∀ F1,Same F0 F1→∀ s,w.W F1 (k s)→Go E.nx F1 (Gs s) (Ds s))→∀ F1,Same F0 F1→∀ x s nx (Nx:L2.St→Hp→Prop),(∀ F2,Same F1 F2→∀ s',w.W F2 (nx s')→Go Nx F2 (Gs s') (Ds s'))→w.W F1 (body x s nx)→Go (tb { E with nx:=Nx,ct:=Nx,bk:=E.nx }) F1 (Gx s x) (Ds s)) (c:w.cond G:=by first | exact trivial | walk_at "cond") (hm:m=(M fun xs _=>Res.loop body k xs s0):=by exact rfl) :
    Go (tFor wi g tb E) F0 G D0:=by subst hm;exact (fun σ H F t hs ss=>
  hi _ σ H F hs ss _ _ _ hP (fun xs _ J H1 F1 t1 hs1 ok hm=>by
    have hm1:w.W F1 (Res.loop body k xs s0):=Wish.up (w:=w) hm (t.trans t1)
    refine ⟨fun i m σ H=>m=xs.length - i∧i≤xs.length∧∃ F',Same F1 F'∧∃ x,w.W F' (Res.loop body k (xs.drop i) x)∧StP F' (Gs x) (Ds x) σ H,⟨xs.length,by simp,iT _,F1,Same.refl _,s0,hm1,F1,Same.refl _,hs1.drop d0,(ss.mono t1).weak w0⟩,?_⟩
    rintro i m σ2 H2 ⟨rfl,hle,F',t',x,hx,F2,t2,hs2,ss2⟩
    by_cases hlt:i < xs.length
    · obtain ⟨go,yl⟩:=(ok (Ds x) H2 F2 (cm x) (t'.trans t2) hs2 i).1 (R xs[i]) (by rw [iB,hJ hlt];rfl)
      rw [jB hlt] at hx
      refine .inr ⟨go,fun σ' H'=>∃ F3,Same F' F3∧∃ x',w.W F3 (Res.loop body k (xs.drop (i+1)) x')∧StP F3 (Gs x') (Ds x') σ' H',fun σ' H' ⟨F3,t3,p⟩=>⟨xs.length - (i+1),by omega,rfl,hlt,F3,t'.trans t3,p⟩,fun v H3 hy=>?_⟩
      obtain ⟨F3,t3,hs3,r3⟩:=yl v H3 hy
      exact hg x _ v σ2 H3 F3 (Ds x) hs3 (ss2.mono t3) r3 _ fun σ4 ss4=>step done F' ((t.trans t1).trans t') _ x _ _ (fun F5 t5 s' hs' σ5 H5 F6 t6 hs5 ss5=>⟨F5,t5,s',hs',F6,t6,hs5,ss5⟩) hx σ4 H3 F3 (t2.trans t3) hs3 ss4
    · have e:i=xs.length:=by omega
      subst e
      rw [List.drop_length] at hx
      exact .inl ⟨(ok (Ds x) H2 F2 (cm x) (t'.trans t2) hs2 _).2 (by simp),done F' ((t.trans t1).trans t') x hx σ2 H2 F2 t2 hs2 ss2⟩) (fun n e hr H1 F1 t1 hs1=>w.err hr c σ H1 F1 (t.trans t1) hs1 (ss.mono t1)))
theorem Pd {wi:TI} {g:TG} {tb:TS} {cnd:Own→Prop} {R:α→Ty} {M:(List α→S→Res ε ρ)→Res ε ρ} {body:α→σt→(σt→Res ε ρ)→Res ε ρ} {k:σt→Res ε ρ}
    (hi:Ie K w.X w.De wi G Dd s cnd M R) (Gs:σt→Sto) (Ds:σt→Own) (s0:S→σt) (Gx:σt→α→Sto) {m:Res ε ρ} (hP:w.W F0 m)
    (w0:∀ s',SLe G (Gs (s0 s'))) (d0:∀ s',(Ds (s0 s')).Sublist (Dd s')) (cm:∀ s,cnd (Ds s)) (hg:∀ s x,EvG g (Gs s) (R x) (Gx s x))
    (done:∀ F1,Same F0 F1→∀ s,w.W F1 (k s)→Go E.nx F1 (Gs s) (Ds s))
    (step:(∀ F1,Same F0 F1→∀ s,w.W F1 (k s)→Go E.nx F1 (Gs s) (Ds s))→∀ F1,Same F0 F1→∀ x s nx (Nx:L2.St→Hp→Prop),(∀ F2,Same F1 F2→∀ s',w.W F2 (nx s')→Go Nx F2 (Gs s') (Ds s'))→w.W F1 (body x s nx)→Go (tb { E with nx:=Nx,ct:=Nx,bk:=E.nx }) F1 (Gx s x) (Ds s)) (c:w.cond G:=by first | exact trivial | walk_at "cond") (hm:m=(M fun xs s'=>Res.loop body k xs (s0 s')):=by exact rfl) :
    Go (tFor wi g tb E) F0 G (Dd s):=by subst hm;exact (fun σ H F t hs ss=>
  hi _ σ H F hs ss _ _ _ hP (fun xs s' J H1 F1 t1 hs1 ok hm=>by
    have hm1:w.W F1 (Res.loop body k xs (s0 s')):=Wish.up (w:=w) hm (t.trans t1)
    refine ⟨fun i m σ H=>m=xs.length - i∧i≤xs.length∧∃ F',Same F1 F'∧∃ x,w.W F' (Res.loop body k (xs.drop i) x)∧StP F' (Gs x) (Ds x) σ H,⟨xs.length,by simp,iT _,F1,Same.refl _,s0 s',hm1,F1,Same.refl _,hs1.drop (d0 s'),(ss.mono t1).weak (w0 s')⟩,?_⟩
    rintro i m σ2 H2 ⟨rfl,hle,F',t',x,hx,F2,t2,hs2,ss2⟩
    by_cases hlt:i < xs.length
    · obtain ⟨go,yl⟩:=(ok (Ds x) H2 F2 (cm x) (t'.trans t2) hs2 i).1 (R xs[i]) (by rw [iB,hJ hlt];rfl)
      rw [jB hlt] at hx
      refine .inr ⟨go,fun σ' H'=>∃ F3,Same F' F3∧∃ x',w.W F3 (Res.loop body k (xs.drop (i+1)) x')∧StP F3 (Gs x') (Ds x') σ' H',fun σ' H' ⟨F3,t3,p⟩=>⟨xs.length - (i+1),by omega,rfl,hlt,F3,t'.trans t3,p⟩,fun v H3 hy=>?_⟩
      obtain ⟨F3,t3,hs3,r3⟩:=yl v H3 hy
      exact hg x _ v σ2 H3 F3 (Ds x) hs3 (ss2.mono t3) r3 _ fun σ4 ss4=>step done F' ((t.trans t1).trans t') _ x _ _ (fun F5 t5 s' hs' σ5 H5 F6 t6 hs5 ss5=>⟨F5,t5,s',hs',F6,t6,hs5,ss5⟩) hx σ4 H3 F3 (t2.trans t3) hs3 ss4
    · have e:i=xs.length:=by omega
      subst e
      rw [List.drop_length] at hx
      exact .inl ⟨(ok (Ds x) H2 F2 (cm x) (t'.trans t2) hs2 _).2 (by simp),done F' ((t.trans t1).trans t') x hx σ2 H2 F2 t2 hs2 ss2⟩) (fun n e hr H1 F1 t1 hs1=>w.err hr c σ H1 F1 (t.trans t1) hs1 (ss.mono t1)))
theorem L4 {tb:TS} {Mt:σt→(Bool→Unit→Res ε ρ)→Res ε ρ} {mb:σt→(σt→Res ε ρ)→Res ε ρ} {k:σt→Res ε ρ} (Gs:σt→Sto) (Ds:σt→Own) (s0:σt) (n:Nat)
    (hc:∀ s,EvTC K w.X w.De tt (Gs s) (fun _:Unit=>Ds s) () (Mt s)) {m:Res ε ρ} (hP:w.W F0 m)
    (w0:SLe G (Gs s0)) (d0:(Ds s0).Sublist D0)
    (done:∀ F1,Same F0 F1→∀ s,w.W F1 (k s)→Go E.nx F1 (Gs s) (Ds s))
    (step:(∀ F1,Same F0 F1→∀ s,w.W F1 (k s)→Go E.nx F1 (Gs s) (Ds s))→∀ F1,Same F0 F1→∀ s nx (Nx:L2.St→Hp→Prop),(∀ F2,Same F1 F2→∀ s',w.W F2 (nx s')→Go Nx F2 (Gs s') (Ds s'))→w.W F1 (mb s nx)→Go (tb { E with nx:=Nx,ct:=Nx,bk:=E.nx }) F1 (Gs s) (Ds s)) (c:∀ s,w.cond (Gs s):=by first | exact fun _=>trivial | (intro _;walk_at "cond")) (hm:m=(Res.wloop (fun s nx=>Mt s fun b _=>if b=true then mb s nx else k s) n s0):=by exact rfl) :
    Go (tWhile tt tb E) F0 G D0:=by subst hm;exact (fun σ H F t hs ss=>by
  refine ⟨fun m σ H=>∃ F1,Same F0 F1∧∃ x,w.W F1 (Res.wloop (fun s nx=>Mt s fun b _=>if b=true then mb s nx else k s) m x)∧StP F1 (Gs x) (Ds x) σ H,⟨n,F0,Same.refl _,s0,hP,F,t,hs.drop d0,ss.weak w0⟩,?_⟩
  rintro m σ2 H2 ⟨F1,t1,x,hx,F2,t2,hs2,ss2⟩
  cases m with
  | zero=>exact (show False from hx).elim
  | succ m=>
    refine hc x _ σ2 H2 F2 hs2 ss2 _ _ _ (show (Mt x fun b _=>if b=true then mb x (Res.wloop _ m) else k x).sat (w.o F1) (w.r F1) from hx) (fun b _ H3 F3 t3 hs3 hm=>?_) (fun n e hr H1 F4 t4 hs1=>w.err hr (c x) σ2 H1 F4 (t2.trans t4) hs1 (ss2.mono t4))
    cases b with
    | true=>
      refine ⟨fun σ' H'=>∃ F5,Same F1 F5∧∃ x',w.W F5 (Res.wloop (fun s nx=>Mt s fun b _=>if b=true then mb s nx else k s) m x')∧StP F5 (Gs x') (Ds x') σ' H',fun σ' H' ⟨F5,t5,x',h1,h2⟩=>⟨m,Nat.lt_succ_self m,F5,t1.trans t5,x',h1,h2⟩,?_⟩
      exact step done F1 t1 x _ _ (fun F5 t5 s' hs' σ5 H5 F6 t6 hs5 ss5=>⟨F5,t5,s',hs',F6,t6,hs5,ss5⟩) hm σ2 H3 F3 (t2.trans t3) hs3 (ss2.mono t3)
    | false=>exact done F1 t1 x hm σ2 H3 F3 (t2.trans t3) hs3 (ss2.mono t3))
theorem Ga {t:TS} (k:σt→Res ε ρ) (Gs:σt→Sto) (Ds:σt→Own) (hk:∀ F1,Same F0 F1→∀ s,w.W F1 (k s)→Go E.nx F1 (Gs s) (Ds s)) (h:(∀ F1,Same F0 F1→∀ s,w.W F1 (k s)→Go E.nx F1 (Gs s) (Ds s))→Go (t E) F0 G D0):Go (t E) F0 G D0:=h hk
end
end TL
end
section
namespace TL
open PySem PySem.Spec L2
structure Enc {α:Type} (e:α→PyData) (n:Nat):Prop where
 lay:∀ x,PyData.canLay0 (e x)=true
 dep:∀ x,(e x).depth≤n
 inj:∀ x y,PyData.eqv (e x) (e y)=true↔x=y
theorem Enc.shaped {α:Type} {e:α→PyData} {n:Nat} (h:Enc e n) (hn:n≤64) (x:α):SeqAt.shaped (e x)=true:=by
 unfold SeqAt.shaped
 rw [h.lay x,Bool.true_and]
 exact decide_eq_true (iH (h.dep x) hn)
theorem Enc.eq {α:Type} [DecidableEq α] {e:α→PyData} {n:Nat} (h:Enc e n) (x y:α):PyData.eqv (e x) (e y)=decide (x=y):=by
 by_cases q:x=y
 ·rw [decide_eq_true q,(h.inj x y).mpr q]
 ·rw [decide_eq_false q]
  cases z:PyData.eqv (e x) (e y) with
  | false=>rfl
  | true=>exact absurd ((h.inj x y).mp z) q
theorem KA:Enc eI 0:=⟨fun _=>rfl,fun _=>iA _,fun x y=>by
 show (x == y)=true↔_
 simp⟩
theorem eqvS (x y:Str):PyData.eqv (.str x) (.str y)=(x == y):=rfl
theorem Ep:Enc eS 0:=⟨fun x=>x.ok,fun _=>iA _,fun x y=>by
 rw [eqvS]
 simp only [beq_iff_eq]
 exact ⟨Tx.ext',fun h=>by rw [h]⟩⟩
theorem LN:Enc eQ 1:=⟨fun _=>rfl,fun _=>iA _,fun x y=>by
 show PyData.eqv (.tuple [.int x.num,.int x.den]) (.tuple [.int y.num,.int y.den])=true↔_
 rw [gB]
 simp⟩
theorem dep2 {a b:PyData} {n m:Nat} (h:a.depth≤n) (h':b.depth≤m):(PyData.tuple [a,b]).depth≤max n m+1:=by
 show max a.depth (max b.depth 0)+1≤_
 omega
theorem Ny {α β:Type} {f:α→PyData} {g:β→PyData} {n m:Nat} (hf:Enc f n) (hg:Enc g m):Enc (e2 f g) (max n m+1):=⟨fun x=>by
    show (PyData.canLay0 (f x.1) && (PyData.canLay0 (g x.2) && true))=true
    rw [hf.lay,hg.lay];rfl,fun x=>dep2 (hf.dep _) (hg.dep _),fun x y=>by
    show (PyData.eqv (f x.1) (f y.1) && (PyData.eqv (g x.2) (g y.2) && true))=true↔_
    simp only [iN,Bool.and_true,hf.inj,hg.inj]
    exact ⟨fun h=>Prod.ext h.1 h.2,fun h=>by rw [h];exact ⟨rfl,rfl⟩⟩⟩
theorem gI {α β γ:Type} {f:α→PyData} {g:β→PyData} {h:γ→PyData} {n m k:Nat} (hf:Enc f n) (hg:Enc g m) (hh:Enc h k):Enc (e3 f g h) (max n (max m k)+1):=⟨fun x=>by
    show (PyData.canLay0 (f x.1) && (PyData.canLay0 (g x.2.1) && (PyData.canLay0 (h x.2.2) && true)))=true
    rw [hf.lay,hg.lay,hh.lay];rfl,fun x=>by
    have h1:=hf.dep x.1
    have h2:=hg.dep x.2.1
    have h3:=hh.dep x.2.2
    show max (f x.1).depth (max (g x.2.1).depth (max (h x.2.2).depth 0))+1≤_
    omega,fun x y=>by
    show (PyData.eqv (f x.1) (f y.1) && (PyData.eqv (g x.2.1) (g y.2.1) && (PyData.eqv (h x.2.2) (h y.2.2) && true)))=true↔_
    simp only [iN,Bool.and_true,hf.inj,hg.inj,hh.inj]
    exact ⟨fun h=>Prod.ext h.1 (Prod.ext h.2.1 h.2.2),fun h=>by rw [h];exact ⟨rfl,rfl,rfl⟩⟩⟩
theorem LW {α:Type} {f:α→PyData} {n:Nat} (hf:Enc f n):∀ xs:List α,PyData.canLayAll0 (xs.map f)=true
 | []=>rfl
 | x::xs=>by
  show (PyData.canLay0 (f x) && PyData.canLayAll0 (xs.map f))=true
  rw [hf.lay,LW hf xs];rfl
theorem LX {α:Type} {f:α→PyData} {n:Nat} (hf:Enc f n):∀ xs:List α,PyData.depthAll (xs.map f)≤n
 | []=>iT _
 | x::xs=>by
  show max (f x).depth (PyData.depthAll (xs.map f))≤n
  have:=hf.dep x
  have:=LX hf xs
  omega
theorem LY {α:Type} {f:α→PyData} {n:Nat} (hf:Enc f n):∀ xs ys:List α,PyData.eqvAll (xs.map f) (ys.map f)=true↔xs=ys
 | [],[]=>by simp [PyData.eqvAll]
 | [],y::ys=>by simp [PyData.eqvAll]
 | x::xs,[]=>by simp [PyData.eqvAll]
 | x::xs,y::ys=>by
  show (PyData.eqv (f x) (f y) && PyData.eqvAll (xs.map f) (ys.map f))=true↔_
  simp only [iN,hf.inj,LY hf xs ys,List.cons.injEq]
theorem Xs {α:Type} {f:α→PyData} {n:Nat} (hf:Enc f n):Enc (eL f) (n+1):=⟨fun xs=>LW hf xs,fun xs=>by
 have:=LX hf xs
 show PyData.depthAll (xs.map f)+1≤_
 omega,fun xs ys=>LY hf xs ys⟩
theorem gJ {α:Type} {f:α→PyData} {n:Nat} (hf:Enc f n):Enc (eV f) (n+1):=⟨fun xs=>LW hf xs,fun xs=>by
 have:=LX hf xs
 show PyData.depthAll (xs.map f)+1≤_
 omega,fun xs ys=>LY hf xs ys⟩
theorem Uw {x y:Str} (hx:PyData.canLay0 (.str x)=true) (hy:PyData.canLay0 (.str y)=true):PyData.canLay0 (.str (x++y))=true:=by
 have hx':x.cps.all (fun c=>decide (c < 0x110000))=true:=hx
 have hy':y.cps.all (fun c=>decide (c < 0x110000))=true:=hy
 show (x++y).cps.all (fun c=>decide (c < 0x110000))=true
 rw [← Array.all_toList] at hx' hy' ⊢
 rw [Ta,List.all_append,hx',hy']
 rfl
def Tx.app (a b:Tx):Tx:=⟨a.s++b.s,Uw a.ok b.ok⟩
instance:Append Tx:=⟨Tx.app⟩
def Tx.len (a:Tx):Nat:=a.s.length
theorem JF {x:Str} (h:∀ c∈x.cps.toList,c < 0x110000):PyData.canLay0 (.str x)=true:=by
 show x.cps.all (fun c=>decide (c < 0x110000))=true
 rw [← Array.all_toList,iY]
 exact fun c hc=>decide_eq_true (h c hc)
theorem Tx.all (t:Tx):∀ c∈t.s.cps.toList,c < 0x110000:=fun c hc=>by
 have h:t.s.cps.all (fun c=>decide (c < 0x110000))=true:=t.ok
 rw [← Array.all_toList,iY] at h
 exact of_decide_eq_true (h c hc)
def Tx.sg (c:Nat) (h:c < 0x110000):Tx:=⟨⟨#[c]⟩,JF fun d hd=>by
 have:d=c:=by simpa using hd
 omega⟩
theorem cT {α:Type} {l:List α} {i:Int} {x:α} (h:atI l i=some x):x∈l:=by
 unfold atI at h
 cases q:ixN l.length i with
 | none=>rw [q] at h;cases h
 | some j=>
  rw [q] at h
  exact iM h
def Tx.at (t:Tx) (i:Int):Option Tx:=if t.s.length≤100000 then (match h:atI t.s.cps.toList i with
 | some c=>some (Tx.sg c (t.all c (cT h)))
 | none=>none) else none
theorem f6 (t:Tx) (lo hi:Option Int):PyData.canLay0 (.str (cutS t.s lo hi))=true:=JF fun c hc=>by
 have sub:∀ c∈(cutS t.s lo hi).cps.toList,c∈t.s.cps.toList:=by
  intro c hc
  unfold cutS at hc
  have hc2:=hc
  simp at hc2
  exact List.mem_of_mem_drop (List.mem_of_mem_take hc2)
 exact t.all c (sub c hc)
def Tx.cut (t:Tx) (lo hi:Option Int):Tx:=⟨cutS t.s lo hi,f6 t lo hi⟩
end TL
end
section
namespace TL
open PySem PySem.Spec L2
section
variable {K:jf} {ε ε' ρ α β γ δ S τ σt ω:Type} {X:L2.St→XK} {De:ε→Own} {G G1 G2:Sto} {D0:Own} {Dd:S→Own} {s:S} {te ta tb tc:TE} {tt tu:TT} {F0 F1:Hp} {E:Ends} {w:Wish K ε ρ}
 {Mi:(Int→S→Res ε δ)→Res ε δ} {Mj:S→(Int→S→Res ε δ)→Res ε δ}
theorem By (ha:EvC K X De ta G Dd s Mi (tD K eI)) (hb:∀ s1,EvC K X De tb G Dd s1 (Mj s1) (tD K eI)):EvC K X De (tOp (Cc K) ta tb) G Dd s (fun kk=>Mi fun a s1=>Mj s1 fun b s2=>kk (a+b) s2) (tD K eI):=
 evc2 ha hb fun a b s2 x y H F hs rx ry Q q=>by
  rw [Bo rx,Bo ry]
  exact .inl (.inl ⟨a,b,rfl,rfl,q _ H F (Same.refl _) hs (.int _)⟩)
theorem Fm (ha:EvC K X De ta G Dd s Mi (tD K eI)) (hb:∀ s1,EvC K X De tb G Dd s1 (Mj s1) (tD K eI)):EvC K X De (tOp K9 ta tb) G Dd s (fun kk=>Mi fun a s1=>Mj s1 fun b s2=>kk (a - b) s2) (tD K eI):=
 evc2 ha hb fun a b s2 x y H F hs rx ry Q q=>by
  rw [Bo rx,Bo ry]
  exact ⟨a,b,rfl,rfl,q _ H F (Same.refl _) hs (.int _)⟩
theorem BB (ha:EvC K X De ta G Dd s Mi (tD K eI)) (hb:∀ s1,EvC K X De tb G Dd s1 (Mj s1) (tD K eI)):EvC K X De (tOp (qMul K) ta tb) G Dd s (fun kk=>Mi fun a s1=>Mj s1 fun b s2=>Res.bind (Res.grd (CMulW a b) (a*b)) fun z=>kk z s2) (tD K eI):=
 SW ha hb fun a b s2 x y H F c hs rx ry Q q=>by
  rw [Bo rx,Bo ry]
  exact .inl ⟨a,b,rfl,rfl,c,q _ H F (Same.refl _) hs (.int _)⟩
theorem L5 (ha:EvC K X De ta G Dd s Mi (tD K eI)) (hb:∀ s1,EvC K X De tb G Dd s1 (Mj s1) (tD K eI)):EvC K X De (tOp Nt ta tb) G Dd s (fun kk=>Mi fun a s1=>Mj s1 fun b s2=>Res.bind (Res.grd (K8 a b) (a.fdiv b)) fun z=>kk z s2) (tD K eI):=
 SW ha hb fun a b s2 x y H F c hs rx ry Q q=>by
  rw [Bo rx,Bo ry]
  exact ⟨a,b,rfl,rfl,c,q _ H F (Same.refl _) hs (.int _)⟩
theorem JX (ha:EvC K X De ta G Dd s Mi (tD K eI)) (hb:∀ s1,EvC K X De tb G Dd s1 (Mj s1) (tD K eI)):EvC K X De (tOp Nv ta tb) G Dd s (fun kk=>Mi fun a s1=>Mj s1 fun b s2=>Res.bind (Res.grd (b≠0) (a.fmod b)) fun z=>kk z s2) (tD K eI):=
 SW ha hb fun a b s2 x y H F c hs rx ry Q q=>by
  rw [Bo rx,Bo ry]
  exact ⟨a,b,rfl,rfl,c,q _ H F (Same.refl _) hs (.int _)⟩
theorem PH (ha:EvC K X De ta G Dd s Mi (tD K eI)):EvC K X De (tUn SO ta) G Dd s (fun kk=>Mi fun a s1=>kk (-a) s1) (tD K eI):=
 evc1 (t:=id) ha fun a s2 x H F hs rx Q q=>by
  rw [Bo rx]
  exact ⟨a,rfl,q _ H F (Same.refl _) hs (.int _)⟩
theorem Ux {f:Int→Int→Bool} (ha:EvC K X De ta G Dd s Mi (tD K eI)) (hb:∀ s1,EvC K X De tb G Dd s1 (Mj s1) (tD K eI)):EvC K X De (tOp (rI0 fun i j=>.bl (f i j)) ta tb) G Dd s (fun kk=>Mi fun a s1=>Mj s1 fun b s2=>kk (f a b) s2) (tD K eB):=
 evc2 ha hb fun a b s2 x y H F hs rx ry Q q=>by
  rw [Bo rx,Bo ry]
  exact ⟨a,b,rfl,rfl,q _ H F (Same.refl _) hs (.bl _)⟩
theorem KJ (ha:EvC K X De ta G Dd s Mi (tD K eI)) (hb:∀ s1,EvC K X De tb G Dd s1 (Mj s1) (tD K eI)):EvC K X De (tOp rLtI ta tb) G Dd s (fun kk=>Mi fun a s1=>Mj s1 fun b s2=>kk (decide (a < b)) s2) (tD K eB):=Ux ha hb
theorem f7 (ha:EvC K X De ta G Dd s Mi (tD K eI)) (hb:∀ s1,EvC K X De tb G Dd s1 (Mj s1) (tD K eI)):EvC K X De (tOp rGeI ta tb) G Dd s (fun kk=>Mi fun a s1=>Mj s1 fun b s2=>kk (decide (b≤a)) s2) (tD K eB):=Ux (f:=fun i j=>decide (j≤i)) ha hb
section
variable [DecidableEq α] {e:α→PyData} {n:Nat} {Ma:(α→S→Res ε δ)→Res ε δ} {Mb:S→(α→S→Res ε δ)→Res ε δ}
theorem FN (he:Enc e n) (ha:EvC K X De ta G Dd s Ma (tD K e)) (hb:∀ s1,EvC K X De tb G Dd s1 (Mb s1) (tD K e)) (hn:n≤64:=by decide):EvC K X De (tOp (qEq K) ta tb) G Dd s (fun kk=>Ma fun a s1=>Mb s1 fun b s2=>kk (decide (a=b)) s2) (tD K eB):=
 evc2 ha hb fun a b s2 x y H F hs rx ry Q q=>by
  refine .inr ⟨e a,e b,LL hs rx,LL hs ry,he.shaped hn a,he.shaped hn b,?_⟩
  rw [he.eq]
  exact q _ H F (Same.refl _) hs (.bl _)
theorem JY (he:Enc e n) (ha:EvC K X De ta G Dd s Ma (tD K e)) (hb:∀ s1,EvC K X De tb G Dd s1 (Mb s1) (tD K e)) (hn:n≤64:=by decide):EvC K X De (tOp (qNe K) ta tb) G Dd s (fun kk=>Ma fun a s1=>Mb s1 fun b s2=>kk (!decide (a=b)) s2) (tD K eB):=
 evc2 ha hb fun a b s2 x y H F hs rx ry Q q=>by
  refine .inr ⟨e a,e b,LL hs rx,LL hs ry,he.shaped hn a,he.shaped hn b,?_⟩
  rw [he.eq]
  exact q _ H F (Same.refl _) hs (.bl _)
end
section
variable {Ma:(Tx→S→Res ε δ)→Res ε δ} {Mb:S→(Tx→S→Res ε δ)→Res ε δ}
theorem Pe (ha:EvC K X De ta G Dd s Ma (tD K eS)) (hb:∀ s1,EvC K X De tb G Dd s1 (Mb s1) (tD K eS)):EvC K X De (tOp (Cc K) ta tb) G Dd s (fun kk=>Ma fun a s1=>Mb s1 fun b s2=>Res.bind (Res.grd (a.len+b.len≤100000) (a++b)) fun z=>kk z s2) (tD K eS):=
 SW ha hb fun a b s2 x y H F c hs rx ry Q q=>by
  rw [KF rx,KF ry]
  exact .inl (.inr (.inl ⟨a.s,b.s,rfl,rfl,iH c Aq,q _ H F (Same.refl _) hs (.str _)⟩))
theorem Tx.at_some {t c:Tx} {i:Int} (h:t.at i=some c):t.s.length≤100000∧∃ d,atI t.s.cps.toList i=some d∧c.s=⟨#[d]⟩:=by
 unfold Tx.at at h
 split at h
 ·rename_i hl
  split at h
  ·rename_i d hd
   cases h
   exact ⟨hl,d,hd,rfl⟩
  ·cases h
 ·cases h
theorem Tc (ha:EvC K X De ta G Dd s Ma (tD K eS)) (hb:∀ s1,EvC K X De tb G Dd s1 (Mj s1) (tD K eI)):EvC K X De (tOp (rIx K) ta tb) G Dd s (fun kk=>Ma fun a s1=>Mj s1 fun b s2=>Res.bind (Res.opt (a.at b)) fun z=>kk z s2) (tD K eS):=
 dj ha hb fun a b c s2 x y H F e hs rx ry Q q=>by
  rw [KF rx,Bo ry]
  obtain ⟨h1,d,h2,h3⟩:=Tx.at_some e
  refine .inr (.inr ⟨a.s,b,d,rfl,rfl,iH h1 Aq,h2,q _ H F (Same.refl _) hs ?_⟩)
  show Dp K F _ (.str c.s)
  rw [h3]
  exact .str _
end
theorem DH {Ma:(Rat→S→Res ε δ)→Res ε δ} (ha:EvC K X De ta G Dd s Ma (tD K eQ)):EvC K X De (tOp (rIx K) ta (tC (.int 0))) G Dd s (fun kk=>Ma fun a s1=>kk a.num s1) (tD K eI):=fun kk σ H F hs ss o r Q hm q qe=>
 ha _ σ H F hs ss o r _ hm (fun a s1 v H1 F1 t1 hs1 r1 hm1=>by
  obtain ⟨p,xs,rfl,h1,h2⟩:=NC r1
  obtain ⟨u,e1,e2⟩:=Xf h2 (i:=0) (d:=.int a.num) rfl
  exact .inr (.inl ⟨p,xs,0,u,rfl,rfl,JV hs1 h1,e1,q _ s1 _ H1 F1 t1 hs1 e2 hm1⟩)) qe
theorem Cd {Ma:(Rat→S→Res ε δ)→Res ε δ} (ha:EvC K X De ta G Dd s Ma (tD K eQ)):EvC K X De (tOp (rIx K) ta (tC (.int 1))) G Dd s (fun kk=>Ma fun a s1=>kk (a.den:Int) s1) (tD K eI):=fun kk σ H F hs ss o r Q hm q qe=>
 ha _ σ H F hs ss o r _ hm (fun a s1 v H1 F1 t1 hs1 r1 hm1=>by
  obtain ⟨p,xs,rfl,h1,h2⟩:=NC r1
  obtain ⟨u,e1,e2⟩:=Xf h2 (i:=1) (d:=.int a.den) rfl
  exact .inr (.inl ⟨p,xs,1,u,rfl,rfl,JV hs1 h1,e1,q _ s1 _ H1 F1 t1 hs1 e2 hm1⟩)) qe
noncomputable def mkQ (a b:Int):Option Rat:=open Classical in if h:∃ r:Rat,r.num=a∧(r.den:Int)=b then some h.choose else none
theorem Zf {a b:Int} {r:Rat} (h:mkQ a b=some r):r.num=a∧(r.den:Int)=b:=by
 unfold mkQ at h
 split at h
 ·rename_i q
  cases h
  exact q.choose_spec
 ·cases h
theorem KM (r:Rat):mkQ r.num r.den=some r:=by
 unfold mkQ
 have h:∃ q:Rat,q.num=r.num∧(q.den:Int)=r.den:=⟨r,rfl,rfl⟩
 rw [dif_pos h]
 have z:=h.choose_spec
 exact congrArg some (Rat.ext z.1 (by have:=z.2;omega))
def Pf (K:jf) (Dd:S→Own) (R:α→Ty) (f:α→List β) (Re:β→Ty):Prop:=∀ x s v H F,HS (Dd s) H F→(R x).p v F→∃ a vs,v=.ref a∧(SqL K H a vs∨SqT K H a vs)∧AllP F ((f x).map Re) vs
theorem Cp {Re:α→Ty}:Pf K Dd (LT K Re) id Re:=fun x s v H F hs ⟨a,vs,e,h1,h2⟩=>⟨a,vs,e,.inl (Fl hs h1),h2⟩
theorem sv_O {Re:β→Ty} {xs:List β} {a:Addr} {k:Nat} (hk:∀ s,(Dd s)[k]?=some (a,OLT Re xs)):Pf K Dd (fun _:Unit=>Is (.ref a)) (fun _=>xs) Re:=fun x s v H F hs r=>by
 obtain ⟨o,ho,vs,rfl,h⟩:=hs.at (hk s)
 exact ⟨a,vs,r,.inl (SqL.of ho),h⟩
section
variable {Ma:(α→S→Res ε δ)→Res ε δ} {Mb:S→(α→S→Res ε δ)→Res ε δ} {R:α→Ty} {f:α→List β} {Re:β→Ty}
theorem Zg {F:Hp} {Re:β→Ty} {xs:List β} {vs:List V} (h:AllP F (xs.map Re) vs) {i:Int} {x:β} (e:atI xs i=some x):∃ v,atI vs i=some v∧(Re x).p v F:=by
 refine cJ h ?_
 unfold atI at e ⊢
 rw [gy]
 cases q:ixN xs.length i with
 | none=>rw [q] at e;cases e
 | some j=>
  rw [q] at e
  rw [jS] at e ⊢
  rw [iB,e]
  rfl
theorem Bq (hv:Pf K Dd R f Re) (ha:EvC K X De ta G Dd s Ma R) (hb:∀ s1,EvC K X De tb G Dd s1 (Mj s1) (tD K eI)):EvC K X De (tOp (rIx K) ta tb) G Dd s (fun kk=>Ma fun a s1=>Mj s1 fun b s2=>Res.bind (Res.opt (atI (f a) b)) fun z=>kk z s2) Re:=
 dj ha hb fun a b c s2 x y H F e hs rx ry Q q=>by
  obtain ⟨p,vs,rfl,h1,h2⟩:=hv a s2 x H F hs rx
  rw [Bo ry]
  obtain ⟨v,e1,e2⟩:=Zg h2 e
  rcases h1 with h1 | h1
  ·exact .inl ⟨p,vs,b,v,rfl,rfl,h1,e1,q _ H F (Same.refl _) hs e2⟩
  ·exact .inr (.inl ⟨p,vs,b,v,rfl,rfl,h1,e1,q _ H F (Same.refl _) hs e2⟩)
theorem MM (hv:Pf K Dd R f Re) (ha:EvC K X De ta G Dd s Ma R):EvC K X De (tCB (cLen K) (tCons ta tNil)) G Dd s (fun kk=>Ma fun a s1=>kk ((f a).length:Int) s1) (tD K eI):=by
 have h1:=A0 (β:=δ) ha fun _=>A2
 refine NJ h1 (g:=fun a=>((f a.1).length:Int)) fun a s2 vs H F hs r Q q=>?_
 ·obtain ⟨v,rfl,h1⟩:=Uj r
  obtain ⟨p,xs,rfl,h2,h3⟩:=hv a.1 s2 v H F hs h1
  have l:=h3.len
  rw [gy] at l
  rcases h2 with h2 | h2
  ·exact ⟨_,(f a.1).length,rfl,.inl ⟨xs,h2,l.symm⟩,q _ H F (Same.refl _) hs (.int _)⟩
  ·exact ⟨_,(f a.1).length,rfl,.inr ⟨xs,h2,l.symm⟩,q _ H F (Same.refl _) hs (.int _)⟩
end
theorem MN (ha:EvC K X De ta G Dd s Mi (tD K eI)):EvC K X De (tCB cAbs (tCons ta tNil)) G Dd s (fun kk=>Mi fun a s1=>kk (if a < 0 then -a else a) s1) (tD K eI):=by
 have h1:=A0 (β:=δ) ha fun _=>A2
 refine NJ h1 (g:=fun a=>if a.1 < 0 then -a.1 else a.1) fun a s2 vs H F hs r Q q=>?_
 ·obtain ⟨v,rfl,h1⟩:=Uj r
  rw [Bo h1]
  exact ⟨a.1,rfl,q _ H F (Same.refl _) hs (.int _)⟩
theorem Zh (ha:EvC K X De ta G Dd s Mi (tD K eI)) (hb:∀ s1,EvC K X De tb G Dd s1 (Mj s1) (tD K eI)):EvC K X De (tCB dc (tCons ta (tCons tb tNil))) G Dd s (fun kk=>Mi fun a s1=>Mj s1 fun b s2=>kk (if b > a then b else a) s2) (tD K eI):=by
 have h1:=A0 (β:=δ) ha fun s1=>A0 (hb s1) fun _=>A2
 refine NJ h1 (g:=fun a=>if a.2.1 > a.1 then a.2.1 else a.1) fun a s2 vs H F hs r Q q=>?_
 ·obtain ⟨v,u,rfl,h1,h2⟩:=ZN r
  rw [Bo h1,Bo h2]
  exact ⟨a.1,a.2.1,rfl,q _ H F (Same.refl _) hs (.int _)⟩
theorem Zi (ha:EvC K X De ta G Dd s Mi (tD K eI)) (hb:∀ s1,EvC K X De tb G Dd s1 (Mj s1) (tD K eI)):EvC K X De (tCB de (tCons ta (tCons tb tNil))) G Dd s (fun kk=>Mi fun a s1=>Mj s1 fun b s2=>kk (if b < a then b else a) s2) (tD K eI):=by
 have h1:=A0 (β:=δ) ha fun s1=>A0 (hb s1) fun _=>A2
 refine NJ h1 (g:=fun a=>if a.2.1 < a.1 then a.2.1 else a.1) fun a s2 vs H F hs r Q q=>?_
 ·obtain ⟨v,u,rfl,h1,h2⟩:=ZN r
  rw [Bo h1,Bo h2]
  exact ⟨a.1,a.2.1,rfl,q _ H F (Same.refl _) hs (.int _)⟩
theorem Uy {Ma:(Bool→S→Res ε δ)→Res ε δ} (ha:EvC K X De ta G Dd s Ma (tD K eB)):EvC K X De (tCB ZO (tCons ta tNil)) G Dd s (fun kk=>Ma fun a s1=>kk (if a=true then 1 else 0) s1) (tD K eI):=by
 have h1:=A0 (β:=δ) ha fun _=>A2
 refine NJ h1 (g:=fun a=>if a.1=true then (1:Int) else 0) fun a s2 vs H F hs r Q q=>?_
 ·obtain ⟨v,rfl,h1⟩:=Uj r
  rw [PY h1]
  exact .inr ⟨a.1,rfl,q _ H F (Same.refl _) hs (.int _)⟩
end
end TL
end
section
namespace TL
open PySem PySem.Spec L2
def spP (K:jf) {τ ρ:Type} (args:τ→List Ty) (mf:τ→Res Unit ρ) (out:ρ→Out):Sp:=fun vs H Q X=>∃ (x:τ) (F:Hp) (D:Own),HS D H F∧AllP F (args x) vs∧(dwish K X Q out (fun _=>D) (fun _:Unit=>D)).W F (mf x)
def spC (K:jf) {τ ρ ω:Type} (O:ω→OTy) (args:Addr→τ→List Ty) (mf:τ→ω→Res ω (ρ×ω)) (out:ρ→Out):Sp:=fun vs H Q X=>∃ (x:τ) (y:ω) (F:Hp) (Dp:ω→Own) (k:Nat) (a:Addr),Bor1 Dp k a O∧HS (Dp y) H F∧AllP F (args a x) vs ∧
 (dwish K X Q (fun r:ρ×ω=>out r.1) (fun r=>Dp r.2) Dp).W F (mf x y)
section
variable {K:jf} {ε ε' ρ α β γ δ S τ τ' σt ω:Type} {Xk:XK} {De:ε→Own} {G G1 G2:Sto} {D0:Own} {Dd:S→Own} {s:S} {te ta tb tc:TE} {tt tu:TT} {F0 F1:Hp} {E:Ends} {w:Wish K ε ρ} {t:TA} {n:Nat} {dvs:List V} {args:τ→List Ty} {Rs:τ'→List Ty}
theorem AD {mf:τ→Res Unit γ} {R:γ→Ty} {M:(τ→S→Res Unit δ)→Res Unit δ} {De:Unit→Own} {sp:Sp} (hsp:∀ vs H Q X,spP K args mf (fun r=>.ok (R r)) vs H Q X→sp vs H Q X) (h:EvAC K (fun _=>Xk) De t G Dd s M args) (hde:∀ s,(De ()).Sublist (Dd s)) :
    EvC K (fun _=>Xk) De (tCall sp [] Xk t) G Dd s (fun kk=>M fun x s1=>Res.bind (mf x) fun z=>kk z s1) R:=fun kk σ H F hs ss o r Q hm q qe=>
  h _ σ H F hs ss o r _ hm (fun x s1 vs H1 F1 t1 hs1 r1 hm1=>hsp _ _ _ _ ⟨x,F1,Dd s1,hs1,by rw [iI];exact r1,by
    rw [Res.Hn] at hm1
    exact Res.Ho hm1 (fun z hz v H2 F2 t2 hs2 r2=>q z s1 v H2 F2 (t1.trans t2) hs2 r2 hz) (fun n e he H2 F2 t2 hs2=>qe n e he H2 F2 (t1.trans t2) (hs2.drop (hde s1)))⟩) qe
theorem Ax {mf:τ→Res Unit γ} {R:γ→Ty} {M:(τ→S→Res ε δ)→Res ε δ} {sp:Sp} (hsp:∀ vs H Q X,spP K args mf (fun r=>.ok (R r)) vs H Q X→sp vs H Q X) (g:S→ε) (h:EvAC K (fun _=>Xk) De t G Dd s M args) (hde:∀ s,(De (g s)).Sublist (Dd s)) :
    EvC K (fun _=>Xk) De (tCall sp [] Xk t) G Dd s (fun kk=>M fun x s1=>Res.bind (Res.mapE (fun _=>g s1) (mf x)) fun z=>kk z s1) R:=fun kk σ H F hs ss o r Q hm q qe=>
  h _ σ H F hs ss o r _ hm (fun x s1 vs H1 F1 t1 hs1 r1 hm1=>hsp _ _ _ _ ⟨x,F1,Dd s1,hs1,by rw [iI];exact r1,by
    cases e:mf x with
    | ok z=>
      rw [e] at hm1
      exact fun v H2 F2 t2 hs2 r2=>q z s1 v H2 F2 (t1.trans t2) hs2 r2 hm1
    | err n u=>
      rw [e] at hm1
      exact fun H2 F2 t2 hs2=>qe n _ hm1 H2 F2 (t1.trans t2) (hs2.drop (hde s1))
    | stuck=>
      rw [e] at hm1
      exact hm1⟩) qe
theorem JZ {mf:τ→Res Unit γ} {O:γ→OTy} {M:(τ→S→Res Unit δ)→Res Unit δ} {De:Unit→Own} {sp:Sp} (hsp:∀ vs H Q X,spP K args mf (fun r=>.new (O r)) vs H Q X→sp vs H Q X) (h:EvAC K (fun _=>Xk) De t G Dd s M args) (hde:∀ s,(De ()).Sublist (Dd s)) :
    EvNC K (fun _=>Xk) De (tCall sp [] Xk t) G Dd s (fun kk=>M fun x s1=>Res.bind (mf x) fun z=>kk z s1) O:=fun kk σ H F hs ss o r Q hm q qe=>
  h _ σ H F hs ss o r _ hm (fun x s1 vs H1 F1 t1 hs1 r1 hm1=>hsp _ _ _ _ ⟨x,F1,Dd s1,hs1,by rw [iI];exact r1,by
    rw [Res.Hn] at hm1
    exact Res.Ho hm1 (fun z hz p H2 F2 t2 hs2=>q z s1 p H2 F2 (t1.trans t2) hs2 hz) (fun n e he H2 F2 t2 hs2=>qe n e he H2 F2 (t1.trans t2) (hs2.drop (hde s1)))⟩) qe
theorem SY {O:ω→OTy} {k:Nat} {a:Addr} {args:Addr→τ→List Ty} {mf:τ→ω→Res ω (γ×ω)} {R:γ→Ty} {Dd:ω→Own} {s:ω} {M:(τ→ω→Res ε δ)→Res ε δ} {sp:Sp} (hsp:∀ vs H Q X,spC K O args mf (fun r=>.ok (R r)) vs H Q X→sp vs H Q X) (g:ω→ε) (B:Bor1 Dd k a O) (h:EvAC K (fun _=>Xk) De t G Dd s M (args a)) (hde:∀ s,(De (g s)).Sublist (Dd s)) :
    EvC K (fun _=>Xk) De (tCall sp [] Xk t) G Dd s (fun kk=>M fun x s1=>Res.bind (Res.mapE g (mf x s1)) fun z=>kk z.1 z.2) R:=fun kk σ H F hs ss o r Q hm q qe=>
  h _ σ H F hs ss o r _ hm (fun x s1 vs H1 F1 t1 hs1 r1 hm1=>hsp _ _ _ _ ⟨x,s1,F1,Dd,k,a,B,hs1,by rw [iI];exact r1,by
    cases e:mf x s1 with
    | ok z=>
      rw [e] at hm1
      exact fun v H2 F2 t2 hs2 r2=>q z.1 z.2 v H2 F2 (t1.trans t2) hs2 r2 hm1
    | err n u=>
      rw [e] at hm1
      exact fun H2 F2 t2 hs2=>qe n _ hm1 H2 F2 (t1.trans t2) (hs2.drop (hde u))
    | stuck=>
      rw [e] at hm1
      exact hm1⟩) qe
theorem AG {O:ω→OTy} {k:Nat} {a:Addr} {args:Addr→τ→List Ty} {mf:τ→ω→Res ω (γ×ω)} {R:γ→Ty} {Dd De:ω→Own} {s:ω} {M:(τ→ω→Res ω δ)→Res ω δ} {sp:Sp} (hsp:∀ vs H Q X,spC K O args mf (fun r=>.ok (R r)) vs H Q X→sp vs H Q X) (B:Bor1 Dd k a O) (h:EvAC K (fun _=>Xk) De t G Dd s M (args a)) (hde:∀ s,(De s).Sublist (Dd s)) :
    EvC K (fun _=>Xk) De (tCall sp [] Xk t) G Dd s (fun kk=>M fun x s1=>Res.bind (mf x s1) fun z=>kk z.1 z.2) R:=fun kk σ H F hs ss o r Q hm q qe=>
  h _ σ H F hs ss o r _ hm (fun x s1 vs H1 F1 t1 hs1 r1 hm1=>hsp _ _ _ _ ⟨x,s1,F1,Dd,k,a,B,hs1,by rw [iI];exact r1,by
    rw [Res.Hn] at hm1
    exact Res.Ho hm1 (fun z hz v H2 F2 t2 hs2 r2=>q z.1 z.2 v H2 F2 (t1.trans t2) hs2 r2 hz) (fun n e he H2 F2 t2 hs2=>qe n e he H2 F2 (t1.trans t2) (hs2.drop (hde e)))⟩) qe
theorem Uz {O:ω→OTy} {k:Nat} {a:Addr} {args:Addr→τ→List Ty} {mf:τ→ω→Res ω (γ×ω)} {O':γ→OTy} {Dd De:ω→Own} {s:ω} {M:(τ→ω→Res ω δ)→Res ω δ} {sp:Sp} (hsp:∀ vs H Q X,spC K O args mf (fun r=>.new (O' r)) vs H Q X→sp vs H Q X) (B:Bor1 Dd k a O) (h:EvAC K (fun _=>Xk) De t G Dd s M (args a)) (hde:∀ s,(De s).Sublist (Dd s)) :
    EvNC K (fun _=>Xk) De (tCall sp [] Xk t) G Dd s (fun kk=>M fun x s1=>Res.bind (mf x s1) fun z=>kk z.1 z.2) O':=fun kk σ H F hs ss o r Q hm q qe=>
  h _ σ H F hs ss o r _ hm (fun x s1 vs H1 F1 t1 hs1 r1 hm1=>hsp _ _ _ _ ⟨x,s1,F1,Dd,k,a,B,hs1,by rw [iI];exact r1,by
    rw [Res.Hn] at hm1
    exact Res.Ho hm1 (fun z hz p H2 F2 t2 hs2=>q z.1 z.2 p H2 F2 (t1.trans t2) hs2 hz) (fun n e he H2 F2 t2 hs2=>qe n e he H2 F2 (t1.trans t2) (hs2.drop (hde e)))⟩) qe
theorem AQ {R:α→Ty} {M:(List α→S→Res ε δ)→Res ε δ} {X:L2.St→XK} (h:EvNC K X De te G Dd s M (OLT R)):EvC K X De te G Dd s M (LT K R):=fun kk σ H F hs ss o r Q hm q qe=>
 h kk σ H F hs ss o r Q hm (fun xs s1 p H1 F1 t1 hs1 hm1=>by
  obtain ⟨u,⟨vs,rfl,hx⟩,hs2,t2⟩:=hs1.freeze (k:=0) rfl
  exact q xs s1 _ H1 _ (t1.trans t2) hs2 ⟨p,vs,rfl,SqL.of upd_same,hx.mono t2⟩ hm1) qe
theorem CB {R:α→Ty} {X:L2.St→XK}:EvNC (β:=δ) K X De (tLst tNil) G Dd s (fun kk=>kk [] s) (OLT R):=fun kk σ H F hs ss o r Q hm q qe=>
 ⟨iT _,fun p hp=>q [] s p _ F (Same.refl _) (hs.new hp ⟨[],rfl,.nil⟩) hm⟩
def EvAL (K:jf) {ε α β S:Type} (X:L2.St→XK) (De:ε→Own) (ta:TA) (G:Sto) (Dd:S→Own) (s:S) (n:Nat) (M:(List α→S→Res ε β)→Res ε β) (R:α→Ty):Prop:=
 ∀ (kk:List α→S→Res ε β) (σ:L2.St) (H F:Hp),HS (Dd s) H F→SS F G σ→∀ (o:β→Prop) (r:Str→ε→Prop) (Q:List V→Hp→Prop),(M kk).sat o r →
  (∀ x s' vs H' F',x.length=n→Same F F'→HS (Dd s') H' F'→AllP F' (x.map R) vs→(kk x s').sat o r→Q vs H')→(∀ n e,r n e→∀ H' F',Same F F'→HS (De e) H' F'→X σ (.ref (He.ga K n)) none H')→ta σ H Q
theorem eval_nil {R:α→Ty} {X:L2.St→XK}:EvAL (β:=δ) K X De tNil G Dd s 0 (fun kk=>kk [] s) R:=fun kk σ H F hs ss o r Q hm q _=>q [] s [] H F rfl (Same.refl _) hs .nil hm
theorem eval_cons {tr:TA} {R:α→Ty} {X:L2.St→XK} {n:Nat} {Ma:(α→S→Res ε β)→Res ε β} {Mr:S→(List α→S→Res ε β)→Res ε β}
    (h:EvC K X De te G Dd s Ma R) (hr:∀ s1,EvAL K X De tr G Dd s1 n (Mr s1) R):EvAL K X De (tCons te tr) G Dd s (n+1) (fun kk=>Ma fun a s1=>Mr s1 fun t s2=>kk (a::t) s2) R:=fun kk σ H F hs ss o r Q hm q qe=>
  h _ σ H F hs ss o r _ hm (fun a s1 v H1 F1 t1 hs1 r1 hm1=>hr s1 _ σ H1 F1 hs1 (ss.mono t1) o r _ hm1
    (fun t s2 vs H2 F2 l2 t2 hs2 r2 hm2=>q (a::t) s2 _ H2 F2 (by rw [i7,l2]) (t1.trans t2) hs2 (.cons ((R a).mono t2 r1) r2) hm2) (fun n e h H2 F2 t2=>qe n e h H2 F2 (t1.trans t2))) (fun n e h H1 F1 t1=>qe n e h H1 F1 t1)
theorem C5 {R:α→Ty} {X:L2.St→XK} {n:Nat} {M:(List α→S→Res ε β)→Res ε β} (h:EvAL K X De t G Dd s n M R) (hn:n≤100000:=by decide):EvNC K X De (tLst t) G Dd s M (OLT R):=fun kk σ H F hs ss o r Q hm q qe=>
 h _ σ H F hs ss o r _ hm (fun xs s1 vs H1 F1 l1 t1 hs1 r1 hm1=>
  ⟨by rw [r1.len,gy,l1];exact iH hn Aq,fun p hp=>q xs s1 p _ F1 t1 (hs1.new hp ⟨vs,rfl,r1⟩) hm1⟩) qe
def _root_.Res.lc {ε α β σ:Type} (body:α→σ→Res ε (Option β×σ)):List α→σ→Res ε (List β×σ)
 | [],s=>.ok ([],s)
 | x::xs,s=>Res.bind (body x s) fun t=>Res.bind (Res.lc body xs t.2) fun u=>.ok ((match t.1 with
  | some y=>y::u.1
  | none=>u.1),u.2)
def dk {β:Type} (acc:List β) (o:Option β):List β:=match o with
 | some y=>acc++[y]
 | none=>acc
theorem Zj {body:α→S→Res Unit (Option β×S)}:∀ (xs:List α) (s:S) (acc:List β) (o:List β×S→Prop),(Res.lc body xs s).sat (fun z=>o (acc++z.1,z.2)) (fun _ _=>False)→∀ x ys,xs=x::ys →
    (body x s).sat (fun t=>(Res.lc body ys t.2).sat (fun z=>o (dk acc t.1++z.1,z.2)) (fun _ _=>False)) (fun _ _=>False):=fun xs s acc o h x ys e=>by
  subst e
  unfold Res.lc at h
  rw [Res.Hn] at h
  refine Res.Ho h (fun t ht=>?_) (fun _ _ z=>z)
  rw [Res.Hn] at ht
  refine Res.Ho ht (fun z hz=>?_) (fun _ _ z=>z)
  unfold dk
  cases e:t.1 with
  | some y=>
    have hz':o (acc++(match t.1 with
      | some y=>y::z.1
      | none=>z.1),z.2):=hz
    rw [e] at hz'
    rw [iL]
    exact hz'
  | none=>
    have hz':o (acc++(match t.1 with
      | some y=>y::z.1
      | none=>z.1),z.2):=hz
    rw [e] at hz'
    exact hz'
theorem MO {wi:TI} {g:TG} {vs:List Nat} {cnd:Own→Prop} {R:α→Ty} {Re:β→Ty} {X:L2.St→XK} {M:(List α→S→Res ε δ)→Res ε δ} {G1:α→Sto}
    {Mt:α→S→(Bool→S→Res Unit (Option β×S))→Res Unit (Option β×S)} {Mb:α→S→(β→S→Res Unit (Option β×S))→Res Unit (Option β×S)}
    (hi:Ie K X De wi G Dd s cnd M R) (hg:∀ x,EvW g vs (Uo G vs) (R x) (G1 x)) (cm:∀ s c,cnd (c::Dd s))
    (ht:∀ x s1 (c:Addr×OTy),EvTC K (fun _=>E0) (fun _:Unit=>[]) tt (G1 x) (fun s=>c::Dd s) s1 (Mt x s1))
    (hb:∀ x s1 (c:Addr×OTy),EvC K (fun _=>E0) (fun _:Unit=>[]) te (G1 x) (fun s=>c::Dd s) s1 (Mb x s1) Re) :
    EvNC K X De (tLc wi g tt te vs) G Dd s (fun kk=>M fun xs s1=>Res.bind (Res.grd (xs.length≤100000) xs) fun xs=>Res.bind (Res.calm (Res.lc (fun x s1=>Mt x s1 fun b s2=>if b=true then Mb x s2 fun y s3=>.ok (some y,s3) else .ok (none,s2)) xs s1)) fun z=>kk z.1 z.2) (OLT Re):=fun kk σ H F hs ss o r Q hm q qe=>
  hi _ σ H F hs ss o r _ hm (fun xs s1 J H1 F1 t1 hs1 ok hm1 Dl hDl=>by
    obtain ⟨hl,hm2⟩:=Res.DE hm1
    generalize hbody:(fun x s1=>Mt x s1 fun b s2=>if b=true then Mb x s2 fun y s3=>Res.ok (some y,s3) else Res.ok (none,s2))=body at hm2
    have hm3:(Res.lc body xs s1).sat (fun z=>(kk z.1 z.2).sat o r) (fun _ _=>False):=by
      cases e:Res.lc body xs s1 with
      | ok z=>rw [e] at hm2;exact hm2
      | err n u=>rw [e] at hm2;exact hm2
      | stuck=>rw [e] at hm2;exact hm2
    refine ⟨fun i m H=>m=xs.length - i∧i≤xs.length∧∃ (x:S) (acc:List β) (F2:Hp),acc.length≤i∧(Res.lc body (xs.drop i) x).sat (fun z=>(kk (acc++z.1) z.2).sat o r) (fun _ _=>False)∧Same F1 F2∧HS ((Dl,OLT Re acc)::Dd x) H F2,
      ⟨xs.length,by simp,iT _,s1,[],F1,iA _,hm3,Same.refl _,hs1.new hDl ⟨[],rfl,.nil⟩⟩,?_⟩
    rintro i m H2 ⟨rfl,hle,x,acc,F2,la,hx,t2,hs2⟩
    by_cases hlt:i < xs.length
    · obtain ⟨go,yl⟩:=(ok _ H2 F2 (cm x _) t2 hs2 i).1 (R xs[i]) (by rw [iB,hJ hlt];rfl)
      have hx2:=Zj (xs.drop i) x acc (fun z=>(kk z.1 z.2).sat o r) hx _ _ (jB hlt)
      refine .inr ⟨go,fun H'=>∃ (x:S) (acc:List β) (F2:Hp),acc.length≤i+1∧(Res.lc body (xs.drop (i+1)) x).sat (fun z=>(kk (acc++z.1) z.2).sat o r) (fun _ _=>False)∧Same F1 F2∧HS ((Dl,OLT Re acc)::Dd x) H' F2,fun H' p=>⟨xs.length - (i+1),by omega,rfl,hlt,p⟩,fun v H3 hy=>?_⟩
      obtain ⟨F3,t3,hs3,r3⟩:=yl v H3 hy
      have ss3:SS F3 (Uo G vs) (L2.wipe σ vs):=((ss.mono t1).mono (t2.trans t3)).wipe vs
      refine hg xs[i] v σ (L2.wipe σ vs) H3 F3 _ hs3 ss3 (YW σ vs) r3 _ fun σ' ss' w'=>⟨w',?_⟩
      rw [← hbody] at hx2
      refine ht xs[i] x (Dl,OLT Re acc) _ σ' H3 F3 hs3 ss' _ _ _ hx2 (fun b s2 H4 F4 t4 hs4 hm4=>?_) (fun n e h=>h.elim)
      cases b with
      | true=>
        refine hb xs[i] s2 (Dl,OLT Re acc) _ σ' H4 F4 hs4 (ss'.mono t4) _ _ _ hm4 (fun y s5 u H5 F5 t5 hs5 r5 hm5=>?_) (fun n e h=>h.elim)
        obtain ⟨o5,ho,ws,rfl,hxs⟩:=hs5.at (k:=0) rfl
        have l5:=hxs.len
        rw [gy] at l5
        refine ⟨ws,ho,by rw [l5];exact iE (iq la (iE hlt hl)) Aq,s5,acc++[y],F5,by simp;omega,by rw [hbody] at hm5;exact hm5,((t2.trans t3).trans t4).trans t5,?_⟩
        exact hs5.put (k:=0) (O':=OLT Re (acc++[y])) rfl ⟨_,rfl,by rw [i8];exact hxs.append (.cons r5 .nil)⟩
      | false=>
        exact ⟨s2,acc,F4,by omega,by rw [hbody] at hm4;exact hm4,(t2.trans t3).trans t4,hs4⟩
    · have e:i=xs.length:=by omega
      subst e
      rw [List.drop_length] at hx
      have hx':(kk (acc++[]) x).sat o r:=hx
      rw [iI] at hx'
      exact .inl ⟨(ok _ H2 F2 (cm x _) t2 hs2 _).2 (by simp),q acc x Dl H2 F2 (t1.trans t2) hs2 hx'⟩) qe
theorem Hr {wi:TI} {g:TG} {vs:List Nat} {cnd:Own→Prop} {R:α→Ty} {Re:β→Ty} {X:L2.St→XK} {M:(List α→S→Res ε δ)→Res ε δ} {G1:α→Sto}
    {Mb:α→S→(β→S→Res Unit (Option β×S))→Res Unit (Option β×S)}
    (hi:Ie K X De wi G Dd s cnd M R) (hg:∀ x,EvW g vs (Uo G vs) (R x) (G1 x)) (cm:∀ s c,cnd (c::Dd s))
    (hb:∀ x s1 (c:Addr×OTy),EvC K (fun _=>E0) (fun _:Unit=>[]) te (G1 x) (fun s=>c::Dd s) s1 (Mb x s1) Re) :
    EvNC K X De (tLc wi g tYes te vs) G Dd s (fun kk=>M fun xs s1=>Res.bind (Res.grd (xs.length≤100000) xs) fun xs=>Res.bind (Res.calm (Res.lc (fun x s1=>Mb x s1 fun y s3=>.ok (some y,s3)) xs s1)) fun z=>kk z.1 z.2) (OLT Re):=
  MO (Mt:=fun x s1 kk=>kk true s1) hi hg cm (fun x s1 c=>cR cM) hb
theorem Zk {R:α→Ty} {R0:List α→Ty} {X:L2.St→XK} {M:(List α→S→Res ε δ)→Res ε δ} (h:EvC K X De te G Dd s M R0) (f:∀ xs v F,(R0 xs).p v F→∃ a vs,v=.ref a∧SqL K F a vs∧AllP F (xs.map R) vs):Ie K X De (iSeq K te) G Dd s (fun _=>True) M R:=fun kk σ H F hs ss o r Q hm q qe=>
 .inl (h kk σ H F hs ss o r _ hm (fun xs s1 v H1 F1 t1 hs1 r1 hm1=>by
  obtain ⟨a,vs,rfl,h1,h2⟩:=f xs v F1 r1
  refine ⟨a,rfl,⟨vs,Fl hs1 h1⟩,q xs s1 _ H1 F1 t1 hs1 (fun D H2 F2 _ s2 hs2 i=>⟨fun R' hR=>?_,fun hl=>?_⟩) hm1⟩
  ·obtain ⟨v,e1,e2⟩:=h2.get hR
   have sq:SqL K H2 a vs:=Fl hs2 (s2.seq h1)
   refine ⟨⟨vs,v,sq,e1⟩,fun x H' hy=>?_⟩
   obtain ⟨e3,e4⟩:=hy
   subst e3
   have e5:=e4 vs sq
   rw [e1] at e5
   cases e5
   exact ⟨F2,Same.refl _,hs2,R'.mono s2 e2⟩
  ·exact ⟨vs,Fl hs2 (s2.seq h1),by rw [h2.len];exact hl⟩) qe)
theorem V0 {R:α→Ty} {R0:List α→Ty} {X:L2.St→XK} {M:(List α→S→Res ε δ)→Res ε δ} (h:EvC K X De te G Dd s M R0) (f:∀ xs v F,(R0 xs).p v F→∃ a vs,v=.ref a∧SqT K F a vs∧AllP F (xs.map R) vs):Ie K X De (iSeq K te) G Dd s (fun _=>True) M R:=fun kk σ H F hs ss o r Q hm q qe=>
 .inr (.inl (h kk σ H F hs ss o r _ hm (fun xs s1 v H1 F1 t1 hs1 r1 hm1=>by
  obtain ⟨a,vs,rfl,h1,h2⟩:=f xs v F1 r1
  refine ⟨a,rfl,⟨vs,JV hs1 h1⟩,q xs s1 _ H1 F1 t1 hs1 (fun D H2 F2 _ s2 hs2 i=>⟨fun R' hR=>?_,fun hl=>?_⟩) hm1⟩
  ·obtain ⟨v,e1,e2⟩:=h2.get hR
   have sq:SqT K H2 a vs:=JV hs2 (KG s2 h1)
   refine ⟨⟨vs,v,sq,e1⟩,fun x H' hy=>?_⟩
   obtain ⟨e3,e4⟩:=hy
   subst e3
   have e5:=e4 vs sq
   rw [e1] at e5
   cases e5
   exact ⟨F2,Same.refl _,hs2,R'.mono s2 e2⟩
  ·exact ⟨vs,JV hs2 (KG s2 h1),by rw [h2.len];exact hl⟩) qe))
def Ah (lo:Int) (n:Nat):List Int:=(List.range n).map fun i:Nat=>lo+(i:Int)
theorem Xt {lo:Int} {n:Nat} {F:Hp}:Zd (Itr lo n) (fun _=>True) ((Ah lo n).map (tD K eI)) F:=by
 have h:=Ze (K:=K) (eN (K:=K) (lo:=lo) (n:=n) (F:=F))
 have e:(LS lo n).map (TL.D K)=(Ah lo n).map (tD K eI):=by
  unfold LS Ah
  rw [iJ,iJ]
  rfl
 rw [e] at h
 exact h
theorem Dj {X:L2.St→XK} {M:(Int→S→Res ε δ)→Res ε δ} (h:EvC K X De te G Dd s M (tD K eI)) :
    Ie K X De (iRng1 (tCons te tNil)) G Dd s (fun _=>True) (fun kk=>M fun n s1=>Res.bind (Res.grd (-(2 ^ 62)≤n∧n < 2 ^ 62) (Ah 0 n.toNat)) fun xs=>kk xs s1) (tD K eI):=fun kk σ H F hs ss o r Q hm q qe=>
  h _ σ H F hs ss o r _ hm (fun n s1 v H1 F1 t1 hs1 r1 hm1=>by
    obtain ⟨hn,hm2⟩:=Res.DE hm1
    exact ⟨n,by rw [Bo r1],hn.1,hn.2,q _ s1 _ H1 F1 t1 hs1 Xt hm2⟩) qe
theorem WY {X:L2.St→XK} {Ma:(Int→S→Res ε δ)→Res ε δ} {Mb:S→(Int→S→Res ε δ)→Res ε δ} (ha:EvC K X De ta G Dd s Ma (tD K eI)) (hb:∀ s1,EvC K X De tb G Dd s1 (Mb s1) (tD K eI)) :
    Ie K X De (iRng2 (tCons ta (tCons tb tNil))) G Dd s (fun _=>True) (fun kk=>Ma fun lo s1=>Mb s1 fun n s2=>Res.bind (Res.grd (-(2 ^ 62)≤lo∧lo < 2 ^ 62∧-(2 ^ 62)≤n∧n < 2 ^ 62) (Ah lo (n - lo).toNat)) fun xs=>kk xs s2) (tD K eI):=fun kk σ H F hs ss o r Q hm q qe=>
  ha _ σ H F hs ss o r _ hm (fun lo s1 v H1 F1 t1 hs1 r1 hm1=>hb s1 _ σ H1 F1 hs1 (ss.mono t1) o r _ hm1 (fun n s2 u H2 F2 t2 hs2 r2 hm2=>by
    obtain ⟨hn,hm3⟩:=Res.DE hm2
    exact ⟨lo,n,by rw [Bo r1,Bo r2],hn,q _ s2 _ H2 F2 (t1.trans t2) hs2 Xt hm3⟩) (fun n e h H2 F2 t2=>qe n e h H2 F2 (t1.trans t2))) qe
theorem MP {R:α→Ty} {xs:List α} {k:Nat} {a:Addr} {M:(α→S→Res ε ρ)→Res ε ρ} {kk:List α×S→Res ε ρ} (ho:G[n]?=some (some (Is (.ref a)))) (h:EvC K w.X w.De te G Dd s M R) (hk:∀ s,(Dd s)[k]?=some (a,OLT R xs))
    {m:Res ε ρ} (hP:w.W F0 m) (q:∀ x,w.W F0 (kk x)→Go E.nx F0 G ((Dd x.2).set k (a,OLT R x.1))) (c:w.cond G:=by first | exact trivial | walk_at "cond") (hm:m=(M fun v s'=>Res.bind (Res.grd (xs.length < 100000) (xs++[v],s')) kk):=by exact rfl):Go (tDrop (tBM K "list" rAppend (tVar n) (tCons te tNil)) E) F0 G (Dd s):=by subst hm;exact (fun σ H F t hs ss=>by
  obtain ⟨v0,e0,r0⟩:=ss.get ho
  have r0':v0=.ref a:=r0
  subst r0'
  obtain ⟨o1,ho1,xs1,rfl,h21⟩:=hs.at (hk s)
  refine ⟨_,e0,.inl ⟨rfl,xs1,SqL.of ho1⟩,h _ σ H F hs ss _ _ _ hP (fun x s' v H1 F1 t1 hs1 r1 hm=>?_) (fun n e hr H1 F1 t1 hs1=>w.err hr c σ H1 F1 (t.trans t1) hs1 (ss.mono t1))⟩
  obtain ⟨hl,hm2⟩:=Res.DE hm
  obtain ⟨o,ho,vs,rfl,h2⟩:=hs1.at (hk s')
  have l2:=h2.len
  rw [gy] at l2
  refine ⟨a,vs,v,rfl,rfl,ho,by rw [l2];exact iE hl Aq,?_⟩
  exact q (xs++[x],s') hm2 σ _ F1 (t.trans t1) (hs1.put (hk s') ⟨_,rfl,by rw [i8];exact h2.append (.cons r1 .nil)⟩) (ss.mono t1))
theorem V1 {F:Hp} {R:α→Ty} {v:V} {x:α} (hv:(R x).p v F):∀ {xs:List α} {vs:List V},AllP F (xs.map R) vs→∀ i,AllP F ((xs.set i x).map R) (vs.set i v)
 | [],_,h,i=>by cases h;exact .nil
 | y::xs,_,h,i=>by
  cases h with
  | cons h1 h2=>
   cases i with
   | zero=>exact .cons hv h2
   | succ i=>exact .cons h1 (V1 hv h2 i)
theorem V2 {R:α→Ty} {xs:List α} {k:Nat} {a:Addr} {Ma:(α→S→Res ε ρ)→Res ε ρ} {Mi:S→(Int→S→Res ε ρ)→Res ε ρ} {kk:List α×S→Res ε ρ} (ho:G[n]?=some (some (Is (.ref a)))) (h:EvC K w.X w.De te G Dd s Ma R) (hi:∀ s1,EvC K w.X w.De tb G Dd s1 (Mi s1) (tD K eI)) (hk:∀ s,(Dd s)[k]?=some (a,OLT R xs))
    {m:Res ε ρ} (hP:w.W F0 m) (q:∀ x,w.W F0 (kk x)→Go E.nx F0 G ((Dd x.2).set k (a,OLT R x.1))) (c:w.cond G:=by first | exact trivial | walk_at "cond") (hm:m=(Ma fun v s1=>Mi s1 fun i s2=>Res.bind (Res.opt (ixN xs.length i)) fun j=>Res.bind (.ok (xs.set j v,s2)) kk):=by exact rfl):Go (tAsg te (gSub (tVar n) tb rSetL) E) F0 G (Dd s):=by subst hm;exact (fun σ H F t hs ss=>
  h _ σ H F hs ss _ _ _ hP (fun x s1 v H1 F1 t1 hs1 r1 hm=>by
    obtain ⟨v0,e0,r0⟩:=ss.get ho
    have r0':v0=.ref a:=r0
    subst r0'
    refine ⟨_,e0,hi s1 _ σ H1 F1 hs1 (ss.mono t1) _ _ _ hm (fun i s2 u H2 F2 t2 hs2 r2 hm2=>?_) (fun n e hr H2 F2 t2 hs2=>w.err hr c σ H2 F2 ((t.trans t1).trans t2) hs2 ((ss.mono t1).mono t2))⟩
    obtain ⟨j,ej,hm3⟩:=Res.FE hm2
    obtain ⟨o,ho,vs,rfl,h2⟩:=hs2.at (hk s2)
    have l2:=h2.len
    rw [gy] at l2
    refine ⟨a,vs,i,j,rfl,Bo r2,ho,by rw [l2];exact ej,?_⟩
    exact q (xs.set j x,s2) hm3 σ _ F2 ((t.trans t1).trans t2) (hs2.put (hk s2) ⟨_,rfl,V1 ((R x).mono t2 r1) h2 j⟩) ((ss.mono t1).mono t2)) (fun n e hr H1 F1 t1 hs1=>w.err hr c σ H1 F1 (t.trans t1) hs1 (ss.mono t1)))
theorem WZ {N:List Str} {tf:TS} {mf:List Int→Res Unit Bool} (htrue:∀ ns:List Int,ns.length≤63→mf ns=.ok true) {vs:List V} {H:Hp} {Q:VK} {X:XK}
    (walk:∀ (x:List Int) (F:Hp) (D:Own) (E:Ends),E.rt=Q→(∀ (K:jf) G D1,GoV Q F (DN K) D1→Go E.nx F G D1)→(dwish K X Q (fun r:Bool=>.ok (tD K eB r)) (fun _=>D) (fun _:Unit=>D)).W F (mf x)→Go (tf E) F (some (tD K (eL eI) x)::List.replicate (N.length - 1) none) D)
    (h:SR K vs H Q X):tf { nx:=fun _ H'=>Q .non H',rt:=Q } (L2.start N vs) H:=by
  obtain ⟨x,F,D,hs,ha,hl,hp⟩:=h
  have z:=SS.start (N:=N) ha
  rw [ha.len] at z
  refine walk x F D { nx:=fun _ H'=>Q .non H',rt:=Q } rfl (fun K G D1 k σ H F1 s hs ss=>k _ H F1 s hs .non) ?_ _ H F (Same.refl _) hs z
  rw [htrue x hl]
  exact hp
theorem Ak {args:τ→List Ty} {mf:τ→Res Unit γ} {out:γ→Out} {n:Nat} (e:∀ x,(args x).length=n):∀ vs H Q E,spP K args mf out vs H Q E→vs.length=n:=fun vs H Q E ⟨x,F,D,_,ha,_⟩=>by rw [ha.len,e]
theorem FF {O:ω→OTy} {args:Addr→τ→List Ty} {mf:τ→ω→Res ω (γ×ω)} {out:γ→Out} {n:Nat} (e:∀ a x,(args a x).length=n):∀ vs H Q E,spC K O args mf out vs H Q E→vs.length=n:=fun vs H Q E ⟨x,y,F,D,k,a,_,_,ha,_⟩=>by rw [ha.len,e]
end
end TL
end
section
namespace TL
open PySem PySem.Spec L2
def tFrz (t:TS):TS:=fun D σ H=>∃ d u,H d=some u∧Mut (some u)∧∀ od,t D σ (upd H d (.frz od u))
theorem Pg {X:Cx} {st:Stmt} {t:TS} (h:PS X st t):PS X st (tFrz t):=by
 refine ⟨fun pins s σ H D I hw=>?_⟩
 obtain ⟨d,u,hd,mu,hw⟩:=hw
 obtain ⟨od,I1⟩:=I.lock hd mu
 exact h.run pins s σ _ D I1 (hw od)
def Nz (t:TE):TE:=fun σ H Q=>t σ H fun v H1=>∃ d u,H1 d=some u∧Mut (some u)∧∀ od,Q v (upd H1 d (.frz od u))
theorem MQ {X:Cx} {e:Expr} {t:TE} (h:PE X e t):PE X e (Nz t):=by
 refine ⟨fun pins s σ H Q I hw=>?_⟩
 refine thn (h.run pins s σ H _ I hw) fun v s1 ⟨x,H1,I1,r,d,u,hd,mu,q⟩=>?_
 obtain ⟨od,I2⟩:=I1.lock hd mu
 exact ⟨x,_,I2,r,q od⟩
def dget {κ α:Type} [DecidableEq κ] (m:List (κ×α)) (k:κ):Option α:=(m.find? fun e=>decide (e.1=k)).map (·.2)
def dput {κ α:Type} [DecidableEq κ] (m:List (κ×α)) (k:κ) (d:α):List (κ×α):=
 if (m.any fun e=>decide (e.1=k))=true then m.map (fun e=>if e.1=k then (e.1,d) else e) else m++[(k,d)]
section
variable {K:jf} {ε ε' ρ α β γ δ S τ τ' σt ω:Type} {X:L2.St→XK} {De:ε→Own} {G G1 G2:Sto} {D0:Own} {Dd:S→Own} {s:S} {te ta tb tc tx:TE} {tt tu:TT} {F0 F1:Hp} {E:Ends} {w:Wish K ε ρ} {t:TA} {n:Nat}
section
variable {R:α→Ty} {f:α→List (Tx×β)} {e:β→PyData} {Ma:(α→S→Res ε δ)→Res ε δ} {Mb:S→(Tx→S→Res ε δ)→Res ε δ}
theorem f9 {H:Hp} {a:Addr} {kvs:List (L2.Key×V)} (h:H a=some (.dK kvs)∨∃ od,H a=some (.frz od (.dK kvs))):IsD H a:=by
 rcases h with h | ⟨od,h⟩
 ·exact .inl ⟨kvs,.inl h⟩
 ·exact .inl ⟨kvs,.inr ⟨od,h⟩⟩
end
theorem Td {σ:L2.St} {i:Nat} {v:V} (e:σ[i]?=some (some v)):σ.set i (some v)=σ:=by
 refine iZ fun j=>?_
 by_cases q:j=i
 ·subst q
  have lt:j < σ.length:=(iF.mp e).1
  rw [iQ lt,e]
 ·rw [i9 (Ne.symm q)]
theorem erase_perm {α:Type}:∀ {l:List α} {k:Nat} {x:α},l[k]?=some x→(x::l.eraseIdx k).Perm l
 | [],k,x,h=>by simp at h
 | y::l,0,x,h=>by
  simp at h
  subst h
  exact List.Perm.refl _
 | y::l,k+1,x,h=>by
  have ih:=erase_perm (l:=l) (k:=k) (x:=x) (by simpa using h)
  rw [List.eraseIdx_cons_succ]
  exact (List.Perm.swap y x _).trans (ih.cons y)
theorem Zl {D:Own} {H F:Hp} (hs:HS D H F) {k:Nat} {a:Addr} {O:OTy} (hk:D[k]?=some (a,O)):HS ((a,O)::D.eraseIdx k) H F:=hs.perm (erase_perm hk).symm
theorem Zm {k i:Nat} {a:Addr} {O:α→OTy} (x:α) (rr:ρ) (hk:D0[k]?=some (a,O x)) (hi:G[i]?=some (some (Is (.ref a)))) (hP:w.W F0 (.ok rr)) (hr:∀ F,w.o F rr→GoN E.rt F (O x) (D0.eraseIdx k)):Go (tRet (tVar i) E) F0 G D0:=fun σ H F t hs ss=>by
 obtain ⟨v,e1,e2⟩:=ss.get hi
 have ev:v=.ref a:=e2
 subst ev
 exact ⟨_,e1,hr F0 hP a H F t (Zl hs hk)⟩
end
end TL
end
section
def Res.fuel:Nat:=2 ^ 20000
theorem Res.fuel_big {n:Nat} (h:n < 2 ^ 20000):n < Res.fuel:=h
namespace TL
open PySem PySem.Spec L2
def leT (a b:Tx):Bool:=!ltCps b.s.cps.toList a.s.cps.toList
theorem SZ (a b c:Tx) (h:leT a b=true) (k:leT b c=true):leT a c=true:=by
 unfold leT at *
 simp only [Bool.not_eq_true'] at *
 cases e:ltCps c.s.cps.toList a.s.cps.toList with
 | false=>rfl
 | true=>
  exfalso
  by_cases q:ltCps b.s.cps.toList a.s.cps.toList=true
  ·rw [h] at q;cases q
  ·by_cases q2:ltCps a.s.cps.toList b.s.cps.toList=true
   ·have:=Xm e q2
    rw [k] at this;cases this
   ·have e2:=TZ (Bool.eq_false_iff.mpr q) (Bool.eq_false_iff.mpr q2)
    rw [← e2] at e
    rw [k] at e;cases e
theorem YZ (a b:Tx):(leT a b || leT b a)=true:=by
 unfold leT
 cases e:ltCps b.s.cps.toList a.s.cps.toList with
 | false=>rfl
 | true=>
  cases e2:ltCps a.s.cps.toList b.s.cps.toList with
  | false=>rfl
  | true=>
   have:=Xm e e2
   rw [WW] at this;cases this
theorem Zo {a b:Tx} (h:leT a b=true) (k:leT b a=true):a=b:=by
 unfold leT at *
 simp only [Bool.not_eq_true'] at *
 exact Tx.ext' (Xn (TZ k h))
def Dw (xs:List Tx):List Tx:=xs.mergeSort leT
theorem Dk (xs:List Tx):(Dw xs).Perm xs:=List.mergeSort_perm _ _
theorem V3 (xs:List Tx):(Dw xs).Pairwise fun a b=>leT a b=true:=List.pairwise_mergeSort SZ YZ xs
theorem Zp {xs ys:List Tx} (p:ys.Perm xs) (h:ys.Pairwise fun a b=>leT a b=true):ys=Dw xs:=
 List.Perm.eq_of_pairwise (fun a b _ _=>Zo) h (V3 xs) (p.trans (Dk xs).symm)
theorem Sa:∀ {p:Tx} {r:List Tx},PyProof.Rows.risingS p.s (r.map (·.s))=true→(p::r).Pairwise fun a b=>leT a b=true
 | p,[],_=>List.pairwise_singleton _ _
 | p,x::r,h=>by
  simp only [hG,PyProof.Rows.risingS,iN] at h
  have ih:=Sa (p:=x) (r:=r) h.2
  rw [jL]
  refine ⟨fun k hk=>?_,ih⟩
  rcases hZ.mp hk with e | m
  ·subst e;exact h.1
  ·exact SZ _ _ _ h.1 ((jL.mp ih).1 k m)
theorem perm_lift:∀ {ys:List Str} {xs:List Tx},ys.Perm (xs.map (·.s))→∃ zs:List Tx,ys=zs.map (·.s)∧zs.Perm xs:=fun {ys xs} h=>by
  have:∀ {a b:List Str},a.Perm b→∀ {xs:List Tx},b=xs.map (·.s)→∃ zs:List Tx,a=zs.map (·.s)∧zs.Perm xs:=by
    intro a b p
    induction p with
    | nil=>intro xs e;cases xs with
      | nil=>exact ⟨[],rfl,.nil⟩
      | cons x xs=>cases e
    | cons x p ih=>intro xs e;cases xs with
      | nil=>cases e
      | cons y xs=>
        rw [hG] at e
        injection e with e1 e2
        obtain ⟨zs,h1,h2⟩:=ih e2
        exact ⟨y::zs,by rw [e1,h1];rfl,h2.cons y⟩
    | swap x y l=>intro xs e;match xs,e with
      | u::v::xs,e=>
        rw [hG,hG] at e
        injection e with e1 e2
        injection e2 with e2 e3
        exact ⟨v::u::xs,by rw [e1,e2,e3];rfl,List.Perm.swap u v xs⟩
      | [],e=>cases e
      | [_],e=>simp at e
    | trans p q ih1 ih2 => intro xs e
                           obtain ⟨zs,h1,h2⟩:=ih2 e
                           obtain ⟨us,h3,h4⟩:=ih1 h1
                           exact ⟨us,h3,h4.trans h2⟩
  exact this h rfl
theorem Sb {ys:List Str} {xs:List Tx} (p:ys.Perm (xs.map (·.s))) (h:PyProof.Rows.sortedS ys=true):ys=(Dw xs).map (·.s):=by
 obtain ⟨zs,rfl,q⟩:=perm_lift p
 have:zs.Pairwise fun a b=>leT a b=true:=by
  cases zs with
  | nil=>exact .nil
  | cons z zs=>exact Sa h
 rw [Zp q this]
def cutL {α:Type} (xs:List α) (lo hi:Option Int):List α:=(xs.drop (HT.sIx xs.length 0 lo)).take (HT.sIx xs.length xs.length hi - HT.sIx xs.length 0 lo)
theorem join_cons (a x y:Str) (xs:List Str):Txt.join a (x::y::xs)=(x++a)++Txt.join a (y::xs):=by
 rw [TL.join_eq,TL.join_eq]
 rfl
theorem Xu (a:Tx):∀ xs:List Tx,∀ c∈(Txt.join a.s (xs.map (·.s))).cps.toList,c < 0x110000
 | [],c,hc=>by
  rw [List.map_nil,TL.join_eq] at hc
  cases hc
 | [x],c,hc=>by
  rw [hG,List.map_nil,TL.join_eq] at hc
  exact x.all c hc
 | x::y::xs,c,hc=>by
  have h':=hc
  rw [hG,hG,join_cons,Ta,Ta,iL] at h'
  rcases hY.mp h' with h1 | h1
  ·exact x.all c h1
  ·rcases hY.mp h1 with h2 | h2
   ·exact a.all c h2
   ·exact Xu a (y::xs) c h2
def Tx.join (a:Tx) (xs:List Tx):Tx:=⟨Txt.join a.s (xs.map (·.s)),JF (Xu a xs)⟩
def Xv (a:Tx) (xs:List Tx):Prop:=(xs.map Tx.len).sum+xs.length*a.len≤16777216
section
variable {K:jf} {ε ε' ρ α β γ δ S τ τ' σt ω:Type} {X:L2.St→XK} {De:ε→Own} {G G1 G2:Sto} {D0:Own} {Dd:S→Own} {s:S} {te ta tb tc tx:TE} {tt tu:TT} {F0 F1:Hp} {E:Ends} {w:Wish K ε ρ} {t:TA} {n:Nat} {tl th:TO}
theorem Cq {x:Str} (c:Tx) (e:c.s=x):EvC (β:=β) K X De (tC (.str x)) G Dd s (fun kk=>kk c s) (tD K eS):=NI eJ (by rw [← e])
instance (i j:Int):Decidable (CPow i j):=inferInstanceAs (Decidable (_∧_∧_))
theorem Gr {a b c:Int} (h:CPow a b) (e:a ^ b.toNat=c):EvC (β:=β) K X De (tOp LM (tC (.int a)) (tC (.int b))) G Dd s (fun kk=>kk c s) (tD K eI):=NI (eP WT WT h) (by rw [e])
theorem Sd {F:Hp} {xs:List Tx} {vs:List V} (h:AllP F (xs.map (tD K eS)) vs):vs=(xs.map (·.s)).map V.str:=by
 have h2:=Za h
 have e:xs.map eS=(xs.map (·.s)).map PyData.str:=by rw [iJ];rfl
 rw [e] at h2
 exact Xl h2
def EvOC (K:jf) {ε β S:Type} (X:L2.St→XK) (De:ε→Own) (to:TO) (G:Sto) (Dd:S→Own) (s:S) (M:(Option Int→S→Res ε β)→Res ε β):Prop:=
 ∀ (kk:Option Int→S→Res ε β) (σ:L2.St) (H F:Hp),HS (Dd s) H F→SS F G σ→∀ (o:β→Prop) (r:Str→ε→Prop) (Q:Option Int→Hp→Prop),(M kk).sat o r →
  (∀ x s' H' F',Same F F'→HS (Dd s') H' F'→(kk x s').sat o r→Q x H')→(∀ n e,r n e→∀ H' F',Same F F'→HS (De e) H' F'→X σ (.ref (He.ga K n)) none H')→to σ H Q
theorem Zq:EvOC (β:=β) K X De tNoPart G Dd s (fun kk=>kk none s):=fun kk σ H F hs ss o r Q hm q _=>q none s H F (Same.refl _) hs hm
theorem Ph {M:(Int→S→Res ε β)→Res ε β} (h:EvC K X De te G Dd s M (tD K eI)):EvOC K X De (tPart te) G Dd s (fun kk=>M fun i s1=>kk (some i) s1):=fun kk σ H F hs ss o r Q hm q qe=>
 h _ σ H F hs ss o r _ hm (fun i s1 v H1 F1 t1 hs1 r1 hm1=>⟨i,Bo r1,q (some i) s1 H1 F1 t1 hs1 hm1⟩) qe
section
variable {R:α→Ty} {f:α→List β} {Re:β→Ty} {Ma:(α→S→Res ε δ)→Res ε δ} {Ml Mh:S→(Option Int→S→Res ε δ)→Res ε δ}
theorem Ya (hv:Pf K Dd R f Re) (ha:EvC K X De ta G Dd s Ma R):EvNC K X De (tCB (cLst K) (tCons ta tNil)) G Dd s (fun kk=>Ma fun a s1=>kk (f a) s1) (OLT Re):=fun kk σ H F hs ss o r Q hm q qe=>
 ha _ σ H F hs ss o r _ hm (fun a s1 v H1 F1 t1 hs1 r1 hm1=>by
  obtain ⟨p,vs,rfl,h1,h2⟩:=hv a s1 v H1 F1 hs1 r1
  exact .inl ⟨p,vs,rfl,h1,fun u hu=>q _ s1 u _ F1 t1 (hs1.new hu ⟨_,rfl,h2⟩) hm1⟩) qe
end
theorem Zr {Re:α→Ty}:∀ x s v H F,HS (Dd s) H F→(LT K Re x).p v F→∃ a vs,v=.ref a∧SqL K H a vs∧AllP F ((id x).map Re) vs:=fun x s v H F hs ⟨a,vs,e,h1,h2⟩=>⟨a,vs,e,Fl hs h1,h2⟩
theorem Xw {Ma:(Tx→S→Res ε δ)→Res ε δ} {Ml Mh:S→(Option Int→S→Res ε δ)→Res ε δ} (ha:EvC K X De te G Dd s Ma (tD K eS)) (hl:∀ s1,EvOC K X De tl G Dd s1 (Ml s1)) (hh:∀ s1,EvOC K X De th G Dd s1 (Mh s1)) :
    EvC K X De (tSl rSlS te tl th) G Dd s (fun kk=>Ma fun a s1=>Ml s1 fun lo s2=>Mh s2 fun hi s3=>Res.bind (Res.grd (Tx.len a≤100000) (Tx.cut a lo hi)) fun z=>kk z s3) (tD K eS):=fun kk σ H F hs ss o r Q hm q qe=>
  ha _ σ H F hs ss o r _ hm (fun a s1 v H1 F1 t1 hs1 r1 hm1=>hl s1 _ σ H1 F1 hs1 (ss.mono t1) o r _ hm1 (fun lo s2 H2 F2 t2 hs2 hm2=>hh s2 _ σ H2 F2 hs2 ((ss.mono t1).mono t2) o r _ hm2 (fun hi s3 H3 F3 t3 hs3 hm3=>by
    obtain ⟨c,hm4⟩:=Res.DE hm3
    rw [KF r1]
    exact ⟨a.s,rfl,iH c Aq,q (Tx.cut a lo hi) s3 _ H3 F3 ((t1.trans t2).trans t3) hs3 (.str _) hm4⟩)
    (fun n e h H3 F3 t3=>qe n e h H3 F3 ((t1.trans t2).trans t3))) (fun n e h H2 F2 t2=>qe n e h H2 F2 (t1.trans t2))) qe
theorem Zs {Ma:(Tx→S→Res ε δ)→Res ε δ} {Mb:S→(List Tx→S→Res ε δ)→Res ε δ} (ha:EvC K X De ta G Dd s Ma (tD K eS)) (hb:∀ s1,EvC K X De tb G Dd s1 (Mb s1) (tD K (eL eS))) :
    EvC K X De (tM1 (rJoin K) ta tb) G Dd s (fun kk=>Ma fun a s1=>Mb s1 fun b s2=>Res.bind (Res.grd (Xv a b) (Tx.join a b)) fun z=>kk z s2) (tD K eS):=fun kk σ H F hs ss o r Q hm q qe=>
  ha _ σ H F hs ss o r _ hm (fun a s1 v H1 F1 t1 hs1 r1 hm1=>⟨⟨a.s,KF r1⟩,hb s1 _ σ H1 F1 hs1 (ss.mono t1) o r _ hm1 (fun b s2 u H2 F2 t2 hs2 r2 hm2=>by
    obtain ⟨c,hm3⟩:=Res.DE hm2
    obtain ⟨p,xs,rfl,h1,h2⟩:=ZM r2
    have e:=Sd (Ut h2)
    subst e
    refine ⟨a.s,p,b.map Tx.s,KF r1,rfl,.inl (Fl hs2 h1),?_,q (Tx.join a b) s2 (.str (Tx.join a b).s) H2 F2 (t1.trans t2) hs2 (.str _) hm3⟩
    rw [iJ,gy]
    exact c) (fun n e h H2 F2 t2=>qe n e h H2 F2 (t1.trans t2))⟩) qe
theorem Yb {R:α→Ty} {f:α→List Tx} {Ma:(α→S→Res ε δ)→Res ε δ} (hvL:∀ x s v H F,HS (Dd s) H F→(R x).p v F→∃ a vs,v=.ref a∧SqL K H a vs∧AllP F ((f x).map (tD K eS)) vs) (ha:EvC K X De ta G Dd s Ma R) :
    EvC K X De (tCB (SV K) (tCons ta tNil)) G Dd s (fun kk=>Ma fun a s1=>Res.bind (Res.grd ((f a).length < 64) (Dw (f a))) fun z=>kk z s1) (tD K (eL eS)):=fun kk σ H F hs ss o r Q hm q qe=>
  ha _ σ H F hs ss o r _ hm (fun a s1 v H1 F1 t1 hs1 r1 hm1=>by
    obtain ⟨c,hm2⟩:=Res.DE hm1
    obtain ⟨p,vs,rfl,h1,h2⟩:=hvL a s1 v H1 F1 hs1 r1
    have e:=Sd h2
    subst e
    refine .inl ⟨p,(f a).map (·.s),rfl,h1,by rw [gy];exact c,fun ys u pm so hu=>?_⟩
    have e:=Sb pm so
    subst e
    have s4:Same F1 (upd F1 u (.lst (((Dw (f a)).map (·.s)).map V.str))):=Co (hs1.free hu)
    refine q _ s1 _ _ _ (t1.trans s4) (hs1.frz hu) (.lst (SqL.of upd_same) ?_) hm2
    have e2:(Dw (f a)).map eS=((Dw (f a)).map (·.s)).map PyData.str:=by rw [iJ];rfl
    rw [e2]
    exact TY _) qe
end
end TL
end
section
namespace Res
variable {ε ε' α β γ σ ρ:Type}
def tryE (kn:List (PySem.Str×Bool)) (mb:Res Unit σ) (mh:PySem.Str→Res ε ρ) (e0:ε) (k:σ→Res ε ρ):Res ε ρ:=match mb with
 | .ok s=>k s
 | .err n _=>match kn.lookup n with
  | some true=>mh n
  | some false=>.err n e0
  | none=>.stuck
 | .stuck=>.stuck
@[simp] theorem gq (kn:List (PySem.Str×Bool)) (s:σ) (mh:PySem.Str→Res ε ρ) (e0:ε) (k:σ→Res ε ρ):tryE kn (.ok s) mh e0 k=k s:=rfl
end Res
namespace TL
open PySem PySem.Spec L2
section
variable {K:jf} {ε ε' ρ α β γ δ S τ τ' σt ω:Type} {X:L2.St→XK} {Xk:XK} {De:ε→Own} {G G1 G2:Sto} {D0:Own} {Dd:S→Own} {s:S} {te ta tb tc:TE} {tt tu:TT} {F0 F1:Hp} {E:Ends} {w:Wish K ε ρ} {t:TA} {n:Nat} {dvs:List V} {args:τ→List Ty} {Rs:τ'→List Ty}
theorem AllP.app {F:Hp} {vs ws:List V} {Rs Ss:List Ty} (h:AllP F Rs vs) (h':AllP F Ss ws):AllP F (Rs++Ss) (vs++ws):=by
 induction h with
 | nil=>exact h'
 | cons a _ ih=>exact .cons a ih
end
end TL
end
section
namespace TL
open PySem PySem.Spec L2
structure FoM (P:Program) (w:World) (K:jf) (mg:Str→Option Value) (base:Heap) (C:Addr) (m:Str) (ps:List Str) (dvs:List V) (k:Nat) (sp:Sp):Prop where
 ex:∃ f fd ds,FnOk P w K mg base (L2.CX P w) k f fd ps sp∧Cls K C∧Meth K C m f∧Binds K fd ps ds∧Vals dvs ds
structure FoI (P:Program) (w:World) (K:jf) (mg:Str→Option Value) (base:Heap) (x:Str) (C:Addr) (ps:List Str) (dvs:List V) (k:Nat) (sp:Sp):Prop where
 ex:∃ f fd ds,FnOk P w K mg base (L2.CX P w) k f fd ps sp∧mg x=some (.ref C)∧Mk K C f∧Binds K fd ps ds∧Vals dvs ds
abbrev Fds:Type:=List (Str×Ty)
def FdsP (F:Hp) (fds:Fds) (fs:List (Str×V)):Prop:=fs.map (·.1)=fds.map (·.1)∧AllP F (fds.map (·.2)) (fs.map (·.2))
theorem FdsP.up {F F':Hp} {fds:Fds} {fs:List (Str×V)} (h:FdsP F fds fs) (s:Same F F'):FdsP F' fds fs:=⟨h.1,h.2.mono s⟩
def IN (K:jf) (C:Addr) (fds:Fds):Ty:=⟨fun v F=>∃ a dx fs,v=.ref a∧F a=some (.ins C dx fs)∧FdsP F fds fs,fun s ⟨a,dx,fs,e,h,h2⟩=>⟨a,dx,fs,e,s _ _ h,h2.up s⟩⟩
def INa (K:jf) (C:Addr) (a:Addr) (fds:Fds):Ty:=⟨fun v F=>v=.ref a∧∃ dx fs,F a=some (.ins C dx fs)∧FdsP F fds fs,fun s ⟨e,dx,fs,h,h2⟩=>⟨e,dx,fs,s _ _ h,h2.up s⟩⟩
theorem INa.to {K:jf} {C a:Addr} {fds:Fds} {v:V} {F:Hp} (h:(INa K C a fds).p v F):(IN K C fds).p v F:=let ⟨e,dx,fs,h1,h2⟩:=h;⟨a,dx,fs,e,h1,h2⟩
theorem lookup_at:∀ {fs:List (Str×V)} {j:Nat} {f:Str} {v:V},(fs.map (·.1)).Nodup→(fs.map (·.1))[j]?=some f→(fs.map (·.2))[j]?=some v→fs.lookup f=some v
 | [],j,f,v,_,h,_=>by simp at h
 | (g,u)::fs,0,f,v,nd,h1,h2=>by
  simp at h1 h2
  subst h1 h2
  simp
 | (g,u)::fs,j+1,f,v,nd,h1,h2=>by
  have ne:¬ f=g:=fun z=>by
   subst z
   have h1':(fs.map (·.1))[j]?=some f:=by simpa using h1
   rw [hG,iK] at nd
   exact nd.1 (iM h1')
  rw [List.lookup_cons]
  have q:(f == g)=false:=by simp [ne]
  rw [q]
  rw [hG,iK] at nd
  exact lookup_at nd.2 (by simpa using h1) (by simpa using h2)
theorem FdsP.at {F:Hp} {fds:Fds} {fs:List (Str×V)} (h:FdsP F fds fs) {j:Nat} {f:Str} {R:Ty} (nd:(fds.map (·.1)).Nodup) (e:fds[j]?=some (f,R)):∃ v,fs.lookup f=some v∧R.p v F:=by
 have e1:(fds.map (·.1))[j]?=some f:=by rw [iB,e];rfl
 have e2:(fds.map (·.2))[j]?=some R:=by rw [iB,e];rfl
 obtain ⟨v,h1,h2⟩:=h.2.get e2
 exact ⟨v,lookup_at (by rw [h.1];exact nd) (by rw [h.1];exact e1) h1,h2⟩
section
variable {K:jf} {ε ε' ρ α β γ δ S τ τ' σt ω:Type} {X:L2.St→XK} {Xk:XK} {De:ε→Own} {G G1 G2:Sto} {D0:Own} {Dd:S→Own} {s:S} {te ta tb tc:TE} {tt tu:TT} {F0 F1:Hp} {E:Ends} {w:Wish K ε ρ} {t:TA} {n:Nat} {dvs:List V} {args:τ→List Ty} {Rs:τ'→List Ty} {C:Addr}
def GoI (K:jf) (Q:VK) (F:Hp) (C a:Addr) (fds:Fds) (D:Own):Prop:=∀ H' F',Same F F'→HS D H' F'→(INa K C a fds).p (.ref a) F'→Q .non H'
theorem GoI.up {Q:VK} {F F':Hp} {a:Addr} {fds:Fds} {D:Own} (h:GoI K Q F C a fds D) (s:Same F F'):GoI K Q F' C a fds D:=fun H1 F1 t hs r=>h H1 F1 (s.trans t) hs r
end
end TL
end
section
namespace TL
open PySem PySem.Spec L2
def Tx.signs (t:Tx):List Tx:=t.s.cps.toList.pmap (fun c h=>Tx.sg c h) fun c hc=>t.all c hc
theorem Tx.signs_map (t:Tx):t.signs.map (·.s)=t.s.cps.toList.map fun c=>(⟨#[c]⟩:Str):=by
 unfold Tx.signs
 rw [List.map_pmap]
 exact List.pmap_eq_map ..
def Tx.has (t u:Tx):Bool:=!(Builtin.Str.occurrences t.s u.s 0 t.s.length 1).isEmpty
section
variable {K:jf} {ε ε' ρ α β γ δ S τ τ' σt ω:Type} {X:L2.St→XK} {De:ε→Own} {G G1 G2:Sto} {D0:Own} {Dd:S→Own} {s:S} {te ta tb tc tx:TE} {tt tu:TT} {F0 F1:Hp} {E:Ends} {w:Wish K ε ρ} {t:TA}
theorem Zt {n:Nat} {e:α→PyData} {M:(α→S→Res ε δ)→Res ε δ} (h:EvC K X De te G Dd s M (tD K e)) (hn:∀ x:α,∃ ds,e x=.tuple ds∧ds.length=n):EvC K X De (tCB (cLen K) (tCons te tNil)) G Dd s (fun kk=>M fun _ s1=>kk (n:Int) s1) (tD K eI):=fun kk σ H F hs ss o r Q hm q qe=>
 h _ σ H F hs ss o r _ hm (fun x s1 v H1 F1 t1 hs1 r1 hm1=>by
  obtain ⟨ds,e1,e2⟩:=hn x
  have r1':Dp K F1 v (e x):=r1
  rw [e1] at r1'
  obtain ⟨a,xs,rfl,h2,h3⟩:=NC r1'
  exact ⟨_,n,rfl,.inr ⟨xs,JV hs1 h2,by rw [← ND h3] at e2;exact e2.symm⟩,q (n:Int) s1 _ H1 F1 t1 hs1 (.int _) hm1⟩) qe
end
end TL
end
section
namespace TL
open PySem PySem.Spec L2
section
variable {F:Hp} {τ:Type} {args:τ→List Ty}
theorem hd0:∀ (x:τ) (F:Hp) (vs:List V),AllP F (args x) vs→AllP F (args x) (vs++[]):=fun x F vs h=>by rw [iI];exact h
variable {K:jf} {ε δ α β γ ζ η S:Type} {X:L2.St→XK} {De:ε→Own} {G:Sto} {Dd:S→Own} {s:S} {te:TE}
theorem EG {R R':α→Ty} {M:(α→S→Res ε δ)→Res ε δ} (h:EvC K X De te G Dd s M R) (hx:∀ x v F,(R x).p v F→(R' x).p v F):EvC K X De te G Dd s M R':=fun kk σ H F hs ss o r Q hm q qe=>
 h kk σ H F hs ss o r Q hm (fun x s' v H' F' t hs' r' hm'=>q x s' v H' F' t hs' (hx x v F' r') hm') qe
end
end TL
end
section
namespace TL
open PySem PySem.Spec L2
theorem cU (s:String):PyData.canLay0 (.str (Str.ofString s))=true:=JF fun c hc=>by
 rw [Str.ofString_eq_toList] at hc
 have h:∃ ch:Char,c=ch.toNat:=by
  simp only [hA] at hc
  obtain ⟨ch,_,e⟩:=hc
  exact ⟨ch,e.symm⟩
 obtain ⟨ch,rfl⟩:=h
 have:=ch.valid
 rcases this with h | h
 ·exact Nat.lt_trans h (by decide)
 ·exact h.2
def Tx.ofI (i:Int):Tx:=⟨Str.ofString (toString i),cU _⟩
theorem cV (t:Tx) (n:Int):∀ c∈(Txt.mul t.s n).cps.toList,c < 0x110000:=fun c h=>by
  unfold Txt.mul at h
  split at h
  · exact absurd h (by decide +revert)
  · split at h
    · exact t.all c h
    · have key:∀ (k:Nat) (acc:Array Nat),(∀ c∈acc.toList,c < 0x110000)→∀ c∈((List.replicate k t.s.cps).foldl (·++·) acc).toList,c < 0x110000:=by
        intro k
        induction k with
        | zero=>intro acc ha c hc;exact ha c hc
        | succ k ih=>
          intro acc ha
          rw [List.replicate_succ,List.foldl_cons]
          refine ih _ fun c hc=>?_
          rw [Array.toList_append] at hc
          rcases hY.mp hc with q | q
          · exact ha c q
          · exact t.all c q
      exact key _ #[] (fun c hc=>by cases hc) c h
def Tx.mul (t:Tx) (n:Int):Tx:=⟨Txt.mul t.s n,JF (cV t n)⟩
end TL
end
section
namespace TL
open PySem PySem.Spec L2
def popL {α:Type} (xs:List α):Option (α×List α):=match xs.getLast? with
 | some y=>some (y,xs.dropLast)
 | none=>none
section
variable {K:jf} {ε ε' ρ α β γ δ S τ τ' σt ω:Type} {X:L2.St→XK} {Xk:XK} {De:ε→Own} {G G1 G2:Sto} {D0:Own} {Dd:S→Own} {s:S} {te ta tb tc tx:TE} {tt tu:TT} {F0 F1:Hp} {E:Ends} {w:Wish K ε ρ} {t:TA} {n:Nat} {Rs:τ→List Ty}
theorem Wa {O:ω→OTy} {args:Addr→τ→List Ty} {mf:τ→ω→Res ω (γ×ω)} {R:γ→Ty} {Mn:(ω→S→Res ε δ)→Res ε δ} {Mt:S→(τ→S→Res ε δ)→Res ε δ} {sp:Sp} (hsp:∀ vs H Q X,spC K O args mf (fun r=>.ok (R r)) vs H Q X→sp vs H Q X) (g:S→ε)
    (hn:EvNC K (fun _=>Xk) De ta G Dd s Mn O) (ht:∀ y p s1,EvAC K (fun _=>Xk) De t G (fun s=>(p,O y)::Dd s) s1 (Mt s1) Rs) (ha:∀ a x,args a x=Is (.ref a)::Rs x) (hde:∀ s,(De (g s)).Sublist (Dd s)) :
    EvC K (fun _=>Xk) De (tCall sp [] Xk (tCons ta t)) G Dd s (fun kk=>Mn fun y s1=>Mt s1 fun x s2=>Res.bind (Res.mapE (fun _=>g s2) (mf x y)) fun z=>kk z.1 s2) R:=fun kk σ H F hs ss o r Q hm q qe=>
  hn _ σ H F hs ss o r _ hm (fun y s1 p H1 F1 t1 hs1 hm1=>ht y p s1 _ σ H1 F1 hs1 (ss.mono t1) o r _ hm1 (fun x s2 vs H2 F2 t2 hs2 r2 hm2=>hsp _ _ _ _ ⟨x,y,F2,fun y'=>(p,O y')::Dd s2,0,p,Bor.here,hs2,by rw [iI,ha];exact .cons rfl r2,by
    cases e:mf x y with
    | ok z=>
      rw [e] at hm2
      exact fun v H3 F3 t3 hs3 r3=>q z.1 s2 v H3 F3 ((t1.trans t2).trans t3) (hs3.drop (List.sublist_cons_self _ _)) r3 hm2
    | err n u=>
      rw [e] at hm2
      exact fun H3 F3 t3 hs3=>qe n _ hm2 H3 F3 ((t1.trans t2).trans t3) ((hs3.drop (List.sublist_cons_self _ _)).drop (hde s2))
    | stuck=>
      rw [e] at hm2
      exact hm2⟩) (fun n e h H2 F2 t2=>qe n e h H2 F2 (t1.trans t2))) qe
theorem Zu {R:α→Ty} {k i:Nat} {a:Addr} {Dd:List α→Own} {s:List α} (B:Bor1 Dd k a (OLT R)) (hi:G[i]?=some (some (Is (.ref a)))):EvC (β:=δ) K X De (tBM0 K "list" rPop (tVar i)) G Dd s (fun kk=>Res.bind (Res.opt (popL s)) fun z=>kk z.1 z.2) R:=fun kk σ H F hs ss o r Q hm q qe=>by
  obtain ⟨v,e1,e2⟩:=ss.get hi
  have ev:v=.ref a:=e2
  subst ev
  obtain ⟨z,ez,hm2⟩:=Res.FE hm
  obtain ⟨o1,ho,vs,rfl,hx⟩:=hs.at (B.at_ s)
  unfold popL at ez
  have ln:=hx.len
  rw [gy] at ln
  cases el:s.getLast? with
  | none=>simp [el] at ez
  | some y=>
    simp only [el] at ez
    cases ez
    rw [List.getLast?_eq_getElem?] at el
    have e3:(s.map R)[s.length - 1]?=some (R y):=by rw [iB,el];rfl
    obtain ⟨u,hu,ru⟩:=hx.get e3
    refine ⟨_,e1,.inl ⟨rfl,vs,SqL.of ho⟩,a,vs,u,rfl,rfl,ho,by rw [ln];exact hu,?_⟩
    refine q y s.dropLast u _ F (Same.refl _) ?_ ru hm2
    have z:=hs.put (O':=OLT R s.dropLast) (o:=.lst vs.dropLast) (B.at_ s) ⟨_,rfl,?_⟩
    · rw [B.set_ s] at z
      exact z
    · have key:∀ {Rs:List Ty} {us:List V},AllP F Rs us→AllP F Rs.dropLast us.dropLast:=by
        intro Rs us h
        induction h with
        | nil=>exact .nil
        | cons a h ih=>
          cases h with
          | nil=>exact .nil
          | cons b h=>exact .cons a ih
      have:=key hx
      rwa [← List.map_dropLast] at this
end
end TL
end
section
namespace TL
open PySem PySem.Spec L2
section
variable {K:jf} {ε ε' ρ α β γ δ S τ τ' σt ω Ω:Type} {X:L2.St→XK} {Xk:XK} {De:ε→Own} {G G1 G2:Sto} {D0:Own} {Dd:S→Own} {s:S} {te ta tb tc tx:TE} {tt tu:TT} {F0 F1:Hp} {E:Ends} {w:Wish K ε ρ} {t:TA} {n:Nat} {Rs:τ→List Ty} {gt:Ω→ω} {st:Ω→ω→Ω} {O:ω→OTy} {k:Nat} {a:Addr}
theorem Bor.ahead {Dp:Ω→Own} {c:Ω→Addr×OTy} (B:Bor Dp k a O gt st) (h:∀ w v,c (st w v)=c w):Bor (fun w=>c w::Dp w) (k+1) a O gt st:=
 ⟨fun w=>by rw [ig];exact B.at_ w,fun w v=>by rw [List.set_cons_succ,B.set_ w v,h]⟩
theorem Bor.at0 {D:Ω→Own} (h1:∀ w v,gt (st w v)=v) (h2:∀ w v,D (st w v)=D w):Bor (fun w=>(a,O (gt w))::D w) 0 a O gt st:=
 ⟨fun w=>rfl,fun w v=>by rw [List.set_cons_zero,h1,h2]⟩
theorem Bor.of1 {Dp:ω→Own} (B:Bor1 Dp k a O) (h1:∀ w v,gt (st w v)=v):Bor (fun w=>Dp (gt w)) k a O gt st:=
 ⟨fun w=>B.at_ (gt w),fun w v=>by rw [h1];exact B.set_ (gt w) v⟩
theorem Pi {args:Addr→τ→List Ty} {mf:τ→ω→Res ω (γ×ω)} {R:γ→Ty} {Dd:Ω→Own} {s:Ω} {M:(τ→Ω→Res ε δ)→Res ε δ} {sp:Sp} (hsp:∀ vs H Q X,spC K O args mf (fun r=>.ok (R r)) vs H Q X→sp vs H Q X) {g:Ω→ω→ε} (B:Bor Dd k a O gt st) (h:EvAC K (fun _=>Xk) De t G Dd s M (args a)) (hde:∀ s y,(De (g s y)).Sublist (Dd (st s y))) (hsg:∀ w v v',st (st w v) v'=st w v') (hgs:∀ w v,gt (st w v)=v) (hid:∀ w,st w (gt w)=w) :
    EvC K (fun _=>Xk) De (tCall sp [] Xk t) G Dd s (fun kk=>M fun x s1=>Res.bind (Res.mapE (g s1) (mf x (gt s1))) fun z=>kk z.1 (st s1 z.2)) R:=fun kk σ H F hs ss o r Q hm q qe=>
  h _ σ H F hs ss o r _ hm (fun x s1 vs H1 F1 t1 hs1 r1 hm1=>hsp _ _ _ _ ⟨x,gt s1,F1,fun y=>Dd (st s1 y),k,a,⟨fun y=>by rw [B.at_,hgs];rfl,fun y v=>by rw [B.set_,hsg]⟩,by show HS (Dd (st s1 (gt s1))) H1 F1;rw [hid];exact hs1,by rw [iI];exact r1,by
    cases e:mf x (gt s1) with
    | ok z=>
      rw [e] at hm1
      exact fun v H2 F2 t2 hs2 r2=>q z.1 (st s1 z.2) v H2 F2 (t1.trans t2) hs2 r2 hm1
    | err n u=>
      rw [e] at hm1
      exact fun H2 F2 t2 hs2=>qe n _ hm1 H2 F2 (t1.trans t2) (hs2.drop (hde s1 u))
    | stuck=>
      rw [e] at hm1
      exact hm1⟩) qe
theorem Yc {R:α→Ty} {i:Nat} {Dd:Ω→Own} {s:Ω} {gt:Ω→List α} {st:Ω→List α→Ω} (B:Bor Dd k a (OLT R) gt st) (hi:G[i]?=some (some (Is (.ref a)))):EvC (β:=δ) K X De (tBM0 K "list" rPop (tVar i)) G Dd s (fun kk=>Res.bind (Res.opt (popL (gt s))) fun z=>kk z.1 (st s z.2)) R:=fun kk σ H F hs ss o r Q hm q qe=>by
  obtain ⟨v,e1,e2⟩:=ss.get hi
  have ev:v=.ref a:=e2
  subst ev
  obtain ⟨z,ez,hm2⟩:=Res.FE hm
  obtain ⟨o1,ho,vs,rfl,hx⟩:=hs.at (B.at_ s)
  generalize gt s=xs at ez hx
  unfold popL at ez
  have ln:=hx.len
  rw [gy] at ln
  cases el:xs.getLast? with
  | none=>simp [el] at ez
  | some y=>
    simp only [el] at ez
    cases ez
    rw [List.getLast?_eq_getElem?] at el
    have e3:(xs.map R)[xs.length - 1]?=some (R y):=by rw [iB,el];rfl
    obtain ⟨u,hu,ru⟩:=hx.get e3
    refine ⟨_,e1,.inl ⟨rfl,vs,SqL.of ho⟩,a,vs,u,rfl,rfl,ho,by rw [ln];exact hu,?_⟩
    refine q y (st s xs.dropLast) u _ F (Same.refl _) ?_ ru hm2
    have z:=hs.put (O':=OLT R xs.dropLast) (o:=.lst vs.dropLast) (B.at_ s) ⟨_,rfl,?_⟩
    · rw [B.set_ s] at z
      exact z
    · have key:∀ {Rs:List Ty} {us:List V},AllP F Rs us→AllP F Rs.dropLast us.dropLast:=by
        intro Rs us h
        induction h with
        | nil=>exact .nil
        | cons a h ih=>
          cases h with
          | nil=>exact .nil
          | cons b h=>exact .cons a ih
      have:=key hx
      rwa [← List.map_dropLast] at this
end
end TL
end
section
namespace TL
open PySem PySem.Spec L2
section
variable {K:jf} {ε ε' ρ α β γ δ S τ τ' σt ω Ω:Type} {X:L2.St→XK} {Xk:XK} {De:ε→Own} {G G1 G2:Sto} {D0:Own} {Dd:S→Own} {s:S} {te ta tb tc tx:TE} {tt tu:TT} {F0 F1:Hp} {E:Ends} {w:Wish K ε ρ} {t:TA} {n:Nat}
theorem JG {F:Hp} {R:α→Ty} {xs ys:List α} {vs us:List V} (h:AllP F (xs.map R) vs) (h2:AllP F (ys.map R) us):AllP F ((xs++ys).map R) (vs++us):=by
 rw [i8]
 exact h.app h2
theorem V4 {R:α→Ty} {xs:List α} {k:Nat} {a:Addr} {M:(List α→S→Res ε ρ)→Res ε ρ} {kk:List α×S→Res ε ρ} (ho:G[n]?=some (some (Is (.ref a)))) (h:EvNC K w.X w.De te G Dd s M (OLT R)) (hk:∀ s,(Dd s)[k]?=some (a,OLT R xs))
    {m:Res ε ρ} (hP:w.W F0 m) (q:∀ x,w.W F0 (kk x)→Go E.nx F0 G ((Dd x.2).set k (a,OLT R x.1))) (c:w.cond G:=by first | exact trivial | walk_at "cond") (hm:m=(M fun v s'=>Res.bind (Res.grd (xs.length+v.length≤100000) (xs++v,s')) kk):=by exact rfl):Go (tDrop (tBM K "list" rExtend (tVar n) (tCons te tNil)) E) F0 G (Dd s):=by subst hm;exact (fun σ H F t hs ss=>by
  obtain ⟨v0,e0,r0⟩:=ss.get ho
  have r0':v0=.ref a:=r0
  subst r0'
  obtain ⟨o1,ho1,xs1,rfl,h21⟩:=hs.at (hk s)
  refine ⟨_,e0,.inl ⟨rfl,xs1,SqL.of ho1⟩,h _ σ H F hs ss _ _ _ hP (fun ys s' p H1 F1 t1 hs1 hm=>?_) (fun n e hr H1 F1 t1 hs1=>w.err hr c σ H1 F1 (t.trans t1) hs1 (ss.mono t1))⟩
  obtain ⟨hl,hm2⟩:=Res.DE hm
  have hk1:((p,OLT R ys)::Dd s')[k+1]?=some (a,OLT R xs):=by rw [ig];exact hk s'
  obtain ⟨o,ho2,vs,rfl,h2⟩:=hs1.at hk1
  obtain ⟨o3,ho3,us,rfl,h3⟩:=hs1.at (k:=0) rfl
  have l2:=h2.len
  have l3:=h3.len
  rw [gy] at l2 l3
  refine ⟨a,p,vs,us,rfl,rfl,ho2,ho3,by rw [l2,l3];exact iH hl Aq,?_⟩
  have z:=hs1.put (O':=OLT R (xs++ys)) (o:=.lst (vs++us)) hk1 ⟨_,rfl,JG h2 h3⟩
  rw [List.set_cons_succ] at z
  exact q (xs++ys,s') hm2 σ _ F1 (t.trans t1) (z.drop (List.sublist_cons_self _ _)) (ss.mono t1))
end
def du (K:jf):List V→Hp→VK→Prop:=fun xs H Q=>∃ a kvs,xs=[.ref a]∧Rd H a (.dK kvs)∧∀ p,H p=none→Q (.ref p) (upd H p (.dK kvs))
theorem Yd {X:Cx}:CallR X (.type "dict") (du X.K):=by
 intro pins s σ H xs us Q I r h
 obtain ⟨a,kvs,rfl,e,q⟩:=h
 obtain ⟨u,rfl,r1⟩:=vals1 r
 cases (show u=Value.ref a from r1)
 exact d_copyOf I e fun p s' hp I2=>⟨.ref p,_,I2,rfl,q p hp⟩
end TL
end
section
namespace TL
open PySem PySem.Spec L2
section
variable {K:jf} {ε ε' ρ α β γ δ S τ τ' σt ω:Type} {X:L2.St→XK} {Xk:XK} {De:ε→Own} {G G1 G2:Sto} {D0:Own} {Dd:S→Own} {s:S} {te ta tb tc tx:TE} {tt tu:TT} {F0 F1:Hp} {E:Ends} {w:Wish K ε ρ} {t:TA}
def hasC (b:Addr) (O:OTy):Own→Prop:=fun D=>(b,O)∈D
theorem cW {b:Addr} {O:OTy} {k:Nat} (hk:∀ s,(Dd s)[k]?=some (b,O)):∀ s c,hasC b O (c::Dd s):=fun s c=>gz _ (iM (hk s))
end
end TL
end
section
namespace TL
open PySem PySem.Spec L2
def DLe (D D':Own):Prop:=∀ H F,HS D H F→HS D' H F
theorem DLe.of {D D':Own} (s:D'.Sublist D):DLe D D':=fun _ _ h=>h.drop s
theorem DLe.rfl {D:Own}:DLe D D:=fun _ _ h=>h
theorem DLe.trans {D D' D2:Own} (h:DLe D D') (h':DLe D' D2):DLe D D2:=fun H F q=>h' H F (h H F q)
def RdC (D:Own) (a:Addr) (O:OTy):Prop:=∃ k:Nat,D[k]?=some (a,O)
theorem RdC.cons {D:Own} {a:Addr} {O:OTy} {c:Addr×OTy} (h:RdC D a O):RdC (c::D) a O:=let ⟨k,e⟩:=h;⟨k+1,by rw [ig];exact e⟩
theorem RdC.of {D:Own} {a:Addr} {O:OTy} {k:Nat} (h:D[k]?=some (a,O)):RdC D a O:=⟨k,h⟩
theorem Bor.sub {S Ω ω:Type} {Dp:Ω→Own} {k:Nat} {a:Addr} {O:ω→OTy} {gt:Ω→ω} {st:Ω→ω→Ω} (B:Bor Dp k a O gt st) {f:S→Ω} {gt':S→ω} {st':S→ω→S} (h1:∀ s,gt (f s)=gt' s) (h2:∀ s v,st (f s) v=f (st' s v)):Bor (fun s=>Dp (f s)) k a O gt' st':=
 ⟨fun s=>by rw [B.at_,h1],fun s v=>by rw [B.set_,h2]⟩
def spR (K:jf) {τ ρ:Type} (args:τ→List Ty) (pl:τ→Own→Prop) (mf:τ→Res Unit ρ) (out:ρ→Out):Sp:=fun vs H Q X=>∃ (x:τ) (F:Hp) (D:Own),pl x D∧HS D H F∧AllP F (args x) vs∧(dwish K X Q out (fun _=>D) (fun _:Unit=>D)).W F (mf x)
section
variable {K:jf} {ε ε' ρ α β γ δ S τ τ' σt ω Ω:Type} {X:L2.St→XK} {Xk:XK} {De:ε→Own} {G G1 G2:Sto} {D0:Own} {Dd:S→Own} {s:S} {te ta tb tc tx:TE} {tt tu:TT} {F0 F1:Hp} {E:Ends} {w:Wish K ε ρ} {t:TA} {n:Nat} {dvs:List V} {args:τ→List Ty} {Rs:τ'→List Ty} {C:Addr} {pl:τ→Own→Prop} {plm:τ→(Ω→Own)→Prop} {sp:Sp} {m:Str}
theorem hdR0 {S τ':Type} {Rs:τ'→List Ty}:∀ (x:τ') (s:S) (F:Hp) (vs:List V),AllP F (Rs x) vs→AllP F (Rs x) (vs++[]):=fun x s F vs h=>by rw [iI];exact h
theorem Ye {mf:τ→Res Unit γ} {R:γ→Ty} {f:τ'→S→τ} {M:(τ'→S→Res ε δ)→Res ε δ} (hsp:∀ vs H Q X,spR K args pl mf (fun r=>.ok (R r)) vs H Q X→sp vs H Q X) {g:S→ε} (h:EvAC K X De t G Dd s M Rs) (hpl:∀ x s,pl (f x s) (Dd s)) (hde:∀ s,DLe (Dd s) (De (g s))) (hd:∀ x s F vs,AllP F (Rs x) vs→AllP F (args (f x s)) (vs++dvs)) :
    EvC K X De (cI sp dvs X t) G Dd s (fun kk=>M fun x s1=>Res.bind (Res.mapE (fun _=>g s1) (mf (f x s1))) fun z=>kk z s1) R:=fun kk σ H F hs ss o r Q hm q qe=>
  h _ σ H F hs ss o r _ hm (fun x s1 vs H1 F1 t1 hs1 r1 hm1=>hsp _ _ _ _ ⟨f x s1,F1,Dd s1,hpl x s1,hs1,hd _ _ _ _ r1,by
    cases e:mf (f x s1) with
    | ok z=>
      rw [e] at hm1
      exact fun v H2 F2 t2 hs2 r2=>q z s1 v H2 F2 (t1.trans t2) hs2 r2 hm1
    | err n u=>
      rw [e] at hm1
      exact fun H2 F2 t2 hs2=>qe n _ hm1 H2 F2 (t1.trans t2) (hde s1 _ _ hs2)
    | stuck=>
      rw [e] at hm1
      exact hm1⟩) qe
theorem Xx {mf:τ→Res Unit γ} {out:γ→Out} {n:Nat} (e:∀ x,(args x).length=n):∀ vs H Q E,spR K args pl mf out vs H Q E→vs.length=n:=fun vs H Q E ⟨x,F,D,_,_,ha,_⟩=>by rw [ha.len,e]
end
end TL
end
section
namespace TL
open PySem PySem.Spec L2
theorem at_n {S:Type} {Dd:S→Own} {c:S→Addr×OTy} (n:Nat) (h:∀ s,(Dd s)[n]?=some (c s)):∀ s,(Dd s)[n]?=some (c s):=h
section
variable {K:jf} {ε ε' ρ α β γ δ S τ τ' σt ω Ω:Type} {X:L2.St→XK} {Xk:XK} {De:ε→Own} {G G1 G2:Sto} {D0:Own} {Dd:S→Own} {s:S} {te ta tb tc tx:TE} {tt tu:TT} {F0 F1:Hp} {E:Ends} {w:Wish K ε ρ} {t:TA} {n:Nat} {dvs:List V} {args:τ→List Ty} {Rs:τ'→List Ty} {C:Addr} {pl:τ→Own→Prop} {plm:τ→(Ω→Own)→Prop} {sp:Sp} {m:Str}
theorem Xy {b:Addr} {O:OTy} {k:Nat} {Ds:σt→Own} (hk:∀ s,(Ds s)[k]?=some (b,O)):∀ s,hasC b O (Ds s):=fun s=>iM (hk s)
theorem LZ {mf:τ→Res Unit γ} {R:γ→Ty} {f:τ'→S→τ} {M:(τ'→S→Res ε δ)→Res ε δ} (hsp:∀ vs H Q X,spR K args pl mf (fun r=>.ok (R r)) vs H Q X→sp vs H Q X) {g:S→ε} (h:EvAC K (fun _=>Xk) De t G Dd s M Rs) (hpl:∀ x s,pl (f x s) (Dd s)) (hde:∀ s,DLe (Dd s) (De (g s))) (hd:∀ x s F vs,AllP F (Rs x) vs→AllP F (args (f x s)) (vs++dvs)) :
    EvC K (fun _=>Xk) De (tCall sp dvs Xk t) G Dd s (fun kk=>M fun x s1=>Res.bind (Res.mapE (fun _=>g s1) (mf (f x s1))) fun z=>kk z s1) R:=Ye (g:=g) hsp h hpl hde hd
end
end TL
end
section
namespace TL
open PySem PySem.Spec L2
def PuT (K:jf) (F:Hp) (a:Addr) (xs:List V):Prop:=(∃ o,F a=some (.frz o (.tup xs))∧o.dict=none)∨∃ (o:Obj) (its:Array Value) (n:Nat),K.lookup a=some o∧o.cls=.type "tuple"∧o.dict=none∧o.data=.seq its n∧its.size≤sizeLine∧Vals xs its.toList
theorem PuT.sq {K:jf} {F:Hp} {a:Addr} {xs:List V} (h:PuT K F a xs):SqT K F a xs:=by
 rcases h with ⟨o,h,_⟩ | ⟨o,its,n,h1,h2,h3,h4,h5,h6⟩
 ·exact .inl (.inr ⟨o,h⟩)
 ·exact .inr ⟨o,its,n,h1,h2,h4,h5,h6⟩
theorem PuT.up {K:jf} {F F':Hp} {a:Addr} {xs:List V} (s:Same F F') (h:PuT K F a xs):PuT K F' a xs:=by
 rcases h with ⟨o,h,q⟩ | h
 ·exact .inl ⟨o,s _ _ h,q⟩
 ·exact .inr h
section
variable {X:Cx} {t:TA} {es:List Expr} {pos:Pos}
def BJ (t:TA):TE:=fun σ H Q=>t σ H fun xs H1=>xs.length≤sizeLine∧∀ p o,H1 p=none→o.dict=none→Q (.ref p) (upd H1 p (.frz o (.tup xs)))
theorem AX {x1} (h:PA X es t):PE X (.Tuple es x1 pos) (BJ t):=by
 refine ⟨fun pins s σ H Q I hq=>?_⟩
 refine wpAny_Tuple_spliced (thn (h.run pos pins s σ H _ I hq) fun us s1 ⟨xs,H1,I1,r,z,q⟩=>⟨by rw [← r.length];exact z,?_⟩)
 have hf:H1 s1.heap.objs.size=none:=I1.hok.fresh (iA _)
 refine ⟨.ref s1.heap.objs.size,_,I1.laid (t':=s1.toks) (o:=.frz { cls:=.type "tuple",data:=.seq us.toArray } (.tup xs)) (fun b u e=>Heap.get?_push_of_some _ e) (iA _) ?_,rfl,q _ _ hf rfl⟩
 exact ⟨Heap.get?_push_size _ rfl,z,us,r,⟨_,Heap.get?_push_size _ rfl,rfl,_,rfl⟩⟩
def Pj (K:jf):List V→Hp→VK→Prop:=fun xs H Q=>∃ p ys,xs=[.ref p]∧((SqL K H p ys∧∀ l o,H l=none→o.dict=none→Q (.ref l) (upd H l (.frz o (.tup ys))))∨(SqT K H p ys∧Q (.ref p) H))
theorem JH:CallR X (.type "tuple") (Pj X.K):=by
 intro pins s σ H xs us Q I r h
 obtain ⟨p,ys,rfl,h⟩:=h
 obtain ⟨u,rfl,rx⟩:=vals1 r
 cases rx
 rcases h with ⟨hq,q⟩ | ⟨hq,q⟩
 ·obtain ⟨its,r',pl,hz⟩:=I.list hq
  have hlen:=r'.length
  refine call_tuple_list pl.isList (fun h' kp=>?_) (by simp only [jb] <;> omega)
  have I1:Inv X pins σ H { s with heap:=h' }:=I.kept (t':=s.toks) kp
  have I2:Inv X pins σ (upd H h'.objs.size (.frz { cls:=.type "tuple",data:=.seq its.toArray } (.tup ys))) { s with heap:=h'.push { cls:=.type "tuple",data:=.seq its.toArray } }:=
   I1.laid (t':=s.toks) (fun b o e=>Heap.get?_push_of_some _ e) (iA _) (show ObjOk X.prog X.w _ _ _ (.frz _ (.tup ys)) from ⟨Heap.get?_push_size _ rfl,hz,its,r',PyProof.Rows.IsTup.new _ _⟩)
  exact ⟨.ref h'.objs.size,_,I2,rfl,q _ _ (I1.hok.fresh (iA _)) rfl⟩
 ·obtain ⟨its,r',pl,hz⟩:=I.tuple hq
  exact call_tuple_same pl ⟨.ref p,H,I,rfl,q⟩
theorem Zv {pins:List (Addr×Obj)} {σ:L2.St} {H:Hp} {s:Shared} {a:Addr} {xs:List V} (I:Inv X pins σ H s) (h:PuT X.K H a xs):∃ its:List Value,Vals xs its∧PlainSeq "tuple" s.heap a its.toArray∧xs.length≤sizeLine:=by
 rcases h with ⟨o,h,hd⟩ | ⟨o,its,n,hk,hc,hd,hs,hz,r⟩
 ·obtain ⟨e,z,its,r,⟨o2,e2,c2,n2,d2⟩⟩:=(show ObjOk X.prog X.w H s.heap a (.frz o (.tup xs)) from I.hok a _ h)
  rw [e] at e2
  cases e2
  exact ⟨its,r,⟨o,n2,e,c2,hd,d2⟩,z⟩
 ·refine ⟨its.toList,r,⟨o,n,I.kIn a o hk,hc,hd,by simpa using hs⟩,?_⟩
  have e:=r.length
  simp only [iU] at e
  omega
theorem Se {pins:List (Addr×Obj)} {σ:L2.St} {H:Hp} {s:Shared} (I:Inv X pins σ H s):∀ {ps:List Addr} {kvs:List (L2.Key×V)},Paired (fun p kv=>SqT X.K H p [kV kv.1,kv.2]) ps kvs →
    ∃ (prs:List (L2.Key×Value)) (us:List (Value×Value)),KV kvs prs∧prs.length=ps.length∧us.length=ps.length∧∀ (j:Nat) (k v:Value),us[j]?=some (k,v)→∃ (b:Addr) (key:L2.Key),ps[j]?=some b∧s.heap.IsTuple b #[k,v]∧prs[j]?=some (key,v)∧keyIs key k=true
  | _,_,.nil=>⟨[],[],.nil,rfl,rfl,fun j k v e=>by simp at e⟩
  | _,_,.cons (a:=p) (b:=kv) h t=>by
    obtain ⟨prs,us,r,hl,hl2,hp⟩:=Se I t
    obtain ⟨its,rv,ht,_⟩:=I.tuple h
    obtain ⟨u,y,ei,ru,ry⟩:=vals2 rv
    subst ei
    refine ⟨(kv.1,y)::prs,(u,y)::us,.cons ⟨rfl,ry⟩ r,by rw [i7,i7,hl],by rw [i7,i7,hl2],fun j k v e=>?_⟩
    cases j with
    | zero=>
      have e':(u,y)=(k,v):=Option.some.inj e
      cases e'
      exact ⟨p,kv.1,rfl,ht,rfl,kV_is (P:=X.prog) (w:=X.w) ru⟩
    | succ j=>
      obtain ⟨b,key,e1,e2,e3,e4⟩:=hp j k v (by simpa using e)
      exact ⟨b,key,by simpa using e1,e2,by simpa using e3,e4⟩
def dw (K:jf):List V→Hp→VK→Prop:=fun xs H Q=>∃ (a:Addr) (ps:List Addr) (kvs:List (L2.Key×V)),xs=[.ref a]∧PuT K H a (ps.map V.ref)∧Paired (fun p kv=>SqT K H p [kV kv.1,kv.2]) ps kvs ∧
    ∀ p,H p=none→Q (.ref p) (upd H p (.dK (mergeK [] kvs)))
theorem Yf (hcalm:X.calm=true):CallR X (.type "dict") (dw X.K):=by
 intro pins s σ H xs us Q I r q
 obtain ⟨a,ps,kvs,ex,hq,hp,q⟩:=q
 subst ex
 obtain ⟨u,eu,rx⟩:=vals1 r
 subst eu
 cases rx
 obtain ⟨its,rv,pl,hz⟩:=Zv I hq
 have ei:=refs_at rv
 subst ei
 rw [gy] at hz
 obtain ⟨prs,vs,rel,hl,hl2,hpr⟩:=Se I hp
 refine call_dict_pairs (knd:=mixKind X.prog X.w) (kvs:=prs) (PairArg.tuple a (ps.map Value.ref).toArray (fun j=>ps.getD j 0) vs) (I.ok.hd hcalm) ⟨pl,by simp [hl2],fun j k v e=>?_⟩ ⟨by rw [hl,hl2],fun i key v e=>?_⟩ (by rw [hl2];exact hz) fun h' tk hd' k=>?_
 ·obtain ⟨b,key,e1,e2,_,_⟩:=hpr j k v e
  have e3:ps.getD j 0=b:=by rw [hU,e1];rfl
  exact ⟨by dsimp only;rw [e3];simp [e1],by dsimp only;rw [e3];exact .inl e2⟩
 ·obtain ⟨b,k2,e1,e2,e3,e4⟩:=hpr i key v e
  exact ⟨k2,e3,e4⟩
 ·have hm:(s.heap.objs.size == sysModules)=false:=beq_eq_false_iff_ne.mpr (Nat.ne_of_gt I.big)
  have hlen:(mergeK [] kvs).length≤sizeLine:=by
   refine iH (length_mergeK kvs []) ?_
   rw [List.length_nil,Nat.zero_add,rel.length,hl]
   exact hz
  exact ⟨.ref s.heap.objs.size,upd H s.heap.objs.size (.dK (mergeK [] kvs)),I.laid (t':=tk) (fun b o e=>k b o (by simp) e) (iA _) (show ObjOk X.prog X.w _ _ _ (.dK (mergeK [] kvs)) from ⟨hlen,hm,merged [] prs,KV.merge rel .nil,hd'⟩),rfl,q _ (I.hok.fresh (iA _))⟩
end
end TL
end
section
namespace TL
open PySem PySem.Spec L2
def TU (K:jf) (Rs:List Ty):Ty:=⟨fun v F=>∃ a vs,v=.ref a∧SqT K F a vs∧AllP F Rs vs,fun s ⟨a,vs,e,h1,h2⟩=>⟨a,vs,e,KG s h1,h2.mono s⟩⟩
def VP (K:jf) {α:Type} (R:α→Ty) (xs:List α):Ty:=⟨fun v F=>∃ a vs,v=.ref a∧PuT K F a vs∧AllP F (xs.map R) vs,fun s ⟨a,vs,e,h1,h2⟩=>⟨a,vs,e,h1.up s,h2.mono s⟩⟩
def OpT {α:Type} (K:jf) (R:α→Ty) (x:Option α):Ty:=⟨fun v F=>match x with
 | none=>v=.non
 | some y=>(R y).p v F,fun {v F F'} s h=>by cases x with
 | none=>exact h
 | some y=>exact (R y).mono s h⟩
abbrev Dat (K:jf) (R:Ty) (d:PyData):Prop:=∀ v F,R.p v F→Dp K F v d
def DD (K:jf) (Rs:List Ty) (ds:List PyData):Prop:=∀ F vs,AllP F Rs vs→DpAll K F vs ds
section
variable {K:jf} {α β:Type}
theorem Aa:DD K [] []:=fun F vs h=>by cases h;exact .nil
theorem AC {R:Ty} {Rs:List Ty} {d:PyData} {ds:List PyData} (h:Dat K R d) (t:DD K Rs ds):DD K (R::Rs) (d::ds):=fun F vs r=>by
 cases r with
 | cons r1 r2=>exact .cons (h _ _ r1) (t _ _ r2)
theorem Te {R:α→Ty} {e:α→PyData} (h:∀ x,Dat K (R x) (e x)):∀ xs:List α,DD K (xs.map R) (xs.map e)
 | []=>Aa
 | x::xs=>AC (h x) (Te h xs)
theorem d_b {e:α→PyData} (x:α):Dat K (tD K e x) (e x):=fun _ _ h=>h
theorem d_T {Rs:List Ty} {ds:List PyData} (h:DD K Rs ds):Dat K (TU K Rs) (.tuple ds):=fun v F ⟨a,vs,e,h1,h2⟩=>by subst e;exact .tup h1 (h _ _ h2)
theorem d_V {R:α→Ty} {e:α→PyData} (h:∀ x,Dat K (R x) (e x)) (xs:List α):Dat K (VP K R xs) (eV e xs):=fun v F ⟨a,vs,e0,h1,h2⟩=>by subst e0;exact .tup h1.sq (Te h xs _ _ h2)
theorem d_L {R:α→Ty} {e:α→PyData} (h:∀ x,Dat K (R x) (e x)) (xs:List α):Dat K (LT K R xs) (eL e xs):=fun v F ⟨a,vs,e0,h1,h2⟩=>by subst e0;exact .lst h1 (Te h xs _ _ h2)
abbrev Tad (K:jf) (R:Ty) (d:PyData):Prop:=∀ v F,Dp K F v d→R.p v F
def AA (K:jf) (Rs:List Ty) (ds:List PyData):Prop:=∀ F vs,DpAll K F vs ds→AllP F Rs vs
theorem fA:AA K [] []:=fun F vs h=>by cases h;exact .nil
theorem cX {R:Ty} {Rs:List Ty} {d:PyData} {ds:List PyData} (h:Tad K R d) (t:AA K Rs ds):AA K (R::Rs) (d::ds):=fun F vs r=>by
 cases r with
 | cons r1 r2=>exact .cons (h _ _ r1) (t _ _ r2)
theorem Zw {R:α→Ty} {e:α→PyData} (h:∀ x,Tad K (R x) (e x)):∀ xs:List α,AA K (xs.map R) (xs.map e)
 | []=>fA
 | x::xs=>cX (h x) (Zw h xs)
theorem u_id {d:PyData}:Tad K (TL.D K d) d:=fun _ _ h=>h
theorem u_b {e:α→PyData} (x:α):Tad K (tD K e x) (e x):=fun _ _ h=>h
theorem u_L {R:α→Ty} {e:α→PyData} (h:∀ x,Tad K (R x) (e x)) (xs:List α):Tad K (LT K R xs) (eL e xs):=fun v F r=>by
 obtain ⟨a,vs,e,h1,h2⟩:=ZM r
 exact ⟨a,vs,e,h1,Zw h xs _ _ h2⟩
end
structure KeyE (κ:Type) where
 f:κ→L2.Key
 inj:∀ a b,f a=f b→a=b
def kS:KeyE Tx:=⟨fun t=>Sum.inr t.s,fun a b h=>Tx.ext' (Sum.inr.inj h)⟩
inductive EntT {κ α:Type} (k:KeyE κ) (R:α→Ty) (F:Hp):List (L2.Key×V)→List (κ×α)→Prop
 | nil:EntT k R F [] []
 | cons {x:κ} {v:V} {d:α} {kvs:List (L2.Key×V)} {m:List (κ×α)}:(R d).p v F→EntT k R F kvs m→EntT k R F ((k.f x,v)::kvs) ((x,d)::m)
section
variable {κ α:Type} [DecidableEq κ] {k:KeyE κ} {R:α→Ty} {F F':Hp} {kvs:List (L2.Key×V)} {m:List (κ×α)}
omit [DecidableEq κ] in
theorem EntT.mono (h:EntT k R F kvs m) (s:Same F F'):EntT k R F' kvs m:=by
 induction h with
 | nil=>exact .nil
 | cons h _ ih=>exact .cons ((R _).mono s h) ih
omit [DecidableEq κ] in
theorem EntT.len (h:EntT k R F kvs m):kvs.length=m.length:=by
 induction h with
 | nil=>rfl
 | cons _ _ ih=>simp [ih]
omit [DecidableEq κ] in
theorem EntT.keys (h:EntT k R F kvs m):kvs.map (·.1)=m.map fun e=>k.f e.1:=by
 induction h with
 | nil=>rfl
 | cons _ _ ih=>simp [ih]
theorem EntT.get (h:EntT k R F kvs m) (x:κ):(dget m x=none∧valV kvs (k.f x)=none)∨∃ d v,dget m x=some d∧valV kvs (k.f x)=some v∧(R d).p v F:=by
 induction h with
 | nil=>exact .inl ⟨rfl,rfl⟩
 | @cons x' v d kvs m hd _ ih=>
  by_cases e:x'=x
  ·subst e
   exact .inr ⟨d,v,by simp [dget],by simp [valV],hd⟩
  ·have e1:dget ((x',d)::m) x=dget m x:=by simp [dget,e]
   have e2:valV ((k.f x',v)::kvs) (k.f x)=valV kvs (k.f x):=valV_neg (fun z=>e (k.inj _ _ z))
   rw [e1,e2]
   exact ih
theorem EntT.any (h:EntT k R F kvs m) (x:κ):(kvs.any fun e=>decide (e.1=k.f x))=(m.any fun e=>decide (e.1=x)):=by
 induction h with
 | nil=>rfl
 | @cons x' v d kvs m _ _ ih=>
  rw [iu,iu,ih]
  congr 1
  by_cases e:x'=x
  ·subst e;simp
  ·have e':¬ k.f x'=k.f x:=fun z=>e (k.inj _ _ z)
   simp [e,e']
omit [DecidableEq κ] in
theorem EntT.snoc (h:EntT k R F kvs m) {x:κ} {v:V} {d:α} (hd:(R d).p v F):EntT k R F (kvs++[(k.f x,v)]) (m++[(x,d)]):=by
 induction h with
 | nil=>exact .cons hd .nil
 | cons h _ ih=>exact .cons h ih
theorem EntT.repl (h:EntT k R F kvs m) {x:κ} {v:V} {d:α} (hd:(R d).p v F) :
    EntT k R F (kvs.map fun e=>if e.1=k.f x then (e.1,v) else e) (m.map fun e=>if e.1=x then (e.1,d) else e):=by
  induction h with
  | nil=>exact .nil
  | @cons x' v' d' kvs m h _ ih=>
    rw [hG,hG]
    by_cases e:x'=x
    · subst e
      rw [if_pos rfl,if_pos rfl]
      exact .cons hd ih
    · rw [if_neg (fun z=>e (k.inj _ _ z)),if_neg e]
      exact .cons h ih
theorem EntT.put (h:EntT k R F kvs m) {x:κ} {v:V} {d:α} (hd:(R d).p v F):EntT k R F (putK kvs (k.f x) v) (dput m x d):=by
 unfold putK dput
 rw [h.any x]
 split
 ·exact h.repl hd
 ·exact h.snoc hd
theorem EntT.drop (h:EntT k R F kvs m) (x:κ):EntT k R F (dropK kvs (k.f x)) (m.filter fun e=>decide (e.1≠x)):=by
 induction h with
 | nil=>exact .nil
 | @cons x' v' d' kvs m h _ ih=>
  unfold dropK at ih ⊢
  rw [List.filter_cons,List.filter_cons]
  by_cases e:x'=x
  ·subst e
   simpa using ih
  ·have e':¬ k.f x'=k.f x:=fun z=>e (k.inj _ _ z)
   simp only [ne_eq,e,e',not_false_eq_true,decide_true,if_true]
   exact .cons h ih
end
def dof {κ α:Type} [DecidableEq κ] (ps:List (κ×α)):List (κ×α):=ps.foldl (fun a e=>dput a e.1 e.2) []
def dmerge {κ α:Type} [DecidableEq κ] (m ps:List (κ×α)):List (κ×α):=ps.foldl (fun a e=>dput a e.1 e.2) m
def ddrop {κ α:Type} [DecidableEq κ] (m:List (κ×α)) (x:κ):List (κ×α):=m.filter fun e=>decide (e.1≠x)
def OXT {κ α:Type} (k:KeyE κ) (R:α→Ty) (m:List (κ×α)):OTy:=.fl (fun o F=>∃ kvs,o=.dK kvs∧EntT k R F kvs m) (fun s ⟨kvs,e,h⟩=>⟨kvs,e,h.mono s⟩)
def DT {κ α:Type} (k:KeyE κ) (R:α→Ty) (m:List (κ×α)):Ty:=⟨fun v F=>∃ a od kvs,v=.ref a∧F a=some (.frz od (.dK kvs))∧EntT k R F kvs m,fun s ⟨a,od,kvs,h0,h1,h2⟩=>⟨a,od,kvs,h0,s _ _ h1,h2.mono s⟩⟩
abbrev KeyV {κ:Type} (k:KeyE κ) (Rk:κ→Ty):Prop:=∀ x v F,(Rk x).p v F→v=kV (k.f x)
theorem kvS {K:jf}:KeyV kS (tD K eS):=fun x v F r=>KF r
section
variable {K:jf} {ε ε' ρ α β γ δ S τ τ' σt ω κ:Type} [DecidableEq κ] {X:L2.St→XK} {De:ε→Own} {G G1 G2:Sto} {D0:Own} {Dd:S→Own} {s:S} {te ta tb tc tx:TE} {tt tu:TT} {F0 F1:Hp} {E:Ends} {w:Wish K ε ρ} {t:TA} {n:Nat} {k:KeyE κ} {Rk:κ→Ty} {Rv:β→Ty}
def DVw {S α β κ:Type} (Dd:S→Own) (R:α→Ty) (f:α→List (κ×β)) (k:KeyE κ) (Rv:β→Ty):Prop:=∀ x s v H F,HS (Dd s) H F→(R x).p v F→∃ a kvs,v=.ref a∧EntT k Rv F kvs (f x)∧(H a=some (.dK kvs)∨∃ od,H a=some (.frz od (.dK kvs)))
omit [DecidableEq κ] in
theorem dw_Z:DVw Dd (DT k Rv) id k Rv:=fun x s v H F hs ⟨a,od,kvs,h0,h1,h2⟩=>⟨a,kvs,h0,h2,.inr ⟨od,hs.sub _ _ h1⟩⟩
omit [DecidableEq κ] in
theorem dw_O {m:List (κ×β)} {a:Addr} {j:Nat} (hk:∀ s,(Dd s)[j]?=some (a,OXT k Rv m)):DVw Dd (fun _:Unit=>Is (.ref a)) (fun _=>m) k Rv:=fun x s v H F hs r=>by
 obtain ⟨o,ho,kvs,rfl,h⟩:=hs.at (hk s)
 exact ⟨a,kvs,r,h,.inl ho⟩
theorem Pk {H:Hp} {a:Addr} {kvs:List (L2.Key×V)} {x:L2.Key} (h:H a=some (.dK kvs)∨∃ od,H a=some (.frz od (.dK kvs))):DGet H a (kV x) (valV kvs x):=by
 rcases h with h | ⟨od,h⟩
 ·exact DGet.k h
 ·exact .inl ⟨kvs,x,.inr ⟨od,h⟩,rfl,rfl⟩
variable {R:α→Ty} {f:α→List (κ×β)} {Ma:(α→S→Res ε δ)→Res ε δ} {Mb:S→(κ→S→Res ε δ)→Res ε δ}
theorem Eb (hv:DVw Dd R f k Rv) (hkv:KeyV k Rk) (ha:EvC K X De ta G Dd s Ma R) (hb:∀ s1,EvC K X De tb G Dd s1 (Mb s1) Rk):EvC K X De (tDGet ta tb) G Dd s (fun kk=>Ma fun a s1=>Mb s1 fun b s2=>Res.bind (Res.opt (dget (f a) b)) fun z=>kk z s2) Rv:=fun kk σ H F hs ss o r Q hm q qe=>
 ha _ σ H F hs ss o r _ hm (fun a s1 x H1 F1 t1 hs1 r1 hm1=>hb s1 _ σ H1 F1 hs1 (ss.mono t1) o r _ hm1
  (fun b s2 y H2 F2 t2 hs2 r2 hm2=>by
   obtain ⟨d,ed,hm3⟩:=Res.FE hm2
   obtain ⟨p,kvs,rfl,h1,h2⟩:=hv a s2 x H2 F2 hs2 ((R a).mono t2 r1)
   rcases h1.get b with ⟨h3,_⟩ | ⟨d',v,h3,h4,h5⟩
   ·rw [ed] at h3;cases h3
   ·rw [ed] at h3
    cases h3
    refine ⟨p,v,rfl,?_,q d s2 v H2 F2 (t1.trans t2) hs2 h5 hm3⟩
    rw [hkv _ _ _ r2,← h4]
    exact Pk h2)
  (fun n e h H2 F2 t2=>qe n e h H2 F2 (t1.trans t2))) qe
theorem V5 (hv:DVw Dd R f k Rv) (hkv:KeyV k Rk) {Mb:(κ→S→Res ε δ)→Res ε δ} {Ma:S→(α→S→Res ε δ)→Res ε δ} (hb:EvC K X De tb G Dd s Mb Rk) (ha:∀ s1,EvC K X De ta G Dd s1 (Ma s1) R):EvC K X De (tDNotIn tb ta) G Dd s (fun kk=>Mb fun b s1=>Ma s1 fun a s2=>kk (!(dget (f a) b).isSome) s2) (tD K eB):=fun kk σ H F hs ss o r Q hm q qe=>
 hb _ σ H F hs ss o r _ hm (fun b s1 y H1 F1 t1 hs1 r1 hm1=>ha s1 _ σ H1 F1 hs1 (ss.mono t1) o r _ hm1
  (fun a s2 x H2 F2 t2 hs2 r2 hm2=>by
   obtain ⟨p,kvs,rfl,h1,h2⟩:=hv a s2 x H2 F2 hs2 r2
   have g:=Pk (x:=k.f b) h2
   rw [← hkv _ _ _ r1] at g
   have ee:(valV kvs (k.f b)).isSome=(dget (f a) b).isSome:=by
    rcases h1.get b with ⟨h3,h4⟩ | ⟨d',v,h3,h4,h5⟩ <;> rw [h3,h4] <;> rfl
   exact ⟨p,_,rfl,g,by rw [ee];exact q _ s2 _ H2 F2 (t1.trans t2) hs2 (.bl _) hm2⟩)
  (fun n e h H2 F2 t2=>qe n e h H2 F2 (t1.trans t2))) qe
theorem La (hv:DVw Dd R f k Rv) (hkv:KeyV k Rk) {Mx:S→(β→S→Res ε δ)→Res ε δ} (ha:EvC K X De ta G Dd s Ma R) (hb:∀ s1,EvC K X De tb G Dd s1 (Mb s1) Rk) (hx:∀ s1,EvC K X De tx G Dd s1 (Mx s1) Rv) :
    EvC K X De (tDGet2 ta tb tx) G Dd s (fun kk=>Ma fun a s1=>Mb s1 fun b s2=>Mx s2 fun x s3=>kk ((dget (f a) b).getD x) s3) Rv:=fun kk σ H F hs ss o r Q hm q qe=>
  ha _ σ H F hs ss o r _ hm (fun a s1 x H1 F1 t1 hs1 r1 hm1=>by
    obtain ⟨p,kvs0,rfl,_,h20⟩:=hv a s1 x H1 F1 hs1 r1
    refine ⟨p,rfl,f9 h20,hb s1 _ σ H1 F1 hs1 (ss.mono t1) o r _ hm1 (fun b s2 y H2 F2 t2 hs2 r2 hm2=>hx s2 _ σ H2 F2 hs2 ((ss.mono t1).mono t2) o r _ hm2
      (fun z s3 u H3 F3 t3 hs3 r3 hm3=>?_) (fun n e h H3 F3 t3=>qe n e h H3 F3 ((t1.trans t2).trans t3))) (fun n e h H2 F2 t2=>qe n e h H2 F2 (t1.trans t2))⟩
    obtain ⟨p',kvs,ep,h1,h2⟩:=hv a s3 _ H3 F3 hs3 ((R a).mono (t2.trans t3) r1)
    cases ep
    have g:=Pk (x:=k.f b) h2
    rw [← hkv _ _ _ r2] at g
    rcases h1.get b with ⟨h3,h4⟩ | ⟨d',v,h3,h4,h5⟩
    · refine ⟨_,g,?_⟩
      rw [h4]
      rw [h3] at hm3
      exact q z s3 _ H3 F3 ((t1.trans t2).trans t3) hs3 r3 hm3
    · refine ⟨_,g,?_⟩
      rw [h4]
      rw [h3] at hm3
      exact q d' s3 _ H3 F3 ((t1.trans t2).trans t3) hs3 h5 hm3) qe
omit [DecidableEq κ] in
theorem Hs:EvNC (β:=δ) K X De tDNewK G Dd s (fun kk=>kk [] s) (OXT k Rv):=fun kk σ H F hs ss o r Q hm q qe p hp=>q [] s p _ F (Same.refl _) (hs.new hp ⟨[],rfl,.nil⟩) hm
theorem KN {m:List (κ×β)} {j:Nat} {a:Addr} {Ma:(β→S→Res ε ρ)→Res ε ρ} {Mi:S→(κ→S→Res ε ρ)→Res ε ρ} {kk:List (κ×β)×S→Res ε ρ} (hkv:KeyV k Rk) (ho:G[n]?=some (some (Is (.ref a)))) (h:EvC K w.X w.De te G Dd s Ma Rv) (hi:∀ s1,EvC K w.X w.De tb G Dd s1 (Mi s1) Rk) (hk:∀ s,(Dd s)[j]?=some (a,OXT k Rv m))
    {mm:Res ε ρ} (hP:w.W F0 mm) (q:∀ x,w.W F0 (kk x)→Go E.nx F0 G ((Dd x.2).set j (a,OXT k Rv x.1))) (c:w.cond G:=by first | exact trivial | walk_at "cond") (hm:mm=(Ma fun v s1=>Mi s1 fun x s2=>Res.bind (Res.grd (m.length < 100000) (dput m x v,s2)) kk):=by exact rfl):Go (sDPut (tVar n) tb te E) F0 G (Dd s):=by subst hm;exact (fun σ H F t hs ss=>
  h _ σ H F hs ss _ _ _ hP (fun x s1 v H1 F1 t1 hs1 r1 hm=>by
    obtain ⟨v0,e0,r0⟩:=ss.get ho
    have r0':v0=.ref a:=r0
    subst r0'
    refine ⟨_,e0,hi s1 _ σ H1 F1 hs1 (ss.mono t1) _ _ _ hm (fun y s2 u H2 F2 t2 hs2 r2 hm2=>?_) (fun n e hr H2 F2 t2 hs2=>w.err hr c σ H2 F2 ((t.trans t1).trans t2) hs2 ((ss.mono t1).mono t2))⟩
    obtain ⟨hl,hm3⟩:=Res.DE hm2
    obtain ⟨o,ho,kvs,rfl,h2⟩:=hs2.at (hk s2)
    have l2:=h2.len
    refine ⟨a,_,rfl,by rw [hkv _ _ _ r2];exact DPut.k (k:=k.f y) ho (by rw [l2];exact iE hl Aq),?_⟩
    exact q (dput m y x,s2) hm3 σ _ F2 ((t.trans t1).trans t2) (hs2.put (hk s2) ⟨_,rfl,h2.put ((Rv x).mono t2 r1)⟩) ((ss.mono t1).mono t2)) (fun n e hr H1 F1 t1 hs1=>w.err hr c σ H1 F1 (t.trans t1) hs1 (ss.mono t1)))
omit [DecidableEq κ] in
theorem V6 {D:Own} {H F:Hp} (hs:HS D H F) {j:Nat} {a:Addr} {m:List (κ×β)} (hk:D[j]?=some (a,OXT k Rv m)):∃ kvs,H a=some (.dK kvs)∧∀ od,∃ F',Same F F'∧HS (D.eraseIdx j) (upd H a (.frz od (.dK kvs))) F'∧(DT k Rv m).p (.ref a) F':=by
 obtain ⟨o,ho,kvs,rfl,hx⟩:=hs.at hk
 refine ⟨kvs,ho,fun od=>?_⟩
 have hs1:HS (D.set j (a,OTy.fl (fun o _=>o=.frz od (.dK kvs)) fun _ h=>h)) (upd H a (.frz od (.dK kvs))) F:=hs.put hk rfl
 have hk1:(D.set j (a,(OTy.fl (fun o _=>o=.frz od (.dK kvs)) fun _ h=>h)))[j]?=some (a,OTy.fl (fun o _=>o=.frz od (.dK kvs)) fun _ h=>h):=ZW hk
 obtain ⟨o2,ho2,hs2,t2⟩:=hs1.freeze hk1
 have ho2':o2=.frz od (.dK kvs):=ho2
 subst ho2'
 refine ⟨_,t2,?_,a,od,kvs,rfl,upd_same,hx.mono t2⟩
 have er:(D.set j (a,(OTy.fl (fun o _=>o=.frz od (.dK kvs)) fun _ h=>h))).eraseIdx j=D.eraseIdx j:=by
  refine iZ fun i=>?_
  rw [jA,jA]
  split
  ·rw [i9 (by omega)]
  ·rw [i9 (by omega)]
 rw [er] at hs2
 exact hs2
omit [DecidableEq κ] in
theorem MR {t:TS} {j i:Nat} {a:Addr} {m:List (κ×β)} (hk:D0[j]?=some (a,OXT k Rv m)) (hi:G[i]?=some (some (Is (.ref a)))) (h:Go (t E) F0 (G.set i (some (DT k Rv m))) (D0.eraseIdx j)):Go (tFrz t E) F0 G D0:=fun σ H F s hs ss=>by
 obtain ⟨kvs,ho,f⟩:=V6 hs hk
 obtain ⟨v,e1,e2⟩:=ss.get hi
 have ev:v=.ref a:=e2
 subst ev
 refine ⟨a,_,ho,trivial,fun od=>?_⟩
 obtain ⟨F',t1,hs1,r1⟩:=f od
 have z:=(ss.mono t1).set r1 i
 rw [Td e1] at z
 exact h σ _ F' (s.trans t1) hs1 z
omit [DecidableEq κ] in
theorem Sf {M:(List (κ×β)→S→Res ε δ)→Res ε δ} (h:EvNC K X De te G Dd s M (OXT k Rv)):EvC K X De (Nz te) G Dd s M (DT k Rv):=fun kk σ H F hs ss o r Q hm q qe=>
 h kk σ H F hs ss o r _ hm (fun m s1 p H1 F1 t1 hs1 hm1=>by
  obtain ⟨kvs,ho,f⟩:=V6 hs1 (j:=0) rfl
  refine ⟨p,_,ho,trivial,fun od=>?_⟩
  obtain ⟨F',t2,hs2,r2⟩:=f od
  exact q m s1 _ _ F' (t1.trans t2) hs2 r2 hm1) qe
end
end TL
end
section
namespace TL
open PySem PySem.Spec L2
def WP (K:jf) {α:Type} (R:α→Ty) (xs:List α):Ty:=⟨fun v F=>∃ a vs,v=.ref a∧(SqL K F a vs∨PuT K F a vs)∧AllP F (xs.map R) vs,fun s ⟨a,vs,e,h1,h2⟩=>⟨a,vs,e,h1.imp s.seq (PuT.up s),h2.mono s⟩⟩
theorem Wb {K:jf} {D:Own} {H F:Hp} {a:Addr} {vs:List V} (hs:HS D H F) (h:PuT K F a vs):PuT K H a vs:=h.up hs.sub
section
variable {K:jf} {ε ε' ρ α β γ δ S τ τ' σt ω κ:Type} {X:L2.St→XK} {De:ε→Own} {G G1 G2:Sto} {D0:Own} {Dd:S→Own} {s:S} {te ta tb tc tx:TE} {tt tu:TT} {F0 F1:Hp} {E:Ends} {w:Wish K ε ρ} {t:TA} {n:Nat}
theorem Fp {P:L2.St→Hp→Prop} {k i:Nat} {a:Addr} {R:α→Ty} {xs:List α} (hk:D0[k]?=some (a,OLT R xs)) (hi:G[i]?=some (some (Is (.ref a)))) (h:Go P F0 (G.set i (some (LT K R xs))) (D0.eraseIdx k)):Go P F0 G D0:=fun σ H F s hs ss=>by
 obtain ⟨o,⟨vs,e0,hx⟩,hs2,s2⟩:=hs.freeze hk
 subst e0
 obtain ⟨v,e1,e2⟩:=ss.get hi
 have ev:v=.ref a:=e2
 subst ev
 have z:=(ss.mono s2).set (R:=LT K R xs) (v:=.ref a) ⟨a,vs,rfl,SqL.of upd_same,hx.mono s2⟩ i
 rw [Td e1] at z
 exact h σ H _ (s.trans s2) hs2 z
theorem Be {Rs:γ→List Ty} {g:τ→γ} {M:(τ→S→Res ε δ)→Res ε δ} (h:EvAC K X De t G Dd s M (fun t=>Rs (g t))) (hn:∀ x,(Rs x).length=n) (hl:n≤100000:=by decide):EvC K X De (BJ t) G Dd s (fun kk=>M fun t s1=>kk (g t) s1) (fun x=>TU K (Rs x)):=fun kk σ H F hs ss o r Q hm q qe=>
 h _ σ H F hs ss o r _ hm (fun t s1 vs H1 F1 t1 hs1 r1 hm1=>⟨by rw [r1.len,hn];exact iH hl Aq,fun p ob hp hd=>by
  have s2:Same F1 (upd F1 p (.frz ob (.tup vs))):=Co (hs1.free hp)
  exact q (g t) s1 _ _ _ (t1.trans s2) (hs1.frz hp) ⟨p,vs,rfl,.inl (.inr ⟨ob,upd_same⟩),r1.mono s2⟩ hm1⟩) qe
theorem EH {M:((Int×Int×Unit)→S→Res ε δ)→Res ε δ} (h:EvAC K X De t G Dd s M (fun t=>tD K eI t.1::tD K eI t.2.1::[])):EvC K X De (BJ t) G Dd s (fun kk=>M fun t s1=>Res.bind (Res.opt (mkQ t.1 t.2.1)) fun z=>kk z s1) (tD K eQ):=fun kk σ H F hs ss o r Q hm q qe=>
 h _ σ H F hs ss o r _ hm (fun t s1 vs H1 F1 t1 hs1 r1 hm1=>⟨by rw [r1.len];exact iH (by decide:2≤100000) Aq,fun p ob hp hd=>by
  obtain ⟨z,e,hm2⟩:=Res.FE hm1
  have s2:Same F1 (upd F1 p (.frz ob (.tup vs))):=Co (hs1.free hp)
  obtain ⟨e1,e2⟩:=Zf e
  refine q z s1 _ _ _ (t1.trans s2) (hs1.frz hp) (.tup (.inl (.inr ⟨ob,upd_same⟩)) ?_) hm2
  have r2:=GO s2 [.int t.1,.int t.2.1] vs (MF (ds:=[.int t.1,.int t.2.1]) r1)
  rw [e1,e2]
  exact r2⟩) qe
theorem Ca {a b:Int} (z:Rat) (e1:z.num=a) (e2:(z.den:Int)=b):EvC (β:=β) K X De (BJ (tCons (tC (.int a)) (tCons (tC (.int b)) tNil))) G Dd s (fun kk=>kk z s) (tD K eQ):=fun kk σ H F hs ss o r Q hm q qe=>
 ⟨iH (by decide:2≤100000) Aq,fun p ob hp hd=>by
  have s2:Same F (upd F p (.frz ob (.tup [.int a,.int b]))):=Co (hs.free hp)
  refine q z s _ _ _ s2 (hs.frz hp) (.tup (.inl (.inr ⟨ob,upd_same⟩)) ?_) hm
  rw [e1,e2]
  exact .cons (.int _) (.cons (.int _) .nil)⟩
theorem BC {Rs:α→List Ty} {R':β→Ty} {f:α→β} {i:Int} {Ma:(α→S→Res ε δ)→Res ε δ} (ha:EvC K X De ta G Dd s Ma (fun x=>TU K (Rs x))) (he:∀ x,atI (Rs x) i=some (R' (f x))) :
    EvC K X De (tOp (rIx K) ta (tC (.int i))) G Dd s (fun kk=>Ma fun x s1=>kk (f x) s1) R':=fun kk σ H F hs ss o r Q hm q qe=>
  ha _ σ H F hs ss o r _ hm (fun x s1 v H1 F1 t1 hs1 r1 hm1=>by
    obtain ⟨a,vs,rfl,h1,h2⟩:=r1
    have e:=he x
    unfold atI at e
    rw [← h2.len] at e
    obtain ⟨j,ej,eg⟩:=jW.mp e
    obtain ⟨u,hu,ru⟩:=h2.get eg
    exact .inr (.inl ⟨a,vs,i,u,rfl,rfl,JV hs1 h1,by unfold atI;rw [ej];exact hu,q (f x) s1 u H1 F1 t1 hs1 ru hm1⟩)) qe
def Xz (g:TGs) (G:Sto) (Rs:List Ty) (G1:Sto):Prop:=∀ (vs:List V) (σ:L2.St) (H F:Hp) (D:Own),HS D H F→SS F G σ→AllP F Rs vs→∀ Q:L2.St→Hp→Prop,(∀ σ',SS F G1 σ'→Q σ' H)→g vs σ H Q
theorem Bk:Xz gNil G [] G:=fun vs σ H F D hs ss r Q q=>by
 cases r
 exact ⟨rfl,q _ ss⟩
theorem AF {g:TG} {gs:TGs} {R:Ty} {Rs:List Ty} (h1:EvG g G R G1) (h2:Xz gs G1 Rs G2):Xz (gCons g gs) G (R::Rs) G2:=fun vs σ H F D hs ss r Q q=>by
 cases r with
 | cons r1 r2=>exact ⟨_,_,rfl,h1 _ σ H F D hs ss r1 _ fun σ' ss'=>h2 _ σ' H F D hs ss' r2 Q q⟩
theorem CI {gs:TGs} {Rs:List Ty} {n:Nat} (h:Xz gs G Rs G1) (hn:Rs.length=n):EvG (gTup K n gs) G (TU K Rs) G1:=fun v σ H F D hs ss r Q q=>by
 obtain ⟨a,vs,rfl,h1,h2⟩:=r
 exact ⟨a,vs,rfl,JV hs h1,by rw [h2.len];exact hn,h vs σ H F D hs ss h2 Q q⟩
def Y0 (g:TGs) (vs:List Nat) (G:Sto) (Rs:List Ty) (G1:Sto):Prop:=∀ (xs:List V) (σ τ:L2.St) (H F:Hp) (D:Own),HS D H F→SS F G τ→wipe τ vs=wipe σ vs→AllP F Rs xs→∀ Q:L2.St→Hp→Prop,(∀ σ',SS F G1 σ'→wipe σ' vs=wipe σ vs→Q σ' H)→g xs τ H Q
theorem Yg {vs:List Nat}:Y0 gNil vs G [] G:=fun xs σ τ H F D hs ss w r Q q=>by
 cases r
 exact ⟨rfl,q _ ss w⟩
theorem Lb {g:TG} {gs:TGs} {vs:List Nat} {R:Ty} {Rs:List Ty} (h1:EvW g vs G R G1) (h2:Y0 gs vs G1 Rs G2):Y0 (gCons g gs) vs G (R::Rs) G2:=fun xs σ τ H F D hs ss w r Q q=>by
 cases r with
 | cons r1 r2=>exact ⟨_,_,rfl,h1 _ σ τ H F D hs ss w r1 _ fun σ' ss' w'=>h2 _ σ σ' H F D hs ss' w' r2 Q q⟩
theorem Zx {gs:TGs} {vs:List Nat} {Rs:List Ty} {n:Nat} (h:Y0 gs vs G Rs G1) (hn:Rs.length=n):EvW (gTup K n gs) vs G (TU K Rs) G1:=fun v σ τ H F D hs ss w r Q q=>by
 obtain ⟨a,xs,rfl,h1,h2⟩:=r
 exact ⟨a,xs,rfl,JV hs h1,by rw [h2.len];exact hn,h xs σ τ H F D hs ss w h2 Q q⟩
theorem sv_P {Re:α→Ty}:Pf K Dd (VP K Re) id Re:=fun x s v H F hs ⟨a,vs,e,h1,h2⟩=>⟨a,vs,e,.inr (Wb hs h1).sq,h2⟩
theorem CK {R:α→Ty} {M:(List α→S→Res ε δ)→Res ε δ} (h:EvC K X De te G Dd s M (LT K R)):Ie K X De (iSeq K te) G Dd s (fun _=>True) M R:=Zk h fun _ _ _ r=>r
theorem Ja {R:α→Ty} {M:(List α→S→Res ε δ)→Res ε δ} (h:EvC K X De te G Dd s M (VP K R)):Ie K X De (iSeq K te) G Dd s (fun _=>True) M R:=V0 h fun _ _ _ ⟨a,vs,e,h1,h2⟩=>⟨a,vs,e,h1.sq,h2⟩
theorem wp_l {R:α→Ty}:∀ (xs:List α) (v:V) (F:Hp),(LT K R xs).p v F→(WP K R xs).p v F:=fun xs v F ⟨a,vs,h0,h1,h2⟩=>⟨a,vs,h0,.inl h1,h2⟩
theorem GP {R:α→Ty} {f:α→List β} {Re:β→Ty} {M:(α→S→Res ε δ)→Res ε δ} (h:EvC K X De te G Dd s M R) (hv:∀ x s v H F,HS (Dd s) H F→(R x).p v F→∃ a vs,v=.ref a∧(SqL K H a vs∧AllP F ((f x).map Re) vs∨SqT K H a vs∧(VP K Re (f x)).p v F)) :
    EvC K X De (tCB (Pj K) (tCons te tNil)) G Dd s (fun kk=>M fun x s1=>kk (f x) s1) (VP K Re):=fun kk σ H F hs ss o r Q hm q qe=>
  h _ σ H F hs ss o r _ hm (fun xs s1 v H1 F1 t1 hs1 r1 hm1=>by
    obtain ⟨a,vs,e0,h1⟩:=hv xs s1 v H1 F1 hs1 r1
    subst e0
    rcases h1 with ⟨h1,h2⟩ | ⟨h1,h2⟩
    · refine ⟨a,vs,rfl,.inl ⟨h1,fun l ob hl hd=>?_⟩⟩
      have s2:Same F1 (upd F1 l (.frz ob (.tup vs))):=Co (hs1.free hl)
      exact q _ s1 _ _ _ (t1.trans s2) (hs1.frz hl) ⟨l,vs,rfl,.inl ⟨ob,upd_same,hd⟩,h2.mono s2⟩ hm1
    · exact ⟨a,vs,rfl,.inr ⟨h1,q _ s1 _ H1 F1 t1 hs1 h2 hm1⟩⟩) qe
theorem tv_l {Re:α→Ty}:∀ x s v H F,HS (Dd s) H F→(LT K Re x).p v F→∃ a vs,v=.ref a∧(SqL K H a vs∧AllP F ((id x).map Re) vs∨SqT K H a vs∧(VP K Re (id x)).p v F):=fun x s v H F hs ⟨a,vs,e,h1,h2⟩=>⟨a,vs,e,.inl ⟨Fl hs h1,h2⟩⟩
theorem Yh {R:α→Ty} {Ma:(List α→S→Res ε δ)→Res ε δ} {Mb:S→(List α→S→Res ε δ)→Res ε δ} (ha:EvC K X De ta G Dd s Ma (LT K R)) (hb:∀ s1,EvC K X De tb G Dd s1 (Mb s1) (LT K R)) :
    EvC K X De (tOp (Cc K) ta tb) G Dd s (fun kk=>Ma fun a s1=>Mb s1 fun b s2=>Res.bind (Res.grd (a.length+b.length≤100000) (a++b)) fun z=>kk z s2) (LT K R):=
  SW ha hb fun a b s2 x y H F c hs rx ry Q q=>by
    obtain ⟨p,xs,rfl,h1,h2⟩:=rx
    obtain ⟨p',ys,rfl,h3,h4⟩:=ry
    have l2:=h2.len
    have l4:=h4.len
    rw [gy] at l2 l4
    refine .inr (.inl ⟨p,p',xs,ys,rfl,rfl,Fl hs h1,Fl hs h3,by rw [l2,l4];exact iH c Aq,fun u hu=>?_⟩)
    have s4:Same F (upd F u (.lst (xs++ys))):=Co (hs.free hu)
    exact q _ _ _ s4 (hs.frz hu) ⟨u,_,rfl,SqL.of upd_same,JG (h2.mono s4) (h4.mono s4)⟩
theorem Zy {R:α→Ty} {Ma:(List α→S→Res ε δ)→Res ε δ} {Mb:S→(List α→S→Res ε δ)→Res ε δ} (ha:EvC K X De ta G Dd s Ma (VP K R)) (hb:∀ s1,EvC K X De tb G Dd s1 (Mb s1) (VP K R)) :
    EvC K X De (tOp (Cc K) ta tb) G Dd s (fun kk=>Ma fun a s1=>Mb s1 fun b s2=>Res.bind (Res.grd (a.length+b.length≤100000) (a++b)) fun z=>kk z s2) (VP K R):=
  SW ha hb fun a b s2 x y H F c hs rx ry Q q=>by
    obtain ⟨p,xs,rfl,h1,h2⟩:=rx
    obtain ⟨p',ys,rfl,h3,h4⟩:=ry
    have l2:=h2.len
    have l4:=h4.len
    rw [gy] at l2 l4
    refine .inr (.inr ⟨p,p',xs,ys,rfl,rfl,(Wb hs h1).sq,(Wb hs h3).sq,by rw [l2,l4];exact iH c Aq,fun hx=>?_,fun hy hx=>?_,fun hy hx u ob hu hd=>?_⟩)
    · subst hx
      exact q _ H F (Same.refl _) hs ⟨p',ys,rfl,h3,by have z:=JG h2 h4;simpa using z⟩
    · subst hy
      exact q _ H F (Same.refl _) hs ⟨p,xs,rfl,h1,by have z:=JG h2 h4;simpa using z⟩
    · have s4:Same F (upd F u (.frz ob (.tup (xs++ys)))):=Co (hs.free hu)
      exact q _ _ _ s4 (hs.frz hu) ⟨u,_,rfl,.inl ⟨ob,upd_same,hd⟩,JG (h2.mono s4) (h4.mono s4)⟩
theorem Yi {R:α→Ty} {M:(Unit→S→Res ε δ)→Res ε δ} (h:EvC K X De te G Dd s M (tD K eU)):EvC K X De te G Dd s (fun kk=>M fun _ s1=>kk none s1) (OpT K R):=fun kk σ H F hs ss o r Q hm q qe=>
 h _ σ H F hs ss o r _ hm (fun _ s1 v H1 F1 t1 hs1 r1 hm1=>q none s1 v H1 F1 t1 hs1 (eG r1) hm1) qe
theorem NK {R:α→Ty} {M:(α→S→Res ε δ)→Res ε δ} (h:EvC K X De te G Dd s M R):EvC K X De te G Dd s (fun kk=>M fun x s1=>kk (some x) s1) (OpT K R):=fun kk σ H F hs ss o r Q hm q qe=>
 h _ σ H F hs ss o r _ hm (fun x s1 v H1 F1 t1 hs1 r1 hm1=>q (some x) s1 v H1 F1 t1 hs1 r1 hm1) qe
theorem Zz {R:α→Ty} {M:(Option α→S→Res ε δ)→Res ε δ} (h:EvC K X De te G Dd s M (OpT K R)):EvC K X De te G Dd s (fun kk=>M fun x s1=>Res.bind (Res.opt x) fun y=>kk y s1) R:=fun kk σ H F hs ss o r Q hm q qe=>
 h _ σ H F hs ss o r _ hm (fun x s1 v H1 F1 t1 hs1 r1 hm1=>by
  obtain ⟨y,e,hm2⟩:=Res.FE hm1
  subst e
  exact q y s1 v H1 F1 t1 hs1 r1 hm2) qe
theorem MS {R:α→Ty} {R':γ→Ty} {M:(α→S→Res ε β)→Res ε β} (f:α→γ) (h:EvC K X De te G Dd s M R) (e:∀ x v F,(R x).p v F→(R' (f x)).p v F):EvC K X De te G Dd s (fun kk=>M fun x s'=>kk (f x) s') R':=Xp f h e
end
end TL
end
section
namespace TL
open PySem PySem.Spec L2
def fB (K:jf):List V→Hp→VK→Prop:=fun xs H Q=>∃ (a:Addr) (ps:List Addr) (kvs:List (L2.Key×V)),xs=[.ref a]∧SqL K H a (ps.map V.ref)∧Paired (fun p kv=>SqT K H p [kV kv.1,kv.2]) ps kvs ∧
    ∀ p,H p=none→Q (.ref p) (upd H p (.dK (mergeK [] kvs)))
def a6 (K:jf):List V→Hp→VK→Prop:=fun xs H Q=>du K xs H Q∨fB K xs H Q∨dw K xs H Q
theorem Yj {X:Cx} (hcalm:X.calm=true):CallR X (.type "dict") (a6 X.K):=CallR.or Yd (CallR.or (call_dictP hcalm) (Yf hcalm))
section
variable {K:jf} {ε ε' ρ α β γ δ S τ τ' σt ω κ:Type} {X:L2.St→XK} {De:ε→Own} {G G1 G2:Sto} {D0:Own} {Dd:S→Own} {s:S} {te ta tb tc tx:TE} {tt tu:TT} {F0 F1:Hp} {E:Ends} {w:Wish K ε ρ} {t:TA} {n:Nat}
variable [DecidableEq κ] {k:KeyE κ} {Rk:κ→Ty} {Rv:β→Ty}
omit [DecidableEq κ] in
theorem V7 {R:α→Ty} {f:α→List (κ×β)} {Ma:(α→S→Res ε δ)→Res ε δ} (hv:DVw Dd R f k Rv) (ha:EvC K X De ta G Dd s Ma R):EvNC K X De (tCB (a6 K) (tCons ta tNil)) G Dd s (fun kk=>Ma fun a s1=>kk (f a) s1) (OXT k Rv):=fun kk σ H F hs ss o r Q hm q qe=>
 ha _ σ H F hs ss o r _ hm (fun a s1 v H1 F1 t1 hs1 r1 hm1=>by
  obtain ⟨p,kvs,rfl,h1,h2⟩:=hv a s1 v H1 F1 hs1 r1
  exact .inl ⟨p,kvs,rfl,h2,fun p' hp=>q (f a) s1 p' _ F1 t1 (hs1.new hp ⟨kvs,rfl,h1⟩) hm1⟩) qe
theorem Wc {F:Hp} {kvs:List (L2.Key×V)} {m:List (Tx×β)} (h:EntT kS Rv F kvs m):kvs.map (·.1)=((m.map (·.1)).map (·.s)).map Sum.inr:=by
 rw [h.keys,iJ,iJ]
 rfl
end
end TL
end
section
namespace TL
open PySem PySem.Spec L2
mutual
inductive DpP (K:jf):V→PyData→Prop
 | non:DpP K .non .none
 | bl (b:Bool):DpP K (.bl b) (.bool b)
 | int (i:Int):DpP K (.int i) (.int i)
 | str (x:Str):DpP K (.str x) (.str x)
 | lst {a:Addr} {xs:List V} {ds:List PyData}:(∀ H,SqL K H a xs)→DpPs K xs ds→DpP K (.ref a) (.list ds)
 | tup {a:Addr} {xs:List V} {ds:List PyData}:(∀ H,PuT K H a xs)→DpPs K xs ds→DpP K (.ref a) (.tuple ds)
inductive DpPs (K:jf):List V→List PyData→Prop
 | nil:DpPs K [] []
 | cons {v:V} {d:PyData} {vs:List V} {ds:List PyData}:DpP K v d→DpPs K vs ds→DpPs K (v::vs) (d::ds)
end
mutual
def Fq (K:jf) (v:Value):PyData→Bool
 | .none=>(match v with
  | .none=>true
  | _=>false)
 | .bool b=>(match v with
  | .bool c=>b == c
  | _=>false)
 | .int i=>(match v with
  | .int j _=>decide (j=i)
  | _=>false)
 | .str x=>(match v with
  | .str y _=>decide (y=x)
  | _=>false)
 | .tuple ds=>(match v with
  | .ref a=>(match K.lookup a with
   | some o=>(match o.data with
    | .seq its _=>decide (o.cls=.type "tuple") && (o.dict.isNone && (decide (its.size≤sizeLine) && JI K its.toList ds))
    | _=>false)
   | none=>false)
  | _=>false)
 | .list ds=>(match v with
  | .ref a=>(match K.lookup a with
   | some o=>(match o.data with
    | .seq its _=>decide (o.cls=.type "list") && (o.dict.isNone && (decide (its.size≤sizeLine) && JI K its.toList ds))
    | _=>false)
   | none=>false)
  | _=>false)
 | .dict _=>false
def JI (K:jf) (vs:List Value):List PyData→Bool
 | []=>vs.isEmpty
 | d::ds=>(match vs with
  | []=>false
  | v::vs=>Fq K v d && JI K vs ds)
end
mutual
theorem Si {K:jf}:∀ (d:PyData) (v:Value),Fq K v d=true→∃ x,RelV x v∧DpP K x d
 | .none,v,h=>by
  unfold Fq at h
  split at h
  ·exact ⟨.non,rfl,.non⟩
  ·cases h
 | .bool b,v,h=>by
  unfold Fq at h
  split at h
  ·have e:=eq_of_beq h
   subst e
   exact ⟨.bl _,rfl,.bl _⟩
  ·cases h
 | .int i,v,h=>by
  unfold Fq at h
  split at h
  ·have e:=of_decide_eq_true h
   subst e
   exact ⟨.int _,⟨_,rfl⟩,.int _⟩
  ·cases h
 | .str x,v,h=>by
  unfold Fq at h
  split at h
  ·have e:=of_decide_eq_true h
   subst e
   exact ⟨.str _,⟨_,rfl⟩,.str _⟩
  ·cases h
 | .tuple ds,v,h=>by
  unfold Fq at h
  split at h
  ·rename_i a
   split at h
   ·rename_i o ho
    split at h
    ·rename_i its n hd
     simp only [iN,decide_eq_true_eq,Option.isNone_iff_eq_none] at h
     obtain ⟨h1,h0,h2,h3⟩:=h
     obtain ⟨xs,hv,hx⟩:=KO ds its.toList h3
     exact ⟨.ref a,rfl,.tup (fun H=>.inr ⟨o,its,n,ho,h1,h0,hd,h2,hv⟩) hx⟩
    ·cases h
   ·cases h
  ·cases h
 | .list ds,v,h=>by
  unfold Fq at h
  split at h
  ·rename_i a
   split at h
   ·rename_i o ho
    split at h
    ·rename_i its n hd
     simp only [iN,decide_eq_true_eq,Option.isNone_iff_eq_none] at h
     obtain ⟨h1,h0,h2,h3⟩:=h
     obtain ⟨xs,hv,hx⟩:=KO ds its.toList h3
     exact ⟨.ref a,rfl,.lst (fun H=>.inr ⟨o,its,n,ho,h1,h0,hd,h2,hv⟩) hx⟩
    ·cases h
   ·cases h
  ·cases h
 | .dict _,v,h=>by
  unfold Fq at h
  cases h
theorem KO {K:jf}:∀ (ds:List PyData) (vs:List Value),JI K vs ds=true→∃ xs,Vals xs vs∧DpPs K xs ds
 | [],vs,h=>by
  unfold JI at h
  cases vs with
  | nil=>exact ⟨[],.nil,.nil⟩
  | cons=>cases h
 | d::ds,vs,h=>by
  unfold JI at h
  cases vs with
  | nil=>cases h
  | cons v vs=>
   simp only [iN] at h
   obtain ⟨x,h1,h2⟩:=Si d v h.1
   obtain ⟨xs,h3,h4⟩:=KO ds vs h.2
   exact ⟨x::xs,.cons h1 h3,.cons h2 h4⟩
end
abbrev Cad (K:jf) (R:Ty) (d:PyData):Prop:=∀ v F,DpP K v d→R.p v F
def CC (K:jf) (Rs:List Ty) (ds:List PyData):Prop:=∀ F vs,DpPs K vs ds→AllP F Rs vs
section
variable {K:jf} {α β:Type}
theorem c_I (i:Int):Cad K (tD K eI i) (eI i):=fun v F r=>by cases r;exact .int _
theorem fC:CC K [] []:=fun F vs h=>by cases h;exact .nil
theorem Y1 {R:Ty} {Rs:List Ty} {d:PyData} {ds:List PyData} (h:Cad K R d) (t:CC K Rs ds):CC K (R::Rs) (d::ds):=fun F vs r=>by
 cases r with
 | cons r1 r2=>exact .cons (h _ _ r1) (t _ _ r2)
theorem c_Q (r:Rat):Cad K (tD K eQ r) (eQ r):=fun v F h=>by
 cases h with
 | tup h1 h2=>exact .tup (h1 F).sq (MF (Y1 (c_I r.num) (Y1 (c_I (r.den:Int)) fC) F _ h2))
end
section
variable {K:jf} {ε ε' ρ α β γ δ S τ τ' σt ω κ:Type} {X:L2.St→XK} {De:ε→Own} {G G1 G2:Sto} {D0:Own} {Dd:S→Own} {s:S} {te ta tb tc tx:TE} {tt tu:TT} {F0 F1:Hp} {E:Ends} {w:Wish K ε ρ} {t:TA} {n:Nat} {Rv:β→Ty} {k:KeyE κ} {Rk:κ→Ty}
theorem Fs {a:Addr} {d:PyData} {R:α→Ty} (x:α) (h:Fq K (.ref a) d=true) (c:Cad K (R x) d):EvC (β:=β) K X De (tC (.ref a)) G Dd s (fun kk=>kk x s) R:=fun kk σ H F hs ss o r Q hm q qe=>by
 obtain ⟨y,h1,h2⟩:=Si d _ h
 have ey:y=.ref a:=by cases h2 <;> first | (cases h1;done) | (cases h1;rfl) | (obtain ⟨_,h1⟩:=h1;cases h1;done)
 subst ey
 exact q x s _ H F (Same.refl _) hs (c _ _ h2) hm
theorem Jb {R:α→Ty} {f:α→List (Tx×β)} {Ma:(α→S→Res ε δ)→Res ε δ} (hv:DVw Dd R f kS Rv) (ha:EvC K X De ta G Dd s Ma R) :
    EvC K X De (tCB (SV K) (tCons ta tNil)) G Dd s (fun kk=>Ma fun a s1=>Res.bind (Res.grd ((f a).length < 64) (Dw ((f a).map Prod.fst))) fun z=>kk z s1) (LT K (tD K eS)):=fun kk σ H F hs ss o r Q hm q qe=>
  ha _ σ H F hs ss o r _ hm (fun a s1 v H1 F1 t1 hs1 r1 hm1=>by
    obtain ⟨c,hm2⟩:=Res.DE hm1
    obtain ⟨p,kvs,rfl,h1,h2⟩:=hv a s1 v H1 F1 hs1 r1
    have hr:L2.Rd H1 p (.dK kvs):=by
      rcases h2 with h2 | ⟨od,h2⟩
      · exact .inl h2
      · exact .inr ⟨od,h2⟩
    refine .inr ⟨p,kvs,((f a).map (·.1)).map (·.s),rfl,hr,Wc h1,by rw [gy,gy];exact c,fun ys u pm so hu=>?_⟩
    have e:=Sb pm so
    subst e
    have s4:Same F1 (upd F1 u (.lst (((Dw ((f a).map Prod.fst)).map (·.s)).map V.str))):=Co (hs1.free hu)
    refine q _ s1 _ _ _ (t1.trans s4) (hs1.frz hu) ⟨u,_,rfl,SqL.of upd_same,Ut (e:=eS) ?_⟩ hm2
    have e2:(Dw ((f a).map Prod.fst)).map eS=((Dw ((f a).map Prod.fst)).map (·.s)).map PyData.str:=by rw [iJ];rfl
    rw [e2]
    exact TY _) qe
variable [DecidableEq κ]
omit [DecidableEq κ] in
theorem V8 [DecidableEq α] {e:α→PyData} {R:α→Ty} {m i j:Nat} {a:Addr} {xs:List α} {Mb:(List α→S→Res ε δ)→Res ε δ} (he:Enc (eL e) m) (hd:∀ x,Dat K (R x) (e x)) (hi:G[i]?=some (some (Is (.ref a)))) (hk:∀ s,(Dd s)[j]?=some (a,OLT R xs)) (hb:EvC K X De tb G Dd s Mb (tD K (eL e))) (hn:m≤64:=by decide) :
    EvC K X De (tOp (qNe K) (tVar i) tb) G Dd s (fun kk=>Mb fun b s2=>kk (!decide (xs=b)) s2) (tD K eB):=fun kk σ H F hs ss o r Q hm q qe=>by
  obtain ⟨v,e1,e2⟩:=ss.get hi
  have ev:v=.ref a:=e2
  subst ev
  refine ⟨_,e1,hb _ σ H F hs ss o r _ hm (fun b s2 y H2 F2 t2 hs2 r2 hm2=>?_) qe⟩
  obtain ⟨o1,ho,vs,rfl,hx⟩:=hs2.at (hk s2)
  refine .inr ⟨eL e xs,eL e b,.lst (SqL.of ho) (GO hs2.sub _ vs (Te hd xs _ _ hx)),LL hs2 r2,he.shaped hn xs,he.shaped hn b,?_⟩
  rw [he.eq]
  exact q _ s2 _ H2 F2 t2 hs2 (.bl _) hm2
end
theorem V9 {K:jf} {N:List Str} {tf:TS} {mf:List Int→Res Unit Bool} (htrue:∀ ns:List Int,ns.length≤63→mf ns=.ok true) {vs:List V} {H:Hp} {Q:VK} {X:XK}
    (walk:∀ (x:List Int) (F:Hp) (D:Own) (E:Ends),E.rt=Q→(∀ (K:jf) G D1,GoV Q F (DN K) D1→Go E.nx F G D1)→(dwish K X Q (fun r:Bool=>.ok (tD K eB r)) (fun _=>D) (fun _:Unit=>D)).W F (mf x)→Go (tf E) F (some (LT K (tD K eI) x)::List.replicate (N.length - 1) none) D)
    (h:SR K vs H Q X):tf { nx:=fun _ H'=>Q .non H',rt:=Q } (L2.start N vs) H:=
  WZ htrue (fun x F D E hrt hnx hP=>(walk x F D E hrt hnx hP).weak (SLe.imp (fun v F h=>u_L (fun _=>u_id) x v F h) (SLe.refl _)) (List.Sublist.refl _)) h
abbrev T2 (K:jf) {α β:Type} (r0:α→Ty) (r1:β→Ty) (x:α×β):Ty:=TU K [r0 x.1,r1 x.2]
abbrev T3 (K:jf) {α β γ:Type} (r0:α→Ty) (r1:β→Ty) (r2:γ→Ty) (x:α×β×γ):Ty:=TU K [r0 x.1,r1 x.2.1,r2 x.2.2]
abbrev T4 (K:jf) {α β γ δ:Type} (r0:α→Ty) (r1:β→Ty) (r2:γ→Ty) (r3:δ→Ty) (x:α×β×γ×δ):Ty:=TU K [r0 x.1,r1 x.2.1,r2 x.2.2.1,r3 x.2.2.2]
end TL
end
section
namespace TL
open PySem PySem.Spec L2
section
variable {K:jf} {ε ε' ρ α β γ δ S τ τ' σt ω κ:Type} {X:L2.St→XK} {De:ε→Own} {G G1 G2:Sto} {D0:Own} {Dd:S→Own} {s:S} {te ta tb tc tx:TE} {tt tu:TT} {F0 F1:Hp} {E:Ends} {w:Wish K ε ρ} {t:TA} {n:Nat}
theorem Wf {R0:α→Ty} {f:α→List β} {R:β→Ty} {M:(α→S→Res ε δ)→Res ε δ} (h:EvC K X De te G Dd s M R0) (hf:∀ x v F,(R0 x).p v F→∃ a vs,v=.ref a∧SqT K F a vs∧AllP F ((f x).map R) vs):Ie K X De (iSeq K te) G Dd s (fun _=>True) (fun kk=>M fun x s1=>kk (f x) s1) R:=fun kk σ H F hs ss o r Q hm q qe=>
 V0 (R:=R) (R0:=fun xs=>VT K R xs) (Xp f h fun x v F r=>hf x v F r) (fun xs v F ⟨a,vs,e,h1,h2⟩=>⟨a,vs,e,h1,h2⟩) kk σ H F hs ss o r Q hm q qe
theorem cY {M:(Rat→S→Res ε δ)→Res ε δ} (h:EvC K X De te G Dd s M (tD K eQ)):Ie K X De (iSeq K te) G Dd s (fun _=>True) (fun kk=>M fun r s1=>kk [r.num,((r.den:Nat):Int)] s1) (tD K eI):=
 Wf (f:=fun r:Rat=>[r.num,((r.den:Nat):Int)]) h fun x v F r=>by
  obtain ⟨a,vs,e,h1,h2⟩:=NC r
  exact ⟨a,vs,e,h1,Tb h2⟩
abbrev TyV {S α:Type} (K:jf) (Dd:S→Own) (R:α→Ty) (own:String):Prop:=∀ x s v H F,HS (Dd s) H F→(R x).p v F→TyX K H v (.type own)
theorem ty_d {e:α→PyData} {own:String} (h:∀ x,tyN (e x)=own):TyV K Dd (tD K e) own:=fun x s v H F hs r=>by rw [← h x];exact eO (LL hs r)
theorem KP {n own:String} {b:Bool} {R:α→Ty} {M:(α→S→Res ε δ)→Res ε δ} (h:EvC K X De te G Dd s M R) (ty:TyV K Dd R own) (k:kitB own n=some b):EvC K X De (tCB (cIsi K) (tCons te (tCons (tC (.ty n)) tNil))) G Dd s (fun kk=>M fun _ s1=>kk b s1) (tD K eB):=fun kk σ H F hs ss o r Q hm q qe=>
 h _ σ H F hs ss o r _ hm (fun y s1 v H1 F1 t1 hs1 r1 hm1=>.inl ⟨v,.ty n,_,_,b,rfl,.ty n,ty y s1 v H1 F1 hs1 r1,kit_ty k,q b s1 _ H1 F1 t1 hs1 (.bl _) hm1⟩) qe
end
end TL
end
section
namespace TL
open PySem PySem.Spec L2
structure FlatE (K:jf) {β:Type} [DecidableEq β] (Re:β→Ty) where
 g:β→V
 hg:∀ x v F,(Re x).p v F→v=g x
 hf:∀ x,flatV (g x)=true
 he:∀ x y,eqV (g x) (g y)=decide (x=y)
def fl_B {K:jf}:FlatE K (tD K eB):=⟨fun x=>.bl x,fun x v F r=>PY r,fun _=>rfl,fun x y=>by cases x <;> cases y <;> rfl⟩
section
variable {K:jf} {ε ε' ρ α β γ δ S τ τ' σt ω κ:Type} {X:L2.St→XK} {De:ε→Own} {G G1 G2:Sto} {D0:Own} {Dd:S→Own} {s:S} {te ta tb tc tx:TE} {tt tu:TT} {F0 F1:Hp} {E:Ends} {w:Wish K ε ρ} {t:TA} {n:Nat}
theorem OA [DecidableEq β] {Re:β→Ty} (fl:FlatE K Re) {F:Hp}:∀ {xs:List β} {vs:List V},AllP F (xs.map Re) vs→vs=xs.map fl.g
 | [],_,h=>by cases h;rfl
 | x::xs,_,h=>by
  cases h with
  | cons h1 h2=>rw [hG,← OA fl h2,← fl.hg _ _ _ h1]
theorem a7 [DecidableEq β] {Re:β→Ty} (fl:FlatE K Re) (x:β) (xs:List β):inV (fl.g x) (xs.map fl.g)=decide (x∈xs):=by
 unfold inV
 induction xs with
 | nil=>rfl
 | cons y ys ih=>
  rw [hG,iu,ih,fl.he]
  by_cases h:y=x
  ·subst h;simp
  ·have h':¬ x=y:=fun z=>h z.symm
   simp [h,h']
theorem Wg [DecidableEq β] {Re:β→Ty} {R:α→Ty} {f:α→List β} {Ma:(β→S→Res ε δ)→Res ε δ} {Mb:S→(α→S→Res ε δ)→Res ε δ} (fl:FlatE K Re) (hv:Pf K Dd R f Re) (ha:EvC K X De ta G Dd s Ma Re) (hb:∀ s1,EvC K X De tb G Dd s1 (Mb s1) R):EvC K X De (tOp (rIn K true) ta tb) G Dd s (fun kk=>Ma fun a s1=>Mb s1 fun b s2=>kk (!decide (a∈f b)) s2) (tD K eB):=
 evc2 ha hb fun a b s2 x y H F hs rx ry Q q=>by
  obtain ⟨p,vs,rfl,h1,h2⟩:=hv b s2 y H F hs ry
  have e:=OA fl h2
  subst e
  refine ⟨p,_,rfl,h1,by rw [fl.hg _ _ _ rx];exact fl.hf _,by rw [iY];intro z hz;obtain ⟨u,_,eu⟩:=hA.mp hz;rw [← eu];exact fl.hf _,?_⟩
  have e:inV x ((f b).map fl.g)=decide (a∈f b):=by rw [fl.hg _ _ _ rx,a7]
  simp only [e]
  exact q _ H F (Same.refl _) hs (.bl _)
end
end TL
end
section
namespace TL
open PySem PySem.Spec L2
inductive DEn (K:jf) (H:Hp):List (L2.Key×V)→List (L2.Key×PyData)→Prop
 | nil:DEn K H [] []
 | cons {k:L2.Key} {v:V} {d:PyData} {ks:List (L2.Key×V)} {es:List (L2.Key×PyData)}:L2.Dp K H v d→SeqAt.shaped d=true→DEn K H ks es→DEn K H ((k,v)::ks) ((k,d)::es)
def dval (es:List (L2.Key×PyData)) (k:L2.Key):Option PyData:=(es.find? fun e=>decide (e.1=k)).map (·.2)
def deqD (xs ys:List (L2.Key×PyData)):Bool:=xs.length == ys.length && xs.all fun p=>match dval ys p.1 with
 | none=>false
 | some y=>PyData.eqv p.2 y
theorem DEn.len {K:jf} {H:Hp} {ks:List (L2.Key×V)} {es:List (L2.Key×PyData)} (h:DEn K H ks es):ks.length=es.length:=by
 induction h with
 | nil=>rfl
 | cons _ _ _ ih=>simp [ih]
theorem DEn.val {K:jf} {H:Hp} {ks:List (L2.Key×V)} {es:List (L2.Key×PyData)} (h:DEn K H ks es) (k:L2.Key):(valV ks k=none∧dval es k=none)∨∃ v d,valV ks k=some v∧dval es k=some d∧L2.Dp K H v d∧SeqAt.shaped d=true:=by
 induction h with
 | nil=>exact .inl ⟨rfl,rfl⟩
 | @cons k' v d ks es h1 h2 _ ih=>
  by_cases e:k'=k
  ·exact .inr ⟨v,d,by simp [valV,e],by simp [dval,e],h1,h2⟩
  ·rw [valV_neg (p:=(k',v)) e,show dval ((k',d)::es) k=dval es k by simp [dval,e]]
   exact ih
section
variable {X:Cx} {pins:List (Addr×Obj)} {σ:L2.St} {H:Hp} {s:Shared}
theorem fD (I:Inv X pins σ H s) {A:Around} (hu:A.in1.units+64 < cLine) {ls:List (L2.Key×V)} {vb:List (L2.Key×Value)} {fs:List (L2.Key×PyData)} (rb:KV ls vb) (hl:DEn X.K H ls fs) {ks:List (L2.Key×V)} {va:List (L2.Key×Value)} {es:List (L2.Key×PyData)} (ra:KV ks va) (hk:DEn X.K H ks es) :
    PySem.W.KeqHits A.in1 s vb va (es.all fun p=>match dval fs p.1 with
      | none=>false
      | some y=>PyData.eqv p.2 y):=by
  unfold KV at ra
  induction hk generalizing va with
  | nil=>cases ra;exact .nil
  | @cons k v d ks es h1 h2 h3 ih=>
    cases ra with
    | @cons _ q _ qs h t=>
      obtain ⟨k',u⟩:=q
      obtain ⟨ek,ru⟩:=h
      have ek':k=k':=ek
      subst ek'
      rw [List.all_cons]
      rcases hl.val k with ⟨n1,n2⟩ | ⟨y,d',n1,n2,n3,n4⟩
      · have z:valueAt vb k=none:=by
          have:=rb.val k
          rw [n1] at this
          cases e:valueAt vb k with
          | none=>rfl
          | some w=>rw [e] at this;exact this.elim
        rw [n2]
        simp only [Bool.false_and]
        exact .miss z
      · have rr:RelO (some y) (valueAt vb k):=by rw [← n1];exact rb.val k
        obtain ⟨w,hw,rw_⟩:=rr.some_of
        rw [n2]
        dsimp only
        obtain ⟨as,r1⟩:=Dp.reads I d v u h1 ru
        obtain ⟨bs,r2⟩:=Dp.reads I d' y w n3 rw_
        exact .hit hw (PySem.W.keq_at r1 r2 h2 n4 hu) (ih t)
end
def deq {κ α:Type} [DecidableEq κ] [DecidableEq α] (xs ys:List (κ×α)):Bool:=xs.length == ys.length && xs.all fun p=>match dget ys p.1 with
 | none=>false
 | some y=>decide (p.2=y)
section
variable {K:jf} {ε ε' ρ α β γ δ S τ τ' σt ω κ:Type} [DecidableEq κ] {X:L2.St→XK} {De:ε→Own} {G G1 G2:Sto} {D0:Own} {Dd:S→Own} {s:S} {te ta tb tc tx:TE} {tt tu:TT} {F0 F1:Hp} {E:Ends} {w:Wish K ε ρ} {t:TA} {n:Nat} {k:KeyE κ} {Rk:κ→Ty} {Rv:β→Ty}
omit [DecidableEq κ] in
theorem EntT.den {e:β→PyData} {m:Nat} {F H:Hp} {D:Own} (hs:HS D H F) (he:Enc e m) (hn:m≤64) (hd:∀ x,Dat K (Rv x) (e x)) {kvs:List (L2.Key×V)} {ms:List (κ×β)} (h:EntT k Rv F kvs ms):DEn K H kvs (ms.map fun p=>(k.f p.1,e p.2)):=by
 induction h with
 | nil=>exact .nil
 | cons h _ ih=>exact .cons (LL hs (hd _ _ _ h)) (he.shaped hn _) ih
theorem VA {e:β→PyData} (x:κ):∀ ms:List (κ×β),dval (ms.map fun p=>(k.f p.1,e p.2)) (k.f x)=(dget ms x).map e
 | []=>rfl
 | p::ms=>by
  have ih:=VA (e:=e) x ms
  unfold dval dget at ih ⊢
  rw [hG,ir,ir]
  by_cases q:p.1=x
  ·simp [q]
  ·have q':¬ k.f p.1=k.f x:=fun z=>q (k.inj _ _ z)
   simp only [q,q',decide_false]
   exact ih
theorem a8 [DecidableEq β] {e:β→PyData} {m:Nat} (he:Enc e m) (xs ys:List (κ×β)):deqD (xs.map fun p=>(k.f p.1,e p.2)) (ys.map fun p=>(k.f p.1,e p.2))=deq xs ys:=by
 unfold deqD deq
 rw [gy,gy,List.all_map]
 congr 1
 congr 1
 funext p
 simp only [Function.comp]
 rw [VA]
 cases dget ys p.1 with
 | none=>rfl
 | some y=>exact he.eq _ _
variable {R:α→Ty} {R':γ→Ty} {f:α→List (κ×β)} {f':γ→List (κ×β)} {Ma:(α→S→Res ε δ)→Res ε δ} {Mb:S→(γ→S→Res ε δ)→Res ε δ}
end
end TL
end
section
namespace TL
open PySem PySem.Spec L2
def SU {α β:Type} (R:α→Ty) (R':β→Ty):α ⊕ β→Ty
 | .inl a=>R a
 | .inr b=>R' b
section
variable {K:jf} {ε ρ α β γ δ S:Type} {X:L2.St→XK} {De:ε→Own} {G:Sto} {Dd:S→Own} {s:S} {te:TE}
theorem PJ {R:α→Ty} {R':β→Ty} (f:α→Option β) {M:(α→S→Res ε δ)→Res ε δ} (h:EvC K X De te G Dd s M R) (hf:∀ x y v F,f x=some y→(R x).p v F→(R' y).p v F):EvC K X De te G Dd s (fun kk=>M fun x s1=>Res.bind (Res.opt (f x)) fun z=>kk z s1) R':=fun kk σ H F hs ss o r Q hm q qe=>
 h _ σ H F hs ss o r _ hm (fun x s1 v H1 F1 t1 hs1 r1 hm1=>by
  obtain ⟨z,ez,hm2⟩:=Res.FE hm1
  exact q z s1 v H1 F1 t1 hs1 (hf x z v F1 ez r1) hm2) qe
end
end TL
end
section
namespace TL
open PySem PySem.Spec L2
inductive EqV (K:jf) (H:Hp):V→V→Bool→Prop
 | dat {v u:V} {d e:PyData}:L2.Dp K H v d→L2.Dp K H u e→SeqAt.shaped d=true→SeqAt.shaped e=true→EqV K H v u (PyData.eqv d e)
 | dic {a b:Addr} {ks ls:List (L2.Key×V)} {es fs:List (L2.Key×PyData)}:L2.Rd H a (.dK ks)→L2.Rd H b (.dK ls)→DEn K H ks es→DEn K H ls fs→EqV K H (.ref a) (.ref b) (deqD es fs)
inductive EqVs (K:jf) (H:Hp):List V→List V→List Bool→Prop
 | nil:EqVs K H [] [] []
 | cons {v u:V} {vs us:List V} {b:Bool} {bs:List Bool}:EqV K H v u b→EqVs K H vs us bs→EqVs K H (v::vs) (u::us) (b::bs)
theorem fE {H:Hp} {a:Addr} {ks ls:List (L2.Key×V)} (h:L2.Rd H a (.dK ks)) (h':L2.Rd H a (.dK ls)):ks=ls:=by
 rcases h with h | ⟨o,h⟩ <;> rcases h' with h' | ⟨o',h'⟩ <;> rw [h] at h' <;> cases h' <;> rfl
theorem DEn.keys {K:jf} {H:Hp} {ks:List (L2.Key×V)} {es:List (L2.Key×PyData)} (h:DEn K H ks es):es.map (·.1)=ks.map (·.1):=by
 induction h with
 | nil=>rfl
 | cons _ _ _ ih=>simp [ih]
theorem DEn.lay {K:jf} {H:Hp} {ks:List (L2.Key×V)} {es:List (L2.Key×PyData)} (h:DEn K H ks es):∀ p∈es,SeqAt.shaped p.2=true:=by
 induction h with
 | nil=>intro p hp;cases hp
 | cons _ h2 _ ih=>
  intro p hp
  rcases hZ.mp hp with rfl | hp
  ·exact h2
  ·exact ih p hp
section
variable {X:Cx} {pins:List (Addr×Obj)} {σ:L2.St} {H:Hp} {s:Shared}
theorem cZ (I:Inv X pins σ H s) {ks:List (L2.Key×V)} {va:List (L2.Key×Value)} (ra:KV ks va) {es:List (L2.Key×PyData)} (h:DEn X.K H ks es):∀ {fs:List (L2.Key×PyData)},DEn X.K H ks fs→es=fs:=by
 unfold KV at ra
 induction h generalizing va with
 | nil=>intro fs h';cases h';rfl
 | @cons k v d ks es h1 h2 h3 ih=>
  intro fs h'
  cases h' with
  | @cons _ _ d' _ fs g1 g2 g3=>
   cases ra with
   | @cons _ q _ qs hq t=>
    obtain ⟨as,r1⟩:=Dp.reads I d v q.2 h1 hq.2
    obtain ⟨bs,r2⟩:=Dp.reads I d' v q.2 g1 hq.2
    have e:=(PySem.Reads.unique r1 d' bs r2).1
    rw [e,ih t g3]
theorem a9 {es:List (L2.Key×PyData)} (nd:(es.map (·.1)).Nodup) (hs:∀ p∈es,SeqAt.shaped p.2=true):deqD es es=true:=by
 unfold deqD
 rw [iN]
 refine ⟨by simp,iY.mpr fun p hp=>?_⟩
 have g:dval es p.1=some p.2:=by
  clear hs
  induction es with
  | nil=>cases hp
  | cons q es ih=>
   rw [hG,iK] at nd
   unfold dval at ih ⊢
   rw [ir]
   rcases hZ.mp hp with rfl | hp'
   ·simp
   ·have ne:q.1≠p.1:=fun e=>nd.1 (e ▸ iD hp')
    simp only [ne,decide_false]
    exact ih nd.2 hp'
 rw [g]
 exact SeqAt.eqv_refl _ (SeqAt.canLay_of_shaped (hs p hp))
theorem dy (I:Inv X pins σ H s) {A:Around} (hu:A.units+80 < cLine) {v u:V} {x y:Value} {b:Bool} (rx:RelV v x) (ry:RelV u y) (h:EqV X.K H v u b):SeqAt.EqP X.prog X.w A.in1 s x y b:=by
  cases h with
  | dat h1 h2 s1 s2=>
    obtain ⟨as,r1⟩:=Dp.reads I _ v x h1 rx
    obtain ⟨bs,r2⟩:=Dp.reads I _ u y h2 ry
    exact SeqAt.EqAt.eqP (PySem.W.keq_at r1 r2 s1 s2 (by show A.units+1+64 < _;omega))
  | @dic a c ks ls es fs ea eb h1 h2=>
    obtain rfl:x=Value.ref a:=rx
    obtain rfl:y=Value.ref c:=ry
    obtain ⟨_,ya,va,ra,da⟩:=dk_rd I.hok ea
    obtain ⟨_,yb,vb,rb,db⟩:=dk_rd I.hok eb
    by_cases hab:a=c
    · subst hab
      have e1:=fE ea eb
      subst e1
      have e2:=cZ I ra h1 h2
      subst e2
      have nd:(es.map (·.1)).Nodup:=by
        rw [h1.keys,ra.keys]
        obtain ⟨_,_,_,_,_,_,_,_,nd⟩:=da
        exact nd
      rw [a9 nd h1.lay]
      exact SeqAt.EqAt.eqP (SeqAt.EqAt.same _)
    · refine SeqAt.eqP_refs hab fun E Q hq=>?_
      have e:(va.length == vb.length && (es.all fun p=>match dval fs p.1 with
          | none=>false
          | some y=>PyData.eqv p.2 y))=deqD es fs:=by
        unfold deqD
        rw [← ra.length,← rb.length,h1.len,h2.len]
        all_goals rfl
      exact PySem.W.keq_eq (knd:=mixKind X.prog X.w) ya yb da db (by show A.units+1 < _;omega) (fun _=>fD I (A:=A.in1) (by show A.units+1+1+64 < _;omega) rb h2 ra h1) ((congrArg (fun b=>Q (.bool b) s) e).mpr hq)
end
end TL
namespace PySem.SeqAt
open AutoSeq1 (wpAny_loadPart')
open MeetsSeq MeetsSeq2 MeetsSeq3 SeqRoads2
section
variable {prog:Program} {w:World}
theorem aA (l b:Addr) (xs ys:Array Value) (n n2:Nat) (dd dd2:Option Addr) (sl sl2:Array (Option Value)) (hz:xs.size=ys.size) (e:Nat→Bool) (k:Nat) :
    ∀ i:Nat,xs.size - i=k→MeetsIn prog w (Builtin.«list.__eq__.loop» ⟨[.ref l,.ref b,rawInt i,rawInt 3],[]⟩)
      (fun A R s=>s.heap.get? l=some { cls:=.type "list",dict:=dd,data:=.seq xs n,slots:=sl }∧s.heap.get? b=some { cls:=.type "list",dict:=dd2,data:=.seq ys n2,slots:=sl2 } ∧
        (∀ j (h1:j < xs.size) (h2:j < ys.size),EqP prog w A.in1 s xs[j] ys[j] (e j))∧R (.ok (.ret (.bool (!((List.range xs.size).drop i).all e)))) s):=by
  induction k with
  | zero=>
    intro i hk A R s h
    obtain ⟨hp,g,d,tk,os⟩:=s;obtain ⟨hl,hb,he,h⟩:=h
    wp_walk using wpAny_loadPart' hl,wpAny_loadPart' hb
    have a1:xs[((i:Nat):Int).toNat]?=none:=by simp;omega
    have a2:ys[((i:Nat):Int).toNat]?=none:=by simp;omega
    have hd:(List.range xs.size).drop i=[]:=by simp;omega
    rw [hd] at h
    rw [a1,a2]
    wp_walk using wpAny_loadPart' hl,wpAny_loadPart' hb
    show R (.ok (.ret (.bool (xs.size != ys.size)))) _
    rw [hz]
    simpa using h
  | succ k ih=>
    intro i hk A R s h
    obtain ⟨hp,g,d,tk,os⟩:=s;obtain ⟨hl,hb,he,h⟩:=h
    wp_walk using wpAny_loadPart' hl,wpAny_loadPart' hb
    have lt1:i < xs.size:=by omega
    have lt2:i < ys.size:=by omega
    have a1:xs[((i:Nat):Int).toNat]?=some xs[i]:=by simp [lt1]
    have a2:ys[((i:Nat):Int).toNat]?=some ys[i]:=by simp [lt2]
    have hd:(List.range xs.size).drop i=i::(List.range xs.size).drop (i+1):=by simp [jB,lt1]
    have hc:((i:Int)+1)=((i+1:Nat):Int):=by push_cast;rfl
    rw [hd,List.all_cons] at h
    rw [a1,a2]
    refine wpAny_bind (he i lt1 lt2 _ _ ?_)
    cases hb':e i with
    | true=>
      rw [hb'] at h
      wp_walk
      rw [hc]
      exact ⟨plainId_quiet plain_eq_loop _,codeAny_builtin entry_eq_loop (by
        rw [Around.under_plainId plain_eq_loop _]
        exact ih (i+1) (by omega) A R _ ⟨hl,hb,he,by simpa using h⟩)⟩
    | false=>
      rw [hb'] at h
      wp_walk using wpAny_loadPart' hl,wpAny_loadPart' hb
      rw [a1,a2]
      wp_walk
      simpa using h
theorem fF (l b:Addr) (xs ys:Array Value) (n n2:Nat) (dd dd2:Option Addr) (sl sl2:Array (Option Value)) (hz:xs.size=ys.size) (e:Nat→Bool) :
    MeetsIn prog w (Builtin.«list.__ne__» ⟨[.ref l,.ref b],[]⟩)
      (fun A R s=>s.heap.get? l=some { cls:=.type "list",dict:=dd,data:=.seq xs n,slots:=sl }∧s.heap.get? b=some { cls:=.type "list",dict:=dd2,data:=.seq ys n2,slots:=sl2 } ∧
        (∀ j (h1:j < xs.size) (h2:j < ys.size),EqP prog w A.in1 s xs[j] ys[j] (e j))∧R (.ok (.ret (.bool (!(List.range xs.size).all e)))) s):=by
  intro A R s h
  obtain ⟨hp,g,d,tk,os⟩:=s;obtain ⟨hl,hb,he,h⟩:=h
  have f3:=AutoSeq1.sub_list_list
  have hne:¬ (xs.size != ys.size)=true:=by simp [hz]
  wp_walk using wpAny_loadPart' hl,wpAny_loadPart' hb
  exact ⟨plainId_quiet plain_eq_loop _,codeAny_builtin entry_eq_loop (by
    rw [Around.under_plainId plain_eq_loop _]
    exact aA l b xs ys n n2 dd dd2 sl sl2 hz e _ 0 rfl A R _ ⟨hl,hb,he,by simpa using h⟩)⟩
theorem rcneP_lists {A:Around} {s:Shared} {l b:Addr} {xs ys:Array Value} {e:Nat→Bool} (hl:s.heap.IsList l xs) (hb:s.heap.IsList b ys) (hz:xs.size=ys.size) (hu:A.units < cLine)
    (he:∀ j (h1:j < xs.size) (h2:j < ys.size),EqP prog w A.in1 s xs[j] ys[j] (e j)) (E Q:Value→Shared→Prop) (h:Q (.bool (!(List.range xs.size).all e)) s):wpAny (model prog w) A (richCompare .NotEq (.ref l) (.ref b)) Q E s:=by
  obtain ⟨⟨cls,dd,data,sl⟩,ho,hc,n,hd⟩:=id hl
  obtain ⟨⟨cls2,dd2,data2,sl2⟩,ho2,hc2,n2,hd2⟩:=id hb
  simp only at hc hd hc2 hd2
  subst hc hd hc2 hd2
  have ta:s.TypeIs (.ref l) "list":=⟨_,ho,rfl⟩
  have tb:s.TypeIs (.ref b) "list":=⟨_,ho2,rfl⟩
  exact wpAny_richCompare_same_room (op:=.NotEq) ta tb F.slot_list_ne (call_meetsIn F.slot_list_ne ta F.entry_list_ne (F.args_list_ne_2 _ _) (fF l b xs ys n n2 dd dd2 sl sl2 hz e)
    ⟨ho,ho2,he,show Value.bool (!(List.range xs.size).all e)≠Value.notImplemented∧Q (.bool (!(List.range xs.size).all e)) s from ⟨(fun x=>nomatch x),h⟩⟩) hu
end
end PySem.SeqAt
namespace TL
open PySem PySem.Spec L2
theorem EqVs.len {K:jf} {H:Hp} {xs ys:List V} {bs:List Bool} (h:EqVs K H xs ys bs):xs.length=ys.length∧xs.length=bs.length:=by
 induction h with
 | nil=>exact ⟨rfl,rfl⟩
 | cons _ _ ih=>exact ⟨by rw [i7,i7,ih.1],by rw [i7,i7,ih.2]⟩
theorem EqVs.at_ {K:jf} {H:Hp} {xs ys:List V} {bs:List Bool} (h:EqVs K H xs ys bs):∀ {j:Nat} {x y:V},xs[j]?=some x→ys[j]?=some y→EqV K H x y (bs.getD j true):=by
 induction h with
 | nil=>intro j x y h;simp at h
 | @cons v u vs us b bs h1 _ ih=>
  intro j x y hx hy
  cases j with
  | zero=>cases hx;cases hy;exact h1
  | succ j=>exact ih hx hy
theorem PL {xs:List V} {us:List Value} {i:Nat} (r:Vals xs us) (h:i < xs.length) (h':i < us.length):RelV xs[i] us[i]:=by
 obtain ⟨u,e,ru⟩:=Vals.get r (hJ h)
 rw [hJ h'] at e
 cases e
 exact ru
def dz (K:jf):R2:=fun x y H Q=>∃ a b xs ys,x=.ref a∧y=.ref b∧SqL K H a xs∧SqL K H b ys∧((xs.length≠ys.length∧Q (.bl false) H)∨∃ bs,EqVs K H xs ys bs∧Q (.bl (bs.all id)) H)
def aB (K:jf):R2:=fun x y H Q=>∃ a b xs ys,x=.ref a∧y=.ref b∧SqL K H a xs∧SqL K H b ys∧((xs.length≠ys.length∧Q (.bl true) H)∨∃ bs,EqVs K H xs ys bs∧Q (.bl (!bs.all id)) H)
theorem all_range (bs:List Bool):(List.range bs.length).all (fun j=>bs.getD j true)=bs.all id:=by
 rw [Bool.eq_iff_iff,iY,iY]
 constructor
 ·intro h b hb
  obtain ⟨i,hi,e⟩:=List.mem_iff_getElem.mp hb
  have:=h i (List.mem_range.mpr hi)
  rw [hU,hJ hi] at this
  rw [← e]
  exact this
 ·intro h i hi
  have hi':=List.mem_range.mp hi
  rw [hU,hJ hi']
  exact h _ (List.getElem_mem hi')
section
variable {X:Cx}
theorem gr {k:Nat} (hr:Room k X.A):OpR X (compareOp .Eq) (dz X.K):=by
 intro pins s σ H x y v u Q I rx ry h
 obtain ⟨a,b,xs,ys,rfl,rfl,ha,hb,h⟩:=h
 obtain rfl:v=Value.ref a:=rx
 obtain rfl:u=Value.ref b:=ry
 obtain ⟨its,r1,p1,_⟩:=I.list ha
 obtain ⟨its2,r2,p2,_⟩:=I.list hb
 have hu:=hr.un
 have l1:=r1.length
 have l2:=r2.length
 rcases h with ⟨hne,q⟩ | ⟨bs,hv,q⟩
 ·exact SeqAt.RcAt.lists_lengths p1.isList p2.isList (by simp;omega) (by omega) X.prog X.w _ _ ⟨.bl _,H,I,rfl,q⟩
 ·have lb:=hv.len
  refine SeqAt.rcP_lists p1.isList p2.isList (e:=fun j=>bs.getD j true) (by simp;omega) (by omega) (fun j h1 h2=>?_) _ _ ?_
  ·have h1':j < xs.length:=by rw [l1];simpa using h1
   have h2':j < ys.length:=by rw [l2];simpa using h2
   exact dy I (by omega) (PL r1 h1' (by simpa using h1)) (PL r2 h2' (by simpa using h2)) (hv.at_ (hJ h1') (hJ h2'))
  ·refine ⟨.bl _,H,I,?_,q⟩
   have:its.toArray.size=bs.length:=by simp;omega
   rw [this,all_range]
   rfl
theorem cb {k:Nat} (hr:Room k X.A):OpR X (compareOp .NotEq) (aB X.K):=by
 intro pins s σ H x y v u Q I rx ry h
 obtain ⟨a,b,xs,ys,rfl,rfl,ha,hb,h⟩:=h
 obtain rfl:v=Value.ref a:=rx
 obtain rfl:u=Value.ref b:=ry
 obtain ⟨its,r1,p1,_⟩:=I.list ha
 obtain ⟨its2,r2,p2,_⟩:=I.list hb
 have hu:=hr.un
 have l1:=r1.length
 have l2:=r2.length
 rcases h with ⟨hne,q⟩ | ⟨bs,hv,q⟩
 ·exact SeqAt.RcNeAt.lists_lengths p1.isList p2.isList (by simp;omega) (by omega) X.prog X.w _ _ ⟨.bl _,H,I,rfl,q⟩
 ·have lb:=hv.len
  refine SeqAt.rcneP_lists p1.isList p2.isList (e:=fun j=>bs.getD j true) (by simp;omega) (by omega) (fun j h1 h2=>?_) _ _ ?_
  ·have h1':j < xs.length:=by rw [l1];simpa using h1
   have h2':j < ys.length:=by rw [l2];simpa using h2
   exact dy I (by omega) (PL r1 h1' (by simpa using h1)) (PL r2 h2' (by simpa using h2)) (hv.at_ (hJ h1') (hJ h2'))
  ·refine ⟨.bl _,H,I,?_,q⟩
   have:its.toArray.size=bs.length:=by simp;omega
   rw [this,all_range]
   rfl
end
def EqK (K:jf) {α β:Type} (R:α→Ty) (R':β→Ty) (f:α→β→Option Bool):Prop:=∀ x y b v u (D:Own) H F,HS D H F→f x y=some b→(R x).p v F→(R' y).p u F→EqV K H v u b
theorem gK {K:jf} {α:Type} [DecidableEq α] {R:α→Ty} {e:α→PyData} {m:Nat} (he:Enc e m) (hd:∀ x,Dat K (R x) (e x)) (hn:m≤64:=by decide):EqK K R R (fun x y=>some (decide (x=y))):=fun x y b v u D H F hs eb h1 h2=>by
 cases eb
 rw [← he.eq]
 exact .dat (LL hs (hd _ _ _ h1)) (LL hs (hd _ _ _ h2)) (he.shaped hn _) (he.shaped hn _)
theorem fG {K:jf} {κ α:Type} [DecidableEq κ] [DecidableEq α] {k:KeyE κ} {R:α→Ty} {e:α→PyData} {m:Nat} (he:Enc e m) (hd:∀ x,Dat K (R x) (e x)) (hn:m≤64:=by decide):EqK K (DT k R) (DT k R) (fun x y=>some (deq x y)):=fun x y b v u D H F hs eb h1 h2=>by
 cases eb
 obtain ⟨a,od,kvs,rfl,g1,g2⟩:=h1
 obtain ⟨a',od',kvs',rfl,g1',g2'⟩:=h2
 rw [← a8 (k:=k) he]
 exact .dic (.inr ⟨od,hs.sub _ _ g1⟩) (.inr ⟨od',hs.sub _ _ g1'⟩) (g2.den hs he hn hd) (g2'.den hs he hn hd)
def eqSU {α β α' β':Type} (f:α→α'→Option Bool) (g:β→β'→Option Bool):α ⊕ β→α' ⊕ β'→Option Bool
 | .inl a,.inl b=>f a b
 | .inr a,.inr b=>g a b
 | _,_=>none
theorem fH {K:jf} {α β α' β':Type} {R:α→Ty} {S:β→Ty} {R':α'→Ty} {S':β'→Ty} {f:α→α'→Option Bool} {g:β→β'→Option Bool} (hf:EqK K R R' f) (hg:EqK K S S' g):EqK K (SU R S) (SU R' S') (eqSU f g):=fun x y b v u D H F hs eb h1 h2=>by
 cases x with
 | inl a=>cases y with
  | inl c=>exact hf a c b v u D H F hs eb h1 h2
  | inr c=>cases eb
 | inr a=>cases y with
  | inl c=>cases eb
  | inr c=>exact hg a c b v u D H F hs eb h1 h2
def eqZ {α β:Type} (f:α→β→Option Bool):List α→List β→Option (List Bool)
 | [],[]=>some []
 | x::xs,y::ys=>(f x y).bind fun b=>(eqZ f xs ys).map fun bs=>b::bs
 | _,_=>none
def eqLs {α β:Type} (f:α→β→Option Bool) (xs:List α) (ys:List β):Option Bool:=if xs.length=ys.length then (eqZ f xs ys).map fun bs=>bs.all id else some false
theorem Wh {K:jf} {α β:Type} {R:α→Ty} {R':β→Ty} {f:α→β→Option Bool} (hf:EqK K R R' f) {D:Own} {H F:Hp} (hs:HS D H F):∀ {xs:List α} {ys:List β} {vs us:List V} {bs:List Bool},eqZ f xs ys=some bs→AllP F (xs.map R) vs→AllP F (ys.map R') us→EqVs K H vs us bs
 | [],[],_,_,_,e,h1,h2=>by
  cases e
  cases h1
  cases h2
  exact .nil
 | x::xs,y::ys,_,_,_,e,h1,h2=>by
  obtain ⟨b,eb,e2⟩:=jW.mp e
  obtain ⟨bs,es,e3⟩:=ia.mp e2
  subst e3
  cases h1 with
  | cons g1 g2=>cases h2 with
   | cons g1' g2'=>exact .cons (hf _ _ _ _ _ _ _ _ hs eb g1 g1') (Wh hf hs es g2 g2')
 | [],y::ys,_,_,_,e,_,_=>by cases e
 | x::xs,[],_,_,_,e,_,_=>by cases e
section
variable {K:jf} {ε ρ α β γ δ S:Type} {X:L2.St→XK} {De:ε→Own} {G:Sto} {Dd:S→Own} {s:S} {ta tb:TE}
variable {R:α→Ty} {R':γ→Ty} {f:α→γ→Option Bool} {Ma:(List α→S→Res ε δ)→Res ε δ} {Mb:S→(List γ→S→Res ε δ)→Res ε δ}
theorem gL (hf:EqK K R R' f) (ha:EvC K X De ta G Dd s Ma (LT K R)) (hb:∀ s1,EvC K X De tb G Dd s1 (Mb s1) (LT K R')):EvC K X De (tOp (dz K) ta tb) G Dd s (fun kk=>Ma fun a s1=>Mb s1 fun b s2=>Res.bind (Res.opt (eqLs f a b)) fun z=>kk z s2) (tD K eB):=fun kk σ H F hs ss o r Q hm q qe=>
 ha _ σ H F hs ss o r _ hm (fun a s1 x H1 F1 t1 hs1 r1 hm1=>hb s1 _ σ H1 F1 hs1 (ss.mono t1) o r _ hm1
  (fun b s2 y H2 F2 t2 hs2 r2 hm2=>by
   obtain ⟨z,ez,hm3⟩:=Res.FE hm2
   obtain ⟨p,vs,rfl,h1,h2⟩:=(LT K R a).mono t2 r1
   obtain ⟨p',us,rfl,h1',h2'⟩:=r2
   refine ⟨p,p',vs,us,rfl,rfl,Fl hs2 h1,Fl hs2 h1',?_⟩
   have l1:=h2.len
   have l2:=h2'.len
   rw [gy] at l1 l2
   unfold eqLs at ez
   split at ez
   ·obtain ⟨bs,eb,e2⟩:=ia.mp ez
    subst e2
    exact .inr ⟨bs,Wh hf hs2 eb h2 h2',q _ s2 _ H2 F2 (t1.trans t2) hs2 (.bl _) hm3⟩
   ·cases ez
    exact .inl ⟨by omega,q _ s2 _ H2 F2 (t1.trans t2) hs2 (.bl _) hm3⟩)
  (fun n e h H2 F2 t2=>qe n e h H2 F2 (t1.trans t2))) qe
theorem aC (hf:EqK K R R' f) (ha:EvC K X De ta G Dd s Ma (LT K R)) (hb:∀ s1,EvC K X De tb G Dd s1 (Mb s1) (LT K R')):EvC K X De (tOp (aB K) ta tb) G Dd s (fun kk=>Ma fun a s1=>Mb s1 fun b s2=>Res.bind (Res.opt (eqLs f a b)) fun z=>kk (!z) s2) (tD K eB):=fun kk σ H F hs ss o r Q hm q qe=>
 ha _ σ H F hs ss o r _ hm (fun a s1 x H1 F1 t1 hs1 r1 hm1=>hb s1 _ σ H1 F1 hs1 (ss.mono t1) o r _ hm1
  (fun b s2 y H2 F2 t2 hs2 r2 hm2=>by
   obtain ⟨z,ez,hm3⟩:=Res.FE hm2
   obtain ⟨p,vs,rfl,h1,h2⟩:=(LT K R a).mono t2 r1
   obtain ⟨p',us,rfl,h1',h2'⟩:=r2
   refine ⟨p,p',vs,us,rfl,rfl,Fl hs2 h1,Fl hs2 h1',?_⟩
   have l1:=h2.len
   have l2:=h2'.len
   rw [gy] at l1 l2
   unfold eqLs at ez
   split at ez
   ·obtain ⟨bs,eb,e2⟩:=ia.mp ez
    subst e2
    exact .inr ⟨bs,Wh hf hs2 eb h2 h2',q _ s2 _ H2 F2 (t1.trans t2) hs2 (.bl _) hm3⟩
   ·cases ez
    exact .inl ⟨by omega,q _ s2 _ H2 F2 (t1.trans t2) hs2 (.bl _) hm3⟩)
  (fun n e h H2 F2 t2=>qe n e h H2 F2 (t1.trans t2))) qe
end
end TL
end
section
namespace TL
open PySem PySem.Spec L2
section
variable {K:jf} {ε ε' ρ α β γ δ S τ τ' σt ω Ω:Type}
theorem AO {args:τ→List Ty} {mf:τ→Res Unit γ} {out:γ→Out} {N:List Str} {tf:TS} {vs:List V} {H:Hp} {Q:VK} {X:XK}
    (walk:∀ (x:τ) (F:Hp) (D:Own) (E:Ends),E.rt=Q→(∀ (F:Hp) (K:jf) G D1,GoV Q F (DN K) D1→Go E.nx F G D1)→(dwish K X Q out (fun _=>D) (fun _:Unit=>D)).W F (mf x)→Go (tf E) F ((args x).map some++List.replicate (N.length - (args x).length) none) D)
    (h:spP K args mf out vs H Q X):tf { nx:=fun _ H'=>Q .non H',rt:=Q } (L2.start N vs) H:=by
  obtain ⟨x,F,D,hs,ha,hp⟩:=h
  have z:=SS.start (N:=N) ha
  rw [ha.len] at z
  exact walk x F D { nx:=fun _ H'=>Q .non H',rt:=Q } rfl (fun _ K G D1 k σ H F1 s hs ss=>k _ H F1 s hs .non) hp _ H F (Same.refl _) hs z
theorem Ck {O:ω→OTy} {args:Addr→τ→List Ty} {mf:τ→ω→Res ω (γ×ω)} {out:γ→Out} {N:List Str} {tf:TS} {vs:List V} {H:Hp} {Q:VK} {X:XK}
    (walk:∀ (x:τ) (y:ω) (F:Hp) (Dp:ω→Own) (k:Nat) (a:Addr) (E:Ends),Bor1 Dp k a O→E.rt=Q→(∀ (F:Hp) (K:jf) G D1,GoV Q F (DN K) D1→Go E.nx F G D1)→(dwish K X Q (fun r:γ×ω=>out r.1) (fun r=>Dp r.2) Dp).W F (mf x y) →
      Go (tf E) F ((args a x).map some++List.replicate (N.length - (args a x).length) none) (Dp y))
    (h:spC K O args mf out vs H Q X):tf { nx:=fun _ H'=>Q .non H',rt:=Q } (L2.start N vs) H:=by
  obtain ⟨x,y,F,Dp,k,a,B,hs,ha,hp⟩:=h
  have z:=SS.start (N:=N) ha
  rw [ha.len] at z
  exact walk x y F Dp k a { nx:=fun _ H'=>Q .non H',rt:=Q } B rfl (fun _ K G D1 k σ H F1 s hs ss=>k _ H F1 s hs .non) hp _ H F (Same.refl _) hs z
theorem Pm {mf:τ→Res Unit γ} {out:γ→Out} {N:List Str} {tf:TS} {vs:List V} {H:Hp} {Q:VK} {X:XK}
    (walk:∀ (x:τ) (F:Hp) (D:Own) (E:Ends),pl x D→E.rt=Q→(∀ (F:Hp) (K:jf) G D1,GoV Q F (DN K) D1→Go E.nx F G D1)→(dwish K X Q out (fun _=>D) (fun _:Unit=>D)).W F (mf x)→Go (tf E) F ((args x).map some++List.replicate (N.length - (args x).length) none) D)
    (h:spR K args pl mf out vs H Q X):tf { nx:=fun _ H'=>Q .non H',rt:=Q } (L2.start N vs) H:=by
  obtain ⟨x,F,D,hp0,hs,ha,hp⟩:=h
  have z:=SS.start (N:=N) ha
  rw [ha.len] at z
  exact walk x F D { nx:=fun _ H'=>Q .non H',rt:=Q } hp0 rfl (fun _ K G D1 k σ H F1 s hs ss=>k _ H F1 s hs .non) hp _ H F (Same.refl _) hs z
end
end TL
end
section
namespace TL
open PySem PySem.Spec L2
def Pn {α:Type} (xs:List α) (i:Int):Option (α×List α):=if -(2 ^ 63)≤i∧i < 2 ^ 63 then (seqIndex? i xs.length).bind fun k=>xs[k]?.map fun y=>(y,xs.eraseIdx k) else none
theorem Po {F:Hp}:∀ {Rs:List Ty} {us:List V},AllP F Rs us→∀ k,AllP F (Rs.eraseIdx k) (us.eraseIdx k)
 | _,_,.nil,_=>by simp;exact .nil
 | _,_,.cons h1 h2,0=>h2
 | _,_,.cons h1 h2,k+1=>.cons h1 (Po h2 k)
theorem Sj {α β:Type} (f:α→β):∀ (xs:List α) (k:Nat),(xs.map f).eraseIdx k=(xs.eraseIdx k).map f
 | [],_=>by simp
 | _::_,0=>rfl
 | x::xs,k+1=>by
  show f x::(xs.map f).eraseIdx k=f x::(xs.eraseIdx k).map f
  rw [Sj f xs k]
section
variable {K:jf} {ε ρ α β γ δ S Ω:Type} {X:L2.St→XK} {De:ε→Own} {G:Sto} {tb:TE}
theorem VB {R:α→Ty} {i k:Nat} {a:Addr} {Dd:Ω→Own} {s:Ω} {gt:Ω→List α} {st:Ω→List α→Ω} {Mb:(Int→Ω→Res ε δ)→Res ε δ} (B:Bor Dd k a (OLT R) gt st) (hi:G[i]?=some (some (Is (.ref a)))) (hb:EvC K X De tb G Dd s Mb (tD K eI)) :
    EvC (β:=δ) K X De (tBM K "list" rPopAt (tVar i) (tCons tb tNil)) G Dd s (fun kk=>Mb fun j s1=>Res.bind (Res.opt (Pn (gt s1) j)) fun z=>kk z.1 (st s1 z.2)) R:=fun kk σ H F hs ss o r Q hm q qe=>by
  obtain ⟨v,e1,e2⟩:=ss.get hi
  have ev:v=.ref a:=e2
  subst ev
  obtain ⟨o1,ho,vs,rfl,hx⟩:=hs.at (B.at_ s)
  refine ⟨_,e1,.inl ⟨rfl,vs,SqL.of ho⟩,hb _ σ H F hs ss o r _ hm (fun j s1 u H1 F1 t1 hs1 r1 hm1=>?_) qe⟩
  have eu:u=.int j:=Bo r1
  subst eu
  obtain ⟨z,ez,hm2⟩:=Res.FE hm1
  obtain ⟨o2,ho2,us,rfl,hy⟩:=hs1.at (B.at_ s1)
  have ln:=hy.len
  rw [gy] at ln
  unfold Pn at ez
  split at ez
  · rename_i bd
    obtain ⟨m,em,e3⟩:=jW.mp ez
    obtain ⟨y,ey,e4⟩:=ia.mp e3
    subst e4
    have e5:((gt s1).map R)[m]?=some (R y):=by rw [iB,ey];rfl
    obtain ⟨w,hw,rw_⟩:=hy.get e5
    refine ⟨a,us,j,m,w,rfl,rfl,ho2,bd.1,bd.2,by rw [ln];exact em,hw,?_⟩
    have z:=hs1.put (O':=OLT R ((gt s1).eraseIdx m)) (o:=.lst (us.eraseIdx m)) (B.at_ s1) ⟨_,rfl,by
      have:=Po hy m
      rw [Sj] at this
      exact this⟩
    rw [B.set_ s1] at z
    exact q y (st s1 ((gt s1).eraseIdx m)) w _ F1 t1 z rw_ hm2
  · cases ez
end
end TL
end
section
namespace TL
open PySem PySem.Spec L2 PySem.W PySem.Calls PyProof.Rows
section
variable {X:Cx} {pins:List (Addr×Obj)} {σ:L2.St} {H:Hp} {s:Shared}
theorem Pp (I:Inv X pins σ H s):∀ {vs:List V} {ds:List PyData} {us:List Value},DpAll X.K H vs ds→Vals vs us →
    EachIs (fun u (b:V×PyData)=>RelV b.1 u) us (vs.zip ds)∧EachIs (fun u (b:V×PyData)=>∃ as,Reads s.heap u b.2 as) us (vs.zip ds)
  | [],_,_,h,r=>by cases h;cases r;exact ⟨.nil,.nil⟩
  | v::vs,_,_,h,r=>by
    cases h with
    | cons h1 h2=>
      cases r with
      | cons r1 r2=>
        obtain ⟨g1,g2⟩:=Pp I h2 r2
        exact ⟨.cons r1 g1,.cons (Dp.reads I _ _ _ h1 r1) g2⟩
theorem NL:∀ {us:List Value} {bs:List (V×PyData)},EachIs (fun u (b:V×PyData)=>RelV b.1 u) us bs→Vals (bs.map Prod.fst) us
 | _,_,.nil=>.nil
 | _,_,.cons h t=>.cons h (NL t)
theorem NM {K:jf}:∀ {vs:List V} {ds:List PyData},DpAll K H vs ds→(vs.zip ds).map Prod.snd=ds∧vs.length=ds.length
 | _,_,.nil=>⟨rfl,rfl⟩
 | _,_,.cons _ h=>by
  obtain ⟨e1,e2⟩:=NM h
  exact ⟨by rw [List.zip_cons_cons,hG,e1],by simp [e2]⟩
end
structure SoD {β:Type} (e:β→PyData) (n:Nat):Prop where
 alk:∀ x y,alike (e x) (e y)=true
 dep:∀ x,(e x).depth≤n
 srt:(∀ x,∃ d r,e x=.tuple (d::r))∨∀ x,e x≠.none∧∀ xs,e x≠.tuple xs
noncomputable def Cg {β:Type} (e:β→PyData) (xs:List β):List β:=xs.mergeSort (dataLe false e)
section
variable {K:jf} {ε ε' ρ α β γ δ S τ τ' σt ω Ω:Type} {X:L2.St→XK} {Xk:XK} {De:ε→Own} {G G1 G2:Sto} {D0:Own} {Dd:S→Own} {s:S} {te ta tb tc tx:TE} {tt tu:TT} {F0 F1:Hp} {E:Ends} {w:Wish K ε ρ} {t:TA} {n:Nat}
theorem Sk {F:Hp} {Re:β→Ty} {e:β→PyData}:∀ {xs:List β} {vs:List V} {le:β→β→Bool},AllP F (xs.map Re) vs→(∀ x v,(Re x).p v F→Dp K F v (e x))→le=dataLe false e →
    AllP F ((xs.mergeSort le).map Re) (((vs.zip (xs.map e)).mergeSort (dataLe false Prod.snd)).map Prod.fst):=by
  intro xs vs le h hd hle
  subst hle
  have hl:vs.length=xs.length:=by rw [h.len,gy]
  let T:List (V×β):=vs.zip xs
  have e1:vs.zip (xs.map e)=T.map (fun p=>(p.1,e p.2)):=by
    show vs.zip (xs.map e)=(vs.zip xs).map _
    rw [List.zip_map_right]
    rfl
  have e2:xs=T.map Prod.snd:=by
    show xs=(vs.zip xs).map Prod.snd
    rw [List.map_snd_zip (by omega)]
  have m1:(T.map (fun p=>(p.1,e p.2))).mergeSort (dataLe false Prod.snd)=(T.mergeSort (fun p q=>dataLe false e p.2 q.2)).map (fun p=>(p.1,e p.2)):=(List.map_mergeSort (f:=fun p:V×β=>(p.1,e p.2)) (r:=fun p q=>dataLe false e p.2 q.2) (s:=dataLe false Prod.snd) (fun a _ b _=>rfl)).symm
  have m2:(T.map Prod.snd).mergeSort (dataLe false e)=(T.mergeSort (fun p q=>dataLe false e p.2 q.2)).map Prod.snd:=(List.map_mergeSort (f:=fun p:V×β=>p.2) (r:=fun p q=>dataLe false e p.2 q.2) (s:=dataLe false e) (fun a _ b _=>rfl)).symm
  have hT:∀ p∈T,(Re p.2).p p.1 F:=fun p hp=>by
    obtain ⟨i,hi⟩:=j8 hp
    have hz:=List.getElem?_zip_eq_some.mp hi
    obtain ⟨v,hv,hr⟩:=h.get (i:=i) (R:=Re p.2) (by rw [iB,hz.2];rfl)
    rw [hz.1] at hv
    cases hv
    exact hr
  rw [e1,m1,iJ]
  have m3:(xs.mergeSort (dataLe false e))=(T.mergeSort (fun p q=>dataLe false e p.2 q.2)).map Prod.snd:=by
    rw [← m2,← e2]
  rw [m3]
  have hT2:∀ p∈T.mergeSort (fun p q=>dataLe false e p.2 q.2),(Re p.2).p p.1 F:=fun p hp=>hT p (List.mem_mergeSort.mp hp)
  generalize T.mergeSort (fun p q=>dataLe false e p.2 q.2)=U at hT2
  clear m1 m2 m3 hT e1 e2
  induction U with
  | nil=>exact .nil
  | cons p U ih=>exact .cons (hT2 p gu) (ih fun q hq=>hT2 q (gz _ hq))
end
theorem so_S:SoD eS 0:=⟨fun _ _=>rfl,(fun _=>by simp [eS,PyData.depth]),.inr fun x=>⟨(fun z=>by cases z),fun xs z=>by cases z⟩⟩
theorem so_2 {α β:Type} {e:α→PyData} {g:β→PyData} {n m:Nat} (h:SoD e n) (h':SoD g m):SoD (e2 e g) (n+m+1):=⟨fun x y=>by simp [e2,alike,alikeAll,h.alk,h'.alk],fun x=>by
 have h1:=h.dep x.1
 have h2:=h'.dep x.2
 simp only [e2,PyData.depth,PyData.depthAll,Nat.max_def]
 repeat' split
 all_goals omega,.inl fun x=>⟨_,_,rfl⟩⟩
end TL
end
section
namespace TL
open PySem PySem.Spec L2 PyProof.Rows PySem.Calls PySem.AutoSeq1
theorem RK (l:Addr) (items:Array Value) (n:Nat) (b:Addr) (items2:Array Value) (n2:Nat) (dd:Option Addr) (sl:Array (Option Value)) (hc0:¬(!items.isEmpty && Builtin.List.listTooLong (items.size+items2.size))=true) (hc1:items.size≤sizeLine) (hs2:items.size+items2.size≤sizeLine+1) :
    Meets (Builtin.«list.extend» ⟨[.ref l,.ref b],[]⟩) (fun _ R s=>s.heap.get? l=some { cls:=.type "list",dict:=none,data:=.seq items n,slots:=#[] }∧s.heap.get? b=some { cls:=.type "list",dict:=dd,data:=.seq items2 n2,slots:=sl }∧R (.ok (.ret Value.none)) { s with heap:=s.heap.update l (Obj.mapSeq fun x=>x++items2),toks:=s.toks }):=
  .of_wp fun prog w A R s h=>by
    obtain ⟨hp,g,d,tk,os⟩:=s;obtain ⟨hl,hb,h⟩:=h;have f1:=idx_int;have f2:=AutoSeq1.sub_tuple_tuple;have f3:=AutoSeq1.sub_list_list;have f4:=AutoSeq1.sub_tuple_list;have f5:=AutoSeq1.sub_list_tuple;
    have hz':(items++items2).size≤sizeLine+1:=by rw [Array.size_append];exact hs2
    wp_walk using (wpAny_updateSeq hl rfl (hz:=hc1) (_hz':=hz')),wpAny_loadPart' hl,wpAny_loadPart' hb;exact ⟨_,rfl,h⟩
def MT (K:jf):V→List V→Hp→VK→Prop:=fun x vs H Q=>∃ l b xs zs,x=.ref l∧vs=[.ref b]∧H l=some (.lst xs)∧SqL K H b zs∧xs.length+zs.length≤sizeLine∧Q .non (upd H l (.lst (xs++zs)))
theorem Pq {X:Cx}:MtM X "list.extend" (MT X.K):=by
 intro pins s σ H x vs v us Q I rx rv h
 obtain ⟨l,b,xs,zs,rfl,rfl,hH,hB,hz,q⟩:=h
 cases rx
 obtain ⟨u,rfl,ru⟩:=rv.one
 cases ru
 obtain ⟨z,its,n,r,hl,e⟩:=I.lstM hH
 obtain ⟨its2,r2,⟨⟨cls2,dd2,data2,sl2⟩,n2,e2,hc2,hdn2,hdt2⟩,hlen2⟩:=I.list hB
 simp only at hc2 hdt2
 subst hc2 hdt2
 have l2:=r2.length
 have hsz:its.toArray.size+its2.toArray.size≤sizeLine:=by rw [jb,jb];omega
 have hlong:¬ (!its.toArray.isEmpty && Builtin.List.listTooLong (its.toArray.size+its2.toArray.size))=true:=by
  rw [notLongL hsz,Bool.and_false]
  exact Bool.false_ne_true
 refine call_meets F.slot_list_extend ⟨_,e,rfl⟩ F.entry_list_extend (F.args_list_extend_2 _ _)
  (RK l its.toArray n b its2.toArray n2 dd2 sl2 hlong (by rw [jb];omega) (by omega)) ⟨e,e2,?_⟩
 refine ⟨.non,_,I.lset (its':=its++its2) hH e (by simp) (r.append r2) ?_,rfl,q⟩
 rw [List.length_append]
 omega
section
variable {K:jf} {ε ε' ρ α β γ δ S τ τ' σt ω Ω κ:Type} {X:L2.St→XK} {Xk:XK} {De:ε→Own} {G G1 G2:Sto} {D0:Own} {Dd:S→Own} {s:S} {te ta tb tc tx:TE} {tt tu:TT} {F0 F1:Hp} {E:Ends} {w:Wish K ε ρ} {t:TA} {n:Nat}
theorem VC {R:α→Ty} {xs:List α} {k:Nat} {a:Addr} {M:(List α→S→Res ε ρ)→Res ε ρ} {kk:List α×S→Res ε ρ} (ho:G[n]?=some (some (Is (.ref a)))) (h:EvC K w.X w.De te G Dd s M (LT K R)) (hk:∀ s,(Dd s)[k]?=some (a,OLT R xs))
    {m:Res ε ρ} (hP:w.W F0 m) (q:∀ x,w.W F0 (kk x)→Go E.nx F0 G ((Dd x.2).set k (a,OLT R x.1))) (c:w.cond G:=by first | exact trivial | walk_at "cond") (hm:m=(M fun v s'=>Res.bind (Res.grd (xs.length+v.length≤100000) (xs++v,s')) kk):=by exact rfl):Go (tDrop (tBM K "list" (MT K) (tVar n) (tCons te tNil)) E) F0 G (Dd s):=by subst hm;exact (fun σ H F t hs ss=>by
  obtain ⟨v0,e0,r0⟩:=ss.get ho
  have r0':v0=.ref a:=r0
  subst r0'
  obtain ⟨o1,ho1,xs1,rfl,h21⟩:=hs.at (hk s)
  refine ⟨_,e0,.inl ⟨rfl,xs1,SqL.of ho1⟩,h _ σ H F hs ss _ _ _ hP (fun ys s' u H1 F1 t1 hs1 r1 hm=>?_) (fun n e hr H1 F1 t1 hs1=>w.err hr c σ H1 F1 (t.trans t1) hs1 (ss.mono t1))⟩
  obtain ⟨hl,hm2⟩:=Res.DE hm
  obtain ⟨p,us,rfl,h3,h4⟩:=r1
  obtain ⟨o,ho2,vs,rfl,h2⟩:=hs1.at (hk s')
  have l2:=h2.len
  have l3:=h4.len
  rw [gy] at l2 l3
  refine ⟨a,p,vs,us,rfl,rfl,ho2,Fl hs1 h3,by rw [l2,l3];exact iH hl Aq,?_⟩
  exact q (xs++ys,s') hm2 σ _ F1 (t.trans t1) (hs1.put (hk s') ⟨_,rfl,JG h2 h4⟩) (ss.mono t1))
end
end TL
end
section
namespace TL
open PySem PySem.Spec L2
section
variable {K:jf} {ε ε' ρ α β γ δ S τ τ' σt ω Ω κ:Type} {X:L2.St→XK} {Xk:XK} {De:ε→Own} {G G1 G2:Sto} {D0:Own} {Dd:S→Own} {s:S} {te ta tb tc tx:TE} {tt tu:TT} {F0 F1:Hp} {E:Ends} {w:Wish K ε ρ} {t:TA} {n:Nat} {C:Addr} {P:L2.St→Hp→Prop}
theorem GoV.le {P:VK} {R:Ty} {D D':Own} (h:GoV P F0 R D') (l:DLe D D'):GoV P F0 R D:=fun v H F s hs r=>h v H F s (l H F hs) r
theorem GoX.le {P:XK} {c:Value} {D D':Own} (h:GoX P F0 c D') (l:DLe D D'):GoX P F0 c D:=fun H F s hs=>h H F s (l H F hs)
theorem Go.le {P:L2.St→Hp→Prop} {D D':Own} (h:Go P F0 G D') (l:DLe D D'):Go P F0 G D:=fun σ H F s hs ss=>h σ H F s (l H F hs) ss
def GoIO (Q:VK) (F:Hp) (a:Addr) (O:OTy) (D:Own):Prop:=∀ H' F',Same F F'→HS ((a,O)::D) H' F'→Q .non H'
theorem GoIO.up {Q:VK} {F F':Hp} {a:Addr} {O:OTy} {D:Own} (h:GoIO Q F a O D) (s:Same F F'):GoIO Q F' a O D:=fun H1 F1 t hs=>h H1 F1 (s.trans t) hs
end
end TL
end
section
namespace TL
open PySem PySem.Spec L2
def Pt {S:Type} (te:TE) (G:Sto) (Dd:S→Own) (a:Addr):Prop:=∀ (s:S) (σ:L2.St) (H F:Hp),HS (Dd s) H F→SS F G σ→∀ Q:VK,Q (.ref a) H→te σ H Q
section
variable {K:jf} {ε ε' ρ α β γ δ S τ τ' σt ω Ω κ:Type} [DecidableEq κ] {X:L2.St→XK} {Xk:XK} {De:ε→Own} {G G1 G2:Sto} {D0:Own} {Dd:S→Own} {s:S} {te ta tb tc tx:TE} {tt tu:TT} {F0 F1:Hp} {E:Ends} {w:Wish K ε ρ} {t:TA} {n:Nat} {C:Addr} {k:KeyE κ} {Rk:κ→Ty} {Rv:β→Ty}
omit [DecidableEq κ] in
theorem Wi {i:Nat} {a:Addr} (hi:G[i]?=some (some (Is (.ref a)))):Pt (tVar i) G Dd a:=fun s σ H F hs ss Q q=>by
 obtain ⟨v,e1,e2⟩:=ss.get hi
 have ev:v=.ref a:=e2
 subst ev
 exact ⟨_,e1,q⟩
end
end TL
end
section
namespace TL
open PySem PySem.Spec L2
def aD {α:Type}:List Addr→Nat→List Addr→(Nat→List Addr→α)→α
 | [],seen,new,k=>k seen new
 | a::as,seen,new,k=>match Nat.land (Nat.shiftRight seen a) 1 with
  | 0=>HandSHeadRun.frNat (Nat.lor seen (Nat.shiftLeft 1 a)) fun s=>aD as s (a::new) k
  | _=>aD as seen new k
def aE {α:Type} (g:Addr→Option Obj):List Addr→Nat→List Addr→(Nat→List Addr→α)→α
 | [],seen,new,k=>k seen new
 | a::as,seen,new,k=>match g a with
  | some o=>aD (He.refsD o) seen new fun s n=>aE g as s n k
  | none=>aE g as seen new k
def asY (g:Addr→Option Obj):Nat→List Addr→Nat→List Addr
 | 0,_,_=>[]
 | n+1,fr,seen=>aE g fr seen [] fun s new=>new++asY g n new s
def frY (n:Nat) (g:Addr→Option Obj):jf:=He.frG g (mainGlobals::asY g n [mainGlobals] (Nat.shiftLeft 1 mainGlobals))
def aF (n:Nat) (fa:List He.Fa) (fn:List He.DefD) (ex:jf→Bool) (g:Addr→Option Obj):AlZ:=(He.obsD fa fn (frY n g),ex (frY n g))
def e6 (n:Nat) (fa:List He.Fa) (fn:List He.DefD) (ex:jf→Bool):PySem.W.Hook where
 α:=AlZ
 obs:=fun s=>aF n fa fn ex s.heap.get?
 val:=fun _=>(He.valD fn,true)
 says:=fun _ h=>∃ K:jf,K.In h∧dg fa fn ex K
 of:=fun _ _ e=>⟨_,He.frG_in,congrArg (fun z:AlZ=>z.1) e,congrArg (fun z:AlZ=>z.2) e⟩
 keeps:=fun _ _ _ ⟨K,hK,c⟩ k=>⟨K,PySem.W.Frag.In.keeps hK k,c⟩
theorem aG {n:Nat} {fa:List He.Fa} {fn:List He.DefD} {ex:jf→Bool} {g:Addr→Option Obj} {s:Shared} (h:∀ a,g a=s.heap.get? a):aF n fa fn ex g=(e6 n fa fn ex).obs s:=by
 have e:g=s.heap.get?:=funext h
 rw [e] <;> rfl
end TL
end
section
namespace TL
open PySem PySem.Spec L2
section
variable {K:jf} {ε ε' ρ α β γ δ S τ τ' σt ω κ:Type} {X:L2.St→XK} {De:ε→Own} {G G1 G2:Sto} {D0:Own} {Dd:S→Own} {s:S} {te ta tb tc tx:TE} {R:α→Ty} {f:α→List β} {e:β→PyData} {n:Nat} [DecidableEq β]
theorem Y2 (he:Enc e n) (a:β):∀ xs:List β,((xs.map e).any fun z=>PyData.eqv z (e a))=decide (a∈xs)
 | []=>by simp
 | x::xs=>by
  rw [hG,iu,Y2 he a xs,he.eq]
  by_cases h:x=a
  ·subst h;simp
  ·simp [h,show ¬ a=x from fun q=>h q.symm]
theorem Wj (he:Enc e n) (hn:n≤63) (xs:List β):SeqAt.shaped (.list (xs.map e))=true:=by
 unfold SeqAt.shaped
 have h1:PyData.canLay0 (.list (xs.map e))=true:=by
  show PyData.canLayAll0 (xs.map e)=true
  induction xs with
  | nil=>rfl
  | cons x xs ih=>
   show (PyData.canLay0 (e x) && PyData.canLayAll0 (xs.map e))=true
   rw [he.lay x,ih];rfl
 have h2:(PyData.list (xs.map e)).depth≤64:=by
  show PyData.depthAll (xs.map e)+1≤64
  have h3:PyData.depthAll (xs.map e)≤n:=by
   clear h1
   induction xs with
   | nil=>exact iT _
   | cons x xs ih=>
    show max (e x).depth (PyData.depthAll (xs.map e))≤n
    exact Nat.max_le.mpr ⟨he.dep x,ih⟩
  omega
 rw [h1,Bool.true_and]
 exact decide_eq_true h2
theorem aH {F H:Hp} {D1:Own} (hs:HS D1 H F) (he:Enc e n) (hn:n≤63) {a:β} {xs:List β} {x:V} {p:Addr} {vs:List V} (rx:(tD K e a).p x F) (h1:SqL K H p vs) (h2:AllP F (xs.map (tD K e)) vs) :
    Dp K H x (e a)∧Dp K H (.ref p) (.list (xs.map e))∧SeqAt.shaped (e a)=true∧SeqAt.shaped (.list (xs.map e))=true:=by
  have h3:AllP F ((xs.map e).map (TL.D K)) vs:=by rw [iJ];exact h2
  exact ⟨LL hs rx,.lst h1 (GO hs.sub _ _ (MF h3)),he.shaped (by omega) a,Wj he hn xs⟩
theorem Wm {Ma:(β→S→Res ε δ)→Res ε δ} {Mb:S→(α→S→Res ε δ)→Res ε δ} (he:Enc e n) (hv:∀ x s v H F,HS (Dd s) H F→(R x).p v F→∃ a vs,v=.ref a∧SqL K H a vs∧AllP F ((f x).map (tD K e)) vs) (ha:EvC K X De ta G Dd s Ma (tD K e)) (hb:∀ s1,EvC K X De tb G Dd s1 (Mb s1) R) (hn:n≤63:=by decide) :
    EvC K X De (tOp (rNotInD K) ta tb) G Dd s (fun kk=>Ma fun a s1=>Mb s1 fun b s2=>kk (!decide (a∈f b)) s2) (tD K eB):=
  evc2 ha hb fun a b s2 x y H F hs rx ry Q q=>by
    obtain ⟨p,vs,rfl,h1,h2⟩:=hv b s2 y H F hs ry
    obtain ⟨q1,q2,q3,q4⟩:=aH hs he hn rx h1 h2
    refine ⟨_,_,q1,q2,q3,q4,?_⟩
    rw [Y2 he]
    exact q _ H F (Same.refl _) hs (.bl _)
end
end TL
end
section
namespace TL
open PySem PySem.Spec L2
section
variable {K:jf} {ε ε' ρ α β γ δ S τ τ' σt ω κ:Type} {X:L2.St→XK} {Xk:XK} {De:ε→Own} {G G1 G2:Sto} {D0:Own} {Dd:S→Own} {s:S} {te ta tb tc tx:TE} {t:TA} {n:Nat} {Rs:τ→List Ty}
theorem Wn {O:ω→OTy} {args:Addr→Unit×τ→List Ty} {mf:Unit×τ→ω→Res ω (γ×ω)} {R:γ→Ty} {Mn:(ω→S→Res ε δ)→Res ε δ} {Mt:S→(τ→S→Res ε δ)→Res ε δ} {sp:Sp} (hsp:∀ vs H Q X,spC K O args mf (fun r=>.ok (R r)) vs H Q X→sp vs H Q X) (g:S→ε)
    (hn:EvNC K (fun _=>Xk) De ta G Dd s Mn O) (ht:∀ y p s1,EvAC K (fun _=>Xk) De t G (fun s=>(p,O y)::Dd s) s1 (Mt s1) Rs) (ha:∀ a x,args a ((),x)=Is (.ref a)::Rs x) (hde:∀ s,(De (g s)).Sublist (Dd s)) :
    EvC K (fun _=>Xk) De (tCall sp [] Xk (tCons ta t)) G Dd s (fun kk=>Mn fun y s1=>Mt s1 fun x s2=>Res.bind (Res.mapE (fun _=>g s2) (mf ((),x) y)) fun z=>kk z.1 s2) R:=
  Wa (args:=fun a x=>args a ((),x)) (mf:=fun x=>mf ((),x)) (fun vs H Q X ⟨x,r⟩=>hsp vs H Q X ⟨((),x),r⟩) g hn ht ha hde
end
end TL
end
section
namespace TL
open PySem PySem.Spec PyProof.Rows L2
open L2H (RoomH)
structure FnL (P:Program) (w:World) (K:jf) (mg:Str→Option Value) (base:Heap) (CX:CXT) (k:Nat) (f:Addr) (fd:FuncData) (ps:List Str) (sp:Sp):Prop where
 len:∀ vs H Q E,sp vs H Q E→vs.length=ps.length
 run:∀ (A:Around) (outer:List Env) (s:Shared) (H:Hp) (args:Args) (us:List Value) (vs:List V) (Q:VK) (E:XK),RoomH k A→Env0 P w K mg base A outer s H→BindsTo s fd args (ps.zip us)→Vals vs us→sp vs H Q E →
  codeAny (model P w) A (.call (.ref f) args) (CR CX outer P w H s Q E) s
structure FoL (P:Program) (w:World) (K:jf) (mg:Str→Option Value) (base:Heap) (x:Str) (ps:List Str) (dvs:List V) (k:Nat) (sp:Sp):Prop where
 ex:∃ f fd ds,FnL P w K mg base (L2.CX P w) k f fd ps sp∧mg x=some (.ref f)∧PySem.W.keepIn K (.ref f)=true∧Binds K fd ps ds∧Vals dvs ds
end TL
end
section
namespace TL
open PySem PySem.Spec L2
def DSub (D D':Own):Prop:=∃ M:Own,D.Perm M∧D'.Sublist M
theorem HS.dsub {D D':Own} {H F:Hp} (hs:HS D H F) (h:DSub D D'):HS D' H F:=by
 obtain ⟨M,p,q⟩:=h
 exact (hs.perm p).drop q
theorem DSub.le {D D':Own} (h:DSub D D'):DLe D D':=fun H F hs=>hs.dsub h
end TL
end
section
namespace TL
open PySem PySem.Spec L2
section
variable {K:jf} {ε α β γ δ S:Type} {X:L2.St→XK} {De:ε→Own} {G:Sto} {Dd:S→Own} {s:S} {te ta tb:TE} {tt:TT}
theorem aI {α:Type} (a:α) (l:List α):atI (a::l) 0=some a:=by
 unfold atI ixN
 rw [if_pos (by decide),if_pos (by simp)]
 rfl
end
end TL
end
section
namespace TL
open PySem PySem.Spec L2 PyProof.Rows
def idxL {α:Type} [DecidableEq α] (xs:List α) (x:α):Option Int:=(xs.findIdx? fun y=>decide (y=x)).map fun n=>((n:Nat):Int)
theorem cf {α:Type} [DecidableEq α] {xs:List α} {x:α} {i:Int} (h:idxL xs x=some i):∃ j:Nat,i=(j:Int)∧xs[j]?=some x∧∀ m,m < j→xs[m]?≠some x:=by
 unfold idxL at h
 obtain ⟨j,hj,rfl⟩:=ia.mp h
 obtain ⟨h1,h2,h3⟩:=List.findIdx?_eq_some_iff_getElem.mp hj
 refine ⟨j,rfl,?_,fun m hm e=>?_⟩
 ·rw [hJ h1,of_decide_eq_true h2]
 ·have lt:m < xs.length:=Nat.lt_trans hm h1
  rw [hJ lt] at e
  have:=h3 m hm
  simp only [Option.some.inj e,decide_true] at this
  exact absurd this (by decide)
end TL
end
section
namespace TL
open PySem PySem.Spec L2
structure InsD (K:jf) (C:Addr):Prop where
 c1:Cls K C
 c2:PySem.W.findIn K (.ref C) "__class__"=some (some (.builtin "object.__class__"))
 c3:PySem.W.specialIn K (.builtin "object.__class__") "__get__"=some (some (.builtin "getset_descriptor.__get__"))
 c4:PySem.W.takesIn K (.builtin "object.__class__")=some true
 c5:PySem.W.mroIn K C (.type "object")=some true
 c6:PySem.W.kitOne K (.ref C) (.ref C)=some true
end TL
end
section
namespace TL
open PySem PySem.Spec PyProof.Rows L2
theorem HS.grow {D:Own} {H H' F:Hp} (h:HS D H F) (ts:List Addr) (k:∀ b u,H b=some u→H' b=some u) (n:∀ t∈ts,H t=none):HS D H' (fun b=>if b∈ts then H' b else F b)∧Same F (fun b=>if b∈ts then H' b else F b):=by
 have off:∀ {b:Addr} {u:HO},H b=some u→b∉ts:=fun {b u} e m=>by rw [n b m] at e;cases e
 have sm:Same F (fun b=>if b∈ts then H' b else F b):=fun b u e=>by
  show (if b∈ts then H' b else F b)=some u
  rw [if_neg (off (h.sub b u e))]
  exact e
 refine ⟨⟨fun b u e=>?_,fun a O m=>?_,h.nd,?_⟩,sm⟩
 ·by_cases c:b∈ts
  ·have e':(if b∈ts then H' b else F b)=some u:=e
   rwa [if_pos c] at e'
  ·have e':(if b∈ts then H' b else F b)=some u:=e
   rw [if_neg c] at e'
   exact k b u (h.sub b u e')
 ·obtain ⟨f,o,ho,p⟩:=h.own a O m
  exact ⟨by show (if a∈ts then H' a else F a)=none;rw [if_neg (off ho)];exact f,o,k a o ho,O.mono sm p⟩
 ·obtain ⟨L,q,at_,sep⟩:=h.deep
  refine ⟨L,fun a O m o ho=>?_,fun a b o m e=>?_,sep⟩
  ·obtain ⟨f,o',ho',p⟩:=h.own a O m
   have:o=o':=by
    have:=k a o' ho'
    rw [ho] at this
    exact Option.some.inj this
   rw [this]
   exact O.qmono sm (q a O m o' ho')
  ·obtain ⟨e1,e2,e3⟩:=at_ a b o m e
   exact ⟨k b o e1,by show (if b∈ts then H' b else F b)=none;rw [if_neg (off e1)];exact e2,e3⟩
end TL
end
section
namespace TL
open PySem PySem.Spec L2 PyProof.Rows
abbrev HKvs:=List (NestedKey×Addr×V)
abbrev PrH (p:NestedKey×Addr×V) (q:NestedKey×Addr×Value):Prop:=p.1=q.1∧p.2.1=q.2.1∧RelV p.2.2 q.2.2
def DhOk (ω:World) (a:Addr) (kvs:HKvs) (h:Heap):Prop:=kvs.length≤sizeLine∧(a == sysModules)=false∧(kvs.map (·.1)).Nodup ∧
 ∃ xs:List (NestedKey×Addr×Value),Paired PrH kvs xs∧∃ o es ep,h.get? a=some o∧o.ExactDict∧o.data=.dict es ep∧es.toList=xs.map fun x=>(⟨x.1.hash ω,.ref x.2.1,x.2.2⟩:DictEntry)
def XD (ω:World) (a:Addr) (kvs:HKvs):HO:=.ext (DhOk ω a kvs)
def KyOk (K:jf) (H:Hp) (kvs:HKvs):Prop:=∀ e∈kvs,Dp K H (.ref e.2.1) e.1.data∧e.1.depth≤8
theorem VD {P:Program} {w ω:World} {H:Hp} {h:Heap} {a b:Addr} {kvs:HKvs} (ok:ObjOk P w H h b (XD ω a kvs)):a=b∧DhOk ω a kvs h:=by
 obtain ⟨h1,_,st⟩:=ok
 refine ⟨?_,h1⟩
 by_cases ne:a=b
 ·exact ne
 ·exfalso
  let f:Obj→Obj:=fun _=>{ cls:=.none,data:=.fields #[] }
  have z:=st h (h.update a f) h1 fun o e=>(Heap.get?_update_other h f ne).trans e
  obtain ⟨_,_,_,xs,_,o,es,ep,ho,_⟩:=h1
  obtain ⟨_,_,_,xs',_,o',es',ep',ho',hx',_⟩:=z
  rw [Heap.get?_update_self f ho rfl] at ho'
  cases ho'
  exact nomatch hx'.1
theorem Wo {P:Program} {w ω:World} {H:Hp} {h:Heap} {a:Addr} {kvs:HKvs} (ok:DhOk ω a kvs h):ObjOk P w H h a (XD ω a kvs):=by
 refine ⟨ok,?_,fun h1 h2 q k=>?_⟩
 ·obtain ⟨_,_,_,xs,_,o,es,ep,ho,_⟩:=ok
  exact ⟨o,ho⟩
 ·obtain ⟨c1,c2,c3,xs,c4,o,es,ep,ho,c5⟩:=q
  exact ⟨c1,c2,c3,xs,c4,o,es,ep,k o ho,c5⟩
mutual
theorem Pr {h:Heap}:∀ (k:NestedKey) (u:Value) (as:List Addr),Reads h u k.data as→NestedIs h k u
 | .none,_,_,r=>by cases r;exact .none
 | .num i,_,_,r=>by cases r;exact .int _ _
 | .text x,_,_,r=>by cases r;exact .text _ _
 | .tup ks,_,_,r=>by
  cases r with
  | tuple h1 h2 h3 h4=>exact .tup h1 h2 h3 (OB ks _ _ h4)
theorem OB {h:Heap}:∀ (ks:List NestedKey) (us:List Value) (as:List Addr),ReadsAll h us (NestedKey.datas ks) as→NestedAll h ks us
 | [],_,_,r=>by cases r;exact .nil
 | k::ks,_,_,r=>by
  cases r with
  | cons h1 h2=>exact .cons (Pr k _ _ h1) (OB ks _ _ h2)
end
section
variable {X:Cx} {pins:List (Addr×Obj)} {σ:L2.St} {H:Hp} {s:Shared} {a b:Addr} {k:NestedKey} {kvs:HKvs}
theorem key_is (I0:Inv X pins σ H s) (hd:Dp X.K H (.ref b) k.data) (dep:k.depth≤8):(nestedKind X.prog X.w).is s.heap k b:=by
 obtain ⟨as,r⟩:=Dp.reads I0 _ _ _ hd (show RelV (.ref b) (Value.ref b) from rfl)
 exact ⟨Pr k _ _ r,dep⟩
theorem Wp {xs:List (NestedKey×Addr×Value)} (p:Paired PrH kvs xs):∀ x∈xs,∃ e∈kvs,e.1=x.1∧e.2.1=x.2.1:=by
 induction p with
 | nil=>intro x hx;cases hx
 | cons h _ ih=>
  intro x hx
  rcases hZ.mp hx with z | z
  ·subst z;exact ⟨_,gu,h.1,h.2.1⟩
  ·obtain ⟨e,he,q⟩:=ih x z
   exact ⟨e,gz _ he,q⟩
theorem paired_keys {xs:List (NestedKey×Addr×Value)} (p:Paired PrH kvs xs):xs.map (·.1)=kvs.map (·.1):=by
 induction p with
 | nil=>rfl
 | cons h _ ih=>rw [hG,hG,ih,h.1]
theorem Ig (I0:Inv X pins σ H s) (e:Rd H b (XD X.w a kvs)) (ky:KyOk X.K H kvs):a=b∧(b == sysModules)=false∧kvs.length≤sizeLine∧(kvs.map (·.1)).Nodup∧∃ xs,Paired PrH kvs xs∧s.heap.DictOfH (nestedKind X.prog X.w) b xs:=by
 obtain ⟨e0,c1,c2,c3,xs,c4,o,es,ep,c5,c6,c7,c8⟩:=VD (e.ok I0.hok)
 subst e0
 refine ⟨rfl,c2,c1,c3,xs,c4,o,es,ep,c5,c6,c7,c8,fun x hx=>?_,?_⟩
 ·obtain ⟨u,hu,q1,q2⟩:=Wp c4 x hx
  obtain ⟨g1,g2⟩:=ky u hu
  rw [q1] at g1 g2
  rw [q2] at g1
  exact key_is I0 g1 g2
 ·rw [paired_keys c4]
  exact c3
def valH (kvs:HKvs) (k:NestedKey):Option V:=(kvs.find? fun e=>decide (e.1=k)).map (·.2.2)
def putH (kvs:HKvs) (k:NestedKey) (b:Addr) (v:V):HKvs:=if (kvs.any fun e=>decide (e.1=k))=true then kvs.map (fun e=>if e.1=k then (e.1,e.2.1,v) else e) else kvs++[(k,b,v)]
theorem Pu {xs:List (NestedKey×Addr×Value)} (p:Paired PrH kvs xs) (k:NestedKey):RelO (valH kvs k) (valueAt (PySem.pairsH xs) k):=by
 induction p with
 | nil=>exact trivial
 | @cons p q ps qs h _ ih=>
  unfold valH valueAt PySem.pairsH at ih ⊢
  rw [hG,ir,ir]
  by_cases e:p.1=k
  ·have e':q.1=k:=h.1 ▸ e
   simp only [e,e',decide_true]
   exact h.2.2
  ·have e':¬ q.1=k:=h.1 ▸ e
   simp only [e,e',decide_false]
   exact ih
theorem Yk {xs:List (NestedKey×Addr×Value)} (p:Paired PrH kvs xs) (k:NestedKey):(atKey xs k).isSome=(kvs.any fun e=>decide (e.1=k)):=by
 induction p with
 | nil=>rfl
 | @cons p q ps qs h _ ih=>
  unfold atKey at ih ⊢
  rw [ir,iu]
  by_cases e:p.1=k
  ·have e':q.1=k:=h.1 ▸ e
   simp [e,e']
  ·have e':¬ q.1=k:=h.1 ▸ e
   simp only [e,e',decide_false,Bool.false_or]
   exact ih
theorem Wq {xs:List (NestedKey×Addr×Value)} (p:Paired PrH kvs xs) {v:V} {r:Value} (rv:RelV v r):Paired PrH (putH kvs k b v) (storedH xs k b r):=by
  unfold putH storedH
  rw [Yk p k]
  split
  · have m:∀ {l:HKvs} {m:List (NestedKey×Addr×Value)},Paired PrH l m→Paired PrH (l.map fun e=>if e.1=k then (e.1,e.2.1,v) else e) (m.map (putAt k r)):=by
      intro l m q
      induction q with
      | nil=>exact .nil
      | @cons p q ps qs h _ ih=>
        rw [hG,hG]
        refine .cons ?_ ih
        unfold putAt
        by_cases e:p.1=k
        · have e':q.1=k:=h.1 ▸ e
          rw [if_pos e,if_pos e']
          exact ⟨h.1,h.2.1,rv⟩
        · have e':¬ q.1=k:=h.1 ▸ e
          rw [if_neg e,if_neg e']
          exact h
    exact m p
  · have m:∀ {l:HKvs} {m:List (NestedKey×Addr×Value)},Paired PrH l m→Paired PrH (l++[(k,b,v)]) (m++[(k,b,r)]):=by
      intro l m q
      induction q with
      | nil=>exact .cons ⟨rfl,rfl,rv⟩ .nil
      | cons h _ ih=>exact .cons h ih
    exact m p
theorem aJ (kvs:HKvs) (k:NestedKey) (b:Addr) (v:V):(putH kvs k b v).length≤kvs.length+1:=by
 unfold putH
 split
 ·rw [gy];omega
 ·rw [List.length_append];exact iA _
theorem Y3 (hu:X.A.units+64 < cLine):(nestedKind X.prog X.w).room X.A.in1:=by
 show X.A.units+1+8 < cLine
 omega
end
structure AtH (ω:World) (K:jf) (H:Hp) (x y:V) (a:Addr) (kvs:HKvs) (k:NestedKey):Prop where
 dict:x=.ref a
 rd:∃ a',Rd H a (XD ω a' kvs)
 ky:KyOk K H kvs
 key:∃ b,y=.ref b∧Dp K H (.ref b) k.data
 dep:k.depth≤8
def FU (ω:World) (K:jf) (td ty:TE):TE:=fun σ H Q=>td σ H fun x H1=>ty σ H1 fun y H2=>∃ a kvs k v,AtH ω K H2 x y a kvs k∧valH kvs k=some v∧Q v H2
def MU (ω:World) (K:jf) (td ty tv:TE):TS:=fun D σ H=>tv σ H fun v H1=>td σ H1 fun x H2=>ty σ H2 fun y H3=>∃ a a' b kvs k,x=.ref a∧H3 a=some (XD ω a' kvs)∧KyOk K H3 kvs∧y=.ref b∧Dp K H3 (.ref b) k.data∧k.depth≤8∧kvs.length < sizeLine∧D.nx σ (upd H3 a (XD ω a' (putH kvs k b v)))
def Pw (ω:World):TE:=fun _ H Q=>∀ p,H p=none→Q (.ref p) (upd H p (XD ω p []))
def Wr (ω:World) (K:jf):List V→Hp→VK→Prop:=fun xs H Q=>∃ (a a':Addr) (kvs:HKvs),xs=[.ref a]∧Rd H a (XD ω a' kvs)∧KyOk K H kvs∧PySem.W.AllAlike (kvs.map fun e=>e.1.data)∧PySem.W.Sortable (kvs.map fun e=>e.1.data)∧(∀ e∈kvs,e.1.data.depth < 60) ∧
 ∀ p,H p=none→Q (.ref p) (upd H p (.lst ((((kvs.map fun e=>V.ref e.2.1).zip (kvs.map fun e=>e.1.data)).mergeSort (PySem.W.dataLe false Prod.snd)).map Prod.fst)))
section
variable {X:Cx} {o i e value:Expr} {pos pos' tpos:Pos} {td ty tv:TE}
theorem aK {pins:List (Addr×Obj)} {σ:L2.St} {H:Hp} {s:Shared} {x y:V} {u v:Value} {a:Addr} {kvs:HKvs} {k:NestedKey} (I0:Inv X pins σ H s) (h:AtH X.w X.K H x y a kvs k) (rx:RelV x u) (ry:RelV y v) :
    ∃ b xs,u=.ref a∧v=.ref b∧(a == sysModules)=false∧(nestedKind X.prog X.w).is s.heap k b∧Paired PrH kvs xs∧s.heap.DictOfH (nestedKind X.prog X.w) a xs:=by
  obtain ⟨ex,⟨a',e⟩,ky,⟨b,ey,hk⟩,dep⟩:=h
  subst ex ey
  cases rx
  cases ry
  obtain ⟨_,c2,_,_,xs,c4,c5⟩:=Ig I0 e ky
  exact ⟨b,xs,rfl,rfl,c2,key_is I0 hk dep,c4,c5⟩
theorem DF (hu:X.A.units+64 < cLine) (ho:PE X o td) (hi:PE X i ty) (hs:NoSl i):PE X (.Subscript o i pos) (FU X.w X.K td ty):=⟨fun pins s σ H Q I0 h=>by
 refine subD_of PySem.F.slot_dict_getitem.lookup hs (thn (ho.run pins s σ H _ I0 h) fun u s1 ⟨x,H1,I1,rx,q1⟩=>thn (hi.run pins s1 σ H1 _ I1 q1) fun iv s2 ⟨y,H2,I2,ry,a,kvs,k,v,g,hv,q2⟩=>?_)
 obtain ⟨b,xs,rfl,rfl,c1,c2,c3,c4⟩:=aK I2 g rx ry
 have z:=Pu c3 k
 rw [hv] at z
 obtain ⟨r,hr,rr⟩:=RelO.some_of z
 exact ⟨c4.typeIs,PySem.getItem_keyed (Y3 hu) c2 ⟨xs,c4,rfl⟩ hr ⟨v,H2,I2.tok _,rr,q2⟩⟩⟩
theorem Jc (hu:X.A.units+64 < cLine) (ho:PE X o td) (hi:PE X i ty) (hv:PE X value tv) (hs:swapsWith value (some (.Subscript o i pos')) pos.line X.env=pure false) :
    PS X (.Assign [.Subscript o i pos'] value pos) (MU X.w X.K td ty tv):=⟨fun pins s σ H D I0 h=>by
  refine wpAny_Assign_Subscript (thn (hv.run pins s σ H _ I0 h) fun r s1 ⟨v,H1,I1,rv,q1⟩=>thn (ho.run pins s1 σ H1 _ I1 q1) fun u s2 ⟨x,H2,I2,rx,q2⟩=>thn (hi.run pins s2 σ H2 _ I2 q2) fun iv s3 ⟨y,H3,I3,ry,a,a',b,kvs,k,ex,e,ky,ey,hk,dep,hl,q3⟩=>?_) hs
  subst ex ey
  cases rx
  cases ry
  obtain ⟨ea,c1,c2,c3,xs,c4,c5⟩:=Ig I3 (.inl e) ky
  subst ea
  have hz:xs.length≤sizeLine:=by rw [← Paired.length c4];exact c2
  refine wpAny_setItem_heap (hsz:=hz) (Y3 hu) (key_is I3 hk dep) c5 fun h' hm' hs'=>?_
  have c6:Paired PrH (putH kvs k b v) (storedH xs k b r):=Wq c4 rv
  obtain ⟨ob,es,ep,g1,g2,g3,g4,g5,g6⟩:=hm'
  have nw:DhOk X.w a' (putH kvs k b v) h':=⟨iH (aJ _ _ _ _) hl,c1,by rw [← paired_keys c6];exact g6,_,c6,ob,es,ep,g1,g2,g3,g4⟩
  exact ⟨σ,_,I3.write (x:=a') (e:=a') (by rw [e];exact True.intro) (.inl rfl) (fun c q hb z=>(hs'.2 c hb).trans z) ⟨ob,g1⟩ (Wo nw),q3⟩⟩
theorem MV:PE X (.Dict [] [] pos) (Pw X.w):=⟨fun pins s σ H Q I0 h=>by
 have hm:(s.heap.objs.size == sysModules)=false:=beq_eq_false_iff_ne.mpr (Nat.ne_of_gt I0.big)
 refine wpAny_Dict_empty ⟨.ref s.heap.objs.size,_,I0.laid (a:=s.heap.objs.size) (t':=s.toks) (fun _ _ q=>Heap.get?_push_of_some _ q) (iA _) (Wo (kvs:=[]) ⟨iT _,hm,jP,[],.nil,_,#[],0,Heap.get?_push_size _ rfl,⟨rfl,rfl,rfl⟩,rfl,rfl⟩),rfl,h _ (I0.hok.fresh (iA _))⟩⟩
theorem aL {H:Hp} {h:Heap} {es:Array DictEntry} {xs:List (NestedKey×Addr×Value)} {kvs:HKvs} {acc:Array Value} (c4:Paired PrH kvs xs) (c8:es.toList=xs.map fun x=>(⟨x.1.hash X.w,.ref x.2.1,x.2.2⟩:DictEntry))
    (hacc:ItemsOf (fun i v=>∃ hi:i < es.size,v=es[i].key) acc es.size):acc.toList=kvs.map fun e=>Value.ref e.2.1:=by
  have hz:es.size=xs.length:=by rw [← iU,c8,gy]
  have hl:kvs.length=xs.length:=Paired.length c4
  refine iZ fun j=>?_
  by_cases hj:j < acc.size
  · have hje:j < es.size:=hacc.1 ▸ hj
    obtain ⟨_,q⟩:=hacc.2 j acc[j] (jC hj)
    rw [iW,jC hj,q,iB]
    have e1:es.toList[j]?=some es[j]:=by rw [iW];exact jC hje
    rw [c8,iB] at e1
    have hx:j < xs.length:=by omega
    rw [hJ hx] at e1
    have e2:=Option.some.inj e1
    have hk:j < kvs.length:=by omega
    rw [hJ hk,← e2]
    have g:∀ {l:HKvs} {m:List (NestedKey×Addr×Value)},Paired PrH l m→∀ (j:Nat) (h1:j < l.length) (h2:j < m.length),l[j].2.1=m[j].2.1:=by
      intro l m q
      induction q with
      | nil=>intro j h1;simp at h1
      | cons h _ ih=>
        intro j h1 h2
        cases j with
        | zero=>exact h.2.1
        | succ j=>simpa using ih j (by simpa using h1) (by simpa using h2)
    show some (Value.ref _)=some (Value.ref _)
    rw [g c4 j hk hx]
  · have e1:acc.toList[j]?=none:=by rw [iW];exact Array.getElem?_eq_none (by omega)
    have e2:(kvs.map fun e=>Value.ref e.2.1)[j]?=none:=List.getElem?_eq_none (by rw [gy];have:=hacc.1;omega)
    rw [e1,e2]
theorem vals_refs:∀ kvs:HKvs,Vals (kvs.map fun e=>V.ref e.2.1) (kvs.map fun e=>Value.ref e.2.1)
 | []=>.nil
 | e::kvs=>.cons rfl (vals_refs kvs)
end
section
variable {X:Cx}
theorem Px {K:jf} {H:Hp}:∀ {kvs:HKvs},KyOk K H kvs→DpAll K H (kvs.map fun e=>V.ref e.2.1) (kvs.map fun e=>e.1.data)
 | [],_=>.nil
 | e::kvs,h=>.cons (h e gu).1 (Px fun x hx=>h x (gz _ hx))
open PySem.W PySem.Calls in
theorem Ws (hc:X.calm=true) (hu:X.A.units+64 < cLine):CallR X (.builtin "sorted") (Wr X.w X.K):=by
 intro pins s σ H xs us Q I0 r q
 obtain ⟨a,a',kvs,rfl,e,ky,hal,hk,hdep,q⟩:=q
 rw [Vals.ref1 r]
 obtain ⟨e0,c1,c2,c3,xs,c4,o,es,ep,c5,c6,c7,c8⟩:=VD (e.ok I0.hok)
 subst e0
 have hz:es.size=kvs.length:=by rw [← iU,c8,gy];exact (Paired.length c4).symm
 refine call_function_entry kind_sorted plain_sorted entry_sorted (args_sorted1 _) ?_
 unfold Builtin.«sorted»
 refine wpAny_bind (m:=checkCount "sorted" 1 1 _) (wpAny_pure ?_)
 refine wpAny_bind (kdu_collect (A:=X.A.in1) (KdlSrc.rawDict (es:=es) (ep:=ep) c2) (I0.ok.hd hc) ⟨o,c5,c6,c7⟩ (by rw [hz];exact c1) fun h' tk acc hkp hacc=>?_)
 rw [aL (X:=X) (H:=H) (h:=h') c4 c8 hacc]
 have hL:(kvs.map fun e=>Value.ref e.2.1).length≤sizeLine:=by rw [gy];exact c1
 generalize hvs:(kvs.map fun e=>Value.ref e.2.1)=vs at hL ⊢
 have I1:Inv X pins σ H { s with heap:=h',toks:=tk }:=I0.kept hkp
 refine wpAny_bind (wpAny_newList ?_ hL)
 have hoL:(h'.push (seqObj "list" vs.toArray 0)).get? h'.objs.size=some (seqObj "list" vs.toArray 0):=Heap.get?_push_size _ rfl
 show wpAny _ _ _ _ _ { s with heap:=h'.push (seqObj "list" vs.toArray 0),toks:=tk }
 have rv:Vals (kvs.map fun e=>V.ref e.2.1) vs:=hvs ▸ vals_refs kvs
 have hd:=Px ky
 obtain ⟨hzz,hll⟩:=NM hd
 obtain ⟨e1,e2⟩:=Pp I1 hd rv
 have er':EachIs (fun u (b:V×PyData)=>∃ as,Reads (sortingHeap (h'.push (seqObj "list" vs.toArray 0)) h'.objs.size vs) u b.2 as) vs ((kvs.map fun e=>V.ref e.2.1).zip (kvs.map fun e=>e.1.data)):=e2.mono fun _ _ ⟨as,r⟩=>⟨as,PyProof.Rows.Reads.keeps (fun b o hb=>sortingHeap_old (Nat.ne_of_lt (Heap.lt_size hb)) (Heap.get?_push_of_some _ hb)) r⟩
 have hal':AllAlike (((kvs.map fun e=>V.ref e.2.1).zip (kvs.map fun e=>e.1.data)).map Prod.snd):=by rw [hzz];exact hal
 have hk':Sortable (((kvs.map fun e=>V.ref e.2.1).zip (kvs.map fun e=>e.1.data)).map Prod.snd):=by rw [hzz];exact hk
 have hb:∀ d,d∈((kvs.map fun e=>V.ref e.2.1).zip (kvs.map fun e=>e.1.data)).map Prod.snd→X.A.in1.in1.units+d.depth < cLine:=fun d m=>by
  rw [hzz] at m
  obtain ⟨x,hx,ed⟩:=hA.mp m
  have:=hdep x hx
  rw [ed] at this
  have u2:X.A.in1.in1.units=X.A.units+2:=rfl
  omega
 have z:=sortVals_data (R:=fun u (b:V×PyData)=>RelV b.1 u) (enc:=Prod.snd) false e1 er' hal'
 refine wpAny_bind (wpAny_holding (wpAny_call_entry slot_list_sort ⟨_,hoL,rfl⟩ entry_list_sort ?body (args_list_sort _)))
 case body=>
  refine list_sort_vals (s:={ s with heap:=h'.push (seqObj "list" vs.toArray 0),toks:=tk }) hoL (SortsAt.data (s:={ s with heap:=sortingHeap (h'.push (seqObj "list" vs.toArray 0)) h'.objs.size vs,toks:=tk }) (each_map (R:=fun v d=>∃ as,Reads (sortingHeap (h'.push (seqObj "list" vs.toArray 0)) h'.objs.size vs) v d as) Prod.snd er') hal' hk' hb) hL ⟨_,rfl,wpAny_pure ⟨_,rfl,?_⟩⟩
  obtain ⟨ep',he'⟩:=PyProof.Rows.sortedHeap_at (vs:=vs) (out:=(sortVals (dataKind (sortingHeap (h'.push (seqObj "list" vs.toArray 0)) h'.objs.size vs) (((kvs.map fun e=>V.ref e.2.1).zip (kvs.map fun e=>e.1.data)).map Prod.snd)) false vs vs).toArray) hoL
  have hv:=NL z
  have hlen2:((((kvs.map fun e=>V.ref e.2.1).zip (kvs.map fun e=>e.1.data)).mergeSort (dataLe false Prod.snd)).map Prod.fst).length≤sizeLine:=by
   rw [gy,List.length_mergeSort,List.length_zip,gy,gy,Nat.min_self]
   exact c1
  refine ⟨.ref h'.objs.size,upd H h'.objs.size (.lst ((((kvs.map fun e=>V.ref e.2.1).zip (kvs.map fun e=>e.1.data)).mergeSort (dataLe false Prod.snd)).map Prod.fst)),I1.laid (t':=tk) (fun b u e=>?_) (iA _) ⟨hlen2,_,ep',hv,he'⟩,rfl,q _ (I1.hok.fresh (iA _))⟩
  have hb':b < h'.objs.size:=Heap.lt_size e
  show (PyProof.Rows.sortedHeap _ _ _ _).get? b=some u
  rw [PyProof.Rows.sortedHeap_old (Nat.ne_of_lt hb') (by rw [size_push'];exact Nat.lt_succ_of_lt hb')]
  exact Heap.get?_push_of_some _ e
end
end TL
end
section
namespace TL
open PySem PySem.Spec L2 PyProof.Rows
structure KL (κ:Type) where
 f:κ→NestedKey
 inj:∀ a b,f a=f b→a=b
 e:κ→PyData
 he:∀ x,(f x).data=e x
 n:Nat
 dep:∀ x,(f x).depth≤n
def klS:KL Tx:=⟨fun t=>.text t.s,(fun a b h=>Tx.ext' (NestedKey.text.inj h)),eS,fun _=>rfl,0,fun _=>iA _⟩
def kl2 {α β:Type} (a:KL α) (b:KL β):KL (α×β):=⟨fun x=>.tup [a.f x.1,b.f x.2],(fun x y h=>by
 have h1:=NestedKey.tup.inj h
 have h2:=a.inj _ _ (List.cons.inj h1).1
 have h3:=b.inj _ _ (List.cons.inj (List.cons.inj h1).2).1
 exact Prod.ext h2 h3),fun x=>.tuple [a.e x.1,b.e x.2],(fun x=>by rw [NestedKey.data,NestedKey.datas,NestedKey.datas,NestedKey.datas,a.he,b.he]),a.n+b.n+1,fun x=>by
 have h1:=a.dep x.1
 have h2:=b.dep x.2
 simp only [NestedKey.depth,NestedKey.depthAll]
 omega⟩
structure KeyN (κ:Type) where
 k:KL κ
 le:k.n≤8
 tup:∀ x,∃ ds,k.e x=.tuple ds
@[reducible] def KeyN.f {κ:Type} (k:KeyN κ):κ→NestedKey:=k.k.f
@[reducible] def KeyN.e {κ:Type} (k:KeyN κ):κ→PyData:=k.k.e
def kn2 {α β:Type} (a:KL α) (b:KL β) (h:(kl2 a b).n≤8:=by decide):KeyN (α×β):=⟨kl2 a b,h,fun _=>⟨_,rfl⟩⟩
inductive EntH {κ α:Type} (K:jf) (k:KeyN κ) (Rk:κ→Ty) (R:α→Ty) (F:Hp):HKvs→List (κ×α)→Prop
 | nil:EntH K k Rk R F [] []
 | cons {x:κ} {b:Addr} {v:V} {d:α} {kvs:HKvs} {m:List (κ×α)}:(Rk x).p (.ref b) F→(R d).p v F→EntH K k Rk R F kvs m→EntH K k Rk R F ((k.f x,b,v)::kvs) ((x,d)::m)
section
variable {K:jf} {κ α:Type} [DecidableEq κ] {k:KeyN κ} {Rk:κ→Ty} {R:α→Ty} {F F':Hp} {kvs:HKvs} {m:List (κ×α)}
omit [DecidableEq κ] in
theorem EntH.mono (h:EntH K k Rk R F kvs m) (s:Same F F'):EntH K k Rk R F' kvs m:=by
 induction h with
 | nil=>exact .nil
 | cons g h _ ih=>exact .cons ((Rk _).mono s g) ((R _).mono s h) ih
omit [DecidableEq κ] in
theorem EntH.len (h:EntH K k Rk R F kvs m):kvs.length=m.length:=by
 induction h with
 | nil=>rfl
 | cons _ _ _ ih=>simp [ih]
omit [DecidableEq κ] in
theorem EntH.ky (h:EntH K k Rk R F kvs m) (hd:∀ x,Dat K (Rk x) (k.e x)) {H:Hp} (s:Same F H):KyOk K H kvs:=by
 induction h with
 | nil=>intro e he;cases he
 | cons g h _ ih=>
  intro e he
  rcases hZ.mp he with z | z
  ·subst z
   refine ⟨?_,iH (k.k.dep _) k.le⟩
   show Dp K H _ (k.k.f _).data
   rw [k.k.he]
   exact HK s _ _ (hd _ _ _ g)
  ·exact ih e z
theorem EntH.get (h:EntH K k Rk R F kvs m) (x:κ):(dget m x=none∧valH kvs (k.f x)=none)∨∃ d v,dget m x=some d∧valH kvs (k.f x)=some v∧(R d).p v F:=by
 induction h with
 | nil=>exact .inl ⟨rfl,rfl⟩
 | @cons x' b v d kvs m hk hd _ ih=>
  by_cases e:x'=x
  ·subst e
   exact .inr ⟨d,v,by simp [dget],by simp [valH],hd⟩
  ·have e1:dget ((x',d)::m) x=dget m x:=by simp [dget,e]
   have e2:valH ((k.f x',b,v)::kvs) (k.f x)=valH kvs (k.f x):=by
    have e':¬ k.f x'=k.f x:=fun z=>e (k.k.inj _ _ z)
    simp [valH,e']
   rw [e1,e2]
   exact ih
theorem EntH.any (h:EntH K k Rk R F kvs m) (x:κ):(kvs.any fun e=>decide (e.1=k.f x))=(m.any fun e=>decide (e.1=x)):=by
 induction h with
 | nil=>rfl
 | @cons x' b v d kvs m _ _ _ ih=>
  rw [iu,iu,ih]
  congr 1
  by_cases e:x'=x
  ·subst e;simp
  ·have e':¬ k.f x'=k.f x:=fun z=>e (k.k.inj _ _ z)
   simp [e,e']
theorem EntH.put (h:EntH K k Rk R F kvs m) {x:κ} {b:Addr} {v:V} {d:α} (hk:(Rk x).p (.ref b) F) (hd:(R d).p v F):EntH K k Rk R F (putH kvs (k.f x) b v) (dput m x d):=by
 unfold putH dput
 rw [h.any x]
 split
 ·rename_i hany
  clear hk hany
  induction h with
  | nil=>exact .nil
  | @cons x' b' v' d' kvs m g h _ ih=>
   rw [hG,hG]
   by_cases e:x'=x
   ·subst e
    rw [if_pos rfl,if_pos rfl]
    exact .cons g hd ih
   ·rw [if_neg (fun z=>e (k.k.inj _ _ z)),if_neg e]
    exact .cons g h ih
 ·rename_i hany
  clear hany
  induction h with
  | nil=>exact .cons hk hd .nil
  | cons g h _ ih=>exact .cons g h ih
omit [DecidableEq κ] in
theorem EntH.keysP (h:EntH K k Rk R F kvs m):AllP F ((m.map (·.1)).map Rk) (kvs.map fun e=>V.ref e.2.1):=by
 induction h with
 | nil=>exact .nil
 | cons g _ _ ih=>exact .cons g ih
omit [DecidableEq κ] in
theorem EntH.datas (h:EntH K k Rk R F kvs m):(kvs.map fun e=>e.1.data)=(m.map (·.1)).map k.e:=by
 induction h with
 | nil=>rfl
 | cons g _ _ ih=>
  rw [hG,hG,hG,ih]
  exact congrArg (·::_) (k.k.he _)
end
def OHT {κ α:Type} (K:jf) (ω:World) (k:KeyN κ) (Rk:κ→Ty) (R:α→Ty) (m:List (κ×α)):OTy:=.fl (fun o F=>∃ a kvs,o=XD ω a kvs∧EntH K k Rk R F kvs m) (fun s ⟨a,kvs,e,h⟩=>⟨a,kvs,e,h.mono s⟩)
def DHT {κ α:Type} (K:jf) (ω:World) (k:KeyN κ) (Rk:κ→Ty) (R:α→Ty) (m:List (κ×α)):Ty:=⟨fun v F=>∃ a a' od kvs,v=.ref a∧F a=some (.frz od (XD ω a' kvs))∧EntH K k Rk R F kvs m,fun s ⟨a,a',od,kvs,h0,h1,h2⟩=>⟨a,a',od,kvs,h0,s _ _ h1,h2.mono s⟩⟩
section
variable {K:jf} {ω:World} {ε ε' ρ α β γ δ S τ τ' σt κ:Type} [DecidableEq κ] {X:L2.St→XK} {De:ε→Own} {G G1 G2:Sto} {D0:Own} {Dd:S→Own} {s:S} {te ta tb tc tx:TE} {tt tu:TT} {F0 F1:Hp} {E:Ends} {w:Wish K ε ρ} {t:TA} {n:Nat} {k:KeyN κ} {Rk:κ→Ty} {Rv:β→Ty}
def DVh {S α β κ:Type} (K:jf) (ω:World) (Dd:S→Own) (R:α→Ty) (f:α→List (κ×β)) (k:KeyN κ) (Rk:κ→Ty) (Rv:β→Ty):Prop:=∀ x s v H F,HS (Dd s) H F→(R x).p v F→∃ a a' kvs,v=.ref a∧EntH K k Rk Rv F kvs (f x)∧(H a=some (XD ω a' kvs)∨∃ od,H a=some (.frz od (XD ω a' kvs)))
omit [DecidableEq κ] in
theorem Gu:DVh K ω Dd (DHT K ω k Rk Rv) id k Rk Rv:=fun x s v H F hs ⟨a,a',od,kvs,h0,h1,h2⟩=>⟨a,a',kvs,h0,h2,.inr ⟨od,hs.sub _ _ h1⟩⟩
omit [DecidableEq κ] in
theorem LO {m:List (κ×β)} {a:Addr} {j:Nat} (hk:∀ s,(Dd s)[j]?=some (a,OHT K ω k Rk Rv m)):DVh K ω Dd (fun _:Unit=>Is (.ref a)) (fun _=>m) k Rk Rv:=fun x s v H F hs r=>by
 obtain ⟨o,ho,a',kvs,rfl,h⟩:=hs.at (hk s)
 exact ⟨a,a',kvs,r,h,.inl ho⟩
variable {R:α→Ty} {f:α→List (κ×β)} {Ma:(α→S→Res ε δ)→Res ε δ} {Mb:S→(κ→S→Res ε δ)→Res ε δ}
omit [DecidableEq κ] in
theorem Y4 (hd:∀ x,Dat K (Rk x) (k.e x)) {x:κ} {v:V} {F:Hp} (r:(Rk x).p v F):∃ b,v=.ref b:=by
 have z:=hd x _ _ r
 obtain ⟨ds,e⟩:=k.tup x
 rw [show k.e x=.tuple ds from e] at z
 obtain ⟨a,xs,e1,_⟩:=NC (K:=K) (F:=F) (ds:=ds) z
 exact ⟨a,e1⟩
omit [DecidableEq κ] in
theorem fI (hd:∀ x,Dat K (Rk x) (k.e x)) {D:Own} {H F:Hp} (hs:HS D H F) {a a':Addr} {kvs:HKvs} {m:List (κ×β)} {y:V} {x:κ} (h1:EntH K k Rk Rv F kvs m) (h2:H a=some (XD ω a' kvs)∨∃ od,H a=some (.frz od (XD ω a' kvs))) (r:(Rk x).p y F):AtH ω K H (.ref a) y a kvs (k.f x):=by
 obtain ⟨b,rfl⟩:=Y4 hd r
 refine ⟨rfl,⟨a',?_⟩,h1.ky hd hs.sub,⟨b,rfl,?_⟩,iH (k.k.dep _) k.le⟩
 ·rcases h2 with h2 | ⟨od,h2⟩
  ·exact .inl h2
  ·exact .inr ⟨od,h2⟩
 ·show Dp K H _ (k.k.f x).data
  rw [k.k.he]
  exact HK hs.sub _ _ (hd _ _ _ r)
theorem B1 (hd:∀ x,Dat K (Rk x) (k.e x)) (hv:DVh K ω Dd R f k Rk Rv) (ha:EvC K X De ta G Dd s Ma R) (hb:∀ s1,EvC K X De tb G Dd s1 (Mb s1) Rk):EvC K X De (FU ω K ta tb) G Dd s (fun kk=>Ma fun a s1=>Mb s1 fun b s2=>Res.bind (Res.opt (dget (f a) b)) fun z=>kk z s2) Rv:=fun kk σ H F hs ss o r Q hm q qe=>
 ha _ σ H F hs ss o r _ hm (fun a s1 x H1 F1 t1 hs1 r1 hm1=>hb s1 _ σ H1 F1 hs1 (ss.mono t1) o r _ hm1
  (fun b s2 y H2 F2 t2 hs2 r2 hm2=>by
   obtain ⟨d,ed,hm3⟩:=Res.FE hm2
   obtain ⟨p,p',kvs,rfl,h1,h2⟩:=hv a s2 x H2 F2 hs2 ((R a).mono t2 r1)
   rcases h1.get b with ⟨h3,_⟩ | ⟨d',v,h3,h4,h5⟩
   ·rw [ed] at h3;cases h3
   ·rw [ed] at h3
    cases h3
    exact ⟨p,kvs,k.f b,v,fI hd hs2 h1 h2 r2,h4,q d s2 v H2 F2 (t1.trans t2) hs2 h5 hm3⟩)
  (fun n e h H2 F2 t2=>qe n e h H2 F2 (t1.trans t2))) qe
omit [DecidableEq κ] in
theorem Ht:EvNC (β:=δ) K X De (Pw ω) G Dd s (fun kk=>kk [] s) (OHT K ω k Rk Rv):=fun kk σ H F hs ss o r Q hm q qe p hp=>q [] s p _ F (Same.refl _) (hs.new hp ⟨p,[],rfl,.nil⟩) hm
theorem Hu (hd:∀ x,Dat K (Rk x) (k.e x)) {m:List (κ×β)} {j:Nat} {a:Addr} {Ma:(β→S→Res ε ρ)→Res ε ρ} {Mi:S→(κ→S→Res ε ρ)→Res ε ρ} {kk:List (κ×β)×S→Res ε ρ} (ho:G[n]?=some (some (Is (.ref a)))) (h:EvC K w.X w.De te G Dd s Ma Rv) (hi:∀ s1,EvC K w.X w.De tb G Dd s1 (Mi s1) Rk) (hk:∀ s,(Dd s)[j]?=some (a,OHT K ω k Rk Rv m))
    {mm:Res ε ρ} (hP:w.W F0 mm) (q:∀ x,w.W F0 (kk x)→Go E.nx F0 G ((Dd x.2).set j (a,OHT K ω k Rk Rv x.1))) (c:w.cond G:=by first | exact trivial | walk_at "cond") (hm:mm=(Ma fun v s1=>Mi s1 fun x s2=>Res.bind (Res.grd (m.length < 100000) (dput m x v,s2)) kk):=by exact rfl):Go (MU ω K (tVar n) tb te E) F0 G (Dd s):=by subst hm;exact (fun σ H F t hs ss=>
  h _ σ H F hs ss _ _ _ hP (fun x s1 v H1 F1 t1 hs1 r1 hm=>by
    obtain ⟨v0,e0,r0⟩:=ss.get ho
    have r0':v0=.ref a:=r0
    subst r0'
    refine ⟨_,e0,hi s1 _ σ H1 F1 hs1 (ss.mono t1) _ _ _ hm (fun y s2 u H2 F2 t2 hs2 r2 hm2=>?_) (fun n e hr H2 F2 t2 hs2=>w.err hr c σ H2 F2 ((t.trans t1).trans t2) hs2 ((ss.mono t1).mono t2))⟩
    obtain ⟨hl,hm3⟩:=Res.DE hm2
    obtain ⟨o,ho,a',kvs,rfl,h2⟩:=hs2.at (hk s2)
    have l2:=h2.len
    obtain ⟨b,rfl⟩:=Y4 hd r2
    refine ⟨a,a',b,kvs,k.f y,rfl,ho,h2.ky hd hs2.sub,rfl,?_,iH (k.k.dep _) k.le,by rw [l2];exact iE hl Aq,?_⟩
    · show Dp K H2 _ (k.k.f y).data
      rw [k.k.he]
      exact HK hs2.sub _ _ (hd _ _ _ r2)
    exact q (dput m y x,s2) hm3 σ _ F2 ((t.trans t1).trans t2) (hs2.put (hk s2) ⟨a',_,rfl,h2.put r2 ((Rv x).mono t2 r1)⟩) ((ss.mono t1).mono t2)) (fun n e hr H1 F1 t1 hs1=>w.err hr c σ H1 F1 (t.trans t1) hs1 (ss.mono t1)))
omit [DecidableEq κ] in
theorem VE {D:Own} {H F:Hp} (hs:HS D H F) {j:Nat} {a:Addr} {m:List (κ×β)} (hk:D[j]?=some (a,OHT K ω k Rk Rv m)):∃ a' kvs,H a=some (XD ω a' kvs)∧∀ od,∃ F',Same F F'∧HS (D.eraseIdx j) (upd H a (.frz od (XD ω a' kvs))) F'∧(DHT K ω k Rk Rv m).p (.ref a) F':=by
 obtain ⟨o,ho,a',kvs,rfl,hx⟩:=hs.at hk
 refine ⟨a',kvs,ho,fun od=>?_⟩
 have hs1:HS (D.set j (a,OTy.fl (fun o _=>o=.frz od (XD ω a' kvs)) fun _ h=>h)) (upd H a (.frz od (XD ω a' kvs))) F:=hs.put hk rfl
 have hk1:(D.set j (a,(OTy.fl (fun o _=>o=.frz od (XD ω a' kvs)) fun _ h=>h)))[j]?=some (a,OTy.fl (fun o _=>o=.frz od (XD ω a' kvs)) fun _ h=>h):=ZW hk
 obtain ⟨o2,ho2,hs2,t2⟩:=hs1.freeze hk1
 have ho2':o2=.frz od (XD ω a' kvs):=ho2
 subst ho2'
 refine ⟨_,t2,?_,a,a',od,kvs,rfl,upd_same,hx.mono t2⟩
 have er:(D.set j (a,(OTy.fl (fun o _=>o=.frz od (XD ω a' kvs)) fun _ h=>h))).eraseIdx j=D.eraseIdx j:=by
  refine iZ fun i=>?_
  rw [jA,jA]
  split
  ·rw [i9 (by omega)]
  ·rw [i9 (by omega)]
 rw [er] at hs2
 exact hs2
omit [DecidableEq κ] in
theorem Py {t:TS} {j i:Nat} {a:Addr} {m:List (κ×β)} (hk:D0[j]?=some (a,OHT K ω k Rk Rv m)) (hi:G[i]?=some (some (Is (.ref a)))) (h:Go (t E) F0 (G.set i (some (DHT K ω k Rk Rv m))) (D0.eraseIdx j)):Go (tFrz t E) F0 G D0:=fun σ H F s hs ss=>by
 obtain ⟨a',kvs,ho,f⟩:=VE hs hk
 obtain ⟨v,e1,e2⟩:=ss.get hi
 have ev:v=.ref a:=e2
 subst ev
 refine ⟨a,_,ho,trivial,fun od=>?_⟩
 obtain ⟨F',t1,hs1,r1⟩:=f od
 have z:=(ss.mono t1).set r1 i
 rw [Td e1] at z
 exact h σ _ F' (s.trans t1) hs1 z
omit [DecidableEq κ] in
theorem NN {M:(List (κ×β)→S→Res ε δ)→Res ε δ} (h:EvNC K X De te G Dd s M (OHT K ω k Rk Rv)):EvC K X De (Nz te) G Dd s M (DHT K ω k Rk Rv):=fun kk σ H F hs ss o r Q hm q qe=>
 h kk σ H F hs ss o r _ hm (fun m s1 p H1 F1 t1 hs1 hm1=>by
  obtain ⟨a',kvs,ho,f⟩:=VE hs1 (j:=0) rfl
  refine ⟨p,_,ho,trivial,fun od=>?_⟩
  obtain ⟨F',t2,hs2,r2⟩:=f od
  exact q m s1 _ _ F' (t1.trans t2) hs2 r2 hm1) qe
structure SoL {β:Type} (e:β→PyData) (n:Nat) (c:List β→Prop):Prop where
 alk:∀ x y,PySem.W.alike (e x) (e y)=true
 dep:∀ x,(e x).depth≤n
 srt:∀ xs,c xs→PySem.W.Sortable (xs.map e)
omit [DecidableEq κ] in
theorem VF (hd:∀ x,Dat K (Rk x) (k.e x)) (hv:DVh K ω Dd R f k Rk Rv) {c:List κ→Prop} (so:SoL k.e n c) (hn:n < 60:=by decide) (ha:EvC K X De ta G Dd s Ma R) :
    EvNC K X De (tCB (Wr ω K) (tCons ta tNil)) G Dd s (fun kk=>Ma fun a s1=>Res.bind (Res.grd (c ((f a).map Prod.fst)) (Cg k.e ((f a).map Prod.fst))) fun z=>kk z s1) (OLT Rk):=fun kk σ H F hs ss o r Q hm q qe=>
  ha _ σ H F hs ss o r _ hm (fun a s1 v H1 F1 t1 hs1 r1 hm1=>by
    obtain ⟨hc,hm2⟩:=Res.DE hm1
    obtain ⟨p,p',kvs,rfl,h1,h2⟩:=hv a s1 v H1 F1 hs1 r1
    have hr:L2.Rd H1 p (XD ω p' kvs):=by
      rcases h2 with h2 | ⟨od,h2⟩
      · exact .inl h2
      · exact .inr ⟨od,h2⟩
    have ed:=h1.datas
    refine ⟨p,p',kvs,rfl,hr,h1.ky hd hs1.sub,?_,?_,fun x hx=>?_,fun u hu=>?_⟩
    · rw [ed];exact PySem.W.AllAlike.of so.alk
    · rw [ed];exact so.srt _ hc
    · have hm':x.1.data∈(kvs.map fun e=>e.1.data):=iD hx
      rw [ed] at hm'
      obtain ⟨y,_,ey⟩:=hA.mp hm'
      rw [← ey]
      have:=so.dep y
      omega
    · rw [ed]
      exact q _ s1 u _ F1 t1 (hs1.new hu ⟨_,rfl,Sk (e:=k.e) h1.keysP (fun x v r=>hd x v F1 r) rfl⟩) hm2) qe
end
theorem aM {β:Type} {e:β→PyData} {n:Nat} (h:SoD e n):SoL e n (fun _=>True):=⟨h.alk,h.dep,fun xs _=>by
 rcases h.srt with g | g
 ·exact PySem.W.Sortable.tuples g
 ·exact PySem.W.Sortable.others g⟩
section
variable {K:jf} {ε α δ S:Type} {X:L2.St→XK} {De:ε→Own} {G:Sto} {Dd:S→Own} {s:S} {te:TE}
def minL:List Int→Option Int
 | []=>none
 | m::ns=>some (ns.foldl min m)
end
end TL
end
section
namespace TL
open PySem PySem.Spec L2
section
variable {K:jf} {ε α β δ S Ω:Type} {X:L2.St→XK} {De:ε→Own} {G:Sto} {Dd:S→Own} {s:S} {te tb:TE}
theorem VG {F:Hp} {Re:β→Ty} {e:β→PyData} (hd:∀ x,Dat K (Re x) (e x)):∀ {xs:List β} {vs:List V},AllP F (xs.map Re) vs→AllP F (xs.map (tD K e)) vs
 | [],_,h=>by cases h;exact .nil
 | x::xs,_,h=>by
  cases h with
  | cons h1 h2=>exact .cons (hd _ _ _ h1) (VG hd h2)
theorem fJ {R:α→Ty} {f:α→List β} {Re:β→Ty} {e:β→PyData} (hd:∀ x,Dat K (Re x) (e x)) (hv:∀ x s v H F,HS (Dd s) H F→(R x).p v F→∃ a vs,v=.ref a∧SqL K H a vs∧AllP F ((f x).map Re) vs) :
    ∀ x s v H F,HS (Dd s) H F→(R x).p v F→∃ a vs,v=.ref a∧SqL K H a vs∧AllP F ((f x).map (tD K e)) vs:=fun x s v H F hs r=>by
  obtain ⟨a,vs,h0,h1,h2⟩:=hv x s v H F hs r
  exact ⟨a,vs,h0,h1,VG hd h2⟩
theorem Yl {R:α→Ty} {i k:Nat} {a:Addr} {Dd:Ω→Own} {s:Ω} {gt:Ω→List α} {st:Ω→List α→Ω} (B:Bor Dd k a (OLT R) gt st) (hi:G[i]?=some (some (Is (.ref a)))) :
    EvC (β:=δ) K X De (tCB (cLen K) (tCons (tVar i) tNil)) G Dd s (fun kk=>kk (List.length (gt s):Int) s) (tD K eI):=fun kk σ H F hs ss o r Q hm q qe=>by
  obtain ⟨v,e1,e2⟩:=ss.get hi
  have ev:v=.ref a:=e2
  subst ev
  obtain ⟨o1,ho,vs,rfl,hx⟩:=hs.at (B.at_ s)
  have hl:=hx.len
  rw [gy] at hl
  refine ⟨_,e1,?_⟩
  exact ⟨_,vs.length,rfl,.inl ⟨vs,SqL.of ho,rfl⟩,by rw [hl];exact q _ s _ H F (Same.refl _) hs (.int _) hm⟩
def memD {β:Type} [DecidableEq β] (a:β) (xs:List β):Bool:=decide (a∈xs)
theorem MW {β:Type} [DecidableEq β] {a:β} {xs:List β}:memD a xs=true↔a∈xs:=decide_eq_true_iff
variable [DecidableEq β] {R:α→Ty} {f:α→List β} {Re:β→Ty} {e:β→PyData} {n:Nat}
theorem Wt {Ma:(β→S→Res ε δ)→Res ε δ} {Mb:S→(α→S→Res ε δ)→Res ε δ} (he:Enc e n) (hd:∀ x,Dat K (Re x) (e x)) (hv:∀ x s v H F,HS (Dd s) H F→(R x).p v F→∃ a vs,v=.ref a∧SqL K H a vs∧AllP F ((f x).map Re) vs) (ha:EvC K X De te G Dd s Ma Re) (hb:∀ s1,EvC K X De tb G Dd s1 (Mb s1) R) (hn:n≤63:=by decide) :
    EvC K X De (tOp (rNotInD K) te tb) G Dd s (fun kk=>Ma fun a s1=>Mb s1 fun b s2=>kk (!memD a (f b)) s2) (tD K eB):=Wm he (fJ hd hv) (EG ha hd) hb hn
end
end TL
end
section
namespace TL
open PySem PySem.Spec L2 PyProof.Rows
section
variable {P:Program} {w:World}
def Y5 (P:Program) (w:World) (n:Nat) (s:Shared) (v:Value):Prop:=∀ (A:Around) (E:Value→Shared→Prop) (Q:Bool→Shared→Prop),Q false s→wpAny (model P w) A (ofAClassStatement n v) Q E s
def Says (P:Program) (w:World) (n:Nat) (s:Shared) (v:Value):Prop:=∀ (A:Around) (E:Value→Shared→Prop) (Q:Bool→Shared→Prop),(∀ b,Q b s)→wpAny (model P w) A (hashByValue n v) Q E s
theorem Ym {n:Nat} {s:Shared} {a:Addr} {o:Obj} {vs:Array Value} {m:Nat} (ho:s.heap.get? a=some o) (hc:o.cls=.type "tuple") (hd:o.data=.seq vs m) (hq:∀ v∈vs.toList,Y5 P w n s v):Y5 P w (n+1) s (.ref a):=fun A E Q h=>by
 have hT:s.TypeIs (.ref a) "tuple":=⟨o,ho,hc⟩
 unfold ofAClassStatement
 refine wpAny_bind (wpAny_typeOf hT ?_)
 have e:(("tuple":String) == "tuple")=true:=by decide
 dsimp only
 rw [if_pos e]
 refine wpAny_bind (wpAny_pure ?_)
 refine wp_if_neg (by decide) ?_
 first
  | skip
 show wpAny _ _ (seqItems? (.ref a) >>= _) _ _ s
 refine wpAny_bind (wpAny_seqItems ho hd ?_)
 refine wpAny_bind ?_
 show wpAny _ _ (forIn vs _ _) _ _ s
 rw [← Array.forIn_toList]
 refine wpAny_forIn_list _ (fun l r s'=>r.1=none∧s'=s∧∀ v∈l,v∈vs.toList) _ ?_ ?_ _ _ ⟨rfl,rfl,fun _ m=>m⟩
 ·rintro v l r s' ⟨hr,rfl,hall⟩
  refine wpAny_bind (hq v (hall v gu) _ _ _ ?_)
  refine wp_if_neg Bool.false_ne_true ?_
  exact wpAny_pure ⟨rfl,rfl,fun u m=>hall u (gz _ m)⟩
 ·rintro ⟨r1,r2⟩ s' ⟨hr,rfl,_⟩
  cases hr
  exact wpAny_pure h
theorem aN {n:Nat} {s:Shared} {a:Addr} {o:Obj} {vs:Array Value} {m:Nat} (ho:s.heap.get? a=some o) (hc:o.cls=.type "tuple") (hd:o.data=.seq vs m) (hq:∀ v∈vs.toList,Says P w n s v):Says P w (n+1) s (.ref a):=fun A E Q h=>by
 have hT:s.TypeIs (.ref a) "tuple":=⟨o,ho,hc⟩
 unfold hashByValue
 refine wpAny_bind (wpAny_specialOf hT F.slot_tuple_hash.lookup ?_)
 show wpAny _ _ (seqItems? (.ref a) >>= _) _ _ s
 refine wpAny_bind (wpAny_seqItems ho hd ?_)
 refine wpAny_bind ?_
 show wpAny _ _ (forIn vs _ _) _ _ s
 rw [← Array.forIn_toList]
 refine wpAny_forIn_list _ (fun l r s'=>s'=s∧∀ v∈l,v∈vs.toList) _ ?_ ?_ _ _ ⟨rfl,fun _ m=>m⟩
 ·rintro v l r s' ⟨rfl,hall⟩
  refine wpAny_bind (hq v (hall v gu) _ _ _ fun b=>?_)
  cases b with
  | true=>
   refine wp_if_neg (by decide) ?_
   exact wpAny_pure ⟨rfl,fun u m=>hall u (gz _ m)⟩
  | false=>
   refine wp_if_pos (by decide) ?_
   refine wpAny_pure ?_
   exact wpAny_pure (h false)
 ·rintro ⟨r1,r2⟩ s' ⟨rfl,_⟩
  cases r1 with
  | none=>exact wpAny_pure (h true)
  | some b=>exact wpAny_pure (h b)
mutual
theorem NO:∀ (k:NestedKey) (v:Value) (n:Nat) (s:Shared),NestedIs s.heap k v→k.depth≤n→Y5 P w n s v
 | .none,_,n,s,x,_=>by cases x;intro A E Q h;cases n <;> exact wpAny_pure h
 | .num i,_,n,s,x,_=>by cases x <;> intro A E Q h <;> cases n <;> exact wpAny_pure h
 | .text y,_,n,s,x,_=>by cases x;intro A E Q h;cases n <;> exact wpAny_pure h
 | .tup ks,_,n,s,x,hn=>by
  cases x with
  | tup h1 h2 h3 h4=>
   simp only [NestedKey.depth] at hn
   cases n with
   | zero=>omega
   | succ n=>exact Ym h1 h2 h3 (Pz ks _ n s h4 (by omega))
theorem Pz:∀ (ks:List NestedKey) (vs:List Value) (n:Nat) (s:Shared),NestedAll s.heap ks vs→NestedKey.depthAll ks≤n→∀ v∈vs,Y5 P w n s v
 | [],_,n,s,x,_,v,hv=>by cases x;cases hv
 | k::ks,_,n,s,x,hn,v,hv=>by
  cases x with
  | cons x1 x2=>
   simp only [NestedKey.depthAll] at hn
   rcases hZ.mp hv with e | hv
   ·rw [e];exact NO k _ n s x1 (by omega)
   ·exact Pz ks _ n s x2 (by omega) v hv
end
mutual
theorem Q0:∀ (k:NestedKey) (v:Value) (n:Nat) (s:Shared),NestedIs s.heap k v→k.depth≤n→Says P w n s v
 | .none,_,n,s,x,_=>by cases x;intro A E Q h;cases n <;> exact wpAny_pure (h _)
 | .num i,_,n,s,x,_=>by cases x <;> intro A E Q h <;> cases n <;> exact wpAny_pure (h _)
 | .text y,_,n,s,x,_=>by cases x;intro A E Q h;cases n <;> exact wpAny_pure (h _)
 | .tup ks,_,n,s,x,hn=>by
  cases x with
  | tup h1 h2 h3 h4=>
   simp only [NestedKey.depth] at hn
   cases n with
   | zero=>omega
   | succ n=>exact aN h1 h2 h3 (Sl ks _ n s h4 (by omega))
theorem Sl:∀ (ks:List NestedKey) (vs:List Value) (n:Nat) (s:Shared),NestedAll s.heap ks vs→NestedKey.depthAll ks≤n→∀ v∈vs,Says P w n s v
 | [],_,n,s,x,_,v,hv=>by cases x;cases hv
 | k::ks,_,n,s,x,hn,v,hv=>by
  cases x with
  | cons x1 x2=>
   simp only [NestedKey.depthAll] at hn
   rcases hZ.mp hv with e | hv
   ·rw [e];exact Q0 k _ n s x1 (by omega)
   ·exact Sl ks _ n s x2 (by omega) v hv
end
abbrev IsK (P:Program) (w:World) (h:Heap) (k:NestedKey) (a:Addr):Prop:=(nestedKind P w).is h k a
theorem unseen {A:Around} {E:Value→Shared→Prop} {s:Shared} {k:NestedKey} {b:Addr} {Q:Bool→Shared→Prop} (hk:IsK P w s.heap k b) {ys:List Value} (hy:∀ y∈ys,∃ k' c,y=Value.ref c∧IsK P w s.heap k' c) (h:Q false s) :
    wpAny (model P w) A (searchCouldBeSeen (.ref b) ys) Q E s:=by
  unfold searchCouldBeSeen
  refine wpAny_bind ?_
  refine wpAny_forIn_list _ (fun l r s'=>r.1=none∧s'=s∧∀ y∈l,y∈ys) _ ?_ ?_ _ _ ⟨rfl,rfl,fun _ m=>m⟩
  · rintro v l r s' ⟨hr,rfl,hall⟩
    obtain ⟨k',c,rfl,hc⟩:=hy v (hall v gu)
    have tl:∀ y∈l,y∈ys:=fun u m=>hall u (gz _ m)
    dsimp only
    by_cases hv:(b == c || (carriedByValue (.ref b) && carriedByValue (.ref c)))=true
    · exact wp_if_pos hv (wpAny_pure ⟨rfl,rfl,tl⟩)
    · refine wp_if_neg hv (wpAny_bind ((nestedKind P w).quiet hk ?_))
      refine wp_if_neg (by decide) (wpAny_bind ((nestedKind P w).quiet hc ?_))
      refine wp_if_neg (by decide) (wpAny_bind (NO k _ 8 _ hk.1 hk.2 _ _ _ ?_))
      refine wp_if_neg (by decide) (wpAny_bind (NO k' _ 8 _ hc.1 hc.2 _ _ _ ?_))
      exact wp_if_neg (by decide) (wpAny_pure ⟨rfl,rfl,tl⟩)
  · rintro ⟨r1,r2⟩ s' ⟨hr,rfl,_⟩
    cases hr
    exact wpAny_pure h
end
end TL
end
section
namespace TL
open PySem PySem.Spec L2 PyProof.Rows
section
variable {P:Program} {w:World} {A:Around} {E:Value→Shared→Prop} {s:Shared}
abbrev Mem:=Addr×NestedKey
abbrev hOf (w:World) (k:NestedKey):Int:=k.hash w
def Hv (w:World) (L:List Mem):List (Int×Value):=L.map fun p=>(hOf w p.2,Value.ref p.1)
theorem Jd (w:World) (L:List Mem):(Hv w L).length=L.length:=gy ..
theorem Lc {w:World} {L:List Mem} {i:Nat} {p:Mem} (h:L[i]?=some p):(Hv w L)[i]?=some (hOf w p.2,Value.ref p.1):=by
 unfold Hv
 rw [iB,h]
 rfl
structure SetK (P:Program) (w:World) (h:Heap) (a:Addr) (L:List Mem) (es:Array (Int×Value)) (t:SetTable):Prop where
 obj:∃ o ep,h.get? a=some o∧o.ExactSet∧o.data=.set es ep t
 ent:es.toList=Hv w L
 tab:TabOk t (L.map fun p=>hOf w p.2)
 nd:(L.map Prod.snd).Nodup
 key:∀ p∈L,IsK P w h p.2 p.1
 led:w.params.followText "set-order"=true∨t.led=true
 room:L.length*5 < t.mask*3
 few:L.length < 64
variable {a:Addr} {L:List Mem} {es:Array (Int×Value)} {t:SetTable}
theorem SetK.size (R:SetK P w s.heap a L es t):es.size=L.length:=by
 rw [← iU,R.ent,Jd]
theorem Y6 {L:List Mem} {es:Array (Int×Value)} {t:SetTable} (h1:es.size=L.length) (h2:t.place.size=L.length) (h3:t.dummies=#[]) (h4:L.length≤t.mask):t.fits es.size=true:=by
 unfold SetTable.fits SetTable.fill
 rw [h3,h1,h2,iN,beq_iff_eq,decide_eq_true_eq]
 exact ⟨rfl,by show L.length+0≤_;omega⟩
theorem SetK.place (R:SetK P w s.heap a L es t):t.place.size=L.length:=by
 have h:=R.tab.sz
 rw [gy] at h
 exact h
theorem SetK.fits (R:SetK P w s.heap a L es t):t.fits es.size=true:=Y6 R.size R.place R.tab.dm (by have:=R.room;omega)
theorem SetK.at (R:SetK P w s.heap a L es t) {i:Nat} {p:Mem} (h:L[i]?=some p):es[i]?=some (hOf w p.2,Value.ref p.1):=by
 rw [← iW,R.ent]
 exact Lc h
theorem VH {t:SetTable} {hs:List Int} (T:TabOk t hs):¬ t.gaveWay=true:=by
 unfold SetTable.gaveWay
 rw [mask_odd T.mok]
 decide
abbrev go0 (m:Nat) (h:Int):SetTable.Probe:=runAt m (SetTable.bits h % (m+1)) (SetTable.bits h)
theorem Sn (m:Nat):∀ (n:Nat) (p:SetTable.Probe),p.dummy=none→(nth m p n).dummy=none
 | 0,_,h=>h
 | n+1,p,h=>Sn m n (adv m p) (by unfold adv;split <;> exact h)
theorem VI (m c q:Nat) (h:Int):nth m (nth m (go0 m h) c) q=nth m (go0 m h) (c+q):=(nth_add m c _ q).symm
def Ahead (w:World) (L:List Mem) (t:SetTable) (k:NestedKey) (c K:Nat):Prop:=∀ (i:Nat) (p:Mem),L[i]?=some p→p.2=k→∃ c',c≤c'∧c' < K∧t.place.toList[i]?=some (way t.mask (hOf w k) c')
theorem seek (R:SetK P w s.heap a L es t) {x:Addr} {k:NestedKey} (hx:IsK P w s.heap k x) (hu:(nestedKind P w).room A) {K:Nat} (hKf:K < 10*SetTable.turns t.mask)
    (hK:way t.mask (hOf w k) K∉t.place.toList) (hb:∀ c,c < K→way t.mask (hOf w k) c∈t.place.toList) {Q:SetFound→Shared→Prop}
    (yes:k∈L.map Prod.snd→Q (.there none) s) (no:k∉L.map Prod.snd→Q (.free (way t.mask (hOf w k) K) false) s) :
    ∀ (f c:Nat) (st:Option SetTable.Probe),st.getD (t.probeStart (hOf w k))=nth t.mask (go0 t.mask (hOf w k)) c→c≤K→K < c+f→Ahead w L t k c K →
      wpAny (model P w) A (setSearchFrom a (.ref x) (hOf w k) true f st) Q E s:=by
  obtain ⟨o,ep,ho,hex,hd⟩:=R.obj
  intro f
  induction f with
  | zero=>intro c st _ h1 h2;omega
  | succ f ih=>
    intro c st hst hc hf hah
    rw [setSearchFrom_succ]
    refine wpAny_bind (wpAny_setState_of ho hd R.fits ?_)
    dsimp only
    refine wp_if_neg (VH R.tab) ?_
    have hashAt:∀ (i:Nat) (p:Mem),L[i]?=some p→(es[i]?.map Prod.fst).getD 0=hOf w p.2:=fun i p hp=>by rw [R.at hp];rfl
    have wj:∀ q,(nth t.mask (nth t.mask (go0 t.mask (hOf w k)) c) q).j=way t.mask (hOf w k) (c+q):=fun q=>congrArg SetTable.Probe.j (VI _ _ _ _)
    have passed:∀ {n:Nat},(∀ k' i',k' < n→t.place.toList[i']?=some (nth t.mask (nth t.mask (go0 t.mask (hOf w k)) c) k').j→(es[i']?.map Prod.fst).getD 0≠hOf w k)→∀ {i:Nat} {p:Mem} {c':Nat},L[i]?=some p→p.2=k→c≤c'→t.place.toList[i]?=some (way t.mask (hOf w k) c')→c+n≤c':=fun {n} hno {i p c'} h1 h2 h3 h4=>by
      rcases Nat.lt_or_ge c' (c+n) with z | z
      · refine absurd ((hashAt i p h1).trans (by rw [h2])) (hno (c' - c) i (by omega) ?_)
        rw [wj,show c+(c' - c)=c' by omega]
        exact h4
      · exact z
    rcases go_spec t R.tab.ris R.tab.dm (fun i=>(es[i]?.map Prod.fst).getD 0) (hOf w k) (10*SetTable.turns t.mask) (K - c) (nth t.mask (go0 t.mask (hOf w k)) c) (Sn _ _ _ rfl) (by omega)
        (fun q hq=>by rw [wj];exact hb _ (by omega)) (by rw [wj,show c+(K - c)=K by omega];exact hK) with ⟨q,i,hq,hi,hh,hno,hpr⟩ | ⟨hno,hpr⟩
    · have hp1:t.probe (fun i=>(es[i]?.map Prod.fst).getD 0) (hOf w k) (st.getD (t.probeStart (hOf w k)))=some (.candidate (nth t.mask (nth t.mask (go0 t.mask (hOf w k)) c) q).j i (nth t.mask (nth t.mask (go0 t.mask (hOf w k)) c) (q+1))):=by rw [hst];exact hpr
      rw [hp1]
      dsimp only
      have hil:i < L.length:=by
        have h1:i < t.place.toList.length:=(iF.mp hi).1
        rw [iU,R.place] at h1
        exact h1
      obtain ⟨p,hp⟩:∃ p,L[i]?=some p:=⟨_,hJ hil⟩
      have hm:p∈L:=iM hp
      have tail:wpAny (model P w) A (searchRest a (.ref x) (hOf w k) true f es t (nth t.mask (nth t.mask (go0 t.mask (hOf w k)) c) q).j i (nth t.mask (nth t.mask (go0 t.mask (hOf w k)) c) (q+1))) Q E s:=by
        unfold searchRest
        rw [R.at hp]
        dsimp only
        refine wpAny_bind (wpAny_holding ((nestedKind P w).eqBool hu (R.key p hm) hx ?_))
        refine wpAny_bind (wpAny_setState_of ho hd R.fits ?_)
        dsimp only
        by_cases e:p.2=k
        · exact wp_if_pos (by simp [e]) (wpAny_pure (yes (hA.mpr ⟨p,hm,e⟩)))
        · refine wp_if_neg (by simp [e]) ?_
          rw [sameMem]
          dsimp only
          have hsl:=slot_live R.tab.ris hi
          simp only [if_true,hsl,R.at hp]
          refine wpAny_bind (wpAny_isSame_ref_self (wpAny_bind (wpAny_pure ?_)))
          simp only [if_true]
          refine wp_if_neg (by simp [e]) ?_
          refine ih (c+(q+1)) _ (VI _ _ _ _) (by omega) (by omega) fun i0 p0 h0 e0=>?_
          obtain ⟨c',c1,c2,c3⟩:=hah i0 p0 h0 e0
          have g:=passed hno h0 e0 c1 c3
          refine ⟨c',?_,c2,c3⟩
          rcases Nat.lt_or_ge (c+q) c' with y | y
          · omega
          · exfalso
            have ec:c'=c+q:=by omega
            rw [ec,← wj] at c3
            have s0:=slot_live R.tab.ris c3
            rw [hsl] at s0
            cases s0
            rw [hp] at h0
            cases h0
            exact e e0
      by_cases hl:t.led=true
      · exact wp_if_neg (by simp [hl]) tail
      · refine wp_if_pos (by simp [hl]) (wpAny_bind (unseen hx (fun y hy=>?_) (wp_if_neg (by decide) tail)))
        obtain ⟨e,he,rfl⟩:=hA.mp hy
        have he2:e∈es.toList:=by simpa using (by simpa using he:e∈es∧_).1
        rw [R.ent] at he2
        obtain ⟨p2,h2,rfl⟩:=hA.mp he2
        exact ⟨p2.2,p2.1,rfl,R.key p2 h2⟩
    · have hp1:t.probe (fun i=>(es[i]?.map Prod.fst).getD 0) (hOf w k) (st.getD (t.probeStart (hOf w k)))=some (.empty (way t.mask (hOf w k) K) none):=by
        rw [hst,show way t.mask (hOf w k) K=(nth t.mask (nth t.mask (go0 t.mask (hOf w k)) c) (K - c)).j by rw [wj,show c+(K - c)=K by omega]]
        exact hpr
      rw [hp1]
      dsimp only
      refine wpAny_pure (no fun hm=>?_)
      obtain ⟨p0,h0,e0⟩:=hA.mp hm
      obtain ⟨i0,hi0⟩:=j8 h0
      obtain ⟨c',c1,c2,c3⟩:=hah i0 p0 hi0 e0
      have g:=passed hno hi0 e0 c1 c3
      omega
theorem gM (R:SetK P w s.heap a L es t) {x:Addr} {k:NestedKey} (hx:IsK P w s.heap k x) (hu:(nestedKind P w).room A) {Q:SetFound→Shared→Prop}
    (yes:k∈L.map Prod.snd→Q (.there none) s)
    (no:∀ K,k∉L.map Prod.snd→way t.mask (hOf w k) K∉t.place.toList→(∀ c,c < K→way t.mask (hOf w k) c∈t.place.toList)→Q (.free (way t.mask (hOf w k) K) false) s) :
    wpAny (model P w) A (setSearch a (.ref x) (hOf w k) true) Q E s:=by
  obtain ⟨K,hKf,hK,hb⟩:=R.tab.first (by rw [gy];have:=R.room;omega) (hOf w k)
  have small:K < 100000:=by
    refine iE hKf ?_
    unfold SetTable.turns
    rcases R.tab.mok with e | e | e <;> omega
  unfold setSearch
  refine seek R hx hu hKf hK hb yes (fun hn=>no K hn hK hb) 100000 0 none rfl (iT _) (by omega) fun i p hp e=>?_
  have h1:(L.map fun p=>hOf w p.2)[i]?=some (hOf w k):=by rw [iB,hp,← e];rfl
  have h2:i < t.place.toList.length:=by
    rw [iU,R.place]
    exact (iF.mp hp).1
  have h3:=hJ h2
  obtain ⟨c,hc,ec⟩:=R.tab.before hK h1 h3
  exact ⟨c,iT _,hc,by rw [h3,ec]⟩
end
end TL
end
section
namespace TL
open PySem PySem.Spec L2 PyProof.Rows
section
variable {P:Program} {w:World} {A:Around} {E:Value→Shared→Prop} {s:Shared}
theorem Tf {h h':Heap} {k:NestedKey} {a b:Addr} {o:Obj} {es:Array (Int×Value)} {ep:Nat} {t:SetTable} (hb:IsK P w h k b) (ho:h.get? a=some o) (hd:o.data=.set es ep t) (hs:Heap.SameBut a h h'):IsK P w h' k b:=
 ⟨NestedIs.at (fun c u vs n hc hv=>(hs.2 c fun e=>by
  subst e
  rw [ho] at hc
  cases hc
  rw [hd] at hv
  cases hv).trans hc) k _ hb.1,hb.2⟩
theorem aO {h h':Heap} {k:NestedKey} {b:Addr} (hb:IsK P w h k b) (hk:∀ c o,h.get? c=some o→h'.get? c=some o):IsK P w h' k b:=
 ⟨NestedIs.at (fun c u vs n hc _=>hk c u hc) k _ hb.1,hb.2⟩
theorem Wu {L:List Mem} {es:Array (Int×Value)} (he:es.toList=Hv w L) (order:Array Nat) (hp:order.toList.Perm (List.range L.length)) :
    ∃ L2:List Mem,L2.Perm L∧(order.filterMap (es[·]?)).toList=Hv w L2∧(L2.map fun p=>hOf w p.2)=order.toList.map fun i=>(es.map Prod.fst).getD i 0:=by
  have hin:∀ i∈order.toList,i < L.length:=fun i hi=>List.mem_range.mp (hp.mem_iff.mp hi)
  refine ⟨order.toList.filterMap fun i=>L[i]?,?_,?_,?_⟩
  · have e:(List.range L.length).filterMap (fun i=>L[i]?)=L:=by
      refine iZ fun j=>?_
      have g:∀ n,n≤L.length→(List.range n).filterMap (fun i=>L[i]?)=L.take n:=by
        intro n
        induction n with
        | zero=>intro _;rfl
        | succ n ih=>
          intro hn
          rw [List.range_succ,List.filterMap_append,ih (by omega),List.take_add_one]
          congr 1
      rw [g _ (iA _),List.take_length]
    have z:=hp.filterMap (fun i=>L[i]?)
    rw [e] at z
    exact z
  · rw [Array.toList_filterMap]
    generalize order.toList=l at hin
    induction l with
    | nil=>rfl
    | cons i l ih=>
      have hi:=hin i gu
      have e1:L[i]?=some L[i]:=hJ hi
      have e2:es[i]?=some (hOf w L[i].2,Value.ref L[i].1):=by
        rw [← iW,he]
        exact Lc e1
      rw [List.filterMap_cons_some e2,List.filterMap_cons_some e1,ih fun j hj=>hin j (gz _ hj)]
      rfl
  · generalize order.toList=l at hin
    induction l with
    | nil=>rfl
    | cons i l ih=>
      have hi:=hin i gu
      have e1:L[i]?=some L[i]:=hJ hi
      have e2:es[i]?=some (hOf w L[i].2,Value.ref L[i].1):=by
        rw [← iW,he]
        exact Lc e1
      rw [List.filterMap_cons_some e1,hG,hG,ih fun j hj=>hin j (gz _ hj)]
      congr 1
      simp [Array.getD_eq_getD_getElem?,Array.getElem?_map,e2]
variable {a:Addr} {L:List Mem} {es:Array (Int×Value)} {t:SetTable} {ep:Nat} {o:Obj}
structure Half (P:Program) (w:World) (h:Heap) (a:Addr) (L:List Mem) (es:Array (Int×Value)) (t:SetTable):Prop where
 ent:es.toList=Hv w L
 tab:TabOk t (L.map fun p=>hOf w p.2)
 nd:(L.map Prod.snd).Nodup
 key:∀ p∈L,IsK P w h p.2 p.1
 led:w.params.followText "set-order"=true∨t.led=true
 few:L.length < 64
theorem Yn (ho:s.heap.get? a=some o) (hex:o.ExactSet) (hd:o.data=.set es ep t) (R:Half P w s.heap a L es t) (hm:L.length≤t.mask) {wanted M:Nat}
    (hw:SetTable.sizeAbove wanted - 1=M) (hM:MaskOk M) (hw2:SetTable.sizeAbove wanted≤128) (hn:L.length*5 < M*3) {Q:Unit→Shared→Prop}
    (hQ:∀ h' L' es' t',Heap.SameBut a s.heap h'→SetK P w h' a L' es' t'→L'.Perm L→Q () { s with heap:=h' }):wpAny (model P w) A (setRelay a wanted) Q E s:=by
  have hz:es.size=L.length:=by rw [← iU,R.ent,Jd]
  have hpl:t.place.size=L.length:=by
    have h:=R.tab.sz
    rw [gy] at h
    exact h
  obtain ⟨t',order,e,hp,T,em,el,_,_⟩:=relaid_ok t (hs:=es.map Prod.fst) (wanted:=wanted) hw hM (by rw [Array.size_map,hz];omega)
  rw [Array.size_map,hz] at hp
  obtain ⟨L2,r2,r1,r3⟩:=Wu R.ent order hp
  rw [← r3] at T
  have hz2:(order.filterMap (es[·]?)).size=es.size:=by rw [← iU,r1,Jd,r2.length_eq,hz]
  rw [setRelay_eq]
  refine wpAny_bind (wpAny_setState_of ho hd (Y6 hz hpl R.tab.dm hm) ?_)
  dsimp only
  refine wp_if_neg (by rw [sizeLine_eq];omega) ?_
  rw [e]
  dsimp only
  refine wpAny_bind (wp_if_neg (by rw [hz2];simp) (wpAny_pure ?_))
  dsimp only
  refine wpAny_storeSet_of ho hd ?_ (by rw [hz2,hz,sizeLine_eq];have:=R.few;omega)
  have sb:Heap.SameBut a s.heap (s.heap.update a (Obj.putSet (order.filterMap (es[·]?)) t')):=Heap.SameBut.update ..
  refine hQ _ L2 _ t' sb ⟨⟨_,ep+1,store_at ho hd,⟨hex.1,hex.2.1,hex.2.2⟩,rfl⟩,r1,T,(r2.map Prod.snd).nodup_iff.mpr R.nd,fun p hpm=>Tf (R.key p (r2.mem_iff.mp hpm)) ho hd sb,by rw [el];exact R.led,?_,by rw [r2.length_eq];exact R.few⟩ r2
  rw [r2.length_eq,em]
  exact hn
theorem cg (R:SetK P w s.heap a L es t) {x:Addr} {k:NestedKey} (hx:IsK P w s.heap k x) (hu:(nestedKind P w).room A) (hfew:L.length+1 < 64) {Q:Bool→Shared→Prop}
    (hQ:∀ b h' L' es' t',Heap.SameBut a s.heap h'→SetK P w h' a L' es' t'→(k∈L.map Prod.snd→L'=L)→(k∉L.map Prod.snd→L'.Perm ((x,k)::L))→Q b { s with heap:=h' }) :
    wpAny (model P w) A (setAddHashed a (.ref x) (hOf w k)) Q E s:=by
  obtain ⟨o,ep,ho,hex,hd⟩:=R.obj
  have hroom:=R.room
  unfold setAddHashed
  refine wpAny_holding ?_
  rw [show (100000:Nat)=99999+1 from rfl,setAddHashedIn_succ]
  refine wpAny_bind (wpAny_setState_of ho hd R.fits ?_)
  dsimp only
  refine wp_if_neg (by simp [byScan,Value.scannable]) ?_
  refine wpAny_bind (gM R hx hu (fun hm=>?_) fun K hm hK hb=>?_)
  · exact wpAny_pure (hQ false s.heap L es t (Heap.SameBut.refl a s.heap) R (fun _=>rfl) fun z=>absurd hm z)
  · dsimp only
    refine wpAny_bind (wpAny_setState_of ho hd R.fits ?_)
    dsimp only
    obtain ⟨q1,q2,q3,q4,q5,_,_,_,q9⟩:=R.tab.put hK hb
    generalize t.put (way t.mask (hOf w k) K)=pt at q1 q3 q4 q5 q9 ⊢
    obtain ⟨t1,p⟩:=pt
    dsimp only at q1 q3 q4 q5 q9 ⊢
    subst q1
    generalize SetTable.below t.place (way t.mask (hOf w k) K)=p at q2 q3 ⊢
    have pm:(L.take p++(x,k)::L.drop p).Perm ((x,k)::L):=by
      have h:=@List.perm_middle _ (x,k) (L.take p) (L.drop p)
      rw [List.take_append_drop] at h
      exact h
    have hent:(SetTable.insertAt es p (hOf w k,Value.ref x)).toList=Hv w (L.take p++(x,k)::L.drop p):=by
      rw [SetTable.toList_insertAt,R.ent]
      unfold Hv
      rw [i8,hG,List.map_take,List.map_drop]
    have htab:(L.map fun p=>hOf w p.2).take p++hOf w k::(L.map fun p=>hOf w p.2).drop p=(L.take p++(x,k)::L.drop p).map fun p=>hOf w p.2:=by
      rw [i8,hG,List.map_take,List.map_drop]
    rw [htab] at q3
    rw [gy] at q9
    generalize SetTable.insertAt es p (hOf w k,Value.ref x)=es1 at hent ⊢
    generalize L.take p++(x,k)::L.drop p=L1 at pm hent q3
    have hlen:L1.length=L.length+1:=pm.length_eq
    have hz1:es1.size=L.length+1:=by rw [← iU,hent,Jd,hlen]
    have byv:∀ {t2:SetTable},(∃ b,t2=(if b=true then t1 else { t1 with plain:=false }))→TabOk t2 (L1.map fun p=>hOf w p.2)∧t2.mask=t.mask∧t2.led=t.led∧t2.fill=L.length+1:=fun {t2} ⟨b,e⟩=>by
      subst e
      cases b with
      | true=>exact ⟨q3,q4,q5,q9⟩
      | false=>exact ⟨⟨q3.ris,q3.dm,q3.sz,q3.mok,q3.bd,q3.reach⟩,q4,q5,q9⟩
    have more:∀ t2,(∃ b,t2=(if b=true then t1 else { t1 with plain:=false }))→wpAny (model P w) A (do
        storeSet a es1 t2
        if !false && t2.tooFull then setRelay a (SetTable.grown (es.size+1))
        return true) Q E s:=by
      intro t2 hb2
      obtain ⟨T2,m2,l2,f2⟩:=byv hb2
      refine wpAny_bind (wpAny_storeSet_of ho hd ?_ (by rw [hz1,sizeLine_eq];omega))
      have sb:Heap.SameBut a s.heap (s.heap.update a (Obj.putSet es1 t2)):=Heap.SameBut.update ..
      have ho1:=store_at (es':=es1) (t':=t2) ho hd
      generalize s.heap.update a (Obj.putSet es1 t2)=h1 at sb ho1 ⊢
      have H:Half P w h1 a L1 es1 t2:=⟨hent,T2,by
        refine (pm.map Prod.snd).nodup_iff.mpr ?_
        rw [hG]
        exact iK.mpr ⟨hm,R.nd⟩,fun p hp=>by
        rcases hZ.mp (pm.mem_iff.mp hp) with e | hp
        · rw [e];exact Tf hx ho hd sb
        · exact Tf (R.key p hp) ho hd sb,by rw [l2];exact R.led,by rw [hlen];exact hfew⟩
      by_cases hf:t2.tooFull=true
      · have full:(L.length+1)*5 ≥ t2.mask*3:=by
          have h:=hf
          unfold SetTable.tooFull at h
          rw [decide_eq_true_eq,f2] at h
          exact h
        have relay:∀ M,SetTable.sizeAbove (SetTable.grown (L.length+1)) - 1=M→MaskOk M→SetTable.sizeAbove (SetTable.grown (L.length+1))≤128→(L.length+1)*5 < M*3→L.length+1≤t2.mask →
            wpAny (model P w) A (setRelay a (SetTable.grown (L.length+1))) (fun _ s'=>wpAny (model P w) A (pure true) Q E s') E { s with heap:=h1 }:=fun M g1 g2 g3 g4 g5=>
          Yn (s:={ s with heap:=h1 }) ho1 ⟨hex.1,hex.2.1,hex.2.2⟩ rfl H (by rw [hlen];exact g5) g1 g2 g3 (by rw [hlen];exact g4) fun h2 L2 es2 t3 sb2 R2 pm2=>wpAny_pure (hQ true h2 L2 es2 t3 (sb.trans sb2) R2 (fun z=>absurd z hm) fun _=>pm2.trans pm)
        have go:wpAny (model P w) A (setRelay a (SetTable.grown (L.length+1))) (fun _ s'=>wpAny (model P w) A (pure true) Q E s') E { s with heap:=h1 }:=by
          rw [m2] at full
          rcases R.tab.mok with e | e | e
          · rw [e] at full hroom
            have e2:L.length=4:=by omega
            exact relay 31 (by rw [e2];decide +kernel) (.inr (.inl rfl)) (by rw [e2];decide +kernel) (by omega) (by rw [m2,e];omega)
          · rw [e] at full hroom
            have e2:L.length=18:=by omega
            exact relay 127 (by rw [e2];decide +kernel) (.inr (.inr rfl)) (by rw [e2];decide +kernel) (by omega) (by rw [m2,e];omega)
          · rw [e] at full;omega
        rw [R.size]
        first
          | exact wpAny_bind (wp_if_pos (by simp [hf]) go)
          | exact wp_if_pos (by simp [hf]) (wpAny_bind go)
      · have none:wpAny (model P w) A (pure true) Q E { s with heap:=h1 }:=by
          refine wpAny_pure (hQ true h1 L1 es1 t2 sb ⟨⟨_,ep+1,ho1,⟨hex.1,hex.2.1,hex.2.2⟩,rfl⟩,H.ent,H.tab,H.nd,H.key,H.led,?_,H.few⟩ (fun z=>absurd z hm) fun _=>pm)
          have h:=hf
          unfold SetTable.tooFull at h
          rw [decide_eq_true_eq,f2] at h
          rw [hlen]
          omega
        first
          | exact wp_if_neg (by simp [hf]) none
          | exact wpAny_bind (wp_if_neg (by simp [hf]) (wpAny_pure none))
    have says:∀ b,wpAny (model P w) A (do
        let t ← pure (if b=true then t1 else { t1 with plain:=false })
        storeSet a es1 t
        if !false && t.tooFull then setRelay a (SetTable.grown (es.size+1))
        return true) Q E s:=fun b=>wpAny_bind (wpAny_pure (more _ ⟨b,rfl⟩))
    by_cases hp1:t1.plain=true
    · first
        | (refine wpAny_bind (wp_if_pos hp1 (Q0 k _ 8 _ hx.1 hx.2 _ _ _ fun b=>?_));exact more _ ⟨b,rfl⟩)
        | (refine wp_if_pos hp1 (wpAny_bind (Q0 k _ 8 _ hx.1 hx.2 _ _ _ fun b=>?_));exact more _ ⟨b,rfl⟩)
    · first
        | (refine wpAny_bind (wp_if_neg hp1 (wpAny_pure ?_));exact more _ ⟨true,rfl⟩)
        | (refine wp_if_neg hp1 (wpAny_bind (wpAny_pure ?_));exact more _ ⟨true,rfl⟩)
        | (refine wp_if_neg hp1 ?_;exact more _ ⟨true,rfl⟩)
end
end TL
end
section
namespace TL
open PySem PySem.Spec L2 PyProof.Rows
structure Kept (ks:List Mem) (n:Nat) (L:List Mem):Prop where
 of:∀ p∈L,p∈ks.take n
 all:∀ p∈ks.take n,p.2∈L.map Prod.snd
 le:L.length≤n
theorem Kept.next {ks L L':List Mem} {n:Nat} {x:Mem} (g:Kept ks n L) (h:ks[n]?=some x) (c1:x.2∈L.map Prod.snd→L'=L) (c2:x.2∉L.map Prod.snd→L'.Perm (x::L)):Kept ks (n+1) L':=by
 have et:ks.take (n+1)=ks.take n++[x]:=by rw [List.take_add_one,h];rfl
 by_cases m:x.2∈L.map Prod.snd
 ·rw [c1 m]
  refine ⟨fun p hp=>?_,fun p hp=>?_,Nat.le_succ_of_le g.le⟩
  ·rw [et];exact iG _ (g.of p hp)
  ·rw [et] at hp
   rcases hY.mp hp with z | z
   ·exact g.all p z
   ·rw [i6.mp z];exact m
 ·have pm:=c2 m
  refine ⟨fun p hp=>?_,fun p hp=>?_,?_⟩
  ·rw [et]
   rcases hZ.mp (pm.mem_iff.mp hp) with e | z
   ·rw [e];exact iV _ (i6.mpr rfl)
   ·exact iG _ (g.of p z)
  ·rw [(pm.map Prod.snd).mem_iff,hG]
   rw [et] at hp
   rcases hY.mp hp with z | z
   ·exact gz _ (g.all p z)
   ·rw [i6.mp z];exact gu
  ·rw [pm.length_eq]
   exact Nat.succ_le_succ g.le
section
variable {P:Program} {w:World} {A:Around} {E:Value→Shared→Prop} {s:Shared}
theorem SetK.move {h h':Heap} {a:Addr} {L:List Mem} {es:Array (Int×Value)} {t:SetTable} (R:SetK P w h a L es t) (ha:∀ o,h.get? a=some o→h'.get? a=some o) (hk:∀ p∈L,IsK P w h' p.2 p.1):SetK P w h' a L es t:=by
 obtain ⟨o,ep,ho,r⟩:=R.obj
 exact ⟨⟨o,ep,ha o ho,r⟩,R.ent,R.tab,R.nd,hk,R.led,R.room,R.few⟩
theorem aP {h:Heap} {a:Addr} (ho:h.get? a=some { cls:=.type "set",dict:=none,data:=.set #[] 0 (.fresh 0 0 (!w.params.followText "set-order")) }):SetK P w h a [] #[] (.fresh 0 0 (!w.params.followText "set-order")) where
 obj:=⟨_,0,ho,⟨rfl,rfl,rfl⟩,rfl⟩
 ent:=rfl
 tab:=⟨List.Pairwise.nil,rfl,rfl,.inl rfl,fun x hx=>(by cases hx),fun i h j hi=>(by simp at hi)⟩
 nd:=jP
 key:=fun p hp=>(by cases hp)
 led:=by
  show _∨(!w.params.followText "set-order")=true
  cases w.params.followText "set-order"
  ·exact .inr rfl
  ·exact .inl rfl
 room:=by show 0*5 < 7*3;decide
 few:=by show 0 < 64;decide
variable {fp wr:List Addr} {G:Array GenState→Array GenState→Prop} {n:Nat} {Pv:Nat→Value→Prop} {St:Nat→Shared→Prop} {R:Result→Shared→Prop} {I:Addr}
theorem gN (W:WalksS P w A.in1 I fp wr G n Pv St) (S:Addr) (hSf:S∉fp) (ks:List Mem) (hn:n=ks.length) (hfew:n < 64) (hval:∀ i v,Pv i v→∃ p,ks[i]?=some p∧v=.ref p.1)
    (h0:Heap) (hk:∀ p∈ks,IsK P w h0 p.2 p.1) (hS0:h0.get? S=none) (hw0:∀ b∈wr,h0.get? b=none) (hu:(nestedKind P w).room A.in1) :
    ∀ (k i:Nat) (s:Shared),n - i=k→i≤n→St i s→(∀ b o,h0.get? b=some o→s.heap.get? b=some o)→(∃ L es t,SetK P w s.heap S L es t∧Kept ks i L) →
      (∀ s' L es t,Moved (S::wr) G s s'→SetK P w s'.heap S L es t→Kept ks n L→(∀ b o,h0.get? b=some o→s'.heap.get? b=some o)→R (.ok (.ret .none)) s') →
      codeAny (model P w) A (.builtin "set.update.loop" ⟨[.ref S,.ref I],[]⟩) R s:=by
  have hSw:S∉wr:=fun h=>hSf (W.sub _ h)
  have still:∀ {s s':Shared},Moved wr G s s'→(∀ b o,h0.get? b=some o→s.heap.get? b=some o)→∀ b o,h0.get? b=some o→s'.heap.get? b=some o:=fun hm q b o e=>
    hm.heap b o (fun hb=>by rw [hw0 b hb] at e;cases e) (q b o e)
  have carry:∀ {i:Nat} {s s':Shared} {L:List Mem} {es:Array (Int×Value)} {t:SetTable},Moved wr G s s'→(∀ b o,h0.get? b=some o→s'.heap.get? b=some o)→SetK P w s.heap S L es t→Kept ks i L→SetK P w s'.heap S L es t:=fun hm q r g=>
    r.move (fun o e=>hm.heap S o hSw e) fun p hp=>aO (hk p (List.mem_of_mem_take (g.of p hp))) q
  intro k
  induction k with
  | zero=>
    intro i s hki hi hst hq ⟨L,es,t,hS,g⟩ hR
    have e:i=n:=by omega
    subst e
    refine codeAny_builtin F.entry_set_update_loop ?_
    rw [Around.under_plainId F.plain_set_update_loop _]
    show wpAny _ A.in1 (pyNext (.ref I) >>= _) _ _ s
    refine wpAny_bind (W.done s _ _ hst fun s' hm=>?_)
    show wpAny _ A.in1 (ret Value.none) _ _ s'
    have q':=still hm hq
    exact wpAny_pure (hR s' L es t (hm.mono fun b hb=>gz _ hb) (carry hm q' hS g) g q')
  | succ k ih=>
    intro i s hki hi hst hq ⟨L,es,t,hS,g⟩ hR
    refine codeAny_builtin F.entry_set_update_loop ?_
    rw [Around.under_plainId F.plain_set_update_loop _]
    show wpAny _ A.in1 (pyNext (.ref I) >>= _) _ _ s
    refine wpAny_bind (W.item i s _ _ (by omega) hst fun v s' hP hst' hm=>?_)
    obtain ⟨p,hp,rfl⟩:=hval i v hP
    have q':=still hm hq
    have hx:IsK P w s'.heap p.2 p.1:=aO (hk p (iM hp)) q'
    show wpAny _ A.in1 (holding [Value.ref p.1] (setAdd S (.ref p.1)) >>= _) _ _ s'
    refine wpAny_bind (wpAny_holding ?_)
    unfold setAdd
    refine wpAny_holding (wpAny_bind ((nestedKind P w).pyHash hu hx ?_))
    have hS1:=carry hm q' hS g
    refine cg (s:={ s' with toks:=s'.toks+(nestedKind P w).draws p.2 }) hS1 hx hu (by have:=g.le;omega) fun b h' L' es' t' hsb hS2 c1 c2=>?_
    have q2:∀ b o,h0.get? b=some o→h'.get? b=some o:=fun b o e=>(hsb.2 b (fun z=>by rw [z,hS0] at e;cases e)).trans (q' b o e)
    refine wpAny_pure ⟨plainId_quiet F.plain_set_update_loop _,ih (i+1) _ (by omega) (by omega) (W.frame _ s' _ _ hst' (Nat.le_add_right _ _) fun b hb o e=>?_) q2 ⟨L',es',t',hS2,g.next hp c1 c2⟩ fun s'' L2 es2 t2 hm2 hS3 g3 q3=>?_⟩
    · rw [hsb.2 b (fun h:b=S=>hSf (by rw [← h];exact hb))];exact e
    · refine hR s'' L2 es2 t2 (Moved.trans W.gtrans ((hm.mono fun b hb=>gz _ hb).then_heap (Nat.le_add_right _ _) fun b o hb e=>?_) hm2) hS3 g3 q3
      rw [hsb.2 b (fun h:b=S=>hb (by rw [h];exact gu))];exact e
theorem Yo {l:Addr} {items:Array Value} (ks:List Mem) {Q:Value→Shared→Prop} (hh:A.handled=none) (hl:s.heap.IsList l items) (hit:items.toList=ks.map fun p=>Value.ref p.1)
    (hk:∀ p∈ks,IsK P w s.heap p.2 p.1) (hfew:ks.length < 64) (hu:A.units+60 < cLine)
    (h:∀ (h':Heap) (tk:Nat) L es t,SetK P w h' s.heap.objs.size L es t→Kept ks ks.length L→(∀ b o,s.heap.get? b=some o→h'.get? b=some o)→Q (.ref s.heap.objs.size) { s with heap:=h',toks:=tk }) :
    wpAny (model P w) A (call (.type "set") [.ref l]) Q E s:=by
  have hisz:items.size=ks.length:=by
    rw [← iU,hit,gy]
  obtain ⟨c,tl,hmro⟩:=PySem.F.called_set.mro
  have hmade:=PySem.F.called_set.made
  have hsub:=PySem.F.called_set.sub
  refine wpAny_call (codeAny_of_tree ?_)
  show wpAny _ _ (callAny (.type "set") _) _ _ _
  refine wpAny_pure ⟨Code.quiet_builtin _ (by decide +kernel),codeAny_builtin PySem.F.entry_type_call ?_⟩
  rw [Around.under_plain (weight_type_call_type "set" [.ref l] []) rfl]
  have h1:=PySem.F.called_set.notType
  have h2:=PySem.F.called_set.canCreate
  have hct:=PySem.F.typeCall_set_1 (.ref l)
  repeat (any_goals (first | assumption | wp_step))
  generalize hled:(!w.params.followText "set-order")=led
  refine codeAny_mono (L2.code_set_led1 (.ref l) (E:=E) (Q₁:=fun obj s₁=>obj=.ref s.heap.objs.size∧s₁={ s with heap:=s.heap.push { cls:=.type "set",dict:=none,data:=.set #[] 0 (.fresh 0 0 led) } }) ⟨rfl,by rw [hled]⟩) fun r s₁ hr=>?_
  cases r with
  | error e=>exact hr
  | ok fl=>
    cases fl with
    | ret obj=>
      obtain ⟨rfl,rfl⟩:=hr
      have hS:(s.heap.push { cls:=.type "set",dict:=none,data:=.set #[] 0 (.fresh 0 0 led) }).get? s.heap.objs.size=some { cls:=.type "set",dict:=none,data:=.set #[] 0 (.fresh 0 0 led) }:=Heap.get?_push_size _ rfl
      have hT:Shared.TypeIs { s with heap:=s.heap.push { cls:=.type "set",dict:=none,data:=.set #[] 0 (.fresh 0 0 led) } } (.ref s.heap.objs.size) "set":=⟨_,hS,rfl⟩
      have hli:=PySem.F.called_set.init.lookup
      have hbi:=PySem.F.called_set.init.bind (.ref s.heap.objs.size)
      repeat (any_goals (first | assumption | wp_step))
      refine codeAny_mono (codeAny_call_builtin (R:=wants (fun r s₂=>r=.none∧∃ h' tk L es t,s₂={ s with heap:=h',toks:=tk }∧SetK P w h' s.heap.objs.size L es t∧Kept ks ks.length L ∧
          (∀ b o,s.heap.get? b=some o→h'.get? b=some o)) E) PySem.F.called_set.init.plain PySem.F.entry_set_init (check_set_init_1 hT ?_)) fun r₂ s₂ hr₂=>?_
      · obtain ⟨ol,hol,hcl,nl,hdl⟩:=hl
        obtain ⟨ocls,odict,odata,oslots⟩:=ol
        simp only at hcl hdl
        subst hcl;subst hdl
        have hol':(s.heap.push { cls:=.type "set",dict:=none,data:=.set #[] 0 (.fresh 0 0 led) }).get? l=some { cls:=.type "list",dict:=odict,data:=.seq items nl,slots:=oslots }:=Heap.get?_push_of_some _ hol
        have hsls:=PySem.F.sub_list_set
        have hslf:=PySem.F.sub_list_frozenset
        have hne:(Value.type "list" == Value.type "dict")=false:=by decide
        have hl1:(s.heap.push { cls:=.type "set",dict:=none,data:=.set #[] 0 (.fresh 0 0 led) }).IsList l items:=⟨_,hol',rfl,nl,rfl⟩
        unfold Builtin.«set.__init__» noKeywords Builtin.Frozenset.updateFrom
        generalize hPI:pyIter=PI
        wp_walk
        subst hPI
        refine wpAny_pyIter_list hl1 ?_
        refine wpAny_bind (wpAny_runValue ?_)
        have hlS:l < s.heap.objs.size:=Heap.lt_size hol
        have hh3:A.in1.in1.in1.handled=none:=by simp [hh]
        have hneI:l≠(s.heap.push { cls:=.type "set",dict:=none,data:=.set #[] 0 (.fresh 0 0 led) }).objs.size:=by
          rw [Heap.size_push];exact Nat.ne_of_lt (Nat.lt_succ_of_lt hlS)
        have hSf:s.heap.objs.size∉[(s.heap.push { cls:=.type "set",dict:=none,data:=.set #[] 0 (.fresh 0 0 led) }).objs.size,l]:=by
          rw [Heap.size_push];simp only [hZ,i6,jH,or_false,not_or]
          exact ⟨Nat.ne_of_lt (Nat.lt_succ_self _),Nat.ne_of_gt hlS⟩
        have hval:∀ (i:Nat) (v:Value),items[i]?=some v→∃ p,ks[i]?=some p∧v=.ref p.1:=fun i v hv=>by
          rw [← iW,hit,iB] at hv
          obtain ⟨p,hp,e⟩:=ia.mp hv
          exact ⟨p,hp,e.symm⟩
        have off:∀ b,s.heap.objs.size≤b→s.heap.get? b=none:=fun b hb=>by
          cases q:s.heap.get? b with
          | none=>rfl
          | some o=>exact absurd (Heap.lt_size q) (Nat.not_lt.mpr hb)
        have hroom3:(nestedKind P w).room A.in1.in1.in1:=by
          have u3:A.in1.in1.in1.units=A.units+3:=rfl
          show A.in1.in1.in1.units+8 < cLine
          omega
        refine gN ((Walks.list hh3 _ l hneI items).toS) s.heap.objs.size
          hSf ks hisz (by rw [hisz];exact hfew) hval s.heap hk (off _ (iA _)) (fun b hb=>off b (by rw [i6.mp hb,Heap.size_push];exact Nat.le_succ _)) hroom3 (items.size - 0) 0 _ (by omega) (iT _)
          ⟨⟨_,Heap.get?_push_size _ rfl,rfl,rfl⟩,(hl1.push _)⟩ (fun b o e=>Heap.get?_push_of_some _ (Heap.get?_push_of_some _ e)) ?hS0 ?hR
        case hS0=>
          have hget:((s.heap.push { cls:=.type "set",dict:=none,data:=.set #[] 0 (.fresh 0 0 led) }).push { cls:=.type "list_iterator",data:=.fields #[.ref l,.int 0 0] }).get? s.heap.objs.size
              = some { cls:=.type "set",dict:=none,data:=.set #[] 0 (.fresh 0 0 led) }:=Heap.get?_push_of_some _ hS
          rw [← hled] at hget ⊢
          exact ⟨[],#[],_,aP hget,⟨fun p hp=>(by cases hp),fun p hp=>(by simp at hp),iA _⟩⟩
        case hR=>
          intro s' L es t hm hS' g' q'
          obtain ⟨h',g2,d',tk',os'⟩:=s'
          have eg:g2=s.gens:=hm.gens
          have ed:d'=s.drawn:=hm.drawn
          have eo:os'=s.os:=hm.os
          subst eg;subst ed;subst eo
          show wpAny _ _ _ _ _ _
          refine wpAny_pure ?_
          show wpAny _ _ (ret Value.none) _ _ _
          rw [hisz] at g'
          exact wpAny_pure ⟨rfl,h',tk',L,es,t,rfl,hS',g',q'⟩
      · cases r₂ with
        | error e=>exact hr₂
        | ok fl₂=>
          cases fl₂ with
          | ret r=>
            obtain ⟨rfl,h',tk,L,es,t,rfl,hS',g',hk'⟩:=hr₂
            repeat (any_goals (first | assumption | wp_step))
            exact h _ _ _ _ _ hS' g' hk'
          | _=>exact hr₂.elim
    | _=>exact hr.elim
end
end TL
end
section
namespace TL
open PySem PySem.Spec L2 PyProof.Rows
theorem Wv {α β:Type} {f:α→β} {vs ws:List β} (p:vs.Perm ws):∀ L:List α,ws=L.map f→∃ L1:List α,L1.Perm L∧vs=L1.map f:=by
 induction p with
 | nil=>
  intro L e
  cases L with
  | nil=>exact ⟨[],.nil,rfl⟩
  | cons a L=>cases e
 | cons x p ih=>
  intro L e
  cases L with
  | nil=>cases e
  | cons a L=>
   rw [hG] at e
   obtain ⟨e1,e2⟩:=List.cons.inj e
   obtain ⟨L1,p1,e3⟩:=ih L e2
   exact ⟨a::L1,p1.cons a,by rw [hG,e1,e3]⟩
 | swap x y l=>
  intro L e
  cases L with
  | nil=>cases e
  | cons a L=>
   cases L with
   | nil=>cases e
   | cons b L=>
    rw [hG,hG] at e
    obtain ⟨e1,e2⟩:=List.cons.inj e
    obtain ⟨e3,e4⟩:=List.cons.inj e2
    exact ⟨b::a::L,.swap a b L,by rw [hG,hG,e1,e3,e4]⟩
 | trans p q ih1 ih2=>
  intro L e
  obtain ⟨L2,p2,e2⟩:=ih2 L e
  obtain ⟨L1,p1,e1⟩:=ih1 L2 e2
  exact ⟨L1,p1.trans p2,e1⟩
abbrev refsOf (L:List Mem):List V:=L.map fun p=>V.ref p.1
abbrev Ft (L:List Mem):List PyData:=L.map fun p=>p.2.data
def Q1 (L:List Mem):List V:=(((refsOf L).zip (Ft L)).mergeSort (PySem.W.dataLe false Prod.snd)).map Prod.fst
def Q2 (K:jf) (ta:TE):TE:=fun σ H Q=>ta σ H fun x H1=>∃ (l:Addr) (ks:List Mem),x=.ref l∧SqL K H1 l (refsOf ks)∧(∀ p∈ks,Dp K H1 (.ref p.1) p.2.data∧p.2.depth≤8)∧ks.length < 64 ∧
 (∀ L:List Mem,(∀ p∈L,p∈ks)→PySem.W.AllAlike (Ft L)∧PySem.W.Sortable (Ft L)∧∀ p∈L,p.2.data.depth < 60) ∧
 ∀ L:List Mem,(∀ p∈L,p∈ks)→(∀ p∈ks,p.2∈L.map Prod.snd)→(L.map Prod.snd).Nodup→∀ p,H1 p=none→Q (.ref p) (upd H1 p (.lst (Q1 L)))
section
variable {X:Cx} {pins:List (Addr×Obj)} {σ:L2.St} {H:Hp} {s:Shared}
theorem OC:∀ L:List Mem,Vals (refsOf L) (L.map fun p=>Value.ref p.1)
 | []=>.nil
 | e::L=>.cons rfl (OC L)
theorem So:∀ {L:List Mem} {us:List Value},Vals (refsOf L) us→us=L.map fun p=>Value.ref p.1
 | [],_,.nil=>rfl
 | p::L,_,.cons r t=>by
  cases r
  rw [So t]
  rfl
theorem aQ {K:jf}:∀ {L:List Mem},(∀ p∈L,Dp K H (.ref p.1) p.2.data)→DpAll K H (refsOf L) (Ft L)
 | [],_=>.nil
 | e::L,h=>.cons (h e gu) (aQ fun x hx=>h x (gz _ hx))
open PySem.W PySem.Calls in
theorem VJ (I0:Inv X pins σ H s) (hc:X.calm=true) (hu:X.A.units+64 < cLine) {a:Addr} {L:List Mem} {es:Array (Int×Value)} {t:SetTable} (R:SetK X.prog X.w s.heap a L es t) (hd0:∀ p∈L,Dp X.K H (.ref p.1) p.2.data)
    (ok:∀ L1:List Mem,L1.Perm L→AllAlike (Ft L1)∧Sortable (Ft L1)∧∀ p∈L1,p.2.data.depth < 60) {Q:VK} (q:∀ L1:List Mem,L1.Perm L→∀ p,H p=none→Q (.ref p) (upd H p (.lst (Q1 L1)))) {E:Value→Shared→Prop} :
    wpAny (model X.prog X.w) X.A (call (.builtin "sorted") [.ref a]) (L2.EP X pins σ Q) E s:=by
  obtain ⟨o,ep,ho,hex,hdt⟩:=R.obj
  refine call_function_entry kind_sorted plain_sorted entry_sorted (args_sorted1 _) ?_
  unfold Builtin.«sorted»
  refine wpAny_bind (m:=checkCount "sorted" 1 1 _) (wpAny_pure ?_)
  refine wpAny_bind (collect_set (A:=X.A.in1) (I0.ok.hd hc) ⟨o,ho,hex.1,hdt⟩ R.fits (by rw [R.size];unfold scanBound;have:=R.few;omega) R.tab.ris R.led fun s1 out hkp hz hg hos pm=>?_)
  rw [R.ent] at pm
  have em:(Hv X.w L).map (·.2)=L.map fun p=>Value.ref p.1:=by
    unfold Hv
    rw [iJ]
    rfl
  rw [em] at pm
  obtain ⟨L1,p1,rfl⟩:=Wv pm L rfl
  obtain ⟨hal,hk,hdep⟩:=ok L1 p1
  have I1:Inv X pins σ H s1:=by
    have z:=I0.call (ch:=[]) (h':=s1.heap) (g':=s1.gens) (t':=s1.toks) (d':=s1.drawn) (H':=H) (Un.kept hkp) (I0.hok.kept hkp) (by rw [hg];exact I0.bare) (fun _ z=>nomatch z)
    obtain ⟨a1,a2,a3,a4,a5⟩:=s1
    have e5:a5=s.os:=hos
    subst e5
    exact z
  have few:L1.length < 64:=by rw [p1.length_eq];exact R.few
  have hL:(L1.map fun p=>Value.ref p.1).length≤sizeLine:=by rw [gy,sizeLine_eq];omega
  have rv:=OC L1
  have hd:=aQ (K:=X.K) (H:=H) (L:=L1) fun p hp=>hd0 p (p1.mem_iff.mp hp)
  generalize hvs:(L1.map fun p=>Value.ref p.1)=vs at hL rv ⊢
  refine wpAny_bind (wpAny_newList ?_ hL)
  have hoL:(s1.heap.push (seqObj "list" vs.toArray 0)).get? s1.heap.objs.size=some (seqObj "list" vs.toArray 0):=Heap.get?_push_size _ rfl
  show wpAny _ _ _ _ _ { s1 with heap:=s1.heap.push (seqObj "list" vs.toArray 0) }
  obtain ⟨hzz,hll⟩:=NM hd
  obtain ⟨e1,e2⟩:=Pp I1 hd rv
  have er':EachIs (fun u (b:V×PyData)=>∃ as,Reads (sortingHeap (s1.heap.push (seqObj "list" vs.toArray 0)) s1.heap.objs.size vs) u b.2 as) vs ((refsOf L1).zip (Ft L1)):=e2.mono fun _ _ ⟨as,r⟩=>⟨as,PyProof.Rows.Reads.keeps (fun b o hb=>sortingHeap_old (Nat.ne_of_lt (Heap.lt_size hb)) (Heap.get?_push_of_some _ hb)) r⟩
  have hal':AllAlike (((refsOf L1).zip (Ft L1)).map Prod.snd):=by rw [hzz];exact hal
  have hk':Sortable (((refsOf L1).zip (Ft L1)).map Prod.snd):=by rw [hzz];exact hk
  have hb:∀ d,d∈((refsOf L1).zip (Ft L1)).map Prod.snd→X.A.in1.in1.units+d.depth < cLine:=fun d m=>by
    rw [hzz] at m
    obtain ⟨x,hx,ed⟩:=hA.mp m
    have:=hdep x hx
    rw [ed] at this
    have u2:X.A.in1.in1.units=X.A.units+2:=rfl
    omega
  have z:=sortVals_data (R:=fun u (b:V×PyData)=>RelV b.1 u) (enc:=Prod.snd) false e1 er' hal'
  refine wpAny_bind (wpAny_holding (wpAny_call_entry slot_list_sort ⟨_,hoL,rfl⟩ entry_list_sort ?body (args_list_sort _)))
  case body=>
    refine list_sort_vals (s:={ s1 with heap:=s1.heap.push (seqObj "list" vs.toArray 0) }) hoL (SortsAt.data (s:={ s1 with heap:=sortingHeap (s1.heap.push (seqObj "list" vs.toArray 0)) s1.heap.objs.size vs }) (each_map (R:=fun v d=>∃ as,Reads (sortingHeap (s1.heap.push (seqObj "list" vs.toArray 0)) s1.heap.objs.size vs) v d as) Prod.snd er') hal' hk' hb) hL ⟨_,rfl,wpAny_pure ⟨_,rfl,?_⟩⟩
    obtain ⟨ep',he'⟩:=PyProof.Rows.sortedHeap_at (vs:=vs) (out:=(sortVals (dataKind (sortingHeap (s1.heap.push (seqObj "list" vs.toArray 0)) s1.heap.objs.size vs) (((refsOf L1).zip (Ft L1)).map Prod.snd)) false vs vs).toArray) hoL
    have hv:=NL z
    have hlen2:(Q1 L1).length≤sizeLine:=by
      unfold Q1
      rw [gy,List.length_mergeSort,List.length_zip,gy,gy,Nat.min_self,sizeLine_eq]
      omega
    refine ⟨.ref s1.heap.objs.size,upd H s1.heap.objs.size (.lst (Q1 L1)),I1.laid (t':=s1.toks) (fun b u e=>?_) (iA _) ⟨hlen2,_,ep',hv,he'⟩,rfl,q L1 p1 _ (I1.hok.fresh (iA _))⟩
    have hb':b < s1.heap.objs.size:=Heap.lt_size e
    show (PyProof.Rows.sortedHeap _ _ _ _).get? b=some u
    rw [PyProof.Rows.sortedHeap_old (Nat.ne_of_lt hb') (by rw [size_push'];exact Nat.lt_succ_of_lt hb')]
    exact Heap.get?_push_of_some _ e
end
section
variable {X:Cx} {a:Expr} {ta:TE} {p p2 q pos:Pos}
theorem Ww (hc:X.calm=true) (hu:X.A.units+64 < cLine) (hg:Gl X "sorted") (hm:X.mg "sorted"=none) (hg2:Gl X "set") (hm2:X.mg "set"=none) (ha:PE X a ta)
    (na:starEach [a] X.env=(false,eval a X.env)::starEach [] X.env:=by rfl):PE X (.Call (.Name "sorted" p) [.Call (.Name "set" p2) [a] [] q] [] pos) (Q2 X.K ta):=by
  refine ⟨fun pins s σ H Q I h=>?_⟩
  refine Call_ (ld_blt (u:=.builtin "sorted") I hg hm (by decide +kernel) ?_)
  refine PyProof.Rows.callWith_builtin1 (PyProof.Rows.args_cons ?_ rfl) rfl rfl
  refine Call_ (ld_blt I hg2 hm2 boot_set ?_)
  refine PyProof.Rows.callWith_type1 (PyProof.Rows.args_cons (thn (ha.run pins s σ H _ I h) fun v s1 ⟨x,H1,I1,r1,q1⟩=>PyProof.Rows.args_nil ?_) na) na rfl
  obtain ⟨l,ks,rfl,hq,hkd,hfew,hok,q1⟩:=q1
  cases r1
  obtain ⟨its,r,pl,hz⟩:=I1.list hq
  refine Yo ks (I1.ok.hd hc) pl.isList (by simpa using So r) (fun p hp=>key_is I1 (hkd p hp).1 (hkd p hp).2) hfew (by omega) fun h' tk L es t R g hk=>?_
  refine PyProof.Rows.args_nil ?_
  have I2:Inv X pins σ H1 { s1 with heap:=h',toks:=tk }:=I1.kept hk
  have sub:∀ p∈L,p∈ks:=fun p hp=>List.mem_of_mem_take (g.of p hp)
  have subP:∀ {L1:List Mem},L1.Perm L→∀ p∈L1,p∈ks:=fun pm p hp=>sub p (pm.mem_iff.mp hp)
  refine VJ I2 hc hu R (fun p hp=>(hkd p (sub p hp)).1) (fun L1 pm=>hok L1 (subP pm)) fun L1 pm=>q1 L1 (subP pm) (fun p hp=>?_) ((pm.map Prod.snd).nodup_iff.mpr R.nd)
  have z:=g.all p (by rw [List.take_length];exact hp)
  exact (pm.map Prod.snd).mem_iff.mpr z
end
end TL
end
section
namespace TL
open PySem PySem.Spec L2
def AntE {β:Type} (e:β→PyData):Prop:=∀ x y,PySem.W.dataLt (e x) (e y)=false→PySem.W.dataLt (e y) (e x)=false→x=y
theorem e7:AntE eS:=fun x y h1 h2=>by
 unfold eS at h1 h2
 rw [PySem.W.dataLt_str,decide_eq_false_iff_not] at h1 h2
 have e:x.s.cps.toList=y.s.cps.toList:=List.le_antisymm h2 h1
 refine Tx.ext' ?_
 have e2:x.s.cps=y.s.cps:=Array.toList_inj.mp e
 generalize x.s=a at e2
 generalize y.s=b at e2
 cases a
 cases b
 cases e2
 rfl
theorem gO {α β:Type} {f:α→PyData} {g:β→PyData} {n m i j:Nat} (hf:AntE f) (hg:AntE g) (sf:SoD f n) (sg:SoD g m) (ef:Enc f i) (eg:Enc g j):AntE (e2 f g):=fun x y h1 h2=>by
 unfold e2 at h1 h2
 rw [PySem.W.dataLt_pair (sf.alk _ _) (sg.alk _ _)] at h1 h2
 by_cases c:x.1=y.1
 ·rw [if_pos ((ef.inj _ _).mpr c)] at h1
  rw [if_pos ((ef.inj _ _).mpr c.symm)] at h2
  by_cases d:x.2=y.2
  ·exact Prod.ext c d
  ·rw [if_neg fun z=>d ((eg.inj _ _).mp z)] at h1
   rw [if_neg fun z=>d ((eg.inj _ _).mp z).symm] at h2
   exact absurd (hg _ _ h1 h2) d
 ·rw [if_neg fun z=>c ((ef.inj _ _).mp z)] at h1
  rw [if_neg fun z=>c ((ef.inj _ _).mp z).symm] at h2
  exact absurd (hf _ _ h1 h2) c
noncomputable def uniq {α:Type} (xs:List α):List α:=by
 classical exact xs.foldr (fun x acc=>if x∈acc then acc else x::acc) []
theorem Yp {α:Type}:∀ (xs:List α) (x:α),x∈uniq xs↔x∈xs:=by
 classical
 intro xs
 induction xs with
 | nil=>intro x;simp [uniq]
 | cons a xs ih=>
  intro x
  have e:uniq (a::xs)=if a∈uniq xs then uniq xs else a::uniq xs:=rfl
  rw [e]
  split
  ·rename_i h
   rw [ih,hZ]
   refine ⟨fun z=>.inr z,fun z=>?_⟩
   rcases z with q | q
   ·rw [q];exact (ih a).mp h
   ·exact q
  ·rw [hZ,ih,hZ]
theorem Q3 {α:Type} {x:α} {xs:List α}:x∈uniq xs↔x∈xs:=Yp xs x
theorem Ld {α:Type}:∀ xs:List α,(uniq xs).Nodup:=by
 classical
 intro xs
 induction xs with
 | nil=>simp [uniq]
 | cons a xs ih=>
  have e:uniq (a::xs)=if a∈uniq xs then uniq xs else a::uniq xs:=rfl
  rw [e]
  split
  ·exact ih
  ·rename_i h
   exact iK.mpr ⟨h,ih⟩
open PySem.W PyProof.Rows in
theorem Q4 {β:Type} (e:β→PyData) (xs:List β):(Cg e xs).Pairwise fun a b=>dataLt (e b) (e a)=false:=by
 have t:=PySem.W.sortLe_total (listOrd itemOrd) false fun b:β=>keyToks (e b)
 have pw:(Cg e xs).Pairwise fun a b=>dataLe false e a b=true:=List.pairwise_mergeSort (fun a b c h1 h2=>t.trans a b c h1 h2) (fun a b=>by rcases t.total a b with h | h <;> (show (_ || _)=true;rw [show _=true from h];simp)) xs
 refine pw.imp fun {a b} h=>?_
 have h':(!dataLt (e b) (e a))=true:=h
 simpa using h'
theorem EI {β:Type} (e:β→PyData) (xs:List β):(Cg e xs).Perm xs:=List.mergeSort_perm _ _
theorem aR {β:Type} {e:β→PyData} (an:AntE e) {xs ys:List β} (p:xs.Perm ys):Cg e xs=Cg e ys:=
 List.Perm.eq_of_pairwise (fun a b _ _ h1 h2=>an a b h2 h1) (Q4 e xs) (Q4 e ys) ((EI e xs).trans (p.trans (EI e ys).symm))
theorem aS {β:Type} {e:β→PyData} (an:AntE e) {xs ys:List β} (pw:xs.Pairwise fun a b=>PySem.W.dataLt (e b) (e a)=false) (p:xs.Perm ys):xs=Cg e ys:=
 List.Perm.eq_of_pairwise (fun a b _ _ h1 h2=>an a b h2 h1) pw (Q4 e ys) (p.trans (EI e ys).symm)
theorem OE {α:Type} {xs ys:List α} (h1:xs.Nodup) (h2:ys.Nodup) (h:∀ x,x∈xs↔x∈ys):xs.Perm ys:=(List.perm_ext_iff_of_nodup h1 h2).mpr h
section
variable {K:jf} {ε α β δ S κ:Type} {X:L2.St→XK} {De:ε→Own} {G:Sto} {Dd:S→Own} {s:S} {ta:TE} {k:KeyN κ} {Rk:κ→Ty} {n:Nat}
theorem e8 (hd:∀ x,Dat K (Rk x) (k.e x)) {F:Hp}:∀ {xs:List κ} {vs:List V},AllP F (xs.map Rk) vs→∃ ks:List Mem,vs=refsOf ks∧ks.map Prod.snd=xs.map k.f∧∀ p∈ks,∃ x∈xs,p.2=k.f x∧(Rk x).p (.ref p.1) F
 | [],_,h=>by cases h;exact ⟨[],rfl,rfl,fun p hp=>(by cases hp)⟩
 | x::xs,_,h=>by
  cases h with
  | @cons _ v _ vs h1 h2=>
   obtain ⟨ks,e1,e2,e3⟩:=e8 hd h2
   have hv:Dp K F _ (k.k.e x):=hd x _ F h1
   obtain ⟨ds,ed⟩:=k.tup x
   rw [ed] at hv
   obtain ⟨a,ws,ev,_,_⟩:=NC hv
   subst ev
   refine ⟨(a,k.f x)::ks,by rw [e1];rfl,by rw [hG,hG,e2],fun p hp=>?_⟩
   rcases hZ.mp hp with z | z
   ·subst z;exact ⟨x,gu,rfl,h1⟩
   ·obtain ⟨y,hy,q⟩:=e3 p z
    exact ⟨y,gz _ hy,q⟩
theorem aT {F:Hp} {xs:List κ}:∀ {L:List Mem},(∀ p∈L,∃ x∈xs,p.2=k.f x∧(Rk x).p (.ref p.1) F)→∃ ys:List κ,L.map Prod.snd=ys.map k.f∧(∀ y∈ys,y∈xs)∧AllP F (ys.map Rk) (refsOf L)
 | [],_=>⟨[],rfl,fun y hy=>(by cases hy),.nil⟩
 | p::L,h=>by
  obtain ⟨x,hx,e,r⟩:=h p gu
  obtain ⟨ys,e1,e2,e3⟩:=aT (L:=L) fun q hq=>h q (gz _ hq)
  exact ⟨x::ys,by rw [hG,hG,e1,e],fun y hy=>by
   rcases hZ.mp hy with z | z
   ·rw [z];exact hx
   ·exact e2 y z,.cons r e3⟩
theorem PM {L:List Mem} {ys:List κ} (h:L.map Prod.snd=ys.map k.f):Ft L=ys.map k.e:=by
 have e:Ft L=(L.map Prod.snd).map NestedKey.data:=by rw [iJ];rfl
 rw [e,h,iJ]
 exact jF fun y _=>k.k.he y
theorem Tg {R:α→Ty} {f:α→List κ} {Ma:(α→S→Res ε δ)→Res ε δ} (hd:∀ x,Dat K (Rk x) (k.e x)) (an:AntE k.e) (so:SoD k.e n) (hn:n < 60:=by decide)
    (hvL:∀ x s v H F,HS (Dd s) H F→(R x).p v F→∃ a vs,v=.ref a∧SqL K H a vs∧AllP F ((f x).map Rk) vs) (ha:EvC K X De ta G Dd s Ma R) :
    EvNC K X De (Q2 K ta) G Dd s (fun kk=>Ma fun a s1=>Res.bind (Res.grd ((f a).length < 64) (Cg k.e (uniq (f a)))) fun z=>kk z s1) (OLT Rk):=fun kk σ H F hs ss o r Q hm q qe=>
  ha _ σ H F hs ss o r _ hm (fun a s1 v H1 F1 t1 hs1 r1 hm1=>by
    obtain ⟨hl,hm2⟩:=Res.DE hm1
    obtain ⟨p,vs,rfl,h1,h2⟩:=hvL a s1 v H1 F1 hs1 r1
    obtain ⟨ks,rfl,e2,e3⟩:=e8 hd h2
    have hlen:ks.length=(f a).length:=by
      have z:=congrArg List.length e2
      rwa [gy,gy] at z
    have sl:=aM so
    refine ⟨p,ks,rfl,h1,fun q hq=>?_,by omega,fun L hL=>?_,fun L hL hall hnd u hu=>?_⟩
    · obtain ⟨x,_,e,rx⟩:=e3 q hq
      refine ⟨?_,?_⟩
      · rw [e,k.k.he]
        exact HK hs1.sub _ _ (hd _ _ _ rx)
      · rw [e];exact iH (k.k.dep _) k.le
    · obtain ⟨ys,y1,y2,y3⟩:=aT (k:=k) fun q hq=>e3 q (hL q hq)
      refine ⟨by rw [PM y1];exact PySem.W.AllAlike.of so.alk,by rw [PM y1];exact sl.srt _ trivial,fun q hq=>?_⟩
      have hm':q.2.data∈Ft L:=iD hq
      rw [PM y1] at hm'
      obtain ⟨y,_,ey⟩:=hA.mp hm'
      rw [← ey]
      have:=so.dep y
      omega
    · obtain ⟨ys,y1,y2,y3⟩:=aT (k:=k) fun q hq=>e3 q (hL q hq)
      have nd:ys.Nodup:=by
        rw [y1] at hnd
        exact List.Pairwise.of_map k.f (fun a b hne e=>hne (congrArg k.f e)) hnd
      have hp:ys.Perm (uniq (f a)):=OE nd (Ld _) fun y=>by
        rw [Q3]
        refine ⟨y2 y,fun hy=>?_⟩
        have h1:k.f y∈ks.map Prod.snd:=by rw [e2];exact iD hy
        obtain ⟨q,hq,eq⟩:=hA.mp h1
        have h2:=hall q hq
        rw [eq,y1] at h2
        obtain ⟨z,hz,ez⟩:=hA.mp h2
        rw [← k.k.inj _ _ ez]
        exact hz
      have er:Q1 L=(((refsOf L).zip (ys.map k.e)).mergeSort (PySem.W.dataLe false Prod.snd)).map Prod.fst:=by
        unfold Q1
        rw [PM y1]
      rw [er]
      have ps:=Sk (e:=k.e) y3 (fun x v r=>hd x v F1 r) rfl
      have es:ys.mergeSort (PySem.W.dataLe false k.e)=Cg k.e (uniq (f a)):=aR an hp
      rw [es] at ps
      exact q _ s1 u _ F1 t1 (hs1.new hu ⟨_,rfl,ps⟩) hm2) qe
end
end TL
end
section
namespace Res
open Classical in
noncomputable def e9 {ε Ω α:Type} (y0:Ω) (e:ε) (m:Res Ω α):Res ε α:=match m with
 | .ok a=>.ok a
 | .err n y=>if y=y0 then .err n e else .stuck
 | .stuck=>.stuck
@[simp] theorem gP {ε Ω α:Type} (y0:Ω) (e:ε) (a:α):e9 y0 e (.ok a:Res Ω α)=.ok a:=rfl
@[simp] theorem fk {ε Ω α:Type} (y0:Ω) (e:ε) (n:PySem.Str):e9 y0 e (.err n y0:Res Ω α)=.err n e:=if_pos rfl
end Res
end
section
namespace TL
open PySem PySem.Spec L2
section
variable {K:jf} {ε ε' ρ α β γ δ S τ:Type} {De:ε→Own} {G G1 G2:Sto} {Dd:S→Own} {s:S} {te ta tb tc:TE} {tt tu:TT} {F0 F1:Hp} {E:Ends}
abbrev OLA (ad:γ→Addr) (ys:List γ):OTy:=OLT (fun y:γ=>Is (.ref (ad y))) ys
end
end TL
end
section
namespace TL
open PySem PySem.Spec L2
section
variable {K:jf} {ε ε' ρ α β γ δ S τ:Type} {X:L2.St→XK} {De:ε→Own} {G G1 G2:Sto} {Dd:S→Own} {s:S} {te ta tb tc:TE} {tt tu:TT} {F0 F1:Hp} {E:Ends} {C:Addr}
noncomputable def PN (ys:List γ) (y:γ):List γ:=by
 classical
 exact if h:∃ r,ys.Perm (y::r) then h.choose else []
theorem Th {ys:List γ} {y:γ} (h:y∈ys):ys.Perm (y::PN ys y):=by
 have e:∃ r,ys.Perm (y::r):=by
  obtain ⟨a,b,rfl⟩:=List.append_of_mem h
  exact ⟨a++b,List.perm_middle⟩
 unfold PN
 rw [dif_pos e]
 exact e.choose_spec
theorem aU {cells:γ→Own} {ys:List γ} {y:γ} (h:y∈ys):(ys.flatMap cells).Perm (cells y++(PN ys y).flatMap cells):=by
 have:=(Th h).flatMap_right cells
 rwa [jM] at this
def SegIn (cells:γ→Own) (ys:List γ) (D:Own):Prop:=∃ D',D.Perm (ys.flatMap cells++D')
theorem SegIn.cons {cells:γ→Own} {ys:List γ} {D:Own} {c:Addr×OTy} (h:SegIn cells ys D):SegIn cells ys (c::D):=by
 obtain ⟨D',p⟩:=h
 exact ⟨c::D',(p.cons c).trans List.perm_middle.symm⟩
noncomputable def segD {cells:γ→Own} {ys:List γ} {D:Own} (h:SegIn cells ys D) (y:γ):Own:=(PN ys y).flatMap cells++h.choose
theorem SegIn.at {cells:γ→Own} {ys:List γ} {D:Own} (h:SegIn cells ys D) {y:γ} (m:y∈ys):D.Perm (cells y++segD h y):=by
 refine h.choose_spec.trans ?_
 unfold segD
 rw [← iL]
 exact (aU m).append_right _
theorem SegIn.mem {cells:γ→Own} {ys:List γ} {D:Own} (h:SegIn cells ys D) {y:γ} (m:y∈ys) {c:Addr×OTy} (hc:c∈cells y):c∈D:=(h.at m).mem_iff.mpr (iG _ hc)
def RdL (cells:γ→Own) (ad:γ→Addr) (ys:List γ) (D:Own) (a:Addr):Prop:=∃ D',D.Perm ((a,OLA ad ys)::D')∧SegIn cells ys D'
theorem RdL.cons {cells:γ→Own} {ad:γ→Addr} {ys:List γ} {D:Own} {a:Addr} {c:Addr×OTy} (h:RdL cells ad ys D a):RdL cells ad ys (c::D) a:=by
 obtain ⟨D',p,q⟩:=h
 exact ⟨c::D',(p.cons c).trans (List.Perm.swap _ _ _),q.cons⟩
theorem RdL.rd {cells:γ→Own} {ad:γ→Addr} {ys:List γ} {D:Own} {a:Addr} (h:RdL cells ad ys D a):RdC D a (OLA ad ys):=by
 obtain ⟨D',p,_⟩:=h
 exact j8 (p.mem_iff.mpr gu)
end
end TL
end
section
namespace TL
open PySem PySem.Spec L2 PyProof.Rows
def IsXD (ω:World) (H:Hp) (a:Addr):Prop:=∃ a' kvs,L2.Rd H a (XD ω a' kvs)
theorem cj {X:Cx} {pins:List (Addr×Obj)} {σ:L2.St} {H:Hp} {s:Shared} {a:Addr} (I:Inv X pins σ H s) (d:IsXD X.w H a) :
    s.TypeIs (.ref a) "dict"∧(∀ b,Value.ref a=.ref b→∃ ob,s.heap.get? b=some ob∧ob.dict=none)∧(a == sysModules)=false:=by
  obtain ⟨a',kvs,e⟩:=d
  obtain ⟨e0,c1,c2,c3,xs,c4,o,es,ep,c5,c6,c7,c8⟩:=VD (e.ok I.hok)
  subst e0
  refine ⟨⟨o,c5,c6.1⟩,fun b q=>?_,c2⟩
  cases q
  exact ⟨o,c5,c6.2.1⟩
def ItkH (d:Addr) (o:Obj) (ω:World) (a:Addr) (kvs:HKvs):It:=
 ⟨fun i H=>H d=some (.frz o (XD ω a kvs))∧i < kvs.length,fun i H x H'=>H'=H∧∃ e,kvs[i]?=some e∧x=.ref e.2.1,fun i H=>H d=some (.frz o (XD ω a kvs))∧kvs.length≤i⟩
theorem Wx {kvs:HKvs} {xs:List (NestedKey×Addr×Value)} (p:Paired PrH kvs xs):∀ {i:Nat} {e:NestedKey×Addr×V},kvs[i]?=some e→∃ q,xs[i]?=some q∧PrH e q:=by
 induction p with
 | nil=>intro i e h;simp at h
 | cons h _ ih=>
  intro i e he
  cases i with
  | zero=>simp at he;subst he;exact ⟨_,by simp,h⟩
  | succ i=>
   obtain ⟨q,h1,h2⟩:=ih (by simpa using he)
   exact ⟨q,by simpa using h1,h2⟩
section
variable {X:Cx} {pins:List (Addr×Obj)} {σ:L2.St} {H:Hp} {s:Shared} {d a:Addr} {o:Obj} {kvs:HKvs}
theorem Q5 (I:Inv X pins σ H s) (h:H d=some (.frz o (XD X.w a kvs))) :
    (d == sysModules)=false∧s.heap.get? d=some o∧o.ExactDict∧∃ (es:Array DictEntry) (ep:Nat),o.data=.dict es ep∧es.size=kvs.length ∧
      ∀ (i:Nat) (e:NestedKey×Addr×V),kvs[i]?=some e→∃ (en:DictEntry),es[i]?=some en∧en.key=.ref e.2.1:=by
  obtain ⟨hd,ok⟩:=I.hok d _ h
  obtain ⟨e0,c1,c2,c3,xs,c4,o',es,ep,c5,c6,c7,c8⟩:=VD ok
  subst e0
  rw [hd] at c5
  cases c5
  have hz:es.size=xs.length:=by rw [← iU,c8,gy]
  refine ⟨c2,hd,c6,es,ep,c7,by rw [hz];exact (Paired.length c4).symm,fun i e hi=>?_⟩
  obtain ⟨q,hq,e1,e2,_⟩:=Wx c4 hi
  have hx:es.toList[i]?=some ⟨q.1.hash X.w,.ref q.2.1,q.2.2⟩:=by rw [c8,iB,hq];rfl
  rw [iW] at hx
  exact ⟨_,hx,by rw [e2]⟩
end
theorem Wz {P:Program} {w:World} {K:jf} {tg:Expr} {d a:Addr} {o:Obj} {es:Array DictEntry} {ep:Nat} {kvs:HKvs} (it:Addr) (hod:o.data=.dict es ep):Turn P w K tg (ItkH d o w a kvs) [it] it (fun i h=>h.IsKeyIter it d i kvs.length ep) where
 mem:=by simp
 obj:=fun i h st b hb=>by
  have e:b=it:=by simpa using hb
  subst e
  obtain ⟨oi,e,c,dd⟩:=st
  exact ⟨oi,e,fun v z=>by rw [dd] at z;cases z⟩
 keep:=fun i h h' st k=>st.at fun oi e=>k it (by simp) oi e
 item:=by
  intro X hP hw hK hc i pins s σ H E I hf st hg
  subst hP hw hK
  obtain ⟨hd,hi⟩:=hg
  obtain ⟨f0,f1,f2,f3,f4,f5⟩:=hf it (by simp)
  obtain ⟨hs,hgd,hx,es',ep',hdt,hsz,ent⟩:=Q5 I hd
  obtain ⟨rfl,rfl⟩:=dict_ep hod hdt
  obtain ⟨e,hkv⟩:∃ p,kvs[i]?=some p:=⟨kvs[i],hJ hi⟩
  obtain ⟨en,hen,hkey⟩:=ent i e hkv
  refine next_key_item st hgd hdt hsz hen fun h' st' sb=>?_
  have I1:Inv X pins σ H { s with heap:=h' }:=I.turned (t':=s.toks) (fun b ob hb e=>(sb.2 b hb).trans e) f0 f1 f3 f4 f5
  obtain ⟨oi,e',c,dd⟩:=id st'
  exact ⟨en.key,rfl,go_of (s:={ s with heap:=h' }) e' c dd (by decide) ⟨.ref e.2.1,H,I1,hkey,⟨rfl,e,hkv,rfl⟩,st',fun b hb=>(hf b hb).1⟩⟩
 done:=by
  intro X hP hw hK hc i pins s σ H E I hf st hg
  subst hP hw hK
  obtain ⟨hd,hi⟩:=hg
  obtain ⟨f0,f1,f2,f3,f4,f5⟩:=hf it (by simp)
  obtain ⟨hs,hgd,hx,es',ep',hdt,hsz,ent⟩:=Q5 I hd
  obtain ⟨rfl,rfl⟩:=dict_ep hod hdt
  exact next_key_end (I.ok.hd hc) st hgd hdt hsz hi fun h' eb=>⟨rfl,I.turned (t':=s.toks) (fun b ob hb e=>eb b ob hb e) f0 f1 f3 f4 f5⟩
 self:=fun A i s Q E st h=>by
  refine wpAny_pyIter_slot st.typeIs F.slot_dict_keyiterator_iter (wpAny_call_entry F.slot_dict_keyiterator_iter st.typeIs F.entry_dict_keyiterator_iter ?_ (F.args_dict_keyiterator_iter_1 _))
  show wpAny _ _ (ret (.ref it)) _ _ s
  exact wpAny_pure ⟨_,rfl,"dict_keyiterator",_,st.typeIs,F.slot_dict_keyiterator_next.lookup,h⟩
def Lf (ω:World) (td:TE):TI:=fun σ H R=>td σ H fun x H1=>∃ d o a kvs,x=.ref d∧H1 d=some (.frz o (XD ω a kvs))∧R (ItkH d o ω a kvs) H1
theorem MX {X:Cx} {tg e:Expr} {td:TE} (he:PE X e td):PI X tg e (Lf X.w td):=by
 refine ⟨fun pins s σ H R I h=>?_⟩
 refine thn (he.run pins s σ H _ I h) fun u s1 ⟨x,H1,I1,rx,d,o,a,kvs,ex,hd,q⟩=>?_
 subst ex
 obtain rfl:u=Value.ref d:=rx
 obtain ⟨hs,hgd,hx,es,ep,hdt,hsz,ent⟩:=Q5 I1 hd
 refine iter_keys hs hgd hx hdt (pi_one (tk:=s1.toks) I1 _ (Wz _ hdt) ⟨_,Heap.get?_push_size _ rfl,rfl,?_⟩ q)
 rw [hsz] <;> rfl
def OZH {κ α:Type} (K:jf) (ω:World) (k:KeyN κ) (Rk:κ→Ty) (R:α→Ty) (m:List (κ×α)) (od:Obj) (a:Addr) (kvs:HKvs):OTy:=.fl (fun o F=>o=.frz od (XD ω a kvs)∧EntH K k Rk R F kvs m) (fun s ⟨e,h⟩=>⟨e,h.mono s⟩)
theorem VL {K:jf} {κ β:Type} {k:KeyN κ} {Rk:κ→Ty} {Rv:β→Ty} {F:Hp} {kvs:HKvs} {m:List (κ×β)} (h:EntH K k Rk Rv F kvs m):∀ {i:Nat} {z:κ×β},m[i]?=some z→∃ e,kvs[i]?=some e∧(Rk z.1).p (.ref e.2.1) F:=by
 induction h with
 | nil=>intro i z e;simp at e
 | cons g h _ ih=>
  intro i z e
  cases i with
  | zero=>simp at e;subst e;exact ⟨_,rfl,g⟩
  | succ i=>simpa using ih (by simpa using e)
def aV (a:Addr) (od:Obj) (u:HO) (E:Ends):Ends:=⟨fun σ' H'=>H' a=some (.frz od u)∧E.nx σ' (upd H' a u),fun v H'=>H' a=some (.frz od u)∧E.rt v (upd H' a u),fun σ' H'=>H' a=some (.frz od u)∧E.bk σ' (upd H' a u),fun σ' H'=>H' a=some (.frz od u)∧E.ct σ' (upd H' a u)⟩
section
variable {K:jf} {ω:World} {ε ε' ρ α β γ δ S τ τ' σt κ:Type} [DecidableEq κ] {X:L2.St→XK} {De:ε→Own} {G G1 G2:Sto} {D0:Own} {Dd:S→Own} {s:S} {te ta tb tc tx:TE} {tt tu:TT} {F0 F1:Hp} {E:Ends} {w:Wish K ε ρ} {t:TA} {n:Nat} {k:KeyN κ} {Rk:κ→Ty} {Rv:β→Ty} {R:α→Ty} {f:α→List (κ×β)} {Ma:(α→S→Res ε δ)→Res ε δ} {Mb:S→(κ→S→Res ε δ)→Res ε δ}
omit [DecidableEq κ] in
theorem VM {M:(List (κ×β)→S→Res ε δ)→Res ε δ} (h:EvC K X De te G Dd s M (DHT K ω k Rk Rv)):Ie K X De (Lf ω te) G Dd s (fun _=>True) (fun kk=>M fun m s1=>kk (m.map (·.1)) s1) Rk:=fun kk σ H F hs ss o r Q hm q qe=>
 h _ σ H F hs ss o r _ hm (fun m s1 v H1 F1 t1 hs1 ⟨a,a',od,kvs,h0,h1,h2⟩ hm1=>by
  refine ⟨a,od,a',kvs,h0,hs1.sub _ _ h1,q _ s1 _ H1 F1 t1 hs1 (fun D H2 F2 _ t2 hs2 i=>?_) hm1⟩
  have ho2:H2 a=some (.frz od (XD ω a' kvs)):=hs2.sub _ _ (t2 _ _ h1)
  refine ⟨fun R hR=>?_,fun hl=>⟨ho2,by rw [h2.len];simpa using hl⟩⟩
  rw [iB,iB] at hR
  cases q2:m[i]? with
  | none=>rw [q2] at hR;cases hR
  | some z=>
   rw [q2] at hR
   cases hR
   obtain ⟨e',hv,hr⟩:=VL h2 q2
   refine ⟨⟨ho2,(iF.mp hv).1⟩,fun x H' hy=>?_⟩
   obtain ⟨rfl,e2,h5,rfl⟩:=hy
   rw [hv] at h5
   cases h5
   exact ⟨F2,Same.refl _,hs2,(Rk z.1).mono t2 hr⟩) qe
omit [DecidableEq κ] in
theorem Je {m:List (κ×β)} {j:Nat} {a:Addr} {od:Obj} {a':Addr} {kvs:HKvs} (hp:Pt te G Dd a) (hk:∀ s,(Dd s)[j]?=some (a,OZH K ω k Rk Rv m od a' kvs)):Ie (β:=δ) K X De (Lf ω te) G Dd s (hasC a (OZH K ω k Rk Rv m od a' kvs)) (fun kk=>kk (m.map (·.1)) s) Rk:=fun kk σ H F hs ss o r Q hm q qe=>
 hp s σ H F hs ss _ (by
  obtain ⟨o1,ho,rfl,hx⟩:=hs.at (hk s)
  refine ⟨a,od,a',kvs,rfl,ho,q _ s _ H F (Same.refl _) hs (fun D H2 F2 c t2 hs2 i=>?_) hm⟩
  obtain ⟨_,o2,ho2,rfl,h2⟩:=hs2.own a _ c
  refine ⟨fun R hR=>?_,fun hl=>⟨ho2,by rw [h2.len];simpa using hl⟩⟩
  rw [iB,iB] at hR
  cases q2:m[i]? with
  | none=>rw [q2] at hR;cases hR
  | some z=>
   rw [q2] at hR
   cases hR
   obtain ⟨e',hv,hr⟩:=VL h2 q2
   refine ⟨⟨ho2,(iF.mp hv).1⟩,fun x H' hy=>?_⟩
   obtain ⟨rfl,e2,h5,rfl⟩:=hy
   rw [hv] at h5
   cases h5
   exact ⟨F2,Same.refl _,hs2,hr⟩)
omit [DecidableEq κ] in
theorem aW {m:List (κ×β)} {a:Addr} {j:Nat} {od:Obj} {a':Addr} {kvs:HKvs} (hk:∀ s,(Dd s)[j]?=some (a,OZH K ω k Rk Rv m od a' kvs)):DVh K ω Dd (fun _:Unit=>Is (.ref a)) (fun _=>m) k Rk Rv:=fun x s v H F hs r=>by
 obtain ⟨o,ho,rfl,h⟩:=hs.at (hk s)
 exact ⟨a,a',kvs,r,h,.inr ⟨od,ho⟩⟩
omit [DecidableEq κ] in
theorem Q6 {tb:TS} {m:List (κ×β)} {j:Nat} {a:Addr} (hk:D0[j]?=some (a,OHT K ω k Rk Rv m))
    (h:∀ od a' kvs,Go (tb (aV a od (XD ω a' kvs) E)) F0 G (D0.set j (a,OZH K ω k Rk Rv m od a' kvs))):Go (tLock tb E) F0 G D0:=fun σ H F t hs ss=>by
  obtain ⟨o1,ho,a',kvs,rfl,hx⟩:=hs.at hk
  refine ⟨a,XD ω a' kvs,ho,trivial,fun od=>?_⟩
  exact h od a' kvs σ _ F t (hs.put hk ⟨rfl,hx⟩) ss
omit [DecidableEq κ] in
theorem Lg {m:List (κ×β)} {j:Nat} {a:Addr} {od:Obj} {a':Addr} {kvs:HKvs} {D:Own} (hk:D[j]?=some (a,OZH K ω k Rk Rv m od a' kvs)) (h:Go E.nx F0 G (D.set j (a,OHT K ω k Rk Rv m))):Go (aV a od (XD ω a' kvs) E).nx F0 G D:=fun σ H F t hs ss=>by
 obtain ⟨o1,ho,rfl,hx⟩:=hs.at hk
 exact ⟨ho,h σ _ F t (hs.put hk ⟨a',kvs,rfl,hx⟩) ss⟩
end
end TL
end
section
namespace TL
open PySem PySem.Spec L2 PyProof.Rows
def aX (ω:World) (K:jf):List V→Hp→VK→Prop:=fun xs H Q=>∃ a a' kvs,xs=[V.ref a]∧L2.Rd H a (XD ω a' kvs)∧KyOk K H kvs∧Q (.int kvs.length) H
theorem X0 {X:Cx}:CallR X (.builtin "len") (aX X.w X.K):=by
 intro pins s σ H xs us Q I r h
 obtain ⟨a,a',kvs,rfl,ha,ky,q⟩:=h
 obtain ⟨u,rfl,ru⟩:=vals1 r
 cases ru
 obtain ⟨e0,c2,c3,_,ys,c4,c5⟩:=Ig I ha ky
 have hl:kvs.length=ys.length:=Paired.length c4
 refine call_len_dictH c2 c5 (by rw [← hl];rw [sizeLine_eq] at c3;omega) ?_
 rw [← hl]
 exact ⟨.int ((kvs.length:Nat):Int),H,I.tok _,⟨_,rfl⟩,q⟩
section
variable {K:jf} {ω:World} {ε α β δ S κ:Type} [DecidableEq κ] {X:L2.St→XK} {De:ε→Own} {G:Sto} {Dd:S→Own} {s:S} {ta:TE} {k:KeyN κ} {Rk:κ→Ty} {Rv:β→Ty} {R:α→Ty} {f:α→List (κ×β)} {Ma:(α→S→Res ε δ)→Res ε δ}
theorem aY (hd:∀ x,Dat K (Rk x) (k.e x)) (hv:DVh K ω Dd R f k Rk Rv) (ha:EvC K X De ta G Dd s Ma R):EvC K X De (tCB (aX ω K) (tCons ta tNil)) G Dd s (fun kk=>Ma fun a s1=>kk ((f a).length:Int) s1) (tD K eI):=by
 have h1:=A0 (β:=δ) ha fun _=>A2
 refine NJ h1 (g:=fun a=>((f a.1).length:Int)) fun a s2 vs H F hs r Q q=>?_
 obtain ⟨v,rfl,h1⟩:=Uj r
 obtain ⟨p,p',kvs,rfl,h2,h3⟩:=hv _ _ _ _ _ hs h1
 refine ⟨p,p',kvs,rfl,?_,h2.ky hd fun a o e=>hs.sub a o e,?_⟩
 ·rcases h3 with h3 | ⟨od,h3⟩
  ·exact .inl h3
  ·exact .inr ⟨od,h3⟩
 rw [h2.len]
 exact q _ H F (Same.refl _) hs (.int _)
end
end TL
end
section
namespace TL
open PySem PySem.Spec L2
theorem SegIn.rd {γ:Type} {cells:γ→Own} {ys:List γ} {D:Own} (sg:SegIn cells ys D) {y:γ} (m:y∈ys) {a:Addr} {O:OTy} (h:(a,O)∈cells y):RdC D a O:=j8 (sg.mem m h)
end TL
end
section
namespace TL
open PySem PySem.Spec PyProof.Rows
def MKey (h:Heap) (k:NestedKey) (v:Value):Prop:=NestedIs h k v∧k.depth≤8∧((∃ x,k=.text x)∨∃ ks,k=.tup ks)
abbrev MXs:=List (NestedKey×Value×Value)
def entM (w:World) (x:NestedKey×Value×Value):DictEntry:=⟨x.1.hash w,x.2.1,x.2.2⟩
theorem MKey.inj {h:Heap} {k k':NestedKey} {v:Value} (a:MKey h k v) (b:MKey h k' v):k=k':=NestedIs.inj _ _ _ a.1 b.1
section
variable {prog:Program} {w:World} {A:Around} {E:Value→Shared→Prop} {s:Shared} {k:NestedKey} {v:Value}
theorem MKey.hash (m:MKey s.heap k v) (hu:A.units+8 < cLine) {Q:Int→Shared→Prop} (h:Q (k.hash w) { s with toks:=s.toks+k.draws }):wpAny (model prog w) A (pyHash v) Q E s:=pyHash_key _ _ _ _ _ m.1 (by have:=m.2.1;omega) h
theorem MKey.quiet (m:MKey s.heap k v) {Q:Bool→Shared→Prop} (h:Q true s):wpAny (model prog w) A (eqIsQuiet 8 v) Q E s:=quiet_key k v 8 s m.1 m.2.1 A E Q h
end
end TL
namespace TL
open PySem PySem.Spec PyProof.Rows
section
variable {prog:Program} {w:World} {A:Around} {E:Value→Shared→Prop} {s:Shared} {k:NestedKey} {v r:Value} {d:Addr} {xs:MXs}
theorem MKey.keeps {h h':Heap} {o:Obj} {es ep} (m:MKey h k v) (ho:h.get? d=some o) (hd:o.data=.dict es ep) (hs:Heap.SameBut d h h'):MKey h' k v:=
 ⟨NestedIs.at (fun b ob vs n hb hc=>(hs.2 b fun e=>by
  subst e
  rw [ho] at hb
  cases hb
  rw [hd] at hc
  cases hc).trans hb) k _ m.1,m.2⟩
end
end TL
end
section
namespace TL
open PySem PySem.Spec L2 PyProof.Rows
abbrev MKvs:=List (NestedKey×V×V)
abbrev PrM (p:NestedKey×V×V) (q:NestedKey×Value×Value):Prop:=p.1=q.1∧RelV p.2.1 q.2.1∧RelV p.2.2 q.2.2
def aZ (k:NestedKey):Prop:=k.depth≤8∧((∃ x,k=.text x)∨∃ ks,k=.tup ks)
def DmOk (ω:World) (a:Addr) (kvs:MKvs) (h:Heap):Prop:=kvs.length≤sizeLine∧(kvs.map (·.1)).Nodup ∧
 ∃ xs:MXs,Paired PrM kvs xs∧∃ o es ep,h.get? a=some o∧o.ExactDict∧o.data=.dict es ep∧es.toList=xs.map (entM ω)
def XM (ω:World) (a:Addr) (kvs:MKvs):HO:=.ext (DmOk ω a kvs)
def KmOk (K:jf) (H:Hp) (kvs:MKvs):Prop:=∀ e∈kvs,Dp K H e.2.1 e.1.data∧aZ e.1
section
variable {X:Cx} {pins:List (Addr×Obj)} {σ:L2.St} {H:Hp} {s:Shared} {a b:Addr} {k:NestedKey} {kvs:MKvs} {x y:V} {u:Value}
def valX (kvs:MKvs) (k:NestedKey):Option V:=(kvs.find? fun e=>decide (e.1=k)).map (·.2.2)
def putX (kvs:MKvs) (k:NestedKey) (x v:V):MKvs:=if (kvs.any fun e=>decide (e.1=k))=true then kvs.map (fun e=>if e.1=k then (e.1,e.2.1,v) else e) else kvs++[(k,x,v)]
end
structure AtM (ω:World) (K:jf) (H:Hp) (x y:V) (a:Addr) (kvs:MKvs) (k:NestedKey):Prop where
 dict:x=.ref a
 rd:∃ a',Rd H a (XM ω a' kvs)
 ky:KmOk K H kvs
 key:Dp K H y k.data
 srt:aZ k
end TL
end
section
namespace TL
open PySem PySem.Spec L2 PyProof.Rows
structure KeyM (κ:Type) where
 f:κ→NestedKey
 inj:∀ a b,f a=f b→a=b
 e:κ→PyData
 he:∀ x,(f x).data=e x
 srt:∀ x,aZ (f x)
inductive EntM {κ α:Type} (K:jf) (k:KeyM κ) (Rk:κ→Ty) (R:α→Ty) (F:Hp):MKvs→List (κ×α)→Prop
 | nil:EntM K k Rk R F [] []
 | cons {x:κ} {y:V} {v:V} {d:α} {kvs:MKvs} {m:List (κ×α)}:(Rk x).p y F→(R d).p v F→EntM K k Rk R F kvs m→EntM K k Rk R F ((k.f x,y,v)::kvs) ((x,d)::m)
section
variable {K:jf} {κ α:Type} [DecidableEq κ] {k:KeyM κ} {Rk:κ→Ty} {R:α→Ty} {F F':Hp} {kvs:MKvs} {m:List (κ×α)}
omit [DecidableEq κ] in
theorem EntM.mono (h:EntM K k Rk R F kvs m) (s:Same F F'):EntM K k Rk R F' kvs m:=by
 induction h with
 | nil=>exact .nil
 | cons g h _ ih=>exact .cons ((Rk _).mono s g) ((R _).mono s h) ih
omit [DecidableEq κ] in
theorem EntM.len (h:EntM K k Rk R F kvs m):kvs.length=m.length:=by
 induction h with
 | nil=>rfl
 | cons _ _ _ ih=>simp [ih]
theorem EntM.get (h:EntM K k Rk R F kvs m) (x:κ):(dget m x=none∧valX kvs (k.f x)=none)∨∃ d v,dget m x=some d∧valX kvs (k.f x)=some v∧(R d).p v F:=by
 induction h with
 | nil=>exact .inl ⟨rfl,rfl⟩
 | @cons x' y v d kvs m hk hd _ ih=>
  by_cases e:x'=x
  ·subst e
   exact .inr ⟨d,v,by simp [dget],by simp [valX],hd⟩
  ·have e1:dget ((x',d)::m) x=dget m x:=by simp [dget,e]
   have e2:valX ((k.f x',y,v)::kvs) (k.f x)=valX kvs (k.f x):=by
    have e':¬ k.f x'=k.f x:=fun z=>e (k.inj _ _ z)
    simp [valX,e']
   rw [e1,e2]
   exact ih
theorem EntM.any (h:EntM K k Rk R F kvs m) (x:κ):(kvs.any fun e=>decide (e.1=k.f x))=(m.any fun e=>decide (e.1=x)):=by
 induction h with
 | nil=>rfl
 | @cons x' y v d kvs m _ _ _ ih=>
  rw [iu,iu,ih]
  congr 1
  by_cases e:x'=x
  ·subst e;simp
  ·have e':¬ k.f x'=k.f x:=fun z=>e (k.inj _ _ z)
   simp [e,e']
theorem EntM.put (h:EntM K k Rk R F kvs m) {x:κ} {y v:V} {d:α} (hk:(Rk x).p y F) (hd:(R d).p v F):EntM K k Rk R F (putX kvs (k.f x) y v) (dput m x d):=by
 unfold putX dput
 rw [h.any x]
 split
 ·rename_i hany
  clear hk hany
  induction h with
  | nil=>exact .nil
  | @cons x' y' v' d' kvs m g h _ ih=>
   rw [hG,hG]
   by_cases e:x'=x
   ·subst e
    rw [if_pos rfl,if_pos rfl]
    exact .cons g hd ih
   ·rw [if_neg (fun z=>e (k.inj _ _ z)),if_neg e]
    exact .cons g h ih
 ·rename_i hany
  clear hany
  induction h with
  | nil=>exact .cons hk hd .nil
  | cons g h _ ih=>exact .cons g h ih
end
end TL
end
section
namespace TL
open PySem PySem.Spec PyProof.Rows L2 RZ
structure Sq (prog:Program) (w:World) (it l:Addr) (xs:Array Value) where
 at_:Heap→Nat→Prop
 is_:Heap→Prop
 keep:∀ {h h':Heap} {c:Addr} {k:Nat},at_ h k→Heap.ExtBut c h h'→it≠c→at_ h' k
 stay:∀ {h h':Heap} {c:Addr},is_ h→Heap.ExtBut c h h'→l≠c→is_ h'
 next:∀ {A:Around} {E:Value→Shared→Prop} {s:Shared} {k:Nat} {x:Value} {Q:Value→Shared→Prop},at_ s.heap k→is_ s.heap→xs[k]?=some x →
  (∀ h',at_ h' (k+1)→Heap.SameBut it s.heap h'→Q x { s with heap:=h' })→wpAny (model prog w) A (Builtin.SmallTypes.nextOf (.ref it)) Q E s
 stop:∀ {A:Around} {E:Value→Shared→Prop} {s:Shared} {k:Nat} {Q:Value→Shared→Prop},A.handled=none→at_ s.heap k→is_ s.heap→xs[k]?=none →
  (∀ h' e,Heap.ExtBut it s.heap h'→(∃ o,h'.get? e=some o∧o.cls=.type "StopIteration")→E (.ref e) { s with heap:=h' })→wpAny (model prog w) A (Builtin.SmallTypes.nextOf (.ref it)) Q E s
def Sq.lst (prog:Program) (w:World) (it l:Addr) (xs:Array Value):Sq prog w it l xs where
 at_ h k:=h.IsListIter it l k
 is_ h:=h.IsList l xs
 keep a e n:=a.extBut e n
 stay a e n:=a.extBut e n
 next:=fun a b e q=>wpAny_nextOf_list_item a b e q
 stop:=fun hh a b e q=>wpAny_nextOf_list_end hh a b e q
def Sq.tup (prog:Program) (w:World) (it l:Addr) (xs:Array Value):Sq prog w it l xs where
 at_ h k:=h.IsTupleIter it l k
 is_ h:=h.IsTuple l xs
 keep a e n:=a.extBut e n
 stay a e n:=a.extBut e n
 next:=fun a b e q=>nextOf_tuple_item a b e q
 stop:=fun hh a b e q=>nextOf_tuple_end hh a b e q
end TL
end
section
namespace TL
open PySem PySem.Spec PyProof.Rows L2 RZ PySem.Calls
structure NewSrc (prog:Program) (w:World) (A:Around) (I S:Addr) (wr:List Addr) (n:Nat) (Rel:Nat→Value→Value→Prop) (St:Nat→Heap→Prop):Prop where
 off:S∉wr
 frame:∀ i h h',St i h→(∀ b o,b≠S→h.get? b=some o→h'.get? b=some o)→St i h'
 item:∀ i (s:Shared) (Q:Option Value→Shared→Prop) (E:Value→Shared→Prop),i < n→St i s.heap→S < s.heap.objs.size →
  (∀ k v h',Rel i k v→h'.get? s.heap.objs.size=some { cls:=.type "tuple",data:=.seq #[k,v] }→St (i+1) h'→(∀ b o,b∉wr→s.heap.get? b=some o→h'.get? b=some o)→Q (some (.ref s.heap.objs.size)) { s with heap:=h' })→wpAny (model prog w) A (pyNext (.ref I)) Q E s
 done:∀ (s:Shared) (Q:Option Value→Shared→Prop) (E:Value→Shared→Prop),St n s.heap →
  (∀ h',(∀ b o,b∉wr→s.heap.get? b=some o→h'.get? b=some o)→Q none { s with heap:=h' })→wpAny (model prog w) A (pyNext (.ref I)) Q E s
structure PrG (ps:List (Value×Value)) (lo:Addr) (h:Heap) (as:List Addr):Prop where
 rise:as.Pairwise (· < ·)
 above:∀ a∈as,lo < a
 pairs:∀ (j:Nat) (a:Addr),as[j]?=some a→∃ p,ps[j]?=some p∧h.get? a=some { cls:=.type "tuple",data:=.seq #[p.1,p.2] }
theorem PrG.there {ps:List (Value×Value)} {lo:Addr} {h:Heap} {as:List Addr} (g:PrG ps lo h as) {a:Addr} (ha:a∈as):a < h.objs.size:=by
 obtain ⟨j,hj⟩:=List.mem_iff_getElem?.mp ha
 obtain ⟨_,_,e⟩:=g.pairs j a hj
 exact Heap.lt_size e
end TL
end
section
namespace TL
open PySem PySem.Spec L2
@[reducible] def aa {ρ:Type} (a b:ρ):Bool→ρ
 | false=>a
 | true=>b
section
variable {K:jf} {ω:World} {κ β:Type} [DecidableEq κ] {k:KeyN κ} {Rk:κ→Ty} {Rv:β→Ty} {E:Ends}
omit [DecidableEq κ] in
theorem VN {m:List (κ×β)} {j:Nat} {a:Addr} {od:Obj} {a':Addr} {kvs:HKvs} {D:Own} {R:Ty} {F0:Hp} (hk:D[j]?=some (a,OZH K ω k Rk Rv m od a' kvs)) (h:GoV E.rt F0 R (D.set j (a,OHT K ω k Rk Rv m))):GoV (aV a od (XD ω a' kvs) E).rt F0 R D:=fun v H F s hs rv=>by
 obtain ⟨o1,ho,rfl,hx⟩:=hs.at hk
 exact ⟨ho,h v _ F s (hs.put hk ⟨a',kvs,rfl,hx⟩) rv⟩
end
open PyProof.Rows in
def Y7 (ω:World) (K:jf):V→List V→Hp→VK→Prop:=fun x vs H Q=>∃ a a' kvs,x=.ref a∧vs=[]∧H a=some (XD ω a' kvs)∧KyOk K H kvs∧Q .non (upd H a (XD ω a' []))
theorem Yq {X:Cx}:MtM X "dict.clear" (Y7 X.w X.K):=by
 intro pins s σ H x xs v us Q I0 rx rxs h
 obtain ⟨a,a',kvs,rfl,rfl,e,ky,q⟩:=h
 have ev:v=.ref a:=rx
 subst ev
 cases rxs
 obtain ⟨ea,c1,c2,c3,xs,c4,c5⟩:=Ig I0 (.inl e) ky
 subst ea
 have hz:xs.length≤sizeLine:=by rw [← Paired.length c4];exact c2
 refine clear_keyed (kvs:=pairsH xs) ⟨xs,c5,rfl⟩ (fun h' hd hsb=>?_) (by unfold pairsH;rw [gy];exact hz)
 obtain ⟨ys,hy,ep0⟩:=hd
 have y0:ys=[]:=by
  unfold pairsH at ep0
  exact List.map_eq_nil_iff.mp ep0
 subst y0
 obtain ⟨ob,es,ep,g1,g2,g3,g4,_⟩:=hy
 have nw:DhOk X.w a' [] h':=⟨iT _,c1,jP,[],.nil,ob,es,ep,g1,g2,g3,g4⟩
 exact ⟨.non,_,I0.write (x:=a') (e:=a') (by rw [e];exact True.intro) (.inl rfl) (fun c q hb z=>(hsb.2 c hb).trans z) ⟨ob,g1⟩ (Wo nw),rfl,q⟩
open PyProof.Rows in
def Ti (ω:World) (K:jf) (td:TE):TE:=fun σ H Q=>td σ H fun x H1=>∃ a0,x=.ref a0∧IsXD ω H1 a0∧Y7 ω K (.ref a0) [] H1 Q
open PyProof.Rows in
theorem Yr {X:Cx} {o:Expr} {td:TE} {apos cpos:Pos} (ho:PE X o td) (hb:attributeBase o "clear" X.env (eval o X.env)=eval o X.env:=by rfl) (hl:(apos.endLine == cpos.line)=true:=by rfl):PE X (.Call (.Attribute o "clear" apos) [] [] cpos) (Ti X.w X.K td):=by
 refine ⟨fun pins s σ H Q I h=>?_⟩
 refine wpAny_Call_method hb rfl hl PySem.F.plainAttrs_dict PySem.F.slot_dict_clear PySem.F.type_dict_clear (thn (ho.run pins s σ H _ I h) fun u s1 ⟨x,H1,I1,rx,a0,ex,d,q1⟩=>?_)
 subst ex
 obtain rfl:u=Value.ref a0:=rx
 obtain ⟨t1,t2,_⟩:=cj I1 d
 refine ⟨t1,t2,?_⟩
 refine Calls.callWith_builtin rfl ?_
 refine wpAny_pure ?_
 exact Yq pins s1 σ H1 (.ref a0) [] (.ref a0) [] Q I1 rfl .nil q1
section
variable {K:jf} {ω:World} {ε ε' ρ α β γ δ S κ:Type} [DecidableEq κ] {X:L2.St→XK} {G:Sto} {D0:Own} {F0:Hp} {E:Ends} {w:Wish K ε ρ} {n:Nat} {k:KeyN κ} {Rk:κ→Ty} {Rv:β→Ty}
omit [DecidableEq κ] in
theorem Ys (hd:∀ x,Dat K (Rk x) (k.e x)) {m0:List (κ×β)} {j:Nat} {a:Addr} {kk:List (κ×β)×Unit→Res ε ρ} (ho:G[n]?=some (some (Is (.ref a)))) (hk:D0[j]?=some (a,OHT K ω k Rk Rv m0))
    {m:Res ε ρ} (hP:w.W F0 m) (q:∀ x,w.W F0 (kk x)→Go E.nx F0 G (D0.set j (a,OHT K ω k Rk Rv x.1))) (hm:m=Res.bind (.ok ([],())) kk:=by exact rfl):Go (tDrop (Ti ω K (tVar n)) E) F0 G D0:=by subst hm;exact (fun σ H F t hs ss=>by
  obtain ⟨v0,e0,r0⟩:=ss.get ho
  have r0':v0=.ref a:=r0
  subst r0'
  obtain ⟨o1,ho1,a',kvs,rfl,hx⟩:=hs.at hk
  refine ⟨_,e0,a,rfl,⟨a',kvs,.inl ho1⟩,a,a',kvs,rfl,rfl,ho1,hx.ky hd hs.sub,?_⟩
  exact q ([],()) hP σ _ F t (hs.put (O':=OHT K ω k Rk Rv []) (o:=XD ω a' []) hk ⟨a',[],rfl,.nil⟩) ss)
end
def sNvr:TS:=fun _ _ _=>False
theorem fK {X:Cx} {st:Stmt}:PS X st sNvr:=⟨fun pins s σ H D I0 h=>h.elim⟩
end TL
end
section
namespace TL
open PySem PySem.Spec L2 PyProof.Rows
section
variable {prog:Program} {ω:World} {κ:Type} [DecidableEq κ] {knd:HeapKind prog ω κ} {A:Around} {E:Value→Shared→Prop} {s:Shared}
theorem OF {nm:String} {a b:Addr} {xa xb:List (κ×Addr×Value)} {r:Bool} {Q:Bool→Shared→Prop} (ha:(a == sysModules)=false) (hb:(b == sysModules)=false) (hu:knd.room A)
    (da:s.heap.DictOfH knd a xa) (db:s.heap.DictOfH knd b xb) (hits:xa.length=xb.length→PySem.W.KeqHits A s (pairsH xb) (pairsH xa) r) (q:Q (xa.length == xb.length && r) s) :
    wpAny (model prog ω) A (Builtin.Dict.samePairs nm a b) Q E s:=by
  obtain ⟨o1,e1,p1,g1,_,d1,l1,i1,n1⟩:=da
  obtain ⟨o2,e2,p2,g2,_,d2,l2,i2,n2⟩:=db
  have z1:e1.size=xa.length:=by rw [← iU,l1,gy]
  have z2:e2.size=xb.length:=by rw [← iU,l2,gy]
  rw [← z1,← z2] at q
  unfold Builtin.Dict.samePairs Builtin.Dict.showsAll
  rw [if_neg (by rw [ha];exact Bool.false_ne_true),if_neg (by rw [hb];exact Bool.false_ne_true)]
  refine wpAny_bind (wpAny_pure (wpAny_bind (wpAny_pure (wpAny_bind (wpAny_dictEntries g1 d1 ?_)))))
  dsimp only
  refine wpAny_bind (wpAny_dictEntries g2 d2 ?_)
  by_cases zz:e1.size=e2.size
  · have q':Q r s:=by simpa [zz] using q
    have hs:=hits (by rw [← z1,← z2];exact zz)
    rw [if_neg (by rw [zz];simp)]
    refine wpAny_bind (wpAny_dictEpoch g1 d1 (wpAny_bind ?_))
    rw [Std.Legacy.Range.forIn_eq_forIn_range']
    simp only [Std.Legacy.Range.size,Nat.sub_zero,Nat.add_sub_cancel,Nat.div_one]
    refine wpAny_forIn_list _ (fun left t s'=>s'=s∧t=(none,())∧∃ i,left=List.range' i (e1.size - i)∧i≤e1.size∧PySem.W.KeqHits A s (pairsH xb) ((pairsH xa).drop i) r) _ ?_ ?_ _ _ ⟨rfl,rfl,0,by simp,iT _,hs⟩
    · rintro x left t s' ⟨rfl,rfl,i,hr,hi,hpre⟩
      have lt:i < e1.size:=by
        refine Nat.lt_of_not_le fun h=>?_
        rw [Nat.sub_eq_zero_of_le h] at hr
        cases hr
      rw [show e1.size - i=(e1.size - (i+1))+1 by omega,List.range'_succ] at hr
      obtain ⟨rfl,hr2⟩:=List.cons.inj hr
      refine wpAny_bind (wpAny_dictEntries g1 d1 ?_)
      rw [jC lt]
      have lx:x < xa.length:=by rw [← z1];exact lt
      have ex:e1[x]=entryOfKey knd xa[x]:=by
        have t1:e1.toList[x]?=some e1[x]:=by rw [iW];exact jC lt
        rw [l1,iB,hJ lx] at t1
        exact (Option.some.inj t1).symm
      have dr:(pairsH xa).drop x=(xa[x].1,xa[x].2.2)::(pairsH xa).drop (x+1):=by
        have lp:x < (pairsH xa).length:=by rw [pairsH_length];exact lx
        rw [jB lp]
        congr 1
        simp [pairsH]
      rw [dr] at hpre
      show wpAny _ _ (holding [e1[x].key,e1[x].val] _ >>= _) _ _ _
      rw [ex]
      have nn:(∀ (j:Nat) (p:Addr×Value),xb[j]?≠some (xa[x].1,p))→valueAt (pairsH xb) xa[x].1=none:=fun h=>by
        rw [valueAt_pairsH,atKey_none_of_get h]
        rfl
      have ss:∀ (j:Nat) (p:Addr×Value),xb[j]?=some (xa[x].1,p)→valueAt (pairsH xb) xa[x].1=some p.2:=fun j p h=>by
        rw [valueAt_pairsH,atKey_of_get n2 h]
        rfl
      refine wpAny_bind (wpAny_holding (wpAny_bind (wpAny_dictFind_heap hu (i1 _ (List.getElem_mem lx)) g2 d2 l2 i2 n2 (fun h=>?_) (fun j p h=>?_))))
      · have v0:=nn h
        rcases hpre.inv with ⟨_,er⟩ | ⟨y,_,_,hy,_⟩
        · rw [er] at q'
          refine wpAny_pure ?_
          show wpAny _ _ (if (!false)=true then _ else _) _ _ _
          rw [if_pos (by decide)]
          exact wpAny_pure (wpAny_pure q')
        · rw [v0] at hy;exact nomatch hy
      · have v1:=ss j p h
        have lj:j < e2.size:=by
          rw [z2]
          exact (iF.mp h).1
        have ej:e2[j]?=some (entryOfKey knd (xa[x].1,p)):=by
          rw [← iW,l2,iB,h]
          rfl
        refine wpAny_bind (wpAny_dictEntries g2 d2 ?_)
        rw [ej]
        rcases hpre.inv with ⟨v0,_⟩ | ⟨y,e,b',hy,he,hrr,er⟩
        · rw [v1] at v0;exact nomatch v0
        · obtain rfl:=Option.some.inj (v1.symm.trans hy)
          refine wpAny_holding (he prog ω _ _ ?_)
          cases e with
          | false=>
            rw [er,Bool.false_and] at q'
            show wpAny _ _ (if (!false)=true then _ else _) _ _ _
            rw [if_pos (by decide)]
            exact wpAny_pure (wpAny_pure q')
          | true=>
            rw [Bool.true_and] at er
            rw [← er] at hrr
            show wpAny _ _ (if (!true)=true then _ else _) _ _ _
            rw [if_neg (by decide)]
            refine wpAny_bind (wpAny_dictEpoch g1 d1 ?_)
            rw [if_neg (by simp)]
            exact wpAny_pure ⟨rfl,rfl,x+1,hr2,lt,hrr⟩
    · rintro t s' ⟨rfl,rfl,i,hr,hi,hpre⟩
      have hin:i=e1.size:=by
        refine Nat.le_antisymm hi (Nat.le_of_not_lt fun h=>?_)
        rw [show e1.size - i=(e1.size - (i+1))+1 by omega,List.range'_succ] at hr
        exact nomatch hr
      refine wpAny_pure ?_
      rw [hin,z1,← pairsH_length,List.drop_length] at hpre
      cases hpre
      exact q'
  · rw [if_pos (by simpa using zz)]
    rw [show (e1.size == e2.size)=false by simpa using zz,Bool.false_and] at q
    exact wpAny_bind (wpAny_rule (wpAny_pure q))
theorem ab {a b:Addr} {xa xb:List (κ×Addr×Value)} {r:Bool} {Q:Value→Shared→Prop} (ha:(a == sysModules)=false) (hb:(b == sysModules)=false) (hk:knd.room A.in1)
    (da:s.heap.DictOfH knd a xa) (db:s.heap.DictOfH knd b xb) (hu:A.units < cLine) (hits:xa.length=xb.length→PySem.W.KeqHits A.in1 s (pairsH xb) (pairsH xa) r) (q:Q (.bool (xa.length == xb.length && r)) s) :
    wpAny (model prog ω) A (compareOp .Eq (.ref a) (.ref b)) Q E s:=by
  refine wpAny_richCompare_same_room (op:=.Eq) da.typeIs db.typeIs PySem.F.slot_dict_eq (wpAny_call_entry PySem.F.slot_dict_eq da.typeIs PySem.F.entry_dict_eq ?_ (PySem.F.args_dict_eq_2 _ _)) hu
  show wpAny _ _ (Builtin.Dict.dictSlotArgs "__eq__" ⟨[.ref a,.ref b],[]⟩ >>= _) _ _ s
  refine wpAny_bind (?_:wpAny _ _ (Builtin.Dict.dictSlotArgs "__eq__" ⟨[.ref a,.ref b],[]⟩) _ _ s)
  unfold Builtin.Dict.dictSlotArgs
  refine wpAny_bind (wpAny_notOrdered_dict da.typeIs ?_)
  refine wpAny_pure (wpAny_bind (wpAny_isInstance (T:="dict") db.typeIs PySem.F.sub_dict_dict ?_))
  simp only [Bool.not_true,Bool.false_eq_true,if_false]
  refine wpAny_bind (wpAny_pure (wpAny_bind (wpAny_pure (wpAny_bind (OF ha hb hk da db hits (wpAny_pure ⟨_,rfl,?_,?_⟩))))))
  · exact nofun
  · simpa using q
theorem ae {a b:Addr} {xa xb:List (κ×Addr×Value)} {r:Bool} {Q:Value→Shared→Prop} (ha:(a == sysModules)=false) (hb:(b == sysModules)=false) (hk:knd.room A.in1)
    (da:s.heap.DictOfH knd a xa) (db:s.heap.DictOfH knd b xb) (hu:A.units < cLine) (hits:xa.length=xb.length→PySem.W.KeqHits A.in1 s (pairsH xb) (pairsH xa) r) (q:Q (.bool (!(xa.length == xb.length && r))) s) :
    wpAny (model prog ω) A (compareOp .NotEq (.ref a) (.ref b)) Q E s:=by
  refine wpAny_richCompare_same_room (op:=.NotEq) da.typeIs db.typeIs PySem.F.slot_dict_ne (wpAny_call_entry PySem.F.slot_dict_ne da.typeIs PySem.F.entry_dict_ne ?_ (PySem.F.args_dict_ne_2 _ _)) hu
  show wpAny _ _ (Builtin.Dict.dictSlotArgs "__ne__" ⟨[.ref a,.ref b],[]⟩ >>= _) _ _ s
  refine wpAny_bind (?_:wpAny _ _ (Builtin.Dict.dictSlotArgs "__ne__" ⟨[.ref a,.ref b],[]⟩) _ _ s)
  unfold Builtin.Dict.dictSlotArgs
  refine wpAny_bind (wpAny_notOrdered_dict da.typeIs ?_)
  refine wpAny_pure (wpAny_bind (wpAny_isInstance (T:="dict") db.typeIs PySem.F.sub_dict_dict ?_))
  simp only [Bool.not_true,Bool.false_eq_true,if_false]
  refine wpAny_bind (wpAny_pure (wpAny_bind (wpAny_pure (wpAny_bind (OF ha hb hk da db hits (wpAny_pure ⟨_,rfl,?_,?_⟩))))))
  · exact nofun
  · simpa using q
end
inductive HEn (K:jf) (H:Hp):HKvs→List (NestedKey×PyData)→Prop
 | nil:HEn K H [] []
 | cons {k:NestedKey} {b:Addr} {v:V} {d:PyData} {ks:HKvs} {es:List (NestedKey×PyData)}:L2.Dp K H v d→SeqAt.shaped d=true→HEn K H ks es→HEn K H ((k,b,v)::ks) ((k,d)::es)
def hval (es:List (NestedKey×PyData)) (k:NestedKey):Option PyData:=(es.find? fun e=>decide (e.1=k)).map (·.2)
def heqD (xs ys:List (NestedKey×PyData)):Bool:=xs.length == ys.length && xs.all fun p=>match hval ys p.1 with
 | none=>false
 | some y=>PyData.eqv p.2 y
theorem HEn.len {K:jf} {H:Hp} {ks:HKvs} {es:List (NestedKey×PyData)} (h:HEn K H ks es):ks.length=es.length:=by
 induction h with
 | nil=>rfl
 | cons _ _ _ ih=>simp [ih]
theorem HEn.val {K:jf} {H:Hp} {ks:HKvs} {es:List (NestedKey×PyData)} (h:HEn K H ks es) (k:NestedKey):(valH ks k=none∧hval es k=none)∨∃ v d,valH ks k=some v∧hval es k=some d∧L2.Dp K H v d∧SeqAt.shaped d=true:=by
 induction h with
 | nil=>exact .inl ⟨rfl,rfl⟩
 | @cons k' b v d ks es h1 h2 _ ih=>
  by_cases e:k'=k
  ·exact .inr ⟨v,d,by simp [valH,e],by simp [hval,e],h1,h2⟩
  ·rw [show valH ((k',b,v)::ks) k=valH ks k by simp [valH,e],show hval ((k',d)::es) k=hval es k by simp [hval,e]]
   exact ih
section
variable {X:Cx} {pins:List (Addr×Obj)} {σ:L2.St} {H:Hp} {s:Shared}
theorem Y8 (I:Inv X pins σ H s) {A:Around} (hu:A.in1.units+64 < cLine) {ls:HKvs} {vb:List (NestedKey×Addr×Value)} {fs:List (NestedKey×PyData)} (rb:Paired PrH ls vb) (hl:HEn X.K H ls fs) {ks:HKvs} {va:List (NestedKey×Addr×Value)} {es:List (NestedKey×PyData)} (ra:Paired PrH ks va) (hk:HEn X.K H ks es) :
    PySem.W.KeqHits A.in1 s (pairsH vb) (pairsH va) (es.all fun p=>match hval fs p.1 with
      | none=>false
      | some y=>PyData.eqv p.2 y):=by
  induction hk generalizing va with
  | nil=>cases ra;exact .nil
  | @cons k b v d ks es h1 h2 h3 ih=>
    cases ra with
    | @cons _ q _ qs h t=>
      obtain ⟨k',b',u⟩:=q
      obtain ⟨ek,_,ru⟩:=h
      have ek':k=k':=ek
      subst ek'
      rw [List.all_cons]
      show PySem.W.KeqHits A.in1 s (pairsH vb) ((k,u)::pairsH qs) _
      have rv:=Pu rb k
      rcases hl.val k with ⟨m1,m2⟩ | ⟨y,d',m1,m2,m3,m4⟩
      · have z:valueAt (pairsH vb) k=none:=by
          rw [m1] at rv
          cases e:valueAt (pairsH vb) k with
          | none=>rfl
          | some w=>rw [e] at rv;exact rv.elim
        rw [m2]
        simp only [Bool.false_and]
        exact .miss z
      · rw [m1] at rv
        obtain ⟨w,hw,rw_⟩:=rv.some_of
        rw [m2]
        dsimp only
        obtain ⟨as,r1⟩:=Dp.reads I d v u h1 ru
        obtain ⟨bs,r2⟩:=Dp.reads I d' y w m3 rw_
        exact .hit hw (PySem.W.keq_at r1 r2 h2 m4 hu) (ih t)
def Y9 (ω:World) (K:jf):R2:=fun x y H Q=>∃ a b a' b' ks ls es fs,x=.ref a∧y=.ref b∧L2.Rd H a (XD ω a' ks)∧L2.Rd H b (XD ω b' ls)∧KyOk K H ks∧KyOk K H ls∧HEn K H ks es∧HEn K H ls fs∧Q (.bl (heqD es fs)) H
def ag (ω:World) (K:jf):R2:=fun x y H Q=>∃ a b a' b' ks ls es fs,x=.ref a∧y=.ref b∧L2.Rd H a (XD ω a' ks)∧L2.Rd H b (XD ω b' ls)∧KyOk K H ks∧KyOk K H ls∧HEn K H ks es∧HEn K H ls fs∧Q (.bl (!heqD es fs)) H
theorem YA {k:Nat} (hr:Room k X.A):OpR X (compareOp .Eq) (Y9 X.w X.K):=by
  intro pins s σ H x y v u Q I rx ry h
  obtain ⟨a,b,a',b',ks,ls,es,fs,rfl,rfl,ea,eb,ka,kb,h1,h2,q⟩:=h
  obtain rfl:v=Value.ref a:=rx
  obtain rfl:u=Value.ref b:=ry
  obtain ⟨ea1,ya,_,_,va,ra,da⟩:=Ig I ea ka
  obtain ⟨eb1,yb,_,_,vb,rb,db⟩:=Ig I eb kb
  subst ea1 eb1
  have hu:=hr.un
  have e:(va.length == vb.length && (es.all fun p=>match hval fs p.1 with
      | none=>false
      | some y=>PyData.eqv p.2 y))=heqD es fs:=by
    unfold heqD
    rw [← Paired.length ra,← Paired.length rb,h1.len,h2.len]
  exact ab ya yb (Y3 hr.units) da db (by omega) (fun _=>Y8 I (by show X.A.units+1+64 < _;omega) rb h2 ra h1) (fin_bl I q (by rw [e]))
theorem ck {k:Nat} (hr:Room k X.A):OpR X (compareOp .NotEq) (ag X.w X.K):=by
  intro pins s σ H x y v u Q I rx ry h
  obtain ⟨a,b,a',b',ks,ls,es,fs,rfl,rfl,ea,eb,ka,kb,h1,h2,q⟩:=h
  obtain rfl:v=Value.ref a:=rx
  obtain rfl:u=Value.ref b:=ry
  obtain ⟨ea1,ya,_,_,va,ra,da⟩:=Ig I ea ka
  obtain ⟨eb1,yb,_,_,vb,rb,db⟩:=Ig I eb kb
  subst ea1 eb1
  have hu:=hr.un
  have e:(va.length == vb.length && (es.all fun p=>match hval fs p.1 with
      | none=>false
      | some y=>PyData.eqv p.2 y))=heqD es fs:=by
    unfold heqD
    rw [← Paired.length ra,← Paired.length rb,h1.len,h2.len]
  exact ae ya yb (Y3 hr.units) da db (by omega) (fun _=>Y8 I (by show X.A.units+1+64 < _;omega) rb h2 ra h1) (fin_bl I q (by rw [e]))
end
section
variable {K:jf} {ω:World} {ε ε' ρ α β γ δ S κ:Type} [DecidableEq κ] {X:L2.St→XK} {De:ε→Own} {G:Sto} {Dd:S→Own} {s:S} {ta tb:TE} {F0 F1:Hp} {E:Ends} {k:KeyN κ} {Rk:κ→Ty} {Rv:β→Ty}
omit [DecidableEq κ] in
theorem EntH.den {e:β→PyData} {m:Nat} {F H:Hp} (s:Same F H) (he:Enc e m) (hn:m≤64) (hd:∀ x,Dat K (Rv x) (e x)) {kvs:HKvs} {ms:List (κ×β)} (h:EntH K k Rk Rv F kvs ms):HEn K H kvs (ms.map fun p=>(k.f p.1,e p.2)):=by
 induction h with
 | nil=>exact .nil
 | cons _ h _ ih=>exact .cons (HK s _ _ (hd _ _ _ h)) (he.shaped hn _) ih
theorem VO {e:β→PyData} (x:κ):∀ ms:List (κ×β),hval (ms.map fun p=>(k.f p.1,e p.2)) (k.f x)=(dget ms x).map e
 | []=>rfl
 | p::ms=>by
  have ih:=VO (e:=e) x ms
  unfold hval dget at ih ⊢
  rw [hG,ir,ir]
  by_cases q:p.1=x
  ·simp [q]
  ·have q':¬ k.f p.1=k.f x:=fun z=>q (k.k.inj _ _ z)
   simp only [q,q',decide_false]
   exact ih
theorem VQ [DecidableEq β] {e:β→PyData} {m:Nat} (he:Enc e m) (xs ys:List (κ×β)):heqD (xs.map fun p=>(k.f p.1,e p.2)) (ys.map fun p=>(k.f p.1,e p.2))=deq xs ys:=by
 unfold heqD deq
 rw [gy,gy,List.all_map]
 congr 1
 congr 1
 funext p
 simp only [Function.comp]
 rw [VO]
 cases dget ys p.1 with
 | none=>rfl
 | some y=>exact he.eq _ _
variable {R:α→Ty} {R':γ→Ty} {f:α→List (κ×β)} {f':γ→List (κ×β)} {Ma:(α→S→Res ε δ)→Res ε δ} {Mb:S→(γ→S→Res ε δ)→Res ε δ}
omit [DecidableEq κ] in
theorem Q7 (hv:DVh K ω Dd R f k Rk Rv) {a:α} {s:S} {x:V} {H F:Hp} (hs:HS (Dd s) H F) (r:(R a).p x F):∃ p a' kvs,x=.ref p∧EntH K k Rk Rv F kvs (f a)∧L2.Rd H p (XD ω a' kvs):=by
 obtain ⟨p,a',kvs,e,h1,h2⟩:=hv a s x H F hs r
 rcases h2 with h2 | ⟨od,h2⟩
 ·exact ⟨p,a',kvs,e,h1,.inl h2⟩
 ·exact ⟨p,a',kvs,e,h1,.inr ⟨od,h2⟩⟩
theorem VR [DecidableEq β] {e:β→PyData} {m:Nat} (he:Enc e m) (hkd:∀ x,Dat K (Rk x) (k.e x)) (hd:∀ x,Dat K (Rv x) (e x)) (hv:DVh K ω Dd R f k Rk Rv) (hv':DVh K ω Dd R' f' k Rk Rv) (ha:EvC K X De ta G Dd s Ma R) (hb:∀ s1,EvC K X De tb G Dd s1 (Mb s1) R') (hn:m≤64:=by decide):EvC K X De (tOp (Y9 ω K) ta tb) G Dd s (fun kk=>Ma fun a s1=>Mb s1 fun b s2=>kk (deq (f a) (f' b)) s2) (tD K eB):=fun kk σ H F hs ss o r Q hm q qe=>
 ha _ σ H F hs ss o r _ hm (fun a s1 x H1 F1 t1 hs1 r1 hm1=>hb s1 _ σ H1 F1 hs1 (ss.mono t1) o r _ hm1
  (fun b s2 y H2 F2 t2 hs2 r2 hm2=>by
   obtain ⟨p,a1,kvs,rfl,h1,h2⟩:=Q7 hv hs2 ((R a).mono t2 r1)
   obtain ⟨p',a2,kvs',rfl,h1',h2'⟩:=Q7 hv' hs2 r2
   refine ⟨p,p',a1,a2,kvs,kvs',_,_,rfl,rfl,h2,h2',h1.ky hkd hs2.sub,h1'.ky hkd hs2.sub,h1.den hs2.sub he hn hd,h1'.den hs2.sub he hn hd,?_⟩
   rw [VQ he]
   exact q _ s2 _ H2 F2 (t1.trans t2) hs2 (.bl _) hm2)
  (fun n e h H2 F2 t2=>qe n e h H2 F2 (t1.trans t2))) qe
theorem ah [DecidableEq β] {e:β→PyData} {m:Nat} (he:Enc e m) (hkd:∀ x,Dat K (Rk x) (k.e x)) (hd:∀ x,Dat K (Rv x) (e x)) (hv:DVh K ω Dd R f k Rk Rv) (hv':DVh K ω Dd R' f' k Rk Rv) (ha:EvC K X De ta G Dd s Ma R) (hb:∀ s1,EvC K X De tb G Dd s1 (Mb s1) R') (hn:m≤64:=by decide):EvC K X De (tOp (ag ω K) ta tb) G Dd s (fun kk=>Ma fun a s1=>Mb s1 fun b s2=>kk (!deq (f a) (f' b)) s2) (tD K eB):=fun kk σ H F hs ss o r Q hm q qe=>
 ha _ σ H F hs ss o r _ hm (fun a s1 x H1 F1 t1 hs1 r1 hm1=>hb s1 _ σ H1 F1 hs1 (ss.mono t1) o r _ hm1
  (fun b s2 y H2 F2 t2 hs2 r2 hm2=>by
   obtain ⟨p,a1,kvs,rfl,h1,h2⟩:=Q7 hv hs2 ((R a).mono t2 r1)
   obtain ⟨p',a2,kvs',rfl,h1',h2'⟩:=Q7 hv' hs2 r2
   refine ⟨p,p',a1,a2,kvs,kvs',_,_,rfl,rfl,h2,h2',h1.ky hkd hs2.sub,h1'.ky hkd hs2.sub,h1.den hs2.sub he hn hd,h1'.den hs2.sub he hn hd,?_⟩
   rw [VQ he]
   exact q _ s2 _ H2 F2 (t1.trans t2) hs2 (.bl _) hm2)
  (fun n e h H2 F2 t2=>qe n e h H2 F2 (t1.trans t2))) qe
end
def cIsH (ω:World) (K:jf):List V→Hp→VK→Prop:=fun xs H Q=>∃ (a a':Addr) (kvs:HKvs) (c:V) (u:Value) (b:Bool),xs=[.ref a,c]∧L2.Rd H a (XD ω a' kvs)∧ClsV c u∧PySem.W.kitOne K (.type "dict") u=some b∧Q (.bl b) H
theorem Yt {X:Cx}:CallR X (.builtin "isinstance") (cIsH X.w X.K):=by
 intro pins s σ H xs us Q I r h
 obtain ⟨a,a',kvs,c,u,b,rfl,e,k,e1,q⟩:=h
 obtain ⟨u1,u2,rfl,r1,r2⟩:=vals2 r
 have e2:=k.eq r2
 subst e2
 cases (show u1=Value.ref a from r1)
 obtain ⟨e0,_,_,_,xs,_,o,es,ep,h1,h2,_⟩:=VD (e.ok I.hok)
 subst e0
 exact PySem.W.kia_one PySem.W.kitx_dict I.kIn ⟨o,h1,h2.1⟩ e1 (fun z=>nomatch z) fun tk=>⟨.bl b,H,I.tok tk,rfl,q⟩
section
variable {K:jf} {ω:World} {ε α β δ S κ:Type} {X:L2.St→XK} {De:ε→Own} {G:Sto} {Dd:S→Own} {s:S} {te:TE} {k:KeyN κ} {Rk:κ→Ty} {Rv:β→Ty} {R:α→Ty} {f:α→List (κ×β)}
theorem ai {n:String} {b:Bool} {M:(α→S→Res ε δ)→Res ε δ} (hv:DVh K ω Dd R f k Rk Rv) (h:EvC K X De te G Dd s M R) (kt:kitB "dict" n=some b):EvC K X De (tCB (cIsH ω K) (tCons te (tCons (tC (.ty n)) tNil))) G Dd s (fun kk=>M fun _ s1=>kk b s1) (tD K eB):=fun kk σ H F hs ss o r Q hm q qe=>
 h _ σ H F hs ss o r _ hm (fun y s1 v H1 F1 t1 hs1 r1 hm1=>by
  obtain ⟨p,a',kvs,rfl,_,h2⟩:=Q7 hv hs1 r1
  exact ⟨p,a',kvs,.ty n,_,b,rfl,h2,.ty n,kit_ty kt,q b s1 _ H1 F1 t1 hs1 (.bl _) hm1⟩) qe
end
end TL
end
section
open TL PySem L2
abbrev jg:=((Tx×Tx)×(Tx×Tx)×(Rat×(List (Tx×Rat))))
abbrev jh:=(List (Tx×Rat))
abbrev ji:=(List ((Tx×Tx)×Rat))
abbrev jj:=(Tx×Rat×Rat×(List (Tx×Rat×Tx)))
abbrev jl:=(List (List Int))
abbrev jm:=((List (Tx×Tx))×(List Int))
abbrev jo:=(jh×(List Int))
abbrev jq:=((List jg) ⊕ jh)
abbrev jr:=((List (Tx×Rat×Tx))×(List Tx)×(List Int))
abbrev jt:=(((List jg)×jh×ji)×(List Int))
abbrev ju:=((List Tx)×(List Int))
abbrev jv:=((List jj)×(List Int))
abbrev jw:=(jl×(List ((List Int)×Bool)))
abbrev jx:=((List jj)×(List Tx)×(List Int))
abbrev jy:=(Rat×(List Int))
abbrev jz:=(List (Tx×Tx))
abbrev k6:=(List (Tx×Rat×Tx))
abbrev k7:=((Int×Int)×(List Int))
abbrev k8:=(ji×(List Int))
abbrev k9:=((List jg)×(List Int))
abbrev kA:=(Int×(List Int))
end
section
open TL PySem L2
def C6:Tx:=⟨"abcdefghijklmnopqrstuvwxyz0123456789.",by decide +kernel⟩
def FV:Tx:=⟨"",by decide +kernel⟩
def Gv:Tx:=⟨".",by decide +kernel⟩
noncomputable def Hd (vk:Int) (s2:Int):Res Unit ((List Int)):=
 Res.bind (Res.grd (CMulW (17:Int) vk) ((17:Int)*vk)) fun z4=>.ok [(if decide ((1000000000000000000:Int)≤(if s2 < 0 then -s2 else s2))=true then (1:Int) else 0),s2,z4]
noncomputable def NP (Ap:(List Int)) (vk:Int):Res Unit ((List Int)):=
 Res.bind (.ok (0:Int)) fun x1=>if decide (vk < (List.length Ap:Int))=true then Res.bind (Res.opt (atI Ap vk)) fun z6=>Res.bind (.ok z6) fun x5=>(Hd vk) x5 else (Hd vk) x1
noncomputable def Au (A6:(List Int)) (vmany:Int):Res (List Int) kA:=
 Res.bind (Res.opt (atI A6 (0:Int))) fun z22=>if decide (z22=(1:Int))=true then Res.bind (Res.opt (atI A6 (1:Int))) fun z6=>Res.bind (Res.grd (vmany≠0) (Int.fmod z6 vmany)) fun z7=>Res.bind (.ok z7) fun x1=>Res.bind (Res.opt (atI A6 (1:Int))) fun z4=>Res.bind (Res.grd (K8 z4 vmany) (Int.fdiv z4 vmany)) fun z5=>Res.bind (Res.opt (ixN (List.length A6) (1:Int))) fun j3=>Res.bind (.ok (List.set A6 j3 z5,())) fun x2=>.ok (x1,x2.1) else Res.bind (Res.opt (atI A6 (2:Int))) fun z21=>Res.bind (.ok (z21+(1:Int))) fun x8=>Res.bind (Res.opt (ixN (List.length A6) (2:Int))) fun j10=>Res.bind (.ok (List.set A6 j10 x8,())) fun x9=>Res.bind (Res.opt (atI x9.1 (1:Int))) fun z16=>Res.bind (Res.grd (CMulW (7919:Int) x8) ((7919:Int)*x8)) fun z17=>Res.bind (Res.grd (CMulW z17 x8) (z17*x8)) fun z18=>Res.bind (Res.grd (CMulW ((z16+z18)+x8) (48271:Int)) (((z16+z18)+x8)*(48271:Int))) fun z19=>Res.bind (Res.grd ((2305843009213693951:Int)≠0) (Int.fmod z19 (2305843009213693951:Int))) fun z20=>Res.bind (.ok z20) fun x11=>Res.bind (Res.grd (CMulW x11 (1442695040888963407:Int)) (x11*(1442695040888963407:Int))) fun z12=>Res.bind (Res.grd ((2305843009213693921:Int)≠0) (Int.fmod (z12+(4321:Int)) (2305843009213693921:Int))) fun z13=>Res.bind (Res.grd (K8 z13 (64:Int)) (Int.fdiv z13 (64:Int))) fun z14=>Res.bind (Res.grd (vmany≠0) (Int.fmod z14 vmany)) fun z15=>.ok (z15,x9.1)
noncomputable def KQ  (s1:(Int×Int)):Res Unit (Int):=
 .ok (if s1.1 < 0 then -s1.1 else s1.1)
noncomputable def Ih  (s1:(Int×Int)) (n2:(Int×Int)→Res Unit (Int)):Res Unit (Int):=
 Res.bind (Res.grd (s1.2≠0) (Int.fmod s1.1 s1.2)) fun z5=>Res.bind (.ok (s1.2,z5)) fun x4=>n2 (x4.1,x4.2)
noncomputable def Hw (vone:Int) (AV:Int):Res Unit (Int):=
 Res.wloop (fun s1 n2=>if (!decide (s1.2=(0:Int)))=true then Ih s1 n2 else KQ s1) Res.fuel (vone,AV)
noncomputable def JJ  (s1:(Int×Int)):Res Unit (Rat):=
 Res.bind (Hw s1.1 s1.2) fun z7=>Res.bind (.ok z7) fun x3=>Res.bind (Res.grd (K8 s1.1 x3) (Int.fdiv s1.1 x3)) fun z5=>Res.bind (Res.grd (K8 s1.2 x3) (Int.fdiv s1.2 x3)) fun z6=>Res.bind (Res.opt (mkQ z5 z6)) fun z4=>.ok z4
noncomputable def KB (vtop:Int) (Ay:Int):Res Unit (Rat):=
 if decide (Ay < (0:Int))=true then Res.bind (.ok ((0:Int) - vtop)) fun x8=>Res.bind (.ok ((0:Int) - Ay)) fun x9=>JJ (x8,x9) else JJ (vtop,Ay)
noncomputable def FO (RI:Int):Res Unit (Bool):=
 .ok (true && (!false))
noncomputable def KR  (s1:(Int×Int)):Res Unit (Int):=
 .ok (if s1.1 < 0 then -s1.1 else s1.1)
noncomputable def KS  (s1:(Int×Int)) (n2:(Int×Int)→Res Unit (Int)):Res Unit (Int):=
 Res.bind (Res.grd (s1.2≠0) (Int.fmod s1.1 s1.2)) fun z5=>Res.bind (.ok (s1.2,z5)) fun x4=>n2 (x4.1,x4.2)
noncomputable def KU (vone:Int) (AV:Int):Res Unit (Int):=
 Res.wloop (fun s1 n2=>if (!decide (s1.2=(0:Int)))=true then KS s1 n2 else KR s1) Res.fuel (vone,AV)
noncomputable def DJ (vtop:Int) (Ay:Int) (s2:Int):Res Unit (Rat):=
 Res.bind (Res.grd (K8 vtop s2) (Int.fdiv vtop s2)) fun z5=>Res.bind (Res.grd (K8 Ay s2) (Int.fdiv Ay s2)) fun z6=>Res.bind (Res.opt (mkQ z5 z6)) fun z4=>.ok z4
noncomputable def DY (vtop:Int) (Ay:Int):Res Unit (Rat):=
 Res.bind (FO vtop) fun z9=>Res.bind (if (!z9)=true then .ok (true,()) else Res.bind (FO Ay) fun z11=>.ok (((!z11) || decide (Ay=(0:Int))),())) fun z10=>if z10.1=true then .err "NoNumber" () else Res.bind (KU vtop Ay) fun z8=>Res.bind (.ok z8) fun x1=>if decide (Ay < (0:Int))=true then Res.bind (.ok ((0:Int) - x1)) fun x7=>(DJ vtop Ay) x7 else (DJ vtop Ay) x1
noncomputable def L6 (va:Rat) (vb:Rat):Res Unit (Rat):=
 Res.bind (Res.grd (CMulW (Rat.num va) (Rat.num vb)) ((Rat.num va)*(Rat.num vb))) fun z2=>Res.bind (Res.grd (CMulW ((Rat.den va:Nat):Int) ((Rat.den vb:Nat):Int)) (((Rat.den va:Nat):Int)*((Rat.den vb:Nat):Int))) fun z3=>Res.bind (DY z2 z3) fun z1=>.ok z1
noncomputable def GQ (va:Rat) (vb:Rat):Res Unit (Rat):=
 Res.bind (Res.grd (CMulW (Rat.num va) ((Rat.den vb:Nat):Int)) ((Rat.num va)*((Rat.den vb:Nat):Int))) fun z2=>Res.bind (Res.grd (CMulW (Rat.num vb) ((Rat.den va:Nat):Int)) ((Rat.num vb)*((Rat.den va:Nat):Int))) fun z3=>Res.bind (Res.grd (CMulW ((Rat.den va:Nat):Int) ((Rat.den vb:Nat):Int)) (((Rat.den va:Nat):Int)*((Rat.den vb:Nat):Int))) fun z4=>Res.bind (DY (z2+z3) z4) fun z1=>.ok z1
noncomputable def KW  (s2:Rat):Res Unit (Rat):=
 .ok s2
noncomputable def Ii (AK:jh) (x3:(Tx×Rat)) (s2:Rat) (n4:Rat→Res Unit (Rat)):Res Unit (Rat):=
 if (!(dget AK x3.1).isSome)=true then .err "NoSum" () else Res.bind (Res.opt (dget AK x3.1)) fun z9=>Res.bind (L6 x3.2 z9) fun z8=>Res.bind (GQ s2 z8) fun z7=>Res.bind (.ok z7) fun x6=>n4 x6
noncomputable def Hx (va:(Rat×jh)) (AK:jh):Res Unit (Rat):=
 Res.bind (.ok va.1) fun x1=>Res.loop (Ii AK) KW va.2 x1
noncomputable def Hy (vone:Rat) (AV:Rat):Res Unit (Rat):=
 Res.bind (Res.grd (CMulW (Rat.num vone) (Rat.num AV)) ((Rat.num vone)*(Rat.num AV))) fun z2=>Res.bind (Res.grd (CMulW ((Rat.den vone:Nat):Int) ((Rat.den AV:Nat):Int)) (((Rat.den vone:Nat):Int)*((Rat.den AV:Nat):Int))) fun z3=>Res.bind (KB z2 z3) fun z1=>.ok z1
noncomputable def Hz (vone:Rat) (AV:Rat):Res Unit (Rat):=
 Res.bind (Res.grd (CMulW (Rat.num vone) ((Rat.den AV:Nat):Int)) ((Rat.num vone)*((Rat.den AV:Nat):Int))) fun z2=>Res.bind (Res.grd (CMulW (Rat.num AV) ((Rat.den vone:Nat):Int)) ((Rat.num AV)*((Rat.den vone:Nat):Int))) fun z3=>Res.bind (Res.grd (CMulW ((Rat.den vone:Nat):Int) ((Rat.den AV:Nat):Int)) (((Rat.den vone:Nat):Int)*((Rat.den AV:Nat):Int))) fun z4=>Res.bind (KB (z2+z3) z4) fun z1=>.ok z1
noncomputable def DZ (BV:Rat) (s3:jh):Res Unit ((Rat×jh)):=
 Res.bind (Res.grd (List.length s3 < 64) (Dw (List.map Prod.fst s3))) fun z13=>Res.bind (Res.grd (z13.length≤100000) z13) fun z11=>Res.bind (Res.calm (Res.lc (fun (x7:Tx) (s8:Unit)=>Res.bind (Res.opt (dget s3 x7)) fun z9=>if (!decide (z9=(0:Rat)))=true then Res.bind (Res.opt (dget s3 x7)) fun z10=>.ok (some (x7,z10),s8) else .ok (none,s8)) z11 ())) fun z12=>.ok (BV,z12.1)
noncomputable def Da  (x4:(Tx×Rat)) (s3:jh) (n5:jh→Res Unit ((Rat×jh))):Res Unit ((Rat×jh)):=
 Res.bind (GQ ((dget s3 x4.1).getD (0:Rat)) x4.2) fun z15=>Res.bind (Res.grd (List.length s3 < 100000) (dput s3 x4.1 z15,())) fun x14=>n5 x14.1
noncomputable def Ce (BV:Rat) (Cj:jh):Res Unit ((Rat×jh)):=
 Res.bind (.ok []) fun x1=>Res.loop Da (DZ BV) Cj x1
noncomputable def GR (va:(Rat×jh)) (vb:(Rat×jh)):Res Unit ((Rat×jh)):=
 Res.bind (GQ va.1 vb.1) fun z2=>Res.bind (Res.grd (List.length va.2+List.length vb.2≤100000) (va.2++vb.2)) fun z3=>Res.bind (Ce z2 z3) fun z1=>.ok z1
end
section
open TL PySem L2
def FW:Tx:=⟨"abcdefghijklmnopqrstuvwxyz",by decide +kernel⟩
def BU:Tx:=⟨"fixed",by decide +kernel⟩
def BF:Tx:=⟨"big",by decide +kernel⟩
def Bl:Tx:=⟨"small",by decide +kernel⟩
noncomputable def L7 (vtext:Tx):Res Unit (Bool):=
 Res.bind (Res.grd (Tx.len vtext≤100000) (Tx.len vtext:Int)) fun z5=>Res.bind (if (decide ((1:Int)≤z5) && decide (z5≤(30:Int)))=true then Res.bind (Res.grd ((Tx.signs vtext).length≤100000) (Tx.signs vtext)) fun z3=>Res.bind (Res.calm (Res.lc (fun (x1:Tx) (s2:Unit)=>.ok (some (Tx.has C6 x1),s2)) z3 ())) fun z4=>.ok ((List.all z4.1 id),z4.2) else .ok (false,())) fun z6=>.ok z6.1
noncomputable def GS (va:Rat) (vb:Rat):Res Unit (Bool):=
 Res.bind (Res.grd (CMulW (Rat.num va) ((Rat.den vb:Nat):Int)) ((Rat.num va)*((Rat.den vb:Nat):Int))) fun z1=>Res.bind (Res.grd (CMulW (Rat.num vb) ((Rat.den va:Nat):Int)) ((Rat.num vb)*((Rat.den va:Nat):Int))) fun z2=>.ok (decide (z1 < z2))
noncomputable def Jf (va:Rat) (vb:Rat):Res Unit (Rat):=
 Res.bind (Res.grd (CMulW (Rat.num va) ((Rat.den vb:Nat):Int)) ((Rat.num va)*((Rat.den vb:Nat):Int))) fun z2=>Res.bind (Res.grd (CMulW (Rat.num vb) ((Rat.den va:Nat):Int)) ((Rat.num vb)*((Rat.den va:Nat):Int))) fun z3=>Res.bind (Res.grd (CMulW ((Rat.den va:Nat):Int) ((Rat.den vb:Nat):Int)) (((Rat.den va:Nat):Int)*((Rat.den vb:Nat):Int))) fun z4=>Res.bind (DY (z2 - z3) z4) fun z1=>.ok z1
end
section
open TL PySem L2
noncomputable def I4  (s2:Rat):Res Unit (Rat):=
 .ok s2
noncomputable def Fu (AK:jh) (x3:(Tx×Rat)) (s2:Rat) (n4:Rat→Res Unit (Rat)):Res Unit (Rat):=
 Res.bind (Res.opt (dget AK x3.1)) fun z9=>Res.bind (Hy x3.2 z9) fun z8=>Res.bind (Hz s2 z8) fun z7=>Res.bind (.ok z7) fun x6=>n4 x6
noncomputable def Dc (vsome:(Rat×jh)) (AK:jh):Res Unit (Rat):=
 Res.bind (.ok vsome.1) fun x1=>Res.loop (Fu AK) I4 vsome.2 x1
end
section
open TL PySem L2
noncomputable def Jg (A6:(List Int)) (vkind:Int):Res (List Int) jy:=
 if decide (vkind=(4:Int))=true then Res.bind (Res.grd (CMulW (2:Int) (100000000000000000:Int)) ((2:Int)*(100000000000000000:Int))) fun z3=>Res.bind (Au A6 (z3+(1:Int))) fun z2=>Res.bind (Res.opt (mkQ (z2.1 - (100000000000000000:Int)) (1:Int))) fun z1=>.ok (z1,z2.2) else if decide (vkind=(3:Int))=true then Res.bind (Res.grd (CMulW (2:Int) (1000000:Int)) ((2:Int)*(1000000:Int))) fun z6=>Res.bind (Au A6 (z6+(1:Int))) fun z5=>Res.bind (Au z5.2 (1000:Int)) fun z7=>Res.bind (Res.mapE (fun _=>z7.2) (KB (z5.1 - (1000000:Int)) ((1:Int)+z7.1))) fun z4=>.ok (z4,z7.2) else if decide (vkind=(2:Int))=true then Res.bind (Res.grd (CMulW (2:Int) (1000000000000000:Int)) ((2:Int)*(1000000000000000:Int))) fun z10=>Res.bind (Au A6 (z10+(1:Int))) fun z9=>Res.bind (Res.opt (mkQ (z9.1 - (1000000000000000:Int)) (1:Int))) fun z8=>.ok (z8,z9.2) else Res.bind (Au A6 (21:Int)) fun z12=>Res.bind (Au z12.2 (5:Int)) fun z14=>Res.bind (Res.opt (atI [(1:Int),(1:Int),(2:Int),(3:Int),(6:Int)] z14.1)) fun z13=>Res.bind (Res.mapE (fun _=>z14.2) (KB (z12.1 - (10:Int)) z13)) fun z11=>.ok (z11,z14.2)
noncomputable def Jh (A6:(List Int)) (vkind:Int):Res (List Int) jy:=
 Res.bind (Jg A6 vkind) fun z5=>Res.bind (.ok (z5.1,z5.2)) fun x1=>Res.bind (Au x1.2 (8:Int)) fun z4=>Res.bind (.ok z4.2) fun s2=>if decide (z4.1=(1:Int))=true then .ok ((0:Rat),s2) else Res.bind (Res.opt (mkQ (if (Rat.num x1.1) < 0 then -(Rat.num x1.1) else (Rat.num x1.1)) ((Rat.den x1.1:Nat):Int))) fun z3=>.ok (z3,s2)
noncomputable def l_is (GY:Rat) (vdue_here:Rat):Res Unit (Bool):=
 if ((!true) || ((!decide ((2:Int)=(2:Int))) || (!decide (GY=vdue_here))))=true then .ok false else Res.bind (Res.grd ([Rat.num GY,((Rat.den GY:Nat):Int)].length≤100000) [Rat.num GY,((Rat.den GY:Nat):Int)]) fun z7=>Res.bind (Res.calm (Res.lc (fun (x5:Int) (s6:Unit)=>.ok (some (true && (!false)),s6)) z7 ())) fun z8=>.ok (!decide (false∈z8.1))
noncomputable def EJ (vone:Rat) (AV:Rat):Res Unit (Rat):=
 Res.bind (Res.opt (mkQ ((0:Int) - (Rat.num AV)) ((Rat.den AV:Nat):Int))) fun z2=>Res.bind (Hz vone z2) fun z1=>.ok z1
end
section
open TL PySem L2
noncomputable def Sr  (s2:Unit):Res Unit ((Option Rat)):=
 .ok none
noncomputable def NQ (GF:Tx) (Ui:Rat) (x1:jj) (x3:(Tx×Rat×Tx)) (s2:Unit) (n4:Unit→Res Unit ((Option Rat))):Res Unit ((Option Rat)):=
 if (decide (x3.1=GF) && decide (x3.2.2=BU))=true then .ok (some x3.2.1) else if (decide (x3.1=GF) && decide (x3.2.2=BF))=true then Res.bind (EJ Ui x1.2.1) fun z7=>Res.bind (Hz x3.2.1 z7) fun z6=>.ok (some z6) else if decide (x3.1=GF)=true then Res.bind (EJ x1.2.2.1 Ui) fun z9=>Res.bind (Hz x3.2.1 z9) fun z8=>.ok (some z8) else n4 ()
noncomputable def Lh (vsize:jj) (GF:Tx) (Ui:Rat):Res Unit ((Option Rat)):=
 Res.bind (.ok vsize) fun x1=>Res.loop (NQ GF Ui x1) Sr x1.2.2.2 ()
noncomputable def KY  (s3:jo):Res (List Int) jo:=
 .ok (s3.1,s3.2)
noncomputable def KZ (n5:jo→Res (List Int) jo) (s10:jo):Res (List Int) jo:=
 n5 (s10.1,s10.2)
noncomputable def Ka (x4:jj) (x7:kA) (x11:(Tx×Rat×Tx)) (s10:jo) (n12:jo→Res (List Int) jo):Res (List Int) jo:=
 Res.bind (Res.grd (CMulW (2:Int) x7.1) ((2:Int)*x7.1)) fun z22=>Res.bind (Au s10.2 (z22+(1:Int))) fun z21=>Res.bind (Res.mapE (fun _=>z21.2) (KB (z21.1 - x7.1) x7.1)) fun z20=>Res.bind (.ok (z20,z21.2)) fun x14=>Res.bind (Res.opt (dget s10.1 x4.1)) fun z19=>Res.bind (Res.mapE (fun _=>x14.2) (Lh x4 x11.1 z19)) fun z18=>Res.bind (Res.opt z18) fun z17=>Res.bind (Res.mapE (fun _=>x14.2) (Hy x14.1 z17)) fun z16=>Res.bind (Res.grd (List.length s10.1 < 100000) (dput s10.1 x11.1 z16,())) fun x15=>n12 (x15.1,x14.2)
noncomputable def Kb  (x4:jj) (s3:jo) (n5:jo→Res (List Int) jo):Res (List Int) jo:=
 Res.bind (Au s3.2 (6:Int)) fun z28=>Res.bind (.ok (((1:Int)+z28.1),z28.2)) fun x7=>Res.bind (Au x7.2 (x7.1+(1:Int))) fun z27=>Res.bind (Res.mapE (fun _=>z27.2) (KB z27.1 x7.1)) fun z26=>Res.bind (.ok (z26,z27.2)) fun x8=>Res.bind (Res.mapE (fun _=>x8.2) (EJ x4.2.2.1 x4.2.1)) fun z25=>Res.bind (Res.mapE (fun _=>x8.2) (Hy x8.1 z25)) fun z24=>Res.bind (Res.mapE (fun _=>x8.2) (Hz x4.2.1 z24)) fun z23=>Res.bind (Res.grd (List.length s3.1 < 100000) (dput s3.1 x4.1 z23,())) fun x9=>Res.loop (Ka x4 x7) (KZ n5) x4.2.2.2 (x9.1,x8.2)
noncomputable def JK (A6:(List Int)) (Aj:(List jj)):Res (List Int) jo:=
 Res.bind (.ok []) fun x1=>Res.loop Kb KY Aj (x1,A6)
noncomputable def Ji (vone:Rat) (AV:Rat):Res Unit (Bool):=
 Res.bind (Res.grd (CMulW (Rat.num vone) ((Rat.den AV:Nat):Int)) ((Rat.num vone)*((Rat.den AV:Nat):Int))) fun z1=>Res.bind (Res.grd (CMulW (Rat.num AV) ((Rat.den vone:Nat):Int)) ((Rat.num AV)*((Rat.den vone:Nat):Int))) fun z2=>.ok (decide (z1 < z2))
end
section
open TL PySem L2
def Gy:Tx:=⟨"frame",by decide +kernel⟩
def C7:Tx:=⟨"x",by decide +kernel⟩
def FX:Tx:=⟨"y",by decide +kernel⟩
end
section
open TL PySem L2
noncomputable def Su (A6:(List Int)):Res (List Int) k7:=
 Res.bind (Au A6 (8:Int)) fun z6=>Res.bind (.ok z6.2) fun s1=>if decide (z6.1=(1:Int))=true then Res.bind (Au s1 (4:Int)) fun z2=>Res.bind (Au z2.2 (8:Int)) fun z3=>.ok ((((3:Int)+z2.1),((9:Int)+z3.1)),z3.2) else Res.bind (Au s1 (4:Int)) fun z4=>Res.bind (Au z4.2 (9:Int)) fun z5=>.ok ((((1:Int)+z4.1),z5.1),z5.2)
noncomputable def L8 (A6:(List Int)) (vmany:Int):Res (List Int) ju:=
 Res.bind (.ok FW) fun x1=>Res.bind (Res.grd (-(2 ^ 62)≤(8:Int)∧(8:Int) < 2 ^ 62) (Ah 0 (Int.toNat (8:Int)))) fun z3=>Res.bind (Res.grd (z3.length≤100000) z3) fun z8=>Res.bind (Res.calm (Res.lc (fun (x4:Int) (s5:(List Int))=>Res.bind (Res.mapE (fun _:(List Int)=>()) (Au s5 (26:Int))) fun z7=>Res.bind (Res.opt (Tx.at x1 z7.1)) fun z6=>.ok (some z6,z7.2)) z8 A6)) fun z9=>Res.bind (Res.grd (Xv FV z9.1) (Tx.join FV z9.1)) fun z28=>Res.bind (.ok (z28,z9.2)) fun x2=>Res.bind (Au x2.2 (8:Int)) fun z27=>Res.bind (.ok (((1:Int)+z27.1),z27.2)) fun x10=>Res.bind (Au x10.2 x10.1) fun z26=>Res.bind (.ok (z26.1,z26.2)) fun x11=>Res.bind (Au x11.2 (26:Int)) fun z25=>Res.bind (.ok (z25.1,z25.2)) fun x12=>Res.bind (Res.grd (-(2 ^ 62)≤vmany∧vmany < 2 ^ 62) (Ah 0 (Int.toNat vmany))) fun z13=>Res.bind (Res.grd (z13.length≤100000) z13) fun z23=>Res.bind (Res.calm (Res.lc (fun (x14:Int) (s15:Unit)=>Res.bind (Res.grd (Tx.len x2.1≤100000) (Tx.cut x2.1 none (some x11.1))) fun z16=>Res.bind (Res.grd (CMulW (3:Int) x14) ((3:Int)*x14)) fun z18=>Res.bind (Res.grd ((26:Int)≠0) (Int.fmod (x12.1+z18) (26:Int))) fun z19=>Res.bind (Res.opt (Tx.at x1 z19)) fun z17=>Res.bind (Res.grd (Tx.len z16+Tx.len z17≤100000) (z16++z17)) fun z20=>Res.bind (Res.grd (Tx.len x2.1≤100000) (Tx.cut x2.1 (some (x11.1+(1:Int))) (some x10.1))) fun z21=>Res.bind (Res.grd (Tx.len z20+Tx.len z21≤100000) (z20++z21)) fun z22=>.ok (some z22,s15)) z23 ())) fun z24=>.ok (z24.1,x12.2)
noncomputable def Li (vmany:Int) (s3:jm):Res (List Int) jm:=
 Res.bind (Res.grd (-(2 ^ 62)≤vmany∧vmany < 2 ^ 62) (Ah 0 (Int.toNat vmany))) fun z7=>Res.bind (Res.grd (z7.length≤100000) z7) fun z12=>Res.bind (Res.calm (Res.lc (fun (x8:Int) (s9:jm)=>Res.bind (Res.mapE (fun _=>()) (Au (s9.2) (List.length s9.1:Int))) fun z11=>Res.bind (Res.opt (Pn (s9.1,z11.2).1 z11.1)) fun z10=>.ok (some z10.1,(z10.2,(s9.1,z11.2).2))) z12 (s3.1,s3.2))) fun z13=>.ok (z13.1,z13.2.2)
noncomputable def Lj  (x4:Tx) (s3:jm) (n5:jm→Res (List Int) jm):Res (List Int) jm:=
 Res.bind (Res.grd (List.length s3.1+List.length [(C7,x4),(FX,x4)]≤100000) (s3.1++[(C7,x4),(FX,x4)],())) fun x14=>n5 (x14.1,s3.2)
noncomputable def L9 (A6:(List Int)) (vmany:Int):Res (List Int) jm:=
 Res.bind (.ok []) fun x1=>Res.bind (L8 A6 (6:Int)) fun z15=>Res.loop Lj (Li vmany) z15.1 (x1,z15.2)
noncomputable def OG  (s10:jw):Res Unit (jl):=
 Res.bind (Res.grd (∀ x∈List.map Prod.fst s10.2,x≠[]) (Cg (eV eI) (List.map Prod.fst s10.2))) fun z13=>.ok z13
noncomputable def Gz (n11:jw→Res Unit (jl)) (s16:jw):Res Unit (jl):=
 n11 (s16.1,s16.2)
noncomputable def H0 (s10:jw) (n11:jw→Res Unit (jl)) (s33:jl):Res Unit (jl):=
 (Gz n11) (s33,s10.2)
noncomputable def OH (CG:(List jg)) (s10:jw) (n11:jw→Res Unit (jl)):Res Unit (jl):=
 Res.bind (Res.opt (popL s10.1)) fun z47=>Res.bind (.ok (z47.1,z47.2)) fun x14=>Res.bind (Res.opt (atI x14.1 (-(1:Int)))) fun z46=>Res.bind (Res.opt (atI CG z46)) fun z45=>Res.bind (.ok z45.2.1) fun x15=>Res.bind (Res.opt (atI x14.1 (0:Int))) fun z44=>Res.bind (Res.opt (atI CG z44)) fun z43=>if decide (x15=z43.1)=true then Res.bind (Res.opt (minL x14.1)) fun z22=>Res.bind (Res.opt (idxL x14.1 z22)) fun z21=>Res.bind (.ok z21) fun x18=>Res.bind (Res.grd (List.length (cutL x14.1 (some x18) none)+List.length (cutL x14.1 none (some x18))≤100000) ((cutL x14.1 (some x18) none)++(cutL x14.1 none (some x18)))) fun z20=>Res.bind (Res.grd (List.length s10.2 < 100000) (dput s10.2 z20 true,())) fun x19=>(Gz n11) (x14.2,x19.1) else Res.bind (Res.grd (x14.1.length≤100000) x14.1) fun z31=>Res.bind (Res.calm (Res.lc (fun (x28:Int) (s29:Unit)=>Res.bind (Res.opt (atI CG x28)) fun z30=>.ok (some z30.1,s29)) z31 ())) fun z32=>if (!memD x15 z32.1)=true then Res.bind (Res.grd (-(2 ^ 62)≤(List.length CG:Int)∧(List.length CG:Int) < 2 ^ 62) (Ah 0 (Int.toNat (List.length CG:Int)))) fun z35=>Res.bind (Res.grd (z35.length≤100000) z35) fun z40=>Res.bind (Res.calm (Res.lc (fun (x36:Int) (s37:Unit)=>Res.bind (Res.opt (atI CG x36)) fun z38=>if decide (z38.1=x15)=true then Res.bind (Res.grd (List.length x14.1+List.length [x36]≤100000) (x14.1++[x36])) fun z39=>.ok (some z39,s37) else .ok (none,s37)) z40 ())) fun z41=>Res.bind (Res.grd (List.length x14.2+List.length z41.1≤100000) (x14.2++z41.1,z41.2)) fun x42=>(H0 s10 n11) x42.1 else (H0 s10 n11) x14.2
noncomputable def MY (CG:(List jg)):Res Unit (jl):=
 Res.bind (.ok []) fun x1=>Res.bind (Res.grd (-(2 ^ 62)≤(List.length CG:Int)∧(List.length CG:Int) < 2 ^ 62) (Ah 0 (Int.toNat (List.length CG:Int)))) fun z4=>Res.bind (Res.grd (z4.length≤100000) z4) fun z7=>Res.bind (Res.calm (Res.lc (fun (x5:Int) (s6:Unit)=>.ok (some [x5],s6)) z7 ())) fun z8=>Res.bind (.ok z8.1) fun x3=>Res.wloop (fun s10 n11=>if (!decide (s10.1=[]))=true then (OH CG) s10 n11 else OG s10) Res.fuel (x3,x1)
noncomputable def Fv  (s2:(Rat×jh)):Res Unit ((Rat×jh)):=
 .ok s2
noncomputable def Fw (vgaps:(List jg)) (x3:Int) (s2:(Rat×jh)) (n4:(Rat×jh)→Res Unit ((Rat×jh))):Res Unit ((Rat×jh)):=
 Res.bind (Res.opt (atI vgaps x3)) fun z8=>Res.bind (GR s2 z8.2.2) fun z7=>Res.bind (.ok z7) fun x6=>n4 x6
noncomputable def FY (vgaps:(List jg)) (MD:(List Int)):Res Unit ((Rat×jh)):=
 Res.bind (Ce (0:Rat) []) fun z9=>Res.bind (.ok z9) fun x1=>Res.loop (Fw vgaps) Fv MD x1
end
section
open TL PySem L2
noncomputable def Gb  (s3:jz):Res Unit (jz):=
 Res.bind (Res.grd (List.length s3 < 64) (Cg (e2 eS eS) (uniq s3))) fun z7=>.ok z7
noncomputable def Gc  (x4:jg) (s3:jz) (n5:jz→Res Unit (jz)):Res Unit (jz):=
 Res.bind (Res.grd (List.length s3+List.length [x4.1,x4.2.1]≤100000) (s3++[x4.1,x4.2.1],())) fun x8=>n5 x8.1
noncomputable def GT (vgaps:(List jg)):Res Unit (jz):=
 Res.bind (.ok []) fun x1=>Res.loop Gc Gb vgaps x1
noncomputable def Bt  (s14:jl):Res Unit (jl):=
 .ok s14
noncomputable def FP  (s17:jl):Res Unit (jl):=
 Bt s17
noncomputable def Bu (n19:jl→Res Unit (jl)) (s21:jl):Res Unit (jl):=
 n19 s21
noncomputable def FQ (vgaps:(List jg)) (vway:(List Int)) (rec:(List jg)→(List Int)→Res Unit (jl)) (x1:(Tx×Tx)) (x18:Int) (s17:jl) (n19:jl→Res Unit (jl)):Res Unit (jl):=
 Res.bind (Res.opt (atI vgaps x18)) fun z26=>if decide (z26.1=x1)=true then Res.bind (Res.grd (List.length vway+List.length [x18]≤100000) (vway++[x18])) fun z25=>Res.bind (rec vgaps z25) fun z24=>Res.bind (Res.grd (List.length s17+List.length z24≤100000) (s17++z24,())) fun x23=>(Bu n19) x23.1 else (Bu n19) s17
noncomputable def Cf (rec:(List jg)→(List Int)→Res Unit (jl)) (vgaps:(List jg)) (vway:(List Int)):Res Unit (jl):=
 Res.bind (Res.opt (atI vway (-(1:Int)))) fun z31=>Res.bind (Res.opt (atI vgaps z31)) fun z30=>Res.bind (.ok z30.2.1) fun x1=>Res.bind (Res.opt (atI vway (0:Int))) fun z29=>Res.bind (Res.opt (atI vgaps z29)) fun z28=>if decide (x1=z28.1)=true then .ok [vway] else Res.bind (.ok []) fun x2=>Res.bind (Res.grd (vway.length≤100000) vway) fun z12=>Res.bind (Res.calm (Res.lc (fun (x9:Int) (s10:Unit)=>Res.bind (Res.opt (atI vgaps x9)) fun z11=>.ok (some z11.1,s10)) z12 ())) fun z13=>if (!memD x1 z13.1)=true then Res.bind (Res.opt (atI vway (0:Int))) fun z27=>Res.bind (Res.grd (-(2 ^ 62)≤(z27+(1:Int))∧(z27+(1:Int)) < 2 ^ 62∧-(2 ^ 62)≤(List.length vgaps:Int)∧(List.length vgaps:Int) < 2 ^ 62) (Ah (z27+(1:Int)) (Int.toNat ((List.length vgaps:Int) - (z27+(1:Int)))))) fun z16=>Res.loop (FQ vgaps vway rec x1) FP z16 x2 else Bt x2
noncomputable def CD:Nat→(List jg)→(List Int)→Res Unit (jl)
 | 0=>fun _ _=>.stuck
 | m+1=>Cf (CD m)
noncomputable def KC (vgaps:(List jg)) (vway:(List Int)):Res Unit (jl):=
 CD 24 vgaps vway
noncomputable def I5  (s4:jl):Res Unit (jl):=
 .ok s4
noncomputable def I6 (vgaps:(List jg)) (x5:Int) (s4:jl) (n6:jl→Res Unit (jl)):Res Unit (jl):=
 Res.bind (KC vgaps [x5]) fun z9=>Res.bind (Res.grd (List.length s4+List.length z9≤100000) (s4++z9,())) fun x8=>n6 x8.1
noncomputable def EK (vgaps:(List jg)):Res Unit (jl):=
 Res.bind (.ok []) fun x1=>Res.bind (Res.grd (-(2 ^ 62)≤(List.length vgaps:Int)∧(List.length vgaps:Int) < 2 ^ 62) (Ah 0 (Int.toNat (List.length vgaps:Int)))) fun z3=>Res.loop (I6 vgaps) I5 z3 x1
end
section
open TL PySem L2
def Df:Tx:=⟨"r",by decide +kernel⟩
end
section
open TL PySem L2
def Cs:Tx:=⟨"l",by decide +kernel⟩
def OI:Tx:=⟨"ahead",by decide +kernel⟩
def OJ:Tx:=⟨"lies",by decide +kernel⟩
def OK:Tx:=⟨"within",by decide +kernel⟩
end
section
open TL PySem L2
def Ij:Tx:=⟨"e",by decide +kernel⟩
def Dg:Tx:=⟨"s",by decide +kernel⟩
end
section
open TL PySem L2
def VS:Tx:=⟨"efghj",by decide +kernel⟩
end
section
open TL PySem L2
noncomputable def EL (vgap:jg) (AK:jh) (BH:ji):Res Unit (Rat):=
 Res.bind (.ok vgap) fun x1=>Res.bind (Res.opt (dget BH x1.2.1)) fun z4=>Res.bind (Res.opt (dget BH x1.1)) fun z5=>Res.bind (Jf z4 z5) fun z3=>Res.bind (Hx x1.2.2 AK) fun z6=>Res.bind (GQ z3 z6) fun z2=>.ok z2
end
section
open TL PySem L2
def Ik:Tx:=⟨"part.",by decide +kernel⟩
def Il:Tx:=⟨"a.b",by decide +kernel⟩
def FZ:Tx:=⟨"abcdefghijkl",by decide +kernel⟩
noncomputable def Fb (A6:(List Int)) (vmany:Int):Res (List Int) ju:=
 Res.bind (Res.grd (-(2 ^ 62)≤vmany∧vmany < 2 ^ 62) (Ah 0 (Int.toNat vmany))) fun z1=>Res.bind (Res.grd (z1.length≤100000) z1) fun z8=>Res.bind (Res.calm (Res.lc (fun (x2:Int) (s3:(List Int))=>Res.bind (Res.mapE (fun _:(List Int)=>()) (Au s3 (4:Int))) fun z5=>Res.bind (Res.opt (atI [Dg,Ij,Ik,Il] z5.1)) fun z4=>Res.bind (Res.opt (Tx.at FZ x2)) fun z6=>Res.bind (Res.grd (Tx.len z4+Tx.len z6≤100000) (z4++z6)) fun z7=>.ok (some z7,z5.2)) z8 A6)) fun z9=>.ok (z9.1,z9.2)
noncomputable def Fx  (s6:jx):Res (List Int) jv:=
 .ok (s6.1,s6.2.2)
noncomputable def I7 (s6:jx) (n7:jx→Res (List Int) jv) (x9:(Tx×(List Tx))) (x10:jy) (x11:jy) (s15:jr):Res (List Int) jv:=
 Res.bind (Res.grd (List.length s6.1 < 100000) (s6.1++[(x9.1,x10.1,x11.1,s15.1)],())) fun x19=>n7 (x19.1,s15.2.1,s15.2.2)
noncomputable def DK (n17:jr→Res (List Int) jv) (s20:jr):Res (List Int) jv:=
 n17 (s20.1,s20.2.1,s20.2.2)
noncomputable def I8 (x1:kA) (x16:Int) (s15:jr) (n17:jr→Res (List Int) jv):Res (List Int) jv:=
 if (!decide (s15.2.1=[]))=true then Res.bind (Jh s15.2.2 x1.1) fun z27=>Res.bind (.ok (z27.1,z27.2)) fun x22=>Res.bind (Res.opt (popL (s15.2.1,x22.2).1)) fun z24=>Res.bind (Res.mapE (fun y=>y) (Au ((z24.2,(s15.2.1,x22.2).2).2) (3:Int))) fun z26=>Res.bind (Res.opt (atI [BU,BF,Bl] z26.1)) fun z25=>Res.bind (Res.grd (List.length s15.1 < 100000) (s15.1++[(z24.1,x22.1,z25)],((z24.2,(s15.2.1,x22.2).2).1,z26.2))) fun x23=>(DK n17) (x23.1,x23.2.1,x23.2.2) else (DK n17) (s15.1,s15.2.1,s15.2.2)
noncomputable def Fy (x1:kA) (s6:jx) (n7:jx→Res (List Int) jv):Res (List Int) jv:=
 Res.bind (Res.opt (popL s6.2.1)) fun z33=>Res.bind (.ok (z33.1,z33.2)) fun x9=>Res.bind (Jg s6.2.2 x1.1) fun z32=>Res.bind (.ok (z32.1,z32.2)) fun x10=>Res.bind (Jh x10.2 x1.1) fun z31=>Res.bind (Res.mapE (fun _=>z31.2) (Hz x10.1 z31.1)) fun z30=>Res.bind (.ok (z30,z31.2)) fun x11=>Res.bind (.ok []) fun x12=>Res.bind (Au x11.2 (6:Int)) fun z29=>Res.bind (Res.opt (atI [(0:Int),(0:Int),(1:Int),(1:Int),(2:Int),(3:Int)] z29.1)) fun z28=>Res.bind (Res.grd (-(2 ^ 62)≤z28∧z28 < 2 ^ 62) (Ah 0 (Int.toNat z28))) fun z14=>Res.loop (I8 x1) (I7 s6 n7 x9 x10 x11) z14 (x12,x9.2,z29.2)
noncomputable def Fd (A6:(List Int)) (vmany:Int) (vmost:Int) (K7:Int):Res (List Int) jv:=
 Res.bind (Au A6 K7) fun z35=>Res.bind (.ok (z35.1,z35.2)) fun x1=>Res.bind (Fb x1.2 vmost) fun z34=>Res.bind (.ok (z34.1,z34.2)) fun x2=>Res.bind (.ok []) fun x4=>Res.wloop (fun s6 n7=>if ((!decide (s6.2.1=[])) && decide ((List.length s6.1:Int) < vmany))=true then (Fy x1) s6 n7 else Fx s6) Res.fuel (x4,x2.1,x2.2)
noncomputable def FG  (s3:(List jj)):Res Unit ((List jj)):=
 .ok s3
noncomputable def FH (vby:Rat) (x4:jj) (s3:(List jj)) (n5:(List jj)→Res Unit ((List jj))):Res Unit ((List jj)):=
 Res.bind (Res.grd (x4.2.2.2.length≤100000) x4.2.2.2) fun z11=>Res.bind (Res.calm (Res.lc (fun (x8:(Tx×Rat×Tx)) (s9:Unit)=>Res.bind (Hy x8.2.1 vby) fun z10=>.ok (some (x8.1,z10,x8.2.2),s9)) z11 ())) fun z12=>Res.bind (.ok z12.1) fun x7=>Res.bind (Hy x4.2.1 vby) fun z14=>Res.bind (Hy x4.2.2.1 vby) fun z15=>Res.bind (Res.grd (List.length s3 < 100000) (s3++[(x4.1,z14,z15,x7)],())) fun x13=>n5 x13.1
noncomputable def Ec (Aj:(List jj)) (vby:Rat):Res Unit ((List jj)):=
 Res.bind (.ok []) fun x1=>Res.loop (FH vby) FG Aj x1
noncomputable def EM (A6:(List Int)):Res (List Int) jy:=
 Res.bind (Au A6 (21:Int)) fun z2=>Res.bind (Au z2.2 (4:Int)) fun z4=>Res.bind (Res.opt (atI [(1:Int),(1:Int),(2:Int),(3:Int)] z4.1)) fun z3=>Res.bind (Res.mapE (fun _=>z4.2) (KB (z2.1 - (10:Int)) z3)) fun z1=>.ok (z1,z4.2)
noncomputable def Jj  (s3:jo):Res (List Int) jo:=
 .ok (s3.1,s3.2)
noncomputable def Ed (n5:jo→Res (List Int) jo) (x7:jy) (s8:jh):Res (List Int) jo:=
 n5 (s8,x7.2)
noncomputable def Jk  (x4:Tx) (s3:jo) (n5:jo→Res (List Int) jo):Res (List Int) jo:=
 Res.bind (Res.opt (mkQ (-(1:Int)) (1:Int))) fun z12=>Res.bind (Res.opt (mkQ (-(2:Int)) (1:Int))) fun z13=>Res.bind (Res.opt (mkQ (-(5:Int)) (7:Int))) fun z14=>Res.bind (Au s3.2 (8:Int)) fun z15=>Res.bind (Res.opt (atI [(0:Rat),(0:Rat),(1:Rat),z12,(2:Rat),z13,(1 / 3:Rat),z14] z15.1)) fun z11=>Res.bind (.ok (z11,z15.2)) fun x7=>if (!decide ((Rat.num x7.1)=(0:Int)))=true then Res.bind (Res.grd (List.length s3.1 < 100000) (s3.1++[(x4,x7.1)],())) fun x10=>(Ed n5 x7) x10.1 else (Ed n5 x7) s3.1
noncomputable def Hf (A6:(List Int)) (Cw:(List Tx)):Res (List Int) jo:=
 Res.bind (.ok []) fun x1=>Res.bind (Res.grd (List.length Cw < 64) (Dw Cw)) fun z16=>Res.loop Jk Jj z16 (x1,A6)
noncomputable def J3 (x3:jo) (s7:k8) (s15:k9):Res (List Int) jt:=
 .ok ((s15.1,x3.1,s7.1),s15.2)
noncomputable def J4 (x1:jy) (x3:jo) (x4:k7) (s7:k8) (x11:jz) (x16:Int) (s15:k9) (n17:k9→Res (List Int) jt):Res (List Int) jt:=
 Res.bind (Au s15.2 x4.1.1) fun z42=>Res.bind (Res.opt (atI x11 z42.1)) fun z41=>Res.bind (.ok (z41,z42.2)) fun x19=>Res.bind (Au x19.2 x4.1.1) fun z40=>Res.bind (Res.opt (atI x11 z40.1)) fun z39=>Res.bind (.ok (z39,z40.2)) fun x20=>Res.bind (Res.grd (List.length x3.1 < 64) (Dw (List.map Prod.fst x3.1))) fun z38=>Res.bind (Hf x20.2 z38) fun z37=>Res.bind (.ok (z37.1,z37.2)) fun x21=>Res.bind (EM x21.2) fun z36=>Res.bind (Res.mapE (fun _=>z36.2) (Hy z36.1 x1.1)) fun z35=>Res.bind (.ok (z35,z36.2)) fun x22=>Res.bind (Res.opt (mkQ (if (Rat.num x22.1) < 0 then -(Rat.num x22.1) else (Rat.num x22.1)) ((Rat.den x22.1:Nat):Int))) fun z33=>Res.bind (Au x22.2 (2:Int)) fun z34=>Res.bind (Res.opt (atI [(0:Rat),z33] z34.1)) fun z32=>Res.bind (.ok (z32,z34.2)) fun x23=>Res.bind (Res.mapE (fun _=>x23.2) (Dc ((0:Rat),x21.1) x3.1)) fun z31=>Res.bind (Res.mapE (fun _=>x23.2) (EJ x23.1 z31)) fun z30=>Res.bind (.ok z30) fun x24=>Res.bind (Res.opt (dget s7.1 x20.1)) fun z28=>Res.bind (Res.opt (dget s7.1 x19.1)) fun z29=>Res.bind (Res.mapE (fun _=>x23.2) (EJ z28 z29)) fun z27=>Res.bind (Res.mapE (fun _=>x23.2) (EJ x24 z27)) fun z26=>Res.bind (Res.grd (List.length s15.1 < 100000) (s15.1++[(x19.1,x20.1,(z26,x21.1))],())) fun x25=>n17 (x25.1,x23.2)
noncomputable def J5 (x1:jy) (x3:jo) (x4:k7) (s7:k8):Res (List Int) jt:=
 Res.bind (Res.grd True (Cg (e2 eS eS) (List.map Prod.fst s7.1))) fun z43=>Res.bind (.ok z43) fun x11=>Res.bind (.ok []) fun x12=>Res.bind (Res.grd (-(2 ^ 62)≤x4.1.2∧x4.1.2 < 2 ^ 62) (Ah 0 (Int.toNat x4.1.2))) fun z14=>Res.loop (J4 x1 x3 x4 s7 x11) (J3 x3 s7) z14 (x12,s7.2)
noncomputable def J6 (x1:jy) (x8:(Tx×Tx)) (s7:k8) (n9:k8→Res (List Int) jt):Res (List Int) jt:=
 Res.bind (EM s7.2) fun z46=>Res.bind (Res.mapE (fun _=>z46.2) (Hy z46.1 x1.1)) fun z45=>Res.bind (Res.grd (List.length s7.1 < 100000) (dput s7.1 x8 z45,z46.2)) fun x44=>n9 (x44.1,x44.2)
noncomputable def GU (A6:(List Int)):Res (List Int) jt:=
 Res.bind (Au A6 (10000000:Int)) fun z55=>Res.bind (Res.opt (mkQ ((1:Int)+z55.1) (1:Int))) fun z54=>Res.bind (Au z55.2 (4:Int)) fun z56=>Res.bind (Res.opt (atI [(1:Rat),z54] (if decide (z56.1=(1:Int))=true then (1:Int) else 0))) fun z53=>Res.bind (.ok (z53,z56.2)) fun x1=>Res.bind (Au x1.2 (4:Int)) fun z52=>Res.bind (Fd z52.2 z52.1 (7:Int) (2:Int)) fun z51=>Res.bind (Res.mapE (fun _=>z51.2) (Ec z51.1 x1.1)) fun z50=>Res.bind (.ok (z50,z51.2)) fun x2=>Res.bind (JK x2.2 x2.1) fun z49=>Res.bind (.ok (z49.1,z49.2)) fun x3=>Res.bind (Su x3.2) fun z48=>Res.bind (.ok (z48.1,z48.2)) fun x4=>Res.bind (.ok []) fun x5=>Res.bind (L9 x4.2 x4.1.1) fun z47=>Res.loop (J6 x1) (J5 x1 x3 x4) z47.1 (x5,z47.2)
noncomputable def Ll  (s8:ji):Res Unit (ji):=
 .ok s8
noncomputable def Lm (n10:ji→Res Unit (ji)) (s12:ji):Res Unit (ji):=
 n10 s12
noncomputable def GV (n14:ji→Res Unit (ji)) (s17:ji):Res Unit (ji):=
 n14 s17
noncomputable def Ln (A5:jh) (x13:jg) (s12:ji) (n14:ji→Res Unit (ji)):Res Unit (ji):=
 Res.bind (Res.opt (dget s12 x13.1)) fun z23=>Res.bind (Dc x13.2.2 A5) fun z24=>Res.bind (EJ z23 z24) fun z22=>Res.bind (.ok z22) fun x16=>Res.bind (Res.opt (dget s12 x13.2.1)) fun z21=>Res.bind (Ji z21 x16) fun z20=>if z20=true then Res.bind (Res.grd (List.length s12 < 100000) (dput s12 x13.2.1 x16,())) fun x19=>(GV n14) x19.1 else (GV n14) s12
noncomputable def Lo (vgaps:(List jg)) (A5:jh) (x9:Int) (s8:ji) (n10:ji→Res Unit (ji)):Res Unit (ji):=
 Res.loop (Ln A5) (Lm n10) vgaps s8
noncomputable def Lp (vgaps:(List jg)) (A5:jh) (s3:ji):Res Unit (ji):=
 Res.bind (Res.grd (-(2 ^ 62)≤(List.length s3:Int)∧(List.length s3:Int) < 2 ^ 62) (Ah 0 (Int.toNat (List.length s3:Int)))) fun z7=>Res.loop (Lo vgaps A5) Ll z7 s3
noncomputable def Lq  (x4:jg) (s3:ji) (n5:ji→Res Unit (ji)):Res Unit (ji):=
 Res.bind (Res.grd (List.length s3 < 100000) (dput s3 x4.1 (0:Rat),())) fun x25=>Res.bind (Res.grd (List.length x25.1 < 100000) (dput x25.1 x4.2.1 (0:Rat),())) fun x26=>n5 x26.1
noncomputable def LA (vgaps:(List jg)) (A5:jh):Res Unit (ji):=
 Res.bind (.ok []) fun x1=>Res.loop Lq (Lp vgaps A5) vgaps x1
noncomputable def Fz  (s1:Unit):Res Unit (Unit):=
 .ok ()
noncomputable def EC (vgaps:(List jg)) (AK:jh) (x2:(List Int)) (s1:Unit) (n3:Unit→Res Unit (Unit)):Res Unit (Unit):=
 Res.bind (FY vgaps x2) fun z7=>Res.bind (Hx z7 AK) fun z6=>Res.bind (GS z6 (0:Rat)) fun z5=>if z5=true then .stuck else n3 ()
noncomputable def DL (vgaps:(List jg)) (AK:jh):Res Unit (Unit):=
 Res.bind (EK vgaps) fun z8=>Res.loop (EC vgaps AK) Fz z8 ()
noncomputable def ED  (s9:(Bool×ji)):Res Unit (ji):=
 .ok s9.2
noncomputable def G0 (n10:(Bool×ji)→Res Unit (ji)) (s13:(Bool×ji)):Res Unit (ji):=
 n10 (s13.1,s13.2)
noncomputable def CF (n15:(Bool×ji)→Res Unit (ji)) (s18:(Bool×ji)):Res Unit (ji):=
 n15 (s18.1,s18.2)
noncomputable def G3 (AK:jh) (x14:jg) (s13:(Bool×ji)) (n15:(Bool×ji)→Res Unit (ji)):Res Unit (ji):=
 Res.bind (Res.mapE (fun _=>()) (EL x14 AK s13.2)) fun z25=>Res.bind (.ok z25) fun x17=>Res.bind (GS x17 (0:Rat)) fun z24=>if z24=true then Res.bind (Res.opt (dget s13.2 x14.2.1)) fun z23=>Res.bind (Jf z23 x17) fun z22=>Res.bind (Res.grd (List.length s13.2 < 100000) (dput s13.2 x14.2.1 z22,())) fun x20=>Res.bind (.ok true) fun x21=>(CF n15) (x21,x20.1) else (CF n15) (s13.1,s13.2)
noncomputable def Ct (vgaps:(List jg)) (AK:jh) (s9:(Bool×ji)) (n10:(Bool×ji)→Res Unit (ji)):Res Unit (ji):=
 Res.bind (.ok false) fun x12=>Res.loop (G3 AK) (G0 n10) vgaps (x12,s9.2)
noncomputable def EE (vgaps:(List jg)) (AK:jh) (s4:ji):Res Unit (ji):=
 Res.bind (.ok true) fun x8=>Res.wloop (fun s9 n10=>if s9.1=true then (Ct vgaps AK) s9 n10 else ED s9) Res.fuel (x8,s4)
noncomputable def EF  (x5:(Tx×Tx)) (s4:ji) (n6:ji→Res Unit (ji)):Res Unit (ji):=
 Res.bind (Res.grd (List.length s4 < 100000) (dput s4 x5 (0:Rat),())) fun x26=>n6 x26.1
noncomputable def C8 (vgaps:(List jg)) (AK:jh):Res Unit (ji):=
 Res.bind (DL vgaps AK) fun z28=>Res.bind (.ok z28) fun x1=>Res.bind (.ok []) fun x2=>Res.bind (GT vgaps) fun z27=>Res.loop EF (EE vgaps AK) z27 x2
noncomputable def LP (Bx:jg) (A5:jh) (BH:ji):Res Unit (Rat):=
 Res.bind (Res.opt (dget BH Bx.2.1)) fun z3=>Res.bind (Res.opt (dget BH Bx.1)) fun z4=>Res.bind (EJ z3 z4) fun z2=>Res.bind (Dc Bx.2.2 A5) fun z5=>Res.bind (Hz z2 z5) fun z1=>.ok z1
noncomputable def I9 (x1:ji) (x2:(List jq)) (s27:Unit):Res Unit (Bool):=
 Res.bind (.ok (([]:ji),())) fun x31=>Res.bind (Res.opt (atI x2 (0:Int))) fun z34=>Res.bind (Res.opt ((fun x:jq=>match x with | Sum.inl y=>(some y:Option (List jg)) | _=>none) z34)) fun z33=>Res.bind (Res.opt (atI x2 (1:Int))) fun z36=>Res.bind (Res.opt ((fun x:jq=>match x with | Sum.inr y=>(some y:Option jh) | _=>none) z36)) fun z35=>Res.bind (C8 z33 z35) fun z32=>.ok (deq z32 x1)
noncomputable def IA (n29:Unit→Res Unit (Bool)) (s37:Unit):Res Unit (Bool):=
 n29 ()
noncomputable def IB (A5:jh) (x3:ji) (s16:ji) (x28:jg) (x38:Bool) (s37:Unit) (n39:Unit→Res Unit (Bool)):Res Unit (Bool):=
 aa (Res.bind (Res.mapE (fun _=>()) (EL x28 A5 x3)) fun z44=>Res.bind (.ok z44) fun x41=>Res.bind (Res.mapE (fun _=>()) (LP x28 A5 x3)) fun z43=>Res.bind (l_is x41 z43) fun z42=>if ((!z42) || decide ((Rat.num x41) < (0:Int)))=true then .ok false else n39 ()) (Res.bind (EL x28 A5 s16) fun z48=>Res.bind (.ok z48) fun x45=>Res.bind (LP x28 A5 s16) fun z47=>Res.bind (l_is x45 z47) fun z46=>if ((!z46) || decide ((Rat.num x45) < (0:Int)))=true then .ok false else n39 ()) x38
noncomputable def IC (A5:jh) (x3:ji) (s16:ji) (x28:jg) (s27:Unit) (n29:Unit→Res Unit (Bool)):Res Unit (Bool):=
 Res.loop (IB A5 x3 s16 x28) (IA n29) [false,true] ()
noncomputable def ID (vgaps:(List jg)) (A5:jh) (x1:ji) (x2:(List jq)) (x3:ji) (s16:ji):Res Unit (Bool):=
 Res.bind (Res.grd ((List.map Prod.fst x3).length≤100000) (List.map Prod.fst x3)) fun z25=>Res.bind (Res.calm (Res.lc (fun (x20:(Tx×Tx)) (s21:Unit)=>Res.bind (Res.opt (dget s16 x20)) fun z23=>Res.bind (Res.opt (dget x3 x20)) fun z24=>Res.bind (Ji z23 z24) fun z22=>if z22=true then .ok (some x20,s21) else .ok (none,s21)) z25 ())) fun z26=>if (!decide (z26.1=[]))=true then .ok false else Res.loop (IC A5 x3 s16) (I9 x1 x2) vgaps ()
noncomputable def IE (Ar:ji) (s10:Rat) (x17:(Tx×Tx)) (s16:ji) (n18:ji→Res Unit (Bool)):Res Unit (Bool):=
 Res.bind (Res.opt (dget Ar x17)) fun z51=>Res.bind (EJ z51 s10) fun z50=>Res.bind (Res.grd (List.length s16 < 100000) (dput s16 x17 z50,())) fun x49=>n18 x49.1
noncomputable def IF (vgaps:(List jg)) (A5:jh) (Ar:ji) (x1:ji) (x2:(List jq)) (x3:ji) (s10:Rat):Res Unit (Bool):=
 Res.bind (.ok []) fun x14=>Res.loop (IE Ar s10) (ID vgaps A5 x1 x2 x3) (List.map Prod.fst Ar) x14
noncomputable def DM (n12:Rat→Res Unit (Bool)) (s52:Rat):Res Unit (Bool):=
 n12 s52
noncomputable def IG (Ar:ji) (x11:(Tx×Tx)) (s10:Rat) (n12:Rat→Res Unit (Bool)):Res Unit (Bool):=
 Res.bind (Res.opt (dget Ar x11)) fun z57=>Res.bind (Ji z57 s10) fun z56=>if z56=true then Res.bind (Res.opt (dget Ar x11)) fun z55=>Res.bind (.ok z55) fun x54=>(DM n12) x54 else (DM n12) s10
noncomputable def HG (vgaps:(List jg)) (A5:jh) (Ar:ji) (x1:ji) (x2:(List jq)) (x3:ji) (s5:Unit):Res Unit (Bool):=
 Res.bind (.ok (0:Rat)) fun x9=>Res.loop (IG Ar) (IF vgaps A5 Ar x1 x2 x3) (List.map Prod.fst x3) x9
noncomputable def HH (x1:ji) (x3:ji) (x6:(Tx×Tx)) (s5:Unit) (n7:Unit→Res Unit (Bool)):Res Unit (Bool):=
 Res.bind (Res.opt (dget x3 x6)) fun z59=>Res.bind (Res.opt (dget x1 x6)) fun z60=>Res.bind (l_is z59 z60) fun z58=>if (!z58)=true then .ok false else n7 ()
noncomputable def EN (vgaps:(List jg)) (A5:jh) (Ar:ji):Res Unit (Bool):=
 Res.bind (LA vgaps A5) fun z69=>Res.bind (.ok z69) fun x1=>Res.bind (.ok [((Sum.inl vgaps):jq),((Sum.inr A5):jq)]) fun x2=>Res.bind (Res.opt (atI x2 (0:Int))) fun z66=>Res.bind (Res.opt ((fun x:jq=>match x with | Sum.inl y=>(some y:Option (List jg)) | _=>none) z66)) fun z65=>Res.bind (Res.opt (atI x2 (1:Int))) fun z68=>Res.bind (Res.opt ((fun x:jq=>match x with | Sum.inr y=>(some y:Option jh) | _=>none) z68)) fun z67=>Res.bind (C8 z65 z67) fun z64=>Res.bind (.ok z64) fun x3=>Res.bind (if (!true)=true then .ok (true,()) else Res.bind (if (!deq x3 x1)=true then .ok (true,()) else Res.bind (Res.opt (eqLs (eqSU (fun x y:(List jg)=>some (decide (x=y))) (fun x y:jh=>some (deq x y))) x2 [((Sum.inl vgaps):jq),((Sum.inr A5):jq)])) fun z63=>.ok ((!z63),())) fun z62=>.ok (z62.1,z62.2)) fun z61=>if z61.1=true then .ok false else Res.loop (HH x1 x3) (HG vgaps A5 Ar x1 x2 x3) (List.map Prod.fst x3) ()
noncomputable def Jl  (s2:Unit):Res Unit (Bool):=
 Res.bind (C8 [] []) fun z6=>.ok (deq z6 [])
noncomputable def Jm (Ap:(List Int)) (x3:Int) (s2:Unit) (n4:Unit→Res Unit (Bool)):Res Unit (Bool):=
 Res.bind (NP Ap x3) fun z10=>Res.bind (Res.mapE (fun _=>()) (GU z10)) fun z9=>Res.bind (.ok z9.1) fun x7=>Res.bind (EN x7.1 x7.2.1 x7.2.2) fun z8=>if (!z8)=true then .ok false else n4 ()
noncomputable def Hg (Ap:(List Int)):Res Unit (Bool):=
 Res.bind (Res.grd (-(2 ^ 62)≤(if (if (4:Int) < (List.length Ap:Int) then (4:Int) else (List.length Ap:Int)) > (1:Int) then (if (4:Int) < (List.length Ap:Int) then (4:Int) else (List.length Ap:Int)) else (1:Int))∧(if (if (4:Int) < (List.length Ap:Int) then (4:Int) else (List.length Ap:Int)) > (1:Int) then (if (4:Int) < (List.length Ap:Int) then (4:Int) else (List.length Ap:Int)) else (1:Int)) < 2 ^ 62) (Ah 0 (Int.toNat (if (if (4:Int) < (List.length Ap:Int) then (4:Int) else (List.length Ap:Int)) > (1:Int) then (if (4:Int) < (List.length Ap:Int) then (4:Int) else (List.length Ap:Int)) else (1:Int))))) fun z1=>Res.loop (Jm Ap) Jl z1 ()
end
section
open TL PySem L2
namespace Res
variable {ε ε' α β γ σ ρ:Type}
def To (m:Res ε α) (P:α→Prop):Prop:=∃ a,m=.ok a∧P a
theorem To.ok {a:α} {P:α→Prop} (h:P a):(Res.ok a:Res ε α).To P:=⟨a,rfl,h⟩
theorem To.mono {m:Res ε α} {P Q:α→Prop} (h:m.To P) (f:∀ a,P a→Q a):m.To Q:=let ⟨a,e,p⟩:=h;⟨a,e,f a p⟩
theorem To.b {m:Res ε α} {k:α→Res ε β} {P:α→Prop} {Q:β→Prop} (h:m.To P) (f:∀ a,P a→(k a).To Q):(bind m k).To Q:=by
 obtain ⟨a,rfl,p⟩:=h
 exact f a p
theorem To.e {m:Res ε α} {k:α→Res ε β} {a:α} {Q:β→Prop} (h:m=.ok a) (f:(k a).To Q):(bind m k).To Q:=by
 subst h
 exact f
theorem To.g {c:Prop} {x:α} {k:α→Res ε β} {Q:β→Prop} (h:c) (f:(k x).To Q):(bind (grd c x) k).To Q:=To.e (Az h) f
theorem To.o {x:Option α} {a:α} {k:α→Res ε β} {Q:β→Prop} (h:x=some a) (f:(k a).To Q):(bind (opt x) k).To Q:=by
 subst h
 exact f
theorem To.v {a:α} {k:α→Res ε β} {Q:β→Prop} (f:(k a).To Q):(bind (.ok a) k).To Q:=f
theorem To.mE {m:Res ε α} {g:ε→ε'} {P:α→Prop} (h:m.To P):(mapE g m).To P:=by
 obtain ⟨a,rfl,p⟩:=h
 exact ⟨a,rfl,p⟩
theorem To.calm {m:Res Unit α} {P:α→Prop} (h:m.To P):(Res.calm m:Res ε' α).To P:=by
 obtain ⟨a,rfl,p⟩:=h
 exact ⟨a,rfl,p⟩
theorem To.i {b:Bool} {m n:Res ε α} {P:α→Prop} (h1:b=true→m.To P) (h2:b=false→n.To P):(if b=true then m else n).To P:=by
 cases b with
 | true=>exact h1 rfl
 | false=>exact h2 rfl
theorem To.loop {body:α→σ→(σ→Res ε ρ)→Res ε ρ} {k:σ→Res ε ρ} {P:ρ→Prop} (I:List α→σ→Prop):∀ {xs:List α} {s0:σ},
    I [] s0→(∀ pre x post s,xs=pre++x::post→I pre s→∀ nx:σ→Res ε ρ,(∀ s',I (pre++[x]) s'→(nx s').To P)→(body x s nx).To P)→(∀ s,I xs s→(k s).To P)→(Res.loop body k xs s0).To P:=by
  intro xs s0 h0 step done
  have key:∀ (post pre:List α) (s:σ),xs=pre++post→I pre s→(Res.loop body k post s).To P:=by
    intro post
    induction post with
    | nil=>
      intro pre s e h
      rw [iI] at e
      subst e
      exact done s h
    | cons x post ih=>
      intro pre s e h
      exact step pre x post s e h _ fun s' hs'=>ih (pre++[x]) s' (by rw [iL];exact e) hs'
  exact key xs [] s0 rfl h0
theorem To.wloop {body:σ→(σ→Res ε ρ)→Res ε ρ} {P:ρ→Prop} (I:σ→Prop) (μ:σ→Nat):∀ {n:Nat} {s0:σ},I s0→μ s0 < n →
    (∀ s,I s→∀ nx:σ→Res ε ρ,(∀ s',I s'→μ s' < μ s→(nx s').To P)→(body s nx).To P)→(Res.wloop body n s0).To P:=by
  intro n
  induction n with
  | zero=>intro s0 _ h;omega
  | succ n ih=>
    intro s0 h0 hn step
    exact step s0 h0 _ fun s' h1 h2=>ih h1 (by omega) step
theorem EO {body:α→σ→(σ→Res ε ρ)→Res ε ρ} {k:σ→Res ε ρ} (f:σ→α→σ) (I:List α→σ→Prop):∀ {xs:List α} {s0:σ},I [] s0 →
    (∀ pre x post s,xs=pre++x::post→I pre s→(∀ nx:σ→Res ε ρ,body x s nx=nx (f s x))∧I (pre++[x]) (f s x))→Res.loop body k xs s0=k (xs.foldl f s0)∧I xs (xs.foldl f s0):=by
  intro xs s0 h0 step
  have key:∀ (post pre:List α) (s:σ),xs=pre++post→I pre s→Res.loop body k post s=k (post.foldl f s)∧I xs (post.foldl f s):=by
    intro post
    induction post with
    | nil=>
      intro pre s e h
      rw [iI] at e
      subst e
      exact ⟨rfl,h⟩
    | cons x post ih=>
      intro pre s e h
      obtain ⟨h1,h2⟩:=step pre x post s e h
      obtain ⟨h3,h4⟩:=ih (pre++[x]) (f s x) (by rw [iL];exact e) h2
      exact ⟨(h1 _).trans h3,h4⟩
  exact key xs [] s0 rfl h0
theorem J7 {body:α→σ→Res ε (Option β×σ)} (f:α→Option β) (s:σ):∀ (xs:List α),(∀ x∈xs,body x s=.ok (f x,s))→Res.lc body xs s=.ok (xs.filterMap f,s)
 | [],_=>rfl
 | x::xs,h=>by
  unfold Res.lc
  rw [h x gu,A3,J7 f s xs fun y hy=>h y (gz _ hy),A3]
  cases e:f x <;> simp [List.filterMap_cons,e]
theorem To.lc {body:α→σ→Res ε (Option β×σ)} (J:Nat→σ→Prop) (P:β→Prop):∀ {xs:List α} {s:σ} {n:Nat},J n s→(∀ x∈xs,∀ m s,n≤m→m < n+xs.length→J m s→(body x s).To fun t=>(∃ y,t.1=some y∧P y)∧J (m+1) t.2) →
    (Res.lc body xs s).To fun z=>z.1.length=xs.length∧(∀ y∈z.1,P y)∧J (n+xs.length) z.2:=by
  intro xs
  induction xs with
  | nil=>intro s n h _;exact .ok ⟨rfl,(fun y hy=>by cases hy),h⟩
  | cons x xs ih=>
    intro s n h step
    unfold Res.lc
    refine To.b (step x gu n s (iA _) (by simp) h) fun t ⟨⟨y,e,py⟩,hj⟩=>?_
    refine To.b (ih (n:=n+1) hj fun x' hx m s' h1 h2 h3=>step x' (gz _ hx) m s' (by omega) (by simp at h2 ⊢;omega) h3) fun u ⟨hl,hp,hj2⟩=>.ok ?_
    rw [e]
    refine ⟨by simp [hl],fun z hz=>?_,by simp at hj2 ⊢;rw [show n+(xs.length+1)=n+1+xs.length by omega];exact hj2⟩
    rcases hZ.mp hz with q | q
    · subst q;exact py
    · exact hp z q
end Res
open Res
theorem cmulw {i j:Int} (a b:Nat) (ha:i.natAbs < 2 ^ a) (hb:j.natAbs < 2 ^ b) (h0:0 < a:=by decide) (h1:0 < b:=by decide) (h:a+b≤1000000:=by decide):CMulW i j:=wmul a b ha hb h0 h1 h
def Wl (n:Nat) (w:List Int):Prop:=∃ x:We,w=[x.f,x.v,x.t]∧x.ok n
theorem Wl.up {n m:Nat} {w:List Int} (h:Wl n w) (l:n≤m):Wl m w:=let ⟨x,e,o⟩:=h;⟨x,e,o.up l⟩
theorem aj {m:Int} (h0:0 < m) (h1:m≤100000000000000000000):m.natAbs < 2 ^ 8000:=by
 have e:(2:Nat) ^ 70=1180591620717411303424:=by decide
 exact iE (show m.natAbs < 2 ^ 70 by omega) (iO (by decide) (by decide))
end
section
open TL PySem L2 Res
theorem OL {t b:Int} (hb:b.natAbs < 2 ^ 8000):Hw t b=.ok ((Int.gcd t b:Nat):Int):=by
 have h:(Hw t b).To fun r=>r=((Int.gcd t b:Nat):Int):=by
  unfold Hw
  refine To.wloop (fun s:Int×Int=>Int.gcd s.1 s.2=Int.gcd t b∧s.2.natAbs≤b.natAbs) (fun s=>s.2.natAbs) ⟨rfl,iA _⟩ (Res.fuel_big (iE hb (iO (by decide) (by decide)))) ?_
  rintro ⟨x,y⟩ ⟨h1,h2⟩ nx hn
  refine To.i (fun c=>?_) fun c=>?_
  ·have y0:y≠0:=by simpa using c
   unfold Ih
   refine To.g y0 (hn (y,x.fmod y) ⟨?_,?_⟩ (Nu.KH y0))
   ·show Int.gcd y (x.fmod y)=_
    rw [Nu.ZS];exact h1
   ·have:(x.fmod y).natAbs < y.natAbs:=Nu.KH y0
    show (x.fmod y).natAbs≤_
    have h2':y.natAbs≤b.natAbs:=h2
    omega
  ·have y0:y=0:=by simpa using c
   subst y0
   refine .ok ?_
   have h1':Int.gcd x 0=Int.gcd t b:=h1
   rw [← h1',Int.gcd_zero_right]
   show (if x < 0 then -x else x)=_
   split <;> omega
 obtain ⟨a,e,rfl⟩:=h
 exact e
theorem VU {t b:Int} (hb:b.natAbs < 2 ^ 8000):KU t b=.ok ((Int.gcd t b:Nat):Int):=OL hb
theorem eA {t b:Int} (h:b≠0):mkQ (t.fdiv (Nu.by_ t b)) (b.fdiv (Nu.by_ t b))=some (Nu.q t b):=by
 rw [Nu.eW h,Nu.eX h]
 exact KM _
theorem G4 {t b:Int} (h:b≠0) (hb:b.natAbs < 2 ^ 8000):DY t b=.ok (Nu.q t b):=by
 have w1:FO t=.ok true:=rfl
 have w2:FO b=.ok true:=rfl
 have d:∀ z,K8 z (Nu.by_ t b):=fun z=>ZV h hb
 have k:DJ t b (Nu.by_ t b)=.ok (Nu.q t b):=by
  unfold DJ
  rw [Az (d t),A3,Az (d b),A3,eA h]
  rfl
 unfold DY
 rw [w1,w2]
 simp only [A3,Bool.not_true,Bool.false_or,Bool.false_eq_true,if_false]
 rw [VU hb]
 simp only [A3,decide_eq_true_eq,if_neg h]
 unfold Nu.by_ at k
 by_cases c:b < 0
 ·rw [if_pos c]
  rw [if_pos c] at k
  exact k
 ·rw [if_neg c]
  rw [if_neg c] at k
  exact k
theorem OM {t b:Int} (h:0 < b) (hb:b.natAbs < 2 ^ 8000):JJ (t,b)=.ok (Nu.q t b):=by
 have d:∀ z,K8 z ((Int.gcd t b:Nat):Int):=fun z=>by
  have:=ZV (t:=t) (b:=b) (by omega) hb
  rw [Nu.ZU h] at this
  exact this
 have e:=eA (t:=t) (b:=b) (by omega)
 rw [Nu.ZU h] at e
 unfold JJ
 simp only
 rw [OL hb]
 simp only [A3]
 rw [Az (d t),A3,Az (d b),A3,e]
 rfl
theorem ER {t b:Int} (h:b≠0) (hb:b.natAbs < 2 ^ 8000):KB t b=.ok (Nu.q t b):=by
 unfold KB
 by_cases c:b < 0
 ·rw [if_pos (decide_eq_true c)]
  simp only [A3]
  rw [OM (by omega) (by omega),Nu.g9]
 ·rw [if_neg (by simpa using c)]
  exact OM (by omega) hb
section
variable {a b:Rat} (ha:Nu.Bd 3000 a) (hb:Nu.Bd 3000 b)
include ha hb
theorem Yu:GQ a b=.ok (a+b):=by
 unfold GQ
 rw [Az (cq ha.1 (Nu.AU hb) (by decide) (by decide)),A3,Az (cq hb.1 (Nu.AU ha) (by decide) (by decide)),A3,Az (cq (Nu.AU ha) (Nu.AU hb) (by decide) (by decide)),A3,
  G4 (Nw a b) (Pa ha hb),A3,Nu.MG]
theorem Kc:Hz a b=.ok (a+b):=by
 unfold Hz
 rw [Az (cq ha.1 (Nu.AU hb) (by decide) (by decide)),A3,Az (cq hb.1 (Nu.AU ha) (by decide) (by decide)),A3,Az (cq (Nu.AU ha) (Nu.AU hb) (by decide) (by decide)),A3,
  ER (Nw a b) (Pa ha hb),A3,Nu.MG]
theorem VW:Hy a b=.ok (a*b):=by
 unfold Hy
 rw [Az (cq ha.1 hb.1 (by decide) (by decide)),A3,Az (cq (Nu.AU ha) (Nu.AU hb) (by decide) (by decide)),A3,ER (Nw a b) (Pa ha hb),A3,Nu.MH]
end
theorem cn {ns:List Int} {i:Int} (h0:0≤i) (h1:i≤63):(NP ns i).To (Wl 1100):=by
 have k:∀ c:Int,(Hd i c).To (Wl 1100):=fun c=>by
  unfold Hd
  have p7:(2:Nat) ^ 7=128:=by decide
  refine To.g (cmulw 5 7 (by decide) (by omega)) (.ok ?_)
  by_cases hc:1000000000000000000≤if c < 0 then -c else c
  ·rw [if_pos (decide_eq_true hc)]
   exact ⟨⟨1,c,17*i⟩,rfl,.inl rfl⟩
  ·rw [if_neg (by simpa using hc)]
   refine ⟨⟨0,c,17*i⟩,rfl,.inr ⟨rfl,?_,by show 0≤17*i;omega,by show 17*i≤((1100:Nat):Int);omega⟩⟩
   have e:((2:Nat) ^ 60)=1152921504606846976:=by decide
   rw [e]
   show c.natAbs < _
   split at hc <;> omega
 unfold NP
 refine To.v (To.i (fun c=>?_) fun _=>k 0)
 have c':i < (ns.length:Int):=by simpa using c
 refine To.o (a:=ns[i.toNat]) ?_ (k _)
 unfold atI ixN
 rw [if_pos h0,if_pos c',jS,hJ]
theorem AY {n:Nat} {w:List Int} {m:Int} (h:Wl n w) (hm:0 < m) (hm3:m≤100000000000000000000) (hn:n≤2 ^ 40):(Au w m).To fun r=>0≤r.1∧r.1 < m∧Wl (n+1) r.2:=by
 have hm2:=aj hm hm3
 obtain ⟨x,rfl,ok⟩:=h
 have m0:m≠0:=by omega
 unfold Au
 refine To.o (a:=x.f) rfl (To.i (fun c=>?_) fun c=>?_)
 ·have hf:x.f=1:=by simpa using c
  refine To.o (a:=x.v) rfl (To.g m0 (To.v (To.o (a:=x.v) rfl (To.g (cdiv m0 hm2) (To.o (a:=1) rfl (To.v (.ok ?_)))))))
  exact ⟨(NG hm).1,(NG hm).2,⟨x.f,x.v.fdiv m,x.t⟩,rfl,.inl hf⟩
 ·have hf:¬ x.f=1:=by simpa using c
  obtain ⟨h1,h2,h3,h4⟩:=ok.resolve_left hf
  have t1:(x.t+1).natAbs < 2 ^ 41:=by
   have:((2:Nat) ^ 41)=2*2 ^ 40:=by decide
   omega
  have m1:CMulW 7919 (x.t+1):=wmul 13 41 (by decide) t1
  have b2:(7919*(x.t+1)).natAbs < 2 ^ 54:=Nu.B5 (n:=13) (m:=41) (by decide) t1
  have m2:CMulW (7919*(x.t+1)) (x.t+1):=wmul 54 41 b2 t1
  have b3:(7919*(x.t+1)*(x.t+1)).natAbs < 2 ^ 95:=Nu.B5 (n:=54) (m:=41) b2 t1
  have b4:(x.v+7919*(x.t+1)*(x.t+1)).natAbs < 2 ^ 96:=Nu.J2 (Nu.C4 h2 (by decide)) b3
  have b5:(x.v+7919*(x.t+1)*(x.t+1)+(x.t+1)).natAbs < 2 ^ 97:=Nu.J2 b4 (Nu.C4 t1 (by decide))
  have m3:CMulW (x.v+7919*(x.t+1)*(x.t+1)+(x.t+1)) 48271:=wmul 97 16 b5 (by decide)
  have b6:(((x.v+7919*(x.t+1)*(x.t+1)+(x.t+1))*48271).fmod 2305843009213693951).natAbs < 2 ^ 61:=by
   have:=NG (a:=(x.v+7919*(x.t+1)*(x.t+1)+(x.t+1))*48271) (m:=2305843009213693951) (by decide)
   have e:((2:Nat) ^ 61)=2305843009213693952:=by decide
   omega
  have m4:CMulW (((x.v+7919*(x.t+1)*(x.t+1)+(x.t+1))*48271).fmod 2305843009213693951) 1442695040888963407:=wmul 61 61 b6 (by decide)
  refine To.o (a:=x.t) rfl (To.v (To.o (a:=2) rfl (To.v (To.o (a:=x.v) rfl (To.g m1 (To.g m2 (To.g m3 (To.g (by decide) (To.v (To.g m4 (To.g (by decide) (To.g (cdiv (by decide) (by decide)) (To.g m0 (.ok ?_))))))))))))))
  exact ⟨(NG hm).1,(NG hm).2,⟨x.f,x.v,x.t+1⟩,rfl,.inr ⟨h1,h2,by show 0≤x.t+1;omega,by show x.t+1≤((n+1:Nat):Int);omega⟩⟩
end
section
open TL PySem L2 Res
theorem Tx.len_app (a b:Tx):(a++b).len=a.len+b.len:=by
 show (a.s.cps++b.s.cps).size=a.s.cps.size+b.s.cps.size
 exact Array.size_append
theorem Tx.at_ok {t:Tx} {i:Int} (h0:0≤i) (h1:i < t.len) (h2:t.len≤100000):∃ c,t.at i=some c∧c.len=1∧∃ d,t.s.cps.toList[i.toNat]?=some d∧c.s=⟨#[d]⟩:=by
 have hl:i.toNat < t.s.cps.toList.length:=by
  show i.toNat < t.s.cps.toList.length
  have:t.len=t.s.cps.toList.length:=by simp [Tx.len,Str.length]
  omega
 have e:atI t.s.cps.toList i=some t.s.cps.toList[i.toNat]:=by
  unfold atI ixN
  have:t.len=t.s.cps.toList.length:=by simp [Tx.len,Str.length]
  rw [if_pos h0,if_pos (by omega),jS,hJ hl]
 unfold Tx.at
 rw [if_pos (show t.s.length≤100000 from h2)]
 split
 ·rename_i c hc
  rw [e] at hc
  cases hc
  exact ⟨_,rfl,rfl,_,hJ hl,rfl⟩
 ·rename_i hc
  rw [e] at hc
  cases hc
theorem Tx.join_len {a:Tx} (ha:a.len=0):∀ xs:List Tx,(Tx.join a xs).len=(xs.map Tx.len).sum
 | []=>by
  show (Txt.join a.s []).length=0
  rw [TL.join_eq];rfl
 | [x]=>by
  show (Txt.join a.s [x.s]).length=x.s.length+0
  rw [TL.join_eq];rfl
 | x::y::xs=>by
  have ih:=Tx.join_len ha (y::xs)
  show (Txt.join a.s (x.s::y.s::xs.map (·.s))).length=x.len+((y::xs).map Tx.len).sum
  rw [← ih,join_cons]
  show ((x.s.cps++a.s.cps)++(Txt.join a.s (y.s::xs.map (·.s))).cps).size=x.s.cps.size+_
  rw [Array.size_append,Array.size_append]
  have:a.s.cps.size=0:=ha
  have e:(Tx.join a (y::xs)).len=(Txt.join a.s (y.s::xs.map (·.s))).cps.size:=rfl
  omega
theorem ak {a:Tx} (ha:a.len=0) {xs:List Tx} (h:(xs.map Tx.len).sum≤1000000):Xv a xs:=by
 unfold Xv
 rw [ha]
 omega
theorem Sv:∀ {xs:List Tx},(∀ x∈xs,x.len=1)→(xs.map Tx.len).sum=xs.length
 | [],_=>rfl
 | x::xs,h=>by
  rw [hG,List.sum_cons,h x gu,Sv fun y hy=>h y (gz _ hy),i7]
  omega
theorem Ad (lo:Int) (n:Nat):(Ah lo n).length=n:=by simp [Ah]
theorem Q8 {lo:Int} {n:Nat} {i:Int} (h:i∈Ah lo n):lo≤i∧i < lo+n:=by
 unfold Ah at h
 obtain ⟨k,hk,rfl⟩:=hA.mp h
 have:=List.mem_range.mp hk
 omega
theorem VX {α:Type} {xs:List α} {i:Int} (h0:0≤i) (h1:i < xs.length):atI xs i=some (xs[i.toNat]'(by omega)):=by
 unfold atI ixN
 rw [if_pos h0,if_pos h1,jS,hJ]
theorem Dx {α:Type} {xs:List α} {i:Int} (h0:0≤i) (h1:i < xs.length):∃ x∈xs,atI xs i=some x:=⟨_,List.getElem_mem (by omega),VX h0 h1⟩
end
section
open TL PySem L2 Res
theorem Tx.app_l (a b:Tx):(a++b).s.cps.toList=a.s.cps.toList++b.s.cps.toList:=Array.toList_append
theorem Tx.len_l (a:Tx):a.len=a.s.cps.toList.length:=by simp [Tx.len,Str.length]
def Wd (k:Nat) (t:Tx):Prop:=∃ cs:List Nat,t.s.cps.toList=cs++[97+k]∧(∀ c∈cs,97≤c∧c < 123)∧cs.length≤6
theorem Wd.inj {j k:Nat} {t:Tx} (h:Wd j t) (h':Wd k t):j=k:=by
 obtain ⟨cs,e,_⟩:=h
 obtain ⟨ds,e',_⟩:=h'
 rw [e] at e'
 have:=(List.append_inj' e' rfl).2
 simp at this
 omega
theorem fL {u x:Tx} {c:Nat} (e:x.s=⟨#[c]⟩):Tx.has u x=decide (c∈u.s.cps.toList):=by
 unfold Tx.has
 rw [e]
 exact PySem.StrLaws.found_one _ _
theorem Yv {t x:Tx} (h:x∈t.signs):∃ c∈t.s.cps.toList,x.s=⟨#[c]⟩:=by
 have m:x.s∈t.signs.map (·.s):=iD h
 rw [Tx.signs_map] at m
 obtain ⟨c,hc,e⟩:=hA.mp m
 exact ⟨c,hc,e.symm⟩
theorem Q9 {t:Tx} (h1:1≤t.len) (h2:t.len≤30) (h:∀ c∈t.s.cps.toList,c∈C6.s.cps.toList):L7 t=.ok true:=by
 unfold L7
 have sl:t.signs.length=t.len:=by
  have:=congrArg List.length t.signs_map
  rw [gy,gy,← Tx.len_l] at this
  exact this
 rw [Az (by omega),A3,if_pos (by simp;omega),Az (by omega),A3,J7 (fun x=>some (Tx.has C6 x)) () _ fun x hx=>rfl,HL,A3]
 simp only [A3]
 congr 1
 rw [iY]
 intro b hb
 obtain ⟨x,hx,e⟩:=List.mem_filterMap.mp hb
 obtain ⟨c,hc,ex⟩:=Yv hx
 cases e
 show Tx.has _ _=true
 rw [fL ex]
 exact decide_eq_true (h c hc)
theorem Sw {c:Nat} (h0:97≤c) (h1:c < 123):c∈C6.s.cps.toList:=by
 have key:∀ k:Nat,k < 26→97+k∈C6.s.cps.toList:=by decide +kernel
 have:=key (c - 97) (by omega)
 rwa [show 97+(c - 97)=c by omega] at this
theorem Wd.name {k:Nat} {t:Tx} (h:Wd k t) (hk:k < 16):L7 t=.ok true:=by
 obtain ⟨cs,e,h1,h2⟩:=h
 have l:t.len=cs.length+1:=by rw [Tx.len_l,e];simp
 refine Q9 (by omega) (by omega) fun c hc=>?_
 rw [e] at hc
 rcases hY.mp hc with q | q
 ·exact Sw (h1 c q).1 (h1 c q).2
 ·simp at q
  exact Sw (by omega) (by omega)
end
section
open TL PySem L2 Res
theorem Tj {t b:Int} (h:b≠0):(Nu.q t b).num*b=t*((Nu.q t b).den:Int):=by
 have h2:=Rat.num_divInt_den (Nu.q t b)
 have e:Rat.divInt (Nu.q t b).num ((Nu.q t b).den:Int)=Rat.divInt t b:=h2
 have d0:((Nu.q t b).den:Int)≠0:=by exact_mod_cast (Nu.q t b).den_nz
 exact (Rat.divInt_eq_divInt_iff d0 h).mp e
theorem q_le {t u b:Int} (h:0 < b) (l:t≤u):¬ (Nu.q u b).num*((Nu.q t b).den:Int) < (Nu.q t b).num*((Nu.q u b).den:Int):=fun z=>by
 have e1:=Tj (t:=t) (b:=b) (by omega)
 have e2:=Tj (t:=u) (b:=b) (by omega)
 have d1:0 < ((Nu.q t b).den:Int):=by exact_mod_cast (Nu.q t b).den_pos
 have d2:0 < ((Nu.q u b).den:Int):=by exact_mod_cast (Nu.q u b).den_pos
 generalize (Nu.q t b).num=n1 at *
 generalize ((Nu.q t b).den:Int)=m1 at *
 generalize (Nu.q u b).num=n2 at *
 generalize ((Nu.q u b).den:Int)=m2 at *
 have z2:n2*m1*b < n1*m2*b:=Int.mul_lt_mul_of_pos_right z h
 have e3:n2*m1*b=u*(m1*m2):=by rw [show n2*m1*b=n2*b*m1 by ac_rfl,e2];ac_rfl
 have e4:n1*m2*b=t*(m1*m2):=by rw [show n1*m2*b=n1*b*m2 by ac_rfl,e1];ac_rfl
 rw [e3,e4] at z2
 have:=iy l (iw (Int.mul_pos d1 d2))
 omega
theorem q_nn {t b:Int} (h:0 < b) (l:0≤t):0≤(Nu.q t b).num:=by
 have e:=Tj (t:=t) (b:=b) (by omega)
 have d:0 < ((Nu.q t b).den:Int):=by exact_mod_cast (Nu.q t b).den_pos
 have:0≤(Nu.q t b).num*b:=by rw [e];exact jQ l (iw d)
 rcases Int.lt_or_le (Nu.q t b).num 0 with q | q
 ·have:=Int.mul_neg_of_neg_of_pos q h
  omega
 ·exact q
theorem PP (k:Int):mkQ k 1=some (Nu.q k 1):=by
 have h:=Nu.gA k
 have:=KM (Nu.q k 1)
 rw [h.1,h.2] at this
 exact this
theorem VY (t b:Int):Nu.q t b=(t:Rat) / (b:Rat):=by
 unfold Nu.q
 exact Rat.divInt_eq_div t b
end
section
open TL PySem L2 Res
theorem gQ {α:Type} {a b c:α} {i:Int} (h0:0≤i) (h1:i < 3):∃ q,atI [a,b,c] i=some q∧(q=a∨q=b∨q=c):=by
 have cs:i=0∨i=1∨i=2:=by omega
 rcases cs with rfl | rfl | rfl
 ·exact ⟨a,rfl,.inl rfl⟩
 ·exact ⟨b,rfl,.inr (.inl rfl)⟩
 ·exact ⟨c,rfl,.inr (.inr rfl)⟩
structure Shs (sh:List (Tx×Rat×Tx)):Prop where
 at_:∀ i e,sh[i]?=some e→Wd (i+1) e.1∧Nu.Bd 41 e.2.1∧0≤e.2.1.num∧e.2.2∈[BU,BF,Bl]
 len:sh.length≤2
theorem Shs.names {a:Tx} {sh:List (Tx×Rat×Tx)} (ha:Wd 0 a) (h:Shs sh):(a::sh.map (·.1)).Nodup:=by
 rw [iK]
 refine ⟨fun m=>?_,?_⟩
 ·obtain ⟨e,he,rfl⟩:=hA.mp m
  obtain ⟨i,hi⟩:=List.mem_iff_getElem?.mp he
  exact absurd (ha.inj (h.at_ i e hi).1) (by omega)
 ·rw [List.Nodup,jN]
  intro i j hi hj lt e
  rw [gy] at hi hj
  rw [jT,jT] at e
  have wi:=(h.at_ i _ (hJ hi)).1
  have wj:=(h.at_ j _ (hJ hj)).1
  rw [e] at wi
  exact absurd (wi.inj wj) (by omega)
end
section
open TL PySem L2 Res
structure Nmo (t:Tx):Prop where
 l1:1≤t.len
 l2:t.len≤30
 abc:∀ c∈t.s.cps.toList,c∈C6.s.cps.toList
theorem Nmo.name {t:Tx} (h:Nmo t):L7 t=.ok true:=Q9 h.l1 h.l2 h.abc
theorem gR (t:Tx) (k:Nat):(t.cut none (some (k:Int))).s.cps.toList=t.s.cps.toList.take k:=by
 show (((t.s.cps.toList.drop (HT.sIx t.s.length 0 none)).take (HT.sIx t.s.length t.s.length (some (k:Int)) - HT.sIx t.s.length 0 none)).toArray).toList=_
 rw [HT.sIx_nat,HT.sIx_none]
 have:t.s.length=t.s.cps.toList.length:=by simp [Str.length]
 rw [this]
 simp only [Nat.sub_zero,List.drop_zero]
 rcases Nat.le_total k t.s.cps.toList.length with q | q
 ·rw [Nat.min_eq_left q]
 ·rw [Nat.min_eq_right q,jK (iA _),jK q]
theorem fM {α β:Type} (f:α→β) (xs:List α):xs.filterMap (fun x=>some (f x))=xs.map f:=by rw [← List.filterMap_eq_map];rfl
end
section
open TL PySem L2 Res
theorem X1 {n:Nat} {w:List Int} {k:Int} (h:Wl n w) (hn:n≤2 ^ 38):(Jg w k).To fun r=>Nu.Bd 62 r.1∧Wl (n+2) r.2:=by
 have p38:(2:Nat) ^ 38=274877906944:=by decide
 have p40:(2:Nat) ^ 40=1099511627776:=by decide
 have p62:(2:Nat) ^ 62=4611686018427387904:=by decide
 have bg:∀ b:Int,0 < b→b < 2000→b.natAbs < 2 ^ 8000:=fun b _ _=>iE (show b.natAbs < 2 ^ 62 by omega) (iO (by decide) (by decide))
 unfold Jg
 refine To.i (fun _=>?_) fun _=>To.i (fun _=>?_) fun _=>To.i (fun _=>?_) fun _=>?_
 ·refine To.g (cmulw 2 62 (by decide) (by decide)) (To.b (AY h (by decide) (by decide) (by omega)) fun u ⟨u0,u1,hu⟩=>To.o (PP _) (.ok ⟨Nu.q_bd (by omega) (by decide) (by decide),hu.up (by omega)⟩))
 ·refine To.g (cmulw 2 62 (by decide) (by decide)) (To.b (AY h (by decide) (by decide) (by omega)) fun u ⟨u0,u1,hu⟩=>To.b (AY hu (by decide) (by decide) (by omega)) fun v ⟨v0,v1,hv⟩=>?_)
  rw [ER (by omega) (bg _ (by omega) (by omega))]
  exact To.v (.ok ⟨Nu.q_bd (by omega) (by omega) (by omega),hv.up (by omega)⟩)
 ·refine To.g (cmulw 2 62 (by decide) (by decide)) (To.b (AY h (by decide) (by decide) (by omega)) fun u ⟨u0,u1,hu⟩=>To.o (PP _) (.ok ⟨Nu.q_bd (by omega) (by decide) (by decide),hu.up (by omega)⟩))
 ·refine To.b (AY h (by decide) (by decide) (by omega)) fun u ⟨u0,u1,hu⟩=>To.b (AY hu (by decide) (by decide) (by omega)) fun v ⟨v0,v1,hv⟩=>?_
  obtain ⟨x,hx,e⟩:=Dx (xs:=[(1:Int),1,2,3,6]) v0 (by simpa using v1)
  have x0:0 < x∧x < 2000:=by
   simp at hx
   omega
  refine To.o e ?_
  rw [ER (by omega) (bg _ x0.1 x0.2)]
  exact To.v (.ok ⟨Nu.q_bd (by omega) (by omega) (by omega),hv.up (by omega)⟩)
def absQ (r:Rat):Rat:=if r.num < 0 then -r else r
theorem JL (r:Rat):(absQ r).num=if r.num < 0 then -r.num else r.num:=by
 unfold absQ
 split
 ·rfl
 ·rfl
theorem JM (r:Rat):(absQ r).den=r.den:=by
 unfold absQ
 split
 ·rfl
 ·rfl
theorem YB (r:Rat):0≤(absQ r).num:=by
 rw [JL]
 split <;> omega
theorem bd0' {n:Nat} (h:0 < n):Nu.Bd n (0:Rat):=⟨Nat.pow_pos (by decide),Nat.one_lt_pow (by omega) (by decide)⟩
theorem YC {n:Nat} {w:List Int} {k:Int} (h:Wl n w) (hn:n≤2 ^ 37):(Jh w k).To fun r=>Nu.Bd 62 r.1∧0≤r.1.num∧Wl (n+3) r.2:=by
 have p37:(2:Nat) ^ 37=137438953472:=by decide
 have p38:(2:Nat) ^ 38=274877906944:=by decide
 have p40:(2:Nat) ^ 40=1099511627776:=by decide
 unfold Jh
 refine To.b (X1 h (by omega)) fun u ⟨ub,hu⟩=>To.v (To.b (AY hu (by decide) (by decide) (by omega)) fun v ⟨v0,v1,hv⟩=>To.v (To.i (fun _=>?_) fun _=>?_))
 ·exact .ok ⟨bd0' (by decide),Int.le_refl _,hv⟩
 ·refine To.o (a:=absQ u.1) ?_ (.ok ⟨⟨?_,?_⟩,YB _,hv⟩)
  ·rw [← KM (absQ u.1),JL,JM]
  ·rw [JL]
   have:=ub.1
   split <;> omega
  ·rw [JM]
   exact ub.2
theorem VZ {α:Type} (xs:List α) (x:α):popL (xs++[x])=some (x,xs):=by
 unfold popL
 rw [List.getLast?_append]
 simp
theorem QA {α:Type} {xs:List α} (h:xs≠[]):∃ ys y,xs=ys++[y]:=⟨xs.dropLast,xs.getLast h,(jI h).symm⟩
abbrev Shi:=Tx×Rat×Tx
abbrev Siz:=Tx×Rat×Rat×List Shi
structure ShOk (e:Shi):Prop where
 nm:Nmo e.1
 bd:Nu.Bd 62 e.2.1
 nn:0≤e.2.1.num
 way:e.2.2∈[BU,BF,Bl]
structure SzOk (z:Siz):Prop where
 nm:Nmo z.1
 bl:Nu.Bd 62 z.2.1
 bm:Nu.Bd 125 z.2.2.1
 le:¬ z.2.2.1.num*(z.2.1.den:Int) < z.2.1.num*(z.2.2.1.den:Int)
 sh:∀ e∈z.2.2.2,ShOk e
 nd:(z.1::z.2.2.2.map (·.1)).Nodup
 len:z.2.2.2.length≤12
end
section
open TL PySem PySem.Spec L2 Res
def ltT (a b:Tx):Prop:=ltS a.s b.s
theorem LB (a:Tx):¬ ltT a a:=cN a.s
theorem ao {a b c:Tx} (h:ltT a b) (k:ltT b c):ltT a c:=eZ h k
theorem Tn {a b:Tx} (h:¬ ltT a b) (n:a≠b):ltT b a:=cO h fun e=>n (Tx.ext' e)
instance (a b:Tx):Decidable (ltT a b):=inferInstanceAs (Decidable (ltS a.s b.s))
theorem X2 {a b:Tx} (h:leT a b=true) (n:a≠b):ltT a b:=by
 by_cases q:ltT b a
 ·unfold leT at h
  have:ltCps b.s.cps.toList a.s.cps.toList=true:=q
  rw [this] at h
  cases h
 ·exact Tn q fun e=>n e.symm
theorem JN:∀ {xs ys:List Tx},xs.Pairwise ltT→ys.Pairwise ltT→(∀ k,k∈xs↔k∈ys)→xs=ys
 | [],[],_,_,_=>rfl
 | [],y::ys,_,_,h=>absurd ((h y).mpr gu) jH
 | x::xs,[],_,_,h=>absurd ((h x).mp gu) jH
 | x::xs,y::ys,hx,hy,h=>by
  rw [jL] at hx hy
  have e:x=y:=by
   rcases hZ.mp ((h x).mp gu) with e | m
   ·exact e
   ·rcases hZ.mp ((h y).mpr gu) with e | m2
    ·exact e.symm
    ·exact absurd (ao (hy.1 x m) (hx.1 y m2)) (LB y)
  subst e
  congr 1
  refine JN hx.2 hy.2 fun k=>?_
  constructor
  ·intro m
   rcases hZ.mp ((h k).mp (gz _ m)) with e | m2
   ·subst e
    exact absurd (hx.1 k m) (LB k)
   ·exact m2
  ·intro m
   rcases hZ.mp ((h k).mpr (gz _ m)) with e | m2
   ·subst e
    exact absurd (hy.1 k m) (LB k)
   ·exact m2
def insT (k:Tx):List Tx→List Tx
 | []=>[k]
 | y::ys=>if ltT k y then k::y::ys else if k=y then y::ys else y::insT k ys
theorem QB {k j:Tx}:∀ {ys:List Tx},j∈insT k ys↔j=k∨j∈ys
 | []=>by simp [insT]
 | y::ys=>by
  unfold insT
  split
  ·simp
  ·split
   ·rename_i e
    subst e
    simp
   ·rw [hZ,QB,hZ]
    constructor
    ·rintro (h | h | h)
     ·exact .inr (.inl h)
     ·exact .inl h
     ·exact .inr (.inr h)
    ·rintro (h | h | h)
     ·exact .inr (.inl h)
     ·exact .inl h
     ·exact .inr (.inr h)
theorem Sx {k:Tx}:∀ {ys:List Tx},ys.Pairwise ltT→(insT k ys).Pairwise ltT
 | [],_=>List.pairwise_singleton _ _
 | y::ys,h=>by
  unfold insT
  have h':=jL.mp h
  split
  ·rename_i l
   rw [jL]
   refine ⟨fun j hj=>?_,h⟩
   rcases hZ.mp hj with e | m
   ·subst e;exact l
   ·exact ao l (h'.1 j m)
  ·split
   ·exact h
   ·rename_i n1 n2
    rw [jL]
    refine ⟨fun j hj=>?_,Sx h'.2⟩
    rcases QB.mp hj with e | m
    ·subst e;exact Tn n1 n2
    ·exact h'.1 j m
def ordT:List Tx→List Tx
 | []=>[]
 | k::ks=>insT k (ordT ks)
theorem ES {j:Tx}:∀ {ks:List Tx},j∈ordT ks↔j∈ks
 | []=>Iff.rfl
 | k::ks=>by
  show j∈insT k (ordT ks)↔_
  rw [QB,ES,hZ]
theorem DO:∀ ks:List Tx,(ordT ks).Pairwise ltT
 | []=>.nil
 | k::ks=>Sx (DO ks)
theorem cu {ks js:List Tx} (h:∀ k,k∈ks↔k∈js):ordT ks=ordT js:=JN (DO _) (DO _) fun k=>by rw [ES,ES,h]
theorem Yw {ks:List Tx} (h:ks.Pairwise ltT):ordT ks=ks:=JN (DO _) h fun k=>ES
def totT:List (Tx×Rat)→Tx→Rat
 | [],_=>0
 | e::ps,k=>(if e.1=k then e.2 else 0)+totT ps k
def cntT:List (Tx×Rat)→Tx→Nat
 | [],_=>0
 | e::ps,k=>(if e.1=k then 1 else 0)+cntT ps k
theorem Hh (k:Tx):∀ ps qs:List (Tx×Rat),totT (ps++qs) k=totT ps k+totT qs k
 | [],qs=>by
  show totT qs k=0+totT qs k
  grind
 | e::ps,qs=>by
  show (if e.1=k then e.2 else 0)+totT (ps++qs) k=(if e.1=k then e.2 else 0)+totT ps k+totT qs k
  rw [Hh k ps qs]
  grind
theorem Cy {k:Tx}:∀ {ps:List (Tx×Rat)},k∉ps.map (·.1)→totT ps k=0
 | [],_=>rfl
 | e::ps,h=>by
  simp only [hG,hZ,not_or] at h
  have n:¬ e.1=k:=fun z=>h.1 z.symm
  show (if e.1=k then e.2 else 0)+totT ps k=0
  rw [if_neg n,Cy h.2]
  grind
theorem Sy (k:Tx):∀ ps qs:List (Tx×Rat),cntT (ps++qs) k=cntT ps k+cntT qs k
 | [],qs=>by simp [cntT]
 | e::ps,qs=>by
  show (if e.1=k then 1 else 0)+cntT (ps++qs) k=(if e.1=k then 1 else 0)+cntT ps k+cntT qs k
  rw [Sy k ps qs]
  omega
theorem Va {k:Tx} {b:Nat}:∀ {ps:List (Tx×Rat)},(∀ e∈ps,Nu.Bd b e.2)→Nu.Bd (1+(b+1)*cntT ps k) (totT ps k)
 | [],_=>bd_0
 | e::ps,h=>by
  have ih:=Va (k:=k) (ps:=ps) fun f m=>h f (gz _ m)
  show Nu.Bd (1+(b+1)*((if e.1=k then 1 else 0)+cntT ps k)) ((if e.1=k then e.2 else 0)+totT ps k)
  by_cases q:e.1=k
  ·rw [if_pos q,if_pos q]
   refine (Nu.L0 (h e gu) ih).mono ?_
   rw [Nat.mul_add]
   omega
  ·rw [if_neg q,if_neg q,Nat.zero_add]
   have z:(0:Rat)+totT ps k=totT ps k:=by grind
   rw [z]
   exact ih
def resT (ps:List (Tx×Rat)):List (Tx×Rat):=((ordT (ps.map (·.1))).filter fun k=>!decide (totT ps k=0)).map fun k=>(k,totT ps k)
theorem X3 (ps:List (Tx×Rat)):(resT ps).map (·.1)=(ordT (ps.map (·.1))).filter fun k=>!decide (totT ps k=0):=by
 unfold resT
 rw [iJ]
 exact List.map_id _
theorem Jn (ps:List (Tx×Rat)):((resT ps).map (·.1)).Pairwise ltT:=by
 rw [X3]
 exact (DO _).filter _
theorem Dm {ks:List Tx} (h:ks.Pairwise ltT):ks.Nodup:=h.imp fun l e=>by subst e;exact LB _ l
theorem Sz {ps qs:List (Tx×Rat)} (h:∀ k,totT ps k=totT qs k):resT ps=resT qs:=by
 have key:(ordT (ps.map (·.1))).filter (fun k=>!decide (totT ps k=0))=(ordT (qs.map (·.1))).filter fun k=>!decide (totT qs k=0):=by
  refine JN ((DO _).filter _) ((DO _).filter _) fun k=>?_
  simp only [iz,ES,Bool.not_eq_true',decide_eq_false_iff_not,h k]
  constructor
  ·rintro ⟨_,n⟩
   refine ⟨?_,n⟩
   by_cases m:k∈qs.map (·.1)
   ·exact m
   ·exact absurd (Cy m) n
  ·rintro ⟨_,n⟩
   refine ⟨?_,n⟩
   by_cases m:k∈ps.map (·.1)
   ·exact m
   ·exact absurd ((h k).symm.trans (Cy m)) n
 have f:(fun k=>(k,totT ps k))=fun k=>(k,totT qs k):=funext fun k=>by rw [h k]
 unfold resT
 rw [key,f]
theorem T1 {k:Tx} {f:Tx→Rat}:∀ {ks:List Tx},ks.Nodup→totT (ks.map fun j=>(j,f j)) k=if k∈ks then f k else 0
 | [],_=>by simp [totT]
 | j::ks,h=>by
  rw [iK] at h
  show (if j=k then f j else 0)+totT (ks.map fun j=>(j,f j)) k=_
  rw [T1 h.2]
  by_cases e:j=k
  ·subst e
   rw [if_pos rfl,if_neg h.1,if_pos gu]
   grind
  ·rw [if_neg e]
   have:(k∈j::ks)↔(k∈ks):=by
    rw [hZ]
    constructor
    ·rintro (z | z)
     ·exact absurd z.symm e
     ·exact z
    ·exact .inr
   simp only [this]
   grind
theorem NR (ps:List (Tx×Rat)) (k:Tx):totT (resT ps) k=totT ps k:=by
 unfold resT
 rw [T1 (Dm ((DO _).filter _))]
 by_cases m:k∈ps.map (·.1)
 ·by_cases z:totT ps k=0
  ·rw [if_neg (by simp [z]),z]
  ·rw [if_pos (by simp [iz,ES,m,z])]
 ·rw [Cy m,if_neg (by simp [iz,ES,m])]
theorem ON {β:Type} {m:List (Tx×β)} {k:Tx} (h:k∉m.map (·.1)):dget m k=none:=by
 unfold dget
 rw [jY.mpr fun e he z=>h (hA.mpr ⟨e,he,of_decide_eq_true z⟩)]
 rfl
theorem GW {β:Type} {m:List (Tx×β)} {k j:Tx} {d:β}:dget (dput m k d) j=if j=k then some d else dget m j:=by
 unfold dput
 split
 ·rename_i a
  induction m with
  | nil=>cases a
  | cons e m ih=>
   rw [hG]
   by_cases h:e.1=k
   ·rw [if_pos h]
    by_cases q:j=k
    ·subst q
     simp [dget,h]
    ·have n:¬ e.1=j:=fun z=>q (z.symm.trans h)
     rw [if_neg q]
     have e1:dget ((e.1,d)::m.map fun e=>if e.1=k then (e.1,d) else e) j=dget (m.map fun e=>if e.1=k then (e.1,d) else e) j:=by simp [dget,n]
     have e2:dget (e::m) j=dget m j:=by simp [dget,n]
     rw [e1,e2]
     clear ih a
     induction m with
     | nil=>rfl
     | cons f m ih=>
      rw [hG]
      by_cases h2:f.1=k
      ·have n2:¬ f.1=j:=fun z=>q (z.symm.trans h2)
       rw [if_pos h2]
       have e3:dget ((f.1,d)::m.map fun e=>if e.1=k then (e.1,d) else e) j=dget (m.map fun e=>if e.1=k then (e.1,d) else e) j:=by simp [dget,n2]
       have e4:dget (f::m) j=dget m j:=by simp [dget,n2]
       rw [e3,e4]
       exact ih (by simp [dget,n]) (by simp [dget,n])
      ·rw [if_neg h2]
       by_cases h3:f.1=j
       ·simp [dget,h3]
       ·have e3:dget (f::m.map fun e=>if e.1=k then (e.1,d) else e) j=dget (m.map fun e=>if e.1=k then (e.1,d) else e) j:=by simp [dget,h3]
        have e4:dget (f::m) j=dget m j:=by simp [dget,h3]
        rw [e3,e4]
        exact ih (by simp [dget,n]) (by simp [dget,n])
   ·have a':(m.any fun e=>decide (e.1=k))=true:=by simpa [h] using a
    rw [if_neg h]
    have ih':=ih a'
    by_cases q:e.1=j
    ·have n:¬ j=k:=fun z=>h (q.trans z)
     rw [if_neg n]
     simp [dget,q]
    ·have e1:dget (e::m.map fun e=>if e.1=k then (e.1,d) else e) j=dget (m.map fun e=>if e.1=k then (e.1,d) else e) j:=by simp [dget,q]
     have e2:dget (e::m) j=dget m j:=by simp [dget,q]
     rw [e1,e2]
     exact ih'
 ·rename_i a
  have no:∀ e∈m,¬ e.1=k:=fun e he z=>a (j0.mpr ⟨e,he,decide_eq_true z⟩)
  unfold dget
  rw [ja]
  by_cases q:j=k
  ·subst q
   rw [if_pos rfl,jY.mpr fun e he z=>no e he (of_decide_eq_true z)]
   simp
  ·rw [if_neg q]
   have n:¬ k=j:=fun z=>q z.symm
   cases f:m.find? fun e=>decide (e.1=j) with
   | none=>simp [n]
   | some x=>simp
theorem GX {β:Type} {m:List (Tx×β)} {k:Tx} {d:β}:(dput m k d).map (·.1)=if k∈m.map (·.1) then m.map (·.1) else m.map (·.1)++[k]:=by
 unfold dput
 have c:(m.any fun e=>decide (e.1=k))=decide (k∈m.map (·.1)):=by
  rw [Bool.eq_iff_iff,j0,decide_eq_true_eq,hA]
  constructor
  ·rintro ⟨e,h1,h2⟩
   exact ⟨e,h1,of_decide_eq_true h2⟩
  ·rintro ⟨e,h1,h2⟩
   exact ⟨e,h1,decide_eq_true h2⟩
 rw [c]
 by_cases h:k∈m.map (·.1)
 ·rw [if_pos (decide_eq_true h),if_pos h,iJ]
  refine jF fun e _=>?_
  show (if e.1=k then (e.1,d) else e).1=e.1
  split <;> rfl
 ·rw [if_neg (by simpa using h),if_neg h,i8]
  rfl
def dotT:List (Tx×Rat)→(Tx→Rat)→Rat
 | [],_=>0
 | e::ps,M=>e.2*M e.1+dotT ps M
def sumT:List Tx→(Tx→Rat)→Rat
 | [],_=>0
 | k::ks,f=>f k+sumT ks f
theorem JO (M:Tx→Rat):∀ ps qs:List (Tx×Rat),dotT (ps++qs) M=dotT ps M+dotT qs M
 | [],qs=>by
  show dotT qs M=0+dotT qs M
  grind
 | e::ps,qs=>by
  show e.2*M e.1+dotT (ps++qs) M=e.2*M e.1+dotT ps M+dotT qs M
  rw [JO M ps qs]
  grind
theorem QC (f g:Tx→Rat):∀ ks:List Tx,sumT ks (fun k=>f k+g k)=sumT ks f+sumT ks g
 | []=>by
  show (0:Rat)=0+0
  grind
 | k::ks=>by
  show f k+g k+sumT ks (fun k=>f k+g k)=f k+sumT ks f+(g k+sumT ks g)
  rw [QC f g ks]
  grind
theorem Ke {f:Tx→Rat}:∀ {ks:List Tx},(∀ k∈ks,f k=0)→sumT ks f=0
 | [],_=>rfl
 | k::ks,h=>by
  show f k+sumT ks f=0
  rw [h k gu,Ke fun j hj=>h j (gz _ hj)]
  grind
theorem Jo {f g:Tx→Rat}:∀ {ks:List Tx},(∀ k∈ks,f k=g k)→sumT ks f=sumT ks g
 | [],_=>rfl
 | k::ks,h=>by
  show f k+sumT ks f=g k+sumT ks g
  rw [h k gu,Jo fun j hj=>h j (gz _ hj)]
theorem QD {a:Tx} {f:Tx→Rat}:∀ {ks:List Tx},ks.Nodup→a∈ks→sumT ks (fun k=>if a=k then f k else 0)=f a
 | [],_,h=>absurd h jH
 | k::ks,nd,h=>by
  rw [iK] at nd
  show (if a=k then f k else 0)+sumT ks (fun k=>if a=k then f k else 0)=f a
  by_cases e:a=k
  ·subst e
   rw [if_pos rfl,Ke fun j hj=>if_neg (fun z=>nd.1 (by rw [z];exact hj))]
   grind
  ·rw [if_neg e,QD nd.2 ((hZ.mp h).resolve_left e)]
   grind
theorem NS (M:Tx→Rat) {ks:List Tx} (nd:ks.Nodup):∀ {ps:List (Tx×Rat)},(∀ e∈ps,e.1∈ks)→dotT ps M=sumT ks (fun k=>totT ps k*M k)
 | [],_=>by
  rw [Ke fun k _=>by show (0:Rat)*M k=0;grind]
  rfl
 | e::ps,h=>by
  have ih:=NS M nd (ps:=ps) fun f m=>h f (gz _ m)
  show e.2*M e.1+dotT ps M=_
  rw [ih]
  have e1:sumT ks (fun k=>totT (e::ps) k*M k)=sumT ks (fun k=>(if e.1=k then e.2*M k else 0)+totT ps k*M k):=Jo fun k _=>by
   show ((if e.1=k then e.2 else 0)+totT ps k)*M k=_
   by_cases q:e.1=k
   ·rw [if_pos q,if_pos q]
    grind
   ·rw [if_neg q,if_neg q]
    grind
  rw [e1,QC,QD (f:=fun k=>e.2*M k) nd (h e gu)]
theorem Jp {ps:List (Tx×Rat)} {e:Tx×Rat} (h:e∈resT ps):e.1∈ps.map (·.1):=by
 unfold resT at h
 obtain ⟨k,hk,rfl⟩:=hA.mp h
 exact ES.mp (iz.mp hk).1
theorem T5 (M:Tx→Rat) (ps:List (Tx×Rat)):dotT (resT ps) M=dotT ps M:=by
 have nd:=Dm (DO (ps.map (·.1)))
 rw [NS M nd (ps:=resT ps) fun e he=>ES.mpr (Jp he),NS M nd (ps:=ps) fun e he=>ES.mpr (iD he)]
 exact Jo fun k _=>by rw [NR]
def scT (ps:List (Tx×Rat)) (r:Rat):List (Tx×Rat):=ps.map fun e=>(e.1,e.2*r)
theorem Vb (r:Rat) (k:Tx):∀ ps:List (Tx×Rat),totT (scT ps r) k=totT ps k*r
 | []=>by
  show (0:Rat)=0*r
  grind
 | e::ps=>by
  show (if e.1=k then e.2*r else 0)+totT (scT ps r) k=((if e.1=k then e.2 else 0)+totT ps k)*r
  rw [Vb r k ps]
  by_cases q:e.1=k
  ·rw [if_pos q,if_pos q]
   grind
  ·rw [if_neg q,if_neg q]
   grind
theorem G5 {e:Tx×Rat}:∀ {ps:List (Tx×Rat)},(ps.map (·.1)).Nodup→e∈ps→totT ps e.1=e.2
 | [],_,h=>absurd h jH
 | f::ps,nd,h=>by
  rw [hG,iK] at nd
  show (if f.1=e.1 then f.2 else 0)+totT ps e.1=e.2
  rcases hZ.mp h with q | q
  ·subst q
   rw [if_pos rfl,Cy nd.1]
   grind
  ·have n:¬ f.1=e.1:=fun z=>nd.1 (by rw [z];exact iD q)
   rw [if_neg n,G5 nd.2 q]
   grind
theorem aq {ps:List (Tx×Rat)} (h:(ps.map (·.1)).Pairwise ltT) (h0:∀ e∈ps,e.2≠0):resT ps=ps:=by
 have nd:=Dm h
 unfold resT
 rw [Yw h]
 have f:(ps.map (·.1)).filter (fun k=>!decide (totT ps k=0))=ps.map (·.1):=by
  rw [List.filter_eq_self]
  intro k hk
  obtain ⟨e,he,rfl⟩:=hA.mp hk
  rw [G5 nd he]
  simpa using h0 e he
 rw [f,iJ]
 conv=>rhs;rw [← List.map_id ps]
 refine jF fun e he=>?_
 show (e.1,totT ps e.1)=e
 rw [G5 nd he]
theorem T6 {xs:List Tx} (nd:xs.Nodup):Dw xs=ordT xs:=by
 have nd2:(Dw xs).Nodup:=(Dk xs).nodup_iff.mpr nd
 refine JN ?_ (DO xs) fun k=>by rw [(Dk xs).mem_iff,ES]
 exact ((V3 xs).and nd2).imp fun h=>X2 h.1 h.2
theorem X4 {xs:List Tx} (nd:xs.Nodup):(Dw xs).Pairwise ltT:=by
 rw [T6 nd]
 exact DO xs
theorem LC (xs:List Tx):(Dw xs).length=xs.length:=(Dk xs).length_eq
def addM (m:List (Tx×Rat)) (e:Tx×Rat):List (Tx×Rat):=dput m e.1 ((dget m e.1).getD 0+e.2)
structure TabT (m ps:List (Tx×Rat)):Prop where
 nd:(m.map (·.1)).Nodup
 mem:∀ k,k∈m.map (·.1)↔k∈ps.map (·.1)
 get:∀ k,k∈ps.map (·.1)→dget m k=some (totT ps k)
 len:m.length≤ps.length
theorem TabT.nil:TabT [] []:=⟨.nil,fun _=>Iff.rfl,fun _ h=>absurd h jH,iA _⟩
theorem TabT.look {m ps:List (Tx×Rat)} (h:TabT m ps) (k:Tx):(dget m k).getD 0=totT ps k:=by
 by_cases q:k∈ps.map (·.1)
 ·rw [h.get k q];rfl
 ·rw [ON (fun z=>q ((h.mem k).mp z)),Cy q];rfl
theorem TabT.put {m ps:List (Tx×Rat)} (h:TabT m ps) (e:Tx×Rat):TabT (addM m e) (ps++[e]):=by
 have tk:∀ k,totT (ps++[e]) k=totT ps k+(if e.1=k then e.2 else 0):=fun k=>by
  rw [Hh]
  show totT ps k+((if e.1=k then e.2 else 0)+0)=_
  grind
 have mk:∀ k,k∈(addM m e).map (·.1)↔k∈(ps++[e]).map (·.1):=fun k=>by
  unfold addM
  rw [GX,i8,hY]
  have hk:=h.mem k
  have he:=h.mem e.1
  split
  ·rename_i c
   constructor
   ·intro z;exact .inl (hk.mp z)
   ·rintro (z | z)
    ·exact hk.mpr z
    ·simp at z;subst z;exact c
  ·rw [hY]
   constructor
   ·rintro (z | z)
    ·exact .inl (hk.mp z)
    ·exact .inr (by simpa using z)
   ·rintro (z | z)
    ·exact .inl (hk.mpr z)
    ·exact .inr (by simpa using z)
 refine ⟨?_,mk,fun k hk=>?_,?_⟩
 ·unfold addM
  rw [GX]
  split
  ·exact h.nd
  ·rename_i c
   rw [iC]
   refine ⟨h.nd,by simp,fun a ha b hb q=>?_⟩
   rw [i6] at hb
   subst hb;subst q
   exact c ha
 ·unfold addM
  rw [GW,tk]
  by_cases q:k=e.1
  ·subst q
   rw [if_pos rfl,if_pos rfl,h.look]
  ·have q':¬ e.1=k:=fun z=>q z.symm
   rw [if_neg q,if_neg q']
   have hp:k∈ps.map (·.1):=by
    rw [i8,hY] at hk
    rcases hk with z | z
    ·exact z
    ·simp at z;exact absurd z q
   rw [h.get k hp]
   congr 1
   grind
 ·have:(addM m e).length=((addM m e).map (·.1)).length:=by simp
  rw [this]
  unfold addM
  rw [GX]
  have:=h.len
  split
  ·simp;omega
  ·simp;omega
theorem TabT.foldl:∀ (qs:List (Tx×Rat)) {m ps:List (Tx×Rat)},TabT m ps→TabT (qs.foldl addM m) (ps++qs)
 | [],m,ps,h=>by rw [iI];exact h
 | e::qs,m,ps,h=>by
  have:=TabT.foldl qs (h.put e)
  rw [iL] at this
  exact this
theorem Vc {m ps:List (Tx×Rat)} (h:TabT m ps):(Dw (m.map Prod.fst)).filterMap (fun k=>if totT ps k=0 then none else some (k,totT ps k))=resT ps:=by
 have e:Dw (m.map Prod.fst)=ordT (ps.map (·.1)):=by
  rw [T6 h.nd]
  exact cu h.mem
 rw [e]
 unfold resT
 generalize ordT (ps.map (·.1))=l
 induction l with
 | nil=>rfl
 | cons k l ih=>
  rw [List.filterMap_cons]
  by_cases q:totT ps k=0
  ·rw [if_pos q,List.filter_cons_of_neg (by simp [q])]
   exact ih
  ·rw [if_neg q,List.filter_cons_of_pos (by simp [q]),hG]
   simp only [ih]
end
section
open TL PySem L2 Res
theorem way3 {x:Tx} (h:x∈[BU,BF,Bl]):x=BU∨x=BF∨x=Bl:=by simpa using h
theorem is07 (r:Rat):l_is r r=.ok true:=by
 unfold l_is
 rw [if_neg (by simp),Az (by simp),A3,J7 (fun _=>some true) () _ fun x hx=>rfl,HL,A3]
 rfl
def due (z:Siz) (w:Tx) (v:Rat):Rat:=if w=BU then 0 else if w=BF then v - z.2.1 else z.2.2.1 - v
theorem X5 {a b:Rat} (ha:Nu.Bd 3000 a) (hb:Nu.Bd 3000 b):EJ a b=.ok (a - b):=by
 unfold EJ
 have e:mkQ ((0:Int) - b.num) ((b.den:Nat):Int)=some (-b):=by
  rw [← KM (-b)]
  show mkQ (0 - b.num) (b.den:Int)=mkQ (-b.num) (b.den:Int)
  rw [Int.zero_sub]
 have nb:Nu.Bd 3000 (-b):=⟨by show (-b.num).natAbs < _;rw [Int.natAbs_neg];exact hb.1,hb.2⟩
 rw [e,AS,A3,Kc ha nb,A3,Rat.sub_eq_add_neg]
end
section
open TL PySem L2 Res
def nmz (z:Siz):List Tx:=z.1::z.2.2.2.map (·.1)
def alln (zs:List Siz):List Tx:=zs.flatMap nmz
structure StOk (zs:List Siz):Prop where
 sz:∀ z∈zs,SzOk z
 nd:(alln zs).Nodup
 le:(alln zs).length≤12
theorem ET (xs ys:List Siz):alln (xs++ys)=alln xs++alln ys:=by simp [alln]
theorem Fe (z:Siz) (ys:List Siz):alln (z::ys)=nmz z++alln ys:=rfl
theorem MZ:∀ zs:List Siz,zs.length≤(alln zs).length
 | []=>iA _
 | z::zs=>by
  have:=MZ zs
  rw [Fe,List.length_append]
  simp [nmz]
  omega
end
section
open TL PySem L2 Res
theorem Vd {m:List (Tx×Rat)} {k:Tx} {v:Rat} (h:dget m k=some v):(k,v)∈m:=by
 unfold dget at h
 obtain ⟨e,he,rfl⟩:=ia.mp h
 have h1:=List.find?_some he
 have h2:=List.mem_of_find?_eq_some he
 have:e.1=k:=by simpa using h1
 rw [← this]
 exact h2
def room (z:Siz) (e:Shi) (v:Rat):Rat:=e.2.1+due z e.2.2 v
def shk (z:Siz) (mk:List (Tx×Rat)) (v:Rat) (e:Shi):Bool:=match dget mk e.1 with
 | none=>false
 | some t=>!decide (t < 0 - room z e v) && !decide (room z e v < t)
def kept (mk:List (Tx×Rat)) (z:Siz):Bool:=match dget mk z.1 with
 | none=>false
 | some v=>(!decide (v < z.2.1) && !decide (z.2.2.1 < v)) && z.2.2.2.all (shk z mk v)
def ar (zs:List Siz) (mk:List (Tx×Rat)):Bool:=decide (Dw (mk.map Prod.fst)=Dw (alln zs)) && zs.all (kept mk)
def AllBd (n:Nat) (mk:List (Tx×Rat)):Prop:=∀ p∈mk,Nu.Bd n p.2
theorem fN {z:Siz} {v:Rat} {w:Tx} {n:Nat} (h:SzOk z) (hv:Nu.Bd n v):Nu.Bd (n+126) (due z w v):=by
 unfold due
 split
 ·exact bd0' (by omega)
 ·split
  ·exact (Nu.KI hv h.bl).mono (by omega)
  ·exact (Nu.KI h.bm hv).mono (by omega)
theorem cv {z:Siz} {v:Rat} {e:Shi} {n:Nat} (h:SzOk z) (he:ShOk e) (hv:Nu.Bd n v):Nu.Bd (n+189) (room z e v):=(Nu.L0 he.bd (fN h hv)).mono (by omega)
theorem au {z:Siz} {e:Shi} {v:Rat} (h:SzOk z) (he:e∈z.2.2.2) (hv:Nu.Bd 1100 v):Lh z e.1 v=.ok (some (room z e v)):=by
  have u:∀ {n:Nat} {r:Rat},Nu.Bd n r→n≤3000→Nu.Bd 3000 r:=fun h l=>h.mono l
  have nd:(z.2.2.2.map (·.1)).Nodup:=(iK.mp h.nd).2
  have n1:BF≠BU:=by decide +kernel
  have n2:Bl≠BU:=by decide +kernel
  have n3:Bl≠BF:=by decide +kernel
  have key:(Lh z e.1 v).To (·=some (room z e v)):=by
    unfold Lh
    rw [A3]
    refine To.loop (fun pre _=>∀ x∈pre,x.1≠e.1) (fun x hx=>by cases hx) ?_ fun s hs=>absurd rfl (hs e he)
    intro pre x post s hp hs nx hnx
    have hx:x∈z.2.2.2:=by rw [hp];simp
    unfold NQ
    by_cases c:x.1=e.1
    · have xe:x=e:=by
        obtain ⟨i,hi,e1⟩:=List.mem_iff_getElem.mp hx
        obtain ⟨j,hj,e2⟩:=List.mem_iff_getElem.mp he
        have ij:i=j:=by
          have q:=jN.mp nd
          rcases Nat.lt_trichotomy i j with l | l | l
          · have:=q i j (by simpa using hi) (by simpa using hj) l
            rw [jT,jT,e1,e2] at this
            exact absurd c this
          · exact l
          · have:=q j i (by simpa using hj) (by simpa using hi) l
            rw [jT,jT,e1,e2] at this
            exact absurd c.symm this
        subst ij
        rw [← e1,← e2]
      subst xe
      have eo:=h.sh x hx
      unfold room due
      rcases way3 eo.way with w | w | w
      · rw [if_pos (by simp [w]),if_pos w,Rat.add_zero]
        exact .ok rfl
      · rw [if_neg (by simp [w,n1]),if_pos (by simp [w]),if_neg (by rw [w];exact n1),if_pos w,X5 (u hv (by decide)) (u h.bl (by decide)),A3,Kc (u eo.bd (by decide)) (u (Nu.KI hv h.bl) (by decide)),A3]
        exact .ok rfl
      · rw [if_neg (by simp [w,n2]),if_neg (by simp [w,n3]),if_pos (by simp),if_neg (by rw [w];exact n2),if_neg (by rw [w];exact n3),X5 (u h.bm (by decide)) (u hv (by decide)),A3,Kc (u eo.bd (by decide)) (u (Nu.KI h.bm hv) (by decide)),A3]
        exact .ok rfl
    · rw [if_neg (by simp [c]),if_neg (by simp [c]),if_neg (by simp [c])]
      refine hnx () fun y hy=>?_
      rcases hY.mp hy with q | q
      · exact hs y q
      · simp at q
        subst q
        exact c
  obtain ⟨r,e,rfl⟩:=key
  exact e
end
section
open TL PySem L2 Res
section
variable {a b:Rat} {n m:Nat} (ha:Nu.Bd n a) (hb:Nu.Bd m b) (h:n+m≤8000)
include ha hb h
theorem JP:((a.den:Int)*(b.den:Int)).natAbs < 2 ^ 8000:=Nu.C4 (Nu.B5 (Nu.AU ha) (Nu.AU hb)) h
theorem YD:GQ a b=.ok (a+b):=by
 unfold GQ
 rw [Az (cq ha.1 (Nu.AU hb) (by omega) (by omega)),A3,Az (cq hb.1 (Nu.AU ha) (by omega) (by omega)),A3,Az (cq (Nu.AU ha) (Nu.AU hb) (by omega) (by omega)),A3,
  G4 (Nw a b) (JP ha hb h),A3,Nu.MG]
theorem av:Jf a b=.ok (a - b):=by
 unfold Jf
 rw [Az (cq ha.1 (Nu.AU hb) (by omega) (by omega)),A3,Az (cq hb.1 (Nu.AU ha) (by omega) (by omega)),A3,Az (cq (Nu.AU ha) (Nu.AU hb) (by omega) (by omega)),A3,
  G4 (Nw a b) (JP ha hb h),A3,Nu.Ul]
theorem fO:L6 a b=.ok (a*b):=by
 unfold L6
 rw [Az (cq ha.1 hb.1 (by omega) (by omega)),A3,Az (cq (Nu.AU ha) (Nu.AU hb) (by omega) (by omega)),A3,G4 (Nw a b) (JP ha hb h),A3,Nu.MH]
theorem add2:Hz a b=.ok (a+b):=by
 unfold Hz
 rw [Az (cq ha.1 (Nu.AU hb) (by omega) (by omega)),A3,Az (cq hb.1 (Nu.AU ha) (by omega) (by omega)),A3,Az (cq (Nu.AU ha) (Nu.AU hb) (by omega) (by omega)),A3,
  ER (Nw a b) (JP ha hb h),A3,Nu.MG]
theorem mul2:Hy a b=.ok (a*b):=by
 unfold Hy
 rw [Az (cq ha.1 hb.1 (by omega) (by omega)),A3,Az (cq (Nu.AU ha) (Nu.AU hb) (by omega) (by omega)),A3,ER (Nw a b) (JP ha hb h),A3,Nu.MH]
theorem aw:GS a b=.ok (decide (a < b)):=by
 unfold GS
 rw [Az (cq ha.1 (Nu.AU hb) (by omega) (by omega)),A3,Az (cq hb.1 (Nu.AU ha) (by omega) (by omega)),A3]
 congr 1
 exact decide_eq_decide.mpr (Nu.PF a b)
theorem X6:Ji a b=.ok (decide (a < b)):=aw ha hb h
end
def sumQ:List Rat→Rat
 | []=>0
 | x::xs=>x+sumQ xs
end
section
namespace Res
variable {ε ε' α β γ σ ρ:Type}
theorem To.wloopN {body:σ→(σ→Res ε ρ)→Res ε ρ} {P:ρ→Prop} {K:Nat} (I:Nat→σ→Prop) (few:∀ k s,I k s→k < K):∀ {n k:Nat} {s0:σ},I k s0→K≤n+k →
    (∀ k s,I k s→∀ nx:σ→Res ε ρ,(∀ s',I (k+1) s'→(nx s').To P)→(body s nx).To P)→(Res.wloop body n s0).To P:=by
  intro n
  induction n with
  | zero=>intro k s0 h0 hn _;have:=few k s0 h0;omega
  | succ n ih=>
    intro k s0 h0 hn step
    exact step k s0 h0 _ fun s' h1=>ih h1 (by omega) step
end Res
end
section
namespace PD
abbrev Fn:=List Nat→Int
def L (a:Nat→Int):Fn→Fn
 | _,[]=>0
 | f,c::cs=>a c*f cs - L a (fun l=>f (c::l)) cs
def Alt (f:Fn):Prop:=∀ x p q y,f (x++p::q::y)=- f (x++q::p::y)
theorem Alt.cons {f:Fn} (h:Alt f) (c:Nat):Alt (fun l=>f (c::l)):=fun x p q y=>h (c::x) p q y
theorem X7 (a:Nat→Int):∀ cs,L a (fun _=>0) cs=0
 | []=>rfl
 | c::cs=>by
  show a c*0 - L a (fun _=>0) cs=0
  rw [X7 a cs];omega
theorem T7 (a:Nat→Int) (k m:Int):∀ (f g:Fn) (cs:List Nat),L a (fun l=>k*f l+m*g l) cs=k*L a f cs+m*L a g cs
 | f,g,[]=>by show (0:Int)=k*0+m*0;omega
 | f,g,c::cs=>by
  show a c*(k*f cs+m*g cs) - L a (fun l=>k*f (c::l)+m*g (c::l)) cs=k*(a c*f cs - L a (fun l=>f (c::l)) cs)+m*(a c*g cs - L a (fun l=>g (c::l)) cs)
  rw [T7 a k m (fun l=>f (c::l)) (fun l=>g (c::l)) cs]
  grind
theorem eC (a:Nat→Int) (f:Fn) (cs:List Nat):L a (fun l=>- f l) cs=- L a f cs:=by
 have:=T7 a (-1) 0 f f cs
 have e:(fun l=>-1*f l+0*f l)=fun l=>- f l:=by funext l;omega
 rw [e] at this
 rw [this];omega
theorem gS {a:Nat→Int} {f:Fn} (h:Alt f):Alt (L a f):=by
 intro x
 induction x generalizing f with
 | nil=>
  intro p q y
  show a p*f (q::y) - (a q*f (p::y) - L a (fun l=>f (p::q::l)) y)=-(a q*f (p::y) - (a p*f (q::y) - L a (fun l=>f (q::p::l)) y))
  have e:(fun l=>f (p::q::l))=fun l=>- f (q::p::l):=by funext l;exact h [] p q l
  rw [e,eC]
  omega
 | cons c x ih=>
  intro p q y
  show a c*f (x++p::q::y) - L a (fun l=>f (c::l)) (x++p::q::y)=-(a c*f (x++q::p::y) - L a (fun l=>f (c::l)) (x++q::p::y))
  rw [h x p q y,ih (h.cons c) p q y]
  grind
theorem X8 (a b:Nat→Int):∀ (f:Fn) (cs:List Nat),L a (L b f) cs=- L b (L a f) cs
 | f,[]=>rfl
 | f,c::cs=>by
  have ih:=X8 a b (fun l=>f (c::l)) cs
  show a c*L b f cs - L a (fun l=>b c*f l - L b (fun l=>f (c::l)) l) cs=-(b c*L a f cs - L b (fun l=>a c*f l - L a (fun l=>f (c::l)) l) cs)
  have e1:(fun l=>b c*f l - L b (fun l=>f (c::l)) l)=fun l=>b c*f l+(-1)*L b (fun l=>f (c::l)) l:=by funext l;omega
  have e2:(fun l=>a c*f l - L a (fun l=>f (c::l)) l)=fun l=>a c*f l+(-1)*L a (fun l=>f (c::l)) l:=by funext l;omega
  rw [e1,e2,T7,T7,ih]
  grind
def base:Fn:=fun cs=>if cs=[] then 1 else 0
def det (rows:List (Nat→Int)):Fn:=rows.foldr (fun a f=>L a f) base
theorem az:Alt base:=fun x p q y=>by
 unfold base
 rw [if_neg (by simp),if_neg (by simp)];rfl
theorem Mc:∀ rows,Alt (det rows)
 | []=>az
 | a::rows=>gS (Mc rows)
theorem T8 (a:Nat→Int) (f:Fn):∀ (x:List (Nat→Int)) (cs:List Nat),L a (x.foldr (fun a f=>L a f) (L a f)) cs=0
 | [],cs=>by have:=X8 a a f cs;show L a (L a f) cs=0;omega
 | b::x,cs=>by
  show L a (L b (x.foldr (fun a f=>L a f) (L a f))) cs=0
  rw [X8]
  have e:L a (x.foldr (fun a f=>L a f) (L a f))=fun _=>0:=by funext l;exact T8 a f x l
  rw [e,X7];rfl
theorem Yx {a:Nat→Int} {rows:List (Nat→Int)} (h:a∈rows) (cs:List Nat):L a (det rows) cs=0:=by
 obtain ⟨x,y,rfl⟩:=List.append_of_mem h
 have e:det (x++a::y)=x.foldr (fun a f=>L a f) (L a (det y)):=by
  unfold det
  rw [List.foldr_append]
  rfl
 rw [e]
 exact T8 a (det y) x cs
def sumN:Nat→(Nat→Int)→Int
 | 0,_=>0
 | n+1,g=>g 0+sumN n fun k=>g (k+1)
theorem IH:∀ {n:Nat} {g h:Nat→Int},(∀ k,k < n→g k=h k)→sumN n g=sumN n h
 | 0,_,_,_=>rfl
 | n+1,g,h,e=>by
  show g 0+_=h 0+_
  rw [e 0 (by omega),IH (n:=n) fun k hk=>e (k+1) (by omega)]
theorem Md (m:Int):∀ (n:Nat) (g:Nat→Int),sumN n (fun k=>m*g k)=m*sumN n g
 | 0,_=>by show (0:Int)=m*0;omega
 | n+1,g=>by
  show m*g 0+sumN n (fun k=>m*g (k+1))=m*(g 0+sumN n fun k=>g (k+1))
  rw [Md m n fun k=>g (k+1)];grind
theorem Kf:∀ (n:Nat) (g h:Nat→Int),sumN n (fun k=>g k - h k)=sumN n g - sumN n h
 | 0,_,_=>rfl
 | n+1,g,h=>by
  show g 0 - h 0+sumN n (fun k=>g (k+1) - h (k+1))=(g 0+sumN n fun k=>g (k+1)) - (h 0+sumN n fun k=>h (k+1))
  rw [Kf n (fun k=>g (k+1)) fun k=>h (k+1)];omega
theorem NT:∀ (n:Nat),sumN n (fun _=>0)=0
 | 0=>rfl
 | n+1=>by show 0+sumN n (fun _=>0)=0;rw [NT n];rfl
theorem eD (a:Nat→Int) (v:Nat):∀ (B:List Nat) (f:Fn),Alt f→L a (fun l=>f (v::l)) B=sumN B.length fun k=>a (B.getD k 0)*f (B.set k v)
 | [],f,_=>rfl
 | c::B,f,h=>by
  show a c*f (v::B) - L a (fun l=>f (v::c::l)) B=a c*f (v::B)+sumN B.length fun k=>a (B.getD k 0)*f (c::B.set k v)
  have e:(fun l=>f (v::c::l))=fun l=>- f (c::v::l):=by funext l;exact h [] v c l
  rw [e,eC,eD a v B (fun l=>f (c::l)) (h.cons c)]
  omega
theorem cramer {a:Nat→Int} {rows:List (Nat→Int)} (h:a∈rows) (B:List Nat) (v:Nat):det rows B*a v=sumN B.length fun k=>det rows (B.set k v)*a (B.getD k 0):=by
 have z:=Yx h (v::B)
 have z':a v*det rows B - L a (fun l=>det rows (v::l)) B=0:=z
 rw [eD a v B (det rows) (Mc rows)] at z'
 have e:(sumN B.length fun k=>det rows (B.set k v)*a (B.getD k 0))=sumN B.length fun k=>a (B.getD k 0)*det rows (B.set k v):=IH fun k _=>Int.mul_comm _ _
 rw [e,Int.mul_comm]
 omega
theorem gT (a:Nat→Int) (w:Nat→Int) (g:Nat→Fn) (cs:List Nat):∀ n,L a (fun l=>sumN n fun k=>w k*g k l) cs=sumN n fun k=>w k*L a (g k) cs:=by
 intro n
 induction n generalizing w g with
 | zero=>exact X7 a cs
 | succ n ih=>
  show L a (fun l=>w 0*g 0 l+sumN n fun k=>w (k+1)*g (k+1) l) cs=w 0*L a (g 0) cs+sumN n fun k=>w (k+1)*L a (g (k+1)) cs
  rw [← ih (fun k=>w (k+1)) (fun k=>g (k+1))]
  have e:(fun l=>w 0*g 0 l+sumN n fun k=>w (k+1)*g (k+1) l)=fun l=>w 0*g 0 l+1*(sumN n fun k=>w (k+1)*g (k+1) l):=by funext l;omega
  rw [e,T7];omega
theorem Tp {D:Int} {t:Nat} {n:Nat} {w:Nat→Int} {b:Nat→Nat}:∀ (rows:List (Nat→Int)),(∀ a∈rows,D*a t=sumN n fun k=>w k*a (b k))→∀ x y,D*det rows (x++t::y)=sumN n fun k=>w k*det rows (x++b k::y)
 | [],_,x,y=>by
  show D*base _=sumN n fun k=>w k*base _
  unfold base
  rw [if_neg (by simp)]
  have:(fun k=>w k*(if x++b k::y=[] then (1:Int) else 0))=fun _=>0:=by funext k;rw [if_neg (by simp)];omega
  rw [this,NT];omega
 | a::rows,h,x,y=>by
  have ih:=Tp rows fun a ha=>h a (gz _ ha)
  have key:∀ (x:List Nat) (f:Fn),(∀ x y,D*f (x++t::y)=sumN n fun k=>w k*f (x++b k::y))→D*L a f (x++t::y)=sumN n fun k=>w k*L a f (x++b k::y):=by
   intro x
   induction x with
   | nil=>
    intro f hf
    show D*(a t*f y - L a (fun l=>f (t::l)) y)=sumN n fun k=>w k*(a (b k)*f y - L a (fun l=>f (b k::l)) y)
    have e1:(fun k=>w k*(a (b k)*f y - L a (fun l=>f (b k::l)) y))=fun k=>f y*(w k*a (b k)) - w k*L a (fun l=>f (b k::l)) y:=by funext k;grind
    rw [e1,Kf,Md,← h a gu,← gT]
    have e2:(fun l=>sumN n fun k=>w k*f (b k::l))=fun l=>D*f (t::l)+0*f l:=by
     funext l
     have:=hf [] l
     rw [show D*f (t::l)=sumN n fun k=>w k*f (b k::l) from this];omega
    rw [e2,T7]
    grind
   | cons c x ihx=>
    intro f hf
    show D*(a c*f (x++t::y) - L a (fun l=>f (c::l)) (x++t::y))=sumN n fun k=>w k*(a c*f (x++b k::y) - L a (fun l=>f (c::l)) (x++b k::y))
    have e1:(fun k=>w k*(a c*f (x++b k::y) - L a (fun l=>f (c::l)) (x++b k::y)))=fun k=>a c*(w k*f (x++b k::y)) - w k*L a (fun l=>f (c::l)) (x++b k::y):=by funext k;grind
    have:=ihx (fun l=>f (c::l)) fun x y=>hf (c::x) y
    rw [e1,Kf,Md,← hf x y,← this]
    grind
  exact key x (det rows) ih
end PD
end
section
namespace PD
theorem Me {f:Fn} (h:Alt f):∀ (y x:List Nat) (p q:Nat) (z:List Nat),f (x++p::(y++q::z))=- f (x++q::(y++p::z))
 | [],x,p,q,z=>h x p q z
 | c::y,x,p,q,z=>by
  have e1:=h x p c (y++q::z)
  have e2:=Me h y (x++[c]) p q z
  have e3:=h x q c (y++p::z)
  rw [iL,iL] at e2
  show f (x++p::c::(y++q::z))=- f (x++q::c::(y++p::z))
  have e2':f (x++c::p::(y++q::z))=- f (x++c::q::(y++p::z)):=e2
  omega
theorem YE {f:Fn} (h:Alt f) (x y z:List Nat) (p:Nat):f (x++p::(y++p::z))=0:=by
 have:=Me h y x p p z
 omega
theorem Tq {C:List Nat} {p q:Nat} (pq:p < q) (hq:q < C.length):∃ x y z,C=x++C.getD p 0::(y++C.getD q 0::z)∧∀ u v,(C.set p u).set q v=x++u::(y++v::z):=by
 have hp:p < C.length:=by omega
 refine ⟨C.take p,(C.drop (p+1)).take (q - p - 1),C.drop (q+1),?_,fun u v=>?_⟩
 ·refine iZ fun i=>?_
  have lx:(C.take p).length=p:=by rw [jU];omega
  by_cases h1:i < p
  ·rw [iR (by omega),jV h1]
  ·rw [iS (by omega),lx]
   by_cases h2:i=p
   ·subst h2
    simp [hU,hJ hp]
   ·obtain ⟨d,rfl⟩:=jX (show p+1≤i by omega)
    rw [show p+1+d - p=d+1 by omega,ig]
    have ly:((C.drop (p+1)).take (q - p - 1)).length=q - p - 1:=by rw [jU,List.length_drop];omega
    by_cases h3:d < q - p - 1
    ·rw [iR (by omega),jV h3,List.getElem?_drop]
    ·rw [iS (by omega),ly]
     by_cases h4:d=q - p - 1
     ·subst h4
      rw [show p+1+(q - p - 1)=q by omega]
      simp [hU,hJ hq]
     ·obtain ⟨e,rfl⟩:=jX (show q - p - 1+1≤d by omega)
      rw [show q - p - 1+1+e - (q - p - 1)=e+1 by omega,ig,List.getElem?_drop]
      congr 1
      omega
 ·refine iZ fun i=>?_
  have lx:(C.take p).length=p:=by rw [jU];omega
  by_cases h1:i < p
  ·rw [iR (by omega),jV h1,i9 (by omega),i9 (by omega)]
  ·rw [iS (by omega),lx]
   by_cases h2:i=p
   ·subst h2
    rw [i9 (by omega),iQ hp]
    simp
   ·obtain ⟨d,rfl⟩:=jX (show p+1≤i by omega)
    rw [show p+1+d - p=d+1 by omega,ig]
    have ly:((C.drop (p+1)).take (q - p - 1)).length=q - p - 1:=by rw [jU,List.length_drop];omega
    by_cases h3:d < q - p - 1
    ·rw [iR (by omega),jV h3,List.getElem?_drop,i9 (by omega),i9 (by omega)]
    ·rw [iS (by omega),ly]
     by_cases h4:d=q - p - 1
     ·subst h4
      rw [show p+1+(q - p - 1)=q by omega,iQ (by rw [iX];exact hq)]
      simp
     ·obtain ⟨e,rfl⟩:=jX (show q - p - 1+1≤d by omega)
      rw [show q - p - 1+1+e - (q - p - 1)=e+1 by omega,ig,List.getElem?_drop,i9 (by omega),i9 (by omega)]
      congr 1
      omega
theorem b8 {f:Fn} (h:Alt f) {C:List Nat} {p q:Nat} (pq:p≠q) (hp:p < C.length) (hq:q < C.length) (u v:Nat):f ((C.set p u).set q v)=- f ((C.set p v).set q u):=by
 rcases Nat.lt_or_gt_of_ne pq with l | l
 ·obtain ⟨x,y,z,_,e⟩:=Tq l hq
  rw [e,e]
  exact Me h y x u v z
 ·obtain ⟨x,y,z,_,e⟩:=Tq l hp
  rw [List.set_comm _ _ pq,List.set_comm _ _ pq,e,e]
  exact Me h y x v u z
theorem NU {f:Fn} (h:Alt f) {C:List Nat} {p q:Nat} (pq:p≠q) (hp:p < C.length) (hq:q < C.length) (e:C.getD p 0=C.getD q 0):f C=0:=by
 rcases Nat.lt_or_gt_of_ne pq with l | l
 ·obtain ⟨x,y,z,e1,_⟩:=Tq l hq
  rw [e1,e]
  exact YE h x y z _
 ·obtain ⟨x,y,z,e1,_⟩:=Tq l hp
  rw [e1,e]
  exact YE h x y z _
theorem Mf:∀ {n:Nat} {g:Nat→Int} {i:Nat},i < n→(∀ k,k < n→k≠i→g k=0)→sumN n g=g i
 | n+1,g,0,_,h=>by
  show g 0+sumN n (fun k=>g (k+1))=g 0
  rw [IH (h:=fun _=>0) fun k hk=>h (k+1) (by omega) (by omega),NT];omega
 | n+1,g,i+1,hi,h=>by
  show g 0+sumN n (fun k=>g (k+1))=g (i+1)
  rw [h 0 (by omega) (by omega),Mf (g:=fun k=>g (k+1)) (i:=i) (by omega) fun k hk ne=>h (k+1) (by omega) (by omega)];omega
theorem b9 {n:Nat} {g:Nat→Int} {i s:Nat} (hi:i < n) (hs:s < n) (ne:i≠s) (h:∀ k,k < n→k≠i→k≠s→g k=0):sumN n g=g i+g s:=by
 have e:sumN n g=sumN n (fun k=>if k=s then 0 else g k)+sumN n (fun k=>if k=s then g k else 0):=by
  have:=Kf n g fun k=>if k=s then g k else 0
  have e2:sumN n (fun k=>g k - if k=s then g k else 0)=sumN n fun k=>if k=s then 0 else g k:=IH fun k _=>by split <;> omega
  omega
 have a1:=Mf (g:=fun k=>if k=s then 0 else g k) hi fun k hk n2=>by
  by_cases c:k=s
  ·exact if_pos c
  ·exact (if_neg c).trans (h k hk n2 c)
 have a2:=Mf (g:=fun k=>if k=s then g k else 0) hs fun k hk n2=>if_neg n2
 rw [e,a1,a2]
 simp [ne]
theorem three {rows:List (Nat→Int)} {B:List Nat} {i s:Nat} (hi:i < B.length) (hs:s < B.length) (ne:i≠s) (t j:Nat) :
    det rows B*det rows ((B.set i j).set s t)=det rows (B.set i j)*det rows (B.set s t) - det rows (B.set i t)*det rows (B.set s j):=by
  have al:=Mc rows
  have lin:=Tp (D:=det rows B) (t:=t) (n:=B.length) (w:=fun k=>det rows (B.set k t)) (b:=fun k=>B.getD k 0) rows (fun a ha=>cramer ha B t) ((B.set i j).take s) ((B.set i j).drop (s+1))
  have st0:∀ (C:List Nat) (v:Nat),s < C.length→C.take s++v::C.drop (s+1)=C.set s v:=fun C v h=>by
    rw [List.set_eq_take_append_cons_drop,if_pos h]
  have st:∀ v,(B.set i j).take s++v::(B.set i j).drop (s+1)=(B.set i j).set s v:=fun v=>st0 _ v (by rw [iX];exact hs)
  simp only [st] at lin
  rw [lin,b9 (i:=i) (s:=s) hi hs ne ?_]
  · have e1:(B.set i j).set s (B.getD s 0)=B.set i j:=by
      refine iZ fun k=>?_
      by_cases c:k=s
      · subst c
        rw [iQ (by rw [iX];exact hs),i9 (by omega)]
        simp [hU,hJ hs]
      · rw [i9 (by omega)]
    have e2:det rows ((B.set i j).set s (B.getD i 0))=- det rows (B.set s j):=by
      rw [b8 al ne hi hs j (B.getD i 0)]
      congr 1
      have:(B.set i (B.getD i 0))=B:=by
        refine iZ fun k=>?_
        by_cases c:k=i
        · subst c
          rw [iQ hi]
          simp [hU,hJ hi]
        · rw [i9 (by omega)]
      rw [this]
    rw [e1,e2]
    grind
  · intro k hk ki ks
    have z:det rows ((B.set i j).set s (B.getD k 0))=0:=by
      refine NU al (p:=k) (q:=s) ks (by simpa using hk) (by simpa using hs) ?_
      generalize hx:B.getD k 0=x
      rw [hU,hU,i9 (by omega),i9 (by omega),iQ (by rw [iX];exact hs),← hx]
      simp [hU]
    rw [z];omega
end PD
end
section
namespace PD
def tt (rows:List (Nat→Int)) (g:Int) (B:List Nat) (i v:Nat):Int:=g*det rows (B.set i v)
def uu (rows:List (Nat→Int)) (g:Int) (B:List Nat):Int:=g*det rows B
section
variable {rows:List (Nat→Int)} {g:Int} {B:List Nat}
theorem set_own {i:Nat} (hi:i < B.length):B.set i (B.getD i 0)=B:=by
 refine iZ fun k=>?_
 by_cases c:k=i
 ·subst c
  rw [iQ hi]
  simp [hU,hJ hi]
 ·rw [i9 (by omega)]
theorem fP {i:Nat} (hi:i < B.length):tt rows g B i (B.getD i 0)=uu rows g B:=by
 unfold tt uu
 rw [set_own hi]
theorem Ve {i k:Nat} (hi:i < B.length) (hk:k < B.length) (ne:i≠k):tt rows g B i (B.getD k 0)=0:=by
 unfold tt
 rw [NU (Mc rows) (C:=B.set i (B.getD k 0)) (p:=i) (q:=k) ne (by simpa using hi) (by simpa using hk) ?_]
 ·omega
 ·generalize hx:B.getD k 0=x
  rw [hU,hU,iQ hi,i9 (by omega),← hx]
  simp [hU]
variable (hg:g*g=1)
include hg
theorem QE {i s:Nat} (hi:i < B.length) (hs:s < B.length) (ne:i≠s) (t j:Nat):tt rows g B i j*tt rows g B s t - tt rows g B i t*tt rows g B s j=uu rows g B*tt rows g (B.set s t) i j:=by
 have h:=three (rows:=rows) hi hs ne t j
 unfold tt uu
 rw [List.set_comm _ _ ne.symm]
 have e1:g*det rows (B.set i j)*(g*det rows (B.set s t))=(g*g)*(det rows (B.set i j)*det rows (B.set s t)):=by grind
 have e2:g*det rows (B.set i t)*(g*det rows (B.set s j))=(g*g)*(det rows (B.set i t)*det rows (B.set s j)):=by grind
 have e3:g*det rows B*(g*det rows ((B.set i j).set s t))=(g*g)*(det rows B*det rows ((B.set i j).set s t)):=by grind
 rw [e1,e2,e3,hg,h]
 omega
omit hg in
theorem bA {s:Nat} (t j:Nat):tt rows g (B.set s t) s j=tt rows g B s j:=by
 unfold tt
 rw [List.set_set]
omit hg in
theorem fQ {s:Nat} (t:Nat):uu rows g (B.set s t)=tt rows g B s t:=rfl
theorem cw {C:List Nat} {z:Nat} {g':Int} (v:Nat) (hz:z < C.length):uu rows g B*tt rows g' C z v=sumN B.length fun k=>tt rows g B k v*tt rows g' C z (B.getD k 0):=by
 have lin:=Tp (D:=det rows B) (t:=v) (n:=B.length) (w:=fun k=>det rows (B.set k v)) (b:=fun k=>B.getD k 0) rows (fun a ha=>cramer ha B v) (C.take z) (C.drop (z+1))
 have st:∀ u,C.take z++u::C.drop (z+1)=C.set z u:=fun u=>by
  rw [List.set_eq_take_append_cons_drop,if_pos hz]
 simp only [st] at lin
 unfold uu tt
 have e:(fun k=>g*det rows (B.set k v)*(g'*det rows (C.set z (B.getD k 0))))=fun k=>(g*g')*(det rows (B.set k v)*det rows (C.set z (B.getD k 0))):=by funext k;grind
 rw [e,Md,← lin]
 grind
end
theorem Vf:∀ {n:Nat} {f:Nat→Int},0 < sumN n f→∃ k,k < n∧0 < f k
 | 0,f,h=>absurd h (by show ¬ (0:Int) < 0;omega)
 | n+1,f,h=>by
  by_cases c:0 < f 0
  ·exact ⟨0,by omega,c⟩
  ·have h':0 < f 0+sumN n fun k=>f (k+1):=h
   obtain ⟨k,hk,hf⟩:=Vf (n:=n) (f:=fun k=>f (k+1)) (by omega)
   exact ⟨k+1,by omega,hf⟩
theorem X9 {n:Nat} {f:Nat→Int} {z:Nat} (hz:z < n):sumN n f=f z+sumN n fun k=>if k=z then 0 else f k:=by
 have e:sumN n f=sumN n (fun k=>if k=z then 0 else f k)+sumN n (fun k=>if k=z then f k else 0):=by
  have:=Kf n f fun k=>if k=z then f k else 0
  have e2:sumN n (fun k=>f k - if k=z then f k else 0)=sumN n fun k=>if k=z then 0 else f k:=IH fun k _=>by split <;> omega
  omega
 have a2:=Mf (g:=fun k=>if k=z then f k else 0) hz fun k hk n2=>if_neg n2
 rw [e,a2]
 simp
 omega
end PD
end
section
namespace PD
structure Piv (rows:List (Nat→Int)) (g:Int) (z c m N:Nat) (B:List Nat) (s a:Nat):Prop where
 am:a < m
 mz:m≤z
 zl:z < B.length
 up:0 < uu rows g B
 sv:s < N
 sB:s∉B
 ent:tt rows g B z s < 0
 least:∀ v,v < N→v∉B→tt rows g B z v < 0→s≤v
 lv:0 < tt rows g B a s
 fe:∀ k,k < m→0≤tt rows g B k c
 ratio:∀ k,k < m→0 < tt rows g B k s→tt rows g B a c*tt rows g B k s=tt rows g B k c*tt rows g B a s→B.getD a 0≤B.getD k 0
theorem getD_mem {B:List Nat} {k:Nat} (h:k < B.length):B.getD k 0∈B:=by
 rw [hU,hJ h]
 exact List.getElem_mem h
theorem mem_getD {B:List Nat} {v:Nat} (h:v∈B):∃ k,k < B.length∧B.getD k 0=v:=by
 obtain ⟨k,hk,e⟩:=List.mem_iff_getElem.mp h
 exact ⟨k,hk,by rw [hU,hJ hk];exact e⟩
theorem apart {rows:List (Nat→Int)} {g:Int} {B:List Nat} (up:0 < uu rows g B) {p q:Nat} (hp:p < B.length) (hq:q < B.length) (e:B.getD p 0=B.getD q 0):p=q:=by
 by_cases c:p=q
 ·exact c
 ·exfalso
  have:=NU (Mc rows) c hp hq e
  unfold uu at up
  rw [this] at up
  simp at up
theorem CJ {B:List Nat} {a s k:Nat} (ha:a < B.length):(B.set a s).getD k 0=if k=a then s else B.getD k 0:=by
 rw [hU,hU]
 by_cases c:k=a
 ·subst c
  rw [iQ ha,if_pos rfl];rfl
 ·rw [i9 (by omega),if_neg c]
theorem bB {a b c u v w:Int} (hv:0 < v) (hu:0≤u) (hw:0≤w) (h1:a*v≤b*u) (h2:b*w≤c*v):a*w≤c*u:=by
 have e1:=iy h1 hw
 have e2:=iy h2 hu
 refine Int.le_of_mul_le_mul_left (a:=v) ?_ hv
 have:b*u*w=b*w*u:=by grind
 have a1:v*(a*w)=a*v*w:=by grind
 have a2:v*(c*u)=c*v*u:=by grind
 omega
section
variable {rows:List (Nat→Int)} {g:Int} {z c m N n:Nat} {Bs:Nat→List Nat} {ss as:Nat→Nat} (hg:g*g=1)
 (h:∀ k,k < n→Piv rows g z c m N (Bs k) (ss k) (as k)) (st:∀ k,k < n→Bs (k+1)=(Bs k).set (as k) (ss k)) (n0:0 < n) (cyc:Bs n=Bs 0)
include h st
theorem Ts:∀ k,k≤n→(Bs k).length=(Bs 0).length:=by
 intro k
 induction k with
 | zero=>intro _;rfl
 | succ k ih=>intro hk;rw [st k (by omega),iX];exact ih (by omega)
include n0 cyc
theorem Tt:∀ k,k≤n→0 < uu rows g (Bs k):=fun k hk=>by
 by_cases e:k < n
 ·exact (h k e).up
 ·rw [show k=n by omega,cyc]
  exact (h 0 n0).up
omit n0 cyc in
theorem QF {k:Nat} (hk:k < n):as k < (Bs k).length:=by
 have p:=h k hk
 have:=p.am
 have:=p.mz
 have:=p.zl
 omega
include hg
theorem grow {k:Nat} (hk:k < n):tt rows g (Bs k) z c*uu rows g (Bs (k+1))≤tt rows g (Bs (k+1)) z c*uu rows g (Bs k)∧(0 < tt rows g (Bs k) (as k) c→tt rows g (Bs k) z c*uu rows g (Bs (k+1)) < tt rows g (Bs (k+1)) z c*uu rows g (Bs k)):=by
 have p:=h k hk
 have am:=p.am
 have mz:=p.mz
 have e:=QE (rows:=rows) hg p.zl (QF h st hk) (show z≠as k by omega) (ss k) c
 rw [← st k hk] at e
 have eu:uu rows g (Bs (k+1))=tt rows g (Bs k) (as k) (ss k):=by rw [st k hk];rfl
 rw [← eu] at e
 have fe:=p.fe _ am
 have ent:=p.ent
 constructor
 ·have:0≤-(tt rows g (Bs k) z (ss k))*tt rows g (Bs k) (as k) c:=jQ (by omega) fe
  have e2:-(tt rows g (Bs k) z (ss k))*tt rows g (Bs k) (as k) c=-(tt rows g (Bs k) z (ss k)*tt rows g (Bs k) (as k) c):=by grind
  have e3:=Int.mul_comm (uu rows g (Bs k)) (tt rows g (Bs (k+1)) z c)
  omega
 ·intro fp
  have:0 < -(tt rows g (Bs k) z (ss k))*tt rows g (Bs k) (as k) c:=Int.mul_pos (by omega) fp
  have e2:-(tt rows g (Bs k) z (ss k))*tt rows g (Bs k) (as k) c=-(tt rows g (Bs k) z (ss k)*tt rows g (Bs k) (as k) c):=by grind
  have e3:=Int.mul_comm (uu rows g (Bs k)) (tt rows g (Bs (k+1)) z c)
  omega
theorem grows:∀ d k,k+d≤n→tt rows g (Bs k) z c*uu rows g (Bs (k+d))≤tt rows g (Bs (k+d)) z c*uu rows g (Bs k):=by
 intro d
 induction d with
 | zero=>intro k _;exact Int.le_refl _
 | succ d ih=>
  intro k hk
  have u:=Tt h st n0 cyc
  have a:=ih k (by omega)
  have b:=(grow hg h st n0 cyc (k:=k+d) (by omega)).1
  exact bB (u (k+d) (by omega)) (iw (u k (by omega))) (iw (u (k+d+1) (by omega))) a b
theorem flat {k:Nat} (hk:k < n):tt rows g (Bs k) (as k) c=0:=by
 have u:=Tt h st n0 cyc
 have p:=h k hk
 have fe:=p.fe _ p.am
 by_cases e:0 < tt rows g (Bs k) (as k) c
 ·exfalso
  have s1:=(grow hg h st n0 cyc hk).2 e
  have a:=grows hg h st n0 cyc k 0 (by omega)
  have b:=grows hg h st n0 cyc (n - (k+1)) (k+1) (by omega)
  rw [show k+1+(n - (k+1))=n by omega,cyc] at b
  rw [Nat.zero_add] at a
  have t:=bB (u 0 (by omega)) (iw (u (k+1) (by omega))) (iw (u k (by omega))) b a
  omega
 ·omega
theorem Yy {k r:Nat} (hk:k < n) (hr:r < (Bs k).length):tt rows g (Bs k) r c=0↔tt rows g (Bs (k+1)) r c=0:=by
 have u:=Tt h st n0 cyc
 have f:=flat hg h st n0 cyc hk
 by_cases e:r=as k
 ·subst e
  rw [f,st k hk,bA,f]
 ·have q:=QE (rows:=rows) hg hr (QF h st hk) e (ss k) c
  rw [← st k hk,f] at q
  have eu:uu rows g (Bs (k+1))=tt rows g (Bs k) (as k) (ss k):=by rw [st k hk];rfl
  rw [← eu,Int.mul_zero,Int.sub_zero] at q
  have u1:=u k (by omega)
  have u2:=u (k+1) (by omega)
  constructor
  ·intro z0
   rw [z0,Int.zero_mul] at q
   rcases Int.mul_eq_zero.mp q.symm with w | w
   ·omega
   ·exact w
  ·intro z0
   rw [z0,Int.mul_zero] at q
   rcases Int.mul_eq_zero.mp q with w | w
   ·exact w
   ·omega
theorem Vg {r:Nat} (hr:r < (Bs 0).length):∀ k,k≤n→(tt rows g (Bs k) r c=0↔tt rows g (Bs 0) r c=0):=by
 intro k
 induction k with
 | zero=>intro _;exact Iff.rfl
 | succ k ih=>
  intro hk
  rw [← Yy hg h st n0 cyc (k:=k) (by omega) (by rw [Ts h st k (by omega)];exact hr)]
  exact ih (by omega)
omit hg n0 cyc in
theorem keep {r:Nat}:∀ d k,k+d≤n→(∀ j,k≤j→j < k+d→as j≠r)→(Bs (k+d)).getD r 0=(Bs k).getD r 0:=by
 intro d
 induction d with
 | zero=>intro k _ _;rfl
 | succ d ih=>
  intro k hk no
  rw [show k+(d+1)=(k+d)+1 by omega,st (k+d) (by omega),CJ (QF h st (by omega)),if_neg (fun e=>no (k+d) (by omega) (by omega) e.symm)]
  exact ih k (by omega) fun j h1 h2=>no j h1 (by omega)
omit hg n0 cyc in
theorem back {r v:Nat}:∀ d k,k+d≤n→(∀ j,j < n→ss j≠v)→(Bs (k+d)).getD r 0=v→(Bs k).getD r 0=v:=by
 intro d
 induction d with
 | zero=>intro k _ _ e;exact e
 | succ d ih=>
  intro k hk no e
  refine ih k (by omega) no ?_
  rw [show k+(d+1)=(k+d)+1 by omega,st (k+d) (by omega),CJ (QF h st (by omega))] at e
  split at e
  ·exact absurd e (no (k+d) (by omega))
  ·exact e
omit hg n0 cyc in
theorem onward {r v:Nat}:∀ d k,k+d≤n→(∀ j,j < n→(Bs j).getD (as j) 0≠v)→(Bs k).getD r 0=v→(Bs (k+d)).getD r 0=v:=by
 intro d
 induction d with
 | zero=>intro k _ _ e;exact e
 | succ d ih=>
  intro k hk no e
  have i:=ih k (by omega) no e
  rw [show k+(d+1)=(k+d)+1 by omega,st (k+d) (by omega),CJ (QF h st (by omega))]
  split
  ·rename_i er
   rw [er] at i
   exact absurd i (no (k+d) (by omega))
  ·exact i
omit hg n0 cyc h st in
theorem bC (f:Nat→Nat):∀ n,0 < n→∃ k,k < n∧∀ j,j < n→f j≤f k
  | 1,_=>⟨0,by omega,fun j hj=>by rw [show j=0 by omega];exact iA _⟩
  | n+2,_=>by
    obtain ⟨k,hk,hm⟩:=bC f (n+1) (by omega)
    by_cases c:f (n+1)≤f k
    · exact ⟨k,by omega,fun j hj=>by
        by_cases e:j=n+1
        · rw [e];exact c
        · exact hm j (by omega)⟩
    · exact ⟨n+1,by omega,fun j hj=>by
        by_cases e:j=n+1
        · rw [e];exact iA _
        · have:=hm j (by omega);omega⟩
theorem bD:False:=by
  have u:=Tt h st n0 cyc
  have ln:=Ts h st
  obtain ⟨k2,hk2,hmax⟩:=bC ss n n0
  have p2:=h k2 hk2
  -- the greatest variable leaves somewhere
  have lv:∃ k1,k1 < n∧(Bs k1).getD (as k1) 0=ss k2:=by
    by_cases e:∃ k1,k1 < n∧(Bs k1).getD (as k1) 0=ss k2
    · exact e
    · exfalso
      have no:∀ j,j < n→(Bs j).getD (as j) 0≠ss k2:=fun j hj q=>e ⟨j,hj,q⟩
      have al:=QF h st hk2
      have e1:(Bs (k2+1)).getD (as k2) 0=ss k2:=by rw [st k2 hk2,CJ al,if_pos rfl]
      have e2:=onward h st (r:=as k2) (n - (k2+1)) (k2+1) (by omega) no e1
      rw [show k2+1+(n - (k2+1))=n by omega,cyc] at e2
      have e3:=onward h st (r:=as k2) k2 0 (by omega) no e2
      rw [Nat.zero_add] at e3
      exact p2.sB (e3 ▸ getD_mem al)
  obtain ⟨k1,hk1,ht⟩:=lv
  have p1:=h k1 hk1
  have al1:=QF h st hk1
  have l1:=ln k1 (by omega)
  have l2:=ln k2 (by omega)
  have st_lt:ss k1 < ss k2:=by
    have:=hmax k1 hk1
    have ne:ss k1≠ss k2:=fun e=>p1.sB (e ▸ ht ▸ getD_mem al1)
    omega
  -- places from m on stay
  have fix:∀ r,m≤r→∀ k,k≤n→(Bs k).getD r 0=(Bs 0).getD r 0:=fun r hr k hk=>by
    have:=keep h st (r:=r) k 0 (by omega) fun j _ hj=>by have:=(h j (by omega)).am;omega
    rwa [Nat.zero_add] at this
  have zz:(Bs k1).getD z 0=(Bs k2).getD z 0:=by rw [fix z p1.mz k1 (by omega),fix z p1.mz k2 (by omega)]
  have hs0:0≤tt rows g (Bs k2) z (ss k1):=by
    by_cases e:ss k1∈Bs k2
    · obtain ⟨q,hq,eq⟩:=mem_getD e
      have qz:z≠q:=fun w=>by
        rw [← w,← zz] at eq
        exact p1.sB (eq ▸ getD_mem p1.zl)
      rw [← eq,Ve p2.zl hq qz]
      exact Int.le_refl _
    · by_cases lt:tt rows g (Bs k2) z (ss k1) < 0
      · have:=p2.least _ p1.sv e lt
        omega
      · omega
  have cr:=cw (rows:=rows) (g:=g) (B:=Bs k1) (C:=Bs k2) (g':=g) hg (ss k1) p2.zl
  rw [X9 (z:=z) p1.zl] at cr
  have t0:tt rows g (Bs k1) z (ss k1)*tt rows g (Bs k2) z ((Bs k1).getD z 0) < 0:=by
    rw [zz,fP p2.zl]
    exact Int.mul_neg_of_neg_of_pos p1.ent p2.up
  have lhs:0≤uu rows g (Bs k1)*tt rows g (Bs k2) z (ss k1):=jQ (iw p1.up) hs0
  obtain ⟨k,hk,hpos⟩:=Vf (n:=(Bs k1).length) (f:=fun k=>if k=z then 0 else tt rows g (Bs k1) k (ss k1)*tt rows g (Bs k2) z ((Bs k1).getD k 0)) (by omega)
  by_cases kz:k=z
  · rw [if_pos kz] at hpos;omega
  rw [if_neg kz] at hpos
  generalize er:(Bs k1).getD k 0=r at hpos
  have rB:r∉Bs k2:=fun e=>by
    obtain ⟨q,hq,eq⟩:=mem_getD e
    have qz:z≠q:=fun w=>by
      rw [← w,← zz,← er] at eq
      exact kz (apart p1.up p1.zl hk eq).symm
    rw [← eq,Ve p2.zl hq qz] at hpos
    simp at hpos
  have km:k < m:=by
    by_cases e:k < m
    · exact e
    · exfalso
      refine rB ?_
      rw [← er,fix k (by omega) k1 (by omega),← fix k (by omega) k2 (by omega)]
      exact getD_mem (by omega)
  have entered:∃ j,j < n∧ss j=r:=by
    by_cases e:∃ j,j < n∧ss j=r
    · exact e
    · exfalso
      have no:∀ j,j < n→ss j≠r:=fun j hj q=>e ⟨j,hj,q⟩
      have b1:=back h st (r:=k) k1 0 (by omega) no (by rw [Nat.zero_add];exact er)
      rw [← cyc] at b1
      have b2:=back h st (r:=k) (n - k2) k2 (by omega) no (by rw [show k2+(n - k2)=n by omega];exact b1)
      exact rB (b2 ▸ getD_mem (by omega))
  obtain ⟨j,hj,ej⟩:=entered
  have rt:r≤ss k2:=ej ▸ hmax j hj
  have rN:r < N:=ej ▸ (h j hj).sv
  by_cases eqt:r=ss k2
  · have ka:k=as k1:=apart p1.up hk al1 (by rw [er,ht,eqt])
    rw [ka,eqt] at hpos
    have:=Int.mul_neg_of_pos_of_neg p1.lv p2.ent
    omega
  · have z0:0≤tt rows g (Bs k2) z r:=by
      by_cases lt:tt rows g (Bs k2) z r < 0
      · have:=p2.least r rN rB lt
        omega
      · omega
    have tk:0 < tt rows g (Bs k1) k (ss k1):=by
      by_cases c0:0 < tt rows g (Bs k1) k (ss k1)
      · exact c0
      · have:=jQ (show 0≤-(tt rows g (Bs k1) k (ss k1)) by omega) z0
        have e2:-(tt rows g (Bs k1) k (ss k1))*tt rows g (Bs k2) z r=-(tt rows g (Bs k1) k (ss k1)*tt rows g (Bs k2) z r):=by grind
        omega
    -- place k is pivoted somewhere
    have piv:∃ j,j < n∧as j=k:=by
      by_cases e:∃ j,j < n∧as j=k
      · exact e
      · exfalso
        have no:∀ j,j < n→as j≠k:=fun j hj q=>e ⟨j,hj,q⟩
        have a1:=keep h st (r:=k) k1 0 (by omega) fun j _ hj=>no j (by omega)
        have a2:=keep h st (r:=k) k2 0 (by omega) fun j _ hj=>no j (by omega)
        rw [Nat.zero_add] at a1 a2
        refine rB ?_
        rw [← er,a1,← a2]
        exact getD_mem (by omega)
    obtain ⟨q,hq,eq⟩:=piv
    have f:=flat hg h st n0 cyc hq
    rw [eq] at f
    have zk:tt rows g (Bs k1) k c=0:=(Vg hg h st n0 cyc (by omega) k1 (by omega)).mpr ((Vg hg h st n0 cyc (by omega) q (by omega)).mp f)
    have za:=flat hg h st n0 cyc hk1
    have:=p1.ratio k km tk (by rw [zk,za];simp)
    rw [ht,er] at this
    omega
end
end PD
end
section
namespace PD
def enc (M:Nat):List Nat→Nat
 | []=>0
 | v::l=>v+M*enc M l
theorem bE {M:Nat}:∀ {l:List Nat},(∀ v∈l,v < M)→enc M l < M ^ l.length
 | [],_=>by show 0 < 1;omega
 | v::l,h=>by
  have h1:=h v gu
  have h2:=bE (l:=l) fun w hw=>h w (gz _ hw)
  show v+M*enc M l < M ^ (l.length+1)
  rw [Nat.pow_succ,Nat.mul_comm (M ^ l.length) M]
  have:M*(enc M l+1)≤M*M ^ l.length:=j9 M h2
  rw [Nat.mul_succ] at this
  omega
theorem YF {M:Nat}:∀ {l k:List Nat},(∀ v∈l,v < M)→(∀ v∈k,v < M)→l.length=k.length→enc M l=enc M k→l=k
 | [],[],_,_,_,_=>rfl
 | v::l,w::k,h,g,e,q=>by
  have h1:=h v gu
  have g1:=g w gu
  have q':v+M*enc M l=w+M*enc M k:=q
  have vw:v=w:=by
   have:=congrArg (· % M) q'
   simp only [Nat.add_mul_mod_self_left] at this
   rwa [Nat.mod_eq_of_lt h1,Nat.mod_eq_of_lt g1] at this
  subst vw
  have:M*enc M l=M*enc M k:=by omega
  have e2:=Nat.eq_of_mul_eq_mul_left (by omega) this
  rw [YF (fun w hw=>h w (gz _ hw)) (fun w hw=>g w (gz _ hw)) (by simpa using e) e2]
 | [],_::_,_,_,e,_=>by simp at e
 | _::_,[],_,_,e,_=>by simp at e
theorem Yz:∀ (K n:Nat) (f:Nat→Nat),(∀ i,i < n→f i < K)→(∀ i j,i < j→j < n→f i≠f j)→n≤K:=by
  intro K
  induction K with
  | zero=>
    intro n f h _
    by_cases c:n=0
    · omega
    · have:=h 0 (by omega);omega
  | succ K ih=>
    intro n f h d
    by_cases e:∃ i,i < n∧f i=K
    · obtain ⟨i,hi,ei⟩:=e
      have:=ih (n - 1) (fun j=>if j < i then f j else f (j+1)) (fun j hj=>by
        split
        · rename_i l
          have a:=h j (by omega)
          have b:=d j i l hi
          omega
        · rename_i l
          have a:=h (j+1) (by omega)
          have b:=d i (j+1) (by omega) (by omega)
          omega) fun j k jk kn=>by
        split
        · split
          · exact d j k jk (by omega)
          · exact d j (k+1) (by omega) (by omega)
        · rw [if_neg (by omega)]
          exact d (j+1) (k+1) (by omega) (by omega)
      omega
    · have:=ih n f (fun i hi=>by
        have a:=h i hi
        have:f i≠K:=fun q=>e ⟨i,hi,q⟩
        omega) d
      omega
theorem XA {rows:List (Nat→Int)} {g:Int} {z c m N M n:Nat} {Bs:Nat→List Nat} {ss as:Nat→Nat} (hg:g*g=1)
    (h:∀ k,k < n→Piv rows g z c m N (Bs k) (ss k) (as k)) (st:∀ k,k < n→Bs (k+1)=(Bs k).set (as k) (ss k)) (hM:∀ k,k≤n→∀ v∈Bs k,v < M):n+1≤M ^ (Bs 0).length:=by
  have ln:=Ts h st
  refine Yz _ (n+1) (fun k=>enc M (Bs k)) (fun i hi=>?_) fun i j ij jn e=>?_
  · have:=bE (hM i (by omega))
    rwa [ln i (by omega)] at this
  · have eq:=YF (hM i (by omega)) (hM j (by omega)) (by rw [ln i (by omega),ln j (by omega)]) e
    exact bD (n:=j - i) (Bs:=fun k=>Bs (i+k)) (ss:=fun k=>ss (i+k)) (as:=fun k=>as (i+k)) hg (fun k hk=>h (i+k) (by omega)) (fun k hk=>st (i+k) (by omega)) (by omega) (by
      show Bs (i+(j - i))=Bs (i+0)
      rw [show i+(j - i)=j by omega,Nat.add_zero,eq])
end PD
end
section
namespace PD
variable {rows:List (Nat→Int)} {g:Int} {B:List Nat}
theorem Z0 {a s c m k:Nat} (hg:g*g=1) (up:0 < uu rows g B) (ml:m≤B.length) (am:a < m) (lv:0 < tt rows g B a s)
    (fe:∀ k,k < m→0≤tt rows g B k c) (ratio:∀ k,k < m→0 < tt rows g B k s→tt rows g B a c*tt rows g B k s≤tt rows g B k c*tt rows g B a s) (hk:k < m) :
    0≤tt rows g (B.set a s) k c:=by
  by_cases e:k=a
  · subst e;rw [bA];exact fe k hk
  · have p:=QE hg (i:=k) (s:=a) (by omega) (by omega) e s c (rows:=rows) (B:=B)
    have q:0≤tt rows g B k c*tt rows g B a s - tt rows g B k s*tt rows g B a c:=by
      by_cases d:0 < tt rows g B k s
      · have r:=ratio k hk d
        rw [Int.mul_comm (tt rows g B k s)]
        omega
      · have n1:=jQ (fe k hk) (iw lv)
        have n2:=jQ (show 0≤- tt rows g B k s by omega) (fe a am)
        rw [Int.neg_mul] at n2
        omega
    rw [p] at q
    exact Int.nonneg_of_mul_nonneg_right q up
end PD
end
section
namespace PD
structure Inv (m N:Nat) (B O:List Nat):Prop where
 ml:m≤B.length
 inn:∀ k,k < m→B.getD k 0 < N
 high:∀ k,m≤k→k < B.length→N≤B.getD k 0
 cov:∀ v,v < N→v∈B∨v∈O
 out:∀ v∈O,v < N∧v∉B
 nd:∀ i j,i < O.length→j < O.length→O.getD i 0=O.getD j 0→i=j
theorem Inv.step {m N a col:Nat} {B O:List Nat} (h:Inv m N B O) (ap:∀ p q,p < B.length→q < B.length→B.getD p 0=B.getD q 0→p=q) (am:a < m) (hc:col < O.length) :
    Inv m N (B.set a (O.getD col 0)) (O.set col (B.getD a 0)):=by
  have al:a < B.length:=iE am h.ml
  have so:=h.out _ (getD_mem hc)
  have ba:B.getD a 0∈B:=getD_mem al
  have mb:∀ {v k},k < B.length→(B.set a (O.getD col 0)).getD k 0=v→v∈B.set a (O.getD col 0):=fun {v k} hk e=>e ▸ getD_mem (by rw [iX];exact hk)
  have mo:∀ {v k},k < O.length→(O.set col (B.getD a 0)).getD k 0=v→v∈O.set col (B.getD a 0):=fun {v k} hk e=>e ▸ getD_mem (by rw [iX];exact hk)
  refine ⟨by rw [iX];exact h.ml,fun k hk=>?_,fun k hk hl=>?_,fun v hv=>?_,fun v hv=>?_,fun i j hi hj e=>?_⟩
  · rw [CJ al]
    by_cases e:k=a
    · rw [if_pos e];exact so.1
    · rw [if_neg e];exact h.inn k hk
  · rw [CJ al,if_neg (by omega)]
    exact h.high k hk (by rwa [iX] at hl)
  · rcases h.cov v hv with q | q
    · obtain ⟨k,hk,e⟩:=mem_getD q
      by_cases ka:k=a
      · subst ka
        exact .inr (mo hc (by rw [CJ hc,if_pos rfl,e]))
      · exact .inl (mb hk (by rw [CJ al,if_neg ka,e]))
    · obtain ⟨k,hk,e⟩:=mem_getD q
      by_cases kc:k=col
      · subst kc
        exact .inl (mb al (by rw [CJ al,if_pos rfl,e]))
      · exact .inr (mo hk (by rw [CJ hc,if_neg kc,e]))
  · obtain ⟨j,hj,e⟩:=mem_getD hv
    rw [iX] at hj
    rw [CJ hc] at e
    by_cases jc:j=col
    · rw [if_pos jc] at e
      subst e
      refine ⟨h.inn a am,fun q=>?_⟩
      obtain ⟨k,hk,e⟩:=mem_getD q
      rw [iX] at hk
      rw [CJ al] at e
      by_cases ka:k=a
      · rw [if_pos ka] at e
        exact so.2 (e ▸ ba)
      · rw [if_neg ka] at e
        exact ka (ap _ _ hk al e)
    · rw [if_neg jc] at e
      have vo:v∈O:=e ▸ getD_mem hj
      refine ⟨(h.out v vo).1,fun q=>?_⟩
      obtain ⟨k,hk,e2⟩:=mem_getD q
      rw [iX] at hk
      rw [CJ al] at e2
      by_cases ka:k=a
      · rw [if_pos ka] at e2
        exact jc (h.nd _ _ hj hc (e.trans e2.symm))
      · rw [if_neg ka] at e2
        exact (h.out v vo).2 (e2 ▸ getD_mem hk)
  · rw [iX] at hi hj
    rw [CJ hc,CJ hc] at e
    by_cases ic:i=col <;> by_cases jc:j=col
    · omega
    · rw [if_pos ic,if_neg jc] at e
      exact absurd ba (e ▸ (h.out _ (getD_mem hj)).2)
    · rw [if_neg ic,if_pos jc] at e
      exact absurd ba (e ▸ (h.out _ (getD_mem hi)).2)
    · rw [if_neg ic,if_neg jc] at e
      exact h.nd _ _ hi hj e
def Le (x p i x' p' i':Int):Prop:=x*p' < x'*p∨(x*p'=x'*p∧i≤i')
theorem Le.trans {x p i x1 p1 i1 x2 p2 i2:Int} (h:0 < p) (h1:0 < p1) (h2:0 < p2) (a:Le x p i x1 p1 i1) (b:Le x1 p1 i1 x2 p2 i2):Le x p i x2 p2 i2:=by
 have a':x*p1≤x1*p:=by rcases a with a | a <;> omega
 have b':x1*p2≤x2*p1:=by rcases b with b | b <;> omega
 have t:=bB h1 (iw h) (iw h2) a' b'
 by_cases e:x*p2=x2*p
 ·refine .inr ⟨e,?_⟩
  have k1:p1*(x*p2)=(x*p1)*p2:=by grind
  have k2:p1*(x2*p)=(x2*p1)*p:=by grind
  have k3:x1*p*p2=x1*p2*p:=by grind
  have m1:=iy a' (iw h2)
  have m2:=iy b' (iw h)
  rw [e] at k1
  rcases a with a | ⟨_,a⟩
  ·have:=Int.mul_lt_mul_of_pos_right a h2
   omega
  ·rcases b with b | ⟨_,b⟩
   ·have:=Int.mul_lt_mul_of_pos_right b h
    omega
   ·omega
 ·exact .inl (by omega)
theorem Le.stay {x p i x' p' i':Int} (h:¬ (x'*p - x*p' < 0∨(x'*p - x*p'=0∧i' < i))):Le x p i x' p' i':=by
 by_cases e:x*p'=x'*p
 ·exact .inr ⟨e,by omega⟩
 ·exact .inl (by omega)
theorem fR {rows:List (Nat→Int)} {g:Int} {z c m N a col:Nat} {B O:List Nat} (h:Inv m N B O) (mz:m≤z) (zl:z < B.length) (up:0 < uu rows g B) (hc:col < O.length)
    (ent:tt rows g B z (O.getD col 0) < 0) (least:∀ j,j < O.length→tt rows g B z (O.getD j 0) < 0→O.getD col 0≤O.getD j 0) (am:a < m)
    (lv:0 < tt rows g B a (O.getD col 0)) (fe:∀ k,k < m→0≤tt rows g B k c)
    (first:∀ k,k < m→0 < tt rows g B k (O.getD col 0)→Le (tt rows g B a c) (tt rows g B a (O.getD col 0)) (B.getD a 0:Nat) (tt rows g B k c) (tt rows g B k (O.getD col 0)) (B.getD k 0:Nat)) :
    Piv rows g z c m N B (O.getD col 0) a:=by
  have so:=h.out _ (getD_mem hc)
  refine ⟨am,mz,zl,up,so.1,so.2,ent,fun v hv nb tv=>?_,lv,fe,fun k hk tk e=>?_⟩
  · rcases h.cov v hv with q | q
    · exact absurd q nb
    · obtain ⟨j,hj,e⟩:=mem_getD q
      have:=least j hj (by rw [e];exact tv)
      rwa [e] at this
  · rcases first k hk tk with f | f
    · omega
    · omega
theorem Vh {x p x' p' i i':Int} (h:Le x p i x' p' i'):x*p'≤x'*p:=by rcases h with h | h <;> omega
end PD
end
section
namespace PD
inductive Tr (rows:List (Nat→Int)) (g:Int) (z c m N:Nat) (B0:List Nat):Nat→List Nat→Prop
 | nil:Tr rows g z c m N B0 0 B0
 | next {k B s a}:Tr rows g z c m N B0 k B→Piv rows g z c m N B s a→Tr rows g z c m N B0 (k+1) (B.set a s)
theorem Tr.list {rows:List (Nat→Int)} {g:Int} {z c m N k:Nat} {B0 B:List Nat} (h:Tr rows g z c m N B0 k B) :
    ∃ (Bs:Nat→List Nat) (ss as:Nat→Nat),Bs 0=B0∧Bs k=B∧∀ j,j < k→Piv rows g z c m N (Bs j) (ss j) (as j)∧Bs (j+1)=(Bs j).set (as j) (ss j):=by
  induction h with
  | nil=>exact ⟨fun _=>B0,fun _=>0,fun _=>0,rfl,rfl,fun j hj=>absurd hj (by omega)⟩
  | @next k B s a _ p ih=>
    obtain ⟨Bs,ss,as,e0,ek,st⟩:=ih
    refine ⟨fun j=>if j=k+1 then B.set a s else Bs j,fun j=>if j=k then s else ss j,fun j=>if j=k then a else as j,?_,?_,fun j hj=>?_⟩
    · show (if 0=k+1 then _ else Bs 0)=_
      rw [if_neg (by omega),e0]
    · show (if k+1=k+1 then _ else Bs _)=_
      rw [if_pos rfl]
    · show Piv rows g z c m N (if j=k+1 then _ else Bs j) (if j=k then s else ss j) (if j=k then a else as j)∧(if j+1=k+1 then B.set a s else Bs (j+1))=(if j=k+1 then _ else Bs j).set (if j=k then a else as j) (if j=k then s else ss j)
      rw [if_neg (show ¬ j=k+1 by omega)]
      by_cases jk:j=k
      · subst jk
        rw [if_pos rfl,if_pos rfl,if_pos rfl,ek]
        exact ⟨p,rfl⟩
      · rw [if_neg jk,if_neg jk,if_neg (by omega)]
        exact st j (by omega)
theorem Tr.few {rows:List (Nat→Int)} {g:Int} {z c m N k M:Nat} {B0 B:List Nat} (hg:g*g=1) (h:Tr rows g z c m N B0 k B) (h0:∀ v∈B0,v < M) (nm:N≤M):k < M ^ B0.length:=by
 obtain ⟨Bs,ss,as,e0,ek,st⟩:=h.list
 have all:∀ j,j≤k→∀ v∈Bs j,v < M:=by
  intro j
  induction j with
  | zero=>intro _ v hv;rw [e0] at hv;exact h0 v hv
  | succ j ih=>
   intro hj v hv
   rw [(st j (by omega)).2] at hv
   rcases List.mem_or_eq_of_mem_set hv with q | q
   ·exact ih (by omega) v q
   ·rw [q];exact iE (st j (by omega)).1.sv nm
 have:=XA hg (fun j hj=>(st j hj).1) (fun j hj=>(st j hj).2) all
 rw [e0] at this
 exact this
end PD
end
section
namespace PD
def bF (n m r:Nat) (row:List Int) (lim:Int) (v:Nat):Int:=if v < n then row.getD v 0 else if v=n+r then 1 else if v=n+m then -1 else if v=n+m+1 then lim else 0
def cx (n m:Nat) (goal:List Int) (v:Nat):Int:=if v < n then 0 - goal.getD v 0 else if v=n+m+2 then 1 else 0
def bG (n m:Nat) (v:Nat):Int:=if v=n+m then 1 else if v=n+m+3 then 1 else 0
def sys (goal:List Int) (rows:List (List Int)) (lims:List Int):List (Nat→Int):=
 ((List.range rows.length).map fun r=>bF goal.length rows.length r (rows.getD r []) (lims.getD r 0))++[cx goal.length rows.length goal,bG goal.length rows.length]
def own (n m r:Nat):Nat:=if r < m then n+r else n+r+2
def first (n m:Nat):List Nat:=(List.range (m+2)).map (own n m)
variable {goal:List Int} {rows:List (List Int)} {lims:List Int}
end PD
end
section
namespace PD
def pt (rows:List (Nat→Int)) (g:Int) (B:List Nat) (m v j:Nat):Int:=sumN m fun k=>if B.getD k 0=j then tt rows g B k v else 0
end PD
end
section
namespace PD
structure Way (rows:List (Nat→Int)) (g:Int) (z c m N:Nat) (B0:List Nat) (k:Nat) (B O:List Nat):Prop where
 tr:Tr rows g z c m N B0 k B
 inv:Inv m N B O
 up:0 < uu rows g B
 fe:∀ k,k < m→0≤tt rows g B k c
 len:B.length=B0.length
 ol:∀ i,m≤i→B.getD i 0=B0.getD i 0
theorem Way.next {rows:List (Nat→Int)} {g:Int} {z c m N k a col:Nat} {B0 B O:List Nat} (hg:g*g=1) (h:Way rows g z c m N B0 k B O) (mz:m≤z) (zl:z < B.length) (hc:col < O.length)
    (ent:tt rows g B z (O.getD col 0) < 0) (least:∀ j,j < O.length→tt rows g B z (O.getD j 0) < 0→((O.getD col 0:Nat):Int)≤(O.getD j 0:Nat)) (am:a < m)
    (lv:0 < tt rows g B a (O.getD col 0))
    (first:∀ k,k < m→0 < tt rows g B k (O.getD col 0)→Le (tt rows g B a c) (tt rows g B a (O.getD col 0)) (B.getD a 0:Nat) (tt rows g B k c) (tt rows g B k (O.getD col 0)) (B.getD k 0:Nat)) :
    Way rows g z c m N B0 (k+1) (B.set a (O.getD col 0)) (O.set col (B.getD a 0)):=by
  refine ⟨h.tr.next (fR h.inv mz zl h.up hc ent (fun j hj t=>by have:=least j hj t;omega) am lv h.fe first),h.inv.step (fun p q hp hq=>apart h.up hp hq) am hc,by rw [fQ];exact lv,
    fun k hk=>Z0 hg h.up h.inv.ml am lv h.fe (fun k hk t=>Vh (first k hk t)) hk,by rw [iX];exact h.len,fun i hi=>?_⟩
  rw [CJ (iE am h.inv.ml),if_neg (by omega)]
  exact h.ol i hi
theorem Way.few {rows:List (Nat→Int)} {g:Int} {z c m N M k:Nat} {B0 B O:List Nat} (hg:g*g=1) (h:Way rows g z c m N B0 k B O) (h0:∀ v∈B0,v < M) (nm:N≤M):k < M ^ B0.length:=h.tr.few hg h0 nm
end PD
end
section
namespace PD
theorem Inv.drop {m N col:Nat} {B O:List Nat} (h:Inv m (N+1) B O) (hc:col < O.length) (e:O.getD col 0=N):Inv m N B (O.eraseIdx col):=by
 have mem:∀ {v},v∈O.eraseIdx col↔v∈O∧v≠N:=fun {v}=>by
  constructor
  ·intro q
   obtain ⟨k,hk,e2⟩:=List.mem_eraseIdx_iff_getElem.mp q
   obtain ⟨hk2,e3⟩:=e2
   have ek:O.getD k 0=v:=by rw [hU,hJ hk];exact e3
   refine ⟨ek ▸ getD_mem hk,fun x=>hk2 (h.nd _ _ hk hc (by rw [ek,x,e]))⟩
  ·intro ⟨q,ne⟩
   obtain ⟨k,hk,e2⟩:=mem_getD q
   refine List.mem_eraseIdx_iff_getElem.mpr ⟨k,hk,fun x=>ne (by rw [← e2,x,e]),?_⟩
   rw [hU,hJ hk] at e2
   exact e2
 have hN:N∉B:=(h.out N (e ▸ getD_mem hc)).2
 refine ⟨h.ml,fun k hk=>?_,fun k hk hl=>?_,fun v hv=>?_,fun v hv=>?_,fun i j hi hj q=>?_⟩
 ·have:=h.inn k hk
  have ne:B.getD k 0≠N:=fun x=>hN (x ▸ getD_mem (iE hk h.ml))
  omega
 ·have:=h.high k hk hl
  omega
 ·rcases h.cov v (by omega) with q | q
  ·exact .inl q
  ·exact .inr (mem.mpr ⟨q,by omega⟩)
 ·obtain ⟨q,ne⟩:=mem.mp hv
  have:=h.out v q
  exact ⟨by omega,this.2⟩
 ·have le:(O.eraseIdx col).length=O.length - 1:=List.length_eraseIdx_of_lt hc
  have at_:∀ k,(O.eraseIdx col).getD k 0=O.getD (if k < col then k else k+1) 0:=fun k=>by
   rw [hU,jA,hU]
   split <;> rfl
  rw [at_,at_] at q
  have:=h.nd _ _ (by split <;> omega) (by split <;> omega) q
  split at this <;> split at this <;> omega
end PD
end
section
namespace PD
def Keeps (n m:Nat) (a:Nat→Nat→Int) (b:Nat→Int) (u:Int) (x:Nat→Int):Prop:=(∀ j,j < n→0≤x j)∧∀ r,r < m→(sumN n fun j=>a r j*x j)≤u*b r
end PD
end
section
namespace PD
variable (goal:List Int) (rows:List (List Int)) (lims:List Int)
def aOf (r j:Nat):Int:=(rows.getD r []).getD j 0
def lOf (r:Nat):Int:=lims.getD r 0
def cOf (j:Nat):Int:=goal.getD j 0
end PD
end
section
open TL PySem L2 Res
namespace Tbl
open PD
structure Fine (u:Int) (f:Nat→Int):Prop where
 pos:0 < u
 us:u.natAbs < 2 ^ 3000
 fs:∀ k,(f k).natAbs < 2 ^ 3001
variable {goal:List Int} {rows:List (List Int)} {lims:List Int}
end Tbl
end
section
open TL PySem L2 Res
structure Nms (zs:List Tx):Prop where
 nd:zs.Nodup
 len:∀ z∈zs,1≤z.len∧z.len≤20
end
section
open TL PySem L2 Res
theorem Vi {n:Rat} {ps:List (Tx×Rat)} {b:Nat} (hb:∀ e∈ps,Nu.Bd b e.2) (hb3:b≤3000) (hc:∀ k,1+(b+1)*cntT ps k≤3000) (hl:ps.length≤62):Ce n ps=.ok (n,resT ps):=by
 unfold Ce
 rw [A3]
 have key:=EO (ε:=Unit) (body:=Da) (k:=DZ n) addM (fun pre m=>TabT m pre) (xs:=ps) (s0:=[]) TabT.nil fun pre e post m hp hm=>⟨fun nx=>?_,hm.put e⟩
 ·obtain ⟨e1,e2⟩:=key
  rw [e1]
  have len:=e2.len
  unfold DZ
  rw [Az (by omega),A3,Az (by rw [LC,gy];omega),A3]
  rw [J7 (fun k=>if totT ps k=0 then none else some (k,totT ps k)) () _ fun k hk=>?_]
  ·simp only [HL,A3]
   rw [Vc e2]
  ·have hk2:k∈(ps.foldl addM []).map (·.1):=(Dk _).mem_iff.mp hk
   have g:=e2.get k ((e2.mem k).mp hk2)
   rw [g]
   simp only [AS,A3]
   by_cases q:totT ps k=0
   ·simp [q]
   ·simp [q]
 ·unfold Da
  have lk:=hm.look e.1
  rw [lk]
  have t1:Nu.Bd 3000 (totT pre e.1):=by
   refine (Va (b:=b) fun f hf=>hb f (by rw [hp];exact iG _ hf)).mono (iH ?_ (hc e.1))
   have:cntT ps e.1=cntT pre e.1+cntT (e::post) e.1:=by rw [hp,Sy]
   have:(b+1)*cntT pre e.1≤(b+1)*cntT ps e.1:=j9 _ (by omega)
   omega
  have t2:Nu.Bd 3000 e.2:=(hb e (by rw [hp];exact iV _ gu)).mono hb3
  have ml:=hm.len
  have pl:pre.length≤ps.length:=by rw [hp,List.length_append];omega
  rw [Yu t1 t2,A3,Az (by omega),A3]
  unfold addM
  rw [lk]
structure Sm (d:Nat) (zs:List Tx) (s:Rat×List (Tx×Rat)):Prop where
 n:Nu.Bd d s.1
 e:∀ e∈s.2,Nu.Bd d e.2
 rise:(s.2.map (·.1)).Pairwise ltT
 nz:∀ e∈s.2,e.2≠0
 sub:∀ e∈s.2,e.1∈zs
theorem Hi {α:Type} [DecidableEq α]:∀ {l m:List α},l.Nodup→(∀ x∈l,x∈m)→l.length≤m.length
 | [],_,_,_=>iT _
 | x::l,m,nd,h=>by
  rw [iK] at nd
  have hm:=h x gu
  have ih:=Hi (l:=l) (m:=m.erase x) nd.2 fun y hy=>(List.mem_erase_of_ne (fun e:y=x=>nd.1 (e ▸ hy))).mpr (h y (gz _ hy))
  have:=List.length_erase_of_mem hm
  have:=List.length_pos_of_mem hm
  rw [i7]
  omega
section
variable {d d':Nat} {zs:List Tx} {a b c:Rat×List (Tx×Rat)}
theorem Sm.nd (h:Sm d zs a):(a.2.map (·.1)).Nodup:=Dm h.rise
theorem Sm.len (h:Sm d zs a):a.2.length≤zs.length:=by
 have:=Hi h.nd fun x hx=>by
  obtain ⟨e,he,rfl⟩:=hA.mp hx
  exact h.sub e he
 rwa [gy] at this
theorem Sm.mono (h:Sm d zs a) (l:d≤d'):Sm d' zs a:=⟨h.n.mono l,fun e he=>(h.e e he).mono l,h.rise,h.nz,h.sub⟩
theorem Sm.id (h:Sm d zs a):resT a.2=a.2:=aq h.rise h.nz
theorem Sm.ext (ha:Sm d zs a) (hb:Sm d' zs b) (h1:a.1=b.1) (h2:∀ k,totT a.2 k=totT b.2 k):a=b:=by
 have:=Sz h2
 rw [ha.id,hb.id] at this
 exact Prod.ext h1 this
theorem fS (ps:List (Tx×Rat)):∀ e∈resT ps,e.2≠0:=fun e he=>by
 unfold resT at he
 obtain ⟨k,hk,rfl⟩:=hA.mp he
 have:=(iz.mp hk).2
 simpa using this
end
end
section
open TL PySem L2 Res
theorem AllBd.put {n:Nat} {m:List (Tx×Rat)} {k:Tx} {d:Rat} (h:AllBd n m) (hd:Nu.Bd n d):AllBd n (dput m k d):=by
 intro p hp
 unfold dput at hp
 split at hp
 ·obtain ⟨e,he,rfl⟩:=hA.mp hp
  split
  ·exact hd
  ·exact h e he
 ·rcases hY.mp hp with q | q
  ·exact h p q
  ·simp at q
   subst q
   exact hd
theorem AllBd.mono {n m:Nat} {d:List (Tx×Rat)} (h:AllBd n d) (l:n≤m):AllBd m d:=fun p hp=>(h p hp).mono l
theorem Vj {d:List (Tx×Rat)} {z:Siz} {k:Tx} {x:Rat} (hk:k∉nmz z):kept (dput d k x) z=kept d z:=by
 have g:∀ j∈nmz z,dget (dput d k x) j=dget d j:=fun j hj=>by
  rw [GW,if_neg]
  intro e
  exact hk (e ▸ hj)
 unfold kept
 rw [g z.1 gu]
 cases dget d z.1 with
 | none=>rfl
 | some v=>
  dsimp only
  congr 1
  rw [Bool.eq_iff_iff,iY,iY]
  have q:∀ e∈z.2.2.2,shk z (dput d k x) v e=shk z d v e:=fun e he=>by
   unfold shk
   rw [g e.1 (gz _ (iD he))]
  exact ⟨fun h e he=>(q e he).symm.trans (h e he),fun h e he=>(q e he).trans (h e he)⟩
structure Mkg (zs:List Siz) (d:List (Tx×Rat)):Prop where
 keys:d.map (·.1)=alln zs
 bd:AllBd 500 d
 kp:∀ z∈zs,kept d z=true
structure Mkg1 (pre:List Siz) (z:Siz) (ps:List Shi) (v:Rat) (d:List (Tx×Rat)):Prop where
 keys:d.map (·.1)=alln pre++z.1::ps.map (·.1)
 bd:AllBd 500 d
 kp:∀ z∈pre,kept d z=true
 vb:Nu.Bd 300 v
 val:dget d z.1=some v
 sh:∀ e∈ps,∃ t,dget d e.1=some t∧¬ t < 0 - room z e v∧¬ room z e v < t
theorem T9 {pre:List Siz} {z':Siz} {k:Tx} (h:k∉alln pre) (hz:z'∈pre):k∉nmz z':=fun m=>h (List.mem_flatMap.mpr ⟨z',hz,m⟩)
section
variable {zs pre post:List Siz} {z:Siz} {d:List (Tx×Rat)} {v x:Rat} (ok:StOk zs) (hp:zs=pre++z::post)
include ok hp
theorem nd3:(alln pre++(z.1::z.2.2.2.map (·.1))).Nodup:=by
 have:=ok.nd
 rw [hp,ET,Fe,← iL] at this
 exact (iC.mp this).1
theorem bH (h:Mkg pre d) (hv:Nu.Bd 300 v):Mkg1 pre z [] v (dput d z.1 v):=by
 have nd:=nd3 ok hp
 have f:z.1∉alln pre:=fun m=>(iC.mp nd).2.2 _ m _ gu rfl
 refine ⟨?_,h.bd.put (hv.mono (by decide)),fun z' hz=>(Vj (T9 f hz)).trans (h.kp z' hz),hv,by rw [GW,if_pos rfl],fun e he=>by cases he⟩
 rw [GX,if_neg (by rw [h.keys];exact f),h.keys]
 rfl
theorem Z1 {ps:List Shi} {post':List Shi} {e:Shi} (h:Mkg1 pre z ps v d) (hs:z.2.2.2=ps++e::post') (xb:Nu.Bd 500 x) (x0:¬ x < 0 - room z e v) (x1:¬ room z e v < x):Mkg1 pre z (ps++[e]) v (dput d e.1 x):=by
 have nd:=nd3 ok hp
 have nd':(alln pre++(z.1::ps.map (·.1))++[e.1]).Nodup:=by
  rw [hs] at nd
  have e1:alln pre++(z.1::(ps++e::post').map (·.1))=(alln pre++(z.1::ps.map (·.1))++[e.1])++post'.map (·.1):=by simp
  rw [e1] at nd
  exact (iC.mp nd).1
 have f:e.1∉alln pre++(z.1::ps.map (·.1)):=fun m=>(iC.mp nd').2.2 _ m _ gu rfl
 have f1:e.1∉alln pre:=fun m=>f (iG _ m)
 have f2:z.1≠e.1:=fun m=>f (iV _ (m ▸ gu))
 refine ⟨?_,h.bd.put xb,fun z' hz=>(Vj (T9 f1 hz)).trans (h.kp z' hz),h.vb,by rw [GW,if_neg f2];exact h.val,fun e' he=>?_⟩
 ·rw [GX,if_neg (by rw [h.keys];exact f),h.keys]
  simp
 ·rcases hY.mp he with q | q
  ·have ne:e'.1≠e.1:=fun m=>f (iV _ (gz _ (m ▸ iD q)))
   rw [GW,if_neg ne]
   exact h.sh e' q
  ·simp at q
   subst q
   exact ⟨x,by rw [GW,if_pos rfl],x0,x1⟩
omit ok hp in
theorem bI (h:Mkg1 pre z z.2.2.2 v d) (v0:¬ v < z.2.1) (v1:¬ z.2.2.1 < v):Mkg (pre++[z]) d:=by
 refine ⟨?_,h.bd,fun z' hz=>?_⟩
 ·rw [h.keys,ET]
  simp [alln,nmz]
 ·rcases hY.mp hz with q | q
  ·exact h.kp z' q
  ·simp at q
   subst q
   unfold kept
   rw [h.val]
   dsimp only
   rw [decide_eq_false v0,decide_eq_false v1,iN]
   refine ⟨rfl,iY.mpr fun e he=>?_⟩
   obtain ⟨t,ht,t0,t1⟩:=h.sh e he
   unfold shk
   rw [ht]
   dsimp only
   rw [decide_eq_false t0,decide_eq_false t1]
   rfl
end
theorem Mkg.nil:Mkg [] []:=⟨rfl,(fun p hp=>by cases hp),fun z hz=>by cases hz⟩
theorem Mkg.keeps {zs:List Siz} {d:List (Tx×Rat)} (h:Mkg zs d):ar zs d=true:=by
 unfold ar
 rw [show d.map Prod.fst=alln zs from h.keys,decide_eq_true rfl,Bool.true_and]
 exact iY.mpr h.kp
theorem cy {z:Siz} {e:Shi} {v:Rat} (he:ShOk e) (v0:¬ v < z.2.1) (v1:¬ z.2.2.1 < v):0≤room z e v:=by
 have:=jJ.mp he.nn
 unfold room due
 split
 ·grind
 ·split <;> grind
theorem share1 {t p:Int} (t0:0≤t) (t1:t≤p) (p0:0 < p):0≤Nu.q t p∧Nu.q t p≤1:=by
 have pp:(0:Rat) < (p:Rat):=by exact_mod_cast p0
 have tt:(0:Rat)≤(t:Rat):=by exact_mod_cast t0
 have tp:(t:Rat)≤(p:Rat):=by exact_mod_cast t1
 have e:Nu.q t p*(p:Rat)=(t:Rat):=by rw [VY,Rat.div_mul_cancel (fun z=>by rw [z] at pp;exact absurd pp (by decide))]
 generalize Nu.q t p=r at e
 refine ⟨jD.mp fun c=>?_,jD.mp fun c=>?_⟩
 ·have:=Rat.mul_pos (show (0:Rat) < -r by grind) pp
  grind
 ·have:=Rat.mul_pos (show (0:Rat) < r - 1 by grind) pp
  grind
theorem fT {t p:Int} (t0:0≤t) (t1:t≤2*p) (p0:0 < p):-1≤Nu.q (t - p) p∧Nu.q (t - p) p≤1:=by
 have pp:(0:Rat) < (p:Rat):=by exact_mod_cast p0
 have tt:(0:Rat)≤(t:Rat):=by exact_mod_cast t0
 have tp:(t:Rat)≤2*(p:Rat):=by exact_mod_cast t1
 have e1:((t - p:Int):Rat)=(t:Rat) - (p:Rat):=Rat.intCast_sub t p
 have e:Nu.q (t - p) p*(p:Rat)=(t:Rat) - (p:Rat):=by rw [VY,e1,Rat.div_mul_cancel (fun z=>by rw [z] at pp;exact absurd pp (by decide))]
 generalize Nu.q (t - p) p=r at e
 refine ⟨jD.mp fun c=>?_,jD.mp fun c=>?_⟩
 ·have:=Rat.mul_pos (show (0:Rat) < -1 - r by grind) pp
  grind
 ·have:=Rat.mul_pos (show (0:Rat) < r - 1 by grind) pp
  grind
theorem Z2 {z:Siz} (h:SzOk z):z.2.1≤z.2.2.1:=by
 have:=h.le
 rw [Nu.PF] at this
 exact jD.mp this
theorem Z3 {n:Nat} {w:List Int} {zs:List Siz} (h:Wl n w) (hn:n≤2 ^ 37) (ok:StOk zs):(JK w zs).To fun r=>Mkg zs r.1∧Wl (n+100) r.2:=by
 have p37:(2:Nat) ^ 37=137438953472:=by decide
 have p40:(2:Nat) ^ 40=1099511627776:=by decide
 have p10:(2:Nat) ^ 10=1024:=by decide
 have p41:(2:Nat) ^ 41=2199023255552:=by decide
 have u:∀ {n:Nat} {r:Rat},Nu.Bd n r→n≤3000→Nu.Bd 3000 r:=fun h l=>h.mono l
 have zl:=MZ zs
 have le:=ok.le
 have bg:∀ b:Int,0 < b→b < 2000→b.natAbs < 2 ^ 8000:=fun b _ _=>iE (show b.natAbs < 2 ^ 41 by omega) (iO (by decide) (by decide))
 unfold JK
 refine To.v (To.loop (fun pre (s:List (Tx×Rat)×List Int)=>Mkg pre s.1∧Wl (n+2*(alln pre).length) s.2) ⟨.nil,h⟩ ?_ ?_)
 ·rintro pre z post ⟨d,w'⟩ hp ⟨i1,i2⟩ nx hnx
  dsimp only at i1 i2
  have hz:=ok.sz z (by rw [hp];simp)
  have pl:(alln pre).length+(nmz z).length≤12:=by
   rw [hp,ET,Fe,List.length_append,List.length_append] at le
   omega
  have nz:(nmz z).length=z.2.2.2.length+1:=by simp [nmz]
  have dl:d.length≤12:=by
   have:=congrArg List.length i1.keys
   simp at this
   omega
  unfold Kb
  dsimp only
  refine To.b (AY i2 (by decide) (by decide) (by omega)) fun y ⟨y0,y1,hy⟩=>To.v ?_
  dsimp only
  generalize hP:1+y.1=P
  refine To.b (AY hy (by omega) (by omega) (by omega)) fun t ⟨t0,t1,ht⟩=>?_
  have qb:Nu.Bd 10 (Nu.q t.1 P):=Nu.q_bd (by omega) (by omega) (by omega)
  have mb:=Nu.KI hz.bm hz.bl
  have tb:=Nu.Um qb mb
  have vb:Nu.Bd 300 (z.2.1+Nu.q t.1 P*(z.2.2.1 - z.2.1)):=(Nu.L0 hz.bl tb).mono (by decide)
  rw [ER (by omega) (bg _ (by omega) (by omega)),EB,A3,A3,X5 (u hz.bm (by decide)) (u hz.bl (by decide)),EB,A3]
  dsimp only
  rw [VW (u qb (by decide)) (u mb (by decide)),EB,A3,Kc (u hz.bl (by decide)) (u tb (by decide)),EB,A3]
  obtain ⟨s0,s1⟩:=share1 t0 (show t.1≤P by omega) (by omega)
  have lm:=Z2 hz
  generalize hV:z.2.1+Nu.q t.1 P*(z.2.2.1 - z.2.1)=V at vb
  have h1:0≤Nu.q t.1 P*(z.2.2.1 - z.2.1):=jR s0 (by grind)
  have h2:0≤(1 - Nu.q t.1 P)*(z.2.2.1 - z.2.1):=jR (by grind) (by grind)
  have v0:¬ V < z.2.1:=by grind
  have v1:¬ z.2.2.1 < V:=by grind
  refine To.g (by omega) (To.loop (fun ps (s:List (Tx×Rat)×List Int)=>Mkg1 pre z ps V s.1∧Wl (n+2*(alln pre).length+2+ps.length) s.2) ⟨bH ok hp i1 vb,ht⟩ ?_ ?_)
  ·rintro ps e post' ⟨d',w''⟩ hs ⟨j1,j2⟩ nx' hnx'
   dsimp only at j1 j2
   have eo:=hz.sh e (by rw [hs];simp)
   have el:ps.length < z.2.2.2.length:=by rw [hs];simp
   have dl':d'.length≤12:=by
    have:=congrArg List.length j1.keys
    simp at this
    omega
   unfold Ka
   dsimp only
   refine To.g (cmulw 2 5 (by decide) (by omega)) (To.b (AY j2 (by omega) (by omega) (by omega)) fun t2 ⟨t20,t21,ht2⟩=>?_)
   have qb2:Nu.Bd 10 (Nu.q (t2.1 - P) P):=Nu.q_bd (by omega) (by omega) (by omega)
   have rb:Nu.Bd 489 (room z e V):=cv hz eo vb
   have xb:=Nu.Um qb2 rb
   rw [ER (by omega) (bg _ (by omega) (by omega)),EB,A3,A3]
   dsimp only
   rw [j1.val,AS,A3,au hz (by rw [hs];simp) (vb.mono (by decide)),EB,A3,AS,A3,VW (u qb2 (by decide)) (u rb (by decide)),EB,A3]
   obtain ⟨s20,s21⟩:=fT t20 (show t2.1≤2*P by omega) (by omega)
   have rn:=cy eo v0 v1
   generalize hX:Nu.q (t2.1 - P) P*room z e V=x at xb
   have g1:0≤(1+Nu.q (t2.1 - P) P)*room z e V:=jR (by grind) rn
   have g2:0≤(1 - Nu.q (t2.1 - P) P)*room z e V:=jR (by grind) rn
   refine To.g (by omega) (hnx' _ ⟨Z1 ok hp j1 hs (xb.mono (by decide)) (by grind) (by grind),ht2.up (by rw [List.length_append,List.length_singleton];omega)⟩)
  ·rintro ⟨d',w''⟩ ⟨j1,j2⟩
   unfold KZ
   refine hnx _ ⟨bI j1 v0 v1,j2.up ?_⟩
   rw [ET,List.length_append]
   have:(alln [z]).length=z.2.2.2.length+1:=by simp [alln,nmz]
   omega
 ·rintro ⟨d,w'⟩ ⟨i1,i2⟩
  unfold KY
  exact .ok ⟨i1,i2.up (by omega)⟩
end
section
open TL PySem L2 Res
theorem dA (b:Rat):mkQ ((0:Int) - b.num) ((b.den:Nat):Int)=some (-b):=by
 rw [← KM (-b)]
 show mkQ (0 - b.num) (b.den:Int)=mkQ (-b.num) (b.den:Int)
 rw [Int.zero_sub]
theorem fU {n:Nat} {b:Rat} (hb:Nu.Bd n b):Nu.Bd n (-b):=⟨by show (-b.num).natAbs < _;rw [Int.natAbs_neg];exact hb.1,hb.2⟩
structure Bn (d:List (Tx×Rat)):Prop where
 nd:(d.map (·.1)).Nodup
 bd:AllBd 1100 d
 le:d.length≤20
theorem Bn.put {m:List (Tx×Rat)} {k:Tx} {x:Rat} (h:Bn m) (hm:m.length≤15) (hx:Nu.Bd 1100 x):Bn (dput m k x):=by
 have kk:=GX (m:=m) (k:=k) (d:=x)
 refine ⟨?_,h.bd.put hx,?_⟩
 ·show ((dput m k x).map (·.1)).Nodup
  rw [kk]
  split
  ·exact h.nd
  ·rename_i c
   rw [iC]
   exact ⟨h.nd,by simp,fun a ha b hb e=>by simp at hb;subst hb;subst e;exact c ha⟩
 ·have:=congrArg List.length kk
  simp at this
  split at this <;> simp at this <;> omega
theorem Bn.drop {m:List (Tx×Rat)} {k:Tx} (h:Bn m):Bn (ddrop m k):=by
 unfold ddrop
 refine ⟨List.Sublist.nodup (List.Sublist.map _ List.filter_sublist) h.nd,fun p hp=>h.bd p ((iz.mp hp).1),?_⟩
 exact iH (List.length_filter_le _ _) h.le
theorem NV {p:Tx×Rat}:∀ {m:List (Tx×Rat)},(m.map (·.1)).Nodup→p∈m→dget m p.1=some p.2
 | [],_,hp=>by cases hp
 | q::m,nd,hp=>by
  rw [hG,iK] at nd
  rcases hZ.mp hp with rfl | hp'
  ·simp [dget]
  ·have ne:q.1≠p.1:=fun e=>nd.1 (e ▸ iD hp')
   have ih:=NV nd.2 hp'
   unfold dget at ih ⊢
   rw [ir]
   simp only [ne,decide_false]
   exact ih
theorem bJ {m:List (Tx×Rat)} (nd:(m.map (·.1)).Nodup):deq m m=true:=by
 unfold deq
 rw [iN]
 refine ⟨by simp,iY.mpr fun p hp=>?_⟩
 rw [NV nd hp]
 simp
end
section
open TL PySem L2 Res
def endf (f r:Rat):Rat:=if 0 < f then -r else if f < 0 then r else 0
abbrev Tab:=List (Tx×Rat)
def glp (z:Siz) (f:Tx→Rat) (v:Rat) (ps:List Shi):Tab:=(z.1,v)::ps.map fun e=>(e.1,endf (f e.1) (room z e v))
def gl (z:Siz) (f:Tx→Rat) (v:Rat):Tab:=glp z f v z.2.2.2
theorem bK {m:Tab} {k:Tx} {x:Rat} (h:k∉m.map (·.1)):dput m k x=m++[(k,x)]:=by
 unfold dput
 rw [if_neg]
 intro c
 obtain ⟨e,he,h2⟩:=j0.mp c
 exact h (hA.mpr ⟨e,he,of_decide_eq_true h2⟩)
theorem QG:∀ {L m:Tab},(m.map (·.1)++L.map (·.1)).Nodup→dmerge m L=m++L
 | [],m,_=>by simp [dmerge]
 | p::L,m,nd=>by
  have hp:p.1∉m.map (·.1):=fun c=>(iC.mp nd).2.2 _ c _ gu rfl
  show dmerge (dput m p.1 p.2) L=_
  rw [bK hp,QG (m:=m++[(p.1,p.2)]) (by rw [i8,iL];exact nd),iL]
  rfl
theorem XB {L:Tab} (nd:(L.map (·.1)).Nodup):dof L=L:=QG (m:=[]) (by simpa using nd)
end
section
open TL PySem L2 Res
theorem dB {ps:Tab} (nd:(ps.map (·.1)).Nodup) (k:Tx):(dget ps k).getD 0=totT ps k:=by
 by_cases h:k∈ps.map (·.1)
 ·obtain ⟨e,he,rfl⟩:=hA.mp h
  rw [NV nd he,G5 nd he]
  rfl
 ·rw [ON h,Cy h]
  rfl
def val (mk:Tab) (k:Tx):Rat:=(dget mk k).getD 0
end
section
open TL PySem L2 Res
def sz (f m:Tx→Rat) (ks:List Tx):Rat:=sumT ks fun k=>f k*m k
end
section
open TL PySem L2 Res
structure Cr (z:Siz) (v:Rat) (ps:List Shi) (T:Tab):Prop where
 keys:T.map (·.1)=z.1::ps.map (·.1)
 at_:(z.1,v)∈T
 sh:∀ e∈ps,∃ x,(e.1,x)∈T∧(x=-(room z e v)∨x=room z e v)
 all:∀ p∈T,p.2=v∨∃ e∈ps,p.2=-(room z e v)∨p.2=room z e v
end
section
open TL PySem L2 Res
theorem To.both {ε α:Type} {m:Res ε α} {P Q:α→Prop} (h1:m.To P) (h2:m.To Q):m.To fun a=>P a∧Q a:=by
 obtain ⟨a,rfl,p⟩:=h1
 obtain ⟨b,e,q⟩:=h2
 cases e
 exact ⟨a,rfl,p,q⟩
def Kd (q B:Nat) (r:Rat):Prop:=r.den≤q∧r.num.natAbs≤B*r.den
def KdK (k:Int) (r:Rat):Prop:=(k=3∧Kd 1000 1000000 r)∨(k=2∧Kd 1 1000000000000000 r)∨(k≠3∧k≠2∧Kd 6 10 r)
theorem den_mul (r:Rat):r*(r.den:Rat)=(r.num:Rat):=by
 have e:=VY r.num (r.den:Int)
 rw [Nu.LU] at e
 have d:(((r.den:Nat):Int):Rat)≠0:=fun z=>by
  have:((r.den:Nat):Int)=0:=by exact_mod_cast z
  have:=r.den_pos
  omega
 have e2:=Rat.div_mul_cancel (a:=(r.num:Rat)) d
 rw [← e] at e2
 exact_mod_cast e2
theorem YG (a:Int) {b:Int} (h:b≠0):Nu.q a b*(b:Rat)=(a:Rat):=by
 rw [VY,Rat.div_mul_cancel]
 intro z
 exact h (by exact_mod_cast z)
theorem q_kd {a b:Int} {q B:Nat} (hb:0 < b) (hq:b.toNat≤q) (ha:a.natAbs≤B):Kd q B (Nu.q a b):=by
 have b0:b≠0:=by omega
 have e1:=YG a b0
 have e2:=den_mul (Nu.q a b)
 have dp:=(Nu.q a b).den_pos
 have cr:(Nu.q a b).num*b=a*((Nu.q a b).den:Int):=by
  have:(((Nu.q a b).num:Int):Rat)*(b:Rat)=(a:Rat)*((Nu.q a b).den:Rat):=by
   rw [← e2,← e1]
   grind
  exact_mod_cast this
 have d1:(Nu.q a b).den≤b.natAbs:=by
  unfold Nu.q
  rw [Rat.den_divInt,if_neg b0]
  exact Nat.div_le_self _ _
 refine ⟨by omega,?_⟩
 have h1:(Nu.q a b).num.natAbs*b.natAbs=a.natAbs*(Nu.q a b).den:=by
  have:=congrArg Int.natAbs cr
  rwa [ib,ib,Int.natAbs_natCast] at this
 have h2:(Nu.q a b).num.natAbs*1≤(Nu.q a b).num.natAbs*b.natAbs:=j9 _ (by omega)
 have h3:a.natAbs*(Nu.q a b).den≤B*(Nu.q a b).den:=iP _ ha
 omega
theorem YH {n:Nat} {w:List Int} {k:Int} (h:Wl n w) (hn:n≤2 ^ 38) (k4:k < 4):(Jg w k).To fun r=>KdK k r.1:=by
 have p38:(2:Nat) ^ 38=274877906944:=by decide
 have p40:(2:Nat) ^ 40=1099511627776:=by decide
 have p62:(2:Nat) ^ 62=4611686018427387904:=by decide
 have bg:∀ b:Int,0 < b→b < 2000→b.natAbs < 2 ^ 8000:=fun b _ _=>iE (show b.natAbs < 2 ^ 62 by omega) (iO (by decide) (by decide))
 unfold Jg
 refine To.i (fun c=>?_) fun _=>To.i (fun c=>?_) fun c3=>To.i (fun c=>?_) fun c2=>?_
 ·have:k=4:=by simpa using c
  omega
 ·have e3:k=3:=by simpa using c
  refine To.g (cmulw 2 62 (by decide) (by decide)) (To.b (AY h (by decide) (by decide) (by omega)) fun u ⟨u0,u1,hu⟩=>To.b (AY hu (by decide) (by decide) (by omega)) fun v ⟨v0,v1,hv⟩=>?_)
  rw [ER (by omega) (bg _ (by omega) (by omega))]
  exact To.v (.ok (.inl ⟨e3,q_kd (by omega) (by omega) (by omega)⟩))
 ·have e2:k=2:=by simpa using c
  refine To.g (cmulw 2 62 (by decide) (by decide)) (To.b (AY h (by decide) (by decide) (by omega)) fun u ⟨u0,u1,hu⟩=>To.o (PP _) (.ok (.inr (.inl ⟨e2,q_kd (by omega) (by omega) (by omega)⟩))))
 ·have n3:k≠3:=by simpa using c3
  have n2:k≠2:=by simpa using c2
  refine To.b (AY h (by decide) (by decide) (by omega)) fun u ⟨u0,u1,hu⟩=>To.b (AY hu (by decide) (by decide) (by omega)) fun v ⟨v0,v1,hv⟩=>?_
  obtain ⟨x,hx,e⟩:=Dx (xs:=[(1:Int),1,2,3,6]) v0 (by simpa using v1)
  have x0:0 < x∧x≤6:=by
   simp at hx
   omega
  refine To.o e ?_
  rw [ER (by omega) (bg _ x0.1 (by omega))]
  exact To.v (.ok (.inr (.inr ⟨n3,n2,q_kd (by omega) (by omega) (by omega)⟩)))
theorem Tu {q B:Nat} (h:1≤q):Kd q B 0:=⟨h,iT _⟩
theorem XC {q B:Nat} {r:Rat} (h:Kd q B r):Kd q B (absQ r):=by
 refine ⟨by rw [JM];exact h.1,?_⟩
 rw [JM,JL]
 have:=h.2
 split <;> omega
theorem YI {n:Nat} {w:List Int} {k:Int} (h:Wl n w) (hn:n≤2 ^ 37) (k4:k < 4):(Jh w k).To fun r=>KdK k r.1:=by
 have p37:(2:Nat) ^ 37=137438953472:=by decide
 have p38:(2:Nat) ^ 38=274877906944:=by decide
 have p40:(2:Nat) ^ 40=1099511627776:=by decide
 unfold Jh
 refine To.b (To.both (X1 h (by omega)) (YH h (by omega) k4)) fun u ⟨⟨ub,hu⟩,uk⟩=>To.v (To.b (AY hu (by decide) (by decide) (by omega)) fun v ⟨v0,v1,hv⟩=>To.v (To.i (fun _=>?_) fun _=>?_))
 ·refine .ok ?_
  rcases uk with ⟨e,_⟩ | ⟨e,_⟩ | ⟨e,e',_⟩
  ·exact .inl ⟨e,Tu (by decide)⟩
  ·exact .inr (.inl ⟨e,Tu (by decide)⟩)
  ·exact .inr (.inr ⟨e,e',Tu (by decide)⟩)
 ·refine To.o (a:=absQ u.1) ?_ (.ok ?_)
  ·rw [← KM (absQ u.1),JL,JM]
  ·rcases uk with ⟨e,q⟩ | ⟨e,q⟩ | ⟨e,e',q⟩
   ·exact .inl ⟨e,XC q⟩
   ·exact .inr (.inl ⟨e,XC q⟩)
   ·exact .inr (.inr ⟨e,e',XC q⟩)
end
section
open TL PySem L2 Res
namespace Tbl
open PD
def Feas (ps:List (Int×Int)) (X:Rat):Prop:=0≤X∧∀ p∈ps,(p.1:Rat)*X≤(p.2:Rat)
def Ends (ps:List (Int×Int)):Option (Rat×Option Rat)→Prop
 | none=>∀ X,¬ Feas ps X
 | some (low,high)=>Nu.Bd 40 low∧(∀ h,high=some h→Nu.Bd 40 h∧low≤h)∧(∀ X,Feas ps X↔low≤X∧∀ h,high=some h→X≤h)∧(high=none→∀ p∈ps,p.1≤0)
theorem TB {a:Int} (h:0 < a):(0:Rat) < (a:Rat):=by exact_mod_cast h
section
variable {goal:List Int} {rows:List (List Int)} {lims:List Int} {P Y:Nat→Int}
structure Made (goal:List Int) (rows:List (List Int)) (lims:List Int) (P Y:Nat→Int):Prop where
 p0:∀ j,0≤P j
 y0:∀ i,0≤Y i
 lim:∀ i,i < rows.length→∃ s:Int,0≤s∧lOf lims i=(sumN goal.length fun j=>aOf rows i j*P j)+s*(if Y i=0 then 1 else 0)
 gl:∀ j,j < goal.length→∃ t:Int,0≤t∧cOf goal j=(sumN rows.length fun i=>aOf rows i j*Y i) - t*(if P j=0 then 1 else 0)
theorem Made.keeps (h:Made goal rows lims P Y):Keeps goal.length rows.length (aOf rows) (lOf lims) 1 P:=⟨fun j _=>h.p0 j,fun i hi=>by
 obtain ⟨s,s0,e⟩:=h.lim i hi
 rw [Int.one_mul,e]
 split
 ·omega
 ·omega⟩
end
end Tbl
end
section
open TL PySem L2 Res
structure SzW (z:Siz):Prop where
 nm:Nmo z.1
 bl:Nu.Bd 900 z.2.1
 bm:Nu.Bd 900 z.2.2.1
 le:¬ z.2.2.1.num*(z.2.1.den:Int) < z.2.1.num*(z.2.2.1.den:Int)
 sh:∀ e∈z.2.2.2,ShOk e
 nd:(nmz z).Nodup
 len:z.2.2.2.length≤12
theorem SzOk.w {z:Siz} (h:SzOk z):SzW z:=⟨h.nm,h.bl.mono (by decide),h.bm.mono (by decide),h.le,h.sh,h.nd,h.len⟩
structure StW (zs:List Siz):Prop where
 sz:∀ z∈zs,SzW z
 nd:(alln zs).Nodup
 le:(alln zs).length≤30
theorem StOk.w {zs:List Siz} (h:StOk zs):StW zs:=⟨fun z hz=>(h.sz z hz).w,h.nd,iH h.le (by decide)⟩
end
section
open TL PySem L2 Res
theorem dC {α:Type} (xs:List α) (k:Nat):cutL xs none (some (k:Int))=xs.take k:=by
 unfold cutL
 rw [HT.sIx_nat,HT.sIx_none]
 simp only [Nat.sub_zero,List.drop_zero]
 rcases Nat.le_total k xs.length with q | q
 ·rw [Nat.min_eq_left q]
 ·rw [Nat.min_eq_right q,jK (iA _),jK q]
theorem bL {α:Type} (xs:List α) (k:Nat):cutL xs (some (k:Int)) none=xs.drop k:=by
 unfold cutL
 rw [HT.sIx_nat,HT.sIx_none]
 rcases Nat.le_total k xs.length with q | q
 ·rw [Nat.min_eq_left q,jK (by simp)]
 ·rw [Nat.min_eq_right q,List.drop_eq_nil_of_le (iA _),List.drop_eq_nil_of_le q]
  simp
end
section
open TL PySem L2 Res
structure Nm8 (t:Tx):Prop where
 l1:1≤t.len
 l2:t.len≤8
 abc:∀ c∈t.s.cps.toList,97≤c∧c < 123
theorem fV:∀ c:Nat,c < 123→97≤c→c∈C6.s.cps.toList:=by decide +kernel
theorem Nm8.nmo {t:Tx} (h:Nm8 t):Nmo t:=⟨h.l1,by have:=h.l2;omega,fun c hc=>fV c (h.abc c hc).2 (h.abc c hc).1⟩
end
section
open TL PySem L2 Res
theorem dD {α:Type} (xs:List α) (x:α):atI (xs++[x]) (-(1:Int))=some x:=by
 unfold atI ixN
 rw [if_neg (by decide),if_pos (by simp;omega),jS]
 have:((-(1:Int))+((xs++[x]).length:Int)).toNat=xs.length:=by simp;omega
 rw [this]
 simp
structure Own8 (zs:List Siz):Prop where
 st:StOk zs
 nm:∀ t∈alln zs,Nm8 t
theorem XF {α:Type} {xs:List α} {x:α} (h:xs.Nodup) (n:x∉xs):(xs++[x]).Nodup:=iC.mpr ⟨h,by simp,fun a ha b hb e=>n (by rw [i6.mp hb] at e;exact e ▸ ha)⟩
end
section
open TL PySem L2 Res
abbrev SumT:=Rat×List (Tx×Rat)
def addS (a b:SumT):SumT:=(a.1+b.1,resT (a.2++b.2))
theorem bM {ps:List (Tx×Rat)} {d:Nat} {k:Tx} (nd:(ps.map (·.1)).Nodup) (hb:∀ e∈ps,Nu.Bd d e.2) (h0:0 < d):Nu.Bd d (totT ps k):=by
 by_cases c:k∈ps.map (·.1)
 ·obtain ⟨e,he,rfl⟩:=hA.mp c
  rw [G5 nd he]
  exact hb e he
 ·rw [Cy c]
  exact bd0' h0
section
variable {d e:Nat} {zs:List Tx} {a b:SumT}
theorem tot2 (ha:Sm d zs a) (hb:Sm e zs b) (d0:0 < d) (e0:0 < e) (k:Tx):Nu.Bd (d+e+1) (totT (a.2++b.2) k):=by
 rw [Hh]
 exact Nu.L0 (bM ha.nd ha.e d0) (bM hb.nd hb.e e0)
theorem dE (ha:Sm d zs a) (hb:Sm e zs b) (d0:0 < d) (e0:0 < e):Sm (d+e+1) zs (addS a b) where
 n:=Nu.L0 ha.n hb.n
 e := fun f hf=>by
  have hf':f∈resT (a.2++b.2):=hf
  unfold resT at hf'
  obtain ⟨k,_,rfl⟩:=hA.mp hf'
  exact tot2 ha hb d0 e0 k
 rise:=Jn _
 nz:=fS _
 sub:=fun f hf=>by
  obtain ⟨g,hg,e1⟩:=hA.mp (Jp hf)
  rw [← e1]
  exact (hY.mp hg).elim (ha.sub g) (hb.sub g)
end
def mapS (f:Rat→Rat) (b:SumT):SumT:=(f b.1,b.2.map fun e=>(e.1,f e.2))
def bN (b:SumT):SumT:=mapS (fun r=>-r) b
theorem map_id (b:SumT):mapS (fun r=>r) b=b:=by
 unfold mapS
 rw [show (fun e:Tx×Rat=>(e.1,e.2))=id from rfl,List.map_id]
section
variable {d e:Nat} {zs:List Tx} {a b:SumT}
theorem bO {n:Nat} {r:Rat} (h:Nu.Bd n r):Nu.Bd n (-r):=⟨by show (-r.num).natAbs < _;rw [Int.natAbs_neg];exact h.1,h.2⟩
theorem Sm.neg (hb:Sm e zs b):Sm e zs (bN b) where
 n:=bO hb.n
 e := fun f hf=>by
  obtain ⟨g,hg,rfl⟩:=hA.mp hf
  exact bO (hb.e g hg)
 rise:=by
  show ((b.2.map fun e=>(e.1,-e.2)).map (·.1)).Pairwise ltT
  rw [iJ]
  exact hb.rise
 nz:=fun f hf=>by
  obtain ⟨g,hg,rfl⟩:=hA.mp hf
  have:=hb.nz g hg
  show -g.2≠0
  grind
 sub:=fun f hf=>by
  obtain ⟨g,hg,rfl⟩:=hA.mp hf
  exact hb.sub g hg
end
end
section
open TL PySem L2 Res
abbrev Pl:=List (Tx×Tx×SumT)
abbrev Axs:List Tx:=[C7,FX]
structure PlOk (d:Nat) (ns:List Tx) (pl:Pl):Prop where
 nd:(pl.map (·.1)).Nodup
 nm:∀ e∈pl,Nm8 e.1∧e.1≠Gy
 ax:∀ e∈pl,e.2.1∈Axs
 sm:∀ e∈pl,Sm d ns e.2.2
 len:pl.length≤30
theorem PlOk.mono {d d':Nat} {ns:List Tx} {pl:Pl} (h:PlOk d ns pl) (l:d≤d'):PlOk d' ns pl:=⟨h.nd,h.nm,h.ax,fun e he=>(h.sm e he).mono l,h.len⟩
theorem PlOk.nil {d:Nat} {ns:List Tx}:PlOk d ns []:=⟨.nil,(fun e he=>by cases he),(fun e he=>by cases he),(fun e he=>by cases he),iT _⟩
theorem PlOk.snoc {d:Nat} {ns:List Tx} {pl:Pl} {f:Tx×Tx×SumT} (h:PlOk d ns pl) (h1:Nm8 f.1) (h2:f.1≠Gy) (h3:f.1∉pl.map (·.1)) (h4:f.2.1∈Axs) (h5:Sm d ns f.2.2) (h6:pl.length < 30):PlOk d ns (pl++[f]):=by
 refine ⟨by rw [i8];exact XF h.nd h3,fun e he=>?_,fun e he=>?_,fun e he=>?_,by simp;omega⟩
 all_goals rcases hY.mp he with q | q
 ·exact h.nm e q
 ·rw [i6.mp q];exact ⟨h1,h2⟩
 ·exact h.ax e q
 ·rw [i6.mp q];exact h4
 ·exact h.sm e q
 ·rw [i6.mp q];exact h5
def mv (ax:Tx) (b:SumT) (f:Tx×Tx×SumT):Tx×Tx×SumT:=if f.2.1=ax then (f.1,f.2.1,addS f.2.2 b) else f
theorem mv1 (ax:Tx) (b:SumT) (f:Tx×Tx×SumT):(mv ax b f).1=f.1:=by unfold mv;split <;> rfl
theorem mv2 (ax:Tx) (b:SumT) (f:Tx×Tx×SumT):(mv ax b f).2.1=f.2.1:=by unfold mv;split <;> rfl
theorem dF (ax:Tx) (b:SumT) (pl:Pl):(pl.map (mv ax b)).map (·.1)=pl.map (·.1):=by
 rw [iJ]
 exact jF fun f _=>mv1 ax b f
section
variable {nm:Tx} {zs:List Siz} {d e:Nat} {pl:Pl} {ax:Tx} {b:SumT}
theorem gU {ns:List Tx} (hb:Sm e ns b) (d0:0 < d) (e0:0 < e) {f:Tx×Tx×SumT} (hf:Sm d ns f.2.2):Sm (d+e+1) ns (mv ax b f).2.2:=by
 unfold mv
 split
 ·exact dE hf hb d0 e0
 ·exact hf.mono (by omega)
theorem PlOk.mv {ns:List Tx} (h:PlOk d ns pl) (hb:Sm e ns b) (d0:0 < d) (e0:0 < e):PlOk (d+e+1) ns (pl.map (_root_.mv ax b)):=by
 refine ⟨by rw [dF];exact h.nd,fun f hf=>?_,fun f hf=>?_,fun f hf=>?_,by rw [gy];exact h.len⟩
 all_goals obtain ⟨g,hg,rfl⟩:=hA.mp hf
 ·rw [mv1];exact h.nm g hg
 ·rw [mv2];exact h.ax g hg
 ·exact gU hb d0 e0 (h.sm g hg)
end
end
section
open TL PySem L2 Res
abbrev Fc:=Tx×Tx×Option Tx×SumT
def gV (pl:Pl) (f:Fc):Pl:=pl++[(f.1,f.2.1,match f.2.2.1 with
 | none=>f.2.2.2
 | some st=>match dget pl st with
  | none=>f.2.2.2
  | some q=>addS q.2 f.2.2.2)]
def build (fs:List Fc):Pl:=fs.foldl gV []
structure Step (ns:List Tx) (pl:Pl) (f:Fc):Prop where
 nm:Nm8 f.1
 fr:f.1≠Gy
 new:f.1∉pl.map (·.1)
 ax:f.2.1∈Axs
 sm:Sm 40 ns f.2.2.2
 st:f.2.2.1=none∨∃ st q,f.2.2.1=some st∧dget pl st=some (f.2.1,q)
def FOk (ns:List Tx) (fs:List Fc):Prop:=(∀ pre f post,fs=pre++f::post→Step ns (build pre) f)∧fs.length≤9
theorem FOk.pre {ns:List Tx} {pre post:List Fc} (h:FOk ns (pre++post)):FOk ns pre:=⟨fun p f q e=>h.1 p f (q++post) (by rw [e];simp),by have:=h.2;rw [List.length_append] at this;omega⟩
theorem FOk.snoc {ns:List Tx} {fs:List Fc} {f:Fc} (h:FOk ns fs) (s:Step ns (build fs) f) (l:fs.length < 9):FOk ns (fs++[f]):=⟨fun pre g post e=>by
 rcases List.append_eq_append_iff.mp e with ⟨c,h1,h2⟩ | ⟨c,h1,h2⟩
 ·cases c with
  | nil=>
   rw [iI] at h1
   simp at h2
   rw [h1,← h2.1]
   exact s
  | cons x c=>
   have:=congrArg List.length h2
   simp at this
 ·cases c with
  | nil=>
   simp at h1 h2
   rw [← h1,h2.1]
   exact s
  | cons x c=>
   simp at h2
   rw [← h2.1] at h1
   exact h.1 pre g c h1,by rw [List.length_append,List.length_singleton];omega⟩
end
section
open TL PySem L2 Res PySem.NumText
def WOk (l:List Nat):Prop:=1≤l.length∧l.length≤18∧AllDigits l∧(l.head?=some 48→l=[48])
end
section
open TL PySem L2 Res PySem.NumText
theorem Tv:∀ {l:List Nat},AllDigits l→digitsVal l < 10 ^ l.length:=by
 have key:∀ (l:List Nat) (a:Nat),AllDigits l→l.foldl (fun acc c=>acc*10+(c - 48)) a < (a+1)*10 ^ l.length:=by
  intro l
  induction l with
  | nil=>intro a _;simp
  | cons c l ih=>
   intro a h
   have hc:=h.head
   have:=ih (a*10+(c - 48)) h.tail
   rw [List.foldl_cons,i7,Nat.pow_succ]
   refine iE this ?_
   rw [show (a+1)*(10 ^ l.length*10)=((a+1)*10)*10 ^ l.length by ac_rfl]
   exact iP _ (by omega)
 intro l h
 have:=key l 0 h
 unfold digitsVal
 omega
theorem WOk.lt {l:List Nat} (h:WOk l):digitsVal l < 10 ^ 18:=iE (Tv h.2.2.1) (iO (by decide) h.2.1)
def pl (n d:Nat):List Nat:=if d=1 then numL n else numL n++47::numL d
def sg (i:Int):List Nat:=if i < 0 then [45] else []
end
section
open TL PySem L2 Res PySem.NumText
def Nb (r:Rat):Prop:=r.num.natAbs < 10 ^ 18∧r.den < 10 ^ 18
def tx (r:Rat):List Nat:=sg r.num++pl r.num.natAbs r.den
end
section
open TL PySem L2 Res
def pfx (w t:Tx):Tx:=w++Gv++t
def cz (w:Tx) (z:Siz):Siz:=(pfx w z.1,z.2.1,z.2.2.1,z.2.2.2.map fun e=>(pfx w e.1,e.2.1,e.2.2))
structure Wrd (w:Tx):Prop where
 len:w.len≤12
 abc:∀ c∈w.s.cps.toList,c∈C6.s.cps.toList
theorem dG:Gv.len=1:=by decide +kernel
theorem dH {w a b:Tx} (h:pfx w a=pfx w b):a=b:=by
 have e:=congrArg (fun z:Tx=>z.s.cps.toList) h
 have e1:(pfx w a).s.cps.toList=(w++Gv).s.cps.toList++a.s.cps.toList:=Tx.app_l _ _
 have e2:(pfx w b).s.cps.toList=(w++Gv).s.cps.toList++b.s.cps.toList:=Tx.app_l _ _
 have e':(pfx w a).s.cps.toList=(pfx w b).s.cps.toList:=e
 rw [e1,e2] at e'
 have e3:=List.append_cancel_left e'
 refine Tx.ext' ?_
 have h1:a.s.cps=b.s.cps:=Array.toList_inj.mp e3
 cases ha:a.s with
 | mk x=>cases hb:b.s with
  | mk y=>
   rw [ha,hb] at h1
   have:x=y:=h1
   rw [this]
theorem YJ {w t:Tx} (hw:Wrd w) (ht:Nmo t) (hl:t.len≤16):Nmo (pfx w t):=by
 have l:=hw.len
 have e:(pfx w t).len=w.len+1+t.len:=by unfold pfx;rw [Tx.len_app,Tx.len_app,dG]
 have l1:=ht.l1
 refine ⟨by omega,by omega,fun c hc=>?_⟩
 unfold pfx at hc
 rw [Tx.app_l,Tx.app_l] at hc
 have dt:∀ c∈Gv.s.cps.toList,c∈C6.s.cps.toList:=by decide +kernel
 rcases hY.mp hc with q | q
 ·rcases hY.mp q with q | q
  ·exact hw.abc c q
  ·exact dt c q
 ·exact ht.abc c q
theorem bP (w:Tx) (z:Siz):nmz (cz w z)=(nmz z).map (pfx w):=by
 unfold nmz cz
 simp
theorem Tw (w:Tx):∀ zs:List Siz,alln (zs.map (cz w))=(alln zs).map (pfx w)
 | []=>rfl
 | z::zs=>by rw [hG,Fe,Fe,Tw w zs,bP,i8]
theorem bQ {w:Tx} {xs:List Tx} (h:xs.Nodup):(xs.map (pfx w)).Nodup:=by
 rw [List.Nodup,jd]
 exact h.imp fun ne e=>ne (dH e)
theorem StOk.cz {zs:List Siz} {w:Tx} (ho:StOk zs) (hs:∀ t∈alln zs,t.len≤16) (hw:Wrd w):StW (zs.map (cz w)):=by
 refine ⟨fun z hz=>?_,by rw [Tw];exact bQ ho.nd,by rw [Tw,gy];exact iH ho.le (by decide)⟩
 obtain ⟨y,hy,rfl⟩:=hA.mp hz
 have so:=ho.sz y hy
 have sl:∀ t∈nmz y,t.len≤16:=fun t ht=>hs t (List.mem_flatMap.mpr ⟨y,hy,ht⟩)
 refine ⟨YJ hw so.nm (sl _ gu),so.bl.mono (by decide),so.bm.mono (by decide),so.le,fun e he=>?_,by rw [bP];exact bQ so.nd,by show (y.2.2.2.map _).length≤12;rw [gy];exact so.len⟩
 obtain ⟨x,hx,rfl⟩:=hA.mp (show e∈y.2.2.2.map fun e=>(pfx w e.1,e.2.1,e.2.2) from he)
 have xo:=so.sh x hx
 exact ⟨YJ hw xo.nm (sl _ (gz _ (iD hx))),xo.bd,xo.nn,xo.way⟩
theorem StW.app {xs ys:List Siz} (hx:StW xs) (hy:StW ys) (hl:(alln xs).length+(alln ys).length≤30) (hd:∀ t∈alln ys,t∉alln xs):StW (xs++ys)∧StW (ys++xs):=by
 refine ⟨⟨fun z hz=>?_,?_,by rw [ET,List.length_append];exact hl⟩,⟨fun z hz=>?_,?_,by rw [ET,List.length_append];omega⟩⟩
 ·rcases hY.mp hz with q | q
  ·exact hx.sz z q
  ·exact hy.sz z q
 ·rw [ET,iC]
  exact ⟨hx.nd,hy.nd,fun a ha b hb e=>hd b hb (e ▸ ha)⟩
 ·rcases hY.mp hz with q | q
  ·exact hy.sz z q
  ·exact hx.sz z q
 ·rw [ET,iC]
  exact ⟨hy.nd,hx.nd,fun a ha b hb e=>hd a ha (e ▸ hb)⟩
end
section
open TL PySem L2 Res
abbrev ShI:=Tx×Int×Tx
abbrev SzI:=Tx×Int×Int×List ShI
abbrev FcI:=Tx×Int×List (Tx×Int)
abbrev PaI:=Tx×List SzI×List FcI
def nmi (s:SzI):List Tx:=s.1::s.2.2.2.map (·.1)
def alli (zs:List SzI):List Tx:=zs.flatMap nmi
structure SzIOk (s:SzI):Prop where
 w:Wd 0 s.1∨Wd 2 s.1
 lo:s.2.1.natAbs≤100000000000000000
 hi:s.2.2.1.natAbs≤100000000000000000
 le:s.2.1≤s.2.2.1
 sh:∀ e∈s.2.2.2,Wd 1 e.1∧0≤e.2.1∧e.2.1≤1000000000000000∧e.2.2∈[BU,BF,Bl]
structure PaIOk (j:Nat) (p:PaI):Prop where
 w:Wd j p.1
 sz:∀ s∈p.2.1,SzIOk s
 nd:(alli p.2.1).Nodup
 le:(alli p.2.1).length≤2
 pos:1≤p.2.1.length
 o1:1≤j→p.2.1.length≤1
 fc:∃ (st:Int) (tips:List (Tx×Int)),p.2.2=[(Cs,st,[]),(Df,st,tips)]∧st.natAbs≤100000000000000000∧(∀ e∈tips,e.1∈alli p.2.1∧e.2∈[(1:Int),-1,2])∧(tips.map (·.1)).Nodup
theorem Wd.ne {j k:Nat} {t u:Tx} (h:Wd j t) (h':Wd k u) (n:j≠k):t≠u:=fun e=>n (h.inj (e ▸ h'))
end
section
open TL PySem L2 Res
abbrev FaI:=Tx×Tx
abbrev RwI:=Tx×List FaI
abbrev PlI:=List PaI×List RwI
def FaIn (ws:List Tx) (f:FaI):Prop:=f.1∈ws∧(f.2=Cs∨f.2=Df)
inductive RwOk (ws:List Tx):RwI→Prop
 | lies {f g:FaI} (h1:FaIn ws f) (h2:FaIn ws g):RwOk ws (OJ,[f,g])
 | ahead {f g:FaI} (h1:FaIn ws f) (h2:FaIn ws g):RwOk ws (OI,[f,g])
 | within {f g h i:FaI} (h1:FaIn ws f) (h2:FaIn ws g) (h3:FaIn ws h) (h4:FaIn ws i):RwOk ws (OK,[f,g,h,i])
theorem FaIn.mono {ws vs:List Tx} {f:FaI} (h:FaIn ws f) (s:∀ t∈ws,t∈vs):FaIn vs f:=⟨s _ h.1,h.2⟩
theorem RwOk.mono {ws vs:List Tx} {q:RwI} (h:RwOk ws q) (s:∀ t∈ws,t∈vs):RwOk vs q:=by
 cases h with
 | lies h1 h2=>exact .lies (h1.mono s) (h2.mono s)
 | ahead h1 h2=>exact .ahead (h1.mono s) (h2.mono s)
 | within h1 h2 h3 h4=>exact .within (h1.mono s) (h2.mono s) (h3.mono s) (h4.mono s)
structure PlIOk (r:PlI):Prop where
 l2:2≤r.1.length
 l6:r.1.length≤6
 pd:∀ p∈r.1,∃ j,j < 6∧PaIOk j p
 nd:(r.1.map (·.1)).Nodup
 rw:∀ q∈r.2,RwOk (r.1.map (·.1)) q
 rl:r.2.length≤7
 r1:1≤r.2.length
 s7:(r.1.flatMap fun p=>p.2.1).length≤7
end
section
open TL PySem PySem.Spec L2 Res
open TL PySem PySem.Spec L2 Res
theorem Vk:∀ {a b:List Nat},ltCps a b=true→a < b
 | [],[],h=>by cases h
 | [],_::_,_=>List.nil_lt_cons _ _
 | _::_,[],h=>by cases h
 | a::r,b::t,h=>by
  rw [List.cons_lt_cons_iff]
  have h':(decide (a < b) || (a == b && ltCps r t))=true:=h
  simp only [Bool.or_eq_true,decide_eq_true_eq,iN,beq_iff_eq] at h'
  rcases h' with h | ⟨h1,h2⟩
  ·exact .inl h
  ·exact .inr ⟨h1,Vk h2⟩
open PySem.W PyProof.Rows in
theorem fW {a b:Tx×Rat} (h:dataLe false (e2 eS eQ) a b=true) (n:a.1≠b.1):ltT a.1 b.1:=by
 refine Tn (fun q=>?_) fun e=>n e.symm
 have q':ltCps b.1.s.cps.toList a.1.s.cps.toList=true:=q
 have z:PyProof.Rows.lexLt itemOrd (keyToks (e2 eS eQ b)) (keyToks (e2 eS eQ a))=true:=by
  show PyProof.Rows.lexLt itemOrd (.inl 1::(.inr b.1.s.cps.toList::_)) (.inl 1::(.inr a.1.s.cps.toList::_))=true
  unfold PyProof.Rows.lexLt
  unfold PyProof.Rows.lexLt
  have b1:itemOrd.blt (.inl 1) (.inl 1)=false:=itemOrd.irrefl _
  have b2:itemOrd.blt (.inr b.1.s.cps.toList) (.inr a.1.s.cps.toList)=true:=decide_eq_true (Vk q')
  rw [b1,b2]
  rfl
 have:(!PyProof.Rows.lexLt itemOrd (keyToks (e2 eS eQ b)) (keyToks (e2 eS eQ a)))=true:=h
 rw [z] at this
 cases this
open PySem.W PyProof.Rows in
theorem XG {xs:List (Tx×Rat)} (nd:(xs.map (·.1)).Nodup):((Cg (e2 eS eQ) xs).map (·.1)).Pairwise ltT:=by
 have t:=PySem.W.sortLe_total (listOrd itemOrd) false fun b:Tx×Rat=>keyToks (e2 eS eQ b)
 have pw:(Cg (e2 eS eQ) xs).Pairwise fun a b=>dataLe false (e2 eS eQ) a b=true:=List.pairwise_mergeSort (fun a b c h1 h2=>t.trans a b c h1 h2) (fun a b=>by rcases t.total a b with h | h <;> (show (_ || _)=true;rw [show _=true from h];simp)) xs
 have pm:(Cg (e2 eS eQ) xs).Perm xs:=List.mergeSort_perm _ _
 have nd2:((Cg (e2 eS eQ) xs).map (·.1)).Nodup:=(pm.map (·.1)).nodup_iff.mpr nd
 rw [jd]
 have nd3:(Cg (e2 eS eQ) xs).Pairwise fun a b=>a.1≠b.1:=jd.mp nd2
 exact (pw.and nd3).imp fun h=>fW h.1 h.2
theorem Wd.nm8 {k:Nat} {t:Tx} (h:Wd k t) (hk:k < 16):Nm8 t:=by
 obtain ⟨cs,e,h1,h2⟩:=h
 have l:t.len=cs.length+1:=by rw [Tx.len_l,e];simp
 refine ⟨by omega,by omega,fun c hc=>?_⟩
 rw [e] at hc
 rcases hY.mp hc with q | q
 ·exact h1 c q
 ·simp at q
  omega
def qn (t:Int):Rat:=Nu.q t 60
theorem YK {t:Int} (h:t.natAbs≤100000000000000000):Nu.Bd 62 (qn t):=by
 have p62:(2:Nat) ^ 62=4611686018427387904:=by decide
 exact Nu.q_bd (by omega) (by rw [p62];decide) (by decide)
def qsh (e:ShI):Shi:=(e.1,qn e.2.1,e.2.2)
def qz (s:SzI):Siz:=(s.1,qn s.2.1,qn s.2.2.1,s.2.2.2.map qsh)
def qtip (e:Tx×Int):Tx×Rat:=(e.1,Nu.q e.2 1)
noncomputable def qf (f:FcI):Tx×Tx×SumT:=(f.1,C7,(qn f.2.1,Cg (e2 eS eQ) (f.2.2.map qtip)))
noncomputable def mkPa (p:PaI):Tx×List Siz×Pl:=(p.1,p.2.1.map qz,p.2.2.map qf)
theorem bR (s:SzI):nmz (qz s)=nmi s:=by
 show s.1::(s.2.2.2.map qsh).map (·.1)=s.1::s.2.2.2.map (·.1)
 rw [iJ]
 rfl
theorem LD:∀ zs:List SzI,alln (zs.map qz)=alli zs
 | []=>rfl
 | z::zs=>by
  show nmz (qz z)++alln (zs.map qz)=nmi z++alli zs
  rw [bR,LD zs]
theorem SzIOk.ok {s:SzI} (h:SzIOk s) (nd:(nmi s).Nodup) (le:(nmi s).length≤2):SzOk (qz s):=by
 refine ⟨?_,YK h.lo,(YK h.hi).mono (by decide),q_le (by decide) h.le,?_,?_,?_⟩
 ·rcases h.w with w | w <;> exact (w.nm8 (by decide)).nmo
 ·intro e he
  obtain ⟨x,hx,rfl⟩:=hA.mp he
  obtain ⟨w,a,b,c⟩:=h.sh x hx
  exact ⟨(w.nm8 (by decide)).nmo,YK (by omega),q_nn (by decide) a,c⟩
 ·show (nmz (qz s)).Nodup
  rw [bR]
  exact nd
 ·show (s.2.2.2.map qsh).length≤12
  rw [gy]
  unfold nmi at le
  rw [i7,gy] at le
  omega
section
variable {j:Nat} {p:PaI} (h:PaIOk j p)
include h
theorem PaIOk.one {s:SzI} (hs:s∈p.2.1):(nmi s).Nodup∧(nmi s).length≤2:=by
 have sl:(nmi s).Sublist (alli p.2.1):=by
  obtain ⟨a,b,e⟩:=List.append_of_mem hs
  rw [e]
  unfold alli
  rw [jG,jM]
  exact (jE _ _).trans (List.sublist_append_right _ _)
 exact ⟨h.nd.sublist sl,iH sl.length_le h.le⟩
theorem PaIOk.own:Own8 (p.2.1.map qz):=by
 refine ⟨⟨fun z hz=>?_,by rw [LD];exact h.nd,by rw [LD];exact iH h.le (by decide)⟩,fun t ht=>?_⟩
 ·obtain ⟨s,hs,rfl⟩:=hA.mp hz
  exact (h.sz s hs).ok (h.one hs).1 (h.one hs).2
 ·rw [LD] at ht
  obtain ⟨s,hs,ht'⟩:=List.mem_flatMap.mp ht
  have ok:=h.sz s hs
  rcases hZ.mp ht' with e | e
  ·rw [e]
   rcases ok.w with w | w <;> exact w.nm8 (by decide)
  ·obtain ⟨x,hx,rfl⟩:=hA.mp e
   exact (ok.sh x hx).1.nm8 (by decide)
end
theorem bS {i:Int} (h:i∈[(1:Int),-1,2]):Nu.Bd 62 (Nu.q i 1)∧Nu.q i 1≠0:=by
 have all:∀ i∈[(1:Int),-1,2],Nu.Bd 62 (Nu.q i 1)∧Nu.q i 1≠0:=by unfold Nu.Bd;decide +kernel
 exact all i h
theorem dI {st:Int} {tips:List (Tx×Int)} {ns:List Tx} (h1:st.natAbs≤100000000000000000) (h2:∀ e∈tips,e.1∈ns∧e.2∈[(1:Int),-1,2]) (h3:(tips.map (·.1)).Nodup):Sm 62 ns (qn st,Cg (e2 eS eQ) (tips.map qtip)):=by
 have pm:(Cg (e2 eS eQ) (tips.map qtip)).Perm (tips.map qtip):=List.mergeSort_perm _ _
 have mm:∀ e∈Cg (e2 eS eQ) (tips.map qtip),∃ x∈tips,e=qtip x:=fun e he=>by
  obtain ⟨x,hx,rfl⟩:=hA.mp (pm.mem_iff.mp he)
  exact ⟨x,hx,rfl⟩
 refine ⟨YK h1,fun e he=>?_,XG (by rw [iJ];exact h3),fun e he=>?_,fun e he=>?_⟩
 all_goals obtain ⟨x,hx,rfl⟩:=mm e he
 ·exact (bS (h2 x hx).2).1
 ·exact (bS (h2 x hx).2).2
 ·exact (h2 x hx).1
structure PtOk (q:Tx×List Siz×Pl):Prop where
 w:Nm8 q.1
 own:Own8 q.2.1
 pl:PlOk 62 (alln q.2.1) q.2.2
 le:(alln q.2.1).length≤2
 fl:q.2.2.map (fun f=>(f.1,f.2.1))=[(Cs,C7),(Df,C7)]
theorem PaIOk.pt {j:Nat} {p:PaI} (h:PaIOk j p) (hj:j < 6):PtOk (mkPa p):=by
 obtain ⟨st,tips,e,s1,s2,s3⟩:=h.fc
 have e':(mkPa p).2.2=[qf (Cs,st,[]),qf (Df,st,tips)]:=by
  show p.2.2.map qf=_
  rw [e]
  rfl
 refine ⟨h.w.nm8 (by omega),h.own,?_,by show (alln (p.2.1.map qz)).length≤2;rw [LD];exact h.le,by rw [e'];rfl⟩
 show PlOk 62 (alln (p.2.1.map qz)) _
 rw [e',LD]
 have nl:Nm8 Cs:=⟨by decide +kernel,by decide +kernel,by decide +kernel⟩
 have nr:Nm8 Df:=⟨by decide +kernel,by decide +kernel,by decide +kernel⟩
 have sm:∀ t:List (Tx×Int),(∀ e∈t,e.1∈alli p.2.1∧e.2∈[(1:Int),-1,2])→(t.map (·.1)).Nodup→Sm 62 (alli p.2.1) (qf (Cs,st,t)).2.2:=fun t t1 t2=>dI s1 t1 t2
 exact (PlOk.nil.snoc (f:=qf (Cs,st,[])) nl (show Cs≠Gy by decide +kernel) (by simp) (show C7∈Axs by decide) (sm _ (fun e he=>by cases he) .nil) (by decide)).snoc (f:=qf (Df,st,tips)) nr (show Df≠Gy by decide +kernel)
  (show Df∉[Cs] by decide +kernel) (show C7∈Axs by decide) (sm _ s2 s3) (by show 1 < 30;decide)
end
section
open TL PySem PySem.Spec L2 Res
theorem Nm8.wrd {t:Tx} (h:Nm8 t):Wrd t:=⟨by have:=h.l2;omega,h.nmo.abc⟩
abbrev PtT:=Tx×List Siz×Pl
def whole (qs:List PtT):List Siz:=qs.flatMap fun q=>q.2.1.map (cz q.1)
structure AsOk (qs:List PtT):Prop where
 pt:∀ q∈qs,PtOk q
 nd:(qs.map (·.1)).Nodup
 l6:qs.length≤6
theorem PtOk.cz {q:PtT} (h:PtOk q):StW (q.2.1.map (cz q.1)):=h.own.st.cz (fun t ht=>by have:=(h.own.nm t ht).l2;omega) h.w.wrd
theorem AsOk.pre {qs rs:List PtT} (h:AsOk (qs++rs)):AsOk qs:=⟨fun q hq=>h.pt q (iG _ hq),h.nd.sublist (by rw [i8];exact jE _ _),by have:=h.l6;rw [List.length_append] at this;omega⟩
end
section
open TL PySem L2 Res
theorem To.t {ε:Type} {b:Bool} {m n:Res ε Bool} {P:Bool→Prop} (h:b=false) (f:n.To P):(if b=true then m else n).To P:=by
 subst h
 exact f
end
section
open TL PySem PySem.Spec L2 Res
abbrev GpT:=(Tx×Tx)×(Tx×Tx)×SumT
section
variable {qs:List PtT} {W:List Siz} {g:List GpT} {r:List RwI}
theorem Sm.up {ns ms:List Tx} {a:SumT} {d:Nat} (h:Sm d ns a) (s:∀ t∈ns,t∈ms):Sm d ms a:=⟨h.n,h.e,h.rise,h.nz,fun e he=>s _ (h.sub e he)⟩
end
end
section
open TL PySem PySem.Spec L2 Res
abbrev AsmT:=List PtT×List Siz×List RwI×List GpT
def Made (qs:List PtT) (rs:List RwI) (o:AsmT):Prop:=o.1=qs∧o.2.1=whole qs∧o.2.2.1=rs∧o.2.2.2.length≤2*rs.length
end
section
open TL PySem L2 Res
section
open TL PySem L2
open Res
theorem Nb.bd {r:Rat} (h:Nb r):Nu.Bd 60 r:=⟨Nat.lt_trans h.1 (by decide),Nat.lt_trans h.2 (by decide)⟩
end
section
open TL PySem L2
open Res
structure PtG (q:PtT):Prop where
 w:Nm8 q.1
 own:Own8 q.2.1
 pl:PlOk 62 (alln q.2.1) q.2.2
 l9:q.2.2.length≤9
structure AsG (qs:List PtT):Prop where
 pt:∀ q∈qs,PtG q
 nd:(qs.map (·.1)).Nodup
 l6:qs.length≤6
 l12:(alln (whole qs)).length≤12
def FcG (qs:List PtT) (ax:Tx) (f:FaI):Prop:=∃ q∈qs,q.1=f.1∧∃ x∈q.2.2,x.1=f.2∧x.2.1=ax
structure RwG (qs:List PtT) (r:RwI):Prop where
 ax:∃ a,∀ f∈r.2,FcG qs a f
 wd:(r.1=OJ∧r.2.length=2)∨(r.1=OI∧r.2.length=2)∨(r.1=OK∧r.2.length=4)
end
section
open TL PySem PySem.Spec L2 Res
theorem PtG.cz {q:PtT} (h:PtG q):StW (q.2.1.map (cz q.1)):=h.own.st.cz (fun t ht=>by have:=(h.own.nm t ht).l2;omega) h.w.wrd
theorem AsG.pre {qs rs:List PtT} (h:AsG (qs++rs)):AsG qs:=⟨fun q hq=>h.pt q (iG _ hq),h.nd.sublist (by rw [i8];exact jE _ _),by have:=h.l6;rw [List.length_append] at this;omega,by
 have:=h.l12
 unfold whole at this ⊢
 rw [jG,ET,List.length_append] at this
 omega⟩
end
section
open TL PySem PySem.Spec L2 Res
abbrev Sp18:=Tx×List Siz×List Fc
structure SpOk (q:Sp18):Prop where
 w:Nm8 q.1
 own:Own8 q.2.1
 fc:FOk (alln q.2.1) q.2.2
end
section
open TL PySem PySem.Spec L2 Res
structure PtH (q:PtT):Prop where
 w:Nm8 q.1
 own:Own8 q.2.1
 pl:PlOk 370 (alln q.2.1) q.2.2
 l9:q.2.2.length≤9
structure AsH (qs:List PtT):Prop where
 pt:∀ q∈qs,PtH q
 nd:(qs.map (·.1)).Nodup
 l6:qs.length≤6
 l12:(alln (whole qs)).length≤12
theorem PtH.cz {q:PtT} (h:PtH q):StW (q.2.1.map (cz q.1)):=h.own.st.cz (fun t ht=>by have:=(h.own.nm t ht).l2;omega) h.w.wrd
theorem AsH.pre {qs rs:List PtT} (h:AsH (qs++rs)):AsH qs:=⟨fun q hq=>h.pt q (iG _ hq),h.nd.sublist (by rw [i8];exact jE _ _),by have:=h.l6;rw [List.length_append] at this;omega,by
 have:=h.l12
 unfold whole at this ⊢
 rw [jG,ET,List.length_append] at this
 omega⟩
end
section
open TL PySem L2
open Res
def X60 (N:Nat) (r:Rat):Prop:=∃ i:Int,(i:Rat)=r*60∧i.natAbs≤N
def IQ (N:Nat) (r:Rat):Prop:=∃ i:Int,(i:Rat)=r∧i.natAbs≤N
theorem X60.mono {N M:Nat} {r:Rat} (h:X60 N r) (l:N≤M):X60 M r:=let ⟨i,e,b⟩:=h;⟨i,e,iH b l⟩
theorem IQ.mono {N M:Nat} {r:Rat} (h:IQ N r) (l:N≤M):IQ M r:=let ⟨i,e,b⟩:=h;⟨i,e,iH b l⟩
theorem X60.zero (N:Nat):X60 N 0:=⟨0,by grind,iT _⟩
theorem IQ.zero (N:Nat):IQ N 0:=⟨0,by grind,iT _⟩
theorem X60.add {N M:Nat} {a b:Rat} (h:X60 N a) (k:X60 M b):X60 (N+M) (a+b):=by
 obtain ⟨i,e,hi⟩:=h
 obtain ⟨j,f,hj⟩:=k
 exact ⟨i+j,by rw [Rat.intCast_add];grind,by omega⟩
theorem X60.neg {N:Nat} {a:Rat} (h:X60 N a):X60 N (-a):=by
 obtain ⟨i,e,hi⟩:=h
 exact ⟨-i,by rw [Rat.intCast_neg];grind,by omega⟩
theorem X60.sub {N M:Nat} {a b:Rat} (h:X60 N a) (k:X60 M b):X60 (N+M) (a - b):=by
 rw [show a - b=a+-b by grind]
 exact h.add k.neg
theorem IQ.add {N M:Nat} {a b:Rat} (h:IQ N a) (k:IQ M b):IQ (N+M) (a+b):=by
 obtain ⟨i,e,hi⟩:=h
 obtain ⟨j,f,hj⟩:=k
 exact ⟨i+j,by rw [Rat.intCast_add,e,f],by omega⟩
theorem IQ.neg {N:Nat} {a:Rat} (h:IQ N a):IQ N (-a):=by
 obtain ⟨i,e,hi⟩:=h
 exact ⟨-i,by rw [Rat.intCast_neg,e],by omega⟩
theorem X60.mul {N M:Nat} {a b:Rat} (h:IQ N a) (k:X60 M b):X60 (N*M) (a*b):=by
 obtain ⟨i,e,hi⟩:=h
 obtain ⟨j,f,hj⟩:=k
 exact ⟨i*j,by rw [jZ,e,f];grind,by rw [ib];exact Nat.mul_le_mul hi hj⟩
theorem X60.bd {N n:Nat} {r:Rat} (h:X60 N r) (l:N < 2 ^ n) (h6:6≤n):Nu.Bd n r:=by
 obtain ⟨i,e,hi⟩:=h
 have e2:r=Nu.q i 60:=by
  unfold Nu.q
  rw [Rat.divInt_eq_div,e]
  show r=r*60 / ((60:Int):Rat)
  have:(((60:Int)):Rat)=60:=rfl
  rw [this]
  grind
 rw [e2]
 refine Nu.q_bd (by omega) ?_ (by decide)
 exact iE (show (60:Int).natAbs < 2 ^ 6 by decide) (iO (by decide) h6)
theorem IQ.bd {N n:Nat} {r:Rat} (h:IQ N r) (l:N < 2 ^ n) (h1:1≤n):Nu.Bd n r:=by
 obtain ⟨i,e,hi⟩:=h
 subst e
 refine ⟨by show i.natAbs < _;omega,?_⟩
 show 1 < 2 ^ n
 exact Nat.one_lt_pow (by omega) (by decide)
structure G6 (N F:Nat) (zs:List Tx) (s:SumT):Prop where
 n:X60 N s.1
 e:∀ e∈s.2,IQ F e.2
 rise:(s.2.map (·.1)).Pairwise ltT
 nz:∀ e∈s.2,e.2≠0
 sub:∀ e∈s.2,e.1∈zs
theorem G6.mono {N F M H:Nat} {zs:List Tx} {s:SumT} (h:G6 N F zs s) (l:N≤M) (k:F≤H):G6 M H zs s:=⟨h.n.mono l,fun e he=>(h.e e he).mono k,h.rise,h.nz,h.sub⟩
theorem G6.sm {N F d:Nat} {zs:List Tx} {s:SumT} (h:G6 N F zs s) (l:N < 2 ^ d) (k:F < 2 ^ d) (h6:6≤d):Sm d zs s:=⟨h.n.bd l h6,fun e he=>(h.e e he).bd k (by omega),h.rise,h.nz,h.sub⟩
theorem fX {F:Nat} {ps:List (Tx×Rat)} (nd:(ps.map (·.1)).Nodup) (h:∀ e∈ps,IQ F e.2) (k:Tx):IQ F (totT ps k):=by
 by_cases c:k∈ps.map (·.1)
 ·obtain ⟨e,he,rfl⟩:=hA.mp c
  rw [G5 nd he]
  exact h e he
 ·rw [Cy c]
  exact IQ.zero _
theorem G6.nd {N F:Nat} {zs:List Tx} {s:SumT} (h:G6 N F zs s):(s.2.map (·.1)).Nodup:=Dm h.rise
theorem G6.tot {N F:Nat} {zs:List Tx} {s:SumT} (h:G6 N F zs s) (k:Tx):IQ F (totT s.2 k):=fX h.nd h.e k
theorem G6.add {N F M H:Nat} {zs:List Tx} {a b:SumT} (h:G6 N F zs a) (k:G6 M H zs b):G6 (N+M) (F+H) zs (addS a b) where
 n:=h.n.add k.n
 e := fun e he=>by
  have nd:((resT (a.2++b.2)).map (·.1)).Nodup:=Dm (Jn _)
  rw [← G5 nd he,NR,Hh]
  exact (h.tot _).add (k.tot _)
 rise:=Jn _
 nz:=fun e he=>by
  obtain ⟨j,hj,rfl⟩:=hA.mp (show e∈resT (a.2++b.2) from he)
  have:=(iz.mp hj).2
  simpa using this
 sub:=fun e he=>by
  have:=Jp (show e∈resT (a.2++b.2) from he)
  rw [i8,hY] at this
  rcases this with q | q
  ·obtain ⟨f,hf,ef⟩:=hA.mp q
   rw [← ef];exact h.sub f hf
  ·obtain ⟨f,hf,ef⟩:=hA.mp q
   rw [← ef];exact k.sub f hf
theorem G6.neg {N F:Nat} {zs:List Tx} {a:SumT} (h:G6 N F zs a):G6 N F zs (bN a) where
 n:=h.n.neg
 e := fun e he=>by
  obtain ⟨f,hf,rfl⟩:=hA.mp (show e∈a.2.map (fun e=>(e.1,-e.2)) from he)
  exact (h.e f hf).neg
 rise:=by
  show ((a.2.map fun e=>(e.1,-e.2)).map (·.1)).Pairwise ltT
  rw [iJ]
  exact h.rise
 nz:=fun e he=>by
  obtain ⟨f,hf,rfl⟩:=hA.mp (show e∈a.2.map (fun e=>(e.1,-e.2)) from he)
  have:=h.nz f hf
  intro z
  have z':-f.2=0:=z
  exact this (by grind)
 sub:=fun e he=>by
  obtain ⟨f,hf,rfl⟩:=hA.mp (show e∈a.2.map (fun e=>(e.1,-e.2)) from he)
  exact h.sub f hf
theorem G6.num {N:Nat} {r:Rat} (zs:List Tx) (h:X60 N r) (F:Nat):G6 N F zs (r,[]):=⟨h,(fun _ h=>by cases h),.nil,(fun _ h=>by cases h),(fun _ h=>by cases h)⟩
def vS (a:SumT) (M:Tx→Rat):Rat:=a.1+dotT a.2 M
theorem fY (a b:SumT) (M:Tx→Rat):vS (addS a b) M=vS a M+vS b M:=by
 unfold vS addS
 rw [T5,JO]
 grind
def Abv (zs:List Siz) (a b:SumT):Prop:=∀ mk,Mkg zs mk→vS b (val mk)≤vS a (val mk)
end
section
open TL PySem L2
open Res
abbrev Nod:=Tx×Tx
abbrev Gap:=Nod×Nod×Rat×List (Tx×Rat)
def lo22 (gs:List Gap) (k:Int):Option Nod:=(atI gs k).map (·.1)
def hi22 (gs:List Gap) (k:Int):Option Nod:=(atI gs k).map (·.2.1)
def Lk (gs:List Gap):List Int→Prop
 | []=>True
 | [_]=>True
 | a::b::r=>hi22 gs a=lo22 gs b∧Lk gs (b::r)
structure Wy (gs:List Gap) (w:List Int):Prop where
 ne:w≠[]
 val:∀ k∈w,0≤k∧k < gs.length
 nd:(w.map (lo22 gs)).Nodup
 lk:Lk gs w
structure Cl (gs:List Gap) (w:List Int):Prop where
 wy:Wy gs w
 cl:∃ a b,w.head?=some a∧w.getLast?=some b∧hi22 gs b=lo22 gs a
structure Chn (gs:List Gap) (c:List Int):Prop where
 cl:Cl gs c
 least:∀ a r,c=a::r→∀ k∈r,a < k
section
variable {gs:List Gap}
theorem bT:∀ {x y:List Int},Lk gs (x++y)→Lk gs y
 | [],_,h=>h
 | [a],[],_=>trivial
 | [a],b::y,h=>h.2
 | a::b::x,y,h=>bT (x:=b::x) h.2
theorem XH:∀ {x y:List Int},Lk gs (x++y)→Lk gs x
 | [],_,_=>trivial
 | [a],_,_=>trivial
 | a::b::x,y,h=>⟨h.1,XH (x:=b::x) h.2⟩
theorem Lr:∀ {x:List Int} {a b:Int} {y:List Int},Lk gs (x++a::b::y)→hi22 gs a=lo22 gs b
 | [],_,_,_,h=>h.1
 | [c],_,_,_,h=>h.2.1
 | c::d::x,a,b,y,h=>Lr (x:=d::x) h.2
theorem Tz:∀ {x y:List Int},Lk gs x→Lk gs y→(∀ a∈x.getLast?,∀ b∈y.head?,hi22 gs a=lo22 gs b)→Lk gs (x++y)
 | [],_,_,h,_=>h
 | [a],[],_,_,_=>trivial
 | [a],b::y,_,h,j=>⟨j a rfl b rfl,h⟩
 | a::b::x,y,h,h2,j=>⟨h.1,Tz (x:=b::x) h.2 h2 fun c hc d hd=>j c (by simpa using hc) d hd⟩
theorem Vl {w:List Int} (h:(w.map (lo22 gs)).Nodup):w.Nodup:=List.Pairwise.of_map _ (fun _ _ hne e=>hne (congrArg _ e)) h
theorem Ge {n:Nat} {k:Int}:k∈Ah 0 n↔0≤k∧k < n:=by
 constructor
 ·intro h;have:=Q8 h;omega
 ·intro h
  unfold Ah
  exact hA.mpr ⟨k.toNat,List.mem_range.mpr (by omega),by omega⟩
theorem Wy.len {w:List Int} (h:Wy gs w):w.length≤gs.length:=by
 have z:=Hi (m:=Ah 0 gs.length) (Vl h.nd) fun k hk=>Ge.mpr (h.val k hk)
 rwa [Ad] at z
theorem Wy.pos {w:List Int} (h:Wy gs w):0 < w.length:=List.length_pos_iff.mpr h.ne
theorem Wy.more {w:List Int} (h:Wy gs w) {b k:Int} (hb:w.getLast?=some b) (hk:0≤k∧k < gs.length) (e:hi22 gs b=lo22 gs k) (hn:lo22 gs k∉w.map (lo22 gs)):Wy gs (w++[k]) where
 ne:=by simp
 val:=fun j hj=>by
  rcases hY.mp hj with z | z
  ·exact h.val j z
  ·rw [i6.mp z];exact hk
 nd:=by
  rw [i8]
  refine iC.mpr ⟨h.nd,by simp,fun x hx y hy=>?_⟩
  rw [List.map_singleton,i6] at hy
  subst hy
  exact fun z=>hn (z ▸ hx)
 lk:=Tz h.lk trivial fun a ha c hc=>by
  rw [hb] at ha
  cases ha
  cases hc
  exact e
theorem Wy.pre {x y:List Int} (h:Wy gs (x++y)) (hx:x≠[]):Wy gs x where
 ne:=hx
 val:=fun k hk=>h.val k (iG _ hk)
 nd:=by
  have z:=h.nd
  rw [i8] at z
  exact (iC.mp z).1
 lk:=XH h.lk
theorem PQ {w y:List Int} (h:Wy gs (w++y)) (hw:w≠[]) {b:Int} (hb:w.getLast?=some b) (hm:hi22 gs b∈w.map (lo22 gs)):y=[]:=by
 cases y with
 | nil=>rfl
 | cons k y=>
  exfalso
  obtain ⟨p,rfl⟩:=jO.mp hb
  have e:hi22 gs b=lo22 gs k:=Lr (x:=p) (y:=y) (by have z:=h.lk;simpa using z)
  have z:=h.nd
  rw [i8] at z
  exact (iC.mp z).2.2 _ hm _ (iD gu) e
theorem dJ {x y:List Int} {m:Int} (h:Cl gs (x++m::y)) (hm:∀ k∈x++m::y,m≤k):Chn gs (m::y++x):=by
 have pm:(m::y++x).Perm (x++m::y):=List.perm_append_comm
 have nd':((m::y++x).map (lo22 gs)).Nodup:=(pm.map _).nodup_iff.mpr h.wy.nd
 obtain ⟨a,b,ha,hb,e⟩:=h.cl
 have l1:Lk gs (m::y):=bT h.wy.lk
 have l2:Lk gs x:=XH h.wy.lk
 refine ⟨⟨⟨by simp,fun k hk=>h.wy.val k (pm.mem_iff.mp hk),nd',Tz l1 l2 fun c hc d hd=>?_⟩,?_⟩,fun a' r' e' k hk=>?_⟩
 ·cases x with
  | nil=>cases hd
  | cons x0 x=>
   cases hd
   have ha':a=d:=by simpa using ha.symm
   subst ha'
   have hb':c=b:=by
    have z:(a::x++m::y).getLast?=(m::y).getLast?:=by
     rw [List.getLast?_append]
     cases e2:(m::y).getLast? with
     | none=>simp at e2
     | some v=>simp [e2]
    rw [z] at hb
    rw [hb] at hc
    exact (Option.some.inj hc).symm
   rw [hb']
   exact e
 ·cases x with
  | nil=>
   simp at ha hb
   exact ⟨m,b,by simp,by simpa using hb,by rw [e,ha]⟩
  | cons x0 x=>
   have hz:(x0::x)≠[]:=by simp
   refine ⟨m,(x0::x).getLast hz,by simp,by rw [List.getLast?_append,List.getLast?_eq_some_getLast hz];rfl,?_⟩
   have hd:x0::x=(x0::x).dropLast++[(x0::x).getLast hz]:=(jI hz).symm
   have z:=h.wy.lk
   rw [hd,iL] at z
   exact Lr z
 ·cases e'
  have h1:=hm k (pm.mem_iff.mp (gz _ hk))
  have h2:=Vl nd'
  have h3:m∉y++x:=(iK.mp h2).1
  have h4:k≠m:=fun z=>h3 (z ▸ hk)
  omega
def subs {α:Type}:List α→List (List α)
 | []=>[[]]
 | x::xs=>subs xs++(subs xs).map (x::·)
theorem Vm {α:Type}:∀ xs:List α,(subs xs).length=2 ^ xs.length
 | []=>rfl
 | x::xs=>by rw [subs,List.length_append,gy,Vm xs,i7,Nat.pow_succ];omega
theorem Kg {α:Type} (p:α→Bool):∀ xs:List α,xs.filter p∈subs xs
 | []=>by simp [subs]
 | x::xs=>by
  rw [subs,List.filter_cons]
  split
  ·exact iV _ (iD (Kg p xs))
  ·exact iG _ (Kg p xs)
theorem YL:∀ {u v:List Int} {p:List Int},Wy gs (p++u)→Wy gs (p++v)→p≠[]→(∀ k,k∈p++u↔k∈p++v)→u=v
 | [],[],_,_,_,_,_=>rfl
 | [],b::v,p,hu,hv,_,hm=>by
  exfalso
  have h1:b∈p:=by simpa using (hm b).mpr (by simp)
  have h2:=Vl hv.nd
  exact (iC.mp h2).2.2 b h1 b gu rfl
 | a::u,[],p,hu,hv,_,hm=>by
  exfalso
  have h1:a∈p:=by simpa using (hm a).mp (by simp)
  have h2:=Vl hu.nd
  exact (iC.mp h2).2.2 a h1 a gu rfl
 | a::u,b::v,p,hu,hv,hp,hm=>by
  obtain ⟨q,l,rfl⟩:∃ q l,p=q++[l]:=⟨p.dropLast,p.getLast hp,(jI hp).symm⟩
  have e1:hi22 gs l=lo22 gs a:=Lr (x:=q) (y:=u) (by have z:=hu.lk;simpa using z)
  have e2:hi22 gs l=lo22 gs b:=Lr (x:=q) (y:=v) (by have z:=hv.lk;simpa using z)
  have e3:lo22 gs a=lo22 gs b:=e1.symm.trans e2
  have hb:b∈q++[l]++a::u:=(hm b).mpr (by simp)
  have ha:a∈q++[l]++a::u:=by simp
  have hab:a=b:=by
   have nd:=hu.nd
   have inj:∀ {w:List Int},(w.map (lo22 gs)).Nodup→∀ i∈w,∀ j∈w,lo22 gs i=lo22 gs j→i=j:=by
    intro w
    induction w with
    | nil=>intro _ i hi;cases hi
    | cons c w ih=>
     intro nd i hi j hj e
     rw [hG,iK] at nd
     rcases hZ.mp hi with z | z
     ·rcases hZ.mp hj with z' | z'
      ·rw [z,z']
      ·exact absurd (hA.mpr ⟨j,z',by rw [← e,z]⟩) nd.1
     ·rcases hZ.mp hj with z' | z'
      ·exact absurd (hA.mpr ⟨i,z,by rw [e,z']⟩) nd.1
      ·exact ih nd.2 i z j z' e
   exact inj nd a ha b hb e3
  subst hab
  rw [YL (p:=q++[l]++[a]) (u:=u) (v:=v) (by simpa using hu) (by simpa using hv) (by simp) (by simpa using hm)]
theorem dM {c d:List Int} (hc:Chn gs c) (hd:Chn gs d) (hm:∀ k,k∈c↔k∈d):c=d:=by
 obtain ⟨a,r,rfl⟩:=ik hc.cl.wy.ne
 obtain ⟨b,s,rfl⟩:=ik hd.cl.wy.ne
 have h1:=hc.least a r rfl
 have h2:=hd.least b s rfl
 have hab:a=b:=by
  rcases hZ.mp ((hm a).mp gu) with z | z
  ·exact z
  ·rcases hZ.mp ((hm b).mpr gu) with z' | z'
   ·exact z'.symm
   ·have:=h1 b z'
    have:=h2 a z
    omega
 subst hab
 rw [YL (p:=[a]) (u:=r) (v:=s) hc.cl.wy hd.cl.wy (by simp) hm]
theorem OO {α β:Type} (f:α→β):∀ {xs:List α},xs.Nodup→(∀ x∈xs,∀ y∈xs,f x=f y→x=y)→(xs.map f).Nodup
 | [],_,_=>.nil
 | x::xs,nd,h=>by
  rw [iK] at nd
  rw [hG,iK]
  refine ⟨fun m=>?_,OO f nd.2 fun a ha b hb=>h a (gz _ ha) b (gz _ hb)⟩
  obtain ⟨y,hy,e⟩:=hA.mp m
  have:=h y (gz _ hy) x gu e
  exact nd.1 (this ▸ hy)
theorem U0 {ks:List (List Int)} (nd:ks.Nodup) (h:∀ c∈ks,Chn gs c) (hn:gs.length≤16):ks.length≤65536:=by
 let f:List Int→List Int:=fun c=>(Ah 0 gs.length).filter fun k=>decide (k∈c)
 have inj:∀ c∈ks,∀ d∈ks,f c=f d→c=d:=fun c hc d hd e=>dM (h c hc) (h d hd) fun k=>by
  have g:∀ {c:List Int},Chn gs c→(k∈c↔k∈f c):=fun {c} hc=>by
   show _↔k∈List.filter _ _
   rw [iz,decide_eq_true_iff]
   exact ⟨fun z=>⟨Ge.mpr (hc.cl.wy.val k z),z⟩,fun z=>z.2⟩
  rw [g (h c hc),g (h d hd),e]
 have z:=Hi (m:=subs (Ah 0 gs.length)) (OO f nd inj) fun x hx=>by
  obtain ⟨c,_,rfl⟩:=hA.mp hx
  exact Kg _ _
 rw [gy,Vm,Ad] at z
 exact iH z (iO (by decide) hn)
end
theorem Gf {κ α:Type} [DecidableEq κ] {m:List (κ×α)} {k:κ} {d:α}:(dput m k d).map (·.1)=if k∈m.map (·.1) then m.map (·.1) else m.map (·.1)++[k]:=by
 unfold dput
 have e:(m.any fun e=>decide (e.1=k))=true↔k∈m.map (·.1):=by
  rw [j0,hA]
  exact ⟨fun ⟨x,h1,h2⟩=>⟨x,h1,of_decide_eq_true h2⟩,fun ⟨x,h1,h2⟩=>⟨x,h1,decide_eq_true h2⟩⟩
 by_cases h:k∈m.map (·.1)
 ·rw [if_pos (e.mpr h),if_pos h,iJ]
  refine jF fun x _=>?_
  show (if x.1=k then (x.1,d) else x).1=x.1
  split <;> rfl
 ·rw [if_neg (fun z=>h (e.mp z)),if_neg h,i8]
  rfl
theorem dN:∀ {w:List Int},w≠[]→∃ m,minL w=some m∧m∈w∧∀ k∈w,m≤k
 | [],h=>absurd rfl h
 | a::r,_=>by
  have g:∀ (r:List Int) (a:Int),(r.foldl min a=a∨r.foldl min a∈r)∧r.foldl min a≤a∧∀ k∈r,r.foldl min a≤k:=by
   intro r
   induction r with
   | nil=>intro a;exact ⟨.inl rfl,Int.le_refl _,fun k hk=>by cases hk⟩
   | cons b r ih=>
    intro a
    obtain ⟨h1,h2,h3⟩:=ih (min a b)
    refine ⟨?_,?_,fun k hk=>?_⟩
    ·rcases h1 with h1 | h1
     ·rw [List.foldl_cons,h1]
      rcases Int.le_total a b with z | z
      ·exact .inl (Int.min_eq_left z)
      ·rw [Int.min_eq_right z];exact .inr gu
     ·exact .inr (gz _ h1)
    ·exact Int.le_trans h2 (Int.min_le_left _ _)
    ·rcases hZ.mp hk with z | z
     ·rw [z];exact Int.le_trans h2 (Int.min_le_right _ _)
     ·exact h3 k z
  obtain ⟨h1,h2,h3⟩:=g r a
  refine ⟨_,rfl,?_,fun k hk=>?_⟩
  ·rcases h1 with h1 | h1
   ·rw [h1];exact gu
   ·exact gz _ h1
  ·rcases hZ.mp hk with z | z
   ·rw [z];exact h2
   ·exact h3 k z
theorem dO {α:Type} [DecidableEq α] {w:List α} {m:α} (h:m∈w):∃ (j:Nat) (x y:List α),idxL w m=some (j:Int)∧w=x++m::y∧x.length=j:=by
 cases e:idxL w m with
 | none=>
  exfalso
  unfold idxL at e
  have z:=Option.map_eq_none_iff.mp e
  rw [List.findIdx?_eq_none_iff] at z
  have:=z m h
  simp at this
 | some i=>
  obtain ⟨j,rfl,hj,_⟩:=cf e
  obtain ⟨hl,hx⟩:=iF.mp hj
  refine ⟨j,w.take j,w.drop (j+1),rfl,?_,List.length_take_of_le (Nat.le_of_lt hl)⟩
  rw [← hx,List.getElem_cons_drop,List.take_append_drop]
theorem fZ {α:Type} (p:List α) (w:α):popL (p++[w])=some (w,p):=by
 unfold popL
 simp
section
variable {gs:List Gap}
theorem LQ {k:Int} (h:0≤k∧k < gs.length):∃ g,atI gs k=some g∧lo22 gs k=some g.1∧hi22 gs k=some g.2.1:=by
 have e:=VX (xs:=gs) h.1 h.2
 exact ⟨_,e,by unfold lo22;rw [e];rfl,by unfold hi22;rw [e];rfl⟩
theorem YM {ε:Type} {w:List Int} (hv:∀ k∈w,0≤k∧k < gs.length):Res.lc (fun (x28:Int) (s29:Unit)=>Res.bind (Res.opt (atI gs x28)) fun z30=>(.ok (some z30.1,s29):Res ε (Option Nod×Unit))) w ()=.ok (w.filterMap (lo22 gs),()):=J7 (lo22 gs) () w fun x hx=>by
 obtain ⟨g,e,e1,_⟩:=LQ (hv x hx)
 rw [e,AS,A3,e1]
theorem Mg {w:List Int} {v:Nod}:v∈w.filterMap (lo22 gs)↔some v∈w.map (lo22 gs):=by
 rw [List.mem_filterMap,hA]
theorem YN {n:Nat} (h:n≤100000):-(2 ^ 62)≤(n:Int)∧(n:Int) < 2 ^ 62:=by
 have h1:(100000:Int) < 2 ^ 62:=by decide
 have h2:(0:Int)≤2 ^ 62:=by decide
 constructor <;> omega
def HI (gs:List Gap) (w:List Int) (v:Nod):List (List Int):=(Ah 0 gs.length).filterMap fun k=>if lo22 gs k=some v then some (w++[k]) else none
theorem QH {w u:List Int} {v:Nod}:u∈HI gs w v↔∃ k:Int,(0≤k∧k < gs.length)∧lo22 gs k=some v∧u=w++[k]:=by
 unfold HI
 rw [List.mem_filterMap]
 constructor
 ·rintro ⟨k,hk,e⟩
  have hk':0≤k∧k < gs.length:=Ge.mp hk
  split at e
  ·rename_i hv
   cases e
   exact ⟨k,hk',hv,rfl⟩
  ·cases e
 ·rintro ⟨k,hk,hv,rfl⟩
  exact ⟨k,Ge.mpr hk,by rw [if_pos hv]⟩
theorem dP {w:List Int} {v:Nod} (hw:w.length≤1000) (hl:gs.length≤1000) {α:Type} {k:List (List Int)→Unit→Res Unit α}:(Res.bind (Res.grd (-(2 ^ 62)≤(List.length gs:Int)∧(List.length gs:Int) < 2 ^ 62) (Ah 0 (Int.toNat (List.length gs:Int)))) fun z35=>Res.bind (Res.grd (z35.length≤100000) z35) fun z40=>Res.bind (Res.calm (Res.lc (fun (x36:Int) (s37:Unit)=>Res.bind (Res.opt (atI gs x36)) fun z38=>if decide (z38.1=v)=true then Res.bind (Res.grd (List.length w+List.length [x36]≤100000) (w++[x36])) fun z39=>(.ok (some z39,s37):Res Unit (Option (List Int)×Unit)) else .ok (none,s37)) z40 ())) fun z41=>k z41.1 z41.2)=k (HI gs w v) ():=by
 have h1:=YN (n:=gs.length) (by omega)
 rw [Az h1,A3,je,Az (by rw [Ad];omega),A3,J7 (fun k=>if lo22 gs k=some v then some (w++[k]) else none) () _ fun x hx=>?_]
 ·rfl
 ·obtain ⟨g,e,e1,_⟩:=LQ (Ge.mp hx)
  rw [e,AS,A3,e1]
  by_cases hv:g.1=v
  ·rw [if_pos (decide_eq_true hv),if_pos (by rw [hv]),Az (by simp;omega),A3]
  ·rw [if_neg (by simpa using hv),if_neg (fun z=>hv (Option.some.inj z))]
structure St22 (gs:List Gap) (s:List (List Int)×List (List Int×Bool)):Prop where
 wy:∀ w∈s.1,Wy gs w
 pl:∀ (i:Nat) w,s.1[i]?=some w→i < gs.length*w.length
 nd:(s.2.map (·.1)).Nodup
 ch:∀ c∈s.2.map (·.1),Chn gs c
 all:∀ u,Cl gs u→(∀ x m y,u=x++m::y→(∀ k∈u,m≤k)→(m::y++x)∈s.2.map (·.1))∨∃ w∈s.1,∃ r,u=w++r
theorem TC (f:List Int→Nat) (a b:List (List Int)):((a++b).map f).sum=(a.map f).sum+(b.map f).sum:=by rw [i8,List.sum_append]
theorem QI {f:List Int→Nat} {b:Nat}:∀ {l:List (List Int)},(∀ w∈l,f w≤b)→(l.map f).sum≤l.length*b
 | [],_=>by simp
 | w::l,h=>by
  have h1:=h w gu
  have h2:=QI (l:=l) (b:=b) fun x hx=>h x (gz _ hx)
  rw [hG,List.sum_cons,i7,Nat.succ_mul]
  omega
theorem bU (w:List Int) (v:Nod):(HI gs w v).length≤gs.length:=by
 unfold HI
 have:=List.length_filterMap_le (fun k=>if lo22 gs k=some v then some (w++[k]) else none) (Ah 0 gs.length)
 rwa [Ad] at this
theorem YO (w:List Int) (b:Int) (h:w.getLast?=some b):atI w (-(1:Int))=some b:=by
 obtain ⟨p,rfl⟩:=jO.mp h
 exact dD p b
def mu22 (s:List (List Int)×List (List Int×Bool)):Nat:=(s.1.map fun w=>17 ^ (17 - w.length)).sum
theorem Vn (hn:gs.length≤16):∃ ks,MY gs=.ok (Cg (eV eI) ks)∧ks.Nodup∧∀ c,c∈ks↔Chn gs c:=by
  suffices h:(MY gs).To fun cs=>∃ ks,cs=Cg (eV eI) ks∧ks.Nodup∧∀ c,c∈ks↔Chn gs c by
    obtain ⟨a,e,ks,rfl,h1,h2⟩:=h
    exact ⟨ks,e,h1,h2⟩
  unfold MY
  have h1:=YN (n:=gs.length) (by omega)
  rw [A3,Az h1,A3,je,Az (by rw [Ad];omega),A3,J7 (fun k=>some [k]) () _ fun x _=>rfl,HL,A3,A3]
  have e0:(Ah 0 gs.length).filterMap (fun k=>some [k])=(Ah 0 gs.length).map (fun k=>[k]):=by
    show List.filterMap (some ∘ fun k:Int=>[k]) _=_
    rw [List.filterMap_eq_map]
  rw [e0]
  have one:∀ k:Int,0≤k∧k < gs.length→Wy gs [k]:=fun k hk=>⟨by simp,fun j hj=>by rw [i6.mp hj];exact hk,by simp,trivial⟩
  refine To.wloop (St22 gs) mu22 ⟨fun w hw=>?_,fun i w hi=>?_,.nil,(fun c hc=>by cases hc),fun u hu=>.inr ?_⟩ (Res.fuel_big ?_) ?_
  · obtain ⟨k,hk,rfl⟩:=hA.mp hw
    exact one k (Ge.mp hk)
  · rw [iB] at hi
    obtain ⟨k,hk,rfl⟩:=ia.mp hi
    have:=(iF.mp hk).1
    rw [Ad] at this
    simpa using this
  · obtain ⟨a,r,rfl⟩:=ik hu.wy.ne
    exact ⟨[a],hA.mpr ⟨a,Ge.mpr (hu.wy.val a gu),rfl⟩,r,rfl⟩
  · show mu22 (_,_) < _
    have z:mu22 ((Ah 0 gs.length).map (fun k=>[k]),[])≤16*17 ^ 17:=by
      refine iH (QI (b:=17 ^ 17) fun w _=>iO (by decide) (by omega)) ?_
      rw [gy,Ad]
      exact iP _ hn
    refine iq z (iE (show 16*17 ^ 17 < 2 ^ 80 by decide) (iO (by decide) (by decide)))
  · intro s hs nx hnx
    by_cases hemp:s.1=[]
    · rw [if_neg (by simp [hemp])]
      unfold OG
      refine To.g (fun x hx=>?_) (.ok ⟨_,rfl,hs.nd,fun c=>⟨hs.ch c,fun hc=>?_⟩⟩)
      · exact (hs.ch x hx).cl.wy.ne
      · obtain ⟨a,r,rfl⟩:=ik hc.cl.wy.ne
        rcases hs.all _ hc.cl with z | ⟨w,hw,_⟩
        · have z2:=z [] a r rfl fun k hk=>by
            rcases hZ.mp hk with q | q
            · rw [q];exact Int.le_refl _
            · exact iw (hc.least a r rfl k q)
          simpa using z2
        · rw [hemp] at hw;cases hw
    · rw [if_pos (by simp [hemp])]
      obtain ⟨st,fo⟩:=s
      obtain ⟨p,w,rfl⟩:∃ p w,st=p++[w]:=⟨st.dropLast,st.getLast hemp,(jI hemp).symm⟩
      have hw:=hs.wy w (by simp)
      have hwl:=hw.len
      have hwp:=hw.pos
      obtain ⟨b,hb⟩:∃ b,w.getLast?=some b:=⟨w.getLast hw.ne,List.getLast?_eq_some_getLast hw.ne⟩
      obtain ⟨a,r,ew⟩:=ik hw.ne
      have hbm:b∈w:=List.mem_of_getLast? hb
      obtain ⟨gb,eb,lb,hib⟩:=LQ (hw.val b hbm)
      obtain ⟨ga,ea,la,hia⟩:=LQ (hw.val a (by rw [ew];exact gu))
      have e1:atI w (-(1:Int))=some b:=YO w b hb
      have e2:atI w (0:Int)=some a:=by rw [ew];exact aI a r
      have hpl:=hs.pl p.length w (by simp)
      have hplen:p.length≤256:=by
        have:gs.length*w.length≤16*16:=Nat.mul_le_mul hn (by omega)
        omega
      have hpw:∀ v∈p,Wy gs v:=fun v hv=>hs.wy v (iG _ hv)
      have hpp:∀ (i:Nat) v,p[i]?=some v→i < gs.length*v.length:=fun i v hi=>hs.pl i v (by
        have:=(iF.mp hi).1
        show (p++[w])[i]?=some v
        rw [iR this]
        exact hi)
      have hmu:mu22 (p++[w],fo)=mu22 (p,fo)+17 ^ (17 - w.length):=by
        show ((p++[w]).map _).sum=_
        rw [TC]
        simp [mu22]
      have hpos:0 < 17 ^ (17 - w.length):=Nat.pow_pos (by decide)
      unfold OH
      dsimp only
      rw [fZ,AS,A3,A3,e1,AS,A3,eb,AS,A3,A3,e2,AS,A3,ea,AS,A3]
      dsimp only
      have few:fo.length≤65536:=by
        have z:=U0 hs.nd hs.ch hn
        rwa [gy] at z
      by_cases hc:gb.2.1=ga.1
      · rw [if_pos (decide_eq_true hc)]
        have hcl:Cl gs w:=⟨hw,a,b,by rw [ew];rfl,hb,by rw [hib,la,hc]⟩
        obtain ⟨m,em,hm,hmin⟩:=dN hw.ne
        obtain ⟨j,x,y,ej,ewx,hxl⟩:=dO hm
        rw [em,AS,A3,ej,AS,A3,A3,bL,dC]
        have d1:w.drop j=m::y:=by rw [ewx,List.drop_left' hxl]
        have d2:w.take j=x:=by rw [ewx,List.take_left' hxl]
        rw [d1,d2]
        have hlen:(m::y).length+x.length=w.length:=by rw [ewx];simp;omega
        refine To.g (by omega) (To.g (by omega) ?_)
        unfold Gz
        dsimp only
        have hrot:Chn gs (m::y++x):=dJ (ewx ▸ hcl) (fun k hk=>hmin k (by rw [ewx];exact hk))
        refine hnx _ ⟨hpw,hpp,?_,fun c hc'=>?_,fun u hu=>?_⟩ ?_
        · rw [Gf]
          split
          · exact hs.nd
          · rename_i hni
            exact iC.mpr ⟨hs.nd,by simp,fun q hq q' hq'=>by rw [i6] at hq';subst hq';exact fun z=>hni (z ▸ hq)⟩
        · rw [Gf] at hc'
          split at hc'
          · exact hs.ch c hc'
          · rcases hY.mp hc' with z | z
            · exact hs.ch c z
            · rw [i6.mp z];exact hrot
        · have sub:∀ c,c∈fo.map (·.1)∨c=m::y++x→c∈(dput fo (m::y++x) true).map (·.1):=fun c h=>by
            rw [Gf]
            split
            · rename_i hin
              rcases h with h | h
              · exact h
              · rw [h];exact hin
            · rcases h with h | h
              · exact iG _ h
              · rw [h];exact iV _ (by simp)
          rcases hs.all u hu with z | ⟨v,hv,r',eu⟩
          · exact .inl fun x' m' y' e' h'=>sub _ (.inl (z x' m' y' e' h'))
          · rcases hY.mp hv with hv | hv
            · exact .inr ⟨v,hv,r',eu⟩
            · rw [i6] at hv
              subst hv
              have hr':r'=[]:=PQ (eu ▸ hu.wy) hw.ne hb (by rw [hib,hc,← la];exact iD (by rw [ew];exact gu))
              rw [hr',iI] at eu
              subst eu
              refine .inl fun x' m' y' e' h'=>sub _ (.inr ?_)
              have hmm:m'=m:=by
                have g1:=h' m hm
                have g2:=hmin m' (by rw [e'];simp)
                omega
              subst hmm
              have ndu:=Vl hu.wy.nd
              rw [ewx] at e' ndu
              have nx1:m'∉x:=fun z=>(iC.mp ndu).2.2 _ z _ gu rfl
              have ndu2:=ndu
              rw [e'] at ndu2
              have nx2:m'∉x':=fun z=>(iC.mp ndu2).2.2 _ z _ gu rfl
              have key:∀ (x x':List Int) {y y':List Int},m'∉x→m'∉x'→x++m'::y=x'++m'::y'→x=x'∧y=y':=by
                intro x
                induction x with
                | nil=>
                  intro x' y y' _ h2 e
                  cases x' with
                  | nil=>exact ⟨rfl,by simpa using e⟩
                  | cons c x'=>simp at e;exact absurd (by rw [e.1];exact gu) h2
                | cons c x ih=>
                  intro x' y y' h1 h2 e
                  cases x' with
                  | nil=>simp at e;exact absurd (by rw [e.1];exact gu) h1
                  | cons d x'=>
                    simp at e
                    obtain ⟨g1,g2⟩:=ih x' (fun z=>h1 (gz _ z)) (fun z=>h2 (gz _ z)) e.2
                    exact ⟨by rw [e.1,g1],g2⟩
              obtain ⟨g1,g2⟩:=key x x' nx1 nx2 e'
              rw [g1,g2]
        · show mu22 (p,_) < mu22 (p++[w],fo)
          rw [hmu]
          exact Nat.lt_add_of_pos_right hpos
      · rw [if_neg (by simpa using hc)]
        rw [Az (by omega),A3,YM (fun k hk=>hw.val k hk),HL,A3]
        dsimp only
        by_cases hin:some gb.2.1∈w.map (lo22 gs)
        · rw [if_neg (by rw [MW.mpr (Mg.mpr hin)];decide)]
          unfold H0 Gz
          refine hnx _ ⟨hpw,hpp,hs.nd,hs.ch,fun u hu=>?_⟩ ?_
          · rcases hs.all u hu with z | ⟨v,hv,r',eu⟩
            · exact .inl z
            · rcases hY.mp hv with hv | hv
              · exact .inr ⟨v,hv,r',eu⟩
              · rw [i6] at hv
                subst hv
                have hr':r'=[]:=PQ (eu ▸ hu.wy) hw.ne hb (by rw [hib];exact hin)
                rw [hr',iI] at eu
                subst eu
                exfalso
                obtain ⟨a',b',g1,g2,g3⟩:=hu.cl
                rw [ew] at g1
                cases g1
                rw [hb] at g2
                cases g2
                rw [hib,la] at g3
                exact hc (Option.some.inj g3)
          · show mu22 (p,fo) < mu22 (p++[w],fo)
            rw [hmu]
            exact Nat.lt_add_of_pos_right hpos
        · have nm:memD gb.2.1 (w.filterMap (lo22 gs))=false:=by
            cases e:memD gb.2.1 (w.filterMap (lo22 gs)) with
            | false=>rfl
            | true=>exact absurd (Mg.mp (MW.mp e)) hin
          rw [if_pos (by rw [nm];rfl)]
          rw [dP (w:=w) (v:=gb.2.1) (by omega) (by omega) (k:=fun l u=>Res.bind (Res.grd (List.length p+List.length l≤100000) (p++l,u)) fun x42=>(H0 (p++[w],fo) nx) x42.1)]
          have nl:=bU (gs:=gs) w gb.2.1
          refine To.g (by omega) ?_
          unfold H0 Gz
          dsimp only
          have hnl:∀ v∈HI gs w gb.2.1,v.length=w.length+1:=fun v hv=>by
            obtain ⟨k,_,_,rfl⟩:=QH.mp hv
            simp
          refine hnx _ ⟨fun v hv=>?_,fun i v hi=>?_,hs.nd,hs.ch,fun u hu=>?_⟩ ?_
          · rcases hY.mp hv with hv | hv
            · exact hpw v hv
            · obtain ⟨k,hk,hlo,rfl⟩:=QH.mp hv
              exact hw.more hb hk (by rw [hib,hlo]) (by rw [hlo];exact hin)
          · show i < gs.length*v.length
            have hi':(p++HI gs w gb.2.1)[i]?=some v:=hi
            by_cases hlt:i < p.length
            · rw [iR hlt] at hi'
              exact hpp i v hi'
            · rw [iS (by omega)] at hi'
              have h5:=(iF.mp hi').1
              have h6:=hnl v (iM hi')
              rw [h6,Nat.mul_succ]
              omega
          · rcases hs.all u hu with z | ⟨v,hv,r',eu⟩
            · exact .inl z
            · rcases hY.mp hv with hv | hv
              · exact .inr ⟨v,iG _ hv,r',eu⟩
              · rw [i6] at hv
                subst hv
                cases r' with
                | nil=>
                  exfalso
                  rw [iI] at eu
                  subst eu
                  obtain ⟨a',b',g1,g2,g3⟩:=hu.cl
                  rw [ew] at g1
                  cases g1
                  rw [hb] at g2
                  cases g2
                  rw [hib,la] at g3
                  exact hc (Option.some.inj g3)
                | cons k r'=>
                  obtain ⟨q,eq⟩:=jO.mp hb
                  have hlk:hi22 gs b=lo22 gs k:=Lr (x:=q) (y:=r') (by have z:=hu.wy.lk;rw [eu,eq] at z;simpa using z)
                  have hkv:=hu.wy.val k (by rw [eu];simp)
                  exact .inr ⟨v++[k],iV _ (QH.mpr ⟨k,hkv,by rw [← hlk,hib],rfl⟩),r',by rw [eu];simp⟩
          · show mu22 (p++HI gs w gb.2.1,fo) < mu22 (p++[w],fo)
            rw [hmu]
            show ((p++HI gs w gb.2.1).map _).sum < _
            rw [TC]
            have g1:((HI gs w gb.2.1).map fun v=>17 ^ (17 - v.length)).sum≤(HI gs w gb.2.1).length*17 ^ (16 - w.length):=QI fun v hv=>by
              rw [hnl v hv,show 17 - (w.length+1)=16 - w.length by omega]
              exact iA _
            have g2:(HI gs w gb.2.1).length*17 ^ (16 - w.length)≤16*17 ^ (16 - w.length):=iP _ (by omega)
            have g3:17 ^ (17 - w.length)=17*17 ^ (16 - w.length):=by rw [show 17 - w.length=(16 - w.length)+1 by omega,Nat.pow_succ,Nat.mul_comm]
            have g4:0 < 17 ^ (16 - w.length):=Nat.pow_pos (by decide)
            show (p.map _).sum+_ < mu22 (p,fo)+_
            have g5:mu22 (p,fo)=(p.map fun v=>17 ^ (17 - v.length)).sum:=rfl
            rw [g5,g3]
            omega
end
end
section
open TL PySem L2
open Res
theorem TF (t:Tx) (a b:Option Int):(t.cut a b).len≤t.len:=by
 show (((t.s.cps.toList.drop (HT.sIx t.s.length 0 a)).take (HT.sIx t.s.length t.s.length b - HT.sIx t.s.length 0 a)).toArray).size≤t.s.length
 rw [jb,jU,List.length_drop]
 have:t.s.cps.toList.length=t.s.length:=by simp [Str.length]
 omega
theorem ff {n:Nat} {w:List Int} (h:Wl n w) (hn:n≤2 ^ 39):(Su w).To fun r=>(1≤r.1.1∧r.1.1≤6)∧(0≤r.1.2∧r.1.2≤16)∧Wl (n+3) r.2:=by
 have p39:(2:Nat) ^ 39=549755813888:=by decide
 have p40:(2:Nat) ^ 40=1099511627776:=by decide
 unfold Su
 refine To.b (AY h (by decide) (by decide) (by omega)) fun r ⟨r0,r1,hr⟩=>To.v (To.i (fun _=>?_) fun _=>?_)
 ·refine To.b (AY hr (by decide) (by decide) (by omega)) fun u ⟨u0,u1,hu⟩=>To.b (AY hu (by decide) (by decide) (by omega)) fun v ⟨v0,v1,hv⟩=>.ok ⟨?_,?_,hv⟩
  ·dsimp only;omega
  ·dsimp only;omega
 ·refine To.b (AY hr (by decide) (by decide) (by omega)) fun u ⟨u0,u1,hu⟩=>To.b (AY hu (by decide) (by decide) (by omega)) fun v ⟨v0,v1,hv⟩=>.ok ⟨?_,?_,hv⟩
  ·dsimp only;omega
  ·dsimp only;omega
theorem l26:FW.len=26:=by decide +kernel
theorem bV {α:Type} {xs:List α} {i:Int} (h0:0≤i) (h1:i < xs.length) (hl:xs.length≤100000):∃ y,Pn xs i=some (y,xs.eraseIdx i.toNat)∧y∈xs:=by
 have b63:(2:Int) ^ 63=9223372036854775808:=by decide
 unfold Pn
 rw [if_pos ⟨by omega,by omega⟩]
 have e:seqIndex? i xs.length=some i.toNat:=by
  unfold seqIndex?
  have e1:(if i < 0 then i+(xs.length:Int) else i)=i:=if_neg (by omega)
  simp only [e1]
  have e2:(decide (0≤i) && decide (i < (xs.length:Int)))=true:=by simp [h0,h1]
  rw [if_pos e2]
 rw [e,jS,hJ (by omega)]
 exact ⟨_,rfl,List.getElem_mem _⟩
end
section
open TL PySem L2
open Res
def nofG (gs:List Gap) (k:Int):Rat:=((atI gs k).map fun g=>g.2.2.1).getD 0
def pof (gs:List Gap) (k:Int):List (Tx×Rat):=((atI gs k).map fun g=>g.2.2.2).getD []
def numC (gs:List Gap) (c:List Int):Rat:=c.foldl (fun s k=>s+nofG gs k) 0
def prsC (gs:List Gap) (c:List Int):List (Tx×Rat):=c.flatMap (pof gs)
def sumC (gs:List Gap) (c:List Int):Rat×List (Tx×Rat):=(numC gs c,resT (prsC gs c))
structure GsOk (d:Nat) (zs:List Tx) (gs:List Gap):Prop where
 len:gs.length≤16
 sm:∀ g∈gs,Sm d zs g.2.2
section
variable {gs:List Gap} {zs:List Tx} {d:Nat}
theorem PR {k:Int} {g:Gap} (e:atI gs k=some g):nofG gs k=g.2.2.1:=by unfold nofG;rw [e];rfl
theorem U1 {k:Int} {g:Gap} (e:atI gs k=some g):pof gs k=g.2.2.2:=by unfold pof;rw [e];rfl
theorem Z4 (c:List Int) (k:Int):numC gs (c++[k])=numC gs c+nofG gs k:=by unfold numC;rw [List.foldl_append];rfl
theorem Z5 (c:List Int) (k:Int):prsC gs (c++[k])=prsC gs c++pof gs k:=by unfold prsC;rw [jG];simp
theorem Z6 (p q:List (Tx×Rat)):resT (resT p++q)=resT (p++q):=Sz fun k=>by rw [Hh,Hh,NR]
end
end
section
open TL PySem L2
open Res
abbrev Dic:=List ((Nod×Nod)×List SumT)
def gt (s:Dic) (k:Nod×Nod):List SumT:=(dget s k).getD []
def gvS (gs:List Gap) (k:Int) (M:Tx→Rat):Rat:=((atI gs k).map fun g=>vS g.2.2 M).getD 0
def wvS (gs:List Gap) (w:List Int) (M:Tx→Rat):Rat:=(w.map fun k=>gvS gs k M).foldr (·+·) 0
theorem YP (gs:List Gap) (k:Int) (w:List Int) (M:Tx→Rat):wvS gs (k::w) M=gvS gs k M+wvS gs w M:=rfl
theorem bW (gs:List Gap) (M:Tx→Rat):∀ x y:List Int,wvS gs (x++y) M=wvS gs x M+wvS gs y M
 | [],y=>by show wvS gs y M=0+_;grind
 | k::x,y=>by
  rw [List.cons_append,YP,YP,bW gs M x y]
  grind
structure Wk (gs:List Gap) (lo hi:Nod) (w:List Int):Prop where
 val:∀ k∈w,0≤k∧k < gs.length
 lk:Lk gs w
 hd:∃ a,w.head?=some a∧lo22 gs a=some lo
 la:∃ b,w.getLast?=some b∧hi22 gs b=some hi
theorem Wk.app {gs:List Gap} {lo mi hi:Nod} {x y:List Int} (h:Wk gs lo mi x) (k:Wk gs mi hi y):Wk gs lo hi (x++y) where
  val:=fun j hj=>by
    rcases hY.mp hj with q | q
    · exact h.val j q
    · exact k.val j q
  lk:=Tz h.lk k.lk fun a ha b hb=>by
    obtain ⟨a',h1,h2⟩:=h.la
    obtain ⟨b',h3,h4⟩:=k.hd
    rw [h1] at ha
    rw [h3] at hb
    cases ha
    cases hb
    rw [h2,h4]
  hd:=by
    obtain ⟨a,h1,h2⟩:=h.hd
    refine ⟨a,?_,h2⟩
    cases x with
    | nil=>cases h1
    | cons c x=>exact h1
  la:=by
    obtain ⟨b,h1,h2⟩:=k.la
    exact ⟨b,by rw [List.getLast?_append,h1];rfl,h2⟩
def RW (gs:List Gap) (lo hi:Nod) (a:SumT):Prop:=∃ w,Wk gs lo hi w∧∀ M,vS a M=wvS gs w M
theorem RW.add {gs:List Gap} {lo mi hi:Nod} {a b:SumT} (h:RW gs lo mi a) (k:RW gs mi hi b):RW gs lo hi (addS a b):=by
 obtain ⟨x,h1,h2⟩:=h
 obtain ⟨y,k1,k2⟩:=k
 exact ⟨x++y,h1.app k1,fun M=>by rw [fY,bW,h2,k2]⟩
structure RwT (zs:List Siz) (gs:List Gap) (N F:Nat) (s:Dic):Prop where
 nd:(s.map (·.1)).Nodup
 ne:∀ e∈s,e.1.1≠e.1.2∧e.2≠[]
 g6:∀ k,∀ a∈gt s k,G6 N F (alln zs) a
 rw:∀ k,∀ a∈gt s k,RW gs k.1 k.2 a
theorem Abv.trans {zs:List Siz} {a b c:SumT} (h:Abv zs a b) (k:Abv zs b c):Abv zs a c:=fun mk hm=>Rat.le_trans (k mk hm) (h mk hm)
end
section
open TL PySem L2 Res
namespace Mst
abbrev Nd:=Tx×Tx
abbrev Sp:=(Tx×Tx) ⊕ Tx
abbrev Lk:=(Tx×Tx)×(Tx×Tx)×(Rat×jh)
def namesOf (zs:List Siz):List Tx:=zs.flatMap fun z=>z.1::z.2.2.2.map (·.1)
def ordOf (ns:List Nd) (zs:List Siz):List Sp:=ns.map Sum.inl++(namesOf zs).map Sum.inr
def Spots (ord:List Sp) (m:List (Sp×Int)):Prop:=∀ (i:Nat) x,ord[i]?=some x→dget m x=some (i:Int)
def updS (g:Sp→Rat) (x:Sp) (r:Rat):Sp→Rat:=fun y=>if y=x then r else g y
def dotS (ord:List Sp) (g X:Sp→Rat):Rat:=sumQ (ord.map fun y=>g y*X y)
def wayF (w:Tx):Int:=if w=BF then 1 else if w=Bl then -1 else 0
theorem q1 (k:Int):Nu.q k 1=(k:Rat):=by have:=YG k (b:=1) (by decide);grind
def basR (z:Siz) (e:Tx×Rat×Tx):Rat:=if e.2.2=Bl then e.2.1+(z.2.2.1 - z.2.1) else e.2.1
def czE (F:Tx→Int) (z:Siz) (X:Sp→Rat) (e:Tx×Rat×Tx):Rat:=(F e.1:Rat)*(X (.inr e.1) - (basR z e+(wayF e.2.2:Rat)*X (.inr z.1)))
def cz (F:Tx→Int) (z:Siz) (X:Sp→Rat):Rat:=(F z.1:Rat)*(z.2.1+X (.inr z.1))+sumQ (z.2.2.2.map (czE F z X))
def Whl (g:Sp→Rat):Prop:=∀ y,∃ k:Int,g y=(k:Rat)∧k.natAbs < 2 ^ 40
theorem Whl.upd {g:Sp→Rat} (h:Whl g) {x:Sp} {k:Int} (hk:k.natAbs < 2 ^ 40):Whl (updS g x (k:Rat)):=fun y=>by
 unfold updS
 split
 ·exact ⟨k,rfl,hk⟩
 ·exact h y
structure SzBd (B:Nat) (z:Siz):Prop where
 least:Nu.Bd 1000 z.2.1
 most:Nu.Bd 1000 z.2.2.1
 room:∀ e∈z.2.2.2,Nu.Bd 1000 e.2.1∧Nu.Bd B (basR z e)
 low:Nu.Bd B z.2.1
 few:z.2.2.2.length≤30
def tab (ord:List Sp) (p:(Sp→Rat)×Rat):List Rat×Rat:=(ord.map p.1,p.2)
def gW (z:Siz) (X:Sp→Rat):Prop:=0≤X (.inr z.1)∧X (.inr z.1)≤z.2.2.1 - z.2.1∧∀ e∈z.2.2.2,0≤X (.inr e.1)∧X (.inr e.1)≤2*(basR z e+(wayF e.2.2:Rat)*X (.inr z.1))
structure Scaled (n:Nat) (ord:List Sp) (g:Sp→Rat) (l:Rat) (row:List Int) (lim c:Int):Prop where
 pos:0 < c
 small:c.natAbs < 2 ^ n
 len:row.length=ord.length
 row:∀ k,k < ord.length→((row.getD k 0:Int):Rat)=(ord.map g).getD k 0*(c:Rat)
 lim:((lim:Int):Rat)=l*(c:Rat)
 cd:c≤(l.den:Int)
def AllSc (n:Nat) (ord:List Sp) (ps:List ((Sp→Rat)×Rat)) (rows:List (List Int)) (lims:List Int):Prop:=rows.length=ps.length∧lims.length=ps.length∧∀ k p,ps[k]?=some p→∃ c,Scaled n ord p.1 p.2 (rows.getD k []) (lims.getD k 0) c
theorem AllSc.add {n:Nat} {ord:List Sp} {ps:List ((Sp→Rat)×Rat)} {rows:List (List Int)} {lims:List Int} (h:AllSc n ord ps rows lims) {p:(Sp→Rat)×Rat} {row:List Int} {l c:Int} (s:Scaled n ord p.1 p.2 row l c):AllSc n ord (ps++[p]) (rows++[row]) (lims++[l]):=by
 obtain ⟨h1,h2,h3⟩:=h
 refine ⟨by simp [h1],by simp [h2],fun k q hq=>?_⟩
 by_cases c1:k < ps.length
 ·rw [iR c1] at hq
  obtain ⟨c',hc'⟩:=h3 k q hq
  refine ⟨c',?_⟩
  rw [hU (l:=rows++[row]),iR (by omega),← hU,hU (l:=lims++[l]),iR (by omega),← hU]
  exact hc'
 ·have kl:k < (ps++[p]).length:=(iF.mp hq).1
  have ke:k=ps.length:=by rw [List.length_append,List.length_singleton] at kl;omega
  subst ke
  have qp:q=p:=by simpa using hq.symm
  subst qp
  refine ⟨c,?_⟩
  rw [hU (l:=rows++[row]),iS (by omega),hU (l:=lims++[l]),iS (by omega),h1,h2,Nat.sub_self]
  exact s
end Mst
end
section
open TL PySem L2 Res
namespace Mst
open PD Tbl
def Over (D:Int) (B:Nat) (r:Rat):Prop:=∃ k:Int,r*(D:Rat)=(k:Rat)∧k.natAbs≤B
theorem Over.bd {D:Int} {B n:Nat} {r:Rat} (h:Over D B r) (d0:0 < D) (hD:D.natAbs < 2 ^ n) (hB:B < 2 ^ n):Nu.Bd n r:=by
 obtain ⟨k,e,l⟩:=h
 have pd:=TB d0
 have q:Nu.q k D*(D:Rat)=(k:Rat):=YG k (by omega)
 have eq:r=Nu.q k D:=by
  have z:(D:Rat)*r=(D:Rat)*Nu.q k D:=by grind
  exact Rat.le_antisymm (Rat.le_of_mul_le_mul_left (by rw [z];exact ie) pd) (Rat.le_of_mul_le_mul_left (by rw [z];exact ie) pd)
 rw [eq]
 exact Nu.q_bd (by omega) hD (by omega)
theorem Over.add {D:Int} {B C:Nat} {r s:Rat} (h:Over D B r) (g:Over D C s):Over D (B+C) (r+s):=by
 obtain ⟨k,e,l⟩:=h
 obtain ⟨j,f,m⟩:=g
 exact ⟨k+j,by rw [Rat.intCast_add,← e,← f];grind,by omega⟩
theorem Over.mul {D:Int} {B W:Nat} {r:Rat} {c:Int} (h:Over D B r) (hc:c.natAbs≤W):Over D (W*B) ((c:Rat)*r):=by
 obtain ⟨k,e,l⟩:=h
 exact ⟨c*k,by rw [jZ,← e];grind,by rw [ib];exact Nat.mul_le_mul hc l⟩
theorem Z7 {κ α:Type} [DecidableEq κ] {k j:κ} {d:α}:∀ {m:List (κ×α)},dget (dput m k d) k=some d∧(j≠k→dget (dput m k d) j=dget m j):=fun {m}=>by
 have hit:∀ {m:List (κ×α)},(m.any fun e=>decide (e.1=k))=true→dget (m.map (fun e=>if e.1=k then (e.1,d) else e)) k=some d:=fun {m} h=>by
  induction m with
  | nil=>cases h
  | cons e m ih=>
   unfold dget
   rw [hG,ir]
   by_cases c:e.1=k
   ·rw [if_pos c]
    simp [c]
   ·rw [if_neg c]
    simp only [iu,decide_eq_false c,Bool.false_or] at h
    simp only [decide_eq_false c]
    exact ih h
 have oth:∀ {m:List (κ×α)},j≠k→dget (m.map (fun e=>if e.1=k then (e.1,d) else e)) j=dget m j:=fun {m} n=>by
  induction m with
  | nil=>rfl
  | cons e m ih=>
   unfold dget at ih ⊢
   rw [hG,ir,ir]
   by_cases c:e.1=k
   ·rw [if_pos c]
    have nj:¬ e.1=j:=fun q=>n (by rw [← q,c])
    simp only [decide_eq_false nj]
    exact ih
   ·rw [if_neg c]
    by_cases q:e.1=j
    ·simp [q]
    ·simp only [decide_eq_false q]
     exact ih
 unfold dput
 split
 ·rename_i h
  exact ⟨hit h,oth⟩
 ·rename_i h
  have no:m.find? (fun e=>decide (e.1=k))=none:=jY.mpr fun e he q=>h (j0.mpr ⟨e,he,q⟩)
  refine ⟨?_,fun n=>?_⟩
  ·unfold dget
   rw [ja,no]
   simp
  ·unfold dget
   rw [ja]
   have:List.find? (fun e:κ×α=>decide (e.1=j)) [(k,d)]=none:=by
    simp
    exact fun q=>n q.symm
   rw [this,Option.or_none]
def Sml (r:Rat):Prop:=Nu.Bd 31 r∧r.den≤1000
def U2:List Tx:=Tx.signs VS
def nm37 (c:Tx) (k:Int):Tx:=c++Tx.ofI k
theorem bX:∀ c∈Dg::U2,∀ k∈[(0:Int),1,2,3,4],∀ c'∈Dg::U2,∀ k'∈[(0:Int),1,2,3,4],nm37 c k=nm37 c' k'→c=c'∧k=k':=by decide +kernel
structure Z37 (k:Int) (z:Siz):Prop where
 ok:SzOk z
 l:Sml z.2.1
 m:Sml (z.2.2.1 - z.2.1)
 sh:∀ e∈z.2.2.2,Sml e.2.1
 few:z.2.2.2.length≤5∧(k≠0→z.2.2.2.length≤2)
 nm:z.1=nm37 Dg k∧∀ e∈z.2.2.2,∃ c∈U2,e.1=nm37 c k
structure St37 (zs:List Siz):Prop where
 at_:∀ (i:Nat) z,zs[i]?=some z→Z37 (i:Int) z
 l5:zs.length≤5
section
variable {zs:List Siz} (st:St37 zs)
include st
theorem St37.mem {z:Siz} (hz:z∈zs):∃ k:Nat,k < 5∧Z37 (k:Int) z:=by
 obtain ⟨i,hi⟩:=List.mem_iff_getElem?.mp hz
 have:=(iF.mp hi).1
 have:=st.l5
 exact ⟨i,by omega,st.at_ i z hi⟩
theorem St37.nm {z:Siz} {k:Nat} (hk:k < 5) (h:Z37 (k:Int) z) {t:Tx} (ht:t∈nmz z):∃ c∈Dg::U2,t=nm37 c (k:Int):=by
 rcases hZ.mp ht with e | e
 ·exact ⟨_,gu,e.trans h.nm.1⟩
 ·obtain ⟨e',he',rfl⟩:=hA.mp e
  obtain ⟨c,hc,q⟩:=h.nm.2 e' he'
  exact ⟨c,gz _ hc,q⟩
theorem in5 {k:Nat} (hk:k < 5):(k:Int)∈[(0:Int),1,2,3,4]:=by
 have:k=0∨k=1∨k=2∨k=3∨k=4:=by omega
 rcases this with e | e | e | e | e <;> rw [e] <;> decide
theorem St37.nd:(alln zs).Nodup:=by
 unfold alln List.Nodup
 rw [List.pairwise_flatMap]
 refine ⟨fun z hz=>?_,?_⟩
 ·obtain ⟨k,_,h⟩:=st.mem hz
  exact h.ok.nd
 ·rw [jN]
  intro i j hi hj ij x hx y hy e
  have l5:=st.l5
  have hi':=st.at_ i _ (hJ hi)
  have hj':=st.at_ j _ (hJ hj)
  obtain ⟨c,hc,e1⟩:=st.nm (by omega) hi' hx
  obtain ⟨d,hd,e2⟩:=st.nm (by omega) hj' hy
  have:=(bX c hc _ (in5 st (k:=i) (by omega)) d hd _ (in5 st (k:=j) (by omega)) (by rw [← e1,← e2,e])).2
  omega
omit st in
theorem Vo:∀ (zs:List Siz) (s:Nat),(∀ (i:Nat) z,zs[i]?=some z→(nmz z).length≤if s+i=0 then 6 else 3)→(alln zs).length≤3*zs.length+if s=0 then 3 else 0
 | [],s,_=>iT _
 | z::zs,s,h=>by
  have i:=Vo zs (s+1) fun i z hz=>by
   have:=h (i+1) z (by simpa using hz)
   rwa [show s+(i+1)=s+1+i by omega] at this
  have a:=h 0 z rfl
  rw [if_neg (by omega)] at i
  rw [Fe,List.length_append,i7]
  by_cases c:s=0
  ·rw [if_pos (by omega)] at a
   rw [if_pos c];omega
  ·rw [if_neg (by omega)] at a
   rw [if_neg c];omega
theorem St37.le:(alln zs).length≤18:=by
 have a:=Vo zs 0 fun i z hz=>by
  have h:=st.at_ i z hz
  have l:(nmz z).length=z.2.2.2.length+1:=by simp [nmz]
  by_cases c:i=0
  ·rw [if_pos (by omega)]
   have:=h.few.1
   omega
  ·rw [if_neg (by omega)]
   have:=h.few.2 (by omega)
   omega
 have:=st.l5
 rw [if_pos rfl] at a
 omega
theorem St37.w:StW zs:=⟨fun z hz=>by obtain ⟨k,_,h⟩:=st.mem hz;exact h.ok.w,st.nd,by have:=st.le;omega⟩
end
structure Su37 (names:List Tx) (a:Rat×List (Tx×Rat)):Prop where
 n:Sml a.1
 e:∀ f∈a.2,f.2=1∨f.2=-1∨f.2=2
 rise:(a.2.map (·.1)).Pairwise ltT
 sub:∀ f∈a.2,f.1∈names
 le:a.2.length≤names.length
def F37 (ps:List (Tx×Rat)) (k:Tx):Int:=((dget (dof ps) k).getD 0).num
section
variable {names:List Tx} {a:Rat×List (Tx×Rat)} (h:Su37 names a)
include h
theorem Su37.nd:(a.2.map (·.1)).Nodup:=List.Pairwise.imp (S:=fun x y=>x≠y) (fun {x y} (l:ltT x y) (e:x=y)=>LB y (by rw [e] at l;exact l)) h.rise
theorem Su37.f (k:Tx):(dget (dof a.2) k).getD 0=((F37 a.2 k:Int):Rat)∧(F37 a.2 k).natAbs≤2:=by
 unfold F37
 rw [XB h.nd]
 cases c:dget a.2 k with
 | none=>exact ⟨rfl,by decide⟩
 | some v=>
  rcases h.e _ (Vd c) with e | e | e
  ·have e':v=1:=e
   subst e';exact ⟨rfl,by decide⟩
  ·have e':v=-1:=e
   subst e';exact ⟨rfl,by decide⟩
  ·have e':v=2:=e
   subst e';exact ⟨rfl,by decide⟩
end
theorem Over.mono {D:Int} {B C:Nat} {r:Rat} (h:Over D B r) (l:B≤C):Over D C r:=let ⟨k,e,b⟩:=h;⟨k,e,iH b l⟩
theorem Over.neg {D:Int} {B:Nat} {r:Rat} (h:Over D B r):Over D B (-r):=by
 obtain ⟨k,e,b⟩:=h
 exact ⟨-k,by rw [Rat.intCast_neg,← e];grind,by omega⟩
theorem Over.sub {D:Int} {B C:Nat} {r s:Rat} (h:Over D B r) (g:Over D C s):Over D (B+C) (r - s):=by
 rw [show r - s=r+-s by grind]
 exact h.add g.neg
theorem Over.zero {D:Int} {B:Nat}:Over D B 0:=⟨0,by rw [show ((0:Int):Rat)=0 from rfl];grind,iT _⟩
theorem Over.up {D u:Int} {B:Nat} {r:Rat} (h:Over D B r):Over (u*D) (u.natAbs*B) r:=by
 obtain ⟨k,e,b⟩:=h
 refine ⟨u*k,by rw [jZ,jZ,← e];grind,by rw [ib];exact j9 _ b⟩
section
variable {zs:List Siz} (st:St37 zs) {a:Rat×List (Tx×Rat)} (h:Su37 (alln zs) a)
include st h
theorem Su37.bd:∀ f∈a.2,Nu.Bd 62 f.2:=fun f hf=>by
 rcases h.e f hf with e | e | e <;> rw [e] <;> exact Nu.Bd.mono (n:=10) ⟨by decide +kernel,by decide +kernel⟩ (by decide)
end
section
variable {zs:List Siz} (st:St37 zs) {a:Rat×List (Tx×Rat)} (h:Su37 (alln zs) a)
include st h
theorem Su37.tot (k:Tx):totT a.2 k=((F37 a.2 k:Int):Rat):=by
 rw [← dB h.nd,← (h.f k).1,XB h.nd]
theorem Su37.len:a.2.length≤18:=by
 have:=h.le
 have:=st.le
 omega
end
end Mst
end
section
open TL PySem L2 Res
namespace Tbl
open PD
def pw (w:Nat→Nat):List Nat→Nat
 | []=>1
 | c::cs=>w c*pw w cs
end Tbl
end
section
open TL PySem L2 Res
namespace Mst
open PD Tbl
structure SzG (z:Siz):Prop where
 ok:SzOk z
 l:Sml z.2.1
 m:Sml (z.2.2.1 - z.2.1)
 sh:∀ e∈z.2.2.2,Sml e.2.1
structure StG (zs:List Siz):Prop where
 sz:∀ z∈zs,SzG z
 nd:(alln zs).Nodup
 le:zs.length+(alln zs).length≤24
theorem St37.g {zs:List Siz} (st:St37 zs):StG zs:=⟨fun z hz=>by obtain ⟨k,_,h⟩:=st.mem hz;exact ⟨h.ok,h.l,h.m,h.sh⟩,st.nd,by have:=st.le;have:=st.l5;omega⟩
structure SumG (zs:List Siz) (E:Nat) (a:Rat×List (Tx×Rat)):Prop where
 n:Nu.Bd 64 a.1
 e:a.1.den*1000 ^ (zs.length+(alln zs).length)≤2 ^ E
 f:∀ f∈a.2,∃ c:Int,f.2=(c:Rat)∧c.natAbs≤64
 nd:(a.2.map (·.1)).Nodup
 sub:∀ f∈a.2,f.1∈alln zs
section
variable {zs:List Siz} (st:StG zs)
include st
theorem StG.w:StW zs:=⟨fun z hz=>(st.sz z hz).ok.w,st.nd,by have:=st.le;omega⟩
theorem StG.few {z:Siz} (hz:z∈zs):z.2.2.2.length≤12:=(st.sz z hz).ok.len
section
variable {E:Nat} {a:Rat×List (Tx×Rat)} (h:SumG zs E a)
include h
theorem SumG.len:a.2.length≤24:=by
 have l:=Hi h.nd (m:=alln zs) (fun x hx=>by
  obtain ⟨f,hf,rfl⟩:=hA.mp hx
  exact h.sub f hf)
 rw [gy] at l
 have:=st.le
 omega
omit st in
theorem SumG.F (k:Tx):(dget (dof a.2) k).getD 0=((F37 a.2 k:Int):Rat)∧(F37 a.2 k).natAbs≤64:=by
 unfold F37
 rw [XB h.nd]
 cases c:dget a.2 k with
 | none=>exact ⟨rfl,by decide⟩
 | some v=>
  obtain ⟨j,e,b⟩:=h.f _ (Vd c)
  have e':v=(j:Rat):=e
  subst e'
  exact ⟨by show (j:Rat)=(((j:Rat).num:Int):Rat);rfl,b⟩
def gX (zs:List Siz) (a:Rat×List (Tx×Rat)):Rat:=a.1+sumQ (zs.map fun z=>cz (F37 a.2) z (fun _=>0))
end
end
structure AllC (n:Nat) (ord:List Sp) (ps:List ((Sp→Rat)×Rat)) (rows:List (List Int)) (lims:List Int) (c:Nat→Int):Prop where
 r:rows.length=ps.length
 l:lims.length=ps.length
 at_:∀ k p,ps[k]?=some p→Scaled n ord p.1 p.2 (rows.getD k []) (lims.getD k 0) (c k)
theorem AllC.all {n:Nat} {ord:List Sp} {ps:List ((Sp→Rat)×Rat)} {rows:List (List Int)} {lims:List Int} {c:Nat→Int} (h:AllC n ord ps rows lims c):AllSc n ord ps rows lims:=⟨h.r,h.l,fun k p hp=>⟨c k,h.at_ k p hp⟩⟩
theorem q_nn {t u:Int} (hu:0 < u) (ht:0≤t):0≤Nu.q t u:=by
 have q:=YG t (show u≠0 by omega)
 have pu:=TB hu
 refine Rat.le_of_mul_le_mul_left (c:=(u:Rat)) ?_ pu
 have:(0:Rat)≤(t:Rat):=by exact_mod_cast ht
 grind
end Mst
end
section
open TL PySem L2 Res
namespace Mst
def absR (r:Rat):Rat:=if r < 0 then -r else r
def hR (f:Tx→Rat) (z:Siz) (x:Rat):Rat:=f z.1*(z.2.1+x)+sumQ (z.2.2.2.map fun e=>absR (f e.1)*(basR z e+(wayF e.2.2:Rat)*x))
end Mst
end
section
open TL PySem L2 Res
namespace Mst
open PD Tbl
def gval (zs:List Siz) (t:Lk) (X:Sp→Rat):Rat:=X (.inl t.2.1) - X (.inl t.1)+(t.2.2.1+sumQ (zs.map fun z=>cz (F37 t.2.2.2) z X))
structure GRow (ord:List Sp) (zs:List Siz) (t:Lk) (g:Sp→Rat):Prop where
 w:Whl g
 id:∀ X,dotS ord g X+gX zs t.2.2=gval zs t X
def dl (v w:Nd):Rat:=if v=w then 1 else 0
theorem AllC.add {n:Nat} {ord:List Sp} {ps:List ((Sp→Rat)×Rat)} {rows:List (List Int)} {lims:List Int} {c:Nat→Int} (h:AllC n ord ps rows lims c) {p:(Sp→Rat)×Rat} {row:List Int} {l d:Int} (s:Scaled n ord p.1 p.2 row l d):AllC n ord (ps++[p]) (rows++[row]) (lims++[l]) (fun k=>if k < ps.length then c k else d):=by
 obtain ⟨h1,h2,h3⟩:=h
 refine ⟨by simp [h1],by simp [h2],fun k q hq=>?_⟩
 by_cases c1:k < ps.length
 ·rw [iR c1] at hq
  rw [if_pos c1,hU (l:=rows++[row]),iR (by omega),← hU,hU (l:=lims++[l]),iR (by omega),← hU]
  exact h3 k q hq
 ·have kl:k < (ps++[p]).length:=(iF.mp hq).1
  have ke:k=ps.length:=by rw [List.length_append,List.length_singleton] at kl;omega
  subst ke
  have qp:q=p:=by simpa using hq.symm
  subst qp
  rw [if_neg c1,hU (l:=rows++[row]),iS (by omega),hU (l:=lims++[l]),iS (by omega),h1,h2,Nat.sub_self]
  exact s
theorem AllC.nil {n:Nat} {ord:List Sp} {c:Nat→Int}:AllC n ord [] [] [] c:=⟨rfl,rfl,fun k p h=>by cases h⟩
theorem Whl.neg {g:Sp→Rat} (h:Whl g):Whl fun y=>-(g y):=fun y=>by
 obtain ⟨k,e,b⟩:=h y
 exact ⟨-k,by show -(g y)=_;rw [e,Rat.intCast_neg],by omega⟩
def Feas (zs:List Siz) (gs:List Lk) (X:Sp→Rat):Prop:=(∀ z∈zs,gW z X)∧∀ g∈gs,0≤gval zs g X
structure Wts (E:Nat) (gs:List Lk) (u:Int) (P:Nat→Rat):Prop where
 pos:0 < u
 us:u.natAbs < 2 ^ 3000
 nn:∀ k,k < gs.length→0≤P k
 ov:∀ k,k < gs.length→Over u (2 ^ (3001+E)) (P k)
theorem Over.mulO {u:Int} {D:Int} {B C:Nat} {r s:Rat} (h:Over u B r) (g:Over D C s):Over (u*D) (B*C) (r*s):=by
 obtain ⟨k,e,l⟩:=h
 obtain ⟨j,f,m⟩:=g
 refine ⟨k*j,by rw [jZ,jZ,← e,← f];grind,by rw [ib];exact Nat.mul_le_mul l m⟩
theorem Over.dv {D D':Int} {B:Nat} {r:Rat} (h:Over D B r) {q:Int} (e:D'=q*D):Over D' (q.natAbs*B) r:=by
 rw [e];exact h.up
theorem QJ {D:Int} {B:Nat} {k:Tx}:∀ {ps:List (Tx×Rat)},(∀ e∈ps,Over D B e.2)→Over D (ps.length*B) (totT ps k)
 | [],_=>by show Over D (0*B) 0;rw [Nat.zero_mul];exact Over.zero
 | e::ps,h=>by
  have i:=QJ (k:=k) (ps:=ps) fun f hf=>h f (gz _ hf)
  have a:=h e gu
  show Over D ((ps.length+1)*B) ((if e.1=k then e.2 else 0)+totT ps k)
  rw [Nat.succ_mul]
  by_cases c:e.1=k
  ·rw [if_pos c]
   exact (a.add i).mono (by omega)
  ·rw [if_neg c,show (0:Rat)+totT ps k=totT ps k by grind]
   exact i.mono (by omega)
theorem Vp {n:Rat} {ps:List (Tx×Rat)} {D:Int} {B b:Nat} (d0:0 < D) (hD:D.natAbs < 2 ^ b) (hB:62*B < 2 ^ b) (hb2:b≤4000) (hb:∀ e∈ps,Over D B e.2) (hl:ps.length≤62):Ce n ps=.ok (n,resT ps):=by
 unfold Ce
 rw [A3]
 have key:=EO (ε:=Unit) (body:=Da) (k:=DZ n) addM (fun pre m=>TabT m pre) (xs:=ps) (s0:=[]) TabT.nil fun pre e post m hp hm=>⟨fun nx=>?_,hm.put e⟩
 ·obtain ⟨e1,e2⟩:=key
  rw [e1]
  have len:=e2.len
  unfold DZ
  rw [Az (by omega),A3,Az (by rw [LC,gy];omega),A3]
  rw [J7 (fun k=>if totT ps k=0 then none else some (k,totT ps k)) () _ fun k hk=>?_]
  ·simp only [HL,A3]
   rw [Vc e2]
  ·have hk2:k∈(ps.foldl addM []).map (·.1):=(Dk _).mem_iff.mp hk
   have g:=e2.get k ((e2.mem k).mp hk2)
   rw [g]
   simp only [AS,A3]
   by_cases q:totT ps k=0
   ·simp [q]
   ·simp [q]
 ·unfold Da
  have lk:=hm.look e.1
  rw [lk]
  have pl:pre.length≤61:=by
   have:=congrArg List.length hp
   rw [List.length_append,i7] at this
   omega
  have t1:Nu.Bd b (totT pre e.1):=(QJ (k:=e.1) (ps:=pre) fun f hf=>hb f (by rw [hp];exact iG _ hf)).bd d0 hD (by
   have:pre.length*B≤62*B:=iP _ (by omega)
   omega)
  have t2:Nu.Bd b e.2:=(hb e (by rw [hp];exact iV _ gu)).bd d0 hD (by omega)
  have ml:=hm.len
  rw [YD t1 t2 (by omega),A3,Az (by omega),A3]
  unfold addM
  rw [lk]
theorem dQ {ps:List (Tx×Rat)} {e:Tx×Rat} (he:e∈resT ps):e.2=totT ps e.1:=by
 unfold resT at he
 obtain ⟨k,hk,rfl⟩:=hA.mp he
 rfl
abbrev WG:=Lk×Rat
def numT (ws:List WG):Rat:=sumQ (ws.map fun w=>w.1.2.2.1*w.2)
def facT (ws:List WG) (k:Tx):Rat:=sumQ (ws.map fun w=>totT w.1.2.2.2 k*w.2)
structure WgO (u:Int) (Dn:Nat) (Bw:Nat) (zs:List Siz) (g:WG):Prop where
 wo:Over u Bw g.2
 n:Over (Dn:Int) (2 ^ 64*Dn) g.1.2.2.1
 f:∀ f∈g.1.2.2.2,∃ c:Int,f.2=(c:Rat)∧c.natAbs≤64
 nd:(g.1.2.2.2.map (·.1)).Nodup
 sub:∀ f∈g.1.2.2.2,f.1∈alln zs
theorem WgO.fac {u:Int} {Dn Bw:Nat} {zs:List Siz} {w:WG} (h:WgO u Dn Bw zs w):∀ e∈scT w.1.2.2.2 w.2,Over u (64*Bw) e.2:=fun e he=>by
 obtain ⟨f,hf,rfl⟩:=hA.mp he
 obtain ⟨c,ec,bc⟩:=h.f f hf
 show Over u _ (f.2*w.2)
 rw [ec]
 exact h.wo.mul bc
theorem dR {ps:List (Tx×Rat)} (nd:(ps.map (·.1)).Nodup) {D:Int} {B:Nat} (hb:∀ e∈ps,Over D B e.2) (k:Tx):Over D B (totT ps k):=by
 by_cases c:k∈ps.map (·.1)
 ·obtain ⟨e,he,rfl⟩:=hA.mp c
  rw [G5 nd he]
  exact hb e he
 ·rw [Cy c]
  exact Over.zero
theorem WgO.tot {u:Int} {Dn Bw:Nat} {zs:List Siz} {w:WG} (h:WgO u Dn Bw zs w) (k:Tx):Over u (64*Bw) (totT w.1.2.2.2 k*w.2):=by
 rw [← Vb]
 refine dR ?_ h.fac k
 show ((w.1.2.2.2.map fun e=>(e.1,e.2*w.2)).map (·.1)).Nodup
 rw [iJ]
 exact h.nd
theorem TH {u:Int} {Dn Bw:Nat} {zs:List Siz} {k:Tx}:∀ {ws:List WG},(∀ w∈ws,WgO u Dn Bw zs w)→Over u (ws.length*(64*Bw)) (facT ws k)
 | [],_=>by show Over u (0*_) 0;rw [Nat.zero_mul];exact Over.zero
 | w::ws,h=>by
  have i:=TH (k:=k) (ws:=ws) fun y hy=>h y (gz _ hy)
  show Over u ((ws.length+1)*_) (_+facT ws k)
  rw [Nat.succ_mul]
  exact (((h w gu).tot k).add i).mono (by omega)
structure TotO (zs:List Siz) (ws:List WG) (a:Rat×List (Tx×Rat)):Prop where
 n:a.1=numT ws
 t:∀ k,totT a.2 k=facT ws k
 rise:(a.2.map (·.1)).Pairwise ltT
 nz:∀ e∈a.2,e.2≠0
 sub:∀ e∈a.2,e.1∈alln zs
theorem TotO.nd {zs:List Siz} {ws:List WG} {a:Rat×List (Tx×Rat)} (h:TotO zs ws a):(a.2.map (·.1)).Nodup:=Dm h.rise
theorem TotO.len {zs:List Siz} {ws:List WG} {a:Rat×List (Tx×Rat)} (h:TotO zs ws a):a.2.length≤(alln zs).length:=by
 have:=Hi h.nd fun x hx=>by
  obtain ⟨e,he,rfl⟩:=hA.mp hx
  exact h.sub e he
 rwa [gy] at this
theorem TotO.ov {zs:List Siz} {ws:List WG} {a:Rat×List (Tx×Rat)} (h:TotO zs ws a) {u:Int} {Dn Bw:Nat} (hw:∀ w∈ws,WgO u Dn Bw zs w):∀ e∈a.2,Over u (ws.length*(64*Bw)) e.2:=fun e he=>by
 rw [← G5 h.nd he,h.t]
 exact TH hw
end Mst
end
section
open TL PySem L2
open Res
abbrev Tr24:=Nod×Nod×Rat
theorem Im {α:Type}:∀ {xs ys:List α},xs.Nodup→(∀ x∈xs,x∈ys)→xs.length≤ys.length
 | [],_,_,_=>iT _
 | x::xs,ys,nd,h=>by
  rw [iK] at nd
  obtain ⟨a,b,rfl⟩:=List.append_of_mem (h x gu)
  have i:=Im (xs:=xs) (ys:=a++b) nd.2 fun z hz=>by
   rcases hY.mp (h z (gz _ hz)) with q | q
   ·exact iG _ q
   ·rcases hZ.mp q with q | q
    ·exact absurd (q ▸ hz) nd.1
    ·exact iV _ q
  rw [List.length_append] at i
  rw [List.length_append,i7,i7]
  omega
def up24 (f:Nod→Rat) (t:Tr24):Nod→Rat:=fun u=>if u=t.2.1∧f t.2.1 < f t.1 - t.2.2 then f t.1 - t.2.2 else f u
def Dy (ts:List Tr24) (f:Nod→Rat):Nod→Rat:=ts.foldl up24 f
def GM (ts:List Tr24) (f:Nod→Rat):Prop:=∀ t∈ts,f t.1 - t.2.2≤f t.2.1
theorem PU (f:Nod→Rat) (t:Tr24) (u:Nod):f u≤up24 f t u:=by
 unfold up24
 split
 ·rename_i h
  rw [h.1]
  grind
 ·exact ie
theorem YQ {f g:Nod→Rat} {t:Tr24} (hc:g t.1 - t.2.2≤g t.2.1) (h:∀ u,f u≤g u) (u:Nod):up24 f t u≤g u:=by
 unfold up24
 split
 ·rename_i c
  rw [c.1]
  have:=h t.1
  grind
 ·exact h u
theorem U3 {f:Nod→Rat} {t:Tr24} (h:f t.1 - t.2.2≤f t.2.1):up24 f t=f:=by
 funext u
 unfold up24
 rw [if_neg fun c=>absurd c.2 (jD.mpr h)]
theorem Vq:∀ (ts:List Tr24) (f:Nod→Rat) (u:Nod),f u≤Dy ts f u
 | [],_,_=>ie
 | t::ts,f,u=>Rat.le_trans (PU f t u) (Vq ts (up24 f t) u)
theorem Vr:∀ {ts:List Tr24} {f g:Nod→Rat},GM ts g→(∀ u,f u≤g u)→∀ u,Dy ts f u≤g u
 | [],_,_,_,h,u=>h u
 | t::ts,f,g,hc,h,u=>Vr (ts:=ts) (f:=up24 f t) (fun s hs=>hc s (gz _ hs)) (YQ (hc t gu) h) u
theorem Kh:∀ {ts:List Tr24} {f:Nod→Rat},GM ts f→Dy ts f=f
 | [],_,_=>rfl
 | t::ts,f,h=>by
  show Dy ts (up24 f t)=f
  rw [U3 (h t gu)]
  exact Kh fun s hs=>h s (gz _ hs)
structure Stl24 (ts:List Tr24) (ks:List Nod) (q:Nod→Rat) (T:List Nod) (f:Nod→Rat):Prop where
 rl:∀ t∈ts,t.1∈T→f t.1 - t.2.2≤f t.2.1
 od:∀ v∈T,∀ w∈ks,w∉T→f w+q w≤f v+q v
theorem gY {ks:List Nod} (f:Nod→Rat):ks≠[]→∃ v∈ks,∀ w∈ks,f w≤f v:=by
 induction ks with
 | nil=>intro h;exact absurd rfl h
 | cons k ks ih=>
  intro _
  by_cases e:ks=[]
  ·exact ⟨k,gu,fun w hw=>by rw [e,i6] at hw;rw [hw];exact ie⟩
  ·obtain ⟨v,hv,hm⟩:=ih e
   by_cases c:f v≤f k
   ·refine ⟨k,gu,fun w hw=>?_⟩
    rcases hZ.mp hw with rfl | hw
    ·exact ie
    ·exact Rat.le_trans (hm w hw) c
   ·refine ⟨v,gz _ hv,fun w hw=>?_⟩
    rcases hZ.mp hw with rfl | hw
    ·have:=Rat.not_le.mp c
     grind
    ·exact hm w hw
section
variable {ts:List Tr24} {ks:List Nod} {q:Nod→Rat}
theorem Vs (hk:∀ t∈ts,t.1∈ks∧t.2.1∈ks) (fq:∀ t∈ts,q t.2.1 - q t.1≤t.2.2) {T:List Nod} {f:Nod→Rat} (st:Stl24 ts ks q T f) {v:Nod} (hv:v∈ks) (hvT:v∉T) (hm:∀ w∈ks,w∉T→f w+q w≤f v+q v):Stl24 ts ks q (v::T) (Dy ts f):=by
  have key:∀ (post pre:List Tr24) (g:Nod→Rat),ts=pre++post→(∀ u,f u≤g u)→(∀ u,(u=v∨u∈T)→g u=f u)→(∀ w∈ks,w∉T→g w+q w≤f v+q v)→(∀ t∈pre,t.1=v→g t.1 - t.2.2≤g t.2.1) →
      (∀ u,(u=v∨u∈T)→Dy post g u=f u)∧(∀ w∈ks,w∉T→Dy post g w+q w≤f v+q v)∧∀ t∈ts,t.1=v→Dy post g t.1 - t.2.2≤Dy post g t.2.1:=by
    intro post
    induction post with
    | nil=>intro pre g e h0 h1 h2 h3;rw [iI] at e;subst e;exact ⟨h1,h2,h3⟩
    | cons t post ih=>
      intro pre g e h0 h1 h2 h3
      have tm:t∈ts:=by rw [e];simp
      obtain ⟨k1,k2⟩:=hk t tm
      have ft:=fq t tm
      have nhi:g t.2.1 < g t.1 - t.2.2→¬ (t.2.1=v∨t.2.1∈T)∧g t.1 - t.2.2+q t.2.1≤f v+q v:=fun lt=>by
        have nlo:t.1∉T:=fun z=>by
          have r:=st.rl t tm z
          have:=h1 t.1 (.inr z)
          have:=h0 t.2.1
          grind
        have lo:=h2 t.1 k1 nlo
        refine ⟨fun z=>?_,by grind⟩
        have a1:=h1 t.2.1 z
        rcases z with z | z
        · rw [z] at a1 lt ft
          grind
        · have a2:=st.od t.2.1 z v hv hvT
          grind
      show (∀ u,(u=v∨u∈T)→Dy post (up24 g t) u=f u)∧(∀ w∈ks,w∉T→Dy post (up24 g t) w+q w≤f v+q v)∧∀ s∈ts,s.1=v→Dy post (up24 g t) s.1 - s.2.2≤Dy post (up24 g t) s.2.1
      refine ih (pre++[t]) (up24 g t) (by rw [e];simp) (fun u=>Rat.le_trans (h0 u) (PU g t u)) (fun u hu=>?_) (fun w hw hwT=>?_) (fun s hs es=>?_)
      · unfold up24
        rw [if_neg fun (c:u=t.2.1∧g t.2.1 < g t.1 - t.2.2)=>(nhi c.2).1 (c.1 ▸ hu)]
        exact h1 u hu
      · unfold up24
        split
        · rename_i c
          rw [c.1]
          exact (nhi c.2).2
        · exact h2 w hw hwT
      · have gv:up24 g t s.1=g s.1:=by
          unfold up24
          rw [if_neg fun (c:s.1=t.2.1∧g t.2.1 < g t.1 - t.2.2)=>(nhi c.2).1 (.inl (c.1 ▸ es))]
        rw [gv]
        rcases hY.mp hs with z | z
        · exact Rat.le_trans (h3 s z es) (PU g t _)
        · rw [i6] at z
          subst z
          unfold up24
          split
          · exact ie
          · rename_i c
            exact jD.mp fun l=>c ⟨rfl,l⟩
  obtain ⟨a1,a2,a3⟩:=key ts [] f rfl (fun _=>ie) (fun _ _=>rfl) hm (fun t h=>by cases h)
  refine ⟨fun t tm hT'=>?_,fun u hu w hw hwT=>?_⟩
  · rcases hZ.mp hT' with z | z
    · exact a3 t tm z
    · have r:=st.rl t tm z
      have:=a1 t.1 (.inr z)
      have:=Vq ts f t.2.1
      show Dy ts f t.1 - t.2.2≤_
      grind
  · have b1:=a2 w hw fun z=>hwT (gz _ z)
    rcases hZ.mp hu with z | z
    · have b2:=a1 v (.inl rfl)
      rw [z]
      grind
    · have b2:=a1 u (.inr z)
      have b3:=st.od u z v hv hvT
      grind
def GN (ts:List Tr24):Nat→(Nod→Rat)→Nod→Rat
 | 0,f=>f
 | n+1,f=>GN ts n (Dy ts f)
theorem II (n:Nat):∀ f:Nod→Rat,GN ts (n+1) f=Dy ts (GN ts n f):=by
 induction n with
 | zero=>intro f;rfl
 | succ n ih=>intro f;exact ih (Dy ts f)
theorem TJ (hk:∀ t∈ts,t.1∈ks∧t.2.1∈ks) (fq:∀ t∈ts,q t.2.1 - q t.1≤t.2.2) (f:Nod→Rat):∀ n,GM ts (GN ts n f)∨∃ T:List Nod,T.length=n∧T.Nodup∧(∀ v∈T,v∈ks)∧Stl24 ts ks q T (GN ts n f)
 | 0=>.inr ⟨[],rfl,jP,(fun v h=>by cases h),(fun t _ h=>by cases h),fun v h=>by cases h⟩
 | n+1=>by
  rw [II]
  rcases TJ hk fq f n with c | ⟨T,l,nd,sub,st⟩
  ·left
   rw [Kh c]
   exact c
  ·by_cases all:∀ v∈ks,v∈T
   ·left
    have c:GM ts (GN ts n f):=fun t tm=>st.rl t tm (all _ (hk t tm).1)
    rw [Kh c]
    exact c
   ·right
    have ne:ks.filter (fun v=>!decide (v∈T))≠[]:=fun z=>all fun v hv=>by
     have:=List.filter_eq_nil_iff.mp z v hv
     simpa using this
    obtain ⟨v,hv,hm⟩:=gY (fun w=>GN ts n f w+q w) ne
    obtain ⟨v1,v2⟩:=iz.mp hv
    have v3:v∉T:=by simpa using v2
    exact ⟨v::T,by simp [l],iK.mpr ⟨v3,nd⟩,fun u hu=>by
     rcases hZ.mp hu with z | z
     ·rw [z];exact v1
     ·exact sub u z,Vs hk fq st v1 v3 fun w hw hwT=>hm w (iz.mpr ⟨hw,by simpa using hwT⟩)⟩
theorem U4 (hk:∀ t∈ts,t.1∈ks∧t.2.1∈ks) (fq:∀ t∈ts,q t.2.1 - q t.1≤t.2.2) (f:Nod→Rat):GM ts (GN ts ks.length f):=by
 rcases TJ hk fq f ks.length with c | ⟨T,l,nd,sub,st⟩
 ·exact c
 ·refine fun t tm=>st.rl t tm ?_
  by_cases m:t.1∈T
  ·exact m
  ·exfalso
   have nd2:(t.1::T).Nodup:=iK.mpr ⟨m,nd⟩
   have:=Im nd2 (ys:=ks) fun u hu=>by
    rcases hZ.mp hu with z | z
    ·rw [z];exact (hk t tm).1
    ·exact sub u z
   rw [i7,l] at this
   omega
theorem Jq {f:Nod→Rat} {n:Nat} (c:GM ts (GN ts n f)):∀ m,GN ts (n+m) f=GN ts n f
 | 0=>rfl
 | m+1=>by
  rw [show n+(m+1)=(n+m)+1 from rfl,II,Jq c m,Kh c]
theorem Vt {g:Nod→Rat} (hc:GM ts g):∀ (n:Nat) {f:Nod→Rat},(∀ u,f u≤g u)→∀ u,GN ts n f u≤g u
 | 0,_,h=>h
 | n+1,f,h=>Vt hc n (Vr hc h)
end
def OP (gs:List Gap) (h:Nod→Rat) (k:Int):Rat:=((atI gs k).map fun g=>h g.2.1 - h g.1).getD 0
theorem Vu {gs:List Gap} (h:Nod→Rat):∀ {w:List Int},Lk gs w→(∀ k∈w,0≤k∧k < gs.length)→∀ {a b:Int},w.head?=some a→w.getLast?=some b→∀ {x y:Nod},lo22 gs a=some x→hi22 gs b=some y→sumQ (w.map (OP gs h))=h y - h x
 | [],_,_,_,_,e,_,_,_,_,_=>by cases e
 | [k],_,hv,a,b,e1,e2,x,y,e3,e4=>by
  cases e1
  cases e2
  obtain ⟨g,eg,l1,l2⟩:=LQ (hv k gu)
  rw [l1] at e3
  have e4':hi22 gs k=some y:=e4
  rw [l2] at e4'
  cases e3
  cases e4'
  show OP gs h k+0=_
  unfold OP
  rw [eg]
  show h g.2.1 - h g.1+0=_
  grind
 | k::j::w,hl,hv,a,b,e1,e2,x,y,e3,e4=>by
  cases e1
  obtain ⟨g,eg,l1,l2⟩:=LQ (hv k gu)
  rw [l1] at e3
  cases e3
  have e5:lo22 gs j=some g.2.1:=by rw [← hl.1,l2]
  have ih:=Vu h (w:=j::w) hl.2 (fun i hi=>hv i (gz _ hi)) rfl (by rw [List.getLast?_cons_cons] at e2;exact e2) e5 e4
  show OP gs h k+sumQ ((j::w).map (OP gs h))=_
  rw [ih]
  unfold OP
  rw [eg]
  show h g.2.1 - h g.1+_=_
  grind
theorem Z8 {gs:List Gap} (h:Nod→Rat) {c:List Int} (hc:Chn gs c):sumQ (c.map (OP gs h))=0:=by
 obtain ⟨wy,a,b,e1,e2,e3⟩:=hc.cl
 have ha:=wy.val a (List.mem_of_mem_head? e1)
 obtain ⟨g,eg,l1,l2⟩:=LQ ha
 rw [Vu h wy.lk wy.val e1 e2 l1 (e3.trans l1)]
 grind
def gv24 (gs:List Gap) (M:Tx→Rat) (k:Int):Rat:=nofG gs k+dotT (pof gs k) M
theorem XI {gs:List Gap} (M:Tx→Rat):∀ c:List Int,(sumC gs c).1+dotT (sumC gs c).2 M=sumQ (c.map (gv24 gs M)):=by
 intro c
 show numC gs c+dotT (resT (prsC gs c)) M=_
 rw [T5]
 have key:∀ (c:List Int) (s:Rat),c.foldl (fun s k=>s+nofG gs k) s+dotT (prsC gs c) M=s+sumQ (c.map (gv24 gs M)):=by
  intro c
  induction c with
  | nil=>intro s;show s+0=s+0;rfl
  | cons k c ih=>
   intro s
   have i:=ih (s+nofG gs k)
   have e:prsC gs (k::c)=pof gs k++prsC gs c:=jM
   rw [e,JO]
   show c.foldl _ (s+nofG gs k)+_=s+(gv24 gs M k+sumQ (c.map (gv24 gs M)))
   unfold gv24 at i ⊢
   grind
 have z:=key c 0
 unfold numC
 rw [z]
 grind
theorem TM {f g:Int→Rat}:∀ {c:List Int},(∀ k∈c,f k≤g k)→sumQ (c.map f)≤sumQ (c.map g)
 | [],_=>ie
 | k::c,h=>by
  have i:=TM (c:=c) fun j hj=>h j (gz _ hj)
  have:=h k gu
  show f k+sumQ (c.map f)≤g k+sumQ (c.map g)
  grind
theorem bY {gs:List Gap} {M:Tx→Rat} {h:Nod→Rat} (hk:∀ g∈gs,0≤h g.2.1 - h g.1+(g.2.2.1+dotT g.2.2.2 M)) {c:List Int} (hc:Chn gs c):0≤(sumC gs c).1+dotT (sumC gs c).2 M:=by
 rw [XI]
 have z:=Z8 (fun u=>-h u) hc
 rw [← z]
 refine TM fun k hk'=>?_
 obtain ⟨g,hg,e⟩:=Dx (xs:=gs) (hc.cl.wy.val k hk').1 (hc.cl.wy.val k hk').2
 have:=hk g hg
 unfold OP gv24
 rw [PR e,U1 e,e]
 show -h g.2.1 - -h g.1≤_
 grind
end
section
open TL PySem L2
open Res
theorem bZ (w r r':List Int) {k k':Int} (h:k < k'):w++k::r < w++k'::r':=by
 induction w with
 | nil=>exact List.cons_lt_cons_iff.mpr (.inl h)
 | cons a w ih=>exact List.cons_lt_cons_iff.mpr (.inr ⟨rfl,ih⟩)
theorem Vv (x y:List Int):PySem.W.dataLt (eV eI x) (eV eI y)=decide (x < y):=by
 show PySem.W.dataLt (.tuple (x.map .int)) (.tuple (y.map .int))=_
 rw [PySem.W.dataLt_tuple]
 exact PySem.W.dataLt_ints x y
theorem fg:AntE (eV eI):=fun x y h1 h2=>by
 rw [Vv,decide_eq_false_iff_not] at h1 h2
 exact List.le_antisymm h2 h1
theorem TN {lo:Int} {n:Nat} {k:Int}:k∈Ah lo n↔lo≤k∧k < lo+n:=by
 constructor
 ·intro h;have:=Q8 h;omega
 ·intro h
  unfold Ah
  exact hA.mpr ⟨(k - lo).toNat,List.mem_range.mpr (by omega),by omega⟩
theorem Vw (lo:Int) (n:Nat):(Ah lo n).Pairwise (· < ·):=by
 unfold Ah
 rw [jd]
 exact List.pairwise_lt_range.imp fun h=>by omega
structure Hv21 (gs:List Gap) (w:List Int) (ks:List Int) (L:List (List Int)):Prop where
 mem:∀ c,c∈L↔Chn gs c∧∃ k∈ks,∃ r,c=w++k::r
 pw:L.Pairwise (· < ·)
structure Bh21 (gs:List Gap) (w:List Int) (L:List (List Int)):Prop where
 mem:∀ c,c∈L↔Chn gs c∧∃ r,c=w++r
 pw:L.Pairwise (· < ·)
section
variable {gs:List Gap}
theorem nd21 {L:List (List Int)} (h:L.Pairwise (· < ·)):L.Nodup:=h.imp fun h e=>by
 rw [e] at h
 exact List.lt_irrefl _ h
theorem Hv21.more {w pre:List Int} {x:Int} {s z:List (List Int)} (h:Hv21 gs w pre s) (hx:∀ k∈pre,k < x) (hz:Bh21 gs (w++[x]) z):Hv21 gs w (pre++[x]) (s++z) where
 mem:=fun c=>by
  rw [hY,h.mem,hz.mem]
  constructor
  ·rintro (⟨hc,k,hk,r,e⟩ | ⟨hc,r,e⟩)
   ·exact ⟨hc,k,iG _ hk,r,e⟩
   ·exact ⟨hc,x,by simp,r,by rw [e];simp⟩
  ·rintro ⟨hc,k,hk,r,e⟩
   rcases hY.mp hk with q | q
   ·exact .inl ⟨hc,k,q,r,e⟩
   ·rw [i6.mp q] at e
    exact .inr ⟨hc,r,by rw [e];simp⟩
 pw:=List.pairwise_append.mpr ⟨h.pw,hz.pw,fun a ha b hb=>by
  obtain ⟨_,k,hk,r,e⟩:=(h.mem a).mp ha
  obtain ⟨_,r',e'⟩:=(hz.mem b).mp hb
  rw [e,e',iL]
  exact bZ w r r' (hx k hk)⟩
theorem Hv21.skip {w pre:List Int} {x:Int} {s:List (List Int)} (h:Hv21 gs w pre s) (no:∀ r,¬ Chn gs (w++x::r)):Hv21 gs w (pre++[x]) s where
 mem:=fun c=>by
  rw [h.mem]
  constructor
  ·rintro ⟨hc,k,hk,r,e⟩
   exact ⟨hc,k,iG _ hk,r,e⟩
  ·rintro ⟨hc,k,hk,r,e⟩
   rcases hY.mp hk with q | q
   ·exact ⟨hc,k,q,r,e⟩
   ·rw [i6.mp q] at e
    exact absurd (e ▸ hc) (no r)
 pw:=h.pw
theorem Hv21.few {w pre:List Int} {s:List (List Int)} (hn:gs.length≤16) (h:Hv21 gs w pre s):s.length≤65536:=U0 (nd21 h.pw) (fun c hc=>((h.mem c).mp hc).1) hn
theorem Z9 (hn:gs.length≤16):∀ (m:Nat) (w:List Int),Wy gs w→(∀ a r,w=a::r→∀ k∈r,a < k)→17≤w.length+m→(CD m gs w).To (Bh21 gs w):=by
  intro m
  induction m with
  | zero=>intro w hw _ hm;have:=hw.len;omega
  | succ m ih=>
    intro w hw hl hm
    have hwl:=hw.len
    obtain ⟨b,hb⟩:∃ b,w.getLast?=some b:=⟨w.getLast hw.ne,List.getLast?_eq_some_getLast hw.ne⟩
    obtain ⟨a,r,ew⟩:=ik hw.ne
    have hbm:b∈w:=List.mem_of_getLast? hb
    have ham:a∈w:=by rw [ew];exact gu
    obtain ⟨gb,eb,lb,hib⟩:=LQ (hw.val b hbm)
    obtain ⟨ga,ea,la,hia⟩:=LQ (hw.val a ham)
    have e1:atI w (-(1:Int))=some b:=YO w b hb
    have e2:atI w (0:Int)=some a:=by rw [ew];exact aI a r
    have hav:=hw.val a ham
    show (Cf (CD m) gs w).To _
    unfold Cf
    refine To.o e1 (To.o eb (To.v (To.o e2 (To.o ea (To.i (fun hc=>?_) fun hc=>?_)))))
    · have hcl:gb.2.1=ga.1:=of_decide_eq_true hc
      have ch:Chn gs w:=⟨⟨hw,a,b,by rw [ew];rfl,hb,by rw [hib,la,hcl]⟩,hl⟩
      refine .ok ⟨fun c=>?_,List.pairwise_singleton _ _⟩
      rw [i6]
      constructor
      · rintro rfl;exact ⟨ch,[],by simp⟩
      · rintro ⟨hc',r',e⟩
        subst e
        have z:=PQ hc'.cl.wy hw.ne hb (by rw [hib,hcl,← la];exact iD ham)
        rw [z,iI]
    · have hcl:gb.2.1≠ga.1:=fun z=>by simp [z] at hc
      have open':¬ Chn gs w:=fun ch=>by
        obtain ⟨a',b',h1,h2,h3⟩:=ch.cl.cl
        rw [ew] at h1
        cases h1
        rw [hb] at h2
        cases h2
        rw [hib,la] at h3
        exact hcl (Option.some.inj h3)
      refine To.v (To.g (by omega) ?_)
      rw [YM hw.val,HL,A3]
      dsimp only
      refine To.i (fun hm2=>?_) fun hm2=>?_
      · have notin:hi22 gs b∉w.map (lo22 gs):=fun z=>by
          rw [hib,← Mg,← MW] at z
          simp [z] at hm2
        refine To.o e2 ?_
        have r1:=YN (n:=gs.length) (by omega)
        refine To.g ⟨by omega,by omega,r1.1,r1.2⟩ ?_
        have er:Int.toNat ((gs.length:Int) - (a+1))=gs.length - (a.toNat+1):=by omega
        rw [er]
        refine To.loop (fun pre s=>Hv21 gs w pre s) ⟨fun c=>⟨(fun h=>by cases h),fun ⟨_,k,hk,_⟩=>by cases hk⟩,.nil⟩ ?_ ?_
        · intro pre x post s hp hs nx hnx
          have hx:x∈Ah (a+1) (gs.length - (a.toNat+1)):=by rw [hp];simp
          have hxr:=TN.mp hx
          have hxv:0≤x∧x < gs.length:=by omega
          obtain ⟨gx,ex,lx,hix⟩:=LQ hxv
          have hpre:∀ k∈pre,k < x:=fun k hk=>by
            have z:=Vw (a+1) (gs.length - (a.toNat+1))
            rw [hp] at z
            exact (List.pairwise_append.mp z).2.2 k hk x gu
          unfold FQ
          refine To.o ex (To.i (fun hv=>?_) fun hv=>?_)
          · have hv':gx.1=gb.2.1:=of_decide_eq_true hv
            refine To.g (by simp;omega) (To.b (ih (w++[x]) (hw.more hb hxv (by rw [hib,lx,hv']) (by rw [lx,hv',← hib];exact notin)) (fun a' r' e k hk=>?_) (by rw [List.length_append];simp;omega)) fun z hz=>?_)
            · rw [ew] at e
              obtain ⟨e3,e4⟩:=List.cons.inj e
              subst e3 e4
              rcases hY.mp hk with q | q
              · exact hl _ _ ew k q
              · rw [i6.mp q];omega
            · have hs':=hs.more hpre hz
              have fw:=hs'.few hn
              rw [List.length_append] at fw
              refine To.g (by omega) ?_
              unfold Bu
              exact hnx _ hs'
          · unfold Bu
            refine hnx _ (hs.skip fun r' hc'=>?_)
            have lk:=hc'.cl.wy.lk
            obtain ⟨p,e⟩:=jO.mp hb
            rw [e,iL] at lk
            have z:=Lr lk
            rw [hib,lx] at z
            exact (decide_eq_false_iff_not.mp hv) (Option.some.inj z).symm
        · intro s hs
          unfold FP Bt
          refine .ok ⟨fun c=>?_,hs.pw⟩
          rw [hs.mem]
          constructor
          · rintro ⟨hc',k,_,r',e⟩
            exact ⟨hc',k::r',e⟩
          · rintro ⟨hc',r',e⟩
            cases r' with
            | nil=>rw [iI] at e;exact absurd (e ▸ hc') open'
            | cons k r'=>
              refine ⟨hc',k,TN.mpr ?_,r',e⟩
              have hk1:=hc'.cl.wy.val k (by rw [e];simp)
              have hk2:=hc'.least a (r++k::r') (by rw [e,ew];rfl) k (by simp)
              omega
      · unfold Bt
        refine .ok ⟨fun c=>⟨(fun h=>by cases h),fun ⟨hc',r',e⟩=>?_⟩,.nil⟩
        subst e
        have hin:hi22 gs b∈w.map (lo22 gs):=by
          rw [hib,← Mg,← MW]
          simpa using hm2
        have z:=PQ hc'.cl.wy hw.ne hb hin
        rw [z,iI] at hc'
        exact absurd hc' open'
theorem gZ {k:Int} (hk:0≤k∧k < gs.length):Wy gs [k]:=⟨by simp,fun j hj=>by rw [i6.mp hj];exact hk,by simp,trivial⟩
theorem U5 (hn:gs.length≤16):(EK gs).To fun L=>(∀ c,c∈L↔Chn gs c)∧L.Pairwise (· < ·):=by
 unfold EK
 refine To.v (To.g (YN (by omega)) ?_)
 rw [je]
 refine To.loop (fun pre s=>Hv21 gs [] pre s) ⟨fun c=>⟨(fun h=>by cases h),fun ⟨_,k,hk,_⟩=>by cases hk⟩,.nil⟩ ?_ ?_
 ·intro pre x post s hp hs nx hnx
  have hx:=Ge.mp (show x∈Ah 0 gs.length by rw [hp];simp)
  have hpre:∀ k∈pre,k < x:=fun k hk=>by
   have z:=Vw 0 gs.length
   rw [hp] at z
   exact (List.pairwise_append.mp z).2.2 k hk x gu
  unfold I6 KC
  refine To.b (Z9 hn 24 [x] (gZ hx) (fun a r e k hk=>by cases e;cases hk) (by simp)) fun z hz=>?_
  have hs':=hs.more hpre hz
  have fw:=hs'.few hn
  rw [List.length_append] at fw
  exact To.g (by omega) (hnx _ hs')
 ·intro s hs
  unfold I5
  refine .ok ⟨fun c=>?_,hs.pw⟩
  rw [hs.mem]
  constructor
  ·exact fun h=>h.1
  ·intro hc
   obtain ⟨a,r,e⟩:=ik hc.cl.wy.ne
   exact ⟨hc,a,Ge.mpr (hc.cl.wy.val a (by rw [e];simp)),r,e⟩
theorem Vx (hn:gs.length≤16):∃ ks,MY gs=.ok ks∧EK gs=.ok ks∧ks.length≤65536∧(∀ c,c∈ks↔Chn gs c)∧ks.Pairwise (· < ·):=by
 obtain ⟨ks,e,nd,hk⟩:=Vn hn
 obtain ⟨L,eL,hL,pw⟩:=U5 hn
 have es:L=Cg (eV eI) ks:=aS fg (pw.imp fun {a b} h=>by
  rw [Vv,decide_eq_false_iff_not]
  exact fun z=>List.lt_irrefl _ (List.lt_trans h z)) (OE (nd21 pw) nd fun c=>by rw [hL,hk])
 exact ⟨L,by rw [e,es],eL,U0 (nd21 pw) (fun c hc=>(hL c).mp hc) hn,hL,pw⟩
end
end
section
open TL PySem L2
open Res
theorem Vy {gs:List Gap} (hn:gs.length≤31):GT gs=.ok (Cg (e2 eS eS) (uniq (gs.flatMap fun g=>[g.1,g.2.1]))):=by
 have key:=EO (ε:=Unit) (body:=Gc) (k:=Gb) (fun s (g:Gap)=>s++[g.1,g.2.1]) (fun pre s=>s=pre.flatMap (fun g=>[g.1,g.2.1])∧s.length=2*pre.length) (xs:=gs) (s0:=[]) ⟨rfl,rfl⟩ fun pre x post s hp ⟨h1,h2⟩=>by
  have pl:pre.length < 31:=by
   have:=congrArg List.length hp
   rw [List.length_append,i7] at this
   omega
  refine ⟨fun nx=>?_,?_,?_⟩
  ·unfold Gc
   rw [Az (by show s.length+2≤_;omega),A3]
  ·rw [h1,jG];simp
  ·simp [h2];omega
 obtain ⟨h1,h2,h3⟩:=key
 unfold GT
 rw [A3,h1,h2]
 unfold Gb
 rw [Az (by rw [← h2,h3];omega),A3]
end
section
open TL PySem L2
open Res
open Mst (Over)
def EA:List (Tx×Rat)→Int
 | []=>1
 | p::m=>(p.2.den:Int)*EA m
theorem IJ:∀ m:List (Tx×Rat),0 < EA m
 | []=>by decide
 | p::m=>Int.mul_pos (by have:=p.2.den_pos;omega) (IJ m)
theorem NW {b:Nat}:∀ {m:List (Tx×Rat)},(∀ p∈m,Nu.Bd b p.2)→(EA m).natAbs≤2 ^ (b*m.length)
 | [],_=>by show 1≤2 ^ (b*0);rw [Nat.mul_zero];exact iA _
 | p::m,h=>by
  have i:=NW (m:=m) fun q hq=>h q (gz _ hq)
  have:=(h p gu).2
  show ((p.2.den:Int)*EA m).natAbs≤2 ^ (b*(m.length+1))
  rw [ib,Int.natAbs_natCast,Nat.mul_succ,Nat.pow_add,Nat.mul_comm]
  exact Nat.mul_le_mul i (by omega)
theorem QK (r:Rat):Over (r.den:Int) r.num.natAbs r:=⟨r.num,by
 have:=den_mul r
 exact_mod_cast this,iA _⟩
theorem OQ {b:Nat}:∀ {m:List (Tx×Rat)},(∀ p∈m,Nu.Bd b p.2)→∀ p∈m,Over (EA m) (2 ^ (b*m.length)) p.2
 | [],_,p,hp=>by cases hp
 | q::m,h,p,hp=>by
  have hq:=h q gu
  have hm:∀ r∈m,Nu.Bd b r.2:=fun r hr=>h r (gz _ hr)
  have e2:(2:Nat) ^ (b*(q::m).length)=2 ^ (b*m.length)*2 ^ b:=by rw [i7,Nat.mul_succ,Nat.pow_add]
  rw [e2]
  rcases hZ.mp hp with rfl | hp
  ·refine ((QK p.2).dv (D':=EA (p::m)) (q:=EA m) (by show (p.2.den:Int)*EA m=_;rw [Int.mul_comm])).mono ?_
   exact Nat.mul_le_mul (NW hm) (Nat.le_of_lt hq.1)
  ·refine ((OQ hm p hp).dv (D':=EA (q::m)) (q:=(q.2.den:Int)) rfl).mono ?_
   rw [Int.natAbs_natCast,Nat.mul_comm]
   exact j9 _ (Nat.le_of_lt hq.2)
section
variable {a:Rat×List (Tx×Rat)} {m:List (Tx×Rat)} {M:Tx→Rat} {u D:Int} {N W B n:Nat}
theorem Ls (hn:Over (u*D) N a.1):∀ {ps:List (Tx×Rat)},(∀ f∈ps,Over u W f.2)→(∀ f∈ps,Over D B (M f.1))→Over (u*D) (N+ps.length*(W*B)) (a.1+dotT ps M)
 | [],_,_=>by
  show Over (u*D) (N+0*(W*B)) (a.1+0)
  rw [show a.1+0=a.1 by grind,Nat.zero_mul]
  exact hn
 | f::ps,hf,hm=>by
  have i:=Ls hn (ps:=ps) (fun g hg=>hf g (gz _ hg)) fun g hg=>hm g (gz _ hg)
  have t:=(hf f gu).mulO (hm f gu)
  have z:=i.add t
  show Over (u*D) (N+(ps.length+1)*(W*B)) (a.1+(f.2*M f.1+dotT ps M))
  rw [show a.1+(f.2*M f.1+dotT ps M)=(a.1+dotT ps M)+f.2*M f.1 by grind,show N+(ps.length+1)*(W*B)=N+ps.length*(W*B)+W*B by rw [Nat.add_mul];omega]
  exact z
structure At24 (a:Rat×List (Tx×Rat)) (m:List (Tx×Rat)) (M:Tx→Rat) (u D:Int) (N W B n:Nat):Prop where
 u0:0 < u
 d0:0 < D
 hD:(u*D).natAbs < 2 ^ n
 n4:n≤4000
 hl:a.2.length≤100
 hB:N+100*(W*B) < 2 ^ n
 hW:W < 2 ^ n
 hB1:B < 2 ^ n
 hn:Over (u*D) N a.1
 hf:∀ f∈a.2,Over u W f.2
 hm:∀ f∈a.2,dget m f.1=some (M f.1)∧Over D B (M f.1)
theorem At24.over (h:At24 a m M u D N W B n):Over (u*D) (N+100*(W*B)) (a.1+dotT a.2 M):=
 (Ls h.hn h.hf fun f hf=>(h.hm f hf).2).mono (Nat.add_le_add_left (iP _ h.hl) _)
theorem At24.bd (h:At24 a m M u D N W B n) {pre:List (Tx×Rat)} (hp:∀ f∈pre,f∈a.2) (pl:pre.length≤a.2.length):Nu.Bd n (a.1+dotT pre M):=
 (Ls h.hn (fun f hf=>h.hf f (hp f hf)) fun f hf=>(h.hm f (hp f hf)).2).bd (Int.mul_pos h.u0 h.d0) h.hD (iq (Nat.add_le_add_left (iP _ (iH pl h.hl)) _) h.hB)
theorem At24.u1 (h:At24 a m M u D N W B n):u.natAbs < 2 ^ n:=by
 refine iq ?_ h.hD
 rw [ib]
 exact Nat.le_mul_of_pos_right _ (by have:=h.d0;omega)
theorem At24.d1 (h:At24 a m M u D N W B n):D.natAbs < 2 ^ n:=by
 refine iq ?_ h.hD
 rw [ib]
 exact Nat.le_mul_of_pos_left _ (by have:=h.u0;omega)
theorem At24.fac (h:At24 a m M u D N W B n) {f:Tx×Rat} (hf:f∈a.2):Nu.Bd n f.2∧Nu.Bd n (M f.1)∧Nu.Bd n (f.2*M f.1):=by
 refine ⟨(h.hf f hf).bd h.u0 h.u1 h.hW,(h.hm f hf).2.bd h.d0 h.d1 h.hB1,((h.hf f hf).mulO (h.hm f hf).2).bd (Int.mul_pos h.u0 h.d0) h.hD ?_⟩
 have:=h.hB
 omega
theorem At24.prog (h:At24 a m M u D N W B n):Hx a m=.ok (a.1+dotT a.2 M):=by
 have key:=EO (ε:=Unit) (body:=Ii m) (k:=KW) (fun s f=>s+f.2*M f.1) (fun pre s=>s=a.1+dotT pre M) (xs:=a.2) (s0:=a.1) (by show a.1=a.1+0;grind) fun pre f post s hp hs=>⟨fun nx=>?_,?_⟩
 ·obtain ⟨e1,e2⟩:=key
  unfold Hx
  rw [A3,e1,e2]
  rfl
 ·have hf:f∈a.2:=by rw [hp];exact iV _ gu
  obtain ⟨g,gb⟩:=h.hm f hf
  obtain ⟨b1,b2,b3⟩:=h.fac hf
  have pl:pre.length≤a.2.length:=by rw [hp,List.length_append];omega
  have n4:=h.n4
  unfold Ii
  rw [g]
  simp only [Option.isSome_some,Bool.not_true,Bool.false_eq_true,if_false,AS,A3]
  rw [fO b1 b2 (by omega),A3,hs,YD (h.bd (fun x hx=>by rw [hp];exact iG _ hx) pl) b3 (by omega),A3]
 ·rw [hs,JO]
  show a.1+dotT pre M+f.2*M f.1=a.1+(dotT pre M+(f.2*M f.1+0))
  grind
theorem At24.law (h:At24 a m M u D N W B n):Dc a m=.ok (a.1+dotT a.2 M):=by
 have key:=EO (ε:=Unit) (body:=Fu m) (k:=I4) (fun s f=>s+f.2*M f.1) (fun pre s=>s=a.1+dotT pre M) (xs:=a.2) (s0:=a.1) (by show a.1=a.1+0;grind) fun pre f post s hp hs=>⟨fun nx=>?_,?_⟩
 ·obtain ⟨e1,e2⟩:=key
  unfold Dc
  rw [A3,e1,e2]
  rfl
 ·have hf:f∈a.2:=by rw [hp];exact iV _ gu
  obtain ⟨g,gb⟩:=h.hm f hf
  obtain ⟨b1,b2,b3⟩:=h.fac hf
  have pl:pre.length≤a.2.length:=by rw [hp,List.length_append];omega
  have n4:=h.n4
  unfold Fu
  rw [g]
  simp only [AS,A3]
  rw [mul2 b1 b2 (by omega),A3,hs,add2 (h.bd (fun x hx=>by rw [hp];exact iG _ hx) pl) b3 (by omega),A3]
 ·rw [hs,JO]
  show a.1+dotT pre M+f.2*M f.1=a.1+(dotT pre M+(f.2*M f.1+0))
  grind
end
structure Gs24 (gs:List Gap) (zs:List Tx) (u E:Int) (N W n:Nat):Prop where
 len:gs.length≤16
 zl:zs.length≤12
 u0:0 < u
 e0:0 < E
 n4:n≤4000
 hE:E.natAbs < 2 ^ n
 hu:u.natAbs < 2 ^ n
 hN:17*N < 2 ^ n
 hW:20000*W < 2 ^ n
 nm:∀ g∈gs,Over E N g.2.2.1
 rise:∀ g∈gs,(g.2.2.2.map (·.1)).Pairwise ltT
 sub:∀ g∈gs,∀ f∈g.2.2.2,f.1∈zs
 fo:∀ g∈gs,∀ f∈g.2.2.2,Over u W f.2
theorem ZA {xs:List Tx} (h:xs.Pairwise ltT):xs.Nodup:=List.Pairwise.imp (fun {a b} (h:ltT a b) (e:a=b)=>LB b (e ▸ h)) h
theorem Lu {xs zs:List Tx} (h:xs.Pairwise ltT) (s:∀ x∈xs,x∈zs):xs.length≤zs.length:=Im (ZA h) s
section
variable {gs:List Gap} {zs:List Tx} {u E:Int} {N W n:Nat}
theorem Gs24.plen (h:Gs24 gs zs u E N W n) {g:Gap} (hg:g∈gs):g.2.2.2.length≤12:=by
 have:=Lu (h.rise g hg) (zs:=zs) fun x hx=>by
  obtain ⟨f,hf,rfl⟩:=hA.mp hx
  exact h.sub g hg f hf
 rw [gy] at this
 have:=h.zl
 omega
theorem Gs24.prs (h:Gs24 gs zs u E N W n) {c:List Int} (hv:∀ k∈c,0≤k∧k < gs.length):(∀ f∈prsC gs c,f.1∈zs∧Over u W f.2)∧(prsC gs c).length≤12*c.length:=by
 induction c with
 | nil=>exact ⟨fun f hf=>by simp [prsC] at hf,by simp [prsC]⟩
 | cons k c ih=>
  obtain ⟨i1,i2⟩:=ih fun j hj=>hv j (gz _ hj)
  obtain ⟨g,hg,e⟩:=Dx (xs:=gs) (hv k gu).1 (hv k gu).2
  have e2:prsC gs (k::c)=g.2.2.2++prsC gs c:=by
   show (k::c).flatMap _=_
   rw [jM,U1 e]
   rfl
  rw [e2]
  refine ⟨fun f hf=>?_,?_⟩
  ·rcases hY.mp hf with z | z
   ·exact ⟨h.sub g hg f z,h.fo g hg f z⟩
   ·exact i1 f z
  ·have:=h.plen hg
   rw [List.length_append,i7]
   omega
theorem Gs24.res (h:Gs24 gs zs u E N W n) {c:List Int} (hv:∀ k∈c,0≤k∧k < gs.length):(resT (prsC gs c)).length≤12∧∀ f∈resT (prsC gs c),f.1∈zs∧Over u (12*c.length*W) f.2:=by
  obtain ⟨h1,h2⟩:=h.prs hv
  have sub:∀ f∈resT (prsC gs c),f.1∈zs:=fun f hf=>by
    obtain ⟨e,he,ee⟩:=hA.mp (Jp hf)
    rw [← ee]
    exact (h1 e he).1
  refine ⟨?_,fun f hf=>⟨sub f hf,?_⟩⟩
  · have:=Lu (Jn (prsC gs c)) (zs:=zs) fun x hx=>by
      obtain ⟨f,hf,rfl⟩:=hA.mp hx
      exact sub f hf
    rw [gy] at this
    have:=h.zl
    omega
  · rw [Mst.dQ hf]
    exact (Mst.QJ fun e he=>(h1 e he).2).mono (iP _ h2)
theorem Gs24.num (h:Gs24 gs zs u E N W n):∀ {c:List Int},(∀ k∈c,0≤k∧k < gs.length)→Over E (c.length*N) (numC gs c):=by
 intro c
 have key:∀ (c:List Int) (s:Rat) (B:Nat),(∀ k∈c,0≤k∧k < gs.length)→Over E B s→Over E (B+c.length*N) (c.foldl (fun s k=>s+nofG gs k) s):=by
  intro c
  induction c with
  | nil=>intro s B _ hs;exact hs.mono (by omega)
  | cons k c ih=>
   intro s B hv hs
   obtain ⟨g,hg,e⟩:=Dx (xs:=gs) (hv k gu).1 (hv k gu).2
   have hk:Over E N (nofG gs k):=by rw [PR e];exact h.nm g hg
   refine (ih (s+nofG gs k) (B+N) (fun j hj=>hv j (gz _ hj)) (hs.add hk)).mono ?_
   rw [i7,Nat.succ_mul]
   omega
 intro hv
 exact (key c 0 0 hv Mst.Over.zero).mono (by omega)
theorem Gs24.sum_eq (h:Gs24 gs zs u E N W n) {c:List Int} (hc:c.length≤16) (hv:∀ k∈c,0≤k∧k < gs.length):FY gs c=.ok (sumC gs c):=by
 have hN:=h.hN
 have hW:=h.hW
 have n4:=h.n4
 have key:=EO (ε:=Unit) (body:=Fw gs) (k:=Fv) (fun s k=>addS s (nofG gs k,pof gs k)) (fun pre s=>s=sumC gs pre) (xs:=c) (s0:=(0,[])) rfl fun pre x post s hp h1=>by
  obtain ⟨g,hgm,e⟩:=Dx (xs:=gs) (hv x (by rw [hp];simp)).1 (hv x (by rw [hp];simp)).2
  have pl:pre.length < 16:=by
   have:=congrArg List.length hp
   rw [List.length_append,i7] at this
   omega
  have pv:∀ k∈pre,0≤k∧k < gs.length:=fun k hk=>hv k (by rw [hp];exact iG _ hk)
  have e2:(nofG gs x,pof gs x)=g.2.2:=by rw [PR e,U1 e]
  subst h1
  rw [e2]
  refine ⟨fun nx=>?_,?_⟩
  ·obtain ⟨r1,r2⟩:=h.res pv
   have gl:=h.plen hgm
   have b1:Nu.Bd n (numC gs pre):=(h.num pv).bd h.e0 h.hE (iq (iP N (show pre.length≤17 by omega)) hN)
   have b2:Nu.Bd n g.2.2.1:=(h.nm g hgm).bd h.e0 h.hE (by omega)
   have wl:12*pre.length*W≤180*W:=iP W (by omega)
   have sp:GR (sumC gs pre) g.2.2=.ok (addS (sumC gs pre) g.2.2):=by
    unfold GR
    show Res.bind (GQ (numC gs pre) g.2.2.1) _=_
    rw [YD b1 b2 (by omega),A3]
    show Res.bind (Res.grd ((resT (prsC gs pre)).length+_≤100000) (resT (prsC gs pre)++g.2.2.2)) _=_
    rw [Az (by omega),A3,Mst.Vp (D:=u) (B:=180*W) (b:=n) h.u0 h.hu (by omega) n4 (fun f hf=>?_) (by rw [List.length_append];omega),A3]
    ·rfl
    ·rcases hY.mp hf with z | z
     ·exact ((r2 f z).2).mono wl
     ·exact (h.fo g hgm f z).mono (by omega)
   unfold Fw
   rw [e,AS,A3,sp,A3,A3]
  ·unfold addS sumC
   rw [Z4,Z5,PR e,U1 e,Z6]
 obtain ⟨h1,h2⟩:=key
 unfold FY
 rw [Vi (b:=1) (fun e he=>by cases he) (by decide) (fun k=>by simp [cntT]) (by simp),A3,A3,show resT []=[] from rfl,h1]
 unfold Fv
 rw [h2]
end
end
section
open TL PySem L2
open Res
open Mst (Over)
abbrev Pl24:=List (Nod×Rat)
def at24 (s:Pl24) (v:Nod):Rat:=(dget s v).getD 0
theorem eE {s:Pl24} {v:Nod}:(dget s v).isSome=true↔v∈s.map (·.1):=by
 unfold dget
 rw [Option.isSome_map,List.find?_isSome]
 constructor
 ·rintro ⟨e,he,q⟩
  exact (of_decide_eq_true q) ▸ iD he
 ·intro h
  obtain ⟨e,he,rfl⟩:=hA.mp h
  exact ⟨e,he,decide_eq_true rfl⟩
theorem C9 {s:Pl24} {v:Nod} (h:v∈s.map (·.1)):dget s v=some (at24 s v):=by
 have:=eE.mpr h
 unfold at24
 cases q:dget s v with
 | none=>rw [q] at this;cases this
 | some x=>rfl
theorem Mm {s:Pl24} {v u:Nod} {x:Rat}:at24 (dput s v x) u=if u=v then x else at24 s u:=by
 unfold at24
 obtain ⟨h1,h2⟩:=Mst.Z7 (m:=s) (k:=v) (j:=u) (d:=x)
 split
 ·rename_i e
  rw [e,h1]
  rfl
 ·rename_i e
  rw [h2 e]
theorem NX {a b:Rat} {n k:Nat} (ha:Nu.Bd n a) (hb:Nu.Bd k b) (h:n+k≤8000):EJ a b=.ok (a - b):=by
 unfold EJ
 rw [dA,AS,A3,add2 ha (fU hb) h,A3,Rat.sub_eq_add_neg]
def M24 (m:List (Tx×Rat)) (k:Tx):Rat:=(dget m k).getD 0
structure Cs24 (gs:List Gap) (m:List (Tx×Rat)) (hid:Nod→Rat) (zs:List Tx) (u D:Int) (N W B C n:Nat):Prop where
 g:Gs24 gs zs u (u*D) N W n
 d0:0 < D
 mkg:∀ z∈zs,dget m z=some (M24 m z)∧Over D B (M24 m z)
 big:17*N+100*(20000*W*B)+8*C < 2 ^ n
 hB1:B < 2 ^ n
 kept:∀ g∈gs,0≤hid g.2.1 - hid g.1+(g.2.2.1+dotT g.2.2.2 (M24 m))
 hO:∀ v,Over (u*D) C (hid v)
def BW (m:List (Tx×Rat)) (g:Gap):Rat:=g.2.2.1+dotT g.2.2.2 (M24 m)
def Ci (m:List (Tx×Rat)) (gs:List Gap):List Tr24:=gs.map fun g=>(g.1,g.2.1,BW m g)
section
variable {gs:List Gap} {m:List (Tx×Rat)} {hid:Nod→Rat} {zs:List Tx} {u D:Int} {N W B C n:Nat}
theorem Cs24.at' (h:Cs24 gs m hid zs u D N W B C n) {g:Gap} (hg:g∈gs):At24 g.2.2 m (M24 m) u D N W B n where
 u0:=h.g.u0
 d0:=h.d0
 hD:=h.g.hE
 n4:=h.g.n4
 hl:=iH (h.g.plen hg) (by decide)
 hB:=by
  have:=h.big
  have:W*B≤20000*W*B:=by rw [Nat.mul_assoc];omega
  omega
 hW:=by have:=h.g.hW;omega
 hB1:=h.hB1
 hn:=h.g.nm g hg
 hf:=h.g.fo g hg
 hm:=fun f hf=>h.mkg _ (h.g.sub g hg f hf)
theorem Cs24.atC (h:Cs24 gs m hid zs u D N W B C n) {c:List Int} (hc:c.length≤16) (hv:∀ k∈c,0≤k∧k < gs.length):At24 (sumC gs c) m (M24 m) u D (16*N) (192*W) B n where
 u0:=h.g.u0
 d0:=h.d0
 hD:=h.g.hE
 n4:=h.g.n4
 hl:=by
  have:=(h.g.res hv).1
  show (resT (prsC gs c)).length≤100
  omega
 hB:=by
  have:=h.big
  have:192*W*B≤20000*W*B:=iP B (iP W (by decide))
  omega
 hW:=by have:=h.g.hW;omega
 hB1:=h.hB1
 hn:=(h.g.num hv).mono (iP N hc)
 hf:=fun f hf=>((h.g.res hv).2 f hf).2.mono (iP W (by omega))
 hm:=fun f hf=>h.mkg _ ((h.g.res hv).2 f hf).1
theorem Cs24.e0 (h:Cs24 gs m hid zs u D N W B C n):0 < u*D:=h.g.e0
theorem Cs24.val (h:Cs24 gs m hid zs u D N W B C n) {g:Gap} (hg:g∈gs):Over (u*D) (N+100*(W*B)) (BW m g):=(h.at' hg).over
theorem Cs24.vb (h:Cs24 gs m hid zs u D N W B C n):N+100*(W*B)+8*C < 2 ^ n:=by
 have:=h.big
 have:W*B≤20000*W*B:=by rw [Nat.mul_assoc];omega
 omega
theorem Cs24.check (h:Cs24 gs m hid zs u D N W B C n):DL gs m=.ok ():=by
 obtain ⟨ks,_,e,_,hk,_⟩:=Vx h.g.len
 have n4:=h.g.n4
 unfold DL
 rw [e,A3]
 have key:=EO (ε:=Unit) (body:=EC gs m) (k:=Fz) (fun s _=>s) (fun _ _=>True) (xs:=ks) (s0:=()) trivial fun pre c post s hp _=>⟨fun nx=>?_,trivial⟩
 ·rw [key.1]
  rfl
 ·have hc:=(hk c).mp (by rw [hp];simp)
  have wy:=hc.cl.wy
  have cl:c.length≤16:=iH wy.len h.g.len
  have a:=h.atC cl wy.val
  have nn:=bY (M:=M24 m) (h:=hid) h.kept hc
  unfold EC
  rw [h.g.sum_eq cl wy.val,A3,a.prog,A3,aw (a.bd (fun _ h=>h) (iA _)) (bd0' (n:=1) (by decide)) (show n+1≤8000 by omega),A3,if_neg (by simp only [decide_eq_true_eq];exact jD.mpr nn)]
structure Ok24 (E:Int) (g f:Nod→Rat):Prop where
 i:∀ v,∃ k:Int,f v*(E:Rat)=(k:Rat)
 nn:∀ v,0≤f v
 le:∀ v,f v≤g v
theorem Ok24.zero {E:Int} {g:Nod→Rat} (h:∀ v,0≤g v):Ok24 E g fun _=>0:=⟨fun _=>⟨0,by show (0:Rat)*_=((0:Int):Rat);rw [show ((0:Int):Rat)=0 from rfl];grind⟩,fun _=>ie,h⟩
theorem Ok24.over {E:Int} {g f:Nod→Rat} (h:Ok24 E g f) (e0:0 < E) {v:Nod} (hg:Over E C (g v)):Over E C (f v):=by
 obtain ⟨k,e⟩:=h.i v
 obtain ⟨j,e2,l⟩:=hg
 have ep:(0:Rat) < (E:Rat):=by exact_mod_cast e0
 have k0:(0:Rat)≤(k:Rat):=by rw [← e];exact jR (h.nn v) (Rat.le_of_lt ep)
 have kj:(k:Rat)≤(j:Rat):=by
  rw [← e,← e2]
  exact Rat.mul_le_mul_of_nonneg_right (h.le v) (Rat.le_of_lt ep)
 have k0':0≤k:=by exact_mod_cast k0
 have kj':k≤j:=by exact_mod_cast kj
 exact ⟨k,e,by omega⟩
theorem Ok24.up {E:Int} {g f:Nod→Rat} (h:Ok24 E g f) {t:Tr24} (hc:g t.1 - t.2.2≤g t.2.1) (ht:∃ k:Int,t.2.2*(E:Rat)=(k:Rat)):Ok24 E g (up24 f t):=by
 refine ⟨fun v=>?_,fun v=>Rat.le_trans (h.nn v) (PU f t v),YQ hc h.le⟩
 unfold up24
 split
 ·obtain ⟨i,e1⟩:=h.i t.1
  obtain ⟨j,e2⟩:=ht
  exact ⟨i - j,by rw [Rat.intCast_sub,← e1,← e2];grind⟩
 ·exact h.i v
theorem Cs24.clsP (h:Cs24 gs m hid zs u D N W B C n) {ts:List Tr24} (hs:∀ t∈ts,t∈Ci m gs) {g f:Nod→Rat} (hg:GM (Ci m gs) g) (hf:Ok24 (u*D) g f):Ok24 (u*D) g (Dy ts f):=by
 induction ts generalizing f with
 | nil=>exact hf
 | cons t ts ih=>
  have tm:=hs t gu
  obtain ⟨x,hx,e⟩:=hA.mp tm
  refine ih (fun s hs'=>hs s (gz _ hs')) (f:=up24 f t) (hf.up (hg t tm) ?_)
  obtain ⟨k,e1,_⟩:=h.val hx
  rw [← e]
  exact ⟨k,e1⟩
structure Top24 (gs:List Gap) (m:List (Tx×Rat)) (E:Int) (C:Nat) (g:Nod→Rat):Prop where
 nn:∀ v,0≤g v
 ov:∀ v,Over E C (g v)
 cl:GM (Ci m gs) g
theorem Cs24.gap (h:Cs24 gs m hid zs u D N W B C n) {x:Gap} (hx:x∈gs) {s:Pl24} (k1:x.1∈s.map (·.1)) (k2:x.2.1∈s.map (·.1)) (o1:Over (u*D) C (at24 s x.1)) (o2:Over (u*D) C (at24 s x.2.1)) :
    EL x m s=.ok (at24 s x.2.1 - at24 s x.1+BW m x)∧LP x m s=.ok (at24 s x.2.1 - at24 s x.1+BW m x)∧Nu.Bd n (at24 s x.2.1 - at24 s x.1+BW m x)∧Nu.Bd n (at24 s x.2.1)∧Nu.Bd n (at24 s x.1)∧Nu.Bd n (BW m x)∧Nu.Bd n (at24 s x.1 - BW m x):=by
  have e0:=h.e0
  have vb:=h.vb
  have n4:=h.g.n4
  have hE:=h.g.hE
  have a:=h.at' hx
  have vO:=h.val hx
  have b1:=o1.bd e0 hE (n:=n) (by omega)
  have b2:=o2.bd e0 hE (n:=n) (by omega)
  have b3:=(o2.sub o1).bd e0 hE (n:=n) (by omega)
  have b4:=((o2.sub o1).add vO).bd e0 hE (n:=n) (by omega)
  have b5:=vO.bd e0 hE (n:=n) (by omega)
  have b6:=(o1.sub vO).bd e0 hE (n:=n) (by omega)
  refine ⟨?_,?_,b4,b2,b1,b5,b6⟩
  · unfold EL
    rw [A3,C9 k2,AS,A3,C9 k1,AS,A3,av b2 b1 (by omega),A3,a.prog,A3]
    show Res.bind (GQ _ (BW m x)) _=_
    rw [YD b3 b5 (by omega),A3]
  · unfold LP
    rw [C9 k2,AS,A3,C9 k1,AS,A3,NX b2 b1 (by omega),A3,a.law,A3]
    show Res.bind (Hz _ (BW m x)) _=_
    rw [add2 b3 b5 (by omega),A3]
theorem Lv (pre:List Gap) (x:Gap):Ci m (pre++[x])=Ci m pre++[(x.1,x.2.1,BW m x)]:=i8
theorem QL (ts:List Tr24) (t:Tr24) (f:Nod→Rat):Dy (ts++[t]) f=up24 (Dy ts f) t:=List.foldl_append
theorem Cs24.round (h:Cs24 gs m hid zs u D N W B C n) {g:Nod→Rat} (tp:Top24 gs m (u*D) C g) {ks:List Nod} (hk:∀ x∈gs,x.1∈ks∧x.2.1∈ks) (kl:ks.length≤1000) {b:Bool} {s0:Pl24} (k0:s0.map (·.1)=ks) (o0:Ok24 (u*D) g (at24 s0)) {Q:Pl24→Prop} {n10:Bool×Pl24→Res Unit Pl24}
    (hn:∀ s:Bool×Pl24,s.2.map (·.1)=ks→at24 s.2=Dy (Ci m gs) (at24 s0)→Ok24 (u*D) g (at24 s.2)→(s.1=true→¬ GM (Ci m gs) (at24 s0))→(s.1=false→GM (Ci m gs) (at24 s0))→(n10 s).To Q):(Ct gs m (b,s0) n10).To Q:=by
  have n4:=h.g.n4
  unfold Ct
  refine To.v (To.loop (fun pre (s:Bool×Pl24)=>s.2.map (·.1)=ks∧at24 s.2=Dy (Ci m pre) (at24 s0)∧Ok24 (u*D) g (at24 s.2)∧(s.1=true→¬ GM (Ci m gs) (at24 s0))∧(s.1=false→at24 s.2=at24 s0∧GM (Ci m pre) (at24 s0))) ⟨k0,rfl,o0,(fun h=>by cases h),fun _=>⟨rfl,fun t h=>by cases h⟩⟩ ?_ ?_)
  · rintro pre x post ⟨mv,s⟩ hp ⟨i1,i2,i3,i4,i5⟩ nx hnx
    dsimp only at i1 i2 i3 i4 i5
    have xm:x∈gs:=by rw [hp];simp
    have tm:(x.1,x.2.1,BW m x)∈Ci m gs:=iD xm
    obtain ⟨k1,k2⟩:=hk x xm
    have e0:=h.e0
    have o1:=i3.over e0 (tp.ov x.1)
    have o2:=i3.over e0 (tp.ov x.2.1)
    obtain ⟨q1,_,q3,q4,q5,q6,q7⟩:=h.gap xm (by rw [i1];exact k1) (by rw [i1];exact k2) o1 o2
    have iv:=(h.val xm)
    have up:=i3.up (t:=(x.1,x.2.1,BW m x)) (tp.cl _ tm) (let ⟨k,e,_⟩:=iv;⟨k,e⟩)
    have us:Dy (Ci m (pre++[x])) (at24 s0)=up24 (at24 s) (x.1,x.2.1,BW m x):=by rw [Lv,QL,← i2]
    unfold G3
    dsimp only
    rw [q1,show Res.mapE (fun _=>()) (.ok (at24 s x.2.1 - at24 s x.1+BW m x):Res Unit Rat)=.ok (at24 s x.2.1 - at24 s x.1+BW m x) from rfl,A3,A3,aw q3 (bd0' (n:=1) (by decide)) (show n+1≤8000 by omega),A3]
    refine To.i (fun c=>?_) fun c=>?_
    · have lt:=of_decide_eq_true c
      have lt2:at24 s x.2.1 < at24 s x.1 - BW m x:=by grind
      have sl:s.length≤1000:=by
        have:=congrArg List.length i1
        rw [gy] at this
        omega
      rw [C9 (by rw [i1];exact k2),AS,A3,av q4 q3 (by omega),A3]
      refine To.g (by omega) (To.v ?_)
      unfold CF
      have e1:at24 s x.2.1 - (at24 s x.2.1 - at24 s x.1+BW m x)=at24 s x.1 - BW m x:=by grind
      have e2:at24 (dput s x.2.1 (at24 s x.1 - BW m x))=up24 (at24 s) (x.1,x.2.1,BW m x):=by
        funext v
        rw [Mm]
        unfold up24
        dsimp only
        by_cases ev:v=x.2.1
        · rw [if_pos ev,if_pos ⟨ev,lt2⟩]
        · rw [if_neg ev,if_neg fun z=>ev z.1]
      rw [e1]
      refine hnx _ ⟨?_,?_,?_,fun _ all=>?_,fun h=>by cases h⟩
      · dsimp only
        rw [Gf,if_pos (by rw [i1];exact k2),i1]
      · dsimp only
        rw [e2,us]
      · dsimp only
        rw [e2]
        exact up
      · cases hm:mv with
        | true=>exact i4 hm all
        | false=>
          have:=all _ tm
          rw [(i5 hm).1] at lt2
          dsimp only at this
          grind
    · have ge:=jD.mp (of_decide_eq_false c)
      have ge2:at24 s x.1 - BW m x≤at24 s x.2.1:=by grind
      unfold CF
      refine hnx _ ⟨i1,?_,i3,i4,fun hm=>⟨(i5 hm).1,?_⟩⟩
      · dsimp only
        rw [us,U3 (t:=(x.1,x.2.1,BW m x)) ge2]
      · rw [Lv]
        intro t ht
        rcases hY.mp ht with z | z
        · exact (i5 hm).2 t z
        · rw [i6.mp z,← (i5 hm).1]
          exact ge2
  · rintro ⟨mv,s⟩ ⟨i1,i2,i3,i4,i5⟩
    unfold G0
    exact hn _ i1 i2 i3 i4 fun hm=>(i5 hm).2
noncomputable def BG (gs:List Gap):List Nod:=Cg (e2 eS eS) (uniq (gs.flatMap fun g=>[g.1,g.2.1]))
theorem QM (gs:List Gap):(BG gs).Nodup:=(EI _ _).nodup_iff.mpr (Ld _)
theorem Hj {gs:List Gap} {v:Nod}:v∈BG gs↔∃ g∈gs,v=g.1∨v=g.2.1:=by
 unfold BG
 rw [(EI _ _).mem_iff,Q3,List.mem_flatMap]
 simp
theorem NY (gs:List Gap):(BG gs).length≤2*gs.length:=by
 unfold BG
 rw [(EI _ _).length_eq]
 have h1:(uniq (gs.flatMap fun g=>[g.1,g.2.1])).length≤(gs.flatMap fun g=>[g.1,g.2.1]).length:=Im (Ld _) fun x hx=>Q3.mp hx
 have h2:∀ gs:List Gap,(gs.flatMap fun g=>[g.1,g.2.1]).length=2*gs.length:=fun gs=>by
  induction gs with
  | nil=>rfl
  | cons x gs ih=>rw [jM,List.length_append,ih,i7];simp;omega
 rw [h2] at h1
 exact h1
noncomputable def Mo (m:List (Tx×Rat)) (gs:List Gap):Nod→Rat:=GN (Ci m gs) (BG gs).length fun _=>0
theorem Cs24.feas (h:Cs24 gs m hid zs u D N W B C n):∀ t∈Ci m gs,(fun v=>-hid v) t.2.1 - (fun v=>-hid v) t.1≤t.2.2:=fun t ht=>by
 obtain ⟨x,hx,rfl⟩:=hA.mp ht
 have:=h.kept x hx
 show -hid x.2.1 - -hid x.1≤x.2.2.1+dotT x.2.2.2 (M24 m)
 grind
theorem bf {ks:List Nod} (hk:∀ x∈gs,x.1∈ks∧x.2.1∈ks):∀ t∈Ci m gs,t.1∈ks∧t.2.1∈ks:=fun t ht=>by
 obtain ⟨x,hx,rfl⟩:=hA.mp ht
 exact hk x hx
theorem JQ (gs:List Gap):∀ x∈gs,x.1∈BG gs∧x.2.1∈BG gs:=fun x hx=>⟨Hj.mpr ⟨x,hx,.inl rfl⟩,Hj.mpr ⟨x,hx,.inr rfl⟩⟩
theorem Cs24.closed (h:Cs24 gs m hid zs u D N W B C n):GM (Ci m gs) (Mo m gs):=U4 (q:=fun v=>-hid v) (bf (JQ gs)) h.feas _
theorem Cs24.least (h:Cs24 gs m hid zs u D N W B C n) {g:Nod→Rat} (tp:Top24 gs m (u*D) C g):(C8 gs m).To fun s=>s.map (·.1)=BG gs∧at24 s=Mo m gs:=by
 have gl:=h.g.len
 have nl:=NY gs
 have nd:=QM gs
 unfold C8
 rw [h.check,A3,A3,A3,Vy (by omega),A3]
 show (Res.loop EF (EE gs m) (BG gs) []).To _
 refine To.loop (fun pre (s:Pl24)=>s.map (·.1)=pre∧∀ v,at24 s v=0) ⟨rfl,fun _=>rfl⟩ ?_ ?_
 ·intro pre x post s hp ⟨i1,i2⟩ nx hnx
  have xn:x∉pre:=by
   rw [hp] at nd
   exact fun hx=>(iC.mp nd).2.2 x hx x gu rfl
  have pl:pre.length < 32:=by
   have:=congrArg List.length hp
   rw [List.length_append,i7] at this
   omega
  have sl:=congrArg List.length i1
  rw [gy] at sl
  unfold EF
  refine To.g (by omega) (hnx _ ⟨?_,fun v=>?_⟩)
  ·dsimp only
   rw [Gf,if_neg (by rw [i1];exact xn),i1]
  ·dsimp only
   rw [Mm]
   split
   ·rfl
   ·exact i2 v
 ·intro s ⟨i1,i2⟩
  have f0:at24 s=fun _=>0:=funext i2
  unfold EE
  refine To.v ?_
  have fb:=Res.fuel_big (n:=40) (iE (show 40 < 2 ^ 10 by decide) (iO (by decide) (by decide)))
  have cl:∀ k,(BG gs).length≤k→GM (Ci m gs) (GN (Ci m gs) k fun _=>0):=fun k hk=>by
   have z:=Jq h.closed (k - (BG gs).length)
   rw [show (BG gs).length+(k - (BG gs).length)=k by omega] at z
   rw [z]
   exact h.closed
  refine To.wloopN (K:=(BG gs).length+2) (fun k (s:Bool×Pl24)=>s.2.map (·.1)=BG gs∧at24 s.2=GN (Ci m gs) k (fun _=>0)∧Ok24 (u*D) g (at24 s.2)∧k≤(BG gs).length+1∧(s.1=true→k≤(BG gs).length)∧(s.1=false→GM (Ci m gs) (at24 s.2))) (fun k s hI=>by have:=hI.2.2.2.1;omega) (k:=0) ⟨i1,f0,by dsimp only;rw [f0];exact Ok24.zero tp.nn,iT _,(fun _=>iT _),fun h=>by cases h⟩ (by omega) ?_
  rintro k ⟨mv,s⟩ ⟨j1,j2,j3,j4,j5,j6⟩ nx hnx
  dsimp only at j1 j2 j3 j4 j5 j6 ⊢
  refine To.i (fun c=>?_) fun c=>?_
  ·have k5:=j5 c
   refine h.round tp (JQ gs) (by omega) j1 j3 fun s' a1 a2 a3 a4 a5=>hnx s' ⟨a1,?_,a3,by omega,fun q=>?_,fun q=>?_⟩
   ·rw [a2,j2,II]
   ·have:=a4 q
    rw [j2] at this
    refine Nat.lt_of_not_le fun z=>this (cl k z)
   ·rw [a2,Kh (a5 q)]
    exact a5 q
  ·have mf:mv=false:=by simpa using c
   unfold ED
   refine .ok ⟨j1,?_⟩
   dsimp only
   rw [j2]
   have cc:=j6 mf
   rw [j2] at cc
   show _=GN (Ci m gs) (BG gs).length _
   by_cases kn:k≤(BG gs).length
   ·have z:=Jq cc ((BG gs).length - k)
    rw [show k+((BG gs).length - k)=(BG gs).length by omega] at z
    exact z.symm
   ·have z:=Jq h.closed 1
    rw [show k=(BG gs).length+1 by omega]
    exact z
theorem Cs24.lleast (h:Cs24 gs m hid zs u D N W B C n) {g:Nod→Rat} (tp:Top24 gs m (u*D) C g):(LA gs m).To fun s=>(s.map (·.1)).Nodup∧(∀ v,v∈s.map (·.1)↔v∈BG gs)∧at24 s=Mo m gs:=by
 have gl:=h.g.len
 have n4:=h.g.n4
 have b62:(2:Int) ^ 62=4611686018427387904:=by decide
 unfold LA
 refine To.v (To.loop (fun pre (s:Pl24)=>(s.map (·.1)).Nodup∧(∀ v,v∈s.map (·.1)↔v∈BG pre)∧(∀ v,at24 s v=0)∧s.length≤2*pre.length) ⟨jP,(fun v=>by rw [Hj];simp),(fun _=>rfl),iT _⟩ ?_ ?_)
 ·intro pre x post s hp ⟨i1,i2,i3,i4⟩ nx hnx
  have pl:pre.length < 16:=by
   have:=congrArg List.length hp
   rw [List.length_append,i7] at this
   omega
  have one:∀ (s:Pl24) (v:Nod),(s.map (·.1)).Nodup→(∀ w,at24 s w=0)→((dput s v (0:Rat)).map (·.1)).Nodup∧(∀ w,at24 (dput s v (0:Rat)) w=0)∧(∀ w,w∈(dput s v (0:Rat)).map (·.1)↔w=v∨w∈s.map (·.1))∧(dput s v (0:Rat)).length≤s.length+1:=fun s v n1 n2=>by
   refine ⟨?_,fun w=>?_,fun w=>?_,?_⟩
   ·rw [Gf]
    split
    ·exact n1
    ·rename_i nm
     exact iC.mpr ⟨n1,by simp,fun a ha b hb=>by rw [i6.mp hb];exact fun e=>nm (e ▸ ha)⟩
   ·rw [Mm]
    split
    ·rfl
    ·exact n2 w
   ·rw [Gf]
    split
    ·rename_i hm
     constructor
     ·exact .inr
     ·rintro (rfl | h)
      ·exact hm
      ·exact h
    ·rw [hY,i6]
     exact Or.comm
   ·have:=congrArg List.length (Gf (m:=s) (k:=v) (d:=(0:Rat)))
    rw [gy] at this
    rw [this]
    split
    ·rw [gy];omega
    ·rw [List.length_append,gy];exact iA _
  obtain ⟨a1,a2,a3,a4⟩:=one s x.1 i1 i3
  obtain ⟨c1,c2,c3,c4⟩:=one _ x.2.1 a1 a2
  unfold Lq
  refine To.g (by omega) ?_
  dsimp only
  refine To.g (by omega) (hnx _ ⟨c1,fun v=>?_,c2,by dsimp only;rw [List.length_append,List.length_singleton];omega⟩)
  dsimp only
  rw [c3,a3,i2,Hj,Hj]
  constructor
  ·rintro (e | e | ⟨y,hy,e⟩)
   ·exact ⟨x,by simp,.inr e⟩
   ·exact ⟨x,by simp,.inl e⟩
   ·exact ⟨y,iG _ hy,e⟩
  ·rintro ⟨y,hy,e⟩
   rcases hY.mp hy with z | z
   ·exact .inr (.inr ⟨y,z,e⟩)
   ·rw [i6] at z
    subst z
    rcases e with e | e
    ·exact .inr (.inl e)
    ·exact .inl e
 ·intro s ⟨i1,i2,i3,i4⟩
  have f0:at24 s=fun _=>0:=funext i3
  have sl:s.length=(BG gs).length:=by
   have p1:=Im i1 fun v hv=>(i2 v).mp hv
   have p2:=Im (QM gs) fun v hv=>(i2 v).mpr hv
   rw [gy] at p1 p2
   omega
  unfold Lp
  refine To.g ⟨by omega,by omega⟩ ?_
  refine To.loop (fun pre (s':Pl24)=>s'.map (·.1)=s.map (·.1)∧at24 s'=GN (Ci m gs) pre.length (fun _=>0)∧Ok24 (u*D) g (at24 s')) ⟨rfl,f0,by rw [f0];exact Ok24.zero tp.nn⟩ ?_ ?_
  ·intro pre y post s1 hp ⟨j1,j2,j3⟩ nx hnx
   unfold Lo
   refine To.loop (fun pre2 (s':Pl24)=>s'.map (·.1)=s.map (·.1)∧at24 s'=Dy (Ci m pre2) (at24 s1)∧Ok24 (u*D) g (at24 s')) ⟨j1,rfl,j3⟩ ?_ ?_
   ·intro pre2 x post2 s2 hp2 ⟨q1,q2,q3⟩ nx2 hnx2
    have xm:x∈gs:=by rw [hp2];simp
    have tm:(x.1,x.2.1,BW m x)∈Ci m gs:=iD xm
    have k1:x.1∈s2.map (·.1):=by rw [q1,i2];exact (JQ gs x xm).1
    have k2:x.2.1∈s2.map (·.1):=by rw [q1,i2];exact (JQ gs x xm).2
    have e0:=h.e0
    have o1:=q3.over e0 (tp.ov x.1)
    have o2:=q3.over e0 (tp.ov x.2.1)
    obtain ⟨_,_,b3,b4,b5,b6,b7⟩:=h.gap xm k1 k2 o1 o2
    have up:=q3.up (t:=(x.1,x.2.1,BW m x)) (tp.cl _ tm) (let ⟨k,e,_⟩:=h.val xm;⟨k,e⟩)
    have us:Dy (Ci m (pre2++[x])) (at24 s1)=up24 (at24 s2) (x.1,x.2.1,BW m x):=by rw [Lv,QL,← q2]
    have sl2:=congrArg List.length q1
    rw [gy,gy] at sl2
    unfold Ln
    rw [C9 k1,AS,A3,(h.at' xm).law,A3]
    show (Res.bind (EJ (at24 s2 x.1) (BW m x)) _).To _
    rw [NX b5 b6 (by omega),A3,A3,C9 k2,AS,A3,X6 b4 b7 (by omega),A3]
    refine To.i (fun c=>?_) fun c=>?_
    ·have lt:=of_decide_eq_true c
     refine To.g (by omega) ?_
     unfold GV
     have e2:at24 (dput s2 x.2.1 (at24 s2 x.1 - BW m x))=up24 (at24 s2) (x.1,x.2.1,BW m x):=by
      funext v
      rw [Mm]
      unfold up24
      dsimp only
      by_cases ev:v=x.2.1
      ·rw [if_pos ev,if_pos ⟨ev,lt⟩]
      ·rw [if_neg ev,if_neg fun z=>ev z.1]
     refine hnx2 _ ⟨?_,?_,?_⟩
     ·dsimp only
      rw [Gf,if_pos k2,q1]
     ·dsimp only
      rw [e2,us]
     ·dsimp only
      rw [e2]
      exact up
    ·have ge:=jD.mp (of_decide_eq_false c)
     unfold GV
     refine hnx2 _ ⟨q1,?_,q3⟩
     rw [us,U3 (t:=(x.1,x.2.1,BW m x)) ge]
   ·intro s2 ⟨q1,q2,q3⟩
    unfold Lm
    refine hnx _ ⟨q1,?_,q3⟩
    rw [q2,j2,List.length_append,List.length_singleton,II]
  ·intro s1 ⟨j1,j2,_⟩
   unfold Ll
   rw [Ad] at j2
   refine .ok ⟨by rw [j1];exact i1,fun v=>by rw [j1];exact i2 v,?_⟩
   rw [j2]
   unfold Mo
   congr 1
end
end
section
open TL PySem L2
open Res
open Mst (Over)
theorem gc {s t:Pl24} (hs:(s.map (·.1)).Nodup) (ht:(t.map (·.1)).Nodup) (hk:∀ v,v∈s.map (·.1)↔v∈t.map (·.1)) (e:at24 s=at24 t):deq s t=true:=by
 have l:s.length=t.length:=by
  have p1:=Im hs fun v hv=>(hk v).mp hv
  have p2:=Im ht fun v hv=>(hk v).mpr hv
  rw [gy,gy] at p1 p2
  omega
 unfold deq
 rw [l,beq_self_eq_true,Bool.true_and,iY]
 intro p hp
 have m1:p.1∈s.map (·.1):=iD hp
 rw [C9 ((hk _).mp m1),← e]
 have key:∀ {s:Pl24},(s.map (·.1)).Nodup→p∈s→dget s p.1=some p.2:=by
  intro s nd hp
  induction s with
  | nil=>cases hp
  | cons q s ih=>
   rw [hG,iK] at nd
   rcases hZ.mp hp with rfl | hp
   ·simp [dget]
   ·have ne:¬ q.1=p.1:=fun z=>nd.1 (z ▸ iD hp)
    rw [show dget (q::s) p.1=dget s p.1 by simp [dget,ne]]
    exact ih nd.2 hp
 have d:=key hs hp
 rw [C9 m1] at d
 simp only [decide_eq_true_eq]
 exact (Option.some.inj d).symm
theorem TQ {hd:Pl24} {f:Rat→Rat}:∀ v,at24 (hd.map fun p=>(p.1,f p.2)) v=if v∈hd.map (·.1) then f (at24 hd v) else 0:=by
 intro v
 induction hd with
 | nil=>rfl
 | cons p hd ih=>
  unfold at24 at ih ⊢
  by_cases e:p.1=v
  ·subst e
   simp [dget]
  ·rw [hG,show dget ((p.1,f p.2)::hd.map fun p=>(p.1,f p.2)) v=dget (hd.map fun p=>(p.1,f p.2)) v by simp [dget,e],show dget (p::hd) v=dget hd v by simp [dget,e],ih,hG]
   by_cases m:v∈hd.map (·.1)
   ·rw [if_pos m,if_pos (gz _ m)]
   ·rw [if_neg m,if_neg (fun z=>(hZ.mp z).elim (fun q=>e q.symm) m)]
theorem gd {a l:Rat} (h:l≤a):0≤a - l:=by grind
theorem bj {a b c:Rat} (h:a < b) (k:b≤c):a≤c:=by grind
theorem gg {a b l v:Rat} (h:0≤b - a+v):a - l - v≤b - l:=by grind
theorem eF {a b v:Rat} (h:a - v≤b):0≤b - a+v:=by grind
section
variable {gs:List Gap} {m:List (Tx×Rat)} {hd:Pl24} {zs:List Tx} {u D:Int} {N W B C n:Nat}
def mv24 (hd:Pl24) (l:Rat):Pl24:=hd.map fun p=>(p.1,p.2 - l)
theorem Cs24.top (h:Cs24 gs m (at24 hd) zs u D N W B (2*C) n) (hC:∀ v,Over (u*D) C (at24 hd v)) (hk:∀ x∈gs,x.1∈hd.map (·.1)∧x.2.1∈hd.map (·.1)) {l:Rat} (l0:Over (u*D) C l) (ll:∀ v∈hd.map (·.1),l≤at24 hd v):Top24 gs m (u*D) (2*C) (at24 (mv24 hd l)) where
 nn:=fun v=>by
  unfold mv24
  rw [TQ (f:=fun r=>r - l)]
  split
  ·rename_i e
   have:=ll v e
   grind
  ·exact ie
 ov:=fun v=>by
  unfold mv24
  rw [TQ (f:=fun r=>r - l)]
  split
  ·exact ((hC v).sub l0).mono (by omega)
  ·exact Mst.Over.zero
 cl:=fun t ht=>by
  obtain ⟨x,hx,rfl⟩:=hA.mp ht
  obtain ⟨k1,k2⟩:=hk x hx
  have kp:=h.kept x hx
  show at24 (mv24 hd l) x.1 - BW m x≤at24 (mv24 hd l) x.2.1
  unfold mv24
  rw [TQ (f:=fun r=>r - l),TQ (f:=fun r=>r - l),if_pos k1,if_pos k2]
  unfold BW
  grind
theorem Cs24.right (h:Cs24 gs m (at24 hd) zs u D N W B (2*C) n) (hC:∀ v,Over (u*D) C (at24 hd v)) (hk:∀ x∈gs,x.1∈hd.map (·.1)∧x.2.1∈hd.map (·.1)) (hnd:(hd.map (·.1)).Nodup) (hl:hd.length≤1000) (mnd:(m.map (·.1)).Nodup):EN gs m hd=.ok true:=by
 have e0:=h.e0
 have n4:=h.g.n4
 have hE:=h.g.hE
 have vb:=h.vb
 -- a number below all hidden places
 have low:∃ l:Rat,Over (u*D) C l∧∀ v∈hd.map (·.1),l≤at24 hd v:=by
  have ix:∀ ks:List Nod,∃ l:Rat,Over (u*D) C l∧∀ v∈ks,l≤at24 hd v:=fun ks=>by
   induction ks with
   | nil=>exact ⟨0,Mst.Over.zero,fun v hv=>by cases hv⟩
   | cons k ks ih=>
    obtain ⟨l,a,b⟩:=ih
    by_cases c:l≤at24 hd k
    ·exact ⟨l,a,fun v hv=>(hZ.mp hv).elim (fun e=>e ▸ c) (b v)⟩
    ·refine ⟨at24 hd k,hC k,fun v hv=>(hZ.mp hv).elim (fun e=>e ▸ ie) fun z=>?_⟩
     exact bj (Rat.not_le.mp c) (b v z)
  exact ix _
 obtain ⟨lw,lw1,lw2⟩:=low
 have tp0:=h.top hC hk lw1 lw2
 have nd:=QM gs
 have nk:∀ v∈BG gs,v∈hd.map (·.1):=fun v hv=>by
  obtain ⟨x,hx,e⟩:=Hj.mp hv
  rcases e with rfl | rfl
  ·exact (hk x hx).1
  ·exact (hk x hx).2
 obtain ⟨s1,e1,a1,a2,a3⟩:=h.lleast tp0
 obtain ⟨s3,e3,b1,b2⟩:=h.least tp0
 have dq:deq s3 s1=true:=gc (by rw [b1];exact nd) a1 (fun v=>by rw [b1];exact (a2 v).symm) (by rw [b2,a3])
 have eqs:eqLs (eqSU (fun x y:List Gap=>some (decide (x=y))) (fun x y:List (Tx×Rat)=>some (deq x y))) [Sum.inl gs,Sum.inr m] [Sum.inl gs,Sum.inr m]=some true:=by simp [eqLs,eqZ,eqSU,bJ mnd]
 have nl:(BG gs).length≤32:=by have:=NY gs;have:=h.g.len;omega
 have oS:∀ {g:Nod→Rat},Top24 gs m (u*D) (2*C) g→∀ v,Over (u*D) (2*C) (Mo m gs v):=fun {g} tp v=>by
  have key:∀ k,Ok24 (u*D) g (GN (Ci m gs) k fun _=>0):=fun k=>by
   induction k with
   | zero=>exact Ok24.zero tp.nn
   | succ k ih=>rw [II];exact h.clsP (fun t ht=>ht) tp.cl ih
  exact (key _).over e0 (tp.ov v)
 have oL:=oS tp0
 have key:(EN gs m hd).To fun b=>b=true:=by
  unfold EN
  rw [e1,A3,A3,A3]
  refine To.o (a:=Sum.inl gs) rfl (To.o (a:=gs) rfl (To.o (a:=Sum.inr m) rfl (To.o (a:=m) rfl ?_)))
  rw [e3,A3,A3,if_neg (by decide),dq,if_neg (by decide),eqs]
  refine To.v (To.v (To.v ?_))
  rw [show List.map Prod.fst s3=BG gs from b1]
  refine To.loop (fun _ _=>True) trivial ?_ ?_
  ·intro pre v post _ hp _ nx hnx
   have vm:v∈BG gs:=by rw [hp];simp
   unfold HH
   rw [C9 (by rw [b1];exact vm),AS,A3,C9 ((a2 v).mpr vm),AS,A3,b2,a3,is07,A3,if_neg (by decide)]
   exact hnx _ trivial
  ·intro _ _
   unfold HG
   refine To.v ?_
   rw [show List.map Prod.fst s3=BG gs from b1]
   refine To.loop (fun pre (l:Rat)=>Over (u*D) C l∧l≤0∧∀ v∈pre,l≤at24 hd v) ⟨Mst.Over.zero,ie,fun v hv=>by cases hv⟩ ?_ ?_
   ·intro pre v post l hp ⟨i1,i2,i3⟩ nx hnx
    have vm:v∈BG gs:=by rw [hp];simp
    have bh:Nu.Bd n (at24 hd v):=(hC v).bd e0 hE (by omega)
    have bl:Nu.Bd n l:=i1.bd e0 hE (by omega)
    unfold IG
    rw [C9 (nk v vm),AS,A3,X6 bh bl (by omega),A3]
    refine To.i (fun c=>?_) fun c=>?_
    ·have lt:=of_decide_eq_true c
     refine To.v (To.v ?_)
     unfold DM
     refine hnx _ ⟨hC v,bj lt i2,fun w hw=>?_⟩
     rcases hY.mp hw with z | z
     ·exact bj lt (i3 w z)
     ·rw [i6.mp z]
      exact ie
    ·have ge:=jD.mp (of_decide_eq_false c)
     unfold DM
     refine hnx _ ⟨i1,i2,fun w hw=>?_⟩
     rcases hY.mp hw with z | z
     ·exact i3 w z
     ·rw [i6.mp z]
      exact ge
   ·intro l ⟨i1,i2,i3⟩
    unfold IF
    refine To.v ?_
    refine To.loop (fun pre (s:Pl24)=>∃ pr post,hd=pr++post∧pre=pr.map (·.1)∧s=mv24 pr l) ⟨[],hd,rfl,rfl,rfl⟩ ?_ ?_
    ·rintro pre v post s hp ⟨pr,po,q1,rfl,rfl⟩ nx hnx
     have ed:hd.map Prod.fst=pr.map (·.1)++v::post:=hp
     obtain ⟨p,po',rfl⟩:∃ p po',po=p::po':=by
      cases po with
      | nil=>
       rw [q1,iI] at ed
       have:=congrArg List.length ed
       simp at this
      | cons p po'=>exact ⟨p,po',rfl⟩
     have pv:p.1=v:=by
      rw [q1,i8,hG] at ed
      exact (List.cons.inj (List.append_cancel_left ed)).1
     have nin:v∉(mv24 pr l).map (·.1):=by
      rw [q1,i8,hG] at hnd
      intro hm
      have e2:(mv24 pr l).map (·.1)=pr.map (·.1):=by unfold mv24;rw [iJ];rfl
      rw [e2] at hm
      exact (iC.mp hnd).2.2 v hm p.1 gu pv.symm
     have gv:at24 hd v=p.2:=by
      unfold at24
      rw [q1]
      have np:∀ e∈pr,¬ e.1=v:=fun e he z=>by
       refine nin ?_
       unfold mv24
       rw [iJ]
       exact hA.mpr ⟨e,he,z⟩
      unfold dget
      rw [ja,jY.mpr (by simpa using np)]
      simp [pv]
     have ml:v∈hd.map (·.1):=by rw [ed];simp
     have bh:Nu.Bd n (at24 hd v):=(hC v).bd e0 hE (by omega)
     have bl:Nu.Bd n l:=i1.bd e0 hE (by omega)
     have pl:(mv24 pr l).length < 1000:=by
      have:=congrArg List.length q1
      rw [List.length_append,i7] at this
      unfold mv24
      rw [gy]
      omega
     unfold IE
     rw [C9 ml,AS,A3,NX bh bl (by omega),A3]
     refine To.g (by omega) (hnx _ ⟨pr++[p],po',by rw [q1];simp,by rw [i8,← pv];rfl,?_⟩)
     dsimp only
     have e3:dput (mv24 pr l) v (at24 hd v - l)=mv24 pr l++[(v,at24 hd v - l)]:=by
      unfold dput
      rw [if_neg]
      simp only [j0,decide_eq_true_eq,not_exists,not_and]
      exact fun e he z=>nin (hA.mpr ⟨e,he,z⟩)
     rw [e3,gv]
     unfold mv24
     rw [i8,← pv]
     rfl
    ·rintro s ⟨pr,po,q1,q2,rfl⟩
     have pe:po=[]:=by
      rw [q1] at q2
      have:=congrArg List.length q2
      rw [gy,List.length_append,gy] at this
      exact List.length_eq_zero_iff.mp (by omega)
     rw [pe,iI] at q1
     subst q1
     have ll:∀ v∈BG gs,l≤at24 hd v:=fun v hv=>i3 v hv
     -- the moved places,by the nodes of the gaps alone
     have mk:∀ v∈hd.map (·.1),at24 (mv24 hd l) v=at24 hd v - l:=fun v hv=>by
      unfold mv24
      rw [TQ (f:=fun r=>r - l),if_pos hv]
     have ki:∀ v,v∈(mv24 hd l).map (·.1)↔v∈hd.map (·.1):=fun v=>by unfold mv24;rw [iJ];exact Iff.rfl
     have cl:GM (Ci m gs) (at24 (mv24 hd l)):=fun t ht=>by
      obtain ⟨x,hx,rfl⟩:=hA.mp ht
      obtain ⟨k1,k2⟩:=hk x hx
      have kp:=h.kept x hx
      show at24 (mv24 hd l) x.1 - BW m x≤at24 (mv24 hd l) x.2.1
      rw [mk _ k1,mk _ k2]
      exact gg kp
     have oM:∀ v,Over (u*D) (2*C) (at24 (mv24 hd l) v):=fun v=>by
      unfold mv24
      rw [TQ (f:=fun r=>r - l)]
      split
      ·exact ((hC v).sub i1).mono (by omega)
      ·exact Mst.Over.zero
     -- above the least ones
     have abv:∀ v∈BG gs,Mo m gs v≤at24 (mv24 hd l) v:=fun v hv=>by
      have z1:GM (Ci m gs) (fun w=>if w∈BG gs then at24 (mv24 hd l) w else 0):=fun t ht=>by
       obtain ⟨x,hx,rfl⟩:=hA.mp ht
       obtain ⟨k1,k2⟩:=JQ gs x hx
       show (if x.1∈BG gs then at24 (mv24 hd l) x.1 else 0) - BW m x≤(if x.2.1∈BG gs then at24 (mv24 hd l) x.2.1 else 0)
       rw [if_pos k1,if_pos k2]
       have z0:=cl _ ht
       dsimp only at z0
       exact z0
      have z2:∀ w,(fun _:Nod=>(0:Rat)) w≤(fun w=>if w∈BG gs then at24 (mv24 hd l) w else 0) w:=fun w=>by
       show (0:Rat)≤if w∈BG gs then at24 (mv24 hd l) w else 0
       split
       ·rename_i hw
        rw [mk w (nk w hw)]
        exact gd (ll w hw)
       ·exact ie
      have z:=Vt z1 (BG gs).length z2 v
      rw [if_pos hv] at z
      exact z
     unfold ID
     rw [show List.map Prod.fst s3=BG gs from b1]
     refine To.g (by omega) ?_
     rw [J7 (fun _=>(none:Option Nod)) () _ fun v hv=>?_]
     ·have fm:(BG gs).filterMap (fun _=>(none:Option Nod))=[]:=List.filterMap_eq_nil_iff.mpr fun _ _=>rfl
      rw [HL,A3,fm,if_neg (by simp)]
      refine To.loop (fun _ _=>True) trivial ?_ ?_
      ·intro pre x post _ hp _ nx hnx
       have xm:x∈gs:=by rw [hp];simp
       obtain ⟨k1,k2⟩:=JQ gs x xm
       obtain ⟨j1,j2⟩:=hk x xm
       have tm:(x.1,x.2.1,BW m x)∈Ci m gs:=iD xm
       obtain ⟨p1,p2,p3,_⟩:=h.gap xm (s:=s3) (by rw [b1];exact k1) (by rw [b1];exact k2) (by rw [b2];exact oL _) (by rw [b2];exact oL _)
       obtain ⟨r1,r2,r3,_⟩:=h.gap xm (s:=mv24 hd l) ((ki _).mpr j1) ((ki _).mpr j2) (oM _) (oM _)
       have n1:¬ (at24 s3 x.2.1 - at24 s3 x.1+BW m x).num < 0:=by
        have z:=h.closed _ tm
        dsimp only at z
        rw [b2]
        have:0≤Mo m gs x.2.1 - Mo m gs x.1+BW m x:=eF z
        have:=jJ.mpr this
        omega
       have n2:¬ (at24 (mv24 hd l) x.2.1 - at24 (mv24 hd l) x.1+BW m x).num < 0:=by
        have z:=cl _ tm
        dsimp only at z
        have:0≤at24 (mv24 hd l) x.2.1 - at24 (mv24 hd l) x.1+BW m x:=eF z
        have:=jJ.mpr this
        omega
       unfold IC
       refine To.loop (fun _ _=>True) trivial ?_ ?_
       ·intro pre2 b post2 _ hp2 _ nx2 hnx2
        unfold IB
        cases b
        ·unfold aa
         rw [p1,p2]
         rw [show Res.mapE (fun _=>()) (.ok (at24 s3 x.2.1 - at24 s3 x.1+BW m x):Res Unit Rat)=.ok (at24 s3 x.2.1 - at24 s3 x.1+BW m x) from rfl,A3,A3,A3,is07,A3,if_neg (by simp only [Bool.not_true,Bool.false_or,decide_eq_true_eq];exact n1)]
         exact hnx2 _ trivial
        ·unfold aa
         rw [r1,r2,A3,A3,A3,is07,A3,if_neg (by simp only [Bool.not_true,Bool.false_or,decide_eq_true_eq];exact n2)]
         exact hnx2 _ trivial
       ·intro _ _
        unfold IA
        exact hnx _ trivial
      ·intro _ _
       unfold I9
       refine To.v (To.o (a:=Sum.inl gs) rfl (To.o (a:=gs) rfl (To.o (a:=Sum.inr m) rfl (To.o (a:=m) rfl ?_))))
       rw [e3,A3,dq]
       exact .ok rfl
     ·have b5:Nu.Bd n (at24 (mv24 hd l) v):=(oM v).bd e0 hE (by omega)
      have b6:Nu.Bd n (Mo m gs v):=(oL v).bd e0 hE (by omega)
      rw [C9 ((ki v).mpr (nk v hv)),AS,A3,C9 (by rw [b1];exact hv),AS,A3,b2,X6 b5 b6 (by omega),A3,if_neg (by simp only [decide_eq_true_eq];exact jD.mpr (abv v hv))]
 obtain ⟨v,e,rfl⟩:=key
 exact e
end
end
section
open TL PySem L2
open Res
theorem Res.To.lc24 {α β σ ε:Type} {body:α→σ→Res ε (Option β×σ)} (I:List β→σ→Prop) {xs:List α} {s:σ} (h0:I [] s) (step:∀ x ys s,xs[ys.length]?=some x→I ys s→(body x s).To fun t=>∃ y,t.1=some y∧I (ys++[y]) t.2) :
    (Res.lc body xs s).To fun z=>I z.1 z.2∧z.1.length=xs.length:=by
  have key:∀ (zs pre:List α) (ys:List β) (s:σ),xs=pre++zs→ys.length=pre.length→I ys s→(Res.lc body zs s).To fun z=>I (ys++z.1) z.2∧z.1.length=zs.length:=by
    intro zs
    induction zs with
    | nil=>intro pre ys s _ _ h;exact .ok ⟨by rw [iI];exact h,rfl⟩
    | cons x zs ih=>
      intro pre ys s e len h
      unfold Res.lc
      refine To.b (step x ys s (by rw [e,len];simp) h) fun t ⟨y,e1,hy⟩=>?_
      refine To.b (ih (pre++[x]) (ys++[y]) t.2 (by rw [e];simp) (by simp [len]) hy) fun u ⟨h1,h2⟩=>.ok ?_
      rw [e1]
      exact ⟨by rw [iL] at h1;exact h1,by simp [h2]⟩
  exact key xs [] [] s rfl rfl h0
theorem YR (t u:Tx):(t++u).s.cps.toList=t.s.cps.toList++u.s.cps.toList:=by
 show (t.s.cps++u.s.cps).toList=_
 rw [Array.toList_append]
theorem bo {n k:Nat} {x:Int} (h:(Ah 0 n)[k]?=some x):x=(k:Int)∧k < n:=by
 obtain ⟨l,e⟩:=iF.mp h
 rw [Ad] at l
 refine ⟨?_,l⟩
 rw [← e]
 simp [Ah]
theorem QN {α β:Type} {f:α→β} {g:Nat→β} {ys:List α} (e:ys.map f=(List.range ys.length).map g) (inj:∀ i j,i < ys.length→j < ys.length→g i=g j→i=j):ys.Nodup:=by
 have h:(ys.map f).Nodup:=by
  rw [e]
  refine (jd.mpr ?_)
  refine jN.mpr fun i j hi hj lt e2=>?_
  rw [List.length_range] at hi hj
  rw [List.getElem_range,List.getElem_range] at e2
  have:=inj i j hi hj e2
  omega
 exact List.Pairwise.of_map _ (fun _ _ hne e=>hne (congrArg _ e)) h
theorem fh:∀ i < 12,FZ.s.cps.toList[i]?=some (97+i):=by decide +kernel
theorem gh:∀ i < 26,FW.s.cps.toList[i]?=some (97+i):=by decide +kernel
theorem dS:∀ t∈[Dg,Ij,Ik,Il],t.len≤10∧∀ c∈t.s.cps.toList,c∈C6.s.cps.toList:=by decide +kernel
theorem dU:∀ c∈FZ.s.cps.toList,c∈C6.s.cps.toList:=by decide +kernel
theorem XJ {n:Nat} {w:List Int} {N:Nat} (h:Wl n w) (hn:n≤2 ^ 38) (hN:N≤12):(Fb w (N:Int)).To fun r=>r.1.Nodup∧r.1.length=N∧(∀ t∈r.1,Nmo t)∧Wl (n+N) r.2:=by
 have p38:(2:Nat) ^ 38=274877906944:=by decide
 have p40:(2:Nat) ^ 40=1099511627776:=by decide
 have p62:(2:Int) ^ 62=4611686018427387904:=by decide
 have l12:FZ.len=12:=by decide +kernel
 unfold Fb
 rw [je]
 refine To.g (by omega) (To.g (by rw [Ad];omega) ?_)
 refine To.b (To.calm (To.lc24 (fun (ys:List Tx) (s:List Int)=>(∀ t∈ys,Nmo t)∧ys.map (fun t=>t.s.cps.toList.getLast?)=(List.range ys.length).map (fun k=>some (97+k))∧Wl (n+ys.length) s) (xs:=Ah 0 N) (s:=w) ⟨(fun t ht=>by cases ht),rfl,h⟩ fun x ys s hx ⟨i1,i2,i3⟩=>?_)) fun z ⟨⟨z1,z2,z3⟩,z4⟩=>?_
 ·obtain ⟨ex,lt⟩:=bo hx
  refine To.b (To.mE (AY i3 (by decide) (by decide) (by omega))) fun v ⟨v0,v1,hv⟩=>?_
  obtain ⟨t,ht,et⟩:=Dx (xs:=[Dg,Ij,Ik,Il]) v0 (by simpa using v1)
  obtain ⟨t1,t2⟩:=dS t ht
  obtain ⟨c,hc,cl,d,hd,ec⟩:=Tx.at_ok (t:=FZ) (i:=x) (by omega) (by rw [l12];omega) (by rw [l12];decide)
  have d2:d=97+ys.length:=by
   rw [ex,je,fh _ (by omega)] at hd
   exact (Option.some.inj hd).symm
  refine To.o et (To.o hc (To.g (by omega) (.ok ⟨_,rfl,fun u hu=>?_,?_,?_⟩)))
  ·rcases hY.mp hu with q | q
   ·exact i1 u q
   ·rw [i6.mp q]
    refine ⟨by rw [Tx.len_app];omega,by rw [Tx.len_app];omega,fun e he=>?_⟩
    rw [YR] at he
    rcases hY.mp he with q | q
    ·exact t2 e q
    ·rw [ec] at q
     simp at q
     rw [q]
     exact dU _ (iM hd)
  ·rw [i8,i2,List.length_append,List.length_singleton,List.range_succ,i8]
   congr 1
   simp only [hG,List.map_nil]
   rw [YR,ec,d2]
   simp
  ·rw [List.length_append,List.length_singleton]
   exact hv
 ·rw [Ad] at z4
  refine .ok ⟨QN z2 fun i j _ _ e=>by simpa using e,z4,z1,?_⟩
  rw [z4] at z3
  exact z3
theorem XN {n:Nat} {w:List Int} (h:Wl n w) (hn:n≤2 ^ 38):(L8 w 6).To fun r=>r.1.Nodup∧r.1.length=6∧Wl (n+20) r.2:=by
 have p38:(2:Nat) ^ 38=274877906944:=by decide
 have p40:(2:Nat) ^ 40=1099511627776:=by decide
 have b62:(2:Int) ^ 62=4611686018427387904:=by decide
 unfold L8
 refine To.v (To.g ⟨by omega,by omega⟩ (To.g (by rw [Ad];decide) ?_))
 refine To.b (To.calm (To.lc (fun k w=>Wl k w) (fun y:Tx=>y.len=1) (n:=n) h fun x hx k s k1 k2 hk=>?_)) fun z ⟨z1,z2,z3⟩=>?_
 ·refine To.b (To.mE (AY hk (by decide) (by decide) (by rw [Ad] at k2;omega))) fun v ⟨v0,v1,hv⟩=>?_
  obtain ⟨c,hc,hc1,_⟩:=Tx.at_ok (t:=FW) v0 (by rw [l26];exact v1) (by rw [l26];decide)
  exact To.o hc (.ok ⟨⟨c,rfl,hc1⟩,hv⟩)
 ·have l0:FV.len=0:=by decide +kernel
  have sl:=Sv z2
  rw [Ad] at z1 z3
  have z1':z.1.length=8:=z1
  refine To.g (ak l0 (by omega)) (To.v ?_)
  have bl:(Tx.join FV z.1).len=8:=by rw [Tx.join_len l0,sl,z1']
  generalize Tx.join FV z.1=base at bl
  have z3':Wl (n+8) z.2:=z3
  refine To.b (AY z3' (by decide) (by decide) (by omega)) fun r ⟨r0,r1,hr⟩=>To.v ?_
  dsimp only at hr ⊢
  refine To.b (AY hr (by omega) (by omega) (by omega)) fun u ⟨u0,u1,hu⟩=>To.v ?_
  refine To.b (AY hu (by decide) (by decide) (by omega)) fun v ⟨v0,v1,hv⟩=>To.v ?_
  refine To.g ⟨by omega,by omega⟩ (To.g (by rw [Ad];decide) ?_)
  obtain ⟨p,ep⟩:=Int.eq_ofNat_of_zero_le u0
  obtain ⟨q,eq⟩:=Int.eq_ofNat_of_zero_le v0
  have bl2:base.s.cps.toList.length=8:=by rw [← Tx.len_l];exact bl
  refine To.b (To.calm (To.lc24 (fun (ys:List Tx) (_:Unit)=>ys.map (fun t=>t.s.cps.toList[p]?)=(List.range ys.length).map (fun k=>some (97+(q+3*k) % 26))) (xs:=Ah 0 (Int.toNat (6:Int))) (s:=()) rfl fun x ys s hx hk=>?_)) fun y ⟨y1,y2⟩=>?_
  ·obtain ⟨ex,lt⟩:=bo hx
   have lt6:ys.length < 6:=lt
   refine To.g (by omega) (To.g (cmulw 3 3 (by decide) (by omega)) (To.g (by decide) ?_))
   have b:=NG (a:=v.1+3*x) (m:=26) (by decide)
   obtain ⟨c,hc,hc1,d,hd,ec⟩:=Tx.at_ok (t:=FW) b.1 (by rw [l26];exact b.2) (by rw [l26];decide)
   have d2:d=97+(q+3*ys.length) % 26:=by
    have e1:(Int.fmod (v.1+3*x) 26).toNat=(q+3*ys.length) % 26:=by
     rw [Int.fmod_eq_emod_of_nonneg _ (by decide),eq,ex]
     omega
    rw [e1,gh _ (Nat.mod_lt _ (by decide))] at hd
    exact (Option.some.inj hd).symm
   refine To.o hc ?_
   have g1:=TF base none (some u.1)
   have g2:=TF base (some (u.1+1)) (some (1+r.1))
   dsimp only
   refine To.g (by omega) (To.g (by omega) (To.g (by rw [Tx.len_app];omega) (.ok ⟨_,rfl,?_⟩)))
   rw [i8,hk,List.length_append,List.length_singleton,List.range_succ,i8]
   congr 1
   simp only [hG,List.map_nil]
   rw [YR,YR,ec,ep,gR,d2]
   congr 1
   have tl:(base.s.cps.toList.take p).length=p:=by rw [jU,bl2];omega
   rw [iL,iS (by rw [tl];exact iA _),tl]
   simp
  ·rw [Ad] at y2
   have y6:y.1.length=6:=y2
   refine .ok ⟨QN y1 fun i j hi hj e=>?_,y6,hv.up (by omega)⟩
   rw [y6] at hi hj
   have e2:=Option.some.inj e
   omega
theorem gi {α:Type} {xs:List α} {i:Int} (h0:0≤i) (h1:i < xs.length) (hl:xs.length≤100000):∃ y r,Pn xs i=some (y,r)∧(y::r).Perm xs:=by
 obtain ⟨y,e,_⟩:=bV h0 h1 hl
 refine ⟨y,_,e,?_⟩
 have ey:xs[i.toNat]?=some y:=by
  unfold Pn at e
  split at e
  ·obtain ⟨k,hk,e2⟩:=jW.mp e
   obtain ⟨z,hz,e3⟩:=ia.mp e2
   have ek:k=i.toNat:=by
    unfold seqIndex? at hk
    have e1:(if i < 0 then i+(xs.length:Int) else i)=i:=if_neg (by omega)
    simp only [e1] at hk
    rw [if_pos (by simp [h0,h1])] at hk
    exact (Option.some.inj hk).symm
   rw [← ek,hz]
   exact congrArg some (Prod.mk.inj e3).1
  ·cases e
 have key:∀ {xs:List α} {k:Nat},xs[k]?=some y→(y::xs.eraseIdx k).Perm xs:=by
  intro xs
  induction xs with
  | nil=>intro k h;cases h
  | cons x xs ih=>
   intro k h
   cases k with
   | zero=>cases h;exact List.Perm.refl _
   | succ k=>exact (List.Perm.swap x y _).trans ((ih h).cons x)
 exact key ey
theorem XO {n:Nat} {w:List Int} {m:Int} (h:Wl n w) (hn:n≤2 ^ 37) (m0:0≤m) (m1:m≤6):(L9 w m).To fun r=>r.1.Nodup∧(r.1.length:Int)=m∧Wl (n+30) r.2:=by
 have p37:(2:Nat) ^ 37=137438953472:=by decide
 have p38:(2:Nat) ^ 38=274877906944:=by decide
 have p40:(2:Nat) ^ 40=1099511627776:=by decide
 have b62:(2:Int) ^ 62=4611686018427387904:=by decide
 have ne:C7≠FX:=by decide +kernel
 unfold L9
 refine To.v (To.b (XN h (by omega)) fun z ⟨z0,z1,z2⟩=>?_)
 refine To.loop (fun pre (s:List Nod×List Int)=>s.1=pre.flatMap (fun x=>[(C7,x),(FX,x)])∧s.1.length=2*pre.length∧Wl (n+20) s.2) ⟨rfl,rfl,z2⟩ ?_ ?_
 ·rintro pre x post ⟨l,u⟩ hp ⟨i0,i1,i2⟩ nx hnx
  have pl:pre.length < 6:=by
   rw [← z1,hp];simp
  dsimp only at i0 i1 i2
  unfold Lj
  dsimp only
  refine To.g (by rw [i1];show _+2≤_;omega) ?_
  exact hnx _ ⟨by rw [i0,jG];rfl,by show (l++[_,_]).length=_;simp [i1];omega,i2⟩
 ·rintro ⟨l,u⟩ ⟨i0,i1,i2⟩
  dsimp only at i0 i1 i2
  have il:l.length=12:=by rw [i1,z1]
  have nd:l.Nodup:=by
   rw [i0]
   clear i0 i1 i2 il z1 z2
   generalize z.1=ws at z0
   induction ws with
   | nil=>exact jP
   | cons x ws ih=>
    rw [iK] at z0
    rw [jM]
    refine iC.mpr ⟨by simp [ne],ih z0.2,fun a ha b hb e=>?_⟩
    subst e
    obtain ⟨y,hy,hb⟩:=List.mem_flatMap.mp hb
    have ax:a.2=x:=by simp at ha;rcases ha with rfl | rfl <;> rfl
    have ay:a.2=y:=by simp at hb;rcases hb with rfl | rfl <;> rfl
    exact z0.1 (by rw [← ax,ay];exact hy)
  unfold Li
  dsimp only
  refine To.g ⟨by omega,by omega⟩ (To.g (by rw [Ad];omega) ?_)
  refine To.b (To.calm (To.lc24 (fun (ys:List Nod) (s:List Nod×List Int)=>(ys++s.1).Perm l∧Wl (n+20+ys.length) s.2) (s:=(l,u)) ⟨List.Perm.refl _,i2⟩ fun x ys s hx ⟨j1,j2⟩=>?_)) fun y ⟨⟨y1,y2⟩,y3⟩=>?_
  ·obtain ⟨ex,lt⟩:=bo hx
   have len:=j1.length_eq
   rw [List.length_append,il] at len
   have lt':ys.length < 6:=by omega
   refine To.b (To.mE (AY j2 (by omega) (by omega) (by omega))) fun v ⟨v0,v1,hv⟩=>?_
   obtain ⟨q,r,eq,pm⟩:=gi v0 v1 (by omega)
   refine To.o eq (.ok ⟨q,rfl,?_,?_⟩)
   ·rw [iL]
    exact (List.Perm.append_left ys pm).trans j1
   ·rw [List.length_append]
    exact hv
  ·rw [Ad] at y3
   refine .ok ⟨?_,?_,y2.up (by omega)⟩
   ·exact (iC.mp (y1.nodup_iff.mpr nd)).1
   ·show (y.1.length:Int)=m
    rw [y3];omega
structure Sz24 (z:Siz):Prop where
 l:Kd 6 10 z.2.1
 w:∃ wd:Rat,z.2.2.1=z.2.1+wd∧0≤wd∧Kd 6 10 wd
 s:∀ e∈z.2.2.2,Kd 6 10 e.2.1
theorem bp {k:Int} {r:Rat} (h:KdK k r) (k2:k < 2):Kd 6 10 r:=by
 rcases h with ⟨e,_⟩ | ⟨e,_⟩ | ⟨_,_,q⟩
 ·omega
 ·omega
 ·exact q
theorem XP {n:Nat} {w:List Int} {k:Int} {N:Nat} (h:Wl n w) (hn:n≤2 ^ 30) (k1:k≤100) (hN:N≤12):(Fd w k (N:Int) 2).To fun r=>StOk r.1∧(∀ z∈r.1,Sz24 z)∧(alln r.1).length≤N∧Wl (n+1000) r.2:=by
 have p30:(2:Nat) ^ 30=1073741824:=by decide
 have p37:(2:Nat) ^ 37=137438953472:=by decide
 have p38:(2:Nat) ^ 38=274877906944:=by decide
 have p40:(2:Nat) ^ 40=1099511627776:=by decide
 have p62:(2:Int) ^ 62=4611686018427387904:=by decide
 unfold Fd
 refine To.b (AY h (by omega) (by omega) (by omega)) fun u ⟨u0,u1,hu⟩=>To.v (To.b (XJ hu (by omega) hN) fun Nm ⟨nd,nl,nn,hW⟩=>To.v (To.v ?_))
 dsimp only at nd nl nn hW ⊢
 refine To.wloop (fun s:List Siz×List Tx×List Int=>(∀ z∈s.1,SzOk z∧Sz24 z)∧(alln s.1++s.2.1).Nodup∧(∀ t∈s.2.1,Nmo t)∧(alln s.1++s.2.1).length≤N∧Wl (n+1+40+41*(12 - s.2.1.length)) s.2.2) (fun s=>s.2.1.length) ⟨(fun z hz=>by cases hz),nd,nn,by show ([]++Nm.1).length≤N;simp [nl],hW.up (by omega)⟩ (Res.fuel_big (by show Nm.1.length < _;rw [nl];exact iE (show N < 2 ^ 4 by omega) (iO (by decide) (by decide)))) ?_
 rintro ⟨zs,ps,v⟩ ⟨i1,i2,i3,i4,i5⟩ nx hnx
 dsimp only at i1 i2 i3 i4 i5 ⊢
 have il:=MZ zs
 rw [List.length_append] at i4
 refine To.i (fun c=>?_) fun c=>?_
 ·rw [iN] at c
  have pne:ps≠[]:=by simpa using c.1
  obtain ⟨qs,a,rfl⟩:=QA pne
  rw [List.length_append,List.length_singleton] at i4
  have ql:qs.length≤11:=by omega
  have iv:12 - (qs++[a]).length=11 - qs.length:=by
   rw [List.length_append,List.length_singleton]
   omega
  rw [iv] at i5
  unfold Fy
  dsimp only
  refine To.o (VZ qs a) (To.v (To.b (To.both (X1 i5 (by omega)) (YH i5 (by omega) (show u.1 < 4 by omega))) fun l ⟨⟨lb,hl⟩,lk⟩=>To.v (To.b (To.both (YC hl (by omega)) (YI hl (by omega) (show u.1 < 4 by omega))) fun m ⟨⟨mb,m0,hm⟩,mk⟩=>?_)))
  rw [Kc (lb.mono (by decide)) (mb.mono (by decide))]
  refine To.v (To.v (To.v (To.b (AY hm (by decide) (by decide) (by omega)) fun y ⟨y0,y1,hy⟩=>?_)))
  obtain ⟨x,hx,e⟩:=Dx (xs:=[(0:Int),0,1,1,2,3]) y0 (by simpa using y1)
  have x0:0≤x∧x≤5:=by
   simp at hx
   omega
  refine To.o e (To.g ⟨by omega,by omega⟩ ?_)
  have an:Nmo a:=i3 a (by simp)
  refine To.loop (fun pre (s:List Shi×List Tx×List Int)=>(∀ e∈s.1,ShOk e∧Kd 6 10 e.2.1)∧s.1.length≤pre.length∧s.2.1.length≤qs.length∧(∀ t∈s.2.1,Nmo t)∧(alln zs++(a::s.1.map (·.1)++s.2.1)).Nodup∧s.1.length+s.2.1.length=qs.length∧Wl (n+1+40+41*(11 - qs.length)+6+5*pre.length) s.2.2) ⟨(fun z hz=>by cases hz),iA _,iA _,(fun t ht=>i3 t (by simp [ht])),?_,by simp,hy⟩ ?_ ?_
  ·show (alln zs++(a::([]:List Shi).map (·.1)++qs)).Nodup
   have:(alln zs++(qs++[a])).Perm (alln zs++(a::qs)):=List.Perm.append_left _ List.perm_append_comm
   exact this.nodup_iff.mp i2
  ·rintro pre x' post ⟨sh,ps',v'⟩ hp ⟨j1,j2,j3,j4,j5,j7,j6⟩ nx' hnx'
   dsimp only at j1 j2 j3 j4 j5 j6 j7 ⊢
   have pl:pre.length < 5:=by
    have:=congrArg List.length hp
    rw [Ad] at this
    simp at this
    omega
   unfold I8
   dsimp only
   refine To.i (fun c=>?_) fun _=>?_
   ·have pne:ps'≠[]:=by simpa using c
    obtain ⟨qs',b,rfl⟩:=QA pne
    refine To.b (To.both (YC j6 (by omega)) (YI j6 (by omega) (show u.1 < 4 by omega))) fun al ⟨⟨alb,al0,hal⟩,alk⟩=>To.v ?_
    refine To.o (VZ qs' b) ?_
    dsimp only
    refine To.b (To.mE (AY hal (by decide) (by decide) (by omega))) fun f ⟨f0,f1,hf⟩=>?_
    obtain ⟨q,e',hq⟩:=gQ (a:=BU) (b:=BF) (c:=Bl) f0 f1
    refine To.o e' (To.g (by omega) ?_)
    unfold DK
    refine hnx' _ ⟨?_,?_,?_,?_,?_,?_,hf.up (by simp;omega)⟩
    ·intro e he
     rcases hY.mp he with he | he
     ·exact j1 e he
     ·simp at he
      subst he
      exact ⟨⟨j4 b (by simp),alb,al0,by rcases hq with rfl | rfl | rfl <;> simp⟩,bp alk u1⟩
    ·simp;omega
    ·simp at j3 ⊢;omega
    ·intro t ht
     exact j4 t (by simp;exact .inl ht)
    ·show (alln zs++(a::(sh++[(b,al.1,q)]).map (·.1)++qs')).Nodup
     have pm:(alln zs++(a::sh.map (·.1)++(qs'++[b]))).Perm (alln zs++(a::(sh++[(b,al.1,q)]).map (·.1)++qs')):=by
      rw [i8,List.cons_append,List.cons_append,iL]
      exact List.Perm.append_left _ (List.Perm.cons _ (List.Perm.append_left _ List.perm_append_comm))
     exact pm.nodup_iff.mp j5
    ·show (sh++[_]).length+qs'.length=qs.length
     simp at j7 ⊢;omega
   ·unfold DK
    exact hnx' _ ⟨j1,by simp;omega,j3,j4,j5,j7,j6.up (by rw [List.length_append,List.length_singleton];omega)⟩
  ·rintro ⟨sh,ps',v'⟩ ⟨j1,j2,j3,j4,j5,j7,j6⟩
   rw [Ad] at j2 j6
   dsimp only at j1 j2 j3 j4 j5 j6 j7 ⊢
   unfold I7
   have an2:alln (zs++[(a,l.1,l.1+m.1,sh)])=alln zs++(a::sh.map (·.1)):=by
    rw [ET]
    simp [alln,nmz]
   refine To.g (show zs.length < 100000 by omega) (hnx _ ⟨?_,?_,j4,?_,j6.up (show _≤n+1+40+41*(12 - ps'.length) by omega)⟩ ?_)
   ·intro z hz
    rcases hY.mp hz with hz | hz
    ·exact i1 z hz
    ·simp at hz
     subst hz
     refine ⟨⟨an,lb,Nu.L0 lb mb,?_,fun e he=>(j1 e he).1,(iC.mp (iC.mp j5).2.1).1,by show sh.length≤12;omega⟩,bp lk u1,⟨m.1,rfl,jJ.mp m0,bp mk u1⟩,fun e he=>(j1 e he).2⟩
     show ¬ (l.1+m.1).num*(l.1.den:Int) < l.1.num*((l.1+m.1).den:Int)
     rw [Nu.PF]
     have:0≤m.1:=jJ.mp m0
     grind
   ·show (alln (zs++[(a,l.1,l.1+m.1,sh)])++ps').Nodup
    rw [an2,iL]
    exact j5
   ·show (alln (zs++[(a,l.1,l.1+m.1,sh)])++ps').length≤N
    rw [an2]
    simp
    omega
   ·show ps'.length < (qs++[a]).length
    rw [List.length_append,List.length_singleton]
    omega
 ·unfold Fx
  refine .ok ⟨⟨fun z hz=>(i1 z hz).1,(iC.mp i2).1,by show (alln zs).length≤12;omega⟩,fun z hz=>(i1 z hz).2,by show (alln zs).length≤N;omega,i5.up (by show _≤_;omega)⟩
end
section
open TL PySem L2
open Res
open Mst (Over)
theorem Ff {r:Rat} (h:Kd 6 10 r):Over 60 600 r:=by
 obtain ⟨h1,h2⟩:=h
 have dp:=r.den_pos
 have o:=QK r
 have:r.den=1∨r.den=2∨r.den=3∨r.den=4∨r.den=5∨r.den=6:=by omega
 rcases this with e | e | e | e | e | e
 ·exact (o.dv (D':=60) (q:=60) (by rw [e];rfl)).mono (by rw [e] at h2;show 60*_≤600;omega)
 ·exact (o.dv (D':=60) (q:=30) (by rw [e];rfl)).mono (by rw [e] at h2;show 30*_≤600;omega)
 ·exact (o.dv (D':=60) (q:=20) (by rw [e];rfl)).mono (by rw [e] at h2;show 20*_≤600;omega)
 ·exact (o.dv (D':=60) (q:=15) (by rw [e];rfl)).mono (by rw [e] at h2;show 15*_≤600;omega)
 ·exact (o.dv (D':=60) (q:=12) (by rw [e];rfl)).mono (by rw [e] at h2;show 12*_≤600;omega)
 ·exact (o.dv (D':=60) (q:=10) (by rw [e];rfl)).mono (by rw [e] at h2;show 10*_≤600;omega)
def By24 (r:Rat):Prop:=∃ k:Int,r=(k:Rat)∧1≤k∧k≤10000000
theorem JR {D:Int} {B:Nat} {r b:Rat} (h:Over D B r) (hb:By24 b):Over D (10000000*B) (r*b):=by
 obtain ⟨k,rfl,k1,k2⟩:=hb
 rw [Rat.mul_comm]
 exact h.mul (by omega)
theorem bd60 {r:Rat} {B n:Nat} (h:Over 60 B r) (hB:B < 2 ^ n) (n6:6≤n):Nu.Bd n r:=h.bd (by decide) (iE (show (60:Int).natAbs < 2 ^ 6 by decide) (iO (by decide) n6)) hB
theorem U6 {b:Rat} (h:By24 b):Nu.Bd 30 b:=by
  obtain ⟨k,rfl,k1,k2⟩:=h
  exact ⟨by show k.natAbs < _;have:(2:Nat) ^ 30=1073741824:=by decide
            omega,by show (1:Nat) < _;decide⟩
def sc24 (b:Rat) (z:Siz):Siz:=(z.1,z.2.1*b,z.2.2.1*b,z.2.2.2.map fun e=>(e.1,e.2.1*b,e.2.2))
theorem dV {b:Rat} (hb:By24 b) {z:Siz} (h:SzOk z) (k:Sz24 z):SzOk (sc24 b z) where
 nm:=h.nm
 bl:=bd60 (JR (Ff k.l) hb) (by decide) (by decide)
 bm:=by
  obtain ⟨wd,e,_,kw⟩:=k.w
  show Nu.Bd 125 (z.2.2.1*b)
  rw [e]
  exact bd60 (JR ((Ff k.l).add (Ff kw)) hb) (by decide) (by decide)
 le:=by
  show ¬ (z.2.2.1*b).num*((z.2.1*b).den:Int) < (z.2.1*b).num*((z.2.2.1*b).den:Int)
  rw [Nu.PF]
  obtain ⟨wd,e,w0,_⟩:=k.w
  obtain ⟨i,rfl,i1,_⟩:=hb
  have ip:(0:Rat)≤(i:Rat):=by exact_mod_cast (show (0:Int)≤i by omega)
  have:=jR w0 ip
  rw [e]
  grind
 sh:=fun e he=>by
  obtain ⟨f,hf,rfl⟩:=hA.mp he
  have s:=h.sh f hf
  refine ⟨s.nm,bd60 (JR (Ff (k.s f hf)) hb) (by decide) (by decide),?_,s.way⟩
  obtain ⟨i,rfl,i1,_⟩:=hb
  have ip:(0:Rat)≤(i:Rat):=by exact_mod_cast (show (0:Int)≤i by omega)
  exact jJ.mpr (jR (jJ.mp s.nn) ip)
 nd:=by
  show (z.1::(z.2.2.2.map fun e=>(e.1,e.2.1*b,e.2.2)).map (·.1)).Nodup
  rw [iJ]
  exact h.nd
 len:=by
  show (z.2.2.2.map _).length≤12
  rw [gy]
  exact h.len
theorem LF (b:Rat):∀ zs:List Siz,alln (zs.map (sc24 b))=alln zs
 | []=>rfl
 | z::zs=>by
  rw [hG,Fe,Fe,LF b zs]
  congr 1
  show z.1::(z.2.2.2.map fun e=>(e.1,e.2.1*b,e.2.2)).map (·.1)=nmz z
  rw [iJ]
  rfl
theorem bq {b:Rat} (hb:By24 b) {zs:List Siz} (ok:StOk zs) (k:∀ z∈zs,Sz24 z):Ec zs b=.ok (zs.map (sc24 b)):=by
 have bb:=U6 hb
 have zl:=MZ zs
 have le:=ok.le
 have key:=EO (ε:=Unit) (body:=FH b) (k:=FG) (fun s z=>s++[sc24 b z]) (fun pre s=>s=pre.map (sc24 b)) (xs:=zs) (s0:=[]) rfl fun pre z post s hp hs=>⟨fun nx=>?_,by rw [hs,i8];rfl⟩
 ·obtain ⟨e1,e2⟩:=key
  unfold Ec
  rw [A3,e1]
  unfold FG
  rw [e2]
 ·have hz:z∈zs:=by rw [hp];simp
  have so:=ok.sz z hz
  have pl:pre.length≤12:=by
   have:=congrArg List.length hp
   rw [List.length_append,i7] at this
   omega
  have sl:=so.len
  unfold FH
  rw [Az (by omega),A3,J7 (fun e:Shi=>some (e.1,e.2.1*b,e.2.2)) () _ fun e he=>by rw [mul2 ((so.sh e he).bd) bb (by decide),A3]]
  rw [HL,A3,A3,fM]
  dsimp only
  rw [mul2 so.bl bb (by decide),A3,mul2 so.bm bb (by decide),A3,Az (by rw [hs,gy];omega),A3]
  rfl
theorem dW {b:Rat} (hb:By24 b) {zs:List Siz} (ok:StOk zs) (k:∀ z∈zs,Sz24 z):StOk (zs.map (sc24 b)) where
 sz:=fun z hz=>by
  obtain ⟨y,hy,rfl⟩:=hA.mp hz
  exact dV hb (ok.sz y hy) (k y hy)
 nd:=by rw [LF];exact ok.nd
 le:=by rw [LF];exact ok.le
theorem QO {n:Nat} {w:List Int} (h:Wl n w) (hn:n≤2 ^ 38):(EM w).To fun r=>Kd 6 10 r.1∧Wl (n+2) r.2:=by
 have p38:(2:Nat) ^ 38=274877906944:=by decide
 have p40:(2:Nat) ^ 40=1099511627776:=by decide
 have p62:(2:Nat) ^ 62=4611686018427387904:=by decide
 have bg:∀ b:Int,0 < b→b < 2000→b.natAbs < 2 ^ 8000:=fun b _ _=>iE (show b.natAbs < 2 ^ 62 by omega) (iO (by decide) (by decide))
 unfold EM
 refine To.b (AY h (by decide) (by decide) (by omega)) fun u ⟨u0,u1,hu⟩=>To.b (AY hu (by decide) (by decide) (by omega)) fun v ⟨v0,v1,hv⟩=>?_
 obtain ⟨x,hx,e⟩:=Dx (xs:=[(1:Int),1,2,3]) v0 (by simpa using v1)
 have x0:0 < x∧x≤3:=by
  simp at hx
  omega
 refine To.o e ?_
 rw [ER (by omega) (bg _ x0.1 (by omega))]
 exact To.v (.ok ⟨q_kd (by omega) (by omega) (by omega),hv⟩)
structure Fc24 (ks:List Tx) (fs:List (Tx×Rat)):Prop where
 rise:(fs.map (·.1)).Pairwise ltT
 sub:∀ f∈fs,f.1∈ks
 ov:∀ f∈fs,Over 1260 2520 f.2
theorem U7 {n:Nat} {w:List Int} {ks:List Tx} (h:Wl n w) (hn:n≤2 ^ 38) (nd:ks.Nodup) (kl:ks.length≤12):(Hf w ks).To fun r=>Fc24 ks r.1∧Wl (n+12) r.2:=by
 have p38:(2:Nat) ^ 38=274877906944:=by decide
 have p40:(2:Nat) ^ 40=1099511627776:=by decide
 have mm:∀ (r:Rat) (a b:Int),r.num=a→(r.den:Int)=b→mkQ a b=some r:=fun r a b h1 h2=>by rw [← h1,← h2,KM]
 have m1:mkQ (-(1:Int)) (1:Int)=some ((-1:Rat)):=mm _ _ _ (by decide +kernel) (by decide +kernel)
 have m2:mkQ (-(2:Int)) (1:Int)=some ((-2:Rat)):=mm _ _ _ (by decide +kernel) (by decide +kernel)
 have m5:mkQ (-(5:Int)) (7:Int)=some ((-5 / 7:Rat)):=mm _ _ _ (by decide +kernel) (by decide +kernel)
 have rs:=X4 nd
 have sl:(Dw ks).length=ks.length:=LC ks
 unfold Hf
 refine To.v (To.g (by omega) ?_)
 refine To.loop (fun pre (s:List (Tx×Rat)×List Int)=>(s.1.map (·.1)).Sublist pre∧(∀ f∈s.1,Over 1260 2520 f.2)∧Wl (n+pre.length) s.2) ⟨List.Sublist.refl _,(fun f hf=>by cases hf),h⟩ ?_ ?_
 ·rintro pre x post ⟨fs,u⟩ hp ⟨i1,i2,i3⟩ nx hnx
  dsimp only at i1 i2 i3
  have pl:pre.length < 12:=by
   have:=congrArg List.length hp
   rw [List.length_append,i7] at this
   omega
  have fl:fs.length≤pre.length:=by
   have:=i1.length_le
   rw [gy] at this
   exact this
  unfold Jk
  dsimp only
  rw [m1,AS,A3,m2,AS,A3,m5,AS,A3]
  refine To.b (AY i3 (by decide) (by decide) (by omega)) fun v ⟨v0,v1,hv⟩=>?_
  obtain ⟨c,hc,e⟩:=Dx (xs:=[(0:Rat),(0:Rat),(1:Rat),(-1:Rat),(2:Rat),(-2:Rat),(1 / 3:Rat),(-5 / 7:Rat)]) v0 (by simpa using v1)
  have ov:Over 1260 2520 c:=by
   simp at hc
   rcases hc with rfl | rfl | rfl | rfl | rfl | rfl | rfl
   ·exact Mst.Over.zero
   ·exact ⟨1260,by decide +kernel,by decide⟩
   ·exact ⟨-1260,by decide +kernel,by decide⟩
   ·exact ⟨2520,by decide +kernel,by decide⟩
   ·exact ⟨-2520,by decide +kernel,by decide⟩
   ·exact ⟨420,by decide +kernel,by decide⟩
   ·exact ⟨-900,by decide +kernel,by decide⟩
  refine To.o e (To.v ?_)
  dsimp only
  refine To.i (fun _=>?_) fun _=>?_
  ·refine To.g (by omega) ?_
   unfold Ed
   refine hnx _ ⟨?_,fun f hf=>?_,by rw [List.length_append];exact hv⟩
   ·dsimp only
    rw [i8]
    exact i1.append (List.Sublist.refl _)
   ·rcases hY.mp hf with z | z
    ·exact i2 f z
    ·rw [i6.mp z]
     exact ov
  ·unfold Ed
   exact hnx _ ⟨i1.trans (jE _ _),i2,by rw [List.length_append];exact hv⟩
 ·rintro ⟨fs,u⟩ ⟨i1,i2,i3⟩
  dsimp only at i1 i2 i3
  unfold Jj
  refine .ok ⟨⟨rs.sublist i1,fun f hf=>?_,i2⟩,i3.up (by omega)⟩
  exact (Dk ks).mem_iff.mp (i1.subset (iD hf))
end
section
open TL PySem L2
open Res
open Mst (Over)
theorem qI24 (t:Int):Nu.q t 1=(t:Rat):=by
 rw [VY]
 show (t:Rat) / (1:Rat)=_
 grind
theorem br {κ:Type} [DecidableEq κ] {s:List (κ×Rat)} {v:κ} (h:v∈s.map (·.1)):∃ x,dget s v=some x∧(v,x)∈s:=by
  induction s with
  | nil=>cases h
  | cons p s ih=>
    by_cases e:p.1=v
    · exact ⟨p.2,by simp [dget,e],by rw [← e];exact gu⟩
    · have h':v∈s.map (·.1):=by
        rw [hG] at h
        exact (hZ.mp h).resolve_left fun z=>e z.symm
      obtain ⟨x,h1,h2⟩:=ih h'
      exact ⟨x,by rw [← h1];simp [dget,e],gz _ h2⟩
theorem mk24 {zs:List Siz} {m:List (Tx×Rat)} (h:Mkg zs m) (l7:(alln zs).length≤7):(EA m).natAbs≤2 ^ 3500∧∀ z∈m.map (·.1),dget m z=some (M24 m z)∧Over (EA m) (2 ^ 3500) (M24 m z):=by
 have bd:∀ p∈m,Nu.Bd 500 p.2:=h.bd
 have ml:m.length≤7:=by
  have:=congrArg List.length h.keys
  rw [gy] at this
  omega
 have e:(2:Nat) ^ (500*m.length)≤2 ^ 3500:=iO (by decide) (by omega)
 refine ⟨iH (NW bd) e,fun z hz=>?_⟩
 obtain ⟨x,h1,h2⟩:=br hz
 unfold M24
 rw [h1]
 exact ⟨rfl,(OQ bd _ h2).mono e⟩
structure Cd24 (gs:List Gap) (m:List (Tx×Rat)) (hd:Pl24):Prop where
 c:Cs24 gs m (at24 hd) (m.map (·.1)) 1260 (EA m) (2 ^ 3540) 2520 (2 ^ 3500) (2*2 ^ 3537) 3600
 hC:∀ v,Over (1260*EA m) (2 ^ 3537) (at24 hd v)
 hk:∀ x∈gs,x.1∈hd.map (·.1)∧x.2.1∈hd.map (·.1)
 hnd:(hd.map (·.1)).Nodup
 hl:hd.length≤1000
 mnd:(m.map (·.1)).Nodup
structure Gd24 (m:List (Tx×Rat)) (hd:Pl24) (g:Gap):Prop where
 k1:g.1∈hd.map (·.1)
 k2:g.2.1∈hd.map (·.1)
 fc:Fc24 (m.map (·.1)) g.2.2.2
 nm:Over (1260*EA m) (2 ^ 3540) g.2.2.1
 kp:0≤at24 hd g.2.1 - at24 hd g.1+(g.2.2.1+dotT g.2.2.2 (M24 m))
theorem gj:17*2 ^ 3540+100*(20000*2520*2 ^ 3500)+8*(2*2 ^ 3537) < 2 ^ 3600:=by decide +kernel
theorem e24 {D:Int} (hD:D.natAbs≤2 ^ 3500):(1260*D).natAbs < 2 ^ 3600:=by
 rw [ib]
 exact iq (j9 _ hD) (by decide +kernel)
theorem bu {D:Int} {r:Rat} (hD:D.natAbs≤2 ^ 3500) (h:Over 60 6000000000 r):Over (1260*D) (2 ^ 3537) r:=by
 refine (h.dv (D':=1260*D) (q:=21*D) (by omega)).mono ?_
 rw [ib]
 exact iH (iP _ (j9 _ hD)) (by decide +kernel)
theorem bw {D:Int} (hD:D.natAbs≤2 ^ 3500) {hd:Pl24} (h:∀ p∈hd,Over 60 6000000000 p.2) (v:Nod):Over (1260*D) (2 ^ 3537) (at24 hd v):=by
  by_cases c:v∈hd.map (·.1)
  · obtain ⟨x,h1,h2⟩:=br c
    unfold at24
    rw [h1]
    exact bu hD (h _ h2)
  · have:dget hd v=none:=by
      cases q:dget hd v with
      | none=>rfl
      | some x=>exact absurd (eE.mp (by rw [q];rfl)) c
    unfold at24
    rw [this]
    exact Mst.Over.zero
theorem gk {m:List (Tx×Rat)} {fs:List (Tx×Rat)} (hD:(EA m).natAbs≤2 ^ 3500) (hm:∀ z∈m.map (·.1),dget m z=some (M24 m z)∧Over (EA m) (2 ^ 3500) (M24 m z)) (ml:m.length≤12) (hf:Fc24 (m.map (·.1)) fs):At24 (0,fs) m (M24 m) 1260 (EA m) 0 2520 (2 ^ 3500) 3600 where
 u0:=by decide
 d0:=IJ m
 hD:=e24 hD
 n4:=by decide
 hl:=by
  have:=Lu hf.rise (zs:=m.map (·.1)) fun x hx=>by
   obtain ⟨f,h1,rfl⟩:=hA.mp hx
   exact hf.sub f h1
  rw [gy,gy] at this
  show fs.length≤100
  omega
 hB:=by decide +kernel
 hW:=by decide +kernel
 hB1:=by decide +kernel
 hn:=Mst.Over.zero
 hf:=hf.ov
 hm:=fun f h=>hm _ (hf.sub f h)
theorem Gd24.all {gs:List Gap} {m:List (Tx×Rat)} {hd:Pl24} {zs:List Siz} (hm:Mkg zs m) (l7:(alln zs).length≤7) (nd:(alln zs).Nodup) (hh:∀ p∈hd,Over 60 6000000000 p.2) (hnd:(hd.map (·.1)).Nodup) (hl:hd.length≤1000) (gl:gs.length≤16) (h:∀ g∈gs,Gd24 m hd g):Cd24 gs m hd where
  c := by
    obtain ⟨hD,hM⟩:=mk24 hm l7
    have ml:m.length≤7:=by
      have:=congrArg List.length hm.keys
      rw [gy] at this
      omega
    exact { g := { len:=gl
                   zl:=by rw [gy];omega
                   u0:=by decide
                   e0:=Int.mul_pos (by decide) (IJ m)
                   n4:=by decide
                   hE:=e24 hD
                   hu:=by decide +kernel
                   hN:=by decide +kernel
                   hW:=by decide +kernel
                   nm:=fun g hg=>(h g hg).nm
                   rise:=fun g hg=>(h g hg).fc.rise
                   sub:=fun g hg=>(h g hg).fc.sub
                   fo:=fun g hg=>(h g hg).fc.ov }
            d0:=IJ m
            mkg:=hM
            big:=gj
            hB1:=by decide +kernel
            kept:=fun g hg=>(h g hg).kp
            hO:=fun v=>(bw hD hh v).mono (by omega) }
  hC:=fun v=>bw (mk24 hm l7).1 hh v
  hk:=fun x hx=>⟨(h x hx).k1,(h x hx).k2⟩
  hnd:=hnd
  hl:=hl
  mnd:=by rw [hm.keys];exact nd
theorem gm {hi lo s v:Rat}:hi - lo+(s - v - (hi - lo)+v)=s:=by grind
theorem ZC {n:Nat} {w:List Int} (h:Wl n w) (hn:n≤2 ^ 29):(GU w).To fun r=>Cd24 r.1.1 r.1.2.1 r.1.2.2:=by
  have p29:(2:Nat) ^ 29=536870912:=by decide
  have p30:(2:Nat) ^ 30=1073741824:=by decide
  have p31:(2:Nat) ^ 31=2147483648:=by decide
  have p37:(2:Nat) ^ 37=137438953472:=by decide
  have p38:(2:Nat) ^ 38=274877906944:=by decide
  have p39:(2:Nat) ^ 39=549755813888:=by decide
  have p40:(2:Nat) ^ 40=1099511627776:=by decide
  have b62:(2:Int) ^ 62=4611686018427387904:=by decide
  unfold GU
  refine To.b (AY h (by decide) (by decide) (by omega)) fun a ⟨a0,a1,ha⟩=>To.o (PP _) (To.b (AY ha (by decide) (by decide) (by omega)) fun b ⟨b0,b1,hb⟩=>?_)
  have by1:∃ by_:Rat,atI [(1:Rat),Nu.q (1+a.1) 1] (if decide (b.1=(1:Int))=true then (1:Int) else 0)=some by_∧By24 by_:=by
    split
    · exact ⟨_,rfl,1+a.1,by rw [qI24],by omega,by omega⟩
    · exact ⟨_,rfl,1,rfl,by decide,by decide⟩
  obtain ⟨by_,e1,hby⟩:=by1
  refine To.o e1 (To.v (To.b (AY hb (by decide) (by decide) (by omega)) fun k ⟨k0,k1,hk⟩=>?_))
  refine To.b (XP (N:=7) hk (by omega) (by omega) (by decide)) fun z ⟨z1,z2,z3,z4⟩=>?_
  dsimp only
  rw [bq hby z1 z2,EB,A3,A3]
  have so:=dW hby z1 z2
  have l7:(alln (z.1.map (sc24 by_))).length≤7:=by rw [LF];exact z3
  refine To.b (Z3 z4 (by omega) so) fun m ⟨hm',m2⟩=>To.v ?_
  have hm:Mkg (z.1.map (sc24 by_)) m.1:=hm'
  refine To.b (ff m2 (by omega)) fun f ⟨⟨f0,f1⟩,⟨f2,f3⟩,hf⟩=>To.v (To.v ?_)
  refine To.b (XO hf (by omega) (by dsimp only;omega) (by dsimp only;omega)) fun nds ⟨n0,n1,hn'⟩=>?_
  dsimp only at f0 f1 f2 f3 n1 ⊢
  obtain ⟨hD,hM⟩:=mk24 hm l7
  have ml:m.1.length≤7:=by
    have:=congrArg List.length hm.keys
    rw [gy] at this
    omega
  have mnd:(m.1.map (·.1)).Nodup:=by rw [hm.keys];exact so.nd
  have nl:nds.1.length≤6:=by omega
  refine To.loop (fun pre (s:Pl24×List Int)=>s.1.map (·.1)=pre∧(∀ p∈s.1,Over 60 6000000000 p.2)∧Wl (n+1200+2*pre.length) s.2) ⟨rfl,(fun p hp=>by cases hp),hn'.up (by omega)⟩ ?_ ?_
  · rintro pre x post ⟨s,q⟩ hp ⟨i1,i2,i3⟩ nx hnx
    dsimp only at i1 i2 i3
    have pl:pre.length < 6:=by
      have:=congrArg List.length hp
      rw [List.length_append,i7] at this
      omega
    have xn:x∉pre:=by
      rw [hp] at n0
      exact fun hx=>(iC.mp n0).2.2 x hx x gu rfl
    have sl:=congrArg List.length i1
    rw [gy] at sl
    unfold J6
    dsimp only
    refine To.b (QO i3 (by omega)) fun t ⟨t1,t2⟩=>?_
    have bt:Nu.Bd 62 t.1:=bd60 (Ff t1) (by decide) (by decide)
    rw [mul2 bt (U6 hby) (by decide),EB,A3]
    refine To.g (by omega) (hnx _ ⟨?_,fun p hp'=>?_,by rw [List.length_append];exact t2.up (by simp;omega)⟩)
    · dsimp only
      rw [Gf,if_neg (by rw [i1];exact xn),i1]
    · have e3:dput s x (t.1*by_)=s++[(x,t.1*by_)]:=by
        unfold dput
        rw [if_neg]
        simp only [j0,decide_eq_true_eq,not_exists,not_and]
        exact fun e he z'=>xn (by rw [← i1];exact hA.mpr ⟨e,he,z'⟩)
      dsimp only at hp'
      rw [e3] at hp'
      rcases hY.mp hp' with z' | z'
      · exact i2 p z'
      · rw [i6.mp z']
        exact JR (Ff t1) hby
  · rintro ⟨hd,q⟩ ⟨i1,i2,i3⟩
    dsimp only at i1 i2 i3
    have hl:hd.length=nds.1.length:=by rw [← i1,gy]
    have hnd:(hd.map (·.1)).Nodup:=by rw [i1];exact n0
    have hO:=fun v=>bw hD i2 v
    unfold J5
    refine To.g trivial (To.v (To.v (To.g ⟨by dsimp only;omega,by dsimp only;omega⟩ ?_)))
    dsimp only
    have sk:∀ v,v∈Cg (e2 eS eS) (List.map Prod.fst hd)↔v∈hd.map (·.1):=fun v=>(EI _ _).mem_iff
    have skl:(Cg (e2 eS eS) (List.map Prod.fst hd)).length=nds.1.length:=by rw [(EI _ _).length_eq,gy];exact hl
    refine To.loop (fun pre (s:List Gap×List Int)=>s.1.length=pre.length∧(∀ g∈s.1,Gd24 m.1 hd g)∧Wl (n+1300+20*pre.length) s.2) ⟨rfl,(fun g hg=>by cases hg),i3.up (by omega)⟩ ?_ ?_
    · rintro pre x post ⟨gs,v⟩ hp ⟨j1,j2,j3⟩ nx hnx
      dsimp only at j1 j2 j3
      have pl:pre.length < 16:=by
        have:=congrArg List.length hp
        rw [Ad,List.length_append,i7] at this
        omega
      unfold J4
      dsimp only
      refine To.b (AY j3 (by omega) (by omega) (by omega)) fun lo ⟨lo0,lo1,hlo⟩=>?_
      obtain ⟨g1,m1,e1⟩:=Dx (xs:=Cg (e2 eS eS) (List.map Prod.fst hd)) (i:=lo.1) lo0 (by omega)
      refine To.o e1 (To.v (To.b (AY hlo (by omega) (by omega) (by omega)) fun hi ⟨hi0,hi1,hhi⟩=>?_))
      obtain ⟨g2,m2',e2⟩:=Dx (xs:=Cg (e2 eS eS) (List.map Prod.fst hd)) (i:=hi.1) hi0 (by omega)
      refine To.o e2 (To.v (To.g (by omega) ?_))
      refine To.b (U7 (ks:=Dw (List.map Prod.fst m.1)) hhi (by omega) ((Dk _).nodup_iff.mpr mnd) (by rw [LC,gy];omega)) fun fs ⟨fc',hfs⟩=>To.v ?_
      have fc:Fc24 (m.1.map (·.1)) fs.1:=⟨fc'.rise,fun f hf=>(Dk _).mem_iff.mp (fc'.sub f hf),fc'.ov⟩
      dsimp only
      refine To.b (QO hfs (by omega)) fun t ⟨t1,t2⟩=>?_
      have bt:Nu.Bd 62 t.1:=bd60 (Ff t1) (by decide) (by decide)
      rw [mul2 bt (U6 hby) (by decide),EB,A3,A3]
      dsimp only
      have to:Over 60 6000000000 (t.1*by_):=JR (Ff t1) hby
      have ea:mkQ (if (t.1*by_).num < 0 then -(t.1*by_).num else (t.1*by_).num) (((t.1*by_).den:Nat):Int)=some (absQ (t.1*by_)):=by
        rw [← KM (absQ (t.1*by_)),JL,JM]
      refine To.o ea (To.b (AY t2 (by decide) (by decide) (by omega)) fun c ⟨c0,c1,hc⟩=>?_)
      have sl:∃ s:Rat,atI [(0:Rat),absQ (t.1*by_)] c.1=some s∧0≤s∧Over 60 6000000000 s:=by
        have c2:c.1=0∨c.1=1:=by omega
        rcases c2 with e | e
        · exact ⟨0,by rw [e];rfl,ie,Mst.Over.zero⟩
        · refine ⟨absQ (t.1*by_),by rw [e];rfl,jJ.mp (YB _),?_⟩
          unfold absQ
          split
          · exact to.neg
          · exact to
      obtain ⟨s,es,s0,so60⟩:=sl
      have sO:=bu hD so60
      have af:=gk hD hM (by omega) fc
      have vO:=af.over
      have E0:(0:Int) < 1260*EA m.1:=Int.mul_pos (by decide) (IJ _)
      have hE:=e24 hD
      have b1:=sO.bd E0 hE (n:=3600) (by decide +kernel)
      have b2:=vO.bd E0 hE (n:=3600) (by decide +kernel)
      have o3:=sO.sub vO
      have b3:=o3.bd E0 hE (n:=3600) (by decide +kernel)
      have b4:=(hO g2).bd E0 hE (n:=3600) (by decide +kernel)
      have b5:=(hO g1).bd E0 hE (n:=3600) (by decide +kernel)
      have o6:=(hO g2).sub (hO g1)
      have b6:=o6.bd E0 hE (n:=3600) (by decide +kernel)
      have o7:=o3.sub o6
      refine To.o es (To.v ?_)
      dsimp only
      rw [af.law,EB,A3,NX b1 b2 (by decide),EB,A3,A3,C9 ((sk g2).mp m2'),AS,A3,C9 ((sk g1).mp m1),AS,A3,NX b4 b5 (by decide),EB,A3,NX b3 b6 (by decide),EB,A3]
      refine To.g (by omega) (hnx _ ⟨by simp [j1],fun g hg=>?_,by rw [List.length_append];exact hc.up (by simp;omega)⟩)
      rcases hY.mp hg with z' | z'
      · exact j2 g z'
      · rw [i6.mp z']
        refine ⟨(sk g1).mp m1,(sk g2).mp m2',fc,?_,?_⟩
        · exact o7.mono (by decide +kernel)
        · show 0≤at24 hd g2 - at24 hd g1+(s - (0+dotT fs.1 (M24 m.1)) - (at24 hd g2 - at24 hd g1)+dotT fs.1 (M24 m.1))
          have e0:(0:Rat)+dotT fs.1 (M24 m.1)=dotT fs.1 (M24 m.1):=by grind
          rw [e0,gm]
          exact s0
    · rintro ⟨gs,v⟩ ⟨j1,j2,j3⟩
      unfold J3
      dsimp only at j1 j2
      rw [Ad] at j1
      exact .ok (Gd24.all hm l7 so.nd i2 hnd (show hd.length≤1000 by omega) (by show gs.length≤16;omega) j2)
theorem QP:∀ ns:List Int,ns.length≤63→Hg ns=.ok true:=by
 intro ns hns
 have key:(Hg ns).To fun b=>b=true:=by
  unfold Hg
  have b62:(2:Int) ^ 62=4611686018427387904:=by decide
  generalize hM:(if (if (4:Int) < (List.length ns:Int) then (4:Int) else (List.length ns:Int)) > (1:Int) then (if (4:Int) < (List.length ns:Int) then (4:Int) else (List.length ns:Int)) else (1:Int))=M
  have M0:1≤M∧M≤4:=by
   rw [← hM]
   constructor
   ·split <;> omega
   ·split <;> split <;> omega
  refine To.g ⟨by omega,by omega⟩ ?_
  refine To.loop (fun _ _=>True) trivial ?_ fun s _=>?_
  ·intro pre x post s hp _ nx hnx
   have hx:0≤x∧x < 4:=by
    have:=Ge.mp (show x∈Ah 0 (Int.toNat M) by rw [hp];simp)
    omega
   unfold Jm
   refine To.b (cn hx.1 (by omega)) fun w hw=>To.b (To.mE (ZC hw (by decide))) fun r hr=>To.v ?_
   rw [hr.c.right hr.hC hr.hk hr.hnd hr.hl hr.mnd,A3,if_neg (by decide)]
   exact hnx _ trivial
  ·unfold Jl
   have c0:Cs24 [] [] (at24 []) [] 1260 1 0 0 0 0 20:={ g:={ len:=by decide,zl:=by decide,u0:=by decide,e0:=by decide,n4:=by decide,hE:=by decide,hu:=by decide,hN:=by decide,hW:=by decide,nm:=(fun g hg=>by cases hg),rise:=(fun g hg=>by cases hg),sub:=(fun g hg=>by cases hg),fo:=(fun g hg=>by cases hg) },d0:=by decide,mkg:=(fun z hz=>by cases hz),big:=by decide,hB1:=by decide,kept:=(fun g hg=>by cases hg),hO:=fun v=>Mst.Over.zero }
   have t0:Top24 [] [] (1260*1) 0 (fun _=>0):=⟨fun _=>ie,fun _=>Mst.Over.zero,fun t ht=>by cases ht⟩
   obtain ⟨s0,es,k0,_⟩:=c0.least t0
   have nd0:BG []=[]:=by
    have:=NY []
    exact List.length_eq_zero_iff.mp (by simpa using this)
   rw [nd0] at k0
   have s00:s0=[]:=List.map_eq_nil_iff.mp k0
   rw [es,A3,s00]
   exact .ok rfl
 obtain ⟨v,e,rfl⟩:=key
 exact e
end
open PySem PySem.Spec L2 TL
namespace N24
abbrev kB(K:PySem.W.Frag):=(T3 K (T2 K (tD K eS) (tD K eS)) (T2 K (tD K eS) (tD K eS)) (T2 K (tD K eQ) (VP K (T2 K (tD K eS) (tD K eQ)))))
abbrev kC(K:PySem.W.Frag):=(T2 K (tD K eS) (tD K eS))
abbrev kD(K:PySem.W.Frag):=(T4 K (tD K eS) (tD K eQ) (tD K eQ) (VP K (T3 K (tD K eS) (tD K eQ) (tD K eS))))
abbrev kE(K:PySem.W.Frag):=(T2 K (tD K eQ) (VP K (T2 K (tD K eS) (tD K eQ))))
abbrev kF(K:PySem.W.Frag)(ω:World):=(DHT K ω (kn2 klS klS) (kC K) (tD K eQ))
abbrev kG(K:PySem.W.Frag):=(DT kS (tD K eQ))
abbrev kH(K:PySem.W.Frag):=(T2 K (tD K eS) (tD K eQ))
abbrev kI(K:PySem.W.Frag)(ω:World):=(OHT K ω (kn2 klS klS) (kC K) (tD K eQ))
abbrev kJ(K:PySem.W.Frag):=(T3 K (tD K eS) (tD K eQ) (tD K eS))
abbrev kK(K:PySem.W.Frag):=(LT K (kB K))
abbrev kL(K:PySem.W.Frag):=(LT K (SU (kK K) (kG K)))
abbrev kM:=(kn2 klS klS)
abbrev kN(K:PySem.W.Frag):=(VP K (tD K eI))
abbrev kO(K:PySem.W.Frag):=(VP K (kH K))
abbrev kP(K:PySem.W.Frag):=(LT K (tD K eI))
abbrev kQ(K:PySem.W.Frag):=(OLT (tD K eI))
abbrev kR(K:PySem.W.Frag):=(LT K (kD K))
abbrev kT(K:PySem.W.Frag):=(VP K (kJ K))
abbrev kU(K:PySem.W.Frag):=(OLT (tD K eS))
abbrev kW(K:PySem.W.Frag):=(LT K (kH K))
abbrev kX(K:PySem.W.Frag):=(LT K (tD K eS))
abbrev kY(K:PySem.W.Frag):=(OLT (kD K))
abbrev kZ(K:PySem.W.Frag):=(LT K (kC K))
def top (i:Nat):Stmt:=PySem.Challenge.pw_fitwhatever_k24_least_places.main.body.getD i (.Pass ⟨0,0,0,0⟩)
abbrev Cz:Stmt:=top 6
abbrev Lw:List Str:=["thing"]
theorem Vz:FnScope Lw ["thing"] (defScope Cz):=⟨rfl,rfl,rfl,by decide +kernel,rfl,by decide +kernel,by decide +kernel⟩
abbrev Er:Stmt:=top 7
abbrev QQ:List Str:=["one","other"]
theorem TR:FnScope QQ ["one","other"] (defScope Er):=⟨rfl,rfl,rfl,by decide +kernel,rfl,by decide +kernel,by decide +kernel⟩
abbrev CM:Stmt:=top 8
abbrev Ki:List Str:=["top","bottom","by"]
theorem Jr:FnScope Ki ["top","bottom"] (defScope CM):=⟨rfl,rfl,rfl,by decide +kernel,rfl,by decide +kernel,by decide +kernel⟩
abbrev J8:Stmt:=top 9
abbrev XQ:List Str:=["a","b"]
theorem dX:FnScope XQ ["a","b"] (defScope J8):=⟨rfl,rfl,rfl,by decide +kernel,rfl,by decide +kernel,by decide +kernel⟩
abbrev Gg:Stmt:=top 10
abbrev U8:List Str:=["a","b"]
theorem bx:FnScope U8 ["a","b"] (defScope Gg):=⟨rfl,rfl,rfl,by decide +kernel,rfl,by decide +kernel,by decide +kernel⟩
abbrev Gh:Stmt:=top 11
abbrev U9:List Str:=["a","b"]
theorem bz:FnScope U9 ["a","b"] (defScope Gh):=⟨rfl,rfl,rfl,by decide +kernel,rfl,by decide +kernel,by decide +kernel⟩
abbrev Dz:Stmt:=top 12
abbrev NZ:List Str:=["a","b"]
theorem XR:FnScope NZ ["a","b"] (defScope Dz):=⟨rfl,rfl,rfl,by decide +kernel,rfl,by decide +kernel,by decide +kernel⟩
abbrev EU:Stmt:=top 15
abbrev IK:List Str:=["number","pairs","factors","name","factor"]
theorem Hk:FnScope IK ["number","pairs"] (defScope EU):=⟨rfl,rfl,rfl,by decide +kernel,rfl,by decide +kernel,by decide +kernel⟩
abbrev D4:Stmt:=top 16
abbrev Lx:List Str:=["a","b"]
theorem W0:FnScope Lx ["a","b"] (defScope D4):=⟨rfl,rfl,rfl,by decide +kernel,rfl,by decide +kernel,by decide +kernel⟩
abbrev Es:Stmt:=top 17
abbrev QR:List Str:=["a","making","total","name","factor"]
theorem JS:FnScope QR ["a","making"] (defScope Es):=⟨rfl,rfl,rfl,by decide +kernel,rfl,by decide +kernel,by decide +kernel⟩
abbrev D5:Stmt:=top 19
abbrev Ly:List Str:=["gaps","nodes","low","high","apart"]
theorem H6:FnScope Ly ["gaps"] (defScope D5):=⟨rfl,rfl,rfl,by decide +kernel,rfl,by decide +kernel,by decide +kernel⟩
abbrev Av:Stmt:=top 20
abbrev FI:List Str:=["gaps","way","here","found","k"]
theorem Bv:FnScope FI ["gaps","way"] (defScope Av):=⟨rfl,rfl,rfl,by decide +kernel,rfl,by decide +kernel,by decide +kernel⟩
abbrev CN:Stmt:=top 21
abbrev Kj:List Str:=["gaps","found","k"]
theorem Js:FnScope Kj ["gaps"] (defScope CN):=⟨rfl,rfl,rfl,by decide +kernel,rfl,by decide +kernel,by decide +kernel⟩
abbrev CO:Stmt:=top 22
abbrev Kk:List Str:=["gaps","chain","total","k"]
theorem HM:FnScope Kk ["gaps","chain"] (defScope CO):=⟨rfl,rfl,rfl,by decide +kernel,rfl,by decide +kernel,by decide +kernel⟩
abbrev Et:Stmt:=top 25
abbrev Kl:List Str:=["gap","making","places","low","high","apart"]
theorem LG:FnScope Kl ["gap","making","places"] (defScope Et):=⟨rfl,rfl,rfl,by decide +kernel,rfl,by decide +kernel,by decide +kernel⟩
abbrev BK:Stmt:=top 26
abbrev IL:List Str:=["gaps","making","chain"]
theorem KD:FnScope IL ["gaps","making"] (defScope BK):=⟨rfl,rfl,rfl,by decide +kernel,rfl,by decide +kernel,by decide +kernel⟩
abbrev BL:Stmt:=top 27
abbrev IM:List Str:=["gaps","making","places","node","moved","gap","lacks"]
theorem Bm:FnScope IM ["gaps","making"] (defScope BL):=⟨rfl,rfl,rfl,by decide +kernel,rfl,by decide +kernel,by decide +kernel⟩
abbrev CP:Stmt:=top 29
abbrev Km:List Str:=["_law_script","_law_k","_law_cell"]
theorem Jt:FnScope Km ["_law_script","_law_k"] (defScope CP):=⟨rfl,rfl,rfl,by decide +kernel,rfl,by decide +kernel,by decide +kernel⟩
abbrev CQ:Stmt:=top 30
abbrev Kn:List Str:=["_law_well_here","_law_many","_law_digit","_law_turn","_law_number_here"]
theorem HN:FnScope Kn ["_law_well_here","_law_many"] (defScope CQ):=⟨rfl,rfl,rfl,by decide +kernel,rfl,by decide +kernel,by decide +kernel⟩
abbrev BX:Stmt:=top 31
abbrev J9:List Str:=["_law_one","_law_other"]
theorem Ko:FnScope J9 ["_law_one","_law_other"] (defScope BX):=⟨rfl,rfl,rfl,by decide +kernel,rfl,by decide +kernel,by decide +kernel⟩
abbrev D6:Stmt:=top 32
abbrev Lz:List Str:=["_law_top","_law_bottom","_law_by"]
theorem Io:FnScope Lz ["_law_top","_law_bottom"] (defScope D6):=⟨rfl,rfl,rfl,by decide +kernel,rfl,by decide +kernel,by decide +kernel⟩
abbrev D7:Stmt:=top 33
abbrev M3:List Str:=["_law_one","_law_other"]
theorem W1:FnScope M3 ["_law_one","_law_other"] (defScope D7):=⟨rfl,rfl,rfl,by decide +kernel,rfl,by decide +kernel,by decide +kernel⟩
abbrev D8:Stmt:=top 34
abbrev M4:List Str:=["_law_one","_law_other"]
theorem W2:FnScope M4 ["_law_one","_law_other"] (defScope D8):=⟨rfl,rfl,rfl,by decide +kernel,rfl,by decide +kernel,by decide +kernel⟩
abbrev CS:Stmt:=top 35
abbrev Kp:List Str:=["_law_one","_law_other"]
theorem UA:FnScope Kp ["_law_one","_law_other"] (defScope CS):=⟨rfl,rfl,rfl,by decide +kernel,rfl,by decide +kernel,by decide +kernel⟩
abbrev Bz:Stmt:=top 36
abbrev Ju:List Str:=["_law_one","_law_other"]
theorem RL:FnScope Ju ["_law_one","_law_other"] (defScope Bz):=⟨rfl,rfl,rfl,by decide +kernel,rfl,by decide +kernel,by decide +kernel⟩
abbrev Bf:Stmt:=top 38
abbrev HP:List Str:=["_law_well_here","_law_many","_law_k"]
theorem JA:FnScope HP ["_law_well_here","_law_many"] (defScope Bf):=⟨rfl,rfl,rfl,by decide +kernel,rfl,by decide +kernel,by decide +kernel⟩
abbrev CT:Stmt:=top 39
abbrev Kq:List Str:=["_law_well_here","_law_kind"]
theorem UC:FnScope Kq ["_law_well_here","_law_kind"] (defScope CT):=⟨rfl,rfl,rfl,by decide +kernel,rfl,by decide +kernel,by decide +kernel⟩
abbrev CU:Stmt:=top 40
abbrev Kr:List Str:=["_law_well_here","_law_kind","_law_wide_here"]
theorem Mp:FnScope Kr ["_law_well_here","_law_kind"] (defScope CU):=⟨rfl,rfl,rfl,by decide +kernel,rfl,by decide +kernel,by decide +kernel⟩
abbrev C0:Stmt:=top 41
abbrev Jv:List Str:=["_law_well_here","_law_many","_law_most","_law_kinds","_law_kind","_law_names_here","_law_sizes_here","_law_name","_law_least_here","_law_last","_law_shifts","_law_k","_law_room_here"]
theorem BY:FnScope Jv ["_law_well_here","_law_many","_law_most","_law_kinds"] (defScope C0):=⟨rfl,rfl,rfl,by decide +kernel,rfl,by decide +kernel,by decide +kernel⟩
abbrev CV:Stmt:=top 42
abbrev Ks:List Str:=["_law_size","_law_shift","_law_value_here","_law_name","_law_least_here","_law_last","_law_shifts","_law_one","_law_allowance","_law_way"]
theorem Cu:FnScope Ks ["_law_size","_law_shift","_law_value_here"] (defScope CV):=⟨rfl,rfl,rfl,by decide +kernel,rfl,by decide +kernel,by decide +kernel⟩
abbrev BZ:Stmt:=top 43
abbrev JB:List Str:=["_law_well_here","_law_sizes_here","_law_making_here","_law_size","_law_parts","_law_share","_law_shift","_law_allowance","_law_way"]
theorem Bg:FnScope JB ["_law_well_here","_law_sizes_here"] (defScope BZ):=⟨rfl,rfl,rfl,by decide +kernel,rfl,by decide +kernel,by decide +kernel⟩
abbrev DP:Stmt:=top 44
abbrev LH:List Str:=["_law_found","_law_due","_law_part"]
theorem M5:FnScope LH ["_law_found","_law_due"] (defScope DP):=⟨rfl,rfl,rfl,by decide +kernel,rfl,by decide +kernel,by decide +kernel⟩
abbrev BP:Stmt:=top 45
abbrev G7:List Str:=["_law_well_here","_law_many","_law_letters","_law_base","_law_k","_law_long","_law_spot","_law_first"]
theorem Ba:FnScope G7 ["_law_well_here","_law_many"] (defScope BP):=⟨rfl,rfl,rfl,by decide +kernel,rfl,by decide +kernel,by decide +kernel⟩
abbrev Bh:Stmt:=top 46
abbrev HQ:List Str:=["_law_well_here","_law_many","_law_left","_law_word","_law_k"]
theorem Eu:FnScope HQ ["_law_well_here","_law_many"] (defScope Bh):=⟨rfl,rfl,rfl,by decide +kernel,rfl,by decide +kernel,by decide +kernel⟩
abbrev D9:Stmt:=top 47
abbrev M6:List Str:=["_law_well_here"]
theorem W3:FnScope M6 ["_law_well_here"] (defScope D9):=⟨rfl,rfl,rfl,by decide +kernel,rfl,by decide +kernel,by decide +kernel⟩
abbrev C1:Stmt:=top 48
abbrev Jw:List Str:=["_law_well_here"]
theorem RM:FnScope Jw ["_law_well_here"] (defScope C1):=⟨rfl,rfl,rfl,by decide +kernel,rfl,by decide +kernel,by decide +kernel⟩
abbrev BM:Stmt:=top 49
abbrev Gi:List Str:=["_law_sizes_here","_law_by","_law_found","_law_name","_law_least_here","_law_last","_law_shifts","_law_more","_law_shift","_law_allowance","_law_way"]
theorem B2:FnScope Gi ["_law_sizes_here","_law_by"] (defScope BM):=⟨rfl,rfl,rfl,by decide +kernel,rfl,by decide +kernel,by decide +kernel⟩
abbrev C2:Stmt:=top 50
abbrev Jx:List Str:=["_law_total","_law_making_here","_law_found","_law_name","_law_factor"]
theorem Ew:FnScope Jx ["_law_total","_law_making_here"] (defScope C2):=⟨rfl,rfl,rfl,by decide +kernel,rfl,by decide +kernel,by decide +kernel⟩
abbrev BN:Stmt:=top 51
abbrev IP:List Str:=["_law_well_here","_law_names_here","_law_pairs","_law_name","_law_factor"]
theorem FJ:FnScope IP ["_law_well_here","_law_names_here"] (defScope BN):=⟨rfl,rfl,rfl,by decide +kernel,rfl,by decide +kernel,by decide +kernel⟩
abbrev CW:Stmt:=top 52
abbrev Kt:List Str:=["_law_well_here","_law_by","_law_sizes_here","_law_making_here","_law_nodes_here","_law_many","_law_hidden","_law_node","_law_some_here","_law_gaps","_law_k","_law_low","_law_high","_law_pairs","_law_slack","_law_number_here"]
theorem Ae:FnScope Kt ["_law_well_here"] (defScope CW):=⟨rfl,rfl,rfl,by decide +kernel,rfl,by decide +kernel,by decide +kernel⟩
abbrev C3:Stmt:=top 53
abbrev Jy:List Str:=["_law_gaps","_law_making_here","_law_places","_law_low","_law_high","_law_total","_law_turn","_law_due"]
theorem Bb:FnScope Jy ["_law_gaps","_law_making_here"] (defScope C3):=⟨rfl,rfl,rfl,by decide +kernel,rfl,by decide +kernel,by decide +kernel⟩
abbrev DA:Stmt:=top 54
abbrev IR:List Str:=["_law_gap_here","_law_making_here","_law_places"]
theorem W4:FnScope IR ["_law_gap_here","_law_making_here","_law_places"] (defScope DA):=⟨rfl,rfl,rfl,by decide +kernel,rfl,by decide +kernel,by decide +kernel⟩
abbrev Bi:Stmt:=top 55
abbrev HR:List Str:=["_law_gaps","_law_making_here","_law_hidden","_law_due","_law_handed","_law_found","_law_node","_law_least_here","_law_moved","_law_gap_here","_law_places","_law_told"]
theorem Ai:FnScope HR ["_law_gaps","_law_making_here","_law_hidden"] (defScope Bi):=⟨rfl,rfl,rfl,by decide +kernel,rfl,by decide +kernel,by decide +kernel⟩
abbrev LR:Stmt:=top 56
abbrev c9:List Str:=["_law_script","_law_k","_law_gaps","_law_making_here","_law_hidden"]
theorem QS:FnScope c9 ["_law_script"] (defScope LR):=⟨rfl,rfl,rfl,by decide +kernel,rfl,by decide +kernel,by decide +kernel⟩
def EV (K:jf) (ω:World):Sp:=spP K (τ:=Int×Unit) (fun t=>[(tD K eI) t.1]) (fun t=>FO t.1) (fun r=>.ok ((tD K eB) r))
abbrev QT (K:jf) (ω:World) (X:XK) (Q:VK) (D0:Own):Wish K Unit (Bool):=dwish K X Q (fun r=>.ok ((tD K eB) r)) (fun _=>D0) (fun _:Unit=>D0)
def Hl (K:jf) (ω:World):Sp:=spP K (τ:=Int×Int×Unit) (fun t=>[(tD K eI) t.1,(tD K eI) t.2.1]) (fun t=>KU t.1 t.2.1) (fun r=>.ok ((tD K eI) r))
abbrev Mq (K:jf) (ω:World) (X:XK) (Q:VK) (D0:Own):Wish K Unit (Int):=dwish K X Q (fun r=>.ok ((tD K eI) r)) (fun _=>D0) (fun _:Unit=>D0)
def BQ (K:jf) (ω:World):Sp:=spP K (τ:=Int×Int×Unit) (fun t=>[(tD K eI) t.1,(tD K eI) t.2.1]) (fun t=>DY t.1 t.2.1) (fun r=>.ok ((tD K eQ) r))
abbrev Dh (K:jf) (ω:World) (X:XK) (Q:VK) (D0:Own):Wish K Unit (Rat):=dwish K X Q (fun r=>.ok ((tD K eQ) r)) (fun _=>D0) (fun _:Unit=>D0)
def Do (K:jf) (ω:World):Sp:=spP K (τ:=Rat×Rat×Unit) (fun t=>[(tD K eQ) t.1,(tD K eQ) t.2.1]) (fun t=>GQ t.1 t.2.1) (fun r=>.ok ((tD K eQ) r))
abbrev cA (K:jf) (ω:World) (X:XK) (Q:VK) (D0:Own):Wish K Unit (Rat):=dwish K X Q (fun r=>.ok ((tD K eQ) r)) (fun _=>D0) (fun _:Unit=>D0)
def G8 (K:jf) (ω:World):Sp:=spP K (τ:=Rat×Rat×Unit) (fun t=>[(tD K eQ) t.1,(tD K eQ) t.2.1]) (fun t=>Jf t.1 t.2.1) (fun r=>.ok ((tD K eQ) r))
abbrev YS (K:jf) (ω:World) (X:XK) (Q:VK) (D0:Own):Wish K Unit (Rat):=dwish K X Q (fun r=>.ok ((tD K eQ) r)) (fun _=>D0) (fun _:Unit=>D0)
def JT (K:jf) (ω:World):Sp:=spP K (τ:=Rat×Rat×Unit) (fun t=>[(tD K eQ) t.1,(tD K eQ) t.2.1]) (fun t=>L6 t.1 t.2.1) (fun r=>.ok ((tD K eQ) r))
abbrev YT (K:jf) (ω:World) (X:XK) (Q:VK) (D0:Own):Wish K Unit (Rat):=dwish K X Q (fun r=>.ok ((tD K eQ) r)) (fun _=>D0) (fun _:Unit=>D0)
def Dq (K:jf) (ω:World):Sp:=spP K (τ:=Rat×Rat×Unit) (fun t=>[(tD K eQ) t.1,(tD K eQ) t.2.1]) (fun t=>GS t.1 t.2.1) (fun r=>.ok ((tD K eB) r))
abbrev TV (K:jf) (ω:World) (X:XK) (Q:VK) (D0:Own):Wish K Unit (Bool):=dwish K X Q (fun r=>.ok ((tD K eB) r)) (fun _=>D0) (fun _:Unit=>D0)
def Ku (K:jf) (ω:World):Sp:=spP K (τ:=Rat×jh×Unit) (fun t=>[(tD K eQ) t.1,(kW K) t.2.1]) (fun t=>Ce t.1 t.2.1) (fun r=>.ok ((kE K) r))
abbrev IS (K:jf) (ω:World) (X:XK) (Q:VK) (D0:Own):Wish K Unit ((Rat×jh)):=dwish K X Q (fun r=>.ok ((kE K) r)) (fun _=>D0) (fun _:Unit=>D0)
def Kv (K:jf) (ω:World):Sp:=spP K (τ:=Rat×jh×Unit) (fun t=>[(tD K eQ) t.1,(kO K) t.2.1]) (fun t=>Ce t.1 t.2.1) (fun r=>.ok ((kE K) r))
abbrev IT (K:jf) (ω:World) (X:XK) (Q:VK) (D0:Own):Wish K Unit ((Rat×jh)):=dwish K X Q (fun r=>.ok ((kE K) r)) (fun _=>D0) (fun _:Unit=>D0)
def Kw (K:jf) (ω:World):Sp:=spP K (τ:=Rat×jh×Unit) (fun t=>[(tD K eQ) t.1,(kW K) t.2.1]) (fun t=>Ce t.1 t.2.1) (fun r=>.ok ((kE K) r))
abbrev IU (K:jf) (ω:World) (X:XK) (Q:VK) (D0:Own):Wish K Unit ((Rat×jh)):=dwish K X Q (fun r=>.ok ((kE K) r)) (fun _=>D0) (fun _:Unit=>D0)
def Ee (K:jf) (ω:World):Sp:=fun vs H Q X=>Ku K ω vs H Q X∨Kv K ω vs H Q X∨Kw K ω vs H Q X
def Fg (K:jf) (ω:World):Sp:=spP K (τ:=(Rat×jh)×(Rat×jh)×Unit) (fun t=>[(kE K) t.1,(kE K) t.2.1]) (fun t=>GR t.1 t.2.1) (fun r=>.ok ((kE K) r))
abbrev QU (K:jf) (ω:World) (X:XK) (Q:VK) (D0:Own):Wish K Unit ((Rat×jh)):=dwish K X Q (fun r=>.ok ((kE K) r)) (fun _=>D0) (fun _:Unit=>D0)
def Ef (K:jf) (ω:World):Sp:=spP K (τ:=(Rat×jh)×jh×Unit) (fun t=>[(kE K) t.1,(kG K) t.2.1]) (fun t=>Hx t.1 t.2.1) (fun r=>.ok ((tD K eQ) r))
abbrev IV (K:jf) (ω:World) (X:XK) (Q:VK) (D0:Own):Wish K Unit (Rat):=dwish K X Q (fun r=>.ok ((tD K eQ) r)) (fun _=>D0) (fun _:Unit=>D0)
def Fh (K:jf) (ω:World):Sp:=spP K (τ:=(List jg)×Unit) (fun t=>[(kK K) t.1]) (fun t=>GT t.1) (fun r=>.ok ((kZ K) r))
abbrev IW (K:jf) (ω:World) (X:XK) (Q:VK) (D0:Own):Wish K Unit (jz):=dwish K X Q (fun r=>.ok ((kZ K) r)) (fun _=>D0) (fun _:Unit=>D0)
def BS (m:Nat) (K:jf) (ω:World):Sp:=spP K (τ:=(List jg)×(List Int)×Unit) (fun t=>[(kK K) t.1,(kP K) t.2.1]) (fun t=>CD m t.1 t.2.1) (fun r=>.ok ((LT K (kN K)) r))
def Eg (K:jf) (ω:World):Sp:=BS 24 K ω
abbrev An (K:jf) (ω:World) (X:XK) (Q:VK) (D0:Own):Wish K Unit (jl):=dwish K X Q (fun r=>.ok ((LT K (kN K)) r)) (fun _=>D0) (fun _:Unit=>D0)
def Eh (K:jf) (ω:World):Sp:=spP K (τ:=(List jg)×Unit) (fun t=>[(kK K) t.1]) (fun t=>EK t.1) (fun r=>.ok ((LT K (kN K)) r))
abbrev H7 (K:jf) (ω:World) (X:XK) (Q:VK) (D0:Own):Wish K Unit (jl):=dwish K X Q (fun r=>.ok ((LT K (kN K)) r)) (fun _=>D0) (fun _:Unit=>D0)
def Ei (K:jf) (ω:World):Sp:=spP K (τ:=(List jg)×(List Int)×Unit) (fun t=>[(kK K) t.1,(kN K) t.2.1]) (fun t=>FY t.1 t.2.1) (fun r=>.ok ((kE K) r))
abbrev H8 (K:jf) (ω:World) (X:XK) (Q:VK) (D0:Own):Wish K Unit ((Rat×jh)):=dwish K X Q (fun r=>.ok ((kE K) r)) (fun _=>D0) (fun _:Unit=>D0)
def Kx (K:jf) (ω:World):Sp:=spR K (τ:=jg×jh×(Addr×ji)×Unit) (fun t=>[(kB K) t.1,(kG K) t.2.1,Is (.ref t.2.2.1.1)]) (fun t D=>RdC D t.2.2.1.1 ((kI K ω) t.2.2.1.2)∧True) (fun t=>EL t.1 t.2.1 t.2.2.1.2) (fun r=>.ok ((tD K eQ) r))
abbrev M7 (K:jf) (ω:World) (X:XK) (Q:VK) (D0:Own):Wish K Unit (Rat):=dwish K X Q (fun r=>.ok ((tD K eQ) r)) (fun _=>D0) (fun _:Unit=>D0)
def Ky (K:jf) (ω:World):Sp:=spP K (τ:=jg×jh×ji×Unit) (fun t=>[(kB K) t.1,(kG K) t.2.1,(kF K ω) t.2.2.1]) (fun t=>EL t.1 t.2.1 t.2.2.1) (fun r=>.ok ((tD K eQ) r))
abbrev M8 (K:jf) (ω:World) (X:XK) (Q:VK) (D0:Own):Wish K Unit (Rat):=dwish K X Q (fun r=>.ok ((tD K eQ) r)) (fun _=>D0) (fun _:Unit=>D0)
def DR (K:jf) (ω:World):Sp:=fun vs H Q X=>Kx K ω vs H Q X∨Ky K ω vs H Q X
def Cm (K:jf) (ω:World):Sp:=spP K (τ:=(List jg)×jh×Unit) (fun t=>[(kK K) t.1,(kG K) t.2.1]) (fun t=>DL t.1 t.2.1) (fun r=>.ok ((tD K eU) r))
abbrev IX (K:jf) (ω:World) (X:XK) (Q:VK) (D0:Own):Wish K Unit (Unit):=dwish K X Q (fun r=>.ok ((tD K eU) r)) (fun _=>D0) (fun _:Unit=>D0)
def B6 (K:jf) (ω:World):Sp:=spP K (τ:=(List jg)×jh×Unit) (fun t=>[(kK K) t.1,(kG K) t.2.1]) (fun t=>C8 t.1 t.2.1) (fun r=>.new ((kI K ω) r))
abbrev Ab (K:jf) (ω:World) (X:XK) (Q:VK) (D0:Own):Wish K Unit (ji):=dwish K X Q (fun r=>.new ((kI K ω) r)) (fun _=>D0) (fun _:Unit=>D0)
def Ej (K:jf) (ω:World):Sp:=spP K (τ:=(List Int)×Int×Unit) (fun t=>[(kP K) t.1,(tD K eI) t.2.1]) (fun t=>NP t.1 t.2.1) (fun r=>.new ((kQ K) r))
abbrev Fi (K:jf) (ω:World) (X:XK) (Q:VK) (D0:Own):Wish K Unit ((List Int)):=dwish K X Q (fun r=>.new ((kQ K) r)) (fun _=>D0) (fun _:Unit=>D0)
def A8 (K:jf) (ω:World):Sp:=spC K (τ:=Unit×Int×Unit) (kQ K) (fun a t=>[Is (.ref a),(tD K eI) t.2.1]) (fun t y=>Au y t.2.1) (fun r=>.ok ((tD K eI) r))
abbrev Cv (K:jf) (ω:World) (X:XK) (Q:VK) (Dp:(List Int)→Own):Wish K (List Int) kA:=dwish K X Q (fun r:Int×(List Int)=>(fun r=>.ok ((tD K eI) r)) r.1) (fun r=>Dp r.2) Dp
def DU (K:jf) (ω:World):Sp:=spP K (τ:=Int×Int×Unit) (fun t=>[(tD K eI) t.1,(tD K eI) t.2.1]) (fun t=>Hw t.1 t.2.1) (fun r=>.ok ((tD K eI) r))
abbrev Gj (K:jf) (ω:World) (X:XK) (Q:VK) (D0:Own):Wish K Unit (Int):=dwish K X Q (fun r=>.ok ((tD K eI) r)) (fun _=>D0) (fun _:Unit=>D0)
def Ac (K:jf) (ω:World):Sp:=spP K (τ:=Int×Int×Unit) (fun t=>[(tD K eI) t.1,(tD K eI) t.2.1]) (fun t=>KB t.1 t.2.1) (fun r=>.ok ((tD K eQ) r))
abbrev FR (K:jf) (ω:World) (X:XK) (Q:VK) (D0:Own):Wish K Unit (Rat):=dwish K X Q (fun r=>.ok ((tD K eQ) r)) (fun _=>D0) (fun _:Unit=>D0)
def AW (K:jf) (ω:World):Sp:=spP K (τ:=Rat×Rat×Unit) (fun t=>[(tD K eQ) t.1,(tD K eQ) t.2.1]) (fun t=>Hz t.1 t.2.1) (fun r=>.ok ((tD K eQ) r))
abbrev QV (K:jf) (ω:World) (X:XK) (Q:VK) (D0:Own):Wish K Unit (Rat):=dwish K X Q (fun r=>.ok ((tD K eQ) r)) (fun _=>D0) (fun _:Unit=>D0)
def Af (K:jf) (ω:World):Sp:=spP K (τ:=Rat×Rat×Unit) (fun t=>[(tD K eQ) t.1,(tD K eQ) t.2.1]) (fun t=>Hy t.1 t.2.1) (fun r=>.ok ((tD K eQ) r))
abbrev QW (K:jf) (ω:World) (X:XK) (Q:VK) (D0:Own):Wish K Unit (Rat):=dwish K X Q (fun r=>.ok ((tD K eQ) r)) (fun _=>D0) (fun _:Unit=>D0)
def AM (K:jf) (ω:World):Sp:=spP K (τ:=Rat×Rat×Unit) (fun t=>[(tD K eQ) t.1,(tD K eQ) t.2.1]) (fun t=>EJ t.1 t.2.1) (fun r=>.ok ((tD K eQ) r))
abbrev OR (K:jf) (ω:World) (X:XK) (Q:VK) (D0:Own):Wish K Unit (Rat):=dwish K X Q (fun r=>.ok ((tD K eQ) r)) (fun _=>D0) (fun _:Unit=>D0)
def BO (K:jf) (ω:World):Sp:=spP K (τ:=Rat×Rat×Unit) (fun t=>[(tD K eQ) t.1,(tD K eQ) t.2.1]) (fun t=>Ji t.1 t.2.1) (fun r=>.ok ((tD K eB) r))
abbrev Ms (K:jf) (ω:World) (X:XK) (Q:VK) (D0:Own):Wish K Unit (Bool):=dwish K X Q (fun r=>.ok ((tD K eB) r)) (fun _=>D0) (fun _:Unit=>D0)
def E1 (K:jf) (ω:World):Sp:=spC K (τ:=Unit×Int×Unit) (kQ K) (fun a t=>[Is (.ref a),(tD K eI) t.2.1]) (fun t y=>Fb y t.2.1) (fun r=>.new ((kU K) r))
abbrev Mu (K:jf) (ω:World) (X:XK) (Q:VK) (Dp:(List Int)→Own):Wish K (List Int) ju:=dwish K X Q (fun r:(List Tx)×(List Int)=>(fun r=>.new ((kU K) r)) r.1) (fun r=>Dp r.2) Dp
def CL (K:jf) (ω:World):Sp:=spC K (τ:=Unit×Int×Unit) (kQ K) (fun a t=>[Is (.ref a),(tD K eI) t.2.1]) (fun t y=>Jg y t.2.1) (fun r=>.ok ((tD K eQ) r))
abbrev Di (K:jf) (ω:World) (X:XK) (Q:VK) (Dp:(List Int)→Own):Wish K (List Int) jy:=dwish K X Q (fun r:Rat×(List Int)=>(fun r=>.ok ((tD K eQ) r)) r.1) (fun r=>Dp r.2) Dp
def Dt (K:jf) (ω:World):Sp:=spC K (τ:=Unit×Int×Unit) (kQ K) (fun a t=>[Is (.ref a),(tD K eI) t.2.1]) (fun t y=>Jh y t.2.1) (fun r=>.ok ((tD K eQ) r))
abbrev H9 (K:jf) (ω:World) (X:XK) (Q:VK) (Dp:(List Int)→Own):Wish K (List Int) jy:=dwish K X Q (fun r:Rat×(List Int)=>(fun r=>.ok ((tD K eQ) r)) r.1) (fun r=>Dp r.2) Dp
def E2 (K:jf) (ω:World):Sp:=spC K (τ:=Unit×Int×Int×Int×Unit) (kQ K) (fun a t=>[Is (.ref a),(tD K eI) t.2.1,(tD K eI) t.2.2.1,(tD K eI) t.2.2.2.1]) (fun t y=>Fd y t.2.1 t.2.2.1 t.2.2.2.1) (fun r=>.ok ((kR K) r))
abbrev Am (K:jf) (ω:World) (X:XK) (Q:VK) (Dp:(List Int)→Own):Wish K (List Int) jv:=dwish K X Q (fun r:(List jj)×(List Int)=>(fun r=>.ok ((kR K) r)) r.1) (fun r=>Dp r.2) Dp
def Ek (K:jf) (ω:World):Sp:=spP K (τ:=jj×Tx×Rat×Unit) (fun t=>[(kD K) t.1,(tD K eS) t.2.1,(tD K eQ) t.2.2.1]) (fun t=>Lh t.1 t.2.1 t.2.2.1) (fun r=>.ok ((OpT K (tD K eQ)) r))
abbrev CY (K:jf) (ω:World) (X:XK) (Q:VK) (D0:Own):Wish K Unit ((Option Rat)):=dwish K X Q (fun r=>.ok ((OpT K (tD K eQ)) r)) (fun _=>D0) (fun _:Unit=>D0)
def DV (K:jf) (ω:World):Sp:=spC K (τ:=Unit×(List jj)×Unit) (kQ K) (fun a t=>[Is (.ref a),(kR K) t.2.1]) (fun t y=>JK y t.2.1) (fun r=>.ok ((kG K) r))
abbrev Bc (K:jf) (ω:World) (X:XK) (Q:VK) (Dp:(List Int)→Own):Wish K (List Int) jo:=dwish K X Q (fun r:jh×(List Int)=>(fun r=>.ok ((kG K) r)) r.1) (fun r=>Dp r.2) Dp
def FS (K:jf) (ω:World):Sp:=spP K (τ:=Rat×Rat×Unit) (fun t=>[(tD K eQ) t.1,(tD K eQ) t.2.1]) (fun t=>l_is t.1 t.2.1) (fun r=>.ok ((tD K eB) r))
abbrev LI (K:jf) (ω:World) (X:XK) (Q:VK) (D0:Own):Wish K Unit (Bool):=dwish K X Q (fun r=>.ok ((tD K eB) r)) (fun _=>D0) (fun _:Unit=>D0)
def E3 (K:jf) (ω:World):Sp:=spC K (τ:=Unit×Int×Unit) (kQ K) (fun a t=>[Is (.ref a),(tD K eI) t.2.1]) (fun t y=>L8 y t.2.1) (fun r=>.ok ((kX K) r))
abbrev Du (K:jf) (ω:World) (X:XK) (Q:VK) (Dp:(List Int)→Own):Wish K (List Int) ju:=dwish K X Q (fun r:(List Tx)×(List Int)=>(fun r=>.ok ((kX K) r)) r.1) (fun r=>Dp r.2) Dp
def E4 (K:jf) (ω:World):Sp:=spC K (τ:=Unit×Int×Unit) (kQ K) (fun a t=>[Is (.ref a),(tD K eI) t.2.1]) (fun t y=>L9 y t.2.1) (fun r=>.ok ((kZ K) r))
abbrev G9 (K:jf) (ω:World) (X:XK) (Q:VK) (Dp:(List Int)→Own):Wish K (List Int) jm:=dwish K X Q (fun r:jz×(List Int)=>(fun r=>.ok ((kZ K) r)) r.1) (fun r=>Dp r.2) Dp
def Fj (K:jf) (ω:World):Sp:=spC K (τ:=Unit×Unit) (kQ K) (fun a t=>[Is (.ref a)]) (fun t y=>Su y) (fun r=>.ok ((T2 K (tD K eI) (tD K eI)) r))
abbrev Jz (K:jf) (ω:World) (X:XK) (Q:VK) (Dp:(List Int)→Own):Wish K (List Int) k7:=dwish K X Q (fun r:(Int×Int)×(List Int)=>(fun r=>.ok ((T2 K (tD K eI) (tD K eI)) r)) r.1) (fun r=>Dp r.2) Dp
def DC (K:jf) (ω:World):Sp:=spC K (τ:=Unit×Unit) (kQ K) (fun a t=>[Is (.ref a)]) (fun t y=>EM y) (fun r=>.ok ((tD K eQ) r))
abbrev Mv (K:jf) (ω:World) (X:XK) (Q:VK) (Dp:(List Int)→Own):Wish K (List Int) jy:=dwish K X Q (fun r:Rat×(List Int)=>(fun r=>.ok ((tD K eQ) r)) r.1) (fun r=>Dp r.2) Dp
def DW (K:jf) (ω:World):Sp:=spP K (τ:=(List jj)×Rat×Unit) (fun t=>[(kR K) t.1,(tD K eQ) t.2.1]) (fun t=>Ec t.1 t.2.1) (fun r=>.ok ((kR K) r))
abbrev E5 (K:jf) (ω:World) (X:XK) (Q:VK) (D0:Own):Wish K Unit ((List jj)):=dwish K X Q (fun r=>.ok ((kR K) r)) (fun _=>D0) (fun _:Unit=>D0)
def B7 (K:jf) (ω:World):Sp:=spP K (τ:=(Rat×jh)×jh×Unit) (fun t=>[(kE K) t.1,(kG K) t.2.1]) (fun t=>Dc t.1 t.2.1) (fun r=>.ok ((tD K eQ) r))
abbrev GA (K:jf) (ω:World) (X:XK) (Q:VK) (D0:Own):Wish K Unit (Rat):=dwish K X Q (fun r=>.ok ((tD K eQ) r)) (fun _=>D0) (fun _:Unit=>D0)
def Cn (K:jf) (ω:World):Sp:=spC K (τ:=Unit×(List Tx)×Unit) (kQ K) (fun a t=>[Is (.ref a),(kX K) t.2.1]) (fun t y=>Hf y t.2.1) (fun r=>.ok ((kO K) r))
abbrev CA (K:jf) (ω:World) (X:XK) (Q:VK) (Dp:(List Int)→Own):Wish K (List Int) jo:=dwish K X Q (fun r:jh×(List Int)=>(fun r=>.ok ((kO K) r)) r.1) (fun r=>Dp r.2) Dp
def El (K:jf) (ω:World):Sp:=spC K (τ:=Unit×Unit) (kQ K) (fun a t=>[Is (.ref a)]) (fun t y=>GU y) (fun r=>.ok ((T3 K (kK K) (kG K) (kF K ω)) r))
abbrev Ag (K:jf) (ω:World) (X:XK) (Q:VK) (Dp:(List Int)→Own):Wish K (List Int) jt:=dwish K X Q (fun r:((List jg)×jh×ji)×(List Int)=>(fun r=>.ok ((T3 K (kK K) (kG K) (kF K ω)) r)) r.1) (fun r=>Dp r.2) Dp
def E6 (K:jf) (ω:World):Sp:=spP K (τ:=(List jg)×jh×Unit) (fun t=>[(kK K) t.1,(kG K) t.2.1]) (fun t=>LA t.1 t.2.1) (fun r=>.ok ((kF K ω) r))
abbrev BR (K:jf) (ω:World) (X:XK) (Q:VK) (D0:Own):Wish K Unit (ji):=dwish K X Q (fun r=>.ok ((kF K ω) r)) (fun _=>D0) (fun _:Unit=>D0)
def JC (K:jf) (ω:World):Sp:=spR K (τ:=jg×jh×(Addr×ji)×Unit) (fun t=>[(kB K) t.1,(kG K) t.2.1,Is (.ref t.2.2.1.1)]) (fun t D=>RdC D t.2.2.1.1 ((kI K ω) t.2.2.1.2)∧True) (fun t=>LP t.1 t.2.1 t.2.2.1.2) (fun r=>.ok ((tD K eQ) r))
abbrev Mw (K:jf) (ω:World) (X:XK) (Q:VK) (D0:Own):Wish K Unit (Rat):=dwish K X Q (fun r=>.ok ((tD K eQ) r)) (fun _=>D0) (fun _:Unit=>D0)
def JD (K:jf) (ω:World):Sp:=spP K (τ:=jg×jh×ji×Unit) (fun t=>[(kB K) t.1,(kG K) t.2.1,(kF K ω) t.2.2.1]) (fun t=>LP t.1 t.2.1 t.2.2.1) (fun r=>.ok ((tD K eQ) r))
abbrev My (K:jf) (ω:World) (X:XK) (Q:VK) (D0:Own):Wish K Unit (Rat):=dwish K X Q (fun r=>.ok ((tD K eQ) r)) (fun _=>D0) (fun _:Unit=>D0)
def EW (K:jf) (ω:World):Sp:=fun vs H Q X=>JC K ω vs H Q X∨JD K ω vs H Q X
def E7 (K:jf) (ω:World):Sp:=spP K (τ:=(List jg)×jh×ji×Unit) (fun t=>[(kK K) t.1,(kG K) t.2.1,(kF K ω) t.2.2.1]) (fun t=>EN t.1 t.2.1 t.2.2.1) (fun r=>.ok ((tD K eB) r))
abbrev AJ (K:jf) (ω:World) (X:XK) (Q:VK) (D0:Own):Wish K Unit (Bool):=dwish K X Q (fun r=>.ok ((tD K eB) r)) (fun _=>D0) (fun _:Unit=>D0)
abbrev QX (K:jf) (ω:World):Sp:=SR K
abbrev TX (K:jf) (ω:World) (X:XK) (Q:VK) (D0:Own):Wish K Unit (Bool):=dwish K X Q (fun r=>.ok ((tD K eB) r)) (fun _=>D0) (fun _:Unit=>D0)
structure Txt (K:jf) (mg:Str→Option Value):Prop where
 b_abs:mg "abs"=none
 b_bool:mg "bool"=none
 b_dict:mg "dict"=none
 b_int:mg "int"=none
 b_isinstance:mg "isinstance"=none
 b_len:mg "len"=none
 b_list:mg "list"=none
 b_max:mg "max"=none
 b_min:mg "min"=none
 b_range:mg "range"=none
 b_set:mg "set"=none
 b_sorted:mg "sorted"=none
 b_tuple:mg "tuple"=none
 c_NOUGHT:Fq K (.ref (He.ga K "NOUGHT")) (.tuple [.int (0),.int (1)])=true
 c_ZERO:Fq K (.ref (He.ga K "ZERO")) (.tuple [.int (0),.int (1)])=true
 e_NoNumber:ExOk K (He.ga K "NoNumber")
 e_NoSum:ExOk K (He.ga K "NoSum")
 g_NOUGHT:mg "NOUGHT"=some (.ref (He.ga K "NOUGHT"))
 g_NoNumber:mg "NoNumber"=some (.ref (He.ga K "NoNumber"))
 g_NoSum:mg "NoSum"=some (.ref (He.ga K "NoSum"))
 g_ZERO:mg "ZERO"=some (.ref (He.ga K "ZERO"))
def K0 (K:jf) (ω:World) (X:XK):TS:=
 (tRet (tAndV (tCB (cIsi K) (tCons (tVar 0) (tCons (tC (.ty "int")) tNil))) (tNotV (tCB (cIsi K) (tCons (tVar 0) (tCons (tC (.ty "bool")) tNil))))))
def Mz (K:jf) (ω:World) (X:XK):TS:=
 (tSeq (tWhile (tTest (tOp (qNe K) (tVar 1) (tC (.int 0))))
 (tPar 0 1 (tCons (tVar 1) (tCons (tOp Nv (tVar 0) (tVar 1)) tNil))))
 (tRet (tCB cAbs (tCons (tVar 0) tNil))))
def Ip (K:jf) (ω:World) (X:XK):TS:=
 (tSeq (tIfS (tOr (tNot (tB (tCall (EV K ω) [] X (tCons (tVar 0) tNil)))) (tOr (tNot (tB (tCall (EV K ω) [] X (tCons (tVar 1) tNil)))) (tTest (tOp (qEq K) (tVar 1) (tC (.int 0))))))
 (P8 (He.ga K "NoNumber") X)
 tNext)
 (tSeq (tAsg (tCall (Hl K ω) [] X (tCons (tVar 0) (tCons (tVar 1) tNil))) (gName 2))
 (tSeq (tIfS (tTest (tOp rLtI (tVar 1) (tC (.int 0))))
 (tAsg (tOp K9 (tC (.int 0)) (tVar 2)) (gName 2))
 tNext)
 (tRet (BJ (tCons (tOp Nt (tVar 0) (tVar 2)) (tCons (tOp Nt (tVar 1) (tVar 2)) tNil)))))))
def UD (K:jf) (ω:World) (X:XK):TS:=
 (tRet (tCall (BQ K ω) [] X (tCons (tOp (Cc K) (tOp (qMul K) (tOp (rIx K) (tVar 0) (tC (.int 0))) (tOp (rIx K) (tVar 1) (tC (.int 1)))) (tOp (qMul K) (tOp (rIx K) (tVar 1) (tC (.int 0))) (tOp (rIx K) (tVar 0) (tC (.int 1))))) (tCons (tOp (qMul K) (tOp (rIx K) (tVar 0) (tC (.int 1))) (tOp (rIx K) (tVar 1) (tC (.int 1)))) tNil))))
def PV (K:jf) (ω:World) (X:XK):TS:=
 (tRet (tCall (BQ K ω) [] X (tCons (tOp K9 (tOp (qMul K) (tOp (rIx K) (tVar 0) (tC (.int 0))) (tOp (rIx K) (tVar 1) (tC (.int 1)))) (tOp (qMul K) (tOp (rIx K) (tVar 1) (tC (.int 0))) (tOp (rIx K) (tVar 0) (tC (.int 1))))) (tCons (tOp (qMul K) (tOp (rIx K) (tVar 0) (tC (.int 1))) (tOp (rIx K) (tVar 1) (tC (.int 1)))) tNil))))
def PX (K:jf) (ω:World) (X:XK):TS:=
 (tRet (tCall (BQ K ω) [] X (tCons (tOp (qMul K) (tOp (rIx K) (tVar 0) (tC (.int 0))) (tOp (rIx K) (tVar 1) (tC (.int 0)))) (tCons (tOp (qMul K) (tOp (rIx K) (tVar 0) (tC (.int 1))) (tOp (rIx K) (tVar 1) (tC (.int 1)))) tNil))))
def LJ (K:jf) (ω:World) (X:XK):TS:=
 (tRet (tOp rLtI (tOp (qMul K) (tOp (rIx K) (tVar 0) (tC (.int 0))) (tOp (rIx K) (tVar 1) (tC (.int 1)))) (tOp (qMul K) (tOp (rIx K) (tVar 1) (tC (.int 0))) (tOp (rIx K) (tVar 0) (tC (.int 1))))))
def GB (K:jf) (ω:World) (X:XK):TS:=
 (tSeq (tAsg tDNewK (gName 2))
 (tSeq (tFor (iSeq K (tVar 1)) (gTup K 2 (gCons (gName 3) (gCons (gName 4) gNil)))
 (sDPut (tVar 2) (tVar 3) (tCall (Do K ω) [] X (tCons (tDGet2 (tVar 2) (tVar 3) (tC (.ref (He.ga K "NOUGHT")))) (tCons (tVar 4) tNil)))))
 (tFrz (tRet (BJ (tCons (tVar 0) (tCons (tCB (Pj K) (tCons (tLc (iSeq K (tCB (SV K) (tCons (tVar 2) tNil))) (gName 3) (tTest (tOp (qNe K) (tDGet (tVar 2) (tVar 3)) (tC (.ref (He.ga K "NOUGHT"))))) (BJ (tCons (tVar 3) (tCons (tDGet (tVar 2) (tVar 3)) tNil))) [3]) tNil)) tNil)))))))
def K1 (K:jf) (ω:World) (X:XK):TS:=
 (tRet (tCall (Ee K ω) [] X (tCons (tCall (Do K ω) [] X (tCons (tOp (rIx K) (tVar 0) (tC (.int 0))) (tCons (tOp (rIx K) (tVar 1) (tC (.int 0))) tNil))) (tCons (tOp (Cc K) (tOp (rIx K) (tVar 0) (tC (.int 1))) (tOp (rIx K) (tVar 1) (tC (.int 1)))) tNil))))
def N0 (K:jf) (ω:World) (X:XK):TS:=
 (tSeq (tAsg (tOp (rIx K) (tVar 0) (tC (.int 0))) (gName 2))
 (tSeq (tFor (iSeq K (tOp (rIx K) (tVar 0) (tC (.int 1)))) (gTup K 2 (gCons (gName 3) (gCons (gName 4) gNil)))
 (tSeq (tIfS (tB (tDNotIn (tVar 3) (tVar 1)))
 (P8 (He.ga K "NoSum") X)
 tNext)
 (tAsg (tCall (Do K ω) [] X (tCons (tVar 2) (tCons (tCall (JT K ω) [] X (tCons (tVar 4) (tCons (tDGet (tVar 1) (tVar 3)) tNil))) tNil))) (gName 2))))
 (tRet (tVar 2))))
def K2 (K:jf) (ω:World) (X:XK):TS:=
 (tSeq (tAsg (tLst tNil) (gName 1))
 (tSeq (tFor (iSeq K (tVar 0)) (gTup K 3 (gCons (gName 2) (gCons (gName 3) (gCons (gName 4) gNil))))
 (tDrop (tBM K "list" rExtend (tVar 1) (tCons (tLst (tCons (tVar 2) (tCons (tVar 3) tNil))) tNil))))
 (tRet (Q2 K (tVar 1)))))
def FK (m:Nat) (K:jf) (ω:World) (X:XK):TS:=
 (tSeq (tAsg (tOp (rIx K) (tOp (rIx K) (tVar 0) (tOp (rIx K) (tVar 1) (tUn SO (tC (.int 1))))) (tC (.int 1))) (gName 2))
 (tSeq (tIfS (tTest (tOp (qEq K) (tVar 2) (tOp (rIx K) (tOp (rIx K) (tVar 0) (tOp (rIx K) (tVar 1) (tC (.int 0)))) (tC (.int 0)))))
 (tRet (tLst (tCons (tCB (Pj K) (tCons (tVar 1) tNil)) tNil)))
 tNext)
 (tSeq (tAsg (tLst tNil) (gName 3))
 (tSeq (tIfS (tTest (tOp (rNotInD K) (tVar 2) (tLc (iSeq K (tVar 1)) (gName 4) tYes (tOp (rIx K) (tOp (rIx K) (tVar 0) (tVar 4)) (tC (.int 0))) [4])))
 (tFor (iRng2 (tCons (tOp (Cc K) (tOp (rIx K) (tVar 1) (tC (.int 0))) (tC (.int 1))) (tCons (tCB (cLen K) (tCons (tVar 0) tNil)) tNil))) (gName 4)
 (tIfS (tTest (tOp (qEq K) (tOp (rIx K) (tOp (rIx K) (tVar 0) (tVar 4)) (tC (.int 0))) (tVar 2)))
 (tDrop (tBM K "list" (MT K) (tVar 3) (tCons (tCall (BS m K ω) [] X (tCons (tVar 0) (tCons (tOp (Cc K) (tVar 1) (tLst (tCons (tVar 4) tNil))) tNil))) tNil)))
 tNext))
 tNext)
 (tRet (tVar 3))))))
def Iq (K:jf) (ω:World) (X:XK):TS:=
 (tSeq (tAsg (tLst tNil) (gName 1))
 (tSeq (tFor (iRng1 (tCons (tCB (cLen K) (tCons (tVar 0) tNil)) tNil)) (gName 2)
 (tDrop (tBM K "list" (MT K) (tVar 1) (tCons (tCall (Eg K ω) [] X (tCons (tVar 0) (tCons (tLst (tCons (tVar 2) tNil)) tNil))) tNil))))
 (tRet (tVar 1))))
def Ir (K:jf) (ω:World) (X:XK):TS:=
 (tSeq (tAsg (tCall (Ee K ω) [] X (tCons (BJ (tCons (tC (.int 0)) (tCons (tC (.int 1)) tNil))) (tCons (tLst tNil) tNil))) (gName 2))
 (tSeq (tFor (iSeq K (tVar 1)) (gName 3)
 (tAsg (tCall (Fg K ω) [] X (tCons (tVar 2) (tCons (tOp (rIx K) (tOp (rIx K) (tVar 0) (tVar 3)) (tC (.int 2))) tNil))) (gName 2)))
 (tRet (tVar 2))))
def IY (K:jf) (ω:World) (X:XK):TS:=
 (tSeq (tAsg (tVar 0) (gTup K 3 (gCons (gName 3) (gCons (gName 4) (gCons (gName 5) gNil)))))
 (tRet (tCall (Do K ω) [] X (tCons (tCall (G8 K ω) [] X (tCons (FU ω K (tVar 2) (tVar 4)) (tCons (FU ω K (tVar 2) (tVar 3)) tNil))) (tCons (tCall (Ef K ω) [] X (tCons (tVar 5) (tCons (tVar 1) tNil))) tNil)))))
def GC (K:jf) (ω:World) (X:XK):TS:=
 (tFor (iSeq K (tCall (Eh K ω) [] X (tCons (tVar 0) tNil))) (gName 2)
 (tIfS (tB (tCall (Dq K ω) [] X (tCons (tCall (Ef K ω) [] X (tCons (tCall (Ei K ω) [] X (tCons (tVar 0) (tCons (tVar 2) tNil))) (tCons (tVar 1) tNil))) (tCons (tC (.ref (He.ga K "ZERO"))) tNil))))
 sNvr
 tNext))
def GD (K:jf) (ω:World) (X:XK):TS:=
 (tSeq (tDrop (tCall (Cm K ω) [] X (tCons (tVar 0) (tCons (tVar 1) tNil))))
 (tSeq (tAsg (Pw ω) (gName 2))
 (tSeq (tFor (iSeq K (tCall (Fh K ω) [] X (tCons (tVar 0) tNil))) (gName 3)
 (MU ω K (tVar 2) (tVar 3) (tC (.ref (He.ga K "ZERO")))))
 (tSeq (tAsg (tC (.bl true)) (gName 4))
 (tSeq (tWhile (tB (tVar 4))
 (tSeq (tAsg (tC (.bl false)) (gName 4))
 (tFor (iSeq K (tVar 0)) (gName 5)
 (tSeq (tAsg (tCall (DR K ω) [] X (tCons (tVar 5) (tCons (tVar 1) (tCons (tVar 2) tNil)))) (gName 6))
 (tIfS (tB (tCall (Dq K ω) [] X (tCons (tVar 6) (tCons (tC (.ref (He.ga K "ZERO"))) tNil))))
 (tSeq (MU ω K (tVar 2) (tOp (rIx K) (tVar 5) (tC (.int 1))) (tCall (G8 K ω) [] X (tCons (FU ω K (tVar 2) (tOp (rIx K) (tVar 5) (tC (.int 1)))) (tCons (tVar 6) tNil))))
 (tAsg (tC (.bl true)) (gName 4)))
 tNext)))))
 (tRet (tVar 2)))))))
def Iu (K:jf) (ω:World) (X:XK):TS:=
 (tSeq (tAsg (tC (.int 0)) (gName 2))
 (tSeq (tIfS (tTest (tOp rLtI (tVar 1) (tCB (cLen K) (tCons (tVar 0) tNil))))
 (tAsg (tOp (rIx K) (tVar 0) (tVar 1)) (gName 2))
 tNext)
 (tRet (tLst (tCons (tCB ZO (tCons (tOp rGeI (tCB cAbs (tCons (tVar 2) tNil)) (tOp LM (tC (.int 10)) (tC (.int 18)))) tNil)) (tCons (tVar 2) (tCons (tOp (qMul K) (tC (.int 17)) (tVar 1)) tNil)))))))
def Iv (K:jf) (ω:World) (X:XK):TS:=
 (tSeq (tIfS (tTest (tOp (qEq K) (tOp (rIx K) (tVar 0) (tC (.int 0))) (tC (.int 1))))
 (tSeq (tAsg (tOp Nv (tOp (rIx K) (tVar 0) (tC (.int 1))) (tVar 1)) (gName 2))
 (tSeq (tAsg (tOp Nt (tOp (rIx K) (tVar 0) (tC (.int 1))) (tVar 1)) (gSub (tVar 0) (tC (.int 1)) rSetL))
 (tRet (tVar 2))))
 tNext)
 (tSeq (tAsg (tOp (Cc K) (tOp (rIx K) (tVar 0) (tC (.int 2))) (tC (.int 1))) (gName 3))
 (tSeq (tAsg (tVar 3) (gSub (tVar 0) (tC (.int 2)) rSetL))
 (tSeq (tAsg (tOp Nv (tOp (qMul K) (tOp (Cc K) (tOp (Cc K) (tOp (rIx K) (tVar 0) (tC (.int 1))) (tOp (qMul K) (tOp (qMul K) (tC (.int 7919)) (tVar 3)) (tVar 3))) (tVar 3)) (tC (.int 48271))) (tC (.int 2305843009213693951))) (gName 4))
 (tRet (tOp Nv (tOp Nt (tOp Nv (tOp (Cc K) (tOp (qMul K) (tVar 4) (tC (.int 1442695040888963407))) (tC (.int 4321))) (tC (.int 2305843009213693921))) (tC (.int 64))) (tVar 1)))))))
def Gk (K:jf) (ω:World) (X:XK):TS:=
 (tSeq (tWhile (tTest (tOp (qNe K) (tVar 1) (tC (.int 0))))
 (tPar 0 1 (tCons (tVar 1) (tCons (tOp Nv (tVar 0) (tVar 1)) tNil))))
 (tRet (tCB cAbs (tCons (tVar 0) tNil))))
def K3 (K:jf) (ω:World) (X:XK):TS:=
 (tSeq (tIfS (tTest (tOp rLtI (tVar 1) (tC (.int 0))))
 (tSeq (tAsg (tOp K9 (tC (.int 0)) (tVar 0)) (gName 0))
 (tAsg (tOp K9 (tC (.int 0)) (tVar 1)) (gName 1)))
 tNext)
 (tSeq (tAsg (tCall (DU K ω) [] X (tCons (tVar 0) (tCons (tVar 1) tNil))) (gName 2))
 (tRet (BJ (tCons (tOp Nt (tVar 0) (tVar 2)) (tCons (tOp Nt (tVar 1) (tVar 2)) tNil))))))
def K4 (K:jf) (ω:World) (X:XK):TS:=
 (tRet (tCall (Ac K ω) [] X (tCons (tOp (Cc K) (tOp (qMul K) (tOp (rIx K) (tVar 0) (tC (.int 0))) (tOp (rIx K) (tVar 1) (tC (.int 1)))) (tOp (qMul K) (tOp (rIx K) (tVar 1) (tC (.int 0))) (tOp (rIx K) (tVar 0) (tC (.int 1))))) (tCons (tOp (qMul K) (tOp (rIx K) (tVar 0) (tC (.int 1))) (tOp (rIx K) (tVar 1) (tC (.int 1)))) tNil))))
def K5 (K:jf) (ω:World) (X:XK):TS:=
 (tRet (tCall (Ac K ω) [] X (tCons (tOp (qMul K) (tOp (rIx K) (tVar 0) (tC (.int 0))) (tOp (rIx K) (tVar 1) (tC (.int 0)))) (tCons (tOp (qMul K) (tOp (rIx K) (tVar 0) (tC (.int 1))) (tOp (rIx K) (tVar 1) (tC (.int 1)))) tNil))))
def Iw (K:jf) (ω:World) (X:XK):TS:=
 (tRet (tCall (AW K ω) [] X (tCons (tVar 0) (tCons (BJ (tCons (tOp K9 (tC (.int 0)) (tOp (rIx K) (tVar 1) (tC (.int 0)))) (tCons (tOp (rIx K) (tVar 1) (tC (.int 1))) tNil))) tNil))))
def HU (K:jf) (ω:World) (X:XK):TS:=
 (tRet (tOp rLtI (tOp (qMul K) (tOp (rIx K) (tVar 0) (tC (.int 0))) (tOp (rIx K) (tVar 1) (tC (.int 1)))) (tOp (qMul K) (tOp (rIx K) (tVar 1) (tC (.int 0))) (tOp (rIx K) (tVar 0) (tC (.int 1))))))
def HV (K:jf) (ω:World) (X:XK):TS:=
 (tRet (tLc (iRng1 (tCons (tVar 1) tNil)) (gName 2) tYes (tOp (Cc K) (tOp (rIx K) (tLst (tCons (tC (.str "s")) (tCons (tC (.str "e")) (tCons (tC (.str "part.")) (tCons (tC (.str "a.b")) tNil))))) (tCall (A8 K ω) [] E0 (tCons (tVar 0) (tCons (tC (.int 4)) tNil)))) (tOp (rIx K) (tC (.str "abcdefghijkl")) (tVar 2))) [2]))
def Iy (K:jf) (ω:World) (X:XK):TS:=
 (tSeq (tIfS (tTest (tOp (qEq K) (tVar 1) (tC (.int 4))))
 (tRet (BJ (tCons (tOp K9 (tCall (A8 K ω) [] X (tCons (tVar 0) (tCons (tOp (Cc K) (tOp (qMul K) (tC (.int 2)) (tOp LM (tC (.int 10)) (tC (.int 17)))) (tC (.int 1))) tNil))) (tOp LM (tC (.int 10)) (tC (.int 17)))) (tCons (tC (.int 1)) tNil))))
 tNext)
 (tSeq (tIfS (tTest (tOp (qEq K) (tVar 1) (tC (.int 3))))
 (tRet (tCall (Ac K ω) [] X (tCons (tOp K9 (tCall (A8 K ω) [] X (tCons (tVar 0) (tCons (tOp (Cc K) (tOp (qMul K) (tC (.int 2)) (tOp LM (tC (.int 10)) (tC (.int 6)))) (tC (.int 1))) tNil))) (tOp LM (tC (.int 10)) (tC (.int 6)))) (tCons (tOp (Cc K) (tC (.int 1)) (tCall (A8 K ω) [] X (tCons (tVar 0) (tCons (tC (.int 1000)) tNil)))) tNil))))
 tNext)
 (tSeq (tIfS (tTest (tOp (qEq K) (tVar 1) (tC (.int 2))))
 (tRet (BJ (tCons (tOp K9 (tCall (A8 K ω) [] X (tCons (tVar 0) (tCons (tOp (Cc K) (tOp (qMul K) (tC (.int 2)) (tOp LM (tC (.int 10)) (tC (.int 15)))) (tC (.int 1))) tNil))) (tOp LM (tC (.int 10)) (tC (.int 15)))) (tCons (tC (.int 1)) tNil))))
 tNext)
 (tRet (tCall (Ac K ω) [] X (tCons (tOp K9 (tCall (A8 K ω) [] X (tCons (tVar 0) (tCons (tC (.int 21)) tNil))) (tC (.int 10))) (tCons (tOp (rIx K) (tLst (tCons (tC (.int 1)) (tCons (tC (.int 1)) (tCons (tC (.int 2)) (tCons (tC (.int 3)) (tCons (tC (.int 6)) tNil)))))) (tCall (A8 K ω) [] X (tCons (tVar 0) (tCons (tC (.int 5)) tNil)))) tNil)))))))
def Iz (K:jf) (ω:World) (X:XK):TS:=
 (tSeq (tAsg (tCall (CL K ω) [] X (tCons (tVar 0) (tCons (tVar 1) tNil))) (gName 2))
 (tSeq (tIfS (tTest (tOp (qEq K) (tCall (A8 K ω) [] X (tCons (tVar 0) (tCons (tC (.int 8)) tNil))) (tC (.int 1))))
 (tRet (BJ (tCons (tC (.int 0)) (tCons (tC (.int 1)) tNil))))
 tNext)
 (tRet (BJ (tCons (tCB cAbs (tCons (tOp (rIx K) (tVar 2) (tC (.int 0))) tNil)) (tCons (tOp (rIx K) (tVar 2) (tC (.int 1))) tNil))))))
def HW (K:jf) (ω:World) (X:XK):TS:=
 (tSeq (tAsg (tCall (A8 K ω) [] X (tCons (tVar 0) (tCons (tVar 3) tNil))) (gName 4))
 (tSeq (tAsg (tCall (E1 K ω) [] X (tCons (tVar 0) (tCons (tVar 2) tNil))) (gName 5))
 (tSeq (tAsg (tLst tNil) (gName 6))
 (tSeq (tWhile (tAnd (tTest (tOp (qNe K) (tVar 5) (tLst tNil))) (tTest (tOp rLtI (tCB (cLen K) (tCons (tVar 6) tNil)) (tVar 1))))
 (tSeq (tAsg (tBM0 K "list" rPop (tVar 5)) (gName 7))
 (tSeq (tAsg (tCall (CL K ω) [] X (tCons (tVar 0) (tCons (tVar 4) tNil))) (gName 8))
 (tSeq (tAsg (tCall (AW K ω) [] X (tCons (tVar 8) (tCons (tCall (Dt K ω) [] X (tCons (tVar 0) (tCons (tVar 4) tNil))) tNil))) (gName 9))
 (tSeq (tAsg (tLst tNil) (gName 10))
 (tSeq (tFor (iRng1 (tCons (tOp (rIx K) (tLst (tCons (tC (.int 0)) (tCons (tC (.int 0)) (tCons (tC (.int 1)) (tCons (tC (.int 1)) (tCons (tC (.int 2)) (tCons (tC (.int 3)) tNil))))))) (tCall (A8 K ω) [] X (tCons (tVar 0) (tCons (tC (.int 6)) tNil)))) tNil)) (gName 11)
 (tIfS (tTest (tOp (qNe K) (tVar 5) (tLst tNil)))
 (tSeq (tAsg (tCall (Dt K ω) [] X (tCons (tVar 0) (tCons (tVar 4) tNil))) (gName 12))
 (tDrop (tBM K "list" rAppend (tVar 10) (tCons (BJ (tCons (tBM0 K "list" rPop (tVar 5)) (tCons (tVar 12) (tCons (tOp (rIx K) (tLst (tCons (tC (.str "fixed")) (tCons (tC (.str "big")) (tCons (tC (.str "small")) tNil)))) (tCall (A8 K ω) [] X (tCons (tVar 0) (tCons (tC (.int 3)) tNil)))) tNil)))) tNil))))
 tNext))
 (tDrop (tBM K "list" rAppend (tVar 6) (tCons (BJ (tCons (tVar 7) (tCons (tVar 8) (tCons (tVar 9) (tCons (tCB (Pj K) (tCons (tVar 10) tNil)) tNil))))) tNil)))))))))
 (tRet (tVar 6))))))
def J0 (K:jf) (ω:World) (X:XK):TS:=
 (tSeq (tAsg (tVar 0) (gTup K 4 (gCons (gName 3) (gCons (gName 4) (gCons (gName 5) (gCons (gName 6) gNil))))))
 (tSeq (tFor (iSeq K (tVar 6)) (gTup K 3 (gCons (gName 7) (gCons (gName 8) (gCons (gName 9) gNil))))
 (tSeq (tIfS (tAnd (tTest (tOp (qEq K) (tVar 7) (tVar 1))) (tTest (tOp (qEq K) (tVar 9) (tC (.str "fixed")))))
 (tRet (tVar 8))
 tNext)
 (tSeq (tIfS (tAnd (tTest (tOp (qEq K) (tVar 7) (tVar 1))) (tTest (tOp (qEq K) (tVar 9) (tC (.str "big")))))
 (tRet (tCall (AW K ω) [] X (tCons (tVar 8) (tCons (tCall (AM K ω) [] X (tCons (tVar 2) (tCons (tVar 4) tNil))) tNil))))
 tNext)
 (tIfS (tTest (tOp (qEq K) (tVar 7) (tVar 1)))
 (tRet (tCall (AW K ω) [] X (tCons (tVar 8) (tCons (tCall (AM K ω) [] X (tCons (tVar 5) (tCons (tVar 2) tNil))) tNil))))
 tNext))))
 (tRet (tC .non))))
def Gm (K:jf) (ω:World) (X:XK):TS:=
 (tSeq (tAsg tDNewK (gName 2))
 (tSeq (tFor (iSeq K (tVar 1)) (gName 3)
 (tSeq (tAsg (tOp (Cc K) (tC (.int 1)) (tCall (A8 K ω) [] X (tCons (tVar 0) (tCons (tC (.int 6)) tNil)))) (gName 4))
 (tSeq (tAsg (tCall (Ac K ω) [] X (tCons (tCall (A8 K ω) [] X (tCons (tVar 0) (tCons (tOp (Cc K) (tVar 4) (tC (.int 1))) tNil))) (tCons (tVar 4) tNil))) (gName 5))
 (tSeq (sDPut (tVar 2) (tOp (rIx K) (tVar 3) (tC (.int 0))) (tCall (AW K ω) [] X (tCons (tOp (rIx K) (tVar 3) (tC (.int 1))) (tCons (tCall (Af K ω) [] X (tCons (tVar 5) (tCons (tCall (AM K ω) [] X (tCons (tOp (rIx K) (tVar 3) (tC (.int 2))) (tCons (tOp (rIx K) (tVar 3) (tC (.int 1))) tNil))) tNil))) tNil))))
 (tFor (iSeq K (tOp (rIx K) (tVar 3) (tC (.int 3)))) (gTup K 3 (gCons (gName 6) (gCons (gName 7) (gCons (gName 8) gNil))))
 (tSeq (tAsg (tCall (Ac K ω) [] X (tCons (tOp K9 (tCall (A8 K ω) [] X (tCons (tVar 0) (tCons (tOp (Cc K) (tOp (qMul K) (tC (.int 2)) (tVar 4)) (tC (.int 1))) tNil))) (tVar 4)) (tCons (tVar 4) tNil))) (gName 5))
 (sDPut (tVar 2) (tVar 6) (tCall (Af K ω) [] X (tCons (tVar 5) (tCons (tCall (Ek K ω) [] X (tCons (tVar 3) (tCons (tVar 6) (tCons (tDGet (tVar 2) (tOp (rIx K) (tVar 3) (tC (.int 0)))) tNil)))) tNil))))))))))
 (tFrz (tRet (tVar 2)))))
def LK (K:jf) (ω:World) (X:XK):TS:=
 (tSeq (tIfS (tOr (tNot (tB (tCB (cIsi K) (tCons (tVar 0) (tCons (tC (.ty "tuple")) tNil))))) (tOr (tTest (tOp (qNe K) (tCB (cLen K) (tCons (tVar 0) tNil)) (tC (.int 2)))) (tTest (tOp (qNe K) (tVar 0) (tVar 1)))))
 (tRet (tC (.bl false)))
 tNext)
 (tRet (tOp (rIn K true) (tC (.bl false)) (tLc (iSeq K (tVar 0)) (gName 2) tYes (tAndV (tCB (cIsi K) (tCons (tVar 2) (tCons (tC (.ty "int")) tNil))) (tNotV (tCB (cIsi K) (tCons (tVar 2) (tCons (tC (.ty "bool")) tNil))))) [2]))))
def HX (K:jf) (ω:World) (X:XK):TS:=
 (tSeq (tAsg (tC (.str "abcdefghijklmnopqrstuvwxyz")) (gName 2))
 (tSeq (tAsg (tM1 (rJoin K) (tC (.str "")) (tLc (iRng1 (tCons (tC (.int 8)) tNil)) (gName 4) tYes (tOp (rIx K) (tVar 2) (tCall (A8 K ω) [] E0 (tCons (tVar 0) (tCons (tC (.int 26)) tNil)))) [4])) (gName 3))
 (tSeq (tAsg (tOp (Cc K) (tC (.int 1)) (tCall (A8 K ω) [] X (tCons (tVar 0) (tCons (tC (.int 8)) tNil)))) (gName 5))
 (tSeq (tAsg (tCall (A8 K ω) [] X (tCons (tVar 0) (tCons (tVar 5) tNil))) (gName 6))
 (tSeq (tAsg (tCall (A8 K ω) [] X (tCons (tVar 0) (tCons (tC (.int 26)) tNil))) (gName 7))
 (tRet (tLc (iRng1 (tCons (tVar 1) tNil)) (gName 4) tYes (tOp (Cc K) (tOp (Cc K) (tSl rSlS (tVar 3) tNoPart (tPart (tVar 6))) (tOp (rIx K) (tVar 2) (tOp Nv (tOp (Cc K) (tVar 7) (tOp (qMul K) (tC (.int 3)) (tVar 4))) (tC (.int 26))))) (tSl rSlS (tVar 3) (tPart (tOp (Cc K) (tVar 6) (tC (.int 1)))) (tPart (tVar 5)))) [4])))))))
def HY (K:jf) (ω:World) (X:XK):TS:=
 (tSeq (tAsg (tLst tNil) (gName 2))
 (tSeq (tFor (iSeq K (tCall (E3 K ω) [] X (tCons (tVar 0) (tCons (tC (.int 6)) tNil)))) (gName 3)
 (tDrop (tBM K "list" rExtend (tVar 2) (tCons (tLst (tCons (BJ (tCons (tC (.str "x")) (tCons (tVar 3) tNil))) (tCons (BJ (tCons (tC (.str "y")) (tCons (tVar 3) tNil))) tNil))) tNil))))
 (tRet (tLc (iRng1 (tCons (tVar 1) tNil)) (gName 4) tYes (tBM K "list" rPopAt (tVar 2) (tCons (tCall (A8 K ω) [] E0 (tCons (tVar 0) (tCons (tCB (cLen K) (tCons (tVar 2) tNil)) tNil))) tNil)) [4]))))
def K6 (K:jf) (ω:World) (X:XK):TS:=
 (tSeq (tIfS (tTest (tOp (qEq K) (tCall (A8 K ω) [] X (tCons (tVar 0) (tCons (tC (.int 8)) tNil))) (tC (.int 1))))
 (tRet (BJ (tCons (tOp (Cc K) (tC (.int 3)) (tCall (A8 K ω) [] X (tCons (tVar 0) (tCons (tC (.int 4)) tNil)))) (tCons (tOp (Cc K) (tC (.int 9)) (tCall (A8 K ω) [] X (tCons (tVar 0) (tCons (tC (.int 8)) tNil)))) tNil))))
 tNext)
 (tRet (BJ (tCons (tOp (Cc K) (tC (.int 1)) (tCall (A8 K ω) [] X (tCons (tVar 0) (tCons (tC (.int 4)) tNil)))) (tCons (tCall (A8 K ω) [] X (tCons (tVar 0) (tCons (tC (.int 9)) tNil))) tNil)))))
def HZ (K:jf) (ω:World) (X:XK):TS:=
 (tRet (tCall (Ac K ω) [] X (tCons (tOp K9 (tCall (A8 K ω) [] X (tCons (tVar 0) (tCons (tC (.int 21)) tNil))) (tC (.int 10))) (tCons (tOp (rIx K) (tLst (tCons (tC (.int 1)) (tCons (tC (.int 1)) (tCons (tC (.int 2)) (tCons (tC (.int 3)) tNil))))) (tCall (A8 K ω) [] X (tCons (tVar 0) (tCons (tC (.int 4)) tNil)))) tNil))))
def Gn (K:jf) (ω:World) (X:XK):TS:=
 (tSeq (tAsg (tLst tNil) (gName 2))
 (tSeq (tFor (iSeq K (tVar 0)) (gTup K 4 (gCons (gName 3) (gCons (gName 4) (gCons (gName 5) (gCons (gName 6) gNil)))))
 (tSeq (tAsg (tCB (Pj K) (tCons (tLc (iSeq K (tVar 6)) (gTup K 3 (gCons (gName 8) (gCons (gName 9) (gCons (gName 10) gNil)))) tYes (BJ (tCons (tVar 8) (tCons (tCall (Af K ω) [] E0 (tCons (tVar 9) (tCons (tVar 1) tNil))) (tCons (tVar 10) tNil)))) [8,9,10]) tNil)) (gName 7))
 (tDrop (tBM K "list" rAppend (tVar 2) (tCons (BJ (tCons (tVar 3) (tCons (tCall (Af K ω) [] X (tCons (tVar 4) (tCons (tVar 1) tNil))) (tCons (tCall (Af K ω) [] X (tCons (tVar 5) (tCons (tVar 1) tNil))) (tCons (tVar 7) tNil))))) tNil)))))
 (tRet (tVar 2))))
def Ha (K:jf) (ω:World) (X:XK):TS:=
 (tSeq (tAsg (tOp (rIx K) (tVar 0) (tC (.int 0))) (gName 2))
 (tSeq (tFor (iSeq K (tOp (rIx K) (tVar 0) (tC (.int 1)))) (gTup K 2 (gCons (gName 3) (gCons (gName 4) gNil)))
 (tAsg (tCall (AW K ω) [] X (tCons (tVar 2) (tCons (tCall (Af K ω) [] X (tCons (tVar 4) (tCons (tDGet (tVar 1) (tVar 3)) tNil))) tNil))) (gName 2)))
 (tRet (tVar 2))))
def GE (K:jf) (ω:World) (X:XK):TS:=
 (tSeq (tAsg (tLst tNil) (gName 2))
 (tSeq (tFor (iSeq K (tCB (SV K) (tCons (tVar 1) tNil))) (gName 3)
 (tSeq (tAsg (tOp (rIx K) (tLst (tCons (BJ (tCons (tC (.int 0)) (tCons (tC (.int 1)) tNil))) (tCons (BJ (tCons (tC (.int 0)) (tCons (tC (.int 1)) tNil))) (tCons (BJ (tCons (tC (.int 1)) (tCons (tC (.int 1)) tNil))) (tCons (BJ (tCons (tUn SO (tC (.int 1))) (tCons (tC (.int 1)) tNil))) (tCons (BJ (tCons (tC (.int 2)) (tCons (tC (.int 1)) tNil))) (tCons (BJ (tCons (tUn SO (tC (.int 2))) (tCons (tC (.int 1)) tNil))) (tCons (BJ (tCons (tC (.int 1)) (tCons (tC (.int 3)) tNil))) (tCons (BJ (tCons (tUn SO (tC (.int 5))) (tCons (tC (.int 7)) tNil))) tNil))))))))) (tCall (A8 K ω) [] X (tCons (tVar 0) (tCons (tC (.int 8)) tNil)))) (gName 4))
 (tIfS (tTest (tOp (qNe K) (tOp (rIx K) (tVar 4) (tC (.int 0))) (tC (.int 0))))
 (tDrop (tBM K "list" rAppend (tVar 2) (tCons (BJ (tCons (tVar 3) (tCons (tVar 4) tNil))) tNil)))
 tNext)))
 (tRet (tCB (Pj K) (tCons (tVar 2) tNil)))))
def J1 (K:jf) (ω:World) (X:XK):TS:=
 (tSeq (tAsg (tOp (rIx K) (tLst (tCons (BJ (tCons (tC (.int 1)) (tCons (tC (.int 1)) tNil))) (tCons (BJ (tCons (tOp (Cc K) (tC (.int 1)) (tCall (A8 K ω) [] X (tCons (tVar 0) (tCons (tOp LM (tC (.int 10)) (tC (.int 7))) tNil)))) (tCons (tC (.int 1)) tNil))) tNil))) (tCB ZO (tCons (tOp (qEq K) (tCall (A8 K ω) [] X (tCons (tVar 0) (tCons (tC (.int 4)) tNil))) (tC (.int 1))) tNil))) (gName 1))
 (tSeq (tAsg (tCall (DW K ω) [] X (tCons (tCall (E2 K ω) [] X (tCons (tVar 0) (tCons (tCall (A8 K ω) [] X (tCons (tVar 0) (tCons (tC (.int 4)) tNil))) (tCons (tC (.int 7)) (tCons (tC (.int 2)) tNil))))) (tCons (tVar 1) tNil))) (gName 2))
 (tSeq (tAsg (tCall (DV K ω) [] X (tCons (tVar 0) (tCons (tVar 2) tNil))) (gName 3))
 (tSeq (tAsg (tCall (Fj K ω) [] X (tCons (tVar 0) tNil)) (gTup K 2 (gCons (gName 4) (gCons (gName 5) gNil))))
 (tSeq (tAsg (Pw ω) (gName 6))
 (tSeq (tFor (iSeq K (tCall (E4 K ω) [] X (tCons (tVar 0) (tCons (tVar 4) tNil)))) (gName 7)
 (MU ω K (tVar 6) (tVar 7) (tCall (Af K ω) [] X (tCons (tCall (DC K ω) [] X (tCons (tVar 0) tNil)) (tCons (tVar 1) tNil)))))
 (tSeq (tFrz (tAsg (tCB (Wr ω K) (tCons (tVar 6) tNil)) (gName 8)))
 (tSeq (tAsg (tLst tNil) (gName 9))
 (tSeq (tFor (iRng1 (tCons (tVar 5) tNil)) (gName 10)
 (tSeq (tAsg (tOp (rIx K) (tVar 8) (tCall (A8 K ω) [] X (tCons (tVar 0) (tCons (tVar 4) tNil)))) (gName 11))
 (tSeq (tAsg (tOp (rIx K) (tVar 8) (tCall (A8 K ω) [] X (tCons (tVar 0) (tCons (tVar 4) tNil)))) (gName 12))
 (tSeq (tAsg (tCall (Cn K ω) [] X (tCons (tVar 0) (tCons (tCB (SV K) (tCons (tVar 3) tNil)) tNil))) (gName 13))
 (tSeq (tAsg (tCall (Af K ω) [] X (tCons (tCall (DC K ω) [] X (tCons (tVar 0) tNil)) (tCons (tVar 1) tNil))) (gName 14))
 (tSeq (tAsg (tOp (rIx K) (tLst (tCons (BJ (tCons (tC (.int 0)) (tCons (tC (.int 1)) tNil))) (tCons (BJ (tCons (tCB cAbs (tCons (tOp (rIx K) (tVar 14) (tC (.int 0))) tNil)) (tCons (tOp (rIx K) (tVar 14) (tC (.int 1))) tNil))) tNil))) (tCall (A8 K ω) [] X (tCons (tVar 0) (tCons (tC (.int 2)) tNil)))) (gName 14))
 (tSeq (tAsg (tCall (AM K ω) [] X (tCons (tVar 14) (tCons (tCall (B7 K ω) [] X (tCons (BJ (tCons (BJ (tCons (tC (.int 0)) (tCons (tC (.int 1)) tNil))) (tCons (tVar 13) tNil))) (tCons (tVar 3) tNil))) tNil))) (gName 15))
 (tDrop (tBM K "list" rAppend (tVar 9) (tCons (BJ (tCons (tVar 11) (tCons (tVar 12) (tCons (BJ (tCons (tCall (AM K ω) [] X (tCons (tVar 15) (tCons (tCall (AM K ω) [] X (tCons (FU ω K (tVar 6) (tVar 12)) (tCons (FU ω K (tVar 6) (tVar 11)) tNil))) tNil))) (tCons (tVar 13) tNil))) tNil)))) tNil))))))))))
 (tRet (BJ (tCons (tVar 9) (tCons (tVar 3) (tCons (tVar 6) tNil))))))))))))))
def Hb (K:jf) (ω:World) (X:XK):TS:=
 (tSeq (tAsg (Pw ω) (gName 2))
 (tSeq (tFor (iSeq K (tVar 0)) (gTup K 3 (gCons (gName 3) (gCons (gName 4) (gCons (gName 5) gNil))))
 (tSeq (MU ω K (tVar 2) (tVar 3) (BJ (tCons (tC (.int 0)) (tCons (tC (.int 1)) tNil))))
 (MU ω K (tVar 2) (tVar 4) (BJ (tCons (tC (.int 0)) (tCons (tC (.int 1)) tNil))))))
 (tSeq (tFor (iRng1 (tCons (tCB (aX ω K) (tCons (tVar 2) tNil)) tNil)) (gName 6)
 (tFor (iSeq K (tVar 0)) (gTup K 3 (gCons (gName 3) (gCons (gName 4) (gCons (gName 5) gNil))))
 (tSeq (tAsg (tCall (AM K ω) [] X (tCons (FU ω K (tVar 2) (tVar 3)) (tCons (tCall (B7 K ω) [] X (tCons (tVar 5) (tCons (tVar 1) tNil))) tNil))) (gName 7))
 (tIfS (tB (tCall (BO K ω) [] X (tCons (FU ω K (tVar 2) (tVar 4)) (tCons (tVar 7) tNil))))
 (MU ω K (tVar 2) (tVar 4) (tVar 7))
 tNext))))
 (tFrz (tRet (tVar 2))))))
def FT (K:jf) (ω:World) (X:XK):TS:=
 (tRet (tCall (AW K ω) [] X (tCons (tCall (AM K ω) [] X (tCons (FU ω K (tVar 2) (tOp (rIx K) (tVar 0) (tC (.int 1)))) (tCons (FU ω K (tVar 2) (tOp (rIx K) (tVar 0) (tC (.int 0)))) tNil))) (tCons (tCall (B7 K ω) [] X (tCons (tOp (rIx K) (tVar 0) (tC (.int 2))) (tCons (tVar 1) tNil))) tNil))))
def Hc (K:jf) (ω:World) (X:XK):TS:=
 (tSeq (tAsg (tCall (E6 K ω) [] X (tCons (tVar 0) (tCons (tVar 1) tNil))) (gName 3))
 (tSeq (tAsg (tLst (tCons (tCB (cLst K) (tCons (tVar 0) tNil)) (tCons (Nz (tCB (a6 K) (tCons (tVar 1) tNil))) tNil))) (gName 4))
 (tSeq (tAsg (tCall (B6 K ω) [] X (tCons (tOp (rIx K) (tVar 4) (tC (.int 0))) (tCons (tOp (rIx K) (tVar 4) (tC (.int 1))) tNil))) (gName 5))
 (tSeq (tIfS (tOr (tNot (tB (tCB (cIsH ω K) (tCons (tVar 5) (tCons (tC (.ty "dict")) tNil))))) (tOr (tTest (tOp (ag ω K) (tVar 5) (tVar 3))) (tTest (tOp (aB K) (tVar 4) (tLst (tCons (tVar 0) (tCons (tVar 1) tNil)))))))
 (tRet (tC (.bl false)))
 tNext)
 (tSeq (tLock (tFor (Lf ω (tVar 5)) (gName 6)
 (tIfS (tNot (tB (tCall (FS K ω) [] X (tCons (FU ω K (tVar 5) (tVar 6)) (tCons (FU ω K (tVar 3) (tVar 6)) tNil)))))
 (tRet (tC (.bl false)))
 tNext)))
 (tSeq (tAsg (BJ (tCons (tC (.int 0)) (tCons (tC (.int 1)) tNil))) (gName 7))
 (tSeq (tLock (tFor (Lf ω (tVar 5)) (gName 6)
 (tIfS (tB (tCall (BO K ω) [] X (tCons (FU ω K (tVar 2) (tVar 6)) (tCons (tVar 7) tNil))))
 (tAsg (FU ω K (tVar 2) (tVar 6)) (gName 7))
 tNext)))
 (tSeq (tAsg (Pw ω) (gName 8))
 (tSeq (tFor (Lf ω (tVar 2)) (gName 6)
 (MU ω K (tVar 8) (tVar 6) (tCall (AM K ω) [] X (tCons (FU ω K (tVar 2) (tVar 6)) (tCons (tVar 7) tNil)))))
 (tSeq (tFrz (tLock (tIfS (tTest (tOp (qNe K) (tLc (Lf ω (tVar 5)) (gName 6) (tB (tCall (BO K ω) [] E0 (tCons (FU ω K (tVar 8) (tVar 6)) (tCons (FU ω K (tVar 5) (tVar 6)) tNil)))) (tVar 6) [6]) (tLst tNil)))
 (tRet (tC (.bl false)))
 tNext)))
 (tSeq (tFor (iSeq K (tVar 0)) (gName 9)
 (tFor (iSeq K (tLst (tCons (tVar 5) (tCons (tVar 8) tNil)))) (gName 10)
 (tSeq (tAsg (tCall (DR K ω) [] X (tCons (tVar 9) (tCons (tVar 1) (tCons (tVar 10) tNil)))) (gName 11))
 (tIfS (tOr (tNot (tB (tCall (FS K ω) [] X (tCons (tVar 11) (tCons (tCall (EW K ω) [] X (tCons (tVar 9) (tCons (tVar 1) (tCons (tVar 10) tNil)))) tNil))))) (tTest (tOp rLtI (tOp (rIx K) (tVar 11) (tC (.int 0))) (tC (.int 0)))))
 (tRet (tC (.bl false)))
 tNext))))
 (tSeq (tDrop (Ti ω K (tVar 5)))
 (tRet (tOp (Y9 ω K) (Nz (tCall (B6 K ω) [] X (tCons (tOp (rIx K) (tVar 4) (tC (.int 0))) (tCons (tOp (rIx K) (tVar 4) (tC (.int 1))) tNil)))) (tVar 3)))))))))))))))
def YU (K:jf) (ω:World) (X:XK):TS:=
 (tSeq (tFor (iRng1 (tCons (tCB dc (tCons (tC (.int 1)) (tCons (tCB de (tCons (tCB (cLen K) (tCons (tVar 0) tNil)) (tCons (tC (.int 4)) tNil))) tNil))) tNil)) (gName 1)
 (tSeq (tAsg (tCall (El K ω) [] X (tCons (tCall (Ej K ω) [] X (tCons (tVar 0) (tCons (tVar 1) tNil))) tNil)) (gTup K 3 (gCons (gName 2) (gCons (gName 3) (gCons (gName 4) gNil)))))
 (tIfS (tNot (tB (tCall (E7 K ω) [] X (tCons (tVar 2) (tCons (tVar 3) (tCons (tVar 4) tNil))))))
 (tRet (tC (.bl false)))
 tNext)))
 (tRet (tOp (Y9 ω K) (Nz (tCall (B6 K ω) [] X (tCons (tLst tNil) (tCons (Nz tDNewK) tNil)))) (Nz (Pw ω)))))
section
variable {P:Program} {ω:World} {K:jf} {mg:Str→Option Value} {base:Heap}
theorem RN (T:Txt K mg) {f:Addr} {cdv:Value} {A:Around} {outer:List Env} {s:Shared} {H:Hp} {X:XK} (hr:Room 0 (A.deeper (PyProof.Rows.envOfC "is_whole" (defScope Cz) s.heap.objs.size f cdv))) :
    PSs (cxOf (L2.CX P ω) P ω K mg base Lw "is_whole" (defScope Cz) f cdv A outer s H X) (defBody Cz) (K0 K ω X):=
  (pss_one (ps_ret (pe_and (pe_callB JE rfl T.b_isinstance (by decide +kernel) (pa_cons (pv 0) (pa_cons (pe_bltn rfl T.b_int (by decide +kernel) rfl) pa_nil))) (pe_one (pe_not (pe_callB JE rfl T.b_isinstance (by decide +kernel) (pa_cons (pv 0) (pa_cons (pe_bltn rfl T.b_bool (by decide +kernel) rfl) pa_nil))))))))
theorem W5 (T:Txt K mg) {f:Addr} {cdv:Value} {A:Around} {outer:List Env} {s:Shared} {H:Hp} {X:XK} (hr:Room 0 (A.deeper (PyProof.Rows.envOfC "common" (defScope Er) s.heap.objs.size f cdv))) :
    PSs (cxOf (L2.CX P ω) P ω K mg base QQ "common" (defScope Er) f cdv A outer s H X) (defBody Er) (Mz K ω X):=
  (pss_cons (ps_while (passes_of rfl) (pt_cmpR (JW hr.units) (pv 1) pe_int (nomark _))
    (pss_one (ps_par (by rfl) TR.nd rfl rfl (by decide) rfl rfl (pa_cons (pv 1) (pa_cons (pe_op op_modN (pv 0) (pv 1)) pa_nil)) (by rfl))))
    (pss_one (ps_ret (pe_callB call_abs rfl T.b_abs (by decide +kernel) (pa_cons (pv 0) pa_nil)))))
theorem QY (T:Txt K mg) (Kz:Fo P ω K mg base "common" ["one","other"] [] 1 (Hl K ω)) (GZ:Fo P ω K mg base "is_whole" ["thing"] [] 1 (EV K ω)) {f:Addr} {cdv:Value} {A:Around} {outer:List Env} {s:Shared} {H:Hp} {X:XK} (hr:Room 1 (A.deeper (PyProof.Rows.envOfC "number_of" (defScope CM) s.heap.objs.size f cdv))) :
    PSs (cxOf (L2.CX P ω) P ω K mg base Ki "number_of" (defScope CM) f cdv A outer s H X) (defBody CM) (Ip K ω X):=
  (pss_cons (ps_if (PW.pt (pw_or (pt_not (pt_val (A4 GZ (hr.mono (by decide)) (passes_call (takes_of rfl rfl rfl rfl) (fun _ _ _ _ h=>h)) (pa_cons (pv 0) pa_nil)))) (pw_or (pt_not (pt_val (A4 GZ (hr.mono (by decide)) (passes_call (takes_of rfl rfl rfl rfl) (fun _ _ _ _ h=>h)) (pa_cons (pv 1) pa_nil)))) (pw_or1 (pt_cmpR (FL hr.units) (pv 1) pe_int (nomark _))))))
    (pss_one (SQ rfl (takes_of rfl rfl rfl rfl) (T.e_NoNumber.pmk T.g_NoNumber (by exact rfl))))
    pss_nil)
    (pss_cons (ps_set (i:=2) Jr.nd rfl (Or.inl rfl) (A4 Kz (hr.mono (by decide)) (passes_call (takes_of rfl rfl rfl rfl) (fun _ _ _ _ h=>h)) (pa_cons (pv 0) (pa_cons (pv 1) pa_nil))))
    (pss_cons (ps_if (pt_cmpR op_lt (pv 1) pe_int (nomark _))
    (pss_one (ps_set (i:=2) Jr.nd rfl (Or.inl rfl) (pe_op op_sub pe_int (pv 2))))
    pss_nil)
    (pss_one (ps_ret (AX (pa_cons (pe_op NF (pv 0) (pv 2)) (pa_cons (pe_op NF (pv 1) (pv 2)) pa_nil))))))))
theorem ZD (T:Txt K mg) (B3:Fo P ω K mg base "number_of" ["top","bottom"] [] 2 (BQ K ω)) {f:Addr} {cdv:Value} {A:Around} {outer:List Env} {s:Shared} {H:Hp} {X:XK} (hr:Room 2 (A.deeper (PyProof.Rows.envOfC "plus" (defScope J8) s.heap.objs.size f cdv))) :
    PSs (cxOf (L2.CX P ω) P ω K mg base XQ "plus" (defScope J8) f cdv A outer s H X) (defBody J8) (UD K ω X):=
  (pss_one (ps_ret (A4 B3 (hr.mono (by decide)) (passes_call (takes_of rfl rfl rfl rfl) (fun _ _ _ _ h=>h)) (pa_cons (pe_op BE (pe_op B9 (pe_ix ix_seq (pv 0) pe_int (fun _ _=>rfl)) (pe_ix ix_seq (pv 1) pe_int (fun _ _=>rfl))) (pe_op B9 (pe_ix ix_seq (pv 1) pe_int (fun _ _=>rfl)) (pe_ix ix_seq (pv 0) pe_int (fun _ _=>rfl)))) (pa_cons (pe_op B9 (pe_ix ix_seq (pv 0) pe_int (fun _ _=>rfl)) (pe_ix ix_seq (pv 1) pe_int (fun _ _=>rfl))) pa_nil)))))
theorem XS (T:Txt K mg) (B3:Fo P ω K mg base "number_of" ["top","bottom"] [] 2 (BQ K ω)) {f:Addr} {cdv:Value} {A:Around} {outer:List Env} {s:Shared} {H:Hp} {X:XK} (hr:Room 2 (A.deeper (PyProof.Rows.envOfC "minus" (defScope Gg) s.heap.objs.size f cdv))) :
    PSs (cxOf (L2.CX P ω) P ω K mg base U8 "minus" (defScope Gg) f cdv A outer s H X) (defBody Gg) (PV K ω X):=
  (pss_one (ps_ret (A4 B3 (hr.mono (by decide)) (passes_call (takes_of rfl rfl rfl rfl) (fun _ _ _ _ h=>h)) (pa_cons (pe_op op_sub (pe_op B9 (pe_ix ix_seq (pv 0) pe_int (fun _ _=>rfl)) (pe_ix ix_seq (pv 1) pe_int (fun _ _=>rfl))) (pe_op B9 (pe_ix ix_seq (pv 1) pe_int (fun _ _=>rfl)) (pe_ix ix_seq (pv 0) pe_int (fun _ _=>rfl)))) (pa_cons (pe_op B9 (pe_ix ix_seq (pv 0) pe_int (fun _ _=>rfl)) (pe_ix ix_seq (pv 1) pe_int (fun _ _=>rfl))) pa_nil)))))
theorem XT (T:Txt K mg) (B3:Fo P ω K mg base "number_of" ["top","bottom"] [] 2 (BQ K ω)) {f:Addr} {cdv:Value} {A:Around} {outer:List Env} {s:Shared} {H:Hp} {X:XK} (hr:Room 2 (A.deeper (PyProof.Rows.envOfC "times" (defScope Gh) s.heap.objs.size f cdv))) :
    PSs (cxOf (L2.CX P ω) P ω K mg base U9 "times" (defScope Gh) f cdv A outer s H X) (defBody Gh) (PX K ω X):=
  (pss_one (ps_ret (A4 B3 (hr.mono (by decide)) (passes_call (takes_of rfl rfl rfl rfl) (fun _ _ _ _ h=>h)) (pa_cons (pe_op B9 (pe_ix ix_seq (pv 0) pe_int (fun _ _=>rfl)) (pe_ix ix_seq (pv 1) pe_int (fun _ _=>rfl))) (pa_cons (pe_op B9 (pe_ix ix_seq (pv 0) pe_int (fun _ _=>rfl)) (pe_ix ix_seq (pv 1) pe_int (fun _ _=>rfl))) pa_nil)))))
theorem UE (T:Txt K mg) {f:Addr} {cdv:Value} {A:Around} {outer:List Env} {s:Shared} {H:Hp} {X:XK} (hr:Room 0 (A.deeper (PyProof.Rows.envOfC "is_less" (defScope Dz) s.heap.objs.size f cdv))) :
    PSs (cxOf (L2.CX P ω) P ω K mg base NZ "is_less" (defScope Dz) f cdv A outer s H X) (defBody Dz) (LJ K ω X):=
  (pss_one (ps_ret (pe_cmpR op_lt (pe_op B9 (pe_ix ix_seq (pv 0) pe_int (fun _ _=>rfl)) (pe_ix ix_seq (pv 1) pe_int (fun _ _=>rfl))) (pe_op B9 (pe_ix ix_seq (pv 1) pe_int (fun _ _=>rfl)) (pe_ix ix_seq (pv 0) pe_int (fun _ _=>rfl))) (nomark _))))
theorem W6 (T:Txt K mg) (DX:Fo P ω K mg base "plus" ["a","b"] [] 3 (Do K ω)) {f:Addr} {cdv:Value} {A:Around} {outer:List Env} {s:Shared} {H:Hp} {X:XK} (hr:Room 3 (A.deeper (PyProof.Rows.envOfC "sum_of" (defScope EU) s.heap.objs.size f cdv))) :
    PSs (cxOf (L2.CX P ω) P ω K mg base IK "sum_of" (defScope EU) f cdv A outer s H X) (defBody EU) (GB K ω X):=
  (pss_cons (ps_set (i:=2) Hk.nd rfl (Or.inr rfl) pe_dnewK)
    (pss_cons (ps_for (passes_of rfl) rfl (Cb (pv 1)) (pg_tup rfl (pgs_cons (pg_name (i:=3) Hk.nd rfl (Or.inl rfl)) (pgs_cons (pg_name (i:=4) Hk.nd rfl (Or.inl rfl)) pgs_nil)))
    (pss_one (ps_dput (hu_of hr) (pv 2) (pv 3) (A4 DX (hr.mono (by decide)) (passes_call (takes_of rfl rfl rfl rfl) (fun _ _ _ _ h=>h)) (pa_cons (pe_dget2 (hu_of hr) (pv 2) (pv 3) (pe_glob rfl T.g_NOUGHT rfl) ⟨rfl,rfl,rfl,rfl⟩) (pa_cons (pv 4) pa_nil))) rfl)))
    (pss_one (Pg (ps_ret (AX (pa_cons (pv 0) (pa_cons (pe_callTy JH rfl T.b_tuple (by decide +kernel) (pa_cons (pe_lc (own:=[("name",3)]) (g:=(gName 3)) (tt:=(tTest (tOp (qNe K) (tDGet (tVar 2) (tVar 3)) (tC (.ref (He.ga K "NOUGHT")))))) rfl Hk.nd  (Cb (pe_callB (NH rfl) rfl T.b_sorted (by decide +kernel) (pa_cons (pv 2) pa_nil))) (blkOk_by (N:=IK) (sc:=defScope EU) (by decide +kernel)) (fun _ _ _ _ _=>(pg_name (i:=3) Hk.nd rfl (Or.inl rfl))) (fun _ _ _ _ _=>pts_one (pt_cmpR (JW hr.units) (pe_dget (hu_of hr) (pv 2) (pv 3) (fun _ _=>rfl)) (pe_glob rfl T.g_NOUGHT rfl) (nomark _))) (fun _ _ _ _ _=>(AX (pa_cons (pv 3) (pa_cons (pe_dget (hu_of hr) (pv 2) (pv 3) (fun _ _=>rfl)) pa_nil))))) pa_nil)) pa_nil))))))))
theorem RO (T:Txt K mg) (DX:Fo P ω K mg base "plus" ["a","b"] [] 3 (Do K ω)) (Ex:Fo P ω K mg base "sum_of" ["number","pairs"] [] 4 (Ee K ω)) {f:Addr} {cdv:Value} {A:Around} {outer:List Env} {s:Shared} {H:Hp} {X:XK} (hr:Room 4 (A.deeper (PyProof.Rows.envOfC "sum_plus" (defScope D4) s.heap.objs.size f cdv))) :
    PSs (cxOf (L2.CX P ω) P ω K mg base Lx "sum_plus" (defScope D4) f cdv A outer s H X) (defBody D4) (K1 K ω X):=
  (pss_one (ps_ret (A4 Ex (hr.mono (by decide)) (passes_call (takes_of rfl rfl rfl rfl) (fun _ _ _ _ h=>h)) (pa_cons (A4 DX (hr.mono (by decide)) (passes_call (takes_of rfl rfl rfl rfl) (fun _ _ _ _ h=>h)) (pa_cons (pe_ix ix_seq (pv 0) pe_int (fun _ _=>rfl)) (pa_cons (pe_ix ix_seq (pv 1) pe_int (fun _ _=>rfl)) pa_nil))) (pa_cons (pe_op BE (pe_ix ix_seq (pv 0) pe_int (fun _ _=>rfl)) (pe_ix ix_seq (pv 1) pe_int (fun _ _=>rfl))) pa_nil)))))
theorem W7 (T:Txt K mg) (DX:Fo P ω K mg base "plus" ["a","b"] [] 3 (Do K ω)) (NB:Fo P ω K mg base "times" ["a","b"] [] 3 (JT K ω)) {f:Addr} {cdv:Value} {A:Around} {outer:List Env} {s:Shared} {H:Hp} {X:XK} (hr:Room 3 (A.deeper (PyProof.Rows.envOfC "sum_at" (defScope Es) s.heap.objs.size f cdv))) :
    PSs (cxOf (L2.CX P ω) P ω K mg base QR "sum_at" (defScope Es) f cdv A outer s H X) (defBody Es) (N0 K ω X):=
  (pss_cons (ps_set (i:=2) JS.nd rfl (Or.inl rfl) (pe_ix ix_seq (pv 0) pe_int (fun _ _=>rfl)))
    (pss_cons (ps_for (passes_of rfl) rfl (Cb (pe_ix ix_seq (pv 0) pe_int (fun _ _=>rfl))) (pg_tup rfl (pgs_cons (pg_name (i:=3) JS.nd rfl (Or.inl rfl)) (pgs_cons (pg_name (i:=4) JS.nd rfl (Or.inl rfl)) pgs_nil)))
    (pss_cons (ps_if (pt_cmp (pc_dnotin (hu_of hr) (pv 3) (pv 1)))
    (pss_one (SQ rfl (takes_of rfl rfl rfl rfl) (T.e_NoSum.pmk T.g_NoSum (by exact rfl))))
    pss_nil)
    (pss_one (ps_set (i:=2) JS.nd rfl (Or.inl rfl) (A4 DX (hr.mono (by decide)) (passes_call (takes_of rfl rfl rfl rfl) (fun _ _ _ _ h=>h)) (pa_cons (pv 2) (pa_cons (A4 NB (hr.mono (by decide)) (passes_call (takes_of rfl rfl rfl rfl) (fun _ _ _ _ h=>h)) (pa_cons (pv 4) (pa_cons (pe_dget (hu_of hr) (pv 1) (pv 3) (fun _ _=>rfl)) pa_nil))) pa_nil)))))))
    (pss_one (ps_ret (pv 2)))))
theorem RP (T:Txt K mg) {f:Addr} {cdv:Value} {A:Around} {outer:List Env} {s:Shared} {H:Hp} {X:XK} (hr:Room 0 (A.deeper (PyProof.Rows.envOfC "nodes_of" (defScope D5) s.heap.objs.size f cdv))) :
    PSs (cxOf (L2.CX P ω) P ω K mg base Ly "nodes_of" (defScope D5) f cdv A outer s H X) (defBody D5) (K2 K ω X):=
  (pss_cons (ps_set (i:=1) H6.nd rfl (Or.inl rfl) (pe_lst pa_nil))
    (pss_cons (ps_for (passes_of rfl) rfl (Cb (pv 0)) (pg_tup rfl (pgs_cons (pg_name (i:=2) H6.nd rfl (Or.inl rfl)) (pgs_cons (pg_name (i:=3) H6.nd rfl (Or.inl rfl)) (pgs_cons (pg_name (i:=4) H6.nd rfl (Or.inl rfl)) pgs_nil))))
    (pss_one (ps_expr (pe_bm PySem.F.plainAttrs_list PySem.F.slot_list_extend PySem.F.type_list_extend mt_extend (pv 1) (pa_cons (pe_lst (pa_cons (pv 2) (pa_cons (pv 3) pa_nil))) pa_nil)))))
    (pss_one (ps_ret (Ww rfl hr.units rfl T.b_sorted rfl T.b_set (pv 1))))))
theorem M9 (m:Nat) (T:Txt K mg) (CH:Fo P ω K mg base "chains_behind" ["gaps","way"] [] (1+m) (BS m K ω)) {f:Addr} {cdv:Value} {A:Around} {outer:List Env} {s:Shared} {H:Hp} {X:XK} (hr:Room (1+m) (A.deeper (PyProof.Rows.envOfC "chains_behind" (defScope Av) s.heap.objs.size f cdv))) :
    PSs (cxOf (L2.CX P ω) P ω K mg base FI "chains_behind" (defScope Av) f cdv A outer s H X) (defBody Av) (FK m K ω X):=
  (pss_cons (ps_set (i:=2) Bv.nd rfl (Or.inl rfl) (pe_ix ix_seq (pe_ix ix_seq (pv 0) (pe_ix ix_seq (pv 1) (pe_un P9 pe_int) (fun _ _=>rfl)) (fun _ _=>rfl)) pe_int (fun _ _=>rfl)))
    (pss_cons (ps_if (pt_cmpR (FL hr.units) (pv 2) (pe_ix ix_seq (pe_ix ix_seq (pv 0) (pe_ix ix_seq (pv 1) pe_int (fun _ _=>rfl)) (fun _ _=>rfl)) pe_int (fun _ _=>rfl)) (nomark _))
    (pss_one (ps_ret (pe_lst (pa_cons (pe_callTy JH rfl T.b_tuple (by decide +kernel) (pa_cons (pv 1) pa_nil)) pa_nil))))
    pss_nil)
    (pss_cons (ps_set (i:=3) Bv.nd rfl (Or.inl rfl) (pe_lst pa_nil))
    (pss_cons (ps_if (pt_cmpR (op_notInD (gD hr)) (pv 2) (pe_lc (own:=[("k",4)]) (g:=(gName 4)) (tt:=tYes) rfl Bv.nd  (Cb (pv 1)) (blkOk_by (N:=FI) (sc:=defScope Av) (by decide +kernel)) (fun _ _ _ _ _=>(pg_name (i:=4) Bv.nd rfl (Or.inl rfl))) (fun _ _ _ _ _=>pts_nil) (fun _ _ _ _ _=>(pe_ix ix_seq (pe_ix ix_seq (pv 0) (pv 4) (fun _ _=>rfl)) pe_int (fun _ _=>rfl)))) (by rfl))
    (pss_one (ps_for (passes_of rfl) rfl (pi_range2 rfl T.b_range (pa_cons (pe_op BE (pe_ix ix_seq (pv 1) pe_int (fun _ _=>rfl)) pe_int) (pa_cons (pe_callB call_len rfl T.b_len (by decide +kernel) (pa_cons (pv 0) pa_nil)) pa_nil))) (pg_name (i:=4) Bv.nd rfl (Or.inl rfl))
    (pss_one (ps_if (pt_cmpR (FL hr.units) (pe_ix ix_seq (pe_ix ix_seq (pv 0) (pv 4) (fun _ _=>rfl)) pe_int (fun _ _=>rfl)) (pv 2) (nomark _))
    (pss_one (ps_expr (pe_bm PySem.F.plainAttrs_list PySem.F.slot_list_extend PySem.F.type_list_extend Pq (pv 3) (pa_cons (A4 CH (hr.mono (by omega)) (passes_call (takes_of rfl rfl rfl rfl) (fun _ _ _ _ h=>h)) (pa_cons (pv 0) (pa_cons (pe_op BE (pv 1) (pe_lst (pa_cons (pv 4) pa_nil))) pa_nil))) pa_nil))))
    pss_nil))))
    pss_nil)
    (pss_one (ps_ret (pv 3)))))))
theorem QZ (T:Txt K mg) (CH:Fo P ω K mg base "chains_behind" ["gaps","way"] [] 25 (Eg K ω)) {f:Addr} {cdv:Value} {A:Around} {outer:List Env} {s:Shared} {H:Hp} {X:XK} (hr:Room 25 (A.deeper (PyProof.Rows.envOfC "chains_of" (defScope CN) s.heap.objs.size f cdv))) :
    PSs (cxOf (L2.CX P ω) P ω K mg base Kj "chains_of" (defScope CN) f cdv A outer s H X) (defBody CN) (Iq K ω X):=
  (pss_cons (ps_set (i:=1) Js.nd rfl (Or.inl rfl) (pe_lst pa_nil))
    (pss_cons (ps_for (passes_of rfl) rfl (pi_range1 rfl T.b_range (pa_cons (pe_callB call_len rfl T.b_len (by decide +kernel) (pa_cons (pv 0) pa_nil)) pa_nil)) (pg_name (i:=2) Js.nd rfl (Or.inl rfl))
    (pss_one (ps_expr (pe_bm PySem.F.plainAttrs_list PySem.F.slot_list_extend PySem.F.type_list_extend Pq (pv 1) (pa_cons (A4 CH (hr.mono (by decide)) (passes_call (takes_of rfl rfl rfl rfl) (fun _ _ _ _ h=>h)) (pa_cons (pv 0) (pa_cons (pe_lst (pa_cons (pv 2) pa_nil)) pa_nil))) pa_nil)))))
    (pss_one (ps_ret (pv 1)))))
theorem Qa (T:Txt K mg) (Ex:Fo P ω K mg base "sum_of" ["number","pairs"] [] 4 (Ee K ω)) (IZ:Fo P ω K mg base "sum_plus" ["a","b"] [] 5 (Fg K ω)) {f:Addr} {cdv:Value} {A:Around} {outer:List Env} {s:Shared} {H:Hp} {X:XK} (hr:Room 5 (A.deeper (PyProof.Rows.envOfC "chain_sum" (defScope CO) s.heap.objs.size f cdv))) :
    PSs (cxOf (L2.CX P ω) P ω K mg base Kk "chain_sum" (defScope CO) f cdv A outer s H X) (defBody CO) (Ir K ω X):=
  (pss_cons (ps_set (i:=2) HM.nd rfl (Or.inl rfl) (A4 Ex (hr.mono (by decide)) (passes_call (takes_of rfl rfl rfl rfl) (fun _ _ _ _ h=>h)) (pa_cons (AX (pa_cons pe_int (pa_cons pe_int pa_nil))) (pa_cons (pe_lst pa_nil) pa_nil))))
    (pss_cons (ps_for (passes_of rfl) rfl (Cb (pv 1)) (pg_name (i:=3) HM.nd rfl (Or.inl rfl))
    (pss_one (ps_set (i:=2) HM.nd rfl (Or.inl rfl) (A4 IZ (hr.mono (by decide)) (passes_call (takes_of rfl rfl rfl rfl) (fun _ _ _ _ h=>h)) (pa_cons (pv 2) (pa_cons (pe_ix ix_seq (pe_ix ix_seq (pv 0) (pv 3) (fun _ _=>rfl)) pe_int (fun _ _=>rfl)) pa_nil))))))
    (pss_one (ps_ret (pv 2)))))
theorem W8 (T:Txt K mg) (Gp:Fo P ω K mg base "minus" ["a","b"] [] 3 (G8 K ω)) (DX:Fo P ω K mg base "plus" ["a","b"] [] 3 (Do K ω)) (Ey:Fo P ω K mg base "sum_at" ["a","making"] [] 4 (Ef K ω)) {f:Addr} {cdv:Value} {A:Around} {outer:List Env} {s:Shared} {H:Hp} {X:XK} (hr:Room 4 (A.deeper (PyProof.Rows.envOfC "gap_at" (defScope Et) s.heap.objs.size f cdv))) :
    PSs (cxOf (L2.CX P ω) P ω K mg base Kl "gap_at" (defScope Et) f cdv A outer s H X) (defBody Et) (IY K ω X):=
  (pss_cons (ps_asg (pv 0) (pg_tup rfl (pgs_cons (pg_name (i:=3) LG.nd rfl (Or.inl rfl)) (pgs_cons (pg_name (i:=4) LG.nd rfl (Or.inl rfl)) (pgs_cons (pg_name (i:=5) LG.nd rfl (Or.inl rfl)) pgs_nil)))))
    (pss_one (ps_ret (A4 DX (hr.mono (by decide)) (passes_call (takes_of rfl rfl rfl rfl) (fun _ _ _ _ h=>h)) (pa_cons (A4 Gp (hr.mono (by decide)) (passes_call (takes_of rfl rfl rfl rfl) (fun _ _ _ _ h=>h)) (pa_cons (DF hr.units (pv 2) (pv 4) (fun _ _=>rfl)) (pa_cons (DF hr.units (pv 2) (pv 3) (fun _ _=>rfl)) pa_nil))) (pa_cons (A4 Ey (hr.mono (by decide)) (passes_call (takes_of rfl rfl rfl rfl) (fun _ _ _ _ h=>h)) (pa_cons (pv 5) (pa_cons (pv 1) pa_nil))) pa_nil))))))
theorem N1 (T:Txt K mg) (HA:Fo P ω K mg base "chain_sum" ["gaps","chain"] [] 6 (Ei K ω)) (HB:Fo P ω K mg base "chains_of" ["gaps"] [] 26 (Eh K ω)) (E8:Fo P ω K mg base "is_less" ["a","b"] [] 1 (Dq K ω)) (Ey:Fo P ω K mg base "sum_at" ["a","making"] [] 4 (Ef K ω)) {f:Addr} {cdv:Value} {A:Around} {outer:List Env} {s:Shared} {H:Hp} {X:XK} (hr:Room 26 (A.deeper (PyProof.Rows.envOfC "check_chains" (defScope BK) s.heap.objs.size f cdv))) :
    PSs (cxOf (L2.CX P ω) P ω K mg base IL "check_chains" (defScope BK) f cdv A outer s H X) (defBody BK) (GC K ω X):=
  (pss_one (ps_for (passes_of rfl) rfl (Cb (A4 HB (hr.mono (by decide)) (passes_call (takes_of rfl rfl rfl rfl) (fun _ _ _ _ h=>h)) (pa_cons (pv 0) pa_nil))) (pg_name (i:=2) KD.nd rfl (Or.inl rfl))
    (pss_one (ps_if (pt_val (A4 E8 (hr.mono (by decide)) (passes_call (takes_of rfl rfl rfl rfl) (fun _ _ _ _ h=>h)) (pa_cons (A4 Ey (hr.mono (by decide)) (passes_call (takes_of rfl rfl rfl rfl) (fun _ _ _ _ h=>h)) (pa_cons (A4 HA (hr.mono (by decide)) (passes_call (takes_of rfl rfl rfl rfl) (fun _ _ _ _ h=>h)) (pa_cons (pv 0) (pa_cons (pv 2) pa_nil))) (pa_cons (pv 1) pa_nil))) (pa_cons (pe_glob rfl T.g_ZERO rfl) pa_nil))))
    (pss_one fK)
    pss_nil))))
theorem N2 (T:Txt K mg) (EY:Fo P ω K mg base "check_chains" ["gaps","making"] [] 27 (Cm K ω)) (Ez:Fo P ω K mg base "gap_at" ["gap","making","places"] [] 5 (DR K ω)) (E8:Fo P ω K mg base "is_less" ["a","b"] [] 1 (Dq K ω)) (Gp:Fo P ω K mg base "minus" ["a","b"] [] 3 (G8 K ω)) (Ia:Fo P ω K mg base "nodes_of" ["gaps"] [] 1 (Fh K ω)) {f:Addr} {cdv:Value} {A:Around} {outer:List Env} {s:Shared} {H:Hp} {X:XK} (hr:Room 27 (A.deeper (PyProof.Rows.envOfC "least_places" (defScope BL) s.heap.objs.size f cdv))) :
    PSs (cxOf (L2.CX P ω) P ω K mg base IM "least_places" (defScope BL) f cdv A outer s H X) (defBody BL) (GD K ω X):=
  (pss_cons (ps_expr (A4 EY (hr.mono (by decide)) (passes_call (takes_of rfl rfl rfl rfl) (fun _ _ _ _ h=>h)) (pa_cons (pv 0) (pa_cons (pv 1) pa_nil))))
    (pss_cons (ps_set (i:=2) Bm.nd rfl (Or.inl rfl) MV)
    (pss_cons (ps_for (passes_of rfl) rfl (Cb (A4 Ia (hr.mono (by decide)) (passes_call (takes_of rfl rfl rfl rfl) (fun _ _ _ _ h=>h)) (pa_cons (pv 0) pa_nil))) (pg_name (i:=3) Bm.nd rfl (Or.inl rfl))
    (pss_one (Jc hr.units (pv 2) (pv 3) (pe_glob rfl T.g_ZERO rfl) rfl)))
    (pss_cons (ps_set (i:=4) Bm.nd rfl (Or.inl rfl) pe_bl)
    (pss_cons (ps_while (passes_of rfl) (pt_val (pv 4))
    (pss_cons (ps_set (i:=4) Bm.nd rfl (Or.inl rfl) pe_bl)
    (pss_one (ps_for (passes_of rfl) rfl (Cb (pv 0)) (pg_name (i:=5) Bm.nd rfl (Or.inl rfl))
    (pss_cons (ps_set (i:=6) Bm.nd rfl (Or.inl rfl) (A4 Ez (hr.mono (by decide)) (passes_call (takes_of rfl rfl rfl rfl) (fun _ _ _ _ h=>h)) (pa_cons (pv 5) (pa_cons (pv 1) (pa_cons (pv 2) pa_nil)))))
    (pss_one (ps_if (pt_val (A4 E8 (hr.mono (by decide)) (passes_call (takes_of rfl rfl rfl rfl) (fun _ _ _ _ h=>h)) (pa_cons (pv 6) (pa_cons (pe_glob rfl T.g_ZERO rfl) pa_nil))))
    (pss_cons (Jc hr.units (pv 2) (pe_ix ix_seq (pv 5) pe_int (fun _ _=>rfl)) (A4 Gp (hr.mono (by decide)) (passes_call (takes_of rfl rfl rfl rfl) (fun _ _ _ _ h=>h)) (pa_cons (DF hr.units (pv 2) (pe_ix ix_seq (pv 5) pe_int (fun _ _=>rfl)) (fun _ _=>rfl)) (pa_cons (pv 6) pa_nil))) rfl)
    (pss_one (ps_set (i:=4) Bm.nd rfl (Or.inl rfl) pe_bl)))
    pss_nil)))))))
    (pss_one (ps_ret (pv 2))))))))
theorem Qb (T:Txt K mg) {f:Addr} {cdv:Value} {A:Around} {outer:List Env} {s:Shared} {H:Hp} {X:XK} (hr:Room 0 (A.deeper (PyProof.Rows.envOfC "_law_well" (defScope CP) s.heap.objs.size f cdv))) :
    PSs (cxOf (L2.CX P ω) P ω K mg base Km "_law_well" (defScope CP) f cdv A outer s H X) (defBody CP) (Iu K ω X):=
  (pss_cons (ps_set (i:=2) Jt.nd rfl (Or.inl rfl) pe_int)
    (pss_cons (ps_if (pt_cmpR op_lt (pv 1) (pe_callB call_len rfl T.b_len (by decide +kernel) (pa_cons (pv 0) pa_nil)) (nomark _))
    (pss_one (ps_set (i:=2) Jt.nd rfl (Or.inl rfl) (pe_ix ix_seq (pv 0) (pv 1) (fun _ _=>rfl))))
    pss_nil)
    (pss_one (ps_ret (pe_lst (pa_cons (pe_callTy call_int1 rfl T.b_int (by decide +kernel) (pa_cons (pe_cmpR op_ge (pe_callB call_abs rfl T.b_abs (by decide +kernel) (pa_cons (pv 2) pa_nil)) (pe_op op_pow pe_int pe_int) (nomark _)) pa_nil)) (pa_cons (pv 2) (pa_cons (pe_op B9 pe_int (pv 1)) pa_nil))))))))
theorem Qc (T:Txt K mg) {f:Addr} {cdv:Value} {A:Around} {outer:List Env} {s:Shared} {H:Hp} {X:XK} (hr:Room 0 (A.deeper (PyProof.Rows.envOfC "_law_take" (defScope CQ) s.heap.objs.size f cdv))) :
    PSs (cxOf (L2.CX P ω) P ω K mg base Kn "_law_take" (defScope CQ) f cdv A outer s H X) (defBody CQ) (Iv K ω X):=
  (pss_cons (ps_if (pt_cmpR (FL hr.units) (pe_ix ix_seq (pv 0) pe_int (fun _ _=>rfl)) pe_int (nomark _))
    (pss_cons (ps_set (i:=2) HN.nd rfl (Or.inl rfl) (pe_op op_modN (pe_ix ix_seq (pv 0) pe_int (fun _ _=>rfl)) (pv 1)))
    (pss_cons (ps_asg (pe_op NF (pe_ix ix_seq (pv 0) pe_int (fun _ _=>rfl)) (pv 1)) (pg_sub (pv 0) pe_int set_list))
    (pss_one (ps_ret (pv 2)))))
    pss_nil)
    (pss_cons (ps_set (i:=3) HN.nd rfl (Or.inl rfl) (pe_op BE (pe_ix ix_seq (pv 0) pe_int (fun _ _=>rfl)) pe_int))
    (pss_cons (ps_asg (pv 3) (pg_sub (pv 0) pe_int set_list))
    (pss_cons (ps_set (i:=4) HN.nd rfl (Or.inl rfl) (pe_op op_modN (pe_op B9 (pe_op BE (pe_op BE (pe_ix ix_seq (pv 0) pe_int (fun _ _=>rfl)) (pe_op B9 (pe_op B9 pe_int (pv 3)) (pv 3))) (pv 3)) pe_int) pe_int))
    (pss_one (ps_ret (pe_op op_modN (pe_op NF (pe_op op_modN (pe_op BE (pe_op B9 (pv 4) pe_int) pe_int) pe_int) pe_int) (pv 1))))))))
theorem Na (T:Txt K mg) {f:Addr} {cdv:Value} {A:Around} {outer:List Env} {s:Shared} {H:Hp} {X:XK} (hr:Room 0 (A.deeper (PyProof.Rows.envOfC "_law_common" (defScope BX) s.heap.objs.size f cdv))) :
    PSs (cxOf (L2.CX P ω) P ω K mg base J9 "_law_common" (defScope BX) f cdv A outer s H X) (defBody BX) (Gk K ω X):=
  (pss_cons (ps_while (passes_of rfl) (pt_cmpR (JW hr.units) (pv 1) pe_int (nomark _))
    (pss_one (ps_par (by rfl) Ko.nd rfl rfl (by decide) rfl rfl (pa_cons (pv 1) (pa_cons (pe_op op_modN (pv 0) (pv 1)) pa_nil)) (by rfl))))
    (pss_one (ps_ret (pe_callB call_abs rfl T.b_abs (by decide +kernel) (pa_cons (pv 0) pa_nil)))))
theorem RQ (T:Txt K mg) (FA:Fo P ω K mg base "_law_common" ["_law_one","_law_other"] [] 1 (DU K ω)) {f:Addr} {cdv:Value} {A:Around} {outer:List Env} {s:Shared} {H:Hp} {X:XK} (hr:Room 1 (A.deeper (PyProof.Rows.envOfC "_law_num" (defScope D6) s.heap.objs.size f cdv))) :
    PSs (cxOf (L2.CX P ω) P ω K mg base Lz "_law_num" (defScope D6) f cdv A outer s H X) (defBody D6) (K3 K ω X):=
  (pss_cons (ps_if (pt_cmpR op_lt (pv 1) pe_int (nomark _))
    (pss_cons (ps_set (i:=0) Io.nd rfl (Or.inl rfl) (pe_op op_sub pe_int (pv 0)))
    (pss_one (ps_set (i:=1) Io.nd rfl (Or.inl rfl) (pe_op op_sub pe_int (pv 1)))))
    pss_nil)
    (pss_cons (ps_set (i:=2) Io.nd rfl (Or.inl rfl) (A4 FA (hr.mono (by decide)) (passes_call (takes_of rfl rfl rfl rfl) (fun _ _ _ _ h=>h)) (pa_cons (pv 0) (pa_cons (pv 1) pa_nil))))
    (pss_one (ps_ret (AX (pa_cons (pe_op NF (pv 0) (pv 2)) (pa_cons (pe_op NF (pv 1) (pv 2)) pa_nil)))))))
theorem RR (T:Txt K mg) (AR:Fo P ω K mg base "_law_num" ["_law_top","_law_bottom"] [] 2 (Ac K ω)) {f:Addr} {cdv:Value} {A:Around} {outer:List Env} {s:Shared} {H:Hp} {X:XK} (hr:Room 2 (A.deeper (PyProof.Rows.envOfC "_law_add" (defScope D7) s.heap.objs.size f cdv))) :
    PSs (cxOf (L2.CX P ω) P ω K mg base M3 "_law_add" (defScope D7) f cdv A outer s H X) (defBody D7) (K4 K ω X):=
  (pss_one (ps_ret (A4 AR (hr.mono (by decide)) (passes_call (takes_of rfl rfl rfl rfl) (fun _ _ _ _ h=>h)) (pa_cons (pe_op BE (pe_op B9 (pe_ix ix_seq (pv 0) pe_int (fun _ _=>rfl)) (pe_ix ix_seq (pv 1) pe_int (fun _ _=>rfl))) (pe_op B9 (pe_ix ix_seq (pv 1) pe_int (fun _ _=>rfl)) (pe_ix ix_seq (pv 0) pe_int (fun _ _=>rfl)))) (pa_cons (pe_op B9 (pe_ix ix_seq (pv 0) pe_int (fun _ _=>rfl)) (pe_ix ix_seq (pv 1) pe_int (fun _ _=>rfl))) pa_nil)))))
theorem RS (T:Txt K mg) (AR:Fo P ω K mg base "_law_num" ["_law_top","_law_bottom"] [] 2 (Ac K ω)) {f:Addr} {cdv:Value} {A:Around} {outer:List Env} {s:Shared} {H:Hp} {X:XK} (hr:Room 2 (A.deeper (PyProof.Rows.envOfC "_law_mul" (defScope D8) s.heap.objs.size f cdv))) :
    PSs (cxOf (L2.CX P ω) P ω K mg base M4 "_law_mul" (defScope D8) f cdv A outer s H X) (defBody D8) (K5 K ω X):=
  (pss_one (ps_ret (A4 AR (hr.mono (by decide)) (passes_call (takes_of rfl rfl rfl rfl) (fun _ _ _ _ h=>h)) (pa_cons (pe_op B9 (pe_ix ix_seq (pv 0) pe_int (fun _ _=>rfl)) (pe_ix ix_seq (pv 1) pe_int (fun _ _=>rfl))) (pa_cons (pe_op B9 (pe_ix ix_seq (pv 0) pe_int (fun _ _=>rfl)) (pe_ix ix_seq (pv 1) pe_int (fun _ _=>rfl))) pa_nil)))))
theorem Qd (T:Txt K mg) (AL:Fo P ω K mg base "_law_add" ["_law_one","_law_other"] [] 3 (AW K ω)) {f:Addr} {cdv:Value} {A:Around} {outer:List Env} {s:Shared} {H:Hp} {X:XK} (hr:Room 3 (A.deeper (PyProof.Rows.envOfC "_law_less" (defScope CS) s.heap.objs.size f cdv))) :
    PSs (cxOf (L2.CX P ω) P ω K mg base Kp "_law_less" (defScope CS) f cdv A outer s H X) (defBody CS) (Iw K ω X):=
  (pss_one (ps_ret (A4 AL (hr.mono (by decide)) (passes_call (takes_of rfl rfl rfl rfl) (fun _ _ _ _ h=>h)) (pa_cons (pv 0) (pa_cons (AX (pa_cons (pe_op op_sub pe_int (pe_ix ix_seq (pv 1) pe_int (fun _ _=>rfl))) (pa_cons (pe_ix ix_seq (pv 1) pe_int (fun _ _=>rfl)) pa_nil))) pa_nil)))))
theorem OS (T:Txt K mg) {f:Addr} {cdv:Value} {A:Around} {outer:List Env} {s:Shared} {H:Hp} {X:XK} (hr:Room 0 (A.deeper (PyProof.Rows.envOfC "_law_below" (defScope Bz) s.heap.objs.size f cdv))) :
    PSs (cxOf (L2.CX P ω) P ω K mg base Ju "_law_below" (defScope Bz) f cdv A outer s H X) (defBody Bz) (HU K ω X):=
  (pss_one (ps_ret (pe_cmpR op_lt (pe_op B9 (pe_ix ix_seq (pv 0) pe_int (fun _ _=>rfl)) (pe_ix ix_seq (pv 1) pe_int (fun _ _=>rfl))) (pe_op B9 (pe_ix ix_seq (pv 1) pe_int (fun _ _=>rfl)) (pe_ix ix_seq (pv 0) pe_int (fun _ _=>rfl))) (nomark _))))
theorem OT (T:Txt K mg) (A7:Fo P ω K mg base "_law_take" ["_law_well_here","_law_many"] [] 1 (A8 K ω)) {f:Addr} {cdv:Value} {A:Around} {outer:List Env} {s:Shared} {H:Hp} {X:XK} (hr:Room 1 (A.deeper (PyProof.Rows.envOfC "_law_names" (defScope Bf) s.heap.objs.size f cdv))) :
    PSs (cxOf (L2.CX P ω) P ω K mg base HP "_law_names" (defScope Bf) f cdv A outer s H X) (defBody Bf) (HV K ω X):=
  (pss_one (ps_ret (pe_lc (own:=[("_law_k",2)]) (g:=(gName 2)) (tt:=tYes) rfl JA.nd  (pi_range1 rfl T.b_range (pa_cons (pv 1) pa_nil)) (blkOk_by (N:=HP) (sc:=defScope Bf) (by decide +kernel)) (fun _ _ _ _ _=>(pg_name (i:=2) JA.nd rfl (Or.inl rfl))) (fun _ _ _ _ _=>pts_nil) (fun _ _ _ _ _=>(pe_op BE (pe_ix ix_seq (pe_lst (pa_cons pe_str (pa_cons pe_str (pa_cons pe_str (pa_cons pe_str pa_nil))))) (A4 A7 (hr.mono (by decide)) passL (pa_cons (pv 0) (pa_cons pe_int pa_nil))) (fun _ _=>rfl)) (pe_ix ix_seq pe_str (pv 2) (fun _ _=>rfl)))))))
theorem Qe (T:Txt K mg) (AR:Fo P ω K mg base "_law_num" ["_law_top","_law_bottom"] [] 2 (Ac K ω)) (A7:Fo P ω K mg base "_law_take" ["_law_well_here","_law_many"] [] 1 (A8 K ω)) {f:Addr} {cdv:Value} {A:Around} {outer:List Env} {s:Shared} {H:Hp} {X:XK} (hr:Room 2 (A.deeper (PyProof.Rows.envOfC "_law_some" (defScope CT) s.heap.objs.size f cdv))) :
    PSs (cxOf (L2.CX P ω) P ω K mg base Kq "_law_some" (defScope CT) f cdv A outer s H X) (defBody CT) (Iy K ω X):=
  (pss_cons (ps_if (pt_cmpR (FL hr.units) (pv 1) pe_int (nomark _))
    (pss_one (ps_ret (AX (pa_cons (pe_op op_sub (A4 A7 (hr.mono (by decide)) (passes_call (takes_of rfl rfl rfl rfl) (fun _ _ _ _ h=>h)) (pa_cons (pv 0) (pa_cons (pe_op BE (pe_op B9 pe_int (pe_op op_pow pe_int pe_int)) pe_int) pa_nil))) (pe_op op_pow pe_int pe_int)) (pa_cons pe_int pa_nil)))))
    pss_nil)
    (pss_cons (ps_if (pt_cmpR (FL hr.units) (pv 1) pe_int (nomark _))
    (pss_one (ps_ret (A4 AR (hr.mono (by decide)) (passes_call (takes_of rfl rfl rfl rfl) (fun _ _ _ _ h=>h)) (pa_cons (pe_op op_sub (A4 A7 (hr.mono (by decide)) (passes_call (takes_of rfl rfl rfl rfl) (fun _ _ _ _ h=>h)) (pa_cons (pv 0) (pa_cons (pe_op BE (pe_op B9 pe_int (pe_op op_pow pe_int pe_int)) pe_int) pa_nil))) (pe_op op_pow pe_int pe_int)) (pa_cons (pe_op BE pe_int (A4 A7 (hr.mono (by decide)) (passes_call (takes_of rfl rfl rfl rfl) (fun _ _ _ _ h=>h)) (pa_cons (pv 0) (pa_cons pe_int pa_nil)))) pa_nil)))))
    pss_nil)
    (pss_cons (ps_if (pt_cmpR (FL hr.units) (pv 1) pe_int (nomark _))
    (pss_one (ps_ret (AX (pa_cons (pe_op op_sub (A4 A7 (hr.mono (by decide)) (passes_call (takes_of rfl rfl rfl rfl) (fun _ _ _ _ h=>h)) (pa_cons (pv 0) (pa_cons (pe_op BE (pe_op B9 pe_int (pe_op op_pow pe_int pe_int)) pe_int) pa_nil))) (pe_op op_pow pe_int pe_int)) (pa_cons pe_int pa_nil)))))
    pss_nil)
    (pss_one (ps_ret (A4 AR (hr.mono (by decide)) (passes_call (takes_of rfl rfl rfl rfl) (fun _ _ _ _ h=>h)) (pa_cons (pe_op op_sub (A4 A7 (hr.mono (by decide)) (passes_call (takes_of rfl rfl rfl rfl) (fun _ _ _ _ h=>h)) (pa_cons (pv 0) (pa_cons pe_int pa_nil))) pe_int) (pa_cons (pe_ix ix_seq (pe_lst (pa_cons pe_int (pa_cons pe_int (pa_cons pe_int (pa_cons pe_int (pa_cons pe_int pa_nil)))))) (A4 A7 (hr.mono (by decide)) (passes_call (takes_of rfl rfl rfl rfl) (fun _ _ _ _ h=>h)) (pa_cons (pv 0) (pa_cons pe_int pa_nil))) (fun _ _=>rfl)) pa_nil))))))))
theorem Qf (T:Txt K mg) (CZ:Fo P ω K mg base "_law_some" ["_law_well_here","_law_kind"] [] 3 (CL K ω)) (A7:Fo P ω K mg base "_law_take" ["_law_well_here","_law_many"] [] 1 (A8 K ω)) {f:Addr} {cdv:Value} {A:Around} {outer:List Env} {s:Shared} {H:Hp} {X:XK} (hr:Room 3 (A.deeper (PyProof.Rows.envOfC "_law_wide" (defScope CU) s.heap.objs.size f cdv))) :
    PSs (cxOf (L2.CX P ω) P ω K mg base Kr "_law_wide" (defScope CU) f cdv A outer s H X) (defBody CU) (Iz K ω X):=
  (pss_cons (ps_set (i:=2) Mp.nd rfl (Or.inl rfl) (A4 CZ (hr.mono (by decide)) (passes_call (takes_of rfl rfl rfl rfl) (fun _ _ _ _ h=>h)) (pa_cons (pv 0) (pa_cons (pv 1) pa_nil))))
    (pss_cons (ps_if (pt_cmpR (FL hr.units) (A4 A7 (hr.mono (by decide)) (passes_call (takes_of rfl rfl rfl rfl) (fun _ _ _ _ h=>h)) (pa_cons (pv 0) (pa_cons pe_int pa_nil))) pe_int (nomark _))
    (pss_one (ps_ret (AX (pa_cons pe_int (pa_cons pe_int pa_nil)))))
    pss_nil)
    (pss_one (ps_ret (AX (pa_cons (pe_callB call_abs rfl T.b_abs (by decide +kernel) (pa_cons (pe_ix ix_seq (pv 2) pe_int (fun _ _=>rfl)) pa_nil)) (pa_cons (pe_ix ix_seq (pv 2) pe_int (fun _ _=>rfl)) pa_nil)))))))
theorem OU (T:Txt K mg) (AL:Fo P ω K mg base "_law_add" ["_law_one","_law_other"] [] 3 (AW K ω)) (GG:Fo P ω K mg base "_law_names" ["_law_well_here","_law_many"] [] 2 (E1 K ω)) (CZ:Fo P ω K mg base "_law_some" ["_law_well_here","_law_kind"] [] 3 (CL K ω)) (A7:Fo P ω K mg base "_law_take" ["_law_well_here","_law_many"] [] 1 (A8 K ω)) (Fk:Fo P ω K mg base "_law_wide" ["_law_well_here","_law_kind"] [] 4 (Dt K ω)) {f:Addr} {cdv:Value} {A:Around} {outer:List Env} {s:Shared} {H:Hp} {X:XK} (hr:Room 4 (A.deeper (PyProof.Rows.envOfC "_law_sizes" (defScope C0) s.heap.objs.size f cdv))) :
    PSs (cxOf (L2.CX P ω) P ω K mg base Jv "_law_sizes" (defScope C0) f cdv A outer s H X) (defBody C0) (HW K ω X):=
  (pss_cons (ps_set (i:=4) BY.nd rfl (Or.inl rfl) (A4 A7 (hr.mono (by decide)) (passes_call (takes_of rfl rfl rfl rfl) (fun _ _ _ _ h=>h)) (pa_cons (pv 0) (pa_cons (pv 3) pa_nil))))
    (pss_cons (ps_set (i:=5) BY.nd rfl (Or.inl rfl) (A4 GG (hr.mono (by decide)) (passes_call (takes_of rfl rfl rfl rfl) (fun _ _ _ _ h=>h)) (pa_cons (pv 0) (pa_cons (pv 2) pa_nil))))
    (pss_cons (ps_set (i:=6) BY.nd rfl (Or.inl rfl) (pe_lst pa_nil))
    (pss_cons (ps_while (passes_of rfl) (PW.pt (pw_and (pt_cmpR (JW hr.units) (pv 5) (pe_lst pa_nil) (nomark _)) (pw_and1 (pt_cmpR op_lt (pe_callB call_len rfl T.b_len (by decide +kernel) (pa_cons (pv 6) pa_nil)) (pv 1) (nomark _)))))
    (pss_cons (ps_set (i:=7) BY.nd rfl (Or.inl rfl) (pe_bm0 PySem.F.plainAttrs_list PySem.F.slot_list_pop PySem.F.type_list_pop mt_pop (pv 5)))
    (pss_cons (ps_set (i:=8) BY.nd rfl (Or.inl rfl) (A4 CZ (hr.mono (by decide)) (passes_call (takes_of rfl rfl rfl rfl) (fun _ _ _ _ h=>h)) (pa_cons (pv 0) (pa_cons (pv 4) pa_nil))))
    (pss_cons (ps_set (i:=9) BY.nd rfl (Or.inl rfl) (A4 AL (hr.mono (by decide)) (passes_call (takes_of rfl rfl rfl rfl) (fun _ _ _ _ h=>h)) (pa_cons (pv 8) (pa_cons (A4 Fk (hr.mono (by decide)) (passes_call (takes_of rfl rfl rfl rfl) (fun _ _ _ _ h=>h)) (pa_cons (pv 0) (pa_cons (pv 4) pa_nil))) pa_nil))))
    (pss_cons (ps_set (i:=10) BY.nd rfl (Or.inl rfl) (pe_lst pa_nil))
    (pss_cons (ps_for (passes_of rfl) rfl (pi_range1 rfl T.b_range (pa_cons (pe_ix ix_seq (pe_lst (pa_cons pe_int (pa_cons pe_int (pa_cons pe_int (pa_cons pe_int (pa_cons pe_int (pa_cons pe_int pa_nil))))))) (A4 A7 (hr.mono (by decide)) (passes_call (takes_of rfl rfl rfl rfl) (fun _ _ _ _ h=>h)) (pa_cons (pv 0) (pa_cons pe_int pa_nil))) (fun _ _=>rfl)) pa_nil)) (pg_name (i:=11) BY.nd rfl (Or.inl rfl))
    (pss_one (ps_if (pt_cmpR (JW hr.units) (pv 5) (pe_lst pa_nil) (nomark _))
    (pss_cons (ps_set (i:=12) BY.nd rfl (Or.inl rfl) (A4 Fk (hr.mono (by decide)) (passes_call (takes_of rfl rfl rfl rfl) (fun _ _ _ _ h=>h)) (pa_cons (pv 0) (pa_cons (pv 4) pa_nil))))
    (pss_one (ps_expr (pe_bm PySem.F.plainAttrs_list PySem.F.slot_list_append PySem.F.type_list_append mt_append (pv 10) (pa_cons (AX (pa_cons (pe_bm0 PySem.F.plainAttrs_list PySem.F.slot_list_pop PySem.F.type_list_pop mt_pop (pv 5)) (pa_cons (pv 12) (pa_cons (pe_ix ix_seq (pe_lst (pa_cons pe_str (pa_cons pe_str (pa_cons pe_str pa_nil)))) (A4 A7 (hr.mono (by decide)) (passes_call (takes_of rfl rfl rfl rfl) (fun _ _ _ _ h=>h)) (pa_cons (pv 0) (pa_cons pe_int pa_nil))) (fun _ _=>rfl)) pa_nil)))) pa_nil)))))
    pss_nil)))
    (pss_one (ps_expr (pe_bm PySem.F.plainAttrs_list PySem.F.slot_list_append PySem.F.type_list_append mt_append (pv 6) (pa_cons (AX (pa_cons (pv 7) (pa_cons (pv 8) (pa_cons (pv 9) (pa_cons (pe_callTy JH rfl T.b_tuple (by decide +kernel) (pa_cons (pv 10) pa_nil)) pa_nil))))) pa_nil))))))))))
    (pss_one (ps_ret (pv 6)))))))
theorem Qg (T:Txt K mg) (AL:Fo P ω K mg base "_law_add" ["_law_one","_law_other"] [] 3 (AW K ω)) (AI:Fo P ω K mg base "_law_less" ["_law_one","_law_other"] [] 4 (AM K ω)) {f:Addr} {cdv:Value} {A:Around} {outer:List Env} {s:Shared} {H:Hp} {X:XK} (hr:Room 4 (A.deeper (PyProof.Rows.envOfC "_law_room" (defScope CV) s.heap.objs.size f cdv))) :
    PSs (cxOf (L2.CX P ω) P ω K mg base Ks "_law_room" (defScope CV) f cdv A outer s H X) (defBody CV) (J0 K ω X):=
  (pss_cons (ps_asg (pv 0) (pg_tup rfl (pgs_cons (pg_name (i:=3) Cu.nd rfl (Or.inl rfl)) (pgs_cons (pg_name (i:=4) Cu.nd rfl (Or.inl rfl)) (pgs_cons (pg_name (i:=5) Cu.nd rfl (Or.inl rfl)) (pgs_cons (pg_name (i:=6) Cu.nd rfl (Or.inl rfl)) pgs_nil))))))
    (pss_cons (ps_for (passes_of rfl) rfl (Cb (pv 6)) (pg_tup rfl (pgs_cons (pg_name (i:=7) Cu.nd rfl (Or.inl rfl)) (pgs_cons (pg_name (i:=8) Cu.nd rfl (Or.inl rfl)) (pgs_cons (pg_name (i:=9) Cu.nd rfl (Or.inl rfl)) pgs_nil))))
    (pss_cons (ps_if (PW.pt (pw_and (pt_cmpR (FL hr.units) (pv 7) (pv 1) (nomark _)) (pw_and1 (pt_cmpR (FL hr.units) (pv 9) pe_str (nomark _)))))
    (pss_one (ps_ret (pv 8)))
    pss_nil)
    (pss_cons (ps_if (PW.pt (pw_and (pt_cmpR (FL hr.units) (pv 7) (pv 1) (nomark _)) (pw_and1 (pt_cmpR (FL hr.units) (pv 9) pe_str (nomark _)))))
    (pss_one (ps_ret (A4 AL (hr.mono (by decide)) (passes_call (takes_of rfl rfl rfl rfl) (fun _ _ _ _ h=>h)) (pa_cons (pv 8) (pa_cons (A4 AI (hr.mono (by decide)) (passes_call (takes_of rfl rfl rfl rfl) (fun _ _ _ _ h=>h)) (pa_cons (pv 2) (pa_cons (pv 4) pa_nil))) pa_nil)))))
    pss_nil)
    (pss_one (ps_if (pt_cmpR (FL hr.units) (pv 7) (pv 1) (nomark _))
    (pss_one (ps_ret (A4 AL (hr.mono (by decide)) (passes_call (takes_of rfl rfl rfl rfl) (fun _ _ _ _ h=>h)) (pa_cons (pv 8) (pa_cons (A4 AI (hr.mono (by decide)) (passes_call (takes_of rfl rfl rfl rfl) (fun _ _ _ _ h=>h)) (pa_cons (pv 5) (pa_cons (pv 2) pa_nil))) pa_nil)))))
    pss_nil)))))
    (pss_one (ps_ret pe_non))))
theorem Nc (T:Txt K mg) (AL:Fo P ω K mg base "_law_add" ["_law_one","_law_other"] [] 3 (AW K ω)) (AI:Fo P ω K mg base "_law_less" ["_law_one","_law_other"] [] 4 (AM K ω)) (AZ:Fo P ω K mg base "_law_mul" ["_law_one","_law_other"] [] 3 (Af K ω)) (AR:Fo P ω K mg base "_law_num" ["_law_top","_law_bottom"] [] 2 (Ac K ω)) (HC:Fo P ω K mg base "_law_room" ["_law_size","_law_shift","_law_value_here"] [] 5 (Ek K ω)) (A7:Fo P ω K mg base "_law_take" ["_law_well_here","_law_many"] [] 1 (A8 K ω)) {f:Addr} {cdv:Value} {A:Around} {outer:List Env} {s:Shared} {H:Hp} {X:XK} (hr:Room 5 (A.deeper (PyProof.Rows.envOfC "_law_making" (defScope BZ) s.heap.objs.size f cdv))) :
    PSs (cxOf (L2.CX P ω) P ω K mg base JB "_law_making" (defScope BZ) f cdv A outer s H X) (defBody BZ) (Gm K ω X):=
  (pss_cons (ps_set (i:=2) Bg.nd rfl (Or.inl rfl) pe_dnewK)
    (pss_cons (ps_for (passes_of rfl) rfl (Cb (pv 1)) (pg_name (i:=3) Bg.nd rfl (Or.inl rfl))
    (pss_cons (ps_set (i:=4) Bg.nd rfl (Or.inl rfl) (pe_op BE pe_int (A4 A7 (hr.mono (by decide)) (passes_call (takes_of rfl rfl rfl rfl) (fun _ _ _ _ h=>h)) (pa_cons (pv 0) (pa_cons pe_int pa_nil)))))
    (pss_cons (ps_set (i:=5) Bg.nd rfl (Or.inl rfl) (A4 AR (hr.mono (by decide)) (passes_call (takes_of rfl rfl rfl rfl) (fun _ _ _ _ h=>h)) (pa_cons (A4 A7 (hr.mono (by decide)) (passes_call (takes_of rfl rfl rfl rfl) (fun _ _ _ _ h=>h)) (pa_cons (pv 0) (pa_cons (pe_op BE (pv 4) pe_int) pa_nil))) (pa_cons (pv 4) pa_nil))))
    (pss_cons (ps_dput (hu_of hr) (pv 2) (pe_ix ix_seq (pv 3) pe_int (fun _ _=>rfl)) (A4 AL (hr.mono (by decide)) (passes_call (takes_of rfl rfl rfl rfl) (fun _ _ _ _ h=>h)) (pa_cons (pe_ix ix_seq (pv 3) pe_int (fun _ _=>rfl)) (pa_cons (A4 AZ (hr.mono (by decide)) (passes_call (takes_of rfl rfl rfl rfl) (fun _ _ _ _ h=>h)) (pa_cons (pv 5) (pa_cons (A4 AI (hr.mono (by decide)) (passes_call (takes_of rfl rfl rfl rfl) (fun _ _ _ _ h=>h)) (pa_cons (pe_ix ix_seq (pv 3) pe_int (fun _ _=>rfl)) (pa_cons (pe_ix ix_seq (pv 3) pe_int (fun _ _=>rfl)) pa_nil))) pa_nil))) pa_nil))) rfl)
    (pss_one (ps_for (passes_of rfl) rfl (Cb (pe_ix ix_seq (pv 3) pe_int (fun _ _=>rfl))) (pg_tup rfl (pgs_cons (pg_name (i:=6) Bg.nd rfl (Or.inl rfl)) (pgs_cons (pg_name (i:=7) Bg.nd rfl (Or.inl rfl)) (pgs_cons (pg_name (i:=8) Bg.nd rfl (Or.inl rfl)) pgs_nil))))
    (pss_cons (ps_set (i:=5) Bg.nd rfl (Or.inl rfl) (A4 AR (hr.mono (by decide)) (passes_call (takes_of rfl rfl rfl rfl) (fun _ _ _ _ h=>h)) (pa_cons (pe_op op_sub (A4 A7 (hr.mono (by decide)) (passes_call (takes_of rfl rfl rfl rfl) (fun _ _ _ _ h=>h)) (pa_cons (pv 0) (pa_cons (pe_op BE (pe_op B9 pe_int (pv 4)) pe_int) pa_nil))) (pv 4)) (pa_cons (pv 4) pa_nil))))
    (pss_one (ps_dput (hu_of hr) (pv 2) (pv 6) (A4 AZ (hr.mono (by decide)) (passes_call (takes_of rfl rfl rfl rfl) (fun _ _ _ _ h=>h)) (pa_cons (pv 5) (pa_cons (A4 HC (hr.mono (by decide)) (passes_call (takes_of rfl rfl rfl rfl) (fun _ _ _ _ h=>h)) (pa_cons (pv 3) (pa_cons (pv 6) (pa_cons (pe_dget (hu_of hr) (pv 2) (pe_ix ix_seq (pv 3) pe_int (fun _ _=>rfl)) (fun _ _=>rfl)) pa_nil)))) pa_nil))) rfl)))))))))
    (pss_one (Pg (ps_ret (pv 2))))))
theorem UF (T:Txt K mg) {f:Addr} {cdv:Value} {A:Around} {outer:List Env} {s:Shared} {H:Hp} {X:XK} (hr:Room 0 (A.deeper (PyProof.Rows.envOfC "_law_is" (defScope DP) s.heap.objs.size f cdv))) :
    PSs (cxOf (L2.CX P ω) P ω K mg base LH "_law_is" (defScope DP) f cdv A outer s H X) (defBody DP) (LK K ω X):=
  (pss_cons (ps_if (PW.pt (pw_or (pt_not (pt_val (pe_callB JE rfl T.b_isinstance (by decide +kernel) (pa_cons (pv 0) (pa_cons (pe_bltn rfl T.b_tuple (by decide +kernel) rfl) pa_nil))))) (pw_or (pt_cmpR (JW hr.units) (pe_callB call_len rfl T.b_len (by decide +kernel) (pa_cons (pv 0) pa_nil)) pe_int (nomark _)) (pw_or1 (pt_cmpR (JW hr.units) (pv 0) (pv 1) (nomark _))))))
    (pss_one (ps_ret pe_bl))
    pss_nil)
    (pss_one (ps_ret (pe_cmpR op_notIn_seq pe_bl (pe_lc (own:=[("_law_part",2)]) (g:=(gName 2)) (tt:=tYes) rfl M5.nd  (Cb (pv 0)) (blkOk_by (N:=LH) (sc:=defScope DP) (by decide +kernel)) (fun _ _ _ _ _=>(pg_name (i:=2) M5.nd rfl (Or.inl rfl))) (fun _ _ _ _ _=>pts_nil) (fun _ _ _ _ _=>(pe_and (pe_callB JE rfl T.b_isinstance (by decide +kernel) (pa_cons (pv 2) (pa_cons (pe_bltn rfl T.b_int (by decide +kernel) rfl) pa_nil))) (pe_one (pe_not (pe_callB JE rfl T.b_isinstance (by decide +kernel) (pa_cons (pv 2) (pa_cons (pe_bltn rfl T.b_bool (by decide +kernel) rfl) pa_nil)))))))) (by rfl)))))
theorem OV (T:Txt K mg) (A7:Fo P ω K mg base "_law_take" ["_law_well_here","_law_many"] [] 1 (A8 K ω)) {f:Addr} {cdv:Value} {A:Around} {outer:List Env} {s:Shared} {H:Hp} {X:XK} (hr:Room 1 (A.deeper (PyProof.Rows.envOfC "_law_words" (defScope BP) s.heap.objs.size f cdv))) :
    PSs (cxOf (L2.CX P ω) P ω K mg base G7 "_law_words" (defScope BP) f cdv A outer s H X) (defBody BP) (HX K ω X):=
  (pss_cons (ps_set (i:=2) Ba.nd rfl (Or.inr rfl) pe_str)
    (pss_cons (ps_set (i:=3) Ba.nd rfl (Or.inr rfl) (pe_join pe_str (pe_lc (own:=[("_law_k",4)]) (g:=(gName 4)) (tt:=tYes) rfl Ba.nd  (pi_range1 rfl T.b_range (pa_cons pe_int pa_nil)) (blkOk_by (N:=G7) (sc:=defScope BP) (by decide +kernel)) (fun _ _ _ _ _=>(pg_name (i:=4) Ba.nd rfl (Or.inl rfl))) (fun _ _ _ _ _=>pts_nil) (fun _ _ _ _ _=>(pe_ix ix_seq (pv 2) (A4 A7 (hr.mono (by decide)) passL (pa_cons (pv 0) (pa_cons pe_int pa_nil))) (fun _ _=>rfl))))))
    (pss_cons (ps_set (i:=5) Ba.nd rfl (Or.inr rfl) (pe_op BE pe_int (A4 A7 (hr.mono (by decide)) (passes_call (takes_of rfl rfl rfl rfl) (fun _ _ _ _ h=>h)) (pa_cons (pv 0) (pa_cons pe_int pa_nil)))))
    (pss_cons (ps_set (i:=6) Ba.nd rfl (Or.inr rfl) (A4 A7 (hr.mono (by decide)) (passes_call (takes_of rfl rfl rfl rfl) (fun _ _ _ _ h=>h)) (pa_cons (pv 0) (pa_cons (pv 5) pa_nil))))
    (pss_cons (ps_set (i:=7) Ba.nd rfl (Or.inr rfl) (A4 A7 (hr.mono (by decide)) (passes_call (takes_of rfl rfl rfl rfl) (fun _ _ _ _ h=>h)) (pa_cons (pv 0) (pa_cons pe_int pa_nil))))
    (pss_one (ps_ret (pe_lc (own:=[("_law_k",4)]) (g:=(gName 4)) (tt:=tYes) rfl Ba.nd  (pi_range1 rfl T.b_range (pa_cons (pv 1) pa_nil)) (blkOk_by (N:=G7) (sc:=defScope BP) (by decide +kernel)) (fun _ _ _ _ _=>(pg_name (i:=4) Ba.nd rfl (Or.inl rfl))) (fun _ _ _ _ _=>pts_nil) (fun _ _ _ _ _=>(pe_op BE (pe_op BE (pe_slice sl_str (pv 3) po_none (po_some (pv 6))) (pe_ix ix_seq (pv 2) (pe_op op_modN (pe_op BE (pv 7) (pe_op B9 pe_int (pv 4))) pe_int) (fun _ _=>rfl))) (pe_slice sl_str (pv 3) (po_some (pe_op BE (pv 6) pe_int)) (po_some (pv 5)))))))))))))
theorem OW (T:Txt K mg) (A7:Fo P ω K mg base "_law_take" ["_law_well_here","_law_many"] [] 1 (A8 K ω)) (GH:Fo P ω K mg base "_law_words" ["_law_well_here","_law_many"] [] 2 (E3 K ω)) {f:Addr} {cdv:Value} {A:Around} {outer:List Env} {s:Shared} {H:Hp} {X:XK} (hr:Room 2 (A.deeper (PyProof.Rows.envOfC "_law_nodes" (defScope Bh) s.heap.objs.size f cdv))) :
    PSs (cxOf (L2.CX P ω) P ω K mg base HQ "_law_nodes" (defScope Bh) f cdv A outer s H X) (defBody Bh) (HY K ω X):=
  (pss_cons (ps_set (i:=2) Eu.nd rfl (Or.inr rfl) (pe_lst pa_nil))
    (pss_cons (ps_for (passes_of rfl) rfl (Cb (A4 GH (hr.mono (by decide)) (passes_call (takes_of rfl rfl rfl rfl) (fun _ _ _ _ h=>h)) (pa_cons (pv 0) (pa_cons pe_int pa_nil)))) (pg_name (i:=3) Eu.nd rfl (Or.inl rfl))
    (pss_one (ps_expr (pe_bm PySem.F.plainAttrs_list PySem.F.slot_list_extend PySem.F.type_list_extend mt_extend (pv 2) (pa_cons (pe_lst (pa_cons (AX (pa_cons pe_str (pa_cons (pv 3) pa_nil))) (pa_cons (AX (pa_cons pe_str (pa_cons (pv 3) pa_nil))) pa_nil))) pa_nil)))))
    (pss_one (ps_ret (pe_lc (own:=[("_law_k",4)]) (g:=(gName 4)) (tt:=tYes) rfl Eu.nd  (pi_range1 rfl T.b_range (pa_cons (pv 1) pa_nil)) (blkOk_by (N:=HQ) (sc:=defScope Bh) (by decide +kernel)) (fun _ _ _ _ _=>(pg_name (i:=4) Eu.nd rfl (Or.inl rfl))) (fun _ _ _ _ _=>pts_nil) (fun _ _ _ _ _=>(pe_bm PySem.F.plainAttrs_list PySem.F.slot_list_pop PySem.F.type_list_pop mt_popAt (pv 2) (pa_cons (A4 A7 (hr.mono (by decide)) passL (pa_cons (pv 0) (pa_cons (pe_callB call_len rfl T.b_len (by decide +kernel) (pa_cons (pv 2) pa_nil)) pa_nil))) pa_nil))))))))
theorem RT (T:Txt K mg) (A7:Fo P ω K mg base "_law_take" ["_law_well_here","_law_many"] [] 1 (A8 K ω)) {f:Addr} {cdv:Value} {A:Around} {outer:List Env} {s:Shared} {H:Hp} {X:XK} (hr:Room 1 (A.deeper (PyProof.Rows.envOfC "_law_few" (defScope D9) s.heap.objs.size f cdv))) :
    PSs (cxOf (L2.CX P ω) P ω K mg base M6 "_law_few" (defScope D9) f cdv A outer s H X) (defBody D9) (K6 K ω X):=
  (pss_cons (ps_if (pt_cmpR (FL hr.units) (A4 A7 (hr.mono (by decide)) (passes_call (takes_of rfl rfl rfl rfl) (fun _ _ _ _ h=>h)) (pa_cons (pv 0) (pa_cons pe_int pa_nil))) pe_int (nomark _))
    (pss_one (ps_ret (AX (pa_cons (pe_op BE pe_int (A4 A7 (hr.mono (by decide)) (passes_call (takes_of rfl rfl rfl rfl) (fun _ _ _ _ h=>h)) (pa_cons (pv 0) (pa_cons pe_int pa_nil)))) (pa_cons (pe_op BE pe_int (A4 A7 (hr.mono (by decide)) (passes_call (takes_of rfl rfl rfl rfl) (fun _ _ _ _ h=>h)) (pa_cons (pv 0) (pa_cons pe_int pa_nil)))) pa_nil)))))
    pss_nil)
    (pss_one (ps_ret (AX (pa_cons (pe_op BE pe_int (A4 A7 (hr.mono (by decide)) (passes_call (takes_of rfl rfl rfl rfl) (fun _ _ _ _ h=>h)) (pa_cons (pv 0) (pa_cons pe_int pa_nil)))) (pa_cons (A4 A7 (hr.mono (by decide)) (passes_call (takes_of rfl rfl rfl rfl) (fun _ _ _ _ h=>h)) (pa_cons (pv 0) (pa_cons pe_int pa_nil))) pa_nil))))))
theorem OX (T:Txt K mg) (AR:Fo P ω K mg base "_law_num" ["_law_top","_law_bottom"] [] 2 (Ac K ω)) (A7:Fo P ω K mg base "_law_take" ["_law_well_here","_law_many"] [] 1 (A8 K ω)) {f:Addr} {cdv:Value} {A:Around} {outer:List Env} {s:Shared} {H:Hp} {X:XK} (hr:Room 2 (A.deeper (PyProof.Rows.envOfC "_law_small" (defScope C1) s.heap.objs.size f cdv))) :
    PSs (cxOf (L2.CX P ω) P ω K mg base Jw "_law_small" (defScope C1) f cdv A outer s H X) (defBody C1) (HZ K ω X):=
  (pss_one (ps_ret (A4 AR (hr.mono (by decide)) (passes_call (takes_of rfl rfl rfl rfl) (fun _ _ _ _ h=>h)) (pa_cons (pe_op op_sub (A4 A7 (hr.mono (by decide)) (passes_call (takes_of rfl rfl rfl rfl) (fun _ _ _ _ h=>h)) (pa_cons (pv 0) (pa_cons pe_int pa_nil))) pe_int) (pa_cons (pe_ix ix_seq (pe_lst (pa_cons pe_int (pa_cons pe_int (pa_cons pe_int (pa_cons pe_int pa_nil))))) (A4 A7 (hr.mono (by decide)) (passes_call (takes_of rfl rfl rfl rfl) (fun _ _ _ _ h=>h)) (pa_cons (pv 0) (pa_cons pe_int pa_nil))) (fun _ _=>rfl)) pa_nil)))))
theorem Nf (T:Txt K mg) (AZ:Fo P ω K mg base "_law_mul" ["_law_one","_law_other"] [] 3 (Af K ω)) {f:Addr} {cdv:Value} {A:Around} {outer:List Env} {s:Shared} {H:Hp} {X:XK} (hr:Room 3 (A.deeper (PyProof.Rows.envOfC "_law_scaled" (defScope BM) s.heap.objs.size f cdv))) :
    PSs (cxOf (L2.CX P ω) P ω K mg base Gi "_law_scaled" (defScope BM) f cdv A outer s H X) (defBody BM) (Gn K ω X):=
  (pss_cons (ps_set (i:=2) B2.nd rfl (Or.inl rfl) (pe_lst pa_nil))
    (pss_cons (ps_for (passes_of rfl) rfl (Cb (pv 0)) (pg_tup rfl (pgs_cons (pg_name (i:=3) B2.nd rfl (Or.inl rfl)) (pgs_cons (pg_name (i:=4) B2.nd rfl (Or.inl rfl)) (pgs_cons (pg_name (i:=5) B2.nd rfl (Or.inl rfl)) (pgs_cons (pg_name (i:=6) B2.nd rfl (Or.inl rfl)) pgs_nil)))))
    (pss_cons (ps_set (i:=7) B2.nd rfl (Or.inl rfl) (pe_callTy JH rfl T.b_tuple (by decide +kernel) (pa_cons (pe_lc (own:=[("_law_shift",8),("_law_allowance",9),("_law_way",10)]) (g:=(gTup K 3 (gCons (gName 8) (gCons (gName 9) (gCons (gName 10) gNil))))) (tt:=tYes) rfl B2.nd  (Cb (pv 6)) (blkOk_by (N:=Gi) (sc:=defScope BM) (by decide +kernel)) (fun _ _ _ _ _=>(pg_tup rfl (pgs_cons (pg_name (i:=8) B2.nd rfl (Or.inl rfl)) (pgs_cons (pg_name (i:=9) B2.nd rfl (Or.inl rfl)) (pgs_cons (pg_name (i:=10) B2.nd rfl (Or.inl rfl)) pgs_nil))))) (fun _ _ _ _ _=>pts_nil) (fun _ _ _ _ _=>(AX (pa_cons (pv 8) (pa_cons (A4 AZ (hr.mono (by decide)) passL (pa_cons (pv 9) (pa_cons (pv 1) pa_nil))) (pa_cons (pv 10) pa_nil)))))) pa_nil)))
    (pss_one (ps_expr (pe_bm PySem.F.plainAttrs_list PySem.F.slot_list_append PySem.F.type_list_append mt_append (pv 2) (pa_cons (AX (pa_cons (pv 3) (pa_cons (A4 AZ (hr.mono (by decide)) (passes_call (takes_of rfl rfl rfl rfl) (fun _ _ _ _ h=>h)) (pa_cons (pv 4) (pa_cons (pv 1) pa_nil))) (pa_cons (A4 AZ (hr.mono (by decide)) (passes_call (takes_of rfl rfl rfl rfl) (fun _ _ _ _ h=>h)) (pa_cons (pv 5) (pa_cons (pv 1) pa_nil))) (pa_cons (pv 7) pa_nil))))) pa_nil))))))
    (pss_one (ps_ret (pv 2)))))
theorem OY (T:Txt K mg) (AL:Fo P ω K mg base "_law_add" ["_law_one","_law_other"] [] 3 (AW K ω)) (AZ:Fo P ω K mg base "_law_mul" ["_law_one","_law_other"] [] 3 (Af K ω)) {f:Addr} {cdv:Value} {A:Around} {outer:List Env} {s:Shared} {H:Hp} {X:XK} (hr:Room 3 (A.deeper (PyProof.Rows.envOfC "_law_value" (defScope C2) s.heap.objs.size f cdv))) :
    PSs (cxOf (L2.CX P ω) P ω K mg base Jx "_law_value" (defScope C2) f cdv A outer s H X) (defBody C2) (Ha K ω X):=
  (pss_cons (ps_set (i:=2) Ew.nd rfl (Or.inl rfl) (pe_ix ix_seq (pv 0) pe_int (fun _ _=>rfl)))
    (pss_cons (ps_for (passes_of rfl) rfl (Cb (pe_ix ix_seq (pv 0) pe_int (fun _ _=>rfl))) (pg_tup rfl (pgs_cons (pg_name (i:=3) Ew.nd rfl (Or.inl rfl)) (pgs_cons (pg_name (i:=4) Ew.nd rfl (Or.inl rfl)) pgs_nil)))
    (pss_one (ps_set (i:=2) Ew.nd rfl (Or.inl rfl) (A4 AL (hr.mono (by decide)) (passes_call (takes_of rfl rfl rfl rfl) (fun _ _ _ _ h=>h)) (pa_cons (pv 2) (pa_cons (A4 AZ (hr.mono (by decide)) (passes_call (takes_of rfl rfl rfl rfl) (fun _ _ _ _ h=>h)) (pa_cons (pv 4) (pa_cons (pe_dget (hu_of hr) (pv 1) (pv 3) (fun _ _=>rfl)) pa_nil))) pa_nil))))))
    (pss_one (ps_ret (pv 2)))))
theorem N3 (T:Txt K mg) (A7:Fo P ω K mg base "_law_take" ["_law_well_here","_law_many"] [] 1 (A8 K ω)) {f:Addr} {cdv:Value} {A:Around} {outer:List Env} {s:Shared} {H:Hp} {X:XK} (hr:Room 1 (A.deeper (PyProof.Rows.envOfC "_law_factors" (defScope BN) s.heap.objs.size f cdv))) :
    PSs (cxOf (L2.CX P ω) P ω K mg base IP "_law_factors" (defScope BN) f cdv A outer s H X) (defBody BN) (GE K ω X):=
  (pss_cons (ps_set (i:=2) FJ.nd rfl (Or.inl rfl) (pe_lst pa_nil))
    (pss_cons (ps_for (passes_of rfl) rfl (Cb (pe_callB (NH rfl) rfl T.b_sorted (by decide +kernel) (pa_cons (pv 1) pa_nil))) (pg_name (i:=3) FJ.nd rfl (Or.inl rfl))
    (pss_cons (ps_set (i:=4) FJ.nd rfl (Or.inl rfl) (pe_ix ix_seq (pe_lst (pa_cons (AX (pa_cons pe_int (pa_cons pe_int pa_nil))) (pa_cons (AX (pa_cons pe_int (pa_cons pe_int pa_nil))) (pa_cons (AX (pa_cons pe_int (pa_cons pe_int pa_nil))) (pa_cons (AX (pa_cons (pe_un P9 pe_int) (pa_cons pe_int pa_nil))) (pa_cons (AX (pa_cons pe_int (pa_cons pe_int pa_nil))) (pa_cons (AX (pa_cons (pe_un P9 pe_int) (pa_cons pe_int pa_nil))) (pa_cons (AX (pa_cons pe_int (pa_cons pe_int pa_nil))) (pa_cons (AX (pa_cons (pe_un P9 pe_int) (pa_cons pe_int pa_nil))) pa_nil))))))))) (A4 A7 (hr.mono (by decide)) (passes_call (takes_of rfl rfl rfl rfl) (fun _ _ _ _ h=>h)) (pa_cons (pv 0) (pa_cons pe_int pa_nil))) (fun _ _=>rfl)))
    (pss_one (ps_if (pt_cmpR (JW hr.units) (pe_ix ix_seq (pv 4) pe_int (fun _ _=>rfl)) pe_int (nomark _))
    (pss_one (ps_expr (pe_bm PySem.F.plainAttrs_list PySem.F.slot_list_append PySem.F.type_list_append mt_append (pv 2) (pa_cons (AX (pa_cons (pv 3) (pa_cons (pv 4) pa_nil))) pa_nil))))
    pss_nil))))
    (pss_one (ps_ret (pe_callTy JH rfl T.b_tuple (by decide +kernel) (pa_cons (pv 2) pa_nil))))))
theorem Qh (T:Txt K mg) (EZ:Fo P ω K mg base "_law_factors" ["_law_well_here","_law_names_here"] [] 2 (Cn K ω)) (Ib:Fo P ω K mg base "_law_few" ["_law_well_here"] [] 2 (Fj K ω)) (AI:Fo P ω K mg base "_law_less" ["_law_one","_law_other"] [] 4 (AM K ω)) (FB:Fo P ω K mg base "_law_making" ["_law_well_here","_law_sizes_here"] [] 6 (DV K ω)) (AZ:Fo P ω K mg base "_law_mul" ["_law_one","_law_other"] [] 3 (Af K ω)) (GI:Fo P ω K mg base "_law_nodes" ["_law_well_here","_law_many"] [] 3 (E4 K ω)) (FC:Fo P ω K mg base "_law_scaled" ["_law_sizes_here","_law_by"] [] 4 (DW K ω)) (GJ:Fo P ω K mg base "_law_sizes" ["_law_well_here","_law_many","_law_most","_law_kinds"] [] 5 (E2 K ω)) (Em:Fo P ω K mg base "_law_small" ["_law_well_here"] [] 3 (DC K ω)) (A7:Fo P ω K mg base "_law_take" ["_law_well_here","_law_many"] [] 1 (A8 K ω)) (As:Fo P ω K mg base "_law_value" ["_law_total","_law_making_here"] [] 4 (B7 K ω)) {f:Addr} {cdv:Value} {A:Around} {outer:List Env} {s:Shared} {H:Hp} {X:XK} (hr:Room 6 (A.deeper (PyProof.Rows.envOfC "_law_case" (defScope CW) s.heap.objs.size f cdv))) :
    PSs (cxOf (L2.CX P ω) P ω K mg base Kt "_law_case" (defScope CW) f cdv A outer s H X) (defBody CW) (J1 K ω X):=
  (pss_cons (ps_set (i:=1) Ae.nd rfl (Or.inl rfl) (pe_ix ix_seq (pe_lst (pa_cons (AX (pa_cons pe_int (pa_cons pe_int pa_nil))) (pa_cons (AX (pa_cons (pe_op BE pe_int (A4 A7 (hr.mono (by decide)) (passes_call (takes_of rfl rfl rfl rfl) (fun _ _ _ _ h=>h)) (pa_cons (pv 0) (pa_cons (pe_op op_pow pe_int pe_int) pa_nil)))) (pa_cons pe_int pa_nil))) pa_nil))) (pe_callTy call_int1 rfl T.b_int (by decide +kernel) (pa_cons (pe_cmpR (FL hr.units) (A4 A7 (hr.mono (by decide)) (passes_call (takes_of rfl rfl rfl rfl) (fun _ _ _ _ h=>h)) (pa_cons (pv 0) (pa_cons pe_int pa_nil))) pe_int (nomark _)) pa_nil)) (fun _ _=>rfl)))
    (pss_cons (ps_set (i:=2) Ae.nd rfl (Or.inl rfl) (A4 FC (hr.mono (by decide)) (passes_call (takes_of rfl rfl rfl rfl) (fun _ _ _ _ h=>h)) (pa_cons (A4 GJ (hr.mono (by decide)) (passes_call (takes_of rfl rfl rfl rfl) (fun _ _ _ _ h=>h)) (pa_cons (pv 0) (pa_cons (A4 A7 (hr.mono (by decide)) (passes_call (takes_of rfl rfl rfl rfl) (fun _ _ _ _ h=>h)) (pa_cons (pv 0) (pa_cons pe_int pa_nil))) (pa_cons pe_int (pa_cons pe_int pa_nil))))) (pa_cons (pv 1) pa_nil))))
    (pss_cons (ps_set (i:=3) Ae.nd rfl (Or.inl rfl) (A4 FB (hr.mono (by decide)) (passes_call (takes_of rfl rfl rfl rfl) (fun _ _ _ _ h=>h)) (pa_cons (pv 0) (pa_cons (pv 2) pa_nil))))
    (pss_cons (ps_asg (A4 Ib (hr.mono (by decide)) (passes_call (takes_of rfl rfl rfl rfl) (fun _ _ _ _ h=>h)) (pa_cons (pv 0) pa_nil)) (pg_tup rfl (pgs_cons (pg_name (i:=4) Ae.nd rfl (Or.inl rfl)) (pgs_cons (pg_name (i:=5) Ae.nd rfl (Or.inl rfl)) pgs_nil))))
    (pss_cons (ps_set (i:=6) Ae.nd rfl (Or.inl rfl) MV)
    (pss_cons (ps_for (passes_of rfl) rfl (Cb (A4 GI (hr.mono (by decide)) (passes_call (takes_of rfl rfl rfl rfl) (fun _ _ _ _ h=>h)) (pa_cons (pv 0) (pa_cons (pv 4) pa_nil)))) (pg_name (i:=7) Ae.nd rfl (Or.inl rfl))
    (pss_one (Jc hr.units (pv 6) (pv 7) (A4 AZ (hr.mono (by decide)) (passes_call (takes_of rfl rfl rfl rfl) (fun _ _ _ _ h=>h)) (pa_cons (A4 Em (hr.mono (by decide)) (passes_call (takes_of rfl rfl rfl rfl) (fun _ _ _ _ h=>h)) (pa_cons (pv 0) pa_nil)) (pa_cons (pv 1) pa_nil))) rfl)))
    (pss_cons (Pg (ps_set (i:=8) Ae.nd rfl (Or.inl rfl) (pe_callB (Ws rfl hr.units) rfl T.b_sorted (by decide +kernel) (pa_cons (pv 6) pa_nil))))
    (pss_cons (ps_set (i:=9) Ae.nd rfl (Or.inl rfl) (pe_lst pa_nil))
    (pss_cons (ps_for (passes_of rfl) rfl (pi_range1 rfl T.b_range (pa_cons (pv 5) pa_nil)) (pg_name (i:=10) Ae.nd rfl (Or.inl rfl))
    (pss_cons (ps_set (i:=11) Ae.nd rfl (Or.inl rfl) (pe_ix ix_seq (pv 8) (A4 A7 (hr.mono (by decide)) (passes_call (takes_of rfl rfl rfl rfl) (fun _ _ _ _ h=>h)) (pa_cons (pv 0) (pa_cons (pv 4) pa_nil))) (fun _ _=>rfl)))
    (pss_cons (ps_set (i:=12) Ae.nd rfl (Or.inl rfl) (pe_ix ix_seq (pv 8) (A4 A7 (hr.mono (by decide)) (passes_call (takes_of rfl rfl rfl rfl) (fun _ _ _ _ h=>h)) (pa_cons (pv 0) (pa_cons (pv 4) pa_nil))) (fun _ _=>rfl)))
    (pss_cons (ps_set (i:=13) Ae.nd rfl (Or.inl rfl) (A4 EZ (hr.mono (by decide)) (passes_call (takes_of rfl rfl rfl rfl) (fun _ _ _ _ h=>h)) (pa_cons (pv 0) (pa_cons (pe_callB (NH rfl) rfl T.b_sorted (by decide +kernel) (pa_cons (pv 3) pa_nil)) pa_nil))))
    (pss_cons (ps_set (i:=14) Ae.nd rfl (Or.inl rfl) (A4 AZ (hr.mono (by decide)) (passes_call (takes_of rfl rfl rfl rfl) (fun _ _ _ _ h=>h)) (pa_cons (A4 Em (hr.mono (by decide)) (passes_call (takes_of rfl rfl rfl rfl) (fun _ _ _ _ h=>h)) (pa_cons (pv 0) pa_nil)) (pa_cons (pv 1) pa_nil))))
    (pss_cons (ps_set (i:=14) Ae.nd rfl (Or.inl rfl) (pe_ix ix_seq (pe_lst (pa_cons (AX (pa_cons pe_int (pa_cons pe_int pa_nil))) (pa_cons (AX (pa_cons (pe_callB call_abs rfl T.b_abs (by decide +kernel) (pa_cons (pe_ix ix_seq (pv 14) pe_int (fun _ _=>rfl)) pa_nil)) (pa_cons (pe_ix ix_seq (pv 14) pe_int (fun _ _=>rfl)) pa_nil))) pa_nil))) (A4 A7 (hr.mono (by decide)) (passes_call (takes_of rfl rfl rfl rfl) (fun _ _ _ _ h=>h)) (pa_cons (pv 0) (pa_cons pe_int pa_nil))) (fun _ _=>rfl)))
    (pss_cons (ps_set (i:=15) Ae.nd rfl (Or.inl rfl) (A4 AI (hr.mono (by decide)) (passes_call (takes_of rfl rfl rfl rfl) (fun _ _ _ _ h=>h)) (pa_cons (pv 14) (pa_cons (A4 As (hr.mono (by decide)) (passes_call (takes_of rfl rfl rfl rfl) (fun _ _ _ _ h=>h)) (pa_cons (AX (pa_cons (AX (pa_cons pe_int (pa_cons pe_int pa_nil))) (pa_cons (pv 13) pa_nil))) (pa_cons (pv 3) pa_nil))) pa_nil))))
    (pss_one (ps_expr (pe_bm PySem.F.plainAttrs_list PySem.F.slot_list_append PySem.F.type_list_append mt_append (pv 9) (pa_cons (AX (pa_cons (pv 11) (pa_cons (pv 12) (pa_cons (AX (pa_cons (A4 AI (hr.mono (by decide)) (passes_call (takes_of rfl rfl rfl rfl) (fun _ _ _ _ h=>h)) (pa_cons (pv 15) (pa_cons (A4 AI (hr.mono (by decide)) (passes_call (takes_of rfl rfl rfl rfl) (fun _ _ _ _ h=>h)) (pa_cons (DF hr.units (pv 6) (pv 12) (fun _ _=>rfl)) (pa_cons (DF hr.units (pv 6) (pv 11) (fun _ _=>rfl)) pa_nil))) pa_nil))) (pa_cons (pv 13) pa_nil))) pa_nil)))) pa_nil)))))))))))
    (pss_one (ps_ret (AX (pa_cons (pv 9) (pa_cons (pv 3) (pa_cons (pv 6) pa_nil)))))))))))))))
theorem Oa (T:Txt K mg) (Bj:Fo P ω K mg base "_law_below" ["_law_one","_law_other"] [] 1 (BO K ω)) (AI:Fo P ω K mg base "_law_less" ["_law_one","_law_other"] [] 4 (AM K ω)) (As:Fo P ω K mg base "_law_value" ["_law_total","_law_making_here"] [] 4 (B7 K ω)) {f:Addr} {cdv:Value} {A:Around} {outer:List Env} {s:Shared} {H:Hp} {X:XK} (hr:Room 4 (A.deeper (PyProof.Rows.envOfC "_law_least" (defScope C3) s.heap.objs.size f cdv))) :
    PSs (cxOf (L2.CX P ω) P ω K mg base Jy "_law_least" (defScope C3) f cdv A outer s H X) (defBody C3) (Hb K ω X):=
  (pss_cons (ps_set (i:=2) Bb.nd rfl (Or.inl rfl) MV)
    (pss_cons (ps_for (passes_of rfl) rfl (Cb (pv 0)) (pg_tup rfl (pgs_cons (pg_name (i:=3) Bb.nd rfl (Or.inl rfl)) (pgs_cons (pg_name (i:=4) Bb.nd rfl (Or.inl rfl)) (pgs_cons (pg_name (i:=5) Bb.nd rfl (Or.inl rfl)) pgs_nil))))
    (pss_cons (Jc hr.units (pv 2) (pv 3) (AX (pa_cons pe_int (pa_cons pe_int pa_nil))) rfl)
    (pss_one (Jc hr.units (pv 2) (pv 4) (AX (pa_cons pe_int (pa_cons pe_int pa_nil))) rfl))))
    (pss_cons (ps_for (passes_of rfl) rfl (pi_range1 rfl T.b_range (pa_cons (pe_callB X0 rfl T.b_len (by decide +kernel) (pa_cons (pv 2) pa_nil)) pa_nil)) (pg_name (i:=6) Bb.nd rfl (Or.inl rfl))
    (pss_one (ps_for (passes_of rfl) rfl (Cb (pv 0)) (pg_tup rfl (pgs_cons (pg_name (i:=3) Bb.nd rfl (Or.inl rfl)) (pgs_cons (pg_name (i:=4) Bb.nd rfl (Or.inl rfl)) (pgs_cons (pg_name (i:=5) Bb.nd rfl (Or.inl rfl)) pgs_nil))))
    (pss_cons (ps_set (i:=7) Bb.nd rfl (Or.inl rfl) (A4 AI (hr.mono (by decide)) (passes_call (takes_of rfl rfl rfl rfl) (fun _ _ _ _ h=>h)) (pa_cons (DF hr.units (pv 2) (pv 3) (fun _ _=>rfl)) (pa_cons (A4 As (hr.mono (by decide)) (passes_call (takes_of rfl rfl rfl rfl) (fun _ _ _ _ h=>h)) (pa_cons (pv 5) (pa_cons (pv 1) pa_nil))) pa_nil))))
    (pss_one (ps_if (pt_val (A4 Bj (hr.mono (by decide)) (passes_call (takes_of rfl rfl rfl rfl) (fun _ _ _ _ h=>h)) (pa_cons (DF hr.units (pv 2) (pv 4) (fun _ _=>rfl)) (pa_cons (pv 7) pa_nil))))
    (pss_one (Jc hr.units (pv 2) (pv 4) (pv 7) rfl))
    pss_nil))))))
    (pss_one (Pg (ps_ret (pv 2)))))))
theorem RU (T:Txt K mg) (AL:Fo P ω K mg base "_law_add" ["_law_one","_law_other"] [] 3 (AW K ω)) (AI:Fo P ω K mg base "_law_less" ["_law_one","_law_other"] [] 4 (AM K ω)) (As:Fo P ω K mg base "_law_value" ["_law_total","_law_making_here"] [] 4 (B7 K ω)) {f:Addr} {cdv:Value} {A:Around} {outer:List Env} {s:Shared} {H:Hp} {X:XK} (hr:Room 4 (A.deeper (PyProof.Rows.envOfC "_law_gap" (defScope DA) s.heap.objs.size f cdv))) :
    PSs (cxOf (L2.CX P ω) P ω K mg base IR "_law_gap" (defScope DA) f cdv A outer s H X) (defBody DA) (FT K ω X):=
  (pss_one (ps_ret (A4 AL (hr.mono (by decide)) (passes_call (takes_of rfl rfl rfl rfl) (fun _ _ _ _ h=>h)) (pa_cons (A4 AI (hr.mono (by decide)) (passes_call (takes_of rfl rfl rfl rfl) (fun _ _ _ _ h=>h)) (pa_cons (DF hr.units (pv 2) (pe_ix ix_seq (pv 0) pe_int (fun _ _=>rfl)) (fun _ _=>rfl)) (pa_cons (DF hr.units (pv 2) (pe_ix ix_seq (pv 0) pe_int (fun _ _=>rfl)) (fun _ _=>rfl)) pa_nil))) (pa_cons (A4 As (hr.mono (by decide)) (passes_call (takes_of rfl rfl rfl rfl) (fun _ _ _ _ h=>h)) (pa_cons (pe_ix ix_seq (pv 0) pe_int (fun _ _=>rfl)) (pa_cons (pv 1) pa_nil))) pa_nil)))))
theorem Ob (T:Txt K mg) (Bj:Fo P ω K mg base "_law_below" ["_law_one","_law_other"] [] 1 (BO K ω)) (Ic:Fo P ω K mg base "_law_gap" ["_law_gap_here","_law_making_here","_law_places"] [] 5 (EW K ω)) (Hm:Fo P ω K mg base "_law_is" ["_law_found","_law_due"] [] 1 (FS K ω)) (GK:Fo P ω K mg base "_law_least" ["_law_gaps","_law_making_here"] [] 5 (E6 K ω)) (AI:Fo P ω K mg base "_law_less" ["_law_one","_law_other"] [] 4 (AM K ω)) (Ez:Fo P ω K mg base "gap_at" ["gap","making","places"] [] 5 (DR K ω)) (B4:Fo P ω K mg base "least_places" ["gaps","making"] [] 28 (B6 K ω)) {f:Addr} {cdv:Value} {A:Around} {outer:List Env} {s:Shared} {H:Hp} {X:XK} (hr:Room 28 (A.deeper (PyProof.Rows.envOfC "_law_right" (defScope Bi) s.heap.objs.size f cdv))) :
    PSs (cxOf (L2.CX P ω) P ω K mg base HR "_law_right" (defScope Bi) f cdv A outer s H X) (defBody Bi) (Hc K ω X):=
  (pss_cons (ps_set (i:=3) Ai.nd rfl (Or.inl rfl) (A4 GK (hr.mono (by decide)) (passes_call (takes_of rfl rfl rfl rfl) (fun _ _ _ _ h=>h)) (pa_cons (pv 0) (pa_cons (pv 1) pa_nil))))
    (pss_cons (ps_set (i:=4) Ai.nd rfl (Or.inl rfl) (pe_lst (pa_cons (pe_callTy (YX rfl) rfl T.b_list (by decide +kernel) (pa_cons (pv 0) pa_nil)) (pa_cons (MQ (pe_callTy (Yj rfl) rfl T.b_dict (by decide +kernel) (pa_cons (pv 1) pa_nil))) pa_nil))))
    (pss_cons (ps_set (i:=5) Ai.nd rfl (Or.inr rfl) (A4 B4 (hr.mono (by decide)) (passes_call (takes_of rfl rfl rfl rfl) (fun _ _ _ _ h=>h)) (pa_cons (pe_ix ix_seq (pv 4) pe_int (fun _ _=>rfl)) (pa_cons (pe_ix ix_seq (pv 4) pe_int (fun _ _=>rfl)) pa_nil))))
    (pss_cons (ps_if (PW.pt (pw_or (pt_not (pt_val (pe_callB Yt rfl T.b_isinstance (by decide +kernel) (pa_cons (pv 5) (pa_cons (pe_bltn rfl T.b_dict (by decide +kernel) rfl) pa_nil))))) (pw_or (pt_cmpR (ck hr) (pv 5) (pv 3) (nomark _)) (pw_or1 (pt_cmpR (cb hr) (pv 4) (pe_lst (pa_cons (pv 0) (pa_cons (pv 1) pa_nil))) (nomark _))))))
    (pss_one (ps_ret pe_bl))
    pss_nil)
    (pss_cons (ps_lock (ps_for (passes_of rfl) rfl (MX (pv 5)) (pg_name (i:=6) Ai.nd rfl (Or.inl rfl))
    (pss_one (ps_if (pt_not (pt_val (A4 Hm (hr.mono (by decide)) (passes_call (takes_of rfl rfl rfl rfl) (fun _ _ _ _ h=>h)) (pa_cons (DF hr.units (pv 5) (pv 6) (fun _ _=>rfl)) (pa_cons (DF hr.units (pv 3) (pv 6) (fun _ _=>rfl)) pa_nil)))))
    (pss_one (ps_ret pe_bl))
    pss_nil))))
    (pss_cons (ps_set (i:=7) Ai.nd rfl (Or.inl rfl) (AX (pa_cons pe_int (pa_cons pe_int pa_nil))))
    (pss_cons (ps_lock (ps_for (passes_of rfl) rfl (MX (pv 5)) (pg_name (i:=6) Ai.nd rfl (Or.inl rfl))
    (pss_one (ps_if (pt_val (A4 Bj (hr.mono (by decide)) (passes_call (takes_of rfl rfl rfl rfl) (fun _ _ _ _ h=>h)) (pa_cons (DF hr.units (pv 2) (pv 6) (fun _ _=>rfl)) (pa_cons (pv 7) pa_nil))))
    (pss_one (ps_set (i:=7) Ai.nd rfl (Or.inl rfl) (DF hr.units (pv 2) (pv 6) (fun _ _=>rfl))))
    pss_nil))))
    (pss_cons (ps_set (i:=8) Ai.nd rfl (Or.inr rfl) MV)
    (pss_cons (ps_for (passes_of rfl) rfl (MX (pv 2)) (pg_name (i:=6) Ai.nd rfl (Or.inl rfl))
    (pss_one (Jc hr.units (pv 8) (pv 6) (A4 AI (hr.mono (by decide)) (passes_call (takes_of rfl rfl rfl rfl) (fun _ _ _ _ h=>h)) (pa_cons (DF hr.units (pv 2) (pv 6) (fun _ _=>rfl)) (pa_cons (pv 7) pa_nil))) rfl)))
    (pss_cons (Pg (ps_lock (ps_if (pt_cmpR (JW hr.units) (pe_lc (own:=[("_law_node",6)]) (g:=(gName 6)) (tt:=(tB (tCall (BO K ω) [] E0 (tCons (FU ω K (tVar 8) (tVar 6)) (tCons (FU ω K (tVar 5) (tVar 6)) tNil))))) rfl Ai.nd  (MX (pv 5)) (blkOk_by (N:=HR) (sc:=defScope Bi) (by decide +kernel)) (fun _ _ _ _ _=>(pg_name (i:=6) Ai.nd rfl (Or.inl rfl))) (fun _ _ _ _ _=>pts_one (pt_val (A4 Bj (hr.mono (by decide)) passL (pa_cons (DF hr.units (pv 8) (pv 6) (fun _ _=>rfl)) (pa_cons (DF hr.units (pv 5) (pv 6) (fun _ _=>rfl)) pa_nil))))) (fun _ _ _ _ _=>(pv 6))) (pe_lst pa_nil) (nomark _))
    (pss_one (ps_ret pe_bl))
    pss_nil)))
    (pss_cons (ps_for (passes_of rfl) rfl (Cb (pv 0)) (pg_name (i:=9) Ai.nd rfl (Or.inl rfl))
    (pss_one (ps_for (passes_of rfl) rfl (Cb (pe_lst (pa_cons (pv 5) (pa_cons (pv 8) pa_nil)))) (pg_name (i:=10) Ai.nd rfl (Or.inl rfl))
    (pss_cons (ps_set (i:=11) Ai.nd rfl (Or.inl rfl) (A4 Ez (hr.mono (by decide)) (passes_call (takes_of rfl rfl rfl rfl) (fun _ _ _ _ h=>h)) (pa_cons (pv 9) (pa_cons (pv 1) (pa_cons (pv 10) pa_nil)))))
    (pss_one (ps_if (PW.pt (pw_or (pt_not (pt_val (A4 Hm (hr.mono (by decide)) (passes_call (takes_of rfl rfl rfl rfl) (fun _ _ _ _ h=>h)) (pa_cons (pv 11) (pa_cons (A4 Ic (hr.mono (by decide)) (passes_call (takes_of rfl rfl rfl rfl) (fun _ _ _ _ h=>h)) (pa_cons (pv 9) (pa_cons (pv 1) (pa_cons (pv 10) pa_nil)))) pa_nil))))) (pw_or1 (pt_cmpR op_lt (pe_ix ix_seq (pv 11) pe_int (fun _ _=>rfl)) pe_int (nomark _)))))
    (pss_one (ps_ret pe_bl))
    pss_nil))))))
    (pss_cons (ps_expr (Yr (pv 5)))
    (pss_one (ps_ret (pe_cmpR (YA hr) (MQ (A4 B4 (hr.mono (by decide)) (passes_call (takes_of rfl rfl rfl rfl) (fun _ _ _ _ h=>h)) (pa_cons (pe_ix ix_seq (pv 4) pe_int (fun _ _=>rfl)) (pa_cons (pe_ix ix_seq (pv 4) pe_int (fun _ _=>rfl)) pa_nil)))) (pv 3) (nomark _))))))))))))))))
theorem cB (T:Txt K mg) (HD:Fo P ω K mg base "_law_case" ["_law_well_here"] [] 7 (El K ω)) (GL:Fo P ω K mg base "_law_right" ["_law_gaps","_law_making_here","_law_hidden"] [] 29 (E7 K ω)) (HE:Fo P ω K mg base "_law_well" ["_law_script","_law_k"] [] 1 (Ej K ω)) (B4:Fo P ω K mg base "least_places" ["gaps","making"] [] 28 (B6 K ω)) {f:Addr} {cdv:Value} {A:Around} {outer:List Env} {s:Shared} {H:Hp} {X:XK} (hr:Room 29 (A.deeper (PyProof.Rows.envOfC "law" (defScope LR) s.heap.objs.size f cdv))) :
    PSs (cxOf (L2.CX P ω) P ω K mg base c9 "law" (defScope LR) f cdv A outer s H X) (defBody LR) (YU K ω X):=
  (pss_cons (ps_for (passes_of rfl) rfl (pi_range1 rfl T.b_range (pa_cons (pe_callB (call_max2 rfl) rfl T.b_max (by decide +kernel) (pa_cons pe_int (pa_cons (pe_callB (call_min2 rfl) rfl T.b_min (by decide +kernel) (pa_cons (pe_callB call_len rfl T.b_len (by decide +kernel) (pa_cons (pv 0) pa_nil)) (pa_cons pe_int pa_nil))) pa_nil))) pa_nil)) (pg_name (i:=1) QS.nd rfl (Or.inl rfl))
    (pss_cons (ps_asg (A4 HD (hr.mono (by decide)) (passes_call (takes_of rfl rfl rfl rfl) (fun _ _ _ _ h=>h)) (pa_cons (A4 HE (hr.mono (by decide)) (passes_call (takes_of rfl rfl rfl rfl) (fun _ _ _ _ h=>h)) (pa_cons (pv 0) (pa_cons (pv 1) pa_nil))) pa_nil)) (pg_tup rfl (pgs_cons (pg_name (i:=2) QS.nd rfl (Or.inl rfl)) (pgs_cons (pg_name (i:=3) QS.nd rfl (Or.inl rfl)) (pgs_cons (pg_name (i:=4) QS.nd rfl (Or.inl rfl)) pgs_nil)))))
    (pss_one (ps_if (pt_not (pt_val (A4 GL (hr.mono (by decide)) (passes_call (takes_of rfl rfl rfl rfl) (fun _ _ _ _ h=>h)) (pa_cons (pv 2) (pa_cons (pv 3) (pa_cons (pv 4) pa_nil))))))
    (pss_one (ps_ret pe_bl))
    pss_nil))))
    (pss_one (ps_ret (pe_cmpR (YA hr) (MQ (A4 B4 (hr.mono (by decide)) (passes_call (takes_of rfl rfl rfl rfl) (fun _ _ _ _ h=>h)) (pa_cons (pe_lst pa_nil) (pa_cons (MQ pe_dnewK) pa_nil)))) (MQ MV) (nomark _)))))
end
end N24
open PySem PySem.Spec L2 TL
local macro_rules | `(tactic| walk_at "sle")=>`(tactic| repeat' first | exact SLe.nil | refine SLe.keep ?_ | refine SLe.drop ?_)
local macro_rules | `(tactic| walk_at "sub")=>`(tactic| repeat' first | exact List.Sublist.refl _ | refine List.Sublist.cons₂ _ ?_ | refine List.Sublist.cons _ ?_ | exact List.sublist_append_right _ _ | refine List.Sublist.trans ?_ (List.sublist_append_right _ _))
local macro_rules | `(tactic| walk_at "dd")=>`(tactic| try dsimp only [List.set,List.eraseIdx])
local macro_rules | `(tactic| walk_at "cond")=>`(tactic| (show SLe _ _;repeat' first | exact SLe.nil | refine SLe.keep ?_ | refine SLe.drop ?_))
namespace N24
section
variable {K:jf} {ω:World} {mg:Str→Option Value} {D0:Own} {F0:Hp} {E:Ends} {X:XK}
theorem RV (T:Txt K mg) {RI:Int} (hnx:∀ (F:Hp) (K:jf) G D1,GoV E.rt F (DN K) D1→Go E.nx F G D1) (hP:(QT K ω X E.rt D0).W F0 (FO RI)) :
    Go (K0 K ω X E) F0 [some ((tD K eI) RI)] D0:=by
  unfold FO at hP
  exact AH (w:=(QT K ω X E.rt D0)) (Dd:=fun _:Unit=>D0) (s:=()) (fun v _=>v) (Us (KP (n:="int") (own:="int") (b:=true) (A1 (R:=(tD K eI)) (RI) rfl) (ty_d fun _=>rfl) (by decide +kernel)) fun _=>(Ur (KP (n:="bool") (own:="int") (b:=false) (A1 (R:=(tD K eI)) (RI) rfl) (ty_d fun _=>rfl) (by decide +kernel)))) hP (fun F v s h=>(show GoV _ _ _ _ from h).drop (by walk_at "sub"))
theorem RX (T:Txt K mg) (vs:List V) (H:Hp) (Q:VK) (X:XK) (h:EV K ω vs H Q X):K0 K ω X { nx:=fun _ H'=>Q .non H',rt:=Q } (L2.start Lw vs) H:=
 AO (fun x F D E hrt hnx hP=>by
  subst hrt
  exact RV T hnx hP) h
theorem UG (K:jf):∀ vs H Q E,EV K ω vs H Q E→vs.length=1:=Ak fun _=>rfl
theorem W9 (T:Txt K mg) {vone:Int} {AV:Int} (hnx:∀ (F:Hp) (K:jf) G D1,GoV E.rt F (DN K) D1→Go E.nx F G D1) (hP:(Mq K ω X E.rt D0).W F0 (KU vone AV)) :
    Go (Mz K ω X E) F0 [some ((tD K eI) vone),some ((tD K eI) AV)] D0:=by
  unfold KU at hP
  refine AB (L4 (w:=(Mq K ω X E.rt D0)) (σt:=(Int×Int)) (Mt:=fun s1 kk=>kk (!decide (s1.2=(0:Int))) ()) (mb:=KS) (k:=KR) (fun s1=>[some ((tD K eI) s1.1),some ((tD K eI) s1.2)]) (fun s1=>D0) (vone,AV) Res.fuel (fun s1=>(AN (JY KA (A1 (R:=(tD K eI)) (s1.2) rfl) fun _=>A9))) hP (by walk_at "sle") (by walk_at "sub") ?_ ?_)
  · intro F3 t3 s1 hP
    unfold KR at hP
    walk_at "dd"
    exact AH (w:=(Mq K ω X E.rt D0)) (Dd:=fun _:Unit=>D0) (s:=()) (fun v _=>v) (MN (A1 (R:=(tD K eI)) (s1.1) rfl)) hP (fun F v s h=>(show GoV _ _ _ _ from h).drop (by walk_at "sub"))
  · intro hB3 F3 t3 s1 n2 Nx hN3 hP
    unfold KS at hP
    walk_at "dd"
    refine Xr (w:=(Mq K ω X E.rt D0)) (A0 (A1 (R:=(tD K eI)) (s1.2) rfl) fun _=>(A0 (JX (A1 (R:=(tD K eI)) (s1.1) rfl) fun _=>(A1 (R:=(tD K eI)) (s1.2) rfl)) fun _=>A2)) hP fun x4 hP=>?_
    walk_at "dd"
    exact (hN3 _ (Same.refl _) (x4.1,x4.2) hP).weak (by walk_at "sle") (by walk_at "sub")
theorem WA (T:Txt K mg) (vs:List V) (H:Hp) (Q:VK) (X:XK) (h:Hl K ω vs H Q X):Mz K ω X { nx:=fun _ H'=>Q .non H',rt:=Q } (L2.start QQ vs) H:=
 AO (fun x F D E hrt hnx hP=>by
  subst hrt
  exact W9 T hnx hP) h
theorem XU (K:jf):∀ vs H Q E,Hl K ω vs H Q E→vs.length=2:=Ak fun _=>rfl
theorem Qi (T:Txt K mg) {vtop:Int} {Ay:Int} (hnx:∀ (F:Hp) (K:jf) G D1,GoV E.rt F (DN K) D1→Go E.nx F G D1) (hP:(Dh K ω X E.rt D0).W F0 (DY vtop Ay)) :
    Go (Ip K ω X E) F0 [some ((tD K eI) vtop),some ((tD K eI) Ay),none] D0:=by
  unfold DY at hP
  refine AB (Bp (w:=(Dh K ω X E.rt D0)) (Pc (Gq (FM (AD (fun _ _ _ _ h=>h) (A0 (A1 (R:=(tD K eI)) (vtop) rfl) fun _=>A2) (fun _=>by walk_at "sub")))) fun _=>(MK (Gq (FM (AD (fun _ _ _ _ h=>h) (A0 (A1 (R:=(tD K eI)) (Ay) rfl) fun _=>A2) (fun _=>by walk_at "sub")))) fun _=>(AN (FN KA (A1 (R:=(tD K eI)) (Ay) rfl) fun _=>A9)))) hP ?_ ?_)
  · intro hP
    walk_at "dd"
    exact SX (w:=(Dh K ω X E.rt D0)) rfl hP (by walk_at "sub")
  · intro hP
    walk_at "dd"
    refine Aw ?_
    walk_at "dd"
    refine AB (Ao (w:=(Dh K ω X E.rt D0)) (AD (fun _ _ _ _ h=>h) (A0 (A1 (R:=(tD K eI)) (vtop) rfl) fun _=>(A0 (A1 (R:=(tD K eI)) (Ay) rfl) fun _=>A2)) (fun _=>by walk_at "sub")) hP fun x1 hP=>?_)
    walk_at "dd"
    refine AB (Ga (w:=(Dh K ω X E.rt D0)) (DJ vtop Ay) (fun s2=>[some ((tD K eI) vtop),some ((tD K eI) Ay),some ((tD K eI) s2)]) (fun s2=>D0) ?_ ?_)
    · intro F3 t3 s2 hP
      unfold DJ at hP
      walk_at "dd"
      exact AH (w:=(Dh K ω X E.rt D0)) (Dd:=fun _:Unit=>D0) (s:=()) (fun v _=>v) (EH (A0 (L5 (A1 (R:=(tD K eI)) (vtop) rfl) fun _=>(A1 (R:=(tD K eI)) (s2) rfl)) fun _=>(A0 (L5 (A1 (R:=(tD K eI)) (Ay) rfl) fun _=>(A1 (R:=(tD K eI)) (s2) rfl)) fun _=>A2))) hP (fun F v s h=>(show GoV _ _ _ _ from h).drop (by walk_at "sub"))
    · intro hk3
      walk_at "dd"
      refine Bp (w:=(Dh K ω X E.rt D0)) (AN (KJ (A1 (R:=(tD K eI)) (Ay) rfl) fun _=>A9)) hP ?_ ?_
      · intro hP
        walk_at "dd"
        refine Ao (w:=(Dh K ω X E.rt D0)) (Fm A9 fun _=>(A1 (R:=(tD K eI)) (x1) rfl)) hP fun x7 hP=>?_
        walk_at "dd"
        exact ((hk3 _ (Same.refl _) x7) hP).weak (by walk_at "sle") (by walk_at "sub")
      · intro hP
        walk_at "dd"
        refine Aw ?_
        walk_at "dd"
        exact ((hk3 _ (Same.refl _) x1) hP).weak (by walk_at "sle") (by walk_at "sub")
theorem Qj (T:Txt K mg) (vs:List V) (H:Hp) (Q:VK) (X:XK) (h:BQ K ω vs H Q X):Ip K ω X { nx:=fun _ H'=>Q .non H',rt:=Q } (L2.start Ki vs) H:=
 AO (fun x F D E hrt hnx hP=>by
  subst hrt
  exact Qi T hnx hP) h
theorem RY (K:jf):∀ vs H Q E,BQ K ω vs H Q E→vs.length=2:=Ak fun _=>rfl
theorem ZE (T:Txt K mg) {va:Rat} {vb:Rat} (hnx:∀ (F:Hp) (K:jf) G D1,GoV E.rt F (DN K) D1→Go E.nx F G D1) (hP:(cA K ω X E.rt D0).W F0 (GQ va vb)) :
    Go (UD K ω X E) F0 [some ((tD K eQ) va),some ((tD K eQ) vb)] D0:=by
  unfold GQ at hP
  exact AH (w:=(cA K ω X E.rt D0)) (Dd:=fun _:Unit=>D0) (s:=()) (fun v _=>v) (AD (fun _ _ _ _ h=>h) (A0 (By (BB (DH (A1 (R:=(tD K eQ)) (va) rfl)) fun _=>(Cd (A1 (R:=(tD K eQ)) (vb) rfl))) fun _=>(BB (DH (A1 (R:=(tD K eQ)) (vb) rfl)) fun _=>(Cd (A1 (R:=(tD K eQ)) (va) rfl)))) fun _=>(A0 (BB (Cd (A1 (R:=(tD K eQ)) (va) rfl)) fun _=>(Cd (A1 (R:=(tD K eQ)) (vb) rfl))) fun _=>A2)) (fun _=>by walk_at "sub")) hP (fun F v s h=>(show GoV _ _ _ _ from h).drop (by walk_at "sub"))
theorem ZF (T:Txt K mg) (vs:List V) (H:Hp) (Q:VK) (X:XK) (h:Do K ω vs H Q X):UD K ω X { nx:=fun _ H'=>Q .non H',rt:=Q } (L2.start XQ vs) H:=
 AO (fun x F D E hrt hnx hP=>by
  subst hrt
  exact ZE T hnx hP) h
theorem cC (K:jf):∀ vs H Q E,Do K ω vs H Q E→vs.length=2:=Ak fun _=>rfl
theorem XW (T:Txt K mg) {va:Rat} {vb:Rat} (hnx:∀ (F:Hp) (K:jf) G D1,GoV E.rt F (DN K) D1→Go E.nx F G D1) (hP:(YS K ω X E.rt D0).W F0 (Jf va vb)) :
    Go (PV K ω X E) F0 [some ((tD K eQ) va),some ((tD K eQ) vb)] D0:=by
  unfold Jf at hP
  exact AH (w:=(YS K ω X E.rt D0)) (Dd:=fun _:Unit=>D0) (s:=()) (fun v _=>v) (AD (fun _ _ _ _ h=>h) (A0 (Fm (BB (DH (A1 (R:=(tD K eQ)) (va) rfl)) fun _=>(Cd (A1 (R:=(tD K eQ)) (vb) rfl))) fun _=>(BB (DH (A1 (R:=(tD K eQ)) (vb) rfl)) fun _=>(Cd (A1 (R:=(tD K eQ)) (va) rfl)))) fun _=>(A0 (BB (Cd (A1 (R:=(tD K eQ)) (va) rfl)) fun _=>(Cd (A1 (R:=(tD K eQ)) (vb) rfl))) fun _=>A2)) (fun _=>by walk_at "sub")) hP (fun F v s h=>(show GoV _ _ _ _ from h).drop (by walk_at "sub"))
theorem XX (T:Txt K mg) (vs:List V) (H:Hp) (Q:VK) (X:XK) (h:G8 K ω vs H Q X):PV K ω X { nx:=fun _ H'=>Q .non H',rt:=Q } (L2.start U8 vs) H:=
 AO (fun x F D E hrt hnx hP=>by
  subst hrt
  exact XW T hnx hP) h
theorem ZG (K:jf):∀ vs H Q E,G8 K ω vs H Q E→vs.length=2:=Ak fun _=>rfl
theorem XY (T:Txt K mg) {va:Rat} {vb:Rat} (hnx:∀ (F:Hp) (K:jf) G D1,GoV E.rt F (DN K) D1→Go E.nx F G D1) (hP:(YT K ω X E.rt D0).W F0 (L6 va vb)) :
    Go (PX K ω X E) F0 [some ((tD K eQ) va),some ((tD K eQ) vb)] D0:=by
  unfold L6 at hP
  exact AH (w:=(YT K ω X E.rt D0)) (Dd:=fun _:Unit=>D0) (s:=()) (fun v _=>v) (AD (fun _ _ _ _ h=>h) (A0 (BB (DH (A1 (R:=(tD K eQ)) (va) rfl)) fun _=>(DH (A1 (R:=(tD K eQ)) (vb) rfl))) fun _=>(A0 (BB (Cd (A1 (R:=(tD K eQ)) (va) rfl)) fun _=>(Cd (A1 (R:=(tD K eQ)) (vb) rfl))) fun _=>A2)) (fun _=>by walk_at "sub")) hP (fun F v s h=>(show GoV _ _ _ _ from h).drop (by walk_at "sub"))
theorem XZ (T:Txt K mg) (vs:List V) (H:Hp) (Q:VK) (X:XK) (h:JT K ω vs H Q X):PX K ω X { nx:=fun _ H'=>Q .non H',rt:=Q } (L2.start U9 vs) H:=
 AO (fun x F D E hrt hnx hP=>by
  subst hrt
  exact XY T hnx hP) h
theorem ZH (K:jf):∀ vs H Q E,JT K ω vs H Q E→vs.length=2:=Ak fun _=>rfl
theorem UH (T:Txt K mg) {va:Rat} {vb:Rat} (hnx:∀ (F:Hp) (K:jf) G D1,GoV E.rt F (DN K) D1→Go E.nx F G D1) (hP:(TV K ω X E.rt D0).W F0 (GS va vb)) :
    Go (LJ K ω X E) F0 [some ((tD K eQ) va),some ((tD K eQ) vb)] D0:=by
  unfold GS at hP
  exact AH (w:=(TV K ω X E.rt D0)) (Dd:=fun _:Unit=>D0) (s:=()) (fun v _=>v) (KJ (BB (DH (A1 (R:=(tD K eQ)) (va) rfl)) fun _=>(Cd (A1 (R:=(tD K eQ)) (vb) rfl))) fun _=>(BB (DH (A1 (R:=(tD K eQ)) (vb) rfl)) fun _=>(Cd (A1 (R:=(tD K eQ)) (va) rfl)))) hP (fun F v s h=>(show GoV _ _ _ _ from h).drop (by walk_at "sub"))
theorem UI (T:Txt K mg) (vs:List V) (H:Hp) (Q:VK) (X:XK) (h:Dq K ω vs H Q X):LJ K ω X { nx:=fun _ H'=>Q .non H',rt:=Q } (L2.start NZ vs) H:=
 AO (fun x F D E hrt hnx hP=>by
  subst hrt
  exact UH T hnx hP) h
theorem WB (K:jf):∀ vs H Q E,Dq K ω vs H Q E→vs.length=2:=Ak fun _=>rfl
theorem Rc (T:Txt K mg) {BV:Rat} {Cj:jh} (hnx:∀ (F:Hp) (K:jf) G D1,GoV E.rt F (DN K) D1→Go E.nx F G D1) (hP:(IS K ω X E.rt D0).W F0 (Ce BV Cj)) :
    Go (GB K ω X E) F0 [some ((tD K eQ) BV),some ((kW K) Cj),none,none,none] D0:=by
  unfold Ce at hP
  refine AB (Br (w:=(IS K ω X E.rt D0)) (Hs (k:=kS) (Rv:=(tD K eQ))) hP fun x1 p2 hP=>?_)
  walk_at "dd"
  refine AB (BA (w:=(IS K ω X E.rt D0)) (σt:=jh) (CK (A1 (R:=(kW K)) (Cj) rfl)) (fun s3=>[some ((tD K eQ) BV),some ((kW K) Cj),some (Is (.ref p2)),none,none]) (fun s3=>(p2,(OXT kS (tD K eQ)) (s3))::D0) x1 (fun s3 x4=>[some ((tD K eQ) BV),some ((kW K) Cj),some (Is (.ref p2)),some ((tD K eS) x4.1),some ((tD K eQ) x4.2)]) hP (by walk_at "sle") (by walk_at "sub") (fun _=>trivial) (fun _ _=>(CI (AF AE (AF AE Bk)) rfl)) ?_ ?_)
  · intro F6 t6 s3 hP
    unfold DZ at hP
    walk_at "dd"
    refine MR (j:=0) (i:=2) (k:=kS) (Rv:=(tD K eQ)) rfl rfl ?_
    walk_at "dd"
    exact AH (w:=(IS K ω X E.rt D0)) (Dd:=fun _:Unit=>D0) (s:=()) (fun v _=>v) (Be (Rs:=fun x:(Rat×jh)=>[(tD K eQ) x.1,(kO K) x.2]) (n:=2) (g:=fun (t:Rat×jh×Unit)=>(t.1,t.2.1)) (A0 (R:=(tD K eQ)) (Rs:=fun (t:jh×Unit)=>[(kO K) t.1]) (A1 (R:=(tD K eQ)) (BV) rfl) fun _=>(A0 (R:=(kO K)) (Rs:=fun (t:Unit)=>[]) (GP (f:=id) (AQ (MO (G1:=(fun x7=>[some ((tD K eQ) BV),some ((kW K) Cj),some ((kG K) s3),some ((tD K eS) x7),none])) (CK (Jb dw_Z (A1 (R:=(kG K)) (s3) rfl))) (fun _=>(DG (by decide))) (fun _ _=>trivial) (fun x7 _ cq=>(AN (JY LN (Eb dw_Z kvS (A1 (R:=(kG K)) (s3) rfl) fun _=>(A1 (R:=(tD K eS)) (x7) rfl)) fun _=>(Fs (R:=(tD K eQ)) (0:Rat) T.c_NOUGHT (c_Q _))))) (fun x7 _ cq=>(Be (Rs:=fun x:(Tx×Rat)=>[(tD K eS) x.1,(tD K eQ) x.2]) (n:=2) (g:=fun (t:Tx×Rat×Unit)=>(t.1,t.2.1)) (A0 (R:=(tD K eS)) (Rs:=fun (t:Rat×Unit)=>[(tD K eQ) t.1]) (A1 (R:=(tD K eS)) (x7) rfl) fun _=>(A0 (R:=(tD K eQ)) (Rs:=fun (t:Unit)=>[]) (Eb dw_Z kvS (A1 (R:=(kG K)) (s3) rfl) fun _=>(A1 (R:=(tD K eS)) (x7) rfl)) fun _=>A2)) (fun _=>rfl))))) tv_l) fun _=>A2)) (fun _=>rfl)) hP (fun F v s h=>(show GoV _ _ _ _ from h).drop (by walk_at "sub"))
  · intro hB6 F6 t6 x4 s3 n5 Nx hN6 hP
    unfold Da at hP
    walk_at "dd"
    refine KN (w:=(IS K ω X E.rt D0)) (Dd:=fun _:Unit=>(p2,(OXT kS (tD K eQ)) (s3))::D0) (s:=()) (k:=kS) (Rv:=(tD K eQ)) (m:=s3) (hkv:=kvS) (n:=2) rfl (AD (fun _ _ _ _ h=>h) (A0 (La (dw_O (k:=kS) (Rv:=(tD K eQ)) (m:=s3) (at_n 0 fun _=>rfl)) kvS (A1 (R:=fun _:Unit=>Is (.ref p2)) () rfl) (fun _=>(A1 (R:=(tD K eS)) (x4.1) rfl)) fun _=>(Fs (R:=(tD K eQ)) (0:Rat) T.c_NOUGHT (c_Q _))) fun _=>(A0 (A1 (R:=(tD K eQ)) (x4.2) rfl) fun _=>A2)) (fun _=>by walk_at "sub")) (fun _=>(A1 (R:=(tD K eS)) (x4.1) rfl)) (at_n 0 fun _=>rfl) hP fun x14 hP=>?_
    walk_at "dd"
    exact (hN6 _ (Same.refl _) x14.1 hP).weak (by walk_at "sle") (by walk_at "sub")
theorem Rf (T:Txt K mg) (vs:List V) (H:Hp) (Q:VK) (X:XK) (h:Ku K ω vs H Q X):GB K ω X { nx:=fun _ H'=>Q .non H',rt:=Q } (L2.start IK vs) H:=
 AO (fun x F D E hrt hnx hP=>by
  subst hrt
  exact Rc T hnx hP) h
theorem UJ (K:jf):∀ vs H Q E,Ku K ω vs H Q E→vs.length=2:=Ak fun _=>rfl
theorem Rg (T:Txt K mg) {BV:Rat} {Cj:jh} (hnx:∀ (F:Hp) (K:jf) G D1,GoV E.rt F (DN K) D1→Go E.nx F G D1) (hP:(IT K ω X E.rt D0).W F0 (Ce BV Cj)) :
    Go (GB K ω X E) F0 [some ((tD K eQ) BV),some ((kO K) Cj),none,none,none] D0:=by
  unfold Ce at hP
  refine AB (Br (w:=(IT K ω X E.rt D0)) (Hs (k:=kS) (Rv:=(tD K eQ))) hP fun x1 p2 hP=>?_)
  walk_at "dd"
  refine AB (BA (w:=(IT K ω X E.rt D0)) (σt:=jh) (Ja (A1 (R:=(kO K)) (Cj) rfl)) (fun s3=>[some ((tD K eQ) BV),some ((kO K) Cj),some (Is (.ref p2)),none,none]) (fun s3=>(p2,(OXT kS (tD K eQ)) (s3))::D0) x1 (fun s3 x4=>[some ((tD K eQ) BV),some ((kO K) Cj),some (Is (.ref p2)),some ((tD K eS) x4.1),some ((tD K eQ) x4.2)]) hP (by walk_at "sle") (by walk_at "sub") (fun _=>trivial) (fun _ _=>(CI (AF AE (AF AE Bk)) rfl)) ?_ ?_)
  · intro F6 t6 s3 hP
    unfold DZ at hP
    walk_at "dd"
    refine MR (j:=0) (i:=2) (k:=kS) (Rv:=(tD K eQ)) rfl rfl ?_
    walk_at "dd"
    exact AH (w:=(IT K ω X E.rt D0)) (Dd:=fun _:Unit=>D0) (s:=()) (fun v _=>v) (Be (Rs:=fun x:(Rat×jh)=>[(tD K eQ) x.1,(kO K) x.2]) (n:=2) (g:=fun (t:Rat×jh×Unit)=>(t.1,t.2.1)) (A0 (R:=(tD K eQ)) (Rs:=fun (t:jh×Unit)=>[(kO K) t.1]) (A1 (R:=(tD K eQ)) (BV) rfl) fun _=>(A0 (R:=(kO K)) (Rs:=fun (t:Unit)=>[]) (GP (f:=id) (AQ (MO (G1:=(fun x7=>[some ((tD K eQ) BV),some ((kO K) Cj),some ((kG K) s3),some ((tD K eS) x7),none])) (CK (Jb dw_Z (A1 (R:=(kG K)) (s3) rfl))) (fun _=>(DG (by decide))) (fun _ _=>trivial) (fun x7 _ cq=>(AN (JY LN (Eb dw_Z kvS (A1 (R:=(kG K)) (s3) rfl) fun _=>(A1 (R:=(tD K eS)) (x7) rfl)) fun _=>(Fs (R:=(tD K eQ)) (0:Rat) T.c_NOUGHT (c_Q _))))) (fun x7 _ cq=>(Be (Rs:=fun x:(Tx×Rat)=>[(tD K eS) x.1,(tD K eQ) x.2]) (n:=2) (g:=fun (t:Tx×Rat×Unit)=>(t.1,t.2.1)) (A0 (R:=(tD K eS)) (Rs:=fun (t:Rat×Unit)=>[(tD K eQ) t.1]) (A1 (R:=(tD K eS)) (x7) rfl) fun _=>(A0 (R:=(tD K eQ)) (Rs:=fun (t:Unit)=>[]) (Eb dw_Z kvS (A1 (R:=(kG K)) (s3) rfl) fun _=>(A1 (R:=(tD K eS)) (x7) rfl)) fun _=>A2)) (fun _=>rfl))))) tv_l) fun _=>A2)) (fun _=>rfl)) hP (fun F v s h=>(show GoV _ _ _ _ from h).drop (by walk_at "sub"))
  · intro hB6 F6 t6 x4 s3 n5 Nx hN6 hP
    unfold Da at hP
    walk_at "dd"
    refine KN (w:=(IT K ω X E.rt D0)) (Dd:=fun _:Unit=>(p2,(OXT kS (tD K eQ)) (s3))::D0) (s:=()) (k:=kS) (Rv:=(tD K eQ)) (m:=s3) (hkv:=kvS) (n:=2) rfl (AD (fun _ _ _ _ h=>h) (A0 (La (dw_O (k:=kS) (Rv:=(tD K eQ)) (m:=s3) (at_n 0 fun _=>rfl)) kvS (A1 (R:=fun _:Unit=>Is (.ref p2)) () rfl) (fun _=>(A1 (R:=(tD K eS)) (x4.1) rfl)) fun _=>(Fs (R:=(tD K eQ)) (0:Rat) T.c_NOUGHT (c_Q _))) fun _=>(A0 (A1 (R:=(tD K eQ)) (x4.2) rfl) fun _=>A2)) (fun _=>by walk_at "sub")) (fun _=>(A1 (R:=(tD K eS)) (x4.1) rfl)) (at_n 0 fun _=>rfl) hP fun x14 hP=>?_
    walk_at "dd"
    exact (hN6 _ (Same.refl _) x14.1 hP).weak (by walk_at "sle") (by walk_at "sub")
theorem Rh (T:Txt K mg) (vs:List V) (H:Hp) (Q:VK) (X:XK) (h:Kv K ω vs H Q X):GB K ω X { nx:=fun _ H'=>Q .non H',rt:=Q } (L2.start IK vs) H:=
 AO (fun x F D E hrt hnx hP=>by
  subst hrt
  exact Rg T hnx hP) h
theorem UK (K:jf):∀ vs H Q E,Kv K ω vs H Q E→vs.length=2:=Ak fun _=>rfl
theorem Ri (T:Txt K mg) {BV:Rat} {Cj:jh} (hnx:∀ (F:Hp) (K:jf) G D1,GoV E.rt F (DN K) D1→Go E.nx F G D1) (hP:(IU K ω X E.rt D0).W F0 (Ce BV Cj)) :
    Go (GB K ω X E) F0 [some ((tD K eQ) BV),some ((kW K) Cj),none,none,none] D0:=by
  unfold Ce at hP
  refine AB (Br (w:=(IU K ω X E.rt D0)) (Hs (k:=kS) (Rv:=(tD K eQ))) hP fun x1 p2 hP=>?_)
  walk_at "dd"
  refine AB (BA (w:=(IU K ω X E.rt D0)) (σt:=jh) (CK (A1 (R:=(kW K)) (Cj) rfl)) (fun s3=>[some ((tD K eQ) BV),some ((kW K) Cj),some (Is (.ref p2)),none,none]) (fun s3=>(p2,(OXT kS (tD K eQ)) (s3))::D0) x1 (fun s3 x4=>[some ((tD K eQ) BV),some ((kW K) Cj),some (Is (.ref p2)),some ((tD K eS) x4.1),some ((tD K eQ) x4.2)]) hP (by walk_at "sle") (by walk_at "sub") (fun _=>trivial) (fun _ _=>(CI (AF AE (AF AE Bk)) rfl)) ?_ ?_)
  · intro F6 t6 s3 hP
    unfold DZ at hP
    walk_at "dd"
    refine MR (j:=0) (i:=2) (k:=kS) (Rv:=(tD K eQ)) rfl rfl ?_
    walk_at "dd"
    exact AH (w:=(IU K ω X E.rt D0)) (Dd:=fun _:Unit=>D0) (s:=()) (fun v _=>v) (Be (Rs:=fun x:(Rat×jh)=>[(tD K eQ) x.1,(kO K) x.2]) (n:=2) (g:=fun (t:Rat×jh×Unit)=>(t.1,t.2.1)) (A0 (R:=(tD K eQ)) (Rs:=fun (t:jh×Unit)=>[(kO K) t.1]) (A1 (R:=(tD K eQ)) (BV) rfl) fun _=>(A0 (R:=(kO K)) (Rs:=fun (t:Unit)=>[]) (GP (f:=id) (AQ (MO (G1:=(fun x7=>[some ((tD K eQ) BV),some ((kW K) Cj),some ((kG K) s3),some ((tD K eS) x7),none])) (CK (Jb dw_Z (A1 (R:=(kG K)) (s3) rfl))) (fun _=>(DG (by decide))) (fun _ _=>trivial) (fun x7 _ cq=>(AN (JY LN (Eb dw_Z kvS (A1 (R:=(kG K)) (s3) rfl) fun _=>(A1 (R:=(tD K eS)) (x7) rfl)) fun _=>(Fs (R:=(tD K eQ)) (0:Rat) T.c_NOUGHT (c_Q _))))) (fun x7 _ cq=>(Be (Rs:=fun x:(Tx×Rat)=>[(tD K eS) x.1,(tD K eQ) x.2]) (n:=2) (g:=fun (t:Tx×Rat×Unit)=>(t.1,t.2.1)) (A0 (R:=(tD K eS)) (Rs:=fun (t:Rat×Unit)=>[(tD K eQ) t.1]) (A1 (R:=(tD K eS)) (x7) rfl) fun _=>(A0 (R:=(tD K eQ)) (Rs:=fun (t:Unit)=>[]) (Eb dw_Z kvS (A1 (R:=(kG K)) (s3) rfl) fun _=>(A1 (R:=(tD K eS)) (x7) rfl)) fun _=>A2)) (fun _=>rfl))))) tv_l) fun _=>A2)) (fun _=>rfl)) hP (fun F v s h=>(show GoV _ _ _ _ from h).drop (by walk_at "sub"))
  · intro hB6 F6 t6 x4 s3 n5 Nx hN6 hP
    unfold Da at hP
    walk_at "dd"
    refine KN (w:=(IU K ω X E.rt D0)) (Dd:=fun _:Unit=>(p2,(OXT kS (tD K eQ)) (s3))::D0) (s:=()) (k:=kS) (Rv:=(tD K eQ)) (m:=s3) (hkv:=kvS) (n:=2) rfl (AD (fun _ _ _ _ h=>h) (A0 (La (dw_O (k:=kS) (Rv:=(tD K eQ)) (m:=s3) (at_n 0 fun _=>rfl)) kvS (A1 (R:=fun _:Unit=>Is (.ref p2)) () rfl) (fun _=>(A1 (R:=(tD K eS)) (x4.1) rfl)) fun _=>(Fs (R:=(tD K eQ)) (0:Rat) T.c_NOUGHT (c_Q _))) fun _=>(A0 (A1 (R:=(tD K eQ)) (x4.2) rfl) fun _=>A2)) (fun _=>by walk_at "sub")) (fun _=>(A1 (R:=(tD K eS)) (x4.1) rfl)) (at_n 0 fun _=>rfl) hP fun x14 hP=>?_
    walk_at "dd"
    exact (hN6 _ (Same.refl _) x14.1 hP).weak (by walk_at "sle") (by walk_at "sub")
theorem Rj (T:Txt K mg) (vs:List V) (H:Hp) (Q:VK) (X:XK) (h:Kw K ω vs H Q X):GB K ω X { nx:=fun _ H'=>Q .non H',rt:=Q } (L2.start IK vs) H:=
 AO (fun x F D E hrt hnx hP=>by
  subst hrt
  exact Ri T hnx hP) h
theorem UL (K:jf):∀ vs H Q E,Kw K ω vs H Q E→vs.length=2:=Ak fun _=>rfl
theorem WC (T:Txt K mg) (vs:List V) (H:Hp) (Q:VK) (X:XK) (h:Ee K ω vs H Q X):GB K ω X { nx:=fun _ H'=>Q .non H',rt:=Q } (L2.start IK vs) H:=by
 rcases h with h | h | h
 ·exact Rf T vs H Q X h
 ·exact Rh T vs H Q X h
 ·exact Rj T vs H Q X h
theorem Xa (K:jf):∀ vs H Q E,Ee K ω vs H Q E→vs.length=2:=fun vs H Q E h=>by
 rcases h with h | h | h
 ·exact UJ K vs H Q E h
 ·exact UK K vs H Q E h
 ·exact UL K vs H Q E h
theorem Rl (T:Txt K mg) {va:(Rat×jh)} {vb:(Rat×jh)} (hnx:∀ (F:Hp) (K:jf) G D1,GoV E.rt F (DN K) D1→Go E.nx F G D1) (hP:(QU K ω X E.rt D0).W F0 (GR va vb)) :
    Go (K1 K ω X E) F0 [some ((kE K) va),some ((kE K) vb)] D0:=by
  unfold GR at hP
  exact AH (w:=(QU K ω X E.rt D0)) (Dd:=fun _:Unit=>D0) (s:=()) (fun v _=>v) (AD (fun _ _ _ _ h=>.inr (.inl h)) (A0 (AD (fun _ _ _ _ h=>h) (A0 (BC (i:=0) (Rs:=fun x:(Rat×jh)=>[(tD K eQ) x.1,(kO K) x.2]) (R':=(tD K eQ)) (f:=fun x=>x.1) (A1 (R:=(kE K)) (va) rfl) fun _=>rfl) fun _=>(A0 (BC (i:=0) (Rs:=fun x:(Rat×jh)=>[(tD K eQ) x.1,(kO K) x.2]) (R':=(tD K eQ)) (f:=fun x=>x.1) (A1 (R:=(kE K)) (vb) rfl) fun _=>rfl) fun _=>A2)) (fun _=>by walk_at "sub")) fun _=>(A0 (Zy (BC (i:=1) (Rs:=fun x:(Rat×jh)=>[(tD K eQ) x.1,(kO K) x.2]) (R':=(kO K)) (f:=fun x=>x.2) (A1 (R:=(kE K)) (va) rfl) fun _=>rfl) fun _=>(BC (i:=1) (Rs:=fun x:(Rat×jh)=>[(tD K eQ) x.1,(kO K) x.2]) (R':=(kO K)) (f:=fun x=>x.2) (A1 (R:=(kE K)) (vb) rfl) fun _=>rfl)) fun _=>A2)) (fun _=>by walk_at "sub")) hP (fun F v s h=>(show GoV _ _ _ _ from h).drop (by walk_at "sub"))
theorem Rm (T:Txt K mg) (vs:List V) (H:Hp) (Q:VK) (X:XK) (h:Fg K ω vs H Q X):K1 K ω X { nx:=fun _ H'=>Q .non H',rt:=Q } (L2.start Lx vs) H:=
 AO (fun x F D E hrt hnx hP=>by
  subst hrt
  exact Rl T hnx hP) h
theorem UM (K:jf):∀ vs H Q E,Fg K ω vs H Q E→vs.length=2:=Ak fun _=>rfl
theorem WD (T:Txt K mg) {va:(Rat×jh)} {AK:jh} (hnx:∀ (F:Hp) (K:jf) G D1,GoV E.rt F (DN K) D1→Go E.nx F G D1) (hP:(IV K ω X E.rt D0).W F0 (Hx va AK)) :
    Go (N0 K ω X E) F0 [some ((kE K) va),some ((kG K) AK),none,none,none] D0:=by
  unfold Hx at hP
  refine AB (Ao (w:=(IV K ω X E.rt D0)) (BC (i:=0) (Rs:=fun x:(Rat×jh)=>[(tD K eQ) x.1,(kO K) x.2]) (R':=(tD K eQ)) (f:=fun x=>x.1) (A1 (R:=(kE K)) (va) rfl) fun _=>rfl) hP fun x1 hP=>?_)
  walk_at "dd"
  refine AB (BA (w:=(IV K ω X E.rt D0)) (σt:=Rat) (Ja (BC (i:=1) (Rs:=fun x:(Rat×jh)=>[(tD K eQ) x.1,(kO K) x.2]) (R':=(kO K)) (f:=fun x=>x.2) (A1 (R:=(kE K)) (va) rfl) fun _=>rfl)) (fun s2=>[some ((kE K) va),some ((kG K) AK),some ((tD K eQ) s2),none,none]) (fun s2=>D0) x1 (fun s2 x3=>[some ((kE K) va),some ((kG K) AK),some ((tD K eQ) s2),some ((tD K eS) x3.1),some ((tD K eQ) x3.2)]) hP (by walk_at "sle") (by walk_at "sub") (fun _=>trivial) (fun _ _=>(CI (AF AE (AF AE Bk)) rfl)) ?_ ?_)
  · intro F5 t5 s2 hP
    unfold KW at hP
    walk_at "dd"
    exact AH (w:=(IV K ω X E.rt D0)) (Dd:=fun _:Unit=>D0) (s:=()) (fun v _=>v) (A1 (R:=(tD K eQ)) (s2) rfl) hP (fun F v s h=>(show GoV _ _ _ _ from h).drop (by walk_at "sub"))
  · intro hB5 F5 t5 x3 s2 n4 Nx hN5 hP
    unfold Ii at hP
    walk_at "dd"
    refine AB (Bp (w:=(IV K ω X E.rt D0)) (FM (V5 dw_Z kvS (A1 (R:=(tD K eS)) (x3.1) rfl) fun _=>(A1 (R:=(kG K)) (AK) rfl))) hP ?_ ?_)
    · intro hP
      walk_at "dd"
      exact SX (w:=(IV K ω X E.rt D0)) rfl hP (by walk_at "sub")
    · intro hP
      walk_at "dd"
      refine Aw ?_
      walk_at "dd"
      refine Ao (w:=(IV K ω X E.rt D0)) (AD (fun _ _ _ _ h=>h) (A0 (A1 (R:=(tD K eQ)) (s2) rfl) fun _=>(A0 (AD (fun _ _ _ _ h=>h) (A0 (A1 (R:=(tD K eQ)) (x3.2) rfl) fun _=>(A0 (Eb dw_Z kvS (A1 (R:=(kG K)) (AK) rfl) fun _=>(A1 (R:=(tD K eS)) (x3.1) rfl)) fun _=>A2)) (fun _=>by walk_at "sub")) fun _=>A2)) (fun _=>by walk_at "sub")) hP fun x6 hP=>?_
      walk_at "dd"
      exact (hN5 _ (Same.refl _) x6 hP).weak (by walk_at "sle") (by walk_at "sub")
theorem WH (T:Txt K mg) (vs:List V) (H:Hp) (Q:VK) (X:XK) (h:Ef K ω vs H Q X):N0 K ω X { nx:=fun _ H'=>Q .non H',rt:=Q } (L2.start QR vs) H:=
 AO (fun x F D E hrt hnx hP=>by
  subst hrt
  exact WD T hnx hP) h
theorem Xb (K:jf):∀ vs H Q E,Ef K ω vs H Q E→vs.length=2:=Ak fun _=>rfl
theorem Rn (T:Txt K mg) {vgaps:(List jg)} (hnx:∀ (F:Hp) (K:jf) G D1,GoV E.rt F (DN K) D1→Go E.nx F G D1) (hP:(IW K ω X E.rt D0).W F0 (GT vgaps)) :
    Go (K2 K ω X E) F0 [some ((kK K) vgaps),none,none,none,none] D0:=by
  unfold GT at hP
  refine AB (Br (w:=(IW K ω X E.rt D0)) (CB (R:=(kC K))) hP fun x1 p2 hP=>?_)
  walk_at "dd"
  refine AB (BA (w:=(IW K ω X E.rt D0)) (σt:=jz) (CK (A1 (R:=(kK K)) (vgaps) rfl)) (fun s3=>[some ((kK K) vgaps),some (Is (.ref p2)),none,none,none]) (fun s3=>(p2,(OLT (kC K)) (s3))::D0) x1 (fun s3 x4=>[some ((kK K) vgaps),some (Is (.ref p2)),some ((kC K) x4.1),some ((kC K) x4.2.1),some ((kE K) x4.2.2)]) hP (by walk_at "sle") (by walk_at "sub") (fun _=>trivial) (fun _ _=>(CI (AF AE (AF AE (AF AE Bk))) rfl)) ?_ ?_)
  · intro F6 t6 s3 hP
    unfold Gb at hP
    walk_at "dd"
    refine Fp (K:=K) (k:=0) (i:=1) (R:=(kC K)) rfl rfl ?_
    walk_at "dd"
    walk_at "dd"
    exact AH (w:=(IW K ω X E.rt D0)) (Dd:=fun _:Unit=>D0) (s:=()) (fun v _=>v) (AQ (Tg (k:=(kM)) (Rk:=(kC K)) (fun x=>d_T (AC ((d_b (e:=eS)) x.1) (AC ((d_b (e:=eS)) x.2) Aa))) (gO e7 e7 so_S so_S Ep Ep) (so_2 so_S so_S) (by decide) Zr (A1 (R:=(kZ K)) (s3) rfl))) hP (fun F v s h=>(show GoV _ _ _ _ from h).drop (by walk_at "sub"))
  · intro hB6 F6 t6 x4 s3 n5 Nx hN6 hP
    unfold Gc at hP
    walk_at "dd"
    refine V4 (w:=(IW K ω X E.rt D0)) (Dd:=fun _:Unit=>(p2,(OLT (kC K)) (s3))::D0) (s:=()) (R:=(kC K)) (xs:=s3) (n:=1) rfl (C5 (eval_cons (A1 (R:=(kC K)) (x4.1) rfl) fun _=>(eval_cons (A1 (R:=(kC K)) (x4.2.1) rfl) fun _=>eval_nil))) (at_n 0 fun _=>rfl) hP fun x8 hP=>?_
    walk_at "dd"
    exact (hN6 _ (Same.refl _) x8.1 hP).weak (by walk_at "sle") (by walk_at "sub")
theorem Ro (T:Txt K mg) (vs:List V) (H:Hp) (Q:VK) (X:XK) (h:Fh K ω vs H Q X):K2 K ω X { nx:=fun _ H'=>Q .non H',rt:=Q } (L2.start Ly vs) H:=
 AO (fun x F D E hrt hnx hP=>by
  subst hrt
  exact Rn T hnx hP) h
theorem UN (K:jf):∀ vs H Q E,Fh K ω vs H Q E→vs.length=1:=Ak fun _=>rfl
theorem MA (m:Nat) (T:Txt K mg) {vgaps:(List jg)} {vway:(List Int)} (hnx:∀ (F:Hp) (K:jf) G D1,GoV E.rt F (DN K) D1→Go E.nx F G D1) (hP:(An K ω X E.rt D0).W F0 (Cf (CD m) vgaps vway)) :
    Go (FK m K ω X E) F0 [some ((kK K) vgaps),some ((kP K) vway),none,none,none] D0:=by
  unfold Cf at hP
  refine AB (Ao (w:=(An K ω X E.rt D0)) (BC (i:=1) (Rs:=fun x:jg=>[(kC K) x.1,(kC K) x.2.1,(kE K) x.2.2]) (R':=(kC K)) (f:=fun x=>x.2.1) (Bq Cp (A1 (R:=(kK K)) (vgaps) rfl) fun _=>(Bq Cp (A1 (R:=(kP K)) (vway) rfl) fun _=>(PH A9))) fun _=>rfl) hP fun x1 hP=>?_)
  walk_at "dd"
  refine AB (Bp (w:=(An K ω X E.rt D0)) (AN (FN (Ny Ep Ep) (EG (R':=tD K (e2 eS eS)) (A1 (R:=(kC K)) (x1) rfl) (fun x=>d_T (AC ((d_b (e:=eS)) x.1) (AC ((d_b (e:=eS)) x.2) Aa)))) fun _=>(EG (R':=tD K (e2 eS eS)) (BC (i:=0) (Rs:=fun x:jg=>[(kC K) x.1,(kC K) x.2.1,(kE K) x.2.2]) (R':=(kC K)) (f:=fun x=>x.1) (Bq Cp (A1 (R:=(kK K)) (vgaps) rfl) fun _=>(Bq Cp (A1 (R:=(kP K)) (vway) rfl) fun _=>A9)) fun _=>rfl) (fun x=>d_T (AC ((d_b (e:=eS)) x.1) (AC ((d_b (e:=eS)) x.2) Aa)))))) hP ?_ ?_)
  · intro hP
    walk_at "dd"
    exact AH (w:=(An K ω X E.rt D0)) (Dd:=fun _:Unit=>D0) (s:=()) (fun v _=>v) (AQ (C5 (eval_cons (GP (f:=id) (A1 (R:=(kP K)) (vway) rfl) tv_l) fun _=>eval_nil))) hP (fun F v s h=>(show GoV _ _ _ _ from h).drop (by walk_at "sub"))
  · intro hP
    walk_at "dd"
    refine Aw ?_
    walk_at "dd"
    refine AB (Br (w:=(An K ω X E.rt D0)) (CB (R:=(kN K))) hP fun x2 p3 hP=>?_)
    walk_at "dd"
    refine AB (Ga (w:=(An K ω X E.rt D0)) Bt (fun s14=>[some ((kK K) vgaps),some ((kP K) vway),some ((kC K) x1),some ((LT K (kN K)) s14),none]) (fun s14=>D0) ?_ ?_)
    · intro F15 t15 s14 hP
      unfold Bt at hP
      walk_at "dd"
      exact AH (w:=(An K ω X E.rt D0)) (Dd:=fun _:Unit=>D0) (s:=()) (fun v _=>v) (A1 (R:=(LT K (kN K))) (s14) rfl) hP (fun F v s h=>(show GoV _ _ _ _ from h).drop (by walk_at "sub"))
    · intro hk15
      walk_at "dd"
      refine Bp (w:=(An K ω X E.rt D0)) (AN (Wt (Ny Ep Ep) (fun x=>d_T (AC ((d_b (e:=eS)) x.1) (AC ((d_b (e:=eS)) x.2) Aa))) Zr (A1 (R:=(kC K)) (x1) rfl) fun _=>(AQ (Hr (G1:=(fun x9=>[some ((kK K) vgaps),some ((kP K) vway),some ((kC K) x1),some (Is (.ref p3)),some ((tD K eI) x9)])) (CK (A1 (R:=(kP K)) (vway) rfl)) (fun _=>(DG (by decide))) (fun _ _=>trivial) (fun x9 _ cq=>(BC (i:=0) (Rs:=fun x:jg=>[(kC K) x.1,(kC K) x.2.1,(kE K) x.2.2]) (R':=(kC K)) (f:=fun x=>x.1) (Bq Cp (A1 (R:=(kK K)) (vgaps) rfl) fun _=>(A1 (R:=(tD K eI)) (x9) rfl)) fun _=>rfl)))))) hP ?_ ?_
      · intro hP
        walk_at "dd"
        refine BA (w:=(An K ω X E.rt D0)) (σt:=jl) (WY (By (Bq Cp (A1 (R:=(kP K)) (vway) rfl) fun _=>A9) fun _=>A9) fun _=>(MM Cp (A1 (R:=(kK K)) (vgaps) rfl))) (fun s17=>[some ((kK K) vgaps),some ((kP K) vway),some ((kC K) x1),some (Is (.ref p3)),none]) (fun s17=>(p3,(OLT (kN K)) (s17))::D0) x2 (fun s17 x18=>[some ((kK K) vgaps),some ((kP K) vway),some ((kC K) x1),some (Is (.ref p3)),some ((tD K eI) x18)]) hP (by walk_at "sle") (by walk_at "sub") (fun _=>trivial) (fun _ _=>AE) ?_ ?_
        · intro F20 t20 s17 hP
          unfold FP at hP
          walk_at "dd"
          refine Fp (K:=K) (k:=0) (i:=3) (R:=(kN K)) rfl rfl ?_
          walk_at "dd"
          walk_at "dd"
          exact ((hk15 _ t20 s17) hP).weak (by walk_at "sle") (by walk_at "sub")
        · intro hB20 F20 t20 x18 s17 n19 Nx hN20 hP
          unfold FQ at hP
          walk_at "dd"
          refine Ga (w:=(An K ω X E.rt D0)) (Bu n19) (fun s21=>[some ((kK K) vgaps),some ((kP K) vway),some ((kC K) x1),some (Is (.ref p3)),some ((tD K eI) x18)]) (fun s21=>(p3,(OLT (kN K)) (s21))::D0) ?_ ?_
          · intro F22 t22 s21 hP
            unfold Bu at hP
            walk_at "dd"
            exact (hN20 _ t22 s21 hP).weak (by walk_at "sle") (by walk_at "sub")
          · intro hk22
            walk_at "dd"
            refine Bp (w:=(An K ω X E.rt D0)) (AN (FN (Ny Ep Ep) (EG (R':=tD K (e2 eS eS)) (BC (i:=0) (Rs:=fun x:jg=>[(kC K) x.1,(kC K) x.2.1,(kE K) x.2.2]) (R':=(kC K)) (f:=fun x=>x.1) (Bq Cp (A1 (R:=(kK K)) (vgaps) rfl) fun _=>(A1 (R:=(tD K eI)) (x18) rfl)) fun _=>rfl) (fun x=>d_T (AC ((d_b (e:=eS)) x.1) (AC ((d_b (e:=eS)) x.2) Aa)))) fun _=>(EG (R':=tD K (e2 eS eS)) (A1 (R:=(kC K)) (x1) rfl) (fun x=>d_T (AC ((d_b (e:=eS)) x.1) (AC ((d_b (e:=eS)) x.2) Aa)))))) hP ?_ ?_
            · intro hP
              walk_at "dd"
              refine VC (w:=(An K ω X E.rt D0)) (Dd:=fun _:Unit=>(p3,(OLT (kN K)) (s17))::D0) (s:=()) (R:=(kN K)) (xs:=s17) (n:=3) rfl (AD (fun _ _ _ _ h=>h) (A0 (A1 (R:=(kK K)) (vgaps) rfl) fun _=>(A0 (Yh (A1 (R:=(kP K)) (vway) rfl) fun _=>(AQ (C5 (eval_cons (A1 (R:=(tD K eI)) (x18) rfl) fun _=>eval_nil)))) fun _=>A2)) (fun _=>by walk_at "sub")) (at_n 0 fun _=>rfl) hP fun x23 hP=>?_
              walk_at "dd"
              exact ((hk22 _ (Same.refl _) x23.1) hP).weak (by walk_at "sle") (by walk_at "sub")
            · intro hP
              walk_at "dd"
              refine Aw ?_
              walk_at "dd"
              exact ((hk22 _ (Same.refl _) s17) hP).weak (by walk_at "sle") (by walk_at "sub")
      · intro hP
        walk_at "dd"
        refine Aw ?_
        walk_at "dd"
        refine Fp (K:=K) (k:=0) (i:=3) (R:=(kN K)) rfl rfl ?_
        walk_at "dd"
        walk_at "dd"
        exact ((hk15 _ (Same.refl _) x2) hP).weak (by walk_at "sle") (by walk_at "sub")
theorem MB (T:Txt K mg) (m:Nat) (vs:List V) (H:Hp) (Q:VK) (X:XK) (h:BS (m+1) K ω vs H Q X):FK m K ω X { nx:=fun _ H'=>Q .non H',rt:=Q } (L2.start FI vs) H:=
 AO (fun x F D E hrt hnx hP=>by
  subst hrt
  exact MA m T hnx hP) h
theorem HJ (m:Nat) (K:jf):∀ vs H Q E,BS m K ω vs H Q E→vs.length=2:=Ak fun _=>rfl
theorem MC {vs:List V} {H:Hp} {Q:VK} {X:XK} (h:BS 0 K ω vs H Q X):False:=let ⟨_,_,_,_,_,hp⟩:=h;(show False from hp)
theorem Qk (T:Txt K mg) {vgaps:(List jg)} (hnx:∀ (F:Hp) (K:jf) G D1,GoV E.rt F (DN K) D1→Go E.nx F G D1) (hP:(H7 K ω X E.rt D0).W F0 (EK vgaps)) :
    Go (Iq K ω X E) F0 [some ((kK K) vgaps),none,none] D0:=by
  unfold EK at hP
  refine AB (Br (w:=(H7 K ω X E.rt D0)) (CB (R:=(kN K))) hP fun x1 p2 hP=>?_)
  walk_at "dd"
  refine AB (BA (w:=(H7 K ω X E.rt D0)) (σt:=jl) (Dj (MM Cp (A1 (R:=(kK K)) (vgaps) rfl))) (fun s4=>[some ((kK K) vgaps),some (Is (.ref p2)),none]) (fun s4=>(p2,(OLT (kN K)) (s4))::D0) x1 (fun s4 x5=>[some ((kK K) vgaps),some (Is (.ref p2)),some ((tD K eI) x5)]) hP (by walk_at "sle") (by walk_at "sub") (fun _=>trivial) (fun _ _=>AE) ?_ ?_)
  · intro F7 t7 s4 hP
    unfold I5 at hP
    walk_at "dd"
    refine Fp (K:=K) (k:=0) (i:=1) (R:=(kN K)) rfl rfl ?_
    walk_at "dd"
    walk_at "dd"
    exact AH (w:=(H7 K ω X E.rt D0)) (Dd:=fun _:Unit=>D0) (s:=()) (fun v _=>v) (A1 (R:=(LT K (kN K))) (s4) rfl) hP (fun F v s h=>(show GoV _ _ _ _ from h).drop (by walk_at "sub"))
  · intro hB7 F7 t7 x5 s4 n6 Nx hN7 hP
    unfold I6 at hP
    walk_at "dd"
    refine VC (w:=(H7 K ω X E.rt D0)) (Dd:=fun _:Unit=>(p2,(OLT (kN K)) (s4))::D0) (s:=()) (R:=(kN K)) (xs:=s4) (n:=1) rfl (AD (fun _ _ _ _ h=>h) (A0 (A1 (R:=(kK K)) (vgaps) rfl) fun _=>(A0 (AQ (C5 (eval_cons (A1 (R:=(tD K eI)) (x5) rfl) fun _=>eval_nil))) fun _=>A2)) (fun _=>by walk_at "sub")) (at_n 0 fun _=>rfl) hP fun x8 hP=>?_
    walk_at "dd"
    exact (hN7 _ (Same.refl _) x8.1 hP).weak (by walk_at "sle") (by walk_at "sub")
theorem Ql (T:Txt K mg) (vs:List V) (H:Hp) (Q:VK) (X:XK) (h:Eh K ω vs H Q X):Iq K ω X { nx:=fun _ H'=>Q .non H',rt:=Q } (L2.start Kj vs) H:=
 AO (fun x F D E hrt hnx hP=>by
  subst hrt
  exact Qk T hnx hP) h
theorem Rp (K:jf):∀ vs H Q E,Eh K ω vs H Q E→vs.length=1:=Ak fun _=>rfl
theorem Qm (T:Txt K mg) {vgaps:(List jg)} {MD:(List Int)} (hnx:∀ (F:Hp) (K:jf) G D1,GoV E.rt F (DN K) D1→Go E.nx F G D1) (hP:(H8 K ω X E.rt D0).W F0 (FY vgaps MD)) :
    Go (Ir K ω X E) F0 [some ((kK K) vgaps),some ((kN K) MD),none,none] D0:=by
  unfold FY at hP
  refine AB (Ao (w:=(H8 K ω X E.rt D0)) (AD (fun _ _ _ _ h=>.inr (.inr h)) (A0 (Ca (0:Rat) (by decide +kernel) (by decide +kernel)) fun _=>(A0 (AQ (CB (R:=(kH K)))) fun _=>A2)) (fun _=>by walk_at "sub")) hP fun x1 hP=>?_)
  walk_at "dd"
  refine AB (BA (w:=(H8 K ω X E.rt D0)) (σt:=(Rat×jh)) (Ja (A1 (R:=(kN K)) (MD) rfl)) (fun s2=>[some ((kK K) vgaps),some ((kN K) MD),some ((kE K) s2),none]) (fun s2=>D0) x1 (fun s2 x3=>[some ((kK K) vgaps),some ((kN K) MD),some ((kE K) s2),some ((tD K eI) x3)]) hP (by walk_at "sle") (by walk_at "sub") (fun _=>trivial) (fun _ _=>AE) ?_ ?_)
  · intro F5 t5 s2 hP
    unfold Fv at hP
    walk_at "dd"
    exact AH (w:=(H8 K ω X E.rt D0)) (Dd:=fun _:Unit=>D0) (s:=()) (fun v _=>v) (A1 (R:=(kE K)) (s2) rfl) hP (fun F v s h=>(show GoV _ _ _ _ from h).drop (by walk_at "sub"))
  · intro hB5 F5 t5 x3 s2 n4 Nx hN5 hP
    unfold Fw at hP
    walk_at "dd"
    refine Ao (w:=(H8 K ω X E.rt D0)) (AD (fun _ _ _ _ h=>h) (A0 (A1 (R:=(kE K)) (s2) rfl) fun _=>(A0 (BC (i:=2) (Rs:=fun x:jg=>[(kC K) x.1,(kC K) x.2.1,(kE K) x.2.2]) (R':=(kE K)) (f:=fun x=>x.2.2) (Bq Cp (A1 (R:=(kK K)) (vgaps) rfl) fun _=>(A1 (R:=(tD K eI)) (x3) rfl)) fun _=>rfl) fun _=>A2)) (fun _=>by walk_at "sub")) hP fun x6 hP=>?_
    walk_at "dd"
    exact (hN5 _ (Same.refl _) x6 hP).weak (by walk_at "sle") (by walk_at "sub")
theorem Qn (T:Txt K mg) (vs:List V) (H:Hp) (Q:VK) (X:XK) (h:Ei K ω vs H Q X):Ir K ω X { nx:=fun _ H'=>Q .non H',rt:=Q } (L2.start Kk vs) H:=
 AO (fun x F D E hrt hnx hP=>by
  subst hrt
  exact Qm T hnx hP) h
theorem Rq (K:jf):∀ vs H Q E,Ei K ω vs H Q E→vs.length=2:=Ak fun _=>rfl
theorem Rr (T:Txt K mg) {vgap:jg} {AK:jh} {BH:ji} {E9:Addr} {k_vplaces:Nat} (Eo:D0[k_vplaces]?=some (E9,(kI K ω) BH)) (hnx:∀ (F:Hp) (K:jf) G D1,GoV E.rt F (DN K) D1→Go E.nx F G D1) (hP:(M7 K ω X E.rt D0).W F0 (EL vgap AK BH)) :
    Go (IY K ω X E) F0 [some ((kB K) vgap),some ((kG K) AK),some (Is (.ref E9)),none,none,none] D0:=by
  unfold EL at hP
  refine AB (ML (i:=0) (w:=(M7 K ω X E.rt D0)) (Gx:=fun (x1:jg)=>[some ((kB K) vgap),some ((kG K) AK),some (Is (.ref E9)),some ((kC K) x1.1),some ((kC K) x1.2.1),some ((kE K) x1.2.2)]) (A1 (R:=(kB K)) (vgap) rfl) (fun _=>(CI (AF AE (AF AE (AF AE Bk))) rfl)) hP fun x1 hP=>?_)
  walk_at "dd"
  exact AH (w:=(M7 K ω X E.rt D0)) (Dd:=fun _:Unit=>D0) (s:=()) (fun v _=>v) (AD (fun _ _ _ _ h=>h) (A0 (AD (fun _ _ _ _ h=>h) (A0 (B1 (fun x=>d_T (AC ((d_b (e:=eS)) x.1) (AC ((d_b (e:=eS)) x.2) Aa))) (LO (k:=(kM)) (Rk:=(kC K)) (Rv:=(tD K eQ)) (m:=BH) (fun _=>Eo)) (A1 (R:=fun _:Unit=>Is (.ref E9)) () rfl) fun _=>(A1 (R:=(kC K)) (x1.2.1) rfl)) fun _=>(A0 (B1 (fun x=>d_T (AC ((d_b (e:=eS)) x.1) (AC ((d_b (e:=eS)) x.2) Aa))) (LO (k:=(kM)) (Rk:=(kC K)) (Rv:=(tD K eQ)) (m:=BH) (fun _=>Eo)) (A1 (R:=fun _:Unit=>Is (.ref E9)) () rfl) fun _=>(A1 (R:=(kC K)) (x1.1) rfl)) fun _=>A2)) (fun _=>by walk_at "sub")) fun _=>(A0 (AD (fun _ _ _ _ h=>h) (A0 (A1 (R:=(kE K)) (x1.2.2) rfl) fun _=>(A0 (A1 (R:=(kG K)) (AK) rfl) fun _=>A2)) (fun _=>by walk_at "sub")) fun _=>A2)) (fun _=>by walk_at "sub")) hP (fun F v s h=>(show GoV _ _ _ _ from h).drop (by walk_at "sub"))
theorem Ru (T:Txt K mg) (vs:List V) (H:Hp) (Q:VK) (X:XK) (h:Kx K ω vs H Q X):IY K ω X { nx:=fun _ H'=>Q .non H',rt:=Q } (L2.start Kl vs) H:=
 Pm (fun x F D E hpl hrt hnx hP=>by
  subst hrt
  obtain ⟨⟨_,Eo⟩,_⟩:=hpl
  exact Rr T Eo hnx hP) h
theorem UO (K:jf):∀ vs H Q E,Kx K ω vs H Q E→vs.length=3:=Xx fun _=>rfl
theorem Rw (T:Txt K mg) {vgap:jg} {AK:jh} {BH:ji} (hnx:∀ (F:Hp) (K:jf) G D1,GoV E.rt F (DN K) D1→Go E.nx F G D1) (hP:(M8 K ω X E.rt D0).W F0 (EL vgap AK BH)) :
    Go (IY K ω X E) F0 [some ((kB K) vgap),some ((kG K) AK),some ((kF K ω) BH),none,none,none] D0:=by
  unfold EL at hP
  refine AB (ML (i:=0) (w:=(M8 K ω X E.rt D0)) (Gx:=fun (x1:jg)=>[some ((kB K) vgap),some ((kG K) AK),some ((kF K ω) BH),some ((kC K) x1.1),some ((kC K) x1.2.1),some ((kE K) x1.2.2)]) (A1 (R:=(kB K)) (vgap) rfl) (fun _=>(CI (AF AE (AF AE (AF AE Bk))) rfl)) hP fun x1 hP=>?_)
  walk_at "dd"
  exact AH (w:=(M8 K ω X E.rt D0)) (Dd:=fun _:Unit=>D0) (s:=()) (fun v _=>v) (AD (fun _ _ _ _ h=>h) (A0 (AD (fun _ _ _ _ h=>h) (A0 (B1 (fun x=>d_T (AC ((d_b (e:=eS)) x.1) (AC ((d_b (e:=eS)) x.2) Aa))) Gu (A1 (R:=(kF K ω)) (BH) rfl) fun _=>(A1 (R:=(kC K)) (x1.2.1) rfl)) fun _=>(A0 (B1 (fun x=>d_T (AC ((d_b (e:=eS)) x.1) (AC ((d_b (e:=eS)) x.2) Aa))) Gu (A1 (R:=(kF K ω)) (BH) rfl) fun _=>(A1 (R:=(kC K)) (x1.1) rfl)) fun _=>A2)) (fun _=>by walk_at "sub")) fun _=>(A0 (AD (fun _ _ _ _ h=>h) (A0 (A1 (R:=(kE K)) (x1.2.2) rfl) fun _=>(A0 (A1 (R:=(kG K)) (AK) rfl) fun _=>A2)) (fun _=>by walk_at "sub")) fun _=>A2)) (fun _=>by walk_at "sub")) hP (fun F v s h=>(show GoV _ _ _ _ from h).drop (by walk_at "sub"))
theorem Rx (T:Txt K mg) (vs:List V) (H:Hp) (Q:VK) (X:XK) (h:Ky K ω vs H Q X):IY K ω X { nx:=fun _ H'=>Q .non H',rt:=Q } (L2.start Kl vs) H:=
 AO (fun x F D E hrt hnx hP=>by
  subst hrt
  exact Rw T hnx hP) h
theorem UP (K:jf):∀ vs H Q E,Ky K ω vs H Q E→vs.length=3:=Ak fun _=>rfl
theorem WI (T:Txt K mg) (vs:List V) (H:Hp) (Q:VK) (X:XK) (h:DR K ω vs H Q X):IY K ω X { nx:=fun _ H'=>Q .non H',rt:=Q } (L2.start Kl vs) H:=by
 rcases h with h | h
 ·exact Ru T vs H Q X h
 ·exact Rx T vs H Q X h
theorem Xc (K:jf):∀ vs H Q E,DR K ω vs H Q E→vs.length=3:=fun vs H Q E h=>by
 rcases h with h | h
 ·exact UO K vs H Q E h
 ·exact UP K vs H Q E h
theorem N4 (T:Txt K mg) {vgaps:(List jg)} {AK:jh} (hnx:∀ (F:Hp) (K:jf) G D1,GoV E.rt F (DN K) D1→Go E.nx F G D1) (hP:(IX K ω X E.rt D0).W F0 (DL vgaps AK)) :
    Go (GC K ω X E) F0 [some ((kK K) vgaps),some ((kG K) AK),none] D0:=by
  unfold DL at hP
  refine BA (w:=(IX K ω X E.rt D0)) (σt:=Unit) (CK (AD (fun _ _ _ _ h=>h) (A0 (A1 (R:=(kK K)) (vgaps) rfl) fun _=>A2) (fun _=>by walk_at "sub"))) (fun s1=>[some ((kK K) vgaps),some ((kG K) AK),none]) (fun s1=>D0) () (fun s1 x2=>[some ((kK K) vgaps),some ((kG K) AK),some ((kN K) x2)]) hP (by walk_at "sle") (by walk_at "sub") (fun _=>trivial) (fun _ _=>AE) ?_ ?_
  · intro F4 t4 s1 hP
    unfold Fz at hP
    walk_at "dd"
    exact hnx _ K _ _ ((show GoV _ _ _ _ from hP).drop (by walk_at "sub"))
  · intro hB4 F4 t4 x2 s1 n3 Nx hN4 hP
    unfold EC at hP
    walk_at "dd"
    refine Bp (w:=(IX K ω X E.rt D0)) (FM (AD (fun _ _ _ _ h=>h) (A0 (AD (fun _ _ _ _ h=>h) (A0 (AD (fun _ _ _ _ h=>h) (A0 (A1 (R:=(kK K)) (vgaps) rfl) fun _=>(A0 (A1 (R:=(kN K)) (x2) rfl) fun _=>A2)) (fun _=>by walk_at "sub")) fun _=>(A0 (A1 (R:=(kG K)) (AK) rfl) fun _=>A2)) (fun _=>by walk_at "sub")) fun _=>(A0 (Fs (R:=(tD K eQ)) (0:Rat) T.c_ZERO (c_Q _)) fun _=>A2)) (fun _=>by walk_at "sub"))) hP ?_ ?_
    · intro hP
      walk_at "dd"
      exact hP.elim
    · intro hP
      walk_at "dd"
      refine Aw ?_
      walk_at "dd"
      exact (hN4 _ (Same.refl _) () hP).weak (by walk_at "sle") (by walk_at "sub")
theorem N5 (T:Txt K mg) (vs:List V) (H:Hp) (Q:VK) (X:XK) (h:Cm K ω vs H Q X):GC K ω X { nx:=fun _ H'=>Q .non H',rt:=Q } (L2.start IL vs) H:=
 AO (fun x F D E hrt hnx hP=>by
  subst hrt
  exact N4 T hnx hP) h
theorem Ng (K:jf):∀ vs H Q E,Cm K ω vs H Q E→vs.length=2:=Ak fun _=>rfl
theorem N6 (T:Txt K mg) {vgaps:(List jg)} {AK:jh} (hnx:∀ (F:Hp) (K:jf) G D1,GoV E.rt F (DN K) D1→Go E.nx F G D1) (hP:(Ab K ω X E.rt D0).W F0 (C8 vgaps AK)) :
    Go (GD K ω X E) F0 [some ((kK K) vgaps),some ((kG K) AK),none,none,none,none,none] D0:=by
  unfold C8 at hP
  refine AB (Zb (w:=(Ab K ω X E.rt D0)) (AD (fun _ _ _ _ h=>h) (A0 (A1 (R:=(kK K)) (vgaps) rfl) fun _=>(A0 (A1 (R:=(kG K)) (AK) rfl) fun _=>A2)) (fun _=>by walk_at "sub")) hP fun x1 hP=>?_)
  walk_at "dd"
  refine AB (Br (w:=(Ab K ω X E.rt D0)) (Ht (k:=(kM)) (Rk:=(kC K)) (Rv:=(tD K eQ))) hP fun x2 p3 hP=>?_)
  walk_at "dd"
  refine AB (BA (w:=(Ab K ω X E.rt D0)) (σt:=ji) (CK (AD (fun _ _ _ _ h=>h) (A0 (A1 (R:=(kK K)) (vgaps) rfl) fun _=>A2) (fun _=>by walk_at "sub"))) (fun s4=>[some ((kK K) vgaps),some ((kG K) AK),some (Is (.ref p3)),none,none,none,none]) (fun s4=>(p3,(kI K ω) (s4))::D0) x2 (fun s4 x5=>[some ((kK K) vgaps),some ((kG K) AK),some (Is (.ref p3)),some ((kC K) x5),none,none,none]) hP (by walk_at "sle") (by walk_at "sub") (fun _=>trivial) (fun _ _=>AE) ?_ ?_)
  · intro F7 t7 s4 hP
    unfold EE at hP
    walk_at "dd"
    refine AB (Ao (w:=(Ab K ω X E.rt D0)) Hq hP fun x8 hP=>?_)
    walk_at "dd"
    refine AB (L4 (w:=(Ab K ω X E.rt D0)) (σt:=(Bool×ji)) (Mt:=fun s9 kk=>kk s9.1 ()) (mb:=(Ct vgaps AK)) (k:=ED) (fun s9=>[some ((kK K) vgaps),some ((kG K) AK),some (Is (.ref p3)),none,some ((tD K eB) s9.1),none,none]) (fun s9=>(p3,(kI K ω) (s9.2))::D0) (x8,s4) Res.fuel (fun s9=>(FM (A1 (R:=(tD K eB)) (s9.1) rfl))) hP (by walk_at "sle") (by walk_at "sub") ?_ ?_)
    · intro F11 t11 s9 hP
      unfold ED at hP
      walk_at "dd"
      exact Zm (w:=(Ab K ω X E.rt D0)) (k:=0) (i:=2) (O:=(kI K ω)) (s9.2) _ rfl rfl hP fun F h=>(show GoN _ _ _ _ from h).drop (by walk_at "sub")
    · intro hB11 F11 t11 s9 n10 Nx hN11 hP
      unfold Ct at hP
      walk_at "dd"
      refine AB (Ao (w:=(Ab K ω X E.rt D0)) Hq hP fun x12 hP=>?_)
      walk_at "dd"
      refine BA (w:=(Ab K ω X E.rt D0)) (σt:=(Bool×ji)) (CK (A1 (R:=(kK K)) (vgaps) rfl)) (fun s13=>[some ((kK K) vgaps),some ((kG K) AK),some (Is (.ref p3)),none,some ((tD K eB) s13.1),none,none]) (fun s13=>(p3,(kI K ω) (s13.2))::D0) (x12,s9.2) (fun s13 x14=>[some ((kK K) vgaps),some ((kG K) AK),some (Is (.ref p3)),none,some ((tD K eB) s13.1),some ((kB K) x14),none]) hP (by walk_at "sle") (by walk_at "sub") (fun _=>trivial) (fun _ _=>AE) ?_ ?_
      · intro F16 t16 s13 hP
        unfold G0 at hP
        walk_at "dd"
        exact (hN11 _ t16 (s13.1,s13.2) hP).weak (by walk_at "sle") (by walk_at "sub")
      · intro hB16 F16 t16 x14 s13 n15 Nx hN16 hP
        unfold G3 at hP
        walk_at "dd"
        refine AB (Ao (w:=(Ab K ω X E.rt D0)) (LZ (sp:=DR K ω) (f:=fun (y:jg×jh×Unit×Unit) (w:Unit)=>(y.1,y.2.1,(p3,s13.2),())) (g:=(fun _=>())) (fun _ _ _ _ h=>.inl h) (A0 (A1 (R:=(kB K)) (x14) rfl) fun _=>(A0 (A1 (R:=(kG K)) (AK) rfl) fun _=>(A0 (A1 (R:=fun _:Unit=>Is (.ref p3)) () rfl) fun _=>A2))) (fun _ w=>⟨(RdC.of (k:=0) rfl),trivial⟩) (fun _=>DLe.of (by walk_at "sub")) hdR0) hP fun x17 hP=>?_)
        walk_at "dd"
        refine Ga (w:=(Ab K ω X E.rt D0)) (CF n15) (fun s18=>[some ((kK K) vgaps),some ((kG K) AK),some (Is (.ref p3)),none,some ((tD K eB) s18.1),some ((kB K) x14),some ((tD K eQ) x17)]) (fun s18=>(p3,(kI K ω) (s18.2))::D0) ?_ ?_
        · intro F19 t19 s18 hP
          unfold CF at hP
          walk_at "dd"
          exact (hN16 _ t19 (s18.1,s18.2) hP).weak (by walk_at "sle") (by walk_at "sub")
        · intro hk19
          walk_at "dd"
          refine Bp (w:=(Ab K ω X E.rt D0)) (FM (AD (fun _ _ _ _ h=>h) (A0 (A1 (R:=(tD K eQ)) (x17) rfl) fun _=>(A0 (Fs (R:=(tD K eQ)) (0:Rat) T.c_ZERO (c_Q _)) fun _=>A2)) (fun _=>by walk_at "sub"))) hP ?_ ?_
          · intro hP
            walk_at "dd"
            refine AB (Hu (w:=(Ab K ω X E.rt D0)) (Dd:=fun _:Unit=>(p3,(kI K ω) (s13.2))::D0) (s:=()) (k:=(kM)) (Rk:=(kC K)) (Rv:=(tD K eQ)) (m:=s13.2) (hd:=(fun x=>d_T (AC ((d_b (e:=eS)) x.1) (AC ((d_b (e:=eS)) x.2) Aa)))) (n:=2) rfl (AD (fun _ _ _ _ h=>h) (A0 (B1 (fun x=>d_T (AC ((d_b (e:=eS)) x.1) (AC ((d_b (e:=eS)) x.2) Aa))) (LO (k:=(kM)) (Rk:=(kC K)) (Rv:=(tD K eQ)) (m:=s13.2) (at_n 0 fun _=>rfl)) (A1 (R:=fun _:Unit=>Is (.ref p3)) () rfl) fun _=>(BC (i:=1) (Rs:=fun x:jg=>[(kC K) x.1,(kC K) x.2.1,(kE K) x.2.2]) (R':=(kC K)) (f:=fun x=>x.2.1) (A1 (R:=(kB K)) (x14) rfl) fun _=>rfl)) fun _=>(A0 (A1 (R:=(tD K eQ)) (x17) rfl) fun _=>A2)) (fun _=>by walk_at "sub")) (fun _=>(BC (i:=1) (Rs:=fun x:jg=>[(kC K) x.1,(kC K) x.2.1,(kE K) x.2.2]) (R':=(kC K)) (f:=fun x=>x.2.1) (A1 (R:=(kB K)) (x14) rfl) fun _=>rfl)) (at_n 0 fun _=>rfl) hP fun x20 hP=>?_)
            walk_at "dd"
            refine Ao (w:=(Ab K ω X E.rt D0)) Hq hP fun x21 hP=>?_
            walk_at "dd"
            exact ((hk19 _ (Same.refl _) (x21,x20.1)) hP).weak (by walk_at "sle") (by walk_at "sub")
          · intro hP
            walk_at "dd"
            refine Aw ?_
            walk_at "dd"
            exact ((hk19 _ (Same.refl _) (s13.1,s13.2)) hP).weak (by walk_at "sle") (by walk_at "sub")
  · intro hB7 F7 t7 x5 s4 n6 Nx hN7 hP
    unfold EF at hP
    walk_at "dd"
    refine Hu (w:=(Ab K ω X E.rt D0)) (Dd:=fun _:Unit=>(p3,(kI K ω) (s4))::D0) (s:=()) (k:=(kM)) (Rk:=(kC K)) (Rv:=(tD K eQ)) (m:=s4) (hd:=(fun x=>d_T (AC ((d_b (e:=eS)) x.1) (AC ((d_b (e:=eS)) x.2) Aa)))) (n:=2) rfl (Fs (R:=(tD K eQ)) (0:Rat) T.c_ZERO (c_Q _)) (fun _=>(A1 (R:=(kC K)) (x5) rfl)) (at_n 0 fun _=>rfl) hP fun x26 hP=>?_
    walk_at "dd"
    exact (hN7 _ (Same.refl _) x26.1 hP).weak (by walk_at "sle") (by walk_at "sub")
theorem N7 (T:Txt K mg) (vs:List V) (H:Hp) (Q:VK) (X:XK) (h:B6 K ω vs H Q X):GD K ω X { nx:=fun _ H'=>Q .non H',rt:=Q } (L2.start IM vs) H:=
 AO (fun x F D E hrt hnx hP=>by
  subst hrt
  exact N6 T hnx hP) h
theorem Nh (K:jf):∀ vs H Q E,B6 K ω vs H Q E→vs.length=2:=Ak fun _=>rfl
theorem Qo (T:Txt K mg) {Ap:(List Int)} {vk:Int} (hnx:∀ (F:Hp) (K:jf) G D1,GoV E.rt F (DN K) D1→Go E.nx F G D1) (hP:(Fi K ω X E.rt D0).W F0 (NP Ap vk)) :
    Go (Iu K ω X E) F0 [some ((kP K) Ap),some ((tD K eI) vk),none] D0:=by
  unfold NP at hP
  refine AB (Ao (w:=(Fi K ω X E.rt D0)) A9 hP fun x1 hP=>?_)
  walk_at "dd"
  refine AB (Ga (w:=(Fi K ω X E.rt D0)) (Hd vk) (fun s2=>[some ((kP K) Ap),some ((tD K eI) vk),some ((tD K eI) s2)]) (fun s2=>D0) ?_ ?_)
  · intro F3 t3 s2 hP
    unfold Hd at hP
    walk_at "dd"
    exact Uv (w:=(Fi K ω X E.rt D0)) (Dd:=fun _:Unit=>D0) (s:=()) (fun v _=>v) (C5 (eval_cons (Uy (f7 (MN (A1 (R:=(tD K eI)) (s2) rfl)) fun _=>(Gr (c:=(1000000000000000000:Int)) (by decide) (by decide +kernel)))) fun _=>(eval_cons (A1 (R:=(tD K eI)) (s2) rfl) fun _=>(eval_cons (BB A9 fun _=>(A1 (R:=(tD K eI)) (vk) rfl)) fun _=>eval_nil)))) hP (fun F v s h=>(show GoN _ _ _ _ from h).drop (by walk_at "sub"))
  · intro hk3
    walk_at "dd"
    refine Bp (w:=(Fi K ω X E.rt D0)) (AN (KJ (A1 (R:=(tD K eI)) (vk) rfl) fun _=>(MM Cp (A1 (R:=(kP K)) (Ap) rfl)))) hP ?_ ?_
    · intro hP
      walk_at "dd"
      refine Ao (w:=(Fi K ω X E.rt D0)) (Bq Cp (A1 (R:=(kP K)) (Ap) rfl) fun _=>(A1 (R:=(tD K eI)) (vk) rfl)) hP fun x5 hP=>?_
      walk_at "dd"
      exact ((hk3 _ (Same.refl _) x5) hP).weak (by walk_at "sle") (by walk_at "sub")
    · intro hP
      walk_at "dd"
      refine Aw ?_
      walk_at "dd"
      exact ((hk3 _ (Same.refl _) x1) hP).weak (by walk_at "sle") (by walk_at "sub")
theorem Qp (T:Txt K mg) (vs:List V) (H:Hp) (Q:VK) (X:XK) (h:Ej K ω vs H Q X):Iu K ω X { nx:=fun _ H'=>Q .non H',rt:=Q } (L2.start Km vs) H:=
 AO (fun x F D E hrt hnx hP=>by
  subst hrt
  exact Qo T hnx hP) h
theorem Ry (K:jf):∀ vs H Q E,Ej K ω vs H Q E→vs.length=2:=Ak fun _=>rfl
theorem Qq (T:Txt K mg) {A6:(List Int)} {vmany:Int} {Dp:(List Int)→Own} {k:Nat} {a:Addr} (B:Bor1 Dp k a (kQ K)) (hnx:∀ (F:Hp) (K:jf) G D1,GoV E.rt F (DN K) D1→Go E.nx F G D1) (hP:(Cv K ω X E.rt Dp).W F0 (Au A6 vmany)) :
    Go (Iv K ω X E) F0 [some (Is (.ref a)),some ((tD K eI) vmany),none,none,none] (Dp A6):=by
  unfold Au at hP
  refine AB (Bp (w:=(Cv K ω X E.rt Dp)) (AN (FN KA (Bq (sv_O (Re:=(tD K eI)) (xs:=A6) (fun _=>B.get1 _)) (A1 (R:=fun _:Unit=>Is (.ref a)) () rfl) fun _=>A9) fun _=>A9)) hP ?_ ?_)
  · intro hP
    walk_at "dd"
    refine AB (Ao (w:=(Cv K ω X E.rt Dp)) (JX (Bq (sv_O (Re:=(tD K eI)) (xs:=A6) (fun _=>B.get1 _)) (A1 (R:=fun _:Unit=>Is (.ref a)) () rfl) fun _=>A9) fun _=>(A1 (R:=(tD K eI)) (vmany) rfl)) hP fun x1 hP=>?_)
    walk_at "dd"
    refine AB (V2 (w:=(Cv K ω X E.rt Dp)) (Dd:=fun _:Unit=>Dp (A6)) (s:=()) (R:=(tD K eI)) (xs:=A6) (n:=0) rfl (L5 (Bq (sv_O (Re:=(tD K eI)) (xs:=A6) (fun _=>B.get1 _)) (A1 (R:=fun _:Unit=>Is (.ref a)) () rfl) fun _=>A9) fun _=>(A1 (R:=(tD K eI)) (vmany) rfl)) (fun _=>A9) (fun _=>B.get1 _) hP fun x2 hP=>?_)
    walk_at "dd"
    rw [B.set_]
    exact AH (w:=(Cv K ω X E.rt Dp)) (Dd:=fun _:Unit=>Dp (x2.1)) (s:=()) (fun v _=>(v,x2.1)) (A1 (R:=(tD K eI)) (x1) rfl) hP (fun F v s h=>(show GoV _ _ _ _ from h).drop (by walk_at "sub"))
  · intro hP
    walk_at "dd"
    refine Aw ?_
    walk_at "dd"
    refine AB (Ao (w:=(Cv K ω X E.rt Dp)) (By (Bq (sv_O (Re:=(tD K eI)) (xs:=A6) (fun _=>B.get1 _)) (A1 (R:=fun _:Unit=>Is (.ref a)) () rfl) fun _=>A9) fun _=>A9) hP fun x8 hP=>?_)
    walk_at "dd"
    refine AB (V2 (w:=(Cv K ω X E.rt Dp)) (Dd:=fun _:Unit=>Dp (A6)) (s:=()) (R:=(tD K eI)) (xs:=A6) (n:=0) rfl (A1 (R:=(tD K eI)) (x8) rfl) (fun _=>A9) (fun _=>B.get1 _) hP fun x9 hP=>?_)
    walk_at "dd"
    rw [B.set_]
    refine AB (Ao (w:=(Cv K ω X E.rt Dp)) (JX (BB (By (By (Bq (sv_O (Re:=(tD K eI)) (xs:=x9.1) (fun _=>B.get1 _)) (A1 (R:=fun _:Unit=>Is (.ref a)) () rfl) fun _=>A9) fun _=>(BB (BB A9 fun _=>(A1 (R:=(tD K eI)) (x8) rfl)) fun _=>(A1 (R:=(tD K eI)) (x8) rfl))) fun _=>(A1 (R:=(tD K eI)) (x8) rfl)) fun _=>A9) fun _=>A9) hP fun x11 hP=>?_)
    walk_at "dd"
    exact AH (w:=(Cv K ω X E.rt Dp)) (Dd:=fun _:Unit=>Dp (x9.1)) (s:=()) (fun v _=>(v,x9.1)) (JX (L5 (JX (By (BB (A1 (R:=(tD K eI)) (x11) rfl) fun _=>A9) fun _=>A9) fun _=>A9) fun _=>A9) fun _=>(A1 (R:=(tD K eI)) (vmany) rfl)) hP (fun F v s h=>(show GoV _ _ _ _ from h).drop (by walk_at "sub"))
theorem Qr (T:Txt K mg) (vs:List V) (H:Hp) (Q:VK) (X:XK) (h:A8 K ω vs H Q X):Iv K ω X { nx:=fun _ H'=>Q .non H',rt:=Q } (L2.start Kn vs) H:=
 Ck (fun x y F Dp k a E B hrt hnx hP=>by
  subst hrt
  exact Qq T B hnx hP) h
theorem Rz (K:jf):∀ vs H Q E,A8 K ω vs H Q E→vs.length=2:=FF fun _ _=>rfl
theorem Ni (T:Txt K mg) {vone:Int} {AV:Int} (hnx:∀ (F:Hp) (K:jf) G D1,GoV E.rt F (DN K) D1→Go E.nx F G D1) (hP:(Gj K ω X E.rt D0).W F0 (Hw vone AV)) :
    Go (Gk K ω X E) F0 [some ((tD K eI) vone),some ((tD K eI) AV)] D0:=by
  unfold Hw at hP
  refine AB (L4 (w:=(Gj K ω X E.rt D0)) (σt:=(Int×Int)) (Mt:=fun s1 kk=>kk (!decide (s1.2=(0:Int))) ()) (mb:=Ih) (k:=KQ) (fun s1=>[some ((tD K eI) s1.1),some ((tD K eI) s1.2)]) (fun s1=>D0) (vone,AV) Res.fuel (fun s1=>(AN (JY KA (A1 (R:=(tD K eI)) (s1.2) rfl) fun _=>A9))) hP (by walk_at "sle") (by walk_at "sub") ?_ ?_)
  · intro F3 t3 s1 hP
    unfold KQ at hP
    walk_at "dd"
    exact AH (w:=(Gj K ω X E.rt D0)) (Dd:=fun _:Unit=>D0) (s:=()) (fun v _=>v) (MN (A1 (R:=(tD K eI)) (s1.1) rfl)) hP (fun F v s h=>(show GoV _ _ _ _ from h).drop (by walk_at "sub"))
  · intro hB3 F3 t3 s1 n2 Nx hN3 hP
    unfold Ih at hP
    walk_at "dd"
    refine Xr (w:=(Gj K ω X E.rt D0)) (A0 (A1 (R:=(tD K eI)) (s1.2) rfl) fun _=>(A0 (JX (A1 (R:=(tD K eI)) (s1.1) rfl) fun _=>(A1 (R:=(tD K eI)) (s1.2) rfl)) fun _=>A2)) hP fun x4 hP=>?_
    walk_at "dd"
    exact (hN3 _ (Same.refl _) (x4.1,x4.2) hP).weak (by walk_at "sle") (by walk_at "sub")
theorem Nj (T:Txt K mg) (vs:List V) (H:Hp) (Q:VK) (X:XK) (h:DU K ω vs H Q X):Gk K ω X { nx:=fun _ H'=>Q .non H',rt:=Q } (L2.start J9 vs) H:=
 AO (fun x F D E hrt hnx hP=>by
  subst hrt
  exact Ni T hnx hP) h
theorem Oc (K:jf):∀ vs H Q E,DU K ω vs H Q E→vs.length=2:=Ak fun _=>rfl
theorem S0 (T:Txt K mg) {vtop:Int} {Ay:Int} (hnx:∀ (F:Hp) (K:jf) G D1,GoV E.rt F (DN K) D1→Go E.nx F G D1) (hP:(FR K ω X E.rt D0).W F0 (KB vtop Ay)) :
    Go (K3 K ω X E) F0 [some ((tD K eI) vtop),some ((tD K eI) Ay),none] D0:=by
  unfold KB at hP
  refine AB (Ga (w:=(FR K ω X E.rt D0)) JJ (fun s1=>[some ((tD K eI) s1.1),some ((tD K eI) s1.2),none]) (fun s1=>D0) ?_ ?_)
  · intro F2 t2 s1 hP
    unfold JJ at hP
    walk_at "dd"
    refine AB (Ao (w:=(FR K ω X E.rt D0)) (AD (fun _ _ _ _ h=>h) (A0 (A1 (R:=(tD K eI)) (s1.1) rfl) fun _=>(A0 (A1 (R:=(tD K eI)) (s1.2) rfl) fun _=>A2)) (fun _=>by walk_at "sub")) hP fun x3 hP=>?_)
    walk_at "dd"
    exact AH (w:=(FR K ω X E.rt D0)) (Dd:=fun _:Unit=>D0) (s:=()) (fun v _=>v) (EH (A0 (L5 (A1 (R:=(tD K eI)) (s1.1) rfl) fun _=>(A1 (R:=(tD K eI)) (x3) rfl)) fun _=>(A0 (L5 (A1 (R:=(tD K eI)) (s1.2) rfl) fun _=>(A1 (R:=(tD K eI)) (x3) rfl)) fun _=>A2))) hP (fun F v s h=>(show GoV _ _ _ _ from h).drop (by walk_at "sub"))
  · intro hk2
    walk_at "dd"
    refine Bp (w:=(FR K ω X E.rt D0)) (AN (KJ (A1 (R:=(tD K eI)) (Ay) rfl) fun _=>A9)) hP ?_ ?_
    · intro hP
      walk_at "dd"
      refine AB (Ao (w:=(FR K ω X E.rt D0)) (Fm A9 fun _=>(A1 (R:=(tD K eI)) (vtop) rfl)) hP fun x8 hP=>?_)
      walk_at "dd"
      refine Ao (w:=(FR K ω X E.rt D0)) (Fm A9 fun _=>(A1 (R:=(tD K eI)) (Ay) rfl)) hP fun x9 hP=>?_
      walk_at "dd"
      exact ((hk2 _ (Same.refl _) (x8,x9)) hP).weak (by walk_at "sle") (by walk_at "sub")
    · intro hP
      walk_at "dd"
      refine Aw ?_
      walk_at "dd"
      exact ((hk2 _ (Same.refl _) (vtop,Ay)) hP).weak (by walk_at "sle") (by walk_at "sub")
theorem S1 (T:Txt K mg) (vs:List V) (H:Hp) (Q:VK) (X:XK) (h:Ac K ω vs H Q X):K3 K ω X { nx:=fun _ H'=>Q .non H',rt:=Q } (L2.start Lz vs) H:=
 AO (fun x F D E hrt hnx hP=>by
  subst hrt
  exact S0 T hnx hP) h
theorem UQ (K:jf):∀ vs H Q E,Ac K ω vs H Q E→vs.length=2:=Ak fun _=>rfl
theorem S2 (T:Txt K mg) {vone:Rat} {AV:Rat} (hnx:∀ (F:Hp) (K:jf) G D1,GoV E.rt F (DN K) D1→Go E.nx F G D1) (hP:(QV K ω X E.rt D0).W F0 (Hz vone AV)) :
    Go (K4 K ω X E) F0 [some ((tD K eQ) vone),some ((tD K eQ) AV)] D0:=by
  unfold Hz at hP
  exact AH (w:=(QV K ω X E.rt D0)) (Dd:=fun _:Unit=>D0) (s:=()) (fun v _=>v) (AD (fun _ _ _ _ h=>h) (A0 (By (BB (DH (A1 (R:=(tD K eQ)) (vone) rfl)) fun _=>(Cd (A1 (R:=(tD K eQ)) (AV) rfl))) fun _=>(BB (DH (A1 (R:=(tD K eQ)) (AV) rfl)) fun _=>(Cd (A1 (R:=(tD K eQ)) (vone) rfl)))) fun _=>(A0 (BB (Cd (A1 (R:=(tD K eQ)) (vone) rfl)) fun _=>(Cd (A1 (R:=(tD K eQ)) (AV) rfl))) fun _=>A2)) (fun _=>by walk_at "sub")) hP (fun F v s h=>(show GoV _ _ _ _ from h).drop (by walk_at "sub"))
theorem S3 (T:Txt K mg) (vs:List V) (H:Hp) (Q:VK) (X:XK) (h:AW K ω vs H Q X):K4 K ω X { nx:=fun _ H'=>Q .non H',rt:=Q } (L2.start M3 vs) H:=
 AO (fun x F D E hrt hnx hP=>by
  subst hrt
  exact S2 T hnx hP) h
theorem UR (K:jf):∀ vs H Q E,AW K ω vs H Q E→vs.length=2:=Ak fun _=>rfl
theorem S4 (T:Txt K mg) {vone:Rat} {AV:Rat} (hnx:∀ (F:Hp) (K:jf) G D1,GoV E.rt F (DN K) D1→Go E.nx F G D1) (hP:(QW K ω X E.rt D0).W F0 (Hy vone AV)) :
    Go (K5 K ω X E) F0 [some ((tD K eQ) vone),some ((tD K eQ) AV)] D0:=by
  unfold Hy at hP
  exact AH (w:=(QW K ω X E.rt D0)) (Dd:=fun _:Unit=>D0) (s:=()) (fun v _=>v) (AD (fun _ _ _ _ h=>h) (A0 (BB (DH (A1 (R:=(tD K eQ)) (vone) rfl)) fun _=>(DH (A1 (R:=(tD K eQ)) (AV) rfl))) fun _=>(A0 (BB (Cd (A1 (R:=(tD K eQ)) (vone) rfl)) fun _=>(Cd (A1 (R:=(tD K eQ)) (AV) rfl))) fun _=>A2)) (fun _=>by walk_at "sub")) hP (fun F v s h=>(show GoV _ _ _ _ from h).drop (by walk_at "sub"))
theorem S5 (T:Txt K mg) (vs:List V) (H:Hp) (Q:VK) (X:XK) (h:Af K ω vs H Q X):K5 K ω X { nx:=fun _ H'=>Q .non H',rt:=Q } (L2.start M4 vs) H:=
 AO (fun x F D E hrt hnx hP=>by
  subst hrt
  exact S4 T hnx hP) h
theorem US (K:jf):∀ vs H Q E,Af K ω vs H Q E→vs.length=2:=Ak fun _=>rfl
theorem Qs (T:Txt K mg) {vone:Rat} {AV:Rat} (hnx:∀ (F:Hp) (K:jf) G D1,GoV E.rt F (DN K) D1→Go E.nx F G D1) (hP:(OR K ω X E.rt D0).W F0 (EJ vone AV)) :
    Go (Iw K ω X E) F0 [some ((tD K eQ) vone),some ((tD K eQ) AV)] D0:=by
  unfold EJ at hP
  exact AH (w:=(OR K ω X E.rt D0)) (Dd:=fun _:Unit=>D0) (s:=()) (fun v _=>v) (AD (fun _ _ _ _ h=>h) (A0 (A1 (R:=(tD K eQ)) (vone) rfl) fun _=>(A0 (EH (A0 (Fm A9 fun _=>(DH (A1 (R:=(tD K eQ)) (AV) rfl))) fun _=>(A0 (Cd (A1 (R:=(tD K eQ)) (AV) rfl)) fun _=>A2))) fun _=>A2)) (fun _=>by walk_at "sub")) hP (fun F v s h=>(show GoV _ _ _ _ from h).drop (by walk_at "sub"))
theorem Qt (T:Txt K mg) (vs:List V) (H:Hp) (Q:VK) (X:XK) (h:AM K ω vs H Q X):Iw K ω X { nx:=fun _ H'=>Q .non H',rt:=Q } (L2.start Kp vs) H:=
 AO (fun x F D E hrt hnx hP=>by
  subst hrt
  exact Qs T hnx hP) h
theorem S6 (K:jf):∀ vs H Q E,AM K ω vs H Q E→vs.length=2:=Ak fun _=>rfl
theorem Od (T:Txt K mg) {vone:Rat} {AV:Rat} (hnx:∀ (F:Hp) (K:jf) G D1,GoV E.rt F (DN K) D1→Go E.nx F G D1) (hP:(Ms K ω X E.rt D0).W F0 (Ji vone AV)) :
    Go (HU K ω X E) F0 [some ((tD K eQ) vone),some ((tD K eQ) AV)] D0:=by
  unfold Ji at hP
  exact AH (w:=(Ms K ω X E.rt D0)) (Dd:=fun _:Unit=>D0) (s:=()) (fun v _=>v) (KJ (BB (DH (A1 (R:=(tD K eQ)) (vone) rfl)) fun _=>(Cd (A1 (R:=(tD K eQ)) (AV) rfl))) fun _=>(BB (DH (A1 (R:=(tD K eQ)) (AV) rfl)) fun _=>(Cd (A1 (R:=(tD K eQ)) (vone) rfl)))) hP (fun F v s h=>(show GoV _ _ _ _ from h).drop (by walk_at "sub"))
theorem Oe (T:Txt K mg) (vs:List V) (H:Hp) (Q:VK) (X:XK) (h:BO K ω vs H Q X):HU K ω X { nx:=fun _ H'=>Q .non H',rt:=Q } (L2.start Ju vs) H:=
 AO (fun x F D E hrt hnx hP=>by
  subst hrt
  exact Od T hnx hP) h
theorem Qu (K:jf):∀ vs H Q E,BO K ω vs H Q E→vs.length=2:=Ak fun _=>rfl
theorem Og (T:Txt K mg) {A6:(List Int)} {vmany:Int} {Dp:(List Int)→Own} {k:Nat} {a:Addr} (B:Bor1 Dp k a (kQ K)) (hnx:∀ (F:Hp) (K:jf) G D1,GoV E.rt F (DN K) D1→Go E.nx F G D1) (hP:(Mu K ω X E.rt Dp).W F0 (Fb A6 vmany)) :
    Go (HV K ω X E) F0 [some (Is (.ref a)),some ((tD K eI) vmany),none] (Dp A6):=by
  unfold Fb at hP
  exact Uv (w:=(Mu K ω X E.rt Dp)) (Dd:=fun (s:(List Int))=>Dp s) (s:=A6) (fun v s=>(v,s)) (Hr (G1:=(fun x2=>[some (Is (.ref a)),some ((tD K eI) vmany),some ((tD K eI) x2)])) (Dj (A1 (R:=(tD K eI)) (vmany) rfl)) (fun _=>(DG (by decide))) (fun _ _=>trivial) (fun x2 _ cq=>(Pe (Bq Cp (AQ (C5 (eval_cons (Cq Dg rfl) fun _=>(eval_cons (Cq Ij rfl) fun _=>(eval_cons (Cq Ik rfl) fun _=>(eval_cons (Cq Il rfl) fun _=>eval_nil)))))) fun _=>(SY (fun _ _ _ _ h=>h) (fun _:(List Int)=>()) (Bor.cons B) (A0 (A1 (R:=fun _:Unit=>Is (.ref a)) () rfl) fun _=>(A0 A9 fun _=>A2)) (fun _=>List.nil_sublist _))) fun _=>(Tc (Cq FZ rfl) fun _=>(A1 (R:=(tD K eI)) (x2) rfl))))) hP (fun F v s h=>(show GoN _ _ _ _ from h).drop (by walk_at "sub"))
theorem Oh (T:Txt K mg) (vs:List V) (H:Hp) (Q:VK) (X:XK) (h:E1 K ω vs H Q X):HV K ω X { nx:=fun _ H'=>Q .non H',rt:=Q } (L2.start HP vs) H:=
 Ck (fun x y F Dp k a E B hrt hnx hP=>by
  subst hrt
  exact Og T B hnx hP) h
theorem Qv (K:jf):∀ vs H Q E,E1 K ω vs H Q E→vs.length=2:=FF fun _ _=>rfl
theorem Qw (T:Txt K mg) {A6:(List Int)} {vkind:Int} {Dp:(List Int)→Own} {k:Nat} {a:Addr} (B:Bor1 Dp k a (kQ K)) (hnx:∀ (F:Hp) (K:jf) G D1,GoV E.rt F (DN K) D1→Go E.nx F G D1) (hP:(Di K ω X E.rt Dp).W F0 (Jg A6 vkind)) :
    Go (Iy K ω X E) F0 [some (Is (.ref a)),some ((tD K eI) vkind)] (Dp A6):=by
  unfold Jg at hP
  refine AB (Bp (w:=(Di K ω X E.rt Dp)) (AN (FN KA (A1 (R:=(tD K eI)) (vkind) rfl) fun _=>A9)) hP ?_ ?_)
  · intro hP
    walk_at "dd"
    exact AH (w:=(Di K ω X E.rt Dp)) (Dd:=fun (s:(List Int))=>Dp s) (s:=A6) (fun v s=>(v,s)) (EH (A0 (Fm (AG (fun _ _ _ _ h=>h) B (A0 (A1 (R:=fun _:Unit=>Is (.ref a)) () rfl) fun _=>(A0 (By (BB A9 fun _=>(Gr (c:=(100000000000000000:Int)) (by decide) (by decide +kernel))) fun _=>A9) fun _=>A2)) (fun _=>by walk_at "sub")) fun _=>(Gr (c:=(100000000000000000:Int)) (by decide) (by decide +kernel))) fun _=>(A0 A9 fun _=>A2))) hP (fun F v s h=>(show GoV _ _ _ _ from h).drop (by walk_at "sub"))
  · intro hP
    walk_at "dd"
    refine Aw ?_
    walk_at "dd"
    refine AB (Bp (w:=(Di K ω X E.rt Dp)) (AN (FN KA (A1 (R:=(tD K eI)) (vkind) rfl) fun _=>A9)) hP ?_ ?_)
    · intro hP
      walk_at "dd"
      exact AH (w:=(Di K ω X E.rt Dp)) (Dd:=fun (s:(List Int))=>Dp s) (s:=A6) (fun v s=>(v,s)) (Ax (fun _ _ _ _ h=>h) (fun s=>s) (A0 (Fm (AG (fun _ _ _ _ h=>h) B (A0 (A1 (R:=fun _:Unit=>Is (.ref a)) () rfl) fun _=>(A0 (By (BB A9 fun _=>(Gr (c:=(1000000:Int)) (by decide) (by decide +kernel))) fun _=>A9) fun _=>A2)) (fun _=>by walk_at "sub")) fun _=>(Gr (c:=(1000000:Int)) (by decide) (by decide +kernel))) fun _=>(A0 (By A9 fun _=>(AG (fun _ _ _ _ h=>h) B (A0 (A1 (R:=fun _:Unit=>Is (.ref a)) () rfl) fun _=>(A0 A9 fun _=>A2)) (fun _=>by walk_at "sub"))) fun _=>A2)) (fun _=>by walk_at "sub")) hP (fun F v s h=>(show GoV _ _ _ _ from h).drop (by walk_at "sub"))
    · intro hP
      walk_at "dd"
      refine Aw ?_
      walk_at "dd"
      refine AB (Bp (w:=(Di K ω X E.rt Dp)) (AN (FN KA (A1 (R:=(tD K eI)) (vkind) rfl) fun _=>A9)) hP ?_ ?_)
      · intro hP
        walk_at "dd"
        exact AH (w:=(Di K ω X E.rt Dp)) (Dd:=fun (s:(List Int))=>Dp s) (s:=A6) (fun v s=>(v,s)) (EH (A0 (Fm (AG (fun _ _ _ _ h=>h) B (A0 (A1 (R:=fun _:Unit=>Is (.ref a)) () rfl) fun _=>(A0 (By (BB A9 fun _=>(Gr (c:=(1000000000000000:Int)) (by decide) (by decide +kernel))) fun _=>A9) fun _=>A2)) (fun _=>by walk_at "sub")) fun _=>(Gr (c:=(1000000000000000:Int)) (by decide) (by decide +kernel))) fun _=>(A0 A9 fun _=>A2))) hP (fun F v s h=>(show GoV _ _ _ _ from h).drop (by walk_at "sub"))
      · intro hP
        walk_at "dd"
        refine Aw ?_
        walk_at "dd"
        exact AH (w:=(Di K ω X E.rt Dp)) (Dd:=fun (s:(List Int))=>Dp s) (s:=A6) (fun v s=>(v,s)) (Ax (fun _ _ _ _ h=>h) (fun s=>s) (A0 (Fm (AG (fun _ _ _ _ h=>h) B (A0 (A1 (R:=fun _:Unit=>Is (.ref a)) () rfl) fun _=>(A0 A9 fun _=>A2)) (fun _=>by walk_at "sub")) fun _=>A9) fun _=>(A0 (Bq Cp (AQ (C5 (eval_cons A9 fun _=>(eval_cons A9 fun _=>(eval_cons A9 fun _=>(eval_cons A9 fun _=>(eval_cons A9 fun _=>eval_nil))))))) fun _=>(AG (fun _ _ _ _ h=>h) B (A0 (A1 (R:=fun _:Unit=>Is (.ref a)) () rfl) fun _=>(A0 A9 fun _=>A2)) (fun _=>by walk_at "sub"))) fun _=>A2)) (fun _=>by walk_at "sub")) hP (fun F v s h=>(show GoV _ _ _ _ from h).drop (by walk_at "sub"))
theorem Qx (T:Txt K mg) (vs:List V) (H:Hp) (Q:VK) (X:XK) (h:CL K ω vs H Q X):Iy K ω X { nx:=fun _ H'=>Q .non H',rt:=Q } (L2.start Kq vs) H:=
 Ck (fun x y F Dp k a E B hrt hnx hP=>by
  subst hrt
  exact Qw T B hnx hP) h
theorem S7 (K:jf):∀ vs H Q E,CL K ω vs H Q E→vs.length=2:=FF fun _ _=>rfl
theorem Qy (T:Txt K mg) {A6:(List Int)} {vkind:Int} {Dp:(List Int)→Own} {k:Nat} {a:Addr} (B:Bor1 Dp k a (kQ K)) (hnx:∀ (F:Hp) (K:jf) G D1,GoV E.rt F (DN K) D1→Go E.nx F G D1) (hP:(H9 K ω X E.rt Dp).W F0 (Jh A6 vkind)) :
    Go (Iz K ω X E) F0 [some (Is (.ref a)),some ((tD K eI) vkind),none] (Dp A6):=by
  unfold Jh at hP
  refine AB (BD (w:=(H9 K ω X E.rt Dp)) (Dd:=fun (s:(List Int))=>Dp s) (s:=A6) (AG (fun _ _ _ _ h=>h) B (A0 (A1 (R:=fun _:Unit=>Is (.ref a)) () rfl) fun _=>(A0 (A1 (R:=(tD K eI)) (vkind) rfl) fun _=>A2)) (fun _=>by walk_at "sub")) hP fun x1 hP=>?_)
  walk_at "dd"
  refine AB (Xq (w:=(H9 K ω X E.rt Dp)) (Dd:=fun (s:(List Int))=>Dp s) (s:=x1.2) (AN (FN KA (AG (fun _ _ _ _ h=>h) B (A0 (A1 (R:=fun _:Unit=>Is (.ref a)) () rfl) fun _=>(A0 A9 fun _=>A2)) (fun _=>by walk_at "sub")) fun _=>A9)) hP ?_ ?_)
  · intro s2 hP
    walk_at "dd"
    exact AH (w:=(H9 K ω X E.rt Dp)) (Dd:=fun _:Unit=>Dp (s2)) (s:=()) (fun v _=>(v,s2)) (Ca (0:Rat) (by decide +kernel) (by decide +kernel)) hP (fun F v s h=>(show GoV _ _ _ _ from h).drop (by walk_at "sub"))
  · intro s2 hP
    walk_at "dd"
    refine Aw ?_
    walk_at "dd"
    exact AH (w:=(H9 K ω X E.rt Dp)) (Dd:=fun _:Unit=>Dp (s2)) (s:=()) (fun v _=>(v,s2)) (EH (A0 (MN (DH (A1 (R:=(tD K eQ)) (x1.1) rfl))) fun _=>(A0 (Cd (A1 (R:=(tD K eQ)) (x1.1) rfl)) fun _=>A2))) hP (fun F v s h=>(show GoV _ _ _ _ from h).drop (by walk_at "sub"))
theorem Qz (T:Txt K mg) (vs:List V) (H:Hp) (Q:VK) (X:XK) (h:Dt K ω vs H Q X):Iz K ω X { nx:=fun _ H'=>Q .non H',rt:=Q } (L2.start Kr vs) H:=
 Ck (fun x y F Dp k a E B hrt hnx hP=>by
  subst hrt
  exact Qy T B hnx hP) h
theorem S8 (K:jf):∀ vs H Q E,Dt K ω vs H Q E→vs.length=2:=FF fun _ _=>rfl
theorem Oi (T:Txt K mg) {A6:(List Int)} {vmany:Int} {vmost:Int} {K7:Int} {Dp:(List Int)→Own} {k:Nat} {a:Addr} (B:Bor1 Dp k a (kQ K)) (hnx:∀ (F:Hp) (K:jf) G D1,GoV E.rt F (DN K) D1→Go E.nx F G D1) (hP:(Am K ω X E.rt Dp).W F0 (Fd A6 vmany vmost K7)) :
    Go (HW K ω X E) F0 [some (Is (.ref a)),some ((tD K eI) vmany),some ((tD K eI) vmost),some ((tD K eI) K7),none,none,none,none,none,none,none,none,none] (Dp A6):=by
  unfold Fd at hP
  refine AB (BD (w:=(Am K ω X E.rt Dp)) (Dd:=fun (s:(List Int))=>Dp s) (s:=A6) (AG (fun _ _ _ _ h=>h) B (A0 (A1 (R:=fun _:Unit=>Is (.ref a)) () rfl) fun _=>(A0 (A1 (R:=(tD K eI)) (K7) rfl) fun _=>A2)) (fun _=>by walk_at "sub")) hP fun x1 hP=>?_)
  walk_at "dd"
  refine AB (YY (w:=(Am K ω X E.rt Dp)) (Dd:=fun (s:(List Int))=>Dp s) (s:=x1.2) (Uz (fun _ _ _ _ h=>h) B (A0 (A1 (R:=fun _:Unit=>Is (.ref a)) () rfl) fun _=>(A0 (A1 (R:=(tD K eI)) (vmost) rfl) fun _=>A2)) (fun _=>by walk_at "sub")) hP fun x2 p3 hP=>?_)
  walk_at "dd"
  refine AB (Br (w:=(Am K ω X E.rt Dp)) (CB (R:=(kD K))) hP fun x4 p5 hP=>?_)
  walk_at "dd"
  refine AB (L4 (w:=(Am K ω X E.rt Dp)) (σt:=jx) (Mt:=fun s6 kk=>kk ((!decide (s6.2.1=[])) && decide ((List.length s6.1:Int) < vmany)) ()) (mb:=(Fy x1)) (k:=Fx) (fun s6=>[some (Is (.ref a)),some ((tD K eI) vmany),some ((tD K eI) vmost),some ((tD K eI) K7),some ((tD K eI) x1.1),some (Is (.ref p3)),some (Is (.ref p5)),none,none,none,none,none,none]) (fun s6=>(p5,(kY K) (s6.1))::(p3,(kU K) (s6.2.1))::Dp (s6.2.2)) (x4,x2.1,x2.2) Res.fuel (fun s6=>(Pb (AN (V8 (xs:=s6.2.1) (Xs Ep) (d_b (e:=eS)) rfl (at_n 1 fun _=>rfl) (EG (R':=tD K (eL eS)) (AQ (CB (R:=(tD K eS)))) (d_L (R:=(tD K eS)) (e:=eS) (d_b (e:=eS)))))) fun _=>(AN (KJ (MM (sv_O (Re:=(kD K)) (xs:=s6.1) (at_n 0 fun _=>rfl)) (A1 (R:=fun _:Unit=>Is (.ref p5)) () rfl)) fun _=>(A1 (R:=(tD K eI)) (vmany) rfl))))) hP (by walk_at "sle") (by walk_at "sub") ?_ ?_)
  · intro F8 t8 s6 hP
    unfold Fx at hP
    walk_at "dd"
    refine Fp (K:=K) (k:=0) (i:=6) (R:=(kD K)) rfl rfl ?_
    walk_at "dd"
    walk_at "dd"
    exact AH (w:=(Am K ω X E.rt Dp)) (Dd:=fun _:Unit=>(p3,(kU K) (s6.2.1))::Dp (s6.2.2)) (s:=()) (fun v _=>(v,s6.2.2)) (A1 (R:=(kR K)) (s6.1) rfl) hP (fun F v s h=>(show GoV _ _ _ _ from h).drop (by walk_at "sub"))
  · intro hB8 F8 t8 s6 n7 Nx hN8 hP
    unfold Fy at hP
    walk_at "dd"
    refine AB (BD (w:=(Am K ω X E.rt Dp)) (Dd:=fun (s:(List Tx))=>(p5,(kY K) (s6.1))::(p3,(kU K) s)::Dp (s6.2.2)) (s:=s6.2.1) (Zu (Bor.cons (Bor.here (O:=(kU K)))) rfl) hP fun x9 hP=>?_)
    walk_at "dd"
    refine AB (BD (w:=(Am K ω X E.rt Dp)) (Dd:=fun (s:(List Int))=>(p5,(kY K) (s6.1))::(p3,(kU K) (x9.2))::Dp s) (s:=s6.2.2) (AG (fun _ _ _ _ h=>h) (Bor.cons (Bor.cons B)) (A0 (A1 (R:=fun _:Unit=>Is (.ref a)) () rfl) fun _=>(A0 (A1 (R:=(tD K eI)) (x1.1) rfl) fun _=>A2)) (fun _=>by walk_at "sub")) hP fun x10 hP=>?_)
    walk_at "dd"
    refine AB (BD (w:=(Am K ω X E.rt Dp)) (Dd:=fun (s:(List Int))=>(p5,(kY K) (s6.1))::(p3,(kU K) (x9.2))::Dp s) (s:=x10.2) (Ax (fun _ _ _ _ h=>h) (fun s=>s) (A0 (A1 (R:=(tD K eQ)) (x10.1) rfl) fun _=>(A0 (AG (fun _ _ _ _ h=>h) (Bor.cons (Bor.cons B)) (A0 (A1 (R:=fun _:Unit=>Is (.ref a)) () rfl) fun _=>(A0 (A1 (R:=(tD K eI)) (x1.1) rfl) fun _=>A2)) (fun _=>by walk_at "sub")) fun _=>A2)) (fun _=>by walk_at "sub")) hP fun x11 hP=>?_)
    walk_at "dd"
    refine AB (Br (w:=(Am K ω X E.rt Dp)) (CB (R:=(kJ K))) hP fun x12 p13 hP=>?_)
    walk_at "dd"
    refine AB (Pd (w:=(Am K ω X E.rt Dp)) (σt:=jr) (Dd:=fun (s:(List Int))=>(p13,(OLT (kJ K)) (x12))::(p5,(kY K) (s6.1))::(p3,(kU K) (x9.2))::Dp s) (s:=x11.2) (Dj (Bq Cp (AQ (C5 (eval_cons A9 fun _=>(eval_cons A9 fun _=>(eval_cons A9 fun _=>(eval_cons A9 fun _=>(eval_cons A9 fun _=>(eval_cons A9 fun _=>eval_nil)))))))) fun _=>(AG (fun _ _ _ _ h=>h) (Bor.cons (Bor.cons (Bor.cons B))) (A0 (A1 (R:=fun _:Unit=>Is (.ref a)) () rfl) fun _=>(A0 A9 fun _=>A2)) (fun _=>by walk_at "sub")))) (fun s15=>[some (Is (.ref a)),some ((tD K eI) vmany),some ((tD K eI) vmost),some ((tD K eI) K7),some ((tD K eI) x1.1),some (Is (.ref p3)),some (Is (.ref p5)),some ((tD K eS) x9.1),some ((tD K eQ) x10.1),some ((tD K eQ) x11.1),some (Is (.ref p13)),none,none]) (fun s15=>(p13,(OLT (kJ K)) (s15.1))::(p5,(kY K) (s6.1))::(p3,(kU K) (s15.2.1))::Dp (s15.2.2)) (fun s1=>(x12,x9.2,s1)) (fun s15 x16=>[some (Is (.ref a)),some ((tD K eI) vmany),some ((tD K eI) vmost),some ((tD K eI) K7),some ((tD K eI) x1.1),some (Is (.ref p3)),some (Is (.ref p5)),some ((tD K eS) x9.1),some ((tD K eQ) x10.1),some ((tD K eQ) x11.1),some (Is (.ref p13)),some ((tD K eI) x16),none]) hP (fun _=>by walk_at "sle") (fun _=>by walk_at "sub") (fun _=>trivial) (fun _ _=>AE) ?_ ?_)
    · intro F18 t18 s15 hP
      unfold I7 at hP
      walk_at "dd"
      refine Fp (K:=K) (k:=0) (i:=10) (R:=(kJ K)) rfl rfl ?_
      walk_at "dd"
      walk_at "dd"
      refine MP (w:=(Am K ω X E.rt Dp)) (Dd:=fun _:Unit=>(p5,(kY K) (s6.1))::(p3,(kU K) (s15.2.1))::Dp (s15.2.2)) (s:=()) (R:=(kD K)) (xs:=s6.1) (n:=6) rfl (Be (Rs:=fun x:jj=>[(tD K eS) x.1,(tD K eQ) x.2.1,(tD K eQ) x.2.2.1,(kT K) x.2.2.2]) (n:=4) (g:=fun (t:Tx×Rat×Rat×k6×Unit)=>(t.1,t.2.1,t.2.2.1,t.2.2.2.1)) (A0 (R:=(tD K eS)) (Rs:=fun (t:Rat×Rat×k6×Unit)=>[(tD K eQ) t.1,(tD K eQ) t.2.1,(kT K) t.2.2.1]) (A1 (R:=(tD K eS)) (x9.1) rfl) fun _=>(A0 (R:=(tD K eQ)) (Rs:=fun (t:Rat×k6×Unit)=>[(tD K eQ) t.1,(kT K) t.2.1]) (A1 (R:=(tD K eQ)) (x10.1) rfl) fun _=>(A0 (R:=(tD K eQ)) (Rs:=fun (t:k6×Unit)=>[(kT K) t.1]) (A1 (R:=(tD K eQ)) (x11.1) rfl) fun _=>(A0 (R:=(kT K)) (Rs:=fun (t:Unit)=>[]) (GP (f:=id) (A1 (R:=(LT K (kJ K))) (s15.1) rfl) tv_l) fun _=>A2)))) (fun _=>rfl)) (at_n 0 fun _=>rfl) hP fun x19 hP=>?_
      walk_at "dd"
      exact (hN8 _ t18 (x19.1,s15.2.1,s15.2.2) hP).weak (by walk_at "sle") (by walk_at "sub")
    · intro hB18 F18 t18 x16 s15 n17 Nx hN18 hP
      unfold I8 at hP
      walk_at "dd"
      refine Ga (w:=(Am K ω X E.rt Dp)) (DK n17) (fun s20=>[some (Is (.ref a)),some ((tD K eI) vmany),some ((tD K eI) vmost),some ((tD K eI) K7),some ((tD K eI) x1.1),some (Is (.ref p3)),some (Is (.ref p5)),some ((tD K eS) x9.1),some ((tD K eQ) x10.1),some ((tD K eQ) x11.1),some (Is (.ref p13)),some ((tD K eI) x16),none]) (fun s20=>(p13,(OLT (kJ K)) (s20.1))::(p5,(kY K) (s6.1))::(p3,(kU K) (s20.2.1))::Dp (s20.2.2)) ?_ ?_
      · intro F21 t21 s20 hP
        unfold DK at hP
        walk_at "dd"
        exact (hN18 _ t21 (s20.1,s20.2.1,s20.2.2) hP).weak (by walk_at "sle") (by walk_at "sub")
      · intro hk21
        walk_at "dd"
        refine Bp (w:=(Am K ω X E.rt Dp)) (AN (V8 (xs:=s15.2.1) (Xs Ep) (d_b (e:=eS)) rfl (at_n 2 fun _=>rfl) (EG (R':=tD K (eL eS)) (AQ (CB (R:=(tD K eS)))) (d_L (R:=(tD K eS)) (e:=eS) (d_b (e:=eS)))))) hP ?_ ?_
        · intro hP
          walk_at "dd"
          refine AB (BD (w:=(Am K ω X E.rt Dp)) (Dd:=fun (s:(List Int))=>(p13,(OLT (kJ K)) (s15.1))::(p5,(kY K) (s6.1))::(p3,(kU K) (s15.2.1))::Dp s) (s:=s15.2.2) (AG (fun _ _ _ _ h=>h) (Bor.cons (Bor.cons (Bor.cons B))) (A0 (A1 (R:=fun _:Unit=>Is (.ref a)) () rfl) fun _=>(A0 (A1 (R:=(tD K eI)) (x1.1) rfl) fun _=>A2)) (fun _=>by walk_at "sub")) hP fun x22 hP=>?_)
          walk_at "dd"
          refine MP (w:=(Am K ω X E.rt Dp)) (Dd:=fun (s:ju)=>(p13,(OLT (kJ K)) (s15.1))::(p5,(kY K) (s6.1))::(p3,(kU K) s.1)::Dp s.2) (s:=(s15.2.1,x22.2)) (R:=(kJ K)) (xs:=s15.1) (n:=10) rfl (Be (Rs:=fun x:(Tx×Rat×Tx)=>[(tD K eS) x.1,(tD K eQ) x.2.1,(tD K eS) x.2.2]) (n:=3) (g:=fun (t:Tx×Rat×Tx×Unit)=>(t.1,t.2.1,t.2.2.1)) (A0 (R:=(tD K eS)) (Rs:=fun (t:Rat×Tx×Unit)=>[(tD K eQ) t.1,(tD K eS) t.2.1]) (Yc (Bor.ahead (Bor.ahead (Bor.at0 (O:=(kU K)) (gt:=fun (w:ju)=>w.1) (st:=fun (w:ju) (v:(List Tx))=>(v,w.2)) (fun _ _=>rfl) (fun _ _=>rfl)) (fun _ _=>rfl)) (fun _ _=>rfl)) rfl) fun _=>(A0 (R:=(tD K eQ)) (Rs:=fun (t:Tx×Unit)=>[(tD K eS) t.1]) (A1 (R:=(tD K eQ)) (x22.1) rfl) fun _=>(A0 (R:=(tD K eS)) (Rs:=fun (t:Unit)=>[]) (Bq Cp (AQ (C5 (eval_cons (Cq BU rfl) fun _=>(eval_cons (Cq BF rfl) fun _=>(eval_cons (Cq Bl rfl) fun _=>eval_nil))))) fun _=>(Pi (sp:=A8 K ω) (gt:=fun (w:ju)=>w.2) (st:=fun (w:ju) (v:(List Int))=>(w.1,v)) (g:=fun _ y=>y) (fun _ _ _ _ h=>h) (Bor.ahead (Bor.ahead (Bor.ahead (Bor.of1 (gt:=fun (w:ju)=>w.2) (st:=fun (w:ju) (v:(List Int))=>(w.1,v)) B (fun _ _=>rfl)) (fun _ _=>rfl)) (fun _ _=>rfl)) (fun _ _=>rfl)) (A0 (A1 (R:=fun _:Unit=>Is (.ref a)) () rfl) fun _=>(A0 A9 fun _=>A2)) (fun _ _=>by walk_at "sub") (fun _ _ _=>rfl) (fun _ _=>rfl) (fun _=>rfl))) fun _=>A2))) (fun _=>rfl)) (at_n 0 fun _=>rfl) hP fun x23 hP=>?_
          walk_at "dd"
          exact ((hk21 _ (Same.refl _) (x23.1,x23.2.1,x23.2.2)) hP).weak (by walk_at "sle") (by walk_at "sub")
        · intro hP
          walk_at "dd"
          refine Aw ?_
          walk_at "dd"
          exact ((hk21 _ (Same.refl _) (s15.1,s15.2.1,s15.2.2)) hP).weak (by walk_at "sle") (by walk_at "sub")
theorem Oj (T:Txt K mg) (vs:List V) (H:Hp) (Q:VK) (X:XK) (h:E2 K ω vs H Q X):HW K ω X { nx:=fun _ H'=>Q .non H',rt:=Q } (L2.start Jv vs) H:=
 Ck (fun x y F Dp k a E B hrt hnx hP=>by
  subst hrt
  exact Oi T B hnx hP) h
theorem R1 (K:jf):∀ vs H Q E,E2 K ω vs H Q E→vs.length=4:=FF fun _ _=>rfl
theorem R3 (T:Txt K mg) {vsize:jj} {GF:Tx} {Ea:Rat} (hnx:∀ (F:Hp) (K:jf) G D1,GoV E.rt F (DN K) D1→Go E.nx F G D1) (hP:(CY K ω X E.rt D0).W F0 (Lh vsize GF Ea)) :
    Go (J0 K ω X E) F0 [some ((kD K) vsize),some ((tD K eS) GF),some ((tD K eQ) Ea),none,none,none,none,none,none,none] D0:=by
  unfold Lh at hP
  refine AB (ML (i:=0) (w:=(CY K ω X E.rt D0)) (Gx:=fun (x1:jj)=>[some ((kD K) vsize),some ((tD K eS) GF),some ((tD K eQ) Ea),some ((tD K eS) x1.1),some ((tD K eQ) x1.2.1),some ((tD K eQ) x1.2.2.1),some ((kT K) x1.2.2.2),none,none,none]) (A1 (R:=(kD K)) (vsize) rfl) (fun _=>(CI (AF AE (AF AE (AF AE (AF AE Bk)))) rfl)) hP fun x1 hP=>?_)
  walk_at "dd"
  refine AB (BA (w:=(CY K ω X E.rt D0)) (σt:=Unit) (Ja (A1 (R:=(kT K)) (x1.2.2.2) rfl)) (fun s2=>[some ((kD K) vsize),some ((tD K eS) GF),some ((tD K eQ) Ea),some ((tD K eS) x1.1),some ((tD K eQ) x1.2.1),some ((tD K eQ) x1.2.2.1),some ((kT K) x1.2.2.2),none,none,none]) (fun s2=>D0) () (fun s2 x3=>[some ((kD K) vsize),some ((tD K eS) GF),some ((tD K eQ) Ea),some ((tD K eS) x1.1),some ((tD K eQ) x1.2.1),some ((tD K eQ) x1.2.2.1),some ((kT K) x1.2.2.2),some ((tD K eS) x3.1),some ((tD K eQ) x3.2.1),some ((tD K eS) x3.2.2)]) hP (by walk_at "sle") (by walk_at "sub") (fun _=>trivial) (fun _ _=>(CI (AF AE (AF AE (AF AE Bk))) rfl)) ?_ ?_)
  · intro F5 t5 s2 hP
    unfold Sr at hP
    walk_at "dd"
    exact AH (w:=(CY K ω X E.rt D0)) (Dd:=fun _:Unit=>D0) (s:=()) (fun v _=>v) (Yi (R:=(tD K eQ)) cS) hP (fun F v s h=>(show GoV _ _ _ _ from h).drop (by walk_at "sub"))
  · intro hB5 F5 t5 x3 s2 n4 Nx hN5 hP
    unfold NQ at hP
    walk_at "dd"
    refine AB (Bp (w:=(CY K ω X E.rt D0)) (Pb (AN (FN Ep (A1 (R:=(tD K eS)) (x3.1) rfl) fun _=>(A1 (R:=(tD K eS)) (GF) rfl))) fun _=>(AN (FN Ep (A1 (R:=(tD K eS)) (x3.2.2) rfl) fun _=>(Cq BU rfl)))) hP ?_ ?_)
    · intro hP
      walk_at "dd"
      exact AH (w:=(CY K ω X E.rt D0)) (Dd:=fun _:Unit=>D0) (s:=()) (fun v _=>v) (NK (A1 (R:=(tD K eQ)) (x3.2.1) rfl)) hP (fun F v s h=>(show GoV _ _ _ _ from h).drop (by walk_at "sub"))
    · intro hP
      walk_at "dd"
      refine Aw ?_
      walk_at "dd"
      refine AB (Bp (w:=(CY K ω X E.rt D0)) (Pb (AN (FN Ep (A1 (R:=(tD K eS)) (x3.1) rfl) fun _=>(A1 (R:=(tD K eS)) (GF) rfl))) fun _=>(AN (FN Ep (A1 (R:=(tD K eS)) (x3.2.2) rfl) fun _=>(Cq BF rfl)))) hP ?_ ?_)
      · intro hP
        walk_at "dd"
        exact AH (w:=(CY K ω X E.rt D0)) (Dd:=fun _:Unit=>D0) (s:=()) (fun v _=>v) (NK (AD (fun _ _ _ _ h=>h) (A0 (A1 (R:=(tD K eQ)) (x3.2.1) rfl) fun _=>(A0 (AD (fun _ _ _ _ h=>h) (A0 (A1 (R:=(tD K eQ)) (Ea) rfl) fun _=>(A0 (A1 (R:=(tD K eQ)) (x1.2.1) rfl) fun _=>A2)) (fun _=>by walk_at "sub")) fun _=>A2)) (fun _=>by walk_at "sub"))) hP (fun F v s h=>(show GoV _ _ _ _ from h).drop (by walk_at "sub"))
      · intro hP
        walk_at "dd"
        refine Aw ?_
        walk_at "dd"
        refine Bp (w:=(CY K ω X E.rt D0)) (AN (FN Ep (A1 (R:=(tD K eS)) (x3.1) rfl) fun _=>(A1 (R:=(tD K eS)) (GF) rfl))) hP ?_ ?_
        · intro hP
          walk_at "dd"
          exact AH (w:=(CY K ω X E.rt D0)) (Dd:=fun _:Unit=>D0) (s:=()) (fun v _=>v) (NK (AD (fun _ _ _ _ h=>h) (A0 (A1 (R:=(tD K eQ)) (x3.2.1) rfl) fun _=>(A0 (AD (fun _ _ _ _ h=>h) (A0 (A1 (R:=(tD K eQ)) (x1.2.2.1) rfl) fun _=>(A0 (A1 (R:=(tD K eQ)) (Ea) rfl) fun _=>A2)) (fun _=>by walk_at "sub")) fun _=>A2)) (fun _=>by walk_at "sub"))) hP (fun F v s h=>(show GoV _ _ _ _ from h).drop (by walk_at "sub"))
        · intro hP
          walk_at "dd"
          refine Aw ?_
          walk_at "dd"
          exact (hN5 _ (Same.refl _) () hP).weak (by walk_at "sle") (by walk_at "sub")
theorem R4 (T:Txt K mg) (vs:List V) (H:Hp) (Q:VK) (X:XK) (h:Ek K ω vs H Q X):J0 K ω X { nx:=fun _ H'=>Q .non H',rt:=Q } (L2.start Ks vs) H:=
 AO (fun x F D E hrt hnx hP=>by
  subst hrt
  exact R3 T hnx hP) h
theorem S9 (K:jf):∀ vs H Q E,Ek K ω vs H Q E→vs.length=3:=Ak fun _=>rfl
theorem Nk (T:Txt K mg) {A6:(List Int)} {Aj:(List jj)} {Dp:(List Int)→Own} {k:Nat} {a:Addr} (B:Bor1 Dp k a (kQ K)) (hnx:∀ (F:Hp) (K:jf) G D1,GoV E.rt F (DN K) D1→Go E.nx F G D1) (hP:(Bc K ω X E.rt Dp).W F0 (JK A6 Aj)) :
    Go (Gm K ω X E) F0 [some (Is (.ref a)),some ((kR K) Aj),none,none,none,none,none,none,none] (Dp A6):=by
  unfold JK at hP
  refine AB (Br (w:=(Bc K ω X E.rt Dp)) (Hs (k:=kS) (Rv:=(tD K eQ))) hP fun x1 p2 hP=>?_)
  walk_at "dd"
  refine AB (BA (w:=(Bc K ω X E.rt Dp)) (σt:=jo) (CK (A1 (R:=(kR K)) (Aj) rfl)) (fun s3=>[some (Is (.ref a)),some ((kR K) Aj),some (Is (.ref p2)),none,none,none,none,none,none]) (fun s3=>(p2,(OXT kS (tD K eQ)) (s3.1))::Dp (s3.2)) (x1,A6) (fun s3 x4=>[some (Is (.ref a)),some ((kR K) Aj),some (Is (.ref p2)),some ((kD K) x4),none,none,none,none,none]) hP (by walk_at "sle") (by walk_at "sub") (fun _=>trivial) (fun _ _=>AE) ?_ ?_)
  · intro F6 t6 s3 hP
    unfold KY at hP
    walk_at "dd"
    refine MR (j:=0) (i:=2) (k:=kS) (Rv:=(tD K eQ)) rfl rfl ?_
    walk_at "dd"
    exact AH (w:=(Bc K ω X E.rt Dp)) (Dd:=fun _:Unit=>Dp (s3.2)) (s:=()) (fun v _=>(v,s3.2)) (A1 (R:=(kG K)) (s3.1) rfl) hP (fun F v s h=>(show GoV _ _ _ _ from h).drop (by walk_at "sub"))
  · intro hB6 F6 t6 x4 s3 n5 Nx hN6 hP
    unfold Kb at hP
    walk_at "dd"
    refine AB (BD (w:=(Bc K ω X E.rt Dp)) (Dd:=fun (s:(List Int))=>(p2,(OXT kS (tD K eQ)) (s3.1))::Dp s) (s:=s3.2) (By A9 fun _=>(AG (fun _ _ _ _ h=>h) (Bor.cons B) (A0 (A1 (R:=fun _:Unit=>Is (.ref a)) () rfl) fun _=>(A0 A9 fun _=>A2)) (fun _=>by walk_at "sub"))) hP fun x7 hP=>?_)
    walk_at "dd"
    refine AB (BD (w:=(Bc K ω X E.rt Dp)) (Dd:=fun (s:(List Int))=>(p2,(OXT kS (tD K eQ)) (s3.1))::Dp s) (s:=x7.2) (Ax (fun _ _ _ _ h=>h) (fun s=>s) (A0 (AG (fun _ _ _ _ h=>h) (Bor.cons B) (A0 (A1 (R:=fun _:Unit=>Is (.ref a)) () rfl) fun _=>(A0 (By (A1 (R:=(tD K eI)) (x7.1) rfl) fun _=>A9) fun _=>A2)) (fun _=>by walk_at "sub")) fun _=>(A0 (A1 (R:=(tD K eI)) (x7.1) rfl) fun _=>A2)) (fun _=>by walk_at "sub")) hP fun x8 hP=>?_)
    walk_at "dd"
    refine AB (KN (w:=(Bc K ω X E.rt Dp)) (Dd:=fun _:Unit=>(p2,(OXT kS (tD K eQ)) (s3.1))::Dp (x8.2)) (s:=()) (k:=kS) (Rv:=(tD K eQ)) (m:=s3.1) (hkv:=kvS) (n:=2) rfl (Ax (fun _ _ _ _ h=>h) (fun _=>x8.2) (A0 (BC (i:=1) (Rs:=fun x:jj=>[(tD K eS) x.1,(tD K eQ) x.2.1,(tD K eQ) x.2.2.1,(kT K) x.2.2.2]) (R':=(tD K eQ)) (f:=fun x=>x.2.1) (A1 (R:=(kD K)) (x4) rfl) fun _=>rfl) fun _=>(A0 (Ax (fun _ _ _ _ h=>h) (fun _=>x8.2) (A0 (A1 (R:=(tD K eQ)) (x8.1) rfl) fun _=>(A0 (Ax (fun _ _ _ _ h=>h) (fun _=>x8.2) (A0 (BC (i:=2) (Rs:=fun x:jj=>[(tD K eS) x.1,(tD K eQ) x.2.1,(tD K eQ) x.2.2.1,(kT K) x.2.2.2]) (R':=(tD K eQ)) (f:=fun x=>x.2.2.1) (A1 (R:=(kD K)) (x4) rfl) fun _=>rfl) fun _=>(A0 (BC (i:=1) (Rs:=fun x:jj=>[(tD K eS) x.1,(tD K eQ) x.2.1,(tD K eQ) x.2.2.1,(kT K) x.2.2.2]) (R':=(tD K eQ)) (f:=fun x=>x.2.1) (A1 (R:=(kD K)) (x4) rfl) fun _=>rfl) fun _=>A2)) (fun _=>by walk_at "sub")) fun _=>A2)) (fun _=>by walk_at "sub")) fun _=>A2)) (fun _=>by walk_at "sub")) (fun _=>(BC (i:=0) (Rs:=fun x:jj=>[(tD K eS) x.1,(tD K eQ) x.2.1,(tD K eQ) x.2.2.1,(kT K) x.2.2.2]) (R':=(tD K eS)) (f:=fun x=>x.1) (A1 (R:=(kD K)) (x4) rfl) fun _=>rfl)) (at_n 0 fun _=>rfl) hP fun x9 hP=>?_)
    walk_at "dd"
    refine BA (w:=(Bc K ω X E.rt Dp)) (σt:=jo) (Ja (BC (i:=3) (Rs:=fun x:jj=>[(tD K eS) x.1,(tD K eQ) x.2.1,(tD K eQ) x.2.2.1,(kT K) x.2.2.2]) (R':=(kT K)) (f:=fun x=>x.2.2.2) (A1 (R:=(kD K)) (x4) rfl) fun _=>rfl)) (fun s10=>[some (Is (.ref a)),some ((kR K) Aj),some (Is (.ref p2)),some ((kD K) x4),some ((tD K eI) x7.1),none,none,none,none]) (fun s10=>(p2,(OXT kS (tD K eQ)) (s10.1))::Dp (s10.2)) (x9.1,x8.2) (fun s10 x11=>[some (Is (.ref a)),some ((kR K) Aj),some (Is (.ref p2)),some ((kD K) x4),some ((tD K eI) x7.1),none,some ((tD K eS) x11.1),some ((tD K eQ) x11.2.1),some ((tD K eS) x11.2.2)]) hP (by walk_at "sle") (by walk_at "sub") (fun _=>trivial) (fun _ _=>(CI (AF AE (AF AE (AF AE Bk))) rfl)) ?_ ?_
    · intro F13 t13 s10 hP
      unfold KZ at hP
      walk_at "dd"
      exact (hN6 _ t13 (s10.1,s10.2) hP).weak (by walk_at "sle") (by walk_at "sub")
    · intro hB13 F13 t13 x11 s10 n12 Nx hN13 hP
      unfold Ka at hP
      walk_at "dd"
      refine AB (BD (w:=(Bc K ω X E.rt Dp)) (Dd:=fun (s:(List Int))=>(p2,(OXT kS (tD K eQ)) (s10.1))::Dp s) (s:=s10.2) (Ax (fun _ _ _ _ h=>h) (fun s=>s) (A0 (Fm (AG (fun _ _ _ _ h=>h) (Bor.cons B) (A0 (A1 (R:=fun _:Unit=>Is (.ref a)) () rfl) fun _=>(A0 (By (BB A9 fun _=>(A1 (R:=(tD K eI)) (x7.1) rfl)) fun _=>A9) fun _=>A2)) (fun _=>by walk_at "sub")) fun _=>(A1 (R:=(tD K eI)) (x7.1) rfl)) fun _=>(A0 (A1 (R:=(tD K eI)) (x7.1) rfl) fun _=>A2)) (fun _=>by walk_at "sub")) hP fun x14 hP=>?_)
      walk_at "dd"
      refine KN (w:=(Bc K ω X E.rt Dp)) (Dd:=fun _:Unit=>(p2,(OXT kS (tD K eQ)) (s10.1))::Dp (x14.2)) (s:=()) (k:=kS) (Rv:=(tD K eQ)) (m:=s10.1) (hkv:=kvS) (n:=2) rfl (Ax (fun _ _ _ _ h=>h) (fun _=>x14.2) (A0 (A1 (R:=(tD K eQ)) (x14.1) rfl) fun _=>(A0 (Zz (Ax (fun _ _ _ _ h=>h) (fun _=>x14.2) (A0 (A1 (R:=(kD K)) (x4) rfl) fun _=>(A0 (A1 (R:=(tD K eS)) (x11.1) rfl) fun _=>(A0 (Eb (dw_O (k:=kS) (Rv:=(tD K eQ)) (m:=s10.1) (at_n 0 fun _=>rfl)) kvS (A1 (R:=fun _:Unit=>Is (.ref p2)) () rfl) fun _=>(BC (i:=0) (Rs:=fun x:jj=>[(tD K eS) x.1,(tD K eQ) x.2.1,(tD K eQ) x.2.2.1,(kT K) x.2.2.2]) (R':=(tD K eS)) (f:=fun x=>x.1) (A1 (R:=(kD K)) (x4) rfl) fun _=>rfl)) fun _=>A2))) (fun _=>by walk_at "sub"))) fun _=>A2)) (fun _=>by walk_at "sub")) (fun _=>(A1 (R:=(tD K eS)) (x11.1) rfl)) (at_n 0 fun _=>rfl) hP fun x15 hP=>?_
      walk_at "dd"
      exact (hN13 _ (Same.refl _) (x15.1,x14.2) hP).weak (by walk_at "sle") (by walk_at "sub")
theorem Nl (T:Txt K mg) (vs:List V) (H:Hp) (Q:VK) (X:XK) (h:DV K ω vs H Q X):Gm K ω X { nx:=fun _ H'=>Q .non H',rt:=Q } (L2.start JB vs) H:=
 Ck (fun x y F Dp k a E B hrt hnx hP=>by
  subst hrt
  exact Nk T B hnx hP) h
theorem Ol (K:jf):∀ vs H Q E,DV K ω vs H Q E→vs.length=2:=FF fun _ _=>rfl
theorem UT (T:Txt K mg) {GY:Rat} {vdue:Rat} (hnx:∀ (F:Hp) (K:jf) G D1,GoV E.rt F (DN K) D1→Go E.nx F G D1) (hP:(LI K ω X E.rt D0).W F0 (l_is GY vdue)) :
    Go (LK K ω X E) F0 [some ((tD K eQ) GY),some ((tD K eQ) vdue),none] D0:=by
  unfold l_is at hP
  refine AB (Bp (w:=(LI K ω X E.rt D0)) (MK (Gq (FM (KP (n:="tuple") (own:="tuple") (b:=true) (A1 (R:=(tD K eQ)) (GY) rfl) (ty_d fun _=>rfl) (by decide +kernel)))) fun _=>(MK (AN (JY KA (Zt (n:=2) (A1 (R:=(tD K eQ)) (GY) rfl) fun _=>⟨_,rfl,rfl⟩) fun _=>A9)) fun _=>(AN (JY LN (A1 (R:=(tD K eQ)) (GY) rfl) fun _=>(A1 (R:=(tD K eQ)) (vdue) rfl))))) hP ?_ ?_)
  · intro hP
    walk_at "dd"
    exact AH (w:=(LI K ω X E.rt D0)) (Dd:=fun _:Unit=>D0) (s:=()) (fun v _=>v) Hq hP (fun F v s h=>(show GoV _ _ _ _ from h).drop (by walk_at "sub"))
  · intro hP
    walk_at "dd"
    refine Aw ?_
    walk_at "dd"
    exact AH (w:=(LI K ω X E.rt D0)) (Dd:=fun _:Unit=>D0) (s:=()) (fun v _=>v) (Wg fl_B Cp Hq fun _=>(AQ (Hr (G1:=(fun x5=>[some ((tD K eQ) GY),some ((tD K eQ) vdue),some ((tD K eI) x5)])) (cY (A1 (R:=(tD K eQ)) (GY) rfl)) (fun _=>(DG (by decide))) (fun _ _=>trivial) (fun x5 _ cq=>(Us (KP (n:="int") (own:="int") (b:=true) (A1 (R:=(tD K eI)) (x5) rfl) (ty_d fun _=>rfl) (by decide +kernel)) fun _=>(Ur (KP (n:="bool") (own:="int") (b:=false) (A1 (R:=(tD K eI)) (x5) rfl) (ty_d fun _=>rfl) (by decide +kernel)))))))) hP (fun F v s h=>(show GoV _ _ _ _ from h).drop (by walk_at "sub"))
theorem UU (T:Txt K mg) (vs:List V) (H:Hp) (Q:VK) (X:XK) (h:FS K ω vs H Q X):LK K ω X { nx:=fun _ H'=>Q .non H',rt:=Q } (L2.start LH vs) H:=
 AO (fun x F D E hrt hnx hP=>by
  subst hrt
  exact UT T hnx hP) h
theorem WJ (K:jf):∀ vs H Q E,FS K ω vs H Q E→vs.length=2:=Ak fun _=>rfl
theorem Om (T:Txt K mg) {A6:(List Int)} {vmany:Int} {Dp:(List Int)→Own} {k:Nat} {a:Addr} (B:Bor1 Dp k a (kQ K)) (hnx:∀ (F:Hp) (K:jf) G D1,GoV E.rt F (DN K) D1→Go E.nx F G D1) (hP:(Du K ω X E.rt Dp).W F0 (L8 A6 vmany)) :
    Go (HX K ω X E) F0 [some (Is (.ref a)),some ((tD K eI) vmany),none,none,none,none,none,none] (Dp A6):=by
  unfold L8 at hP
  refine AB (Ao (w:=(Du K ω X E.rt Dp)) (Cq FW rfl) hP fun x1 hP=>?_)
  walk_at "dd"
  refine AB (BD (w:=(Du K ω X E.rt Dp)) (Dd:=fun (s:(List Int))=>Dp s) (s:=A6) (Zs (Cq FV rfl) fun _=>(EG (R':=tD K (eL eS)) (AQ (Hr (G1:=(fun x4=>[some (Is (.ref a)),some ((tD K eI) vmany),some ((tD K eS) x1),none,some ((tD K eI) x4),none,none,none])) (Dj A9) (fun _=>(DG (by decide))) (fun _ _=>trivial) (fun x4 _ cq=>(Tc (A1 (R:=(tD K eS)) (x1) rfl) fun _=>(SY (fun _ _ _ _ h=>h) (fun _:(List Int)=>()) (Bor.cons B) (A0 (A1 (R:=fun _:Unit=>Is (.ref a)) () rfl) fun _=>(A0 A9 fun _=>A2)) (fun _=>List.nil_sublist _)))))) (d_L (R:=(tD K eS)) (e:=eS) (d_b (e:=eS))))) hP fun x2 hP=>?_)
  walk_at "dd"
  refine AB (BD (w:=(Du K ω X E.rt Dp)) (Dd:=fun (s:(List Int))=>Dp s) (s:=x2.2) (By A9 fun _=>(AG (fun _ _ _ _ h=>h) B (A0 (A1 (R:=fun _:Unit=>Is (.ref a)) () rfl) fun _=>(A0 A9 fun _=>A2)) (fun _=>by walk_at "sub"))) hP fun x10 hP=>?_)
  walk_at "dd"
  refine AB (BD (w:=(Du K ω X E.rt Dp)) (Dd:=fun (s:(List Int))=>Dp s) (s:=x10.2) (AG (fun _ _ _ _ h=>h) B (A0 (A1 (R:=fun _:Unit=>Is (.ref a)) () rfl) fun _=>(A0 (A1 (R:=(tD K eI)) (x10.1) rfl) fun _=>A2)) (fun _=>by walk_at "sub")) hP fun x11 hP=>?_)
  walk_at "dd"
  refine AB (BD (w:=(Du K ω X E.rt Dp)) (Dd:=fun (s:(List Int))=>Dp s) (s:=x11.2) (AG (fun _ _ _ _ h=>h) B (A0 (A1 (R:=fun _:Unit=>Is (.ref a)) () rfl) fun _=>(A0 A9 fun _=>A2)) (fun _=>by walk_at "sub")) hP fun x12 hP=>?_)
  walk_at "dd"
  exact AH (w:=(Du K ω X E.rt Dp)) (Dd:=fun _:Unit=>Dp (x12.2)) (s:=()) (fun v _=>(v,x12.2)) (AQ (Hr (G1:=(fun x14=>[some (Is (.ref a)),some ((tD K eI) vmany),some ((tD K eS) x1),some ((tD K eS) x2.1),some ((tD K eI) x14),some ((tD K eI) x10.1),some ((tD K eI) x11.1),some ((tD K eI) x12.1)])) (Dj (A1 (R:=(tD K eI)) (vmany) rfl)) (fun _=>(DG (by decide))) (fun _ _=>trivial) (fun x14 _ cq=>(Pe (Pe (Xw (A1 (R:=(tD K eS)) (x2.1) rfl) (fun _=>Zq) fun _=>(Ph (A1 (R:=(tD K eI)) (x11.1) rfl))) fun _=>(Tc (A1 (R:=(tD K eS)) (x1) rfl) fun _=>(JX (By (A1 (R:=(tD K eI)) (x12.1) rfl) fun _=>(BB A9 fun _=>(A1 (R:=(tD K eI)) (x14) rfl))) fun _=>A9))) fun _=>(Xw (A1 (R:=(tD K eS)) (x2.1) rfl) (fun _=>(Ph (By (A1 (R:=(tD K eI)) (x11.1) rfl) fun _=>A9))) fun _=>(Ph (A1 (R:=(tD K eI)) (x10.1) rfl))))))) hP (fun F v s h=>(show GoV _ _ _ _ from h).drop (by walk_at "sub"))
theorem On (T:Txt K mg) (vs:List V) (H:Hp) (Q:VK) (X:XK) (h:E3 K ω vs H Q X):HX K ω X { nx:=fun _ H'=>Q .non H',rt:=Q } (L2.start G7 vs) H:=
 Ck (fun x y F Dp k a E B hrt hnx hP=>by
  subst hrt
  exact Om T B hnx hP) h
theorem R5 (K:jf):∀ vs H Q E,E3 K ω vs H Q E→vs.length=2:=FF fun _ _=>rfl
theorem Oo (T:Txt K mg) {A6:(List Int)} {vmany:Int} {Dp:(List Int)→Own} {k:Nat} {a:Addr} (B:Bor1 Dp k a (kQ K)) (hnx:∀ (F:Hp) (K:jf) G D1,GoV E.rt F (DN K) D1→Go E.nx F G D1) (hP:(G9 K ω X E.rt Dp).W F0 (L9 A6 vmany)) :
    Go (HY K ω X E) F0 [some (Is (.ref a)),some ((tD K eI) vmany),none,none,none] (Dp A6):=by
  unfold L9 at hP
  refine AB (Br (w:=(G9 K ω X E.rt Dp)) (CB (R:=(kC K))) hP fun x1 p2 hP=>?_)
  walk_at "dd"
  refine AB (Pd (w:=(G9 K ω X E.rt Dp)) (σt:=jm) (Dd:=fun (s:(List Int))=>(p2,(OLT (kC K)) (x1))::Dp s) (s:=A6) (CK (AG (fun _ _ _ _ h=>h) (Bor.cons B) (A0 (A1 (R:=fun _:Unit=>Is (.ref a)) () rfl) fun _=>(A0 A9 fun _=>A2)) (fun _=>by walk_at "sub"))) (fun s3=>[some (Is (.ref a)),some ((tD K eI) vmany),some (Is (.ref p2)),none,none]) (fun s3=>(p2,(OLT (kC K)) (s3.1))::Dp (s3.2)) (fun s1=>(x1,s1)) (fun s3 x4=>[some (Is (.ref a)),some ((tD K eI) vmany),some (Is (.ref p2)),some ((tD K eS) x4),none]) hP (fun _=>by walk_at "sle") (fun _=>by walk_at "sub") (fun _=>trivial) (fun _ _=>AE) ?_ ?_)
  · intro F6 t6 s3 hP
    unfold Li at hP
    walk_at "dd"
    exact AH (w:=(G9 K ω X E.rt Dp)) (Dd:=fun (s:jm)=>(p2,(OLT (kC K)) s.1)::Dp s.2) (s:=(s3.1,s3.2)) (fun v s=>(v,s.2)) (AQ (Hr (G1:=(fun x8=>[some (Is (.ref a)),some ((tD K eI) vmany),some (Is (.ref p2)),none,some ((tD K eI) x8)])) (Dj (A1 (R:=(tD K eI)) (vmany) rfl)) (fun _=>(DG (by decide))) (fun _ _=>trivial) (fun x8 _ cq=>(VB (Bor.ahead (Bor.at0 (O:=(OLT (kC K))) (gt:=fun (w:jm)=>w.1) (st:=fun (w:jm) (v:jz)=>(v,w.2)) (fun _ _=>rfl) (fun _ _=>rfl)) (fun _ _=>rfl)) rfl (Pi (sp:=A8 K ω) (gt:=fun (w:jm)=>w.2) (st:=fun (w:jm) (v:(List Int))=>(w.1,v)) (g:=fun _ _=>()) (fun _ _ _ _ h=>h) (Bor.ahead (Bor.ahead (Bor.of1 (gt:=fun (w:jm)=>w.2) (st:=fun (w:jm) (v:(List Int))=>(w.1,v)) B (fun _ _=>rfl)) (fun _ _=>rfl)) (fun _ _=>rfl)) (A0 (A1 (R:=fun _:Unit=>Is (.ref a)) () rfl) fun _=>(A0 (Yl (Bor.ahead (Bor.at0 (O:=(OLT (kC K))) (gt:=fun (w:jm)=>w.1) (st:=fun (w:jm) (v:jz)=>(v,w.2)) (fun _ _=>rfl) (fun _ _=>rfl)) (fun _ _=>rfl)) rfl) fun _=>A2)) (fun _ _=>List.nil_sublist _) (fun _ _ _=>rfl) (fun _ _=>rfl) (fun _=>rfl)))))) hP (fun F v s h=>(show GoV _ _ _ _ from h).drop (by walk_at "sub"))
  · intro hB6 F6 t6 x4 s3 n5 Nx hN6 hP
    unfold Lj at hP
    walk_at "dd"
    refine V4 (w:=(G9 K ω X E.rt Dp)) (Dd:=fun _:Unit=>(p2,(OLT (kC K)) (s3.1))::Dp (s3.2)) (s:=()) (R:=(kC K)) (xs:=s3.1) (n:=2) rfl (C5 (eval_cons (Be (Rs:=fun x:(Tx×Tx)=>[(tD K eS) x.1,(tD K eS) x.2]) (n:=2) (g:=fun (t:Tx×Tx×Unit)=>(t.1,t.2.1)) (A0 (R:=(tD K eS)) (Rs:=fun (t:Tx×Unit)=>[(tD K eS) t.1]) (Cq C7 rfl) fun _=>(A0 (R:=(tD K eS)) (Rs:=fun (t:Unit)=>[]) (A1 (R:=(tD K eS)) (x4) rfl) fun _=>A2)) (fun _=>rfl)) fun _=>(eval_cons (Be (Rs:=fun x:(Tx×Tx)=>[(tD K eS) x.1,(tD K eS) x.2]) (n:=2) (g:=fun (t:Tx×Tx×Unit)=>(t.1,t.2.1)) (A0 (R:=(tD K eS)) (Rs:=fun (t:Tx×Unit)=>[(tD K eS) t.1]) (Cq FX rfl) fun _=>(A0 (R:=(tD K eS)) (Rs:=fun (t:Unit)=>[]) (A1 (R:=(tD K eS)) (x4) rfl) fun _=>A2)) (fun _=>rfl)) fun _=>eval_nil))) (at_n 0 fun _=>rfl) hP fun x14 hP=>?_
    walk_at "dd"
    exact (hN6 _ (Same.refl _) (x14.1,s3.2) hP).weak (by walk_at "sle") (by walk_at "sub")
theorem Oq (T:Txt K mg) (vs:List V) (H:Hp) (Q:VK) (X:XK) (h:E4 K ω vs H Q X):HY K ω X { nx:=fun _ H'=>Q .non H',rt:=Q } (L2.start HQ vs) H:=
 Ck (fun x y F Dp k a E B hrt hnx hP=>by
  subst hrt
  exact Oo T B hnx hP) h
theorem R6 (K:jf):∀ vs H Q E,E4 K ω vs H Q E→vs.length=2:=FF fun _ _=>rfl
theorem SA (T:Txt K mg) {A6:(List Int)} {Dp:(List Int)→Own} {k:Nat} {a:Addr} (B:Bor1 Dp k a (kQ K)) (hnx:∀ (F:Hp) (K:jf) G D1,GoV E.rt F (DN K) D1→Go E.nx F G D1) (hP:(Jz K ω X E.rt Dp).W F0 (Su A6)) :
    Go (K6 K ω X E) F0 [some (Is (.ref a))] (Dp A6):=by
  unfold Su at hP
  refine AB (Xq (w:=(Jz K ω X E.rt Dp)) (Dd:=fun (s:(List Int))=>Dp s) (s:=A6) (AN (FN KA (AG (fun _ _ _ _ h=>h) B (A0 (A1 (R:=fun _:Unit=>Is (.ref a)) () rfl) fun _=>(A0 A9 fun _=>A2)) (fun _=>by walk_at "sub")) fun _=>A9)) hP ?_ ?_)
  · intro s1 hP
    walk_at "dd"
    exact AH (w:=(Jz K ω X E.rt Dp)) (Dd:=fun (s:(List Int))=>Dp s) (s:=s1) (fun v s=>(v,s)) (Be (Rs:=fun x:(Int×Int)=>[(tD K eI) x.1,(tD K eI) x.2]) (n:=2) (g:=fun (t:Int×Int×Unit)=>(t.1,t.2.1)) (A0 (R:=(tD K eI)) (Rs:=fun (t:Int×Unit)=>[(tD K eI) t.1]) (By A9 fun _=>(AG (fun _ _ _ _ h=>h) B (A0 (A1 (R:=fun _:Unit=>Is (.ref a)) () rfl) fun _=>(A0 A9 fun _=>A2)) (fun _=>by walk_at "sub"))) fun _=>(A0 (R:=(tD K eI)) (Rs:=fun (t:Unit)=>[]) (By A9 fun _=>(AG (fun _ _ _ _ h=>h) B (A0 (A1 (R:=fun _:Unit=>Is (.ref a)) () rfl) fun _=>(A0 A9 fun _=>A2)) (fun _=>by walk_at "sub"))) fun _=>A2)) (fun _=>rfl)) hP (fun F v s h=>(show GoV _ _ _ _ from h).drop (by walk_at "sub"))
  · intro s1 hP
    walk_at "dd"
    refine Aw ?_
    walk_at "dd"
    exact AH (w:=(Jz K ω X E.rt Dp)) (Dd:=fun (s:(List Int))=>Dp s) (s:=s1) (fun v s=>(v,s)) (Be (Rs:=fun x:(Int×Int)=>[(tD K eI) x.1,(tD K eI) x.2]) (n:=2) (g:=fun (t:Int×Int×Unit)=>(t.1,t.2.1)) (A0 (R:=(tD K eI)) (Rs:=fun (t:Int×Unit)=>[(tD K eI) t.1]) (By A9 fun _=>(AG (fun _ _ _ _ h=>h) B (A0 (A1 (R:=fun _:Unit=>Is (.ref a)) () rfl) fun _=>(A0 A9 fun _=>A2)) (fun _=>by walk_at "sub"))) fun _=>(A0 (R:=(tD K eI)) (Rs:=fun (t:Unit)=>[]) (AG (fun _ _ _ _ h=>h) B (A0 (A1 (R:=fun _:Unit=>Is (.ref a)) () rfl) fun _=>(A0 A9 fun _=>A2)) (fun _=>by walk_at "sub")) fun _=>A2)) (fun _=>rfl)) hP (fun F v s h=>(show GoV _ _ _ _ from h).drop (by walk_at "sub"))
theorem SB (T:Txt K mg) (vs:List V) (H:Hp) (Q:VK) (X:XK) (h:Fj K ω vs H Q X):K6 K ω X { nx:=fun _ H'=>Q .non H',rt:=Q } (L2.start M6 vs) H:=
 Ck (fun x y F Dp k a E B hrt hnx hP=>by
  subst hrt
  exact SA T B hnx hP) h
theorem UV (K:jf):∀ vs H Q E,Fj K ω vs H Q E→vs.length=1:=FF fun _ _=>rfl
theorem Os (T:Txt K mg) {A6:(List Int)} {Dp:(List Int)→Own} {k:Nat} {a:Addr} (B:Bor1 Dp k a (kQ K)) (hnx:∀ (F:Hp) (K:jf) G D1,GoV E.rt F (DN K) D1→Go E.nx F G D1) (hP:(Mv K ω X E.rt Dp).W F0 (EM A6)) :
    Go (HZ K ω X E) F0 [some (Is (.ref a))] (Dp A6):=by
  unfold EM at hP
  exact AH (w:=(Mv K ω X E.rt Dp)) (Dd:=fun (s:(List Int))=>Dp s) (s:=A6) (fun v s=>(v,s)) (Ax (fun _ _ _ _ h=>h) (fun s=>s) (A0 (Fm (AG (fun _ _ _ _ h=>h) B (A0 (A1 (R:=fun _:Unit=>Is (.ref a)) () rfl) fun _=>(A0 A9 fun _=>A2)) (fun _=>by walk_at "sub")) fun _=>A9) fun _=>(A0 (Bq Cp (AQ (C5 (eval_cons A9 fun _=>(eval_cons A9 fun _=>(eval_cons A9 fun _=>(eval_cons A9 fun _=>eval_nil)))))) fun _=>(AG (fun _ _ _ _ h=>h) B (A0 (A1 (R:=fun _:Unit=>Is (.ref a)) () rfl) fun _=>(A0 A9 fun _=>A2)) (fun _=>by walk_at "sub"))) fun _=>A2)) (fun _=>by walk_at "sub")) hP (fun F v s h=>(show GoV _ _ _ _ from h).drop (by walk_at "sub"))
theorem Ot (T:Txt K mg) (vs:List V) (H:Hp) (Q:VK) (X:XK) (h:DC K ω vs H Q X):HZ K ω X { nx:=fun _ H'=>Q .non H',rt:=Q } (L2.start Jw vs) H:=
 Ck (fun x y F Dp k a E B hrt hnx hP=>by
  subst hrt
  exact Os T B hnx hP) h
theorem R7 (K:jf):∀ vs H Q E,DC K ω vs H Q E→vs.length=1:=FF fun _ _=>rfl
theorem Nn (T:Txt K mg) {Aj:(List jj)} {vby:Rat} (hnx:∀ (F:Hp) (K:jf) G D1,GoV E.rt F (DN K) D1→Go E.nx F G D1) (hP:(E5 K ω X E.rt D0).W F0 (Ec Aj vby)) :
    Go (Gn K ω X E) F0 [some ((kR K) Aj),some ((tD K eQ) vby),none,none,none,none,none,none,none,none,none] D0:=by
  unfold Ec at hP
  refine AB (Br (w:=(E5 K ω X E.rt D0)) (CB (R:=(kD K))) hP fun x1 p2 hP=>?_)
  walk_at "dd"
  refine AB (BA (w:=(E5 K ω X E.rt D0)) (σt:=(List jj)) (CK (A1 (R:=(kR K)) (Aj) rfl)) (fun s3=>[some ((kR K) Aj),some ((tD K eQ) vby),some (Is (.ref p2)),none,none,none,none,none,none,none,none]) (fun s3=>(p2,(kY K) (s3))::D0) x1 (fun s3 x4=>[some ((kR K) Aj),some ((tD K eQ) vby),some (Is (.ref p2)),some ((tD K eS) x4.1),some ((tD K eQ) x4.2.1),some ((tD K eQ) x4.2.2.1),some ((kT K) x4.2.2.2),none,none,none,none]) hP (by walk_at "sle") (by walk_at "sub") (fun _=>trivial) (fun _ _=>(CI (AF AE (AF AE (AF AE (AF AE Bk)))) rfl)) ?_ ?_)
  · intro F6 t6 s3 hP
    unfold FG at hP
    walk_at "dd"
    refine Fp (K:=K) (k:=0) (i:=2) (R:=(kD K)) rfl rfl ?_
    walk_at "dd"
    walk_at "dd"
    exact AH (w:=(E5 K ω X E.rt D0)) (Dd:=fun _:Unit=>D0) (s:=()) (fun v _=>v) (A1 (R:=(kR K)) (s3) rfl) hP (fun F v s h=>(show GoV _ _ _ _ from h).drop (by walk_at "sub"))
  · intro hB6 F6 t6 x4 s3 n5 Nx hN6 hP
    unfold FH at hP
    walk_at "dd"
    refine AB (Ao (w:=(E5 K ω X E.rt D0)) (GP (f:=id) (AQ (Hr (G1:=(fun x8=>[some ((kR K) Aj),some ((tD K eQ) vby),some (Is (.ref p2)),some ((tD K eS) x4.1),some ((tD K eQ) x4.2.1),some ((tD K eQ) x4.2.2.1),some ((kT K) x4.2.2.2),none,some ((tD K eS) x8.1),some ((tD K eQ) x8.2.1),some ((tD K eS) x8.2.2)])) (Ja (A1 (R:=(kT K)) (x4.2.2.2) rfl)) (fun _=>(Zx (Lb (DG (by decide)) (Lb (DG (by decide)) (Lb (DG (by decide)) Yg))) rfl)) (fun _ _=>trivial) (fun x8 _ cq=>(Be (Rs:=fun x:(Tx×Rat×Tx)=>[(tD K eS) x.1,(tD K eQ) x.2.1,(tD K eS) x.2.2]) (n:=3) (g:=fun (t:Tx×Rat×Tx×Unit)=>(t.1,t.2.1,t.2.2.1)) (A0 (R:=(tD K eS)) (Rs:=fun (t:Rat×Tx×Unit)=>[(tD K eQ) t.1,(tD K eS) t.2.1]) (A1 (R:=(tD K eS)) (x8.1) rfl) fun _=>(A0 (R:=(tD K eQ)) (Rs:=fun (t:Tx×Unit)=>[(tD K eS) t.1]) (AD (fun _ _ _ _ h=>h) (A0 (A1 (R:=(tD K eQ)) (x8.2.1) rfl) fun _=>(A0 (A1 (R:=(tD K eQ)) (vby) rfl) fun _=>A2)) (fun _=>List.nil_sublist _)) fun _=>(A0 (R:=(tD K eS)) (Rs:=fun (t:Unit)=>[]) (A1 (R:=(tD K eS)) (x8.2.2) rfl) fun _=>A2))) (fun _=>rfl))))) tv_l) hP fun x7 hP=>?_)
    walk_at "dd"
    refine MP (w:=(E5 K ω X E.rt D0)) (Dd:=fun _:Unit=>(p2,(kY K) (s3))::D0) (s:=()) (R:=(kD K)) (xs:=s3) (n:=2) rfl (Be (Rs:=fun x:jj=>[(tD K eS) x.1,(tD K eQ) x.2.1,(tD K eQ) x.2.2.1,(kT K) x.2.2.2]) (n:=4) (g:=fun (t:Tx×Rat×Rat×k6×Unit)=>(t.1,t.2.1,t.2.2.1,t.2.2.2.1)) (A0 (R:=(tD K eS)) (Rs:=fun (t:Rat×Rat×k6×Unit)=>[(tD K eQ) t.1,(tD K eQ) t.2.1,(kT K) t.2.2.1]) (A1 (R:=(tD K eS)) (x4.1) rfl) fun _=>(A0 (R:=(tD K eQ)) (Rs:=fun (t:Rat×k6×Unit)=>[(tD K eQ) t.1,(kT K) t.2.1]) (AD (fun _ _ _ _ h=>h) (A0 (A1 (R:=(tD K eQ)) (x4.2.1) rfl) fun _=>(A0 (A1 (R:=(tD K eQ)) (vby) rfl) fun _=>A2)) (fun _=>by walk_at "sub")) fun _=>(A0 (R:=(tD K eQ)) (Rs:=fun (t:k6×Unit)=>[(kT K) t.1]) (AD (fun _ _ _ _ h=>h) (A0 (A1 (R:=(tD K eQ)) (x4.2.2.1) rfl) fun _=>(A0 (A1 (R:=(tD K eQ)) (vby) rfl) fun _=>A2)) (fun _=>by walk_at "sub")) fun _=>(A0 (R:=(kT K)) (Rs:=fun (t:Unit)=>[]) (A1 (R:=(kT K)) (x7) rfl) fun _=>A2)))) (fun _=>rfl)) (at_n 0 fun _=>rfl) hP fun x13 hP=>?_
    walk_at "dd"
    exact (hN6 _ (Same.refl _) x13.1 hP).weak (by walk_at "sle") (by walk_at "sub")
theorem Np (T:Txt K mg) (vs:List V) (H:Hp) (Q:VK) (X:XK) (h:DW K ω vs H Q X):Gn K ω X { nx:=fun _ H'=>Q .non H',rt:=Q } (L2.start Gi vs) H:=
 AO (fun x F D E hrt hnx hP=>by
  subst hrt
  exact Nn T hnx hP) h
theorem Ou (K:jf):∀ vs H Q E,DW K ω vs H Q E→vs.length=2:=Ak fun _=>rfl
theorem Ov (T:Txt K mg) {Nr:(Rat×jh)} {A5:jh} (hnx:∀ (F:Hp) (K:jf) G D1,GoV E.rt F (DN K) D1→Go E.nx F G D1) (hP:(GA K ω X E.rt D0).W F0 (Dc Nr A5)) :
    Go (Ha K ω X E) F0 [some ((kE K) Nr),some ((kG K) A5),none,none,none] D0:=by
  unfold Dc at hP
  refine AB (Ao (w:=(GA K ω X E.rt D0)) (BC (i:=0) (Rs:=fun x:(Rat×jh)=>[(tD K eQ) x.1,(kO K) x.2]) (R':=(tD K eQ)) (f:=fun x=>x.1) (A1 (R:=(kE K)) (Nr) rfl) fun _=>rfl) hP fun x1 hP=>?_)
  walk_at "dd"
  refine AB (BA (w:=(GA K ω X E.rt D0)) (σt:=Rat) (Ja (BC (i:=1) (Rs:=fun x:(Rat×jh)=>[(tD K eQ) x.1,(kO K) x.2]) (R':=(kO K)) (f:=fun x=>x.2) (A1 (R:=(kE K)) (Nr) rfl) fun _=>rfl)) (fun s2=>[some ((kE K) Nr),some ((kG K) A5),some ((tD K eQ) s2),none,none]) (fun s2=>D0) x1 (fun s2 x3=>[some ((kE K) Nr),some ((kG K) A5),some ((tD K eQ) s2),some ((tD K eS) x3.1),some ((tD K eQ) x3.2)]) hP (by walk_at "sle") (by walk_at "sub") (fun _=>trivial) (fun _ _=>(CI (AF AE (AF AE Bk)) rfl)) ?_ ?_)
  · intro F5 t5 s2 hP
    unfold I4 at hP
    walk_at "dd"
    exact AH (w:=(GA K ω X E.rt D0)) (Dd:=fun _:Unit=>D0) (s:=()) (fun v _=>v) (A1 (R:=(tD K eQ)) (s2) rfl) hP (fun F v s h=>(show GoV _ _ _ _ from h).drop (by walk_at "sub"))
  · intro hB5 F5 t5 x3 s2 n4 Nx hN5 hP
    unfold Fu at hP
    walk_at "dd"
    refine Ao (w:=(GA K ω X E.rt D0)) (AD (fun _ _ _ _ h=>h) (A0 (A1 (R:=(tD K eQ)) (s2) rfl) fun _=>(A0 (AD (fun _ _ _ _ h=>h) (A0 (A1 (R:=(tD K eQ)) (x3.2) rfl) fun _=>(A0 (Eb dw_Z kvS (A1 (R:=(kG K)) (A5) rfl) fun _=>(A1 (R:=(tD K eS)) (x3.1) rfl)) fun _=>A2)) (fun _=>by walk_at "sub")) fun _=>A2)) (fun _=>by walk_at "sub")) hP fun x6 hP=>?_
    walk_at "dd"
    exact (hN5 _ (Same.refl _) x6 hP).weak (by walk_at "sle") (by walk_at "sub")
theorem Ow (T:Txt K mg) (vs:List V) (H:Hp) (Q:VK) (X:XK) (h:B7 K ω vs H Q X):Ha K ω X { nx:=fun _ H'=>Q .non H',rt:=Q } (L2.start Jx vs) H:=
 AO (fun x F D E hrt hnx hP=>by
  subst hrt
  exact Ov T hnx hP) h
theorem R8 (K:jf):∀ vs H Q E,B7 K ω vs H Q E→vs.length=2:=Ak fun _=>rfl
theorem N8 (T:Txt K mg) {A6:(List Int)} {Cw:(List Tx)} {Dp:(List Int)→Own} {k:Nat} {a:Addr} (B:Bor1 Dp k a (kQ K)) (hnx:∀ (F:Hp) (K:jf) G D1,GoV E.rt F (DN K) D1→Go E.nx F G D1) (hP:(CA K ω X E.rt Dp).W F0 (Hf A6 Cw)) :
    Go (GE K ω X E) F0 [some (Is (.ref a)),some ((kX K) Cw),none,none,none] (Dp A6):=by
  unfold Hf at hP
  refine AB (Br (w:=(CA K ω X E.rt Dp)) (CB (R:=(kH K))) hP fun x1 p2 hP=>?_)
  walk_at "dd"
  refine AB (BA (w:=(CA K ω X E.rt Dp)) (σt:=jo) (CK (EG (Yb Zr (A1 (R:=(kX K)) (Cw) rfl)) (u_L (R:=(tD K eS)) (e:=eS) (u_b (e:=eS))))) (fun s3=>[some (Is (.ref a)),some ((kX K) Cw),some (Is (.ref p2)),none,none]) (fun s3=>(p2,(OLT (kH K)) (s3.1))::Dp (s3.2)) (x1,A6) (fun s3 x4=>[some (Is (.ref a)),some ((kX K) Cw),some (Is (.ref p2)),some ((tD K eS) x4),none]) hP (by walk_at "sle") (by walk_at "sub") (fun _=>trivial) (fun _ _=>AE) ?_ ?_)
  · intro F6 t6 s3 hP
    unfold Jj at hP
    walk_at "dd"
    refine Fp (K:=K) (k:=0) (i:=2) (R:=(kH K)) rfl rfl ?_
    walk_at "dd"
    walk_at "dd"
    exact AH (w:=(CA K ω X E.rt Dp)) (Dd:=fun _:Unit=>Dp (s3.2)) (s:=()) (fun v _=>(v,s3.2)) (GP (f:=id) (A1 (R:=(kW K)) (s3.1) rfl) tv_l) hP (fun F v s h=>(show GoV _ _ _ _ from h).drop (by walk_at "sub"))
  · intro hB6 F6 t6 x4 s3 n5 Nx hN6 hP
    unfold Jk at hP
    walk_at "dd"
    refine AB (BD (w:=(CA K ω X E.rt Dp)) (Dd:=fun (s:(List Int))=>(p2,(OLT (kH K)) (s3.1))::Dp s) (s:=s3.2) (Bq Cp (AQ (C5 (eval_cons (Ca (0:Rat) (by decide +kernel) (by decide +kernel)) fun _=>(eval_cons (Ca (0:Rat) (by decide +kernel) (by decide +kernel)) fun _=>(eval_cons (Ca (1:Rat) (by decide +kernel) (by decide +kernel)) fun _=>(eval_cons (EH (A0 (PH A9) fun _=>(A0 A9 fun _=>A2))) fun _=>(eval_cons (Ca (2:Rat) (by decide +kernel) (by decide +kernel)) fun _=>(eval_cons (EH (A0 (PH A9) fun _=>(A0 A9 fun _=>A2))) fun _=>(eval_cons (Ca (1 / 3:Rat) (by decide +kernel) (by decide +kernel)) fun _=>(eval_cons (EH (A0 (PH A9) fun _=>(A0 A9 fun _=>A2))) fun _=>eval_nil)))))))))) fun _=>(AG (fun _ _ _ _ h=>h) (Bor.cons B) (A0 (A1 (R:=fun _:Unit=>Is (.ref a)) () rfl) fun _=>(A0 A9 fun _=>A2)) (fun _=>by walk_at "sub"))) hP fun x7 hP=>?_)
    walk_at "dd"
    refine Ga (w:=(CA K ω X E.rt Dp)) (Ed n5 x7) (fun s8=>[some (Is (.ref a)),some ((kX K) Cw),some (Is (.ref p2)),some ((tD K eS) x4),some ((tD K eQ) x7.1)]) (fun s8=>(p2,(OLT (kH K)) (s8))::Dp (x7.2)) ?_ ?_
    · intro F9 t9 s8 hP
      unfold Ed at hP
      walk_at "dd"
      exact (hN6 _ t9 (s8,x7.2) hP).weak (by walk_at "sle") (by walk_at "sub")
    · intro hk9
      walk_at "dd"
      refine Bp (w:=(CA K ω X E.rt Dp)) (AN (JY KA (DH (A1 (R:=(tD K eQ)) (x7.1) rfl)) fun _=>A9)) hP ?_ ?_
      · intro hP
        walk_at "dd"
        refine MP (w:=(CA K ω X E.rt Dp)) (Dd:=fun _:Unit=>(p2,(OLT (kH K)) (s3.1))::Dp (x7.2)) (s:=()) (R:=(kH K)) (xs:=s3.1) (n:=2) rfl (Be (Rs:=fun x:(Tx×Rat)=>[(tD K eS) x.1,(tD K eQ) x.2]) (n:=2) (g:=fun (t:Tx×Rat×Unit)=>(t.1,t.2.1)) (A0 (R:=(tD K eS)) (Rs:=fun (t:Rat×Unit)=>[(tD K eQ) t.1]) (A1 (R:=(tD K eS)) (x4) rfl) fun _=>(A0 (R:=(tD K eQ)) (Rs:=fun (t:Unit)=>[]) (A1 (R:=(tD K eQ)) (x7.1) rfl) fun _=>A2)) (fun _=>rfl)) (at_n 0 fun _=>rfl) hP fun x10 hP=>?_
        walk_at "dd"
        exact ((hk9 _ (Same.refl _) x10.1) hP).weak (by walk_at "sle") (by walk_at "sub")
      · intro hP
        walk_at "dd"
        refine Aw ?_
        walk_at "dd"
        exact ((hk9 _ (Same.refl _) s3.1) hP).weak (by walk_at "sle") (by walk_at "sub")
theorem N9 (T:Txt K mg) (vs:List V) (H:Hp) (Q:VK) (X:XK) (h:Cn K ω vs H Q X):GE K ω X { nx:=fun _ H'=>Q .non H',rt:=Q } (L2.start IP vs) H:=
 Ck (fun x y F Dp k a E B hrt hnx hP=>by
  subst hrt
  exact N8 T B hnx hP) h
theorem Nq (K:jf):∀ vs H Q E,Cn K ω vs H Q E→vs.length=2:=FF fun _ _=>rfl
theorem R9 (T:Txt K mg) {A6:(List Int)} {Dp:(List Int)→Own} {k:Nat} {a:Addr} (B:Bor1 Dp k a (kQ K)) (hnx:∀ (F:Hp) (K:jf) G D1,GoV E.rt F (DN K) D1→Go E.nx F G D1) (hP:(Ag K ω X E.rt Dp).W F0 (GU A6)) :
    Go (J1 K ω X E) F0 [some (Is (.ref a)),none,none,none,none,none,none,none,none,none,none,none,none,none,none,none] (Dp A6):=by
  unfold GU at hP
  refine AB (BD (w:=(Ag K ω X E.rt Dp)) (Dd:=fun (s:(List Int))=>Dp s) (s:=A6) (Bq Cp (AQ (C5 (eval_cons (Ca (1:Rat) (by decide +kernel) (by decide +kernel)) fun _=>(eval_cons (EH (A0 (By A9 fun _=>(AG (fun _ _ _ _ h=>h) B (A0 (A1 (R:=fun _:Unit=>Is (.ref a)) () rfl) fun _=>(A0 (Gr (c:=(10000000:Int)) (by decide) (by decide +kernel)) fun _=>A2)) (fun _=>by walk_at "sub"))) fun _=>(A0 A9 fun _=>A2))) fun _=>eval_nil)))) fun _=>(Uy (FN KA (AG (fun _ _ _ _ h=>h) B (A0 (A1 (R:=fun _:Unit=>Is (.ref a)) () rfl) fun _=>(A0 A9 fun _=>A2)) (fun _=>by walk_at "sub")) fun _=>A9))) hP fun x1 hP=>?_)
  walk_at "dd"
  refine AB (BD (w:=(Ag K ω X E.rt Dp)) (Dd:=fun (s:(List Int))=>Dp s) (s:=x1.2) (Ax (fun _ _ _ _ h=>h) (fun s=>s) (A0 (AG (fun _ _ _ _ h=>h) B (A0 (A1 (R:=fun _:Unit=>Is (.ref a)) () rfl) fun _=>(A0 (AG (fun _ _ _ _ h=>h) B (A0 (A1 (R:=fun _:Unit=>Is (.ref a)) () rfl) fun _=>(A0 A9 fun _=>A2)) (fun _=>by walk_at "sub")) fun _=>(A0 A9 fun _=>(A0 A9 fun _=>A2)))) (fun _=>by walk_at "sub")) fun _=>(A0 (A1 (R:=(tD K eQ)) (x1.1) rfl) fun _=>A2)) (fun _=>by walk_at "sub")) hP fun x2 hP=>?_)
  walk_at "dd"
  refine AB (BD (w:=(Ag K ω X E.rt Dp)) (Dd:=fun (s:(List Int))=>Dp s) (s:=x2.2) (AG (fun _ _ _ _ h=>h) B (A0 (A1 (R:=fun _:Unit=>Is (.ref a)) () rfl) fun _=>(A0 (A1 (R:=(kR K)) (x2.1) rfl) fun _=>A2)) (fun _=>by walk_at "sub")) hP fun x3 hP=>?_)
  walk_at "dd"
  refine AB (Uu (w:=(Ag K ω X E.rt Dp)) (Dd:=fun (s:(List Int))=>Dp s) (s:=x3.2) (Gx:=fun (y:(Int×Int))=>[some (Is (.ref a)),some ((tD K eQ) x1.1),some ((kR K) x2.1),some ((kG K) x3.1),some ((tD K eI) y.1),some ((tD K eI) y.2),none,none,none,none,none,none,none,none,none,none]) (AG (fun _ _ _ _ h=>h) B (A0 (A1 (R:=fun _:Unit=>Is (.ref a)) () rfl) fun _=>A2) (fun _=>by walk_at "sub")) (fun _=>(CI (AF AE (AF AE Bk)) rfl)) hP fun x4 hP=>?_)
  walk_at "dd"
  refine AB (Br (w:=(Ag K ω X E.rt Dp)) (Ht (k:=(kM)) (Rk:=(kC K)) (Rv:=(tD K eQ))) hP fun x5 p6 hP=>?_)
  walk_at "dd"
  refine AB (Pd (w:=(Ag K ω X E.rt Dp)) (σt:=k8) (Dd:=fun (s:(List Int))=>(p6,(kI K ω) (x5))::Dp s) (s:=x4.2) (CK (AG (fun _ _ _ _ h=>h) (Bor.cons B) (A0 (A1 (R:=fun _:Unit=>Is (.ref a)) () rfl) fun _=>(A0 (A1 (R:=(tD K eI)) (x4.1.1) rfl) fun _=>A2)) (fun _=>by walk_at "sub"))) (fun s7=>[some (Is (.ref a)),some ((tD K eQ) x1.1),some ((kR K) x2.1),some ((kG K) x3.1),some ((tD K eI) x4.1.1),some ((tD K eI) x4.1.2),some (Is (.ref p6)),none,none,none,none,none,none,none,none,none]) (fun s7=>(p6,(kI K ω) (s7.1))::Dp (s7.2)) (fun s1=>(x5,s1)) (fun s7 x8=>[some (Is (.ref a)),some ((tD K eQ) x1.1),some ((kR K) x2.1),some ((kG K) x3.1),some ((tD K eI) x4.1.1),some ((tD K eI) x4.1.2),some (Is (.ref p6)),some ((kC K) x8),none,none,none,none,none,none,none,none]) hP (fun _=>by walk_at "sle") (fun _=>by walk_at "sub") (fun _=>trivial) (fun _ _=>AE) ?_ ?_)
  · intro F10 t10 s7 hP
    unfold J5 at hP
    walk_at "dd"
    refine AB ?_
    walk_at "dd"
    refine Py (j:=0) (i:=6) (k:=(kM)) (Rk:=(kC K)) (Rv:=(tD K eQ)) rfl rfl ?_
    walk_at "dd"
    refine Ao (w:=(Ag K ω X E.rt Dp)) (AQ (VF (fun x=>d_T (AC ((d_b (e:=eS)) x.1) (AC ((d_b (e:=eS)) x.2) Aa))) Gu (aM (so_2 so_S so_S)) (by decide) (A1 (R:=(kF K ω)) (s7.1) rfl))) hP fun x11 hP=>?_
    walk_at "dd"
    refine AB (Br (w:=(Ag K ω X E.rt Dp)) (CB (R:=(kB K))) hP fun x12 p13 hP=>?_)
    walk_at "dd"
    refine AB (BA (w:=(Ag K ω X E.rt Dp)) (σt:=k9) (Dj (A1 (R:=(tD K eI)) (x4.1.2) rfl)) (fun s15=>[some (Is (.ref a)),some ((tD K eQ) x1.1),some ((kR K) x2.1),some ((kG K) x3.1),some ((tD K eI) x4.1.1),some ((tD K eI) x4.1.2),some ((kF K ω) s7.1),none,some ((kZ K) x11),some (Is (.ref p13)),none,none,none,none,none,none]) (fun s15=>(p13,(OLT (kB K)) (s15.1))::Dp (s15.2)) (x12,s7.2) (fun s15 x16=>[some (Is (.ref a)),some ((tD K eQ) x1.1),some ((kR K) x2.1),some ((kG K) x3.1),some ((tD K eI) x4.1.1),some ((tD K eI) x4.1.2),some ((kF K ω) s7.1),none,some ((kZ K) x11),some (Is (.ref p13)),some ((tD K eI) x16),none,none,none,none,none]) hP (by walk_at "sle") (by walk_at "sub") (fun _=>trivial) (fun _ _=>AE) ?_ ?_)
    · intro F18 t18 s15 hP
      unfold J3 at hP
      walk_at "dd"
      refine Fp (K:=K) (k:=0) (i:=9) (R:=(kB K)) rfl rfl ?_
      walk_at "dd"
      walk_at "dd"
      exact AH (w:=(Ag K ω X E.rt Dp)) (Dd:=fun _:Unit=>Dp (s15.2)) (s:=()) (fun v _=>(v,s15.2)) (Be (Rs:=fun x:((List jg)×jh×ji)=>[(kK K) x.1,(kG K) x.2.1,(kF K ω) x.2.2]) (n:=3) (g:=fun (t:(List jg)×jh×ji×Unit)=>(t.1,t.2.1,t.2.2.1)) (A0 (R:=(kK K)) (Rs:=fun (t:jh×ji×Unit)=>[(kG K) t.1,(kF K ω) t.2.1]) (A1 (R:=(kK K)) (s15.1) rfl) fun _=>(A0 (R:=(kG K)) (Rs:=fun (t:ji×Unit)=>[(kF K ω) t.1]) (A1 (R:=(kG K)) (x3.1) rfl) fun _=>(A0 (R:=(kF K ω)) (Rs:=fun (t:Unit)=>[]) (A1 (R:=(kF K ω)) (s7.1) rfl) fun _=>A2))) (fun _=>rfl)) hP (fun F v s h=>(show GoV _ _ _ _ from h).drop (by walk_at "sub"))
    · intro hB18 F18 t18 x16 s15 n17 Nx hN18 hP
      unfold J4 at hP
      walk_at "dd"
      refine AB (BD (w:=(Ag K ω X E.rt Dp)) (Dd:=fun (s:(List Int))=>(p13,(OLT (kB K)) (s15.1))::Dp s) (s:=s15.2) (Bq Cp (A1 (R:=(kZ K)) (x11) rfl) fun _=>(AG (fun _ _ _ _ h=>h) (Bor.cons B) (A0 (A1 (R:=fun _:Unit=>Is (.ref a)) () rfl) fun _=>(A0 (A1 (R:=(tD K eI)) (x4.1.1) rfl) fun _=>A2)) (fun _=>by walk_at "sub"))) hP fun x19 hP=>?_)
      walk_at "dd"
      refine AB (BD (w:=(Ag K ω X E.rt Dp)) (Dd:=fun (s:(List Int))=>(p13,(OLT (kB K)) (s15.1))::Dp s) (s:=x19.2) (Bq Cp (A1 (R:=(kZ K)) (x11) rfl) fun _=>(AG (fun _ _ _ _ h=>h) (Bor.cons B) (A0 (A1 (R:=fun _:Unit=>Is (.ref a)) () rfl) fun _=>(A0 (A1 (R:=(tD K eI)) (x4.1.1) rfl) fun _=>A2)) (fun _=>by walk_at "sub"))) hP fun x20 hP=>?_)
      walk_at "dd"
      refine AB (BD (w:=(Ag K ω X E.rt Dp)) (Dd:=fun (s:(List Int))=>(p13,(OLT (kB K)) (s15.1))::Dp s) (s:=x20.2) (AG (fun _ _ _ _ h=>h) (Bor.cons B) (A0 (A1 (R:=fun _:Unit=>Is (.ref a)) () rfl) fun _=>(A0 (Jb dw_Z (A1 (R:=(kG K)) (x3.1) rfl)) fun _=>A2)) (fun _=>by walk_at "sub")) hP fun x21 hP=>?_)
      walk_at "dd"
      refine AB (BD (w:=(Ag K ω X E.rt Dp)) (Dd:=fun (s:(List Int))=>(p13,(OLT (kB K)) (s15.1))::Dp s) (s:=x21.2) (Ax (fun _ _ _ _ h=>h) (fun s=>s) (A0 (AG (fun _ _ _ _ h=>h) (Bor.cons B) (A0 (A1 (R:=fun _:Unit=>Is (.ref a)) () rfl) fun _=>A2) (fun _=>by walk_at "sub")) fun _=>(A0 (A1 (R:=(tD K eQ)) (x1.1) rfl) fun _=>A2)) (fun _=>by walk_at "sub")) hP fun x22 hP=>?_)
      walk_at "dd"
      refine AB (BD (w:=(Ag K ω X E.rt Dp)) (Dd:=fun (s:(List Int))=>(p13,(OLT (kB K)) (s15.1))::Dp s) (s:=x22.2) (Bq Cp (AQ (C5 (eval_cons (Ca (0:Rat) (by decide +kernel) (by decide +kernel)) fun _=>(eval_cons (EH (A0 (MN (DH (A1 (R:=(tD K eQ)) (x22.1) rfl))) fun _=>(A0 (Cd (A1 (R:=(tD K eQ)) (x22.1) rfl)) fun _=>A2))) fun _=>eval_nil)))) fun _=>(AG (fun _ _ _ _ h=>h) (Bor.cons B) (A0 (A1 (R:=fun _:Unit=>Is (.ref a)) () rfl) fun _=>(A0 A9 fun _=>A2)) (fun _=>by walk_at "sub"))) hP fun x23 hP=>?_)
      walk_at "dd"
      refine AB (Ao (w:=(Ag K ω X E.rt Dp)) (Ax (fun _ _ _ _ h=>h) (fun _=>x23.2) (A0 (A1 (R:=(tD K eQ)) (x23.1) rfl) fun _=>(A0 (Ax (fun _ _ _ _ h=>h) (fun _=>x23.2) (A0 (Be (Rs:=fun x:(Rat×jh)=>[(tD K eQ) x.1,(kO K) x.2]) (n:=2) (g:=fun (t:Rat×jh×Unit)=>(t.1,t.2.1)) (A0 (R:=(tD K eQ)) (Rs:=fun (t:jh×Unit)=>[(kO K) t.1]) (Ca (0:Rat) (by decide +kernel) (by decide +kernel)) fun _=>(A0 (R:=(kO K)) (Rs:=fun (t:Unit)=>[]) (A1 (R:=(kO K)) (x21.1) rfl) fun _=>A2)) (fun _=>rfl)) fun _=>(A0 (A1 (R:=(kG K)) (x3.1) rfl) fun _=>A2)) (fun _=>by walk_at "sub")) fun _=>A2)) (fun _=>by walk_at "sub")) hP fun x24 hP=>?_)
      walk_at "dd"
      refine MP (w:=(Ag K ω X E.rt Dp)) (Dd:=fun _:Unit=>(p13,(OLT (kB K)) (s15.1))::Dp (x23.2)) (s:=()) (R:=(kB K)) (xs:=s15.1) (n:=9) rfl (Be (Rs:=fun x:jg=>[(kC K) x.1,(kC K) x.2.1,(kE K) x.2.2]) (n:=3) (g:=fun (t:(Tx×Tx)×(Tx×Tx)×(Rat×jh)×Unit)=>(t.1,t.2.1,t.2.2.1)) (A0 (R:=(kC K)) (Rs:=fun (t:(Tx×Tx)×(Rat×jh)×Unit)=>[(kC K) t.1,(kE K) t.2.1]) (A1 (R:=(kC K)) (x19.1) rfl) fun _=>(A0 (R:=(kC K)) (Rs:=fun (t:(Rat×jh)×Unit)=>[(kE K) t.1]) (A1 (R:=(kC K)) (x20.1) rfl) fun _=>(A0 (R:=(kE K)) (Rs:=fun (t:Unit)=>[]) (Be (Rs:=fun x:(Rat×jh)=>[(tD K eQ) x.1,(kO K) x.2]) (n:=2) (g:=fun (t:Rat×jh×Unit)=>(t.1,t.2.1)) (A0 (R:=(tD K eQ)) (Rs:=fun (t:jh×Unit)=>[(kO K) t.1]) (Ax (fun _ _ _ _ h=>h) (fun _=>x23.2) (A0 (A1 (R:=(tD K eQ)) (x24) rfl) fun _=>(A0 (Ax (fun _ _ _ _ h=>h) (fun _=>x23.2) (A0 (B1 (fun x=>d_T (AC ((d_b (e:=eS)) x.1) (AC ((d_b (e:=eS)) x.2) Aa))) Gu (A1 (R:=(kF K ω)) (s7.1) rfl) fun _=>(A1 (R:=(kC K)) (x20.1) rfl)) fun _=>(A0 (B1 (fun x=>d_T (AC ((d_b (e:=eS)) x.1) (AC ((d_b (e:=eS)) x.2) Aa))) Gu (A1 (R:=(kF K ω)) (s7.1) rfl) fun _=>(A1 (R:=(kC K)) (x19.1) rfl)) fun _=>A2)) (fun _=>by walk_at "sub")) fun _=>A2)) (fun _=>by walk_at "sub")) fun _=>(A0 (R:=(kO K)) (Rs:=fun (t:Unit)=>[]) (A1 (R:=(kO K)) (x21.1) rfl) fun _=>A2)) (fun _=>rfl)) fun _=>A2))) (fun _=>rfl)) (at_n 0 fun _=>rfl) hP fun x25 hP=>?_
      walk_at "dd"
      exact (hN18 _ (Same.refl _) (x25.1,x23.2) hP).weak (by walk_at "sle") (by walk_at "sub")
  · intro hB10 F10 t10 x8 s7 n9 Nx hN10 hP
    unfold J6 at hP
    walk_at "dd"
    refine Hu (w:=(Ag K ω X E.rt Dp)) (Dd:=fun (s:(List Int))=>(p6,(kI K ω) (s7.1))::Dp s) (s:=s7.2) (k:=(kM)) (Rk:=(kC K)) (Rv:=(tD K eQ)) (m:=s7.1) (hd:=(fun x=>d_T (AC ((d_b (e:=eS)) x.1) (AC ((d_b (e:=eS)) x.2) Aa)))) (n:=6) rfl (Ax (fun _ _ _ _ h=>h) (fun s=>s) (A0 (AG (fun _ _ _ _ h=>h) (Bor.cons B) (A0 (A1 (R:=fun _:Unit=>Is (.ref a)) () rfl) fun _=>A2) (fun _=>by walk_at "sub")) fun _=>(A0 (A1 (R:=(tD K eQ)) (x1.1) rfl) fun _=>A2)) (fun _=>by walk_at "sub")) (fun _=>(A1 (R:=(kC K)) (x8) rfl)) (at_n 0 fun _=>rfl) hP fun x44 hP=>?_
    walk_at "dd"
    exact (hN10 _ (Same.refl _) (x44.1,x44.2) hP).weak (by walk_at "sle") (by walk_at "sub")
theorem RA (T:Txt K mg) (vs:List V) (H:Hp) (Q:VK) (X:XK) (h:El K ω vs H Q X):J1 K ω X { nx:=fun _ H'=>Q .non H',rt:=Q } (L2.start Kt vs) H:=
 Ck (fun x y F Dp k a E B hrt hnx hP=>by
  subst hrt
  exact R9 T B hnx hP) h
theorem SC (K:jf):∀ vs H Q E,El K ω vs H Q E→vs.length=1:=FF fun _ _=>rfl
theorem Ox (T:Txt K mg) {vgaps:(List jg)} {A5:jh} (hnx:∀ (F:Hp) (K:jf) G D1,GoV E.rt F (DN K) D1→Go E.nx F G D1) (hP:(BR K ω X E.rt D0).W F0 (LA vgaps A5)) :
    Go (Hb K ω X E) F0 [some ((kK K) vgaps),some ((kG K) A5),none,none,none,none,none,none] D0:=by
  unfold LA at hP
  refine AB (Br (w:=(BR K ω X E.rt D0)) (Ht (k:=(kM)) (Rk:=(kC K)) (Rv:=(tD K eQ))) hP fun x1 p2 hP=>?_)
  walk_at "dd"
  refine AB (BA (w:=(BR K ω X E.rt D0)) (σt:=ji) (CK (A1 (R:=(kK K)) (vgaps) rfl)) (fun s3=>[some ((kK K) vgaps),some ((kG K) A5),some (Is (.ref p2)),none,none,none,none,none]) (fun s3=>(p2,(kI K ω) (s3))::D0) x1 (fun s3 x4=>[some ((kK K) vgaps),some ((kG K) A5),some (Is (.ref p2)),some ((kC K) x4.1),some ((kC K) x4.2.1),some ((kE K) x4.2.2),none,none]) hP (by walk_at "sle") (by walk_at "sub") (fun _=>trivial) (fun _ _=>(CI (AF AE (AF AE (AF AE Bk))) rfl)) ?_ ?_)
  · intro F6 t6 s3 hP
    unfold Lp at hP
    walk_at "dd"
    refine AB (BA (w:=(BR K ω X E.rt D0)) (σt:=ji) (Dj (aY (fun x=>d_T (AC ((d_b (e:=eS)) x.1) (AC ((d_b (e:=eS)) x.2) Aa))) (LO (k:=(kM)) (Rk:=(kC K)) (Rv:=(tD K eQ)) (m:=s3) (at_n 0 fun _=>rfl)) (A1 (R:=fun _:Unit=>Is (.ref p2)) () rfl))) (fun s8=>[some ((kK K) vgaps),some ((kG K) A5),some (Is (.ref p2)),none,none,none,none,none]) (fun s8=>(p2,(kI K ω) (s8))::D0) s3 (fun s8 x9=>[some ((kK K) vgaps),some ((kG K) A5),some (Is (.ref p2)),none,none,none,some ((tD K eI) x9),none]) hP (by walk_at "sle") (by walk_at "sub") (fun _=>trivial) (fun _ _=>AE) ?_ ?_)
    · intro F11 t11 s8 hP
      unfold Ll at hP
      walk_at "dd"
      refine Py (j:=0) (i:=2) (k:=(kM)) (Rk:=(kC K)) (Rv:=(tD K eQ)) rfl rfl ?_
      walk_at "dd"
      exact AH (w:=(BR K ω X E.rt D0)) (Dd:=fun _:Unit=>D0) (s:=()) (fun v _=>v) (A1 (R:=(kF K ω)) (s8) rfl) hP (fun F v s h=>(show GoV _ _ _ _ from h).drop (by walk_at "sub"))
    · intro hB11 F11 t11 x9 s8 n10 Nx hN11 hP
      unfold Lo at hP
      walk_at "dd"
      refine BA (w:=(BR K ω X E.rt D0)) (σt:=ji) (CK (A1 (R:=(kK K)) (vgaps) rfl)) (fun s12=>[some ((kK K) vgaps),some ((kG K) A5),some (Is (.ref p2)),none,none,none,some ((tD K eI) x9),none]) (fun s12=>(p2,(kI K ω) (s12))::D0) s8 (fun s12 x13=>[some ((kK K) vgaps),some ((kG K) A5),some (Is (.ref p2)),some ((kC K) x13.1),some ((kC K) x13.2.1),some ((kE K) x13.2.2),some ((tD K eI) x9),none]) hP (by walk_at "sle") (by walk_at "sub") (fun _=>trivial) (fun _ _=>(CI (AF AE (AF AE (AF AE Bk))) rfl)) ?_ ?_
      · intro F15 t15 s12 hP
        unfold Lm at hP
        walk_at "dd"
        exact (hN11 _ t15 s12 hP).weak (by walk_at "sle") (by walk_at "sub")
      · intro hB15 F15 t15 x13 s12 n14 Nx hN15 hP
        unfold Ln at hP
        walk_at "dd"
        refine AB (Ao (w:=(BR K ω X E.rt D0)) (AD (fun _ _ _ _ h=>h) (A0 (B1 (fun x=>d_T (AC ((d_b (e:=eS)) x.1) (AC ((d_b (e:=eS)) x.2) Aa))) (LO (k:=(kM)) (Rk:=(kC K)) (Rv:=(tD K eQ)) (m:=s12) (at_n 0 fun _=>rfl)) (A1 (R:=fun _:Unit=>Is (.ref p2)) () rfl) fun _=>(A1 (R:=(kC K)) (x13.1) rfl)) fun _=>(A0 (AD (fun _ _ _ _ h=>h) (A0 (A1 (R:=(kE K)) (x13.2.2) rfl) fun _=>(A0 (A1 (R:=(kG K)) (A5) rfl) fun _=>A2)) (fun _=>by walk_at "sub")) fun _=>A2)) (fun _=>by walk_at "sub")) hP fun x16 hP=>?_)
        walk_at "dd"
        refine Ga (w:=(BR K ω X E.rt D0)) (GV n14) (fun s17=>[some ((kK K) vgaps),some ((kG K) A5),some (Is (.ref p2)),some ((kC K) x13.1),some ((kC K) x13.2.1),some ((kE K) x13.2.2),some ((tD K eI) x9),some ((tD K eQ) x16)]) (fun s17=>(p2,(kI K ω) (s17))::D0) ?_ ?_
        · intro F18 t18 s17 hP
          unfold GV at hP
          walk_at "dd"
          exact (hN15 _ t18 s17 hP).weak (by walk_at "sle") (by walk_at "sub")
        · intro hk18
          walk_at "dd"
          refine Bp (w:=(BR K ω X E.rt D0)) (FM (AD (fun _ _ _ _ h=>h) (A0 (B1 (fun x=>d_T (AC ((d_b (e:=eS)) x.1) (AC ((d_b (e:=eS)) x.2) Aa))) (LO (k:=(kM)) (Rk:=(kC K)) (Rv:=(tD K eQ)) (m:=s12) (at_n 0 fun _=>rfl)) (A1 (R:=fun _:Unit=>Is (.ref p2)) () rfl) fun _=>(A1 (R:=(kC K)) (x13.2.1) rfl)) fun _=>(A0 (A1 (R:=(tD K eQ)) (x16) rfl) fun _=>A2)) (fun _=>by walk_at "sub"))) hP ?_ ?_
          · intro hP
            walk_at "dd"
            refine Hu (w:=(BR K ω X E.rt D0)) (Dd:=fun _:Unit=>(p2,(kI K ω) (s12))::D0) (s:=()) (k:=(kM)) (Rk:=(kC K)) (Rv:=(tD K eQ)) (m:=s12) (hd:=(fun x=>d_T (AC ((d_b (e:=eS)) x.1) (AC ((d_b (e:=eS)) x.2) Aa)))) (n:=2) rfl (A1 (R:=(tD K eQ)) (x16) rfl) (fun _=>(A1 (R:=(kC K)) (x13.2.1) rfl)) (at_n 0 fun _=>rfl) hP fun x19 hP=>?_
            walk_at "dd"
            exact ((hk18 _ (Same.refl _) x19.1) hP).weak (by walk_at "sle") (by walk_at "sub")
          · intro hP
            walk_at "dd"
            refine Aw ?_
            walk_at "dd"
            exact ((hk18 _ (Same.refl _) s12) hP).weak (by walk_at "sle") (by walk_at "sub")
  · intro hB6 F6 t6 x4 s3 n5 Nx hN6 hP
    unfold Lq at hP
    walk_at "dd"
    refine AB (Hu (w:=(BR K ω X E.rt D0)) (Dd:=fun _:Unit=>(p2,(kI K ω) (s3))::D0) (s:=()) (k:=(kM)) (Rk:=(kC K)) (Rv:=(tD K eQ)) (m:=s3) (hd:=(fun x=>d_T (AC ((d_b (e:=eS)) x.1) (AC ((d_b (e:=eS)) x.2) Aa)))) (n:=2) rfl (Ca (0:Rat) (by decide +kernel) (by decide +kernel)) (fun _=>(A1 (R:=(kC K)) (x4.1) rfl)) (at_n 0 fun _=>rfl) hP fun x25 hP=>?_)
    walk_at "dd"
    refine Hu (w:=(BR K ω X E.rt D0)) (Dd:=fun _:Unit=>(p2,(kI K ω) (x25.1))::D0) (s:=()) (k:=(kM)) (Rk:=(kC K)) (Rv:=(tD K eQ)) (m:=x25.1) (hd:=(fun x=>d_T (AC ((d_b (e:=eS)) x.1) (AC ((d_b (e:=eS)) x.2) Aa)))) (n:=2) rfl (Ca (0:Rat) (by decide +kernel) (by decide +kernel)) (fun _=>(A1 (R:=(kC K)) (x4.2.1) rfl)) (at_n 0 fun _=>rfl) hP fun x26 hP=>?_
    walk_at "dd"
    exact (hN6 _ (Same.refl _) x26.1 hP).weak (by walk_at "sle") (by walk_at "sub")
theorem Oy (T:Txt K mg) (vs:List V) (H:Hp) (Q:VK) (X:XK) (h:E6 K ω vs H Q X):Hb K ω X { nx:=fun _ H'=>Q .non H',rt:=Q } (L2.start Jy vs) H:=
 AO (fun x F D E hrt hnx hP=>by
  subst hrt
  exact Ox T hnx hP) h
theorem RB (K:jf):∀ vs H Q E,E6 K ω vs H Q E→vs.length=2:=Ak fun _=>rfl
theorem Oz (T:Txt K mg) {Bx:jg} {A5:jh} {BH:ji} {E9:Addr} {k_vplaces:Nat} (Eo:D0[k_vplaces]?=some (E9,(kI K ω) BH)) (hnx:∀ (F:Hp) (K:jf) G D1,GoV E.rt F (DN K) D1→Go E.nx F G D1) (hP:(Mw K ω X E.rt D0).W F0 (LP Bx A5 BH)) :
    Go (FT K ω X E) F0 [some ((kB K) Bx),some ((kG K) A5),some (Is (.ref E9))] D0:=by
  unfold LP at hP
  exact AH (w:=(Mw K ω X E.rt D0)) (Dd:=fun _:Unit=>D0) (s:=()) (fun v _=>v) (AD (fun _ _ _ _ h=>h) (A0 (AD (fun _ _ _ _ h=>h) (A0 (B1 (fun x=>d_T (AC ((d_b (e:=eS)) x.1) (AC ((d_b (e:=eS)) x.2) Aa))) (LO (k:=(kM)) (Rk:=(kC K)) (Rv:=(tD K eQ)) (m:=BH) (fun _=>Eo)) (A1 (R:=fun _:Unit=>Is (.ref E9)) () rfl) fun _=>(BC (i:=1) (Rs:=fun x:jg=>[(kC K) x.1,(kC K) x.2.1,(kE K) x.2.2]) (R':=(kC K)) (f:=fun x=>x.2.1) (A1 (R:=(kB K)) (Bx) rfl) fun _=>rfl)) fun _=>(A0 (B1 (fun x=>d_T (AC ((d_b (e:=eS)) x.1) (AC ((d_b (e:=eS)) x.2) Aa))) (LO (k:=(kM)) (Rk:=(kC K)) (Rv:=(tD K eQ)) (m:=BH) (fun _=>Eo)) (A1 (R:=fun _:Unit=>Is (.ref E9)) () rfl) fun _=>(BC (i:=0) (Rs:=fun x:jg=>[(kC K) x.1,(kC K) x.2.1,(kE K) x.2.2]) (R':=(kC K)) (f:=fun x=>x.1) (A1 (R:=(kB K)) (Bx) rfl) fun _=>rfl)) fun _=>A2)) (fun _=>by walk_at "sub")) fun _=>(A0 (AD (fun _ _ _ _ h=>h) (A0 (BC (i:=2) (Rs:=fun x:jg=>[(kC K) x.1,(kC K) x.2.1,(kE K) x.2.2]) (R':=(kE K)) (f:=fun x=>x.2.2) (A1 (R:=(kB K)) (Bx) rfl) fun _=>rfl) fun _=>(A0 (A1 (R:=(kG K)) (A5) rfl) fun _=>A2)) (fun _=>by walk_at "sub")) fun _=>A2)) (fun _=>by walk_at "sub")) hP (fun F v s h=>(show GoV _ _ _ _ from h).drop (by walk_at "sub"))
theorem P0 (T:Txt K mg) (vs:List V) (H:Hp) (Q:VK) (X:XK) (h:JC K ω vs H Q X):FT K ω X { nx:=fun _ H'=>Q .non H',rt:=Q } (L2.start IR vs) H:=
 Pm (fun x F D E hpl hrt hnx hP=>by
  subst hrt
  obtain ⟨⟨_,Eo⟩,_⟩:=hpl
  exact Oz T Eo hnx hP) h
theorem RC (K:jf):∀ vs H Q E,JC K ω vs H Q E→vs.length=3:=Xx fun _=>rfl
theorem P1 (T:Txt K mg) {Bx:jg} {A5:jh} {BH:ji} (hnx:∀ (F:Hp) (K:jf) G D1,GoV E.rt F (DN K) D1→Go E.nx F G D1) (hP:(My K ω X E.rt D0).W F0 (LP Bx A5 BH)) :
    Go (FT K ω X E) F0 [some ((kB K) Bx),some ((kG K) A5),some ((kF K ω) BH)] D0:=by
  unfold LP at hP
  exact AH (w:=(My K ω X E.rt D0)) (Dd:=fun _:Unit=>D0) (s:=()) (fun v _=>v) (AD (fun _ _ _ _ h=>h) (A0 (AD (fun _ _ _ _ h=>h) (A0 (B1 (fun x=>d_T (AC ((d_b (e:=eS)) x.1) (AC ((d_b (e:=eS)) x.2) Aa))) Gu (A1 (R:=(kF K ω)) (BH) rfl) fun _=>(BC (i:=1) (Rs:=fun x:jg=>[(kC K) x.1,(kC K) x.2.1,(kE K) x.2.2]) (R':=(kC K)) (f:=fun x=>x.2.1) (A1 (R:=(kB K)) (Bx) rfl) fun _=>rfl)) fun _=>(A0 (B1 (fun x=>d_T (AC ((d_b (e:=eS)) x.1) (AC ((d_b (e:=eS)) x.2) Aa))) Gu (A1 (R:=(kF K ω)) (BH) rfl) fun _=>(BC (i:=0) (Rs:=fun x:jg=>[(kC K) x.1,(kC K) x.2.1,(kE K) x.2.2]) (R':=(kC K)) (f:=fun x=>x.1) (A1 (R:=(kB K)) (Bx) rfl) fun _=>rfl)) fun _=>A2)) (fun _=>by walk_at "sub")) fun _=>(A0 (AD (fun _ _ _ _ h=>h) (A0 (BC (i:=2) (Rs:=fun x:jg=>[(kC K) x.1,(kC K) x.2.1,(kE K) x.2.2]) (R':=(kE K)) (f:=fun x=>x.2.2) (A1 (R:=(kB K)) (Bx) rfl) fun _=>rfl) fun _=>(A0 (A1 (R:=(kG K)) (A5) rfl) fun _=>A2)) (fun _=>by walk_at "sub")) fun _=>A2)) (fun _=>by walk_at "sub")) hP (fun F v s h=>(show GoV _ _ _ _ from h).drop (by walk_at "sub"))
theorem P2 (T:Txt K mg) (vs:List V) (H:Hp) (Q:VK) (X:XK) (h:JD K ω vs H Q X):FT K ω X { nx:=fun _ H'=>Q .non H',rt:=Q } (L2.start IR vs) H:=
 AO (fun x F D E hrt hnx hP=>by
  subst hrt
  exact P1 T hnx hP) h
theorem RD (K:jf):∀ vs H Q E,JD K ω vs H Q E→vs.length=3:=Ak fun _=>rfl
theorem SD (T:Txt K mg) (vs:List V) (H:Hp) (Q:VK) (X:XK) (h:EW K ω vs H Q X):FT K ω X { nx:=fun _ H'=>Q .non H',rt:=Q } (L2.start IR vs) H:=by
 rcases h with h | h
 ·exact P0 T vs H Q X h
 ·exact P2 T vs H Q X h
theorem UW (K:jf):∀ vs H Q E,EW K ω vs H Q E→vs.length=3:=fun vs H Q E h=>by
 rcases h with h | h
 ·exact RC K vs H Q E h
 ·exact RD K vs H Q E h
theorem P3 (T:Txt K mg) {vgaps:(List jg)} {A5:jh} {Ar:ji} (hnx:∀ (F:Hp) (K:jf) G D1,GoV E.rt F (DN K) D1→Go E.nx F G D1) (hP:(AJ K ω X E.rt D0).W F0 (EN vgaps A5 Ar)) :
    Go (Hc K ω X E) F0 [some ((kK K) vgaps),some ((kG K) A5),some ((kF K ω) Ar),none,none,none,none,none,none,none,none,none] D0:=by
  unfold EN at hP
  refine AB (Ao (w:=(AJ K ω X E.rt D0)) (AD (fun _ _ _ _ h=>h) (A0 (A1 (R:=(kK K)) (vgaps) rfl) fun _=>(A0 (A1 (R:=(kG K)) (A5) rfl) fun _=>A2)) (fun _=>by walk_at "sub")) hP fun x1 hP=>?_)
  walk_at "dd"
  refine AB (Ao (w:=(AJ K ω X E.rt D0)) (AQ (C5 (eval_cons (MS (R':=(SU (kK K) (kG K))) (fun y:(List jg)=>((Sum.inl y):jq)) (AQ (Ya Cp (A1 (R:=(kK K)) (vgaps) rfl))) (fun _ _ _ h=>h)) fun _=>(eval_cons (MS (R':=(SU (kK K) (kG K))) (fun y:jh=>((Sum.inr y):jq)) (Sf (V7 dw_Z (A1 (R:=(kG K)) (A5) rfl))) (fun _ _ _ h=>h)) fun _=>eval_nil)))) hP fun x2 hP=>?_)
  walk_at "dd"
  refine AB (Br (w:=(AJ K ω X E.rt D0)) (JZ (fun _ _ _ _ h=>h) (A0 (PJ (R':=(kK K)) (fun x:jq=>match x with | Sum.inl y=>(some y:Option (List jg)) | _=>none) (Bq Cp (A1 (R:=(kL K)) (x2) rfl) fun _=>A9) (fun x y v F e h=>by rcases x with x | x <;> first | (cases e;exact h) | cases e)) fun _=>(A0 (PJ (R':=(kG K)) (fun x:jq=>match x with | Sum.inr y=>(some y:Option jh) | _=>none) (Bq Cp (A1 (R:=(kL K)) (x2) rfl) fun _=>A9) (fun x y v F e h=>by rcases x with x | x <;> first | (cases e;exact h) | cases e)) fun _=>A2)) (fun _=>by walk_at "sub")) hP fun x3 p4 hP=>?_)
  walk_at "dd"
  refine AB (Bp (w:=(AJ K ω X E.rt D0)) (Pc (Gq (FM (ai (n:="dict") (b:=true) (LO (k:=(kM)) (Rk:=(kC K)) (Rv:=(tD K eQ)) (m:=x3) (at_n 0 fun _=>rfl)) (A1 (R:=fun _:Unit=>Is (.ref p4)) () rfl) (by decide +kernel)))) fun _=>(Pc (AN (ah LN (fun x=>d_T (AC ((d_b (e:=eS)) x.1) (AC ((d_b (e:=eS)) x.2) Aa))) (d_b (e:=eQ)) (LO (k:=(kM)) (Rk:=(kC K)) (Rv:=(tD K eQ)) (m:=x3) (at_n 0 fun _=>rfl)) Gu (A1 (R:=fun _:Unit=>Is (.ref p4)) () rfl) fun _=>(A1 (R:=(kF K ω)) (x1) rfl))) fun _=>(AN (aC (fH (gK (Xs (gI (Ny Ep Ep) (Ny Ep Ep) (Ny LN (gJ (Ny Ep LN))))) (d_L (R:=(kB K)) (e:=(e3 (e2 eS eS) (e2 eS eS) (e2 eQ (eV (e2 eS eQ))))) (fun x=>d_T (AC ((fun x=>d_T (AC ((d_b (e:=eS)) x.1) (AC ((d_b (e:=eS)) x.2) Aa))) x.1) (AC ((fun x=>d_T (AC ((d_b (e:=eS)) x.1) (AC ((d_b (e:=eS)) x.2) Aa))) x.2.1) (AC ((fun x=>d_T (AC ((d_b (e:=eQ)) x.1) (AC ((d_V (R:=(kH K)) (e:=(e2 eS eQ)) (fun x=>d_T (AC ((d_b (e:=eS)) x.1) (AC ((d_b (e:=eQ)) x.2) Aa)))) x.2) Aa))) x.2.2) Aa)))))) (fG (k:=kS) LN (d_b (e:=eQ)))) (A1 (R:=(kL K)) (x2) rfl) fun _=>(AQ (C5 (eval_cons (MS (R':=(SU (kK K) (kG K))) (fun y:(List jg)=>((Sum.inl y):jq)) (A1 (R:=(kK K)) (vgaps) rfl) (fun _ _ _ h=>h)) fun _=>(eval_cons (MS (R':=(SU (kK K) (kG K))) (fun y:jh=>((Sum.inr y):jq)) (A1 (R:=(kG K)) (A5) rfl) (fun _ _ _ h=>h)) fun _=>eval_nil)))))))) hP ?_ ?_)
  · intro hP
    walk_at "dd"
    exact AH (w:=(AJ K ω X E.rt D0)) (Dd:=fun _:Unit=>(p4,(kI K ω) (x3))::D0) (s:=()) (fun v _=>v) Hq hP (fun F v s h=>(show GoV _ _ _ _ from h).drop (by walk_at "sub"))
  · intro hP
    walk_at "dd"
    refine Aw ?_
    walk_at "dd"
    refine AB (Q6 (j:=0) rfl fun od a' kvs=>?_)
    walk_at "dd"
    walk_at "dd"
    refine BA (w:=(AJ K ω X E.rt D0)) (σt:=Unit) (Je (m:=x3) (Wi rfl) (at_n 0 fun _=>rfl)) (fun s5=>[some ((kK K) vgaps),some ((kG K) A5),some ((kF K ω) Ar),some ((kF K ω) x1),some ((kL K) x2),some (Is (.ref p4)),none,none,none,none,none,none]) (fun s5=>(p4,(OZH K ω (kM) (kC K) (tD K eQ) (x3) od a' kvs))::D0) () (fun s5 x6=>[some ((kK K) vgaps),some ((kG K) A5),some ((kF K ω) Ar),some ((kF K ω) x1),some ((kL K) x2),some (Is (.ref p4)),some ((kC K) x6),none,none,none,none,none]) hP (by walk_at "sle") (by walk_at "sub") (Xy (at_n 0 fun _=>rfl)) (fun _ _=>AE) ?_ ?_
    · intro F8 t8 s5 hP
      unfold HG at hP
      walk_at "dd"
      refine Lg (j:=0) rfl ?_
      walk_at "dd"
      walk_at "dd"
      refine AB (Ao (w:=(AJ K ω X E.rt D0)) (Ca (0:Rat) (by decide +kernel) (by decide +kernel)) hP fun x9 hP=>?_)
      walk_at "dd"
      refine AB (Q6 (j:=0) rfl fun od a' kvs=>?_)
      walk_at "dd"
      walk_at "dd"
      refine BA (w:=(AJ K ω X E.rt D0)) (σt:=Rat) (Je (m:=x3) (Wi rfl) (at_n 0 fun _=>rfl)) (fun s10=>[some ((kK K) vgaps),some ((kG K) A5),some ((kF K ω) Ar),some ((kF K ω) x1),some ((kL K) x2),some (Is (.ref p4)),none,some ((tD K eQ) s10),none,none,none,none]) (fun s10=>(p4,(OZH K ω (kM) (kC K) (tD K eQ) (x3) od a' kvs))::D0) x9 (fun s10 x11=>[some ((kK K) vgaps),some ((kG K) A5),some ((kF K ω) Ar),some ((kF K ω) x1),some ((kL K) x2),some (Is (.ref p4)),some ((kC K) x11),some ((tD K eQ) s10),none,none,none,none]) hP (by walk_at "sle") (by walk_at "sub") (Xy (at_n 0 fun _=>rfl)) (fun _ _=>AE) ?_ ?_
      · intro F13 t13 s10 hP
        unfold IF at hP
        walk_at "dd"
        refine Lg (j:=0) rfl ?_
        walk_at "dd"
        walk_at "dd"
        refine AB (Br (w:=(AJ K ω X E.rt D0)) (Ht (k:=(kM)) (Rk:=(kC K)) (Rv:=(tD K eQ))) hP fun x14 p15 hP=>?_)
        walk_at "dd"
        refine AB (BA (w:=(AJ K ω X E.rt D0)) (σt:=ji) (VM (A1 (R:=(kF K ω)) (Ar) rfl)) (fun s16=>[some ((kK K) vgaps),some ((kG K) A5),some ((kF K ω) Ar),some ((kF K ω) x1),some ((kL K) x2),some (Is (.ref p4)),none,some ((tD K eQ) s10),some (Is (.ref p15)),none,none,none]) (fun s16=>(p15,(kI K ω) (s16))::(p4,(kI K ω) (x3))::D0) x14 (fun s16 x17=>[some ((kK K) vgaps),some ((kG K) A5),some ((kF K ω) Ar),some ((kF K ω) x1),some ((kL K) x2),some (Is (.ref p4)),some ((kC K) x17),some ((tD K eQ) s10),some (Is (.ref p15)),none,none,none]) hP (by walk_at "sle") (by walk_at "sub") (fun _=>trivial) (fun _ _=>AE) ?_ ?_)
        · intro F19 t19 s16 hP
          unfold ID at hP
          walk_at "dd"
          refine AB ?_
          walk_at "dd"
          refine Py (j:=0) (i:=8) (k:=(kM)) (Rk:=(kC K)) (Rv:=(tD K eQ)) rfl rfl ?_
          walk_at "dd"
          refine Q6 (j:=0) rfl fun od a' kvs=>?_
          walk_at "dd"
          walk_at "dd"
          refine Bp (w:=(AJ K ω X E.rt D0)) (AN (JY (Xs (Ny Ep Ep)) (EG (R':=tD K (eL (e2 eS eS))) (AQ (MO (G1:=(fun x20=>[some ((kK K) vgaps),some ((kG K) A5),some ((kF K ω) Ar),some ((kF K ω) x1),some ((kL K) x2),some (Is (.ref p4)),some ((kC K) x20),some ((tD K eQ) s10),some ((kF K ω) s16),none,none,none])) (Je (m:=x3) (Wi rfl) (at_n 0 fun _=>rfl)) (fun _=>(DG (by decide))) (cW (at_n 0 fun _=>rfl)) (fun x20 _ cq=>(FM (AD (fun _ _ _ _ h=>h) (A0 (B1 (fun x=>d_T (AC ((d_b (e:=eS)) x.1) (AC ((d_b (e:=eS)) x.2) Aa))) Gu (A1 (R:=(kF K ω)) (s16) rfl) fun _=>(A1 (R:=(kC K)) (x20) rfl)) fun _=>(A0 (B1 (fun x=>d_T (AC ((d_b (e:=eS)) x.1) (AC ((d_b (e:=eS)) x.2) Aa))) (aW (k:=(kM)) (Rk:=(kC K)) (Rv:=(tD K eQ)) (m:=x3) (at_n 1 fun _=>rfl)) (A1 (R:=fun _:Unit=>Is (.ref p4)) () rfl) fun _=>(A1 (R:=(kC K)) (x20) rfl)) fun _=>A2)) (fun _=>List.nil_sublist _)))) (fun x20 _ cq=>(A1 (R:=(kC K)) (x20) rfl)))) (d_L (R:=(kC K)) (e:=(e2 eS eS)) (fun x=>d_T (AC ((d_b (e:=eS)) x.1) (AC ((d_b (e:=eS)) x.2) Aa))))) fun _=>(EG (R':=tD K (eL (e2 eS eS))) (AQ (CB (R:=(kC K)))) (d_L (R:=(kC K)) (e:=(e2 eS eS)) (fun x=>d_T (AC ((d_b (e:=eS)) x.1) (AC ((d_b (e:=eS)) x.2) Aa))))))) hP ?_ ?_
          · intro hP
            walk_at "dd"
            exact AH (w:=(AJ K ω X E.rt D0)) (Dd:=fun _:Unit=>(p4,(OZH K ω (kM) (kC K) (tD K eQ) (x3) od a' kvs))::D0) (s:=()) (fun v _=>v) Hq hP (fun F v s h=>VN (j:=0) rfl (by dsimp only [List.set];exact (show GoV _ _ _ _ from h).drop (by walk_at "sub")))
          · intro hP
            walk_at "dd"
            refine Aw ?_
            walk_at "dd"
            refine Lg (j:=0) rfl ?_
            walk_at "dd"
            walk_at "dd"
            refine AB (BA (w:=(AJ K ω X E.rt D0)) (σt:=Unit) (CK (A1 (R:=(kK K)) (vgaps) rfl)) (fun s27=>[some ((kK K) vgaps),some ((kG K) A5),some ((kF K ω) Ar),some ((kF K ω) x1),some ((kL K) x2),some (Is (.ref p4)),none,some ((tD K eQ) s10),some ((kF K ω) s16),none,none,none]) (fun s27=>(p4,(kI K ω) (x3))::D0) () (fun s27 x28=>[some ((kK K) vgaps),some ((kG K) A5),some ((kF K ω) Ar),some ((kF K ω) x1),some ((kL K) x2),some (Is (.ref p4)),none,some ((tD K eQ) s10),some ((kF K ω) s16),some ((kB K) x28),none,none]) hP (by walk_at "sle") (by walk_at "sub") (fun _=>trivial) (fun _ _=>AE) ?_ ?_)
            · intro F30 t30 s27 hP
              unfold I9 at hP
              walk_at "dd"
              refine AB (Ys (w:=(AJ K ω X E.rt D0)) (fun x=>d_T (AC ((d_b (e:=eS)) x.1) (AC ((d_b (e:=eS)) x.2) Aa))) (m0:=x3) (n:=5) (j:=0) rfl rfl hP fun x31 hP=>?_)
              walk_at "dd"
              exact AH (w:=(AJ K ω X E.rt D0)) (Dd:=fun _:Unit=>(p4,(kI K ω) (x31.1))::D0) (s:=()) (fun v _=>v) (VR LN (fun x=>d_T (AC ((d_b (e:=eS)) x.1) (AC ((d_b (e:=eS)) x.2) Aa))) (d_b (e:=eQ)) Gu Gu (NN (JZ (fun _ _ _ _ h=>h) (A0 (PJ (R':=(kK K)) (fun x:jq=>match x with | Sum.inl y=>(some y:Option (List jg)) | _=>none) (Bq Cp (A1 (R:=(kL K)) (x2) rfl) fun _=>A9) (fun x y v F e h=>by rcases x with x | x <;> first | (cases e;exact h) | cases e)) fun _=>(A0 (PJ (R':=(kG K)) (fun x:jq=>match x with | Sum.inr y=>(some y:Option jh) | _=>none) (Bq Cp (A1 (R:=(kL K)) (x2) rfl) fun _=>A9) (fun x y v F e h=>by rcases x with x | x <;> first | (cases e;exact h) | cases e)) fun _=>A2)) (fun _=>by walk_at "sub"))) fun _=>(A1 (R:=(kF K ω)) (x1) rfl)) hP (fun F v s h=>(show GoV _ _ _ _ from h).drop (by walk_at "sub"))
            · intro hB30 F30 t30 x28 s27 n29 Nx hN30 hP
              unfold IC at hP
              walk_at "dd"
              refine BA (w:=(AJ K ω X E.rt D0)) (σt:=Unit) (CK (AQ (C5 (eval_cons (A1 (R:=(fun x:Bool=>cond x ((kF K ω) s16) (Is (.ref p4)))) false rfl) fun _=>(eval_cons (A1 (R:=(fun x:Bool=>cond x ((kF K ω) s16) (Is (.ref p4)))) true rfl) fun _=>eval_nil))))) (fun s37=>[some ((kK K) vgaps),some ((kG K) A5),some ((kF K ω) Ar),some ((kF K ω) x1),some ((kL K) x2),some (Is (.ref p4)),none,some ((tD K eQ) s10),some ((kF K ω) s16),some ((kB K) x28),none,none]) (fun s37=>(p4,(kI K ω) (x3))::D0) () (fun s37 x38=>[some ((kK K) vgaps),some ((kG K) A5),some ((kF K ω) Ar),some ((kF K ω) x1),some ((kL K) x2),some (Is (.ref p4)),none,some ((tD K eQ) s10),some ((kF K ω) s16),some ((kB K) x28),some ((fun x:Bool=>cond x ((kF K ω) s16) (Is (.ref p4))) x38),none]) hP (by walk_at "sle") (by walk_at "sub") (fun _=>trivial) (fun _ _=>AE) ?_ ?_
              · intro F40 t40 s37 hP
                unfold IA at hP
                walk_at "dd"
                exact (hN30 _ t40 () hP).weak (by walk_at "sle") (by walk_at "sub")
              · intro hB40 F40 t40 x38 s37 n39 Nx hN40 hP
                unfold IB at hP
                walk_at "dd"
                cases x38
                · refine AB (Ao (w:=(AJ K ω X E.rt D0)) (LZ (sp:=DR K ω) (f:=fun (y:jg×jh×Unit×Unit) (w:Unit)=>(y.1,y.2.1,(p4,x3),())) (g:=(fun _=>())) (fun _ _ _ _ h=>.inl h) (A0 (A1 (R:=(kB K)) (x28) rfl) fun _=>(A0 (A1 (R:=(kG K)) (A5) rfl) fun _=>(A0 (A1 (R:=fun _:Unit=>Is (.ref p4)) () rfl) fun _=>A2))) (fun _ w=>⟨(RdC.of (k:=0) rfl),trivial⟩) (fun _=>DLe.of (by walk_at "sub")) hdR0) hP fun x41 hP=>?_)
                  walk_at "dd"
                  refine Bp (w:=(AJ K ω X E.rt D0)) (MK (Gq (FM (AD (fun _ _ _ _ h=>h) (A0 (A1 (R:=(tD K eQ)) (x41) rfl) fun _=>(A0 (LZ (sp:=EW K ω) (f:=fun (y:jg×jh×Unit×Unit) (w:Unit)=>(y.1,y.2.1,(p4,x3),())) (g:=(fun _=>())) (fun _ _ _ _ h=>.inl h) (A0 (A1 (R:=(kB K)) (x28) rfl) fun _=>(A0 (A1 (R:=(kG K)) (A5) rfl) fun _=>(A0 (A1 (R:=fun _:Unit=>Is (.ref p4)) () rfl) fun _=>A2))) (fun _ w=>⟨(RdC.of (k:=0) rfl),trivial⟩) (fun _=>DLe.of (by walk_at "sub")) hdR0) fun _=>A2)) (fun _=>by walk_at "sub")))) fun _=>(AN (KJ (DH (A1 (R:=(tD K eQ)) (x41) rfl)) fun _=>A9))) hP ?_ ?_
                  · intro hP
                    walk_at "dd"
                    exact AH (w:=(AJ K ω X E.rt D0)) (Dd:=fun _:Unit=>(p4,(kI K ω) (x3))::D0) (s:=()) (fun v _=>v) Hq hP (fun F v s h=>(show GoV _ _ _ _ from h).drop (by walk_at "sub"))
                  · intro hP
                    walk_at "dd"
                    refine Aw ?_
                    walk_at "dd"
                    exact (hN40 _ (Same.refl _) () hP).weak (by walk_at "sle") (by walk_at "sub")
                · refine AB (Ao (w:=(AJ K ω X E.rt D0)) (AD (fun _ _ _ _ h=>.inr h) (A0 (A1 (R:=(kB K)) (x28) rfl) fun _=>(A0 (A1 (R:=(kG K)) (A5) rfl) fun _=>(A0 (A1 (R:=(kF K ω)) (s16) rfl) fun _=>A2))) (fun _=>by walk_at "sub")) hP fun x45 hP=>?_)
                  walk_at "dd"
                  refine Bp (w:=(AJ K ω X E.rt D0)) (MK (Gq (FM (AD (fun _ _ _ _ h=>h) (A0 (A1 (R:=(tD K eQ)) (x45) rfl) fun _=>(A0 (AD (fun _ _ _ _ h=>.inr h) (A0 (A1 (R:=(kB K)) (x28) rfl) fun _=>(A0 (A1 (R:=(kG K)) (A5) rfl) fun _=>(A0 (A1 (R:=(kF K ω)) (s16) rfl) fun _=>A2))) (fun _=>by walk_at "sub")) fun _=>A2)) (fun _=>by walk_at "sub")))) fun _=>(AN (KJ (DH (A1 (R:=(tD K eQ)) (x45) rfl)) fun _=>A9))) hP ?_ ?_
                  · intro hP
                    walk_at "dd"
                    exact AH (w:=(AJ K ω X E.rt D0)) (Dd:=fun _:Unit=>(p4,(kI K ω) (x3))::D0) (s:=()) (fun v _=>v) Hq hP (fun F v s h=>(show GoV _ _ _ _ from h).drop (by walk_at "sub"))
                  · intro hP
                    walk_at "dd"
                    refine Aw ?_
                    walk_at "dd"
                    exact (hN40 _ (Same.refl _) () hP).weak (by walk_at "sle") (by walk_at "sub")
        · intro hB19 F19 t19 x17 s16 n18 Nx hN19 hP
          unfold IE at hP
          walk_at "dd"
          refine Hu (w:=(AJ K ω X E.rt D0)) (Dd:=fun _:Unit=>(p15,(kI K ω) (s16))::(p4,(kI K ω) (x3))::D0) (s:=()) (k:=(kM)) (Rk:=(kC K)) (Rv:=(tD K eQ)) (m:=s16) (hd:=(fun x=>d_T (AC ((d_b (e:=eS)) x.1) (AC ((d_b (e:=eS)) x.2) Aa)))) (n:=8) rfl (AD (fun _ _ _ _ h=>h) (A0 (B1 (fun x=>d_T (AC ((d_b (e:=eS)) x.1) (AC ((d_b (e:=eS)) x.2) Aa))) Gu (A1 (R:=(kF K ω)) (Ar) rfl) fun _=>(A1 (R:=(kC K)) (x17) rfl)) fun _=>(A0 (A1 (R:=(tD K eQ)) (s10) rfl) fun _=>A2)) (fun _=>by walk_at "sub")) (fun _=>(A1 (R:=(kC K)) (x17) rfl)) (at_n 0 fun _=>rfl) hP fun x49 hP=>?_
          walk_at "dd"
          exact (hN19 _ (Same.refl _) x49.1 hP).weak (by walk_at "sle") (by walk_at "sub")
      · intro hB13 F13 t13 x11 s10 n12 Nx hN13 hP
        unfold IG at hP
        walk_at "dd"
        refine Ga (w:=(AJ K ω X E.rt D0)) (DM n12) (fun s52=>[some ((kK K) vgaps),some ((kG K) A5),some ((kF K ω) Ar),some ((kF K ω) x1),some ((kL K) x2),some (Is (.ref p4)),some ((kC K) x11),some ((tD K eQ) s52),none,none,none,none]) (fun s52=>(p4,(OZH K ω (kM) (kC K) (tD K eQ) (x3) od a' kvs))::D0) ?_ ?_
        · intro F53 t53 s52 hP
          unfold DM at hP
          walk_at "dd"
          exact (hN13 _ t53 s52 hP).weak (by walk_at "sle") (by walk_at "sub")
        · intro hk53
          walk_at "dd"
          refine Bp (w:=(AJ K ω X E.rt D0)) (FM (AD (fun _ _ _ _ h=>h) (A0 (B1 (fun x=>d_T (AC ((d_b (e:=eS)) x.1) (AC ((d_b (e:=eS)) x.2) Aa))) Gu (A1 (R:=(kF K ω)) (Ar) rfl) fun _=>(A1 (R:=(kC K)) (x11) rfl)) fun _=>(A0 (A1 (R:=(tD K eQ)) (s10) rfl) fun _=>A2)) (fun _=>by walk_at "sub"))) hP ?_ ?_
          · intro hP
            walk_at "dd"
            refine Ao (w:=(AJ K ω X E.rt D0)) (B1 (fun x=>d_T (AC ((d_b (e:=eS)) x.1) (AC ((d_b (e:=eS)) x.2) Aa))) Gu (A1 (R:=(kF K ω)) (Ar) rfl) fun _=>(A1 (R:=(kC K)) (x11) rfl)) hP fun x54 hP=>?_
            walk_at "dd"
            exact ((hk53 _ (Same.refl _) x54) hP).weak (by walk_at "sle") (by walk_at "sub")
          · intro hP
            walk_at "dd"
            refine Aw ?_
            walk_at "dd"
            exact ((hk53 _ (Same.refl _) s10) hP).weak (by walk_at "sle") (by walk_at "sub")
    · intro hB8 F8 t8 x6 s5 n7 Nx hN8 hP
      unfold HH at hP
      walk_at "dd"
      refine Bp (w:=(AJ K ω X E.rt D0)) (Gq (FM (AD (fun _ _ _ _ h=>h) (A0 (B1 (fun x=>d_T (AC ((d_b (e:=eS)) x.1) (AC ((d_b (e:=eS)) x.2) Aa))) (aW (k:=(kM)) (Rk:=(kC K)) (Rv:=(tD K eQ)) (m:=x3) (at_n 0 fun _=>rfl)) (A1 (R:=fun _:Unit=>Is (.ref p4)) () rfl) fun _=>(A1 (R:=(kC K)) (x6) rfl)) fun _=>(A0 (B1 (fun x=>d_T (AC ((d_b (e:=eS)) x.1) (AC ((d_b (e:=eS)) x.2) Aa))) Gu (A1 (R:=(kF K ω)) (x1) rfl) fun _=>(A1 (R:=(kC K)) (x6) rfl)) fun _=>A2)) (fun _=>by walk_at "sub")))) hP ?_ ?_
      · intro hP
        walk_at "dd"
        exact AH (w:=(AJ K ω X E.rt D0)) (Dd:=fun _:Unit=>(p4,(OZH K ω (kM) (kC K) (tD K eQ) (x3) od a' kvs))::D0) (s:=()) (fun v _=>v) Hq hP (fun F v s h=>VN (j:=0) rfl (by dsimp only [List.set];exact (show GoV _ _ _ _ from h).drop (by walk_at "sub")))
      · intro hP
        walk_at "dd"
        refine Aw ?_
        walk_at "dd"
        exact (hN8 _ (Same.refl _) () hP).weak (by walk_at "sle") (by walk_at "sub")
theorem P4 (T:Txt K mg) (vs:List V) (H:Hp) (Q:VK) (X:XK) (h:E7 K ω vs H Q X):Hc K ω X { nx:=fun _ H'=>Q .non H',rt:=Q } (L2.start HR vs) H:=
 AO (fun x F D E hrt hnx hP=>by
  subst hrt
  exact P3 T hnx hP) h
theorem RE (K:jf):∀ vs H Q E,E7 K ω vs H Q E→vs.length=3:=Ak fun _=>rfl
theorem cD (T:Txt K mg) {Ap:(List Int)} (hnx:∀ (K:jf) G D1,GoV E.rt F0 (DN K) D1→Go E.nx F0 G D1) (hP:(TX K ω X E.rt D0).W F0 (Hg Ap)) :
    Go (YU K ω X E) F0 [some ((kP K) Ap),none,none,none,none] D0:=by
  unfold Hg at hP
  refine AB (BA (w:=(TX K ω X E.rt D0)) (σt:=Unit) (Dj (Zh A9 fun _=>(Zi (MM Cp (A1 (R:=(kP K)) (Ap) rfl)) fun _=>A9))) (fun s2=>[some ((kP K) Ap),none,none,none,none]) (fun s2=>D0) () (fun s2 x3=>[some ((kP K) Ap),some ((tD K eI) x3),none,none,none]) hP (by walk_at "sle") (by walk_at "sub") (fun _=>trivial) (fun _ _=>AE) ?_ ?_)
  · intro F5 t5 s2 hP
    unfold Jl at hP
    walk_at "dd"
    exact AH (w:=(TX K ω X E.rt D0)) (Dd:=fun _:Unit=>D0) (s:=()) (fun v _=>v) (VR LN (fun x=>d_T (AC ((d_b (e:=eS)) x.1) (AC ((d_b (e:=eS)) x.2) Aa))) (d_b (e:=eQ)) Gu Gu (NN (JZ (fun _ _ _ _ h=>h) (A0 (AQ (CB (R:=(kB K)))) fun _=>(A0 (Sf (Hs (k:=kS) (Rv:=(tD K eQ)))) fun _=>A2)) (fun _=>by walk_at "sub"))) fun _=>(NN (Ht (k:=(kM)) (Rk:=(kC K)) (Rv:=(tD K eQ))))) hP (fun F v s h=>(show GoV _ _ _ _ from h).drop (by walk_at "sub"))
  · intro hB5 F5 t5 x3 s2 n4 Nx hN5 hP
    unfold Jm at hP
    walk_at "dd"
    refine AB (ML (i:=0) (w:=(TX K ω X E.rt D0)) (Gx:=fun (x7:((List jg)×jh×ji))=>[some ((kP K) Ap),some ((tD K eI) x3),some ((kK K) x7.1),some ((kG K) x7.2.1),some ((kF K ω) x7.2.2)]) (Wn (fun _ _ _ _ h=>h) (fun _=>()) (JZ (fun _ _ _ _ h=>h) (A0 (A1 (R:=(kP K)) (Ap) rfl) fun _=>(A0 (A1 (R:=(tD K eI)) (x3) rfl) fun _=>A2)) (fun _=>by walk_at "sub")) (fun _ _ _=>A2) (fun _ _=>rfl) (fun _=>by walk_at "sub")) (fun _=>(CI (AF AE (AF AE (AF AE Bk))) rfl)) hP fun x7 hP=>?_)
    walk_at "dd"
    refine Bp (w:=(TX K ω X E.rt D0)) (Gq (FM (AD (fun _ _ _ _ h=>h) (A0 (A1 (R:=(kK K)) (x7.1) rfl) fun _=>(A0 (A1 (R:=(kG K)) (x7.2.1) rfl) fun _=>(A0 (A1 (R:=(kF K ω)) (x7.2.2) rfl) fun _=>A2))) (fun _=>by walk_at "sub")))) hP ?_ ?_
    · intro hP
      walk_at "dd"
      exact AH (w:=(TX K ω X E.rt D0)) (Dd:=fun _:Unit=>D0) (s:=()) (fun v _=>v) Hq hP (fun F v s h=>(show GoV _ _ _ _ from h).drop (by walk_at "sub"))
    · intro hP
      walk_at "dd"
      refine Aw ?_
      walk_at "dd"
      exact (hN5 _ (Same.refl _) () hP).weak (by walk_at "sle") (by walk_at "sub")
theorem cE (T:Txt K mg) (vs:List V) (H:Hp) (Q:VK) (X:XK) (h:QX K ω vs H Q X):YU K ω X { nx:=fun _ H'=>Q .non H',rt:=Q } (L2.start c9 vs) H:=
 V9 (mf:=Hg) QP (fun x F D E hrt hnx hP=>by
  subst hrt
  exact cD T hnx hP) h
theorem dY (K:jf):∀ vs H Q E,QX K ω vs H Q E→vs.length=1:=fun vs H Q E ⟨x,F,D,_,h,_⟩=>h.len
end
end N24
open PySem PySem.Spec L2 TL
namespace N24
section
variable {P:Program} {ω:World} {K:jf} {mg:Str→Option Value} {base:Heap}
theorem WK (T:Txt K mg) {f:Addr} {fd:FuncData} (FD:FunD K "is_whole" "is_whole" (defArgs Cz) (defBody Cz) (defScope Cz) [] [] f fd):FnOk P ω K mg base (L2.CX P ω) 1 f fd ["thing"] (EV K ω):=
 FD.ok Vz (UG K) fun cdv A outer s H vs Q X hr h=>⟨K0 K ω X,RN T hr,RX T vs H Q X h⟩
theorem ZI (T:Txt K mg) {f:Addr} {fd:FuncData} (FD:FunD K "common" "common" (defArgs Er) (defBody Er) (defScope Er) [] [] f fd):FnOk P ω K mg base (L2.CX P ω) 1 f fd ["one","other"] (Hl K ω):=
 FD.ok TR (XU K) fun cdv A outer s H vs Q X hr h=>⟨Mz K ω X,W5 T hr,WA T vs H Q X h⟩
theorem UX (T:Txt K mg) (Kz:Fo P ω K mg base "common" ["one","other"] [] 1 (Hl K ω)) (GZ:Fo P ω K mg base "is_whole" ["thing"] [] 1 (EV K ω)) {f:Addr} {fd:FuncData} (FD:FunD K "number_of" "number_of" (defArgs CM) (defBody CM) (defScope CM) [.int 1] [] f fd):FnOk P ω K mg base (L2.CX P ω) 2 f fd ["top","bottom"] (BQ K ω):=
 FD.ok Jr (RY K) fun cdv A outer s H vs Q X hr h=>⟨Ip K ω X,QY T Kz GZ hr,Qj T vs H Q X h⟩
theorem dZ (T:Txt K mg) (B3:Fo P ω K mg base "number_of" ["top","bottom"] [] 2 (BQ K ω)) {f:Addr} {fd:FuncData} (FD:FunD K "plus" "plus" (defArgs J8) (defBody J8) (defScope J8) [] [] f fd):FnOk P ω K mg base (L2.CX P ω) 3 f fd ["a","b"] (Do K ω):=
 FD.ok dX (cC K) fun cdv A outer s H vs Q X hr h=>⟨UD K ω X,ZD T B3 hr,ZF T vs H Q X h⟩
theorem cF (T:Txt K mg) (B3:Fo P ω K mg base "number_of" ["top","bottom"] [] 2 (BQ K ω)) {f:Addr} {fd:FuncData} (FD:FunD K "minus" "minus" (defArgs Gg) (defBody Gg) (defScope Gg) [] [] f fd):FnOk P ω K mg base (L2.CX P ω) 3 f fd ["a","b"] (G8 K ω):=
 FD.ok bx (ZG K) fun cdv A outer s H vs Q X hr h=>⟨PV K ω X,XS T B3 hr,XX T vs H Q X h⟩
theorem cG (T:Txt K mg) (B3:Fo P ω K mg base "number_of" ["top","bottom"] [] 2 (BQ K ω)) {f:Addr} {fd:FuncData} (FD:FunD K "times" "times" (defArgs Gh) (defBody Gh) (defScope Gh) [] [] f fd):FnOk P ω K mg base (L2.CX P ω) 3 f fd ["a","b"] (JT K ω):=
 FD.ok bz (ZH K) fun cdv A outer s H vs Q X hr h=>⟨PX K ω X,XT T B3 hr,XZ T vs H Q X h⟩
theorem Xd (T:Txt K mg) {f:Addr} {fd:FuncData} (FD:FunD K "is_less" "is_less" (defArgs Dz) (defBody Dz) (defScope Dz) [] [] f fd):FnOk P ω K mg base (L2.CX P ω) 1 f fd ["a","b"] (Dq K ω):=
 FD.ok XR (WB K) fun cdv A outer s H vs Q X hr h=>⟨LJ K ω X,UE T hr,UI T vs H Q X h⟩
theorem ZJ (T:Txt K mg) (DX:Fo P ω K mg base "plus" ["a","b"] [] 3 (Do K ω)) {f:Addr} {fd:FuncData} (FD:FunD K "sum_of" "sum_of" (defArgs EU) (defBody EU) (defScope EU) [] [] f fd):FnOk P ω K mg base (L2.CX P ω) 4 f fd ["number","pairs"] (Ee K ω):=
 FD.ok Hk (Xa K) fun cdv A outer s H vs Q X hr h=>⟨GB K ω X,W6 T DX hr,WC T vs H Q X h⟩
theorem WL (T:Txt K mg) (DX:Fo P ω K mg base "plus" ["a","b"] [] 3 (Do K ω)) (Ex:Fo P ω K mg base "sum_of" ["number","pairs"] [] 4 (Ee K ω)) {f:Addr} {fd:FuncData} (FD:FunD K "sum_plus" "sum_plus" (defArgs D4) (defBody D4) (defScope D4) [] [] f fd):FnOk P ω K mg base (L2.CX P ω) 5 f fd ["a","b"] (Fg K ω):=
 FD.ok W0 (UM K) fun cdv A outer s H vs Q X hr h=>⟨K1 K ω X,RO T DX Ex hr,Rm T vs H Q X h⟩
theorem ZK (T:Txt K mg) (DX:Fo P ω K mg base "plus" ["a","b"] [] 3 (Do K ω)) (NB:Fo P ω K mg base "times" ["a","b"] [] 3 (JT K ω)) {f:Addr} {fd:FuncData} (FD:FunD K "sum_at" "sum_at" (defArgs Es) (defBody Es) (defScope Es) [] [] f fd):FnOk P ω K mg base (L2.CX P ω) 4 f fd ["a","making"] (Ef K ω):=
 FD.ok JS (Xb K) fun cdv A outer s H vs Q X hr h=>⟨N0 K ω X,W7 T DX NB hr,WH T vs H Q X h⟩
theorem WM (T:Txt K mg) {f:Addr} {fd:FuncData} (FD:FunD K "nodes_of" "nodes_of" (defArgs D5) (defBody D5) (defScope D5) [] [] f fd):FnOk P ω K mg base (L2.CX P ω) 1 f fd ["gaps"] (Fh K ω):=
 FD.ok H6 (UN K) fun cdv A outer s H vs Q X hr h=>⟨K2 K ω X,RP T hr,Ro T vs H Q X h⟩
theorem JU (T:Txt K mg) {f:Addr} {fd:FuncData} (FD:FunD K "chains_behind" "chains_behind" (defArgs Av) (defBody Av) (defScope Av) [] [] f fd) (mk:∀ l sp,FnOk P ω K mg base (L2.CX P ω) l f fd ["gaps","way"] sp→Fo P ω K mg base "chains_behind" ["gaps","way"] [] l sp):∀ m:Nat,FnOk P ω K mg base (L2.CX P ω) (1+m) f fd ["gaps","way"] (BS m K ω)
 | 0=>FD.ok Bv (HJ 0 K) fun cdv A outer s H vs Q X hr h=>(MC h).elim
 | m+1=>FD.ok Bv (HJ (m+1) K) fun cdv A outer s H vs Q X hr h=>⟨FK m K ω X,M9 m T (mk _ _ (JU T FD mk m)) hr,MB T m vs H Q X h⟩
theorem UY (T:Txt K mg) (CH:Fo P ω K mg base "chains_behind" ["gaps","way"] [] 25 (Eg K ω)) {f:Addr} {fd:FuncData} (FD:FunD K "chains_of" "chains_of" (defArgs CN) (defBody CN) (defScope CN) [] [] f fd):FnOk P ω K mg base (L2.CX P ω) 26 f fd ["gaps"] (Eh K ω):=
 FD.ok Js (Rp K) fun cdv A outer s H vs Q X hr h=>⟨Iq K ω X,QZ T CH hr,Ql T vs H Q X h⟩
theorem UZ (T:Txt K mg) (Ex:Fo P ω K mg base "sum_of" ["number","pairs"] [] 4 (Ee K ω)) (IZ:Fo P ω K mg base "sum_plus" ["a","b"] [] 5 (Fg K ω)) {f:Addr} {fd:FuncData} (FD:FunD K "chain_sum" "chain_sum" (defArgs CO) (defBody CO) (defScope CO) [] [] f fd):FnOk P ω K mg base (L2.CX P ω) 6 f fd ["gaps","chain"] (Ei K ω):=
 FD.ok HM (Rq K) fun cdv A outer s H vs Q X hr h=>⟨Ir K ω X,Qa T Ex IZ hr,Qn T vs H Q X h⟩
theorem ZL (T:Txt K mg) (Gp:Fo P ω K mg base "minus" ["a","b"] [] 3 (G8 K ω)) (DX:Fo P ω K mg base "plus" ["a","b"] [] 3 (Do K ω)) (Ey:Fo P ω K mg base "sum_at" ["a","making"] [] 4 (Ef K ω)) {f:Addr} {fd:FuncData} (FD:FunD K "gap_at" "gap_at" (defArgs Et) (defBody Et) (defScope Et) [] [] f fd):FnOk P ω K mg base (L2.CX P ω) 5 f fd ["gap","making","places"] (DR K ω):=
 FD.ok LG (Xc K) fun cdv A outer s H vs Q X hr h=>⟨IY K ω X,W8 T Gp DX Ey hr,WI T vs H Q X h⟩
theorem P5 (T:Txt K mg) (HA:Fo P ω K mg base "chain_sum" ["gaps","chain"] [] 6 (Ei K ω)) (HB:Fo P ω K mg base "chains_of" ["gaps"] [] 26 (Eh K ω)) (E8:Fo P ω K mg base "is_less" ["a","b"] [] 1 (Dq K ω)) (Ey:Fo P ω K mg base "sum_at" ["a","making"] [] 4 (Ef K ω)) {f:Addr} {fd:FuncData} (FD:FunD K "check_chains" "check_chains" (defArgs BK) (defBody BK) (defScope BK) [] [] f fd):FnOk P ω K mg base (L2.CX P ω) 27 f fd ["gaps","making"] (Cm K ω):=
 FD.ok KD (Ng K) fun cdv A outer s H vs Q X hr h=>⟨GC K ω X,N1 T HA HB E8 Ey hr,N5 T vs H Q X h⟩
theorem P6 (T:Txt K mg) (EY:Fo P ω K mg base "check_chains" ["gaps","making"] [] 27 (Cm K ω)) (Ez:Fo P ω K mg base "gap_at" ["gap","making","places"] [] 5 (DR K ω)) (E8:Fo P ω K mg base "is_less" ["a","b"] [] 1 (Dq K ω)) (Gp:Fo P ω K mg base "minus" ["a","b"] [] 3 (G8 K ω)) (Ia:Fo P ω K mg base "nodes_of" ["gaps"] [] 1 (Fh K ω)) {f:Addr} {fd:FuncData} (FD:FunD K "least_places" "least_places" (defArgs BL) (defBody BL) (defScope BL) [] [] f fd):FnOk P ω K mg base (L2.CX P ω) 28 f fd ["gaps","making"] (B6 K ω):=
 FD.ok Bm (Nh K) fun cdv A outer s H vs Q X hr h=>⟨GD K ω X,N2 T EY Ez E8 Gp Ia hr,N7 T vs H Q X h⟩
theorem Ua (T:Txt K mg) {f:Addr} {fd:FuncData} (FD:FunD K "_law_well" "_law_well" (defArgs CP) (defBody CP) (defScope CP) [] [] f fd):FnOk P ω K mg base (L2.CX P ω) 1 f fd ["_law_script","_law_k"] (Ej K ω):=
 FD.ok Jt (Ry K) fun cdv A outer s H vs Q X hr h=>⟨Iu K ω X,Qb T hr,Qp T vs H Q X h⟩
theorem Ub (T:Txt K mg) {f:Addr} {fd:FuncData} (FD:FunD K "_law_take" "_law_take" (defArgs CQ) (defBody CQ) (defScope CQ) [] [] f fd):FnOk P ω K mg base (L2.CX P ω) 1 f fd ["_law_well_here","_law_many"] (A8 K ω):=
 FD.ok HN (Rz K) fun cdv A outer s H vs Q X hr h=>⟨Iv K ω X,Qc T hr,Qr T vs H Q X h⟩
theorem RF (T:Txt K mg) {f:Addr} {fd:FuncData} (FD:FunD K "_law_common" "_law_common" (defArgs BX) (defBody BX) (defScope BX) [] [] f fd):FnOk P ω K mg base (L2.CX P ω) 1 f fd ["_law_one","_law_other"] (DU K ω):=
 FD.ok Ko (Oc K) fun cdv A outer s H vs Q X hr h=>⟨Gk K ω X,Na T hr,Nj T vs H Q X h⟩
theorem WN (T:Txt K mg) (FA:Fo P ω K mg base "_law_common" ["_law_one","_law_other"] [] 1 (DU K ω)) {f:Addr} {fd:FuncData} (FD:FunD K "_law_num" "_law_num" (defArgs D6) (defBody D6) (defScope D6) [] [] f fd):FnOk P ω K mg base (L2.CX P ω) 2 f fd ["_law_top","_law_bottom"] (Ac K ω):=
 FD.ok Io (UQ K) fun cdv A outer s H vs Q X hr h=>⟨K3 K ω X,RQ T FA hr,S1 T vs H Q X h⟩
theorem WO (T:Txt K mg) (AR:Fo P ω K mg base "_law_num" ["_law_top","_law_bottom"] [] 2 (Ac K ω)) {f:Addr} {fd:FuncData} (FD:FunD K "_law_add" "_law_add" (defArgs D7) (defBody D7) (defScope D7) [] [] f fd):FnOk P ω K mg base (L2.CX P ω) 3 f fd ["_law_one","_law_other"] (AW K ω):=
 FD.ok W1 (UR K) fun cdv A outer s H vs Q X hr h=>⟨K4 K ω X,RR T AR hr,S3 T vs H Q X h⟩
theorem WQ (T:Txt K mg) (AR:Fo P ω K mg base "_law_num" ["_law_top","_law_bottom"] [] 2 (Ac K ω)) {f:Addr} {fd:FuncData} (FD:FunD K "_law_mul" "_law_mul" (defArgs D8) (defBody D8) (defScope D8) [] [] f fd):FnOk P ω K mg base (L2.CX P ω) 3 f fd ["_law_one","_law_other"] (Af K ω):=
 FD.ok W2 (US K) fun cdv A outer s H vs Q X hr h=>⟨K5 K ω X,RS T AR hr,S5 T vs H Q X h⟩
theorem Uc (T:Txt K mg) (AL:Fo P ω K mg base "_law_add" ["_law_one","_law_other"] [] 3 (AW K ω)) {f:Addr} {fd:FuncData} (FD:FunD K "_law_less" "_law_less" (defArgs CS) (defBody CS) (defScope CS) [] [] f fd):FnOk P ω K mg base (L2.CX P ω) 4 f fd ["_law_one","_law_other"] (AM K ω):=
 FD.ok UA (S6 K) fun cdv A outer s H vs Q X hr h=>⟨Iw K ω X,Qd T AL hr,Qt T vs H Q X h⟩
theorem SE (T:Txt K mg) {f:Addr} {fd:FuncData} (FD:FunD K "_law_below" "_law_below" (defArgs Bz) (defBody Bz) (defScope Bz) [] [] f fd):FnOk P ω K mg base (L2.CX P ω) 1 f fd ["_law_one","_law_other"] (BO K ω):=
 FD.ok RL (Qu K) fun cdv A outer s H vs Q X hr h=>⟨HU K ω X,OS T hr,Oe T vs H Q X h⟩
theorem SF (T:Txt K mg) (A7:Fo P ω K mg base "_law_take" ["_law_well_here","_law_many"] [] 1 (A8 K ω)) {f:Addr} {fd:FuncData} (FD:FunD K "_law_names" "_law_names" (defArgs Bf) (defBody Bf) (defScope Bf) [] [] f fd):FnOk P ω K mg base (L2.CX P ω) 2 f fd ["_law_well_here","_law_many"] (E1 K ω):=
 FD.ok JA (Qv K) fun cdv A outer s H vs Q X hr h=>⟨HV K ω X,OT T A7 hr,Oh T vs H Q X h⟩
theorem Ud (T:Txt K mg) (AR:Fo P ω K mg base "_law_num" ["_law_top","_law_bottom"] [] 2 (Ac K ω)) (A7:Fo P ω K mg base "_law_take" ["_law_well_here","_law_many"] [] 1 (A8 K ω)) {f:Addr} {fd:FuncData} (FD:FunD K "_law_some" "_law_some" (defArgs CT) (defBody CT) (defScope CT) [] [] f fd):FnOk P ω K mg base (L2.CX P ω) 3 f fd ["_law_well_here","_law_kind"] (CL K ω):=
 FD.ok UC (S7 K) fun cdv A outer s H vs Q X hr h=>⟨Iy K ω X,Qe T AR A7 hr,Qx T vs H Q X h⟩
theorem Ue (T:Txt K mg) (CZ:Fo P ω K mg base "_law_some" ["_law_well_here","_law_kind"] [] 3 (CL K ω)) (A7:Fo P ω K mg base "_law_take" ["_law_well_here","_law_many"] [] 1 (A8 K ω)) {f:Addr} {fd:FuncData} (FD:FunD K "_law_wide" "_law_wide" (defArgs CU) (defBody CU) (defScope CU) [] [] f fd):FnOk P ω K mg base (L2.CX P ω) 4 f fd ["_law_well_here","_law_kind"] (Dt K ω):=
 FD.ok Mp (S8 K) fun cdv A outer s H vs Q X hr h=>⟨Iz K ω X,Qf T CZ A7 hr,Qz T vs H Q X h⟩
theorem SG (T:Txt K mg) (AL:Fo P ω K mg base "_law_add" ["_law_one","_law_other"] [] 3 (AW K ω)) (GG:Fo P ω K mg base "_law_names" ["_law_well_here","_law_many"] [] 2 (E1 K ω)) (CZ:Fo P ω K mg base "_law_some" ["_law_well_here","_law_kind"] [] 3 (CL K ω)) (A7:Fo P ω K mg base "_law_take" ["_law_well_here","_law_many"] [] 1 (A8 K ω)) (Fk:Fo P ω K mg base "_law_wide" ["_law_well_here","_law_kind"] [] 4 (Dt K ω)) {f:Addr} {fd:FuncData} (FD:FunD K "_law_sizes" "_law_sizes" (defArgs C0) (defBody C0) (defScope C0) [] [] f fd):FnOk P ω K mg base (L2.CX P ω) 5 f fd ["_law_well_here","_law_many","_law_most","_law_kinds"] (E2 K ω):=
 FD.ok BY (R1 K) fun cdv A outer s H vs Q X hr h=>⟨HW K ω X,OU T AL GG CZ A7 Fk hr,Oj T vs H Q X h⟩
theorem Ug (T:Txt K mg) (AL:Fo P ω K mg base "_law_add" ["_law_one","_law_other"] [] 3 (AW K ω)) (AI:Fo P ω K mg base "_law_less" ["_law_one","_law_other"] [] 4 (AM K ω)) {f:Addr} {fd:FuncData} (FD:FunD K "_law_room" "_law_room" (defArgs CV) (defBody CV) (defScope CV) [] [] f fd):FnOk P ω K mg base (L2.CX P ω) 5 f fd ["_law_size","_law_shift","_law_value_here"] (Ek K ω):=
 FD.ok Cu (S9 K) fun cdv A outer s H vs Q X hr h=>⟨J0 K ω X,Qg T AL AI hr,R4 T vs H Q X h⟩
theorem RG (T:Txt K mg) (AL:Fo P ω K mg base "_law_add" ["_law_one","_law_other"] [] 3 (AW K ω)) (AI:Fo P ω K mg base "_law_less" ["_law_one","_law_other"] [] 4 (AM K ω)) (AZ:Fo P ω K mg base "_law_mul" ["_law_one","_law_other"] [] 3 (Af K ω)) (AR:Fo P ω K mg base "_law_num" ["_law_top","_law_bottom"] [] 2 (Ac K ω)) (HC:Fo P ω K mg base "_law_room" ["_law_size","_law_shift","_law_value_here"] [] 5 (Ek K ω)) (A7:Fo P ω K mg base "_law_take" ["_law_well_here","_law_many"] [] 1 (A8 K ω)) {f:Addr} {fd:FuncData} (FD:FunD K "_law_making" "_law_making" (defArgs BZ) (defBody BZ) (defScope BZ) [] [] f fd):FnOk P ω K mg base (L2.CX P ω) 6 f fd ["_law_well_here","_law_sizes_here"] (DV K ω):=
 FD.ok Bg (Ol K) fun cdv A outer s H vs Q X hr h=>⟨Gm K ω X,Nc T AL AI AZ AR HC A7 hr,Nl T vs H Q X h⟩
theorem Xe (T:Txt K mg) {f:Addr} {fd:FuncData} (FD:FunD K "_law_is" "_law_is" (defArgs DP) (defBody DP) (defScope DP) [] [] f fd):FnOk P ω K mg base (L2.CX P ω) 1 f fd ["_law_found","_law_due"] (FS K ω):=
 FD.ok M5 (WJ K) fun cdv A outer s H vs Q X hr h=>⟨LK K ω X,UF T hr,UU T vs H Q X h⟩
theorem SH (T:Txt K mg) (A7:Fo P ω K mg base "_law_take" ["_law_well_here","_law_many"] [] 1 (A8 K ω)) {f:Addr} {fd:FuncData} (FD:FunD K "_law_words" "_law_words" (defArgs BP) (defBody BP) (defScope BP) [] [] f fd):FnOk P ω K mg base (L2.CX P ω) 2 f fd ["_law_well_here","_law_many"] (E3 K ω):=
 FD.ok Ba (R5 K) fun cdv A outer s H vs Q X hr h=>⟨HX K ω X,OV T A7 hr,On T vs H Q X h⟩
theorem SI (T:Txt K mg) (A7:Fo P ω K mg base "_law_take" ["_law_well_here","_law_many"] [] 1 (A8 K ω)) (GH:Fo P ω K mg base "_law_words" ["_law_well_here","_law_many"] [] 2 (E3 K ω)) {f:Addr} {fd:FuncData} (FD:FunD K "_law_nodes" "_law_nodes" (defArgs Bh) (defBody Bh) (defScope Bh) [] [] f fd):FnOk P ω K mg base (L2.CX P ω) 3 f fd ["_law_well_here","_law_many"] (E4 K ω):=
 FD.ok Eu (R6 K) fun cdv A outer s H vs Q X hr h=>⟨HY K ω X,OW T A7 GH hr,Oq T vs H Q X h⟩
theorem WR (T:Txt K mg) (A7:Fo P ω K mg base "_law_take" ["_law_well_here","_law_many"] [] 1 (A8 K ω)) {f:Addr} {fd:FuncData} (FD:FunD K "_law_few" "_law_few" (defArgs D9) (defBody D9) (defScope D9) [] [] f fd):FnOk P ω K mg base (L2.CX P ω) 2 f fd ["_law_well_here"] (Fj K ω):=
 FD.ok W3 (UV K) fun cdv A outer s H vs Q X hr h=>⟨K6 K ω X,RT T A7 hr,SB T vs H Q X h⟩
theorem SJ (T:Txt K mg) (AR:Fo P ω K mg base "_law_num" ["_law_top","_law_bottom"] [] 2 (Ac K ω)) (A7:Fo P ω K mg base "_law_take" ["_law_well_here","_law_many"] [] 1 (A8 K ω)) {f:Addr} {fd:FuncData} (FD:FunD K "_law_small" "_law_small" (defArgs C1) (defBody C1) (defScope C1) [] [] f fd):FnOk P ω K mg base (L2.CX P ω) 3 f fd ["_law_well_here"] (DC K ω):=
 FD.ok RM (R7 K) fun cdv A outer s H vs Q X hr h=>⟨HZ K ω X,OX T AR A7 hr,Ot T vs H Q X h⟩
theorem RH (T:Txt K mg) (AZ:Fo P ω K mg base "_law_mul" ["_law_one","_law_other"] [] 3 (Af K ω)) {f:Addr} {fd:FuncData} (FD:FunD K "_law_scaled" "_law_scaled" (defArgs BM) (defBody BM) (defScope BM) [] [] f fd):FnOk P ω K mg base (L2.CX P ω) 4 f fd ["_law_sizes_here","_law_by"] (DW K ω):=
 FD.ok B2 (Ou K) fun cdv A outer s H vs Q X hr h=>⟨Gn K ω X,Nf T AZ hr,Np T vs H Q X h⟩
theorem SK (T:Txt K mg) (AL:Fo P ω K mg base "_law_add" ["_law_one","_law_other"] [] 3 (AW K ω)) (AZ:Fo P ω K mg base "_law_mul" ["_law_one","_law_other"] [] 3 (Af K ω)) {f:Addr} {fd:FuncData} (FD:FunD K "_law_value" "_law_value" (defArgs C2) (defBody C2) (defScope C2) [] [] f fd):FnOk P ω K mg base (L2.CX P ω) 4 f fd ["_law_total","_law_making_here"] (B7 K ω):=
 FD.ok Ew (R8 K) fun cdv A outer s H vs Q X hr h=>⟨Ha K ω X,OY T AL AZ hr,Ow T vs H Q X h⟩
theorem P7 (T:Txt K mg) (A7:Fo P ω K mg base "_law_take" ["_law_well_here","_law_many"] [] 1 (A8 K ω)) {f:Addr} {fd:FuncData} (FD:FunD K "_law_factors" "_law_factors" (defArgs BN) (defBody BN) (defScope BN) [] [] f fd):FnOk P ω K mg base (L2.CX P ω) 2 f fd ["_law_well_here","_law_names_here"] (Cn K ω):=
 FD.ok FJ (Nq K) fun cdv A outer s H vs Q X hr h=>⟨GE K ω X,N3 T A7 hr,N9 T vs H Q X h⟩
theorem Uh (T:Txt K mg) (EZ:Fo P ω K mg base "_law_factors" ["_law_well_here","_law_names_here"] [] 2 (Cn K ω)) (Ib:Fo P ω K mg base "_law_few" ["_law_well_here"] [] 2 (Fj K ω)) (AI:Fo P ω K mg base "_law_less" ["_law_one","_law_other"] [] 4 (AM K ω)) (FB:Fo P ω K mg base "_law_making" ["_law_well_here","_law_sizes_here"] [] 6 (DV K ω)) (AZ:Fo P ω K mg base "_law_mul" ["_law_one","_law_other"] [] 3 (Af K ω)) (GI:Fo P ω K mg base "_law_nodes" ["_law_well_here","_law_many"] [] 3 (E4 K ω)) (FC:Fo P ω K mg base "_law_scaled" ["_law_sizes_here","_law_by"] [] 4 (DW K ω)) (GJ:Fo P ω K mg base "_law_sizes" ["_law_well_here","_law_many","_law_most","_law_kinds"] [] 5 (E2 K ω)) (Em:Fo P ω K mg base "_law_small" ["_law_well_here"] [] 3 (DC K ω)) (A7:Fo P ω K mg base "_law_take" ["_law_well_here","_law_many"] [] 1 (A8 K ω)) (As:Fo P ω K mg base "_law_value" ["_law_total","_law_making_here"] [] 4 (B7 K ω)) {f:Addr} {fd:FuncData} (FD:FunD K "_law_case" "_law_case" (defArgs CW) (defBody CW) (defScope CW) [] [] f fd):FnOk P ω K mg base (L2.CX P ω) 7 f fd ["_law_well_here"] (El K ω):=
 FD.ok Ae (SC K) fun cdv A outer s H vs Q X hr h=>⟨J1 K ω X,Qh T EZ Ib AI FB AZ GI FC GJ Em A7 As hr,RA T vs H Q X h⟩
theorem SL (T:Txt K mg) (Bj:Fo P ω K mg base "_law_below" ["_law_one","_law_other"] [] 1 (BO K ω)) (AI:Fo P ω K mg base "_law_less" ["_law_one","_law_other"] [] 4 (AM K ω)) (As:Fo P ω K mg base "_law_value" ["_law_total","_law_making_here"] [] 4 (B7 K ω)) {f:Addr} {fd:FuncData} (FD:FunD K "_law_least" "_law_least" (defArgs C3) (defBody C3) (defScope C3) [] [] f fd):FnOk P ω K mg base (L2.CX P ω) 5 f fd ["_law_gaps","_law_making_here"] (E6 K ω):=
 FD.ok Bb (RB K) fun cdv A outer s H vs Q X hr h=>⟨Hb K ω X,Oa T Bj AI As hr,Oy T vs H Q X h⟩
theorem WS (T:Txt K mg) (AL:Fo P ω K mg base "_law_add" ["_law_one","_law_other"] [] 3 (AW K ω)) (AI:Fo P ω K mg base "_law_less" ["_law_one","_law_other"] [] 4 (AM K ω)) (As:Fo P ω K mg base "_law_value" ["_law_total","_law_making_here"] [] 4 (B7 K ω)) {f:Addr} {fd:FuncData} (FD:FunD K "_law_gap" "_law_gap" (defArgs DA) (defBody DA) (defScope DA) [] [] f fd):FnOk P ω K mg base (L2.CX P ω) 5 f fd ["_law_gap_here","_law_making_here","_law_places"] (EW K ω):=
 FD.ok W4 (UW K) fun cdv A outer s H vs Q X hr h=>⟨FT K ω X,RU T AL AI As hr,SD T vs H Q X h⟩
theorem SM (T:Txt K mg) (Bj:Fo P ω K mg base "_law_below" ["_law_one","_law_other"] [] 1 (BO K ω)) (Ic:Fo P ω K mg base "_law_gap" ["_law_gap_here","_law_making_here","_law_places"] [] 5 (EW K ω)) (Hm:Fo P ω K mg base "_law_is" ["_law_found","_law_due"] [] 1 (FS K ω)) (GK:Fo P ω K mg base "_law_least" ["_law_gaps","_law_making_here"] [] 5 (E6 K ω)) (AI:Fo P ω K mg base "_law_less" ["_law_one","_law_other"] [] 4 (AM K ω)) (Ez:Fo P ω K mg base "gap_at" ["gap","making","places"] [] 5 (DR K ω)) (B4:Fo P ω K mg base "least_places" ["gaps","making"] [] 28 (B6 K ω)) {f:Addr} {fd:FuncData} (FD:FunD K "_law_right" "_law_right" (defArgs Bi) (defBody Bi) (defScope Bi) [] [] f fd):FnOk P ω K mg base (L2.CX P ω) 29 f fd ["_law_gaps","_law_making_here","_law_hidden"] (E7 K ω):=
 FD.ok Ai (RE K) fun cdv A outer s H vs Q X hr h=>⟨Hc K ω X,Ob T Bj Ic Hm GK AI Ez B4 hr,P4 T vs H Q X h⟩
theorem fj (T:Txt K mg) (HD:Fo P ω K mg base "_law_case" ["_law_well_here"] [] 7 (El K ω)) (GL:Fo P ω K mg base "_law_right" ["_law_gaps","_law_making_here","_law_hidden"] [] 29 (E7 K ω)) (HE:Fo P ω K mg base "_law_well" ["_law_script","_law_k"] [] 1 (Ej K ω)) (B4:Fo P ω K mg base "least_places" ["gaps","making"] [] 28 (B6 K ω)) {f:Addr} {fd:FuncData} (FD:FunD K "law" "law" (defArgs LR) (defBody LR) (defScope LR) [] [] f fd):FnOk P ω K mg base (L2.CX P ω) 30 f fd ["_law_script"] (QX K ω):=
 FD.ok QS (dY K) fun cdv A outer s H vs Q X hr h=>⟨YU K ω X,cB T HD GL HE B4 hr,cE T vs H Q X h⟩
end
def d0:He.DefD:=⟨("is_whole",none),"is_whole","is_whole",defArgs Cz,defBody Cz,defScope Cz,[],[]⟩
def d1:He.DefD:=⟨("common",none),"common","common",defArgs Er,defBody Er,defScope Er,[],[]⟩
def d2:He.DefD:=⟨("number_of",none),"number_of","number_of",defArgs CM,defBody CM,defScope CM,[(.int 1:He.Dv)],[]⟩
def d3:He.DefD:=⟨("plus",none),"plus","plus",defArgs J8,defBody J8,defScope J8,[],[]⟩
def d4:He.DefD:=⟨("minus",none),"minus","minus",defArgs Gg,defBody Gg,defScope Gg,[],[]⟩
def d5:He.DefD:=⟨("times",none),"times","times",defArgs Gh,defBody Gh,defScope Gh,[],[]⟩
def d6:He.DefD:=⟨("is_less",none),"is_less","is_less",defArgs Dz,defBody Dz,defScope Dz,[],[]⟩
def d7:He.DefD:=⟨("sum_of",none),"sum_of","sum_of",defArgs EU,defBody EU,defScope EU,[],[]⟩
def d8:He.DefD:=⟨("sum_plus",none),"sum_plus","sum_plus",defArgs D4,defBody D4,defScope D4,[],[]⟩
def d9:He.DefD:=⟨("sum_at",none),"sum_at","sum_at",defArgs Es,defBody Es,defScope Es,[],[]⟩
def d10:He.DefD:=⟨("nodes_of",none),"nodes_of","nodes_of",defArgs D5,defBody D5,defScope D5,[],[]⟩
def d11:He.DefD:=⟨("chains_behind",none),"chains_behind","chains_behind",defArgs Av,defBody Av,defScope Av,[],[]⟩
def d12:He.DefD:=⟨("chains_of",none),"chains_of","chains_of",defArgs CN,defBody CN,defScope CN,[],[]⟩
def d13:He.DefD:=⟨("chain_sum",none),"chain_sum","chain_sum",defArgs CO,defBody CO,defScope CO,[],[]⟩
def d14:He.DefD:=⟨("gap_at",none),"gap_at","gap_at",defArgs Et,defBody Et,defScope Et,[],[]⟩
def d15:He.DefD:=⟨("check_chains",none),"check_chains","check_chains",defArgs BK,defBody BK,defScope BK,[],[]⟩
def d16:He.DefD:=⟨("least_places",none),"least_places","least_places",defArgs BL,defBody BL,defScope BL,[],[]⟩
def d17:He.DefD:=⟨("_law_well",none),"_law_well","_law_well",defArgs CP,defBody CP,defScope CP,[],[]⟩
def d18:He.DefD:=⟨("_law_take",none),"_law_take","_law_take",defArgs CQ,defBody CQ,defScope CQ,[],[]⟩
def d19:He.DefD:=⟨("_law_common",none),"_law_common","_law_common",defArgs BX,defBody BX,defScope BX,[],[]⟩
def d20:He.DefD:=⟨("_law_num",none),"_law_num","_law_num",defArgs D6,defBody D6,defScope D6,[],[]⟩
def d21:He.DefD:=⟨("_law_add",none),"_law_add","_law_add",defArgs D7,defBody D7,defScope D7,[],[]⟩
def d22:He.DefD:=⟨("_law_mul",none),"_law_mul","_law_mul",defArgs D8,defBody D8,defScope D8,[],[]⟩
def d23:He.DefD:=⟨("_law_less",none),"_law_less","_law_less",defArgs CS,defBody CS,defScope CS,[],[]⟩
def d24:He.DefD:=⟨("_law_below",none),"_law_below","_law_below",defArgs Bz,defBody Bz,defScope Bz,[],[]⟩
def d25:He.DefD:=⟨("_law_names",none),"_law_names","_law_names",defArgs Bf,defBody Bf,defScope Bf,[],[]⟩
def d26:He.DefD:=⟨("_law_some",none),"_law_some","_law_some",defArgs CT,defBody CT,defScope CT,[],[]⟩
def d27:He.DefD:=⟨("_law_wide",none),"_law_wide","_law_wide",defArgs CU,defBody CU,defScope CU,[],[]⟩
def d28:He.DefD:=⟨("_law_sizes",none),"_law_sizes","_law_sizes",defArgs C0,defBody C0,defScope C0,[],[]⟩
def d29:He.DefD:=⟨("_law_room",none),"_law_room","_law_room",defArgs CV,defBody CV,defScope CV,[],[]⟩
def d30:He.DefD:=⟨("_law_making",none),"_law_making","_law_making",defArgs BZ,defBody BZ,defScope BZ,[],[]⟩
def d31:He.DefD:=⟨("_law_is",none),"_law_is","_law_is",defArgs DP,defBody DP,defScope DP,[],[]⟩
def d32:He.DefD:=⟨("_law_words",none),"_law_words","_law_words",defArgs BP,defBody BP,defScope BP,[],[]⟩
def d33:He.DefD:=⟨("_law_nodes",none),"_law_nodes","_law_nodes",defArgs Bh,defBody Bh,defScope Bh,[],[]⟩
def d34:He.DefD:=⟨("_law_few",none),"_law_few","_law_few",defArgs D9,defBody D9,defScope D9,[],[]⟩
def d35:He.DefD:=⟨("_law_small",none),"_law_small","_law_small",defArgs C1,defBody C1,defScope C1,[],[]⟩
def d36:He.DefD:=⟨("_law_scaled",none),"_law_scaled","_law_scaled",defArgs BM,defBody BM,defScope BM,[],[]⟩
def d37:He.DefD:=⟨("_law_value",none),"_law_value","_law_value",defArgs C2,defBody C2,defScope C2,[],[]⟩
def d38:He.DefD:=⟨("_law_factors",none),"_law_factors","_law_factors",defArgs BN,defBody BN,defScope BN,[],[]⟩
def d39:He.DefD:=⟨("_law_case",none),"_law_case","_law_case",defArgs CW,defBody CW,defScope CW,[],[]⟩
def d40:He.DefD:=⟨("_law_least",none),"_law_least","_law_least",defArgs C3,defBody C3,defScope C3,[],[]⟩
def d41:He.DefD:=⟨("_law_gap",none),"_law_gap","_law_gap",defArgs DA,defBody DA,defScope DA,[],[]⟩
def d42:He.DefD:=⟨("_law_right",none),"_law_right","_law_right",defArgs Bi,defBody Bi,defScope Bi,[],[]⟩
def d43:He.DefD:=⟨("law",none),"law","law",defArgs LR,defBody LR,defScope LR,[],[]⟩
def fn:List He.DefD:=[d0,d1,d2,d3,d4,d5,d6,d7,d8,d9,d10,d11,d12,d13,d14,d15,d16,d17,d18,d19,d20,d21,d22,d23,d24,d25,d26,d27,d28,d29,d30,d31,d32,d33,d34,d35,d36,d37,d38,d39,d40,d41,d42,d43]
def fa:List He.Fa:=[.free "abs",.free "bool",.free "dict",.free "int",.free "isinstance",.free "len",.free "list",.free "max",.free "min",.free "range",.free "set",.free "sorted",.free "tuple",.glo "NOUGHT",.glo "NoNumber",.glo "NoSum",.glo "ZERO",.glo "is_whole",.glo "common",.glo "number_of",.glo "plus",.glo "minus",.glo "times",.glo "is_less",.glo "sum_of",.glo "sum_plus",.glo "sum_at",.glo "nodes_of",.glo "chains_behind",.glo "chains_of",.glo "chain_sum",.glo "gap_at",.glo "check_chains",.glo "least_places",.glo "_law_well",.glo "_law_take",.glo "_law_common",.glo "_law_num",.glo "_law_add",.glo "_law_mul",.glo "_law_less",.glo "_law_below",.glo "_law_names",.glo "_law_some",.glo "_law_wide",.glo "_law_sizes",.glo "_law_room",.glo "_law_making",.glo "_law_is",.glo "_law_words",.glo "_law_nodes",.glo "_law_few",.glo "_law_small",.glo "_law_scaled",.glo "_law_value",.glo "_law_factors",.glo "_law_case",.glo "_law_least",.glo "_law_gap",.glo "_law_right",.glo "law"]
def ex (K:jf):Bool:=(decide (Fq K (.ref (He.ga K "NOUGHT")) (.tuple [.int (0),.int (1)])=true) && (decide (Fq K (.ref (He.ga K "ZERO")) (.tuple [.int (0),.int (1)])=true) && (excB K (He.ga K "NoNumber") && (excB K (He.ga K "NoSum") && true))))
abbrev R:PySem.W.OpenRow:=PySem.W.OpenLaw.row PySem.Challenge.rw_fitwhatever_k24_least_places
abbrev hk:PySem.W.Hook:=e6 5 fa fn ex
def ob (s:PySem.W.SharedT):AlZ:=aF 5 fa fn ex (HandSHeadRun.getT s)
theorem gn (s:PySem.W.SharedT):ob s=hk.obs s.abs:=aG (HandSHeadRun.getT_eq s)
theorem run (ω:World):HandSHeadRun.RunEq R (PySem.W.view R.prog [56]) hk ob 20000 ((["FitError","NoNumber","NoSum","NoFit","is_whole","common","number_of","plus","minus","times","is_less","NOUGHT","sum_of","sum_plus","sum_at","nodes_of","chains_behind","chains_of","chain_sum","ZERO","gap_at","check_chains","least_places","_law_well","_law_take","_law_common","_law_num","_law_add","_law_mul","_law_less"]:List PySem.Str)++(["_law_below","_law_number","_law_names","_law_some","_law_wide","_law_sizes","_law_room","_law_making","_law_is","_law_words","_law_nodes","_law_few","_law_small","_law_scaled","_law_value","_law_factors","_law_case","_law_least","_law_gap","_law_right"]:List PySem.Str)) ω:=by
 intro os
 kernel_rfl
theorem facts {P:Program} {ω:World} {K:jf} {h:Heap} {mg:Str→Option Value} {f:Addr} (KX:K.In h) (G:h.Ns mainGlobals mg) (hfa:mg ("law":Str)=some (.ref f)) (c:dg fa fn ex K) :
    ∃ fd:FuncData,(∀ (s:Shared) (v:Value),BindsTo s fd ⟨[v],[]⟩ [("_law_script",v)])∧∀ base:Heap,K.In base→base.Ns mainGlobals mg→FnOk P ω K mg base L2.CX0 30 f fd ["_law_script"] (QX K ω):=by
  have ce:=c.2
  unfold ex at ce
  simp only [iN] at ce
  obtain ⟨x0,x1,x2,x3,_⟩:=ce
  have T:Txt K mg:={
    b_abs:=He.free_ok KX G (c.1.fact 0 rfl)
    b_bool:=He.free_ok KX G (c.1.fact 1 rfl)
    b_dict:=He.free_ok KX G (c.1.fact 2 rfl)
    b_int:=He.free_ok KX G (c.1.fact 3 rfl)
    b_isinstance:=He.free_ok KX G (c.1.fact 4 rfl)
    b_len:=He.free_ok KX G (c.1.fact 5 rfl)
    b_list:=He.free_ok KX G (c.1.fact 6 rfl)
    b_max:=He.free_ok KX G (c.1.fact 7 rfl)
    b_min:=He.free_ok KX G (c.1.fact 8 rfl)
    b_range:=He.free_ok KX G (c.1.fact 9 rfl)
    b_set:=He.free_ok KX G (c.1.fact 10 rfl)
    b_sorted:=He.free_ok KX G (c.1.fact 11 rfl)
    b_tuple:=He.free_ok KX G (c.1.fact 12 rfl)
    g_NOUGHT:=He.glo_ok KX G (c.1.fact 13 rfl)
    g_NoNumber:=He.glo_ok KX G (c.1.fact 14 rfl)
    g_NoSum:=He.glo_ok KX G (c.1.fact 15 rfl)
    g_ZERO:=He.glo_ok KX G (c.1.fact 16 rfl)
    c_NOUGHT:=of_decide_eq_true x0
    c_ZERO:=of_decide_eq_true x1
    e_NoNumber:=Xh x2
    e_NoSum:=Xh x3 }
  obtain ⟨fd0,FD0⟩:=c.1.def_ 0 (d:=d0) rfl
  have hg0:mg "is_whole"=some (.ref (He.ga K "is_whole")):=He.glo_ok KX G (c.1.fact 17 (f:=.glo "is_whole") rfl)
  obtain ⟨fd1,FD1⟩:=c.1.def_ 1 (d:=d1) rfl
  have hg1:mg "common"=some (.ref (He.ga K "common")):=He.glo_ok KX G (c.1.fact 18 (f:=.glo "common") rfl)
  obtain ⟨fd2,FD2⟩:=c.1.def_ 2 (d:=d2) rfl
  have hg2:mg "number_of"=some (.ref (He.ga K "number_of")):=He.glo_ok KX G (c.1.fact 19 (f:=.glo "number_of") rfl)
  obtain ⟨fd3,FD3⟩:=c.1.def_ 3 (d:=d3) rfl
  have hg3:mg "plus"=some (.ref (He.ga K "plus")):=He.glo_ok KX G (c.1.fact 20 (f:=.glo "plus") rfl)
  obtain ⟨fd4,FD4⟩:=c.1.def_ 4 (d:=d4) rfl
  have hg4:mg "minus"=some (.ref (He.ga K "minus")):=He.glo_ok KX G (c.1.fact 21 (f:=.glo "minus") rfl)
  obtain ⟨fd5,FD5⟩:=c.1.def_ 5 (d:=d5) rfl
  have hg5:mg "times"=some (.ref (He.ga K "times")):=He.glo_ok KX G (c.1.fact 22 (f:=.glo "times") rfl)
  obtain ⟨fd6,FD6⟩:=c.1.def_ 6 (d:=d6) rfl
  have hg6:mg "is_less"=some (.ref (He.ga K "is_less")):=He.glo_ok KX G (c.1.fact 23 (f:=.glo "is_less") rfl)
  obtain ⟨fd7,FD7⟩:=c.1.def_ 7 (d:=d7) rfl
  have hg7:mg "sum_of"=some (.ref (He.ga K "sum_of")):=He.glo_ok KX G (c.1.fact 24 (f:=.glo "sum_of") rfl)
  obtain ⟨fd8,FD8⟩:=c.1.def_ 8 (d:=d8) rfl
  have hg8:mg "sum_plus"=some (.ref (He.ga K "sum_plus")):=He.glo_ok KX G (c.1.fact 25 (f:=.glo "sum_plus") rfl)
  obtain ⟨fd9,FD9⟩:=c.1.def_ 9 (d:=d9) rfl
  have hg9:mg "sum_at"=some (.ref (He.ga K "sum_at")):=He.glo_ok KX G (c.1.fact 26 (f:=.glo "sum_at") rfl)
  obtain ⟨fd10,FD10⟩:=c.1.def_ 10 (d:=d10) rfl
  have hg10:mg "nodes_of"=some (.ref (He.ga K "nodes_of")):=He.glo_ok KX G (c.1.fact 27 (f:=.glo "nodes_of") rfl)
  obtain ⟨fd11,FD11⟩:=c.1.def_ 11 (d:=d11) rfl
  have hg11:mg "chains_behind"=some (.ref (He.ga K "chains_behind")):=He.glo_ok KX G (c.1.fact 28 (f:=.glo "chains_behind") rfl)
  obtain ⟨fd12,FD12⟩:=c.1.def_ 12 (d:=d12) rfl
  have hg12:mg "chains_of"=some (.ref (He.ga K "chains_of")):=He.glo_ok KX G (c.1.fact 29 (f:=.glo "chains_of") rfl)
  obtain ⟨fd13,FD13⟩:=c.1.def_ 13 (d:=d13) rfl
  have hg13:mg "chain_sum"=some (.ref (He.ga K "chain_sum")):=He.glo_ok KX G (c.1.fact 30 (f:=.glo "chain_sum") rfl)
  obtain ⟨fd14,FD14⟩:=c.1.def_ 14 (d:=d14) rfl
  have hg14:mg "gap_at"=some (.ref (He.ga K "gap_at")):=He.glo_ok KX G (c.1.fact 31 (f:=.glo "gap_at") rfl)
  obtain ⟨fd15,FD15⟩:=c.1.def_ 15 (d:=d15) rfl
  have hg15:mg "check_chains"=some (.ref (He.ga K "check_chains")):=He.glo_ok KX G (c.1.fact 32 (f:=.glo "check_chains") rfl)
  obtain ⟨fd16,FD16⟩:=c.1.def_ 16 (d:=d16) rfl
  have hg16:mg "least_places"=some (.ref (He.ga K "least_places")):=He.glo_ok KX G (c.1.fact 33 (f:=.glo "least_places") rfl)
  obtain ⟨fd17,FD17⟩:=c.1.def_ 17 (d:=d17) rfl
  have hg17:mg "_law_well"=some (.ref (He.ga K "_law_well")):=He.glo_ok KX G (c.1.fact 34 (f:=.glo "_law_well") rfl)
  obtain ⟨fd18,FD18⟩:=c.1.def_ 18 (d:=d18) rfl
  have hg18:mg "_law_take"=some (.ref (He.ga K "_law_take")):=He.glo_ok KX G (c.1.fact 35 (f:=.glo "_law_take") rfl)
  obtain ⟨fd19,FD19⟩:=c.1.def_ 19 (d:=d19) rfl
  have hg19:mg "_law_common"=some (.ref (He.ga K "_law_common")):=He.glo_ok KX G (c.1.fact 36 (f:=.glo "_law_common") rfl)
  obtain ⟨fd20,FD20⟩:=c.1.def_ 20 (d:=d20) rfl
  have hg20:mg "_law_num"=some (.ref (He.ga K "_law_num")):=He.glo_ok KX G (c.1.fact 37 (f:=.glo "_law_num") rfl)
  obtain ⟨fd21,FD21⟩:=c.1.def_ 21 (d:=d21) rfl
  have hg21:mg "_law_add"=some (.ref (He.ga K "_law_add")):=He.glo_ok KX G (c.1.fact 38 (f:=.glo "_law_add") rfl)
  obtain ⟨fd22,FD22⟩:=c.1.def_ 22 (d:=d22) rfl
  have hg22:mg "_law_mul"=some (.ref (He.ga K "_law_mul")):=He.glo_ok KX G (c.1.fact 39 (f:=.glo "_law_mul") rfl)
  obtain ⟨fd23,FD23⟩:=c.1.def_ 23 (d:=d23) rfl
  have hg23:mg "_law_less"=some (.ref (He.ga K "_law_less")):=He.glo_ok KX G (c.1.fact 40 (f:=.glo "_law_less") rfl)
  obtain ⟨fd24,FD24⟩:=c.1.def_ 24 (d:=d24) rfl
  have hg24:mg "_law_below"=some (.ref (He.ga K "_law_below")):=He.glo_ok KX G (c.1.fact 41 (f:=.glo "_law_below") rfl)
  obtain ⟨fd25,FD25⟩:=c.1.def_ 25 (d:=d25) rfl
  have hg25:mg "_law_names"=some (.ref (He.ga K "_law_names")):=He.glo_ok KX G (c.1.fact 42 (f:=.glo "_law_names") rfl)
  obtain ⟨fd26,FD26⟩:=c.1.def_ 26 (d:=d26) rfl
  have hg26:mg "_law_some"=some (.ref (He.ga K "_law_some")):=He.glo_ok KX G (c.1.fact 43 (f:=.glo "_law_some") rfl)
  obtain ⟨fd27,FD27⟩:=c.1.def_ 27 (d:=d27) rfl
  have hg27:mg "_law_wide"=some (.ref (He.ga K "_law_wide")):=He.glo_ok KX G (c.1.fact 44 (f:=.glo "_law_wide") rfl)
  obtain ⟨fd28,FD28⟩:=c.1.def_ 28 (d:=d28) rfl
  have hg28:mg "_law_sizes"=some (.ref (He.ga K "_law_sizes")):=He.glo_ok KX G (c.1.fact 45 (f:=.glo "_law_sizes") rfl)
  obtain ⟨fd29,FD29⟩:=c.1.def_ 29 (d:=d29) rfl
  have hg29:mg "_law_room"=some (.ref (He.ga K "_law_room")):=He.glo_ok KX G (c.1.fact 46 (f:=.glo "_law_room") rfl)
  obtain ⟨fd30,FD30⟩:=c.1.def_ 30 (d:=d30) rfl
  have hg30:mg "_law_making"=some (.ref (He.ga K "_law_making")):=He.glo_ok KX G (c.1.fact 47 (f:=.glo "_law_making") rfl)
  obtain ⟨fd31,FD31⟩:=c.1.def_ 31 (d:=d31) rfl
  have hg31:mg "_law_is"=some (.ref (He.ga K "_law_is")):=He.glo_ok KX G (c.1.fact 48 (f:=.glo "_law_is") rfl)
  obtain ⟨fd32,FD32⟩:=c.1.def_ 32 (d:=d32) rfl
  have hg32:mg "_law_words"=some (.ref (He.ga K "_law_words")):=He.glo_ok KX G (c.1.fact 49 (f:=.glo "_law_words") rfl)
  obtain ⟨fd33,FD33⟩:=c.1.def_ 33 (d:=d33) rfl
  have hg33:mg "_law_nodes"=some (.ref (He.ga K "_law_nodes")):=He.glo_ok KX G (c.1.fact 50 (f:=.glo "_law_nodes") rfl)
  obtain ⟨fd34,FD34⟩:=c.1.def_ 34 (d:=d34) rfl
  have hg34:mg "_law_few"=some (.ref (He.ga K "_law_few")):=He.glo_ok KX G (c.1.fact 51 (f:=.glo "_law_few") rfl)
  obtain ⟨fd35,FD35⟩:=c.1.def_ 35 (d:=d35) rfl
  have hg35:mg "_law_small"=some (.ref (He.ga K "_law_small")):=He.glo_ok KX G (c.1.fact 52 (f:=.glo "_law_small") rfl)
  obtain ⟨fd36,FD36⟩:=c.1.def_ 36 (d:=d36) rfl
  have hg36:mg "_law_scaled"=some (.ref (He.ga K "_law_scaled")):=He.glo_ok KX G (c.1.fact 53 (f:=.glo "_law_scaled") rfl)
  obtain ⟨fd37,FD37⟩:=c.1.def_ 37 (d:=d37) rfl
  have hg37:mg "_law_value"=some (.ref (He.ga K "_law_value")):=He.glo_ok KX G (c.1.fact 54 (f:=.glo "_law_value") rfl)
  obtain ⟨fd38,FD38⟩:=c.1.def_ 38 (d:=d38) rfl
  have hg38:mg "_law_factors"=some (.ref (He.ga K "_law_factors")):=He.glo_ok KX G (c.1.fact 55 (f:=.glo "_law_factors") rfl)
  obtain ⟨fd39,FD39⟩:=c.1.def_ 39 (d:=d39) rfl
  have hg39:mg "_law_case"=some (.ref (He.ga K "_law_case")):=He.glo_ok KX G (c.1.fact 56 (f:=.glo "_law_case") rfl)
  obtain ⟨fd40,FD40⟩:=c.1.def_ 40 (d:=d40) rfl
  have hg40:mg "_law_least"=some (.ref (He.ga K "_law_least")):=He.glo_ok KX G (c.1.fact 57 (f:=.glo "_law_least") rfl)
  obtain ⟨fd41,FD41⟩:=c.1.def_ 41 (d:=d41) rfl
  have hg41:mg "_law_gap"=some (.ref (He.ga K "_law_gap")):=He.glo_ok KX G (c.1.fact 58 (f:=.glo "_law_gap") rfl)
  obtain ⟨fd42,FD42⟩:=c.1.def_ 42 (d:=d42) rfl
  have hg42:mg "_law_right"=some (.ref (He.ga K "_law_right")):=He.glo_ok KX G (c.1.fact 59 (f:=.glo "_law_right") rfl)
  obtain ⟨fd43,FD43⟩:=c.1.def_ 43 (d:=d43) rfl
  have e:=hfa.symm.trans (He.glo_ok KX G (c.1.fact 60 (f:=.glo "law") rfl))
  cases e
  have b:=FunD.bindsA (ps:=["_law_script"]) FD43 fun _ _ _ _ _ _ us hl=>match us,hl with | [_],_=>rfl
  refine ⟨fd43,fun s v=>b s [v] rfl,fun base _ _=>?_⟩
  have O0:=WK (P:=P) (ω:=ω) (base:=base) T FD0
  have GZ:=BI FD0 hg0 O0 (fun _ _ _ _ _ _ us hl=>match us,hl with | [_],_=>rfl)
  have O1:=ZI (P:=P) (ω:=ω) (base:=base) T FD1
  have Kz:=BI FD1 hg1 O1 (fun _ _ _ _ _ _ us hl=>match us,hl with | [_,_],_=>rfl)
  have O2:=UX (P:=P) (ω:=ω) (base:=base) T Kz GZ FD2
  have B3:=eR FD2 hg2 O2 2 1 (List.cons_ne_nil _ _) rfl (fun _ _ _ _ _ _ _ us its hl hl2=>match us,its,hl,hl2 with | [_,_],[_],_,_=>⟨_,rfl,rfl⟩)
  have O3:=dZ (P:=P) (ω:=ω) (base:=base) T B3 FD3
  have DX:=BI FD3 hg3 O3 (fun _ _ _ _ _ _ us hl=>match us,hl with | [_,_],_=>rfl)
  have O4:=cF (P:=P) (ω:=ω) (base:=base) T B3 FD4
  have Gp:=BI FD4 hg4 O4 (fun _ _ _ _ _ _ us hl=>match us,hl with | [_,_],_=>rfl)
  have O5:=cG (P:=P) (ω:=ω) (base:=base) T B3 FD5
  have NB:=BI FD5 hg5 O5 (fun _ _ _ _ _ _ us hl=>match us,hl with | [_,_],_=>rfl)
  have O6:=Xd (P:=P) (ω:=ω) (base:=base) T FD6
  have E8:=BI FD6 hg6 O6 (fun _ _ _ _ _ _ us hl=>match us,hl with | [_,_],_=>rfl)
  have O7:=ZJ (P:=P) (ω:=ω) (base:=base) T DX FD7
  have Ex:=BI FD7 hg7 O7 (fun _ _ _ _ _ _ us hl=>match us,hl with | [_,_],_=>rfl)
  have O8:=WL (P:=P) (ω:=ω) (base:=base) T DX Ex FD8
  have IZ:=BI FD8 hg8 O8 (fun _ _ _ _ _ _ us hl=>match us,hl with | [_,_],_=>rfl)
  have O9:=ZK (P:=P) (ω:=ω) (base:=base) T DX NB FD9
  have Ey:=BI FD9 hg9 O9 (fun _ _ _ _ _ _ us hl=>match us,hl with | [_,_],_=>rfl)
  have O10:=WM (P:=P) (ω:=ω) (base:=base) T FD10
  have Ia:=BI FD10 hg10 O10 (fun _ _ _ _ _ _ us hl=>match us,hl with | [_],_=>rfl)
  have O11:FnOk P ω K mg base (L2.CX P ω) 25 _ _ ["gaps","way"] (Eg K ω):=JU (P:=P) (ω:=ω) (base:=base) T FD11 (fun l sp O=>BI FD11 hg11 O (fun _ _ _ _ _ _ us hl=>match us,hl with | [_,_],_=>rfl)) 24
  have CH:=BI FD11 hg11 O11 (fun _ _ _ _ _ _ us hl=>match us,hl with | [_,_],_=>rfl)
  have O12:=UY (P:=P) (ω:=ω) (base:=base) T CH FD12
  have HB:=BI FD12 hg12 O12 (fun _ _ _ _ _ _ us hl=>match us,hl with | [_],_=>rfl)
  have O13:=UZ (P:=P) (ω:=ω) (base:=base) T Ex IZ FD13
  have HA:=BI FD13 hg13 O13 (fun _ _ _ _ _ _ us hl=>match us,hl with | [_,_],_=>rfl)
  have O14:=ZL (P:=P) (ω:=ω) (base:=base) T Gp DX Ey FD14
  have Ez:=BI FD14 hg14 O14 (fun _ _ _ _ _ _ us hl=>match us,hl with | [_,_,_],_=>rfl)
  have O15:=P5 (P:=P) (ω:=ω) (base:=base) T HA HB E8 Ey FD15
  have EY:=BI FD15 hg15 O15 (fun _ _ _ _ _ _ us hl=>match us,hl with | [_,_],_=>rfl)
  have O16:=P6 (P:=P) (ω:=ω) (base:=base) T EY Ez E8 Gp Ia FD16
  have B4:=BI FD16 hg16 O16 (fun _ _ _ _ _ _ us hl=>match us,hl with | [_,_],_=>rfl)
  have O17:=Ua (P:=P) (ω:=ω) (base:=base) T FD17
  have HE:=BI FD17 hg17 O17 (fun _ _ _ _ _ _ us hl=>match us,hl with | [_,_],_=>rfl)
  have O18:=Ub (P:=P) (ω:=ω) (base:=base) T FD18
  have A7:=BI FD18 hg18 O18 (fun _ _ _ _ _ _ us hl=>match us,hl with | [_,_],_=>rfl)
  have O19:=RF (P:=P) (ω:=ω) (base:=base) T FD19
  have FA:=BI FD19 hg19 O19 (fun _ _ _ _ _ _ us hl=>match us,hl with | [_,_],_=>rfl)
  have O20:=WN (P:=P) (ω:=ω) (base:=base) T FA FD20
  have AR:=BI FD20 hg20 O20 (fun _ _ _ _ _ _ us hl=>match us,hl with | [_,_],_=>rfl)
  have O21:=WO (P:=P) (ω:=ω) (base:=base) T AR FD21
  have AL:=BI FD21 hg21 O21 (fun _ _ _ _ _ _ us hl=>match us,hl with | [_,_],_=>rfl)
  have O22:=WQ (P:=P) (ω:=ω) (base:=base) T AR FD22
  have AZ:=BI FD22 hg22 O22 (fun _ _ _ _ _ _ us hl=>match us,hl with | [_,_],_=>rfl)
  have O23:=Uc (P:=P) (ω:=ω) (base:=base) T AL FD23
  have AI:=BI FD23 hg23 O23 (fun _ _ _ _ _ _ us hl=>match us,hl with | [_,_],_=>rfl)
  have O24:=SE (P:=P) (ω:=ω) (base:=base) T FD24
  have Bj:=BI FD24 hg24 O24 (fun _ _ _ _ _ _ us hl=>match us,hl with | [_,_],_=>rfl)
  have O25:=SF (P:=P) (ω:=ω) (base:=base) T A7 FD25
  have GG:=BI FD25 hg25 O25 (fun _ _ _ _ _ _ us hl=>match us,hl with | [_,_],_=>rfl)
  have O26:=Ud (P:=P) (ω:=ω) (base:=base) T AR A7 FD26
  have CZ:=BI FD26 hg26 O26 (fun _ _ _ _ _ _ us hl=>match us,hl with | [_,_],_=>rfl)
  have O27:=Ue (P:=P) (ω:=ω) (base:=base) T CZ A7 FD27
  have Fk:=BI FD27 hg27 O27 (fun _ _ _ _ _ _ us hl=>match us,hl with | [_,_],_=>rfl)
  have O28:=SG (P:=P) (ω:=ω) (base:=base) T AL GG CZ A7 Fk FD28
  have GJ:=BI FD28 hg28 O28 (fun _ _ _ _ _ _ us hl=>match us,hl with | [_,_,_,_],_=>rfl)
  have O29:=Ug (P:=P) (ω:=ω) (base:=base) T AL AI FD29
  have HC:=BI FD29 hg29 O29 (fun _ _ _ _ _ _ us hl=>match us,hl with | [_,_,_],_=>rfl)
  have O30:=RG (P:=P) (ω:=ω) (base:=base) T AL AI AZ AR HC A7 FD30
  have FB:=BI FD30 hg30 O30 (fun _ _ _ _ _ _ us hl=>match us,hl with | [_,_],_=>rfl)
  have O31:=Xe (P:=P) (ω:=ω) (base:=base) T FD31
  have Hm:=BI FD31 hg31 O31 (fun _ _ _ _ _ _ us hl=>match us,hl with | [_,_],_=>rfl)
  have O32:=SH (P:=P) (ω:=ω) (base:=base) T A7 FD32
  have GH:=BI FD32 hg32 O32 (fun _ _ _ _ _ _ us hl=>match us,hl with | [_,_],_=>rfl)
  have O33:=SI (P:=P) (ω:=ω) (base:=base) T A7 GH FD33
  have GI:=BI FD33 hg33 O33 (fun _ _ _ _ _ _ us hl=>match us,hl with | [_,_],_=>rfl)
  have O34:=WR (P:=P) (ω:=ω) (base:=base) T A7 FD34
  have Ib:=BI FD34 hg34 O34 (fun _ _ _ _ _ _ us hl=>match us,hl with | [_],_=>rfl)
  have O35:=SJ (P:=P) (ω:=ω) (base:=base) T AR A7 FD35
  have Em:=BI FD35 hg35 O35 (fun _ _ _ _ _ _ us hl=>match us,hl with | [_],_=>rfl)
  have O36:=RH (P:=P) (ω:=ω) (base:=base) T AZ FD36
  have FC:=BI FD36 hg36 O36 (fun _ _ _ _ _ _ us hl=>match us,hl with | [_,_],_=>rfl)
  have O37:=SK (P:=P) (ω:=ω) (base:=base) T AL AZ FD37
  have As:=BI FD37 hg37 O37 (fun _ _ _ _ _ _ us hl=>match us,hl with | [_,_],_=>rfl)
  have O38:=P7 (P:=P) (ω:=ω) (base:=base) T A7 FD38
  have EZ:=BI FD38 hg38 O38 (fun _ _ _ _ _ _ us hl=>match us,hl with | [_,_],_=>rfl)
  have O39:=Uh (P:=P) (ω:=ω) (base:=base) T EZ Ib AI FB AZ GI FC GJ Em A7 As FD39
  have HD:=BI FD39 hg39 O39 (fun _ _ _ _ _ _ us hl=>match us,hl with | [_],_=>rfl)
  have O40:=SL (P:=P) (ω:=ω) (base:=base) T Bj AI As FD40
  have GK:=BI FD40 hg40 O40 (fun _ _ _ _ _ _ us hl=>match us,hl with | [_,_],_=>rfl)
  have O41:=WS (P:=P) (ω:=ω) (base:=base) T AL AI As FD41
  have Ic:=BI FD41 hg41 O41 (fun _ _ _ _ _ _ us hl=>match us,hl with | [_,_,_],_=>rfl)
  have O42:=SM (P:=P) (ω:=ω) (base:=base) T Bj Ic Hm GK AI Ez B4 FD42
  have GL:=BI FD42 hg42 O42 (fun _ _ _ _ _ _ us hl=>match us,hl with | [_,_,_],_=>rfl)
  exact cK (fj T HD GL HE B4 FD43) cL
end N24
open PySem PySem.W PySem.Calls PyProof.Rows
set_option maxRecDepth 100000 in
set_option maxHeartbeats 0 in
theorem PySem.Challenge.cw_fitwhatever_k24_least_places_holds : PySem.Challenge.rw_fitwhatever_k24_least_places.Holds := by
  w_on;o_law
  refine HandSHeadRun.head_any (r:=OpenLaw.row PySem.Challenge.rw_fitwhatever_k24_least_places) (q:=view (OpenLaw.row PySem.Challenge.rw_fitwhatever_k24_least_places).prog [56]) (H:=N24.hk) (ob:=N24.ob) (M:=20000) (loose:=(["FitError","NoNumber","NoSum","NoFit","is_whole","common","number_of","plus","minus","times","is_less","NOUGHT","sum_of","sum_plus","sum_at","nodes_of","chains_behind","chains_of","chain_sum","ZERO","gap_at","check_chains","least_places","_law_well","_law_take","_law_common","_law_num","_law_add","_law_mul","_law_less"]:List PySem.Str)++(["_law_below","_law_number","_law_names","_law_some","_law_wide","_law_sizes","_law_room","_law_making","_law_is","_law_words","_law_nodes","_law_few","_law_small","_law_scaled","_law_value","_law_factors","_law_case","_law_least","_law_gap","_law_right"]:List PySem.Str)) (d:=HandSHeadRun.topDef (OpenLaw.row PySem.Challenge.rw_fitwhatever_k24_least_places).prog 56) (kwd:=[]) N24.gn
    (by kernel_rfl) (fun s=>by kernel_rfl) N24.run (by kernel_rfl) (by kernel_rfl) (by kernel_rfl) (by rfl) (by first | assumption | decide +kernel) (by decide +kernel) ⟨rfl,rfl,rfl,rfl,rfl,by decide +kernel⟩ ?hw ?hc
  case hw=>w_witness2
  case hc=>
    refine L2.walk_ofE (l:=PySem.Challenge.rw_fitwhatever_k24_least_places) (n:=63) (k:=30) (x:="_law_script") (CX:=L2.CX0) rfl (by decide) (by kernel_rfl) ⟨rfl,by decide,by decide⟩ ?F ?X
    case X=>exact fun _ _ _ _ z=>z
    case F=>
      intro ω mg fa h Y G hmg0
      obtain ⟨K,KX,c⟩:=Y
      have hmg:mg ("law":PySem.Str)=some (.ref fa):=by
        have e:(HandSHeadRun.topDef (OpenLaw.row PySem.Challenge.rw_fitwhatever_k24_least_places).prog 56).name=("law":PySem.Str):=by kernel_rfl
        rw [← e]
        exact hmg0
      obtain ⟨fd,hb,hF⟩:=N24.facts (P:=(PySem.Challenge.rw_fitwhatever_k24_least_places).prog) (ω:=ω) KX G hmg c
      exact ⟨K,fd,N24.QX K ω,KX,hb,fun H a ns hl _ hS=>TL.eT hl hS,hF⟩
