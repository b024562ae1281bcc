import PyProof.Rows.All
import Wide.All
import OpenK.AllK
import Wide.FinOn
import HandS.TupSets
import HandS.Comp
import HandS.Dict
import KE.KDictKeyed
import KE.SortData
import HandS.SetBool
import HandS.ForMost
import HandS.TupAny
import HandS.TupMul
import HandS.Wide
import PyProof.StrBlock2
import KE.KeyNested
import HandS.SetFor
import HandS.Zip
import HandS.Conv
import HandS.Sort
import PyProof.EqAt
import PyProof.NeKinds
import PyProof.ReprRoads
import PyProof.Rows.StrOr
import HandS.Exc
import HandS.ExcCtx
import HandS.Text
import HandS.StrMore
import KE.SortKeyed
import HandS.Style
import HandS.IsInst
import HandS.TupLe
import HandS.NoneIn
import KE.GoesMore
import KE.GoesEnumKw
import HandS.Property
import HandS.FStr
import HandS.OwnEq
import HandS.Ends
import HandS.Words
import HandS.Star
import HandS.ExcSuper
import HandS.ExcInit
import KE.KExcSuper
import KE.KExcInit
import HandS.RaiseFrom
import HandS.SuiteRaise
import HandS.ExcInitHot
import HandS.TryMany
import HandS.ExcField
import KE.KExcIs
import KE.KIsAll
import HandS.ExcIs
import HandS.Strs
import HandS.ReCall
import KE.KOpsOwn
import HandS.ClsMeth
import KE.KUnpackStar
import HandS.GenList
import KE.KDictZip
import KE.KExcPX
import HandS.HotCalls
import HandS.ExcValue
import HandS.DictComp
import HandS.SetKeys
import HandS.TupLen
import KE.LtData
import HandS.Iter
import HandS.Defaults
import HandS.More
import HandS.Finally
import KE.KDictSum
import PyProof.ReprBulk
import PySem.Challenge.RW_twostrokes_k23_plans_of_any_value
set_option linter.all false
set_option Elab.async false
set_option maxRecDepth 100000
set_option maxHeartbeats 4000000
namespace Mv
open PySem PySem.Spec PyProof.Rows L2
def gs:Nat->Nat
 | 0=>0
 | n + 1=>5 * gs n + 1
theorem gs_pow:∀ n,5 ^ n = 4 * gs n + 1
 | 0=>rfl
 | n + 1=>by rw [Nat.pow_succ,gs_pow n]; show _ = 4 * (5 * gs n + 1) + 1; omega
theorem gs_add (n:Nat):∀ q,gs (n + q) = 5 ^ q * gs n + gs q
 | 0=>by show gs n = 5 ^ 0 * gs n + 0; rw [Nat.pow_zero,Nat.one_mul,Nat.add_zero]
 | q + 1=>by
  show 5 * gs (n + q) + 1 = 5 ^ (q + 1) * gs n + (5 * gs q + 1)
  rw [gs_add n q,Nat.pow_succ,Nat.mul_comm (5 ^ q) 5,Nat.mul_assoc]
  omega
theorem gs_two:∀ k,∃ o,gs (2 ^ k) = 2 ^ k * (2 * o + 1)
 | 0=>⟨0,rfl⟩
 | k + 1=>by
  obtain ⟨o,e⟩:=gs_two k
  refine ⟨2 * (gs (2 ^ k) * o) + o + gs (2 ^ k),?_⟩
  rw [Nat.pow_succ,Nat.mul_two,gs_add,gs_pow]
  generalize gs (2 ^ k) = g at e ⊢
  generalize 2 ^ k = p at e ⊢
  grind
theorem mod_two (p y j:Nat) (hp:0 < p) (hy:y < p + p) (hj:j < p + p) (e:y % p = j % p):y = j∨(y + p) % (p + p) = j:=by
 have f (x:Nat) (hx:x < p + p):x = x % p∨x = x % p + p:=by
  by_cases c:x < p
  ·exact .inl (Nat.mod_eq_of_lt c).symm
  ·refine .inr ?_
   have h:x % p = x - p:=by rw [Nat.mod_eq_sub_mod (by omega),Nat.mod_eq_of_lt (by omega)]
   omega
 have lt:j % p < p:=Nat.mod_lt _ hp
 rcases f y hy with a | a <;> rcases f j hj with b | b
 ·exact .inl (by omega)
 ·exact .inr (by rw [Nat.mod_eq_of_lt (by omega)]; omega)
 ·refine .inr ?_
  rw [show y + p = (p + p) + j by omega,Nat.add_mod_left,Nat.mod_eq_of_lt hj]
 ·exact .inl (by omega)
theorem gs_hit:∀ k j,j < 2 ^ k->∃ n,n < 2 ^ k∧gs n % 2 ^ k = j
 | 0,j,h=>⟨0,by decide,by rw [Nat.pow_zero] at h ⊢; show 0 % 1 = j; omega⟩
 | k + 1,j,h=>by
  obtain ⟨o,e⟩:=gs_two k
  have hp:0 < 2 ^ k:=Nat.pow_pos (by decide)
  obtain ⟨n,hn,en⟩:=gs_hit k (j % 2 ^ k) (Nat.mod_lt _ hp)
  rw [Nat.pow_succ,Nat.mul_two] at h ⊢
  have e2:gs (n + 2 ^ k) = (gs n + 2 ^ k) + (2 ^ k + 2 ^ k) * (4 * (gs n * o) + 2 * gs n + o):=by
   rw [gs_add,gs_pow,e]
   generalize 2 ^ k = p
   generalize gs n = g
   grind
  generalize 2 ^ k = p at *
  have mp:gs n % (p + p) % p = j % p:=by rw [<- en,<- Nat.mul_two,Nat.mod_mul_right_mod]
  rcases mod_two p _ j hp (Nat.mod_lt _ (by omega)) h mp with c | c
  ·exact ⟨n,by omega,c⟩
  ·refine ⟨n + p,by omega,?_⟩
   rw [e2,Nat.add_mul_mod_self_left]
   rw [<- c,Nat.mod_add_mod]
def MaskG (m:Nat):Prop:=∃ k,3<=k∧m + 1 = 2 ^ k
theorem lcgN_gs (m:Nat):∀ n,lcgN m n = gs n % (m + 1)
 | 0=>(Nat.zero_mod _).symm
 | n + 1=>by
  show (lcgN m n * 5 + 1) % (m + 1) = (5 * gs n + 1) % (m + 1)
  rw [lcgN_gs m n,Nat.mul_comm 5,Nat.add_mod,Nat.mul_mod,Nat.mod_mod,<- Nat.mul_mod,<- Nat.add_mod]
theorem lcgG_all {m:Nat} (hm:MaskG m) {j:Nat} (hj:j<=m):∃ b,b<=m∧lcgN m b = j:=by
 obtain ⟨k,_,e⟩:=hm
 obtain ⟨n,h1,h2⟩:=gs_hit k j (by omega)
 exact ⟨n,by omega,by rw [lcgN_gs,e]; exact h2⟩
theorem lcgG_round {m:Nat} (hm:MaskG m):lcgN m (m + 1) = 0:=by
 obtain ⟨k,_,e⟩:=hm
 obtain ⟨o,e2⟩:=gs_two k
 rw [lcgN_gs,e,e2,Nat.mul_mod_right]
theorem lcgG_mod {m:Nat} (hm:MaskG m):∀ k,lcgN m (m + 1 + k) = lcgN m k
 | 0=>lcgG_round hm
 | k + 1=>congrArg (fun x=>(x * 5 + 1) % (m + 1)) (lcgG_mod hm k)
theorem lcgG_from {m:Nat} (hm:MaskG m) {i j:Nat} (hi:i<=m) (hj:j<=m):∃ k,k<=m∧lcgI m i k = j:=by
 obtain ⟨a,ha,rfl⟩:=lcgG_all hm hi
 obtain ⟨b,hb,rfl⟩:=lcgG_all hm hj
 by_cases c:a<=b
 ·exact ⟨b - a,by omega,by rw [lcgN_add,Nat.add_sub_cancel' c]⟩
 ·exact ⟨m + 1 + b - a,by omega,by rw [lcgN_add,show a + (m + 1 + b - a) = m + 1 + b by omega,lcgG_mod hm]⟩
theorem runG_meets {m:Nat} (hm:MaskG m) (h:Int) {j:Nat} (hj:j<=m):∃ n,n<=m + 12∧runI m (SetTable.bits h) n = j:=by
 obtain ⟨k,hk,e⟩:=lcgG_from hm (runI_le m (SetTable.bits h) 12) hj
 exact ⟨12 + k,by omega,(runI_tail (bits_lt h) k).trans e⟩
abbrev wy (m:Nat) (h:Int) (k:Nat):Nat:=way m h k
theorem wy_le (m:Nat) (h:Int) (k:Nat):wy m h k<=m:=by
 have hi:SetTable.bits h % (m + 1)<=m:=Nat.le_of_lt_succ (Nat.mod_lt _ (Nat.succ_pos _))
 have b:=runEnd_bd hi
 have q:=nth_in (m:=m) k (runAt m (SetTable.bits h % (m + 1)) (SetTable.bits h)) (by
  show SetTable.bits h % (m + 1) + (SetTable.runEnd m (SetTable.bits h % (m + 1)) - SetTable.bits h % (m + 1))<=m
  omega)
 exact Nat.le_trans (Nat.le_add_right _ _) q
theorem wy_meets {m:Nat} (hm:MaskG m) (h:Int) {j:Nat} (hj:j<=m):∃ n K,n<=m + 12∧K = off m (SetTable.bits h % (m + 1)) (SetTable.bits h) n∧K<=10 * n∧wy m h K = j:=by
 obtain ⟨n,hn,e⟩:=runG_meets hm h hj
 refine ⟨n,_,hn,rfl,?_,?_⟩
 ·have key:∀ n i b,i<=m->off m i b n<=10 * n:=by
   intro n
   induction n with
   | zero=>intro i b _; exact Nat.zero_le _
   | succ n ih =>
    intro i b hi
    have r:=runEnd_bd hi
    have:=ih _ (SetTable.leap m i b).2 (leap_le m i b)
    show SetTable.runEnd m i - i + 1 + off m (SetTable.leap m i b).1 (SetTable.leap m i b).2 n<=10 * (n + 1)
    omega
  exact key n _ _ (Nat.le_of_lt_succ (Nat.mod_lt _ (Nat.succ_pos _)))
 ·show (nth m (runAt m (SetTable.bits h % (m + 1)) (SetTable.bits h)) _).j = j
  rw [nth_off,itL_run]
  exact e
theorem slot_left (l:List Nat) (m:Nat) (h:l.length<=m):∃ j,j<=m∧j ∉ l:=by
 obtain ⟨j,h1,h2⟩:=st_missing l (m + 1) (by omega)
 exact ⟨j,by omega,h2⟩
theorem wy_first {m:Nat} (hm:MaskG m) (h:Int) (p:Nat->Prop) {j:Nat} (hj:j<=m) (hp:p j) :
  ∃ n K,n<=m + 12∧K<=off m (SetTable.bits h % (m + 1)) (SetTable.bits h) n∧K<=10 * n∧p (wy m h K)∧∀ k,k < K->¬ p (wy m h k):=by
 obtain ⟨n,K0,hn,e0,hK,e⟩:=wy_meets hm h hj
 obtain ⟨K,k1,k2,k3⟩:=st_least (p:=fun k=>p (wy m h k)) K0 (by rw [e]; exact hp)
 exact ⟨n,K,hn,by rw [<- e0]; exact k1,Nat.le_trans k1 hK,k2,k3⟩
structure TabG (t:SetTable) (hs:List Int):Prop where
 ris:Ris t.place.toList
 dm:t.dummies = #[]
 sz:t.place.size = hs.length
 mok:MaskG t.mask
 bd:∀ x∈t.place.toList,x<=t.mask
 reach:∀ (i:Nat) (h:Int) (j:Nat),hs[i]? = some h->t.place.toList[i]? = some j->∃ k,wy t.mask h k = j∧∀ k',k' < k->wy t.mask h k'∈t.place.toList
theorem MaskG.odd {m:Nat} (h:MaskG m):m % 2 = 1:=by
 obtain ⟨k,hk,e⟩:=h
 obtain ⟨q,rfl⟩:∃ q,k = q + 1:=⟨k - 1,by omega⟩
 rw [Nat.pow_succ] at e
 omega
theorem TabG.first {t:SetTable} {hs:List Int} (T:TabG t hs) (hl:hs.length<=t.mask) (h:Int):∃ K,K < 10 * SetTable.turns t.mask∧wy t.mask h K ∉ t.place.toList∧∀ k,k < K->wy t.mask h k∈t.place.toList:=by
 obtain ⟨j,hj,hn⟩:=slot_left t.place.toList t.mask (by rw [Array.length_toList,T.sz]; exact hl)
 obtain ⟨n,K,h1,_,h2,h3,h4⟩:=wy_first T.mok h (fun x=>x ∉ t.place.toList) hj hn
 exact ⟨K,by unfold SetTable.turns; omega,h3,fun k hk=>Classical.not_not.mp (h4 k hk)⟩
theorem TabG.before {t:SetTable} {hs:List Int} (T:TabG t hs) {h:Int} {K i j:Nat} (hK:wy t.mask h K ∉ t.place.toList) (hi:hs[i]? = some h) (hj:t.place.toList[i]? = some j):∃ k,k < K∧wy t.mask h k = j:=by
 obtain ⟨k,e,hb⟩:=T.reach i h j hi hj
 refine ⟨k,Nat.lt_of_not_le fun c=>hK ?_,e⟩
 rcases Nat.lt_or_eq_of_le c with d | d
 ·exact hb K d
 ·rw [d,e]; exact List.mem_of_getElem? hj
theorem TabG.put {t:SetTable} {hs:List Int} (T:TabG t hs) {h:Int} {K j:Nat} (ej:wy t.mask h K = j) (hK:j ∉ t.place.toList) (hb:∀ k,k < K->wy t.mask h k∈t.place.toList) :
  (t.put j).2<=hs.length∧TabG (t.put j).1 (hs.take (t.put j).2 ++ h :: hs.drop (t.put j).2) ∧
  (t.put j).1.mask = t.mask∧(t.put j).1.led = t.led∧(t.put j).1.plain = t.plain∧(t.put j).1.fill = hs.length + 1:=by
 have hp:(t.put j).2 = SetTable.below t.place j:=rfl
 have c1:SetTable.below t.place j<=t.place.size:=(below_cut T.ris j).1
 have hpl:SetTable.below t.place j<=t.place.toList.length:=by rw [Array.length_toList]; exact c1
 have hph:SetTable.below t.place j<=hs.length:=T.sz ▸ c1
 have hpp:=put_place t j
 have hsize:(t.put j).1.place.size = hs.length + 1:=by
  rw [<- Array.length_toList,hpp,len_ins _ hpl,Array.length_toList,T.sz]
 have up:∀ x,x∈t.place.toList->x∈(t.put j).1.place.toList:=fun x hx=>by rw [hpp]; exact mem_ins.2 (.inr hx)
 rw [hp]
 refine ⟨hph,⟨ris_insert T.ris fun e=>hK (List.mem_of_getElem? (by rw [Array.getElem?_toList]; exact e)),put_dm T.dm j,by rw [len_ins _ hph]; exact hsize,T.mok,fun x hx=>?_,fun i h' j' h1 h2=>?_⟩,rfl,rfl,rfl,?_⟩
 ·rw [hpp] at hx
  rcases mem_ins.1 hx with z | z
  ·rw [z,<- ej]; exact wy_le ..
  ·exact T.bd x z
 ·show ∃ k,wy t.mask h' k = j'∧∀ k',k' < k->wy t.mask h' k'∈(t.put j).1.place.toList
  rw [tins_get hs hph] at h1
  rw [hpp,tins_get _ hpl] at h2
  have old:∀ i,hs[i]? = some h'->t.place.toList[i]? = some j'->∃ k,wy t.mask h' k = j'∧∀ k',k' < k->wy t.mask h' k'∈(t.put j).1.place.toList:=fun i a b=>by
   obtain ⟨k,e,z⟩:=T.reach i h' j' a b
   exact ⟨k,e,fun k' hk'=>up _ (z k' hk')⟩
  by_cases c:i < SetTable.below t.place j
  ·rw [if_pos c] at h1 h2; exact old i h1 h2
  ·rw [if_neg c] at h1 h2
   by_cases d:i = SetTable.below t.place j
   ·rw [if_pos d] at h1 h2
    cases h1
    cases h2
    exact ⟨K,ej,fun k' hk'=>up _ (hb k' hk')⟩
   ·rw [if_neg d] at h1 h2; exact old _ h1 h2
 ·show (t.put j).1.place.size + (t.put j).1.dummies.size = hs.length + 1
  rw [hsize,put_dm T.dm j]
  rfl
end Mv
namespace Mv
open PySem PySem.Spec PyProof.Rows L2
theorem isNone_iff {x:Option Nat}:x.isNone = true↔x = none:=by cases x <;> simp
theorem freeG_find {m:Nat} (hm:MaskG m) (owner:Array (Option Nat)) (h:Int) {j:Nat} (hj:j<=m) (hf:oAt owner j = none) :
  ∃ K,SetTable.layClean.free m owner (SetTable.turns m) (SetTable.bits h % (m + 1)) (SetTable.bits h) = some (wy m h K)∧oAt owner (wy m h K) = none∧∀ k,k < K->oAt owner (wy m h k)≠none:=by
 obtain ⟨n,K,h1,h2,_,h3,h4⟩:=wy_first hm h (fun x=>oAt owner x = none) hj hf
 refine ⟨K,free_spec m owner (SetTable.turns m) n _ _ K (by unfold SetTable.turns; omega) h2 (fun k hk=>?_) (isNone_iff.mpr h3),h3,h4⟩
 cases e:oAt owner (nth m (runAt m (SetTable.bits h % (m + 1)) (SetTable.bits h)) k).j with
 | none=>exact absurd e (h4 k hk)
 | some _=>rfl
theorem own_step {m:Nat} (hm:MaskG m) {done:List Int} {owner:Array (Option Nat)} (W:Own m done owner) (hl:done.length<=m) (h:Int) :
  ∃ j,SetTable.layClean.free m owner (SetTable.turns m) (SetTable.bits h % (m + 1)) (SetTable.bits h) = some j∧Own m (done ++ [h]) (owner.setIfInBounds j (some done.length)):=by
 obtain ⟨ps,hps,hin⟩:=W.ps
 obtain ⟨j0,h0,hn0⟩:=slot_left ps m (by omega)
 obtain ⟨K,e1,e2,e3⟩:=freeG_find hm owner h h0 (Classical.byContradiction fun c=>hn0 (hin j0 h0 c))
 have hjm:=wy_le m h K
 generalize ej:wy m h K = j at *
 have hself:=oAt_set_self (owner:=owner) (some done.length) (show j < owner.size by rw [W.sz]; omega)
 have grows (i:Nat) (hi:oAt owner i≠none):oAt (owner.setIfInBounds j (some done.length)) i≠none:=by
  by_cases c:i = j
  ·rw [c,hself]; exact fun z=>nomatch z
  ·rw [oAt_set_ne _ c]; exact hi
 refine ⟨j,e1,⟨by rw [Array.size_setIfInBounds]; exact W.sz,fun i k hi e=>?_,fun k hk=>?_,⟨j :: ps,by rw [List.length_cons,List.length_append,hps]; rfl,fun i hi e=>?_⟩⟩⟩
 ·by_cases c:i = j
  ·rw [c,hself] at e
   cases e
   exact ⟨h,K,by rw [List.getElem?_append_right (Nat.le_refl _),Nat.sub_self]; rfl,ej.trans c.symm,fun k' hk'=>grows _ (e3 k' hk')⟩
  ·rw [oAt_set_ne _ c] at e
   obtain ⟨h',K',a1,a2,a3⟩:=W.at_ i k hi e
   exact ⟨h',K',by rw [List.getElem?_append_left (List.getElem?_eq_some_iff.mp a1).1]; exact a1,a2,fun k' hk'=>grows _ (a3 k' hk')⟩
 ·rcases Nat.lt_or_eq_of_le (Nat.le_of_lt_succ (show k < done.length + 1 by simpa using hk)) with c | c
  ·obtain ⟨i,hi,e⟩:=W.all k c
   exact ⟨i,hi,by rw [oAt_set_ne _ fun z=>(by rw [z,e2] at e; cases e)]; exact e⟩
  ·exact ⟨j,hjm,by rw [c]; exact hself⟩
 ·by_cases c:i = j
  ·rw [c]; exact List.mem_cons_self
  ·rw [oAt_set_ne _ c] at e
   exact List.mem_cons_of_mem _ (hin i hi e)
theorem own_fold {m:Nat} (hm:MaskG m):∀ (rest done:List Int) (owner:Array (Option Nat)),Own m done owner->done.length + rest.length<=m ->
  ∃ owner',rest.foldl (stepF m) (some (owner,done.length)) = some (owner',(done ++ rest).length)∧Own m (done ++ rest) owner'
 | [],done,owner,W,_=>⟨owner,by rw [List.append_nil]; rfl,by rw [List.append_nil]; exact W⟩
 | h :: rest,done,owner,W,hl=>by
  rw [List.length_cons] at hl
  obtain ⟨j,e,W'⟩:=own_step hm W (by omega) h
  obtain ⟨o2,f,W2⟩:=own_fold hm rest (done ++ [h]) _ W' (by rw [List.length_append,List.length_singleton]; omega)
  rw [List.append_assoc] at f W2
  refine ⟨o2,?_,W2⟩
  rw [List.foldl_cons,stepF_some e]
  rw [List.length_append] at f
  exact f
theorem layG_ok {m:Nat} (hm:MaskG m) {hs:Array Int} (hn:hs.size<=m):∃ owner,SetTable.layClean m hs = some owner∧Own m hs.toList owner:=by
 obtain ⟨owner,f,W⟩:=own_fold hm hs.toList [] _ (Own.init m) (by rw [Array.length_toList]; simpa using hn)
 refine ⟨owner,?_,W⟩
 rw [layClean_eq]
 rw [show hs.toList.foldl (stepF m) (some (Array.replicate (m + 1) none,0)) = some (owner,([] ++ hs.toList).length) from f]
 rfl
theorem relaidG_ok (t:SetTable) {hs:Array Int} {wanted M:Nat} (hw:SetTable.sizeAbove wanted - 1 = M) (hM:MaskG M) (hn:hs.size<=M) :
  ∃ t' order,t.relaid hs wanted = some (t',order)∧order.toList.Perm (List.range hs.size)∧TabG t' (order.toList.map fun i=>hs.getD i 0)∧t'.mask = M∧t'.led = t.led∧t'.plain = t.plain:=by
 obtain ⟨owner,e,W⟩:=layG_ok hM hn
 have ris:=ris_live (fun j=>owner.getD j none) (List.range (M + 1)) (by unfold Ris; exact List.pairwise_lt_range)
 have r1:Ris ((liveOf M owner).map (·.1)):=ris.1
 have r2:∀ x∈(liveOf M owner).map (·.1),x∈List.range (M + 1):=ris.2
 have get:∀ k,k < hs.size->∃ j,(j,k)∈liveOf M owner:=fun k hk=>by
  obtain ⟨j,a,b⟩:=W.all k (by rw [Array.length_toList]; exact hk)
  exact ⟨j,(mem_live W.sz).2 ⟨a,b⟩⟩
 have hlen:(liveOf M owner).length = hs.size:=by
  obtain ⟨ps,p1,p2⟩:=W.ps
  have nd:((liveOf M owner).map (·.1)).Nodup:=List.Pairwise.imp (fun h=>Nat.ne_of_lt h) r1
  have a:((liveOf M owner).map (·.1)).length<=ps.length:=nat_nodup_len _ ps nd fun x hx=>by
   obtain ⟨⟨y,k⟩,hq,rfl⟩:=List.mem_map.mp hx
   obtain ⟨b1,b2⟩:=(mem_live W.sz).1 hq
   exact p2 y b1 (by rw [b2]; exact fun z=>nomatch z)
  have b:(List.range hs.size).length<=((liveOf M owner).map (·.2)).length:=nat_nodup_len (List.range hs.size) ((liveOf M owner).map (·.2)) List.nodup_range fun k hk=>by
   obtain ⟨j,hj⟩:=get k (List.mem_range.mp hk)
   exact List.mem_map.mpr ⟨_,hj,rfl⟩
  rw [List.length_map,p1] at a
  have hz:hs.toList.length = hs.size:=rfl
  rw [List.length_map,List.length_range] at b
  omega
 refine ⟨tabOf t M owner,((liveOf M owner).map (·.2)).toArray,by rw [relaid_eq,hw,e]; rfl,?_,⟨r1,rfl,?_,hM,fun x hx=>Nat.le_of_lt_succ (List.mem_range.mp (r2 x hx)),fun i h j h1 h2=>?_⟩,rfl,rfl,rfl⟩
 ·refine perm_range hs.size _ (by rw [List.length_map]; exact hlen) fun k hk=>?_
  obtain ⟨j,hj⟩:=get k hk
  exact List.mem_map.mpr ⟨_,hj,rfl⟩
 ·show ((liveOf M owner).map (·.1)).toArray.size = (((liveOf M owner).map (·.2)).map fun i=>hs.getD i 0).length
  simp
 ·replace h1:(((liveOf M owner).map (·.2)).map fun i=>hs.getD i 0)[i]? = some h:=h1
  replace h2:((liveOf M owner).map (·.1))[i]? = some j:=h2
  rw [List.getElem?_map,List.getElem?_map] at h1
  rw [List.getElem?_map] at h2
  cases hq:(liveOf M owner)[i]? with
  | none=>rw [hq] at h2; cases h2
  | some q =>
   obtain ⟨y,k⟩:=q
   rw [hq] at h1 h2
   obtain rfl:y = j:=Option.some.inj h2
   obtain ⟨b1,b2⟩:=(mem_live W.sz).1 (List.mem_of_getElem? hq)
   obtain ⟨h0,K,a1,a2,a3⟩:=W.at_ y k b1 b2
   have e0:hs.getD k 0 = h0:=by
    rw [Array.getD_eq_getD_getElem?,<- Array.getElem?_toList,a1]; rfl
   obtain rfl:h0 = h:=e0.symm.trans (Option.some.inj h1)
   refine ⟨K,a2,fun k' hk'=>?_⟩
   show wy M h0 k'∈(liveOf M owner).map (·.1)
   cases z:oAt owner (wy M h0 k') with
   | none=>exact absurd z (a3 k' hk')
   | some k2=>exact List.mem_map.mpr ⟨(_,k2),(mem_live W.sz).2 ⟨wy_le ..,z⟩,rfl⟩
theorem sizeGo (n:Nat):∀ f k,n < 2 ^ (k + f)->3<=k->(k = 3∨2 ^ (k - 1)<=n)->∃ q,3<=q∧SetTable.sizeAbove.go n f (2 ^ k) = 2 ^ q∧n < 2 ^ q∧(q = 3∨2 ^ (q - 1)<=n)
 | 0,k,h,h3,h4=>⟨k,h3,rfl,h,h4⟩
 | f + 1,k,h,h3,h4=>by
  unfold SetTable.sizeAbove.go
  by_cases c:2 ^ k<=n
  ·rw [if_pos c,<- Nat.pow_succ]
   exact sizeGo n f (k + 1) (by rw [show k + 1 + f = k + (f + 1) by omega]; exact h) (by omega) (.inr c)
  ·rw [if_neg c]
   exact ⟨k,h3,rfl,Nat.lt_of_not_le c,h4⟩
theorem size_ok {n:Nat} (h:n < 2 ^ 60):∃ q,3<=q∧SetTable.sizeAbove n = 2 ^ q∧n < 2 ^ q∧(q = 3∨2 ^ (q - 1)<=n) :=
 sizeGo n 64 3 (Nat.lt_of_lt_of_le h (Nat.pow_le_pow_right (by decide) (by decide))) (Nat.le_refl _) (.inl rfl)
theorem grown_ok {n:Nat} (h0:0 < n) (h:n<=1000000):∃ M,SetTable.sizeAbove (SetTable.grown n) - 1 = M∧MaskG M∧n * 5 < M * 3∧SetTable.sizeAbove (SetTable.grown n)<=8 * n + 8:=by
 have hg:2 * n<=SetTable.grown n∧SetTable.grown n<=4 * n:=by unfold SetTable.grown; split <;> omega
 obtain ⟨q,q3,e,hq,hb⟩:=size_ok (n:=SetTable.grown n) (Nat.lt_of_le_of_lt (show SetTable.grown n<=4000000 by omega) (by decide))
 refine ⟨2 ^ q - 1,by rw [e],⟨q,q3,Nat.sub_add_cancel (Nat.pow_pos (by decide))⟩,by omega,?_⟩
 rw [e]
 rcases hb with rfl | hb
 ·omega
 ·obtain ⟨r,rfl⟩:∃ r,q = r + 1:=⟨q - 1,by omega⟩
  rw [Nat.add_sub_cancel] at hb
  rw [Nat.pow_succ]
  omega
end Mv
namespace Mv
open PySem PySem.Spec PyProof.Rows L2
mutual
def noTxt:NestedKey->Bool
 | .none=>true
 | .num _=>true
 | .text _=>false
 | .tup ks=>noTxts ks
def noTxts:List NestedKey->Bool
 | []=>true
 | k :: ks=>noTxt k && noTxts ks
end
def NoD (H:Hp) (a:Addr):Prop:=∃ (q:Obj) (u:HO),H a = some (.frz q u)∧q.cls = .type "tuple"∧q.dict = none
def SqN (K:PySem.W.Frag) (H:Hp) (a:Addr) (xs:List V):Prop:=SqT K H a xs∧NoD H a
theorem SqN.of {K:PySem.W.Frag} {H:Hp} {a:Addr} {q:Obj} {xs:List V} (h:H a = some (.frz q (.tup xs))) (hc:q.cls = .type "tuple") (hd:q.dict = none):SqN K H a xs:=⟨.inl (.inr ⟨q,h⟩),q,_,h,hc,hd⟩
mutual
inductive KVn (K:PySem.W.Frag) (H:Hp):NestedKey->V->Prop
 | non:KVn K H .none .non
 | int (i:Int):KVn K H (.num i) (.int i)
 | tup {a:Addr} {xs:List V} {ks:List NestedKey}:SqN K H a xs->KVns K H ks xs->KVn K H (.tup ks) (.ref a)
inductive KVns (K:PySem.W.Frag) (H:Hp):List NestedKey->List V->Prop
 | nil:KVns K H [] []
 | cons {k:NestedKey} {v:V} {ks:List NestedKey} {vs:List V}:KVn K H k v->KVns K H ks vs->KVns K H (k :: ks) (v :: vs)
end
section
variable {K:PySem.W.Frag} {H H':Hp}
mutual
theorem KVn.mono (tp:∀ a xs,SqN K H a xs->SqN K H' a xs):∀ (k:NestedKey) (v:V),KVn K H k v->KVn K H' k v
 | .none,_,h=>by cases h; exact .non
 | .num i,_,h=>by cases h; exact .int i
 | .text x,_,h=>by cases h
 | .tup ks,_,h=>by
  cases h with
  | tup h1 h2=>exact .tup (tp _ _ h1) (KVns.mono tp ks _ h2)
theorem KVns.mono (tp:∀ a xs,SqN K H a xs->SqN K H' a xs):∀ (ks:List NestedKey) (vs:List V),KVns K H ks vs->KVns K H' ks vs
 | [],_,h=>by cases h; exact .nil
 | k :: ks,_,h=>by
  cases h with
  | cons h1 h2=>exact .cons (KVn.mono tp k _ h1) (KVns.mono tp ks _ h2)
end
end
section
variable {P:Program} {w:World}
abbrev IsN (P:Program) (w:World) (h:Heap) (k:NestedKey) (b:Addr):Prop:=(nestedKind P w).is h k b
theorem IsN.keep {h h':Heap} {k:NestedKey} {b:Addr} (x:IsN P w h k b) (hk:∀ c o,h.get? c = some o->h'.get? c = some o):IsN P w h' k b:=⟨NestedIs.at (fun c o _ _ e _=>hk c o e) _ _ x.1,x.2⟩
end
section
variable {X:Cx} {pins:List (Addr × Obj)} {σ:L2.St} {H:Hp} {s:Shared}
mutual
theorem KVn.nested (I:Inv X pins σ H s):∀ (k:NestedKey) (v:V) (u:Value),KVn X.K H k v->RelV v u->NestedIs s.heap k u
 | .none,_,_,h,r=>by cases h; cases (show _ = Value.none from r); exact .none
 | .num i,_,_,h,r=>by
  cases h
  obtain ⟨t,rfl⟩:=(show ∃ t,_ = Value.int i t from r)
  exact .int i t
 | .text x,_,_,h,_=>by cases h
 | .tup ks,_,_,h,r=>by
  cases h with
  | tup h1 h2 =>
   rename_i a xs
   cases (show _ = Value.ref a from r)
   obtain ⟨its,rv,⟨o,e,ec,m,ed⟩,_⟩:=I.tuple h1.1
   exact .tup e ec ed (by simpa using KVns.nested I ks xs its h2 rv)
theorem KVns.nested (I:Inv X pins σ H s):∀ (ks:List NestedKey) (vs:List V) (us:List Value),KVns X.K H ks vs->Vals vs us->NestedAll s.heap ks us
 | [],_,_,h,r=>by cases h; cases r; exact .nil
 | k :: ks,_,_,h,r=>by
  cases h with
  | cons h1 h2 =>
   cases r with
   | cons r1 r2=>exact .cons (KVn.nested I k _ _ h1 r1) (KVns.nested I ks _ _ h2 r2)
end
mutual
theorem KVn.reads (I:Inv X pins σ H s):∀ (k:NestedKey) (v:V) (u:Value),KVn X.K H k v->RelV v u->Reads s.heap u k.data []
 | .none,_,_,h,r=>by cases h; cases (show _ = Value.none from r); exact .none
 | .num i,_,_,h,r=>by
  cases h
  obtain ⟨t,rfl⟩:=(show ∃ t,_ = Value.int i t from r)
  exact .int i t
 | .text x,_,_,h,_=>by cases h
 | .tup ks,_,_,h,r=>by
  cases h with
  | tup h1 h2 =>
   rename_i a xs
   cases (show _ = Value.ref a from r)
   obtain ⟨its,rv,⟨o,e,ec,m,ed⟩,_⟩:=I.tuple h1.1
   exact .tuple e ec ed (by simpa using KVns.reads I ks xs its h2 rv)
theorem KVns.reads (I:Inv X pins σ H s):∀ (ks:List NestedKey) (vs:List V) (us:List Value),KVns X.K H ks vs->Vals vs us->ReadsAll s.heap us (NestedKey.datas ks) []
 | [],_,_,h,r=>by cases h; cases r; exact .nil
 | k :: ks,_,_,h,r=>by
  cases h with
  | cons h1 h2 =>
   cases r with
   | cons r1 r2=>exact .cons (KVn.reads I k _ _ h1 r1) (KVns.reads I ks _ _ h2 r2)
end
end
mutual
def hashT:NestedKey->Int
 | .none=>reduceHash 0xFCA86420
 | .num i=>hashInt i
 | .text _=>0
 | .tup ks=>reduceHash (Builtin.Tuple.tupleHashOf (hashTs ks))
def hashTs:List NestedKey->List Int
 | []=>[]
 | k :: ks=>hashT k :: hashTs ks
end
abbrev XE3:=NestedKey × Addr × V
def RelX (x:XE3) (y:NestedKey × Addr × Value):Prop:=x.1 = y.1∧x.2.1 = y.2.1∧RelV x.2.2 y.2.2
def DctAt (h:Heap) (a:Addr) (xs:List XE3):Prop:=(a == sysModules) = false∧xs.length<=100000∧(xs.map (·.1)).Nodup∧(∀ x∈xs,noTxt x.1 = true) ∧
 ∃ ys:List (NestedKey × Addr × Value),Paired RelX xs ys∧∃ o es ep,h.get? a = some o∧o.ExactDict∧o.data = .dict es ep∧es.toList = ys.map fun y=>(⟨hashT y.1,.ref y.2.1,y.2.2⟩:DictEntry)
def DctO (a:Addr) (xs:List XE3):HO:=.ext fun h=>DctAt h a xs
def atX (xs:List XE3) (k:NestedKey):Option V:=(xs.find? fun x=>decide (x.1 = k)).map (·.2.2)
def putX (xs:List XE3) (k:NestedKey) (b:Addr) (v:V):List XE3:=if (atX xs k).isSome then xs.map (fun x=>if x.1 = k then (x.1,x.2.1,v) else x) else xs ++ [(k,b,v)]
section
variable {X:Cx} {pins:List (Addr × Obj)} {σ:L2.St} {H:Hp} {s:Shared} {a b:Addr} {xs:List XE3} {k:NestedKey} {A:Around} {E:Value->Shared->Prop}
end
end Mv
namespace Mv
open PySem PySem.Spec PyProof.Rows L2
section
variable {P:Program} {w:World} {A:Around} {E:Value->Shared->Prop}
end
end Mv
namespace Mv
open PySem PySem.Spec PyProof.Rows L2
def nrows (w:World) (L:List (Addr × NestedKey)):List (Int × Value):=L.map fun p=>(p.2.hash w,Value.ref p.1)
abbrev nhs (w:World) (L:List (Addr × NestedKey)):List Int:=L.map fun p=>p.2.hash w
structure SetN (P:Program) (w:World) (h:Heap) (a:Addr) (L:List (Addr × NestedKey)) (es:Array (Int × Value)) (ep:Nat) (t:SetTable):Prop where
 ob:∃ o,h.get? a = some o∧o.ExactSet∧o.data = .set es ep t
 rows:es.toList = nrows w L
 tab:TabG t (nhs w L)
 nd:(L.map (·.2)).Nodup
 tup:∀ p∈L,IsN P w h p.2 p.1
 nt:∀ p∈L,noTxt p.2 = true
 plain:t.plain = true
 led:w.params.followText "set-order" = true∨t.led = true
 room:L.length * 5 < t.mask * 3
 few:L.length < 4096
section
variable {P:Program} {w:World} {A:Around} {E:Value->Shared->Prop} {s:Shared} {a:Addr} {L:List (Addr × NestedKey)} {es:Array (Int × Value)} {ep:Nat} {t:SetTable}
theorem rows_size (h:es.toList = nrows w L):es.size = L.length:=by
 have e:=congrArg List.length h
 unfold nrows at e
 rw [Array.length_toList,List.length_map] at e
 exact e
theorem tab_fits (T:TabG t (nhs w L)) (h:es.toList = nrows w L) (hl:L.length<=t.mask):t.fits es.size = true:=by
 have h1:=T.sz
 rw [List.length_map] at h1
 have h2:=rows_size h
 unfold SetTable.fits SetTable.fill
 rw [T.dm,Bool.and_eq_true,beq_iff_eq,decide_eq_true_eq]
 show t.place.size = es.size∧t.place.size + 0<=t.mask
 omega
theorem SetN.fits (R:SetN P w s.heap a L es ep t):t.fits es.size = true:=tab_fits R.tab R.rows (by have:=R.room; omega)
end
end Mv
namespace Mv
open PySem PySem.Spec PyProof.Rows L2
theorem pick_range {α:Type} (L:List α):(List.range L.length).filterMap (fun i=>L[i]?) = L:=by
 have key:∀ n,n<=L.length->(List.range n).filterMap (fun i=>L[i]?) = L.take n:=by
  intro n
  induction n with
  | zero=>intro _; rfl
  | succ n ih =>
   intro hn
   rw [List.range_succ,List.filterMap_append,ih (by omega),List.take_succ,List.getElem?_eq_getElem (by omega)]
   rw [List.filterMap_cons_some (List.getElem?_eq_getElem (by omega))]
   rfl
 rw [key _ (Nat.le_refl _),List.take_length]
theorem pick_map {α β:Type} (L:List α) (f:α->β) (d:β):∀ l:List Nat,(∀ i∈l,i < L.length)->(l.filterMap fun i=>L[i]?).map f = l.map fun i=>(L.map f).toArray.getD i d
 | [],_=>rfl
 | i :: l,h=>by
  have hi:=h i List.mem_cons_self
  rw [List.filterMap_cons_some (List.getElem?_eq_getElem hi),List.map_cons,List.map_cons,pick_map L f d l fun j hj=>h j (List.mem_cons_of_mem _ hj)]
  congr 1
  simp [Array.getD_eq_getD_getElem?,hi]
section
variable {P:Program} {w:World} {A:Around} {E:Value->Shared->Prop} {s:Shared} {a:Addr} {L:List (Addr × NestedKey)} {es:Array (Int × Value)} {ep:Nat} {t:SetTable}
end
end Mv
namespace Mv
open PySem PySem.Spec PyProof.Rows L2 PpSet
def SetN0 (P:Program) (w:World) (h:Heap) (a:Addr) (L:List (Addr × NestedKey)):Prop :=
 ∃ (es:Array (Int × Value)) (ep:Nat) (t:SetTable),(∃ o,h.get? a = some o∧o.ExactSet∧o.data = .set es ep t)∧es.toList = nrows w L∧TabG t (nhs w L)∧(L.map (·.2)).Nodup∧(∀ p∈L,noTxt p.2 = true)∧t.plain = true ∧
  (w.params.followText "set-order" = true∨t.led = true)∧L.length * 5 < t.mask * 3∧L.length < 4096
section
variable {P:Program} {w:World} {h:Heap} {a:Addr} {L:List (Addr × NestedKey)}
theorem SetN.n0 {es:Array (Int × Value)} {ep:Nat} {t:SetTable} (R:SetN P w h a L es ep t):SetN0 P w h a L:=⟨es,ep,t,R.ob,R.rows,R.tab,R.nd,R.nt,R.plain,R.led,R.room,R.few⟩
end
section
variable {X:Cx} {pins:List (Addr × Obj)} {σ:L2.St} {H:Hp} {s:Shared}
end
end Mv
namespace Mv
open PySem L2
inductive LV where
 | non | bl (b:Bool) | int (i:Int) | str (s:Str) | tup (xs:List LV) | ref (n:Nat)
inductive LO where
 | lst (xs:List LV)
 | frz (ns:List Int)
 | dic (kvs:List (Key × LV))
 /-- an instance of the class of this name -/
 | ins (c:Str) (fs:List (Str × LV))
 /-- a tuple that is known whole -/
 | dtp (ds:List LV)
 /-- the class of this name -/
 | cls (c:Str)
 /-- an exception of the class of this name,held as a value -/
 | exn (c:Str) (fs:List (Str × LV))
 /-- a dict whose keys are nested tuples -/
 | dct (kvs:List (NestedKey × LV))
 /-- a dict that stays as it is from now on -/
 | frd (kvs:List (Key × LV))
 /-- a dict whose keys are nested tuples,that stays as it is from now on -/
 | frt (kvs:List (NestedKey × LV))
abbrev LH:=List LO
inductive Out (α:Type) where
 | ok (a:α) (L:LH)
 | ex (c:Str) (fs:List (Str × LV)) (L:LH)
def M (α:Type):Type:=LH->Option (Out α)
def M.ret {α:Type} (a:α):M α:=fun L=>some (.ok a L)
def M.no {α:Type}:M α:=fun _=>none
def M.bind {α β:Type} (m:M α) (f:α->M β):M β:=fun L =>
 match m L with
 | some (.ok a L1)=>f a L1
 | some (.ex c fs L1)=>some (.ex c fs L1)
 | none=>none
theorem M.bind_bind {α β γ:Type} (m:M α) (f:α->M β) (g:β->M γ):M.bind (M.bind m f) g = M.bind m fun x=>M.bind (f x) g:=by
 funext L
 unfold M.bind
 cases m L with
 | none=>rfl
 | some o=>cases o <;> rfl
theorem M.bind_ret {α β:Type} (a:α) (f:α->M β):M.bind (M.ret a) f = f a:=rfl
def M.quiet {α:Type} (m:M α):M α:=fun L=>match m L with
 | some (.ok a L')=>some (.ok a L')
 | _=>none
def M.raise {α:Type} (c:Str) (fs:List (Str × LV)):M α:=fun L=>some (.ex c fs L)
def M.chk {α:Type} (b:Bool) (m:M α):M α:=if b then m else M.no
def M.ofO {α β:Type} (o:Option α) (f:α->M β):M β:=match o with | some a=>f a | none=>M.no
def M.look {α β:Type} (g:LH->Option α) (f:α->M β):M β:=fun L=>match g L with | some a=>f a L | none=>none
def optAll {α β:Type} (f:α->Option β):List α->Option (List β)
 | []=>some []
 | x :: r=>match f x,optAll f r with
  | some y,some ys=>some (y :: ys)
  | _,_=>none
def itemsL (L:LH):LV->Option (List LV)
 | .ref n=>match L[n]? with
  | some (.lst xs)=>some xs
  | some (.frz ns)=>some (ns.map .int)
  | _=>none
 | _=>none
def items (L:LH):LV->Option (List LV)
 | .tup xs=>some xs
 | v=>itemsL L v
def toD (L:LH):Nat->LV->Option PyData
 | 0,_=>none
 | n + 1,v=>match v with
  | .non=>some .none
  | .bl b=>some (.bool b)
  | .int i=>some (.int i)
  | .str s=>some (.str s)
  | .tup xs=>(optAll (toD L n) xs).map .tuple
  | .ref k=>match L[k]? with
   | some (.lst xs)=>(optAll (toD L n) xs).map .list
   | some (.frz ns)=>some (.list (ns.map .int))
   | _=>none
def intL:List LV->Option (List Int)
 | []=>some []
 | .int i :: r=>(intL r).map (i :: ·)
 | _ :: _=>none
def blL:List LV->Option (List Bool)
 | []=>some []
 | .bl i :: r=>(blL r).map (i :: ·)
 | _ :: _=>none
def keyOf:LV->Option Key
 | .int i=>some (.inl i)
 | .str s=>some (.inr s)
 | _=>none
def dval (kvs:List (Key × LV)) (k:Key):Option LV:=(kvs.find? fun kv=>decide (kv.1 = k)).map (·.2)
def dput (kvs:List (Key × LV)) (k:Key) (v:LV):List (Key × LV) :=
 if (kvs.any fun kv=>decide (kv.1 = k)) = true then kvs.map (fun kv=>if kv.1 = k then (kv.1,v) else kv) else kvs ++ [(k,v)]
def small (n:Nat):Bool:=decide (n<=sizeLine)
inductive BOp where | add | sub | mul | fdiv | mod | pow
inductive COp where | eq | ne | lt | le | gt | ge | inn | nin | iss | isn
def isNon:LV->Bool
 | .non=>true
 | _=>false
def new (o:LO):M LV:=fun L=>some (.ok (.ref L.length) (L ++ [o]))
def setO (n:Nat) (o:LO):M Unit:=fun L=>some (.ok () (L.set n o))
def mulOk (i j:Int):Bool:=decide ((-(2 ^ 64) < i∧i < 2 ^ 64)∨(-(2 ^ 64) < j∧j < 2 ^ 64)∨i.natAbs.log2 + j.natAbs.log2 < 1000000)
def divOk (j:Int):Bool:=decide (0 < j∧j.natAbs.log2 < 9000)
def reps {α:Type} (xs:List α) (k:Int):List α:=(List.replicate k.toNat xs).flatten
def catR:Option LO->Option LO->M LV
 | some (.lst xs),some (.lst ys)=>M.chk (small (xs.length + ys.length)) (new (.lst (xs ++ ys)))
 | _,_=>M.no
def repR (k:Int):Option LO->M LV
 | some (.lst xs)=>M.chk (decide (-(2 ^ 63)<=k∧k < 2 ^ 63) && small (xs.length * k.toNat)) (new (.lst (reps xs k)))
 | _=>M.no
def binV (op:BOp) (x y:LV):M LV :=
 match op,x,y with
 | .add,.int i,.int j=>M.ret (.int (i + j))
 | .sub,.int i,.int j=>M.ret (.int (i - j))
 | .mul,.int i,.int j=>M.chk (mulOk i j) (M.ret (.int (i * j)))
 | .fdiv,.int i,.int j=>M.chk (divOk j) (M.ret (.int (i / j)))
 | .mod,.int i,.int j=>M.chk (decide (0 < j)) (M.ret (.int (i % j)))
 | .pow,.int i,.int j=>M.chk (decide (0<=j∧j<=1000000∧i.natAbs < 2 ^ 64)) (M.ret (.int (i ^ j.toNat)))
 | .add,.str a,.str b=>M.chk (small (a.length + b.length)) (M.ret (.str (a ++ b)))
 | .add,.tup a,.tup b=>M.chk (small (a.length + b.length)) (M.ret (.tup (a ++ b)))
 | .add,.ref a,.ref b=>fun L=>catR L[a]? L[b]? L
 | .mul,.ref a,.int k=>fun L=>repR k L[a]? L
 | .mul,.tup xs,.int k=>M.chk (decide (-(2 ^ 63)<=k∧k < 2 ^ 63) && small (xs.length * k.toNat)) (M.ret (.tup (reps xs k)))
 | .mul,.str s,.int k=>M.chk (decide (0<=k∧k<=1000∧s.length<=1000)) (M.ret (.str (Txt.mul s k)))
 | _,_,_=>M.no
def augV (op:BOp) (x y:LV):M LV :=
 match op,x,y with
 | .add,.int i,.int j=>M.ret (.int (i + j))
 | .sub,.int i,.int j=>M.ret (.int (i - j))
 | .mul,.int i,.int j=>M.chk (decide ((-(2 ^ 64) < i∧i < 2 ^ 64)∨(-(2 ^ 64) < j∧j < 2 ^ 64))) (M.ret (.int (i * j)))
 | .fdiv,.int i,.int j=>M.chk (decide (0 < j∧j < 1073741824)) (M.ret (.int (i / j)))
 | _,_,_=>M.no
def eqVd (L:LH) (x y:LV):Option Bool :=
 match toD L 66 x,toD L 66 y with
 | some d,some e=>if SeqAt.shaped d && SeqAt.shaped e then some (PyData.eqv d e) else none
 | _,_=>none
def strPair:LV->LV->Option Bool
 | .str a,.str b=>some (decide (a = b))
 | _,_=>none
def empPair (L:LH):LV->LV->Option Bool
 | .tup xs,.tup []=>some xs.isEmpty
 | .ref a,.ref b=>match L[a]?,L[b]? with
  | some (.lst xs),some (.lst [])=>some xs.isEmpty
  | _,_=>none
 | _,_=>none
def eqV (L:LH) (x y:LV):Option Bool :=
 match strPair x y with
 | some b=>some b
 | none=>match empPair L x y with
  | some b=>some b
  | none=>eqVd L x y
def flat:LV->Bool
 | .non | .bl _ | .int _ | .str _=>true
 | _=>false
def flatEq:LV->LV->Bool
 | .non,.non=>true
 | .bl a,.bl b=>a == b
 | .int a,.int b=>a == b
 | .str a,.str b=>a == b
 | .bl a,.int b=>(if a then 1 else 0) == b
 | .int a,.bl b=>a == (if b then 1 else 0)
 | _,_=>false
def inSeq (x:LV) (xs:List LV):Bool:=xs.any fun y=>flatEq y x
def cmpV (op:COp) (x y:LV):M LV :=
 match op,x,y with
 | .eq,x,y=>M.look (fun L=>eqV L x y) fun b=>M.ret (.bl b)
 | .ne,x,y=>M.look (fun L=>eqV L x y) fun b=>M.ret (.bl (!b))
 | .lt,.int i,.int j=>M.ret (.bl (decide (i < j)))
 | .le,.int i,.int j=>M.ret (.bl (decide (i<=j)))
 | .gt,.int i,.int j=>M.ret (.bl (decide (j < i)))
 | .ge,.int i,.int j=>M.ret (.bl (decide (j<=i)))
 | .lt,.tup a,.tup b=>M.ofO (intL a) fun m=>M.ofO (intL b) fun n=>M.ret (.bl (HT.lexLt m n))
 | .inn,x,y=>M.look (fun L=>items L y) fun ys=>M.chk (flat x && ys.all flat) (M.ret (.bl (inSeq x ys)))
 | .iss,.bl a,.bl b=>M.ret (.bl (decide (a = b)))
 | .isn,.bl a,.bl b=>M.ret (.bl (!decide (a = b)))
 | .iss,x,.non=>M.ret (.bl (isNon x))
 | .isn,x,.non=>M.ret (.bl (!isNon x))
 | .nin,x,y=>M.look (fun L=>items L y) fun ys=>M.chk (flat x && ys.all flat) (M.ret (.bl (!inSeq x ys)))
 | _,_,_=>M.no
def dmerge (kvs more:List (Key × LV)):List (Key × LV):=more.foldl (fun acc kv=>dput acc kv.1 kv.2) kvs
def dctR (n:Nat) (kvs:List (Key × LV)):Option LO->M LV
 | some (.dic [])=>M.bind (setO n (.dic kvs)) fun _=>M.ret (.ref n)
 | _=>M.no
def ixR:Option LO->LV->M LV
 | some (.lst xs),.int i=>M.ofO (atI xs i) M.ret
 | some (.frz ns),.int i=>M.ofO (atI ns i) fun j=>M.ret (.int j)
 | some (.dic kvs),k=>M.ofO ((keyOf k).bind (dval kvs)) M.ret
 | some (.frd kvs),k=>M.ofO ((keyOf k).bind (dval kvs)) M.ret
 | _,_=>M.no
def ixV (x y:LV):M LV :=
 match x,y with
 | .tup xs,.int i=>M.ofO (atI xs i) M.ret
 | .str s,.int i=>M.chk (small s.length) (M.ofO (atI s.cps.toList i) fun c=>M.ret (.str ⟨#[c]⟩))
 | .ref n,k=>fun L=>ixR L[n]? k L
 | _,_=>M.no
def cut {α:Type} (xs:List α) (lo hi:Option Int):List α:=(xs.drop (HT.sIx xs.length 0 lo)).take (HT.sIx xs.length xs.length hi - HT.sIx xs.length 0 lo)
def slV (x:LV) (lo hi:Option Int):M LV :=
 match x with
 | .tup xs=>M.ret (.tup (cut xs lo hi))
 | .ref n=>M.look (fun L=>itemsL L (.ref n)) fun xs=>new (.lst (cut xs lo hi))
 | _=>M.no
def revV (x:LV):M LV :=
 match x with
 | .tup xs=>M.ret (.tup xs.reverse)
 | .ref n=>M.look (fun L=>itemsL L (.ref n)) fun xs=>new (.lst xs.reverse)
 | _=>M.no
def setR (n:Nat) (v:LV):Option LO->LV->M Unit
 | some (.lst xs),.int k=>M.ofO (ixN xs.length k) fun j=>setO n (.lst (xs.set j v))
 | some (.dic kvs),k=>M.ofO (keyOf k) fun k=>M.chk (decide (kvs.length < sizeLine)) (setO n (.dic (dput kvs k v)))
 | _,_=>M.no
def setV (o i v:LV):M Unit :=
 match o with
 | .ref n=>fun L=>setR n v L[n]? i L
 | _=>M.no
def keyD:Key->PyData
 | .inl i=>.int i
 | .inr s=>.str s
def toRD (L:LH):Nat->LV->Option PyData
 | 0,_=>none
 | n + 1,v=>match v with
  | .non=>some .none
  | .bl b=>some (.bool b)
  | .int i=>some (.int i)
  | .str s=>some (.str s)
  | .tup xs=>(optAll (toRD L n) xs).map .tuple
  | .ref k=>match L[k]? with
   | some (.lst xs)=>(optAll (toRD L n) xs).map .list
   | some (.frz ns)=>some (.list (ns.map .int))
   | some (.dic kvs)=>(optAll (toRD L n) (kvs.map (·.2))).map fun ds=>.dict ((kvs.map fun kv=>keyD kv.1).zip ds)
   | _=>none
def toR (L:LH) (x:LV):Option PyData:=toRD L 66 x
def digLim:Nat:=10 ^ 4300
mutual
def showB:PyData->Bool
 | .none | .bool _ | .str _=>true
 | .int i=>decide (i.natAbs < digLim)
 | .list xs | .tuple xs=>showBs xs
 | .dict kvs=>showBk kvs
def showBs:List PyData->Bool
 | []=>true
 | x :: xs=>showB x && showBs xs
def showBk:List (PyData × PyData)->Bool
 | []=>true
 | (k,v) :: r=>showB k && showB v && showBk r
end
inductive Bi where | strB | reprB | len | int | str | repr | list | tuple | abs | min | max | sum | all | any | dict
inductive Ty where | int | bool | str | tuple | list | dict
 deriving DecidableEq
def lenV (L:LH):LV->Option Nat
 | .str s=>if small s.length then some s.length else none
 | .tup xs=>some xs.length
 | .ref n=>match L[n]? with
  | some (.lst xs)=>some xs.length
  | some (.frz xs)=>some xs.length
  | some (.dic kvs)=>some kvs.length
  | _=>none
 | _=>none
def pairL:List LV->Option (List (Key × LV))
 | []=>some []
 | .tup [k,v] :: r=>match keyOf k,pairL r with
  | some k,some kvs=>some ((k,v) :: kvs)
  | _,_=>none
 | _ :: _=>none
def dist (ns:List Int):List Int:=ns.foldl PyProof.Rows.step_dedup []
def lsetV (x:LV):M LV:=M.look (fun L=>(items L x).bind intL) fun ns=>M.chk (decide (ns.length<=4000)) (M.ret (.int ((dist ns).length:Nat)))
def rglV (t:Bool) (a b:Int):M LV :=
 let xs:=(List.range (b - a).toNat).map fun (i:Nat)=>LV.int (a + (i:Int))
 M.chk (decide (-(2 ^ 62)<=a∧a < 2 ^ 62∧-(2 ^ 62)<=b∧b < 2 ^ 62∧(b - a).toNat<=2 ^ 24)) (if t then M.ret (.tup xs) else new (.lst xs))
def rgl1K (t:Bool):LV->M LV
 | .int j=>rglV t 0 j
 | _=>M.no
def rgl2K (t:Bool):LV->LV->M LV
 | .int i,.int j=>rglV t i j
 | _,_=>M.no
def inrV:LV->LV->LV->M LV
 | .int i,.int a,.int b=>M.ret (.bl (decide (a<=i∧i < b)))
 | _,_,_=>M.no
def biV (b:Bi) (xs:List LV):M LV :=
 match b,xs with
 | .len,[x]=>M.look (fun L=>lenV L x) fun n=>M.ret (.int n)
 | .int,[.int i]=>M.ret (.int i)
 | .str,[.int i]=>M.chk (decide (i.natAbs.log2 < 1920)) (M.ret (.str (toString i)))
 | .strB,[.int i]=>M.chk (decide (i.natAbs < digLim)) (M.ret (.str (toString i)))
 | .reprB,[x]=>M.look (fun L=>toR L x) fun d=>M.chk (showB d && small d.shown.length && decide (d.depth<=64)) (M.ret (.str d.shown))
 | .repr,[x]=>M.look (fun L=>toR L x) fun d=>M.chk (d.showable && small d.shown.length && decide (d.depth<=64)) (M.ret (.str d.shown))
 | .list,[x]=>M.look (fun L=>items L x) fun ys=>new (.lst ys)
 | .tuple,[x]=>M.look (fun L=>items L x) fun ys=>M.ret (.tup ys)
 | .abs,[.int i]=>M.ret (.int (if i < 0 then -i else i))
 | .max,[.int i,.int j]=>M.ret (.int (if j > i then j else i))
 | .min,[.int i,.int j]=>M.ret (.int (if j < i then j else i))
 | .sum,[x]=>M.look (fun L=>(itemsL L x).bind intL) fun ns=>M.ret (.int ns.sum)
 | .all,[x]=>M.look (fun L=>(itemsL L x).bind blL) fun bs=>M.ret (.bl (bs.all id))
 | .any,[x]=>M.look (fun L=>(itemsL L x).bind blL) fun bs=>M.ret (.bl (bs.any id))
 | .dict,[x]=>M.look (fun L=>(itemsL L x).bind pairL) fun kvs=>new (.dic (dmerge [] kvs))
 | _,_=>M.no
def tyOf (L:LH):LV->Option (List Ty)
 | .non=>some []
 | .bl _=>some [.bool,.int]
 | .int _=>some [.int]
 | .str _=>some [.str]
 | .tup _=>some [.tuple]
 | .ref n=>match L[n]? with
  | some (.lst _)=>some [.list]
  | some (.dic _)=>some [.dict]
  | _=>none
def isiV (x:LV) (t:Ty):M LV:=M.look (fun L=>tyOf L x) fun ts=>M.ret (.bl (decide (t∈ts)))
def fput (f:Str) (v:LV):List (Str × LV)->List (Str × LV)
 | []=>[(f,v)]
 | (g,x) :: r=>if g = f then (g,v) :: r else (g,x) :: fput f v r
def fldR (cs:List Str) (f:Str):Option LO->M LV
 | some (.ins c fs)=>M.chk (cs.contains c) (M.ofO (fs.lookup f) M.ret)
 | _=>M.no
def fldV (cs:List Str) (f:Str) (x:LV):M LV :=
 match x with
 | .ref n=>fun L=>fldR cs f L[n]? L
 | _=>M.no
def fsetR (cs:List Str) (f:Str) (n:Nat) (v:LV):Option LO->M Unit
 | some (.ins c fs)=>M.chk (cs.contains c && decide (fs.length < 1000)) (setO n (.ins c (fput f v fs)))
 | _=>M.no
def fsetV (cs:List Str) (f:Str) (x v:LV):M Unit :=
 match x with
 | .ref n=>fun L=>fsetR cs f n v L[n]? L
 | _=>M.no
def clsAt {α:Type} (cs:List (Str × α)) (m:Str) (L:LH):LV->Option α
 | .ref n=>match L[n]? with
  | some (.ins c fs)=>if (fs.lookup m).isNone then cs.lookup c else none
  | _=>none
 | _=>none
def clsNm (L:LH):LV->Option Str
 | .ref n=>match L[n]? with
  | some (.ins c _)=>some c
  | _=>none
 | _=>none
def opAt (cs:List (Str × Nat)) (m:Str) (L:LH) (x y:LV):Option Nat:=if clsNm L x = clsNm L y then clsAt cs m L x else none
def yOk (L:LH) (x y:LV):Bool:=match y with
 | .ref m=>match L[m]? with
  | some (.ins _ _)=>decide (clsNm L x = clsNm L y)
  | some (.lst _)=>true
  | some (.dic _)=>true
  | _=>false
 | _=>true
def eqAt (cs:List (Str × Nat)) (L:LH) (x y:LV):Option Nat:=if yOk L x y then clsAt cs "__eq__" L x else none
def isoAt (cs:List (Str × Bool)) (L:LH):LV->Option Bool
 | .ref n=>match L[n]? with
  | some (.ins c _)=>cs.lookup c
  | some (.lst _)=>some false
  | some (.dic _)=>some false
  | _=>none
 | _=>some false
def mkV (R:Nat->List LV->M LV) (c:Str) (g:Nat) (zs:List LV):M LV :=
 M.bind (new (.ins c [])) fun x=>M.bind (R g (x :: zs)) fun r=>match r with
  | .non=>M.ret x
  | _=>M.no
def eqK (ne:Bool):LV->M LV
 | .bl k=>M.ret (.bl (if ne then !k else k))
 | _=>M.no
def ostK (R:Nat->List LV->M LV) (cs:List (Str × Nat)) (x:LV):M LV:=M.look (fun L=>clsAt cs "__str__" L x) fun g=>M.bind (R g [x]) fun r=>match r with
  | .str s=>M.ret (.str s)
  | _=>M.no
def olnK (R:Nat->List LV->M LV) (cs:List (Str × Nat)) (x:LV):M LV:=M.look (fun L=>clsAt cs "__len__" L x) fun g=>M.bind (R g [x]) fun r=>match r with
  | .int n=>M.chk (decide (0<=n∧n < 2 ^ 63)) (M.ret (.int n))
  | _=>M.no
def fmtV:LV->M Str
 | .str s=>M.chk (small s.length) (M.ret s)
 | .int i=>M.chk (decide (i.natAbs < digLim)) (M.ret (toString i))
 | _=>M.no
inductive Mth where | append | pop | extend | index | count
def mthR (n:Nat):Mth->Option LO->List LV->M LV
 | .append,some (.lst ys),[x]=>M.chk (decide (ys.length < sizeLine)) (M.bind (setO n (.lst (ys ++ [x]))) fun _=>M.ret .non)
 | .count,some (.lst ys),[x]=>M.chk (flat x && ys.all flat) (M.ret (.int ((ys.countP fun y=>flatEq y x:Nat):Int)))
 | .index,some (.lst ys),[x]=>M.chk (flat x && ys.all flat) (M.ofO (ys.findIdx? fun y=>flatEq y x) fun (j:Nat)=>M.ret (.int (j:Int)))
 | .pop,some (.lst ys),[]=>M.ofO ys[ys.length - 1]? fun y=>M.bind (setO n (.lst ys.dropLast)) fun _=>M.ret y
 | _,_,_=>M.no
def lstAt (L:LH):LV->Option Unit
 | .ref n=>match L[n]? with
  | some (.lst _)=>some ()
  | _=>none
 | _=>none
def mthV (m:Mth) (o:LV) (xs:List LV):M LV :=
 match o with
 | .ref n=>fun L=>mthR n m L[n]? xs L
 | _=>M.no
def opName:BOp->Str
 | .add=>"__add__"
 | .sub=>"__sub__"
 | .mul=>"__mul__"
 | .fdiv=>"__floordiv__"
 | .mod=>"__mod__"
 | .pow=>"__pow__"
abbrev LSt:=List (Option LV)
inductive Src where
 | fixed (xs:List LV)
 | live (n:Nat) (k:Nat)
 | zipd (x y:LV) (k:Nat)
 | enmd (x:LV) (k:Nat)
 /-- told by what it gives -/
 | sem (k:Nat) (g:Nat->LH->Option LV) (fi:LH->Bool)
def Src.len:Src->Nat
 | .fixed xs=>xs.length
 | .live _ k=>k
 | .zipd _ _ k=>k
 | .enmd _ k=>k
 | .sem k _ _=>k
def Src.at (s:Src) (i:Nat) (L:LH):Option LV:=match s with
 | .fixed xs=>xs[i]?
 | .live n _=>(itemsL L (.ref n)).bind fun xs=>xs[i]?
 | .zipd x y _=>(items L x).bind fun xs=>(items L y).bind fun ys=>(xs[i]?).bind fun a=>(ys[i]?).map fun b=>.tup [a,b]
 | .enmd x _=>(items L x).bind fun xs=>(xs[i]?).map fun a=>.tup [.int (i:Nat),a]
 | .sem _ g _=>g i L
def Src.fin (s:Src) (L:LH):Bool:=match s with
 | .fixed _=>true
 | .live n k=>match itemsL L (.ref n) with
  | some xs=>decide (xs.length<=k)
  | none=>false
 | .zipd x y k=>decide ((items L x).map List.length = some k) && decide ((items L y).map List.length = some k)
 | .enmd x k=>decide ((items L x).map List.length = some k)
 | .sem _ _ fi=>fi L
def zipLen (L:LH) (x y:LV):Option Nat:=(items L x).bind fun xs=>(items L y).bind fun ys=>if xs.length = ys.length then some xs.length else none
def zipK (x y:LV):M Src:=M.look (fun L=>zipLen L x y) fun k=>M.ret (.zipd x y k)
def enmK (x:LV):M Src:=M.look (fun L=>(items L x).map List.length) fun k=>M.ret (.enmd x k)
mutual
inductive IE where
 | var (i:Nat)
 | lit (v:LV)
 | glo (v:LV)
 | bin (op:BOp) (a b:IE)
 | neg (a:IE)
 | cmp (op:COp) (a b:IE)
 | cmp2 (op op':COp) (a b c:IE)
 | and (a b:IE)
 | or (a b:IE)
 | not (a:IE)
 | ife (c a b:IE)
 | tup (es:IEs)
 | lst (es:IEs)
 | dct0
 | dct (ks:List Key) (es:IEs)
 | ix (a b:IE)
 | slc (a:IE) (lo hi:IO)
 | rev (a:IE)
 | bi (b:Bi) (es:IEs)
 | isi (a:IE) (t:Ty)
 | mth (m:Mth) (o:IE) (es:IEs)
 /-- a call of the f-th def: the written values,then where each parameter's value stands among them -/
 | call (f:Nat) (es ks:IEs) (perm:List Nat)
 | lset (a:IE)
 | rgl1 (t:Bool) (b:IE)
 | rgl2 (t:Bool) (a b:IE)
 | inr (x a b:IE)
 | comp (own:List Nat) (t:IT) (it:II) (c:IO) (e:IE)
 /-- x.f of an instance of one of the classes -/
 | fld (cs:List Str) (f:Str) (a:IE)
 /-- x.f,a property: a def for each class -/
 | prp (cs:List (Str × Nat)) (f:Str) (a:IE)
 /-- x.m(..): a def for each class; the written values,the keywords',the defaults -/
 | omt (cs:List (Str × Nat)) (m:Str) (o:IE) (es ks:IEs) (ds:List LV) (perm:List Nat)
 /-- C(..,*y) by the def g: what is behind the first n is one tuple -/
 | mks (c:Str) (g n:Nat) (es:IEs) (so:IO)
 /-- C(..) by the def g -/
 | mk (c:Str) (g:Nat) (es ks:IEs) (ds:List LV) (perm:List Nat)
 /-- f(..) with defaults -/
 | calD (f:Nat) (es ks:IEs) (ds:List LV) (perm:List Nat)
 /-- a op b by the left one's class -/
 | obi (op:BOp) (cs:List (Str × Nat)) (a b:IE)
 /-- a == b,a != b by the left one's class -/
 | oeq (ne:Bool) (cs:List (Str × Nat)) (a b:IE)
 /-- str(x),len(x) by the class -/
 | ost (cs:List (Str × Nat)) (a:IE)
 | oln (cs:List (Str × Nat)) (a:IE)
 /-- isinstance(x,C) -/
 | iso (cs:List (Str × Bool)) (c:Str) (a:IE)
 /-- an f-string -/
 | fst (es:IEs)
 /-- told by what it does -/
 | sem (f:(Nat->List LV->M LV)->LSt->M LV)
inductive IEs where
 | nil
 | cons (e:IE) (es:IEs)
inductive IO where
 | none
 | some (e:IE)
inductive II where
 | val (e:IE)
 | rng1 (a:IE)
 | rng2 (a b:IE)
 | rng3 (a b c:IE)
 | zip (a b:IE)
 | enm (a:IE)
 | sem (f:(Nat->List LV->M LV)->LSt->M Src)
inductive IT where
 | name (i:Nat)
 | tup (ts:ITs)
 | sub (o i:IE)
 | fld (cs:List Str) (f:Str) (o:IE)
 | sem (f:(Nat->List LV->M LV)->LV->LSt->M LSt)
inductive ITs where
 | nil
 | cons (t:IT) (ts:ITs)
end
def ITs.len:ITs->Nat
 | .nil=>0
 | .cons _ ts=>ts.len + 1
def IEs.len:IEs->Nat
 | .nil=>0
 | .cons _ es=>es.len + 1
inductive Fl where
 | nx | bk | ct | rt (v:LV)
inductive Xa where
 | lit (v:LV)
 | fld (f:Str)
inductive Xe where
 | at (a:Xa)
 | tup (as:List Xa)
 | ifc (cs:List (Str × Bool)) (as bs:List Xa)
structure Hd where
 cs:List (Str × Bool)
 nm:Option Nat
 to:Option Nat
 e:Xe
 /-- the error that the suite raises from None -/
 rs:Option Str:=none
inductive IS where
 | asg (t:IT) (e:IE)
 /-- a,b = x,y with local names: the values first,then the stores -/
 | par (is:List Nat) (es:IEs)
 | aug (i:Nat) (op:BOp) (e:IE)
 | exp (e:IE)
 | ret (e:IE)
 | retN
 | ifs (c:IE) (a b:List IS)
 | for (t:IT) (it:II) (b:List IS)
 | whl (c:IE) (b:List IS)
 | brk
 | cnt
 | pss
 /-- raise C(..),its attributes the values -/
 | rse (c:Str) (fl:List Str) (es:IEs)
 /-- try: s,rest; nothing is raised behind s -/
 | tryx (s:IS) (rest:List IS) (hs:List Hd)
 /-- told by what it does -/
 | sem (f:(Nat->List LV->M LV)->LSt->M (Fl × LSt))
abbrev Cal:=Nat->List LV->M LV
def getR:Option (Option LV)->M LV
 | some (some v)=>M.ret v
 | _=>M.no
def getV (σ:LSt) (i:Nat):M LV:=getR σ[i]?
def wipeL (σ:LSt):List Nat->LSt
 | []=>σ
 | v :: vs=>(wipeL σ vs).set v none
def permG {α:Type} (vs:List α):List Nat->Option (List α)
 | []=>some []
 | i :: r=>match vs[i]?,permG vs r with
  | some v,some ws=>some (v :: ws)
  | _,_=>none
def iterR (n:Nat):Option LO->M Src
 | some (.lst xs)=>M.ret (.live n xs.length)
 | some (.frz ns)=>M.ret (.live n ns.length)
 | _=>M.no
def iterV (v:LV):M Src :=
 match v with
 | .tup xs=>M.ret (.fixed xs)
 | .str s=>M.chk (small s.length) (M.ret (.fixed (s.cps.toList.map fun c=>.str ⟨#[c]⟩)))
 | .ref n=>fun L=>iterR n L[n]? L
 | _=>M.no
def ints62 (i:Int):Bool:=decide (-(2 ^ 62)<=i∧i < 2 ^ 62)
def rngV (lo:Int) (n:Nat):Src:=.fixed ((List.range n).map fun (k:Nat)=>LV.int (lo + (k:Int)))
def rngC (lo c:Int) (n:Nat):Src:=.fixed ((List.range n).map fun (k:Nat)=>LV.int (lo + (k:Int) * c))
def appM (D:Nat) (y:LV):M LV:=fun L=>mthR D .append L[D]? [y] L
def compGo (s:Src) (turn:LV->M (Option LV)) (D:Nat):Nat->Nat->M LV
 | 0,i=>fun L=>if s.fin L then some (.ok (.ref D) L) else none
 | k + 1,i=>fun L=>match s.at i L with
  | none=>none
  | some x=>M.bind (turn x) (fun r=>match r with
   | none=>compGo s turn D k (i + 1)
   | some y=>M.bind (appM D y) fun _=>compGo s turn D k (i + 1)) L
def xaV (fs:List (Str × LV)):Xa->Option LV
 | .lit v=>some v
 | .fld f=>fs.lookup f
def xeV (c:Str) (fs:List (Str × LV)):Xe->Option LV
 | .at a=>xaV fs a
 | .tup as=>(optAll (xaV fs) as).map .tup
 | .ifc cs as bs=>match cs.lookup c with
  | some true=>(optAll (xaV fs) as).map .tup
  | some false=>(optAll (xaV fs) bs).map .tup
  | none=>none
def clrL (σ:LSt):Option Nat->LSt
 | none=>σ
 | some j=>σ.set j none
def isHot (c:Str):Bool:=(["BadText"]:List Str).contains c
def hdGo (c:Str) (fs:List (Str × LV)) (σ:LSt):List Hd->M (Fl × LSt)
 | []=>M.raise c fs
 | h :: r=>match h.cs.lookup c with
  | some true=>match h.rs with
   | some c'=>M.chk (!isHot c && isHot c') (M.raise c' [])
   | none=>M.ofO (xeV c fs h.e) fun v=>match h.to with
    | some i=>M.chk (decide (i < σ.length)) (M.ret (.nx,clrL (σ.set i (some v)) h.nm))
    | none=>M.ret (.rt v,clrL σ h.nm)
  | some false=>hdGo c fs σ r
  | none=>M.no
def tryK (k:LSt->M (Fl × LSt)):Fl × LSt->M (Fl × LSt)
 | (.nx,σ)=>M.quiet (k σ)
 | r=>M.ret r
def tryM (m:M (Fl × LSt)) (k:LSt->M (Fl × LSt)) (σ:LSt) (hs:List Hd):M (Fl × LSt):=fun L=>match m L with
 | some (.ok r L1)=>tryK k r L1
 | some (.ex c fs L1)=>hdGo c fs σ hs L1
 | none=>none
def packG (n:Nat) (zs:List LV):Option (List LV):=if n<=zs.length∧zs.length<=sizeLine then some (zs.take n ++ [.tup (zs.drop n)]) else none
mutual
def evE (R:Cal):IE->LSt->M LV
 | .var i,σ=>getV σ i
 | .lit v,_=>M.ret v
 | .glo v,_=>M.ret v
 | .bin op a b,σ=>M.bind (evE R a σ) fun x=>M.bind (evE R b σ) fun y=>binV op x y
 | .neg a,σ=>M.bind (evE R a σ) fun x=>match x with
  | .int i=>M.ret (.int (-i))
  | _=>M.no
 | .cmp op a b,σ=>M.bind (evE R a σ) fun x=>M.bind (evE R b σ) fun y=>cmpV op x y
 | .cmp2 op op' a b c,σ=>M.bind (evE R a σ) fun x=>M.bind (evE R b σ) fun y=>M.bind (cmpV op x y) fun r=>match r with
  | .bl true=>M.bind (evE R c σ) fun z=>cmpV op' y z
  | .bl false=>M.ret (.bl false)
  | _=>M.no
 | .and a b,σ=>M.bind (evE R a σ) fun x=>match x with
  | .bl true=>evE R b σ
  | .bl false=>M.ret (.bl false)
  | _=>M.no
 | .or a b,σ=>M.bind (evE R a σ) fun x=>match x with
  | .bl true=>M.ret (.bl true)
  | .bl false=>evE R b σ
  | _=>M.no
 | .not a,σ=>M.bind (evE R a σ) fun x=>match x with
  | .bl b=>M.ret (.bl (!b))
  | _=>M.no
 | .ife c a b,σ=>M.bind (evE R c σ) fun x=>match x with
  | .bl true=>evE R a σ
  | .bl false=>evE R b σ
  | _=>M.no
 | .tup es,σ=>M.bind (evEs R es σ) fun xs=>M.chk (small xs.length) (M.ret (.tup xs))
 | .lst es,σ=>M.bind (evEs R es σ) fun xs=>M.chk (small xs.length) (new (.lst xs))
 | .dct0,_=>new (.dic [])
 | .dct ks es,σ=>M.bind (new (.dic [])) fun d=>M.bind (evEs R es σ) fun xs=>match d with
  | .ref n=>fun L=>dctR n (dmerge [] (ks.zip xs)) L[n]? L
  | _=>M.no
 | .ix a b,σ=>M.bind (evE R a σ) fun x=>M.bind (evE R b σ) fun y=>ixV x y
 | .slc a lo hi,σ=>M.bind (evE R a σ) fun x=>M.bind (evO R lo σ) fun l=>M.bind (evO R hi σ) fun h=>slV x l h
 | .rev a,σ=>M.bind (evE R a σ) revV
 | .bi b es,σ=>M.bind (evEs R es σ) fun xs=>biV b xs
 | .isi a t,σ=>M.bind (evE R a σ) fun x=>isiV x t
 | .mth m o es,σ=>M.bind (evE R o σ) fun x=>M.look (fun L=>lstAt L x) fun _=>M.bind (evEs R es σ) fun xs=>mthV m x xs
 | .lset a,σ=>M.bind (evE R a σ) lsetV
 | .rgl1 t b,σ=>M.bind (evE R b σ) (rgl1K t)
 | .rgl2 t a b,σ=>M.bind (evE R a σ) fun x=>M.bind (evE R b σ) fun y=>rgl2K t x y
 | .inr x a b,σ=>M.bind (evE R x σ) fun u=>M.bind (evE R a σ) fun v=>M.bind (evE R b σ) fun w=>inrV u v w
 | .call f es ks perm,σ=>M.bind (evEs R es σ) fun xs=>M.bind (evEs R ks σ) fun ys=>M.ofO (permG (xs ++ ys) perm) fun zs=>R f zs
 | .comp own t it c e,σ=>M.quiet (M.bind (evI R it σ) fun src=>M.bind (new (.lst [])) fun d=>match d with
  | .ref D=>compGo src (fun x=>M.bind (evT R t x (wipeL σ own)) fun σ2=>M.bind (evC R c σ2) fun k =>
    if k then M.bind (evE R e σ2) fun y=>M.ret (some y) else M.ret none) D src.len 0
  | _=>M.no)
 | .fld cs f a,σ=>M.bind (evE R a σ) (fldV cs f)
 | .prp cs f a,σ=>M.bind (evE R a σ) fun x=>M.look (fun L=>clsAt cs f L x) fun g=>M.quiet (R g [x])
 | .omt cs m o es ks ds perm,σ=>M.bind (evE R o σ) fun x=>M.look (fun L=>clsAt cs m L x) fun g =>
   M.bind (evEs R es σ) fun xs=>M.bind (evEs R ks σ) fun ys=>M.ofO (permG (xs ++ ys ++ ds) perm) fun zs=>R g (x :: zs)
 | .mk c g es ks ds perm,σ=>M.bind (evEs R es σ) fun xs=>M.bind (evEs R ks σ) fun ys=>M.ofO (permG (xs ++ ys ++ ds) perm) fun zs=>mkV R c g zs
 | .mks c g n es so,σ=>M.bind (evEs R es σ) fun xs=>M.bind (evX R so σ) fun ys=>M.ofO (packG n (xs ++ ys)) fun zs=>mkV R c g zs
 | .calD f es ks ds perm,σ=>M.bind (evEs R es σ) fun xs=>M.bind (evEs R ks σ) fun ys=>M.ofO (permG (xs ++ ys ++ ds) perm) fun zs=>R f zs
 | .obi op cs a b,σ=>M.bind (evE R a σ) fun x=>M.bind (evE R b σ) fun y=>M.look (fun L=>opAt cs (opName op) L x y) fun g=>R g [x,y]
 | .oeq ne cs a b,σ=>M.bind (evE R a σ) fun x=>M.bind (evE R b σ) fun y=>M.look (fun L=>eqAt cs L x y) fun g=>M.bind (R g [x,y]) (eqK ne)
 | .ost cs a,σ=>M.bind (evE R a σ) (ostK R cs)
 | .oln cs a,σ=>M.bind (evE R a σ) (olnK R cs)
 | .iso cs _ a,σ=>M.bind (evE R a σ) fun x=>M.look (fun L=>isoAt cs L x) fun b=>M.ret (.bl b)
 | .fst es,σ=>M.bind (evFs R es σ Str.empty) fun s=>M.ret (.str s)
 | .sem f,σ=>f R σ
def evFs (R:Cal):IEs->LSt->Str->M Str
 | .nil,_,acc=>M.ret acc
 | .cons e es,σ,acc=>M.bind (evE R e σ) fun x=>M.bind (fmtV x) fun y=>M.chk (small (acc ++ y).length) (evFs R es σ (acc ++ y))
def evEs (R:Cal):IEs->LSt->M (List LV)
 | .nil,_=>M.ret []
 | .cons e es,σ=>M.bind (evE R e σ) fun x=>M.bind (evEs R es σ) fun xs=>M.ret (x :: xs)
def evX (R:Cal):IO->LSt->M (List LV)
 | .none,_=>M.ret []
 | .some e,σ=>M.bind (evE R e σ) fun x=>M.look (fun L=>items L x) fun xs=>M.ret xs
def evO (R:Cal):IO->LSt->M (Option Int)
 | .none,_=>M.ret none
 | .some e,σ=>M.bind (evE R e σ) fun x=>match x with
  | .int i=>M.ret (some i)
  | _=>M.no
def evC (R:Cal):IO->LSt->M Bool
 | .none,_=>M.ret true
 | .some e,σ=>M.bind (evE R e σ) fun x=>match x with
  | .bl b=>M.ret b
  | _=>M.no
def evI (R:Cal):II->LSt->M Src
 | .val e,σ=>M.bind (evE R e σ) iterV
 | .rng1 a,σ=>M.bind (evE R a σ) fun x=>match x with
  | .int j=>M.chk (ints62 j) (M.ret (rngV 0 j.toNat))
  | _=>M.no
 | .rng2 a b,σ=>M.bind (evE R a σ) fun x=>M.bind (evE R b σ) fun y=>match x,y with
  | .int i,.int j=>M.chk (ints62 i && ints62 j) (M.ret (rngV i (j - i).toNat))
  | _,_=>M.no
 | .rng3 a b c,σ=>M.bind (evE R a σ) fun x=>M.bind (evE R b σ) fun y=>M.bind (evE R c σ) fun z=>match x,y,z with
  | .int i,.int j,.int k=>M.chk (ints62 i && ints62 j && decide (0 < k∧k < 1073741824)) (M.ret (rngC i k ((j - i + (k - 1)) / k).toNat))
  | _,_,_=>M.no
 | .zip a b,σ=>M.bind (evE R a σ) fun x=>M.bind (evE R b σ) fun y=>zipK x y
 | .enm a,σ=>M.bind (evE R a σ) enmK
 | .sem f,σ=>f R σ
def evT (R:Cal):IT->LV->LSt->M LSt
 | .name i,v,σ=>M.chk (decide (i < σ.length)) (M.ret (σ.set i (some v)))
 | .tup ts,v,σ=>M.look (fun L=>items L v) fun xs=>M.chk (decide (xs.length = ts.len)) (evTs R ts xs σ)
 | .fld cs f o,v,σ=>M.bind (evE R o σ) fun x=>M.bind (fsetV cs f x v) fun _=>M.ret σ
 | .sub o i,v,σ=>M.bind (evE R o σ) fun x=>M.bind (evE R i σ) fun y=>M.bind (setV x y v) fun _=>M.ret σ
 | .sem f,v,σ=>f R v σ
def evTs (R:Cal):ITs->List LV->LSt->M LSt
 | .nil,[],σ=>M.ret σ
 | .cons t ts,x :: xs,σ=>M.bind (evT R t x σ) fun σ1=>evTs R ts xs σ1
 | _,_,_=>M.no
end
def forGo (s:Src) (turn:LV->LSt->M (Fl × LSt)):Nat->Nat->LSt->M (Fl × LSt)
 | 0,i,σ=>fun L=>if s.fin L then some (.ok (.nx,σ) L) else none
 | k + 1,i,σ=>fun L=>match s.at i L with
  | none=>none
  | some x=>M.bind (turn x σ) (fun (r:Fl × LSt)=>match r with
   | (.nx,σ1)=>forGo s turn k (i + 1) σ1
   | (.ct,σ1)=>forGo s turn k (i + 1) σ1
   | (.bk,σ1)=>M.ret (.nx,σ1)
   | (.rt v,σ1)=>M.ret (.rt v,σ1)) L
def whlGo (c:LSt->M LV) (b:LSt->M (Fl × LSt)):Nat->LSt->M (Fl × LSt)
 | 0,_=>M.no
 | k + 1,σ=>M.bind (c σ) fun x=>match x with
  | .bl false=>M.ret (.nx,σ)
  | .bl true=>M.bind (b σ) fun (r:Fl × LSt)=>match r with
   | (.nx,σ1)=>whlGo c b k σ1
   | (.ct,σ1)=>whlGo c b k σ1
   | (.bk,σ1)=>M.ret (.nx,σ1)
   | (.rt v,σ1)=>M.ret (.rt v,σ1)
  | _=>M.no
def fuel:Nat:=10 ^ 1000
def setAll:LSt->List Nat->List LV->Option LSt
 | σ,[],[]=>some σ
 | σ,i :: is,v :: vs=>if i < σ.length then setAll (σ.set i (some v)) is vs else none
 | _,_,_=>none
mutual
def evS (R:Cal):IS->LSt->M (Fl × LSt)
 | .asg t e,σ=>M.bind (evE R e σ) fun x=>M.bind (evT R t x σ) fun σ1=>M.ret (.nx,σ1)
 | .par is es,σ=>M.bind (evEs R es σ) fun xs=>M.ofO (setAll σ is xs) fun σ1=>M.ret (.nx,σ1)
 | .aug i op e,σ=>M.bind (getV σ i) fun x=>M.bind (evE R e σ) fun y=>M.bind (augV op x y) fun z=>M.ret (.nx,σ.set i (some z))
 | .exp e,σ=>M.bind (evE R e σ) fun _=>M.ret (.nx,σ)
 | .ret e,σ=>M.bind (evE R e σ) fun x=>M.ret (.rt x,σ)
 | .retN,σ=>M.ret (.rt .non,σ)
 | .ifs c a b,σ=>M.bind (evE R c σ) fun x=>match x with
  | .bl true=>evB R a σ
  | .bl false=>evB R b σ
  | _=>M.no
 | .for t it b,σ=>M.bind (evI R it σ) fun src=>forGo src (fun x σ1=>M.bind (evT R t x σ1) fun σ2=>evB R b σ2) src.len 0 σ
 | .whl c b,σ=>whlGo (evE R c) (evB R b) fuel σ
 | .brk,σ=>M.ret (.bk,σ)
 | .cnt,σ=>M.ret (.ct,σ)
 | .pss,σ=>M.ret (.nx,σ)
 | .rse c fl es,σ=>M.bind (evEs R es σ) fun xs=>M.chk (decide (xs.length = fl.length)) (M.raise c (fl.zip xs).reverse)
 | .tryx s rest hs,σ=>tryM (evS R s σ) (fun σ1=>evB R rest σ1) σ hs
 | .sem f,σ=>f R σ
def evB (R:Cal):List IS->LSt->M (Fl × LSt)
 | [],σ=>M.ret (.nx,σ)
 | s :: r,σ=>M.bind (evS R s σ) fun (x:Fl × LSt)=>match x with
  | (.nx,σ1)=>evB R r σ1
  | (f,σ1)=>M.ret (f,σ1)
end
structure Fn where
 n:Nat
 p:Nat
 body:List IS
def startL (n:Nat) (vs:List LV):LSt:=vs.map some ++ List.replicate (n - vs.length) none
def callFn (R:Cal) (f:Fn) (vs:List LV):M LV :=
 M.chk (decide (vs.length = f.p)) (M.bind (evB R f.body (startL f.n vs)) fun (r:Fl × LSt)=>match r with
  | (.rt v,_)=>M.ret v
  | (.nx,_)=>M.ret .non
  | _=>M.no)
def run (T:List Fn):Nat->Cal
 | 0,_,_=>M.no
 | k + 1,f,vs=>match T[f]? with
  | some fn=>callFn (run T k) fn vs
  | none=>M.no
end Mv
namespace Mv
open PySem PySem.Spec PyProof.Rows L2
section
variable {X:Cx}
def rEmp (K:PySem.W.Frag) (neg:Bool):R2:=fun x y H Q=>∃ a b xs,x = .ref a∧y = .ref b∧((SqT K H a xs∧SqT K H b [])∨(SqL K H a xs∧SqL K H b []))∧Q (.bl (if neg then !xs.isEmpty else xs.isEmpty)) H
theorem size0 {xs:List V} {its:List Value} (r:Vals xs its):(its.toArray.size == 0) = xs.isEmpty:=by
 have e:=r.length
 rw [List.size_toArray,<- e]
 cases xs <;> rfl
theorem op_eqEmp (hu:X.A.units < cLine):OpR X (compareOp .Eq) (rEmp X.K false):=by
 intro pins s σ H x y v u Q I rx ry h
 obtain ⟨a,b,xs,rfl,rfl,h,q⟩:=h
 cases rx
 cases ry
 rcases h with ⟨h1,h2⟩ | ⟨h1,h2⟩
 ·obtain ⟨its,rv,p,_⟩:=I.tuple h1
  obtain ⟨its2,rv2,p2,_⟩:=I.tuple h2
  cases rv2
  refine SeqAt.eq_tupleAt (e:=fun _=>true) p p2 hu (fun j _ z=>absurd z (by simp)) ⟨.bl xs.isEmpty,H,I,?_,by simpa using q⟩
  have e:=size0 rv
  show _ = Value.bool xs.isEmpty
  rw [<- e]
  simp
 ·obtain ⟨its,rv,p,_⟩:=I.list h1
  obtain ⟨its2,rv2,p2,_⟩:=I.list h2
  cases rv2
  have e:=size0 rv
  cases xs with
  | nil =>
   cases rv
   exact SeqAt.eq_listAt (e:=fun _=>true) p.isList p2.isList rfl hu (fun j z _=>absurd z (by simp)) ⟨.bl true,H,I,rfl,by simpa using q⟩
  | cons z zs =>
   refine SeqAt.eq_list_lengthsAt p.isList p2.isList ?_ hu ⟨.bl false,H,I,rfl,by simpa using q⟩
   show (!(its.toArray.size == 0)) = true
   rw [e]
   rfl
theorem op_neEmp (hu:X.A.units < cLine):OpR X (compareOp .NotEq) (rEmp X.K true):=by
 intro pins s σ H x y v u Q I rx ry h
 obtain ⟨a,b,xs,rfl,rfl,h,q⟩:=h
 cases rx
 cases ry
 rcases h with ⟨h1,h2⟩ | ⟨h1,h2⟩
 ·obtain ⟨its,rv,p,_⟩:=I.tuple h1
  obtain ⟨its2,rv2,p2,_⟩:=I.tuple h2
  cases rv2
  refine SeqAt.RcNeAt.tuples (e:=fun _=>true) p p2 hu (fun j _ z=>absurd z (by simp)) X.prog X.w _ _ ⟨.bl (!xs.isEmpty),H,I,?_,by simpa using q⟩
  have e:=size0 rv
  show _ = Value.bool (!xs.isEmpty)
  rw [<- e]
  simp
 ·obtain ⟨its,rv,p,_⟩:=I.list h1
  obtain ⟨its2,rv2,p2,_⟩:=I.list h2
  cases rv2
  have e:=size0 rv
  cases xs with
  | nil =>
   cases rv
   exact SeqAt.RcNeAt.lists (e:=fun _=>true) p.isList p2.isList rfl hu (fun j z _=>absurd z (by simp)) X.prog X.w _ _ ⟨.bl false,H,I,rfl,by simpa using q⟩
  | cons z zs =>
   refine SeqAt.RcNeAt.lists_lengths p.isList p2.isList ?_ hu X.prog X.w _ _ ⟨.bl true,H,I,rfl,by simpa using q⟩
   show (!(its.toArray.size == 0)) = true
   rw [e]
   rfl
theorem firstMet_all (ns:List Int):firstMet (fun i=>ns.getD i 0) ns.length = dist ns:=by
 unfold firstMet dist
 congr 1
 apply List.ext_getElem?
 intro i
 rw [List.getElem?_map]
 by_cases h:i < ns.length
 ·rw [List.getElem?_range h,List.getElem?_eq_getElem h]
  show some (ns.getD i 0) = _
  rw [List.getD_eq_getElem?_getD,List.getElem?_eq_getElem h]
  rfl
 ·rw [List.getElem?_eq_none (by simpa using h),List.getElem?_eq_none (by simpa using h)]
  rfl
theorem step_mem {acc:List Int} {k j:Int}:j∈step_dedup acc k↔j∈acc∨j = k:=by
 unfold step_dedup
 split
 ·rename_i h
  obtain ⟨y,hy,e⟩:=List.any_eq_true.mp h
  have e:y = k:=eq_of_beq e
  subst e
  exact ⟨.inl,fun z=>z.elim id fun e=>by rw [e]; exact hy⟩
 ·simp
theorem step_nodup {acc:List Int} {k:Int} (h:acc.Nodup):(step_dedup acc k).Nodup:=by
 unfold step_dedup
 split
 ·exact h
 ·rename_i hn
  rw [List.nodup_append]
  refine ⟨h,by simp,fun a ha b hb e=>?_⟩
  rw [List.mem_singleton] at hb
  subst e
  subst hb
  exact hn (List.any_eq_true.mpr ⟨a,ha,by simp⟩)
theorem dist_go:∀ (ns acc:List Int),(∀ j,j∈ns.foldl step_dedup acc↔j∈acc∨j∈ns)∧(acc.Nodup->(ns.foldl step_dedup acc).Nodup)
 | [],acc=>⟨fun j=>by simp,fun h=>h⟩
 | k :: ns,acc=>by
  obtain ⟨h1,h2⟩:=dist_go ns (step_dedup acc k)
  refine ⟨fun j=>?_,fun h=>h2 (step_nodup h)⟩
  rw [List.foldl_cons,h1 j,step_mem]
  simp only [List.mem_cons,or_assoc]
theorem dist_mem {ns:List Int} {j:Int}:j∈dist ns↔j∈ns:=by
 have h:=(dist_go ns []).1 j
 simpa [dist] using h
theorem dist_nodup (ns:List Int):(dist ns).Nodup:=(dist_go ns []).2 List.nodup_nil
theorem len_le_of_sub:∀ {l m:List Int},l.Nodup->(∀ x∈l,x∈m)->l.length<=m.length
 | [],_,_,_=>Nat.zero_le _
 | x :: l,m,h,s=>by
  have hx:=s x (List.mem_cons_self ..)
  have h2:l.length<=(m.erase x).length:=by
   refine len_le_of_sub (List.nodup_cons.mp h).2 fun y hy=>?_
   have hne:y≠x:=fun e=>(List.nodup_cons.mp h).1 (e ▸ hy)
   exact (List.mem_erase_of_ne hne).mpr (s y (List.mem_cons_of_mem _ hy))
  have h3:=List.length_erase_of_mem hx
  have h4:0 < m.length:=List.length_pos_of_mem hx
  simp only [List.length_cons]
  omega
theorem len_of_mem {l m:List Int} (h1:l.Nodup) (h2:m.Nodup) (e:∀ x,x∈l↔x∈m):l.length = m.length :=
 Nat.le_antisymm (len_le_of_sub h1 fun x h=>(e x).mp h) (len_le_of_sub h2 fun x h=>(e x).mpr h)
theorem dist_le (ns:List Int):(dist ns).length<=ns.length:=len_le_of_sub (dist_nodup ns) fun _ h=>dist_mem.mp h
def tLenSet (K:PySem.W.Frag) (ta:TE):TE:=fun σ H Q=>ta σ H fun x H1=>∃ (l:Addr) (ns:List Int),x = .ref l∧(SqL K H1 l (ns.map V.int)∨SqT K H1 l (ns.map V.int))∧ns.length<=4000∧Q (.int ((dist ns).length:Nat)) H1
theorem pe_lenSet' {a:Expr} {ta:TE} {p p2 q pos:Pos} (hg:Gl X "len") (hm:X.mg "len" = none) (hg2:Gl X "set") (hm2:X.mg "set" = none) (ha:PE X a ta) (hc:X.calm = true)
  (na:starEach [a] X.env = (false,eval a X.env) :: starEach [] X.env:=by rfl):PE X (.Call (.Name "len" p) [.Call (.Name "set" p2) [a] [] q] [] pos) (tLenSet X.K ta):=by
 refine ⟨fun pins s σ H Q I h=>?_⟩
 refine Call_ (ld_blt I hg hm boot_len ?_)
 refine PyProof.Rows.callWith_builtin1 (PyProof.Rows.args_cons ?_ rfl) rfl rfl
 refine Call_ (ld_blt I hg2 hm2 boot_set ?_)
 refine PyProof.Rows.callWith_type1 (PyProof.Rows.args_cons (thn (ha.run pins s σ H _ I h) fun v s1 ⟨x,H1,I1,r1,q1⟩=>PyProof.Rows.args_nil ?_) na) na rfl
 obtain ⟨l,ns,rfl,hq,hl,q1⟩:=q1
 cases r1
 rcases hq with hq | hq
 ·obtain ⟨its,r,pl,hz⟩:=I1.list hq
  have hlen:its.toArray.size = ns.length:=by rw [List.size_toArray,<- r.length,List.length_map]
  refine call_set_list (I1.ok.hd hc) pl.isList (by simpa using RZ.intsAre_vals r) (by rw [hlen]; unfold scanBound; omega) fun h' tk hS hk=>?_
  refine PyProof.Rows.args_nil ?_
  rw [hlen,firstMet_all] at hS
  obtain ⟨o,es,ep,t,ho,hex,hd,_,_,_,hf,hn⟩:=hS
  have I2:Inv X pins σ H1 { s1 with heap:=h',toks:=tk }:=I1.kept fun b o e=>hk b o (Heap.lt_size e) e
  have hd2:=dist_le ns
  exact call_len_set ho hex hd hf (by rw [hn]; omega) ⟨.int (dist ns).length,H1,I2.tok _,⟨_,by rw [hn]⟩,q1⟩
 ·obtain ⟨its,r,pl,hz⟩:=I1.tuple hq
  have hlen:its.toArray.size = ns.length:=by rw [List.size_toArray,<- r.length,List.length_map]
  refine call_set_tupI ns (I1.ok.hd hc) pl (by simpa using RZ.intsAre_vals r) (by unfold scanBound; omega) fun h' tk c hS hc2 hk=>?_
  refine PyProof.Rows.args_nil ?_
  obtain ⟨o,es,ep,t,ho,hex,hd,_,nd,hmem,_,hf,hn,_⟩:=hS
  have I2:Inv X pins σ H1 { s1 with heap:=h',toks:=tk }:=I1.kept hk
  have he:es.size = (dist ns).length:=by
   have z:=len_of_mem nd (dist_nodup ns) fun k=>by rw [<- hmem k,decide_eq_true_eq,dist_mem]
   simpa using z
  exact call_len_set ho hex hd hf (by rw [hn]; omega) ⟨.int (dist ns).length,H1,I2.tok _,⟨_,by rw [he]⟩,q1⟩
end
end Mv
namespace Mv
open PySem PySem.Spec PyProof.Rows L2
mutual
inductive RD (h:Heap):Value->PyData->Prop
 | none:RD h .none .none
 | bool (b):RD h (.bool b) (.bool b)
 | int (i t):RD h (.int i t) (.int i)
 | str (x t):RD h (.str x t) (.str x)
 | list {a o vs n xs}:h.get? a = some o->o.cls = .type "list"->o.data = .seq vs n->RDs h vs.toList xs->RD h (.ref a) (.list xs)
 | tuple {a o vs n xs}:h.get? a = some o->o.cls = .type "tuple"->o.data = .seq vs n->RDs h vs.toList xs->RD h (.ref a) (.tuple xs)
 | dict {a o es n kvs}:h.get? a = some o->o.cls = .type "dict"->o.data = .dict es n->(a == sysModules) = false->RDs h (es.toList.map (·.key)) (kvs.map (·.1)) ->
   RDs h (es.toList.map (·.val)) (kvs.map (·.2))->RD h (.ref a) (.dict kvs)
inductive RDs (h:Heap):List Value->List PyData->Prop
 | nil:RDs h [] []
 | cons {v vs d ds}:RD h v d->RDs h vs ds->RDs h (v :: vs) (d :: ds)
end
mutual
theorem RD.reads {h:Heap}:∀ {v:Value} {d:PyData},RD h v d->∃ as,Reads h v d as
 | _,_,.none=>⟨_,.none⟩
 | _,_,.bool b=>⟨_,.bool b⟩
 | _,_,.int i t=>⟨_,.int i t⟩
 | _,_,.str x t=>⟨_,.str x t⟩
 | _,_,.list h1 h2 h3 h4=>let ⟨as,r⟩:=RDs.reads h4; ⟨_,.list h1 h2 h3 r⟩
 | _,_,.tuple h1 h2 h3 h4=>let ⟨as,r⟩:=RDs.reads h4; ⟨_,.tuple h1 h2 h3 r⟩
 | _,_,.dict h1 h2 h3 h4 h5 h6=>let ⟨as,r⟩:=RDs.reads h5; let ⟨bs,r2⟩:=RDs.reads h6; ⟨_,.dict h1 h2 h3 r r2⟩
theorem RDs.reads {h:Heap}:∀ {v:List Value} {d:List PyData},RDs h v d->∃ as,ReadsAll h v d as
 | _,_,.nil=>⟨_,.nil⟩
 | _,_,.cons h1 h2=>let ⟨as,r⟩:=RD.reads h1; let ⟨bs,r2⟩:=RDs.reads h2; ⟨_,.cons r r2⟩
end
section
variable {prog:Program} {w:World} {A:Around} {E:Value->Shared->Prop} {s:Shared} {a:Int} {t:Tok}
theorem int_reprB {Q:Value->Shared->Prop} (hn:s.heap.NoDigits) (hlt:a.natAbs < 10 ^ 4300) (h:Q (.str (toString a) s.toks) { s with toks:=s.toks + 1 }) :
  wpAny (model prog w) A (call (.builtin "int.__repr__") [.int a t]) Q E s:=by
 refine wpAny_call_entry F.slot_int_repr (typeIs_int s a t) F.entry_int_repr ?_ (F.args_int_repr_1 _)
 unfold Builtin.«int.__repr__»
 show wpAny _ _ (do let r <- Builtin.overDigitLimit? a; _) _ _ s
 refine wpAny_bind (overDigitLimit_any hn (fun _=>?_) (fun hge=>absurd hlt (Nat.not_lt.mpr hge)))
 exact wpAny_bind (wpAny_mkStr (wpAny_pure ⟨_,rfl,h⟩) (int_text_fits10 hlt))
theorem strOf_intB {Q:Value->Shared->Prop} (hn:s.heap.NoDigits) (hlt:a.natAbs < 10 ^ 4300) (h:Q (.str (toString a) s.toks) { s with toks:=s.toks + 1 }) :
  wpAny (model prog w) A (Builtin.Str.strOf (.int a t)) Q E s:=by
 unfold Builtin.Str.strOf
 rw [show Builtin.Str.isExactStr (.int a t) = false from rfl]
 try (have hv:[Value.int a t].any Value.onHeap = false:=rfl; simp only [cRoomFor,hv,Bool.false_eq_true,if_false,pure_bind])
 refine wpAny_bind (m:=callSpecial? (.int a t) (Str.ofString "__str__")) (wpAny_callSpecial?_slot (name:=Str.ofString "__str__") (typeIs_int s a t) F.slot_int_str ?_)
 refine wpAny_call_entry F.slot_int_str (typeIs_int s a t) entry_object_str ?_ (args_object_str _)
 unfold Builtin.«object.__str__»
 refine wpAny_bind (m:=slotArgs "__str__" 0 _) (wpAny_pure ?_)
 try (have hv:[Value.int a t].any Value.onHeap = false:=rfl; simp only [cRoomFor,hv,Bool.false_eq_true,if_false,pure_bind])
 refine wpAny_bind (m:=callSpecialIfBound? (.int a t) (Str.ofString "__repr__")) (wpAny_callSpecialIfBound?_slot (name:=Str.ofString "__repr__") (typeIs_int s a t) F.slot_int_repr
  (int_reprB hn hlt ?_))
 exact wpAny_pure ⟨_,rfl,wpAny_pure h⟩
theorem str_intB {Q:Value->Shared->Prop} (hn:s.heap.NoDigits) (hlt:a.natAbs < 10 ^ 4300) (h:Q (.str (toString a) s.toks) { s with toks:=s.toks + 1 }) :
  wpAny (model prog w) A (call (.type "str") [.int a t]) Q E s :=
 callType_new F.called_str (by decide) (F.typeCall_str_1 _) (F.newCall_str_1 _) (fun obj=>F.args_object_init_2 obj _) F.entry_str_new
  (meets_str_new (S:=fun A R s=>s.heap.NoDigits∧R (.ok (.ret (.str (toString a) s.toks))) { s with toks:=s.toks + 1 })
   fun _ _ _ _ _ hq=>strOf_intB hq.1 hlt hq.2)
  ⟨hn,typeIs_str _ _ _,h⟩
theorem reprObj_intB {Q:Value->Shared->Prop} (hn:s.heap.NoDigits) (hlt:a.natAbs < 10 ^ 4300) (h:Q (.str (toString a) s.toks) { s with toks:=s.toks + 1 }) :
  wpAny (model prog w) A (pyReprObj (.int a t)) Q E s:=by
 have hv:[Value.int a t].any Value.onHeap = false:=rfl
 unfold pyReprObj
 simp only [cRoomFor,hv,Bool.false_eq_true,if_false,pure_bind]
 refine wpAny_bind (wpAny_specialOf (name:=Str.ofString "__repr__") (typeIs_int s a t) F.slot_int_repr.lookup ?_)
 refine wpAny_bind (m:=callSpecialIfBound? (.int a t) (Str.ofString "__repr__")) (wpAny_callSpecialIfBound?_slot (name:=Str.ofString "__repr__") (typeIs_int s a t) F.slot_int_repr (int_reprB hn hlt ?_))
 exact wpAny_bind (wpAny_isInstance (T:="str") (b:=true) rfl isSubtype_str_str (wpAny_pure h))
theorem repr_intB {Q:Value->Shared->Prop} (hn:s.heap.NoDigits) (hlt:a.natAbs < 10 ^ 4300) (h:Q (.str (toString a) s.toks) { s with toks:=s.toks + 1 }) :
  wpAny (model prog w) A (call (.builtin "repr") [.int a t]) Q E s:=by
 have hv:[Value.int a t].any Value.onHeap = false:=rfl
 refine Calls.call_function_entry F.kind_repr F.plain_repr F.entry_repr (F.args_repr1 _) ?_
 unfold Builtin.«repr»
 refine wpAny_bind (m:=oneArg "repr" _) (wpAny_pure ?_)
 simp only [cRoomFor,hv,Bool.false_eq_true,if_false,pure_bind]
 refine wpAny_bind (wpAny_specialOf (name:=Str.ofString "__repr__") (typeIs_int s a t) F.slot_int_repr.lookup ?_)
 refine wpAny_bind (m:=callSpecialIfBound? (.int a t) (Str.ofString "__repr__")) (wpAny_callSpecialIfBound?_slot (name:=Str.ofString "__repr__") (typeIs_int s a t) F.slot_int_repr (int_reprB hn hlt ?_))
 refine wpAny_bind (wpAny_isInstance (T:="str") (b:=true) rfl isSubtype_str_str ?_)
 exact wpAny_pure ⟨_,rfl,h⟩
theorem reprK_intB {as:List Addr} {h₀:Heap} {d:Nat} (t:Tok) (hn:h₀.NoDigits) (hlt:a.natAbs < digLim):ReprK prog w as h₀ d (.int a t) (toString a):=fun base hz A g E s Q _ _ _ hk hQ=>by
 have hn':base<=sizeLine:=by omega
 rw [pyReprUnder_leaf (v:=.int a t) hn' (fun _ e=>nomatch e)]
 unfold pyRepr
 exact wpAny_bind (reprObj_intB (hn.keeps hk) hlt (wpAny_pure (hQ s.heap _ fun _ _ e=>e)))
end
theorem showB_int {i:Int} (h:i.natAbs.log2 < 1920):i.natAbs < digLim :=
 Nat.lt_of_lt_of_le (lt_of_log2 (Nat.lt_trans h (by decide))) pow_lo
mutual
theorem showB_of:∀ d:PyData,d.showable = true->showB d = true
 | .none,_=>rfl
 | .bool _,_=>rfl
 | .str _,_=>rfl
 | .int i,h=>by
  unfold PyData.showable at h
  unfold showB
  exact decide_eq_true (showB_int (of_decide_eq_true h))
 | .list xs,h=>by
  unfold PyData.showable at h
  unfold showB
  exact showBs_of xs h
 | .tuple xs,h=>by
  unfold PyData.showable at h
  unfold showB
  exact showBs_of xs h
 | .dict kvs,h=>by
  unfold PyData.showable at h
  unfold showB
  exact showBk_of kvs h
theorem showBs_of:∀ d:List PyData,PyData.showableAll d = true->showBs d = true
 | [],_=>rfl
 | x :: xs,h=>by
  unfold PyData.showableAll at h
  unfold showBs
  rw [Bool.and_eq_true] at h ⊢
  exact ⟨showB_of x h.1,showBs_of xs h.2⟩
theorem showBk_of:∀ d:List (PyData × PyData),PyData.showableKv d = true->showBk d = true
 | [],_=>rfl
 | (k,v) :: r,h=>by
  unfold PyData.showableKv at h
  unfold showBk
  rw [Bool.and_eq_true,Bool.and_eq_true] at h ⊢
  exact ⟨⟨showB_of k h.1.1,showB_of v h.1.2⟩,showBk_of r h.2⟩
end
theorem showBk_split:∀ kvs:List (PyData × PyData),showBk kvs = true->showBs (kvs.map (·.1)) = true∧showBs (kvs.map (·.2)) = true
 | [],_=>⟨rfl,rfl⟩
 | (k,v) :: r,h=>by
  unfold showBk at h
  rw [Bool.and_eq_true,Bool.and_eq_true] at h
  obtain ⟨h1,h2⟩:=showBk_split r h.2
  rw [List.map_cons,List.map_cons]
  unfold showBs
  rw [Bool.and_eq_true,Bool.and_eq_true]
  exact ⟨⟨h.1.1,h1⟩,h.1.2,h2⟩
section
variable {prog:Program} {w:World} {h₀:Heap} (hn:h₀.NoDigits)
include hn
mutual
theorem rk_of:∀ {v:Value} {d:PyData},RD h₀ v d->showB d = true->d.shown.length<=sizeLine->∃ bs,ReadAtMost h₀ d.depth bs∧ReprK prog w bs h₀ d.depth v d.shown
 | _,_,.none,_,_=>⟨[],(fun _ h=>nomatch h),by simp only [PyData.shown]; exact .of_is ReprIs.none _ _ _⟩
 | _,_,.bool b,_,_=>⟨[],(fun _ h=>nomatch h),by simp only [PyData.shown]; exact .of_is (ReprIs.bool b) _ _ _⟩
 | _,_,.int i t,hs,_=>⟨[],(fun _ h=>nomatch h),by simp only [PyData.shown]; exact reprK_intB t hn (by simpa [showB] using hs)⟩
 | _,_,.str x t,_,hz=>⟨[],(fun _ h=>nomatch h),by simp only [PyData.shown]; exact .of_is (ReprIs.str x t (by simpa only [PyData.shown] using hz)) _ _ _⟩
 | _,_,.list (a:=a) (vs:=vs) (xs:=xs) h1 h2 h3 h4,hs,hz=>by
  have hz':(listText (PyData.shownAll xs)).length<=sizeLine:=by simpa only [PyData.shown] using hz
  obtain ⟨bs,hb,hk⟩:=rka_of h4 (by simpa [showB] using hs) (fun t ht=>Nat.le_trans (listText_mem_le ht) hz')
  obtain ⟨as4,h4r⟩:=RDs.reads h4
  have r:Reads h₀ (.ref a) (.list xs) _:=.list h1 h2 h3 h4r
  have hna:a ∉ bs:=not_mem_of_deeper r (by simp only [PyData.depth]; omega) hb
  refine ⟨a :: bs,ReadAtMost.cons r (by simp only [PyData.depth]; omega) hb,?_⟩
  simp only [PyData.depth,PyData.shown]
  obtain ⟨l⟩:=vs
  cases l with
  | nil =>
   have h4':ReadsAll h₀ [] xs _:=h4r
   cases h4'
   simp only [PyData.shownAll,listText_nil]
   exact ReprK.listEmpty h1 h2 h3
  | cons x l=>exact ReprK.list h1 h2 h3 hna (by simpa using hk.length_eq) (fun i y e=>hk.item i y (by simpa using e))
 | _,_,.tuple (a:=a) (xs:=xs) h1 h2 h3 h4,hs,hz=>by
  have hz':(tupleText (PyData.shownAll xs)).length<=sizeLine:=by simpa only [PyData.shown] using hz
  obtain ⟨bs,hb,hk⟩:=rka_of h4 (by simpa [showB] using hs) (fun t ht=>Nat.le_trans (tupleText_mem_le ht) hz')
  obtain ⟨as4,h4r⟩:=RDs.reads h4
  have r:Reads h₀ (.ref a) (.tuple xs) _:=.tuple h1 h2 h3 h4r
  have hna:a ∉ bs:=not_mem_of_deeper r (by simp only [PyData.depth]; omega) hb
  refine ⟨a :: bs,ReadAtMost.cons r (by simp only [PyData.depth]; omega) hb,?_⟩
  simp only [PyData.depth,PyData.shown]
  exact ReprK.tuple h1 h2 h3 hna hk
 | _,_,.dict (a:=a) (es:=es) (kvs:=kvs) h1 h2 h3 hsys h4 h5,hs,hz=>by
  have hz':(dictText (PyData.shownKv kvs)).length<=sizeLine:=by simpa only [PyData.shown] using hz
  obtain ⟨hs1,hs2⟩:=showBk_split kvs (by simpa [showB] using hs)
  obtain ⟨b1,hb1,k1⟩:=rka_of h4 hs1 (fun t ht=>let ⟨p,hp,hl⟩:=PyData.shownKv_key_le kvs t ht; Nat.le_trans hl (Nat.le_trans (dictText_mem_le hp) hz'))
  obtain ⟨b2,hb2,k2⟩:=rka_of h5 hs2 (fun t ht=>let ⟨p,hp,hl⟩:=PyData.shownKv_val_le kvs t ht; Nat.le_trans hl (Nat.le_trans (dictText_mem_le hp) hz'))
  obtain ⟨as4,h4r⟩:=RDs.reads h4
  obtain ⟨as5,h5r⟩:=RDs.reads h5
  have r:Reads h₀ (.ref a) (.dict kvs) _:=.dict h1 h2 h3 h4r h5r
  have hb:ReadAtMost h₀ (PyData.depthKv kvs) (b1 ++ b2):=(hb1.mono (PyData.depthAll_keys_le kvs)).append (hb2.mono (PyData.depthAll_vals_le kvs))
  have hna:a ∉ b1 ++ b2:=not_mem_of_deeper r (by simp only [PyData.depth]; omega) hb
  refine ⟨a :: (b1 ++ b2),ReadAtMost.cons r (by simp only [PyData.depth]; omega) hb,?_⟩
  simp only [PyData.depth,PyData.shown,PyData.shownKv_eq]
  exact ReprK.dict h1 h2 h3 hsys hna (ReprEntriesK.of_two es.toList _ _
   (k1.more_le (fun b hb=>List.mem_append_left _ hb) (PyData.depthAll_keys_le kvs)) (k2.more_le (fun b hb=>List.mem_append_right _ hb) (PyData.depthAll_vals_le kvs)))
theorem rka_of:∀ {vs:List Value} {ds:List PyData},RDs h₀ vs ds->showBs ds = true->(∀ t∈PyData.shownAll ds,t.length<=sizeLine) ->
  ∃ bs,ReadAtMost h₀ (PyData.depthAll ds) bs∧ReprAllK prog w bs h₀ (PyData.depthAll ds) vs (PyData.shownAll ds)
 | _,_,.nil,_,_=>⟨[],(fun _ h=>nomatch h),by simp only [PyData.shownAll]; exact .nil⟩
 | _,_,.cons (d:=d) (ds:=ds) r rs,hs,hz=>by
  have hs':showB d = true∧showBs ds = true:=by simpa [showBs] using hs
  obtain ⟨b1,hb1,k1⟩:=rk_of r hs'.1 (hz _ (by simp only [PyData.shownAll]; exact List.mem_cons_self ..))
  obtain ⟨b2,hb2,k2⟩:=rka_of rs hs'.2 (fun t ht=>hz t (by simp only [PyData.shownAll]; exact List.mem_cons_of_mem _ ht))
  refine ⟨b1 ++ b2,?_,?_⟩
  ·intro b hm
   simp only [PyData.depthAll]
   rcases List.mem_append.mp hm with hm | hm
   ·obtain ⟨d',as',r',hd'⟩:=hb1 b hm
    exact ⟨d',as',r',Nat.le_trans hd' (Nat.le_max_left _ _)⟩
   ·obtain ⟨d',as',r',hd'⟩:=hb2 b hm
    exact ⟨d',as',r',Nat.le_trans hd' (Nat.le_max_right _ _)⟩
  ·simp only [PyData.depthAll,PyData.shownAll]
   exact .cons ((k1.more fun b hb=>List.mem_append_left _ hb).level_le (Nat.le_max_left _ _)) (k2.more_le (fun b hb=>List.mem_append_right _ hb) (Nat.le_max_right _ _))
end
theorem shows_of {a:Addr} {d:PyData} (r:RD h₀ (.ref a) d) (hs:showB d = true) (hsz:d.shown.length<=sizeLine):∃ T idr,ShowsBy prog w h₀ a d T idr:=by
 cases r with
 | list h1 h2 h3 h4 =>
  rename_i o vs n xs
  have hz':(listText (PyData.shownAll xs)).length<=sizeLine:=by simpa only [PyData.shown] using hsz
  obtain ⟨bs,hb,hk⟩:=rka_of (prog:=prog) (w:=w) hn h4 (by simpa [showB] using hs) (fun t ht=>Nat.le_trans (listText_mem_le ht) hz')
  obtain ⟨as4,h4r⟩:=RDs.reads h4
  have hna:a ∉ bs:=not_mem_of_deeper (.list h1 h2 h3 h4r) (by simp only [PyData.depth]; omega) hb
  refine ⟨"list","list.__repr__",F.slot_list_repr.toG,F.slot_list_str,F.slot_list_format,fun s hk0=>⟨o,hk0 _ _ h1,h2⟩,fun A E s Q hg hu hk0 hQ=>?_⟩
  simp only [PyData.depth] at hu
  simp only [PyData.shown] at hQ
  obtain ⟨l⟩:=vs
  cases l with
  | nil =>
   have h4':ReadsAll h₀ [] xs _:=h4r
   cases h4'
   simp only [PyData.shownAll,listText_nil] at hQ
   exact call_list_repr_empty ⟨o,hk0 _ _ h1,h2⟩ (hk0 _ _ h1) h3 (hQ s.heap _ _ fun _ _ e=>e)
  | cons x l =>
   exact call_list_reprK h1 h2 h3 hna (by simpa using hk.length_eq) (fun i y e=>hk.item i y (by simpa using e)) hg (fun b _=>Clear.nil b) hu hk0 hQ hz'
 | tuple h1 h2 h3 h4 =>
  rename_i o vs n xs
  have hz':(tupleText (PyData.shownAll xs)).length<=sizeLine:=by simpa only [PyData.shown] using hsz
  obtain ⟨bs,hb,hk⟩:=rka_of (prog:=prog) (w:=w) hn h4 (by simpa [showB] using hs) (fun t ht=>Nat.le_trans (tupleText_mem_le ht) hz')
  obtain ⟨as4,h4r⟩:=RDs.reads h4
  have hna:a ∉ bs:=not_mem_of_deeper (.tuple h1 h2 h3 h4r) (by simp only [PyData.depth]; omega) hb
  refine ⟨"tuple","tuple.__repr__",F.slot_tuple_repr,F.slot_tuple_str,F.slot_tuple_format,fun s hk0=>⟨o,hk0 _ _ h1,h2⟩,fun A E s Q hg hu hk0 hQ=>?_⟩
  simp only [PyData.depth] at hu
  simp only [PyData.shown] at hQ
  exact call_tuple_reprK h1 h2 h3 hna hk hg (fun b _=>Clear.nil b) hu hk0 hQ hz'
 | dict h1 h2 h3 hsys h4 h5 =>
  rename_i o es n kvs
  have hz':(dictText (PyData.shownKv kvs)).length<=sizeLine:=by simpa only [PyData.shown] using hsz
  obtain ⟨hs1,hs2⟩:=showBk_split kvs (by simpa [showB] using hs)
  obtain ⟨b1,hb1,k1⟩:=rka_of (prog:=prog) (w:=w) hn h4 hs1 (fun t ht=>let ⟨p,hp,hl⟩:=PyData.shownKv_key_le kvs t ht; Nat.le_trans hl (Nat.le_trans (dictText_mem_le hp) hz'))
  obtain ⟨b2,hb2,k2⟩:=rka_of (prog:=prog) (w:=w) hn h5 hs2 (fun t ht=>let ⟨p,hp,hl⟩:=PyData.shownKv_val_le kvs t ht; Nat.le_trans hl (Nat.le_trans (dictText_mem_le hp) hz'))
  have hb:ReadAtMost h₀ (PyData.depthKv kvs) (b1 ++ b2):=(hb1.mono (PyData.depthAll_keys_le kvs)).append (hb2.mono (PyData.depthAll_vals_le kvs))
  obtain ⟨as4,h4r⟩:=RDs.reads h4
  obtain ⟨as5,h5r⟩:=RDs.reads h5
  have hna:a ∉ b1 ++ b2:=not_mem_of_deeper (.dict h1 h2 h3 h4r h5r) (by simp only [PyData.depth]; omega) hb
  refine ⟨"dict","dict.__repr__",F.slot_dict_repr,F.slot_dict_str,F.slot_dict_format,fun s hk0=>⟨o,hk0 _ _ h1,h2⟩,fun A E s Q hg hu hk0 hQ=>?_⟩
  simp only [PyData.depth] at hu
  simp only [PyData.shown,PyData.shownKv_eq] at hQ
  exact call_dict_reprK h1 h2 h3 hsys hna (ReprEntriesK.of_two es.toList _ _
   (k1.more_le (fun b hb=>List.mem_append_left _ hb) (PyData.depthAll_keys_le kvs)) (k2.more_le (fun b hb=>List.mem_append_right _ hb) (PyData.depthAll_vals_le kvs))) hg (fun b _=>Clear.nil b) hu hk0 hQ (by rw [<- PyData.shownKv_eq]; exact hz')
theorem repr_rd {A:Around} {E:Value->Shared->Prop} {s:Shared} {Q:Value->Shared->Prop} {a:Addr} {d:PyData} (r:RD h₀ (.ref a) d) (hs:showB d = true) (hg:A.guards = some []) (hu:A.units + (d.depth + 1) < cLine) (hk0:∀ b o,h₀.get? b = some o->s.heap.get? b = some o)
  (hQ:∀ h' u tk,(∀ b o,s.heap.get? b = some o->h'.get? b = some o)->Q (.str d.shown u) { s with heap:=h',toks:=tk })
  (hsz:d.shown.length<=sizeLine):wpAny (model prog w) A (call (.builtin "repr") [.ref a]) Q E s:=by
 obtain ⟨T,idr,S⟩:=shows_of (prog:=prog) (w:=w) hn r hs hsz
 exact call_repr_slot (by omega) (S.typeIs s hk0) S.slotRepr (S.call A.in1 E s _ hg (by show A.units + 1 + d.depth < cLine; omega) hk0 fun h' u tk hk=>⟨_,_,rfl,hQ h' u tk hk⟩)
end
mutual
inductive DR (K:PySem.W.Frag) (H:Hp):V->PyData->Prop
 | non:DR K H .non .none
 | bl (b:Bool):DR K H (.bl b) (.bool b)
 | int (i:Int):DR K H (.int i) (.int i)
 | str (x:Str):DR K H (.str x) (.str x)
 | lst {a:Addr} {xs:List V} {ds:List PyData}:SqL K H a xs->DRs K H xs ds->DR K H (.ref a) (.list ds)
 | tup {a:Addr} {xs:List V} {ds:List PyData}:SqT K H a xs->DRs K H xs ds->DR K H (.ref a) (.tuple ds)
 | dic {a:Addr} {kvs:List (Key × V)} {ds:List PyData}:H a = some (.dK kvs)->DRs K H (kvs.map (·.2)) ds->DR K H (.ref a) (.dict ((kvs.map fun kv=>keyD kv.1).zip ds))
inductive DRs (K:PySem.W.Frag) (H:Hp):List V->List PyData->Prop
 | nil:DRs K H [] []
 | cons {v:V} {vs:List V} {d:PyData} {ds:List PyData}:DR K H v d->DRs K H vs ds->DRs K H (v :: vs) (d :: ds)
end
section
variable {X:Cx} {pins:List (Addr × Obj)} {σ:L2.St} {H:Hp} {s:Shared}
theorem key_rd {h:Heap} {k:Key} {u:Value} (e:keyIs k u = true):RD h u (keyD k):=by
 rcases keyIs_shape e with ⟨i,t,rfl,rfl⟩ | ⟨x,t,rfl,rfl⟩
 ·exact .int i t
 ·exact .str x t
theorem keys_rd {P:Program} {w:World} {h:Heap}:∀ {es:List DictEntry} {kvs:List (Key × V)} {vs:List (Key × Value)},Pairs (mixKind P w) es vs->KV kvs vs ->
  RDs h (es.map (·.key)) (kvs.map fun kv=>keyD kv.1)∧Vals (kvs.map (·.2)) (es.map (·.val))
 | _,_,_,.nil,.nil=>⟨.nil,.nil⟩
 | _,_,_,.cons hk hv t,.cons ⟨e1,e2⟩ r=>by
  obtain ⟨i1,i2⟩:=keys_rd t r
  refine ⟨.cons (key_rd ?_) i1,.cons ?_ i2⟩
  ·have z:=hk
   rw [<- e1] at z
   exact z
  ·have q:=e2
   rw [<- hv] at q
   exact q
theorem DRs.length {K:PySem.W.Frag}:∀ {vs:List V} {ds:List PyData},DRs K H vs ds->ds.length = vs.length
 | _,_,.nil=>rfl
 | _,_,.cons _ t=>congrArg (· + 1) (DRs.length t)
mutual
theorem DR.rd (I:Inv X pins σ H s):∀ {v:V} {d:PyData},DR X.K H v d->∀ (u:Value),RelV v u->RD s.heap u d
 | _,_,.non,_,r=>by cases r; exact .none
 | _,_,.bl b,_,r=>by cases r; exact .bool b
 | _,_,.int i,_,r=>by obtain ⟨t,rfl⟩:=r; exact .int i t
 | _,_,.str x,_,r=>by obtain ⟨t,rfl⟩:=r; exact .str x t
 | _,_,.lst hs ha,_,r=>by
  cases r
  obtain ⟨its,rv,⟨o,n,ho,hc,_,hd⟩,_⟩:=I.list hs
  exact .list ho hc hd (DRs.rd I ha _ rv)
 | _,_,.tup hs ha,_,r=>by
  cases r
  obtain ⟨its,rv,⟨o,ho,hc,n,hd⟩,_⟩:=I.tuple hs
  exact .tuple ho hc hd (DRs.rd I ha _ rv)
 | _,_,.dic (kvs:=kvs) (ds:=ds) e ha,_,r=>by
  cases r
  obtain ⟨z,low,vs,rel,o,es,ep,h1,hx,h2,_,hp,_⟩:=dk_of I.hok e
  obtain ⟨k1,k2⟩:=keys_rd (h:=s.heap) hp rel
  have hl:=DRs.length ha
  rw [List.length_map] at hl
  refine .dict h1 hx.1 h2 low ?_ ?_
  ·rw [List.map_fst_zip (by simp [hl])]
   exact k1
  ·rw [List.map_snd_zip (by simp [hl])]
   exact DRs.rd I ha _ k2
theorem DRs.rd (I:Inv X pins σ H s):∀ {v:List V} {d:List PyData},DRs X.K H v d->∀ (u:List Value),Vals v u->RDs s.heap u d
 | _,_,.nil,_,r=>by cases r; exact .nil
 | _,_,.cons h1 h2,_,r=>by
  cases r with
  | cons r1 r2=>exact .cons (DR.rd I h1 _ r1) (DRs.rd I h2 _ r2)
end
def rReprR (K:PySem.W.Frag):List V->Hp->VK->Prop:=fun xs H Q=>∃ x d,xs = [x]∧DR K H x d∧showB d = true∧d.shown.length<=sizeLine∧d.depth<=64∧Q (.str d.shown) H
theorem repr_dr (hn:X.base.NoDigits) (hg:X.A.guards = some []) (hu:X.A.units + 150 < cLine):CallR X (.builtin "repr") (rReprR X.K):=by
 intro pins s σ H xs us Q I r h
 obtain ⟨x,d,rfl,hd,hs,hl,h64,q⟩:=h
 have hN:s.heap.NoDigits:=hn.keeps I.bk
 cases r with
 | @cons _ u _ _ ru r0 =>
  cases r0
  have rd:=DR.rd I hd u ru
  have fin:∀ (h':Heap) (u':Tok) (tk:Nat),(∀ b o,s.heap.get? b = some o->h'.get? b = some o)->EP X pins σ Q (.str d.shown u') { s with heap:=h',toks:=tk }:=fun h' u' tk k=>⟨.str d.shown,H,I.kept k,⟨_,rfl⟩,q⟩
  cases rd with
  | none=>exact PySem.P.repr_of_none (fin _ _ _ fun _ _ e=>e)
  | bool b=>exact PySem.P.repr_of_bool (fin _ _ _ fun _ _ e=>e)
  | int i t=>exact repr_intB hN (by unfold showB at hs; exact of_decide_eq_true hs) (fin _ _ _ fun _ _ e=>e)
  | str x t=>exact PySem.P.repr_of_str (fin _ _ _ fun _ _ e=>e) hl
  | list h1 h2 h3 h4=>exact repr_rd hN (.list h1 h2 h3 h4) hs hg (by omega) (fun _ _ e=>e) fin hl
  | tuple h1 h2 h3 h4=>exact repr_rd hN (.tuple h1 h2 h3 h4) hs hg (by omega) (fun _ _ e=>e) fin hl
  | dict h1 h2 h3 h4 h5 h6=>exact repr_rd hN (.dict h1 h2 h3 h4 h5 h6) hs hg (by omega) (fun _ _ e=>e) fin hl
end
end Mv
namespace Mv
open PySem PySem.Spec PyProof.Rows L2
mutual
inductive RV (K:PySem.W.Frag) (H:Hp) (ι:Nat->Addr) (n:Nat):V->LV->Prop
 | non:RV K H ι n .non .non
 | bl (b:Bool):RV K H ι n (.bl b) (.bl b)
 | int (i:Int):RV K H ι n (.int i) (.int i)
 | str (s:Str):RV K H ι n (.str s) (.str s)
 | tup {a:Addr} {xs:List V} {ds:List LV}:SqN K H a xs->RVs K H ι n xs ds->RV K H ι n (.ref a) (.tup ds)
 | ref (k:Nat):k < n->RV K H ι n (.ref (ι k)) (.ref k)
inductive RVs (K:PySem.W.Frag) (H:Hp) (ι:Nat->Addr) (n:Nat):List V->List LV->Prop
 | nil:RVs K H ι n [] []
 | cons {v:V} {d:LV} {vs:List V} {ds:List LV}:RV K H ι n v d->RVs K H ι n vs ds->RVs K H ι n (v :: vs) (d :: ds)
end
structure Ev (K:PySem.W.Frag) (ι:Nat->Addr) (H:Hp) (n:Nat) (ι':Nat->Addr) (H':Hp) (n':Nat):Prop where
 pl:∀ k,k < n->ι' k = ι k
 le:n<=n'
 tp:∀ a xs,SqN K H a xs->SqN K H' a xs
 fz:∀ a o u,H a = some (.frz o u)->H' a = some (.frz o u)
section
variable {K:PySem.W.Frag} {ι ι' ι'':Nat->Addr} {H H' H'':Hp} {n n' n'':Nat}
theorem Ev.refl:Ev K ι H n ι H n:=⟨fun _ _=>rfl,Nat.le_refl _,fun _ _ h=>h,fun _ _ _ h=>h⟩
theorem Ev.trans (a:Ev K ι H n ι' H' n') (b:Ev K ι' H' n' ι'' H'' n''):Ev K ι H n ι'' H'' n'' :=
 ⟨fun k hk=>(b.pl k (Nat.lt_of_lt_of_le hk a.le)).trans (a.pl k hk),Nat.le_trans a.le b.le,fun x xs h=>b.tp x xs (a.tp x xs h),fun x o u h=>b.fz x o u (a.fz x o u h)⟩
mutual
theorem RV.mono (ev:Ev K ι H n ι' H' n'):∀ {d:LV} {v:V},RV K H ι n v d->RV K H' ι' n' v d
 | .non,_,h=>by cases h; exact .non
 | .bl b,_,h=>by cases h; exact .bl b
 | .int i,_,h=>by cases h; exact .int i
 | .str s,_,h=>by cases h; exact .str s
 | .tup ds,_,h=>by
  cases h with
  | tup hs hr=>exact .tup (ev.tp _ _ hs) (RVs.mono ev hr)
 | .ref k,_,h=>by
  cases h with
  | ref _ hk =>
   rw [<- ev.pl k hk]
   exact .ref k (Nat.lt_of_lt_of_le hk ev.le)
theorem RVs.mono (ev:Ev K ι H n ι' H' n'):∀ {ds:List LV} {vs:List V},RVs K H ι n vs ds->RVs K H' ι' n' vs ds
 | [],_,h=>by cases h; exact .nil
 | d :: ds,_,h=>by
  cases h with
  | cons h1 h2=>exact .cons (RV.mono ev h1) (RVs.mono ev h2)
end
theorem RVs.length {vs:List V} {ds:List LV}:RVs K H ι n vs ds->vs.length = ds.length
 | .nil=>rfl
 | .cons _ t=>congrArg (· + 1) (RVs.length t)
theorem RVs.append:∀ {vs ws:List V} {ds es:List LV},RVs K H ι n vs ds->RVs K H ι n ws es->RVs K H ι n (vs ++ ws) (ds ++ es)
 | _,_,_,_,.nil,s=>s
 | _,_,_,_,.cons r t,s=>.cons r (RVs.append t s)
theorem RVs.take:∀ {vs:List V} {ds:List LV} (k:Nat),RVs K H ι n vs ds->RVs K H ι n (vs.take k) (ds.take k)
 | _,_,0,_=>.nil
 | _,_,_ + 1,.nil=>.nil
 | _,_,k + 1,.cons r t=>.cons r (RVs.take k t)
theorem RVs.drop:∀ {vs:List V} {ds:List LV} (k:Nat),RVs K H ι n vs ds->RVs K H ι n (vs.drop k) (ds.drop k)
 | _,_,0,r=>r
 | _,_,_ + 1,.nil=>.nil
 | _,_,k + 1,.cons r t=>RVs.drop k t
theorem RVs.reverse:∀ {vs:List V} {ds:List LV},RVs K H ι n vs ds->RVs K H ι n vs.reverse ds.reverse
 | _,_,.nil=>.nil
 | _,_,.cons r t=>by
  rw [List.reverse_cons,List.reverse_cons]
  exact RVs.append (RVs.reverse t) (.cons r .nil)
theorem RVs.flat {vs:List V} {ds:List LV} (r:RVs K H ι n vs ds):∀ k:Nat,RVs K H ι n (List.replicate k vs).flatten (List.replicate k ds).flatten
 | 0=>.nil
 | k + 1=>by
  rw [List.replicate_succ,List.replicate_succ,List.flatten_cons,List.flatten_cons]
  exact RVs.append r (RVs.flat r k)
theorem RVs.get:∀ {vs:List V} {ds:List LV} {i:Nat} {d:LV},RVs K H ι n vs ds->ds[i]? = some d->∃ v,vs[i]? = some v∧RV K H ι n v d
 | _,_,_,_,.nil,e=>by simp at e
 | _,_,0,_,.cons r _,e=>by
  simp at e
  subst e
  exact ⟨_,rfl,r⟩
 | _,_,i + 1,d,.cons _ t,e=>by
  obtain ⟨u,h1,h2⟩:=RVs.get (i:=i) (d:=d) t (by simpa using e)
  exact ⟨u,by simpa using h1,h2⟩
theorem RVs.getV:∀ {vs:List V} {ds:List LV} {i:Nat} {v:V},RVs K H ι n vs ds->vs[i]? = some v->∃ d,ds[i]? = some d∧RV K H ι n v d
 | _,_,_,_,.nil,e=>by simp at e
 | _,_,0,_,.cons r _,e=>by
  simp at e
  subst e
  exact ⟨_,rfl,r⟩
 | _,_,i + 1,d,.cons _ t,e=>by
  obtain ⟨u,h1,h2⟩:=RVs.getV (i:=i) (v:=d) t (by simpa using e)
  exact ⟨u,by simpa using h1,h2⟩
theorem RVs.set {v:V} {d:LV} (r:RV K H ι n v d):∀ {vs:List V} {ds:List LV} (i:Nat),RVs K H ι n vs ds->RVs K H ι n (vs.set i v) (ds.set i d)
 | _,_,_,.nil=>.nil
 | _,_,0,.cons _ t=>.cons r t
 | _,_,i + 1,.cons q t=>.cons q (RVs.set r i t)
theorem RVs.dropLast:∀ {vs:List V} {ds:List LV},RVs K H ι n vs ds->RVs K H ι n vs.dropLast ds.dropLast
 | _,_,.nil=>.nil
 | _,_,.cons _ .nil=>.nil
 | _,_,.cons r (.cons q t)=>.cons r (RVs.dropLast (.cons q t))
theorem RVs.ints:∀ (ns:List Int),RVs K H ι n (ns.map V.int) (ns.map LV.int)
 | []=>.nil
 | i :: r=>.cons (.int i) (RVs.ints r)
theorem RVs.toInts:∀ {ds:List LV} {vs:List V} {ns:List Int},RVs K H ι n vs ds->intL ds = some ns->vs = ns.map V.int
 | [],_,_,h,e=>by
  cases h
  cases e
  rfl
 | .int i :: ds,_,_,h,e=>by
  cases h with
  | cons h1 h2 =>
   cases h1
   unfold intL at e
   obtain ⟨r,e1,e2⟩:=Option.map_eq_some_iff.mp e
   rw [<- e2,RVs.toInts h2 e1]
   rfl
 | .non :: _,_,_,_,e=>by cases e
 | .bl _ :: _,_,_,_,e=>by cases e
 | .str _ :: _,_,_,_,e=>by cases e
 | .tup _ :: _,_,_,_,e=>by cases e
 | .ref _ :: _,_,_,_,e=>by cases e
theorem RVs.toBls:∀ {ds:List LV} {vs:List V} {ns:List Bool},RVs K H ι n vs ds->blL ds = some ns->vs = ns.map V.bl
 | [],_,_,h,e=>by
  cases h
  cases e
  rfl
 | .bl i :: ds,_,_,h,e=>by
  cases h with
  | cons h1 h2 =>
   cases h1
   unfold blL at e
   obtain ⟨r,e1,e2⟩:=Option.map_eq_some_iff.mp e
   rw [<- e2,RVs.toBls h2 e1]
   rfl
 | .non :: _,_,_,_,e=>by cases e
 | .int _ :: _,_,_,_,e=>by cases e
 | .str _ :: _,_,_,_,e=>by cases e
 | .tup _ :: _,_,_,_,e=>by cases e
 | .ref _ :: _,_,_,_,e=>by cases e
end
inductive RKV (K:PySem.W.Frag) (H:Hp) (ι:Nat->Addr) (n:Nat):List (Key × V)->List (Key × LV)->Prop
 | nil:RKV K H ι n [] []
 | cons {k:Key} {v:V} {d:LV} {vs:List (Key × V)} {ds:List (Key × LV)}:RV K H ι n v d->RKV K H ι n vs ds->RKV K H ι n ((k,v) :: vs) ((k,d) :: ds)
inductive RFS (K:PySem.W.Frag) (H:Hp) (ι:Nat->Addr) (n:Nat):List (Str × V)->List (Str × LV)->Prop
 | nil:RFS K H ι n [] []
 | cons {k:Str} {v:V} {d:LV} {vs:List (Str × V)} {ds:List (Str × LV)}:RV K H ι n v d->RFS K H ι n vs ds->RFS K H ι n ((k,v) :: vs) ((k,d) :: ds)
def ClsOf (K:PySem.W.Frag) (c:Str) (C:Addr):Prop:=PySem.W.nsIn K mainGlobals c = some (some (.ref C))
structure ClsF (K:PySem.W.Frag) (C:Addr):Prop where
 cl:Cls K C
 ca:PySem.W.findIn K (.ref C) "__class__" = some (some (.builtin "object.__class__"))
 cn:PySem.W.specialIn K (.builtin "object.__class__") "__get__" = some (some (.builtin "getset_descriptor.__get__"))
 ct:PySem.W.takesIn K (.builtin "object.__class__") = some true
 cm:PySem.W.mroIn K C (.type "object") = some true
def FrzAt (K:PySem.W.Frag) (H:Hp) (a:Addr) (xs:List V):Prop:=(∃ o,H a = some (.frz o (.lst xs)))∨SqL K (fun _=>none) a xs
def isMut:LO->Bool
 | .frz _=>false
 | .dtp _=>false
 | .cls _=>false
 | .exn _ _=>false
 | .frd _=>false
 | .frt _=>false
 | _=>true
def XRep (K:PySem.W.Frag) (H:Hp) (ι:Nat->Addr) (n:Nat) (cls:Value) (d:Option Addr) (c:Str) (fs:List (Str × LV)):Prop :=
 ∃ C,ClsOf K c C∧cls = .ref C∧((fs = []∧d = none)∨∃ dd vs,d = some dd∧H dd = some (.xd vs)∧RFS K H ι n vs fs)
def ExF (a:Addr) (oe:Obj):HO:=.frz oe (.ext fun h=>h.get? a = some oe)
inductive RDV (K:PySem.W.Frag) (H:Hp) (ι:Nat->Addr) (n:Nat):List XE3->List (NestedKey × LV)->Prop
 | nil:RDV K H ι n [] []
 | cons {x:XE3} {d:LV} {xs:List XE3} {ds:List (NestedKey × LV)}:KVn K H x.1 (.ref x.2.1)->x.1.depth<=8->RV K H ι n x.2.2 d->RDV K H ι n xs ds->RDV K H ι n (x :: xs) ((x.1,d) :: ds)
theorem RDV.mono {K:PySem.W.Frag} {H H':Hp} {ι ι':Nat->Addr} {n n':Nat} (ev:Ev K ι H n ι' H' n'):∀ {xs:List XE3} {ds:List (NestedKey × LV)},RDV K H ι n xs ds->RDV K H' ι' n' xs ds
 | _,_,.nil=>.nil
 | _,_,.cons h1 h2 h3 t=>.cons (KVn.mono ev.tp _ _ h1) h2 (h3.mono ev) (RDV.mono ev t)
def RO (K:PySem.W.Frag) (H:Hp) (ι:Nat->Addr) (n:Nat) (a:Addr):LO->Prop
 | .lst ds=>∃ xs,H a = some (.lst xs)∧RVs K H ι n xs ds
 | .frz ns=>FrzAt K H a (ns.map V.int)
 | .dic ds=>∃ vs,H a = some (.dK vs)∧RKV K H ι n vs ds
 | .ins c fs=>∃ C dx vs,ClsOf K c C∧ClsF K C∧H a = some (.ins C dx vs)∧RFS K H ι n vs fs
 | .dtp ds=>∃ q xs,H a = some (.frz q (.tup xs))∧q.cls = .type "tuple"∧q.dict = none∧RVs K H ι n xs ds
 | .cls c=>ClsOf K c a
 | .exn c fs=>∃ oe cls d,H a = some (ExF a oe)∧Zc cls d oe∧(∃ vs,oe.data = .fields vs∧vs[2]? = some Value.none)∧XRep K H ι n cls d c fs
 | .dct ds=>∃ xs,H a = some (DctO a xs)∧RDV K H ι n xs ds
 | .frd ds=>∃ o vs,H a = some (.frz o (.dK vs))∧RKV K H ι n vs ds
 | .frt ds=>∃ o xs,H a = some (.frz o (DctO a xs))∧RDV K H ι n xs ds
def isStl:LO->Bool
 | .cls _=>true
 | .exn _ _=>true
 | .frd _=>true
 | .frt _=>true
 | _=>false
structure Rep (K:PySem.W.Frag) (ι:Nat->Addr) (H:Hp) (L:LH):Prop where
 ob:∀ (k:Nat) (o:LO),L[k]? = some o->RO K H ι L.length (ι k) o
 inj:∀ (j k:Nat) (x y:LO),L[j]? = some x->L[k]? = some y->isMut x = true->isMut y = true->ι j = ι k->j = k
structure RS (K:PySem.W.Frag) (H:Hp) (ι:Nat->Addr) (n:Nat) (σV:L2.St) (σ:LSt):Prop where
 len:σV.length = σ.length
 at_:∀ (i:Nat) (d:LV),σ[i]? = some (some d)->∃ v,σV[i]? = some (some v)∧RV K H ι n v d
section
variable {K:PySem.W.Frag} {ι ι':Nat->Addr} {H H':Hp} {n n':Nat} {L:LH} {a p:Addr}
theorem RKV.mono (ev:Ev K ι H n ι' H' n'):∀ {vs:List (Key × V)} {ds:List (Key × LV)},RKV K H ι n vs ds->RKV K H' ι' n' vs ds
 | _,_,.nil=>.nil
 | _,_,.cons r t=>.cons (r.mono ev) (RKV.mono ev t)
theorem RFS.mono (ev:Ev K ι H n ι' H' n'):∀ {vs:List (Str × V)} {ds:List (Str × LV)},RFS K H ι n vs ds->RFS K H' ι' n' vs ds
 | _,_,.nil=>.nil
 | _,_,.cons r t=>.cons (r.mono ev) (RFS.mono ev t)
theorem RFS.length:∀ {vs:List (Str × V)} {ds:List (Str × LV)},RFS K H ι n vs ds->vs.length = ds.length
 | _,_,.nil=>rfl
 | _,_,.cons _ t=>congrArg (· + 1) (RFS.length t)
theorem lookup_cons {α:Type} (f g:Str) (x:α) (r:List (Str × α)):((f,x) :: r).lookup g = if g = f then some x else r.lookup g:=by
 by_cases h:g = f
 ·subst h
  simp [List.lookup]
 ·have hb:(g == f) = false:=beq_eq_false_iff_ne.mpr h
  simp only [List.lookup,hb,if_neg h]
theorem RFS.get {f:Str}:∀ {vs:List (Str × V)} {ds:List (Str × LV)} {d:LV},RFS K H ι n vs ds->ds.lookup f = some d->∃ v,vs.lookup f = some v∧RV K H ι n v d
 | _,_,_,.nil,e=>by cases e
 | _,_,d,.cons (k:=k) (v:=v) r t,e=>by
  rw [lookup_cons] at e ⊢
  by_cases h:f = k
  ·rw [if_pos h] at e ⊢
   cases e
   exact ⟨v,rfl,r⟩
  ·rw [if_neg h] at e ⊢
   exact RFS.get t e
theorem RFS.none {f:Str}:∀ {vs:List (Str × V)} {ds:List (Str × LV)},RFS K H ι n vs ds->ds.lookup f = Option.none->vs.lookup f = Option.none
 | _,_,.nil,_=>rfl
 | _,_,.cons (k:=k) (v:=v) r t,e=>by
  rw [lookup_cons] at e ⊢
  by_cases h:f = k
  ·rw [if_pos h] at e
   cases e
  ·rw [if_neg h] at e ⊢
   exact RFS.none t e
theorem RFS.put {f:Str} {v:V} {d:LV} (q:RV K H ι n v d):∀ {vs:List (Str × V)} {ds:List (Str × LV)},RFS K H ι n vs ds->RFS K H ι n (putF f v vs) (fput f d ds)
 | _,_,.nil=>.cons q .nil
 | _,_,.cons (k:=k) r t=>by
  unfold putF fput
  by_cases h:k = f
  ·rw [if_pos h,if_pos h]
   exact .cons q t
  ·rw [if_neg h,if_neg h]
   exact .cons r (RFS.put q t)
theorem RKV.length:∀ {vs:List (Key × V)} {ds:List (Key × LV)},RKV K H ι n vs ds->vs.length = ds.length
 | _,_,.nil=>rfl
 | _,_,.cons _ t=>congrArg (· + 1) (RKV.length t)
theorem RKV.val {k:Key}:∀ {vs:List (Key × V)} {ds:List (Key × LV)} {d:LV},RKV K H ι n vs ds->dval ds k = some d->∃ v,valV vs k = some v∧RV K H ι n v d
 | _,_,_,.nil,e=>by cases e
 | _,_,d,.cons (k:=k') (v:=v) (d:=d') r t,e=>by
  by_cases h:k' = k
  ·subst h
   have e':dval ((k',d') :: _) k' = some d:=e
   unfold dval at e'
   rw [List.find?_cons_of_pos (by simp)] at e'
   cases e'
   exact ⟨v,valV_pos rfl,r⟩
  ·have e':dval ((k',d') :: _) k = some d:=e
   unfold dval at e'
   rw [List.find?_cons_of_neg (by simpa using h)] at e'
   obtain ⟨v',h1,h2⟩:=RKV.val (k:=k) (d:=d) t e'
   exact ⟨v',by rw [valV_neg h]; exact h1,h2⟩
theorem RKV.any {k:Key}:∀ {vs:List (Key × V)} {ds:List (Key × LV)},RKV K H ι n vs ds->(vs.any fun kv=>decide (kv.1 = k)) = ds.any fun kv=>decide (kv.1 = k)
 | _,_,.nil=>rfl
 | _,_,.cons r t=>by
  rw [List.any_cons,List.any_cons,RKV.any t]
theorem RKV.repl {k:Key} {v:V} {d:LV} (r:RV K H ι n v d):∀ {vs:List (Key × V)} {ds:List (Key × LV)},RKV K H ι n vs ds ->
  RKV K H ι n (vs.map fun kv=>if kv.1 = k then (kv.1,v) else kv) (ds.map fun kv=>if kv.1 = k then (kv.1,d) else kv)
 | _,_,.nil=>.nil
 | _,_,.cons (k:=k') q t=>by
  rw [List.map_cons,List.map_cons]
  by_cases h:k' = k
  ·rw [if_pos h,if_pos h]
   exact .cons r (RKV.repl r t)
  ·rw [if_neg h,if_neg h]
   exact .cons q (RKV.repl r t)
theorem RKV.append:∀ {vs ws:List (Key × V)} {ds es:List (Key × LV)},RKV K H ι n vs ds->RKV K H ι n ws es->RKV K H ι n (vs ++ ws) (ds ++ es)
 | _,_,_,_,.nil,s=>s
 | _,_,_,_,.cons r t,s=>.cons r (RKV.append t s)
theorem RKV.put {k:Key} {v:V} {d:LV} {vs:List (Key × V)} {ds:List (Key × LV)} (r:RV K H ι n v d) (h:RKV K H ι n vs ds):RKV K H ι n (putK vs k v) (dput ds k d):=by
 unfold putK dput
 rw [h.any]
 split
 ·exact RKV.repl r h
 ·exact RKV.append h (.cons r .nil)
theorem SqT.upd {xs zs:List V} {o:HO} (h:SqT K H a xs) (hp:∀ u,H p = some u->(∀ ys,u≠.tup ys)∧∀ q ys,u≠.frz q (.tup ys)):SqT K (upd H p o) a xs:=by
 rcases h with (h | ⟨q,h⟩) | h
 ·refine .inl (.inl ?_)
  rw [upd_ne]
  ·exact h
  ·rintro rfl
   exact (hp _ h).1 xs rfl
 ·refine .inl (.inr ⟨q,?_⟩)
  rw [upd_ne]
  ·exact h
  ·rintro rfl
   exact (hp _ h).2 q xs rfl
 ·exact .inr h
theorem NoD.upd {H:Hp} {a p:Addr} {o:HO} (h:NoD H a) (hne:∀ q u,H a = some (.frz q u)->a≠p):NoD (upd H p o) a:=by
 obtain ⟨q,u,h1,h2,h3⟩:=h
 exact ⟨q,u,(upd_ne (hne q u h1)).trans h1,h2,h3⟩
theorem noTup_none {H:Hp} {p:Addr} (h:H p = none):∀ u,H p = some u->(∀ ys,u≠.tup ys)∧∀ q ys,u≠.frz q (.tup ys):=fun u e=>by rw [h] at e; cases e
theorem Ev.fresh {o:HO} (hp:H p = none):Ev K ι H n ι (upd H p o) n:=⟨fun _ _=>rfl,Nat.le_refl _,fun _ xs h=>⟨SqT.upd (zs:=xs) h.1 (noTup_none hp),NoD.upd h.2 fun _ _ e=>ne_of_none e hp⟩,fun _ _ _ h=>(upd_ne (ne_of_none h hp)).trans h⟩
def ext (ι:Nat->Addr) (n:Nat) (p:Addr):Nat->Addr:=fun k=>if k = n then p else ι k
theorem ext_lt {k:Nat} (h:k < n):ext ι n p k = ι k:=if_neg (Nat.ne_of_lt h)
theorem ext_eq:ext ι n p n = p:=if_pos rfl
theorem Ev.new {o:HO} (hp:H p = none):Ev K ι H n (ext ι n p) (upd H p o) (n + 1) :=
 ⟨fun _ hk=>ext_lt hk,Nat.le_succ _,fun _ xs h=>⟨SqT.upd (zs:=xs) h.1 (noTup_none hp),NoD.upd h.2 fun _ _ e=>ne_of_none e hp⟩,fun _ _ _ h=>(upd_ne (ne_of_none h hp)).trans h⟩
theorem RO.mono_ne {o:LO} {u:HO} (ev:Ev K ι H n ι' (upd H p u) n') (h:RO K H ι n a o) (hm:∀ b w,H b = some w->¬ Mut (some w)->b≠p) (ha:a≠p∨(∃ ns,o = .frz ns∧¬ ∃ q xs,H p = some (.frz q (.lst xs)))∨isStl o = true):RO K (upd H p u) ι' n' a o:=by
 cases o with
 | lst ds =>
  obtain ⟨xs,h1,h2⟩:=h
  rcases ha with ha | ⟨_,e,_⟩ | e
  ·exact ⟨xs,by rw [upd_ne ha]; exact h1,h2.mono ev⟩
  ·cases e
  ·cases e
 | dic ds =>
  obtain ⟨xs,h1,h2⟩:=h
  rcases ha with ha | ⟨_,e,_⟩ | e
  ·exact ⟨xs,by rw [upd_ne ha]; exact h1,h2.mono ev⟩
  ·cases e
  ·cases e
 | ins c fs =>
  obtain ⟨C,dx,vs,h0,hF,h1,h2⟩:=h
  rcases ha with ha | ⟨_,e,_⟩ | e
  ·exact ⟨C,dx,vs,h0,hF,by rw [upd_ne ha]; exact h1,h2.mono ev⟩
  ·cases e
  ·cases e
 | dtp ds =>
  obtain ⟨q,xs,h1,h2,h3,h4⟩:=h
  rcases ha with ha | ⟨_,e,_⟩ | e
  ·exact ⟨q,xs,by rw [upd_ne ha]; exact h1,h2,h3,h4.mono ev⟩
  ·cases e
  ·cases e
 | frz ns =>
  rcases h with ⟨q,h⟩ | h
  ·refine .inl ⟨q,?_⟩
   rw [upd_ne]
   ·exact h
   ·rintro rfl
    rcases ha with ha | ⟨_,_,ha⟩ | e
    ·exact ha rfl
    ·exact ha ⟨_,_,h⟩
    ·cases e
  ·exact .inr h
 | cls c=>exact h
 | dct ds =>
  obtain ⟨xs,h1,h2⟩:=h
  rcases ha with ha | ⟨_,e,_⟩ | e
  ·exact ⟨xs,by rw [upd_ne ha]; exact h1,h2.mono ev⟩
  ·cases e
  ·cases e
 | frd ds =>
  obtain ⟨o,vs,h1,h2⟩:=h
  exact ⟨o,vs,by rw [upd_ne (hm _ _ h1 fun z=>z)]; exact h1,h2.mono ev⟩
 | frt ds =>
  obtain ⟨o,vs,h1,h2⟩:=h
  exact ⟨o,vs,by rw [upd_ne (hm _ _ h1 fun z=>z)]; exact h1,h2.mono ev⟩
 | exn c fs =>
  obtain ⟨oe,cls,d,h1,h2,h3,C,h4,h5,h6⟩:=h
  refine ⟨oe,cls,d,by rw [upd_ne (hm _ _ h1 fun z=>z)]; exact h1,h2,h3,C,h4,h5,?_⟩
  rcases h6 with h6 | ⟨dd,vs,e1,e2,e3⟩
  ·exact .inl h6
  ·exact .inr ⟨dd,vs,e1,by rw [upd_ne (hm _ _ e2 fun z=>z)]; exact e2,e3.mono ev⟩
theorem RO.some {o:LO} (h:RO K H ι n a o) (m:isMut o = true):∃ u,H a = some u∧Mut (some u):=by
 cases o with
 | lst ds=>obtain ⟨xs,h1,_⟩:=h; exact ⟨_,h1,trivial⟩
 | dic ds=>obtain ⟨xs,h1,_⟩:=h; exact ⟨_,h1,trivial⟩
 | ins c fs=>obtain ⟨C,dx,vs,_,_,h1,_⟩:=h; exact ⟨_,h1,trivial⟩
 | frz ns=>cases m
 | dtp ds=>cases m
 | cls c=>cases m
 | exn c fs=>cases m
 | frd ds=>cases m
 | frt ds=>cases m
 | dct ds=>obtain ⟨xs,h1,_⟩:=h; exact ⟨_,h1,trivial⟩
theorem get_lt {k:Nat} {o:LO} (h:L[k]? = some o):k < L.length:=(List.getElem?_eq_some_iff.mp h).1
theorem Rep.free {u:HO} (R:Rep K ι H L) (hp:H p = none):Rep K ι (upd H p u) L :=
 ⟨fun k o h=>(R.ob k o h).mono_ne (Ev.fresh hp) (fun b w e _=>ne_of_none e hp) (by
  by_cases m:isMut o = true
  ·obtain ⟨u,e,_⟩:=(R.ob k o h).some m
   exact .inl (ne_of_none e hp)
  ·cases o with
   | frz ns=>exact .inr (.inl ⟨ns,rfl,fun ⟨_,_,z⟩=>by rw [hp] at z; cases z⟩)
   | dtp ds =>
    obtain ⟨_,_,e,_⟩:=R.ob k _ h
    exact .inl (ne_of_none e hp)
   | cls c=>exact .inr (.inr rfl)
   | exn c fs=>exact .inr (.inr rfl)
   | frd ds=>exact .inr (.inr rfl)
   | frt ds=>exact .inr (.inr rfl)
   | _=>exact absurd rfl m),R.inj⟩
theorem Rep.new {u:HO} {o:LO} (R:Rep K ι H L) (hp:H p = none) (h:RO K (upd H p u) (ext ι L.length p) (L.length + 1) p o):Rep K (ext ι L.length p) (upd H p u) (L ++ [o]):=by
 have old:∀ k x,L[k]? = some x->isMut x = true->ι k≠p:=fun k x e m=>by
  obtain ⟨u,e',_⟩:=(R.ob k x e).some m
  exact ne_of_none e' hp
 refine ⟨fun k x e=>?_,fun j k x y ej ek mx my eq=>?_⟩
 ·rw [List.length_append,List.length_singleton]
  by_cases hk:k < L.length
  ·rw [List.getElem?_append_left hk] at e
   rw [ext_lt hk]
   refine (R.ob k x e).mono_ne (Ev.new hp) (fun b w e _=>ne_of_none e hp) ?_
   by_cases m:isMut x = true
   ·exact .inl (old k x e m)
   ·cases x with
    | frz ns=>exact .inr (.inl ⟨ns,rfl,fun ⟨_,_,z⟩=>by rw [hp] at z; cases z⟩)
    | dtp ds =>
     obtain ⟨_,_,e',_⟩:=R.ob k _ e
     exact .inl (ne_of_none e' hp)
    | cls c=>exact .inr (.inr rfl)
    | exn c fs=>exact .inr (.inr rfl)
    | frd ds=>exact .inr (.inr rfl)
    | frt ds=>exact .inr (.inr rfl)
    | _=>exact absurd rfl m
  ·have hl:=get_lt e
   rw [List.length_append,List.length_singleton] at hl
   have hk':k = L.length:=by omega
   subst hk'
   rw [List.getElem?_append_right (Nat.le_refl _)] at e
   simp at e
   subst e
   rw [ext_eq]
   exact h
 ·have cas:∀ i z,(L ++ [o])[i]? = some z->(i < L.length∧L[i]? = some z)∨i = L.length:=fun i z e=>by
   by_cases hi:i < L.length
   ·rw [List.getElem?_append_left hi] at e
    exact .inl ⟨hi,e⟩
   ·have hl:=get_lt e
    rw [List.length_append,List.length_singleton] at hl
    exact .inr (by omega)
  rcases cas j x ej with ⟨hj,ej'⟩ | hj
  ·rcases cas k y ek with ⟨hk,ek'⟩ | hk
   ·rw [ext_lt hj,ext_lt hk] at eq
    exact R.inj j k x y ej' ek' mx my eq
   ·subst hk
    rw [ext_lt hj,ext_eq] at eq
    exact absurd eq (old j x ej' mx)
  ·rcases cas k y ek with ⟨hk,ek'⟩ | hk
   ·subst hj
    rw [ext_lt hk,ext_eq] at eq
    exact absurd eq.symm (old k y ek' my)
   ·rw [hj,hk]
theorem noTup_mut {u:HO} (h:H p = some u) (m:Mut (some u)):∀ u,H p = some u->(∀ ys,u≠.tup ys)∧∀ q ys,u≠.frz q (.tup ys):=fun u' e=>by
 rw [h] at e
 cases e
 refine ⟨fun ys z=>?_,fun q ys z=>?_⟩ <;> (subst z; exact m)
theorem Ev.set {u o:HO} (h:H p = some u) (m:Mut (some u)):Ev K ι H n ι (upd H p o) n:=⟨fun _ _=>rfl,Nat.le_refl _,fun _ xs q=>⟨SqT.upd (zs:=xs) q.1 (noTup_mut h m),NoD.upd q.2 fun o u q e=>by subst e; rw [h] at q; cases q; exact m⟩,fun b o u q=>(upd_ne (fun e=>by subst e; rw [h] at q; cases q; exact m)).trans q⟩
theorem Rep.setW {k:Nat} {u:HO} {o o':LO} (R:Rep K ι H L) (hk:L[k]? = some o) (m:isMut o = true) (h:RO K (upd H (ι k) u) ι L.length (ι k) o') :
  Rep K ι (upd H (ι k) u) (L.set k o'):=by
 obtain ⟨w,hw,mw⟩:=(R.ob k o hk).some m
 have hl:=get_lt hk
 refine ⟨fun j x e=>?_,fun i j x y ei ej mx my eq=>?_⟩
 ·rw [List.length_set]
  by_cases hj:j = k
  ·subst hj
   rw [List.getElem?_set_self hl] at e
   cases e
   exact h
  ·rw [List.getElem?_set_ne (Ne.symm hj)] at e
   refine (R.ob j x e).mono_ne (Ev.set hw mw) (fun b w e nm z=>by rw [z,hw] at e; cases e; exact nm mw) ?_
   by_cases mx:isMut x = true
   ·exact .inl fun z=>hj (R.inj j k x o e hk mx m z)
   ·cases x with
    | frz ns=>exact .inr (.inl ⟨ns,rfl,fun ⟨_,_,z⟩=>by rw [hw] at z; cases z; exact mw⟩)
    | dtp ds =>
     obtain ⟨q,xs,e',_⟩:=R.ob j _ e
     refine .inl fun z=>?_
     rw [z,hw] at e'
     cases e'
     exact mw
    | cls c=>exact .inr (.inr rfl)
    | exn c fs=>exact .inr (.inr rfl)
    | frd ds=>exact .inr (.inr rfl)
    | frt ds=>exact .inr (.inr rfl)
    | _=>exact absurd rfl mx
 ·have cas:∀ i z,(L.set k o')[i]? = some z->∃ z',L[i]? = some z'∧(isMut z = true->isMut z' = true):=fun i z e=>by
   by_cases hi:i = k
   ·subst hi
    exact ⟨o,hk,fun _=>m⟩
   ·rw [List.getElem?_set_ne (Ne.symm hi)] at e
    exact ⟨z,e,fun q=>q⟩
  obtain ⟨x',ex,mx'⟩:=cas i x ei
  obtain ⟨y',ey,my'⟩:=cas j y ej
  exact R.inj i j x' y' ex ey (mx' mx) (my' my) eq
theorem Rep.set {k:Nat} {u:HO} {o o':LO} (R:Rep K ι H L) (hk:L[k]? = some o) (m:isMut o = true) (m':isMut o' = true) (h:RO K (upd H (ι k) u) ι L.length (ι k) o'):Rep K ι (upd H (ι k) u) (L.set k o'):=R.setW hk m h
theorem RS.mono {σV:L2.St} {σ:LSt} (ev:Ev K ι H n ι' H' n') (r:RS K H ι n σV σ):RS K H' ι' n' σV σ :=
 ⟨r.len,fun i d e=>let ⟨v,h1,h2⟩:=r.at_ i d e; ⟨v,h1,h2.mono ev⟩⟩
theorem RS.set {σV:L2.St} {σ:LSt} {v:V} {d:LV} (i:Nat) (q:RV K H ι n v d) (r:RS K H ι n σV σ):RS K H ι n (σV.set i (some v)) (σ.set i (some d)):=by
 refine ⟨by rw [List.length_set,List.length_set]; exact r.len,fun j e h=>?_⟩
 by_cases hj:i = j
 ·subst hj
  have hl:i < σ.length:=by
   have z:=(List.getElem?_eq_some_iff.mp h).1
   rwa [List.length_set] at z
  rw [List.getElem?_set_self hl] at h
  cases h
  exact ⟨v,List.getElem?_set_self (by rw [r.len]; exact hl),q⟩
 ·rw [List.getElem?_set_ne hj] at h
  rw [List.getElem?_set_ne hj]
  exact r.at_ j e h
end
abbrev XW:=Str->List (Str × LV)->LH->(Nat->Addr)->Hp->L2.St->Prop
abbrev Rl (α β:Type):=Hp->(Nat->Addr)->Nat->β->α->Prop
def wx (K:PySem.W.Frag) (W:XW):WX:=fun cls d σV H=>∃ c fs L ι,Rep K ι H L∧XRep K H ι L.length cls d c fs∧W c fs L ι H σV
abbrev W0:XW:=fun _ _ _ _ _ _=>False
def hotW (W:XW):XW:=fun c fs L ι H σ=>isHot c = true∧W c fs L ι H σ
structure TakesH (X:Cx) (W:XW):Prop where
 n:L2N.Takes X (wx X.K W)
 c:L2.Takes X (wx X.K (hotW W))
def CXh (K:PySem.W.Frag) (P:Program) (w:World) (W:XW):CXT:=fun outer H s _ u s' =>
 L2N.CX P w outer H s (fun cls d H'=>wx K W cls d [] H') u s'∨L2.CX P w outer H s (fun cls d H'=>wx K (hotW W) cls d [] H') u s'
theorem takes0 {X:Cx}:TakesH X W0 :=
 ⟨fun _ _ ⟨_,_,_,_,_,_,_,_,_,_,_,_,_,_,_,_,_,_,_,_,_,_,w⟩=>w.elim,fun _ _ ⟨_,_,_,_,_,_,_,_,_,_,_,_,_,_,_,_,_,_,_,_,_,_,w⟩=>w.2.elim⟩
section
variable {X:Cx} {W:XW} {pins:List (Addr × Obj)} {σV:L2.St} {H:Hp} {s s':Shared}
theorem TakesH.call {e:Value} (tk:TakesH X W) (I:Inv X pins σV H s) (c:CXh X.K X.prog X.w (fun c fs L ι H' _=>W c fs L ι H' σV) X.stack H s (fun _ _ _=>False) e s'):X.xe e s' :=
 c.elim (fun c=>tk.n _ _ (L2N.XE.of_call I (fun _ _ _ z=>z) c)) fun c=>tk.c _ _ (L2.XE.of_call I (fun _ _ _ z=>z) c)
theorem CXh.no {K:PySem.W.Frag} {P:Program} {w:World} {outer:List Env} {E:XK} {u:Value} (c:CXh K P w W0 outer H s E u s'):False:=by
 rcases c with ⟨_,_,_,_,_,_,_,_,_,_,_,_,z⟩ | ⟨_,_,_,_,_,_,_,_,_,_,_,_,z⟩
 ·obtain ⟨_,_,_,_,_,_,z⟩:=z
  exact z
 ·obtain ⟨_,_,_,_,_,_,z⟩:=z
  exact z.2
theorem takesH_of {E:XK} {E₁:Value->Shared->Prop} (hs:X.stack = X.env :: X.outer) (hf:X.env.frame = some X.env.locals) (hex:X.ex = [])
  (hx:X.xe = fun e s'=>wpAny (model X.prog X.w) X.A (leaving X.env e) (fun _ s''=>CXh X.K X.prog X.w W X.outer X.H_0 X.s_0 E e s'') E₁ s'):TakesH X (fun c fs L ι H _=>W c fs L ι H []):=by
 refine ⟨fun u s' x=>?_,fun u s' x=>?_⟩
 ·rw [hx]
  exact wpAny_mono (L2N.XE.leave (E:=fun cls d H'=>wx X.K W cls d [] H') hs hf hex (fun _ _ _ _ z=>z) x) (fun _ _ c=>.inl c) fun _ _ z=>z
 ·rw [hx]
  exact wpAny_mono (L2.XE.leave (E:=fun cls d H'=>wx X.K (hotW W) cls d [] H') hs hf hex (fun _ _ _ _ z=>z) x) (fun _ _ c=>.inr c) fun _ _ z=>z
end
section
variable {α β γ δ:Type}
def Po (K:PySem.W.Frag) (W:XW) (R:Rl α β) (σV:L2.St) (Q:β->Hp->Prop) (ι:Nat->Addr) (H:Hp) (n:Nat):Out α->Prop
 | .ok d L'=>∀ ι' H' v,Ev K ι H n ι' H' L'.length->Rep K ι' H' L'->R H' ι' L'.length v d->Q v H'
 | .ex c fs L'=>∀ ι' H',Ev K ι H n ι' H' L'.length->Rep K ι' H' L'->W c fs L' ι' H' σV
structure At (K:PySem.W.Frag) (W:XW) (R:Rl α β) (σV:L2.St) (σ:LSt) (ι:Nat->Addr) (L:LH) (r:Option (Out α)) (Q:β->Hp->Prop) (H:Hp):Prop where
 rep:Rep K ι H L
 rs:RS K H ι L.length σV σ
 go:∃ o,r = some o∧Po K W R σV Q ι H L.length o
variable {K:PySem.W.Frag} {W:XW} {R:Rl α β} {R2:Rl γ δ} {σV:L2.St} {σ:LSt} {ι:Nat->Addr} {L:LH} {H:Hp} {Q Q':β->Hp->Prop} {Q2:δ->Hp->Prop} {r:Option (Out α)}
theorem At.imp (h:At K W R σV σ ι L r Q H) (q:∀ v H',Q v H'->Q' v H'):At K W R σV σ ι L r Q' H:=by
 obtain ⟨a,b,o,e,p⟩:=h
 refine ⟨a,b,o,e,?_⟩
 cases o with
 | ok d L'=>exact fun ι' H' v e1 e2 e3=>q _ _ (p ι' H' v e1 e2 e3)
 | ex c fs L'=>exact p
theorem At.quiet {W':XW} {m:M α} (h:At K W R σV σ ι L (M.quiet m L) Q H):At K W' R σV σ ι L (m L) Q H:=by
 obtain ⟨a,b,o,e,p⟩:=h
 unfold M.quiet at e
 refine ⟨a,b,?_⟩
 cases hm:m L with
 | none=>rw [hm] at e; cases e
 | some om =>
  rw [hm] at e
  cases om with
  | ok d L1 =>
   cases e
   exact ⟨_,rfl,p⟩
  | ex c fs L1=>cases e
theorem At.bind {m:M α} {f:α->M γ} (h:At K W R2 σV σ ι L (M.bind m f L) Q2 H) :
  At K W R σV σ ι L (m L) (fun v H1=>∃ d ι1 L1,R H1 ι1 L1.length v d∧Ev K ι H L.length ι1 H1 L1.length∧At K W R2 σV σ ι1 L1 (f d L1) Q2 H1) H:=by
 obtain ⟨a,b,o,e,p⟩:=h
 unfold M.bind at e
 refine ⟨a,b,?_⟩
 cases hm:m L with
 | none=>rw [hm] at e; cases e
 | some om =>
  cases om with
  | ok d L1 =>
   rw [hm] at e
   have e:f d L1 = some o:=e
   refine ⟨_,rfl,fun ι1 H1 v ev rp rv=>⟨d,ι1,L1,rv,ev,rp,b.mono ev,o,e,?_⟩⟩
   cases o with
   | ok d2 L2=>exact fun ι2 H2 v2 ev2 rp2 rv2=>p ι2 H2 v2 (ev.trans ev2) rp2 rv2
   | ex c fs L2=>exact fun ι2 H2 ev2 rp2=>p ι2 H2 (ev.trans ev2) rp2
  | ex c fs L1 =>
   rw [hm] at e
   have e:some (Out.ex c fs L1) = some o:=e
   cases e
   exact ⟨_,rfl,fun ι1 H1 ev rp=>p ι1 H1 ev rp⟩
theorem At.bindE {m:M α} {f:α->M γ} (h:At K W R2 σV σ ι L (M.bind m f L) Q2 H) :
  At K W R σV σ ι L (m L) (fun v H1=>∃ d ι1 L1,m L = some (.ok d L1)∧R H1 ι1 L1.length v d∧Ev K ι H L.length ι1 H1 L1.length∧At K W R2 σV σ ι1 L1 (f d L1) Q2 H1) H:=by
 have h0:=h.bind (R:=R)
 obtain ⟨a,b,o,e,p⟩:=h0
 refine ⟨a,b,o,e,?_⟩
 obtain ⟨a2,b2,o2,e2,p2⟩:=h
 unfold M.bind at e2
 rw [e] at e2
 cases o with
 | ok d L' =>
  have e2:f d L' = some o2:=e2
  refine fun ι1 H1 v ev rp rv=>⟨d,ι1,L',e,rv,ev,rp,b2.mono ev,o2,e2,?_⟩
  cases o2 with
  | ok d2 L2=>exact fun ι2 H2 v2 ev2 rp2 rv2=>p2 ι2 H2 v2 (ev.trans ev2) rp2 rv2
  | ex c fs L2=>exact fun ι2 H2 ev2 rp2=>p2 ι2 H2 (ev.trans ev2) rp2
 | ex c fs L'=>exact p
theorem At.ret {d:α} {v:β} (h:At K W R σV σ ι L (M.ret d L) Q H) (q:R H ι L.length v d):Q v H:=by
 obtain ⟨a,b,o,e,p⟩:=h
 have e:some (Out.ok d L) = some o:=e
 cases e
 exact p ι H v Ev.refl a q
theorem At.retF {d:α} {v:β} {p:Addr} {u:HO} (h:At K W R σV σ ι L (M.ret d L) Q H) (hp:H p = none) (q:R (upd H p u) ι L.length v d):Q v (upd H p u):=by
 obtain ⟨a,b,o,e,z⟩:=h
 have e:some (Out.ok d L) = some o:=e
 cases e
 exact z ι _ v (Ev.fresh hp) (a.free hp) q
theorem At.no (h:At K W R σV σ ι L (M.no L) Q H):False:=by
 obtain ⟨_,_,o,e,_⟩:=h
 cases e
theorem At.chk {b:Bool} {m:M α} (h:At K W R σV σ ι L (M.chk b m L) Q H):b = true∧At K W R σV σ ι L (m L) Q H:=by
 cases b with
 | true=>exact ⟨rfl,h⟩
 | false=>exact (At.no h).elim
theorem At.ofO {o:Option γ} {f:γ->M α} (h:At K W R σV σ ι L (M.ofO o f L) Q H):∃ a,o = some a∧At K W R σV σ ι L (f a L) Q H:=by
 cases o with
 | some a=>exact ⟨a,rfl,h⟩
 | none=>exact (At.no h).elim
theorem At.look {g:LH->Option γ} {f:γ->M α} (h:At K W R σV σ ι L (M.look g f L) Q H):∃ a,g L = some a∧At K W R σV σ ι L (f a L) Q H:=by
 unfold M.look at h
 cases e:g L with
 | some a=>rw [e] at h; exact ⟨a,rfl,h⟩
 | none=>rw [e] at h; obtain ⟨_,_,o,z,_⟩:=h; cases z
theorem At.none (h:At K W R σV σ ι L (Option.none:Option (Out α)) Q H):False:=by
 obtain ⟨_,_,o,e,_⟩:=h
 cases e
end
abbrev RVr (K:PySem.W.Frag):Rl LV V:=fun H ι n v d=>RV K H ι n v d
abbrev RVsr (K:PySem.W.Frag):Rl (List LV) (List V):=fun H ι n v d=>RVs K H ι n v d
abbrev Eqr {α:Type}:Rl α α:=fun _ _ _ v d=>v = d
section
variable {K:PySem.W.Frag} {W:XW} {σV:L2.St} {σ:LSt} {ι:Nat->Addr} {L:LH} {H:Hp} {Q:VK}
theorem At.new {o:LO} {u:HO} {p:Addr} (h:At K W (RVr K) σV σ ι L (new o L) Q H) (hp:H p = Option.none) (q:RO K (upd H p u) (ext ι L.length p) (L.length + 1) p o):Q (.ref p) (upd H p u):=by
 obtain ⟨a,b,o',e,z⟩:=h
 have e:some (Out.ok (.ref L.length) (L ++ [o])) = some o':=e
 cases e
 refine z (ext ι L.length p) _ _ ?_ (a.new hp q) ?_
 ·rw [List.length_append,List.length_singleton]
  exact Ev.new hp
 ·have z:RV K (upd H p u) (ext ι L.length p) (L ++ [o]).length (.ref (ext ι L.length p L.length)) (.ref L.length):=.ref _ (by rw [List.length_append,List.length_singleton]; omega)
  rw [ext_eq] at z
  exact z
end
def tG {α β:Type} (K:PySem.W.Frag) (W:XW) (R:Rl α β) (m:LSt->M α):L2.St->Hp->(β->Hp->Prop)->Prop:=fun σV H Q=>∃ ι σ L,At K W R σV σ ι L (m σ L) Q H
abbrev tI (K:PySem.W.Frag) (W:XW) (m:LSt->M LV):TE:=tG K W (RVr K) m
abbrev tIs (K:PySem.W.Frag) (W:XW) (m:LSt->M (List LV)):TA:=tG K W (RVsr K) m
abbrev tIO (K:PySem.W.Frag) (W:XW) (m:LSt->M (Option Int)):TO:=tG K W Eqr m
theorem PE.imp {X:Cx} {e:Expr} {t t':TE} (h:PE X e t) (q:∀ σ H Q,t' σ H Q->t σ H Q):PE X e t':=⟨fun pins s σ H Q I w=>h.run pins s σ H Q I (q σ H Q w)⟩
theorem PT.imp {X:Cx} {e:Expr} {t t':TT} (h:PT X e t) (q:∀ σ H Q,t' σ H Q->t σ H Q):PT X e t':=⟨fun pins s σ H Q I w=>h.run pins s σ H Q I (q σ H Q w)⟩
theorem PA.imp {X:Cx} {e:List Expr} {t t':TA} (h:PA X e t) (q:∀ σ H Q,t' σ H Q->t σ H Q):PA X e t':=⟨fun pos pins s σ H Q I w=>h.run pos pins s σ H Q I (q σ H Q w)⟩
theorem PO.imp {X:Cx} {e:Option Expr} {t t':TO} (h:PO X e t) (q:∀ σ H Q,t' σ H Q->t σ H Q):PO X e t':=⟨fun pins s σ H Q I w=>h.run pins s σ H Q I (q σ H Q w)⟩
theorem PS.imp {X:Cx} {e:Stmt} {t t':TS} (h:PS X e t) (q:∀ D σ H,t' D σ H->t D σ H):PS X e t':=⟨fun pins s σ H D I w=>h.run pins s σ H D I (q D σ H w)⟩
theorem PSs.imp {X:Cx} {e:List Stmt} {t t':TS} (h:PSs X e t) (q:∀ D σ H,t' D σ H->t D σ H):PSs X e t':=⟨fun pins s σ H D I w=>h.run pins s σ H D I (q D σ H w)⟩
def NewT (H:Hp) (xs:List V) (Q:VK):Prop:=∀ q:Obj,q.cls = .type "tuple"->q.dict = none->∀ p,H p = none->Q (.ref p) (upd H p (.frz q (.tup xs)))
theorem newT_push {X:Cx} {pins:List (Addr × Obj)} {σ:L2.St} {H:Hp} {s:Shared} {xs:List V} {its:List Value} {Q:VK} {tk:Nat} (I:Inv X pins σ H s) (hz:xs.length<=sizeLine) (r:Vals xs its) (q:NewT H xs Q) :
  EP X pins σ Q (.ref s.heap.objs.size) { s with heap:=s.heap.push { cls:=.type "tuple",data:=.seq its.toArray },toks:=tk } :=
 ⟨.ref _,_,I.laid (t':=tk) (o:=.frz { cls:=.type "tuple",data:=.seq its.toArray } (.tup xs)) (fun b ob q=>Heap.get?_push_of_some _ q) (Nat.le_refl _) ⟨Heap.get?_push_size _ rfl,hz,its,r,IsTup.new _ _⟩,rfl,q _ rfl rfl _ (I.hok.fresh (Nat.le_refl _))⟩
end Mv
namespace Mv
open PySem L2
def starL (R:Cal):IEs->IE->LSt->M (List LV)
 | .nil,e,σ=>M.bind (evE R e σ) fun x=>M.look (fun L=>items L x) fun xs=>M.ret xs
 | .cons a es,e,σ=>M.bind (evE R a σ) fun x=>M.bind (starL R es e σ) fun xs=>M.ret (x :: xs)
end Mv
namespace Mv
open PySem L2
def strAt:LV->Option Str
 | .str s=>some s
 | _=>none
end Mv
namespace Mv
open PySem L2
def sgnAt:LV->Option Nat
 | .str s=>match s.cps.toList with
  | [c]=>some c
  | _=>none
 | _=>none
def staT (n:Nat) (ts:ITs) (R:Cal):LV->LSt->M LSt:=fun v σ=>M.look (fun L=>itemsL L v) fun xs=>M.chk (decide (n<=xs.length∧xs.length<=16384)) (M.bind (new (.lst (xs.drop n))) fun r=>evTs R ts (xs.take n ++ [r]) σ)
def nnrV:LV->LV->LV->M LV
 | .int i,.int a,.int b=>M.ret (.bl (!decide (a<=i∧i < b)))
 | _,_,_=>M.no
end Mv
namespace Mv
open PySem L2
def sfL (R:Cal) (e:IE) (is:IEs):LSt->M (List LV):=fun σ=>M.bind (evE R e σ) fun x=>M.look (fun L=>Mv.items L x) fun xs=>M.bind (evEs R is σ) fun ys=>M.ret (xs ++ ys)
end Mv
namespace Mv
open PySem L2
end Mv
namespace Mv
open PySem L2
def smtV:LV->M LV
 | .tup xs=>M.ofO (intL xs) fun ns=>M.ret (.int ns.sum)
 | _=>M.no
def addV (neg:Bool):LV->LV->M LV
 | .int i,.int j=>M.ret (.int (if neg then i - j else i + j))
 | _,_=>M.no
end Mv
namespace Mv
open PySem L2
end Mv
namespace Mv
open PySem L2
end Mv
namespace Mv
open PySem PySem.Spec PyProof.Rows L2 PpSet
section
variable {K:PySem.W.Frag} {H H':Hp} {ι:Nat->Addr} {n:Nat}
end
end Mv
namespace Mv
open PySem PySem.Spec PyProof.Rows L2 PpSet
section
variable {X:Cx} {pins:List (Addr × Obj)} {σ:L2.St} {H:Hp} {s:Shared} {a:Addr} {oe:Obj} {u:HO}
theorem SetN0.keep {P:Program} {w:World} {h h':Heap} {L:List (Addr × NestedKey)} (R:SetN0 P w h a L) (k:∀ o,h.get? a = some o->h'.get? a = some o):SetN0 P w h' a L:=by
 obtain ⟨es,ep,t,⟨o,ho,r⟩,q⟩:=R
 exact ⟨es,ep,t,⟨o,k o ho,r⟩,q⟩
end
section
variable {X:Cx}
end
end Mv
namespace Mv
open PySem PySem.Spec PyProof.Rows L2 PpSet
section
variable {P:Program} {w:World} {A:Around} {E:Value->Shared->Prop} {s:Shared} {a:Addr} {L:List (Addr × NestedKey)} {es:Array (Int × Value)} {ep:Nat} {t:SetTable}
end
end Mv
namespace Mv
open PySem PySem.Spec PyProof.Rows L2 PpSet
section
variable {X:Cx}
end
end Mv
local macro_rules | `(tactic| wp_step)=>`(tactic| first | with_reducible (first | refine PySem.wpAny_pure ?_ | refine PySem.wpAny_bind ?_ | refine PySem.wpAny_holding ?_ | refine PySem.wpAny_standAt ?_ | refine PySem.wpAny_point ?_ | refine PySem.wpAny_rule ?_ | refine PySem.wpAny_letGo ?_ | refine PySem.wpAny_mkInt' ?_ | refine PySem.wpAny_fresh' ?_ | refine PySem.wpAny_alloc' ?_ | refine PySem.wpAny_attempt ?_ | refine PySem.wpAny_throw ?_ | refine PySem.wpAny_runValue ?_ | refine PySem.wpAny_run ?_ | refine PySem.wpAny_call ?_ | refine PySem.wpAny_of_eq (by assumption) ?_ | refine PySem.wpAny_typeOf (by assumption) ?_ | refine PySem.wpAny_specialOf_val (by assumption) (by assumption) ?_ | refine PySem.wpAny_specialOf (by assumption) (by assumption) ?_ | refine PySem.wpAny_isInstance_val (by assumption) (by assumption) ?_ | refine PySem.wpAny_isInstance (by assumption) (by assumption) ?_) | ((with_reducible apply PySem.wpAny_load'); focus (heap_get; done)) | ((with_reducible apply PySem.wpAny_update'); focus (heap_get; done)) | ((with_reducible apply PySem.wpAny_loadPart'); focus (heap_get; done)) | ((with_reducible apply PySem.wpAny_updatePart'); focus (heap_get; done)) | ((with_reducible apply PySem.wpAny_handled_none); focus (assumption; done)) | ((with_reducible apply PySem.wpAny_ite_false); focus (rfl; done)) | ((with_reducible apply PySem.wpAny_ite_true); focus (rfl; done)) | ((with_reducible apply PySem.wpAny_ite_false); focus (simp [*]; done)) | ((with_reducible apply PySem.wpAny_ite_true); focus (simp [*]; done)) | wp_delta | with_reducible refine PySem.wpAny_mkStr' ?_ | with_reducible_and_instances refine PySem.wpAny_pure ?_ | with_reducible_and_instances refine PySem.wpAny_bind ?_)
namespace Mv
open PySem PySem.Spec PyProof.Rows L2
theorem tuple_mul_same (l:Addr) (items:Array Value) (n:Nat) (dd:Option Addr) (sl:Array (Option Value)) (x:Int) (u:Tok) (c0:(decide (x < -(2 ^ 63)) || decide (x ≥ 2 ^ 63)) = false) (c1:(items.isEmpty || x == 1) = true) :
  Meets (Builtin.«tuple.__mul__» ⟨[.ref l,.int x u],[]⟩) (fun _ R s=>s.heap.get? l = some { cls:=.type "tuple",dict:=dd,data:=.seq items n,slots:=sl } ∧
   R (.ok (.ret (Value.ref l))) s) :=
 .of_wp fun prog w A R s h=>by
  obtain ⟨hp,g,d,tk,os⟩:=s
  obtain ⟨hl,h⟩:=h
  have f1:=AutoSeq1.idx_int
  wp_walk using wpAny_loadPart' hl
  repeat (first
   | (refine wpAny_ite_false (decide_eq_false (by rw [c0]; exact Bool.false_ne_true)) ?_; wp_walk using wpAny_loadPart' hl)
   | (refine wpAny_ite_true (decide_eq_true c1) ?_; wp_walk using wpAny_loadPart' hl))
  exact ⟨_,rfl,h⟩
theorem tuple_mul_none (l:Addr) (items:Array Value) (n:Nat) (dd:Option Addr) (sl:Array (Option Value)) (x:Int) (u:Tok) (c0:(decide (x < -(2 ^ 63)) || decide (x ≥ 2 ^ 63)) = false) (c1:(items.isEmpty || x == 1) = false) (c2:(decide (x<=0) || items.isEmpty) = true) :
  Meets (Builtin.«tuple.__mul__» ⟨[.ref l,.int x u],[]⟩) (fun _ R s=>s.heap.get? l = some { cls:=.type "tuple",dict:=dd,data:=.seq items n,slots:=sl } ∧
   R (.ok (.ret (Value.ref s.heap.objs.size))) { s with heap:=s.heap.push { cls:=Value.type "tuple",data:=Data.seq #[] },toks:=s.toks }) :=
 .of_wp fun prog w A R s h=>by
  obtain ⟨hp,g,d,tk,os⟩:=s
  obtain ⟨hl,h⟩:=h
  have f1:=AutoSeq1.idx_int
  wp_walk using wpAny_loadPart' hl
  repeat (first
   | (refine wpAny_ite_false (decide_eq_false (by rw [c0]; exact Bool.false_ne_true)) ?_; wp_walk using wpAny_loadPart' hl)
   | (refine wpAny_ite_false (decide_eq_false (by rw [c1]; exact Bool.false_ne_true)) ?_; wp_walk using wpAny_loadPart' hl)
   | (refine wpAny_ite_true (decide_eq_true c2) ?_; wp_walk using wpAny_loadPart' hl))
  exact ⟨_,rfl,h⟩
def rMulT (K:PySem.W.Frag):R2:=fun x y H Q=>∃ l k xs,x = .ref l∧y = .int k∧SqT K H l xs∧-(2 ^ 63)<=k∧k < 2 ^ 63∧xs.length * k.toNat<=sizeLine ∧
 (xs = []∨k = 1->Q (.ref l) H)∧(¬ (xs = []∨k = 1)->NewT H (List.replicate k.toNat xs).flatten Q)
theorem tup_dict {X:Cx} {pins:List (Addr × Obj)} {σ:L2.St} {H:Hp} {s:Shared} {l:Addr} {xs:List V} (I:Inv X pins σ H s) (h:SqT X.K H l xs) :
  ∃ (its:List Value) (n:Nat) (dd:Option Addr) (sl:Array (Option Value)),Vals xs its∧s.heap.get? l = some { cls:=.type "tuple",dict:=dd,data:=.seq its.toArray n,slots:=sl }∧xs.length<=sizeLine:=by
 obtain ⟨its,r,⟨⟨cls,dd,data,sl⟩,ho,hc,n,hd⟩,hs⟩:=I.tuple h
 simp only at hc hd
 subst hc hd
 exact ⟨its,n,dd,sl,r,ho,hs⟩
section
variable {X:Cx}
theorem op_mulT:OpR X (binaryOp .Mult) (rMulT X.K):=by
 intro pins s σ H x y v u Q I rx ry h
 obtain ⟨l,k,xs,rfl,rfl,hT,h1,h2,hz,q1,q2⟩:=h
 cases rx
 obtain ⟨t,rfl⟩:=ry
 obtain ⟨its,n,dd,sl,r,ho,hs⟩:=tup_dict I hT
 have hle:its.length = xs.length:=r.length.symm
 have c0:(decide (k < -(2 ^ 63)) || decide (k ≥ 2 ^ 63)) = false:=by
  rw [decide_eq_false (by omega),decide_eq_false (by omega)] <;> rfl
 refine wpAny_binaryOp_repeat_ref (T:="tuple") (U:="int") (by decide) ⟨_,ho,rfl⟩ (fun s'=>typeIs_int s' k t) noFill_tuple_mul F.fills_int_mul F.slot_int_rmul repeat_tuple F.slot_int_index.lookup
  (call_meets F.slot_int_rmul (typeIs_int s k t) F.entry_int_rmul (F.args_int_rmul_2 _ _) (int_rmul_tuple k t l its.toArray n dd sl)
   ⟨ho,rfl,⟨_,ho,rfl⟩,?_⟩)
 have hemp:its.toArray.isEmpty = xs.isEmpty:=by
  cases r <;> rfl
 by_cases hc:xs = []∨k = 1
 ·have c1:(its.toArray.isEmpty || k == 1) = true:=by
   rw [hemp]
   rcases hc with rfl | rfl <;> simp
  exact call_meets F.slot_tuple_mul ⟨_,ho,rfl⟩ F.entry_tuple_mul (F.args_tuple_mul_2 _ _) (tuple_mul_same l its.toArray n dd sl k t c0 c1) ⟨ho,.ref l,H,I,rfl,q1 hc⟩
 ·have hx:xs≠[]:=fun e=>hc (.inl e)
  have hk:k≠1:=fun e=>hc (.inr e)
  have hxe:xs.isEmpty = false:=by
   cases xs with
   | nil=>exact absurd rfl hx
   | cons a b=>rfl
  have c1:(its.toArray.isEmpty || k == 1) = false:=by
   rw [hemp,hxe,Bool.false_or]
   exact beq_eq_false_iff_ne.mpr hk
  have fin:∀ ys:List Value,ys = (List.replicate k.toNat its).flatten->EP X pins σ Q (Value.ref s.heap.objs.size) { s with heap:=s.heap.push { cls:=Value.type "tuple",data:=Data.seq ys.toArray },toks:=s.toks }:=fun ys e=>by
   subst e
   exact newT_push I (by rw [PyProof.Rows.lm_len_rep_flat,Nat.mul_comm]; exact hz) (r.rep k.toNat) (q2 hc)
  by_cases h0:k<=0
  ·have c2:(decide (k<=0) || its.toArray.isEmpty) = true:=by rw [decide_eq_true h0]; rfl
   refine call_meets F.slot_tuple_mul ⟨_,ho,rfl⟩ F.entry_tuple_mul (F.args_tuple_mul_2 _ _) (tuple_mul_none l its.toArray n dd sl k t c0 c1 c2) ⟨ho,?_⟩
   have e:k.toNat = 0:=by omega
   exact fin [] (by rw [e]; rfl)
  ·have c2:(decide (k<=0) || its.toArray.isEmpty) = false:=by
    rw [decide_eq_false h0,hemp,hxe]
    rfl
   have hsz0:its.toArray.size = xs.length:=by rw [List.size_toArray,hle]
   have hm:((its.toArray.size:Nat):Int) * k = ((xs.length * k.toNat:Nat):Int):=by
    rw [hsz0,Int.natCast_mul,Int.toNat_of_nonneg (by omega)]
   have hline:sizeLine = 16777216:=sizeLine_eq
   have c4:Builtin.Tuple.tupleTooMany (((its.toArray.size:Nat):Int) * k) = false:=by
    unfold Builtin.Tuple.tupleTooMany
    rw [hm]
    exact decide_eq_false (by omega)
   refine call_meets F.slot_tuple_mul ⟨_,ho,rfl⟩ F.entry_tuple_mul (F.args_tuple_mul_2 _ _) (tuple_mulW l its.toArray n dd sl k t c0 c1 c2 (by rw [hm]; omega) c4 (by rw [size_rep,List.size_toArray,PyProof.Rows.lm_len_rep_flat,hle,Nat.mul_comm]; exact hz)) ⟨ho,?_⟩
   rw [size_rep]
   exact fin _ rfl
end
section
variable {prog:Program} {w:World} {A:Around} {E:Value->Shared->Prop} {s:Shared}
theorem adjust_back (n:Nat):Builtin.Slice.sliceAdjust none none (-1) (n:Int) = ((n:Int) - 1,-1):=by
 unfold Builtin.Slice.sliceAdjust
 have h1:((-1:Int) < 0):=by omega
 simp only [h1,if_true]
theorem places_back (n:Nat):Builtin.Slice.slicePlaces ((n:Int) - 1) (-1) (-1) = n:=by
 unfold Builtin.Slice.slicePlaces
 have h1:¬ ((-1:Int) > 0):=by omega
 simp only [h1,if_false,Int.neg_neg,Int.ediv_one]
 split <;> omega
theorem fm_some {α β:Type} {f:α->Option β} {g:α->β}:∀ {l:List α},(∀ x,x∈l->f x = some (g x))->l.filterMap f = l.map g
 | [],_=>rfl
 | a :: l,h=>by
  rw [List.filterMap_cons_some (h a List.mem_cons_self),List.map_cons,fm_some fun x hx=>h x (List.mem_cons_of_mem _ hx)]
theorem applied_back {sl:Addr} {vs:Value} {n:Nat} {Q:Int × Int × Nat->Shared->Prop} (hs:s.heap.IsSliceOf sl .none .none vs) (ps:IsPart vs (some (-1)))
  (h:Q ((n:Int) - 1,-1,n) s):wpAny (model prog w) A (Builtin.Slice.sliceApplied (.ref sl) (pure (n:Int))) Q E s:=by
 obtain ⟨os,hos,hcs,hds⟩:=id hs
 unfold Builtin.Slice.sliceApplied Builtin.Slice.sliceFields
 refine wpAny_bind (wpAny_bind (wpAny_field hos hds (x:=.none) rfl (wpAny_bind (wpAny_field hos hds (x:=.none) rfl (wpAny_bind (wpAny_field hos hds (x:=vs) rfl (wpAny_pure ?_)))))))
 refine wpAny_bind (HT.slicePart_ ps ?_)
 show wpAny _ _ (if ((-1:Int) == 0) = true then _ else _) _ _ s
 rw [if_neg (by decide)]
 refine wpAny_bind (HT.slicePart_ .none (wpAny_bind (HT.slicePart_ .none (wpAny_bind (wpAny_pure ?_)))))
 show wpAny _ _ (match Builtin.Slice.sliceAdjust none none (-1) (n:Int) with | (lo,hi)=>pure (lo,(-1:Int),Builtin.Slice.slicePlaces lo hi (-1))) _ _ s
 rw [adjust_back]
 show wpAny _ _ (pure ((n:Int) - 1,(-1:Int),Builtin.Slice.slicePlaces ((n:Int) - 1) (-1) (-1))) _ _ s
 rw [places_back]
 exact wpAny_pure h
theorem pick_back (xs:Array Value):((List.range xs.size).filterMap fun (k:Nat)=>xs[(((xs.size:Nat):Int) - 1 + (k:Int) * (-1)).toNat]?).toArray = xs.toList.reverse.toArray:=by
 congr 1
 apply List.ext_getElem?
 intro i
 have e:((List.range xs.size).filterMap fun (k:Nat)=>xs[(((xs.size:Nat):Int) - 1 + (k:Int) * (-1)).toNat]?) = (List.range xs.size).map fun k=>xs.toList.reverse.getD k Value.none:=by
  apply fm_some
  intro k hk
  have hk:=List.mem_range.mp hk
  have e1:(((xs.size:Nat):Int) - 1 + (k:Int) * (-1)).toNat = xs.size - 1 - k:=by omega
  rw [e1]
  have hl:k < xs.toList.reverse.length:=by simpa using hk
  simp only [Function.comp,List.getD_eq_getElem?_getD,List.getElem?_eq_getElem hl,Option.getD_some,List.getElem_reverse]
  rw [Array.getElem?_eq_getElem (by omega)]
  simp
 rw [e,List.getElem?_map]
 by_cases hi:i < xs.size
 ·rw [List.getElem?_range hi]
  have hl:i < xs.toList.reverse.length:=by simpa using hi
  simp only [Option.map_some,List.getD_eq_getElem?_getD,List.getElem?_eq_getElem hl,Option.getD_some]
 ·rw [List.getElem?_eq_none (by simpa using hi),List.getElem?_eq_none (by simpa using hi)]
  rfl
theorem getItem_tuple_back {t sl:Addr} {items:Array Value} {vs:Value} {Q:Value->Shared->Prop} (ht:IsTup s.heap t items) (hs:s.heap.IsSliceOf sl .none .none vs) (ps:IsPart vs (some (-1)))
  (h:Q (.ref s.heap.objs.size) { s with heap:=s.heap.push { cls:=.type "tuple",data:=.seq items.toList.reverse.toArray } })
  (hsz:items.size<=sizeLine):wpAny (model prog w) A (getItem (.ref t) (.ref sl)) Q E s:=by
 have htake:sizeOk (.seq items.toList.reverse.toArray):=by
  show items.toList.reverse.toArray.size<=sizeLine
  rw [List.size_toArray,List.length_reverse,Array.length_toList]
  exact hsz
 obtain ⟨os,hos,hcs,hds⟩:=id hs
 have hTs:s.TypeIs (.ref sl) "slice":=⟨os,hos,hcs⟩
 unfold getItem
 try with_reducible refine wpAny_holding ?_
 first | refine wpAny_bind (wpAny_pure ?_) | skip
 refine wpAny_bind (wpAny_sequenceKey ht.typeIs (by decide) ?_)
 refine wpAny_bind (wpAny_callSpecial?_slot (name:=Str.ofString "__getitem__") ht.typeIs PyProof.Rows.slot_tuple_getitem
  (wpAny_call_entry PyProof.Rows.slot_tuple_getitem ht.typeIs entry_tuple_getitem ?_ (args_tuple_getitem _ _)))
 show wpAny _ _ (Builtin.Tuple.tupleItemsOf (.ref t) >>= _) _ _ s
 refine wpAny_bind (tupleItemsOf_ ht ?_)
 refine wpAny_bind (wpAny_typeOf hTs ?_)
 rw [if_pos (by decide)]
 refine wpAny_bind (applied_back hs ps ?_)
 have hno:¬ (((((items.size:Nat):Int) - 1 == 0) && ((-1:Int) == 1) && (items.size == items.size)) = true):=by
  intro q
  rw [Bool.and_eq_true,Bool.and_eq_true] at q
  exact absurd q.1.2 (by decide)
 show wpAny _ _ (if ((((items.size:Nat):Int) - 1 == 0) && ((-1:Int) == 1) && (items.size == items.size)) = true then _ else _) _ _ s
 rw [if_neg hno,pick_back]
 first
  | exact wpAny_bind (m:=Builtin.Tuple.tupleExact _) (wpAny_newObj_type (wpAny_pure ⟨_,rfl,wpAny_pure h⟩) htake)
  | exact wpAny_bind (m:=Builtin.Tuple.tupleExact _) (wpAny_newObj_type (wpAny_bind (wpAny_pure (wpAny_pure ⟨_,rfl,wpAny_pure h⟩))) htake)
  | exact wpAny_bind (wpAny_bind (m:=Builtin.Tuple.tupleExact _) (wpAny_newObj_type (wpAny_pure (wpAny_pure ⟨_,rfl,wpAny_pure h⟩)) htake))
  | exact wpAny_bind (wpAny_bind (m:=Builtin.Tuple.tupleExact _) (wpAny_newObj_type (wpAny_pure ⟨_,rfl,wpAny_pure h⟩) htake))
end
def rRev (K:PySem.W.Frag) (x:V) (H:Hp) (Q:VK):Prop:=∃ a xs,x = .ref a∧((SqL K H a xs∧∀ p,H p = none->Q (.ref p) (upd H p (.lst xs.reverse)))∨(SqT K H a xs∧NewT H xs.reverse Q))
theorem pe_back {X:Cx} {e:Expr} {te:TE} {k:Nat} {p1 p2 p3 pos:Pos} (he:PE X e te) :
  PE X (.Subscript e (.Slice none none (some (.UnaryOp .USub (.Constant (.int 1) k p1) p2)) p3) pos) (fun σ H Q=>te σ H fun x H1=>rRev X.K x H1 Q):=by
 refine ⟨fun pins s σ H Q I h=>?_⟩
 refine Subscript_ (thn (he.run pins s σ H _ I h) fun v s1 ⟨x,H1,I1,r1,q1⟩=>?_)
 obtain ⟨a,xs,ex,hx⟩:=q1
 subst ex
 cases r1
 have hst:PO X (some (.UnaryOp .USub (.Constant (.int 1) k p1) p2)) (tPart (tUn (rU fun i=>.int (-i)) (tC (.int 1)))):=po_some (pe_un un_neg pe_int)
 refine wpAny_Slice ?_
 rw [evalPart_none]
 refine wpAny_pure ?_
 refine wpAny_pure ?_
 refine thn (hst.run pins s1 σ H1 (fun o H4=>o = some (-1)∧H4 = H1) I1 ⟨1,rfl,-1,rfl,rfl,rfl⟩) fun vs s4 ⟨o,H4,I4,ps,eo,e4⟩=>?_
 subst eo e4
 have I5:Inv X pins σ H4 { s4 with heap:=s4.heap.push { cls:=.type "slice",data:=.fields #[.none,.none,vs] } }:=I4.kept (t':=s4.toks) fun b ob q=>Heap.get?_push_of_some _ q
 have hsl:=Heap.IsSliceOf.new s4.heap .none .none vs
 show wpAny (model X.prog X.w) X.A (subscriptTail e (.Slice none none (some (.UnaryOp .USub (.Constant (.int 1) k p1) p2)) p3) (.ref a) (.ref s4.heap.objs.size)) (EP X pins σ Q) X.xe { s4 with heap:=s4.heap.push { cls:=.type "slice",data:=.fields #[.none,.none,vs] } }
 rcases hx with ⟨hx,q⟩ | ⟨hx,q⟩
 ·obtain ⟨its,r,ht,hz⟩:=I5.list hx
  have hlen:=r.length
  refine tail_any (ops:=[.ref a,.ref s4.heap.objs.size]) ht.isList.typeIs (PySem.slot_list_getitem.lookup) ?_ (by with_unfolding_all rfl)
  refine wpAny_getItem_list_slice ht.isList hsl .none .none ps (by decide) ?_ (by rw [List.size_toArray]; omega)
  rw [PySem.W.krv_pick]
  refine ⟨.ref _,_,I5.laid (t':=s4.toks) (o:=.lst xs.reverse) (fun b ob q=>Heap.get?_push_of_some _ q) (Nat.le_refl _) ?_,rfl,q _ (I5.hok.fresh (Nat.le_refl _))⟩
  exact ⟨by rw [List.length_reverse]; exact hz,_,0,r.reverse,Heap.get?_push_size _ rfl⟩
 ·obtain ⟨its,r,ht,hz⟩:=I5.tuple hx
  have hlen:=r.length
  refine tail_any (ops:=[.ref a,.ref s4.heap.objs.size]) ht.typeIs PyProof.Rows.slot_tuple_getitem.lookup ?_ (by with_unfolding_all rfl)
  refine getItem_tuple_back ht hsl ps ?_ (by rw [List.size_toArray]; omega)
  exact newT_push I5 (by rw [List.length_reverse]; exact hz) r.reverse q
section
variable {X:Cx}
def rCatN (K:PySem.W.Frag):R2:=fun x y H Q=>∃ a b xs ys,x = .ref a∧y = .ref b∧SqT K H a xs∧SqT K H b ys∧xs.length + ys.length<=sizeLine ∧
 (xs = []->Q (.ref b) H)∧(xs≠[]->ys = []->Q (.ref a) H)∧(xs≠[]->ys≠[]->NewT H (xs ++ ys) Q)
theorem op_catN:OpR X (binaryOp .Add) (rCatN X.K):=by
 intro pins s σ H x y v u Q I rx ry h
 obtain ⟨a,b,xs,ys,rfl,rfl,ha,hb,hz,q0,q1,q2⟩:=h
 cases rx
 cases ry
 obtain ⟨its,r1,p1,_⟩:=I.tuple ha
 obtain ⟨its2,r2,p2,_⟩:=I.tuple hb
 by_cases hx:xs = []
 ·subst hx
  cases r1
  exact L2.cat_tup0 p1 p2 ⟨.ref b,H,I,rfl,q0 rfl⟩
 ·refine HT.cat_tup p1 p2 (fun z=>hx (r1.nil_iff.mp z)) (fun z=>⟨.ref a,H,I,rfl,q1 hx (r2.nil_iff.mp z)⟩) (fun z=>?_) (by rw [<- r1.length,<- r2.length]; exact hz)
  exact newT_push I (by rw [List.length_append]; exact hz) (r1.append r2) (q2 hx fun w=>z (r2.nil_iff.mpr w))
def rSlN (K:PySem.W.Frag):V->Option Int->Option Int->Hp->VK->Prop:=fun x lo hi H Q=>∃ a xs,x = .ref a∧SqT K H a xs ∧
 (HT.sIx xs.length 0 lo = 0∧HT.sIx xs.length xs.length hi = xs.length->Q (.ref a) H)∧(¬ (HT.sIx xs.length 0 lo = 0∧HT.sIx xs.length xs.length hi = xs.length)->NewT H (cutV xs lo hi) Q)
theorem sl_tupN:SlR X (rSlN X.K):=by
 intro pins s σ H x v vl vu lo hi sl Q I rx hs pl pu h
 obtain ⟨a,xs,rfl,hx,q1,q2⟩:=h
 cases rx
 obtain ⟨its,r,ht,hz⟩:=I.tuple hx
 have hlen:its.toArray.size = xs.length:=by rw [List.size_toArray]; exact r.length.symm
 refine ⟨"tuple",_,PyProof.Rows.slot_tuple_getitem.lookup,ht.typeIs,?_⟩
 by_cases hw:HT.sIx xs.length 0 lo = 0∧HT.sIx xs.length xs.length hi = xs.length
 ·exact L2.getItem_tuple_whole ht hs pl pu (by rw [hlen]; exact hw) ⟨.ref a,H,I,rfl,q1 hw⟩
 ·refine HT.getItem_tuple_cut ht hs pl pu (by rw [hlen]; exact hw) ?_ (by rw [hlen]; exact hz)
  rw [hlen]
  exact newT_push I (Nat.le_trans (cutV_length xs lo hi) hz) ((r.drop (HT.sIx xs.length 0 lo)).take (HT.sIx xs.length xs.length hi - HT.sIx xs.length 0 lo)) (q2 hw)
def tTupN (t:TA):TE:=fun σ H Q=>t σ H fun xs H1=>xs.length<=sizeLine∧NewT H1 xs Q
theorem pe_tupN {es:List Expr} {t:TA} {pos:Pos} {x1:Nat} (h:PA X es t):PE X (.Tuple es x1 pos) (tTupN t):=by
 refine ⟨fun pins s σ H Q I hq=>?_⟩
 refine wpAny_Tuple_spliced (thn (h.run pos pins s σ H _ I hq) fun us s1 ⟨xs,H1,I1,r,z,q⟩=>⟨by rw [<- r.length]; exact z,?_⟩)
 exact newT_push (tk:=s1.toks) I1 z r q
theorem call_tupleN:CallR X (.type "tuple") (fun xs H Q=>∃ p ys,xs = [.ref p]∧((SqL X.K H p ys∧NewT H ys Q)∨(SqT X.K H p ys∧Q (.ref p) H))):=by
 intro pins s σ H xs us Q I r h
 obtain ⟨p,ys,rfl,h⟩:=h
 obtain ⟨u,rfl,rx⟩:=vals1 r
 cases rx
 rcases h with ⟨hq,q⟩ | ⟨hq,q⟩
 ·obtain ⟨its,r',pl,hz⟩:=I.list hq
  have hlen:=r'.length
  refine call_tuple_list pl.isList (fun h' kp=>?_) (by simp only [List.size_toArray] <;> omega)
  have I1:Inv X pins σ H { s with heap:=h' }:=I.kept (t':=s.toks) kp
  exact newT_push (tk:=s.toks) I1 hz r' q
 ·obtain ⟨its,r',pl,hz⟩:=I.tuple hq
  exact call_tuple_same pl ⟨.ref p,H,I,rfl,q⟩
end
end Mv
namespace Mv
open PySem PySem.Spec PyProof.Rows L2
structure GoodH (X:Cx):Prop where
 hg:X.A.guards = some []
 hu:X.A.units + 150 < cLine
 nd:X.N.Nodup
 dg:X.base.NoDigits
structure Good (X:Cx):Prop extends GoodH X where
 calm:X.calm = true
instance goodCoe {X:Cx}:Coe (Good X) (GoodH X):=⟨Good.toGoodH⟩
section
variable {K:PySem.W.Frag} {H:Hp} {ι:Nat->Addr} {n:Nat} {L:LH}
theorem FrzAt.seq {a:Addr} {xs:List V} (h:FrzAt K H a xs):SqL K H a xs:=by
 rcases h with ⟨o,h⟩ | h
 ·exact .inl (.inr ⟨o,h⟩)
 ·rcases h with (h | ⟨o,h⟩) | h
  ·cases h
  ·cases h
  ·exact .inr h
theorem Rep.listOf (R:Rep K ι H L) {k:Nat} {ds:List LV} (h:itemsL L (.ref k) = some ds):∃ xs,SqL K H (ι k) xs∧RVs K H ι L.length xs ds:=by
 dsimp only [itemsL] at h
 cases e:L[k]? with
 | none=>rw [e] at h; cases h
 | some o =>
  rw [e] at h
  cases o with
  | lst ys =>
   cases h
   obtain ⟨xs,h1,h2⟩:=R.ob k _ e
   exact ⟨xs,.inl (.inl h1),h2⟩
  | frz ns =>
   cases h
   exact ⟨_,(show FrzAt K H (ι k) (ns.map V.int) from R.ob k _ e).seq,RVs.ints ns⟩
  | dic _=>cases h
  | ins _ _=>cases h
  | dtp _=>cases h
  | cls _=>cases h
  | exn _ _=>cases h
  | dct _=>cases h
  | frd _=>cases h
  | frt _=>cases h
theorem Rep.seqN (R:Rep K ι H L) {d:LV} {v:V} {ds:List LV} (r:RV K H ι L.length v d) (h:Mv.items L d = some ds):∃ a xs,v = .ref a∧(SqL K H a xs∨SqN K H a xs)∧RVs K H ι L.length xs ds:=by
 cases d with
 | tup ys =>
  cases h
  cases r with
  | tup hs hr=>exact ⟨_,_,rfl,.inr hs,hr⟩
 | ref k =>
  cases r
  obtain ⟨xs,h1,h2⟩:=R.listOf h
  exact ⟨_,xs,rfl,.inl h1,h2⟩
 | non=>cases h
 | bl _=>cases h
 | int _=>cases h
 | str _=>cases h
theorem Rep.seq (R:Rep K ι H L) {d:LV} {v:V} {ds:List LV} (r:RV K H ι L.length v d) (h:Mv.items L d = some ds):∃ a xs,v = .ref a∧(SqL K H a xs∨SqT K H a xs)∧RVs K H ι L.length xs ds:=by
 obtain ⟨a,xs,e,h1,h2⟩:=R.seqN r h
 exact ⟨a,xs,e,h1.imp id (·.1),h2⟩
theorem dpAll_of {f:LV->Option PyData} (hf:∀ d v pd,f d = some pd->RV K H ι n v d->Dp K H v pd):∀ {ds:List LV} {vs:List V} {pds:List PyData},optAll f ds = some pds->RVs K H ι n vs ds->DpAll K H vs pds
 | [],_,_,e,r=>by
  cases r
  cases e
  exact .nil
 | d :: ds,_,_,e,r=>by
  cases r with
  | cons r1 r2 =>
   unfold optAll at e
   cases e1:f d with
   | none=>rw [e1] at e; cases e
   | some pd =>
    cases e2:optAll f ds with
    | none=>rw [e1,e2] at e; cases e
    | some pds =>
     rw [e1,e2] at e
     cases e
     exact .cons (hf d _ pd e1 r1) (dpAll_of hf e2 r2)
theorem dpAll_ints:∀ ns:List Int,DpAll K H (ns.map V.int) (ns.map PyData.int)
 | []=>.nil
 | i :: r=>.cons (.int i) (dpAll_ints r)
theorem dp_of (R:Rep K ι H L):∀ (k:Nat) (d:LV) (v:V) (pd:PyData),toD L k d = some pd->RV K H ι L.length v d->Dp K H v pd
 | 0,_,_,_,e,_=>by cases e
 | k + 1,d,v,pd,e,r=>by
  cases d with
  | non=>cases r; cases e; exact .non
  | bl b=>cases r; cases e; exact .bl b
  | int i=>cases r; cases e; exact .int i
  | str x=>cases r; cases e; exact .str x
  | tup ds =>
   cases r with
   | tup hs hr =>
    obtain ⟨pds,e1,e2⟩:=Option.map_eq_some_iff.mp e
    subst e2
    exact .tup hs.1 (dpAll_of (dp_of R k) e1 hr)
  | ref j =>
   cases r
   have e:(match L[j]? with
    | some (.lst xs)=>(optAll (toD L k) xs).map .list
    | some (.frz ns)=>some (.list (ns.map .int))
    | _=>none) = some pd:=e
   cases hl:L[j]? with
   | none=>rw [hl] at e; cases e
   | some o =>
    rw [hl] at e
    cases o with
    | lst xs =>
     obtain ⟨pds,e1,e2⟩:=Option.map_eq_some_iff.mp e
     subst e2
     obtain ⟨ys,h1,h2⟩:=R.ob j _ hl
     exact .lst (.inl (.inl h1)) (dpAll_of (dp_of R k) e1 h2)
    | frz ns =>
     cases e
     exact .lst (show FrzAt K H (ι j) (ns.map V.int) from R.ob j _ hl).seq (dpAll_ints ns)
    | dic _=>cases e
    | ins _ _=>cases e
    | dtp _=>cases e
    | cls _=>cases e
    | exn _ _=>cases e
    | dct _=>cases e
    | frd _=>cases e
    | frt _=>cases e
theorem drs_of {n k:Nat} (ih:∀ (d:LV) (v:V) (pd:PyData),toRD L k d = some pd->RV K H ι n v d->DR K H v pd):∀ {ds:List LV} {vs:List V} {pds:List PyData},optAll (toRD L k) ds = some pds->RVs K H ι n vs ds->DRs K H vs pds
 | [],_,_,e,r=>by cases r; cases e; exact .nil
 | d :: ds,_,_,e,r=>by
  cases r with
  | cons r1 r2 =>
   unfold optAll at e
   cases e1:toRD L k d with
   | none=>rw [e1] at e; cases e
   | some p =>
    cases e2:optAll (toRD L k) ds with
    | none=>rw [e1,e2] at e; cases e
    | some ps =>
     rw [e1,e2] at e
     cases e
     exact .cons (ih d _ p e1 r1) (drs_of ih e2 r2)
theorem drs_ints:∀ ns:List Int,DRs K H (ns.map V.int) (ns.map PyData.int)
 | []=>.nil
 | i :: r=>.cons (.int i) (drs_ints r)
theorem RKV.vals {n:Nat}:∀ {vs:List (Key × V)} {ds:List (Key × LV)},RKV K H ι n vs ds->RVs K H ι n (vs.map (·.2)) (ds.map (·.2))∧vs.map (fun kv=>keyD kv.1) = ds.map (fun kv=>keyD kv.1)
 | _,_,.nil=>⟨.nil,rfl⟩
 | _,_,.cons r t=>by
  obtain ⟨h1,h2⟩:=RKV.vals t
  exact ⟨.cons r h1,by rw [List.map_cons,List.map_cons,h2]⟩
theorem dr_of (R:Rep K ι H L):∀ (k:Nat) (d:LV) (v:V) (pd:PyData),toRD L k d = some pd->RV K H ι L.length v d->DR K H v pd
 | 0,_,_,_,e,_=>by cases e
 | k + 1,d,v,pd,e,r=>by
  cases d with
  | non=>cases r; cases e; exact .non
  | bl b=>cases r; cases e; exact .bl b
  | int i=>cases r; cases e; exact .int i
  | str x=>cases r; cases e; exact .str x
  | tup ds =>
   cases r with
   | tup hs hr =>
    obtain ⟨pds,e1,e2⟩:=Option.map_eq_some_iff.mp e
    subst e2
    exact .tup hs.1 (drs_of (dr_of R k) e1 hr)
  | ref j =>
   cases r
   have e:(match L[j]? with
    | some (.lst xs)=>(optAll (toRD L k) xs).map .list
    | some (.frz ns)=>some (.list (ns.map .int))
    | some (.dic kvs)=>(optAll (toRD L k) (kvs.map (·.2))).map fun ds=>.dict ((kvs.map fun kv=>keyD kv.1).zip ds)
    | _=>none) = some pd:=e
   cases hl:L[j]? with
   | none=>rw [hl] at e; cases e
   | some o =>
    rw [hl] at e
    cases o with
    | lst xs =>
     obtain ⟨pds,e1,e2⟩:=Option.map_eq_some_iff.mp e
     subst e2
     obtain ⟨ys,h1,h2⟩:=R.ob j _ hl
     exact .lst (.inl (.inl h1)) (drs_of (dr_of R k) e1 h2)
    | frz ns =>
     cases e
     exact .lst (show FrzAt K H (ι j) (ns.map V.int) from R.ob j _ hl).seq (drs_ints ns)
    | dic kvs =>
     obtain ⟨pds,e1,e2⟩:=Option.map_eq_some_iff.mp e
     subst e2
     obtain ⟨ys,h1,h2⟩:=R.ob j _ hl
     obtain ⟨r1,r2⟩:=h2.vals
     rw [<- r2]
     exact .dic h1 (drs_of (dr_of R k) e1 r1)
    | ins _ _=>cases e
    | dtp _=>cases e
    | cls _=>cases e
    | exn _ _=>cases e
    | dct _=>cases e
    | frd _=>cases e
    | frt _=>cases e
theorem flat_rel {v:V} {d:LV} (r:RV K H ι n v d) (h:flat d = true):flatV v = true:=by
 cases d <;> first | (cases r; rfl) | cases h
theorem flat_all:∀ {ds:List LV} {vs:List V},RVs K H ι n vs ds->ds.all flat = true->vs.all flatV = true
 | [],_,r,_=>by cases r; rfl
 | d :: ds,_,r,h=>by
  cases r with
  | cons r1 r2 =>
   rw [List.all_cons,Bool.and_eq_true] at h ⊢
   exact ⟨flat_rel r1 h.1,flat_all r2 h.2⟩
theorem flatEq_rel {v u:V} {d e:LV} (r:RV K H ι n v d) (q:RV K H ι n u e) (hd:flat d = true) (he:flat e = true):L2.eqV v u = flatEq d e:=by
 cases d <;> first | (cases hd; done) | (cases r; cases e <;> first | (cases he; done) | (cases q; rfl))
theorem inV_rel {x:V} {d:LV} (r:RV K H ι n x d) (hd:flat d = true):∀ {ds:List LV} {vs:List V},RVs K H ι n vs ds->ds.all flat = true->inV x vs = inSeq d ds
 | [],_,q,_=>by cases q; rfl
 | e :: ds,_,q,h=>by
  cases q with
  | cons q1 q2 =>
   rw [List.all_cons,Bool.and_eq_true] at h
   unfold inV inSeq
   rw [List.any_cons,List.any_cons,flatEq_rel q1 r h.1 hd]
   have ih:=inV_rel r hd q2 h.2
   unfold inV inSeq at ih
   rw [ih]
theorem line_of {k:Nat} (h:small k = true):k<=sizeLine:=of_decide_eq_true h
end
def opOf:BOp->Operator
 | .add=>.Add
 | .sub=>.Sub
 | .mul=>.Mult
 | .fdiv=>.FloorDiv
 | .mod=>.Mod
 | .pow=>.Pow
def rMulS:R2:=fun x y H Q=>∃ s k,x = .str s∧y = .int k∧(0<=k∧k<=1000∧s.length<=1000)∧Q (.str (Txt.mul s k)) H
theorem op_mulS {X:Cx}:OpR X (binaryOp .Mult) rMulS:=by
 intro pins s σ H x y v u Q I rx ry h
 obtain ⟨z,k,rfl,rfl,⟨h1,h2,h3⟩,q⟩:=h
 obtain ⟨t,rfl⟩:=rx
 obtain ⟨t',rfl⟩:=ry
 refine SB.mul ⟨?_,fun h4 _=>?_,fun h4 _=>?_⟩ fun t'' tk=>⟨.str _,H,I.tok _,⟨_,rfl⟩,q⟩
 ·rw [decide_eq_false (by omega),decide_eq_false (by omega)]
  rfl
 ·have h5:(1000:Int)<=(2 ^ 63 - 1) / k:=Int.le_ediv_of_mul_le (by omega) (by omega)
  omega
 ·have h5:z.length * k.toNat<=1000 * 1000:=Nat.mul_le_mul h3 (by omega)
  exact decide_eq_false (by have:sizeLine = 2 ^ 24:=rfl; omega)
def rB (K:PySem.W.Frag):BOp->R2
 | .add=>fun x y H Q=>rI0 (fun i j=>.int (i + j)) x y H Q∨(∃ i j,x = .str i∧y = .str j∧i.length + j.length<=sizeLine∧Q (.str (i ++ j)) H)∨rCatN K x y H Q∨rCat x y H Q
 | .sub=>rI0 fun i j=>.int (i - j)
 | .mul=>fun x y H Q=>rI CMul (fun i j=>.int (i * j)) x y H Q∨rI CMulW (fun i j=>.int (i * j)) x y H Q∨rRep x y H Q∨rMulT K x y H Q∨rMulS x y H Q
 | .fdiv=>rI CDivW fun i j=>.int (i / j)
 | .mod=>rI (fun _ j=>0 < j) fun i j=>.int (i % j)
 | .pow=>rI CPow fun i j=>.int (i ^ j.toNat)
theorem rB_ok {X:Cx}:∀ op:BOp,OpR X (binaryOp (opOf op)) (rB X.K op)
 | .add=>op_add.or (op_add_str.or (op_catN.or op_cat))
 | .sub=>op_sub
 | .mul=>op_mul.or (op_mulW.or (op_rep.or (op_mulT.or op_mulS)))
 | .fdiv=>op_fdivW
 | .mod=>op_mod
 | .pow=>op_pow
section
variable {K:PySem.W.Frag} {W:XW} {σV:L2.St} {σ:LSt} {ι:Nat->Addr} {L:LH} {H:Hp} {Q:VK}
theorem mul_ok {i j:Int} (h:mulOk i j = true):CMul i j∨CMulW i j:=by
 have h:=of_decide_eq_true h
 rcases h with h | h | h
 ·exact .inl (.inl h)
 ·exact .inl (.inr h)
 ·exact .inr h
theorem div_ok {i j:Int} (h:divOk j = true):CDivW i j:=of_decide_eq_true (p:=0 < j∧j.natAbs.log2 < 9000) h
theorem pow_ok {i j:Int} (h:decide (0<=j∧j<=1000000∧i.natAbs < 2 ^ 64) = true):CPow i j:=of_decide_eq_true (p:=0<=j∧j<=1000000∧i.natAbs < 2 ^ 64) h
theorem RVs.nil_iff {xs:List V} {ds:List LV} {n:Nat} (h:RVs K H ι n xs ds):xs = []↔ds = []:=by
 cases h <;> simp
theorem RV.intV {v:V} {i:Int} {n:Nat} (h:RV K H ι n v (.int i)):v = .int i:=by cases h; rfl
theorem RV.strV {v:V} {i:Str} {n:Nat} (h:RV K H ι n v (.str i)):v = .str i:=by cases h; rfl
theorem RV.tupV {v:V} {i:List LV} {n:Nat} (h:RV K H ι n v (.tup i)):∃ a xs,v = .ref a∧SqN K H a xs∧RVs K H ι n xs i:=by cases h; exact ⟨_,_,rfl,by assumption,by assumption⟩
theorem RV.refV {v:V} {i:Nat} {n:Nat} (h:RV K H ι n v (.ref i)):v = .ref (ι i):=by cases h; rfl
theorem tup_new {p:Addr} {xs:List V} {ds:List LV} {n:Nat} {q:Obj} (hc:q.cls = .type "tuple") (hd:q.dict = none) (hp:H p = none) (r:RVs K H ι n xs ds):RV K (upd H p (.frz q (.tup xs))) ι n (.ref p) (.tup ds) :=
 .tup (SqN.of upd_same hc hd) (r.mono (Ev.fresh hp))
theorem lst_new {p:Addr} {xs:List V} {ds:List LV} (hp:H p = none) (r:RVs K H ι L.length xs ds):RO K (upd H p (.lst xs)) (ext ι L.length p) (L.length + 1) p (.lst ds) :=
 ⟨xs,upd_same,r.mono (Ev.new hp)⟩
theorem none_at {f:LH->Option (Out LV)} (h:At K W (RVr K) σV σ ι L (f L) Q H) (e:f L = none):False:=by
 rw [e] at h
 exact h.none
theorem bin_at {d e:LV} {x y:V} (op:BOp) (h:At K W (RVr K) σV σ ι L (binV op d e L) Q H) (rx:RV K H ι L.length x d) (ry:RV K H ι L.length y e):rB K op x y H Q:=by
 cases op with
 | sub =>
  cases d <;> cases e <;> first
   | exact h.no.elim
   | (cases rx; cases ry; exact ⟨_,_,rfl,rfl,h.ret (.int _)⟩)
 | fdiv =>
  cases d <;> cases e <;> first
   | exact h.no.elim
   | (obtain ⟨c,h⟩:=h.chk; cases rx; cases ry; exact ⟨_,_,rfl,rfl,div_ok c,h.ret (.int _)⟩)
 | mod =>
  cases d <;> cases e <;> first
   | exact h.no.elim
   | (obtain ⟨c,h⟩:=h.chk; cases rx; cases ry; exact ⟨_,_,rfl,rfl,of_decide_eq_true c,h.ret (.int _)⟩)
 | pow =>
  cases d <;> cases e <;> first
   | exact h.no.elim
   | (obtain ⟨c,h⟩:=h.chk; cases rx; cases ry; exact ⟨_,_,rfl,rfl,pow_ok c,h.ret (.int _)⟩)
 | add =>
  cases d with
  | int i =>
   cases e with
   | int j=>cases rx; cases ry; exact .inl ⟨_,_,rfl,rfl,h.ret (.int _)⟩
   | _=>exact h.no.elim
  | str i =>
   cases e with
   | str j =>
    obtain ⟨c,h⟩:=h.chk
    cases rx
    cases ry
    exact .inr (.inl ⟨_,_,rfl,rfl,line_of c,h.ret (.str _)⟩)
   | _=>exact h.no.elim
  | tup as =>
   cases e with
   | tup bs =>
    obtain ⟨c,h⟩:=h.chk
    obtain ⟨a,xs,rfl,ha,ra⟩:=rx.tupV
    obtain ⟨b,ys,rfl,hb,rb⟩:=ry.tupV
    refine .inr (.inr (.inl ⟨a,b,xs,ys,rfl,rfl,ha.1,hb.1,by rw [ra.length,rb.length]; exact line_of c,fun e=>?_,fun e1 e2=>?_,fun e1 e2 q hc hd p hp=>?_⟩))
    ·rw [ra.nil_iff.mp e] at h
     exact h.ret (.tup hb rb)
    ·rw [rb.nil_iff.mp e2,List.append_nil] at h
     exact h.ret (.tup ha ra)
    ·exact h.retF hp (tup_new hc hd hp (ra.append rb))
   | _=>exact h.no.elim
  | ref a =>
   cases e with
   | ref b =>
    have h:At K W (RVr K) σV σ ι L (catR L[a]? L[b]? L) Q H:=h
    generalize e1:L[a]? = o1 at h
    generalize e2:L[b]? = o2 at h
    unfold catR at h
    split at h
    ·rename_i xs ys
     obtain ⟨c,h⟩:=h.chk
     obtain rfl:=rx.refV
     obtain rfl:=ry.refV
     obtain ⟨us,h1,r1⟩:=h.rep.ob a _ e1
     obtain ⟨ws,h2,r2⟩:=h.rep.ob b _ e2
     refine .inr (.inr (.inr ⟨_,_,us,ws,rfl,rfl,h1,h2,by rw [r1.length,r2.length]; exact line_of c,fun p hp=>?_⟩))
     exact h.new hp (lst_new hp (r1.append r2))
    ·exact h.no.elim
   | _=>exact h.no.elim
  | non=>exact h.no.elim
  | bl _=>exact h.no.elim
 | mul =>
  cases d with
  | int i =>
   cases e with
   | int j =>
    obtain ⟨c,h⟩:=h.chk
    cases rx
    cases ry
    rcases mul_ok c with c | c
    ·exact .inl ⟨_,_,rfl,rfl,c,h.ret (.int _)⟩
    ·exact .inr (.inl ⟨_,_,rfl,rfl,c,h.ret (.int _)⟩)
   | _=>exact h.no.elim
  | tup as =>
   cases e with
   | int k =>
    obtain ⟨c,h⟩:=h.chk
    rw [Bool.and_eq_true] at c
    obtain ⟨a,xs,rfl,ha,ra⟩:=rx.tupV
    obtain rfl:=ry.intV
    have c1:=of_decide_eq_true c.1
    refine .inr (.inr (.inr (.inl ⟨a,k,xs,rfl,rfl,ha.1,c1.1,c1.2,by rw [ra.length]; exact line_of c.2,fun e=>?_,fun e q hc hd p hp=>?_⟩)))
    ·have e':reps as k = as:=by
      unfold reps
      rcases e with e | e
      ·rw [ra.nil_iff.mp e]
       simp
      ·subst e
       simp
     rw [e'] at h
     exact h.ret (.tup ha ra)
    ·exact h.retF hp (tup_new hc hd hp (ra.flat k.toNat))
   | _=>exact h.no.elim
  | ref a =>
   cases e with
   | int k =>
    have h:At K W (RVr K) σV σ ι L (repR k L[a]? L) Q H:=h
    generalize e1:L[a]? = o1 at h
    unfold repR at h
    split at h
    ·rename_i xs
     obtain ⟨c,h⟩:=h.chk
     rw [Bool.and_eq_true] at c
     have c1:=of_decide_eq_true c.1
     obtain rfl:=rx.refV
     obtain rfl:=ry.intV
     obtain ⟨us,h1,r1⟩:=h.rep.ob a _ e1
     refine .inr (.inr (.inl ⟨_,k,us,rfl,rfl,h1,c1.1,c1.2,by rw [r1.length]; exact line_of c.2,fun p hp=>?_⟩))
     exact h.new hp (lst_new hp (r1.flat k.toNat))
    ·exact h.no.elim
   | _=>exact h.no.elim
  | non=>exact h.no.elim
  | bl _=>exact h.no.elim
  | str s =>
   cases e with
   | int k =>
    obtain ⟨c,h⟩:=h.chk
    cases rx
    cases ry
    exact .inr (.inr (.inr (.inr ⟨_,_,rfl,rfl,of_decide_eq_true c,h.ret (.str _)⟩)))
   | _=>exact h.no.elim
end
end Mv
namespace Mv
open PySem PySem.Spec PyProof.Rows L2
def copOf:COp->CmpOp
 | .eq=>.Eq
 | .ne=>.NotEq
 | .lt=>.Lt
 | .le=>.LtE
 | .gt=>.Gt
 | .ge=>.GtE
 | .inn=>.In
 | .nin=>.NotIn
 | .iss=>.Is
 | .isn=>.IsNot
def rC (K:PySem.W.Frag):COp->R2
 | .eq=>fun x y H Q=>(rEqD K x y H Q∨rEq x y H Q)∨rEmp K false x y H Q
 | .ne=>fun x y H Q=>(rNeD K x y H Q∨rNe x y H Q)∨rEmp K true x y H Q
 | .lt=>fun x y H Q=>rI0 (fun i j=>.bl (decide (i < j))) x y H Q∨rLtT K x y H Q
 | .le=>rI0 fun i j=>.bl (decide (i<=j))
 | .gt=>rI0 fun i j=>.bl (decide (j < i))
 | .ge=>rI0 fun i j=>.bl (decide (j<=i))
 | .inn=>rIn K false
 | .nin=>rIn K true
 | .iss=>fun x y H Q=>(∃ a b,x = .bl a∧y = .bl b∧Q (.bl (decide (a = b))) H)∨(y = .non∧Q (.bl (decide (x = .non))) H)
 | .isn=>fun x y H Q=>(∃ a b,x = .bl a∧y = .bl b∧Q (.bl (!decide (a = b))) H)∨(y = .non∧Q (.bl (!decide (x = .non))) H)
theorem rC_ok {X:Cx} (G:GoodH X):∀ op:COp,OpR X (compareOp (copOf op)) (rC X.K op)
 | .eq=>((op_eqD (by have:=G.hu; omega)).or op_eq).or (op_eqEmp (by have:=G.hu; omega))
 | .ne=>((op_neD (by have:=G.hu; omega)).or op_ne).or (op_neEmp (by have:=G.hu; omega))
 | .lt=>op_lt.or (op_ltT (by have:=G.hu; omega))
 | .le=>op_le
 | .gt=>op_gt
 | .ge=>op_ge
 | .inn=>op_in_seq
 | .nin=>op_notIn_seq
 | .iss=>op_is_bl.or op_isN
 | .isn=>op_isnot_bl.or op_notN
section
variable {K:PySem.W.Frag} {W:XW} {σV:L2.St} {σ:LSt} {ι:Nat->Addr} {L:LH} {H:Hp} {Q:VK}
theorem eqV_of (R:Rep K ι H L) {d e:LV} {x y:V} {b:Bool} (h:Mv.eqVd L d e = some b) (rx:RV K H ι L.length x d) (ry:RV K H ι L.length y e) :
  ∃ pd pe,Dp K H x pd∧Dp K H y pe∧SeqAt.shaped pd = true∧SeqAt.shaped pe = true∧PyData.eqv pd pe = b:=by
 unfold Mv.eqVd at h
 split at h
 ·rename_i pd pe e1 e2
  split at h
  ·rename_i hs
   rw [Bool.and_eq_true] at hs
   exact ⟨pd,pe,dp_of R _ _ _ _ e1 rx,dp_of R _ _ _ _ e2 ry,hs.1,hs.2,Option.some.inj h⟩
  ·cases h
 ·cases h
theorem emp_of (R:Rep K ι H L) {d e:LV} {x y:V} {b:Bool} (h:empPair L d e = some b) (rx:RV K H ι L.length x d) (ry:RV K H ι L.length y e) :
  ∃ a c xs,x = .ref a∧y = .ref c∧((SqT K H a xs∧SqT K H c [])∨(SqL K H a xs∧SqL K H c []))∧xs.isEmpty = b:=by
 have emp:∀ {vs:List V} {ds:List LV},RVs K H ι L.length vs ds->vs.isEmpty = ds.isEmpty:=fun r=>by cases r <;> rfl
 unfold empPair at h
 split at h
 ·cases h
  obtain ⟨a,xs,rfl,ha,ra⟩:=rx.tupV
  obtain ⟨c,ys,rfl,hc,rc⟩:=ry.tupV
  cases rc
  exact ⟨a,c,xs,rfl,rfl,.inl ⟨ha.1,hc.1⟩,emp ra⟩
 ·rename_i i j
  obtain rfl:=rx.refV
  obtain rfl:=ry.refV
  split at h
  ·rename_i xs ea ec
   cases h
   obtain ⟨us,h1,r1⟩:=R.ob _ _ ea
   obtain ⟨vs,h2,r2⟩:=R.ob _ _ ec
   cases r2
   exact ⟨_,_,us,rfl,rfl,.inr ⟨.inl (.inl h1),.inl (.inl h2)⟩,emp r1⟩
  ·cases h
 ·cases h
theorem eqV_cas (R:Rep K ι H L) {d e:LV} {x y:V} {b:Bool} (h:Mv.eqV L d e = some b) (rx:RV K H ι L.length x d) (ry:RV K H ι L.length y e):(Mv.eqVd L d e = some b∨∃ s t:Str,x = .str s∧y = .str t∧b = decide (s = t)) ∨
  ∃ a c xs,x = .ref a∧y = .ref c∧((SqT K H a xs∧SqT K H c [])∨(SqL K H a xs∧SqL K H c []))∧xs.isEmpty = b:=by
 unfold Mv.eqV at h
 cases e1:strPair d e with
 | none =>
  rw [e1] at h
  dsimp only at h
  cases e2:empPair L d e with
  | none=>rw [e2] at h; exact .inl (.inl h)
  | some c =>
   rw [e2] at h
   cases h
   exact .inr (emp_of R e2 rx ry)
 | some c =>
  rw [e1] at h
  cases h
  unfold strPair at e1
  split at e1
  ·cases e1
   cases rx
   cases ry
   exact .inl (.inr ⟨_,_,rfl,rfl,rfl⟩)
  ·cases e1
theorem cmp_at {d e:LV} {x y:V} (op:COp) (h:At K W (RVr K) σV σ ι L (cmpV op d e L) Q H) (rx:RV K H ι L.length x d) (ry:RV K H ι L.length y e):rC K op x y H Q:=by
 cases op with
 | eq =>
  obtain ⟨b,hb,h⟩:=At.look (g:=fun L=>Mv.eqV L d e) h
  rcases eqV_cas h.rep hb rx ry with (hb | ⟨s,t,rfl,rfl,rfl⟩) | ⟨a,c,xs,rfl,rfl,h1,h2⟩
  ·obtain ⟨pd,pe,h1,h2,h3,h4,h5⟩:=eqV_of h.rep hb rx ry
   exact .inl (.inl ⟨pd,pe,h1,h2,h3,h4,by rw [h5]; exact h.ret (.bl _)⟩)
  rotate_left
  ·exact .inr ⟨a,c,xs,rfl,rfl,h1,by rw [if_neg Bool.false_ne_true,h2]; exact h.ret (.bl _)⟩
  ·refine .inl (.inr ⟨rfl,?_⟩)
   have e:decide (V.str s = V.str t) = decide (s = t):=by simp
   rw [e]
   exact h.ret (.bl _)
 | ne =>
  obtain ⟨b,hb,h⟩:=At.look (g:=fun L=>Mv.eqV L d e) h
  rcases eqV_cas h.rep hb rx ry with (hb | ⟨s,t,rfl,rfl,rfl⟩) | ⟨a,c,xs,rfl,rfl,h1,h2⟩
  ·obtain ⟨pd,pe,h1,h2,h3,h4,h5⟩:=eqV_of h.rep hb rx ry
   exact .inl (.inl ⟨pd,pe,h1,h2,h3,h4,by rw [h5]; exact h.ret (.bl _)⟩)
  rotate_left
  ·exact .inr ⟨a,c,xs,rfl,rfl,h1,by rw [if_pos rfl,h2]; exact h.ret (.bl _)⟩
  ·refine .inl (.inr ⟨rfl,?_⟩)
   have e:(!decide (V.str s = V.str t)) = !decide (s = t):=by simp
   first
    | (rw [e]; exact h.ret (.bl _))
    | (have e2:decide (V.str s≠V.str t) = !decide (s = t):=by simp
       rw [e2]
       exact h.ret (.bl _))
 | lt =>
  cases d with
  | int i =>
   cases e with
   | int j=>cases rx; cases ry; exact .inl ⟨_,_,rfl,rfl,h.ret (.bl _)⟩
   | _=>exact h.no.elim
  | tup as =>
   cases e with
   | tup bs =>
    obtain ⟨m,e1,h⟩:=h.ofO
    obtain ⟨n,e2,h⟩:=h.ofO
    obtain ⟨a,xs,rfl,ha,ra⟩:=rx.tupV
    obtain ⟨b,ys,rfl,hb,rb⟩:=ry.tupV
    rw [ra.toInts e1] at ha
    rw [rb.toInts e2] at hb
    exact .inr ⟨a,b,m,n,rfl,rfl,ha.1,hb.1,h.ret (.bl _)⟩
   | _=>exact h.no.elim
  | _=>cases e <;> exact h.no.elim
 | le =>
  cases d <;> cases e <;> first
   | exact h.no.elim
   | (cases rx; cases ry; exact ⟨_,_,rfl,rfl,h.ret (.bl _)⟩)
 | gt =>
  cases d <;> cases e <;> first
   | exact h.no.elim
   | (cases rx; cases ry; exact ⟨_,_,rfl,rfl,h.ret (.bl _)⟩)
 | ge =>
  cases d <;> cases e <;> first
   | exact h.no.elim
   | (cases rx; cases ry; exact ⟨_,_,rfl,rfl,h.ret (.bl _)⟩)
 | iss =>
  have fin:∀ {z:V},RV K H ι L.length z d->decide (z = V.non) = isNon d:=fun r=>by
   cases r <;> first | rfl | simp [isNon]
  cases e with
  | non=>cases ry; exact .inr ⟨rfl,by rw [fin rx]; cases d <;> exact h.ret (.bl _)⟩
  | bl b =>
   cases d with
   | bl a=>cases rx; cases ry; exact .inl ⟨_,_,rfl,rfl,h.ret (.bl _)⟩
   | _=>exact h.no.elim
  | _=>cases d <;> exact h.no.elim
 | isn =>
  have fin:∀ {z:V},RV K H ι L.length z d->decide (z = V.non) = isNon d:=fun r=>by
   cases r <;> first | rfl | simp [isNon]
  cases e with
  | non=>cases ry; exact .inr ⟨rfl,by rw [fin rx]; cases d <;> exact h.ret (.bl _)⟩
  | bl b =>
   cases d with
   | bl a=>cases rx; cases ry; exact .inl ⟨_,_,rfl,rfl,h.ret (.bl _)⟩
   | _=>exact h.no.elim
  | _=>cases d <;> exact h.no.elim
 | inn =>
  obtain ⟨ys,hy,h⟩:=At.look (g:=fun L=>Mv.items L e) h
  obtain ⟨c,h⟩:=h.chk
  rw [Bool.and_eq_true] at c
  obtain ⟨a,xs,rfl,hs,hr⟩:=h.rep.seq ry hy
  refine ⟨a,xs,rfl,hs,flat_rel rx c.1,flat_all hr c.2,?_⟩
  rw [inV_rel rx c.1 hr c.2]
  exact h.ret (.bl _)
 | nin =>
  obtain ⟨ys,hy,h⟩:=At.look (g:=fun L=>Mv.items L e) h
  obtain ⟨c,h⟩:=h.chk
  rw [Bool.and_eq_true] at c
  obtain ⟨a,xs,rfl,hs,hr⟩:=h.rep.seq ry hy
  refine ⟨a,xs,rfl,hs,flat_rel rx c.1,flat_all hr c.2,?_⟩
  rw [inV_rel rx c.1 hr c.2]
  exact h.ret (.bl _)
def rIxD:R2:=fun x y H Q=>∃ a v,x = .ref a∧DGet H a y (some v)∧Q v H
def rIxA (K:PySem.W.Frag):R2:=fun x y H Q=>rIx K x y H Q∨rIxD x y H Q
end
theorem ix_dict {X:Cx} (hu:X.A.units + 1 < cLine):IxR X rIxD:=by
 intro value slice pins s σ H x y v u Q I rx ry h hs
 obtain ⟨a,z,rfl,g,q⟩:=h
 cases rx
 exact tail_any (dict_typeIs I g) PySem.F.slot_dict_getitem.lookup (d_getItem hu I g ry fun w' s3 I3 rw'=>⟨z,H,I3,rw',q⟩) hs
theorem ix_any {X:Cx} (G:GoodH X):IxR X (rIxA X.K):=ix_seq.or (ix_dict (by have:=G.hu; omega))
theorem atI_rel {K:PySem.W.Frag} {H:Hp} {ι:Nat->Addr} {n:Nat} {xs:List V} {ds:List LV} {i:Int} {d:LV} (r:RVs K H ι n xs ds) (h:atI ds i = some d):∃ v,atI xs i = some v∧RV K H ι n v d:=by
 unfold atI at h ⊢
 rw [r.length]
 cases e:ixN ds.length i with
 | none=>rw [e] at h; cases h
 | some j =>
  rw [e] at h
  exact r.get h
theorem atI_map {α β:Type} (f:α->β) (xs:List α) (i:Int):atI (xs.map f) i = (atI xs i).map f:=by
 unfold atI
 rw [List.length_map]
 cases ixN xs.length i with
 | none=>rfl
 | some j=>exact List.getElem?_map
theorem keyOf_rel {K:PySem.W.Frag} {H:Hp} {ι:Nat->Addr} {n:Nat} {d:LV} {x:V} {k:Key} (h:keyOf d = some k) (r:RV K H ι n x d):x = kV k:=by
 cases d <;> first | (cases h; done) | (cases r; cases h; rfl)
section
variable {K:PySem.W.Frag} {W:XW} {σV:L2.St} {σ:LSt} {ι:Nat->Addr} {L:LH} {H:Hp} {Q:VK}
theorem ix_at {d e:LV} {x y:V} (h:At K W (RVr K) σV σ ι L (ixV d e L) Q H) (rx:RV K H ι L.length x d) (ry:RV K H ι L.length y e):rIxA K x y H Q:=by
 cases d with
 | tup as =>
  cases e with
  | int i =>
   obtain ⟨d,e,h⟩:=h.ofO
   obtain ⟨a,xs,rfl,ha,ra⟩:=rx.tupV
   obtain rfl:=ry.intV
   obtain ⟨v,hv,rv⟩:=atI_rel ra e
   exact .inl (.inr (.inl ⟨a,xs,i,v,rfl,rfl,ha.1,hv,h.ret rv⟩))
  | _=>exact h.no.elim
 | str s =>
  cases e with
  | int i =>
   obtain ⟨c,h⟩:=h.chk
   obtain ⟨d,e,h⟩:=h.ofO
   obtain rfl:=rx.strV
   obtain rfl:=ry.intV
   exact .inl (.inr (.inr ⟨s,i,d,rfl,rfl,line_of c,e,h.ret (.str _)⟩))
  | _=>exact h.no.elim
 | ref a =>
  obtain rfl:=rx.refV
  have h:At K W (RVr K) σV σ ι L (ixR L[a]? e L) Q H:=h
  generalize e1:L[a]? = o1 at h
  cases o1 with
  | none=>exact h.no.elim
  | some o1 =>
   cases o1 with
   | lst xs =>
    cases e with
    | int i =>
     obtain ⟨d,e,h⟩:=h.ofO
     obtain rfl:=ry.intV
     obtain ⟨ys,h1,r1⟩:=h.rep.ob a _ e1
     obtain ⟨v,hv,rv⟩:=atI_rel r1 e
     exact .inl (.inl ⟨_,ys,i,v,rfl,rfl,.inl (.inl h1),hv,h.ret rv⟩)
    | _=>exact h.no.elim
   | frz ns =>
    cases e with
    | int i =>
     obtain ⟨d,e,h⟩:=h.ofO
     obtain rfl:=ry.intV
     have h1:=(show FrzAt K H (ι a) (ns.map V.int) from h.rep.ob a _ e1).seq
     exact .inl (.inl ⟨_,_,i,.int d,rfl,rfl,h1,by rw [atI_map,e]; rfl,h.ret (.int _)⟩)
    | _=>exact h.no.elim
   | dic kvs =>
    obtain ⟨d,e2,h⟩:=At.ofO (o:=(keyOf e).bind (dval kvs)) h
    obtain ⟨ys,h1,r1⟩:=h.rep.ob a _ e1
    cases ek:keyOf e with
    | none=>rw [ek] at e2; cases e2
    | some k =>
     rw [ek] at e2
     obtain ⟨v,hv,rv⟩:=r1.val (k:=k) (d:=d) e2
     refine .inr ⟨_,v,rfl,?_,h.ret rv⟩
     rw [keyOf_rel ek ry,<- hv]
     exact DGet.k h1
   | ins _ _=>cases e <;> exact h.no.elim
   | dtp _=>cases e <;> exact h.no.elim
   | cls _=>cases e <;> exact h.no.elim
   | exn _ _=>cases e <;> exact h.no.elim
   | dct _=>cases e <;> exact h.no.elim
   | frt _=>cases e <;> exact h.no.elim
   | frd kvs =>
    obtain ⟨d,e2,h⟩:=At.ofO (o:=(keyOf e).bind (dval kvs)) h
    obtain ⟨o1,ys,h1,r1⟩:=h.rep.ob a _ e1
    cases ek:keyOf e with
    | none=>rw [ek] at e2; cases e2
    | some k =>
     rw [ek] at e2
     obtain ⟨v,hv,rv⟩:=r1.val (k:=k) (d:=d) e2
     refine .inr ⟨_,v,rfl,?_,h.ret rv⟩
     rw [keyOf_rel ek ry,<- hv]
     exact .inl ⟨ys,_,.inr ⟨o1,h1⟩,rfl,rfl⟩
 | _=>exact h.no.elim
end
end Mv
namespace Mv
open PySem PySem.Spec PyProof.Rows L2
section
variable {α β:Type} {K:PySem.W.Frag} {W:XW} {R:Rl α β} {σV:L2.St} {σ:LSt} {ι:Nat->Addr} {L:LH} {H:Hp} {Q:β->Hp->Prop}
theorem At.putW {f:Unit->M α} {k:Nat} {o o':LO} {u:HO} (h:At K W R σV σ ι L (M.bind (setO k o') f L) Q H) (hk:L[k]? = some o) (m:isMut o = true) (q:RO K (upd H (ι k) u) ι L.length (ι k) o') :
  At K W R σV σ ι (L.set k o') (f () (L.set k o')) Q (upd H (ι k) u):=by
 obtain ⟨a,b,o1,e,p⟩:=h
 obtain ⟨w,hw,mw⟩:=(a.ob k o hk).some m
 have ev:Ev K ι H L.length ι (upd H (ι k) u) (L.set k o').length:=by
  rw [List.length_set]
  exact Ev.set hw mw
 have e:f () (L.set k o') = some o1:=e
 refine ⟨a.setW hk m q,b.mono ev,o1,e,?_⟩
 cases o1 with
 | ok d L'=>exact fun ι2 H2 v2 ev2 rp2 rv2=>p ι2 H2 v2 (ev.trans ev2) rp2 rv2
 | ex c fs L'=>exact fun ι2 H2 ev2 rp2=>p ι2 H2 (ev.trans ev2) rp2
theorem At.put {f:Unit->M α} {k:Nat} {o o':LO} {u:HO} (h:At K W R σV σ ι L (M.bind (setO k o') f L) Q H) (hk:L[k]? = some o) (m:isMut o = true) (m':isMut o' = true) (q:RO K (upd H (ι k) u) ι L.length (ι k) o') :
  At K W R σV σ ι (L.set k o') (f () (L.set k o')) Q (upd H (ι k) u):=h.putW hk m q
theorem At.put0 {k:Nat} {o o':LO} {u:HO} {Q:Unit->Hp->Prop} (h:At K W Eqr σV σ ι L (setO k o' L) Q H) (hk:L[k]? = some o) (m:isMut o = true) (m':isMut o' = true) (q:RO K (upd H (ι k) u) ι L.length (ι k) o') :
  Q () (upd H (ι k) u):=by
 obtain ⟨a,b,o1,e,p⟩:=h
 obtain ⟨w,hw,mw⟩:=(a.ob k o hk).some m
 have ev:Ev K ι H L.length ι (upd H (ι k) u) (L.set k o').length:=by
  rw [List.length_set]
  exact Ev.set hw mw
 have e:some (Out.ok () (L.set k o')) = some o1:=e
 cases e
 exact p ι _ () ev (a.set hk m m' q) rfl
end
section
variable {K:PySem.W.Frag} {W:XW} {σV:L2.St} {σ:LSt} {ι:Nat->Addr} {L:LH} {H:Hp} {Q:VK}
def rSl (K:PySem.W.Frag):V->Option Int->Option Int->Hp->VK->Prop:=fun x lo hi H Q=>rSlL K x lo hi H Q∨rSlN K x lo hi H Q
theorem rSl_ok {X:Cx}:SlR X (rSl X.K):=sl_list.or sl_tupN
theorem cut_rel {xs:List V} {ds:List LV} {n:Nat} {lo hi:Option Int} (r:RVs K H ι n xs ds):RVs K H ι n (cutV xs lo hi) (cut ds lo hi):=by
 unfold cutV cut
 rw [r.length]
 exact (r.drop _).take _
theorem sl_at {d:LV} {x:V} {lo hi:Option Int} (h:At K W (RVr K) σV σ ι L (slV d lo hi L) Q H) (rx:RV K H ι L.length x d):rSl K x lo hi H Q:=by
 cases d with
 | tup as =>
  obtain ⟨a,xs,rfl,ha,ra⟩:=rx.tupV
  refine .inr ⟨a,xs,rfl,ha.1,fun e=>?_,fun _ q hc hd p hp=>?_⟩
  ·have e':cut as lo hi = as:=by
    unfold cut
    rw [<- ra.length,e.1,e.2,ra.length]
    simp
   have h:At K W (RVr K) σV σ ι L (M.ret (.tup (cut as lo hi)) L) Q H:=h
   rw [e'] at h
   exact h.ret (.tup ha ra)
  ·exact h.retF hp (tup_new hc hd hp (cut_rel ra))
 | ref a =>
  obtain rfl:=rx.refV
  obtain ⟨ds,e,h⟩:=At.look (g:=fun L=>itemsL L (.ref a)) h
  obtain ⟨xs,hx,rx⟩:=h.rep.listOf e
  exact .inl ⟨_,xs,rfl,hx,fun p hp=>h.new hp (lst_new hp (cut_rel rx))⟩
 | _=>exact h.no.elim
theorem rev_at {d:LV} {x:V} (h:At K W (RVr K) σV σ ι L (revV d L) Q H) (rx:RV K H ι L.length x d):rRev K x H Q:=by
 cases d with
 | tup as =>
  obtain ⟨a,xs,rfl,ha,ra⟩:=rx.tupV
  exact ⟨a,xs,rfl,.inr ⟨ha.1,fun q hc hd p hp=>h.retF hp (tup_new hc hd hp ra.reverse)⟩⟩
 | ref a =>
  obtain rfl:=rx.refV
  obtain ⟨ds,e,h⟩:=At.look (g:=fun L=>itemsL L (.ref a)) h
  obtain ⟨xs,hx,rx⟩:=h.rep.listOf e
  exact ⟨_,xs,rfl,.inl ⟨hx,fun p hp=>h.new hp (lst_new hp rx.reverse)⟩⟩
 | _=>exact h.no.elim
def rSetD:V->V->V->Hp->(Hp->Prop)->Prop:=fun o i v H Q=>∃ a H',o = .ref a∧DPut H a i v H'∧Q H'
def rSet:V->V->V->Hp->(Hp->Prop)->Prop:=fun o i v H Q=>rSetL o i v H Q∨rSetD o i v H Q
theorem set_any {X:Cx} (hu:X.A.units + 1 < cLine):PSet X rSet:=by
 intro pins s σ H o i v ov iv u Q I ro ri rv h
 rcases h with h | ⟨a,H',rfl,g,q⟩
 ·exact set_list pins s σ H o i v ov iv u Q I ro ri rv h
 ·cases ro
  exact d_setItem hu I g ri rv fun s4 I4=>⟨H',I4,q⟩
theorem set_at {d e f:LV} {o i v:V} {Q:Unit->Hp->Prop} (h:At K W Eqr σV σ ι L (setV d e f L) Q H) (ro:RV K H ι L.length o d) (ri:RV K H ι L.length i e) (rv:RV K H ι L.length v f):rSet o i v H (Q ()):=by
 cases d with
 | ref a =>
  obtain rfl:=ro.refV
  have h:At K W Eqr σV σ ι L (setR a f L[a]? e L) Q H:=h
  generalize e1:L[a]? = o1 at h
  cases o1 with
  | none=>exact h.no.elim
  | some o1 =>
   cases o1 with
   | lst xs =>
    cases e with
    | int k =>
     obtain ⟨j,ej,h⟩:=h.ofO
     obtain rfl:=ri.intV
     obtain ⟨ys,h1,r1⟩:=h.rep.ob a _ e1
     refine .inl ⟨_,ys,k,j,rfl,rfl,h1,by rw [r1.length]; exact ej,h.put0 e1 rfl rfl ⟨_,upd_same,?_⟩⟩
     exact (RVs.set rv j r1).mono (Ev.set h1 trivial)
    | _=>exact h.no.elim
   | dic kvs =>
    obtain ⟨k,ek,h⟩:=At.ofO (o:=keyOf e) h
    obtain ⟨c,h⟩:=h.chk
    obtain ⟨ys,h1,r1⟩:=h.rep.ob a _ e1
    refine .inr ⟨_,upd H (ι a) (.dK (putK ys k v)),rfl,?_,h.put0 e1 rfl rfl ⟨_,upd_same,?_⟩⟩
    ·rw [keyOf_rel ek ri]
     exact DPut.k h1 (by rw [r1.length]; exact of_decide_eq_true c)
    ·exact (RKV.put rv r1).mono (Ev.set h1 trivial)
   | frz _=>cases e <;> exact h.no.elim
   | ins _ _=>cases e <;> exact h.no.elim
   | dtp _=>cases e <;> exact h.no.elim
   | cls _=>cases e <;> exact h.no.elim
   | exn _ _=>cases e <;> exact h.no.elim
   | dct _=>cases e <;> exact h.no.elim
   | frd _=>cases e <;> exact h.no.elim
   | frt _=>cases e <;> exact h.no.elim
 | _=>exact h.no.elim
def biVal:Bi->Value
 | .len=>.builtin "len"
 | .int=>.type "int"
 | .str=>.type "str"
 | .strB=>.type "str"
 | .reprB=>.builtin "repr"
 | .repr=>.builtin "repr"
 | .list=>.type "list"
 | .tuple=>.type "tuple"
 | .abs=>.builtin "abs"
 | .max=>.builtin "max"
 | .min=>.builtin "min"
 | .sum=>.builtin "sum"
 | .all=>.builtin "all"
 | .any=>.builtin "any"
 | .dict=>.type "dict"
def biName:Bi->Str
 | .len=>"len"
 | .int=>"int"
 | .str=>"str"
 | .strB=>"str"
 | .reprB=>"repr"
 | .repr=>"repr"
 | .list=>"list"
 | .tuple=>"tuple"
 | .abs=>"abs"
 | .max=>"max"
 | .min=>"min"
 | .sum=>"sum"
 | .all=>"all"
 | .any=>"any"
 | .dict=>"dict"
theorem bi_boot:∀ b:Bi,bootBuiltins (biName b) = some (biVal b)
 | .len=>boot_len
 | .int=>by decide +kernel
 | .str=>by decide +kernel
 | .strB=>by decide +kernel
 | .reprB=>by decide +kernel
 | .repr=>by decide +kernel
 | .list=>by decide +kernel
 | .tuple=>by decide +kernel
 | .abs=>by decide +kernel
 | .max=>by decide +kernel
 | .min=>by decide +kernel
 | .sum=>by decide +kernel
 | .all=>by decide +kernel
 | .any=>by decide +kernel
 | .dict=>by decide +kernel
def rLen (K:PySem.W.Frag):List V->Hp->VK->Prop:=fun xs H Q=>(∃ x n,xs = [x]∧LenV K x H n∧Q (.int n) H)∨∃ a kvs,xs = [V.ref a]∧Rd H a (.dK kvs)∧Q (.int (kvs.length:Nat)) H
theorem len_any {X:Cx}:CallR X (.builtin "len") (rLen X.K):=by
 intro pins s σ H xs us Q I r h
 rcases h with h | ⟨a,kvs,rfl,e,q⟩
 ·exact call_len pins s σ H xs us Q I r h
 ·obtain ⟨u,rfl,ru⟩:=vals1 r
  cases ru
  exact d_len I e fun t s' I'=>⟨.int (kvs.length:Nat),H,I',⟨_,rfl⟩,q⟩
theorem pairs_of {K:PySem.W.Frag} {H:Hp} {ι:Nat->Addr} {n:Nat}:∀ {ys:List LV} {xs:List V} {kvs:List (Key × LV)},RVs K H ι n xs ys->pairL ys = some kvs ->
  ∃ (ps:List Addr) (us:List (Key × V)),xs = ps.map V.ref∧Paired (fun p kv=>SqT K H p [kV kv.1,kv.2]) ps us∧RKV K H ι n us kvs
 | [],_,_,r,e=>by
  cases r
  cases e
  exact ⟨[],[],rfl,.nil,.nil⟩
 | y :: ys,_,kvs,r,e=>by
  cases r with
  | cons r1 r2 =>
   unfold pairL at e
   split at e
   ·rename_i e0
    cases e0
   ·rename_i k v ys' e0
    cases e0
    cases ek:keyOf k with
    | none=>rw [ek] at e; cases e
    | some k' =>
     cases ep:pairL ys with
     | none=>rw [ek,ep] at e; cases e
     | some kvs' =>
      rw [ek,ep] at e
      cases e
      obtain ⟨ps,us,rfl,h1,h2⟩:=pairs_of r2 ep
      obtain ⟨a,zs,rfl,ha,ra⟩:=r1.tupV
      cases ra with
      | cons q1 q2 =>
       cases q2 with
       | cons q2 q3 =>
        cases q3
        rw [keyOf_rel ek q1] at ha
        exact ⟨a :: ps,(k',_) :: us,rfl,.cons ha.1 h1,.cons q2 h2⟩
   ·cases e
theorem merge_rkv {K:PySem.W.Frag} {H:Hp} {ι:Nat->Addr} {n:Nat}:∀ {us:List (Key × V)} {kvs:List (Key × LV)} {as:List (Key × V)} {bs:List (Key × LV)},RKV K H ι n us kvs->RKV K H ι n as bs->RKV K H ι n (mergeK as us) (dmerge bs kvs)
 | _,_,_,_,.nil,q=>q
 | (k,v) :: us,(_,d) :: kvs,_,_,.cons r1 r2,q=>by
  show RKV K H ι n (mergeK (putK _ k v) us) (dmerge (dput _ k d) kvs)
  exact merge_rkv r2 (RKV.put r1 q)
theorem call_str_intB {X:Cx} (hn:X.base.NoDigits):CallR X (.type "str") (fun xs H Q=>∃ i,xs = [.int i]∧i.natAbs < digLim∧Q (.str (toString i)) H):=by
 intro pins s σ H xs us Q I r h
 obtain ⟨i,rfl,hz,q⟩:=h
 obtain ⟨u,rfl,t,rfl⟩:=vals1 r
 exact str_intB (hn.keeps I.bk) hz ⟨.str _,H,I.tok _,⟨_,rfl⟩,q⟩
def rBi (K:PySem.W.Frag):Bi->List V->Hp->VK->Prop
 | .len=>rLen K
 | .int=>fun xs H Q=>(∃ i,xs = [.int i]∧Q (.int i) H)∨∃ k,xs = [.bl k]∧Q (.int (if k then 1 else 0)) H
 | .str=>fun xs H Q=>∃ i,xs = [.int i]∧i.natAbs.log2 < 1920∧Q (.str (toString i)) H
 | .repr=>rReprR K
 | .strB=>fun xs H Q=>∃ i,xs = [.int i]∧i.natAbs < digLim∧Q (.str (toString i)) H
 | .reprB=>rReprR K
 | .dict=>fun xs H Q=>∃ (a:Addr) (ps:List Addr) (kvs:List (Key × V)),xs = [.ref a]∧SqL K H a (ps.map V.ref)∧Paired (fun p kv=>SqT K H p [kV kv.1,kv.2]) ps kvs∧∀ p,H p = none->Q (.ref p) (upd H p (.dK (mergeK [] kvs)))
 | .list=>fun xs H Q=>∃ p ys,xs = [.ref p]∧(SqL K H p ys∨SqT K H p ys)∧∀ l,H l = none->Q (.ref l) (upd H l (.lst ys))
 | .tuple=>fun xs H Q=>∃ p ys,xs = [.ref p]∧((SqL K H p ys∧NewT H ys Q)∨(SqT K H p ys∧Q (.ref p) H))
 | .abs=>fun xs H Q=>∃ i,xs = [.int i]∧Q (.int (if i < 0 then -i else i)) H
 | .max=>fun xs H Q=>∃ i j,xs = [.int i,.int j]∧Q (.int (if j > i then j else i)) H
 | .min=>fun xs H Q=>∃ i j,xs = [.int i,.int j]∧Q (.int (if j < i then j else i)) H
 | .sum=>rSum K
 | .all=>rAll K
 | .any=>rAny K
theorem rBi_ok {X:Cx} (G:Good X):∀ b:Bi,CallR X (biVal b) (rBi X.K b)
 | .len=>len_any
 | .int=>call_int1
 | .str=>call_str_int
 | .repr=>repr_dr G.dg G.hg G.hu
 | .strB=>call_str_intB G.dg
 | .reprB=>repr_dr G.dg G.hg G.hu
 | .dict=>call_dictP G.calm
 | .list=>call_list_of
 | .tuple=>call_tupleN
 | .abs=>call_abs
 | .max=>call_max2 G.calm
 | .min=>call_min2 G.calm
 | .sum=>cr_sum G.calm
 | .all=>cr_all G.calm
 | .any=>cr_any G.calm
theorem RVs.one {xs:List V} {d:LV} {n:Nat} (h:RVs K H ι n xs [d]):∃ x,xs = [x]∧RV K H ι n x d:=by
 cases h with
 | cons a b=>cases b; exact ⟨_,rfl,a⟩
theorem RVs.two {xs:List V} {d e:LV} {n:Nat} (h:RVs K H ι n xs [d,e]):∃ x y,xs = [x,y]∧RV K H ι n x d∧RV K H ι n y e:=by
 cases h with
 | cons a b =>
  obtain ⟨y,rfl,r⟩:=b.one
  exact ⟨_,y,rfl,a,r⟩
theorem bi_at {b:Bi} {ds:List LV} {xs:List V} (h:At K W (RVr K) σV σ ι L (biV b ds L) Q H) (rx:RVs K H ι L.length xs ds):rBi K b xs H Q:=by
 cases ds with
 | nil=>cases b <;> exact h.no.elim
 | cons d ds =>
  cases ds with
  | nil =>
   obtain ⟨x,ex,r1⟩:=rx.one
   subst ex
   clear rx
   have rx:=r1
   clear r1
   cases b with
   | len =>
    obtain ⟨n,e,h⟩:=At.look (g:=fun L=>lenV L d) h
    have e:lenV L d = some n:=e
    cases d with
    | str s =>
     dsimp only [lenV] at e
     split at e
     ·rename_i c
      cases e
      cases rx
      exact .inl ⟨.str s,_,rfl,⟨line_of c,rfl⟩,h.ret (.int _)⟩
     ·cases e
    | tup as =>
     cases e
     obtain ⟨a,xs,rfl,ha,ra⟩:=rx.tupV
     exact .inl ⟨.ref a,_,rfl,.inr ⟨xs,ha.1,ra.length.symm⟩,h.ret (.int _)⟩
    | ref a =>
     obtain rfl:=rx.refV
     dsimp only [lenV] at e
     cases e1:L[a]? with
     | none=>rw [e1] at e; cases e
     | some o =>
      rw [e1] at e
      have ro:=h.rep.ob a _ e1
      cases o with
      | lst ys =>
       cases e
       obtain ⟨zs,h1,r1⟩:=ro
       exact .inl ⟨.ref (ι a),_,rfl,.inl ⟨zs,.inl (.inl h1),r1.length.symm⟩,h.ret (.int _)⟩
      | frz ns =>
       cases e
       exact .inl ⟨.ref (ι a),_,rfl,.inl ⟨_,(show FrzAt K H (ι a) (ns.map V.int) from ro).seq,(List.length_map _).symm⟩,h.ret (.int _)⟩
      | dic kvs =>
       cases e
       obtain ⟨zs,h1,r1⟩:=ro
       refine .inr ⟨_,zs,rfl,.inl h1,?_⟩
       rw [r1.length]
       exact h.ret (.int _)
      | ins _ _=>cases e
      | dtp _=>cases e
      | cls _=>cases e
      | exn _ _=>cases e
      | dct _=>cases e
      | frd _=>cases e
      | frt _=>cases e
    | _=>cases e
   | int =>
    cases d with
    | int i=>cases rx; exact .inl ⟨_,rfl,h.ret (.int _)⟩
    | _=>exact h.no.elim
   | str =>
    cases d with
    | int i=>obtain ⟨c,h⟩:=h.chk; cases rx; exact ⟨_,rfl,of_decide_eq_true c,h.ret (.str _)⟩
    | _=>exact h.no.elim
   | repr =>
    obtain ⟨pd,e,h⟩:=At.look (g:=fun L=>toR L d) h
    obtain ⟨c,h⟩:=h.chk
    rw [Bool.and_eq_true,Bool.and_eq_true] at c
    exact ⟨x,pd,rfl,dr_of h.rep _ _ _ _ e rx,showB_of _ c.1.1,line_of c.1.2,of_decide_eq_true c.2,h.ret (.str _)⟩
   | reprB =>
    obtain ⟨pd,e,h⟩:=At.look (g:=fun L=>toR L d) h
    obtain ⟨c,h⟩:=h.chk
    rw [Bool.and_eq_true,Bool.and_eq_true] at c
    exact ⟨x,pd,rfl,dr_of h.rep _ _ _ _ e rx,c.1.1,line_of c.1.2,of_decide_eq_true c.2,h.ret (.str _)⟩
   | strB =>
    cases d with
    | int i=>obtain ⟨c,h⟩:=h.chk; cases rx; exact ⟨_,rfl,of_decide_eq_true c,h.ret (.str _)⟩
    | _=>exact h.no.elim
   | dict =>
    obtain ⟨kvs,e,h9⟩:=At.look (g:=fun L=>(itemsL L d).bind pairL) h
    cases d with
    | ref a =>
     obtain rfl:=rx.refV
     obtain ⟨ys,e1,e2⟩:=Option.bind_eq_some_iff.mp e
     obtain ⟨xs,hx,hr⟩:=h9.rep.listOf e1
     obtain ⟨ps,us,rfl,h1,h2⟩:=pairs_of hr e2
     refine ⟨_,ps,us,rfl,hx,h1,fun p hp=>?_⟩
     have q:RO K (upd H p (.dK (mergeK [] us))) (ext ι L.length p) (L.length + 1) p (.dic (dmerge [] kvs)):=⟨_,upd_same,(merge_rkv h2 .nil).mono (Ev.new hp)⟩
     exact h9.new hp q
    | _=>cases e
   | list =>
    obtain ⟨ys,e,h⟩:=At.look (g:=fun L=>Mv.items L d) h
    obtain ⟨a,xs,rfl,hs,hr⟩:=h.rep.seq rx e
    exact ⟨a,xs,rfl,hs,fun l hl=>h.new hl (lst_new hl hr)⟩
   | tuple =>
    obtain ⟨ys,e,h⟩:=At.look (g:=fun L=>Mv.items L d) h
    obtain ⟨a,xs,rfl,hs,hr⟩:=h.rep.seqN rx e
    refine ⟨a,xs,rfl,?_⟩
    rcases hs with hs | hs
    ·exact .inl ⟨hs,fun q hc hd l hl=>h.retF hl (tup_new hc hd hl hr)⟩
    ·exact .inr ⟨hs.1,h.ret (.tup hs hr)⟩
   | abs =>
    cases d with
    | int i=>cases rx; exact ⟨_,rfl,h.ret (.int _)⟩
    | _=>exact h.no.elim
   | sum =>
    obtain ⟨ns,e,h9⟩:=At.look (g:=fun L=>(itemsL L d).bind intL) h
    cases d with
    | ref a =>
     obtain rfl:=rx.refV
     obtain ⟨ys,e1,e2⟩:=Option.bind_eq_some_iff.mp e
     obtain ⟨xs,hx,hr⟩:=h9.rep.listOf e1
     rw [hr.toInts e2] at hx
     exact ⟨_,ns,rfl,hx,h9.ret (.int _)⟩
    | _=>cases e
   | all =>
    obtain ⟨ns,e,h9⟩:=At.look (g:=fun L=>(itemsL L d).bind blL) h
    cases d with
    | ref a =>
     obtain rfl:=rx.refV
     obtain ⟨ys,e1,e2⟩:=Option.bind_eq_some_iff.mp e
     obtain ⟨xs,hx,hr⟩:=h9.rep.listOf e1
     rw [hr.toBls e2] at hx
     exact ⟨_,ns,rfl,hx,h9.ret (.bl _)⟩
    | _=>cases e
   | any =>
    obtain ⟨ns,e,h9⟩:=At.look (g:=fun L=>(itemsL L d).bind blL) h
    cases d with
    | ref a =>
     obtain rfl:=rx.refV
     obtain ⟨ys,e1,e2⟩:=Option.bind_eq_some_iff.mp e
     obtain ⟨xs,hx,hr⟩:=h9.rep.listOf e1
     rw [hr.toBls e2] at hx
     exact ⟨_,ns,rfl,hx,h9.ret (.bl _)⟩
    | _=>cases e
   | max=>cases d <;> exact h.no.elim
   | min=>cases d <;> exact h.no.elim
  | cons e ds =>
   cases ds with
   | nil =>
    obtain ⟨x,y,ex,r1,ry⟩:=rx.two
    subst ex
    clear rx
    have rx:=r1
    clear r1
    cases b with
    | max =>
     cases d <;> cases e <;> first
      | exact h.no.elim
      | (cases rx; cases ry; exact ⟨_,_,rfl,h.ret (.int _)⟩)
    | min =>
     cases d <;> cases e <;> first
      | exact h.no.elim
      | (cases rx; cases ry; exact ⟨_,_,rfl,h.ret (.int _)⟩)
    | _=>cases d <;> exact h.no.elim
   | cons _ _=>cases b <;> first | exact h.no.elim | (cases d <;> first | exact h.no.elim | (cases e <;> exact h.no.elim))
end
end Mv
namespace Mv
open PySem PySem.Spec PyProof.Rows L2
inductive Tyx (K:PySem.W.Frag) (H:Hp):V->String->Prop where
 | non:Tyx K H .non "NoneType"
 | bl (b:Bool):Tyx K H (.bl b) "bool"
 | int (i:Int):Tyx K H (.int i) "int"
 | str (s:Str):Tyx K H (.str s) "str"
 | lst {a:Addr} {xs:List V}:SqL K H a xs->Tyx K H (.ref a) "list"
 | tup {a:Addr} {xs:List V}:SqT K H a xs->Tyx K H (.ref a) "tuple"
 | dic {a:Addr} {kvs:List (Key × V)}:H a = some (.dK kvs)->Tyx K H (.ref a) "dict"
def rIsi (K:PySem.W.Frag):List V->Hp->VK->Prop:=fun xs H Q=>∃ x T t b,xs = [x,.ty T]∧Tyx K H x t∧kitB t T = some b∧Q (.bl b) H
theorem isi_any {X:Cx}:CallR X (.builtin "isinstance") (rIsi X.K):=by
 intro pins s σ H xs us Q I r h
 obtain ⟨x,T,t,b,rfl,ty,e,q⟩:=h
 obtain ⟨u,c,rfl,ru,rc⟩:=vals2 r
 cases rc
 have e:=kit_ty (K:=X.K) e
 have fin:∀ tk,EP X pins σ Q (.bool b) { s with toks:=tk }:=fun tk=>⟨.bl b,H,I.tok tk,rfl,q⟩
 cases ty with
 | non=>cases ru; exact PySem.W.kia_one PySem.W.kitx_none I.kIn True.intro e (fun z=>nomatch z) fin
 | bl y=>cases ru; exact PySem.W.kia_one PySem.W.kitx_bool I.kIn True.intro e (fun z=>nomatch z) fin
 | int i=>obtain ⟨t,rfl⟩:=ru; exact PySem.W.kia_one PySem.W.kitx_int I.kIn True.intro e (fun z=>nomatch z) fin
 | str y=>obtain ⟨t,rfl⟩:=ru; exact PySem.W.kia_one PySem.W.kitx_str I.kIn True.intro e (fun z=>nomatch z) fin
 | lst hs =>
  cases ru
  obtain ⟨its,rv,⟨o,n,h1,h2,_,_⟩,_⟩:=I.list hs
  exact PySem.W.kia_one PySem.W.kitx_list I.kIn ⟨o,h1,h2⟩ e (fun z=>nomatch z) fin
 | tup hs =>
  cases ru
  obtain ⟨its,rv,⟨o,h1,h2,_⟩,_⟩:=I.tuple hs
  exact PySem.W.kia_one PySem.W.kitx_tuple I.kIn ⟨o,h1,h2⟩ e (fun z=>nomatch z) fin
 | dic hs =>
  cases ru
  obtain ⟨_,_,vs,_,o,es,ep,h1,h2,_⟩:=I.hok _ _ hs
  exact PySem.W.kia_one PySem.W.kitx_dict I.kIn ⟨o,h1,h2.1⟩ e (fun z=>nomatch z) fin
def tyName:Ty->String
 | .int=>"int"
 | .bool=>"bool"
 | .str=>"str"
 | .tuple=>"tuple"
 | .list=>"list"
 | .dict=>"dict"
theorem ty_boot:∀ t:Ty,bootBuiltins (Str.ofString (tyName t)) = some (.type (tyName t))
 | .int=>by decide +kernel
 | .bool=>by decide +kernel
 | .str=>by decide +kernel
 | .tuple=>by decide +kernel
 | .list=>by decide +kernel
 | .dict=>by decide +kernel
theorem kit_non:∀ t:Ty,kitB "NoneType" (tyName t) = some (decide (t∈([]:List Ty)))
 | .int=>by decide +kernel
 | .bool=>by decide +kernel
 | .str=>by decide +kernel
 | .tuple=>by decide +kernel
 | .list=>by decide +kernel
 | .dict=>by decide +kernel
theorem kit_bl:∀ t:Ty,kitB "bool" (tyName t) = some (decide (t∈([.bool,.int]:List Ty)))
 | .int=>by decide +kernel
 | .bool=>by decide +kernel
 | .str=>by decide +kernel
 | .tuple=>by decide +kernel
 | .list=>by decide +kernel
 | .dict=>by decide +kernel
theorem kit_int:∀ t:Ty,kitB "int" (tyName t) = some (decide (t∈([.int]:List Ty)))
 | .int=>by decide +kernel
 | .bool=>by decide +kernel
 | .str=>by decide +kernel
 | .tuple=>by decide +kernel
 | .list=>by decide +kernel
 | .dict=>by decide +kernel
theorem kit_str:∀ t:Ty,kitB "str" (tyName t) = some (decide (t∈([.str]:List Ty)))
 | .int=>by decide +kernel
 | .bool=>by decide +kernel
 | .str=>by decide +kernel
 | .tuple=>by decide +kernel
 | .list=>by decide +kernel
 | .dict=>by decide +kernel
theorem kit_tup:∀ t:Ty,kitB "tuple" (tyName t) = some (decide (t∈([.tuple]:List Ty)))
 | .int=>by decide +kernel
 | .bool=>by decide +kernel
 | .str=>by decide +kernel
 | .tuple=>by decide +kernel
 | .list=>by decide +kernel
 | .dict=>by decide +kernel
theorem kit_lst:∀ t:Ty,kitB "list" (tyName t) = some (decide (t∈([.list]:List Ty)))
 | .int=>by decide +kernel
 | .bool=>by decide +kernel
 | .str=>by decide +kernel
 | .tuple=>by decide +kernel
 | .list=>by decide +kernel
 | .dict=>by decide +kernel
theorem kit_dic:∀ t:Ty,kitB "dict" (tyName t) = some (decide (t∈([.dict]:List Ty)))
 | .int=>by decide +kernel
 | .bool=>by decide +kernel
 | .str=>by decide +kernel
 | .tuple=>by decide +kernel
 | .list=>by decide +kernel
 | .dict=>by decide +kernel
section
variable {K:PySem.W.Frag} {W:XW} {σV:L2.St} {σ:LSt} {ι:Nat->Addr} {L:LH} {H:Hp} {Q:VK}
theorem isi_at {d:LV} {x:V} {t:Ty} (h:At K W (RVr K) σV σ ι L (isiV d t L) Q H) (rx:RV K H ι L.length x d):rIsi K [x,.ty (tyName t)] H Q:=by
 cases d with
 | non =>
  cases rx
  obtain ⟨ts,e,h⟩:=At.look (g:=fun L=>tyOf L .non) h
  cases e
  exact ⟨_,_,_,_,rfl,.non,kit_non t,h.ret (.bl _)⟩
 | bl b =>
  cases rx
  obtain ⟨ts,e,h⟩:=At.look (g:=fun L=>tyOf L (.bl b)) h
  cases e
  exact ⟨_,_,_,_,rfl,.bl b,kit_bl t,h.ret (.bl _)⟩
 | int i =>
  cases rx
  obtain ⟨ts,e,h⟩:=At.look (g:=fun L=>tyOf L (.int i)) h
  cases e
  exact ⟨_,_,_,_,rfl,.int i,kit_int t,h.ret (.bl _)⟩
 | str s =>
  cases rx
  obtain ⟨ts,e,h⟩:=At.look (g:=fun L=>tyOf L (.str s)) h
  cases e
  exact ⟨_,_,_,_,rfl,.str s,kit_str t,h.ret (.bl _)⟩
 | tup ds =>
  obtain ⟨ts,e,h⟩:=At.look (g:=fun L=>tyOf L (.tup ds)) h
  cases e
  obtain ⟨a,xs,rfl,ha,ra⟩:=rx.tupV
  exact ⟨_,_,_,_,rfl,.tup ha.1,kit_tup t,h.ret (.bl _)⟩
 | ref k =>
  obtain ⟨ts,e,h⟩:=At.look (g:=fun L=>tyOf L (.ref k)) h
  obtain rfl:=rx.refV
  dsimp only [tyOf] at e
  cases e1:L[k]? with
  | none=>rw [e1] at e; cases e
  | some o =>
   rw [e1] at e
   have ro:=h.rep.ob k _ e1
   cases o with
   | lst ys =>
    cases e
    obtain ⟨zs,h1,r1⟩:=ro
    exact ⟨_,_,_,_,rfl,.lst (.inl (.inl h1)),kit_lst t,h.ret (.bl _)⟩
   | frz ns=>cases e
   | dic kvs =>
    cases e
    obtain ⟨zs,h1,r1⟩:=ro
    exact ⟨_,_,_,_,rfl,.dic h1,kit_dic t,h.ret (.bl _)⟩
   | ins _ _=>cases e
   | dtp _=>cases e
   | cls _=>cases e
   | exn _ _=>cases e
   | dct _=>cases e
   | frd _=>cases e
   | frt _=>cases e
def mtName:Mth->Str
 | .append=>"append"
 | .pop=>"pop"
 | .extend=>"extend"
 | .index=>"index"
 | .count=>"count"
def mtId:Mth->String
 | .append=>"list.append"
 | .pop=>"list.pop"
 | .extend=>"list.extend"
 | .index=>"list.index"
 | .count=>"list.count"
def rCount (K:PySem.W.Frag):V->List V->Hp->VK->Prop:=fun x xs H Q=>∃ (a:Addr) (ys:List V) (y:V),x = V.ref a∧xs = [y]∧SqL K H a ys∧flatV y = true∧ys.all flatV = true∧Q (.int ((ys.countP fun z=>L2.eqV z y:Nat):Int)) H
theorem countP_eqU {y:V}:∀ {ys:List V} {us:List Value},Vals ys us->ys.all flatV = true->us.countP (eqU y) = ys.countP fun z=>L2.eqV z y
 | _,_,.nil,_=>rfl
 | x :: xs,u :: us,.cons r t,f=>by
  rw [List.all_cons,Bool.and_eq_true] at f
  rw [List.countP_cons,List.countP_cons,eqU_of r f.1,countP_eqU t f.2]
theorem mt_count {X:Cx}:MtR X "list.count" (rCount X.K):=by
 intro pins s σ H x xs v us Q I rx rxs h
 obtain ⟨a,ys,y,rfl,rfl,hs,fy,fys,q⟩:=h
 cases rx
 cases rxs with
 | cons ry rt =>
  rename_i uy ut
  cases rt
  obtain ⟨its,rv,⟨⟨cls,dd,data,sl⟩,n,ho,hc,hdn,hd⟩,hlen⟩:=I.list hs
  simp only at hc hd
  subst hc hd
  refine call_meets PySem.F.slot_list_count ⟨_,ho,rfl⟩ PySem.F.entry_list_count (PySem.F.args_list_count_2 _ _)
   (SeqAt.list_countAt a its.toArray n dd sl uy (eqU y)) ⟨ho,fun u' hu'=>mem_eqAt ry fy rv fys u' (by simpa using hu'),?_⟩
  have e:its.toArray.toList.countP (eqU y) = ys.countP fun z=>L2.eqV z y:=countP_eqU rv fys
  rw [e]
  exact ⟨.int _,H,I.tok _,⟨_,rfl⟩,q⟩
def rMt (K:PySem.W.Frag):Mth->V->List V->Hp->VK->Prop
 | .append=>rAppend
 | .pop=>rPop
 | .extend=>rExtend
 | .index=>rIndex K
 | .count=>rCount K
theorem rMt_ok {X:Cx}:∀ m:Mth,MtR X (mtId m) (rMt X.K m)
 | .append=>mt_append
 | .pop=>mt_pop
 | .extend=>mt_extend
 | .index=>mt_index
 | .count=>mt_count
theorem count_rel {n:Nat} {x:V} {d:LV} (r:RV K H ι n x d) (hd:flat d = true):∀ {ds:List LV} {vs:List V},RVs K H ι n vs ds->ds.all flat = true->(vs.countP fun z=>L2.eqV z x) = ds.countP fun e=>flatEq e d
 | [],_,q,_=>by cases q; rfl
 | e :: ds,_,q,h=>by
  cases q with
  | cons q1 q2 =>
   rw [List.all_cons,Bool.and_eq_true] at h
   rw [List.countP_cons,List.countP_cons,flatEq_rel q1 r h.1 hd,count_rel r hd q2 h.2]
theorem mth_at {m:Mth} {d:LV} {x:V} {ds:List LV} {xs:List V} (h:At K W (RVr K) σV σ ι L (mthV m d ds L) Q H) (rx:RV K H ι L.length x d) (rs:RVs K H ι L.length xs ds) :
  tyV K "list" x H∧rMt K m x xs H Q:=by
 cases d with
 | ref a =>
  obtain rfl:=rx.refV
  have h:At K W (RVr K) σV σ ι L (mthR a m L[a]? ds L) Q H:=h
  generalize e1:L[a]? = o1 at h
  cases o1 with
  | none=>cases m <;> exact h.no.elim
  | some o1 =>
   cases o1 with
   | lst ys =>
    have ro:=h.rep.ob a _ e1
    obtain ⟨zs,h1,r1⟩:=ro
    refine ⟨.inl ⟨rfl,zs,.inl (.inl h1)⟩,?_⟩
    cases m with
    | append =>
     cases ds with
     | nil=>exact h.no.elim
     | cons d ds =>
      cases ds with
      | cons _ _=>exact h.no.elim
      | nil =>
       obtain ⟨c,h⟩:=At.chk h
       obtain ⟨y,ey,ry⟩:=rs.one
       subst ey
       refine ⟨_,zs,y,rfl,rfl,h1,by rw [r1.length]; exact of_decide_eq_true c,?_⟩
       refine (h.put (u:=.lst (zs ++ [y])) e1 rfl rfl ⟨_,upd_same,?_⟩).ret .non
       exact (r1.append (.cons ry .nil)).mono (Ev.set h1 trivial)
    | pop =>
     cases ds with
     | cons _ _=>exact h.no.elim
     | nil =>
      cases rs
      obtain ⟨d,e,h⟩:=At.ofO h
      obtain ⟨y,ey,ry⟩:=r1.get e
      refine ⟨_,zs,y,rfl,rfl,h1,by rw [r1.length]; exact ey,?_⟩
      have ev:Ev K ι H L.length ι (upd H (ι a) (.lst zs.dropLast)) L.length:=Ev.set h1 trivial
      refine (h.put (u:=.lst zs.dropLast) e1 rfl rfl ⟨_,upd_same,r1.dropLast.mono ev⟩).ret ?_
      rw [List.length_set]
      exact ry.mono ev
    | extend=>exact h.no.elim
    | count =>
     cases ds with
     | nil=>exact h.no.elim
     | cons d ds =>
      cases ds with
      | cons _ _=>exact h.no.elim
      | nil =>
       obtain ⟨c,h⟩:=At.chk h
       rw [Bool.and_eq_true] at c
       obtain ⟨y,ey,ry⟩:=rs.one
       subst ey
       refine ⟨_,zs,y,rfl,rfl,.inl (.inl h1),flat_rel ry c.1,flat_all r1 c.2,?_⟩
       rw [count_rel ry c.1 r1 c.2]
       exact h.ret (.int _)
    | index =>
     cases ds with
     | nil=>exact h.no.elim
     | cons d ds =>
      cases ds with
      | cons _ _=>exact h.no.elim
      | nil =>
       obtain ⟨c,h⟩:=At.chk h
       rw [Bool.and_eq_true] at c
       obtain ⟨y,ey,ry⟩:=rs.one
       subst ey
       obtain ⟨j,ej,h⟩:=At.ofO h
       obtain ⟨hj,hj2,hj3⟩:=List.findIdx?_eq_some_iff_getElem.mp ej
       obtain ⟨z,ez,rz⟩:=r1.get (List.getElem?_eq_getElem hj)
       have fl:∀ {k:Nat} (hk:k < ys.length),flat ys[k] = true:=fun hk=>List.all_eq_true.mp c.2 _ (List.getElem_mem hk)
       refine ⟨_,zs,y,j,z,rfl,rfl,.inl (.inl h1),flat_rel ry c.1,flat_all r1 c.2,ez,?_,fun m z' hm e=>?_,h.ret (.int _)⟩
       ·rw [flatEq_rel rz ry (fl hj) c.1]
        exact hj2
       ·have hm2:m < ys.length:=Nat.lt_trans hm hj
        obtain ⟨z2,e2,r2⟩:=r1.get (List.getElem?_eq_getElem hm2)
        rw [e] at e2
        cases e2
        rw [flatEq_rel r2 ry (fl hm2) c.1]
        simpa using hj3 m hm
   | frz _=>cases m <;> exact h.no.elim
   | dic _=>cases m <;> exact h.no.elim
   | ins _ _=>cases m <;> exact h.no.elim
   | dtp _=>cases m <;> exact h.no.elim
   | cls _=>cases m <;> exact h.no.elim
   | exn _ _=>cases m <;> exact h.no.elim
   | dct _=>cases m <;> exact h.no.elim
   | frd _=>cases m <;> exact h.no.elim
   | frt _=>cases m <;> exact h.no.elim
 | _=>exact h.no.elim
theorem lst_ty {d:LV} {x:V} (R:Rep K ι H L) (h:lstAt L d = some ()) (rx:RV K H ι L.length x d):tyV K "list" x H:=by
 cases d with
 | ref a =>
  obtain rfl:=rx.refV
  dsimp only [lstAt] at h
  cases e1:L[a]? with
  | none=>rw [e1] at h; cases h
  | some o =>
   rw [e1] at h
   cases o with
   | lst ys =>
    obtain ⟨zs,h1,r1⟩:=R.ob a _ e1
    exact .inl ⟨rfl,zs,.inl (.inl h1)⟩
   | _=>cases h
 | _=>cases h
def SrcR (K:PySem.W.Frag):Rl Src It:=fun H ι n J s=>∀ H' ι' L',Ev K ι H n ι' H' (List.length L')->Rep K ι' H' L' ->
 (∀ i d,s.at i L' = some d->J.go i H'∧∀ x H2,J.yld i H' x H2->Ev K ι' H' L'.length ι' H2 L'.length∧Rep K ι' H2 L'∧RV K H2 ι' L'.length x d)∧(s.fin L' = true->J.stop s.len H')
theorem srcR_tup {n:Nat} {a:Addr} {xs:List V} {ds:List LV} (hs:SqN K H a xs) (r:RVs K H ι n xs ds):SrcR K H ι n (Itt K a) (.fixed ds):=by
 intro H' ι' L' ev rp
 have hs':=(ev.tp _ _ hs).1
 have r':=r.mono ev
 refine ⟨fun i d e=>?_,fun _=>⟨xs,hs',Nat.le_of_eq r.length⟩⟩
 obtain ⟨v,hv,rv⟩:=r'.get e
 refine ⟨⟨xs,v,hs',hv⟩,fun x H2 y=>?_⟩
 obtain ⟨rfl,y⟩:=y
 have z:=y xs hs'
 rw [hv] at z
 cases z
 exact ⟨Ev.refl,rp,rv⟩
theorem srcR_live {k len:Nat} (hk:k < L.length):SrcR K H ι L.length (Itl K (ι k)) (.live k len):=by
 intro H' ι' L' ev rp
 have ek:ι' k = ι k:=ev.pl k hk
 refine ⟨fun i d e=>?_,fun e=>?_⟩
 ·have e:(itemsL L' (.ref k)).bind (fun xs=>xs[i]?) = some d:=e
  obtain ⟨ys,e1,e2⟩:=Option.bind_eq_some_iff.mp e
  obtain ⟨zs,h1,r1⟩:=rp.listOf e1
  rw [ek] at h1
  obtain ⟨v,hv,rv⟩:=r1.get e2
  refine ⟨⟨zs,v,h1,hv⟩,fun x H2 y=>?_⟩
  obtain ⟨rfl,y⟩:=y
  have z:=y zs h1
  rw [hv] at z
  cases z
  exact ⟨Ev.refl,rp,rv⟩
 ·dsimp only [Src.fin] at e
  cases e1:itemsL L' (.ref k) with
  | none=>rw [e1] at e; cases e
  | some ys =>
   rw [e1] at e
   obtain ⟨zs,h1,r1⟩:=rp.listOf e1
   rw [ek] at h1
   exact ⟨zs,h1,by rw [r1.length]; exact of_decide_eq_true e⟩
theorem srcR_str {n:Nat} (s:Str):SrcR K H ι n (Its s) (.fixed (s.cps.toList.map fun c=>.str ⟨#[c]⟩)):=by
 intro H' ι' L' ev rp
 refine ⟨fun i d e=>?_,fun _=>?_⟩
 ·have e:(s.cps.toList.map fun c=>LV.str ⟨#[c]⟩)[i]? = some d:=e
  rw [List.getElem?_map] at e
  obtain ⟨c,e1,e2⟩:=Option.map_eq_some_iff.mp e
  subst e2
  have e3:s.cps[i]? = some c:=by rw [<- e1]; simp
  have hi:i < s.cps.size:=(Array.getElem?_eq_some_iff.mp e3).1
  refine ⟨hi,fun x H2 y=>?_⟩
  obtain ⟨rfl,c',h1,rfl⟩:=y
  rw [e3] at h1
  cases h1
  exact ⟨Ev.refl,rp,.str _⟩
 ·show s.cps.size<=(s.cps.toList.map _).length
  rw [List.length_map,Array.length_toList]
  exact Nat.le_refl _
theorem srcR_rng {n:Nat} (lo:Int) (k:Nat):SrcR K H ι n (Itr lo k) (rngV lo k):=by
 intro H' ι' L' ev rp
 refine ⟨fun i d e=>?_,fun _=>?_⟩
 ·have e:((List.range k).map fun (j:Nat)=>LV.int (lo + (j:Int)))[i]? = some d:=e
  rw [List.getElem?_map] at e
  obtain ⟨j,e1,e2⟩:=Option.map_eq_some_iff.mp e
  subst e2
  have hi:=(List.getElem?_eq_some_iff.mp e1).1
  rw [List.length_range] at hi
  rw [List.getElem?_range hi] at e1
  cases e1
  refine ⟨hi,fun x H2 y=>?_⟩
  obtain ⟨rfl,rfl⟩:=y
  exact ⟨Ev.refl,rp,.int _⟩
 ·show k<=((List.range k).map _).length
  rw [List.length_map,List.length_range]
  exact Nat.le_refl _
end
end Mv
namespace Mv
open PySem PySem.Spec PyProof.Rows L2
abbrev tT (K:PySem.W.Frag) (W:XW) (m:LSt->M LV):TT:=fun σ H Q=>tI K W m σ H fun x H1=>∃ c,x = .bl c∧Q c H1
theorem PW.imp {X:Cx} {e:Expr} {t t':TT} (h:PW X e t) (q:∀ σ H Q,t' σ H Q->t σ H Q):PW X e t':=⟨fun wh pins s σ H Q I w=>h.run wh pins s σ H Q I (q σ H Q w)⟩
section
variable {K:PySem.W.Frag} {W:XW} {ma mb mc:LSt->M LV} {ms:LSt->M (List LV)}
theorem two {f:LV->LV->M LV} {r:R2} {σV:L2.St} {H:Hp} {Q:VK} (hr:∀ {σ:LSt} {ι:Nat->Addr} {L:LH} {H:Hp} {Q:VK} {d e:LV} {x y:V},At K W (RVr K) σV σ ι L (f d e L) Q H->RV K H ι L.length x d->RV K H ι L.length y e->r x y H Q)
  (h:tI K W (fun σ=>M.bind (ma σ) fun x=>M.bind (mb σ) fun y=>f x y) σV H Q):tOp r (tI K W ma) (tI K W mb) σV H Q:=by
 obtain ⟨ι,σ,L,h⟩:=h
 refine ⟨ι,σ,L,(h.bind (R:=RVr K)).imp fun x H1 ⟨d,ι1,L1,r1,ev,h⟩=>?_⟩
 refine ⟨ι1,σ,L1,(h.bind (R:=RVr K)).imp fun y H2 ⟨e,ι2,L2,r2,ev2,h⟩=>?_⟩
 exact hr h (r1.mono ev2) r2
theorem one {f:LV->M LV} {r:V->Hp->VK->Prop} {σV:L2.St} {H:Hp} {Q:VK} (hr:∀ {σ:LSt} {ι:Nat->Addr} {L:LH} {H:Hp} {Q:VK} {d:LV} {x:V},At K W (RVr K) σV σ ι L (f d L) Q H->RV K H ι L.length x d->r x H Q)
  (h:tI K W (fun σ=>M.bind (ma σ) f) σV H Q):tI K W ma σV H fun x H1=>r x H1 Q:=by
 obtain ⟨ι,σ,L,h⟩:=h
 exact ⟨ι,σ,L,(h.bind (R:=RVr K)).imp fun x H1 ⟨d,ι1,L1,r1,ev,h⟩=>hr h r1⟩
end
section
variable {X:Cx} {W:XW} {a b c:Expr} {ma mb mc:LSt->M LV} {pos:Pos}
theorem e_bin (op:BOp) (ha:PE X a (tI X.K W ma)) (hb:PE X b (tI X.K W mb)) :
  PE X (.BinOp a (opOf op) b pos) (tI X.K W fun σ=>M.bind (ma σ) fun x=>M.bind (mb σ) fun y=>binV op x y) :=
 PE.imp (pe_op (rB_ok op) ha hb) fun σ H Q h=>two (fun h r1 r2=>bin_at op h r1 r2) h
theorem e_neg (ha:PE X a (tI X.K W ma)):PE X (.UnaryOp .USub a pos) (tI X.K W fun σ=>M.bind (ma σ) fun x=>match x with
  | .int i=>M.ret (.int (-i))
  | _=>M.no) :=
 PE.imp (pe_un un_neg ha) fun σ H Q h=>one (r:=rU fun i=>.int (-i)) (fun {σ ι L H Q d x} h r=>by
  cases d with
  | int i=>cases r; exact ⟨_,rfl,h.ret (.int _)⟩
  | _=>exact h.no.elim) h
theorem e_cmp (G:GoodH X) (op:COp) (ha:PE X a (tI X.K W ma)) (hb:PE X b (tI X.K W mb)) (hm:behindInMarks (copOf op) b = false) :
  PE X (.Compare a [copOf op] [b] pos) (tI X.K W fun σ=>M.bind (ma σ) fun x=>M.bind (mb σ) fun y=>cmpV op x y) :=
 PE.imp (pe_cmpR (rC_ok G op) ha hb hm) fun σ H Q h=>two (fun h r1 r2=>cmp_at op h r1 r2) h
theorem t_cmp (G:GoodH X) (op:COp) (ha:PE X a (tI X.K W ma)) (hb:PE X b (tI X.K W mb)) (hm:behindInMarks (copOf op) b = false) :
  PT X (.Compare a [copOf op] [b] pos) (tT X.K W fun σ=>M.bind (ma σ) fun x=>M.bind (mb σ) fun y=>cmpV op x y) :=
 PT.imp (pt_cmpR (rC_ok G op) ha hb hm) fun σ H Q h=>two (fun h r1 r2=>cmp_at op h r1 r2) h
def chain (op op':COp) (ma mb mc:LSt->M LV):LSt->M LV:=fun σ=>M.bind (ma σ) fun x=>M.bind (mb σ) fun y=>M.bind (cmpV op x y) fun r=>match r with
  | .bl true=>M.bind (mc σ) fun z=>cmpV op' y z
  | .bl false=>M.ret (.bl false)
  | _=>M.no
theorem chain_at {K:PySem.W.Frag} {op op':COp} {σV:L2.St} {H:Hp} {Q:VK} (h:tI K W (chain op op' ma mb mc) σV H Q):tChain (rC K op) (rC K op') (tI K W ma) (tI K W mb) (tI K W mc) σV H Q:=by
 obtain ⟨ι,σ,L,h⟩:=h
 refine ⟨ι,σ,L,(h.bind (R:=RVr K)).imp fun x H1 ⟨d,ι1,L1,r1,ev,h⟩=>?_⟩
 refine ⟨ι1,σ,L1,(h.bind (R:=RVr K)).imp fun y H2 ⟨e,ι2,L2,r2,ev2,h⟩=>?_⟩
 have r1':=r1.mono ev2
 refine cmp_at op ((h.bind (R:=RVr K)).imp fun z H3 ⟨f,ι3,L3,r3,ev3,h⟩=>?_) r1' r2
 cases f with
 | bl k =>
  cases r3
  refine ⟨k,rfl,?_⟩
  cases k with
  | false=>rw [if_neg Bool.false_ne_true]; exact h.ret (.bl _)
  | true =>
   rw [if_pos rfl]
   refine ⟨ι3,σ,L3,(h.bind (R:=RVr K)).imp fun w H4 ⟨g,ι4,L4,r4,ev4,h⟩=>?_⟩
   exact cmp_at op' h ((r2.mono ev3).mono ev4) r4
 | _=>exact h.no.elim
theorem e_chain (G:GoodH X) (op op':COp) (ha:PE X a (tI X.K W ma)) (hb:PE X b (tI X.K W mb)) (hc:PE X c (tI X.K W mc)) (hm:lastMarks [copOf op,copOf op'] [b,c] = false) :
  PE X (.Compare a [copOf op,copOf op'] [b,c] pos) (tI X.K W (chain op op' ma mb mc)) :=
 PE.imp (pe_chain (rC_ok G op) (rC_ok G op') ha hb hc hm) fun σ H Q h=>chain_at h
def andM (ma mb:LSt->M LV):LSt->M LV:=fun σ=>M.bind (ma σ) fun x=>match x with
  | .bl true=>mb σ
  | .bl false=>M.ret (.bl false)
  | _=>M.no
def orM (ma mb:LSt->M LV):LSt->M LV:=fun σ=>M.bind (ma σ) fun x=>match x with
  | .bl true=>M.ret (.bl true)
  | .bl false=>mb σ
  | _=>M.no
def notM (ma:LSt->M LV):LSt->M LV:=fun σ=>M.bind (ma σ) fun x=>match x with
  | .bl b=>M.ret (.bl (!b))
  | _=>M.no
variable {rest:List Expr}
theorem and_at {K:PySem.W.Frag} {σV:L2.St} {H:Hp} {Q:VK} (h:tI K W (andM ma mb) σV H Q):tI K W ma σV H fun x H1=>∃ c,x = .bl c∧if c = true then tI K W mb σV H1 Q else Q (.bl false) H1:=by
 obtain ⟨ι,σ,L,h⟩:=h
 refine ⟨ι,σ,L,(h.bind (R:=RVr K)).imp fun x H1 ⟨d,ι1,L1,r1,ev,h⟩=>?_⟩
 cases d with
 | bl k =>
  cases r1
  refine ⟨k,rfl,?_⟩
  cases k with
  | false=>rw [if_neg Bool.false_ne_true]; exact h.ret (.bl _)
  | true=>rw [if_pos rfl]; exact ⟨ι1,σ,L1,h⟩
 | _=>exact h.no.elim
theorem or_at {K:PySem.W.Frag} {σV:L2.St} {H:Hp} {Q:VK} (h:tI K W (orM ma mb) σV H Q):tI K W ma σV H fun x H1=>∃ c,x = .bl c∧if c = true then Q (.bl true) H1 else tI K W mb σV H1 Q:=by
 obtain ⟨ι,σ,L,h⟩:=h
 refine ⟨ι,σ,L,(h.bind (R:=RVr K)).imp fun x H1 ⟨d,ι1,L1,r1,ev,h⟩=>?_⟩
 cases d with
 | bl k =>
  cases r1
  refine ⟨k,rfl,?_⟩
  cases k with
  | true=>rw [if_pos rfl]; exact h.ret (.bl _)
  | false=>rw [if_neg Bool.false_ne_true]; exact ⟨ι1,σ,L1,h⟩
 | _=>exact h.no.elim
theorem not_at {K:PySem.W.Frag} {σV:L2.St} {H:Hp} {Q:VK} (h:tI K W (notM ma) σV H Q):tI K W ma σV H fun x H1=>∃ c,x = .bl c∧Q (.bl (!c)) H1:=by
 obtain ⟨ι,σ,L,h⟩:=h
 refine ⟨ι,σ,L,(h.bind (R:=RVr K)).imp fun x H1 ⟨d,ι1,L1,r1,ev,h⟩=>?_⟩
 cases d with
 | bl k=>cases r1; exact ⟨k,rfl,h.ret (.bl _)⟩
 | _=>exact h.no.elim
theorem e_and (ha:PE X a (tI X.K W ma)) (hb:PE X (.BoolOp .And (b :: rest) pos) (tI X.K W mb)):PE X (.BoolOp .And (a :: b :: rest) pos) (tI X.K W (andM ma mb)) :=
 PE.imp (pe_and ha hb) fun σ H Q h=>and_at h
theorem tI_imp {K:PySem.W.Frag} {m:LSt->M LV} {σV:L2.St} {H:Hp} {Q Q':VK} (h:tI K W m σV H Q) (q:∀ v H',Q v H'->Q' v H'):tI K W m σV H Q' :=
 let ⟨ι,σ,L,h⟩:=h
 ⟨ι,σ,L,h.imp q⟩
theorem w_and (ha:PT X a (tT X.K W ma)) (hb:PW X (.BoolOp .And (b :: rest) pos) (tT X.K W mb)):PW X (.BoolOp .And (a :: b :: rest) pos) (tT X.K W (andM ma mb)) :=
 PW.imp (pw_and ha hb) fun σ H Q h=>tI_imp (and_at h) fun x H1 ⟨c,e,z⟩=>⟨c,e,by
  cases c with
  | true=>rw [if_pos rfl] at z ⊢; exact z
  | false =>
   rw [if_neg Bool.false_ne_true] at z ⊢
   obtain ⟨c',e',z⟩:=z
   cases e'
   exact z⟩
theorem w_or (ha:PT X a (tT X.K W ma)) (hb:PW X (.BoolOp .Or (b :: rest) pos) (tT X.K W mb)):PW X (.BoolOp .Or (a :: b :: rest) pos) (tT X.K W (orM ma mb)) :=
 PW.imp (pw_or ha hb) fun σ H Q h=>tI_imp (or_at h) fun x H1 ⟨c,e,z⟩=>⟨c,e,by
  cases c with
  | false=>rw [if_neg Bool.false_ne_true] at z ⊢; exact z
  | true =>
   rw [if_pos rfl] at z ⊢
   obtain ⟨c',e',z⟩:=z
   cases e'
   exact z⟩
theorem e_not (ha:PE X a (tI X.K W ma)):PE X (.UnaryOp .Not a pos) (tI X.K W (notM ma)):=PE.imp (pe_not ha) fun σ H Q h=>not_at h
theorem t_not (ha:PT X a (tT X.K W ma)):PT X (.UnaryOp .Not a pos) (tT X.K W (notM ma)) :=
 PT.imp (pt_not ha) fun σ H Q h=>tI_imp (not_at h) fun x H1 ⟨c,e,z⟩=>⟨c,e,by
  obtain ⟨c',e',z⟩:=z
  cases e'
  exact z⟩
theorem e_var {i:Nat} {x:Str} (hN:X.N[i]? = some x) (hv:Vis X.env.scope x) (hd:(x == ("__debug__":Str)) = false) (hcd:(x == ("__classdict__":Str)) = false):PE X (.Name x pos) (tI X.K W fun σ=>getV σ i) :=
 PE.imp (pe_var hN hv hd hcd) fun σV H Q h=>by
  obtain ⟨ι,σ,L,h⟩:=h
  have h:At X.K W (RVr X.K) σV σ ι L (getR σ[i]? L) Q H:=h
  generalize e:σ[i]? = o at h
  cases o with
  | none=>exact h.no.elim
  | some o =>
   cases o with
   | none=>exact h.no.elim
   | some d =>
    obtain ⟨v,e1,r⟩:=h.rs.at_ i d e
    exact ⟨v,e1,h.ret r⟩
theorem e_int {i:Int} {j:Nat}:PE X (.Constant (.int i) j pos) (tI X.K W fun _=>M.ret (.int i)):=PE.imp pe_int fun σV H Q ⟨ι,σ,L,h⟩=>h.ret (.int i)
theorem e_str {s:Str} {j:Nat}:PE X (.Constant (.str s) j pos) (tI X.K W fun _=>M.ret (.str s)):=PE.imp pe_str fun σV H Q ⟨ι,σ,L,h⟩=>h.ret (.str s)
theorem e_bl {b:Bool} {j:Nat}:PE X (.Constant (.bool b) j pos) (tI X.K W fun _=>M.ret (.bl b)):=PE.imp pe_bl fun σV H Q ⟨ι,σ,L,h⟩=>h.ret (.bl b)
theorem e_non {j:Nat}:PE X (.Constant .none j pos) (tI X.K W fun _=>M.ret .non):=PE.imp pe_non fun σV H Q ⟨ι,σ,L,h⟩=>h.ret .non
def RelC:LV->Value->Prop
 | .non,u=>u = Value.none
 | .bl b,u=>u = Value.bool b
 | .int i,u=>∃ t,u = Value.int i t
 | .str s,u=>∃ t,u = Value.str s t
 | _,_=>False
theorem e_glo {x:Str} {v:LV} {u:Value} (hg:Gl X x) (hm:X.mg x = some u) (r:RelC v u) (hd:(x == ("__debug__":Str)) = false):PE X (.Name x pos) (tI X.K W fun _=>M.ret v):=by
 cases v with
 | non=>exact PE.imp (pe_glob (v:=.non) hg hm r hd) fun σV H Q ⟨ι,σ,L,h⟩=>h.ret .non
 | bl b=>exact PE.imp (pe_glob (v:=.bl b) hg hm r hd) fun σV H Q ⟨ι,σ,L,h⟩=>h.ret (.bl b)
 | int b=>exact PE.imp (pe_glob (v:=.int b) hg hm r hd) fun σV H Q ⟨ι,σ,L,h⟩=>h.ret (.int b)
 | str b=>exact PE.imp (pe_glob (v:=.str b) hg hm r hd) fun σV H Q ⟨ι,σ,L,h⟩=>h.ret (.str b)
 | tup _=>exact False.elim r
 | ref _=>exact False.elim r
variable {ms:LSt->M (List LV)} {es:List Expr}
theorem a_nil:PA X [] (tIs X.K W fun _=>M.ret []):=PA.imp pa_nil fun σV H Q ⟨ι,σ,L,h⟩=>h.ret .nil
def consM (ma:LSt->M LV) (ms:LSt->M (List LV)):LSt->M (List LV):=fun σ=>M.bind (ma σ) fun x=>M.bind (ms σ) fun xs=>M.ret (x :: xs)
theorem a_cons (ha:PE X a (tI X.K W ma)) (hs:PA X es (tIs X.K W ms)) (he:starEach (a :: es) X.env = (false,eval a X.env) :: starEach es X.env):PA X (a :: es) (tIs X.K W (consM ma ms)) :=
 PA.imp (pa_cons ha hs he) fun σV H Q h=>by
  obtain ⟨ι,σ,L,h⟩:=h
  refine ⟨ι,σ,L,(h.bind (R:=RVr X.K)).imp fun x H1 ⟨d,ι1,L1,r1,ev,h⟩=>?_⟩
  refine ⟨ι1,σ,L1,(h.bind (R:=RVsr X.K)).imp fun xs H2 ⟨ds,ι2,L2,r2,ev2,h⟩=>?_⟩
  exact h.ret (.cons (r1.mono ev2) r2)
theorem e_tup {k:Nat} (hs:PA X es (tIs X.K W ms)):PE X (.Tuple es k pos) (tI X.K W fun σ=>M.bind (ms σ) fun xs=>M.chk (small xs.length) (M.ret (.tup xs))) :=
 PE.imp (pe_tupN hs) fun σV H Q h=>by
  obtain ⟨ι,σ,L,h⟩:=h
  refine ⟨ι,σ,L,(h.bind (R:=RVsr X.K)).imp fun xs H1 ⟨ds,ι1,L1,r1,ev,h⟩=>?_⟩
  obtain ⟨c,h⟩:=h.chk
  exact ⟨by rw [r1.length]; exact line_of c,fun q hc hd p hp=>h.retF hp (tup_new hc hd hp r1)⟩
theorem e_lst (hs:PA X es (tIs X.K W ms)):PE X (.List es pos) (tI X.K W fun σ=>M.bind (ms σ) fun xs=>M.chk (small xs.length) (new (.lst xs))) :=
 PE.imp (pe_lst hs) fun σV H Q h=>by
  obtain ⟨ι,σ,L,h⟩:=h
  refine ⟨ι,σ,L,(h.bind (R:=RVsr X.K)).imp fun xs H1 ⟨ds,ι1,L1,r1,ev,h⟩=>?_⟩
  obtain ⟨c,h⟩:=h.chk
  exact ⟨by rw [r1.length]; exact line_of c,fun p hp=>h.new hp (lst_new hp r1)⟩
theorem e_ix (G:GoodH X) (ha:PE X a (tI X.K W ma)) (hb:PE X b (tI X.K W mb)) (hs:PlainIx b) :
  PE X (.Subscript a b pos) (tI X.K W fun σ=>M.bind (ma σ) fun x=>M.bind (mb σ) fun y=>ixV x y) :=
 PE.imp (pe_ix (ix_any G) ha hb hs) fun σ H Q h=>two (fun h r1 r2=>ix_at h r1 r2) h
variable {lo hi:Option Expr} {ml mh:LSt->M (Option Int)} {p2:Pos}
theorem o_none:PO X none (tIO X.K W fun _=>M.ret none):=PO.imp po_none fun σV H Q ⟨ι,σ,L,h⟩=>h.ret rfl
def partM (ma:LSt->M LV):LSt->M (Option Int):=fun σ=>M.bind (ma σ) fun x=>match x with
  | .int i=>M.ret (some i)
  | _=>M.no
theorem o_some (ha:PE X a (tI X.K W ma)):PO X (some a) (tIO X.K W (partM ma)) :=
 PO.imp (po_some ha) fun σV H Q h=>by
  obtain ⟨ι,σ,L,h⟩:=h
  refine ⟨ι,σ,L,(h.bind (R:=RVr X.K)).imp fun x H1 ⟨d,ι1,L1,r1,ev,h⟩=>?_⟩
  cases d with
  | int i=>cases r1; exact ⟨i,rfl,h.ret rfl⟩
  | _=>exact h.no.elim
theorem e_slc (ha:PE X a (tI X.K W ma)) (hl:PO X lo (tIO X.K W ml)) (hh:PO X hi (tIO X.K W mh)) :
  PE X (.Subscript a (.Slice lo hi none p2) pos) (tI X.K W fun σ=>M.bind (ma σ) fun x=>M.bind (ml σ) fun l=>M.bind (mh σ) fun h=>slV x l h) :=
 PE.imp (pe_slice rSl_ok ha hl hh) fun σV H Q h=>by
  obtain ⟨ι,σ,L,h⟩:=h
  refine ⟨ι,σ,L,(h.bind (R:=RVr X.K)).imp fun x H1 ⟨d,ι1,L1,r1,ev,h⟩=>?_⟩
  refine ⟨ι1,σ,L1,(h.bind (R:=Eqr)).imp fun l H2 ⟨l',ι2,L2,r2,ev2,h⟩=>?_⟩
  refine ⟨ι2,σ,L2,(h.bind (R:=Eqr)).imp fun l3 H3 ⟨h',ι3,L3,r3,ev3,h⟩=>?_⟩
  cases r2
  cases r3
  exact sl_at h ((r1.mono ev2).mono ev3)
theorem e_rev {k:Nat} {p1 p2 p3:Pos} (ha:PE X a (tI X.K W ma)):PE X (.Subscript a (.Slice none none (some (.UnaryOp .USub (.Constant (.int 1) k p1) p2)) p3) pos) (tI X.K W fun σ=>M.bind (ma σ) revV) :=
 PE.imp (pe_back ha) fun σ H Q h=>one (r:=rRev X.K) (fun h r=>rev_at h r) h
theorem isTy_bi:∀ b:Bi,(∃ id,biVal b = .builtin id)∨∃ T,biVal b = .type T
 | .len | .repr | .reprB | .abs | .max | .min | .sum | .all | .any=>.inl ⟨_,rfl⟩
 | .int | .str | .strB | .list | .tuple | .dict=>.inr ⟨_,rfl⟩
theorem bi_name:∀ b:Bi,biName b≠"__name__"∧(biName b == ("__debug__":Str)) = false
 | .len | .repr | .reprB | .abs | .max | .min | .sum | .all | .any | .int | .str | .strB | .list | .tuple | .dict=>by decide +kernel
theorem e_bi {p:Pos} (G:Good X) (bi:Bi) (hg:Gl X (biName bi)) (hm:X.mg (biName bi) = none) (hs:PA X (a :: es) (tIs X.K W ms)) (he:starEach (a :: es) X.env = (false,eval a X.env) :: starEach es X.env) (hpl:(backTo pos (starEach es X.env)).any (·.1) = false) :
  PE X (.Call (.Name (biName bi) p) (a :: es) [] pos) (tI X.K W fun σ=>M.bind (ms σ) fun xs=>biV bi xs):=by
 have go:∀ σV H Q,tI X.K W (fun σ=>M.bind (ms σ) fun xs=>biV bi xs) σV H Q->tCB (rBi X.K bi) (tIs X.K W ms) σV H Q:=fun σV H Q h=>by
  obtain ⟨ι,σ,L,h⟩:=h
  exact ⟨ι,σ,L,(h.bind (R:=RVsr X.K)).imp fun xs H1 ⟨ds,ι1,L1,r1,ev,h⟩=>bi_at h r1⟩
 have ok:=rBi_ok G bi
 have hv:=bi_boot bi
 obtain ⟨n1,n2⟩:=bi_name bi
 rcases isTy_bi bi with ⟨id,e⟩ | ⟨T,e⟩
 ·rw [e] at ok hv
  exact PE.imp (pe_callB ok hg hm hv hs n1 n2 he hpl) go
 ·rw [e] at ok hv
  exact PE.imp (pe_callTy ok hg hm hv hs n1 n2 he hpl) go
theorem ty_name:∀ t:Ty,Str.ofString (tyName t)≠"__name__"∧(Str.ofString (tyName t) == ("__debug__":Str)) = false
 | .int | .bool | .str | .tuple | .list | .dict=>by decide +kernel
theorem boot_isi:bootBuiltins "isinstance" = some (.builtin "isinstance"):=by decide +kernel
theorem e_isi {p p':Pos} (t:Ty) (hg:Gl X "isinstance") (hm:X.mg "isinstance" = none) (hg':Gl X (Str.ofString (tyName t))) (hm':X.mg (Str.ofString (tyName t)) = none) (ha:PE X a (tI X.K W ma))
  (he:starEach [a,.Name (Str.ofString (tyName t)) p'] X.env = (false,eval a X.env) :: starEach [.Name (Str.ofString (tyName t)) p'] X.env) :
  PE X (.Call (.Name "isinstance" p) [a,.Name (Str.ofString (tyName t)) p'] [] pos) (tI X.K W fun σ=>M.bind (ma σ) fun x=>isiV x t):=by
 obtain ⟨n1,n2⟩:=ty_name t
 have hT:PE X (.Name (Str.ofString (tyName t)) p') (tC (.ty (tyName t))):=pe_bltn (v:=.ty (tyName t)) hg' hm' (ty_boot t) rfl n1 n2
 refine PE.imp (pe_callB isi_any hg hm boot_isi (pa_cons ha (pa_cons hT pa_nil) he) (by decide) (by decide) he rfl) fun σV H Q h=>?_
 obtain ⟨ι,σ,L,h⟩:=h
 exact ⟨ι,σ,L,(h.bind (R:=RVr X.K)).imp fun x H1 ⟨d,ι1,L1,r1,ev,h⟩=>isi_at h r1⟩
theorem slot_mt:∀ m:Mth,PySem.Slot "list" (mtName m) (mtId m)∧typeOf (.builtin (mtId m)) = pure (.type "method_descriptor")
 | .append=>⟨PySem.F.slot_list_append,PySem.F.type_list_append⟩
 | .pop=>⟨PySem.F.slot_list_pop,PySem.F.type_list_pop⟩
 | .extend=>⟨PySem.F.slot_list_extend,PySem.F.type_list_extend⟩
 | .index=>⟨PySem.F.slot_list_index,PySem.F.type_list_index⟩
 | .count=>⟨PySem.F.slot_list_count,PySem.F.type_list_count⟩
def mthM (m:Mth) (mo:LSt->M LV) (ms:LSt->M (List LV)):LSt->M LV:=fun σ=>M.bind (mo σ) fun x=>M.look (fun L=>lstAt L x) fun _=>M.bind (ms σ) fun xs=>mthV m x xs
theorem e_mth {o:Expr} {mo:LSt->M LV} {apos cpos:Pos} (m:Mth) (ho:PE X o (tI X.K W mo)) (hs:PA X (a :: es) (tIs X.K W ms)) (hbase:attributeBase o (mtName m) X.env (eval o X.env) = eval o X.env)
  (hfew:((backTo cpos (starEach (a :: es) X.env)).all (fun x=>!x.1) && (backToKw cpos (keywordEach [] X.env)).all (fun x=>x.1.isSome)
   && decide ((a :: es).length + ([]:List Keyword).length + (if ([]:List Keyword).isEmpty then 0 else 1) < 30)) = true)
  (hline:(apos.endLine == cpos.line) = true) (he:starEach (a :: es) X.env = (false,eval a X.env) :: starEach es X.env) (hpl:(backTo cpos (starEach es X.env)).any (·.1) = false) :
  PE X (.Call (.Attribute o (mtName m) apos) (a :: es) [] cpos) (tI X.K W (mthM m mo ms)):=by
 obtain ⟨s1,s2⟩:=slot_mt m
 refine PE.imp (pe_bm PySem.F.plainAttrs_list s1 s2 (rMt_ok m) ho hs hbase hfew hline he hpl) fun σV H Q h=>?_
 obtain ⟨ι,σ,L,h⟩:=h
 refine ⟨ι,σ,L,(h.bind (R:=RVr X.K)).imp fun x H1 ⟨d,ι1,L1,r1,ev,h⟩=>?_⟩
 obtain ⟨u,e,h⟩:=At.look (g:=fun L=>lstAt L d) h
 exact ⟨lst_ty h.rep e r1,ι1,σ,L1,(h.bind (R:=RVsr X.K)).imp fun xs H2 ⟨ds,ι2,L2,r2,ev2,h⟩=>(mth_at h (r1.mono ev2) r2).2⟩
theorem e_mth0 {o:Expr} {mo:LSt->M LV} {apos cpos:Pos} (m:Mth) (ho:PE X o (tI X.K W mo)) (hbase:attributeBase o (mtName m) X.env (eval o X.env) = eval o X.env) (hline:(apos.endLine == cpos.line) = true) :
  PE X (.Call (.Attribute o (mtName m) apos) [] [] cpos) (tI X.K W (mthM m mo fun _=>M.ret [])):=by
 obtain ⟨s1,s2⟩:=slot_mt m
 refine PE.imp (pe_bm0 PySem.F.plainAttrs_list s1 s2 (rMt_ok m) ho hbase hline) fun σV H Q h=>?_
 obtain ⟨ι,σ,L,h⟩:=h
 refine ⟨ι,σ,L,(h.bind (R:=RVr X.K)).imp fun x H1 ⟨d,ι1,L1,r1,ev,h⟩=>?_⟩
 obtain ⟨u,e,h⟩:=At.look (g:=fun L=>lstAt L d) h
 exact mth_at h r1 .nil
end
end Mv
namespace Mv
open PySem PySem.Spec PyProof.Rows L2
section
variable {X:Cx} {W:XW} {a b c:Expr} {ma mb mc:LSt->M LV} {pos p p2 q:Pos}
theorem e_lset (G:Good X) (hg:Gl X "len") (hm:X.mg "len" = none) (hg2:Gl X "set") (hm2:X.mg "set" = none) (ha:PE X a (tI X.K W ma)) (na:starEach [a] X.env = (false,eval a X.env) :: starEach [] X.env) :
  PE X (.Call (.Name "len" p) [.Call (.Name "set" p2) [a] [] q] [] pos) (tI X.K W fun σ=>M.bind (ma σ) lsetV) :=
 PE.imp (pe_lenSet' hg hm hg2 hm2 ha G.calm na) fun σV H Q h=>by
  obtain ⟨ι,σ,L,h⟩:=h
  refine ⟨ι,σ,L,(h.bind (R:=RVr X.K)).imp fun x H1 ⟨d,ι1,L1,r1,ev,h⟩=>?_⟩
  obtain ⟨ns,e,h⟩:=At.look (g:=fun L=>(Mv.items L d).bind intL) h
  obtain ⟨c,h⟩:=At.chk h
  obtain ⟨ys,e1,e2⟩:=Option.bind_eq_some_iff.mp e
  obtain ⟨l,xs,rfl,hs,hr⟩:=h.rep.seq r1 e1
  rw [hr.toInts e2] at hs
  exact ⟨l,ns,rfl,hs,of_decide_eq_true c,h.ret (.int _)⟩
theorem rg_rel {K:PySem.W.Frag} {H:Hp} {ι:Nat->Addr} {n:Nat} (a b:Int):RVs K H ι n (rgV a b) ((List.range (b - a).toNat).map fun (i:Nat)=>LV.int (a + (i:Int))):=by
 unfold rgV
 generalize List.range (b - a).toNat = l
 induction l with
 | nil=>exact .nil
 | cons x l ih=>exact .cons (.int _) ih
theorem rgl_at {K:PySem.W.Frag} {σV:L2.St} {σ:LSt} {ι:Nat->Addr} {L:LH} {H:Hp} {Q:VK} {t:Bool} {i j:Int} (h:At K W (RVr K) σV σ ι L (rglV t i j L) Q H) :
  RgOk i j∧(t = true->NewT H (rgV i j) Q)∧(t = false->∀ q,H q = none->Q (.ref q) (upd H q (.lst (rgV i j)))):=by
 obtain ⟨c,h⟩:=At.chk h
 have c':=of_decide_eq_true c
 refine ⟨⟨c'.1,c'.2.1,c'.2.2.1,c'.2.2.2.1,c'.2.2.2.2⟩,fun e q hc hd p hq=>?_,fun e q hq=>?_⟩
 ·subst e
  rw [if_pos rfl] at h
  exact h.retF hq (tup_new hc hd hq (rg_rel i j))
 ·subst e
  rw [if_neg Bool.false_ne_true] at h
  exact h.new hq (lst_new hq (rg_rel i j))
def tTupRgN (te:L2.St->Hp->(Int->Int->Hp->Prop)->Prop):TE:=fun σ H Q=>te σ H fun a b H1=>RgOk a b∧NewT H1 (rgV a b) Q
theorem pe_tupRgN {X:Cx} {e:Expr} {te:L2.St->Hp->(Int->Int->Hp->Prop)->Prop} {p pos:Pos} (hc:X.calm = true) (hg:Gl X "tuple") (hm:X.mg "tuple" = none) (he:PRg X e te) (na:starEach [e] X.env = (false,eval e X.env) :: starEach [] X.env:=by rfl):PE X (.Call (.Name "tuple" p) [e] [] pos) (tTupRgN te):=by
 refine ⟨fun pins s σ H Q I h=>?_⟩
 refine Call_ (ld_blt I hg hm boot_tuple (PyProof.Rows.callWith_type1 (args_cons (thn (he pins s σ H _ I h) fun x s1 ⟨r,a,b,t,u,v,H1,ex,hr,I1,ok,q⟩=>args_nil ?_) na) na))
 subst ex
 obtain ⟨b1,b2,b3,b4,b5⟩:=ok
 refine call_tuple_range (n:=(b - a).toNat) (I1.ok.hd hc) hr (small_one b1 b2 b3 b4) (rangeSize_nat a b) b5 fun h' tk acc hk hi=>?_
 have I2:Inv X pins σ H1 { s1 with heap:=h',toks:=tk }:=I1.kept hk
 have z:=newT_push (tk:=tk) (its:=acc.toList) I2 (by rw [rgV_length,sizeLine_eq]; omega) (vals_rg hi) q
 rw [Array.toArray_toList] at z
 exact z
theorem e_rgl1 (G:Good X) (t:Bool) (hg:Gl X (if t then "tuple" else "list")) (hm:X.mg (if t then "tuple" else "list") = none) (hg2:Gl X "range") (hm2:X.mg "range" = none) (ha:PE X a (tI X.K W ma)) (na:starEach [a] X.env = (false,eval a X.env) :: starEach [] X.env)
  (nb:starEach [.Call (.Name "range" p2) [a] [] q] X.env = (false,eval (.Call (.Name "range" p2) [a] [] q) X.env) :: starEach [] X.env) :
  PE X (.Call (.Name (if t then "tuple" else "list") p) [.Call (.Name "range" p2) [a] [] q] [] pos) (tI X.K W fun σ=>M.bind (ma σ) (rgl1K t)):=by
 have go:∀ (G:Int->Int->Hp->Prop) (σV:L2.St) (H:Hp) (Q:VK),(∀ (i j:Int) (σ:LSt) (ι:Nat->Addr) (L:LH) (H':Hp),At X.K W (RVr X.K) σV σ ι L (rglV t i j L) Q H'->G i j H')->tI X.K W (fun σ=>M.bind (ma σ) (rgl1K t)) σV H Q->tRg1 (tI X.K W ma) σV H G:=fun G σV H Q hG h=>by
  obtain ⟨ι,σ,L,h⟩:=h
  refine ⟨ι,σ,L,(h.bind (R:=RVr X.K)).imp fun x H1 ⟨d,ι1,L1,r1,ev,h⟩=>?_⟩
  cases d with
  | int n=>cases r1; exact ⟨n,rfl,hG _ _ _ _ _ _ h⟩
  | _=>exact h.no.elim
 cases t with
 | true=>exact PE.imp (pe_tupRgN G.calm hg hm (prg_1 hg2 hm2 ha na) nb) fun σV H Q h=>go (fun a b H1=>RgOk a b∧NewT H1 (rgV a b) Q) σV H Q (fun i j σ ι L H' h=>⟨(rgl_at h).1,(rgl_at h).2.1 rfl⟩) h
 | false=>exact PE.imp (pe_listRg G.calm hg hm (prg_1 hg2 hm2 ha na) nb) fun σV H Q h=>go (fun a b H1=>RgOk a b∧∀ q,H1 q = none->Q (.ref q) (upd H1 q (.lst (rgV a b)))) σV H Q (fun i j σ ι L H' h=>⟨(rgl_at h).1,(rgl_at h).2.2 rfl⟩) h
end
end Mv
namespace Mv
open PySem PySem.Spec PyProof.Rows L2
section
variable {α β:Type} {K:PySem.W.Frag} {W:XW} {R:Rl α β} {σV:L2.St} {σ:LSt} {ι:Nat->Addr} {L:LH} {H:Hp} {Q:β->Hp->Prop}
theorem At.newB {f:LV->M α} {o:LO} {u:HO} {p:Addr} (h:At K W R σV σ ι L (M.bind (Mv.new o) f L) Q H) (hp:H p = Option.none) (q:RO K (upd H p u) (ext ι L.length p) (L.length + 1) p o) :
  At K W R σV σ (ext ι L.length p) (L ++ [o]) (f (.ref L.length) (L ++ [o])) Q (upd H p u):=by
 obtain ⟨a,b,o1,e,z⟩:=h
 have ev:Ev K ι H L.length (ext ι L.length p) (upd H p u) (L ++ [o]).length:=by
  rw [List.length_append,List.length_singleton]
  exact Ev.new hp
 have e:f (.ref L.length) (L ++ [o]) = some o1:=e
 refine ⟨a.new hp q,b.mono ev,o1,e,?_⟩
 cases o1 with
 | ok d L'=>exact fun ι2 H2 v2 ev2 rp2 rv2=>z ι2 H2 v2 (ev.trans ev2) rp2 rv2
 | ex c fs L'=>exact fun ι2 H2 ev2 rp2=>z ι2 H2 (ev.trans ev2) rp2
end
def msOf:List (LSt->M LV)->LSt->M (List LV)
 | []=>fun _=>M.ret []
 | m :: r=>consM m (msOf r)
def trsOf (K:PySem.W.Frag) (W:XW) (ks:List Key) (ms:List (LSt->M LV)):List (TE × TE):=List.zipWith (fun k m=>(tC (kV k),tI K W m)) ks ms
section
variable {K:PySem.W.Frag} {W:XW}
theorem pairs_at:∀ (ks:List Key) (ms:List (LSt->M LV)) {σV:L2.St} {σ:LSt} {ι:Nat->Addr} {L:LH} {H:Hp} {f:List LV->M LV} {Q:VK},ks.length = ms.length->At K W (RVr K) σV σ ι L (M.bind (msOf ms σ) f L) Q H ->
  tPairs (trsOf K W ks ms) σV H fun ps H2=>∃ vs ds ι2 L2,ps = (ks.zip vs).map (fun kv=>(kV kv.1,kv.2))∧vs.length = ks.length∧RVs K H2 ι2 L2.length vs ds∧Ev K ι H L.length ι2 H2 L2.length∧At K W (RVr K) σV σ ι2 L2 (f ds L2) Q H2
 | [],[],σV,σ,ι,L,H,f,Q,_,h=>⟨[],[],ι,L,rfl,rfl,.nil,Ev.refl,h⟩
 | [],_ :: _,_,_,_,_,_,_,_,e,_=>by cases e
 | _ :: _,[],_,_,_,_,_,_,_,e,_=>by cases e
 | k :: ks,m :: ms,σV,σ,ι,L,H,f,Q,e,h=>by
  show tPairs ((tC (kV k),tI K W m) :: trsOf K W ks ms) σV H _
  show tI K W m σV H fun y H2=>tPairs (trsOf K W ks ms) σV H2 _
  have h:At K W (RVr K) σV σ ι L (M.bind (m σ) (fun x=>M.bind (msOf ms σ) fun xs=>f (x :: xs)) L) Q H:=by
   have e:M.bind (msOf (m :: ms) σ) f L = M.bind (m σ) (fun x=>M.bind (msOf ms σ) fun xs=>f (x :: xs)) L:=by
    show M.bind (M.bind (m σ) fun x=>M.bind (msOf ms σ) fun xs=>M.ret (x :: xs)) f L = _
    rw [M.bind_bind]
    simp only [M.bind_bind,M.bind_ret]
   rw [<- e]
   exact h
  refine ⟨ι,σ,L,(h.bind (R:=RVr K)).imp fun y H1 ⟨d,ι1,L1,r1,ev,h⟩=>?_⟩
  have ih:=pairs_at ks ms (by simpa using e) h
  refine tPairs_imp ih fun ps H2 ⟨vs,ds,ι2,L2,e1,e2,r2,ev2,h⟩=>?_
  exact ⟨y :: vs,d :: ds,ι2,L2,by rw [e1]; rfl,by rw [List.length_cons,List.length_cons,e2],.cons (r1.mono ev2) r2,ev.trans ev2,h⟩
where
 tPairs_imp:∀ {ks:List Key} {ms:List (LSt->M LV)} {σV:L2.St} {H:Hp} {Q Q':List (V × V)->Hp->Prop},tPairs (trsOf K W ks ms) σV H Q->(∀ ps H',Q ps H'->Q' ps H')->tPairs (trsOf K W ks ms) σV H Q'
  | [],_,_,_,_,_,h,q=>q _ _ h
  | _ :: _,[],_,_,_,_,h,q=>q _ _ h
  | k :: ks,m :: ms,σV,H,Q,Q',h,q=>by
   obtain ⟨ι,σ,L,h⟩:=(show tI K W m σV H (fun y H2=>tPairs (trsOf K W ks ms) σV H2 fun ps H3=>Q ((kV k,y) :: ps) H3) from h)
   show tI K W m σV H fun y H2=>tPairs (trsOf K W ks ms) σV H2 fun ps H3=>Q' ((kV k,y) :: ps) H3
   exact ⟨ι,σ,L,h.imp fun y H2 z=>tPairs_imp z fun ps H' w=>q _ _ w⟩
theorem merge_rel {H:Hp} {ι:Nat->Addr} {n:Nat}:∀ {ks:List Key} {vs:List V} {ds:List LV} {as:List (Key × V)} {bs:List (Key × LV)},RVs K H ι n vs ds->RKV K H ι n as bs->RKV K H ι n (mergeK as (ks.zip vs)) (dmerge bs (ks.zip ds))
 | [],_,_,_,_,_,q=>q
 | _ :: _,[],_,_,_,r,q=>by cases r; exact q
 | k :: ks,v :: vs,_,_,_,r,q=>by
  cases r with
  | cons r1 r2 =>
   show RKV K H ι n (mergeK (putK _ k v) (ks.zip vs)) (dmerge (dput _ k _) (ks.zip _))
   exact merge_rel r2 (RKV.put r1 q)
end
def dctM (ks:List Key) (ms:LSt->M (List LV)):LSt->M LV:=fun σ=>M.bind (new (.dic [])) fun d=>M.bind (ms σ) fun xs=>match d with
  | .ref n=>fun L=>dctR n (dmerge [] (ks.zip xs)) L[n]? L
  | _=>M.no
section
variable {X:Cx} {W:XW} {pos:Pos}
theorem e_dct0:PE X (.Dict [] [] pos) (tI X.K W fun _=>new (.dic [])) :=
 PE.imp pe_dnewK fun σV H Q ⟨ι,σ,L,h⟩ p hp=>h.new hp ⟨[],upd_same,.nil⟩
theorem e_dct {keys:List (Option Expr)} {values:List Expr} {ks:List Key} {ms:List (LSt->M LV)} (h:PPs X pos keys values (trsOf X.K W ks ms)) (hall:keys.all (·.isSome) = true) (hl:keys.length = values.length) (h0:keys≠[]) (h15:keys.length<=15)
  (hk:ks.length = keys.length) (hm:ms.length = keys.length):PE X (.Dict keys values pos) (tI X.K W (dctM ks (msOf ms))):=by
 refine PE.imp (pe_disp h hall hl h0 h15) fun σV H Q ⟨ι,σ,L,h⟩ p hp=>?_
 have h1:=h.newB (u:=.dK []) hp ⟨[],upd_same,.nil⟩
 have h2:=pairs_at ks ms (by rw [hk,hm]) h1
 refine pairs_at.tPairs_imp h2 fun ps H2 ⟨vs,ds,ι2,L2,e1,e2,r2,ev2,h⟩=>?_
 have h:At X.K W (RVr X.K) σV σ ι2 L2 (dctR L.length (dmerge [] (ks.zip ds)) L2[L.length]? L2) Q H2:=h
 have hn:L.length < (L ++ [LO.dic []]).length:=by rw [List.length_append,List.length_singleton]; omega
 have ep:ι2 L.length = p:=by rw [ev2.pl _ hn,ext_eq]
 generalize eL:L2[L.length]? = o at h
 cases o with
 | none=>exact h.no.elim
 | some o =>
  cases o with
  | dic kvs =>
   cases kvs with
   | cons _ _=>exact h.no.elim
   | nil =>
    obtain ⟨ys,h3,r3⟩:=h.rep.ob _ _ eL
    cases r3
    rw [ep] at h3
    refine ⟨h3,ks.zip vs,e1,?_,?_⟩
    ·rw [List.length_zip,e2,hk]
     omega
    ·have ev3:Ev X.K ι2 H2 L2.length ι2 (upd H2 p (.dK (mergeK [] (ks.zip vs)))) L2.length:=Ev.set h3 trivial
     have q:RO X.K (upd H2 (ι2 L.length) (.dK (mergeK [] (ks.zip vs)))) ι2 L2.length (ι2 L.length) (.dic (dmerge [] (ks.zip ds))):=by
      rw [ep]
      exact ⟨_,upd_same,merge_rel (r2.mono ev3) .nil⟩
     have h:At X.K W (RVr X.K) σV σ ι2 L2 (M.bind (setO L.length (.dic (dmerge [] (ks.zip ds)))) (fun _=>M.ret (.ref L.length)) L2) Q H2:=h
     have h:=At.put (o':=.dic (dmerge [] (ks.zip ds))) (u:=.dK (mergeK [] (ks.zip vs))) h eL rfl rfl q
     rw [ep] at h
     refine h.ret ?_
     have z:RV X.K (upd H2 p (.dK (mergeK [] (ks.zip vs)))) ι2 (L2.set L.length (LO.dic (dmerge [] (ks.zip ds)))).length (.ref (ι2 L.length)) (.ref L.length):=.ref _ (by rw [List.length_set]; exact get_lt eL)
     rw [ep] at z
     exact z
  | _=>exact h.no.elim
end
structure FnG (P:Program) (w:World) (K:PySem.W.Frag) (mg:Str->Option Value) (base:Heap) (k:Nat) (f:Addr) (fd:FuncData) (ps:List Str) (R:List LV->M LV):Prop where
 run:∀ (W:XW) (A:Around) (outer:List Env) (s:Shared) (H:Hp) (args:Args) (us:List Value) (vs:List V) (ds:List LV) (ι:Nat->Addr) (L:LH) (Q:VK),Room (3 * k) A->A.guards = some []->Env0 P w K mg base A outer s H ->
  BindsTo s fd args (ps.zip us)->us.length = ps.length->Vals vs us->RVs K H ι L.length vs ds->At K W (RVr K) [] [] ι L (R ds L) Q H->codeAny (model P w) A (.call (.ref f) args) (CR (CXh K P w W) outer P w H s Q (fun _ _ _=>False)) s
def BindOk (K:PySem.W.Frag) (fd:FuncData) (ps:List Str) (np:Nat) (ks:List Str) (perm:List Nat):Prop :=
 ∀ (s:Shared) (us ws zs:List Value),K.In s.heap->us.length = np->ws.length = ks.length->permG (us ++ ws) perm = some zs->BindsTo s fd ⟨us,ks.zip ws⟩ (ps.zip zs)∧zs.length = ps.length
theorem perm_rel {K:PySem.W.Frag} {H:Hp} {ι:Nat->Addr} {n:Nat} {vs:List V} {us:List Value} {ds:List LV} (r:Vals vs us) (q:RVs K H ι n vs ds):∀ {perm:List Nat} {zs:List LV},permG ds perm = some zs->∃ ws xs,permG us perm = some xs∧Vals ws xs∧RVs K H ι n ws zs
 | [],_,e=>by cases e; exact ⟨[],[],rfl,.nil,.nil⟩
 | i :: perm,zs,e=>by
  unfold permG at e
  cases e1:ds[i]? with
  | none=>rw [e1] at e; cases e
  | some d =>
   cases e2:permG ds perm with
   | none=>rw [e1,e2] at e; cases e
   | some ys =>
    rw [e1,e2] at e
    cases e
    obtain ⟨v,hv,rv⟩:=q.get e1
    obtain ⟨u,hu,ru⟩:=r.get hv
    obtain ⟨ws,xs,h1,h2,h3⟩:=perm_rel r q e2
    exact ⟨v :: ws,u :: xs,by unfold permG; rw [hu,h1],.cons ru h2,.cons rv h3⟩
def callM (R:List LV->M LV) (ms mk:LSt->M (List LV)) (perm:List Nat):LSt->M LV:=fun σ=>M.bind (ms σ) fun xs=>M.bind (mk σ) fun ys=>M.ofO (permG (xs ++ ys) perm) fun zs=>R zs
section
variable {X:Cx} {W:XW} {pos p:Pos} {x:Str} {f:Addr} {fd:FuncData} {ps ks:List Str} {k np:Nat} {R:List LV->M LV} {perm:List Nat} {ms mk:LSt->M (List LV)} {a:Expr} {es:List Expr} {kws:List Keyword}
theorem run_fn {pins:List (Addr × Obj)} {σV:L2.St} {σ:LSt} {H:Hp} {s:Shared} {ι:Nat->Addr} {L:LH} {Q:VK} {us ws:List Value} {vs:List V} {ds:List LV} (G:GoodH X) (tk:TakesH X W) (F:FnG X.prog X.w X.K X.mg X.base k f fd ps R) (hr:Room (3 * k + 2) X.A)
  (hb:BindOk X.K fd ps np ks perm) (I:Inv X pins σV H s) (hu:us.length = np) (hw:ws.length = ks.length) (r:Vals vs (us ++ ws)) (q:RVs X.K H ι L.length vs ds)
  (h:At X.K W (RVr X.K) σV σ ι L (M.ofO (permG ds perm) (fun zs=>R zs) L) Q H):wpAny (model X.prog X.w) X.A (call (.ref f) us (ks.zip ws)) (EP X pins σV Q) X.xe s:=by
 obtain ⟨zs,e,h⟩:=h.ofO
 obtain ⟨ws',xs,h1,h2,h3⟩:=perm_rel r q e
 obtain ⟨b1,b2⟩:=hb s us ws xs I.kIn hu hw h1
 have h':At X.K (fun c fs L' ι' H' _=>W c fs L' ι' H' σV) (RVr X.K) [] [] ι L (R zs L) Q H:=⟨h.rep,⟨rfl,fun i d e=>by simp at e⟩,h.go⟩
 refine wpAny_call (codeAny_mono (F.run _ X.A X.stack s H ⟨us,ks.zip ws⟩ xs ws' zs ι L Q (hr.mono (by omega)) G.hg I.env0 b1 b2 h2 h3 h') fun r s' hq=>?_)
 cases r with
 | error e=>exact tk.call I hq
 | ok fl =>
  cases fl with
  | ret u=>exact I.after hq
  | next=>exact False.elim hq
  | brk=>exact False.elim hq
  | cont=>exact False.elim hq
theorem e_call (G:GoodH X) (tk:TakesH X W) (F:FnG X.prog X.w X.K X.mg X.base k f fd ps R) (hr:Room (3 * k + 2) X.A) (hg:Gl X x) (hm:X.mg x = some (.ref f)) (hk:PySem.W.keepIn X.K (.ref f) = true) (hb:BindOk X.K fd ps np ks perm)
  (ha:PA X (a :: es) (tIs X.K W ms)) (hkw:PK X kws (tIs X.K W mk)) (hall:(backToKw pos (keywordEach kws X.env)).all (·.1.isSome) = true) (hks:(backToKw pos (keywordEach kws X.env)).filterMap (·.1) = ks)
  (hdb:(x == ("__debug__":Str)) = false) (he:starEach (a :: es) X.env = (false,eval a X.env) :: starEach es X.env)
  (hpl:((backTo pos (starEach (a :: es) X.env)).any (·.1) || (backToKw pos (keywordEach kws X.env)).any (·.1.isNone)) = false)
  (la:∀ σ L xs L',ms σ L = some (.ok xs L')->xs.length = np) (lk:∀ σ L xs L',mk σ L = some (.ok xs L')->xs.length = ks.length) :
  PE X (.Call (.Name x p) (a :: es) kws pos) (tI X.K W (callM R ms mk perm)):=by
 refine ⟨fun pins s σV H Q I h=>?_⟩
 obtain ⟨ι,σ,L,h⟩:=h
 refine wpAny_Call_Name_kw (ld_glob I hg hm ?_ hdb)
 refine PySem.W.callWith_KW (h₀:=X.base) I.ok.mod.kin hk hall (thn (ha.run pos pins s σV H _ I ⟨ι,σ,L,h.bindE (R:=RVsr X.K)⟩) fun us s1 ⟨vs,H1,I1,r,q⟩=>?_) hpl he
 obtain ⟨ds,ι1,L1,q1,r1,ev,h⟩:=q
 refine thn (hkw.run pos pins s1 σV H1 _ I1 ⟨ι1,σ,L1,h.bindE (R:=RVsr X.K)⟩) fun ws s2 ⟨zs,H2,I2,rz,q2⟩=>⟨I2.kIn,?_⟩
 obtain ⟨es2,ι2,L2,q3,r2,ev2,h⟩:=q2
 rw [hks]
 exact run_fn G tk F hr hb I2 (by show us.length = np; rw [<- r.length,r1.length,la _ _ _ _ q1]) (by rw [<- rz.length,r2.length,lk _ _ _ _ q3]) (r.append rz) ((r1.mono ev2).append r2) h
theorem e_callK (G:GoodH X) (tk:TakesH X W) (F:FnG X.prog X.w X.K X.mg X.base k f fd ps R) (hr:Room (3 * k + 2) X.A) (hg:Gl X x) (hm:X.mg x = some (.ref f)) (hk:PySem.W.keepIn X.K (.ref f) = true) (hb:BindOk X.K fd ps 0 ks perm)
  (hkw:PK X kws (tIs X.K W mk)) (hall:(backToKw pos (keywordEach kws X.env)).all (·.1.isSome) = true) (hks:(backToKw pos (keywordEach kws X.env)).filterMap (·.1) = ks)
  (hdb:(x == ("__debug__":Str)) = false) (hpl:((backTo pos (starEach [] X.env)).any (·.1) || (backToKw pos (keywordEach kws X.env)).any (·.1.isNone)) = false)
  (lk:∀ σ L xs L',mk σ L = some (.ok xs L')->xs.length = ks.length) :
  PE X (.Call (.Name x p) [] kws pos) (tI X.K W (callM R (fun _=>M.ret []) mk perm)):=by
 refine ⟨fun pins s σV H Q I h=>?_⟩
 obtain ⟨ι,σ,L,h⟩:=h
 have h:At X.K W (RVr X.K) σV σ ι L (M.bind (mk σ) (fun ys=>M.ofO (permG ([] ++ ys) perm) fun zs=>R zs) L) Q H:=h
 refine wpAny_Call_Name_kw (ld_glob I hg hm ?_ hdb)
 refine PySem.W.callWith_KW0 (h₀:=X.base) I.ok.mod.kin hk hall (thn (hkw.run pos pins s σV H _ I ⟨ι,σ,L,h.bindE (R:=RVsr X.K)⟩) fun ws s2 ⟨zs,H2,I2,rz,q2⟩=>⟨I2.kIn,?_⟩) hpl
 obtain ⟨es2,ι2,L2,q3,r2,ev2,h⟩:=q2
 rw [hks]
 exact run_fn (us:=[]) (vs:=zs) (ds:=es2) G tk F hr hb I2 rfl (by rw [<- rz.length,r2.length,lk _ _ _ _ q3]) rz r2 h
theorem k_nil:PK X [] (tIs X.K W fun _=>M.ret []):=⟨fun pos pins s σ H Q I ⟨ι,σ',L,h⟩=>pk_nil.run pos pins s σ H Q I (h.ret .nil)⟩
theorem k_cons {e:Expr} {nm:Option Str} {kpos:Pos} {me:LSt->M LV} (ha:PE X e (tI X.K W me)) (hr:PK X kws (tIs X.K W mk)):PK X (⟨nm,e,kpos⟩ :: kws) (tIs X.K W (consM me mk)) :=
 ⟨fun pos pins s σ H Q I ⟨ι,σ',L,h⟩=>(pk_cons ha hr).run pos pins s σ H Q I (by
  refine ⟨ι,σ',L,(h.bind (R:=RVr X.K)).imp fun x H1 ⟨d,ι1,L1,r1,ev,h⟩=>?_⟩
  refine ⟨ι1,σ',L1,(h.bind (R:=RVsr X.K)).imp fun xs H2 ⟨ds,ι2,L2,r2,ev2,h⟩=>?_⟩
  exact h.ret (.cons (r1.mono ev2) r2))⟩
end
end Mv
namespace Mv
open PySem PySem.Spec PyProof.Rows L2
def WInv (W:XW):Prop:=∀ c fs L ι H (σV σV':L2.St),σV'.length = σV.length->W c fs L ι H σV->W c fs L ι H σV'
theorem winv0:WInv W0:=fun _ _ _ _ _ _ _ _ z=>z
section
variable {α β γ δ:Type} {K:PySem.W.Frag} {W:XW} {R R':Rl α β} {σV σV':L2.St} {σ σ':LSt} {ι:Nat->Addr} {L:LH} {H H':Hp} {Q:β->Hp->Prop} {r:Option (Out α)}
theorem At.rebase (hW:WInv W) (h:At K W R σV σ ι L r Q H) (rs:RS K H ι L.length σV' σ') (hl:σV'.length = σV.length):At K W R σV' σ' ι L r Q H:=by
 obtain ⟨a,b,o,e,p⟩:=h
 refine ⟨a,rs,o,e,?_⟩
 cases o with
 | ok d L'=>exact p
 | ex c fs L'=>exact fun ι' H' ev rp=>hW _ _ _ _ _ _ _ hl (p ι' H' ev rp)
theorem At.rel (h:At K W R σV σ ι L r Q H) (q:∀ H ι n v d,R' H ι n v d->R H ι n v d):At K W R' σV σ ι L r Q H:=by
 obtain ⟨a,b,o,e,p⟩:=h
 refine ⟨a,b,o,e,?_⟩
 cases o with
 | ok d L'=>exact fun ι' H' v e1 e2 e3=>p ι' H' v e1 e2 (q _ _ _ _ _ e3)
 | ex c fs L'=>exact p
theorem At.move (h:At K W R σV σ ι L r Q H) (ev:Ev K ι H L.length ι H' L.length) (rp:Rep K ι H' L):At K W R σV σ ι L r Q H':=by
 obtain ⟨a,b,o,e,p⟩:=h
 refine ⟨rp,b.mono ev,o,e,?_⟩
 cases o with
 | ok d L'=>exact fun ι' H' v e1 e2 e3=>p ι' H' v (ev.trans e1) e2 e3
 | ex c fs L'=>exact fun ι' H' e1 e2=>p ι' H' (ev.trans e1) e2
theorem At.eqr {r':Option (Out α)} (h:At K W R σV σ ι L r Q H) (e:r = r'):At K W R σV σ ι L r' Q H:=e ▸ h
theorem At.map {Q':δ->Hp->Prop} {R2:Rl α δ} (h:At K W R σV σ ι L r Q H) (q:∀ H ι n v d,R2 H ι n v d->∃ u,R H ι n u d∧(∀ H,Q u H->Q' v H)):At K W R2 σV σ ι L r Q' H:=by
 obtain ⟨a,b,o,e,p⟩:=h
 refine ⟨a,b,o,e,?_⟩
 cases o with
 | ok d L'=>exact fun ι' H' v e1 e2 e3=>let ⟨u,h1,h2⟩:=q _ _ _ _ _ e3; h2 _ (p ι' H' u e1 e2 h1)
 | ex c fs L'=>exact p
end
def RSo (K:PySem.W.Frag) (own:List Nat) (σV0:L2.St):Rl LSt L2.St:=fun H ι n σV σ=>RS K H ι n σV σ∧σV.length = σV0.length∧∀ i:Nat,i ∉ own->σV[i]? = σV0[i]?
theorem RSo.trans {K:PySem.W.Frag} {own:List Nat} {σ0 σ1:L2.St} {H:Hp} {ι:Nat->Addr} {n:Nat} {σV:L2.St} {σ:LSt} (h:RSo K own σ1 H ι n σV σ) (hl:σ1.length = σ0.length) (ho:∀ i:Nat,i ∉ own->σ1[i]? = σ0[i]?):RSo K own σ0 H ι n σV σ :=
 ⟨h.1,h.2.1.trans hl,fun i hi=>(h.2.2 i hi).trans (ho i hi)⟩
section
variable {pos:Pos}
end
def tgI (K:PySem.W.Frag) (W:XW) (own:List Nat) (m:LV->LSt->M LSt):TG:=fun v σV H Q=>∃ ι σ L d,RV K H ι L.length v d∧At K W (RSo K own σV) σV σ ι L (m d σ L) Q H
def tgsI (K:PySem.W.Frag) (W:XW) (own:List Nat) (m:List LV->LSt->M LSt):TGs:=fun vs σV H Q=>∃ ι σ L ds,RVs K H ι L.length vs ds∧At K W (RSo K own σV) σV σ ι L (m ds σ L) Q H
theorem PG.imp {X:Cx} {e:Expr} {t t':TG} (h:PG X e t) (q:∀ v σ H Q,t' v σ H Q->t v σ H Q):PG X e t':=⟨fun pins s σ H v u Q I r w=>h.run pins s σ H v u Q I r (q v σ H Q w)⟩
theorem PG.or {X:Cx} {e:Expr} {t t':TG} (h:PG X e t) (h':PG X e t'):PG X e (fun v σ H Q=>t v σ H Q∨t' v σ H Q) :=
 ⟨fun pins s σ H v u Q I r w=>w.elim (h.run pins s σ H v u Q I r) (h'.run pins s σ H v u Q I r)⟩
theorem PGs.imp {X:Cx} {e:List Expr} {t t':TGs} (h:PGs X e t) (q:∀ v σ H Q,t' v σ H Q->t v σ H Q):PGs X e t':=⟨fun pins s σ H v u Q I r w=>h.run pins s σ H v u Q I r (q v σ H Q w)⟩
section
variable {X:Cx} {W:XW} {pos:Pos} {own:List Nat}
def nameM (i:Nat):LV->LSt->M LSt:=fun v σ=>M.chk (decide (i < σ.length)) (M.ret (σ.set i (some v)))
theorem set_other {α:Type} {l:List α} {i j:Nat} {x:α} (h:j≠i):(l.set i x)[j]? = l[j]?:=List.getElem?_set_ne (Ne.symm h)
theorem g_name {i:Nat} {x:Str} (hN:X.N.Nodup) (hi:X.N[i]? = some x) (hx:Loc X.env.scope x) (hf:X.fn x = true∨X.env.scope.names.lookup x = some .local) (ho:i∈own):PG X (.Name x pos) (tgI X.K W own (nameM i)) :=
 PG.imp (pg_name hN hi hx hf) fun v σV H Q ⟨ι,σ,L,d,r,h⟩=>by
  obtain ⟨c,h⟩:=At.chk h
  refine h.ret ⟨h.rs.set i r,by rw [List.length_set],fun j hj=>set_other fun e=>hj (e ▸ ho)⟩
theorem gs_nil:PGs X [] (tgsI X.K W own fun vs σ=>match vs with
  | []=>M.ret σ
  | _=>M.no) :=
 PGs.imp pgs_nil fun v σV H Q ⟨ι,σ,L,ds,r,h⟩=>by
  cases ds with
  | nil=>cases r; exact ⟨rfl,h.ret ⟨h.rs,rfl,fun _ _=>rfl⟩⟩
  | cons _ _=>exact h.no.elim
def gconsM (m:LV->LSt->M LSt) (ms:List LV->LSt->M LSt):List LV->LSt->M LSt:=fun vs σ=>match vs with
  | x :: xs=>M.bind (m x σ) fun σ1=>ms xs σ1
  | []=>M.no
theorem gs_cons {e:Expr} {es:List Expr} {m:LV->LSt->M LSt} {ms:List LV->LSt->M LSt} (hW:WInv W) (h1:PG X e (tgI X.K W own m)) (h2:PGs X es (tgsI X.K W own ms))
  (hs:(assignEach (e :: es) X.env).map (·.2) = assign e X.env :: (assignEach es X.env).map (·.2)):PGs X (e :: es) (tgsI X.K W own (gconsM m ms)) :=
 PGs.imp (pgs_cons h1 h2 hs) fun v σV H Q ⟨ι,σ,L,ds,r,h⟩=>by
  cases ds with
  | nil=>exact h.no.elim
  | cons d ds =>
   cases r with
   | cons r1 r2 =>
    refine ⟨_,_,rfl,ι,σ,L,d,r1,(At.bind (R:=RSo X.K own σV) h).imp fun σ1 H1 ⟨σ',ι1,L1,q,ev,h⟩=>?_⟩
    refine ⟨ι1,σ',L1,ds,r2.mono ev,?_⟩
    exact (h.rebase hW q.1 q.2.1).rel fun H ι n v d z=>z.trans q.2.1 q.2.2
def tupM (n:Nat) (ms:List LV->LSt->M LSt):LV->LSt->M LSt:=fun v σ=>M.look (fun L=>Mv.items L v) fun xs=>M.chk (decide (xs.length = n)) (ms xs σ)
theorem g_tup {es:List Expr} {k n:Nat} {ms:List LV->LSt->M LSt} (G:Good X) (h:PGs X es (tgsI X.K W own ms)) (hn:(assignEach es X.env).length = n) (hst:(assignEach es X.env).findIdx? (·.1) = none) :
  PG X (.Tuple es k pos) (tgI X.K W own (tupM n ms)) :=
 PG.imp (PG.or (pg_tup G.calm h hn hst) (pg_unl G.calm h hn hst)) fun v σV H Q ⟨ι,σ,L,d,r,h⟩=>by
  obtain ⟨ys,e,h⟩:=At.look (g:=fun L=>Mv.items L d) h
  obtain ⟨c,h⟩:=At.chk h
  have hl:ys.length = n:=of_decide_eq_true c
  obtain ⟨a,xs,rfl,hs,hr⟩:=h.rep.seq r e
  rcases hs with hs | hs
  ·exact .inr ⟨a,xs,rfl,hs,by rw [hr.length,hl],ι,σ,L,ys,hr,h⟩
  ·exact .inl ⟨a,xs,rfl,hs,by rw [hr.length,hl],ι,σ,L,ys,hr,h⟩
def notSlice:Expr->Bool
 | .Slice _ _ none _=>false
 | _=>true
theorem assign_sub {o i:Expr} {env:Env} (h:notSlice i = true) (v:Value):assign (.Subscript o i pos) env v = (do
   let ov <- holding [v] (eval o env)
   let iv <- holding [v,ov] (eval i env)
   standAt pos
   holding [v,ov,iv] (setItem ov iv v)
   release [v,ov,iv] []):=by
 rw [assign]
 unfold notSlice at h
 split at h
 ·cases h
 ·rename_i hn
  cases i <;> first | rfl | (rename_i a b c d; cases c <;> first | rfl | exact (hn _ _ _ rfl).elim)
def subM (mo mi:LSt->M LV):LV->LSt->M LSt:=fun v σ=>M.bind (mo σ) fun x=>M.bind (mi σ) fun y=>M.bind (setV x y v) fun _=>M.ret σ
theorem g_sub {o i:Expr} {mo mi:LSt->M LV} (G:GoodH X) (hn:notSlice i = true) (ho:PE X o (tI X.K W mo)) (hi:PE X i (tI X.K W mi)):PG X (.Subscript o i pos) (tgI X.K W own (subM mo mi)) :=
 PG.imp (pg_sub ho hi (set_any (by have:=G.hu; omega)) (assign_sub hn)) fun v σV H Q ⟨ι,σ,L,d,r,h⟩=>by
  refine ⟨ι,σ,L,(At.bind (R:=RVr X.K) h).imp fun x H1 ⟨d1,ι1,L1,r1,ev,h⟩=>?_⟩
  refine ⟨ι1,σ,L1,(At.bind (R:=RVr X.K) h).imp fun y H2 ⟨d2,ι2,L2,r2,ev2,h⟩=>?_⟩
  have h3:=At.bind (R:=Eqr) h
  refine set_at (Q:=fun _ H3=>Q σV H3) (h3.imp fun _ H3 ⟨d3,ι3,L3,_,ev3,h⟩=>?_) (r1.mono ev2) r2 ((r.mono ev).mono ev2)
  exact h.ret ⟨h.rs,rfl,fun _ _=>rfl⟩
end
abbrev tSrc (K:PySem.W.Frag) (W:XW) (m:LSt->M Src):TI:=tG K W (SrcR K) m
theorem PI.imp {X:Cx} {tg e:Expr} {t t':TI} (h:PI X tg e t) (q:∀ σ H Q,t' σ H Q->t σ H Q):PI X tg e t':=⟨fun pins s σ H R I w=>h.run pins s σ H R I (q σ H R w)⟩
section
variable {X:Cx} {W:XW} {tg e a b:Expr} {me ma mb:LSt->M LV} {pos p:Pos}
theorem i_val (he:PE X e (tI X.K W me)):PI X tg e (tSrc X.K W fun σ=>M.bind (me σ) iterV):=by
 refine ⟨fun pins s σV H R I h=>?_⟩
 obtain ⟨ι,σ,L,h⟩:=h
 have h1:=h.bindE (R:=RVr X.K)
 cases e1:me σ L with
 | none=>exact (none_at (f:=me σ) h1 e1).elim
 | some o =>
  cases o with
  | ex c fs L' =>
   refine (pi_list (tg:=tg) he).run pins s σV H R I ⟨ι,σ,L,h1.imp fun x H1 ⟨d,ι1,L1,e2,_⟩=>?_⟩
   rw [e1] at e2
   cases e2
  | ok d L1 =>
   cases d with
   | tup ds =>
    refine (pi_tup (tg:=tg) he).run pins s σV H R I ⟨ι,σ,L,h1.imp fun x H1 ⟨d,ι1,L1,e2,r1,ev,h⟩=>?_⟩
    rw [e1] at e2
    cases e2
    obtain ⟨a,xs,rfl,ha,ra⟩:=r1.tupV
    exact ⟨a,rfl,⟨xs,ha.1⟩,h.ret (srcR_tup ha ra)⟩
   | str z =>
    refine (pi_str (tg:=tg) he).run pins s σV H R I ⟨ι,σ,L,h1.imp fun x H1 ⟨d,ι1,L1,e2,r1,ev,h⟩=>?_⟩
    rw [e1] at e2
    cases e2
    obtain rfl:=r1.strV
    obtain ⟨c,h⟩:=At.chk h
    exact ⟨z,rfl,h.ret (srcR_str z)⟩
   | ref k =>
    refine (pi_list (tg:=tg) he).run pins s σV H R I ⟨ι,σ,L,h1.imp fun x H1 ⟨d,ι1,L1,e2,r1,ev,h⟩=>?_⟩
    rw [e1] at e2
    cases e2
    obtain rfl:=r1.refV
    have h:At X.K W (SrcR X.K) σV σ ι1 L1 (iterR k L1[k]? L1) R H1:=h
    generalize e3:L1[k]? = o at h
    cases o with
    | none=>exact h.no.elim
    | some o =>
     cases o with
     | lst xs =>
      obtain ⟨ys,h1,r1⟩:=h.rep.ob k _ e3
      exact ⟨_,rfl,⟨ys,.inl (.inl h1)⟩,h.ret (srcR_live (get_lt e3))⟩
     | frz ns =>
      exact ⟨_,rfl,⟨_,(show FrzAt X.K H1 (ι1 k) (ns.map V.int) from h.rep.ob k _ e3).seq⟩,h.ret (srcR_live (get_lt e3))⟩
     | dic _=>exact h.no.elim
     | ins _ _=>exact h.no.elim
     | dtp _=>exact h.no.elim
     | cls _=>exact h.no.elim
     | exn _ _=>exact h.no.elim
     | dct _=>exact h.no.elim
     | frd _=>exact h.no.elim
     | frt _=>exact h.no.elim
   | _ =>
    refine (pi_list (tg:=tg) he).run pins s σV H R I ⟨ι,σ,L,h1.imp fun x H1 ⟨d,ι1,L1,e2,r1,ev,h⟩=>?_⟩
    rw [e1] at e2
    cases e2
    exact h.no.elim
def rng1M (ma:LSt->M LV):LSt->M Src:=fun σ=>M.bind (ma σ) fun x=>match x with
  | .int j=>M.chk (ints62 j) (M.ret (rngV 0 j.toNat))
  | _=>M.no
theorem i_rng1 (hg:Gl X "range") (hm:X.mg "range" = none) (ha:PE X a (tI X.K W ma)) (hs:starEach [a] X.env = [(false,eval a X.env)]):PI X tg (.Call (.Name "range" p) [a] [] pos) (tSrc X.K W (rng1M ma)) :=
 PI.imp (pi_range1 hg hm (pa_cons ha pa_nil hs) hs) fun σV H R h=>by
  obtain ⟨ι,σ,L,h⟩:=h
  refine ⟨ι,σ,L,(At.bind (R:=RVr X.K) h).imp fun x H1 ⟨d,ι1,L1,r1,ev,h⟩=>?_⟩
  cases d with
  | int j =>
   cases r1
   obtain ⟨c,h⟩:=At.chk h
   have c:=of_decide_eq_true c
   exact ⟨j,rfl,c.1,c.2,h.ret (srcR_rng 0 j.toNat)⟩
  | _=>exact h.no.elim
end
theorem RS.wiped {K:PySem.W.Frag} {H:Hp} {ι:Nat->Addr} {n:Nat} {σV:L2.St} {σ:LSt} (r:RS K H ι n σV σ):∀ vs:List Nat,RS K H ι n (wipe σV vs) (wipeL σ vs)
 | []=>r
 | v :: vs=>by
  have ih:=RS.wiped r vs
  refine ⟨by show ((wipe σV vs).set v none).length = ((wipeL σ vs).set v none).length; rw [List.length_set,List.length_set]; exact ih.len,fun i d e=>?_⟩
  have e:((wipeL σ vs).set v none)[i]? = some (some d):=e
  by_cases hv:v = i
  ·subst hv
   by_cases hl:v < (wipeL σ vs).length
   ·rw [List.getElem?_set_self hl] at e; cases e
   ·rw [List.getElem?_eq_none (by simpa using hl)] at e; cases e
  ·rw [List.getElem?_set_ne hv] at e
   obtain ⟨u,h1,h2⟩:=ih.at_ i d e
   exact ⟨u,by show ((wipe σV vs).set v none)[i]? = _; rw [List.getElem?_set_ne hv]; exact h1,h2⟩
theorem wipe_other {σ:L2.St} {i:Nat}:∀ {vs:List Nat},i ∉ vs->(wipe σ vs)[i]? = σ[i]?
 | [],_=>rfl
 | v :: vs,h=>by
  rw [List.mem_cons,not_or] at h
  show ((wipe σ vs).set v none)[i]? = _
  rw [List.getElem?_set_ne (fun e=>h.1 e.symm)]
  exact wipe_other h.2
theorem wipe_in {σ:L2.St} {i:Nat}:∀ {vs:List Nat},i∈vs->(wipe σ vs)[i]? = if i < σ.length then some none else none
 | [],h=>by cases h
 | v :: vs,h=>by
  show ((wipe σ vs).set v none)[i]? = _
  have hl:(wipe σ vs).length = σ.length:=wipe_length σ vs
  by_cases hv:v = i
  ·subst hv
   by_cases q:v < σ.length
   ·rw [List.getElem?_set_self (by rw [hl]; exact q),if_pos q]
   ·rw [List.getElem?_eq_none (by rw [List.length_set,hl]; omega),if_neg q]
  ·rw [List.getElem?_set_ne hv]
   rcases List.mem_cons.mp h with e | h
   ·exact absurd e.symm hv
   ·exact wipe_in h
theorem wipe_ext {σ1 σ2:L2.St} {vs:List Nat} (hl:σ1.length = σ2.length) (h:∀ i:Nat,i ∉ vs->σ1[i]? = σ2[i]?):wipe σ1 vs = wipe σ2 vs:=by
 apply List.ext_getElem?
 intro i
 by_cases hi:i∈vs
 ·rw [wipe_in hi,wipe_in hi,hl]
 ·rw [wipe_other hi,wipe_other hi]
  exact h i hi
theorem wipe_wipe {σ:L2.St} {vs:List Nat}:wipe (wipe σ vs) vs = wipe σ vs:=wipe_ext (wipe_length σ vs) fun i hi=>wipe_other hi
def condM (ma:LSt->M LV):LSt->M Bool:=fun σ=>M.bind (ma σ) fun x=>match x with
  | .bl b=>M.ret b
  | _=>M.no
section
variable {X:Cx} {W:XW}
theorem c_none:PTs X [] (tG X.K W Eqr fun _=>M.ret true):=⟨fun pins s σ H Q I ⟨ι,σ',L,h⟩=>pts_nil.run pins s σ H Q I (h.ret rfl)⟩
theorem c_one {c:Expr} {mc:LSt->M LV} (h:PT X c (tT X.K W mc)):PTs X [c] (tG X.K W Eqr (condM mc)) :=
 ⟨fun pins s σ H Q I ⟨ι,σ',L,q⟩=>(pts_one h).run pins s σ H Q I ⟨ι,σ',L,(At.bind (R:=RVr X.K) q).imp fun x H1 ⟨d,ι1,L1,r1,ev,h⟩=>by
  cases d with
  | bl b=>cases r1; exact ⟨b,rfl,h.ret rfl⟩
  | _=>exact h.no.elim⟩⟩
end
def turnM (own:List Nat) (mt:LV->LSt->M LSt) (mc:LSt->M Bool) (me:LSt->M LV) (σ:LSt):LV->M (Option LV):=fun x=>M.bind (mt x (wipeL σ own)) fun σ2=>M.bind (mc σ2) fun k =>
    if k then M.bind (me σ2) fun y=>M.ret (some y) else M.ret none
def compM (own:List Nat) (mt:LV->LSt->M LSt) (mi:LSt->M Src) (mc:LSt->M Bool) (me:LSt->M LV):LSt->M LV:=fun σ=>M.bind (mi σ) fun src=>M.bind (new (.lst [])) fun d=>match d with
  | .ref D=>compGo src (turnM own mt mc me σ) D src.len 0
  | _=>M.no
theorem comp_at {K:PySem.W.Frag} {W:XW} {own:List Nat} {mt:LV->LSt->M LSt} {mi:LSt->M Src} {mc:LSt->M Bool} {me:LSt->M LV} (hW:WInv W) {σV:L2.St} {H:Hp} {Q:VK} (h:tI K W (compM own mt mi mc me) σV H Q) :
  tLc (tSrc K W mi) (tgI K W own mt) (tG K W Eqr mc) (tI K W me) own σV H Q:=by
 obtain ⟨ι,σ,L,h⟩:=h
 refine ⟨ι,σ,L,(At.bind (R:=SrcR K) h).imp fun J H1 ⟨src,ι1,L1,hJ,ev1,h⟩=>?_⟩
 intro D hD
 have h:=h.newB (u:=.lst []) hD ⟨[],upd_same,.nil⟩
 have h:At K W (RVr K) σV σ (ext ι1 L1.length D) (L1 ++ [LO.lst []]) (compGo src (turnM own mt mc me σ) L1.length src.len 0 (L1 ++ [LO.lst []])) Q (upd H1 D (.lst [])):=h
 have ev0:Ev K ι1 H1 L1.length (ext ι1 L1.length D) (upd H1 D (.lst [])) (L1 ++ [LO.lst []]).length:=by
  rw [List.length_append,List.length_singleton]
  exact Ev.new hD
 refine ⟨fun i m H=>m + i = src.len∧∃ ι L,Ev K ι1 H1 L1.length ι H L.length∧ι L1.length = D∧L1.length < L.length∧At K W (RVr K) σV σ ι L (compGo src (turnM own mt mc me σ) L1.length m i L) Q H,
  ⟨src.len,rfl,_,_,ev0,ext_eq,by rw [List.length_append,List.length_singleton]; omega,h⟩,?_⟩
 rintro i m H2 ⟨em,ι2,L2,ev2,eD,lD,h⟩
 obtain ⟨j1,j2⟩:=hJ H2 ι2 L2 ev2 h.rep
 cases m with
 | zero =>
  have h:At K W (RVr K) σV σ ι2 L2 (if src.fin L2 then some (.ok (.ref L1.length) L2) else none) Q H2:=h
  cases hf:src.fin L2 with
  | false=>rw [hf] at h; exact h.none.elim
  | true =>
   rw [hf] at h
   have ei:i = src.len:=by omega
   refine .inl ⟨by rw [ei]; exact j2 hf,?_⟩
   have h:At K W (RVr K) σV σ ι2 L2 (M.ret (.ref L1.length) L2) Q H2:=h
   rw [<- eD]
   exact h.ret (.ref _ lD)
 | succ m =>
  have h:At K W (RVr K) σV σ ι2 L2 (match src.at i L2 with
   | none=>none
   | some x=>M.bind (turnM own mt mc me σ x) (fun r=>match r with
    | none=>compGo src (turnM own mt mc me σ) L1.length m (i + 1)
    | some y=>M.bind (appM L1.length y) fun _=>compGo src (turnM own mt mc me σ) L1.length m (i + 1)) L2) Q H2:=h
  cases hx:src.at i L2 with
  | none=>rw [hx] at h; exact h.none.elim
  | some x =>
   rw [hx] at h
   obtain ⟨j3,j4⟩:=j1 i x hx
   refine .inr ⟨j3,fun H'=>m + (i + 1) = src.len∧∃ ι L,Ev K ι1 H1 L1.length ι H' L.length∧ι L1.length = D∧L1.length < L.length∧At K W (RVr K) σV σ ι L (compGo src (turnM own mt mc me σ) L1.length m (i + 1) L) Q H',fun H' z=>⟨m,Nat.lt_succ_self m,z⟩,fun xV H3 y=>?_⟩
   obtain ⟨ev3,rp3,rx⟩:=j4 xV H3 y
   have h:=h.move ev3 rp3
   have rs0:=h.rs
   have rsw:=h.rs.wiped own
   have h:=h.rebase hW rsw (wipe_length σV own)
   have h:At K W (RVr K) (wipe σV own) (wipeL σ own) ι2 L2 (M.bind (mt x (wipeL σ own)) (fun σ2=>M.bind (mc σ2) fun k=>M.bind (if k then M.bind (me σ2) fun y=>M.ret (some y) else M.ret none) fun r=>match r with
    | none=>compGo src (turnM own mt mc me σ) L1.length m (i + 1)
    | some y=>M.bind (appM L1.length y) fun _=>compGo src (turnM own mt mc me σ) L1.length m (i + 1)) L2) Q H3:=by
    have e:=congrFun (M.bind_bind (mt x (wipeL σ own)) (fun σ2=>M.bind (mc σ2) fun k=>if k then M.bind (me σ2) fun y=>M.ret (some y) else M.ret none) (fun r=>match r with
     | none=>compGo src (turnM own mt mc me σ) L1.length m (i + 1)
     | some y=>M.bind (appM L1.length y) fun _=>compGo src (turnM own mt mc me σ) L1.length m (i + 1))) L2
    exact At.eqr h (e.trans (congrFun (congrArg (M.bind (mt x (wipeL σ own))) (funext fun σ2=>M.bind_bind _ _ _)) L2))
   refine ⟨ι2,wipeL σ own,L2,x,rx,(At.bind (R:=RSo K own (wipe σV own)) h).imp fun σV4 H4 ⟨σ4,ι4,L4,q4,ev4,h⟩=>?_⟩
   refine ⟨(wipe_ext q4.2.1 q4.2.2).trans wipe_wipe,?_⟩
   have h:=h.rebase hW q4.1 q4.2.1
   refine ⟨ι4,σ4,L4,(At.bind (R:=Eqr) h).imp fun b H5 ⟨b',ι5,L5,eb,ev5,h⟩=>?_⟩
   obtain rfl:b = b':=eb
   have evA:Ev K ι1 H1 L1.length ι5 H5 L5.length:=((ev2.trans ev3).trans ev4).trans ev5
   have e5:ι5 L1.length = D:=by rw [ev5.pl _ (Nat.lt_of_lt_of_le lD ev4.le),ev4.pl _ lD,eD]
   have l5:L1.length < L5.length:=Nat.lt_of_lt_of_le lD (Nat.le_trans ev4.le ev5.le)
   have len4:σV.length = σV4.length:=by rw [q4.2.1,wipe_length]
   have back:∀ {ι':Nat->Addr} {L':LH} {H':Hp} {r:Option (Out LV)},Ev K ι2 H3 L2.length ι' H' L'.length->At K W (RVr K) σV4 σ4 ι' L' r Q H'->At K W (RVr K) σV σ ι' L' r Q H':=fun {ι' L' H' r} ev h=>by
    exact h.rebase hW (rs0.mono ev) len4
   cases b with
   | false =>
    rw [if_neg Bool.false_ne_true]
    have h:At K W (RVr K) σV4 σ4 ι5 L5 (compGo src (turnM own mt mc me σ) L1.length m (i + 1) L5) Q H5:=h
    exact ⟨by omega,ι5,L5,evA,e5,l5,back (ev4.trans ev5) h⟩
   | true =>
    rw [if_pos rfl]
    have h:At K W (RVr K) σV4 σ4 ι5 L5 (M.bind (me σ4) (fun y=>M.bind (appM L1.length y) fun _=>compGo src (turnM own mt mc me σ) L1.length m (i + 1)) L5) Q H5:=by
     have e:=congrFun (M.bind_bind (me σ4) (fun y=>M.ret (some y)) (fun r=>match r with
      | none=>compGo src (turnM own mt mc me σ) L1.length m (i + 1)
      | some y=>M.bind (appM L1.length y) fun _=>compGo src (turnM own mt mc me σ) L1.length m (i + 1))) L5
     exact At.eqr h e
    refine ⟨ι5,σ4,L5,(At.bind (R:=RVr K) h).imp fun yV H6 ⟨y,ι6,L6,ry,ev6,h⟩=>?_⟩
    have e6:ι6 L1.length = D:=by rw [ev6.pl _ l5,e5]
    have l6:L1.length < L6.length:=Nat.lt_of_lt_of_le l5 ev6.le
    have h:At K W (RVr K) σV4 σ4 ι6 L6 (M.bind (mthR L1.length .append L6[L1.length]? [y]) (fun _=>compGo src (turnM own mt mc me σ) L1.length m (i + 1)) L6) Q H6:=h
    generalize eo:L6[L1.length]? = o at h
    cases o with
    | none=>exact h.no.elim
    | some o =>
     cases o with
     | lst ys =>
      have h:At K W (RVr K) σV4 σ4 ι6 L6 (M.chk (decide (ys.length < sizeLine)) (M.bind (setO L1.length (.lst (ys ++ [y]))) fun _=>compGo src (turnM own mt mc me σ) L1.length m (i + 1)) L6) Q H6:=by
       have e:M.bind (mthR L1.length .append (some (.lst ys)) [y]) (fun _=>compGo src (turnM own mt mc me σ) L1.length m (i + 1)) L6 = M.chk (decide (ys.length < sizeLine)) (M.bind (setO L1.length (.lst (ys ++ [y]))) fun _=>compGo src (turnM own mt mc me σ) L1.length m (i + 1)) L6:=by
        show M.bind (M.chk (decide (ys.length < sizeLine)) (M.bind (setO L1.length (.lst (ys ++ [y]))) fun _=>M.ret LV.non)) _ L6 = _
        cases decide (ys.length < sizeLine) with
        | false=>rfl
        | true=>rfl
       exact At.eqr h e
      obtain ⟨c,h⟩:=h.chk
      obtain ⟨zs,h1,r1⟩:=h.rep.ob _ _ eo
      have hD6:H6 D = some (.lst zs):=by rw [<- e6]; exact h1
      refine ⟨zs,hD6,by rw [r1.length]; exact of_decide_eq_true c,by omega,ι6,L6.set L1.length (.lst (ys ++ [y])),?_,e6,by rw [List.length_set]; exact l6,?_⟩
      ·rw [List.length_set]
       exact (evA.trans ev6).trans (Ev.set hD6 trivial)
      ·have h:=h.put (u:=.lst (zs ++ [yV])) eo rfl rfl ⟨_,upd_same,(r1.append (.cons ry .nil)).mono (Ev.set h1 trivial)⟩
       rw [e6] at h
       refine back ?_ h
       rw [List.length_set]
       exact ((ev4.trans ev5).trans ev6).trans (Ev.set hD6 trivial)
     | _=>exact h.no.elim
end Mv
namespace Mv
open PySem PySem.Spec PyProof.Rows L2
section
variable {prog:Program} {w:World} {A:Around} {E:Value->Shared->Prop} {s:Shared}
variable {z TI TO i1 i2:Addr} {fp1 fp2:List Addr} {n1 n2 i:Nat} {P1 P2:Nat->Value->Prop} {St1 St2:Nat->Heap->Prop} {a1 a2:Value}
end
namespace F3
end F3
section
variable {prog:Program} {w:World} {A:Around} {E:Value->Shared->Prop} {s:Shared}
end
def SdAt (K:PySem.W.Frag) (b:Bool) (H:Hp) (a:Addr) (xs:List V):Prop:=match b with
 | true=>SqL K H a xs
 | false=>SqT K H a xs
end Mv
namespace Mv
open PySem PySem.Spec PyProof.Rows L2
section
variable {M:Model} {A:Around} {E:Value->Shared->Prop} {s:Shared} {env:Env}
end
section
variable {X:Cx} {e e2:Expr} {ta:TA} {p pos tpos:Pos} {elts:List Expr} {kk:Nat}
end
section
variable {prog:Program} {w:World} {A:Around} {E:Value->Shared->Prop} {s:Shared}
end
end Mv
namespace Mv
open PySem PySem.Spec PyProof.Rows L2
section
variable {K:PySem.W.Frag} {ι:Nat->Addr} {H:Hp} {L:LH}
inductive SdOk (K:PySem.W.Frag) (H:Hp) (ι:Nat->Addr) (n:Nat):Bool->Addr->LV->Prop
 | tup {a:Addr} {xs:List V} {ds:List LV}:SqN K H a xs->RVs K H ι n xs ds->SdOk K H ι n false a (.tup ds)
 | lst (k:Nat):k < n->SdOk K H ι n true (ι k) (.ref k)
theorem SdOk.mono {b:Bool} {a:Addr} {d:LV} {n n':Nat} {ι':Nat->Addr} {H':Hp} (h:SdOk K H ι n b a d) (ev:Ev K ι H n ι' H' n'):SdOk K H' ι' n' b a d:=by
 cases h with
 | tup h r=>exact .tup (ev.tp _ _ h) (r.mono ev)
 | lst k hk =>
  rw [<- ev.pl k hk]
  exact .lst k (Nat.lt_of_lt_of_le hk ev.le)
theorem SdOk.at {b:Bool} {a:Addr} {d:LV} {ds:List LV} (h:SdOk K H ι L.length b a d) (rp:Rep K ι H L) (e:Mv.items L d = some ds):∃ xs,SdAt K b H a xs∧RVs K H ι L.length xs ds:=by
 cases h with
 | tup h r =>
  cases e
  exact ⟨_,h.1,r⟩
 | lst k hk=>exact rp.listOf e
end
section
variable {X:Cx} {W:XW} {a b:Expr} {ma mb:LSt->M LV} {pos p tpos:Pos} {elts:List Expr} {kk:Nat}
end
end Mv
namespace Mv
open PySem PySem.Spec PyProof.Rows L2
section
variable {X:Cx} {W:XW} {tg iter elt:Expr} {ifs:List Expr} {scope:Scope} {own:List (Str × Nat)} {pos:Pos}
 {mt:LV->LSt->M LSt} {mi:LSt->M Src} {mc:LSt->M Bool} {me:LSt->M LV}
abbrev AllB (X:Cx) (scope:Scope) (p:Cx->Prop):Prop:=∀ (s:Shared) (H:Hp) (C:Addr) (cl:List (Str × Addr)) (fp:List Addr),p (X.blk s H scope (compEnvC scope cl C X.env) fp)
theorem e_comp (G:Good X) (hi:PI X tg iter (tSrc X.K W0 mi)) (ok:BlkOk X.N X.env.scope scope own)
  (hg:AllB X scope fun Y=>PG Y tg (tgI X.K W0 (own.map (·.2)) mt)) (ht:AllB X scope fun Y=>PTs Y ifs (tG X.K W0 Eqr mc)) (he:AllB X scope fun Y=>PE Y elt (tI X.K W0 me))
  (hs:∀ x,foldedSetIterable iter X.env x = pure x):PE X (.ListComp elt [⟨tg,iter,ifs,0⟩] scope pos) (tI X.K W (fun σ=>M.quiet (compM (own.map (·.2)) mt mi mc me σ))) :=
 PE.imp (pe_lc G.calm G.nd hi ok hg ht he hs) fun σ H Q ⟨ι,σ',L,h⟩=>comp_at winv0 ⟨ι,σ',L,At.quiet h⟩
theorem Good.blk (G:Good X) {s:Shared} {H:Hp} {C:Addr} {cl:List (Str × Addr)} {fp:List Addr}:Good (X.blk s H scope (compEnvC scope cl C X.env) fp):=⟨⟨G.hg,G.hu,G.nd,G.dg⟩,G.calm⟩
theorem GoodH.blk (G:GoodH X) {s:Shared} {H:Hp} {C:Addr} {cl:List (Str × Addr)} {fp:List Addr}:GoodH (X.blk s H scope (compEnvC scope cl C X.env) fp):=⟨G.hg,G.hu,G.nd,G.dg⟩
end
inductive FlV where
 | nx | bk | ct | rt (v:V)
def sameFl (K:PySem.W.Frag) (H:Hp) (ι:Nat->Addr) (n:Nat):FlV->Fl->Prop
 | .nx,.nx=>True
 | .bk,.bk=>True
 | .ct,.ct=>True
 | .rt v,.rt d=>RV K H ι n v d
 | _,_=>False
def FlR (K:PySem.W.Frag) (n0:Nat):Rl (Fl × LSt) (FlV × L2.St):=fun H ι n v d=>RS K H ι n v.2 d.2∧v.2.length = n0∧sameFl K H ι n v.1 d.1
def endsQ (D:Ends):FlV × L2.St->Hp->Prop:=fun v H=>match v.1 with
 | .nx=>D.nx v.2 H
 | .bk=>D.bk v.2 H
 | .ct=>D.ct v.2 H
 | .rt u=>D.rt u H
def tS (K:PySem.W.Frag) (W:XW) (m:LSt->M (Fl × LSt)):TS:=fun D σV H=>tG K W (FlR K σV.length) m σV H (endsQ D)
section
variable {K:PySem.W.Frag} {W:XW} {D:Ends} {σV σ1V:L2.St} {σ σ1:LSt} {ι:Nat->Addr} {L:LH} {H:Hp} {n0:Nat}
theorem At.nx (h:At K W (FlR K n0) σV σ ι L (M.ret (Fl.nx,σ1) L) (endsQ D) H) (r:RS K H ι L.length σ1V σ1) (hl:σ1V.length = n0):D.nx σ1V H:=At.ret (v:=(FlV.nx,σ1V)) h ⟨r,hl,trivial⟩
theorem At.rt {d:LV} {v:V} (h:At K W (FlR K n0) σV σ ι L (M.ret (Fl.rt d,σ1) L) (endsQ D) H) (r:RS K H ι L.length σ1V σ1) (hl:σ1V.length = n0) (rv:RV K H ι L.length v d):D.rt v H:=At.ret (v:=(FlV.rt v,σ1V)) h ⟨r,hl,rv⟩
theorem At.bk (h:At K W (FlR K n0) σV σ ι L (M.ret (Fl.bk,σ1) L) (endsQ D) H) (r:RS K H ι L.length σ1V σ1) (hl:σ1V.length = n0):D.bk σ1V H:=At.ret (v:=(FlV.bk,σ1V)) h ⟨r,hl,trivial⟩
theorem At.ct (h:At K W (FlR K n0) σV σ ι L (M.ret (Fl.ct,σ1) L) (endsQ D) H) (r:RS K H ι L.length σ1V σ1) (hl:σ1V.length = n0):D.ct σ1V H:=At.ret (v:=(FlV.ct,σ1V)) h ⟨r,hl,trivial⟩
theorem At.onS (hW:WInv W) {m:LSt->M (Fl × LSt)} (h:At K W (FlR K σV.length) σV σ ι L (m σ1 L) (endsQ D) H) (r:RS K H ι L.length σ1V σ1) (hl:σ1V.length = σV.length):tS K W m D σ1V H:=by
 have h:=h.rebase hW r hl
 rw [<- hl] at h
 exact ⟨ι,σ1,L,h⟩
end
def seqM (m1 m2:LSt->M (Fl × LSt)):LSt->M (Fl × LSt):=fun σ=>M.bind (m1 σ) fun (x:Fl × LSt)=>match x with
  | (.nx,σ1)=>m2 σ1
  | (f,σ1)=>M.ret (f,σ1)
def asgM (me:LSt->M LV) (mt:LV->LSt->M LSt):LSt->M (Fl × LSt):=fun σ=>M.bind (me σ) fun x=>M.bind (mt x σ) fun σ1=>M.ret (.nx,σ1)
def ifsM (mc:LSt->M LV) (ma mb:LSt->M (Fl × LSt)):LSt->M (Fl × LSt):=fun σ=>M.bind (mc σ) fun x=>match x with
  | .bl true=>ma σ
  | .bl false=>mb σ
  | _=>M.no
def forM (mi:LSt->M Src) (mt:LV->LSt->M LSt) (mb:LSt->M (Fl × LSt)):LSt->M (Fl × LSt):=fun σ=>M.bind (mi σ) fun src=>forGo src (fun x σ1=>M.bind (mt x σ1) fun σ2=>mb σ2) src.len 0 σ
def augM (i:Nat) (op:BOp) (me:LSt->M LV):LSt->M (Fl × LSt):=fun σ=>M.bind (getV σ i) fun x=>M.bind (me σ) fun y=>M.bind (augV op x y) fun z=>M.ret (.nx,σ.set i (some z))
def parM (is:List Nat) (ms:LSt->M (List LV)):LSt->M (Fl × LSt):=fun σ=>M.bind (ms σ) fun xs=>M.ofO (setAll σ is xs) fun σ1=>M.ret (.nx,σ1)
section
variable {X:Cx} {W:XW} {st:Stmt} {rest:List Stmt} {e tg c:Expr} {pos:Pos} {me mc:LSt->M LV} {m1 m2:LSt->M (Fl × LSt)} {mt:LV->LSt->M LSt} {own:List Nat}
theorem b_nil:PSs X [] (tS X.K W fun σ=>M.ret (.nx,σ)):=PSs.imp pss_nil fun D σV H ⟨ι,σ,L,h⟩=>h.nx h.rs rfl
theorem b_cons (hW:WInv W) (h1:PS X st (tS X.K W m1)) (h2:PSs X rest (tS X.K W m2)):PSs X (st :: rest) (tS X.K W (seqM m1 m2)) :=
 PSs.imp (pss_cons h1 h2) fun D σV H ⟨ι,σ,L,h⟩=>by
  refine ⟨ι,σ,L,(At.bind (R:=FlR X.K σV.length) h).imp fun v H1 ⟨d,ι1,L1,q,ev,h⟩=>?_⟩
  obtain ⟨f,σ1V⟩:=v
  obtain ⟨g,σ1⟩:=d
  obtain ⟨q1,q2,q3⟩:=q
  cases f with
  | nx =>
   cases g with
   | nx=>exact At.onS hW h q1 q2
   | _=>exact False.elim q3
  | bk =>
   cases g with
   | bk =>
    have h:At X.K W (FlR X.K σV.length) σV σ ι1 L1 (M.ret (Fl.bk,σ1) L1) (endsQ D) H1:=h
    exact h.bk q1 q2
   | _=>exact False.elim q3
  | ct =>
   cases g with
   | ct =>
    have h:At X.K W (FlR X.K σV.length) σV σ ι1 L1 (M.ret (Fl.ct,σ1) L1) (endsQ D) H1:=h
    exact h.ct q1 q2
   | _=>exact False.elim q3
  | rt u =>
   cases g with
   | rt d=>exact h.rt q1 q2 q3
   | _=>exact False.elim q3
theorem s_asg (he:PE X e (tI X.K W me)) (hg:PG X tg (tgI X.K W own mt)) (hs:swapsWithSole [tg] e pos.line X.env = pure false) (hw:swappedStores [tg] e X.env = pure none)
  (h1:(assignEach [tg] X.env).map (·.2) = [assign tg X.env]):PS X (.Assign [tg] e pos) (tS X.K W (asgM me mt)) :=
 PS.imp (ps_asg he hg hs hw h1) fun D σV H ⟨ι,σ,L,h⟩=>by
  refine ⟨ι,σ,L,(At.bind (R:=RVr X.K) h).imp fun x H1 ⟨d,ι1,L1,r1,ev,h⟩=>?_⟩
  refine ⟨ι1,σ,L1,d,r1,(At.bind (R:=RSo X.K own σV) h).imp fun σ1 H2 ⟨σ',ι2,L2,q,ev2,h⟩=>?_⟩
  exact h.nx q.1 q.2.1
theorem s_exp (he:PE X e (tI X.K W me)) (hs:swapsWith e none pos.line X.env = pure false):PS X (.Expr e pos) (tS X.K W fun σ=>M.bind (me σ) fun _=>M.ret (.nx,σ)) :=
 PS.imp (ps_expr he hs) fun D σV H ⟨ι,σ,L,h⟩=>⟨ι,σ,L,(At.bind (R:=RVr X.K) h).imp fun x H1 ⟨d,ι1,L1,r1,ev,h⟩=>h.nx h.rs rfl⟩
theorem s_ret (he:PE X e (tI X.K W me)):PS X (.Return (some e) pos) (tS X.K W fun σ=>M.bind (me σ) fun x=>M.ret (.rt x,σ)) :=
 PS.imp (ps_ret he) fun D σV H ⟨ι,σ,L,h⟩=>⟨ι,σ,L,(At.bind (R:=RVr X.K) h).imp fun x H1 ⟨d,ι1,L1,r1,ev,h⟩=>h.rt h.rs rfl r1⟩
theorem s_ifs {a b:List Stmt} (hc:PT X c (tT X.K W mc)) (ha:PSs X a (tS X.K W m1)) (hb:PSs X b (tS X.K W m2)):PS X (.If c a b pos) (tS X.K W (ifsM mc m1 m2)) :=
 PS.imp (ps_if hc ha hb) fun D σV H ⟨ι,σ,L,h⟩=>by
  refine ⟨ι,σ,L,(At.bind (R:=RVr X.K) h).imp fun x H1 ⟨d,ι1,L1,r1,ev,h⟩=>?_⟩
  cases d with
  | bl k =>
   cases r1
   refine ⟨k,rfl,?_⟩
   cases k with
   | true=>rw [if_pos rfl]; exact ⟨ι1,σ,L1,h⟩
   | false=>rw [if_neg Bool.false_ne_true]; exact ⟨ι1,σ,L1,h⟩
  | _=>exact h.no.elim
theorem aug_ok (op:BOp):PIp X (opOf op) (fun x y H Q=>match op with
  | .add=>rI0 (fun i j=>.int (i + j)) x y H Q
  | .sub=>rI0 (fun i j=>.int (i - j)) x y H Q
  | .mul=>rI CMul (fun i j=>.int (i * j)) x y H Q
  | .fdiv=>rI CDiv (fun i j=>.int (i / j)) x y H Q
  | _=>False):=by
 cases op with
 | add=>exact iop_add
 | sub=>exact iop_sub
 | mul=>exact iop_mul
 | fdiv=>exact iop_fdiv
 | _=>exact fun _ _ _ _ _ _ _ _ _ _ _ _ h=>h.elim
theorem s_aug {i:Nat} {x:Str} {p:Pos} (op:BOp) (G:GoodH X) (hi:X.N[i]? = some x) (hx:Loc X.env.scope x) (he:PE X e (tI X.K W me)) (hf:X.fn x = true∨X.env.scope.names.lookup x = some .local) :
  PS X (.AugAssign (.Name x p) (opOf op) e pos) (tS X.K W (augM i op me)) :=
 PS.imp (ps_aug G.nd hi hx he (aug_ok op) hf) fun D σV H ⟨ι,σ,L,h⟩=>by
  have h:At X.K W (FlR X.K σV.length) σV σ ι L (M.bind (getR σ[i]?) (fun x=>M.bind (me σ) fun y=>M.bind (augV op x y) fun z=>M.ret (.nx,σ.set i (some z))) L) (endsQ D) H:=h
  generalize e1:σ[i]? = o at h
  cases o with
  | none=>exact (At.no h).elim
  | some o =>
   cases o with
   | none=>exact (At.no h).elim
   | some d0 =>
    obtain ⟨v0,h1,r0⟩:=h.rs.at_ i d0 e1
    have h:At X.K W (FlR X.K σV.length) σV σ ι L (M.bind (me σ) (fun y=>M.bind (augV op d0 y) fun z=>M.ret (.nx,σ.set i (some z))) L) (endsQ D) H:=h
    refine ⟨v0,h1,ι,σ,L,(At.bind (R:=RVr X.K) h).imp fun y H1 ⟨d,ι1,L1,r1,ev,h⟩=>?_⟩
    have r0:=r0.mono ev
    have fin:∀ {z:Int},At X.K W (FlR X.K σV.length) σV σ ι1 L1 (M.ret (Fl.nx,σ.set i (some (.int z))) L1) (endsQ D) H1->D.nx (σV.set i (some (.int z))) H1:=fun {z} h=>h.nx (h.rs.set i (.int z)) (by rw [List.length_set])
    cases op with
    | add=>cases d0 <;> cases d <;> first
     | exact (At.no h).elim
     | (cases r0; cases r1; exact ⟨_,_,rfl,rfl,fin h⟩)
    | sub=>cases d0 <;> cases d <;> first
     | exact (At.no h).elim
     | (cases r0; cases r1; exact ⟨_,_,rfl,rfl,fin h⟩)
    | mul =>
     cases d0 with
     | int a =>
      cases d with
      | int b =>
       cases r0
       cases r1
       have h:At X.K W (FlR X.K σV.length) σV σ ι1 L1 (M.bind (M.chk (decide ((-(2 ^ 64) < a∧a < 2 ^ 64)∨(-(2 ^ 64) < b∧b < 2 ^ 64))) (M.ret (LV.int (a * b)))) (fun z=>M.ret (Fl.nx,σ.set i (some z))) L1) (endsQ D) H1:=h
       by_cases c:(-(2 ^ 64) < a∧a < 2 ^ 64)∨(-(2 ^ 64) < b∧b < 2 ^ 64)
       ·rw [decide_eq_true c] at h
        exact ⟨_,_,rfl,rfl,c,fin h⟩
       ·rw [decide_eq_false c] at h
        exact (At.no h).elim
      | _=>exact (At.no h).elim
     | _=>cases d <;> exact (At.no h).elim
    | fdiv =>
     cases d0 with
     | int a =>
      cases d with
      | int b =>
       cases r0
       cases r1
       have h:At X.K W (FlR X.K σV.length) σV σ ι1 L1 (M.bind (M.chk (decide (0 < b∧b < 1073741824)) (M.ret (LV.int (a / b)))) (fun z=>M.ret (Fl.nx,σ.set i (some z))) L1) (endsQ D) H1:=h
       by_cases c:0 < b∧b < 1073741824
       ·rw [decide_eq_true c] at h
        exact ⟨_,_,rfl,rfl,c,fin h⟩
       ·rw [decide_eq_false c] at h
        exact (At.no h).elim
      | _=>exact (At.no h).elim
     | _=>cases d <;> exact (At.no h).elim
    | mod=>cases d0 <;> cases d <;> exact (At.no h).elim
    | pow=>cases d0 <;> cases d <;> exact (At.no h).elim
theorem setAll_two {i j:Nat} {σ1:LSt}:∀ {ds:List LV} {σ:LSt},setAll σ [i,j] ds = some σ1->∃ d1 d2,ds = [d1,d2]∧σ1 = (σ.set i (some d1)).set j (some d2)
 | [],_,e=>by cases e
 | [_],_,e=>by
  unfold setAll at e
  split at e <;> cases e
 | [d1,d2],σ,e=>by
  unfold setAll at e
  split at e
  ·unfold setAll at e
   split at e
   ·cases e
    exact ⟨d1,d2,rfl,rfl⟩
   ·cases e
  ·cases e
 | _ :: _ :: _ :: _,_,e=>by
  unfold setAll at e
  split at e
  ·unfold setAll at e
   split at e <;> cases e
  ·cases e
theorem s_par {i j:Nat} {x y:Str} {a b:Expr} {ms:LSt->M (List LV)} {px py pt:Pos} {kt k2 pt2} (G:Good X) (hi:X.N[i]? = some x) (hj:X.N[j]? = some y) (hij:i≠j)
  (hx:X.env.scope.names.lookup x = some .local) (hy:X.env.scope.names.lookup y = some .local) (ha:PA X [a,b] (tIs X.K W ms))
  (hw:swappedStores [.Tuple [.Name x px,.Name y py] kt pt] (.Tuple [a,b] k2 pt2) X.env = pure (some [x,y]))
  (hs:swapsWithSole [.Tuple [.Name x px,.Name y py] kt pt] (.Tuple [a,b] k2 pt2) pos.line X.env = pure false) :
  PS X (.Assign [.Tuple [.Name x px,.Name y py] kt pt] (.Tuple [a,b] k2 pt2) pos) (tS X.K W (parM [i,j] ms)) :=
 PS.imp (L2.ps_par G.calm G.nd hi hj hij hx hy ha hw hs) fun D σV H ⟨ι,σ,L,h⟩=>by
  refine ⟨ι,σ,L,(At.bind (R:=RVsr X.K) h).imp fun vs H1 ⟨ds,ι1,L1,r1,ev,h⟩=>?_⟩
  obtain ⟨σ1,e,h⟩:=At.ofO h
  obtain ⟨d1,d2,rfl,rfl⟩:=setAll_two e
  match r1 with
  | .cons (v:=v1) r1 (.cons (v:=v2) r2 .nil)=>exact ⟨v1,v2,rfl,h.nx ((h.rs.set i r1).set j r2) (by rw [List.length_set,List.length_set])⟩
end
section
variable {X:Cx} {W:XW} {body:List Stmt} {iter tg c:Expr} {pos:Pos} {mc:LSt->M LV} {mb:LSt->M (Fl × LSt)} {mt:LV->LSt->M LSt} {mi:LSt->M Src} {own:List Nat}
theorem loop_end {K:PySem.W.Frag} {n0:Nat} {D:Ends} {N:L2.St->Hp->Prop} {σV:L2.St} {σ:LSt} {ι:Nat->Addr} {L:LH} {H:Hp} {m:LSt->M (Fl × LSt)} (hW:WInv W) (hn:σV.length = n0)
  (h:At K W (FlR K n0) σV σ ι L (M.bind (mb σ) (fun (r:Fl × LSt)=>match r with
   | (.nx,σ1)=>m σ1
   | (.ct,σ1)=>m σ1
   | (.bk,σ1)=>M.ret (.nx,σ1)
   | (.rt v,σ1)=>M.ret (.rt v,σ1)) L) (endsQ D) H)
  (hN:∀ σ1V σ1 ι1 L1 H1,σ1V.length = n0->Ev K ι H L.length ι1 H1 L1.length->At K W (FlR K n0) σ1V σ1 ι1 L1 (m σ1 L1) (endsQ D) H1->N σ1V H1):tS K W mb { D with nx:=N,ct:=N,bk:=D.nx } σV H:=by
 subst hn
 refine ⟨ι,σ,L,(At.bind (R:=FlR K σV.length) h).imp fun v H1 ⟨d,ι1,L1,q,ev,h⟩=>?_⟩
 obtain ⟨f,σ1V⟩:=v
 obtain ⟨g,σ1⟩:=d
 obtain ⟨q1,q2,q3⟩:=q
 cases f with
 | nx =>
  cases g with
  | nx=>exact hN σ1V σ1 ι1 L1 H1 q2 ev (At.rebase hW h q1 q2)
  | _=>exact False.elim q3
 | bk =>
  cases g with
  | bk=>exact h.nx q1 q2
  | _=>exact False.elim q3
 | ct =>
  cases g with
  | ct=>exact hN σ1V σ1 ι1 L1 H1 q2 ev (At.rebase hW h q1 q2)
  | _=>exact False.elim q3
 | rt u =>
  cases g with
  | rt d=>exact h.rt q1 q2 q3
  | _=>exact False.elim q3
theorem s_for (G:Good X) (hW:WInv W) (hp:PassesOwn (model X.prog X.w) X.A X.env X.xe) (hi:PI X tg iter (tSrc X.K W mi)) (hg:PG X tg (tgI X.K W own mt)) (hb:PSs X body (tS X.K W mb)) (hs:∀ x,foldedSetIterable iter X.env x = pure x) :
  PS X (.For tg iter body [] pos) (tS X.K W (forM mi mt mb)) :=
 PS.imp (ps_for hp G.calm hi hg hb hs) fun D σV H ⟨ι,σ,L,h⟩=>by
  refine ⟨ι,σ,L,(At.bind (R:=SrcR X.K) h).imp fun J H1 ⟨src,ι1,L1,hJ,ev1,h⟩=>?_⟩
  refine ⟨fun i m σV' H'=>m + i = src.len∧σV'.length = σV.length∧∃ ι σ L,Ev X.K ι1 H1 L1.length ι H' L.length∧At X.K W (FlR X.K σV.length) σV' σ ι L (forGo src (fun x σ1=>M.bind (mt x σ1) fun σ2=>mb σ2) m i σ L) (endsQ D) H',
   ⟨src.len,rfl,rfl,ι1,σ,L1,Ev.refl,h⟩,?_⟩
  rintro i m σV2 H2 ⟨em,hl2,ι2,σ2,L2,ev2,h⟩
  obtain ⟨j1,j2⟩:=hJ H2 ι2 L2 ev2 h.rep
  cases m with
  | zero =>
   have h:At X.K W (FlR X.K σV.length) σV2 σ2 ι2 L2 (if src.fin L2 then some (.ok (Fl.nx,σ2) L2) else none) (endsQ D) H2:=h
   cases hf:src.fin L2 with
   | false=>rw [hf] at h; exact h.none.elim
   | true =>
    rw [hf] at h
    have ei:i = src.len:=by omega
    have h:At X.K W (FlR X.K σV.length) σV2 σ2 ι2 L2 (M.ret (Fl.nx,σ2) L2) (endsQ D) H2:=h
    exact .inl ⟨by rw [ei]; exact j2 hf,h.nx h.rs hl2⟩
  | succ m =>
   have h:At X.K W (FlR X.K σV.length) σV2 σ2 ι2 L2 (match src.at i L2 with
    | none=>none
    | some x=>M.bind (M.bind (mt x σ2) fun σ3=>mb σ3) (fun (r:Fl × LSt)=>match r with
     | (.nx,σ1)=>forGo src (fun x σ1=>M.bind (mt x σ1) fun σ2=>mb σ2) m (i + 1) σ1
     | (.ct,σ1)=>forGo src (fun x σ1=>M.bind (mt x σ1) fun σ2=>mb σ2) m (i + 1) σ1
     | (.bk,σ1)=>M.ret (.nx,σ1)
     | (.rt v,σ1)=>M.ret (.rt v,σ1)) L2) (endsQ D) H2:=h
   cases hx:src.at i L2 with
   | none=>rw [hx] at h; exact h.none.elim
   | some x =>
    rw [hx] at h
    obtain ⟨j3,j4⟩:=j1 i x hx
    refine .inr ⟨j3,fun σV' H'=>m + (i + 1) = src.len∧σV'.length = σV.length∧∃ ι σ L,Ev X.K ι1 H1 L1.length ι H' L.length∧At X.K W (FlR X.K σV.length) σV' σ ι L (forGo src (fun x σ1=>M.bind (mt x σ1) fun σ2=>mb σ2) m (i + 1) σ L) (endsQ D) H',fun σ' H' z=>⟨m,Nat.lt_succ_self m,z⟩,fun xV H3 y=>?_⟩
    obtain ⟨ev3,rp3,rx⟩:=j4 xV H3 y
    have h:=h.move ev3 rp3
    have h:=At.eqr h (congrFun (M.bind_bind (mt x σ2) (fun σ3=>mb σ3) _) L2)
    refine ⟨ι2,σ2,L2,x,rx,(At.bind (R:=RSo X.K own σV2) h).imp fun σV4 H4 ⟨σ4,ι4,L4,q4,ev4,h⟩=>?_⟩
    have hl4:σV4.length = σV.length:=q4.2.1.trans hl2
    have h:=At.rebase hW h q4.1 q4.2.1
    exact loop_end hW hl4 h fun σ1V σ1 ι5 L5 H5 hl5 ev5 h=>⟨by omega,hl5,ι5,σ1,L5,((ev2.trans ev3).trans ev4).trans ev5,h⟩
theorem s_whl (G:GoodH X) (hW:WInv W) (hp:PassesOwn (model X.prog X.w) X.A X.env X.xe) (hc:PT X c (tT X.K W mc)) (hb:PSs X body (tS X.K W mb)):PS X (.While c body [] pos) (tS X.K W fun σ=>whlGo mc mb fuel σ) :=
 PS.imp (ps_while hp hc hb) fun D σV H ⟨ι,σ,L,h⟩=>by
  refine ⟨fun m σV' H'=>σV'.length = σV.length∧∃ ι σ L,At X.K W (FlR X.K σV.length) σV' σ ι L (whlGo mc mb m σ L) (endsQ D) H',⟨fuel,rfl,ι,σ,L,h⟩,?_⟩
  rintro m σV2 H2 ⟨hl2,ι2,σ2,L2,h⟩
  cases m with
  | zero=>exact (At.no h).elim
  | succ m =>
   have h:At X.K W (FlR X.K σV.length) σV2 σ2 ι2 L2 (M.bind (mc σ2) (fun x=>match x with
    | .bl false=>M.ret (.nx,σ2)
    | .bl true=>M.bind (mb σ2) fun (r:Fl × LSt)=>match r with
     | (.nx,σ1)=>whlGo mc mb m σ1
     | (.ct,σ1)=>whlGo mc mb m σ1
     | (.bk,σ1)=>M.ret (.nx,σ1)
     | (.rt v,σ1)=>M.ret (.rt v,σ1)
    | _=>M.no) L2) (endsQ D) H2:=h
   refine ⟨ι2,σ2,L2,(At.bind (R:=RVr X.K) h).imp fun x H3 ⟨d,ι3,L3,r3,ev3,h⟩=>?_⟩
   cases d with
   | bl k =>
    cases r3
    refine ⟨k,rfl,?_⟩
    cases k with
    | false =>
     rw [if_neg Bool.false_ne_true]
     exact At.nx h h.rs hl2
    | true =>
     rw [if_pos rfl]
     refine ⟨fun σV' H'=>σV'.length = σV.length∧∃ ι σ L,At X.K W (FlR X.K σV.length) σV' σ ι L (whlGo mc mb m σ L) (endsQ D) H',fun σ' H' z=>⟨m,Nat.lt_succ_self m,z⟩,?_⟩
     exact loop_end hW hl2 h fun σ1V σ1 ι5 L5 H5 hl5 ev5 h=>⟨hl5,ι5,σ1,L5,h⟩
   | _=>exact (At.no h).elim
end
end Mv
namespace Mv
open PySem PySem.Spec PyProof.Rows L2
section
variable {K:PySem.W.Frag} {W:XW} {σV:L2.St} {σ:LSt} {ι:Nat->Addr} {L:LH} {H:Hp} {Q:VK} {cs:List Str} {f:Str} {d:LV} {x:V}
end
section
variable {X:Cx} {W:XW} {a o e:Expr} {ma mo me:LSt->M LV} {pos p:Pos} {cs:List Str} {f:Str}
end
section
variable {X:Cx} {W:XW} {f:Addr} {fd:FuncData} {ps ks:List Str} {k np:Nat} {R:List LV->M LV} {perm:List Nat} {pins:List (Addr × Obj)} {σV:L2.St} {σ:LSt} {H:Hp} {s:Shared} {ι:Nat->Addr} {L:LH} {Q:VK} {A:Around}
end
end Mv
namespace Mv
open PySem PySem.Spec PyProof.Rows L2
section
variable {X:Cx} {W:XW} {f C:Addr} {fd:FuncData} {ps ks:List Str} {k np:Nat} {Rc:Cal} {perm:List Nat} {pins:List (Addr × Obj)} {σV:L2.St} {σ:LSt} {H:Hp} {s:Shared} {ι:Nat->Addr} {L:LH} {Q:VK} {A:Around} {dl:List LV} {c:Str} {g:Nat}
end
section
variable {X:Cx} {W:XW} {pos p apos:Pos} {c x m:Str} {k np g:Nat} {Rc:Cal} {R:List LV->M LV} {perm:List Nat} {ms mk:LSt->M (List LV)} {mo:LSt->M LV} {a o:Expr} {es:List Expr} {kws:List Keyword} {ks:List Str} {dl:List LV} {cs:List (Str × Nat)}
end
end Mv
namespace Mv
open PySem PySem.Spec PyProof.Rows L2
section
variable {X:Cx} {pins:List (Addr × Obj)} {σV:L2.St} {H:Hp} {s:Shared} {ι:Nat->Addr} {L:LH}
end
section
variable {X:Cx} {W:XW} {pos p p' apos:Pos} {c x m f:Str} {k np g:Nat} {Rc:Cal} {R:List LV->M LV} {perm:List Nat} {ms mk:LSt->M (List LV)} {mo ma mb:LSt->M LV} {a b o:Expr} {es:List Expr} {kws:List Keyword} {ks:List Str} {dl:List LV} {cs:List (Str × Nat)} {bs:List (Str × Bool)}
end
section
open PySem.W PySem.Calls
variable {prog:Program} {w:World} {M:Model} {A:Around} {E:Value->Shared->Prop} {s:Shared} {K:Frag} {x C f:Addr} {ox:Obj} {od:Option Obj} {name:Str} {b tb:Value}
end
end Mv
namespace Mv
open PySem PySem.Spec PyProof.Rows L2
section
variable {X:Cx} {W:XW} {pos p p' apos:Pos} {c x m f:Str} {k np g:Nat} {Rc:Cal} {R:List LV->M LV} {perm:List Nat} {ms mk:LSt->M (List LV)} {mo ma mb:LSt->M LV} {a b o:Expr} {es:List Expr} {kws:List Keyword} {ks:List Str} {dl:List LV} {cs:List (Str × Nat)}
 {pins:List (Addr × Obj)} {σV:L2.St} {σ:LSt} {H:Hp} {s:Shared} {ι:Nat->Addr} {L:LH} {Q:VK}
end
section
open PySem.W PySem.Calls
variable {prog:Program} {w:World} {A:Around} {E:Value->Shared->Prop} {s:Shared} {K:Frag} {x C f:Addr} {ox:Obj} {od:Option Obj}
end
section
variable {X:Cx} {W:XW} {pos p p' apos:Pos} {c x m f:Str} {k np g:Nat} {Rc:Cal} {R:List LV->M LV} {perm:List Nat} {ms mk:LSt->M (List LV)} {mo ma mb:LSt->M LV} {a b o:Expr} {es:List Expr} {kws:List Keyword} {ks:List Str} {dl:List LV} {cs:List (Str × Nat)}
variable {fa:Addr} {fd:FuncData} {ps:List Str}
end
section
variable {X:Cx} {W:XW} {R:Cal} {pos:Pos} {e:Expr} {me:LSt->M LV}
end
end Mv
namespace Mv
open PySem PySem.Spec PyProof.Rows L2
abbrev EE (X:Cx) (W:XW) (R:Cal) (e:Expr) (i:IE):Prop:=PE X e (tI X.K W (evE R i))
abbrev ET (X:Cx) (W:XW) (R:Cal) (e:Expr) (i:IE):Prop:=PT X e (tT X.K W (evE R i))
abbrev EW (X:Cx) (W:XW) (R:Cal) (e:Expr) (i:IE):Prop:=PW X e (tT X.K W (evE R i))
abbrev EA (X:Cx) (W:XW) (R:Cal) (es:List Expr) (is:IEs):Prop:=PA X es (tIs X.K W (evEs R is))
abbrev EK (X:Cx) (W:XW) (R:Cal) (es:List Keyword) (is:IEs):Prop:=PK X es (tIs X.K W (evEs R is))
abbrev EO (X:Cx) (W:XW) (R:Cal) (e:Option Expr) (i:IO):Prop:=PO X e (tIO X.K W (evO R i))
abbrev EC (X:Cx) (W:XW) (R:Cal) (es:List Expr) (i:IO):Prop:=PTs X es (tG X.K W Eqr (evC R i))
abbrev EI (X:Cx) (W:XW) (R:Cal) (tg e:Expr) (i:II):Prop:=PI X tg e (tSrc X.K W (evI R i))
abbrev EG (X:Cx) (W:XW) (R:Cal) (own:List Nat) (e:Expr) (t:IT):Prop:=PG X e (tgI X.K W own (evT R t))
abbrev EGs (X:Cx) (W:XW) (R:Cal) (own:List Nat) (e:List Expr) (t:ITs):Prop:=PGs X e (tgsI X.K W own (evTs R t))
abbrev ES (X:Cx) (W:XW) (R:Cal) (s:Stmt) (i:IS):Prop:=PS X s (tS X.K W (evS R i))
abbrev EB (X:Cx) (W:XW) (R:Cal) (s:List Stmt) (i:List IS):Prop:=PSs X s (tS X.K W (evB R i))
section
variable {X:Cx} {W:XW} {R:Cal} {a b c e tg:Expr} {ia ib ic ie:IE} {es rest:List Expr} {is:IEs} {pos p p2 p3:Pos} {j k:Nat}
theorem E_var {i:Nat} {x:Str} (hN:X.N[i]? = some x) (hv:Vis X.env.scope x) (hd:(x == ("__debug__":Str)) = false) (hcd:(x == ("__classdict__":Str)) = false):EE X W R (.Name x pos) (.var i):=e_var hN hv hd hcd
theorem E_int {i:Int}:EE X W R (.Constant (.int i) j pos) (.lit (.int i)):=e_int
theorem E_str {i:Str}:EE X W R (.Constant (.str i) j pos) (.lit (.str i)):=e_str
theorem E_bl {i:Bool}:EE X W R (.Constant (.bool i) j pos) (.lit (.bl i)):=e_bl
theorem E_non:EE X W R (.Constant .none j pos) (.lit .non):=e_non
theorem E_bin (op:BOp) (ha:EE X W R a ia) (hb:EE X W R b ib):EE X W R (.BinOp a (opOf op) b pos) (.bin op ia ib):=e_bin op ha hb
theorem E_neg (ha:EE X W R a ia):EE X W R (.UnaryOp .USub a pos) (.neg ia):=e_neg ha
theorem E_cmp (G:GoodH X) (op:COp) (ha:EE X W R a ia) (hb:EE X W R b ib) (hm:behindInMarks (copOf op) b = false:=by rfl):EE X W R (.Compare a [copOf op] [b] pos) (.cmp op ia ib):=e_cmp G op ha hb hm
theorem T_cmp (G:GoodH X) (op:COp) (ha:EE X W R a ia) (hb:EE X W R b ib) (hm:behindInMarks (copOf op) b = false:=by rfl):ET X W R (.Compare a [copOf op] [b] pos) (.cmp op ia ib):=t_cmp G op ha hb hm
theorem E_cmp2 (G:GoodH X) (op op':COp) (ha:EE X W R a ia) (hb:EE X W R b ib) (hc:EE X W R c ic) (hm:lastMarks [copOf op,copOf op'] [b,c] = false:=by rfl):EE X W R (.Compare a [copOf op,copOf op'] [b,c] pos) (.cmp2 op op' ia ib ic):=e_chain G op op' ha hb hc hm
theorem E_one {op:BoolOp} (ha:EE X W R a ia):EE X W R (.BoolOp op [a] pos) ia:=pe_one ha
theorem E_and (ha:EE X W R a ia) (hb:EE X W R (.BoolOp .And (b :: rest) pos) ib):EE X W R (.BoolOp .And (a :: b :: rest) pos) (.and ia ib):=e_and ha hb
theorem W_and1 (ha:ET X W R a ia):EW X W R (.BoolOp .And [a] pos) ia:=pw_and1 ha
theorem W_or1 (ha:ET X W R a ia):EW X W R (.BoolOp .Or [a] pos) ia:=pw_or1 ha
theorem W_and (ha:ET X W R a ia) (hb:EW X W R (.BoolOp .And (b :: rest) pos) ib):EW X W R (.BoolOp .And (a :: b :: rest) pos) (.and ia ib):=w_and ha hb
theorem W_or (ha:ET X W R a ia) (hb:EW X W R (.BoolOp .Or (b :: rest) pos) ib):EW X W R (.BoolOp .Or (a :: b :: rest) pos) (.or ia ib):=w_or ha hb
theorem T_w (h:EW X W R a ia):ET X W R a ia:=⟨fun pins s σ H Q I w=>h.run _ pins s σ H Q I w⟩
theorem T_val (h:EE X W R a ia) (he:∀ whole,isTrue a X.env whole = (do let v <- whole; standAt a.pos; holding [v] (truthy v)):=by intro _; rfl):ET X W R a ia:=pt_val h he
theorem E_not (ha:EE X W R a ia):EE X W R (.UnaryOp .Not a pos) (.not ia):=e_not ha
theorem T_not (ha:ET X W R a ia):ET X W R (.UnaryOp .Not a pos) (.not ia):=t_not ha
theorem E_glo {x:Str} {v:LV} {u:Value} (hm:X.mg x = some u) (r:RelC v u) (hg:Gl X x:=by rfl) (hd:(x == ("__debug__":Str)) = false:=by decide):EE X W R (.Name x pos) (.glo v):=e_glo hg hm r hd
theorem E_gloX {x:Str} {v:LV} (h:∃ u,X.mg x = some u∧RelC v u) (hg:Gl X x:=by rfl) (hd:(x == ("__debug__":Str)) = false:=by decide):EE X W R (.Name x pos) (.glo v):=by
 obtain ⟨u,hm,r⟩:=h
 exact E_glo hm r hg hd
theorem A_nil:EA X W R [] .nil:=a_nil
theorem A_cons (ha:EE X W R a ia) (hs:EA X W R es is) (he:starEach (a :: es) X.env = (false,eval a X.env) :: starEach es X.env:=by rfl):EA X W R (a :: es) (.cons ia is):=a_cons ha hs he
theorem E_lset (G:Good X) (hm:X.mg "len" = none) (hm2:X.mg "set" = none) (ha:EE X W R a ia) (hg:Gl X "len":=by rfl) (hg2:Gl X "set":=by rfl) (na:starEach [a] X.env = (false,eval a X.env) :: starEach [] X.env:=by rfl) :
  EE X W R (.Call (.Name "len" p) [.Call (.Name "set" p2) [a] [] p3] [] pos) (.lset ia):=e_lset G hg hm hg2 hm2 ha na
theorem E_rgl1 (G:Good X) (t:Bool) (hm:X.mg (if t then "tuple" else "list") = none) (hm2:X.mg "range" = none) (ha:EE X W R a ia) (hg:Gl X (if t then "tuple" else "list"):=by rfl) (hg2:Gl X "range":=by rfl) (na:starEach [a] X.env = (false,eval a X.env) :: starEach [] X.env:=by rfl)
  (nb:starEach [.Call (.Name "range" p2) [a] [] p3] X.env = (false,eval (.Call (.Name "range" p2) [a] [] p3) X.env) :: starEach [] X.env:=by rfl) :
  EE X W R (.Call (.Name (if t then "tuple" else "list") p) [.Call (.Name "range" p2) [a] [] p3] [] pos) (.rgl1 t ia):=e_rgl1 G t hg hm hg2 hm2 ha na nb
theorem E_tup (hs:EA X W R es is):EE X W R (.Tuple es k pos) (.tup is):=e_tup hs
theorem E_lst (hs:EA X W R es is):EE X W R (.List es pos) (.lst is):=e_lst hs
theorem E_ix (G:GoodH X) (ha:EE X W R a ia) (hb:EE X W R b ib) (hs:PlainIx b:=by intro _ _; rfl):EE X W R (.Subscript a b pos) (.ix ia ib):=e_ix G ha hb hs
theorem O_none:EO X W R none .none:=o_none
theorem O_some (ha:EE X W R a ia):EO X W R (some a) (.some ia):=o_some ha
theorem E_slc {lo hi:Option Expr} {il ih:IO} (ha:EE X W R a ia) (hl:EO X W R lo il) (hh:EO X W R hi ih):EE X W R (.Subscript a (.Slice lo hi none p2) pos) (.slc ia il ih):=e_slc ha hl hh
theorem E_rev (ha:EE X W R a ia):EE X W R (.Subscript a (.Slice none none (some (.UnaryOp .USub (.Constant (.int 1) k p) p2)) p3) pos) (.rev ia):=e_rev ha
theorem E_bi (G:Good X) (bi:Bi) (hm:X.mg (biName bi) = none) (hs:EA X W R (a :: es) is) (hg:Gl X (biName bi):=by rfl) (he:starEach (a :: es) X.env = (false,eval a X.env) :: starEach es X.env:=by rfl) (hpl:(backTo pos (starEach es X.env)).any (·.1) = false:=by rfl) :
  EE X W R (.Call (.Name (biName bi) p) (a :: es) [] pos) (.bi bi is):=e_bi G bi hg hm hs he hpl
theorem E_isi (t:Ty) (hm:X.mg "isinstance" = none) (hm':X.mg (Str.ofString (tyName t)) = none) (ha:EE X W R a ia) (hg:Gl X "isinstance":=by rfl) (hg':Gl X (Str.ofString (tyName t)):=by rfl)
  (he:starEach [a,.Name (Str.ofString (tyName t)) p2] X.env = (false,eval a X.env) :: starEach [.Name (Str.ofString (tyName t)) p2] X.env:=by rfl) :
  EE X W R (.Call (.Name "isinstance" p) [a,.Name (Str.ofString (tyName t)) p2] [] pos) (.isi ia t):=e_isi t hg hm hg' hm' ha he
theorem E_mth {o:Expr} {io:IE} (m:Mth) (ho:EE X W R o io) (hs:EA X W R (a :: es) is) (hbase:attributeBase o (mtName m) X.env (eval o X.env) = eval o X.env:=by rfl)
  (hfew:((backTo pos (starEach (a :: es) X.env)).all (fun x=>!x.1) && (backToKw pos (keywordEach [] X.env)).all (fun x=>x.1.isSome)
   && decide ((a :: es).length + ([]:List Keyword).length + (if ([]:List Keyword).isEmpty then 0 else 1) < 30)) = true:=by rfl)
  (hline:(p.endLine == pos.line) = true:=by rfl) (he:starEach (a :: es) X.env = (false,eval a X.env) :: starEach es X.env:=by rfl) (hpl:(backTo pos (starEach es X.env)).any (·.1) = false:=by rfl) :
  EE X W R (.Call (.Attribute o (mtName m) p) (a :: es) [] pos) (.mth m io is):=e_mth m ho hs hbase hfew hline he hpl
theorem E_mth0 {o:Expr} {io:IE} (m:Mth) (ho:EE X W R o io) (hbase:attributeBase o (mtName m) X.env (eval o X.env) = eval o X.env:=by rfl) (hline:(p.endLine == pos.line) = true:=by rfl) :
  EE X W R (.Call (.Attribute o (mtName m) p) [] [] pos) (.mth m io .nil):=e_mth0 m ho hbase hline
theorem E_dct0:EE X W R (.Dict [] [] pos) .dct0:=e_dct0
def iesL (R:Cal):IEs->List (LSt->M LV)
 | .nil=>[]
 | .cons e es=>evE R e :: iesL R es
theorem iesL_eq (R:Cal):∀ is:IEs,evEs R is = msOf (iesL R is)
 | .nil=>rfl
 | .cons e es=>by
  show consM (evE R e) (evEs R es) = consM (evE R e) (msOf (iesL R es))
  rw [iesL_eq R es]
abbrev EP2 (X:Cx) (W:XW) (R:Cal) (pos:Pos) (keys:List (Option Expr)) (values:List Expr) (ks:List Key) (is:IEs):Prop:=PPs X pos keys values (trsOf X.K W ks (iesL R is))
theorem P_nil:EP2 X W R pos [] [] [] .nil:=pps_nil
theorem P_int {keys:List (Option Expr)} {values:List Expr} {ks:List Key} {x:Int} (hv:EE X W R a ia) (hr:EP2 X W R pos keys values ks is):EP2 X W R pos (some (.Constant (.int x) j p) :: keys) (a :: values) (.inl x :: ks) (.cons ia is) :=
 pps_cons pe_int hv hr
theorem iesL_len:∀ is:IEs,(iesL R is).length = is.len
 | .nil=>rfl
 | .cons e es=>congrArg (· + 1) (iesL_len es)
theorem E_dct {keys:List (Option Expr)} {values:List Expr} {ks:List Key} (h:EP2 X W R pos keys values ks is) (hall:keys.all (·.isSome) = true:=by rfl) (hl:keys.length = values.length:=by rfl) (h0:keys≠[]:=by exact List.cons_ne_nil _ _) (h15:keys.length<=15:=by decide)
  (hk:ks.length = keys.length:=by rfl) (hm:is.len = keys.length:=by rfl):EE X W R (.Dict keys values pos) (.dct ks is):=by
 have q:=e_dct (W:=W) h hall hl h0 h15 hk (by rw [iesL_len,hm])
 rw [<- iesL_eq R is] at q
 exact q
theorem len_ms:∀ (is:IEs) σ L xs L',evEs R is σ L = some (.ok xs L')->xs.length = is.len
 | .nil,σ,L,xs,L',h=>by cases h; rfl
 | .cons e es,σ,L,xs,L',h=>by
  have h:M.bind (evE R e σ) (fun x=>M.bind (evEs R es σ) fun xs=>M.ret (x :: xs)) L = some (.ok xs L'):=h
  unfold M.bind at h
  cases e1:evE R e σ L with
  | none=>rw [e1] at h; cases h
  | some o =>
   rw [e1] at h
   cases o with
   | ex c fs L1=>cases h
   | ok x L1 =>
    dsimp only at h
    cases e2:evEs R es σ L1 with
    | none=>rw [e2] at h; cases h
    | some o2 =>
     rw [e2] at h
     cases o2 with
     | ex c fs L2=>cases h
     | ok ys L2 =>
      have h:some (Out.ok (x :: ys) L2) = some (.ok xs L'):=h
      cases h
      exact congrArg (· + 1) (len_ms es _ _ _ _ e2)
structure CalG (P:Program) (w:World) (K:PySem.W.Frag) (mg:Str->Option Value) (base:Heap) (k:Nat) (x:Str) (f:Addr) (fd:FuncData) (ps:List Str) (R:List LV->M LV):Prop where
 fn:FnG P w K mg base k f fd ps R
 mg:mg x = some (.ref f)
 kp:PySem.W.keepIn K (.ref f) = true
variable {x:Str} {f:Addr} {fd:FuncData} {ps ks:List Str} {i n np:Nat} {perm:List Nat} {iks:IEs} {kws:List Keyword}
theorem E_call (G:GoodH X) (tk:TakesH X W) (C:CalG X.prog X.w X.K X.mg X.base k x f fd ps (R i)) (hr:Room (3 * k + 2) X.A) (hb:BindOk X.K fd ps np ks perm) (ha:EA X W R (a :: es) is) (hkw:EK X W R kws iks)
  (ln:is.len = np:=by rfl) (lk:iks.len = ks.length:=by rfl) (hg:Gl X x:=by rfl)
  (hall:(backToKw pos (keywordEach kws X.env)).all (·.1.isSome) = true:=by rfl) (hks:(backToKw pos (keywordEach kws X.env)).filterMap (·.1) = ks:=by rfl) (hdb:(x == ("__debug__":Str)) = false:=by decide)
  (he:starEach (a :: es) X.env = (false,eval a X.env) :: starEach es X.env:=by rfl) (hpl:((backTo pos (starEach (a :: es) X.env)).any (·.1) || (backToKw pos (keywordEach kws X.env)).any (·.1.isNone)) = false:=by rfl) :
  EE X W R (.Call (.Name x p) (a :: es) kws pos) (.call i is iks perm) :=
 e_call G tk C.fn hr hg C.mg C.kp hb ha hkw hall hks hdb he hpl (fun σ L xs L' h=>(len_ms _ _ _ _ _ h).trans ln) fun σ L xs L' h=>(len_ms _ _ _ _ _ h).trans lk
theorem E_callK (G:GoodH X) (tk:TakesH X W) (C:CalG X.prog X.w X.K X.mg X.base k x f fd ps (R i)) (hr:Room (3 * k + 2) X.A) (hb:BindOk X.K fd ps 0 ks perm) (hkw:EK X W R kws iks)
  (lk:iks.len = ks.length:=by rfl) (hg:Gl X x:=by rfl)
  (hall:(backToKw pos (keywordEach kws X.env)).all (·.1.isSome) = true:=by rfl) (hks:(backToKw pos (keywordEach kws X.env)).filterMap (·.1) = ks:=by rfl) (hdb:(x == ("__debug__":Str)) = false:=by decide)
  (hpl:((backTo pos (starEach [] X.env)).any (·.1) || (backToKw pos (keywordEach kws X.env)).any (·.1.isNone)) = false:=by rfl) :
  EE X W R (.Call (.Name x p) [] kws pos) (.call i .nil iks perm) :=
 e_callK G tk C.fn hr hg C.mg C.kp hb hkw hall hks hdb hpl fun σ L xs L' h=>(len_ms _ _ _ _ _ h).trans lk
theorem K_nil:EK X W R [] .nil:=k_nil
theorem K_cons {nm:Option Str} (ha:EE X W R a ia) (hr:EK X W R kws iks):EK X W R (⟨nm,a,p⟩ :: kws) (.cons ia iks):=k_cons ha hr
variable {cls:List Str} {csn:List (Str × Nat)} {csb:List (Str × Bool)} {dl:List LV} {o:Expr} {io:IE} {m:Str} {g:Nat}
variable {own:List Nat} {ts:ITs} {t:IT} {ii:II} {ifs:List Expr} {co:IO} {iter elt:Expr} {scope:Scope} {ow:List (Str × Nat)}
theorem G_name {i:Nat} (G:GoodH X) (hi:X.N[i]? = some x:=by exact rfl) (hx:Loc X.env.scope x:=by first | exact .inl rfl | exact .inr rfl) (hf:X.fn x = true∨X.env.scope.names.lookup x = some .local:=by first | exact .inl rfl | exact .inr rfl) (ho:i∈own:=by decide):EG X W R own (.Name x pos) (.name i):=g_name G.nd hi hx hf ho
theorem Gs_nil:EGs X W R own [] .nil:=PGs.imp gs_nil fun v σV H Q ⟨ι,σ,L,ds,r,h⟩=>⟨ι,σ,L,ds,r,by cases ds with
 | nil=>exact h
 | cons _ _=>exact (At.no h).elim⟩
theorem Gs_cons (hW:WInv W) (h1:EG X W R own e t) (h2:EGs X W R own es ts) (hs:(assignEach (e :: es) X.env).map (·.2) = assign e X.env :: (assignEach es X.env).map (·.2):=by rfl):EGs X W R own (e :: es) (.cons t ts) :=
 PGs.imp (gs_cons hW h1 h2 hs) fun v σV H Q ⟨ι,σ,L,ds,r,h⟩=>⟨ι,σ,L,ds,r,by cases ds with
 | nil=>exact (At.no h).elim
 | cons _ _=>exact h⟩
theorem G_tup (G:Good X) (h:EGs X W R own es ts) (hn:(assignEach es X.env).length = ts.len:=by rfl) (hst:(assignEach es X.env).findIdx? (·.1) = none:=by rfl):EG X W R own (.Tuple es k pos) (.tup ts):=g_tup G h hn hst
theorem G_sub {o i:Expr} {io ii:IE} (G:GoodH X) (ho:EE X W R o io) (hi:EE X W R i ii) (hn:notSlice i = true:=by rfl):EG X W R own (.Subscript o i pos) (.sub io ii):=g_sub G hn ho hi
theorem I_val (h:EE X W R e ie):EI X W R tg e (.val ie):=i_val h
theorem I_rng1 (hm:X.mg "range" = none) (ha:EE X W R a ia) (hg:Gl X "range":=by rfl) (hs:starEach [a] X.env = [(false,eval a X.env)]:=by rfl):EI X W R tg (.Call (.Name "range" p) [a] [] pos) (.rng1 ia):=i_rng1 hg hm ha hs
theorem C_none:EC X W R [] .none:=c_none
theorem C_one (h:ET X W R c ic):EC X W R [c] (.some ic):=c_one h
theorem E_comp (G:Good X) (hi:EI X W0 R tg iter ii) (ok:BlkOk X.N X.env.scope scope ow) (hg:AllB X scope fun Y=>EG Y W0 R (ow.map (·.2)) tg t) (ht:AllB X scope fun Y=>EC Y W0 R ifs co) (he:AllB X scope fun Y=>EE Y W0 R elt ie)
  (hs:∀ x,foldedSetIterable iter X.env x = pure x:=by intro _; rfl):EE X W R (.ListComp elt [⟨tg,iter,ifs,0⟩] scope pos) (.comp (ow.map (·.2)) t ii co ie):=e_comp G hi ok hg ht he hs
variable {st:Stmt} {sts body:List Stmt} {s:IS} {ss sa sb:List IS}
theorem B_nil:EB X W R [] []:=b_nil
theorem B_cons (hW:WInv W) (h1:ES X W R st s) (h2:EB X W R sts ss):EB X W R (st :: sts) (s :: ss):=b_cons hW h1 h2
theorem S_asg (he:EE X W R e ie) (hg:EG X W R own tg t) (hs:swapsWithSole [tg] e pos.line X.env = pure false:=by rfl) (hw:swappedStores [tg] e X.env = pure none:=by rfl)
  (h1:(assignEach [tg] X.env).map (·.2) = [assign tg X.env]:=by rfl):ES X W R (.Assign [tg] e pos) (.asg t ie):=s_asg he hg hs hw h1
theorem S_exp (he:EE X W R e ie) (hs:swapsWith e none pos.line X.env = pure false:=by rfl):ES X W R (.Expr e pos) (.exp ie):=s_exp he hs
theorem S_ret (he:EE X W R e ie):ES X W R (.Return (some e) pos) (.ret ie):=s_ret he
theorem S_ifs {sA sB:List Stmt} (hc:ET X W R c ic) (ha:EB X W R sA sa) (hb:EB X W R sB sb):ES X W R (.If c sA sB pos) (.ifs ic sa sb):=s_ifs hc ha hb
theorem S_aug {i:Nat} (op:BOp) (G:GoodH X) (hi:X.N[i]? = some x) (hx:Loc X.env.scope x) (he:EE X W R e ie) (hf:X.fn x = true∨X.env.scope.names.lookup x = some .local):ES X W R (.AugAssign (.Name x p) (opOf op) e pos) (.aug i op ie):=s_aug op G hi hx he hf
theorem S_par {i j:Nat} {x y:Str} {px py pt:Pos} {kt k2 pt2} (G:Good X) (hi:X.N[i]? = some x) (hj:X.N[j]? = some y) (hij:i≠j) (hx:X.env.scope.names.lookup x = some .local) (hy:X.env.scope.names.lookup y = some .local) (ha:EA X W R [a,b] is)
  (hw:swappedStores [.Tuple [.Name x px,.Name y py] kt pt] (.Tuple [a,b] k2 pt2) X.env = pure (some [x,y]):=by rfl) (hs:swapsWithSole [.Tuple [.Name x px,.Name y py] kt pt] (.Tuple [a,b] k2 pt2) pos.line X.env = pure false:=by rfl) :
  ES X W R (.Assign [.Tuple [.Name x px,.Name y py] kt pt] (.Tuple [a,b] k2 pt2) pos) (.par [i,j] is):=s_par G hi hj hij hx hy ha hw hs
theorem S_for (G:Good X) (hW:WInv W) (hp:PassesOwn (model X.prog X.w) X.A X.env X.xe) (hi:EI X W R tg iter ii) (hg:EG X W R own tg t) (hb:EB X W R body sb) (hs:∀ x,foldedSetIterable iter X.env x = pure x:=by intro _; rfl):ES X W R (.For tg iter body [] pos) (.for t ii sb):=s_for G hW hp hi hg hb hs
theorem S_whl (G:GoodH X) (hW:WInv W) (hp:PassesOwn (model X.prog X.w) X.A X.env X.xe) (hc:ET X W R c ic) (hb:EB X W R body sb):ES X W R (.While c body [] pos) (.whl ic sb):=s_whl G hW hp hc hb
end
end Mv
namespace Mv
open PySem PySem.Spec PyProof.Rows L2
theorem rs_start {K:PySem.W.Frag} {H:Hp} {ι:Nat->Addr} {n:Nat} {N:List Str} {vs:List V} {ds:List LV} (q:RVs K H ι n vs ds):RS K H ι n (start N vs) (startL N.length ds):=by
 have hl:=q.length
 refine ⟨by unfold L2.start startL; simp [hl],fun i d e=>?_⟩
 unfold startL at e
 by_cases hi:i < ds.length
 ·rw [List.getElem?_append_left (by simpa using hi),List.getElem?_map] at e
  cases e1:ds[i]? with
  | none=>rw [e1] at e; cases e
  | some d' =>
   rw [e1] at e
   cases e
   obtain ⟨v,h1,h2⟩:=q.get e1
   refine ⟨v,?_,h2⟩
   unfold L2.start
   rw [List.getElem?_append_left (by rw [List.length_map,hl]; exact hi),List.getElem?_map,h1]
   rfl
 ·rw [List.getElem?_append_right (by simpa using hi),List.getElem?_replicate] at e
  split at e <;> cases e
abbrev cxG (P:Program) (w:World) (K:PySem.W.Frag) (mg:Str->Option Value) (base:Heap) (N:List Str) (qual:Str) (scope:Scope) (f:Addr) (cdv:Value) (A:Around) (outer:List Env) (s:Shared) (H:Hp) (E:XW):Cx :=
 cxOf (CXh K P w E) P w K mg base N qual scope f cdv A outer s H (fun _ _ _=>False)
section
variable {P:Program} {w:World} {K:PySem.W.Frag} {mg:Str->Option Value} {base:Heap} {k:Nat} {f:Addr} {fd:FuncData} {name qual:Str} {N ps:List Str} {R:Cal} {g:Fn}
theorem good_of {scope:Scope} {cdv:Value} {A:Around} {outer:List Env} {s:Shared} {H:Hp} {E:XW} (S:FnScope N ps scope) (hr:Room k (A.deeper (envOfC qual scope s.heap.objs.size f cdv))) (hg:A.guards = some []) (hd:base.NoDigits):Good (cxG P w K mg base N qual scope f cdv A outer s H E):=by
 refine ⟨⟨hg,?_,S.nd,hd⟩,rfl⟩
 have:=hr.un
 show (A.deeper (envOfC qual scope s.heap.objs.size f cdv)).units + 150 < cLine
 omega
theorem fnG_of {params:Arguments} {body:List Stmt} {scope:Scope} {dV kV doc pm cdv ct oc:Value} {an od:Option Addr} {osl:Array (Option Value)}
  (lk:K.lookup f = some ⟨oc,od,.func (PySem.W.fnOf name qual params body scope dV kV doc pm an cdv ct),osl⟩)
  (hcd:PySem.W.codeIn K cdv qual = true) (S:FnScope N ps scope) (hn:g.n = N.length) (hp:g.p = ps.length)
  (hbody:∀ (W:XW) (A:Around) (outer:List Env) (s:Shared) (H:Hp) (E:XW),WInv W->TakesH (cxG P w K mg base N qual scope f cdv A outer s H E) W->Room (3 * k + 2) (A.deeper (envOfC qual scope s.heap.objs.size f cdv))->A.guards = some [] ->
   EB (cxG P w K mg base N qual scope f cdv A outer s H E) W R body g.body) :
  FnG P w K mg base (k + 1) f (PySem.W.fnOf name qual params body scope dV kV doc pm an cdv ct) ps (callFn R g):=by
 refine ⟨fun W A outer s H args us vs ds ι L Q hr hgu e0 hb hlen r q h=>?_⟩
 have h:At K W (RVr K) [] [] ι L (M.chk (decide (ds.length = g.p)) (M.bind (evB R g.body (startL g.n ds)) fun (r:Fl × LSt)=>match r with
  | (.rt v,_)=>M.ret v
  | (.nx,_)=>M.ret .non
  | _=>M.no) L) Q H:=h
 obtain ⟨c,h⟩:=At.chk h
 have c:=of_decide_eq_true c
 have hl:vs.length = ps.length:=by
  rw [q.length,c,hp]
 rw [hn] at h
 have KX:K.In s.heap :=
  e0.mod.kin.keeps fun b o e=>(e0.bs b o e).1
 have lim:s.heap.NoLimit :=
  e0.mod.nolimit.keeps fun b o e=>(e0.bs b o e).1
 have hkind:∀ y∈ps.zip us,scope.names.lookup y.1 = some .local∨(scope.names.lookup y.1 = some .cell ∧
   ((cellsFrom (s.heap.objs.size + 1) scope.names []).lookup y.1).isSome = true):=by
  rintro ⟨n,v⟩ hy
  rcases S.par n (List.of_mem_zip hy).1 with z | z
  ·exact .inl z
  ·exact .inr ⟨z,PySem.W.cellsFrom_some _ _ _ (.inl z)⟩
 refine codeAny_call_function hr.depth
  (KX _ _ lk) rfl S.co S.gen rfl
  (PySem.W.codeRec_of KX hcd) (hb _ _ _ _ ?_)
 refine wpAny_newFunctionEnv_cells S.kind
  hkind fun env he s1 x=>?_
 subst he
 refine ⟨lim.keeps x.toInCall.keep,
  codeAny_func ?_⟩
 have I:Inv (cxG P w K mg base N qual scope f cdv A outer s H W) [] (start N vs) H s1 :=
  inv_start S hr.hd e0 hl r x
 have hS:=hbody (fun c fs L ι H _=>W c fs L ι H []) A outer s H W (fun _ _ _ _ _ _ _ _ z=>z) (takesH_of rfl rfl rfl rfl) ((show Room (3 * k + 2 + 1) A from hr).deeper _) hgu
 have rs:=rs_start (N:=N) q
 have h1:At K (fun c fs L ι H _=>W c fs L ι H []) (RVr K) (start N vs) (startL N.length ds) ι L _ Q H:=⟨h.rep,rs,h.go⟩
 have h2:tS K (fun c fs L ι H _=>W c fs L ι H []) (evB R g.body) { nx:=fun _ H'=>Q .non H',rt:=Q } (start N vs) H:=by
  refine ⟨ι,startL N.length ds,L,(At.bind (R:=FlR K (start N vs).length) h1).imp fun v H1 ⟨d,ι1,L1,z,ev,h⟩=>?_⟩
  obtain ⟨fv,σ1V⟩:=v
  obtain ⟨fl,σ1⟩:=d
  obtain ⟨z1,z2,z3⟩:=z
  cases fv with
  | nx =>
   cases fl with
   | nx=>exact At.ret (v:=V.non) h .non
   | _=>exact False.elim z3
  | bk =>
   cases fl with
   | bk=>exact (At.no h).elim
   | _=>exact False.elim z3
  | ct =>
   cases fl with
   | ct=>exact (At.no h).elim
   | _=>exact False.elim z3
  | rt u =>
   cases fl with
   | rt d=>exact At.ret (v:=u) h z3
   | _=>exact False.elim z3
 refine wpAny_mono (hS.run [] s1 _ H _ I h2)
  (fun fl s' hs=>?_) fun e s' hs=>hs
 have fin:∀ {σ':L2.St} {H':Hp} {v:V} {u:Value},Inv (cxG P w K mg base N qual scope f cdv A outer s H W) [] σ' H' s'->RelV v u->Q v H' ->
   CE outer P w H s Q u s':=fun {σ' H' v u} J rv q=>⟨v,H',J.os,J.bare,J.base,J.hok,rv,q⟩
 cases fl with
 | ret u=>exact let ⟨v,σ',H',J,rv,q⟩:=hs; fin J rv q
 | next=>exact let ⟨σ',H',J,q⟩:=hs; fin (v:=V.non) (u:=Value.none) J rfl q
 | brk=>exact let ⟨_,_,_,q⟩:=hs; False.elim q
 | cont=>exact let ⟨_,_,_,q⟩:=hs; False.elim q
theorem fnG_zero {ps:List Str}:FnG P w K mg base 0 f fd ps (fun _=>M.no):=⟨fun W A outer s H args us vs ds ι L Q _ _ _ _ _ _ _ h=>(At.no h).elim⟩
theorem law_callG {mb:Str->Option Value} {fa a:Addr} {x:Str} {Rl:List LV->M LV} {s₁:Shared} {vs:List Value} {ns:List Int}
  (KX:K.In s₁.heap) (hns:s₁.heap.Ns mainGlobals mg) (hb:s₁.heap.Ns builtinsNs mb)
  (hbb:∀ x:Str,x≠"__name__"->mb x = bootBuiltins x) (hlim:s₁.heap.NoLimit) (hdig:s₁.heap.NoDigits) (hg:s₁.gens = #[])
  (ha:s₁.heap.get? a = some { cls:=.type "list",data:=.seq vs.toArray })
  (hi:IntsAre vs ns) (hl:ns.length<=sizeLine) (hr:Room (3 * k) callerA)
  (F:∀ base:Heap,K.In base->base.Ns mainGlobals mg->base.NoDigits->FnG P w K mg base k fa fd [x] Rl)
  (hbind:∀ (s:Shared) (u:Value),BindsTo s fd ⟨[u],[]⟩ [(x,u)])
  (hR:∃ L',Rl [.ref 0] [.frz ns] = some (.ok (.bl true) L')) :
  codeAny (model P w) callerA (.call (.ref fa) ⟨[.ref a],[]⟩)
   (fun r s'=>r = .ok (.ret (.bool true))∧OldK s₁.heap s'.heap∧s'.os = s₁.os∧AllBare s'.gens) s₁:=by
 have rv:=vals_ints hi
 have lenV:=hi.length
 have core:∀ H:Hp,Only H->FrzAt K H a (ns.map V.int)->HOk P w H s₁.heap ->
   (∀ b,H b≠none->b = a)->(H a≠none->K.lookup a = none) ->
   codeAny (model P w) callerA (.call (.ref fa) ⟨[.ref a],[]⟩)
    (fun r s'=>r = .ok (.ret (.bool true))∧OldK s₁.heap s'.heap∧s'.os = s₁.os∧AllBare s'.gens) s₁:=by
  intro H hO hS hok hA hK
  have base_of:∀ {b:Addr} {o:Obj},s₁.heap.get? b = some o->H b = none ->
    (hidT s₁.heap H).get? b = some o:=fun e n=>hidT_get e n
  have noA:∀ {b:Addr} {o:Obj} {es:Array DictEntry} {ep:Nat},s₁.heap.get? b = some o ->
    o.data = .dict es ep->H b = none:=by
   intro b o es ep e d
   cases q:H b with
   | none=>rfl
   | some u =>
    have e':b = a:=hA b (by simp [q])
    subst e'
    rw [ha] at e
    cases e
    have d':Data.seq vs.toArray _ = Data.dict es ep:=d
    cases d'
  have nsK:∀ {b:Addr} {m:Str->Option Value},s₁.heap.Ns b m->(hidT s₁.heap H).Ns b m:=by
   rintro b m ⟨o,es,ep,e,d,r⟩
   exact ⟨o,es,ep,base_of e (noA e d),d,r⟩
  have hKb:K.In (hidT s₁.heap H):=by
   intro b o e
   refine base_of (KX b o e) ?_
   cases q:H b with
   | none=>rfl
   | some u =>
    have e':b = a:=hA b (by simp [q])
    subst e'
    rw [hK (by simp [q])] at e
    cases e
  have hM:Mod K mg (hidT s₁.heap H):=by
   obtain ⟨mc,h1,h2⟩:=hlim
   exact ⟨hKb,nsK hns,⟨mb,nsK hb,hbb⟩,⟨mc,nsK h1,h2⟩⟩
  have e0:Env0 P w K mg (hidT s₁.heap H) callerA [] s₁ H:=by
   refine ⟨rfl,hM,fun b o e=>of_hidT e,Nat.le_of_eq (hidT_size _ _),trivial,fun b hb=>?_,hok,.of_eq hg⟩
   exact absurd (show b∈([]:List Addr) from hb) (by simp)
  obtain ⟨L',hR⟩:=hR
  have rep:Rep K (fun _=>a) H [LO.frz ns]:=by
   refine ⟨fun j o e=>?_,fun i j x y ei ej mx my _=>?_⟩
   ·cases j with
    | zero=>cases e; exact hS
    | succ j=>simp at e
   ·cases i with
    | zero=>cases ei; cases mx
    | succ i=>simp at ei
  have st:At K (fun _ _ _ _ _ _=>False) (RVr K) [] [] (fun _=>a) [LO.frz ns] (Rl [.ref 0] [.frz ns]) (fun v _=>v = .bl true) H :=
   ⟨rep,⟨rfl,fun i d e=>by simp at e⟩,_,hR,fun ι' H' v ev rp rv=>by cases rv; rfl⟩
  have go:=(F _ hKb (nsK hns) (let ⟨mc,h1,h2⟩:=hdig; ⟨mc,nsK h1,h2⟩)).run _ callerA [] s₁ H ⟨[.ref a],[]⟩ [.ref a] [.ref a] [.ref 0] (fun _=>a) [.frz ns] (fun v _=>v = .bl true) hr rfl e0 (hbind s₁ (.ref a)) rfl (.cons rfl .nil)
   (.cons (.ref (ι:=fun _=>a) 0 (Nat.zero_lt_succ _)) .nil) st
  refine codeAny_mono go fun r s' h=>?_
  cases r with
  | error e =>
   exact (CXh.no (E:=fun _ _ _=>False) h).elim
  | ok fl =>
   cases fl with
   | ret u =>
    obtain ⟨v,H',os,bare,un,hok',r',q⟩:=h
    have q':v = .bl true:=q
    subst q'
    obtain rfl:u = Value.bool true:=r'
    refine ⟨rfl,OldK.of_keep fun b o e=>?_,os,bare⟩
    cases q:H b with
    | none=>exact un.keep b o e q (by intro z; exact absurd (show b∈([]:List Addr) from z) (by simp)) (by simp)
    | some u =>
     rcases hO b with z | ⟨ob,xs,z⟩
     ·rw [q] at z
      cases z
     ·obtain ⟨e1,_⟩:=hok b _ z
      obtain ⟨e2,_⟩:=hok' b _ (un.frzs b ob _ z)
      rw [e] at e1
      cases e1
      exact e2
   | _=>exact False.elim h
 cases hk:K.lookup a with
 | some o =>
  have e:=KX a o hk
  rw [ha] at e
  cases e
  refine core (fun _=>none) (fun _=>.inl rfl) (.inr ?_) (fun b u z=>?_) (fun b z=>absurd rfl z) fun z=>absurd rfl z
  ·exact .inr ⟨_,vs.toArray,_,hk,rfl,rfl,rfl,by rw [List.size_toArray,lenV]; exact hl,by simpa using rv⟩
  ·have z':(none:Option HO) = some u:=z
   cases z'
 | none =>
  refine core (fun b=>if b = a then some (.frz { cls:=.type "list",data:=.seq vs.toArray } (.lst (ns.map V.int))) else none)
   (fun b=>?_) (.inl ⟨{ cls:=.type "list",data:=.seq vs.toArray },if_pos rfl⟩) (fun b u z=>?_) (fun b z=>?_) fun _=>hk
  ·by_cases hb:b = a
   ·exact .inr ⟨_,_,if_pos hb⟩
   ·exact .inl (if_neg hb)
  ·by_cases hb:b = a
   ·have z':=(if_pos hb).symm.trans z
    cases z'
    subst hb
    exact ⟨ha,by rw [List.length_map]; exact hl,vs,_,rv,ha⟩
   ·have z':=(if_neg hb).symm.trans z
    cases z'
  ·by_cases hb:b = a
   ·exact hb
   ·exact absurd (if_neg hb) z
end
end Mv
namespace Mv
open PySem PySem.Spec PyProof.Rows PySem.W
section
open Builtin Builtin.ObjectAttr
variable {prog:Program} {w:World} {A:Around} {E:Value->Shared->Prop} {hp:Heap} {g:Array GenState} {d:Drawn} {t:Nat} {os:OsState} {K:Frag} {x C:Addr} {fv:Array Value} {name:Str} {v:Value} {Q:Unit->Shared->Prop}
end
section
variable {prog:Program} {w:World} {A:Around} {E:Value->Shared->Prop} {s:Shared} {h₀:Heap} {L:Addr} {m mg mb:Str->Option Value} {K:Frag} {x C cc cda fI:Addr} {ox:Obj} {odx:Option Obj} {news:List (Addr × Obj)}
end
inductive Sets (env:Env) (self:Str):List Stmt->List (Str × Str)->Prop
 | nil:Sets env self [] []
 | cons {f p:Str} {sp vp fp ap:Pos} {r:List Stmt} {l:List (Str × Str)} (hs:swapsWith (.Name p vp) (some (.Attribute (.Name self sp) f fp)) ap.line env = pure false) (hk:env.kindOf p = some .local) (hd:(p == ("__debug__":Str)) = false) :
   Sets env self r l->Sets env self (.Assign [.Attribute (.Name self sp) f fp] (.Name p vp) ap :: r) ((f,p) :: l)
theorem lk_cons {f g:Str} {v:Value} {fs:List (Str × Value)}:((f,v) :: fs).lookup g = if g = f then some v else fs.lookup g:=by
 by_cases h:g = f
 ·subst h
  simp [List.lookup]
 ·have e:(g == f) = false:=by simpa using h
  rw [if_neg h]
  simp [List.lookup,e]
section
variable {prog:Program} {w:World} {A:Around} {E:Value->Shared->Prop} {h₀:Heap} {L:Addr} {m:Str->Option Value} {K:Frag} {x C fI:Addr} {env:Env} {self:Str}
end
abbrev supS (text:Str) (j:Nat) (p0 p1 ap cp pt ep:Pos):Stmt:=.Expr (.Call (.Attribute (.Call (.Name "super" p0) [] [] p1) "__init__" ap) [.Constant (.str text) j pt] [] cp) ep
structure ErrD (P:Program) (K:Frag) (fI C:Addr) (ps fl:List Str):Prop where
 ex:∃ (oc dV kV doc pm ct ccl cl:Value) (od an cdd cld:Option Addr) (osl ccs csl:Array (Option Value)) (name qual self text file:Str) (params:Arguments) (sets:List Stmt) (scope:Scope) (cda cc:Addr) (vs:Array Value) (tf:Tok) (j:Nat) (p0 p1 ap cp pt ep:Pos) (ar:Arg) (pl:Addr->Sem Bool),
  K.lookup fI = some ⟨oc,od,.func (ksFn name qual params (supS text j p0 p1 ap cp pt ep :: sets) scope dV kV doc pm an (.ref cda) ct cc),osl⟩∧codeIn K (.ref cda) qual = true ∧
  (∀ L,Sets (ksEnv qual scope L fI (.ref cda) cc) self sets (fl.zip ps))∧(params.posonlyargs ++ params.args).head? = some ar∧ar.arg = self ∧
  K.lookup cda = some ⟨ccl,cdd,.fields vs,ccs⟩∧vs[2]? = some (.str file tf)∧((P.main.file:Str) == file) = true∧K.lookup cc = some ⟨cl,cld,.cell (some (.ref C)),csl⟩ ∧
  scope.names.lookup ("super":Str) = some .globalImplicit∧scope.names.lookup ("__class__":Str) = some .free∧(P.main.scope.names.lookup ("super":Str)).isSome = false ∧
  (∀ L,interactive (ksEnv qual scope L fI (.ref cda) cc) = false) ∧
  (∀ L,eval (.Call (.Attribute (.Call (.Name "super" p0) [] [] p1) "__init__" ap) [.Constant (.str text) j pt] [] cp) (ksEnv qual scope L fI (.ref cda) cc) = (do
   let ov <- attributeBase (.Call (.Name "super" p0) [] [] p1) "__init__" (ksEnv qual scope L fI (.ref cda) cc) (eval (.Call (.Name "super" p0) [] [] p1) (ksEnv qual scope L fI (.ref cda) cc))
   standAt ap.atName
   let (f,first) <- holding [ov] (getMethod ov "__init__" (pl L))
   callWith cp f first (backTo cp (starEach [.Constant (.str text) j pt] (ksEnv qual scope L fI (.ref cda) cc))) [])) ∧
  (∀ (s:Shared) (e:Value) (us:List Value),us.length = ps.length->BindsTo s (ksFn name qual params (supS text j p0 p1 ap cp pt ep :: sets) scope dV kV doc pm an (.ref cda) ct cc) ⟨e :: us,[]⟩ ((self,e) :: ps.zip us)) ∧
  (∀ y∈self :: ps,scope.names.lookup y = some .local)∧(∀ x∈scope.names,x.2≠.cell)∧scope.isCoroutine = false∧scope.isGenerator = false∧scope.kind = .function∧(self :: ps).Nodup ∧
  (∀ L,(ksEnv qual scope L fI (.ref cda) cc).kindOf self = some .local)∧(self == ("__debug__":Str)) = false∧fl.length = ps.length∧fl.length<=900∧(∀ f∈fl,takerIn K C f = some none)
section
variable {P:Program} {w:World} {A:Around} {K:Frag} {C fI:Addr} {ps fl:List Str} {mg mb:Str->Option Value} {E:Value->Shared->Prop}
theorem ErrD.len (D:ErrD P K fI C ps fl):fl.length = ps.length:=by
 obtain ⟨oc,dV,kV,doc,pm,ct,ccl,cl,od,an,cdd,cld,osl,ccs,csl,name,qual,self,text,file,params,sets,scope,cda,cc,vs,tf,j,p0,p1,ap,cp,pt,ep,ar,pl,lk,hcd,hS,har,hself,hcode,hvs,hfile,hcell,hks,hkc,htop,hi,hev,hbd,hloc,hnc,hco,hgen,hkf,hnd,hkS,hdS,hfl,hfl2,htk⟩:=D.ex
 exact hfl
end
end Mv
namespace Mv
open PySem PySem.Spec PyProof.Rows L2 L2H
inductive FR:List (Str × V)->List (Str × Value)->Prop
 | nil:FR [] []
 | cons {f:Str} {v:V} {u:Value} {vs:List (Str × V)} {us:List (Str × Value)}:RelV v u->FR vs us->FR ((f,v) :: vs) ((f,u) :: us)
theorem FR.lookup:∀ {vs:List (Str × V)} {us:List (Str × Value)},FR vs us->∀ f,RelO (vs.lookup f) (us.lookup f)
 | _,_,.nil,_=>trivial
 | _,_,.cons (f:=g) r t,f=>by
  rw [L2.lookup_put,lk_cons]
  by_cases h:f = g
  ·rw [if_pos h,if_pos h]
   exact r
  ·rw [if_neg h,if_neg h]
   exact FR.lookup t f
theorem FR.append:∀ {vs vs':List (Str × V)} {us us':List (Str × Value)},FR vs us->FR vs' us'->FR (vs ++ vs') (us ++ us')
 | _,_,_,_,.nil,s=>s
 | _,_,_,_,.cons r t,s=>.cons r (FR.append t s)
theorem FR.reverse:∀ {vs:List (Str × V)} {us:List (Str × Value)},FR vs us->FR vs.reverse us.reverse
 | _,_,.nil=>.nil
 | _,_,.cons r t=>by
  rw [List.reverse_cons,List.reverse_cons]
  exact FR.append (FR.reverse t) (.cons r .nil)
theorem FR.zip:∀ {fl:List Str} {vs:List V} {us:List Value},Vals vs us->FR (fl.zip vs) (fl.zip us)
 | [],_,_,_=>.nil
 | _ :: _,_,_,.nil=>.nil
 | f :: fl,_,_,.cons r t=>.cons r (FR.zip t)
section
variable {K:PySem.W.Frag} {H:Hp} {ι:Nat->Addr} {n:Nat}
theorem RFS.append:∀ {vs ws:List (Str × V)} {ds es:List (Str × LV)},RFS K H ι n vs ds->RFS K H ι n ws es->RFS K H ι n (vs ++ ws) (ds ++ es)
 | _,_,_,_,.nil,s=>s
 | _,_,_,_,.cons r t,s=>.cons r (RFS.append t s)
theorem RFS.reverse:∀ {vs:List (Str × V)} {ds:List (Str × LV)},RFS K H ι n vs ds->RFS K H ι n vs.reverse ds.reverse
 | _,_,.nil=>.nil
 | _,_,.cons r t=>by
  rw [List.reverse_cons,List.reverse_cons]
  exact RFS.append (RFS.reverse t) (.cons r .nil)
theorem RFS.zip:∀ {fl:List Str} {vs:List V} {ds:List LV},RVs K H ι n vs ds->RFS K H ι n (fl.zip vs) (fl.zip ds)
 | [],_,_,_=>.nil
 | _ :: _,_,_,.nil=>.nil
 | f :: fl,_,_,.cons r t=>.cons r (RFS.zip t)
end
section
variable {X:Cx} {pins:List (Addr × Obj)} {σ:L2.St} {H:Hp} {s:Shared} {C fI:Addr} {ps fl:List Str}
end
end Mv
namespace Mv
open PySem PySem.Spec PyProof.Rows L2 L2H
section
variable {X:Cx} {W:XW} {c:Str} {fl:List Str} {p cpos pos:Pos} {a:Expr} {es:List Expr} {ms:LSt->M (List LV)} {k:Nat}
end
end Mv
namespace Mv
open PySem PySem.Spec PyProof.Rows L2 L2H
structure Cl where
 c:Value
 nm:Option Nat
 ts:Addr->Value->Option Addr->TS
 /-- its suite raises another error -/
 rs:Bool:=false
section
variable {X:Cx} {pins:List (Addr × Obj)} {D:Ends} {B:Heap} {sI s':Shared} {σ':L2.St} {H':Hp} {a:Addr} {cls:Value} {d:Option Addr} {h3:Heap}
end
section
variable {X:Cx} {body:List Stmt} {h₀:ExceptHandler} {hds:List ExceptHandler} {l:List Cl} {pos:Pos} {tb:WX->WX->TS} {Wn Wh:WX}
end
end Mv
namespace Mv
open PySem PySem.Spec PyProof.Rows L2 L2H
structure Cau (K:PySem.W.Frag) (σV:L2.St) (H:Hp) (nm:Option Nat) (cs:List Str) (a:Addr) (cls:Value) (d:Option Addr) (c:Str) (fs:List (Str × LV)) (ι:Nat->Addr) (L:LH):Prop where
 rep:Rep K ι H L
 xr:XRep K H ι L.length cls d c fs
 nv:∀ i,nm = some i->σV[i]? = some (some (.ref a))
 mem:c∈cs
def tXe (K:PySem.W.Frag) (nm:Option Nat) (cs:List Str) (e:Xe) (a:Addr) (cls:Value) (d:Option Addr):TE:=fun σV H Q=>∃ ι L c fs v,Cau K σV H nm cs a cls d c fs ι L∧xeV c fs e = some v∧∀ H' x,Ev K ι H L.length ι H' L.length->Rep K ι H' L->RV K H' ι L.length x v->Q x H'
section
variable {X:Cx} {nm:Option Nat} {cs:List Str} {pos p:Pos} {e:Expr} {es:List Expr} {xa:Xa} {as:List Xa} {xe:Xe}
end
end Mv
namespace Mv
open PySem PySem.Spec PyProof.Rows L2 L2H
def tSu (K:PySem.W.Frag) (nm:Option Nat) (cs:List Str) (e:Xe) (to:Option Nat) (a:Addr) (cls:Value) (d:Option Addr):TS:=fun D σV H=>tXe K nm cs e a cls d σV H fun x H'=>match to with
 | some i=>D.nx (σV.set i (some x)) H'
 | none=>D.rt x H'
section
variable {X:Cx} {nm:Option Nat} {cs:List Str} {pos tp:Pos} {e:Expr} {xe:Xe}
end
structure HOk (K:PySem.W.Frag) (W:XW) (N:List Str) (h:Hd) (q:Cl):Prop where
 cls:∀ c b C,h.cs.lookup c = some b->ClsOf K c C->PySem.W.exmOne K (.ref C) q.c = some b
 nm:q.nm = h.nm
 nl:∀ i,h.nm = some i->i < N.length
 ts:h.rs = none->q.rs = false∧∃ cs,q.ts = tSu K h.nm cs h.e h.to∧∀ c,h.cs.lookup c = some true->c∈cs
 ra:∀ c',h.rs = some c'->q.rs = true∧h.nm = none∧∀ a cls d D σV H,(∃ ι L,Rep K ι H L∧hotW W c' [] L ι H σV)->q.ts a cls d D σV H
section
variable {K:PySem.W.Frag} {W:XW} {D:Ends} {σV:L2.St} {σ:LSt} {ι:Nat->Addr} {H:Hp} {L:LH} {n:Nat}
end
section
variable {X:Cx} {W:XW} {st:Stmt} {rest:List Stmt} {h₀:ExceptHandler} {hds:List ExceptHandler} {l:List Cl} {hs:List Hd} {pos:Pos} {m1 m2:LSt->M (Fl × LSt)}
end
end Mv
namespace Mv
open PySem PySem.Spec PyProof.Rows L2 StX
section
variable {P:Program} {w:World} {K:PySem.W.Frag} {mg:Str->Option Value} {base:Heap} {k:Nat} {f:Addr} {name qual:Str} {N ps:List Str} {pv:Str} {R:Cal} {g:Fn}
end
section
variable {X:Cx} {W:XW} {f C:Addr} {fd:FuncData} {ps:List Str} {pv:Str} {k n:Nat} {Rc:Cal} {pins:List (Addr × Obj)} {σV:L2.St} {σ:LSt} {H:Hp} {s:Shared} {ι:Nat->Addr} {L:LH} {Q:VK} {c:Str} {g:Nat}
end
section
variable {X:Cx} {W:XW} {pos p:Pos} {c:Str} {k n g:Nat} {Rc:Cal} {ms:LSt->M (List LV)} {a:Expr} {es:List Expr} {kws:List Keyword} {ks:List Str}
end
end Mv
namespace Mv
open PySem PySem.Spec PyProof.Rows L2
section
variable {X:Cx} {W:XW} {R:Cal} {a:Expr} {es:List Expr} {kws:List Keyword} {pos p cpos:Pos} {c:Str} {is:IEs} {k n g:Nat} {fl ks:List Str}
end
section
variable {X:Cx} {W:XW} {R:Cal} {st:Stmt} {rest:List Stmt} {h₀:ExceptHandler} {hds:List ExceptHandler} {l:List Cl} {hs:List Hd} {pos:Pos} {i1:IS} {i2:List IS}
end
section
variable {X:Cx} {W:XW} {x n:Str} {v:Value} {cs:List (Str × Bool)} {h:Hd} {q:Cl} {np pos':Pos} {b₀:Stmt} {suite:List Stmt} {hds:List ExceptHandler} {l:List Cl} {hs:List Hd} {i:Nat} {csn:List Str} {e:Xe} {to:Option Nat}
end
end Mv
namespace Mv
open PySem PySem.Spec PyProof.Rows L2
end Mv
namespace Mv
open PySem PySem.Spec PyProof.Rows L2
section
variable {X:Cx} {W:XW} {x n:Str} {v:Value} {cs:List (Str × Bool)} {np pos':Pos} {b₀:Stmt} {suite:List Stmt} {hds:List ExceptHandler} {hs:List Hd} {i:Nat} {csn:List Str} {e:Xe} {to:Option Nat}
end
section
variable {X:Cx} {W:XW} {R:Cal} {st:Stmt} {rest:List Stmt} {h₀:ExceptHandler} {hds:List ExceptHandler} {hs:List Hd} {pos:Pos} {i1:IS} {i2:List IS}
end
end Mv
namespace Mv
open PySem PySem.Spec PyProof.Rows L2
section
variable {K:PySem.W.Frag} {v:Value} {c f:Str} {C:Addr} {b:Bool}
end
end Mv
namespace Mv
open PySem PySem.Spec PyProof.Rows L2
section
variable {X:Cx} {W:XW} {pos p apos:Pos} {k np:Nat} {Rc:Cal} {perm:List Nat} {ms mk:LSt->M (List LV)} {mo:LSt->M LV} {a o:Expr} {es:List Expr} {kws:List Keyword} {ks:List Str} {dl:List LV} {cs:List (Str × Nat)}
end
section
variable {X:Cx} {W:XW} {pos p p2:Pos} {c:Str} {k n g:Nat} {R:Cal} {a:Expr} {es:List Expr} {is:IEs} {ia ie:IE} {ks:List Str}
end
section
variable {X:Cx} {cs:List Str} {pos p p2 p3 tp tp2:Pos} {ea eb:Expr} {as as2:List Xa} {bs:List (Str × Bool)} {i:Nat} {n x:Str}
end
section
variable {X:Cx} {W:XW} {R:Cal} {pos p apos:Pos} {k np:Nat} {perm:List Nat} {a o:Expr} {es:List Expr} {kws:List Keyword} {ks:List Str} {dl:List LV} {cs:List (Str × Nat)} {io:IE} {is js:IEs}
end
end Mv
namespace Mv
open PySem PySem.Spec PyProof.Rows L2
section
variable {X:Cx} {W:XW} {pos p apos:Pos} {R:Cal} {a o:Expr} {es:List Expr} {ia io:IE} {is:IEs}
end
end Mv
namespace Mv
open PySem PySem.Spec PyProof.Rows L2
section
variable {X:Cx} {W:XW} {pos p apos:Pos} {R:Cal} {a o:Expr} {es:List Expr} {ia io:IE} {is:IEs}
end
section
variable {X:Cx} {W:XW} {pos:Pos} {R:Cal} {a b:Expr} {ia ib:IE} {k:Nat} {cs:List (Str × Nat)}
end
end Mv
namespace Mv
open PySem PySem.Spec PyProof.Rows L2
structure DefF (K:PySem.W.Frag) (f:Addr) (fd:FuncData) (name qual:Str) (st:Stmt) (dV:Value):Prop where
 ex:∃ (kV doc pm cdv ct oc:Value) (an od:Option Addr) (osl:Array (Option Value)),fd = PySem.W.fnOf name qual (defArgs st) (defBody st) (defScope st) dV kV doc pm an cdv ct∧K.lookup f = some ⟨oc,od,.func fd,osl⟩∧PySem.W.codeIn K cdv qual = true
section
variable {P:Program} {w:World} {K:PySem.W.Frag} {mg:Str->Option Value} {base:Heap} {k:Nat} {f:Addr} {fd:FuncData} {name qual:Str} {st:Stmt} {dV:Value} {N ps:List Str} {R:Cal} {g:Fn}
theorem defF_mk {kV doc pm cdv ct oc:Value} {an od:Option Addr} {osl:Array (Option Value)} (lk:K.lookup f = some ⟨oc,od,.func (PySem.W.fnOf name qual (defArgs st) (defBody st) (defScope st) dV kV doc pm an cdv ct),osl⟩) (hcd:PySem.W.codeIn K cdv qual = true) :
  DefF K f (PySem.W.fnOf name qual (defArgs st) (defBody st) (defScope st) dV kV doc pm an cdv ct) name qual st dV:=⟨⟨kV,doc,pm,cdv,ct,oc,an,od,osl,rfl,lk,hcd⟩⟩
theorem fnG_ofD (D:DefF K f fd name qual st dV) (S:FnScope N ps (defScope st)) (hn:g.n = N.length) (hp:g.p = ps.length)
  (hbody:∀ (cdv:Value) (W:XW) (A:Around) (outer:List Env) (s:Shared) (H:Hp) (E:XW),WInv W->TakesH (cxG P w K mg base N qual (defScope st) f cdv A outer s H E) W->Room (3 * k + 2) (A.deeper (envOfC qual (defScope st) s.heap.objs.size f cdv))->A.guards = some [] ->
   EB (cxG P w K mg base N qual (defScope st) f cdv A outer s H E) W R (defBody st) g.body) :
  FnG P w K mg base (k + 1) f fd ps (callFn R g):=by
 obtain ⟨kV,doc,pm,cdv,ct,oc,an,od,osl,e,lk,hcd⟩:=D.ex
 subst e
 exact fnG_of lk hcd S hn hp (hbody cdv)
theorem DefF.of {Q:FuncData->Prop} (D:DefF K f fd name qual st dV) (h:∀ (kV doc pm cdv ct:Value) (an:Option Addr),Q (PySem.W.fnOf name qual (defArgs st) (defBody st) (defScope st) dV kV doc pm an cdv ct)):Q fd:=by
 obtain ⟨kV,doc,pm,cdv,ct,oc,an,od,osl,e,lk,hcd⟩:=D.ex
 subst e
 exact h _ _ _ _ _ _
end
def lkA (xs:List Addr) (i:Nat):Addr:=xs.getD i 0
def lkF (d:FuncData) (xs:List FuncData) (i:Nat):FuncData:=xs.getD i d
end Mv
namespace Mv
open PySem PySem.Spec PyProof.Rows L2
section
variable {X:Cx} {W:XW} {pos p apos:Pos} {R:Cal} {a b o:Expr} {es:List Expr} {ia ib io:IE} {is:IEs}
end
section
variable {X:Cx} {W:XW} {pos p p2 apos cpos:Pos} {R:Cal} {a b c o:Expr} {es:List Expr} {ia ib ic io:IE} {is:IEs} {lo hi:Option Expr} {l h:IO}
end
section
variable {X:Cx} {pos:Pos}
end
section
variable {X:Cx} {W:XW} {pos:Pos} {own:List Nat} {R:Cal} {es es':List Expr} {ts:ITs} {k n:Nat}
end
section
variable {K:PySem.W.Frag} {W:XW} {ι ι':Nat->Addr} {H:Hp} {n n':Nat} {L:LH} {a C:Addr} {c:Str}
theorem RO.ext {o:LO} (ev:Ev K ι H n ι' H n') (h:RO K H ι n a o):RO K H ι' n' a o:=by
 cases o with
 | lst ds=>obtain ⟨xs,h1,h2⟩:=h; exact ⟨xs,h1,h2.mono ev⟩
 | dic ds=>obtain ⟨xs,h1,h2⟩:=h; exact ⟨xs,h1,h2.mono ev⟩
 | ins c fs=>obtain ⟨C,dx,vs,h0,hF,h1,h2⟩:=h; exact ⟨C,dx,vs,h0,hF,h1,h2.mono ev⟩
 | dtp ds=>obtain ⟨q,xs,h1,h2,h3,h4⟩:=h; exact ⟨q,xs,h1,h2,h3,h4.mono ev⟩
 | frz ns=>exact h
 | cls c=>exact h
 | dct ds=>obtain ⟨xs,h1,h2⟩:=h; exact ⟨xs,h1,h2.mono ev⟩
 | frd ds=>obtain ⟨o,vs,h1,h2⟩:=h; exact ⟨o,vs,h1,h2.mono ev⟩
 | frt ds=>obtain ⟨o,vs,h1,h2⟩:=h; exact ⟨o,vs,h1,h2.mono ev⟩
 | exn c fs =>
  obtain ⟨oe,cls,d,h1,h2,h3,C,h4,h5,h6⟩:=h
  refine ⟨oe,cls,d,h1,h2,h3,C,h4,h5,?_⟩
  rcases h6 with h6 | ⟨dd,vs,e1,e2,e3⟩
  ·exact .inl h6
  ·exact .inr ⟨dd,vs,e1,e2,e3.mono ev⟩
theorem Ev.name:Ev K ι H n (Mv.ext ι n a) H (n + 1):=⟨fun _ hk=>ext_lt hk,Nat.le_succ _,fun _ _ h=>h,fun _ _ _ h=>h⟩
theorem Rep.name (R:Rep K ι H L) (h:ClsOf K c C):Rep K (Mv.ext ι L.length C) H (L ++ [.cls c]):=by
 have hl:(L ++ [LO.cls c]).length = L.length + 1:=by rw [List.length_append,List.length_singleton]
 have cas:∀ i z,(L ++ [LO.cls c])[i]? = some z->(i < L.length∧L[i]? = some z)∨(i = L.length∧z = .cls c):=fun i z e=>by
  by_cases hi:i < L.length
  ·rw [List.getElem?_append_left hi] at e
   exact .inl ⟨hi,e⟩
  ·have h2:=get_lt e
   rw [hl] at h2
   obtain rfl:i = L.length:=by omega
   rw [List.getElem?_append_right (Nat.le_refl _),Nat.sub_self] at e
   cases e
   exact .inr ⟨rfl,rfl⟩
 refine ⟨fun k o e=>?_,fun j k x y ej ek mx my eq=>?_⟩
 ·rw [hl]
  rcases cas k o e with ⟨hk,e⟩ | ⟨rfl,rfl⟩
  ·rw [ext_lt hk]
   exact RO.ext Ev.name (R.ob k o e)
  ·rw [ext_eq]
   exact h
 ·rcases cas j x ej with ⟨hj,ej⟩ | ⟨_,rfl⟩
  ·rcases cas k y ek with ⟨hk,ek⟩ | ⟨_,rfl⟩
   ·rw [ext_lt hj,ext_lt hk] at eq
    exact R.inj j k x y ej ek mx my eq
   ·cases my
  ·cases mx
theorem At.name {α β:Type} {R:Rl α β} {σV:L2.St} {σ:LSt} {f:LV->M α} {Q:β->Hp->Prop} (h:At K W R σV σ ι L (M.bind (Mv.new (.cls c)) f L) Q H) (hc:ClsOf K c C) :
  At K W R σV σ (Mv.ext ι L.length C) (L ++ [.cls c]) (f (.ref L.length) (L ++ [.cls c])) Q H:=by
 obtain ⟨a,b,o1,e,z⟩:=h
 have ev:Ev K ι H L.length (Mv.ext ι L.length C) H (L ++ [LO.cls c]).length:=by
  rw [List.length_append,List.length_singleton]
  exact Ev.name
 have e:f (.ref L.length) (L ++ [.cls c]) = some o1:=e
 refine ⟨a.name hc,b.mono ev,o1,e,?_⟩
 cases o1 with
 | ok d L'=>exact fun ι' H' v e1 e2 e3=>z ι' H' v (ev.trans e1) e2 e3
 | ex c fs L'=>exact fun ι' H' e1 e2=>z ι' H' (ev.trans e1) e2
end
section
variable {X:Cx} {W:XW} {pos p apos:Pos} {c m:Str} {k np g:Nat} {Rc:Cal} {perm:List Nat} {ms mk:LSt->M (List LV)} {a o:Expr} {es:List Expr} {kws:List Keyword} {ks:List Str} {dl:List LV}
end
section
variable {X:Cx} {W:XW} {pos p apos:Pos} {c m:Str} {k np g n:Nat} {R:Cal} {perm:List Nat} {is js:IEs} {io ie:IE} {a o:Expr} {es:List Expr} {kws:List Keyword} {ks:List Str} {dl:List LV}
end
end Mv
namespace Mv
open PySem PySem.Spec PyProof.Rows L2
section
variable {prog:Program} {w:World} {A:Around} {E:Value->Shared->Prop} {s:Shared}
variable {z TI TO i1 i2 T:Addr} {fp1 fp2:List Addr} {n1 n2 i:Nat} {P1 P2:Nat->Value->Prop} {St1 St2:Nat->Heap->Prop} {f:Bool}
end
section
variable {X:Cx} {pins:List (Addr × Obj)} {σ:L2.St}
variable {A:Around} {E:Value->Shared->Prop} {s:Shared} {z TI TO i1 i2 a1 a2 S:Addr} {k1 k2:Bool} {its its2:List Value} {i:Nat}
end
section
variable {X:Cx} {e e2:Expr} {ta:TA} {p p2 pos pos2:Pos} {pins:List (Addr × Obj)} {σ:L2.St}
end
end Mv
namespace Mv
open PySem PySem.Spec PyProof.Rows L2
section
variable {K:PySem.W.Frag} {ι:Nat->Addr} {H H':Hp} {L:LH}
end
section
variable {X:Cx} {W:XW} {pos pos2 p p2:Pos} {R:Cal} {a b:Expr} {es:List Expr} {ia ib ie:IE} {is:IEs}
end
end Mv
namespace Mv
open PySem PySem.Spec PyProof.Rows L2
section
variable {K:PySem.W.Frag} {ι:Nat->Addr} {H H':Hp} {L:LH}
end
section
variable {X:Cx} {W:XW} {apos cpos:Pos} {R:Cal} {o a:Expr} {io ia:IE}
end
end Mv
namespace Mv
open PySem PySem.Spec PyProof.Rows L2
section
variable {P:Program} {w:World} {A:Around} {E:Value->Shared->Prop} {s:Shared}
end
end Mv
namespace Mv
open PySem PySem.Spec PyProof.Rows L2
section
variable {X:Cx}
end
section
variable {X:Cx} {W:XW} {pos pos2 p p2 tpos apos cpos:Pos} {R:Cal} {a b o e d:Expr} {ia ib io ie id ij:IE}
end
end Mv
namespace PySem
namespace PX
open PySem PySem.Spec PyProof.Rows PySem.W
section
variable {M:Model} {A:Around} {E:Value->Shared->Prop} {h:Heap} {g:Array GenState} {d:Drawn} {t:Nat} {os:OsState}
variable {nm q:Str} {C N:Addr} {bs bm bmB:List Value} {hdct:Bool} {sn:List Str} {sub:List Value} {ab:Bool} {col:Option Bool} {dd:Option Addr} {k0 k1 k2 k3 k5:Option Value} {B newId initId:String}
end
section
variable {prog:Program} {w:World} {A:Around} {E:Value->Shared->Prop} {R:Result->Shared->Prop} {h:Heap} {g:Array GenState} {d:Drawn} {t:Nat} {os:OsState}
variable {nm q:Str} {C N:Addr} {bs bm bmB:List Value} {hdct:Bool} {sn:List Str} {sub:List Value} {ab:Bool} {col:Option Bool} {dd:Option Addr} {k0 k1 k2 k3 k5:Option Value} {B newId initId:String}
end
end PX
end PySem
namespace Mv
open PySem PySem.Spec PyProof.Rows PySem.W
structure ErrDK (P:Program) (K:Frag) (fI C:Addr) (ps fl:List Str) (np:Nat) (ks:List Str) (perm:List Nat):Prop where
 ex:∃ (oc dV kV doc pm ct ccl cl:Value) (od an cdd cld:Option Addr) (osl ccs csl:Array (Option Value)) (name qual self text file:Str) (params:Arguments) (sets:List Stmt) (scope:Scope) (cda cc:Addr) (vs:Array Value) (tf:Tok) (j:Nat) (p0 p1 ap cp pt ep:Pos) (ar:Arg) (pl:Addr->Sem Bool),
  K.lookup fI = some ⟨oc,od,.func (ksFn name qual params (supS text j p0 p1 ap cp pt ep :: sets) scope dV kV doc pm an (.ref cda) ct cc),osl⟩∧codeIn K (.ref cda) qual = true ∧
  (∀ L,Sets (ksEnv qual scope L fI (.ref cda) cc) self sets (fl.zip ps))∧(params.posonlyargs ++ params.args).head? = some ar∧ar.arg = self ∧
  K.lookup cda = some ⟨ccl,cdd,.fields vs,ccs⟩∧vs[2]? = some (.str file tf)∧((P.main.file:Str) == file) = true∧K.lookup cc = some ⟨cl,cld,.cell (some (.ref C)),csl⟩ ∧
  scope.names.lookup ("super":Str) = some .globalImplicit∧scope.names.lookup ("__class__":Str) = some .free∧(P.main.scope.names.lookup ("super":Str)).isSome = false ∧
  (∀ L,interactive (ksEnv qual scope L fI (.ref cda) cc) = false) ∧
  (∀ L,eval (.Call (.Attribute (.Call (.Name "super" p0) [] [] p1) "__init__" ap) [.Constant (.str text) j pt] [] cp) (ksEnv qual scope L fI (.ref cda) cc) = (do
   let ov <- attributeBase (.Call (.Name "super" p0) [] [] p1) "__init__" (ksEnv qual scope L fI (.ref cda) cc) (eval (.Call (.Name "super" p0) [] [] p1) (ksEnv qual scope L fI (.ref cda) cc))
   standAt ap.atName
   let (f,first) <- holding [ov] (getMethod ov "__init__" (pl L))
   callWith cp f first (backTo cp (starEach [.Constant (.str text) j pt] (ksEnv qual scope L fI (.ref cda) cc))) [])) ∧
  (∀ (s:Shared) (e:Value) (us ws zs:List Value),us.length = np->ws.length = ks.length->permG (us ++ ws) perm = some zs->zs.length = ps.length∧BindsTo s (ksFn name qual params (supS text j p0 p1 ap cp pt ep :: sets) scope dV kV doc pm an (.ref cda) ct cc) ⟨e :: us,ks.zip ws⟩ ((self,e) :: ps.zip zs)) ∧
  (∀ y∈self :: ps,scope.names.lookup y = some .local)∧(∀ x∈scope.names,x.2≠.cell)∧scope.isCoroutine = false∧scope.isGenerator = false∧scope.kind = .function∧(self :: ps).Nodup ∧
  (∀ L,(ksEnv qual scope L fI (.ref cda) cc).kindOf self = some .local)∧(self == ("__debug__":Str)) = false∧fl.length = ps.length∧fl.length<=900∧(∀ f∈fl,takerIn K C f = some none)
section
variable {P:Program} {w:World} {A:Around} {K:Frag} {C fI:Addr} {ps fl ks:List Str} {np:Nat} {perm:List Nat} {mg mb:Str->Option Value} {E:Value->Shared->Prop}
theorem ErrDK.len (D:ErrDK P K fI C ps fl np ks perm):fl.length = ps.length:=by
 obtain ⟨oc,dV,kV,doc,pm,ct,ccl,cl,od,an,cdd,cld,osl,ccs,csl,name,qual,self,text,file,params,sets,scope,cda,cc,vs,tf,j,p0,p1,ap,cp,pt,ep,ar,pl,lk,hcd,hS,har,hself,hcode,hvs,hfile,hcell,hks,hkc,htop,hi,hev,hbd,hloc,hnc,hco,hgen,hkf,hnd,hkS,hdS,hfl,hfl2,htk⟩:=D.ex
 exact hfl
end
end Mv
namespace Mv
open PySem PySem.Spec PyProof.Rows L2
theorem exf_get {P:Program} {w:World} {H:Hp} {h:Heap} {a:Addr} {oe:Obj} (ok:L2.HOk P w H h) (e:H a = some (ExF a oe)):h.get? a = some oe:=by
 have z:ObjOk P w H h a (.frz oe (.ext fun h=>h.get? a = some oe)):=ok a _ e
 exact z.1
section
variable {X:Cx} {W:XW} {c:Str} {fl ks:List Str} {np k:Nat} {perm:List Nat} {p pos:Pos} {C fI:Addr} {ps:List Str}
variable {a:Expr} {es:List Expr} {kws:List Keyword} {R:Cal} {is js:IEs}
variable {ia ie:IE} {e:Expr}
variable {p2:Pos} {bs:List (Str × Bool)} {x:Str}
end
end Mv
namespace Mv
open PySem PySem.Spec PyProof.Rows L2
structure HotF (X:Cx):Prop where
 ex:∃ a oe vs,X.A.handled = some (.ref a)∧X.H_0 a = some (ExF a oe)∧oe.data = .fields vs∧vs[2]? = some Value.none
section
variable {X:Cx} {pins:List (Addr × Obj)} {σ:L2.St} {H:Hp} {s:Shared}
theorem HotF.now (c:HotF X) (I:Inv X pins σ H s):∃ a oe vs,X.A.handled = some (.ref a)∧H a = some (ExF a oe)∧oe.data = .fields vs∧vs[2]? = some Value.none:=by
 obtain ⟨a,oe,vs,h1,h2,h3,h4⟩:=c.ex
 exact ⟨a,oe,vs,h1,I.base.frzs a oe _ h2,h3,h4⟩
theorem HotF.at (c:HotF X) (I:Inv X pins σ H s):∃ x1,HotX.HotAt X.A x1 s.heap:=by
 obtain ⟨a,oe,vs,h1,h2,h3,h4⟩:=c.now I
 exact ⟨a,h1,oe,vs,exf_get I.hok h2,h3,h4⟩
end
section
variable {P:Program} {w:World} {K:PySem.W.Frag} {mg:Str->Option Value} {base:Heap} {k:Nat} {f:Addr} {fd:FuncData} {name qual:Str} {N ps:List Str} {R:Cal} {g:Fn}
end
section
variable {X:Cx} {pos p:Pos} {x:Str} {f:Addr} {fd:FuncData} {ps ks:List Str} {k np i:Nat} {perm:List Nat} {a:Expr} {es:List Expr} {kws:List Keyword} {Rc:Cal} {is iks:IEs}
end
section
variable {X:Cx} {tg:Expr}
end
section
variable {X:Cx} {R:Cal} {tg elt a:Expr} {ifs:List Expr} {scope:Scope} {ow:List (Str × Nat)} {p pos cpos:Pos} {t:IT} {co:IO} {ie ia:IE}
end
end Mv
namespace Mv
open PySem PySem.Spec PyProof.Rows L2 L2H
section
variable {X:Cx} {pins:List (Addr × Obj)} {σ:L2.St} {H:Hp} {s:Shared} {a:Addr} {oe:Obj} {vs:Array Value}
end
section
variable {X:Cx} {x n:Str} {c:Value} {i:Nat} {body suite:List Stmt} {b₀:Stmt} {np pos pos':Pos} {tb:WX->TS} {ts:Addr->TS}
end
section
variable {X:Cx} {W:XW} {R:Cal} {x n:Str} {v:Value} {cs:List (Str × Bool)} {i j:Nat} {np pos pos' tp apos:Pos} {body:List Stmt} {ib:List IS} {e:Expr} {ie:IE} {y:Str}
theorem At.getV {α β:Type} {K:PySem.W.Frag} {Rr:Rl α β} {σV:L2.St} {σ:LSt} {ι:Nat->Addr} {L:LH} {H:Hp} {Q:β->Hp->Prop} {f:LV->M α} {W:XW} (h:At K W Rr σV σ ι L (M.bind (Mv.getV σ i) f L) Q H):∃ y,σ[i]? = some (some y)∧At K W Rr σV σ ι L (f y L) Q H:=by
 have h:At K W Rr σV σ ι L (M.bind (getR σ[i]?) f L) Q H:=h
 generalize e:σ[i]? = o at h
 cases o with
 | none=>exact h.no.elim
 | some o =>
  cases o with
  | none=>exact h.no.elim
  | some y=>exact ⟨y,rfl,h⟩
theorem GoodH.suite (G:GoodH X) {a:Addr} {pn:List (Addr × Obj)}:GoodH (X.suite a pn):=⟨G.hg,G.hu,G.nd,G.dg⟩
variable {p p2:Pos} {f:Addr} {fd:FuncData} {ps:List Str} {k g:Nat} {fn:Str} {a b:Expr} {ia ib2:IE} {ad:Addr} {pn:List (Addr × Obj)}
end
end Mv
namespace Mv
open PySem PySem.Spec PyProof.Rows L2 L2H
section
variable {X:Cx} {W:XW} {R:Cal} {c:Str} {fl:List Str} {p cpos pos:Pos} {a:Expr} {es:List Expr} {ms:LSt->M (List LV)} {k:Nat} {is:IEs}
end
end Mv
namespace Mv
open PySem PySem.Spec PyProof.Rows L2
end Mv
namespace Mv
open PySem PySem.Spec PyProof.Rows L2
section
variable {X:Cx} {W:XW}
structure HasN (X:Cx) (H:Hp) (L:List (Addr × NestedKey)) (ks:List NestedKey):Prop where
 kv:∀ p∈L,KVn X.K H p.2 (.ref p.1)∧p.2.depth<=8
 mem:∀ k,k∈L.map (·.2)↔k∈ks
 len:L.length<=ks.length
theorem HasN.mono {H H':Hp} {L:List (Addr × NestedKey)} {ks:List NestedKey} (h:HasN X H L ks) (tp:∀ a xs,SqN X.K H a xs->SqN X.K H' a xs):HasN X H' L ks:=⟨fun p hp=>⟨KVn.mono tp _ _ (h.kv p hp).1,(h.kv p hp).2⟩,h.mem,h.len⟩
end
end Mv
namespace Mv
open PySem PySem.Spec PyProof.Rows L2
section
variable {X:Cx} {W:XW} {R:Cal} {elt tg iter:Expr} {ifs:List Expr} {scope:Scope} {ow:List (Str × Nat)} {pos pos2 p:Pos}
end
end Mv
namespace Mv
open PySem PySem.Spec PyProof.Rows L2
section
variable {prog:Program} {w:World} {A:Around} {R:Result->Shared->Prop} {s:Shared} {elt t i i1 t1:Expr} {ifs ifs1:List Expr} {gens:List Comprehension} {k:Nat} {scope:Scope} {pos:Pos} {it acc:Value} {env:Env}
end
end Mv
namespace Mv
open PySem PySem.Spec PyProof.Rows L2
abbrev TC:=L2.St->Hp->(Hp->Prop)->Prop
section
variable {Y:Cx} {elt tg iter:Expr} {ifs:List Expr} {gens:List Comprehension} {k:Nat} {scope:Scope} {pos:Pos} {D:Addr} {vs vs':List Nat} {tc:TC} {wi:TI} {g:TG} {tt:TT} {te:TE}
end
end Mv
namespace Mv
open PySem PySem.Spec PyProof.Rows L2
section
variable {X:Cx}
end
end Mv
namespace Mv
open PySem L2
end Mv
namespace Mv
open PySem L2
end Mv
namespace Mv
open PySem L2
end Mv
namespace Mv
open PySem L2
def nval (kvs:List (NestedKey × LV)) (k:NestedKey):Option LV:=(kvs.find? fun kv=>decide (kv.1 = k)).map (·.2)
end Mv
namespace Mv
open PySem L2
def nput (kvs:List (NestedKey × LV)) (k:NestedKey) (v:LV):List (NestedKey × LV):=if (nval kvs k).isSome then kvs.map (fun x=>if x.1 = k then (x.1,v) else x) else kvs ++ [(k,v)]
end Mv
namespace Mv
open PySem L2
end Mv
namespace Mv
open PySem L2
end Mv
namespace Mv
open PySem L2
end Mv
namespace Mv
open PySem L2
end Mv
namespace Mv
open PySem L2
end Mv
namespace Mv
open PySem L2
def tupIt:LV->Option (List LV)
 | .tup xs=>some xs
 | _=>none
end Mv
namespace Mv
open PySem L2
def itbV:LV->M LV
 | .bl b=>M.ret (.int (if b then 1 else 0))
 | .int n=>M.ret (.int n)
 | _=>M.no
end Mv
namespace Mv
open PySem L2
end Mv
namespace Mv
open PySem L2
def sttT (i j:Nat) (ts:ITs) (R:Cal):LV->LSt->M LSt:=fun v σ=>M.look (fun _=>tupIt v) fun xs=>M.chk (decide (i + j<=xs.length∧xs.length<=16384)) (M.bind (new (.lst ((xs.drop i).take (xs.length - i - j)))) fun r=>evTs R ts (xs.take i ++ [r] ++ (xs.drop i).drop (xs.length - i - j)) σ)
end Mv
namespace Mv
open PySem L2
end Mv
namespace Mv
open PySem L2
end Mv
namespace Mv
open PySem PySem.Spec PyProof.Rows L2
section
variable {K:PySem.W.Frag} {W:XW} {n:Nat} {D:Addr}
end
end Mv
namespace Mv
open PySem PySem.Spec PyProof.Rows L2
section
variable {X:Cx} {W:XW} {R:Cal} {elt tg iter tg1 iter1 tg2 iter2:Expr} {ifs ifs1 ifs2:List Expr} {scope:Scope} {ow:List (Str × Nat)} {pos:Pos} {own1 own2:List Nat}
end
end Mv
namespace Mv
open PySem PySem.Spec PyProof.Rows L2
section
variable {K:PySem.W.Frag} {W:XW} {n:Nat} {D:Addr}
theorem RKV.len {H:Hp} {ι:Nat->Addr} {m:Nat}:∀ {vs:List (Key × V)} {ds:List (Key × LV)},RKV K H ι m vs ds->vs.length = ds.length
 | _,_,.nil=>rfl
 | _,_,.cons _ t=>congrArg (· + 1) (RKV.len t)
end
section
variable {X:Cx} {W:XW} {R:Cal} {kx vx tg iter:Expr} {ifs:List Expr} {scope:Scope} {ow:List (Str × Nat)} {pos:Pos}
end
end Mv
namespace Mv
open PySem PySem.Spec PyProof.Rows L2
section
variable {X:Cx} {W:XW} {R:Cal} {d a b:Expr} {id ia ib:IE} {apos cpos:Pos}
end
end Mv
namespace Mv
open PySem PySem.Spec PyProof.Rows L2
section
variable {X:Cx}
end
section
variable {K:PySem.W.Frag} {H:Hp} {ι:Nat->Addr} {n:Nat}
theorem RDV.at:∀ {xs:List XE3} {ds:List (NestedKey × LV)} (k:NestedKey),RDV K H ι n xs ds->(atX xs k = none∧nval ds k = none)∨∃ v d,atX xs k = some v∧nval ds k = some d∧RV K H ι n v d
 | _,_,_,.nil=>.inl ⟨rfl,rfl⟩
 | _,_,k,.cons (x:=x) (d:=d) (xs:=xs) (ds:=ds) h1 h2 h3 t=>by
  by_cases h:x.1 = k
  ·refine .inr ⟨x.2.2,d,?_,?_,h3⟩
   ·unfold atX; rw [List.find?_cons_of_pos (by simpa using h)]; rfl
   ·unfold nval; rw [List.find?_cons_of_pos (by simpa using h)]; rfl
  ·have e1:atX (x :: xs) k = atX xs k:=by unfold atX; rw [List.find?_cons_of_neg (by simpa using h)]
   have e2:nval ((x.1,d) :: ds) k = nval ds k:=by unfold nval; rw [List.find?_cons_of_neg (by simpa using h)]
   rw [e1,e2]
   exact RDV.at k t
theorem RDV.kv:∀ {xs:List XE3} {ds:List (NestedKey × LV)},RDV K H ι n xs ds->∀ x∈xs,KVn K H x.1 (.ref x.2.1)∧x.1.depth<=8
 | _,_,.nil,_,h=>by cases h
 | _,_,.cons h1 h2 _ t,x,h=>by
  rcases List.mem_cons.mp h with e | h
  ·rw [e]; exact ⟨h1,h2⟩
  ·exact RDV.kv t x h
end
section
variable {X:Cx} {W:XW} {R:Cal} {a b:Expr} {ia ib:IE} {pos:Pos}
end
end Mv
namespace Mv
open PySem PySem.Spec PyProof.Rows L2
section
variable {X:Cx} {pins:List (Addr × Obj)} {σ:L2.St} {H:Hp} {s:Shared} {D b:Addr} {k:NestedKey} {v:V} {u:Value} {E:Value->Shared->Prop} {Q:Unit->Shared->Prop} {Nx:Hp->Prop}
end
end Mv
namespace Mv
open PySem PySem.Spec PyProof.Rows L2
section
variable {X:Cx}
end
end Mv
namespace Mv
open PySem PySem.Spec PyProof.Rows L2
section
variable {K:PySem.W.Frag} {H:Hp} {ι:Nat->Addr} {n:Nat}
theorem RDV.len:∀ {xs:List XE3} {ds:List (NestedKey × LV)},RDV K H ι n xs ds->xs.length = ds.length
 | _,_,.nil=>rfl
 | _,_,.cons _ _ _ t=>congrArg (· + 1) (RDV.len t)
theorem RDV.repl {k:NestedKey} {v:V} {d:LV} (r:RV K H ι n v d):∀ {xs:List XE3} {ds:List (NestedKey × LV)},RDV K H ι n xs ds->RDV K H ι n (xs.map fun x=>if x.1 = k then (x.1,x.2.1,v) else x) (ds.map fun x=>if x.1 = k then (x.1,d) else x)
 | _,_,.nil=>.nil
 | _,_,.cons (x:=x) h1 h2 h3 t=>by
  rw [List.map_cons,List.map_cons]
  by_cases h:x.1 = k
  ·have e1:(if x.1 = k then (x.1,x.2.1,v) else x) = (x.1,x.2.1,v):=if_pos h
   rw [e1]
   rw [if_pos (show (x.1,_).1 = k from h)]
   exact RDV.cons (x:=(x.1,x.2.1,v)) h1 h2 r (RDV.repl r t)
  ·rw [if_neg h,if_neg (show ¬ (x.1,_).1 = k from h)]
   exact .cons h1 h2 h3 (RDV.repl r t)
theorem RDV.snoc {k:NestedKey} {b:Addr} {v:V} {d:LV} (q1:KVn K H k (.ref b)) (q2:k.depth<=8) (r:RV K H ι n v d):∀ {xs:List XE3} {ds:List (NestedKey × LV)},RDV K H ι n xs ds->RDV K H ι n (xs ++ [(k,b,v)]) (ds ++ [(k,d)])
 | _,_,.nil=>RDV.cons (x:=(k,b,v)) q1 q2 r .nil
 | _,_,.cons h1 h2 h3 t=>.cons h1 h2 h3 (RDV.snoc q1 q2 r t)
theorem RDV.put {k:NestedKey} {b:Addr} {v:V} {d:LV} (q1:KVn K H k (.ref b)) (q2:k.depth<=8) (r:RV K H ι n v d) {xs:List XE3} {ds:List (NestedKey × LV)} (h:RDV K H ι n xs ds):RDV K H ι n (putX xs k b v) (nput ds k d):=by
 unfold putX nput
 rcases h.at k with ⟨e1,e2⟩ | ⟨_,_,e1,e2,_⟩
 ·rw [e1,e2]
  exact RDV.snoc q1 q2 r h
 ·rw [e1,e2]
  exact RDV.repl r h
end
section
variable {K:PySem.W.Frag} {W:XW} {n:Nat} {D:Addr}
end
section
variable {X:Cx} {W:XW} {R:Cal} {kx vx tg iter:Expr} {ifs:List Expr} {scope:Scope} {ow:List (Str × Nat)} {pos:Pos}
end
end Mv
namespace Mv
open PySem PySem.Spec PyProof.Rows L2
section
variable {X:Cx} {W:XW} {R:Cal} {pos:Pos} {own:List Nat} {io ii:IE}
end
end Mv
namespace Mv
open PySem PySem.Spec PyProof.Rows L2
section
variable {X:Cx} {W:XW} {R:Cal} {pos p:Pos} {a:Expr} {ia:IE}
end
end Mv
namespace Mv
open PySem PySem.Spec PyProof.Rows L2
section
variable {X:Cx}
end
section
variable {X:Cx} {W:XW} {R:Cal} {a b:Expr} {ia ib:IE} {pos:Pos}
end
end Mv
namespace Mv
open PySem PySem.Spec PyProof.Rows L2
section
variable {X:Cx} {W:XW} {R:Cal} {o e:Expr} {f:Str} {pos p:Pos} {own:List Nat} {io ie:IE} {cls:List Str}
end
end Mv
namespace Mv
open PySem PySem.Spec PyProof.Rows L2 PpSet
section
variable {P:Program} {w:World} {A:Around} {E:Value->Shared->Prop} {s:Shared}
end
end Mv
namespace Mv
open PySem PySem.Spec PyProof.Rows L2 PpSet
section
variable {X:Cx}
end
section
variable {X:Cx} {W:XW} {R:Cal} {pos pos2 p p2:Pos} {a:Expr} {ia:IE}
end
end Mv
namespace Mv
open PySem PySem.Spec PyProof.Rows L2
section
variable {X:Cx}
end
section
variable {X:Cx} {W:XW} {R:Cal} {elt tg iter tg1 iter1 tg2 iter2:Expr} {ifs ifs1 ifs2:List Expr} {scope:Scope} {ow:List (Str × Nat)} {pos spos py:Pos} {own1 own2:List Nat} {i:Nat} {y:Str}
end
end Mv
namespace Mv
open PySem PySem.Spec PyProof.Rows L2
section
variable {X:Cx} {W:XW} {pos p apos:Pos} {R:Cal} {a o:Expr} {es:List Expr} {ia io:IE} {is:IEs}
end
end Mv
namespace Mv
open PySem PySem.Spec PyProof.Rows L2
section
variable {X:Cx} {W:XW} {pos p:Pos} {R:Cal} {a:Expr} {ia:IE}
end
end Mv
namespace Mv
open PySem PySem.Spec PyProof.Rows L2
section
variable {X:Cx}
end
section
variable {K:PySem.W.Frag} {H:Hp} {ι:Nat->Addr}
end
section
variable {X:Cx} {W:XW} {R:Cal} {a b:Expr} {ia ib:IE} {pos:Pos}
end
end Mv
namespace Mv
open PySem PySem.Spec PyProof.Rows L2
section
variable {X:Cx} {pos:Pos}
end
section
variable {X:Cx} {W:XW} {pos:Pos} {own:List Nat} {R:Cal} {es es':List Expr} {ts:ITs} {k i j:Nat}
end
end Mv
namespace Mv
open PySem PySem.Spec PyProof.Rows L2
section
variable {X:Cx} {W:XW} {R:Cal} {a:Expr} {ia:IE} {pos p:Pos}
end
end Mv
namespace Mv
open PySem PySem.Spec PyProof.Rows L2
def nvB (N:List Str):Bool:=N.all fun x=>!(x == ("__debug__":Str)) && !(x == ("__classdict__":Str))
structure NV (N:List Str):Prop where
 ok:∀ {i:Nat} {x:Str},N[i]? = some x->(x == ("__debug__":Str)) = false∧(x == ("__classdict__":Str)) = false
theorem nv_of {N:List Str} (h:nvB N = true):NV N:=⟨fun {i x} e=>by
 have q:=List.all_eq_true.mp h x (List.mem_of_getElem? e)
 simp only [Bool.and_eq_true,Bool.not_eq_true'] at q
 exact q⟩
section
variable {X:Cx} {W:XW} {R:Cal} {pos:Pos}
theorem E_n1 {i:Nat} {x:Str} (nv:NV X.N) (hN:X.N[i]? = some x:=by exact rfl) (hv:X.env.scope.names.lookup x = some .local:=by exact rfl):EE X W R (.Name x pos) (.var i):=E_var hN (.inl hv) (nv.ok hN).1 (nv.ok hN).2
theorem E_n2 {i:Nat} {x:Str} (nv:NV X.N) (hN:X.N[i]? = some x:=by exact rfl) (hv:X.env.scope.names.lookup x = some .cell:=by exact rfl):EE X W R (.Name x pos) (.var i):=E_var hN (.inr (.inl hv)) (nv.ok hN).1 (nv.ok hN).2
end
section
variable {P:Program} {w:World} {K:PySem.W.Frag} {mg:Str->Option Value} {base:Heap} {k:Nat} {R:Cal} {N ps:List Str} {qual:Str} {scope:Scope} {body:List Stmt} {fb:List IS}
structure WkP (P:Program) (w:World) (K:PySem.W.Frag) (mg:Str->Option Value) (base:Heap) (k:Nat) (R:Cal) (N:List Str) (qual:Str) (scope:Scope) (body:List Stmt) (fb:List IS):Prop where
 run:∀ {f:Addr} {cdv:Value} {A:Around} {outer:List Env} {s:Shared} {H:Hp} {E:XW} {W:XW},WInv W->TakesH (cxG P w K mg base N qual scope f cdv A outer s H E) W->Room (3 * k + 2) (A.deeper (envOfC qual scope s.heap.objs.size f cdv))->A.guards = some [] ->
  EB (cxG P w K mg base N qual scope f cdv A outer s H E) W R body fb
theorem fsc {N ps:List Str} {sc:Scope} (kind:sc.kind = .function:=by exact rfl) (co:sc.isCoroutine = false:=by exact rfl) (gen:sc.isGenerator = false:=by exact rfl) (nd:N.Nodup:=by decide +kernel) (pre:N.take ps.length = ps:=by exact rfl) (par:∀ x∈ps,sc.names.lookup x = some .local∨sc.names.lookup x = some .cell:=by decide +kernel) (nofree:∀ y∈sc.names,y.2≠.free:=by decide +kernel):FnScope N ps sc:=⟨kind,co,gen,nd,pre,par,nofree⟩
theorem wk_of (sc:FnScope N ps scope) (hnv:nvB N = true) (hdg:base.NoDigits)
  (h:∀ {f:Addr} {cdv:Value} {A:Around} {outer:List Env} {s:Shared} {H:Hp} {E:XW} {W:XW},Good (cxG P w K mg base N qual scope f cdv A outer s H E) ->
   PassesOwn (model (cxG P w K mg base N qual scope f cdv A outer s H E).prog (cxG P w K mg base N qual scope f cdv A outer s H E).w) (cxG P w K mg base N qual scope f cdv A outer s H E).A (cxG P w K mg base N qual scope f cdv A outer s H E).env (cxG P w K mg base N qual scope f cdv A outer s H E).xe ->
   NV N->WInv W->TakesH (cxG P w K mg base N qual scope f cdv A outer s H E) W->Room (3 * k + 2) (A.deeper (envOfC qual scope s.heap.objs.size f cdv)) ->
   EB (cxG P w K mg base N qual scope f cdv A outer s H E) W R body fb):WkP P w K mg base k R N qual scope body fb :=
 ⟨fun hW tk hr hgu=>h (good_of sc hr hgu hdg) (passes_of rfl) (nv_of hnv) hW tk hr⟩
end
end Mv
namespace Mv
open PySem PySem.Spec PyProof.Rows L2
theorem walkH {l:PySem.W.OpenLaw} {n k:Nat} {q:Program} {loose:List Str} {XP:(Str->Option Value)->Heap->Prop} {YP:World->Heap->Prop} {d:DefRec} {K:Params->PySem.W.Frag} {x:Str} {Rl:List LV->M LV} {L:Prop}
  (hn:l.most = some n) (hn2:n<=sizeLine) (hdf:d.params.defaults = []) (hr:Room (3 * k) callerA) (hY:∀ (w:World) (h:Heap),YP w h->(K w.params).In h∧L)
  (F:∀ (w:World) (mg:Str->Option Value) (fa:Addr) (h:Heap),(K w.params).In h->h.Ns mainGlobals mg->mg d.name = some (.ref fa) ->
   ∃ fd:FuncData,(∀ (s:Shared) (u:Value),BindsTo s fd ⟨[u],[]⟩ [(x,u)]) ∧
    ∀ base:Heap,(K w.params).In base->base.Ns mainGlobals mg->base.NoDigits->FnG l.prog w (K w.params) mg base k fa fd [x] Rl)
  (hR:L->∀ ns:List Int,ns.length<=n->∃ L',Rl [.ref 0] [.frz ns] = some (.ok (.bl true) L')) :
  PySem.W.WalkO q loose XP YP l.row.toRowW d [] (fun f vs=>PySem.call f vs):=by
 refine Att.attach_call hn hdf fun w s₀ s₁ mg mb fa o pm cd doc a vs ns G Y ho hd hcd hmg hobj hints hlen hg=>?_
 obtain ⟨fd,hb,hF⟩:=F w mg fa _ (hY w _ Y).1 G.T.g hmg
 exact law_callG (hY w _ Y).1 G.T.g G.T.b G.T.builtins G.T.nolimit G.T.nodigits hg hobj hints (Nat.le_trans hlen hn2) hr hF hb (hR (hY w _ Y).2 ns hlen)
theorem walkI {l:PySem.W.OpenLaw} {n k:Nat} {q:Program} {loose:List Str} {XP:(Str->Option Value)->Heap->Prop} {YP:World->Heap->Prop} {d:DefRec} {K:Params->PySem.W.Frag} {x:Str} {Rl:List LV->M LV} {L:Prop}
  (hn:l.most = some n) (hn2:n<=sizeLine) (hdf:d.params.defaults = []) (hr:Room (3 * k) callerA) (hY:∀ (w:World) (h:Heap),YP w h->(K w.params).In h∧L)
  (F:∀ (w:World) (mg:Str->Option Value) (fa:Addr) (h:Heap),L->(K w.params).In h->h.Ns mainGlobals mg->mg d.name = some (.ref fa) ->
   ∃ fd:FuncData,(∀ (s:Shared) (u:Value),BindsTo s fd ⟨[u],[]⟩ [(x,u)]) ∧
    ∀ base:Heap,(K w.params).In base->base.Ns mainGlobals mg->base.NoDigits->FnG l.prog w (K w.params) mg base k fa fd [x] Rl)
  (hR:L->∀ ns:List Int,ns.length<=n->∃ L',Rl [.ref 0] [.frz ns] = some (.ok (.bl true) L')) :
  PySem.W.WalkO q loose XP YP l.row.toRowW d [] (fun f vs=>PySem.call f vs):=by
 refine Att.attach_call hn hdf fun w s₀ s₁ mg mb fa o pm cd doc a vs ns G Y ho hd hcd hmg hobj hints hlen hg=>?_
 obtain ⟨fd,hb,hF⟩:=F w mg fa _ (hY w _ Y).2 (hY w _ Y).1 G.T.g hmg
 exact law_callG (hY w _ Y).1 G.T.g G.T.b G.T.builtins G.T.nolimit G.T.nodigits hg hobj hints (Nat.le_trans hlen hn2) hr hF hb (hR (hY w _ Y).2 ns hlen)
abbrev lawHook (H:PySem.W.Hook):PySem.W.Hook:=H
end Mv
namespace Mv
open PySem PySem.Spec PyProof.Rows L2
section
variable {X:Cx} {pins:List (Addr × Obj)} {σ:L2.St} {H:Hp} {s:Shared} {d:Addr} {o:Obj}
end
section
variable {P:Program} {w:World} {K:PySem.W.Frag} {tg:Expr} {d:Addr} {o:Obj} {es:Array DictEntry} {ep:Nat}
end
section
variable {X:Cx} {W:XW} {R:Cal} {e:Expr} {ie:IE}
end
end Mv
namespace Mv
open PySem L2
end Mv
namespace Mv
open PySem PySem.Spec PyProof.Rows L2
section
variable {X:Cx} {W:XW} {R:Cal} {tg a b c:Expr} {ia ib ic:IE} {p pos:Pos}
end
end Mv
namespace Mv
open PySem L2
end Mv
namespace Mv
open PySem PySem.Spec PyProof.Rows L2 PpSet
section
variable {P:Program} {w:World} {A:Around} {E:Value->Shared->Prop} {s:Shared} {x:Value} {L:List (Addr × NestedKey)}
end
section
variable {X:Cx}
end
end Mv
namespace Mv
open PySem PySem.Spec PySem.Calls PySem.W PyProof.Rows L2 PpSet
section
variable {prog:Program} {w:World} {A:Around} {E:Value->Shared->Prop} {s:Shared} {T:String} {r d:Addr} {n:Nat} {P:Nat->Value->Prop} {OK:Heap->Prop}
end
end Mv
namespace Mv
open PySem PySem.Spec PyProof.Rows L2 PpSet
section
variable {X:Cx} {W:XW} {R:Cal} {pos pos2 p p2 apos cpos:Pos} {a o:Expr} {ia io:IE}
end
end Mv
namespace Mv
open PySem PySem.Spec PyProof.Rows L2 PpSet
section
variable {X:Cx} {W:XW} {R:Cal} {pos pos2 p p2 apos cpos:Pos} {a o:Expr} {ia io:IE}
theorem RDV.keys {K:PySem.W.Frag} {H:Hp} {ι:Nat->Addr} {n:Nat}:∀ {xs:List XE3} {ds:List (NestedKey × LV)},RDV K H ι n xs ds->ds.map (·.1) = (xs.map fun x=>(x.2.1,x.1)).map (·.2)
 | _,_,.nil=>rfl
 | _,_,.cons _ _ _ t=>by
  rw [List.map_cons,List.map_cons,List.map_cons,RDV.keys t]
end
section
variable {X:Cx} {pins:List (Addr × Obj)} {σ:L2.St} {H:Hp} {s:Shared} {A:Around} {E:Value->Shared->Prop} {a b:Addr} {kvs more:List (Key × V)}
end
end Mv
namespace Mv
open PySem PySem.Spec PyProof.Rows L2 PpSet
section
variable {X:Cx} {W:XW} {R:Cal} {apos cpos:Pos} {a o:Expr} {ia io:IE}
end
end Mv
namespace Mv
open PySem PySem.Spec PyProof.Rows L2 PpSet
section
variable {P:Program} {w:World} {A:Around} {E:Value->Shared->Prop} {s:Shared}
end
section
variable {X:Cx}
end
section
variable {X:Cx} {W:XW} {R:Cal} {pos pos2 p p2:Pos} {a:Expr} {ia:IE}
end
end Mv
namespace Mv
open PySem L2
end Mv
namespace Mv
open PySem PySem.Spec PyProof.Rows L2
section
variable {X:Cx} {pins:List (Addr × Obj)} {σ:L2.St} {H:Hp} {s:Shared} {D b:Addr} {k:NestedKey} {v:V} {u:Value}
end
section
variable {X:Cx} {o e:Expr} {es:List Expr} {to:TE} {t:TA} {name:Str} {apos cpos:Pos} {id:String} {r:V->List V->Hp->VK->Prop}
end
section
variable {X:Cx} {W:XW} {R:Cal} {d a b:Expr} {id ia ib:IE} {apos cpos:Pos}
end
section
variable {X:Cx} {W:XW} {R:Cal} {es:List Expr} {e:Expr} {ie:IE} {is:IEs} {pos:Pos} {kk i:Nat} {a:Addr}
end
end Mv
namespace Mv
open PySem PySem.Spec PyProof.Rows L2 L2H
section
variable {X:Cx} {W:XW} {R:Cal} {x n:Str} {v:Value} {cs:List (Str × Bool)} {i j:Nat} {np pos pos' tp apos:Pos} {body:List Stmt} {ib:List IS} {e:Expr} {ie:IE} {y:Str}
end
end Mv
namespace Mv
open PySem PySem.Spec PyProof.Rows L2
section
variable {P:Program} {w:World} {K:PySem.W.Frag} {mg:Str->Option Value} {base:Heap} {k:Nat} {f:Addr} {fd:FuncData} {name qual:Str} {st:Stmt} {dV:Value} {N ps:List Str} {R:Cal} {g:Fn}
theorem fnG_w (D:DefF K f fd name qual st dV) (S:FnScope N ps (defScope st)) (W:WkP P w K mg base k R N qual (defScope st) (defBody st) g.body) (hn:g.n = N.length) (hp:g.p = ps.length):FnG P w K mg base (k + 1) f fd ps (callFn R g) :=
 fnG_ofD D S hn hp fun _ _ _ _ _ _ _ hW tk hr hg=>W.run hW tk hr hg
def DefX (K:PySem.W.Frag) (f:Addr) (name qual:Str) (st:Stmt) (dV:Value):Prop:=∃ fd:FuncData,DefF K f fd name qual st dV∧PySem.W.keepIn K (.ref f) = true
theorem defX_mk {kV doc pm cdv ct oc:Value} {an od:Option Addr} {osl:Array (Option Value)} (lk:K.lookup f = some ⟨oc,od,.func (PySem.W.fnOf name qual (defArgs st) (defBody st) (defScope st) dV kV doc pm an cdv ct),osl⟩) (hcd:PySem.W.codeIn K cdv qual = true) (hk:PySem.W.keepIn K (.ref f) = true):DefX K f name qual st dV:=⟨_,defF_mk lk hcd,hk⟩
theorem bo_of {n:Nat} {ks:List Str} {pm:List Nat} (D:DefF K f fd name qual st dV) (h:∀ (kV doc pm2 cdv ct:Value) (an:Option Addr),BindOk K (PySem.W.fnOf name qual (defArgs st) (defBody st) (defScope st) dV kV doc pm2 an cdv ct) ps n ks pm):BindOk K fd ps n ks pm:=D.of (Q:=fun fd=>BindOk K fd ps n ks pm) h
end
end Mv
namespace Mv
open PySem PySem.Spec PyProof.Rows L2 PpSet
def HashSelf (P:Program) (w:World) (k:Int):Prop:=(intKind P w).hash k = k
def hsOf (es:Array (Int × Value)):List Int:=es.toList.map (·.1)
def SetI (P:Program) (w:World) (h:Heap) (a:Addr) (S:Int->Bool) (n:Nat):Prop :=
 ∃ o es ep t,h.get? a = some o∧o.ExactSet∧o.data = .set es ep t∧(∀ e∈es.toList,∃ tk,e.2 = Value.int e.1 tk∧HashSelf P w e.1)∧(hsOf es).Nodup∧(∀ k,S k = true↔k∈hsOf es) ∧
  TabG t (hsOf es)∧t.plain = true∧(w.params.followText "set-order" = true∨t.led = true)∧es.size * 5 < t.mask * 3∧es.size = n
section
variable {P:Program} {w:World} {h h':Heap} {a:Addr} {S:Int->Bool} {n:Nat}
theorem SetI.at (R:SetI P w h a S n) (k:∀ o,h.get? a = some o->h'.get? a = some o):SetI P w h' a S n:=by
 obtain ⟨o,es,ep,t,ho,r⟩:=R
 exact ⟨o,es,ep,t,k o ho,r⟩
theorem SetI.congr {S':Int->Bool} (R:SetI P w h a S n) (e:∀ k,S' k = S k):SetI P w h a S' n:=by
 have q:S' = S:=funext e
 rw [q]; exact R
theorem hs_len {es:Array (Int × Value)}:(hsOf es).length = es.size:=by unfold hsOf; rw [List.length_map,Array.length_toList]
theorem tabI_fits {t:SetTable} {es:Array (Int × Value)} (T:TabG t (hsOf es)) (hl:es.size<=t.mask):t.fits es.size = true:=by
 have h1:=T.sz
 rw [hs_len] at h1
 unfold SetTable.fits SetTable.fill
 rw [T.dm,Bool.and_eq_true,beq_iff_eq,decide_eq_true_eq]
 show t.place.size = es.size∧t.place.size + 0<=t.mask
 omega
theorem setI_new {ns:List Int} (ho:h.get? a = some { cls:=.type "set",dict:=none,data:=.set #[] 0 (.fresh 0 0 (!w.params.followText "set-order")) }):SetI P w h a (fun j=>decide (j∈ns.take 0)) 0:=by
 refine ⟨_,#[],0,_,ho,⟨rfl,rfl,rfl⟩,rfl,fun e he=>by simp at he,by simp [hsOf],fun k=>by simp [hsOf],⟨List.Pairwise.nil,rfl,rfl,⟨3,by decide,rfl⟩,fun x hx=>(by cases hx),fun i h j hi=>(by simp [hsOf] at hi)⟩,rfl,?_,(by show 0 * 5 < 7 * 3; decide),rfl⟩
 show _∨(!w.params.followText "set-order") = true
 cases w.params.followText "set-order"
 ·exact .inr rfl
 ·exact .inl rfl
end
section
variable {P:Program} {w:World} {A:Around} {E:Value->Shared->Prop} {s:Shared} {a:Addr} {S:Int->Bool} {n:Nat}
theorem seenI {k:Int} {tk:Tok} {Q:Bool->Shared->Prop} (h:Q false s):∀ (ys:List Value),(∀ y∈ys,∃ k' t',y = Value.int k' t')->wpAny (model P w) A (searchCouldBeSeen (.int k tk) ys) Q E s
 | [],_=>by
  unfold searchCouldBeSeen
  exact wpAny_pure h
 | y :: ys,hy=>by
  obtain ⟨k',t',rfl⟩:=hy _ (.head _)
  have ih:=seenI (k:=k) (tk:=tk) h ys fun y hm=>hy y (.tail _ hm)
  unfold searchCouldBeSeen at ih ⊢
  rw [List.forIn_cons]
  simp only [carriedByValue,Bool.and_self,Bool.or_true,if_true,pure_bind,bind_assoc] at ih ⊢
  exact ih
theorem order_rows {es:Array (Int × Value)} {order:Array Nat} (hp:order.toList.Perm (List.range es.size)):(order.filterMap (es[·]?)).toList.Perm es.toList∧hsOf (order.filterMap (es[·]?)) = order.toList.map fun i=>(es.map (·.1)).getD i 0:=by
 have e1:(order.filterMap (es[·]?)).toList = order.toList.filterMap fun i=>es.toList[i]?:=by
  rw [Array.toList_filterMap]
  congr 1
  funext i
  rw [Array.getElem?_toList]
 refine ⟨?_,?_⟩
 ·rw [e1]
  have z:=hp.filterMap fun i=>es.toList[i]?
  have z2:=pick_range es.toList
  rw [Array.length_toList] at z2
  rw [z2] at z
  exact z
 ·unfold hsOf
  rw [e1,pick_map es.toList (·.1) 0 order.toList fun i hi=>by rw [Array.length_toList]; exact List.mem_range.mp (hp.mem_iff.mp hi)]
  refine List.map_congr_left fun i _=>?_
  congr 1
  rw [<- Array.toList_map]
structure Good2 (P:Program) (w:World) (es:Array (Int × Value)) (t:SetTable):Prop where
 g:∀ e∈es.toList,∃ tk,e.2 = Value.int e.1 tk∧HashSelf P w e.1
 nd:(hsOf es).Nodup
 tab:TabG t (hsOf es)
 pl:t.plain = true
 led:w.params.followText "set-order" = true∨t.led = true
theorem put_ok {es:Array (Int × Value)} {t:SetTable} {k:Int} {tk:Tok} {K:Nat} (G:Good2 P w es t) (hk:HashSelf P w k) (hn:k ∉ hsOf es) (hK:wy t.mask k K ∉ t.place.toList) (hb:∀ c,c < K->wy t.mask k c∈t.place.toList) :
  ∃ t1 p,t.put (wy t.mask k K) = (t1,p)∧Good2 P w (SetTable.insertAt es p (k,Value.int k tk)) t1∧t1.mask = t.mask∧t1.fill = es.size + 1∧(hsOf (SetTable.insertAt es p (k,Value.int k tk))).Perm (k :: hsOf es)∧(SetTable.insertAt es p (k,Value.int k tk)).size = es.size + 1:=by
 obtain ⟨q2,q3,q4,q5,q6,q9⟩:=G.tab.put rfl hK hb
 rw [hs_len] at q2 q9
 generalize t.put (wy t.mask k K) = pt at q2 q3 q4 q5 q6 q9 ⊢
 obtain ⟨t1,p⟩:=pt
 dsimp only at q2 q3 q4 q5 q6 q9 ⊢
 have hin:(SetTable.insertAt es p (k,Value.int k tk)).toList = es.toList.take p ++ (k,Value.int k tk) :: es.toList.drop p:=SetTable.toList_insertAt ..
 have hhs:hsOf (SetTable.insertAt es p (k,Value.int k tk)) = (hsOf es).take p ++ k :: (hsOf es).drop p:=by
  unfold hsOf
  rw [hin,List.map_append,List.map_cons,List.map_take,List.map_drop]
 have pm:=put_perm es.toList p (k,Value.int k tk)
 rw [<- hin] at pm
 have pk:(hsOf (SetTable.insertAt es p (k,Value.int k tk))).Perm (k :: hsOf es):=pm.map fun e:Int × Value=>e.1
 refine ⟨t1,p,rfl,⟨fun e he=>?_,pk.nodup_iff.mpr (List.nodup_cons.mpr ⟨hn,G.nd⟩),by rw [hhs]; exact q3,by rw [q6]; exact G.pl,by rw [q5]; exact G.led⟩,q4,q9,pk,?_⟩
 ·rcases List.mem_cons.mp (pm.mem_iff.mp he) with e | he
  ·rw [e]; exact ⟨tk,rfl,hk⟩
  ·exact G.g e he
 ·rw [<- Array.length_toList,pm.length_eq,List.length_cons,Array.length_toList]
theorem relay_ok {es:Array (Int × Value)} {t:SetTable} (G:Good2 P w es t) (h0:0 < es.size) (h1:es.size<=1000000) :
  ∃ t2 order,t.relaid (es.map (·.1)) (SetTable.grown es.size) = some (t2,order)∧order.toList.Perm (List.range es.size)∧Good2 P w (order.filterMap (es[·]?)) t2∧(hsOf (order.filterMap (es[·]?))).Perm (hsOf es)∧(order.filterMap (es[·]?)).size = es.size∧es.size * 5 < t2.mask * 3∧SetTable.sizeAbove (SetTable.grown es.size)<=8 * es.size + 8:=by
 obtain ⟨M,g1,g2,g3,g4⟩:=grown_ok h0 h1
 obtain ⟨t',order,e,hp,T',em,el,ep'⟩:=relaidG_ok t (hs:=es.map (·.1)) g1 g2 (by rw [Array.size_map]; omega)
 rw [Array.size_map] at hp
 obtain ⟨r1,r2⟩:=order_rows hp
 rw [<- r2] at T'
 have pk:(hsOf (order.filterMap (es[·]?))).Perm (hsOf es):=r1.map fun e:Int × Value=>e.1
 refine ⟨t',order,e,hp,⟨fun x hx=>G.g x (r1.mem_iff.mp hx),pk.nodup_iff.mpr G.nd,T',by rw [ep']; exact G.pl,by rw [el]; exact G.led⟩,pk,by rw [<- Array.length_toList,r1.length_eq,Array.length_toList],by rw [em]; exact g3,g4⟩
theorem good2_set {o:Obj} {h':Heap} {es es1:Array (Int × Value)} {ep:Nat} {t1:SetTable} {k:Int} (ho:h'.get? a = some o) (hex:o.ExactSet) (hd:o.data = .set es1 ep t1) (G:Good2 P w es1 t1) (hm:∀ k,S k = true↔k∈hsOf es) (pk:(hsOf es1).Perm (k :: hsOf es)) (hr:es1.size * 5 < t1.mask * 3) (hn:es.size = n):SetI P w h' a (fun j=>S j || decide (j = k)) (n + 1) :=
 ⟨o,es1,ep,t1,ho,hex,hd,G.g,G.nd,fun i=>by
  rw [Bool.or_eq_true,decide_eq_true_eq,hm i,pk.mem_iff,List.mem_cons]
  exact Or.comm,G.tab,G.pl,G.led,hr,by
  have:=pk.length_eq
  rw [hs_len,List.length_cons,hs_len] at this
  omega⟩
theorem addI {k:Int} {tk:Tok} {Q:Bool->Shared->Prop} (R:SetI P w s.heap a S n) (hk:HashSelf P w k) (room:n + 1<=1000000)
  (hQ:∀ h',Heap.SameBut a s.heap h'->SetI P w h' a (fun j=>S j || decide (j = k)) (if S k = true then n else n + 1)->Q (!S k) { s with heap:=h' }) :
  wpAny (model P w) A (setAddHashed a (.int k tk) ((intKind P w).hash k)) Q E s:=by
 obtain ⟨o,es,ep,t,ho,hex,hd,g,nd,hm,T,pl,ld,hr,hn⟩:=R
 have G:Good2 P w es t:=⟨g,nd,T,pl,ld⟩
 have hf:=tabI_fits T (by omega)
 have hkey:(intKind P w).is k (.int k tk) = true:=intKind_is P w k tk
 have hsc:(Value.int k tk).scannable = true:=rfl
 obtain ⟨K,hKf,hK,hKb⟩:=T.first (by rw [hs_len]; omega) k
 have there:S k = true->Q false s:=fun hS=>by
  have q:=hQ s.heap (Heap.SameBut.refl a s.heap) ⟨o,es,ep,t,ho,hex,hd,g,nd,fun i=>by
   rw [Bool.or_eq_true,decide_eq_true_eq,hm i]
   exact ⟨fun z=>z.elim id fun e=>e ▸ (hm k).mp hS,.inl⟩,T,pl,ld,hr,by rw [if_pos hS]; exact hn⟩
  rw [hS] at q
  exact q
 have anew:k ∉ hsOf es->∀ h' es1 ep1 t1 o1,Heap.SameBut a s.heap h'->h'.get? a = some o1->o1.ExactSet->o1.data = .set es1 ep1 t1->Good2 P w es1 t1->(hsOf es1).Perm (k :: hsOf es)->es1.size * 5 < t1.mask * 3->Q true { s with heap:=h' }:=fun hn0 h' es1 ep1 t1 o1 sb e1 e2 e3 e4 e5 e6=>by
  have hS:S k = false:=by
   cases z:S k with
   | false=>rfl
   | true=>exact absurd ((hm k).mp z) hn0
  have q:=hQ h' sb
  rw [hS] at q
  exact q (good2_set e1 e2 e3 e4 hm e5 e6 hn)
 have specOf:∀ (hashAt:Nat->Int),_:=fun hashAt=>go_spec t T.ris T.dm hashAt k (10 * SetTable.turns t.mask) K (t.probeStart k) rfl hKf hKb hK
 unfold setAddHashed
 refine wpAny_holding ?_
 rw [show (100000:Nat) = 99999 + 1 from rfl,setAddHashedIn_succ]
 refine wpAny_bind (wpAny_setState_of ho hd hf ?_)
 dsimp only
 by_cases hb:es.size < scanBound
 ·have hel:ElemsOf (intKind P w) es.toList:=fun e he=>by
   obtain ⟨t',h1,h2⟩:=g e he
   exact ⟨⟨e.1,by rw [h1]; exact intKind_is P w e.1 t',h2.symm⟩,by rw [h1]; rfl⟩
  have isI:∀ e∈es.toList,((intKind P w).is k e.2 = true↔e.1 = k):=fun e he=>by
   obtain ⟨t',h1,h2⟩:=g e he
   rw [h1]
   show ((e.1 == k) = true)↔e.1 = k
   exact beq_iff_eq
  rw [byScan_of hsc hb hel]
  simp only [↓reduceIte]
  unfold setAddByScan
  refine wpAny_bind ?_
  refine wpAny_bind (wpAny_rule ?_)
  refine wpAny_bind (wpAny_setScan_of hkey ho hd hf hel ?_)
  cases hfi:List.findIdx? (fun e=>(intKind P w).is k e.2) es.toList with
  | some j =>
   dsimp only
   obtain ⟨hj,pj,_⟩:=List.findIdx?_eq_some_iff_getElem.mp hfi
   have he:es.toList[j]∈es.toList:=List.getElem_mem hj
   have hS:S k = true:=(hm k).mpr (List.mem_map.mpr ⟨_,he,(isI _ he).mp pj⟩)
   exact wpAny_pure (wpAny_pure (there hS))
  | none =>
   dsimp only
   have hnk:k ∉ hsOf es:=fun z=>by
    obtain ⟨e,he,q⟩:=List.mem_map.mp z
    have c:=List.findIdx?_eq_none_iff.mp hfi e he
    rw [(isI e he).mpr q] at c
    cases c
   have fs:t.freeSlot ((intKind P w).hash k) = some (wy t.mask k K,false):=by
    unfold SetTable.freeSlot
    rcases specOf fun _=>(intKind P w).hash k + 1 with ⟨q,i,hq,hi,hh,_⟩ | ⟨_,hpr⟩
    ·have hh:(intKind P w).hash k + 1 = k:=hh
     have hk:(intKind P w).hash k = k:=hk
     omega
    ·rw [hk] at hpr ⊢
     have hpr:t.probe (fun _=>k + 1) k (t.probeStart k) = _:=hpr
     rw [hpr]
     rfl
   obtain ⟨t1,p,ep1,G1,em,ef,pk,esz⟩:=put_ok (tk:=tk) G hk hnk hK hKb
   have hf1:t1.fits (SetTable.insertAt es p (k,Value.int k tk)).size = true:=tabI_fits G1.tab (by omega)
   have ln:layNew t es ((intKind P w).hash k) (.int k tk) = (SetTable.insertAt es p (k,Value.int k tk),t1,false,false):=by
    unfold layNew
    rw [fs]
    dsimp only
    rw [ep1,hk]
    dsimp only
    unfold SetTable.orStandIn
    rw [hf1]
    rfl
   rw [ln]
   dsimp only
   have pl1:=G1.pl
   have an:=anew hnk
   generalize SetTable.insertAt es p (k,Value.int k tk) = es1 at *
   refine wpAny_bind (wpAny_pure (a:=()) ?_)
   refine wp_if_pos pl1 ?_
   refine wpAny_bind ?_
   rw [hashByValue_scannable 8 hsc]
   refine wpAny_pure ?_
   simp only [plainKind,if_true]
   refine wpAny_bind (wpAny_storeSet_of ho hd ?_ (by rw [esz,sizeLine_eq]; omega))
   have ho1:=store_at (es':=es1) (t':=t1) ho hd
   have sb1:=Heap.SameBut.update s.heap a (Obj.putSet es1 t1)
   have hx1:Obj.ExactSet { o with data:=.set es1 (ep + 1) t1 }:=⟨hex.1,hex.2.1,hex.2.2⟩
   by_cases hfu:t1.tooFull = true
   ·have h0:0 < es1.size:=by omega
    obtain ⟨t2,order,er,hp,G2,pk2,sz2,rm2,_⟩:=relay_ok G1 h0 (by omega)
    have hf2:=tabI_fits G2.tab (by omega)
    have rl:relayAll t1 es1 (SetTable.grown es1.size) = (order.filterMap (es1[·]?),t2,false):=by
     unfold relayAll
     rw [er]
     dsimp only
     have cv:coversAll order es1.size = true:=List.isPerm_iff.mpr hp
     rw [cv,hf2]
     rfl
    simp only [hfu,Bool.not_false,Bool.and_self,if_true]
    rw [rl]
    dsimp only
    refine wpAny_bind (wpAny_pure (a:=()) ?_)
    refine wpAny_bind (wpAny_storeSet_of ho1 rfl ?_ (by rw [sz2,esz,sizeLine_eq]; omega))
    have ho2:=store_at (es':=order.filterMap (es1[·]?)) (t':=t2) ho1 rfl
    refine wpAny_pure ?_
    dsimp only
    refine wpAny_pure (an _ _ _ _ _ (sb1.trans (Heap.SameBut.update ..)) ho2 ⟨hx1.1,hx1.2.1,hx1.2.2⟩ rfl G2 (pk2.trans pk) (by rw [sz2]; exact rm2))
   ·simp only [hfu,Bool.and_false,Bool.false_eq_true,if_false]
    refine wpAny_pure ?_
    dsimp only
    refine wpAny_pure (an _ _ _ _ _ sb1 ho1 hx1 rfl G1 pk ?_)
    unfold SetTable.tooFull at hfu
    rw [decide_eq_true_eq,ef] at hfu
    omega
 ·have nb:byScan (.int k tk) es = false:=by
   unfold byScan
   rw [decide_eq_false hb,Bool.and_false,Bool.false_and]
  refine wp_if_neg (by rw [nb]; decide) ?_
  try refine wpAny_bind (wpAny_pure ?_)
  have hat:∀ i,(fun (i:Nat)=>(es[i]?.map (·.1)).getD 0) i = k->i < es.size->∃ t',es[i]? = some (k,.int k t'):=fun i e hi=>by
   have e:(es[i]?.map (·.1)).getD 0 = k:=e
   rw [Array.getElem?_eq_getElem hi] at e ⊢
   have e:es[i].1 = k:=e
   obtain ⟨t',h1,_⟩:=g es[i] (Array.mem_toList_iff.mpr (Array.getElem_mem hi))
   refine ⟨t',?_⟩
   rw [<- e,<- h1]
  have tsz:t.place.size = es.size:=by rw [T.sz,hs_len]
  have search:∀ (Q':SetFound->Shared->Prop),(S k = true->Q' (.there none) s)->(k ∉ hsOf es->Q' (.free (wy t.mask k K) false) s)->wpAny (model P w) A (setSearch a (.int k tk) ((intKind P w).hash k) true) Q' E s:=fun Q' h1 h2=>by
   unfold setSearch
   rw [show (100000:Nat) = 99999 + 1 from rfl,setSearchFrom_succ]
   refine wpAny_bind (wpAny_setState_of ho hd hf ?_)
   dsimp only
   refine wp_if_neg (by unfold SetTable.gaveWay; rw [T.mok.odd]; decide) ?_
   try refine wpAny_bind (wpAny_pure ?_)
   rw [hk]
   rcases specOf fun (i:Nat)=>(es[i]?.map (·.1)).getD 0 with ⟨q,i,hq,hi,hh,hno,hpr⟩ | ⟨hno,hpr⟩
   ·have hpr:t.probe (fun (i:Nat)=>(es[i]?.map (·.1)).getD 0) k (t.probeStart k) = _:=hpr
    rw [show (none:Option SetTable.Probe).getD (t.probeStart k) = t.probeStart k from rfl,hpr]
    dsimp only
    have hil:i < es.size:=by
     have h1:i < t.place.toList.length:=(List.getElem?_eq_some_iff.mp hi).1
     rw [Array.length_toList] at h1
     omega
    obtain ⟨t',e1⟩:=hat i hh hil
    have hS:S k = true:=(hm k).mpr (List.mem_map.mpr ⟨(k,.int k t'),List.mem_of_getElem? (by rw [Array.getElem?_toList]; exact e1),rfl⟩)
    have rest:∀ j nx,wpAny (model P w) A (searchRest a (.int k tk) k true 99999 es t j i nx) Q' E s:=fun j nx=>by
     unfold searchRest
     rw [e1]
     dsimp only
     refine wpAny_bind (wpAny_holding ((intKind P w).eqBool (a:=k) (b:=k) (intKind_is P w k t') hkey ?_))
     refine wpAny_bind (wpAny_setState_of ho hd hf ?_)
     dsimp only
     refine wp_if_pos (by simp) ?_
     exact wpAny_pure (h1 hS)
    by_cases hl:t.led = true
    ·refine wp_if_neg (by simp [hl]) ?_
     try refine wpAny_bind (wpAny_pure ?_)
     exact rest _ _
    ·refine wp_if_pos (by simp [hl]) ?_
     refine wpAny_bind (seenI ?_ _ fun y hy=>?_)
     ·refine wp_if_neg (by decide) ?_
      try refine wpAny_bind (wpAny_pure ?_)
      exact rest _ _
     ·obtain ⟨e,he,rfl⟩:=List.mem_map.mp hy
      have he1:e∈es∧e.1 = k:=by simpa using he
      obtain ⟨t',h1,_⟩:=g e (Array.mem_toList_iff.mpr he1.1)
      exact ⟨_,t',h1⟩
   ·have hpr:t.probe (fun (i:Nat)=>(es[i]?.map (·.1)).getD 0) k (t.probeStart k) = _:=hpr
    rw [show (none:Option SetTable.Probe).getD (t.probeStart k) = t.probeStart k from rfl,hpr]
    dsimp only
    refine wpAny_pure (h2 fun z=>?_)
    obtain ⟨e,he,ek⟩:=List.mem_map.mp z
    obtain ⟨i,hi,ei⟩:=List.getElem_of_mem he
    rw [Array.length_toList] at hi
    have hj:t.place.toList[i]? = some (t.place.toList[i]'(by rw [Array.length_toList]; omega)):=List.getElem?_eq_getElem _
    have hh:(hsOf es)[i]? = some k:=by
     unfold hsOf
     rw [List.getElem?_map,List.getElem?_eq_getElem (by rw [Array.length_toList]; exact hi),ei]
     exact congrArg some ek
    obtain ⟨c,hc,e2⟩:=T.before hK hh hj
    refine hno c i hc (by rw [hj,<- e2]; rfl) ?_
    show (es[i]?.map (·.1)).getD 0 = k
    rw [<- Array.getElem?_toList,List.getElem?_eq_getElem (by rw [Array.length_toList]; exact hi),ei]
    exact ek
  refine wpAny_bind (search _ (fun hS=>?_) fun hnk=>?_)
  ·dsimp only
   exact wpAny_pure (there hS)
  ·dsimp only
   refine wpAny_bind (wpAny_setState_of ho hd hf ?_)
   dsimp only
   obtain ⟨t1,p,ep1,G1,em,ef,pk,esz⟩:=put_ok (tk:=tk) G hk hnk hK hKb
   rw [ep1,hk]
   dsimp only
   have pl1:=G1.pl
   have an:=anew hnk
   generalize SetTable.insertAt es p (k,Value.int k tk) = es1 at *
   refine wp_if_pos pl1 ?_
   refine wpAny_bind ?_
   rw [hashByValue_scannable 8 hsc]
   refine wpAny_pure ?_
   simp only [plainKind,if_true]
   refine wpAny_bind (wpAny_storeSet_of ho hd ?_ (by rw [esz,sizeLine_eq]; omega))
   have ho1:=store_at (es':=es1) (t':=t1) ho hd
   have sb1:=Heap.SameBut.update s.heap a (Obj.putSet es1 t1)
   have hx1:Obj.ExactSet { o with data:=.set es1 (ep + 1) t1 }:=⟨hex.1,hex.2.1,hex.2.2⟩
   generalize s.heap.update a (Obj.putSet es1 t1) = h1 at sb1 ho1 ⊢
   by_cases hfu:t1.tooFull = true
   ·have h0:0 < es1.size:=by omega
    obtain ⟨t2,order,er,hp,G2,pk2,sz2,rm2,sA⟩:=relay_ok G1 h0 (by omega)
    have hf1:t1.fits es1.size = true:=tabI_fits G1.tab (by omega)
    rw [<- esz]
    refine wp_if_pos (by simp [hfu]) ?_
    refine wpAny_bind ?_
    rw [setRelay_eq]
    refine wpAny_bind (wpAny_setState_of ho1 rfl hf1 ?_)
    dsimp only
    refine wp_if_neg (by rw [sizeLine_eq]; omega) ?_
    try refine wpAny_bind (wpAny_pure ?_)
    rw [er]
    dsimp only
    refine wpAny_bind ?_
    refine wp_if_neg (by rw [sz2]; simp) ?_
    try refine wpAny_bind (wpAny_pure ?_)
    refine wpAny_pure ?_
    dsimp only
    refine wpAny_storeSet_of ho1 rfl ?_ (by rw [sz2,esz,sizeLine_eq]; omega)
    have ho2:=store_at (es':=order.filterMap (es1[·]?)) (t':=t2) ho1 rfl
    exact wpAny_pure (an _ _ _ _ _ (sb1.trans (Heap.SameBut.update ..)) ho2 ⟨hx1.1,hx1.2.1,hx1.2.2⟩ rfl G2 (pk2.trans pk) (by rw [sz2]; exact rm2))
   ·refine wp_if_neg (by simp [hfu]) ?_
    try refine wpAny_bind (wpAny_pure ?_)
    refine wpAny_pure (an _ _ _ _ _ sb1 ho1 hx1 rfl G1 pk ?_)
    unfold SetTable.tooFull at hfu
    rw [decide_eq_true_eq,ef] at hfu
    omega
end
end Mv
namespace Mv
open PySem PySem.Spec PyProof.Rows L2 PpSet
abbrev emp (w:World):Obj:={ cls:=.type "set",dict:=none,data:=.set #[] 0 (.fresh 0 0 (!w.params.followText "set-order")) }
section
variable {P:Program} {w:World} {A:Around} {E:Value->Shared->Prop} {s:Shared}
theorem walkSI {it S:Addr} {fp wr:List Addr} {G:Array GenState->Array GenState->Prop} {Pv:Nat->Value->Prop} {St:Nat->Shared->Prop} {R:Result->Shared->Prop} {ns:List Int}
  (W:WalksS P w A.in1 it fp wr G ns.length Pv St) (nf:S ∉ fp) (few:ns.length<=900000) (hv:∀ i v,Pv i v->∃ k t,ns[i]? = some k∧v = .int k t) (hh:∀ k∈ns,HashSelf P w k) :
  ∀ (m i:Nat) (s:Shared),ns.length - i = m->i<=ns.length->St i s->(∃ c,c<=i∧SetI P w s.heap S (fun j=>decide (j∈ns.take i)) c) ->
   (∀ s' c,Moved (S :: wr) G s s'->SetI P w s'.heap S (fun j=>decide (j∈ns)) c->R (.ok (.ret .none)) s')->codeAny (model P w) A (.builtin "set.update.loop" ⟨[.ref S,.ref it],[]⟩) R s
 | 0,i,s,hm,hi,st,⟨c,_,B⟩,fin=>by
  have nw:S ∉ wr:=fun z=>nf (W.sub _ z)
  obtain rfl:i = ns.length:=by omega
  refine codeAny_builtin F.entry_set_update_loop ?_
  rw [Around.under_plainId F.plain_set_update_loop _]
  refine wpAny_bind (W.done s _ _ st fun s' mv=>?_)
  rw [List.take_length] at B
  exact wpAny_pure (fin s' c (mv.mono fun b hb=>.tail _ hb) (B.at fun o e=>mv.heap S o nw e))
 | m + 1,i,s,hm,hi,st,⟨c,hc,B⟩,fin=>by
  have nw:S ∉ wr:=fun z=>nf (W.sub _ z)
  have il:i < ns.length:=by omega
  refine codeAny_builtin F.entry_set_update_loop ?_
  rw [Around.under_plainId F.plain_set_update_loop _]
  refine wpAny_bind (W.item i s _ _ il st fun v s1 pv st1 mv=>?_)
  obtain ⟨x,tk,hx,rfl⟩:=hv i v pv
  have B1:SetI P w s1.heap S (fun j=>decide (j∈ns.take i)) c:=B.at fun o e=>mv.heap S o nw e
  refine wpAny_bind (wpAny_holding ?_)
  unfold setAdd
  refine wpAny_holding (wpAny_bind ((intKind P w).pyHash (k:=x) (intKind_is _ _ _ _) ?_))
  refine addI (s:={ s1 with toks:=s1.toks + 1 }) B1 (hh x (List.mem_of_getElem? hx)) (by omega) fun h2 sb B2=>?_
  have B3:SetI P w h2 S (fun j=>decide (j∈ns.take (i + 1))) (if decide (x∈ns.take i) = true then c else c + 1):=B2.congr fun j=>by
   rw [List.take_add_one,hx]
   simp [List.mem_append]
  refine wpAny_pure ⟨plainId_quiet F.plain_set_update_loop _,walkSI W nf few hv hh m (i + 1) _ (by omega) il (W.frame _ s1 _ _ st1 (Nat.le_succ _) fun b hb o e=>?_) ⟨_,by split <;> omega,B3⟩ fun s2 c2 mv2 B4=>?_⟩
  ·rw [sb.2 b fun z:b = S=>nf (z ▸ hb)]
   exact e
  ·refine fin s2 c2 (Moved.trans W.gtrans ((mv.mono fun b hb=>.tail _ hb).then_heap (Nat.le_succ _) fun b o hb e=>?_) mv2) B4
   rw [sb.2 b fun z:b = S=>hb (z ▸ .head _)]
   exact e
set_option maxHeartbeats 8000000 in
theorem setT_ok {l:Addr} {items:Array Value} {ns:List Int} {Q:Value->Shared->Prop} (hd:A.handled = none) (tl:s.heap.IsTuple l items) (hi:IntsAre items.toList ns) (few:ns.length<=900000) (hh:∀ k∈ns,HashSelf P w k)
  (q:∀ (h2:Heap) (tk c:Nat),SetI P w h2 s.heap.objs.size (fun j=>decide (j∈ns)) c->(∀ b o,s.heap.get? b = some o->h2.get? b = some o)->Q (.ref s.heap.objs.size) { s with heap:=h2,toks:=tk }) :
  wpAny (model P w) A (call (.type "set") [.ref l]) Q E s:=by
 have sz:items.size = ns.length:=by
  rw [<- Array.length_toList]
  exact IntsAre.length hi
 obtain ⟨c0,rest0,hmro⟩:=F.called_set.mro
 have f1:=F.called_set.made
 have f2:=F.called_set.sub
 refine wpAny_call (codeAny_of_tree ?_)
 show wpAny (model P w) _ (callAny (Value.type "set") _) _ _ _
 refine wpAny_pure ⟨Code.quiet_builtin _ (by decide +kernel),codeAny_builtin F.entry_type_call ?_⟩
 rw [Around.under_plain (weight_type_call_type "set" [.ref l] []) rfl]
 have f3:=F.called_set.notType
 have f4:=F.called_set.canCreate
 have f5:=F.typeCall_set_1 (.ref l)
 repeat (any_goals (first | assumption | wp_step))
 refine codeAny_mono (code_set_led1 (.ref l) (E:=E) (Q₁:=fun v s1=>v = .ref s.heap.objs.size∧s1 = { s with heap:=s.heap.push (emp w) }) ⟨rfl,rfl⟩) fun r s1 hr=>?_
 match r,hr with
 | .error e,hr=>exact hr
 | .ok (.ret v),hr =>
  obtain ⟨rfl,rfl⟩:=hr
  have hS:(s.heap.push (emp w)).get? s.heap.objs.size = some (emp w):=Heap.get?_push_size _ rfl
  have hT:Shared.TypeIs { s with heap:=s.heap.push (emp w) } (.ref s.heap.objs.size) "set":=⟨_,hS,rfl⟩
  have f6:=F.called_set.init.lookup
  have f7:=F.called_set.init.bind (.ref s.heap.objs.size)
  repeat (any_goals (first | assumption | wp_step))
  refine codeAny_mono (codeAny_call_builtin (R:=wants (fun v s2=>v = .none∧∃ h2 tk c,s2 = { s with heap:=h2,toks:=tk }∧SetI P w h2 s.heap.objs.size (fun j=>decide (j∈ns)) c∧∀ b o,s.heap.get? b = some o->h2.get? b = some o) E) F.called_set.init.plain F.entry_set_init (check_set_init_1 hT ?_)) fun r2 s2 hr2=>?_
  ·obtain ⟨⟨cl,dd,da,sl⟩,ho,hc,nn,hda⟩:=tl
   simp only at hc hda
   subst hc hda
   have g1:=F.sub_tuple_set
   have g2:=F.sub_tuple_frozenset
   have g3:(Value.type "tuple" == Value.type "dict") = false:=by decide
   have ho1:=Heap.get?_push_of_some (emp w) ho
   have tl1:(s.heap.push (emp w)).IsTuple l items:=⟨_,ho1,rfl,nn,rfl⟩
   unfold Builtin.«set.__init__» noKeywords Builtin.Frozenset.updateFrom
   generalize hPI:pyIter = PI
   wp_walk
   subst hPI
   refine wpAny_pyIter_tuple tl1 (wpAny_bind (wpAny_runValue ?_))
   have lt:=Heap.lt_size ho
   have hd3:A.in1.in1.in1.handled = none:=by simp [hd]
   have z1:(s.heap.push (emp w)).objs.size = s.heap.objs.size + 1:=Heap.size_push ..
   have n1:l≠(s.heap.push (emp w)).objs.size:=by rw [z1]; exact Nat.ne_of_lt (Nat.lt_succ_of_lt lt)
   have n2:s.heap.objs.size ∉ [(s.heap.push (emp w)).objs.size,l]:=by
    simp only [List.mem_cons,List.not_mem_nil,or_false,not_or]
    exact ⟨by rw [z1]; exact Nat.ne_of_lt (Nat.lt_succ_self _),Nat.ne_of_gt lt⟩
   have hv:∀ (i:Nat) (v:Value),items[i]? = some v->∃ k t,ns[i]? = some k∧v = .int k t:=fun i v e=>by
    have il:i < ns.length:=by
     rw [<- sz]
     exact (Array.getElem?_eq_some_iff.mp e).1
    obtain ⟨t,e2⟩:=PyProof.Rows.IntsAre.int_at hi i v (by rw [Array.getElem?_toList]; exact e)
    refine ⟨ns[i],t,List.getElem?_eq_getElem il,?_⟩
    rw [e2,List.getD_eq_getElem?_getD,List.getElem?_eq_getElem il]
    rfl
   have W:=(Walks.tuple (prog:=P) (w:=w) hd3 _ l n1 items).toS
   rw [sz] at W
   refine walkSI W n2 few hv hh (ns.length - 0) 0 _ rfl (Nat.zero_le _) ⟨⟨_,Heap.get?_push_size _ rfl,rfl,rfl⟩,tl1.push _⟩ ⟨0,Nat.le_refl 0,setI_new (Heap.get?_push_of_some _ hS)⟩ fun s' c mv B=>?_
   obtain ⟨h2,g2',d2,tk2,os2⟩:=s'
   obtain rfl:g2' = s.gens:=mv.gens
   obtain rfl:d2 = s.drawn:=mv.drawn
   obtain rfl:os2 = s.os:=mv.os
   refine wpAny_pure ?_
   refine wpAny_pure ⟨rfl,h2,tk2,c,rfl,B,fun b o e=>?_⟩
   have b0:=Heap.lt_size e
   refine mv.heap b o ?_ (Heap.get?_push_of_some _ (Heap.get?_push_of_some _ e))
   simp only [List.mem_cons,List.not_mem_nil,or_false,not_or]
   exact ⟨Nat.ne_of_lt b0,by rw [z1]; exact Nat.ne_of_lt (Nat.lt_succ_of_lt b0)⟩
  ·match r2,hr2 with
   | .error e,hr2=>exact hr2
   | .ok (.ret v),hr2 =>
    obtain ⟨rfl,h2,tk,c,rfl,B,kp⟩:=hr2
    repeat (any_goals (first | assumption | wp_step))
    exact q _ _ _ B kp
end
end Mv
namespace Mv
open PySem L2
def lssV:LV->M LV
 | .tup xs=>M.ofO (intL xs) fun ns=>M.chk (decide (ns.length<=900000) && ns.all fun n=>decide (0<=n) && decide (n < 2 ^ 60)) (M.ret (.int ((dist ns).length:Nat)))
 | _=>M.no
def lssX (e:IE) (R:Cal):LSt->M LV:=fun σ=>M.bind (evE R e σ) lssV
def hdS:LV->Option (Str × Bool)
 | .tup (.str a :: r)=>some (a,r.isEmpty)
 | _=>none
def oneS:LV->Option Str
 | .tup [.str b]=>some b
 | _=>none
def eqtV (x y:LV):M LV:=M.ofO (hdS x) fun a=>M.ofO (oneS y) fun b=>M.ret (.bl (decide (a.1 = b) && a.2))
def eqtX (a b:IE) (R:Cal):LSt->M LV:=fun σ=>M.bind (evE R a σ) fun x=>M.bind (evE R b σ) fun y=>eqtV x y
end Mv
namespace Mv
open PySem PySem.Spec PyProof.Rows L2 PpSet
theorem hash_self {P:Program} {w:World} {n:Int} (h0:0<=n) (h1:n < 2 ^ 60):HashSelf P w n:=by
 unfold HashSelf
 show hashInt n = n
 have e:rawHash n = n:=by
  unfold rawHash
  have e1:((n.natAbs % (2 ^ 61 - 1:Nat):Nat):Int) = n:=by
   rw [Nat.mod_eq_of_lt (by omega)]
   exact Int.natAbs_of_nonneg h0
  have e2:(n.natAbs:Int) % ((2 ^ 61 - 1:Nat):Int) = n:=by rw [<- Int.natCast_emod]; exact e1
  dsimp only
  have n0:¬ n < 0:=by omega
  have n1:¬ (n == -1) = true:=by rw [beq_iff_eq]; omega
  rw [e2,if_neg n0,if_neg n1]
 unfold hashInt
 have n1:¬ (n == -1) = true:=by rw [beq_iff_eq]; omega
 rw [e,if_neg n1]
section
variable {X:Cx}
def tLsT (K:PySem.W.Frag) (ta:TE):TE:=fun σ H Q=>ta σ H fun x H1=>∃ (l:Addr) (ns:List Int),x = .ref l∧SqT K H1 l (ns.map V.int)∧ns.length<=900000∧(∀ n∈ns,0<=n∧n < 2 ^ 60)∧Q (.int ((dist ns).length:Nat)) H1
theorem pe_lsT {a:Expr} {ta:TE} {p p2 q pos:Pos} (hg:Gl X "len") (hm:X.mg "len" = none) (hg2:Gl X "set") (hm2:X.mg "set" = none) (ha:PE X a ta) (hc:X.calm = true)
  (na:starEach [a] X.env = (false,eval a X.env) :: starEach [] X.env):PE X (.Call (.Name "len" p) [.Call (.Name "set" p2) [a] [] q] [] pos) (tLsT X.K ta):=by
 refine ⟨fun pins s σ H Q I h=>?_⟩
 refine Call_ (ld_blt I hg hm boot_len ?_)
 refine PyProof.Rows.callWith_builtin1 (PyProof.Rows.args_cons ?_ rfl) rfl rfl
 refine Call_ (ld_blt I hg2 hm2 boot_set ?_)
 refine PyProof.Rows.callWith_type1 (PyProof.Rows.args_cons (thn (ha.run pins s σ H _ I h) fun v s1 ⟨x,H1,I1,r1,q1⟩=>PyProof.Rows.args_nil ?_) na) na rfl
 obtain ⟨l,ns,rfl,hq,hl,hn,q1⟩:=q1
 cases r1
 obtain ⟨its,r,pl,hz⟩:=I1.tuple hq
 have hlen:its.toArray.size = ns.length:=by rw [List.size_toArray,<- r.length,List.length_map]
 refine setT_ok (ns:=ns) (I1.ok.hd hc) pl (by simpa using RZ.intsAre_vals r) hl (fun k hk=>hash_self (hn k hk).1 (hn k hk).2) fun h' tk c hS hk=>?_
 refine PyProof.Rows.args_nil ?_
 obtain ⟨o,es,ep,t,ho,hex,hd,g,nd,hmem,T,_,_,rm,hc2⟩:=hS
 have I2:Inv X pins _ H1 { s1 with heap:=h',toks:=tk }:=I1.kept hk
 have hd2:=dist_le ns
 have he:es.size = (dist ns).length:=by
  rw [<- hs_len]
  exact len_of_mem nd (dist_nodup ns) fun k=>by rw [<- hmem k,decide_eq_true_eq,dist_mem]
 exact call_len_set ho hex hd (tabI_fits T (by omega)) (by rw [he]; omega) ⟨.int (dist ns).length,H1,I2.tok _,⟨_,by rw [he]⟩,q1⟩
variable {W:XW} {R:Cal}
theorem E_lss (G:Good X) (hm:X.mg "len" = none) (hm2:X.mg "set" = none) (ha:EE X W R a ia) (hg:Gl X "len":=by rfl) (hg2:Gl X "set":=by rfl) (na:starEach [a] X.env = (false,eval a X.env) :: starEach [] X.env:=by rfl) :
  EE X W R (.Call (.Name "len" p) [.Call (.Name "set" p2) [a] [] p3] [] pos) (.sem (lssX ia)) :=
 PE.imp (pe_lsT hg hm hg2 hm2 ha G.calm na) fun σV H Q h=>by
  obtain ⟨ι,σ,L,h⟩:=h
  refine ⟨ι,σ,L,(At.bind (R:=RVr X.K) h).imp fun x H1 ⟨d,ι1,L1,r1,ev,h⟩=>?_⟩
  cases d with
  | tup xs =>
   obtain ⟨ns,e,h⟩:=At.ofO h
   obtain ⟨c,h⟩:=At.chk h
   rw [Bool.and_eq_true] at c
   have c1:=of_decide_eq_true c.1
   have c2:∀ n∈ns,0<=n∧n < 2 ^ 60:=fun n hn=>by
    have z:=List.all_eq_true.mp c.2 n hn
    rw [Bool.and_eq_true] at z
    exact ⟨of_decide_eq_true z.1,of_decide_eq_true z.2⟩
   cases r1 with
   | tup hs hr =>
    rw [hr.toInts e] at hs
    exact ⟨_,ns,rfl,hs.1,c1,c2,h.ret (.int _)⟩
  | _=>exact h.no.elim
def rOne (K:PySem.W.Frag):R2:=fun x y H Q=>∃ p q a b xs,x = .ref p∧y = .ref q∧SqT K H p (.str a :: xs)∧SqT K H q [.str b]∧Q (.bl (decide (a = b) && xs.isEmpty)) H
theorem op_eqOne (hu:X.A.units < cLine):OpR X (compareOp .Eq) (rOne X.K):=by
 intro pins s σ H x y v u Q I rx ry h
 obtain ⟨p,q,a,b,xs,rfl,rfl,h1,h2,h⟩:=h
 cases rx
 cases ry
 obtain ⟨its,rv,p1,_⟩:=I.tuple h1
 obtain ⟨its2,rv2,p2,_⟩:=I.tuple h2
 cases rv with
 | cons ra rt =>
  cases rv2 with
  | cons rb rt2 =>
   cases rt2
   obtain ⟨t1,rfl⟩:=ra
   obtain ⟨t2,rfl⟩:=rb
   have hl:=rt.length
   rename_i vs
   refine SeqAt.eq_tupleAt (e:=fun _=>decide (a = b)) p1 p2 hu (fun j _ z=>?_) ⟨.bl (decide (a = b) && xs.isEmpty),H,I,?_,h⟩
   ·have z:j < 1:=z
    obtain rfl:j = 0:=by omega
    exact fun P w E Q hq=>(strKind P w).eqBool (a:=a) (b:=b) (strKind_is _ _ _ _) (strKind_is _ _ _ _) hq
   ·show _ = Value.bool _
    cases vs with
    | nil =>
     have:xs = []:=List.eq_nil_of_length_eq_zero hl
     subst this
     simp
    | cons z zs =>
     cases xs with
     | nil=>cases hl
     | cons w ws=>simp
theorem hdS_rel {K:PySem.W.Frag} {H:Hp} {ι:Nat->Addr} {n:Nat} {x:V} {d:LV} {a:Str × Bool} (r:RV K H ι n x d) (h:hdS d = some a):∃ p xs,x = .ref p∧SqT K H p (.str a.1 :: xs)∧xs.isEmpty = a.2:=by
 unfold hdS at h
 split at h
 ·cases h
  cases r with
  | tup hs hr =>
   cases hr with
   | cons k1 k2 =>
    cases k1
    exact ⟨_,_,rfl,hs.1,by cases k2 <;> rfl⟩
 ·cases h
theorem oneS_rel {K:PySem.W.Frag} {H:Hp} {ι:Nat->Addr} {n:Nat} {x:V} {d:LV} {b:Str} (r:RV K H ι n x d) (h:oneS d = some b):∃ p,x = .ref p∧SqT K H p [.str b]:=by
 unfold oneS at h
 split at h
 ·cases h
  cases r with
  | tup hs hr =>
   cases hr with
   | cons k1 k2 =>
    cases k1
    cases k2
    exact ⟨_,rfl,hs.1⟩
 ·cases h
theorem E_eqt (G:GoodH X) (ha:EE X W R a ia) (hb:EE X W R b ib) (hm:behindInMarks .Eq b = false:=by rfl):EE X W R (.Compare a [.Eq] [b] pos) (.sem (eqtX ia ib)) :=
 PE.imp (pe_cmpR (op_eqOne (by have:=G.hu; omega)) ha hb hm) fun σV H Q h=>two (f:=eqtV) (fun {σ ι L H Q d e x y} h r1 r2=>by
  obtain ⟨a,e1,h⟩:=At.ofO h
  obtain ⟨b,e2,h⟩:=At.ofO h
  obtain ⟨p,xs,rfl,h1,e3⟩:=hdS_rel r1 e1
  obtain ⟨q,rfl,h2⟩:=oneS_rel r2 e2
  refine ⟨p,q,a.1,b,xs,rfl,rfl,h1,h2,?_⟩
  rw [e3]
  exact h.ret (.bl _)) h
end
end Mv
namespace Mv
open PySem
def wp {α:Type} (m:M α) (L:LH) (Q:α->LH->Prop):Prop:=∃ a L',m L = some (.ok a L')∧Q a L'
section
variable {α β:Type} {L:LH}
theorem wp.imp {m:M α} {Q Q':α->LH->Prop} (h:wp m L Q) (q:∀ a L',Q a L'->Q' a L'):wp m L Q':=let ⟨a,L',e,z⟩:=h; ⟨a,L',e,q a L' z⟩
theorem wp_ret {a:α} {Q:α->LH->Prop}:wp (M.ret a) L Q↔Q a L:=⟨fun ⟨_,_,e,q⟩=>by cases e; exact q,fun q=>⟨a,L,rfl,q⟩⟩
theorem wp_no {Q:α->LH->Prop}:wp (M.no:M α) L Q↔False:=⟨fun ⟨_,_,e,_⟩=>(by cases e),False.elim⟩
theorem wp_bind {m:M α} {f:α->M β} {Q:β->LH->Prop}:wp (M.bind m f) L Q↔wp m L fun a L1=>wp (f a) L1 Q:=by
 constructor
 ·rintro ⟨b,L',e,q⟩
  unfold M.bind at e
  cases h:m L with
  | none=>rw [h] at e; cases e
  | some o =>
   rw [h] at e
   cases o with
   | ok a L1=>exact ⟨a,L1,h,b,L',e,q⟩
   | ex c fs L1=>cases e
 ·rintro ⟨a,L1,h,b,L',e,q⟩
  refine ⟨b,L',?_,q⟩
  unfold M.bind
  rw [h]
  exact e
theorem wp_chk {b:Bool} {m:M α} {Q:α->LH->Prop}:wp (M.chk b m) L Q↔b = true∧wp m L Q:=by
 cases b with
 | true=>exact ⟨fun h=>⟨rfl,h⟩,fun h=>h.2⟩
 | false=>exact ⟨fun h=>(wp_no.mp h).elim,fun h=>by cases h.1⟩
theorem wp_ofO {o:Option α} {f:α->M β} {Q:β->LH->Prop}:wp (M.ofO o f) L Q↔∃ a,o = some a∧wp (f a) L Q:=by
 cases o with
 | some a=>exact ⟨fun h=>⟨a,rfl,h⟩,fun ⟨b,e,h⟩=>by cases e; exact h⟩
 | none=>exact ⟨fun h=>(wp_no.mp h).elim,fun ⟨b,e,h⟩=>(by cases e)⟩
theorem wp_look {g:LH->Option α} {f:α->M β} {Q:β->LH->Prop}:wp (M.look g f) L Q↔∃ a,g L = some a∧wp (f a) L Q:=by
 unfold wp M.look
 cases g L with
 | some a=>exact ⟨fun h=>⟨a,rfl,h⟩,fun ⟨b,e,h⟩=>by cases e; exact h⟩
 | none=>exact ⟨fun ⟨_,_,e,_⟩=>(by cases e),fun ⟨b,e,h⟩=>(by cases e)⟩
theorem wp_quiet {m:M α} {Q:α->LH->Prop}:wp (M.quiet m) L Q↔wp m L Q:=by
 constructor
 ·rintro ⟨a,L',e,q⟩
  unfold M.quiet at e
  cases hm:m L with
  | none=>rw [hm] at e; cases e
  | some o =>
   rw [hm] at e
   cases o with
   | ok b L1=>cases e; exact ⟨_,_,hm,q⟩
   | ex c fs L1=>cases e
 ·rintro ⟨a,L',e,q⟩
  refine ⟨a,L',?_,q⟩
  unfold M.quiet
  rw [e]
theorem wp_new {o:LO} {Q:LV->LH->Prop}:wp (new o) L Q↔Q (.ref L.length) (L ++ [o]):=⟨fun ⟨_,_,e,q⟩=>by cases e; exact q,fun q=>⟨_,_,rfl,q⟩⟩
theorem wp_setO {n:Nat} {o:LO} {Q:Unit->LH->Prop}:wp (setO n o) L Q↔Q () (L.set n o):=⟨fun ⟨_,_,e,q⟩=>by cases e; exact q,fun q=>⟨_,_,rfl,q⟩⟩
theorem wp_at {f:LH->M α} {Q:α->LH->Prop}:wp (fun L=>f L L) L Q↔wp (f L) L Q:=Iff.rfl
end
def brM {α:Type} (x:LV) (a b:M α):M α:=match x with
 | .bl true=>a
 | .bl false=>b
 | _=>M.no
theorem wp_br {α:Type} {b:Bool} {m n:M α} {L:LH} {Q:α->LH->Prop}:wp (brM (.bl b) m n) L Q↔(b = true->wp m L Q)∧(b = false->wp n L Q):=by
 cases b with
 | true=>exact ⟨fun h=>⟨fun _=>h,fun z=>(by cases z)⟩,fun h=>h.1 rfl⟩
 | false=>exact ⟨fun h=>⟨fun z=>(by cases z),fun _=>h⟩,fun h=>h.2 rfl⟩
def seqK (R:Cal) (r:List IS):Fl × LSt->M (Fl × LSt)
 | (.nx,σ)=>evB R r σ
 | (f,σ)=>M.ret (f,σ)
def retK:Fl × LSt->M LV
 | (.rt v,_)=>M.ret v
 | (.nx,_)=>M.ret .non
 | _=>M.no
section
variable {R:Cal} {σ:LSt}
theorem v_var {i:Nat}:evE R (.var i) σ = getV σ i:=rfl
theorem v_lit {v:LV}:evE R (.lit v) σ = M.ret v:=rfl
theorem v_glo {v:LV}:evE R (.glo v) σ = M.ret v:=rfl
theorem v_bin {op:BOp} {a b:IE}:evE R (.bin op a b) σ = M.bind (evE R a σ) fun x=>M.bind (evE R b σ) fun y=>binV op x y:=rfl
def negV:LV->M LV
 | .int i=>M.ret (.int (-i))
 | _=>M.no
theorem v_neg {a:IE}:evE R (.neg a) σ = M.bind (evE R a σ) negV:=rfl
theorem v_cmp {op:COp} {a b:IE}:evE R (.cmp op a b) σ = M.bind (evE R a σ) fun x=>M.bind (evE R b σ) fun y=>cmpV op x y:=rfl
theorem v_cmp2 {op op':COp} {a b c:IE}:evE R (.cmp2 op op' a b c) σ = M.bind (evE R a σ) fun x=>M.bind (evE R b σ) fun y=>M.bind (cmpV op x y) fun r=>brM r (M.bind (evE R c σ) fun z=>cmpV op' y z) (M.ret (.bl false)):=rfl
theorem v_and {a b:IE}:evE R (.and a b) σ = M.bind (evE R a σ) fun x=>brM x (evE R b σ) (M.ret (.bl false)):=rfl
theorem v_or {a b:IE}:evE R (.or a b) σ = M.bind (evE R a σ) fun x=>brM x (M.ret (.bl true)) (evE R b σ):=rfl
def notV:LV->M LV
 | .bl b=>M.ret (.bl (!b))
 | _=>M.no
theorem v_not {a:IE}:evE R (.not a) σ = M.bind (evE R a σ) notV:=rfl
theorem v_ife {c a b:IE}:evE R (.ife c a b) σ = M.bind (evE R c σ) fun x=>brM x (evE R a σ) (evE R b σ):=rfl
theorem v_tup {es:IEs}:evE R (.tup es) σ = M.bind (evEs R es σ) fun xs=>M.chk (small xs.length) (M.ret (.tup xs)):=rfl
theorem v_lst {es:IEs}:evE R (.lst es) σ = M.bind (evEs R es σ) fun xs=>M.chk (small xs.length) (new (.lst xs)):=rfl
theorem v_dct0:evE R .dct0 σ = new (.dic []):=rfl
def dctE (ks:List L2.Key) (xs:List LV):LV->M LV
 | .ref n=>fun L=>dctR n (dmerge [] (ks.zip xs)) L[n]? L
 | _=>M.no
theorem v_dct {ks:List L2.Key} {es:IEs}:evE R (.dct ks es) σ = M.bind (new (.dic [])) fun d=>M.bind (evEs R es σ) fun xs=>dctE ks xs d:=rfl
theorem v_ix {a b:IE}:evE R (.ix a b) σ = M.bind (evE R a σ) fun x=>M.bind (evE R b σ) fun y=>ixV x y:=rfl
theorem v_slc {a:IE} {lo hi:IO}:evE R (.slc a lo hi) σ = M.bind (evE R a σ) fun x=>M.bind (evO R lo σ) fun l=>M.bind (evO R hi σ) fun h=>slV x l h:=rfl
theorem v_rev {a:IE}:evE R (.rev a) σ = M.bind (evE R a σ) revV:=rfl
theorem v_bi {b:Bi} {es:IEs}:evE R (.bi b es) σ = M.bind (evEs R es σ) fun xs=>biV b xs:=rfl
theorem v_isi {a:IE} {t:Ty}:evE R (.isi a t) σ = M.bind (evE R a σ) fun x=>isiV x t:=rfl
theorem v_lset {a:IE}:evE R (.lset a) σ = M.bind (evE R a σ) lsetV:=rfl
theorem v_rgl1 {t:Bool} {b:IE}:evE R (.rgl1 t b) σ = M.bind (evE R b σ) (rgl1K t):=rfl
theorem v_rgl2 {t:Bool} {a b:IE}:evE R (.rgl2 t a b) σ = M.bind (evE R a σ) fun x=>M.bind (evE R b σ) fun y=>rgl2K t x y:=rfl
theorem v_inr {x a b:IE}:evE R (.inr x a b) σ = M.bind (evE R x σ) fun u=>M.bind (evE R a σ) fun v=>M.bind (evE R b σ) fun w=>inrV u v w:=rfl
theorem v_mth {m:Mth} {o:IE} {es:IEs}:evE R (.mth m o es) σ = M.bind (evE R o σ) fun x=>M.look (fun L=>lstAt L x) fun _=>M.bind (evEs R es σ) fun xs=>mthV m x xs:=rfl
theorem v_call {f:Nat} {es ks:IEs} {perm:List Nat}:evE R (.call f es ks perm) σ = M.bind (evEs R es σ) fun xs=>M.bind (evEs R ks σ) fun ys=>M.ofO (permG (xs ++ ys) perm) fun zs=>R f zs:=rfl
def turnC (R:Cal) (own:List Nat) (t:IT) (c:IO) (e:IE) (σ:LSt) (x:LV):M (Option LV):=M.bind (evT R t x (wipeL σ own)) fun σ2=>M.bind (evC R c σ2) fun k =>
    if k then M.bind (evE R e σ2) fun y=>M.ret (some y) else M.ret none
def compK (s:Src) (turn:LV->M (Option LV)):LV->M LV
 | .ref D=>compGo s turn D s.len 0
 | _=>M.no
theorem v_comp {own:List Nat} {t:IT} {it:II} {c:IO} {e:IE}:evE R (.comp own t it c e) σ = M.quiet (M.bind (evI R it σ) fun src=>M.bind (new (.lst [])) (compK src (turnC R own t c e σ))):=rfl
theorem vs_nil:evEs R .nil σ = M.ret []:=rfl
theorem vs_cons {e:IE} {es:IEs}:evEs R (.cons e es) σ = M.bind (evE R e σ) fun x=>M.bind (evEs R es σ) fun xs=>M.ret (x :: xs):=rfl
theorem vo_none:evO R .none σ = M.ret none:=rfl
def partK:LV->M (Option Int)
 | .int i=>M.ret (some i)
 | _=>M.no
theorem vo_some {e:IE}:evO R (.some e) σ = M.bind (evE R e σ) partK:=rfl
theorem vc_none:evC R .none σ = M.ret true:=rfl
def condK:LV->M Bool
 | .bl b=>M.ret b
 | _=>M.no
theorem vc_some {e:IE}:evC R (.some e) σ = M.bind (evE R e σ) condK:=rfl
theorem vi_val {e:IE}:evI R (.val e) σ = M.bind (evE R e σ) iterV:=rfl
def rng1K:LV->M Src
 | .int j=>M.chk (ints62 j) (M.ret (rngV 0 j.toNat))
 | _=>M.no
theorem vi_rng1 {a:IE}:evI R (.rng1 a) σ = M.bind (evE R a σ) rng1K:=rfl
def rng2K:LV->LV->M Src
 | .int i,.int j=>M.chk (ints62 i && ints62 j) (M.ret (rngV i (j - i).toNat))
 | _,_=>M.no
theorem vi_rng2 {a b:IE}:evI R (.rng2 a b) σ = M.bind (evE R a σ) fun x=>M.bind (evE R b σ) fun y=>rng2K x y:=rfl
def rng3K:LV->LV->LV->M Src
 | .int i,.int j,.int k=>M.chk (ints62 i && ints62 j && decide (0 < k∧k < 1073741824)) (M.ret (rngC i k ((j - i + (k - 1)) / k).toNat))
 | _,_,_=>M.no
theorem vi_rng3 {a b c:IE}:evI R (.rng3 a b c) σ = M.bind (evE R a σ) fun x=>M.bind (evE R b σ) fun y=>M.bind (evE R c σ) fun z=>rng3K x y z:=rfl
theorem vi_zip {a b:IE}:evI R (.zip a b) σ = M.bind (evE R a σ) fun x=>M.bind (evE R b σ) fun y=>zipK x y:=rfl
theorem vi_enm {a:IE}:evI R (.enm a) σ = M.bind (evE R a σ) enmK:=rfl
theorem vt_name {i:Nat} {v:LV}:evT R (.name i) v σ = M.chk (decide (i < σ.length)) (M.ret (σ.set i (some v))):=rfl
theorem vt_tup {ts:ITs} {v:LV}:evT R (.tup ts) v σ = M.look (fun L=>items L v) fun xs=>M.chk (decide (xs.length = ts.len)) (evTs R ts xs σ):=rfl
theorem vt_sub {o i:IE} {v:LV}:evT R (.sub o i) v σ = M.bind (evE R o σ) fun x=>M.bind (evE R i σ) fun y=>M.bind (setV x y v) fun _=>M.ret σ:=rfl
theorem vts_nil:evTs R .nil [] σ = M.ret σ:=rfl
theorem vts_cons {t:IT} {ts:ITs} {x:LV} {xs:List LV}:evTs R (.cons t ts) (x :: xs) σ = M.bind (evT R t x σ) fun σ1=>evTs R ts xs σ1:=rfl
theorem x_asg {t:IT} {e:IE}:evS R (.asg t e) σ = M.bind (evE R e σ) fun x=>M.bind (evT R t x σ) fun σ1=>M.ret (.nx,σ1):=rfl
theorem x_par {is:List Nat} {es:IEs}:evS R (.par is es) σ = M.bind (evEs R es σ) fun xs=>M.ofO (setAll σ is xs) fun σ1=>M.ret (.nx,σ1):=rfl
theorem x_aug {i:Nat} {op:BOp} {e:IE}:evS R (.aug i op e) σ = M.bind (getV σ i) fun x=>M.bind (evE R e σ) fun y=>M.bind (augV op x y) fun z=>M.ret (.nx,σ.set i (some z)):=rfl
theorem x_exp {e:IE}:evS R (.exp e) σ = M.bind (evE R e σ) fun _=>M.ret (.nx,σ):=rfl
theorem x_ret {e:IE}:evS R (.ret e) σ = M.bind (evE R e σ) fun x=>M.ret (.rt x,σ):=rfl
theorem x_retN:evS R .retN σ = M.ret (.rt .non,σ):=rfl
theorem x_ifs {c:IE} {a b:List IS}:evS R (.ifs c a b) σ = M.bind (evE R c σ) fun x=>brM x (evB R a σ) (evB R b σ):=rfl
theorem x_for {t:IT} {it:II} {b:List IS}:evS R (.for t it b) σ = M.bind (evI R it σ) fun src=>forGo src (fun x σ1=>M.bind (evT R t x σ1) fun σ2=>evB R b σ2) src.len 0 σ:=rfl
theorem x_whl {c:IE} {b:List IS}:evS R (.whl c b) σ = whlGo (evE R c) (evB R b) fuel σ:=rfl
theorem x_brk:evS R .brk σ = M.ret (.bk,σ):=rfl
theorem x_cnt:evS R .cnt σ = M.ret (.ct,σ):=rfl
theorem x_pss:evS R .pss σ = M.ret (.nx,σ):=rfl
theorem b_nil':evB R [] σ = M.ret (.nx,σ):=rfl
theorem b_cons' {s:IS} {r:List IS}:evB R (s :: r) σ = M.bind (evS R s σ) (seqK R r):=by
 rfl
theorem sq_nx {r:List IS}:seqK R r (.nx,σ) = evB R r σ:=rfl
theorem sq_rt {r:List IS} {v:LV}:seqK R r (.rt v,σ) = M.ret (.rt v,σ):=rfl
theorem sq_bk {r:List IS}:seqK R r (.bk,σ) = M.ret (.bk,σ):=rfl
theorem sq_ct {r:List IS}:seqK R r (.ct,σ) = M.ret (.ct,σ):=rfl
theorem call_eq {g:Fn} {vs:List LV}:callFn R g vs = M.chk (decide (vs.length = g.p)) (M.bind (evB R g.body (startL g.n vs)) retK):=by
 rfl
end
def turnQ (I:LSt->LH->Prop) (Q:Fl × LSt->LH->Prop):Fl × LSt->LH->Prop
 | (.nx,σ),L=>I σ L
 | (.ct,σ),L=>I σ L
 | (.bk,σ),L=>Q (.nx,σ) L
 | (.rt v,σ),L=>Q (.rt v,σ) L
theorem wp_forGo {s:Src} {turn:LV->LSt->M (Fl × LSt)} {Q:Fl × LSt->LH->Prop} (I:Nat->LSt->LH->Prop) (n:Nat)
  (step:∀ i σ L,i < n->I i σ L->∃ x,s.at i L = some x∧wp (turn x σ) L (turnQ (I (i + 1)) Q)) (fin:∀ σ L,I n σ L->s.fin L = true∧Q (.nx,σ) L) :
  ∀ (m i:Nat) (σ:LSt) (L:LH),m + i = n->I i σ L->wp (forGo s turn m i σ) L Q
 | 0,i,σ,L,e,h=>by
  have e:i = n:=by omega
  subst e
  obtain ⟨h1,h2⟩:=fin σ L h
  refine ⟨(.nx,σ),L,?_,h2⟩
  show (if s.fin L then some (Out.ok (Fl.nx,σ) L) else none) = _
  rw [h1]
  rfl
 | m + 1,i,σ,L,e,h=>by
  obtain ⟨x,hx,h1⟩:=step i σ L (by omega) h
  have h2:wp (M.bind (turn x σ) (fun (r:Fl × LSt)=>match r with
   | (.nx,σ1)=>forGo s turn m (i + 1) σ1
   | (.ct,σ1)=>forGo s turn m (i + 1) σ1
   | (.bk,σ1)=>M.ret (.nx,σ1)
   | (.rt v,σ1)=>M.ret (.rt v,σ1))) L Q:=by
   refine wp_bind.mpr (h1.imp fun r L1 q=>?_)
   obtain ⟨f,σ1⟩:=r
   cases f with
   | nx=>exact wp_forGo I n step fin m (i + 1) σ1 L1 (by omega) q
   | ct=>exact wp_forGo I n step fin m (i + 1) σ1 L1 (by omega) q
   | bk=>exact wp_ret.mpr q
   | rt v=>exact wp_ret.mpr q
  obtain ⟨a,L',e2,q⟩:=h2
  refine ⟨a,L',?_,q⟩
  show (match s.at i L with
   | none=>none
   | some x=>M.bind (turn x σ) (fun (r:Fl × LSt)=>match r with
    | (.nx,σ1)=>forGo s turn m (i + 1) σ1
    | (.ct,σ1)=>forGo s turn m (i + 1) σ1
    | (.bk,σ1)=>M.ret (.nx,σ1)
    | (.rt v,σ1)=>M.ret (.rt v,σ1)) L) = _
  rw [hx]
  exact e2
theorem wp_for {s:Src} {turn:LV->LSt->M (Fl × LSt)} {Q:Fl × LSt->LH->Prop} {σ:LSt} {L:LH} (I:Nat->LSt->LH->Prop) (h0:I 0 σ L)
  (step:∀ i σ L,i < s.len->I i σ L->∃ x,s.at i L = some x∧wp (turn x σ) L (turnQ (I (i + 1)) Q)) (fin:∀ σ L,I s.len σ L->s.fin L = true∧Q (.nx,σ) L):wp (forGo s turn s.len 0 σ) L Q :=
 wp_forGo I s.len step fin s.len 0 σ L rfl h0
theorem wp_compGo {s:Src} {turn:LV->M (Option LV)} {Q:LV->LH->Prop} {D:Nat} (I:Nat->List LV->LH->Prop) (n:Nat)
  (step:∀ i ys L,i < n->L[D]? = some (.lst ys)->I i ys L->∃ x,s.at i L = some x∧wp (turn x) L fun r L'=>L'[D]? = some (.lst ys)∧match r with
   | none=>I (i + 1) ys L'
   | some y=>ys.length < sizeLine∧I (i + 1) (ys ++ [y]) (L'.set D (.lst (ys ++ [y]))))
  (fin:∀ ys L,L[D]? = some (.lst ys)->I n ys L->s.fin L = true∧Q (.ref D) L) :
  ∀ (m i:Nat) (ys:List LV) (L:LH),m + i = n->L[D]? = some (.lst ys)->I i ys L->wp (compGo s turn D m i) L Q
 | 0,i,ys,L,e,hD,h=>by
  have e:i = n:=by omega
  subst e
  obtain ⟨h1,h2⟩:=fin ys L hD h
  refine ⟨.ref D,L,?_,h2⟩
  show (if s.fin L then some (Out.ok (LV.ref D) L) else none) = _
  rw [h1]
  rfl
 | m + 1,i,ys,L,e,hD,h=>by
  obtain ⟨x,hx,h1⟩:=step i ys L (by omega) hD h
  have h2:wp (M.bind (turn x) (fun r=>match r with
   | none=>compGo s turn D m (i + 1)
   | some y=>M.bind (appM D y) fun _=>compGo s turn D m (i + 1))) L Q:=by
   refine wp_bind.mpr (h1.imp fun r L1 q=>?_)
   obtain ⟨qD,q⟩:=q
   cases r with
   | none=>exact wp_compGo I n step fin m (i + 1) ys L1 (by omega) qD q
   | some y =>
    refine wp_bind.mpr ?_
    have hl:D < L1.length:=(List.getElem?_eq_some_iff.mp qD).1
    refine ⟨.non,L1.set D (.lst (ys ++ [y])),?_,wp_compGo I n step fin m (i + 1) (ys ++ [y]) _ (by omega) (List.getElem?_set_self hl) q.2⟩
    show mthR D .append L1[D]? [y] L1 = _
    rw [qD]
    show M.chk (decide (ys.length < sizeLine)) _ L1 = _
    rw [decide_eq_true q.1]
    rfl
  obtain ⟨a,L',e2,q⟩:=h2
  refine ⟨a,L',?_,q⟩
  show (match s.at i L with
   | none=>none
   | some x=>M.bind (turn x) (fun r=>match r with
    | none=>compGo s turn D m (i + 1)
    | some y=>M.bind (appM D y) fun _=>compGo s turn D m (i + 1)) L) = _
  rw [hx]
  exact e2
theorem wp_comp {s:Src} {turn:LV->M (Option LV)} {Q:LV->LH->Prop} {L:LH} (I:Nat->List LV->LH->Prop) (h0:I 0 [] (L ++ [.lst []]))
  (step:∀ i ys L',i < s.len->L'[L.length]? = some (.lst ys)->I i ys L'->∃ x,s.at i L' = some x∧wp (turn x) L' fun r L2=>L2[L.length]? = some (.lst ys)∧match r with
   | none=>I (i + 1) ys L2
   | some y=>ys.length < sizeLine∧I (i + 1) (ys ++ [y]) (L2.set L.length (.lst (ys ++ [y]))))
  (fin:∀ ys L',L'[L.length]? = some (.lst ys)->I s.len ys L'->s.fin L' = true∧Q (.ref L.length) L'):wp (M.bind (new (.lst [])) (compK s turn)) L Q:=by
 refine wp_bind.mpr (wp_new.mpr ?_)
 exact wp_compGo I s.len step fin s.len 0 [] _ rfl (by simp) h0
end Mv
namespace Mv
open PySem
section
variable {R:Cal} {σ:LSt} {L:LH}
theorem gv_0 {v:LV} {l:LSt}:getV (some v :: l) 0 = M.ret v:=rfl
theorem gv_S {a:Option LV} {l:LSt} {n:Nat}:getV (a :: l) (n + 1) = getV l n:=rfl
theorem wt_0 {a:Option LV} {l:LSt} {v:LV} {Q:LSt->LH->Prop}:wp (evT R (.name 0) v (a :: l)) L Q↔Q (some v :: l) L:=by
 rw [vt_name,wp_chk,wp_ret]
 exact ⟨fun h=>h.2,fun h=>⟨by simp,h⟩⟩
theorem wt_S {a:Option LV} {l:LSt} {v:LV} {n:Nat} {Q:LSt->LH->Prop}:wp (evT R (.name (n + 1)) v (a :: l)) L Q↔wp (evT R (.name n) v l) L fun l' L'=>Q (a :: l') L':=by
 rw [vt_name,vt_name,wp_chk,wp_chk,wp_ret,wp_ret]
 simp
theorem wp_if {α:Type} {c:Bool} {m n:M α} {Q:α->LH->Prop}:wp (if c = true then m else n) L Q↔(c = true->wp m L Q)∧(c = false->wp n L Q):=by cases c <;> simp
theorem o_add {i j:Int}:binV .add (.int i) (.int j) = M.ret (.int (i + j)):=rfl
theorem o_sub {i j:Int}:binV .sub (.int i) (.int j) = M.ret (.int (i - j)):=rfl
theorem o_mul {i j:Int}:binV .mul (.int i) (.int j) = M.chk (mulOk i j) (M.ret (.int (i * j))):=rfl
theorem o_fdiv {i j:Int}:binV .fdiv (.int i) (.int j) = M.chk (divOk j) (M.ret (.int (i / j))):=rfl
theorem o_mod {i j:Int}:binV .mod (.int i) (.int j) = M.chk (decide (0 < j)) (M.ret (.int (i % j))):=rfl
theorem o_pow {i j:Int}:binV .pow (.int i) (.int j) = M.chk (decide (0<=j∧j<=1000000∧i.natAbs < 2 ^ 64)) (M.ret (.int (i ^ j.toNat))):=rfl
theorem o_addT {a b:List LV}:binV .add (.tup a) (.tup b) = M.chk (small (a.length + b.length)) (M.ret (.tup (a ++ b))):=rfl
theorem o_mulT {xs:List LV} {k:Int}:binV .mul (.tup xs) (.int k) = M.chk (decide (-(2 ^ 63)<=k∧k < 2 ^ 63) && small (xs.length * k.toNat)) (M.ret (.tup (reps xs k))):=rfl
theorem c_lt {i j:Int}:cmpV .lt (.int i) (.int j) = M.ret (.bl (decide (i < j))):=rfl
theorem c_le {i j:Int}:cmpV .le (.int i) (.int j) = M.ret (.bl (decide (i<=j))):=rfl
theorem c_gt {i j:Int}:cmpV .gt (.int i) (.int j) = M.ret (.bl (decide (j < i))):=rfl
theorem c_ge {i j:Int}:cmpV .ge (.int i) (.int j) = M.ret (.bl (decide (j<=i))):=rfl
theorem eqV_int {i j:Int}:eqV L (.int i) (.int j) = some (i == j):=rfl
theorem wp_eq_int {i j:Int} {Q:LV->LH->Prop}:wp (cmpV .eq (.int i) (.int j)) L Q↔Q (.bl (decide (i = j))) L:=by
 show wp (M.look (fun L=>eqV L (.int i) (.int j)) fun b=>M.ret (.bl b)) L Q↔_
 rw [wp_look]
 constructor
 ·rintro ⟨b,e,h⟩
  rw [eqV_int] at e
  cases e
  rw [wp_ret] at h
  exact h
 ·intro h
  exact ⟨i == j,eqV_int,wp_ret.mpr h⟩
theorem wp_ne_int {i j:Int} {Q:LV->LH->Prop}:wp (cmpV .ne (.int i) (.int j)) L Q↔Q (.bl (!decide (i = j))) L:=by
 show wp (M.look (fun L=>eqV L (.int i) (.int j)) fun b=>M.ret (.bl (!b))) L Q↔_
 rw [wp_look]
 constructor
 ·rintro ⟨b,e,h⟩
  rw [eqV_int] at e
  cases e
  rw [wp_ret] at h
  exact h
 ·intro h
  exact ⟨i == j,eqV_int,wp_ret.mpr h⟩
theorem n_bl {b:Bool}:notV (.bl b) = M.ret (.bl (!b)):=rfl
theorem n_int {i:Int}:negV (.int i) = M.ret (.int (-i)):=rfl
theorem bi_int {i:Int}:biV .int [.int i] = M.ret (.int i):=rfl
theorem bi_len {x:LV}:biV .len [x] = M.look (fun L=>lenV L x) fun n=>M.ret (.int n):=rfl
theorem bi_tuple {x:LV}:biV .tuple [x] = M.look (fun L=>items L x) fun ys=>M.ret (.tup ys):=rfl
theorem bi_list {x:LV}:biV .list [x] = M.look (fun L=>items L x) fun ys=>new (.lst ys):=rfl
theorem it_tup {xs:List LV}:iterV (.tup xs) = M.ret (.fixed xs):=rfl
theorem r_tup {xs:List LV}:revV (.tup xs) = M.ret (.tup xs.reverse):=rfl
theorem r_ref {n:Nat}:revV (.ref n) = M.look (fun L=>itemsL L (.ref n)) fun xs=>new (.lst xs.reverse):=rfl
theorem ix_tup {xs:List LV} {i:Int}:ixV (.tup xs) (.int i) = M.ofO (L2.atI xs i) M.ret:=rfl
theorem wp_ix_ref {n:Nat} {k:LV} {Q:LV->LH->Prop}:wp (ixV (.ref n) k) L Q↔wp (ixR L[n]? k) L Q:=Iff.rfl
theorem ixR_lst {xs:List LV} {i:Int}:ixR (some (.lst xs)) (.int i) = M.ofO (L2.atI xs i) M.ret:=rfl
theorem ixR_dic {kvs:List (L2.Key × LV)} {s:Str}:ixR (some (.dic kvs)) (.str s) = M.ofO (dval kvs (.inr s)) M.ret:=rfl
theorem wp_set_ref {n:Nat} {k v:LV} {Q:Unit->LH->Prop}:wp (setV (.ref n) k v) L Q↔wp (setR n v L[n]? k) L Q:=Iff.rfl
theorem setR_dic {n:Nat} {v:LV} {kvs:List (L2.Key × LV)} {s:Str}:setR n v (some (.dic kvs)) (.str s) = M.chk (decide (kvs.length < sizeLine)) (setO n (.dic (dput kvs (.inr s) v))):=rfl
theorem sl_tup {xs:List LV} {lo hi:Option Int}:slV (.tup xs) lo hi = M.ret (.tup (cut xs lo hi)):=rfl
theorem sl_ref {n:Nat} {lo hi:Option Int}:slV (.ref n) lo hi = M.look (fun L=>itemsL L (.ref n)) fun xs=>new (.lst (cut xs lo hi)):=rfl
theorem pk_int {i:Int}:partK (.int i) = M.ret (some i):=rfl
theorem rg1_int {t:Bool} {j:Int}:rgl1K t (.int j) = rglV t 0 j:=rfl
theorem rg2_int {t:Bool} {i j:Int}:rgl2K t (.int i) (.int j) = rglV t i j:=rfl
theorem inr_int {i a b:Int}:inrV (.int i) (.int a) (.int b) = M.ret (.bl (decide (a<=i∧i < b))):=rfl
theorem r2_int {i j:Int}:rng2K (.int i) (.int j) = M.chk (ints62 i && ints62 j) (M.ret (rngV i (j - i).toNat)):=rfl
theorem r3_int {i j k:Int}:rng3K (.int i) (.int j) (.int k) = M.chk (ints62 i && ints62 j && decide (0 < k∧k < 1073741824)) (M.ret (rngC i k ((j - i + (k - 1)) / k).toNat)):=rfl
theorem r1_int {j:Int}:rng1K (.int j) = M.chk (ints62 j) (M.ret (rngV 0 j.toNat)):=rfl
theorem ck_bl {b:Bool}:condK (.bl b) = M.ret b:=rfl
theorem rk_rt {v:LV}:retK (.rt v,σ) = M.ret v:=rfl
theorem rk_nx:retK (.nx,σ) = M.ret .non:=rfl
theorem wp_mth {m:Mth} {n:Nat} {xs:List LV} {Q:LV->LH->Prop}:wp (mthV m (.ref n) xs) L Q↔wp (mthR n m L[n]? xs) L Q:=Iff.rfl
theorem m_append {n:Nat} {ys:List LV} {x:LV}:mthR n .append (some (.lst ys)) [x] = M.chk (decide (ys.length < sizeLine)) (M.bind (setO n (.lst (ys ++ [x]))) fun _=>M.ret .non):=rfl
theorem m_pop {n:Nat} {ys:List LV}:mthR n .pop (some (.lst ys)) [] = M.ofO ys[ys.length - 1]? fun y=>M.bind (setO n (.lst ys.dropLast)) fun _=>M.ret y:=rfl
theorem m_count {n:Nat} {ys:List LV} {x:LV}:mthR n .count (some (.lst ys)) [x] = M.chk (flat x && ys.all flat) (M.ret (.int ((ys.countP fun y=>flatEq y x:Nat):Int))):=rfl
end
end Mv
namespace Mv
open PySem
section
variable {R:Cal} {σ:LSt} {L:LH}
theorem v_fld {cs:List Str} {f:Str} {a:IE}:evE R (.fld cs f a) σ = M.bind (evE R a σ) (fldV cs f):=rfl
theorem v_prp {cs:List (Str × Nat)} {f:Str} {a:IE}:evE R (.prp cs f a) σ = M.bind (evE R a σ) fun x=>M.look (fun L=>clsAt cs f L x) fun g=>M.quiet (R g [x]):=rfl
theorem v_omt {cs:List (Str × Nat)} {m:Str} {o:IE} {es ks:IEs} {ds:List LV} {perm:List Nat}:evE R (.omt cs m o es ks ds perm) σ = M.bind (evE R o σ) fun x=>M.look (fun L=>clsAt cs m L x) fun g =>
   M.bind (evEs R es σ) fun xs=>M.bind (evEs R ks σ) fun ys=>M.ofO (permG (xs ++ ys ++ ds) perm) fun zs=>R g (x :: zs):=rfl
theorem v_mk {c:Str} {g:Nat} {es ks:IEs} {ds:List LV} {perm:List Nat}:evE R (.mk c g es ks ds perm) σ = M.bind (evEs R es σ) fun xs=>M.bind (evEs R ks σ) fun ys=>M.ofO (permG (xs ++ ys ++ ds) perm) fun zs=>mkV R c g zs:=rfl
theorem v_calD {f:Nat} {es ks:IEs} {ds:List LV} {perm:List Nat}:evE R (.calD f es ks ds perm) σ = M.bind (evEs R es σ) fun xs=>M.bind (evEs R ks σ) fun ys=>M.ofO (permG (xs ++ ys ++ ds) perm) fun zs=>R f zs:=rfl
theorem v_obi {op:BOp} {cs:List (Str × Nat)} {a b:IE}:evE R (.obi op cs a b) σ = M.bind (evE R a σ) fun x=>M.bind (evE R b σ) fun y=>M.look (fun L=>opAt cs (opName op) L x y) fun g=>R g [x,y]:=rfl
theorem v_oeq {ne:Bool} {cs:List (Str × Nat)} {a b:IE}:evE R (.oeq ne cs a b) σ = M.bind (evE R a σ) fun x=>M.bind (evE R b σ) fun y=>M.look (fun L=>eqAt cs L x y) fun g=>M.bind (R g [x,y]) (eqK ne):=rfl
theorem v_ost {cs:List (Str × Nat)} {a:IE}:evE R (.ost cs a) σ = M.bind (evE R a σ) (ostK R cs):=rfl
theorem v_oln {cs:List (Str × Nat)} {a:IE}:evE R (.oln cs a) σ = M.bind (evE R a σ) (olnK R cs):=rfl
theorem v_iso {cs:List (Str × Bool)} {c:Str} {a:IE}:evE R (.iso cs c a) σ = M.bind (evE R a σ) fun x=>M.look (fun L=>isoAt cs L x) fun b=>M.ret (.bl b):=rfl
theorem v_fst {es:IEs}:evE R (.fst es) σ = M.bind (evFs R es σ Str.empty) fun s=>M.ret (.str s):=rfl
theorem vf_nil {acc:Str}:evFs R .nil σ acc = M.ret acc:=rfl
theorem vf_cons {e:IE} {es:IEs} {acc:Str}:evFs R (.cons e es) σ acc = M.bind (evE R e σ) fun x=>M.bind (fmtV x) fun y=>M.chk (small (acc ++ y).length) (evFs R es σ (acc ++ y)):=rfl
theorem vt_fld {cs:List Str} {f:Str} {o:IE} {v:LV}:evT R (.fld cs f o) v σ = M.bind (evE R o σ) fun x=>M.bind (fsetV cs f x v) fun _=>M.ret σ:=rfl
theorem wp_fld {cs:List Str} {f:Str} {n:Nat} {Q:LV->LH->Prop}:wp (fldV cs f (.ref n)) L Q↔wp (fldR cs f L[n]?) L Q:=Iff.rfl
theorem fldR_ins {cs:List Str} {f c:Str} {fs:List (Str × LV)}:fldR cs f (some (.ins c fs)) = M.chk (cs.contains c) (M.ofO (fs.lookup f) M.ret):=rfl
theorem wp_fset {cs:List Str} {f:Str} {n:Nat} {v:LV} {Q:Unit->LH->Prop}:wp (fsetV cs f (.ref n) v) L Q↔wp (fsetR cs f n v L[n]?) L Q:=Iff.rfl
theorem fsetR_ins {cs:List Str} {f c:Str} {n:Nat} {v:LV} {fs:List (Str × LV)}:fsetR cs f n v (some (.ins c fs)) = M.chk (cs.contains c && decide (fs.length < 1000)) (setO n (.ins c (fput f v fs))):=rfl
theorem fmt_str {s:Str}:fmtV (.str s) = M.chk (small s.length) (M.ret s):=rfl
theorem fmt_int {i:Int}:fmtV (.int i) = M.chk (decide (i.natAbs < digLim)) (M.ret (toString i:Str)):=rfl
theorem eq_bl {ne k:Bool}:eqK ne (.bl k) = M.ret (.bl (if ne then !k else k)):=rfl
theorem bi_strB {i:Int}:biV .strB [.int i] = M.chk (decide (i.natAbs < digLim)) (M.ret (.str (toString i))):=rfl
theorem bi_reprB {x:LV}:biV .reprB [x] = M.look (fun L=>toR L x) fun d=>M.chk (showB d && small d.shown.length && decide (d.depth<=64)) (M.ret (.str d.shown)):=rfl
end
end Mv
namespace Mv
open PySem
def outX {α:Type} (Q:α->LH->Prop) (X:Str->List (Str × LV)->LH->Prop):Option (Out α)->Prop
 | some (.ok a L')=>Q a L'
 | some (.ex c fs L')=>X c fs L'
 | none=>False
def wpx {α:Type} (m:M α) (L:LH) (Q:α->LH->Prop) (X:Str->List (Str × LV)->LH->Prop):Prop:=outX Q X (m L)
section
variable {α β:Type} {L:LH} {X:Str->List (Str × LV)->LH->Prop}
theorem wp_out {m:M α} {Q:α->LH->Prop}:wp m L Q↔outX Q (fun _ _ _=>False) (m L):=by
 constructor
 ·rintro ⟨a,L',e,q⟩
  rw [e]
  exact q
 ·intro h
  unfold wp
  cases e:m L with
  | none=>rw [e] at h; exact h.elim
  | some o =>
   rw [e] at h
   cases o with
   | ok a L'=>exact ⟨a,L',rfl,h⟩
   | ex c fs L'=>exact False.elim h
theorem wpx.imp {m:M α} {Q Q':α->LH->Prop} {X':Str->List (Str × LV)->LH->Prop} (h:wpx m L Q X) (q:∀ a L',Q a L'->Q' a L') (x:∀ c fs L',X c fs L'->X' c fs L'):wpx m L Q' X':=by
 unfold wpx at h ⊢
 cases e:m L with
 | none=>rw [e] at h; exact h.elim
 | some o =>
  rw [e] at h
  cases o with
  | ok a L'=>exact q a L' h
  | ex c fs L'=>exact x c fs L' h
theorem wpx.of {m:M α} {Q:α->LH->Prop} (h:wp m L Q):wpx m L Q X:=wpx.imp (X:=fun _ _ _=>False) (wp_out.mp h) (fun _ _ q=>q) fun _ _ _=>False.elim
theorem wpx.wp {m:M α} {Q:α->LH->Prop} (h:wpx m L Q fun _ _ _=>False):wp m L Q:=wp_out.mpr h
theorem wpx_ret {a:α} {Q:α->LH->Prop}:wpx (M.ret a) L Q X↔Q a L:=Iff.rfl
theorem wpx_no {Q:α->LH->Prop}:wpx (M.no:M α) L Q X↔False:=Iff.rfl
theorem wpx_raise {c:Str} {fs:List (Str × LV)} {Q:α->LH->Prop}:wpx (M.raise c fs:M α) L Q X↔X c fs L:=Iff.rfl
theorem wpx_bind {m:M α} {f:α->M β} {Q:β->LH->Prop}:wpx (M.bind m f) L Q X↔wpx m L (fun a L1=>wpx (f a) L1 Q X) X:=by
 unfold wpx M.bind
 cases m L with
 | none=>exact Iff.rfl
 | some o=>cases o <;> exact Iff.rfl
theorem wpx_chk {b:Bool} {m:M α} {Q:α->LH->Prop}:wpx (M.chk b m) L Q X↔b = true∧wpx m L Q X:=by
 cases b with
 | true=>exact ⟨fun h=>⟨rfl,h⟩,fun h=>h.2⟩
 | false=>exact ⟨fun h=>(wpx_no.mp h).elim,fun h=>by cases h.1⟩
theorem wpx_ofO {o:Option α} {f:α->M β} {Q:β->LH->Prop}:wpx (M.ofO o f) L Q X↔∃ a,o = some a∧wpx (f a) L Q X:=by
 cases o with
 | some a=>exact ⟨fun h=>⟨a,rfl,h⟩,fun ⟨b,e,h⟩=>by cases e; exact h⟩
 | none=>exact ⟨fun h=>(wpx_no.mp h).elim,fun ⟨b,e,h⟩=>(by cases e)⟩
theorem wpx_look {g:LH->Option α} {f:α->M β} {Q:β->LH->Prop}:wpx (M.look g f) L Q X↔∃ a,g L = some a∧wpx (f a) L Q X:=by
 unfold wpx M.look
 cases g L with
 | some a=>exact ⟨fun h=>⟨a,rfl,h⟩,fun ⟨b,e,h⟩=>by cases e; exact h⟩
 | none=>exact ⟨False.elim,fun ⟨b,e,h⟩=>(by cases e)⟩
theorem wpx_new {o:LO} {Q:LV->LH->Prop}:wpx (new o) L Q X↔Q (.ref L.length) (L ++ [o]):=Iff.rfl
theorem wpx_setO {n:Nat} {o:LO} {Q:Unit->LH->Prop}:wpx (setO n o) L Q X↔Q () (L.set n o):=Iff.rfl
theorem wpx_br {b:Bool} {m n:M α} {Q:α->LH->Prop}:wpx (brM (.bl b) m n) L Q X↔(b = true->wpx m L Q X)∧(b = false->wpx n L Q X):=by
 cases b with
 | true=>exact ⟨fun h=>⟨fun _=>h,fun z=>(by cases z)⟩,fun h=>h.1 rfl⟩
 | false=>exact ⟨fun h=>⟨fun z=>(by cases z),fun _=>h⟩,fun h=>h.2 rfl⟩
theorem wpx_quiet {m:M α} {Q:α->LH->Prop}:wpx (M.quiet m) L Q X↔wp m L Q:=by
 rw [wp_out]
 unfold wpx M.quiet
 cases m L with
 | none=>exact Iff.rfl
 | some o=>cases o <;> exact Iff.rfl
theorem wpx_try {m:M (Fl × LSt)} {k:LSt->M (Fl × LSt)} {σ:LSt} {hs:List Hd} {Q:Fl × LSt->LH->Prop}:wpx (tryM m k σ hs) L Q X↔wpx m L (fun r L1=>wpx (tryK k r) L1 Q X) (fun c fs L1=>wpx (hdGo c fs σ hs) L1 Q X):=by
 unfold wpx tryM
 cases m L with
 | none=>exact Iff.rfl
 | some o=>cases o <;> exact Iff.rfl
theorem wp_try {m:M (Fl × LSt)} {k:LSt->M (Fl × LSt)} {σ:LSt} {hs:List Hd} {Q:Fl × LSt->LH->Prop}:wp (tryM m k σ hs) L Q↔wpx m L (fun r L1=>wp (tryK k r) L1 Q) (fun c fs L1=>wp (hdGo c fs σ hs) L1 Q):=by
 unfold wpx wp tryM
 cases m L with
 | none=>exact ⟨fun ⟨_,_,e,_⟩=>(by cases e),False.elim⟩
 | some o=>cases o <;> exact Iff.rfl
end
section
variable {R:Cal} {σ:LSt} {c:Str} {fs:List (Str × LV)}
theorem tk_nx {k:LSt->M (Fl × LSt)}:tryK k (.nx,σ) = M.quiet (k σ):=rfl
theorem tk_rt {k:LSt->M (Fl × LSt)} {v:LV}:tryK k (.rt v,σ) = M.ret (.rt v,σ):=rfl
theorem tk_bk {k:LSt->M (Fl × LSt)}:tryK k (.bk,σ) = M.ret (.bk,σ):=rfl
theorem tk_ct {k:LSt->M (Fl × LSt)}:tryK k (.ct,σ) = M.ret (.ct,σ):=rfl
theorem hd_nil:hdGo c fs σ [] = M.raise c fs:=rfl
theorem x_rse {c:Str} {fl:List Str} {es:IEs}:evS R (.rse c fl es) σ = M.bind (evEs R es σ) fun xs=>M.chk (decide (xs.length = fl.length)) (M.raise c (fl.zip xs).reverse):=rfl
theorem x_tryx {s:IS} {rest:List IS} {hs:List Hd}:evS R (.tryx s rest hs) σ = tryM (evS R s σ) (fun σ1=>evB R rest σ1) σ hs:=rfl
theorem v_mks {c:Str} {g n:Nat} {es:IEs} {so:IO}:evE R (.mks c g n es so) σ = M.bind (evEs R es σ) fun xs=>M.bind (evX R so σ) fun ys=>M.ofO (packG n (xs ++ ys)) fun zs=>mkV R c g zs:=rfl
end
section
variable {R:Cal} {σ:LSt} {L:LH} {X:Str->List (Str × LV)->LH->Prop}
theorem wpx_fld {cs:List Str} {f:Str} {n:Nat} {Q:LV->LH->Prop}:wpx (fldV cs f (.ref n)) L Q X↔wpx (fldR cs f L[n]?) L Q X:=Iff.rfl
theorem wpx_fset {cs:List Str} {f:Str} {n:Nat} {v:LV} {Q:Unit->LH->Prop}:wpx (fsetV cs f (.ref n) v) L Q X↔wpx (fsetR cs f n v L[n]?) L Q X:=Iff.rfl
theorem wpx_ix_ref {n:Nat} {k:LV} {Q:LV->LH->Prop}:wpx (ixV (.ref n) k) L Q X↔wpx (ixR L[n]? k) L Q X:=Iff.rfl
theorem wpx_set_ref {n:Nat} {k v:LV} {Q:Unit->LH->Prop}:wpx (setV (.ref n) k v) L Q X↔wpx (setR n v L[n]? k) L Q X:=Iff.rfl
theorem wpx_mth {m:Mth} {n:Nat} {xs:List LV} {Q:LV->LH->Prop}:wpx (mthV m (.ref n) xs) L Q X↔wpx (mthR n m L[n]? xs) L Q X:=Iff.rfl
theorem wpx_eq_int {i j:Int} {Q:LV->LH->Prop}:wpx (cmpV .eq (.int i) (.int j)) L Q X↔Q (.bl (decide (i = j))) L:=by
 show wpx (M.look (fun L=>eqV L (.int i) (.int j)) fun b=>M.ret (.bl b)) L Q X↔_
 rw [wpx_look]
 constructor
 ·rintro ⟨b,e,h⟩
  rw [eqV_int] at e
  cases e
  rw [wpx_ret] at h
  exact h
 ·intro h
  exact ⟨i == j,eqV_int,wpx_ret.mpr h⟩
theorem wpx_ne_int {i j:Int} {Q:LV->LH->Prop}:wpx (cmpV .ne (.int i) (.int j)) L Q X↔Q (.bl (!decide (i = j))) L:=by
 show wpx (M.look (fun L=>eqV L (.int i) (.int j)) fun b=>M.ret (.bl (!b))) L Q X↔_
 rw [wpx_look]
 constructor
 ·rintro ⟨b,e,h⟩
  rw [eqV_int] at e
  cases e
  rw [wpx_ret] at h
  exact h
 ·intro h
  exact ⟨i == j,eqV_int,wpx_ret.mpr h⟩
theorem wtx_0 {a:Option LV} {l:LSt} {v:LV} {Q:LSt->LH->Prop}:wpx (evT R (.name 0) v (a :: l)) L Q X↔Q (some v :: l) L:=by
 rw [vt_name,wpx_chk,wpx_ret]
 exact ⟨fun h=>h.2,fun h=>⟨by simp,h⟩⟩
theorem wtx_S {a:Option LV} {l:LSt} {v:LV} {n:Nat} {Q:LSt->LH->Prop}:wpx (evT R (.name (n + 1)) v (a :: l)) L Q X↔wpx (evT R (.name n) v l) L (fun l' L'=>Q (a :: l') L') X:=by
 rw [vt_name,vt_name,wpx_chk,wpx_chk,wpx_ret,wpx_ret]
 simp
end
end Mv
namespace Mv
open PySem L2
section
variable {R:Cal} {σ:LSt}
theorem v_sem {f:(Nat->List LV->M LV)->LSt->M LV}:evE R (.sem f) σ = f R σ:=rfl
theorem vi_sem {f:(Nat->List LV->M LV)->LSt->M Src}:evI R (.sem f) σ = f R σ:=rfl
theorem vt_sem {f:(Nat->List LV->M LV)->LV->LSt->M LSt} {v:LV}:evT R (.sem f) v σ = f R v σ:=rfl
theorem x_sem {f:(Nat->List LV->M LV)->LSt->M (Fl × LSt)}:evS R (.sem f) σ = f R σ:=rfl
theorem vx_none:evX R .none σ = M.ret []:=rfl
theorem vx_some {e:IE}:evX R (.some e) σ = M.bind (evE R e σ) fun x=>M.look (fun L=>items L x) fun xs=>M.ret xs:=rfl
theorem sl_nil {e:IE}:starL R .nil e σ = M.bind (evE R e σ) fun x=>M.look (fun L=>items L x) fun xs=>M.ret xs:=rfl
theorem sl_cons {a e:IE} {es:IEs}:starL R (.cons a es) e σ = M.bind (evE R a σ) fun x=>M.bind (starL R es e σ) fun xs=>M.ret (x :: xs):=rfl
theorem v_sfL {e:IE} {is:IEs}:sfL R e is σ = M.bind (evE R e σ) fun x=>M.look (fun L=>Mv.items L x) fun xs=>M.bind (evEs R is σ) fun ys=>M.ret (xs ++ ys):=rfl
theorem vt_sta {n:Nat} {ts:ITs} {v:LV}:staT n ts R v σ = M.look (fun L=>itemsL L v) fun xs=>M.chk (decide (n<=xs.length∧xs.length<=16384)) (M.bind (new (.lst (xs.drop n))) fun r=>evTs R ts (xs.take n ++ [r]) σ):=rfl
theorem nnr_int {i a b:Int}:nnrV (.int i) (.int a) (.int b) = M.ret (.bl (!decide (a<=i∧i < b))):=rfl
theorem smt_tup {xs:List LV}:smtV (.tup xs) = M.ofO (intL xs) fun ns=>M.ret (.int ns.sum):=rfl
theorem fau_add {neg:Bool} {i j:Int}:addV neg (.int i) (.int j) = M.ret (.int (if neg then i - j else i + j)):=rfl
theorem str_at {s:Str}:strAt (.str s) = some s:=rfl
theorem sgn_at {c:Nat}:sgnAt (.str ⟨#[c]⟩) = some c:=rfl
theorem itb_bl {b:Bool}:itbV (.bl b) = M.ret (.int (if b then 1 else 0)):=rfl
theorem itb_int {n:Int}:itbV (.int n) = M.ret (.int n):=rfl
theorem vt_stt {i j:Nat} {ts:ITs} {v:LV}:sttT i j ts R v σ = M.look (fun _=>tupIt v) fun xs=>M.chk (decide (i + j<=xs.length∧xs.length<=16384)) (M.bind (new (.lst ((xs.drop i).take (xs.length - i - j)))) fun r=>evTs R ts (xs.take i ++ [r] ++ (xs.drop i).drop (xs.length - i - j)) σ):=rfl
end
end Mv
namespace Mv
open PySem
def rulesA:=And.intro @wp_quiet (And.intro @wp_bind (And.intro @wp_ret (And.intro @wp_chk (And.intro @wp_ofO (And.intro @wp_look (And.intro @wp_new (And.intro @wp_setO (And.intro @wp_br (And.intro @v_var (And.intro @v_lit (And.intro @v_glo (And.intro @v_bin (And.intro @v_neg (And.intro @v_cmp (And.intro @v_cmp2 (And.intro @v_and (And.intro @v_or (And.intro @v_not (And.intro @v_ife (And.intro @v_tup (And.intro @v_lst (And.intro @v_dct0 (And.intro @v_dct (And.intro @v_ix (And.intro @v_slc (And.intro @v_rev (And.intro @v_bi (And.intro @v_isi (And.intro @v_mth (And.intro @v_lset (And.intro @v_rgl1 (And.intro @v_rgl2 (And.intro @v_inr (And.intro @v_call (And.intro @v_comp (And.intro @vs_nil (And.intro @vs_cons (And.intro @vo_none (And.intro @vo_some (And.intro @vc_none (And.intro @vc_some (And.intro @vi_val (And.intro @vi_rng1 (And.intro @vi_rng2 (And.intro @vi_rng3 (And.intro @vi_zip (And.intro @vi_enm (And.intro @vt_tup (And.intro @vt_sub (And.intro @vts_nil (And.intro @vts_cons (And.intro @x_asg (And.intro @x_par (And.intro @x_aug (And.intro @x_exp (And.intro @x_ret (And.intro @x_retN (And.intro @x_ifs (And.intro @x_for (And.intro @x_whl (And.intro @x_brk (And.intro @x_cnt (And.intro @x_pss (And.intro @sq_nx (And.intro @sq_rt (And.intro @sq_bk (And.intro @sq_ct (And.intro @gv_0 (And.intro @gv_S (And.intro @wt_0 (And.intro @wt_S (And.intro @o_add (And.intro @o_sub (And.intro @o_mul (And.intro @o_fdiv (And.intro @o_mod (And.intro @o_pow (And.intro @o_addT (And.intro @o_mulT (And.intro @c_lt (And.intro @c_le (And.intro @c_gt (And.intro @c_ge (And.intro @wp_eq_int (And.intro @wp_ne_int (And.intro @n_bl (And.intro @n_int (And.intro @bi_int (And.intro @bi_len (And.intro @bi_tuple (And.intro @bi_list (And.intro @it_tup (And.intro @r_tup (And.intro @r_ref (And.intro @ix_tup (And.intro @wp_ix_ref (And.intro @ixR_lst (And.intro @ixR_dic (And.intro @wp_set_ref (And.intro @setR_dic (And.intro @sl_tup (And.intro @sl_ref (And.intro @pk_int (And.intro @rg1_int (And.intro @rg2_int (And.intro @inr_int (And.intro @r1_int (And.intro @r2_int (And.intro @r3_int (And.intro @ck_bl (And.intro @rk_rt (And.intro @rk_nx (And.intro @wp_mth (And.intro @m_append (And.intro @m_pop (And.intro @m_count (And.intro @v_fld (And.intro @v_prp (And.intro @v_omt (And.intro @v_mk (And.intro @v_calD (And.intro @v_obi (And.intro @v_oeq (And.intro @v_ost (And.intro @v_oln (And.intro @v_iso (And.intro @v_fst (And.intro @vf_nil (And.intro @vf_cons (And.intro @vt_fld (And.intro @wp_fld (And.intro @fldR_ins (And.intro @wp_fset (And.intro @fsetR_ins (And.intro @fmt_str (And.intro @fmt_int (And.intro @eq_bl (And.intro @bi_strB (@bi_reprB)))))))))))))))))))))))))))))))))))))))))))))))))))))))))))))))))))))))))))))))))))))))))))))))))))))))))))))))))))))))))))))))))))))))))))
def rulesS:=And.intro @wp_quiet (And.intro @wp_bind (And.intro @wp_ret (And.intro @wp_chk (And.intro @wp_ofO (And.intro @wp_look (And.intro @wp_new (And.intro @wp_setO (And.intro @wp_br (And.intro @v_var (And.intro @v_lit (And.intro @v_glo (And.intro @v_bin (And.intro @v_neg (And.intro @v_cmp (And.intro @v_cmp2 (And.intro @v_and (And.intro @v_or (And.intro @v_not (And.intro @v_ife (And.intro @v_tup (And.intro @v_lst (And.intro @v_dct0 (And.intro @v_dct (And.intro @v_ix (And.intro @v_slc (And.intro @v_rev (And.intro @v_bi (And.intro @v_isi (And.intro @v_mth (And.intro @v_lset (And.intro @v_rgl1 (And.intro @v_rgl2 (And.intro @v_inr (And.intro @v_call (And.intro @v_comp (And.intro @vs_nil (And.intro @vs_cons (And.intro @vo_none (And.intro @vo_some (And.intro @vc_none (And.intro @vc_some (And.intro @vi_val (And.intro @vi_rng1 (And.intro @vi_rng2 (And.intro @vi_rng3 (And.intro @vi_zip (And.intro @vi_enm (And.intro @vt_tup (And.intro @vt_sub (And.intro @vts_nil (And.intro @vts_cons (And.intro @x_asg (And.intro @x_par (And.intro @x_aug (And.intro @x_exp (And.intro @x_ret (And.intro @x_retN (And.intro @x_ifs (And.intro @x_for (And.intro @x_whl (And.intro @x_brk (And.intro @x_cnt (And.intro @x_pss (And.intro @sq_nx (And.intro @sq_rt (And.intro @sq_bk (And.intro @sq_ct (And.intro @gv_0 (And.intro @gv_S (And.intro @wt_0 (And.intro @wt_S (And.intro @o_add (And.intro @o_sub (And.intro @o_mul (And.intro @o_fdiv (And.intro @o_mod (And.intro @o_pow (And.intro @o_addT (And.intro @o_mulT (And.intro @c_lt (And.intro @c_le (And.intro @c_gt (And.intro @c_ge (And.intro @wp_eq_int (And.intro @wp_ne_int (And.intro @n_bl (And.intro @n_int (And.intro @bi_int (And.intro @bi_len (And.intro @bi_tuple (And.intro @bi_list (And.intro @it_tup (And.intro @r_tup (And.intro @r_ref (And.intro @ix_tup (And.intro @wp_ix_ref (And.intro @ixR_lst (And.intro @ixR_dic (And.intro @wp_set_ref (And.intro @setR_dic (And.intro @sl_tup (And.intro @sl_ref (And.intro @pk_int (And.intro @rg1_int (And.intro @rg2_int (And.intro @inr_int (And.intro @r1_int (And.intro @r2_int (And.intro @r3_int (And.intro @ck_bl (And.intro @rk_rt (And.intro @rk_nx (And.intro @wp_mth (And.intro @m_append (And.intro @m_pop (And.intro @m_count (And.intro @v_fld (And.intro @v_prp (And.intro @v_omt (And.intro @v_mk (And.intro @v_calD (And.intro @v_obi (And.intro @v_oeq (And.intro @v_ost (And.intro @v_oln (And.intro @v_iso (And.intro @v_fst (And.intro @vf_nil (And.intro @vf_cons (And.intro @vt_fld (And.intro @wp_fld (And.intro @fldR_ins (And.intro @wp_fset (And.intro @fsetR_ins (And.intro @fmt_str (And.intro @fmt_int (And.intro @eq_bl (And.intro @bi_strB (And.intro @bi_reprB (And.intro @wp_try (And.intro @wpx_try (And.intro @wpx_raise (And.intro @wpx_quiet (And.intro @wpx_bind (And.intro @wpx_ret (And.intro @wpx_chk (And.intro @wpx_ofO (And.intro @wpx_look (And.intro @wpx_new (And.intro @wpx_setO (And.intro @wpx_br (And.intro @wpx_fld (And.intro @wpx_fset (And.intro @wpx_ix_ref (And.intro @wpx_set_ref (And.intro @wpx_mth (And.intro @wpx_eq_int (And.intro @wpx_ne_int (And.intro @wtx_0 (And.intro @wtx_S (And.intro @tk_nx (And.intro @tk_rt (And.intro @tk_bk (And.intro @tk_ct (And.intro @hd_nil (And.intro @x_rse (And.intro @x_tryx (And.intro @v_mks (And.intro @v_sem (And.intro @vi_sem (And.intro @vt_sem (And.intro @x_sem (And.intro @v_sfL (And.intro @vt_sta (And.intro @nnr_int (And.intro @smt_tup (And.intro @itb_bl (And.intro @itb_int (And.intro @vt_stt (And.intro @fau_add (And.intro @str_at (And.intro @sgn_at (And.intro @vx_none (And.intro @vx_some (And.intro @sl_nil (@sl_cons))))))))))))))))))))))))))))))))))))))))))))))))))))))))))))))))))))))))))))))))))))))))))))))))))))))))))))))))))))))))))))))))))))))))))))))))))))))))))))))))))))))))))))))))))))))))))
def rulesSX:=And.intro rulesS (And.intro @Option.some.injEq.{0} (And.intro @exists_eq_left'.{1} (And.intro @List.length_cons.{0} (And.intro @List.length_nil.{0} (And.intro @List.set_cons_succ.{0} (And.intro @List.set_cons_zero.{0} (And.intro @List.length_set.{0} (And.intro @if_true.{1} (@Nat.zero_add)))))))))
def rulesSY:=And.intro rulesSX (And.intro @false_implies (And.intro @true_implies (And.intro @eq_self.{1} (And.intro @and_true (And.intro @true_and (And.intro Bool.true_eq_false (Bool.false_eq_true)))))))
def rulesAX:=And.intro rulesA (And.intro @Option.some.injEq.{0} (And.intro @exists_eq_left'.{1} (And.intro @List.length_cons.{0} (And.intro @List.length_nil.{0} (And.intro @List.set_cons_succ.{0} (And.intro @List.set_cons_zero.{0} (And.intro @List.length_set.{0} (And.intro @if_true.{1} (@Nat.zero_add)))))))))
def rulesAY:=And.intro rulesAX (And.intro @false_implies (And.intro @true_implies (And.intro @eq_self.{1} (And.intro @and_true (And.intro @true_and (And.intro Bool.true_eq_false (Bool.false_eq_true)))))))
end Mv
namespace K23
open PySem Mv
def n_is_integer:List Str:=["thing"]
def f_is_integer:Fn:=⟨1,1,[.ret (.and (.isi (.var 0) .int) (.not (.isi (.var 0) .bool)))]⟩
def n_is_between:List Str:=["thing","least","greatest"]
def f_is_between:Fn:=⟨3,3,[.ret (.and (.call 0 (.cons (.var 0) .nil) .nil [0]) (.cmp2 .le .le (.var 1) (.var 0) (.var 2)))]⟩
def n_power:List Str:=["base","exponent","result","lap"]
def f_power:Fn:=⟨4,2,[.asg (.name 2) (.lit (.int 1)),.for (.name 3) (.rng1 (.var 1)) [.asg (.name 2) (.bin .mul (.var 2) (.var 0))],.ret (.var 2)]⟩
def n_is_too_many:List Str:=["signs","cells","many","turn"]
def f_is_too_many:Fn:=⟨4,2,[.asg (.name 2) (.lit (.int 1)),.for (.name 3) (.rng1 (.var 1)) [.aug 2 .mul (.var 0),.ifs (.cmp .gt (.var 2) (.glo (.int 50000))) [.ret (.lit (.bl true))] []],.ret (.lit (.bl false))]⟩
def n_is_exchange:List Str:=["thing","many","item"]
def f_is_exchange:Fn:=⟨3,2,[.ifs (.or (.not (.isi (.var 0) .tuple)) (.cmp .ne (.bi .len (.cons (.var 0) .nil)) (.var 1))) [.ret (.lit (.bl false))] [],.ret (.and (.bi .all (.cons (.comp [2] (.name 2) (.val (.var 0)) .none (.call 1 (.cons (.var 2) (.cons (.lit (.int 0)) (.cons (.bin .sub (.var 1) (.lit (.int 1))) .nil))) .nil [0,1,2])) .nil)) (.cmp .eq (.sem (lssX (.var 0))) (.var 1)))]⟩
def n_are_stretches:List Str:=["signs","length","offset"]
def f_are_stretches:Fn:=⟨3,3,[.ifs (.or (.not (.call 1 (.cons (.var 1) (.cons (.lit (.int 1)) (.cons (.glo (.int 15)) .nil))) .nil [0,1,2])) (.call 3 (.cons (.var 0) (.cons (.var 1) .nil)) .nil [0,1])) [.ret (.lit (.bl false))] [],.ret (.call 1 (.cons (.var 2) (.cons (.lit (.int 0)) (.cons (.bin .sub (.var 1) (.lit (.int 1))) .nil))) .nil [0,1,2])]⟩
def n_is_plan:List Str:=["signs","thing","word","length","offset","table","back","first","second","many"]
def f_is_plan:Fn:=⟨10,2,[.ifs (.or (.not (.isi (.var 1) .tuple)) (.or (.cmp .eq (.var 1) (.tup .nil)) (.not (.isi (.ix (.var 1) (.lit (.int 0))) .str)))) [.ret (.lit (.bl false))] [],.ifs (.cmp .eq (.ix (.var 1) (.lit (.int 0))) (.glo (.str "still"))) [.ret (.cmp .eq (.bi .len (.cons (.var 1) .nil)) (.lit (.int 1)))] [],.ifs (.and (.cmp .eq (.ix (.var 1) (.lit (.int 0))) (.glo (.str "one"))) (.cmp .eq (.bi .len (.cons (.var 1) .nil)) (.glo (.int 4)))) [.asg (.tup (.cons (.name 2) (.cons (.name 3) (.cons (.name 4) (.cons (.name 5) .nil))))) (.var 1),.ret (.and (.call 5 (.cons (.var 0) (.cons (.var 3) (.cons (.var 4) .nil))) .nil [0,1,2]) (.call 4 (.cons (.var 5) (.cons (.call 2 (.cons (.var 0) (.cons (.var 3) .nil)) .nil [0,1]) .nil)) .nil [0,1]))] [],.ifs (.or (.cmp .ne (.ix (.var 1) (.lit (.int 0))) (.glo (.str "two"))) (.cmp .ne (.bi .len (.cons (.var 1) .nil)) (.glo (.int 6)))) [.ret (.lit (.bl false))] [],.asg (.tup (.cons (.name 2) (.cons (.name 3) (.cons (.name 4) (.cons (.name 6) (.cons (.name 7) (.cons (.name 8) .nil))))))) (.var 1),.ifs (.or (.not (.call 5 (.cons (.var 0) (.cons (.var 3) (.cons (.var 4) .nil))) .nil [0,1,2])) (.not (.call 1 (.cons (.var 6) (.cons (.lit (.int 0)) (.cons (.var 3) .nil))) .nil [0,1,2]))) [.ret (.lit (.bl false))] [],.asg (.name 9) (.call 2 (.cons (.var 0) (.cons (.var 3) .nil)) .nil [0,1]),.ret (.and (.call 4 (.cons (.var 7) (.cons (.var 9) .nil)) .nil [0,1]) (.call 4 (.cons (.var 8) (.cons (.var 9) .nil)) .nil [0,1]))]⟩
def n_l_deck:List Str:=["_law_script","_law_digits","_law_mixed","_law_cell"]
def f_l_deck:Fn:=⟨4,1,[.par [1,2] (.cons (.bi .list (.cons (.slc (.var 0) .none (.some (.lit (.int 63)))) .nil)) (.cons (.lit (.int 23023)) .nil)),.for (.name 3) (.val (.var 1)) [.asg (.name 2) (.bin .mod (.bi .int (.cons (.bin .add (.bin .add (.bin .mul (.var 2) (.lit (.int 48271))) (.bin .mod (.bi .int (.cons (.var 3) .nil)) (.lit (.int 2147483629)))) (.lit (.int 41))) .nil)) (.lit (.int 2147483587)))],.ret (.lst (.cons (.rev (.var 1)) (.cons (.var 2) (.cons (.lit (.int 0)) .nil))))]⟩
def n_l_draw:List Str:=["_law_deck_here","_law_below","_law_mixed","_law_cell"]
def f_l_draw:Fn:=⟨4,2,[.asg (.sub (.var 0) (.lit (.int 2))) (.bin .add (.ix (.var 0) (.lit (.int 2))) (.lit (.int 1))),.asg (.name 2) (.bin .add (.ix (.var 0) (.lit (.int 1))) (.bin .mul (.lit (.int 60013)) (.ix (.var 0) (.lit (.int 2))))),.ifs (.cmp .ne (.ix (.var 0) (.lit (.int 0))) (.lst .nil)) [.asg (.name 3) (.mth .pop (.ix (.var 0) (.lit (.int 0))) .nil),.ifs (.cmp .ge (.var 3) (.bin .pow (.lit (.int 10)) (.lit (.int 18)))) [.exp (.mth .append (.ix (.var 0) (.lit (.int 0))) (.cons (.bin .fdiv (.var 3) (.var 1)) .nil)),.ret (.bi .int (.cons (.bin .mod (.var 3) (.var 1)) .nil))] [],.asg (.name 2) (.bin .add (.var 2) (.bin .mod (.bi .int (.cons (.var 3) .nil)) (.lit (.int 2147483629))))] [],.asg (.name 2) (.bin .mod (.bi .int (.cons (.bin .add (.bin .mul (.var 2) (.lit (.int 39373))) (.lit (.int 23))) .nil)) (.lit (.int 2147483647))),.asg (.name 2) (.bin .mod (.bi .int (.cons (.bin .add (.bin .add (.bin .mul (.var 2) (.var 2)) (.bin .mul (.lit (.int 52711)) (.ix (.var 0) (.lit (.int 2))))) (.lit (.int 7))) .nil)) (.lit (.int 2147483587))),.ret (.bin .mod (.bin .fdiv (.bin .mod (.bin .mul (.var 2) (.lit (.int 40692))) (.lit (.int 2147483563))) (.lit (.int 64))) (.var 1))]⟩
def n_l_pick:List Str:=["_law_deck_here","_law_some"]
def f_l_pick:Fn:=⟨2,2,[.ret (.ix (.var 1) (.call 8 (.cons (.var 0) (.cons (.bi .len (.cons (.var 1) .nil)) .nil)) .nil [0,1]))]⟩
def n_l_size:List Str:=["_law_many","_law_long_here","_law_found","_law_k"]
def f_l_size:Fn:=⟨4,2,[.asg (.name 2) (.lit (.int 1)),.for (.name 3) (.rng1 (.var 1)) [.asg (.name 2) (.bin .mul (.var 2) (.var 0))],.ret (.var 2)]⟩
def n_l_exchange:List Str:=["_law_deck_here","_law_size_here","_law_rests","_law_found","_law_k","_law_here","_law_there"]
def f_l_exchange:Fn:=⟨7,3,[.asg (.name 3) (.rgl1 false (.var 1)),.for (.name 4) (.rng1 (.call 9 (.cons (.var 0) (.cons (.lst (.cons (.lit (.int 1)) (.cons (.lit (.int 2)) (.cons (.lit (.int 4)) (.cons (.lit (.int 9)) .nil))))) .nil)) .nil [0,1])) [.par [5,6] (.cons (.bin .add (.var 2) (.call 8 (.cons (.var 0) (.cons (.bin .sub (.var 1) (.var 2)) .nil)) .nil [0,1])) (.cons (.bin .add (.var 2) (.call 8 (.cons (.var 0) (.cons (.bin .sub (.var 1) (.var 2)) .nil)) .nil [0,1])) .nil)),.asg (.tup (.cons (.sub (.var 3) (.var 5)) (.cons (.sub (.var 3) (.var 6)) .nil))) (.tup (.cons (.ix (.var 3) (.var 6)) (.cons (.ix (.var 3) (.var 5)) .nil)))],.ret (.bi .tuple (.cons (.var 3) .nil))]⟩
def n_l_long:List Str:=["_law_deck_here","_law_many","_law_most","_law_long_here"]
def f_l_long:Fn:=⟨4,3,[.asg (.name 3) (.lit (.int 1)),.whl (.and (.cmp .le (.call 10 (.cons (.var 1) (.cons (.bin .add (.var 3) (.lit (.int 1))) .nil)) .nil [0,1]) (.var 2)) (.cmp .gt (.call 8 (.cons (.var 0) (.cons (.lit (.int 3)) .nil)) .nil [0,1]) (.lit (.int 0)))) [.asg (.name 3) (.bin .add (.var 3) (.lit (.int 1)))],.ret (.var 3)]⟩
def n_l_tour:List Str:=["_law_deck_here","_law_many","_law_most","_law_word_here","_law_long_here","_law_size_here","_law_first","_law_second"]
def f_l_tour:Fn:=⟨8,3,[.par [3,4] (.cons (.call 9 (.cons (.var 0) (.cons (.lst (.cons (.lit (.str "still")) (.cons (.lit (.str "one")) (.cons (.lit (.str "one")) (.cons (.lit (.str "two")) (.cons (.lit (.str "two")) (.cons (.lit (.str "two")) .nil))))))) .nil)) .nil [0,1]) (.cons (.call 12 (.cons (.var 0) (.cons (.var 1) (.cons (.var 2) .nil))) .nil [0,1,2]) .nil)),.asg (.name 5) (.call 10 (.cons (.var 1) (.cons (.var 4) .nil)) .nil [0,1]),.ifs (.cmp .eq (.var 3) (.lit (.str "still"))) [.ret (.tup (.cons (.lit (.str "still")) .nil))] [],.ifs (.cmp .eq (.var 3) (.lit (.str "one"))) [.ret (.tup (.cons (.lit (.str "one")) (.cons (.var 4) (.cons (.call 8 (.cons (.var 0) (.cons (.var 4) .nil)) .nil [0,1]) (.cons (.call 11 (.cons (.var 0) (.cons (.var 5) (.cons (.lit (.int 0)) .nil))) .nil [0,1,2]) .nil)))))] [],.par [6,7] (.cons (.call 11 (.cons (.var 0) (.cons (.var 5) (.cons (.lit (.int 0)) .nil))) .nil [0,1,2]) (.cons (.call 11 (.cons (.var 0) (.cons (.var 5) (.cons (.lit (.int 0)) .nil))) .nil [0,1,2]) .nil)),.ret (.tup (.cons (.lit (.str "two")) (.cons (.var 4) (.cons (.call 8 (.cons (.var 0) (.cons (.var 4) .nil)) .nil [0,1]) (.cons (.call 8 (.cons (.var 0) (.cons (.bin .add (.var 4) (.lit (.int 1))) .nil)) .nil [0,1]) (.cons (.var 6) (.cons (.var 7) .nil)))))))]⟩
def n_l_is_count:List Str:=["_law_it","_law_low","_law_high"]
def f_l_is_count:Fn:=⟨3,3,[.ret (.and (.isi (.var 0) .int) (.and (.not (.isi (.var 0) .bool)) (.cmp2 .le .le (.var 1) (.var 0) (.var 2))))]⟩
def n_l_is_table:List Str:=["_law_it","_law_size_here","_law_one"]
def f_l_is_table:Fn:=⟨3,2,[.ifs (.or (.not (.isi (.var 0) .tuple)) (.cmp .ne (.bi .len (.cons (.var 0) .nil)) (.var 1))) [.ret (.lit (.bl false))] [],.ret (.and (.cmp .eq (.comp [2] (.name 2) (.val (.var 0)) (.some (.not (.call 14 (.cons (.var 2) (.cons (.lit (.int 0)) (.cons (.bin .sub (.var 1) (.lit (.int 1))) .nil))) .nil [0,1,2]))) (.var 2)) (.lst .nil)) (.cmp .eq (.lset (.var 0)) (.var 1)))]⟩
def n_l_is_tour:List Str:=["_law_many","_law_it","_law_long_here","_law_size_here","_law_lot"]
def f_l_is_tour:Fn:=⟨5,2,[.ifs (.or (.not (.isi (.var 1) .tuple)) (.or (.cmp .nin (.bi .len (.cons (.var 1) .nil)) (.tup (.cons (.lit (.int 1)) (.cons (.lit (.int 4)) (.cons (.lit (.int 6)) .nil))))) (.not (.isi (.ix (.var 1) (.lit (.int 0))) .str)))) [.ret (.lit (.bl false))] [],.ifs (.or (.cmp .eq (.ix (.var 1) (.lit (.int 0))) (.lit (.str "still"))) (.cmp .eq (.bi .len (.cons (.var 1) .nil)) (.lit (.int 1)))) [.ret (.sem (eqtX (.var 1) (.tup (.cons (.lit (.str "still")) .nil))))] [],.ifs (.or (.cmp .ne (.ix (.var 1) (.lit (.int 0))) (.ix (.dct [.inl 4,.inl 6] (.cons (.lit (.str "one")) (.cons (.lit (.str "two")) .nil))) (.bi .len (.cons (.var 1) .nil)))) (.not (.call 14 (.cons (.ix (.var 1) (.lit (.int 1))) (.cons (.lit (.int 1)) (.cons (.lit (.int 15)) .nil))) .nil [0,1,2]))) [.ret (.lit (.bl false))] [],.asg (.tup (.cons (.name 2) (.cons (.name 3) .nil))) (.tup (.cons (.ix (.var 1) (.lit (.int 1))) (.cons (.call 10 (.cons (.var 0) (.cons (.ix (.var 1) (.lit (.int 1))) .nil)) .nil [0,1]) .nil))),.ifs (.or (.cmp .gt (.var 3) (.lit (.int 50000))) (.not (.call 14 (.cons (.ix (.var 1) (.lit (.int 2))) (.cons (.lit (.int 0)) (.cons (.bin .sub (.var 2) (.lit (.int 1))) .nil))) .nil [0,1,2]))) [.ret (.lit (.bl false))] [],.ifs (.and (.cmp .eq (.bi .len (.cons (.var 1) .nil)) (.lit (.int 6))) (.not (.call 14 (.cons (.ix (.var 1) (.lit (.int 3))) (.cons (.lit (.int 0)) (.cons (.var 2) .nil))) .nil [0,1,2]))) [.ret (.lit (.bl false))] [],.ret (.cmp .eq (.comp [4] (.name 4) (.val (.slc (.var 1) (.some (.bin .add (.bin .sub (.bi .len (.cons (.var 1) .nil)) (.bin .fdiv (.bi .len (.cons (.var 1) .nil)) (.lit (.int 2)))) (.lit (.int 1)))) .none)) (.some (.not (.call 15 (.cons (.var 4) (.cons (.var 3) .nil)) .nil [0,1]))) (.var 4)) (.lst .nil))]⟩
def n_l_odd:List Str:=["_law_deck_here","_law_some"]
def f_l_odd:Fn:=⟨2,1,[.asg (.name 1) (.lst (.cons (.lit .non) (.cons (.lit (.bl true)) (.cons (.lit (.bl false)) (.cons (.neg (.lit (.int 1))) (.cons (.lit (.int 0)) (.cons (.lit (.int 1)) (.cons (.lit (.int 2)) (.cons (.lit (.int 16)) (.cons (.lit (.str "one")) (.cons (.lit (.str "two")) (.cons (.lit (.str "still")) (.cons (.lit (.str "")) (.cons (.tup .nil) (.cons (.lst .nil) (.cons (.dct0) (.cons (.tup (.cons (.lit (.int 0)) (.cons (.lit (.int 1)) .nil))) (.cons (.bin .pow (.lit (.int 10)) (.lit (.int 30))) .nil)))))))))))))))))),.ret (.call 9 (.cons (.var 0) (.cons (.var 1) .nil)) .nil [0,1])]⟩
def n_l_bent_table:List Str:=["_law_deck_here","_law_lot","_law_way","_law_at","_law_some"]
def f_l_bent_table:Fn:=⟨5,2,[.par [2,3] (.cons (.call 8 (.cons (.var 0) (.cons (.lit (.int 6)) .nil)) .nil [0,1]) (.cons (.call 8 (.cons (.var 0) (.cons (.bi .len (.cons (.var 1) .nil)) .nil)) .nil [0,1]) .nil)),.ifs (.cmp .eq (.var 2) (.lit (.int 0))) [.ret (.bin .add (.slc (.var 1) .none (.some (.var 3))) (.slc (.var 1) (.some (.bin .add (.var 3) (.lit (.int 1)))) .none))] [],.ifs (.cmp .eq (.var 2) (.lit (.int 1))) [.ret (.bi .list (.cons (.var 1) .nil))] [],.ifs (.cmp .eq (.var 2) (.lit (.int 2))) [.ret (.bin .add (.var 1) (.tup (.cons (.bi .len (.cons (.var 1) .nil)) .nil)))] [],.asg (.name 4) (.lst (.cons (.ix (.var 1) (.lit (.int 0))) (.cons (.ix (.var 1) (.neg (.lit (.int 1)))) (.cons (.bi .len (.cons (.var 1) .nil)) (.cons (.neg (.lit (.int 1))) (.cons (.lit (.bl true)) (.cons (.lit .non) (.cons (.lit (.int 0)) .nil)))))))),.ret (.bin .add (.bin .add (.slc (.var 1) .none (.some (.var 3))) (.tup (.cons (.call 9 (.cons (.var 0) (.cons (.var 4) .nil)) .nil [0,1]) .nil))) (.slc (.var 1) (.some (.bin .add (.var 3) (.lit (.int 1)))) .none))]⟩
def n_l_bent:List Str:=["_law_deck_here","_law_it","_law_way","_law_at","_law_spot","_law_more","_law_one"]
def f_l_bent:Fn:=⟨7,2,[.ifs (.or (.not (.isi (.var 1) .tuple)) (.cmp .eq (.var 1) (.tup .nil))) [.ret (.call 17 (.cons (.var 0) .nil) .nil [0])] [],.par [2,3] (.cons (.call 8 (.cons (.var 0) (.cons (.lit (.int 8)) .nil)) .nil [0,1]) (.cons (.call 8 (.cons (.var 0) (.cons (.bi .len (.cons (.var 1) .nil)) .nil)) .nil [0,1]) .nil)),.ifs (.cmp .eq (.var 2) (.lit (.int 0))) [.ret (.bin .add (.slc (.var 1) .none (.some (.var 3))) (.slc (.var 1) (.some (.bin .add (.var 3) (.lit (.int 1)))) .none))] [],.ifs (.cmp .eq (.var 2) (.lit (.int 1))) [.ret (.bin .add (.bin .add (.slc (.var 1) .none (.some (.var 3))) (.tup (.cons (.call 17 (.cons (.var 0) .nil) .nil [0]) .nil))) (.slc (.var 1) (.some (.var 3)) .none))] [],.ifs (.cmp .eq (.var 2) (.lit (.int 2))) [.ret (.call 9 (.cons (.var 0) (.cons (.lst (.cons (.bi .list (.cons (.var 1) .nil)) (.cons (.rev (.var 1)) (.cons (.tup (.cons (.var 1) .nil)) (.cons (.ix (.var 1) (.lit (.int 0))) (.cons (.bin .add (.var 1) (.var 1)) .nil)))))) .nil)) .nil [0,1])] [],.ifs (.or (.cmp .eq (.var 2) (.lit (.int 3))) (.cmp .lt (.bi .len (.cons (.var 1) .nil)) (.lit (.int 4)))) [.ret (.bin .add (.bin .add (.slc (.var 1) .none (.some (.var 3))) (.tup (.cons (.call 17 (.cons (.var 0) .nil) .nil [0]) .nil))) (.slc (.var 1) (.some (.bin .add (.var 3) (.lit (.int 1)))) .none))] [],.ifs (.and (.cmp .lt (.var 2) (.lit (.int 6))) (.and (.isi (.ix (.var 1) (.neg (.lit (.int 1)))) .tuple) (.cmp .ne (.ix (.var 1) (.neg (.lit (.int 1)))) (.tup .nil)))) [.ret (.bin .add (.slc (.var 1) .none (.some (.neg (.lit (.int 1))))) (.tup (.cons (.call 18 (.cons (.var 0) (.cons (.ix (.var 1) (.neg (.lit (.int 1)))) .nil)) .nil [0,1]) .nil)))] [],.asg (.name 4) (.bin .add (.lit (.int 1)) (.call 8 (.cons (.var 0) (.cons (.bin .sub (.bi .len (.cons (.var 1) .nil)) (.lit (.int 2))) .nil)) .nil [0,1])),.asg (.name 5) (.bin .add (.lst (.cons (.ix (.var 1) (.lit (.int 1))) (.cons (.ix (.var 1) (.lit (.int 2))) (.cons (.neg (.lit (.int 1))) (.cons (.lit (.int 0)) (.cons (.lit (.int 1)) .nil)))))) (.comp [6] (.name 6) (.val (.slc (.var 1) (.some (.lit (.int 1))) (.some (.lit (.int 3))))) (.some (.call 14 (.cons (.var 6) (.cons (.neg (.lit (.int 9))) (.cons (.lit (.int 99)) .nil))) .nil [0,1,2])) (.bin .add (.var 6) (.lit (.int 1))))),.ret (.bin .add (.bin .add (.slc (.var 1) .none (.some (.var 4))) (.tup (.cons (.call 9 (.cons (.var 0) (.cons (.var 5) .nil)) .nil [0,1]) .nil))) (.slc (.var 1) (.some (.bin .add (.var 4) (.lit (.int 1)))) .none))]⟩
def n_l_told_right:List Str:=["_law_many","_law_it","_law_shown","_law_due","_law_told"]
def f_l_told_right:Fn:=⟨5,2,[.par [2,3] (.cons (.bi .repr (.cons (.var 1) .nil)) (.cons (.call 16 (.cons (.var 0) (.cons (.var 1) .nil)) .nil [0,1]) .nil)),.asg (.name 4) (.lst (.cons (.call 6 (.cons (.var 0) (.cons (.var 1) .nil)) .nil [0,1]) (.cons (.call 6 .nil (.cons (.var 1) (.cons (.var 0) .nil)) [1,0]) .nil))),.ret (.and (.cmp .eq (.bi .repr (.cons (.var 4) .nil)) (.bi .repr (.cons (.lst (.cons (.var 3) (.cons (.var 3) .nil))) .nil))) (.cmp .eq (.bi .repr (.cons (.var 1) .nil)) (.var 2)))]⟩
def n_l_great_right:List Str:=["_law_deck_here","_law_many","_law_long_here","_law_more","_law_lot","_law_it","_law_told"]
def f_l_great_right:Fn:=⟨7,1,[.par [1,2] (.cons (.call 9 (.cons (.var 0) (.cons (.lst (.cons (.lit (.int 2)) (.cons (.lit (.int 3)) (.cons (.lit (.int 4)) (.cons (.lit (.int 5)) .nil))))) .nil)) .nil [0,1]) (.cons (.lit (.int 1)) .nil)),.whl (.cmp .le (.call 10 (.cons (.var 1) (.cons (.bin .add (.var 2) (.lit (.int 1))) .nil)) .nil [0,1]) (.lit (.int 50000))) [.asg (.name 2) (.bin .add (.var 2) (.lit (.int 1)))],.for (.name 3) (.val (.tup (.cons (.var 2) (.cons (.bin .add (.var 2) (.lit (.int 1))) .nil)))) [.asg (.name 4) (.rgl1 true (.call 10 (.cons (.var 1) (.cons (.var 3) .nil)) .nil [0,1])),.for (.name 5) (.val (.lst (.cons (.tup (.cons (.lit (.str "one")) (.cons (.var 3) (.cons (.bin .sub (.var 3) (.lit (.int 1))) (.cons (.var 4) .nil))))) (.cons (.tup (.cons (.lit (.str "two")) (.cons (.var 3) (.cons (.lit (.int 0)) (.cons (.var 3) (.cons (.var 4) (.cons (.rev (.var 4)) .nil))))))) .nil)))) [.asg (.name 6) (.call 6 (.cons (.var 1) (.cons (.var 5) .nil)) .nil [0,1]),.ifs (.cmp .ne (.bi .repr (.cons (.var 6) .nil)) (.bi .repr (.cons (.cmp .eq (.var 3) (.var 2)) .nil))) [.ret (.lit (.bl false))] []]],.ret (.lit (.bl true))]⟩
def n_law:List Str:=["_law_script","_law_deck_here","_law_k","_law_many","_law_it","_law_again"]
def f_law:Fn:=⟨6,1,[.asg (.name 1) (.call 7 (.cons (.var 0) .nil) .nil [0]),.for (.name 2) (.rng1 (.lit (.int 24))) [.asg (.name 3) (.call 9 (.cons (.var 1) (.cons (.lst (.cons (.lit (.int 2)) (.cons (.lit (.int 2)) (.cons (.lit (.int 3)) (.cons (.lit (.int 4)) (.cons (.lit (.int 5)) (.cons (.lit (.int 6)) .nil))))))) .nil)) .nil [0,1]),.asg (.name 4) (.call 13 (.cons (.var 1) (.cons (.var 3) (.cons (.lit (.int 130)) .nil))) .nil [0,1,2]),.ifs (.not (.call 20 (.cons (.var 3) (.cons (.var 4) .nil)) .nil [0,1])) [.ret (.lit (.bl false))] [],.for (.name 5) (.rng1 (.lit (.int 3))) [.asg (.name 4) (.call 19 (.cons (.var 1) (.cons (.var 4) .nil)) .nil [0,1]),.ifs (.not (.call 20 (.cons (.var 3) (.cons (.var 4) .nil)) .nil [0,1])) [.ret (.lit (.bl false))] []],.ifs (.not (.call 20 (.cons (.var 3) (.cons (.call 17 (.cons (.var 1) .nil) .nil [0]) .nil)) .nil [0,1])) [.ret (.lit (.bl false))] []],.ret (.call 21 (.cons (.var 1) .nil) .nil [0])]⟩
def prog:List Fn:=[f_is_integer,f_is_between,f_power,f_is_too_many,f_is_exchange,f_are_stretches,f_is_plan,f_l_deck,f_l_draw,f_l_pick,f_l_size,f_l_exchange,f_l_long,f_l_tour,f_l_is_count,f_l_is_table,f_l_is_tour,f_l_odd,f_l_bent_table,f_l_bent,f_l_told_right,f_l_great_right,f_law]
end K23
namespace K23
open PySem PySem.Spec PyProof.Rows L2 Mv
def top (i:Nat):Stmt:=PySem.Challenge.pw_twostrokes_k23_plans_of_any_value.main.body.getD i (.Pass ⟨0,0,0,0⟩)
abbrev s_is_integer:Stmt:=top 1
abbrev s_is_between:Stmt:=top 2
abbrev s_power:Stmt:=top 3
abbrev s_is_too_many:Stmt:=top 6
abbrev s_is_exchange:Stmt:=top 8
abbrev s_are_stretches:Stmt:=top 16
abbrev s_is_plan:Stmt:=top 17
abbrev s_l_deck:Stmt:=top 19
abbrev s_l_draw:Stmt:=top 20
abbrev s_l_pick:Stmt:=top 21
abbrev s_l_size:Stmt:=top 24
abbrev s_l_exchange:Stmt:=top 25
abbrev s_l_long:Stmt:=top 26
abbrev s_l_tour:Stmt:=top 27
abbrev s_l_is_count:Stmt:=top 28
abbrev s_l_is_table:Stmt:=top 29
abbrev s_l_is_tour:Stmt:=top 30
abbrev s_l_odd:Stmt:=top 31
abbrev s_l_bent_table:Stmt:=top 32
abbrev s_l_bent:Stmt:=top 33
abbrev s_l_told_right:Stmt:=top 34
abbrev s_l_great_right:Stmt:=top 35
abbrev s_law:Stmt:=top 36
structure Txt (K:PySem.W.Frag) (mg:Str->Option Value):Prop where
 z_all:mg "all" = none
 z_bool:mg "bool" = none
 z_int:mg "int" = none
 z_isinstance:mg "isinstance" = none
 z_len:mg "len" = none
 z_list:mg "list" = none
 z_range:mg "range" = none
 z_repr:mg "repr" = none
 z_set:mg "set" = none
 z_str:mg "str" = none
 z_tuple:mg "tuple" = none
 v_LONGEST:∃ u,mg "LONGEST" = some u∧RelC (.int 15) u
 v_MOST_WORDS:∃ u,mg "MOST_WORDS" = some u∧RelC (.int 50000) u
 v_ONE:∃ u,mg "ONE" = some u∧RelC (.str "one") u
 v_ONE_PARTS:∃ u,mg "ONE_PARTS" = some u∧RelC (.int 4) u
 v_STILL:∃ u,mg "STILL" = some u∧RelC (.str "still") u
 v_TWO:∃ u,mg "TWO" = some u∧RelC (.str "two") u
 v_TWO_PARTS:∃ u,mg "TWO_PARTS" = some u∧RelC (.int 6) u
structure Cs (P:Program) (w:World) (K:PySem.W.Frag) (mg:Str->Option Value) (base:Heap) (k:Nat) (fs:Nat->Addr) (ds:Nat->FuncData):Prop where
 c0:CalG P w K mg base k "is_integer" (fs 0) (ds 0) ["thing"] (run prog k 0)
 b0_0:BindOk K (ds 0) ["thing"] 1 [] [0]
 c1:CalG P w K mg base k "is_between" (fs 1) (ds 1) ["thing","least","greatest"] (run prog k 1)
 b1_0:BindOk K (ds 1) ["thing","least","greatest"] 3 [] [0,1,2]
 c2:CalG P w K mg base k "power" (fs 2) (ds 2) ["base","exponent"] (run prog k 2)
 b2_0:BindOk K (ds 2) ["base","exponent"] 2 [] [0,1]
 c3:CalG P w K mg base k "is_too_many" (fs 3) (ds 3) ["signs","cells"] (run prog k 3)
 b3_0:BindOk K (ds 3) ["signs","cells"] 2 [] [0,1]
 c4:CalG P w K mg base k "is_exchange" (fs 4) (ds 4) ["thing","many"] (run prog k 4)
 b4_0:BindOk K (ds 4) ["thing","many"] 2 [] [0,1]
 c5:CalG P w K mg base k "are_stretches" (fs 5) (ds 5) ["signs","length","offset"] (run prog k 5)
 b5_0:BindOk K (ds 5) ["signs","length","offset"] 3 [] [0,1,2]
 c6:CalG P w K mg base k "is_plan" (fs 6) (ds 6) ["signs","thing"] (run prog k 6)
 b6_0:BindOk K (ds 6) ["signs","thing"] 2 [] [0,1]
 b6_1:BindOk K (ds 6) ["signs","thing"] 0 ["thing","signs"] [1,0]
 c7:CalG P w K mg base k "_law_deck" (fs 7) (ds 7) ["_law_script"] (run prog k 7)
 b7_0:BindOk K (ds 7) ["_law_script"] 1 [] [0]
 c8:CalG P w K mg base k "_law_draw" (fs 8) (ds 8) ["_law_deck_here","_law_below"] (run prog k 8)
 b8_0:BindOk K (ds 8) ["_law_deck_here","_law_below"] 2 [] [0,1]
 c9:CalG P w K mg base k "_law_pick" (fs 9) (ds 9) ["_law_deck_here","_law_some"] (run prog k 9)
 b9_0:BindOk K (ds 9) ["_law_deck_here","_law_some"] 2 [] [0,1]
 c10:CalG P w K mg base k "_law_size" (fs 10) (ds 10) ["_law_many","_law_long_here"] (run prog k 10)
 b10_0:BindOk K (ds 10) ["_law_many","_law_long_here"] 2 [] [0,1]
 c11:CalG P w K mg base k "_law_exchange" (fs 11) (ds 11) ["_law_deck_here","_law_size_here","_law_rests"] (run prog k 11)
 b11_0:BindOk K (ds 11) ["_law_deck_here","_law_size_here","_law_rests"] 3 [] [0,1,2]
 c12:CalG P w K mg base k "_law_long" (fs 12) (ds 12) ["_law_deck_here","_law_many","_law_most"] (run prog k 12)
 b12_0:BindOk K (ds 12) ["_law_deck_here","_law_many","_law_most"] 3 [] [0,1,2]
 c13:CalG P w K mg base k "_law_tour" (fs 13) (ds 13) ["_law_deck_here","_law_many","_law_most"] (run prog k 13)
 b13_0:BindOk K (ds 13) ["_law_deck_here","_law_many","_law_most"] 3 [] [0,1,2]
 c14:CalG P w K mg base k "_law_is_count" (fs 14) (ds 14) ["_law_it","_law_low","_law_high"] (run prog k 14)
 b14_0:BindOk K (ds 14) ["_law_it","_law_low","_law_high"] 3 [] [0,1,2]
 c15:CalG P w K mg base k "_law_is_table" (fs 15) (ds 15) ["_law_it","_law_size_here"] (run prog k 15)
 b15_0:BindOk K (ds 15) ["_law_it","_law_size_here"] 2 [] [0,1]
 c16:CalG P w K mg base k "_law_is_tour" (fs 16) (ds 16) ["_law_many","_law_it"] (run prog k 16)
 b16_0:BindOk K (ds 16) ["_law_many","_law_it"] 2 [] [0,1]
 c17:CalG P w K mg base k "_law_odd" (fs 17) (ds 17) ["_law_deck_here"] (run prog k 17)
 b17_0:BindOk K (ds 17) ["_law_deck_here"] 1 [] [0]
 c18:CalG P w K mg base k "_law_bent_table" (fs 18) (ds 18) ["_law_deck_here","_law_lot"] (run prog k 18)
 b18_0:BindOk K (ds 18) ["_law_deck_here","_law_lot"] 2 [] [0,1]
 c19:CalG P w K mg base k "_law_bent" (fs 19) (ds 19) ["_law_deck_here","_law_it"] (run prog k 19)
 b19_0:BindOk K (ds 19) ["_law_deck_here","_law_it"] 2 [] [0,1]
 c20:CalG P w K mg base k "_law_told_right" (fs 20) (ds 20) ["_law_many","_law_it"] (run prog k 20)
 b20_0:BindOk K (ds 20) ["_law_many","_law_it"] 2 [] [0,1]
 c21:CalG P w K mg base k "_law_great_right" (fs 21) (ds 21) ["_law_deck_here"] (run prog k 21)
 b21_0:BindOk K (ds 21) ["_law_deck_here"] 1 [] [0]
 c22:CalG P w K mg base k "law" (fs 22) (ds 22) ["_law_script"] (run prog k 22)
section
variable {P:Program} {w:World} {K:PySem.W.Frag} {mg:Str->Option Value} {base:Heap} {k:Nat} {fs:Nat->Addr} {ds:Nat->FuncData}
variable (S:Cs P w K mg base k fs ds) (T:Txt K mg) (hdg:base.NoDigits)
include S T hdg
omit S T hdg in
theorem sc_is_integer:FnScope n_is_integer ["thing"] (defScope s_is_integer):=fsc
theorem w_is_integer:WkP P w K mg base k (run prog k) n_is_integer "is_integer" (defScope s_is_integer) (defBody s_is_integer) f_is_integer.body:=wk_of sc_is_integer (by decide +kernel) hdg fun G hp nv hW tk hr =>
 (B_cons hW (S_ret (E_and (E_isi .int T.z_isinstance T.z_int (E_n1 nv)) (E_one (E_not (E_isi .bool T.z_isinstance T.z_bool (E_n1 nv))))))
 B_nil)
omit S T hdg in
theorem sc_is_between:FnScope n_is_between ["thing","least","greatest"] (defScope s_is_between):=fsc
theorem w_is_between:WkP P w K mg base k (run prog k) n_is_between "is_between" (defScope s_is_between) (defBody s_is_between) f_is_between.body:=wk_of sc_is_between (by decide +kernel) hdg fun G hp nv hW tk hr =>
 (B_cons hW (S_ret (E_and (E_call G.toGoodH tk S.c0 hr S.b0_0 (A_cons (E_n1 nv) A_nil) K_nil) (E_one (E_cmp2 G.toGoodH .le .le (E_n1 nv) (E_n1 nv) (E_n1 nv)))))
 B_nil)
omit S T hdg in
theorem sc_power:FnScope n_power ["base","exponent"] (defScope s_power):=fsc
theorem w_power:WkP P w K mg base k (run prog k) n_power "power" (defScope s_power) (defBody s_power) f_power.body:=wk_of sc_power (by decide +kernel) hdg fun G hp nv hW tk hr =>
 (B_cons hW (S_asg (own:=[2]) E_int (G_name G.toGoodH))
 (B_cons hW (S_for (own:=[3]) G hW hp (I_rng1 T.z_range (E_n1 nv)) (G_name G.toGoodH) (B_cons hW (S_asg (own:=[2]) (E_bin .mul (E_n1 nv) (E_n1 nv)) (G_name G.toGoodH))
 B_nil))
 (B_cons hW (S_ret (E_n1 nv))
 B_nil)))
omit S T hdg in
theorem sc_is_too_many:FnScope n_is_too_many ["signs","cells"] (defScope s_is_too_many):=fsc
theorem w_is_too_many:WkP P w K mg base k (run prog k) n_is_too_many "is_too_many" (defScope s_is_too_many) (defBody s_is_too_many) f_is_too_many.body:=wk_of sc_is_too_many (by decide +kernel) hdg fun G hp nv hW tk hr =>
 (B_cons hW (S_asg (own:=[2]) E_int (G_name G.toGoodH))
 (B_cons hW (S_for (own:=[3]) G hW hp (I_rng1 T.z_range (E_n1 nv)) (G_name G.toGoodH) (B_cons hW (S_aug .mul G rfl (.inl rfl) (E_n1 nv) (.inl rfl))
 (B_cons hW (S_ifs (T_cmp G.toGoodH .gt (E_n1 nv) (E_gloX T.v_MOST_WORDS)) (B_cons hW (S_ret E_bl)
 B_nil) B_nil)
 B_nil)))
 (B_cons hW (S_ret E_bl)
 B_nil)))
omit S T hdg in
theorem sc_is_exchange:FnScope n_is_exchange ["thing","many"] (defScope s_is_exchange):=fsc
theorem w_is_exchange:WkP P w K mg base k (run prog k) n_is_exchange "is_exchange" (defScope s_is_exchange) (defBody s_is_exchange) f_is_exchange.body:=wk_of sc_is_exchange (by decide +kernel) hdg fun G hp nv hW tk hr =>
 (B_cons hW (S_ifs (T_w (W_or (T_not (T_val (E_isi .tuple T.z_isinstance T.z_tuple (E_n1 nv)))) (W_or1 (T_cmp G.toGoodH .ne (E_bi G .len T.z_len (A_cons (E_n1 nv) A_nil)) (E_n2 nv))))) (B_cons hW (S_ret E_bl)
 B_nil) B_nil)
 (B_cons hW (S_ret (E_and (E_bi G .all T.z_all (A_cons (E_comp (ow:=[("item",2)]) G (I_val (E_n1 nv)) (blkOk_by (by show blkC n_is_exchange (defScope s_is_exchange) _ _ = true; decide +kernel)) (fun _ _ _ _ _=>(G_name (GoodH.blk G.toGoodH))) (fun _ _ _ _ _=>C_none) (fun _ _ _ _ _=>(E_call (GoodH.blk G.toGoodH) takes0 S.c1 hr S.b1_0 (A_cons (E_n1 nv) (A_cons E_int (A_cons (E_bin .sub (E_n2 nv) E_int) A_nil))) K_nil))) A_nil)) (E_one (E_cmp G.toGoodH .eq (E_lss G T.z_len T.z_set (E_n1 nv)) (E_n2 nv)))))
 B_nil))
omit S T hdg in
theorem sc_are_stretches:FnScope n_are_stretches ["signs","length","offset"] (defScope s_are_stretches):=fsc
theorem w_are_stretches:WkP P w K mg base k (run prog k) n_are_stretches "are_stretches" (defScope s_are_stretches) (defBody s_are_stretches) f_are_stretches.body:=wk_of sc_are_stretches (by decide +kernel) hdg fun G hp nv hW tk hr =>
 (B_cons hW (S_ifs (T_w (W_or (T_not (T_val (E_call G.toGoodH tk S.c1 hr S.b1_0 (A_cons (E_n1 nv) (A_cons E_int (A_cons (E_gloX T.v_LONGEST) A_nil))) K_nil))) (W_or1 (T_val (E_call G.toGoodH tk S.c3 hr S.b3_0 (A_cons (E_n1 nv) (A_cons (E_n1 nv) A_nil)) K_nil))))) (B_cons hW (S_ret E_bl)
 B_nil) B_nil)
 (B_cons hW (S_ret (E_call G.toGoodH tk S.c1 hr S.b1_0 (A_cons (E_n1 nv) (A_cons E_int (A_cons (E_bin .sub (E_n1 nv) E_int) A_nil))) K_nil))
 B_nil))
omit S T hdg in
theorem sc_is_plan:FnScope n_is_plan ["signs","thing"] (defScope s_is_plan):=fsc
theorem w_is_plan:WkP P w K mg base k (run prog k) n_is_plan "is_plan" (defScope s_is_plan) (defBody s_is_plan) f_is_plan.body:=wk_of sc_is_plan (by decide +kernel) hdg fun G hp nv hW tk hr =>
 (B_cons hW (S_ifs (T_w (W_or (T_not (T_val (E_isi .tuple T.z_isinstance T.z_tuple (E_n1 nv)))) (W_or (T_cmp G.toGoodH .eq (E_n1 nv) (E_tup A_nil)) (W_or1 (T_not (T_val (E_isi .str T.z_isinstance T.z_str (E_ix G.toGoodH (E_n1 nv) E_int)))))))) (B_cons hW (S_ret E_bl)
 B_nil) B_nil)
 (B_cons hW (S_ifs (T_cmp G.toGoodH .eq (E_ix G.toGoodH (E_n1 nv) E_int) (E_gloX T.v_STILL)) (B_cons hW (S_ret (E_cmp G.toGoodH .eq (E_bi G .len T.z_len (A_cons (E_n1 nv) A_nil)) E_int))
 B_nil) B_nil)
 (B_cons hW (S_ifs (T_w (W_and (T_cmp G.toGoodH .eq (E_ix G.toGoodH (E_n1 nv) E_int) (E_gloX T.v_ONE)) (W_and1 (T_cmp G.toGoodH .eq (E_bi G .len T.z_len (A_cons (E_n1 nv) A_nil)) (E_gloX T.v_ONE_PARTS))))) (B_cons hW (S_asg (own:=[2,3,4,5]) (E_n1 nv) (G_tup G (Gs_cons hW (G_name G.toGoodH) (Gs_cons hW (G_name G.toGoodH) (Gs_cons hW (G_name G.toGoodH) (Gs_cons hW (G_name G.toGoodH) Gs_nil))))))
 (B_cons hW (S_ret (E_and (E_call G.toGoodH tk S.c5 hr S.b5_0 (A_cons (E_n1 nv) (A_cons (E_n1 nv) (A_cons (E_n1 nv) A_nil))) K_nil) (E_one (E_call G.toGoodH tk S.c4 hr S.b4_0 (A_cons (E_n1 nv) (A_cons (E_call G.toGoodH tk S.c2 hr S.b2_0 (A_cons (E_n1 nv) (A_cons (E_n1 nv) A_nil)) K_nil) A_nil)) K_nil))))
 B_nil)) B_nil)
 (B_cons hW (S_ifs (T_w (W_or (T_cmp G.toGoodH .ne (E_ix G.toGoodH (E_n1 nv) E_int) (E_gloX T.v_TWO)) (W_or1 (T_cmp G.toGoodH .ne (E_bi G .len T.z_len (A_cons (E_n1 nv) A_nil)) (E_gloX T.v_TWO_PARTS))))) (B_cons hW (S_ret E_bl)
 B_nil) B_nil)
 (B_cons hW (S_asg (own:=[2,3,4,6,7,8]) (E_n1 nv) (G_tup G (Gs_cons hW (G_name G.toGoodH) (Gs_cons hW (G_name G.toGoodH) (Gs_cons hW (G_name G.toGoodH) (Gs_cons hW (G_name G.toGoodH) (Gs_cons hW (G_name G.toGoodH) (Gs_cons hW (G_name G.toGoodH) Gs_nil))))))))
 (B_cons hW (S_ifs (T_w (W_or (T_not (T_val (E_call G.toGoodH tk S.c5 hr S.b5_0 (A_cons (E_n1 nv) (A_cons (E_n1 nv) (A_cons (E_n1 nv) A_nil))) K_nil))) (W_or1 (T_not (T_val (E_call G.toGoodH tk S.c1 hr S.b1_0 (A_cons (E_n1 nv) (A_cons E_int (A_cons (E_n1 nv) A_nil))) K_nil)))))) (B_cons hW (S_ret E_bl)
 B_nil) B_nil)
 (B_cons hW (S_asg (own:=[9]) (E_call G.toGoodH tk S.c2 hr S.b2_0 (A_cons (E_n1 nv) (A_cons (E_n1 nv) A_nil)) K_nil) (G_name G.toGoodH))
 (B_cons hW (S_ret (E_and (E_call G.toGoodH tk S.c4 hr S.b4_0 (A_cons (E_n1 nv) (A_cons (E_n1 nv) A_nil)) K_nil) (E_one (E_call G.toGoodH tk S.c4 hr S.b4_0 (A_cons (E_n1 nv) (A_cons (E_n1 nv) A_nil)) K_nil))))
 B_nil))))))))
omit S T hdg in
theorem sc_l_deck:FnScope n_l_deck ["_law_script"] (defScope s_l_deck):=fsc
theorem w_l_deck:WkP P w K mg base k (run prog k) n_l_deck "_law_deck" (defScope s_l_deck) (defBody s_l_deck) f_l_deck.body:=wk_of sc_l_deck (by decide +kernel) hdg fun G hp nv hW tk hr =>
 (B_cons hW (S_par G rfl rfl (by decide) rfl rfl (A_cons (E_bi G .list T.z_list (A_cons (E_slc (E_n1 nv) O_none (O_some E_int)) A_nil)) (A_cons E_int A_nil)))
 (B_cons hW (S_for (own:=[3]) G hW hp (I_val (E_n1 nv)) (G_name G.toGoodH) (B_cons hW (S_asg (own:=[2]) (E_bin .mod (E_bi G .int T.z_int (A_cons (E_bin .add (E_bin .add (E_bin .mul (E_n1 nv) E_int) (E_bin .mod (E_bi G .int T.z_int (A_cons (E_n1 nv) A_nil)) E_int)) E_int) A_nil)) E_int) (G_name G.toGoodH))
 B_nil))
 (B_cons hW (S_ret (E_lst (A_cons (E_rev (E_n1 nv)) (A_cons (E_n1 nv) (A_cons E_int A_nil)))))
 B_nil)))
omit S T hdg in
theorem sc_l_draw:FnScope n_l_draw ["_law_deck_here","_law_below"] (defScope s_l_draw):=fsc
theorem w_l_draw:WkP P w K mg base k (run prog k) n_l_draw "_law_draw" (defScope s_l_draw) (defBody s_l_draw) f_l_draw.body:=wk_of sc_l_draw (by decide +kernel) hdg fun G hp nv hW tk hr =>
 (B_cons hW (S_asg (own:=[]) (E_bin .add (E_ix G.toGoodH (E_n1 nv) E_int) E_int) (G_sub G.toGoodH (E_n1 nv) E_int))
 (B_cons hW (S_asg (own:=[2]) (E_bin .add (E_ix G.toGoodH (E_n1 nv) E_int) (E_bin .mul E_int (E_ix G.toGoodH (E_n1 nv) E_int))) (G_name G.toGoodH))
 (B_cons hW (S_ifs (T_cmp G.toGoodH .ne (E_ix G.toGoodH (E_n1 nv) E_int) (E_lst A_nil)) (B_cons hW (S_asg (own:=[3]) (E_mth0 .pop (E_ix G.toGoodH (E_n1 nv) E_int)) (G_name G.toGoodH))
 (B_cons hW (S_ifs (T_cmp G.toGoodH .ge (E_n1 nv) (E_bin .pow E_int E_int)) (B_cons hW (S_exp (E_mth .append (E_ix G.toGoodH (E_n1 nv) E_int) (A_cons (E_bin .fdiv (E_n1 nv) (E_n1 nv)) A_nil)))
 (B_cons hW (S_ret (E_bi G .int T.z_int (A_cons (E_bin .mod (E_n1 nv) (E_n1 nv)) A_nil)))
 B_nil)) B_nil)
 (B_cons hW (S_asg (own:=[2]) (E_bin .add (E_n1 nv) (E_bin .mod (E_bi G .int T.z_int (A_cons (E_n1 nv) A_nil)) E_int)) (G_name G.toGoodH))
 B_nil))) B_nil)
 (B_cons hW (S_asg (own:=[2]) (E_bin .mod (E_bi G .int T.z_int (A_cons (E_bin .add (E_bin .mul (E_n1 nv) E_int) E_int) A_nil)) E_int) (G_name G.toGoodH))
 (B_cons hW (S_asg (own:=[2]) (E_bin .mod (E_bi G .int T.z_int (A_cons (E_bin .add (E_bin .add (E_bin .mul (E_n1 nv) (E_n1 nv)) (E_bin .mul E_int (E_ix G.toGoodH (E_n1 nv) E_int))) E_int) A_nil)) E_int) (G_name G.toGoodH))
 (B_cons hW (S_ret (E_bin .mod (E_bin .fdiv (E_bin .mod (E_bin .mul (E_n1 nv) E_int) E_int) E_int) (E_n1 nv)))
 B_nil))))))
omit S T hdg in
theorem sc_l_pick:FnScope n_l_pick ["_law_deck_here","_law_some"] (defScope s_l_pick):=fsc
theorem w_l_pick:WkP P w K mg base k (run prog k) n_l_pick "_law_pick" (defScope s_l_pick) (defBody s_l_pick) f_l_pick.body:=wk_of sc_l_pick (by decide +kernel) hdg fun G hp nv hW tk hr =>
 (B_cons hW (S_ret (E_ix G.toGoodH (E_n1 nv) (E_call G.toGoodH tk S.c8 hr S.b8_0 (A_cons (E_n1 nv) (A_cons (E_bi G .len T.z_len (A_cons (E_n1 nv) A_nil)) A_nil)) K_nil)))
 B_nil)
omit S T hdg in
theorem sc_l_size:FnScope n_l_size ["_law_many","_law_long_here"] (defScope s_l_size):=fsc
theorem w_l_size:WkP P w K mg base k (run prog k) n_l_size "_law_size" (defScope s_l_size) (defBody s_l_size) f_l_size.body:=wk_of sc_l_size (by decide +kernel) hdg fun G hp nv hW tk hr =>
 (B_cons hW (S_asg (own:=[2]) E_int (G_name G.toGoodH))
 (B_cons hW (S_for (own:=[3]) G hW hp (I_rng1 T.z_range (E_n1 nv)) (G_name G.toGoodH) (B_cons hW (S_asg (own:=[2]) (E_bin .mul (E_n1 nv) (E_n1 nv)) (G_name G.toGoodH))
 B_nil))
 (B_cons hW (S_ret (E_n1 nv))
 B_nil)))
omit S T hdg in
theorem sc_l_exchange:FnScope n_l_exchange ["_law_deck_here","_law_size_here","_law_rests"] (defScope s_l_exchange):=fsc
theorem w_l_exchange:WkP P w K mg base k (run prog k) n_l_exchange "_law_exchange" (defScope s_l_exchange) (defBody s_l_exchange) f_l_exchange.body:=wk_of sc_l_exchange (by decide +kernel) hdg fun G hp nv hW tk hr =>
 (B_cons hW (S_asg (own:=[3]) (E_rgl1 G false T.z_list T.z_range (E_n1 nv)) (G_name G.toGoodH))
 (B_cons hW (S_for (own:=[4]) G hW hp (I_rng1 T.z_range (E_call G.toGoodH tk S.c9 hr S.b9_0 (A_cons (E_n1 nv) (A_cons (E_lst (A_cons E_int (A_cons E_int (A_cons E_int (A_cons E_int A_nil))))) A_nil)) K_nil)) (G_name G.toGoodH) (B_cons hW (S_par G rfl rfl (by decide) rfl rfl (A_cons (E_bin .add (E_n1 nv) (E_call G.toGoodH tk S.c8 hr S.b8_0 (A_cons (E_n1 nv) (A_cons (E_bin .sub (E_n1 nv) (E_n1 nv)) A_nil)) K_nil)) (A_cons (E_bin .add (E_n1 nv) (E_call G.toGoodH tk S.c8 hr S.b8_0 (A_cons (E_n1 nv) (A_cons (E_bin .sub (E_n1 nv) (E_n1 nv)) A_nil)) K_nil)) A_nil)))
 (B_cons hW (S_asg (own:=[]) (E_tup (A_cons (E_ix G.toGoodH (E_n1 nv) (E_n1 nv)) (A_cons (E_ix G.toGoodH (E_n1 nv) (E_n1 nv)) A_nil))) (G_tup G (Gs_cons hW (G_sub G.toGoodH (E_n1 nv) (E_n1 nv)) (Gs_cons hW (G_sub G.toGoodH (E_n1 nv) (E_n1 nv)) Gs_nil))))
 B_nil)))
 (B_cons hW (S_ret (E_bi G .tuple T.z_tuple (A_cons (E_n1 nv) A_nil)))
 B_nil)))
omit S T hdg in
theorem sc_l_long:FnScope n_l_long ["_law_deck_here","_law_many","_law_most"] (defScope s_l_long):=fsc
theorem w_l_long:WkP P w K mg base k (run prog k) n_l_long "_law_long" (defScope s_l_long) (defBody s_l_long) f_l_long.body:=wk_of sc_l_long (by decide +kernel) hdg fun G hp nv hW tk hr =>
 (B_cons hW (S_asg (own:=[3]) E_int (G_name G.toGoodH))
 (B_cons hW (S_whl G.toGoodH hW hp (T_w (W_and (T_cmp G.toGoodH .le (E_call G.toGoodH tk S.c10 hr S.b10_0 (A_cons (E_n1 nv) (A_cons (E_bin .add (E_n1 nv) E_int) A_nil)) K_nil) (E_n1 nv)) (W_and1 (T_cmp G.toGoodH .gt (E_call G.toGoodH tk S.c8 hr S.b8_0 (A_cons (E_n1 nv) (A_cons E_int A_nil)) K_nil) E_int)))) (B_cons hW (S_asg (own:=[3]) (E_bin .add (E_n1 nv) E_int) (G_name G.toGoodH))
 B_nil))
 (B_cons hW (S_ret (E_n1 nv))
 B_nil)))
omit S T hdg in
theorem sc_l_tour:FnScope n_l_tour ["_law_deck_here","_law_many","_law_most"] (defScope s_l_tour):=fsc
theorem w_l_tour:WkP P w K mg base k (run prog k) n_l_tour "_law_tour" (defScope s_l_tour) (defBody s_l_tour) f_l_tour.body:=wk_of sc_l_tour (by decide +kernel) hdg fun G hp nv hW tk hr =>
 (B_cons hW (S_par G rfl rfl (by decide) rfl rfl (A_cons (E_call G.toGoodH tk S.c9 hr S.b9_0 (A_cons (E_n1 nv) (A_cons (E_lst (A_cons E_str (A_cons E_str (A_cons E_str (A_cons E_str (A_cons E_str (A_cons E_str A_nil))))))) A_nil)) K_nil) (A_cons (E_call G.toGoodH tk S.c12 hr S.b12_0 (A_cons (E_n1 nv) (A_cons (E_n1 nv) (A_cons (E_n1 nv) A_nil))) K_nil) A_nil)))
 (B_cons hW (S_asg (own:=[5]) (E_call G.toGoodH tk S.c10 hr S.b10_0 (A_cons (E_n1 nv) (A_cons (E_n1 nv) A_nil)) K_nil) (G_name G.toGoodH))
 (B_cons hW (S_ifs (T_cmp G.toGoodH .eq (E_n1 nv) E_str) (B_cons hW (S_ret (E_tup (A_cons E_str A_nil)))
 B_nil) B_nil)
 (B_cons hW (S_ifs (T_cmp G.toGoodH .eq (E_n1 nv) E_str) (B_cons hW (S_ret (E_tup (A_cons E_str (A_cons (E_n1 nv) (A_cons (E_call G.toGoodH tk S.c8 hr S.b8_0 (A_cons (E_n1 nv) (A_cons (E_n1 nv) A_nil)) K_nil) (A_cons (E_call G.toGoodH tk S.c11 hr S.b11_0 (A_cons (E_n1 nv) (A_cons (E_n1 nv) (A_cons E_int A_nil))) K_nil) A_nil))))))
 B_nil) B_nil)
 (B_cons hW (S_par G rfl rfl (by decide) rfl rfl (A_cons (E_call G.toGoodH tk S.c11 hr S.b11_0 (A_cons (E_n1 nv) (A_cons (E_n1 nv) (A_cons E_int A_nil))) K_nil) (A_cons (E_call G.toGoodH tk S.c11 hr S.b11_0 (A_cons (E_n1 nv) (A_cons (E_n1 nv) (A_cons E_int A_nil))) K_nil) A_nil)))
 (B_cons hW (S_ret (E_tup (A_cons E_str (A_cons (E_n1 nv) (A_cons (E_call G.toGoodH tk S.c8 hr S.b8_0 (A_cons (E_n1 nv) (A_cons (E_n1 nv) A_nil)) K_nil) (A_cons (E_call G.toGoodH tk S.c8 hr S.b8_0 (A_cons (E_n1 nv) (A_cons (E_bin .add (E_n1 nv) E_int) A_nil)) K_nil) (A_cons (E_n1 nv) (A_cons (E_n1 nv) A_nil))))))))
 B_nil))))))
omit S T hdg in
theorem sc_l_is_count:FnScope n_l_is_count ["_law_it","_law_low","_law_high"] (defScope s_l_is_count):=fsc
theorem w_l_is_count:WkP P w K mg base k (run prog k) n_l_is_count "_law_is_count" (defScope s_l_is_count) (defBody s_l_is_count) f_l_is_count.body:=wk_of sc_l_is_count (by decide +kernel) hdg fun G hp nv hW tk hr =>
 (B_cons hW (S_ret (E_and (E_isi .int T.z_isinstance T.z_int (E_n1 nv)) (E_and (E_not (E_isi .bool T.z_isinstance T.z_bool (E_n1 nv))) (E_one (E_cmp2 G.toGoodH .le .le (E_n1 nv) (E_n1 nv) (E_n1 nv))))))
 B_nil)
omit S T hdg in
theorem sc_l_is_table:FnScope n_l_is_table ["_law_it","_law_size_here"] (defScope s_l_is_table):=fsc
theorem w_l_is_table:WkP P w K mg base k (run prog k) n_l_is_table "_law_is_table" (defScope s_l_is_table) (defBody s_l_is_table) f_l_is_table.body:=wk_of sc_l_is_table (by decide +kernel) hdg fun G hp nv hW tk hr =>
 (B_cons hW (S_ifs (T_w (W_or (T_not (T_val (E_isi .tuple T.z_isinstance T.z_tuple (E_n1 nv)))) (W_or1 (T_cmp G.toGoodH .ne (E_bi G .len T.z_len (A_cons (E_n1 nv) A_nil)) (E_n2 nv))))) (B_cons hW (S_ret E_bl)
 B_nil) B_nil)
 (B_cons hW (S_ret (E_and (E_cmp G.toGoodH .eq (E_comp (ow:=[("_law_one",2)]) G (I_val (E_n1 nv)) (blkOk_by (by show blkC n_l_is_table (defScope s_l_is_table) _ _ = true; decide +kernel)) (fun _ _ _ _ _=>(G_name (GoodH.blk G.toGoodH))) (fun _ _ _ _ _=>(C_one (T_not (T_val (E_call (GoodH.blk G.toGoodH) takes0 S.c14 hr S.b14_0 (A_cons (E_n1 nv) (A_cons E_int (A_cons (E_bin .sub (E_n2 nv) E_int) A_nil))) K_nil))))) (fun _ _ _ _ _=>(E_n1 nv))) (E_lst A_nil)) (E_one (E_cmp G.toGoodH .eq (E_lset G T.z_len T.z_set (E_n1 nv)) (E_n2 nv)))))
 B_nil))
omit S T hdg in
theorem sc_l_is_tour:FnScope n_l_is_tour ["_law_many","_law_it"] (defScope s_l_is_tour):=fsc
theorem w_l_is_tour:WkP P w K mg base k (run prog k) n_l_is_tour "_law_is_tour" (defScope s_l_is_tour) (defBody s_l_is_tour) f_l_is_tour.body:=wk_of sc_l_is_tour (by decide +kernel) hdg fun G hp nv hW tk hr =>
 (B_cons hW (S_ifs (T_w (W_or (T_not (T_val (E_isi .tuple T.z_isinstance T.z_tuple (E_n1 nv)))) (W_or (T_cmp G.toGoodH .nin (E_bi G .len T.z_len (A_cons (E_n1 nv) A_nil)) (E_tup (A_cons E_int (A_cons E_int (A_cons E_int A_nil))))) (W_or1 (T_not (T_val (E_isi .str T.z_isinstance T.z_str (E_ix G.toGoodH (E_n1 nv) E_int)))))))) (B_cons hW (S_ret E_bl)
 B_nil) B_nil)
 (B_cons hW (S_ifs (T_w (W_or (T_cmp G.toGoodH .eq (E_ix G.toGoodH (E_n1 nv) E_int) E_str) (W_or1 (T_cmp G.toGoodH .eq (E_bi G .len T.z_len (A_cons (E_n1 nv) A_nil)) E_int)))) (B_cons hW (S_ret (E_eqt G.toGoodH (E_n1 nv) (E_tup (A_cons E_str A_nil))))
 B_nil) B_nil)
 (B_cons hW (S_ifs (T_w (W_or (T_cmp G.toGoodH .ne (E_ix G.toGoodH (E_n1 nv) E_int) (E_ix G.toGoodH (E_dct (P_int E_str (P_int E_str P_nil))) (E_bi G .len T.z_len (A_cons (E_n1 nv) A_nil)))) (W_or1 (T_not (T_val (E_call G.toGoodH tk S.c14 hr S.b14_0 (A_cons (E_ix G.toGoodH (E_n1 nv) E_int) (A_cons E_int (A_cons E_int A_nil))) K_nil)))))) (B_cons hW (S_ret E_bl)
 B_nil) B_nil)
 (B_cons hW (S_asg (own:=[2,3]) (E_tup (A_cons (E_ix G.toGoodH (E_n1 nv) E_int) (A_cons (E_call G.toGoodH tk S.c10 hr S.b10_0 (A_cons (E_n1 nv) (A_cons (E_ix G.toGoodH (E_n1 nv) E_int) A_nil)) K_nil) A_nil))) (G_tup G (Gs_cons hW (G_name G.toGoodH) (Gs_cons hW (G_name G.toGoodH) Gs_nil))))
 (B_cons hW (S_ifs (T_w (W_or (T_cmp G.toGoodH .gt (E_n2 nv) E_int) (W_or1 (T_not (T_val (E_call G.toGoodH tk S.c14 hr S.b14_0 (A_cons (E_ix G.toGoodH (E_n1 nv) E_int) (A_cons E_int (A_cons (E_bin .sub (E_n1 nv) E_int) A_nil))) K_nil)))))) (B_cons hW (S_ret E_bl)
 B_nil) B_nil)
 (B_cons hW (S_ifs (T_w (W_and (T_cmp G.toGoodH .eq (E_bi G .len T.z_len (A_cons (E_n1 nv) A_nil)) E_int) (W_and1 (T_not (T_val (E_call G.toGoodH tk S.c14 hr S.b14_0 (A_cons (E_ix G.toGoodH (E_n1 nv) E_int) (A_cons E_int (A_cons (E_n1 nv) A_nil))) K_nil)))))) (B_cons hW (S_ret E_bl)
 B_nil) B_nil)
 (B_cons hW (S_ret (E_cmp G.toGoodH .eq (E_comp (ow:=[("_law_lot",4)]) G (I_val (E_slc (E_n1 nv) (O_some (E_bin .add (E_bin .sub (E_bi G .len T.z_len (A_cons (E_n1 nv) A_nil)) (E_bin .fdiv (E_bi G .len T.z_len (A_cons (E_n1 nv) A_nil)) E_int)) E_int)) O_none)) (blkOk_by (by show blkC n_l_is_tour (defScope s_l_is_tour) _ _ = true; decide +kernel)) (fun _ _ _ _ _=>(G_name (GoodH.blk G.toGoodH))) (fun _ _ _ _ _=>(C_one (T_not (T_val (E_call (GoodH.blk G.toGoodH) takes0 S.c15 hr S.b15_0 (A_cons (E_n1 nv) (A_cons (E_n2 nv) A_nil)) K_nil))))) (fun _ _ _ _ _=>(E_n1 nv))) (E_lst A_nil)))
 B_nil)))))))
omit S T hdg in
theorem sc_l_odd:FnScope n_l_odd ["_law_deck_here"] (defScope s_l_odd):=fsc
theorem w_l_odd:WkP P w K mg base k (run prog k) n_l_odd "_law_odd" (defScope s_l_odd) (defBody s_l_odd) f_l_odd.body:=wk_of sc_l_odd (by decide +kernel) hdg fun G hp nv hW tk hr =>
 (B_cons hW (S_asg (own:=[1]) (E_lst (A_cons E_non (A_cons E_bl (A_cons E_bl (A_cons (E_neg E_int) (A_cons E_int (A_cons E_int (A_cons E_int (A_cons E_int (A_cons E_str (A_cons E_str (A_cons E_str (A_cons E_str (A_cons (E_tup A_nil) (A_cons (E_lst A_nil) (A_cons E_dct0 (A_cons (E_tup (A_cons E_int (A_cons E_int A_nil))) (A_cons (E_bin .pow E_int E_int) A_nil)))))))))))))))))) (G_name G.toGoodH))
 (B_cons hW (S_ret (E_call G.toGoodH tk S.c9 hr S.b9_0 (A_cons (E_n1 nv) (A_cons (E_n1 nv) A_nil)) K_nil))
 B_nil))
omit S T hdg in
theorem sc_l_bent_table:FnScope n_l_bent_table ["_law_deck_here","_law_lot"] (defScope s_l_bent_table):=fsc
theorem w_l_bent_table:WkP P w K mg base k (run prog k) n_l_bent_table "_law_bent_table" (defScope s_l_bent_table) (defBody s_l_bent_table) f_l_bent_table.body:=wk_of sc_l_bent_table (by decide +kernel) hdg fun G hp nv hW tk hr =>
 (B_cons hW (S_par G rfl rfl (by decide) rfl rfl (A_cons (E_call G.toGoodH tk S.c8 hr S.b8_0 (A_cons (E_n1 nv) (A_cons E_int A_nil)) K_nil) (A_cons (E_call G.toGoodH tk S.c8 hr S.b8_0 (A_cons (E_n1 nv) (A_cons (E_bi G .len T.z_len (A_cons (E_n1 nv) A_nil)) A_nil)) K_nil) A_nil)))
 (B_cons hW (S_ifs (T_cmp G.toGoodH .eq (E_n1 nv) E_int) (B_cons hW (S_ret (E_bin .add (E_slc (E_n1 nv) O_none (O_some (E_n1 nv))) (E_slc (E_n1 nv) (O_some (E_bin .add (E_n1 nv) E_int)) O_none)))
 B_nil) B_nil)
 (B_cons hW (S_ifs (T_cmp G.toGoodH .eq (E_n1 nv) E_int) (B_cons hW (S_ret (E_bi G .list T.z_list (A_cons (E_n1 nv) A_nil)))
 B_nil) B_nil)
 (B_cons hW (S_ifs (T_cmp G.toGoodH .eq (E_n1 nv) E_int) (B_cons hW (S_ret (E_bin .add (E_n1 nv) (E_tup (A_cons (E_bi G .len T.z_len (A_cons (E_n1 nv) A_nil)) A_nil))))
 B_nil) B_nil)
 (B_cons hW (S_asg (own:=[4]) (E_lst (A_cons (E_ix G.toGoodH (E_n1 nv) E_int) (A_cons (E_ix G.toGoodH (E_n1 nv) (E_neg E_int)) (A_cons (E_bi G .len T.z_len (A_cons (E_n1 nv) A_nil)) (A_cons (E_neg E_int) (A_cons E_bl (A_cons E_non (A_cons E_int A_nil)))))))) (G_name G.toGoodH))
 (B_cons hW (S_ret (E_bin .add (E_bin .add (E_slc (E_n1 nv) O_none (O_some (E_n1 nv))) (E_tup (A_cons (E_call G.toGoodH tk S.c9 hr S.b9_0 (A_cons (E_n1 nv) (A_cons (E_n1 nv) A_nil)) K_nil) A_nil))) (E_slc (E_n1 nv) (O_some (E_bin .add (E_n1 nv) E_int)) O_none)))
 B_nil))))))
omit S T hdg in
theorem sc_l_bent:FnScope n_l_bent ["_law_deck_here","_law_it"] (defScope s_l_bent):=fsc
theorem w_l_bent:WkP P w K mg base k (run prog k) n_l_bent "_law_bent" (defScope s_l_bent) (defBody s_l_bent) f_l_bent.body:=wk_of sc_l_bent (by decide +kernel) hdg fun G hp nv hW tk hr =>
 (B_cons hW (S_ifs (T_w (W_or (T_not (T_val (E_isi .tuple T.z_isinstance T.z_tuple (E_n1 nv)))) (W_or1 (T_cmp G.toGoodH .eq (E_n1 nv) (E_tup A_nil))))) (B_cons hW (S_ret (E_call G.toGoodH tk S.c17 hr S.b17_0 (A_cons (E_n1 nv) A_nil) K_nil))
 B_nil) B_nil)
 (B_cons hW (S_par G rfl rfl (by decide) rfl rfl (A_cons (E_call G.toGoodH tk S.c8 hr S.b8_0 (A_cons (E_n1 nv) (A_cons E_int A_nil)) K_nil) (A_cons (E_call G.toGoodH tk S.c8 hr S.b8_0 (A_cons (E_n1 nv) (A_cons (E_bi G .len T.z_len (A_cons (E_n1 nv) A_nil)) A_nil)) K_nil) A_nil)))
 (B_cons hW (S_ifs (T_cmp G.toGoodH .eq (E_n1 nv) E_int) (B_cons hW (S_ret (E_bin .add (E_slc (E_n1 nv) O_none (O_some (E_n1 nv))) (E_slc (E_n1 nv) (O_some (E_bin .add (E_n1 nv) E_int)) O_none)))
 B_nil) B_nil)
 (B_cons hW (S_ifs (T_cmp G.toGoodH .eq (E_n1 nv) E_int) (B_cons hW (S_ret (E_bin .add (E_bin .add (E_slc (E_n1 nv) O_none (O_some (E_n1 nv))) (E_tup (A_cons (E_call G.toGoodH tk S.c17 hr S.b17_0 (A_cons (E_n1 nv) A_nil) K_nil) A_nil))) (E_slc (E_n1 nv) (O_some (E_n1 nv)) O_none)))
 B_nil) B_nil)
 (B_cons hW (S_ifs (T_cmp G.toGoodH .eq (E_n1 nv) E_int) (B_cons hW (S_ret (E_call G.toGoodH tk S.c9 hr S.b9_0 (A_cons (E_n1 nv) (A_cons (E_lst (A_cons (E_bi G .list T.z_list (A_cons (E_n1 nv) A_nil)) (A_cons (E_rev (E_n1 nv)) (A_cons (E_tup (A_cons (E_n1 nv) A_nil)) (A_cons (E_ix G.toGoodH (E_n1 nv) E_int) (A_cons (E_bin .add (E_n1 nv) (E_n1 nv)) A_nil)))))) A_nil)) K_nil))
 B_nil) B_nil)
 (B_cons hW (S_ifs (T_w (W_or (T_cmp G.toGoodH .eq (E_n1 nv) E_int) (W_or1 (T_cmp G.toGoodH .lt (E_bi G .len T.z_len (A_cons (E_n1 nv) A_nil)) E_int)))) (B_cons hW (S_ret (E_bin .add (E_bin .add (E_slc (E_n1 nv) O_none (O_some (E_n1 nv))) (E_tup (A_cons (E_call G.toGoodH tk S.c17 hr S.b17_0 (A_cons (E_n1 nv) A_nil) K_nil) A_nil))) (E_slc (E_n1 nv) (O_some (E_bin .add (E_n1 nv) E_int)) O_none)))
 B_nil) B_nil)
 (B_cons hW (S_ifs (T_w (W_and (T_cmp G.toGoodH .lt (E_n1 nv) E_int) (W_and (T_val (E_isi .tuple T.z_isinstance T.z_tuple (E_ix G.toGoodH (E_n1 nv) (E_neg E_int)))) (W_and1 (T_cmp G.toGoodH .ne (E_ix G.toGoodH (E_n1 nv) (E_neg E_int)) (E_tup A_nil)))))) (B_cons hW (S_ret (E_bin .add (E_slc (E_n1 nv) O_none (O_some (E_neg E_int))) (E_tup (A_cons (E_call G.toGoodH tk S.c18 hr S.b18_0 (A_cons (E_n1 nv) (A_cons (E_ix G.toGoodH (E_n1 nv) (E_neg E_int)) A_nil)) K_nil) A_nil))))
 B_nil) B_nil)
 (B_cons hW (S_asg (own:=[4]) (E_bin .add E_int (E_call G.toGoodH tk S.c8 hr S.b8_0 (A_cons (E_n1 nv) (A_cons (E_bin .sub (E_bi G .len T.z_len (A_cons (E_n1 nv) A_nil)) E_int) A_nil)) K_nil)) (G_name G.toGoodH))
 (B_cons hW (S_asg (own:=[5]) (E_bin .add (E_lst (A_cons (E_ix G.toGoodH (E_n1 nv) E_int) (A_cons (E_ix G.toGoodH (E_n1 nv) E_int) (A_cons (E_neg E_int) (A_cons E_int (A_cons E_int A_nil)))))) (E_comp (ow:=[("_law_one",6)]) G (I_val (E_slc (E_n1 nv) (O_some E_int) (O_some E_int))) (blkOk_by (by show blkC n_l_bent (defScope s_l_bent) _ _ = true; decide +kernel)) (fun _ _ _ _ _=>(G_name (GoodH.blk G.toGoodH))) (fun _ _ _ _ _=>(C_one (T_val (E_call (GoodH.blk G.toGoodH) takes0 S.c14 hr S.b14_0 (A_cons (E_n1 nv) (A_cons (E_neg E_int) (A_cons E_int A_nil))) K_nil)))) (fun _ _ _ _ _=>(E_bin .add (E_n1 nv) E_int)))) (G_name G.toGoodH))
 (B_cons hW (S_ret (E_bin .add (E_bin .add (E_slc (E_n1 nv) O_none (O_some (E_n1 nv))) (E_tup (A_cons (E_call G.toGoodH tk S.c9 hr S.b9_0 (A_cons (E_n1 nv) (A_cons (E_n1 nv) A_nil)) K_nil) A_nil))) (E_slc (E_n1 nv) (O_some (E_bin .add (E_n1 nv) E_int)) O_none)))
 B_nil))))))))))
omit S T hdg in
theorem sc_l_told_right:FnScope n_l_told_right ["_law_many","_law_it"] (defScope s_l_told_right):=fsc
theorem w_l_told_right:WkP P w K mg base k (run prog k) n_l_told_right "_law_told_right" (defScope s_l_told_right) (defBody s_l_told_right) f_l_told_right.body:=wk_of sc_l_told_right (by decide +kernel) hdg fun G hp nv hW tk hr =>
 (B_cons hW (S_par G rfl rfl (by decide) rfl rfl (A_cons (E_bi G .repr T.z_repr (A_cons (E_n1 nv) A_nil)) (A_cons (E_call G.toGoodH tk S.c16 hr S.b16_0 (A_cons (E_n1 nv) (A_cons (E_n1 nv) A_nil)) K_nil) A_nil)))
 (B_cons hW (S_asg (own:=[4]) (E_lst (A_cons (E_call G.toGoodH tk S.c6 hr S.b6_0 (A_cons (E_n1 nv) (A_cons (E_n1 nv) A_nil)) K_nil) (A_cons (E_callK G.toGoodH tk S.c6 hr S.b6_1 (K_cons (E_n1 nv) (K_cons (E_n1 nv) K_nil))) A_nil))) (G_name G.toGoodH))
 (B_cons hW (S_ret (E_and (E_cmp G.toGoodH .eq (E_bi G .repr T.z_repr (A_cons (E_n1 nv) A_nil)) (E_bi G .repr T.z_repr (A_cons (E_lst (A_cons (E_n1 nv) (A_cons (E_n1 nv) A_nil))) A_nil))) (E_one (E_cmp G.toGoodH .eq (E_bi G .repr T.z_repr (A_cons (E_n1 nv) A_nil)) (E_n1 nv)))))
 B_nil)))
omit S T hdg in
theorem sc_l_great_right:FnScope n_l_great_right ["_law_deck_here"] (defScope s_l_great_right):=fsc
theorem w_l_great_right:WkP P w K mg base k (run prog k) n_l_great_right "_law_great_right" (defScope s_l_great_right) (defBody s_l_great_right) f_l_great_right.body:=wk_of sc_l_great_right (by decide +kernel) hdg fun G hp nv hW tk hr =>
 (B_cons hW (S_par G rfl rfl (by decide) rfl rfl (A_cons (E_call G.toGoodH tk S.c9 hr S.b9_0 (A_cons (E_n1 nv) (A_cons (E_lst (A_cons E_int (A_cons E_int (A_cons E_int (A_cons E_int A_nil))))) A_nil)) K_nil) (A_cons E_int A_nil)))
 (B_cons hW (S_whl G.toGoodH hW hp (T_cmp G.toGoodH .le (E_call G.toGoodH tk S.c10 hr S.b10_0 (A_cons (E_n1 nv) (A_cons (E_bin .add (E_n1 nv) E_int) A_nil)) K_nil) E_int) (B_cons hW (S_asg (own:=[2]) (E_bin .add (E_n1 nv) E_int) (G_name G.toGoodH))
 B_nil))
 (B_cons hW (S_for (own:=[3]) G hW hp (I_val (E_tup (A_cons (E_n1 nv) (A_cons (E_bin .add (E_n1 nv) E_int) A_nil)))) (G_name G.toGoodH) (B_cons hW (S_asg (own:=[4]) (E_rgl1 G true T.z_tuple T.z_range (E_call G.toGoodH tk S.c10 hr S.b10_0 (A_cons (E_n1 nv) (A_cons (E_n1 nv) A_nil)) K_nil)) (G_name G.toGoodH))
 (B_cons hW (S_for (own:=[5]) G hW hp (I_val (E_lst (A_cons (E_tup (A_cons E_str (A_cons (E_n1 nv) (A_cons (E_bin .sub (E_n1 nv) E_int) (A_cons (E_n1 nv) A_nil))))) (A_cons (E_tup (A_cons E_str (A_cons (E_n1 nv) (A_cons E_int (A_cons (E_n1 nv) (A_cons (E_n1 nv) (A_cons (E_rev (E_n1 nv)) A_nil))))))) A_nil)))) (G_name G.toGoodH) (B_cons hW (S_asg (own:=[6]) (E_call G.toGoodH tk S.c6 hr S.b6_0 (A_cons (E_n1 nv) (A_cons (E_n1 nv) A_nil)) K_nil) (G_name G.toGoodH))
 (B_cons hW (S_ifs (T_cmp G.toGoodH .ne (E_bi G .repr T.z_repr (A_cons (E_n1 nv) A_nil)) (E_bi G .repr T.z_repr (A_cons (E_cmp G.toGoodH .eq (E_n1 nv) (E_n1 nv)) A_nil))) (B_cons hW (S_ret E_bl)
 B_nil) B_nil)
 B_nil)))
 B_nil)))
 (B_cons hW (S_ret E_bl)
 B_nil))))
omit S T hdg in
theorem sc_law:FnScope n_law ["_law_script"] (defScope s_law):=fsc
theorem w_law:WkP P w K mg base k (run prog k) n_law "law" (defScope s_law) (defBody s_law) f_law.body:=wk_of sc_law (by decide +kernel) hdg fun G hp nv hW tk hr =>
 (B_cons hW (S_asg (own:=[1]) (E_call G.toGoodH tk S.c7 hr S.b7_0 (A_cons (E_n1 nv) A_nil) K_nil) (G_name G.toGoodH))
 (B_cons hW (S_for (own:=[2]) G hW hp (I_rng1 T.z_range E_int) (G_name G.toGoodH) (B_cons hW (S_asg (own:=[3]) (E_call G.toGoodH tk S.c9 hr S.b9_0 (A_cons (E_n1 nv) (A_cons (E_lst (A_cons E_int (A_cons E_int (A_cons E_int (A_cons E_int (A_cons E_int (A_cons E_int A_nil))))))) A_nil)) K_nil) (G_name G.toGoodH))
 (B_cons hW (S_asg (own:=[4]) (E_call G.toGoodH tk S.c13 hr S.b13_0 (A_cons (E_n1 nv) (A_cons (E_n1 nv) (A_cons E_int A_nil))) K_nil) (G_name G.toGoodH))
 (B_cons hW (S_ifs (T_not (T_val (E_call G.toGoodH tk S.c20 hr S.b20_0 (A_cons (E_n1 nv) (A_cons (E_n1 nv) A_nil)) K_nil))) (B_cons hW (S_ret E_bl)
 B_nil) B_nil)
 (B_cons hW (S_for (own:=[5]) G hW hp (I_rng1 T.z_range E_int) (G_name G.toGoodH) (B_cons hW (S_asg (own:=[4]) (E_call G.toGoodH tk S.c19 hr S.b19_0 (A_cons (E_n1 nv) (A_cons (E_n1 nv) A_nil)) K_nil) (G_name G.toGoodH))
 (B_cons hW (S_ifs (T_not (T_val (E_call G.toGoodH tk S.c20 hr S.b20_0 (A_cons (E_n1 nv) (A_cons (E_n1 nv) A_nil)) K_nil))) (B_cons hW (S_ret E_bl)
 B_nil) B_nil)
 B_nil)))
 (B_cons hW (S_ifs (T_not (T_val (E_call G.toGoodH tk S.c20 hr S.b20_0 (A_cons (E_n1 nv) (A_cons (E_call G.toGoodH tk S.c17 hr S.b17_0 (A_cons (E_n1 nv) A_nil) K_nil) A_nil)) K_nil))) (B_cons hW (S_ret E_bl)
 B_nil) B_nil)
 B_nil))))))
 (B_cons hW (S_ret (E_call G.toGoodH tk S.c21 hr S.b21_0 (A_cons (E_n1 nv) A_nil) K_nil))
 B_nil)))
end
theorem bo0_0 {K:PySem.W.Frag} (kV doc pm cdv ct:Value) (an:Option Addr):BindOk K (PySem.W.fnOf "is_integer" "is_integer" (defArgs s_is_integer) (defBody s_is_integer) (defScope s_is_integer) .none kV doc pm an cdv ct) ["thing"] 1 [] [0]:=fun s us ws zs _ e1 e2 e3=>match us,ws,e1,e2,e3 with | [_],[],_,_,e=>by cases e; exact ⟨.of_eq rfl,rfl⟩
theorem bo1_0 {K:PySem.W.Frag} (kV doc pm cdv ct:Value) (an:Option Addr):BindOk K (PySem.W.fnOf "is_between" "is_between" (defArgs s_is_between) (defBody s_is_between) (defScope s_is_between) .none kV doc pm an cdv ct) ["thing","least","greatest"] 3 [] [0,1,2]:=fun s us ws zs _ e1 e2 e3=>match us,ws,e1,e2,e3 with | [_,_,_],[],_,_,e=>by cases e; exact ⟨.of_eq rfl,rfl⟩
theorem bo2_0 {K:PySem.W.Frag} (kV doc pm cdv ct:Value) (an:Option Addr):BindOk K (PySem.W.fnOf "power" "power" (defArgs s_power) (defBody s_power) (defScope s_power) .none kV doc pm an cdv ct) ["base","exponent"] 2 [] [0,1]:=fun s us ws zs _ e1 e2 e3=>match us,ws,e1,e2,e3 with | [_,_],[],_,_,e=>by cases e; exact ⟨.of_eq rfl,rfl⟩
theorem bo3_0 {K:PySem.W.Frag} (kV doc pm cdv ct:Value) (an:Option Addr):BindOk K (PySem.W.fnOf "is_too_many" "is_too_many" (defArgs s_is_too_many) (defBody s_is_too_many) (defScope s_is_too_many) .none kV doc pm an cdv ct) ["signs","cells"] 2 [] [0,1]:=fun s us ws zs _ e1 e2 e3=>match us,ws,e1,e2,e3 with | [_,_],[],_,_,e=>by cases e; exact ⟨.of_eq rfl,rfl⟩
theorem bo4_0 {K:PySem.W.Frag} (kV doc pm cdv ct:Value) (an:Option Addr):BindOk K (PySem.W.fnOf "is_exchange" "is_exchange" (defArgs s_is_exchange) (defBody s_is_exchange) (defScope s_is_exchange) .none kV doc pm an cdv ct) ["thing","many"] 2 [] [0,1]:=fun s us ws zs _ e1 e2 e3=>match us,ws,e1,e2,e3 with | [_,_],[],_,_,e=>by cases e; exact ⟨.of_eq rfl,rfl⟩
theorem bo5_0 {K:PySem.W.Frag} (kV doc pm cdv ct:Value) (an:Option Addr):BindOk K (PySem.W.fnOf "are_stretches" "are_stretches" (defArgs s_are_stretches) (defBody s_are_stretches) (defScope s_are_stretches) .none kV doc pm an cdv ct) ["signs","length","offset"] 3 [] [0,1,2]:=fun s us ws zs _ e1 e2 e3=>match us,ws,e1,e2,e3 with | [_,_,_],[],_,_,e=>by cases e; exact ⟨.of_eq rfl,rfl⟩
theorem bo6_0 {K:PySem.W.Frag} (kV doc pm cdv ct:Value) (an:Option Addr):BindOk K (PySem.W.fnOf "is_plan" "is_plan" (defArgs s_is_plan) (defBody s_is_plan) (defScope s_is_plan) .none kV doc pm an cdv ct) ["signs","thing"] 2 [] [0,1]:=fun s us ws zs _ e1 e2 e3=>match us,ws,e1,e2,e3 with | [_,_],[],_,_,e=>by cases e; exact ⟨.of_eq rfl,rfl⟩
theorem bo6_1 {K:PySem.W.Frag} (kV doc pm cdv ct:Value) (an:Option Addr):BindOk K (PySem.W.fnOf "is_plan" "is_plan" (defArgs s_is_plan) (defBody s_is_plan) (defScope s_is_plan) .none kV doc pm an cdv ct) ["signs","thing"] 0 ["thing","signs"] [1,0]:=fun s us ws zs _ e1 e2 e3=>match us,ws,e1,e2,e3 with | [],[_,_],_,_,e=>by cases e; exact ⟨.of_eq rfl,rfl⟩
theorem bo7_0 {K:PySem.W.Frag} (kV doc pm cdv ct:Value) (an:Option Addr):BindOk K (PySem.W.fnOf "_law_deck" "_law_deck" (defArgs s_l_deck) (defBody s_l_deck) (defScope s_l_deck) .none kV doc pm an cdv ct) ["_law_script"] 1 [] [0]:=fun s us ws zs _ e1 e2 e3=>match us,ws,e1,e2,e3 with | [_],[],_,_,e=>by cases e; exact ⟨.of_eq rfl,rfl⟩
theorem bo8_0 {K:PySem.W.Frag} (kV doc pm cdv ct:Value) (an:Option Addr):BindOk K (PySem.W.fnOf "_law_draw" "_law_draw" (defArgs s_l_draw) (defBody s_l_draw) (defScope s_l_draw) .none kV doc pm an cdv ct) ["_law_deck_here","_law_below"] 2 [] [0,1]:=fun s us ws zs _ e1 e2 e3=>match us,ws,e1,e2,e3 with | [_,_],[],_,_,e=>by cases e; exact ⟨.of_eq rfl,rfl⟩
theorem bo9_0 {K:PySem.W.Frag} (kV doc pm cdv ct:Value) (an:Option Addr):BindOk K (PySem.W.fnOf "_law_pick" "_law_pick" (defArgs s_l_pick) (defBody s_l_pick) (defScope s_l_pick) .none kV doc pm an cdv ct) ["_law_deck_here","_law_some"] 2 [] [0,1]:=fun s us ws zs _ e1 e2 e3=>match us,ws,e1,e2,e3 with | [_,_],[],_,_,e=>by cases e; exact ⟨.of_eq rfl,rfl⟩
theorem bo10_0 {K:PySem.W.Frag} (kV doc pm cdv ct:Value) (an:Option Addr):BindOk K (PySem.W.fnOf "_law_size" "_law_size" (defArgs s_l_size) (defBody s_l_size) (defScope s_l_size) .none kV doc pm an cdv ct) ["_law_many","_law_long_here"] 2 [] [0,1]:=fun s us ws zs _ e1 e2 e3=>match us,ws,e1,e2,e3 with | [_,_],[],_,_,e=>by cases e; exact ⟨.of_eq rfl,rfl⟩
theorem bo11_0 {K:PySem.W.Frag} (kV doc pm cdv ct:Value) (an:Option Addr):BindOk K (PySem.W.fnOf "_law_exchange" "_law_exchange" (defArgs s_l_exchange) (defBody s_l_exchange) (defScope s_l_exchange) .none kV doc pm an cdv ct) ["_law_deck_here","_law_size_here","_law_rests"] 3 [] [0,1,2]:=fun s us ws zs _ e1 e2 e3=>match us,ws,e1,e2,e3 with | [_,_,_],[],_,_,e=>by cases e; exact ⟨.of_eq rfl,rfl⟩
theorem bo12_0 {K:PySem.W.Frag} (kV doc pm cdv ct:Value) (an:Option Addr):BindOk K (PySem.W.fnOf "_law_long" "_law_long" (defArgs s_l_long) (defBody s_l_long) (defScope s_l_long) .none kV doc pm an cdv ct) ["_law_deck_here","_law_many","_law_most"] 3 [] [0,1,2]:=fun s us ws zs _ e1 e2 e3=>match us,ws,e1,e2,e3 with | [_,_,_],[],_,_,e=>by cases e; exact ⟨.of_eq rfl,rfl⟩
theorem bo13_0 {K:PySem.W.Frag} (kV doc pm cdv ct:Value) (an:Option Addr):BindOk K (PySem.W.fnOf "_law_tour" "_law_tour" (defArgs s_l_tour) (defBody s_l_tour) (defScope s_l_tour) .none kV doc pm an cdv ct) ["_law_deck_here","_law_many","_law_most"] 3 [] [0,1,2]:=fun s us ws zs _ e1 e2 e3=>match us,ws,e1,e2,e3 with | [_,_,_],[],_,_,e=>by cases e; exact ⟨.of_eq rfl,rfl⟩
theorem bo14_0 {K:PySem.W.Frag} (kV doc pm cdv ct:Value) (an:Option Addr):BindOk K (PySem.W.fnOf "_law_is_count" "_law_is_count" (defArgs s_l_is_count) (defBody s_l_is_count) (defScope s_l_is_count) .none kV doc pm an cdv ct) ["_law_it","_law_low","_law_high"] 3 [] [0,1,2]:=fun s us ws zs _ e1 e2 e3=>match us,ws,e1,e2,e3 with | [_,_,_],[],_,_,e=>by cases e; exact ⟨.of_eq rfl,rfl⟩
theorem bo15_0 {K:PySem.W.Frag} (kV doc pm cdv ct:Value) (an:Option Addr):BindOk K (PySem.W.fnOf "_law_is_table" "_law_is_table" (defArgs s_l_is_table) (defBody s_l_is_table) (defScope s_l_is_table) .none kV doc pm an cdv ct) ["_law_it","_law_size_here"] 2 [] [0,1]:=fun s us ws zs _ e1 e2 e3=>match us,ws,e1,e2,e3 with | [_,_],[],_,_,e=>by cases e; exact ⟨.of_eq rfl,rfl⟩
theorem bo16_0 {K:PySem.W.Frag} (kV doc pm cdv ct:Value) (an:Option Addr):BindOk K (PySem.W.fnOf "_law_is_tour" "_law_is_tour" (defArgs s_l_is_tour) (defBody s_l_is_tour) (defScope s_l_is_tour) .none kV doc pm an cdv ct) ["_law_many","_law_it"] 2 [] [0,1]:=fun s us ws zs _ e1 e2 e3=>match us,ws,e1,e2,e3 with | [_,_],[],_,_,e=>by cases e; exact ⟨.of_eq rfl,rfl⟩
theorem bo17_0 {K:PySem.W.Frag} (kV doc pm cdv ct:Value) (an:Option Addr):BindOk K (PySem.W.fnOf "_law_odd" "_law_odd" (defArgs s_l_odd) (defBody s_l_odd) (defScope s_l_odd) .none kV doc pm an cdv ct) ["_law_deck_here"] 1 [] [0]:=fun s us ws zs _ e1 e2 e3=>match us,ws,e1,e2,e3 with | [_],[],_,_,e=>by cases e; exact ⟨.of_eq rfl,rfl⟩
theorem bo18_0 {K:PySem.W.Frag} (kV doc pm cdv ct:Value) (an:Option Addr):BindOk K (PySem.W.fnOf "_law_bent_table" "_law_bent_table" (defArgs s_l_bent_table) (defBody s_l_bent_table) (defScope s_l_bent_table) .none kV doc pm an cdv ct) ["_law_deck_here","_law_lot"] 2 [] [0,1]:=fun s us ws zs _ e1 e2 e3=>match us,ws,e1,e2,e3 with | [_,_],[],_,_,e=>by cases e; exact ⟨.of_eq rfl,rfl⟩
theorem bo19_0 {K:PySem.W.Frag} (kV doc pm cdv ct:Value) (an:Option Addr):BindOk K (PySem.W.fnOf "_law_bent" "_law_bent" (defArgs s_l_bent) (defBody s_l_bent) (defScope s_l_bent) .none kV doc pm an cdv ct) ["_law_deck_here","_law_it"] 2 [] [0,1]:=fun s us ws zs _ e1 e2 e3=>match us,ws,e1,e2,e3 with | [_,_],[],_,_,e=>by cases e; exact ⟨.of_eq rfl,rfl⟩
theorem bo20_0 {K:PySem.W.Frag} (kV doc pm cdv ct:Value) (an:Option Addr):BindOk K (PySem.W.fnOf "_law_told_right" "_law_told_right" (defArgs s_l_told_right) (defBody s_l_told_right) (defScope s_l_told_right) .none kV doc pm an cdv ct) ["_law_many","_law_it"] 2 [] [0,1]:=fun s us ws zs _ e1 e2 e3=>match us,ws,e1,e2,e3 with | [_,_],[],_,_,e=>by cases e; exact ⟨.of_eq rfl,rfl⟩
theorem bo21_0 {K:PySem.W.Frag} (kV doc pm cdv ct:Value) (an:Option Addr):BindOk K (PySem.W.fnOf "_law_great_right" "_law_great_right" (defArgs s_l_great_right) (defBody s_l_great_right) (defScope s_l_great_right) .none kV doc pm an cdv ct) ["_law_deck_here"] 1 [] [0]:=fun s us ws zs _ e1 e2 e3=>match us,ws,e1,e2,e3 with | [_],[],_,_,e=>by cases e; exact ⟨.of_eq rfl,rfl⟩
structure AllF (P:Program) (w:World) (K:PySem.W.Frag) (mg:Str->Option Value) (base:Heap) (k:Nat) (fs:Nat->Addr) (ds:Nat->FuncData):Prop where
 f0:FnG P w K mg base k (fs 0) (ds 0) ["thing"] (run prog k 0)
 f1:FnG P w K mg base k (fs 1) (ds 1) ["thing","least","greatest"] (run prog k 1)
 f2:FnG P w K mg base k (fs 2) (ds 2) ["base","exponent"] (run prog k 2)
 f3:FnG P w K mg base k (fs 3) (ds 3) ["signs","cells"] (run prog k 3)
 f4:FnG P w K mg base k (fs 4) (ds 4) ["thing","many"] (run prog k 4)
 f5:FnG P w K mg base k (fs 5) (ds 5) ["signs","length","offset"] (run prog k 5)
 f6:FnG P w K mg base k (fs 6) (ds 6) ["signs","thing"] (run prog k 6)
 f7:FnG P w K mg base k (fs 7) (ds 7) ["_law_script"] (run prog k 7)
 f8:FnG P w K mg base k (fs 8) (ds 8) ["_law_deck_here","_law_below"] (run prog k 8)
 f9:FnG P w K mg base k (fs 9) (ds 9) ["_law_deck_here","_law_some"] (run prog k 9)
 f10:FnG P w K mg base k (fs 10) (ds 10) ["_law_many","_law_long_here"] (run prog k 10)
 f11:FnG P w K mg base k (fs 11) (ds 11) ["_law_deck_here","_law_size_here","_law_rests"] (run prog k 11)
 f12:FnG P w K mg base k (fs 12) (ds 12) ["_law_deck_here","_law_many","_law_most"] (run prog k 12)
 f13:FnG P w K mg base k (fs 13) (ds 13) ["_law_deck_here","_law_many","_law_most"] (run prog k 13)
 f14:FnG P w K mg base k (fs 14) (ds 14) ["_law_it","_law_low","_law_high"] (run prog k 14)
 f15:FnG P w K mg base k (fs 15) (ds 15) ["_law_it","_law_size_here"] (run prog k 15)
 f16:FnG P w K mg base k (fs 16) (ds 16) ["_law_many","_law_it"] (run prog k 16)
 f17:FnG P w K mg base k (fs 17) (ds 17) ["_law_deck_here"] (run prog k 17)
 f18:FnG P w K mg base k (fs 18) (ds 18) ["_law_deck_here","_law_lot"] (run prog k 18)
 f19:FnG P w K mg base k (fs 19) (ds 19) ["_law_deck_here","_law_it"] (run prog k 19)
 f20:FnG P w K mg base k (fs 20) (ds 20) ["_law_many","_law_it"] (run prog k 20)
 f21:FnG P w K mg base k (fs 21) (ds 21) ["_law_deck_here"] (run prog k 21)
 f22:FnG P w K mg base k (fs 22) (ds 22) ["_law_script"] (run prog k 22)
set_option maxHeartbeats 0 in
theorem all_of {l:PySem.W.OpenLaw} {w:World} {K:PySem.W.Frag} {h base:Heap} {mg:Str->Option Value} {fs:Nat->Addr} {ds:Nat->FuncData} (X:K.In h) (hns:h.Ns mainGlobals mg) (T:Txt K mg) (hdg:base.NoDigits)
  (a0:mg "is_integer" = some (.ref (fs 0)))
  (D0:DefF K (fs 0) (ds 0) "is_integer" "is_integer" s_is_integer .none)
  (k0:PySem.W.keepIn K (.ref (fs 0)) = true)
  (a1:mg "is_between" = some (.ref (fs 1)))
  (D1:DefF K (fs 1) (ds 1) "is_between" "is_between" s_is_between .none)
  (k1:PySem.W.keepIn K (.ref (fs 1)) = true)
  (a2:mg "power" = some (.ref (fs 2)))
  (D2:DefF K (fs 2) (ds 2) "power" "power" s_power .none)
  (k2:PySem.W.keepIn K (.ref (fs 2)) = true)
  (a3:mg "is_too_many" = some (.ref (fs 3)))
  (D3:DefF K (fs 3) (ds 3) "is_too_many" "is_too_many" s_is_too_many .none)
  (k3:PySem.W.keepIn K (.ref (fs 3)) = true)
  (a4:mg "is_exchange" = some (.ref (fs 4)))
  (D4:DefF K (fs 4) (ds 4) "is_exchange" "is_exchange" s_is_exchange .none)
  (k4:PySem.W.keepIn K (.ref (fs 4)) = true)
  (a5:mg "are_stretches" = some (.ref (fs 5)))
  (D5:DefF K (fs 5) (ds 5) "are_stretches" "are_stretches" s_are_stretches .none)
  (k5:PySem.W.keepIn K (.ref (fs 5)) = true)
  (a6:mg "is_plan" = some (.ref (fs 6)))
  (D6:DefF K (fs 6) (ds 6) "is_plan" "is_plan" s_is_plan .none)
  (k6:PySem.W.keepIn K (.ref (fs 6)) = true)
  (a7:mg "_law_deck" = some (.ref (fs 7)))
  (D7:DefF K (fs 7) (ds 7) "_law_deck" "_law_deck" s_l_deck .none)
  (k7:PySem.W.keepIn K (.ref (fs 7)) = true)
  (a8:mg "_law_draw" = some (.ref (fs 8)))
  (D8:DefF K (fs 8) (ds 8) "_law_draw" "_law_draw" s_l_draw .none)
  (k8:PySem.W.keepIn K (.ref (fs 8)) = true)
  (a9:mg "_law_pick" = some (.ref (fs 9)))
  (D9:DefF K (fs 9) (ds 9) "_law_pick" "_law_pick" s_l_pick .none)
  (k9:PySem.W.keepIn K (.ref (fs 9)) = true)
  (a10:mg "_law_size" = some (.ref (fs 10)))
  (D10:DefF K (fs 10) (ds 10) "_law_size" "_law_size" s_l_size .none)
  (k10:PySem.W.keepIn K (.ref (fs 10)) = true)
  (a11:mg "_law_exchange" = some (.ref (fs 11)))
  (D11:DefF K (fs 11) (ds 11) "_law_exchange" "_law_exchange" s_l_exchange .none)
  (k11:PySem.W.keepIn K (.ref (fs 11)) = true)
  (a12:mg "_law_long" = some (.ref (fs 12)))
  (D12:DefF K (fs 12) (ds 12) "_law_long" "_law_long" s_l_long .none)
  (k12:PySem.W.keepIn K (.ref (fs 12)) = true)
  (a13:mg "_law_tour" = some (.ref (fs 13)))
  (D13:DefF K (fs 13) (ds 13) "_law_tour" "_law_tour" s_l_tour .none)
  (k13:PySem.W.keepIn K (.ref (fs 13)) = true)
  (a14:mg "_law_is_count" = some (.ref (fs 14)))
  (D14:DefF K (fs 14) (ds 14) "_law_is_count" "_law_is_count" s_l_is_count .none)
  (k14:PySem.W.keepIn K (.ref (fs 14)) = true)
  (a15:mg "_law_is_table" = some (.ref (fs 15)))
  (D15:DefF K (fs 15) (ds 15) "_law_is_table" "_law_is_table" s_l_is_table .none)
  (k15:PySem.W.keepIn K (.ref (fs 15)) = true)
  (a16:mg "_law_is_tour" = some (.ref (fs 16)))
  (D16:DefF K (fs 16) (ds 16) "_law_is_tour" "_law_is_tour" s_l_is_tour .none)
  (k16:PySem.W.keepIn K (.ref (fs 16)) = true)
  (a17:mg "_law_odd" = some (.ref (fs 17)))
  (D17:DefF K (fs 17) (ds 17) "_law_odd" "_law_odd" s_l_odd .none)
  (k17:PySem.W.keepIn K (.ref (fs 17)) = true)
  (a18:mg "_law_bent_table" = some (.ref (fs 18)))
  (D18:DefF K (fs 18) (ds 18) "_law_bent_table" "_law_bent_table" s_l_bent_table .none)
  (k18:PySem.W.keepIn K (.ref (fs 18)) = true)
  (a19:mg "_law_bent" = some (.ref (fs 19)))
  (D19:DefF K (fs 19) (ds 19) "_law_bent" "_law_bent" s_l_bent .none)
  (k19:PySem.W.keepIn K (.ref (fs 19)) = true)
  (a20:mg "_law_told_right" = some (.ref (fs 20)))
  (D20:DefF K (fs 20) (ds 20) "_law_told_right" "_law_told_right" s_l_told_right .none)
  (k20:PySem.W.keepIn K (.ref (fs 20)) = true)
  (a21:mg "_law_great_right" = some (.ref (fs 21)))
  (D21:DefF K (fs 21) (ds 21) "_law_great_right" "_law_great_right" s_l_great_right .none)
  (k21:PySem.W.keepIn K (.ref (fs 21)) = true)
  (a22:mg "law" = some (.ref (fs 22)))
  (D22:DefF K (fs 22) (ds 22) "law" "law" s_law .none)
  (k22:PySem.W.keepIn K (.ref (fs 22)) = true)
  (k:Nat):AllF l.prog w K mg base k fs ds:=by
 induction k with
 | zero=>exact ⟨fnG_zero,fnG_zero,fnG_zero,fnG_zero,fnG_zero,fnG_zero,fnG_zero,fnG_zero,fnG_zero,fnG_zero,fnG_zero,fnG_zero,fnG_zero,fnG_zero,fnG_zero,fnG_zero,fnG_zero,fnG_zero,fnG_zero,fnG_zero,fnG_zero,fnG_zero,fnG_zero⟩
 | succ k F =>
  have S:Cs l.prog w K mg base k fs ds:=⟨
    ⟨F.f0,a0,k0⟩,
    bo_of D0 (bo0_0 ),
    ⟨F.f1,a1,k1⟩,
    bo_of D1 (bo1_0 ),
    ⟨F.f2,a2,k2⟩,
    bo_of D2 (bo2_0 ),
    ⟨F.f3,a3,k3⟩,
    bo_of D3 (bo3_0 ),
    ⟨F.f4,a4,k4⟩,
    bo_of D4 (bo4_0 ),
    ⟨F.f5,a5,k5⟩,
    bo_of D5 (bo5_0 ),
    ⟨F.f6,a6,k6⟩,
    bo_of D6 (bo6_0 ),
    bo_of D6 (bo6_1 ),
    ⟨F.f7,a7,k7⟩,
    bo_of D7 (bo7_0 ),
    ⟨F.f8,a8,k8⟩,
    bo_of D8 (bo8_0 ),
    ⟨F.f9,a9,k9⟩,
    bo_of D9 (bo9_0 ),
    ⟨F.f10,a10,k10⟩,
    bo_of D10 (bo10_0 ),
    ⟨F.f11,a11,k11⟩,
    bo_of D11 (bo11_0 ),
    ⟨F.f12,a12,k12⟩,
    bo_of D12 (bo12_0 ),
    ⟨F.f13,a13,k13⟩,
    bo_of D13 (bo13_0 ),
    ⟨F.f14,a14,k14⟩,
    bo_of D14 (bo14_0 ),
    ⟨F.f15,a15,k15⟩,
    bo_of D15 (bo15_0 ),
    ⟨F.f16,a16,k16⟩,
    bo_of D16 (bo16_0 ),
    ⟨F.f17,a17,k17⟩,
    bo_of D17 (bo17_0 ),
    ⟨F.f18,a18,k18⟩,
    bo_of D18 (bo18_0 ),
    ⟨F.f19,a19,k19⟩,
    bo_of D19 (bo19_0 ),
    ⟨F.f20,a20,k20⟩,
    bo_of D20 (bo20_0 ),
    ⟨F.f21,a21,k21⟩,
    bo_of D21 (bo21_0 ),
    ⟨F.f22,a22,k22⟩⟩
  exact ⟨
    fnG_w D0 sc_is_integer (w_is_integer S T hdg) rfl rfl,
    fnG_w D1 sc_is_between (w_is_between S T hdg) rfl rfl,
    fnG_w D2 sc_power (w_power S T hdg) rfl rfl,
    fnG_w D3 sc_is_too_many (w_is_too_many S T hdg) rfl rfl,
    fnG_w D4 sc_is_exchange (w_is_exchange S T hdg) rfl rfl,
    fnG_w D5 sc_are_stretches (w_are_stretches S T hdg) rfl rfl,
    fnG_w D6 sc_is_plan (w_is_plan S T hdg) rfl rfl,
    fnG_w D7 sc_l_deck (w_l_deck S T hdg) rfl rfl,
    fnG_w D8 sc_l_draw (w_l_draw S T hdg) rfl rfl,
    fnG_w D9 sc_l_pick (w_l_pick S T hdg) rfl rfl,
    fnG_w D10 sc_l_size (w_l_size S T hdg) rfl rfl,
    fnG_w D11 sc_l_exchange (w_l_exchange S T hdg) rfl rfl,
    fnG_w D12 sc_l_long (w_l_long S T hdg) rfl rfl,
    fnG_w D13 sc_l_tour (w_l_tour S T hdg) rfl rfl,
    fnG_w D14 sc_l_is_count (w_l_is_count S T hdg) rfl rfl,
    fnG_w D15 sc_l_is_table (w_l_is_table S T hdg) rfl rfl,
    fnG_w D16 sc_l_is_tour (w_l_is_tour S T hdg) rfl rfl,
    fnG_w D17 sc_l_odd (w_l_odd S T hdg) rfl rfl,
    fnG_w D18 sc_l_bent_table (w_l_bent_table S T hdg) rfl rfl,
    fnG_w D19 sc_l_bent (w_l_bent S T hdg) rfl rfl,
    fnG_w D20 sc_l_told_right (w_l_told_right S T hdg) rfl rfl,
    fnG_w D21 sc_l_great_right (w_l_great_right S T hdg) rfl rfl,
    fnG_w D22 sc_law (w_law S T hdg) rfl rfl⟩
set_option maxHeartbeats 0 in
theorem all_mk {l:PySem.W.OpenLaw} {w:World} {K:PySem.W.Frag} {h:Heap} {mg:Str->Option Value} {fa g0 g1 g2 g3 g4 g5 g6 g7 g8 g9 g10 g11 g12 g13 g14 g15 g16 g17 g18 g19 g20 g21 g22 :Addr} (X:K.In h) (hns:h.Ns mainGlobals mg) (hfa:mg "law" = some (.ref fa))
  (a0:PySem.W.nsIn K mainGlobals "is_integer" = some (some (.ref g0)))
  (l0:DefX K g0 "is_integer" "is_integer" s_is_integer .none)
  (a1:PySem.W.nsIn K mainGlobals "is_between" = some (some (.ref g1)))
  (l1:DefX K g1 "is_between" "is_between" s_is_between .none)
  (a2:PySem.W.nsIn K mainGlobals "power" = some (some (.ref g2)))
  (l2:DefX K g2 "power" "power" s_power .none)
  (a3:PySem.W.nsIn K mainGlobals "is_too_many" = some (some (.ref g3)))
  (l3:DefX K g3 "is_too_many" "is_too_many" s_is_too_many .none)
  (a4:PySem.W.nsIn K mainGlobals "is_exchange" = some (some (.ref g4)))
  (l4:DefX K g4 "is_exchange" "is_exchange" s_is_exchange .none)
  (a5:PySem.W.nsIn K mainGlobals "are_stretches" = some (some (.ref g5)))
  (l5:DefX K g5 "are_stretches" "are_stretches" s_are_stretches .none)
  (a6:PySem.W.nsIn K mainGlobals "is_plan" = some (some (.ref g6)))
  (l6:DefX K g6 "is_plan" "is_plan" s_is_plan .none)
  (a7:PySem.W.nsIn K mainGlobals "_law_deck" = some (some (.ref g7)))
  (l7:DefX K g7 "_law_deck" "_law_deck" s_l_deck .none)
  (a8:PySem.W.nsIn K mainGlobals "_law_draw" = some (some (.ref g8)))
  (l8:DefX K g8 "_law_draw" "_law_draw" s_l_draw .none)
  (a9:PySem.W.nsIn K mainGlobals "_law_pick" = some (some (.ref g9)))
  (l9:DefX K g9 "_law_pick" "_law_pick" s_l_pick .none)
  (a10:PySem.W.nsIn K mainGlobals "_law_size" = some (some (.ref g10)))
  (l10:DefX K g10 "_law_size" "_law_size" s_l_size .none)
  (a11:PySem.W.nsIn K mainGlobals "_law_exchange" = some (some (.ref g11)))
  (l11:DefX K g11 "_law_exchange" "_law_exchange" s_l_exchange .none)
  (a12:PySem.W.nsIn K mainGlobals "_law_long" = some (some (.ref g12)))
  (l12:DefX K g12 "_law_long" "_law_long" s_l_long .none)
  (a13:PySem.W.nsIn K mainGlobals "_law_tour" = some (some (.ref g13)))
  (l13:DefX K g13 "_law_tour" "_law_tour" s_l_tour .none)
  (a14:PySem.W.nsIn K mainGlobals "_law_is_count" = some (some (.ref g14)))
  (l14:DefX K g14 "_law_is_count" "_law_is_count" s_l_is_count .none)
  (a15:PySem.W.nsIn K mainGlobals "_law_is_table" = some (some (.ref g15)))
  (l15:DefX K g15 "_law_is_table" "_law_is_table" s_l_is_table .none)
  (a16:PySem.W.nsIn K mainGlobals "_law_is_tour" = some (some (.ref g16)))
  (l16:DefX K g16 "_law_is_tour" "_law_is_tour" s_l_is_tour .none)
  (a17:PySem.W.nsIn K mainGlobals "_law_odd" = some (some (.ref g17)))
  (l17:DefX K g17 "_law_odd" "_law_odd" s_l_odd .none)
  (a18:PySem.W.nsIn K mainGlobals "_law_bent_table" = some (some (.ref g18)))
  (l18:DefX K g18 "_law_bent_table" "_law_bent_table" s_l_bent_table .none)
  (a19:PySem.W.nsIn K mainGlobals "_law_bent" = some (some (.ref g19)))
  (l19:DefX K g19 "_law_bent" "_law_bent" s_l_bent .none)
  (a20:PySem.W.nsIn K mainGlobals "_law_told_right" = some (some (.ref g20)))
  (l20:DefX K g20 "_law_told_right" "_law_told_right" s_l_told_right .none)
  (a21:PySem.W.nsIn K mainGlobals "_law_great_right" = some (some (.ref g21)))
  (l21:DefX K g21 "_law_great_right" "_law_great_right" s_l_great_right .none)
  {od22 an22:Option Addr} {sl22:Array (Option Value)} {oc22 kV22 dc22 pm22 cd22 ct22:Value}
  (a22:PySem.W.nsIn K mainGlobals "law" = some (some (.ref g22)))
  (l22:K.lookup g22 = some ⟨oc22,od22,.func (PySem.W.fnOf "law" "law" (defArgs s_law) (defBody s_law) (defScope s_law) .none kV22 dc22 pm22 an22 cd22 ct22),sl22⟩) (c22:PySem.W.codeIn K cd22 "law" = true) (k22:PySem.W.keepIn K (.ref g22) = true)
  (z_all:PySem.W.nsIn K mainGlobals "all" = some none)
  (z_bool:PySem.W.nsIn K mainGlobals "bool" = some none)
  (z_int:PySem.W.nsIn K mainGlobals "int" = some none)
  (z_isinstance:PySem.W.nsIn K mainGlobals "isinstance" = some none)
  (z_len:PySem.W.nsIn K mainGlobals "len" = some none)
  (z_list:PySem.W.nsIn K mainGlobals "list" = some none)
  (z_range:PySem.W.nsIn K mainGlobals "range" = some none)
  (z_repr:PySem.W.nsIn K mainGlobals "repr" = some none)
  (z_set:PySem.W.nsIn K mainGlobals "set" = some none)
  (z_str:PySem.W.nsIn K mainGlobals "str" = some none)
  (z_tuple:PySem.W.nsIn K mainGlobals "tuple" = some none)
  {tk_LONGEST:Tok} (n_LONGEST:PySem.W.nsIn K mainGlobals "LONGEST" = some (some (Value.int (15) tk_LONGEST)))
  {tk_MOST_WORDS:Tok} (n_MOST_WORDS:PySem.W.nsIn K mainGlobals "MOST_WORDS" = some (some (Value.int (50000) tk_MOST_WORDS)))
  {tk_ONE:Tok} (n_ONE:PySem.W.nsIn K mainGlobals "ONE" = some (some (Value.str "one" tk_ONE)))
  {tk_ONE_PARTS:Tok} (n_ONE_PARTS:PySem.W.nsIn K mainGlobals "ONE_PARTS" = some (some (Value.int (4) tk_ONE_PARTS)))
  {tk_STILL:Tok} (n_STILL:PySem.W.nsIn K mainGlobals "STILL" = some (some (Value.str "still" tk_STILL)))
  {tk_TWO:Tok} (n_TWO:PySem.W.nsIn K mainGlobals "TWO" = some (some (Value.str "two" tk_TWO)))
  {tk_TWO_PARTS:Tok} (n_TWO_PARTS:PySem.W.nsIn K mainGlobals "TWO_PARTS" = some (some (Value.int (6) tk_TWO_PARTS)))
  : ∃ fd:FuncData,(∀ (s:Shared) (v:Value),BindsTo s fd ⟨[v],[]⟩ [("_law_script",v)])∧∀ base:Heap,K.In base->base.Ns mainGlobals mg->base.NoDigits->FnG l.prog w K mg base 16 fa fd ["_law_script"] (run prog 16 22):=by
 have e:=hfa.symm.trans (PySem.W.mg_of X hns a22)
 cases e
 have T:Txt K mg:=⟨PySem.W.mg_none_of X hns z_all,PySem.W.mg_none_of X hns z_bool,PySem.W.mg_none_of X hns z_int,PySem.W.mg_none_of X hns z_isinstance,PySem.W.mg_none_of X hns z_len,PySem.W.mg_none_of X hns z_list,PySem.W.mg_none_of X hns z_range,PySem.W.mg_none_of X hns z_repr,PySem.W.mg_none_of X hns z_set,PySem.W.mg_none_of X hns z_str,PySem.W.mg_none_of X hns z_tuple,⟨_,PySem.W.mg_of X hns n_LONGEST,⟨_,rfl⟩⟩,⟨_,PySem.W.mg_of X hns n_MOST_WORDS,⟨_,rfl⟩⟩,⟨_,PySem.W.mg_of X hns n_ONE,⟨_,rfl⟩⟩,⟨_,PySem.W.mg_of X hns n_ONE_PARTS,⟨_,rfl⟩⟩,⟨_,PySem.W.mg_of X hns n_STILL,⟨_,rfl⟩⟩,⟨_,PySem.W.mg_of X hns n_TWO,⟨_,rfl⟩⟩,⟨_,PySem.W.mg_of X hns n_TWO_PARTS,⟨_,rfl⟩⟩⟩
 refine ⟨PySem.W.fnOf "law" "law" (defArgs s_law) (defBody s_law) (defScope s_law) .none kV22 dc22 pm22 an22 cd22 ct22,fun s v=>.of_eq rfl,fun base _ _ hdg=>?_⟩
 obtain ⟨fd0,D0,k0⟩:=l0
 obtain ⟨fd1,D1,k1⟩:=l1
 obtain ⟨fd2,D2,k2⟩:=l2
 obtain ⟨fd3,D3,k3⟩:=l3
 obtain ⟨fd4,D4,k4⟩:=l4
 obtain ⟨fd5,D5,k5⟩:=l5
 obtain ⟨fd6,D6,k6⟩:=l6
 obtain ⟨fd7,D7,k7⟩:=l7
 obtain ⟨fd8,D8,k8⟩:=l8
 obtain ⟨fd9,D9,k9⟩:=l9
 obtain ⟨fd10,D10,k10⟩:=l10
 obtain ⟨fd11,D11,k11⟩:=l11
 obtain ⟨fd12,D12,k12⟩:=l12
 obtain ⟨fd13,D13,k13⟩:=l13
 obtain ⟨fd14,D14,k14⟩:=l14
 obtain ⟨fd15,D15,k15⟩:=l15
 obtain ⟨fd16,D16,k16⟩:=l16
 obtain ⟨fd17,D17,k17⟩:=l17
 obtain ⟨fd18,D18,k18⟩:=l18
 obtain ⟨fd19,D19,k19⟩:=l19
 obtain ⟨fd20,D20,k20⟩:=l20
 obtain ⟨fd21,D21,k21⟩:=l21
 exact (all_of (l:=l) (w:=w) (base:=base) (fs:=lkA [g0,g1,g2,g3,g4,g5,g6,g7,g8,g9,g10,g11,g12,g13,g14,g15,g16,g17,g18,g19,g20,g21,fa]) (ds:=lkF (PySem.W.fnOf "law" "law" (defArgs s_law) (defBody s_law) (defScope s_law) .none kV22 dc22 pm22 an22 cd22 ct22) [fd0,fd1,fd2,fd3,fd4,fd5,fd6,fd7,fd8,fd9,fd10,fd11,fd12,fd13,fd14,fd15,fd16,fd17,fd18,fd19,fd20,fd21,PySem.W.fnOf "law" "law" (defArgs s_law) (defBody s_law) (defScope s_law) .none kV22 dc22 pm22 an22 cd22 ct22]) X hns T hdg (PySem.W.mg_of X hns a0) D0 k0 (PySem.W.mg_of X hns a1) D1 k1 (PySem.W.mg_of X hns a2) D2 k2 (PySem.W.mg_of X hns a3) D3 k3 (PySem.W.mg_of X hns a4) D4 k4 (PySem.W.mg_of X hns a5) D5 k5 (PySem.W.mg_of X hns a6) D6 k6 (PySem.W.mg_of X hns a7) D7 k7 (PySem.W.mg_of X hns a8) D8 k8 (PySem.W.mg_of X hns a9) D9 k9 (PySem.W.mg_of X hns a10) D10 k10 (PySem.W.mg_of X hns a11) D11 k11 (PySem.W.mg_of X hns a12) D12 k12 (PySem.W.mg_of X hns a13) D13 k13 (PySem.W.mg_of X hns a14) D14 k14 (PySem.W.mg_of X hns a15) D15 k15 (PySem.W.mg_of X hns a16) D16 k16 (PySem.W.mg_of X hns a17) D17 k17 (PySem.W.mg_of X hns a18) D18 k18 (PySem.W.mg_of X hns a19) D19 k19 (PySem.W.mg_of X hns a20) D20 k20 (PySem.W.mg_of X hns a21) D21 k21 (PySem.W.mg_of X hns a22) (defF_mk l22 c22) k22 16).f22
end K23
section
def K23.LawOk:Prop:=∀ (ns:List Int),ns.length<=63->∃ L',Mv.run K23.prog 16 22 [.ref 0] [.frz ns] = some (.ok (.bl true) L')
local macro_rules | `(tactic| o_head ($f $a $b $c))=>`(tactic| o_head (Mv.lawHook ($f $a $b $c)))
local macro_rules | `($f (Mv.lawHook $h))=>do match f.raw.getId.eraseMacroScopes.getString! with | "obs"=>`(PySem.W.Hook.obs $h) | "val"=>`(PySem.W.Hook.val $h) | "says"=>`(fun w s=>PySem.W.Hook.says $h w s∧K23.LawOk) | "of"=>`(fun w s e=>⟨PySem.W.Hook.of $h w s e,by assumption⟩) | "keeps"=>`(fun w a b y k=>⟨PySem.W.Hook.keeps $h w a b y.1 k,y.2⟩) | _=>Lean.Macro.throwUnsupported
set_option maxRecDepth 100000 in
set_option maxHeartbeats 0 in
open PySem PySem.W PyProof.Rows in
theorem K23.holds_of (hlaw:K23.LawOk):PySem.Challenge.rw_twostrokes_k23_plans_of_any_value.Holds:=by
 w_on; o_law; k_head; (case hw=>w_witness2)
 k_fill
 refine Mv.walkH (l:=PySem.Challenge.rw_twostrokes_k23_plans_of_any_value) (n:=63) (k:=16) (x:="_law_script") (Rl:=Mv.run K23.prog 16 22) rfl (by decide) rfl ⟨rfl,by decide,by decide⟩ (fun w h Y=>Y) ?F (fun h=>h)
 case F =>
  intro w mg fa h KX G hmg
  refine' K23.all_mk KX G hmg ?a0 ?l0 ?a1 ?l1 ?a2 ?l2 ?a3 ?l3 ?a4 ?l4 ?a5 ?l5 ?a6 ?l6 ?a7 ?l7 ?a8 ?l8 ?a9 ?l9 ?a10 ?l10 ?a11 ?l11 ?a12 ?l12 ?a13 ?l13 ?a14 ?l14 ?a15 ?l15 ?a16 ?l16 ?a17 ?l17 ?a18 ?l18 ?a19 ?l19 ?a20 ?l20 ?a21 ?l21 ?a22 ?l22 ?c22 ?k22 ?z_all ?z_bool ?z_int ?z_isinstance ?z_len ?z_list ?z_range ?z_repr ?z_set ?z_str ?z_tuple ?n_LONGEST ?n_MOST_WORDS ?n_ONE ?n_ONE_PARTS ?n_STILL ?n_TWO ?n_TWO_PARTS
  (case a0=>k_is)
  (case l0=>(refine' Mv.defX_mk ?lx ?cx ?kx; (case lx=>k_is); (case cx=>k_is); (case kx=>k_is)))
  (case a1=>k_is)
  (case l1=>(refine' Mv.defX_mk ?lx ?cx ?kx; (case lx=>k_is); (case cx=>k_is); (case kx=>k_is)))
  (case a2=>k_is)
  (case l2=>(refine' Mv.defX_mk ?lx ?cx ?kx; (case lx=>k_is); (case cx=>k_is); (case kx=>k_is)))
  (case a3=>k_is)
  (case l3=>(refine' Mv.defX_mk ?lx ?cx ?kx; (case lx=>k_is); (case cx=>k_is); (case kx=>k_is)))
  (case a4=>k_is)
  (case l4=>(refine' Mv.defX_mk ?lx ?cx ?kx; (case lx=>k_is); (case cx=>k_is); (case kx=>k_is)))
  (case a5=>k_is)
  (case l5=>(refine' Mv.defX_mk ?lx ?cx ?kx; (case lx=>k_is); (case cx=>k_is); (case kx=>k_is)))
  (case a6=>k_is)
  (case l6=>(refine' Mv.defX_mk ?lx ?cx ?kx; (case lx=>k_is); (case cx=>k_is); (case kx=>k_is)))
  (case a7=>k_is)
  (case l7=>(refine' Mv.defX_mk ?lx ?cx ?kx; (case lx=>k_is); (case cx=>k_is); (case kx=>k_is)))
  (case a8=>k_is)
  (case l8=>(refine' Mv.defX_mk ?lx ?cx ?kx; (case lx=>k_is); (case cx=>k_is); (case kx=>k_is)))
  (case a9=>k_is)
  (case l9=>(refine' Mv.defX_mk ?lx ?cx ?kx; (case lx=>k_is); (case cx=>k_is); (case kx=>k_is)))
  (case a10=>k_is)
  (case l10=>(refine' Mv.defX_mk ?lx ?cx ?kx; (case lx=>k_is); (case cx=>k_is); (case kx=>k_is)))
  (case a11=>k_is)
  (case l11=>(refine' Mv.defX_mk ?lx ?cx ?kx; (case lx=>k_is); (case cx=>k_is); (case kx=>k_is)))
  (case a12=>k_is)
  (case l12=>(refine' Mv.defX_mk ?lx ?cx ?kx; (case lx=>k_is); (case cx=>k_is); (case kx=>k_is)))
  (case a13=>k_is)
  (case l13=>(refine' Mv.defX_mk ?lx ?cx ?kx; (case lx=>k_is); (case cx=>k_is); (case kx=>k_is)))
  (case a14=>k_is)
  (case l14=>(refine' Mv.defX_mk ?lx ?cx ?kx; (case lx=>k_is); (case cx=>k_is); (case kx=>k_is)))
  (case a15=>k_is)
  (case l15=>(refine' Mv.defX_mk ?lx ?cx ?kx; (case lx=>k_is); (case cx=>k_is); (case kx=>k_is)))
  (case a16=>k_is)
  (case l16=>(refine' Mv.defX_mk ?lx ?cx ?kx; (case lx=>k_is); (case cx=>k_is); (case kx=>k_is)))
  (case a17=>k_is)
  (case l17=>(refine' Mv.defX_mk ?lx ?cx ?kx; (case lx=>k_is); (case cx=>k_is); (case kx=>k_is)))
  (case a18=>k_is)
  (case l18=>(refine' Mv.defX_mk ?lx ?cx ?kx; (case lx=>k_is); (case cx=>k_is); (case kx=>k_is)))
  (case a19=>k_is)
  (case l19=>(refine' Mv.defX_mk ?lx ?cx ?kx; (case lx=>k_is); (case cx=>k_is); (case kx=>k_is)))
  (case a20=>k_is)
  (case l20=>(refine' Mv.defX_mk ?lx ?cx ?kx; (case lx=>k_is); (case cx=>k_is); (case kx=>k_is)))
  (case a21=>k_is)
  (case l21=>(refine' Mv.defX_mk ?lx ?cx ?kx; (case lx=>k_is); (case cx=>k_is); (case kx=>k_is)))
  (case a22=>k_is)
  (case l22=>k_is)
  (case c22=>k_is)
  (case k22=>k_is)
  (case z_all=>k_is)
  (case z_bool=>k_is)
  (case z_int=>k_is)
  (case z_isinstance=>k_is)
  (case z_len=>k_is)
  (case z_list=>k_is)
  (case z_range=>k_is)
  (case z_repr=>k_is)
  (case z_set=>k_is)
  (case z_str=>k_is)
  (case z_tuple=>k_is)
  (case n_LONGEST=>k_is)
  (case n_MOST_WORDS=>k_is)
  (case n_ONE=>k_is)
  (case n_ONE_PARTS=>k_is)
  (case n_STILL=>k_is)
  (case n_TWO=>k_is)
  (case n_TWO_PARTS=>k_is)
end
namespace Mv
open PySem
def iv (xs:List Int):List LV:=xs.map .int
theorem iv_len (xs:List Int):(iv xs).length = xs.length:=by simp [iv]
theorem iv_get {xs:List Int} {i:Nat} (h:i < xs.length):(iv xs)[i]? = some (.int xs[i]):=by simp [iv,h]
theorem mulOk_r {i j:Int} (h:-(2 ^ 64) < j∧j < 2 ^ 64):mulOk i j = true:=decide_eq_true (.inr (.inl h))
theorem mulOk_l {i j:Int} (h:-(2 ^ 64) < i∧i < 2 ^ 64):mulOk i j = true:=decide_eq_true (.inl h)
theorem take_succ' {α:Type} {xs:List α} {i:Nat} (h:i < xs.length):xs.take (i + 1) = xs.take i ++ [xs[i]]:=by
 rw [List.take_succ,List.getElem?_eq_getElem h]
 rfl
def Grow (L L':LH):Prop:=∃ E,L' = L ++ E
theorem Grow.refl (L:LH):Grow L L:=⟨[],by simp⟩
theorem Grow.trans {L L' L2:LH} (a:Grow L L') (b:Grow L' L2):Grow L L2:=by
 obtain ⟨E,rfl⟩:=a
 obtain ⟨F,rfl⟩:=b
 exact ⟨E ++ F,by simp⟩
theorem divOk_of {j:Int} (h:0 < j∧j < 1000):divOk j = true:=by
 have e:j.natAbs.log2<=j.natAbs:=Nat.log2_le_self _
 exact decide_eq_true ⟨h.1,by omega⟩
theorem b_app (R:Cal) (b:List IS):∀ (a:List IS) (σ:LSt),evB R (a ++ b) σ = M.bind (evB R a σ) (seqK R b)
 | [],σ=>rfl
 | s :: a,σ=>by
  rw [List.cons_append,b_cons',b_cons',M.bind_bind]
  congr 1
  funext x
  obtain ⟨f,σ1⟩:=x
  cases f with
  | nx=>exact b_app R b a σ1
  | _=>rfl
theorem toD_iv (L:LH) (n:Nat):∀ xs:List Int,optAll (toD L (n + 1)) (iv xs) = some (xs.map .int)
 | []=>rfl
 | x :: xs=>by
  have ih:=toD_iv L n xs
  have e:toD L (n + 1) (.int x) = some (.int x):=rfl
  show optAll (toD L (n + 1)) (.int x :: iv xs) = _
  unfold optAll
  rw [ih,e]
  rfl
theorem toD_lst {L:LH} {h:Nat} {xs:List Int} (n:Nat) (e:L[h]? = some (.lst (iv xs))):toD L (n + 2) (.ref h) = some (.list (xs.map .int)):=by
 unfold toD
 simp only [e]
 rw [toD_iv]
 rfl
theorem lay_ints:∀ xs:List Int,PyData.canLayAll0 (xs.map .int) = true
 | []=>by simp [PyData.canLayAll0]
 | x :: xs=>by simp [PyData.canLayAll0,PyData.canLay0,lay_ints xs]
theorem depth_ints:∀ xs:List Int,PyData.depthAll (xs.map .int) = 0
 | []=>by simp [PyData.depthAll]
 | x :: xs=>by simp [PyData.depthAll,PyData.depth,depth_ints xs]
theorem shaped_lst (xs:List Int):SeqAt.shaped (.list (xs.map .int)) = true:=by simp [SeqAt.shaped,PyData.canLay0,lay_ints,PyData.depth,depth_ints]
theorem eqvAll_ints:∀ xs ys:List Int,PyData.eqvAll (xs.map .int) (ys.map .int) = decide (xs = ys)
 | [],[]=>by simp [PyData.eqvAll]
 | [],_ :: _=>by simp [PyData.eqvAll]
 | _ :: _,[]=>by simp [PyData.eqvAll]
 | x :: xs,y :: ys=>by
  simp only [List.map_cons,PyData.eqvAll,eqvAll_ints xs ys,PyData.eqv]
  by_cases h:x = y <;> by_cases h2:xs = ys <;> simp [h,h2]
theorem wp_eq {op:COp} {x y:LV} {L:LH} {b:Bool} {Q:LV->LH->Prop} (e:Mv.eqV L x y = some b) (ho:op = .eq) (h:Q (.bl b) L):wp (cmpV op x y) L Q:=by
 subst ho
 exact wp_look.mpr ⟨b,e,wp_ret.mpr h⟩
theorem wp_ne {op:COp} {x y:LV} {L:LH} {b:Bool} {Q:LV->LH->Prop} (e:Mv.eqV L x y = some b) (ho:op = .ne) (h:Q (.bl (!b)) L):wp (cmpV op x y) L Q:=by
 subst ho
 exact wp_look.mpr ⟨b,e,wp_ret.mpr h⟩
theorem emp_lst {L:LH} {a b:Nat} {xs ys:List LV} (e1:L[a]? = some (.lst xs)) (e2:L[b]? = some (.lst ys)):empPair L (.ref a) (.ref b) = if ys = [] then some xs.isEmpty else none:=by
 unfold empPair
 simp only [e1,e2]
 cases ys <;> rfl
theorem eq_lst0 {L:LH} {a b:Nat} {xs:List LV} (e1:L[a]? = some (.lst xs)) (e2:L[b]? = some (.lst [])):Mv.eqV L (.ref a) (.ref b) = some xs.isEmpty:=by
 show (match empPair L (.ref a) (.ref b) with
  | some b=>some b
  | none=>eqVd L (.ref a) (.ref b)) = _
 rw [emp_lst e1 e2,if_pos rfl]
theorem eq_tup0 {L:LH} {xs:List LV}:Mv.eqV L (.tup xs) (.tup []) = some xs.isEmpty:=rfl
theorem eq_lst {L:LH} {a b:Nat} {xs ys:List Int} (e1:L[a]? = some (.lst (iv xs))) (e2:L[b]? = some (.lst (iv ys))):Mv.eqV L (.ref a) (.ref b) = some (decide (xs = ys)):=by
 show (match empPair L (.ref a) (.ref b) with
  | some b=>some b
  | none=>eqVd L (.ref a) (.ref b)) = _
 rw [emp_lst e1 e2]
 cases ys with
 | nil=>cases xs <;> simp [iv]
 | cons y ys =>
 rw [if_neg (by simp [iv])]
 dsimp only
 unfold eqVd
 rw [toD_lst 64 e1,toD_lst 64 e2]
 simp only [shaped_lst,PyData.eqv,eqvAll_ints,Bool.and_self,if_true]
structure Fr (d h:Nat) (L L':LH):Prop where
 le:L.length<=L'.length
 at_:∀ i,i < L.length->i≠d->i≠h->L'[i]? = L[i]?
theorem Fr.trans {d h:Nat} {L L1 L2:LH} (a:Fr d h L L1) (b:Fr d h L1 L2):Fr d h L L2 :=
 ⟨Nat.le_trans a.le b.le,fun i hi h1 h2=>(b.at_ i (Nat.lt_of_lt_of_le hi a.le) h1 h2).trans (a.at_ i hi h1 h2)⟩
theorem Fr.refl {d h:Nat} {L:LH}:Fr d h L L:=⟨Nat.le_refl _,fun _ _ _ _=>rfl⟩
theorem Fr.grow {d h:Nat} {L L':LH} (g:Grow L L'):Fr d h L L':=by
 obtain ⟨E,rfl⟩:=g
 exact ⟨by simp,fun i hi _ _=>by rw [List.getElem?_append_left hi]⟩
theorem Fr.setD {d h:Nat} {L:LH} {o:LO}:Fr d h L (L.set d o):=⟨by simp,fun i _ h1 _=>by rw [List.getElem?_set_ne (Ne.symm h1)]⟩
theorem Fr.setH {d h:Nat} {L:LH} {o:LO}:Fr d h L (L.set h o):=⟨by simp,fun i _ _ h2=>by rw [List.getElem?_set_ne (Ne.symm h2)]⟩
theorem lt_of {L:LH} {i:Nat} {o:LO} (h:L[i]? = some o):i < L.length:=(List.getElem?_eq_some_iff.mp h).1
theorem pm0 {a:LV}:permG ([a] ++ []) [0] = some [a]:=rfl
theorem pm01 {a b:LV}:permG ([a,b] ++ []) [0,1] = some [a,b]:=rfl
theorem pm012 {a b c:LV}:permG ([a,b,c] ++ []) [0,1,2] = some [a,b,c]:=rfl
theorem dct_ref {ks:List L2.Key} {xs:List LV} {n:Nat} {L:LH} {Q:LV->LH->Prop} (e:L[n]? = some (.dic [])) (q:Q (.ref n) (L.set n (.dic (dmerge [] (ks.zip xs))))):wp (dctE ks xs (.ref n)) L Q:=by
 show wp (fun L=>dctR n (dmerge [] (ks.zip xs)) L[n]? L) L Q
 rw [wp_at,e]
 show wp (M.bind (setO n (.dic (dmerge [] (ks.zip xs)))) fun _=>M.ret (.ref n)) L Q
 rw [wp_bind,wp_setO,wp_ret]
 exact q
theorem it_ref {n:Nat} {xs:List LV} {L:LH} {Q:Src->LH->Prop} (e:L[n]? = some (.lst xs)) (q:Q (.live n xs.length) L):wp (iterV (.ref n)) L Q:=by
 show wp (fun L=>iterR n L[n]? L) L Q
 rw [wp_at,e]
 exact wp_ret.mpr q
theorem len_lst {L:LH} {n:Nat} {xs:List LV} (e:L[n]? = some (.lst xs)):lenV L (.ref n) = some xs.length:=by
 unfold lenV
 simp only [e]
theorem wp_catR {n m:Nat} {xs ys:List LV} {L:LH} {Q:LV->LH->Prop} (e:L[n]? = some (.lst xs)) (e2:L[m]? = some (.lst ys)) (hx:xs.length < 10000∧ys.length < 10000) (q:Q (.ref L.length) (L ++ [.lst (xs ++ ys)])):wp (binV .add (.ref n) (.ref m)) L Q:=by
 show wp (fun L=>catR L[n]? L[m]? L) L Q
 rw [wp_at,e,e2]
 refine wp_chk.mpr ⟨decide_eq_true ?_,wp_new.mpr q⟩
 have h1:xs.length + ys.length<=20000:=by omega
 exact Nat.le_trans h1 (by decide)
theorem items_lst {n:Nat} {xs:List LV} {L:LH} (e:L[n]? = some (.lst xs)):itemsL L (.ref n) = some xs:=by
 unfold itemsL
 simp only [e]
theorem cut_hi {xs:List Int} {c:Int} (hc:0<=c):cut (iv xs) none (some c) = iv (xs.take c.toNat):=by
 unfold cut
 have e1:HT.sIx (iv xs).length (iv xs).length (some c) = min c.toNat xs.length:=by
  show (if c < 0 then _ else min c.toNat (iv xs).length) = _
  rw [if_neg (by omega),iv_len]
 have e2:HT.sIx (iv xs).length 0 none = 0:=rfl
 rw [e1,e2]
 simp only [iv,<- List.map_drop,<- List.map_take,List.drop_zero,Nat.sub_zero]
 congr 1
 by_cases h:c.toNat<=xs.length
 ·rw [Nat.min_eq_left h]
 ·rw [Nat.min_eq_right (by omega),List.take_of_length_le (by omega),List.take_of_length_le (by omega)]
theorem Fr.setNew {d h i:Nat} {o:LO} {L L':LH} (F:Fr d h L L') (hi:L.length<=i):Fr d h L (L'.set i o) :=
 ⟨by rw [List.length_set]; exact F.le,fun j hj h1 h2=>by rw [List.getElem?_set_ne (by omega)]; exact F.at_ j hj h1 h2⟩
theorem wp_repr {x:LV} {d:PyData} {L:LH} {Q:LV->LH->Prop} (e:toR L x = some d) (c:(d.showable && small d.shown.length && decide (d.depth<=64)) = true) (q:Q (.str d.shown) L):wp (biV .repr [x]) L Q :=
 wp_look.mpr ⟨d,e,wp_chk.mpr ⟨c,wp_ret.mpr q⟩⟩
theorem Grow.set {L L':LH} {i:Nat} {o:LO} (g:Grow L L') (hi:L.length<=i):Grow L (L'.set i o):=by
 obtain ⟨E,rfl⟩:=g
 exact ⟨E.set (i - L.length) o,by rw [List.set_append_right _ _ hi]⟩
theorem wp_isi {x:LV} {t:Ty} {ts:List Ty} {L:LH} {Q:LV->LH->Prop} (e:tyOf L x = some ts) (q:Q (.bl (decide (t∈ts))) L):wp (isiV x t) L Q:=wp_look.mpr ⟨ts,e,wp_ret.mpr q⟩
theorem turnQ.imp {I I':LSt->LH->Prop} {Q:Fl × LSt->LH->Prop} {r:Fl × LSt} {L:LH} (h:turnQ I Q r L) (q:∀ σ L,I σ L->I' σ L):turnQ I' Q r L:=by
 obtain ⟨f,σ⟩:=r
 cases f with
 | nx=>exact q _ _ h
 | ct=>exact q _ _ h
 | bk=>exact h
 | rt v=>exact h
theorem intL_iv:∀ xs:List Int,intL (iv xs) = some xs
 | []=>rfl
 | x :: xs=>by
  show (intL (iv xs)).map (x :: ·) = _
  rw [intL_iv xs]
  rfl
end Mv
namespace Mv
open PySem
def okV (L:LH) (v:LV):Prop:=∃ ts,tyOf L v = some ts
mutual
inductive Dt (L:LH) (B:Nat):Nat->LV->PyData->Prop
 | non (n:Nat):Dt L B n .non .none
 | bl (n:Nat) (b:Bool):Dt L B n (.bl b) (.bool b)
 | int (n:Nat) (i:Int):i.natAbs.log2 < 1920->(PyData.shown (.int i)).length<=B->Dt L B n (.int i) (.int i)
 | str (n:Nat) (s:Str):PyData.strOk s = true->(s.cps.toList.all fun c=>decide (c < 16 ^ 8)) = true->Dt L B n (.str s) (.str s)
 | tup {n:Nat} {xs:List LV} {ds:List PyData}:Dts L B n xs ds->xs.length < sizeLine->Dt L B (n + 1) (.tup xs) (.tuple ds)
 | lst {n k:Nat} {xs:List LV} {ds:List PyData}:L[k]? = some (.lst xs)->Dts L B n xs ds->Dt L B (n + 1) (.ref k) (.list ds)
inductive Dts (L:LH) (B:Nat):Nat->List LV->List PyData->Prop
 | nil (n:Nat):Dts L B n [] []
 | cons {n:Nat} {x:LV} {xs:List LV} {d:PyData} {ds:List PyData}:Dt L B n x d->Dts L B n xs ds->Dts L B n (x :: xs) (d :: ds)
end
section
variable {L L':LH} {B:Nat}
theorem grow_at {k:Nat} {o:LO} (g:Grow L L') (h:L[k]? = some o):L'[k]? = some o:=by
 obtain ⟨E,rfl⟩:=g
 rw [List.getElem?_append_left (lt_of h)]
 exact h
mutual
theorem Dt.grow (g:Grow L L'):∀ {n:Nat} {v:LV} {d:PyData},Dt L B n v d->Dt L' B n v d
 | _,_,_,.non n=>.non n
 | _,_,_,.bl n b=>.bl n b
 | _,_,_,.int n i h1 h2=>.int n i h1 h2
 | _,_,_,.str n s h1 h2=>.str n s h1 h2
 | _,_,_,.tup h1 h2=>.tup (Dts.grow g h1) h2
 | _,_,_,.lst h1 h2=>.lst (grow_at g h1) (Dts.grow g h2)
theorem Dts.grow (g:Grow L L'):∀ {n:Nat} {v:List LV} {d:List PyData},Dts L B n v d->Dts L' B n v d
 | _,_,_,.nil n=>.nil n
 | _,_,_,.cons h1 h2=>.cons (Dt.grow g h1) (Dts.grow g h2)
end
mutual
theorem Dt.up:∀ {n:Nat} {v:LV} {d:PyData},Dt L B n v d->Dt L B (n + 1) v d
 | _,_,_,.non n=>.non _
 | _,_,_,.bl n b=>.bl _ b
 | _,_,_,.int n i h1 h2=>.int _ i h1 h2
 | _,_,_,.str n s h1 h2=>.str _ s h1 h2
 | _,_,_,.tup h1 h2=>.tup (Dts.up h1) h2
 | _,_,_,.lst h1 h2=>.lst h1 (Dts.up h2)
theorem Dts.up:∀ {n:Nat} {v:List LV} {d:List PyData},Dts L B n v d->Dts L B (n + 1) v d
 | _,_,_,.nil n=>.nil _
 | _,_,_,.cons h1 h2=>.cons (Dt.up h1) (Dts.up h2)
end
theorem Dt.le {n m:Nat} {v:LV} {d:PyData} (h:Dt L B n v d) (e:n<=m):Dt L B m v d:=by
 induction e with
 | refl=>exact h
 | step _ ih=>exact ih.up
theorem Dt.ok:∀ {n:Nat} {v:LV} {d:PyData},Dt L B n v d->okV L v
 | _,_,_,.non n=>⟨_,rfl⟩
 | _,_,_,.bl n b=>⟨_,rfl⟩
 | _,_,_,.int n i _ _=>⟨_,rfl⟩
 | _,_,_,.str n s _ _=>⟨_,rfl⟩
 | _,_,_,.tup _ _=>⟨_,rfl⟩
 | _,_,_,.lst h1 _=>⟨[.list],by unfold tyOf; simp only [h1]⟩
mutual
theorem Dt.toD:∀ {n:Nat} {v:LV} {d:PyData},Dt L B n v d->∀ m,n < m->Mv.toD L m v = some d
 | _,_,_,.non n,m + 1,_=>rfl
 | _,_,_,.bl n b,m + 1,_=>rfl
 | _,_,_,.int n i _ _,m + 1,_=>rfl
 | _,_,_,.str n s _ _,m + 1,_=>rfl
 | _,_,_,.tup (xs:=xs) (ds:=ds) h1 _,m + 1,h=>by
  show (optAll (Mv.toD L m) xs).map PyData.tuple = _
  rw [Dts.toD h1 m (by omega)]
  rfl
 | _,_,_,.lst (xs:=xs) h0 h1,m + 1,h=>by
  unfold Mv.toD
  simp only [h0]
  rw [Dts.toD h1 m (by omega)]
  rfl
theorem Dts.toD:∀ {n:Nat} {v:List LV} {d:List PyData},Dts L B n v d->∀ m,n < m->optAll (Mv.toD L m) v = some d
 | _,_,_,.nil _,_,_=>rfl
 | _,_,_,.cons h1 h2,m,h=>by
  unfold optAll
  rw [Dt.toD h1 m h,Dts.toD h2 m h]
end
mutual
theorem Dt.toRD:∀ {n:Nat} {v:LV} {d:PyData},Dt L B n v d->∀ m,n < m->Mv.toRD L m v = some d
 | _,_,_,.non n,m + 1,_=>rfl
 | _,_,_,.bl n b,m + 1,_=>rfl
 | _,_,_,.int n i _ _,m + 1,_=>rfl
 | _,_,_,.str n s _ _,m + 1,_=>rfl
 | _,_,_,.tup (xs:=xs) (ds:=ds) h1 _,m + 1,h=>by
  show (optAll (Mv.toRD L m) xs).map PyData.tuple = _
  rw [Dts.toRD h1 m (by omega)]
  rfl
 | _,_,_,.lst (xs:=xs) h0 h1,m + 1,h=>by
  unfold Mv.toRD
  simp only [h0]
  rw [Dts.toRD h1 m (by omega)]
  rfl
theorem Dts.toRD:∀ {n:Nat} {v:List LV} {d:List PyData},Dts L B n v d->∀ m,n < m->optAll (Mv.toRD L m) v = some d
 | _,_,_,.nil _,_,_=>rfl
 | _,_,_,.cons h1 h2,m,h=>by
  unfold optAll
  rw [Dt.toRD h1 m h,Dts.toRD h2 m h]
end
theorem Dt.toR {n:Nat} {v:LV} {d:PyData} (h:Dt L B n v d) (hn:n < 66):Mv.toR L v = some d:=h.toRD 66 hn
mutual
theorem Dt.dep:∀ {n:Nat} {v:LV} {d:PyData},Dt L B n v d->d.depth<=n
 | _,_,_,.non n=>by simp [PyData.depth]
 | _,_,_,.bl n b=>by simp [PyData.depth]
 | _,_,_,.int n i _ _=>by simp [PyData.depth]
 | _,_,_,.str n s h _=>by simp [PyData.depth]
 | _,_,_,.tup h1 _=>by
  have:=Dts.dep h1
  simp only [PyData.depth]
  omega
 | _,_,_,.lst _ h1=>by
  have:=Dts.dep h1
  simp only [PyData.depth]
  omega
theorem Dts.dep:∀ {n:Nat} {v:List LV} {d:List PyData},Dts L B n v d->PyData.depthAll d<=n
 | _,_,_,.nil _=>by simp [PyData.depthAll]
 | _,_,_,.cons h1 h2=>by
  have a:=Dt.dep h1
  have b:=Dts.dep h2
  simp only [PyData.depthAll]
  omega
end
mutual
theorem Dt.sh:∀ {n:Nat} {v:LV} {d:PyData},Dt L B n v d->d.showable = true
 | _,_,_,.non n=>rfl
 | _,_,_,.bl n b=>rfl
 | _,_,_,.int n i h _=>by unfold PyData.showable; exact decide_eq_true h
 | _,_,_,.str n s h _=>rfl
 | _,_,_,.tup h1 _=>by unfold PyData.showable; exact Dts.sh h1
 | _,_,_,.lst _ h1=>by unfold PyData.showable; exact Dts.sh h1
theorem Dts.sh:∀ {n:Nat} {v:List LV} {d:List PyData},Dts L B n v d->PyData.showableAll d = true
 | _,_,_,.nil _=>rfl
 | _,_,_,.cons h1 h2=>by unfold PyData.showableAll; rw [Dt.sh h1,Dts.sh h2]; rfl
end
mutual
theorem Dt.lf:∀ {n:Nat} {v:LV} {d:PyData},Dt L B n v d->d.leavesShort B = true
 | _,_,_,.non n=>rfl
 | _,_,_,.bl n b=>rfl
 | _,_,_,.int n i _ h=>by unfold PyData.leavesShort; exact decide_eq_true h
 | _,_,_,.str n s _ h=>by unfold PyData.leavesShort; exact h
 | _,_,_,.tup h1 _=>by unfold PyData.leavesShort; exact Dts.lf h1
 | _,_,_,.lst _ h1=>by unfold PyData.leavesShort; exact Dts.lf h1
theorem Dts.lf:∀ {n:Nat} {v:List LV} {d:List PyData},Dts L B n v d->PyData.leavesShortAll B d = true
 | _,_,_,.nil _=>rfl
 | _,_,_,.cons h1 h2=>by unfold PyData.leavesShortAll; rw [Dt.lf h1,Dts.lf h2]; rfl
end
theorem Dts.len:∀ {n:Nat} {v:List LV} {d:List PyData},Dts L B n v d->d.length = v.length
 | _,_,_,.nil _=>rfl
 | _,_,_,.cons _ h2=>congrArg (· + 1) (Dts.len h2)
theorem Dt.rep {n W:Nat} {v:LV} {d:PyData} (h:Dt L B n v d) (hn:n < 60) (hB:8<=B) (hw:d.weight<=W) (hW:(B + 2) * W + B<=16000000):(d.showable && small d.shown.length && decide (d.depth<=64)) = true:=by
 have h2:=PyData.shown_le B hB d h.lf
 have h3:(B + 2) * d.weight<=(B + 2) * W:=Nat.mul_le_mul_left _ hw
 have e:d.shown.length<=sizeLine:=Nat.le_trans h2 (Nat.le_trans (by omega) (show 16000000<=sizeLine by decide))
 rw [h.sh,show small d.shown.length = true from decide_eq_true e,decide_eq_true (by have:=h.dep; omega)]
 rfl
def GD (L:LH) (B n w:Nat) (v:LV):Prop:=∃ d,Dt L B n v d∧d.weight<=w
def GDs (L:LH) (B n w:Nat) (xs:List LV):Prop:=∃ ds,Dts L B n xs ds∧PyData.weightAll ds<=w
theorem GD.grow {n w:Nat} {v:LV} (h:GD L B n w v) (g:Grow L L'):GD L' B n w v:=by
 obtain ⟨d,h1,h2⟩:=h
 exact ⟨d,h1.grow g,h2⟩
theorem GDs.grow {n w:Nat} {v:List LV} (h:GDs L B n w v) (g:Grow L L'):GDs L' B n w v:=by
 obtain ⟨d,h1,h2⟩:=h
 exact ⟨d,h1.grow g,h2⟩
theorem GD.le {n m w w':Nat} {v:LV} (h:GD L B n w v) (e:n<=m) (e2:w<=w'):GD L B m w' v:=by
 obtain ⟨d,h1,h2⟩:=h
 exact ⟨d,h1.le e,Nat.le_trans h2 e2⟩
theorem Dts.le {n m:Nat}:∀ {v:List LV} {d:List PyData},Dts L B n v d->n<=m->Dts L B m v d
 | _,_,.nil _,_=>.nil _
 | _,_,.cons h1 h2,e=>.cons (h1.le e) (Dts.le h2 e)
theorem GDs.le {n m w w':Nat} {v:List LV} (h:GDs L B n w v) (e:n<=m) (e2:w<=w'):GDs L B m w' v:=by
 obtain ⟨d,h1,h2⟩:=h
 exact ⟨d,h1.le e,Nat.le_trans h2 e2⟩
theorem GD.ok {n w:Nat} {v:LV} (h:GD L B n w v):okV L v:=by
 obtain ⟨d,h1,h2⟩:=h
 exact h1.ok
theorem GD.non {n w:Nat}:GD L B n w .non:=⟨_,.non n,Nat.zero_le _⟩
theorem GD.bl {n w:Nat} (b:Bool):GD L B n w (.bl b):=⟨_,.bl n b,Nat.zero_le _⟩
theorem GD.int {n w b:Nat} {i:Int} (h:i.natAbs.log2 < b) (hb:b + 1<=B) (hb2:b<=1920) (hw:b<=w):GD L B n w (.int i):=by
 refine ⟨_,.int n i (by omega) ?_,?_⟩
 ·rw [PyData.shown_int]
  show (Str.ofString (toString i)).length<=B
  rw [PySem.ofString_length]
  rcases Nat.eq_zero_or_pos b with rfl | hb3
  ·omega
  ·exact Nat.le_trans (PySem.int_text_length_le (k:=b) hb3 h) (by omega)
 ·simp only [PyData.weight]
  split <;> omega
theorem GD.str {n w:Nat} {s:Str} (h1:PyData.strOk s = true) (h2:(s.cps.toList.all fun c=>decide (c < 16 ^ 8)) = true) (hw:s.cps.size<=w):GD L B n w (.str s):=⟨_,.str n s h1 h2,hw⟩
theorem GD.tup {n w:Nat} {xs:List LV} (h:GDs L B n w xs) (hl:xs.length < sizeLine):GD L B (n + 1) w (.tup xs):=by
 obtain ⟨ds,h1,h2⟩:=h
 exact ⟨_,.tup h1 hl,by simpa only [PyData.weight] using h2⟩
theorem GD.lst {n w k:Nat} {xs:List LV} (e:L[k]? = some (.lst xs)) (h:GDs L B n w xs):GD L B (n + 1) w (.ref k):=by
 obtain ⟨ds,h1,h2⟩:=h
 exact ⟨_,.lst e h1,by simpa only [PyData.weight] using h2⟩
theorem GDs.nil {n w:Nat}:GDs L B n w []:=⟨_,.nil n,Nat.zero_le _⟩
theorem GDs.cons {n w1 w2 w:Nat} {x:LV} {xs:List LV} (h1:GD L B n w1 x) (h2:GDs L B n w2 xs) (hw:w1 + 1 + w2<=w):GDs L B n w (x :: xs):=by
 obtain ⟨d,a,b⟩:=h1
 obtain ⟨ds,a2,b2⟩:=h2
 exact ⟨_,.cons a a2,by simp only [PyData.weightAll]; omega⟩
theorem GDs.all {n w:Nat}:∀ {xs:List LV},(∀ x∈xs,GD L B n w x)->GDs L B n ((w + 1) * xs.length) xs
 | [],_=>.nil
 | x :: xs,h=>.cons (h x (List.mem_cons_self ..)) (GDs.all fun y hy=>h y (List.mem_cons_of_mem _ hy)) (by rw [List.length_cons,Nat.mul_add]; omega)
theorem GDs.mem {n w:Nat}:∀ {xs:List LV},GDs L B n w xs->∀ x∈xs,GD L B n w x
 | [],_,_,h=>by cases h
 | x :: xs,⟨_,.cons h1 h2,hw⟩,y,hy=>by
  simp only [PyData.weightAll] at hw
  rcases List.mem_cons.mp hy with rfl | hy
  ·exact ⟨_,h1,by omega⟩
  ·exact GDs.mem (w:=w) ⟨_,h2,by omega⟩ y hy
theorem GDs.append {n w1 w2 w:Nat}:∀ {xs ys:List LV},GDs L B n w1 xs->GDs L B n w2 ys->w1 + w2<=w->GDs L B n w (xs ++ ys)
 | [],ys,_,h,e=>h.le (Nat.le_refl _) (by omega)
 | x :: xs,ys,⟨_,.cons (d:=d) (ds:=ds) h1 h2,hw⟩,h,e=>by
  simp only [PyData.weightAll] at hw
  exact .cons (w1:=d.weight) (w2:=PyData.weightAll ds + w2) ⟨_,h1,Nat.le_refl _⟩ (GDs.append (w1:=PyData.weightAll ds) (w2:=w2) ⟨_,h2,Nat.le_refl _⟩ h (Nat.le_refl _)) (by omega)
theorem GDs.sub {n w:Nat} {ys:List LV}:∀ {xs:List LV},GDs L B n w xs->ys.Sublist xs->GDs L B n w ys
 | [],h,s=>by
  have:=List.sublist_nil.mp s
  subst this
  exact h
 | x :: xs,⟨_,.cons (d:=d) h1 h2,hw⟩,s=>by
  simp only [PyData.weightAll] at hw
  cases s with
  | cons _ s=>exact GDs.sub (w:=w) ⟨_,h2,by omega⟩ s
  | cons_cons _ s=>exact .cons (w1:=d.weight) (w2:=w - (d.weight + 1)) ⟨_,h1,Nat.le_refl _⟩ (GDs.sub ⟨_,h2,by omega⟩ s) (by omega)
theorem GD.tupInv {n w:Nat} {xs:List LV} (h:GD L B n w (.tup xs)):xs.length < sizeLine∧GDs L B (n - 1) w xs:=by
 obtain ⟨d,h1,h2⟩:=h
 cases h1 with
 | tup a b=>exact ⟨b,_,a,by simpa only [PyData.weight] using h2⟩
theorem GD.ofString {n w:Nat} (s:String) (hw:s.length<=w):GD L B n w (.str (Str.ofString s)):=by
 have e:∀ c∈(Str.ofString s).cps.toList,c < 0x110000:=by
  rw [Str.ofString_eq_toList]
  intro c hc
  obtain ⟨ch,_,rfl⟩:=List.mem_map.mp (show c∈s.toList.map Char.toNat from hc)
  have:=ch.valid
  have h:ch.toNat.isValidChar:=ch.valid
  rcases h with h | h <;> omega
 refine .str ?_ ?_ ?_
 ·unfold PyData.strOk
  rw [Array.all_eq_true']
  intro c hc
  exact decide_eq_true (e c (by simpa using hc))
 ·rw [List.all_eq_true]
  intro c hc
  exact decide_eq_true (Nat.lt_of_lt_of_le (e c hc) (by decide))
 ·have:=PySem.ofString_length s
  have h2:(Str.ofString s).cps.size = s.length:=this
  omega
theorem GDs.set {n w w1 w2:Nat} {x:LV} (hx:GD L B n w1 x):∀ {xs:List LV} {i:Nat},GDs L B n w xs->w + w1<=w2->GDs L B n w2 (xs.set i x)
 | [],_,h,e=>h.le (Nat.le_refl _) (by omega)
 | y :: xs,0,⟨_,.cons (d:=d) (ds:=ds) h1 h2,hw⟩,e=>by
  simp only [PyData.weightAll] at hw
  exact .cons hx (w2:=PyData.weightAll ds) ⟨_,h2,Nat.le_refl _⟩ (by omega)
 | y :: xs,i + 1,⟨_,.cons (d:=d) (ds:=ds) h1 h2,hw⟩,e=>by
  simp only [PyData.weightAll] at hw
  exact .cons (w1:=d.weight) (w2:=PyData.weightAll ds + w1) ⟨_,h1,Nat.le_refl _⟩ (GDs.set hx (w:=PyData.weightAll ds) (i:=i) ⟨_,h2,Nat.le_refl _⟩ (Nat.le_refl _)) (by omega)
theorem GDs.ints {n b:Nat} {xs:List Int} (h:∀ x∈xs,x.natAbs.log2 < b) (hb:b + 1<=B) (hb2:b<=1920):GDs L B n ((b + 1) * xs.length) (iv xs):=by
 have e:=GDs.all (L:=L) (B:=B) (n:=n) (w:=b) (xs:=iv xs) fun x hx=>by
  obtain ⟨i,hi,rfl⟩:=List.mem_map.mp hx
  exact .int (h i hi) hb hb2 (Nat.le_refl _)
 rw [iv_len] at e
 exact e
end
end Mv
namespace Mv
open PySem
def whlQ (I:Nat->LSt->LH->Prop) (Q:Fl × LSt->LH->Prop) (m:Nat):Fl × LSt->LH->Prop
 | (.nx,σ),L=>∃ m',m' < m∧I m' σ L
 | (.ct,σ),L=>∃ m',m' < m∧I m' σ L
 | (.bk,σ),L=>Q (.nx,σ) L
 | (.rt v,σ),L=>Q (.rt v,σ) L
theorem wp_whlGo {c:LSt->M LV} {b:LSt->M (Fl × LSt)} {Q:Fl × LSt->LH->Prop} (I:Nat->LSt->LH->Prop)
  (step:∀ m σ L,I m σ L->wp (c σ) L fun x L1=>∃ k,x = .bl k∧(k = false->Q (.nx,σ) L1)∧(k = true->wp (b σ) L1 (whlQ I Q m))) :
  ∀ (k m:Nat) (σ:LSt) (L:LH),m < k->I m σ L->wp (whlGo c b k σ) L Q
 | 0,m,_,_,h,_=>absurd h (Nat.not_lt_zero _)
 | k + 1,m,σ,L,hk,h=>by
  show wp (M.bind (c σ) fun x=>match x with
   | .bl false=>M.ret (.nx,σ)
   | .bl true=>M.bind (b σ) fun (r:Fl × LSt)=>match r with
    | (.nx,σ1)=>whlGo c b k σ1
    | (.ct,σ1)=>whlGo c b k σ1
    | (.bk,σ1)=>M.ret (.nx,σ1)
    | (.rt v,σ1)=>M.ret (.rt v,σ1)
   | _=>M.no) L Q
  refine wp_bind.mpr ((step m σ L h).imp fun x L1 ⟨k',e,h0,h1⟩=>?_)
  subst e
  cases k' with
  | false=>exact wp_ret.mpr (h0 rfl)
  | true =>
   refine wp_bind.mpr ((h1 rfl).imp fun r L2 q=>?_)
   obtain ⟨f,σ1⟩:=r
   cases f with
   | nx =>
    obtain ⟨m',hm,q⟩:=q
    exact wp_whlGo I step k m' σ1 L2 (by omega) q
   | ct =>
    obtain ⟨m',hm,q⟩:=q
    exact wp_whlGo I step k m' σ1 L2 (by omega) q
   | bk=>exact wp_ret.mpr q
   | rt v=>exact wp_ret.mpr q
theorem fuel_lt {m:Nat} (h:m<=1000000000000):m < fuel:=by
 unfold fuel
 exact Nat.lt_of_le_of_lt h (Nat.lt_of_lt_of_le (show 1000000000000 < 10 ^ 13 by decide) (Nat.pow_le_pow_right (by decide) (by decide)))
theorem wp_whl {c:LSt->M LV} {b:LSt->M (Fl × LSt)} {Q:Fl × LSt->LH->Prop} {σ:LSt} {L:LH} (I:Nat->LSt->LH->Prop) (m:Nat) (hm:m<=1000000000000) (h0:I m σ L)
  (step:∀ m σ L,I m σ L->wp (c σ) L fun x L1=>∃ k,x = .bl k∧(k = false->Q (.nx,σ) L1)∧(k = true->wp (b σ) L1 (whlQ I Q m))):wp (whlGo c b fuel σ) L Q :=
 wp_whlGo I step fuel m σ L (fuel_lt hm) h0
def KeyOk (B:Nat):L2.Key->Prop
 | .inl i=>i.natAbs.log2 < 1920∧(PyData.shown (.int i)).length<=B
 | .inr s=>(s.cps.toList.all fun c=>decide (c < 16 ^ 8)) = true
mutual
inductive Dq (L:LH) (B:Nat):Nat->LV->PyData->Prop
 | non (n:Nat):Dq L B n .non .none
 | bl (n:Nat) (b:Bool):Dq L B n (.bl b) (.bool b)
 | int (n:Nat) (i:Int):i.natAbs.log2 < 1920->(PyData.shown (.int i)).length<=B->Dq L B n (.int i) (.int i)
 | str (n:Nat) (s:Str):(s.cps.toList.all fun c=>decide (c < 16 ^ 8)) = true->Dq L B n (.str s) (.str s)
 | tup {n:Nat} {xs:List LV} {ds:List PyData}:Dqs L B n xs ds->xs.length<=4000->Dq L B (n + 1) (.tup xs) (.tuple ds)
 | lst {n k:Nat} {xs:List LV} {ds:List PyData}:L[k]? = some (.lst xs)->Dqs L B n xs ds->Dq L B (n + 1) (.ref k) (.list ds)
 | dic0 {n k:Nat}:L[k]? = some (.dic [])->Dq L B (n + 1) (.ref k) (.dict [])
 | dic1 {n k:Nat} {key:L2.Key} {v:LV} {d:PyData}:L[k]? = some (.dic [(key,v)])->KeyOk B key->Dq L B n v d->Dq L B (n + 1) (.ref k) (.dict [(keyD key,d)])
inductive Dqs (L:LH) (B:Nat):Nat->List LV->List PyData->Prop
 | nil (n:Nat):Dqs L B n [] []
 | cons {n:Nat} {x:LV} {xs:List LV} {d:PyData} {ds:List PyData}:Dq L B n x d->Dqs L B n xs ds->Dqs L B n (x :: xs) (d :: ds)
end
section
variable {L L':LH} {B:Nat}
mutual
theorem Dq.grow (g:Grow L L'):∀ {n:Nat} {v:LV} {d:PyData},Dq L B n v d->Dq L' B n v d
 | _,_,_,.non n=>.non n
 | _,_,_,.bl n b=>.bl n b
 | _,_,_,.int n i h1 h2=>.int n i h1 h2
 | _,_,_,.str n s h1=>.str n s h1
 | _,_,_,.tup h1 h2=>.tup (Dqs.grow g h1) h2
 | _,_,_,.lst h1 h2=>.lst (grow_at g h1) (Dqs.grow g h2)
 | _,_,_,.dic0 h1=>.dic0 (grow_at g h1)
 | _,_,_,.dic1 h1 h2 h3=>.dic1 (grow_at g h1) h2 (Dq.grow g h3)
theorem Dqs.grow (g:Grow L L'):∀ {n:Nat} {v:List LV} {d:List PyData},Dqs L B n v d->Dqs L' B n v d
 | _,_,_,.nil n=>.nil n
 | _,_,_,.cons h1 h2=>.cons (Dq.grow g h1) (Dqs.grow g h2)
end
mutual
theorem Dq.up:∀ {n:Nat} {v:LV} {d:PyData},Dq L B n v d->Dq L B (n + 1) v d
 | _,_,_,.non n=>.non _
 | _,_,_,.bl n b=>.bl _ b
 | _,_,_,.int n i h1 h2=>.int _ i h1 h2
 | _,_,_,.str n s h1=>.str _ s h1
 | _,_,_,.tup h1 h2=>.tup (Dqs.up h1) h2
 | _,_,_,.lst h1 h2=>.lst h1 (Dqs.up h2)
 | _,_,_,.dic0 h1=>.dic0 h1
 | _,_,_,.dic1 h1 h2 h3=>.dic1 h1 h2 (Dq.up h3)
theorem Dqs.up:∀ {n:Nat} {v:List LV} {d:List PyData},Dqs L B n v d->Dqs L B (n + 1) v d
 | _,_,_,.nil n=>.nil _
 | _,_,_,.cons h1 h2=>.cons (Dq.up h1) (Dqs.up h2)
end
theorem Dq.le {n m:Nat} {v:LV} {d:PyData} (h:Dq L B n v d) (e:n<=m):Dq L B m v d:=by
 induction e with
 | refl=>exact h
 | step _ ih=>exact ih.up
theorem Dqs.le {n m:Nat} {v:List LV} {d:List PyData} (h:Dqs L B n v d) (e:n<=m):Dqs L B m v d:=by
 induction e with
 | refl=>exact h
 | step _ ih=>exact ih.up
theorem Dq.ok:∀ {n:Nat} {v:LV} {d:PyData},Dq L B n v d->okV L v
 | _,_,_,.non n=>⟨_,rfl⟩
 | _,_,_,.bl n b=>⟨_,rfl⟩
 | _,_,_,.int n i _ _=>⟨_,rfl⟩
 | _,_,_,.str n s _=>⟨_,rfl⟩
 | _,_,_,.tup _ _=>⟨_,rfl⟩
 | _,_,_,.lst h1 _=>⟨[.list],by unfold tyOf; simp only [h1]⟩
 | _,_,_,.dic0 h1=>⟨[.dict],by unfold tyOf; simp only [h1]⟩
 | _,_,_,.dic1 h1 _ _=>⟨[.dict],by unfold tyOf; simp only [h1]⟩
mutual
theorem Dq.toRD:∀ {n:Nat} {v:LV} {d:PyData},Dq L B n v d->∀ m,n < m->Mv.toRD L m v = some d
 | _,_,_,.non n,m + 1,_=>rfl
 | _,_,_,.bl n b,m + 1,_=>rfl
 | _,_,_,.int n i _ _,m + 1,_=>rfl
 | _,_,_,.str n s _,m + 1,_=>rfl
 | _,_,_,.tup (xs:=xs) (ds:=ds) h1 _,m + 1,h=>by
  show (optAll (Mv.toRD L m) xs).map PyData.tuple = _
  rw [Dqs.toRD h1 m (by omega)]
  rfl
 | _,_,_,.lst (xs:=xs) h0 h1,m + 1,h=>by
  unfold Mv.toRD
  simp only [h0]
  rw [Dqs.toRD h1 m (by omega)]
  rfl
 | _,_,_,.dic0 h0,m + 1,h=>by
  unfold Mv.toRD
  simp only [h0]
  rfl
 | _,_,_,.dic1 (v:=v) (d:=d) h0 _ h1,m + 1,h=>by
  unfold Mv.toRD
  simp only [h0]
  have e:optAll (Mv.toRD L m) [v] = some [d]:=by
   unfold optAll
   rw [Dq.toRD h1 m (by omega)]
   rfl
  show Option.map _ (optAll (Mv.toRD L m) [v]) = _
  rw [e]
  rfl
theorem Dqs.toRD:∀ {n:Nat} {v:List LV} {d:List PyData},Dqs L B n v d->∀ m,n < m->optAll (Mv.toRD L m) v = some d
 | _,_,_,.nil _,_,_=>rfl
 | _,_,_,.cons h1 h2,m,h=>by
  unfold optAll
  rw [Dq.toRD h1 m h,Dqs.toRD h2 m h]
end
theorem Dq.toR {n:Nat} {v:LV} {d:PyData} (h:Dq L B n v d) (hn:n < 66):Mv.toR L v = some d:=h.toRD 66 hn
mutual
theorem Dq.dep:∀ {n:Nat} {v:LV} {d:PyData},Dq L B n v d->d.depth<=n
 | _,_,_,.non n=>by simp [PyData.depth]
 | _,_,_,.bl n b=>by simp [PyData.depth]
 | _,_,_,.int n i _ _=>by simp [PyData.depth]
 | _,_,_,.str n s h=>by simp [PyData.depth]
 | _,_,_,.tup h1 _=>by
  have:=Dqs.dep h1
  simp only [PyData.depth]
  omega
 | _,_,_,.lst _ h1=>by
  have:=Dqs.dep h1
  simp only [PyData.depth]
  omega
 | _,_,_,.dic0 h1=>by simp [PyData.depth,PyData.depthKv]
 | _,_,_,.dic1 (key:=key) _ _ h1=>by
  have:=Dq.dep h1
  have e:(keyD key).depth = 0:=by cases key <;> simp [keyD,PyData.depth]
  simp only [PyData.depth,PyData.depthKv,e]
  omega
theorem Dqs.dep:∀ {n:Nat} {v:List LV} {d:List PyData},Dqs L B n v d->PyData.depthAll d<=n
 | _,_,_,.nil _=>by simp [PyData.depthAll]
 | _,_,_,.cons h1 h2=>by
  have a:=Dq.dep h1
  have b:=Dqs.dep h2
  simp only [PyData.depthAll]
  omega
end
theorem KeyOk.sh {k:L2.Key} (h:KeyOk B k):(keyD k).showable = true∧(keyD k).leavesShort B = true:=by
 cases k with
 | inl i=>exact ⟨by simp only [keyD,PyData.showable]; exact decide_eq_true h.1,by simp only [keyD,PyData.leavesShort]; exact decide_eq_true h.2⟩
 | inr s=>exact ⟨rfl,by simp only [keyD,PyData.leavesShort]; exact h⟩
mutual
theorem Dq.sh:∀ {n:Nat} {v:LV} {d:PyData},Dq L B n v d->d.showable = true
 | _,_,_,.non n=>rfl
 | _,_,_,.bl n b=>rfl
 | _,_,_,.int n i h _=>by unfold PyData.showable; exact decide_eq_true h
 | _,_,_,.str n s h=>rfl
 | _,_,_,.tup h1 _=>by unfold PyData.showable; exact Dqs.sh h1
 | _,_,_,.lst _ h1=>by unfold PyData.showable; exact Dqs.sh h1
 | _,_,_,.dic0 _=>by simp [PyData.showable,PyData.showableKv]
 | _,_,_,.dic1 _ hk h1=>by simp only [PyData.showable,PyData.showableKv,hk.sh.1,Dq.sh h1,Bool.and_self]
theorem Dqs.sh:∀ {n:Nat} {v:List LV} {d:List PyData},Dqs L B n v d->PyData.showableAll d = true
 | _,_,_,.nil _=>rfl
 | _,_,_,.cons h1 h2=>by unfold PyData.showableAll; rw [Dq.sh h1,Dqs.sh h2]; rfl
end
mutual
theorem Dq.lf:∀ {n:Nat} {v:LV} {d:PyData},Dq L B n v d->d.leavesShort B = true
 | _,_,_,.non n=>rfl
 | _,_,_,.bl n b=>rfl
 | _,_,_,.int n i _ h=>by unfold PyData.leavesShort; exact decide_eq_true h
 | _,_,_,.str n s h=>by unfold PyData.leavesShort; exact h
 | _,_,_,.tup h1 _=>by unfold PyData.leavesShort; exact Dqs.lf h1
 | _,_,_,.lst _ h1=>by unfold PyData.leavesShort; exact Dqs.lf h1
 | _,_,_,.dic0 _=>by simp [PyData.leavesShort,PyData.leavesShortKv]
 | _,_,_,.dic1 _ hk h1=>by simp only [PyData.leavesShort,PyData.leavesShortKv,hk.sh.2,Dq.lf h1,Bool.and_self]
theorem Dqs.lf:∀ {n:Nat} {v:List LV} {d:List PyData},Dqs L B n v d->PyData.leavesShortAll B d = true
 | _,_,_,.nil _=>rfl
 | _,_,_,.cons h1 h2=>by unfold PyData.leavesShortAll; rw [Dq.lf h1,Dqs.lf h2]; rfl
end
theorem Dq.rep {n W:Nat} {v:LV} {d:PyData} (h:Dq L B n v d) (hn:n < 60) (hB:8<=B) (hw:d.bulk<=W) (hW:(B + 2) * W + B<=16000000):(d.showable && small d.shown.length && decide (d.depth<=64)) = true:=by
 have h2:=PyData.shown_le_bulk B hB d h.lf
 have h3:(B + 2) * d.bulk<=(B + 2) * W:=Nat.mul_le_mul_left _ hw
 have e:d.shown.length<=sizeLine:=Nat.le_trans h2 (Nat.le_trans (by omega) (show 16000000<=sizeLine by decide))
 rw [h.sh,show small d.shown.length = true from decide_eq_true e,decide_eq_true (by have:=h.dep; omega)]
 rfl
def GQ (L:LH) (B n w:Nat) (v:LV):Prop:=∃ d,Dq L B n v d∧d.bulk<=w
def GQs (L:LH) (B n w:Nat) (xs:List LV):Prop:=∃ ds,Dqs L B n xs ds∧PyData.bulkAll ds<=w
theorem GQ.grow {n w:Nat} {v:LV} (h:GQ L B n w v) (g:Grow L L'):GQ L' B n w v:=by
 obtain ⟨d,h1,h2⟩:=h
 exact ⟨d,h1.grow g,h2⟩
theorem GQs.grow {n w:Nat} {v:List LV} (h:GQs L B n w v) (g:Grow L L'):GQs L' B n w v:=by
 obtain ⟨d,h1,h2⟩:=h
 exact ⟨d,h1.grow g,h2⟩
theorem GQ.le {n m w w':Nat} {v:LV} (h:GQ L B n w v) (e:n<=m) (e2:w<=w'):GQ L B m w' v:=by
 obtain ⟨d,h1,h2⟩:=h
 exact ⟨d,h1.le e,Nat.le_trans h2 e2⟩
theorem GQs.le {n m w w':Nat} {v:List LV} (h:GQs L B n w v) (e:n<=m) (e2:w<=w'):GQs L B m w' v:=by
 obtain ⟨d,h1,h2⟩:=h
 exact ⟨d,h1.le e,Nat.le_trans h2 e2⟩
theorem GQ.ok {n w:Nat} {v:LV} (h:GQ L B n w v):okV L v:=by
 obtain ⟨d,h1,h2⟩:=h
 exact h1.ok
theorem GQ.non {n w:Nat}:GQ L B n w .non:=⟨_,.non n,Nat.zero_le _⟩
theorem GQ.bl {n w:Nat} (b:Bool):GQ L B n w (.bl b):=⟨_,.bl n b,Nat.zero_le _⟩
theorem GQ.int {n w b:Nat} {i:Int} (h:i.natAbs.log2 < b) (hb:b + 1<=B) (hb2:b<=1920) (hw:b<=w):GQ L B n w (.int i):=by
 refine ⟨_,.int n i (by omega) ?_,?_⟩
 ·rw [PyData.shown_int]
  show (Str.ofString (toString i)).length<=B
  rw [PySem.ofString_length]
  rcases Nat.eq_zero_or_pos b with rfl | hb3
  ·omega
  ·exact Nat.le_trans (PySem.int_text_length_le (k:=b) hb3 h) (by omega)
 ·exact Nat.zero_le _
theorem str_cps (s:String):((Str.ofString s).cps.toList.all fun c=>decide (c < 16 ^ 8)) = true:=by
 rw [List.all_eq_true]
 intro c hc
 rw [Str.ofString_eq_toList] at hc
 obtain ⟨ch,_,rfl⟩:=List.mem_map.mp (show c∈s.toList.map Char.toNat from hc)
 have h:ch.toNat.isValidChar:=ch.valid
 refine decide_eq_true (Nat.lt_of_lt_of_le (show ch.toNat < 0x110000 from ?_) (by decide))
 rcases h with h | h <;> omega
theorem GQ.ofString {n w:Nat} (s:String) (hw:s.length<=w):GQ L B n w (.str (Str.ofString s)):=by
 refine ⟨_,.str n _ (str_cps s),?_⟩
 have:=PySem.ofString_length s
 have h2:(Str.ofString s).cps.size = s.length:=this
 show (Str.ofString s).cps.size<=w
 omega
theorem GQ.tup {n w:Nat} {xs:List LV} (h:GQs L B n w xs) (hl:xs.length<=4000):GQ L B (n + 1) w (.tup xs):=by
 obtain ⟨ds,h1,h2⟩:=h
 exact ⟨_,.tup h1 hl,by simpa only [PyData.bulk] using h2⟩
theorem GQ.lst {n w k:Nat} {xs:List LV} (e:L[k]? = some (.lst xs)) (h:GQs L B n w xs):GQ L B (n + 1) w (.ref k):=by
 obtain ⟨ds,h1,h2⟩:=h
 exact ⟨_,.lst e h1,by simpa only [PyData.bulk] using h2⟩
theorem GQ.dic0 {n w k:Nat} (e:L[k]? = some (.dic [])):GQ L B (n + 1) w (.ref k):=⟨_,.dic0 e,by simp [PyData.bulk,PyData.bulkKv]⟩
theorem GQ.dic1 {n w w2 k:Nat} {key:L2.Key} {v:LV} (e:L[k]? = some (.dic [(key,v)])) (hk:KeyOk B key) (h:GQ L B n w v) (hw:(keyD key).bulk + w + 2<=w2):GQ L B (n + 1) w2 (.ref k):=by
 obtain ⟨d,h1,h2⟩:=h
 exact ⟨_,.dic1 e hk h1,by simp only [PyData.bulk,PyData.bulkKv]; omega⟩
theorem GQs.nil {n w:Nat}:GQs L B n w []:=⟨_,.nil n,Nat.zero_le _⟩
theorem GQs.cons {n w1 w2 w:Nat} {x:LV} {xs:List LV} (h1:GQ L B n w1 x) (h2:GQs L B n w2 xs) (hw:w1 + 1 + w2<=w):GQs L B n w (x :: xs):=by
 obtain ⟨d,a,b⟩:=h1
 obtain ⟨ds,a2,b2⟩:=h2
 exact ⟨_,.cons a a2,by simp only [PyData.bulkAll]; omega⟩
theorem GQs.all {n w:Nat}:∀ {xs:List LV},(∀ x∈xs,GQ L B n w x)->GQs L B n ((w + 1) * xs.length) xs
 | [],_=>.nil
 | x :: xs,h=>.cons (h x (List.mem_cons_self ..)) (GQs.all fun y hy=>h y (List.mem_cons_of_mem _ hy)) (by rw [List.length_cons,Nat.mul_add]; omega)
theorem GQs.mem {n w:Nat}:∀ {xs:List LV},GQs L B n w xs->∀ x∈xs,GQ L B n w x
 | [],_,_,h=>by cases h
 | x :: xs,⟨_,.cons h1 h2,hw⟩,y,hy=>by
  simp only [PyData.bulkAll] at hw
  rcases List.mem_cons.mp hy with rfl | hy
  ·exact ⟨_,h1,by omega⟩
  ·exact GQs.mem (w:=w) ⟨_,h2,by omega⟩ y hy
theorem GQs.append {n w1 w2 w:Nat}:∀ {xs ys:List LV},GQs L B n w1 xs->GQs L B n w2 ys->w1 + w2<=w->GQs L B n w (xs ++ ys)
 | [],ys,_,h,e=>h.le (Nat.le_refl _) (by omega)
 | x :: xs,ys,⟨_,.cons (d:=d) (ds:=ds) h1 h2,hw⟩,h,e=>by
  simp only [PyData.bulkAll] at hw
  exact .cons (w1:=d.bulk) (w2:=PyData.bulkAll ds + w2) ⟨_,h1,Nat.le_refl _⟩ (GQs.append (w1:=PyData.bulkAll ds) (w2:=w2) ⟨_,h2,Nat.le_refl _⟩ h (Nat.le_refl _)) (by omega)
theorem GQs.sub {n w:Nat} {ys:List LV}:∀ {xs:List LV},GQs L B n w xs->ys.Sublist xs->GQs L B n w ys
 | [],h,s=>by
  have:=List.sublist_nil.mp s
  subst this
  exact h
 | x :: xs,⟨_,.cons (d:=d) h1 h2,hw⟩,s=>by
  simp only [PyData.bulkAll] at hw
  cases s with
  | cons _ s=>exact GQs.sub (w:=w) ⟨_,h2,by omega⟩ s
  | cons_cons _ s=>exact .cons (w1:=d.bulk) (w2:=w - (d.bulk + 1)) ⟨_,h1,Nat.le_refl _⟩ (GQs.sub ⟨_,h2,by omega⟩ s) (by omega)
theorem GQs.set {n w w1 w2:Nat} {x:LV} (hx:GQ L B n w1 x):∀ {xs:List LV} {i:Nat},GQs L B n w xs->w + w1<=w2->GQs L B n w2 (xs.set i x)
 | [],_,h,e=>h.le (Nat.le_refl _) (by omega)
 | y :: xs,0,⟨_,.cons (d:=d) (ds:=ds) h1 h2,hw⟩,e=>by
  simp only [PyData.bulkAll] at hw
  exact .cons hx (w2:=PyData.bulkAll ds) ⟨_,h2,Nat.le_refl _⟩ (by omega)
 | y :: xs,i + 1,⟨_,.cons (d:=d) (ds:=ds) h1 h2,hw⟩,e=>by
  simp only [PyData.bulkAll] at hw
  exact .cons (w1:=d.bulk) (w2:=PyData.bulkAll ds + w1) ⟨_,h1,Nat.le_refl _⟩ (GQs.set hx (w:=PyData.bulkAll ds) (i:=i) ⟨_,h2,Nat.le_refl _⟩ (Nat.le_refl _)) (by omega)
theorem GQ.tupInv {n w:Nat} {xs:List LV} (h:GQ L B n w (.tup xs)):xs.length<=4000∧GQs L B (n - 1) w xs:=by
 obtain ⟨d,h1,h2⟩:=h
 cases h1 with
 | tup a b=>exact ⟨b,_,a,by simpa only [PyData.bulk] using h2⟩
theorem GQs.intsB {n b:Nat} {xs:List Int} (h:∀ x∈xs,x.natAbs.log2 < b) (hb:b + 1<=B) (hb2:b<=1920):GQs L B n xs.length (iv xs):=by
 have e:∀ xs:List Int,(∀ x∈xs,x.natAbs.log2 < b)->GQs L B n xs.length (iv xs):=fun xs=>by
  induction xs with
  | nil=>exact fun _=>.nil
  | cons x xs ih =>
   intro h
   obtain ⟨d,h1,h2⟩:=GQ.int (L:=L) (n:=n) (h x (List.mem_cons_self ..)) hb hb2 (Nat.le_refl _)
   cases h1
   exact .cons (w1:=0) ⟨_,.int n x (by assumption) (by assumption),Nat.le_refl _⟩ (ih fun y hy=>h y (List.mem_cons_of_mem _ hy)) (by rw [List.length_cons]; omega)
 exact e xs h
theorem GQs.ints {n b:Nat} {xs:List Int} (h:∀ x∈xs,x.natAbs.log2 < b) (hb:b + 1<=B) (hb2:b<=1920):GQs L B n ((b + 1) * xs.length) (iv xs):=by
 have e:=GQs.all (L:=L) (B:=B) (n:=n) (w:=b) (xs:=iv xs) fun x hx=>by
  obtain ⟨i,hi,rfl⟩:=List.mem_map.mp hx
  exact .int (h i hi) hb hb2 (Nat.le_refl _)
 rw [iv_len] at e
 exact e
end
def isInt:LV->Bool
 | .int _=>true
 | _=>false
def isBool:LV->Bool
 | .bl _=>true
 | _=>false
def isStr:LV->Bool
 | .str _=>true
 | _=>false
def isTup:LV->Bool
 | .tup _=>true
 | _=>false
theorem ty_kind {L:LH} {v:LV} {ts:List Ty} (h:tyOf L v = some ts):decide (Ty.int∈ts) = (isInt v || isBool v)∧decide (Ty.bool∈ts) = isBool v∧decide (Ty.str∈ts) = isStr v∧decide (Ty.tuple∈ts) = isTup v:=by
 cases v with
 | ref n =>
  unfold tyOf at h
  dsimp only at h
  split at h
  ·cases h
   exact ⟨rfl,rfl,rfl,rfl⟩
  ·cases h
   exact ⟨rfl,rfl,rfl,rfl⟩
  ·cases h
 | _ =>
  cases h
  exact ⟨rfl,rfl,rfl,rfl⟩
theorem isi_i {L:LH} {v:LV} {Q:LV->LH->Prop} (h:okV L v) (q:Q (.bl (isInt v || isBool v)) L):wp (isiV v .int) L Q:=by
 obtain ⟨ts,e⟩:=h
 exact wp_isi e (by rw [(ty_kind e).1]; exact q)
theorem isi_b {L:LH} {v:LV} {Q:LV->LH->Prop} (h:okV L v) (q:Q (.bl (isBool v)) L):wp (isiV v .bool) L Q:=by
 obtain ⟨ts,e⟩:=h
 exact wp_isi e (by rw [(ty_kind e).2.1]; exact q)
theorem isi_s {L:LH} {v:LV} {Q:LV->LH->Prop} (h:okV L v) (q:Q (.bl (isStr v)) L):wp (isiV v .str) L Q:=by
 obtain ⟨ts,e⟩:=h
 exact wp_isi e (by rw [(ty_kind e).2.2.1]; exact q)
theorem isi_t {L:LH} {v:LV} {Q:LV->LH->Prop} (h:okV L v) (q:Q (.bl (isTup v)) L):wp (isiV v .tuple) L Q:=by
 obtain ⟨ts,e⟩:=h
 exact wp_isi e (by rw [(ty_kind e).2.2.2]; exact q)
theorem okV.grow {L L':LH} {v:LV} (h:okV L v) (g:Grow L L'):okV L' v:=by
 obtain ⟨ts,e⟩:=h
 cases v with
 | ref n =>
  unfold tyOf at e
  dsimp only at e
  cases e1:L[n]? with
  | none=>rw [e1] at e; cases e
  | some o =>
   refine ⟨ts,?_⟩
   unfold tyOf
   dsimp only
   rw [grow_at g e1]
   rw [e1] at e
   exact e
 | _=>exact ⟨ts,e⟩
def inB (a b:Int):LV->Bool
 | .int i=>decide (a<=i) && decide (i<=b)
 | _=>false
theorem len_tup {L:LH} {xs:List LV}:lenV L (.tup xs) = some xs.length:=rfl
theorem intL_inB {a b:Int}:∀ {xs:List LV},xs.all (inB a b) = true->∃ ns:List Int,xs = iv ns∧∀ i∈ns,a<=i∧i<=b
 | [],_=>⟨[],rfl,fun _ h=>by cases h⟩
 | x :: xs,h=>by
  rw [List.all_cons,Bool.and_eq_true] at h
  obtain ⟨ns,rfl,h2⟩:=intL_inB h.2
  cases x with
  | int i =>
   have h1:=h.1
   unfold inB at h1
   rw [Bool.and_eq_true,decide_eq_true_eq,decide_eq_true_eq] at h1
   refine ⟨i :: ns,rfl,fun j hj=>?_⟩
   rcases List.mem_cons.mp hj with rfl | hj
   ·exact h1
   ·exact h2 j hj
  | _=>exact absurd h.1 Bool.false_ne_true
end Mv
namespace Mv
open PySem
theorem compS {s:Src} {src:List LV} {turn:LV->M (Option LV)} {Q:LV->LH->Prop} {L:LH} (f:LV->Option LV) (hl:src.length<=1000000) (hlen:s.len = src.length)
  (hat:∀ i x ys,src[i]? = some x->s.at i (L ++ [.lst ys]) = some x) (hfin:∀ ys,s.fin (L ++ [.lst ys]) = true)
  (step:∀ x∈src,∀ ys,wp (turn x) (L ++ [.lst ys]) fun r L2=>r = f x∧L2 = L ++ [.lst ys]) (fin:Q (.ref L.length) (L ++ [.lst (src.filterMap f)])) :
  wp (compK s turn (.ref L.length)) (L ++ [.lst []]) Q:=by
 have h:=wp_comp (s:=s) (turn:=turn) (Q:=Q) (L:=L) (fun i ys L'=>ys = (src.take i).filterMap f∧L' = L ++ [.lst ys]) ⟨rfl,rfl⟩ ?_ ?_
 ·rw [wp_bind,wp_new] at h
  exact h
 ·rintro i ys L' hi eD ⟨e1,e2⟩
  subst e2
  rw [hlen] at hi
  have hx:src[i]? = some src[i]:=List.getElem?_eq_getElem hi
  refine ⟨src[i],hat i _ _ hx,(step _ (List.getElem_mem hi) ys).imp fun r L2 ⟨z1,z2⟩=>?_⟩
  subst z2
  subst z1
  refine ⟨eD,?_⟩
  have ey:ys.length<=i:=by
   rw [e1]
   exact Nat.le_trans (List.length_filterMap_le _ _) (by rw [List.length_take]; omega)
  have et:(src.take (i + 1)).filterMap f = ys ++ (match f src[i] with | none=>[] | some y=>[y]):=by
   rw [take_succ' hi,List.filterMap_append,<- e1]
   congr 1
   cases hf:f src[i] <;> simp [hf]
  cases hf:f src[i] with
  | none =>
   rw [hf] at et
   exact ⟨by rw [et]; simp,rfl⟩
  | some y =>
   rw [hf] at et
   refine ⟨Nat.lt_of_le_of_lt (show ys.length<=1000000 by omega) (by decide),by rw [et],?_⟩
   rw [List.set_append_right _ _ (Nat.le_refl _),Nat.sub_self]
   rfl
 ·rintro ys L' eD ⟨e1,e2⟩
  subst e2
  have et:(src.take s.len).filterMap f = src.filterMap f:=by rw [hlen,List.take_length]
  rw [et] at e1
  subst e1
  exact ⟨hfin _,fin⟩
theorem compF {src:List LV} {turn:LV->M (Option LV)} {Q:LV->LH->Prop} {L:LH} (f:LV->Option LV) (hl:src.length<=1000000)
  (step:∀ x∈src,∀ ys,wp (turn x) (L ++ [.lst ys]) fun r L2=>r = f x∧L2 = L ++ [.lst ys]) (fin:Q (.ref L.length) (L ++ [.lst (src.filterMap f)])) :
  wp (compK (.fixed src) turn (.ref L.length)) (L ++ [.lst []]) Q :=
 compS f hl rfl (fun i x ys h=>h) (fun _=>rfl) step fin
end Mv
namespace Mv
open PySem
theorem at_live {n k i:Nat} {xs:List LV} {x:LV} {L L':LH} (e:L[n]? = some (.lst xs)) (g:Grow L L') (h:xs[i]? = some x):(Src.live n k).at i L' = some x:=by
 show (itemsL L' (.ref n)).bind (fun xs=>xs[i]?) = some x
 rw [items_lst (grow_at g e)]
 exact h
theorem fin_live {n:Nat} {xs:List LV} {L L':LH} (e:L[n]? = some (.lst xs)) (g:Grow L L'):(Src.live n xs.length).fin L' = true:=by
 show (match itemsL L' (.ref n) with
  | some ys=>decide (ys.length<=xs.length)
  | none=>false) = true
 rw [items_lst (grow_at g e)]
 exact decide_eq_true (Nat.le_refl _)
end Mv
namespace Mv
open PySem
end Mv
namespace Mv
open PySem
theorem cutG_lo {xs:List LV} {c:Nat}:cut xs (some (c:Int)) none = xs.drop c:=by
 unfold cut
 have e1:HT.sIx xs.length 0 (some (c:Int)) = min c xs.length:=by
  unfold HT.sIx
  dsimp only
  rw [if_neg (by omega),Int.toNat_natCast]
 have e2:HT.sIx xs.length xs.length none = xs.length:=rfl
 rw [e1,e2]
 by_cases h:c<=xs.length
 ·rw [Nat.min_eq_left h,List.take_of_length_le (by simp)]
 ·rw [Nat.min_eq_right (by omega),List.drop_of_length_le (Nat.le_refl _),List.drop_of_length_le (by omega)]
  simp
theorem cutG_hi {xs:List LV} {c:Nat}:cut xs none (some (c:Int)) = xs.take c:=by
 unfold cut
 have e1:HT.sIx xs.length xs.length (some (c:Int)) = min c xs.length:=by
  unfold HT.sIx
  dsimp only
  rw [if_neg (by omega),Int.toNat_natCast]
 have e2:HT.sIx xs.length 0 none = 0:=rfl
 rw [e1,e2]
 simp only [List.drop_zero,Nat.sub_zero]
 by_cases h:c<=xs.length
 ·rw [Nat.min_eq_left h]
 ·rw [Nat.min_eq_right (by omega),List.take_of_length_le (Nat.le_refl _),List.take_of_length_le (by omega)]
theorem eNew {L:LH} {o:LO}:(L ++ [o])[L.length]? = some o:=by rw [List.getElem?_append_right (Nat.le_refl _),Nat.sub_self]; rfl
theorem eOld {L:LH} {o p:LO} {i:Nat} (e:L[i]? = some p):(L ++ [o])[i]? = some p:=by rw [List.getElem?_append_left (lt_of e)]; exact e
end Mv
namespace Mv
open PySem
theorem repr_Q {B n w:Nat} {v:LV} {L:LH} {Q:LV->LH->Prop} (h:GQ L B n w v) (hn:n < 55) (hB:8<=B) (hW:(B + 2) * w + B<=16000000)
  (q:∀ s:Str,(∀ L',Grow L L'->∀ Q':LV->LH->Prop,Q' (.str s) L'->wp (biV .repr [v]) L' Q')->Q (.str s) L):wp (biV .repr [v]) L Q:=by
 obtain ⟨d,h1,h2⟩:=h
 exact wp_repr (h1.toR (by omega)) (h1.rep (by omega) hB h2 hW) (q _ fun L' g Q' q'=>wp_repr ((h1.grow g).toR (by omega)) ((h1.grow g).rep (by omega) hB h2 hW) q')
theorem repr_L {B n w k:Nat} {xs:List LV} {L:LH} {Q:LV->LH->Prop} (e:L[k]? = some (.lst xs)) (h:GQs L B n w xs) (hn:n + 1 < 55) (hB:8<=B) (hW:(B + 2) * w + B<=16000000)
  (q:∀ s:Str,(∀ L' k',Grow L L'->L'[k']? = some (.lst xs)->∀ Q':LV->LH->Prop,Q' (.str s) L'->wp (biV .repr [.ref k']) L' Q')->Q (.str s) L):wp (biV .repr [.ref k]) L Q:=by
 obtain ⟨ds,h1,h2⟩:=h
 have hb:PyData.bulk (.list ds)<=w:=by simpa only [PyData.bulk] using h2
 have d1:Dq L B (n + 1) (.ref k) (.list ds):=.lst e h1
 refine wp_repr (d1.toR (by omega)) (d1.rep (by omega) hB hb hW) (q _ fun L' k' g e' Q' q'=>?_)
 have d2:Dq L' B (n + 1) (.ref k') (.list ds):=.lst e' (h1.grow g)
 exact wp_repr (d2.toR (by omega)) (d2.rep (by omega) hB hb hW) q'
end Mv
namespace K23
open PySem Mv
theorem cI {k g:Nat} {xs:List LV} {L:LH} {Q:LV->LH->Prop} (f:Fn) (σ:LSt) (e:run prog (k + 1) g xs = callFn (run prog k) f xs) (e2:startL f.n xs = σ) (c:decide (xs.length = f.p) = true) (h:wp (Mv.M.bind (evB (run prog k) f.body σ) retK) L Q):wp (run prog (k + 1) g xs) L Q:=by
 rw [e,call_eq,wp_chk]
 subst e2
 exact ⟨c,h⟩
theorem setR_lst {n:Nat} {v:LV} {xs:List LV} {k:Int}:setR n v (some (.lst xs)) (.int k) = M.ofO (L2.ixN xs.length k) fun j=>setO n (.lst (xs.set j v)):=rfl
theorem at3_0 {a b c:LV}:L2.atI [a,b,c] 0 = some a:=rfl
theorem at3_1 {a b c:LV}:L2.atI [a,b,c] 1 = some b:=rfl
theorem at3_2 {a b c:LV}:L2.atI [a,b,c] 2 = some c:=rfl
theorem ixN3_2:L2.ixN 3 2 = some 2:=rfl
abbrev d3 (h:Nat) (m t:Int):List LV:=[.ref h,.int m,.int t]
structure Deck (d h t:Nat) (L:LH):Prop where
 ne:d≠h
 ex:∃ (xs:List Int) (m:Int),xs.length<=63∧L[d]? = some (.lst (d3 h m t))∧L[h]? = some (.lst (iv xs))
theorem Deck.grow {d h t:Nat} {L L':LH} (D:Deck d h t L) (g:Grow L L'):Deck d h t L':=by
 obtain ⟨E,rfl⟩:=g
 obtain ⟨n,xs,m,l,e1,e2⟩:=D
 exact ⟨n,xs,m,l,by rw [List.getElem?_append_left (lt_of e1)]; exact e1,by rw [List.getElem?_append_left (lt_of e2)]; exact e2⟩
theorem Deck.setO {d h t i:Nat} {o:LO} {L:LH} (D:Deck d h t L) (hi:i≠d∧i≠h):Deck d h t (L.set i o):=by
 obtain ⟨n,xs,m,l,e1,e2⟩:=D
 exact ⟨n,xs,m,l,by rw [List.getElem?_set_ne hi.1]; exact e1,by rw [List.getElem?_set_ne hi.2]; exact e2⟩
def drawTail:List IS:=f_l_draw.body.drop 3
theorem draw_tail {R:Cal} {L:LH} {d h:Nat} {n t m m0:Int} {x:Option LV} {Q:LV->LH->Prop} (hn:0 < n) (ht:0<=t∧t < 1099511627776) (e:L[d]? = some (.lst (d3 h m0 t))) (q:∀ z:Int,0<=z->z < n->Q (.int z) L) :
  wp (evB R drawTail [some (.ref d),some (.int n),some (.int m),x]) L fun a L1=>wp (retK a) L1 Q:=by
 simp only [drawTail,f_l_draw,List.drop_succ_cons,List.drop_zero,e,at3_2,rulesAX,b_nil',b_cons',setAll,Nat.reduceAdd,Nat.reduceLT]
 refine ⟨mulOk_r (by decide),by decide,?_,mulOk_l (by decide),by decide,mulOk_r (by decide),by decide,by decide,decide_eq_true hn,?_⟩
 ·refine mulOk_r ⟨?_,?_⟩
  ·have:=Int.emod_nonneg (m * 39373 + 23) (by decide:(2147483647:Int)≠0)
   omega
  ·have:=Int.emod_lt_of_pos (m * 39373 + 23) (by decide:(0:Int) < 2147483647)
   omega
 ·exact q _ (Int.emod_nonneg _ (by omega)) (Int.emod_lt_of_pos _ hn)
theorem draw_ok {k d h t:Nat} {n:Int} {L:LH} {Q:LV->LH->Prop} (D:Deck d h t L) (hn:0 < n) (hn2:divOk n = true) (ht:t < 274877906944) (q:∀ (z:Int) (L':LH),0<=z->z < n->Deck d h (t + 1) L'->Fr d h L L'->Q (.int z) L'):wp (run prog (k + 1) 8 [.ref d,.int n]) L Q:=by
 obtain ⟨ne,xs,m,lx,e1,e2⟩:=D
 have l1:=lt_of e1
 have l2:=lt_of e2
 show wp (callFn (run prog k) f_l_draw [.ref d,.int n]) L Q
 rw [call_eq,wp_chk]
 refine ⟨rfl,?_⟩
 show wp (M.bind (evB _ (f_l_draw.body.take 3 ++ drawTail) [some (.ref d),some (.int n),none,none]) retK) L Q
 rw [b_app]
 have hs1:∀ o,(L.set d o)[d]? = some o:=fun o=>List.getElem?_set_self l1
 have hs2:∀ o,(L.set d o)[h]? = L[h]?:=fun o=>List.getElem?_set_ne ne
 have ha1:∀ o x,(L.set d o ++ [x])[d]? = some o:=fun o x=>by rw [List.getElem?_append_left (by simpa using l1),hs1]
 have ha2:∀ o x,(L.set d o ++ [x])[h]? = L[h]?:=fun o x=>by rw [List.getElem?_append_left (by simpa using l2),hs2]
 have ha3:∀ o x,(L.set d o ++ [x])[L.length]? = some x:=fun o x=>by rw [List.getElem?_append_right (by simp)]; simp
 simp only [f_l_draw,List.take_succ_cons,List.take_zero,e1,hs1,hs2,at3_0,at3_1,at3_2,ixN3_2,setR_lst,rulesAX,b_nil',b_cons',setAll,Nat.reduceAdd,Nat.reduceLT]
 refine ⟨mulOk_l (by decide),by decide,wp_ne (eq_lst (ys:=[]) ((ha2 _ _).trans e2) (ha3 _ _)) rfl ?_⟩
 simp only [rulesAX,b_nil',b_cons',setAll,Nat.reduceAdd,Nat.reduceLT]
 constructor
 ·intro c
  simp only [hs1,ha1,ha2,e2,at3_0,rulesAX,b_nil',b_cons',setAll,Nat.reduceAdd,Nat.reduceLT]
  have c:xs≠[]:=by simpa using c
  obtain ⟨ys,z,rfl⟩:∃ ys z,xs = ys ++ [z]:=⟨xs.dropLast,xs.getLast c,(List.dropLast_concat_getLast c).symm⟩
  have e3:iv (ys ++ [z]) = iv ys ++ [.int z]:=by simp [iv]
  have ly:ys.length<=62:=by rw [List.length_append] at lx; simpa using lx
  refine ⟨(),by simp only [lstAt,ha2,e2],.int z,by rw [e3]; simp,by decide,?_⟩
  have hq1:∀ o x p,((L.set d o ++ [x]).set h p)[d]? = some o:=fun o x p=>by rw [List.getElem?_set_ne (Ne.symm ne),ha1]
  have hq2:∀ o x p,((L.set d o ++ [x]).set h p)[h]? = some p:=fun o x p=>List.getElem?_set_self (by simp; omega)
  have hq3:∀ o x p r,(((L.set d o ++ [x]).set h p).set h r)[d]? = some o:=fun o x p r=>by rw [List.getElem?_set_ne (Ne.symm ne),hq1]
  have hq4:∀ o x p r,(((L.set d o ++ [x]).set h p).set h r)[h]? = some r:=fun o x p r=>List.getElem?_set_self (by simp; omega)
  have e4:(iv (ys ++ [z])).dropLast = iv ys:=by rw [e3,List.dropLast_concat]
  simp only [e4,rulesAX,b_nil',b_cons',setAll,Nat.reduceAdd,Nat.reduceLT]
  constructor
  ·intro c
   simp only [hq1,hq2,at3_0,rulesAX,b_nil',b_cons',setAll,Nat.reduceAdd,Nat.reduceLT]
   refine ⟨(),by simp only [lstAt,hq2],hn2,?_,decide_eq_true hn,q _ _ (Int.emod_nonneg _ (by omega)) (Int.emod_lt_of_pos _ hn) ⟨ne,ys ++ [z / n],m,?_,?_,?_⟩ ?_⟩
   ·rw [iv_len]
    exact decide_eq_true (Nat.lt_of_le_of_lt ly (by decide))
   ·rw [List.length_append]
    simpa using ly
   ·rw [hq3]
    rfl
   ·rw [hq4]
    simp [iv]
   ·exact ((Fr.setD.trans (Fr.grow ⟨_,rfl⟩)).trans Fr.setH).trans Fr.setH
  ·intro c
   refine ⟨by decide,draw_tail (t:=(t:Int) + 1) hn ⟨by omega,by omega⟩ (hq1 _ _ _) fun z' z0 z1=>q z' _ z0 z1 ⟨ne,ys,m,by omega,?_,?_⟩ ?_⟩
   ·rw [hq1]
    rfl
   ·rw [hq2]
   ·exact (Fr.setD.trans (Fr.grow ⟨_,rfl⟩)).trans Fr.setH
 ·intro c
  refine draw_tail (t:=(t:Int) + 1) hn ⟨by omega,by omega⟩ (ha1 _ _) fun z z0 z1=>q z _ z0 z1 ⟨ne,xs,m,lx,?_,?_⟩ ?_
  ·rw [ha1]
   rfl
  ·rw [ha2,e2]
  ·exact Fr.setD.trans (Fr.grow ⟨_,rfl⟩)
theorem pick_ok {k d h t s:Nat} {ys:List LV} {L:LH} {Q:LV->LH->Prop} (D:Deck d h t L) (ht:t < 274877906944) (hs:s≠d∧s≠h) (e:L[s]? = some (.lst ys)) (hl:0 < ys.length∧ys.length < 1000)
  (q:∀ (z:LV) (L':LH),z∈ys->Deck d h (t + 1) L'->Fr d h L L'->Q z L'):wp (run prog (k + 2) 9 [.ref d,.ref s]) L Q:=by
 refine cI f_l_pick [some (.ref d),some (.ref s)] rfl rfl rfl ?_
 simp only [f_l_pick,len_lst e,pm01,rulesAX,b_nil',b_cons',setAll,Nat.reduceAdd,Nat.reduceLT]
 refine draw_ok D (by omega) (divOk_of ⟨by omega,by omega⟩) ht fun z L' z0 z1 D' F=>?_
 have e':L'[s]? = some (.lst ys):=(F.at_ s (lt_of e) hs.1 hs.2).trans e
 simp only [e',rulesAX,b_nil',b_cons',setAll,Nat.reduceAdd,Nat.reduceLT]
 have hz:z.toNat < ys.length:=by omega
 have ez:z = (z.toNat:Int):=by omega
 refine ⟨ys[z.toNat],?_,q _ _ (List.getElem_mem hz) D' F⟩
 have e2:=L2.atI_nat (List.getElem?_eq_getElem hz)
 rw [<- ez] at e2
 exact e2
theorem deck_ok {k:Nat} {ns:List Int} {Q:LV->LH->Prop} (hl:ns.length<=63) (q:∀ L',Deck 4 3 0 L'->Q (.ref 4) L'):wp (run prog (k + 1) 7 [.ref 0]) [.frz ns] Q:=by
 refine cI f_l_deck [some (.ref 0),none,none,none] rfl rfl rfl ?_
 simp only [f_l_deck,itemsL,Mv.items,List.getElem?_cons_zero,List.getElem?_cons_succ,List.cons_append,List.nil_append,rulesAX,b_nil',b_cons',setAll,Nat.reduceAdd,Nat.reduceLT]
 have ec:cut (List.map LV.int ns) none (some 63) = iv ns:=by
  have z:=cut_hi (xs:=ns) (c:=63) (by decide)
  rw [show Int.toNat 63 = 63 from rfl,List.take_of_length_le hl] at z
  exact z
 rw [ec]
 refine it_ref rfl ?_
 refine wp_for (fun i σ L'=>(∃ m d,σ = [some (.ref 0),some (.ref 2),some (.int m),d])∧L' = [LO.frz ns,LO.lst (iv ns),LO.lst (iv ns)]) ⟨⟨_,_,rfl⟩,rfl⟩ ?_ ?_
 ·rintro i σ L' hi ⟨⟨m,d,rfl⟩,rfl⟩
  have hi:i < ns.length:=by simpa [Src.len,iv_len] using hi
  refine ⟨.int ns[i],iv_get hi,?_⟩
  simp only [rulesAX,b_nil',b_cons',setAll,Nat.reduceAdd,Nat.reduceLT]
  exact ⟨mulOk_r (by decide),by decide,by decide,⟨_,_,rfl⟩,rfl⟩
 ·rintro σ L' ⟨⟨m,d,rfl⟩,rfl⟩
  refine ⟨by simp [Src.fin,itemsL,iv_len],?_⟩
  simp only [itemsL,Mv.items,List.getElem?_cons_zero,List.getElem?_cons_succ,List.cons_append,List.nil_append,rulesAX,b_nil',b_cons',setAll,Nat.reduceAdd,Nat.reduceLT]
  refine ⟨by decide,q _ ⟨by decide,ns.reverse,m,by simpa using hl,?_,?_⟩⟩
  ·rfl
  ·simp [iv]
theorem Deck.lt {d h t:Nat} {L:LH} (D:Deck d h t L):d < L.length∧h < L.length:=by
 obtain ⟨_,_,_,_,e1,e2⟩:=D
 exact ⟨lt_of e1,lt_of e2⟩
theorem eNew {L:LH} {o:LO}:(L ++ [o])[L.length]? = some o:=by rw [List.getElem?_append_right (Nat.le_refl _),Nat.sub_self]; rfl
theorem eOld {L:LH} {o p:LO} {i:Nat} (e:L[i]? = some p):(L ++ [o])[i]? = some p:=by rw [List.getElem?_append_left (lt_of e)]; exact e
theorem ixN_nat {n i:Nat} (h:i < n):L2.ixN n (i:Int) = some i:=by
 unfold L2.ixN
 rw [if_pos (by omega),if_pos (by omega)]
 simp
end K23
namespace K23
open PySem Mv
theorem l_size_ok {k:Nat} {s:Int} {n:Nat} {L:LH} {Q:LV->LH->Prop} (hs:0 < s∧s < 100) (hn:n < 1000) (h:Q (.int (s ^ n)) L):wp (run prog (k + 1) 10 [.int s,.int n]) L Q:=by
 refine cI f_l_size [some (.int s),some (.int n),none,none] rfl rfl rfl ?_
 simp only [f_l_size,rulesAX,b_nil',b_cons',setAll,Nat.reduceAdd,Nat.reduceLT]
 refine ⟨by simp only [ints62]; exact decide_eq_true (by omega),?_⟩
 have e0:(rngV 0 ((n:Int).toNat)).len = n:=by simp [Src.len,rngV]
 refine wp_for (fun i σ L'=>∃ d,σ = [some (.int s),some (.int n),some (.int (s ^ i)),d]∧L' = L) ⟨none,by simp,rfl⟩ ?_ ?_
 ·rintro i σ L' hi ⟨d,rfl,rfl⟩
  rw [e0] at hi
  refine ⟨.int i,by simp [Src.at,rngV,hi],?_⟩
  simp only [rulesAX,b_nil',b_cons',setAll,Nat.reduceAdd,Nat.reduceLT]
  exact ⟨mulOk_r (by omega),some (.int i),by rw [Int.pow_succ],rfl⟩
 ·rintro σ L' ⟨d,rfl,rfl⟩
  refine ⟨rfl,?_⟩
  simp only [rulesAX,b_nil',b_cons',setAll,Nat.reduceAdd,Nat.reduceLT]
  rw [e0]
  exact h
theorem rng_iv (n:Nat):∃ ts:List Int,((List.range n).map fun (k:Nat)=>LV.int (0 + (k:Int))) = iv ts∧ts.length = n∧∀ x∈ts,0<=x∧x < n:=by
 refine ⟨(List.range n).map fun (i:Nat)=>(0:Int) + (i:Int),?_,by simp,fun x hx=>?_⟩
 ·simp only [iv,List.map_map]
  rfl
 ·obtain ⟨i,hi,rfl⟩:=List.mem_map.mp hx
  have:=List.mem_range.mp hi
  omega
theorem rgl_ok {n:Nat} {L:LH} {Q:LV->LH->Prop} (hn:n<=10000) (q:∀ ts:List Int,ts.length = n->(∀ x∈ts,0<=x∧x < n)->Q (.ref L.length) (L ++ [.lst (iv ts)])):wp (rglV false 0 (n:Int)) L Q:=by
 obtain ⟨ts,et,hl,hx⟩:=rng_iv n
 have e1:((n:Int) - 0).toNat = n:=by omega
 unfold rglV
 rw [e1]
 refine wp_chk.mpr ⟨decide_eq_true ⟨by decide,by decide,by omega,by omega,Nat.le_trans hn (by decide)⟩,?_⟩
 rw [et]
 exact wp_new.mpr (q ts hl hx)
structure Tab (n:Nat) (xs:List Int):Prop where
 len:xs.length = n
 rng:∀ x∈xs,0<=x∧x < n
theorem Tab.set {n p:Nat} {xs:List Int} {a:Int} (T:Tab n xs) (ha:0<=a∧a < n):Tab n (xs.set p a) :=
 ⟨by rw [List.length_set]; exact T.len,fun x hx=>by
  rcases List.mem_or_eq_of_mem_set hx with h | rfl
  ·exact T.rng x h
  ·exact ha⟩
theorem iv_set {xs:List Int} {i:Nat} {v:Int}:(iv xs).set i (.int v) = iv (xs.set i v):=by simp [iv,List.map_set]
theorem Deck.w {d h t t':Nat} {L:LH} (D:Deck d h t L) (e:t = t'):Deck d h t' L:=e ▸ D
theorem exchange_ok {k n d h t:Nat} {L:LH} {Q:LV->LH->Prop} (D:Deck d h t L) (hn:1<=n∧n<=900) (ht:t < 100000000)
  (q:∀ (xs:List Int) (t':Nat) L',Tab n xs->t'<=t + 19->Deck d h t' L'->Fr d h L L'->Q (.tup (iv xs)) L'):wp (run prog (k + 3) 11 [.ref d,.int n,.int 0]) L Q:=by
 obtain ⟨l1,l2⟩:=D.lt
 refine cI f_l_exchange [some (.ref d),some (.int n),some (.int 0),none,none,none,none] rfl rfl rfl ?_
 simp only [f_l_exchange,pm01,rulesAY,b_nil',b_cons',setAll,Nat.reduceAdd,Nat.reduceLT,reduceCtorEq]
 refine rgl_ok (by omega) fun ts hl hx=>?_
 try simp only [pm01,rulesAY,b_nil',b_cons',setAll,Nat.reduceAdd,Nat.reduceLT,reduceCtorEq]
 refine ⟨by decide,?_⟩
 refine pick_ok (k:=k) ((D.grow ⟨_,rfl⟩).grow ⟨_,rfl⟩) (by omega) (by simp only [List.length_append,List.length_singleton]; omega) eNew (by simp) fun x L1 hx1 D1 F1=>?_
 obtain ⟨m,rfl,hm⟩:∃ m:Nat,x = .int m∧m<=9:=by
  simp only [List.mem_cons,List.not_mem_nil,or_false] at hx1
  rcases hx1 with rfl | rfl | rfl | rfl
  ·exact ⟨1,rfl,by decide⟩
  ·exact ⟨2,rfl,by decide⟩
  ·exact ⟨4,rfl,by decide⟩
  ·exact ⟨9,rfl,by decide⟩
 have F01:Fr d h L L1:=(Fr.grow (Grow.trans ⟨_,rfl⟩ ⟨_,rfl⟩)).trans F1
 have e1:L1[L.length]? = some (.lst (iv ts)):=(F1.at_ _ (by simp only [List.length_append,List.length_singleton]; omega) (by omega) (by omega)).trans (eOld eNew)
 have e0:(rngV 0 ((m:Int).toNat)).len = m:=by simp [Src.len,rngV]
 simp only [rulesAY,b_nil',b_cons',setAll,Nat.reduceAdd,Nat.reduceLT,reduceCtorEq]
 refine ⟨by simp only [ints62]; exact decide_eq_true (by omega),?_⟩
 refine wp_for (fun i σ L'=>∃ (xs:List Int) (x4 x5 x6:Option LV),σ = [some (.ref d),some (.int n),some (.int 0),some (.ref L.length),x4,x5,x6]∧Tab n xs∧L'[L.length]? = some (.lst (iv xs))∧Deck d h (t + 1 + 2 * i) L'∧Fr d h L L') ⟨ts,_,_,_,rfl,⟨hl,hx⟩,e1,D1,F01⟩ ?_ ?_
 ·rintro i σ L' hi ⟨xs,x4,x5,x6,rfl,T,e',D',F'⟩
  rw [e0] at hi
  refine ⟨.int i,by simp [Src.at,rngV,hi],?_⟩
  simp only [pm01,rulesAY,b_nil',b_cons',setAll,Nat.reduceAdd,Nat.reduceLT,reduceCtorEq]
  refine draw_ok D' (by omega) (divOk_of ⟨by omega,by omega⟩) (by omega) fun a M1 a0 a1 D2 F2=>?_
  try simp only [pm01,rulesAY,b_nil',b_cons',setAll,Nat.reduceAdd,Nat.reduceLT,reduceCtorEq]
  refine draw_ok D2 (by omega) (divOk_of ⟨by omega,by omega⟩) (by omega) fun b M2 b0 b1 D3 F3=>?_
  obtain ⟨a,rfl⟩:∃ m:Nat,a = (m:Int):=⟨a.toNat,by omega⟩
  obtain ⟨b,rfl⟩:∃ m:Nat,b = (m:Int):=⟨b.toNat,by omega⟩
  have e2:M2[L.length]? = some (.lst (iv xs)):=(F3.at_ _ (lt_of ((F2.at_ _ (lt_of e') (by omega) (by omega)).trans e')) (by omega) (by omega)).trans ((F2.at_ _ (lt_of e') (by omega) (by omega)).trans e')
  have la:a < xs.length:=by rw [T.len]; omega
  have lb:b < xs.length:=by rw [T.len]; omega
  have ga:L2.atI (iv xs) ((0:Int) + (a:Int)) = some (.int xs[a]):=by rw [Int.zero_add]; exact L2.atI_nat (iv_get la)
  have gb:L2.atI (iv xs) ((0:Int) + (b:Int)) = some (.int xs[b]):=by rw [Int.zero_add]; exact L2.atI_nat (iv_get lb)
  have hz:∀ c:Nat,(0:Int) + (c:Int) = (c:Int):=fun c=>Int.zero_add _
  have ia:L2.ixN (iv xs).length ((0:Int) + (a:Int)) = some a:=by rw [Int.zero_add]; exact ixN_nat (by rw [iv_len]; exact la)
  have ib:L2.ixN (iv xs).length ((0:Int) + (b:Int)) = some b:=by rw [Int.zero_add]; exact ixN_nat (by rw [iv_len]; exact lb)
  have hs2:∀ o,(M2.set L.length o)[L.length]? = some o:=fun o=>List.getElem?_set_self (lt_of e2)
  simp only [e2,ga,gb,ixR_lst,Mv.items,ITs.len,setR_lst,ia,ib,hs2,rulesAY,b_nil',b_cons',setAll,Nat.reduceAdd,Nat.reduceLT,reduceCtorEq]
  refine ⟨by decide,by simp,?_⟩
  simp only [turnQ]
  have hT:Tab n ((xs.set a xs[b]).set b xs[a]):=(T.set (T.rng _ (List.getElem_mem lb))).set (T.rng _ (List.getElem_mem la))
  refine ⟨(xs.set a xs[b]).set b xs[a],_,_,_,rfl,hT,?_,((D3.setO (by omega)).setO (by omega)).w (by omega),(((F'.trans F2).trans F3).setNew (Nat.le_refl _)).setNew (Nat.le_refl _)⟩
  rw [List.getElem?_set_self (by rw [List.length_set]; exact lt_of e2),iv_set,iv_set]
 ·rintro σ L' ⟨xs,x4,x5,x6,rfl,T,e',D',F'⟩
  rw [e0] at D'
  refine ⟨rfl,?_⟩
  simp only [rulesAY,b_nil',b_cons',setAll,Nat.reduceAdd,Nat.reduceLT,reduceCtorEq]
  exact ⟨_,items_lst e',q xs _ L' T (by omega) D' F'⟩
theorem long_ok {k s d h t:Nat} {L:LH} {Q:LV->LH->Prop} (D:Deck d h t L) (hs:2<=s∧s < 7) (ht:t < 100000000)
  (q:∀ (l t':Nat) L',(1<=l∧l<=8)->s ^ l<=130->t'<=t + 8->Deck d h t' L'->Fr d h L L'->Q (.int l) L'):wp (run prog (k + 2) 12 [.ref d,.int s,.int 130]) L Q:=by
 refine cI f_l_long [some (.ref d),some (.int s),some (.int 130),none] rfl rfl rfl ?_
 simp only [f_l_long,rulesAY,b_nil',b_cons',setAll,Nat.reduceAdd,Nat.reduceLT,reduceCtorEq]
 refine wp_whl (fun m σ L'=>∃ l t':Nat,σ = [some (.ref d),some (.int s),some (.int 130),some (.int l)]∧(1<=l∧l<=8)∧s ^ l<=130∧m = 20 - l∧t' + 1<=t + l∧Deck d h t' L'∧Fr d h L L') 19 (by decide) ⟨1,t,rfl,by decide,by simp; omega,rfl,by omega,D,Fr.refl⟩ ?_
 rintro m σ L' ⟨l,t',rfl,hl,hp,rfl,ht',D',F'⟩
 have ch:(l:Int) + 1 = ((l + 1:Nat):Int):=by omega
 have hq:∀ L2 t2,t2<=t + 8->Deck d h t2 L2->Fr d h L L2->Q (.int (l:Int)) L2:=fun L2 t2 h2 D2 F2=>q l t2 _ hl hp h2 D2 F2
 simp only [pm01,ch,rulesAY,b_nil',b_cons',setAll,Nat.reduceAdd,Nat.reduceLT,reduceCtorEq]
 refine l_size_ok (by omega) (by omega) ?_
 simp only [rulesAY,b_nil',b_cons',setAll,Nat.reduceAdd,Nat.reduceLT,reduceCtorEq]
 refine ⟨fun c=>?_,fun c=>?_⟩
 ·have c:(s:Int) ^ (l + 1)<=130:=by simpa using c
  have c2:s ^ (l + 1)<=130:=by
   have e:((s ^ (l + 1):Nat):Int) = (s:Int) ^ (l + 1):=Int.natCast_pow s (l + 1)
   omega
  have l8:l + 1<=8:=by
   refine Nat.le_of_not_lt fun z=>?_
   have h1:2 ^ (l + 1)<=s ^ (l + 1):=Nat.pow_le_pow_left hs.1 _
   have h2:2 ^ 9<=2 ^ (l + 1):=Nat.pow_le_pow_right (by decide) z
   omega
  try simp only [pm01,rulesAY,b_nil',b_cons',setAll,Nat.reduceAdd,Nat.reduceLT,reduceCtorEq]
  refine draw_ok (n:=3) D' (by decide) (divOk_of ⟨by decide,by decide⟩) (by omega) fun z L2 z0 z1 D2 F2=>?_
  simp only [rulesAY,b_nil',b_cons',setAll,Nat.reduceAdd,Nat.reduceLT,reduceCtorEq]
  refine ⟨_,rfl,fun c3=>hq L2 _ (by omega) D2 (F'.trans F2),fun c3=>?_⟩
  simp only [whlQ]
  exact ⟨20 - (l + 1),by omega,l + 1,t' + 1,rfl,by omega,c2,rfl,by omega,D2,F'.trans F2⟩
 ·exact ⟨false,rfl,fun _=>hq _ _ (by omega) D' F',fun z=>by cases z⟩
inductive TourV (s:Nat):LV->Prop
 | still:TourV s (.tup [.str "still"])
 | one (l o:Nat) (xs:List Int):(1<=l∧l<=8)->s ^ l<=130->o < l->Tab (s ^ l) xs->TourV s (.tup [.str "one",.int l,.int o,.tup (iv xs)])
 | two (l o b:Nat) (xs ys:List Int):(1<=l∧l<=8)->s ^ l<=130->o < l->b<=l->Tab (s ^ l) xs->Tab (s ^ l) ys->TourV s (.tup [.str "two",.int l,.int o,.int b,.tup (iv xs),.tup (iv ys)])
theorem tour_ok {k s d h t:Nat} {L:LH} {Q:LV->LH->Prop} (D:Deck d h t L) (hs:2<=s∧s < 7) (ht:t < 1000000)
  (q:∀ v t' L',TourV s v->t'<=t + 60->Deck d h t' L'->Fr d h L L'->Q v L'):wp (run prog (k + 4) 13 [.ref d,.int s,.int 130]) L Q:=by
 obtain ⟨l1,l2⟩:=D.lt
 refine cI f_l_tour [some (.ref d),some (.int s),some (.int 130),none,none,none,none,none] rfl rfl rfl ?_
 simp only [f_l_tour,pm01,pm012,rulesAY,b_nil',b_cons',setAll,Nat.reduceAdd,Nat.reduceLT,reduceCtorEq]
 refine ⟨by decide,?_⟩
 refine pick_ok (k:=k + 1) (D.grow ⟨_,rfl⟩) (by omega) (by omega) eNew (by simp) fun x L1 hx D1 F1=>?_
 have F01:Fr d h L L1:=(Fr.grow ⟨_,rfl⟩).trans F1
 obtain ⟨z,rfl,hz⟩:∃ z:Str,x = .str z∧(z = Str.ofString "still"∨z = Str.ofString "one"∨z = Str.ofString "two"):=by
  simp only [List.mem_cons,List.not_mem_nil,or_false] at hx
  rcases hx with rfl | rfl | rfl | rfl | rfl | rfl
  ·exact ⟨_,rfl,.inl rfl⟩
  ·exact ⟨_,rfl,.inr (.inl rfl)⟩
  ·exact ⟨_,rfl,.inr (.inl rfl)⟩
  ·exact ⟨_,rfl,.inr (.inr rfl)⟩
  ·exact ⟨_,rfl,.inr (.inr rfl)⟩
  ·exact ⟨_,rfl,.inr (.inr rfl)⟩
 try simp only [pm01,pm012,rulesAY,b_nil',b_cons',setAll,Nat.reduceAdd,Nat.reduceLT,reduceCtorEq]
 refine long_ok (k:=k + 1) D1 hs (by omega) fun l t2 M2 hl hp ht2 D2 F2=>?_
 try simp only [pm01,pm012,rulesAY,b_nil',b_cons',setAll,Nat.reduceAdd,Nat.reduceLT,reduceCtorEq]
 refine l_size_ok (k:=k + 2) (by omega) (by omega) ?_
 have ep:(s:Int) ^ l = ((s ^ l:Nat):Int):=(Int.natCast_pow s l).symm
 have hp1:1<=s ^ l:=Nat.pow_pos (by omega)
 have F02:=F01.trans F2
 try simp only [pm01,pm012,ep,rulesAY,b_nil',b_cons',setAll,Nat.reduceAdd,Nat.reduceLT,reduceCtorEq]
 have sn:Str.ofString "one"≠Str.ofString "still":=by decide +kernel
 have tn:Str.ofString "two"≠Str.ofString "still":=by decide +kernel
 have un:Str.ofString "two"≠Str.ofString "one":=by decide +kernel
 rcases hz with rfl | rfl | rfl
 ·refine wp_eq (b:=decide (Str.ofString "still" = Str.ofString "still")) rfl rfl ?_
  simp only [decide_true,rulesAY,b_nil',b_cons',setAll,Nat.reduceAdd,Nat.reduceLT,reduceCtorEq]
  exact ⟨by decide,q _ t2 _ .still (by omega) D2 F02⟩
 ·refine wp_eq (b:=decide (Str.ofString "one" = Str.ofString "still")) rfl rfl ?_
  simp only [decide_eq_false sn,rulesAY,b_nil',b_cons',setAll,Nat.reduceAdd,Nat.reduceLT,reduceCtorEq]
  refine wp_eq (b:=decide (Str.ofString "one" = Str.ofString "one")) rfl rfl ?_
  simp only [decide_true,pm01,pm012,rulesAY,b_nil',b_cons',setAll,Nat.reduceAdd,Nat.reduceLT,reduceCtorEq]
  refine draw_ok D2 (by omega) (divOk_of ⟨by omega,by omega⟩) (by omega) fun o M3 o0 o1 D3 F3=>?_
  obtain ⟨o,rfl⟩:∃ m:Nat,o = (m:Int):=⟨o.toNat,by omega⟩
  try simp only [pm01,pm012,rulesAY,b_nil',b_cons',setAll,Nat.reduceAdd,Nat.reduceLT,reduceCtorEq]
  refine exchange_ok (k:=k) D3 ⟨hp1,by omega⟩ (by omega) fun xs t4 M4 T ht4 D4 F4=>?_
  exact ⟨by decide,q _ t4 _ (.one l o xs hl hp (by omega) T) (by omega) D4 ((F02.trans F3).trans F4)⟩
 ·refine wp_eq (b:=decide (Str.ofString "two" = Str.ofString "still")) rfl rfl ?_
  simp only [decide_eq_false tn,rulesAY,b_nil',b_cons',setAll,Nat.reduceAdd,Nat.reduceLT,reduceCtorEq]
  refine wp_eq (b:=decide (Str.ofString "two" = Str.ofString "one")) rfl rfl ?_
  simp only [decide_eq_false un,pm01,pm012,rulesAY,b_nil',b_cons',setAll,Nat.reduceAdd,Nat.reduceLT,reduceCtorEq]
  refine exchange_ok (k:=k) D2 ⟨hp1,by omega⟩ (by omega) fun xs t4 M4 T ht4 D4 F4=>?_
  try simp only [pm01,pm012,rulesAY,b_nil',b_cons',setAll,Nat.reduceAdd,Nat.reduceLT,reduceCtorEq]
  refine exchange_ok (k:=k) D4 ⟨hp1,by omega⟩ (by omega) fun ys t5 M5 T2 ht5 D5 F5=>?_
  try simp only [pm01,pm012,rulesAY,b_nil',b_cons',setAll,Nat.reduceAdd,Nat.reduceLT,reduceCtorEq]
  refine draw_ok D5 (by omega) (divOk_of ⟨by omega,by omega⟩) (by omega) fun o M6 o0 o1 D6 F6=>?_
  obtain ⟨o,rfl⟩:∃ m:Nat,o = (m:Int):=⟨o.toNat,by omega⟩
  try simp only [pm01,pm012,rulesAY,b_nil',b_cons',setAll,Nat.reduceAdd,Nat.reduceLT,reduceCtorEq]
  refine draw_ok D6 (by omega) (divOk_of ⟨by omega,by omega⟩) (by omega) fun b M7 b0 b1 D7 F7=>?_
  obtain ⟨b,rfl⟩:∃ m:Nat,b = (m:Int):=⟨b.toNat,by omega⟩
  try simp only [rulesAY,b_nil',b_cons',setAll,Nat.reduceAdd,Nat.reduceLT,reduceCtorEq]
  exact ⟨by decide,q _ _ _ (.two l o b xs ys hl hp (by omega) (by omega) T T2) (by omega) D7 ((((F02.trans F4).trans F5).trans F6).trans F7)⟩
end K23
namespace K23
open PySem Mv
theorem power_ok {k:Nat} {s:Int} {n:Nat} {L:LH} {Q:LV->LH->Prop} (hs:0 < s∧s < 100) (hn:n < 1000) (h:Q (.int (s ^ n)) L):wp (run prog (k + 1) 2 [.int s,.int n]) L Q:=by
 refine cI f_power [some (.int s),some (.int n),none,none] rfl rfl rfl ?_
 simp only [f_power,rulesSX,b_nil',b_cons',setAll,Nat.reduceAdd,Nat.reduceLT]
 refine ⟨by simp only [ints62]; exact decide_eq_true (by omega),?_⟩
 have e0:(rngV 0 ((n:Int).toNat)).len = n:=by simp [Src.len,rngV]
 refine wp_for (fun i σ L'=>∃ d,σ = [some (.int s),some (.int n),some (.int (s ^ i)),d]∧L' = L) ⟨none,by simp,rfl⟩ ?_ ?_
 ·rintro i σ L' hi ⟨d,rfl,rfl⟩
  rw [e0] at hi
  refine ⟨.int i,by simp [Src.at,rngV,hi],?_⟩
  simp only [rulesSX,b_nil',b_cons',setAll,Nat.reduceAdd,Nat.reduceLT]
  exact ⟨mulOk_r (by omega),some (.int i),by rw [Int.pow_succ],rfl⟩
 ·rintro σ L' ⟨d,rfl,rfl⟩
  refine ⟨rfl,?_⟩
  simp only [rulesSX,b_nil',b_cons',setAll,Nat.reduceAdd,Nat.reduceLT]
  rw [e0]
  exact h
theorem powN {k:Nat} {s n:Nat} {L:LH} {Q:LV->LH->Prop} (hs:0 < s∧s < 100) (hn:n < 1000) (h:Q (.int ((s ^ n:Nat):Int)) L):wp (run prog (k + 1) 2 [.int s,.int n]) L Q:=by
 refine power_ok (by omega) hn ?_
 rw [<- Int.natCast_pow]
 exact h
theorem rng_len {n:Nat}:(rngV 0 n).len = n:=by simp [Src.len,rngV]
theorem rng_at {n i:Nat} {M:LH} (h:i < n):(rngV 0 n).at i M = some (.int (0 + i)):=by simp [Src.at,rngV,h]
theorem aug_mul {i j:Int} {L:LH} {Q:LV->LH->Prop} (h:decide ((-(2 ^ 64) < i∧i < 2 ^ 64)∨(-(2 ^ 64) < j∧j < 2 ^ 64)) = true) (q:Q (.int (i * j)) L):wp (augV .mul (.int i) (.int j)) L Q:=wp_chk.mpr ⟨h,wp_ret.mpr q⟩
theorem toomany_ok {k s c:Nat} {L:LH} {Q:LV->LH->Prop} (hs:2<=s∧s < 37) (hp:s ^ c<=50000) (q:Q (.bl false) L):wp (run prog (k + 1) 3 [.int s,.int c]) L Q:=by
 show wp (callFn (run prog k) f_is_too_many [.int s,.int c]) L Q
 rw [call_eq,wp_chk]
 refine ⟨rfl,?_⟩
 have hc:c < 100:=by
  have h1:=Nat.lt_pow_self (n:=c) (show 1 < s by omega)
  have h2:2 ^ c<=s ^ c:=Nat.pow_le_pow_left hs.1 c
  refine Nat.lt_of_not_le fun c1=>?_
  have h4:2 ^ 16<=2 ^ c:=Nat.pow_le_pow_right (by decide) (by omega)
  have:(2:Nat) ^ 16 = 65536:=by decide
  omega
 show wp (Mv.M.bind (evB _ _ [some (.int s),some (.int c),none,none]) retK) L Q
 simp only [f_is_too_many,rng1K,rulesSY,b_nil',b_cons',setAll,Nat.reduceAdd,Nat.reduceLT,reduceCtorEq]
 refine ⟨decide_eq_true (by omega),?_⟩
 rw [Int.toNat_natCast]
 refine wp_for (fun i σ L'=>(∃ x3,σ = [some (.int s),some (.int c),some (.int ((s ^ i:Nat):Int)),x3])∧L' = L) ⟨⟨none,rfl⟩,rfl⟩ ?_ ?_
 ·rintro i σ L' hi ⟨⟨x3,rfl⟩,rfl⟩
  rw [rng_len] at hi
  refine ⟨.int (0 + i),rng_at hi,?_⟩
  have hp2:s ^ (i + 1)<=50000:=Nat.le_trans (Nat.pow_le_pow_right (by omega) hi) hp
  simp only [rulesSY,b_nil',b_cons',setAll,Nat.reduceAdd,Nat.reduceLT,reduceCtorEq]
  refine aug_mul ?_ ?_
  ·exact decide_eq_true (.inr ⟨by omega,by omega⟩)
  simp only [rulesSY,b_nil',b_cons',setAll,Nat.reduceAdd,Nat.reduceLT,reduceCtorEq]
  rw [<- Int.natCast_mul]
  have hp3:s ^ i * s<=50000:=by rw [<- Nat.pow_succ]; exact hp2
  refine ⟨fun c=>absurd (of_decide_eq_true c) (by omega),fun _=>?_⟩
  simp only [turnQ]
  exact ⟨⟨_,rfl⟩,by trivial⟩
 ·rintro σ L' ⟨⟨x3,rfl⟩,rfl⟩
  refine ⟨rfl,?_⟩
  simp only [rulesSY,b_nil',b_cons',setAll,Nat.reduceAdd,Nat.reduceLT,reduceCtorEq]
  exact q
theorem toomany_any {k s c:Nat} {L:LH} {Q:LV->LH->Prop} (hs:2<=s∧s < 37) (hc:c<=200000) (q:Q (.bl (decide (50000 < s ^ c))) L):wp (run prog (k + 1) 3 [.int s,.int c]) L Q:=by
 by_cases hp:50000 < s ^ c
 ·rw [decide_eq_true hp] at q
  refine cI f_is_too_many [some (.int s),some (.int c),none,none] rfl rfl rfl ?_
  simp only [f_is_too_many,rng1K,rulesSY,b_nil',b_cons',setAll,Nat.reduceAdd,Nat.reduceLT,reduceCtorEq]
  refine ⟨decide_eq_true (by omega),?_⟩
  rw [Int.toNat_natCast]
  refine wp_for (fun i σ L'=>(∃ x3,σ = [some (.int s),some (.int c),some (.int ((s ^ i:Nat):Int)),x3])∧L' = L∧s ^ i<=50000) ⟨⟨none,rfl⟩,rfl,by simp⟩ ?_ ?_
  ·rintro i σ L' hi ⟨⟨x3,rfl⟩,rfl,hb⟩
   rw [rng_len] at hi
   refine ⟨.int (0 + i),rng_at hi,?_⟩
   have m1:s ^ i * s<=50000 * 37:=Nat.mul_le_mul hb (by omega)
   simp only [rulesSY,b_nil',b_cons',setAll,Nat.reduceAdd,Nat.reduceLT,reduceCtorEq]
   refine aug_mul ?_ ?_
   ·exact decide_eq_true (.inr ⟨by omega,by omega⟩)
   simp only [rulesSY,b_nil',b_cons',setAll,Nat.reduceAdd,Nat.reduceLT,reduceCtorEq]
   rw [<- Int.natCast_mul]
   refine ⟨fun _=>?_,fun c=>?_⟩
   ·simp only [turnQ,rulesSY,b_nil',b_cons',setAll,Nat.reduceAdd,Nat.reduceLT,reduceCtorEq]
    exact q
   ·have c:=of_decide_eq_false c
    simp only [turnQ]
    refine ⟨⟨_,rfl⟩,by trivial,?_⟩
    rw [Nat.pow_succ]
    omega
  ·rintro σ L' ⟨_,_,hb⟩
   rw [rng_len] at hb
   omega
 ·rw [decide_eq_false hp] at q
  exact toomany_ok hs (by omega) q
def Nc:Nat->LH->LV->Prop
 | 0,L,v=>okV L v
 | n + 1,L,v=>okV L v∧∀ xs,v = .tup xs->xs.length<=900000∧∀ x∈xs,Nc n L x
theorem Nc.ok:∀ {n:Nat} {L:LH} {v:LV},Nc n L v->okV L v
 | 0,_,_,h=>h
 | _ + 1,_,_,h=>h.1
theorem Nc.grow:∀ {n:Nat} {L L':LH} {v:LV},Nc n L v->Grow L L'->Nc n L' v
 | 0,_,_,_,h,g=>okV.grow h g
 | n + 1,_,_,_,h,g=>⟨okV.grow h.1 g,fun xs e=>⟨(h.2 xs e).1,fun x hx=>Nc.grow ((h.2 xs e).2 x hx) g⟩⟩
theorem nc_of {L:LH} {B:Nat}:∀ (m:Nat) {n w:Nat} {v:LV},GQ L B n w v->Nc m L v
 | 0,_,_,_,h=>h.ok
 | m + 1,_,_,_,h=>⟨h.ok,fun xs e=>by
  subst e
  exact ⟨Nat.le_trans h.tupInv.1 (by decide),fun x hx=>nc_of m (h.tupInv.2.mem x hx)⟩⟩
theorem is_integer_ok {k:Nat} {v:LV} {L:LH} {Q:LV->LH->Prop} (h:okV L v) (q:Q (.bl (isInt v)) L):wp (run prog (k + 1) 0 [v]) L Q:=by
 refine cI f_is_integer [some v] rfl rfl rfl ?_
 simp only [f_is_integer,rulesSY,b_nil',b_cons',setAll,Nat.reduceAdd,Nat.reduceLT,reduceCtorEq]
 refine isi_i h ?_
 cases v with
 | int i=>simp only [isInt,isBool,Bool.true_or,rulesSY,b_nil',b_cons',setAll,Nat.reduceAdd,Nat.reduceLT,reduceCtorEq]; exact isi_b h (by simp only [isBool,rulesSY,b_nil',b_cons',setAll,Nat.reduceAdd,Nat.reduceLT,reduceCtorEq]; exact q)
 | bl b=>simp only [isInt,isBool,Bool.or_true,rulesSY,b_nil',b_cons',setAll,Nat.reduceAdd,Nat.reduceLT,reduceCtorEq]; exact isi_b h (by simp only [isBool,rulesSY,b_nil',b_cons',setAll,Nat.reduceAdd,Nat.reduceLT,reduceCtorEq]; exact q)
 | _=>simpa only [isInt,isBool,Bool.or_false,rulesSY,b_nil',b_cons',setAll,Nat.reduceAdd,Nat.reduceLT,reduceCtorEq] using q
theorem is_between_ok {k:Nat} {v:LV} {a b:Int} {L:LH} {Q:LV->LH->Prop} (h:okV L v) (q:Q (.bl (inB a b v)) L):wp (run prog (k + 2) 1 [v,.int a,.int b]) L Q:=by
 refine cI f_is_between [some v,some (.int a),some (.int b)] rfl rfl rfl ?_
 simp only [f_is_between,pm0,rulesSY,b_nil',b_cons',setAll,Nat.reduceAdd,Nat.reduceLT,reduceCtorEq]
 refine is_integer_ok h ?_
 cases v with
 | int i =>
  simp only [isInt,rulesSY,b_nil',b_cons',setAll,Nat.reduceAdd,Nat.reduceLT,reduceCtorEq]
  simp only [inB] at q
  by_cases c1:a<=i
  ·simp only [c1,decide_true,Bool.true_and,rulesSY,b_nil',b_cons',setAll,Nat.reduceAdd,Nat.reduceLT,reduceCtorEq] at q ⊢
   exact q
  ·simp only [c1,decide_false,Bool.false_and,rulesSY,b_nil',b_cons',setAll,Nat.reduceAdd,Nat.reduceLT,reduceCtorEq] at q ⊢
   exact q
 | _=>simp only [isInt,rulesSY,b_nil',b_cons',setAll,Nat.reduceAdd,Nat.reduceLT,reduceCtorEq]; exact q
theorem wp_all {n:Nat} {bs:List Bool} {L:LH} {Q:LV->LH->Prop} (e:L[n]? = some (.lst (bs.map .bl))) (q:Q (.bl (bs.all id)) L):wp (biV .all [.ref n]) L Q:=by
 have eb:blL (bs.map LV.bl) = some bs:=by
  induction bs with
  | nil=>rfl
  | cons b bs ih =>
   clear e q
   have ih':∀ bs:List Bool,blL (bs.map LV.bl) = some bs:=fun bs=>by
    induction bs with
    | nil=>rfl
    | cons b bs ih =>
     show (blL (bs.map LV.bl)).map (b :: ·) = _
     rw [ih]
     rfl
   exact ih' _
 refine wp_look.mpr ⟨bs,?_,wp_ret.mpr q⟩
 rw [items_lst e]
 exact eb
theorem all_map {xs:List LV} {f:LV->Bool}:(xs.map f).all id = xs.all f:=by
 induction xs with
 | nil=>rfl
 | cons x xs ih=>simp [ih]
theorem fm_some {xs:List LV} {f:LV->LV}:xs.filterMap (fun x=>some (f x)) = xs.map f:=by
 induction xs with
 | nil=>rfl
 | cons x xs ih=>simp [ih]
def intsOf:List LV->List Int
 | []=>[]
 | .int i :: r=>i :: intsOf r
 | _ :: r=>intsOf r
theorem intsOf_iv:∀ ns:List Int,intsOf (iv ns) = ns
 | []=>rfl
 | n :: ns=>congrArg (n :: ·) (intsOf_iv ns)
def isTabX (n:Nat):LV->Bool
 | .tup ts=>decide (ts.length = n) && (ts.all (inB 0 ((n:Int) - 1)) && decide ((Mv.dist (intsOf ts)).length = n))
 | _=>false
theorem is_exchange_ok {k n:Nat} {v:LV} {L:LH} {Q:LV->LH->Prop} (hn:n<=900000) (h:Nc 1 L v) (q:∀ L',Grow L L'->Q (.bl (isTabX n v)) L'):wp (run prog (k + 3) 4 [v,.int n]) L Q:=by
 refine cI f_is_exchange [some v,some (.int n),none] rfl rfl rfl ?_
 simp only [f_is_exchange,pm0,rulesSY,b_nil',b_cons',setAll,Nat.reduceAdd,Nat.reduceLT,reduceCtorEq]
 refine isi_t h.1 ?_
 cases v with
 | tup ts =>
  obtain ⟨hl,hx⟩:=h.2 ts rfl
  have q0:=q
  simp only [isTabX] at q
  simp only [isTup,Bool.not_true,len_tup,rulesSY,b_nil',b_cons',setAll,Nat.reduceAdd,Nat.reduceLT,reduceCtorEq]
  by_cases c1:ts.length = n
  ·have d1:decide ((ts.length:Int) = n) = true:=decide_eq_true (by omega)
   simp only [d1,Bool.not_true,rulesSY,b_nil',b_cons',setAll,Nat.reduceAdd,Nat.reduceLT,reduceCtorEq]
   simp only [c1,decide_true,Bool.true_and] at q
   refine compF (fun x=>some (.bl (inB 0 ((n:Int) - 1) x))) (by omega) (fun x hm ys=>?_) ?_
   ·simp only [turnC,wipeL,pm012,wp_if,rulesSY,b_nil',b_cons',setAll,Nat.reduceAdd,Nat.reduceLT,reduceCtorEq]
    refine is_between_ok (okV.grow (hx x hm) ⟨_,rfl⟩) ?_
    first
     | exact ⟨rfl,rfl⟩
     | trivial
     | simp
   ·rw [fm_some (f:=fun x=>LV.bl (inB 0 ((n:Int) - 1) x))]
    refine wp_all (bs:=ts.map (inB 0 ((n:Int) - 1))) (by rw [List.getElem?_append_right (Nat.le_refl _),Nat.sub_self,List.map_map]; rfl) ?_
    rw [all_map]
    cases ha:ts.all (inB 0 ((n:Int) - 1)) with
    | false =>
     rw [ha,Bool.false_and] at q
     simp only [rulesSY,b_nil',b_cons',setAll,Nat.reduceAdd,Nat.reduceLT,reduceCtorEq]
     exact q _ ⟨_,rfl⟩
    | true =>
     rw [ha,Bool.true_and] at q
     simp only [rulesSY,b_nil',b_cons',setAll,Nat.reduceAdd,Nat.reduceLT,reduceCtorEq]
     obtain ⟨ns,rfl,hns⟩:=intL_inB ha
     rw [intsOf_iv] at q
     have eI:intL (iv ns) = some ns:=intL_iv ns
     rw [iv_len] at hl
     have hz:(decide (ns.length<=900000) && ns.all fun n=>decide (0<=n) && decide (n < 2 ^ 60)) = true:=by
      rw [decide_eq_true hl,Bool.true_and,List.all_eq_true]
      intro x hx
      have:=hns x hx
      rw [decide_eq_true (by omega),decide_eq_true (by omega)]
      rfl
     simp only [lssX,lssV,eI,hz,rulesSY,b_nil',b_cons',setAll,Nat.reduceAdd,Nat.reduceLT,reduceCtorEq]
     have e:decide (((Mv.dist ns).length:Int) = n) = decide ((Mv.dist ns).length = n):=by
      by_cases z:(Mv.dist ns).length = n
      ·rw [decide_eq_true z,decide_eq_true (by omega)]
      ·rw [decide_eq_false z,decide_eq_false (by omega)]
     rw [e]
     exact q _ ⟨_,rfl⟩
  ·have d1:decide ((ts.length:Int) = n) = false:=decide_eq_false (by omega)
   simp only [d1,Bool.not_false,rulesSY,b_nil',b_cons',setAll,Nat.reduceAdd,Nat.reduceLT,reduceCtorEq]
   simp only [c1,decide_false,Bool.false_and] at q
   exact q L (Grow.refl L)
 | _ =>
  simp only [isTup,Bool.not_false,rulesSY,b_nil',b_cons',setAll,Nat.reduceAdd,Nat.reduceLT,reduceCtorEq]
  exact q L (Grow.refl L)
end K23
namespace K23
open PySem Mv
def toI:LV->Int
 | .int i=>i
 | _=>0
def strB (s:Nat) (l o:LV):Bool:=inB 1 15 l && (decide (s ^ (toI l).toNat<=50000) && inB 0 (toI l - 1) o)
def planB (s:Nat):LV->Bool
 | .tup [.str a]=>decide (a = Str.ofString "still")
 | .tup [.str a,l,o,t]=>decide (a = Str.ofString "one") && (strB s l o && isTabX (s ^ (toI l).toNat) t)
 | .tup [.str a,l,o,b,t,u]=>decide (a = Str.ofString "two") && ((strB s l o && inB 0 (toI l) b) && (isTabX (s ^ (toI l).toNat) t && isTabX (s ^ (toI l).toNat) u))
 | _=>false
theorem inB_int {a b:Int} {v:LV} (h:inB a b v = true):∃ i,v = .int i∧a<=i∧i<=b:=by
 cases v with
 | int i =>
  unfold inB at h
  rw [Bool.and_eq_true,decide_eq_true_eq,decide_eq_true_eq] at h
  exact ⟨i,rfl,h⟩
 | _=>cases h
theorem stretches_ok {k s:Nat} {l o:LV} {L:LH} {Q:LV->LH->Prop} (hs:2<=s∧s < 37) (hl:okV L l) (ho:okV L o) (q:Q (.bl (strB s l o)) L):wp (run prog (k + 3) 5 [.int s,l,o]) L Q:=by
 refine cI f_are_stretches [some (.int s),some l,some o] rfl rfl rfl ?_
 simp only [f_are_stretches,rulesSY,b_nil',b_cons',setAll,Nat.reduceAdd,Nat.reduceLT,reduceCtorEq]
 refine ⟨_,rfl,is_between_ok (k:=k) hl ?_⟩
 cases h1:inB 1 15 l with
 | false =>
  simp only [strB,h1,Bool.false_and] at q
  simp only [Bool.not_false,rulesSY,b_nil',b_cons',setAll,Nat.reduceAdd,Nat.reduceLT,reduceCtorEq]
  exact q
 | true =>
  obtain ⟨n,rfl,n0,n1⟩:=inB_int h1
  obtain ⟨m,rfl⟩:∃ m:Nat,n = m:=⟨n.toNat,by omega⟩
  have q:Q (.bl (inB 1 15 (.int (m:Int)) && (decide (s ^ m<=50000) && inB 0 ((m:Int) - 1) o))) L:=q
  rw [h1,Bool.true_and] at q
  simp only [Bool.not_true,rulesSY,b_nil',b_cons',setAll,Nat.reduceAdd,Nat.reduceLT,reduceCtorEq]
  refine ⟨_,rfl,toomany_any (k:=k + 1) hs (by omega) ?_⟩
  by_cases c:s ^ m<=50000
  ·rw [decide_eq_true c,Bool.true_and] at q
   rw [decide_eq_false (by omega)]
   simp only [rulesSY,b_nil',b_cons',setAll,Nat.reduceAdd,Nat.reduceLT,reduceCtorEq]
   exact ⟨_,rfl,is_between_ok (k:=k) ho q⟩
  ·rw [decide_eq_false c,Bool.false_and] at q
   rw [decide_eq_true (by omega)]
   simp only [rulesSY,b_nil',b_cons',setAll,Nat.reduceAdd,Nat.reduceLT,reduceCtorEq]
   exact q
theorem emp_t {L:LH} {x:LV} {xs:List LV}:Mv.eqV L (.tup (x :: xs)) (.tup []) = some false:=rfl
theorem eqS {L:LH} {a b:Str}:Mv.eqV L (.str a) (.str b) = some (decide (a = b)):=rfl
def isOne (s:Nat):List LV->Bool
 | [_,l,o,t]=>strB s l o && isTabX (s ^ (toI l).toNat) t
 | _=>false
def isTwo (s:Nat):List LV->Bool
 | [_,l,o,b,t,u]=>(strB s l o && inB 0 (toI l) b) && (isTabX (s ^ (toI l).toNat) t && isTabX (s ^ (toI l).toNat) u)
 | _=>false
theorem planB_str {s:Nat} {a:Str} {r:List LV}:planB s (.tup (.str a :: r)) = if a = Str.ofString "still" then decide (r.length = 0) else if a = Str.ofString "one" then isOne s (.str a :: r) else if a = Str.ofString "two" then isTwo s (.str a :: r) else false:=by
 have n1:Str.ofString "one"≠Str.ofString "still":=by decide +kernel
 have n2:Str.ofString "two"≠Str.ofString "still":=by decide +kernel
 have n3:Str.ofString "two"≠Str.ofString "one":=by decide +kernel
 match r with
 | [] =>
  show decide (a = _) = _
  by_cases h:a = Str.ofString "still"
  ·rw [if_pos h,decide_eq_true h]
   rfl
  ·rw [if_neg h,decide_eq_false h]
   split
   ·rfl
   ·split <;> rfl
 | [l,o,t] =>
  show (decide (a = _) && isOne s [.str a,l,o,t]) = _
  by_cases h:a = Str.ofString "still"
  ·subst h
   rw [if_pos rfl,decide_eq_false n1.symm]
   rfl
  ·rw [if_neg h]
   by_cases h1:a = Str.ofString "one"
   ·rw [if_pos h1,decide_eq_true h1]
    rfl
   ·rw [if_neg h1,decide_eq_false h1]
    split <;> rfl
 | [l,o,b,t,u] =>
  show (decide (a = _) && isTwo s [.str a,l,o,b,t,u]) = _
  by_cases h:a = Str.ofString "still"
  ·subst h
   rw [if_pos rfl,decide_eq_false n2.symm]
   rfl
  ·rw [if_neg h]
   by_cases h1:a = Str.ofString "one"
   ·subst h1
    rw [if_pos rfl,decide_eq_false n3.symm]
    rfl
   ·rw [if_neg h1]
    by_cases h2:a = Str.ofString "two"
    ·rw [if_pos h2,decide_eq_true h2]
     rfl
    ·rw [if_neg h2,decide_eq_false h2]
     rfl
 | [x1]=>show false = _; split; rfl; split; rfl; split <;> rfl
 | [x1,x2]=>show false = _; split; rfl; split; rfl; split <;> rfl
 | [x1,x2,x3,x4]=>show false = _; split; rfl; split; rfl; split <;> rfl
 | x1 :: x2 :: x3 :: x4 :: x5 :: x6 :: r=>show false = _; split; rfl; split; rfl; split <;> rfl
theorem planB_no {s:Nat} {x:LV} {r:List LV} (h:isStr x = false):planB s (.tup (x :: r)) = false:=by
 unfold planB
 split
 ·rename_i e; cases e; cases h
 ·rename_i e; cases e; cases h
 ·rename_i e; cases e; cases h
 ·rfl
theorem at0 {x:LV} {r:List LV}:L2.atI (x :: r) 0 = some x:=L2.atI_nat (j:=0) rfl
theorem lenI {n m:Nat}:decide ((n:Int) = m) = decide (n = m):=by
 by_cases h:n = m
 ·rw [decide_eq_true h,decide_eq_true (by omega)]
 ·rw [decide_eq_false h,decide_eq_false (by omega)]
theorem one_no {s:Nat} {xs:List LV} (h:xs.length≠4):isOne s xs = false:=by
 unfold isOne
 split
 ·exact absurd rfl h
 ·rfl
theorem two_no {s:Nat} {xs:List LV} (h:xs.length≠6):isTwo s xs = false:=by
 unfold isTwo
 split
 ·exact absurd rfl h
 ·rfl
theorem strB_inv {s:Nat} {l o:LV} (h:strB s l o = true):∃ m:Nat,l = .int m∧1<=m∧m<=15∧s ^ m<=50000:=by
 unfold strB at h
 rw [Bool.and_eq_true,Bool.and_eq_true,decide_eq_true_eq] at h
 obtain ⟨i,rfl,i0,i1⟩:=inB_int h.1
 obtain ⟨m,rfl⟩:∃ m:Nat,i = m:=⟨i.toNat,by omega⟩
 exact ⟨m,rfl,by omega,by omega,h.2.1⟩
theorem plan_ok {k s:Nat} {v:LV} {L:LH} {Q:LV->LH->Prop} (hs:2<=s∧s < 7) (h:Nc 2 L v) (q:∀ L',Grow L L'->Q (.bl (planB s v)) L'):wp (run prog (k + 6) 6 [.int s,v]) L Q:=by
 refine cI f_is_plan [some (.int s),some v,none,none,none,none,none,none,none,none] rfl rfl rfl ?_
 have hs37:2<=s∧s < 37:=by omega
 simp only [f_is_plan,rulesSY,b_nil',b_cons',setAll,Nat.reduceAdd,Nat.reduceLT,reduceCtorEq]
 refine isi_t h.1 ?_
 cases v with
 | tup xs =>
  obtain ⟨hl,hx⟩:=h.2 xs rfl
  cases xs with
  | nil =>
   simp only [isTup,Bool.not_true,rulesSY,b_nil',b_cons',setAll,Nat.reduceAdd,Nat.reduceLT,reduceCtorEq]
   refine ⟨by decide,wp_eq (b:=true) (x:=.tup []) (y:=.tup []) (by rfl) rfl ?_⟩
   simp only [rulesSY,b_nil',b_cons',setAll,Nat.reduceAdd,Nat.reduceLT,reduceCtorEq]
   exact q L (Grow.refl L)
  | cons x r =>
   simp only [isTup,Bool.not_true,rulesSY,b_nil',b_cons',setAll,Nat.reduceAdd,Nat.reduceLT,reduceCtorEq]
   refine ⟨by decide,wp_eq emp_t rfl ?_⟩
   simp only [at0,rulesSY,b_nil',b_cons',setAll,Nat.reduceAdd,Nat.reduceLT,reduceCtorEq]
   refine isi_s (hx x (.head _)).ok ?_
   cases hstr:isStr x with
   | false =>
    rw [planB_no hstr] at q
    simp only [Bool.not_false,rulesSY,b_nil',b_cons',setAll,Nat.reduceAdd,Nat.reduceLT,reduceCtorEq]
    exact q L (Grow.refl L)
   | true =>
    obtain ⟨a,rfl⟩:∃ a,x = .str a:=by
     cases x with
     | str a=>exact ⟨a,rfl⟩
     | _=>cases hstr
    rw [planB_str] at q
    simp only [Bool.not_true,rulesSY,b_nil',b_cons',setAll,Nat.reduceAdd,Nat.reduceLT,reduceCtorEq]
    refine ⟨_,at0,wp_eq eqS rfl ?_⟩
    by_cases c0:a = Str.ofString "still"
    ·rw [if_pos c0] at q
     rw [decide_eq_true c0]
     simp only [len_tup,rulesSY,b_nil',b_cons',setAll,Nat.reduceAdd,Nat.reduceLT,reduceCtorEq]
     have e:decide (((r.length + 1:Nat):Int) = 1) = decide (r.length = 0):=by
      by_cases z:r.length = 0
      ·rw [decide_eq_true z,decide_eq_true (by omega)]
      ·rw [decide_eq_false z,decide_eq_false (by omega)]
     rw [e]
     exact q L (Grow.refl L)
    ·rw [if_neg c0] at q
     rw [decide_eq_false c0]
     simp only [rulesSY,b_nil',b_cons',setAll,Nat.reduceAdd,Nat.reduceLT,reduceCtorEq]
     refine ⟨_,at0,wp_eq eqS rfl ?_⟩
     by_cases c1:a = Str.ofString "one"
     ·rw [if_pos c1] at q
      rw [decide_eq_true c1]
      simp only [len_tup,rulesSY,b_nil',b_cons',setAll,Nat.reduceAdd,Nat.reduceLT,reduceCtorEq]
      refine ⟨fun e=>?_,fun e=>?_⟩
      ·have e:r.length = 3:=by
        have:=of_decide_eq_true e
        omega
       obtain ⟨l,o,tb,rfl⟩:∃ l o tb,r = [l,o,tb]:=by
        match r,e with
        | [l,o,tb],_=>exact ⟨l,o,tb,rfl⟩
       refine ⟨_,rfl,rfl,?_⟩
       simp only [rulesSY,b_nil',b_cons',setAll,Nat.reduceAdd,Nat.reduceLT,reduceCtorEq]
       refine ⟨_,rfl,stretches_ok (k:=k + 2) hs37 (hx l (.tail _ (.head _))).ok (hx o (.tail _ (.tail _ (.head _)))).ok ?_⟩
       have q:∀ L',Grow L L'->Q (.bl (strB s l o && isTabX (s ^ (toI l).toNat) tb)) L':=q
       cases hb:strB s l o with
       | false =>
        rw [hb,Bool.false_and] at q
        simp only [rulesSY,b_nil',b_cons',setAll,Nat.reduceAdd,Nat.reduceLT,reduceCtorEq]
        exact q L (Grow.refl L)
       | true =>
        rw [hb,Bool.true_and] at q
        obtain ⟨m,rfl,m0,m1,hp⟩:=strB_inv hb
        simp only [rulesSY,b_nil',b_cons',setAll,Nat.reduceAdd,Nat.reduceLT,reduceCtorEq]
        refine ⟨_,rfl,powN (k:=k + 4) (by omega) (by omega) ?_⟩
        exact ⟨_,rfl,is_exchange_ok (k:=k + 2) (by omega) (hx tb (.tail _ (.tail _ (.tail _ (.head _))))) q⟩
      ·have e:r.length≠3:=fun z=>by
        have:=of_decide_eq_false e
        omega
       rw [one_no (by simpa using e)] at q
       refine ⟨_,at0,wp_ne (b:=false) (by rw [eqS,decide_eq_false]; rw [c1]; decide +kernel) rfl ?_⟩
       simp only [Bool.not_false,rulesSY,b_nil',b_cons',setAll,Nat.reduceAdd,Nat.reduceLT,reduceCtorEq]
       exact q L (Grow.refl L)
     ·rw [if_neg c1] at q
      rw [decide_eq_false c1]
      simp only [rulesSY,b_nil',b_cons',setAll,Nat.reduceAdd,Nat.reduceLT,reduceCtorEq]
      refine ⟨_,at0,wp_ne eqS rfl ?_⟩
      by_cases c2:a = Str.ofString "two"
      ·rw [if_pos c2] at q
       rw [decide_eq_true c2]
       simp only [Bool.not_true,len_tup,rulesSY,b_nil',b_cons',setAll,Nat.reduceAdd,Nat.reduceLT,reduceCtorEq]
       refine ⟨fun e=>?_,fun e=>?_⟩
       ·have e:r.length≠5:=fun z=>by
         rw [decide_eq_true (by omega)] at e
         cases e
        rw [two_no (by simpa using e)] at q
        exact q L (Grow.refl L)
       ·have e:r.length = 5:=by
         refine Decidable.byContradiction fun z=>?_
         rw [decide_eq_false (by omega)] at e
         cases e
        obtain ⟨l,o,b,t1,t2,rfl⟩:∃ l o b t1 t2,r = [l,o,b,t1,t2]:=by
         match r,e with
         | [l,o,b,t1,t2],_=>exact ⟨l,o,b,t1,t2,rfl⟩
        refine ⟨_,rfl,rfl,?_⟩
        simp only [rulesSY,b_nil',b_cons',setAll,Nat.reduceAdd,Nat.reduceLT,reduceCtorEq]
        refine ⟨_,rfl,stretches_ok (k:=k + 2) hs37 (hx l (.tail _ (.head _))).ok (hx o (.tail _ (.tail _ (.head _)))).ok ?_⟩
        have q:∀ L',Grow L L'->Q (.bl ((strB s l o && inB 0 (toI l) b) && (isTabX (s ^ (toI l).toNat) t1 && isTabX (s ^ (toI l).toNat) t2))) L':=q
        cases hb:strB s l o with
        | false =>
         rw [hb,Bool.false_and,Bool.false_and] at q
         simp only [Bool.not_false,rulesSY,b_nil',b_cons',setAll,Nat.reduceAdd,Nat.reduceLT,reduceCtorEq]
         exact q L (Grow.refl L)
        | true =>
         rw [hb,Bool.true_and] at q
         obtain ⟨m,rfl,m0,m1,hp⟩:=strB_inv hb
         simp only [Bool.not_true,rulesSY,b_nil',b_cons',setAll,Nat.reduceAdd,Nat.reduceLT,reduceCtorEq]
         refine ⟨_,rfl,is_between_ok (k:=k + 3) (hx b (.tail _ (.tail _ (.tail _ (.head _))))).ok ?_⟩
         have q:∀ L',Grow L L'->Q (.bl (inB 0 (m:Int) b && (isTabX (s ^ m) t1 && isTabX (s ^ m) t2))) L':=q
         cases hc:inB 0 (m:Int) b with
         | false =>
          rw [hc,Bool.false_and] at q
          simp only [Bool.not_false,rulesSY,b_nil',b_cons',setAll,Nat.reduceAdd,Nat.reduceLT,reduceCtorEq]
          exact q L (Grow.refl L)
         | true =>
          rw [hc,Bool.true_and] at q
          simp only [Bool.not_true,rulesSY,b_nil',b_cons',setAll,Nat.reduceAdd,Nat.reduceLT,reduceCtorEq]
          refine ⟨_,rfl,powN (k:=k + 4) (by omega) (by omega) ?_⟩
          refine ⟨_,rfl,is_exchange_ok (k:=k + 2) (by omega) (hx t1 (.tail _ (.tail _ (.tail _ (.tail _ (.head _)))))) fun L1 g1=>?_⟩
          cases ht:isTabX (s ^ m) t1 with
          | false =>
           rw [ht,Bool.false_and] at q
           simp only [rulesSY,b_nil',b_cons',setAll,Nat.reduceAdd,Nat.reduceLT,reduceCtorEq]
           exact q L1 g1
          | true =>
           rw [ht,Bool.true_and] at q
           simp only [rulesSY,b_nil',b_cons',setAll,Nat.reduceAdd,Nat.reduceLT,reduceCtorEq]
           exact ⟨_,rfl,is_exchange_ok (k:=k + 2) (by omega) ((hx t2 (.tail _ (.tail _ (.tail _ (.tail _ (.tail _ (.head _))))))).grow g1) fun L2' g2=>q L2' (g1.trans g2)⟩
      ·rw [if_neg c2] at q
       rw [decide_eq_false c2]
       simp only [Bool.not_false,rulesSY,b_nil',b_cons',setAll,Nat.reduceAdd,Nat.reduceLT,reduceCtorEq]
       exact q L (Grow.refl L)
 | _ =>
  simp only [isTup,Bool.not_false,rulesSY,b_nil',b_cons',setAll,Nat.reduceAdd,Nat.reduceLT,reduceCtorEq]
  exact q L (Grow.refl L)
end K23
namespace K23
open PySem Mv
theorem l_count_ok {k:Nat} {v:LV} {a b:Int} {L:LH} {Q:LV->LH->Prop} (h:okV L v) (q:Q (.bl (inB a b v)) L):wp (run prog (k + 1) 14 [v,.int a,.int b]) L Q:=by
 refine cI f_l_is_count [some v,some (.int a),some (.int b)] rfl rfl rfl ?_
 simp only [f_l_is_count,rulesSY,b_nil',b_cons',setAll,Nat.reduceAdd,Nat.reduceLT,reduceCtorEq]
 refine isi_i h ?_
 cases v with
 | int i =>
  simp only [isInt,isBool,Bool.true_or,rulesSY,b_nil',b_cons',setAll,Nat.reduceAdd,Nat.reduceLT,reduceCtorEq]
  refine isi_b h ?_
  simp only [isBool,Bool.not_false,rulesSY,b_nil',b_cons',setAll,Nat.reduceAdd,Nat.reduceLT,reduceCtorEq]
  simp only [inB] at q
  by_cases c1:a<=i
  ·simp only [c1,decide_true,Bool.true_and,rulesSY,b_nil',b_cons',setAll,Nat.reduceAdd,Nat.reduceLT,reduceCtorEq] at q ⊢
   exact q
  ·simp only [c1,decide_false,Bool.false_and,rulesSY,b_nil',b_cons',setAll,Nat.reduceAdd,Nat.reduceLT,reduceCtorEq] at q ⊢
   exact q
 | bl b=>simp only [isInt,isBool,Bool.or_true,rulesSY,b_nil',b_cons',setAll,Nat.reduceAdd,Nat.reduceLT,reduceCtorEq]; exact isi_b h (by simp only [isBool,Bool.not_true,rulesSY,b_nil',b_cons',setAll,Nat.reduceAdd,Nat.reduceLT,reduceCtorEq]; exact q)
 | _=>simp only [isInt,isBool,Bool.or_false,rulesSY,b_nil',b_cons',setAll,Nat.reduceAdd,Nat.reduceLT,reduceCtorEq]; exact q
theorem filt_no {f:LV->Bool}:∀ {xs:List LV},(xs.filterMap fun x=>if f x then none else some x) = []↔xs.all f = true
 | []=>by simp
 | x :: xs=>by
  rw [List.all_cons,List.filterMap_cons]
  cases h:f x with
  | true=>simp only [if_true,Bool.true_and]; exact filt_no
  | false=>simp
theorem l_table_ok {k n:Nat} {v:LV} {L:LH} {Q:LV->LH->Prop} (h:Nc 1 L v) (hn:∀ ts,v = .tup ts->ts.length<=4000) (q:∀ L',Grow L L'->Q (.bl (isTabX n v)) L'):wp (run prog (k + 2) 15 [v,.int n]) L Q:=by
 refine cI f_l_is_table [some v,some (.int n),none] rfl rfl rfl ?_
 simp only [f_l_is_table,rulesSY,b_nil',b_cons',setAll,Nat.reduceAdd,Nat.reduceLT,reduceCtorEq]
 refine isi_t h.1 ?_
 cases v with
 | tup ts =>
  obtain ⟨hl,hx⟩:=h.2 ts rfl
  have h4:=hn ts rfl
  simp only [isTup,Bool.not_true,len_tup,rulesSY,b_nil',b_cons',setAll,Nat.reduceAdd,Nat.reduceLT,reduceCtorEq]
  refine ⟨fun e=>?_,fun e=>?_⟩
  ·have e:ts.length≠n:=fun z=>by
    rw [decide_eq_true (by omega)] at e
    cases e
   have q:∀ L',Grow L L'->Q (.bl (decide (ts.length = n) && _)) L':=q
   rw [decide_eq_false e,Bool.false_and] at q
   exact q L (Grow.refl L)
  ·have e:ts.length = n:=by
    refine Decidable.byContradiction fun z=>?_
    rw [decide_eq_false (by omega)] at e
    cases e
   have q:∀ L',Grow L L'->Q (.bl (decide (ts.length = n) && (ts.all (inB 0 ((n:Int) - 1)) && decide ((Mv.dist (intsOf ts)).length = n)))) L':=q
   rw [decide_eq_true e,Bool.true_and] at q
   refine compF (fun x=>if inB 0 ((n:Int) - 1) x then none else some x) (by omega) (fun x hm ys=>?_) ?_
   ·simp only [turnC,wipeL,List.set_cons_succ,List.set_cons_zero,wp_if,rulesSY,b_nil',b_cons',setAll,Nat.reduceAdd,Nat.reduceLT,reduceCtorEq]
    refine ⟨_,rfl,l_count_ok (k:=k) (okV.grow (hx x hm) ⟨_,rfl⟩) ?_⟩
    cases inB 0 ((n:Int) - 1) x with
    | true=>simp only [Bool.not_true,rulesSY,b_nil',b_cons',setAll,Nat.reduceAdd,Nat.reduceLT,reduceCtorEq,if_true,and_self]
    | false=>simp [rulesSY,b_nil',b_cons',setAll,Nat.reduceAdd,Nat.reduceLT,reduceCtorEq]
   ·refine ⟨by decide,wp_eq (eq_lst0 (eOld eNew) eNew) rfl ?_⟩
    by_cases ha:ts.all (inB 0 ((n:Int) - 1)) = true
    ·rw [ha,Bool.true_and] at q
     rw [filt_no.mpr ha]
     obtain ⟨ns,rfl,_⟩:=intL_inB ha
     rw [intsOf_iv] at q
     rw [iv_len] at h4
     simp only [List.isEmpty_nil,rulesSY,b_nil',b_cons',setAll,Nat.reduceAdd,Nat.reduceLT,reduceCtorEq]
     refine wp_look.mpr ⟨ns,?_,?_⟩
     ·show (some (iv ns)).bind intL = some ns
      exact intL_iv ns
     ·simp only [rulesSY,b_nil',b_cons',setAll,Nat.reduceAdd,Nat.reduceLT,reduceCtorEq]
      refine ⟨decide_eq_true h4,?_⟩
      rw [lenI]
      exact q _ (Grow.trans ⟨_,rfl⟩ ⟨_,rfl⟩)
    ·have e2:(ts.filterMap fun x=>if inB 0 ((n:Int) - 1) x then none else some x)≠[]:=fun z=>ha (filt_no.mp z)
     rw [Bool.eq_false_iff.mpr ha,Bool.false_and] at q
     rw [List.isEmpty_eq_false_iff.mpr e2]
     simp only [rulesSY,b_nil',b_cons',setAll,Nat.reduceAdd,Nat.reduceLT,reduceCtorEq]
     exact q _ (Grow.trans ⟨_,rfl⟩ ⟨_,rfl⟩)
 | _ =>
  simp only [isTup,Bool.not_false,rulesSY,b_nil',b_cons',setAll,Nat.reduceAdd,Nat.reduceLT,reduceCtorEq]
  exact q L (Grow.refl L)
theorem grow_set {L L':LH} {o:LO} (g:Grow L L'):Grow L (L'.set L.length o):=by
 obtain ⟨E,rfl⟩:=g
 rw [List.set_append_right _ _ (Nat.le_refl _)]
 exact ⟨_,rfl⟩
theorem compGT {turn:LV->M (Option LV)} {Q:LV->LH->Prop} {L:LH} {xs:List LV} (f:LV->Option LV) (hm:xs.length<=1000) (step:∀ x∈xs,∀ L',Grow L L'->wp (turn x) L' fun r L2=>r = f x∧Grow L' L2)
  (fin:∀ L',Grow L L'->L'[L.length]? = some (.lst (xs.filterMap f))->Q (.ref L.length) L'):wp (compK (.fixed xs) turn (.ref L.length)) (L ++ [.lst []]) Q:=by
 have z:wp (Mv.M.bind (new (.lst [])) (compK (.fixed xs) turn)) L Q:=by
  refine wp_comp (fun i ys L'=>ys = (xs.take i).filterMap f∧Grow L L') ⟨by simp,⟨_,rfl⟩⟩ ?_ ?_
  ·rintro i ys L' hi e1 ⟨rfl,g⟩
   have hi:i < xs.length:=hi
   refine ⟨xs[i],List.getElem?_eq_getElem hi,(step _ (List.getElem_mem hi) L' g).imp ?_⟩
   rintro r L2 ⟨rfl,g2⟩
   refine ⟨grow_at g2 e1,?_⟩
   have et:xs.take (i + 1) = xs.take i ++ [xs[i]]:=by rw [List.take_add_one,List.getElem?_eq_getElem hi]; rfl
   cases h:f xs[i] with
   | none =>
    refine ⟨?_,g.trans g2⟩
    rw [et,List.filterMap_append]
    simp [h]
   | some y =>
    refine ⟨?_,?_,grow_set (g.trans g2)⟩
    ·have h1:=List.length_filterMap_le f (xs.take i)
     have h2:(xs.take i).length<=1000:=by rw [List.length_take]; omega
     exact Nat.lt_of_le_of_lt (Nat.le_trans h1 h2) (by decide)
    ·rw [et,List.filterMap_append]
     simp [h]
  ·rintro ys L' e1 ⟨rfl,g⟩
   have hx:(Src.fixed xs).len = xs.length:=rfl
   rw [hx,List.take_length] at e1
   exact ⟨rfl,fin L' g e1⟩
 exact wp_new.mp (wp_bind.mp z)
theorem planB_len {s:Nat} {xs:List LV} (h:xs.length≠1∧xs.length≠4∧xs.length≠6):planB s (.tup xs) = false:=by
 unfold planB
 split
 ·rename_i e; cases e; exact absurd rfl h.1
 ·rename_i e; cases e; exact absurd rfl h.2.1
 ·rename_i e; cases e; exact absurd rfl h.2.2
 ·rfl
theorem nin_ok {n:Nat} {L:LH} {Q:LV->LH->Prop} (q:Q (.bl (!(n == 1 || n == 4 || n == 6))) L):wp (cmpV .nin (.int n) (.tup [.int 1,.int 4,.int 6])) L Q:=by
 refine wp_look.mpr ⟨_,rfl,wp_chk.mpr ⟨rfl,wp_ret.mpr ?_⟩⟩
 have e:inSeq (.int n) [.int 1,.int 4,.int 6] = (n == 1 || n == 4 || n == 6):=by
  show ((1 == (n:Int)) || ((4 == (n:Int)) || ((6 == (n:Int)) || false))) = _
  have f:∀ m:Nat,((m:Int) == (n:Int)) = (n == m):=fun m=>by
   by_cases z:n = m
   ·subst z; simp
   ·rw [beq_eq_false_iff_ne.mpr z,beq_eq_false_iff_ne.mpr (by omega)]
  rw [show ((1:Int) == (n:Int)) = (n == 1) from f 1,show ((4:Int) == (n:Int)) = (n == 4) from f 4,show ((6:Int) == (n:Int)) = (n == 6) from f 6,Bool.or_false,Bool.or_assoc]
 rw [e]
 exact q
theorem lots_ok {k n:Nat} {xs:List LV} {x0 x1 x2 x4:Option LV} {L:LH} {Q:LV->LH->Prop} (hx:∀ x∈xs,Nc 1 L x) (hn:∀ ts,.tup ts∈xs->ts.length<=4000) (hl:xs.length<=1000) (q:∀ L',Grow L L'->Q (.bl (xs.all (isTabX n))) L') :
  wp (compK (.fixed xs) (turnC (run prog (k + 2)) [4] (.name 4) (.some (.not (.call 15 (.cons (.var 4) (.cons (.var 3) .nil)) .nil [0,1]))) (.var 4) [x0,x1,x2,some (.int (n:Nat)),x4]) (.ref L.length)) (L ++ [.lst []]) fun a L1=>small 0 = true∧wp (cmpV .eq a (.ref L1.length)) (L1 ++ [.lst []]) fun a L1=>Q a L1:=by
 refine compGT (fun x=>if isTabX n x then none else some x) hl (fun x hm L' g=>?_) fun L' g e=>⟨by decide,wp_eq (eq_lst0 (eOld e) eNew) rfl ?_⟩
 ·simp only [turnC,wipeL,List.set_cons_succ,List.set_cons_zero,wp_if,rulesSY,b_nil',b_cons',setAll,Nat.reduceAdd,Nat.reduceLT,reduceCtorEq]
  refine ⟨_,rfl,l_table_ok (k:=k) ((hx x hm).grow g) (fun ts e=>hn ts (e ▸ hm)) fun L2 g2=>?_⟩
  cases isTabX n x with
  | true =>
   simp only [Bool.not_true,rulesSY,b_nil',b_cons',setAll,Nat.reduceAdd,Nat.reduceLT,reduceCtorEq,if_true]
   first | exact ⟨rfl,g2⟩ | exact g2 | simpa using g2
  | false =>
   simp only [Bool.not_false,rulesSY,b_nil',b_cons',setAll,Nat.reduceAdd,Nat.reduceLT,reduceCtorEq]
   first | exact ⟨rfl,g2⟩ | exact g2 | simpa using g2
 ·have e3:(xs.filterMap fun x=>if isTabX n x then none else some x).isEmpty = xs.all (isTabX n):=by
   by_cases z:xs.all (isTabX n) = true
   ·rw [filt_no.mpr z,z]
    rfl
   ·rw [List.isEmpty_eq_false_iff.mpr fun y=>z (filt_no.mp y),Bool.eq_false_iff.mpr z]
  rw [e3]
  exact q _ (g.trans ⟨_,rfl⟩)
theorem l_tour_ok {k s:Nat} {v:LV} {L:LH} {Q:LV->LH->Prop} (hs:2<=s∧s < 7) (h:Nc 2 L v) (hn:∀ xs ts,v = .tup xs->.tup ts∈xs->ts.length<=4000) (q:∀ L',Grow L L'->Q (.bl (planB s v)) L'):wp (run prog (k + 6) 16 [.int s,v]) L Q:=by
 refine cI f_l_is_tour [some (.int s),some v,none,none,none] rfl rfl rfl ?_
 simp only [f_l_is_tour,rulesSY,b_nil',b_cons',setAll,Nat.reduceAdd,Nat.reduceLT,reduceCtorEq]
 refine isi_t h.1 ?_
 cases v with
 | tup xs =>
  obtain ⟨hl,hx⟩:=h.2 xs rfl
  simp only [isTup,Bool.not_true,len_tup,rulesSY,b_nil',b_cons',setAll,Nat.reduceAdd,Nat.reduceLT,reduceCtorEq]
  refine ⟨by decide,nin_ok ?_⟩
  by_cases c:xs.length = 1∨xs.length = 4∨xs.length = 6
  ·have e:(xs.length == 1 || xs.length == 4 || xs.length == 6) = true:=by
    rcases c with c | c | c <;> rw [c] <;> rfl
   rw [e]
   obtain ⟨x,r,rfl⟩:∃ x r,xs = x :: r:=by
    cases xs with
    | nil=>rcases c with c | c | c <;> cases c
    | cons x r=>exact ⟨x,r,rfl⟩
   simp only [Bool.not_true,rulesSY,b_nil',b_cons',setAll,Nat.reduceAdd,Nat.reduceLT,reduceCtorEq]
   refine ⟨_,at0,isi_s (hx x (.head _)).ok ?_⟩
   cases hstr:isStr x with
   | false =>
    rw [planB_no hstr] at q
    simp only [Bool.not_false,rulesSY,b_nil',b_cons',setAll,Nat.reduceAdd,Nat.reduceLT,reduceCtorEq]
    exact q L (Grow.refl L)
   | true =>
    obtain ⟨a,rfl⟩:∃ a,x = .str a:=by
     cases x with
     | str a=>exact ⟨a,rfl⟩
     | _=>cases hstr
    simp only [Bool.not_true,rulesSY,b_nil',b_cons',setAll,Nat.reduceAdd,Nat.reduceLT,reduceCtorEq]
    refine ⟨_,at0,wp_eq eqS rfl ?_⟩
    rw [planB_str] at q
    by_cases c0:a = Str.ofString "still"
    ·rw [if_pos c0] at q
     rw [decide_eq_true c0]
     simp only [eqtX,eqtV,hdS,oneS,rulesSY,b_nil',b_cons',setAll,Nat.reduceAdd,Nat.reduceLT,reduceCtorEq]
     have er:(decide (a = Str.ofString "still") && r.isEmpty) = decide (r.length = 0):=by
      rw [decide_eq_true c0,Bool.true_and]
      cases r <;> rfl
     rw [er]
     exact ⟨by decide,q L (Grow.refl L)⟩
    ·rw [if_neg c0] at q
     rw [decide_eq_false c0]
     simp only [len_tup,rulesSY,b_nil',b_cons',setAll,Nat.reduceAdd,Nat.reduceLT,reduceCtorEq]
     by_cases c1:r.length = 0
     ·obtain rfl:=List.eq_nil_of_length_eq_zero c1
      refine ⟨fun _=>?_,fun z=>by cases z⟩
      simp only [eqtX,eqtV,hdS,oneS,rulesSY,b_nil',b_cons',setAll,Nat.reduceAdd,Nat.reduceLT,reduceCtorEq]
      rw [decide_eq_false c0,Bool.false_and]
      have ef:(if a = Str.ofString "one" then isOne s [.str a] else if a = Str.ofString "two" then isTwo s [.str a] else false) = false:=by
       split
       ·rfl
       ·split <;> rfl
      rw [ef] at q
      exact ⟨by decide,q L (Grow.refl L)⟩
     ·have e1:decide (((r.length + 1:Nat):Int) = 1) = false:=decide_eq_false (by omega)
      rw [e1]
      refine ⟨fun z=>absurd z (by decide),fun _=>⟨_,at0,?_⟩⟩
      have c:r.length = 3∨r.length = 5:=by
       simp only [List.length_cons] at c
       omega
      rcases c with c | c
      ·obtain ⟨l,o,tb,rfl⟩:∃ l o tb,r = [l,o,tb]:=by
        match r,c with
        | [l,o,tb],_=>exact ⟨l,o,tb,rfl⟩
       refine dct_ref eNew ?_
       have ed:dmerge [] ([Sum.inl (4:Int),Sum.inl 6].zip [LV.str (Str.ofString "one"),.str (Str.ofString "two")]) = [((Sum.inl 4:L2.Key),.str (Str.ofString "one")),(Sum.inl 6,.str (Str.ofString "two"))]:=rfl
       rw [ed,List.set_append_right _ _ (Nat.le_refl _),Nat.sub_self]
       simp only [List.set_cons_zero,rulesSY,b_nil',b_cons',setAll,Nat.reduceAdd,Nat.reduceLT,reduceCtorEq]
       have en:(L ++ [LO.dic [((Sum.inl 4:L2.Key),.str (Str.ofString "one")),(Sum.inl 6,.str (Str.ofString "two"))]])[L.length]? = some _:=eNew
       have g1:Grow L (L ++ [LO.dic [((Sum.inl 4:L2.Key),.str (Str.ofString "one")),(Sum.inl 6,.str (Str.ofString "two"))]]):=⟨_,rfl⟩
       rw [en]
       have ix:∀ n:Nat,n = 4->ixR (some (LO.dic [((Sum.inl 4:L2.Key),.str (Str.ofString "one")),(Sum.inl 6,.str (Str.ofString "two"))])) (.int ((n:Nat):Int)) = M.ret (.str (Str.ofString "one")):=fun n e=>by subst e; rfl
       rw [ix _ rfl]
       generalize L ++ [LO.dic [((Sum.inl 4:L2.Key),.str (Str.ofString "one")),(Sum.inl 6,.str (Str.ofString "two"))]] = L1 at g1 ⊢
       simp only [rulesSY,b_nil',b_cons',setAll,Nat.reduceAdd,Nat.reduceLT,reduceCtorEq]
       refine wp_ne eqS rfl ?_
       by_cases c2:a = Str.ofString "one"
       ·rw [if_pos c2] at q
        rw [decide_eq_true c2]
        have at1:L2.atI [LV.str a,l,o,tb] 1 = some l:=L2.atI_nat (j:=1) rfl
        have at2:L2.atI [LV.str a,l,o,tb] 2 = some o:=L2.atI_nat (j:=2) rfl
        have al:∀ x∈[LV.str a,l,o,tb],Nc 1 L1 x:=fun x hm=>(hx x hm).grow g1
        simp only [Bool.not_true,at1,at2,rulesSY,b_nil',b_cons',setAll,Nat.reduceAdd,Nat.reduceLT,reduceCtorEq]
        refine ⟨_,rfl,l_count_ok (k:=k + 4) (al l (.tail _ (.head _))).ok ?_⟩
        have q:∀ L',Grow L L'->Q (.bl (strB s l o && isTabX (s ^ (toI l).toNat) tb)) L':=q
        cases h1:inB 1 15 l with
        | false =>
         simp only [strB,h1,Bool.false_and] at q
         simp only [Bool.not_false,rulesSY,b_nil',b_cons',setAll,Nat.reduceAdd,Nat.reduceLT,reduceCtorEq]
         exact q L1 g1
        | true =>
         obtain ⟨n,rfl,n0,n1⟩:=inB_int h1
         obtain ⟨m,rfl⟩:∃ m:Nat,n = m:=⟨n.toNat,by omega⟩
         have q:∀ L',Grow L L'->Q (.bl ((inB 1 15 (.int (m:Int)) && (decide (s ^ m<=50000) && inB 0 ((m:Int) - 1) o)) && isTabX (s ^ m) tb)) L':=q
         simp only [h1,Bool.true_and] at q
         simp only [Bool.not_true,at1,at2,rulesSY,b_nil',b_cons',setAll,Nat.reduceAdd,Nat.reduceLT,reduceCtorEq]
         have ep:(s:Int) ^ m = ((s ^ m:Nat):Int):=(Int.natCast_pow s m).symm
         refine ⟨_,rfl,l_size_ok (k:=k + 4) (by omega) (by omega) ⟨by decide,_,rfl,rfl,?_⟩⟩
         simp only [ep,rulesSY,b_nil',b_cons',setAll,Nat.reduceAdd,Nat.reduceLT,reduceCtorEq]
         by_cases c3:s ^ m<=50000
         ·rw [decide_eq_true c3,Bool.true_and] at q
          rw [decide_eq_false (by omega)]
          simp only [at2,rulesSY,b_nil',b_cons',setAll,Nat.reduceAdd,Nat.reduceLT,reduceCtorEq]
          refine ⟨_,rfl,l_count_ok (k:=k + 4) (al o (.tail _ (.tail _ (.head _)))).ok ?_⟩
          cases h2:inB 0 ((m:Int) - 1) o with
          | false =>
           rw [h2,Bool.false_and] at q
           simp only [Bool.not_false,rulesSY,b_nil',b_cons',setAll,Nat.reduceAdd,Nat.reduceLT,reduceCtorEq]
           exact q L1 g1
          | true =>
           rw [h2,Bool.true_and] at q
           have ln:lenV L1 (.tup [.str a,.int m,o,tb]) = some 4:=rfl
           simp only [Bool.not_true,ln,rulesSY,b_nil',b_cons',setAll,Nat.reduceAdd,Nat.reduceLT,reduceCtorEq]
           refine ⟨fun z=>absurd z (by decide),fun _=>?_⟩
           have cu:cut [LV.str a,.int m,o,tb] (some (((4:Nat):Int) - ((4:Nat):Int) / 2 + 1)) none = [tb]:=rfl
           refine ⟨by decide,?_⟩
           rw [cu]
           refine lots_ok (k:=k + 3) (xs:=[tb]) (fun x hm=>al x ?_) (fun ts hm=>hn _ ts rfl ?_) (by simp) fun L2' g2=>?_
           ·rw [List.mem_singleton.mp hm]
            exact .tail _ (.tail _ (.tail _ (.head _)))
           ·rw [<- List.mem_singleton.mp hm]
            exact .tail _ (.tail _ (.tail _ (.head _)))
           ·have e5:[tb].all (isTabX (s ^ m)) = isTabX (s ^ m) tb:=by simp
            rw [e5]
            exact q L2' (g1.trans g2)
         ·rw [decide_eq_false c3,Bool.false_and,Bool.false_and] at q
          rw [decide_eq_true (by omega)]
          simp only [rulesSY,b_nil',b_cons',setAll,Nat.reduceAdd,Nat.reduceLT,reduceCtorEq]
          exact q L1 g1
       ·rw [if_neg c2] at q
        have ef:(if a = Str.ofString "two" then isTwo s [.str a,l,o,tb] else false) = false:=by split <;> rfl
        rw [ef] at q
        rw [decide_eq_false c2]
        simp only [Bool.not_false,rulesSY,b_nil',b_cons',setAll,Nat.reduceAdd,Nat.reduceLT,reduceCtorEq]
        exact q L1 g1
      ·obtain ⟨l,o,bk,t1,t2,rfl⟩:∃ l o bk t1 t2,r = [l,o,bk,t1,t2]:=by
        match r,c with
        | [l,o,bk,t1,t2],_=>exact ⟨l,o,bk,t1,t2,rfl⟩
       refine dct_ref eNew ?_
       have ed:dmerge [] ([Sum.inl (4:Int),Sum.inl 6].zip [LV.str (Str.ofString "one"),.str (Str.ofString "two")]) = [((Sum.inl 4:L2.Key),.str (Str.ofString "one")),(Sum.inl 6,.str (Str.ofString "two"))]:=rfl
       rw [ed,List.set_append_right _ _ (Nat.le_refl _),Nat.sub_self]
       simp only [List.set_cons_zero,rulesSY,b_nil',b_cons',setAll,Nat.reduceAdd,Nat.reduceLT,reduceCtorEq]
       have en:(L ++ [LO.dic [((Sum.inl 4:L2.Key),.str (Str.ofString "one")),(Sum.inl 6,.str (Str.ofString "two"))]])[L.length]? = some _:=eNew
       have g1:Grow L (L ++ [LO.dic [((Sum.inl 4:L2.Key),.str (Str.ofString "one")),(Sum.inl 6,.str (Str.ofString "two"))]]):=⟨_,rfl⟩
       rw [en]
       have ix:∀ n:Nat,n = 6->ixR (some (LO.dic [((Sum.inl 4:L2.Key),.str (Str.ofString "one")),(Sum.inl 6,.str (Str.ofString "two"))])) (.int ((n:Nat):Int)) = M.ret (.str (Str.ofString "two")):=fun n e=>by subst e; rfl
       rw [ix _ rfl]
       generalize L ++ [LO.dic [((Sum.inl 4:L2.Key),.str (Str.ofString "one")),(Sum.inl 6,.str (Str.ofString "two"))]] = L1 at g1 ⊢
       simp only [rulesSY,b_nil',b_cons',setAll,Nat.reduceAdd,Nat.reduceLT,reduceCtorEq]
       refine wp_ne eqS rfl ?_
       by_cases c2:a = Str.ofString "two"
       ·have c9:a≠Str.ofString "one":=by rw [c2]; decide +kernel
        rw [if_neg c9,if_pos c2] at q
        rw [decide_eq_true c2]
        have at1:L2.atI [LV.str a,l,o,bk,t1,t2] 1 = some l:=L2.atI_nat (j:=1) rfl
        have at2:L2.atI [LV.str a,l,o,bk,t1,t2] 2 = some o:=L2.atI_nat (j:=2) rfl
        have al:∀ x∈[LV.str a,l,o,bk,t1,t2],Nc 1 L1 x:=fun x hm=>(hx x hm).grow g1
        simp only [Bool.not_true,at1,at2,rulesSY,b_nil',b_cons',setAll,Nat.reduceAdd,Nat.reduceLT,reduceCtorEq]
        refine ⟨_,rfl,l_count_ok (k:=k + 4) (al l (.tail _ (.head _))).ok ?_⟩
        have q:∀ L',Grow L L'->Q (.bl ((strB s l o && inB 0 (toI l) bk) && (isTabX (s ^ (toI l).toNat) t1 && isTabX (s ^ (toI l).toNat) t2))) L':=q
        cases h1:inB 1 15 l with
        | false =>
         simp only [strB,h1,Bool.false_and] at q
         simp only [Bool.not_false,rulesSY,b_nil',b_cons',setAll,Nat.reduceAdd,Nat.reduceLT,reduceCtorEq]
         exact q L1 g1
        | true =>
         obtain ⟨n,rfl,n0,n1⟩:=inB_int h1
         obtain ⟨m,rfl⟩:∃ m:Nat,n = m:=⟨n.toNat,by omega⟩
         have q:∀ L',Grow L L'->Q (.bl (((inB 1 15 (.int (m:Int)) && (decide (s ^ m<=50000) && inB 0 ((m:Int) - 1) o)) && inB 0 (m:Int) bk) && (isTabX (s ^ m) t1 && isTabX (s ^ m) t2))) L':=q
         simp only [h1,Bool.true_and] at q
         simp only [Bool.not_true,at1,at2,rulesSY,b_nil',b_cons',setAll,Nat.reduceAdd,Nat.reduceLT,reduceCtorEq]
         have ep:(s:Int) ^ m = ((s ^ m:Nat):Int):=(Int.natCast_pow s m).symm
         refine ⟨_,rfl,l_size_ok (k:=k + 4) (by omega) (by omega) ⟨by decide,_,rfl,rfl,?_⟩⟩
         simp only [ep,rulesSY,b_nil',b_cons',setAll,Nat.reduceAdd,Nat.reduceLT,reduceCtorEq]
         by_cases c3:s ^ m<=50000
         ·rw [decide_eq_true c3,Bool.true_and] at q
          rw [decide_eq_false (by omega)]
          simp only [at2,rulesSY,b_nil',b_cons',setAll,Nat.reduceAdd,Nat.reduceLT,reduceCtorEq]
          refine ⟨_,rfl,l_count_ok (k:=k + 4) (al o (.tail _ (.tail _ (.head _)))).ok ?_⟩
          cases h2:inB 0 ((m:Int) - 1) o with
          | false =>
           rw [h2,Bool.false_and,Bool.false_and] at q
           simp only [Bool.not_false,rulesSY,b_nil',b_cons',setAll,Nat.reduceAdd,Nat.reduceLT,reduceCtorEq]
           exact q L1 g1
          | true =>
           rw [h2,Bool.true_and] at q
           have ln:lenV L1 (.tup [.str a,.int m,o,bk,t1,t2]) = some 6:=rfl
           simp only [Bool.not_true,ln,rulesSY,b_nil',b_cons',setAll,Nat.reduceAdd,Nat.reduceLT,reduceCtorEq]
           have at3:L2.atI [LV.str a,.int m,o,bk,t1,t2] 3 = some bk:=L2.atI_nat (j:=3) rfl
           refine ⟨fun _=>⟨_,at3,_,rfl,l_count_ok (k:=k + 4) (al bk (.tail _ (.tail _ (.tail _ (.head _))))).ok ?_⟩,fun z=>absurd z (by decide)⟩
           cases h3:inB 0 (m:Int) bk with
           | false =>
            rw [h3,Bool.false_and] at q
            simp only [Bool.not_false,rulesSY,b_nil',b_cons',setAll,Nat.reduceAdd,Nat.reduceLT,reduceCtorEq]
            exact q L1 g1
           | true =>
            rw [h3,Bool.true_and] at q
            simp only [Bool.not_true,ln,rulesSY,b_nil',b_cons',setAll,Nat.reduceAdd,Nat.reduceLT,reduceCtorEq]
            have cu:cut [LV.str a,.int m,o,bk,t1,t2] (some (((6:Nat):Int) - ((6:Nat):Int) / 2 + 1)) none = [t1,t2]:=rfl
            refine ⟨by decide,?_⟩
            rw [cu]
            refine lots_ok (k:=k + 3) (xs:=[t1,t2]) (fun x hm=>al x ?_) (fun ts hm=>hn _ ts rfl ?_) (by simp) fun L2' g2=>?_
            ·simp only [List.mem_cons,List.not_mem_nil,or_false] at hm
             rcases hm with rfl | rfl
             ·exact .tail _ (.tail _ (.tail _ (.tail _ (.head _))))
             ·exact .tail _ (.tail _ (.tail _ (.tail _ (.tail _ (.head _)))))
            ·simp only [List.mem_cons,List.not_mem_nil,or_false] at hm
             rcases hm with e6 | e6
             ·rw [<- e6]; exact .tail _ (.tail _ (.tail _ (.tail _ (.head _))))
             ·rw [<- e6]; exact .tail _ (.tail _ (.tail _ (.tail _ (.tail _ (.head _)))))
            ·have e5:[t1,t2].all (isTabX (s ^ m)) = (isTabX (s ^ m) t1 && isTabX (s ^ m) t2):=by simp
             rw [e5]
             exact q L2' (g1.trans g2)
         ·rw [decide_eq_false c3,Bool.false_and,Bool.false_and,Bool.false_and] at q
          rw [decide_eq_true (by omega)]
          simp only [rulesSY,b_nil',b_cons',setAll,Nat.reduceAdd,Nat.reduceLT,reduceCtorEq]
          exact q L1 g1
       ·have ef:(if a = Str.ofString "one" then isOne s [.str a,l,o,bk,t1,t2] else if a = Str.ofString "two" then isTwo s [.str a,l,o,bk,t1,t2] else false) = false:=by
         rw [if_neg c2]
         split <;> rfl
        rw [ef] at q
        rw [decide_eq_false c2]
        simp only [Bool.not_false,rulesSY,b_nil',b_cons',setAll,Nat.reduceAdd,Nat.reduceLT,reduceCtorEq]
        exact q L1 g1
  ·have e:(xs.length == 1 || xs.length == 4 || xs.length == 6) = false:=by
    rw [beq_eq_false_iff_ne.mpr fun z=>c (.inl z),beq_eq_false_iff_ne.mpr fun z=>c (.inr (.inl z)),beq_eq_false_iff_ne.mpr fun z=>c (.inr (.inr z))]
    rfl
   rw [planB_len ⟨fun z=>c (.inl z),fun z=>c (.inr (.inl z)),fun z=>c (.inr (.inr z))⟩] at q
   rw [e]
   simp only [Bool.not_false,rulesSY,b_nil',b_cons',setAll,Nat.reduceAdd,Nat.reduceLT,reduceCtorEq]
   exact q L (Grow.refl L)
 | _ =>
  simp only [isTup,Bool.not_false,rulesSY,b_nil',b_cons',setAll,Nat.reduceAdd,Nat.reduceLT,reduceCtorEq]
  exact q L (Grow.refl L)
end K23
namespace K23
open PySem Mv
def GV (d h:Nat) (L:LH) (n w:Nat) (v:LV):Prop:=∀ L',Fr d h L L'->GQ L' 110 n w v
theorem GV.fr {d h n w:Nat} {L L':LH} {v:LV} (g:GV d h L n w v) (F:Fr d h L L'):GV d h L' n w v:=fun M f=>g M (F.trans f)
theorem GV.gq {d h n w:Nat} {L:LH} {v:LV} (g:GV d h L n w v):GQ L 110 n w v:=g L Fr.refl
theorem told_ok {k s n w:Nat} {v:LV} {L:LH} {Q:LV->LH->Prop} (hs:2<=s∧s < 7) (g:GQ L 110 n w v) (hn:n < 50) (hw:w<=100000) (q:∀ L',Grow L L'->Q (.bl true) L'):wp (run prog (k + 7) 20 [.int s,v]) L Q:=by
 refine cI f_l_told_right [some (.int s),some v,none,none,none] rfl rfl rfl ?_
 simp only [f_l_told_right,rulesSY,b_nil',b_cons',setAll,Nat.reduceAdd,Nat.reduceLT,reduceCtorEq]
 refine repr_Q g (by omega) (by decide) (by omega) fun t ht=>?_
 have N:Nc 2 L v:=nc_of 2 g
 have N4:∀ xs ts,v = .tup xs->.tup ts∈xs->ts.length<=4000:=fun xs ts e hm=>by
  subst e
  exact (g.tupInv.2.mem _ hm).tupInv.1
 refine ⟨_,rfl,l_tour_ok (k:=k) hs N N4 fun L1 g1=>?_⟩
 refine ⟨_,rfl,plan_ok (k:=k) hs (N.grow g1) fun L2' g2=>?_⟩
 refine ⟨_,rfl,plan_ok (k:=k) hs (N.grow (g1.trans g2)) fun L3 g3=>?_⟩
 have gb:∀ L,GQs L 110 1 10 [LV.bl (planB s v),LV.bl (planB s v)]:=fun L=>.cons (w1:=1) (w2:=5) (.bl _) (.cons (w1:=1) (w2:=1) (.bl _) (GQs.nil (w:=1)) (by decide)) (by decide)
 have eqs:∀ {L:LH} {a:Str},Mv.eqV L (.str a) (.str a) = some true:=fun {L a}=>by rw [eqS,decide_eq_true rfl]
 have G:=(g1.trans g2).trans g3
 refine ⟨by decide,repr_L eNew (gb _) (by decide) (by decide) (by decide) fun u hu=>⟨by decide,hu _ _ ⟨_,rfl⟩ eNew _ (wp_eq eqs rfl ?_)⟩⟩
 simp only [rulesSY,b_nil',b_cons',setAll,Nat.reduceAdd,Nat.reduceLT,reduceCtorEq]
 have G2:=(G.trans ⟨_,rfl⟩).trans (L2:=L3 ++ [LO.lst [LV.bl (planB s v),LV.bl (planB s v)]] ++ [LO.lst [LV.bl (planB s v),LV.bl (planB s v)]]) ⟨_,rfl⟩
 refine ht _ G2 _ (wp_eq eqs rfl ?_)
 exact q _ G2
theorem lgJ {n:Nat} (h:n < 2 ^ 40):n.log2 < 40:=by
 rcases Nat.eq_zero_or_pos n with rfl | h0
 ·decide
 ·exact (Nat.log2_lt (by omega)).mpr h
theorem big_gq {L:LH} {n:Nat}:GQ L 110 n 100 (.int (10 ^ 30)):=GQ.int (b:=100) (by decide +kernel) (by decide) (by decide) (by decide)
theorem int_gq {L:LH} {n:Nat} {i:Int} (h:-1000000000000<=i∧i<=1000000000000):GQ L 110 n 50 (.int i):=GQ.int (b:=40) (lgJ (by omega)) (by decide) (by decide) (by decide)
theorem odd_ok {k d h t:Nat} {L:LH} {Q:LV->LH->Prop} (D:Deck d h t L) (ht:t < 2000000)
  (q:∀ v L',GV d h L' 3 200 v->(v = .tup []∨v = .tup [.int 0,.int 1]∨∀ xs,v≠.tup xs)->Deck d h (t + 1) L'->Fr d h L L'->Q v L'):wp (run prog (k + 3) 17 [.ref d]) L Q:=by
 obtain ⟨l1,l2⟩:=D.lt
 refine cI f_l_odd [some (.ref d),none] rfl rfl rfl ?_
 simp only [f_l_odd,rulesSY,b_nil',b_cons',setAll,Nat.reduceAdd,Nat.reduceLT,reduceCtorEq]
 refine ⟨by decide,by decide,by decide,by decide,by decide,_,rfl,pick_ok (k:=k) (D.grow ((Grow.trans ⟨_,rfl⟩ ⟨_,rfl⟩).trans ⟨_,rfl⟩)) (by omega) (by simp only [List.length_append,List.length_singleton]; omega) eNew (by simp) fun z L' hz D' F=>?_⟩
 have F0:Fr d h L L':=(Fr.grow ((Grow.trans ⟨_,rfl⟩ ⟨_,rfl⟩).trans ⟨_,rfl⟩)).trans F
 have ea:L'[L.length]? = some (.lst []):=(F.at_ _ (by simp only [List.length_append,List.length_singleton]; omega) (by omega) (by omega)).trans (eOld (eOld eNew))
 have eb:L'[(L ++ [LO.lst []]).length]? = some (.dic []):=(F.at_ _ (by simp) (by simp; omega) (by simp; omega)).trans (eOld eNew)
 have na:L.length≠d∧L.length≠h:=by omega
 have nb:(L ++ [LO.lst []]).length≠d∧(L ++ [LO.lst []]).length≠h:=by simp only [List.length_append,List.length_singleton]; omega
 have kd:z = .tup []∨z = .tup [.int 0,.int 1]∨∀ xs,z≠.tup xs:=by
  simp only [List.mem_cons,List.not_mem_nil,or_false] at hz
  rcases hz with rfl | rfl | rfl | rfl | rfl | rfl | rfl | rfl | rfl | rfl | rfl | rfl | rfl | rfl | rfl | rfl | rfl
  all_goals first | exact .inl rfl | exact .inr (.inl rfl) | exact .inr (.inr fun xs e=>by cases e)
 refine q z L' (fun M f=>?_) kd D' F0
 have ea2:=(f.at_ _ (lt_of ea) na.1 na.2).trans ea
 have eb2:=(f.at_ _ (lt_of eb) nb.1 nb.2).trans eb
 simp only [List.mem_cons,List.not_mem_nil,or_false] at hz
 rcases hz with rfl | rfl | rfl | rfl | rfl | rfl | rfl | rfl | rfl | rfl | rfl | rfl | rfl | rfl | rfl | rfl | rfl
 ·exact .non
 ·exact .bl _
 ·exact .bl _
 ·exact (int_gq (by decide)).le (Nat.le_refl _) (by decide)
 ·exact (int_gq (by decide)).le (Nat.le_refl _) (by decide)
 ·exact (int_gq (by decide)).le (Nat.le_refl _) (by decide)
 ·exact (int_gq (by decide)).le (Nat.le_refl _) (by decide)
 ·exact (int_gq (by decide)).le (Nat.le_refl _) (by decide)
 ·exact .ofString _ (by decide)
 ·exact .ofString _ (by decide)
 ·exact .ofString _ (by decide)
 ·exact .ofString _ (by decide)
 ·exact .tup .nil (by simp)
 ·exact .lst ea2 .nil
 ·exact .dic0 eb2
 ·exact .tup (.cons (w1:=50) (w2:=100) (int_gq (by decide)) (.cons (w1:=50) (w2:=0) (int_gq (by decide)) (GQs.nil (w:=0)) (by decide)) (by decide)) (by simp)
 ·exact big_gq.le (Nat.le_refl _) (by decide)
end K23
namespace K23
open PySem Mv
theorem gqs_len {L:LH} {n w:Nat}:∀ {xs:List LV},GQs L 110 n w xs->xs.length<=w
 | [],_=>Nat.zero_le _
 | x :: xs,⟨_,.cons (d:=d) (ds:=ds) h1 h2,hw⟩=>by
  simp only [PyData.bulkAll] at hw
  have:=gqs_len (w:=PyData.bulkAll ds) ⟨_,h2,Nat.le_refl _⟩
  rw [List.length_cons]
  omega
def GVs (d h:Nat) (L:LH) (n w:Nat) (xs:List LV):Prop:=∀ L',Fr d h L L'->GQs L' 110 n w xs
theorem GVs.fr {d h n w:Nat} {L L':LH} {v:List LV} (g:GVs d h L n w v) (F:Fr d h L L'):GVs d h L' n w v:=fun M f=>g M (F.trans f)
theorem GVs.len {d h n w:Nat} {L:LH} {v:List LV} (g:GVs d h L n w v):v.length<=w:=gqs_len (g L Fr.refl)
theorem GVs.le {d h n m w w':Nat} {L:LH} {v:List LV} (g:GVs d h L n w v) (e:n<=m) (e2:w<=w'):GVs d h L m w' v:=fun M f=>(g M f).le e e2
theorem GV.le {d h n m w w':Nat} {L:LH} {v:LV} (g:GV d h L n w v) (e:n<=m) (e2:w<=w'):GV d h L m w' v:=fun M f=>(g M f).le e e2
theorem GVs.sub {d h n w:Nat} {L:LH} {xs ys:List LV} (g:GVs d h L n w xs) (s:ys.Sublist xs):GVs d h L n w ys:=fun M f=>(g M f).sub s
theorem GVs.app {d h n w1 w2:Nat} {L:LH} {xs ys:List LV} (g:GVs d h L n w1 xs) (g2:GVs d h L n w2 ys):GVs d h L n (w1 + w2) (xs ++ ys):=fun M f=>(g M f).append (g2 M f) (Nat.le_refl _)
theorem GVs.one {d h n w:Nat} {L:LH} {x:LV} (g:GV d h L n w x):GVs d h L n (w + 1) [x]:=fun M f=>.cons (g M f) (GQs.nil (w:=0)) (by omega)
theorem GVs.mem {d h n w:Nat} {L:LH} {xs:List LV} (g:GVs d h L n w xs) {x:LV} (hx:x∈xs):GV d h L n w x:=fun M f=>(g M f).mem x hx
theorem GV.inv {d h n w:Nat} {L:LH} {xs:List LV} (g:GV d h L (n + 1) w (.tup xs)):GVs d h L n w xs:=fun M f=>(g M f).tupInv.2
theorem GVs.tup {d h n w:Nat} {L:LH} {xs:List LV} (g:GVs d h L n w xs) (hl:xs.length<=4000):GV d h L (n + 1) w (.tup xs):=fun M f=>.tup (g M f) hl
def LB (m:Nat):Nat->LV->Prop
 | k + 1,.tup xs=>xs.length<=m∧∀ x∈xs,LB m k x
 | _,_=>True
theorem LB.le {m m':Nat} (e:m<=m'):∀ {k:Nat} {v:LV},LB m k v->LB m' k v
 | 0,v,_=>by cases v <;> trivial
 | k + 1,.tup xs,h=>⟨Nat.le_trans h.1 e,fun x hx=>LB.le e (h.2 x hx)⟩
 | _ + 1,.non,_=>trivial
 | _ + 1,.bl _,_=>trivial
 | _ + 1,.int _,_=>trivial
 | _ + 1,.str _,_=>trivial
 | _ + 1,.ref _,_=>trivial
theorem LB.dn {m:Nat}:∀ {k:Nat} {v:LV},LB m (k + 1) v->LB m k v
 | 0,v,_=>by cases v <;> trivial
 | k + 1,.tup xs,h=>⟨h.1,fun x hx=>LB.dn (h.2 x hx)⟩
 | _ + 1,.non,_=>trivial
 | _ + 1,.bl _,_=>trivial
 | _ + 1,.int _,_=>trivial
 | _ + 1,.str _,_=>trivial
 | _ + 1,.ref _,_=>trivial
theorem LB.tp {m k:Nat} {xs:List LV} (h:xs.length<=m) (h2:∀ x∈xs,LB m k x):LB m (k + 1) (.tup xs):=⟨h,h2⟩
theorem LB.iv {m k:Nat} {v:LV} (h:∀ xs,v≠.tup xs):LB m k v:=by
 cases v with
 | tup xs=>exact absurd rfl (h xs)
 | _=>cases k <;> trivial
theorem GVs.put {d h n w w2 c e:Nat} {L:LH} {xs:List LV} {x:LV} (g:GVs d h L n w xs) (g2:GV d h L n w2 x) (hc:c<=e):GVs d h L n (w + (w2 + 1)) (xs.take c ++ [x] ++ xs.drop e):=fun M f=>by
 have hs:(xs.take c ++ xs.drop e).Sublist xs:=by
  have h1:(xs.take c ++ xs.drop e).Sublist (xs.take c ++ xs.drop c):=(List.Sublist.refl _).append (by
   obtain ⟨m,rfl⟩:∃ m,e = c + m:=⟨e - c,by omega⟩
   rw [<- List.drop_drop]
   exact List.drop_sublist ..)
  rw [List.take_append_drop] at h1
  exact h1
 have g3:=(g M f).sub hs
 obtain ⟨ds,h1,h2⟩:=g3
 obtain ⟨d1,d2,rfl,k1,k2⟩:∃ d1 d2,ds = d1 ++ d2∧Dqs M 110 n (xs.take c) d1∧Dqs M 110 n (xs.drop e) d2:=by
  generalize xs.take c = a at h1
  generalize xs.drop e = b at h1
  clear hs h2
  induction a generalizing ds with
  | nil=>exact ⟨[],ds,rfl,.nil _,h1⟩
  | cons y a ih =>
   cases h1 with
   | cons p q =>
    obtain ⟨d1,d2,rfl,r1,r2⟩:=ih _ q
    exact ⟨_ :: d1,d2,rfl,.cons p r1,r2⟩
 have hb:∀ a b:List PyData,PyData.bulkAll (a ++ b) = PyData.bulkAll a + PyData.bulkAll b:=fun a b=>by
  induction a with
  | nil=>simp [PyData.bulkAll]
  | cons y a ih=>simp only [List.cons_append,PyData.bulkAll,ih]; omega
 rw [hb] at h2
 exact GQs.append (w1:=PyData.bulkAll d1 + (w2 + 1)) (w2:=PyData.bulkAll d2) (GQs.append (w1:=PyData.bulkAll d1) (w2:=w2 + 1) ⟨_,k1,Nat.le_refl _⟩ (.cons (g2 M f) (GQs.nil (w:=0)) (by omega)) (Nat.le_refl _)) ⟨_,k2,Nat.le_refl _⟩ (by omega)
theorem divJ {n:Int} (h:0 < n∧n<=100000):divOk n = true:=by
 unfold divOk
 exact decide_eq_true ⟨by omega,Nat.lt_of_lt_of_le (lgJ (by omega)) (by decide)⟩
theorem smJ {n:Nat} (h:n<=100000):small n = true:=decide_eq_true (Nat.le_trans h (by decide))
theorem table_ok {k d h t n w:Nat} {xs:List LV} {L:LH} {Q:LV->LH->Prop} (D:Deck d h t L) (ht:t < 1000000) (g:GV d h L (n + 2) w (.tup xs)) {m j:Nat} (B:LB m (j + 1) (.tup xs)) (hm:m<=3000) (hx:xs≠[])
  (q:∀ v t' L',GV d h L' (n + 2) (2 * w + 60) v->LB (m + 1) (j + 1) v->t'<=t + 3->Deck d h t' L'->Fr d h L L'->Q v L'):wp (run prog (k + 3) 18 [.ref d,.tup xs]) L Q:=by
 obtain ⟨l1,l2⟩:=D.lt
 have hl:=B.1
 have h0:0 < xs.length:=List.length_pos_iff.mpr hx
 refine cI f_l_bent_table [some (.ref d),some (.tup xs),none,none,none] rfl rfl rfl ?_
 simp only [f_l_bent_table,pm01,len_tup,rulesSY,b_nil',b_cons',setAll,Nat.reduceAdd,Nat.reduceLT,reduceCtorEq]
 refine draw_ok (k:=k + 1) (n:=6) D (by decide) (by decide) (by omega) fun way L1 w0 w1 D1 F1=>?_
 simp only [len_tup,rulesSY,b_nil',b_cons',setAll,Nat.reduceAdd,Nat.reduceLT,reduceCtorEq]
 refine draw_ok (k:=k + 1) D1 (by omega) (divJ ⟨by omega,by omega⟩) (by omega) fun a L2' a0 a1 D2 F2=>?_
 obtain ⟨a,rfl⟩:∃ m:Nat,a = m:=⟨a.toNat,by omega⟩
 have F:=F1.trans F2
 have G:=g.inv.fr F
 have c1:∀ m:Nat,cut xs none (some (m:Int)) = xs.take m:=fun m=>cutG_hi
 have c2:cut xs (some ((a:Int) + 1)) none = xs.drop (a + 1):=by
  rw [show (a:Int) + 1 = ((a + 1:Nat):Int) by omega]
  exact cutG_lo
 simp only [rulesSY,b_nil',b_cons',setAll,Nat.reduceAdd,Nat.reduceLT,reduceCtorEq]
 have lt1:=List.length_take_le a xs
 have ld1:(xs.drop (a + 1)).length<=xs.length:=by rw [List.length_drop]; omega
 have hs:(xs.take a ++ xs.drop (a + 1)).Sublist xs:=by
  have h1:(xs.take a ++ xs.drop (a + 1)).Sublist (xs.take a ++ xs.drop a):=(List.Sublist.refl _).append (by
   rw [<- List.drop_drop]
   exact List.drop_sublist ..)
  rw [List.take_append_drop] at h1
  exact h1
 have B':∀ x∈xs,LB (m + 1) j x:=fun x hx=>(B.2 x hx).le (by omega)
 have bi:∀ i:Int,LB (m + 1) j (.int i):=fun i=>LB.iv fun xs e=>by cases e
 rw [c1,c2]
 refine ⟨fun _=>⟨smJ (by omega),?_⟩,fun _=>⟨fun _=>⟨_,rfl,?_⟩,fun _=>⟨fun _=>⟨by decide,smJ (by omega),?_⟩,fun _=>?_⟩⟩⟩
 ·refine q _ _ L2' (((G.sub hs).tup (by have:=hs.length_le; omega)).le (Nat.le_refl _) (by omega)) (LB.tp (by rw [List.length_append]; have:=hs.length_le; rw [List.length_append] at this; omega) fun x hm=>B' x (hs.mem hm)) (by omega) D2 F
 ·refine q _ _ _ (fun M f=>?_) (LB.iv fun xs e=>by cases e) (show t + 1 + 1<=t + 3 by omega) (D2.grow ⟨_,rfl⟩) (F.trans (Fr.grow ⟨_,rfl⟩))
  have el:M[L2'.length]? = some (.lst xs):=by
   obtain ⟨m1,m2⟩:=D2.lt
   exact (f.at_ _ (by simp) (by omega) (by omega)).trans eNew
  exact (GQ.lst el (G M ((Fr.grow ⟨_,rfl⟩).trans f))).le (by omega) (by omega)
 ·have gi:GV d h L2' (n + 1) 50 (.int (xs.length:Nat)):=fun M f=>int_gq (by omega)
  refine q _ _ L2' (((G.app (GVs.one gi)).tup (by rw [List.length_append]; simp; omega)).le (Nat.le_refl _) (by omega)) (LB.tp (by rw [List.length_append]; simp; omega) fun x hm=>?_) (by omega) D2 F
  rcases List.mem_append.mp hm with hm | hm
  ·exact B' x hm
  ·rw [List.mem_singleton.mp hm]
   exact bi _
 ·have e0:L2.atI xs 0 = some xs[0]:=L2.atI_nat (j:=0) (List.getElem?_eq_getElem h0)
  have e1:L2.atI xs (-1) = some (xs.getLast hx):=by
   have e:=L2.atI_last xs.dropLast (xs.getLast hx)
   rw [List.dropLast_concat_getLast] at e
   exact e
  refine ⟨_,e0,_,e1,by decide,_,rfl,pick_ok (k:=k) (D2.grow ⟨_,rfl⟩) (by omega) (by obtain ⟨m1,m2⟩:=D2.lt; omega) eNew (by simp) fun z L3 hz D3 F3=>?_⟩
  have F4:=F.trans ((Fr.grow ⟨_,rfl⟩).trans F3)
  have G4:=g.inv.fr F4
  have gz:GV d h L3 (n + 1) (w + 50) z∧LB (m + 1) j z:=by
   simp only [List.mem_cons,List.not_mem_nil,or_false] at hz
   rcases hz with rfl | rfl | rfl | rfl | rfl | rfl | rfl
   ·exact ⟨(G4.mem (List.getElem_mem h0)).le (Nat.le_refl _) (by omega),B' _ (List.getElem_mem h0)⟩
   ·exact ⟨(G4.mem (List.getLast_mem hx)).le (Nat.le_refl _) (by omega),B' _ (List.getLast_mem hx)⟩
   ·exact ⟨fun M f=>(int_gq (by omega)).le (Nat.le_refl _) (by omega),bi _⟩
   ·exact ⟨fun M f=>(int_gq (by omega)).le (Nat.le_refl _) (by omega),bi _⟩
   ·exact ⟨fun M f=>.bl _,LB.iv fun xs e=>by cases e⟩
   ·exact ⟨fun M f=>.non,LB.iv fun xs e=>by cases e⟩
   ·exact ⟨fun M f=>(int_gq (by omega)).le (Nat.le_refl _) (by omega),bi _⟩
  have hp:=G4.put gz.1 (show a<=a + 1 by omega)
  have hlen:(xs.take a ++ [z] ++ xs.drop (a + 1)).length<=m + 1:=by
   simp only [List.length_append,List.length_singleton,List.length_take,List.length_drop]
   omega
  refine ⟨by decide,smJ (by omega),smJ (by simp only [List.length_append,List.length_singleton,List.length_take,List.length_drop]; omega),?_⟩
  refine q _ _ L3 ((hp.tup (by omega)).le (Nat.le_refl _) (by omega)) (LB.tp hlen fun x hm=>?_) (by omega) D3 F4
  rcases List.mem_append.mp hm with hm | hm
  ·rcases List.mem_append.mp hm with hm | hm
   ·exact B' x (List.mem_of_mem_take hm)
   ·rw [List.mem_singleton.mp hm]
    exact gz.2
  ·exact B' x (List.mem_of_mem_drop hm)
end K23
namespace K23
open PySem Mv
theorem pick_okJ {k d h t s:Nat} {ys:List LV} {L:LH} {Q:LV->LH->Prop} (D:Deck d h t L) (ht:t < 274877906944) (hs:s≠d∧s≠h) (e:L[s]? = some (.lst ys)) (hl:0 < ys.length∧ys.length < 90000)
  (q:∀ (z:LV) (L':LH),z∈ys->Deck d h (t + 1) L'->Fr d h L L'->Q z L'):wp (run prog (k + 2) 9 [.ref d,.ref s]) L Q:=by
 refine cI f_l_pick [some (.ref d),some (.ref s)] rfl rfl rfl ?_
 simp only [f_l_pick,len_lst e,pm01,rulesSY,b_nil',b_cons',setAll,Nat.reduceAdd,Nat.reduceLT,reduceCtorEq]
 refine draw_ok D (by omega) (divJ ⟨by omega,by omega⟩) ht fun z L' z0 z1 D' F=>?_
 have e':L'[s]? = some (.lst ys):=(F.at_ s (lt_of e) hs.1 hs.2).trans e
 simp only [e',rulesSY,b_nil',b_cons',setAll,Nat.reduceAdd,Nat.reduceLT,reduceCtorEq]
 have hz:z.toNat < ys.length:=by omega
 have ez:z = (z.toNat:Int):=by omega
 refine ⟨ys[z.toNat],?_,q _ _ (List.getElem_mem hz) D' F⟩
 have e2:=L2.atI_nat (List.getElem?_eq_getElem hz)
 rw [<- ez] at e2
 exact e2
theorem spot_ok {k d h t n w m j:Nat} {xs:List LV} {x2 x3:Option LV} {L:LH} {Q:LV->LH->Prop} (D:Deck d h t L) (ht:t < 1000100) (g:GV d h L (n + 5) w (.tup xs)) (B:LB m (j + 2) (.tup xs)) (hm:m<=1400) (h4:4<=xs.length)
  (q:∀ v t' L',GV d h L' (n + 6) (3 * w + 300) v->LB (2 * m + 2) (j + 1) v->t'<=t + 2->Deck d h t' L'->Fr d h L L'->Q v L'):wp (evB (run prog (k + 3)) (f_l_bent.body.drop 7) [some (.ref d),some (.tup xs),x2,x3,none,none,none]) L fun r L1=>wp (retK r) L1 Q:=by
 obtain ⟨l1,l2⟩:=D.lt
 have hl:=B.1
 simp only [f_l_bent,List.drop_succ_cons,List.drop_zero,len_tup,rulesSY,b_nil',b_cons',setAll,Nat.reduceAdd,Nat.reduceLT,reduceCtorEq]
 refine ⟨_,rfl,draw_ok (k:=k + 2) D (by omega) (divJ ⟨by omega,by omega⟩) (by omega) fun b L1 b0 b1 D1 F1=>?_⟩
 obtain ⟨b,rfl⟩:∃ m:Nat,b = m:=⟨b.toNat,by omega⟩
 have e1:L2.atI xs 1 = some xs[1]:=L2.atI_nat (j:=1) (List.getElem?_eq_getElem (by omega))
 have e2:L2.atI xs 2 = some xs[2]:=L2.atI_nat (j:=2) (List.getElem?_eq_getElem (by omega))
 simp only [e1,e2,rulesSY,b_nil',b_cons',setAll,Nat.reduceAdd,Nat.reduceLT,reduceCtorEq]
 have cs:(cut xs (some 1) (some 3)).Sublist xs:=(List.take_sublist _ _).trans (List.drop_sublist _ _)
 have cl:=cs.length_le
 have bx:∀ x∈xs,LB (2 * m + 2) j x:=fun x hx=>((B.2 x hx).dn).le (by omega)
 have bi:∀ i:Int,LB (2 * m + 2) j (.int i):=fun i=>LB.iv fun xs e=>by cases e
 have Gx:=g.inv
 generalize cut xs (some 1) (some 3) = ys at cs cl ⊢
 refine ⟨by decide,compF (fun x=>if inB (-9) 99 x then some (.int (toI x + 1)) else none) (by omega) (fun x hx zs=>?_) ?_⟩
 ·have ok:∀ M,Fr d h L M->okV M x:=fun M f=>((Gx M f).mem x (cs.mem hx)).ok
  simp only [turnC,wipeL,List.set_cons_succ,List.set_cons_zero,wp_if,rulesSY,b_nil',b_cons',setAll,Nat.reduceAdd,Nat.reduceLT,reduceCtorEq]
  refine ⟨_,rfl,l_count_ok (k:=k + 2) (ok _ (F1.trans (Fr.grow (Grow.trans ⟨_,rfl⟩ ⟨_,rfl⟩)))) ?_⟩
  cases h1:inB (-9) 99 x with
  | false =>
   simp only [rulesSY,b_nil',b_cons',setAll,Nat.reduceAdd,Nat.reduceLT,reduceCtorEq]
   try simp
  | true =>
   obtain ⟨i,rfl,_⟩:=inB_int h1
   simp only [toI,rulesSY,b_nil',b_cons',setAll,Nat.reduceAdd,Nat.reduceLT,reduceCtorEq]
   try simp
 ·have hz:∀ z∈ys.filterMap (fun x=>if inB (-9) 99 x then some (LV.int (toI x + 1)) else none),∃ i:Int,z = .int i∧-9<=i∧i<=101:=fun z hz=>by
   obtain ⟨x,_,e⟩:=List.mem_filterMap.mp hz
   split at e
   ·rename_i h1
    obtain ⟨i,rfl,_⟩:=inB_int h1
    cases e
    exact ⟨_,rfl,by simp only [toI]; omega⟩
   ·cases e
  have fl:=List.length_filterMap_le (fun x=>if inB (-9) 99 x then some (LV.int (toI x + 1)) else none) ys
  generalize ys.filterMap (fun x=>if inB (-9) 99 x then some (LV.int (toI x + 1)) else none) = zs at hz fl ⊢
  refine wp_catR (eOld eNew) eNew ⟨by simp,by omega⟩ ?_
  obtain ⟨m1,m2⟩:=D1.lt
  refine ⟨_,rfl,pick_okJ (k:=k + 1) (D1.grow ((Grow.trans ⟨_,rfl⟩ ⟨_,rfl⟩).trans ⟨_,rfl⟩)) (by omega) (by simp; omega) eNew (by simp; omega) fun z L3 hz3 D3 F3=>?_⟩
  have F4:Fr d h L L3:=(F1.trans (Fr.grow ((Grow.trans ⟨_,rfl⟩ ⟨_,rfl⟩).trans ⟨_,rfl⟩))).trans F3
  have G4:=Gx.fr F4
  have gz:GV d h L3 (n + 4) (w + 50) z∧LB (2 * m + 2) j z:=by
   rcases List.mem_append.mp hz3 with hz3 | hz3
   ·simp only [List.mem_cons,List.not_mem_nil,or_false] at hz3
    rcases hz3 with rfl | rfl | rfl | rfl | rfl
    ·exact ⟨(G4.mem (List.getElem_mem _)).le (Nat.le_refl _) (by omega),bx _ (List.getElem_mem _)⟩
    ·exact ⟨(G4.mem (List.getElem_mem _)).le (Nat.le_refl _) (by omega),bx _ (List.getElem_mem _)⟩
    ·exact ⟨fun M f=>(int_gq (by omega)).le (Nat.le_refl _) (by omega),bi _⟩
    ·exact ⟨fun M f=>(int_gq (by omega)).le (Nat.le_refl _) (by omega),bi _⟩
    ·exact ⟨fun M f=>(int_gq (by omega)).le (Nat.le_refl _) (by omega),bi _⟩
   ·obtain ⟨i,rfl,i0,i1⟩:=hz z hz3
    exact ⟨fun M f=>(int_gq (by omega)).le (Nat.le_refl _) (by omega),bi _⟩
  have c1:cut xs none (some (1 + (b:Int))) = xs.take (1 + b):=by
   rw [show 1 + (b:Int) = ((1 + b:Nat):Int) by omega]
   exact cutG_hi
  have c2:cut xs (some (1 + (b:Int) + 1)) none = xs.drop (1 + b + 1):=by
   rw [show 1 + (b:Int) + 1 = ((1 + b + 1:Nat):Int) by omega]
   exact cutG_lo
  rw [c1,c2]
  have hp:=G4.put gz.1 (show 1 + b<=1 + b + 1 by omega)
  have hlen:(xs.take (1 + b) ++ [z] ++ xs.drop (1 + b + 1)).length<=m + 1:=by
   simp only [List.length_append,List.length_singleton,List.length_take,List.length_drop]
   omega
  refine ⟨by decide,smJ (by rw [List.length_take]; omega),smJ (by simp only [List.length_append,List.length_singleton,List.length_take,List.length_drop]; omega),?_⟩
  refine q _ _ L3 ((hp.tup (by omega)).le (by omega) (by omega)) (LB.tp (by omega) fun x hm=>?_) (by omega) D3 F4
  rcases List.mem_append.mp hm with hm | hm
  ·rcases List.mem_append.mp hm with hm | hm
   ·exact bx x (List.mem_of_mem_take hm)
   ·rw [List.mem_singleton.mp hm]
    exact gz.2
  ·exact bx x (List.mem_of_mem_drop hm)
theorem gqs_rev {L:LH} {n w:Nat}:∀ {xs:List LV},GQs L 110 n w xs->GQs L 110 n w xs.reverse
 | [],h=>h
 | x :: xs,⟨_,.cons (d:=d) (ds:=ds) h1 h2,hw⟩=>by
  simp only [PyData.bulkAll] at hw
  rw [List.reverse_cons]
  exact GQs.append (w1:=PyData.bulkAll ds) (w2:=d.bulk + 1) (gqs_rev ⟨_,h2,Nat.le_refl _⟩) (.cons (w1:=d.bulk) (w2:=0) ⟨_,h1,Nat.le_refl _⟩ .nil (by omega)) (by omega)
theorem cut_last {xs:List LV}:cut xs none (some (-1)) = xs.take (xs.length - 1):=by
 unfold cut
 have e1:HT.sIx xs.length xs.length (some (-1)) = xs.length - 1:=by
  unfold HT.sIx
  dsimp only
  rw [if_pos (by decide)]
  omega
 have e2:HT.sIx xs.length 0 none = 0:=rfl
 rw [e1,e2,List.drop_zero,Nat.sub_zero]
theorem bent_ok {k d h t n w m j:Nat} {v:LV} {L:LH} {Q:LV->LH->Prop} (D:Deck d h t L) (ht:t < 900000) (g:GV d h L (n + 5) w v) (B:LB m (j + 2) v) (hm:m<=1400)
  (q:∀ v t' L',GV d h L' (n + 6) (3 * w + 300) v->LB (2 * m + 2) (j + 1) v->t'<=t + 6->Deck d h t' L'->Fr d h L L'->Q v L'):wp (run prog (k + 4) 19 [.ref d,v]) L Q:=by
 obtain ⟨l1,l2⟩:=D.lt
 show wp (callFn (run prog (k + 3)) f_l_bent [.ref d,v]) L Q
 rw [call_eq,wp_chk]
 refine ⟨rfl,?_⟩
 show wp (Mv.M.bind (evB _ (f_l_bent.body.take 7 ++ f_l_bent.body.drop 7) [some (.ref d),some v,none,none,none,none,none]) retK) L Q
 have odd:∀ L0 t0 (Q0:LV->LH->Prop),Deck d h t0 L0->t0<=t + 5->Fr d h L L0->(∀ v' L',GV d h L' 3 200 v'->LB (2 * m + 2) (j + 1) v'->Deck d h (t0 + 1) L'->Fr d h L0 L'->Q0 v' L')->wp (run prog (k + 3) 17 [.ref d]) L0 Q0:=fun L0 t0 Q0 D0 h0 F0 q0 =>
  odd_ok (k:=k) D0 (by omega) fun v' L' g' kd D' F'=>q0 v' L' g' (by
   rcases kd with rfl | rfl | kd
   ·exact LB.tp (by simp) fun x hx=>by cases hx
   ·exact LB.tp (by simp) fun x hx=>by
     simp only [List.mem_cons,List.not_mem_nil,or_false] at hx
     rcases hx with rfl | rfl <;> exact LB.iv fun xs e=>by cases e
   ·exact LB.iv kd) D' F'
 have spot:∀ xs (x2 x3:Option LV) L0 t0,v = .tup xs->4<=xs.length->Deck d h t0 L0->t0<=t + 4->Fr d h L L0->wp (evB (run prog (k + 3)) (f_l_bent.body.drop 7) [some (.ref d),some (.tup xs),x2,x3,none,none,none]) L0 fun r L1=>wp (retK r) L1 Q:=fun xs x2 x3 L0 t0 e h4 D0 h0 F0=>by
  subst e
  exact spot_ok D0 (by omega) (g.fr F0) B hm h4 fun v' t' L' g' b' h' D' F'=>q v' t' L' g' b' (by omega) D' (F0.trans F')
 rw [b_app]
 generalize f_l_bent.body.drop 7 = rest at spot ⊢
 simp only [f_l_bent,List.take_succ_cons,List.take_zero,rulesSY,b_nil',b_cons',setAll,Nat.reduceAdd,Nat.reduceLT,reduceCtorEq]
 refine isi_t g.gq.ok ?_
 cases v with
 | tup xs =>
  simp only [isTup,Bool.not_true,rulesSY,b_nil',b_cons',setAll,Nat.reduceAdd,Nat.reduceLT,reduceCtorEq]
  refine ⟨by decide,wp_eq eq_tup0 rfl ?_⟩
  cases hx:xs.isEmpty with
  | true =>
   simp only [rulesSY,b_nil',b_cons',setAll,Nat.reduceAdd,Nat.reduceLT,reduceCtorEq]
   exact ⟨_,rfl,odd L t _ D (by omega) Fr.refl fun v' L' g' b' D' F'=>q v' _ L' (g'.le (by omega) (by omega)) b' (by omega) D' F'⟩
  | false =>
   have hx:xs≠[]:=List.isEmpty_eq_false_iff.mp hx
   have h0:0 < xs.length:=List.length_pos_iff.mpr hx
   have hl:=B.1
   simp only [len_tup,rulesSY,b_nil',b_cons',setAll,Nat.reduceAdd,Nat.reduceLT,reduceCtorEq]
   refine ⟨_,rfl,draw_ok (k:=k + 2) (n:=8) D (by decide) (by decide) (by omega) fun way L1 w0 w1 D1 F1=>?_⟩
   simp only [len_tup,rulesSY,b_nil',b_cons',setAll,Nat.reduceAdd,Nat.reduceLT,reduceCtorEq]
   refine ⟨_,rfl,draw_ok (k:=k + 2) D1 (by omega) (divJ ⟨by omega,by omega⟩) (by omega) fun a L2' a0 a1 D2 F2=>?_⟩
   obtain ⟨a,rfl⟩:∃ m:Nat,a = m:=⟨a.toNat,by omega⟩
   have F:=F1.trans F2
   have G:=g.inv.fr F
   have c1:∀ m:Nat,cut xs none (some (m:Int)) = xs.take m:=fun m=>cutG_hi
   have c2:cut xs (some ((a:Int) + 1)) none = xs.drop (a + 1):=by
    rw [show (a:Int) + 1 = ((a + 1:Nat):Int) by omega]
    exact cutG_lo
   have c3:cut xs (some (a:Int)) none = xs.drop a:=cutG_lo
   have lt1:(xs.take a).length = a:=by rw [List.length_take]; omega
   have ld1:(xs.drop (a + 1)).length = xs.length - (a + 1):=List.length_drop
   have ld2:(xs.drop a).length = xs.length - a:=List.length_drop
   have bx:∀ x∈xs,LB (2 * m + 2) j x:=fun x hx=>((B.2 x hx).dn).le (by omega)
   have bx1:∀ x∈xs,LB (2 * m + 2) (j + 1) x:=fun x hx=>(B.2 x hx).le (by omega)
   have hs:(xs.take a ++ xs.drop (a + 1)).Sublist xs:=by
    have h1:(xs.take a ++ xs.drop (a + 1)).Sublist (xs.take a ++ xs.drop a):=(List.Sublist.refl _).append (by
     rw [<- List.drop_drop]
     exact List.drop_sublist ..)
    rw [List.take_append_drop] at h1
    exact h1
   have put:∀ e:Nat,a<=e->e<=a + 1->∀ (q2:LV) L3 t3,GV d h L3 3 200 q2->LB (2 * m + 2) (j + 1) q2->Deck d h t3 L3->t3<=t + 6->Fr d h L L3->Q (.tup (xs.take a ++ [q2] ++ xs.drop e)) L3:=fun e e0 e1 q2 L3 t3 g3 b3 D3 h3 F3=>by
    have G3:=g.inv.fr F3
    have hlen:(xs.take a ++ [q2] ++ xs.drop e).length<=m + 1:=by
     simp only [List.length_append,List.length_singleton,lt1,List.length_drop]
     omega
    have hp:GVs d h L3 (n + 4) (w + (200 + 1)) (xs.take a ++ [q2] ++ xs.drop e):=G3.put (g3.le (by omega) (Nat.le_refl _)) e0
    refine q _ _ L3 ((hp.tup (by omega)).le (by omega) (by omega)) (LB.tp (by omega) fun x hm=>?_) h3 D3 F3
    rcases List.mem_append.mp hm with hm | hm
    ·rcases List.mem_append.mp hm with hm | hm
     ·exact bx x (List.mem_of_mem_take hm)
     ·rw [List.mem_singleton.mp hm]
      exact b3.dn
    ·exact bx x (List.mem_of_mem_drop hm)
   simp only [len_tup,rulesSY,b_nil',b_cons',setAll,Nat.reduceAdd,Nat.reduceLT,reduceCtorEq]
   rw [c1,c2,c3]
   refine ⟨fun _=>⟨smJ (by omega),?_⟩,fun _=>⟨fun _=>⟨_,rfl,?_⟩,fun _=>⟨fun _=>?_,fun _=>⟨fun _=>⟨_,rfl,?_⟩,fun _=>⟨fun _=>⟨_,rfl,?_⟩,fun h4=>⟨fun _=>?_,fun _=>?_⟩⟩⟩⟩⟩⟩
   ·refine q _ _ L2' (((G.sub hs).tup (by have:=hs.length_le; omega)).le (by omega) (by omega)) (LB.tp (by have:=hs.length_le; omega) fun x hm=>bx x (hs.mem hm)) (by omega) D2 F
   ·refine odd _ _ _ D2 (by omega) F fun v' L3 g3 b3 D3 F3=>⟨by decide,smJ (by omega),smJ (by simp only [List.length_append,List.length_singleton]; omega),put a (by omega) (by omega) v' L3 _ g3 b3 D3 (by omega) (F.trans F3)⟩
   ·have e0:L2.atI xs 0 = some xs[0]:=L2.atI_nat (j:=0) (List.getElem?_eq_getElem h0)
    obtain ⟨m1,m2⟩:=D2.lt
    refine ⟨_,rfl,by decide,_,e0,smJ (by omega),by decide,_,rfl,pick_ok (k:=k + 1) (D2.grow (Grow.trans ⟨_,rfl⟩ ⟨_,rfl⟩)) (by omega) (by simp only [List.length_append,List.length_singleton]; omega) eNew (by simp) fun z L3 hz D3 F3=>?_⟩
    have F4:Fr d h L L3:=(F.trans (Fr.grow (Grow.trans ⟨_,rfl⟩ ⟨_,rfl⟩))).trans F3
    have G4:=g.inv.fr F4
    have el:L3[L2'.length]? = some (.lst xs):=(F3.at_ _ (by simp only [List.length_append,List.length_singleton]; omega) (by omega) (by omega)).trans (eOld eNew)
    simp only [List.mem_cons,List.not_mem_nil,or_false] at hz
    rcases hz with rfl | rfl | rfl | rfl | rfl
    ·refine q _ _ L3 (fun M f=>?_) (LB.iv fun xs e=>by cases e) (by omega) D3 F4
     have el2:=(f.at_ _ (lt_of el) (by omega) (by omega)).trans el
     exact (GQ.lst el2 (G4 M f)).le (by omega) (by omega)
    ·refine q _ _ L3 (GV.le (GVs.tup (fun M f=>gqs_rev (G4 M f)) (by rw [List.length_reverse]; omega)) (by omega) (by omega)) (LB.tp (by rw [List.length_reverse]; omega) fun x hm=>bx x (List.mem_reverse.mp hm)) (by omega) D3 F4
    ·refine q _ _ L3 (((GVs.one (g.fr F4)).tup (by simp)).le (by omega) (by omega)) (LB.tp (by simp) fun x hm=>?_) (by omega) D3 F4
     rw [List.mem_singleton.mp hm]
     exact (B.dn.dn).le (by omega)
    ·exact q _ _ L3 ((G4.mem (List.getElem_mem h0)).le (by omega) (by omega)) (bx1 _ (List.getElem_mem h0)) (by omega) D3 F4
    ·refine q _ _ L3 (((G4.app G4).tup (by rw [List.length_append]; omega)).le (by omega) (by omega)) (LB.tp (by rw [List.length_append]; omega) fun x hm=>?_) (by omega) D3 F4
     rcases List.mem_append.mp hm with hm | hm <;> exact bx x hm
   ·refine odd _ _ _ D2 (by omega) F fun v' L3 g3 b3 D3 F3=>⟨by decide,smJ (by omega),smJ (by simp only [List.length_append,List.length_singleton]; omega),put (a + 1) (by omega) (by omega) v' L3 _ g3 b3 D3 (by omega) (F.trans F3)⟩
   ·refine odd _ _ _ D2 (by omega) F fun v' L3 g3 b3 D3 F3=>⟨by decide,smJ (by omega),smJ (by simp only [List.length_append,List.length_singleton]; omega),put (a + 1) (by omega) (by omega) v' L3 _ g3 b3 D3 (by omega) (F.trans F3)⟩
   ·have h4:4<=xs.length:=by have:=of_decide_eq_false h4; omega
    have e1:L2.atI xs (-1) = some (xs.getLast hx):=by
     have e:=L2.atI_last xs.dropLast (xs.getLast hx)
     rw [List.dropLast_concat_getLast] at e
     exact e
    have hm1:=List.getLast_mem hx
    have gl:=G.mem hm1
    have bl:=B.2 _ hm1
    generalize xs.getLast hx = z at e1 hm1 gl bl
    refine ⟨_,e1,isi_t gl.gq.ok ?_⟩
    cases z with
    | tup zs =>
     simp only [isTup,e1,rulesSY,b_nil',b_cons',setAll,Nat.reduceAdd,Nat.reduceLT,reduceCtorEq]
     refine ⟨by decide,wp_ne eq_tup0 rfl ?_⟩
     cases hz:zs.isEmpty with
     | true =>
      simp only [Bool.not_true,rulesSY,b_nil',b_cons',setAll,Nat.reduceAdd,Nat.reduceLT,reduceCtorEq]
      exact spot xs _ _ _ _ rfl h4 D2 (by omega) F
     | false =>
      have hz:zs≠[]:=List.isEmpty_eq_false_iff.mp hz
      simp only [Bool.not_false,e1,rulesSY,b_nil',b_cons',setAll,Nat.reduceAdd,Nat.reduceLT,reduceCtorEq]
      refine ⟨_,rfl,table_ok (k:=k) (n:=n + 2) D2 (by omega) gl bl (by omega) hz fun v' t' L3 g3 b3 h3 D3 F3=>?_⟩
      rw [cut_last]
      have F4:=F.trans F3
      have G4:=g.inv.fr F4
      have l9:(xs.take (xs.length - 1)).length = xs.length - 1:=by rw [List.length_take]; omega
      refine ⟨by decide,smJ (by omega),?_⟩
      refine q _ _ L3 (((((G4.sub (List.take_sublist _ _)).app (GVs.one g3))).tup (by rw [List.length_append]; simp; omega)).le (by omega) (by omega)) (LB.tp (by rw [List.length_append]; simp; omega) fun x hm=>?_) (by omega) D3 F4
      rcases List.mem_append.mp hm with hm | hm
      ·exact bx x (List.mem_of_mem_take hm)
      ·rw [List.mem_singleton.mp hm]
       exact (b3.dn).le (by omega)
    | _ =>
     simp only [isTup,rulesSY,b_nil',b_cons',setAll,Nat.reduceAdd,Nat.reduceLT,reduceCtorEq]
     exact spot xs _ _ _ _ rfl h4 D2 (by omega) F
   ·have h4:4<=xs.length:=by have:=of_decide_eq_false h4; omega
    exact spot xs _ _ _ _ rfl h4 D2 (by omega) F
 | _ =>
  simp only [isTup,Bool.not_false,rulesSY,b_nil',b_cons',setAll,Nat.reduceAdd,Nat.reduceLT,reduceCtorEq]
  exact ⟨_,rfl,odd L t _ D (by omega) Fr.refl fun v' L' g' b' D' F'=>q v' _ L' (g'.le (by omega) (by omega)) b' (by omega) D' F'⟩
end K23
namespace K23
open PySem Mv
theorem rglT_ok {n:Nat} {L:LH} {Q:LV->LH->Prop} (hn:n<=1000000) (q:Q (.tup (iv ((List.range n).map fun (i:Nat)=>(i:Int)))) L):wp (rglV true 0 (n:Int)) L Q:=by
 have e1:((n:Int) - 0).toNat = n:=by omega
 unfold rglV
 rw [e1]
 refine wp_chk.mpr ⟨decide_eq_true ⟨by decide,by decide,by omega,by omega,Nat.le_trans hn (by decide)⟩,?_⟩
 have e:((List.range n).map fun (k:Nat)=>LV.int (0 + (k:Int))) = iv ((List.range n).map fun (i:Nat)=>(i:Int)):=by
  simp only [iv,List.map_map]
  refine List.map_congr_left fun i _=>?_
  show LV.int (0 + (i:Int)) = .int (i:Int)
  rw [Int.zero_add]
 rw [e]
 exact wp_ret.mpr q
theorem dist_nd {ns:List Int} (h:ns.Nodup):(Mv.dist ns).length = ns.length:=len_of_mem (dist_nodup ns) h fun x=>dist_mem
theorem rng_nd (n:Nat):((List.range n).map fun (i:Nat)=>(i:Int)).Nodup:=by
 refine List.Pairwise.map _ ?_ (List.nodup_range (n:=n))
 intro a b hab c
 exact hab (Int.ofNat_inj.mp c)
theorem tabX_rng {n:Nat} {ns:List Int} (hl:ns.length = n) (hr:∀ x∈ns,0<=x∧x < n) (hd:ns.Nodup):isTabX n (.tup (iv ns)) = true:=by
 show (decide ((iv ns).length = n) && ((iv ns).all (inB 0 ((n:Int) - 1)) && decide ((Mv.dist (intsOf (iv ns))).length = n))) = true
 rw [iv_len,intsOf_iv,dist_nd hd,decide_eq_true hl,Bool.true_and,Bool.and_true,List.all_eq_true]
 intro x hx
 obtain ⟨y,hy,rfl⟩:=List.mem_map.mp hx
 have:=hr y hy
 show (decide (0<=y) && decide (y<=(n:Int) - 1)) = true
 rw [decide_eq_true (by omega),decide_eq_true (by omega)]
 rfl
theorem nc_iv {L:LH} {ns:List Int} (hl:ns.length<=900000):Nc 1 L (.tup (iv ns)):=⟨⟨_,rfl⟩,fun xs e=>by
 cases e
 refine ⟨by rw [iv_len]; exact hl,fun x hx=>?_⟩
 obtain ⟨y,_,rfl⟩:=List.mem_map.mp hx
 exact ⟨_,rfl⟩⟩
theorem inB_yes {a b i:Int} (h1:a<=i) (h2:i<=b):inB a b (.int i) = true:=by
 show (decide (a<=i) && decide (i<=b)) = true
 rw [decide_eq_true h1,decide_eq_true h2]
 rfl
theorem nc_p {L:LH} {v:LV} (h:(∀ xs,v≠.tup xs)∧∀ n,v≠.ref n):Nc 1 L v:=by
 cases v with
 | tup xs=>exact absurd rfl (h.1 xs)
 | ref n=>exact absurd rfl (h.2 n)
 | _=>exact ⟨⟨_,rfl⟩,fun xs e=>by cases e⟩
theorem sb_ok {s l i:Nat} {o:Int} (hl:1<=l∧l<=15) (hp:s ^ l<=50000) (bi:i = 0∨(i = 1∧50000 < s ^ (l + i))) (ho:0<=o∧o<=((l + i:Nat):Int) - 1):strB s (.int ((l + i:Nat):Int)) (.int o) = decide (i = 0):=by
 show (inB 1 15 (.int ((l + i:Nat):Int)) && (decide (s ^ (l + i)<=50000) && inB 0 (((l + i:Nat):Int) - 1) (.int o))) = _
 rcases bi with rfl | ⟨rfl,c⟩
 ·have h1:inB 1 15 (.int ((l + 0:Nat):Int)) = true:=inB_yes (by omega) (by omega)
  have h2:inB 0 (((l + 0:Nat):Int) - 1) (.int o) = true:=inB_yes (by omega) (by omega)
  rw [h1,h2,decide_eq_true (show s ^ (l + 0)<=50000 from hp)]
  rfl
 ·rw [decide_eq_false (show ¬ s ^ (l + 1)<=50000 by omega),Bool.false_and,Bool.and_false]
  rfl
theorem great_ok {k d h t:Nat} {L:LH} {Q:LV->LH->Prop} (D:Deck d h t L) (ht:t < 1000000) (q:∀ L',Q (.bl true) L'):wp (run prog (k + 8) 21 [.ref d]) L Q:=by
 obtain ⟨l1,l2⟩:=D.lt
 refine cI f_l_great_right [some (.ref d),none,none,none,none,none,none] rfl rfl rfl ?_
 simp only [f_l_great_right,rulesSY,b_nil',b_cons',setAll,Nat.reduceAdd,Nat.reduceLT,reduceCtorEq]
 refine ⟨by decide,_,rfl,pick_ok (k:=k + 5) (D.grow ⟨_,rfl⟩) (by omega) (by omega) eNew (by simp) fun z L1 hz D1 F1=>?_⟩
 obtain ⟨s,rfl,s0,s1⟩:∃ s:Nat,z = .int s∧2<=s∧s < 6:=by
  simp only [List.mem_cons,List.not_mem_nil,or_false] at hz
  rcases hz with rfl | rfl | rfl | rfl
  ·exact ⟨2,rfl,by decide,by decide⟩
  ·exact ⟨3,rfl,by decide,by decide⟩
  ·exact ⟨4,rfl,by decide,by decide⟩
  ·exact ⟨5,rfl,by decide,by decide⟩
 refine wp_whl (fun m σ L'=>∃ l:Nat,σ = [some (.ref d),some (.int s),some (.int l),none,none,none,none]∧(1<=l∧l<=15)∧s ^ l<=50000∧m = 20 - l∧L' = L1) 19 (by decide) ⟨1,rfl,by decide,by simp; omega,rfl,rfl⟩ ?_
 rintro m σ L' ⟨l,rfl,hl,hp,rfl,rfl⟩
 have ch:(l:Int) + 1 = ((l + 1:Nat):Int):=by omega
 have en:(s:Int) ^ (l + 1) = ((s ^ (l + 1):Nat):Int):=(Int.natCast_pow s (l + 1)).symm
 have l15:s ^ (l + 1)<=50000->l + 1<=15:=fun c=>by
  refine Nat.le_of_not_lt fun z=>?_
  have h1:2 ^ (l + 1)<=s ^ (l + 1):=Nat.pow_le_pow_left s0 _
  have h2:2 ^ 16<=2 ^ (l + 1):=Nat.pow_le_pow_right (by decide) z
  omega
 simp only [pm01,ch,rulesSY,b_nil',b_cons',setAll,Nat.reduceAdd,Nat.reduceLT,reduceCtorEq]
 refine l_size_ok (by omega) (by omega) ?_
 simp only [en,rulesSY,b_nil',b_cons',setAll,Nat.reduceAdd,Nat.reduceLT,reduceCtorEq]
 refine ⟨_,rfl,fun c=>?_,fun c=>?_⟩
 ·have c:50000 < s ^ (l + 1):=by have:=of_decide_eq_false c; omega
  have F2:∀ i:Nat,i < 2->(l + i<=16∧s ^ (l + i)<=900000):=fun i hi=>by
   have z:i = 0∨i = 1:=by omega
   rcases z with rfl | rfl
   ·exact ⟨by omega,by rw [Nat.add_zero]; omega⟩
   ·refine ⟨by omega,?_⟩
    rw [Nat.pow_succ]
    have:=Nat.mul_le_mul hp (show s<=5 by omega)
    omega
  refine ⟨by decide,wp_for (fun i σ L2=>∃ x3 x4 x5 x6,σ = [some (.ref d),some (.int s),some (.int l),x3,x4,x5,x6]) ⟨_,_,_,_,rfl⟩ ?_ ?_⟩
  ·rintro i σ L2 hi ⟨x3,x4,x5,x6,rfl⟩
   have hi:i < 2:=hi
   obtain ⟨f1,f2⟩:=F2 i hi
   refine ⟨.int ((l + i:Nat):Int),?_,?_⟩
   ·have z:i = 0∨i = 1:=by omega
    rcases z with rfl | rfl <;> rfl
   have en2:(s:Int) ^ (l + i) = ((s ^ (l + i):Nat):Int):=(Int.natCast_pow s (l + i)).symm
   simp only [rulesSY,b_nil',b_cons',setAll,Nat.reduceAdd,Nat.reduceLT,reduceCtorEq]
   refine ⟨_,rfl,l_size_ok (by omega) (by omega) ?_⟩
   simp only [en2,rulesSY,b_nil',b_cons',setAll,Nat.reduceAdd,Nat.reduceLT,reduceCtorEq]
   refine rglT_ok (by omega) ?_
   have lr:((List.range (s ^ (l + i))).map fun (i:Nat)=>(i:Int)).length = s ^ (l + i):=by simp
   have nr:=rng_nd (s ^ (l + i))
   have xr:∀ x∈(List.range (s ^ (l + i))).map fun (i:Nat)=>(i:Int),0<=x∧x < (s ^ (l + i):Nat):=fun x hx=>by
    obtain ⟨y,hy,rfl⟩:=List.mem_map.mp hx
    have:=List.mem_range.mp hy
    omega
   generalize (List.range (s ^ (l + i))).map (fun (i:Nat)=>(i:Int)) = ns at lr nr xr ⊢
   simp only [rulesSY,b_nil',b_cons',setAll,Nat.reduceAdd,Nat.reduceLT,reduceCtorEq]
   have lr2:ns.reverse.length = s ^ (l + i):=by rw [List.length_reverse]; exact lr
   have nr2:ns.reverse.Nodup:=(List.reverse_perm ns).nodup_iff.mpr nr
   have xr2:∀ x∈ns.reverse,0<=x∧x < (s ^ (l + i):Nat):=fun x hx=>xr x (List.mem_reverse.mp hx)
   have er:(iv ns).reverse = iv ns.reverse:=by simp [iv]
   rw [er]
   have hs7:2<=s∧s < 7:=by omega
   have bi:i = 0∨(i = 1∧50000 < s ^ (l + i)):=by
    have z:i = 0∨i = 1:=by omega
    rcases z with rfl | rfl
    ·exact .inl rfl
    ·exact .inr ⟨rfl,c⟩
   have p1:planB s (.tup [.str (Str.ofString "one"),.int ((l + i:Nat):Int),.int (((l + i:Nat):Int) - 1),.tup (iv ns)]) = decide (i = 0):=by
    show (decide (Str.ofString "one" = Str.ofString "one") && (strB s (.int ((l + i:Nat):Int)) (.int (((l + i:Nat):Int) - 1)) && isTabX (s ^ (l + i)) (.tup (iv ns)))) = _
    rw [decide_eq_true rfl,Bool.true_and,tabX_rng lr xr nr,Bool.and_true]
    exact sb_ok hl hp bi (by omega)
   have p2:planB s (.tup [.str (Str.ofString "two"),.int ((l + i:Nat):Int),.int 0,.int ((l + i:Nat):Int),.tup (iv ns),.tup (iv ns.reverse)]) = decide (i = 0):=by
    show (decide (Str.ofString "two" = Str.ofString "two") && ((strB s (.int ((l + i:Nat):Int)) (.int 0) && inB 0 ((l + i:Nat):Int) (.int ((l + i:Nat):Int))) && (isTabX (s ^ (l + i)) (.tup (iv ns)) && isTabX (s ^ (l + i)) (.tup (iv ns.reverse))))) = _
    have ib:inB 0 ((l + i:Nat):Int) (.int ((l + i:Nat):Int)) = true:=inB_yes (by omega) (by omega)
    rw [decide_eq_true rfl,Bool.true_and,tabX_rng lr xr nr,tabX_rng lr2 xr2 nr2,ib,Bool.and_true,Bool.and_true,Bool.and_true]
    exact sb_ok hl hp bi (by omega)
   have n1:∀ L,Nc 2 L (.tup [.str (Str.ofString "one"),.int ((l + i:Nat):Int),.int (((l + i:Nat):Int) - 1),.tup (iv ns)]):=fun L=>⟨⟨_,rfl⟩,fun xs e=>by
    cases e
    refine ⟨by simp,fun x hx=>?_⟩
    simp only [List.mem_cons,List.not_mem_nil,or_false] at hx
    rcases hx with rfl | rfl | rfl | rfl
    ·exact nc_p ⟨fun xs e=>(by cases e),fun n e=>(by cases e)⟩
    ·exact nc_p ⟨fun xs e=>(by cases e),fun n e=>(by cases e)⟩
    ·exact nc_p ⟨fun xs e=>(by cases e),fun n e=>(by cases e)⟩
    ·exact nc_iv (by omega)⟩
   have n2:∀ L,Nc 2 L (.tup [.str (Str.ofString "two"),.int ((l + i:Nat):Int),.int 0,.int ((l + i:Nat):Int),.tup (iv ns),.tup (iv ns.reverse)]):=fun L=>⟨⟨_,rfl⟩,fun xs e=>by
    cases e
    refine ⟨by simp,fun x hx=>?_⟩
    simp only [List.mem_cons,List.not_mem_nil,or_false] at hx
    rcases hx with rfl | rfl | rfl | rfl | rfl | rfl
    ·exact nc_p ⟨fun xs e=>(by cases e),fun n e=>(by cases e)⟩
    ·exact nc_p ⟨fun xs e=>(by cases e),fun n e=>(by cases e)⟩
    ·exact nc_p ⟨fun xs e=>(by cases e),fun n e=>(by cases e)⟩
    ·exact nc_p ⟨fun xs e=>(by cases e),fun n e=>(by cases e)⟩
    ·exact nc_iv (by omega)
    ·exact nc_iv (by omega)⟩
   generalize LV.tup [.str (Str.ofString "one"),.int ((l + i:Nat):Int),.int (((l + i:Nat):Int) - 1),.tup (iv ns)] = v1 at p1 n1 ⊢
   generalize LV.tup [.str (Str.ofString "two"),.int ((l + i:Nat):Int),.int 0,.int ((l + i:Nat):Int),.tup (iv ns),.tup (iv ns.reverse)] = v2 at p2 n2 ⊢
   refine ⟨by decide,by decide,by decide,it_ref eNew ?_⟩
   have e0:(L2 ++ [LO.lst [v1,v2]])[L2.length]? = some (.lst [v1,v2]):=eNew
   generalize L2 ++ [LO.lst [v1,v2]] = L3 at e0 ⊢
   refine wp_for (fun j σ L4=>∃ x5 x6,σ = [some (.ref d),some (.int s),some (.int l),some (.int ((l + i:Nat):Int)),some (.tup (iv ns)),x5,x6]∧Grow L3 L4) ⟨_,_,rfl,Grow.refl _⟩ ?_ ?_
   ·rintro j σ L4 hj ⟨x5,x6,rfl,g4⟩
    have hj:j < 2:=hj
    obtain ⟨v,hv,nv,pv⟩:∃ v,[v1,v2][j]? = some v∧(∀ L,Nc 2 L v)∧planB s v = decide (i = 0):=by
     have z:j = 0∨j = 1:=by omega
     rcases z with rfl | rfl
     ·exact ⟨v1,rfl,n1,p1⟩
     ·exact ⟨v2,rfl,n2,p2⟩
    refine ⟨v,at_live e0 g4 hv,?_⟩
    simp only [rulesSY,b_nil',b_cons',setAll,Nat.reduceAdd,Nat.reduceLT,reduceCtorEq]
    refine ⟨_,rfl,plan_ok (k:=k + 1) hs7 (nv _) fun L5 g5=>?_⟩
    have ei:decide (((l + i:Nat):Int) = (l:Int)) = decide (i = 0):=by
     by_cases z:i = 0
     ·rw [decide_eq_true z,decide_eq_true (by omega)]
     ·rw [decide_eq_false z,decide_eq_false (by omega)]
    rw [pv,ei]
    have gb:GQ L5 110 1 10 (.bl (decide (i = 0))):=.bl _
    refine repr_Q gb (by decide) (by decide) (by decide) fun u hu=>hu _ (Grow.refl _) _ (wp_ne (b:=true) (by rw [eqS,decide_eq_true rfl]) rfl ?_)
    simp only [Bool.not_true,rulesSY,b_nil',b_cons',setAll,Nat.reduceAdd,Nat.reduceLT,reduceCtorEq,turnQ]
    exact ⟨_,_,rfl,g4.trans g5⟩
   ·rintro σ L4 ⟨x5,x6,rfl,g4⟩
    refine ⟨fin_live e0 g4,?_⟩
    simp only [rulesSY,b_nil',b_cons',setAll,Nat.reduceAdd,Nat.reduceLT,reduceCtorEq,turnQ]
    exact ⟨_,_,_,_,rfl⟩
  ·rintro σ L2 ⟨x3,x4,x5,x6,rfl⟩
   refine ⟨rfl,?_⟩
   simp only [rulesSY,b_nil',b_cons',setAll,Nat.reduceAdd,Nat.reduceLT,reduceCtorEq]
   exact q L2
 ·have c:s ^ (l + 1)<=50000:=by have:=of_decide_eq_true c; omega
  simp only [whlQ]
  exact ⟨20 - (l + 1),by have:=l15 c; omega,l + 1,rfl,⟨by omega,l15 c⟩,c,rfl,trivial⟩
theorem tour_gv {s:Nat} {v:LV} (hs:2<=s∧s < 7) (V:TourV s v):(∀ L,GQ L 110 5 600 v)∧LB 140 8 v:=by
 have tb:∀ {n:Nat} {xs:List Int},n<=130->Tab n xs->(∀ L,GQ L 110 4 130 (.tup (iv xs)))∧LB 140 7 (.tup (iv xs)):=fun {n xs} hn T=>by
  have hl:=T.len
  have z:∀ L,GQs L 110 3 xs.length (iv xs):=fun L=>GQs.intsB (b:=40) (fun x hx=>by
   have:=T.rng x hx
   exact lgJ (by omega)) (by decide) (by decide)
  refine ⟨fun L=>(GQ.tup (z L) (by rw [iv_len]; omega)).le (by decide) (by omega),LB.tp (by rw [iv_len]; omega) fun x hx=>?_⟩
  obtain ⟨y,_,rfl⟩:=List.mem_map.mp hx
  exact LB.iv fun xs e=>by cases e
 have ii:∀ {i:Int},LB 140 7 (.int i):=fun {i}=>LB.iv fun xs e=>by cases e
 have is:∀ {a:Str},LB 140 7 (.str a):=fun {a}=>LB.iv fun xs e=>by cases e
 cases V with
 | still=>exact ⟨fun L=>(GQ.tup (n:=4) (w:=20) (.cons (w1:=10) (w2:=0) (.ofString _ (by decide)) (GQs.nil (w:=0)) (by decide)) (by simp)).le (by decide) (by decide),LB.tp (by simp) fun x hx=>by rw [List.mem_singleton.mp hx]; exact is⟩
 | one l o xs hl hp ho T =>
  obtain ⟨a,b⟩:=tb hp T
  refine ⟨fun L=>(GQ.tup (n:=4) (w:=400) (.cons (w1:=10) (w2:=380) (.ofString _ (by decide)) (.cons (w1:=50) (w2:=300) (int_gq (by omega)) (.cons (w1:=50) (w2:=200) (int_gq (by omega)) (.cons (w1:=130) (w2:=0) (a L) (GQs.nil (w:=0)) (by decide)) (by decide)) (by decide)) (by decide)) (by simp)).le (by decide) (by decide),LB.tp (by simp) fun x hx=>?_⟩
  simp only [List.mem_cons,List.not_mem_nil,or_false] at hx
  rcases hx with rfl | rfl | rfl | rfl
  ·exact is
  ·exact ii
  ·exact ii
  ·exact b
 | two l o bk xs ys hl hp ho hb T T2 =>
  obtain ⟨a,b⟩:=tb hp T
  obtain ⟨a2,b2⟩:=tb hp T2
  refine ⟨fun L=>(GQ.tup (n:=4) (w:=600) (.cons (w1:=10) (w2:=580) (.ofString _ (by decide)) (.cons (w1:=50) (w2:=500) (int_gq (by omega)) (.cons (w1:=50) (w2:=440) (int_gq (by omega)) (.cons (w1:=50) (w2:=350) (int_gq (by omega)) (.cons (w1:=130) (w2:=200) (a L) (.cons (w1:=130) (w2:=0) (a2 L) (GQs.nil (w:=0)) (by decide)) (by decide)) (by decide)) (by decide)) (by decide)) (by decide)) (by simp)).le (by decide) (by decide),LB.tp (by simp) fun x hx=>?_⟩
  simp only [List.mem_cons,List.not_mem_nil,or_false] at hx
  rcases hx with rfl | rfl | rfl | rfl | rfl | rfl
  ·exact is
  ·exact ii
  ·exact ii
  ·exact ii
  ·exact b
  ·exact b2
def wf:Nat->Nat
 | 0=>600
 | j + 1=>3 * wf j + 300
def mf:Nat->Nat
 | 0=>140
 | j + 1=>2 * mf j + 2
theorem wf_le:∀ {j:Nat},j<=3->wf j<=100000
 | 0,_=>by decide
 | 1,_=>by decide
 | 2,_=>by decide
 | 3,_=>by decide
 | _ + 4,h=>absurd h (by omega)
theorem mf_le:∀ {j:Nat},j<=2->mf j<=1400
 | 0,_=>by decide
 | 1,_=>by decide
 | 2,_=>by decide
 | _ + 3,h=>absurd h (by omega)
def lwB:List IS:=match f_law.body with
 | _ :: .for _ _ b :: _=>b
 | _=>[]
theorem turn_ok {k t:Nat} {x2 x3 x4 x5:Option LV} {L:LH} {Q:Fl × LSt->LH->Prop} (D:Deck 4 3 t L) (ht:t < 800000) (q:∀ y3 y4 y5 t' L',t'<=t + 100->Deck 4 3 t' L'->Q (.nx,[some (.ref 0),some (.ref 4),x2,y3,y4,y5]) L') :
  wp (evB (run prog (k + 11)) lwB [some (.ref 0),some (.ref 4),x2,x3,x4,x5]) L Q:=by
 obtain ⟨l1,l2⟩:=D.lt
 simp only [lwB,f_law,rulesSY,b_nil',b_cons',setAll,Nat.reduceAdd,Nat.reduceLT,reduceCtorEq]
 refine ⟨by decide,_,rfl,pick_ok (k:=k + 9) (D.grow ⟨_,rfl⟩) (by omega) (by omega) eNew (by simp) fun z L1 hz D1 F1=>?_⟩
 obtain ⟨s,rfl,s0,s1⟩:∃ s:Nat,z = .int s∧2<=s∧s < 7:=by
  simp only [List.mem_cons,List.not_mem_nil,or_false] at hz
  rcases hz with rfl | rfl | rfl | rfl | rfl | rfl
  ·exact ⟨2,rfl,by decide,by decide⟩
  ·exact ⟨2,rfl,by decide,by decide⟩
  ·exact ⟨3,rfl,by decide,by decide⟩
  ·exact ⟨4,rfl,by decide,by decide⟩
  ·exact ⟨5,rfl,by decide,by decide⟩
  ·exact ⟨6,rfl,by decide,by decide⟩
 have hs:2<=s∧s < 7:=⟨s0,s1⟩
 try simp only [rulesSY,b_nil',b_cons',setAll,Nat.reduceAdd,Nat.reduceLT,reduceCtorEq]
 refine ⟨_,rfl,tour_ok (k:=k + 7) D1 hs (by omega) fun v t2 L2' V ht2 D2 F2=>?_⟩
 obtain ⟨gv,bv⟩:=tour_gv hs V
 try simp only [rulesSY,b_nil',b_cons',setAll,Nat.reduceAdd,Nat.reduceLT,reduceCtorEq]
 refine ⟨_,rfl,told_ok (k:=k + 4) hs (gv L2') (by decide) (by decide) fun L3 g3=>?_⟩
 simp only [Bool.not_true,rulesSY,b_nil',b_cons',setAll,Nat.reduceAdd,Nat.reduceLT,reduceCtorEq]
 refine ⟨by decide,wp_for (fun j σ L'=>∃ (y5:Option LV) (v:LV) (t':Nat),σ = [some (.ref 0),some (.ref 4),x2,some (.int s),some v,y5]∧GV 4 3 L' (5 + j) (wf j) v∧LB (mf j) (8 - j) v∧t'<=t + 61 + 6 * j∧Deck 4 3 t' L') ⟨_,v,t2,rfl,fun M _=>gv M,bv,by omega,D2.grow g3⟩ ?_ ?_⟩
 ·rintro j σ L' hj ⟨y5,v,t',rfl,g,b,h',D'⟩
  have hj:j < 3:=hj
  refine ⟨.int (0 + j),rng_at hj,?_⟩
  simp only [rulesSY,b_nil',b_cons',setAll,Nat.reduceAdd,Nat.reduceLT,reduceCtorEq]
  have g:GV 4 3 L' (j + 5) (wf j) v:=g.le (by omega) (Nat.le_refl _)
  have b:LB (mf j) ((6 - j) + 2) v:=by
   rw [show 6 - j + 2 = 8 - j by omega]
   exact b
  refine ⟨_,rfl,bent_ok (k:=k + 7) D' (by omega) g b (mf_le (by omega)) fun v' t4 L4 g4 b4 h4 D4 F4=>?_⟩
  try simp only [rulesSY,b_nil',b_cons',setAll,Nat.reduceAdd,Nat.reduceLT,reduceCtorEq]
  refine ⟨_,rfl,told_ok (k:=k + 4) hs g4.gq (by omega) (show 3 * wf j + 300<=100000 from wf_le (j:=j + 1) (by omega)) fun L5 g5=>?_⟩
  simp only [Bool.not_true,rulesSY,b_nil',b_cons',setAll,Nat.reduceAdd,Nat.reduceLT,reduceCtorEq,turnQ]
  refine ⟨_,v',t4,rfl,(g4.fr (Fr.grow g5)).le (by omega) (Nat.le_refl _),?_,by omega,D4.grow g5⟩
  rw [show 8 - (j + 1) = 6 - j + 1 by omega]
  exact b4
 ·rintro σ L' ⟨y5,v,t',rfl,g,b,h',D'⟩
  refine ⟨rfl,?_⟩
  have e3:(rngV 0 (Int.toNat 3)).len = 3:=rfl
  rw [e3] at h'
  simp only [rulesSY,b_nil',b_cons',setAll,Nat.reduceAdd,Nat.reduceLT,reduceCtorEq]
  refine ⟨_,rfl,odd_ok (k:=k + 8) D' (by omega) fun v' L4 g4 _ D4 F4=>?_⟩
  try simp only [rulesSY,b_nil',b_cons',setAll,Nat.reduceAdd,Nat.reduceLT,reduceCtorEq]
  refine ⟨_,rfl,told_ok (k:=k + 4) hs g4.gq (by decide) (by decide) fun L5 g5=>?_⟩
  simp only [Bool.not_true,rulesSY,b_nil',b_cons',setAll,Nat.reduceAdd,Nat.reduceLT,reduceCtorEq]
  exact q _ _ _ _ L5 (by omega) (D4.grow g5)
theorem law_run {k:Nat} {ns:List Int} (hl:ns.length<=63):wp (run prog (k + 12) 22 [.ref 0]) [.frz ns] fun v _=>v = .bl true:=by
 show wp (callFn (run prog (k + 11)) f_law [.ref 0]) [.frz ns] _
 rw [call_eq,wp_chk]
 refine ⟨rfl,?_⟩
 show wp (Mv.M.bind (evB (run prog (k + 11)) [.asg (.name 1) (.call 7 (.cons (.var 0) .nil) .nil [0]),.for (.name 2) (.rng1 (.lit (.int 24))) lwB,.ret (.call 21 (.cons (.var 1) .nil) .nil [0])] [some (.ref 0),none,none,none,none,none]) retK) [.frz ns] _
 have body:=fun x2 x3 x4 x5 t L Q=>turn_ok (k:=k) (t:=t) (x2:=x2) (x3:=x3) (x4:=x4) (x5:=x5) (L:=L) (Q:=Q)
 generalize lwB = bd at body ⊢
 simp only [rulesSY,b_nil',b_cons',setAll,Nat.reduceAdd,Nat.reduceLT,reduceCtorEq]
 refine ⟨_,rfl,deck_ok (k:=k + 10) hl fun L0 D0=>?_⟩
 refine ⟨by decide,wp_for (fun i σ L'=>∃ (x2 x3 x4 x5:Option LV) (t:Nat),σ = [some (.ref 0),some (.ref 4),x2,x3,x4,x5]∧t<=100 * i∧Deck 4 3 t L') ⟨_,_,_,_,0,rfl,by omega,D0⟩ ?_ ?_⟩
 ·rintro i σ L' hi ⟨x2,x3,x4,x5,t,rfl,ht,D⟩
  have hi:i < 24:=hi
  refine ⟨.int (0 + i),rng_at hi,?_⟩
  simp only [wt_0,wt_S,wp_bind]
  refine body _ _ _ _ t L' _ D (by omega) fun y3 y4 y5 t' L2' ht' D'=>?_
  simp only [turnQ]
  exact ⟨_,_,_,_,t',rfl,by omega,D'⟩
 ·rintro σ L' ⟨x2,x3,x4,x5,t,rfl,ht,D⟩
  refine ⟨rfl,?_⟩
  have e3:(rngV 0 (Int.toNat 24)).len = 24:=rfl
  rw [e3] at ht
  simp only [rulesSY,b_nil',b_cons',setAll,Nat.reduceAdd,Nat.reduceLT,reduceCtorEq]
  exact ⟨_,rfl,great_ok (k:=k + 3) D (by omega) fun _=>rfl⟩
theorem law_ok (ns:List Int) (hl:ns.length<=63):∃ L',run prog 16 22 [.ref 0] [.frz ns] = some (.ok (.bl true) L'):=by
 obtain ⟨v,L',e,rfl⟩:=law_run (k:=4) hl
 exact ⟨L',e⟩
end K23
theorem PySem.Challenge.cw_twostrokes_k23_plans_of_any_value_holds : PySem.Challenge.rw_twostrokes_k23_plans_of_any_value.Holds := by
 exact K23.holds_of K23.law_ok
