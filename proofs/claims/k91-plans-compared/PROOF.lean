import PyProof.Rows.All
import Wide.All
import OpenK.AllK
import Wide.FinOn
import HandS.Words
import HandS.Lambda
import HandS.ForMost
import HandS.Exc
import HandS.ExcOwn
import HandS.CallSlots
import HandS.WordsExc
import HandS.Deep
import HandS.FStr
import HandS.IsInst
import HandS.TryOnly
import HandS.ExcField
import HandS.ExcIs
import HandS.Codes
import HandS.ExcInit
import KE.KIsAll
import KE.KeyNested
import HandS.TupAny
import HandS.TupMul
import HandS.Style
import HandS.More
import PyProof.EqKinds
import PyProof.NeKinds
import HandS.DictEq
import PyProof.FactsAll.dict
import HandS.RaiseMore
import HandS.Small
import KE.SortData
import KE.DataMinMax
import HandS.Walk
import KE.GoesMore
import PyProof.Draws
import PyProof.EnumMake
import HandS.SetBool
import HandS.SetKeys
import HandS.TryMany
import KE.KExcInit
import HandS.ClsMeth
import PyProof.Rows.SetFrom
import HandS.ReplaceLit
import PyProof.Rows.StrCase
import HandS.ReplaceList
import HandS.Dict
import KE.KUnpackStar
import HandS.Replace
import KE.KRevSl
import HandS.List
import HandS.Conv
import KE.SortKeyHeap
import HandS.SortKw
import HandS.Strs
import KE.OsSort
import HandS.DictComp
import PyProof.ZipIter
import KE.KDictZip
import KE.KTurns
import KE.GoesEnumKw
import HandS.TupSets
import KE.KDictDisplayH
import KE.KDictKeyed
import KE.KDictSum
import OpenK.KMore
import KE.LtSeq
import KE.OsSortAny
import PyProof.Claim2Refuses
import HandS.Zip
import HandS.OwnEq
import PyProof.InstSpecial
import HandS.Iter
import HandS.ReplaceDef
import HandS.EndBits
import KE.KNestM
import HandS.Nested
import KE.DatumOrd
import PyProof.StrLawsIn
import PyProof.Rows.RegStrFacts
import PyProof.Rows.ReprOcc
import PyProof.StrLawsRepr
import PySem.Challenge.RW_pagesasseen_k91_whole_plans_compared
theorem aa:type_of% @Bool.false_ne_true:=@Bool.false_ne_true
theorem af:type_of% @PySem.wpAny_bind:=@PySem.wpAny_bind
theorem ah:type_of% @PySem.wpAny_pure:=@PySem.wpAny_pure
theorem ai:type_of% @Bool.and_eq_true:=@Bool.and_eq_true
theorem aq:type_of% @List.length_map:=@List.length_map
theorem aw:type_of% @decide_eq_true_eq:=@decide_eq_true_eq
theorem ax:type_of% @L2.upd_ne:=@L2.upd_ne
theorem aC:type_of% @Nat.le_refl:=@Nat.le_refl
theorem aD:type_of% @PySem.Heap.get?_push_of_some:=@PySem.Heap.get?_push_of_some
theorem aE:type_of% @List.mem_cons_of_mem:=@List.mem_cons_of_mem
theorem aF:type_of% @Nat.le_trans:=@Nat.le_trans
theorem aI:type_of% @List.map_cons:=@List.map_cons
theorem aM:type_of% @L2.Same.refl:=@L2.Same.refl
theorem aS:type_of% @L2.upd_same:=@L2.upd_same
theorem aV:type_of% @Classical.byContradiction:=@Classical.byContradiction
theorem a8:type_of% @List.length_cons:=@List.length_cons
theorem br:type_of% @PySem.W.mg_of:=@PySem.W.mg_of
theorem bu:type_of% @List.mem_cons_self:=@List.mem_cons_self
theorem bA:type_of% @PySem.wpAny_holding:=@PySem.wpAny_holding
theorem bD:type_of% @PySem.Heap.lt_size:=@PySem.Heap.lt_size
theorem bF:type_of% @congrArg:=@congrArg
theorem bG:type_of% @L2.pa_cons:=@L2.pa_cons
theorem bQ:type_of% @Option.some.inj:=@Option.some.inj
theorem bT:type_of% @PySem.Heap.get?_push_size:=@PySem.Heap.get?_push_size
theorem bU:type_of% @Nat.ne_of_lt:=@Nat.ne_of_lt
theorem bY:type_of% @Array.length_toList:=@Array.length_toList
theorem bZ:type_of% @L2.fun_mk:=@L2.fun_mk
theorem b7:type_of% @List.length_set:=@List.length_set
theorem cb:type_of% @decide_eq_true:=@decide_eq_true
theorem cu:type_of% @L2.pa_nil:=@L2.pa_nil
theorem cx:type_of% @List.length_append:=@List.length_append
theorem cy:type_of% @Nat.zero_le:=@Nat.zero_le
theorem cz:type_of% @List.map_map:=@List.map_map
theorem cG:type_of% @List.mem_cons:=@List.mem_cons
theorem cT:type_of% @decide_eq_false:=@decide_eq_false
theorem cU:type_of% @PySem.Heap.size_push:=@PySem.Heap.size_push
theorem cV:type_of% @Bool.false_eq_true:=@Bool.false_eq_true
theorem cW:type_of% @List.map_append:=@List.map_append
theorem c7:type_of% @List.mem_singleton:=@List.mem_singleton
theorem dh:type_of% @List.mem_append_left:=@List.mem_append_left
theorem di:type_of% @PySem.W.mg_none_of:=@PySem.W.mg_none_of
theorem dF:type_of% @of_decide_eq_true:=@of_decide_eq_true
theorem dG:type_of% @Nat.zero_add:=@Nat.zero_add
theorem dH:type_of% @PySem.wpAny_field:=@PySem.wpAny_field
theorem dO:type_of% @L2.ne_of_none:=@L2.ne_of_none
theorem dV:type_of% @PySem.codeAny_mono:=@PySem.codeAny_mono
theorem dW:type_of% @List.mem_append_right:=@List.mem_append_right
theorem ez:type_of% @List.length_take:=@List.length_take
theorem eA:type_of% @List.mem_of_getElem?:=@List.mem_of_getElem?
theorem eB:type_of% @List.sum_cons:=@List.sum_cons
theorem eP:type_of% @List.append_assoc:=@List.append_assoc
theorem eQ:type_of% @PySem.wpAny_call:=@PySem.wpAny_call
theorem eR:type_of% @PySem.codeAny_builtin:=@PySem.codeAny_builtin
theorem e_:type_of% @Nat.not_lt_zero:=@Nat.not_lt_zero
theorem fj:type_of% @Nat.le_succ:=@Nat.le_succ
theorem fm:type_of% @List.not_mem_nil:=@List.not_mem_nil
theorem fu:type_of% @List.drop_eq_getElem_cons:=@List.drop_eq_getElem_cons
theorem fw:type_of% @PySem.wpAny_seqItems:=@PySem.wpAny_seqItems
theorem fy:type_of% @L2.wp_if_neg:=@L2.wp_if_neg
theorem fA:type_of% @List.mem_map:=@List.mem_map
theorem fQ:type_of% @List.append_nil:=@List.append_nil
theorem fR:type_of% @PySem.wpAny_rule:=@PySem.wpAny_rule
theorem fS:type_of% @Nat.ne_of_gt:=@Nat.ne_of_gt
theorem gW:type_of% @List.all_cons:=@List.all_cons
theorem gX:type_of% @Nat.lt_of_lt_of_le:=@Nat.lt_of_lt_of_le
theorem gY:type_of% @PySem.Around.under_plainId:=@PySem.Around.under_plainId
theorem i6:type_of% @List.length_drop:=@List.length_drop
theorem i7:type_of% @PySem.wpAny_call_entry:=@PySem.wpAny_call_entry
theorem ja:type_of% @List.mem_map_of_mem:=@List.mem_map_of_mem
theorem jb:type_of% @List.length_nil:=@List.length_nil
theorem jc:type_of% @List.drop_length:=@List.drop_length
theorem jd:type_of% @Nat.lt_succ_of_lt:=@Nat.lt_succ_of_lt
theorem je:type_of% @PySem.wpAny_loadPart_at:=@PySem.wpAny_loadPart_at
theorem jZ:type_of% @List.length_mergeSort:=@List.length_mergeSort
theorem j4:type_of% @List.replicate_succ:=@List.replicate_succ
theorem j5:type_of% @List.all_eq_true:=@List.all_eq_true
theorem j6:type_of% @List.mem_append:=@List.mem_append
theorem j7:type_of% @List.mem_of_mem_take:=@List.mem_of_mem_take
theorem j9:type_of% @List.any_cons:=@List.any_cons
theorem j_:type_of% @PySem.wpAny_Call_Name_kw:=@PySem.wpAny_Call_Name_kw
theorem kh:type_of% @Array.getElem?_toList:=@Array.getElem?_toList
theorem kj:type_of% @PySem.wpAny_pyIter_list:=@PySem.wpAny_pyIter_list
theorem kq:type_of% @PySem.wpAny_setField_rec:=@PySem.wpAny_setField_rec
theorem kD:type_of% @List.map_take:=@List.map_take
theorem kE:type_of% @PySem.F.plain_min_loop:=@PySem.F.plain_min_loop
theorem kF:type_of% @List.pairwise_map:=@List.pairwise_map
theorem mi:type_of% @List.nil_append:=@List.nil_append
theorem mx:type_of% @PyProof.Rows.F.plain_set_update_loop:=@PyProof.Rows.F.plain_set_update_loop
theorem mB:type_of% @Nat.le_succ_of_le:=@Nat.le_succ_of_le
theorem mE:type_of% @List.filter_cons:=@List.filter_cons
theorem pW:type_of% @List.mergeSort_perm:=@List.mergeSort_perm
theorem pX:type_of% @List.pairwise_mergeSort:=@List.pairwise_mergeSort
theorem pY:type_of% @List.perm_ext_iff_of_nodup:=@List.perm_ext_iff_of_nodup
theorem uN:type_of% @PyProof.Rows.F.entry_set_update_loop:=@PyProof.Rows.F.entry_set_update_loop
set_option Elab.async false
set_option linter.all false
namespace Pf
section
variable {α:Type} (le:α→α→Bool)
noncomputable def gj:Nat→List α→List α→List α
 | 0,xs,ys=>xs++ys
 | _+1,[],ys=>ys
 | _+1,x::xs,[]=>x::xs
 | n+1,x::xs,y::ys=>if le x y=true then x::gj n xs (y::ys) else y::gj n (x::xs) ys
theorem qi : ∀ (n:Nat) (xs ys:List α),xs.length+ys.length≤n→gj le n xs ys=List.merge xs ys le
 | 0,[],[],_=>by simp [gj]
 | 0,_::_,_,h=>absurd h (by simp)
 | 0,[],_::_,h=>absurd h (by simp)
 | _+1,[],ys,_=>by cases ys <;> simp [gj]
 | _+1,x::xs,[],_=>by simp [gj]
 | n+1,x::xs,y::ys,h=>by
  simp only [a8] at h
  unfold gj List.merge
  rw [qi n xs (y::ys) (by simp only [a8]; omega),qi n (x::xs) ys (by simp only [a8]; omega)]
noncomputable def msF:Nat→List α→List α
 | 0,xs=>xs
 | _+1,[]=>[]
 | _+1,[a]=>[a]
 | n+1,a::b::r=>gj le (r.length+2) (msF n ((a::b::r).take ((r.length+3) / 2))) (msF n ((a::b::r).drop ((r.length+3) / 2)))
theorem qB : ∀ (n:Nat) (xs:List α),xs.length≤n→msF le n xs=xs.mergeSort le
 | 0,[],_=>by simp [msF]
 | 0,_::_,h=>absurd h (by simp)
 | _+1,[],_=>by simp [msF]
 | _+1,[a],_=>by simp [msF]
 | n+1,a::b::r,h=>by
  simp only [a8] at h
  have e1:=qB n ((a::b::r).take ((r.length+3) / 2)) (by rw [ez,a8,a8]; omega)
  have e2:=qB n ((a::b::r).drop ((r.length+3) / 2)) (by rw [i6,a8,a8]; omega)
  unfold msF List.mergeSort
  rw [e1,e2,qi _ _ _ _ (by rw [jZ,jZ,ez,i6,a8,a8]; omega)]
  simp [List.MergeSort.Internal.splitInTwo]
noncomputable def ms (xs:List α):List α:=msF le xs.length xs
theorem BG (xs:List α):ms le xs=xs.mergeSort le:=qB le _ _ (aC _)
end
end Pf

set_option maxRecDepth 100000
namespace Pf
open PySem PySem.Spec L2 LamX
noncomputable def NT (o:HO):Prop:=∀ ps,o ≠ .tbl ps
structure Sm (H H':Hp):Prop where
 k : ∀ (b:Addr) (o:HO),H b=some o→NT o→H' b=some o
 dom : ∀ b,H b≠none→H' b≠none
theorem Sm.go {H H':Hp} (s:Sm H H') (b:Addr) (o:HO) (h:H b=some o) (n:NT o:=by (first | assumption | exact λ_ z=>HO.noConfusion z | (intro _ z; cases z))):H' b=some o:=s.k b o h n
noncomputable instance {H H':Hp}:CoeFun (Sm H H') (λ_ => ∀ (b:Addr) (o:HO),H b=some o → ∀ (_:NT o:=by (first | assumption | exact λ_ z=>HO.noConfusion z | (intro _ z; cases z))),H' b=some o):=⟨@Sm.go H H'⟩
theorem Sm.sm {H H':Hp} (s:Sm H H'):Sm H H':=s
theorem Sm.refl (H:Hp):Sm H H:=⟨λ_ _ h _=>h,λ_ h=>h⟩
theorem Sm.trans {H H1 H2:Hp} (a:Sm H H1) (b:Sm H1 H2):Sm H H2:=⟨λc o h n=>b.k c o (a.k c o h n) n,λc h=>b.dom c (a.dom c h)⟩
theorem Sm.of {H H':Hp} (h : ∀ b o,H b=some o→H' b=some o):Sm H H':=⟨λb o e _=>h b o e,λb e z=>(by
 cases q:H b with
 | none=>exact e q
 | some o=>rw [h b o q] at z; cases z)⟩
noncomputable def d8 (_:Addr):Str:= "make_plan.<locals>.<lambda>"
noncomputable def oU (H:Hp) (P:Addr) (q:Str):Prop:=q=d8 P∧TabS H P q
noncomputable def fF (H H':Hp):Prop:=∀ P q,oU H P q→oU H' P q
structure Same (H H':Hp):Prop where
 sm:Sm H H'
 tab:fF H H'
theorem Same.dom {H H':Hp} (s:Same H H') : ∀ b,H b≠none→H' b≠none:=s.sm.dom
noncomputable instance {H H':Hp}:CoeOut (Same H H') (Sm H H'):=⟨λs=>s.sm⟩
theorem Same.go {H H':Hp} (s:Same H H') (b:Addr) (o:HO) (h:H b=some o) (n:NT o:=by (first | assumption | exact λ_ z=>HO.noConfusion z | (intro _ z; cases z))):H' b=some o:=s.sm.k b o h n
noncomputable instance {H H':Hp}:CoeFun (Same H H') (λ_ => ∀ (b:Addr) (o:HO),H b=some o → ∀ (_:NT o:=by (first | assumption | exact λ_ z=>HO.noConfusion z | (intro _ z; cases z))),H' b=some o):=⟨@Same.go H H'⟩
theorem aM (H:Hp):Same H H:=⟨.refl H,λ_ _ h=>h⟩
theorem Same.trans {H H1 H2:Hp} (a:Same H H1) (b:Same H1 H2):Same H H2:=⟨a.sm.trans b.sm,λP q h=>b.tab P q (a.tab P q h)⟩
theorem Same.of {H H':Hp} (h : ∀ b o,H b=some o→H' b=some o):Same H H':=⟨.of h,λP q t=>⟨t.1,TabS.ext t.2 h⟩⟩
theorem Same.free {H H':Hp} (e:Same H H') {l:Addr} (h:H' l=none):H l=none:=by
 cases q:H l with
 | none=>rfl
 | some o=>exact (e.dom l (by rw [q]; nofun) h).elim
theorem Sm.seq {K:PySem.W.Frag} {H H':Hp} {a:Addr} {xs:List V} (e:Sm H H') (h:SqL K H a xs):SqL K H' a xs:=by
 rcases h with (h | ⟨o,h⟩) | h
 ·exact .inl (.inl (e _ _ h))
 ·exact .inl (.inr ⟨o,e _ _ h⟩)
 ·exact .inr h
theorem Same.seq {K:PySem.W.Frag} {H H':Hp} {a:Addr} {xs:List V} (e:Same H H') (h:SqL K H a xs):SqL K H' a xs:=e.sm.seq h
theorem a0 {H:Hp} {p:Addr} {o:HO} (h:H p=none):Same H (upd H p o):=.of λb u e=>by
 rw [ax (dO e h)]; exact e
noncomputable def NC (a:Addr) (o:HO):Prop:=NT o ∧ ∀ q,o≠CodeO a q
theorem O9 (a:Addr) (q:Str) : ∃ (h:Heap) (oc:Obj) (vs:Array Value) (t:Tok),h.get? a=some oc∧oc.data = .fields vs∧vs[1]? = some (.str q t):=by
 refine ⟨⟨Array.replicate (a+1) { cls:=.none,data:=.fields #[.none,.str q default] },{}⟩,{ cls:=.none,data:=.fields #[.none,.str q default] },#[.none,.str q default],default,?_,rfl,rfl⟩
 unfold Heap.get?
 simp
theorem Ah {a:Addr} {φ:Heap→Prop} (h : ∀ (h:Heap) (oc:Obj) (vs:Array Value),h.get? a=some oc→oc.data = .fields vs → ¬ φ h):NC a (.ext φ):=⟨λ_ z=>(by cases z),λq z=>(by
 obtain ⟨hp,oc,vs,t,h1,h2,h3⟩:=O9 a q
 unfold CodeO at z
 have z:=HO.ext.inj z
 exact h hp oc vs h1 h2 (by rw [z]; exact ⟨oc,vs,t,h1,h2,h3⟩))⟩
theorem jE {H:Hp} {a:Addr} {o o':HO} (h:H a=some o) (n:NC a o:=by (first | assumption | exact ⟨λ_ z=>HO.noConfusion z,λ_ z=>HO.noConfusion z⟩)):fF H (upd H a o'):=λP q ⟨e,ps,h1,h2,h3⟩=>by
 refine ⟨e,ps,by rw [ax]; exact h1; intro z; rw [z,h] at h1; exact n.1 ps (bQ h1),h2,λpos cv hc => ?_⟩
 obtain ⟨c,e1,e2⟩:=h3 pos cv hc
 refine ⟨c,e1,?_⟩
 rw [ax]; exact e2
 intro z; rw [z,h] at e2; exact n.2 q (bQ e2)
end Pf
namespace Pf
open PySem PySem.Spec L2 LamX
noncomputable def MkK (K:PySem.W.Frag) (c P:Addr) (q:Str):Prop:=∃ o vs t,K.lookup c=some o∧o.data = .fields vs∧vs[1]? = some (.str q t)∧vs[11]? = some (.ref P)∧q ++ ".<locals>." ++ "<lambda>" = d8 P
noncomputable def jy (K:PySem.W.Frag) (H:Hp):Prop:=∀ c P q,MkK K c P q→oU H P (d8 P)
theorem jy.mono {K:PySem.W.Frag} {H H':Hp} (t:jy K H) (s:fF H H'):jy K H':=λc P q m=>s _ _ (t c P q m)
end Pf
namespace Pf
open PySem PySem.Spec L2 LamX
theorem f7 {H:Hp} {a b:Addr} {o:HO} (h:H b≠none):upd H a o b≠none:=by
 unfold upd
 split
 ·nofun
 ·exact h
theorem Same.gE {H H':Hp} {D:Addr} {o o':HO} (s:Same H H') (hD:H D=none) (h:H' D=some o) (n:NC D o:=by (first | assumption | exact ⟨λ_ z=>HO.noConfusion z,λ_ z=>HO.noConfusion z⟩)):Same H (upd H' D o'):=
 ⟨⟨λb u e nt=>by rw [ax (dO e hD)]; exact s b u e nt,λb hb=>f7 (s.dom b hb)⟩,λP q t=>jE h n P q (s.tab P q t)⟩
end Pf
namespace Pf
open PySem PySem.Spec L2 LamX
end Pf

set_option maxRecDepth 100000
namespace Pf
open PySem PySem.Spec L2
noncomputable abbrev D:=PyData
structure EX where
 cls:Str
 attr:Str
 val:D
inductive kU where
 | on (kvs:List (D × D))
 | new (cls:Str)
inductive SV where
 | pd (d:D)
 | own (xs:List D)
 | exc (e:EX)
 | od (kvs:List (D × D))
 | pin
 | st (t:kU)
noncomputable def cC:SV→Bool
 | .own _=>true
 | .od _=>true
 | .st _=>true
 | _=>false
noncomputable abbrev Sto:=List (Option SV)
structure XP where
 w:World
 x:Option (Addr × Addr × Str)
noncomputable abbrev x0 (w:World):XP:=⟨w,none⟩
noncomputable abbrev x1 (w:World) (a dd:Addr) (y:Str):XP:=⟨w,some (a,dd,y)⟩
inductive Rs (α:Type) where
 | ok (a:α)
 | ex (e:EX)
 | bad
namespace Rs
noncomputable def bind {α β:Type}:Rs α→(α→Rs β)→Rs β
 | ok a,f=>f a
 | ex e,_=>ex e
 | bad,_=>bad
@[simp] theorem ae {α β:Type} (a:α) (f:α→Rs β):(Rs.ok a).bind f=f a:=rfl
@[simp] theorem S8 {α β:Type} (e:EX) (f:α→Rs β):(Rs.ex e:Rs α).bind f = .ex e:=rfl
@[simp] theorem Ro {α β:Type} (f:α→Rs β):(Rs.bad:Rs α).bind f = .bad:=rfl
theorem bind_assoc {α β γ:Type} (m:Rs α) (f:α→Rs β) (g:β→Rs γ):(m.bind f).bind g=m.bind λa=>(f a).bind g:=by cases m <;> rfl
end Rs
noncomputable def msk (H:Hp) (O:List Addr):Hp:=λb=>if b∈O then none else H b
theorem cK {H:Hp} {O:List Addr} {b:Addr} (h:b∈O):msk H O b=none:=if_pos h
theorem bc {H:Hp} {O:List Addr} {b:Addr} (h:b∉O):msk H O b=H b:=if_neg h
theorem dJ {H:Hp} {O:List Addr} {b:Addr} {o:HO} (h:msk H O b=some o):b∉O∧H b=some o:=by
 by_cases hb:b∈O
 ·rw [cK hb] at h; cases h
 ·rw [bc hb] at h; exact ⟨hb,h⟩
theorem AL (H:Hp):msk H []=H:=by funext b; exact bc (by simp)
theorem dM {H:Hp} {O:List Addr}:Sm (msk H O) H:=.of λb o h=>(dJ h).2
theorem aH {H H':Hp} {O:List Addr} (s:Sm H H'):Sm (msk H O) (msk H' O):=⟨λb o h n=>by
 obtain ⟨h1,h2⟩:=dJ h
 rw [bc h1]; exact s b o h2 n,λb h=>(by
 by_cases hb:b∈O
 ·exact (h (cK hb)).elim
 ·rw [bc hb] at h ⊢; exact s.dom b h)⟩
structure Thr (K:PySem.W.Frag) (H:Hp) (O:List Addr):Prop where
 nn : ∀ a∈O,H a≠none
 tb:jy K H
theorem Thr.same {K:PySem.W.Frag} {H H':Hp} {O:List Addr} (t:Thr K H O) (s:Same H H'):Thr K H' O:=⟨λa h=>s.dom a (t.nn a h),t.tb.mono s.tab⟩
theorem Thr.out {K:PySem.W.Frag} {H:Hp} {O:List Addr} (t:Thr K H O) {p:Addr} (h:H p=none):p∉O:=λz=>t.nn p z h
theorem Sm.jV {K:PySem.W.Frag} {H H':Hp} {a:Addr} {xs:List V} (e:Sm H H') (h:SqT K H a xs):SqT K H' a xs:=by
 rcases h with (h | ⟨o,h⟩) | h
 ·exact .inl (.inl (e a _ h))
 ·exact .inl (.inr ⟨o,e a _ h⟩)
 ·exact .inr h
theorem Sm.rd {H H':Hp} {a:Addr} {u:HO} (e:Sm H H') (h:Rd H a u) (n:NT u:=by (first | assumption | exact λ_ z=>HO.noConfusion z | (intro _ z; cases z))):Rd H' a u:=by
 rcases h with h | ⟨o,h⟩
 ·exact .inl (e a _ h)
 ·exact .inr ⟨o,e a _ h⟩
noncomputable def RL (K:PySem.W.Frag) (H:Hp) (a:Addr) (xs:List V):Prop:=
 Rd H a (.lst xs) ∨ ∃ (its:Array Value) (n:Nat),K.lookup a=some { cls:=.type "list",data:=.seq its n }∧its.size≤sizeLine∧Vals xs its.toList
theorem Sm.rl {K:PySem.W.Frag} {H H':Hp} {a:Addr} {xs:List V} (e:Sm H H') (h:RL K H a xs):RL K H' a xs:=h.imp (λh=>e.rd h) id
theorem RL.sq {K:PySem.W.Frag} {H:Hp} {a:Addr} {xs:List V} (h:RL K H a xs):SqL K H a xs:=by
 rcases h with h | ⟨its,n,h1,h2,h3⟩
 ·exact .inl h
 ·exact .inr ⟨_,its,n,h1,rfl,rfl,rfl,h2,h3⟩
noncomputable abbrev LIM:Nat:=1000000
noncomputable def asc (x:Str):Bool:=x.cps.toList.all λc=>decide (c<128)
noncomputable def keyD:Key→D
 | .inl i => .int i
 | .inr x => .str x
structure cS (K:PySem.W.Frag) (C:Addr) (cls:Str):Prop where
 ns:PySem.W.nsIn K mainGlobals cls=some (some (.ref C))
 ic:C8.InsC K C
 no : ∀ n:String,n∈["str", "int", "bool", "list", "tuple", "dict"]→PySem.W.mroIn K C (.type n)=some false
noncomputable def jH (cls:Str):D:=.tuple [.int ((2 ^ 250) ^ 8),.str cls]
theorem L9 (cls:Str):(jH cls).showable=false:=by
 have e:decide ((((2 ^ 250) ^ 8:Int)).natAbs.log2<1920)=false:=by decide +kernel
 unfold jH
 simp only [PyData.showable,PyData.showableAll,e,Bool.false_and]
theorem rD (cls:Str) (ds:List (D × D)) : ¬ PyData.showable (.dict ((.none,jH cls)::ds))=true:=by
 simp only [PyData.showable,PyData.showableKv,L9,Bool.and_false,Bool.false_and]
 exact aa
structure Ask (K:PySem.W.Frag) (D:Addr) (f:Str):Prop where
 ga:PySem.W.findIn K (.ref D) "__getattribute__" = some (some (.builtin "BaseException.__getattribute__"))
 gg:PySem.W.findIn K (.ref D) "__getattr__" = some none
 sub:PySem.W.subIn K (.ref D) (.type "BaseException")=some true
 dct:PySem.W.hasDictIn K D=true
 cls:PySem.W.findIn K (.ref D) "__class__" = some (some (.builtin "object.__class__"))
 get:PySem.W.specialIn K (.builtin "object.__class__") "__get__" = some (some (.builtin "getset_descriptor.__get__"))
 tak:PySem.W.takesIn K (.builtin "object.__class__")=some true
 mro:PySem.W.mroIn K D (.type "object")=some true
 no:PySem.W.findIn K (.ref D) f=some none
structure XcK (K:PySem.W.Frag) (C:Addr) (cls f:Str):Prop where
 ns:PySem.W.nsIn K mainGlobals cls=some (some (.ref C))
 ask:Ask K C f
 no : ∀ n:String,n∈["str", "int", "bool", "list", "tuple", "dict"]→PySem.W.mroIn K C (.type n)=some false
noncomputable def lW (cls:Str):D:=.tuple [.int ((2 ^ 250) ^ 8),.str cls,.none]
theorem HA (cls:Str):(lW cls).showable=false:=by
 have e:decide ((((2 ^ 250) ^ 8:Int)).natAbs.log2<1920)=false:=by decide +kernel
 unfold lW
 simp only [PyData.showable,PyData.showableAll,e,Bool.false_and]
theorem qo (cls:Str) (ds:List (D × D)) : ¬ PyData.showable (.dict ((.none,lW cls)::ds))=true:=by
 simp only [PyData.showable,PyData.showableKv,HA,Bool.and_false,Bool.false_and]
 exact aa
mutual
inductive Dn (K:PySem.W.Frag) (H:Hp):V→D→Prop
 | non:Dn K H .non .none
 | bl (b:Bool):Dn K H (.bl b) (.bool b)
 | int (i:Int):Dn K H (.int i) (.int i)
 | str {x:Str}:asc x=true→x.length≤LIM→Dn K H (.str x) (.str x)
 | lst {a:Addr} {xs:List V} {ds:List D}:RL K H a xs→xs.length≤LIM→aj K H xs ds→Dn K H (.ref a) (.list ds)
 | tup {a:Addr} {xs:List V} {ds:List D}:SqT K H a xs→xs.length≤LIM→aj K H xs ds→Dn K H (.ref a) (.tuple ds)
 | dct {a:Addr} {o:Obj} {kvs:List (Key × V)} {ds:List (D × D)}:H a=some (.frz o (.dK kvs))→kvs.length≤LIM→bH K H kvs ds→Dn K H (.ref a) (.dict ds)
 | ins {a C dx:Addr} {cls:Str} {fs:List (Str × V)} {ds:List (D × D)}:H a=some (.ins C dx fs)→cS K C cls→gc K H fs ds→Dn K H (.ref a) (.dict ((.none,jH cls)::ds))
 | exc {a C dx:Addr} {cls f:Str} {v:V} {d:D}:H a=some (exo a C (some dx))→H dx=some (exd dx [(f,v)])→XcK K C cls f→Dn K H v d→Dn K H (.ref a) (.dict [(.none,lW cls),(.tuple [.str f],d)])
inductive aj (K:PySem.W.Frag) (H:Hp):List V→List D→Prop
 | nil:aj K H [] []
 | cons {v:V} {vs:List V} {d:D} {ds:List D}:Dn K H v d→aj K H vs ds→aj K H (v::vs) (d::ds)
inductive bH (K:PySem.W.Frag) (H:Hp):List (Key × V)→List (D × D)→Prop
 | nil:bH K H [] []
 | cons {k:Key} {v:V} {vs:List (Key × V)} {d:D} {ds:List (D × D)}:Dn K H v d→bH K H vs ds→bH K H ((k,v)::vs) ((keyD k,d)::ds)
inductive gc (K:PySem.W.Frag) (H:Hp):List (Str × V)→List (D × D)→Prop
 | nil:gc K H [] []
 | cons {f:Str} {v:V} {vs:List (Str × V)} {d:D} {ds:List (D × D)}:Dn K H v d→gc K H vs ds→gc K H ((f,v)::vs) ((.tuple [.str f],d)::ds)
end
noncomputable def dQ:List (D × D)→Bool
 | (.none,_)::_=>true
 | _=>false
mutual
theorem bf {K:PySem.W.Frag} {H H':Hp} (s:Sm H H') : ∀ {v:V} {d:D},Dn K H v d→Dn K H' v d
 | _,_,.non => .non
 | _,_,.bl b => .bl b
 | _,_,.int i => .int i
 | _,_,.str h l => .str h l
 | _,_,.lst h l a => .lst (Sm.rl s h) l (bj s.sm a)
 | _,_,.tup h l a => .tup (Sm.jV s h) l (bj s.sm a)
 | _,_,.dct h l a => .dct (s _ _ h) l (eJ s.sm a)
 | _,_,.ins h l a => .ins (s _ _ h) l (vP s.sm a)
 | _,_,.exc h1 h2 k a => .exc (s _ _ h1) (s _ _ h2) k (bf s.sm a)
theorem bj {K:PySem.W.Frag} {H H':Hp} (s:Sm H H') : ∀ {vs:List V} {ds:List D},aj K H vs ds→aj K H' vs ds
 | _,_,.nil => .nil
 | _,_,.cons h t => .cons (bf s.sm h) (bj s.sm t)
theorem eJ {K:PySem.W.Frag} {H H':Hp} (s:Sm H H') : ∀ {vs:List (Key × V)} {ds:List (D × D)},bH K H vs ds→bH K H' vs ds
 | _,_,.nil => .nil
 | _,_,.cons h t => .cons (bf s.sm h) (eJ s.sm t)
theorem vP {K:PySem.W.Frag} {H H':Hp} (s:Sm H H') : ∀ {vs:List (Str × V)} {ds:List (D × D)},gc K H vs ds→gc K H' vs ds
 | _,_,.nil => .nil
 | _,_,.cons h t => .cons (bf s.sm h) (vP s.sm t)
end
noncomputable def plain (d:D):Bool:=!d.hasDict&&decide (d.depth≤64)
mutual
theorem kL {K:PySem.W.Frag} {H:Hp} : ∀ {v:V} {d:D},Dn K H v d→d.hasDict=false→Dp K H v d
 | _,_,.non,_ => .non
 | _,_,.bl b,_ => .bl b
 | _,_,.int i,_ => .int i
 | _,_,.str _ _,_ => .str _
 | _,_,.lst h _ a,e => .lst h.sq (sG a (by simpa only [PyData.hasDict] using e))
 | _,_,.tup h _ a,e => .tup h (sG a (by simpa only [PyData.hasDict] using e))
 | _,_,.dct _ _ _,e=>by simp [PyData.hasDict] at e
 | _,_,.ins _ _ _,e=>by simp [PyData.hasDict] at e
 | _,_,.exc _ _ _ _,e=>by simp [PyData.hasDict] at e
theorem sG {K:PySem.W.Frag} {H:Hp} : ∀ {vs:List V} {ds:List D},aj K H vs ds→PyData.hasDictAll ds=false→DpAll K H vs ds
 | _,_,.nil,_ => .nil
 | _,_,.cons h t,e=>by
  simp only [PyData.hasDictAll,Bool.or_eq_false_iff] at e
  exact .cons (kL h e.1) (sG t e.2)
end
theorem DP {x:Str} (h:asc x=true):PySem.PyData.strOk x=true:=by
 unfold asc at h
 unfold PySem.PyData.strOk
 rw [← Array.all_toList]
 refine j5.mpr λc hc => ?_
 have:=j5.mp h c hc
 simp at this ⊢
 omega
mutual
theorem B5 {K:PySem.W.Frag} {H:Hp} : ∀ {v:V} {d:D},Dn K H v d→d.hasDict=false→d.canLay0=true
 | _,_,.non,_=>rfl
 | _,_,.bl b,_=>rfl
 | _,_,.int i,_=>rfl
 | _,_,.str h _,_=>by simp only [PyData.canLay0]; exact DP h
 | _,_,.lst h _ a,e=>by simp only [PyData.canLay0]; exact qY a (by simpa only [PyData.hasDict] using e)
 | _,_,.tup h _ a,e=>by simp only [PyData.canLay0]; exact qY a (by simpa only [PyData.hasDict] using e)
 | _,_,.dct _ _ _,e=>by simp [PyData.hasDict] at e
 | _,_,.ins _ _ _,e=>by simp [PyData.hasDict] at e
 | _,_,.exc _ _ _ _,e=>by simp [PyData.hasDict] at e
theorem qY {K:PySem.W.Frag} {H:Hp} : ∀ {vs:List V} {ds:List D},aj K H vs ds→PyData.hasDictAll ds=false→PyData.canLayAll0 ds=true
 | _,_,.nil,_=>rfl
 | _,_,.cons h t,e=>by
  simp only [PyData.hasDictAll,Bool.or_eq_false_iff] at e
  simp only [PyData.canLayAll0,ai]
  exact ⟨B5 h e.1,qY t e.2⟩
end
theorem jB {K:PySem.W.Frag} {H:Hp} {v:V} {d:D} (h:Dn K H v d) (p:plain d=true):Dp K H v d∧SeqAt.shaped d=true:=by
 simp only [plain,ai,Bool.not_eq_true'] at p
 exact ⟨kL h p.1,by simp only [SeqAt.shaped,ai]; exact ⟨B5 h p.1,p.2⟩⟩
section
variable {K:PySem.W.Frag} {H:Hp}
theorem oK : ∀ {vs:List (Key × V)} {ds:List (D × D)},bH K H vs ds→dQ ds=false
 | _,_,.nil=>rfl
 | _,_,.cons (k:=k) _ _=>by cases k <;> rfl
theorem aK : ∀ {vs:List V} {ds:List D},aj K H vs ds→vs.length=ds.length
 | _,_,.nil=>rfl
 | _,_,.cons _ t=>bF Nat.succ (aK t)
theorem ua : ∀ {vs:List V} {ds:List D} {i:Nat} {d:D},aj K H vs ds→ds[i]? = some d → ∃ v,vs[i]? = some v∧Dn K H v d
 | _,_,_,_,.nil,e=>by simp at e
 | _,_,0,_,.cons h _,e=>by simp at e; subst e; exact ⟨_,rfl,h⟩
 | _,_,i+1,d,.cons _ t,e=>by
  obtain ⟨v,h1,h2⟩:=ua (i:=i) (d:=d) t (by simpa using e)
  exact ⟨v,by simpa using h1,h2⟩
theorem dN : ∀ {vs:List V} {ds:List D} {i:Nat} {v:V},aj K H vs ds→vs[i]? = some v → ∃ d,ds[i]? = some d∧Dn K H v d
 | _,_,_,_,.nil,e=>by simp at e
 | _,_,0,_,.cons h _,e=>by simp at e; subst e; exact ⟨_,rfl,h⟩
 | _,_,i+1,d,.cons _ t,e=>by
  obtain ⟨v,h1,h2⟩:=dN (i:=i) (v:=d) t (by simpa using e)
  exact ⟨v,by simpa using h1,h2⟩
theorem fB : ∀ {vs ws:List V} {ds es:List D},aj K H vs ds→aj K H ws es→aj K H (vs++ws) (ds++es)
 | _,_,_,_,.nil,s=>s
 | _,_,_,_,.cons h t,s => .cons h (fB t s)
theorem yN : ∀ {vs:List V} {ds:List D} (n:Nat),aj K H vs ds→aj K H (vs.take n) (ds.take n)
 | _,_,0,_ => .nil
 | _,_,_+1,.nil => .nil
 | _,_,n+1,.cons h t => .cons h (yN n t)
theorem A1 : ∀ {vs:List V} {ds:List D} (n:Nat),aj K H vs ds→aj K H (vs.drop n) (ds.drop n)
 | _,_,0,h=>h
 | _,_,_+1,.nil => .nil
 | _,_,n+1,.cons _ t=>A1 n t
theorem rN {vs:List V} {ds:List D} (h:aj K H vs ds) : ∀ n:Nat,aj K H (List.replicate n vs).flatten (List.replicate n ds).flatten
 | 0 => .nil
 | n+1=>by
  rw [j4,j4,List.flatten_cons,List.flatten_cons]
  exact fB h (rN h n)
theorem Ap : ∀ {vs:List V} {ds:List D},aj K H vs ds→aj K H vs.reverse ds.reverse
 | _,_,.nil => .nil
 | _,_,.cons a b=>by rw [List.reverse_cons,List.reverse_cons]; exact fB (Ap b) (.cons a .nil)
theorem Ag : ∀ xs:List Str,(∀ x∈xs,asc x=true∧x.length≤LIM)→aj K H (xs.map V.str) (xs.map PyData.str)
 | [],_ => .nil
 | x::xs,h => .cons (.str (h x (by simp)).1 (h x (by simp)).2) (Ag xs λy hy=>h y (aE _ hy))
theorem q_ : ∀ xs:List Int,aj K H (xs.map V.int) (xs.map PyData.int)
 | [] => .nil
 | x::xs => .cons (.int x) (q_ xs)
end
mutual
noncomputable def nkD:D→Option NestedKey
 | .none=>some .none
 | .bool b=>some (.num (if b=true then 1 else 0))
 | .int i=>some (.num i)
 | .str x=>some (.text x)
 | .tuple ds=>(dI ds).map .tup
 | .list _=>none
 | .dict _=>none
noncomputable def dI:List D→Option (List NestedKey)
 | []=>some []
 | d::ds=>match nkD d,dI ds with
  | some k,some ks=>some (k::ks)
  | _,_=>none
end
noncomputable def OM (w:World) (x:NestedKey × Addr × Value):DictEntry:=⟨x.1.hash w,.ref x.2.1,x.2.2⟩
inductive f_ (K:PySem.W.Frag) (M:Hp):List (NestedKey × Addr × Value)→List (D × D)→Prop
 | nil:f_ K M [] []
 | cons {a:Addr} {v:V} {u:Value} {k d:D} {nk:NestedKey} {xs:List (NestedKey × Addr × Value)} {ds:List (D × D)}:Dn K M (.ref a) k→nkD k=some nk→nk.depth≤8→RelV v u→Dn K M v d→f_ K M xs ds→f_ K M ((nk,a,u)::xs) ((k,d)::ds)
theorem f_.mono {K:PySem.W.Frag} {M M':Hp} (s:Sm M M') : ∀ {xs:List (NestedKey × Addr × Value)} {ds:List (D × D)},f_ K M xs ds→f_ K M' xs ds
 | _,_,.nil => .nil
 | _,_,.cons h1 h2 h3 h4 h5 t => .cons (bf s.sm h1) h2 h3 h4 (bf s.sm h5) (f_.mono s t)
noncomputable def fG (w:World) (K:PySem.W.Frag) (oa:Option HO) (M:Hp) (a:Addr):kU→Prop
 | .on kvs=>(oa=some (.dK [])∧kvs=[]) ∨ ∃ (o:Obj) (es:Array DictEntry) (ep:Nat) (xs:List (NestedKey × Addr × Value)),oa=some (.ext λh=>h.get? a=some o)∧o.ExactDict∧o.data = .dict es ep∧es.toList=xs.map (OM w)∧(xs.map (·.1)).Nodup∧(a==sysModules)=false∧(∃ h:Heap,h.get? a=some o)∧f_ K M xs kvs
 | .new cls => ∃ C dx,oa=some (.ins C dx [])∧cS K C cls
theorem fG.mono {w:World} {K:PySem.W.Frag} {oa:Option HO} {M M':Hp} {a:Addr} {t:kU} (s:Sm M M') (h:fG w K oa M a t):fG w K oa M' a t:=by
 cases t with
 | on kvs =>
  rcases h with h | ⟨o,es,ep,xs,h1,h2,h3,h4,h5,h6,h8,h7⟩
  ·exact .inl h
  ·exact .inr ⟨o,es,ep,xs,h1,h2,h3,h4,h5,h6,h8,h7.mono s⟩
 | new cls=>exact h
theorem fG.some {w:World} {K:PySem.W.Frag} {oa:Option HO} {M:Hp} {a:Addr} {t:kU} (h:fG w K oa M a t) : ∃ u,oa=some u∧NC a u:=by
 cases t with
 | on kvs =>
  rcases h with h | ⟨o,es,ep,xs,h1,h2,h3,h4,h5,h6,h7⟩
  ·exact ⟨_,h.1,by (first | assumption | exact ⟨λ_ z=>HO.noConfusion z,λ_ z=>HO.noConfusion z⟩)⟩
  ·exact ⟨_,h1,Ah λhp oc vs e1 e2 e3=>by rw [e1] at e3; cases e3; rw [h3] at e2; cases e2⟩
 | new cls =>
  obtain ⟨C,dx,h,_⟩:=h
  exact ⟨_,h,by (first | assumption | exact ⟨λ_ z=>HO.noConfusion z,λ_ z=>HO.noConfusion z⟩)⟩
theorem fG.grow {w:World} {K:PySem.W.Frag} {H H':Hp} {M M':Hp} {a:Addr} {t:kU} (e:Sm H H') (s:Sm M M') (h:fG w K (H a) M a t):fG w K (H' a) M' a t:=by
 obtain ⟨u,hu,n⟩:=h.some
 have h':=e _ _ hu n.1
 rw [h',← hu]
 exact h.mono s
noncomputable def gz (K:PySem.W.Frag) (xp:XP) (H:Hp) (O:List Addr):SV→V→Prop
 | .pd d,v=>Dn K (msk H O) v d
 | .own xs,v => ∃ a vs,v = .ref a∧a∈O∧H a=some (.lst vs)∧aj K (msk H O) vs xs
 | .od kvs,v => ∃ a vs,v = .ref a∧a∈O∧H a=some (.dK vs)∧bH K (msk H O) vs kvs
 | .st t,v => ∃ a,v = .ref a∧a∈O∧fG xp.w K (H a) (msk H O) a t
 | .exc e,v => ∃ a dd w,xp.x=some (a,dd,e.cls)∧v = .ref a∧msk H O dd=some (.xd [(e.attr,w)])∧Dn K (msk H O) w e.val
 | .pin,v => ∃ a dd c,xp.x=some (a,dd,c)∧v = .ref a
theorem gz.nc {K:PySem.W.Frag} {xp:XP} {H:Hp} {O:List Addr} {s:SV} {a:Addr} (o:cC s=true) (h:gz K xp H O s (.ref a)) : ∃ u,H a=some u∧NC a u:=by
 cases s with
 | own xs =>
  obtain ⟨b,vs,e,h2,h3,_⟩:=h
  cases e
  exact ⟨_,h3,by (first | assumption | exact ⟨λ_ z=>HO.noConfusion z,λ_ z=>HO.noConfusion z⟩)⟩
 | od kvs =>
  obtain ⟨b,vs,e,h2,h3,_⟩:=h
  cases e
  exact ⟨_,h3,by (first | assumption | exact ⟨λ_ z=>HO.noConfusion z,λ_ z=>HO.noConfusion z⟩)⟩
 | st t =>
  obtain ⟨b,e,h2,h3⟩:=h
  cases e
  exact h3.some
 | _=>cases o
structure Rel (K:PySem.W.Frag) (xp:XP) (σ:St) (H:Hp) (ρ:Sto) (O:List Addr):Prop where
 len:σ.length=ρ.length
 at_ : ∀ (i:Nat) (s:SV),ρ[i]? = some (some s) → ∃ v,σ[i]? = some (some v)∧gz K xp H O s v
 inj : ∀ (i j:Nat) (xs ys:SV) (v:V),cC xs=true→cC ys=true→ρ[i]? = some (some xs)→ρ[j]? = some (some ys)→σ[i]? = some (some v)→σ[j]? = some (some v)→i=j
 thr:Thr K H O
theorem gz.mono {K:PySem.W.Frag} {xp:XP} {H H':Hp} {O:List Addr} {s:SV} {v:V} (e:Sm H H') (h:gz K xp H O s v):gz K xp H' O s v:=by
 cases s with
 | pd d=>exact bf (aH e) h
 | own xs =>
  obtain ⟨a,vs,h1,h2,h3,h4⟩:=h
  exact ⟨a,vs,h1,h2,e _ _ h3,bj (aH e) h4⟩
 | od xs =>
  obtain ⟨a,vs,h1,h2,h3,h4⟩:=h
  exact ⟨a,vs,h1,h2,e _ _ h3,eJ (aH e) h4⟩
 | st t =>
  obtain ⟨a,h1,h2,h3⟩:=h
  exact ⟨a,h1,h2,h3.grow e (aH e)⟩
 | exc x =>
  obtain ⟨a,dd,w,h1,h2,h3,h4⟩:=h
  exact ⟨a,dd,w,h1,h2,aH e _ _ h3,bf (aH e) h4⟩
 | pin=>exact h
theorem Rel.mono {K:PySem.W.Frag} {xp:XP} {σ:St} {H H':Hp} {ρ:Sto} {O:List Addr} (r:Rel K xp σ H ρ O) (e:Same H H'):Rel K xp σ H' ρ O:=
 ⟨r.len,λi s h=>let ⟨v,h1,h2⟩:=r.at_ i s h; ⟨v,h1,h2.mono e⟩,r.inj,r.thr.same e⟩
theorem get_set {α:Type} {l:List α} {i j:Nat} {x y:α} (h:(l.set i x)[j]? = some y):(i=j∧y=x)∨(i≠j∧l[j]? = some y):=by
 by_cases e:i=j
 ·subst e
  rw [List.getElem?_set_self'] at h
  cases q:l[i]? with
  | none=>rw [q] at h; cases h
  | some z=>rw [q] at h; exact .inl ⟨rfl,(bQ h).symm⟩
 ·rw [List.getElem?_set_ne e] at h; exact .inr ⟨e,h⟩
theorem Rel.set {K:PySem.W.Frag} {xp:XP} {σ:St} {H:Hp} {ρ:Sto} {O:List Addr} (r:Rel K xp σ H ρ O) {i:Nat} {v:V} {d:D} (h:Dn K (msk H O) v d):Rel K xp (σ.set i (some v)) H (ρ.set i (some (.pd d))) O:=by
 refine ⟨by simp [r.len],λj s q => ?_,λj k xs ys u o1 o2 q1 q2 p1 p2 => ?_,r.thr⟩
 ·rcases get_set q with ⟨rfl,e⟩ | ⟨ne,e⟩
  ·obtain rfl:=bQ e
   have hl:i<σ.length:=by rw [r.len]; have:=(List.getElem?_eq_some_iff.mp q).1; simpa using this
   exact ⟨v,by rw [List.getElem?_set_self hl],h⟩
  ·rw [List.getElem?_set_ne ne]; exact r.at_ j s e
 ·rcases get_set q1 with ⟨rfl,e⟩ | ⟨ne,e⟩
  ·cases e; cases o1
  ·rcases get_set q2 with ⟨rfl,e'⟩ | ⟨ne',e'⟩
   ·cases e'; cases o2
   ·rw [List.getElem?_set_ne ne] at p1; rw [List.getElem?_set_ne ne'] at p2
    exact r.inj j k xs ys u o1 o2 e e' p1 p2
theorem Rel.unset {K:PySem.W.Frag} {xp:XP} {σ:St} {H:Hp} {ρ:Sto} {O:List Addr} (r:Rel K xp σ H ρ O) (i:Nat) (x:Option V):Rel K xp (σ.set i x) H (ρ.set i none) O:=by
 refine ⟨by simp [r.len],λj s q => ?_,λj k xs ys u o1 o2 q1 q2 p1 p2 => ?_,r.thr⟩
 ·rcases get_set q with ⟨rfl,e⟩ | ⟨ne,e⟩
  ·cases e
  ·rw [List.getElem?_set_ne ne]; exact r.at_ j s e
 ·rcases get_set q1 with ⟨rfl,e⟩ | ⟨ne,e⟩
  ·cases e
  ·rcases get_set q2 with ⟨rfl,e'⟩ | ⟨ne',e'⟩
   ·cases e'
   ·rw [List.getElem?_set_ne ne] at p1; rw [List.getElem?_set_ne ne'] at p2
    exact r.inj j k xs ys u o1 o2 e e' p1 p2
theorem NS {H:Hp} {O:List Addr} {p:Addr}:Sm (msk H (p::O)) (msk H O):=.of λb o h=>by
 obtain ⟨h1,h2⟩:=dJ h
 rw [bc λz=>h1 (aE _ z)]; exact h2
theorem dZ {H H':Hp} {O:List Addr} {p:Addr} (hp:H p=none) (s:Sm H H'):Sm (msk H O) (msk H' (p::O)):=⟨λb o h n=>by
 obtain ⟨h1,h2⟩:=dJ h
 rw [bc λz => ?_]
 ·exact s b o h2 n
 ·rcases cG.mp z with rfl | z
  ·rw [hp] at h2; cases h2
  ·exact h1 z,λb h=>(by
 by_cases hb:b∈O
 ·exact (h (cK hb)).elim
 ·rw [bc hb] at h
  rw [bc λz=>(cG.mp z).elim (λe=>h (by rw [e]; exact hp)) hb]
  exact s.dom b h)⟩
end Pf

set_option maxRecDepth 100000
namespace Pf
open PySem PySem.Spec L2
theorem upd_upd {H:Hp} {p:Addr} {o u:HO}:upd (upd H p o) p u=upd H p u:=by
 funext b
 by_cases z:b=p
 ·subst z; rw [aS,aS]
 ·rw [ax z,ax z,ax z]
section
variable {X:Cx}
theorem DY {e:Expr} {t:TE} (h:PE X e t):PE X e (λσ H Q=>t σ H λv H1 => ∃ d kvs,v = .ref d∧H1 d=some (.dK kvs) ∧ ∀ o,Q v (upd H1 d (.frz o (.dK kvs)))):=by
 refine ⟨λpins s σ H Q I hw => ?_⟩
 refine thn (h.run pins s σ _ _ I hw) λv s1 ⟨x,H1,I2,r,d,kvs,e1,e2,q⟩ => ?_
 obtain ⟨od,I3⟩:=I2.lock e2 trivial
 exact ⟨x,_,I3,r,q od⟩
noncomputable abbrev NU (T:Ends):Ends:={ T with nx:=λσ' H' => ∃ d kvs,H' d=some (.dK kvs) ∧ ∀ o,T.nx σ' (upd H' d (.frz o (.dK kvs))) }
theorem wZ {st:Stmt} {t:TS} (h:PS X st t):PS X st (λT σ H=>t (NU T) σ H):=by
 refine ⟨λpins s σ H T I hw => ?_⟩
 refine thn (h.run pins s σ _ _ I hw) λf s1 q => ?_
 cases f with
 | next =>
  obtain ⟨σ',H',I2,d,kvs,e,q⟩:=q
  obtain ⟨od,I3⟩:=I2.lock e trivial
  exact ⟨σ',_,I3,q od⟩
 | brk=>exact q
 | cont=>exact q
 | ret v=>exact q
theorem Ot {e:Expr} {t:TT} (h:PT X e t):PT X e (λσ H Q=>t σ H Q ∨ ∃ d kvs,H d=some (.dK kvs) ∧ ∀ o,t σ (upd H d (.frz o (.dK kvs))) λb H'=>H' d=some (.frz o (.dK kvs))∧Q b (upd H' d (.dK kvs))):=by
 refine ⟨λpins s σ H Q I hw => ?_⟩
 rcases hw with hw | ⟨d,kvs,e,hw⟩
 ·exact h.run pins s σ _ _ I hw
 ·obtain ⟨od,I1⟩:=I.lock e trivial
  refine thn (h.run pins s σ _ _ I1 (hw od)) λb s1 ⟨H',I2,e2,q⟩ => ?_
  exact ⟨_,I2.unlock e2 (I.nofrz e trivial),q⟩
theorem LX {sts:List Stmt} {t:TS} (h:PSs X sts t):PSs X sts (λT σ H=>t T σ H ∨ ∃ d kvs,H d=some (.dK kvs) ∧ ∀ o,t T σ (upd H d (.frz o (.dK kvs)))):=by
 refine ⟨λpins s σ H T I hw => ?_⟩
 rcases hw with hw | ⟨d,kvs,e,hw⟩
 ·exact h.run pins s σ _ _ I hw
 ·obtain ⟨od,I3⟩:=I.lock e trivial
  exact h.run pins s σ _ _ I3 (hw od)
end
noncomputable def eX (K:PySem.W.Frag) (mg:Str→Option Value) (F:Hp) (e:EX) (cls:Value) (d:Option Addr):Prop:=
 ∃ C dd w,cls = .ref C∧d=some dd∧mg e.cls=some (.ref C)∧F dd=some (.xd [(e.attr,w)])∧Dn K F w e.val
theorem eX.mono {K:PySem.W.Frag} {mg:Str→Option Value} {F F':Hp} {e:EX} {cls:Value} {d:Option Addr} (h:eX K mg F e cls d) (s:Sm F F'):eX K mg F' e cls d:=by
 obtain ⟨C,dd,w,h1,h2,h3,h4,h5⟩:=h
 exact ⟨C,dd,w,h1,h2,h3,s _ _ h4,bf s.sm h5⟩
noncomputable def End (K:PySem.W.Frag) (mg:Str→Option Value) (W:WX) (O:List Addr) (σ:St) (H:Hp) {α:Type} (P:α→Hp→Prop):Rs α→Prop
 | .ok a => ∀ H',Same H H'→P a H'
 | .ex e => ∀ H' cls d,Same H H'→eX K mg (msk H' O) e cls d→W cls d σ H'
 | .bad=>False
section
variable {K:PySem.W.Frag} {mg:Str→Option Value} {W:WX} {O:List Addr} {σ:St} {H:Hp} {α β:Type} {P P':α→Hp→Prop}
theorem End.grow {H1:Hp} {r:Rs α} (h:End K mg W O σ H P r) (s:Same H H1):End K mg W O σ H1 P r:=by
 cases r with
 | ok a=>exact λH' s'=>h H' (s.trans s')
 | ex e=>exact λH' c d s'=>h H' c d (s.trans s')
 | bad=>exact h
theorem End.imp {r:Rs α} (h:End K mg W O σ H P r) (k : ∀ a H',r = .ok a→Same H H'→P a H'→P' a H'):End K mg W O σ H P' r:=by
 cases r with
 | ok a=>exact λH' s'=>k a H' rfl s' (h H' s')
 | ex e=>exact h
 | bad=>exact h
theorem End.bind {m:Rs β} {k:β→Rs α} (h:End K mg W O σ H P (m.bind k)):End K mg W O σ H (λb H1=>End K mg W O σ H1 P (k b)) m:=by
 cases m with
 | ok a=>exact λH' s'=>End.grow h s'
 | ex e=>exact h
 | bad=>exact h
theorem End.ok {a:α} (h:End K mg W O σ H P (.ok a)):P a H:=h H (aM H)
end
noncomputable def rdE (K:PySem.W.Frag) (mg:Str→Option Value) (xp:XP) (W:WX) (f:Sto→Rs D):TE:=λσ H Q => ∃ ρ O,Rel K xp σ H ρ O∧End K mg W O σ H (λd H' => ∀ v,Dn K (msk H' O) v d→Q v H') (f ρ)
noncomputable def rdL (K:PySem.W.Frag) (mg:Str→Option Value) (xp:XP) (W:WX) (f:Sto→Rs D):TE:=λσ H Q => ∃ ρ O,Rel K xp σ H ρ O∧End K mg W O σ H (λd H' => ∀ v,Dn K H' v d→Q v H') (f ρ)
noncomputable def rdF (K:PySem.W.Frag) (mg:Str→Option Value) (xp:XP) (W:WX) (f:Sto→Rs (List D)):TE:=λσ H Q => ∃ ρ O,Rel K xp σ H ρ O ∧
 End K mg W O σ H (λds H' => ∀ p vs,H p=none→H' p=some (.lst vs)→vs.length≤LIM→aj K (msk H' (p::O)) vs ds→Q (.ref p) H') (f ρ)
noncomputable def rdT (K:PySem.W.Frag) (mg:Str→Option Value) (xp:XP) (W:WX) (f:Sto→Rs Bool):TT:=λσ H Q => ∃ ρ O,Rel K xp σ H ρ O∧End K mg W O σ H (λb H'=>Q b H') (f ρ)
noncomputable def rdA (K:PySem.W.Frag) (mg:Str→Option Value) (xp:XP) (W:WX) (f:Sto→Rs (List D)):TA:=λσ H Q => ∃ ρ O,Rel K xp σ H ρ O∧End K mg W O σ H (λds H' => ∀ vs,aj K (msk H' O) vs ds→Q vs H') (f ρ)
noncomputable abbrev CE (X:Cx) (xp:XP) (W:WX) (e:Expr) (f:Sto→Rs D):Prop:=PE X e (rdE X.K X.mg xp W f)
noncomputable abbrev CL (X:Cx) (xp:XP) (W:WX) (e:Expr) (f:Sto→Rs D):Prop:=PE X e (rdL X.K X.mg xp W f)
noncomputable abbrev CF (X:Cx) (xp:XP) (W:WX) (e:Expr) (f:Sto→Rs (List D)):Prop:=PE X e (rdF X.K X.mg xp W f)
noncomputable abbrev CT (X:Cx) (xp:XP) (W:WX) (e:Expr) (f:Sto→Rs Bool):Prop:=PT X e (rdT X.K X.mg xp W f)
noncomputable abbrev CA (X:Cx) (xp:XP) (W:WX) (es:List Expr) (f:Sto→Rs (List D)):Prop:=L2.PA X es (rdA X.K X.mg xp W f)
section
variable {X:Cx} {xp:XP} {W:WX} {e:Expr}
theorem bt {t t':TE} (h:PE X e t) (k : ∀ σ H Q,t' σ H Q→t σ H Q):PE X e t':=⟨λpins s σ H Q I q=>h.run pins s σ H Q I (k σ H Q q)⟩
theorem jM {t t':TT} (h:PT X e t) (k : ∀ σ H Q,t' σ H Q→t σ H Q):PT X e t':=⟨λpins s σ H Q I q=>h.run pins s σ H Q I (k σ H Q q)⟩
theorem zx {t t':TT} (h:PW X e t) (k : ∀ σ H Q,t' σ H Q→t σ H Q):PW X e t':=⟨λwh pins s σ H Q I q=>h.run wh pins s σ H Q I (k σ H Q q)⟩
theorem nE {es:List Expr} {t t':TA} (h:L2.PA X es t) (k : ∀ σ H Q,t' σ H Q→t σ H Q):L2.PA X es t':=⟨λpos pins s σ H Q I q=>h.run pos pins s σ H Q I (k σ H Q q)⟩
theorem CE.lax {f:Sto→Rs D} (h:CE X xp W e f):CL X xp W e f:=bt h λσ H Q ⟨ρ,O,R,q⟩=>⟨ρ,O,R,q.imp λd H' _ s k v hv=>k v (bf dM hv)⟩
theorem E9 {K:PySem.W.Frag} {H H':Hp} {O:List Addr} {p:Addr} {vs:List V} {ds:List D} (t:Thr K H O) (hp:H p=none) (h:H' p=some (.lst vs)) (hl:vs.length≤LIM) (a:aj K (msk H' (p::O)) vs ds):Dn K (msk H' O) (.ref p) (.list ds):=
 .lst (.inl (.inl (by rw [bc (t.out hp)]; exact h))) hl (bj NS a)
theorem CF.ce {f:Sto→Rs (List D)} (h:CF X xp W e f):CE X xp W e (λρ=>(f ρ).bind λds => .ok (.list ds)):=bt h λσ H Q ⟨ρ,O,R,q⟩=>⟨ρ,O,R,(End.bind q).imp λds H' _ s k p vs hp h1 hl h2=>k.ok _ (E9 R.thr hp h1 hl h2)⟩
noncomputable def a9 (ρ:Sto) (i:Nat):Rs D:=match ρ[i]? with
 | some (some (.pd d)) => .ok d
 | _ => .bad
noncomputable def eD (ρ:Sto) (i:Nat):Rs D:=match ρ[i]? with
 | some (some (.own xs))=>if xs.length≤LIM then .ok (.list xs) else .bad
 | _ => .bad
theorem Nr {i:Nat} {x:Str} {pos:Pos} (hN:X.N[i]? = some x) (hv:Vis X.env.scope x) (hd:(x==("__debug__" : Str))=false) (hcd:(x==("__classdict__" : Str))=false):CE X xp W (.Name x pos) (λρ=>a9 ρ i):=
 bt (pe_var hN hv hd hcd) λσ H Q ⟨ρ,O,R,q⟩=>by
  have q:End X.K X.mg W O σ H (λd H' => ∀ (v:V),Dn X.K (msk H' O) v d→Q v H') (a9 ρ i):=q
  unfold a9 at q
  split at q
  ·rename_i d e
   obtain ⟨v,h1,h2⟩:=R.at_ i _ e
   exact ⟨v,h1,q.ok v h2⟩
  ·exact q.elim
theorem MM {i:Nat} {x:Str} {pos:Pos} (hN:X.N[i]? = some x) (hv:Vis X.env.scope x) (hd:(x==("__debug__" : Str))=false) (hcd:(x==("__classdict__" : Str))=false):CL X xp W (.Name x pos) (λρ=>eD ρ i):=
 bt (pe_var hN hv hd hcd) λσ H Q ⟨ρ,O,R,q⟩=>by
  have q:End X.K X.mg W O σ H (λd H' => ∀ (v:V),Dn X.K H' v d→Q v H') (eD ρ i):=q
  unfold eD at q
  split at q
  ·rename_i xs e
   obtain ⟨v,h1,a,vs,rfl,h3,h4,h5⟩:=R.at_ i _ e
   by_cases hl:xs.length≤LIM
   ·rw [if_pos hl] at q
    exact ⟨_,h1,q.ok _ (.lst (.inl (.inl h4)) (by rw [aK h5]; exact hl) (bj dM h5))⟩
   ·rw [if_neg hl] at q
    exact q.elim
  ·exact q.elim
theorem lK {v:V} {d:D} (h:PE X e (tC v)) (hd : ∀ F,Dn X.K F v d):CE X xp W e (λ_ => .ok d):=bt h λσ H Q ⟨ρ,O,R,q⟩=>q.ok v (hd _)
theorem NJ {i j pos}:CE X xp W (.Constant (.int i) j pos) (λ_ => .ok (.int i)):=lK pe_int λ_ => .int i
theorem ME {i j pos}:CE X xp W (.Constant (.bool i) j pos) (λ_ => .ok (.bool i)):=lK pe_bl λ_ => .bl i
theorem OI {j pos}:CE X xp W (.Constant .none j pos) (λ_ => .ok .none):=lK pe_non λ_ => .non
theorem AB {x j pos} (h:asc x=true) (hl:x.length≤LIM):CE X xp W (.Constant (.str x) j pos) (λ_ => .ok (.str x)):=lK pe_str λ_ => .str h hl
noncomputable def Okk (r:Rs D) (P:D→Prop):Prop:=match r with
 | .ok d=>P d
 | _=>False
theorem Okk.imp {r:Rs D} {P P':D→Prop} (h:Okk r P) (k : ∀ d,P d→P' d):Okk r P':=by
 cases r with
 | ok d=>exact k d h
 | ex e=>exact h
 | bad=>exact h
noncomputable def Im2 (K:PySem.W.Frag) (r:R2) (g:D→D→Rs D):Prop:=∀ (H:Hp) (O:List Addr) (x y:V) (dx dy:D) (Q:VK),Thr K H O→Dn K (msk H O) x dx→Dn K (msk H O) y dy →
 Okk (g dx dy) (λd => ∀ v H',Same H H'→Dn K (msk H' O) v d→Q v H')→r x y H Q
noncomputable def oA (K:PySem.W.Frag) (r:R2) (g:D→D→Rs D):Prop:=∀ (H:Hp) (x y:V) (dx dy:D) (Q:VK),Dn K H x dx→Dn K H y dy →
 Okk (g dx dy) (λd => ∀ v H',Same H H'→(∀ F,Dn K F v d)→Q v H')→r x y H Q
noncomputable def pur (r:Rs D):Rs D:=match r with
 | .ok d => .ok d
 | _ => .bad
theorem jL {K:PySem.W.Frag} {mg:Str→Option Value} {O:List Addr} {σ:St} {H:Hp} {P:D→Hp→Prop} {r:Rs D} (h:End K mg W O σ H P (pur r)):Okk r λd => ∀ H',Same H H'→P d H':=by
 cases r with
 | ok d=>exact h
 | ex e=>exact h.elim
 | bad=>exact h.elim
section
variable {a b:Expr} {fa fb:Sto→Rs D}
theorem rd2 {K:PySem.W.Frag} {mg:Str→Option Value} {r:R2} {g:D→D→Rs D} (hr:Im2 K r g) {σ:St} {H:Hp} {Q:VK} (h:rdE K mg xp W (λρ=>(fa ρ).bind λx=>(fb ρ).bind λy=>pur (g x y)) σ H Q):tOp r (rdE K mg xp W fa) (rdE K mg xp W fb) σ H Q:=by
 obtain ⟨ρ,O,R,q⟩:=h
 refine ⟨ρ,O,R,q.bind.imp λdx H1 _ s1 q1 vx hx=>⟨ρ,O,R.mono s1,q1.bind.imp λdy H2 _ s2 q2 vy hy => ?_⟩⟩
 have q3:=jL q2
 exact hr H2 O vx vy dx dy Q ((R.mono s1).thr.same s2) (bf (aH s2.sm) hx) hy (q3.imp λd k v H' s h=>k H' s v h)
theorem wO {K:PySem.W.Frag} {mg:Str→Option Value} {r:R2} {g:D→D→Rs D} (hr:oA K r g) {σ:St} {H:Hp} {Q:VK} (h:rdE K mg xp W (λρ=>(fa ρ).bind λx=>(fb ρ).bind λy=>pur (g x y)) σ H Q):tOp r (rdL K mg xp W fa) (rdL K mg xp W fb) σ H Q:=by
 obtain ⟨ρ,O,R,q⟩:=h
 refine ⟨ρ,O,R,q.bind.imp λdx H1 _ s1 q1 vx hx=>⟨ρ,O,R.mono s1,q1.bind.imp λdy H2 _ s2 q2 vy hy => ?_⟩⟩
 have q3:=jL q2
 exact hr H2 vx vy dx dy Q (bf s2.sm hx) hy (q3.imp λd k v H' s h=>k H' s v (h _))
theorem DR {op:Operator} {r:R2} {g:D→D→Rs D} {pos:Pos} (ho:OpR X (binaryOp op) r) (hr:Im2 X.K r g) (ha:CE X xp W a fa) (hb:CE X xp W b fb):CE X xp W (.BinOp a op b pos) (λρ=>(fa ρ).bind λx=>(fb ρ).bind λy=>pur (g x y)):=
 bt (pe_op ho ha hb) λ_ _ _ h=>rd2 hr h
theorem Jw {op:CmpOp} {r:R2} {g:D→D→Rs D} {pos:Pos} (ho:OpR X (compareOp op) r) (hr:oA X.K r g) (ha:CL X xp W a fa) (hb:CL X xp W b fb) (hm:behindInMarks op b=false):CE X xp W (.Compare a [op] [b] pos) (λρ=>(fa ρ).bind λx=>(fb ρ).bind λy=>pur (g x y)):=
 bt (pe_cmpR ho ha hb hm) λ_ _ _ h=>wO hr h
noncomputable def asB:D→Rs Bool
 | .bool b => .ok b
 | _ => .bad
theorem Dn.isB {K:PySem.W.Frag} {H:Hp} {v:V} {k:Bool} (h:Dn K H v (.bool k)):v = .bl k:=by cases h; rfl
theorem NY {op:CmpOp} {r:R2} {g:D→D→Rs D} {pos:Pos} (ho:OpR X (compareOp op) r) (hr:oA X.K r g) (ha:CL X xp W a fa) (hb:CL X xp W b fb) (hm:behindInMarks op b=false):CT X xp W (.Compare a [op] [b] pos) (λρ=>((fa ρ).bind λx=>(fb ρ).bind λy=>pur (g x y)).bind asB):=
 jM (pt_cmpR ho ha hb hm) λσ H Q ⟨ρ,O,R,q⟩=>wO hr ⟨ρ,O,R,q.bind.imp λd H' _ s k v hv=>by
  cases d with
  | bool b=>exact ⟨b,hv.isB,k.ok⟩
  | _=>exact k.elim⟩
theorem Kk {f:Sto→Rs D} (h:CE X xp W e f) (he : ∀ whole,isTrue e X.env whole=(do let v ← whole; standAt e.pos; holding [v] (truthy v))):CT X xp W e (λρ=>(f ρ).bind asB):=
 jM (pt_val h he) λσ H Q ⟨ρ,O,R,q⟩=>⟨ρ,O,R,q.bind.imp λd H' _ s k v hv=>by
  cases d with
  | bool b=>exact ⟨b,hv.isB,k.ok⟩
  | _=>exact k.elim⟩
end
section
variable {a b:Expr} {rest:List Expr} {pos:Pos} {ta tb:Sto→Rs Bool} {fa fb:Sto→Rs D}
theorem Jr (h:CT X xp W a ta):CT X xp W (.UnaryOp .Not a pos) (λρ=>(ta ρ).bind λb => .ok (!b)):=
 jM (pt_not h) λσ H Q ⟨ρ,O,R,q⟩=>⟨ρ,O,R,q.bind.imp λb H' _ s k=>k.ok⟩
noncomputable abbrev CW (X:Cx) (xp:XP) (W:WX) (e:Expr) (f:Sto→Rs Bool):Prop:=PW X e (rdT X.K X.mg xp W f)
theorem EZ (h:CT X xp W a ta):CW X xp W (.BoolOp .And [a] pos) ta:=pw_and1 h
theorem JH (h:CT X xp W a ta):CW X xp W (.BoolOp .Or [a] pos) ta:=pw_or1 h
theorem B4 (h:CT X xp W a ta) (h2:CW X xp W (.BoolOp .And (b::rest) pos) tb):CW X xp W (.BoolOp .And (a::b::rest) pos) (λρ=>(ta ρ).bind λk=>if k=true then tb ρ else .ok false):=
 zx (pw_and h h2) λσ H Q ⟨ρ,O,R,q⟩=>⟨ρ,O,R,q.bind.imp λc H' _ s k=>by
  cases c with
  | true=>exact ⟨ρ,O,R.mono s,k⟩
  | false=>exact k.ok⟩
theorem Bf (h:CT X xp W a ta) (h2:CW X xp W (.BoolOp .Or (b::rest) pos) tb):CW X xp W (.BoolOp .Or (a::b::rest) pos) (λρ=>(ta ρ).bind λk=>if k=true then .ok true else tb ρ):=
 zx (pw_or h h2) λσ H Q ⟨ρ,O,R,q⟩=>⟨ρ,O,R,q.bind.imp λc H' _ s k=>by
  cases c with
  | true=>exact k.ok
  | false=>exact ⟨ρ,O,R.mono s,k⟩⟩
theorem pe (h:CW X xp W e ta):CT X xp W e ta:=PW.pt h
theorem End.bindB {K:PySem.W.Frag} {mg:Str→Option Value} {O:List Addr} {σ:St} {H:Hp} {α:Type} {P:α→Hp→Prop} {m:Rs D} {k:Bool→Rs α} (h:End K mg W O σ H P ((m.bind asB).bind k)):End K mg W O σ H (λd H1 => ∃ b,d = .bool b∧End K mg W O σ H1 P (k b)) m:=by
 rw [Rs.bind_assoc] at h
 exact h.bind.imp λd H' _ s q=>by
  cases d with
  | bool b=>exact ⟨b,rfl,q⟩
  | _=>exact q.elim
theorem M5 (h:CE X xp W a fa):CE X xp W (.UnaryOp .Not a pos) (λρ=>((fa ρ).bind asB).bind λb => .ok (.bool (!b))):=
 bt (pe_not h) λσ H Q ⟨ρ,O,R,q⟩=>⟨ρ,O,R,(End.bindB q).imp λd H' _ s ⟨b,e,k⟩ v hv=>by
  subst e
  exact ⟨b,hv.isB,k.ok _ (.bl _)⟩⟩
theorem Bz {op} (h:CE X xp W a fa):CE X xp W (.BoolOp op [a] pos) fa:=pe_one h
theorem vG (h:CE X xp W a fa) (h2:CE X xp W (.BoolOp .And (b::rest) pos) fb):CE X xp W (.BoolOp .And (a::b::rest) pos) (λρ=>((fa ρ).bind asB).bind λk=>if k=true then fb ρ else .ok (.bool false)):=
 bt (pe_and h h2) λσ H Q ⟨ρ,O,R,q⟩=>⟨ρ,O,R,(End.bindB q).imp λd H' _ s ⟨b,e,k⟩ v hv=>by
  subst e
  refine ⟨b,hv.isB,?_⟩
  cases b with
  | true=>exact ⟨ρ,O,R.mono s,k⟩
  | false=>exact k.ok _ (.bl _)⟩
theorem z6 (h:CE X xp W a fa) (h2:CE X xp W (.BoolOp .Or (b::rest) pos) fb):CE X xp W (.BoolOp .Or (a::b::rest) pos) (λρ=>((fa ρ).bind asB).bind λk=>if k=true then .ok (.bool true) else fb ρ):=
 bt (pe_or h h2) λσ H Q ⟨ρ,O,R,q⟩=>⟨ρ,O,R,(End.bindB q).imp λd H' _ s ⟨b,e,k⟩ v hv=>by
  subst e
  refine ⟨b,hv.isB,?_⟩
  cases b with
  | true=>exact k.ok _ (.bl _)
  | false=>exact ⟨ρ,O,R.mono s,k⟩⟩
theorem E2 {c:Expr} (hc:CT X xp W c ta) (h:CE X xp W a fa) (h2:CE X xp W b fb):CE X xp W (.IfExp c a b pos) (λρ=>(ta ρ).bind λk=>if k=true then fa ρ else fb ρ):=
 bt (pe_ifExp hc h h2) λσ H Q ⟨ρ,O,R,q⟩=>⟨ρ,O,R,q.bind.imp λb H' _ s k=>by
  cases b with
  | true=>exact ⟨ρ,O,R.mono s,k⟩
  | false=>exact ⟨ρ,O,R.mono s,k⟩⟩
end
section
variable {es:List Expr} {pos:Pos} {fa:Sto→Rs D} {fs:Sto→Rs (List D)}
theorem Nt:CA X xp W [] (λ_ => .ok []):=nE cu λσ H Q ⟨ρ,O,R,q⟩=>q.ok [] .nil
theorem J7 (h:CE X xp W e fa) (h2:CA X xp W es fs) (hs:starEach (e::es) X.env=(false,eval e X.env)::starEach es X.env):CA X xp W (e::es) (λρ=>(fa ρ).bind λx=>(fs ρ).bind λxs => .ok (x::xs)):=
 nE (bG h h2 hs) λσ H Q ⟨ρ,O,R,q⟩=>⟨ρ,O,R,q.bind.imp λd H' _ s k v hv=>⟨ρ,O,R.mono s,k.bind.imp λds H2 _ s2 k2 vs hvs=>k2.ok _ (.cons (bf (aH s2.sm) hv) hvs)⟩⟩
theorem b9:LIM≤sizeLine:=by decide
theorem IG {k:Nat} (h:CA X xp W es fs):CE X xp W (.Tuple es k pos) (λρ=>(fs ρ).bind λxs=>if xs.length≤LIM then .ok (.tuple xs) else .bad):=
 bt (pe_tup h) λσ H Q ⟨ρ,O,R,q⟩=>⟨ρ,O,R,q.bind.imp λds H' _ s k vs hv=>by
  by_cases hl:ds.length≤LIM
  ·rw [if_pos hl] at k
   have hl':vs.length≤LIM:=by rw [aK hv]; exact hl
   refine ⟨aF hl' b9,λp hp=>k _ (a0 hp) _ (.tup (.inl (.inl ?_)) hl' (bj (aH (a0 hp).sm) hv))⟩
   rw [bc ((R.thr.same s).out hp)]; exact aS
  ·rw [if_neg hl] at k; exact k.elim⟩
theorem wt (h:CA X xp W es fs):CF X xp W (.List es pos) (λρ=>(fs ρ).bind λxs=>if xs.length≤LIM then .ok xs else .bad):=
 bt (pe_lst h) λσ H Q ⟨ρ,O,R,q⟩=>⟨ρ,O,R,q.bind.imp λds H' _ s k vs hv=>by
  by_cases hl:ds.length≤LIM
  ·rw [if_pos hl] at k
   have hl':vs.length≤LIM:=by rw [aK hv]; exact hl
   refine ⟨aF hl' b9,λp hp=>k _ (a0 hp) p vs (s.free hp) aS hl' (bj (dZ hp (a0 hp).sm) hv)⟩
  ·rw [if_neg hl] at k; exact k.elim⟩
end
end
end Pf

set_option maxRecDepth 100000
namespace Pf
open PySem PySem.Spec L2
noncomputable abbrev cl (x:Str):List Nat:=x.cps.toList
noncomputable abbrev mk (l:List Nat):Str:=⟨l.toArray⟩
theorem IS (l:List Nat):cl (mk l)=l:=rfl
theorem KA (x:Str):mk (cl x)=x:=TL.mk_tl x
theorem ei (x:Str):x.length=(cl x).length:=TL.len_tl x
theorem yX (x y:Str):cl (x++y)=cl x++cl y:=TL.tl_append x y
theorem xm {x y:Str} (h:cl x=cl y):x=y:=TL.ext_tl h
theorem jC {x:Str}:asc x=true ↔ ∀ c∈cl x,c<128:=by
 unfold asc
 rw [j5]
 exact ⟨λh c hc=>dF (h c hc),λh c hc=>cb (h c hc)⟩
theorem B6 {x y:Str} (hx:asc x=true) (hy:asc y=true):asc (x++y)=true:=by
 rw [jC] at *
 intro c hc
 rw [yX,j6] at hc
 exact hc.elim (hx c) (hy c)
theorem jJ {x:Str} {l:List Nat} (hx:asc x=true) (h : ∀ c∈l,c∈cl x):asc (mk l)=true:=by
 rw [jC] at *
 exact λc hc=>hx c (h c hc)
theorem len_app (x y:Str):(x++y).length=x.length+y.length:=by rw [ei,yX,cx,← ei,← ei]
noncomputable def cut {α:Type} (xs:List α) (lo hi:Option Int):List α:=(xs.drop (HT.sIx xs.length 0 lo)).take (HT.sIx xs.length xs.length hi-HT.sIx xs.length 0 lo)
theorem Eb {α:Type} {xs:List α} {lo hi:Option Int} {c:α} (h:c∈cut xs lo hi):c∈xs:=List.mem_of_mem_drop (j7 h)
theorem HS {α:Type} (xs:List α) (lo hi:Option Int):(cut xs lo hi).length≤xs.length:=by
 unfold cut
 rw [ez,i6]
 omega
inductive Bi where
 | add | sub | mul | fdiv | mod | pow
 deriving DecidableEq
noncomputable def Bi.op:Bi→Operator
 | .add => .Add | .sub => .Sub | .mul => .Mult | .fdiv => .FloorDiv | .mod => .Mod | .pow => .Pow
noncomputable def small64 (i:Int):Bool:=decide (-(2 ^ 64)<i)&&decide (i<2 ^ 64)
theorem oh {i:Int}:small64 i=true ↔ -(2 ^ 64)<i∧i<2 ^ 64:=by simp [small64]
noncomputable def bE:Bi→D→D→Rs D
 | .add,.int i,.int j => .ok (.int (i+j))
 | .add,.str x,.str y=>if x.length+y.length≤LIM then .ok (.str (x++y)) else .bad
 | .add,.list xs,.list ys=>if xs.length+ys.length≤LIM then .ok (.list (xs++ys)) else .bad
 | .add,.tuple xs,.tuple ys=>if xs.length+ys.length≤LIM then .ok (.tuple (xs++ys)) else .bad
 | .sub,.int i,.int j => .ok (.int (i-j))
 | .mul,.int i,.int j=>if small64 i=true∨small64 j=true then .ok (.int (i*j)) else .bad
 | .mul,.list xs,.int k=>if -1000000≤k∧k≤1000000∧xs.length*k.toNat≤LIM then .ok (.list (List.replicate k.toNat xs).flatten) else .bad
 | .mul,.tuple xs,.int k=>if xs.length≤1000∧2≤k∧k≤1000 then .ok (.tuple (List.replicate k.toNat xs).flatten) else .bad
 | .mul,.str x,.int k=>if 0≤k∧k≤1000000∧x.length*k.toNat≤LIM then .ok (.str (mk (List.replicate k.toNat (cl x)).flatten)) else .bad
 | .fdiv,.int i,.int j=>if 0<j∧j<1073741824 then .ok (.int (i / j)) else .bad
 | .mod,.int i,.int j=>if 0<j then .ok (.int (i%j)) else .bad
 | .pow,.int i,.int j=>if 0≤j∧j≤1000∧small64 i=true then .ok (.int (i ^ j.toNat)) else .bad
 | _,_,_ => .bad
section
variable {X:Cx}
theorem Inv.eE {pins:List (Addr × Obj)} {σ:St} {H:Hp} {s:Shared} {l:Addr} {xs:List V} (I:Inv X pins σ H s) (h:RL X.K H l xs):xs.length≤sizeLine ∧ ∃ (its:List Value) (n:Nat),Vals xs its∧xs.length=its.length∧s.heap.get? l=some { cls:=.type "list",data:=.seq its.toArray n }:=by
 rcases h with h | ⟨its,n,k,z,r⟩
 ·obtain ⟨z,its,n,r,e⟩:=h.ok I.hok
  exact ⟨z,its,n,r,r.length,e⟩
 ·exact ⟨aF (Nat.le_of_eq (r.length.trans bY)) z,its.toList,n,r,r.length,by rw [Array.toArray_toList]; exact I.kIn _ _ k⟩
noncomputable def Bl (K:PySem.W.Frag):R2:=λx y H Q => ∃ l b xs zs,x = .ref l∧y = .ref b∧RL K H l xs∧RL K H b zs∧xs.length+zs.length≤sizeLine ∧ ∀ p,H p=none→Q (.ref p) (upd H p (.lst (xs++zs)))
theorem zG:OpR X (binaryOp .Add) (Bl X.K):=λpins s σ H x y v u Q I rx ry ⟨l,b,xs,zs,ex,ey,hl,hb,hz,q⟩=>by
 subst ex ey
 cases rx; cases ry
 obtain ⟨z1,i1,n1,r1,k1,g1⟩:=Inv.eE I hl
 obtain ⟨z2,i2,n2,r2,k2,g2⟩:=Inv.eE I hb
 have fits:(i1.toArray.size+i2.toArray.size:Nat)≤sizeLine:=by
  rw [List.size_toArray,List.size_toArray]
  omega
 refine PySem.P.add_list g1 g2 ?_ fits
 rw [show i1.toArray++i2.toArray=(i1++i2).toArray by simp]
 have room:(xs++zs).length≤sizeLine:=by rw [cx]; omega
 exact ⟨V.ref _,_,I.lnew (t':=s.toks) (Vals.append r1 r2) room,rfl,q _ I.fresh⟩
noncomputable def wo (K:PySem.W.Frag):R2:=λx y H Q => ∃ l k xs,x = .ref l∧y = .int k∧RL K H l xs ∧ -1000000≤k∧k≤1000000∧xs.length*k.toNat≤LIM ∧
 ∀ p,H p=none→Q (.ref p) (upd H p (.lst (List.replicate k.toNat xs).flatten))
theorem Po:OpR X (binaryOp .Mult) (wo X.K):=λpins s σ H x y v u Q I rx ry ⟨l,k,xs,ex,ey,hl,lo,hi,hz,q⟩=>by
 subst ex ey
 cases rx
 obtain ⟨tk,rfl⟩:=ry
 obtain ⟨z1,i1,n1,r1,k1,g1⟩:=Inv.eE I hl
 have hz':i1.toArray.size*k.toNat≤LIM:=by rw [List.size_toArray,← k1]; exact hz
 have big:(LIM:Nat)≤(2 ^ 63-1) / 8:=by decide
 have f1 : ¬ i1.toArray.size*k.toNat>(2 ^ 63-1) / 8:=Nat.not_lt.mpr (aF hz' big)
 have f2 : ¬ (!Builtin.List.listFitsIndex k)=true:=by rw [fitsIndex_both (by omega) (by omega)]; decide
 have f3 : ¬ Builtin.List.listTooLong (i1.toArray.size*k.toNat)=true:=by rw [notLongL (aF hz' b9)]; decide
 have g0 : ∀ m:Nat,(List.replicate m i1.toArray).foldl (λp q=>p++q) #[]=(List.replicate m i1).flatten.toArray:=λm=>(foldl_rep i1 m []).trans (by rw [mi])
 have f4:(List.replicate (if i1.toArray.isEmpty=true then 0 else k.toNat) i1.toArray).foldl (λp q=>p++q) #[]=(List.replicate k.toNat i1).flatten.toArray:=by
  rw [g0]
  cases i1 with
  | nil=>simp
  | cons c cs=>rw [if_neg (by simp)]
 have room:(List.replicate k.toNat xs).flatten.length≤sizeLine:=by rw [PyProof.Rows.lm_len_rep_flat,Nat.mul_comm]; exact aF hz b9
 refine wpAny_binaryOp_repeat_ref (T:= "list") (U:= "int") (by decide) ⟨_,g1,rfl⟩ (λz=>typeIs_int z k tk) noFill_list_mul F.fills_int_mul F.slot_int_rmul repeat_list F.slot_int_index.lookup ?_
 refine call_meets F.slot_int_rmul (typeIs_int s k tk) F.entry_int_rmul (F.args_int_rmul_2 _ _) (int___rmul___int_list k tk l i1.toArray n1) ⟨g1,rfl,⟨_,g1,rfl⟩,?_⟩
 refine call_meets F.slot_list_mul ⟨_,g1,rfl⟩ F.entry_list_mul (F.args_list_mul_2 _ _) (AutoListH.list___mul___list_int_3 l i1.toArray n1 k tk f2 f1 f3) ⟨g1,?_⟩
 rw [f4]
 exact ⟨V.ref _,_,I.lnew (t':=s.toks) (Vals.rep r1 k.toNat) room,rfl,q _ I.fresh⟩
noncomputable def yQ:R2:=λx y H Q => ∃ z k,x = .str z∧y = .int k∧0≤k∧k≤1000000∧z.length*k.toNat≤LIM∧Q (.str (mk (List.replicate k.toNat (cl z)).flatten)) H
theorem B1 (a:Array Nat) : ∀ (k:Nat) (acc:List Nat),((List.replicate k a).foldl (· ++ ·) acc.toArray)=(acc++(List.replicate k a.toList).flatten).toArray
 | 0,acc=>by simp
 | k+1,acc=>by
  rw [j4,List.foldl_cons,j4,List.flatten_cons,← eP]
  rw [← B1 a k (acc++a.toList)]
  congr 1
  apply Array.ext'
  simp
theorem Ox {z:Str} {k:Int} (h0:0≤k):Txt.mul z k=mk (List.replicate k.toNat (cl z)).flatten:=by
 unfold Txt.mul
 by_cases h1:k<1
 ·have:k=0:=by omega
  subst this
  rfl
 ·rw [if_neg h1]
  by_cases h2:(k==1||z.length==0)=true
  ·rw [if_pos h2]
   rcases Bool.or_eq_true _ _ ▸ h2 with h3 | h3
   ·have:k=1:=by simpa using h3
    subst this
    exact (xm (by simp [mk,cl])).symm
   ·have:cl z=[]:=by
     have e:z.length=0:=by simpa using h3
     rw [ei] at e
     exact List.length_eq_zero_iff.mp e
    apply xm
    rw [this]
    simp [cl,mk]
  ·rw [if_neg h2]
   apply bF
   have:=B1 z.cps k.toNat []
   simpa using this
theorem Gv:OpR X (binaryOp .Mult) yQ:=λpins s σ H x y v u Q I rx ry ⟨z,k,ex,ey,h0,h1,hz,q⟩=>by
 subst ex ey
 obtain ⟨t,rfl⟩:=rx
 obtain ⟨t',rfl⟩:=ry
 refine PySem.SB.mul ⟨by simp; omega,λn1 _ => ?_,λ_ _ => ?_⟩ λt2 k2 => ?_
 ·have hp:0<k:=by omega
  have h3:((z.length:Int))*k≤1000000:=by
   have e:((z.length*k.toNat:Nat):Int)=(z.length:Int)*k:=by rw [Int.natCast_mul,Int.toNat_of_nonneg h0]
   have:((z.length*k.toNat:Nat):Int)≤((LIM:Nat):Int):=Int.ofNat_le.mpr hz
   rw [e] at this
   exact this
  rw [Int.not_lt]
  exact (Int.le_ediv_iff_mul_le hp).mpr (by omega)
 ·show Builtin.Str.tooLong (z.length*k.toNat)=false
  unfold Builtin.Str.tooLong
  simp
  exact aF hz b9
 ·rw [Ox h0]
  exact ⟨V.str _,H,I.tok _,⟨_,rfl⟩,q⟩
noncomputable def w9 (K:PySem.W.Frag):R2:=λx y H Q => ∃ l k,x = .ref l∧y = .int k∧SqT K H l []∧0≤k∧k≤1000∧Q (.ref l) H
theorem GY (l:Addr) (items:Array Value) (n:Nat) (dd:Option Addr) (sl:Array (Option Value)) (x:Int) (u:Tok) (c0:(decide (x < -(2 ^ 63))||decide (x≥2 ^ 63))=false) (c1:(items.isEmpty||x==1)=true) :
  Meets (Builtin.«tuple.__mul__» ⟨[.ref l,.int x u],[]⟩) (λ_ R s=>s.heap.get? l=some { cls:=.type "tuple",dict:=dd,data:=.seq items n,slots:=sl } ∧
   R (.ok (.ret (Value.ref l))) s):=
 .of_wp λprog w A R s h=>by
  obtain ⟨hp,g,d,tk,os⟩:=s
  obtain ⟨hl,h⟩:=h
  have f1:=AutoSeq1.idx_int
  wp_walk using wpAny_loadPart' hl
  repeat (first
   | (refine wpAny_ite_false (cT (by rw [c0]; exact aa)) ?_; wp_walk using wpAny_loadPart' hl)
   | (refine wpAny_ite_true (cb c1) ?_; wp_walk using wpAny_loadPart' hl))
  exact ⟨_,rfl,h⟩
theorem EU:OpR X (binaryOp .Mult) (w9 X.K):=by
 intro pins s σ H x y v u Q I rx ry h
 obtain ⟨l,k,rfl,rfl,hT,h1,h2,q⟩:=h
 cases rx
 obtain ⟨t,rfl⟩:=ry
 obtain ⟨its,r,⟨⟨cls,dd,data,sl⟩,ho,hc,n,hd⟩,hs⟩:=I.tuple hT
 simp only at hc hd
 subst hc hd
 cases r
 have c0:(decide (k < -(2 ^ 63))||decide (k≥2 ^ 63))=false:=by
  rw [cT (by omega),cT (by omega)] <;> rfl
 refine wpAny_binaryOp_repeat_ref (T:= "tuple") (U:= "int") (by decide) ⟨_,ho,rfl⟩ (λs'=>typeIs_int s' k t) noFill_tuple_mul F.fills_int_mul F.slot_int_rmul repeat_tuple F.slot_int_index.lookup
  (call_meets F.slot_int_rmul (typeIs_int s k t) F.entry_int_rmul (F.args_int_rmul_2 _ _) (int_rmul_tuple k t l ([]:List Value).toArray n dd sl)
   ⟨ho,rfl,⟨_,ho,rfl⟩,call_meets F.slot_tuple_mul ⟨_,ho,rfl⟩ F.entry_tuple_mul (F.args_tuple_mul_2 _ _) (GY l ([]:List Value).toArray n dd sl k t c0 (by simp)) ⟨ho,?_⟩⟩)
 exact ⟨.ref l,H,I,rfl,q⟩
noncomputable def yT (K:PySem.W.Frag):Bi→R2
 | .add=>λx y H Q=>(rI0 (λi j => .int (i+j)) x y H Q∨(∃ i j,x = .str i∧y = .str j∧i.length+j.length≤sizeLine∧Q (.str (i++j)) H))∨(Bl K x y H Q∨rCatA K x y H Q)
 | .sub=>rI0 λi j => .int (i-j)
 | .mul=>λx y H Q=>rI CMul (λi j => .int (i*j)) x y H Q∨(wo K x y H Q∨(yQ x y H Q∨(rRepT K x y H Q∨w9 K x y H Q)))
 | .fdiv=>rI CDiv λi j => .int (i / j)
 | .mod=>rI (λ_ j=>0<j) λi j => .int (i%j)
 | .pow=>rI CPow λi j => .int (i ^ j.toNat)
theorem Jy : ∀ b:Bi,OpR X (binaryOp b.op) (yT X.K b)
 | .add=>(op_add.or op_add_str).or (zG.or op_catA)
 | .sub=>op_sub
 | .mul=>op_mul.or (Po.or (Gv.or (op_repT.or EU)))
 | .fdiv=>op_fdiv
 | .mod=>op_mod
 | .pow=>op_pow
end
section
variable {K:PySem.W.Frag}
theorem fU {H:Hp} {O:List Addr} {p:Addr} {vs:List V} {ds:List D} (t:Thr K H O) (hp:H p=none) (hl:vs.length≤LIM) (a:aj K (msk H O) vs ds):Dn K (msk (upd H p (.lst vs)) O) (.ref p) (.list ds):=
 .lst (.inl (.inl (by rw [bc (t.out hp)]; exact aS))) hl (bj (aH (a0 hp).sm) a)
theorem eZ {H:Hp} {O:List Addr} {p:Addr} {vs:List V} {ds:List D} (t:Thr K H O) (hp:H p=none) (hl:vs.length≤LIM) (a:aj K (msk H O) vs ds):Dn K (msk (upd H p (.tup vs)) O) (.ref p) (.tuple ds):=
 .tup (.inl (.inl (by rw [bc (t.out hp)]; exact aS))) hl (bj (aH (a0 hp).sm) a)
theorem aQ {H:Hp} {O:List Addr} {a:Addr} {xs:List V} (h:RL K (msk H O) a xs):RL K H a xs:=Sm.rl dM h
theorem cB {H:Hp} {O:List Addr} {a:Addr} {xs:List V} (h:SqT K (msk H O) a xs):SqT K H a xs:=Sm.jV dM h
theorem Oh {x:Str} {n:Nat} (h:asc x=true):asc (mk (List.replicate n (cl x)).flatten)=true:=jJ h λc hc=>by
 obtain ⟨l,h1,h2⟩:=List.mem_flatten.mp hc
 rw [(List.mem_replicate.mp h1).2] at h2
 exact h2
theorem jO (l:List Nat):(mk l).length=l.length:=by rw [ei,IS]
theorem len_rep {α:Type} (n:Nat) (l:List α):(List.replicate n l).flatten.length=l.length*n:=by
 induction n with
 | zero=>simp
 | succ n ih=>rw [j4,List.flatten_cons,cx,ih,Nat.mul_succ,Nat.add_comm]
theorem D7 (b:Bi):Im2 K (yT K b) (bE b):=by
 intro H O x y dx dy Q t hx hy h
 cases b
 case add =>
  cases hx <;> cases hy <;> first | exact h.elim | skip
  ·exact .inl (.inl ⟨_,_,rfl,rfl,h _ _ (aM _) (.int _)⟩)
  ·rename_i i h1 h2 j h3 h4
   have h:Okk (if i.length+j.length≤LIM then .ok (.str (i++j)) else .bad) _:=h
   by_cases hl:i.length+j.length≤LIM
   ·rw [if_pos hl] at h
    exact .inl (.inr ⟨_,_,rfl,rfl,aF hl b9,h _ _ (aM _) (.str (B6 h1 h3) (by rw [len_app]; exact hl))⟩)
   ·rw [if_neg hl] at h; exact h.elim
  ·rename_i a vs ds h1 h2 h3 b ws es h4 h5 h6
   have h:Okk (if ds.length+es.length≤LIM then .ok (.list (ds++es)) else .bad) _:=h
   by_cases hl:ds.length+es.length≤LIM
   ·rw [if_pos hl] at h
    have hl':vs.length+ws.length≤LIM:=by rw [aK h3,aK h6]; exact hl
    refine .inr (.inl ⟨_,_,_,_,rfl,rfl,aQ h1,aQ h4,aF hl' b9,λp hp => ?_⟩)
    exact h _ _ (a0 hp) (fU t hp (by rw [cx]; exact hl') (fB h3 h6))
   ·rw [if_neg hl] at h; exact h.elim
  ·rename_i a vs ds h1 h2 h3 b ws es h4 h5 h6
   have h:Okk (if ds.length+es.length≤LIM then .ok (.tuple (ds++es)) else .bad) _:=h
   by_cases hl:ds.length+es.length≤LIM
   ·rw [if_pos hl] at h
    have hl':vs.length+ws.length≤LIM:=by rw [aK h3,aK h6]; exact hl
    refine .inr (.inr ⟨_,_,_,_,rfl,rfl,cB h1,cB h4,aF hl' b9,λe => ?_,λ_ e => ?_,λ_ _ p hp => ?_⟩)
    ·subst e
     cases h3
     exact h _ _ (aM _) (.tup h4 h5 h6)
    ·subst e
     cases h6
     rw [fQ] at h
     exact h _ _ (aM _) (.tup h1 h2 h3)
    ·exact h _ _ (a0 hp) (eZ t hp (by rw [cx]; exact hl') (fB h3 h6))
   ·rw [if_neg hl] at h; exact h.elim
 case sub =>
  cases hx <;> cases hy <;> first | exact h.elim | exact ⟨_,_,rfl,rfl,h _ _ (aM _) (.int _)⟩
 case mul =>
  cases hx <;> cases hy <;> first | exact h.elim | skip
  ·rename_i i j
   have h:Okk (if small64 i=true∨small64 j=true then .ok (.int (i*j)) else .bad) _:=h
   by_cases hl:small64 i=true∨small64 j=true
   ·rw [if_pos hl] at h
    exact .inl ⟨_,_,rfl,rfl,hl.imp oh.mp oh.mp,h _ _ (aM _) (.int _)⟩
   ·rw [if_neg hl] at h; exact h.elim
  ·rename_i z h1 h2 k
   have h:Okk (if 0≤k∧k≤1000000∧z.length*k.toNat≤LIM then .ok (.str (mk (List.replicate k.toNat (cl z)).flatten)) else .bad) _:=h
   by_cases hl:0≤k∧k≤1000000∧z.length*k.toNat≤LIM
   ·rw [if_pos hl] at h
    exact .inr (.inr (.inl ⟨_,_,rfl,rfl,hl.1,hl.2.1,hl.2.2,h _ _ (aM _) (.str (Oh h1) (by rw [jO,len_rep,← ei]; exact hl.2.2))⟩))
   ·rw [if_neg hl] at h; exact h.elim
  ·rename_i a vs ds h1 h2 h3 k
   have h:Okk (if -1000000≤k∧k≤1000000∧ds.length*k.toNat≤LIM then .ok (.list (List.replicate k.toNat ds).flatten) else .bad) _:=h
   by_cases hl : -1000000≤k∧k≤1000000∧ds.length*k.toNat≤LIM
   ·rw [if_pos hl] at h
    have hl':vs.length*k.toNat≤LIM:=by rw [aK h3]; exact hl.2.2
    refine .inr (.inl ⟨_,_,_,rfl,rfl,aQ h1,hl.1,hl.2.1,hl',λp hp => ?_⟩)
    exact h _ _ (a0 hp) (fU t hp (by rw [len_rep]; exact hl') (rN h3 _))
   ·rw [if_neg hl] at h; exact h.elim
  ·rename_i a vs ds h1 h2 h3 k
   have h:Okk (if ds.length≤1000∧2≤k∧k≤1000 then .ok (.tuple (List.replicate k.toNat ds).flatten) else .bad) _:=h
   by_cases hl:ds.length≤1000∧2≤k∧k≤1000
   ·rw [if_pos hl] at h
    have hv:vs.length≤1000:=by rw [aK h3]; exact hl.1
    by_cases e:vs=[]
    ·subst e
     cases h3
     have z:(List.replicate k.toNat ([]:List D)).flatten=[]:=by simp
     rw [z] at h
     exact .inr (.inr (.inr (.inr ⟨_,_,rfl,rfl,cB h1,by omega,hl.2.2,h _ _ (aM _) (.tup h1 h2 .nil)⟩)))
    ·refine .inr (.inr (.inr (.inl ⟨_,_,_,rfl,rfl,cB h1,e,hl.2.1,hl.2.2,hv,λp hp => ?_⟩)))
     have:vs.length*k.toNat≤1000*1000:=Nat.mul_le_mul hv (by omega)
     exact h _ _ (a0 hp) (eZ t hp (by rw [len_rep]; exact this) (rN h3 _))
   ·rw [if_neg hl] at h; exact h.elim
 case fdiv =>
  cases hx <;> cases hy <;> first | exact h.elim | skip
  rename_i i j
  have h:Okk (if 0<j∧j<1073741824 then .ok (.int (i / j)) else .bad) _:=h
  by_cases hl:0<j∧j<1073741824
  ·rw [if_pos hl] at h; exact ⟨_,_,rfl,rfl,hl,h _ _ (aM _) (.int _)⟩
  ·rw [if_neg hl] at h; exact h.elim
 case mod =>
  cases hx <;> cases hy <;> first | exact h.elim | skip
  rename_i i j
  have h:Okk (if 0<j then .ok (.int (i%j)) else .bad) _:=h
  by_cases hl:0<j
  ·rw [if_pos hl] at h; exact ⟨_,_,rfl,rfl,hl,h _ _ (aM _) (.int _)⟩
  ·rw [if_neg hl] at h; exact h.elim
 case pow =>
  cases hx <;> cases hy <;> first | exact h.elim | skip
  rename_i i j
  have h:Okk (if 0≤j∧j≤1000∧small64 i=true then .ok (.int (i ^ j.toNat)) else .bad) _:=h
  by_cases hl:0≤j∧j≤1000∧small64 i=true
  ·rw [if_pos hl] at h
   have:=oh.mp hl.2.2
   exact ⟨_,_,rfl,rfl,⟨hl.1,by omega,by omega⟩,h _ _ (aM _) (.int _)⟩
  ·rw [if_neg hl] at h; exact h.elim
end
end Pf

set_option maxRecDepth 100000
namespace PySem.SeqAt
open PySem PySem.W PySem.Calls MeetsSeq
section
variable {prog:Program} {w:World} {A:Around} {E:Value→Shared→Prop} {s:Shared}
theorem B_ {a:Addr} {b:Str} {u:Tok} {Q:Value→Shared→Prop} (ta:s.TypeIs (.ref a) "dict") (h:Q .notImplemented s):wpAny (model prog w) A (call (.builtin "dict.__eq__") [.ref a,.str b u]) Q E s:=by
 refine i7 PySem.F.slot_dict_eq ta PySem.F.entry_dict_eq ?_ (PySem.F.args_dict_eq_2 _ _)
 show wpAny _ _ (Builtin.Dict.dictSlotArgs "__eq__" ⟨[.ref a,.str b u],[]⟩ >>= _) _ _ s
 refine af ?_
 unfold Builtin.Dict.dictSlotArgs
 refine af (wpAny_notOrdered_dict ta ?_)
 show wpAny _ _ (pure (Value.ref a,Value.str b u)) _ _ s
 refine ah ?_
 refine af (wpAny_isInstance (T:= "str") (typeIs_str s b u) PySem.F.sub_str_dict ?_)
 simp only [Bool.not_false,if_true]
 exact af (fR (ah ⟨_,rfl,h⟩))
theorem ym (b:Str) (u:Tok) (l:Addr) (es:Array DictEntry) (ep:Nat) (dd:Option Addr) (sl:Array (Option Value)) :
  Meets (Builtin.«str.__eq__» ⟨[.str b u,.ref l],[]⟩) (λ_ R s=>s.heap.get? l=some { cls:=.type "dict",dict:=dd,data:=.dict es ep,slots:=sl }∧R (.ok (.ret .notImplemented)) s):=
 .of_wp λprog w A R s h=>by obtain ⟨hp,g,d,tk,os⟩:=s; obtain ⟨hl,h⟩:=h; wp_walk using wpAny_loadPart' hl,wpAny_load hl; exact ⟨_,rfl,h⟩
theorem E5 {a:Addr} {b:Str} {u:Tok} {Q:Value→Shared→Prop} (ta:s.TypeIs (.ref a) "dict") (h:Q .notImplemented s):wpAny (model prog w) A (call (.builtin "dict.__ne__") [.ref a,.str b u]) Q E s:=by
 refine i7 PySem.F.slot_dict_ne ta PySem.F.entry_dict_ne ?_ (PySem.F.args_dict_ne_2 _ _)
 show wpAny _ _ (Builtin.Dict.dictSlotArgs "__ne__" ⟨[.ref a,.str b u],[]⟩ >>= _) _ _ s
 refine af ?_
 unfold Builtin.Dict.dictSlotArgs
 refine af (wpAny_notOrdered_dict ta ?_)
 show wpAny _ _ (pure (Value.ref a,Value.str b u)) _ _ s
 refine ah ?_
 refine af (wpAny_isInstance (T:= "str") (typeIs_str s b u) PySem.F.sub_str_dict ?_)
 simp only [Bool.not_false,if_true]
 exact af (fR (ah ⟨_,rfl,h⟩))
theorem GV (b:Str) (u:Tok) (l:Addr) (es:Array DictEntry) (ep:Nat) (dd:Option Addr) (sl:Array (Option Value)) :
  Meets (Builtin.«str.__ne__» ⟨[.str b u,.ref l],[]⟩) (λ_ R s=>s.heap.get? l=some { cls:=.type "dict",dict:=dd,data:=.dict es ep,slots:=sl }∧R (.ok (.ret .notImplemented)) s):=
 .of_wp λprog w A R s h=>by obtain ⟨hp,g,d,tk,os⟩:=s; obtain ⟨hl,h⟩:=h; wp_walk using wpAny_loadPart' hl,wpAny_load hl; exact ⟨_,rfl,h⟩
noncomputable def iZ (s:Shared) (l:Addr):Prop:=∃ es ep dd sl,s.heap.get? l=some { cls:=.type "dict",dict:=dd,data:=.dict es ep,slots:=sl }
theorem iZ.of {P:Program} {w:World} {K:Type} [DecidableEq K] {knd:KeyKind P w K} {l:Addr} {vs:List (K × Value)} (h:s.heap.DictOf knd l vs):iZ s l:=by
 obtain ⟨⟨cls,dd,data,sl⟩,es,ep,ho,⟨hc,_,_⟩,hd,_⟩:=h
 simp only at hc hd
 subst hc hd
 exact ⟨es,ep,dd,sl,ho⟩
theorem RcAt.dict_str {l:Addr} (b:Str) (u:Tok) (d:iZ s l) (hu:A.units<cLine):RcAt A s (.ref l) (.str b u) false:=λprog w E Q h =>
 let ⟨es,ep,dd,sl,hl⟩:=d
 rc_eq_decline_or (k:=false) ⟨_,hl,rfl⟩ (typeIs_str s b u) (by decide) PySem.F.sub_str_dict PySem.F.slot_dict_eq PySem.F.slot_str_eq_refl
  (λ_ hq=>B_ ⟨_,hl,rfl⟩ hq)
  (λ_ hq=>call_meets PySem.F.slot_str_eq_refl (typeIs_str s b u) PySem.F.entry_str_eq (PySem.F.args_str_eq_2 _ _) (ym b u l es ep dd sl) ⟨hl,hq⟩)
  (λ_ hq=>wpAny_of_eq (rfl:isSame (.ref l) (.str b u)=pure false) hq) (.inr hu) h
theorem RcAt.str_dict {l:Addr} (b:Str) (u:Tok) (d:iZ s l) (hu:A.units<cLine):RcAt A s (.str b u) (.ref l) false:=λprog w E Q h =>
 let ⟨es,ep,dd,sl,hl⟩:=d
 rc_eq_decline_or (k:=false) (typeIs_str s b u) ⟨_,hl,rfl⟩ (by decide) PySem.F.sub_dict_str PySem.F.slot_str_eq PySem.F.slot_dict_eq_refl
  (λ_ hq=>call_meets PySem.F.slot_str_eq (typeIs_str s b u) PySem.F.entry_str_eq (PySem.F.args_str_eq_2 _ _) (ym b u l es ep dd sl) ⟨hl,hq⟩)
  (λ_ hq=>B_ ⟨_,hl,rfl⟩ hq)
  (λ_ hq=>wpAny_of_eq (rfl:isSame (.str b u) (.ref l)=pure false) hq) (.inr hu) h
theorem RcNeAt.dict_str {l:Addr} (b:Str) (u:Tok) (d:iZ s l) (hu:A.units<cLine):RcNeAt A s (.ref l) (.str b u) true:=λprog w E Q h =>
 let ⟨es,ep,dd,sl,hl⟩:=d
 rc_ne_decline_or (k:=false) ⟨_,hl,rfl⟩ (typeIs_str s b u) (by decide) PySem.F.sub_str_dict PySem.F.slot_dict_ne PySem.F.slot_str_ne_refl
  (λ_ hq=>E5 ⟨_,hl,rfl⟩ hq)
  (λ_ hq=>call_meets PySem.F.slot_str_ne_refl (typeIs_str s b u) PySem.F.entry_str_ne (PySem.F.args_str_ne_2 _ _) (GV b u l es ep dd sl) ⟨hl,hq⟩)
  (λ_ hq=>wpAny_of_eq (rfl:isSame (.ref l) (.str b u)=pure false) hq) (.inr hu) h
theorem EqAt.str_dict {l:Addr} (b:Str) (u:Tok) (d:iZ s l) (hu:A.units<cLine):EqAt A s (.str b u) (.ref l) false:=λprog w E Q h=>by
 unfold eqBool
 refine bA ?_
 refine wpAny_ite_split (λhab=>absurd (eq_of_beq hab) nofun) (λ_ => ?_)
 exact af (RcAt.str_dict b u d hu prog w E _ (wpAny_truthy_bool h))
end
end PySem.SeqAt
namespace Pf
open PySem PySem.Spec PySem.W L2
section
variable {X:Cx}
noncomputable def rDS (k:Bool):R2:=λx y H Q => ∃ a kv t,x = .ref a∧y = .str t∧Rd H a (.dK kv)∧Q (.bl k) H
theorem qK {pins:List (Addr × Obj)} {σ:L2.St} {H:Hp} {s:Shared} {a:Addr} {kv:List (Key × V)} (I:Inv X pins σ H s) (h:Rd H a (.dK kv)):SeqAt.iZ s a:=by
 obtain ⟨_,_,vs,_,d⟩:=dk_rd I.hok h
 exact .of d
theorem GD (hu:X.A.units<cLine):OpR X (compareOp .Eq) (rDS false):=by
 intro pins s σ H x y v u Q I rx ry h
 obtain ⟨a,kv,t,rfl,rfl,ha,q⟩:=h
 cases rx; obtain ⟨tk,rfl⟩:=ry
 refine (SeqAt.RcAt.dict_str _ _ (qK I ha) hu) X.prog X.w _ _ ?_
 exact ⟨.bl false,H,I,rfl,q⟩
theorem M6 (hu:X.A.units<cLine):OpR X (compareOp .NotEq) (rDS true):=by
 intro pins s σ H x y v u Q I rx ry h
 obtain ⟨a,kv,t,rfl,rfl,ha,q⟩:=h
 cases rx; obtain ⟨tk,rfl⟩:=ry
 refine (SeqAt.RcNeAt.dict_str _ _ (qK I ha) hu) X.prog X.w _ _ ?_
 exact ⟨.bl true,H,I,rfl,q⟩
noncomputable def o7 (K:PySem.W.Frag) (k:Bool):R2:=λx y H Q => ∃ a p xs,x = .ref a∧((∃ zs,SqL K H a zs)∨(∃ zs,SqT K H a zs) ∨ ∃ kv,Rd H a (.dK kv))∧y = .ref p∧(SqL K H p xs∨SqT K H p xs)∧(∀ z∈xs,∃ t,z=V.str t)∧Q (.bl k) H
theorem nX {xs:List V} {its:List Value} (r:Vals xs its) (h : ∀ z∈xs,∃ t,z=V.str t) : ∀ w∈its,∃ t u,w=Value.str t u:=by
 induction r with
 | nil=>intro w hw; cases hw
 | cons hv _ ih =>
  intro w hw
  rcases cG.mp hw with rfl | hw
  ·obtain ⟨t,rfl⟩:=h _ bu
   obtain ⟨tk,rfl⟩:=hv
   exact ⟨_,_,rfl⟩
  ·exact ih (λz hz=>h z (aE _ hz)) w hw
theorem mT {pins:List (Addr × Obj)} {σ:L2.St} {H:Hp} {s:Shared} {a:Addr} (I:Inv X pins σ H s) (hu:X.A.in1.units<cLine) (h:(∃ zs,SqL X.K H a zs)∨(∃ zs,SqT X.K H a zs) ∨ ∃ kv,Rd H a (.dK kv)) (t:Str) (u:Tok):SeqAt.EqAt X.A.in1 s (.str t u) (.ref a) false:=by
 rcases h with ⟨zs,h⟩ | ⟨zs,h⟩ | ⟨kv,h⟩
 ·obtain ⟨its,r,pl,hz⟩:=I.list h
  exact SeqAt.EqAt.str_list t u pl.isList hu
 ·obtain ⟨its,r,pl,hz⟩:=I.tuple h
  exact SeqAt.EqAt.str_tuple t u pl hu
 ·exact SeqAt.EqAt.str_dict t u (qK I h) hu
theorem ow {its:List Value}:its.toArray.any (λ_=>false)=false:=by simp
theorem Fc (hu:X.A.in1.units<cLine):OpR X (compareOp .In) (o7 X.K false):=by
 intro pins s σ H x y v u Q I rx ry h
 obtain ⟨a,p,xs,rfl,ha,rfl,hq,hs,q⟩:=h
 cases rx; cases ry
 rcases hq with hq | hq
 ·obtain ⟨its,r,pl,hz⟩:=I.list hq
  refine SeqAt.in_listAt (λ_=>false) pl.isList (λw hw => ?_) ⟨.bl false,H,I,by rw [ow]; rfl,q⟩
  obtain ⟨t,u,rfl⟩:=nX r hs w (by simpa using hw)
  exact mT I hu ha t u
 ·obtain ⟨its,r,pl,hz⟩:=I.tuple hq
  refine SeqAt.in_tupleAt (λ_=>false) pl (λw hw => ?_) ⟨.bl false,H,I,by rw [ow]; rfl,q⟩
  obtain ⟨t,u,rfl⟩:=nX r hs w (by simpa using hw)
  exact mT I hu ha t u
theorem Lj (hu:X.A.in1.units<cLine):OpR X (compareOp .NotIn) (o7 X.K true):=by
 intro pins s σ H x y v u Q I rx ry h
 obtain ⟨a,p,xs,rfl,ha,rfl,hq,hs,q⟩:=h
 cases rx; cases ry
 rcases hq with hq | hq
 ·obtain ⟨its,r,pl,hz⟩:=I.list hq
  refine SeqAt.notIn_listAt (λ_=>false) pl.isList (λw hw => ?_) ⟨.bl true,H,I,by rw [ow]; rfl,q⟩
  obtain ⟨t,u,rfl⟩:=nX r hs w (by simpa using hw)
  exact mT I hu ha t u
 ·obtain ⟨its,r,pl,hz⟩:=I.tuple hq
  refine SeqAt.notIn_tupleAt (λ_=>false) pl (λw hw => ?_) ⟨.bl true,H,I,by rw [ow]; rfl,q⟩
  obtain ⟨t,u,rfl⟩:=nX r hs w (by simpa using hw)
  exact mT I hu ha t u
end
end Pf

set_option maxRecDepth 100000
namespace Pf
open PySem PySem.Spec L2
inductive Cm where
 | eq | ne | lt | le | gt | ge | is | isn | inn | nin
 deriving DecidableEq
noncomputable def Cm.op:Cm→CmpOp
 | .eq => .Eq | .ne => .NotEq | .lt => .Lt | .le => .LtE | .gt => .Gt | .ge => .GtE | .is => .Is | .isn => .IsNot | .inn => .In | .nin => .NotIn
noncomputable def eu:D→Bool
 | .none | .bool _ | .int _ | .str _=>true
 | _=>false
noncomputable def isD:D→D→Rs Bool
 | x,.none => .ok (match x with | .none=>true | _=>false)
 | .bool a,.bool b => .ok (decide (a=b))
 | _,_ => .bad
noncomputable def hasSub (x y:Str):Bool:=!(Builtin.Str.occurrences y x 0 y.length 1).isEmpty
noncomputable def gQ:D→Bool
 | .str _=>true
 | _=>false
noncomputable def gb:D→Bool
 | .list _ | .tuple _=>true
 | .dict ds => !dQ ds
 | _=>false
noncomputable def inD:D→D→Rs Bool
 | .str x,.str y => .ok (hasSub x y)
 | x,.list ys=>if plain x=true∧plain (.list ys)=true then .ok (ys.any λz=>PyData.eqv z x) else if gb x=true∧ys.all gQ=true then .ok false else .bad
 | x,.tuple ys=>if eu x=true∧ys.all eu=true then .ok (ys.any λz=>PyData.eqv z x) else if gb x=true∧ys.all gQ=true then .ok false else .bad
 | _,_ => .bad
noncomputable def emD:D→Bool
 | .dict []=>true
 | _=>false
noncomputable def tw:D→D→Rs Bool
 | .tuple xs,.tuple [] => .ok xs.isEmpty
 | .list (_::_),.list [] => .ok false
 | .list xs,.list ys=>if xs.length=ys.length∧xs.all emD=true∧ys.all emD=true then .ok true else .bad
 | .dict ds,.str _=>if dQ ds=true then .bad else .ok false
 | _,_ => .bad
noncomputable def eqD (x y:D):Rs Bool:=if plain x=true∧plain y=true then .ok (PyData.eqv x y) else tw x y
noncomputable def ltD:D→D→Rs Bool
 | .int i,.int j => .ok (decide (i<j))
 | .str x,.str y => .ok (decide (cl x<cl y))
 | _,_ => .bad
noncomputable def leD:D→D→Rs Bool
 | .int i,.int j => .ok (decide (i≤j))
 | .str x,.str y => .ok (!decide (cl y<cl x))
 | _,_ => .bad
noncomputable def gtD:D→D→Rs Bool
 | .int i,.int j => .ok (decide (j<i))
 | _,_ => .bad
noncomputable def geD:D→D→Rs Bool
 | .int i,.int j => .ok (decide (j≤i))
 | _,_ => .bad
noncomputable def aW:Cm→D→D→Rs Bool
 | .eq,x,y=>eqD x y
 | .ne,x,y=>(eqD x y).bind λb => .ok (!b)
 | .lt,x,y=>ltD x y
 | .le,x,y=>leD x y
 | .gt,x,y=>gtD x y
 | .ge,x,y=>geD x y
 | .is,x,y=>isD x y
 | .isn,x,y=>(isD x y).bind λb => .ok (!b)
 | .inn,x,y=>inD x y
 | .nin,x,y=>(inD x y).bind λb => .ok (!b)
noncomputable def toB (r:Rs Bool):Rs D:=r.bind λb => .ok (.bool b)
noncomputable def i3 (c:Cm) (x y:D):Rs D:=toB (aW c x y)
section
variable {X:Cx}
noncomputable def Lo:R2:=λx y H Q => ∃ i j,x = .str i∧y = .str j∧Q (.bl (!decide (j.cps.toList<i.cps.toList))) H
noncomputable def Gn:R2:=λx y H Q => ∃ i j,x = .str i∧y = .str j∧Q (.bl (decide (i.cps.toList<j.cps.toList))) H
noncomputable def F6:R2:=λx y H Q => ∃ i j,x = .str i∧y = .str j∧Q (.bl (!(Builtin.Str.occurrences j i 0 j.length 1).isEmpty)) H
noncomputable def Ln:R2:=λx y H Q => ∃ i j,x = .str i∧y = .str j∧Q (.bl (!(!(Builtin.Str.occurrences j i 0 j.length 1).isEmpty))) H
noncomputable def ML:R2:=λx y H Q=>y = .non∧Q (.bl (decide (x = .non))) H
noncomputable def F7:R2:=λx y H Q=>y = .non∧Q (.bl (!decide (x = .non))) H
noncomputable def zU (K:PySem.W.Frag):R2:=λx y H Q => ∃ a b xs,x = .ref a∧y = .ref b∧SqT K H a xs∧SqT K H b []∧Q (.bl xs.isEmpty) H
noncomputable def B3 (K:PySem.W.Frag):R2:=λx y H Q => ∃ a b xs,x = .ref a∧y = .ref b∧SqT K H a xs∧SqT K H b []∧Q (.bl (!xs.isEmpty)) H
theorem vA {xs:List V} {its:List Value} (r:Vals xs its) {e:Nat→Bool}:((List.range (min its.toArray.size (#[]:Array Value).size)).all e&&its.toArray.size==(#[]:Array Value).size)=xs.isEmpty:=by
 cases r <;> simp
theorem OY (hu:X.A.units<cLine):OpR X (compareOp .Eq) (zU X.K):=by
 intro pins s σ H x y v u Q I rx ry h
 obtain ⟨a,b,xs,ex,ey,ha,hb,q⟩:=h
 subst ex ey
 cases rx; cases ry
 obtain ⟨i1,r1,t1,z1⟩:=I.tuple ha
 obtain ⟨i2,r2,t2,z2⟩:=I.tuple hb
 cases r2
 refine (SeqAt.RcAt.tuples (e:=λ_=>true) t1 t2 hu λj h1 h2=>absurd h2 (e_ j)) X.prog X.w _ _ ⟨.bl xs.isEmpty,H,I,?_,q⟩
 rw [vA r1]
 rfl
theorem Ja (hu:X.A.units<cLine):OpR X (compareOp .NotEq) (B3 X.K):=by
 intro pins s σ H x y v u Q I rx ry h
 obtain ⟨a,b,xs,ex,ey,ha,hb,q⟩:=h
 subst ex ey
 cases rx; cases ry
 obtain ⟨i1,r1,t1,z1⟩:=I.tuple ha
 obtain ⟨i2,r2,t2,z2⟩:=I.tuple hb
 cases r2
 refine (SeqAt.RcNeAt.tuples (e:=λ_=>true) t1 t2 hu λj h1 h2=>absurd h2 (e_ j)) X.prog X.w _ _ ⟨.bl (!xs.isEmpty),H,I,?_,q⟩
 rw [vA r1]
 rfl
noncomputable def oq (K:PySem.W.Frag) (k:Bool):R2:=λx y H Q => ∃ a b z xs,x = .ref a∧y = .ref b∧SqL K H a (z::xs)∧SqL K H b []∧Q (.bl k) H
theorem NN (hu:X.A.units<cLine):OpR X (compareOp .Eq) (oq X.K false):=by
 intro pins s σ H x y v u Q I rx ry h
 obtain ⟨a,b,z,xs,ex,ey,ha,hb,q⟩:=h
 subst ex ey
 cases rx; cases ry
 obtain ⟨i1,r1,t1,z1⟩:=I.list ha
 obtain ⟨i2,r2,t2,z2⟩:=I.list hb
 cases r2
 cases r1
 exact (SeqAt.RcAt.lists_lengths t1.isList t2.isList (by simp) hu) X.prog X.w _ _ ⟨.bl false,H,I,rfl,q⟩
theorem Mv (hu:X.A.units<cLine):OpR X (compareOp .NotEq) (oq X.K true):=by
 intro pins s σ H x y v u Q I rx ry h
 obtain ⟨a,b,z,xs,ex,ey,ha,hb,q⟩:=h
 subst ex ey
 cases rx; cases ry
 obtain ⟨i1,r1,t1,z1⟩:=I.list ha
 obtain ⟨i2,r2,t2,z2⟩:=I.list hb
 cases r2
 cases r1
 exact (SeqAt.RcNeAt.lists_lengths t1.isList t2.isList (by simp) hu) X.prog X.w _ _ ⟨.bl true,H,I,rfl,q⟩
noncomputable def EmV (H:Hp) (v:V):Prop:=∃ a,v = .ref a∧Rd H a (.dK [])
theorem qN {H:Hp} {K:PySem.W.Frag} : ∀ {vs:List V} {ds:List D},aj K H vs ds→ds.all emD=true → ∀ v∈vs,EmV H v
 | _,_,.nil,_,v,hv=>by cases hv
 | _,d::_,.cons h t,e,v,hv=>by
  simp only [gW,ai] at e
  rcases cG.mp hv with rfl | hv
  ·cases h with
   | @dct a ob kv ds h1 h2 h3 =>
    cases h3 with
    | nil=>exact ⟨_,rfl,.inr ⟨_,h1⟩⟩
    | cons _ _=>cases e.1
   | ins _ _ _=>cases e.1
   | exc _ _ _ _=>cases e.1
   | _=>cases e.1
  ·exact qN t e.2 v hv
theorem yu {P P':Program} {w w':World} {h:Heap} {a:Addr} {vs:List (Key × Value)} (e:vs=[]) (x:h.DictOf (mixKind P w) a vs):h.DictOf (mixKind P' w') a []:=by
 subst e
 obtain ⟨o,es,ep,h1,h2,h3,h4,h5,h6⟩:=x
 have z:es = #[]:=by
  have l:=h5.length
  apply Array.eq_empty_of_size_eq_zero
  rw [← bY]
  simpa using l
 subst z
 exact ⟨o,#[],ep,h1,h2,h3,λe he=>absurd he (by simp),.nil,h6⟩
noncomputable def nZ (K:PySem.W.Frag) (k:Bool):R2:=λx y H Q => ∃ a b xs ys,x = .ref a∧y = .ref b∧SqL K H a xs∧SqL K H b ys∧xs.length=ys.length∧(∀ v∈xs,EmV H v)∧(∀ v∈ys,EmV H v)∧Q (.bl k) H
theorem Ak {pins:List (Addr × Obj)} {σ:L2.St} {H:Hp} {s:Shared} (hu:X.A.units+3<cLine) (I:Inv X pins σ H s) {v u:V} {x y:Value} (hv:EmV H v) (hw:EmV H u) (rx:RelV v x) (ry:RelV u y):SeqAt.EqAt X.A.in1 s x y true:=by
 obtain ⟨a,rfl,h1⟩:=hv
 obtain ⟨b,rfl,h2⟩:=hw
 cases rx; cases ry
 by_cases e:a=b
 ·subst e
  exact SeqAt.EqAt.same _
 ·obtain ⟨_,sa,vs,kv,da⟩:=(show ObjOk X.prog X.w H s.heap a (.dK []) from h1.ok I.hok)
  obtain ⟨_,sb,ws,kw,db⟩:=(show ObjOk X.prog X.w H s.heap b (.dK []) from h2.ok I.hok)
  cases kv
  cases kw
  exact SeqAt.EqAt.of_refs e λprog w E Q hq=>PySem.W.rcP_dicts (knd:=mixKind prog w) (r:=true) sa sb (yu rfl da) (yu rfl db) (by rw [X.A.in1_units]; omega) (λ_ => .nil) E Q hq
theorem lh : ∀ {vs:List V} {us:List Value},Vals vs us → ∀ (j:Nat) (h:j<us.length),∃ v∈vs,RelV v us[j]
 | _,_,.cons r _,0,_=>⟨_,bu,r⟩
 | _,_,.cons _ t,j+1,h=>by
  obtain ⟨v,m,r⟩:=lh t j (by simpa using h)
  exact ⟨v,aE _ m,r⟩
theorem range_all (n:Nat):(List.range n).all (λ_=>true)=true:=by simp
theorem OG (hu:X.A.units+3<cLine):OpR X (compareOp .Eq) (nZ X.K true):=by
 intro pins s σ H x y v u Q I rx ry h
 obtain ⟨a,b,xs,ys,ex,ey,ha,hb,hl,ex2,ey2,q⟩:=h
 subst ex ey
 cases rx; cases ry
 obtain ⟨i1,r1,t1,z1⟩:=I.list ha
 obtain ⟨i2,r2,t2,z2⟩:=I.list hb
 refine (SeqAt.RcAt.lists (e:=λ_=>true) t1.isList t2.isList (by have a1:=r1.length; have a2:=r2.length; simp; omega) (by omega) λj h1 h2 => ?_) X.prog X.w _ _ ⟨.bl true,H,I,by rw [range_all]; rfl,q⟩
 obtain ⟨v1,m1,q1⟩:=lh r1 j (by simpa using h1)
 obtain ⟨v2,m2,q2⟩:=lh r2 j (by simpa using h2)
 exact Ak hu I (ex2 _ m1) (ey2 _ m2) (by simpa using q1) (by simpa using q2)
theorem J4 (hu:X.A.units+3<cLine):OpR X (compareOp .NotEq) (nZ X.K false):=by
 intro pins s σ H x y v u Q I rx ry h
 obtain ⟨a,b,xs,ys,ex,ey,ha,hb,hl,ex2,ey2,q⟩:=h
 subst ex ey
 cases rx; cases ry
 obtain ⟨i1,r1,t1,z1⟩:=I.list ha
 obtain ⟨i2,r2,t2,z2⟩:=I.list hb
 refine (SeqAt.RcNeAt.lists (e:=λ_=>true) t1.isList t2.isList (by have a1:=r1.length; have a2:=r2.length; simp; omega) (by omega) λj h1 h2 => ?_) X.prog X.w _ _ ⟨.bl false,H,I,by rw [range_all]; rfl,q⟩
 obtain ⟨v1,m1,q1⟩:=lh r1 j (by simpa using h1)
 obtain ⟨v2,m2,q2⟩:=lh r2 j (by simpa using h2)
 exact Ak hu I (ex2 _ m1) (ey2 _ m2) (by simpa using q1) (by simpa using q2)
noncomputable def mW (K:PySem.W.Frag):Cm→R2
 | .eq=>λx y H Q=>rEqD K x y H Q∨(zU K x y H Q∨(oq K false x y H Q∨(rDS false x y H Q∨nZ K true x y H Q)))
 | .ne=>λx y H Q=>rNeD K x y H Q∨(B3 K x y H Q∨(oq K true x y H Q∨(rDS true x y H Q∨nZ K false x y H Q)))
 | .lt=>λx y H Q=>rI0 (λi j => .bl (decide (i<j))) x y H Q∨Gn x y H Q
 | .le=>λx y H Q=>rI0 (λi j => .bl (decide (i≤j))) x y H Q∨Lo x y H Q
 | .gt=>rI0 λi j => .bl (decide (j<i))
 | .ge=>rI0 λi j => .bl (decide (j≤i))
 | .is=>λx y H Q=>ML x y H Q∨rIsB x y H Q
 | .isn=>λx y H Q=>F7 x y H Q∨rNotB x y H Q
 | .inn=>λx y H Q=>F6 x y H Q∨(rInD K x y H Q∨(rIn K false x y H Q∨o7 K false x y H Q))
 | .nin=>λx y H Q=>Ln x y H Q∨(rNotInD K x y H Q∨(rIn K true x y H Q∨o7 K true x y H Q))
theorem jY (hu:X.A.units+65<cLine) : ∀ c:Cm,OpR X (compareOp c.op) (mW X.K c)
 | .eq=>(op_eqD (by omega)).or ((OY (by omega)).or ((NN (by omega)).or ((GD (by omega)).or (OG (by omega)))))
 | .ne=>(op_neD (by omega)).or ((Ja (by omega)).or ((Mv (by omega)).or ((M6 (by omega)).or (J4 (by omega)))))
 | .lt=>op_lt.or op_lt_str
 | .le=>op_le.or op_le_str
 | .gt=>op_gt
 | .ge=>op_ge
 | .is=>op_isN.or op_isBl
 | .isn=>op_notN.or op_notBl
 | .inn=>op_in_str.or ((op_inD hu).or (op_in_seq.or (Fc (by show X.A.units+1<cLine; omega))))
 | .nin=>op_notIn_str.or ((op_notInD hu).or (op_notIn_seq.or (Lj (by show X.A.units+1<cLine; omega))))
end
section
variable {K:PySem.W.Frag}
theorem M4 {H:Hp} {v:V} {d:D} (h:Dn K H v d):decide (v = .non)=(match d with | .none=>true | _=>false):=by
 cases h <;> simp
theorem Af {H:Hp} {v:V} {d:D} (h:Dn K H v d) (f:eu d=true):flatV v=true:=by
 cases h <;> first | rfl | cases f
theorem Ec {H:Hp} {v w:V} {d e:D} (h:Dn K H v d) (g:Dn K H w e) (f:eu d=true) (f':eu e=true):eqV v w=PyData.eqv d e:=by
 cases h <;> cases g <;> first | cases f; done | cases f'; done | simp [eqV,PyData.eqv]
theorem xx {H:Hp} : ∀ {vs:List V} {ds:List D},aj K H vs ds→ds.all eu=true→vs.all flatV=true
 | _,_,.nil,_=>rfl
 | _,_,.cons h t,f=>by
  simp only [gW,ai] at f ⊢
  exact ⟨Af h f.1,xx t f.2⟩
theorem Ab {H:Hp} {x:V} {dx:D} (hx:Dn K H x dx) (fx:eu dx=true) : ∀ {vs:List V} {ds:List D},aj K H vs ds→ds.all eu=true→inV x vs=ds.any λz=>PyData.eqv z dx
 | _,_,.nil,_=>rfl
 | _,_,.cons h t,f=>by
  simp only [gW,ai] at f
  show (eqV _ x||inV x _)=_
  rw [j9,Ec h hx f.1 fx,Ab hx fx t f.2]
noncomputable def dY {α:Type} (r:Rs α):Prop:=match r with
 | .ex _=>False
 | _=>True
theorem dY.elim {α:Type} {r:Rs α} {e:EX} (n:dY r) (h:r = .ex e):False:=by subst h; exact n
theorem vM (x y:D):dY (eqD x y):=by
 unfold eqD
 split
 ·trivial
 ·unfold tw
  split <;> first | trivial | (split <;> trivial)
theorem wR (x y:D):dY (isD x y):=by unfold isD; split <;> trivial
theorem AN (x y:D):dY (inD x y):=by
 unfold inD
 split
 ·trivial
 ·split
  ·trivial
  ·split <;> trivial
 ·split
  ·trivial
  ·split <;> trivial
 ·trivial
theorem ui {r:Rs Bool} (h:dY r):dY (r.bind λb => .ok (!b)):=by
 cases r <;> first | trivial | exact h
theorem Ly (x y:D):dY (ltD x y):=by unfold ltD; split <;> trivial
theorem Mm (x y:D):dY (leD x y):=by unfold leD; split <;> trivial
theorem Il (x y:D):dY (gtD x y):=by unfold gtD; split <;> trivial
theorem NA (x y:D):dY (geD x y):=by unfold geD; split <;> trivial
theorem IZ : ∀ (c:Cm) (x y:D),dY (aW c x y)
 | .eq,x,y=>vM x y
 | .ne,x,y=>ui (vM x y)
 | .is,x,y=>wR x y
 | .isn,x,y=>ui (wR x y)
 | .inn,x,y=>AN x y
 | .nin,x,y=>ui (AN x y)
 | .lt,x,y=>Ly x y
 | .le,x,y=>Mm x y
 | .gt,x,y=>Il x y
 | .ge,x,y=>NA x y
theorem yn {c:Cm} {x y:D} {e:EX} (h:aW c x y = .ex e):False:=(IZ c x y).elim h
theorem HD {r:Rs Bool} {P:D→Prop} (h:Okk (toB r) P) : ∃ b,r = .ok b∧P (.bool b):=by
 cases r with
 | ok b=>exact ⟨b,rfl,h⟩
 | ex e=>exact h.elim
 | bad=>exact h.elim
theorem ae {α β:Type} {r:Rs α} {f:α→Rs β} {b:β} (h:r.bind f = .ok b) : ∃ a,r = .ok a∧f a = .ok b:=by
 cases r with
 | ok a=>exact ⟨a,rfl,h⟩
 | ex e=>cases h
 | bad=>cases h
theorem wc {H:Hp} {v:V} {d:D} (h:Dn K H v d) (r:gb d=true) : ∃ a,v = .ref a∧((∃ zs,SqL K H a zs)∨(∃ zs,SqT K H a zs) ∨ ∃ kv,Rd H a (.dK kv)):=by
 cases h with
 | lst h1 h2 h3=>exact ⟨_,rfl,.inl ⟨_,h1.sq⟩⟩
 | tup h1 h2 h3=>exact ⟨_,rfl,.inr (.inl ⟨_,h1⟩)⟩
 | dct h1 h2 h3=>exact ⟨_,rfl,.inr (.inr ⟨_,.inr ⟨_,h1⟩⟩)⟩
 | _=>cases r
theorem rO {H:Hp} : ∀ {vs:List V} {ds:List D},aj K H vs ds→ds.all gQ=true → ∀ z∈vs,∃ t,z=V.str t
 | _,_,.nil,_,z,hz=>by cases hz
 | _,_,.cons h t,f,z,hz=>by
  simp only [gW,ai] at f
  rcases cG.mp hz with rfl | hz
  ·cases h <;> first | exact ⟨_,rfl⟩ | (cases f.1)
  ·exact rO t f.2 z hz
theorem BP {H:Hp} {x y:V} {dx dy:D} {b:Bool} (hx:Dn K H x dx) (hy:Dn K H y dy) (e:inD dx dy = .ok b) :
  (∃ i j,x = .str i∧y = .str j∧(!(Builtin.Str.occurrences j i 0 j.length 1).isEmpty)=b) ∨
  (∃ d ds,Dp K H x d∧Dp K H y (.list ds)∧SeqAt.shaped d=true∧SeqAt.shaped (.list ds)=true∧(ds.any λz=>PyData.eqv z d)=b) ∨
  (∃ p xs,y = .ref p∧(SqL K H p xs∨SqT K H p xs)∧flatV x=true∧xs.all flatV=true∧inV x xs=b) ∨
  (∃ a p xs,x = .ref a∧((∃ zs,SqL K H a zs)∨(∃ zs,SqT K H a zs) ∨ ∃ kv,Rd H a (.dK kv))∧y = .ref p∧(SqL K H p xs∨SqT K H p xs)∧(∀ z∈xs,∃ t,z=V.str t)∧false=b):=by
 have lst : ∀ ys,dy = .list ys→inD dx (.list ys)=(if plain dx=true∧plain (.list ys)=true then .ok (ys.any λz=>PyData.eqv z dx) else if gb dx=true∧ys.all gQ=true then .ok false else .bad):=λys _=>by cases dx <;> rfl
 have tup : ∀ ys,dy = .tuple ys→inD dx (.tuple ys)=(if eu dx=true∧ys.all eu=true then .ok (ys.any λz=>PyData.eqv z dx) else if gb dx=true∧ys.all gQ=true then .ok false else .bad):=λys _=>by cases dx <;> rfl
 cases dy with
 | str y' =>
  cases dx <;> first | cases e; done | skip
  cases hx; cases hy
  cases e
  exact .inl ⟨_,_,rfl,rfl,rfl⟩
 | list ys =>
  rw [lst ys rfl] at e
  by_cases h:plain dx=true∧plain (.list ys)=true
  ·rw [if_pos h] at e
   cases e
   obtain ⟨h1,h2⟩:=jB hx h.1
   obtain ⟨h3,h4⟩:=jB hy h.2
   exact .inr (.inl ⟨_,_,h1,h3,h2,h4,rfl⟩)
  ·rw [if_neg h] at e
   by_cases g:gb dx=true∧ys.all gQ=true
   ·rw [if_pos g] at e
    cases e
    obtain ⟨a,rfl,ha⟩:=wc hx g.1
    cases hy with
    | lst g1 g2 g3=>exact .inr (.inr (.inr ⟨_,_,_,rfl,ha,rfl,.inl g1.sq,rO g3 g.2,rfl⟩))
   ·rw [if_neg g] at e; cases e
 | tuple ys =>
  rw [tup ys rfl] at e
  by_cases h:eu dx=true∧ys.all eu=true
  ·rw [if_pos h] at e
   cases e
   cases hy with
   | tup g1 g2 g3=>exact .inr (.inr (.inl ⟨_,_,rfl,.inr g1,Af hx h.1,xx g3 h.2,Ab hx h.1 g3 h.2⟩))
  ·rw [if_neg h] at e
   by_cases g:gb dx=true∧ys.all gQ=true
   ·rw [if_pos g] at e
    cases e
    obtain ⟨a,rfl,ha⟩:=wc hx g.1
    cases hy with
    | tup g1 g2 g3=>exact .inr (.inr (.inr ⟨_,_,_,rfl,ha,rfl,.inr g1,rO g3 g.2,rfl⟩))
   ·rw [if_neg g] at e; cases e
 | none=>cases dx <;> cases e
 | bool b=>cases dx <;> cases e
 | int i=>cases dx <;> cases e
 | dict d=>cases dx <;> cases e
theorem zg {H:Hp} {x y:V} {dx dy:D} {b:Bool} (hx:Dn K H x dx) (hy:Dn K H y dy) (e:eqD dx dy = .ok b):(Dp K H x dx∧Dp K H y dy∧SeqAt.shaped dx=true∧SeqAt.shaped dy=true)∧PyData.eqv dx dy=b∨(∃ p q xs,x = .ref p∧y = .ref q∧SqT K H p xs∧SqT K H q []∧xs.isEmpty=b)∨(∃ p q z xs,x = .ref p∧y = .ref q∧SqL K H p (z::xs)∧SqL K H q []∧false=b)∨(∃ a kv t,x = .ref a∧y = .str t∧Rd H a (.dK kv)∧false=b)∨(∃ p q xs ys,x = .ref p∧y = .ref q∧SqL K H p xs∧SqL K H q ys∧xs.length=ys.length∧(∀ v∈xs,EmV H v)∧(∀ v∈ys,EmV H v)∧true=b):=by
 unfold eqD at e
 by_cases h:plain dx=true∧plain dy=true
 ·rw [if_pos h] at e
  cases e
  exact .inl ⟨⟨(jB hx h.1).1,(jB hy h.2).1,(jB hx h.1).2,(jB hy h.2).2⟩,rfl⟩
 ·rw [if_neg h] at e
  unfold tw at e
  split at e
  ·cases e
   cases hx with
   | tup h1 h2 h3 =>
    cases hy with
    | tup g1 g2 g3 =>
     cases g3
     refine .inr (.inl ⟨_,_,_,rfl,rfl,h1,g1,?_⟩)
     cases h3 <;> rfl
  ·cases e
   cases hx with
   | lst h1 h2 h3 =>
    cases hy with
    | lst g1 g2 g3 =>
     cases g3
     cases h3
     exact .inr (.inr (.inl ⟨_,_,_,_,rfl,rfl,h1.sq,g1.sq,rfl⟩))
  ·split at e
   ·rename_i cc
    cases e
    cases hx with
    | lst h1 h2 h3 =>
     cases hy with
     | lst g1 g2 g3=>exact .inr (.inr (.inr (.inr ⟨_,_,_,_,rfl,rfl,h1.sq,g1.sq,(aK h3).trans (cc.1.trans (aK g3).symm),qN h3 cc.2.1,qN g3 cc.2.2,rfl⟩)))
   ·cases e
  ·split at e
   ·cases e
   ·rename_i ni
    cases e
    cases hx with
    | dct h1 h2 h3 =>
     cases hy
     exact .inr (.inr (.inr (.inl ⟨_,_,_,rfl,rfl,.inr ⟨_,h1⟩,rfl⟩)))
    | ins h1 h2 h3=>exact absurd rfl ni
    | exc h1 h2 h3 h4=>exact absurd rfl ni
  ·cases e
theorem xk {H:Hp} {x y:V} {dx dy:D} {b:Bool} (hx:Dn K H x dx) (hy:Dn K H y dy) (e:isD dx dy = .ok b):(y = .non∧decide (x = .non)=b) ∨ ∃ p q:Bool,x = .bl p∧y = .bl q∧decide (p=q)=b:=by
 cases hy with
 | non =>
  refine .inl ⟨rfl,?_⟩
  rw [M4 hx]
  cases dx <;> cases e <;> rfl
 | bl q =>
  cases hx <;> cases e
  exact .inr ⟨_,_,rfl,rfl,rfl⟩
 | int _=>cases dx <;> cases e
 | str _ _=>cases dx <;> cases e
 | lst _ _ _=>cases dx <;> cases e
 | tup _ _ _=>cases dx <;> cases e
 | dct _ _ _=>cases dx <;> cases e
 | ins _ _ _=>cases dx <;> cases e
 | exc _ _ _ _=>cases dx <;> cases e
theorem om (c:Cm):oA K (mW K c) (i3 c):=by
 intro H x y dx dy Q hx hy h
 obtain ⟨b,e,h⟩:=HD h
 have h:Q (.bl b) H:=h _ _ (aM _) λ_ => .bl b
 cases c
 case eq =>
  rcases zg hx hy e with ⟨⟨h1,h2,h3,h4⟩,rfl⟩ | ⟨p,q,xs,h1,h2,h3,h4,rfl⟩ | ⟨p,q,z,xs,h1,h2,h3,h4,rfl⟩ | ⟨a,kv,t,h1,h2,h3,rfl⟩ | ⟨p,q,xs,ys,h1,h2,h3,h4,h5,h6,h7,rfl⟩
  ·exact .inl ⟨_,_,h1,h2,h3,h4,h⟩
  ·exact .inr (.inl ⟨_,_,_,h1,h2,h3,h4,h⟩)
  ·exact .inr (.inr (.inl ⟨_,_,_,_,h1,h2,h3,h4,h⟩))
  ·exact .inr (.inr (.inr (.inl ⟨_,_,_,h1,h2,h3,h⟩)))
  ·exact .inr (.inr (.inr (.inr ⟨_,_,_,_,h1,h2,h3,h4,h5,h6,h7,h⟩)))
 case ne =>
  obtain ⟨b',e',e2⟩:=ae e
  cases e2
  rcases zg hx hy e' with ⟨⟨h1,h2,h3,h4⟩,rfl⟩ | ⟨p,q,xs,h1,h2,h3,h4,rfl⟩ | ⟨p,q,z,xs,h1,h2,h3,h4,rfl⟩ | ⟨a,kv,t,h1,h2,h3,rfl⟩ | ⟨p,q,xs,ys,h1,h2,h3,h4,h5,h6,h7,rfl⟩
  ·exact .inl ⟨_,_,h1,h2,h3,h4,h⟩
  ·exact .inr (.inl ⟨_,_,_,h1,h2,h3,h4,h⟩)
  ·exact .inr (.inr (.inl ⟨_,_,_,_,h1,h2,h3,h4,h⟩))
  ·exact .inr (.inr (.inr (.inl ⟨_,_,_,h1,h2,h3,h⟩)))
  ·exact .inr (.inr (.inr (.inr ⟨_,_,_,_,h1,h2,h3,h4,h5,h6,h7,h⟩)))
 case lt =>
  cases hx <;> cases hy <;> cases e
  ·exact .inl ⟨_,_,rfl,rfl,h⟩
  ·exact .inr ⟨_,_,rfl,rfl,h⟩
 case le =>
  cases hx <;> cases hy <;> cases e
  ·exact .inl ⟨_,_,rfl,rfl,h⟩
  ·exact .inr ⟨_,_,rfl,rfl,h⟩
 case gt =>
  cases hx <;> cases hy <;> cases e
  exact ⟨_,_,rfl,rfl,h⟩
 case ge =>
  cases hx <;> cases hy <;> cases e
  exact ⟨_,_,rfl,rfl,h⟩
 case is =>
  rcases xk hx hy e with ⟨h1,rfl⟩ | ⟨p,q,h1,h2,rfl⟩
  ·exact .inl ⟨h1,h⟩
  ·exact .inr ⟨_,_,h1,h2,h⟩
 case isn =>
  obtain ⟨b',e',e2⟩:=ae e
  cases e2
  rcases xk hx hy e' with ⟨h1,rfl⟩ | ⟨p,q,h1,h2,rfl⟩
  ·exact .inl ⟨h1,h⟩
  ·exact .inr ⟨_,_,h1,h2,h⟩
 case inn =>
  rcases BP hx hy e with ⟨i,j,h1,h2,rfl⟩ | ⟨d,ds,h1,h2,h3,h4,rfl⟩ | ⟨p,xs,h1,h2,h3,h4,rfl⟩ | ⟨a,p,xs,h1,h2,h3,h4,h5,rfl⟩
  ·exact .inl ⟨_,_,h1,h2,h⟩
  ·exact .inr (.inl ⟨_,_,h1,h2,h3,h4,h⟩)
  ·exact .inr (.inr (.inl ⟨_,_,h1,h2,h3,h4,h⟩))
  ·exact .inr (.inr (.inr ⟨_,_,_,h1,h2,h3,h4,h5,h⟩))
 case nin =>
  obtain ⟨b',e',e2⟩:=ae e
  cases e2
  rcases BP hx hy e' with ⟨i,j,h1,h2,rfl⟩ | ⟨d,ds,h1,h2,h3,h4,rfl⟩ | ⟨p,xs,h1,h2,h3,h4,rfl⟩ | ⟨a,p,xs,h1,h2,h3,h4,h5,rfl⟩
  ·exact .inl ⟨_,_,h1,h2,h⟩
  ·exact .inr (.inl ⟨_,_,h1,h2,h3,h4,h⟩)
  ·exact .inr (.inr (.inl ⟨_,_,h1,h2,h3,h4,h⟩))
  ·exact .inr (.inr (.inr ⟨_,_,_,h1,h2,h3,h4,h5,h⟩))
end
section
variable {X:Cx} {xp:XP} {W:WX} {a b c:Expr} {fa fb fc:Sto→Rs D} {pos:Pos}
noncomputable def fH (o1 o2:Cm) (fa fb fc:Sto→Rs D):Sto→Rs Bool:=λρ=>(fa ρ).bind λx=>(fb ρ).bind λy=>(aW o1 x y).bind λk=>if k=true then (fc ρ).bind λz=>aW o2 y z else .ok false
theorem zd {K:PySem.W.Frag} {mg:Str→Option Value} {o1 o2:Cm} {σ:St} {H:Hp} {Q:VK} (h:rdE K mg xp W (λρ=>toB (fH o1 o2 fa fb fc ρ)) σ H Q) :
  tChain (mW K o1) (mW K o2) (rdL K mg xp W fa) (rdL K mg xp W fb) (rdL K mg xp W fc) σ H Q:=by
 obtain ⟨ρ,O,R,q⟩:=h
 have q:End K mg W O σ H (λd H' => ∀ v,Dn K (msk H' O) v d→Q v H') (((fa ρ).bind λx=>(fb ρ).bind λy=>(aW o1 x y).bind λk=>if k=true then (fc ρ).bind λz=>aW o2 y z else .ok false).bind λb => .ok (.bool b)):=q
 rw [Rs.bind_assoc] at q
 refine ⟨ρ,O,R,q.bind.imp λdx H1 _ s1 q1 vx hx => ?_⟩
 rw [Rs.bind_assoc] at q1
 refine ⟨ρ,O,R.mono s1,q1.bind.imp λdy H2 _ s2 q2 vy hy => ?_⟩
 have hx2:=bf s2.sm hx
 rw [Rs.bind_assoc] at q2
 cases e:aW o1 dx dy with
 | ok k =>
  rw [e] at q2
  have q2:End K mg W O σ H2 (λd H' => ∀ v,Dn K (msk H' O) v d→Q v H') ((if k=true then (fc ρ).bind λz=>aW o2 dy z else .ok false).bind λb => .ok (.bool b)):=q2
  refine om o1 H2 vx vy dx dy _ hx2 hy ?_
  unfold i3 toB
  rw [e]
  intro v H3 s3 hv
  refine ⟨k,(hv H3).isB,?_⟩
  cases k with
  | true =>
   rw [if_pos rfl] at q2 ⊢
   have q3:=q2.grow s3
   rw [Rs.bind_assoc] at q3
   refine ⟨ρ,O,((R.mono s1).mono s2).mono s3,q3.bind.imp λdz H4 _ s4 q4 vz hz => ?_⟩
   refine om o2 H4 vy vz dy dz Q (bf s4.sm (bf s3.sm hy)) hz ?_
   unfold i3 toB
   cases e2:aW o2 dy dz with
   | ok k2=>rw [e2] at q4; exact λv H' s h=>q4 H' s v (h _)
   | ex x=>rw [e2] at q4; exact (yn e2).elim
   | bad=>rw [e2] at q4; exact q4.elim
  | false =>
   rw [if_neg aa] at q2 ⊢
   exact q2 H3 s3 _ (.bl false)
 | ex x=>exact (yn e).elim
 | bad=>rw [e] at q2; exact q2.elim
theorem NP {o1 o2:Cm} (hu:X.A.units+65<cLine) (ha:CL X xp W a fa) (hb:CL X xp W b fb) (hc:CL X xp W c fc) (hm:lastMarks [o1.op,o2.op] [b,c]=false):CE X xp W (.Compare a [o1.op,o2.op] [b,c] pos) (λρ=>toB (fH o1 o2 fa fb fc ρ)):=
 bt (pe_chain (jY hu o1) (jY hu o2) ha hb hc hm) λ_ _ _ h=>zd h
theorem IX {o1 o2:Cm} (hu:X.A.units+65<cLine) (ha:CL X xp W a fa) (hb:CL X xp W b fb) (hc:CL X xp W c fc) (hm:lastMarks [o1.op,o2.op] [b,c]=false):CT X xp W (.Compare a [o1.op,o2.op] [b,c] pos) (fH o1 o2 fa fb fc):=
 jM (pt_chain (jY hu o1) (jY hu o2) ha hb hc hm) λσ H Q ⟨ρ,O,R,q⟩=>zd ⟨ρ,O,R,by
  have q:End X.K X.mg W O σ H (λb H'=>Q b H') (fH o1 o2 fa fb fc ρ):=q
  show End X.K X.mg W O σ H _ (toB (fH o1 o2 fa fb fc ρ))
  unfold toB
  generalize fH o1 o2 fa fb fc ρ=r at q
  cases r with
  | ok b=>exact λH' s v hv=>⟨b,hv.isB,q H' s⟩
  | ex x=>exact q
  | bad=>exact q⟩
end
end Pf

set_option maxRecDepth 100000
namespace Pf
open PySem PySem.Spec PyProof.Rows L2
structure Rm (k:Nat) (A:Around):Prop where
 room:Room k A
 un:A.units+16*k+210<cLine
theorem Rm.mono {j k:Nat} {A:Around} (r:Rm k A) (h:j≤k):Rm j A:=⟨r.room.mono h,by have:=r.un; omega⟩
theorem Rm.of {k:Nat} {A:Around} (r:Room (k+1) A) (env:Env):Rm k (A.deeper env):=⟨r.deeper env,by have:=r.un; show A.units+3+16*k+210<_; omega⟩
noncomputable def bR (A:Around):Prop:=A.guards=some []
structure FnG (P:Program) (w:World) (K:PySem.W.Frag) (mg:Str→Option Value) (base:Heap) (k:Nat) (f:Addr) (fd:FuncData) (ps:List Str) (sp:Sp):Prop where
 len : ∀ vs H Q E,sp vs H Q E→vs.length=ps.length
 run : ∀ (A:Around) (outer:List Env) (s:Shared) (H:Hp) (args:Args) (us:List Value) (vs:List V) (Q:VK) (E:XK),Room k A→bR A→Env0 P w K mg base A outer s H→BindsTo s fd args (ps.zip us)→Vals vs us→sp vs H Q E →
  codeAny (model P w) A (.call (.ref f) args) (CR (L2.CX P w) outer P w H s Q E) s
section
variable {P:Program} {w:World} {K:PySem.W.Frag} {mg:Str→Option Value} {base:Heap}
theorem MQ {x qual:Str} {st:Stmt} {f:Addr} {fd:FuncData} {N ps:List Str} {k:Nat} {sp:Sp} (F:Fun K x qual st f fd) (S:FnScope N ps (defScope st)) (len : ∀ vs H Q E,sp vs H Q E→vs.length=ps.length)
  (body : ∀ (cdv:Value) (A:Around) (outer:List Env) (s:Shared) (H:Hp) (vs:List V) (Q:VK) (E:XK),Rm k (A.deeper (envOfC qual (defScope st) s.heap.objs.size f cdv))→bR A→sp vs H Q E →
   ∃ t,PSs (cxOf (L2.CX P w) P w K mg base N qual (defScope st) f cdv A outer s H E) (defBody st) t∧t { nx:=λ_ H'=>Q .non H',rt:=Q } (start N vs) H):FnG P w K mg base (k+1) f fd ps sp:=by
 obtain ⟨oc,od,kV,doc,pm,an,cdv,ct,osl,rfl,look,code⟩:=F.ex
 constructor
 ·exact len
 intro A outer s H args us vs Q E room nore ent binds rel wish
 have nargs:=len vs H Q E wish
 have inK:K.In s.heap:=ent.mod.kin.keeps λb o z=>(ent.bs b o z).1
 have free:s.heap.NoLimit:=ent.mod.nolimit.keeps λb o z=>(ent.bs b o z).1
 have kinds : ∀ y∈ps.zip us,(defScope st).names.lookup y.1=some .local∨((defScope st).names.lookup y.1=some .cell∧((cellsFrom (s.heap.objs.size+1) (defScope st).names []).lookup y.1).isSome=true):=by
  rintro ⟨nm,val⟩ hy
  rcases S.par nm (List.of_mem_zip hy).1 with isl | isc
  ·exact Or.inl isl
  ·exact Or.inr ⟨isc,PySem.W.cellsFrom_some _ _ _ (Or.inl isc)⟩
 apply codeAny_call_function room.depth (inK _ _ look) rfl S.co S.gen rfl (PySem.W.codeRec_of inK code)
 apply binds
 refine wpAny_newFunctionEnv_cells S.kind kinds ?_
 rintro env rfl s1 inside
 refine ⟨free.keeps inside.toInCall.keep,codeAny_func ?_⟩
 obtain ⟨t,der,goal⟩:=body cdv A outer s H vs Q E (.of room _) nore wish
 have inv0:=inv_start (CX:=L2.CX P w) (P:=P) (w:=w) (K:=K) (mg:=mg) (base:=base) (E:=E) S room.hd ent nargs rel inside
 refine wpAny_mono (der.run [] s1 (start N vs) H _ inv0 goal) ?_ λ_ _ z=>z
 have close : ∀ {σ':L2.St} {H':Hp} {v:V} {u:Value} {s':Shared},Inv (cxOf (L2.CX P w) P w K mg base N qual (defScope st) f cdv A outer s H E) [] σ' H' s'→RelV v u→Q v H'→L2.CE outer P w H s Q u s':=
  λ{σ' H' v u s'} J r z=>⟨v,H',J.os,J.bare,J.base,J.hok,r,z⟩
 intro fl s' out
 match fl,out with
 | .ret u,⟨v,σ',H',J,r,z⟩=>exact close J r z
 | .next,⟨σ',H',J,z⟩=>exact close (v:=V.non) (u:=Value.none) J rfl z
 | .brk,⟨_,_,_,z⟩=>exact z.elim
 | .cont,⟨_,_,_,z⟩=>exact z.elim
end
section
variable {X:Cx} {k:Nat} {f:Addr} {fd:FuncData} {ps:List Str} {sp:Sp} {dvs:List V} {ds:List Value} {E:L2.St→XK} {x:Str} {p pos:Pos} {e:Expr} {es:List Expr} {t:TA}
theorem By {pins:List (Addr × Obj)} {σ:L2.St} {H:Hp} {s:Shared} {Q:VK} {us:List Value} {vs:List V} (F:FnG X.prog X.w X.K X.mg X.base k f fd ps sp) (room:Room k X.A) (nore:bR X.A) (hb:Binds X.K fd ps ds) (hd:Vals dvs ds) (hx:PassesAt (L2.CX X.prog X.w) X σ (E σ))
  (I:Inv X pins σ H s) (r:Vals vs us) (wish:sp (vs++dvs) H Q (E σ)):wpAny (model X.prog X.w) X.A (call (.ref f) us) (EP X pins σ Q) X.xe s:=by
 have all:Vals (vs++dvs) (us++ds):=Vals.append r hd
 have nargs:(us++ds).length=ps.length:=(all.length.symm).trans (F.len _ _ _ _ wish)
 have runs:=F.run X.A X.stack s H ⟨us,[]⟩ (us++ds) (vs++dvs) Q (E σ) room nore I.env0 (hb s us I.kIn nargs) all wish
 apply eQ
 refine dV runs λres s' out => ?_
 match res,out with
 | .error e,z=>exact hx pins H s e s' I z
 | .ok (.ret u),z=>exact I.after z
 | .ok .next,z=>exact z.elim
 | .ok .brk,z=>exact z.elim
 | .ok .cont,z=>exact z.elim
theorem EW (F:FnG X.prog X.w X.K X.mg X.base k f fd ps sp) (room:Room k X.A) (nore:bR X.A) (hg:Gl X x) (hm:X.mg x=some (.ref f)) (hk:PySem.W.keepIn X.K (.ref f)=true) (hb:Binds X.K fd ps ds) (hd:Vals dvs ds) (hx : ∀ σ,PassesAt (L2.CX X.prog X.w) X σ (E σ))
  (ha:L2.PA X (e::es) t) (hdb:(x==("__debug__" : Str))=false) (he:starEach (e::es) X.env=(false,eval e X.env)::starEach es X.env) (hpl:(backTo pos (starEach es X.env)).any (·.1)=false) :
  PE X (.Call (.Name x p) (e::es) [] pos) (tCallSD sp dvs E t):=
 ⟨λpins s σ H Q I wish=>j_ (ld_glob I hg hm (PySem.W.callWith_K (h₀:=X.base) I.ok.mod.kin hk
  (thn (ha.run pos pins s σ H _ I wish) λus s1 ⟨vs,H1,I1,r,z⟩=>⟨I1.kIn,By F room nore hb hd (hx σ) I1 r z⟩) he hpl) hdb)⟩
theorem HE (F:FnG X.prog X.w X.K X.mg X.base k f fd ps sp) (room:Room k X.A) (nore:bR X.A) (hg:Gl X x) (hm:X.mg x=some (.ref f)) (hk:PySem.W.keepIn X.K (.ref f)=true) (hb:Binds X.K fd ps ds) (hd:Vals dvs ds) (hx : ∀ σ,PassesAt (L2.CX X.prog X.w) X σ (E σ))
  (hdb:(x==("__debug__" : Str))=false):PE X (.Call (.Name x p) [] [] pos) (tCallSD sp dvs E tNil):=
 ⟨λpins s σ H Q I wish=>j_ (ld_glob I hg hm (PySem.W.callWith_K0 I.kIn hk (By (us:=[]) F room nore hb hd (hx σ) I .nil wish)) hdb)⟩
end
end Pf

set_option maxRecDepth 100000
namespace Pf
open PySem PySem.Spec L2
noncomputable def opt {α β:Type} (o:Option α) (f:α→β):Rs β:=match o with
 | some a => .ok (f a)
 | none => .bad
noncomputable def ixD:D→D→Rs D
 | .list xs,.int i=>opt (atI xs i) id
 | .tuple xs,.int i=>opt (atI xs i) id
 | .str x,.int i=>opt (atI (cl x) i) λc => .str (mk [c])
 | _,_ => .bad
theorem jR {α:Type} {o:Option α} {f:α→D} {P:D→Prop} (h:Okk (opt o f) P) : ∃ a,o=some a∧P (f a):=by
 cases o with
 | some a=>exact ⟨a,rfl,h⟩
 | none=>exact h.elim
section
variable {K:PySem.W.Frag}
theorem yY {α:Type} {xs:List α} {i:Int} {v:α} (h:atI xs i=some v) : ∃ j,ixN xs.length i=some j∧xs[j]? = some v:=by
 unfold atI at h
 cases e:ixN xs.length i with
 | none=>rw [e] at h; cases h
 | some j=>rw [e] at h; exact ⟨j,rfl,h⟩
theorem AH {H:Hp} {vs:List V} {ds:List D} {i:Int} {d:D} (h:aj K H vs ds) (e:atI ds i=some d) : ∃ v,atI vs i=some v∧Dn K H v d:=by
 obtain ⟨j,h1,h2⟩:=yY e
 obtain ⟨v,h3,h4⟩:=ua h h2
 refine ⟨v,?_,h4⟩
 unfold atI
 rw [aK h,h1]
 exact h3
theorem OH {α:Type} {xs:List α} {i:Int} {v:α} (h:atI xs i=some v):v∈xs:=let ⟨_,_,h2⟩:=yY h; eA h2
theorem zP {x:Str} {c:Nat} (h:asc x=true) (m:c∈cl x):asc (mk [c])=true:=jJ h λd hd=>by
 rw [c7] at hd
 rw [hd]; exact m
theorem len_one (c:Nat):(mk [c]).length≤LIM:=by rw [jO]; show 1≤LIM; decide
theorem OT:Im2 K (rIx K) ixD:=by
 intro H O x y dx dy Q t hx hy h
 cases hx <;> cases hy <;> first | exact h.elim | skip
 ·rename_i z h1 h2 i
  obtain ⟨c,e,h⟩:=jR h
  exact .inr (.inr ⟨_,_,c,rfl,rfl,aF h2 b9,e,h _ _ (aM _) (.str (zP h1 (OH e)) (len_one c))⟩)
 ·rename_i a vs ds h1 h2 h3 i
  obtain ⟨d,e,h⟩:=jR h
  obtain ⟨v,g1,g2⟩:=AH h3 e
  exact .inl ⟨_,_,_,v,rfl,rfl,(aQ h1).sq,g1,h _ _ (aM _) g2⟩
 ·rename_i a vs ds h1 h2 h3 i
  obtain ⟨d,e,h⟩:=jR h
  obtain ⟨v,g1,g2⟩:=AH h3 e
  exact .inr (.inl ⟨_,_,_,v,rfl,rfl,cB h1,g1,h _ _ (aM _) g2⟩)
end
noncomputable def jI:Expr→Bool
 | .Slice .. => false
 | _=>true
theorem Bb {b:Expr} (h:jI b=true):PlainIx b:=λo i=>by cases b <;> first | rfl | cases h
section
variable {X:Cx} {xp:XP} {W:WX} {a b:Expr} {fa fb:Sto→Rs D} {pos:Pos}
theorem O5 (ha:CE X xp W a fa) (hb:CE X xp W b fb) (hs:jI b=true):CE X xp W (.Subscript a b pos) (λρ=>(fa ρ).bind λx=>(fb ρ).bind λy=>pur (ixD x y)):=
 bt (pe_ix ix_seq ha hb (Bb hs)) λ_ _ _ h=>rd2 OT h
noncomputable def slD (x:D) (lo hi:Option Int):Rs D:=match x with
 | .list xs => .ok (.list (cut xs lo hi))
 | .tuple xs => .ok (.tuple (cut xs lo hi))
 | .str x => .ok (.str (mk (cut (cl x) lo hi)))
 | _ => .bad
noncomputable def rdO (K:PySem.W.Frag) (mg:Str→Option Value) (xp:XP) (W:WX) (f:Sto→Rs (Option Int)):TO:=λσ H Q => ∃ ρ O,Rel K xp σ H ρ O∧End K mg W O σ H (λo H'=>Q o H') (f ρ)
noncomputable abbrev CO (X:Cx) (xp:XP) (W:WX) (e:Option Expr) (f:Sto→Rs (Option Int)):Prop:=PO X e (rdO X.K X.mg xp W f)
theorem A3 {e:Option Expr} {t t':TO} (h:PO X e t) (k : ∀ σ H Q,t' σ H Q→t σ H Q):PO X e t':=⟨λpins s σ H Q I q=>h.run pins s σ H Q I (k σ H Q q)⟩
theorem LG:CO X xp W none (λ_ => .ok none):=A3 po_none λσ H Q ⟨ρ,O,R,q⟩=>q.ok
noncomputable def asI:D→Rs (Option Int)
 | .int i => .ok (some i)
 | _ => .bad
theorem KG (h:CE X xp W a fa):CO X xp W (some a) (λρ=>(fa ρ).bind asI):=A3 (po_some h) λσ H Q ⟨ρ,O,R,q⟩=>⟨ρ,O,R,(End.bind q).imp λd H' _ s k v hv=>by
 cases hv <;> first | exact k.elim | exact ⟨_,rfl,k.ok⟩⟩
noncomputable def rSl (K:PySem.W.Frag):V→Option Int→Option Int→Hp→VK→Prop:=λx lo hi H Q=>rSlL K x lo hi H Q∨(rSlA K x lo hi H Q∨rSlS x lo hi H Q)
theorem IF:SlR X (rSl X.K):=sl_list.or (sl_tupA.or sl_str)
theorem Od (z:Str) (lo hi:Option Int):cutS z lo hi=mk (cut (cl z) lo hi):=by
 unfold cutS cut
 rw [ei]
theorem rQ {K:PySem.W.Frag} {H:Hp} {vs:List V} {ds:List D} (h:aj K H vs ds) (lo hi:Option Int):aj K H (cutV vs lo hi) (cut ds lo hi):=by
 unfold cutV cut
 rw [aK h]
 exact yN _ (A1 _ h)
theorem M3 {xs:List V} {lo hi:Option Int} (h:HT.sIx xs.length 0 lo=0∧HT.sIx xs.length xs.length hi=xs.length):cutV xs lo hi=xs:=by
 unfold cutV
 rw [h.1,h.2,List.drop_zero,Nat.sub_zero,List.take_length]
theorem DX {K:PySem.W.Frag} (H:Hp) (O:List Addr) (l u:Option Int) (vx:V) (dx:D) (Q:VK) (t:Thr K H O) (hx:Dn K (msk H O) vx dx) (h:Okk (slD dx l u) λd => ∀ v H',Same H H'→Dn K (msk H' O) v d→Q v H'):rSl K vx l u H Q:=by
 cases hx <;> first | exact h.elim | skip
 ·rename_i z h1 h2
  refine .inr (.inr ⟨_,rfl,aF h2 b9,?_⟩)
  rw [Od]
  exact h _ _ (aM _) (.str (jJ h1 λc hc=>Eb hc) (by rw [jO]; exact aF (HS _ _ _) (by rw [← ei]; exact h2)))
 ·rename_i b vs ds h1 h2 h3
  exact .inl ⟨_,_,rfl,(aQ h1).sq,λp hp=>h _ _ (a0 hp) (fU t hp (aF (cutV_length _ _ _) h2) (rQ h3 l u))⟩
 ·rename_i b vs ds h1 h2 h3
  refine .inr (.inl ⟨_,_,rfl,cB h1,λe => ?_,λ_ p hp=>h _ _ (a0 hp) (eZ t hp (aF (cutV_length _ _ _) h2) (rQ h3 l u))⟩)
  have:=rQ h3 l u
  rw [M3 e] at this
  exact h _ _ (aM _) (.tup h1 h2 this)
variable {lo hi:Option Expr} {fl fh:Sto→Rs (Option Int)} {p2:Pos}
noncomputable def slF (fa:Sto→Rs D) (fl fh:Sto→Rs (Option Int)):Sto→Rs D:=λρ=>(fa ρ).bind λx=>(fl ρ).bind λl=>(fh ρ).bind λu=>pur (slD x l u)
theorem Gm (ha:CE X xp W a fa) (hl:CO X xp W lo fl) (hh:CO X xp W hi fh):CE X xp W (.Subscript a (.Slice lo hi none p2) pos) (slF fa fl fh):=
 bt (pe_slice IF ha hl hh) λσ H Q ⟨ρ,O,R,q⟩=>⟨ρ,O,R,(End.bind q).imp λdx H1 _ s1 q1 vx hx=>⟨ρ,O,R.mono s1,(End.bind q1).imp λl H2 _ s2 q2=>⟨ρ,O,(R.mono s1).mono s2,(End.bind q2).imp λu H3 _ s3 q3=>by
  exact DX H3 O l u vx dx Q (((R.mono s1).mono s2).mono s3).thr (bf (aH s3.sm) (bf (aH s2.sm) hx)) ((jL q3).imp λd k v H' s h=>k H' s v h)⟩⟩⟩
end
noncomputable def ImC (K:PySem.W.Frag) (r:List V→Hp→VK→Prop) (g:List D→Rs D):Prop:=∀ (H:Hp) (O:List Addr) (xs:List V) (ds:List D) (Q:VK),Thr K H O→aj K (msk H O) xs ds →
 Okk (g ds) (λd => ∀ v H',Same H H'→Dn K (msk H' O) v d→Q v H')→r xs H Q
noncomputable def AX (K:PySem.W.Frag) (r:List V→Hp→VK→Prop) (g:D→Rs D):Prop:=∀ (H:Hp) (x:V) (d:D) (Q:VK),Dn K H x d→Okk (g d) (λd => ∀ v H',Same H H'→(∀ F,Dn K F v d)→Q v H')→r [x] H Q
section
variable {X:Cx} {xp:XP} {W:WX} {e:Expr} {es:List Expr} {fs:Sto→Rs (List D)} {fa:Sto→Rs D} {r:List V→Hp→VK→Prop} {g:List D→Rs D} {g1:D→Rs D} {x:Str} {id T:String} {p pos:Pos}
theorem BH {K:PySem.W.Frag} {mg:Str→Option Value} (im:ImC K r g) {σ:L2.St} {H:Hp} {Q:VK} (h:rdE K mg xp W (λρ=>(fs ρ).bind λds=>pur (g ds)) σ H Q):tCB r (rdA K mg xp W fs) σ H Q:=by
 obtain ⟨ρ,O,R,q⟩:=h
 exact ⟨ρ,O,R,(End.bind q).imp λds H1 _ s1 q1 vs hv=>im H1 O vs ds Q (R.mono s1).thr hv ((jL q1).imp λd k v H' s h=>k H' s v h)⟩
theorem Kb (hc:CallR X (.builtin id) r) (im:ImC X.K r g) (hg:Gl X x) (hm:X.mg x=none) (hv:bootBuiltins x=some (.builtin id)) (ha:CA X xp W (e::es) fs) (hn:x ≠ "__name__") (hdb:(x==("__debug__" : Str))=false)
  (he:starEach (e::es) X.env=(false,eval e X.env)::starEach es X.env) (hpl:(backTo pos (starEach es X.env)).any (·.1)=false):CE X xp W (.Call (.Name x p) (e::es) [] pos) (λρ=>(fs ρ).bind λds=>pur (g ds)):=
 bt (pe_callB hc hg hm hv ha hn hdb he hpl) λ_ _ _ h=>BH im h
theorem Pq (hc:CallR X (.type T) r) (im:ImC X.K r g) (hg:Gl X x) (hm:X.mg x=none) (hv:bootBuiltins x=some (.type T)) (ha:CA X xp W (e::es) fs) (hn:x ≠ "__name__") (hdb:(x==("__debug__" : Str))=false)
  (he:starEach (e::es) X.env=(false,eval e X.env)::starEach es X.env) (hpl:(backTo pos (starEach es X.env)).any (·.1)=false):CE X xp W (.Call (.Name x p) (e::es) [] pos) (λρ=>(fs ρ).bind λds=>pur (g ds)):=
 bt (pe_callTy hc hg hm hv ha hn hdb he hpl) λ_ _ _ h=>BH im h
theorem Hq (hc:CallR X (.builtin id) r) (im:AX X.K r g1) (hg:Gl X x) (hm:X.mg x=none) (hv:bootBuiltins x=some (.builtin id)) (ha:CL X xp W e fa) (hn:x ≠ "__name__") (hdb:(x==("__debug__" : Str))=false)
  (he:starEach [e] X.env=(false,eval e X.env)::starEach [] X.env) (hpl:(backTo pos (starEach [] X.env)).any (·.1)=false):CE X xp W (.Call (.Name x p) [e] [] pos) (λρ=>(fa ρ).bind λd=>pur (g1 d)):=
 bt (pe_callB hc hg hm hv (bG ha cu he) hn hdb he hpl) λσ H Q ⟨ρ,O,R,q⟩ =>
  ⟨ρ,O,R,(End.bind q).imp λd H1 _ s1 q1 v hv=>im H1 v d Q hv ((jL q1).imp λd k v H' s h=>k H' s v (h _))⟩
end
end Pf

set_option maxRecDepth 100000
namespace Pf
open PySem PySem.Spec L2
section
variable {X:Cx} {pins:List (Addr × Obj)} {σ:L2.St} {H:Hp} {s:Shared}
noncomputable def RK (X:Cx) (h:Heap) (u:Value) (d:D):Prop:=∃ as bs,Reads h u d as∧ReadAtMost h d.depth bs∧ReprK X.prog X.w bs h d.depth u d.shown
noncomputable def RKs (X:Cx) (h:Heap) (us:List Value) (ds:List D):Prop:=∃ as bs,ReadsAll h us ds as∧ReadAtMost h (PyData.depthAll ds) bs∧ReprAllK X.prog X.w bs h (PyData.depthAll ds) us (PyData.shownAll ds)
theorem t4 {h:Heap}:RKs X h [] []:=⟨[],[],.nil,(λ_ h=>nomatch h),by simp only [PyData.shownAll]; exact .nil⟩
theorem tY {h:Heap} {u:Value} {us:List Value} {d:D} {ds:List D} (x:RK X h u d) (y:RKs X h us ds):RKs X h (u::us) (d::ds):=by
 obtain ⟨as,bs,r1,m1,k1⟩:=x
 obtain ⟨as',bs',r2,m2,k2⟩:=y
 have l1:d.depth≤PyData.depthAll (d::ds):=by simp only [PyData.depthAll]; exact Nat.le_max_left _ _
 have l2:PyData.depthAll ds≤PyData.depthAll (d::ds):=by simp only [PyData.depthAll]; exact Nat.le_max_right _ _
 refine ⟨_,bs++bs',.cons r1 r2,(m1.mono l1).append (m2.mono l2),?_⟩
 simp only [PyData.shownAll]
 exact .cons ((k1.more λb hb=>dh _ hb).level_le l1) (k2.more_le (λb hb=>dW _ hb) l2)
mutual
theorem BR (I:Inv X pins σ H s) : ∀ (d:D) (v:V) (u:Value),Dn X.K H v d→RelV v u→d.showable=true→d.shown.length≤sizeLine→RK X s.heap u d
 | .none,_,_,h,r,_,_=>by
  cases h
  cases r
  exact ⟨_,[],Reads.none,(λ_ h=>nomatch h),by simp only [PyData.shown]; exact .of_is ReprIs.none _ _ _⟩
 | .bool b,_,_,h,r,_,_=>by
  cases h
  cases r
  exact ⟨_,[],Reads.bool b,(λ_ h=>nomatch h),by simp only [PyData.shown]; exact .of_is (ReprIs.bool b) _ _ _⟩
 | .int i,_,_,h,r,sh,_=>by
  cases h
  obtain ⟨t,rfl⟩:=r
  exact ⟨_,[],Reads.int i t,(λ_ h=>nomatch h),by simp only [PyData.shown]; exact .of_is (ReprIs.int t (by simpa [PyData.showable] using sh)) _ _ _⟩
 | .str x,_,_,h,r,_,z=>by
  cases h
  obtain ⟨t,rfl⟩:=r
  exact ⟨_,[],Reads.str x t,(λ_ h=>nomatch h),by simp only [PyData.shown]; exact .of_is (ReprIs.str x t (by simpa only [PyData.shown] using z)) _ _ _⟩
 | .list ds,_,_,h,r,sh,z=>by
  cases h with
  | lst hs _ ha =>
   cases r
   obtain ⟨its,rv,⟨o,n,ho,hc,_,hd⟩,_⟩:=I.list hs.sq
   have z':(listText (PyData.shownAll ds)).length≤sizeLine:=by simpa only [PyData.shown] using z
   obtain ⟨as,bs,hr,hb,hk⟩:=lX I ds _ its ha rv (by simpa [PyData.showable] using sh) (λt ht=>aF (listText_mem_le ht) z')
   have rd:=Reads.list ho hc hd hr
   have hna:=not_mem_of_deeper rd (by simp only [PyData.depth]; omega) hb
   refine ⟨_,_,rd,ReadAtMost.cons rd (by simp only [PyData.depth]; omega) hb,?_⟩
   simp only [PyData.depth,PyData.shown]
   cases its with
   | nil =>
    cases hr
    simp only [PyData.shownAll,listText_nil]
    exact ReprK.listEmpty ho hc hd
   | cons y ys=>exact ReprK.list ho hc hd hna (by simpa using hk.length_eq) (λi y e=>hk.item i y (by simpa using e))
 | .tuple ds,_,_,h,r,sh,z=>by
  cases h with
  | tup hs _ ha =>
   cases r
   obtain ⟨its,rv,⟨o,ho,hc,n,hd⟩,_⟩:=I.tuple hs
   have z':(tupleText (PyData.shownAll ds)).length≤sizeLine:=by simpa only [PyData.shown] using z
   obtain ⟨as,bs,hr,hb,hk⟩:=lX I ds _ its ha rv (by simpa [PyData.showable] using sh) (λt ht=>aF (tupleText_mem_le ht) z')
   have rd:=Reads.tuple ho hc hd hr
   have hna:=not_mem_of_deeper rd (by simp only [PyData.depth]; omega) hb
   refine ⟨_,_,rd,ReadAtMost.cons rd (by simp only [PyData.depth]; omega) hb,?_⟩
   simp only [PyData.depth,PyData.shown]
   exact ReprK.tuple ho hc hd hna hk
 | .dict ds,_,_,h,r,sh,z=>by
  cases h with
  | dct hs _ ha =>
   cases r
   obtain ⟨_,hsm,vs,rel,dd⟩:=dk_rd I.hok (.inr ⟨_,hs⟩)
   obtain ⟨o,es,ep,ho,hx,hdt,_,prs,_⟩:=dd
   have z':(dictText (PyData.shownKv ds)).length≤sizeLine:=by simpa only [PyData.shown] using z
   obtain ⟨sh1,sh2⟩:=PyData.showableKv_split ds (by simpa [PyData.showable] using sh)
   obtain ⟨⟨as1,b1,r1,m1,k1⟩,as2,b2,r2,m2,k2⟩:=s_ I ds _ vs es.toList ha rel prs sh1 sh2
    (λt ht=>let ⟨p,hp,hl⟩:=PyData.shownKv_key_le ds t ht; aF hl (aF (dictText_mem_le hp) z'))
    (λt ht=>let ⟨p,hp,hl⟩:=PyData.shownKv_val_le ds t ht; aF hl (aF (dictText_mem_le hp) z'))
   have rd:=Reads.dict ho hx.1 hdt r1 r2
   have hb:=(m1.mono (PyData.depthAll_keys_le ds)).append (m2.mono (PyData.depthAll_vals_le ds))
   have hna:=not_mem_of_deeper rd (by simp only [PyData.depth]; omega) hb
   refine ⟨_,_,rd,ReadAtMost.cons rd (by simp only [PyData.depth]; omega) hb,?_⟩
   simp only [PyData.depth,PyData.shown,PyData.shownKv_eq]
   exact ReprK.dict ho hx.1 hdt hsm hna (ReprEntriesK.of_two es.toList _ _
    (k1.more_le (λb hb=>dh _ hb) (PyData.depthAll_keys_le ds)) (k2.more_le (λb hb=>dW _ hb) (PyData.depthAll_vals_le ds)))
  | ins _ _ _=>exact absurd sh (rD _ _)
  | exc _ _ _ _=>exact absurd sh (qo _ _)
theorem lX (I:Inv X pins σ H s) : ∀ (ds:List D) (vs:List V) (us:List Value),aj X.K H vs ds→Vals vs us→PyData.showableAll ds=true→(∀ t∈PyData.shownAll ds,t.length≤sizeLine)→RKs X s.heap us ds
 | [],_,_,h,r,_,_=>by
  cases h
  cases r
  exact t4
 | d::ds,_,_,h,r,sh,z=>by
  cases h with
  | cons h1 h2 =>
   cases r with
   | cons r1 r2 =>
    have sh':d.showable=true∧PyData.showableAll ds=true:=by simpa [PyData.showableAll] using sh
    exact tY (BR I d _ _ h1 r1 sh'.1 (z _ (by simp only [PyData.shownAll]; exact bu ..))) (lX I ds _ _ h2 r2 sh'.2 λt ht=>z t (by simp only [PyData.shownAll]; exact aE _ ht))
theorem s_ (I:Inv X pins σ H s) : ∀ (ds:List (D × D)) (kvs:List (Key × V)) (vs:List (Key × Value)) (es:List DictEntry),bH X.K H kvs ds→KV kvs vs→Pairs (mixKind X.prog X.w) es vs →
  PyData.showableAll (ds.map (·.1))=true→PyData.showableAll (ds.map (·.2))=true→(∀ t∈PyData.shownAll (ds.map (·.1)),t.length≤sizeLine)→(∀ t∈PyData.shownAll (ds.map (·.2)),t.length≤sizeLine) →
  RKs X s.heap (es.map (·.key)) (ds.map (·.1))∧RKs X s.heap (es.map (·.val)) (ds.map (·.2))
 | [],_,_,_,h,r,p,_,_,_,_=>by
  cases h
  cases r
  cases p
  exact ⟨t4,t4⟩
 | (c,d)::ds,_,_,_,h,r,p,sh1,sh2,z1,z2=>by
  cases h with
  | cons h1 h2 =>
   cases r with
   | cons r1 r2 =>
    cases p with
    | cons p1 p2 p3 =>
     rename_i k v kvs q vs en es
     have sh1':(keyD k).showable=true∧PyData.showableAll (ds.map (·.1))=true:=by simpa [PyData.showableAll] using sh1
     have sh2':d.showable=true∧PyData.showableAll (ds.map (·.2))=true:=by simpa [PyData.showableAll] using sh2
     have z1':(keyD k).shown.length≤sizeLine:=z1 _ (by simp only [aI,PyData.shownAll]; exact bu ..)
     have x:=BR I d _ _ h1 r1.2 sh2'.1 (z2 _ (by simp only [aI,PyData.shownAll]; exact bu ..))
     obtain ⟨y1,y2⟩:=s_ I ds _ _ _ h2 r2 p3 sh1'.2 sh2'.2 (λt ht=>z1 t (by simp only [aI,PyData.shownAll]; exact aE _ ht)) (λt ht=>z2 t (by simp only [aI,PyData.shownAll]; exact aE _ ht))
     have kr:RK X s.heap en.key (keyD k):=by
      have p1:keyIs q.1 en.key=true:=p1
      rw [← r1.1] at p1
      rcases keyIs_shape p1 with ⟨i,t,e1,e2⟩ | ⟨x,t,e1,e2⟩
      ·have e1:k=Sum.inl i:=e1
       subst e1
       rw [e2]
       exact ⟨_,[],Reads.int i t,(λ_ h=>nomatch h),(by
        show ReprK _ _ _ _ _ _ (PyData.int i).shown
        simp only [PyData.shown]
        exact .of_is (ReprIs.int t (by simpa [keyD,PyData.showable] using sh1'.1)) _ _ _)⟩
      ·have e1:k=Sum.inr x:=e1
       subst e1
       rw [e2]
       exact ⟨_,[],Reads.str x t,(λ_ h=>nomatch h),(by
        show ReprK _ _ _ _ _ _ (PyData.str x).shown
        simp only [PyData.shown]
        have z1':(PyData.str x).shown.length≤sizeLine:=z1'
        exact .of_is (ReprIs.str x t (by simpa only [PyData.shown] using z1')) _ _ _)⟩
     exact ⟨tY kr y1,tY (show RK X s.heap en.val d by rw [p2]; exact x) y2⟩
end
theorem tW (I:Inv X pins σ H s) {a:Addr} {d:D} {A:Around} {E:Value→Shared→Prop} {Q:Value→Shared→Prop} (h:Dn X.K H (.ref a) d) (sh:d.showable=true) (z:d.shown.length≤sizeLine) (hg:A.guards=some []) (hu:A.units+(d.depth+1)<cLine)
  (hQ : ∀ h' u tk,(∀ b o,s.heap.get? b=some o→h'.get? b=some o)→Q (.str d.shown u) { s with heap:=h',toks:=tk }):wpAny (model X.prog X.w) A (call (.builtin "repr") [.ref a]) Q E s:=by
 cases h with
 | lst hs _ ha =>
  rename_i xs ds _
  obtain ⟨its,rv,⟨o,n,ho,hc,_,hd⟩,_⟩:=I.list hs.sq
  have z':(listText (PyData.shownAll ds)).length≤sizeLine:=by simpa only [PyData.shown] using z
  obtain ⟨as,bs,hr,hb,hk⟩:=lX I ds _ its ha rv (by simpa [PyData.showable] using sh) (λt ht=>aF (listText_mem_le ht) z')
  have rd:=Reads.list ho hc hd hr
  have hna:=not_mem_of_deeper rd (by simp only [PyData.depth]; omega) hb
  simp only [PyData.depth] at hu
  simp only [PyData.shown] at hQ
  refine call_repr_slot (by omega) ⟨o,ho,hc⟩ F.slot_list_repr.toG ?_
  cases its with
  | nil =>
   cases hr
   simp only [PyData.shownAll,listText_nil] at hQ
   exact call_list_repr_empty ⟨o,ho,hc⟩ ho hd ⟨_,_,rfl,hQ s.heap _ _ λ_ _ e=>e⟩
  | cons y ys=>exact call_list_reprK ho hc hd hna (by simpa using hk.length_eq) (λi y e=>hk.item i y (by simpa using e)) hg (λb _=>Clear.nil b) (by show A.units+1+(_+1)<cLine; omega) (λ_ _ e=>e) (λh' u tk hk=>⟨_,_,rfl,hQ h' u tk hk⟩) z'
 | tup hs _ ha =>
  rename_i xs ds _
  obtain ⟨its,rv,⟨o,ho,hc,n,hd⟩,_⟩:=I.tuple hs
  have z':(tupleText (PyData.shownAll ds)).length≤sizeLine:=by simpa only [PyData.shown] using z
  obtain ⟨as,bs,hr,hb,hk⟩:=lX I ds _ its ha rv (by simpa [PyData.showable] using sh) (λt ht=>aF (tupleText_mem_le ht) z')
  have rd:=Reads.tuple ho hc hd hr
  have hna:=not_mem_of_deeper rd (by simp only [PyData.depth]; omega) hb
  simp only [PyData.depth] at hu
  simp only [PyData.shown] at hQ
  refine call_repr_slot (by omega) ⟨o,ho,hc⟩ F.slot_tuple_repr ?_
  exact call_tuple_reprK ho hc hd hna hk hg (λb _=>Clear.nil b) (by show A.units+1+(_+1)<cLine; omega) (λ_ _ e=>e) (λh' u tk hk=>⟨_,_,rfl,hQ h' u tk hk⟩) z'
 | dct hs _ ha =>
  rename_i kvs ds _
  obtain ⟨_,hsm,vs,rel,dd⟩:=dk_rd I.hok (.inr ⟨_,hs⟩)
  obtain ⟨o,es,ep,ho,hx,hdt,_,prs,_⟩:=dd
  have z':(dictText (PyData.shownKv ds)).length≤sizeLine:=by simpa only [PyData.shown] using z
  obtain ⟨sh1,sh2⟩:=PyData.showableKv_split ds (by simpa [PyData.showable] using sh)
  obtain ⟨⟨as1,b1,r1,m1,k1⟩,as2,b2,r2,m2,k2⟩:=s_ I ds _ vs es.toList ha rel prs sh1 sh2
   (λt ht=>let ⟨p,hp,hl⟩:=PyData.shownKv_key_le ds t ht; aF hl (aF (dictText_mem_le hp) z'))
   (λt ht=>let ⟨p,hp,hl⟩:=PyData.shownKv_val_le ds t ht; aF hl (aF (dictText_mem_le hp) z'))
  have rd:=Reads.dict ho hx.1 hdt r1 r2
  have hb:=(m1.mono (PyData.depthAll_keys_le ds)).append (m2.mono (PyData.depthAll_vals_le ds))
  have hna:=not_mem_of_deeper rd (by simp only [PyData.depth]; omega) hb
  simp only [PyData.depth] at hu
  simp only [PyData.shown,PyData.shownKv_eq] at hQ
  refine call_repr_slot (by omega) ⟨o,ho,hx.1⟩ F.slot_dict_repr ?_
  exact call_dict_reprK ho hx.1 hdt hsm hna (ReprEntriesK.of_two es.toList _ _
   (k1.more_le (λb hb=>dh _ hb) (PyData.depthAll_keys_le ds)) (k2.more_le (λb hb=>dW _ hb) (PyData.depthAll_vals_le ds))) hg (λb _=>Clear.nil b) (by show A.units+1+(_+1)<cLine; omega) (λ_ _ e=>e) (λh' u tk hk=>⟨_,_,rfl,hQ h' u tk hk⟩) (by rw [← PyData.shownKv_eq]; exact z')
 | ins _ _ _=>exact absurd sh (rD _ _)
 | exc _ _ _ _=>exact absurd sh (qo _ _)
end
end Pf

set_option maxRecDepth 100000
namespace Pf
open PySem PySem.Spec L2
noncomputable def dU (i:Int):Str:=Str.ofString (toString i)
noncomputable def intsOf:List D→Option (List Int)
 | []=>some []
 | .int i::r=>(intsOf r).map (i :: ·)
 | _=>none
noncomputable def boolsOf:List D→Option (List Bool)
 | []=>some []
 | .bool i::r=>(boolsOf r).map (i :: ·)
 | _=>none
noncomputable def strsOf:List D→Option (List Str)
 | []=>some []
 | .str i::r=>(strsOf r).map (i :: ·)
 | _=>none
noncomputable def oN (x y:D):Bool:=!PySem.W.dataLt y x
noncomputable def oj (xs:List D):List D:=ms oN xs
theorem BM (xs:List D):oj xs=xs.mergeSort oN:=BG _ _
noncomputable def oO (xs:List D):Bool:=xs.all λx=>xs.all λy=>PySem.W.alike x y
noncomputable def sortable (xs:List D):Bool:=(xs.all λx=>match x with | .tuple (_::_)=>true | _=>false)||xs.all λx=>match x with | .tuple _=>false | .none=>false | _=>true
noncomputable def LU (d:D):Rs D:=if d.depth≤64∧d.showable=true∧d.shown.length≤LIM∧asc d.shown=true then .ok (.str d.shown) else .bad
noncomputable def gO:D→Rs D
 | .str x => .ok (.int x.length)
 | .list xs => .ok (.int xs.length)
 | .tuple xs => .ok (.int xs.length)
 | .dict xs=>if dQ xs=true then .bad else .ok (.int xs.length)
 | _ => .bad
section
variable {K:PySem.W.Frag} {H:Hp}
theorem ints_of : ∀ {vs:List V} {ds:List D} {ns:List Int},aj K H vs ds→intsOf ds=some ns→vs=ns.map V.int
 | _,_,_,.nil,e=>by cases e; rfl
 | _,_,_,.cons h t,e=>by
  cases h <;> first | cases e; done | skip
  rename_i i
  unfold intsOf at e
  cases q:intsOf _ with
  | none=>rw [q] at e; cases e
  | some ms=>rw [q] at e; cases e; rw [ints_of t q]; rfl
theorem zN : ∀ {vs:List V} {ds:List D} {ns:List Bool},aj K H vs ds→boolsOf ds=some ns→vs=ns.map V.bl
 | _,_,_,.nil,e=>by cases e; rfl
 | _,_,_,.cons h t,e=>by
  cases h <;> first | cases e; done | skip
  rename_i i
  unfold boolsOf at e
  cases q:boolsOf _ with
  | none=>rw [q] at e; cases e
  | some ms=>rw [q] at e; cases e; rw [zN t q]; rfl
theorem y_ : ∀ {vs:List V} {ds:List D} {ns:List Str},aj K H vs ds→strsOf ds=some ns→vs=ns.map V.str∧(∀ x∈ns,asc x=true∧x.length≤LIM)
 | _,_,_,.nil,e=>by cases e; exact ⟨rfl,λx hx=>by cases hx⟩
 | _,_,_,.cons h t,e=>by
  cases h <;> first | cases e; done | skip
  rename_i i h1 h2
  unfold strsOf at e
  cases q:strsOf _ with
  | none=>rw [q] at e; cases e
  | some ms =>
   rw [q] at e
   cases e
   obtain ⟨g1,g2⟩:=y_ t q
   refine ⟨by rw [g1]; rfl,λx hx => ?_⟩
   rcases cG.mp hx with rfl | hx
   ·exact ⟨h1,h2⟩
   ·exact g2 x hx
end
inductive BI where
 | max2 | min2 | abs | sum | anyy | alll | min1 | max1 | sorted | repr | ord
 deriving DecidableEq
inductive TyI where
 | int | str | list | tuple
 deriving DecidableEq
noncomputable def BI.id:BI→String
 | .max2 => "max" | .min2 => "min" | .abs => "abs" | .sum => "sum" | .anyy => "any" | .alll => "all" | .min1 => "min" | .max1 => "max" | .sorted => "sorted" | .repr => "repr" | .ord => "ord"
noncomputable def TyI.id:TyI→String
 | .int => "int" | .str => "str" | .list => "list" | .tuple => "tuple"
noncomputable def biD:BI→List D→Rs D
 | .max2,[.int i,.int j] => .ok (.int (if j>i then j else i))
 | .min2,[.int i,.int j] => .ok (.int (if j<i then j else i))
 | .abs,[.int i] => .ok (.int (if i<0 then -i else i))
 | .sum,[.list xs]=>opt (intsOf xs) λns => .int ns.sum
 | .anyy,[.list xs]=>opt (boolsOf xs) λbs => .bool (bs.any id)
 | .alll,[.list xs]=>opt (boolsOf xs) λbs => .bool (bs.all id)
 | .min1,[.list xs]=>(opt (intsOf xs) id).bind λns=>if 0<ns.length then .ok (.int (ns.foldl min (ns.headD 0))) else .bad
 | .max1,[.list xs]=>(opt (intsOf xs) id).bind λns=>if 0<ns.length then .ok (.int (ns.foldl max (ns.headD 0))) else .bad
 | .sorted,[.list xs]=>if oO xs=true∧sortable xs=true∧(xs.all λx=>decide (x.depth≤64))=true∧PyData.hasDictAll xs=false then .ok (.list (oj xs)) else .bad
 | .repr,[d]=>LU d
 | .ord,[.str x]=>if x.length=1 then .ok (.int ((cl x).headD 0:Nat)) else .bad
 | _,_ => .bad
noncomputable def tiD:TyI→List D→Rs D
 | .int,[.int i] => .ok (.int i)
 | .int,[.bool b] => .ok (.int (if b then 1 else 0))
 | .int,[.str x]=>if x.length≤640 then opt (PySem.intText? x) .int else .bad
 | .str,[.int i]=>if i.natAbs.log2<1920∧asc (dU i)=true∧(dU i).length≤LIM then .ok (.str (dU i)) else .bad
 | .str,[.str x] => .ok (.str x)
 | .list,[.list xs] => .ok (.list xs)
 | .list,[.tuple xs] => .ok (.list xs)
 | .tuple,[.list xs] => .ok (.tuple xs)
 | .tuple,[.tuple xs] => .ok (.tuple xs)
 | _,_ => .bad
section
variable {X:Cx}
noncomputable def u_ (K:PySem.W.Frag):List V→Hp→VK→Prop:=λxs H Q => ∃ x d,xs=[x]∧Dn K H x d∧d.depth≤64∧d.showable=true∧d.shown.length≤LIM∧Q (.str d.shown) H
theorem Bq (nore:bR X.A) (hu:X.A.units+70<cLine):CallR X (.builtin "repr") (u_ X.K):=by
 rintro pins s σ H xs us Q I r ⟨x,d,rfl,hd,dep,sho,sz,q⟩
 obtain ⟨u,rfl,ru⟩:=Vals.one r
 have sz':d.shown.length≤sizeLine:=aF sz b9
 have hd0:=hd
 cases hd with
 | non =>
  cases ru
  exact PySem.P.repr_of_none ⟨V.str _,H,I.tok _,⟨_,rfl⟩,q⟩
 | bl b =>
  cases ru
  refine PySem.P.repr_of_bool ⟨V.str _,H,I.tok _,⟨_,rfl⟩,?_⟩
  simp only [PyData.shown] at q
  exact q
 | int i =>
  obtain ⟨t,rfl⟩:=ru
  simp only [PyData.showable,aw] at sho
  refine PySem.P.repr_of_int sho ⟨V.str _,H,I.tok _,⟨_,rfl⟩,?_⟩
  simp only [PyData.shown] at q
  exact q
 | str h1 h2 =>
  obtain ⟨t,rfl⟩:=ru
  simp only [PyData.shown] at q sz'
  exact PySem.P.repr_of_str ⟨V.str _,H,I.tok _,⟨_,rfl⟩,q⟩ sz'
 | lst h1 h2 =>
  cases ru
  exact tW I hd0 sho sz' nore (by omega) (λh' u tk keep=>⟨V.str _,H,I.kept (t':=tk) keep,⟨_,rfl⟩,q⟩)
 | tup h1 h2 =>
  cases ru
  exact tW I hd0 sho sz' nore (by omega) (λh' u tk keep=>⟨V.str _,H,I.kept (t':=tk) keep,⟨_,rfl⟩,q⟩)
 | dct h1 h2 =>
  cases ru
  exact tW I hd0 sho sz' nore (by omega) (λh' u tk keep=>⟨V.str _,H,I.kept (t':=tk) keep,⟨_,rfl⟩,q⟩)
 | ins h1 h2 h3=>exact absurd sho (rD _ _)
 | exc h1 h2 h3 h4=>exact absurd sho (qo _ _)
noncomputable def vZ (K:PySem.W.Frag):List V→Hp→VK→Prop:=λvs H Q => ∃ (a:Addr) (bs:List (V × D)),vs=[.ref a]∧SqL K H a (bs.map (·.1))∧(∀ b∈bs,Dp K H b.1 b.2)∧PySem.W.AllAlike (bs.map (·.2))∧PySem.W.Sortable (bs.map (·.2))∧(∀ b∈bs,b.2.depth≤64) ∧
 ∀ p,H p=none→Q (.ref p) (upd H p (.lst ((bs.mergeSort (PySem.W.dataLe false λb=>b.2)).map (·.1))))
theorem qv {R:Value→V × D→Prop} : ∀ {us:List Value} {bs:List (V × D)},Vals (bs.map (·.1)) us→(∀ u b,b∈bs→RelV b.1 u→R u b)→PySem.W.EachIs R us bs
 | _,[],.nil,_ => .nil
 | _,b::bs,.cons r t,h => .cons (h _ b (by simp) r) (qv t λu c hc=>h u c (aE _ hc))
theorem yr : ∀ {us:List Value} {bs:List (V × D)},PySem.W.EachIs (λu b=>RelV b.1 u) us bs→Vals (bs.map (·.1)) us
 | _,_,.nil => .nil
 | _,_,.cons r t => .cons r (yr t)
theorem Mf (hu:X.A.units+70<cLine):CallR X (.builtin "sorted") (vZ X.K):=by
 rintro pins s σ H xs us Q I r ⟨a,bs,rfl,hs,hd,al,so,dep,q⟩
 obtain ⟨its,rv,pl,sz⟩:=I.list hs
 rw [Vals.ref1 r]
 have lenB:bs.length≤sizeLine:=by rw [aq] at sz; exact sz
 refine PySem.W.sorted_data (R:=λu b=>RelV b.1 u) (enc:=λb:V × D=>b.2) pl.isList (qv rv λ_ _ _ r=>r) (qv rv λu b hb r=>Dp.reads I _ _ _ (hd b hb) r) al so lenB (λb hb=>by have:=dep b hb; omega) λout ol oe => ?_
 obtain ⟨ep,atp⟩:=PyProof.Rows.sortedAll_at s.heap its out.toArray
 have lenS:((bs.mergeSort (PySem.W.dataLe false λb=>b.2)).map (·.1)).length≤sizeLine:=by rw [aq,jZ]; exact lenB
 exact ⟨V.ref _,upd H (s.heap.objs.size+1) (.lst _),I.laid (t':=s.toks) (λ_ _=>PyProof.Rows.sortedAll_old) (fj _) ⟨lenS,out,ep,yr oe,atp⟩,rfl,q _ (I.hok.fresh (fj _))⟩
noncomputable def rBI (K:PySem.W.Frag):BI→List V→Hp→VK→Prop
 | .max2=>λxs H Q => ∃ i j,xs=[.int i,.int j]∧Q (.int (if j>i then j else i)) H
 | .min2=>λxs H Q => ∃ i j,xs=[.int i,.int j]∧Q (.int (if j<i then j else i)) H
 | .abs=>λxs H Q => ∃ i,xs=[.int i]∧Q (.int (if i<0 then -i else i)) H
 | .sum=>rSum K
 | .anyy=>rAny K
 | .alll=>rAll K
 | .min1=>rMin K
 | .max1=>rMax K
 | .sorted=>vZ K
 | .repr=>u_ K
 | .ord=>λxs H Q => ∃ x,xs=[.str x]∧x.length=1∧Q (.int (x.cps.getD 0 0:Nat)) H
theorem Ir (hc:X.calm=true) (nore:bR X.A) (hu:X.A.units+70<cLine) : ∀ b:BI,CallR X (.builtin b.id) (rBI X.K b)
 | .max2=>call_max2 hc
 | .min2=>call_min2 hc
 | .abs=>call_abs
 | .sum=>cr_sum hc
 | .anyy=>cr_any hc
 | .alll=>cr_all hc
 | .min1=>cr_min hc
 | .max1=>cr_max hc
 | .sorted=>Mf hu
 | .repr=>Bq nore hu
 | .ord=>call_ord
noncomputable def rTI (K:PySem.W.Frag):TyI→List V→Hp→VK→Prop
 | .int=>λxs H Q=>((∃ i,xs=[.int i]∧Q (.int i) H) ∨ ∃ k,xs=[.bl k]∧Q (.int (if k then 1 else 0)) H)∨(∃ a n,xs=[.str a]∧PySem.intText? a=some n∧a.length≤640∧Q (.int n) H)
 | .str=>λxs H Q=>(∃ i,xs=[.int i]∧i.natAbs.log2<1920∧Q (.str (dU i)) H) ∨ ∃ a,xs=[.str a]∧Q (.str a) H
 | .list=>λxs H Q => ∃ p ys,xs=[.ref p]∧(SqL K H p ys∨SqT K H p ys) ∧ ∀ l,H l=none→Q (.ref l) (upd H l (.lst ys))
 | .tuple=>λxs H Q => ∃ p ys,xs=[.ref p]∧((SqL K H p ys ∧ ∀ l,H l=none→Q (.ref l) (upd H l (.tup ys)))∨(SqT K H p ys∧Q (.ref p) H))
theorem GS : ∀ b:TyI,CallR X (.type b.id) (rTI X.K b)
 | .int=>call_int1.or call_int_str
 | .str=>call_str_int.or SkE.call_str_str
 | .list=>call_list_of
 | .tuple=>call_tuple_of
end
section
variable {K:PySem.W.Frag}
theorem fJ {c:Prop} [Decidable c] {r:Rs D} {P:D→Prop} (h:Okk (if c then r else .bad) P):c∧Okk r P:=by
 by_cases e:c
 ·rw [if_pos e] at h; exact ⟨e,h⟩
 ·rw [if_neg e] at h; exact h.elim
theorem foldl_min {ns:List Int} : ∀ (m:Int),(∀ y∈ns,ns.foldl min m≤y)∧ns.foldl min m≤m∧(ns.foldl min m=m∨ns.foldl min m∈ns):=by
 induction ns with
 | nil=>intro m; exact ⟨λy h=>(by cases h),Int.le_refl _,.inl rfl⟩
 | cons n ns ih =>
  intro m
  rw [List.foldl_cons]
  obtain ⟨h1,h2,h3⟩:=ih (min m n)
  refine ⟨λy hy => ?_,by omega,?_⟩
  ·rcases cG.mp hy with rfl | hy
   ·omega
   ·exact h1 y hy
  ·rcases h3 with h3 | h3
   ·rw [h3]
    by_cases e:m≤n
    ·rw [Int.min_eq_left e]; exact .inl rfl
    ·rw [Int.min_eq_right (by omega)]; exact .inr (by simp)
   ·exact .inr (aE _ h3)
theorem foldl_max {ns:List Int} : ∀ (m:Int),(∀ y∈ns,y≤ns.foldl max m)∧m≤ns.foldl max m∧(ns.foldl max m=m∨ns.foldl max m∈ns):=by
 induction ns with
 | nil=>intro m; exact ⟨λy h=>(by cases h),Int.le_refl _,.inl rfl⟩
 | cons n ns ih =>
  intro m
  rw [List.foldl_cons]
  obtain ⟨h1,h2,h3⟩:=ih (max m n)
  refine ⟨λy hy => ?_,by omega,?_⟩
  ·rcases cG.mp hy with rfl | hy
   ·omega
   ·exact h1 y hy
  ·rcases h3 with h3 | h3
   ·rw [h3]
    by_cases e:n≤m
    ·rw [Int.max_eq_left e]; exact .inl rfl
    ·rw [Int.max_eq_right (by omega)]; exact .inr (by simp)
   ·exact .inr (aE _ h3)
theorem IJ {ns:List Int} (h:0<ns.length) {m:Int} (hm:m∈ns) (hl : ∀ y∈ns,m≤y):m=ns.foldl min (ns.headD 0):=by
 obtain ⟨h1,h2,h3⟩:=foldl_min (ns:=ns) (ns.headD 0)
 have hh:ns.headD 0∈ns:=by
  cases ns with
  | nil=>cases h
  | cons a r=>simp
 have:=h1 m hm
 rcases h3 with h3 | h3
 ·have:=hl _ hh; omega
 ·have:=hl _ h3; omega
theorem Jz {ns:List Int} (h:0<ns.length) {m:Int} (hm:m∈ns) (hl : ∀ y∈ns,y≤m):m=ns.foldl max (ns.headD 0):=by
 obtain ⟨h1,h2,h3⟩:=foldl_max (ns:=ns) (ns.headD 0)
 have hh:ns.headD 0∈ns:=by
  cases ns with
  | nil=>cases h
  | cons a r=>simp
 have:=h1 m hm
 rcases h3 with h3 | h3
 ·have:=hl _ hh; omega
 ·have:=hl _ h3; omega
theorem zJ {H:Hp} : ∀ {vs:List V} {ds:List D},aj K H vs ds→(vs.zip ds).map (·.1)=vs∧(vs.zip ds).map (·.2)=ds ∧ ∀ b∈vs.zip ds,Dn K H b.1 b.2
 | _,_,.nil=>⟨rfl,rfl,λb hb=>by cases hb⟩
 | _,_,.cons h t=>by
  obtain ⟨h1,h2,h3⟩:=zJ t
  refine ⟨by rw [List.zip_cons_cons,aI,h1],by rw [List.zip_cons_cons,aI,h2],λb hb => ?_⟩
  rw [List.zip_cons_cons] at hb
  rcases cG.mp hb with rfl | hb
  ·exact h
  ·exact h3 b hb
theorem wN {H:Hp} : ∀ {bs:List (V × D)},(∀ b∈bs,Dn K H b.1 b.2)→aj K H (bs.map (·.1)) (bs.map (·.2))
 | [],_ => .nil
 | b::bs,h => .cons (h b (by simp)) (wN λc hc=>h c (aE _ hc))
theorem AU : ∀ {xs:List D} {x:D},PyData.hasDictAll xs=false→x∈xs→x.hasDict=false
 | [],_,_,h=>by cases h
 | y::ys,x,e,h=>by
  simp only [PyData.hasDictAll,Bool.or_eq_false_iff] at e
  rcases cG.mp h with rfl | h
  ·exact e.1
  ·exact AU e.2 h
theorem HF {xs:List D} (h:sortable xs=true):PySem.W.Sortable xs:=by
 rcases Bool.or_eq_true _ _ ▸ h with h | h
 ·refine .inl λd hd => ?_
  have:=j5.mp h d hd
  split at this
  ·exact ⟨_,_,rfl⟩
  ·cases this
 ·refine .inr λd hd => ?_
  have:=j5.mp h d hd
  refine ⟨λe => ?_,λys e => ?_⟩ <;> (subst e; cases this)
theorem Ov (bs:List (V × D)):(bs.mergeSort (PySem.W.dataLe false λb=>b.2)).map (·.2)=oj (bs.map (·.2)):=by
 rw [BM]
 exact PySem.W.sort_maps (Prod.snd:V × D→D) λ_ _ _ _=>rfl
theorem i4 {f:List D→Rs D} {ds:List D} {P:D→Prop} (h:Okk (f ds) P) (h0:f [] = .bad) (h2 : ∀ d e r,f (d::e::r) = .bad) : ∃ d,ds=[d]:=by
 cases ds with
 | nil=>rw [h0] at h; exact h.elim
 | cons d r =>
  cases r with
  | nil=>exact ⟨d,rfl⟩
  | cons e r=>rw [h2] at h; exact h.elim
theorem MF {f:List D→Rs D} {ds:List D} {P:D→Prop} (h:Okk (f ds) P) (h0:f [] = .bad) (h1 : ∀ d,f [d] = .bad) (h2 : ∀ d e g r,f (d::e::g::r) = .bad) : ∃ d e,ds=[d,e]:=by
 cases ds with
 | nil=>rw [h0] at h; exact h.elim
 | cons d r =>
  cases r with
  | nil=>rw [h1] at h; exact h.elim
  | cons e r =>
   cases r with
   | nil=>exact ⟨d,e,rfl⟩
   | cons g r=>rw [h2] at h; exact h.elim
theorem dn1 {H:Hp} {vs:List V} {d:D} (h:aj K H vs [d]) : ∃ v,vs=[v]∧Dn K H v d:=by
 cases h with
 | cons h t=>cases t; exact ⟨_,rfl,h⟩
theorem dn2 {H:Hp} {vs:List V} {d e:D} (h:aj K H vs [d,e]) : ∃ v w,vs=[v,w]∧Dn K H v d∧Dn K H w e:=by
 cases h with
 | cons h t =>
  obtain ⟨w,rfl,hw⟩:=dn1 t
  exact ⟨_,_,rfl,h,hw⟩
theorem lJ {H:Hp} {v:V} {i:Int} (h:Dn K H v (.int i)):v = .int i:=by cases h; rfl
theorem Dr {H:Hp} {v:V} {i:Bool} (h:Dn K H v (.bool i)):v = .bl i:=by cases h; rfl
theorem jj {H:Hp} {v:V} {x:Str} (h:Dn K H v (.str x)):v = .str x∧asc x=true∧x.length≤LIM:=by
 cases h with
 | str h1 h2=>exact ⟨rfl,h1,h2⟩
theorem nu {H:Hp} {v:V} {xs:List D} (h:Dn K H v (.list xs)) : ∃ a us,v = .ref a∧RL K H a us∧us.length≤LIM∧aj K H us xs:=by
 cases h with
 | lst h1 h2 h3=>exact ⟨_,_,rfl,h1,h2,h3⟩
theorem r9 {H:Hp} {v:V} {xs:List D} (h:Dn K H v (.tuple xs)) : ∃ a us,v = .ref a∧SqT K H a us∧us.length≤LIM∧aj K H us xs:=by
 cases h with
 | tup h1 h2 h3=>exact ⟨_,_,rfl,h1,h2,h3⟩
theorem Al {b:BI} {g:Int→Int→Int} (e : ∀ i j,biD b [.int i,.int j] = .ok (.int (g i j))) (h0:biD b [] = .bad) (h1 : ∀ d,biD b [d] = .bad) (h2 : ∀ d e r,(∀ i j,¬ (d = .int i∧e = .int j∧r=[]))→biD b (d::e::r) = .bad) {H:Hp} {vs:List V} {ds:List D} {P:D→Prop} (ha:aj K H vs ds) (h:Okk (biD b ds) P) : ∃ i j,vs=[.int i,.int j]∧ds=[.int i,.int j]∧P (.int (g i j)):=by
 obtain ⟨d,e',rfl⟩:=MF h h0 h1 λd e x r=>h2 d e _ λi j z=>by cases z.2.2
 have : ∃ i j,d = .int i∧e' = .int j:=aV λz=>by
  rw [h2 d e' [] λi j w=>z ⟨i,j,w.1,w.2.1⟩] at h
  exact h
 obtain ⟨i,j,rfl,rfl⟩:=this
 obtain ⟨v,w,rfl,h3,h4⟩:=dn2 ha
 rw [e] at h
 rw [lJ h3,lJ h4]
 exact ⟨_,_,rfl,rfl,h⟩
theorem ji {b:BI} (hb:(match b with | .sum | .anyy | .alll | .min1 | .max1 | .sorted=>true | _=>false)=true) {H:Hp} {vs:List V} {ds:List D} {P:D→Prop} (ha:aj K H vs ds) (h:Okk (biD b ds) P) : ∃ xs a us,ds=[.list xs]∧vs=[.ref a]∧RL K H a us∧us.length≤LIM∧aj K H us xs:=by
 have : ∃ xs,ds=[.list xs]:=by
  cases b <;> first | (cases hb; done) | skip
  all_goals
   obtain ⟨d,rfl⟩:=i4 h rfl λd e r=>by cases d <;> rfl
   cases d <;> first | exact ⟨_,rfl⟩ | exact h.elim
 obtain ⟨xs,rfl⟩:=this
 obtain ⟨v,rfl,hv⟩:=dn1 ha
 obtain ⟨a,us,rfl,h1,h2,h3⟩:=nu hv
 exact ⟨xs,a,us,rfl,rfl,h1,h2,h3⟩
theorem K4 {H:Hp} {O:List Addr} {us:List V} {xs:List D} {f:List Int→D} {P:D→Prop} (h3:aj K (msk H O) us xs) (h:Okk (opt (intsOf xs) f) P) : ∃ ns:List Int,us=ns.map V.int∧P (f ns):=by
 obtain ⟨ns,e,h⟩:=jR h
 exact ⟨ns,ints_of h3 e,h⟩
theorem xA {H:Hp} {O:List Addr} {us:List V} {xs:List D} {f:List Bool→D} {P:D→Prop} (h3:aj K (msk H O) us xs) (h:Okk (opt (boolsOf xs) f) P) : ∃ ns:List Bool,us=ns.map V.bl∧P (f ns):=by
 obtain ⟨ns,e,h⟩:=jR h
 exact ⟨ns,zN h3 e,h⟩
theorem vf {H:Hp} {O:List Addr} {us:List V} {xs:List D} {g:List Int→Int} {P:D→Prop} (h3:aj K (msk H O) us xs) (h:Okk ((opt (intsOf xs) id).bind λns=>if 0<ns.length then .ok (.int (g ns)) else .bad) P) : ∃ ns:List Int,us=ns.map V.int∧0<ns.length∧P (.int (g ns)):=by
 cases e:intsOf xs with
 | none=>rw [e] at h; exact h.elim
 | some ns =>
  rw [e] at h
  obtain ⟨h4,h⟩:=fJ h
  exact ⟨ns,ints_of h3 e,h4,h⟩
theorem LY (b:BI):ImC K (rBI K b) (biD b):=by
 intro H O xs ds Q t ha h
 cases b
 case max2 =>
  obtain ⟨i,j,rfl,rfl,h⟩:=Al (g:=λi j=>if j>i then j else i) (λi j=>rfl) rfl (λd=>by cases d <;> rfl) (λd e r n=>by
   cases d <;> first | rfl | skip
   cases e <;> first | rfl | skip
   cases r with
   | nil=>exact (n _ _ ⟨rfl,rfl,rfl⟩).elim
   | cons _ _=>rfl) ha h
  exact ⟨_,_,rfl,h _ _ (aM _) (.int _)⟩
 case min2 =>
  obtain ⟨i,j,rfl,rfl,h⟩:=Al (g:=λi j=>if j<i then j else i) (λi j=>rfl) rfl (λd=>by cases d <;> rfl) (λd e r n=>by
   cases d <;> first | rfl | skip
   cases e <;> first | rfl | skip
   cases r with
   | nil=>exact (n _ _ ⟨rfl,rfl,rfl⟩).elim
   | cons _ _=>rfl) ha h
  exact ⟨_,_,rfl,h _ _ (aM _) (.int _)⟩
 case abs =>
  obtain ⟨d,rfl⟩:=i4 h rfl λd e r=>by cases d <;> rfl
  obtain ⟨v,rfl,hv⟩:=dn1 ha
  cases d with
  | int i =>
   rw [lJ hv]
   exact ⟨_,rfl,h _ _ (aM _) (.int _)⟩
  | _=>exact h.elim
 case sum =>
  obtain ⟨xs,a,us,rfl,rfl,h1,h2,h3⟩:=ji rfl ha h
  obtain ⟨ns,rfl,h⟩:=K4 h3 h
  exact ⟨_,ns,rfl,(aQ h1).sq,h _ _ (aM _) (.int _)⟩
 case anyy =>
  obtain ⟨xs,a,us,rfl,rfl,h1,h2,h3⟩:=ji rfl ha h
  obtain ⟨ns,rfl,h⟩:=xA h3 h
  exact ⟨_,ns,rfl,(aQ h1).sq,h _ _ (aM _) (.bl _)⟩
 case alll =>
  obtain ⟨xs,a,us,rfl,rfl,h1,h2,h3⟩:=ji rfl ha h
  obtain ⟨ns,rfl,h⟩:=xA h3 h
  exact ⟨_,ns,rfl,(aQ h1).sq,h _ _ (aM _) (.bl _)⟩
 case min1 =>
  obtain ⟨xs,a,us,rfl,rfl,h1,h2,h3⟩:=ji rfl ha h
  obtain ⟨ns,rfl,h4,h⟩:=vf h3 h
  refine ⟨_,ns,rfl,(aQ h1).sq,h4,λm hm hl => ?_⟩
  rw [IJ h4 hm hl]
  exact h _ _ (aM _) (.int _)
 case max1 =>
  obtain ⟨xs,a,us,rfl,rfl,h1,h2,h3⟩:=ji rfl ha h
  obtain ⟨ns,rfl,h4,h⟩:=vf h3 h
  refine ⟨_,ns,rfl,(aQ h1).sq,h4,λm hm hl => ?_⟩
  rw [Jz h4 hm hl]
  exact h _ _ (aM _) (.int _)
 case sorted =>
  obtain ⟨xs,a,vs,rfl,rfl,h1,h2,h3⟩:=ji rfl ha h
  obtain ⟨⟨c1,c2,c3,c4⟩,h⟩:=fJ h
  obtain ⟨z1,z2,z3⟩:=zJ h3
  refine ⟨_,vs.zip xs,rfl,by rw [z1]; exact (aQ h1).sq,λb hb => ?_,?_,?_,λb hb => ?_,λp hp => ?_⟩
  ·refine kL (bf dM (z3 b hb)) (AU c4 ?_)
   rw [← z2]
   exact ja hb
  ·rw [z2]
   exact λd hd d' hd'=>j5.mp (j5.mp c1 d hd) d' hd'
  ·rw [z2]; exact HF c2
  ·refine dF (j5.mp c3 b.2 ?_)
   rw [← z2]
   exact ja hb
  ·have dn:=wN (K:=K) (H:=msk H O) (bs:=(vs.zip xs).mergeSort (PySem.W.dataLe false λb=>b.2)) λb hb=>z3 b (List.mem_mergeSort.mp hb)
   rw [Ov,z2] at dn
   refine h _ _ (a0 hp) (fU t hp ?_ dn)
   rw [aq,jZ,← aq (f:=(·.1)),z1]
   exact h2
 case repr =>
  obtain ⟨d,rfl⟩:=i4 h rfl λd e r=>rfl
  obtain ⟨v,rfl,hv⟩:=dn1 ha
  obtain ⟨⟨c2,c3,c4,c5⟩,h⟩:=fJ h
  exact ⟨v,d,rfl,bf dM hv,c2,c3,c4,h _ _ (aM _) (.str c5 c4)⟩
 case ord =>
  obtain ⟨d,rfl⟩:=i4 h rfl λd e r=>by cases d <;> rfl
  obtain ⟨v,rfl,hv⟩:=dn1 ha
  cases d with
  | str x =>
   obtain ⟨rfl,h1,h2⟩:=jj hv
   obtain ⟨c1,h⟩:=fJ h
   refine ⟨x,rfl,c1,?_⟩
   have e:x.cps.getD 0 0=(cl x).headD 0:=by
    have:x.cps.getD 0 0=x.cps.toList.getD 0 0:=by simp [Array.getD_eq_getD_getElem?]
    rw [this]
    show x.cps.toList.getD 0 0=x.cps.toList.headD 0
    cases x.cps.toList <;> rfl
   rw [e]
   exact h _ _ (aM _) (.int _)
  | _=>exact h.elim
theorem NO (b:TyI):ImC K (rTI K b) (tiD b):=by
 intro H O xs ds Q t ha h
 obtain ⟨d,rfl⟩:=i4 h (by cases b <;> rfl) λd e r=>by cases b <;> cases d <;> rfl
 obtain ⟨v,rfl,hv⟩:=dn1 ha
 cases b
 case int =>
  cases d with
  | int i =>
   rw [lJ hv]
   exact .inl (.inl ⟨_,rfl,h _ _ (aM _) (.int _)⟩)
  | bool b =>
   rw [Dr hv]
   exact .inl (.inr ⟨_,rfl,h _ _ (aM _) (.int _)⟩)
  | str x =>
   obtain ⟨rfl,h1,h2⟩:=jj hv
   obtain ⟨c1,h⟩:=fJ h
   obtain ⟨n,e,h⟩:=jR h
   exact .inr ⟨_,n,rfl,e,c1,h _ _ (aM _) (.int _)⟩
  | _=>exact h.elim
 case str =>
  cases d with
  | int i =>
   rw [lJ hv]
   obtain ⟨⟨c1,c2,c3⟩,h⟩:=fJ h
   exact .inl ⟨_,rfl,c1,h _ _ (aM _) (.str c2 c3)⟩
  | str x =>
   obtain ⟨rfl,h1,h2⟩:=jj hv
   exact .inr ⟨_,rfl,h _ _ (aM _) (.str h1 h2)⟩
  | _=>exact h.elim
 case list =>
  cases d with
  | list xs =>
   obtain ⟨a,us,rfl,h1,h2,h3⟩:=nu hv
   exact ⟨_,_,rfl,.inl (aQ h1).sq,λl hl=>h _ _ (a0 hl) (fU t hl h2 h3)⟩
  | tuple xs =>
   obtain ⟨a,us,rfl,h1,h2,h3⟩:=r9 hv
   exact ⟨_,_,rfl,.inr (cB h1),λl hl=>h _ _ (a0 hl) (fU t hl h2 h3)⟩
  | _=>exact h.elim
 case tuple =>
  cases d with
  | list xs =>
   obtain ⟨a,us,rfl,h1,h2,h3⟩:=nu hv
   exact ⟨_,_,rfl,.inl ⟨(aQ h1).sq,λl hl=>h _ _ (a0 hl) (eZ t hl h2 h3)⟩⟩
  | tuple xs =>
   obtain ⟨a,us,rfl,h1,h2,h3⟩:=r9 hv
   exact ⟨_,_,rfl,.inr ⟨cB h1,h _ _ (aM _) (.tup h1 h2 h3)⟩⟩
  | _=>exact h.elim
noncomputable def rLen (K:PySem.W.Frag):List V→Hp→VK→Prop:=λxs H Q=>(∃ x n,xs=[x]∧LenV K x H n∧Q (.int n) H) ∨ ∃ a kvs,xs=[V.ref a]∧Rd H a (.dK kvs)∧Q (.int kvs.length) H
theorem Mo {X:Cx}:CallR X (.builtin "len") (λxs H Q => ∃ a kvs,xs=[V.ref a]∧Rd H a (.dK kvs)∧Q (.int kvs.length) H):=λpins s σ H xs us Q I r h=>by
 obtain ⟨a,kvs,rfl,ha,q⟩:=h
 cases r with
 | cons ru r2 =>
  cases r2
  cases ru
  exact d_len I ha λt s' I'=>⟨.int kvs.length,H,I',⟨t,rfl⟩,q⟩
theorem DS {X:Cx}:CallR X (.builtin "len") (rLen X.K):=call_len.or Mo
theorem vN {H:Hp} : ∀ {vs:List (Key × V)} {ds:List (D × D)},bH K H vs ds→vs.length=ds.length
 | _,_,.nil=>rfl
 | _,_,.cons _ t=>bF Nat.succ (vN t)
theorem Iq:AX K (rLen K) gO:=by
 intro H x d Q hx h
 cases hx <;> first | exact h.elim | skip
 ·rename_i z h1 h2
  exact .inl ⟨_,_,rfl,⟨aF h2 b9,rfl⟩,h _ _ (aM _) λ_ => .int _⟩
 ·rename_i a vs ds h1 h2 h3
  have e:=aK h3
  exact .inl ⟨_,_,rfl,.inl ⟨vs,h1.sq,rfl⟩,by rw [e]; exact h _ _ (aM _) λ_ => .int _⟩
 ·rename_i a vs ds h1 h2 h3
  have e:=aK h3
  exact .inl ⟨_,_,rfl,.inr ⟨vs,h1,rfl⟩,by rw [e]; exact h _ _ (aM _) λ_ => .int _⟩
 ·rename_i a vs ds h1 h2 h3
  have e:=vN h3
  have h:Okk (if dQ ds=true then Rs.bad else .ok (.int ds.length)) (λd => ∀ v H',Same H H'→(∀ F,Dn K F v d)→Q v H'):=h
  rw [oK h3] at h
  exact .inr ⟨_,vs,rfl,.inr ⟨_,h1⟩,by rw [e]; exact h _ _ (aM _) λ_ => .int _⟩
end
end Pf

set_option maxRecDepth 100000
namespace Pf
open PySem PySem.Spec L2
noncomputable def lO (a b:Str):List Str:=(TL.spl (cl b) 0 [] (cl a)).map mk
noncomputable def eI (a b:Str):Str × Str × Str:=match TL.par (cl b) [] (cl a) with
 | some (p,q)=>(mk p,b,mk q)
 | none=>(a,Str.empty,Str.empty)
noncomputable def dR (a:Str) (ys:List Str):Str:=mk (TL.joinL (cl a) (ys.map cl))
theorem J3 {a b:Str} (h:asc b=true) : ¬ Builtin.Str.strKind a<Builtin.Str.strKind b:=TL.kind_ok (by
 rw [← Array.all_toList]
 refine j5.mpr λc hc => ?_
 have:=jC.mp h c hc
 exact cb (by omega))
theorem vV {b:Str} (h:(b.length==0)=false):cl b≠[]:=λe=>by
 rw [ei,e] at h
 cases h
theorem xq : ∀ l:List Str,(l.map cl).map mk=l
 | []=>rfl
 | x::r=>by rw [aI,aI,KA,xq r]
theorem O0 {a b:Str} (hb:(b.length==0)=false) (h:asc b=true):Txt.split a b=lO a b:=by
 unfold lO
 rw [← TL.split_spl a b (vV hb) (J3 h)]
 exact (xq _).symm
theorem OF {a b:Str} (hb:(b.length==0)=false):Txt.partition a b=eI a b:=TL.partition_par a b (vV hb)
theorem Hl (a:Str) (ys:List Str):Txt.join a ys=dR a ys:=by
 unfold dR
 rw [TL.join_eq,← TL.tl_join]
theorem nj {S:List Nat} : ∀ {k:Nat} {acc l p:List Nat},p∈TL.spl S k acc l → ∀ c∈p,c∈acc∨c∈l
 | 0,acc,[],p,h,c,hc=>by
  rw [TL.spl_nil,c7] at h
  subst h; exact .inl hc
 | k+1,acc,[],p,h,c,hc=>by
  rw [TL.spl_nil,c7] at h
  subst h; exact .inl hc
 | 0,acc,d::r,p,h,c,hc=>by
  cases e:TL.pre S (d::r) with
  | true =>
   rw [TL.spl_hit e] at h
   rcases cG.mp h with rfl | h
   ·exact .inl hc
   ·rcases nj h c hc with z | z
    ·cases z
    ·exact .inr (aE _ z)
  | false =>
   rw [TL.spl_miss e] at h
   rcases nj h c hc with z | z
   ·rcases j6.mp z with z | z
    ·exact .inl z
    ·rw [c7] at z; subst z; exact .inr (by simp)
   ·exact .inr (aE _ z)
 | k+1,acc,d::r,p,h,c,hc=>by
  rcases nj (k:=k) (acc:=acc) (l:=r) h c hc with z | z
  ·exact .inl z
  ·exact .inr (aE _ z)
theorem pA {S:List Nat} : ∀ {k:Nat} {acc l p:List Nat},p∈TL.spl S k acc l→p.length≤acc.length+l.length
 | 0,acc,[],p,h=>by
  rw [TL.spl_nil,c7] at h
  subst h; simp
 | k+1,acc,[],p,h=>by
  rw [TL.spl_nil,c7] at h
  subst h; simp
 | 0,acc,d::r,p,h=>by
  cases e:TL.pre S (d::r) with
  | true =>
   rw [TL.spl_hit e] at h
   rcases cG.mp h with rfl | h
   ·simp
   ·have:=pA h
    simp at this ⊢
    omega
  | false =>
   rw [TL.spl_miss e] at h
   have:=pA h
   simp at this ⊢
   omega
 | k+1,acc,d::r,p,h=>by
  have:=pA (k:=k) (acc:=acc) (l:=r) h
  simp at this ⊢
  omega
theorem pq {S:List Nat} : ∀ {k:Nat} {acc l:List Nat},(TL.spl S k acc l).length≤l.length+1
 | 0,acc,[]=>by rw [TL.spl_nil]; simp
 | k+1,acc,[]=>by rw [TL.spl_nil]; simp
 | 0,acc,d::r=>by
  cases e:TL.pre S (d::r) with
  | true =>
   rw [TL.spl_hit e]
   have:=pq (S:=S) (k:=S.length-1) (acc:=[]) (l:=r)
   simp; omega
  | false =>
   rw [TL.spl_miss e]
   have:=pq (S:=S) (k:=0) (acc:=acc++[d]) (l:=r)
   simp; omega
 | k+1,acc,d::r=>by
  have:=pq (S:=S) (k:=k) (acc:=acc) (l:=r)
  show (TL.spl S k acc r).length≤_
  simp; omega
theorem vH {S:List Nat} : ∀ {acc l p q:List Nat},TL.par S acc l=some (p,q)→(∀ c∈p,c∈acc∨c∈l)∧(∀ c∈q,c∈l)∧p.length≤acc.length+l.length∧q.length≤l.length
 | acc,[],p,q,h=>by cases h
 | acc,d::r,p,q,h=>by
  cases e:TL.pre S (d::r) with
  | true =>
   rw [TL.par_hit e] at h
   cases h
   exact ⟨λc hc => .inl hc,λc hc=>List.mem_of_mem_drop hc,by omega,by rw [i6]; omega⟩
  | false =>
   rw [TL.par_miss e] at h
   obtain ⟨h1,h2,h3,h4⟩:=vH h
   refine ⟨λc hc => ?_,λc hc=>aE _ (h2 c hc),by simp at h3 ⊢; omega,by simp; omega⟩
   rcases h1 c hc with z | z
   ·rcases j6.mp z with z | z
    ·exact .inl z
    ·rw [c7] at z; subst z; exact .inr (by simp)
   ·exact .inr (aE _ z)
theorem BJ:asc Str.empty=true∧Str.empty.length≤LIM:=⟨by decide,by decide⟩
theorem Mu {a b:Str} (ha:asc a=true) (la:a.length≤LIM) (hb:asc b=true) (lb:b.length≤LIM):(asc (eI a b).1=true∧(eI a b).1.length≤LIM)∧(asc (eI a b).2.1=true∧(eI a b).2.1.length≤LIM)∧(asc (eI a b).2.2=true∧(eI a b).2.2.length≤LIM):=by
 unfold eI
 split
 ·rename_i p q e
  obtain ⟨h1,h2,h3,h4⟩:=vH e
  rw [ei] at la
  refine ⟨⟨jJ ha λc hc=>(h1 c hc).elim (λz=>by cases z) id,by rw [jO]; simp only [jb,dG] at h3; omega⟩,⟨hb,lb⟩,jJ ha h2,by rw [jO]; omega⟩
 ·exact ⟨⟨ha,la⟩,BJ,BJ⟩
theorem Ni {a b:Str} (ha:asc a=true) (la:a.length≤LIM) : ∀ x∈lO a b,asc x=true∧x.length≤LIM:=λx hx=>by
 obtain ⟨p,hp,rfl⟩:=fA.mp hx
 rw [ei] at la
 refine ⟨jJ ha λc hc=>(nj hp c hc).elim (λz=>by cases z) id,?_⟩
 have:=pA hp
 rw [jO]
 simp only [jb,dG] at this
 omega
theorem Bc {S:List Nat} : ∀ {ps:List (List Nat)} {c:Nat},c∈TL.joinL S ps→c∈S ∨ ∃ p∈ps,c∈p
 | [],c,h=>by cases h
 | [p],c,h => .inr ⟨p,by simp,h⟩
 | p::q::r,c,h=>by
  have h:c∈p++(S++TL.joinL S (q::r)):=h
  rcases j6.mp h with h | h
  ·exact .inr ⟨p,by simp,h⟩
  ·rcases j6.mp h with h | h
   ·exact .inl h
   ·rcases Bc h with h | ⟨z,hz,hc⟩
    ·exact .inl h
    ·exact .inr ⟨z,aE _ hz,hc⟩
theorem FT {a:Str} {ys:List Str} (ha:asc a=true) (hy : ∀ x∈ys,asc x=true):asc (dR a ys)=true:=jC.mpr λc hc=>by
 rcases Bc hc with h | ⟨p,hp,h⟩
 ·exact jC.mp ha c h
 ·obtain ⟨x,hx,rfl⟩:=fA.mp hp
  exact jC.mp (hy x hx) c h
inductive MI where
 | split | partition | join | startswith | endswith
 deriving DecidableEq
noncomputable def MI.nm:MI→String
 | .split => "split" | .partition => "partition" | .join => "join" | .startswith => "startswith" | .endswith => "endswith"
noncomputable def MI.id:MI→String
 | .split => "str.split" | .partition => "str.partition" | .join => "str.join" | .startswith => "str.startswith" | .endswith => "str.endswith"
noncomputable def miD:MI→D→List D→Rs D
 | .split,.str a,[.str b]=>if (b.length==0)=false∧a.length+1≤LIM then .ok (.list ((lO a b).map .str)) else .bad
 | .partition,.str a,[.str b]=>if (b.length==0)=false then .ok (.tuple [.str (eI a b).1,.str (eI a b).2.1,.str (eI a b).2.2]) else .bad
 | .join,.str a,[.list xs]=>(opt (strsOf xs) id).bind λys=>if (dR a ys).length≤LIM∧(ys.map (·.length)).sum+ys.length*a.length≤16777216 then .ok (.str (dR a ys)) else .bad
 | .join,.str a,[.tuple xs]=>(opt (strsOf xs) id).bind λys=>if (dR a ys).length≤LIM∧(ys.map (·.length)).sum+ys.length*a.length≤16777216 then .ok (.str (dR a ys)) else .bad
 | .startswith,.str a,[.str b] => .ok (.bool (Txt.startswith a b))
 | .endswith,.str a,[.str b] => .ok (.bool (Txt.endswith a b))
 | _,_,_ => .bad
noncomputable def rMI (K:PySem.W.Frag):MI→V→List V→Hp→VK→Prop
 | .split=>λx xs H Q => ∃ a b,x = .str a∧xs=[.str b]∧(b.length==0)=false∧a.length+2≤sizeLine∧rNewStrs (Txt.split a b) H Q
 | .partition=>λx xs H Q => ∃ a b,x = .str a∧xs=[.str b]∧(b.length==0)=false∧a.length≤sizeLine ∧ ∀ p,H p=none→Q (.ref p) (upd H p (.tup [.str (Txt.partition a b).1,.str (Txt.partition a b).2.1,.str (Txt.partition a b).2.2]))
 | .join=>λx xs H Q => ∃ a p,∃ ys:List Str,x = .str a∧xs=[.ref p]∧(SqL K H p (ys.map V.str)∨SqT K H p (ys.map V.str))∧(ys.map (·.length)).sum+ys.length*a.length≤16777216∧Q (.str (Txt.join a ys)) H
 | .startswith=>λx xs H Q => ∃ a b,x = .str a∧xs=[.str b]∧Q (.bl (Txt.startswith a b)) H
 | .endswith=>λx xs H Q => ∃ a b,x = .str a∧xs=[.str b]∧Q (.bl (Txt.endswith a b)) H
section
variable {X:Cx}
theorem Ew : ∀ m:MI,MtR X m.id (rMI X.K m)
 | .split=>mt_split
 | .partition=>mt_partition
 | .join=>mt_join
 | .startswith=>mt_startswith
 | .endswith=>mt_endswith
theorem JX : ∀ m:MI,Slot "str" m.nm m.id
 | .split=>PySem.F.slot_str_split
 | .partition=>PySem.F.slot_str_partition
 | .join=>PySem.F.slot_str_join
 | .startswith=>PySem.F.slot_str_startswith
 | .endswith=>PySem.F.slot_str_endswith
theorem IE : ∀ m:MI,typeOf (.builtin m.id)=pure (.type "method_descriptor")
 | .split=>PySem.F.type_str_split
 | .partition=>PySem.F.type_str_partition
 | .join=>PySem.F.type_str_join
 | .startswith=>PySem.F.type_str_startswith
 | .endswith=>PySem.F.type_str_endswith
end
section
variable {K:PySem.W.Frag}
theorem nD {m:MI} (hm:m ≠ .join) {H:Hp} {x:V} {xs:List V} {dx:D} {ds:List D} {P:D→Prop} (hx:Dn K H x dx) (ha:aj K H xs ds) (h:Okk (miD m dx ds) P) : ∃ a b,dx = .str a∧ds=[.str b]∧x = .str a∧xs=[.str b]∧asc a=true∧a.length≤LIM∧asc b=true∧b.length≤LIM:=by
 have:(∃ a,dx = .str a) ∧ ∃ b,ds=[.str b]:=by
  cases m <;> first | exact absurd rfl hm | skip
  all_goals
   cases dx <;> first | exact h.elim | skip
   obtain ⟨d,rfl⟩:=i4 h rfl λd e r=>by cases d <;> rfl
   cases d <;> first | exact ⟨⟨_,rfl⟩,_,rfl⟩ | exact h.elim
 obtain ⟨⟨a,rfl⟩,b,rfl⟩:=this
 obtain ⟨v,rfl,hv⟩:=dn1 ha
 obtain ⟨rfl,h1,h2⟩:=jj hx
 obtain ⟨rfl,h3,h4⟩:=jj hv
 exact ⟨a,b,rfl,rfl,rfl,rfl,h1,h2,h3,h4⟩
theorem HP {H:Hp} {O:List Addr} {x:V} {xs:List V} {dx:D} {ds:List D} {P:D→Prop} (hx:Dn K (msk H O) x dx) (ha:aj K (msk H O) xs ds) (h:Okk (miD .join dx ds) P) : ∃ a b us ys,x = .str a∧asc a=true∧xs=[.ref b]∧(RL K (msk H O) b us∨SqT K (msk H O) b us)∧us=ys.map V.str∧(∀ x∈ys,asc x=true∧x.length≤LIM)∧(dR a ys).length≤LIM∧(ys.map (·.length)).sum+ys.length*a.length≤16777216∧P (.str (dR a ys)):=by
 cases dx <;> first | exact h.elim | skip
 rename_i a
 obtain ⟨d,rfl⟩:=i4 h rfl λd e r=>by cases d <;> rfl
 obtain ⟨v,rfl,hv⟩:=dn1 ha
 obtain ⟨rfl,h1,h2⟩:=jj hx
 have key : ∀ {us zs},aj K (msk H O) us zs→Okk ((opt (strsOf zs) id).bind λys=>if (dR a ys).length≤LIM∧(ys.map (·.length)).sum+ys.length*a.length≤16777216 then .ok (.str (dR a ys)) else .bad) P → ∃ ys,us=ys.map V.str∧(∀ x∈ys,asc x=true∧x.length≤LIM)∧(dR a ys).length≤LIM∧(ys.map (·.length)).sum+ys.length*a.length≤16777216∧P (.str (dR a ys)):=λ{us zs} h5 h=>by
  cases e:strsOf zs with
  | none=>rw [e] at h; exact h.elim
  | some ys =>
   rw [e] at h
   obtain ⟨⟨c1,c2⟩,h⟩:=fJ h
   obtain ⟨g1,g2⟩:=y_ h5 e
   exact ⟨ys,g1,g2,c1,c2,h⟩
 cases d with
 | list zs =>
  obtain ⟨b,us,rfl,k1,k2,k3⟩:=nu hv
  obtain ⟨ys,g1,g2,g3,g4,g5⟩:=key k3 h
  exact ⟨a,b,us,ys,rfl,h1,rfl,.inl k1,g1,g2,g3,g4,g5⟩
 | tuple zs =>
  obtain ⟨b,us,rfl,k1,k2,k3⟩:=r9 hv
  obtain ⟨ys,g1,g2,g3,g4,g5⟩:=key k3 h
  exact ⟨a,b,us,ys,rfl,h1,rfl,.inr k1,g1,g2,g3,g4,g5⟩
 | _=>exact h.elim
theorem KL (m:MI) (H:Hp) (O:List Addr) (x:V) (dx:D) (xs:List V) (ds:List D) (Q:VK) (t:Thr K H O) (hx:Dn K (msk H O) x dx) (ha:aj K (msk H O) xs ds)
  (h:Okk (miD m dx ds) λd => ∀ v H',Same H H'→Dn K (msk H' O) v d→Q v H'):(∃ z,x = .str z)∧rMI K m x xs H Q:=by
 cases m
 case split =>
  obtain ⟨a,b,rfl,rfl,rfl,rfl,h1,h2,h3,h4⟩:=nD (by intro z; cases z) hx ha h
  obtain ⟨⟨c1,c2⟩,h⟩:=fJ h
  refine ⟨⟨_,rfl⟩,a,b,rfl,rfl,c1,aF (Nat.succ_le_succ c2) (by decide),λp hp => ?_⟩
  rw [O0 c1 h3]
  refine h _ _ (a0 hp) (fU t hp ?_ (Ag _ (Ni h1 h2)))
  rw [aq]
  unfold lO
  rw [aq]
  have:=pq (S:=cl b) (k:=0) (acc:=[]) (l:=cl a)
  rw [ei] at c2
  omega
 case partition =>
  obtain ⟨a,b,rfl,rfl,rfl,rfl,h1,h2,h3,h4⟩:=nD (by intro z; cases z) hx ha h
  obtain ⟨c1,h⟩:=fJ h
  refine ⟨⟨_,rfl⟩,a,b,rfl,rfl,c1,aF h2 b9,λp hp => ?_⟩
  rw [OF c1]
  obtain ⟨g1,g2,g3⟩:=Mu h1 h2 h3 h4
  exact h _ _ (a0 hp) (eZ t hp (by show 3≤LIM; decide) (.cons (.str g1.1 g1.2) (.cons (.str g2.1 g2.2) (.cons (.str g3.1 g3.2) .nil))))
 case join =>
  obtain ⟨a,b,us,ys,rfl,h1,rfl,hb,rfl,g2,c1,c2,h⟩:=HP hx ha h
  refine ⟨⟨_,rfl⟩,a,_,ys,rfl,rfl,?_,c2,?_⟩
  ·exact hb.elim (λk => .inl (aQ k).sq) λk => .inr (cB k)
  ·rw [Hl]
   exact h _ _ (aM _) (.str (FT h1 λx hx=>(g2 x hx).1) c1)
 case startswith =>
  obtain ⟨a,b,rfl,rfl,rfl,rfl,h1,h2,h3,h4⟩:=nD (by intro z; cases z) hx ha h
  exact ⟨⟨_,rfl⟩,a,b,rfl,rfl,h _ _ (aM _) (.bl _)⟩
 case endswith =>
  obtain ⟨a,b,rfl,rfl,rfl,rfl,h1,h2,h3,h4⟩:=nD (by intro z; cases z) hx ha h
  exact ⟨⟨_,rfl⟩,a,b,rfl,rfl,h _ _ (aM _) (.bl _)⟩
end
noncomputable def kT:Expr→Bool
 | .Call (.Name id _) [] [] _ => !(id==("super" : Str))
 | _=>true
theorem Ig {o:Expr} {name:Str} {env:Env} {w:Sem Value} (h:kT o=true):attributeBase o name env w=w:=by
 unfold attributeBase
 split
 ·rename_i id p1 p2
  have:(id==("super" : Str))=false:=by simpa [kT] using h
  have e:(id != ("super" : Str))=true:=by rw [bne,this]; rfl
  simp [e]
 ·rfl
section
variable {X:Cx} {xp:XP} {W:WX} {e o:Expr} {es:List Expr} {fs:Sto→Rs (List D)} {fo:Sto→Rs D} {apos cpos:Pos}
noncomputable def cR:D→Rs Str
 | .str z => .ok z
 | _ => .bad
noncomputable def mtF (m:MI) (fo:Sto→Rs D) (fs:Sto→Rs (List D)):Sto→Rs D:=λρ=>(fo ρ).bind λx=>(cR x).bind λz=>(fs ρ).bind λds=>pur (miD m (.str z) ds)
theorem LZ (m:MI) (ho:CE X xp W o fo) (ha:CA X xp W (e::es) fs) (hb:kT o=true)
  (hfew:((backTo cpos (starEach (e::es) X.env)).all (λx => !x.1)&&(backToKw cpos (keywordEach [] X.env)).all (λx=>x.1.isSome)&&decide ((e::es).length+([]:List Keyword).length+(if ([]:List Keyword).isEmpty then 0 else 1)<30))=true)
  (hl:(apos.endLine==cpos.line)=true) (he:starEach (e::es) X.env=(false,eval e X.env)::starEach es X.env) (hpl:(backTo cpos (starEach es X.env)).any (·.1)=false) :
  CE X xp W (.Call (.Attribute o m.nm apos) (e::es) [] cpos) (mtF m fo fs):=
 bt (pe_bm PySem.F.plainAttrs_str (JX m) (IE m) (Ew m) ho ha (Ig hb) hfew hl he hpl) λσ H Q ⟨ρ,O,R,q⟩=>⟨ρ,O,R,(End.bind q).imp λdx H1 _ s1 q1 vx hx=>by
  cases dx with
  | str z =>
   refine ⟨by cases hx; rfl,ρ,O,R.mono s1,(End.bind (show End _ _ _ _ _ _ _ ((fs ρ).bind λds=>pur (miD m (.str z) ds)) from q1)).imp λds H2 _ s2 q2 vs hv => ?_⟩
   exact (KL m H2 O vx _ vs ds Q ((R.mono s1).mono s2).thr (bf (aH s2.sm) hx) hv ((jL q2).imp λd k v H' s h=>k H' s v h)).2
  | _=>exact q1.elim⟩
end
end Pf

set_option maxRecDepth 100000
namespace Pf
open PySem PySem.Spec PyProof.Rows L2
open AutoSeq1 (wpAny_loadPart')
theorem HZ (l:Addr) (items:Array Value) (n:Nat) (dct:Option Addr) (sl:Array (Option Value)) :
  Meets (Builtin.«enumerate.__new__» ⟨[.type "enumerate",.ref l],[]⟩) (λ_ R s=>s.heap.get? l=some { cls:=.type "tuple",dict:=dct,data:=.seq items n,slots:=sl } ∧
   R (.ok (.ret (.ref (s.heap.push { cls:=.type "tuple_iterator",data:=.fields #[.ref l,.int 0 0] }).objs.size)))
    {s with heap:=(s.heap.push { cls:=.type "tuple_iterator",data:=.fields #[.ref l,.int 0 0] }).push { cls:=.type "enumerate",data:=.fields #[.none,.bool false,.ref s.heap.objs.size,rawInt 0,.none,.none] } }):=
 .of_wp λprog w A R s h=>by
  obtain ⟨hp,g,d,tk,os⟩:=s; obtain ⟨hl,h⟩:=h
  have hsub:=sub_enumerate
  have hL:Heap.IsTuple (Shared.heap ⟨hp,g,d,tk,os⟩) l items:=⟨_,hl,rfl,n,rfl⟩
  wp_walk using wpAny_loadPart' hl
  refine wpAny_stack_any λst=>ah ?_
  split
  ·rename_i c _ _ _ _ _
   cases (c==Value.type "enumerate")
   ·wp_walk using wpAny_loadPart' hl,wpAny_pyIter_tuple hL
    exact ⟨_,rfl,h⟩
   ·wp_walk using wpAny_loadPart' hl,wpAny_pyIter_tuple hL
    exact ⟨_,rfl,h⟩
  ·wp_walk using wpAny_loadPart' hl,wpAny_pyIter_tuple hL
   exact ⟨_,rfl,h⟩
theorem FX {prog:Program} {w:World} {A:Around} {E:Value→Shared→Prop} {s:Shared} {l:Addr} {items:Array Value} {Q:Value→Shared→Prop} (hL:s.heap.IsTuple l items)
  (h : ∀ h',IsEnum h' (s.heap.objs.size+1) s.heap.objs.size 0 .none→h'.IsTupleIter s.heap.objs.size l 0→h'.objs.size=s.heap.objs.size+2 →
   (∀ b o,s.heap.get? b=some o→h'.get? b=some o)→Q (.ref (s.heap.objs.size+1)) { s with heap:=h' }) :
  wpAny (model prog w) A (call (.type "enumerate") [.ref l]) Q E s:=by
 obtain ⟨⟨c,dct,dt,sl⟩,hl,hc,n,hd⟩:=hL
 replace hc:c = .type "tuple":=hc
 replace hd:dt = .seq items n:=hd
 subst hc hd
 refine callType_new F.called_enumerate (by decide) (F.typeCall_enumerate_1 _) (F.newCall_enumerate_1 _) (λobj=>F.args_object_init_2 obj _) F.entry_enumerate_new
  (HZ l items n dct sl) ⟨hl,?_⟩
 have hz:(s.heap.push { cls:=.type "tuple_iterator",data:=.fields #[.ref l,.int 0 0] }).objs.size=s.heap.objs.size+1:=cU ..
 show _∧_
 rw [hz]
 have he:IsEnum ((s.heap.push { cls:=.type "tuple_iterator",data:=.fields #[.ref l,.int 0 0] }).push
   {cls:=.type "enumerate",data:=.fields #[.none,.bool false,.ref s.heap.objs.size,rawInt 0,.none,.none] }) (s.heap.objs.size+1) s.heap.objs.size 0 .none:=by
  have:=bT (s.heap.push { cls:=.type "tuple_iterator",data:=.fields #[.ref l,.int 0 0] })
   (o:={ cls:=.type "enumerate",data:=.fields #[.none,.bool false,.ref s.heap.objs.size,rawInt 0,.none,.none] }) rfl
  rw [hz] at this; exact this
 refine ⟨⟨_,he,rfl⟩,h _ he ⟨_,aD _ (bT _ rfl),rfl,rfl⟩ (by rw [cU,hz]) λb o x=>aD _ (aD _ x)⟩
noncomputable def uh (K:PySem.W.Frag) (a:Addr):It:=
 ⟨λi H => ∃ (xs:List V) (x:V),SqT K H a xs∧xs[i]? = some x,λi H v H' => ∃ T x,v = .ref T∧H T=none∧H'=upd H T (.tup [.int (i:Nat),x]) ∧ ∀ xs,SqT K H a xs→xs[i]? = some x,λi H => ∃ xs:List V,SqT K H a xs∧xs.length≤i⟩
theorem GH {h:Heap} {e it a:Addr} {i:Int} {old:Value} {items:Array Value} (he:IsEnum h e it i old) (ht:h.IsTuple a items):e≠a:=λz=>by
 subst z
 obtain ⟨o,ho,hc,_⟩:=ht
 have he:h.get? e=some _:=he
 rw [he] at ho
 cases ho
 simp at hc
theorem xl {h:Heap} {it a:Addr} {i:Nat} {items:Array Value} (hi:h.IsTupleIter it a i) (ht:h.IsTuple a items):a≠it:=λz=>by
 subst z
 obtain ⟨o,ho,hc,_⟩:=ht
 obtain ⟨o',ho',hc',_⟩:=hi
 rw [ho] at ho'
 cases ho'
 rw [hc] at hc'
 simp at hc'
theorem Ij {prog:Program} {w:World} {A:Around} {E:Value→Shared→Prop} {s:Shared} {e it t:Addr} {k:Int} {i:Nat} {old:Value} {items:Array Value} {Q:Option Value→Shared→Prop} (hh:A.handled=none) (he:IsEnum s.heap e it k old) (hit:s.heap.IsTupleIter it t i) (ht:s.heap.IsTuple t items) (hx:items.size≤i)
  (hQ : ∀ h',Heap.ExtBut it s.heap h'→Q none { s with heap:=h' }):wpAny (model prog w) A (pyNext (.ref e)) Q E s:=by
 have hT:s.TypeIs (.ref e) "enumerate":=⟨_,he,rfl⟩
 unfold pyNext
 refine af (wpAny_attempt (wpAny_callSpecial?_slot (name:=Str.ofString "__next__") hT F.slot_enumerate_next
  (i7 F.slot_enumerate_next hT F.entry_enumerate_next ?_ (F.args_enumerate_next_1 _))))
 show wpAny _ _ (field (.ref e) 2 >>= _) _ _ _
 refine af (dH he rfl (x:=.ref it) rfl ?_)
 have hh1:A.in1.handled=none:=hh
 refine af (wpAny_nextOf_tuple_end hh1 hit ht (Array.getElem?_eq_none hx) λh' x he' hx' => ?_)
 obtain ⟨o,ho,hc⟩:=hx'
 refine af (wpAny_isInstance (T:= "StopIteration") (b:=true) ⟨o,ho,hc⟩ isSubtype_stop ?_)
 exact ah (hQ _ he')
theorem Pr {P:Program} {w:World} {K:PySem.W.Frag} {elts:List Expr} {kk:Nat} {tpos:Pos} (a e it:Addr) :
  Turn P w K (.Tuple elts kk tpos) (uh K a) [e,it] e (λi h=>(∃ old,IsEnum h e it ((i:Nat):Int) old)∧h.IsTupleIter it a i∧e≠it) where
 mem:=by simp
 obj:=λi h st b hb=>by
  obtain ⟨⟨old,he⟩,⟨o,ho,hc,hd⟩,_⟩:=st
  have e':b=e∨b=it:=by simpa using hb
  rcases e' with z | z
  ·rw [z]; exact ⟨_,he,λv q=>nomatch q⟩
  ·rw [z]; exact ⟨o,ho,λv q=>by rw [hd] at q; cases q⟩
 keep:=λi h h' st k=>let ⟨⟨old,he⟩,hi,hne⟩:=st; ⟨⟨old,k e (by simp) _ he⟩,hi.at λo q=>k it (by simp) o q,hne⟩
 item:=by
  intro X hP hw hK hc i pins s σ H E I hf st hg
  subst hP hw hK
  obtain ⟨⟨old,he⟩,hit,hne⟩:=st
  obtain ⟨xs,x,hq,hx⟩:=hg
  obtain ⟨its,rv,p,hz⟩:=I.tuple hq
  obtain ⟨u,hu,ru⟩:=rv.get hx
  have hp:s.heap.IsTuple a its.toArray:=p
  have hel:e<s.heap.objs.size:=bD he
  have hil:it<s.heap.objs.size:=by obtain ⟨_,q,_⟩:=hit; exact bD q
  have hea:=GH he hp
  have hai:=xl hit hp
  have hh:X.A.in1.handled=none:=I.ok.hd hc
  have D:=Draws.tuple (prog:=X.prog) (w:=X.w) hh it a hai its.toArray
  have hlt:i<its.toArray.size:=by
   rw [List.size_toArray]
   exact (List.getElem?_eq_some_iff.mp hu).1
  refine wpAny_pyNext_enum_itemD D he ⟨hit,hp⟩ hlt hne (by simp only [cG,fm,or_false,not_or]; exact ⟨hne,hea⟩) λx' h' tk hPx ho hst' hT hsz hk => ?_
  have hxu:x'=u:=by
   have h1:its.toArray[i]? = some x':=hPx
   have h2:its.toArray[i]? = some u:=by simpa using hu
   exact bQ (h1.symm.trans h2)
  subst hxu
  refine ⟨_,rfl,wpAny_letOwnedTupleGo_enum (s:={ s with heap:=h',toks:=tk+1 }) ho λh'' he' sb => ?_⟩
  have hT2:h''.get? s.heap.objs.size=some { cls:=.type "tuple",data:=.seq #[.int i tk,x'] }:=(sb.2 _ (fS hel)).trans hT
  have new:ObjOk X.prog X.w (upd H s.heap.objs.size (.tup [.int (i:Nat),x])) h'' s.heap.objs.size (.tup [.int (i:Nat),x]):=
   ⟨by show 2≤sizeLine; decide,[.int i tk,x'],.cons ⟨_,rfl⟩ (.cons ru .nil),⟨_,hT2,rfl,_,rfl⟩⟩
  have I1:Inv X pins σ (upd H s.heap.objs.size (.tup [.int (i:Nat),x])) { s with heap:=h'',toks:=tk+1 }:=
   I.turnedNew (ch:=[e,it]) (λb ob hb q=>(sb.2 b (λz=>hb (by simp [z]))).trans (hk b ob (λz=>hb (by simp [z])) (λz=>hb (by simp [z])) q)) hf (aC _) new
  refine ⟨.ref s.heap.objs.size,_,I1,rfl,⟨_,x,rfl,I.hok.fresh (aC _),rfl,λys hy=>by rw [I.tuple_inj hy hq]; exact hx⟩,⟨⟨x',?_⟩,hst'.1.at λo q=>(sb.2 it (Ne.symm hne)).trans q,hne⟩,λb hb => ?_⟩
  ·have e1:((i+1:Nat):Int)=(i:Int)+1:=by omega
   rw [e1]; exact he'
  ·have hb':b<s.heap.objs.size:=by
    have e':b=e∨b=it:=by simpa using hb
    rcases e' with z | z
    ·rw [z]; exact hel
    ·rw [z]; exact hil
   rw [ax (bU hb')]
   exact (hf b hb).1
 done:=by
  intro X hP hw hK hc i pins s σ H E I hf st hg
  subst hP hw hK
  obtain ⟨⟨old,he⟩,hit,hne⟩:=st
  obtain ⟨xs,hq,hx⟩:=hg
  obtain ⟨its,rv,p,hz⟩:=I.tuple hq
  obtain ⟨f0,f1,f2,f3,f4,f5⟩:=hf it (by simp)
  have hp:s.heap.IsTuple a its.toArray:=p
  have hai:=xl hit hp
  exact Ij (I.ok.hd hc) he hit hp (by have:=rv.length; rw [List.size_toArray]; omega) λh' eb=>⟨rfl,I.turned (t':=s.toks) (λb o hb q=>eb b o hb q) f0 f1 f3 f4 f5⟩
 self:=λA i s Q E st h=>let ⟨⟨_,he⟩,_⟩:=st; wpAny_pyIter_enum he h
noncomputable def IT (K:PySem.W.Frag) (ta:TA):TI:=λσ H R=>ta σ H λvs H1 => ∃ a xs,vs=[.ref a]∧SqT K H1 a xs∧R (uh K a) H1
theorem Ks {X:Cx} {e:Expr} {ta:TA} {p pos tpos:Pos} {elts:List Expr} {kk:Nat} (hg:Gl X "enumerate") (hm:X.mg "enumerate" = none) (ha:PA X [e] ta) (hs:starEach [e] X.env=[(false,eval e X.env)]:=by rfl) :
  PI X (.Tuple elts kk tpos) (.Call (.Name "enumerate" p) [e] [] pos) (IT X.K ta):=by
 refine ⟨λpins s σ H R I h => ?_⟩
 refine Call_ (ld_blt I hg hm boot_enumerate (PyProof.Rows.callWith_type1 (thn (ha.run pos pins s σ H _ I h) λus s1 ⟨vs,H1,I1,r1,q1⟩ => ?_) hs rfl))
 obtain ⟨a,xs,ex,hq,q⟩:=q1
 subst ex
 cases r1 with
 | cons r rr =>
  cases rr
  cases r
  obtain ⟨its,rv,p',hz⟩:=I1.tuple hq
  refine FX (items:=its.toArray) p' λh' he hit hsz hk=>wpAny_pyIter_enum he ?_
  have I2:Inv X pins σ H1 { s1 with heap:=h' }:=I1.kept (t':=s1.toks) hk
  refine ⟨s1.heap.objs.size+1,[s1.heap.objs.size+1,s1.heap.objs.size],_,_,H1,rfl,I2,Pr a (s1.heap.objs.size+1) s1.heap.objs.size,⟨⟨.none,he⟩,hit,Nat.succ_ne_self _⟩,λb hb => ?_,q⟩
  have e':b=s1.heap.objs.size+1∨b=s1.heap.objs.size:=by simpa using hb
  have hle:s1.heap.objs.size≤b:=by
   rcases e' with z | z
   ·rw [z]; exact Nat.le_add_right _ _
   ·rw [z]; exact aC _
  exact I1.fpOk hle (I1.hok.fresh hle)
end Pf

set_option maxRecDepth 100000
namespace Pf
open PySem PySem.Spec L2
inductive Tg where
 | nm (i:Nat)
 | tp (is:List Nat)
 | ns (i:Nat) (js:List Nat)
noncomputable def Tg.slots:Tg→List Nat
 | .nm i=>[i]
 | .tp is=>is
 | .ns i js=>i::js
noncomputable def b_:List Nat→List D→Sto→Sto
 | i::is,d::ds,ρ=>b_ is ds (ρ.set i (some (.pd d)))
 | _,_,ρ=>ρ
noncomputable def mR:D→Rs (List D)
 | .tuple ds => .ok ds
 | .list ds => .ok ds
 | _ => .bad
noncomputable def nsT (i:Nat) (js:List Nat) (ρ:Sto):D→Rs Sto
 | .tuple [x,.tuple es]=>if es.length=js.length then .ok (b_ js es (ρ.set i (some (.pd x)))) else .bad
 | _ => .bad
noncomputable def bx:Tg→D→Sto→Rs Sto
 | .nm i,d,ρ => .ok (ρ.set i (some (.pd d)))
 | .tp is,d,ρ=>(mR d).bind λds=>if ds.length=is.length then .ok (b_ is ds ρ) else .bad
 | .ns i js,d,ρ=>nsT i js ρ d
theorem sr {i:Nat} {js:List Nat} {d:D} {ρ ρ':Sto} (h0:bx (.ns i js) d ρ = .ok ρ') : ∃ x es,d = .tuple [x,.tuple es]∧es.length=js.length∧ρ'=b_ js es (ρ.set i (some (.pd x))):=by
 have h:nsT i js ρ d = .ok ρ':=h0
 clear h0
 unfold nsT at h
 split at h
 ·rename_i x es
  by_cases hl:es.length=js.length
  ·rw [if_pos hl] at h
   cases h
   exact ⟨x,es,rfl,hl,rfl⟩
  ·rw [if_neg hl] at h; cases h
 ·cases h
theorem PM {i:Nat} {js:List Nat} {d:D} {ρ:Sto} (e:EX):bx (.ns i js) d ρ ≠ .ex e:=by
 intro h0
 have h:nsT i js ρ d = .ex e:=h0
 clear h0
 unfold nsT at h
 split at h
 ·split at h <;> cases h
 ·cases h
noncomputable def jl:List Nat→List V→L2.St→L2.St
 | i::is,d::ds,σ=>jl is ds (σ.set i (some d))
 | _,_,σ=>σ
theorem l9 {K:PySem.W.Frag} {xp:XP} {H:Hp} {O:List Addr} : ∀ {is:List Nat} {vs:List V} {ds:List D} {σ:L2.St} {ρ:Sto},Rel K xp σ H ρ O→aj K (msk H O) vs ds→Rel K xp (jl is vs σ) H (b_ is ds ρ) O
 | [],_,_,_,_,r,_=>r
 | _::_,_,_,_,_,r,.nil=>r
 | i::is,_,_,_,_,r,.cons h t=>l9 (is:=is) (r.set h) t
theorem lU : ∀ {vs:List Nat} {σ:L2.St} {i:Nat} {x:Option V},i∈vs→wipe (σ.set i x) vs=wipe σ vs
 | [],_,_,_,h=>by cases h
 | v::vs,σ,i,x,h=>by
  show (wipe (σ.set i x) vs).set v none=(wipe σ vs).set v none
  by_cases hi:i∈vs
  ·rw [lU hi]
  ·rcases cG.mp h with rfl | h
   ·have : ∀ (ws:List Nat) (τ:L2.St),(wipe (τ.set i x) ws).set i none=(wipe τ ws).set i none:=by
     intro ws
     induction ws with
     | nil=>intro τ; show (τ.set i x).set i none=τ.set i none; rw [List.set_set]
     | cons w ws ih =>
      intro τ
      show ((wipe (τ.set i x) ws).set w none).set i none=((wipe τ ws).set w none).set i none
      by_cases hw:w=i
      ·subst hw; rw [List.set_set,List.set_set]; exact ih τ
      ·rw [List.set_comm _ _ hw,List.set_comm _ _ hw,ih τ]
    exact this vs σ
   ·exact absurd h hi
theorem lr {vs:List Nat} : ∀ {is:List Nat} {xs:List V} {σ:L2.St},(∀ i∈is,i∈vs)→wipe (jl is xs σ) vs=wipe σ vs
 | [],_,_,_=>rfl
 | _::_,[],_,_=>rfl
 | i::is,x::xs,σ,h=>by
  show wipe (jl is xs (σ.set i (some x))) vs=wipe σ vs
  rw [lr λj hj=>h j (aE _ hj),lU (h i (by simp))]
noncomputable def rdG (K:PySem.W.Frag) (xp:XP) (t:Tg):TG:=λv σ H Q => ∃ ρ O d ρ',Rel K xp σ H ρ O∧Dn K (msk H O) v d∧bx t d ρ = .ok ρ' ∧
 ∀ σ',Rel K xp σ' H ρ' O→(∀ vs:List Nat,(∀ i∈t.slots,i∈vs)→wipe σ' vs=wipe σ vs)→Q σ' H
noncomputable abbrev CG (X:Cx) (xp:XP) (tg:Expr) (t:Tg):Prop:=PG X tg (rdG X.K xp t)
theorem qW {X:Cx} {tg:Expr} {g g':TG} (h:PG X tg g) (k : ∀ v σ H Q,g' v σ H Q→g v σ H Q):PG X tg g':=⟨λpins s σ H v u Q I r q=>h.run pins s σ H v u Q I r (k v σ H Q q)⟩
theorem JU {X:Cx} {tg:Expr} {g g':TG} (h:PG X tg g) (h':PG X tg g'):PG X tg (λv σ H Q=>g v σ H Q∨g' v σ H Q):=
 ⟨λpins s σ H v u Q I r q=>q.elim (h.run pins s σ H v u Q I r) (h'.run pins s σ H v u Q I r)⟩
section
variable {X:Cx} {xp:XP}
theorem DH {i:Nat} {x:Str} {pos:Pos} (hN:X.N.Nodup) (hi:X.N[i]? = some x) (hx:Loc X.env.scope x) (hf:X.fn x=true∨X.env.scope.names.lookup x=some .local):CG X xp (.Name x pos) (.nm i):=
 qW (pg_name hN hi hx hf) λv σ H Q ⟨ρ,O,d,ρ',R,hd,e,k⟩=>by
  cases e
  exact k _ (R.set hd) λvs h=>lU (h i (by simp [Tg.slots]))
noncomputable def rR:List Nat→TGs
 | []=>gNil
 | i::is=>gCons (gName i) (rR is)
theorem nq : ∀ {is:List Nat} {vs:List V} {σ:L2.St} {H:Hp} {Q:L2.St→Hp→Prop},vs.length=is.length→Q (jl is vs σ) H→rR is vs σ H Q
 | [],[],_,_,_,_,h=>⟨rfl,h⟩
 | i::is,v::vs,σ,H,Q,hl,h=>⟨v,vs,rfl,nq (by simpa using hl) h⟩
noncomputable abbrev CGs (X:Cx) (es:List Expr) (is:List Nat):Prop:=PGs X es (rR is)
theorem Jm {es:List Expr} {is:List Nat} {k:Nat} {pos:Pos} (hc:X.calm=true) (h:CGs X es is) (hn:(assignEach es X.env).length=is.length) (hst:(assignEach es X.env).findIdx? (·.1)=none):CG X xp (.Tuple es k pos) (.tp is):=
 qW (JU (pg_tup hc h hn hst) (pg_lst hc h hn hst)) λv σ H Q ⟨ρ,O,d,ρ',R,hd,e,q⟩=>by
  match d,hd,e with
  | .list ds,.lst (a:=a) (xs:=vs) h1 h2 h3,e =>
   have e:(if ds.length=is.length then Rs.ok (b_ is ds ρ) else .bad) = .ok ρ':=e
   by_cases hl:ds.length=is.length
   ·rw [if_pos hl] at e
    cases e
    have hl':vs.length=is.length:=(aK h3).trans hl
    exact .inr ⟨a,vs,rfl,(aQ h1).sq,hl',nq hl' (q _ (l9 R h3) λws hw=>lr hw)⟩
   ·rw [if_neg hl] at e; cases e
  | .tuple ds,.tup (a:=a) (xs:=vs) h1 h2 h3,e =>
   have e:(if ds.length=is.length then Rs.ok (b_ is ds ρ) else .bad) = .ok ρ':=e
   by_cases hl:ds.length=is.length
   ·rw [if_pos hl] at e
    cases e
    have hl':vs.length=is.length:=(aK h3).trans hl
    exact .inl ⟨a,vs,rfl,cB h1,hl',nq hl' (q _ (l9 R h3) λws hw=>lr hw)⟩
   ·rw [if_neg hl] at e; cases e
theorem NZ {es:List Expr} {i:Nat} {js:List Nat} {k k2:Nat} {x:Str} {p pos pos2:Pos} (hc:X.calm=true) (hN:X.N.Nodup) (hi:X.N[i]? = some x) (hx:Loc X.env.scope x) (hf:X.fn x=true∨X.env.scope.names.lookup x=some .local) (h:CGs X es js) (hn:(assignEach es X.env).length=js.length) (hst:(assignEach es X.env).findIdx? (·.1)=none) :
  CG X xp (.Tuple [.Name x p,.Tuple es k pos] k2 pos2) (.ns i js):=
 qW (pg_tup hc (pgs_cons (pg_name hN hi hx hf) (pgs_cons (pg_tup hc h hn hst) pgs_nil rfl) rfl) rfl rfl) λv σ H Q ⟨ρ,O,d,ρ',R,hd,e,q⟩=>by
  obtain ⟨y,ds,rfl,hl,rfl⟩:=sr e
  cases hd with
  | @tup a vs _ h1 h2 h3 =>
   cases h3 with
   | cons hy h4 =>
    cases h4 with
    | cons hz h5 =>
     cases h5
     cases hz with
     | @tup b ws _ g1 g2 g3 =>
      have hl':ws.length=js.length:=(aK g3).trans hl
      refine ⟨a,_,rfl,cB h1,rfl,_,_,rfl,_,[],rfl,b,ws,rfl,cB g1,hl',nq hl' ⟨rfl,q _ (l9 (R.set hy) g3) λvs hv => ?_⟩⟩
      rw [lr λj hj=>hv j (aE _ hj),lU (hv i bu)]
end
structure dq (K:PySem.W.Frag) (J:It) (ds:List D) (G:Hp→Prop):Prop where
 mono : ∀ F F',G F→Sm F F'→G F'
 goes : ∀ i H O,i<ds.length→G (msk H O)→J.go i H
 stops : ∀ H O,G (msk H O)→J.stop ds.length H
 yields : ∀ i H O x H',i<ds.length→G (msk H O)→Thr K H O→J.yld i H x H'→Same H H' ∧ ∃ d,ds[i]? = some d∧Dn K (msk H' O) x d
noncomputable def rdI (K:PySem.W.Frag) (mg:Str→Option Value) (xp:XP) (W:WX) (f:Sto→Rs (List D)):TI:=λσ H R => ∃ ρ O,Rel K xp σ H ρ O ∧
 End K mg W O σ H (λds H' => ∀ J G,G (msk H' O)→dq K J ds G→R J H') (f ρ)
noncomputable abbrev CI (X:Cx) (xp:XP) (W:WX) (tg iter:Expr) (f:Sto→Rs (List D)):Prop:=PI X tg iter (rdI X.K X.mg xp W f)
theorem gJ {X:Cx} {tg e:Expr} {t t':TI} (h:PI X tg e t) (k : ∀ σ H Q,t' σ H Q→t σ H Q):PI X tg e t':=⟨λpins s σ H R I q=>h.run pins s σ H R I (k σ H R q)⟩
theorem ny {X:Cx} {tg e:Expr} {t t':TI} (h:PI X tg e t) (h':PI X tg e t'):PI X tg e (λσ H R=>t σ H R∨t' σ H R):=
 ⟨λpins s σ H R I q=>q.elim (h.run pins s σ H R I) (h'.run pins s σ H R I)⟩
noncomputable def keyOk:D→Bool
 | .int _=>true
 | .str x=>asc x&&decide (x.length≤LIM)
 | _=>false
noncomputable def fN:D→Rs (List D)
 | .dict kvs=>if (kvs.all λp=>keyOk p.1)=true then .ok (kvs.map (·.1)) else .bad
 | .list xs => .ok xs
 | .tuple xs => .ok xs
 | .str z => .ok ((cl z).map λc => .str (mk [c]))
 | _ => .bad
section
variable {K:PySem.W.Frag}
theorem OU {a:Addr} {vs:List V} {ds:List D}:dq K (Itl K a) ds (λF=>RL K F a vs∧aj K F vs ds) where
 mono:=λF F' h s=>⟨Sm.rl s h.1,bj s.sm h.2⟩
 goes:=λi H O hi h=>by
  have hi':i<vs.length:=by rw [aK h.2]; exact hi
  exact ⟨vs,vs[i],(aQ h.1).sq,by simp [hi']⟩
 stops:=λH O h=>⟨vs,(aQ h.1).sq,by rw [aK h.2]; exact aC _⟩
 yields:=λi H O x H' hi h t y=>by
  obtain ⟨rfl,y⟩:=y
  obtain ⟨d,h1,h2⟩:=dN h.2 (y vs (aQ h.1).sq)
  exact ⟨aM _,d,h1,h2⟩
theorem Oa {a:Addr} {vs:List V} {ds:List D}:dq K (Itt K a) ds (λF=>SqT K F a vs∧aj K F vs ds) where
 mono:=λF F' h s=>⟨Sm.jV s h.1,bj s.sm h.2⟩
 goes:=λi H O hi h=>by
  have hi':i<vs.length:=by rw [aK h.2]; exact hi
  exact ⟨vs,vs[i],cB h.1,by simp [hi']⟩
 stops:=λH O h=>⟨vs,cB h.1,by rw [aK h.2]; exact aC _⟩
 yields:=λi H O x H' hi h t y=>by
  obtain ⟨rfl,y⟩:=y
  obtain ⟨d,h1,h2⟩:=dN h.2 (y vs (cB h.1))
  exact ⟨aM _,d,h1,h2⟩
theorem DK {z:Str} (ha:asc z=true):dq K (Its z) ((cl z).map λc => .str (mk [c])) (λ_=>True) where
 mono:=λ_ _ _ _=>trivial
 goes:=λi H O hi _=>by
  rw [aq,bY] at hi
  exact hi
 stops:=λH O _=>by
  show z.cps.size≤_
  rw [aq,bY]
  exact aC _
 yields:=λi H O x H' hi _ t y=>by
  obtain ⟨rfl,c,h1,rfl⟩:=y
  have h2:(cl z)[i]? = some c:=by rw [kh]; exact h1
  exact ⟨aM _,_,by rw [List.getElem?_map,h2]; rfl,.str (zP ha (eA h2)) (len_one c)⟩
theorem zM {lo:Int} {n:Nat}:dq K (Itr lo n) ((List.range n).map λ(i:Nat) => .int (lo+i)) (λ_=>True) where
 mono:=λ_ _ _ _=>trivial
 goes:=λi H O hi _=>by
  show i<n
  simpa using hi
 stops:=λH O _=>by
  show n≤_
  simp
 yields:=λi H O x H' hi _ t y=>by
  obtain ⟨rfl,rfl⟩:=y
  have hi:i<n:=by simpa using hi
  exact ⟨aM _,_,by rw [List.getElem?_map,List.getElem?_range hi]; rfl,.int _⟩
noncomputable def cN (k:Nat):List D→List D
 | []=>[]
 | d::ds => .tuple [.int k,d]::cN (k+1) ds
theorem iR : ∀ (k:Nat) (ds:List D),(cN k ds).length=ds.length
 | _,[]=>rfl
 | k,_::ds=>bF Nat.succ (iR (k+1) ds)
theorem kJ : ∀ {k:Nat} {ds:List D} {i:Nat} {d:D},ds[i]? = some d→(cN k ds)[i]? = some (.tuple [.int (k+i:Nat),d])
 | _,[],_,_,h=>by simp at h
 | k,_::_,0,_,h=>by simp at h; subst h; rfl
 | k,_::ds,i+1,d,h=>by
  have:=kJ (k:=k+1) (i:=i) (d:=d) (by simpa using h)
  rw [show k+1+i=k+(i+1) by omega] at this
  simpa [cN] using this
theorem MX {a:Addr} {vs:List V} {ds:List D}:dq K (Ite K a) (cN 0 ds) (λF=>RL K F a vs∧aj K F vs ds) where
 mono:=λF F' h s=>⟨Sm.rl s h.1,bj s.sm h.2⟩
 goes:=λi H O hi h=>by
  rw [iR,← aK h.2] at hi
  exact ⟨vs,vs[i],(aQ h.1).sq,by simp [hi]⟩
 stops:=λH O h=>⟨vs,(aQ h.1).sq,by rw [iR,aK h.2]; exact aC _⟩
 yields:=λi H O x H' hi h t y=>by
  obtain ⟨T,x',rfl,h2,rfl,h4⟩:=y
  obtain ⟨d,g1,g2⟩:=dN h.2 (h4 vs (aQ h.1).sq)
  refine ⟨a0 h2,_,kJ g1,?_⟩
  rw [dG]
  exact eZ t h2 (by show 2≤LIM; decide) (.cons (.int _) (.cons g2 .nil))
theorem Pj {a:Addr} {vs:List V} {ds:List D}:dq K (uh K a) (cN 0 ds) (λF=>SqT K F a vs∧aj K F vs ds) where
 mono:=λF F' h s=>⟨Sm.jV s h.1,bj s.sm h.2⟩
 goes:=λi H O hi h=>by
  rw [iR,← aK h.2] at hi
  exact ⟨vs,vs[i],cB h.1,by simp [hi]⟩
 stops:=λH O h=>⟨vs,cB h.1,by rw [iR,aK h.2]; exact aC _⟩
 yields:=λi H O x H' hi h t y=>by
  obtain ⟨T,x',rfl,h2,rfl,h4⟩:=y
  obtain ⟨d,g1,g2⟩:=dN h.2 (h4 vs (cB h.1))
  refine ⟨a0 h2,_,kJ g1,?_⟩
  rw [dG]
  exact eZ t h2 (by show 2≤LIM; decide) (.cons (.int _) (.cons g2 .nil))
end
section
variable {K:PySem.W.Frag}
theorem AG {H:Hp} : ∀ {kvs:List (Key × V)} {ds:List (D × D)},bH K H kvs ds → ∀ (i:Nat) (k:Key) (v:V),kvs[i]? = some (k,v) → ∃ d,ds[i]? = some (keyD k,d)
 | _,_,.nil,i,k,v,h=>by simp at h
 | _,_,.cons (k:=k0) (d:=d0) _ t,i,k,v,h=>by
  cases i with
  | zero =>
   rw [List.getElem?_cons_zero] at h
   cases h
   exact ⟨d0,rfl⟩
  | succ i=>exact AG t i k v (by simpa using h)
theorem tU {H:Hp} : ∀ {kvs:List (Key × V)} {ds:List (D × D)},bH K H kvs ds→kvs.length=ds.length
 | _,_,.nil=>rfl
 | _,_,.cons _ t=>bF Nat.succ (tU t)
theorem Jo {a:Addr} {o:Obj} {kvs:List (Key × V)} {ds:List (D × D)} (ok:(ds.all λp=>keyOk p.1)=true):dq K (Itk a o kvs) (ds.map (·.1)) (λF=>F a=some (.frz o (.dK kvs))∧bH K F kvs ds) where
 mono:=λF F' h s=>⟨s _ _ h.1,eJ s.sm h.2⟩
 goes:=λi H O hi h=>⟨(dJ h.1).2,by rw [aq] at hi; rw [tU h.2]; exact hi⟩
 stops:=λH O h=>⟨(dJ h.1).2,by rw [aq,tU h.2]; exact aC _⟩
 yields:=λi H O x H' hi h t y=>by
  obtain ⟨rfl,k,v,e,rfl⟩:=y
  obtain ⟨d,e2⟩:=AG h.2 i k v e
  refine ⟨aM _,keyD k,by rw [List.getElem?_map,e2]; rfl,?_⟩
  have kk:=j5.mp ok _ (eA e2)
  cases k with
  | inl i=>exact .int i
  | inr x =>
   have kk:(asc x&&decide (x.length≤LIM))=true:=kk
   rw [ai,aw] at kk
   exact .str kk.1 kk.2
end
section
variable {X:Cx} {xp:XP} {W:WX} {tg e a b:Expr} {f fa fb:Sto→Rs D} {es:List Expr} {p pos:Pos}
theorem LH (h:CE X xp W e f):CI X xp W tg e (λρ=>(f ρ).bind fN):=
 gJ (ny (pi_list h) (ny (pi_tup h) (ny (pi_str h) (pi_keys h)))) λσ H R ⟨ρ,O,rl,q⟩=>by
  have q:End X.K X.mg W O σ H (λds H' => ∀ J G,G (msk H' O)→dq X.K J ds G→R J H') ((f ρ).bind fN):=q
  cases e1:f ρ with
  | ok d =>
   have g : ∀ {P:D→Hp→Prop},(∀ H',Same H H'→P d H')→End X.K X.mg W O σ H P (f ρ):=λk=>by rw [e1]; exact k
   rw [e1] at q
   cases d with
   | list ds=>exact .inl ⟨ρ,O,rl,g λH' s v hv=>by
     cases hv with
     | lst h1 h2 h3=>exact ⟨_,rfl,⟨_,(aQ h1).sq⟩,q H' s _ _ ⟨h1,h3⟩ OU⟩⟩
   | tuple ds=>exact .inr (.inl ⟨ρ,O,rl,g λH' s v hv=>by
     cases hv with
     | tup h1 h2 h3=>exact ⟨_,rfl,⟨_,cB h1⟩,q H' s _ _ ⟨h1,h3⟩ Oa⟩⟩)
   | str z=>exact .inr (.inr (.inl ⟨ρ,O,rl,g λH' s v hv=>by
     cases hv with
     | str h1 h2=>exact ⟨_,rfl,q H' s _ (λ_=>True) trivial (DK h1)⟩⟩))
   | dict ds =>
    have q:End X.K X.mg W O σ H (λds H' => ∀ J G,G (msk H' O)→dq X.K J ds G→R J H') (if (ds.all λp=>keyOk p.1)=true then Rs.ok (ds.map (·.1)) else .bad):=q
    by_cases ok:(ds.all λp=>keyOk p.1)=true
    ·rw [if_pos ok] at q
     exact .inr (.inr (.inr ⟨ρ,O,rl,g λH' s v hv=>by
      cases hv with
      | dct h1 h2 h3=>exact ⟨_,_,rfl,.inl ⟨_,(dJ h1).2,q H' s _ _ ⟨h1,h3⟩ (Jo ok)⟩⟩
      | ins _ _ _=>cases ok
      | exc _ _ _ _=>cases ok⟩))
    ·rw [if_neg ok] at q
     exact q.elim
   | none=>exact q.elim
   | bool b=>exact q.elim
   | int b=>exact q.elim
  | ex x =>
   rw [e1] at q
   exact .inl ⟨ρ,O,rl,by rw [e1]; exact q⟩
  | bad=>rw [e1] at q; exact q.elim
noncomputable def gU (n:Int):Bool:=decide (-1000000≤n)&&decide (n≤1000000)
theorem jA {n:Int}:gU n=true ↔ -1000000≤n∧n≤1000000:=by simp [gU]
noncomputable def rng (lo:Int) (n:Nat):List D:=(List.range n).map λ(i:Nat) => .int (lo+i)
noncomputable def hJ:D→Rs (List D)
 | .int n=>if gU n=true then .ok (rng 0 n.toNat) else .bad
 | _ => .bad
noncomputable def lE:D→D→Rs (List D)
 | .int m,.int n=>if gU m=true∧gU n=true then .ok (rng m (n-m).toNat) else .bad
 | _,_ => .bad
theorem cO {K:PySem.W.Frag} {mg:Str→Option Value} {O:List Addr} {σ:L2.St} {H:Hp} {α:Type} {P:α→Hp→Prop} {c:Prop} [Decidable c] {r:Rs α} (h:End K mg W O σ H P (if c then r else .bad)):c∧End K mg W O σ H P r:=by
 by_cases e:c
 ·rw [if_pos e] at h; exact ⟨e,h⟩
 ·rw [if_neg e] at h; exact h.elim
theorem N_ (hg:Gl X "range") (hm:X.mg "range" = none) (ha:CE X xp W a fa) (hs:starEach [a] X.env=(false,eval a X.env)::starEach [] X.env):CI X xp W tg (.Call (.Name "range" p) [a] [] pos) (λρ=>(fa ρ).bind hJ):=
 gJ (pi_range1 hg hm (bG ha cu hs) hs) λσ H R ⟨ρ,O,rl,q⟩=>⟨ρ,O,rl,(End.bind q).imp λd H' _ s k v hv=>by
  match d,hv,k with
  | .int n,.int _,k =>
   obtain ⟨hl,k⟩:=cO k
   have hl:=jA.mp hl
   exact ⟨n,rfl,by omega,by omega,k H' (aM _) _ (λ_=>True) trivial zM⟩⟩
theorem EH (hg:Gl X "range") (hm:X.mg "range" = none) (ha:CE X xp W a fa) (hb:CE X xp W b fb) (hs1:starEach [b] X.env=(false,eval b X.env)::starEach [] X.env) (hs:starEach [a,b] X.env=(false,eval a X.env)::starEach [b] X.env) :
  CI X xp W tg (.Call (.Name "range" p) [a,b] [] pos) (λρ=>(fa ρ).bind λx=>(fb ρ).bind λy=>lE x y):=
 gJ (pi_range2 hg hm (bG ha (bG hb cu hs1) hs) (by rw [hs,hs1]; rfl) hs1) λσ H R ⟨ρ,O,rl,q⟩=>⟨ρ,O,rl,(End.bind q).imp λd H1 _ s k v hv=>⟨ρ,O,rl.mono s,(End.bind k).imp λd2 H2 _ s2 k2 v2 hv2=>by
  match d,hv,d2,hv2,k2 with
  | .int m,.int _,.int n,.int _,k2 =>
   obtain ⟨⟨hl1,hl2⟩,k2⟩:=cO k2
   have hl1:=jA.mp hl1
   have hl2:=jA.mp hl2
   exact ⟨m,n,rfl,⟨by omega,by omega,by omega,by omega⟩,k2 H2 (aM _) _ (λ_=>True) trivial zM⟩⟩⟩
noncomputable def lT:D→Rs (List D)
 | .list xs => .ok (cN 0 xs)
 | .tuple xs => .ok (cN 0 xs)
 | _ => .bad
theorem Jg {elts:List Expr} {kk:Nat} {tpos:Pos} (hg:Gl X "enumerate") (hm:X.mg "enumerate" = none) (ha:CE X xp W a fa) (hs:starEach [a] X.env=[(false,eval a X.env)]) :
  CI X xp W (.Tuple elts kk tpos) (.Call (.Name "enumerate" p) [a] [] pos) (λρ=>(fa ρ).bind lT):=
 gJ (ny (pi_enum hg hm (bG ha cu hs) hs) (Ks hg hm (bG ha cu hs) hs)) λσ H R ⟨ρ,O,rl,q⟩=>by
  have q:End X.K X.mg W O σ H (λds H' => ∀ J G,G (msk H' O)→dq X.K J ds G→R J H') ((fa ρ).bind lT):=q
  cases e1:fa ρ with
  | ok d =>
   have g : ∀ {P:D→Hp→Prop},(∀ H',Same H H'→P d H')→End X.K X.mg W O σ H P (fa ρ):=λk=>by rw [e1]; exact k
   rw [e1] at q
   cases d with
   | list xs=>exact .inl ⟨ρ,O,rl,g λH' s v hv=>by
     cases hv with
     | lst h1 h2 h3=>exact ⟨_,_,rfl,(aQ h1).sq,q H' s _ _ ⟨h1,h3⟩ MX⟩⟩
   | tuple xs=>exact .inr ⟨ρ,O,rl,g λH' s v hv=>by
     cases hv with
     | tup h1 h2 h3=>exact ⟨_,_,rfl,cB h1,q H' s _ _ ⟨h1,h3⟩ Pj⟩⟩
   | none=>exact q.elim
   | bool b=>exact q.elim
   | int b=>exact q.elim
   | str b=>exact q.elim
   | dict b=>exact q.elim
  | ex x =>
   rw [e1] at q
   exact .inl ⟨ρ,O,rl,by rw [e1]; exact q⟩
  | bad=>rw [e1] at q; exact q.elim
end
end Pf

set_option maxRecDepth 100000
namespace Pf
open PySem PySem.Spec L2
noncomputable def aJ (ρ:Sto):List Nat→Sto
 | []=>ρ
 | v::vs=>(aJ ρ vs).set v none
noncomputable def bo {α:Type}:Rs α→Rs α
 | .ok a => .ok a
 | _ => .bad
noncomputable def gR (t:Tg) (cond:Sto→Rs Bool) (elt:Sto→Rs D) (ρ0:Sto):List D→Rs (List D)
 | [] => .ok []
 | d::ds=>(bx t d ρ0).bind λρ1=>(bo (cond ρ1)).bind λb =>
  if b=true then (bo (elt ρ1)).bind λy=>(gR t cond elt ρ0 ds).bind λys => .ok (y::ys) else gR t cond elt ρ0 ds
noncomputable def lcF (t:Tg) (vs:List Nat) (items:Sto→Rs (List D)) (cond:Sto→Rs Bool) (elt:Sto→Rs D):Sto→Rs (List D):=λρ=>(items ρ).bind λds=>if ds.length≤LIM then bo (gR t cond elt (aJ ρ vs) ds) else .bad
noncomputable abbrev W0:WX:=λ_ _ _ _=>False
section
variable {K:PySem.W.Frag} {xp:XP}
theorem jU {σ:L2.St} {H:Hp} {ρ:Sto} {O:List Addr} (r:Rel K xp σ H ρ O) : ∀ vs:List Nat,Rel K xp (wipe σ vs) H (aJ ρ vs) O
 | []=>r
 | v::vs=>(jU r vs).unset v none
theorem Rel.grow {σ:L2.St} {H H':Hp} {ρ:Sto} {O:List Addr} {p:Addr} (r:Rel K xp σ H ρ O) (hp:H p=none) (s:Same H H') (hp':H' p≠none):Rel K xp σ H' ρ (p::O):=by
 have sm:Sm (msk H O) (msk H' (p::O)):=dZ hp s.sm
 refine ⟨r.len,λi sv h => ?_,r.inj,⟨λa ha => ?_,r.thr.tb.mono s.tab⟩⟩
 ·obtain ⟨v,h1,h2⟩:=r.at_ i sv h
  refine ⟨v,h1,?_⟩
  cases sv with
  | pd d=>exact bf sm.sm h2
  | own xs =>
   obtain ⟨a,vs,h3,h4,h5,h6⟩:=h2
   exact ⟨a,vs,h3,aE _ h4,s _ _ h5,bj sm.sm h6⟩
  | od xs =>
   obtain ⟨a,vs,h3,h4,h5,h6⟩:=h2
   exact ⟨a,vs,h3,aE _ h4,s _ _ h5,eJ sm.sm h6⟩
  | exc e =>
   obtain ⟨a,dd,w,h3,h4,h5,h6⟩:=h2
   exact ⟨a,dd,w,h3,h4,sm _ _ h5,bf sm.sm h6⟩
  | st t =>
   obtain ⟨a,h3,h4,h5⟩:=h2
   exact ⟨a,h3,aE _ h4,h5.grow s sm⟩
  | pin=>exact h2
 ·rcases cG.mp ha with rfl | ha
  ·exact hp'
  ·exact (r.thr.same s).nn a ha
theorem jW {us:List Nat} : ∀ {vs:List Nat} {σ:L2.St},(∀ i∈vs,i∈us)→wipe (wipe σ vs) us=wipe σ us
 | [],_,_=>rfl
 | v::vs,σ,h=>by
  show wipe ((wipe σ vs).set v none) us=_
  rw [lU (h v (by simp)),jW λi hi=>h i (aE _ hi)]
theorem eO {α:Type} {r:Rs α} {a:α} (h:bo r = .ok a):r = .ok a:=by
 cases r <;> first | exact h | cases h
end
section
variable {X:Cx} {xp:XP} {W:WX}
noncomputable abbrev CTs (X:Cx) (xp:XP) (W:WX) (ifs:List Expr) (f:Sto→Rs Bool):Prop:=PTs X ifs (rdT X.K X.mg xp W f)
theorem JA:CTs X xp W [] (λ_ => .ok true):=⟨λpins s σ H Q I ⟨ρ,O,R,q⟩=>pts_nil.run pins s σ H Q I q.ok⟩
theorem NG {c:Expr} {f:Sto→Rs Bool} (h:CT X xp W c f):CTs X xp W [c] f:=pts_one h
theorem zV {K:PySem.W.Frag} {mg:Str→Option Value} {t:Tg} {vs:List Nat} {items:Sto→Rs (List D)} {cond:Sto→Rs Bool} {elt:Sto→Rs D} (ht : ∀ i∈t.slots,i∈vs) {σ:L2.St} {H:Hp} {Q:VK}
  (h:rdF K mg xp W (lcF t vs items cond elt) σ H Q):tLc (rdI K mg xp W items) (rdG K xp t) (rdT K mg xp W0 cond) (rdE K mg xp W0 elt) vs σ H Q:=by
 obtain ⟨ρ,O,R,q⟩:=h
 refine ⟨ρ,O,R,(End.bind q).imp λds H1 _ s1 q1 J G hG wk D hD => ?_⟩
 obtain ⟨lim,q1⟩:=cO q1
 cases ec:gR t cond elt (aJ ρ vs) ds with
 | ex x=>rw [ec] at q1; exact q1.elim
 | bad=>rw [ec] at q1; exact q1.elim
 | ok ys =>
  rw [ec] at q1
  have R1:=R.mono s1
  have fin:=λ(H':Hp) (s:Same H1 H')=>q1 H' s
  let Pv:Nat→Hp→Prop:=λi H'=>Same H1 H'∧G (msk H' (D::O)) ∧ ∃ acc va rest,H' D=some (.lst va)∧aj K (msk H' (D::O)) va acc∧acc.length≤i∧gR t cond elt (aJ ρ vs) (ds.drop i) = .ok rest∧acc++rest=ys
  have mD : ∀ {H':Hp} {o:HO},msk (upd H' D o) (D::O)=msk H' (D::O):=λ{H' o}=>by
   funext b
   by_cases hb:b∈D::O
   ·rw [cK hb,cK hb]
   ·rw [bc hb,bc hb,ax λe=>hb (by rw [e]; simp)]
  refine ⟨λi m H'=>m=ds.length-i∧i≤ds.length∧Pv i H',⟨ds.length,by simp,cy _,a0 hD,?_,[],[],ys,aS,.nil,aC _,ec,rfl⟩,?_⟩
  ·rw [mD]
   exact wk.mono _ _ hG (dZ hD (Sm.refl _))
  ·rintro i m H' ⟨rfl,hi,s',g',acc,va,rest,hl,hda,hla,hc,hy⟩
   by_cases hlt:i<ds.length
   ·refine .inr ⟨wk.goes i H' _ hlt g',Pv (i+1),λH2 p2=>⟨ds.length-(i+1),by omega,rfl,hlt,p2⟩,λx H2 y => ?_⟩
    have hD':H' D≠none:=by rw [hl]; exact Option.some_ne_none _
    have R':Rel K xp (wipe σ vs) H' (aJ ρ vs) (D::O):=(jU R1 vs).grow hD s' hD'
    obtain ⟨s2,d,e1,hd⟩:=wk.yields i H' _ x H2 hlt g' R'.thr y
    rw [fu hlt] at hc
    have e2:ds[i]=d:=by
     rw [List.getElem?_eq_getElem hlt] at e1
     exact bQ e1
    rw [e2] at hc
    unfold gR at hc
    obtain ⟨ρ1,a1,hc⟩:=ae hc
    obtain ⟨b,a2,hc⟩:=ae hc
    have a2:=eO a2
    have hl2:H2 D=some (.lst va):=s2 _ _ hl
    refine ⟨aJ ρ vs,D::O,d,ρ1,R'.mono s2,hd,a1,λσ2 R2 wp=>⟨(wp vs ht).trans (jW λ_ h=>h),ρ1,D::O,R2,?_⟩⟩
    rw [a2]
    intro H3 s3
    have hl3:H3 D=some (.lst va):=s3 _ _ hl2
    have g3:G (msk H3 (D::O)):=wk.mono _ _ g' (aH (s2.trans s3).sm)
    have s13:Same H1 H3:=s'.trans (s2.trans s3)
    have hda3:=bj (aH (O:=D::O) (s2.trans s3).sm) hda
    cases b with
    | true =>
     rw [if_pos rfl] at hc
     refine iteT ?_
     obtain ⟨yy,a3,hc⟩:=ae hc
     obtain ⟨zs,a4,hc⟩:=ae hc
     cases hc
     have a3:=eO a3
     refine ⟨ρ1,D::O,R2.mono s3,?_⟩
     rw [a3]
     intro H4 s4 v hv
     have hl4:H4 D=some (.lst va):=s4 _ _ hl3
     have lenv:va.length≤ds.length:=by rw [aK hda]; omega
     refine ⟨va,hl4,Nat.lt_of_le_of_lt (aF lenv lim) (by decide),Same.gE (s13.trans s4) hD hl4,?_,acc++[yy],va++[v],zs,aS,?_,by rw [cx]; simp; omega,a4,by rw [eP]; exact hy⟩
     ·rw [mD]
      exact wk.mono _ _ g3 (aH s4.sm)
     ·rw [mD]
      exact fB (bj (aH s4.sm) hda3) (.cons hv .nil)
    | false =>
     rw [if_neg aa] at hc
     refine iteF ?_
     exact ⟨s13,g3,acc,va,rest,hl3,hda3,by omega,hc,hy⟩
   ·have e:i=ds.length:=by omega
    subst e
    refine .inl ⟨wk.stops H' _ g',?_⟩
    rw [jc] at hc
    cases hc
    rw [fQ] at hy
    subst hy
    exact fin H' s' D va (s1.free hD) hl (by rw [aK hda]; exact aF hla lim) hda
end
section
variable {X:Cx} {xp:XP} {W:WX} {elt tg iter:Expr} {ifs:List Expr} {scope:Scope} {own:List (Str × Nat)} {pos:Pos} {t:Tg} {items:Sto→Rs (List D)} {cond:Sto→Rs Bool} {fe:Sto→Rs D}
theorem IP (hc:X.calm=true) (hN:X.N.Nodup) (hi:CI X xp W tg iter items) (ok:BlkOk X.N X.env.scope scope own)
  (hg : ∀ (s:Shared) (H:Hp) (C:Addr) (cl:List (Str × Addr)) (fp:List Addr),CG (X.blk s H scope (compEnvC scope cl C X.env) fp) xp tg t)
  (ht : ∀ (s:Shared) (H:Hp) (C:Addr) (cl:List (Str × Addr)) (fp:List Addr),CTs (X.blk s H scope (compEnvC scope cl C X.env) fp) xp W0 ifs cond)
  (he : ∀ (s:Shared) (H:Hp) (C:Addr) (cl:List (Str × Addr)) (fp:List Addr),CE (X.blk s H scope (compEnvC scope cl C X.env) fp) xp W0 elt fe)
  (hs : ∀ x,foldedSetIterable iter X.env x=pure x) (hts : ∀ i∈t.slots,i∈own.map (·.2)):CF X xp W (.ListComp elt [⟨tg,iter,ifs,0⟩] scope pos) (lcF t (own.map (·.2)) items cond fe):=
 bt (pe_lc hc hN hi ok hg ht he hs) λ_ _ _ h=>zV hts h
end
end Pf

set_option maxRecDepth 100000
namespace Pf
open PySem PySem.Spec PyProof.Rows L2
section
variable {X:Cx}
noncomputable def tKs (P:Program) (w:World) (wi:TI) (g:TG) (tt:TT) (te:TE) (vs:List Nat):TE:=λσ H Q=>wi σ H λJ H1 => ∀ D,H1 D=none →
 ∃ W:Nat→Nat→Hp→Prop,(∃ m,W 0 m (upd H1 D (SetK P w D (λ_=>false) 0))) ∧
  ∀ i m H,W i m H→(J.stop i H∧Q (.ref D) H) ∨
   (J.go i H ∧ ∃ Nx:Hp→Prop,(∀ H',Nx H' → ∃ m',m'<m∧W (i+1) m' H') ∧
    ∀ x H',J.yld i H x H'→g x (wipe σ vs) H' λσ2 H2=>wipe σ2 vs=wipe σ vs ∧
     tt σ2 H2 λb H3=>if b=true then te σ2 H3 λy H4=>rSAddK P w (.ref D) [y] H4 λ_ H5=>Nx H5 else Nx H3)
theorem Nj {P:Program} {w:World} {h:Heap}:(h.push { cls:=.type "set",dict:=none,data:=.set #[] 0 (.fresh 0 0 (!w.params.followText "set-order")) }).SetOf (mixKind P w) h.objs.size (λ_=>false) 0:=
 ⟨_,#[],0,_,bT _ rfl,⟨rfl,rfl,rfl⟩,rfl,
  (λe he=>by simp at he),(λk=>by simp),(by decide),(by rfl),rfl⟩
theorem Hw {elt tg iter:Expr} {ifs:List Expr} {scope:Scope} {own:List (PySem.Str × Nat)} {pos:Pos} {wi:TI} {g:TG} {tt:TT} {te:TE}
  (calm:X.calm=true) (nodup:X.N.Nodup) (src:PI X tg iter wi) (blk:BlkOk X.N X.env.scope scope own)
  (tgt : ∀ (s:Shared) (H:Hp) (C:Addr) (cl:List (PySem.Str × Addr)) (fp:List Addr),PG (X.blk s H scope (compEnvC scope cl C X.env) fp) tg g)
  (tst : ∀ (s:Shared) (H:Hp) (C:Addr) (cl:List (PySem.Str × Addr)) (fp:List Addr),PTs (X.blk s H scope (compEnvC scope cl C X.env) fp) ifs tt)
  (mem : ∀ (s:Shared) (H:Hp) (C:Addr) (cl:List (PySem.Str × Addr)) (fp:List Addr),PE (X.blk s H scope (compEnvC scope cl C X.env) fp) elt te)
  (plain : ∀ x,foldedSetIterable iter X.env x=pure x) :
  PE X (.SetComp elt [⟨tg,iter,ifs,0⟩] scope pos) (tKs X.prog X.w wi g tt te (own.map (·.2))):=by
 constructor
 intro pins s σ H Q inv wish
 rw [PpSet.eval_SetComp]
 have closes : ∀ y∈scope.names,y.2 = .free → ∃ c,X.env.cells.lookup y.1=some c:=by
  intro y hy e
  exact (blk.free y hy e).elim (λk=>inv.ok.has _ (.inl k)) λk=>inv.ok.has _ (.inr k)
 refine wpAny_comprehension_free (use:=none) rfl plain (closure_ok closes) blk.kind (λy hy e=>by rw [blk.uniq y hy,e]) (thn (src.run pins s σ H _ inv wish) ?_)
 intro xv s1 hx
 refine thn hx ?_
 rintro itv s2 ⟨it,fp,tn,J,H2,rfl,inv2,Wk,at2,fr2,q⟩
 refine PpSet.newSet_ok (newEnv_comp ?_)
 generalize hD:s2.heap.objs.size=D
 obtain ⟨W,⟨m0,w0⟩,turn⟩:=q D (inv2.hok.fresh (Nat.le_of_eq hD))
 generalize hs3:({ s2 with heap:=s2.heap.push { cls:=.type "set",dict:=none,data:=.set #[] 0 (.fresh 0 0 (!X.w.params.followText "set-order")) } }:Shared)=s3
 have h3:s3.heap=s2.heap.push { cls:=.type "set",dict:=none,data:=.set #[] 0 (.fresh 0 0 (!X.w.params.followText "set-order")) }:=by
  rw [← hs3]
 have inv3:Inv X pins σ (upd H2 D (SetK X.prog X.w D (λ_=>false) 0)) s3:=by
  subst hs3
  refine inv2.laid (t':=s2.toks) (λb o e=>aD _ e) (Nat.le_of_eq hD) ?_
  subst hD
  exact setK_new Nj
 have below : ∀ b∈fp,b<s2.heap.objs.size:=λb hb =>
  let ⟨_,e,_⟩:=Wk.obj _ _ at2 b hb
  bD e
 have fr3 : ∀ b∈fp,FpOk X pins (upd H2 D (SetK X.prog X.w D (λ_=>false) 0)) b∧b<s3.heap.objs.size:=by
  intro b hb
  have lt:=below b hb
  have ne:b≠D:=by rw [← hD]; exact bU lt
  have old:=fr2 b hb
  refine ⟨⟨by rw [ax ne]; exact old.1,old.2⟩,?_⟩
  rw [h3,cU]
  exact jd lt
 have at3:tn 0 s3.heap:=Wk.keep _ _ _ at2 λb _ o e=>by
  rw [h3]
  exact aD _ e
 have inv4:=block_start inv3 blk nodup fr3
 generalize hcells:cellsFrom (s3.heap.objs.size+1) scope.names (cloFrom X.env.cells scope.names [])=cells at inv4 ⊢
 have pg:=tgt s3 (upd H2 D (SetK X.prog X.w D (λ_=>false) 0)) s3.heap.objs.size cells fp
 have pt:=tst s3 (upd H2 D (SetK X.prog X.w D (λ_=>false) 0)) s3.heap.objs.size cells fp
 have pm:=mem s3 (upd H2 D (SetK X.prog X.w D (λ_=>false) 0)) s3.heap.objs.size cells fp
 have gone : ∀ b∈fp,(upd H2 D (SetK X.prog X.w D (λ_=>false) 0)) b=none:=λb hb=>(fr3 b hb).1.1
 generalize hce:compEnvC scope cells s3.heap.objs.size X.env=ce at inv4 pg pt pm
 have loc:ce.locals=s3.heap.objs.size:=by rw [← hce]; rfl
 let post:=compPost (model X.prog X.w) X.A X.xe none (EP X pins σ Q) (.ref D) s3.heap.objs.size
 show codeAny _ _ (.compStart (.SetComp elt [⟨tg,iter,ifs,0⟩] scope pos) 0 (.ref it) (.ref D) (compEnvC scope cells s3.heap.objs.size X.env)) post { s3 with heap:=pushCells (s3.heap.push { cls:=.type "dict",data:=.dict #[] }) scope.names }
 rw [hce]
 generalize hH3:upd H2 D (SetK X.prog X.w D (λ_=>false) 0)=H3 at inv3 inv4 pg pt pm w0 gone fr3
 generalize hs4:({ s3 with heap:=pushCells (s3.heap.push { cls:=.type "dict",data:=.dict #[] }) scope.names }:Shared)=s4 at inv4 ⊢
 have at4:tn 0 s4.heap:=Wk.keep _ _ _ at3 λb _ o e=>by
  rw [← hs4]
  exact pushCells_keeps _ _ _ _ (aD _ e)
 let Y:Cx:=X.blk s3 H3 scope ce fp
 have still : ∀ {σ':L2.St} {H':Hp} {s':Shared},Inv Y [] σ' H' s'→(∀ b∈fp,H' b=none) → ∀ b∈fp,FpOk Y [] H' b:=by
  intro σ' H' s' iv nn b hb
  exact ⟨nn b hb,(iv.ok.exf b hb).1,iv.ok.exfs b hb,Or.inl hb,λx c e=>(iv.ok.exf b hb).2 x c e,λp hp=>(fm (show p∈[] from hp)).elim⟩
 have loop:codeAny (model X.prog X.w) X.A (.compLoop (.SetComp elt [⟨tg,iter,ifs,0⟩] scope pos) 0 (.ref it) (.ref D) ce) post s4:=by
  let Iv:Nat→Shared→Prop:=λn s' => ∃ i H',Inv Y [] (wipe σ (own.map (·.2))) H' s'∧tn i s'.heap∧(∀ b∈fp,H' b=none)∧W i n H'
  refine PpSet.compLoopS_any Iv ?_ m0 ⟨0,H3,inv4,at4,gone,w0⟩
  rintro n s5 ⟨i,H5,inv5,at5,gone5,w5⟩
  rcases turn i n H5 w5 with ⟨stop,final⟩ | ⟨go,Nx,less,step⟩
  ·refine thnF (Wk.done Y rfl rfl rfl calm i [] s5 _ H5 (λ_ _=>False) inv5 (still inv5 gone5) at5 stop) λr s6 ⟨hr,inv6⟩ => ?_
   subst hr
   have inv7:Inv X pins σ H5 s6:=inv3.call' (ch:=fp) inv6.os inv6.base inv6.hok inv6.bare λb hb =>
    let f:=(fr3 b hb).1.2
    ⟨f.2.2.1,f.1,f.2.2.2.1,f.2.2.2.2⟩
   have noC:H5 s3.heap.objs.size=none:=by
    rw [← loc]
    exact inv6.free
   obtain ⟨m,ns,_⟩:=inv6.loc
   have ns:s6.heap.Ns s3.heap.objs.size m:=by
    rw [← loc]
    exact ns
   obtain ⟨f0,f1,f2,f3,f4,f5⟩:=inv3.fpOk (aC _) noC
   exact ⟨m,ns,λh'' sb=>⟨.ref D,H5,inv7.turned (t':=s6.toks) (λb o hb e=>(sb.2 b hb).trans e) f0 f1 f3 f4 f5,rfl,final⟩⟩
  ·refine thnF (Wk.item Y rfl rfl rfl calm i [] s5 _ H5 (λ_ _=>False) inv5 (still inv5 gone5) at5 go) λr s6 ⟨u,hr,h6⟩ => ?_
   subst hr
   refine thnF h6 λ_ s7 ⟨x,H7,inv7,r7,y7,at7,gone7⟩ => ?_
   refine thnF (pg.run _ s7 _ H7 x u _ (inv7.pinned (still inv7 gone7) (Wk.obj _ _ at7)) r7 (step x H7 y7)) λ_ s8 ⟨σ8,H8,inv8,same8,q8⟩ => ?_
   refine thnF (pt.run _ s8 σ8 H8 _ inv8 q8) λb s9 ⟨H9,inv9,q9⟩ => ?_
   have back : ∀ {s':Shared} {H':Hp},Inv Y ([]++pinsAt fp s7.heap) σ8 H' s'→Nx H' → ∃ m,m<n∧Iv m s':=by
    intro s' H' iv nx
    obtain ⟨m',lt,w'⟩:=less H' nx
    have kept : ∀ b∈fp,∀ o,s7.heap.get? b=some o→s'.heap.get? b=some o∧H' b=none:=by
     intro b hb o e
     have z:=iv.pin (b,o) (dW _ (dW _ (mem_pinsAt hb e)))
     exact ⟨z.1,z.2.1⟩
    have len:(wipe σ (own.map (·.2))).length=σ8.length:=by
     rw [← same8,wipe_length]
    refine ⟨m',lt,i+1,H',(iv.unpinned (pins:=[])).weak len ?_,Wk.keep _ _ _ at7 λb hb o e=>(kept b hb o e).1,?_,w'⟩
    ·intro j v e
     rw [← same8] at e
     exact (wipe_some e).1
    ·intro b hb
     obtain ⟨o,e,_⟩:=Wk.obj _ _ at7 b hb
     exact (kept b hb o e).2
   cases b with
   | false =>
    rw [if_neg aa] at q9
    rw [if_neg aa]
    exact back inv9 q9
   | true =>
    rw [if_pos rfl] at q9
    rw [if_pos rfl]
    refine thnF (pm.run _ s9 σ8 H9 _ inv9 q9) λz s10 ⟨yv,H10,inv10,r10,q10⟩ => ?_
    have add:=mt_saddK (X:=Y) _ s10 σ8 H10 (.ref D) [yv] (.ref D) [z] _ inv10 rfl (.cons r10 .nil) q10
    exact thnF add λ_ s11 ⟨_,H11,inv11,_,nx⟩=>back inv11 nx
 exact PpSet.codeAny_compStart_set loop (Wk.self X.A 0 _ _ _ at4 loop)
end
end Pf

set_option maxRecDepth 100000
namespace Pf
open PySem PySem.Spec L2 in
theorem Ey {P:Program} {w:World} {a:Addr} {S:Key→Bool} {n:Nat}:NC a (SetK P w a S n):=Ah λhp oc vs e1 e2 e3=>by
 obtain ⟨o,es,ep,t,ho,_,hd,_⟩:=e3
 rw [e1] at ho; cases ho; rw [hd] at e2; cases e2
open PySem PySem.Spec PyProof.Rows L2
noncomputable instance keyLaw:LawfulBEq Key where
 eq_of_beq:=λ{a b} h=>by
  cases a with
  | inl i=>cases b with
   | inl j=>exact bF Sum.inl (eq_of_beq (show (i==j)=true from h))
   | inr y=>cases (show false=true from h)
  | inr x=>cases b with
   | inl j=>cases (show false=true from h)
   | inr y=>exact bF Sum.inr (eq_of_beq (show (x==y)=true from h))
 rfl:=λ{a}=>by
  cases a with
  | inl i=>exact beq_self_eq_true i
  | inr x=>exact beq_self_eq_true x
noncomputable def keyOf:D→Rs Key
 | .int i => .ok (.inl i)
 | .str x => .ok (.inr x)
 | _ => .bad
noncomputable def gV (acc:List Key) (k:Key):List Key:=if k∈acc then acc else acc++[k]
noncomputable def ksL (t:Tg) (cond:Sto→Rs Bool) (elt:Sto→Rs D) (ρ0:Sto):List D→List Key→Rs (List Key)
 | [],acc => .ok acc
 | d::ds,acc=>(bx t d ρ0).bind λρ1=>(bo (cond ρ1)).bind λb =>
  if b=true then (bo (elt ρ1)).bind λy=>(keyOf y).bind λk=>ksL t cond elt ρ0 ds (gV acc k) else ksL t cond elt ρ0 ds acc
noncomputable def ksF (t:Tg) (vs:List Nat) (items:Sto→Rs (List D)) (cond:Sto→Rs Bool) (elt:Sto→Rs D):Sto→Rs (List Key):=λρ=>(items ρ).bind λds=>if ds.length≤4000 then bo (ksL t cond elt (aJ ρ vs) ds []) else .bad
theorem xO (acc:List Key) (k:Key):(gV acc k).length=if decide (k∈acc)=true then acc.length else acc.length+1:=by
 unfold gV
 by_cases h:k∈acc
 ·rw [if_pos h,if_pos (cb h)]
 ·rw [if_neg h,if_neg (by simpa using h),cx]
  rfl
theorem Ou (acc:List Key) (k:Key):(gV acc k).length≤acc.length+1:=by
 rw [xO]
 split <;> omega
theorem Pn (acc:List Key) (k:Key):(λj=>decide (j∈acc)||decide (j=k))=λj=>decide (j∈gV acc k):=by
 funext j
 unfold gV
 by_cases h:k∈acc
 ·rw [if_pos h]
  by_cases e:j=k
  ·subst e; simp [h]
  ·simp [e]
 ·rw [if_neg h]
  simp [j6]
theorem IL {K:PySem.W.Frag} {F:Hp} {v:V} {d:D} {k:Key} (h:Dn K F v d) (e:keyOf d = .ok k):v=kV k:=by
 cases h <;> cases e <;> rfl
noncomputable def rdS (P:Program) (w:World) (K:PySem.W.Frag) (mg:Str→Option Value) (xp:XP) (W:WX) (f:Sto→Rs (List Key)):TE:=λσ H Q => ∃ ρ O,Rel K xp σ H ρ O ∧
 End K mg W O σ H (λks H' => ∀ p,H p=none→H' p=some (SetK P w p (λj=>decide (j∈ks)) ks.length)→ks.length<4096→Q (.ref p) H') (f ρ)
noncomputable abbrev CS (X:Cx) (xp:XP) (W:WX) (e:Expr) (f:Sto→Rs (List Key)):Prop:=PE X e (rdS X.prog X.w X.K X.mg xp W f)
section
variable {xp:XP} {W:WX}
theorem Py {P:Program} {w:World} {K:PySem.W.Frag} {mg:Str→Option Value} {t:Tg} {vs:List Nat} {items:Sto→Rs (List D)} {cond:Sto→Rs Bool} {elt:Sto→Rs D} (ht : ∀ i∈t.slots,i∈vs) {σ:L2.St} {H:Hp} {Q:VK}
  (h:rdS P w K mg xp W (ksF t vs items cond elt) σ H Q):tKs P w (rdI K mg xp W items) (rdG K xp t) (rdT K mg xp W0 cond) (rdE K mg xp W0 elt) vs σ H Q:=by
 obtain ⟨ρ,O,R,q⟩:=h
 refine ⟨ρ,O,R,(End.bind q).imp λds H1 _ s1 q1 J G hG wk D hD => ?_⟩
 obtain ⟨lim,q1⟩:=cO q1
 cases ec:ksL t cond elt (aJ ρ vs) ds [] with
 | ex x=>rw [ec] at q1; exact q1.elim
 | bad=>rw [ec] at q1; exact q1.elim
 | ok ys =>
  rw [ec] at q1
  have R1:=R.mono s1
  let Pv:Nat→Hp→Prop:=λi H'=>Same H1 H'∧G (msk H' (D::O)) ∧ ∃ acc,H' D=some (SetK P w D (λj=>decide (j∈acc)) acc.length)∧acc.length≤i∧ksL t cond elt (aJ ρ vs) (ds.drop i) acc = .ok ys
  have mD : ∀ {H':Hp} {o:HO},msk (upd H' D o) (D::O)=msk H' (D::O):=λ{H' o}=>by
   funext b
   by_cases hb:b∈D::O
   ·rw [cK hb,cK hb]
   ·rw [bc hb,bc hb,ax λe=>hb (by rw [e]; simp)]
  refine ⟨λi m H'=>m=ds.length-i∧i≤ds.length∧Pv i H',⟨ds.length,by simp,cy _,a0 hD,?_,[],?_,aC _,ec⟩,?_⟩
  ·rw [mD]
   exact wk.mono _ _ hG (dZ hD (Sm.refl _))
  ·have e:(λj=>decide (j∈([]:List Key)))=λ_=>false:=by funext j; simp
   rw [e,aS]
   rfl
  ·rintro i m H' ⟨rfl,hi,s',g',acc,hl,hla,hc⟩
   by_cases hlt:i<ds.length
   ·refine .inr ⟨wk.goes i H' _ hlt g',Pv (i+1),λH2 p2=>⟨ds.length-(i+1),by omega,rfl,hlt,p2⟩,λx H2 y => ?_⟩
    have hD':H' D≠none:=by rw [hl]; exact Option.some_ne_none _
    have R':Rel K xp (wipe σ vs) H' (aJ ρ vs) (D::O):=(jU R1 vs).grow hD s' hD'
    obtain ⟨s2,d,e1,hd⟩:=wk.yields i H' _ x H2 hlt g' R'.thr y
    rw [fu hlt] at hc
    have e2:ds[i]=d:=by
     rw [List.getElem?_eq_getElem hlt] at e1
     exact bQ e1
    rw [e2] at hc
    unfold ksL at hc
    obtain ⟨ρ1,a1,hc⟩:=ae hc
    obtain ⟨b,a2,hc⟩:=ae hc
    have a2:=eO a2
    have hl2:=s2 _ _ hl
    refine ⟨aJ ρ vs,D::O,d,ρ1,R'.mono s2,hd,a1,λσ2 R2 wp=>⟨(wp vs ht).trans (jW λ_ h=>h),ρ1,D::O,R2,?_⟩⟩
    rw [a2]
    intro H3 s3
    have hl3:=s3 _ _ hl2
    have g3:G (msk H3 (D::O)):=wk.mono _ _ g' (aH (s2.trans s3).sm)
    have s13:Same H1 H3:=s'.trans (s2.trans s3)
    cases b with
    | true =>
     rw [if_pos rfl] at hc
     refine iteT ?_
     obtain ⟨yy,a3,hc⟩:=ae hc
     obtain ⟨k,a4,hc⟩:=ae hc
     have a3:=eO a3
     refine ⟨ρ1,D::O,R2.mono s3,?_⟩
     rw [a3]
     intro H4 s4 v hv
     have hl4:=s4 _ _ hl3
     refine ⟨D,k,_,_,rfl,by rw [IL hv a4],hl4,by have:scanBound=4096:=rfl; omega,Same.gE (s13.trans s4) hD hl4 Ey,?_,gV acc k,?_,aF (Ou _ _) (by omega),hc⟩
     ·rw [mD]
      exact wk.mono _ _ g3 (aH s4.sm)
     ·rw [Pn,aS,xO]
    | false =>
     rw [if_neg aa] at hc
     refine iteF ?_
     exact ⟨s13,g3,acc,hl3,by omega,hc⟩
   ·have e:i=ds.length:=by omega
    subst e
    refine .inl ⟨wk.stops H' _ g',?_⟩
    rw [jc] at hc
    cases hc
    exact q1 H' s' D (s1.free hD) hl (by omega)
end
section
variable {X:Cx} {xp:XP} {W:WX} {elt tg iter:Expr} {ifs:List Expr} {scope:Scope} {own:List (Str × Nat)} {pos:Pos} {t:Tg} {items:Sto→Rs (List D)} {cond:Sto→Rs Bool} {fe:Sto→Rs D}
theorem KS (hc:X.calm=true) (hN:X.N.Nodup) (hi:CI X xp W tg iter items) (ok:BlkOk X.N X.env.scope scope own)
  (hg : ∀ (s:Shared) (H:Hp) (C:Addr) (cl:List (Str × Addr)) (fp:List Addr),CG (X.blk s H scope (compEnvC scope cl C X.env) fp) xp tg t)
  (ht : ∀ (s:Shared) (H:Hp) (C:Addr) (cl:List (Str × Addr)) (fp:List Addr),CTs (X.blk s H scope (compEnvC scope cl C X.env) fp) xp W0 ifs cond)
  (he : ∀ (s:Shared) (H:Hp) (C:Addr) (cl:List (Str × Addr)) (fp:List Addr),CE (X.blk s H scope (compEnvC scope cl C X.env) fp) xp W0 elt fe)
  (hs : ∀ x,foldedSetIterable iter X.env x=pure x) (hts : ∀ i∈t.slots,i∈own.map (·.2)):CS X xp W (.SetComp elt [⟨tg,iter,ifs,0⟩] scope pos) (ksF t (own.map (·.2)) items cond fe):=
 bt (Hw hc hN hi ok hg ht he hs) λ_ _ _ h=>Py hts h
noncomputable def Nf (P:Program) (w:World):List V→Hp→VK→Prop:=λxs H Q => ∃ a S n,xs=[V.ref a]∧H a=some (SetK P w a S n)∧n<4096∧Q (.int n) H
theorem Lw:CallR X (.builtin "len") (Nf X.prog X.w):=by
 intro pins s σ H xs us Q I r h
 obtain ⟨a,S,n,rfl,e,hn,q⟩:=h
 obtain ⟨u,rfl,rx⟩:=vals1 r
 obtain rfl:u=Value.ref a:=rx
 obtain ⟨o,es,ep,t,ho,hex,hd,_,_,_,hf,hz⟩:=setK_get I e
 exact call_len_set ho hex hd hf (by omega) ⟨.int n,H,I.tok _,⟨_,by rw [hz]⟩,q⟩
variable {e:Expr} {f:Sto→Rs (List Key)} {p:Pos}
theorem Eu (hg:Gl X "len") (hm:X.mg "len" = none) (ha:CS X xp W e f) (he:starEach [e] X.env=(false,eval e X.env)::starEach [] X.env) (hpl:(backTo pos (starEach [] X.env)).any (·.1)=false) :
  CE X xp W (.Call (.Name "len" p) [e] [] pos) (λρ=>(f ρ).bind λks => .ok (.int ks.length)):=
 bt (pe_callB Lw hg hm rfl (bG ha cu he) (by decide) (by decide) he hpl) λσ H Q ⟨ρ,O,R,q⟩ =>
  ⟨ρ,O,R,(End.bind q).imp λks H1 _ s1 q1 p hp h1 hl=>⟨p,_,_,rfl,h1,hl,q1.ok _ (.int _)⟩⟩
end
end Pf

set_option maxRecDepth 100000
namespace Pf
open PySem PySem.Spec PyProof.Rows L2
section
open PySem.W PySem.Calls
variable {prog:Program} {w:World} {A:Around} {E:Value→Shared→Prop} {s:Shared} {K:Frag} {x D:Addr} {ox:Obj} {f:Str}
theorem AO {p:ClassData→Bool} (h:(clsIn K D).any p=true) : ∃ cd,clsIn K D=some cd:=by
 cases e:clsIn K D with
 | none=>rw [e] at h; cases h
 | some cd=>exact ⟨cd,rfl⟩
theorem Nc {od:Option Obj} (c:Ask K D f):findObj K D od "__class__" = some (.bind (.builtin "getset_descriptor.__get__") (.builtin "object.__class__")):=by
 obtain ⟨cd,hc⟩:=AO c.dct
 unfold findObj
 rw [hc,Option.bind_some,c.cls,Option.bind_some]
 simp [c.get,c.tak]
theorem ID {od:Option Obj} {Q:Option Value→Shared→Prop} (c:Ask K D f) (inK:K.In s.heap) (I:InstAt s.heap x ox D od) (h:Q (some (.ref D)) { s with toks:=s.toks+1 }):wpAny (model prog w) A (getAttr? (.ref x) "__class__") Q E s:=by
 obtain ⟨hp,g,d,t,os⟩:=s
 have ty:=I.type (M:=model prog w)
 have l1:=looks_findIn (M:=model prog w) inK c.ga
 have l2:=looks_findIn (M:=model prog w) inK c.gg
 have l3:=looks_find (M:=model prog w) inK I (Nc c)
 have sub:Looks (model prog w) hp (isInstance (.ref x) (.type "BaseException")) true:=ty.andThen (looks_subIn inK c.sub)
 have n2:(Value.builtin "BaseException.__getattribute__" == Value.builtin "object.__getattribute__")=false:=by decide +kernel
 have n1:(onTheHeap (Value.ref D)&&Value.builtin "BaseException.__getattribute__" == Value.builtin "object.__getattribute__")=false:=by rw [n2,Bool.and_false]
 have n0:(false&&onTheHeap (Value.builtin "BaseException.__getattribute__"))=false:=Bool.false_and _
 unfold getAttr? getAttrBy? getAttrBy
 refine af (wpAny_mkText (af (wpAny_attempt (bA (af (ty.at (af (l1.at ?_))))))))
 show wpAny _ _ (if (onTheHeap (Value.ref D)&&Value.builtin "BaseException.__getattribute__" == Value.builtin "object.__getattribute__")=true then _ else _) _ _ _
 rw [n1,if_neg aa]
 unfold getAttrByItsOwn hookBefore
 refine af ?_
 rw [if_pos (show onTheHeap (Value.ref D)=true from rfl)]
 refine l2.at (af (wpAny_attempt (bA ?_)))
 unfold callGetattribute
 rw [n0,if_neg aa]
 unfold boundAndCalled
 rw [PySem.F.excAttr_ValueError.ga.bind (.ref x)]
 refine af (ah ?_)
 show wpAny _ _ (call (.builtin "BaseException.__getattribute__") [.ref x,.str "__class__" t]) _ _ _
 refine eQ (codeAny_call_builtin PySem.F.excAttr_ValueError.ga.plain PySem.F.entry_bexc_ga ?_)
 refine @check_slot (model prog w) _ _ ⟨hp,g,d,t+1,os⟩ "BaseException.__getattribute__" "BaseException" "__getattribute__" (.ref x) [.str "__class__" t] [] _ (by decide +kernel) (by decide +kernel) sub (PySem.F.args_bexc_ga (.ref x) (.str "__class__" t)) ?_
 unfold Builtin.«object.__getattribute__»
 refine af (wpAny_of_eq (a:=((Value.ref x:Value),[Value.str "__class__" t])) (by first | rfl | (simp only [slotArgs]; rfl)) ?_)
 refine af (ah (af (ty.at (af (l3.at ?_)))))
 show wpAny _ _ (holding [Value.builtin "object.__class__"] (call (.builtin "getset_descriptor.__get__") [.builtin "object.__class__",.ref x,.ref D]) >>= ret) _ _ _
 refine af (bA (eQ (class_get (s:=⟨hp,g,d,t+1,os⟩) (ox:=ox) (od:=od) inK I c.mro ?_)))
 refine ah ?_
 show wpAny _ _ (handedOut (.ref D)) _ _ _
 rw [handedOut_of (v:=.ref D) rfl]
 first
  | exact ah (ah h)
  | exact ah h
  | exact ah (af (ah (ah h)))
theorem FQ (c:Ask K D f):KitX K (.ref x) (.ref D) (λh => ∃ od,InstAt h x ox D od):=by
 obtain ⟨cd,hc⟩:=AO c.dct
 have there : ∃ c' d' cd' sl',K.lookup D=some ⟨c',d',.cls cd',sl'⟩:=by
  unfold clsIn at hc
  split at hc
  ·rename_i c' d' cd' sl' ho
   exact ⟨c',d',cd',sl',ho⟩
  ·cases hc
 obtain ⟨c',d',cd',sl',ho⟩:=there
 exact {
  ty:=λ_ _ _ ⟨_,I⟩=>I.type
  it:=λ_ _ inK _=>by
   intro A' Q' E' s' k q
   unfold isType loadHead
   exact af (wpAny_loadPart (k _ _ (inK _ _ ho)) (ah q))
  ne:=λh tp dd its n sl inK htp=>by
   cases e:(Value.ref D==Value.ref tp) with
   | false=>rfl
   | true =>
    have e:D=tp:=Value.ref.inj (beq_iff_eq.mp e)
    rw [← e] at htp
    cases (inK _ _ ho).symm.trans htp
  ca:=λinK ⟨_,I⟩ k=>ID c inK I k }
end
theorem Em {X:Cx} {pins:List (Addr × Obj)} {σ:L2.St} {H:Hp} {s:Shared} {a C dx:Addr} {fs:List (Str × V)} (I:L2.Inv X pins σ H s) (h1:H a=some (exo a C (some dx))) (h2:H dx=some (exd dx fs)) :
  ∃ (ox od:Obj) (mA:Str→Option Value),PySem.W.InstAt s.heap a ox C (some od)∧s.heap.Ns1 dx mA∧s.heap.get? dx=some od ∧ ∀ g,RelO (fs.lookup g) (mA g):=by
 obtain ⟨⟨t1,e1⟩,_⟩:=I.hok a _ h1
 obtain ⟨⟨mA,n1,r1⟩,_⟩:=I.hok dx _ h2
 obtain ⟨od,es,ep,hod,x⟩:=n1
 exact ⟨_,od,mA,⟨e1,rfl,rfl,hod⟩,⟨od,es,ep,hod,x⟩,hod,r1⟩
noncomputable def rIsE (K:PySem.W.Frag):List V→Hp→VK→Prop:=λxs H Q => ∃ (a C dx:Addr) (f:Str) (fs:List (Str × V)) (c:V) (cv:Value) (b:Bool),xs=[.ref a,c]∧Ask K C f∧H a=some (exo a C (some dx))∧H dx=some (exd dx fs)∧(∀ u,L2.RelV c u→u=cv)∧PySem.W.kitOne K (.ref C) cv=some b∧Q (.bl b) H
section
variable {X:Cx}
theorem call_isE:CallR X (.builtin "isinstance") (rIsE X.K):=by
 intro pins s σ H xs us Q I r h
 obtain ⟨a,C,dx,f,fs,c,cv,b,rfl,k,h1,h2,hcv,e,q⟩:=h
 obtain ⟨u1,u2,rfl,r1,r2⟩:=vals2 r
 cases (show u1=Value.ref a from r1)
 obtain rfl:=hcv _ r2
 obtain ⟨ox,od,mA,J,_⟩:=Em I h1 h2
 exact PySem.W.kia_one (FQ (ox:=ox) k) I.kIn ⟨_,J⟩ e (λz=>nomatch z) λtk=>⟨.bl b,H,I.tok tk,rfl,q⟩
theorem FA:CallR X (.builtin "isinstance") (λxs H Q=>rIsi X.K xs H Q∨rIsE X.K xs H Q):=by
 intro pins s σ H xs us Q I r h
 exact h.elim (call_isi pins s σ H xs us Q I r) (call_isE pins s σ H xs us Q I r)
end
end Pf

set_option maxRecDepth 100000
namespace Pf
open PySem PySem.Spec PyProof.Rows L2
inductive TyN where
 | str | int | bool | list | tuple | dict
 deriving DecidableEq
noncomputable def TyN.nm:TyN→String
 | .str => "str" | .int => "int" | .bool => "bool" | .list => "list" | .tuple => "tuple" | .dict => "dict"
inductive Kd where
 | non | bl | int | str | lst | tup | dc (ins:Bool)
noncomputable def kd:D→Kd
 | .none => .non | .bool _ => .bl | .int _ => .int | .str _ => .str | .list _ => .lst | .tuple _ => .tup | .dict ds => .dc (dQ ds)
noncomputable def Kd.nm:Kd→String
 | .non => "NoneType" | .bl => "bool" | .int => "int" | .str => "str" | .lst => "list" | .tup => "tuple" | .dc false => "dict" | .dc true => "object"
noncomputable def eh:TyN→Kd→Bool
 | .str,.str=>true
 | .int,.int=>true
 | .int,.bl=>true
 | .bool,.bl=>true
 | .list,.lst=>true
 | .tuple,.tup=>true
 | .dict,.dc b => !b
 | _,_=>false
theorem O2 : ∀ (T:TyN) (k:Kd),kitB k.nm T.nm=some (eh T k):=by
 intro T k
 rcases k with _ | _ | _ | _ | _ | _ | (_ | _) <;> cases T <;> decide +kernel
theorem OQ {K:PySem.W.Frag} {H:Hp} {v:V} {d:D} (h:Dn K H v d) (ni:kd d ≠ .dc true):TyX K H v (.type (kd d).nm):=by
 cases h with
 | non=>exact .base .non
 | bl b=>exact .base (.bl b)
 | int i=>exact .base (.int i)
 | str h1 h2=>exact .base (.str _)
 | lst h1 h2 h3 =>
  rcases h1 with (h1 | ⟨o,h1⟩) | ⟨its,n,h1,_⟩
  ·exact .base (.lst h1)
  ·exact .base (.frz h1)
  ·exact .kList h1 rfl
 | tup h1 h2 h3 =>
  rcases h1 with (h1 | ⟨o,h1⟩) | h1
  ·exact .base (.tup h1)
  ·exact .fTuple h1
  ·obtain ⟨o,_,_,h1,h2,_⟩:=h1
   exact .kTuple h1 h2
 | @dct a ob kv ds h1 h2 h3 =>
  have e:kd (.dict ds) = .dc false:=by
   show Kd.dc (dQ ds)=_
   rw [oK h3]
  rw [e]
  exact .fDict h1
 | ins h1 h2 h3=>exact absurd rfl ni
 | exc h1 h2 h3 h4=>exact absurd rfl ni
theorem F2 {K:PySem.W.Frag} {H:Hp} {v:V} {d:D} (h:Dn K H v d):(∃ t,TyX K H v t ∧ ∀ T:TyN,PySem.W.kitOne K t (.type T.nm)=some (eh T (kd d))) ∨
  ∃ (a C dx:Addr) (f:Str) (fs:List (Str × V)),v = .ref a∧Ask K C f∧H a=some (exo a C (some dx))∧H dx=some (exd dx fs) ∧ ∀ T:TyN,PySem.W.kitOne K (.ref C) (.type T.nm)=some (eh T (kd d)):=by
 have own : ∀ (C:Addr) (T:TyN),(∀ n:String,n∈["str", "int", "bool", "list", "tuple", "dict"]→PySem.W.mroIn K C (.type n)=some false)→PySem.W.kitOne K (.ref C) (.type T.nm)=some (eh T (.dc true)):=λC T no=>by
  have m:T.nm∈["str", "int", "bool", "list", "tuple", "dict"]:=by cases T <;> decide
  have e:=no T.nm m
  unfold PySem.W.kitOne
  rw [if_neg (by intro z; cases (beq_iff_eq.mp z))]
  show (if PySem.W.kitMeta T.nm=true then PySem.W.mroIn K _ (.type T.nm) else none)=_
  rw [if_pos (by cases T <;> decide +kernel),e]
  cases T <;> rfl
 by_cases ni:kd d = .dc true
 ·cases h with
  | ins h1 h2 h3=>exact .inl ⟨_,.base (.ins h1 h2.ic.cl h2.ic.ha h2.ic.hn h2.ic.htk h2.ic.hm),λT=>own _ T h2.no⟩
  | exc h1 h2 h3 h4=>exact .inr ⟨_,_,_,_,_,rfl,h3.ask,h1,h2,λT=>own _ T h3.no⟩
  | @dct a ob kv ds h1 h2 h3 =>
   have ni:Kd.dc (dQ ds)=Kd.dc true:=ni
   rw [oK h3] at ni
   cases ni
  | _=>cases ni
 ·exact .inl ⟨_,OQ h ni,λT=>kit_ty (O2 T (kd d))⟩
theorem JS : ∀ T:TyN,bootBuiltins (T.nm:Str)=some (.type T.nm):=by
 intro T
 cases T <;> rfl
section
variable {X:Cx} {xp:XP} {W:WX} {e:Expr} {fa:Sto→Rs D} {p p1 p2 pos:Pos}
theorem Fb (T:TyN) (hg:Gl X T.nm) (hm:X.mg T.nm=none):PE X (.Name T.nm p) (tC (.ty T.nm)):=
 pe_bltn hg hm (JS T) rfl (by cases T <;> decide) (by cases T <;> decide)
theorem Fy (T:TyN) (hg:Gl X "isinstance") (hm:X.mg "isinstance" = none) (hg2:Gl X T.nm) (hm2:X.mg T.nm=none) (ha:CL X xp W e fa) (hs:starEach [e,.Name T.nm p2] X.env=(false,eval e X.env)::starEach [.Name T.nm p2] X.env) :
  CE X xp W (.Call (.Name "isinstance" p) [e,.Name T.nm p2] [] pos) (λρ=>(fa ρ).bind λd => .ok (.bool (eh T (kd d)))):=
 bt (pe_callB FA hg hm rfl (bG ha (bG (Fb T hg2 hm2) cu rfl) hs) (by decide) (by decide) hs rfl) λσ H Q ⟨ρ,O,R,q⟩ =>
  ⟨ρ,O,R,(End.bind q).imp λd H1 _ s1 q1 v hv=>(F2 hv).elim (λ⟨_,z1,z2⟩ => .inl ⟨_,_,_,_,_,rfl,.ty _,z1,z2 T,q1.ok _ (.bl _)⟩) λ⟨a,C,dx,f,fs,e,k,h1,h2,z⟩ => .inr (by subst e; exact ⟨a,C,dx,f,fs,_,_,_,rfl,k,h1,h2,(λ_ r=>r),z T,q1.ok _ (.bl _)⟩)⟩
end
noncomputable def spF (K:PySem.W.Frag) (mg:Str→Option Value) (n:Nat) (m:List D→Rs D):Sp:=λvs H Q E => ∃ (O:List Addr) (ds:List D),Thr K H O∧aj K (msk H O) vs ds∧ds.length=n∧match m ds with
 | .ok d => ∀ H' v,Same H H'→Dn K (msk H' O) v d→Q v H'
 | .ex e => ∀ H' cls dd,Same H H'→eX K mg (msk H' O) e cls dd→E cls dd H'
 | .bad=>False
noncomputable def tQ (X:Cx) (x:Str) (n:Nat) (m:List D→Rs D):Prop:=
 ∃ (k:Nat) (f:Addr) (fd:FuncData) (ps:List Str),FnG X.prog X.w X.K X.mg X.base k f fd ps (spF X.K X.mg n m)∧Rm k X.A∧X.mg x=some (.ref f)∧PySem.W.keepIn X.K (.ref f)=true∧Binds X.K fd ps []
section
variable {X:Cx} {xp:XP} {W:WX} {x:Str} {e:Expr} {es:List Expr} {fs:Sto→Rs (List D)} {n:Nat} {m:List D→Rs D} {p pos:Pos}
theorem KI {K:PySem.W.Frag} {mg:Str→Option Value} {σ:L2.St} {H:Hp} {Q:VK} (h:rdE K mg xp W (λρ=>(fs ρ).bind λds=>if ds.length=n then m ds else .bad) σ H Q):tCallSD (spF K mg n m) [] (λσ cls d H'=>W cls d σ H') (rdA K mg xp W fs) σ H Q:=by
 obtain ⟨ρ,O,R,q⟩:=h
 refine ⟨ρ,O,R,(End.bind q).imp λds H1 _ s1 q1 vs hv => ?_⟩
 obtain ⟨hl,q1⟩:=cO q1
 refine ⟨O,ds,(R.mono s1).thr,by rw [fQ]; exact hv,hl,?_⟩
 cases e:m ds with
 | ok d=>rw [e] at q1; exact λH' v s hd=>q1 H' s v hd
 | ex x=>rw [e] at q1; exact λH' cls dd s hx=>q1 H' cls dd s hx
 | bad=>rw [e] at q1; exact q1.elim
theorem Dv (tk:Takes X W) (nore:bR X.A) (hg:Gl X x) (hd:tQ X x n m) (ha:CA X xp W (e::es) fs) (hdb:(x==("__debug__" : Str))=false) (he:starEach (e::es) X.env=(false,eval e X.env)::starEach es X.env) (hpl:(backTo pos (starEach es X.env)).any (·.1)=false) :
  CE X xp W (.Call (.Name x p) (e::es) [] pos) (λρ=>(fs ρ).bind λds=>if ds.length=n then m ds else .bad):=by
 obtain ⟨k,f,fd,ps,F,room,hm,hk,hb⟩:=hd
 exact bt (EW F room.room nore hg hm hk hb (ds:=[]) (dvs:=[]) .nil (λσ=>passAt tk σ) ha hdb he hpl) λ_ _ _ h=>KI h
theorem Hv (tk:Takes X W) (nore:bR X.A) (hg:Gl X x) (hd:tQ X x n m) (hdb:(x==("__debug__" : Str))=false) :
  CE X xp W (.Call (.Name x p) [] [] pos) (λ_=>if 0=n then m [] else .bad):=by
 obtain ⟨k,f,fd,ps,F,room,hm,hk,hb⟩:=hd
 refine bt (HE F room.room nore hg hm hk hb (ds:=[]) (dvs:=[]) .nil (λσ=>passAt tk σ) hdb) λσ H Q ⟨ρ,O,R,q⟩ => ?_
 obtain ⟨hl,q⟩:=cO q
 refine ⟨O,[],R.thr,.nil,hl,?_⟩
 cases e:m [] with
 | ok d=>rw [e] at q; exact λH' v s hd=>q H' s v hd
 | ex x=>rw [e] at q; exact λH' cls dd s hx=>q H' cls dd s hx
 | bad=>rw [e] at q; exact q.elim
end
end Pf

set_option maxRecDepth 100000
namespace Pf
open PySem PySem.Spec PyProof.Rows L2
inductive Out where
 | nx (ρ:Sto)
 | rt (d:D)
 | bk (ρ:Sto)
 | ct (ρ:Sto)
 | ex (e:EX) (ρ:Sto)
 | bad
noncomputable def Out.seq:Out→(Sto→Out)→Out
 | .nx ρ,k=>k ρ
 | o,_=>o
noncomputable def Out.ofR {α:Type} (r:Rs α) (ρ:Sto) (k:α→Out):Out:=match r with
 | .ok a=>k a
 | .ex e => .ex e ρ
 | .bad => .bad
structure Fr (K:PySem.W.Frag) (xp:XP) (B:List Addr) (σ:L2.St) (H:Hp) (ρ:Sto) (O:List Addr):Prop where
 rel:Rel K xp σ H ρ (O++B)
 own : ∀ (i:Nat) (xs:SV) (a:Addr),cC xs=true→ρ[i]? = some (some xs)→σ[i]? = some (some (.ref a))→a∈O∧a∉B
structure Stp (H:Hp) (O:List Addr) (H':Hp) (O':List Addr):Prop where
 sm:Sm (msk H O) (msk H' O')
 tab:fF H H'
theorem Stp.refl {H:Hp} {O:List Addr}:Stp H O H O:=⟨.refl _,λ_ _ t=>t⟩
theorem Stp.trans {H H' H'':Hp} {O O' O'':List Addr} (s:Stp H O H' O') (t:Stp H' O' H'' O''):Stp H O H'' O'':=⟨s.sm.trans t.sm,λP q h=>t.tab P q (s.tab P q h)⟩
theorem Stp.same {H H':Hp} {O:List Addr} (s:Same H H'):Stp H O H' O:=⟨aH s.sm,s.tab⟩
theorem Fr.mono {K:PySem.W.Frag} {xp:XP} {B O:List Addr} {σ:L2.St} {H H':Hp} {ρ:Sto} (f:Fr K xp B σ H ρ O) (s:Same H H'):Fr K xp B σ H' ρ O:=⟨f.rel.mono s,f.own⟩
noncomputable def aG (K:PySem.W.Frag) (mg:Str→Option Value) (xp:XP) (W:WX) (B:List Addr) (T:Ends) (H:Hp) (O:List Addr):Out→Prop
 | .nx ρ => ∀ σ' H' O',Stp H O H' O'→Fr K xp B σ' H' ρ O'→T.nx σ' H'
 | .rt d => ∀ v H' O',Stp H O H' O'→Thr K H' (O'++B)→Dn K (msk H' (O'++B)) v d→T.rt v H'
 | .bk ρ => ∀ σ' H' O',Stp H O H' O'→Fr K xp B σ' H' ρ O'→T.bk σ' H'
 | .ct ρ => ∀ σ' H' O',Stp H O H' O'→Fr K xp B σ' H' ρ O'→T.ct σ' H'
 | .ex e ρ => ∀ σ' H' O' cls d,Stp H O H' O'→Fr K xp B σ' H' ρ O'→eX K mg (msk H' (O'++B)) e cls d→W cls d σ' H'
 | .bad=>False
section
variable {K:PySem.W.Frag} {mg:Str→Option Value} {xp:XP} {W:WX} {B O O1:List Addr} {T T':Ends} {H H1:Hp} {o:Out}
theorem aG.grow (h:aG K mg xp W B T H O o) (s:Stp H O H1 O1):aG K mg xp W B T H1 O1 o:=by
 cases o with
 | nx ρ=>exact λσ' H' O' t f=>h σ' H' O' (s.trans t) f
 | rt d=>exact λv H' O' t f=>h v H' O' (s.trans t) f
 | bk ρ=>exact λσ' H' O' t f=>h σ' H' O' (s.trans t) f
 | ct ρ=>exact λσ' H' O' t f=>h σ' H' O' (s.trans t) f
 | ex e ρ=>exact λσ' H' O' cls d t f=>h σ' H' O' cls d (s.trans t) f
 | bad=>exact h
theorem aG.ofR {α:Type} {r:Rs α} {ρ:Sto} {k:α→Out} {σ:L2.St} (h:aG K mg xp W B T H O (.ofR r ρ k)) (f:Fr K xp B σ H ρ O):End K mg W (O++B) σ H (λa H'=>aG K mg xp W B T H' O (k a)) r:=by
 cases r with
 | ok a=>exact λH' s=>aG.grow h (Stp.same s)
 | ex e=>exact λH' cls d s x=>h σ H' O cls d (Stp.same s) (f.mono s) x
 | bad=>exact h
theorem aG.oM {α:Type} {r:Rs α} {ρ:Sto} {k:α→Out} {σ:L2.St} (h:aG K mg xp W B T H O (.ofR r ρ k)) (f:Fr K xp B σ H ρ O):End K mg W (O++B) σ H (λa _=>aG K mg xp W B T H O (k a)) r:=by
 cases r with
 | ok a=>exact λH' s=>h
 | ex e=>exact λH' cls d s x=>h σ H' O cls d (Stp.same s) (f.mono s) x
 | bad=>exact h
theorem aG.seq {k:Sto→Out} (h:aG K mg xp W B T H O (o.seq k)):aG K mg xp W B { T with nx:=λσ' H' => ∃ ρ O',Fr K xp B σ' H' ρ O'∧aG K mg xp W B T H' O' (k ρ) } H O o:=by
 cases o with
 | nx ρ=>exact λσ' H' O' t f=>⟨ρ,O',f,aG.grow h t⟩
 | rt d=>exact h
 | bk ρ=>exact h
 | ct ρ=>exact h
 | ex e ρ=>exact h
 | bad=>exact h
end
noncomputable def lV (K:PySem.W.Frag) (mg:Str→Option Value) (xp:XP) (W:WX) (B:List Addr) (f:Sto→Out):TS:=λT σ H => ∃ ρ O,Fr K xp B σ H ρ O∧aG K mg xp W B T H O (f ρ)
noncomputable abbrev CSt (X:Cx) (xp:XP) (W:WX) (B:List Addr) (st:Stmt) (f:Sto→Out):Prop:=PS X st (lV X.K X.mg xp W B f)
noncomputable abbrev CSs (X:Cx) (xp:XP) (W:WX) (B:List Addr) (sts:List Stmt) (f:Sto→Out):Prop:=PSs X sts (lV X.K X.mg xp W B f)
theorem du {X:Cx} {st:Stmt} {t t':TS} (h:PS X st t) (k : ∀ T σ H,t' T σ H→t T σ H):PS X st t':=⟨λpins s σ H T I q=>h.run pins s σ H T I (k T σ H q)⟩
theorem qL {X:Cx} {st:List Stmt} {t t':TS} (h:PSs X st t) (k : ∀ T σ H,t' T σ H→t T σ H):PSs X st t':=⟨λpins s σ H T I q=>h.run pins s σ H T I (k T σ H q)⟩
section
variable {X:Cx} {xp:XP} {W:WX} {B:List Addr} {st:Stmt} {sts:List Stmt} {f g:Sto→Out} {e:Expr} {fe:Sto→Rs D} {ft:Sto→Rs Bool} {pos:Pos}
theorem MV:CSs X xp W B [] (λρ => .nx ρ):=qL pss_nil λT σ H ⟨ρ,O,fr,q⟩=>q σ H O .refl fr
theorem qg (h:CSt X xp W B st f) (h2:CSs X xp W B sts g):CSs X xp W B (st::sts) (λρ=>(f ρ).seq g):=qL (pss_cons h h2) λT σ H ⟨ρ,O,fr,q⟩=>⟨ρ,O,fr,q.seq⟩
theorem D6 (h:CSt X xp W B st f):CSs X xp W B [st] f:=pss_one h
theorem xG (h:CE X xp W e fe):CSt X xp W B (.Return (some e) pos) (λρ => .ofR (fe ρ) ρ λd => .rt d):=
 du (ps_ret h) λT σ H ⟨ρ,O,fr,q⟩=>⟨ρ,O++B,fr.rel,(aG.ofR q fr).imp λd H' _ s k v hv=>k v H' O .refl (fr.rel.thr.same s) hv⟩
theorem Ib (h:CE X xp W e fe) (hs:swapsWith e none pos.line X.env=pure false):CSt X xp W B (.Expr e pos) (λρ => .ofR (fe ρ) ρ λ_ => .nx ρ):=
 du (ps_expr h hs) λT σ H ⟨ρ,O,fr,q⟩=>⟨ρ,O++B,fr.rel,(aG.ofR q fr).imp λd H' _ s k v hv=>k σ H' O .refl (fr.mono s)⟩
theorem Ep {c:Expr} {a b:List Stmt} (hc:CT X xp W c ft) (ha:CSs X xp W B a f) (hb:CSs X xp W B b g):CSt X xp W B (.If c a b pos) (λρ => .ofR (ft ρ) ρ λk=>if k=true then f ρ else g ρ):=
 du (ps_if hc ha hb) λT σ H ⟨ρ,O,fr,q⟩=>⟨ρ,O++B,fr.rel,(aG.ofR q fr).imp λk H' _ s z=>by
  cases k with
  | true=>exact ⟨ρ,O,fr.mono s,z⟩
  | false=>exact ⟨ρ,O,fr.mono s,z⟩⟩
theorem rY {xs:SV} (o:cC xs=true) : ∀ {is:List Nat} {ds:List D} {ρ:Sto} {i:Nat},ds.length=is.length→(b_ is ds ρ)[i]? = some (some xs)→i∉is∧ρ[i]? = some (some xs)
 | [],_,_,_,_,h=>⟨by simp,h⟩
 | j::is,[],_,_,hl,_=>by cases hl
 | j::is,d::ds,ρ,i,hl,h=>by
  obtain ⟨h1,h2⟩:=rY o (is:=is) (ds:=ds) (by simpa using hl) h
  rcases get_set h2 with ⟨_,e⟩ | ⟨ne,e⟩
  ·cases e; cases o
  ·exact ⟨by simp only [cG,not_or]; exact ⟨λz=>ne z.symm,h1⟩,e⟩
theorem Pp {t:Tg} {d:D} {ρ ρ':Sto} {i:Nat} {xs:SV} (o:cC xs=true) (e:bx t d ρ = .ok ρ') (h:ρ'[i]? = some (some xs)):i∉t.slots∧ρ[i]? = some (some xs):=by
 cases t with
 | nm j =>
  cases e
  rcases get_set h with ⟨_,e⟩ | ⟨ne,e⟩
  ·cases e; cases o
  ·exact ⟨by simp only [Tg.slots,c7]; exact λz=>ne z.symm,e⟩
 | tp is =>
  have e:((mR d).bind λds=>if ds.length=is.length then Rs.ok (b_ is ds ρ) else .bad) = .ok ρ':=e
  obtain ⟨ds,_,e⟩:=ae e
  by_cases hl:ds.length=is.length
  ·rw [if_pos hl] at e
   cases e
   exact rY o hl h
  ·rw [if_neg hl] at e; cases e
 | ns j js =>
  obtain ⟨y,es,rfl,hl,rfl⟩:=sr e
  obtain ⟨h1,h2⟩:=rY o hl h
  rcases get_set h2 with ⟨_,e⟩ | ⟨ne,e⟩
  ·cases e; cases o
  ·exact ⟨by simp only [Tg.slots,cG,not_or]; exact ⟨λz=>ne z.symm,h1⟩,e⟩
theorem sP {σ:L2.St} {i:Nat} : ∀ {vs:List Nat},i∉vs→(wipe σ vs)[i]? = σ[i]?
 | [],_=>rfl
 | v::vs,h=>by
  simp only [cG,not_or] at h
  show ((wipe σ vs).set v none)[i]? = _
  rw [List.getElem?_set_ne λz=>h.1 z.symm]
  exact sP h.2
theorem Fr.asg {K:PySem.W.Frag} {O:List Addr} {σ σ':L2.St} {H:Hp} {ρ ρ':Sto} {t:Tg} {d:D} (fr:Fr K xp B σ H ρ O) (e:bx t d ρ = .ok ρ') (r:Rel K xp σ' H ρ' (O++B)) (w:wipe σ' t.slots=wipe σ t.slots):Fr K xp B σ' H ρ' O:=
 ⟨r,λi xs a o h1 h2=>by
  obtain ⟨h3,h4⟩:=Pp o e h1
  refine fr.own i xs a o h4 ?_
  rw [← sP (σ:=σ) h3,← w,sP h3,h2]⟩
theorem OX {K:PySem.W.Frag} {mg:Str→Option Value} {O:List Addr} {t:Tg} {T:Ends} {σ:L2.St} {H:Hp} {ρ:Sto} {d:D} {v:V} {k:Sto→Out} (fr:Fr K xp B σ H ρ O) (hv:Dn K (msk H (O++B)) v d) (q:aG K mg xp W B T H O (.ofR (bx t d ρ) ρ k))
  (nx : ∀ ρ' σ',bx t d ρ = .ok ρ'→Fr K xp B σ' H ρ' O→aG K mg xp W B T H O (k ρ')→T.nx σ' H):bx t d ρ ≠ .bad→(∀ x,bx t d ρ ≠ .ex x)→rdG K xp t v σ H T.nx:=by
 intro h1 h2
 cases e:bx t d ρ with
 | bad=>exact absurd e h1
 | ex x=>exact absurd e (h2 x)
 | ok ρ' =>
  rw [e] at q
  exact ⟨ρ,O++B,d,ρ',fr.rel,hv,e,λσ' r w=>nx ρ' σ' e (fr.asg e r (w _ λ_ h=>h)) q⟩
theorem wB {t:Tg} {d:D} {ρ:Sto} (x:EX):bx t d ρ ≠ .ex x:=by
 cases t with
 | nm i=>intro h; cases h
 | tp is =>
  intro h
  have h:((mR d).bind λds=>if ds.length=is.length then Rs.ok (b_ is ds ρ) else .bad) = .ex x:=h
  cases d with
  | list ds =>
   have h:(if ds.length=is.length then Rs.ok (b_ is ds ρ) else .bad) = .ex x:=h
   split at h <;> cases h
  | tuple ds =>
   have h:(if ds.length=is.length then Rs.ok (b_ is ds ρ) else .bad) = .ex x:=h
   split at h <;> cases h
  | _=>cases h
 | ns i js=>exact PM x
noncomputable def bL (t:Tg) (d:D) (ρ:Sto):Out:=.ofR (bx t d ρ) ρ λρ' => .nx ρ'
theorem Kg {K:PySem.W.Frag} {mg:Str→Option Value} {O:List Addr} {t:Tg} {T:Ends} {σ:L2.St} {H:Hp} {ρ:Sto} {d:D} {v:V} (fr:Fr K xp B σ H ρ O) (hv:Dn K (msk H (O++B)) v d) (q:aG K mg xp W B T H O (bL t d ρ)):rdG K xp t v σ H T.nx:=
 OX (k:=λρ' => .nx ρ') fr hv q (λρ' σ' _ f z=>z σ' H O .refl f) (λe=>by
  have q:aG K mg xp W B T H O (.ofR (bx t d ρ) ρ λρ' => .nx ρ'):=q
  rw [e] at q; exact q) wB
theorem vD {tg:Expr} {t:Tg} (h:CE X xp W e fe) (hg:CG X xp tg t) (hs:swapsWithSole [tg] e pos.line X.env=pure false) (hw:swappedStores [tg] e X.env=pure none) (h1:(assignEach [tg] X.env).map (·.2)=[assign tg X.env]) :
  CSt X xp W B (.Assign [tg] e pos) (λρ => .ofR (fe ρ) ρ λd=>bL t d ρ):=
 du (ps_asg h hg hs hw h1) λT σ H ⟨ρ,O,fr,q⟩=>⟨ρ,O++B,fr.rel,(aG.ofR q fr).imp λd H' _ s k v hv=>Kg (fr.mono s) hv k⟩
theorem Fr.MP {K:PySem.W.Frag} {O:List Addr} {σ:L2.St} {H H':Hp} {ρ:Sto} {p i:Nat} {s0:SV} (o0:cC s0=true) (fr:Fr K xp B σ H ρ O) (hp:H p=none) (s:Same H H') (h:H' p≠none) (a:gz K xp H' (p::(O++B)) s0 (.ref p)) :
  Fr K xp B (σ.set i (some (.ref p))) H' (ρ.set i (some s0)) (p::O):=by
 have r:Rel K xp σ H' ρ (p::(O++B)):=fr.rel.grow hp s h
 have nB:p∉O++B:=fr.rel.thr.out hp
 have fresh : ∀ (j:Nat) (xs:SV),cC xs=true→ρ[j]? = some (some xs)→σ[j]? ≠ some (some (.ref p)):=λj xs o e1 e2 =>
  nB (dh _ (fr.own j xs p o e1 e2).1)
 refine ⟨⟨by simp [r.len],λj sv q => ?_,λj k xs ys v o1 o2 q1 q2 p1 p2 => ?_,r.thr⟩,λj xs b o q1 q2 => ?_⟩
 ·rcases get_set q with ⟨rfl,e⟩ | ⟨ne,e⟩
  ·obtain rfl:=bQ e
   have hl:i<σ.length:=by rw [r.len]; have:=(List.getElem?_eq_some_iff.mp q).1; simpa using this
   exact ⟨_,List.getElem?_set_self hl,a⟩
  ·rw [List.getElem?_set_ne ne]; exact r.at_ j sv e
 ·rcases get_set q1 with ⟨rfl,e⟩ | ⟨ne,e⟩ <;> rcases get_set q2 with ⟨rfl,e'⟩ | ⟨ne',e'⟩
  ·rfl
  ·rw [List.getElem?_set_ne ne'] at p2
   rcases get_set p1 with ⟨_,z⟩ | ⟨z,_⟩
   ·have z:v = .ref p:=bQ z
    rw [z] at p2
    exact absurd p2 (fresh k ys o2 e')
   ·exact absurd rfl z
  ·rw [List.getElem?_set_ne ne] at p1
   rcases get_set p2 with ⟨_,z⟩ | ⟨z,_⟩
   ·have z:v = .ref p:=bQ z
    rw [z] at p1
    exact absurd p1 (fresh j xs o1 e)
   ·exact absurd rfl z
  ·rw [List.getElem?_set_ne ne] at p1; rw [List.getElem?_set_ne ne'] at p2
   exact r.inj j k xs ys v o1 o2 e e' p1 p2
 ·rcases get_set q1 with ⟨rfl,e⟩ | ⟨ne,e⟩
  ·rcases get_set q2 with ⟨_,z⟩ | ⟨z,_⟩
   ·cases z
    exact ⟨by simp,λz=>nB (dW _ z)⟩
   ·exact absurd rfl z
  ·rw [List.getElem?_set_ne ne] at q2
   have:=fr.own j xs b o e q2
   exact ⟨aE _ this.1,this.2⟩
theorem Fr.new {K:PySem.W.Frag} {O:List Addr} {σ:L2.St} {H H':Hp} {ρ:Sto} {p i:Nat} {vs:List V} {ds:List D} (fr:Fr K xp B σ H ρ O) (hp:H p=none) (s:Same H H') (h:H' p=some (.lst vs)) (a:aj K (msk H' (p::(O++B))) vs ds) :
  Fr K xp B (σ.set i (some (.ref p))) H' (ρ.set i (some (.own ds))) (p::O):=
 fr.MP rfl hp s (by rw [h]; exact Option.some_ne_none _) ⟨p,vs,rfl,by simp,h,a⟩
theorem zp {H H':Hp} {O:List Addr} {p:Addr} (hp:H p=none) (s:Same H H'):Stp H O H' (p::O):=⟨dZ hp s.sm,s.tab⟩
theorem Ae {ff:Sto→Rs (List D)} {i:Nat} {x:Str} {pos':Pos} (h:CF X xp W e ff) (hN:X.N.Nodup) (hi:X.N[i]? = some x) (hx:Loc X.env.scope x) (hf:X.fn x=true∨X.env.scope.names.lookup x=some .local) (hs:swapsWith e (some (.Name x pos')) pos.line X.env=pure false) :
  CSt X xp W B (.Assign [.Name x pos'] e pos) (λρ => .ofR (ff ρ) ρ λds => .nx (ρ.set i (some (.own ds)))):=
 du (ps_set hN hi hx h hs hf) λT σ H ⟨ρ,O,fr,q⟩=>⟨ρ,O++B,fr.rel,(aG.oM q fr).imp λds H' _ s k p vs hp h1 hl h2=>k _ H' (p::O) (zp hp s) (fr.new hp s h1 h2)⟩
theorem Fr.E7 {K:PySem.W.Frag} {O:List Addr} {σ:L2.St} {H:Hp} {ρ:Sto} {a:Addr} {i:Nat} {s0 s1:SV} {ob:HO} (o0:cC s0=true) (o1:cC s1=true) (fr:Fr K xp B σ H ρ O) (e1:ρ[i]? = some (some s0)) (e2:σ[i]? = some (some (.ref a)))
  (h:msk (upd H a ob) (O++B)=msk H (O++B)→a∈O++B→gz K xp (upd H a ob) (O++B) s1 (.ref a)) :
  Fr K xp B σ (upd H a ob) (ρ.set i (some s1)) O∧Stp H O (upd H a ob) O:=by
 obtain ⟨aO,aB⟩:=fr.own i s0 a o0 e1 e2
 have mk:msk (upd H a ob) (O++B)=msk H (O++B):=by
  funext b
  by_cases hb:b∈O++B
  ·rw [cK hb,cK hb]
  ·rw [bc hb,bc hb,ax λe=>hb (by rw [e]; exact dh _ aO)]
 have mkO:msk (upd H a ob) O=msk H O:=by
  funext b
  by_cases hb:b∈O
  ·rw [cK hb,cK hb]
  ·rw [bc hb,bc hb,ax λe=>hb (by rw [e]; exact aO)]
 have r:=fr.rel
 have tp:fF H (upd H a ob):=by
  obtain ⟨v,h1,h2⟩:=r.at_ i s0 e1
  rw [e2] at h1
  cases h1
  obtain ⟨u,hu,n⟩:=h2.nc o0
  exact jE hu n
 have old : ∀ {j:Nat} {t:SV},cC t=true→(ρ.set i (some s1))[j]? = some (some t) → ∃ u,cC u=true∧ρ[j]? = some (some u):=λ{j t} o q=>by
  rcases get_set q with ⟨rfl,_⟩ | ⟨_,e⟩
  ·exact ⟨s0,o0,e1⟩
  ·exact ⟨t,o,e⟩
 refine ⟨⟨⟨by simp [r.len],λj sv q => ?_,λj k zs ws v o2 o3 q1 q2 p1 p2 => ?_,⟨λb hb=>f7 (r.thr.nn b hb),r.thr.tb.mono tp⟩⟩,λj zs b o q1 q2 => ?_⟩,by rw [mkO]; exact .refl _,tp⟩
 ·rcases get_set q with ⟨rfl,e⟩ | ⟨ne,e⟩
  ·cases e
   exact ⟨_,e2,h mk (dh _ aO)⟩
  ·obtain ⟨v,h1,h2⟩:=r.at_ j sv e
   refine ⟨v,h1,?_⟩
   cases sv with
   | pd d=>show Dn K _ v d; rw [mk]; exact h2
   | own zs =>
    obtain ⟨b,us',h3,h4,h5,h6⟩:=h2
    refine ⟨b,us',h3,h4,?_,by rw [mk]; exact h6⟩
    rw [ax λz => ?_]
    ·exact h5
    ·subst z; subst h3
     exact ne (r.inj i j s0 _ _ o0 rfl e1 e e2 h1)
   | od zs =>
    obtain ⟨b,us',h3,h4,h5,h6⟩:=h2
    refine ⟨b,us',h3,h4,?_,by rw [mk]; exact h6⟩
    rw [ax λz => ?_]
    ·exact h5
    ·subst z; subst h3
     exact ne (r.inj i j s0 _ _ o0 rfl e1 e e2 h1)
   | st t =>
    obtain ⟨b,h3,h4,h5⟩:=h2
    refine ⟨b,h3,h4,?_⟩
    rw [mk,ax λz => ?_]
    ·exact h5
    ·subst z; subst h3
     exact ne (r.inj i j s0 _ _ o0 rfl e1 e e2 h1)
   | exc x =>
    obtain ⟨b,dd,w,h3,h4,h5,h6⟩:=h2
    exact ⟨b,dd,w,h3,h4,by rw [mk]; exact h5,by rw [mk]; exact h6⟩
   | pin=>exact h2
 ·obtain ⟨_,u1,w1⟩:=old o2 q1
  obtain ⟨_,u2,w2⟩:=old o3 q2
  exact r.inj j k _ _ v u1 u2 w1 w2 p1 p2
 ·obtain ⟨_,u,w⟩:=old o q1
  exact fr.own j _ b u w q2
theorem Fr.put {K:PySem.W.Frag} {O:List Addr} {σ:L2.St} {H:Hp} {ρ:Sto} {a:Addr} {i:Nat} {xs ys:List D} {vs:List V} (fr:Fr K xp B σ H ρ O) (e1:ρ[i]? = some (some (.own xs))) (e2:σ[i]? = some (some (.ref a))) (h:aj K (msk H (O++B)) vs ys) :
  Fr K xp B σ (upd H a (.lst vs)) (ρ.set i (some (.own ys))) O∧Stp H O (upd H a (.lst vs)) O:=
 fr.E7 rfl rfl e1 e2 λmk aO=>⟨a,vs,rfl,aO,aS,by rw [mk]; exact h⟩
theorem Fr.get {K:PySem.W.Frag} {O:List Addr} {σ:L2.St} {H:Hp} {ρ:Sto} {i:Nat} {xs:List D} (fr:Fr K xp B σ H ρ O) (e1:ρ[i]? = some (some (.own xs))) : ∃ a vs,σ[i]? = some (some (.ref a))∧H a=some (.lst vs)∧aj K (msk H (O++B)) vs xs:=by
 obtain ⟨v,h1,a,vs,rfl,_,h2,h3⟩:=fr.rel.at_ i _ e1
 exact ⟨a,vs,h1,h2,h3⟩
noncomputable def ownAt (ρ:Sto) (i:Nat):Rs (List D):=match ρ[i]? with
 | some (some (.own xs)) => .ok xs
 | _ => .bad
theorem aG.ownAt {K:PySem.W.Frag} {mg:Str→Option Value} {T:Ends} {H:Hp} {O:List Addr} {ρ:Sto} {i:Nat} {k:List D→Out} (h:aG K mg xp W B T H O (.ofR (ownAt ρ i) ρ k)) : ∃ xs,ρ[i]? = some (some (.own xs))∧aG K mg xp W B T H O (k xs):=by
 unfold Pf.ownAt at h
 split at h
 ·rename_i xs e
  exact ⟨xs,e,h⟩
 ·exact h.elim
noncomputable def apF (i:Nat) (fe:Sto→Rs D):Sto→Out:=λρ => .ofR (ownAt ρ i) ρ λxs => .ofR (fe ρ) ρ λd=>if xs.length<LIM then .nx (ρ.set i (some (.own (xs++[d])))) else .bad
theorem yD {K:PySem.W.Frag} {mg:Str→Option Value} {T:Ends} {H:Hp} {O:List Addr} {c:Prop} [Decidable c] {o:Out} (h:aG K mg xp W B T H O (if c then o else .bad)):c∧aG K mg xp W B T H O o:=by
 by_cases e:c
 ·rw [if_pos e] at h; exact ⟨e,h⟩
 ·rw [if_neg e] at h; exact h.elim
theorem N8 {i:Nat} {x:Str} {apos cpos p:Pos} (hi:X.N[i]? = some x) (hv:Vis X.env.scope x) (hd:(x==("__debug__" : Str))=false) (hcd:(x==("__classdict__" : Str))=false) (h:CE X xp W e fe)
  (hfew:((backTo cpos (starEach [e] X.env)).all (λx => !x.1)&&(backToKw cpos (keywordEach [] X.env)).all (λx=>x.1.isSome)&&decide ([e].length+([]:List Keyword).length+(if ([]:List Keyword).isEmpty then 0 else 1)<30))=true)
  (hl:(apos.endLine==cpos.line)=true) (he:starEach [e] X.env=(false,eval e X.env)::starEach [] X.env) (hpl:(backTo cpos (starEach [] X.env)).any (·.1)=false) (hs:swapsWith (.Call (.Attribute (.Name x p) "append" apos) [e] [] cpos) none pos.line X.env=pure false) :
  CSt X xp W B (.Expr (.Call (.Attribute (.Name x p) "append" apos) [e] [] cpos) pos) (apF i fe):=
 du (ps_expr (pe_bm PySem.F.plainAttrs_list PySem.F.slot_list_append PySem.F.type_list_append mt_append (pe_var hi hv hd hcd) (bG h cu he) rfl hfew hl he hpl) hs) λT σ H ⟨ρ,O,fr,q⟩=>by
  obtain ⟨xs,e1,q⟩:=aG.ownAt q
  obtain ⟨a,vs,e2,e3,e4⟩:=fr.get e1
  refine ⟨_,e2,.inl ⟨rfl,_,.inl (.inl e3)⟩,ρ,O++B,fr.rel,(aG.ofR q fr).imp λd H' _ s k v hv => ?_⟩
  obtain ⟨lt,k⟩:=yD k
  have f':=fr.mono s
  have len:vs.length=xs.length:=aK e4
  obtain ⟨g1,g2⟩:=f'.put (vs:=vs++[v]) (ys:=xs++[d]) e1 e2 (fB (bj (aH s.sm) e4) (.cons hv .nil))
  exact ⟨a,vs,v,rfl,rfl,s _ _ e3,gX (by omega) b9,k _ _ O g2 g1⟩
noncomputable def frz (i:Nat) (ρ:Sto):Sto:=match ρ[i]? with
 | some (some (.own xs))=>if xs.length≤LIM then ρ.set i (some (.pd (.list xs))) else ρ
 | some (some (.od kvs))=>if kvs.length≤LIM then ρ.set i (some (.pd (.dict kvs))) else ρ
 | _=>ρ
theorem Pk {H:Hp} {O O':List Addr} (h : ∀ b∈O',b∈O):Sm (msk H O) (msk H O'):=.of λb o e=>by
 obtain ⟨h1,h2⟩:=dJ e
 rw [bc λz=>h1 (h b z)]; exact h2
theorem yH {K:PySem.W.Frag} {M:Hp} : ∀ {kv:List (Key × V)} {ds:List (D × D)},bH K M kv ds→kv.length=ds.length
 | _,_,.nil=>rfl
 | _,_,.cons _ t=>bF Nat.succ (yH t)
theorem Fr.give {K:PySem.W.Frag} {O:List Addr} {σ:L2.St} {H H1:Hp} {ρ:Sto} {i:Nat} {s0:SV} {a:Addr} {d:D} (fr:Fr K xp B σ H ρ O) (o0:cC s0=true) (e1:ρ[i]? = some (some s0)) (e2:σ[i]? = some (some (.ref a)))
  (hH : ∀ b,b≠a→H1 b=H b) (ha:H1 a≠none) (tb:fF H H1) (hd : ∀ M:Hp,Sm (msk H (O++B)) M→M a=H1 a→Dn K M (.ref a) d) : ∃ O',Fr K xp B σ H1 (ρ.set i (some (.pd d))) O'∧Stp H O H1 O':=by
 obtain ⟨aO,aB⟩:=fr.own i _ a o0 e1 e2
 let O':=O.filter λb=>decide (b≠a)
 have sub : ∀ b∈O',b∈O:=λb hb=>(List.mem_filter.mp hb).1
 have subB : ∀ b∈O'++B,b∈O++B:=λb hb=>(j6.mp hb).elim (λz=>dh _ (sub b z)) λz=>dW _ z
 have lessO : ∀ {P P':List Addr},a∈P→(∀ b∈P',b∈P)→Sm (msk H P) (msk H1 P'):=λ{P P'} aP h => .of λb o e=>by
  obtain ⟨h1,h2⟩:=dJ e
  rw [bc λz=>h1 (h b z),hH b λz=>h1 (by rw [z]; exact aP)]; exact h2
 have less:Sm (msk H (O++B)) (msk H1 (O'++B)):=lessO (dh _ aO) subB
 have nnH : ∀ b,H b≠none→H1 b≠none:=λb hb=>by
  by_cases z:b=a
  ·rw [z]; exact ha
  ·rw [hH b z]; exact hb
 have out:a∉O'++B:=λz=>(j6.mp z).elim (λz=>by simpa using (List.mem_filter.mp z).2) aB
 have r:=fr.rel
 have old : ∀ {j:Nat} {zs:SV},cC zs=true→(ρ.set i (some (SV.pd d)))[j]? = some (some zs)→i≠j∧ρ[j]? = some (some zs):=λ{j zs} o q=>by
  rcases get_set q with ⟨rfl,e⟩ | ⟨ne,e⟩
  ·cases e; cases o
  ·exact ⟨ne,e⟩
 have keep : ∀ {j:Nat} {zs:SV} {b:Addr},cC zs=true→i≠j→ρ[j]? = some (some zs)→σ[j]? = some (some (.ref b))→b∈O':=λ{j zs b} o ne q1 q2 =>
  List.mem_filter.mpr ⟨(fr.own j zs b o q1 q2).1,by simpa using λz=>ne (r.inj i j _ zs (.ref a) o0 o e1 q1 e2 (by rw [q2,z]))⟩
 refine ⟨O',⟨⟨by simp [r.len],λj sv q => ?_,λj k zs ws v o1 o2 q1 q2 p1 p2=>r.inj j k _ _ v o1 o2 (old o1 q1).2 (old o2 q2).2 p1 p2,⟨λb hb=>nnH b (r.thr.nn b (subB b hb)),r.thr.tb.mono tb⟩⟩,λj zs b o q1 q2=>⟨keep o (old o q1).1 (old o q1).2 q2,(fr.own j zs b o (old o q1).2 q2).2⟩⟩,lessO aO sub,tb⟩
 rcases get_set q with ⟨rfl,e⟩ | ⟨ne,e⟩
 ·cases e
  exact ⟨_,e2,hd _ less (bc out)⟩
 ·obtain ⟨v,h1,h2⟩:=r.at_ j sv e
  refine ⟨v,h1,?_⟩
  cases sv with
  | pd d=>exact bf less h2
  | own zs =>
   obtain ⟨b,us',h3,h4,h5,h6⟩:=h2
   subst h3
   have ba:b≠a:=λz=>ne (r.inj i j _ _ (.ref a) o0 rfl e1 e e2 (by rw [h1,z]))
   exact ⟨b,us',rfl,dh _ (keep rfl ne e h1),by rw [hH b ba]; exact h5,bj less h6⟩
  | od zs =>
   obtain ⟨b,us',h3,h4,h5,h6⟩:=h2
   subst h3
   have ba:b≠a:=λz=>ne (r.inj i j _ _ (.ref a) o0 rfl e1 e e2 (by rw [h1,z]))
   exact ⟨b,us',rfl,dh _ (keep rfl ne e h1),by rw [hH b ba]; exact h5,eJ less h6⟩
  | st t =>
   obtain ⟨b,h3,h4,h5⟩:=h2
   subst h3
   have ba:b≠a:=λz=>ne (r.inj i j _ _ (.ref a) o0 rfl e1 e e2 (by rw [h1,z]))
   exact ⟨b,rfl,dh _ (keep rfl ne e h1),by rw [hH b ba]; exact h5.mono less⟩
  | exc x =>
   obtain ⟨b,dd,w,h3,h4,h5,h6⟩:=h2
   exact ⟨b,dd,w,h3,h4,less _ _ h5,bf less h6⟩
  | pin=>exact h2
theorem Fr.Gg {K:PySem.W.Frag} {O:List Addr} {σ:L2.St} {H:Hp} {ρ:Sto} {xs:List D} (fr:Fr K xp B σ H ρ O) {i:Nat} (e1:ρ[i]? = some (some (.own xs))) (hl:xs.length≤LIM) : ∃ O',Fr K xp B σ H (ρ.set i (some (.pd (.list xs)))) O'∧Stp H O H O':=by
 obtain ⟨a,vs,e2,e3,e4⟩:=fr.get e1
 exact fr.give rfl e1 e2 (λ_ _=>rfl) (by rw [e3]; nofun) (λ_ _ t=>t) λM sm em => .lst (.inl (.inl (by rw [em]; exact e3))) (by rw [aK e4]; exact hl) (bj sm e4)
theorem Fr.frz {K:PySem.W.Frag} {O:List Addr} {σ:L2.St} {H:Hp} {ρ:Sto} (fr:Fr K xp B σ H ρ O) (i:Nat):(∃ O',Fr K xp B σ H (frz i ρ) O'∧Stp H O H O') ∨
  ∃ d kvs,H d=some (.dK kvs) ∧ ∀ o,∃ O',Fr K xp B σ (upd H d (.frz o (.dK kvs))) (Pf.frz i ρ) O'∧Stp H O (upd H d (.frz o (.dK kvs))) O':=by
 unfold Pf.frz
 split
 ·rename_i xs e1
  by_cases hl:xs.length≤LIM
  ·rw [if_pos hl]
   exact .inl (fr.Gg e1 hl)
  ·rw [if_neg hl]
   exact .inl ⟨O,fr,.refl⟩
 ·rename_i kvs e1
  by_cases hl:kvs.length≤LIM
  ·rw [if_pos hl]
   obtain ⟨v,e2,a,vs,rfl,_,e3,e4⟩:=fr.rel.at_ i _ e1
   refine .inr ⟨a,vs,e3,λo => ?_⟩
   exact fr.give rfl e1 e2 (λb hb=>ax hb) (by rw [aS]; nofun) (jE e3) λM sm em => .dct (o:=o) (by rw [em,aS]) (by rw [yH e4]; exact hl) (eJ sm e4)
  ·rw [if_neg hl]
   exact .inl ⟨O,fr,.refl⟩
 ·exact .inl ⟨O,fr,.refl⟩
theorem E8 {i:Nat} (h:CSs X xp W B sts f):CSs X xp W B sts (λρ=>f (frz i ρ)):=qL (LX h) λT σ H ⟨ρ,O,fr,q⟩=>by
 rcases fr.frz i with ⟨O',fr',st⟩ | ⟨d,kvs,e,k⟩
 ·exact .inl ⟨Pf.frz i ρ,O',fr',aG.grow q st⟩
 ·refine .inr ⟨d,kvs,e,λo => ?_⟩
  obtain ⟨O',fr',st⟩:=k o
  exact ⟨Pf.frz i ρ,O',fr',aG.grow q st⟩
theorem vL {H H':Hp} {O O' B:List Addr} (s:Stp H O H' O'):Sm (msk H (O++B)) (msk H' (O'++B)):=⟨λb o e n=>by
 obtain ⟨h1,h2⟩:=dJ e
 simp only [j6,not_or] at h1
 obtain ⟨h3,h4⟩:=dJ (s.sm b o (by rw [bc h1.1]; exact h2) n)
 rw [bc λz=>(j6.mp z).elim h3 h1.2]
 exact h4,λb h z=>(by
 by_cases hb:b∈O++B
 ·exact h (cK hb)
 ·rw [bc hb] at h
  have hO:b∉O:=λy=>hb (dh _ y)
  have hB:b∉B:=λy=>hb (dW _ y)
  have y:=s.sm.dom b (by rw [bc hO]; exact h)
  by_cases hO':b∈O'
  ·exact y (cK hO')
  ·rw [bc hO'] at y
   rw [bc λx=>(j6.mp x).elim hO' hB] at z
   exact y z)⟩
noncomputable def forL (step:D→Sto→Out):List D→Sto→Out
 | [],ρ => .nx ρ
 | d::ds,ρ=>match step d ρ with
  | .nx ρ'=>forL step ds ρ'
  | .ct ρ'=>forL step ds ρ'
  | .bk ρ' => .nx ρ'
  | o=>o
noncomputable def sy (t:Tg) (items:Sto→Rs (List D)) (body:Sto→Out):Sto→Out:=λρ => .ofR (items ρ) ρ λds=>forL (λd ρ'=>(bL t d ρ').seq body) ds ρ
theorem Ld {K:PySem.W.Frag} {mg:Str→Option Value} {t:Tg} {items:Sto→Rs (List D)} {body:Sto→Out} {T:Ends} {σ:L2.St} {H:Hp} (h:lV K mg xp W B (sy t items body) T σ H):tFor (rdI K mg xp W items) (rdG K xp t) (lV K mg xp W B body) T σ H:=by
 obtain ⟨ρ,O,fr,q⟩:=h
 refine ⟨ρ,O++B,fr.rel,(aG.ofR q fr).imp λds H1 _ s1 q1 J G hG wk => ?_⟩
 let step:D→Sto→Out:=λd ρ'=>(bL t d ρ').seq body
 let Pv:Nat→L2.St→Hp→Prop:=λi σ' H' => ∃ ρ' O',Fr K xp B σ' H' ρ' O'∧G (msk H' (O'++B))∧aG K mg xp W B T H' O' (forL step (ds.drop i) ρ')
 refine ⟨λi m σ' H'=>m=ds.length-i∧i≤ds.length∧Pv i σ' H',⟨ds.length,by simp,cy _,ρ,O,fr.mono s1,hG,q1⟩,?_⟩
 rintro i m σ' H' ⟨rfl,hi,ρ',O',fr',g',q'⟩
 by_cases lt:i<ds.length
 ·refine .inr ⟨wk.goes i H' _ lt g',Pv (i+1),λσ2 H2 p2=>⟨ds.length-(i+1),by omega,rfl,lt,p2⟩,λx H2 y => ?_⟩
  obtain ⟨s2,d,e1,hd⟩:=wk.yields i H' _ x H2 lt g' fr'.rel.thr y
  rw [fu lt] at q'
  have e2:ds[i]=d:=by
   rw [List.getElem?_eq_getElem lt] at e1
   exact bQ e1
  rw [e2] at q'
  have fr2:=fr'.mono s2
  have q2:aG K mg xp W B T H2 O' (forL step (d::ds.drop (i+1)) ρ'):=q'.grow (Stp.same s2)
  have gk : ∀ {H3:Hp} {O3:List Addr},Sm (msk H2 (O'++B)) (msk H3 (O3++B))→G (msk H3 (O3++B)):=λs=>wk.mono _ _ (wk.mono _ _ g' (aH s2.sm)) s
  cases ea:bx t d ρ' with
  | ex z=>exact absurd ea (wB z)
  | bad =>
   have:step d ρ' = .bad:=by show (Out.ofR (bx t d ρ') ρ' λρ' => .nx ρ').seq body=_; rw [ea]; rfl
   unfold forL at q2
   rw [this] at q2
   exact q2.elim
  | ok ρ3 =>
   have st:step d ρ'=body ρ3:=by show (Out.ofR (bx t d ρ') ρ' λρ' => .nx ρ').seq body=_; rw [ea]; rfl
   unfold forL at q2
   rw [st] at q2
   refine ⟨ρ',O'++B,d,ρ3,fr2.rel,hd,ea,λσ3 r3 w3=>⟨ρ3,O',fr2.asg ea r3 (w3 _ λ_ h=>h),?_⟩⟩
   generalize hb:body ρ3=o at q2
   cases o with
   | nx ρ4=>exact λσ4 H4 O4 s4 f4=>⟨ρ4,O4,f4,gk (vL s4),q2.grow s4⟩
   | ct ρ4=>exact λσ4 H4 O4 s4 f4=>⟨ρ4,O4,f4,gk (vL s4),q2.grow s4⟩
   | bk ρ4=>exact q2
   | rt d=>exact q2
   | ex x ρ4=>exact q2
   | bad=>exact q2
 ·have e:i=ds.length:=by omega
  subst e
  refine .inl ⟨wk.stops H' _ g',?_⟩
  rw [jc] at q'
  exact q' σ' H' O' .refl fr'
theorem Nb {tg iter:Expr} {body:List Stmt} {t:Tg} {items:Sto→Rs (List D)} (hp:PassesOwn (model X.prog X.w) X.A X.env X.xe) (hc:X.calm=true) (hi:CI X xp W tg iter items) (hg:CG X xp tg t) (hb:CSs X xp W B body f) (hs : ∀ x,foldedSetIterable iter X.env x=pure x) :
  CSt X xp W B (.For tg iter body [] pos) (sy t items f):=du (ps_for hp hc hi hg hb hs) λ_ _ _ h=>Ld h
noncomputable def whL (c:Sto→Rs Bool) (body:Sto→Out):Nat→Sto→Out
 | 0,_ => .bad
 | n+1,ρ => .ofR (c ρ) ρ λk=>if k=true then (match body ρ with
  | .nx ρ'=>whL c body n ρ'
  | .ct ρ'=>whL c body n ρ'
  | .bk ρ' => .nx ρ'
  | o=>o) else .nx ρ
end
end Pf

set_option maxRecDepth 100000
namespace Pf
open PySem PySem.F
noncomputable abbrev zu:List Value:=[.type "KeyError",.type "LookupError",.type "Exception",.type "BaseException",.type "object"]
theorem Nn:StoreFacts "KeyError" zu "object.__setattr__" "object" where
 mro:=by kernel_rfl
 slot:=.of (owner:= "object") (n:= "__setattr__") (by rw [typeLookup_type,builtinLookup_eq_fast]; kernel_rfl) (by decide +kernel) (by decide +kernel) (by decide +kernel)
  (by first | exact .inl (by decide +kernel) | exact .inr (by decide +kernel)) (by rw [isSubtype_type]; kernel_rfl)
 entry:=entry_object_sa
 kind:=by decide +kernel
 split:=by decide +kernel
 hasOwner:=by decide +kernel
 args:=λa b c=>by unfold argsOk; kernel_rfl
 passes:=λself=>by kernel_rfl
theorem II:Slot "KeyError" "__init__" "KeyError.__init__":=.of (owner:= "KeyError") (n:= "__init__") (by rw [typeLookup_type,builtinLookup_eq_fast]; kernel_rfl) (by decide +kernel) (by decide +kernel) (by decide +kernel)
  (by first | exact .inl (by decide +kernel) | exact .inr (by decide +kernel)) (by rw [isSubtype_type]; kernel_rfl)
theorem ND:entryFor table "KeyError.__init__" = some Builtin.«BaseException.__init__»:=entryFor_alias (id':= "BaseException.__init__") (by rw [fastTable_eq_tree]; kernel_rfl) (by first | rfl | decide +kernel) (by decide +kernel) (by rw [fastTable_eq_tree]; kernel_rfl)
theorem JJ:splitId "KeyError.__init__" = some ("KeyError", "__init__"):=by kernel_rfl
theorem JC:builtinKind "KeyError.__init__" = some .slot:=by kernel_rfl
theorem EL:Manifest.signature? "KeyError.__init__" = some ⟨.positional, "*", "KeyError",.self,[⟨"args",.varPos,false⟩]⟩:=by kernel_rfl
section
variable {M:Model} {A:Around} {E:Value→Shared→Prop} {h:Heap} {g:Array GenState} {d:Drawn} {t:Nat} {os:OsState}
variable {nm q:Str} {C N:Addr} {bs bm bmB:List Value} {hdct:Bool} {sn:List Str} {sub:List Value} {ab:Bool} {col:Option Bool} {dd:Option Addr} {k0 k1 k2 k3 k5:Option Value} {B newId initId:String}
structure Below (bm:List Value) (B:String):Prop where
 b:bm.contains (.type B)=true
 a:bm.contains (.type "AttributeError")=false
 n:bm.contains (.type "NameError")=false
theorem Hk (F:ExcBaseFacts B newId initId bmB) (hT:Below bm B) {rest:List Value} {Q:Unit→Shared→Prop}
  (hC:h.get? C=some (excClassObj nm q C N bs bm hdct sn sub ab col dd k0 k1 k2 k3 k5 newId)) (hq:Q () ⟨h,g,d,t,os⟩):wpAny M A (checkBuiltinCall newId ⟨.ref C::rest,[]⟩) Q E ⟨h,g,d,t,os⟩:=by
 have c1:(Value.ref C::bm).contains (.type B)=true:=by rw [List.contains_cons,hT.b,Bool.or_true]
 have c2:=F.noStar
 simp only [checkBuiltinCall,F.newKind,F.newSplit,F.newRow]
 repeat (first | refine je hC ?_ | (refine wpAny_isSubtype_exc hC ?_; rw [c1]) | refine wpAny_staticBase_exc hC ?_ | refine wpAny_madeBy_exc hC ?_ | simp only [bne_self_eq_false,cV,if_false] | wp_step)
 exact hq
theorem Gf (hb:bm.contains (.type "KeyError")=true) {e:Addr} {oe:Obj} {rest:List Value} {Q:Unit→Shared→Prop}
  (hC:h.get? C=some (excClassObj nm q C N bs bm hdct sn sub ab col dd k0 k1 k2 k3 k5 newId)) (he:h.get? e=some oe) (fE:oe.cls = .ref C) (hq:Q () ⟨h,g,d,t,os⟩) :
  wpAny M A (checkBuiltinCall "KeyError.__init__" ⟨.ref e::rest,[]⟩) Q E ⟨h,g,d,t,os⟩:=by
 have c1:(Value.ref C::bm).contains (.type "KeyError")=true:=by rw [List.contains_cons,hb,Bool.or_true]
 have c2:("KeyError" != "*")=true:=by decide +kernel
 simp only [checkBuiltinCall,JC,JJ,EL]
 repeat (first | (with_reducible refine je he ?_; rw [fE]) | with_reducible refine je hC ?_ | (with_reducible refine wpAny_isSubtype_exc hC ?_; rw [c1]) | wp_step)
 refine wpAny_onRaise ?_
 rw [show ∀ (a b:String) (n:Nat),Bind.check ⟨.positional, "*", "KeyError",.self,[⟨"args",.varPos,false⟩]⟩ a b n (List.map (λx=>x.fst) ({ pos:=Value.ref e::rest }:Args).kw)=pure () from
  λa b n=>check_star_args _ _ _ _ _ _]
 exact ah hq
end
section
variable {prog:Program} {w:World} {A:Around} {E:Value→Shared→Prop} {R:Result→Shared→Prop} {h:Heap} {g:Array GenState} {d:Drawn} {t:Nat} {os:OsState}
variable {nm q:Str} {C N:Addr} {bs bm bmB:List Value} {hdct:Bool} {sn:List Str} {sub:List Value} {ab:Bool} {col:Option Bool} {dd:Option Addr} {k0 k1 k2 k3 k5:Option Value} {B newId initId:String}
theorem Ie (F:ExcBaseFacts B newId initId bmB) (hT:Below bm B) {rest:List Value}
  (hC:h.get? C=some (excClassObj nm q C N bs bm hdct sn sub ab col dd k0 k1 k2 k3 k5 newId))
  (hq:R (.ok (.ret (.ref (h.objs.size+1)))) ⟨(h.push (W.kdv_tup rest)).push (HandSPX.excO C h.objs.size),g,d,t,os⟩) (hrest:rest.length≤sizeLine) :
  codeAny (model prog w) A (.builtin newId ⟨.ref C::rest,[]⟩) R ⟨h,g,d,t,os⟩:=by
 have hends:=F.ends
 have c1:(Value.ref C::bm).contains (.type B)=true:=by rw [List.contains_cons,hT.b,Bool.or_true]
 have c2:(Value.ref C::bm).contains (.type "AttributeError")=false:=by rw [List.contains_cons,hT.a]; rfl
 have c3:(Value.ref C::bm).contains (.type "NameError")=false:=by rw [List.contains_cons,hT.n]; rfl
 refine codeAny_builtinAt F.entry ?_
 unfold Builtin.«BaseException.__new__»
 refine wpAt_bind ?_
 show wpAt _ _ _ (stack >>= _) _ _ _
 refine wpAt_bind (wpAt_stack λp below=>wpAt_of_wpAny ?_)
 wp_walk
 refine wpAt_of_wpAny ?_
 rw [F.owner]
 repeat (first | with_reducible refine wpAny_madeHere_exc F.canon hC ?_ | with_reducible refine je hC ?_ | (with_reducible refine wpAny_isSubtype_exc hC ?_; first | rw [c1] | rw [c2] | rw [c3]) | wp_step)
 show R _ _
 rw [cU]
 exact hq
theorem tcB (F:ExcBaseFacts B newId initId bmB) (hT:Below bm B) {rest:List Value} {fI:Addr} {Q:Fin→Shared→Prop}
  (hC:h.get? C=some (excClassObj nm q C N bs bm hdct sn sub ab col dd k0 k1 k2 k3 k5 newId))
  (hi:W.Looks (model prog w) h (typeLookup (.ref C) "__init__") (some (.ref fI))) (hb : ∀ self,W.Looks (model prog w) h (bindSpecial (.ref fI) self) (.ref fI,[self])) (hrest:rest.length≤sizeLine)
  (hq:codeAny (model prog w) A (.call (.ref fI) ⟨.ref (h.objs.size+1)::rest,[]⟩)
   (λr s'=>match r with | .ok (.ret v)=>v = .none∧Q (.done (.ret (.ref (h.objs.size+1)))) s' | .ok _=>False | .error e=>E e s')
   ⟨(h.push (W.kdv_tup rest)).push (HandSPX.excO C h.objs.size),g,d,t,os⟩) :
  wpAny (model prog w) A (Builtin.«type.__call__» ⟨.ref C::rest,[]⟩) Q E ⟨h,g,d,t,os⟩:=by
 repeat (first | with_reducible refine je hC ?_ | with_reducible refine wpAny_madeBy_exc hC ?_ | wp_step)
 refine codeAny_call_builtin_code (Code.quiet_builtin _ F.quiet) (Hk F hT hC ?_)
 refine Ie F hT hC ?_ hrest
 show wpAny _ _ _ _ _ _
 have k : ∀ b o,h.get? b=some o→((h.push (W.kdv_tup rest)).push (HandSPX.excO C h.objs.size)).get? b=some o:=λb o e=>aD _ (aD _ e)
 have hC₁:=k _ _ hC
 have hget:((h.push (W.kdv_tup rest)).push (HandSPX.excO C h.objs.size)).get? (h.objs.size+1)=some (HandSPX.excO C h.objs.size):=by heap_get
 have hcC:(Value.ref C::bm).contains (.ref C)=true:=by simp
 have i1:=hi.keeps k
 have b1:=(hb (.ref (h.objs.size+1))).keeps k
 unfold isInstance
 repeat (first | with_reducible refine je hget ?_ | (with_reducible refine wpAny_isSubtype_exc hC₁ ?_; rw [hcC]) | wp_step)
 show wpAny _ _ (typeLookup (.ref C) _) _ _ _
 refine i1.at ?_
 refine bA (af (b1.at ?_))
 refine af (eQ (dV hq λr s' z => ?_))
 rcases r with e | (v | _ | _ | _) <;> first | exact z | exact z.elim | skip
 obtain ⟨rfl,z⟩:=z
 first
  | exact ah (ah z)
  | (wp_walk; exact z)
theorem GN (F:ExcBaseFacts B newId initId bmB) (hT:Below bm B) {rest:List Value} {fI:Addr}
  (hC:h.get? C=some (excClassObj nm q C N bs bm hdct sn sub ab col dd k0 k1 k2 k3 k5 newId))
  (hi:W.Looks (model prog w) h (typeLookup (.ref C) "__init__") (some (.ref fI))) (hb : ∀ self,W.Looks (model prog w) h (bindSpecial (.ref fI) self) (.ref fI,[self])) (hrest:rest.length≤sizeLine)
  (hq:codeAny (model prog w) (A.under (.builtin "type.__call__" ⟨.ref C::rest,[]⟩)) (.call (.ref fI) ⟨.ref (h.objs.size+1)::rest,[]⟩) (W.InitBack (h.objs.size+1) R)
   ⟨(h.push (W.kdv_tup rest)).push (HandSPX.excO C h.objs.size),g,d,t,os⟩) :
  codeAny (model prog w) A (.call (.ref C) ⟨rest,[]⟩) R ⟨h,g,d,t,os⟩:=by
 have f1:=tc_lookup
 have f2:=tc_bind (.ref C)
 have hTy:(⟨h,g,d,t,os⟩:Shared).TypeIs (.ref C) "type":=⟨_,hC,rfl⟩
 refine codeAny_of_tree ?_
 show wpAny _ _ (callAny (.ref C) _) _ _ _
 repeat (any_goals (first | assumption | with_reducible refine je hC ?_ | wp_step))
 refine ⟨rfl,?_⟩
 refine codeAny_call_builtin_at (Code.quiet_builtin _ (by decide +kernel)) entry_typeCall (wpAny_check_type_call_sub hC (tcB F hT hC hi hb hrest ?_))
 refine dV hq λr s' z => ?_
 rcases r with e | (v | _ | _ | _) <;> exact z
theorem Oz (hb:bm.contains (.type "KeyError")=true) {e t0:Addr} {rest:List Value}
  (hC:h.get? C=some (excClassObj nm q C N bs bm hdct sn sub ab col dd k0 k1 k2 k3 k5 newId)) (he:h.get? e=some (HandSPX.excO C t0)) (hrest:rest.length≤sizeLine)
  (hq : ∀ h' t1,(∀ b o,b≠e→h.get? b=some o→h'.get? b=some o)→h'.get? e=some (HandSPX.excO C t1)→R (.ok (.ret .none)) ⟨h',g,d,t,os⟩) :
  codeAny (model prog w) A (.call (.builtin "KeyError.__init__") ⟨.ref e::rest,[]⟩) R ⟨h,g,d,t,os⟩:=by
 refine codeAny_call_builtin II.plain ND (Gf hb hC he rfl ?_)
 wp_walk
 refine hq _ h.objs.size (λb o hb ho => ?_) ?_
 ·rw [Heap.get?_update_other _ _ (Ne.symm hb)]
  exact aD _ ho
 ·rw [Heap.get?_update_self _ (aD _ he) rfl]
  rfl
end
end Pf

set_option maxRecDepth 100000
namespace Pf
open PySem PySem.Spec PyProof.Rows L2
inductive Bs where
 | exc | val | look | arith | rt | over | key
noncomputable def Bs.nm:Bs→String
 | .exc => "Exception" | .val => "ValueError" | .look => "LookupError" | .arith => "ArithmeticError" | .rt => "RuntimeError" | .over => "OverflowError" | .key => "KeyError"
noncomputable def Bs.new:Bs→String
 | .exc => "Exception.__new__" | .val => "ValueError.__new__" | .look => "LookupError.__new__" | .arith => "ArithmeticError.__new__" | .rt => "RuntimeError.__new__" | .over => "OverflowError.__new__" | .key => "LookupError.__new__"
noncomputable def Bs.ini:Bs→String
 | .exc => "Exception.__init__" | .val => "ValueError.__init__" | .look => "LookupError.__init__" | .arith => "ArithmeticError.__init__" | .rt => "RuntimeError.__init__" | .over => "OverflowError.__init__" | .key => "KeyError.__init__"
noncomputable def Bs.tail:Bs→List Value
 | .exc=>[.type "Exception",.type "BaseException",.type "object"]
 | .val=>[.type "ValueError",.type "Exception",.type "BaseException",.type "object"]
 | .look=>[.type "LookupError",.type "Exception",.type "BaseException",.type "object"]
 | .arith=>[.type "ArithmeticError",.type "Exception",.type "BaseException",.type "object"]
 | .rt=>[.type "RuntimeError",.type "Exception",.type "BaseException",.type "object"]
 | .over=>[.type "OverflowError",.type "ArithmeticError",.type "Exception",.type "BaseException",.type "object"]
 | .key=>zu
noncomputable def Bs.plain:Bs→Bool
 | .key=>false
 | _=>true
theorem Bs.facts : ∀ b:Bs,b.plain=true→ExcBaseFacts b.nm b.new b.ini b.tail
 | .exc,_=>F.excBase_Exception
 | .val,_=>F.excBase_ValueError
 | .look,_=>F.excBase_LookupError
 | .arith,_=>F.excBase_ArithmeticError
 | .rt,_=>F.excBase_RuntimeError
 | .over,_=>F.excBase_OverflowError
section
variable {prog:Program} {w:World} {A:Around} {R:Result→Shared→Prop} {h:Heap} {g:Array GenState} {d:Drawn} {t:Nat} {os:OsState}
variable {nm q:Str} {C N:Addr} {bs bm:List Value} {hdct:Bool} {sn:List Str} {sub:List Value} {ab:Bool} {col:Option Bool} {dd:Option Addr} {k0 k1 k2 k3 k5:Option Value}
theorem Bs.make (b:Bs) (hT : ∀ X:String,bm.contains (.type X)=b.tail.contains (.type X)) {rest:List Value} {fI:Addr}
  (hC:h.get? C=some (excClassObj nm q C N bs bm hdct sn sub ab col dd k0 k1 k2 k3 k5 b.new))
  (hi:PySem.W.Looks (model prog w) h (typeLookup (.ref C) "__init__") (some (.ref fI))) (hb : ∀ self,PySem.W.Looks (model prog w) h (bindSpecial (.ref fI) self) (.ref fI,[self])) (hrest:rest.length≤sizeLine)
  (hq:codeAny (model prog w) (A.under (.builtin "type.__call__" ⟨.ref C::rest,[]⟩)) (.call (.ref fI) ⟨.ref (h.objs.size+1)::rest,[]⟩) (PySem.W.InitBack (h.objs.size+1) R)
   ⟨(h.push (PySem.W.kdv_tup rest)).push (HandSPX.excO C h.objs.size),g,d,t,os⟩) :
  codeAny (model prog w) A (.call (.ref C) ⟨rest,[]⟩) R ⟨h,g,d,t,os⟩:=by
 cases e:b.plain with
 | true=>exact HandSPX.call_own (b.facts e) hT hC hi hb hrest hq
 | false =>
  cases b with
  | key=>exact GN F.excBase_LookupError ⟨by rw [hT]; decide +kernel,by rw [hT]; decide +kernel,by rw [hT]; decide +kernel⟩ hC hi hb hrest hq
  | _=>cases e
theorem Bs.Ku (b:Bs) (hT : ∀ X:String,bm.contains (.type X)=b.tail.contains (.type X)) {e t0:Addr} {rest:List Value}
  (hC:h.get? C=some (excClassObj nm q C N bs bm hdct sn sub ab col dd k0 k1 k2 k3 k5 b.new)) (he:h.get? e=some (HandSPX.excO C t0)) (hrest:rest.length≤sizeLine)
  (hq : ∀ h' t1,(∀ b o,b≠e→h.get? b=some o→h'.get? b=some o)→h'.get? e=some (HandSPX.excO C t1)→R (.ok (.ret .none)) ⟨h',g,d,t,os⟩) :
  codeAny (model prog w) A (.call (.builtin b.ini) ⟨.ref e::rest,[]⟩) R ⟨h,g,d,t,os⟩:=by
 cases z:b.plain with
 | true=>exact HandSPX.init_base (b.facts z) hT hC he hrest hq
 | false =>
  cases b with
  | key=>exact Oz (by rw [hT]; decide +kernel) hC he hrest hq
  | _=>cases z
end
theorem Bs.store : ∀ b:Bs,StoreFacts b.nm b.tail "object.__setattr__" "object"
 | .exc=>F.store_Exception
 | .val=>F.store_ValueError
 | .look=>F.store_LookupError
 | .arith=>F.store_ArithmeticError
 | .rt=>F.store_RuntimeError
 | .over=>F.store_OverflowError
 | .key=>Nn
structure Oc (K:PySem.W.Frag) (b:Bs) (C:Addr) (f:Str):Prop where
 ini:PySem.W.excInitIn K C b.tail b.new=true
 over:PySem.W.excOver K C b.tail=true
 hd:PySem.W.hasDictIn K C=true
 tk:PySem.W.takerIn K C f=some none
 sa:PySem.W.findIn K (.ref C) "__setattr__" = some (some (.builtin "object.__setattr__"))
 exC:PySem.W.subIn K (.ref C) (.type "BaseException")=some true
 tyC:PySem.W.typeIn K (.ref C)=some (.type "type")
 kC:PySem.W.keepIn K (.ref C)=true
section
open Builtin Builtin.ObjectAttr
variable {prog:Program} {w:World} {A:Around} {R:Result→Shared→Prop} {hp:Heap} {g:Array GenState} {d:Drawn} {t:Nat} {os:OsState}
theorem GA {K:W.Frag} {b:Bs} {name:Str} {tk:Tok} {v:Value} {x C:Addr} {fv:Array Value} (c:Oc K b C name) (inK:K.In hp) (hx:hp.get? x=some { cls:=.ref C,data:=.fields fv })
  (goal : ∀ h' tk' dx,(∀ b o,b≠x→hp.get? b=some o→h'.get? b=some o)→hp.objs.size≤dx→dx≠x→h'.get? x=some { cls:=.ref C,dict:=some dx,data:=.fields fv }→h'.Ns1 dx (λy=>if y=name then some v else none)→R (.ok (.ret .none)) ⟨h',g,d,tk',os⟩) :
  codeAny (model prog w) A (.call (.builtin "object.__setattr__") ⟨[.ref x,.str name tk,v],[]⟩) R ⟨hp,g,d,t,os⟩:=by
 have lt:x≠hp.objs.size:=bU (bD hx)
 obtain ⟨cd,hcd,hh⟩ : ∃ cd,W.clsIn K C=some cd∧cd.hasDict=true:=by
  have z:=c.hd
  unfold W.hasDictIn at z
  cases e:W.clsIn K C with
  | none=>rw [e] at z; cases z
  | some cd=>rw [e] at z; exact ⟨cd,rfl,z⟩
 have cls:=W.looks_clsIn (M:=model prog w) inK hcd
 have inst:W.InstAt hp x { cls:=.ref C,data:=.fields fv } C none:=⟨hx,rfl,rfl,trivial⟩
 refine W.osa_openX (s:=⟨hp,g,d,t,os⟩) b.store inK inst c.over c.tk λbb => ?_
 show wpAny _ _ (storeInOwnDict (.ref x) (.ref C) (.str name tk) name v bb) _ _ _
 obtain ⟨nm,bs,mro,ns,qn,hd,sn,sb,ab,col,del⟩:=cd
 dsimp only at hh
 subst hh
 unfold storeInOwnDict ownDictForStores
 repeat (first | with_reducible refine HandSPX.store_in_new ?_ ?_ | with_reducible refine je hx ?_ | with_reducible refine cls.at ?_ | wp_step)
 ·exact ⟨_,#[],_,(Heap.get?_update_ne _ _ _ _ lt.symm).trans (Heap.get?_push_at rfl rfl),rfl,λe he=>absurd he (by simp),λ_=>rfl⟩
 ·intro h' tk' new same
  have kept:(hp.push { cls:=.type "dict",data:=.dict #[] }).get? x=some { cls:=.ref C,data:=.fields fv }:=aD _ hx
  refine goal h' tk' hp.objs.size (λb o ne ho => ?_) (aC _) lt.symm ((same.2 x lt).trans (Heap.get?_update_self _ kept rfl)) new
  rw [same.2 b (bU (bD ho)),Heap.get?_update_ne _ _ _ _ ne]
  exact aD _ ho
end
section
variable {X:Cx} {pins:List (Addr × Obj)} {σ:L2.St} {H:Hp} {s:Shared} {a C:Addr} {b:Bs} {f:Str} {y:V} {u:Value} {E:Value→Shared→Prop} {A:Around}
theorem MS {Q:Unit→Shared→Prop} (c:Oc X.K b C f) (I:Inv X pins σ H s) (e:H a=some (exo a C none)) (ry:RelV y u)
  (h : ∀ dx s',H dx=none→dx≠a→Inv X pins σ (upd (upd H dx (exd dx [(f,y)])) a (exo a C (some dx))) s'→Q () s'):wpAny (model X.prog X.w) A (setAttr (.ref a) f u) Q E s:=by
 obtain ⟨t1,there⟩:=exo_at I.hok e
 obtain ⟨hp,g,d,t,os⟩:=s
 refine PySem.W.set_plain I.kIn (ox:={ cls:=.ref C,dict:=none,data:=.fields #[.ref t1,.none,.none,.none,.bool false,.none] }) (od:=none) ⟨there,rfl,rfl,trivial⟩ c.sa ?_
 refine GA c I.kIn there λh' tk' dx keep ge ne at' new => ?_
 have free:H dx=none:=I.hok.fresh ge
 have nd : ∀ {b:Addr} {o:Obj},hp.get? b=some o→b≠dx:=λ{b o} q=>bU (gX (bD q) ge)
 have na : ∀ {b:Addr},H b=none→b≠a:=λ{b} n z=>by rw [z,e] at n; cases n
 have U:Un X.fs [] H (upd (upd H dx (exd dx [(f,y)])) a (exo a C (some dx))) hp h':=
  {keep:=λb o q n _ _=>keep b o (na n) q
   slot:=λb o q n _ _=>⟨o.slots,keep b o (na n) q⟩
   free:=λb o q n _=>by
    rw [ax (na n),ax (nd q)]
    exact n
   there:=λb o q _=>if hb:b=a then hb ▸ ⟨_,at'⟩ else ⟨o,keep b o hb q⟩
   tups:=λb xs q=>by
    rw [ax (at_ne e q exo_tup),ax (dO q free)]
    exact q
   frzs:=λb o v q=>by
    rw [ax (at_ne e q exo_frz),ax (dO q free)]
    exact q
   tbls:=λb ps q=>⟨#[],by rw [ax (at_ne e q exo_tbl),ax (dO q free),q]; simp⟩ }
 refine h dx _ free ne (I.un (t':=tk') U λb o q => ?_)
 by_cases hb:b=a
 ·rw [hb,aS] at q
  cases q
  rw [hb]
  exact exo_ok at'
 ·rw [ax hb] at q
  by_cases hd:b=dx
  ·rw [hd,aS] at q
   cases q
   rw [hd]
   exact exd_ok new (relO_put (fs:=[]) ry λ_=>trivial)
  ·rw [ax hd] at q
   refine (I.hok b o q).stay (λc v hc z=>keep c v ?_ z) (λc hc => ?_) λc xs hc => ?_
   ·exact hc.elim (λhc=>by rw [hc]; exact hb) λhc=>at_ne e hc exo_own
   ·rw [ax (at_ne e hc exo_own),ax (dO hc free)]
    exact hc
   ·rw [ax (at_ne e hc exo_tup),ax (dO hc free)]
    exact hc
theorem FV {us:List Value} {Q:Value→Shared→Prop} (c:Oc X.K b C f) (I:Inv X pins σ H s) (e:H a=some (exo a C none)) (hl:us.length≤sizeLine) (h : ∀ s',Inv X pins σ H s'→Q .none s') :
  wpAny (model X.prog X.w) A (call (.builtin b.ini) (.ref a::us)) Q E s:=by
 obtain ⟨t1,there⟩:=exo_at I.hok e
 obtain ⟨nm,N,qn,bs,bm,hdct,sn,sub,ab,col,dd,k0,k1,k2,k3,k5,hC,hT⟩:=PySem.W.excInit_of I.kIn c.ini
 obtain ⟨hp,g,d,t,os⟩:=s
 refine eQ (b.Ku hT hC there hl λh' t2 keep at' => ?_)
 have J:=I.write (t':=t) (x:=a) (e:=a) (o:=exo a C none) (by rw [e]; exact True.intro) (.inl rfl) keep ⟨_,at'⟩ (exo_ok at')
 have same:upd H a (exo a C none)=H:=by
  funext b'
  by_cases hb:b'=a
  ·rw [hb,aS,e]
  ·exact ax hb
 rw [same] at J
 exact h _ J
end
end Pf

set_option maxRecDepth 100000
namespace Pf
open PySem PySem.Spec PyProof.Rows L2
noncomputable def tBi (K:PySem.W.Frag) (b:Bs) (f:Str) (ta:TA):TE:=λσ H Q=>ta σ H λvs H1 => ∃ (a C:Addr) (ws:List V),vs = .ref a::ws∧ws.length≤1000∧Oc K b C f∧H1 a=some (exo a C none)∧Q .non H1
inductive gN (K:PySem.W.Frag) (mg:Str→Option Value) (b:Bs):Str→Prop where
 | blt (m:mg b.nm=none) (v:PySem.W.findCls K (.type b.nm) (.type "type") "__init__" = some (.val (.builtin b.ini))):gN K mg b b.nm
 | own {x:Str} {A:Addr} {mc:Value} (m:mg x=some (.ref A)) (r:ClX.CRead K A mc) (v:PySem.W.findCls K (.ref A) mc "__init__" = some (.val (.builtin b.ini))) (hd:(x==("__debug__" : Str))=false):gN K mg b x
theorem O7 : ∀ b:Bs,bootBuiltins (b.nm:Str)=some (.type b.nm):=by
 intro b
 cases b <;> rfl
theorem DI : ∀ b:Bs,typeOf (.type b.nm)=pure (.type "type"):=by
 intro b
 cases b <;> kernel_rfl
section
variable {X:Cx} {b:Bs} {x f:Str} {e:Expr} {es:List Expr} {ta:TA} {p1 p2 pos:Pos}
theorem K9 {pl:Sem Bool} (B:gN X.K X.mg b x) (hg:Gl X x) (ha:L2.PA X (e::es) ta)
  (hc:eval (.Call (.Attribute (.Name x p1) "__init__" p2) (e::es) [] pos) X.env=(do
   let ov ← eval (.Name x p1) X.env
   standAt p2.atName
   let (g,first) ← holding [ov] (getMethod ov "__init__" pl)
   callWith pos g first (backTo pos (starEach (e::es) X.env)) (backToKw pos (keywordEach [] X.env))))
  (he:starEach (e::es) X.env=(false,eval e X.env)::starEach es X.env) (hpl:(backTo pos (starEach es X.env)).any (·.1)=false) :
  PE X (.Call (.Attribute (.Name x p1) "__init__" p2) (e::es) [] pos) (tBi X.K b f ta):=by
 constructor
 intro pins s σ H Q I wish
 have rest : ∀ {s1:Shared},L2.Inv X pins σ H s1→wpAny (model X.prog X.w) X.A (callWith pos (Value.builtin b.ini) [] (backTo pos (starEach (e::es) X.env)) (backToKw pos (keywordEach [] X.env))) (EP X pins σ Q) X.xe s1:=by
  intro s1 I1
  refine PyProof.Rows.callWith_method1 (thn (ha.run pos pins s1 σ H _ I1 wish) ?_) he hpl
  rintro us s2 ⟨vs,H1,I2,r1,a,C,ws,rfl,few,c,there,q⟩
  cases r1 with
  | @cons _ u0 _ ur ra rw' =>
   obtain rfl:u0=Value.ref a:=ra
   refine FV c I2 there ?_ λs' J=>⟨.non,H1,J,rfl,q⟩
   rw [← Paired.length rw',sizeLine_eq]
   omega
 cases B with
 | blt m v =>
  refine PySem.W.methodCall_KW (ld_blt I hg m (O7 b) ?_ (by cases b <;> decide) (by cases b <;> decide)) hc
  obtain ⟨m',fr⟩:=I.fr
  exact PySem.W.method_type fr I.ok.mod.kin (DI b) (by cases b <;> decide +kernel) v (by cases b <;> decide +kernel) (rest (I.tok _))
 | own m r v hd =>
  refine PySem.W.methodCall_KW (ld_glob I hg m ?_ hd) hc
  exact PySem.W.method_cls I.kIn r.ga (PySem.W.cls_value I.kIn r.rd v (by cases b <;> rfl) (rest (I.tok _)))
noncomputable def tOs (K:PySem.W.Frag) (b:Bs) (f:Str) (to te:TE):TS:=λD σ H=>te σ H λy H1=>to σ H1 λx H2 => ∃ a C:Addr,x = .ref a∧Oc K b C f∧H2 a=some (exo a C none) ∧
 ∀ dx,H2 dx=none→dx≠a→D.nx σ (upd (upd H2 dx (exd dx [(f,y)])) a (exo a C (some dx)))
theorem DB {o:Expr} {to te:TE} {p':Pos} (ho:PE X o to) (he:PE X e te) (hs:swapsWith e (some (.Attribute o f p')) pos.line X.env=pure false):PS X (.Assign [.Attribute o f p'] e pos) (tOs X.K b f to te):=by
 constructor
 intro pins s σ H D I h
 refine plainObj_wpAny_Assign_Attribute (thn (he.run pins s σ H _ I h) ?_) hs
 rintro v s1 ⟨y,H1,I1,r1,q1⟩
 refine thn (ho.run pins s1 σ H1 _ I1 q1) ?_
 rintro u s2 ⟨x,H2,I2,r2,a,C,rfl,c,there,q⟩
 obtain rfl:u=Value.ref a:=r2
 exact MS c I2 there r1 λdx s' n ne J=>⟨σ,_,J,q dx n ne⟩
end
noncomputable def nT (K:PySem.W.Frag) (b:Bs) (f:Str):Sp:=λvs H Q _ => ∃ (a C:Addr) (v:V),vs=[.ref a,v]∧Oc K b C f∧H a=some (exo a C none) ∧ ∀ dx,H dx=none→dx≠a→Q .non (upd (upd H dx (exd dx [(f,v)])) a (exo a C (some dx)))
section
variable {P:Program} {w:World} {K:PySem.W.Frag} {mg:Str→Option Value} {base:Heap}
theorem N5 {qual x f par msg:Str} {st:Stmt} {fI:Addr} {fd:FuncData} {b:Bs} {j:Nat} {p1 p2 p3 p4 p5 p6 p7 p8 p9 p10:Pos} (F:Fun K "__init__" qual st fI fd) (S:FnScope ["self",par] ["self",par] (defScope st)) (B:gN K mg b x)
  (hs:(defScope st).names.lookup ("self" : Str)=some .local) (hp:(defScope st).names.lookup par=some .local) (hx:(defScope st).names.lookup x=some .globalImplicit) (hd:(par==("__debug__" : Str))=false) (hcd:(par==("__classdict__" : Str))=false)
  (call : ∀ env:Env,∃ pl:Sem Bool,eval (.Call (.Attribute (.Name x p1) "__init__" p2) [.Name "self" p3,.Constant (.str msg) j p4] [] p5) env=(do
   let ov ← eval (.Name x p1) env
   standAt p2.atName
   let (g,first) ← holding [ov] (getMethod ov "__init__" pl)
   callWith p5 g first (backTo p5 (starEach [.Name "self" p3,.Constant (.str msg) j p4] env)) (backToKw p5 (keywordEach [] env))))
  (body:defBody st=[.Expr (.Call (.Attribute (.Name x p1) "__init__" p2) [.Name "self" p3,.Constant (.str msg) j p4] [] p5) p6,.Assign [.Attribute (.Name "self" p7) f p8] (.Name par p9) p10]) :
  FnOk P w K mg base (L2.CX P w) 1 fI fd ["self",par] (nT K b f):=by
 refine F.okX S (λvs H Q E h => ?_) λcdv A outer s H vs Q E room h => ?_
 ·obtain ⟨a,C,v,rfl,_⟩:=h
  rfl
 ·obtain ⟨a,C,v,rfl,c,there,k⟩:=h
  rw [body]
  have v0 : ∀ {p},PE (cxOf (L2.CX P w) P w K mg base ["self",par] qual (defScope st) fI cdv A outer s H E) (.Name "self" p) (tVar 0):=λ{p}=>pe_var rfl (.inl hs) (by decide) (by decide)
  have v1 : ∀ {p},PE (cxOf (L2.CX P w) P w K mg base ["self",par] qual (defScope st) fI cdv A outer s H E) (.Name par p) (tVar 1):=λ{p}=>pe_var rfl (.inl hp) hd hcd
  obtain ⟨pl,call⟩:=call (cxOf (L2.CX P w) P w K mg base ["self",par] qual (defScope st) fI cdv A outer s H E).env
  refine ⟨_,pss_cons (ps_expr (K9 (b:=b) (f:=f) B hx (bG v0 (bG pe_str cu)) call rfl rfl) rfl) (pss_one (DB (b:=b) v0 v1 rfl)),?_⟩
  exact ⟨_,rfl,a,C,_,rfl,by show 1≤1000; decide,c,there,_,rfl,_,rfl,a,C,rfl,c,there,λdx n ne=>k dx n ne⟩
end
end Pf

set_option maxRecDepth 100000
namespace Pf
open PySem PySem.Spec PyProof.Rows L2
noncomputable def KwI (K:PySem.W.Frag) (fd:FuncData) (ps:List Str) (f:Str):Prop:=∀ (s:Shared) (u w:Value),K.In s.heap→BindsTo s fd ⟨[u],[(f,w)]⟩ (ps.zip [u,w])
structure gn (P:Program) (w:World) (K:PySem.W.Frag) (mg:Str→Option Value) (base:Heap) (x f:Str):Prop where
 is : ∃ (b:Bs) (C fI:Addr) (fd:FuncData) (ps:List Str),mg x=some (.ref C)∧Oc K b C f∧PySem.W.findIn K (.ref C) "__init__" = some (some (.ref fI))∧PySem.W.typeIn K (.ref fI)=some (.type "function") ∧
  FnOk P w K mg base (L2.CX P w) 1 fI fd ps (nT K b f)∧Binds K fd ps []∧KwI K fd ps f
section
variable {X:Cx} {xp:XP} {W:WX} {B:List Addr} {x f:Str} {e:Expr} {fe:Sto→Rs D} {p pos pos2:Pos}
noncomputable def NW (C:Addr) (f:Str) (te:TE):L2.St→Hp→XK→Prop:=λσ H Q=>te σ H λv H1 => ∀ d,H1 d=none→Q (.ref C) (some d) (upd H1 d (.xd [(f,v)]))
theorem Kl {te:TE} {k:Nat} (c:gn X.prog X.w X.K X.mg X.base x f) (room:Room k X.A) (hk:2≤k) (hg:Gl X x) (hdb:(x==("__debug__" : Str))=false) (he:PE X e te) (hs:starEach [e] X.env=(false,eval e X.env)::starEach [] X.env) :
  ∃ C,X.mg x=some (.ref C)∧PMk X (.Call (.Name x p) [e] [] pos) (NW C f te):=by
 obtain ⟨b,C,fI,fd,ps,gC,oc,iC,tI,FI,bI,_⟩:=c.is
 refine ⟨C,gC,?_⟩
 intro pins s σ H Q I h
 obtain ⟨nm,N,qn,bs,bm,hdct,sn,sub,ab,col,dd,k0,k1,k2,k3,k5,hC0,hT⟩:=PySem.W.excInit_of I.kIn oc.ini
 let G:List V→Hp→Prop:=λvs H1=>match vs with
  | [v] => ∀ d,H1 d=none→Q (.ref C) (some d) (upd H1 d (.xd [(f,v)]))
  | _=>False
 refine j_ (ld_glob I hg gC ?_ hdb)
 refine PySem.W.callWith_K (h₀:=X.base) I.ok.mod.kin oc.kC (thn ((bG he cu hs).run pos pins s σ H G I h) ?_) hs rfl
 rintro us s1 ⟨vs,H1,I1,r1,q1⟩
 refine ⟨I1.kIn,?_⟩
 show wpAny _ _ (call (.ref C) us) _ _ _
 match vs,us,r1,q1 with
 | [v],[u],.cons ru .nil,q1 =>
  have q1 : ∀ d,H1 d=none→Q (.ref C) (some d) (upd H1 d (.xd [(f,v)])):=q1
  obtain ⟨nm,N,qn,bs,bm,hdct,sn,sub,ab,col,dd,k0,k1,k2,k3,k5,hC,hT⟩:=PySem.W.excInit_of I1.kIn oc.ini
  obtain ⟨hp,g,dr,tk,os⟩:=s1
  have above:hp.objs.size≤hp.objs.size+1:=fj _
  have free:H1 (hp.objs.size+1)=none:=I1.hok.fresh above
  have keep : ∀ b o,hp.get? b=some o→((hp.push (PySem.W.kdv_tup [u])).push (PySem.HandSPX.excO C hp.objs.size)).get? b=some o:=λb o z=>aD _ (aD _ z)
  have made:((hp.push (PySem.W.kdv_tup [u])).push (PySem.HandSPX.excO C hp.objs.size)).get? (hp.objs.size+1)=some (PySem.HandSPX.excO C hp.objs.size):=by heap_get
  have I2:L2.Inv X pins σ (upd H1 (hp.objs.size+1) (exo (hp.objs.size+1) C none)) ⟨(hp.push (PySem.W.kdv_tup [u])).push (PySem.HandSPX.excO C hp.objs.size),g,dr,tk,os⟩:=
   I1.laid (t':=tk) (a:=hp.objs.size+1) (o:=exo (hp.objs.size+1) C none) keep above (exo_ok made)
  have r2:Vals [V.ref (hp.objs.size+1),v] [Value.ref (hp.objs.size+1),u]:=.cons rfl (.cons ru .nil)
  let Q2:VK:=λz H2=>z = .non ∧ ∃ dx,H1 dx=none∧dx≠hp.objs.size+1∧H2=upd (upd (upd H1 (hp.objs.size+1) (exo (hp.objs.size+1) C none)) dx (exd dx [(f,v)])) (hp.objs.size+1) (exo (hp.objs.size+1) C (some dx))
  have prom:nT X.K b f [V.ref (hp.objs.size+1),v] (upd H1 (hp.objs.size+1) (exo (hp.objs.size+1) C none)) Q2 (λ_ _ _=>False):=
   ⟨_,C,v,rfl,oc,aS,λdx n ne=>⟨rfl,dx,by rw [ax ne] at n; exact n,ne,rfl⟩⟩
  have len:([Value.ref (hp.objs.size+1),u]++([]:List Value)).length=ps.length:=by
   have z:=FI.len _ _ _ _ prom
   rw [← z]; rfl
  have room2:Room 1 (X.A.under (.builtin "type.__call__" ⟨.ref C::[u],[]⟩)):=(room.mono hk).make C [u] []
  refine eQ (b.make hT hC (PySem.W.looks_findIn I1.kIn iC) (λself=>PySem.W.bind_fn I1.kIn self tI) (by show 1≤sizeLine; decide) (dV
   (FI.run _ X.stack _ _ ⟨[Value.ref (hp.objs.size+1),u],[]⟩ [Value.ref (hp.objs.size+1),u] _ Q2 (λ_ _ _=>False) room2 (I2.env0.make C [u] []) (by have z:=bI ⟨(hp.push (PySem.W.kdv_tup [u])).push (PySem.HandSPX.excO C hp.objs.size),g,dr,tk,os⟩ [Value.ref (hp.objs.size+1),u] I2.kIn len; rw [fQ] at z; exact z) r2 prom) ?_))
  intro r s' out
  match r,out with
  | .error er,out =>
   obtain ⟨_,_,_,_,_,_,_,_,_,_,_,_,z⟩:=out
   exact z.elim
  | .ok .next,out=>exact out.elim
  | .ok .brk,out=>exact out.elim
  | .ok .cont,out=>exact out.elim
  | .ok (.ret z),out =>
   obtain ⟨vz,H2,os2,bare2,un2,hok2,rz,⟨rfl,dx,nd,ne,rfl⟩⟩:=out
   obtain ⟨h2,g2,d2,t2,os'⟩:=s'
   refine ⟨rz,mk_end (raises_own oc.exC oc.tyC) I1 above keep un2 hok2 os2 bare2 aS (by rw [ax ne,aS]) nd ?_⟩
   have same:upd (del (upd (upd (upd H1 (hp.objs.size+1) (exo (hp.objs.size+1) C none)) dx (exd dx [(f,v)])) (hp.objs.size+1) (exo (hp.objs.size+1) C (some dx))) (hp.objs.size+1)) dx (.xd [(f,v)])=upd H1 dx (.xd [(f,v)]):=by
    funext c
    by_cases h1:c=dx
    ·rw [h1,aS,aS]
    ·rw [ax h1,ax h1]
     by_cases h2:c=hp.objs.size+1
     ·rw [h2,del_same,free]
     ·rw [del_ne h2,ax h2,ax h1,ax h2]
   rw [same]
   exact q1 dx nd
theorem D4 {k:Nat} (hc:X.calm=true) (tk:Takes X W) (c:gn X.prog X.w X.K X.mg X.base x f) (room:Room k X.A) (hk:2≤k) (hg:Gl X x) (hdb:(x==("__debug__" : Str))=false) (he:CE X xp W e fe) (hs:starEach [e] X.env=(false,eval e X.env)::starEach [] X.env) :
  CSt X xp W B (.Raise (some (.Call (.Name x p) [e] [] pos)) none pos2) (λρ => .ofR (fe ρ) ρ λd => .ex ⟨x,f,d⟩ ρ):=by
 obtain ⟨C,gC,mk⟩:=Kl (p:=p) (pos:=pos) c room hk hg hdb he hs
 refine du (ps_raise hc tk mk) λT σ H ⟨ρ,O,fr,q⟩=>⟨ρ,O++B,fr.rel,(aG.ofR q fr).imp λd H' _ s k v hv dx nd => ?_⟩
 have sm:Same H' (upd H' dx (.xd [(f,v)])):=a0 nd
 refine k σ _ O (.ref C) (some dx) (Stp.same sm) ((fr.mono s).mono sm) ⟨C,dx,v,rfl,rfl,gC,?_,bf (aH sm.sm) hv⟩
 rw [bc ((fr.rel.thr.same s).out nd)]
 exact aS
end
end Pf

set_option maxRecDepth 100000
namespace Pf
open PySem PySem.Spec PyProof.Rows L2
section
variable {X:Cx} {a D dd:Addr} {oe:Obj} {pn:List (Addr × Obj)} {f:Str}
end
noncomputable def eU (ρ:Sto) (i:Nat):Rs EX:=match ρ[i]? with
 | some (some (.exc e)) => .ok e
 | _ => .bad
noncomputable def nP (K:PySem.W.Frag) (mg:Str→Option Value) (x y:Str) (b:Bool):Prop:=∃ (C:Addr) (c:Value),mg x=some (.ref C)∧(mg y=some c∨(mg y=none∧bootBuiltins y=some c∧y ≠ "__name__"))∧(∃ v:V,L2.RelV v c ∧ ∀ u,L2.RelV v u→u=c) ∧
 PySem.W.exmOne K (.ref C) c=some b∧PySem.W.kitOne K (.ref C) c=some b
section
variable {X:Cx} {u0:World} {a dd:Addr} {oe:Obj} {D:Addr} {pn:List (Addr × Obj)} {x y n f:Str} {p p1 p2 pos:Pos} {i:Nat}
noncomputable abbrev Su (X:Cx) (a:Addr) (oe:Obj) (pn:List (Addr × Obj)):Cx:=X.suite a ((a,oe)::pn)
end
end Pf

set_option maxRecDepth 100000
namespace Pf
open PySem PySem.Spec PyProof.Rows L2
noncomputable def isX:Option SV→Bool
 | some (.exc _)=>true
 | some .pin=>true
 | _=>false
noncomputable def noX (ρ:Sto):Bool:=ρ.all λs => !isX s
noncomputable def clean (i:Nat) (ρ:Sto) (k:Sto→Out):Out:=if noX (ρ.set i none)=true then k (ρ.set i none) else .bad
noncomputable def leave (i:Nat):Out→Out
 | .nx ρ=>clean i ρ .nx
 | .bk ρ=>clean i ρ .bk
 | .ct ρ=>clean i ρ .ct
 | .rt d => .rt d
 | .ex _ _ => .bad
 | .bad => .bad
noncomputable def A2 (sub:Str→Option Bool) (att:Str→Option Str) (i:Nat) (body suite:Sto→Out):Sto→Out:=λρ=>match body ρ with
 | .ex e ρ'=>match sub e.cls with
  | some true=>if att e.cls=some e.attr then leave i (suite (ρ'.set i (some (.exc e)))) else .bad
  | some false => .ex e ρ'
  | none => .bad
 | o=>o
section
variable {K:PySem.W.Frag} {mg:Str→Option Value} {xp:XP} {B O:List Addr} {σ:L2.St} {H:Hp} {ρ:Sto} {i:Nat}
end
section
variable {X:Cx} {W:WX} {B:List Addr} {sub:Str→Option Bool} {att:Str→Option Str} {i:Nat} {f g:Sto→Out} {body suite:List Stmt} {b₀:Stmt} {x n:Str} {c:Value} {np pos pos':Pos}
structure MW (X:Cx) (c:Value) (sub:Str→Option Bool) (att:Str→Option Str):Prop where
 sub : ∀ y b,sub y=some b → ∃ C,X.mg y=some (.ref C)∧PySem.W.exmOne X.K (.ref C) c=some b
 att : ∀ y f,att y=some f → ∃ C,X.mg y=some (.ref C)∧Ask X.K C f
noncomputable def tsF (X:Cx) (B:List Addr) (att:Str→Option Str) (g:Sto→Out) (a:Addr) (cls:Value) (d:Option Addr):TS:=λT σ H => ∃ D dd y f,cls = .ref D∧d=some dd∧X.mg y=some (.ref D)∧att y=some f∧Ask X.K D f∧lV X.K X.mg (x1 X.w a dd y) W0 B g T σ H
end
end Pf

set_option maxRecDepth 100000
namespace Pf
open PySem PySem.Spec PyProof.Rows L2
noncomputable def met (ks:List Key):List Key:=ks.foldl gV []
section
variable {prog:Program} {w:World} {A:Around} {R:Result→Shared→Prop} {I S:Addr} {fp wr:List Addr} {G:Array GenState→Array GenState→Prop} {n:Nat} {P:Nat→Value→Prop} {St:Nat→Shared→Prop}
end
section
variable {prog:Program} {w:World} {A:Around} {E:Value→Shared→Prop} {s:Shared}
end
end Pf

set_option maxRecDepth 100000
namespace Pf
open PySem PySem.Spec PyProof.Rows L2
noncomputable def upC (c:Nat):Nat:=if 97≤c∧c≤122 then c-32 else c
noncomputable def upS (x:Str):Str:=mk ((cl x).map upC)
inductive MZ where
 | upper
 deriving DecidableEq
noncomputable def mzD:MZ→Str→Rs D
 | .upper,x => .ok (.str (upS x))
section
variable {X:Cx} {xp:XP} {W:WX} {o:Expr} {fo:Sto→Rs D} {apos cpos:Pos}
end
end Pf

set_option maxRecDepth 100000
namespace Pf
open PySem PySem.Spec PyProof.Rows L2
noncomputable def EA (x y z:Str):Str:=mk (StrLaws.replL (cl y) (cl z) (cl x))
noncomputable def Mw (x:D) (y z:Str):Rs D:=(cR x).bind λx=>if 1≤y.length∧(y==z)=false∧x.length*(z.length+1)≤LIM∧x.length+(x.length+1)*z.length≤16777216 then .ok (.str (EA x y z)) else .bad
section
variable {X:Cx} {xp:XP} {W:WX} {a e o:Expr} {es:List Expr} {fa:Sto→Rs D} {fs:Sto→Rs (List D)} {y z:Str} {j k:Nat} {c0 c1 apos pos p p':Pos}
noncomputable abbrev CE1 (X:Cx) (xp:XP) (W:WX) (e:Expr) (f:Sto→Rs D):Prop:=PET X e (rdE X.K X.mg xp W f)
noncomputable abbrev CA1 (X:Cx) (xp:XP) (W:WX) (es:List Expr) (f:Sto→Rs (List D)):Prop:=PAT X es (rdA X.K X.mg xp W f)
theorem AQ {t u:TA} (h:PAT X es t) (k : ∀ σ H Q,u σ H Q→t σ H Q):PAT X es u:=λpos pins s σ H Q h0 I q=>h pos pins s σ H Q h0 I (k σ H Q q)
theorem Lu:CA1 X xp W [] (λ_ => .ok []):=AQ pat_nil λσ H Q ⟨ρ,O,R,q⟩=>q.ok [] .nil
theorem F_ (h:CE1 X xp W e fa) (h2:CA1 X xp W es fs) (hs:starEach (e::es) X.env=(false,eval e X.env)::starEach es X.env):CA1 X xp W (e::es) (λρ=>(fa ρ).bind λx=>(fs ρ).bind λxs => .ok (x::xs)):=
 AQ (pat_cons h h2 hs) λσ H Q ⟨ρ,O,R,q⟩=>⟨ρ,O,R,q.bind.imp λd H' _ s k v hv=>⟨ρ,O,R.mono s,k.bind.imp λds H2 _ s2 k2 vs hvs=>k2.ok _ (.cons (bf (aH s2.sm) hv) hvs)⟩⟩
end
end Pf

set_option maxRecDepth 100000
namespace Pf
open PySem PySem.Spec PyProof.Rows L2
noncomputable def K8:D→Option Key
 | .int i=>some (.inl i)
 | .str x=>some (.inr x)
 | _=>none
noncomputable def yd:List D→Option (List Key)
 | []=>some []
 | d::ds=>match K8 d,yd ds with
  | some k,some ks=>some (k::ks)
  | _,_=>none
noncomputable def qy:D→Rs (List Key)
 | .list xs=>match yd xs with
  | some ks=>if ks.length≤4000 then .ok (met ks) else .bad
  | none => .bad
 | _ => .bad
section
variable {X:Cx} {xp:XP} {W:WX} {e:Expr} {fa:Sto→Rs D} {p p2 q pos:Pos}
end
end Pf

set_option maxRecDepth 100000
namespace Pf
open PySem PySem.Spec PyProof.Rows L2
noncomputable def kX:D→Rs Str
 | .str x => .ok x
 | .int i=>if i.natAbs.log2<1920∧asc (dU i)=true then .ok (dU i) else .bad
 | _ => .bad
noncomputable def fsK (m:Rs D) (k:Str→Rs D) (acc:Str):Rs D:=m.bind λx=>(kX x).bind λy=>if (acc++y).length≤LIM then k (acc++y) else .bad
section
variable {X:Cx} {xp:XP} {W:WX}
noncomputable def FJ (X:Cx) (xp:XP) (W:WX) (vs:List Expr) (f:Str→Sto→Rs D):Prop:=∃ ts,PJ X vs ts ∧ ∀ acc σ H (Q:V→Hp→Prop) ρ O,asc acc=true→acc.length≤LIM→Rel X.K xp σ H ρ O →
 End X.K X.mg W O σ H (λd H' => ∀ v,Dn X.K (msk H' O) v d→Q v H') (f acc ρ)→tJs ts acc σ H λout H1=>Q (.str out) H1
theorem EG:FJ X xp W [] (λacc _ => .ok (.str acc)):=⟨[],.nil,λacc σ H Q ρ O a l R q=>q.ok _ (.str a l)⟩
theorem AZ {i:Int} {y:Str} (h:kX (.int i) = .ok y):i.natAbs.log2<1920∧asc y=true∧y=dU i:=by
 have h:(if i.natAbs.log2<1920∧asc (dU i)=true then Rs.ok (dU i) else .bad) = .ok y:=h
 by_cases k:i.natAbs.log2<1920∧asc (dU i)=true
 ·rw [if_pos k] at h; cases h; exact ⟨k.1,k.2,rfl⟩
 ·rw [if_neg k] at h; cases h
theorem Nz {d:D} {x:EX}:kX d ≠ .ex x:=by
 intro h
 cases d with
 | int i =>
  have h:(if i.natAbs.log2<1920∧asc (dU i)=true then Rs.ok (dU i) else .bad) = .ex x:=h
  by_cases k:i.natAbs.log2<1920∧asc (dU i)=true
  ·rw [if_pos k] at h; cases h
  ·rw [if_neg k] at h; cases h
 | _=>cases h
theorem yJ {f:Sto→Rs D} {g:Str→Sto→Rs D} {ts:List TE} {acc:Str} {σ:L2.St} {H:Hp} {Q:V→Hp→Prop} {ρ:Sto} {O:List Addr} (a:asc acc=true) (R:Rel X.K xp σ H ρ O)
  (ih : ∀ acc σ H (Q:V→Hp→Prop) ρ O,asc acc=true→acc.length≤LIM→Rel X.K xp σ H ρ O→End X.K X.mg W O σ H (λd H' => ∀ v,Dn X.K (msk H' O) v d→Q v H') (g acc ρ)→tJs ts acc σ H λout H1=>Q (.str out) H1)
  (q:End X.K X.mg W O σ H (λd H' => ∀ v,Dn X.K (msk H' O) v d→Q v H') (fsK (f ρ) (λy=>g y ρ) acc)) :
  End X.K X.mg W O σ H (λd H1=>(∃ y,kX d = .ok y∧asc y=true∧(acc++y).length≤LIM∧tJs ts (acc++y) σ H1 λout H1=>Q (.str out) H1) ∨ ∀ v,¬ Dn X.K (msk H1 O) v d) (f ρ):=by
 unfold fsK at q
 refine (End.bind q).imp λd H1 _ s q1 => ?_
 cases et:kX d with
 | bad=>rw [et] at q1; exact q1.elim
 | ex x=>exact absurd et Nz
 | ok y =>
  rw [et] at q1
  have q1:End X.K X.mg W O σ H1 _ (if (acc++y).length≤LIM then g (acc++y) ρ else .bad):=q1
  by_cases hl:(acc++y).length≤LIM
  ·rw [if_pos hl] at q1
   by_cases ay:asc y=true
   ·exact .inl ⟨y,rfl,ay,hl,ih _ _ _ _ ρ O (B6 a ay) hl (R.mono s) q1⟩
   ·refine .inr λv hv => ?_
    cases hv with
    | str h1 h2=>cases et; exact ay h1
    | int i=>exact ay (AZ et).2.1
    | _=>cases et
  ·rw [if_neg hl] at q1; exact q1.elim
theorem NQ {y:Str} {e:Expr} {es:List Expr} {g:Str→Sto→Rs D} (h:CE X xp W e (λ_ => .ok (.str y))) (r:FJ X xp W es g):FJ X xp W (e::es) (λacc ρ=>fsK (.ok (.str y)) (λy=>g y ρ) acc):=by
 obtain ⟨ts,pj,ih⟩:=r
 refine ⟨_,.cons h pj,λacc σ H Q ρ O a l R q=>⟨ρ,O,R,(yJ (f:=λ_ => .ok (.str y)) a R ih q).imp λd H1 e s q1 v hv => ?_⟩⟩
 cases e
 rcases q1 with ⟨z,e1,_,hl,q1⟩ | q1
 ·cases e1
  cases hv with
  | str h1 h2=>exact ⟨y,rfl,aF hl b9,q1⟩
 ·exact (q1 v hv).elim
theorem Lz {f:Sto→Rs D} {e:Expr} {pos:Pos} {es:List Expr} {g:Str→Sto→Rs D} (h:CE X xp W e f) (r:FJ X xp W es g):FJ X xp W (.FormattedValue e (-1) none pos::es) (λacc ρ=>fsK (f ρ) (λy=>g y ρ) acc):=by
 obtain ⟨ts,pj,ih⟩:=r
 refine ⟨_,.cons (pe_fmt h) pj,λacc σ H Q ρ O a l R q=>⟨ρ,O,R,(yJ a R ih q).imp λd H1 e s q1 v hv => ?_⟩⟩
 rcases q1 with ⟨z,e1,az,hl,q1⟩ | q1
 ·have lz:z.length≤sizeLine:=by
   have:(acc++z).length=acc.length+z.length:=by
    show (acc.cps++z.cps).size=_
    rw [Array.size_append]; rfl
   have:=b9
   omega
  cases hv with
  | str h1 h2=>cases e1; exact .inl ⟨_,rfl,lz,_,rfl,aF hl b9,q1⟩
  | int i =>
   obtain ⟨h0,_,rfl⟩:=AZ e1
   exact .inr ⟨i,rfl,h0,_,rfl,aF hl b9,q1⟩
  | _=>cases e1
 ·exact (q1 v hv).elim
end
end Pf

set_option maxRecDepth 100000
namespace Pf
open PySem PySem.Spec PyProof.Rows L2
section
variable {P:Program} {w:World} {K:PySem.W.Frag} {mg mb:Str→Option Value} {k:Nat} {fa a:Addr} {fd:FuncData} {x:Str} {sp:Sp} {s1:Shared} {vs:List Value} {ns:List Int}
end
end Pf

set_option maxRecDepth 100000
namespace L2
open PySem PySem.Spec PySem.Calls PyProof.Rows PySem.W
section
variable {prog:Program} {w:World} {A:Around} {E:Value→Shared→Prop} {s:Shared}
theorem N3 {y:Addr} {ar:Array Value} {n:Nat} {Q:List Value→Shared→Prop} (nh:A.handled=none) (il:s.heap.IsList y ar) (le:n≤ar.size) (sz:ar.size≤sizeLine)
  (q : ∀ (g:Heap) (tk:Nat),(∀ b o,s.heap.get? b=some o→g.get? b=some o)→Q (ar.toList.take n++[.ref g.objs.size]) { s with heap:=g.push { cls:=.type "list",data:=.seq (ar.toList.drop n).toArray },toks:=tk }) :
  wpAny (model prog w) A (unpackItems (.ref y) (n+1) (some n)) Q E s:=by
 have lt:y<s.heap.objs.size:=by obtain ⟨o,z,_⟩:=il; exact bD z
 have ne:y≠s.heap.objs.size:=bU lt
 unfold unpackItems
 refine af ?_
 unfold notIterableAtAll
 refine af (wpAny_specialOf il.typeIs slot_list_iter.lookup (ah ?_))
 rw [if_neg aa]
 refine af (bA (kj il ?_))
 refine af (bA (kun_draw ne n 0 _ _ ⟨_,bT _ rfl,rfl,rfl⟩ (il.push _) (by omega) λf fi fs => ?_))
 have fl:f.IsList y ar:=(il.push _).extBut fs.extBut ne
 rw [dG] at fi
 have z1:s.heap.objs.size<f.objs.size:=by obtain ⟨o,z,_⟩:=id fi; exact bD z
 have z2:y<f.objs.size:=by obtain ⟨o,z,_⟩:=id fl; exact bD z
 rw [List.drop_zero]
 have tl:(ar.toList.take n).length=n:=by rw [ez,bY]; omega
 rw [if_neg (show ¬ (ar.toList.take n).length<n by rw [tl]; exact Nat.lt_irrefl _)]
 refine af (bA (kun_collect (s:={ s with heap:=f }) (T:= "list_iterator") (.inr (.inr (.inl rfl))) (Walks.list (A:=A.in1) nh s.heap.objs.size y ne ar) (λj u st=>st.1.typeIs) le ⟨fi,fl⟩ z1 z2 (λg tk kg => ?_) sz))
 have dl:(ar.toList.drop n).length=ar.size-n:=by rw [i6,bY]
 have z3:n+1-1-n=0:=by omega
 simp only [z3,Nat.sub_zero,e_,List.take_length,jc,fQ]
 rw [if_neg (by simp)]
 refine af (wpAny_newList (ah ?_) (by rw [dl]; omega))
 exact q g tk λb o e=>kg b o (bU (bD e)) (fs.extBut b o (bU (bD e)) (aD _ e))
theorem Pg {y:Addr} {ar:Array Value} {n:Nat} {Q:List Value→Shared→Prop} (nh:A.handled=none) (il:IsTup s.heap y ar) (le:n≤ar.size) (sz:ar.size≤sizeLine)
  (q : ∀ (g:Heap) (tk:Nat),(∀ b o,s.heap.get? b=some o→g.get? b=some o)→Q (ar.toList.take n++[.ref g.objs.size]) { s with heap:=g.push { cls:=.type "list",data:=.seq (ar.toList.drop n).toArray },toks:=tk }) :
  wpAny (model prog w) A (unpackItems (.ref y) (n+1) (some n)) Q E s:=by
 have lt:y<s.heap.objs.size:=by obtain ⟨o,z,_⟩:=il; exact bD z
 have ne:y≠s.heap.objs.size:=bU lt
 unfold unpackItems
 refine af ?_
 unfold notIterableAtAll
 refine af (wpAny_specialOf il.typeIs slot_tuple_iter.lookup (ah ?_))
 rw [if_neg aa]
 refine af (bA (iter_tuple il ?_))
 refine af (bA (draw_tuple ne n 0 _ _ ⟨_,bT _ rfl,rfl,rfl⟩ (il.push _) (by omega) λf fi fs => ?_))
 have fl:IsTup f y ar:=(il.push _).extBut fs.extBut ne
 rw [dG] at fi
 have z1:s.heap.objs.size<f.objs.size:=by obtain ⟨o,z,_⟩:=id fi; exact bD z
 have z2:y<f.objs.size:=by obtain ⟨o,z,_⟩:=id fl; exact bD z
 rw [List.drop_zero]
 have tl:(ar.toList.take n).length=n:=by rw [ez,bY]; omega
 rw [if_neg (show ¬ (ar.toList.take n).length<n by rw [tl]; exact Nat.lt_irrefl _)]
 refine af (bA (kun_collect (s:={ s with heap:=f }) (T:= "tuple_iterator") (.inr (.inr (.inr rfl))) (Walks.tuple (A:=A.in1) nh s.heap.objs.size y ne ar) (λj u st=>st.1.typeIs) le ⟨fi,fl⟩ z1 z2 (λg tk kg => ?_) sz))
 have dl:(ar.toList.drop n).length=ar.size-n:=by rw [i6,bY]
 have z3:n+1-1-n=0:=by omega
 simp only [z3,Nat.sub_zero,e_,List.take_length,jc,fQ]
 rw [if_neg (by simp)]
 refine af (wpAny_newList (ah ?_) (by rw [dl]; omega))
 exact q g tk λb o e=>kg b o (bU (bD e)) (fs.extBut b o (bU (bD e)) (aD _ e))
end
theorem wz {vs:List V} {us:List Value} (h:Vals vs us) : ∀ n,Vals (vs.take n) (us.take n)∧Vals (vs.drop n) (us.drop n):=by
 induction h with
 | nil=>intro n; simp only [List.take_nil,List.drop_nil]; exact ⟨.nil,.nil⟩
 | cons r t ih =>
  intro n
  cases n with
  | zero=>exact ⟨.nil,.cons r t⟩
  | succ n=>exact ⟨.cons r (ih n).1,(ih n).2⟩
theorem GO {vs:List V} {us:List Value} {v:V} {u:Value} (h:Vals vs us) (r:RelV v u):Vals (vs++[v]) (us++[u]):=by
 induction h with
 | nil=>exact .cons r .nil
 | cons r t ih=>exact .cons r ih
noncomputable def Fp (K:PySem.W.Frag) (n:Nat) (t:TGs):TG:=λv σ H Q => ∃ a xs,v = .ref a∧(SqT K H a xs∨SqL K H a xs)∧n≤xs.length ∧ ∀ p,H p=none→t (xs.take n++[.ref p]) σ (upd H p (.lst (xs.drop n))) Q
section
variable {X:Cx} {pos:Pos}
theorem RG {e:Expr} {p:Pos} {t:TG} (h1:PG X e t):PGs X [.Starred e p] (gCons t gNil):=by
 refine ⟨λpins s σ H vs us Q I r h => ?_⟩
 obtain ⟨v,vr,e1,h⟩:=h
 subst e1
 cases r with
 | cons r rr =>
  show wpAny _ _ (assignInOrder (assign e X.env::[]) _) _ _ s
  exact assignInOrder_cons (thn (h1.run pins s σ H _ _ _ I r h) λ_ s1 ⟨σ1,H1,I1,q1⟩=>(pgs_nil).run pins s1 σ1 H1 _ _ Q I1 rr q1)
theorem Td {es:List Expr} {k:Nat} {t:TGs} {n:Nat} (hc:X.calm=true) (h:PGs X es t)
  (hn:(assignEach es X.env).length=n+1) (hst:(assignEach es X.env).findIdx? (·.1)=some n):PG X (.Tuple es k pos) (Fp X.K n t):=by
 refine ⟨λpins s σ H v u Q I r hw => ?_⟩
 obtain ⟨a,xs,e1,hq,hl,hw⟩:=hw
 subst e1
 cases r
 rw [PyProof.Rows.assign_Tuple]
 refine af (wpAny_standAt ?_)
 unfold unpack
 rw [hn,hst]
 have fin : ∀ (its:List Value),Vals xs its→xs.length≤sizeLine → ∀ (g:Heap) (tk:Nat),(∀ b o,s.heap.get? b=some o→g.get? b=some o) →
   wpAny (model X.prog X.w) X.A (assignInOrder ((assignEach es X.env).map (·.2)) (its.take n++[.ref g.objs.size])) (λ_ s' => ∃ σ' H',Inv X pins σ' H' s'∧Q σ' H') X.xe { s with heap:=g.push { cls:=.type "list",data:=.seq (its.drop n).toArray },toks:=tk }:=λits rv hz g tk kp=>by
  have I1:Inv X pins σ H { s with heap:=g,toks:=tk }:=I.kept kp
  have I2:Inv X pins σ (upd H g.objs.size (.lst (xs.drop n))) { s with heap:=g.push { cls:=.type "list",data:=.seq (its.drop n).toArray },toks:=tk }:=
   I1.laid (t':=tk) (λc o e=>aD _ e) (aC _) (show ObjOk X.prog X.w _ _ _ (.lst (xs.drop n)) from ⟨by rw [i6]; omega,its.drop n,0,(wz rv n).2,bT _ rfl⟩)
  exact h.run pins _ σ _ (xs.take n++[.ref g.objs.size]) _ Q I2 (GO (wz rv n).1 (show RelV (.ref g.objs.size) (.ref g.objs.size) from rfl)) (hw _ (I1.hok.fresh (aC _)))
 rcases hq with hq | hq
 ·obtain ⟨its,rv,ht,hz⟩:=I.tuple hq
  have hs:its.toArray.size=xs.length:=by rw [List.size_toArray]; exact rv.length.symm
  exact af (bA (Pg (I.ok.hd hc) ht (by rw [hs]; exact hl) (by rw [hs]; exact hz) λg tk kp=>fin its rv hz g tk kp))
 ·obtain ⟨its,rv,pl,hz⟩:=I.list hq
  have hs:its.toArray.size=xs.length:=by rw [List.size_toArray]; exact rv.length.symm
  exact af (bA (N3 (I.ok.hd hc) pl.isList (by rw [hs]; exact hl) (by rw [hs]; exact hz) λg tk kp=>fin its rv hz g tk kp))
end
end L2

set_option maxRecDepth 100000
namespace Pf
open PySem PySem.Spec PyProof.Rows L2
section
variable {X:Cx} {xp:XP} {W:WX} {B:List Addr} {e:Expr} {fe:Sto→Rs D} {fs:Sto→Rs (List D)} {pos:Pos}
noncomputable def AD (is:List Nat) (j:Nat) (d:D) (ρ:Sto):Out:=match mR d with
 | .ok ds=>if is.length≤ds.length then .nx (b_ (is++[j]) (ds.take is.length++[.list (ds.drop is.length)]) ρ) else .bad
 | _ => .bad
noncomputable def gq (is:List Nat) (ds:List D) (ρ:Sto):Out:=if ds.length=is.length then .nx (b_ is ds ρ) else .bad
theorem vd {K:PySem.W.Frag} {mg:Str→Option Value} {O:List Addr} {T:Ends} {σ:L2.St} {H:Hp} {ρ:Sto} {is:List Nat} {vs:List V} {ds:List D} (fr:Fr K xp B σ H ρ O) (hl:ds.length≤LIM) (hv:aj K (msk H (O++B)) vs ds)
  (q:aG K mg xp W B T H O (gq is ds ρ)):vs.length=is.length∧T.nx (jl is vs σ) H:=by
 unfold gq at q
 by_cases n:ds.length=is.length
 ·rw [if_pos n] at q
  refine ⟨(aK hv).trans n,q _ _ O .refl (Fr.asg (t:=.tp is) (d:=.list ds) fr ?_ (l9 fr.rel hv) (lr λi hi=>hi))⟩
  show (if _ then Rs.ok _ else .bad)=_
  rw [if_pos n]
 ·rw [if_neg n] at q; exact q.elim
theorem Ms {i j:Nat} {x y:Str} {a b:Expr} {px py pt:Pos} {kt k2 pt2} (hc:X.calm=true) (hN:X.N.Nodup) (hi:X.N[i]? = some x) (hj:X.N[j]? = some y) (hij:i≠j)
  (hx:X.env.scope.names.lookup x=some .local) (hy:X.env.scope.names.lookup y=some .local) (ha:CA X xp W [a,b] fs)
  (hw:swappedStores [.Tuple [.Name x px,.Name y py] kt pt] (.Tuple [a,b] k2 pt2) X.env=pure (some [x,y])) :
  CSt X xp W B (.Assign [.Tuple [.Name x px,.Name y py] kt pt] (.Tuple [a,b] k2 pt2) pos) (λρ => .ofR (fs ρ) ρ λds=>gq [i,j] ds ρ):=
 du (ps_par hc hN hi hj hij hx hy ha hw) λT σ H ⟨ρ,O,fr,q⟩=>⟨ρ,O++B,fr.rel,(aG.ofR q fr).imp λds H' _ s k vs hv=>by
  have hl:ds.length≤LIM:=by
   by_cases n:ds.length=[i,j].length
   ·rw [n]; show _≤LIM; simp only [a8,jb]; decide
   ·unfold gq at k; rw [if_neg n] at k; exact k.elim
  obtain ⟨g1,g2⟩:=vd (fr.mono s) hl hv k
  match vs,g1,g2 with
  | [v,w],_,g2=>exact ⟨v,w,rfl,g2⟩⟩
theorem Km {i j l:Nat} {x y z:Str} {a b c:Expr} {px py pz pt:Pos} {kt k2 pt2} (hc:X.calm=true) (hN:X.N.Nodup) (hi:X.N[i]? = some x) (hj:X.N[j]? = some y) (hl:X.N[l]? = some z) (hij:i≠j) (hil:i≠l) (hjl:j≠l)
  (hx:X.env.scope.names.lookup x=some .local) (hy:X.env.scope.names.lookup y=some .local) (hz:X.env.scope.names.lookup z=some .local) (ha:CA X xp W [a,b,c] fs)
  (hw:swappedStores [.Tuple [.Name x px,.Name y py,.Name z pz] kt pt] (.Tuple [a,b,c] k2 pt2) X.env=pure (some [x,y,z])) :
  CSt X xp W B (.Assign [.Tuple [.Name x px,.Name y py,.Name z pz] kt pt] (.Tuple [a,b,c] k2 pt2) pos) (λρ => .ofR (fs ρ) ρ λds=>gq [i,j,l] ds ρ):=
 du (ps_par3 hc hN hi hj hl hij hil hjl hx hy hz ha hw) λT σ H ⟨ρ,O,fr,q⟩=>⟨ρ,O++B,fr.rel,(aG.ofR q fr).imp λds H' _ s k vs hv=>by
  have hl:ds.length≤LIM:=by
   by_cases n:ds.length=[i,j,l].length
   ·rw [n]; show _≤LIM; simp only [a8,jb]; decide
   ·unfold gq at k; rw [if_neg n] at k; exact k.elim
  obtain ⟨g1,g2⟩:=vd (fr.mono s) hl hv k
  match vs,g1,g2 with
  | [u,v,w],_,g2=>exact ⟨u,v,w,rfl,g2⟩⟩
end
end Pf

set_option maxRecDepth 100000
namespace Pf
open PySem PySem.Spec PyProof.Rows L2
noncomputable def qF:D→D→Rs (List D)
 | .list xs,.list ys=>if xs.length+ys.length≤LIM then .ok (xs++ys) else .bad
 | _,_ => .bad
section
variable {X:Cx} {xp:XP} {W:WX} {a b:Expr} {fa fb:Sto→Rs D}
theorem Et {pos:Pos} (ha:CE X xp W a fa) (hb:CE X xp W b fb):CF X xp W (.BinOp a .Add b pos) (λρ=>(fa ρ).bind λx=>(fb ρ).bind λy=>qF x y):=
 bt (pe_op (op:=.Add) zG ha hb) λσ H Q ⟨ρ,O,R,q⟩=>⟨ρ,O,R,(End.bind q).imp λdx H1 _ s1 q1 vx hx=>⟨ρ,O,R.mono s1,(End.bind q1).imp λdy H2 _ s2 q2 vy hy=>by
  have hx:=bf (aH s2.sm) hx
  match dx,dy,hx,hy,q2 with
  | .list ds,.list es,.lst (xs:=vs) h1 h2 h3,.lst (xs:=ws) h4 h5 h6,q2 =>
   have q2:End X.K X.mg W O σ H2 (λds H' => ∀ p vs,H p=none→H' p=some (.lst vs)→vs.length≤LIM→aj X.K (msk H' (p::O)) vs ds→Q (.ref p) H') (if ds.length+es.length≤LIM then .ok (ds++es) else .bad):=q2
   by_cases hl:ds.length+es.length≤LIM
   ·rw [if_pos hl] at q2
    have hl':vs.length+ws.length≤LIM:=by rw [aK h3,aK h6]; exact hl
    refine ⟨_,_,_,_,rfl,rfl,aQ h1,aQ h4,aF hl' b9,λp hp => ?_⟩
    exact q2 _ (a0 hp) p (vs++ws) ((s1.trans s2).free hp) aS (by rw [cx]; exact hl') (bj (dZ hp (a0 hp).sm) (fB h3 h6))
   ·rw [if_neg hl] at q2; exact q2.elim
  | .none,_,_,_,q2=>exact q2.elim
  | .bool _,_,_,_,q2=>exact q2.elim
  | .int _,_,_,_,q2=>exact q2.elim
  | .str _,_,_,_,q2=>exact q2.elim
  | .tuple _,_,_,_,q2=>exact q2.elim
  | .dict _,_,_,_,q2=>exact q2.elim
  | .list _,.none,_,_,q2=>exact q2.elim
  | .list _,.bool _,_,_,q2=>exact q2.elim
  | .list _,.int _,_,_,q2=>exact q2.elim
  | .list _,.str _,_,_,q2=>exact q2.elim
  | .list _,.tuple _,_,_,q2=>exact q2.elim
  | .list _,.dict _,_,_,q2=>exact q2.elim⟩⟩
end
end Pf

set_option maxRecDepth 100000
namespace Pf
open PySem PySem.Spec PyProof.Rows L2
noncomputable abbrev qf:=Value × Nat × (Addr→Value→Option Addr→TS)
section
variable {X:Cx} {body:List Stmt} {hd0:ExceptHandler} {hds:List ExceptHandler} {l:List qf} {pos:Pos} {tb:WX→TS} {Wo:WX}
end
structure Cl where
 sub:Str→Option Bool
 i:Nat
 su:Sto→Out
noncomputable def vq (att:Str→Option Str):List Cl→EX→Sto→Out
 | [],e,ρ => .ex e ρ
 | k::r,e,ρ=>match k.sub e.cls with
  | some true=>if att e.cls=some e.attr then leave k.i (k.su (ρ.set k.i (some (.exc e)))) else .bad
  | some false=>vq att r e ρ
  | none => .bad
noncomputable def Ad (att:Str→Option Str) (cs:List Cl) (body:Sto→Out):Sto→Out:=λρ=>match body ρ with
 | .ex e ρ'=>vq att cs e ρ'
 | o=>o
section
variable {X:Cx} {W:WX} {B:List Addr} {att:Str→Option Str} {f:Sto→Out} {body:List Stmt} {pos:Pos}
inductive mJ (X:Cx) (B:List Addr) (att:Str→Option Str):List ExceptHandler→List Cl→List qf→Prop
 | nil:mJ X B att [] [] []
 | cons {x n:Str} {c:Value} {k:Cl} {b0:Stmt} {suite:List Stmt} {np pos':Pos} {hds:List ExceptHandler} {cs:List Cl} {l:List qf} (hc:Names X x c) (hi:X.N[k.i]? = some n) (hln:X.env.kindOf n=some .local) (cau:MW X c k.sub att)
   (hsu : ∀ (a D dd:Addr) (oe:Obj) (y fl:Str) (pn:List (Addr × Obj)),Zc (.ref D) (some dd) oe→(∃ vs,oe.data = .fields vs)→X.mg y=some (.ref D)→att y=some fl→Ask X.K D fl→CSs (Su X a oe pn) (x1 X.w a dd y) W0 B (b0::suite) k.su) (r:mJ X B att hds cs l) :
   mJ X B att (.ExceptHandler (some (.Name x np)) (some n) (b0::suite) pos'::hds) (k::cs) ((c,k.i,tsF X B att k.su)::l)
end
end Pf

set_option maxRecDepth 100000
namespace Pf
open PySem PySem.Spec PyProof.Rows L2
section
variable {X:Cx} {pins:List (Addr × Obj)} {σ:L2.St} {H:Hp} {s:Shared}
noncomputable def Hy (K:PySem.W.Frag) (b:Addr) (y z:Str) (t u:Tok):Prop:=(∃ o n,K.lookup b=some o∧o.cls = .type "tuple" ∧ o.data = .seq #[.str y t,.str z u] n)∧t≠0∧u≠0∧t≠u∧(y==z)=false
end
end Pf

set_option maxRecDepth 100000
namespace HT
open PySem PySem.Spec PyProof.Rows L2
section
variable {prog:Program} {w:World} {A:Around} {E:Value→Shared→Prop} {s:Shared}
theorem Kx {sl:Addr} {vl vu vs:Value} {n:Nat} {Q:Int × Int × Nat→Shared→Prop} (hs:s.heap.IsSliceOf sl vl vu vs) (pl:IsPart vl none) (pu:IsPart vu none) (ps:IsPart vs (some (-1)))
  (h:Q ((n:Int)-1,-1,n) s):wpAny (model prog w) A (Builtin.Slice.sliceApplied (.ref sl) (pure (n:Int))) Q E s:=by
 obtain ⟨os,hos,hcs,hds⟩:=id hs
 unfold Builtin.Slice.sliceApplied Builtin.Slice.sliceFields
 refine af (af (dH hos hds (x:=vl) rfl (af (dH hos hds (x:=vu) rfl (af (dH hos hds (x:=vs) rfl (ah ?_)))))))
 refine af (slicePart_ ps ?_)
 show wpAny _ _ (if ((-1:Int)==0)=true then _ else _) _ _ s
 rw [if_neg (by decide)]
 refine af (slicePart_ pl (af (slicePart_ pu (af (ah ?_)))))
 have e:Builtin.Slice.slicePlaces ((n:Int)-1) (-1) (-1)=n:=by
  unfold Builtin.Slice.slicePlaces
  rw [if_neg (by decide : ¬ ((-1:Int)>0))]
  by_cases q:(n:Int)-1 > -1
  ·rw [if_pos q,show (- -1:Int)=1 by decide,Int.ediv_one]
   omega
  ·rw [if_neg q]
   omega
 show wpAny _ _ (pure ((n:Int)-1,(-1:Int),Builtin.Slice.slicePlaces ((n:Int)-1) (-1) (-1))) _ _ s
 rw [e]
 exact ah h
theorem wD {α β:Type} {f g:α→Option β} : ∀ {l:List α},(∀ m∈l,f m=g m)→l.filterMap f=l.filterMap g
 | [],_=>rfl
 | a::l,h=>by
  rw [List.filterMap_cons,List.filterMap_cons,h a (by simp),wD λm hm=>h m (aE _ hm)]
theorem OP (xs:Array Value):((List.range xs.size).filterMap λ(m:Nat)=>xs[(((xs.size:Int)-1)+(m:Int) * -1).toNat]?).toArray=xs.toList.reverse.toArray:=by
 have e:(List.range xs.size).filterMap (λ(m:Nat)=>xs[(((xs.size:Int)-1)+(m:Int) * -1).toNat]?)=(List.range xs.size).filterMap λm=>xs[xs.size-1-m]?:=by
  refine wD λm hm => ?_
  have:=List.mem_range.mp hm
  rw [show (((xs.size:Int)-1)+(m:Int) * -1).toNat=xs.size-1-m by omega]
 have e2:((List.range xs.size).filterMap λm=>xs[xs.size-1-m]?)=((List.range xs.size).map λk=>xs.size-1-k).filterMap (xs[·]?):=by
  rw [List.filterMap_map]
  rfl
 rw [e,e2,PySem.W.krv_range,List.filterMap_reverse,PySem.W.krv_all]
theorem Ta {t sl:Addr} {items:Array Value} {vl vu vs:Value} {Q:Value→Shared→Prop} (ht:IsTup s.heap t items) (hs:s.heap.IsSliceOf sl vl vu vs) (pl:IsPart vl none) (pu:IsPart vu none) (ps:IsPart vs (some (-1)))
  (h:Q (.ref s.heap.objs.size) { s with heap:=s.heap.push { cls:=.type "tuple",data:=.seq items.toList.reverse.toArray } })
  (hsz:items.size≤sizeLine):wpAny (model prog w) A (getItem (.ref t) (.ref sl)) Q E s:=by
 have htake:sizeOk (.seq items.toList.reverse.toArray):=by
  show items.toList.reverse.toArray.size≤sizeLine
  rw [List.size_toArray,List.length_reverse,bY]
  exact hsz
 obtain ⟨os,hos,hcs,hds⟩:=id hs
 have hTs:s.TypeIs (.ref sl) "slice":=⟨os,hos,hcs⟩
 unfold getItem
 try with_reducible refine bA ?_
 first | refine af (ah ?_) | skip
 refine af (wpAny_sequenceKey ht.typeIs (by decide) ?_)
 refine af (wpAny_callSpecial?_slot (name:=Str.ofString "__getitem__") ht.typeIs PyProof.Rows.slot_tuple_getitem
  (i7 PyProof.Rows.slot_tuple_getitem ht.typeIs entry_tuple_getitem ?_ (args_tuple_getitem _ _)))
 show wpAny _ _ (Builtin.Tuple.tupleItemsOf (.ref t) >>= _) _ _ s
 refine af (tupleItemsOf_ ht ?_)
 refine af (wpAny_typeOf hTs ?_)
 rw [if_pos (by decide)]
 refine af (Kx hs pl pu ps ?_)
 have hno : ¬ ((((items.size:Int)-1)==0&&(-1:Int)==1&&items.size==items.size)=true):=by
  intro q
  rw [ai,ai] at q
  exact absurd q.1.2 (by decide)
 show wpAny _ _ (if (((items.size:Int)-1)==0&&(-1:Int)==1&&items.size==items.size)=true then _ else _) _ _ s
 rw [if_neg hno,OP]
 first
  | exact af (m:=Builtin.Tuple.tupleExact _) (wpAny_newObj_type (ah ⟨_,rfl,ah h⟩) htake)
  | exact af (m:=Builtin.Tuple.tupleExact _) (wpAny_newObj_type (af (ah (ah ⟨_,rfl,ah h⟩))) htake)
  | exact af (af (m:=Builtin.Tuple.tupleExact _) (wpAny_newObj_type (ah (ah ⟨_,rfl,ah h⟩)) htake))
  | exact af (af (m:=Builtin.Tuple.tupleExact _) (wpAny_newObj_type (ah ⟨_,rfl,ah h⟩) htake))
end
end HT
namespace Pf
open PySem PySem.Spec PyProof.Rows L2
end Pf

set_option maxRecDepth 100000
namespace Pf
open PySem PySem.Spec L2
noncomputable def pairsOf:List D→Option (List (Str × Str))
 | []=>some []
 | .tuple [.str y,.str z]::r=>(pairsOf r).map ((y,z) :: ·)
 | _=>none
noncomputable def tabOf:D→Option (List (Str × Str))
 | .tuple ds=>pairsOf ds
 | _=>none
noncomputable def Np (K:PySem.W.Frag) (b:Addr) (r:Str × Str):Prop:=∃ t u,Hy K b r.1 r.2 t u
noncomputable def KTab (K:PySem.W.Frag) (v:Value) (rows:List (Str × Str)):Prop:=
 ∃ (a:Addr) (bs:List Addr),v = .ref a∧(∃ (o:Obj) (n:Nat),K.lookup a=some o∧o.cls = .type "tuple" ∧ o.data = .seq (bs.map Value.ref).toArray n)∧bs.length≤sizeLine∧Paired (Np K) bs rows
noncomputable def kH (K:PySem.W.Frag) (v:Value) (d:D):Prop:=∀ rows,tabOf d=some rows→KTab K v rows
noncomputable def nJ (sw:Bool) (x:Str) (r:Str × Str):Str:=if sw then Txt.replace x r.2 r.1 else Txt.replace x r.1 r.2
noncomputable def sR (sw:Bool) (x:Str) (r:Str × Str):Prop:=
 x.length+(x.length+1)*(if sw then r.1 else r.2).length≤16777216∧(asc r.1=true∧r.1.length≤LIM)∧(asc r.2=true∧r.2.length≤LIM)∧asc (nJ sw x r)=true∧(nJ sw x r).length≤LIM
noncomputable instance (sw:Bool) (x:Str) (r:Str × Str):Decidable (sR sw x r):=by unfold sR; exact inferInstance
noncomputable def Aj (i j k:Nat) (sw:Bool):List (Str × Str)→Str→Sto→Out
 | [],_,ρ => .nx ρ
 | r::rs,x,ρ=>if sR sw x r then Aj i j k sw rs (nJ sw x r) (((ρ.set j (some (.pd (.str r.1)))).set k (some (.pd (.str r.2)))).set i (some (.pd (.str (nJ sw x r))))) else .bad
noncomputable def zQ (i j k:Nat) (sw:Bool) (rows:List (Str × Str)):Sto→Out:=λρ=>match ρ[i]? with
 | some (some (.pd (.str x)))=>if i≠j∧i≠k∧j≠k then Aj i j k sw rows x ρ else .bad
 | _ => .bad
section
variable {K:PySem.W.Frag} {mg:Str→Option Value} {xp:XP} {W:WX} {B O:List Addr} {T:Ends} {H:Hp} {σ:L2.St} {ρ:Sto}
theorem Fr.qy (fr:Fr K xp B σ H ρ O) {i:Nat} {v:V} {d:D} (h:Dn K (msk H (O++B)) v d):Fr K xp B (σ.set i (some v)) H (ρ.set i (some (.pd d))) O:=
 ⟨fr.rel.set h,λj xs a o q1 q2=>by
  rcases get_set q1 with ⟨rfl,e⟩ | ⟨ne,e⟩
  ·cases e; cases o
  ·rw [List.getElem?_set_ne ne] at q2
   exact fr.own j xs a o e q2⟩
end
section
variable {X:Cx} {xp:XP} {W:WX} {B:List Addr} {pos:Pos}
end
end Pf

set_option maxRecDepth 100000
namespace Pf
open PySem PySem.Spec PyProof.Rows L2
section
variable {X:Cx} {a D dd:Addr} {oe:Obj} {f:Str}
end
section
variable {X:Cx} {u0:World} {W:WX} {a dd:Addr} {oe:Obj} {D:Addr} {x y n f:Str} {p p1 p2 pos:Pos} {i:Nat}
end
end Pf

set_option maxRecDepth 100000
namespace Pf
open PySem PySem.Spec PyProof.Rows L2
section
variable {X:Cx} {pins pn':List (Addr × Obj)} {σ:L2.St} {H:Hp} {s:Shared} {q:Addr × Obj}
end
section
variable {X:Cx} {x n:Str} {c:Value} {i:Nat} {body suite rest:List Stmt} {b₀:Stmt} {np pos pos':Pos} {tb:WX→TS} {ts t2:Addr→Value→Option Addr→TS} {t1:TS} {Wout:WX}
end
end Pf

set_option maxRecDepth 100000
namespace Pf
open PySem PySem.Spec PyProof.Rows L2
section
variable {X:Cx}
noncomputable def xu:List (Str × Str)→List Expr→Bool
 | [],[]=>true
 | r::rs,.Tuple [.Constant (.str y) _ _,.Constant (.str z) _ _] _ _::es=>decide (y=r.1)&&decide (z=r.2) && !(y==z)&&xu rs es
 | _,_=>false
end
section
variable {X:Cx} {xp:XP} {W:WX} {B:List Addr} {pos:Pos}
end
end Pf

set_option maxRecDepth 100000
namespace Pf
open PySem PySem.Spec PyProof.Rows L2
noncomputable def J2:Out→Out
 | .rt d => .rt d
 | _ => .bad
noncomputable def vj (sub:Str→Option Bool) (att:Str→Option Str) (i j:Nat) (body r0 r1:Sto→Out):Sto→Out:=λρ=>match body ρ with
 | .nx ρ'=>r0 ρ'
 | .ex e ρ'=>match sub e.cls with
  | some true=>if att e.cls=some e.attr∧i<ρ'.length then J2 (r1 (((ρ'.set i (some (.exc e))).set j (some (.exc e))).set i none)) else .bad
  | some false => .ex e ρ'
  | none => .bad
 | o=>o
section
variable {X:Cx} {W:WX} {B:List Addr} {sub:Str→Option Bool} {att:Str→Option Str} {i j:Nat} {f g0 g1:Sto→Out} {body rest:List Stmt} {x n z:Str} {c:Value} {np p1 p2 p3 pos pos':Pos}
end
section
variable {X:Cx} {xp:XP} {W:WX} {i:Nat} {n y:Str} {e:Expr} {fa:Sto→Rs D} {p p1 p2 pos:Pos}
noncomputable def fL (d:D):Rs D:=match kd d with
 | .dc true => .bad
 | _ => .ok (.bool false)
end
noncomputable def asL:D→Rs (List D)
 | .list xs => .ok xs
 | _ => .bad
section
variable {X:Cx} {xp:XP} {W:WX} {B:List Addr} {a b e:Expr} {fa:Sto→Rs D} {ff fg:Sto→Rs (List D)} {pos:Pos}
noncomputable def mO (K:PySem.W.Frag) (mg:Str→Option Value) (n:Nat) (m:List D→Rs D):Sp:=λvs H Q E => ∃ (O:List Addr) (ds:List D),Thr K H O∧aj K (msk H O) vs ds∧ds.length=n∧match m ds with
 | .ok (.list xs) => ∀ H' p us,Same H H'→H p=none→H' p=some (.lst us)→us.length≤LIM→aj K (msk H' (p::O)) us xs→Q (.ref p) H'
 | .ok _=>False
 | .ex e => ∀ H' cls dd,Same H H'→eX K mg (msk H' O) e cls dd→E cls dd H'
 | .bad=>False
noncomputable def FO (i j:Nat) (f g:Sto→Rs (List D)):Sto→Out:=λρ => .ofR (f ρ) ρ λxs => .ofR (g ρ) ρ λys => .nx ((ρ.set i (some (.own xs))).set j (some (.own ys)))
noncomputable def I0 (i:Nat):Sto→Out:=λρ => .ofR (ownAt ρ i) ρ λ_ => .nx (ρ.set i (some (.own [])))
end
end Pf

set_option maxRecDepth 100000
namespace Pf
open PySem PySem.Spec PyProof.Rows L2
noncomputable def isKey (x:Str):D→Bool
 | .str y=>decide (y=x)
 | _=>false
noncomputable def dB (kvs:List (D × D)) (x:Str):Option D:=(kvs.find? λp=>isKey x p.1).map (·.2)
noncomputable def fC (kvs:List (D × D)) (x:Str) (d:D):List (D × D):=if (kvs.any λp=>isKey x p.1)=true then kvs.map (λp=>if isKey x p.1=true then (p.1,d) else p) else kvs++[(.str x,d)]
noncomputable def l_:D→Rs (List (D × D))
 | .dict kvs=>if dQ kvs=true then .bad else .ok kvs
 | _ => .bad
theorem qJ {kvs:List (D × D)} (h:dQ kvs=false):l_ (.dict kvs) = .ok kvs:=by
 show (if dQ kvs=true then Rs.bad else .ok kvs)=_
 rw [h]; rfl
section
variable {K:PySem.W.Frag} {H:Hp}
theorem tE {x:Str} {k:Key}:isKey x (keyD k)=decide (k = .inr x):=by
 cases k with
 | inl i=>simp [keyD,isKey]
 | inr y=>simp [keyD,isKey]
theorem th : ∀ {kv:List (Key × V)} {ds:List (D × D)},bH K H kv ds→kv.length=ds.length
 | _,_,.nil=>rfl
 | _,_,.cons _ t=>by rw [a8,a8,th t]
theorem A8 {x:Str} : ∀ {kv:List (Key × V)} {ds:List (D × D)},bH K H kv ds→(kv.any λp=>decide (p.1=(.inr x:Key)))=ds.any λp=>isKey x p.1
 | _,_,.nil=>rfl
 | (k,v)::kv,(_,d)::ds,.cons h t=>by
  rw [j9,j9,A8 t,tE]
theorem za {x:Str} {d0:D} {v0:V} (h0:Dn K H v0 d0) : ∀ {kv:List (Key × V)} {ds:List (D × D)},bH K H kv ds→bH K H (kv.map λp=>if p.1=(.inr x:Key) then (p.1,v0) else p) (ds.map λp=>if isKey x p.1=true then (p.1,d0) else p)
 | _,_,.nil => .nil
 | (k,v)::kv,(_,d)::ds,.cons h t=>by
  have ih:=za (x:=x) h0 t
  rw [aI,aI]
  have e:=tE (x:=x) (k:=k)
  by_cases q:k = .inr x
  ·rw [cb q] at e
   rw [if_pos q,if_pos e]
   exact .cons h0 ih
  ·rw [cT q] at e
   rw [if_neg q,if_neg (by rw [e]; exact aa)]
   exact .cons h ih
theorem yj {x:Str} {d0:D} {v0:V} (h0:Dn K H v0 d0) : ∀ {kv:List (Key × V)} {ds:List (D × D)},bH K H kv ds→bH K H (kv++[(.inr x,v0)]) (ds++[(.str x,d0)])
 | _,_,.nil => .cons (k:=.inr x) h0 .nil
 | _,_,.cons h t => .cons h (yj h0 t)
theorem Ej {x:Str} {d0:D} {v0:V} {kv:List (Key × V)} {ds:List (D × D)} (h0:Dn K H v0 d0) (h:bH K H kv ds):bH K H (putK kv (.inr x) v0) (fC ds x d0):=by
 unfold putK fC
 rw [A8 h]
 split
 ·exact za h0 h
 ·exact yj h0 h
theorem yO (ds:List (D × D)) (x:Str) (d:D):(fC ds x d).length≤ds.length+1:=by
 unfold fC
 split
 ·rw [aq]; omega
 ·rw [cx]; simp
end
section
variable {X:Cx} {xp:XP} {W:WX} {B:List Addr} {o a k e f:Expr} {fo fk ff:Sto→Rs D} {apos cpos pos p:Pos}
noncomputable def JI (a:Rs D) (k:Rs D) (d:Rs D):Rs D:=a.bind λa=>(l_ a).bind λkvs=>k.bind λk=>(cR k).bind λx=>d.bind λd => .ok ((dB kvs x).getD d)
noncomputable def lZ (rows:List (Str × Str)):D:=.dict (rows.map λr=>(.str r.1,.str r.2))
noncomputable def Hh:List (Str × Str)→List (Option Expr)→List Expr→Bool
 | [],[],[]=>true
 | (x,y)::r,some (.Constant (.str a) _ _)::ks,.Constant (.str b) _ _::vs=>decide (x=a)&&decide (y=b)&&Hh r ks vs
 | _,_,_=>false
noncomputable def As (ρ:Sto) (i:Nat):Rs (List (D × D)):=match ρ[i]? with
 | some (some (.od kvs)) => .ok kvs
 | _ => .bad
noncomputable def Jj (ρ:Sto) (i:Nat) (k:Rs D) (d:Rs D):Rs D:=(As ρ i).bind λkvs=>k.bind λk=>(cR k).bind λx=>d.bind λd => .ok ((dB kvs x).getD d)
noncomputable def Ga (i:Nat) (fk fv:Sto→Rs D):Sto→Out:=λρ => .ofR (fv ρ) ρ λd => .ofR (As ρ i) ρ λkvs => .ofR ((fk ρ).bind cR) ρ λx=>if kvs.length<LIM then .nx (ρ.set i (some (.od (fC kvs x d)))) else .bad
end
end Pf

set_option maxRecDepth 100000
namespace Pf
open PySem PySem.Spec PyProof.Rows L2
noncomputable def eK:D→Rs Int
 | .int i => .ok i
 | _ => .bad
noncomputable def eE:D→Rs (List D)
 | .list xs => .ok xs
 | _ => .bad
section
variable {X:Cx} {xp:XP} {W:WX} {B:List Addr} {e:Expr} {fe:Sto→Rs D} {apos cpos pos p pos':Pos}
noncomputable def Br (g:Int→Int→Int) (i:Nat) (fe:Sto→Rs D):Sto→Out:=λρ => .ofR ((a9 ρ i).bind eK) ρ λa => .ofR (fe ρ) ρ λy => .ofR (eK y) ρ λb => .nx (ρ.set i (some (.pd (.int (g a b)))))
noncomputable def JK (i:Nat) (fe:Sto→Rs D):Sto→Out:=λρ => .ofR (ownAt ρ i) ρ λxs => .ofR (fe ρ) ρ λd => .ofR (eE d) ρ λys=>if xs.length+ys.length≤LIM then .nx (ρ.set i (some (.own (xs++ys)))) else .bad
noncomputable def Pz (i:Nat) (fe:Sto→Rs D):Sto→Out:=λρ => .ofR (ownAt ρ i) ρ λxs => .ofR (fe ρ) ρ λd=>if xs.length<LIM then .nx (ρ.set i (some (.own (d::xs)))) else .bad
noncomputable def HJ (i:Nat) (fk fe:Sto→Rs D):Sto→Out:=λρ => .ofR (fe ρ) ρ λd => .ofR (ownAt ρ i) ρ λxs => .ofR ((fk ρ).bind eK) ρ λk=>match ixN xs.length k with
 | some j => .nx (ρ.set i (some (.own (xs.set j d))))
 | none => .bad
variable {a b:Expr} {fa fb:Sto→Rs D} {p2 pos2:Pos}
noncomputable def mX (r:Rs (List D)):Rs (List D):=r.bind λds=>if ds.length≤LIM then .ok ds else .bad
end
end Pf

set_option maxRecDepth 100000
namespace Pf
open PySem PySem.Spec PyProof.Rows L2
section
variable {X:Cx} {pins:List (Addr × Obj)} {σ:L2.St} {H:Hp} {s:Shared} {k:Nat} {f:Addr} {fd:FuncData} {ps:List Str} {m:List D→Rs D}
end
noncomputable def d5 (m:List D→Rs D):List D→Option (List D)
 | []=>some []
 | x::xs=>match m [x],d5 m xs with
  | .ok k,some ks=>some (k::ks)
  | _,_=>none
noncomputable def DL (xs ks:List D):List D:=(ms (λa b=>oN a.2 b.2) (xs.zip ks)).map (·.1)
noncomputable def tH (m:List D→Rs D) (xs:List D):Rs (List D):=match d5 m xs with
 | some ks=>if oO ks=true∧sortable ks=true∧(ks.all λx=>decide (x.depth≤64))=true∧PyData.hasDictAll ks=false then .ok (DL xs ks) else .bad
 | none => .bad
noncomputable def Am (m:List D→Rs D):D→Rs (List D)
 | .list xs=>tH m xs
 | .tuple xs=>tH m xs
 | _ => .bad
theorem tK {m:List D→Rs D} : ∀ {xs ks:List D},d5 m xs=some ks→xs.map (λd=>m [d])=ks.map Rs.ok
 | [],_,h=>by cases h; rfl
 | x::xs,ks,h=>by
  unfold d5 at h
  split at h
  ·rename_i k r e1 e2
   cases h
   rw [aI,aI,e1,tK e2]
  ·cases h
theorem K7 {m:List D→Rs D} {xs ks:List D} (h:d5 m xs=some ks):ks.length=xs.length:=by
 have:=bF List.length (tK h)
 rw [aq,aq] at this
 exact this.symm
section
variable {X:Cx} {xp:XP} {W:WX} {e:Expr} {fe:Sto→Rs D} {x:Str} {m:List D→Rs D} {p gp kp pos:Pos}
end
end Pf

set_option maxRecDepth 100000
namespace Pf
open PySem PySem.Spec PyProof.Rows L2
section
variable {prog:Program} {w:World} {A:Around} {R:Result→Shared→Prop} {s:Shared} {elt ta ia tb ib:Expr} {fa fb:List Expr} {scope:Scope} {pos:Pos} {it acc:Value} {env:Env}
end
end Pf

set_option maxRecDepth 100000
namespace Pf
open PySem PySem.Spec PyProof.Rows L2
section
variable {X:Cx}
end
end Pf

set_option maxRecDepth 100000
namespace Pf
open PySem PySem.Spec PyProof.Rows L2
noncomputable def adI (acc:List Int) (k:Int):List Int:=if k∈acc then acc else acc++[k]
noncomputable def siL (t:Tg) (cond:Sto→Rs Bool) (elt:Sto→Rs D) (ρ0:Sto):List D→List Int→Rs (List Int)
 | [],acc => .ok acc
 | d::ds,acc=>(bx t d ρ0).bind λρ1=>(bo (cond ρ1)).bind λb =>
  if b=true then (bo (elt ρ1)).bind λy=>(eK y).bind λk=>siL t cond elt ρ0 ds (adI acc k) else siL t cond elt ρ0 ds acc
noncomputable def qw (t:Tg) (cond:Sto→Rs Bool) (it2:Sto→Rs (List D)) (us:List Nat) (t2:Tg) (cond2:Sto→Rs Bool) (elt:Sto→Rs D) (ρ0:Sto):List D→List Int→Rs (List Int)
 | [],acc => .ok acc
 | d::ds,acc=>(bx t d ρ0).bind λρ1=>(bo (cond ρ1)).bind λb =>
  if b=true then (bo (it2 ρ1)).bind λes=>(siL t2 cond2 elt (aJ ρ1 us) es acc).bind λacc=>qw t cond it2 us t2 cond2 elt ρ0 ds acc else qw t cond it2 us t2 cond2 elt ρ0 ds acc
noncomputable def eV (acc:List Int):Rs (List Int):=if acc.length<64 then .ok acc else .bad
noncomputable def siF (t:Tg) (vs:List Nat) (items:Sto→Rs (List D)) (cond:Sto→Rs Bool) (elt:Sto→Rs D):Sto→Rs (List Int):=λρ=>(items ρ).bind λds=>(bo (siL t cond elt (aJ ρ vs) ds [])).bind eV
noncomputable def xE (t:Tg) (vs:List Nat) (items:Sto→Rs (List D)) (cond:Sto→Rs Bool) (it2:Sto→Rs (List D)) (us:List Nat) (t2:Tg) (cond2:Sto→Rs Bool) (elt:Sto→Rs D):Sto→Rs (List Int):=λρ=>(items ρ).bind λds=>(bo (qw t cond it2 us t2 cond2 elt (aJ ρ vs) ds [])).bind eV
noncomputable def fK (acc:List Int):List D:=(acc.mergeSort λx y=>decide (x≤y)).map PyData.int
theorem vS (acc:List Int) (k:Int):(adI acc k).length=if decide (k∈acc)=true then acc.length else acc.length+1:=by
 unfold adI
 by_cases h:k∈acc
 ·rw [if_pos h,if_pos (cb h)]
 ·rw [if_neg h,if_neg (by simpa using h),cx]
  rfl
theorem Ki (acc:List Int) (k:Int):(λj=>decide (j∈acc)||decide (j=k))=λj=>decide (j∈adI acc k):=by
 funext j
 unfold adI
 by_cases h:k∈acc
 ·rw [if_pos h]
  by_cases e:j=k
  ·subst e; simp [h]
  ·simp [e]
 ·rw [if_neg h]
  simp [j6]
theorem Kq {acc:List Int} (k:Int) (h:acc.Nodup):(adI acc k).Nodup:=by
 unfold adI
 split
 ·exact h
 ·rename_i n
  rw [List.nodup_append]
  exact ⟨h,by simp,λa ha b hb e=>by
   obtain rfl:b=k:=by simpa using hb
   exact n (e ▸ ha)⟩
section
variable {t t2:Tg} {cond cond2:Sto→Rs Bool} {elt:Sto→Rs D} {it2:Sto→Rs (List D)} {us:List Nat} {ρ0:Sto}
end
theorem dC {H:Hp} {D:Addr} {O:List Addr} {o:HO}:msk (upd H D o) (D::O)=msk H (D::O):=by
 funext b
 by_cases hb:b∈D::O
 ·rw [cK hb,cK hb]
 ·rw [bc hb,bc hb,ax λe=>hb (by rw [e]; simp)]
section
variable {xp:XP} {W:WX} {w:World} {K:PySem.W.Frag} {mg:Str→Option Value} {t t2:Tg} {vs us:List Nat} {items it2:Sto→Rs (List D)} {cond cond2:Sto→Rs Bool} {elt:Sto→Rs D} {σ:L2.St} {H:Hp} {Q:VK}
end
section
variable {X:Cx} {xp:XP} {W:WX} {elt tg iter tg2 iter2:Expr} {ifs ifs2:List Expr} {scope:Scope} {own:List (Str × Nat)} {us:List Nat} {pos p:Pos} {t t2:Tg} {items it2:Sto→Rs (List D)} {cond cond2:Sto→Rs Bool} {fe:Sto→Rs D}
variable {e:Expr} {f:Sto→Rs (List Int)}
end
end Pf

set_option maxRecDepth 100000
namespace Pf
open PySem PySem.Spec PyProof.Rows L2
section
variable {X:Cx} {xp:XP} {W:WX} {e:Expr} {fe:Sto→Rs D} {pos:Pos}
noncomputable def yS:D→Rs (List D)
 | .list xs => .ok xs.dropLast.reverse
 | _ => .bad
noncomputable def ig (a k:Rs D):Rs D:=a.bind λa=>(l_ a).bind λkvs=>k.bind λk=>(cR k).bind λx=>match dB kvs x with
 | some d => .ok d
 | none => .bad
theorem xV {K:PySem.W.Frag} {F:Hp} {x:Str} {d:D} : ∀ {kv:List (Key × V)} {ds:List (D × D)},bH K F kv ds→dB ds x=some d → ∃ v,valV kv (.inr x)=some v∧Dn K F v d
 | _,_,.nil,h=>by cases h
 | (k,v)::kv,(_,y)::ds,.cons h t,hd=>by
  have e:=tE (x:=x) (k:=k)
  by_cases q:k = .inr x
  ·rw [cb q] at e
   have e2:dB ((keyD k,y)::ds) x=some y:=by
    unfold dB
    rw [List.find?_cons,e]
    rfl
   rw [e2] at hd
   cases hd
   exact ⟨v,valV_pos q,h⟩
  ·rw [cT q] at e
   have e2:dB ((keyD k,y)::ds) x=dB ds x:=by
    unfold dB
    rw [List.find?_cons,e]
   rw [e2] at hd
   obtain ⟨w,g1,g2⟩:=xV t hd
   exact ⟨w,by rw [valV_neg q]; exact g1,g2⟩
theorem Mr {k:Expr} {fk:Sto→Rs D} (hu:X.A.units+1<cLine) (he:CE X xp W e fe) (hk:CE X xp W k fk) (hs:jI k=true):CE X xp W (.Subscript e k pos) (λρ=>ig (fe ρ) (fk ρ)):=
 bt (pe_dget hu he hk (λov iv=>Bb hs ov iv)) λσ H Q ⟨ρ,O,R,q⟩=>⟨ρ,O,R,(End.bind q).imp λda H1 _ s1 q1 v hv=>by
  cases da with
  | dict kvs =>
   cases hv with
   | @dct a ob kv _ h1 h2 h3 =>
    have q1:End X.K X.mg W O σ H1 _ ((l_ (.dict kvs)).bind λkvs=>(fk ρ).bind λk=>(cR k).bind λx=>match dB kvs x with
     | some d=>Rs.ok d
     | none => .bad):=q1
    rw [qJ (oK h3)] at q1
    have q1:End X.K X.mg W O σ H1 _ ((fk ρ).bind λk=>(cR k).bind λx=>match dB kvs x with
     | some d=>Rs.ok d
     | none => .bad):=q1
    refine ⟨ρ,O,R.mono s1,(End.bind q1).imp λdk H2 _ s2 q2 vk hk => ?_⟩
    cases dk with
    | str x =>
     cases hk
     have q2:End X.K X.mg W O σ H2 _ (match dB kvs x with
      | some d=>Rs.ok d
      | none => .bad):=q2
     cases g:dB kvs x with
     | none=>rw [g] at q2; exact q2.elim
     | some d =>
      rw [g] at q2
      obtain ⟨w,g1,g2⟩:=xV h3 g
      exact ⟨a,w,rfl,.inl ⟨kv,.inr x,.inr ⟨_,s2 _ _ (dM _ _ h1)⟩,rfl,g1.symm⟩,q2.ok _ (bf (aH s2.sm) g2)⟩
    | _=>exact q2.elim
   | ins _ _ _=>exact (show False from q1).elim
   | exc _ _ _ _=>exact (show False from q1).elim
  | _=>exact q1.elim⟩
noncomputable def leS (a b:Str):Bool:=!ltCps b.cps.toList a.cps.toList
noncomputable def e7 (xs:List Str):List Str:=xs.mergeSort leS
theorem hV {a b:Str}:leS a b=true↔a.cps.toList≤b.cps.toList:=by
 unfold leS
 rw [ltCps_eq]
 simp [List.not_lt]
theorem Bh (a b c:Str) (h1:leS a b=true) (h2:leS b c=true):leS a c=true:=hV.mpr (List.le_trans (hV.mp h1) (hV.mp h2))
theorem vF (a b:Str):(leS a b||leS b a)=true:=by
 rw [Bool.or_eq_true,hV,hV]
 exact List.le_total _ _
theorem NV {a b:Str} (h1:leS a b=true) (h2:leS b a=true):a=b:=PySem.W.str_of_cps (List.le_antisymm (hV.mp h1) (hV.mp h2))
noncomputable def wq:List (D × D)→Option (List Str)
 | []=>some []
 | (.str x,_)::r=>(wq r).map (x :: ·)
 | _=>none
noncomputable def xY:D→Rs (List D)
 | .dict kvs=>match wq kvs with
  | some ks=>if ks.length<64∧(ks.all λx=>asc x&&decide (x.length≤LIM))=true then .ok ((e7 ks).map PyData.str) else .bad
  | none => .bad
 | _ => .bad
end
end Pf

set_option maxRecDepth 100000
namespace Pf
open PySem PySem.Spec PyProof.Rows L2
section
variable {X:Cx} {i:Nat} {y:Str} {py:Pos} {kx vx tg iter:Expr} {ifs:List Expr} {scope:Scope} {own:List (Str × Nat)} {pos spos:Pos}
theorem PF {gs:List Comprehension} {l:Nat} {env:Env} (fn:env.scope.kind = .function) (loc:env.scope.names.lookup y=some .local) (line:(py.line==pos.line)=true) (clear:(scope.names.any λ(n,k)=>n==y&&(k == .local||k == .cell))=false) :
  swapsWith (.DictComp kx vx gs scope pos) (some (.Name y py)) l env=pure true:=by
 have h1:env.kindOf y=some .local:=loc
 have h2:env.blockKind = .function:=by
  unfold Env.blockKind
  rw [fn]
  rfl
 unfold swapsWith
 simp only [h2,h1,clear,Expr.pos,line]
 rfl
theorem DE {wi:TI} {g:TG} {tt:TT} {tk tv:TE} (calm:X.calm=true) (nodup:X.N.Nodup) (at_:X.N[i]? = some y) (loc:X.env.scope.names.lookup y=some .local)
  (sw:swapsWith (.DictComp kx vx [⟨tg,iter,ifs,0⟩] scope pos) (some (.Name y py)) spos.line X.env=pure true) (src:PI X tg iter wi) (blk:BlkOk X.N X.env.scope scope own)
  (tgt : ∀ (s:Shared) (H:Hp) (C:Addr) (cl:List (Str × Addr)) (fp:List Addr),PG (X.blk s H scope (compEnvC scope cl C X.env) fp) tg g)
  (tst : ∀ (s:Shared) (H:Hp) (C:Addr) (cl:List (Str × Addr)) (fp:List Addr),PTs (X.blk s H scope (compEnvC scope cl C X.env) fp) ifs tt)
  (key : ∀ (s:Shared) (H:Hp) (C:Addr) (cl:List (Str × Addr)) (fp:List Addr),PE (X.blk s H scope (compEnvC scope cl C X.env) fp) kx tk)
  (val : ∀ (s:Shared) (H:Hp) (C:Addr) (cl:List (Str × Addr)) (fp:List Addr),PE (X.blk s H scope (compEnvC scope cl C X.env) fp) vx tv)
  (plain : ∀ x,foldedSetIterable iter X.env x=pure x) :
  PS X (.Assign [.Name y py] (.DictComp kx vx [⟨tg,iter,ifs,0⟩] scope pos) spos) (tAsg (tDc wi g tt tk tv (own.map (·.2))) (gName i)):=by
 constructor
 intro pins s σ H D inv wish
 rw [exec_Assign_Name_used _ _ _ _ sw]
 apply af
 apply wpAny_standAt
 apply af
 show wpAny _ X.A (do let _ ← comprehension (.DictComp kx vx [⟨tg,iter,ifs,0⟩] scope pos) scope X.env (firstIterPos [⟨tg,iter,ifs,0⟩] pos) newDict false (eval iter X.env) (some (assign (.Name y py) X.env))) _ _ s
 have wish:tDc wi g tt tk tv (own.map (·.2)) σ H (λx H1=>gName i x σ H1 D.nx):=wish
 apply af
 refine thn (dc_core (Qf:=λ_ s'=>SP X pins D .next s') calm nodup inv src blk tgt tst key val plain wish ?_) λ_ s' z=>ah (ah z)
 intro L C s' m H' inv' q ns f
 show wpAny _ _ (assign (.Name y py) X.env (.ref L)) _ _ _
 apply wpAny_assign_Name
 refine store_ok2 (v:=V.ref L) inv' nodup at_ (.inl loc) rfl ?_ (.inr loc)
 rintro s2 inv2 ⟨a,sb,ha⟩
 obtain ⟨f0,f1,f2,f3,f4,f5⟩:=f
 have ne:C≠a:=ha.elim (λz=>by rw [z]; exact f1) λz e=>f4 y a z e.symm
 refine ⟨m,ns.sameBut sb ne,?_⟩
 intro h3 sb3
 exact ⟨_,H',inv2.turned (t':=s2.toks) (λb o hb e=>(sb3.2 b hb).trans e) f0 f1 f3 f4 f5,q⟩
end
noncomputable def dcL (t:Tg) (cond:Sto→Rs Bool) (fk fv:Sto→Rs D) (ρ0:Sto):List D→List (D × D)→Rs (List (D × D))
 | [],acc => .ok acc
 | d::ds,acc=>(bx t d ρ0).bind λρ1=>(bo (cond ρ1)).bind λb =>
  if b=true then ((bo (fk ρ1)).bind cR).bind λx=>(bo (fv ρ1)).bind λy=>dcL t cond fk fv ρ0 ds (fC acc x y) else dcL t cond fk fv ρ0 ds acc
noncomputable def dcF (t:Tg) (vs:List Nat) (items:Sto→Rs (List D)) (cond:Sto→Rs Bool) (fk fv:Sto→Rs D):Sto→Rs (List (D × D)):=λρ=>(items ρ).bind λds=>if ds.length≤LIM then bo (dcL t cond fk fv (aJ ρ vs) ds []) else .bad
noncomputable def M8 (K:PySem.W.Frag) (mg:Str→Option Value) (xp:XP) (W:WX) (f:Sto→Rs (List (D × D))):TE:=λσ H Q => ∃ ρ O,Rel K xp σ H ρ O ∧
 End K mg W O σ H (λks H' => ∀ p kv,H p=none→H' p=some (.dK kv)→kv.length≤LIM→bH K (msk H' (p::O)) kv ks→Q (.ref p) H') (f ρ)
section
variable {t:Tg} {cond:Sto→Rs Bool} {fk fv:Sto→Rs D} {ρ0:Sto} {vs:List Nat} {items:Sto→Rs (List D)}
theorem qk : ∀ {ds:List D} {acc ys:List (D × D)},dcL t cond fk fv ρ0 ds acc = .ok ys→ys.length≤acc.length+ds.length
 | [],acc,ys,h=>by cases h; exact Nat.le_add_right _ _
 | d::ds,acc,ys,h=>by
  unfold dcL at h
  obtain ⟨ρ1,_,h⟩:=ae h
  obtain ⟨b,_,h⟩:=ae h
  cases b with
  | true =>
   rw [if_pos rfl] at h
   obtain ⟨x,_,h⟩:=ae h
   obtain ⟨y,_,h⟩:=ae h
   have h1:=qk h
   have h2:=yO acc x y
   rw [a8]
   omega
  | false =>
   rw [if_neg aa] at h
   have:=qk h
   rw [a8]
   omega
theorem Ml {y:D} {x:Str} (h:cR y = .ok x):y = .str x:=by
 cases y <;> first | (cases h; rfl) | cases h
variable {K:PySem.W.Frag} {mg:Str→Option Value} {xp:XP} {W:WX} {σ:L2.St} {H:Hp} {Q:VK}
theorem yx (ht : ∀ i∈t.slots,i∈vs) (h:M8 K mg xp W (dcF t vs items cond fk fv) σ H Q):tDc (rdI K mg xp W items) (rdG K xp t) (rdT K mg xp W0 cond) (rdE K mg xp W0 fk) (rdE K mg xp W0 fv) vs σ H Q:=by
 obtain ⟨ρ,O,R,q⟩:=h
 refine ⟨ρ,O,R,(End.bind q).imp λds H1 _ s1 q1 J G hG wk D hD => ?_⟩
 obtain ⟨lim,q1⟩:=cO q1
 cases ec:dcL t cond fk fv (aJ ρ vs) ds [] with
 | ex x=>rw [ec] at q1; exact q1.elim
 | bad=>rw [ec] at q1; exact q1.elim
 | ok ys =>
  rw [ec] at q1
  have R1:=R.mono s1
  have ly:=qk ec
  let Pv:Nat→Hp→Prop:=λi H'=>Same H1 H'∧G (msk H' (D::O)) ∧ ∃ kv acc,H' D=some (.dK kv)∧bH K (msk H' (D::O)) kv acc∧acc.length≤i∧dcL t cond fk fv (aJ ρ vs) (ds.drop i) acc = .ok ys
  refine ⟨λi m H'=>m=ds.length-i∧i≤ds.length∧Pv i H',⟨ds.length,by simp,cy _,a0 hD,?_,[],[],aS,.nil,aC _,ec⟩,?_⟩
  ·rw [dC]
   exact wk.mono _ _ hG (dZ hD (Sm.refl _))
  ·rintro i m H' ⟨rfl,hi,s',g',kv,acc,hl,hda,hla,hc⟩
   have lkv:kv.length=acc.length:=th hda
   by_cases hlt:i<ds.length
   ·refine .inr ⟨wk.goes i H' _ hlt g',Pv (i+1),λH2 p2=>⟨ds.length-(i+1),by omega,rfl,hlt,p2⟩,λx H2 y => ?_⟩
    have hD':H' D≠none:=by rw [hl]; exact Option.some_ne_none _
    have R':Rel K xp (wipe σ vs) H' (aJ ρ vs) (D::O):=(jU R1 vs).grow hD s' hD'
    obtain ⟨s2,d,e1,hd⟩:=wk.yields i H' _ x H2 hlt g' R'.thr y
    rw [fu hlt] at hc
    have e2:ds[i]=d:=by
     rw [List.getElem?_eq_getElem hlt] at e1
     exact bQ e1
    rw [e2] at hc
    unfold dcL at hc
    obtain ⟨ρ1,a1,hc⟩:=ae hc
    obtain ⟨b,a2,hc⟩:=ae hc
    have a2:=eO a2
    have hl2:=s2 _ _ hl
    refine ⟨aJ ρ vs,D::O,d,ρ1,R'.mono s2,hd,a1,λσ2 R2 wp=>⟨(wp vs ht).trans (jW λ_ h=>h),ρ1,D::O,R2,?_⟩⟩
    rw [a2]
    intro H3 s3
    have hl3:=s3 _ _ hl2
    have g3:G (msk H3 (D::O)):=wk.mono _ _ g' (aH (s2.trans s3).sm)
    have s13:Same H1 H3:=s'.trans (s2.trans s3)
    have hda3:=eJ (aH (O:=D::O) (s2.trans s3).sm) hda
    cases b with
    | true =>
     rw [if_pos rfl] at hc
     refine iteT ?_
     obtain ⟨kx,a3,hc⟩:=ae hc
     obtain ⟨yy,a5,hc⟩:=ae hc
     obtain ⟨kd,a3,a4⟩:=ae a3
     obtain rfl:=Ml a4
     have a3:=eO a3
     have a5:=eO a5
     refine ⟨ρ1,D::O,R2.mono s3,?_⟩
     rw [a3]
     intro H4 s4 vk hvk
     cases hvk
     refine ⟨ρ1,D::O,(R2.mono s3).mono s4,?_⟩
     rw [a5]
     intro H5 s5 v hv
     have hl5:=s5 _ _ (s4 _ _ hl3)
     refine ⟨kv,.inr kx,rfl,hl5,gX (by omega) b9,Same.gE ((s13.trans s4).trans s5) hD hl5,?_,putK kv (.inr kx) v,fC acc kx yy,aS,?_,?_,hc⟩
     ·rw [dC]
      exact wk.mono _ _ g3 (aH (s4.trans s5).sm)
     ·rw [dC]
      exact Ej hv (eJ (aH (s4.trans s5).sm) hda3)
     ·have:=yO acc kx yy
      omega
    | false =>
     rw [if_neg aa] at hc
     refine iteF ?_
     exact ⟨s13,g3,kv,acc,hl3,hda3,by omega,hc⟩
   ·have e:i=ds.length:=by omega
    subst e
    refine .inl ⟨wk.stops H' _ g',?_⟩
    rw [jc] at hc
    cases hc
    exact q1 H' s' D kv (s1.free hD) hl (by omega) hda
end
theorem Ai {K:PySem.W.Frag} {mg:Str→Option Value} {xp:XP} {W:WX} {B O:List Addr} {T:Ends} {σ:L2.St} {H H':Hp} {ρ:Sto} {i:Nat} {ks:List (D × D)} {p:Addr} {kv:List (Key × V)} {o:Obj} (fr:Fr K xp B σ H ρ O) (s:Same H H') (k:aG K mg xp W B T H O (.nx (ρ.set i (some (.pd (.dict ks)))))) (hp:H p=none) (h1:H' p=some (.dK kv)) (h2:kv.length≤LIM) (h3:bH K (msk H' (p::(O++B))) kv ks) :
  T.nx (σ.set i (some (.ref p))) (upd H' p (.frz o (.dK kv))):=by
 have s1:Same H (upd H' p (.frz o (.dK kv))):=s.gE hp h1
 refine k _ _ O (Stp.same s1) ((fr.mono s1).qy (.dct (o:=o) (by rw [bc (fr.rel.thr.out hp),aS]) h2 (eJ (.of λb u e => ?_) h3)))
 obtain ⟨m1,m2⟩:=dJ e
 rw [bc λz=>m1 (aE _ z),ax λz=>m1 (by rw [z]; exact bu)]
 exact m2
theorem Dq {X:Cx} {xp:XP} {W:WX} {i:Nat} {n:Str} {q p p0:Pos} {B:List Addr} {kx vx tg iter:Expr} {ifs:List Expr} {scope:Scope} {own:List (Str × Nat)} {t:Tg} {items:Sto→Rs (List D)} {cond:Sto→Rs Bool} {fk fv:Sto→Rs D} (hc:X.calm=true) (hN:X.N.Nodup) (hn:X.N[i]? = some n) (hl:X.env.scope.names.lookup n=some .local)
  (hsw:swapsWith (.DictComp kx vx [⟨tg,iter,ifs,0⟩] scope p) (some (.Name n q)) p0.line X.env=pure true) (hi:CI X xp W tg iter items) (ok:BlkOk X.N X.env.scope scope own)
  (hg : ∀ (s:Shared) (H:Hp) (C:Addr) (cl:List (Str × Addr)) (fp:List Addr),CG (X.blk s H scope (compEnvC scope cl C X.env) fp) xp tg t)
  (ht : ∀ (s:Shared) (H:Hp) (C:Addr) (cl:List (Str × Addr)) (fp:List Addr),CTs (X.blk s H scope (compEnvC scope cl C X.env) fp) xp W0 ifs cond)
  (hk : ∀ (s:Shared) (H:Hp) (C:Addr) (cl:List (Str × Addr)) (fp:List Addr),CE (X.blk s H scope (compEnvC scope cl C X.env) fp) xp W0 kx fk)
  (hv : ∀ (s:Shared) (H:Hp) (C:Addr) (cl:List (Str × Addr)) (fp:List Addr),CE (X.blk s H scope (compEnvC scope cl C X.env) fp) xp W0 vx fv)
  (hs : ∀ x,foldedSetIterable iter X.env x=pure x) (hts : ∀ i∈t.slots,i∈own.map (·.2)) :
  CSt X xp W B (.Assign [.Name n q] (.DictComp kx vx [⟨tg,iter,ifs,0⟩] scope p) p0) (λρ => .ofR (dcF t (own.map (·.2)) items cond fk fv ρ) ρ λks => .nx (ρ.set i (some (.pd (.dict ks))))):=
 du (wZ (DE hc hN hn hl hsw hi ok hg ht hk hv hs)) λT σ H ⟨ρ,O,fr,q⟩=>yx hts ⟨ρ,O++B,fr.rel,(aG.oM q fr).imp λks H' _ s k p kv hp h1 h2 h3=>⟨p,kv,h1,λo=>Ai fr s k hp h1 h2 h3⟩⟩
theorem L6 {kx vx:Expr} {gs:List Comprehension} {scope:Scope} {pos py:Pos} {y:Str} {l:Nat} {env:Env} (h:env.scope.names.lookup y=some .cell):swapsWith (.DictComp kx vx gs scope pos) (some (.Name y py)) l env=pure false:=by
 have h1:env.kindOf y=some .cell:=h
 unfold swapsWith
 simp only [h1]
 have:((some NameKind.cell:Option NameKind)==some .local)=false:=rfl
 simp only [this,Bool.and_false,Bool.false_and]
theorem MJ {X:Cx} {xp:XP} {W:WX} {i:Nat} {n:Str} {q p p0:Pos} {B:List Addr} {kx vx tg iter:Expr} {ifs:List Expr} {scope:Scope} {own:List (Str × Nat)} {t:Tg} {items:Sto→Rs (List D)} {cond:Sto→Rs Bool} {fk fv:Sto→Rs D} (hc:X.calm=true) (hN:X.N.Nodup) (hn:X.N[i]? = some n) (hx:Loc X.env.scope n) (hf:X.fn n=true∨X.env.scope.names.lookup n=some .local)
  (hsw:swapsWith (.DictComp kx vx [⟨tg,iter,ifs,0⟩] scope p) (some (.Name n q)) p0.line X.env=pure false) (hi:CI X xp W tg iter items) (ok:BlkOk X.N X.env.scope scope own)
  (hg : ∀ (s:Shared) (H:Hp) (C:Addr) (cl:List (Str × Addr)) (fp:List Addr),CG (X.blk s H scope (compEnvC scope cl C X.env) fp) xp tg t)
  (ht : ∀ (s:Shared) (H:Hp) (C:Addr) (cl:List (Str × Addr)) (fp:List Addr),CTs (X.blk s H scope (compEnvC scope cl C X.env) fp) xp W0 ifs cond)
  (hk : ∀ (s:Shared) (H:Hp) (C:Addr) (cl:List (Str × Addr)) (fp:List Addr),CE (X.blk s H scope (compEnvC scope cl C X.env) fp) xp W0 kx fk)
  (hv : ∀ (s:Shared) (H:Hp) (C:Addr) (cl:List (Str × Addr)) (fp:List Addr),CE (X.blk s H scope (compEnvC scope cl C X.env) fp) xp W0 vx fv)
  (hs : ∀ x,foldedSetIterable iter X.env x=pure x) (hts : ∀ i∈t.slots,i∈own.map (·.2)) :
  CSt X xp W B (.Assign [.Name n q] (.DictComp kx vx [⟨tg,iter,ifs,0⟩] scope p) p0) (λρ => .ofR (dcF t (own.map (·.2)) items cond fk fv ρ) ρ λks => .nx (ρ.set i (some (.pd (.dict ks))))):=
 du (wZ (ps_set hN hn hx (pe_dc hc hN hi ok hg ht hk hv hs) hsw hf)) λT σ H ⟨ρ,O,fr,q⟩=>yx hts ⟨ρ,O++B,fr.rel,(aG.oM q fr).imp λks H' _ s k p kv hp h1 h2 h3=>⟨p,kv,h1,λo=>Ai fr s k hp h1 h2 h3⟩⟩
end Pf

set_option maxRecDepth 100000
namespace Pf
open PySem PySem.Spec PyProof.Rows L2
noncomputable def l1L (t:Tg) (cond:Sto→Rs Bool) (elt:Sto→Rs D) (ρ0:Sto):List D→List D→Rs (List D)
 | [],acc => .ok acc
 | d::ds,acc=>(bx t d ρ0).bind λρ1=>(bo (cond ρ1)).bind λb =>
  if b=true then (bo (elt ρ1)).bind λy=>if acc.length<LIM then l1L t cond elt ρ0 ds (acc++[y]) else .bad else l1L t cond elt ρ0 ds acc
noncomputable def l2L (t:Tg) (cond:Sto→Rs Bool) (it2:Sto→Rs (List D)) (us:List Nat) (t2:Tg) (cond2:Sto→Rs Bool) (elt:Sto→Rs D) (ρ0:Sto):List D→List D→Rs (List D)
 | [],acc => .ok acc
 | d::ds,acc=>(bx t d ρ0).bind λρ1=>(bo (cond ρ1)).bind λb =>
  if b=true then (bo (it2 ρ1)).bind λes=>(l1L t2 cond2 elt (aJ ρ1 us) es acc).bind λacc=>l2L t cond it2 us t2 cond2 elt ρ0 ds acc else l2L t cond it2 us t2 cond2 elt ρ0 ds acc
noncomputable def iD (t:Tg) (vs:List Nat) (items:Sto→Rs (List D)) (cond:Sto→Rs Bool) (it2:Sto→Rs (List D)) (us:List Nat) (t2:Tg) (cond2:Sto→Rs Bool) (elt:Sto→Rs D):Sto→Rs (List D):=λρ=>(items ρ).bind λds=>bo (l2L t cond it2 us t2 cond2 elt (aJ ρ vs) ds [])
section
variable {t t2:Tg} {us:List Nat} {it2:Sto→Rs (List D)} {cond cond2:Sto→Rs Bool} {elt:Sto→Rs D} {ρ0:Sto}
theorem rS : ∀ {ds acc ys:List D},l1L t cond elt ρ0 ds acc = .ok ys→acc.length≤LIM→ys.length≤LIM
 | [],acc,ys,h,l=>by cases h; exact l
 | d::ds,acc,ys,h,l=>by
  unfold l1L at h
  obtain ⟨ρ1,_,h⟩:=ae h
  obtain ⟨b,_,h⟩:=ae h
  cases b with
  | true =>
   rw [if_pos rfl] at h
   obtain ⟨y,_,h⟩:=ae h
   by_cases q:acc.length<LIM
   ·rw [if_pos q] at h
    exact rS h (by rw [cx]; exact q)
   ·rw [if_neg q] at h; cases h
  | false =>
   rw [if_neg aa] at h
   exact rS h l
theorem tX : ∀ {ds acc ys:List D},l2L t cond it2 us t2 cond2 elt ρ0 ds acc = .ok ys→acc.length≤LIM→ys.length≤LIM
 | [],acc,ys,h,l=>by cases h; exact l
 | d::ds,acc,ys,h,l=>by
  unfold l2L at h
  obtain ⟨ρ1,_,h⟩:=ae h
  obtain ⟨b,_,h⟩:=ae h
  cases b with
  | true =>
   rw [if_pos rfl] at h
   obtain ⟨es,_,h⟩:=ae h
   obtain ⟨ac,h1,h⟩:=ae h
   exact tX h (rS h1 l)
  | false =>
   rw [if_neg aa] at h
   exact tX h l
end
theorem sj : ∀ {is:List Nat} {ds:List D} {ρ:Sto} {i:Nat} {sv:SV},(b_ is ds ρ)[i]? = some (some sv)→cC sv=true→ρ[i]? = some (some sv)
 | [],ds,ρ,i,sv,h,_=>by cases ds <;> exact h
 | _::_,[],ρ,i,sv,h,_=>h
 | i0::is,d::ds,ρ,i,sv,h,o=>by
  rcases get_set (sj (is:=is) h o) with ⟨_,e⟩ | ⟨_,e⟩
  ·cases e; cases o
  ·exact e
theorem Je {t:Tg} {d:D} {ρ ρ1:Sto} (h:bx t d ρ = .ok ρ1) {i:Nat} {sv:SV} (hi:ρ1[i]? = some (some sv)) (o:cC sv=true):ρ[i]? = some (some sv):=by
 cases t with
 | nm j =>
  cases h
  rcases get_set hi with ⟨_,e⟩ | ⟨_,e⟩
  ·cases e; cases o
  ·exact e
 | tp is =>
  obtain ⟨ds,_,h⟩:=ae h
  by_cases q:ds.length=is.length
  ·rw [if_pos q] at h
   cases h
   exact sj hi o
  ·rw [if_neg q] at h; cases h
 | ns j js =>
  obtain ⟨y,es,rfl,_,rfl⟩:=sr h
  rcases get_set (sj hi o) with ⟨_,e⟩ | ⟨_,e⟩
  ·cases e; cases o
  ·exact e
theorem AW : ∀ {vs:List Nat} {ρ:Sto} {i:Nat} {sv:SV},(aJ ρ vs)[i]? = some (some sv)→i∉vs∧ρ[i]? = some (some sv)
 | [],ρ,i,sv,h=>⟨by simp,h⟩
 | v::vs,ρ,i,sv,h=>by
  have h:((aJ ρ vs).set v none)[i]? = some (some sv):=h
  rcases get_set h with ⟨_,e⟩ | ⟨n,e⟩
  ·cases e
  ·obtain ⟨h1,h2⟩:=AW e
   exact ⟨λm=>(cG.mp m).elim (λz=>n z.symm) h1,h2⟩
section
variable {xp:XP} {W:WX} {K:PySem.W.Frag} {mg:Str→Option Value} {t t2:Tg} {vs us:List Nat} {items it2:Sto→Rs (List D)} {cond cond2:Sto→Rs Bool} {elt:Sto→Rs D} {σ:L2.St} {H:Hp} {Q:VK}
noncomputable def Fre (σ:L2.St) (ρ:Sto) (p:Addr):Prop:=∀ (i:Nat) (sv:SV),ρ[i]? = some (some sv)→cC sv=true→σ[i]? ≠ some (some (V.ref p))
theorem Lq {p:Addr} {O:List Addr} {ρ1:Sto} {σ2:L2.St} {H3:Hp} {o:HO} (R:Rel K xp σ2 H3 ρ1 (p::O)) (fr:Fre σ2 ρ1 p) {u:HO} (hl:H3 p=some u) (n:NC p u:=by (first | assumption | exact ⟨λ_ z=>HO.noConfusion z,λ_ z=>HO.noConfusion z⟩)):Rel K xp σ2 (upd H3 p o) ρ1 (p::O):=by
 refine ⟨R.len,λi sv h => ?_,R.inj,⟨λa ha=>f7 (R.thr.nn a ha),R.thr.tb.mono (jE hl n)⟩⟩
 ·obtain ⟨v,h1,h2⟩:=R.at_ i sv h
  refine ⟨v,h1,?_⟩
  cases sv with
  | pd d =>
   have h2:Dn K (msk H3 (p::O)) v d:=h2
   show Dn K (msk (upd H3 p o) (p::O)) v d
   rw [dC]; exact h2
  | own xs =>
   obtain ⟨a,vs,h3,h4,h5,h6⟩:=h2
   have ne:a≠p:=λe=>fr i _ h rfl (by rw [h1,h3,e])
   exact ⟨a,vs,h3,h4,by rw [ax ne]; exact h5,by rw [dC]; exact h6⟩
  | od xs =>
   obtain ⟨a,vs,h3,h4,h5,h6⟩:=h2
   have ne:a≠p:=λe=>fr i _ h rfl (by rw [h1,h3,e])
   exact ⟨a,vs,h3,h4,by rw [ax ne]; exact h5,by rw [dC]; exact h6⟩
  | exc e =>
   obtain ⟨a,dd,w,h3,h4,h5,h6⟩:=h2
   exact ⟨a,dd,w,h3,h4,by rw [dC]; exact h5,by rw [dC]; exact h6⟩
  | st t =>
   obtain ⟨a,h3,h4,h5⟩:=h2
   have ne:a≠p:=λe=>fr i _ h rfl (by rw [h1,h3,e])
   exact ⟨a,h3,h4,by rw [ax ne,dC]; exact h5⟩
  | pin=>exact h2
theorem PH {ρ ρ1:Sto} {σ σ2:L2.St} {H1:Hp} {O:List Addr} {p:Addr} (R1:Rel K xp σ H1 ρ O) (hp:H1 p=none) {t:Tg} {d:D} {vs:List Nat} (a1:bx t d (aJ ρ vs) = .ok ρ1) (w:wipe σ2 vs=wipe σ vs):Fre σ2 ρ1 p:=λi sv h o e=>by
 obtain ⟨h1,h2⟩:=AW (Je a1 h o)
 have e2:σ[i]? = some (some (V.ref p)):=by
  rw [← wipe_out (vs:=vs) h1,← w,wipe_out h1]; exact e
 obtain ⟨v,h3,h4⟩:=R1.at_ i sv h2
 rw [e2] at h3
 have h3:V.ref p=v:=bQ (bQ h3)
 subst h3
 cases sv with
 | pd d=>cases o
 | exc e=>cases o
 | pin=>cases o
 | st t =>
  obtain ⟨a,k1,_,k2⟩:=h4
  cases k1
  obtain ⟨u,k3,_⟩:=k2.some
  rw [hp] at k3; cases k3
 | own xs =>
  obtain ⟨a,vs,k1,_,k2,_⟩:=h4
  cases k1
  rw [hp] at k2; cases k2
 | od xs =>
  obtain ⟨a,vs,k1,_,k2,_⟩:=h4
  cases k1
  rw [hp] at k2; cases k2
theorem L8 {p:Addr} {O:List Addr} {acc:List D} {va:List V} {ρ1:Sto} {σ2:L2.St} {H3:Hp} {y:D} {Nx:Hp→Prop} (R:Rel K xp σ2 H3 ρ1 (p::O)) (hl:H3 p=some (.lst va)) (hd:aj K (msk H3 (p::O)) va acc) (few:acc.length<LIM) (a3:elt ρ1 = .ok y)
  (nx : ∀ H4 v,Same H3 H4→aj K (msk H4 (p::O)) (va++[v]) (acc++[y])→Nx (upd H4 p (.lst (va++[v])))):rdE K mg xp W0 elt σ2 H3 λv H4 => ∃ acc,H4 p=some (.lst acc)∧acc.length<sizeLine∧Nx (upd H4 p (.lst (acc++[v]))):=by
 refine ⟨ρ1,p::O,R,?_⟩
 rw [a3]
 intro H4 s4 v hv
 refine ⟨va,s4 _ _ hl,?_,nx H4 v s4 (fB (bj (aH s4.sm) hd) (.cons hv .nil))⟩
 rw [aK hd]
 exact gX few (by decide)
theorem Fx (ht : ∀ i∈t.slots,i∈vs) (ht2 : ∀ i∈t2.slots,i∈us) (hu : ∀ i∈us,i∈vs) (h:rdF K mg xp W (iD t vs items cond it2 us t2 cond2 elt) σ H Q) :
  tLc2 (rdI K mg xp W items) (rdG K xp t) (rdT K mg xp W0 cond) (rdI K mg xp W0 it2) (rdG K xp t2) (rdT K mg xp W0 cond2) (rdE K mg xp W0 elt) vs us σ H Q:=by
 obtain ⟨ρ,O,R,q⟩:=h
 refine ⟨ρ,O,R,(End.bind q).imp λds H1 _ s1 q1 J G hG wk D hD => ?_⟩
 cases ec:l2L t cond it2 us t2 cond2 elt (aJ ρ vs) ds [] with
 | ex x=>rw [ec] at q1; exact q1.elim
 | bad=>rw [ec] at q1; exact q1.elim
 | ok ys =>
 rw [ec] at q1
 have R1:=R.mono s1
 have ylen:=tX ec (cy _)
 let Pv:Nat→Hp→Prop:=λi H'=>Same H1 H'∧G (msk H' (D::O)) ∧ ∃ acc va,H' D=some (.lst va)∧aj K (msk H' (D::O)) va acc∧acc.length≤LIM∧l2L t cond it2 us t2 cond2 elt (aJ ρ vs) (ds.drop i) acc = .ok ys
 refine ⟨λi m H'=>m=ds.length-i∧i≤ds.length∧Pv i H',⟨ds.length,by simp,cy _,a0 hD,?_,[],[],aS,.nil,cy _,ec⟩,?_⟩
 ·rw [dC]
  exact wk.mono _ _ hG (dZ hD (Sm.refl _))
 ·rintro i m H' ⟨rfl,hi,s',g',acc,va,hl,hda,hla,hc⟩
  by_cases hlt:i<ds.length
  ·refine .inr ⟨wk.goes i H' _ hlt g',Pv (i+1),λH2 p2=>⟨ds.length-(i+1),by omega,rfl,hlt,p2⟩,λx H2 y => ?_⟩
   have hD':H' D≠none:=by rw [hl]; exact Option.some_ne_none _
   have R':Rel K xp (wipe σ vs) H' (aJ ρ vs) (D::O):=(jU R1 vs).grow hD s' hD'
   obtain ⟨s2,d,e1,hd⟩:=wk.yields i H' _ x H2 hlt g' R'.thr y
   rw [fu hlt] at hc
   have e2:ds[i]=d:=by
    rw [List.getElem?_eq_getElem hlt] at e1
    exact bQ e1
   rw [e2] at hc
   unfold l2L at hc
   obtain ⟨ρ1,a1,hc⟩:=ae hc
   obtain ⟨b,a2,hc⟩:=ae hc
   have a2:=eO a2
   have hl2:=s2 _ _ hl
   refine ⟨aJ ρ vs,D::O,d,ρ1,R'.mono s2,hd,a1,λσ2 R2 wp => ?_⟩
   have w2:wipe σ2 vs=wipe σ vs:=(wp vs ht).trans (jW λ_ h=>h)
   have fr:Fre σ2 ρ1 D:=PH R1 hD a1 w2
   refine ⟨w2,ρ1,D::O,R2,?_⟩
   rw [a2]
   intro H3 s3
   have hl3:=s3 _ _ hl2
   have g3:G (msk H3 (D::O)):=wk.mono _ _ g' (aH (s2.trans s3).sm)
   have s13:Same H1 H3:=s'.trans (s2.trans s3)
   have hda3:=bj (aH (O:=D::O) (s2.trans s3).sm) hda
   cases b with
   | true =>
    rw [if_pos rfl] at hc
    refine iteT ?_
    obtain ⟨es,a3,hc⟩:=ae hc
    obtain ⟨acc2,a4,hc⟩:=ae hc
    have a3:=eO a3
    have R3:=R2.mono s3
    refine ⟨ρ1,D::O,R3,?_⟩
    rw [a3]
    intro H4 s4 L G2 hG2 wk2
    let Pw:Nat→Hp→Prop:=λj H'=>Same H1 H'∧G (msk H' (D::O))∧G2 (msk H' (D::O))∧Rel K xp σ2 H' ρ1 (D::O) ∧ ∃ ac vb,H' D=some (.lst vb)∧aj K (msk H' (D::O)) vb ac∧ac.length≤LIM∧l1L t2 cond2 elt (aJ ρ1 us) (es.drop j) ac = .ok acc2
    refine ⟨λj k H'=>k=es.length-j∧j≤es.length∧Pw j H',⟨es.length,by simp,cy _,s13.trans s4,wk.mono _ _ g3 (aH s4.sm),hG2,R3.mono s4,acc,va,s4 _ _ hl3,bj (aH s4.sm) hda3,hla,a4⟩,?_⟩
    rintro j k H5 ⟨rfl,hj,s5,g5,g6,R5,ac,vb,hl5,hd5,la5,hc5⟩
    by_cases jlt:j<es.length
    ·refine .inr ⟨wk2.goes j H5 _ jlt g6,Pw (j+1),λH6 p6=>⟨es.length-(j+1),by omega,rfl,jlt,p6⟩,λx2 H6 y6 => ?_⟩
     obtain ⟨s6,d2,e3,hd2⟩:=wk2.yields j H5 _ x2 H6 jlt g6 R5.thr y6
     rw [fu jlt] at hc5
     have e4:es[j]=d2:=by
      rw [List.getElem?_eq_getElem jlt] at e3
      exact bQ e3
     rw [e4] at hc5
     unfold l1L at hc5
     obtain ⟨ρ2,b1,hc5⟩:=ae hc5
     obtain ⟨b2,b3,hc5⟩:=ae hc5
     have b3:=eO b3
     have R6:Rel K xp (wipe σ2 us) H6 (aJ ρ1 us) (D::O):=(jU R5 us).mono s6
     refine ⟨aJ ρ1 us,D::O,d2,ρ2,R6,hd2,b1,λσ3 R7 wp2=>⟨(wp2 us ht2).trans (jW λ_ h=>h),ρ2,D::O,R7,?_⟩⟩
     rw [b3]
     intro H7 s7
     have s57:=s6.trans s7
     have hl7:=s57 _ _ hl5
     have g7:G (msk H7 (D::O)):=wk.mono _ _ g5 (aH s57.sm)
     have g8:G2 (msk H7 (D::O)):=wk2.mono _ _ g6 (aH s57.sm)
     have s17:Same H1 H7:=s5.trans s57
     have R8:Rel K xp σ2 H7 ρ1 (D::O):=R5.mono s57
     have hd7:=bj (aH (O:=D::O) s57.sm) hd5
     cases b2 with
     | true =>
      rw [if_pos rfl] at hc5
      refine iteT ?_
      obtain ⟨yy,c1,hc5⟩:=ae hc5
      by_cases lq:ac.length<LIM
      ·rw [if_pos lq] at hc5
       refine L8 (R7.mono s7) hl7 hd7 lq (eO c1) λH8 v s8 hd8=>⟨Same.gE (s17.trans s8) hD (s8 _ _ hl7),?_,?_,?_,ac++[yy],vb++[v],aS,?_,by rw [cx]; exact lq,hc5⟩
       ·rw [dC]
        exact wk.mono _ _ g7 (aH s8.sm)
       ·rw [dC]
        exact wk2.mono _ _ g8 (aH s8.sm)
       ·exact Lq (R8.mono s8) fr (s8 _ _ hl7)
       ·rw [dC]; exact hd8
      ·rw [if_neg lq] at hc5; cases hc5
     | false =>
      rw [if_neg aa] at hc5
      refine iteF ?_
      exact ⟨s17,g7,g8,R8,ac,vb,hl7,hd7,la5,hc5⟩
    ·have e:j=es.length:=by omega
     subst e
     refine .inl ⟨wk2.stops H5 _ g6,?_⟩
     rw [jc] at hc5
     cases hc5
     exact ⟨s5,g5,_,vb,hl5,hd5,la5,hc⟩
   | false =>
    rw [if_neg aa] at hc
    refine iteF ?_
    exact ⟨s13,g3,acc,va,hl3,hda3,hla,hc⟩
  ·have e:i=ds.length:=by omega
   subst e
   refine .inl ⟨wk.stops H' _ g',?_⟩
   rw [jc] at hc
   cases hc
   exact q1 H' s' D va (s1.free hD) hl (by rw [aK hda]; exact hla) hda
end
section
variable {X:Cx} {xp:XP} {W:WX} {elt tg iter tg2 iter2:Expr} {ifs ifs2:List Expr} {scope:Scope} {own:List (Str × Nat)} {us:List Nat} {pos p:Pos} {t t2:Tg} {items it2:Sto→Rs (List D)} {cond cond2:Sto→Rs Bool} {fe:Sto→Rs D}
theorem GC (hc:X.calm=true) (hN:X.N.Nodup) (hi:CI X xp W tg iter items) (ok:BlkOk X.N X.env.scope scope own)
  (hg : ∀ (s:Shared) (H:Hp) (C:Addr) (cl:List (Str × Addr)) (fp:List Addr),CG (X.blk s H scope (compEnvC scope cl C X.env) fp) xp tg t)
  (ht : ∀ (s:Shared) (H:Hp) (C:Addr) (cl:List (Str × Addr)) (fp:List Addr),CTs (X.blk s H scope (compEnvC scope cl C X.env) fp) xp W0 ifs cond)
  (hu : ∀ i∈us,i∈own.map (·.2))
  (hi2 : ∀ (s:Shared) (H:Hp) (C:Addr) (cl:List (Str × Addr)) (fp:List Addr),CI (X.blk s H scope (compEnvC scope cl C X.env) fp) xp W0 tg2 iter2 it2)
  (hg2 : ∀ (s:Shared) (H:Hp) (C:Addr) (cl:List (Str × Addr)) (fp:List Addr),CG (X.blk s H scope (compEnvC scope cl C X.env) fp) xp tg2 t2)
  (ht2 : ∀ (s:Shared) (H:Hp) (C:Addr) (cl:List (Str × Addr)) (fp:List Addr),CTs (X.blk s H scope (compEnvC scope cl C X.env) fp) xp W0 ifs2 cond2)
  (he : ∀ (s:Shared) (H:Hp) (C:Addr) (cl:List (Str × Addr)) (fp:List Addr),CE (X.blk s H scope (compEnvC scope cl C X.env) fp) xp W0 elt fe)
  (hs : ∀ x,foldedSetIterable iter X.env x=pure x) (hs2 : ∀ e x,foldedSetIterable iter2 e x=pure x) (hts : ∀ i∈t.slots,i∈own.map (·.2)) (hts2 : ∀ i∈t2.slots,i∈us) :
  CF X xp W (.ListComp elt [⟨tg,iter,ifs,0⟩,⟨tg2,iter2,ifs2,0⟩] scope pos) (iD t (own.map (·.2)) items cond it2 us t2 cond2 fe):=
 bt (pe_lc2 hc hN hi ok hu hg ht hi2 hg2 ht2 he hs hs2) λ_ _ _ h=>Fx hts hts2 hu h
end
end Pf

set_option maxRecDepth 100000
set_option maxHeartbeats 1000000
namespace Pf
open PySem PySem.Spec PyProof.Rows L2
noncomputable abbrev bW (h:Heap) (z TI TO:Addr) (f0:Value) (b:Bool):Prop:=h.get? z=some { cls:=.type "zip",dict:=none,data:=.fields #[f0,.bool b,.bool true,.ref TI,.ref TO],slots:=#[] }
section
variable {prog:Program} {w:World} {A:Around} {E:Value→Shared→Prop} {s:Shared}
theorem oJ {it l:Addr} {i:Nat} {items:Array Value} {x:Value} {Q:Option Value→Shared→Prop} (h1:s.heap.IsListIter it l i) (h2:s.heap.IsList l items) (hx:items[i]? = some x)
  (q : ∀ h',h'.IsListIter it l (i+1)→Heap.SameBut it s.heap h'→Q (some x) { s with heap:=h' }):wpAny (model prog w) A (Builtin.SmallTypes.nextOrEnd (.ref it)) Q E s:=by
 unfold Builtin.SmallTypes.nextOrEnd
 exact af (wpAny_attempt (wpAny_nextOf_list_item h1 h2 hx λh' a b=>ah (q h' a b)))
theorem AS {it l:Addr} {i:Nat} {items:Array Value} {Q:Option Value→Shared→Prop} (hh:A.handled=none) (h1:s.heap.IsListIter it l i) (h2:s.heap.IsList l items) (hx:items[i]? = none)
  (q : ∀ h',Heap.ExtBut it s.heap h'→Q none { s with heap:=h' }):wpAny (model prog w) A (Builtin.SmallTypes.nextOrEnd (.ref it)) Q E s:=by
 unfold Builtin.SmallTypes.nextOrEnd
 refine af (wpAny_attempt (wpAny_nextOf_list_end hh h1 h2 hx λh' e k he => ?_))
 obtain ⟨o,ho,hc⟩:=he
 exact af (wpAny_isInstance (T:= "StopIteration") (b:=true) ⟨o,ho,hc⟩ isSubtype_stop (ah (q h' k)))
theorem J6 {α:Type} {Q:α→Shared→Prop} (hh:A.handled=none) (q : ∀ h' e,(∀ c o,s.heap.get? c=some o→h'.get? c=some o)→(∃ o,h'.get? e=some o∧o.cls = .type "StopIteration")→E (.ref e) { s with heap:=h' }) :
  wpAny (model prog w) A (Builtin.SmallTypes.stopIteration:Sem α) Q E s:=by
 unfold Builtin.SmallTypes.stopIteration
 refine af ?_
 simp only [newExc,newTuple]
 refine af (wpAny_newObj_type ?_ (by size_fits))
 refine af (m:=firstArgMember _ _) (wpAny_of_eq (a:=Value.none) (by first | rfl | (simp only [firstArgMember]; rfl)) ?_)
 refine wpAny_newObj_type ?_ (by size_fits)
 simp only [raiseNew]
 refine af (wpAny_handled ?_)
 rw [hh]
 refine af (ah (wpAny_throw ?_))
 exact q _ _ (λc o e=>aD _ (aD _ e)) ⟨_,bT _ rfl,rfl⟩
theorem HQ {z TI TO i1 i2 l1 l2:Addr} {k1 k2:Nat} {xs ys:Array Value} {a b:Value} {g:Bool} {Q:Fin→Shared→Prop} (hh:A.handled=none) (D:ZipApart z TI TO i1 i2 l1 l2)
  (hz:bW s.heap z TI TO .none g) (hTI:IsPair s.heap TI (.ref i1) (.ref i2)) (hTO:IsPair s.heap TO a b)
  (h1:s.heap.IsListIter i1 l1 k1) (h2:s.heap.IsListIter i2 l2 k2) (hl1:s.heap.IsList l1 xs) (hl2:s.heap.IsList l2 ys) (e1:xs[k1]? = none) (e2:ys[k2]? = none)
  (q : ∀ h' e,(∀ c o,c≠z→c≠i1→c≠i2→s.heap.get? c=some o→h'.get? c=some o)→(∃ o,h'.get? e=some o∧o.cls = .type "StopIteration")→E (.ref e) { s with heap:=h' }) :
  wpAny (model prog w) A (Builtin.«zip.__next__» ⟨[.ref z],[]⟩) Q E s:=by
 show wpAny _ _ (field (.ref z) 2 >>= _) _ _ _
 refine af (dH hz rfl (x:=.bool true) rfl ?_)
 show wpAny _ _ (field (.ref z) 3 >>= _) _ _ _
 refine af (dH hz rfl (x:=.ref TI) rfl ?_)
 refine af (fw hTI rfl ?_)
 show wpAny _ _ (Builtin.SmallTypes.ownedTupleIsFree (.ref z) >>= _) _ _ _
 refine af ?_
 unfold Builtin.SmallTypes.ownedTupleIsFree
 refine af (dH hz rfl (x:=.none) rfl (ah ?_))
 simp only [if_true]
 refine af (fR ?_)
 refine af (dH hz rfl (x:=.ref TO) rfl ?_)
 refine af (kq hz (by simp) λha hza hsa => ?_)
 replace hza:bW ha z TI TO .ellipsis g:=hza
 refine af ?_
 simp only [List.zipIdx_cons,List.zipIdx_nil,List.forIn_cons,List.forIn_nil]
 refine af (af (wpAny_onRaise ?_))
 show wpAny _ _ (Builtin.SmallTypes.nextOrEnd (.ref i1)) _ _ _
 refine AS hh (h1.extBut hsa.extBut D.i1z) (hl1.extBut hsa.extBut D.l1z) e1 λhb hsb => ?_
 have hzb:bW hb z TI TO .ellipsis g:=hsb _ _ D.i1z.symm hza
 dsimp only
 refine af (kq hzb (by simp) λhc hzc hsc => ?_)
 refine af ?_
 wp_delta
 simp only [List.drop_succ_cons,List.drop_zero,List.zipIdx_cons,List.zipIdx_nil,List.forIn_cons,List.forIn_nil]
 rw [if_neg (by decide)]
 have k2':hc.IsListIter i2 l2 k2:=(((h2.extBut hsa.extBut D.i2z).extBut hsb D.i12.symm).extBut hsc.extBut D.i2z)
 have kl2:hc.IsList l2 ys:=(((hl2.extBut hsa.extBut D.l2z).extBut hsb D.l2i1).extBut hsc.extBut D.l2z)
 refine af (af (af (AS (s:={ s with heap:=hc }) hh k2' kl2 e2 λhd hsd => ?_)))
 refine ah (ah (af (fR ?_)))
 exact J6 (s:={ s with heap:=hd }) hh λh' e k he=>q h' e (λc o c1 c2 c3 x=>k c o (hsd _ _ c3 (hsc.extBut _ _ c1 (hsb _ _ c2 (hsa.extBut _ _ c1 x))))) he
theorem Fm {z TI TO T:Addr} {f:Bool} {oT:Obj} {Q:Bool→Shared→Prop} (hz:bW s.heap z TI TO (rawInt T) f) (hT:s.heap.get? T=some oT)
  (h : ∀ h',bW h' z TI TO (rawInt T) true→Heap.SameBut z s.heap h'→Q false { s with heap:=h' }):wpAny (model prog w) A (Builtin.SmallTypes.ownedTupleIsFree (.ref z)) Q E s:=by
 unfold Builtin.SmallTypes.ownedTupleIsFree
 refine af (dH hz rfl (x:=rawInt T) rfl ?_)
 show wpAny _ _ (loadIfAlive ((T:Int).toNat) >>= _) _ _ _
 rw [Int.toNat_natCast]
 refine af (PySem.W.kdx_alive hT ?_)
 simp only [Option.isNone_some,cV,if_false]
 refine af (dH hz rfl (x:=.bool f) rfl ?_)
 cases f with
 | true=>exact ah (h s.heap hz (Heap.SameBut.refl _ _))
 | false =>
  refine af (kq hz (by simp) λha hza hsa => ?_)
  exact ah (h ha hza hsa)
theorem QH {z TI TO T i1 i2 l1 l2:Addr} {f:Bool} {oT:Obj} {k1 k2:Nat} {xs ys:Array Value} {x y:Value} {Q:Value→Shared→Prop} (D:ZipApart z TI TO i1 i2 l1 l2)
  (hz:bW s.heap z TI TO (rawInt T) f) (hT:s.heap.get? T=some oT) (hTI:IsPair s.heap TI (.ref i1) (.ref i2))
  (h1:s.heap.IsListIter i1 l1 k1) (h2:s.heap.IsListIter i2 l2 k2) (hl1:s.heap.IsList l1 xs) (hl2:s.heap.IsList l2 ys) (hx:xs[k1]? = some x) (hy:ys[k2]? = some y)
  (q : ∀ h',bW h' z TI TO (rawInt T) true→h'.IsListIter i1 l1 (k1+1)→h'.IsListIter i2 l2 (k2+1)→IsPair h' s.heap.objs.size x y →
   (∀ c o,c≠z→c≠i1→c≠i2→s.heap.get? c=some o→h'.get? c=some o)→Q (.ref s.heap.objs.size) { s with heap:=h' }) :
  wpAny (model prog w) A (Builtin.«zip.__next__» ⟨[.ref z],[]⟩) (λr s' => ∃ v,r = .done (.ret v)∧Q v s') E s:=by
 show wpAny _ _ (field (.ref z) 2 >>= _) _ _ _
 refine af (dH hz rfl (x:=.bool true) rfl ?_)
 show wpAny _ _ (field (.ref z) 3 >>= _) _ _ _
 refine af (dH hz rfl (x:=.ref TI) rfl ?_)
 refine af (fw hTI rfl ?_)
 show wpAny _ _ (Builtin.SmallTypes.ownedTupleIsFree (.ref z) >>= _) _ _ _
 refine af (Fm hz hT λha hza hsa => ?_)
 simp only [cV,if_false]
 refine af ?_
 rw [← Array.forIn_toList]
 simp only [List.forIn_cons,List.forIn_nil]
 refine af (af (bA ?_))
 show wpAny _ _ (Builtin.SmallTypes.nextOrEnd (.ref i1)) _ _ _
 refine oJ (s:={ s with heap:=ha }) (h1.extBut hsa.extBut D.i1z) (hl1.extBut hsa.extBut D.l1z) hx λhb h1b hsb => ?_
 dsimp only
 refine ah ?_
 refine af (af (bA ?_))
 show wpAny _ _ (Builtin.SmallTypes.nextOrEnd (.ref i2)) _ _ _
 have k2':hb.IsListIter i2 l2 k2:=(h2.extBut hsa.extBut D.i2z).extBut hsb.extBut D.i12.symm
 have kl2:hb.IsList l2 ys:=(hl2.extBut hsa.extBut D.l2z).extBut hsb.extBut D.l2i1
 refine oJ (s:={ s with heap:=hb }) k2' kl2 hy λhc h2c hsc => ?_
 dsimp only
 refine ah (ah ?_)
 show wpAny _ _ (newTuple [x,y] >>= _) _ _ _
 refine af (wpAny_newTuple ?_)
 have hsz:hc.objs.size=s.heap.objs.size:=by rw [hsc.1,hsb.1,hsa.1]
 have hzc:bW hc z TI TO (rawInt T) true:=hsc.extBut _ _ D.i2z.symm (hsb.extBut _ _ D.i1z.symm hza)
 have hk : ∀ c o,c≠z→c≠i1→c≠i2→s.heap.get? c=some o→hc.get? c=some o:=λc o c1 c2 c3 e=>hsc.extBut _ _ c3 (hsb.extBut _ _ c2 (hsa.extBut _ _ c1 e))
 have h1c:hc.IsListIter i1 l1 (k1+1):=h1b.extBut hsc.extBut D.i12
 refine ah ⟨_,rfl,?_⟩
 show Q (.ref hc.objs.size) _
 have hp:IsPair (hc.push { cls:=.type "tuple",data:=.seq #[x,y] }) hc.objs.size x y:=bT _ rfl
 rw [hsz] at hp ⊢
 exact q _ (aD _ hzc) (h1c.at λo e=>aD _ e) (h2c.at λo e=>aD _ e) hp λc o c1 c2 c3 e=>aD _ (hk c o c1 c2 c3 e)
theorem F3 {z TI TO i1 i2 l1 l2:Addr} {k1 k2:Nat} {xs ys:Array Value} {x y a b:Value} {g:Bool} {Q:Value→Shared→Prop} (D:ZipApart z TI TO i1 i2 l1 l2)
  (hz:bW s.heap z TI TO .none g) (hTI:IsPair s.heap TI (.ref i1) (.ref i2)) (hTO:IsPair s.heap TO a b)
  (h1:s.heap.IsListIter i1 l1 k1) (h2:s.heap.IsListIter i2 l2 k2) (hl1:s.heap.IsList l1 xs) (hl2:s.heap.IsList l2 ys) (hx:xs[k1]? = some x) (hy:ys[k2]? = some y)
  (q : ∀ h',bW h' z TI TO (rawInt s.heap.objs.size) false→IsPair h' TO x y→h'.IsListIter i1 l1 (k1+1)→h'.IsListIter i2 l2 (k2+1)→IsPair h' s.heap.objs.size x y →
   (∀ c o,c≠z→c≠TO→c≠i1→c≠i2→s.heap.get? c=some o→h'.get? c=some o)→Q (.ref s.heap.objs.size) { s with heap:=h' }) :
  wpAny (model prog w) A (Builtin.«zip.__next__» ⟨[.ref z],[]⟩) (λr s' => ∃ v,r = .done (.ret v)∧Q v s') E s:=by
 show wpAny _ _ (field (.ref z) 2 >>= _) _ _ _
 refine af (dH hz rfl (x:=.bool true) rfl ?_)
 show wpAny _ _ (field (.ref z) 3 >>= _) _ _ _
 refine af (dH hz rfl (x:=.ref TI) rfl ?_)
 refine af (fw hTI rfl ?_)
 show wpAny _ _ (Builtin.SmallTypes.ownedTupleIsFree (.ref z) >>= _) _ _ _
 refine af ?_
 unfold Builtin.SmallTypes.ownedTupleIsFree
 refine af (dH hz rfl (x:=.none) rfl (ah ?_))
 simp only [if_true]
 refine af (fR ?_)
 refine af (dH hz rfl (x:=.ref TO) rfl ?_)
 refine af (kq hz (by simp) λha hza hsa => ?_)
 replace hza:bW ha z TI TO .ellipsis g:=hza
 refine af ?_
 simp only [List.zipIdx_cons,List.zipIdx_nil,List.forIn_cons,List.forIn_nil]
 refine af (af (wpAny_onRaise ?_))
 show wpAny _ _ (Builtin.SmallTypes.nextOrEnd (.ref i1)) _ _ _
 refine oJ (h1.extBut hsa.extBut D.i1z) (hl1.extBut hsa.extBut D.l1z) hx λhb h1b hsb => ?_
 dsimp only
 have hTOb:IsPair hb TO a b:=hsb.extBut _ _ D.TOi1 (hsa.extBut _ _ D.TOz hTO)
 refine af (fw hTOb rfl ?_)
 refine af (wpAny_updateSeq_pair hTOb λhc hTOc hsc => ?_)
 replace hTOc:IsPair hc TO x b:=hTOc
 refine af (wpAny_letGo (ah ?_))
 refine af (af (wpAny_onRaise ?_))
 show wpAny _ _ (Builtin.SmallTypes.nextOrEnd (.ref i2)) _ _ _
 have k2':hc.IsListIter i2 l2 k2:=((h2.extBut hsa.extBut D.i2z).extBut hsb.extBut D.i12.symm).extBut hsc.extBut D.TOi2.symm
 have kl2:hc.IsList l2 ys:=((hl2.extBut hsa.extBut D.l2z).extBut hsb.extBut D.l2i1).extBut hsc.extBut D.l2TO
 refine oJ (s:={ s with heap:=hc }) k2' kl2 hy λhd h2d hsd => ?_
 dsimp only
 have hTOd:IsPair hd TO x b:=hsd.extBut _ _ D.TOi2 hTOc
 refine af (fw hTOd rfl ?_)
 refine af (wpAny_updateSeq_pair hTOd λhe hTOe hse => ?_)
 replace hTOe:IsPair he TO x y:=hTOe
 refine af (wpAny_letGo (ah (ah ?_)))
 refine af (fw hTOe rfl ?_)
 refine af (wpAny_newTuple ?_)
 have hsz:he.objs.size=s.heap.objs.size:=by rw [hse.1,hsd.1,hsc.1,hsb.1,hsa.1]
 have hze:bW he z TI TO .ellipsis g:=hse.extBut _ _ D.TOz.symm (hsd.extBut _ _ D.i2z.symm (hsc.extBut _ _ D.TOz.symm (hsb.extBut _ _ D.i1z.symm hza)))
 have hk : ∀ c o,c≠z→c≠TO→c≠i1→c≠i2→s.heap.get? c=some o→he.get? c=some o:=λc o c1 c2 c3 c4 e =>
  hse.extBut _ _ c2 (hsd.extBut _ _ c4 (hsc.extBut _ _ c2 (hsb.extBut _ _ c3 (hsa.extBut _ _ c1 e))))
 have h1e:he.IsListIter i1 l1 (k1+1):=((h1b.extBut hsc.extBut D.TOi1.symm).extBut hsd.extBut D.i12).extBut hse.extBut D.TOi1.symm
 have h2e:he.IsListIter i2 l2 (k2+1):=h2d.extBut hse.extBut D.TOi2.symm
 have zlt:z<he.objs.size:=bD hze
 show wpAny _ _ (Builtin.SmallTypes.ownedTupleHandOut (.ref z) (.ref he.objs.size) >>= _) _ _ _
 refine af ?_
 unfold Builtin.SmallTypes.ownedTupleHandOut
 have hzf:bW (he.push { cls:=.type "tuple",data:=.seq #[x,y] }) z TI TO .ellipsis g:=aD _ hze
 refine af (kq hzf (by simp) λhg hzg hsg => ?_)
 replace hzg:bW hg z TI TO (rawInt he.objs.size) g:=hzg
 refine kq hzg (by simp) λhi hzi hsi => ?_
 replace hzi:bW hi z TI TO (rawInt he.objs.size) false:=hzi
 have up : ∀ c o,c≠z→he.get? c=some o→hi.get? c=some o:=λc o c1 e=>hsi.extBut _ _ c1 (hsg.extBut _ _ c1 (aD _ e))
 have hTi:IsPair hi he.objs.size x y:=hsi.extBut _ _ (fS zlt) (hsg.extBut _ _ (fS zlt) (bT _ rfl))
 rw [hsz] at hzi hTi
 refine ah ⟨_,rfl,?_⟩
 show Q (.ref he.objs.size) _
 rw [hsz]
 exact q hi hzi (up _ _ D.TOz hTOe) (h1e.at λo e=>up _ o D.i1z e) (h2e.at λo e=>up _ o D.i2z e) hTi λc o c1 c2 c3 c4 e=>up c o c1 (hk c o c1 c2 c3 c4 e)
theorem LS {z TI TO i1 i2 l1 l2:Addr} {k1 k2:Nat} {xs ys:Array Value} {x y a b:Value} {g:Bool} {Q:Option Value→Shared→Prop} (D:ZipApart z TI TO i1 i2 l1 l2)
  (hz:bW s.heap z TI TO .none g) (hTI:IsPair s.heap TI (.ref i1) (.ref i2)) (hTO:IsPair s.heap TO a b)
  (h1:s.heap.IsListIter i1 l1 k1) (h2:s.heap.IsListIter i2 l2 k2) (hl1:s.heap.IsList l1 xs) (hl2:s.heap.IsList l2 ys) (hx:xs[k1]? = some x) (hy:ys[k2]? = some y)
  (q : ∀ h',bW h' z TI TO (rawInt s.heap.objs.size) false→IsPair h' TO x y→h'.IsListIter i1 l1 (k1+1)→h'.IsListIter i2 l2 (k2+1)→IsPair h' s.heap.objs.size x y →
   (∀ c o,c≠z→c≠TO→c≠i1→c≠i2→s.heap.get? c=some o→h'.get? c=some o)→Q (some (.ref s.heap.objs.size)) { s with heap:=h' }) :
  wpAny (model prog w) A (pyNext (.ref z)) Q E s:=by
 have ht:s.TypeIs (.ref z) "zip":=⟨_,hz,rfl⟩
 unfold pyNext
 exact af (wpAny_attempt (wpAny_callSpecial?_slot (name:=Str.ofString "__next__") ht F.slot_zip_next (i7 F.slot_zip_next ht F.entry_zip_next
  (F3 D hz hTI hTO h1 h2 hl1 hl2 hx hy λh' a1 a2 a3 a4 a5 a6=>ah (q h' a1 a2 a3 a4 a5 a6)) (F.args_zip_next_1 _))))
theorem GR {z TI TO i1 i2 l1 l2:Addr} {k1 k2:Nat} {xs ys:Array Value} {a b:Value} {g:Bool} {Q:Option Value→Shared→Prop} (hh:A.handled=none) (D:ZipApart z TI TO i1 i2 l1 l2)
  (hz:bW s.heap z TI TO .none g) (hTI:IsPair s.heap TI (.ref i1) (.ref i2)) (hTO:IsPair s.heap TO a b)
  (h1:s.heap.IsListIter i1 l1 k1) (h2:s.heap.IsListIter i2 l2 k2) (hl1:s.heap.IsList l1 xs) (hl2:s.heap.IsList l2 ys) (e1:xs[k1]? = none) (e2:ys[k2]? = none)
  (q : ∀ h',(∀ c o,c≠z→c≠i1→c≠i2→s.heap.get? c=some o→h'.get? c=some o)→Q none { s with heap:=h' }):wpAny (model prog w) A (pyNext (.ref z)) Q E s:=by
 have ht:s.TypeIs (.ref z) "zip":=⟨_,hz,rfl⟩
 unfold pyNext
 refine af (wpAny_attempt (wpAny_callSpecial?_slot (name:=Str.ofString "__next__") ht F.slot_zip_next (i7 F.slot_zip_next ht F.entry_zip_next
  (HQ hh D hz hTI hTO h1 h2 hl1 hl2 e1 e2 λh' e k he => ?_) (F.args_zip_next_1 _))))
 obtain ⟨o,ho,hc⟩:=he
 exact af (wpAny_isInstance (T:= "StopIteration") (b:=true) ⟨o,ho,hc⟩ isSubtype_stop (ah (q _ k)))
theorem Jk {elts:List Expr} {x1:Nat} {pos:Pos} {z TI TO T:Addr} {Q:Unit→Shared→Prop} (hz:bW s.heap z TI TO (rawInt T) false)
  (q : ∀ h',bW h' z TI TO .none false→Heap.SameBut z s.heap h'→Q () { s with heap:=h' }):wpAny (model prog w) A (letOwnedTupleGo (.Tuple elts x1 pos) (.ref z) (.ref T)) Q E s:=by
 unfold letOwnedTupleGo
 refine af (wpAny_load hz ?_)
 show wpAny _ _ (if (["enumerate", "zip", "dict_itemiterator", "dict_reverseitemiterator", "odict_iterator", "itertools.zip_longest", "itertools.pairwise"].contains "zip" && (#[rawInt T,.bool false,.bool true,.ref TI,.ref TO]:Array Value)[0]? == some (rawInt T))=true then _ else _) Q E s
 rw [if_pos (by simp)]
 refine af (fR ?_)
 show wpAny _ _ (setField (.ref z) 0 .none) Q E s
 exact kq hz (by simp) λha hza hsa=>q ha hza hsa
theorem wg {z TI TO:Addr} {f0:Value} {g:Bool} {Q:Value→Shared→Prop} (hz:bW s.heap z TI TO f0 g) (h:Q (.ref z) s):wpAny (model prog w) A (pyIter (.ref z)) Q E s:=by
 have ht:s.TypeIs (.ref z) "zip":=⟨_,hz,rfl⟩
 refine wpAny_pyIter_slot ht F.slot_zip_iter (i7 F.slot_zip_iter ht F.entry_zip_iter ?_ (F.args_zip_iter_1 _))
 show wpAny _ _ (ret (.ref z)) _ _ s
 exact ah ⟨_,rfl, "zip",_,ht,F.slot_zip_next.lookup,h⟩
end
noncomputable abbrev zsH (h:Heap) (l1 l2:Addr):Heap:=(zipH4 h l1 l2).push { cls:=.type "zip",data:=.fields #[.none,.bool false,.bool true,.ref (zipH2 h l1 l2).objs.size,.ref (zipH3 h l1 l2).objs.size] }
theorem DV (a b:Value):checkTypeCall "zip" ⟨[a,b],[(Str.ofString "strict",.bool true)]⟩=pure ():=by kernel_rfl
theorem Om (a b:Value):checkBuiltinCall "zip.__new__" ⟨[.type "zip",a,b],[(Str.ofString "strict",.bool true)]⟩=pure ():=by kernel_rfl
theorem MA (o a b:Value):argsOk "object.__init__" ⟨[o,a,b],[(Str.ofString "strict",.bool true)]⟩:=by unfold argsOk; kernel_rfl
theorem KC (l1 l2:Addr) (xs ys:Array Value) :
  Meets (Builtin.«zip.__new__» ⟨[.type "zip",.ref l1,.ref l2],[(Str.ofString "strict",.bool true)]⟩) (λ_ R s=>s.heap.IsList l1 xs∧s.heap.IsList l2 ys∧R (.ok (.ret (.ref (zipH4 s.heap l1 l2).objs.size))) { s with heap:=zsH s.heap l1 l2 }):=
 .of_wp λprog w A R s h=>by
  obtain ⟨hp,g,d,tk,os⟩:=s; obtain ⟨hl1,hl2,h⟩:=h
  have hsub:=sub_zip
  have hL1:Heap.IsList (Shared.heap ⟨hp,g,d,tk,os⟩) l1 xs:=hl1
  have hL2:Heap.IsList (Shared.heap ⟨hp.push { cls:=.type "list_iterator",data:=.fields #[.ref l1,.int 0 0] },g,d,tk,os⟩) l2 ys:=Heap.IsList.push hl2 _
  have e2:(Str.ofString "strict" != ("strict" : Str))=false:=by decide +kernel
  wp_walk using kj hL1,kj hL2
  exact ⟨_,rfl,h⟩
end Pf

set_option maxRecDepth 100000
set_option maxHeartbeats 1000000
namespace Pf
open PySem PySem.Spec PyProof.Rows L2
section
variable {xs ys:Array Value} {z TI TO i1 i2 l1 l2 S:Addr} {i:Nat} {h h':Heap}
end
section
variable {prog:Program} {w:World} {A:Around} {E:Value→Shared→Prop} {s:Shared} {xs ys:Array Value} {z TI TO i1 i2 l1 l2 S:Addr}
variable {R:Result→Shared→Prop}
end
section
variable {prog:Program} {w:World} {A:Around} {E:Value→Shared→Prop} {s:Shared} {xs ys:Array Value} {z TI TO i1 i2 l1 l2 S:Addr} {R:Result→Shared→Prop}
end
end Pf

set_option maxRecDepth 100000
set_option maxHeartbeats 1000000
namespace Pf
open PySem PySem.Spec PyProof.Rows L2
section
variable {M:Model} {A:Around} {E:Value→Shared→Prop} {s:Shared} {env:Env}
theorem Gb {pos:Pos} {T:String} {e:Expr} {rest:List Expr} {kws:List Keyword} {Q:Value→Shared→Prop}
  (h:wpAny M A (spliced (backTo pos (starEach (e::rest) env))) (λvs s1=>wpAny M A (evalAll ((backToKw pos (keywordEach kws env)).map (·.2))) (λkvs s2=>wpAny M A (call (.type T) vs (((backToKw pos (keywordEach kws env)).filterMap (·.1)).zip kvs)) Q E s2) E s1) E s)
  (he:backTo pos (starEach (e::rest) env)=(false,eval e env)::backTo pos (starEach rest env)) (hp:(backTo pos (starEach (e::rest) env)).any (·.1)=false)
  (ha:(backToKw pos (keywordEach kws env)).all (·.1.isSome)=true) (hk:(backToKw pos (keywordEach kws env)).any (·.1.isNone)=false) :
  wpAny M A (callWith pos (.type T) [] (backTo pos (starEach (e::rest) env)) (backToKw pos (keywordEach kws env))) Q E s:=by
 have ev:wpAny M A (evalArgs (.type T) true (backTo pos (starEach (e::rest) env)) (backToKw pos (keywordEach kws env))) (λa s1=>wpAny M A (call (.type T) ([]++a.pos) a.kw) Q E s1) E s:=by
  rw [he] at h ⊢
  exact evalArgs_kwB ha h
 unfold callWith
 refine af (bA (wpAny_mono ev (λa s1 h1=>af (wpAny_standAt ?_)) λ_ _ x=>x))
 simp only [hp,hk,Bool.or_false]
 refine af (ah ?_)
 exact af (wpAny_mono h1 (λr s2 hr=>af (bA (wpAny_point (ah hr)))) λ_ _ x=>x)
end
section
variable {prog:Program} {w:World} {A:Around} {E:Value→Shared→Prop} {s:Shared}
theorem Ff {l1 l2:Addr} {xs ys:Array Value} {Q:Value→Shared→Prop} (hl1:s.heap.IsList l1 xs) (hl2:s.heap.IsList l2 ys)
  (q : ∀ h',bW h' (s.heap.objs.size+4) (s.heap.objs.size+2) (s.heap.objs.size+3) .none false→IsPair h' (s.heap.objs.size+2) (.ref s.heap.objs.size) (.ref (s.heap.objs.size+1))→IsPair h' (s.heap.objs.size+3) .none .none →
   h'.IsListIter s.heap.objs.size l1 0→h'.IsListIter (s.heap.objs.size+1) l2 0→h'.objs.size=s.heap.objs.size+5→(∀ c o,s.heap.get? c=some o→h'.get? c=some o)→Q (.ref (s.heap.objs.size+4)) { s with heap:=h' }) :
  wpAny (model prog w) A (call (.type "zip") [.ref l1,.ref l2] [(Str.ofString "strict",.bool true)]) Q E s:=by
 refine callType_newKw F.called_zip (by decide) (DV _ _) (Om _ _) (λobj=>MA obj _ _) F.entry_zip_new (KC l1 l2 xs ys) ⟨hl1,hl2,?_⟩
 have z1:(zipH1 s.heap l1).objs.size=s.heap.objs.size+1:=cU ..
 have z2:(zipH2 s.heap l1 l2).objs.size=s.heap.objs.size+2:=by rw [cU,z1]
 have z3:(zipH3 s.heap l1 l2).objs.size=s.heap.objs.size+3:=by rw [cU,z2]
 have z4:(zipH4 s.heap l1 l2).objs.size=s.heap.objs.size+4:=by rw [cU,z3]
 have z5:(zsH s.heap l1 l2).objs.size=s.heap.objs.size+5:=by rw [cU,z4]
 have g5:(zsH s.heap l1 l2).get? (zipH4 s.heap l1 l2).objs.size=some _:=bT _ rfl
 have g4:(zsH s.heap l1 l2).get? (zipH3 s.heap l1 l2).objs.size=some _:=aD _ (bT _ rfl)
 have g3:(zsH s.heap l1 l2).get? (zipH2 s.heap l1 l2).objs.size=some _:=aD _ (aD _ (bT _ rfl))
 have g2:(zsH s.heap l1 l2).get? (zipH1 s.heap l1).objs.size=some _:=aD _ (aD _ (aD _ (bT _ rfl)))
 have g1:(zsH s.heap l1 l2).get? s.heap.objs.size=some _:=aD _ (aD _ (aD _ (aD _ (bT _ rfl))))
 show _∧_
 rw [z2,z3,z4] at g5
 rw [z1,z2] at g3
 rw [z3] at g4
 rw [z1] at g2
 rw [z4]
 exact ⟨⟨_,g5,rfl⟩,q _ g5 g3 g4 ⟨_,g1,rfl,rfl⟩ ⟨_,g2,rfl,rfl⟩ z5 λc o x=>aD _ (aD _ (aD _ (aD _ (aD _ x))))⟩
end
noncomputable def tu (K:PySem.W.Frag) (a b:Addr):It:=
 ⟨λi H => ∃ (xs ys:List V) (x y:V),SqL K H a xs∧SqL K H b ys∧xs[i]? = some x∧ys[i]? = some y,
  λi H v H' => ∃ T x y,v = .ref T∧H T=none∧H'=upd H T (.tup [x,y])∧(∀ xs,SqL K H a xs→xs[i]? = some x) ∧ ∀ ys,SqL K H b ys→ys[i]? = some y,
  λi H => ∃ xs ys:List V,SqL K H a xs∧SqL K H b ys∧xs.length≤i∧ys.length≤i⟩
theorem PD {P:Program} {w:World} {K:PySem.W.Frag} {elts:List Expr} {kk:Nat} {tpos:Pos} {a b z TI TO i1 i2:Addr} (D:ZipApart z TI TO i1 i2 a b) :
  Turn P w K (.Tuple elts kk tpos) (tu K a b) [z,TI,TO,i1,i2] z (λi h=>bW h z TI TO .none false∧IsPair h TI (.ref i1) (.ref i2)∧(∃ x y,IsPair h TO x y)∧h.IsListIter i1 a i∧h.IsListIter i2 b i) where
 mem:=by simp
 obj:=λi h st c hc=>by
  obtain ⟨hz,hTI,⟨x,y,hTO⟩,⟨o1,e1,_,d1⟩,⟨o2,e2,_,d2⟩⟩:=st
  have e':c=z∨c=TI∨c=TO∨c=i1∨c=i2:=by simpa using hc
  rcases e' with q | q | q | q | q <;> rw [q]
  ·exact ⟨_,hz,λv q=>nomatch q⟩
  ·exact ⟨_,hTI,λv q=>nomatch q⟩
  ·exact ⟨_,hTO,λv q=>nomatch q⟩
  ·exact ⟨o1,e1,λv q=>by rw [d1] at q; cases q⟩
  ·exact ⟨o2,e2,λv q=>by rw [d2] at q; cases q⟩
 keep:=λi h h' st k=>by
  obtain ⟨hz,hTI,⟨x,y,hTO⟩,h1,h2⟩:=st
  exact ⟨k z (by simp) _ hz,k TI (by simp) _ hTI,⟨x,y,k TO (by simp) _ hTO⟩,h1.at λo q=>k i1 (by simp) o q,h2.at λo q=>k i2 (by simp) o q⟩
 item:=by
  intro X hP hw hK hc i pins s σ H E I hf st hg
  subst hP hw hK
  obtain ⟨hz,hTI,⟨x0,y0,hTO⟩,h1,h2⟩:=st
  obtain ⟨xs,ys,x,y,hqx,hqy,hx,hy⟩:=hg
  obtain ⟨its,rv,p,_⟩:=I.list hqx
  obtain ⟨its2,rv2,p2,_⟩:=I.list hqy
  obtain ⟨u,hu,ru⟩:=rv.get hx
  obtain ⟨u2,hu2,ru2⟩:=rv2.get hy
  have hzl:z<s.heap.objs.size:=bD hz
  refine LS D hz hTI hTO h1 h2 p.isList p2.isList (x:=u) (y:=u2) (by simpa using hu) (by simpa using hu2) λh' z' TO' h1' h2' hT hk => ?_
  refine ⟨_,rfl,Jk (s:={ s with heap:=h' }) z' λh'' z'' sb => ?_⟩
  have hT2:h''.get? s.heap.objs.size=some { cls:=.type "tuple",data:=.seq #[u,u2] }:=(sb.2 _ (fS hzl)).trans hT
  have new:ObjOk X.prog X.w (upd H s.heap.objs.size (.tup [x,y])) h'' s.heap.objs.size (.tup [x,y]):=⟨by show 2≤sizeLine; decide,[u,u2],.cons ru (.cons ru2 .nil),⟨_,hT2,rfl,_,rfl⟩⟩
  have I1:Inv X pins σ (upd H s.heap.objs.size (.tup [x,y])) { s with heap:=h'' }:=
   I.turnedNew (t':=s.toks) (ch:=[z,TI,TO,i1,i2]) (λc o hb q=>(sb.2 c (λq'=>hb (by simp [q']))).trans (hk c o (λq'=>hb (by simp [q'])) (λq'=>hb (by simp [q'])) (λq'=>hb (by simp [q'])) (λq'=>hb (by simp [q'])) q)) hf (aC _) new
  refine ⟨.ref s.heap.objs.size,_,I1,rfl,⟨_,x,y,rfl,I.hok.fresh (aC _),rfl,λl hl=>by rw [I.list_inj hl hqx]; exact hx,λl hl=>by rw [I.list_inj hl hqy]; exact hy⟩,⟨z'',?_,⟨u,u2,?_⟩,?_,?_⟩,λc hcm => ?_⟩
  ·exact (sb.2 _ D.TIz).trans (hk _ _ D.TIz D.TITO D.TIi1 D.TIi2 hTI)
  ·exact (sb.2 _ D.TOz).trans TO'
  ·exact h1'.at λo q=>(sb.2 _ D.i1z).trans q
  ·exact h2'.at λo q=>(sb.2 _ D.i2z).trans q
  ·have hlt:c<s.heap.objs.size:=by
    have e':c=z∨c=TI∨c=TO∨c=i1∨c=i2:=by simpa using hcm
    rcases e' with q | q | q | q | q <;> rw [q]
    ·exact hzl
    ·exact bD hTI
    ·exact bD hTO
    ·obtain ⟨_,e1,_⟩:=h1; exact bD e1
    ·obtain ⟨_,e2,_⟩:=h2; exact bD e2
   rw [ax (bU hlt)]
   exact (hf c hcm).1
 done:=by
  intro X hP hw hK hc i pins s σ H E I hf st hg
  subst hP hw hK
  obtain ⟨hz,hTI,⟨x0,y0,hTO⟩,h1,h2⟩:=st
  obtain ⟨xs,ys,hqx,hqy,q1,q2⟩:=hg
  obtain ⟨its,rv,p,_⟩:=I.list hqx
  obtain ⟨its2,rv2,p2,_⟩:=I.list hqy
  have l1:=rv.length
  have l2:=rv2.length
  exact GR (I.ok.hd hc) D hz hTI hTO h1 h2 p.isList p2.isList (by simp; omega) (by simp; omega) λh' hk=>⟨rfl,I.turnedL (t':=s.toks) (ch:=[z,TI,TO,i1,i2]) (λc o hb q =>
   hk c o (λq'=>hb (by simp [q'])) (λq'=>hb (by simp [q'])) (λq'=>hb (by simp [q'])) q) hf⟩
 self:=λA i s Q E st h=>wg st.1 h
section
variable {X:Cx} {e e2:Expr} {ta:TA} {p pos p3 cp:Pos} {j:Nat}
noncomputable abbrev kwT (j:Nat) (cp p3:Pos):List Keyword:=[⟨some "strict",.Constant (.bool true) j cp,p3⟩]
theorem Fi {pins:List (Addr × Obj)} {s:Shared} {σ:L2.St} {H:Hp} {E:Value→Shared→Prop} {Q:Value→Shared→Prop} {R:List V→Hp→Prop} (hE:E=X.xe) (I:Inv X pins σ H s) (hg:Gl X "zip") (hm:X.mg "zip" = none) (ha:L2.PA X [e,e2] ta)
  (hs:starEach [e,e2] X.env=(false,eval e X.env)::starEach [e2] X.env) (hpl:(backTo pos (starEach [e,e2] X.env)).any (·.1)=false) (h:ta σ H R)
  (q : ∀ (s1:Shared) (H1:Hp) (vs:List V) (us:List Value),Inv X pins σ H1 s1→Vals vs us→R vs H1→wpAny (model X.prog X.w) X.A (call (.type "zip") us [(Str.ofString "strict",.bool true)]) Q E s1) :
  wpAny (model X.prog X.w) X.A (eval (.Call (.Name "zip" p) [e,e2] (kwT j cp p3) pos) X.env) Q E s:=by
 subst hE
 refine j_ (ld_blt I hg hm PyProof.Rows.boot_zip ?_)
 refine Gb (thn (ha.run pos pins s σ H _ I h) λus s1 ⟨vs,H1,I1,r1,q1⟩ => ?_) (by rw [hs]; rfl) hpl rfl rfl
 exact kws_cons (Constant_bool (kws_nil (q s1 H1 vs us I1 r1 q1)))
noncomputable def GB (K:PySem.W.Frag) (ta:TA):TI:=λσ H R=>ta σ H λvs H1 => ∃ a b xs ys,vs=[.ref a,.ref b]∧SqL K H1 a xs∧SqL K H1 b ys∧R (tu K a b) H1
theorem D0 {tpos:Pos} {elts:List Expr} {kk:Nat} (hg:Gl X "zip") (hm:X.mg "zip" = none) (ha:L2.PA X [e,e2] ta)
  (hs:starEach [e,e2] X.env=(false,eval e X.env)::starEach [e2] X.env) (hpl:(backTo pos (starEach [e,e2] X.env)).any (·.1)=false) :
  PI X (.Tuple elts kk tpos) (.Call (.Name "zip" p) [e,e2] (kwT j cp p3) pos) (GB X.K ta):=by
 refine ⟨λpins s σ H R I h => ?_⟩
 refine Fi rfl I hg hm ha hs hpl h λs1 H1 vs us I1 r1 q1 => ?_
 obtain ⟨a,b,xs,ys,rfl,hqx,hqy,q⟩:=q1
 cases r1 with
 | cons r rr =>
  cases rr with
  | cons r' rr =>
   cases rr
   cases r
   cases r'
   obtain ⟨its,rv,p1,_⟩:=I1.list hqx
   obtain ⟨its2,rv2,p2,_⟩:=I1.list hqy
   have la:a<s1.heap.objs.size:=p1.lt
   have lb:b<s1.heap.objs.size:=p2.lt
   refine Ff p1.isList p2.isList λh' hz hTI hTO h1 h2 hsz hk=>wg hz ?_
   have I2:Inv X pins σ H1 { s1 with heap:=h' }:=I1.kept (t':=s1.toks) hk
   refine ⟨s1.heap.objs.size+4,[s1.heap.objs.size+4,s1.heap.objs.size+2,s1.heap.objs.size+3,s1.heap.objs.size,s1.heap.objs.size+1],_,_,H1,rfl,I2,PD (PySem.W.ktu_apart s1.heap.objs.size a b la lb),⟨hz,hTI,⟨_,_,hTO⟩,h1,h2⟩,λc hcm => ?_,q⟩
   have e':c=s1.heap.objs.size+4∨c=s1.heap.objs.size+2∨c=s1.heap.objs.size+3∨c=s1.heap.objs.size∨c=s1.heap.objs.size+1:=by simpa using hcm
   have hle:s1.heap.objs.size≤c:=by
    rcases e' with z | z | z | z | z <;> rw [z] <;> first | exact Nat.le_add_right _ _ | exact aC _
   exact I1.fpOk hle (I1.hok.fresh hle)
end
section
variable {X:Cx}
end
end Pf

set_option maxRecDepth 100000
namespace Pf
open PySem PySem.Spec PyProof.Rows L2
noncomputable def eN (xs ys:List D):List D:=(xs.zip ys).map λq => .tuple [q.1,q.2]
noncomputable def lS:D→D→Rs (List D)
 | .list xs,.list ys=>if xs.length=ys.length then .ok (eN xs ys) else .bad
 | _,_ => .bad
theorem o6 {xs ys:List D} (h:xs.length=ys.length):(eN xs ys).length=xs.length:=by
 unfold eN
 rw [aq,List.length_zip,h,Nat.min_self]
theorem tP {xs ys:List D} {i:Nat} {x y:D} (h1:xs[i]? = some x) (h2:ys[i]? = some y):(eN xs ys)[i]? = some (.tuple [x,y]):=by
 unfold eN
 have e:(xs.zip ys)[i]? = some (x,y):=by
  rw [List.getElem?_zip_eq_some]
  exact ⟨h1,h2⟩
 rw [List.getElem?_map,e]
 rfl
theorem PB {K:PySem.W.Frag} {a b:Addr} {vs ws:List V} {ds es:List D} (hl:ds.length=es.length):dq K (tu K a b) (eN ds es) (λF=>(RL K F a vs∧aj K F vs ds)∧RL K F b ws∧aj K F ws es) where
 mono:=λF F' h s=>⟨⟨Sm.rl s h.1.1,bj s.sm h.1.2⟩,Sm.rl s.sm h.2.1,bj s.sm h.2.2⟩
 goes:=λi H O hi h=>by
  rw [o6 hl] at hi
  have l1:=aK h.1.2
  have l2:=aK h.2.2
  exact ⟨vs,ws,vs[i]'(by omega),ws[i]'(by omega),(aQ h.1.1).sq,(aQ h.2.1).sq,List.getElem?_eq_getElem (by omega),List.getElem?_eq_getElem (by omega)⟩
 stops:=λH O h=>by
  have l1:=aK h.1.2
  have l2:=aK h.2.2
  rw [o6 hl]
  exact ⟨vs,ws,(aQ h.1.1).sq,(aQ h.2.1).sq,by omega,by omega⟩
 yields:=λi H O x H' hi h t y=>by
  obtain ⟨T,x1,x2,rfl,h2,rfl,h4,h5⟩:=y
  obtain ⟨d1,g1,g2⟩:=dN h.1.2 (h4 vs (aQ h.1.1).sq)
  obtain ⟨d2,k1,k2⟩:=dN h.2.2 (h5 ws (aQ h.2.1).sq)
  exact ⟨a0 h2,_,tP g1 k1,eZ t h2 (by show 2≤LIM; decide) (.cons g2 (.cons k2 .nil))⟩
section
variable {X:Cx} {xp:XP} {W:WX} {a b:Expr} {fa fb:Sto→Rs D} {p p0 p3 cp pos pos0:Pos} {j:Nat}
theorem Lc {elts:List Expr} {kk:Nat} {tpos:Pos} (hg:Gl X "zip") (hm:X.mg "zip" = none) (ha:CE X xp W a fa) (hb:CE X xp W b fb) (hs1:starEach [b] X.env=(false,eval b X.env)::starEach [] X.env) (hs:starEach [a,b] X.env=(false,eval a X.env)::starEach [b] X.env) :
  CI X xp W (.Tuple elts kk tpos) (.Call (.Name "zip" p) [a,b] (kwT j cp p3) pos) (λρ=>(fa ρ).bind λx=>(fb ρ).bind λy=>lS x y):=
 gJ (D0 hg hm (bG ha (bG hb cu hs1) hs) hs (by rw [hs,hs1]; rfl)) λσ H R ⟨ρ,O,rl,q⟩=>⟨ρ,O,rl,(End.bind q).imp λd H1 _ s k v hv=>⟨ρ,O,rl.mono s,(End.bind k).imp λd2 H2 _ s2 k2 v2 hv2=>by
  match d,hv,d2,hv2,k2 with
  | .list xs,.lst h1 h2 h3,.list ys,.lst g1 g2 g3,k2 =>
   obtain ⟨hl,k2⟩:=cO k2
   exact ⟨_,_,_,_,rfl,(aQ (Sm.rl (aH s2.sm) h1)).sq,(aQ g1).sq,k2 H2 (aM _) _ _ ⟨⟨Sm.rl (aH s2.sm) h1,bj (aH s2.sm) h3⟩,g1,g3⟩ (PB hl)⟩⟩⟩
noncomputable def A9 (x y:D):Rs D:=(lS x y).bind λds => .ok (.list ds)
end
end Pf

set_option maxRecDepth 100000
namespace Pf
open PySem PySem.Spec L2
noncomputable def isI:D→Bool
 | .int _=>true
 | _=>false
noncomputable def isS:D→Bool
 | .str _=>true
 | _=>false
noncomputable def LP (xs:List D) (y:D):Rs D:=match xs with
 | [] => .ok y
 | x::r=>if (x::r).all isI=true∨(x::r).all isS=true then .ok (PySem.W.minD x r) else .bad
noncomputable def xf (a b:Rs D):Rs D:=a.bind λd=>match d with
 | .list xs=>b.bind λy=>LP xs y
 | _ => .bad
section
variable {X:Cx} {xp:XP} {W:WX} {pins:List (Addr × Obj)} {σ:St} {H:Hp} {s:Shared}
end
end Pf

set_option maxRecDepth 100000
namespace Pf
open PySem PySem.Spec PyProof.Rows L2
noncomputable def bp (ks:List Int):List Int:=ks.foldl adI []
theorem vO (ks:List Int) (k:Int):bp (ks++[k])=adI (bp ks) k:=by
 unfold bp
 rw [List.foldl_append]
 rfl
theorem ET (acc:List Int) (k:Int):(adI acc k).length≤acc.length+1:=by
 rw [vS]
 split <;> omega
theorem vC : ∀ (ks acc:List Int),(ks.foldl adI acc).length≤acc.length+ks.length
 | [],acc=>aC _
 | k::ks,acc=>by
  have h1:=vC ks (adI acc k)
  have h2:=ET acc k
  show (ks.foldl adI (adI acc k)).length≤acc.length+(ks.length+1)
  omega
theorem Jn (ks:List Int):(bp ks).length≤ks.length:=by
 have:=vC ks []
 simpa [bp] using this
theorem BQ : ∀ (ks acc:List Int),acc.Nodup→(ks.foldl adI acc).Nodup
 | [],acc,h=>h
 | k::ks,acc,h=>BQ ks (adI acc k) (Kq k h)
theorem nU (ks:List Int):(bp ks).Nodup:=BQ ks [] List.nodup_nil
noncomputable abbrev gL (ks:List Int):Int→Bool:=λj=>decide (j∈bp ks)
section
variable {prog:Program} {w:World} {A:Around} {R:Result→Shared→Prop} {I S:Addr} {fp wr:List Addr} {G:Array GenState→Array GenState→Prop} {n:Nat} {P:Nat→Value→Prop} {St:Nat→Shared→Prop}
theorem L5 (W:WalksS prog w A.in1 I fp wr G n P St) (out:S∉fp) {ks:List Int} (len:ks.length=n) (few:n+1<scanBound)
  (at_ : ∀ i v,P i v → ∃ k,ks[i]? = some k∧RelV (.int k) v) :
  ∀ (left i:Nat) (s:Shared),n-i=left→i≤n→St i s→SetR w s.heap S (gL (ks.take i)) (bp (ks.take i)).length →
   (∀ s',Moved (S::wr) G s s'→SetR w s'.heap S (gL ks) (bp ks).length→R (.ok (.ret .none)) s') →
   codeAny (model prog w) A (.builtin "set.update.loop" ⟨[.ref S,.ref I],[]⟩) R s:=by
 have notW:S∉wr:=λz=>out (W.sub _ z)
 have wide : ∀ b∈wr,b∈S::wr:=λb z=>aE _ z
 intro left
 induction left with
 | zero =>
  intro i s e1 e2 st x fin
  obtain rfl:i=n:=by omega
  refine eR uN ?_
  rw [gY mx _]
  show wpAny _ A.in1 (pyNext (.ref I) >>= _) _ _ s
  refine af (W.done s _ _ st λs2 mv => ?_)
  show wpAny _ A.in1 (ret Value.none) _ _ s2
  rw [List.take_of_length_le (by omega)] at x
  exact ah (fin s2 (mv.mono wide) (x.at (mv.heap S · notW)))
 | succ left ih =>
  intro i s e1 e2 st x fin
  have lt:i<n:=by omega
  refine eR uN ?_
  rw [gY mx _]
  show wpAny _ A.in1 (pyNext (.ref I) >>= _) _ _ s
  refine af (W.item i s _ _ lt st λv s2 pv st2 mv => ?_)
  obtain ⟨k,ek,tk,rfl⟩:=at_ i v pv
  have x2:=x.at (mv.heap S · notW)
  show wpAny _ A.in1 (holding [Value.int k tk] (setAdd S (Value.int k tk)) >>= _) _ _ s2
  refine af (bA ?_)
  unfold setAdd
  refine bA (af ((intKind prog w).pyHash (k:=k) (intKind_is prog w k tk) ?_))
  have room:(bp (ks.take i)).length+1<scanBound:=by
   have h1:=Jn (ks.take i)
   have h2:(ks.take i).length≤n:=by rw [ez]; omega
   omega
  have tkk:ks.take (i+1)=ks.take i++[k]:=by rw [List.take_add_one,ek]; rfl
  refine setR_add_hashed (s:={ s2 with toks:=s2.toks+1 }) x2 room λh2 sb x3 => ?_
  have x4:SetR w h2 S (gL (ks.take (i+1))) (bp (ks.take (i+1))).length:=by
   rw [tkk,vO]
   have e1:(λj=>decide (j∈bp (ks.take i))||decide (j=k))=gL (ks.take i++[k]):=by
    show _=λj=>decide (j∈bp (ks.take i++[k]))
    rw [vO]
    exact Ki _ k
   have e2:(if decide (k∈bp (ks.take i))=true then (bp (ks.take i)).length else (bp (ks.take i)).length+1)=(adI (bp (ks.take i)) k).length:=(vS _ k).symm
   rw [← e1,← e2]
   exact x3
  refine ah ⟨plainId_quiet mx _,ih (i+1) _ (by omega) lt (W.frame _ s2 _ _ st2 (fj _) λb hb o e => ?_) x4 λs3 mv3 x5 => ?_⟩
  ·rw [sb.2 b (λz:b=S=>out (z ▸ hb))]; exact e
  ·refine fin s3 (Moved.trans W.gtrans ((mv.mono wide).then_heap (fj _) λb o hb e => ?_) mv3) x5
   rw [sb.2 b (λz:b=S=>hb (z ▸ bu))]; exact e
end
theorem wU : ∀ {ks:List Int} {us:List Value},Vals (ks.map V.int) us → ∀ (i:Nat) (v:Value),us[i]? = some v → ∃ k,ks[i]? = some k∧RelV (.int k) v
 | [],_,.nil,i,v,h=>by simp at h
 | k::ks,_,.cons r t,0,v,h=>⟨k,rfl,by
  simp only [List.getElem?_cons_zero,Option.some.injEq] at h
  rw [← h]
  exact r⟩
 | k::ks,_,.cons r t,i+1,v,h=>wU t i v (by simpa using h)
section
variable {prog:Program} {w:World} {A:Around} {E:Value→Shared→Prop} {s:Shared}
set_option maxHeartbeats 3200000 in
theorem O6 {l:Addr} {us:Array Value} {ks:List Int} {Q:Value→Shared→Prop} (calm:A.handled=none) (hl:s.heap.IsList l us) (rv:Vals (ks.map V.int) us.toList) (few:ks.length+1<scanBound)
  (fin : ∀ (h':Heap) (tk:Nat),SetR w h' s.heap.objs.size (gL ks) (bp ks).length→(∀ b o,b<s.heap.objs.size→s.heap.get? b=some o→h'.get? b=some o)→Q (.ref s.heap.objs.size) { s with heap:=h',toks:=tk }) :
  wpAny (model prog w) A (call (.type "set") [.ref l]) Q E s:=by
 have sz:ks.length=us.size:=by
  have:=rv.length
  rw [aq,bY] at this
  exact this
 obtain ⟨c,tl,k1⟩:=PySem.F.called_set.mro
 have k2:=PySem.F.called_set.made
 have k3:=PySem.F.called_set.sub
 refine eQ (codeAny_of_tree ?_)
 show wpAny _ _ (callAny (.type "set") _) _ _ _
 refine ah ⟨Code.quiet_builtin _ (by decide +kernel),eR PySem.F.entry_type_call ?_⟩
 rw [Around.under_plain (weight_type_call_type "set" [.ref l] []) rfl]
 have k4:=PySem.F.called_set.notType
 have k5:=PySem.F.called_set.canCreate
 have k6:=PySem.F.typeCall_set_1 (.ref l)
 repeat (any_goals (first | assumption | wp_step))
 let fresh:Bool→Obj:=λled=>{ cls:=.type "set",dict:=none,data:=.set #[] 0 (.fresh 0 0 led) }
 let ld:Bool:=!w.params.followText "set-order"
 refine dV (code_set_led1 (.ref l) (E:=E) (Q₁:=λob t=>ob = .ref s.heap.objs.size∧t={ s with heap:=s.heap.push (fresh ld) }) ⟨rfl,rfl⟩) λr t hr => ?_
 match r,hr with
 | .error e,hr=>exact hr
 | .ok .next,hr=>exact hr.elim
 | .ok .brk,hr=>exact hr.elim
 | .ok .cont,hr=>exact hr.elim
 | .ok (.ret ob),⟨e1,e2⟩ =>
  subst e1
  subst e2
  have new:(s.heap.push (fresh ld)).get? s.heap.objs.size=some (fresh ld):=bT _ rfl
  have ty:Shared.TypeIs { s with heap:=s.heap.push (fresh ld) } (.ref s.heap.objs.size) "set":=⟨_,new,rfl⟩
  have k7:=PySem.F.called_set.init.lookup
  have k8:=PySem.F.called_set.init.bind (.ref s.heap.objs.size)
  repeat (any_goals (first | assumption | wp_step))
  refine dV (codeAny_call_builtin (R:=wants (λr t2=>r = .none ∧ ∃ h' tk,t2={ s with heap:=h',toks:=tk } ∧
    SetR w h' s.heap.objs.size (gL ks) (bp ks).length∧(∀ b o,b<s.heap.objs.size→s.heap.get? b=some o→h'.get? b=some o)) E) PySem.F.called_set.init.plain PySem.F.entry_set_init (check_set_init_1 ty ?_)) λr2 t2 hr2 => ?_
  ·obtain ⟨ol,at_l,cl,nl,dl⟩:=hl
   obtain ⟨ocls,odict,odata,oslots⟩:=ol
   simp only at cl dl
   subst cl
   subst dl
   have at_l2:(s.heap.push (fresh ld)).get? l=some { cls:=.type "list",dict:=odict,data:=.seq us nl,slots:=oslots }:=aD _ at_l
   have j1:=PySem.F.sub_list_set
   have j2:=PySem.F.sub_list_frozenset
   have j3:(Value.type "list" == Value.type "dict")=false:=by decide
   have isl:(s.heap.push (fresh ld)).IsList l us:=⟨_,at_l2,rfl,nl,rfl⟩
   unfold Builtin.«set.__init__» noKeywords Builtin.Frozenset.updateFrom
   generalize eIt:pyIter=It
   wp_walk
   subst eIt
   refine kj isl (af (wpAny_runValue ?_))
   have below:l<s.heap.objs.size:=bD at_l
   have calm3:A.in1.in1.in1.handled=none:=by simp [calm]
   have apart:l≠(s.heap.push (fresh ld)).objs.size:=by
    rw [cU]; exact bU (jd below)
   have out:s.heap.objs.size∉[(s.heap.push (fresh ld)).objs.size,l]:=by
    rw [cU]
    simp only [cG,fm,or_false,not_or]
    exact ⟨bU (Nat.lt_succ_self _),fS below⟩
   refine L5 ((Walks.list calm3 _ l apart us).toS) out sz (by rw [← sz]; exact few) (λi v hv=>wU rv i v (by rw [kh]; exact hv)) (us.size-0) 0 _ (by omega) (cy _)
    ⟨⟨_,bT _ rfl,rfl,rfl⟩,(isl.push _)⟩ ?start ?stop
   case start =>
    have g:((s.heap.push (fresh ld)).push { cls:=.type "list_iterator",data:=.fields #[.ref l,.int 0 0] }).get? s.heap.objs.size=some (fresh ld):=aD _ new
    exact ⟨_,#[],0,_,g,⟨rfl,rfl,rfl⟩,rfl,(λe he=>by simp at he),(by simp),(λk=>by simp [bp]),(by decide),(by rfl),rfl,List.Pairwise.nil,by
     show _∨(!w.params.followText "set-order")=true
     cases w.params.followText "set-order"
     ·exact .inr rfl
     ·exact .inl rfl⟩
   case stop =>
    intro t3 mv x
    obtain ⟨h',g',d',tk',os'⟩:=t3
    obtain rfl:g'=s.gens:=mv.gens
    obtain rfl:d'=s.drawn:=mv.drawn
    obtain rfl:os'=s.os:=mv.os
    show wpAny _ _ _ _ _ _
    refine ah ?_
    show wpAny _ _ (ret Value.none) _ _ _
    refine ah ⟨rfl,h',tk',rfl,x,λb o hb e => ?_⟩
    refine mv.heap b o ?_ (aD _ (aD _ e))
    rw [cU]
    simp only [cG,fm,or_false,not_or]
    exact ⟨bU hb,bU (jd hb)⟩
  ·match r2,hr2 with
   | .error e,hr2=>exact hr2
   | .ok .next,hr2=>exact hr2.elim
   | .ok .brk,hr2=>exact hr2.elim
   | .ok .cont,hr2=>exact hr2.elim
   | .ok (.ret r),⟨e1,h',tk,e2,x,keep⟩ =>
    subst e1
    subst e2
    repeat (any_goals (first | assumption | wp_step))
    exact fin _ _ x keep
end
noncomputable def wV:D→Option Int
 | .int i=>some i
 | _=>none
noncomputable def dP:List D→Option (List Int)
 | []=>some []
 | d::ds=>(wV d).bind λk=>(dP ds).map (k :: ·)
theorem ints_vals {K:PySem.W.Frag} {F:Hp} : ∀ {vs:List V} {ds:List D} {ks:List Int},aj K F vs ds→dP ds=some ks→vs=ks.map V.int
 | _,_,_,.nil,e=>by cases e; rfl
 | v::vs,d::ds,ks,.cons h t,e=>by
  unfold dP at e
  rw [Option.bind_eq_some_iff] at e
  obtain ⟨k,e1,e2⟩:=e
  rw [Option.map_eq_some_iff] at e2
  obtain ⟨r,e2,rfl⟩:=e2
  have e3:d = .int k:=by cases d <;> first | cases e1; done | (cases e1; rfl)
  subst e3
  cases h
  rw [ints_vals t e2]
  rfl
noncomputable def xi:D→Rs (List Int)
 | .list xs=>match dP xs with
  | some ks=>if ks.length≤4000 then eV (bp ks) else .bad
  | none => .bad
 | _ => .bad
noncomputable def yG (K:PySem.W.Frag) (w:World):List V→Hp→VK→Prop:=λxs H Q => ∃ (l:Addr) (ks:List Int),xs=[V.ref l]∧SqL K H l (ks.map V.int)∧ks.length≤4000 ∧
 ∀ a,H a=none→Q (.ref a) (upd H a (SetO w a (gL ks) (bp ks).length))
section
variable {X:Cx} {xp:XP} {W:WX} {e:Expr} {fa:Sto→Rs D} {p p2 q pos:Pos}
theorem LJ (hc:X.calm=true):CallR X (.type "set") (yG X.K X.w):=by
 intro pins s σ H xs us Q I r h
 obtain ⟨l,ks,rfl,hl,few,q⟩:=h
 rw [Vals.ref1 r]
 obtain ⟨its,rv,pl,hz⟩:=I.list hl
 have hn:H s.heap.objs.size=none:=I.hok.fresh (aC _)
 have sb:scanBound=4096:=rfl
 refine O6 (I.ok.hd hc) pl.isList (by simpa using rv) (by omega) λh' tk new keep => ?_
 exact ⟨.ref _,upd H s.heap.objs.size (SetO X.w s.heap.objs.size (gL ks) (bp ks).length),I.laid (t':=tk) (λb u z=>keep b u (bD z) z) (aC _) (setO_new new),rfl,q _ hn⟩
noncomputable def qA (d:D):Rs (List D):=(xi d).bind λacc => .ok (fK acc)
end
end Pf

set_option maxRecDepth 100000
namespace Pf
open PySem PySem.Spec PyProof.Rows L2
noncomputable def dS:List D→Option (List (Key × D))
 | []=>some []
 | .tuple [.int k,d]::r=>(dS r).map λl=>(.inl k,d)::l
 | .tuple [.str k,d]::r=>(dS r).map λl=>(.inr k,d)::l
 | _=>none
noncomputable def jo (a:D):Rs D:=match a with
 | .list ds=>(match dS ds with
  | some l=>if ((l.map (·.1)).Nodup∧l.length≤LIM) then .ok (.dict (l.map λp=>(keyD p.1,p.2))) else .bad
  | none => .bad)
 | _ => .bad
noncomputable def GG (kvs:List (D × D)) (i:Int):Option D:=(kvs.find? λp=>match p.1 with
 | .int j=>decide (j=i)
 | _=>false).map (·.2)
noncomputable def Ko (a k:Rs D):Rs D:=a.bind λa=>(l_ a).bind λkvs=>k.bind λk=>(eK k).bind λi => .ok ((GG kvs i).getD .none)
section
variable {K:PySem.W.Frag} {H:Hp}
theorem r_ : ∀ {ds:List D} {l:List (Key × D)} {vs:List V},dS ds=some l→aj K H vs ds → ∃ (ps:List Addr) (kvs:List (Key × V)),vs=ps.map V.ref∧Paired (λp kv=>SqT K H p [kV kv.1,kv.2]) ps kvs∧bH K H kvs (l.map λp=>(keyD p.1,p.2))∧kvs.map (·.1)=l.map λp=>p.1
 | [],l,vs,e,h=>by
  cases h
  cases e
  exact ⟨[],[],rfl,.nil,.nil,rfl⟩
 | d::ds,l,vs,e,h=>by
  cases h with
  | @cons v vs _ _ hv ht =>
   cases d with
   | tuple l0 =>
    cases l0 with
    | nil=>cases e
    | cons k0 l1 =>
     cases k0 with
     | int k =>
      cases l1 with
      | nil=>cases e
      | cons d2 l2 =>
       cases l2 with
       | cons _ _=>cases e
       | nil =>
        have e:(dS ds).map (λl=>(Sum.inl k,d2)::l)=some l:=e
        cases er:dS ds with
        | none=>rw [er] at e; cases e
        | some l2 =>
         rw [er] at e
         cases e
         obtain ⟨ps,kvs,e1,e2,e3,e4⟩:=r_ er ht
         cases hv with
         | @tup a xs _ g1 g2 g3 =>
          cases g3 with
          | @cons u1 us _ _ hk hr =>
           cases hr with
           | @cons u2 us2 _ _ hd hn =>
            cases hn
            cases hk
            exact ⟨a::ps,(.inl k,u2)::kvs,by rw [e1]; rfl,.cons g1 e2,.cons (k:=.inl k) hd e3,by rw [aI,e4]; rfl⟩
     | str k =>
      cases l1 with
      | nil=>cases e
      | cons d2 l2 =>
       cases l2 with
       | cons _ _=>cases e
       | nil =>
        have e:(dS ds).map (λl=>(Sum.inr k,d2)::l)=some l:=e
        cases er:dS ds with
        | none=>rw [er] at e; cases e
        | some l2 =>
         rw [er] at e
         cases e
         obtain ⟨ps,kvs,e1,e2,e3,e4⟩:=r_ er ht
         cases hv with
         | @tup a xs _ g1 g2 g3 =>
          cases g3 with
          | @cons u1 us _ _ hk hr =>
           cases hr with
           | @cons u2 us2 _ _ hd hn =>
            cases hn
            cases hk
            exact ⟨a::ps,(.inr k,u2)::kvs,by rw [e1]; rfl,.cons g1 e2,.cons (k:=.inr k) hd e3,by rw [aI,e4]; rfl⟩
     | _=>cases e
   | _=>cases e
theorem wG : ∀ {kvs acc:List (Key × V)},(kvs.map (·.1)).Nodup→(∀ k∈kvs.map (·.1),valV acc k=none)→mergeK acc kvs=acc++kvs
 | [],acc,_,_=>by simp [mergeK]
 | (k,v)::kvs,acc,nd,h=>by
  rw [aI,List.nodup_cons] at nd
  have e:putK acc k v=acc++[(k,v)]:=putK_new _ (h k (by simp))
  have ih:=wG (kvs:=kvs) (acc:=acc++[(k,v)]) nd.2 λj hj=>by
   rw [valV_snoc _ _ _ _ (h k (by simp)),if_neg]
   ·exact h j (by rw [aI]; exact aE _ hj)
   ·intro z
    subst z
    exact nd.1 hj
  show mergeK (putK acc k v) kvs=_
  rw [e,ih,eP]
  rfl
end
section
variable {X:Cx} {xp:XP} {W:WX} {o e:Expr} {fo fk:Sto→Rs D} {apos cpos pos p:Pos}
theorem Nw (hc:X.calm=true) (hg:Gl X "dict") (hm:X.mg "dict" = none) (he:CE X xp W e fk) (hs:starEach [e] X.env=(false,eval e X.env)::starEach [] X.env) :
  CE X xp W (.Call (.Name "dict" p) [e] [] pos) (λρ=>(fk ρ).bind jo):=
 bt (DY (pe_callTy (call_dictP hc) hg hm (by decide) (bG he cu hs) (by decide) (by decide) hs rfl)) λσ H Q ⟨ρ,O,R,q⟩=>⟨ρ,O,R,(End.bind q).imp λd H1 _ s1 q1 v hv=>by
  cases d with
  | list ds =>
   cases hv with
   | @lst a vs _ g1 g2 g3 =>
    have q1:End X.K X.mg W O σ H1 _ (match dS ds with
     | some l=>if ((l.map (·.1)).Nodup∧l.length≤LIM) then Rs.ok (PyData.dict (l.map λp=>(keyD p.1,p.2))) else .bad
     | none => .bad):=q1
    cases er:dS ds with
    | none=>rw [er] at q1; exact q1.elim
    | some l =>
     rw [er] at q1
     have q1:End X.K X.mg W O σ H1 _ (if ((l.map (·.1)).Nodup∧l.length≤LIM) then Rs.ok (PyData.dict (l.map λp=>(keyD p.1,p.2))) else .bad):=q1
     obtain ⟨c,q2⟩:=cO q1
     obtain ⟨ps,kvs,rfl,e2,e3,e4⟩:=r_ er g3
     have nd:(kvs.map (·.1)).Nodup:=by
      rw [e4]
      exact c.1
     refine ⟨a,ps,kvs,rfl,(Sm.rl dM g1).sq,Paired.mapP e2 λx y z=>Sm.jV dM z,λp hp => ?_⟩
     rw [wG nd λk _=>rfl,mi]
     refine ⟨p,_,rfl,aS,λo => ?_⟩
     rw [upd_upd]
     refine q2 _ (a0 hp) _ (.dct (o:=o) (by rw [bc ((R.thr.same s1).out hp),aS]) ?_ (eJ (aH (a0 hp).sm) e3))
     have h1:=th e3
     rw [aq] at h1
     omega
  | _=>exact q1.elim⟩
end
end Pf

set_option maxRecDepth 100000
namespace Pf
open PySem PySem.Spec PyProof.Rows L2
section
variable {X:Cx} {pins:List (Addr × Obj)} {σ:L2.St} {H F:Hp} {s:Shared}
end
noncomputable def t2D (a b:Str):D:=.tuple [.str a,.str b]
noncomputable def t2K (a b:Str):NestedKey:=.tup [.text a,.text b]
noncomputable def Ow (a b c d e f g h:Str) (x y:D):Rs D:=match nkD x with
 | some (.tup ks)=>if (NestedKey.tup ks).depth≤8 then .ok (if NestedKey.beq (.tup ks) (t2K a b)=true then t2D e f else if NestedKey.beq (.tup ks) (t2K c d)=true then t2D g h else y) else .bad
 | _ => .bad
section
variable {prog:Program} {w:World} {K:Type} [DecidableEq K] {knd:HeapKind prog w K} {A:Around} {E:Value→Shared→Prop} {s:Shared}
end
section
variable {X:Cx} {xp:XP} {W:WX} {e f k1 k2 v1 v2:Expr} {fe ff:Sto→Rs D} {apos cpos dpos:Pos} {a b c d a' b' c' d':Str}
end
end Pf

set_option maxRecDepth 100000
namespace Pf
open PySem PySem.Spec PyProof.Rows L2
noncomputable def sO (ρ:Sto) (i:Nat):Bool:=match ρ[i]? with
 | some (some .pin)=>true
 | _=>false
noncomputable def Fo (i:Nat) (xs:List D):Out→Out
 | .nx ρ=>if sO ρ i=true∧noX (ρ.set i none)=true then .nx (ρ.set i (some (.own xs))) else .bad
 | .rt d => .rt d
 | .ex e ρ=>if sO ρ i=true∧noX (ρ.set i none)=true then .ex e (ρ.set i (some (.own xs))) else .bad
 | .bk _ => .bad
 | .ct _ => .bad
 | .bad => .bad
noncomputable def IA (t:Tg) (i:Nat) (body:Sto→Out):Sto→Out:=λρ => .ofR (ownAt ρ i) ρ λxs=>if xs.length≤LIM∧noX ρ=true then Fo i xs (forL (λd ρ'=>(bL t d ρ').seq body) xs (ρ.set i (some .pin))) else .bad
section
variable {K:PySem.W.Frag} {mg:Str→Option Value} {xp:XP} {W:WX} {B O:List Addr} {σ:L2.St} {H:Hp} {ρ:Sto} {i:Nat} {xs:List D} {p:Addr} {vs:List V}
end
section
variable {X:Cx} {xp:XP} {W:WX} {B:List Addr} {i:Nat} {x:Str} {p0 pos:Pos}
end
end Pf

set_option maxRecDepth 100000
namespace Pf
open PySem PySem.Spec PyProof.Rows L2
noncomputable def asP:D→Rs (List D × D)
 | .tuple [.list xs,d] => .ok (xs,d)
 | _ => .bad
noncomputable def FL (K:PySem.W.Frag) (O:List Addr) (H0:Hp) (Q:VK) (z:List D × D) (H':Hp):Prop:=
 ∀ p t us v,H0 p=none→H' p=some (.lst us)→us.length≤LIM→aj K (msk H' (p::O)) us z.1→Dn K (msk H' (p::O)) v z.2→H' t=some (.tup [.ref p,v])→Q (.ref t) H'
noncomputable def Ds (K:PySem.W.Frag) (mg:Str→Option Value) (n:Nat) (m:List D→Rs D):Sp:=λvs H Q E => ∃ (O:List Addr) (ds:List D),Thr K H O∧aj K (msk H O) vs ds∧ds.length=n∧match m ds with
 | .ok (.tuple [.list xs,d]) => ∀ H',Same H H'→FL K O H Q (xs,d) H'
 | .ok _=>False
 | .ex e => ∀ H' cls dd,Same H H'→eX K mg (msk H' O) e cls dd→E cls dd H'
 | .bad=>False
noncomputable def tm (i:Nat) (K:PySem.W.Frag) (mg:Str→Option Value) (n:Nat) (m:List D→Rs D):Sp:=match Nat.ble 400000 i with
 | true=>Ds K mg n m
 | false=>mO K mg n m
noncomputable def DG (i:Nat) (X:Cx) (x:Str) (n:Nat) (m:List D→Rs D):Prop:=
 ∃ (k:Nat) (f:Addr) (fd:FuncData) (ps:List Str),FnG X.prog X.w X.K X.mg X.base k f fd ps (tm i X.K X.mg n m)∧Rm k X.A∧X.mg x=some (.ref f)∧PySem.W.keepIn X.K (.ref f)=true∧Binds X.K fd ps []
section
variable {X:Cx} {xp:XP} {W:WX} {B:List Addr} {e:Expr} {pos:Pos}
noncomputable def Pb (i j:Nat) (f:Sto→Rs (List D × D)):Sto→Out:=λρ => .ofR (f ρ) ρ λz => .nx ((ρ.set i (some (.own z.1))).set j (some (.pd z.2)))
noncomputable def MG (i:Nat) (f:Sto→Rs D):Sto→Out:=λρ => .ofR (ownAt ρ i) ρ λxs => .ofR (f ρ) ρ λd=>if xs.length≤LIM then .rt (.tuple [.list xs,d]) else .bad
noncomputable def gG (i:Nat) (ft:Sto→Rs Bool) (f g:Sto→Out):Sto→Out:=λρ=>match ft (frz i ρ) with
 | .ok true=>f ρ
 | .ok false=>g ρ
 | _ => .bad
theorem EE {i:Nat} {c:Expr} {a b:List Stmt} {ft:Sto→Rs Bool} {f g:Sto→Out} (hc:CT X xp W c ft) (ha:CSs X xp W B a f) (hb:CSs X xp W B b g):CSt X xp W B (.If c a b pos) (gG i ft f g):=
 du (ps_if (Ot hc) ha hb) λT σ H ⟨ρ,O,fr,q⟩=>by
  have q:aG X.K X.mg xp W B T H O (gG i ft f g ρ):=q
  unfold gG at q
  rcases fr.frz i with ⟨O',fr',st⟩ | ⟨d,kvs,hd,fin⟩
  ·refine .inl ⟨frz i ρ,O'++B,fr'.rel,?_⟩
   cases e:ft (frz i ρ) with
   | ok k =>
    rw [e] at q
    intro H' s
    cases k with
    | true=>exact ⟨ρ,O,fr.mono s,aG.grow q (Stp.same s)⟩
    | false=>exact ⟨ρ,O,fr.mono s,aG.grow q (Stp.same s)⟩
   | ex x=>rw [e] at q; exact q.elim
   | bad=>rw [e] at q; exact q.elim
  ·refine .inr ⟨d,kvs,hd,λo => ?_⟩
   obtain ⟨O',fr',st⟩:=fin o
   refine ⟨frz i ρ,O'++B,fr'.rel,?_⟩
   cases e:ft (frz i ρ) with
   | ok k =>
    rw [e] at q
    intro H' s
    have hd':H' d=some (.frz o (.dK kvs)):=s _ _ aS
    have s2:Same H (upd H' d (.dK kvs)):=⟨⟨λb u eb n=>by
     by_cases z:b=d
     ·subst z
      rw [hd] at eb
      cases eb
      exact aS
     ·rw [ax z]
      exact s b u (by rw [ax z]; exact eb) n,λb hb=>f7 (s.dom b (f7 hb))⟩,λP p t=>(jE hd':fF _ _) P p (s.tab P p ((jE hd:fF _ _) P p t))⟩
    refine ⟨hd',?_⟩
    cases k with
    | true=>exact ⟨ρ,O,fr.mono s2,aG.grow q (Stp.same s2)⟩
    | false=>exact ⟨ρ,O,fr.mono s2,aG.grow q (Stp.same s2)⟩
   | ex x=>rw [e] at q; exact q.elim
   | bad=>rw [e] at q; exact q.elim
end
end Pf

set_option maxRecDepth 100000
namespace Pf
open PySem PySem.Spec PyProof.Rows L2
section
variable {X:Cx} {k:Nat} {f C:Addr} {fd:FuncData} {ps:List Str} {sp:Sp} {E:L2.St→XK} {x m:Str} {p pos apos:Pos} {o e:Expr} {es:List Expr} {ta:TE} {t:TA}
noncomputable def LA (C:Addr) (m:Str) (sp:Sp) (E:L2.St→XK) (ta:TE) (t:TA):TE:=λσ H Q=>ta σ H λx H1 => ∃ a dx fs,x = .ref a∧H1 a=some (.ins C dx fs)∧fs.lookup m=none ∧
 t σ H1 λvs H2=>sp (x::vs) H2 Q (E σ)
end
noncomputable def o9:D→Option Str
 | .dict ((.none,.tuple [_,.str c])::_)=>some c
 | _=>none
noncomputable def lB (f:Str):List (D × D)→Option D
 | []=>none
 | (.tuple [.str g],d)::r=>if f=g then some d else lB f r
 | _::r=>lB f r
noncomputable def zz (f:Str):D→Option D
 | .dict (_::r)=>lB f r
 | _=>none
noncomputable def JG (cls:Str) (fs:List (Str × D)):D:=.dict ((.none,jH cls)::fs.map λp=>(.tuple [.str p.1],p.2))
theorem MD {K:PySem.W.Frag} {H:Hp} {f:Str} : ∀ {vs:List (Str × V)} {ds:List (D × D)},gc K H vs ds→match lB f ds with
  | some d => ∃ v,vs.lookup f=some v∧Dn K H v d
  | none=>vs.lookup f=none
 | _,_,.nil=>rfl
 | (g,v)::vs,(_,d)::ds,.cons h t=>by
  have ih:=MD (f:=f) t
  show match (if f=g then some d else lB f ds) with
   | some d => ∃ v',((g,v)::vs).lookup f=some v'∧Dn K H v' d
   | none=>((g,v)::vs).lookup f=none
  by_cases e:f=g
  ·rw [if_pos e]
   exact ⟨v,by rw [List.lookup_cons,e,beq_self_eq_true],h⟩
  ·rw [if_neg e,List.lookup_cons,beq_eq_false_iff_ne.mpr e]
   exact ih
noncomputable def ER (cls f:Str) (d:D):Rs D:=if o9 d=some cls then (match zz f d with
 | some x => .ok x
 | none => .bad) else .bad
section
variable {X:Cx} {xp:XP} {W:WX} {cls m:Str} {o e:Expr} {es:List Expr} {fo:Sto→Rs D} {fs:Sto→Rs (List D)} {p pos apos:Pos} {n:Nat} {mm:List D→Rs D}
noncomputable def Kc (y:Str) (d:D):Rs D:=match o9 d with
 | some cls=>if cls=y then .ok (.bool true) else .bad
 | none=>fL d
noncomputable def Pt (X:Cx) (cls m:Str) (n:Nat) (mm:List D→Rs D):Prop:=
 ∃ (C:Addr) (k:Nat) (f:Addr) (fd:FuncData) (ps:List Str),cS X.K C cls∧Meth X.K C m f∧FnG X.prog X.w X.K X.mg X.base k f fd ps (spF X.K X.mg n mm)∧Rm k X.A∧Binds X.K fd ps []
noncomputable def Lh (cls m:Str) (x:D):Bool:=decide (o9 x=some cls)&&(zz m x).isNone
noncomputable def qc (cls m:Str) (n:Nat) (mm:List D→Rs D) (fo:Rs D) (fs:Rs (List D)):Rs D:=fo.bind λx=>if Lh cls m x=true then fs.bind λds=>if ds.length+1=n then mm (x::ds) else .bad else .bad
structure SmX (x:Addr) (H H':Hp):Prop where
 k : ∀ b o,b≠x→H b=some o→NT o→H' b=some o
 dom : ∀ b,H b≠none→H' b≠none
 tab:fF H H'
noncomputable def spI (K:PySem.W.Frag) (mg:Str→Option Value) (cls:Str) (n:Nat) (m:List D→Rs D):Sp:=λvs H Q E => ∃ (x C dx:Addr) (us:List V) (O:List Addr) (ds:List D),vs = .ref x::us∧H x=some (.ins C dx [])∧cS K C cls∧x∉O∧Thr K H O∧aj K (msk H (x::O)) us ds∧ds.length=n∧match m ds with
 | .ok d => ∃ fs,d = .dict ((.none,jH cls)::fs) ∧ ∀ H' kvs,SmX x H H'→H' x=some (.ins C dx kvs)→gc K (msk H' (x::O)) kvs fs→Q .non H'
 | .ex e => ∀ H' cls' dd,SmX x H H'→eX K mg (msk H' (x::O)) e cls' dd→E cls' dd H'
 | .bad=>False
noncomputable def OC (X:Cx) (cls:Str) (n:Nat) (m:List D→Rs D):Prop:=
 ∃ (C:Addr) (k:Nat) (f:Addr) (fd:FuncData) (ps:List Str),cS X.K C cls∧Mk X.K C f∧FnG X.prog X.w X.K X.mg X.base k f fd ps (spI X.K X.mg cls n m)∧Rm (k+1) X.A∧X.mg cls=some (.ref C)∧Binds X.K fd ps []
noncomputable def Dm (cls:Str):D→Bool
 | .dict ((.none,.tuple [.int j,.str c])::_)=>decide (j=(2 ^ 250) ^ 8)&&decide (c=cls)
 | _=>false
noncomputable def Oo (cls:Str) (n:Nat) (m:List D→Rs D) (ds:List D):Rs D:=if ds.length=n then (m ds).bind λd=>if Dm cls d=true then .ok d else .bad else .bad
end
end Pf

set_option maxRecDepth 100000
namespace Pf
open PySem PySem.Spec PyProof.Rows L2
section
variable {X:Cx} {pins:List (Addr × Obj)} {σ:L2.St} {H:Hp} {s:Shared} {a:Addr} {xs:List (NestedKey × Addr × Value)} {A:Around} {E:Value→Shared→Prop}
end
section
variable {X:Cx}
end
noncomputable def oG:D→Option NestedKey
 | .tuple ds=>match nkD (.tuple ds) with
  | some nk=>if nk.depth≤8 then some nk else none
  | none=>none
 | _=>none
noncomputable def mf:List (D × D)→NestedKey→Option D
 | [],_=>none
 | (k,d)::r,nk=>if nkD k=some nk then some d else mf r nk
noncomputable def putN (kvs:List (D × D)) (k:D) (nk:NestedKey) (d:D):List (D × D):=if (mf kvs nk).isSome=true then kvs.map (λp=>if nkD p.1=some nk then (p.1,d) else p) else kvs++[(k,d)]
noncomputable def tF (ρ:Sto) (i:Nat):Rs (List (D × D)):=match ρ[i]? with
 | some (some (.st (.on kvs))) => .ok kvs
 | _ => .bad
end Pf

set_option maxRecDepth 100000
namespace Pf
open PySem PySem.Spec PyProof.Rows L2
section
variable {X:Cx} {xp:XP} {W:WX} {B:List Addr} {k e:Expr} {fk ff:Sto→Rs D} {p pos:Pos}
inductive Nd where
 | inn
 | nin
 | ix
 | len
 deriving DecidableEq
noncomputable def Bx (neg:Bool) (k:D) (kvs:List (D × D)):Rs Bool:=match oG k with
 | some nk => .ok (if neg=true then !(mf kvs nk).isSome else (mf kvs nk).isSome)
 | none => .bad
noncomputable def Ex (k:D) (kvs:List (D × D)):Rs D:=match oG k with
 | some nk=>opt (mf kvs nk) id
 | none => .bad
noncomputable def ndR (o:Nd) (k:Rs D) (kvs:Rs (List (D × D))):Rs D:=match o with
 | .inn=>k.bind λk=>kvs.bind λkvs=>toB (Bx false k kvs)
 | .nin=>k.bind λk=>kvs.bind λkvs=>toB (Bx true k kvs)
 | .ix=>kvs.bind λkvs=>k.bind λk=>Ex k kvs
 | .len=>kvs.bind λkvs=>if kvs.length≤LIM then .ok (.int kvs.length) else .bad
noncomputable def IW (i:Nat) (fk fv:Sto→Rs D):Sto→Out:=λρ => .ofR (fv ρ) ρ λd => .ofR (tF ρ i) ρ λkvs => .ofR (fk ρ) ρ λk=>match oG k with
 | some nk=>if kvs.length<LIM then .nx (ρ.set i (some (.st (.on (putN kvs k nk d))))) else .bad
 | none => .bad
end
section
variable {prog:Program} {w:World} {A:Around} {E:Value→Shared→Prop} {s:Shared}
end
section
variable {X:Cx} {pins:List (Addr × Obj)} {σ:L2.St} {H:Hp} {s:Shared} {k:Nat} {f:Addr} {fd:FuncData} {ps:List Str} {m:List D→Rs D}
end
section
variable {X:Cx} {xp:XP} {W:WX} {x y:Str} {m:List D→Rs D} {p gp kp p1 pos:Pos}
end
end Pf

set_option maxRecDepth 100000
namespace Pf
open PySem PySem.Spec PyProof.Rows L2
noncomputable def Bv:List (Str × List D)→Str→D→List (Str × List D)
 | [],k,d=>[(k,[d])]
 | (k',ds)::r,k,d=>if k'=k then (k',ds++[d])::r else (k',ds)::Bv r k d
noncomputable def E3:D→Option Str
 | .tuple (_ :: .str k::_)=>some k
 | _=>none
noncomputable def AR:List (Str × List D)→List D→Option (List (Str × List D))
 | gs,[]=>some gs
 | gs,d::ds=>match E3 d with
  | some k=>AR (Bv gs k d) ds
  | none=>none
section
variable {K:PySem.W.Frag} {M H H':Hp} {kvs:List (Key × V)} {gs:List (Str × List D)} {bs:List Addr}
end
section
variable {X:Cx} {f g cn sn:Str} {c:Nat} {p1 p2 p3 p4 p5 p6 p7 p8 p9 q1 q2 q3 q4 q5 q6 q7 q8 r1 r2 r3:Pos} {k1:Nat}
end
end Pf

set_option maxRecDepth 100000
namespace Pf
open PySem PySem.Spec PyProof.Rows L2
section
variable {X:Cx} {a b c d:Expr} {ta tb tc td:TE} {pos:Pos}
end
section
variable {X:Cx} {xp:XP} {W:WX} {a b c d:Expr} {fa fb fc fd:Sto→Rs D} {pos:Pos}
noncomputable def IM (o1 o2 o3:Cm) (ra rb rc rd:Rs D):Rs Bool:=ra.bind λx=>rb.bind λy=>(aW o1 x y).bind λk=>if k=true then (rc.bind λz=>(aW o2 y z).bind λk2=>if k2=true then rd.bind λu=>aW o3 z u else .ok false) else .ok false
end
end Pf

set_option maxRecDepth 100000
namespace Pf
open PySem PySem.Spec PyProof.Rows L2
section
variable {X:Cx} {a D dd:Addr} {oe:Obj} {f:Str}
end
noncomputable def DQ (a b:Option Bool):Rs D:=match a,b with
 | some x,some y => .ok (.bool (x||y))
 | _,_ => .bad
section
variable {X:Cx} {u0:World} {W:WX} {a dd:Addr} {oe:Obj} {D:Addr} {x y y2 n f:Str} {p p1 p2 p3 p4 pos:Pos} {i k:Nat}
end
end Pf

set_option maxRecDepth 100000
namespace Pf
open PySem PySem.F
section
variable {M:Model} {A:Around} {E:Value→Shared→Prop} {h:Heap} {g:Array GenState} {d:Drawn} {t:Nat} {os:OsState}
variable {nm q:Str} {C N:Addr} {bs bm bmB:List Value} {hdct:Bool} {sn:List Str} {sub:List Value} {ab:Bool} {col:Option Bool} {dd:Option Addr} {k0 k1 k2 k3 k5:Option Value} {B newId initId:String}
end
section
variable {prog:Program} {w:World} {A:Around} {E:Value→Shared→Prop} {R:Result→Shared→Prop} {h:Heap} {g:Array GenState} {d:Drawn} {t:Nat} {os:OsState}
variable {nm q:Str} {C N:Addr} {bs bm bmB:List Value} {hdct:Bool} {sn:List Str} {sub:List Value} {ab:Bool} {col:Option Bool} {dd:Option Addr} {k0 k1 k2 k3 k5:Option Value} {B newId initId:String}
end
end Pf
namespace Pf
open PySem PySem.Spec PyProof.Rows L2
section
variable {X:Cx} {xp:XP} {W:WX} {x f:Str} {e:Expr} {fe:Sto→Rs D} {p pos:Pos}
noncomputable def H_ (C:Addr) (f:Str) (te:TE):TE:=λσ H Q=>te σ H λv H1 => ∀ a d,H1 a=none→H1 d=none→d≠a→Q (.ref a) (upd (upd H1 d (exd d [(f,v)])) a (exo a C (some d)))
theorem KO {σ:L2.St} {H1:Hp} {Q:VK} {b:Bs} {C a:Addr} {v:V} (oc:Oc X.K b C f) (free:H1 a=none) (q1 : ∀ a d,H1 a=none→H1 d=none→d≠a→Q (.ref a) (upd (upd H1 d (exd d [(f,v)])) a (exo a C (some d)))) :
  nT X.K b f [V.ref a,v] (upd H1 a (exo a C none)) (λz H2=>z = .non∧Q (.ref a) H2) (λ_ _ _=>False):=
 ⟨_,C,v,rfl,oc,aS,λdx n ne=>⟨rfl,by
  rw [ax ne] at n
  have h:=q1 a dx free n ne
  have same:upd (upd (upd H1 a (exo a C none)) dx (exd dx [(f,v)])) a (exo a C (some dx))=upd (upd H1 dx (exd dx [(f,v)])) a (exo a C (some dx)):=by
   funext c
   by_cases h1:c=a
   ·rw [h1,aS,aS]
   ·rw [ax h1,ax h1]
    by_cases h2:c=dx
    ·rw [h2,aS,aS]
    ·rw [ax h2,ax h2,ax h1]
  rw [same]
  exact h⟩⟩
theorem QP {te:TE} {k:Nat} (c:gn X.prog X.w X.K X.mg X.base x f) (room:Room k X.A) (hk:2≤k) (hg:Gl X x) (hdb:(x==("__debug__" : Str))=false) (he:PE X e te) (hs:starEach [e] X.env=(false,eval e X.env)::starEach [] X.env) :
  ∃ C,X.mg x=some (.ref C)∧PE X (.Call (.Name x p) [e] [] pos) (H_ C f te):=by
 obtain ⟨b,C,fI,fd,ps,gC,oc,iC,tI,FI,bI,_⟩:=c.is
 refine ⟨C,gC,⟨λpins s σ H Q I h => ?_⟩⟩
 let G:List V→Hp→Prop:=λvs H1=>match vs with
  | [v] => ∀ a d,H1 a=none→H1 d=none→d≠a→Q (.ref a) (upd (upd H1 d (exd d [(f,v)])) a (exo a C (some d)))
  | _=>False
 refine j_ (ld_glob I hg gC ?_ hdb)
 refine PySem.W.callWith_K (h₀:=X.base) I.ok.mod.kin oc.kC (thn ((bG he cu hs).run pos pins s σ H G I h) ?_) hs rfl
 rintro us s1 ⟨vs,H1,I1,r1,q1⟩
 refine ⟨I1.kIn,?_⟩
 show wpAny _ _ (call (.ref C) us) _ _ _
 match vs,us,r1,q1 with
 | [v],[u],.cons ru .nil,q1 =>
  have q1 : ∀ a d,H1 a=none→H1 d=none→d≠a→Q (.ref a) (upd (upd H1 d (exd d [(f,v)])) a (exo a C (some d))):=q1
  obtain ⟨nm,N,qn,bs,bm,hdct,sn,sub,ab,col,dd,k0,k1,k2,k3,k5,hC,hT⟩:=PySem.W.excInit_of I1.kIn oc.ini
  obtain ⟨hp,g,dr,tk,os⟩:=s1
  have free:H1 (hp.objs.size+1)=none:=I1.hok.fresh (fj _)
  have keep : ∀ b o,hp.get? b=some o→((hp.push (PySem.W.kdv_tup [u])).push (PySem.HandSPX.excO C hp.objs.size)).get? b=some o:=λb o z=>aD _ (aD _ z)
  have made:((hp.push (PySem.W.kdv_tup [u])).push (PySem.HandSPX.excO C hp.objs.size)).get? (hp.objs.size+1)=some (PySem.HandSPX.excO C hp.objs.size):=by heap_get
  have I2:L2.Inv X pins σ (upd H1 (hp.objs.size+1) (exo (hp.objs.size+1) C none)) ⟨(hp.push (PySem.W.kdv_tup [u])).push (PySem.HandSPX.excO C hp.objs.size),g,dr,tk,os⟩:=
   I1.laid (t':=tk) (a:=hp.objs.size+1) (o:=exo (hp.objs.size+1) C none) keep (fj _) (exo_ok made)
  have prom:=KO (X:=X) (σ:=σ) oc free q1
  have r2:Vals [V.ref (hp.objs.size+1),v] [Value.ref (hp.objs.size+1),u]:=.cons rfl (.cons ru .nil)
  have len:([Value.ref (hp.objs.size+1),u]++([]:List Value)).length=ps.length:=by
   have z:=FI.len _ _ _ _ prom
   rw [← z]; rfl
  refine eQ (b.make hT hC (PySem.W.looks_findIn I1.kIn iC) (λself=>PySem.W.bind_fn I1.kIn self tI) (by show 1≤sizeLine; decide) (dV
   (FI.run _ X.stack _ _ ⟨[Value.ref (hp.objs.size+1),u],[]⟩ [Value.ref (hp.objs.size+1),u] _ _ (λ_ _ _=>False) ((room.mono hk).make C [u] []) (I2.env0.make C [u] []) (by have z:=bI ⟨(hp.push (PySem.W.kdv_tup [u])).push (PySem.HandSPX.excO C hp.objs.size),g,dr,tk,os⟩ [Value.ref (hp.objs.size+1),u] I2.kIn len; rw [fQ] at z; exact z) r2 prom) ?_))
  intro r s' out
  match r,out with
  | .error er,out =>
   obtain ⟨_,_,_,_,_,_,_,_,_,_,_,_,z⟩:=out
   exact z.elim
  | .ok .next,out=>exact out.elim
  | .ok .brk,out=>exact out.elim
  | .ok .cont,out=>exact out.elim
  | .ok (.ret z),out =>
   obtain ⟨vz,H2,I3,rz,⟨rfl,q3⟩⟩:=I2.after out
   exact ⟨rz,⟨V.ref (hp.objs.size+1),H2,I3,rfl,q3⟩⟩
noncomputable def exD (cls f:Str) (d:D):D:=.dict [(.none,lW cls),(.tuple [.str f],d)]
noncomputable def excOf:D→Option (Str × Str × D)
 | .dict ((.none,.tuple [_,.str c,.none])::r)=>(match r with
  | [(.tuple [.str g],x)]=>some (c,g,x)
  | _=>none)
 | _=>none
noncomputable def Dx (f:Str) (d:D):Rs D:=match excOf d with
 | some q=>if f=q.2.1 then .ok q.2.2 else .bad
 | none => .bad
noncomputable def HH (ys ns:List (Str × Str)) (d:D):Rs D:=match excOf d with
 | some q=>if (q.1,q.2.1)∈ys then .ok (.bool true) else if (q.1,q.2.1)∈ns then .ok (.bool false) else .bad
 | none => .bad
end
end Pf

set_option maxRecDepth 100000
namespace Pf
open PySem PySem.Spec PyProof.Rows L2
noncomputable abbrev nh (w:World) (k:NestedKey):Int:=k.hash w
noncomputable abbrev IsN (h:Heap) (k:NestedKey) (b:Addr):Prop:=NestedIs h k (.ref b)∧k.depth≤8
section
variable {P:Program} {w:World} {A:Around} {E:Value→Shared→Prop} {s:Shared}
noncomputable def fV (P:Program) (w:World) (n:Nat) (s:Shared) (v:Value):Prop:=∀ (A:Around) (E:Value→Shared→Prop) (Q:Bool→Shared→Prop),Q false s→wpAny (model P w) A (ofAClassStatement n v) Q E s
theorem fV.atom {n:Nat} {v:Value} (h:ofAClassStatement n v=pure false):fV P w n s v:=λA E Q hq=>by
 rw [h]
 exact ah hq
theorem fV.tuple {n:Nat} {a:Addr} {o:Obj} {vs:Array Value} {m:Nat} (ho:s.heap.get? a=some o) (hc:o.cls = .type "tuple") (hd:o.data = .seq vs m) (hq : ∀ v∈vs.toList,fV P w n s v):fV P w (n+1) s (.ref a):=λA E Q h=>by
 have hT:s.TypeIs (.ref a) "tuple":=⟨o,ho,hc⟩
 unfold ofAClassStatement
 refine af (wpAny_typeOf hT ?_)
 dsimp only
 have e:(("tuple" : String) == "tuple")=true:=by decide
 simp only [e,if_true,Bool.not_true,cV,if_false]
 try refine af (ah ?_)
 try simp only [Bool.not_true,cV,if_false]
 show wpAny _ _ (seqItems? (.ref a) >>= _) _ _ s
 refine af (fw ho hd ?_)
 dsimp only
 refine af ?_
 show wpAny _ _ (forIn vs _ _) _ _ s
 rw [← Array.forIn_toList]
 refine wpAny_forIn_list _ (λrest r s'=>r.1=none∧s'=s ∧ ∀ v∈rest,fV P w n s v) _ ?_ ?_ _ _ ⟨rfl,rfl,hq⟩
 ·rintro v rest r s' ⟨hr,rfl,hall⟩
  refine af (hall v bu _ _ _ ?_)
  simp only [cV,if_false]
  exact ah ⟨rfl,rfl,λu hu'=>hall u (aE _ hu')⟩
 ·rintro ⟨r1,r2⟩ s' ⟨hr,rfl,_⟩
  simp only at hr
  subst hr
  exact ah h
mutual
theorem qX : ∀ (k:NestedKey) (v:Value) (n:Nat) (s:Shared),NestedIs s.heap k v→k.depth≤n→fV P w n s v
 | .none,_,n,s,x,_=>by cases x; exact .atom (by cases n <;> rfl)
 | .num i,_,n,s,x,_=>by cases x <;> exact .atom (by cases n <;> rfl)
 | .text y,_,n,s,x,_=>by cases x; exact .atom (by cases n <;> rfl)
 | .tup ks,_,n,s,x,hn=>by
  cases x with
  | tup hg hc hd hk =>
   simp only [NestedKey.depth] at hn
   cases n with
   | zero=>omega
   | succ n=>exact .tuple hg hc hd (xW ks _ n s hk (by omega))
theorem xW : ∀ (ks:List NestedKey) (vs:List Value) (n:Nat) (s:Shared),NestedAll s.heap ks vs→NestedKey.depthAll ks≤n → ∀ v∈vs,fV P w n s v
 | [],_,n,s,x,_,v,hv=>by cases x; cases hv
 | k::ks,_,n,s,x,hn,v,hv=>by
  cases x with
  | cons x1 x2 =>
   simp only [NestedKey.depthAll] at hn
   rcases cG.mp hv with e | hv
   ·rw [e]; exact qX k _ n s x1 (by omega)
   ·exact xW ks _ n s x2 (by omega) v hv
end
noncomputable def gh (P:Program) (w:World) (n:Nat) (s:Shared) (v:Value):Prop:=∀ (A:Around) (E:Value→Shared→Prop) (Q:Bool→Shared→Prop),(∀ b,Q b s)→wpAny (model P w) A (hashByValue n v) Q E s
theorem gh.atom {n:Nat} {v:Value} {b:Bool} (h:hashByValue n v=pure b):gh P w n s v:=λA E Q hq=>by
 rw [h]
 exact ah (hq b)
theorem gh.tuple {n:Nat} {a:Addr} {o:Obj} {vs:Array Value} {m:Nat} (ho:s.heap.get? a=some o) (hc:o.cls = .type "tuple") (hd:o.data = .seq vs m) (hq : ∀ v∈vs.toList,gh P w n s v):gh P w (n+1) s (.ref a):=λA E Q h=>by
 have hT:s.TypeIs (.ref a) "tuple":=⟨o,ho,hc⟩
 unfold hashByValue
 refine af (wpAny_specialOf hT F.slot_tuple_hash.lookup ?_)
 show wpAny _ _ (seqItems? (.ref a) >>= _) _ _ s
 refine af (fw ho hd ?_)
 refine af ?_
 show wpAny _ _ (forIn vs _ _) _ _ s
 rw [← Array.forIn_toList]
 refine wpAny_forIn_list _ (λrest r s'=>r.1=none∧s'=s ∧ ∀ v∈rest,gh P w n s v) _ ?_ ?_ _ _ ⟨rfl,rfl,hq⟩
 ·rintro v rest r s' ⟨hr,rfl,hall⟩
  refine af (hall v bu _ _ _ λb => ?_)
  cases b with
  | true =>
   simp only [Bool.not_true,cV,if_false]
   exact ah ⟨rfl,rfl,λu hu'=>hall u (aE _ hu')⟩
  | false =>
   simp only [Bool.not_false,if_true]
   exact ah (ah (h _))
 ·rintro ⟨r1,r2⟩ s' ⟨hr,rfl,_⟩
  simp only at hr
  subst hr
  exact ah (h _)
mutual
theorem xJ : ∀ (k:NestedKey) (v:Value) (n:Nat) (s:Shared),NestedIs s.heap k v→k.depth≤n→gh P w n s v
 | .none,_,n,s,x,_=>by cases x; exact .atom (b:=true) (by cases n <;> rfl)
 | .num i,_,n,s,x,_=>by cases x <;> exact .atom (b:=true) (by cases n <;> rfl)
 | .text y,_,n,s,x,_=>by cases x; exact .atom (b:=false) (by cases n <;> rfl)
 | .tup ks,_,n,s,x,hn=>by
  cases x with
  | tup hg hc hd hk =>
   simp only [NestedKey.depth] at hn
   cases n with
   | zero=>omega
   | succ n=>exact .tuple hg hc hd (yU ks _ n s hk (by omega))
theorem yU : ∀ (ks:List NestedKey) (vs:List Value) (n:Nat) (s:Shared),NestedAll s.heap ks vs→NestedKey.depthAll ks≤n → ∀ v∈vs,gh P w n s v
 | [],_,n,s,x,_,v,hv=>by cases x; cases hv
 | k::ks,_,n,s,x,hn,v,hv=>by
  cases x with
  | cons x1 x2 =>
   simp only [NestedKey.depthAll] at hn
   rcases cG.mp hv with e | hv
   ·rw [e]; exact xJ k _ n s x1 (by omega)
   ·exact yU ks _ n s x2 (by omega) v hv
end
theorem JY {k:NestedKey} {b:Addr} {Q:Bool→Shared→Prop} (hk:IsN s.heap k b) {ys:List Value} (hy : ∀ y∈ys,∃ k' c,y=Value.ref c∧IsN s.heap k' c) (h:Q false s) :
  wpAny (model P w) A (searchCouldBeSeen (.ref b) ys) Q E s:=by
 unfold searchCouldBeSeen
 refine af ?_
 refine wpAny_forIn_list _ (λrest r s'=>r.1=none∧s'=s ∧ ∀ y∈rest,∃ k' c,y=Value.ref c∧IsN s.heap k' c) _ ?_ ?_ _ _ ⟨rfl,rfl,hy⟩
 ·rintro v rest r s' ⟨hr,rfl,hall⟩
  obtain ⟨k',c,rfl,hc⟩:=hall v bu
  have rest' : ∀ y∈rest,∃ k' c,y=Value.ref c∧IsN s'.heap k' c:=λu hu'=>hall u (aE _ hu')
  dsimp only
  by_cases hv:(b==c||(carriedByValue (.ref b)&&carriedByValue (.ref c)))=true
  ·refine wp_if_pos hv ?_
   exact ah ⟨rfl,rfl,rest'⟩
  ·refine fy hv ?_
   refine af (quiet_key k _ 8 _ hk.1 hk.2 _ _ _ ?_)
   simp only [Bool.not_true,cV,if_false]
   refine af (quiet_key k' _ 8 _ hc.1 hc.2 _ _ _ ?_)
   simp only [Bool.not_true,cV,if_false]
   refine af (qX k _ 8 _ hk.1 hk.2 _ _ _ ?_)
   simp only [cV,if_false]
   refine af (qX k' _ 8 _ hc.1 hc.2 _ _ _ ?_)
   simp only [cV,if_false]
   exact ah ⟨rfl,rfl,rest'⟩
 ·rintro ⟨r1,r2⟩ s' ⟨hr,rfl,_⟩
  simp only at hr
  subst hr
  exact ah h
theorem IsN.keep {h h':Heap} {k:NestedKey} {b:Addr} (x:IsN h k b) (hk : ∀ c o,h.get? c=some o→h'.get? c=some o):IsN h' k b:=
 ⟨NestedIs.at (λc o vs n e _=>hk c o e) k _ x.1,x.2⟩
theorem IsN.same {h h':Heap} {k:NestedKey} {a b:Addr} {o:Obj} {es:Array (Int × Value)} {ep:Nat} {t:SetTable} (hb:IsN h k b) (ho:h.get? a=some o) (hd:o.data = .set es ep t) (hs:Heap.SameBut a h h'):IsN h' k b:=
 ⟨NestedIs.at (λc ob vs n e hc=>by
  refine (hs.2 c λz => ?_).trans e
  subst z
  rw [ho] at e
  cases e
  rw [hd] at hc
  cases hc) k _ hb.1,hb.2⟩
theorem OO {A:Around} {E:Value→Shared→Prop} {s:Shared} {P:Program} {w:World} {x y:NestedKey} {a b:Addr} {Q:Bool→Shared→Prop} (hu:A.units+8<cLine) (hx:IsN s.heap x a) (hy:IsN s.heap y b) (h:Q (decide (x=y)) s) :
  wpAny (model P w) A (eqBool (.ref a) (.ref b)) Q E s:=
 eqAt_key x y A s _ _ hx.1 hy.1 (by have:=hx.2; omega) _ _ _ _ (by rw [← NestedKey.decide_eq]; exact h)
noncomputable def cH (w:World) (L:List (Addr × NestedKey)):List (Int × Value):=L.map λp=>(nh w p.2,Value.ref p.1)
structure bO (w:World) (h:Heap) (a:Addr) (L:List (Addr × NestedKey)) (es:Array (Int × Value)) (ep:Nat) (t:SetTable):Prop where
 ob : ∃ o,h.get? a=some o∧o.ExactSet∧o.data = .set es ep t
 rows:es.toList=cH w L
 tab:TabOk t (L.map λp=>nh w p.2)
 nd:(L.map (·.2)).Nodup
 tup : ∀ p∈L,IsN h p.2 p.1
 led:w.params.followText "set-order" = true∨t.led=true
 room:L.length*5<t.mask*3
 few:L.length<64
variable {a:Addr} {L:List (Addr × NestedKey)} {es:Array (Int × Value)} {ep:Nat} {t:SetTable}
theorem bO.size (R:bO w s.heap a L es ep t):es.size=L.length:=by
 have h:=bF List.length R.rows
 unfold cH at h
 rw [bY,aq] at h
 exact h
theorem bO.fits (R:bO w s.heap a L es ep t):t.fits es.size=true:=by
 have h1:=R.tab.sz
 rw [aq] at h1
 have h2:=R.size
 have h3:=R.room
 unfold SetTable.fits SetTable.fill
 rw [R.tab.dm,ai,beq_iff_eq,aw]
 show t.place.size=es.size∧t.place.size+0≤t.mask
 omega
theorem bO.entry (R:bO w s.heap a L es ep t) {i:Nat} {p:Addr × NestedKey} (h:L[i]? = some p):es[i]? = some (nh w p.2,Value.ref p.1):=by
 rw [← kh,R.rows]
 unfold cH
 rw [List.getElem?_map,h] <;> rfl
theorem bO.gw (R:bO w s.heap a L es ep t) : ¬ t.gaveWay=true:=by
 unfold SetTable.gaveWay
 rw [mask_odd R.tab.mok]
 decide
theorem search_from (R:bO w s.heap a L es ep t) {x:Addr} {k:NestedKey} (hx:IsN s.heap k x) (hu:A.units+8<cLine) {K:Nat} (hKf:K<10*SetTable.turns t.mask)
  (hK:way t.mask (nh w k) K∉t.place.toList) (hKb : ∀ c,c<K→way t.mask (nh w k) c∈t.place.toList) {Q:SetFound→Shared→Prop}
  (hin:k∈L.map (·.2)→Q (.there none) s) (hout:k∉L.map (·.2)→Q (.free (way t.mask (nh w k) K) false) s) :
  ∀ (f c:Nat) (stand:Option SetTable.Probe),stand.getD (t.probeStart (nh w k))=nth t.mask (runAt t.mask (SetTable.bits (nh w k)%(t.mask+1)) (SetTable.bits (nh w k))) c→c≤K→K-c<f →
   (∀ (i:Nat) p,L[i]? = some p→p.2=k → ∃ c',c≤c'∧c'<K∧t.place.toList[i]? = some (way t.mask (nh w k) c')) →
   wpAny (model P w) A (setSearchFrom a (.ref x) (nh w k) true f stand) Q E s
 | 0,c,stand,_,_,hf,_=>absurd hf (e_ _)
 | f+1,c,stand,hst,hc,hf,hre=>by
  obtain ⟨o,ho,hex,hd⟩:=R.ob
  rw [setSearchFrom_succ]
  refine af (wpAny_setState_of ho hd R.fits ?_)
  dsimp only
  refine fy R.gw ?_
  try refine af (ah ?_)
  have hnd:(nth t.mask (runAt t.mask (SetTable.bits (nh w k)%(t.mask+1)) (SetTable.bits (nh w k))) c).dummy=none:=by
   have key : ∀ (n:Nat) (p:SetTable.Probe),p.dummy=none→(nth t.mask p n).dummy=none:=by
    intro n
    induction n with
    | zero=>intro p h; exact h
    | succ n ih =>
     intro p h
     refine ih (adv t.mask p) ?_
     unfold adv
     split <;> exact h
   exact key c _ rfl
  have sh : ∀ q,nth t.mask (nth t.mask (runAt t.mask (SetTable.bits (nh w k)%(t.mask+1)) (SetTable.bits (nh w k))) c) q=nth t.mask (runAt t.mask (SetTable.bits (nh w k)%(t.mask+1)) (SetTable.bits (nh w k))) (c+q):=λq=>(nth_add t.mask c _ q).symm
  have e1 : ∀ q,(nth t.mask (nth t.mask (runAt t.mask (SetTable.bits (nh w k)%(t.mask+1)) (SetTable.bits (nh w k))) c) q).j=way t.mask (nh w k) (c+q):=λq=>bF SetTable.Probe.j (sh q)
  have spec:=go_spec t R.tab.ris R.tab.dm (λi=>(es[i]?.map (·.1)).getD 0) (nh w k) (10*SetTable.turns t.mask) (K-c) _ hnd (by omega)
   (λq hq=>by rw [e1]; exact hKb (c+q) (by omega)) (by rw [e1,show c+(K-c)=K by omega]; exact hK)
  have hashAt : ∀ (i:Nat) p,L[i]? = some p→(λi=>(es[i]?.map (·.1)).getD 0) i=nh w p.2:=λi p hp=>by
   show (es[i]?.map (·.1)).getD 0=_
   rw [R.entry hp] <;> rfl
  rcases spec with ⟨q,i,hq,hi,hh,hno,hpr⟩ | ⟨hno,hpr⟩
  ·-- a candidate
   have hpr':t.probe (λi=>(es[i]?.map (·.1)).getD 0) (nh w k) (stand.getD (t.probeStart (nh w k)))=some (.candidate (way t.mask (nh w k) (c+q)) i (nth t.mask (runAt t.mask (SetTable.bits (nh w k)%(t.mask+1)) (SetTable.bits (nh w k))) (c+(q+1)))):=by
    rw [hst,← e1,← sh]
    exact hpr
   rw [hpr']
   dsimp only
   rw [e1] at hi
   have hil:i<L.length:=by
    have h1:i<t.place.toList.length:=(List.getElem?_eq_some_iff.mp hi).1
    have h2:=R.tab.sz
    rw [aq] at h2
    rw [bY] at h1
    omega
   have hp:L[i]? = some L[i]:=List.getElem?_eq_getElem hil
   generalize hpe:L[i]=p at hp
   have hmem:p∈L:=eA hp
   have hpt:=R.tup p hmem
   have rest:wpAny (model P w) A (searchRest a (.ref x) (nh w k) true f es t (way t.mask (nh w k) (c+q)) i (nth t.mask (runAt t.mask (SetTable.bits (nh w k)%(t.mask+1)) (SetTable.bits (nh w k))) (c+(q+1)))) Q E s:=by
    unfold searchRest
    rw [R.entry hp]
    dsimp only
    refine af (bA (OO hu hpt hx ?_))
    refine af (wpAny_setState_of ho hd R.fits ?_)
    dsimp only
    by_cases hkk:p.2=k
    ·refine wp_if_pos (by simp [hkk]) ?_
     refine ah (hin ?_)
     exact fA.mpr ⟨p,hmem,hkk⟩
    ·refine fy (by simp [hkk]) ?_
     try refine af (ah ?_)
     rw [sameMem]
     dsimp only
     have hsl:t.slot (way t.mask (nh w k) (c+q)) = .live i:=slot_live R.tab.ris hi
     simp only [if_true,hsl,R.entry hp]
     refine af (wpAny_isSame_ref_self (af (ah ?_)))
     simp only [if_true]
     refine fy (by simp [hkk]) ?_
     refine search_from R hx hu hKf hK hKb hin hout f (c+(q+1)) _ rfl (by omega) (by omega) λi0 p0 h0 hk0 => ?_
     obtain ⟨c',a1,a2,a3⟩:=hre i0 p0 h0 hk0
     refine ⟨c',?_,a2,a3⟩
     rcases Nat.lt_or_ge c' (c+q) with z | z
     ·exfalso
      refine hno (c'-c) i0 (by omega) (by rw [e1,show c+(c'-c)=c' by omega]; exact a3) ?_
      exact (hashAt i0 p0 h0).trans (bF (nh w) hk0)
     ·rcases Nat.lt_or_ge (c+q) c' with y | y
      ·omega
      ·exfalso
       have ec:c'=c+q:=Nat.le_antisymm y z
       rw [ec] at a3
       have s0:=slot_live R.tab.ris a3
       rw [hsl] at s0
       injection s0 with s0
       rw [← s0,hp] at h0
       exact hkk ((bF Prod.snd (bQ h0)).trans hk0)
   by_cases hl:t.led=true
   ·refine fy (by simp [hl]) ?_
    try refine af (ah ?_)
    exact rest
   ·refine wp_if_pos (by simp [hl]) ?_
    refine af (JY hx (λy hy => ?_) ?_)
    ·obtain ⟨e,he,ee⟩:=fA.mp hy
     have he1:e∈es∧e.1=nh w k:=by simpa using he
     have he2:e∈es.toList:=by simpa using he1.1
     rw [R.rows] at he2
     obtain ⟨p2,hp2,e2⟩:=fA.mp he2
     refine ⟨p2.2,p2.1,?_,R.tup p2 hp2⟩
     rw [← ee,← e2]
    ·refine fy (by decide) ?_
     try refine af (ah ?_)
     exact rest
  ·-- the empty slot
   have hpr':t.probe (λi=>(es[i]?.map (·.1)).getD 0) (nh w k) (stand.getD (t.probeStart (nh w k)))=some (.empty (way t.mask (nh w k) K) none):=by
    have e2:way t.mask (nh w k) K=(nth t.mask (nth t.mask (runAt t.mask (SetTable.bits (nh w k)%(t.mask+1)) (SetTable.bits (nh w k))) c) (K-c)).j:=by
     rw [e1,show c+(K-c)=K by omega]
    rw [hst,e2]
    exact hpr
   rw [hpr']
   dsimp only
   refine ah (hout λhm => ?_)
   obtain ⟨p0,h0,hk0⟩:=fA.mp hm
   obtain ⟨i0,hi0,e0⟩:=List.getElem_of_mem h0
   have h00:L[i0]? = some p0:=by rw [List.getElem?_eq_getElem hi0,e0]
   obtain ⟨c',a1,a2,a3⟩:=hre i0 p0 h00 hk0
   refine hno (c'-c) i0 (by omega) (by rw [e1,show c+(c'-c)=c' by omega]; exact a3) ?_
   exact (hashAt i0 p0 h00).trans (bF (nh w) hk0)
theorem search_at (R:bO w s.heap a L es ep t) {x:Addr} {k:NestedKey} (hx:IsN s.heap k x) (hu:A.units+8<cLine) {Q:SetFound→Shared→Prop}
  (hin:k∈L.map (·.2)→Q (.there none) s)
  (hout : ∀ K,k∉L.map (·.2)→way t.mask (nh w k) K∉t.place.toList→(∀ c,c<K→way t.mask (nh w k) c∈t.place.toList)→Q (.free (way t.mask (nh w k) K) false) s) :
  wpAny (model P w) A (setSearch a (.ref x) (nh w k) true) Q E s:=by
 have hroom:=R.room
 obtain ⟨K,hKf,hK,hKb⟩:=R.tab.first (by rw [aq]; omega) (nh w k)
 have hbig:K<100000:=by
  have:10*SetTable.turns t.mask≤1420:=by
   unfold SetTable.turns
   rcases R.tab.mok with e | e | e <;> omega
  omega
 unfold setSearch
 refine search_from R hx hu hKf hK hKb hin (λhn=>hout K hn hK hKb) 100000 0 none rfl (cy _) (by omega) λi p hp hk => ?_
 have hi:(L.map λp=>nh w p.2)[i]? = some (nh w k):=by rw [List.getElem?_map,hp,← hk] <;> rfl
 have hil:i<t.place.toList.length:=by
  have h1:i<L.length:=(List.getElem?_eq_some_iff.mp hp).1
  have h2:=R.tab.sz
  rw [aq] at h2
  rw [bY]
  omega
 have hj:=List.getElem?_eq_getElem hil
 obtain ⟨c,hc,e⟩:=R.tab.before hK hi hj
 exact ⟨c,cy _,hc,by rw [hj,e]⟩
end
section
variable {P:Program} {w:World} {A:Around} {E:Value→Shared→Prop} {s:Shared}
theorem Ef {w:World} (L:List (Addr × NestedKey)) (p:Nat) (x:Addr) (k:NestedKey):cH w (L.take p++(x,k)::L.drop p)=(cH w L).take p++(nh w k,Value.ref x)::(cH w L).drop p:=by
 unfold cH
 rw [cW,aI,kD,List.map_drop]
theorem order_rows (L:List (Addr × NestedKey)) (es:Array (Int × Value)) (order:Array Nat) (hr:es.toList=cH w L) (hp:order.toList.Perm (List.range L.length)) :
  ∃ L2,(order.filterMap (es[·]?)).toList=cH w L2∧L2.Perm L∧(L2.map λp=>nh w p.2)=order.toList.map λi=>(es.map (·.1)).getD i 0:=by
 have hsz:es.size=L.length:=by
  have h:=bF List.length hr
  unfold cH at h
  rw [bY,aq] at h
  exact h
 have ent : ∀ i (h:i<L.length),es[i]? = some (nh w (L[i]).2,Value.ref (L[i]).1):=λi h=>by
  rw [← kh,hr]
  unfold cH
  rw [List.getElem?_map,List.getElem?_eq_getElem h] <;> rfl
 have key : ∀ l:List Nat,(∀ i∈l,i<L.length) → ∃ L2:List (Addr × NestedKey),l.filterMap (λi=>es[i]?)=cH w L2∧L2=l.filterMap (λi=>L[i]?)∧(L2.map λp=>nh w p.2)=l.map λi=>(es.map (·.1)).getD i 0:=by
  intro l
  induction l with
  | nil=>intro _; exact ⟨[],rfl,rfl,rfl⟩
  | cons i l ih =>
   intro hl
   have hi:=hl i bu
   obtain ⟨L2,e1,e2,e3⟩:=ih λj hj=>hl j (aE _ hj)
   refine ⟨L[i]::L2,?_,?_,?_⟩
   ·rw [List.filterMap_cons_some (ent i hi),e1] <;> rfl
   ·rw [List.filterMap_cons_some (List.getElem?_eq_getElem hi),e2]
   ·rw [aI,aI,e3]
    have hi2:i<(es.map (·.1)).size:=by rw [Array.size_map,hsz]; exact hi
    have e4:(es.map (·.1)).getD i 0=nh w (L[i]).2:=by
     have e5:(es.map (·.1))[i]? = some (nh w (L[i]).2):=by rw [Array.getElem?_map,ent i hi] <;> rfl
     simp [Array.getD_eq_getD_getElem?,e5]
    rw [e4]
 obtain ⟨L2,e1,e2,e3⟩:=key order.toList λi hi=>List.mem_range.mp (hp.mem_iff.mp hi)
 refine ⟨L2,by first | (rw [Array.toList_filterMap]; exact e1) | simpa using e1,?_,e3⟩
 have h1:L2.Perm ((List.range L.length).filterMap λi=>L[i]?):=by
  rw [e2]
  exact hp.filterMap _
 have h2:(List.range L.length).filterMap (λi=>L[i]?)=L:=by
  have key2 : ∀ n,n≤L.length→(List.range n).filterMap (λi=>L[i]?)=L.take n:=by
   intro n
   induction n with
   | zero=>intro _; rfl
   | succ n ih =>
    intro hn
    have hlt:n<L.length:=hn
    rw [List.range_succ,List.filterMap_append,ih (Nat.le_of_lt hlt),List.take_succ,List.getElem?_eq_getElem hlt]
    rw [List.filterMap_cons_some (List.getElem?_eq_getElem hlt)] <;> rfl
  rw [key2 L.length (aC _),List.take_length]
 rw [h2] at h1
 exact h1
variable {a:Addr} {L:List (Addr × NestedKey)} {es:Array (Int × Value)} {ep:Nat} {t:SetTable}
theorem relay_at {o:Obj} (ho:s.heap.get? a=some o) (hex:o.ExactSet) (hd:o.data = .set es ep t) (hrows:es.toList=cH w L) (hsz:t.place.size=es.size) (hdm:t.dummies = #[]) (hfl:es.size≤t.mask)
  (nd:(L.map (·.2)).Nodup) (tup : ∀ p∈L,IsN s.heap p.2 p.1) (ld:w.params.followText "set-order" = true∨t.led=true) (few:L.length<64) {wanted M:Nat}
  (hw:SetTable.sizeAbove wanted-1=M) (hM:MaskOk M) (hw2:SetTable.sizeAbove wanted≤128) (hn:L.length*5<M*3) {Q:Unit→Shared→Prop}
  (hQ : ∀ h' L' es' ep' t',Heap.SameBut a s.heap h'→bO w h' a L' es' ep' t'→L'.Perm L→Q () { s with heap:=h' }):wpAny (model P w) A (setRelay a wanted) Q E s:=by
 have hsl:es.size=L.length:=by
  have h:=bF List.length hrows
  unfold cH at h
  rw [bY,aq] at h
  exact h
 have hfits:t.fits es.size=true:=by
  unfold SetTable.fits SetTable.fill
  rw [hdm,ai,beq_iff_eq,aw]
  show t.place.size=es.size∧t.place.size+0≤t.mask
  omega
 obtain ⟨t',order,e,hp,T,em,el,ep',ed⟩:=relaid_ok t (hs:=es.map (·.1)) (wanted:=wanted) hw hM (by rw [Array.size_map,hsl]; omega)
 rw [Array.size_map,hsl] at hp
 obtain ⟨L2,r1,r2,r3⟩:=order_rows L es order hrows hp
 rw [← r3] at T
 have hs2:(order.filterMap (es[·]?)).size=es.size:=by
  have h:=bF List.length r1
  unfold cH at h
  rw [bY,aq,r2.length_eq] at h
  rw [h,hsl]
 rw [setRelay_eq]
 refine af (wpAny_setState_of ho hd hfits ?_)
 dsimp only
 refine fy (by rw [sizeLine_eq]; omega) ?_
 try refine af (ah ?_)
 rw [e]
 dsimp only
 refine af ?_
 refine fy (by rw [hs2]; simp) ?_
 try refine af (ah ?_)
 refine ah ?_
 dsimp only
 refine wpAny_storeSet_of ho hd ?_ (by rw [hs2,hsl,sizeLine_eq]; omega)
 have sb:Heap.SameBut a s.heap (s.heap.update a (Obj.putSet (order.filterMap (es[·]?)) t')):=Heap.SameBut.update ..
 refine hQ _ L2 (order.filterMap (es[·]?)) (ep+1) t' sb ?_ r2
 refine ⟨⟨_,store_at ho hd,⟨hex.1,hex.2.1,hex.2.2⟩,rfl⟩,r1,T,?_,λp hpm=>(tup p (r2.mem_iff.mp hpm)).same ho hd sb,by rw [el]; exact ld,?_,by rw [r2.length_eq]; exact few⟩
 ·exact (r2.map (·.2)).nodup_iff.mpr nd
 ·rw [r2.length_eq,em]
  exact hn
theorem add_at (R:bO w s.heap a L es ep t) {x:Addr} {k:NestedKey} (hx:IsN s.heap k x) (hu:A.units+8<cLine) (hfew:L.length+1<64) {Q:Bool→Shared→Prop}
  (hQ : ∀ b h' L' es' ep' t',Heap.SameBut a s.heap h'→bO w h' a L' es' ep' t'→(k∈L.map (·.2)→L'=L)→(k∉L.map (·.2)→L'.Perm ((x,k)::L))→Q b { s with heap:=h' }) :
  wpAny (model P w) A (setAddHashed a (.ref x) (nh w k)) Q E s:=by
 obtain ⟨o,ho,hex,hd⟩:=R.ob
 have hsl:=R.size
 have hroom:=R.room
 unfold setAddHashed
 refine bA ?_
 rw [show (100000:Nat)=99999+1 from rfl,setAddHashedIn_succ]
 refine af (wpAny_setState_of ho hd R.fits ?_)
 dsimp only
 refine fy (by simp [byScan,Value.scannable]) ?_
 try refine af (ah ?_)
 refine af (search_at R hx hu (λhm => ?_) λK hm hK hb => ?_)
 ·dsimp only
  exact ah (hQ false s.heap L es ep t (Heap.SameBut.refl a s.heap) R (λ_=>rfl) λz=>absurd hm z)
 ·dsimp only
  refine af (wpAny_setState_of ho hd R.fits ?_)
  dsimp only
  obtain ⟨q1,q2,q3,q4,q5,q6,q7,q8,q9⟩:=R.tab.put hK hb
  generalize hpt:t.put (way t.mask (nh w k) K)=pt at q1 q3 q4 q5 q6 q7 q8 q9 ⊢
  obtain ⟨t1,p⟩:=pt
  dsimp only at q1 q3 q4 q5 q6 q7 q8 q9 ⊢
  subst q1
  have hbb : ∀ {γ:Type} (f:Bool→Sem γ) (Q':γ→Shared→Prop),(∀ b,wpAny (model P w) A (f b) Q' E s)→wpAny (model P w) A (if t1.plain=true then (hashByValue 8 (.ref x) >>= f) else (pure true >>= f)) Q' E s:=by
   intro γ f Q' h
   by_cases c:t1.plain=true
   ·rw [if_pos c]
    exact af (xJ k _ 8 _ hx.1 hx.2 _ _ _ h)
   ·rw [if_neg c]
    exact af (ah (h true))
  have hrest : ∀ b:Bool,TabOk (if b=true then t1 else { t1 with plain:=false }) _∧(if b=true then t1 else { t1 with plain:=false }).mask=t.mask∧(if b=true then t1 else { t1 with plain:=false }).led=t.led∧(if b=true then t1 else { t1 with plain:=false }).fill=_:=λb=>by
   cases b with
   | true=>exact ⟨q3,q4,q5,q9⟩
   | false=>exact ⟨⟨q3.ris,q3.dm,q3.sz,q3.mok,q3.bd,q3.reach⟩,q4,q5,q9⟩
  clear q3 q4 q5 q6 q7 q8 q9
  refine hbb _ _ λb => ?_
  obtain ⟨q3,q4,q5,q9⟩:=hrest b
  generalize (if b=true then t1 else { t1 with plain:=false })=t1 at q3 q4 q5 q9 ⊢
  have hin:(SetTable.insertAt es (SetTable.below t.place (way t.mask (nh w k) K)) (nh w k,Value.ref x)).toList=cH w (L.take (SetTable.below t.place (way t.mask (nh w k) K))++(x,k)::L.drop (SetTable.below t.place (way t.mask (nh w k) K))):=by
   rw [SetTable.toList_insertAt,Ef,R.rows]
  generalize hpp:SetTable.below t.place (way t.mask (nh w k) K)=p at q2 q3 hin ⊢
  have pm:=put_perm L p (x,k)
  have hlen:(L.take p++(x,k)::L.drop p).length=L.length+1:=pm.length_eq
  have hhs:(L.take p++(x,k)::L.drop p).map (λp=>nh w p.2)=(L.map λp=>nh w p.2).take p++nh w k::(L.map λp=>nh w p.2).drop p:=by
   rw [cW,aI,kD,List.map_drop]
  rw [← hhs] at q3
  have nd1:((L.take p++(x,k)::L.drop p).map (·.2)).Nodup:=by
   refine (pm.map (·.2)).nodup_iff.mpr ?_
   rw [aI]
   exact List.nodup_cons.mpr ⟨hm,R.nd⟩
  have hes:(SetTable.insertAt es p (nh w k,Value.ref x)).size=L.length+1:=by
   have h:=bF List.length hin
   unfold cH at h
   rw [bY,aq,hlen] at h
   exact h
  generalize SetTable.insertAt es p (nh w k,Value.ref x)=es1 at hin hes ⊢
  generalize L.take p++(x,k)::L.drop p=L1 at pm hlen q3 nd1 hin
  refine af (wpAny_storeSet_of ho hd ?_ (by rw [hes,sizeLine_eq]; omega))
  have sb:Heap.SameBut a s.heap (s.heap.update a (Obj.putSet es1 t1)):=Heap.SameBut.update ..
  have ho1:=store_at (es':=es1) (t':=t1) ho hd
  generalize s.heap.update a (Obj.putSet es1 t1)=h1 at sb ho1 ⊢
  have tup1 : ∀ p∈L1,IsN h1 p.2 p.1:=λp hp=>by
   rcases cG.mp (pm.mem_iff.mp hp) with e | hp
   ·rw [e]; exact hx.same ho hd sb
   ·exact (R.tup p hp).same ho hd sb
  have ld1:w.params.followText "set-order" = true∨t1.led=true:=by rw [q5]; exact R.led
  by_cases hf:t1.tooFull=true
  ·first
    | (refine af ?_; refine wp_if_pos (by simp [hf]) ?_)
    | (refine wp_if_pos (by simp [hf]) ?_; refine af ?_)
   have hfull:(L.length+1)*5≥t1.mask*3:=by
    have h:=hf
    unfold SetTable.tooFull at h
    rw [aw,q9,aq] at h
    exact h
   rw [hsl]
   have hsz1:t1.place.size=es1.size:=by
    have h:=q3.sz
    rw [aq,hlen] at h
    rw [h,hes]
   have cases2:(t.mask=7∧L.length=4)∨(t.mask=31∧L.length=18):=by
    rcases R.tab.mok with e | e | e
    ·left; rw [q4,e] at hfull; rw [e] at hroom; exact ⟨e,by omega⟩
    ·right; rw [q4,e] at hfull; rw [e] at hroom; exact ⟨e,by omega⟩
    ·exfalso; rw [q4,e] at hfull; omega
   have go : ∀ M,SetTable.sizeAbove (SetTable.grown (L.length+1))-1=M→MaskOk M→SetTable.sizeAbove (SetTable.grown (L.length+1))≤128→(L.length+1)*5<M*3 →
     wpAny (model P w) A (setRelay a (SetTable.grown (L.length+1))) (λ_ s'=>wpAny (model P w) A (pure true) Q E s') E { s with heap:=h1 }:=λM h1' h2' h3' h4'=>by
    refine relay_at (s:={ s with heap:=h1 }) ho1 ⟨hex.1,hex.2.1,hex.2.2⟩ rfl hin hsz1 q3.dm (by rw [hes,q4]; rcases cases2 with ⟨e,e2⟩ | ⟨e,e2⟩ <;> omega) nd1 tup1 ld1 (by rw [hlen]; exact hfew) h1' h2' h3' (by rw [hlen]; exact h4') ?_
    intro h2 L2 es2 ep2 t2 sb2 R2 pm2
    refine ah (hQ true h2 L2 es2 ep2 t2 (sb.trans sb2) R2 (λz=>absurd z hm) λ_=>pm2.trans pm)
   rcases cases2 with ⟨_,e2⟩ | ⟨_,e2⟩
   ·refine go 31 (by rw [e2,size_20]) (.inr (.inl rfl)) (by rw [e2,size_20]; decide) (by omega)
   ·refine go 127 (by rw [e2,size_76]) (.inr (.inr rfl)) (by rw [e2,size_76]; decide) (by omega)
  ·first
    | refine fy (by simp [hf]) ?_
    | (refine af ?_; refine fy (by simp [hf]) ?_; refine ah ?_)
   refine ah (hQ true h1 L1 es1 (ep+1) t1 sb ⟨⟨_,ho1,⟨hex.1,hex.2.1,hex.2.2⟩,rfl⟩,hin,q3,nd1,tup1,ld1,?_,by rw [hlen]; exact hfew⟩ (λz=>absurd z hm) λ_=>pm)
   have h:=hf
   unfold SetTable.tooFull at h
   rw [aw,q9,aq] at h
   rw [hlen]
   omega
end
structure Got (ks:List (Addr × NestedKey)) (i:Nat) (L:List (Addr × NestedKey)):Prop where
 sub : ∀ p∈L,p∈ks.take i
 all : ∀ p∈ks.take i,p.2∈L.map (·.2)
 len:L.length≤i
theorem Got.zero (ks:List (Addr × NestedKey)):Got ks 0 []:=⟨λp h=>(by cases h),λp h=>(by simp at h),aC _⟩
theorem Got.same {ks L:List (Addr × NestedKey)} {i:Nat} {x:Addr × NestedKey} (g:Got ks i L) (h:ks[i]? = some x) (hm:x.2∈L.map (·.2)):Got ks (i+1) L:=by
 refine ⟨λp hp => ?_,λp hp => ?_,mB g.len⟩
 ·rw [take_next h]
  exact dh _ (g.sub p hp)
 ·rw [take_next h] at hp
  rcases j6.mp hp with z | z
  ·exact g.all p z
  ·rw [c7.mp z]; exact hm
theorem Got.more {ks L L':List (Addr × NestedKey)} {i:Nat} {x:Addr × NestedKey} (g:Got ks i L) (h:ks[i]? = some x) (pm:L'.Perm (x::L)):Got ks (i+1) L':=by
 refine ⟨λp hp => ?_,λp hp => ?_,?_⟩
 ·rw [take_next h]
  rcases cG.mp (pm.mem_iff.mp hp) with e | z
  ·rw [e]; exact dW _ (c7.mpr rfl)
  ·exact dh _ (g.sub p z)
 ·rw [(pm.map (·.2)).mem_iff,aI]
  rw [take_next h] at hp
  rcases j6.mp hp with z | z
  ·exact aE _ (g.all p z)
  ·rw [c7.mp z]; exact bu
 ·rw [pm.length_eq,a8]
  exact Nat.succ_le_succ g.len
section
variable {P:Program} {w:World} {A:Around} {E:Value→Shared→Prop} {s:Shared}
theorem bO.keep {h h':Heap} {a:Addr} {L:List (Addr × NestedKey)} {es:Array (Int × Value)} {ep:Nat} {t:SetTable} (R:bO w h a L es ep t) (ha : ∀ o,h.get? a=some o→h'.get? a=some o) (ht : ∀ p∈L,IsN h' p.2 p.1):bO w h' a L es ep t:=by
 obtain ⟨o,ho,r⟩:=R.ob
 exact ⟨⟨o,ha o ho,r⟩,R.rows,R.tab,R.nd,ht,R.led,R.room,R.few⟩
theorem setTR_fresh {h:Heap} {a:Addr} (ho:h.get? a=some { cls:=.type "set",dict:=none,data:=.set #[] 0 (.fresh 0 0 (!w.params.followText "set-order")) }):bO w h a [] #[] 0 (.fresh 0 0 (!w.params.followText "set-order")) where
 ob:=⟨_,ho,⟨rfl,rfl,rfl⟩,rfl⟩
 rows:=rfl
 tab:=⟨List.Pairwise.nil,rfl,rfl,.inl rfl,λx hx=>(by cases hx),λi h j hi=>(by simp at hi)⟩
 nd:=List.nodup_nil
 tup:=λp hp=>(by cases hp)
 led:=by
  show _∨(!w.params.followText "set-order")=true
  cases w.params.followText "set-order"
  ·exact .inr rfl
  ·exact .inl rfl
 room:=by
  show 0*5<7*3
  decide
 few:=by
  show 0<64
  decide
theorem set_update_tups {I:Addr} {fp wr:List Addr} {G:Array GenState→Array GenState→Prop} {n:Nat} {Pv:Nat→Value→Prop} {St:Nat→Shared→Prop} {R:Result→Shared→Prop}
  (W:WalksS P w A.in1 I fp wr G n Pv St) (S:Addr) (hSf:S∉fp) (ks:List (Addr × NestedKey)) (hn:n=ks.length) (hfew : ∀ L:List (Addr × NestedKey),(L.map (·.2)).Nodup→(∀ p∈L,p∈ks)→L.length+1<64) (hval : ∀ i v,Pv i v → ∃ p,ks[i]? = some p∧v = .ref p.1)
  (h0:Heap) (hk : ∀ p∈ks,IsN h0 p.2 p.1) (hS0:h0.get? S=none) (hw0 : ∀ b∈wr,h0.get? b=none) (hu:A.in1.units+8<cLine) :
  ∀ (k i:Nat) (s:Shared),n-i=k→i≤n→St i s→(∀ b o,h0.get? b=some o→s.heap.get? b=some o)→(∃ L es ep t,bO w s.heap S L es ep t∧Got ks i L) →
   (∀ s' L es ep t,Moved (S::wr) G s s'→bO w s'.heap S L es ep t→Got ks n L→(∀ b o,h0.get? b=some o→s'.heap.get? b=some o)→R (.ok (.ret .none)) s') →
   codeAny (model P w) A (.builtin "set.update.loop" ⟨[.ref S,.ref I],[]⟩) R s:=by
 have hSw:S∉wr:=λh=>hSf (W.sub _ h)
 have hsub : ∀ b∈wr,b∈S::wr:=λb hb=>aE _ hb
 have keepM : ∀ {s s':Shared},Moved wr G s s'→(∀ b o,h0.get? b=some o→s.heap.get? b=some o) → ∀ b o,h0.get? b=some o→s'.heap.get? b=some o:=λhm hkp b o e =>
  hm.heap b o (λhb=>by rw [hw0 b hb] at e; cases e) (hkp b o e)
 intro k
 induction k with
 | zero =>
  intro i s hk' hi hst hkp ⟨L,es,ep,t,hS,g⟩ hR
  have hin:i=n:=by omega
  subst hin
  refine eR F.entry_set_update_loop ?_
  rw [gY F.plain_set_update_loop _]
  show wpAny _ A.in1 (pyNext (.ref I) >>= _) _ _ s
  refine af (W.done s _ _ hst λs' hm => ?_)
  show wpAny _ A.in1 (ret Value.none) _ _ s'
  have hkp':=keepM hm hkp
  have sub : ∀ p∈L,p∈ks:=λp hp=>j7 (g.sub p hp)
  exact ah (hR s' L es ep t (hm.mono hsub) (hS.keep (λo e=>hm.heap S o hSw e) λp hp=>IsN.keep (hk p (sub p hp)) hkp') g hkp')
 | succ k ih =>
  intro i s hk' hi hst hkp ⟨L,es,ep,t,hS,g⟩ hR
  have hlt:i<n:=by omega
  refine eR F.entry_set_update_loop ?_
  rw [gY F.plain_set_update_loop _]
  show wpAny _ A.in1 (pyNext (.ref I) >>= _) _ _ s
  refine af (W.item i s _ _ hlt hst λv s' hP hst' hm => ?_)
  obtain ⟨p,hp,rfl⟩:=hval i v hP
  have hkp':=keepM hm hkp
  have sub : ∀ p∈L,p∈ks:=λp hp=>j7 (g.sub p hp)
  have hS':bO w s'.heap S L es ep t:=hS.keep (λo e=>hm.heap S o hSw e) λq hq=>IsN.keep (hk q (sub q hq)) hkp'
  have hx:IsN s'.heap p.2 p.1:=IsN.keep (hk p (eA hp)) hkp'
  show wpAny _ A.in1 (holding [Value.ref p.1] (setAdd S (.ref p.1)) >>= _) _ _ s'
  refine af (bA ?_)
  unfold setAdd
  refine bA ?_
  refine af (pyHash_key p.2 _ _ _ _ hx.1 (by have:=hx.2; omega) ?_)
  refine add_at (s:={ s' with toks:=s'.toks+p.2.draws }) hS' hx hu (hfew L hS'.nd sub) λb h' L' es' ep' t' hsb hS2 c1 c2 => ?_
  have g':Got ks (i+1) L':=by
   rcases Classical.em (p.2∈L.map (·.2)) with c | c
   ·rw [c1 c]; exact g.same hp c
   ·exact g.more hp (c2 c)
  have hkp2 : ∀ b o,h0.get? b=some o→h'.get? b=some o:=λb o e=>(hsb.2 b (λz=>by rw [z,hS0] at e; cases e)).trans (hkp' b o e)
  refine ah ⟨plainId_quiet F.plain_set_update_loop _,ih (i+1) _ (by omega) hlt (W.frame _ s' _ _ hst' (Nat.le_add_right _ _) λb hb o e => ?_) hkp2 ⟨L',es',ep',t',hS2,g'⟩ λs'' L2 es2 ep2 t2 hm'' hS'' g'' hkp'' => ?_⟩
  ·rw [hsb.2 b (λh:b=S=>hSf (by rw [← h]; exact hb))]; exact e
  ·refine hR s'' L2 es2 ep2 t2 (Moved.trans W.gtrans ((hm.mono hsub).then_heap (Nat.le_add_right _ _) λb o hb e => ?_) hm'') hS'' g'' hkp''
   rw [hsb.2 b (λh:b=S=>hb (by rw [h]; exact bu))]; exact e
set_option maxRecDepth 100000 in
set_option maxHeartbeats 3200000 in
theorem call_set_tups {l:Addr} {items:Array Value} (ks:List (Addr × NestedKey)) {Q:Value→Shared→Prop} (hh:A.handled=none) (hl:s.heap.IsList l items) (hit:items.toList=ks.map λp=>Value.ref p.1)
  (hk : ∀ p∈ks,IsN s.heap p.2 p.1) (hfew : ∀ L:List (Addr × NestedKey),(L.map (·.2)).Nodup→(∀ p∈L,p∈ks)→L.length+1<64) (hu:A.units+11<cLine)
  (h : ∀ (h':Heap) (tk:Nat) L es ep t,bO w h' s.heap.objs.size L es ep t→Got ks ks.length L→(∀ b o,s.heap.get? b=some o→h'.get? b=some o)→Q (.ref s.heap.objs.size) { s with heap:=h',toks:=tk }) :
  wpAny (model P w) A (call (.type "set") [.ref l]) Q E s:=by
 have hisz:items.size=ks.length:=by
  have q:=bF List.length hit
  rw [bY,aq] at q
  exact q
 obtain ⟨c,tl,hmro⟩:=F.called_set.mro
 have hmade:=F.called_set.made
 have hsub:=F.called_set.sub
 refine eQ (codeAny_of_tree ?_)
 show wpAny _ _ (callAny (.type "set") _) _ _ _
 refine ah ⟨Code.quiet_builtin _ (by decide +kernel),eR F.entry_type_call ?_⟩
 rw [Around.under_plain (weight_type_call_type "set" [.ref l] []) rfl]
 have h1:=F.called_set.notType
 have h2:=F.called_set.canCreate
 have hct:=F.typeCall_set_1 (.ref l)
 repeat (any_goals (first | assumption | wp_step))
 refine dV (code_set_led1 (.ref l) (E:=E) (Q₁:=λobj s₁=>obj = .ref s.heap.objs.size∧s₁={ s with heap:=s.heap.push { cls:=.type "set",dict:=none,data:=.set #[] 0 (.fresh 0 0 (!w.params.followText "set-order")) } }) ⟨rfl,rfl⟩) λr s₁ hr => ?_
 cases r with
 | error e=>exact hr
 | ok fl =>
  cases fl with
  | ret obj =>
   obtain ⟨rfl,rfl⟩:=hr
   have hS:(s.heap.push { cls:=.type "set",dict:=none,data:=.set #[] 0 (.fresh 0 0 (!w.params.followText "set-order")) }).get? s.heap.objs.size=some { cls:=.type "set",dict:=none,data:=.set #[] 0 (.fresh 0 0 (!w.params.followText "set-order")) }:=bT _ rfl
   have hT:Shared.TypeIs { s with heap:=s.heap.push { cls:=.type "set",dict:=none,data:=.set #[] 0 (.fresh 0 0 (!w.params.followText "set-order")) } } (.ref s.heap.objs.size) "set":=⟨_,hS,rfl⟩
   have hli:=F.called_set.init.lookup
   have hbi:=F.called_set.init.bind (.ref s.heap.objs.size)
   repeat (any_goals (first | assumption | wp_step))
   refine dV (codeAny_call_builtin (R:=wants (λr s₂=>r = .none ∧ ∃ h' tk L es ep t,s₂={ s with heap:=h',toks:=tk }∧bO w h' s.heap.objs.size L es ep t∧Got ks ks.length L ∧
     (∀ b o,s.heap.get? b=some o→h'.get? b=some o)) E) F.called_set.init.plain F.entry_set_init (check_set_init_1 hT ?_)) λr₂ s₂ hr₂ => ?_
   ·obtain ⟨ol,hol,hcl,nl,hdl⟩:=hl
    obtain ⟨ocls,odict,odata,oslots⟩:=ol
    simp only at hcl hdl
    subst hcl; subst hdl
    have hol':(s.heap.push { cls:=.type "set",dict:=none,data:=.set #[] 0 (.fresh 0 0 (!w.params.followText "set-order")) }).get? l=some { cls:=.type "list",dict:=odict,data:=.seq items nl,slots:=oslots }:=aD _ hol
    have hsls:=F.sub_list_set
    have hslf:=F.sub_list_frozenset
    have hne:(Value.type "list" == Value.type "dict")=false:=by decide
    have hl1:(s.heap.push { cls:=.type "set",dict:=none,data:=.set #[] 0 (.fresh 0 0 (!w.params.followText "set-order")) }).IsList l items:=⟨_,hol',rfl,nl,rfl⟩
    unfold Builtin.«set.__init__» noKeywords Builtin.Frozenset.updateFrom
    generalize hPI:pyIter=PI
    wp_walk
    subst hPI
    refine kj hl1 ?_
    refine af (wpAny_runValue ?_)
    have hlS:l<s.heap.objs.size:=bD hol
    have hh3:A.in1.in1.in1.handled=none:=by simp [hh]
    have hz1:(s.heap.push { cls:=.type "set",dict:=none,data:=.set #[] 0 (.fresh 0 0 (!w.params.followText "set-order")) }).objs.size=s.heap.objs.size+1:=cU ..
    have hneI:l≠(s.heap.push { cls:=.type "set",dict:=none,data:=.set #[] 0 (.fresh 0 0 (!w.params.followText "set-order")) }).objs.size:=by
     rw [cU]; exact bU (jd hlS)
    have hSf:s.heap.objs.size∉[(s.heap.push { cls:=.type "set",dict:=none,data:=.set #[] 0 (.fresh 0 0 (!w.params.followText "set-order")) }).objs.size,l]:=by
     rw [cU]; simp only [cG,c7,fm,or_false,not_or]
     exact ⟨bU (Nat.lt_succ_self _),fS hlS⟩
    have hval : ∀ (i:Nat) (v:Value),items[i]? = some v → ∃ p,ks[i]? = some p∧v = .ref p.1:=λi v hv=>by
     have q:items.toList[i]? = some v:=by rw [kh]; exact hv
     rw [hit,List.getElem?_map] at q
     cases hq:ks[i]? with
     | none=>rw [hq] at q; cases q
     | some p =>
      rw [hq] at q
      exact ⟨p,rfl,(bQ q).symm⟩
    have none_of : ∀ b,s.heap.objs.size≤b→s.heap.get? b=none:=λb hb=>by
     cases q:s.heap.get? b with
     | none=>rfl
     | some o=>exact absurd (gX (bD q) hb) (Nat.lt_irrefl _)
    refine set_update_tups ((Walks.list hh3 _ l hneI items).toS) s.heap.objs.size
     hSf ks hisz hfew hval s.heap hk (none_of _ (aC _)) (λb hb=>none_of b (by
      rw [c7.mp hb,cU]
      exact fj _)) hu (items.size-0) 0 _ (by omega) (cy _)
     ⟨⟨_,bT _ rfl,rfl,rfl⟩,(hl1.push _)⟩ (λb o e=>aD _ (aD _ e)) ?hS0 ?hR
    case hS0 =>
     have hget:((s.heap.push { cls:=.type "set",dict:=none,data:=.set #[] 0 (.fresh 0 0 (!w.params.followText "set-order")) }).push { cls:=.type "list_iterator",data:=.fields #[.ref l,.int 0 0] }).get? s.heap.objs.size
       = some { cls:=.type "set",dict:=none,data:=.set #[] 0 (.fresh 0 0 (!w.params.followText "set-order")) }:=aD _ hS
     exact ⟨[],#[],0,_,setTR_fresh hget,Got.zero ks⟩
    case hR =>
     intro s' L es ep t hm hS' g' hkp
     obtain ⟨h',g2,d',tk',os'⟩:=s'
     have eg:g2=s.gens:=hm.gens
     have ed:d'=s.drawn:=hm.drawn
     have eo:os'=s.os:=hm.os
     subst eg; subst ed; subst eo
     show wpAny _ _ _ _ _ _
     refine ah ?_
     show wpAny _ _ (ret Value.none) _ _ _
     rw [hisz] at g'
     exact ah ⟨rfl,h',tk',L,es,ep,t,rfl,hS',g',hkp⟩
   ·cases r₂ with
    | error e=>exact hr₂
    | ok fl₂ =>
     cases fl₂ with
     | ret r =>
      obtain ⟨rfl,h',tk,L,es,ep,t,rfl,hS',g',hk'⟩:=hr₂
      repeat (any_goals (first | assumption | wp_step))
      exact h _ _ _ _ _ _ hS' g' hk'
     | _=>exact hr₂.elim
  | _=>exact hr.elim
end
end Pf

set_option maxRecDepth 100000
set_option autoImplicit true
namespace Pf
open PySem PySem.Spec PyProof.Rows L2
open PySem.SeqAt PySem.W
mutual
noncomputable def bV:NestedKey→List (Int ⊕ List Nat)
 | .none=>[.inl 0]
 | .num i=>[.inl 1,.inl i]
 | .text x=>[.inl 2,.inr x.cps.toList]
 | .tup ks => .inl 3::bJ ks
noncomputable def bJ:List NestedKey→List (Int ⊕ List Nat)
 | []=>[.inl 0]
 | k::ks => .inl 1::(bV k++bJ ks)
end
mutual
noncomputable def c6:NestedKey→NestedKey→Bool
 | .num _,.num _=>true
 | .text _,.text _=>true
 | .tup xs,.tup ys=>fT xs ys
 | _,_=>false
noncomputable def fT:List NestedKey→List NestedKey→Bool
 | x::xs,y::ys=>if NestedKey.beq x y=true then fT xs ys else c6 x y
 | [],_=>true
 | _::_,[]=>true
end
noncomputable def kLt (x y:NestedKey):Bool:=PyProof.Rows.lexLt itemOrd (bV x) (bV y)
noncomputable def Dif (a b:List (Int ⊕ List Nat)):Prop:=∃ p u v l m,a=p++u::l∧b=p++v::m∧u≠v
theorem Dif.cons {a b:List (Int ⊕ List Nat)} (x:Int ⊕ List Nat) (h:Dif a b):Dif (x::a) (x::b):=by
 obtain ⟨p,u,v,l,m,e1,e2,n⟩:=h
 exact ⟨x::p,u,v,l,m,by rw [e1]; rfl,by rw [e2]; rfl,n⟩
theorem Dif.pre {a b:List (Int ⊕ List Nat)} (q:List (Int ⊕ List Nat)) (h:Dif a b):Dif (q++a) (q++b):=by
 induction q with
 | nil=>exact h
 | cons x q ih=>exact ih.cons x
theorem Dif.app {a b:List (Int ⊕ List Nat)} (h:Dif a b) (l m:List (Int ⊕ List Nat)):Dif (a++l) (b++m):=by
 obtain ⟨p,u,v,l',m',e1,e2,n⟩:=h
 exact ⟨p,u,v,l'++l,m'++m,by rw [e1,eP]; rfl,by rw [e2,eP]; rfl,n⟩
theorem Dif.head {u v:Int ⊕ List Nat} {l m:List (Int ⊕ List Nat)} (h:u≠v):Dif (u::l) (v::m):=⟨[],u,v,l,m,rfl,rfl,h⟩
theorem Dif.ne {a b:List (Int ⊕ List Nat)} (h:Dif a b):a≠b:=by
 obtain ⟨p,u,v,l,m,e1,e2,n⟩:=h
 intro e
 rw [e1,e2] at e
 have:=List.append_cancel_left e
 injection this with q
 exact n q
theorem Dif.lt {a b:List (Int ⊕ List Nat)} (h:Dif a b) (l m:List (Int ⊕ List Nat)):PyProof.Rows.lexLt itemOrd (a++l) (b++m)=PyProof.Rows.lexLt itemOrd a b:=by
 obtain ⟨p,u,v,l',m',e1,e2,n⟩:=h
 rw [e1,e2,eP,eP,lex_pre,lex_pre]
 exact (lex_diff (O:=itemOrd) n).trans (lex_diff (O:=itemOrd) n).symm
mutual
theorem rL : ∀ (a b:NestedKey),a≠b→Dif (bV a) (bV b)
 | .none,.none,h=>absurd rfl h
 | .none,.num _,_ => .head (by simp)
 | .none,.text _,_ => .head (by simp)
 | .none,.tup _,_ => .head (by simp)
 | .num _,.none,_ => .head (by simp)
 | .num i,.num j,h=>Dif.cons _ (.head λe=>h (by rw [Sum.inl.inj e]))
 | .num _,.text _,_ => .head (by simp)
 | .num _,.tup _,_ => .head (by simp)
 | .text _,.none,_ => .head (by simp)
 | .text _,.num _,_ => .head (by simp)
 | .text x,.text y,h=>Dif.cons _ (.head λe=>h (by rw [str_of_cps (Sum.inr.inj e)]))
 | .text _,.tup _,_ => .head (by simp)
 | .tup _,.none,_ => .head (by simp)
 | .tup _,.num _,_ => .head (by simp)
 | .tup _,.text _,_ => .head (by simp)
 | .tup xs,.tup ys,h=>Dif.cons _ (zE xs ys λe=>h (by rw [e]))
theorem zE : ∀ (xs ys:List NestedKey),xs≠ys→Dif (bJ xs) (bJ ys)
 | [],[],h=>absurd rfl h
 | [],_::_,_ => .head (by simp)
 | _::_,[],_ => .head (by simp)
 | x::xs,y::ys,h=>by
  by_cases e:x=y
  ·subst e
   exact Dif.cons _ (Dif.pre _ (zE xs ys λe=>h (by rw [e])))
  ·exact Dif.cons _ (Dif.app (rL x y e) _ _)
end
theorem xb {a b:NestedKey} (h:bV a=bV b):a=b:=aV λn=>(rL a b n).ne h
theorem y5 {x y:NestedKey} {xs ys:List NestedKey} (e:NestedKey.beq x y=true):PyProof.Rows.lexLt itemOrd (bJ (x::xs)) (bJ (y::ys))=PyProof.Rows.lexLt itemOrd (bJ xs) (bJ ys):=by
 have e':=NestedKey.eq_of_beq _ _ e
 subst e'
 show PyProof.Rows.lexLt itemOrd (.inl 1::(bV x++bJ xs)) (.inl 1::(bV x++bJ ys))=_
 exact (lex_self (O:=itemOrd) _ _ _).trans (lex_pre _ _ _)
theorem vR {x y:NestedKey} {xs ys:List NestedKey} (e:NestedKey.beq x y=false):PyProof.Rows.lexLt itemOrd (bJ (x::xs)) (bJ (y::ys))=kLt x y:=by
 have ne:x≠y:=λz=>by
  rw [z,NestedKey.beq_self] at e
  cases e
 show PyProof.Rows.lexLt itemOrd (.inl 1::(bV x++bJ xs)) (.inl 1::(bV y++bJ ys))=_
 exact (lex_self (O:=itemOrd) _ _ _).trans ((rL x y ne).lt _ _)
theorem Bm (i j:Int):kLt (.num i) (.num j)=decide (i<j):=by
 show PyProof.Rows.lexLt itemOrd [.inl 1,.inl i] [.inl 1,.inl j]=_
 rw [lex_self,lex_one]
 rfl
theorem zB (x y:Str):kLt (.text x) (.text y)=decide (x.cps.toList<y.cps.toList):=by
 show PyProof.Rows.lexLt itemOrd [.inl 2,.inr x.cps.toList] [.inl 2,.inr y.cps.toList]=_
 rw [lex_self,lex_one]
 rfl
theorem zv (xs ys:List NestedKey):kLt (.tup xs) (.tup ys)=PyProof.Rows.lexLt itemOrd (bJ xs) (bJ ys):=by
 show PyProof.Rows.lexLt itemOrd (.inl 3::bJ xs) (.inl 3::bJ ys)=_
 rw [lex_self]
theorem AY : ∀ (xs ys:List NestedKey),
  firstLt (keyEqAt xs ys) (λj=>kLt (xs.getD j .none) (ys.getD j .none)) (decide (xs.length<ys.length)) (List.range (min xs.length ys.length))=PyProof.Rows.lexLt itemOrd (bJ xs) (bJ ys)
 | [],[]=>by simp [firstLt,bJ,lex_irrefl]
 | [],y::ys=>by
  simp only [bJ]
  rw [lex_diff (O:=itemOrd) (by simp)]
  simp [firstLt,itemLt]
 | x::xs,[]=>by
  simp only [bJ]
  rw [lex_diff (O:=itemOrd) (by simp)]
  simp [firstLt,itemLt]
 | x::xs,y::ys=>by
  have ih:=AY xs ys
  have em:min (x::xs).length (y::ys).length=min xs.length ys.length+1:=by
   rw [a8,a8]
   omega
  have ed:decide ((x::xs).length<(y::ys).length)=decide (xs.length<ys.length):=by
   rw [a8,a8]
   exact decide_eq_decide.mpr (by omega)
  rw [em,ed,List.range_succ_eq_map]
  cases hx:NestedKey.beq x y with
  | true =>
   rw [firstLt_yes (show keyEqAt (x::xs) (y::ys) 0=true from hx),firstLt_map,y5 hx,← ih]
   rfl
  | false =>
   rw [firstLt_no (show keyEqAt (x::xs) (y::ys) 0=false from hx),vR hx]
   rfl
theorem zY : ∀ {xs ys:List NestedKey} {j:Nat},fT xs ys=true→(∀ i,i<j→keyEqAt xs ys i=true)→keyEqAt xs ys j=false→j<xs.length→j<ys.length→c6 (xs.getD j .none) (ys.getD j .none)=true
 | [],_,j,_,_,_,h,_=>absurd h (e_ _)
 | _::_,[],j,_,_,_,_,h=>absurd h (e_ _)
 | x::xs,y::ys,0,h,_,n,_,_=>by
  have n:NestedKey.beq x y=false:=n
  unfold fT at h
  rw [n] at h
  exact h
 | x::xs,y::ys,j+1,h,p,n,h1,h2=>by
  have e:NestedKey.beq x y=true:=p 0 (Nat.succ_pos _)
  unfold fT at h
  rw [if_pos e] at h
  exact zY (xs:=xs) (ys:=ys) h (λi hi=>p (i+1) (Nat.succ_lt_succ hi)) n (Nat.lt_of_succ_lt_succ h1) (Nat.lt_of_succ_lt_succ h2)
section
open AutoSeq1 (wpAny_loadPart')
open MeetsSeq MeetsSeq2 MeetsSeq3 SeqRoads2
theorem EO (l b:Addr) (items items2:Array Value) (n n2:Nat) (dd dd2:Option Addr) (sl sl2:Array (Option Value)) (e r:Nat→Bool) :
  Meets (Builtin.«tuple.__lt__» ⟨[.ref l,.ref b],[]⟩)
   (λA R s=>s.heap.get? l=some { cls:=.type "tuple",dict:=dd,data:=.seq items n,slots:=sl }∧s.heap.get? b=some { cls:=.type "tuple",dict:=dd2,data:=.seq items2 n2,slots:=sl2 } ∧
    (∀ j (h1:j<items.size) (h2:j<items2.size),EqAt A.in1 s items[j] items2[j] (e j))∧(∀ j (h1:j<items.size) (h2:j<items2.size),(∀ i,i<j→e i=true)→e j=false→RcLt A.in1 s items[j] items2[j] (r j)) ∧
    R (.ok (.ret (.bool (firstLt e r (decide (items.size<items2.size)) (List.range (min items.size items2.size)))))) s):=
 .of_wp λprog w A R s h=>by
  obtain ⟨hp,g,d,tk,os⟩:=s; obtain ⟨hl,hb,he,hr,h⟩:=h
  have f2:=AutoSeq1.sub_tuple_tuple
  have hZ:(items.toList.zip items2.toList).length=min items.size items2.size:=by simp
  wp_walk using wpAny_loadPart' hl,wpAny_loadPart' hb,wpAny_forIn_list _ (λrest b s'=>b.1=none∧s'=⟨hp,g,d,tk,os⟩ ∧ ∃ i,(∀ j,j<i→e j=true)∧rest=(items.toList.zip items2.toList).drop i ∧
   R (.ok (.ret (.bool (firstLt e r (decide (items.size<items2.size)) ((List.range (min items.size items2.size)).drop i))))) ⟨hp,g,d,tk,os⟩) _
  case turn =>
   rintro ⟨y,x⟩ rest b s' ⟨hb',rfl,i,hall,hz,hR⟩
   have hlt:i<(items.toList.zip items2.toList).length:=by
    rcases Nat.lt_or_ge i (items.toList.zip items2.toList).length with h' | h'
    ·exact h'
    ·rw [List.drop_of_length_le h'] at hz; cases hz
   have hm:i<min items.size items2.size:=hZ ▸ hlt
   have h1:i<items.size:=gX hm (Nat.min_le_left _ _)
   have h2:i<items2.size:=gX hm (Nat.min_le_right _ _)
   rw [fu hlt] at hz
   injection hz with hyx hrest
   have hy:y=items[i]:=by have:=bF Prod.fst hyx; simpa using this
   have hx:x=items2[i]:=by have:=bF Prod.snd hyx; simpa using this
   subst hy hx
   have hd:(List.range (min items.size items2.size)).drop i=i::(List.range (min items.size items2.size)).drop (i+1):=by simp [fu,hm]
   rw [hd] at hR
   refine af (he i h1 h2 prog w _ _ ?_)
   cases hy:e i with
   | true =>
    rw [firstLt_yes hy] at hR
    wp_walk
    refine ⟨rfl,rfl,i+1,λj hj => ?_,hrest,hR⟩
    rcases Nat.lt_or_ge j i with z | z
    ·exact hall j z
    ·have:j=i:=by omega
     rw [this]
     exact hy
   | false =>
    rw [firstLt_no hy] at hR
    have rc:=λE Q h=>hr i h1 h2 hall hy prog w E Q h
    wp_walk using rc
    exact ⟨_,rfl,hR⟩
  case fin =>
   rintro ⟨b1,b2⟩ s' ⟨hb',rfl,i,hall,hz,hR⟩
   simp only at hb'
   subst hb'
   have hge:min items.size items2.size≤i:=by
    rcases Nat.lt_or_ge i (items.toList.zip items2.toList).length with h' | h'
    ·rw [fu h'] at hz; cases hz
    ·exact hZ ▸ h'
   rw [List.drop_of_length_le (by simpa using hge)] at hR
   wp_walk
   exact ⟨_,rfl,by simpa [Builtin.Tuple.tupleCompareSizes,firstLt] using hR⟩
  case h =>
   exact ⟨rfl,rfl,0,λj hj=>absurd hj (e_ _),rfl,by simpa using h⟩
theorem F0 {A:Around} {s:Shared} {l b:Addr} {items items2:Array Value} {e r:Nat→Bool} (hl:s.heap.IsTuple l items) (hb:s.heap.IsTuple b items2) (hu:A.units<cLine)
  (he : ∀ j (h1:j<items.size) (h2:j<items2.size),EqAt A.in1 s items[j] items2[j] (e j)) (hr : ∀ j (h1:j<items.size) (h2:j<items2.size),(∀ i,i<j→e i=true)→e j=false→RcLt A.in1 s items[j] items2[j] (r j)) :
  RcLt A s (.ref l) (.ref b) (firstLt e r (decide (items.size<items2.size)) (List.range (min items.size items2.size))):=λprog w E Q h=>by
 obtain ⟨⟨cls,dd,data,sl⟩,ho,hc,n,hd⟩:=id hl
 obtain ⟨⟨cls2,dd2,data2,sl2⟩,ho2,hc2,n2,hd2⟩:=id hb
 simp only at hc hd hc2 hd2
 subst hc hd hc2 hd2
 exact richCompare_meets_room (op:=.Lt) ⟨_,ho,rfl⟩ ⟨_,ho2,rfl⟩ F.slot_tuple_lt F.entry_tuple_lt (F.args_tuple_lt_2 _ _) (EO l b items items2 n n2 dd dd2 sl sl2 e r)
  ⟨ho,ho2,he,hr,show Value.bool (firstLt e r (decide (items.size<items2.size)) (List.range (min items.size items2.size)))≠Value.notImplemented∧Q (.bool (firstLt e r (decide (items.size<items2.size)) (List.range (min items.size items2.size)))) s from ⟨(λx=>nomatch x),h⟩⟩ hu
end
mutual
inductive bw (h:Heap):NestedKey→Value→Prop
 | none:bw h .none .none
 | int (i t):bw h (.num i) (.int i t)
 | text (x t):bw h (.text x) (.str x t)
 | tup {a o vs n ks}:h.get? a=some o→o.cls = .type "tuple" → o.data = .seq vs n→cP h ks vs.toList→bw h (.tup ks) (.ref a)
inductive cP (h:Heap):List NestedKey→List Value→Prop
 | nil:cP h [] []
 | cons {k v ks vs}:bw h k v→cP h ks vs→cP h (k::ks) (v::vs)
end
mutual
theorem bw.nk {h:Heap} : ∀ {k:NestedKey} {v:Value},bw h k v→NestedIs h k v
 | _,_,.none => .none
 | _,_,.int _ _ => .int _ _
 | _,_,.text _ _ => .text _ _
 | _,_,.tup h1 h2 h3 h4 => .tup h1 h2 h3 (cP.nk h4)
theorem cP.nk {h:Heap} : ∀ {ks:List NestedKey} {vs:List Value},cP h ks vs→NestedAll h ks vs
 | _,_,.nil => .nil
 | _,_,.cons h1 h2 => .cons (bw.nk h1) (cP.nk h2)
end
mutual
theorem bw.keep {h h':Heap} (k : ∀ a o,h.get? a=some o→h'.get? a=some o) : ∀ {x:NestedKey} {v:Value},bw h x v→bw h' x v
 | _,_,.none => .none
 | _,_,.int _ _ => .int _ _
 | _,_,.text _ _ => .text _ _
 | _,_,.tup h1 h2 h3 h4 => .tup (k _ _ h1) h2 h3 (cP.keep k h4)
theorem cP.keep {h h':Heap} (k : ∀ a o,h.get? a=some o→h'.get? a=some o) : ∀ {xs:List NestedKey} {vs:List Value},cP h xs vs→cP h' xs vs
 | _,_,.nil => .nil
 | _,_,.cons h1 h2 => .cons (bw.keep k h1) (cP.keep k h2)
end
mutual
theorem BE : ∀ (x y:NestedKey) (A:Around) (s:Shared) (a b:Value),bw s.heap x a→bw s.heap y b→c6 x y=true→A.units+min x.depth y.depth<cLine→RcLt A s a b (kLt x y)
 | .none,y,_,_,_,_,_,_,h,_=>absurd h (by cases y <;> simp [c6])
 | .num i,y,A,s,a,b,ra,rb,h,_=>by
  cases y with
  | num j =>
   cases ra
   cases rb
   intro prog w E Q hq
   rw [Bm] at hq
   exact P.lt_int hq
  | _=>exact absurd h (by simp [c6])
 | .text x,y,A,s,a,b,ra,rb,h,_=>by
  cases y with
  | text y =>
   cases ra
   cases rb
   intro prog w E Q hq
   rw [zB] at hq
   exact P.lt_str hq
  | _=>exact absurd h (by simp [c6])
 | .tup xs,y,A,s,a,b,ra,rb,h,hu=>by
  cases y with
  | tup ys =>
   have h:fT xs ys=true:=by simpa [c6] using h
   cases ra with
   | @tup l o vs n _ h1 h2 h3 h4 =>
    cases rb with
    | @tup l' o' vs' n' _ k1 k2 k3 k4 =>
     have n1:vs.size=xs.length:=by simpa using NestedAll.length _ _ h4.nk
     have n2:vs'.size=ys.length:=by simpa using NestedAll.length _ _ k4.nk
     rw [zv,← AY xs ys,← n1,← n2]
     refine F0 ⟨_,h1,h2,_,h3⟩ ⟨_,k1,k2,_,k3⟩ (room_here hu) (λj j1 j2 => ?_) λj j1 j2 hall hj => ?_
     ·have:=eqAt_keys xs ys A.in1 s vs.toList vs'.toList h4.nk k4.nk (room_in hu) j (by simpa using j1) (by simpa using j2)
      simpa using this
     ·have:=xI xs ys A.in1 s vs.toList vs'.toList h4 k4 (room_in hu) j (by simpa using j1) (by simpa using j2) (zY h hall hj (by omega) (by omega))
      simpa using this
  | _=>exact absurd h (by simp [c6])
theorem xI : ∀ (xs ys:List NestedKey) (A:Around) (s:Shared) (vs ws:List Value),cP s.heap xs vs→cP s.heap ys ws →
  A.units+min (NestedKey.depthAll xs) (NestedKey.depthAll ys)<cLine → ∀ j (h1:j<vs.length) (h2:j<ws.length),c6 (xs.getD j .none) (ys.getD j .none)=true→RcLt A s vs[j] ws[j] (kLt (xs.getD j .none) (ys.getD j .none))
 | [],_,_,_,_,_,ra,_,_,j,h1,_,_=>by cases ra; exact absurd h1 (e_ _)
 | _::_,[],_,_,_,_,_,rb,_,j,_,h2,_=>by cases rb; exact absurd h2 (e_ _)
 | x::xs,y::ys,A,s,_,_,ra,rb,hu,j,h1,h2,hj=>by
  cases ra with
  | cons r rs =>
   cases rb with
   | cons r' rs' =>
    cases j with
    | zero=>exact BE x y A s _ _ r r' hj (room_head hu)
    | succ j=>exact xI xs ys A s _ _ rs rs' (room_tail hu) j (Nat.lt_of_succ_lt_succ h1) (Nat.lt_of_succ_lt_succ h2) hj
end
noncomputable def jr:NestedKey→Bool
 | .tup _=>true
 | _=>false
section
variable {prog:Program} {w:World} {A:Around} {E:Value→Shared→Prop} {s:Shared}
theorem FW {f:Bool} {x y:NestedKey} {a b:Value} {Q:Bool→Shared→Prop} (hf:f=true→jr x=false) (ra:bw s.heap x a) (rb:bw s.heap y b) (h:c6 x y=true)
  (hu:A.units+min x.depth y.depth<cLine) (hq:Q (kLt x y) s):wpAny (model prog w) A (oneLt' f a b) Q E s:=by
 cases f with
 | false =>
  rw [oneLt'_eq]
  simp only [cV,if_false]
  exact af (BE x y A s a b ra rb h hu prog w E _ (wpAny_truthy_bool hq))
 | true =>
  cases x with
  | none=>exact absurd h (by cases y <;> simp [c6])
  | num i =>
   cases y with
   | num j =>
    cases ra
    cases rb
    rw [Bm] at hq
    exact oneLt_int hq
   | _=>exact absurd h (by simp [c6])
  | text x =>
   cases y with
   | text y =>
    cases ra
    cases rb
    rw [zB] at hq
    exact oneLt_str hq
   | _=>exact absurd h (by simp [c6])
  | tup xs=>exact absurd (hf rfl) (by simp [jr])
theorem yw {b fin:Bool} {Q:Bool→Shared→Prop} : ∀ (xs ys:List NestedKey) (i:Nat) (vs ws:List Value),cP s.heap xs vs→cP s.heap ys ws→fT xs ys=true →
  A.units+min (NestedKey.depthAll xs) (NestedKey.depthAll ys)<cLine→(b=true→i=0 → ∀ x r,xs=x::r→jr x=false)→fin=decide (xs.length<ys.length)→Q (PyProof.Rows.lexLt itemOrd (bJ xs) (bJ ys)) s→KatLex prog w A b fin Q (vs.zip ws) i s
 | [],[],i,_,_,ra,rb,_,_,_,hf,hq=>by
  cases ra
  cases rb
  have e:fin=false:=by rw [hf]; rfl
  subst e
  rw [lex_irrefl] at hq
  exact kat_nil hq
 | [],y::ys,i,_,_,ra,rb,_,_,_,hf,hq=>by
  cases ra
  have e:fin=true:=by rw [hf]; exact cb (Nat.succ_pos _)
  subst e
  simp only [bJ] at hq
  rw [lex_diff (O:=itemOrd) (by simp)] at hq
  rw [List.zip_nil_left]
  exact kat_nil (by simpa [itemLt] using hq)
 | x::xs,[],i,_,_,ra,rb,_,_,_,hf,hq=>by
  cases rb
  have e:fin=false:=by rw [hf]; exact cT (e_ _)
  subst e
  simp only [bJ] at hq
  rw [lex_diff (O:=itemOrd) (by simp)] at hq
  rw [List.zip_nil_right]
  exact kat_nil (by simpa [itemLt] using hq)
 | x::xs,y::ys,i,_,_,ra,rb,h,hu,hb,hf,hq=>by
  have hf':fin=decide (xs.length<ys.length):=by
   rw [hf]
   simp only [a8,Nat.add_lt_add_iff_right]
  cases ra with
  | cons r rs =>
   cases rb with
   | cons r' rs' =>
    rw [List.zip_cons_cons]
    refine kat_cons (eqAt_key x y A s _ _ r.nk r'.nk (room_head hu) prog w _ _ ?_)
    unfold fT at h
    cases hx:NestedKey.beq x y with
    | true =>
     rw [if_pos hx] at h
     rw [y5 hx] at hq
     exact kat_yes (yw xs ys (i+1) _ _ rs rs' h (room_tail hu) (λ_ hi=>absurd hi (Nat.succ_ne_zero i)) hf' hq)
    | false =>
     rw [hx,if_neg (by decide)] at h
     rw [vR hx] at hq
     refine kat_no (FW (λhbi => ?_) r r' h (room_head hu) hq)
     rw [ai] at hbi
     exact hb hbi.1 (by simpa using hbi.2) x xs rfl
noncomputable def g9 (h:Heap) (ks:List NestedKey):PyProof.Rows.KeyKind where
 toKeyOrd:=listOrd itemOrd
 keyOf v:=open Classical in if q : ∃ k,k∈ks∧bw h k v then some (bV q.choose) else none
 dflt:=([]:List (Int ⊕ List Nat))
theorem Ay {h:Heap} {ks:List NestedKey} {v:Value} {k:NestedKey} (hk:k∈ks) (r:bw h k v):(g9 h ks).keyOf v=some (bV k):=by
 have q : ∃ k,k∈ks∧bw h k v:=⟨k,hk,r⟩
 have e:(g9 h ks).keyOf v=some (bV q.choose):=by
  show (open Classical in if q : ∃ k,k∈ks∧bw h k v then some (bV q.choose) else none)=_
  rw [dif_pos q]
 obtain ⟨h1,h2⟩:=q.choose_spec
 rw [e,NestedIs.inj _ _ _ h2.nk r.nk]
theorem B0 {h:Heap} {ks:List NestedKey} {v:Value} {t:List (Int ⊕ List Nat)} (e:(g9 h ks).keyOf v=some t) : ∃ k,k∈ks∧bw h k v∧t=bV k:=by
 by_cases q : ∃ k,k∈ks∧bw h k v
 ·have e':(g9 h ks).keyOf v=some (bV q.choose):=by
   show (open Classical in if q : ∃ k,k∈ks∧bw h k v then some (bV q.choose) else none)=_
   rw [dif_pos q]
  obtain ⟨h1,h2⟩:=q.choose_spec
  rw [e'] at e
  exact ⟨_,h1,h2,(bQ e).symm⟩
 ·have e':(g9 h ks).keyOf v=none:=by
   show (open Classical in if q : ∃ k,k∈ks∧bw h k v then some (bV q.choose) else none)=_
   rw [dif_neg q]
   rfl
  rw [e'] at e
  exact absurd e (by simp)
noncomputable def kyT:NestedKey→Nat
 | .none=>0
 | .num _=>1
 | .text _=>2
 | .tup _=>3
noncomputable def tZ:Nat→Value
 | 0 => .type "NoneType"
 | 1 => .type "int"
 | 2 => .type "str"
 | _ => .type "tuple"
theorem ED {M:Model} {h:Heap} {k:NestedKey} {v:Value} (r:bw h k v):Looks M h (typeOf v) (tZ (kyT k)):=by
 cases r with
 | none=>exact Looks.of_pure rfl
 | int _ _=>exact Looks.of_pure rfl
 | text _ _=>exact Looks.of_pure rfl
 | tup h1 h2 h3 h4 =>
  show Looks M h (typeOf (Value.ref _)) (Value.type "tuple")
  exact h2 ▸ (Looks.ld h1).andThen .now
noncomputable def fY (t:Nat):NestedKey→Bool
 | .tup (x::_)=>kyT x==t
 | _=>false
theorem mS {t:Nat} {k:NestedKey} (h:fY t k=true) : ∃ x r,k = .tup (x::r)∧kyT x=t:=by
 unfold fY at h
 split at h
 ·exact ⟨_,_,rfl,by simpa using h⟩
 ·cases h
theorem yL {h:Heap} {t:Nat} : ∀ {vs:List Value} {ks:List NestedKey},EachIs (λv k=>bw h k v) vs ks→(∀ k∈ks,fY t k=true) → ∃ fs,KatTups h vs fs∧fs.length=vs.length ∧ ∀ f∈fs,∃ x,kyT x=t∧bw h x f
 | _,_,.nil,_=>⟨[],KatTups.nil,rfl,λf hf=>absurd hf (by simp)⟩
 | _,_,.cons (b:=k) r tl,ht=>by
  obtain ⟨fs,h1,h2,h3⟩:=yL tl λd hd=>ht d (aE _ hd)
  obtain ⟨x,rest,rfl,hx⟩:=mS (ht k (bu ..))
  cases r with
  | @tup a o xs n _ ho hc hd hr =>
   cases q:xs.toList with
   | nil =>
    rw [q] at hr
    cases hr
   | cons f fr =>
    rw [q] at hr
    cases hr with
    | cons r1 r2 =>
     have hf:xs[0]? = some f:=by rw [← kh,q]; rfl
     refine ⟨f::fs,KatTups.cons ho hc hd hf h1,by rw [a8,a8,h2],λg hg => ?_⟩
     rcases cG.mp hg with rfl | hg
     ·exact ⟨x,hx,r1⟩
     ·exact h3 g hg
theorem Kj {vs:List Value} {ks:List NestedKey} {t:Nat} (e:EachIs (λv k=>bw s.heap k v) vs ks) (hc : ∀ k∈ks,∀ k'∈ks,c6 k k'=true) (hf : ∀ k∈ks,fY t k=true) (hu : ∀ k∈ks,A.units+k.depth<cLine):SortsAt prog w A s (g9 s.heap ks) vs:=by
 have room : ∀ {d d':NestedKey},d∈ks→A.units+min d.depth d'.depth<cLine:=λ{d d'} hd=>Nat.lt_of_le_of_lt (Nat.add_le_add_left (Nat.min_le_left _ _) _) (hu d hd)
 refine ⟨λv hv => ?_,tuples' (tZ t != Value.type "tuple"),?_,λh2 E Q hq => ?_⟩
 ·obtain ⟨d,hd,r⟩:=e.left v hv
  exact ⟨_,Ay hd r⟩
 ·intro E x y a b Q ha hb hq
  obtain ⟨d,hd,ra,rfl⟩:=B0 ha
  obtain ⟨d',hd',rb,rfl⟩:=B0 hb
  have hroom:=room (d':=d') hd
  have hcc:=hc d hd d' hd'
  obtain ⟨x1,r1,rfl,t1⟩:=mS (hf d hd)
  obtain ⟨x2,r2,rfl,t2⟩:=mS (hf d' hd')
  have hq':Q (kLt (.tup (x1::r1)) (.tup (x2::r2))) s:=hq
  rw [zv] at hq'
  cases ra with
  | @tup l o xs n _ h1 h2 h3 h4 =>
   cases rb with
   | @tup l' o' xs' n' _ k1 k2 k3 k4 =>
    have n1:xs.size=(x1::r1).length:=by simpa using NestedAll.length _ _ h4.nk
    have n2:xs'.size=(x2::r2).length:=by simpa using NestedAll.length _ _ k4.nk
    refine kat_lt h1 h3 k1 k3 (yw (x1::r1) (x2::r2) 0 _ _ h4 k4 (by simpa [c6] using hcc) (by have q:=room_in hroom; omega) (λhb _ x r ex => ?_) (by rw [n1,n2]) hq')
    obtain ⟨rfl,rfl⟩:=List.cons.inj ex
    cases x1 with
    | tup _ =>
     rw [← t1] at hb
     exact absurd hb (show ¬ (Value.type "tuple" != Value.type "tuple")=true by decide)
    | _=>rfl
 ·obtain ⟨fs,t1,t2,t3⟩:=yL e hf
  refine kat_kind (T:=tZ t) t1 (by omega) (λf hf' => ?_) (beq_self_eq_true _) hq
  obtain ⟨x,m1,m2⟩:=t3 f hf'
  rw [← m1]
  exact ED m2
end
end Pf

set_option maxRecDepth 100000
namespace Pf
open PySem PySem.Spec PyProof.Rows L2
open PySem.SeqAt PySem.W
noncomputable def nv (f:Value→Option (List (Int ⊕ List Nat))):PyProof.Rows.KeyKind where
 toKeyOrd:=listOrd itemOrd
 keyOf:=f
 dflt:=([]:List (Int ⊕ List Nat))
noncomputable def cY {β:Type} (enc:β→List (Int ⊕ List Nat)) (a b:β):Bool:=!PyProof.Rows.lexLt itemOrd (enc b) (enc a)
theorem AV {β:Type} {enc:β→List (Int ⊕ List Nat)} (inj : ∀ a b,enc a=enc b→a=b) {l m:List β} (h:l.Perm m):l.mergeSort (cY enc)=m.mergeSort (cY enc):=by
 have T:TotalLe (cY enc):=sortLe_total (listOrd itemOrd) false enc
 have tot : ∀ x y,(cY enc x y||cY enc y x)=true:=λx y=>by rw [Bool.or_eq_true]; exact T.total x y
 have anti : ∀ x y,cY enc x y=true→cY enc y x=true→x=y:=λx y h1 h2=>by
  unfold cY at h1 h2
  simp only [Bool.not_eq_true'] at h1 h2
  exact inj x y (lex_total _ _ h2 h1)
 exact PySem.W.Srt.the_of_perm (cY enc) T.trans tot anti ((pW l _).trans h) (pX T.trans tot l)
section
variable {prog:Program} {w:World} {A:Around} {E:Value→Shared→Prop} {s:Shared}
theorem DW {β:Type} {R:Value→β→Prop} : ∀ {us vs:List Value},us.Perm vs → ∀ {bs:List β},EachIs R vs bs → ∃ cs,EachIs R us cs∧cs.Perm bs:=by
 intro us vs h
 induction h with
 | nil=>intro bs e; cases e; exact ⟨[],.nil,.refl _⟩
 | cons x _ ih =>
  intro bs e
  cases e with
  | cons h1 t =>
   obtain ⟨cs,a,b⟩:=ih t
   exact ⟨_::cs,.cons h1 a,b.cons _⟩
 | swap x y l =>
  intro bs e
  cases e with
  | cons h1 t =>
   cases t with
   | cons h2 t=>exact ⟨_::_::_,.cons h2 (.cons h1 t),List.Perm.swap _ _ _⟩
 | trans _ _ ih1 ih2 =>
  intro bs e
  obtain ⟨cs,a,b⟩:=ih2 e
  obtain ⟨ds,c,d⟩:=ih1 a
  exact ⟨ds,c,d.trans b⟩
theorem sorted_set {a:Addr} {o:Obj} {es:Array (Int × Value)} {ep:Nat} {t:SetTable} {β:Type} {R:Value→β→Prop} {enc:β→List (Int ⊕ List Nat)} {bs:List β} {Q:Value→Shared→Prop} (hh:A.handled=none) (ho:s.heap.get? a=some o) (hc:o.cls = .type "set") (hd:o.data = .set es ep t)
  (hf:t.fits es.size=true) (few:es.size<scanBound) (ris:Ris t.place.toList) (hl:w.params.followText "set-order" = true∨t.led=true) (each:EachIs R (es.toList.map (·.2)) bs) (inj : ∀ a b,enc a=enc b→a=b)
  (can : ∀ (s':Shared) (vs:List Value) (cs:List β),(∀ b o,s.heap.get? b=some o→s'.heap.get? b=some o)→EachIs R vs cs→cs.Perm bs → ∃ f,SortsAt prog w A.in1.in1 s' (nv f) vs∧EachIs (λv b=>f v=some (enc b)) vs cs)
  (hQ : ∀ s' p (out:Array Value) (c:Nat),(∀ b o,s.heap.get? b=some o→s'.heap.get? b=some o)→s'.gens=s.gens→s'.os=s.os→s.heap.objs.size≤p →
   s'.heap.get? p=some (seqObj "list" out c)→EachIs R out.toList (bs.mergeSort (cY enc))→Q (.ref p) s') :
  wpAny (model prog w) A (call (.builtin "sorted") [.ref a]) Q E s:=by
 refine Calls.call_function_entry kind_sorted plain_sorted entry_sorted (args_sorted1 _) ?_
 unfold Builtin.«sorted»
 refine af (m:=checkCount "sorted" 1 1 _) (ah ?_)
 refine af (collect_set (A:=A.in1) hh ⟨o,ho,hc,hd⟩ hf few ris hl λs1 vs k1 hz g1 o1 pm => ?_)
 obtain ⟨cs,ec,pc⟩:=DW pm each
 have sb:scanBound=4096:=rfl
 have hvl:vs.length≤sizeLine:=by
  rw [pm.length_eq,aq,bY,sizeLine_eq]
  omega
 refine af (wpAny_newList ?_ hvl)
 have hoL:(s1.heap.push (seqObj "list" vs.toArray 0)).get? s1.heap.objs.size=some (seqObj "list" vs.toArray 0):=bT _ rfl
 have keep1 : ∀ b u,s.heap.get? b=some u→b≠s1.heap.objs.size∧(s1.heap.push (seqObj "list" vs.toArray 0)).get? b=some u:=λb u e=>⟨bU (bD (k1 b u e)),aD _ (k1 b u e)⟩
 obtain ⟨f,S,ke⟩:=can { s1 with heap:=sortingHeap (s1.heap.push (seqObj "list" vs.toArray 0)) s1.heap.objs.size vs } vs cs (λb u e=>sortingHeap_old (keep1 b u e).1 (keep1 b u e).2) ec pc
 have each2:EachIs R (sortVals (nv f) false vs vs) (bs.mergeSort (cY enc)):=by
  have:=sortVals_each (κ:=nv f) (rev:=false) (ks:=vs) (vs:=vs) (R:=R) enc ec ke
  rw [AV inj pc.symm]
  exact this
 refine af (bA (i7 slot_list_sort ⟨_,hoL,rfl⟩ entry_list_sort (list_sort_vals (s:={ s1 with heap:=s1.heap.push (seqObj "list" vs.toArray 0) }) hoL S hvl ⟨_,rfl,?_⟩) (args_list_sort _)))
 obtain ⟨c,hc⟩:=sortedHeap_at (vs:=vs) (out:=(sortVals (nv f) false vs vs).toArray) hoL
 refine ah ⟨_,rfl,hQ _ s1.heap.objs.size _ c (λb u e => ?_) g1 o1 hz hc (by simpa using each2)⟩
 have q:=keep1 b u e
 show (sortedHeap (s1.heap.push (seqObj "list" vs.toArray 0)) s1.heap.objs.size vs _).get? b=some u
 rw [sortedHeap_old q.1 (bD q.2)]
 exact q.2
theorem Ea {a:Addr} {L:List (Addr × NestedKey)} {es:Array (Int × Value)} {ep:Nat} {t:SetTable} {tt:Nat} {Q:Value→Shared→Prop} (R:bO w s.heap a L es ep t) (hh:A.handled=none) (hu:A.units+10<cLine)
  (hk : ∀ p∈L,bw s.heap p.2 (.ref p.1)) (hc : ∀ p∈L,∀ q∈L,c6 p.2 q.2=true) (hf : ∀ p∈L,fY tt p.2=true)
  (hQ : ∀ s' p (out:Array Value) (c:Nat),(∀ b o,s.heap.get? b=some o→s'.heap.get? b=some o)→s'.gens=s.gens→s'.os=s.os→s.heap.objs.size≤p →
   s'.heap.get? p=some (seqObj "list" out c)→EachIs (λv k => ∃ q∈L,v = .ref q.1∧q.2=k) out.toList ((L.map (·.2)).mergeSort (cY bV))→Q (.ref p) s') :
  wpAny (model prog w) A (call (.builtin "sorted") [.ref a]) Q E s:=by
 obtain ⟨o,ho,hex,hd⟩:=R.ob
 have hfew:=R.few
 have hsz:=R.size
 have hes:es.toList.map (·.2)=L.map λq=>Value.ref q.1:=by
  rw [R.rows]
  unfold cH
  rw [cz] <;> rfl
 refine sorted_set (R:=λv k => ∃ q∈L,v = .ref q.1∧q.2=k) (enc:=bV) (bs:=L.map (·.2)) hh ho hex.1 hd R.fits (by unfold scanBound; omega) R.tab.ris R.led ?_ (λ_ _=>xb) (λs' vs cs keep ec pc => ?_) hQ
 ·rw [hes]
  have : ∀ M:List (Addr × NestedKey),(∀ p∈M,p∈L)→EachIs (λv k => ∃ q∈L,v=Value.ref q.1∧q.2=k) (M.map λq=>Value.ref q.1) (M.map (·.2)):=by
   intro M
   induction M with
   | nil=>intro _; exact .nil
   | cons p M ih=>intro h; exact .cons ⟨p,h p bu,rfl,rfl⟩ (ih λq hq=>h q (aE _ hq))
  exact this L λ_ h=>h
 ·have mem : ∀ k∈cs,∃ q∈L,q.2=k:=λk hk=>fA.mp (pc.mem_iff.mp hk)
  have e2:EachIs (λv k=>bw s'.heap k v) vs cs:=ec.mono λv k ⟨q,hq,e1,e2⟩=>by
   rw [e1,← e2]
   exact bw.keep keep (hk q hq)
  refine ⟨(g9 s'.heap cs).keyOf,Kj (t:=tt) e2 (λk hk k' hk' => ?_) (λk hk => ?_) (λk hk' => ?_),?_⟩
  ·obtain ⟨q,hq,rfl⟩:=mem k hk
   obtain ⟨q',hq',rfl⟩:=mem k' hk'
   exact hc q hq q' hq'
  ·obtain ⟨q,hq,rfl⟩:=mem k hk
   exact hf q hq
  ·obtain ⟨q,hq,rfl⟩:=mem k hk'
   have:=(R.tup q hq).2
   show A.in1.in1.units+_<_
   simp only [Around.in1_units]
   omega
  ·exact (each_mem e2).mono λv k ⟨r,hm⟩=>Ay hm r
end
theorem strKind_is (P:Program) (w:World) (k:Str) (tk:Tok):(PySem.strKind P w).is k (.str k tk)=true:=by
 show (k==k)=true
 exact beq_self_eq_true _
noncomputable def cE (e:Int × Value):Str:=match e.2 with | .str k _=>k | _=>Str.ofString ""
noncomputable def gZ (w:World) (e:Int × Value):Prop:=∃ k tk,e.2=Value.str k tk∧e.1=hashStr w k
noncomputable def c8 (w:World) (h:Heap) (a:Addr) (S:Str→Bool) (n:Nat):Prop:=
 ∃ o es ep t,h.get? a=some o∧o.ExactSet∧o.data = .set es ep t∧(∀ e∈es.toList,gZ w e)∧(es.toList.map cE).Nodup∧(∀ k,S k=true↔k∈es.toList.map cE) ∧
  es.size<scanBound∧t.fits es.size=true∧es.size=n∧Ris t.place.toList∧(w.params.followText "set-order" = true∨t.led=true)
section
variable {P:Program} {w:World} {h h':Heap} {a:Addr} {S:Str→Bool} {n:Nat}
theorem c8.at (R:c8 w h a S n) (k : ∀ o,h.get? a=some o→h'.get? a=some o):c8 w h' a S n:=by
 obtain ⟨o,es,ep,t,ho,r⟩:=R
 exact ⟨o,es,ep,t,k o ho,r⟩
theorem N7 {l:List (Int × Value)} (g : ∀ e∈l,gZ w e):ElemsOf (PySem.strKind P w) l:=λe he=>by
 obtain ⟨k,tk,h1,h2⟩:=g e he
 exact ⟨⟨k,by rw [h1]; exact strKind_is P w k tk,h2⟩,by rw [h1] <;> rfl⟩
theorem zw {e:Int × Value} (g:gZ w e) (k:Str):(PySem.strKind P w).is k e.2=true↔cE e=k:=by
 obtain ⟨k0,tk,h1,_⟩:=g
 unfold cE
 rw [h1]
 show ((k0==k)=true)↔k0=k
 exact beq_iff_eq
theorem yi {l:List (Int × Value)} (g : ∀ e∈l,gZ w e) (k:Str):k∈l.map cE ↔ ∃ e∈l,(PySem.strKind P w).is k e.2=true:=by
 rw [fA]
 constructor
 ·rintro ⟨e,he,q⟩
  exact ⟨e,he,(zw (g e he) k).2 q⟩
 ·rintro ⟨e,he,q⟩
  exact ⟨e,he,(zw (g e he) k).1 q⟩
end
section
variable {P:Program} {w:World} {A:Around} {E:Value→Shared→Prop} {s:Shared} {a:Addr} {S:Str→Bool} {n:Nat}
theorem yc {g:Bool→Sem Unit} (hg : ∀ (b:Bool) (s₁:Shared) (Q':Unit→Shared→Prop),Q' () s₁→wpAny (model P w) A (g b) Q' E s₁)
  {o:Obj} {es:Array (Int × Value)} {ep:Nat} {t:SetTable} (ho:s.heap.get? a=some o) (hex:o.ExactSet) (hd:o.data = .set es ep t)
  {es1:Array (Int × Value)} {t2:SetTable} {S':Str→Bool} (g1 : ∀ e∈es1.toList,gZ w e) (nd1:(es1.toList.map cE).Nodup) (m1 : ∀ k,S' k=true↔k∈es1.toList.map cE)
  (hb1:es1.size<scanBound) (hf2:t2.fits es1.size=true) (hr:Ris t2.place.toList) (hl:w.params.followText "set-order" = true∨t2.led=true) {wasDummy:Bool} {R:Option Bool→Shared→Prop}
  (hR : ∀ h',Heap.SameBut a s.heap h'→c8 w h' a S' es1.size→R (some true) { s with heap:=h' }) :
  wpAny (model P w) A (do
    storeSet a es1 t2
    if (!wasDummy&&t2.tooFull)=true then do
      g (relayAll t2 es1 (SetTable.grown es1.size)).2.2
      storeSet a (relayAll t2 es1 (SetTable.grown es1.size)).1 (relayAll t2 es1 (SetTable.grown es1.size)).2.1
      pure (some true)
     else pure (some true)) R E s:=by
 refine af (wpAny_storeSet_of ho hd ?_ (fits_of_scanBound hb1))
 have ho1:=store_at (es':=es1) (t':=t2) ho hd
 have sb1:=Heap.SameBut.update s.heap a (Obj.putSet es1 t2)
 split
 ·have pm:=relayAll_perm t2 es1 (SetTable.grown es1.size)
  have hf3:=relayAll_fits t2 es1 (SetTable.grown es1.size)
  have hr3:=relayAll_ris t2 es1 (SetTable.grown es1.size)
  have hl3:=relayAll_led t2 es1 (SetTable.grown es1.size)
  generalize relayAll t2 es1 (SetTable.grown es1.size)=Z at pm hf3 hr3 hl3 ⊢
  obtain ⟨es2,t3,gave⟩:=Z
  dsimp only at pm hf3 hr3 hl3 ⊢
  have hsz:es2.size=es1.size:=by rw [← bY,pm.length_eq,bY]
  have hb2:es2.size<scanBound:=by rw [hsz]; exact hb1
  refine af (hg _ _ _ ?_)
  refine af (wpAny_storeSet_of ho1 rfl ?_ (fits_of_scanBound hb2))
  have ho2:=store_at (es':=es2) (t':=t3) ho1 rfl
  refine ah (hR _ (sb1.trans (Heap.SameBut.update _ a _)) ?_)
  exact ⟨_,es2,_,t3,ho2,hex,rfl,λe he=>g1 e (pm.mem_iff.mp he),(pm.map cE).nodup_iff.mpr nd1,λk=>(m1 k).trans (pm.map cE).mem_iff.symm,hb2,hf3,hsz,hr3,
   hl.imp id λz=>by rw [hl3]; exact z⟩
 ·exact ah (hR _ sb1 ⟨_,es1,_,t2,ho1,hex,rfl,g1,nd1,m1,hb1,hf2,rfl,hr,hl⟩)
theorem D8 {k:Str} {tk:Tok} {Q:Bool→Shared→Prop} (R:c8 w s.heap a S n) (room:n+1<scanBound)
  (hQ : ∀ h',Heap.SameBut a s.heap h'→c8 w h' a (λj=>S j||decide (j=k)) (if S k=true then n else n+1)→Q (!S k) { s with heap:=h' }) :
  wpAny (model P w) A (setAddHashed a (.str k tk) ((PySem.strKind P w).hash k)) Q E s:=by
 obtain ⟨o,es,ep,t,ho,hex,hd,g,nd,hm,hb,hf,hn,hr,hl⟩:=R
 have hkey:(PySem.strKind P w).is k (.str k tk)=true:=strKind_is P w k tk
 have hsc:(Value.str k tk).scannable=true:=rfl
 have hel:ElemsOf (PySem.strKind P w) es.toList:=N7 g
 unfold setAddHashed setAddHashedIn
 refine bA (af (wpAny_setState_of ho hd hf ?_))
 dsimp only
 rw [byScan_of hsc hb hel]
 simp only [↓reduceIte]
 unfold setAddByScan
 refine af ?_
 refine af (fR ?_)
 refine af (wpAny_setScan_of hkey ho hd hf hel ?_)
 cases hfi:List.findIdx? (λe=>(PySem.strKind P w).is k e.2) es.toList with
 | some j =>
  dsimp only
  obtain ⟨hj,pj,_⟩:=List.findIdx?_eq_some_iff_getElem.mp hfi
  have hSk:S k=true:=(hm k).2 ((yi (P:=P) (w:=w) g k).2 ⟨es.toList[j],List.getElem_mem hj,pj⟩)
  refine ah (ah ?_)
  have q:=hQ s.heap (Heap.SameBut.refl a s.heap) ⟨o,es,ep,t,ho,hex,hd,g,nd,λi=>by
   rw [Bool.or_eq_true,aw,← hm i]
   exact ⟨λz=>z.elim id (λe=>e ▸ hSk),.inl⟩,hb,hf,by rw [if_pos hSk]; exact hn,hr,hl⟩
  rw [hSk] at q
  exact q
 | none =>
  dsimp only
  have hnk:k∉es.toList.map cE:=λz=>by
   obtain ⟨e,he,q⟩:=(yi (P:=P) (w:=w) g k).1 z
   have c:=List.findIdx?_eq_none_iff.mp hfi e he
   rw [q] at c
   cases c
  have hSk:S k=false:=by
   cases q:S k with
   | false=>rfl
   | true=>exact absurd ((hm k).1 q) hnk
  have hgw : ∀ (b:Bool) {s₁:Shared} {Q':Unit→Shared→Prop},Q' () s₁→wpAny (model P w) A (match b with | true=>rule "set.scan.the-table-gave-way" | false=>pure ()) Q' E s₁:=
   λb s₁ Q' q=>by cases b <;> first | exact ah q | exact fR q
  have pm:=layNew_perm t es ((PySem.strKind P w).hash k) (.str k tk)
  have hf1:=layNew_fits t es ((PySem.strKind P w).hash k) (.str k tk)
  have hr1:=layNew_ris t es ((PySem.strKind P w).hash k) (.str k tk) hr
  have hl1:=layNew_led t es ((PySem.strKind P w).hash k) (.str k tk)
  generalize layNew t es ((PySem.strKind P w).hash k) (.str k tk)=Z at pm hf1 hr1 hl1 ⊢
  obtain ⟨es1,t1,wasDummy,gave⟩:=Z
  dsimp only at pm hf1 hr1 hl1 ⊢
  rw [Array.toList_push] at pm
  have pc:es1.toList.Perm (((PySem.strKind P w).hash k,Value.str k tk)::es.toList):=pm.trans (List.perm_append_singleton _ _)
  have pk:(es1.toList.map cE).Perm (k::es.toList.map cE):=pc.map cE
  have g1 : ∀ e∈es1.toList,gZ w e:=λe he=>by
   rcases cG.mp (pc.mem_iff.mp he) with z | z
   ·rw [z]; exact ⟨k,tk,rfl,rfl⟩
   ·exact g e z
  have nd1:(es1.toList.map cE).Nodup:=pk.nodup_iff.mpr (List.nodup_cons.mpr ⟨hnk,nd⟩)
  have m1 : ∀ i,(S i||decide (i=k))=true↔i∈es1.toList.map cE:=λi=>by
   rw [Bool.or_eq_true,aw,hm i,pk.mem_iff,cG]
   exact Or.comm
  have hsz:es1.size=n+1:=by rw [← bY,pc.length_eq,a8,bY,hn]
  have hb1:es1.size<scanBound:=by rw [hsz]; exact room
  have hled:w.params.followText "set-order" = true∨t1.led=true:=hl.imp id λz=>by rw [hl1]; exact z
  have fin : ∀ h',Heap.SameBut a s.heap h'→c8 w h' a (λj=>S j||decide (j=k)) es1.size→Q true { s with heap:=h' }:=λh' sb r=>by
   have q:=hQ h' sb
   rw [hSk] at q
   rw [hsz] at r
   exact q r
  refine af (hgw _ ?_)
  split
  ·refine af ?_
   rw [hashByValue_scannable 8 hsc]
   refine ah ?_
   refine yc ?_ ho hex hd g1 nd1 m1 hb1 ?_ ?_ ?_ ?_
   ·intro b s₁ Q' q; cases b <;> first | exact ah q | exact fR q
   ·first | (split <;> first | exact hf1 | exact SetTable.fits_plain_off hf1) | exact hf1
   ·first | (split <;> exact hr1) | exact hr1
   ·first | (split <;> exact hled) | exact hled
   ·intro h' sb r; dsimp only; exact ah (fin h' sb r)
  ·refine af (ah ?_)
   simp only [↓reduceIte]
   refine yc ?_ ho hex hd g1 nd1 m1 hb1 hf1 hr1 hled ?_
   ·intro b s₁ Q' q; cases b <;> first | exact ah q | exact fR q
   ·intro h' sb r; dsimp only; exact ah (fin h' sb r)
end
noncomputable def adX (acc:List Str) (k:Str):List Str:=if k∈acc then acc else acc++[k]
noncomputable def bM (ks:List Str):List Str:=ks.foldl adX []
theorem yo (ks:List Str) (k:Str):bM (ks++[k])=adX (bM ks) k:=by
 unfold bM
 rw [List.foldl_append]
 rfl
theorem wC (acc:List Str) (k:Str):(adX acc k).length=if decide (k∈acc)=true then acc.length else acc.length+1:=by
 unfold adX
 by_cases h:k∈acc
 ·rw [if_pos h,if_pos (cb h)]
 ·rw [if_neg h,if_neg (by rw [cT h]; decide)]
  simp
theorem Eg (acc:List Str) (k:Str):(λj=>decide (j∈acc)||decide (j=k))=λj=>decide (j∈adX acc k):=by
 funext j
 unfold adX
 by_cases h:k∈acc
 ·rw [if_pos h]
  by_cases e:j=k
  ·subst e; simp [h]
  ·simp [e]
 ·rw [if_neg h]
  simp
theorem Ky {acc:List Str} (k:Str) (h:acc.Nodup):(adX acc k).Nodup:=by
 unfold adX
 by_cases e:k∈acc
 ·rw [if_pos e]; exact h
 ·rw [if_neg e]
  exact List.nodup_append.mpr ⟨h,by simp,λa ha b hb=>by
   rw [c7.mp hb]
   rintro rfl
   exact e ha⟩
theorem yq : ∀ (ks acc:List Str),acc.Nodup→(ks.foldl adX acc).Nodup
 | [],acc,h=>h
 | k::ks,acc,h=>yq ks (adX acc k) (Ky k h)
theorem JT (ks:List Str):(bM ks).Nodup:=yq ks [] List.nodup_nil
theorem wX : ∀ (ks acc:List Str),(ks.foldl adX acc).length≤acc.length+ks.length
 | [],acc=>aC _
 | k::ks,acc=>by
  have h1:=wX ks (adX acc k)
  have h2:=wC acc k
  have h3:(adX acc k).length≤acc.length+1:=by rw [h2]; split <;> omega
  show (ks.foldl adX (adX acc k)).length≤acc.length+(ks.length+1)
  omega
theorem zC (ks:List Str):(bM ks).length≤ks.length:=by
 have:=wX ks []
 simpa [bM] using this
noncomputable abbrev gH (ks:List Str):Str→Bool:=λj=>decide (j∈bM ks)
section
variable {prog:Program} {w:World} {A:Around} {R:Result→Shared→Prop} {I S:Addr} {fp wr:List Addr} {G:Array GenState→Array GenState→Prop} {n:Nat} {P:Nat→Value→Prop} {St:Nat→Shared→Prop}
theorem MN (W:WalksS prog w A.in1 I fp wr G n P St) (out:S∉fp) {ks:List Str} (len:ks.length=n) (few:n+1<scanBound)
  (at_ : ∀ i v,P i v → ∃ k,ks[i]? = some k∧RelV (.str k) v) :
  ∀ (left i:Nat) (s:Shared),n-i=left→i≤n→St i s→c8 w s.heap S (gH (ks.take i)) (bM (ks.take i)).length →
   (∀ s',Moved (S::wr) G s s'→c8 w s'.heap S (gH ks) (bM ks).length→R (.ok (.ret .none)) s') →
   codeAny (model prog w) A (.builtin "set.update.loop" ⟨[.ref S,.ref I],[]⟩) R s:=by
 have notW:S∉wr:=λz=>out (W.sub _ z)
 have wide : ∀ b∈wr,b∈S::wr:=λb z=>aE _ z
 intro left
 induction left with
 | zero =>
  intro i s e1 e2 st x fin
  obtain rfl:i=n:=by omega
  refine eR uN ?_
  rw [gY mx _]
  show wpAny _ A.in1 (pyNext (.ref I) >>= _) _ _ s
  refine af (W.done s _ _ st λs2 mv => ?_)
  show wpAny _ A.in1 (ret Value.none) _ _ s2
  rw [List.take_of_length_le (by omega)] at x
  exact ah (fin s2 (mv.mono wide) (x.at (mv.heap S · notW)))
 | succ left ih =>
  intro i s e1 e2 st x fin
  have lt:i<n:=by omega
  refine eR uN ?_
  rw [gY mx _]
  show wpAny _ A.in1 (pyNext (.ref I) >>= _) _ _ s
  refine af (W.item i s _ _ lt st λv s2 pv st2 mv => ?_)
  obtain ⟨k,ek,tk,rfl⟩:=at_ i v pv
  have x2:=x.at (mv.heap S · notW)
  show wpAny _ A.in1 (holding [Value.str k tk] (setAdd S (Value.str k tk)) >>= _) _ _ s2
  refine af (bA ?_)
  unfold setAdd
  refine bA (af ((PySem.strKind prog w).pyHash (k:=k) (strKind_is prog w k tk) ?_))
  have room:(bM (ks.take i)).length+1<scanBound:=by
   have h1:=zC (ks.take i)
   have h2:(ks.take i).length≤n:=by rw [ez]; omega
   omega
  have tkk:ks.take (i+1)=ks.take i++[k]:=by rw [List.take_add_one,ek]; rfl
  refine D8 (s:={ s2 with toks:=s2.toks+1 }) x2 room λh2 sb x3 => ?_
  have x4:c8 w h2 S (gH (ks.take (i+1))) (bM (ks.take (i+1))).length:=by
   rw [tkk,yo]
   have e1:(λj=>decide (j∈bM (ks.take i))||decide (j=k))=gH (ks.take i++[k]):=by
    show _=λj=>decide (j∈bM (ks.take i++[k]))
    rw [yo]
    exact Eg _ k
   have e2:(if decide (k∈bM (ks.take i))=true then (bM (ks.take i)).length else (bM (ks.take i)).length+1)=(adX (bM (ks.take i)) k).length:=(wC _ k).symm
   rw [← e1,← e2]
   exact x3
  refine ah ⟨plainId_quiet mx _,ih (i+1) _ (by omega) lt (W.frame _ s2 _ _ st2 (fj _) λb hb o e => ?_) x4 λs3 mv3 x5 => ?_⟩
  ·rw [sb.2 b (λz:b=S=>out (z ▸ hb))]; exact e
  ·refine fin s3 (Moved.trans W.gtrans ((mv.mono wide).then_heap (fj _) λb o hb e => ?_) mv3) x5
   rw [sb.2 b (λz:b=S=>hb (z ▸ bu))]; exact e
end
theorem strs_at : ∀ {ks:List Str} {us:List Value},Vals (ks.map V.str) us → ∀ (i:Nat) (v:Value),us[i]? = some v → ∃ k,ks[i]? = some k∧RelV (.str k) v
 | [],_,.nil,i,v,h=>by simp at h
 | k::ks,_,.cons r t,0,v,h=>⟨k,rfl,by
  simp only [List.getElem?_cons_zero,Option.some.injEq] at h
  rw [← h]
  exact r⟩
 | k::ks,_,.cons r t,i+1,v,h=>strs_at t i v (by simpa using h)
section
variable {prog:Program} {w:World} {A:Around} {E:Value→Shared→Prop} {s:Shared}
set_option maxHeartbeats 3200000 in
theorem Jx {l:Addr} {us:Array Value} {ks:List Str} {Q:Value→Shared→Prop} (calm:A.handled=none) (hl:s.heap.IsList l us) (rv:Vals (ks.map V.str) us.toList) (few:ks.length+1<scanBound)
  (fin : ∀ (h':Heap) (tk:Nat),c8 w h' s.heap.objs.size (gH ks) (bM ks).length→(∀ b o,b<s.heap.objs.size→s.heap.get? b=some o→h'.get? b=some o)→Q (.ref s.heap.objs.size) { s with heap:=h',toks:=tk }) :
  wpAny (model prog w) A (call (.type "set") [.ref l]) Q E s:=by
 have sz:ks.length=us.size:=by
  have:=rv.length
  rw [aq,bY] at this
  exact this
 obtain ⟨c,tl,k1⟩:=PySem.F.called_set.mro
 have k2:=PySem.F.called_set.made
 have k3:=PySem.F.called_set.sub
 refine eQ (codeAny_of_tree ?_)
 show wpAny _ _ (callAny (.type "set") _) _ _ _
 refine ah ⟨Code.quiet_builtin _ (by decide +kernel),eR PySem.F.entry_type_call ?_⟩
 rw [Around.under_plain (weight_type_call_type "set" [.ref l] []) rfl]
 have k4:=PySem.F.called_set.notType
 have k5:=PySem.F.called_set.canCreate
 have k6:=PySem.F.typeCall_set_1 (.ref l)
 repeat (any_goals (first | assumption | wp_step))
 let fresh:Bool→Obj:=λled=>{ cls:=.type "set",dict:=none,data:=.set #[] 0 (.fresh 0 0 led) }
 let ld:Bool:=!w.params.followText "set-order"
 refine dV (code_set_led1 (.ref l) (E:=E) (Q₁:=λob t=>ob = .ref s.heap.objs.size∧t={ s with heap:=s.heap.push (fresh ld) }) ⟨rfl,rfl⟩) λr t hr => ?_
 match r,hr with
 | .error e,hr=>exact hr
 | .ok .next,hr=>exact hr.elim
 | .ok .brk,hr=>exact hr.elim
 | .ok .cont,hr=>exact hr.elim
 | .ok (.ret ob),⟨e1,e2⟩ =>
  subst e1
  subst e2
  have new:(s.heap.push (fresh ld)).get? s.heap.objs.size=some (fresh ld):=bT _ rfl
  have ty:Shared.TypeIs { s with heap:=s.heap.push (fresh ld) } (.ref s.heap.objs.size) "set":=⟨_,new,rfl⟩
  have k7:=PySem.F.called_set.init.lookup
  have k8:=PySem.F.called_set.init.bind (.ref s.heap.objs.size)
  repeat (any_goals (first | assumption | wp_step))
  refine dV (codeAny_call_builtin (R:=wants (λr t2=>r = .none ∧ ∃ h' tk,t2={ s with heap:=h',toks:=tk } ∧
    c8 w h' s.heap.objs.size (gH ks) (bM ks).length∧(∀ b o,b<s.heap.objs.size→s.heap.get? b=some o→h'.get? b=some o)) E) PySem.F.called_set.init.plain PySem.F.entry_set_init (check_set_init_1 ty ?_)) λr2 t2 hr2 => ?_
  ·obtain ⟨ol,at_l,cl,nl,dl⟩:=hl
   obtain ⟨ocls,odict,odata,oslots⟩:=ol
   simp only at cl dl
   subst cl
   subst dl
   have at_l2:(s.heap.push (fresh ld)).get? l=some { cls:=.type "list",dict:=odict,data:=.seq us nl,slots:=oslots }:=aD _ at_l
   have j1:=PySem.F.sub_list_set
   have j2:=PySem.F.sub_list_frozenset
   have j3:(Value.type "list" == Value.type "dict")=false:=by decide
   have isl:(s.heap.push (fresh ld)).IsList l us:=⟨_,at_l2,rfl,nl,rfl⟩
   unfold Builtin.«set.__init__» noKeywords Builtin.Frozenset.updateFrom
   generalize eIt:pyIter=It
   wp_walk
   subst eIt
   refine kj isl (af (wpAny_runValue ?_))
   have below:l<s.heap.objs.size:=bD at_l
   have calm3:A.in1.in1.in1.handled=none:=by simp [calm]
   have apart:l≠(s.heap.push (fresh ld)).objs.size:=by
    rw [cU]; exact bU (jd below)
   have out:s.heap.objs.size∉[(s.heap.push (fresh ld)).objs.size,l]:=by
    rw [cU]
    simp only [cG,fm,or_false,not_or]
    exact ⟨bU (Nat.lt_succ_self _),fS below⟩
   refine MN ((Walks.list calm3 _ l apart us).toS) out sz (by rw [← sz]; exact few) (λi v hv=>strs_at rv i v (by rw [kh]; exact hv)) (us.size-0) 0 _ (by omega) (cy _)
    ⟨⟨_,bT _ rfl,rfl,rfl⟩,(isl.push _)⟩ ?start ?stop
   case start =>
    have g:((s.heap.push (fresh ld)).push { cls:=.type "list_iterator",data:=.fields #[.ref l,.int 0 0] }).get? s.heap.objs.size=some (fresh ld):=aD _ new
    exact ⟨_,#[],0,_,g,⟨rfl,rfl,rfl⟩,rfl,(λe he=>by simp at he),(by simp),(λk=>by simp [bM]),(by decide),(by rfl),rfl,List.Pairwise.nil,by
     show _∨(!w.params.followText "set-order")=true
     cases w.params.followText "set-order"
     ·exact .inr rfl
     ·exact .inl rfl⟩
   case stop =>
    intro t3 mv x
    obtain ⟨h',g',d',tk',os'⟩:=t3
    obtain rfl:g'=s.gens:=mv.gens
    obtain rfl:d'=s.drawn:=mv.drawn
    obtain rfl:os'=s.os:=mv.os
    show wpAny _ _ _ _ _ _
    refine ah ?_
    show wpAny _ _ (ret Value.none) _ _ _
    refine ah ⟨rfl,h',tk',rfl,x,λb o hb e => ?_⟩
    refine mv.heap b o ?_ (aD _ (aD _ e))
    rw [cU]
    simp only [cG,fm,or_false,not_or]
    exact ⟨bU hb,bU (jd hb)⟩
  ·match r2,hr2 with
   | .error e,hr2=>exact hr2
   | .ok .next,hr2=>exact hr2.elim
   | .ok .brk,hr2=>exact hr2.elim
   | .ok .cont,hr2=>exact hr2.elim
   | .ok (.ret r),⟨e1,h',tk,e2,x,keep⟩ =>
    subst e1
    subst e2
    repeat (any_goals (first | assumption | wp_step))
    exact fin _ _ x keep
end
end Pf

set_option maxRecDepth 100000
namespace Pf
open PySem PySem.Spec PyProof.Rows L2
open PySem.SeqAt PySem.W
mutual
noncomputable def nbD:D→Bool
 | .bool _=>false
 | .list _=>false
 | .dict _=>false
 | .tuple ds=>dX ds
 | .none=>true
 | .int _=>true
 | .str _=>true
noncomputable def dX:List D→Bool
 | []=>true
 | d::ds=>nbD d&&dX ds
end
mutual
theorem u9 : ∀ {d:D} {k:NestedKey},nkD d=some k→nbD d=true→k.data=d
 | .none,_,h,_=>by cases h; rfl
 | .bool _,_,_,h=>by cases h
 | .int _,_,h,_=>by cases h; rfl
 | .str _,_,h,_=>by cases h; rfl
 | .list _,_,h,_=>by cases h
 | .dict _,_,h,_=>by cases h
 | .tuple ds,k,h,n=>by
  have h:(dI ds).map NestedKey.tup=some k:=h
  have n:dX ds=true:=n
  rw [Option.map_eq_some_iff] at h
  obtain ⟨ks,e,rfl⟩:=h
  show PyData.tuple (NestedKey.datas ks)=_
  rw [yK e n]
theorem yK : ∀ {ds:List D} {ks:List NestedKey},dI ds=some ks→dX ds=true→NestedKey.datas ks=ds
 | [],_,h,_=>by cases h; rfl
 | d::ds,ks,h,n=>by
  unfold dI at h
  unfold dX at n
  rw [ai] at n
  split at h
  ·rename_i k r e1 e2
   cases h
   show NestedKey.data k::NestedKey.datas r=_
   rw [u9 e1 n.1,yK e2 n.2]
  ·cases h
end
section
variable {X:Cx} {pins:List (Addr × Obj)} {σ:L2.St} {H F:Hp} {s:Shared}
mutual
theorem Bu (I:L2.Inv X pins σ H s) (sub:Sm F H) : ∀ {v:V} {d:D} {u:Value} {k:NestedKey},Dn X.K F v d→nkD d=some k→nbD d=true→RelV v u→bw s.heap k u
 | _,_,_,_,.non,e,_,r=>by cases e; cases r; exact .none
 | _,_,_,_,.bl b,e,n,r=>by cases n
 | _,_,_,_,.int i,e,_,r=>by cases e; obtain ⟨t,rfl⟩:=r; exact .int _ _
 | _,_,_,_,.str _ _,e,_,r=>by cases e; obtain ⟨t,rfl⟩:=r; exact .text _ _
 | _,_,_,_,.lst _ _ _,e,_,_=>by cases e
 | _,_,_,_,.dct _ _ _,e,_,_=>by cases e
 | _,_,_,_,.ins _ _ _,e,_,_=>by cases e
 | _,_,_,_,.exc _ _ _ _,e,_,_=>by cases e
 | _,.tuple ds,_,_,.tup h _ al,e,n,r=>by
  have e:(dI ds).map NestedKey.tup=some _:=e
  have n:dX ds=true:=n
  cases ek:dI ds with
  | none=>rw [ek] at e; cases e
  | some ks =>
   rw [ek] at e
   cases e
   cases r
   obtain ⟨its,rv,⟨o,h1,h2,n3,h3⟩,_⟩:=I.tuple (Sm.jV sub h)
   exact .tup h1 h2 h3 (by simpa using xB I sub al ek n rv)
theorem xB (I:L2.Inv X pins σ H s) (sub:Sm F H) : ∀ {vs:List V} {ds:List D} {us:List Value} {ks:List NestedKey},aj X.K F vs ds→dI ds=some ks→dX ds=true→Vals vs us→cP s.heap ks us
 | _,_,_,_,.nil,e,_,.nil=>by cases e; exact .nil
 | _,d::ds,_,_,.cons h t,e,n,.cons r rs=>by
  unfold dI at e
  unfold dX at n
  rw [ai] at n
  cases e1:nkD d with
  | none=>rw [e1] at e; cases e
  | some k =>
   cases e2:dI ds with
   | none=>rw [e1,e2] at e; cases e
   | some ks =>
    rw [e1,e2] at e
    cases e
    exact .cons (Bu I sub h e1 n.1 r) (xB I sub t e2 n.2 rs)
end
end
noncomputable def adN (acc:List NestedKey) (k:NestedKey):List NestedKey:=if k∈acc then acc else acc++[k]
noncomputable def gy (ks:List NestedKey):List NestedKey:=ks.foldl adN []
theorem I9 {acc:List NestedKey} (k:NestedKey) (h:acc.Nodup):(adN acc k).Nodup:=by
 unfold adN
 by_cases e:k∈acc
 ·rw [if_pos e]; exact h
 ·rw [if_neg e]
  exact List.nodup_append.mpr ⟨h,by simp,λa ha b hb=>by
   rw [c7.mp hb]
   rintro rfl
   exact e ha⟩
theorem z9 : ∀ (ks acc:List NestedKey),acc.Nodup→(ks.foldl adN acc).Nodup
 | [],acc,h=>h
 | k::ks,acc,h=>z9 ks (adN acc k) (I9 k h)
theorem D2 (ks:List NestedKey):(gy ks).Nodup:=z9 ks [] List.nodup_nil
theorem xo : ∀ (ks acc:List NestedKey) (x:NestedKey),x∈ks.foldl adN acc↔x∈acc∨x∈ks
 | [],acc,x=>by simp
 | k::ks,acc,x=>by
  show x∈ks.foldl adN (adN acc k)↔_
  rw [xo ks (adN acc k) x]
  unfold adN
  by_cases e:k∈acc
  ·rw [if_pos e,cG]
   constructor
   ·rintro (h | h)
    ·exact .inl h
    ·exact .inr (.inr h)
   ·rintro (h | rfl | h)
    ·exact .inl h
    ·exact .inl e
    ·exact .inr h
  ·rw [if_neg e,j6,c7,cG]
   constructor
   ·rintro ((h | h) | h)
    ·exact .inl h
    ·exact .inr (.inl h)
    ·exact .inr (.inr h)
   ·rintro (h | h | h)
    ·exact .inl (.inl h)
    ·exact .inl (.inr h)
    ·exact .inr h
theorem qI {ks:List NestedKey} {x:NestedKey}:x∈gy ks↔x∈ks:=by
 unfold gy
 rw [xo]
 simp
theorem zc : ∀ (ks acc:List Str) (x:Str),x∈ks.foldl adX acc↔x∈acc∨x∈ks
 | [],acc,x=>by simp
 | k::ks,acc,x=>by
  show x∈ks.foldl adX (adX acc k)↔_
  rw [zc ks (adX acc k) x]
  unfold adX
  by_cases e:k∈acc
  ·rw [if_pos e,cG]
   constructor
   ·rintro (h | h)
    ·exact .inl h
    ·exact .inr (.inr h)
   ·rintro (h | rfl | h)
    ·exact .inl h
    ·exact .inl e
    ·exact .inr h
  ·rw [if_neg e,j6,c7,cG]
   constructor
   ·rintro ((h | h) | h)
    ·exact .inl h
    ·exact .inr (.inl h)
    ·exact .inr (.inr h)
   ·rintro (h | h | h)
    ·exact .inl (.inl h)
    ·exact .inl (.inr h)
    ·exact .inr h
theorem NI {ks:List Str} {x:Str}:x∈bM ks↔x∈ks:=by
 unfold bM
 rw [zc]
 simp
noncomputable def sD:List NestedKey→Nat
 | .tup (x::_)::_=>kyT x
 | _=>0
noncomputable def sN (xs:List D):Option (List NestedKey):=match dI xs with
 | some ks=>if (dX xs=true∧(ks.all λk=>decide (k.depth≤8)&&jr k)=true∧(gy ks).length+1<64) then some (gy ks) else none
 | none=>none
noncomputable def jq (ks:List NestedKey):List NestedKey:=ms (cY bV) ks
theorem mM (ks:List NestedKey):jq ks=ks.mergeSort (cY bV):=BG _ _
noncomputable def jm (ks:List NestedKey):Bool:=(ks.all λk=>ks.all λk'=>c6 k k')&&ks.all (fY (sD ks))
noncomputable def Fd:D→Option Str
 | .str x=>some x
 | _=>none
noncomputable def ik:List D→Option (List Str)
 | []=>some []
 | d::ds=>(Fd d).bind λk=>(ik ds).map (k :: ·)
theorem vh {K:PySem.W.Frag} {F:Hp} : ∀ {vs:List V} {ds:List D} {ks:List Str},aj K F vs ds→ik ds=some ks→vs=ks.map V.str ∧ ∀ k∈ks,asc k=true∧k.length≤LIM
 | _,_,_,.nil,e=>by cases e; exact ⟨rfl,λk h=>by cases h⟩
 | v::vs,d::ds,ks,.cons h t,e=>by
  unfold ik at e
  rw [Option.bind_eq_some_iff] at e
  obtain ⟨k,e1,e2⟩:=e
  rw [Option.map_eq_some_iff] at e2
  obtain ⟨r,e2,rfl⟩:=e2
  have e3:d = .str k:=by cases d <;> first | cases e1; done | (cases e1; rfl)
  subst e3
  obtain ⟨e4,e5⟩:=vh t e2
  cases h with
  | str h1 h2 =>
   rw [e4]
   exact ⟨rfl,λk hk=>by
    rcases cG.mp hk with rfl | hk
    ·exact ⟨h1,h2⟩
    ·exact e5 k hk⟩
inductive jT where
 | si (ks:List Int)
 | sx (ks:List Str)
 | sk (ks:List NestedKey)
noncomputable def oY:D→Rs jT
 | .list xs=>match dP xs with
  | some ks=>if ks.length≤4000 then (eV (bp ks)).bind λk => .ok (.si k) else .bad
  | none=>match ik xs with
   | some ks=>if ks.length≤4000 then .ok (.sx (bM ks)) else .bad
   | none=>if xs.length≤4000 then (match sN xs with
    | some ks => .ok (.sk ks)
    | none => .bad) else .bad
 | _ => .bad
noncomputable def BN:jT→Rs (List D)
 | .si ks => .ok (fK ks)
 | .sx ks => .ok ((e7 ks).map .str)
 | .sk ks=>if jm ks=true then .ok ((jq ks).map NestedKey.data) else .bad
noncomputable def gv (d:D):Rs (List D):=(oY d).bind BN
theorem FZ {xs:List D} {ks:List Int} (h:dP xs=some ks):gv (.list xs)=qA (.list xs):=by
 unfold gv qA oY xi
 simp only [h]
 by_cases c:ks.length≤4000
 ·rw [if_pos c,if_pos c]
  unfold eV
  by_cases c2:(bp ks).length<64
  ·rw [if_pos c2]
   rfl
  ·rw [if_neg c2]
   rfl
 ·rw [if_neg c,if_neg c]
  rfl
structure iA (w:World) (h:Heap) (a:Addr) (L:List (Addr × NestedKey)):Prop where
 ex : ∃ (es:Array (Int × Value)) (ep:Nat) (t:SetTable),(∃ o,h.get? a=some o∧o.ExactSet∧o.data = .set es ep t)∧es.toList=cH w L∧TabOk t (L.map λp=>nh w p.2)∧(L.map (·.2)).Nodup ∧
  (w.params.followText "set-order" = true∨t.led=true)∧L.length*5<t.mask*3∧L.length<64
noncomputable def ma (w:World) (a:Addr) (L:List (Addr × NestedKey)):HO:=.ext λh=>iA w h a L
theorem bO.t0 {w:World} {h:Heap} {a:Addr} {L:List (Addr × NestedKey)} {es:Array (Int × Value)} {ep:Nat} {t:SetTable} (R:bO w h a L es ep t):iA w h a L:=
 ⟨es,ep,t,R.ob,R.rows,R.tab,R.nd,R.led,R.room,R.few⟩
theorem iA.full {w:World} {h:Heap} {a:Addr} {L:List (Addr × NestedKey)} (R:iA w h a L) (ht : ∀ p∈L,IsN h p.2 p.1) : ∃ es ep t,bO w h a L es ep t:=by
 obtain ⟨es,ep,t,h1,h2,h3,h4,h5,h6,h7⟩:=R.ex
 exact ⟨es,ep,t,h1,h2,h3,h4,ht,h5,h6,h7⟩
theorem Hz {P:Program} {w:World} {H:Hp} {h:Heap} {a:Addr} {L:List (Addr × NestedKey)} (R:iA w h a L):ObjOk P w H h a (ma w a L):=by
 have ⟨es,ep,t,⟨o,ho,r⟩,q⟩:=R.ex
 refine ⟨R,⟨o,ho⟩,λh1 h2 p k => ?_⟩
 have ⟨es',ep',t',⟨o',ho',r'⟩,q'⟩:=iA.ex p
 exact ⟨es',ep',t',⟨o',k o' ho',r'⟩,q'⟩
noncomputable def lH (w:World) (a:Addr) (S:Str→Bool) (n:Nat):HO:=.ext λh=>c8 w h a S n
theorem J9 {P:Program} {w:World} {H:Hp} {h:Heap} {a:Addr} {S:Str→Bool} {n:Nat} (R:c8 w h a S n):ObjOk P w H h a (lH w a S n):=by
 have ⟨o,es,ep,t,ho,r⟩:=R
 refine ⟨R,⟨o,ho⟩,λh1 h2 p k => ?_⟩
 exact c8.at p k
noncomputable def o_ (K:PySem.W.Frag) (H:Hp) (p:Addr × NestedKey):Prop:=∃ (M:Hp) (d:D),Sm M H∧Dn K M (.ref p.1) d∧nkD d=some p.2∧nbD d=true∧p.2.depth≤8
noncomputable def Pc (K:PySem.W.Frag) (w:World):List V→Hp→VK→Prop:=λxs H Q=>yG K w xs H Q ∨
 (∃ (l:Addr) (ks:List Str),xs=[V.ref l]∧SqL K H l (ks.map V.str)∧ks.length≤4000 ∧ ∀ a,H a=none→Q (.ref a) (upd H a (lH w a (gH ks) (bM ks).length))) ∨
 (∃ (l:Addr) (ks:List (Addr × NestedKey)),xs=[V.ref l]∧SqL K H l (ks.map λp=>V.ref p.1)∧(∀ p∈ks,o_ K H p) ∧
  (∀ L:List (Addr × NestedKey),(L.map (·.2)).Nodup→(∀ p∈L,p∈ks)→L.length+1<64) ∧
  ∀ a L,H a=none→(∀ p∈L,p∈ks)→(∀ p∈ks,p.2∈L.map (·.2))→(L.map (·.2)).Nodup→Q (.ref a) (upd H a (ma w a L)))
theorem y3 : ∀ {ks:List (Addr × NestedKey)} {us:List Value},Vals (ks.map λp=>V.ref p.1) us→us=ks.map λp=>Value.ref p.1
 | [],_,.nil=>rfl
 | p::ks,_,.cons r t=>by
  cases r
  rw [y3 t] <;> rfl
section
variable {X:Cx} {xp:XP} {W:WX} {e:Expr} {fa:Sto→Rs D} {p p2 q pos:Pos}
theorem o_.is {pins:List (Addr × Obj)} {σ:L2.St} {H:Hp} {s:Shared} (I:L2.Inv X pins σ H s) {p:Addr × NestedKey} (h:o_ X.K H p):bw s.heap p.2 (.ref p.1):=by
 obtain ⟨M,d,sm,h1,h2,h3,_⟩:=h
 exact Bu I sm h1 h2 h3 rfl
theorem Hj (hc:X.calm=true) (hu:X.A.units+64<cLine):CallR X (.type "set") (Pc X.K X.w):=by
 intro pins s σ H xs us Q I r h
 rcases h with h | ⟨l,ks,rfl,hl,few,q⟩ | ⟨l,ks,rfl,hl,hk,hf,q⟩
 ·exact LJ hc pins s σ H xs us Q I r h
 ·rw [Vals.ref1 r]
  obtain ⟨its,rv,pl,hz⟩:=I.list hl
  have hn:H s.heap.objs.size=none:=I.hok.fresh (aC _)
  have sb:scanBound=4096:=rfl
  refine Jx (I.ok.hd hc) pl.isList (by simpa using rv) (by omega) λh' tk new keep => ?_
  exact ⟨.ref _,upd H s.heap.objs.size (lH X.w s.heap.objs.size (gH ks) (bM ks).length),I.laid (t':=tk) (λb u z=>keep b u (bD z) z) (aC _) (J9 new),rfl,q _ hn⟩
 ·rw [Vals.ref1 r]
  obtain ⟨its,rv,pl,hz⟩:=I.list hl
  have hn:H s.heap.objs.size=none:=I.hok.fresh (aC _)
  refine call_set_tups (P:=X.prog) (w:=X.w) ks (I.ok.hd hc) pl.isList (by simpa using y3 rv) (λp hp=>⟨((hk p hp).is I).nk,(hk p hp).elim λM h=>h.elim λd h=>h.2.2.2.2⟩) hf (by omega) λh' tk L es ep t R g k => ?_
  refine ⟨.ref s.heap.objs.size,upd H s.heap.objs.size (ma X.w s.heap.objs.size L),I.laid (t':=tk) k (aC _) (Hz R.t0),rfl,q _ L hn (λp hp => ?_) (λp hp => ?_) R.nd⟩
  ·exact j7 (g.sub p hp)
  ·exact g.all p (by rw [List.take_length]; exact hp)
theorem xC (xs:List Str):(e7 xs).length=xs.length:=by
 unfold e7
 rw [jZ]
theorem Ee {xs ys:List Str} (h:xs.Perm ys):e7 xs=e7 ys:=
 PySem.W.Srt.the_of_perm leS Bh vF (λ_ _=>NV) ((pW xs _).trans h) (pX Bh vF xs)
theorem LO (x y:Str):cY (λx:Str=>[(Sum.inr x.cps.toList:Int ⊕ List Nat)]) x y=leS x y:=by
 unfold cY leS
 rw [lex_one,ltCps_eq]
 rfl
noncomputable def J8 (K:PySem.W.Frag) (w:World):List V→Hp→VK→Prop:=λvs H Q=>L2.rSortedSet w vs H Q ∨
 (∃ (a:Addr) (ks:List Str),vs=[V.ref a]∧H a=some (lH w a (λj=>decide (j∈ks)) ks.length)∧ks.Nodup∧ks.length≤4000 ∧ ∀ p,H p=none→Q (.ref p) (upd H p (.lst ((e7 ks).map V.str)))) ∨
 (∃ (a:Addr) (L:List (Addr × NestedKey)),vs=[V.ref a]∧H a=some (ma w a L)∧(∀ p∈L,o_ K H p)∧jm (L.map (·.2))=true ∧
  ∀ p (xs:List V),H p=none→EachIs (λv k => ∃ q∈L,v=V.ref q.1∧q.2=k) xs (jq (L.map (·.2)))→Q (.ref p) (upd H p (.lst xs)))
theorem vm {w:World} : ∀ {es:List (Int × Value)},(∀ e∈es,gZ w e)→EachIs (λv x => ∃ t,v=Value.str x t) (es.map (·.2)) (es.map cE)
 | [],_ => .nil
 | e::es,h=>by
  refine .cons ?_ (vm λx hx=>h x (aE _ hx))
  obtain ⟨k,tk,h1,_⟩:=h e bu
  refine ⟨tk,?_⟩
  unfold cE
  show e.2=_
  rw [h1]
theorem vals_strs : ∀ {vs:List Value} {xs:List Str},EachIs (λv x => ∃ t,v=Value.str x t) vs xs→Vals (xs.map V.str) vs
 | _,_,.nil => .nil
 | _,_,.cons h t => .cons h (vals_strs t)
theorem z7 {L:List (Addr × NestedKey)} : ∀ {vs:List Value} {ks:List NestedKey},EachIs (λv k => ∃ q∈L,v=Value.ref q.1∧q.2=k) vs ks → ∃ xs:List V,Vals xs vs∧EachIs (λv k => ∃ q∈L,v=V.ref q.1∧q.2=k) xs ks
 | _,_,.nil=>⟨[],.nil,.nil⟩
 | _,_,.cons h t=>by
  obtain ⟨xs,a,b⟩:=z7 t
  obtain ⟨q,hq,rfl,e⟩:=h
  exact ⟨V.ref q.1::xs,.cons rfl a,.cons ⟨q,hq,rfl,e⟩ b⟩
theorem Io (hc:X.calm=true) (hu:X.A.units+64<cLine):CallR X (.builtin "sorted") (J8 X.K X.w):=by
 intro pins s σ H vs us Q I r h
 have lay : ∀ {s':Shared} {p:Addr} {out:Array Value} {c:Nat} {xs:List V},(∀ b o,s.heap.get? b=some o→s'.heap.get? b=some o)→s'.gens=s.gens→s'.os=s.os→s.heap.objs.size≤p →
   s'.heap.get? p=some (seqObj "list" out c)→Vals xs out.toList→xs.length≤sizeLine→L2.Inv X pins σ (upd H p (.lst xs)) s'∧H p=none:=by
  intro s' p out c xs k g o hp hg hv hlen
  have hn:H p=none:=I.hok.fresh hp
  have J:L2.Inv X pins σ (upd H p (.lst xs)) { s with heap:=s'.heap,gens:=s'.gens,drawn:=s'.drawn,toks:=s'.toks }:=
   I.call (ch:=[]) (Un.laid k hp hn) (I.hok.laid k hp ⟨hlen,out.toList,c,hv,hg⟩) (by rw [g]; exact I.bare) (λ_ z=>nomatch z)
  have e:s'={ s with heap:=s'.heap,gens:=s'.gens,drawn:=s'.drawn,toks:=s'.toks }:=by
   cases s'
   cases s
   cases o
   rfl
  rw [e]
  exact ⟨J,hn⟩
 have sb:scanBound=4096:=rfl
 rcases h with h | ⟨a,ks,rfl,ha,nd,few,q⟩ | ⟨a,L,rfl,ha,hk,hcm,q⟩
 ·exact cr_sortedSet hc pins s σ H vs us Q I r h
 ·have R:c8 X.w s.heap a (λj=>decide (j∈ks)) ks.length:=(I.hok a _ ha).1
  obtain ⟨o,es,ep,t,ho,hex,hd,g,ndx,hm,hb,hf,hn,hr,hl⟩:=R
  rw [Vals.ref1 r]
  refine sorted_set (R:=λv x => ∃ t,v=Value.str x t) (enc:=λx:Str=>[(Sum.inr x.cps.toList:Int ⊕ List Nat)]) (bs:=es.toList.map cE) (I.ok.hd hc) ho hex.1 hd hf hb hr hl (vm g) (λx y e=>str_of_cps (Sum.inr.inj (List.cons.inj e).1)) (λs' vs cs keep ec pc => ?_) λs' p out c k g1 o1 hp hg1 eo => ?_
  ·have e2:EachIs (λv d => ∃ as,Reads s'.heap v d as) vs (cs.map PyData.str):=by
    clear pc keep
    induction ec with
    | nil=>exact .nil
    | cons h _ ih =>
     obtain ⟨t,rfl⟩:=h
     exact .cons ⟨[],.str _ t⟩ ih
   have al:AllAlike (cs.map PyData.str):=AllAlike.of λx y=>rfl
   refine ⟨(dataKind s'.heap (cs.map PyData.str)).keyOf,SortsAt.data e2 al (Sortable.others (enc:=PyData.str) (bs:=cs) λb=>⟨λz=>PyData.noConfusion z,λxs z=>PyData.noConfusion z⟩) (λd hd => ?_),?_⟩
   ·obtain ⟨x,_,rfl⟩:=fA.mp hd
    show X.A.in1.in1.units+0<_
    simp only [Around.in1_units]
    omega
   ·exact (each_mem ec).mono λv x ⟨⟨t,e⟩,hx⟩=>by
     rw [e]
     exact dataKind_some al (ja hx) (.str x t)
  ·have pm:(es.toList.map cE).Perm ks:=(pY ndx nd).mpr λx=>by rw [← hm x]; simp
   have eq:(es.toList.map cE).mergeSort (cY (λx:Str=>[(Sum.inr x.cps.toList:Int ⊕ List Nat)]))=e7 ks:=by
    rw [← Ee pm]
    unfold e7
    congr 1
    funext x y
    exact LO x y
   rw [eq] at eo
   obtain ⟨J,hn2⟩:=lay k g1 o1 hp hg1 (vals_strs eo) (by rw [aq,xC]; exact aF few (by rw [sizeLine_eq]; decide))
   exact ⟨.ref p,_,J,rfl,q p hn2⟩
 ·have R0:iA X.w s.heap a L:=(I.hok a _ ha).1
  have kk : ∀ p∈L,bw s.heap p.2 (.ref p.1):=λp hp=>(hk p hp).is I
  obtain ⟨es,ep,t,R⟩:=R0.full λp hp=>⟨(kk p hp).nk,(hk p hp).elim λM h=>h.elim λd h=>h.2.2.2.2⟩
  unfold jm at hcm
  rw [ai] at hcm
  rw [Vals.ref1 r]
  refine Ea (tt:=sD (L.map (·.2))) R (I.ok.hd hc) (by omega) kk (λp hp q hq => ?_) (λp hp => ?_) λs' p out c k g1 o1 hp hg1 eo => ?_
  ·exact j5.mp (j5.mp hcm.1 p.2 (ja hp)) q.2 (ja hq)
  ·exact j5.mp hcm.2 p.2 (ja hp)
  ·obtain ⟨xs,v1,v2⟩:=z7 eo
   have ln:xs.length=L.length:=by
    rw [v2.length,jZ,aq]
   obtain ⟨J,hn2⟩:=lay k g1 o1 hp hg1 v1 (by rw [ln,sizeLine_eq]; have:=R.few; omega)
   rw [← mM] at v2
   exact ⟨.ref p,_,J,rfl,q p xs hn2 v2⟩
noncomputable def LC (w:World) (K:PySem.W.Frag) (mg:Str→Option Value) (xp:XP) (W:WX) (f:Sto→Rs jT):TE:=λσ H Q => ∃ ρ O,Rel K xp σ H ρ O ∧
 End K mg W O σ H (λM H' => ∀ p,H p=none→(match M with
  | .si ks=>H' p=some (SetO w p (λj=>decide (j∈ks)) ks.length)∧ks.length<64∧ks.Nodup
  | .sx ks=>H' p=some (lH w p (λj=>decide (j∈ks)) ks.length)∧ks.length≤4000∧ks.Nodup ∧ ∀ k∈ks,asc k=true∧k.length≤LIM
  | .sk ks => ∃ L,H' p=some (ma w p L)∧L.length≤64∧(L.map (·.2)).Perm ks ∧ ∀ q∈L,∃ d,Dn K (msk H' (p::O)) (.ref q.1) d∧nkD d=some q.2∧nbD d=true∧q.2.depth≤8)→Q (.ref p) H') (f ρ)
theorem xP {α:Type} [DecidableEq α] : ∀ {l m:List α},l.Nodup→(∀ x∈l,x∈m)→l.length≤m.length
 | [],_,_,_=>cy _
 | x::l,m,nd,h=>by
  rw [List.nodup_cons] at nd
  have hx:=h x bu
  have ih:=xP (l:=l) (m:=m.erase x) nd.2 λy hy=>by
   refine (List.mem_erase_of_ne λe => ?_).mpr (h y (aE _ hy))
   rw [e] at hy
   exact nd.1 hy
  rw [List.length_erase_of_mem hx] at ih
  have:=List.length_pos_of_mem hx
  rw [a8]
  omega
theorem A6 {L ks:List (Addr × NestedKey)} (nd:(L.map (·.2)).Nodup) (h : ∀ p∈L,p∈ks):L.length≤(gy (ks.map (·.2))).length:=by
 have h1:=xP (m:=gy (ks.map (·.2))) nd λx hx=>by
  obtain ⟨p,hp,rfl⟩:=fA.mp hx
  exact qI.mpr (ja (h p hp))
 rwa [aq] at h1
theorem yR {K:PySem.W.Frag} {F:Hp} : ∀ {vs:List V} {ds:List D} {ks:List NestedKey},aj K F vs ds→dI ds=some ks→dX ds=true→(ks.all λk=>decide (k.depth≤8)&&jr k)=true →
  ∃ ps:List (Addr × NestedKey),vs=ps.map (λp=>V.ref p.1)∧ps.map (·.2)=ks ∧ ∀ p∈ps,∃ d,Dn K F (.ref p.1) d∧nkD d=some p.2∧nbD d=true∧p.2.depth≤8
 | _,_,_,.nil,e,_,_=>by cases e; exact ⟨[],rfl,rfl,λp h=>by cases h⟩
 | v::vs,d::ds,ks,.cons h t,e,n,a=>by
  unfold dI at e
  unfold dX at n
  rw [ai] at n
  split at e
  ·rename_i k r e1 e2
   cases e
   rw [gW,ai,ai,aw] at a
   obtain ⟨ps,p1,p2,p3⟩:=yR t e2 n.2 a.2
   cases h with
   | tup h1 h2 h3 =>
    refine ⟨(_,k)::ps,by rw [p1]; rfl,by rw [← p2]; rfl,λp hp => ?_⟩
    rcases cG.mp hp with rfl | hp
    ·exact ⟨_,.tup h1 h2 h3,e1,n.1,a.1.1⟩
    ·exact p3 p hp
   | _ =>
    first
    | (cases e1; cases a.1.2; done)
    | (cases e1; done)
  ·cases e
theorem HM (hc:X.calm=true) (hu:X.A.units+64<cLine) (hg:Gl X "set") (hm:X.mg "set" = none) (ha:CE X xp W e fa) (he:starEach [e] X.env=(false,eval e X.env)::starEach [] X.env):PE X (.Call (.Name "set" p) [e] [] pos) (LC X.w X.K X.mg xp W (λρ=>(fa ρ).bind oY)):=
 bt (pe_callTy (Hj hc hu) hg hm PyProof.Rows.boot_set (bG ha cu he) (by decide) (by decide) he rfl) λσ H Q ⟨ρ,O,R,q⟩ =>
  ⟨ρ,O,R,(End.bind q).imp λd H1 _ s1 q1 v hv=>by
   match d,hv,q1 with
   | .list xs,.lst (xs:=vs) h1 h2 h3,q1 =>
    have h1':RL X.K H1 _ _:=aQ h1
    cases ek:dP xs with
    | some ks =>
     have q1:End X.K X.mg W O σ H1 _ (match dP xs with
      | some ks=>if ks.length≤4000 then (eV (bp ks)).bind λk=>Rs.ok (jT.si k) else .bad
      | none=>_):=q1
     rw [ek] at q1
     obtain ⟨few,q1⟩:=cO q1
     unfold eV at q1
     have q2:=End.bind q1
     obtain ⟨f64,q2⟩:=cO q2
     obtain rfl:=ints_vals h3 ek
     refine .inl ⟨_,ks,rfl,h1'.sq,few,λa ha => ?_⟩
     exact (q2.ok.ok) a (s1.free ha) |> λk=>by
      have:=q2.ok
      exact (End.ok (End.grow this (a0 ha))) a (s1.free ha) ⟨by rw [aS],f64,nU ks⟩
    | none =>
     cases es:ik xs with
     | some ks =>
      have q1:End X.K X.mg W O σ H1 _ (match dP xs with
       | some ks=>_
       | none=>match ik xs with
        | some ks=>if ks.length≤4000 then Rs.ok (jT.sx (bM ks)) else .bad
        | none=>_):=q1
      rw [ek,es] at q1
      obtain ⟨few,q1⟩:=cO q1
      obtain ⟨rfl,asck⟩:=vh h3 es
      refine .inr (.inl ⟨_,ks,rfl,h1'.sq,few,λa ha => ?_⟩)
      exact q1 _ (a0 ha) a (s1.free ha) ⟨by rw [aS],aF (zC ks) few,JT ks,λk hk=>asck k (NI.mp hk)⟩
     | none =>
      have q1:End X.K X.mg W O σ H1 _ (match dP xs with
       | some ks=>_
       | none=>match ik xs with
        | some ks=>_
        | none=>if xs.length≤4000 then (match sN xs with
         | some ks=>Rs.ok (jT.sk ks)
         | none => .bad) else .bad):=q1
      rw [ek,es] at q1
      obtain ⟨few,q1⟩:=cO q1
      unfold sN at q1
      cases en:dI xs with
      | none=>rw [en] at q1; exact q1.elim
      | some ks =>
       rw [en] at q1
       by_cases c:dX xs=true∧(ks.all λk=>decide (k.depth≤8)&&jr k)=true∧(gy ks).length+1<64
       ·simp only [if_pos c] at q1
        obtain ⟨ps,p1,p2,p3⟩:=yR h3 en c.1 c.2.1
        subst p1
        refine .inr (.inr ⟨_,ps,rfl,h1'.sq,λp hp => ?_,λL nd sub => ?_,λa L ha sub all nd => ?_⟩)
        ·obtain ⟨d,d1,d2,d3,d4⟩:=p3 p hp
         exact ⟨_,d,dM,d1,d2,d3,d4⟩
        ·have:=A6 nd sub
         rw [p2] at this
         omega
        ·refine q1 _ (a0 ha) a (s1.free ha) ⟨L,by rw [aS],?_,?_,λq hq => ?_⟩
         ·have:=A6 nd sub
          rw [p2] at this
          omega
         ·refine (pY nd (D2 ks)).mpr λx=>⟨λhx => ?_,λhx => ?_⟩
          ·obtain ⟨p,hp,rfl⟩:=fA.mp hx
           rw [qI,← p2]
           exact ja (sub p hp)
          ·rw [qI,← p2] at hx
           obtain ⟨p,hp,rfl⟩:=fA.mp hx
           exact all p hp
         ·obtain ⟨d,d1,d2,d3,d4⟩:=p3 q (sub q hq)
          refine ⟨d,bf (.of λb o hb => ?_) d1,d2,d3,d4⟩
          rw [dC]
          have hb1:=(dJ hb).2
          have hne:b≠a:=λz=>by rw [z,ha] at hb1; cases hb1
          have hbO:b∉O:=λz=>by rw [cK z] at hb; cases hb
          rw [bc (by simp [hne,hbO])]
          exact hb1
       ·simp only [if_neg c] at q1
        exact q1.elim⟩
theorem MC (hc:X.calm=true) (hu:X.A.units+64<cLine) (hg:Gl X "set") (hm:X.mg "set" = none) (hg2:Gl X "sorted") (hm2:X.mg "sorted" = none) (ha:CE X xp W e fa) (he:starEach [e] X.env=(false,eval e X.env)::starEach [] X.env) :
  CF X xp W (.Call (.Name "sorted" p2) [.Call (.Name "set" p) [e] [] q] [] pos) (λρ=>(fa ρ).bind gv):=
 bt (pe_callB (Io hc hu) hg2 hm2 rfl (bG (HM (p:=p) (pos:=q) hc hu hg hm ha he) cu rfl) (by decide) (by decide) rfl rfl) λσ H Q ⟨ρ,O,R,q⟩ =>
  ⟨ρ,O,R,(End.bind (m:=(fa ρ).bind oY) (k:=BN) (by rw [Rs.bind_assoc]; exact q)).imp λM H1 _ s1 q1 p hp hM=>by
   cases M with
   | si ks =>
    obtain ⟨h1,hl,nd⟩:=hM
    refine .inl ⟨p,_,_,rfl,h1,hl,λns a n1 n2 n3 ha => ?_⟩
    have nd2:ns.Nodup:=n1.imp λh=>Int.ne_of_lt h
    have pm:ns.Perm ks:=(pY nd2 nd).mpr λk=>by rw [n2 k]; simp
    have e1:ns=ks.mergeSort λx y=>decide (x≤y):=PySem.W.os_sorted_mergeSort pm (n1.imp λh=>Int.le_of_lt h)
    have q1:End X.K X.mg W O σ H1 _ (Rs.ok (fK ks)):=q1
    have q2:=q1 _ (a0 ha) a (ns.map V.int) (s1.free ha) aS (by rw [aq,n3]; exact aF (Nat.le_of_lt hl) (by decide))
    refine q2 ?_
    unfold fK
    rw [← e1]
    exact q_ ns
   | sx ks =>
    obtain ⟨h1,hl,nd,hk⟩:=hM
    refine .inr (.inl ⟨p,ks,rfl,h1,nd,hl,λa ha => ?_⟩)
    have q1:End X.K X.mg W O σ H1 _ (Rs.ok ((e7 ks).map PyData.str)):=q1
    refine q1 _ (a0 ha) a _ (s1.free ha) aS (by rw [aq,xC]; exact aF hl (by decide)) ?_
    have : ∀ xs:List Str,(∀ x∈xs,x∈ks) → ∀ F,aj X.K F (xs.map V.str) (xs.map PyData.str):=by
     intro xs
     induction xs with
     | nil=>intro _ F; exact .nil
     | cons x xs ih =>
      intro h F
      have:=hk x (h x bu)
      exact .cons (.str this.1 this.2) (ih (λy hy=>h y (aE _ hy)) F)
    exact this _ (λx hx=>List.mem_mergeSort.mp hx) _
   | sk ks =>
    obtain ⟨L,h1,hl,pm,hk⟩:=hM
    have q1:End X.K X.mg W O σ H1 _ (if jm ks=true then Rs.ok ((jq ks).map NestedKey.data) else .bad):=q1
    obtain ⟨cm,q1⟩:=cO q1
    have cmL:jm (L.map (·.2))=true:=by
     unfold jm at cm ⊢
     rw [ai] at cm ⊢
     refine ⟨j5.mpr λk hk=>j5.mpr λk' hk'=>j5.mp (j5.mp cm.1 k (pm.mem_iff.mp hk)) k' (pm.mem_iff.mp hk'),j5.mpr λk hk => ?_⟩
     have c1 : ∀ k∈ks,fY (sD ks) k=true:=λk hk=>j5.mp cm.2 k hk
     have c2:=c1 k (pm.mem_iff.mp hk)
     cases hL:L.map (·.2) with
     | nil=>rw [hL] at hk; cases hk
     | cons k0 r =>
      have c3:=c1 k0 (pm.mem_iff.mp (by rw [hL]; exact bu))
      obtain ⟨x,r2,rfl,e2⟩:=mS c3
      show fY (kyT x) k=true
      rw [e2]
      exact c2
    refine .inr (.inr ⟨p,L,rfl,h1,λq hq => ?_,cmL,λa xs ha ex => ?_⟩)
    ·obtain ⟨d,d1,d2,d3,d4⟩:=hk q hq
     exact ⟨_,d,dM,d1,d2,d3,d4⟩
    ·have es:jq (L.map (·.2))=jq ks:=by
      rw [mM,mM]
      exact AV (λ_ _=>xb) pm
     rw [es] at ex
     have lx:xs.length=L.length:=by
      rw [ex.length,mM,jZ,← pm.length_eq,aq]
     refine q1 _ (a0 ha) a xs (s1.free ha) aS (by rw [lx]; exact aF hl (by decide)) ?_
     have : ∀ {ys:List V} {zs:List NestedKey},EachIs (λv k => ∃ q∈L,v=V.ref q.1∧q.2=k) ys zs→aj X.K (msk (upd H1 a (.lst xs)) (a::O)) ys (zs.map NestedKey.data):=by
      intro xs' zs h
      induction h with
      | nil=>exact .nil
      | cons h _ ih =>
       obtain ⟨q,hq,rfl,rfl⟩:=h
       obtain ⟨d,d1,d2,d3,d4⟩:=hk q hq
       refine .cons ?_ ih
       rw [u9 d2 d3]
       refine bf (.of λb o hb => ?_) d1
       have hb1:=(dJ hb).2
       have hne:b≠a:=λz=>by rw [z,ha] at hb1; cases hb1
       have hbO:b∉p::O:=λz=>by rw [cK z] at hb; cases hb
       rw [dC,bc (by simp only [cG,not_or] at hbO ⊢; exact ⟨hne,hbO.2⟩)]
       exact hb1
     exact this ex⟩
end
end Pf

set_option maxRecDepth 100000
namespace Pf
open PySem PySem.Spec L2
noncomputable def NX:D→Bool
 | .none=>true
 | _=>false
noncomputable def jD (ks:List D):Bool:=ks.all λx => !NX x&&ks.all λy=>PySem.W.alike x y
theorem EC {ks:List D} (h:jD ks=true):PySem.W.AlikeAll ks:=by
 unfold jD at h
 simp only [j5,ai,Bool.not_eq_true'] at h
 exact ⟨λx hx y hy=>(h x hx).2 y hy,λx hx z=>by have:=(h x hx).1; rw [z] at this; cases this⟩
noncomputable def xh:D→Rs D
 | .list (x::r)=>if jD (x::r)=true∧((x::r).all λx=>decide (x.depth≤64))=true∧PyData.hasDictAll (x::r)=false then .ok (PySem.W.minD x r) else .bad
 | _ => .bad
section
variable {X:Cx} {xp:XP} {W:WX} {e:Expr} {fe:Sto→Rs D} {pos:Pos}
end
end Pf

set_option maxRecDepth 100000
namespace Pf
open PySem PySem.Spec PyProof.Rows L2
noncomputable def wY (d:D):List D→Option Nat
 | []=>none
 | x::xs=>if PyData.eqv x d=true then some 0 else (wY d xs).map (· + 1)
noncomputable def Fu (a d:D):Rs D:=match a with
 | .list xs=>if plain (.list xs)=true∧plain d=true then (match wY d xs with | some j => .ok (.int (j:Int)) | none => .bad) else .bad
 | _ => .bad
noncomputable def BA (a b:Rs D):Rs D:=a.bind λx=>match x with
 | .list xs=>b.bind λy=>Fu (.list xs) y
 | _ => .bad
section
variable {X:Cx} {xp:XP} {W:WX} {o e:Expr} {fo fk:Sto→Rs D} {apos cpos:Pos}
end
end Pf

set_option maxRecDepth 100000
namespace Pf
open PySem PySem.Spec PyProof.Rows L2
inductive Op where
 | lrg1
 | lrg2
 | back2
 | dix
 | sortKeys
 | minD
 | minA
 | lidx
 | srtSet
 | dictL
 | dgetI
 | exch (a b c d e f g h:Str)
 | attr (cls f:Str)
 | insC (y:Str)
 | ch3 (o1 o2 o3:Cm)
 | exMk (x f:Str)
 | exMkK (x f:Str)
 | exAt (f:Str)
 | exIs (y:Str) (ys ns:List (Str × Str))
noncomputable def Op.A4:Op→Bool
 | .ch3 .. => true
 | _=>false
noncomputable def opX (blt:Str→Bool) (cm:Bool) (fl:Str→Str→Bool) (ic:Str→Bool) (xc:Str→Str→Bool) (glo:Str→Bool) (sb:Str→Str→Option Bool) (o:Op) (x:Expr):Option (List Expr):=match o with
 | .lrg1=>none
 | .lrg2=>none
 | .back2=>none
 | .dix=>(match x with
  | .Subscript y z _=>if jI z=true then some [y,z] else none
  | _=>none)
 | .sortKeys=>none
 | .minD=>none
 | .minA=>none
 | .lidx=>none
 | .srtSet=>(match x with
  | .Call (.Name u _) [.Call (.Name v _) [y] [] _] [] _=>if u=("sorted" : Str)∧v=("set" : Str)∧cm=true∧blt u=true∧blt v=true then some [y] else none
  | _=>none)
 | .dictL=>(match x with
  | .Call (.Name u _) [y] [] _=>if u=("dict" : Str)∧cm=true∧blt u=true then some [y] else none
  | _=>none)
 | .dgetI=>none
 | .exch .. => none
 | .attr .. => none
 | .insC .. => none
 | .ch3 .. => none
 | .exMk .. => none
 | .exMkK .. => none
 | .exAt .. => none
 | .exIs .. => none
noncomputable def opR (o:Op) (rs:List (Rs D)):Rs D:=match o with
 | .lrg1=>(match rs with
  | [a]=>(mX (a.bind hJ)).bind λds => .ok (.list ds)
  | _ => .bad)
 | .lrg2=>(match rs with
  | [a,b]=>(mX (a.bind λx=>b.bind λy=>lE x y)).bind λds => .ok (.list ds)
  | _ => .bad)
 | .back2=>(match rs with
  | [a]=>(a.bind yS).bind λds => .ok (.list ds)
  | _ => .bad)
 | .dix=>(match rs with
  | [a,b]=>ig a b
  | _ => .bad)
 | .sortKeys=>(match rs with
  | [a]=>(a.bind xY).bind λds => .ok (.list ds)
  | _ => .bad)
 | .minD=>(match rs with
  | [a,b]=>xf a b
  | _ => .bad)
 | .minA=>(match rs with
  | [a]=>a.bind xh
  | _ => .bad)
 | .lidx=>(match rs with
  | [a,b]=>BA a b
  | _ => .bad)
 | .srtSet=>(match rs with
  | [a]=>(a.bind gv).bind λds => .ok (.list ds)
  | _ => .bad)
 | .dictL=>(match rs with
  | [a]=>a.bind jo
  | _ => .bad)
 | .dgetI=>(match rs with
  | [a,b]=>Ko a b
  | _ => .bad)
 | .exch a b c d e f g h=>(match rs with
  | [x,y]=>x.bind λx=>y.bind λy=>Ow a b c d e f g h x y
  | _ => .bad)
 | .attr cls f=>(match rs with
  | [a]=>a.bind (ER cls f)
  | _ => .bad)
 | .insC y=>(match rs with
  | [a]=>a.bind (Kc y)
  | _ => .bad)
 | .ch3 o1 o2 o3=>(match rs with
  | [a,b,c,d]=>toB (IM o1 o2 o3 a b c d)
  | _ => .bad)
 | .exMk x f=>(match rs with
  | [a]=>a.bind λd => .ok (exD x f d)
  | _ => .bad)
 | .exMkK x f=>(match rs with
  | [a]=>a.bind λd => .ok (exD x f d)
  | _ => .bad)
 | .exAt f=>(match rs with
  | [a]=>a.bind (Dx f)
  | _ => .bad)
 | .exIs y ys ns=>(match rs with
  | [a]=>a.bind (HH ys ns)
  | _ => .bad)
inductive CEs (X:Cx) (xp:XP) (W:WX):List Expr→List (Sto→Rs D)→Prop
 | nil:CEs X xp W [] []
 | cons {y:Expr} {f:Sto→Rs D} {ys:List Expr} {fs:List (Sto→Rs D)}:(∀ zs,starEach (y::zs) X.env=(false,eval y X.env)::starEach zs X.env)→CE X xp W y f→CEs X xp W ys fs→CEs X xp W (y::ys) (f::fs)
theorem G_ {X:Cx} {xp:XP} {W:WX} {blt:Str→Bool} {cm:Bool} {fl:Str→Str→Bool} {ic:Str→Bool} {xc:Str→Str→Bool} {glo:Str→Bool} {sb:Str→Str→Option Bool} {o:Op} {x:Expr} {ys:List Expr} {fs:List (Sto→Rs D)} (hb : ∀ n,blt n=true→Gl X n∧X.mg n=none) (hc:cm=true→X.calm=true) (hu:X.A.units+70<cLine) (hfl : ∀ cls f,fl cls f=true → ∀ C,cS X.K C cls→NoAttr X.K C f) (hic : ∀ y,ic y=true→Gl X y∧(y==("__debug__" : Str))=false ∧ ∃ C,X.mg y=some (.ref C)∧cS X.K C y∧PySem.W.isClsIn X.K C=true∧PySem.W.typeIn X.K (.ref C)=some (.type "type")) (hxc : ∀ x f,xc x f=true→(∃ C,X.mg x=some (.ref C)∧XcK X.K C x f)∧(cm=true→gn X.prog X.w X.K X.mg X.base x f)) (hrm:cm=true → ∃ k,2≤k∧Room k X.A) (hgl : ∀ n,glo n=true→Gl X n∧(n==("__debug__" : Str))=false) (hsb : ∀ x y b,sb x y=some b→nP X.K X.mg x y b) (h:opX blt cm fl ic xc glo sb o x=some ys) (hs:CEs X xp W ys fs) :
  CE X xp W x (λρ=>opR o (fs.map λf=>f ρ)):=by
 cases o with
 | lrg1 =>
  unfold opX at h
  cases h
 | lrg2 =>
  unfold opX at h
  cases h
 | back2 =>
  unfold opX at h
  cases h
 | dix =>
  unfold opX at h
  simp only at h
  split at h
  ·split at h
   ·rename_i q
    cases h
    cases hs with
    | cons s1 c1 r1 =>
     cases r1 with
     | cons s2 c2 r2 =>
      cases r2
      exact Mr (by omega) c1 c2 q
   ·cases h
  ·cases h
 | sortKeys =>
  unfold opX at h
  cases h
 | minD =>
  unfold opX at h
  cases h
 | minA =>
  unfold opX at h
  cases h
 | lidx =>
  unfold opX at h
  cases h
 | srtSet =>
  unfold opX at h
  simp only at h
  split at h
  ·split at h
   ·rename_i q
    obtain ⟨rfl,rfl,q1,q2,q3⟩:=q
    cases h
    cases hs with
    | cons s1 c1 r1 =>
     cases r1
     exact CF.ce (MC (hc q1) (by omega) (hb _ q3).1 (hb _ q3).2 (hb _ q2).1 (hb _ q2).2 c1 (s1 []))
   ·cases h
  ·cases h
 | dictL =>
  unfold opX at h
  simp only at h
  split at h
  ·split at h
   ·rename_i q
    obtain ⟨rfl,q1,q2⟩:=q
    cases h
    cases hs with
    | cons s1 c1 r1 =>
     cases r1
     exact Nw (hc q1) (hb _ q2).1 (hb _ q2).2 c1 (s1 [])
   ·cases h
  ·cases h
 | dgetI =>
  unfold opX at h
  cases h
 | exch a b c d e f g i =>
  unfold opX at h
  cases h
 | attr cls f =>
  unfold opX at h
  cases h
 | insC y =>
  unfold opX at h
  cases h
 | ch3 o1 o2 o3 =>
  unfold opX at h
  cases h
 | exMk n f =>
  unfold opX at h
  cases h
 | exMkK n f =>
  unfold opX at h
  cases h
 | exAt f =>
  unfold opX at h
  cases h
 | exIs c es ns =>
  unfold opX at h
  cases h
theorem IV {X:Cx} {xp:XP} {W:WX} {blt:Str→Bool} {cm:Bool} {fl:Str→Str→Bool} {ic:Str→Bool} {xc:Str→Str→Bool} {glo:Str→Bool} {sb:Str→Str→Option Bool} {o:Op} {x:Expr} {ys:List Expr} {fs:List (Sto→Rs D)} (hi:o.A4=true) (hu:X.A.units+70<cLine) (h:opX blt cm fl ic xc glo sb o x=some ys) (hs:CEs X xp W ys fs) :
  CT X xp W x (λρ=>(opR o (fs.map λf=>f ρ)).bind asB):=by
 cases o with
 | ch3 o1 o2 o3 =>
  unfold opX at h
  cases h
 | _=>cases hi
theorem qC {blt:Str→Bool} {cm:Bool} {fl:Str→Str→Bool} {ic:Str→Bool} {xc:Str→Str→Bool} {glo:Str→Bool} {sb:Str→Str→Option Bool} {o:Op} {x:Expr} {ys:List Expr} (h:opX blt cm fl ic xc glo sb o x=some ys):(o.A4=true ∨ ∀ (env:Env) (whole:Sem Value),isTrue x env whole=(do let v ← whole; standAt x.pos; holding [v] (truthy v))) ∧ ∀ op vs p,x ≠ .BoolOp op vs p:=by
 cases o <;> first
 | (unfold opX at h; cases h; done)
 | (unfold opX at h; simp only at h; split at h; (first | exact ⟨.inr λ_ _=>rfl,λ_ _ _ z=>by cases z⟩ | exact ⟨.inl rfl,λ_ _ _ z=>by cases z⟩); cases h)
end Pf

set_option maxRecDepth 100000
namespace Pf
open PySem PySem.Spec PyProof.Rows L2
noncomputable def xt {α:Type} (pi:List Nat) (d:α) (l:List α):List α:=pi.map λi=>l.getD i d
noncomputable def KwB (K:PySem.W.Frag) (fd:FuncData) (ps ks:List Str) (pi:List Nat):Prop:=∀ (s:Shared) (ws:List Value),K.In s.heap→ws.length=ks.length→BindsTo s fd ⟨[],ks.zip ws⟩ (ps.zip (xt pi .none ws))
noncomputable def FD (X:Cx) (x:Str) (ks:List Str) (pi:List Nat) (n:Nat) (m:List D→Rs D):Prop:=
 ∃ (k:Nat) (f:Addr) (fd:FuncData) (ps:List Str),FnG X.prog X.w X.K X.mg X.base k f fd ps (spF X.K X.mg n m)∧Rm k X.A∧X.mg x=some (.ref f)∧PySem.W.keepIn X.K (.ref f)=true∧KwB X.K fd ps ks pi
noncomputable def kwF (m:List D→Rs D) (q:Nat) (pi:List Nat) (n:Nat) (ds:List D):Rs D:=if ds.length=q∧pi.length=n∧(pi.all λi=>decide (i<q))=true then m (xt pi .none ds) else .bad
noncomputable def zW:List (Rs D)→Rs (List D)
 | [] => .ok []
 | r::rs=>r.bind λx=>(zW rs).bind λxs => .ok (x::xs)
section
variable {X:Cx} {xp:XP} {W:WX}
end
end Pf

set_option maxRecDepth 100000
namespace Pf
open PySem PySem.Spec PyProof.Rows L2
theorem Mp {K:PySem.W.Frag} {a b:Addr} {vs ws:List V} {ds es:List D} (hl:ds.length=es.length):dq K (L2.Itz K a b) (eN ds es) (λF=>(RL K F a vs∧aj K F vs ds)∧RL K F b ws∧aj K F ws es) where
 mono:=λF F' h s=>⟨⟨Sm.rl s h.1.1,bj s.sm h.1.2⟩,Sm.rl s.sm h.2.1,bj s.sm h.2.2⟩
 goes:=λi H O hi h=>by
  rw [o6 hl] at hi
  have l1:=aK h.1.2
  have l2:=aK h.2.2
  exact ⟨vs,ws,vs[i]'(by omega),ws[i]'(by omega),(aQ h.1.1).sq,(aQ h.2.1).sq,List.getElem?_eq_getElem (by omega),List.getElem?_eq_getElem (by omega)⟩
 stops:=λH O h=>by
  have l1:=aK h.1.2
  have l2:=aK h.2.2
  rw [o6 hl]
  exact ⟨vs,ws,(aQ h.1.1).sq,(aQ h.2.1).sq,.inl (by omega)⟩
 yields:=λi H O x H' hi h t y=>by
  obtain ⟨T,x1,x2,rfl,h2,rfl,h4,h5⟩:=y
  obtain ⟨d1,g1,g2⟩:=dN h.1.2 (h4 vs (aQ h.1.1).sq)
  obtain ⟨d2,k1,k2⟩:=dN h.2.2 (h5 ws (aQ h.2.1).sq)
  exact ⟨a0 h2,_,tP g1 k1,eZ t h2 (by show 2≤LIM; decide) (.cons g2 (.cons k2 .nil))⟩
noncomputable def rP:D→D→Rs (List D)
 | .list xs,.list ys=>if xs.length≤ys.length then .ok (eN xs ys) else .bad
 | _,_ => .bad
theorem xH {xs ys:List D} (h:xs.length≤ys.length):(eN xs ys).length=xs.length:=by
 unfold eN
 rw [aq,List.length_zip]
 omega
theorem LB {K:PySem.W.Frag} {a b:Addr} {vs ws:List V} {ds es:List D} (hl:ds.length≤es.length):dq K (L2.Itz K a b) (eN ds es) (λF=>(RL K F a vs∧aj K F vs ds)∧RL K F b ws∧aj K F ws es) where
 mono:=λF F' h s=>⟨⟨Sm.rl s h.1.1,bj s.sm h.1.2⟩,Sm.rl s.sm h.2.1,bj s.sm h.2.2⟩
 goes:=λi H O hi h=>by
  rw [xH hl] at hi
  have l1:=aK h.1.2
  have l2:=aK h.2.2
  exact ⟨vs,ws,vs[i]'(by omega),ws[i]'(by omega),(aQ h.1.1).sq,(aQ h.2.1).sq,List.getElem?_eq_getElem (by omega),List.getElem?_eq_getElem (by omega)⟩
 stops:=λH O h=>by
  have l1:=aK h.1.2
  have l2:=aK h.2.2
  rw [xH hl]
  exact ⟨vs,ws,(aQ h.1.1).sq,(aQ h.2.1).sq,.inl (by omega)⟩
 yields:=λi H O x H' hi h t y=>by
  obtain ⟨T,x1,x2,rfl,h2,rfl,h4,h5⟩:=y
  obtain ⟨d1,g1,g2⟩:=dN h.1.2 (h4 vs (aQ h.1.1).sq)
  obtain ⟨d2,k1,k2⟩:=dN h.2.2 (h5 ws (aQ h.2.1).sq)
  exact ⟨a0 h2,_,tP g1 k1,eZ t h2 (by show 2≤LIM; decide) (.cons g2 (.cons k2 .nil))⟩
section
variable {X:Cx} {xp:XP} {W:WX} {a b:Expr} {fa fb:Sto→Rs D} {p pos:Pos}
theorem HG {elts:List Expr} {kk:Nat} {tpos:Pos} (hg:Gl X "zip") (hm:X.mg "zip" = none) (ha:CE X xp W a fa) (hb:CE X xp W b fb) (hs1:starEach [b] X.env=(false,eval b X.env)::starEach [] X.env) (hs:starEach [a,b] X.env=(false,eval a X.env)::starEach [b] X.env) :
  CI X xp W (.Tuple elts kk tpos) (.Call (.Name "zip" p) [a,b] [] pos) (λρ=>(fa ρ).bind λx=>(fb ρ).bind λy=>lS x y):=
 gJ (RZ.pi_zipA hg hm (bG ha (bG hb cu hs1) hs) hs (by rw [hs1]; rfl)) λσ H R ⟨ρ,O,rl,q⟩=>⟨ρ,O,rl,(End.bind q).imp λd H1 _ s k v hv=>⟨ρ,O,rl.mono s,(End.bind k).imp λd2 H2 _ s2 k2 v2 hv2=>by
  match d,hv,d2,hv2,k2 with
  | .list xs,.lst h1 h2 h3,.list ys,.lst g1 g2 g3,k2 =>
   obtain ⟨hl,k2⟩:=cO k2
   exact ⟨_,_,_,_,rfl,.inl ⟨(aQ (Sm.rl (aH s2.sm) h1)).sq,(aQ g1).sq,k2 H2 (aM _) _ _ ⟨⟨Sm.rl (aH s2.sm) h1,bj (aH s2.sm) h3⟩,g1,g3⟩ (Mp hl)⟩⟩⟩⟩
theorem JD {elts:List Expr} {kk:Nat} {tpos:Pos} (hg:Gl X "zip") (hm:X.mg "zip" = none) (ha:CE X xp W a fa) (hb:CE X xp W b fb) (hs1:starEach [b] X.env=(false,eval b X.env)::starEach [] X.env) (hs:starEach [a,b] X.env=(false,eval a X.env)::starEach [b] X.env) :
  CI X xp W (.Tuple elts kk tpos) (.Call (.Name "zip" p) [a,b] [] pos) (λρ=>(fa ρ).bind λx=>(fb ρ).bind λy=>rP x y):=
 gJ (RZ.pi_zipA hg hm (bG ha (bG hb cu hs1) hs) hs (by rw [hs1]; rfl)) λσ H R ⟨ρ,O,rl,q⟩=>⟨ρ,O,rl,(End.bind q).imp λd H1 _ s k v hv=>⟨ρ,O,rl.mono s,(End.bind k).imp λd2 H2 _ s2 k2 v2 hv2=>by
  match d,hv,d2,hv2,k2 with
  | .list xs,.lst h1 h2 h3,.list ys,.lst g1 g2 g3,k2 =>
   obtain ⟨hl,k2⟩:=cO k2
   exact ⟨_,_,_,_,rfl,.inl ⟨(aQ (Sm.rl (aH s2.sm) h1)).sq,(aQ g1).sq,k2 H2 (aM _) _ _ ⟨⟨Sm.rl (aH s2.sm) h1,bj (aH s2.sm) h3⟩,g1,g3⟩ (LB hl)⟩⟩⟩⟩
end
end Pf

set_option maxRecDepth 100000
namespace Pf
open PySem PySem.Spec PyProof.Rows L2
section
variable {X:Cx} {k:Nat} {f C:Addr} {fd:FuncData} {ps:List Str} {sp:Sp} {E:L2.St→XK} {x m:Str} {p pos apos:Pos} {o e:Expr} {es:List Expr} {ta tb:TE} {t:TA}
theorem bR.in1 {A:Around} (h:bR A):bR A.in1:=h
theorem Rm.in1 {k:Nat} {A:Around} (r:Rm k A):Room k A.in1:=⟨r.room.hd,r.room.dp,by have:=r.un; show A.units+1+16*k+200<_; omega⟩
theorem MK {A:Around} {pins:List (Addr × Obj)} {σ:L2.St} {H:Hp} {s:Shared} {Q:VK} {us:List Value} {vs:List V} (F:FnG X.prog X.w X.K X.mg X.base k f fd ps sp) (hr:Room k A) (nore:bR A) (e0:Env0 X.prog X.w X.K X.mg X.base A X.stack s H) (hb:Binds X.K fd ps [])
  (hx:PassesAt (L2.CX X.prog X.w) X σ (E σ)) (I:Inv X pins σ H s) (r:Vals vs us) (h:sp vs H Q (E σ)):wpAny (model X.prog X.w) A (call (.ref f) us) (EP X pins σ Q) X.xe s:=by
 have hl:us.length=ps.length:=by rw [← r.length]; exact F.len _ _ _ _ h
 have b:=hb s us I.kIn (by rw [fQ]; exact hl)
 rw [fQ] at b
 refine eQ (dV (F.run A X.stack s H ⟨us,[]⟩ us vs Q (E σ) hr nore e0 b r h) λr s' hq => ?_)
 cases r with
 | error e=>exact hx pins H s e s' I hq
 | ok fl =>
  cases fl with
  | ret u=>exact I.after hq
  | next=>exact False.elim hq
  | brk=>exact False.elim hq
  | cont=>exact False.elim hq
theorem Gj {pins:List (Addr × Obj)} {σ:L2.St} {H:Hp} {s:Shared} {Q:VK} {a dx:Addr} {fs:List (Str × V)} (hm:Meth X.K C "__len__" f) (F:FnG X.prog X.w X.K X.mg X.base k f fd ps sp) (room:Rm k X.A) (nore:bR X.A) (hb:Binds X.K fd ps [])
  (hx:PassesAt (L2.CX X.prog X.w) X σ (E σ)) (I:Inv X pins σ H s) (ea:H a=some (.ins C dx fs)) (q:sp [.ref a] H (λv H' => ∃ i:Int,v = .int i∧0≤i∧i<2 ^ 63∧Q (.int i) H') (E σ)) :
  wpAny (model X.prog X.w) X.A (call (.builtin "len") [.ref a]) (EP X pins σ Q) X.xe s:=by
 obtain ⟨mA,J,_⟩:=ins_get I.hok ea
 obtain ⟨od,J,_⟩:=J.look
 refine Calls.call_function_entry kind_len plain_len entry_len (args_len1 _) ?_
 unfold Builtin.«len»
 refine af (m:=oneArg "len" _) (ah ?_)
 refine af (m:=callSpecial? (.ref a) (Str.ofString "__len__")) (PySem.W.special_fn I.kIn J hm.at_ (beq_iff_eq.mp hm.fn) (wpAny_mono (MK (us:=[.ref a]) (vs:=[.ref a]) F room.in1 nore.in1 I.env0.in1 hb hx I (.cons rfl .nil) q) (λr s' hr => ?_) λ_ _ y=>y))
 obtain ⟨v,H',I',rv,i,ev,h0,h1,hq⟩:=hr
 subst ev
 obtain ⟨u,rfl⟩:=rv
 refine af (bA (ah ?_))
 refine af (wpAny_letGo ?_)
 show wpAny _ _ (if i<0 then _ else _) _ _ _
 rw [if_neg (by omega)]
 show wpAny _ _ (if i≥2 ^ 63 then _ else _) _ _ _
 rw [if_neg (by omega)]
 exact af (wpAny_mkInt (ah ⟨_,rfl,.int i,H',I'.tok _,⟨_,rfl⟩,hq⟩))
noncomputable def Ed (C:Addr) (sp:Sp) (E:L2.St→XK) (ta:TE):TE:=λσ H Q=>LA C "__len__" sp E ta tNil σ H λv H' => ∃ i:Int,v = .int i∧0≤i∧i<2 ^ 63∧Q (.int i) H'
theorem S2 (he:PE X o ta) (hm:Meth X.K C "__len__" f) (F:FnG X.prog X.w X.K X.mg X.base k f fd ps sp) (room:Rm k X.A) (nore:bR X.A) (hb:Binds X.K fd ps []) (hx : ∀ σ,PassesAt (L2.CX X.prog X.w) X σ (E σ))
  (hg:Gl X "len") (hn:X.mg "len" = none) (hs:starEach [o] X.env=(false,eval o X.env)::starEach [] X.env) :
  PE X (.Call (.Name "len" p) [o] [] pos) (Ed C sp E ta):=by
 refine ⟨λpins s σ H Q I h => ?_⟩
 refine j_ (ld_blt I hg hn rfl ?_ (by decide) (by decide))
 refine PyProof.Rows.callWith_builtin1 (thn ((bG he cu hs).run pos pins s σ H (λvs H1=>match vs with | [x] => ∃ a dx fs,x = .ref a∧H1 a=some (.ins C dx fs)∧fs.lookup ("__len__" : Str)=none∧sp [x] H1 (λv H' => ∃ i:Int,v = .int i∧0≤i∧i<2 ^ 63∧Q (.int i) H') (E σ) | _=>False) I h) λus s1 ⟨vs,H1,I1,r1,q1⟩ => ?_) hs rfl
 cases r1 with
 | nil=>exact q1.elim
 | cons ru rr =>
  cases rr with
  | cons _ _=>exact q1.elim
  | nil =>
   obtain ⟨a,dx,fs,e2,ea,_,q⟩:=q1
   subst e2
   cases ru
   exact Gj hm F room nore hb (hx σ) I1 ea q
end
noncomputable def Of:D→Rs D
 | .int i=>if 0≤i∧i<2 ^ 63 then .ok (.int i) else .bad
 | _ => .bad
noncomputable def Ma:D→Rs D
 | .bool b => .ok (.bool b)
 | _ => .bad
noncomputable def D5 (cls:Str):List D→Bool
 | [y]=>decide (o9 y=some cls)
 | _=>false
section
variable {X:Cx} {xp:XP} {W:WX} {cls m:Str} {o e:Expr} {es:List Expr} {fo fe:Sto→Rs D} {fs:Sto→Rs (List D)} {p pos apos:Pos} {n:Nat} {mm:List D→Rs D}
noncomputable def Ju (cls:Str) (n:Nat) (mm:List D→Rs D) (a:Rs D) (es:Rs (List D)):Rs D:=(qc cls "__eq__" n mm a (es.bind λds=>if D5 cls ds=true then .ok ds else .bad)).bind Ma
noncomputable def He (X:Cx) (cls m:Str) (n:Nat) (mm:List D→Rs D):Prop:=
 ∃ (C:Addr) (k:Nat) (f:Addr) (fd:FuncData) (ps:List Str),cS X.K C cls∧Meth X.K C m f∧FnG X.prog X.w X.K X.mg X.base k f fd ps (mO X.K X.mg n mm)∧Rm k X.A∧Binds X.K fd ps []
end
end Pf

set_option maxRecDepth 100000
namespace Pf
open PySem PySem.Spec PyProof.Rows L2
noncomputable def jK (lo c:Int) (n:Nat):List D:=(List.range n).map λ(i:Nat) => .int (lo+(i:Nat)*c)
noncomputable def t_:D→D→D→Rs (List D)
 | .int i,.int j,.int c=>if (c≠0∧c.natAbs<1073741824∧Builtin.Range.small i j c=true∧0≤Builtin.Range.rangeSize i j c) then .ok (jK i c (Builtin.Range.rangeSize i j c).toNat) else .bad
 | _,_,_ => .bad
theorem KY {K:PySem.W.Frag} {lo c:Int} {n:Nat}:dq K (Itc lo c n) (jK lo c n) (λ_=>True) where
 mono:=λ_ _ _ _=>trivial
 goes:=λi H O hi _=>by
  show i<n
  simpa [jK] using hi
 stops:=λH O _=>by
  show n≤_
  simp [jK]
 yields:=λi H O x H' hi _ t y=>by
  obtain ⟨rfl,rfl⟩:=y
  have hi:i<n:=by simpa [jK] using hi
  exact ⟨aM _,_,by unfold jK; rw [List.getElem?_map,List.getElem?_range hi]; rfl,.int _⟩
section
variable {X:Cx} {xp:XP} {W:WX} {a b c tg:Expr} {fa fb fc:Sto→Rs D} {p pos:Pos}
theorem Lb (hg:Gl X "range") (hm:X.mg "range" = none) (ha:CE X xp W a fa) (hb:CE X xp W b fb) (hc:CE X xp W c fc) (hs2:starEach [c] X.env=(false,eval c X.env)::starEach [] X.env) (hs1:starEach [b,c] X.env=(false,eval b X.env)::starEach [c] X.env) (hs:starEach [a,b,c] X.env=(false,eval a X.env)::starEach [b,c] X.env) :
  CI X xp W tg (.Call (.Name "range" p) [a,b,c] [] pos) (λρ=>(fa ρ).bind λx=>(fb ρ).bind λy=>(fc ρ).bind λz=>t_ x y z):=
 gJ (pi_range3 hg hm (bG ha (bG hb (bG hc cu hs2) hs1) hs) hs (by rw [hs1,hs2]; rfl)) λσ H R ⟨ρ,O,rl,q⟩=>⟨ρ,O,rl,(End.bind q).imp λd H1 _ s k v hv=>⟨ρ,O,rl.mono s,(End.bind k).imp λd2 H2 _ s2 k2 v2 hv2=>⟨ρ,O,(rl.mono s).mono s2,(End.bind k2).imp λd3 H3 _ s3 k3 v3 hv3=>by
  match d,hv,d2,hv2,d3,hv3,k3 with
  | .int i,.int _,.int j,.int _,.int c,.int _,k3 =>
   obtain ⟨⟨h1,h2,h3,h4⟩,k3⟩:=cO k3
   exact ⟨i,j,c,_,rfl,⟨h1,h2,h3,(Int.toNat_of_nonneg h4).symm⟩,k3 H3 (aM _) _ (λ_=>True) trivial KY⟩⟩⟩⟩
end
end Pf

set_option maxRecDepth 100000
namespace Pf
open PySem PySem.Spec PyProof.Rows L2
section
variable {X:Cx} {xp:XP} {W:WX} {a b c:Expr} {fa:Sto→Rs D} {ta tb tc:Sto→Rs Bool} {pos:Pos}
theorem OD {ra rb rc:TT} (hc:PT X c rc) (ha:PT X a ra) (hb:PT X b rb):PT X (.IfExp c a b pos) (λσ H Q=>rc σ H λk H1=>if k=true then ra σ H1 Q else rb σ H1 Q):=by
 constructor
 intro pins s σ H Q I h
 show wpAny _ _ (do if ← isTrue c X.env (eval c X.env) then isTrue a X.env (eval a X.env) else isTrue b X.env (eval b X.env)) _ _ _
 refine af (thn (hc.run pins s σ H _ I h) ?_)
 rintro k s1 ⟨H1,I1,q1⟩
 cases k with
 | true=>exact ha.run pins s1 σ H1 Q I1 q1
 | false=>exact hb.run pins s1 σ H1 Q I1 q1
theorem NK (hc:CT X xp W c tc) (ha:CT X xp W a ta) (hb:CT X xp W b tb):CT X xp W (.IfExp c a b pos) (λρ=>(tc ρ).bind λk=>if k=true then ta ρ else tb ρ):=
 jM (OD hc ha hb) λσ H Q ⟨ρ,O,R,q⟩=>⟨ρ,O,R,(End.bind q).imp λk H' _ s z=>by
  cases k with
  | true=>exact ⟨ρ,O,R.mono s,z⟩
  | false=>exact ⟨ρ,O,R.mono s,z⟩⟩
noncomputable def l7:D→Rs D
 | .int i => .ok (.int (-i))
 | _ => .bad
theorem E6 (ha:CE X xp W a fa):CE X xp W (.UnaryOp .USub a pos) (λρ=>(fa ρ).bind l7):=
 bt (pe_un un_neg ha) λσ H Q ⟨ρ,O,R,q⟩=>⟨ρ,O,R,(End.bind q).imp λd H' _ s k v hv=>by
  match d,hv,k with
  | .int i,.int _,k=>exact ⟨i,rfl,k.ok _ (.int _)⟩⟩
noncomputable def mH:D→Rs D
 | .list xs => .ok (.list xs.reverse)
 | _ => .bad
theorem O_ {k:Nat} {p1 p2 p3:Pos} (ha:CE X xp W a fa):CE X xp W (.Subscript a (.Slice none none (some (.UnaryOp .USub (.Constant (.int 1) k p1) p2)) p3) pos) (λρ=>(fa ρ).bind mH):=
 bt (pe_revL ha) λσ H Q ⟨ρ,O,R,q⟩=>⟨ρ,O,R,(End.bind q).imp λd H' _ s k v hv=>by
  match d,hv,k with
  | .list xs,.lst (xs:=vs) h1 h2 h3,k=>exact ⟨_,vs,rfl,(aQ h1).sq,λp hp=>k _ (a0 hp) _ (fU (R.mono s).thr hp (by rw [List.length_reverse]; exact h2) (Ap h3))⟩⟩
end
section
variable {X:Cx} {xp:XP} {W:WX} {e:Expr} {es:List Expr} {fa:Sto→Rs D} {fs:Sto→Rs (List D)} {pos:Pos}
noncomputable def Nk (K:PySem.W.Frag) (mg:Str→Option Value) (xp:XP) (W:WX) (f:Sto→Rs (List D)):TA:=λσ H Q => ∃ ρ O,Rel K xp σ H ρ O∧End K mg W O σ H (λds H' => ∀ vs,aj K H' vs ds→Q vs H') (f ρ)
noncomputable abbrev CAL (X:Cx) (xp:XP) (W:WX) (es:List Expr) (f:Sto→Rs (List D)):Prop:=L2.PA X es (Nk X.K X.mg xp W f)
theorem Mq:CAL X xp W [] (λ_ => .ok []):=nE cu λσ H Q ⟨ρ,O,R,q⟩=>q.ok [] .nil
theorem Mh (h:CL X xp W e fa) (h2:CAL X xp W es fs) (hs:starEach (e::es) X.env=(false,eval e X.env)::starEach es X.env):CAL X xp W (e::es) (λρ=>(fa ρ).bind λx=>(fs ρ).bind λxs => .ok (x::xs)):=
 nE (bG h h2 hs) λσ H Q ⟨ρ,O,R,q⟩=>⟨ρ,O,R,q.bind.imp λd H' _ s k v hv=>⟨ρ,O,R.mono s,k.bind.imp λds H2 _ s2 k2 vs hvs=>k2.ok _ (.cons (bf s2.sm hv) hvs)⟩⟩
noncomputable def cI (xs:List D) (k:List D→D):Rs D:=if xs.length≤LIM then .ok (k xs) else .bad
theorem OW {k:Nat} (h:CAL X xp W es fs):CL X xp W (.Tuple es k pos) (λρ=>(fs ρ).bind λxs=>cI xs .tuple):=
 bt (pe_tup h) λσ H Q ⟨ρ,O,R,q⟩=>⟨ρ,O,R,q.bind.imp λds H' _ s k vs hv=>by
  have k:End X.K X.mg W O σ H' (λd H' => ∀ v,Dn X.K H' v d→Q v H') (if ds.length≤LIM then Rs.ok (PyData.tuple ds) else .bad):=k
  by_cases hl:ds.length≤LIM
  ·rw [if_pos hl] at k
   have hl':vs.length≤LIM:=by rw [aK hv]; exact hl
   exact ⟨aF hl' b9,λp hp=>k _ (a0 hp) _ (.tup (.inl (.inl aS)) hl' (bj (a0 hp).sm hv))⟩
  ·rw [if_neg hl] at k; exact k.elim⟩
end
mutual
inductive E where
 | var (i:Nat)
 | int (i:Int)
 | str (x:Str)
 | bl (b:Bool)
 | non
 | gl (k:Nat)
 | bin (o:Bi) (a b:E)
 | neg (a:E)
 | cmp (o:Cm) (a b:L)
 | ch (o1 o2:Cm) (a b c:L)
 | not (a:E)
 | and (a b:E)
 | or (a b:E)
 | ife (c a b:E)
 | tup (es:Es)
 | lst (es:Es)
 | ix (a b:E)
 | oix (i:Nat) (b:E)
 | sl (a:E) (lo hi:Eo)
 | rev (a:E)
 | bi (f:BI) (es:Es)
 | ti (f:TyI) (es:Es)
 | len (a:L)
 | mt (m:MI) (a:E) (es:Es)
 | call (k:Nat) (es:Es)
 | isa (a:L) (T:TyN)
 | isa2 (a:L) (T U:TyN)
 | lc (t:Tg) (vs:List Nat) (it:I) (cond:Eo) (elt:E)
 | lenks (t:Tg) (vs:List Nat) (it:I) (cond:Eo) (elt:E)
 | xat (i:Nat) (f:Str)
 | xis (i:Nat) (y:Str)
 | xisT (i:Nat) (y y2:Str)
 | dic0
 | lenset (a:L)
 | mz (m:MZ) (a:E)
 | eE (a:E) (c:Str) (es:Es)
 | fs (es:Es)
 | lzip (a b:E)
 | any
 | xnon (b:Bool) (i:Nat)
 | isC (a:L) (x y:Str)
 | lZ (rows:List (Str × Str))
 | dget (a k d:E)
 | oget (i:Nat) (k d:E)
 | op (o:Op) (es:Es)
 | q (q:Q)
 | nd (o:Nd) (i:Nat) (e:E)
 | meth (k:Nat) (a:E) (es:Es)
 | make (k:Nat) (es:Es)
 | callK (k:Nat) (es:Es)
inductive Q where
 | srt1 (t:Tg) (vs:List Nat) (it:I) (cond:Eo) (elt:E)
 | srt2 (t:Tg) (vs:List Nat) (it:I) (cond:Eo) (t2:Tg) (us:List Nat) (it2:I) (cond2:Eo) (elt:E)
 | srtK (k:Nat) (e:E)
 | srtN (k:Nat) (i:Nat)
 | lc2 (t:Tg) (vs:List Nat) (it:I) (cond:Eo) (t2:Tg) (us:List Nat) (it2:I) (cond2:Eo) (elt:E)
inductive L where
 | ov (i:Nat)
 | ex (e:E)
 | tup (ls:Ls)
inductive Ls where
 | nil
 | cons (l:L) (ls:Ls)
inductive Es where
 | nil
 | cons (e:E) (es:Es)
 | rep (a:E) (y z:Str) (es:Es)
inductive Eo where
 | none
 | some (e:E)
inductive I where
 | val (e:E)
 | r1 (a:E)
 | r2 (a b:E)
 | r3 (a b c:E)
 | enum (a:E)
 | zipS (a b:E)
 | zipL (a b:E)
end
structure Gs where
 gl:List (Nat × Str × D)
 fs:List (Nat × Str × Nat × (List D→Rs D))
 bs:List Str
 sb:Str→Str→Option Bool
 at_:Str→Option Str
 hs:List Str
 cs:List Str
 ms:List (Nat × Str × Str × Nat × (List D→Rs D)):=[]
 fl:List (Str × Str):=[]
 ic:List Str:=[]
 kw:List (Nat × Str × List Str × List Nat × Nat × (List D→Rs D)):=[]
noncomputable def aX (Γ:Gs) (k:Nat) (ds:List D):Rs D:=match Γ.fs.find? (λp=>p.1==k) with
 | some (_,_,n,m)=>if ds.length=n then m ds else .bad
 | none => .bad
noncomputable def Fs (cls m:Str) (n:Nat) (mm:List D→Rs D) (a:Rs D) (es:Rs (List D)):Rs D:=if m=("__len__" : Str) then (qc cls "__len__" n mm a es).bind Of else if m=("__eq__" : Str) then Ju cls n mm a es else .bad
noncomputable def LR (Γ:Gs) (k:Nat) (a:Rs D) (es:Rs (List D)):Rs D:=match Γ.ms.find? (λp=>p.1==k) with
 | some (_,cls,m,n,mm)=>if Nat.ble 700000000 k=true then Fs cls m n mm a es else qc cls m n mm a es
 | none => .bad
noncomputable def IK (Γ:Gs) (k:Nat) (ds:List D):Rs D:=match Γ.ms.find? (λp=>p.1==k) with
 | some (_,cls,_,n,mm)=>Oo cls n mm ds
 | none => .bad
noncomputable def kwG (Γ:Gs) (k:Nat) (ds:List D):Rs D:=match Γ.kw.find? (λp=>p.1==k) with
 | some (_,_,ks,pi,n,m)=>kwF m ks.length pi n ds
 | none => .bad
noncomputable def glG (Γ:Gs) (k:Nat):Rs D:=match Γ.gl.find? (λp=>p.1==k) with
 | some (_,_,d) => .ok d
 | none => .bad
mutual
noncomputable def sem (Γ:Gs):E→Sto→Rs D
 | .var i,ρ=>a9 ρ i
 | .int i,_ => .ok (.int i)
 | .str x,_ => .ok (.str x)
 | .bl b,_ => .ok (.bool b)
 | .non,_ => .ok .none
 | .gl k,_=>glG Γ k
 | .bin o a b,ρ=>(sem Γ a ρ).bind λx=>(sem Γ b ρ).bind λy=>pur (bE o x y)
 | .neg a,ρ=>(sem Γ a ρ).bind l7
 | .cmp o a b,ρ=>(bz Γ a ρ).bind λx=>(bz Γ b ρ).bind λy=>pur (i3 o x y)
 | .ch o1 o2 a b c,ρ=>toB (fH o1 o2 (bz Γ a) (bz Γ b) (bz Γ c) ρ)
 | .not a,ρ=>((sem Γ a ρ).bind asB).bind λb => .ok (.bool (!b))
 | .and a b,ρ=>((sem Γ a ρ).bind asB).bind λk=>if k=true then sem Γ b ρ else .ok (.bool false)
 | .or a b,ρ=>((sem Γ a ρ).bind asB).bind λk=>if k=true then .ok (.bool true) else sem Γ b ρ
 | .ife c a b,ρ=>((sem Γ c ρ).bind asB).bind λk=>if k=true then sem Γ a ρ else sem Γ b ρ
 | .tup es,ρ=>(bq Γ es ρ).bind λxs=>cI xs .tuple
 | .lst es,ρ=>(bq Γ es ρ).bind λxs=>cI xs .list
 | .ix a b,ρ=>(sem Γ a ρ).bind λx=>(sem Γ b ρ).bind λy=>pur (ixD x y)
 | .oix i b,ρ=>(eD ρ i).bind λx=>(sem Γ b ρ).bind λy=>pur (ixD x y)
 | .sl a lo hi,ρ=>(sem Γ a ρ).bind λx=>(iB Γ lo ρ).bind λl=>(iB Γ hi ρ).bind λu=>pur (slD x l u)
 | .rev a,ρ=>(sem Γ a ρ).bind mH
 | .bi f es,ρ=>(bq Γ es ρ).bind λds=>pur (biD f ds)
 | .ti f es,ρ=>(bq Γ es ρ).bind λds=>pur (tiD f ds)
 | .len a,ρ=>(bz Γ a ρ).bind λd=>pur (gO d)
 | .mt m a es,ρ=>(sem Γ a ρ).bind λx=>(cR x).bind λz=>(bq Γ es ρ).bind λds=>pur (miD m (.str z) ds)
 | .call k es,ρ=>(bq Γ es ρ).bind λds=>aX Γ k ds
 | .isa a T,ρ=>(bz Γ a ρ).bind λd => .ok (.bool (eh T (kd d)))
 | .isa2 a T U,ρ=>(bz Γ a ρ).bind λd => .ok (.bool (eh T (kd d)||eh U (kd d)))
 | .lc t vs it cond elt,ρ=>(lcF t vs (semi Γ it) (aZ Γ cond) (sem Γ elt) ρ).bind λds => .ok (.list ds)
 | .lenks t vs it cond elt,ρ=>(ksF t vs (semi Γ it) (aZ Γ cond) (sem Γ elt) ρ).bind λks => .ok (.int ks.length)
 | .xat i f,ρ=>(eU ρ i).bind λe=>if Γ.at_ e.cls=some f∧e.attr=f then .ok e.val else .bad
 | .xis i y,ρ=>(eU ρ i).bind λe=>opt (Γ.sb e.cls y) PyData.bool
 | .xisT i y y2,ρ=>(eU ρ i).bind λe=>DQ (Γ.sb e.cls y) (Γ.sb e.cls y2)
 | .dic0,_ => .ok (.dict [])
 | .lenset a,ρ=>((bz Γ a ρ).bind qy).bind λks => .ok (.int ks.length)
 | .mz m a,ρ=>(sem Γ a ρ).bind λx=>(cR x).bind (mzD m)
 | .eE a c es,ρ=>(((sem Γ a ρ).bind λx=>pur (bE .add x (.str c))).bind λx=>(bq Γ es ρ).bind λxs => .ok (x::xs)).bind λxs=>cI xs .list
 | .fs es,ρ=>uk Γ es Str.empty ρ
 | .lzip a b,ρ=>(sem Γ a ρ).bind λx=>(sem Γ b ρ).bind λy=>A9 x y
 | .any,_ => .bad
 | .xnon b i,ρ=>(eU ρ i).bind λ_ => .ok (.bool b)
 | .isC a x y,ρ=>if (Γ.sb x y).isSome=true then (bz Γ a ρ).bind fL else .bad
 | .lZ rows,_ => .ok (Pf.lZ rows)
 | .dget a k d,ρ=>JI (sem Γ a ρ) (sem Γ k ρ) (sem Γ d ρ)
 | .oget i k d,ρ=>Jj ρ i (sem Γ k ρ) (sem Γ d ρ)
 | .op o es,ρ=>opR o (kQ Γ es ρ)
 | .q q,ρ=>(t8 Γ q ρ).bind λds => .ok (.list ds)
 | .nd o i e,ρ=>ndR o (sem Γ e ρ) (tF ρ i)
 | .meth k a es,ρ=>LR Γ k (sem Γ a ρ) (bq Γ es ρ)
 | .make k es,ρ=>(bq Γ es ρ).bind (IK Γ k)
 | .callK k es,ρ=>(zW (kQ Γ es ρ)).bind (kwG Γ k)
noncomputable def t8 (Γ:Gs):Q→Sto→Rs (List D)
 | .srt1 t vs it cond elt,ρ=>(siF t vs (semi Γ it) (aZ Γ cond) (sem Γ elt) ρ).bind λacc => .ok (fK acc)
 | .srt2 t vs it cond t2 us it2 cond2 elt,ρ=>(xE t vs (semi Γ it) (aZ Γ cond) (semi Γ it2) us t2 (aZ Γ cond2) (sem Γ elt) ρ).bind λacc => .ok (fK acc)
 | .srtK k e,ρ=>(sem Γ e ρ).bind (Am (aX Γ k))
 | .srtN k i,ρ=>(tF ρ i).bind λkvs=>if kvs.length≤LIM then tH (aX Γ k) (kvs.map (·.1)) else .bad
 | .lc2 t vs it cond t2 us it2 cond2 elt,ρ=>iD t vs (semi Γ it) (aZ Γ cond) (semi Γ it2) us t2 (aZ Γ cond2) (sem Γ elt) ρ
noncomputable def bz (Γ:Gs):L→Sto→Rs D
 | .ov i,ρ=>eD ρ i
 | .ex e,ρ=>sem Γ e ρ
 | .tup ls,ρ=>(iP Γ ls ρ).bind λxs=>cI xs .tuple
noncomputable def iP (Γ:Gs):Ls→Sto→Rs (List D)
 | .nil,_ => .ok []
 | .cons l ls,ρ=>(bz Γ l ρ).bind λx=>(iP Γ ls ρ).bind λxs => .ok (x::xs)
noncomputable def bq (Γ:Gs):Es→Sto→Rs (List D)
 | .nil,_ => .ok []
 | .cons e es,ρ=>(sem Γ e ρ).bind λx=>(bq Γ es ρ).bind λxs => .ok (x::xs)
 | .rep a y z es,ρ=>((sem Γ a ρ).bind λx=>Mw x y z).bind λx=>(bq Γ es ρ).bind λxs => .ok (x::xs)
noncomputable def kQ (Γ:Gs):Es→Sto→List (Rs D)
 | .nil,_=>[]
 | .cons e es,ρ=>sem Γ e ρ::kQ Γ es ρ
 | .rep _ _ _ _,_=>[]
noncomputable def uk (Γ:Gs):Es→Str→Sto→Rs D
 | .nil,acc,_ => .ok (.str acc)
 | .cons e es,acc,ρ=>fsK (sem Γ e ρ) (λy=>uk Γ es y ρ) acc
 | .rep _ _ _ _,_,_ => .bad
noncomputable def iB (Γ:Gs):Eo→Sto→Rs (Option Int)
 | .none,_ => .ok none
 | .some e,ρ=>(sem Γ e ρ).bind asI
noncomputable def aZ (Γ:Gs):Eo→Sto→Rs Bool
 | .none,_ => .ok true
 | .some e,ρ=>(sem Γ e ρ).bind asB
noncomputable def semi (Γ:Gs):I→Sto→Rs (List D)
 | .val e,ρ=>(sem Γ e ρ).bind fN
 | .r1 a,ρ=>(sem Γ a ρ).bind hJ
 | .r2 a b,ρ=>(sem Γ a ρ).bind λx=>(sem Γ b ρ).bind λy=>lE x y
 | .r3 a b c,ρ=>(sem Γ a ρ).bind λx=>(sem Γ b ρ).bind λy=>(sem Γ c ρ).bind λz=>t_ x y z
 | .enum a,ρ=>(sem Γ a ρ).bind lT
 | .zipS a b,ρ=>(sem Γ a ρ).bind λx=>(sem Γ b ρ).bind λy=>lS x y
 | .zipL a b,ρ=>(sem Γ a ρ).bind λx=>(sem Γ b ρ).bind λy=>rP x y
end
structure Ck where
 Γ:Gs
 N:List Str
 sc:Scope
 cm:Bool
 fa:Str→Bool
 px:Bool
 lp:Bool
noncomputable def Ck.nt (c:Ck):Bool:=c.px||c.lp
noncomputable def Ck.vis (c:Ck) (i:Nat) (x:Str):Bool:=
 decide (c.N[i]? = some x)&&(match c.sc.names.lookup x with | some .local=>true | some .cell=>true | some .free=>true | _=>false) && !(x==("__debug__" : Str)) && !(x==("__classdict__" : Str))
noncomputable def Ck.glo (c:Ck) (x:Str):Bool:=decide (c.sc.names.lookup x=some .globalImplicit) && !(x==("__debug__" : Str))
noncomputable def Ck.blt (c:Ck) (x:Str):Bool:=c.glo x&&decide (x∈c.Γ.bs)
noncomputable def Ck.fl (c:Ck) (cls f:Str):Bool:=decide ((cls,f)∈c.Γ.fl)
noncomputable def Ck.ic (c:Ck) (y:Str):Bool:=c.glo y&&decide (y∈c.Γ.ic)
noncomputable def Ck.xc (c:Ck) (x f:Str):Bool:=decide (c.Γ.at_ x=some f)
noncomputable def Ck.tgt (c:Ck) (i:Nat) (x:Str):Bool:=decide (c.N[i]? = some x)&&(match c.sc.names.lookup x with | some .local=>true | some .cell=>c.fa x | _=>false)
noncomputable def Ck.names (c:Ck):List Nat→List Expr→Bool
 | [],[]=>true
 | i::is,.Name x _::es=>c.tgt i x&&c.names is es
 | _,_=>false
noncomputable def Ck.tg (c:Ck):Tg→Expr→Bool
 | .nm i,.Name x _=>c.tgt i x
 | .tp is,.Tuple es _ _=>c.cm&&c.names is es
 | .ns i js,.Tuple [.Name x _,.Tuple es _ _] _ _=>c.cm&&c.tgt i x&&c.names js es
 | _,_=>false
noncomputable def noStar:Expr→Bool
 | .Starred .. => false
 | _=>true
noncomputable def dA:Expr→Bool
 | .Set .. => false
 | _=>true
noncomputable def BI.quiet:BI→Bool
 | .repr=>true
 | .abs=>true
 | _=>false
noncomputable def ownOf (N:List Str) (vs:List Nat):List (Str × Nat):=vs.map λi=>(N.getD i Str.empty,i)
noncomputable def Ck.blk (c:Ck) (scope:Scope):Ck:={ c with sc:=relS scope c.sc,fa:=λx=>decide (scope.names.lookup x=some .cell),px:=false }
noncomputable def d_ (t:Tg) (vs:List Nat):Bool:=t.slots.all λi=>decide (i∈vs)
mutual
noncomputable def Ck.e (c:Ck):E→Expr→Bool
 | .var i,w0=>(match w0 with
  | .Name x _=>c.vis i x
  | _=>false)
 | .int i,w0=>(match w0 with
  | .Constant (.int j) _ _=>decide (i=j)
  | _=>false)
 | .str x,w0=>(match w0 with
  | .Constant (.str y) _ _=>decide (x=y)&&asc x&&decide (x.length≤LIM)
  | _=>false)
 | .bl b,w0=>(match w0 with
  | .Constant (.bool d) _ _=>decide (b=d)
  | _=>false)
 | .non,w0=>(match w0 with
  | .Constant .none _ _=>true
  | _=>false)
 | .gl k,w0=>(match w0 with
  | .Name x _=>c.glo x&&(match c.Γ.gl.find? (λp=>p.1==k) with | some (_,y,_)=>decide (x=y) | none=>false)
  | _=>false)
 | .bin o a b,w0=>(match w0 with
  | .BinOp x op y _=>decide (o.op=op)&&c.e a x&&c.e b y
  | _=>false)
 | .neg a,w0=>(match w0 with
  | .UnaryOp .USub x _=>c.e a x
  | _=>false)
 | .cmp o a b,w0=>(match w0 with
  | .Compare x [op] [y] _=>decide (o.op=op) && !behindInMarks op y&&c.l a x&&c.l b y
  | _=>false)
 | .ch o1 o2 a b d,w0=>(match w0 with
  | .Compare x [p1,p2] [y,z] _=>decide (o1.op=p1)&&decide (o2.op=p2) && !lastMarks [p1,p2] [y,z]&&c.l a x&&c.l b y&&c.l d z
  | _=>false)
 | .not a,w0=>(match w0 with
  | .UnaryOp .Not x _=>c.e a x
  | _=>false)
 | .and a b,w0=>(match w0 with
  | .BoolOp .And (x::y::r) p=>c.e a x&&(match r with | []=>c.e b y | z::r=>c.e b (.BoolOp .And (y::z::r) p))
  | _=>false)
 | .or a b,w0=>(match w0 with
  | .BoolOp .Or (x::y::r) p=>c.e a x&&(match r with | []=>c.e b y | z::r=>c.e b (.BoolOp .Or (y::z::r) p))
  | _=>false)
 | .ife d a b,w0=>(match w0 with
  | .IfExp z x y _=>c.e d z&&c.e a x&&c.e b y
  | _=>false)
 | .tup es,w0=>(match w0 with
  | .Tuple xs _ _=>c.es es xs
  | _=>false)
 | .lst es,w0=>(match w0 with
  | .List xs _=>c.es es xs
  | _=>false)
 | .ix a b,w0=>(match w0 with
  | .Subscript x y _=>jI y&&c.e a x&&c.e b y
  | _=>false)
 | .oix ..,_=>false
 | .sl a lo hi,w0=>(match w0 with
  | .Subscript x (.Slice l h none _) _=>c.e a x&&c.o lo l&&c.o hi h
  | _=>false)
 | .rev a,w0=>(match w0 with
  | .Subscript x (.Slice none none (some (.UnaryOp .USub (.Constant (.int 1) _ _) _)) _) _=>c.e a x
  | _=>false)
 | .bi f es,w0=>(match w0 with
  | .Call (.Name x _) (y::ys) [] _=>decide (x=(f.id:Str))&&(c.cm||f.quiet)&&c.blt x&&c.es es (y::ys)
  | _=>false)
 | .ti f es,w0=>(match w0 with
  | .Call (.Name x _) (y::ys) [] _=>decide (x=(f.id:Str))&&c.blt x&&c.es es (y::ys)
  | _=>false)
 | .len a,w0=>(match w0 with
  | .Call (.Name x _) [y] [] _=>decide (x=("len" : Str))&&c.blt x&&noStar y&&c.l a y
  | _=>false)
 | .mt m a es,w0=>(match w0 with
  | .Call (.Attribute x n p) (y::ys) [] q=>decide (n=(m.nm:Str))&&kT x&&(p.endLine==q.line)&&decide (ys.length<20)&&c.e a x&&c.es es (y::ys)
  | _=>false)
 | .call k es,w0=>(match w0 with
  | .Call (.Name x _) ys [] _=>c.cm&&c.glo x&&(match c.Γ.fs.find? (λp=>p.1==k) with | some (_,y,_)=>decide (x=y) | none=>false)&&c.es es ys
  | _=>false)
 | .callK ..,_=>false
 | .isa a T,w0=>(match w0 with
  | .Call (.Name x _) [y,.Name z _] [] _=>decide (x=("isinstance" : Str))&&decide (z=(T.nm:Str))&&c.blt x&&c.blt z&&noStar y&&c.l a y
  | _=>false)
 | .isa2 ..,_=>false
 | .lc t vs it cond elt,w0=>(match w0 with
  | .ListComp x [⟨tg,iter,ifs,0⟩] scope _=>c.cm&&dA iter&&d_ t vs&&blkC c.N c.sc scope (ownOf c.N vs)&&c.i tg it iter&&(c.blk scope).tg t tg&&(c.blk scope).cs cond ifs&&(c.blk scope).e elt x
  | _=>false)
 | .lenks t vs it cond elt,w0=>(match w0 with
  | .Call (.Name len _) [.SetComp x [⟨tg,iter,ifs,0⟩] scope _] [] _=>decide (len=("len" : Str))&&c.blt len&&c.cm&&dA iter&&d_ t vs&&blkC c.N c.sc scope (ownOf c.N vs)&&c.i tg it iter&&(c.blk scope).tg t tg&&(c.blk scope).cs cond ifs&&(c.blk scope).e elt x
  | _=>false)
 | .xat ..,_=>false
 | .xis ..,_=>false
 | .xisT ..,_=>false
 | .dic0 ..,_=>false
 | .lenset ..,_=>false
 | .mz ..,_=>false
 | .eE ..,_=>false
 | .fs ..,_=>false
 | .any,_=>true
 | .xnon ..,_=>false
 | .isC ..,_=>false
 | .op o es,x=>(match opX c.blt c.cm c.fl c.ic c.xc c.glo c.Γ.sb o x with | some ys=>c.es es ys | none=>false)
 | .q q,x=>c.q q x
 | .nd ..,_=>false
 | .meth ..,_=>false
 | .make ..,_=>false
 | .lZ ..,_=>false
 | .dget ..,_=>false
 | .oget ..,_=>false
 | .lzip ..,_=>false
noncomputable def Ck.q (c:Ck):Q→Expr→Bool
 | .srt1 ..,_=>false
 | .srt2 ..,_=>false
 | .lc2 t vs it cond t2 us it2 cond2 elt,.ListComp x [⟨tg,iter,ifs,0⟩,⟨tg2,iter2,ifs2,0⟩] scope _ =>
  c.cm&&dA iter&&d_ t vs&&blkC c.N c.sc scope (ownOf c.N vs)&&c.i tg it iter&&(c.blk scope).tg t tg&&(c.blk scope).cs cond ifs&&(c.blk scope).e elt x &&
   dA iter2&&d_ t2 us&&(us.all λi=>decide (i∈vs))&&(c.blk scope).i tg2 it2 iter2&&(c.blk scope).tg t2 tg2&&(c.blk scope).cs cond2 ifs2
 | .srtN ..,_=>false
 | .srtK ..,_=>false
 | _,_=>false
noncomputable def Ck.l (c:Ck):L→Expr→Bool
 | .ov i,.Name x _=>c.vis i x
 | .ex e,x=>c.e e x
 | .tup ls,.Tuple xs _ _=>c.ls ls xs
 | _,_=>false
noncomputable def Ck.ls (c:Ck):Ls→List Expr→Bool
 | .nil,[]=>true
 | .cons l ls,x::xs=>noStar x&&c.l l x&&c.ls ls xs
 | _,_=>false
noncomputable def Ck.es (c:Ck):Es→List Expr→Bool
 | .nil,[]=>true
 | .cons e es,x::xs=>noStar x&&c.e e x&&c.es es xs
 | _,_=>false
noncomputable def Ck.er (c:Ck):Es→List Expr→Bool
 | .nil,[]=>true
 | .cons e es,x::xs=>noStar x&&c.e e x&&c.er es xs
 | .rep ..,_=>false
 | _,_=>false
noncomputable def Ck.fs (c:Ck):Es→List Expr→Bool
 | .nil,[]=>true
 | .cons e es,.FormattedValue x q none _::xs=>decide (q = -1)&&c.e e x&&c.fs es xs
 | .cons e es,.Constant (.str y) _ _::xs=>(match e with | .str k=>decide (k=y)&&asc k&&decide (k.length≤LIM) | _=>false)&&c.fs es xs
 | _,_=>false
noncomputable def Ck.o (c:Ck):Eo→Option Expr→Bool
 | .none,none=>true
 | .some e,some x=>c.e e x
 | _,_=>false
noncomputable def Ck.cs (c:Ck):Eo→List Expr→Bool
 | .none,[]=>true
 | .some e,[x]=>c.e e x
 | _,_=>false
noncomputable def Ck.i (c:Ck) (tg:Expr):I→Expr→Bool
 | .val e,x=>c.e e x
 | .r1 a,.Call (.Name r _) [x] [] _=>decide (r=("range" : Str))&&c.blt r&&noStar x&&c.e a x
 | .r2 a b,.Call (.Name r _) [x,y] [] _=>decide (r=("range" : Str))&&c.blt r&&noStar x&&noStar y&&c.e a x&&c.e b y
 | .r3 a b d,.Call (.Name r _) [x,y,z] [] _=>decide (r=("range" : Str))&&c.blt r&&noStar x&&noStar y&&noStar z&&c.e a x&&c.e b y&&c.e d z
 | .enum a,.Call (.Name r _) [x] [] _=>decide (r=("enumerate" : Str))&&c.blt r&&(match tg with | .Tuple .. => true | _=>false)&&noStar x&&c.e a x
 | .zipL a b,.Call (.Name v _) [x,y] [] _=>decide (v=("zip" : Str))&&c.blt v&&(match tg with | .Tuple .. => true | _=>false)&&noStar x&&noStar y&&c.e a x&&c.e b y
 | .zipS a b,.Call (.Name v _) [x,y] [] _=>decide (v=("zip" : Str))&&c.blt v&&(match tg with | .Tuple .. => true | _=>false)&&noStar x&&noStar y&&c.e a x&&c.e b y
 | .zipS a b,.Call (.Name v _) [x,y] [⟨some k,.Constant (.bool true) _ _,_⟩] _=>decide (v=("zip" : Str))&&decide (k=("strict" : Str))&&c.blt v&&(match tg with | .Tuple .. => true | _=>false)&&noStar x&&noStar y&&c.e a x&&c.e b y
 | _,_=>false
end
end Pf

set_option maxRecDepth 100000
namespace Pf
open PySem PySem.Spec PyProof.Rows L2
structure At (c:Ck) (X:Cx) (xp:XP) (W:WX):Prop where
 N:X.N=c.N
 sc:X.env.scope=c.sc
 fa : ∀ x,c.fa x=true→X.fn x=true
 cm:c.cm=true→X.calm=true
 gl : ∀ i x d,(i,x,d)∈c.Γ.gl → ∃ u v,X.mg x=some u∧L2.RelV v u∧(∀ F,Dn X.K F v d)∧kH X.K u d
 fs:c.cm=true → ∀ i x n m,(i,x,n,m)∈c.Γ.fs→tQ X x n m∧(300000≤i→DG i X x n m)
 bs : ∀ x∈c.Γ.bs,X.mg x=none
 nd:X.N.Nodup
 nore:bR X.A
 hu:X.A.units+70<cLine
 tk:Takes X W
 su:c.px=true → ∃ (a D dd:Addr) (oe:Obj) (y f:Str),(a,oe)∈X.pn∧xp=x1 X.w a dd y∧c.Γ.at_ y=some f∧Ask X.K D f∧Zc (.ref D) (some dd) oe∧(∃ vs,oe.data = .fields vs)∧X.mg y=some (.ref D)
 xw:xp.w=X.w
 sb : ∀ x y b,c.Γ.sb x y=some b→nP X.K X.mg x y b
 at_ : ∀ y f,c.Γ.at_ y=some f → ∃ C,X.mg y=some (.ref C)∧XcK X.K C y f
 ex:c.cm=true → ∀ x f,c.Γ.at_ x=some f→gn X.prog X.w X.K X.mg X.base x f
 room:c.cm=true → ∃ k,2≤k∧Room k X.A
 cs : ∀ y∈c.Γ.cs,∃ C,X.mg y=some (.ref C)
 ms:c.cm=true → ∀ k cls m n mm,(k,cls,m,n,mm)∈c.Γ.ms→(m=("__init__" : Str)→OC X cls n mm)∧(m≠("__init__" : Str)→Pt X cls m n mm∧((Nat.ble 300000 k && !Nat.ble 400000 k)=true→He X cls m n mm))
 kw:c.cm=true → ∀ k x ks pi n m,(k,x,ks,pi,n,m)∈c.Γ.kw→FD X x ks pi n m
 fl : ∀ cls f,(cls,f)∈c.Γ.fl → ∀ C,cS X.K C cls→NoAttr X.K C f
 ic : ∀ y∈c.Γ.ic,∃ C,X.mg y=some (.ref C)∧cS X.K C y∧PySem.W.isClsIn X.K C=true∧PySem.W.typeIn X.K (.ref C)=some (.type "type")
section
variable {c:Ck} {X:Cx} {xp:XP} {W:WX} {x:Str} {i:Nat}
theorem At.rA (A:At c X xp W) (h:c.vis i x=true):X.N[i]? = some x∧Vis X.env.scope x∧(x==("__debug__" : Str))=false∧(x==("__classdict__" : Str))=false:=by
 unfold Ck.vis at h
 simp only [ai,aw,Bool.not_eq_true'] at h
 obtain ⟨⟨⟨h1,h2⟩,h3⟩,h4⟩:=h
 refine ⟨by rw [A.N]; exact h1,?_,h3,h4⟩
 rw [A.sc]
 unfold Vis
 cases e:c.sc.names.lookup x with
 | none=>rw [e] at h2; cases h2
 | some k =>
  rw [e] at h2
  cases k <;> first | exact .inl rfl | exact .inr (.inl rfl) | exact .inr (.inr rfl) | cases h2
theorem At.gu (A:At c X xp W) (h:c.glo x=true):Gl X x∧(x==("__debug__" : Str))=false:=by
 unfold Ck.glo at h
 simp only [ai,aw,Bool.not_eq_true'] at h
 refine ⟨?_,h.2⟩
 show X.env.scope.names.lookup x=_
 rw [A.sc]
 exact h.1
theorem At.de (A:At c X xp W) (h:c.blt x=true):Gl X x∧(x==("__debug__" : Str))=false∧X.mg x=none:=by
 unfold Ck.blt at h
 simp only [ai,aw] at h
 exact ⟨(A.gu h.1).1,(A.gu h.1).2,A.bs x h.2⟩
theorem At.jP (A:At c X xp W) (h:c.tgt i x=true):X.N[i]? = some x∧L2.Loc X.env.scope x∧(X.fn x=true∨X.env.scope.names.lookup x=some .local):=by
 unfold Ck.tgt at h
 simp only [ai,aw] at h
 refine ⟨by rw [A.N]; exact h.1,?_⟩
 rw [A.sc]
 unfold L2.Loc
 cases e:c.sc.names.lookup x with
 | none=>have:=h.2; rw [e] at this; cases this
 | some k =>
  have h2:=h.2
  rw [e] at h2
  cases k <;> first | exact ⟨.inl rfl,.inr rfl⟩ | exact ⟨.inr rfl,.inl (A.fa x h2)⟩ | cases h2
theorem At.sM (A:At c X xp W) : ∀ {is:List Nat} {es:List Expr},c.names is es=true→CGs X es is∧(assignEach es X.env).length=is.length∧(assignEach es X.env).findIdx? (·.1)=none
 | [],[],_=>⟨pgs_nil,rfl,rfl⟩
 | i::is,.Name x p::es,h=>by
  have h:(c.tgt i x&&c.names is es)=true:=h
  rw [ai] at h
  obtain ⟨h1,h2,h3⟩:=A.jP h.1
  obtain ⟨g1,g2,g3⟩:=A.sM h.2
  refine ⟨pgs_cons (pg_name A.nd h1 h2 h3) g1 rfl,bF Nat.succ g2,?_⟩
  show ((false,assign (.Name x p) X.env)::assignEach es X.env).findIdx? (·.1)=none
  rw [List.findIdx?_cons,g3]
  rfl
 | [],_::_,h=>by cases h
 | _::_,[],h=>by cases h
 | _::_,.BoolOp .. :: _,h=>by cases h
 | _::_,.NamedExpr .. :: _,h=>by cases h
 | _::_,.BinOp .. :: _,h=>by cases h
 | _::_,.UnaryOp .. :: _,h=>by cases h
 | _::_,.Lambda .. :: _,h=>by cases h
 | _::_,.IfExp .. :: _,h=>by cases h
 | _::_,.Dict .. :: _,h=>by cases h
 | _::_,.Set .. :: _,h=>by cases h
 | _::_,.ListComp .. :: _,h=>by cases h
 | _::_,.SetComp .. :: _,h=>by cases h
 | _::_,.DictComp .. :: _,h=>by cases h
 | _::_,.GeneratorExp .. :: _,h=>by cases h
 | _::_,.Await .. :: _,h=>by cases h
 | _::_,.Yield .. :: _,h=>by cases h
 | _::_,.YieldFrom .. :: _,h=>by cases h
 | _::_,.Compare .. :: _,h=>by cases h
 | _::_,.Call .. :: _,h=>by cases h
 | _::_,.FormattedValue .. :: _,h=>by cases h
 | _::_,.JoinedStr .. :: _,h=>by cases h
 | _::_,.Constant .. :: _,h=>by cases h
 | _::_,.Attribute .. :: _,h=>by cases h
 | _::_,.Subscript .. :: _,h=>by cases h
 | _::_,.Starred .. :: _,h=>by cases h
 | _::_,.List .. :: _,h=>by cases h
 | _::_,.Tuple .. :: _,h=>by cases h
 | _::_,.Slice .. :: _,h=>by cases h
theorem At.fD (A:At c X xp W) {t:Tg} {e:Expr} (h:c.tg t e=true):CG X xp e t:=by
 unfold Ck.tg at h
 split at h
 ·obtain ⟨h1,h2,h3⟩:=A.jP h
  exact DH A.nd h1 h2 h3
 ·rw [ai] at h
  obtain ⟨g1,g2,g3⟩:=A.sM h.2
  exact Jm (A.cm h.1) g1 g2 g3
 ·rw [ai,ai] at h
  obtain ⟨h1,h2,h3⟩:=A.jP h.1.2
  obtain ⟨g1,g2,g3⟩:=A.sM h.2
  exact NZ (A.cm h.1.1) A.nd h1 h2 h3 g1 g2 g3
 ·cases h
theorem At.blk (A:At c X xp W) (cm:c.cm=true) (scope:Scope) (s:Shared) (H:Hp) (C:Addr) (cl:List (Str × Addr)) (fp:List Addr):At (c.blk scope) (X.blk s H scope (compEnvC scope cl C X.env) fp) xp W0 where
 N:=A.N
 sc:=by
  show relS scope X.env.scope=relS scope c.sc
  rw [A.sc]
 fa:=λx h=>by
  show (scope.names.lookup x==some NameKind.cell)=true
  rw [dF h]
  rfl
 cm:=A.cm
 gl:=A.gl
 fs:=A.fs
 bs:=A.bs
 nd:=A.nd
 nore:=A.nore
 hu:=A.hu
 tk:=takes0
 su:=λh=>by cases h
 xw:=A.xw
 sb:=A.sb
 at_:=A.at_
 ex:=A.ex
 room:=A.room
 cs:=A.cs
 ms:=A.ms
 kw:=A.kw
 fl:=A.fl
 ic:=A.ic
end
theorem bN {x:Expr} {xs:List Expr} {env:Env} (h:noStar x=true):starEach (x::xs) env=(false,eval x env)::starEach xs env:=by
 cases x <;> first | rfl | cases h
theorem vJ {pos:Pos} {xs:List (Bool × Sem Value)}:(backTo pos xs).any (·.1)=xs.any (·.1):=by
 unfold backTo
 rw [List.any_map]
 rfl
theorem kO {c:Ck} {a:E} {y z:Str} {es:Es} : ∀ {xs:List Expr},c.es (.rep a y z es) xs=true→False
 | [],h=>by exact absurd h aa
 | _::_,h=>by exact absurd h aa
theorem tG {c:Ck} : ∀ {es:Es} {xs:List Expr} {env:Env},c.es es xs=true→(starEach xs env).any (·.1)=false
 | .nil,[],_,_=>rfl
 | .cons e es,x::xs,env,h=>by
  have h:(noStar x&&c.e e x&&c.es es xs)=true:=h
  simp only [ai] at h
  rw [bN h.1.1,j9,tG h.2]
  rfl
 | .nil,_::_,_,h=>by exact absurd h aa
 | .cons ..,[],_,h=>by exact absurd h aa
 | .rep ..,_,_,h=>(kO h).elim
theorem Nm {c:Ck} {pos:Pos} {es:Es} {xs:List Expr} {env:Env} (h:c.es es xs=true) (hl:xs.length<25) :
  ((backTo pos (starEach xs env)).all (λx => !x.1)&&(backToKw pos (keywordEach [] env)).all (λx=>x.1.isSome)&&decide (xs.length+([]:List Keyword).length+(if ([]:List Keyword).isEmpty then 0 else 1)<30))=true:=by
 have h1:(backTo pos (starEach xs env)).all (λx => !x.1)=true:=by
  have:=vJ (pos:=pos) (xs:=starEach xs env)
  rw [tG h] at this
  rw [List.all_eq_not_any_not]
  simp only [Bool.not_not]
  rw [this]
  rfl
 rw [h1]
 have:xs.length+([]:List Keyword).length+(if ([]:List Keyword).isEmpty then 0 else 1)<30:=by
  show xs.length+0+0<30
  omega
 rw [cb this]
 rfl
theorem OA : ∀ b:BI,bootBuiltins (b.id:Str)=some (.builtin b.id):=by
 intro b
 cases b <;> rfl
theorem Ph : ∀ b:TyI,bootBuiltins (b.id:Str)=some (.type b.id):=by
 intro b
 cases b <;> rfl
theorem EM (b:BI):(b.id:Str) ≠ "__name__":=by cases b <;> decide
theorem ON (b:TyI):(b.id:Str) ≠ "__name__":=by cases b <;> decide
theorem d7 {N:List Str} {vs:List Nat}:(ownOf N vs).map (·.2)=vs:=by
 unfold ownOf
 rw [cz]
 exact List.map_id _
theorem Hn (r:Rs Bool):(toB r).bind asB=r:=by cases r <;> rfl
noncomputable def S3 (X:Cx) (xp:XP) (W:WX) (x:Expr) (f:Sto→Rs D):Prop:=CE X xp W x f∧CT X xp W x (λρ=>(f ρ).bind asB) ∧ ∀ op vs p,x = .BoolOp op vs p→CW X xp W x (λρ=>(f ρ).bind asB)
section
variable {X:Cx} {xp:XP} {W:WX} {x:Expr} {f g:Sto→Rs D} {h k:Sto→Rs Bool}
theorem rH (a:CT X xp W x h) (e : ∀ ρ,k ρ=h ρ):CT X xp W x k:=by
 have:k=h:=funext e
 rw [this]; exact a
theorem n7 (a:CW X xp W x h) (e : ∀ ρ,k ρ=h ρ):CW X xp W x k:=by
 have:k=h:=funext e
 rw [this]; exact a
theorem lg (a:CE X xp W x f) (e : ∀ ρ,g ρ=f ρ):CE X xp W x g:=by
 have:g=f:=funext e
 rw [this]; exact a
theorem mk3 (a:CE X xp W x f) (he : ∀ whole,isTrue x X.env whole=(do let v ← whole; standAt x.pos; holding [v] (truthy v))) (nb : ∀ op vs p,x ≠ .BoolOp op vs p):S3 X xp W x f:=
 ⟨a,Kk a he,λop vs p e=>absurd e (nb op vs p)⟩
theorem kI (a:CE X xp W x f) (t:CT X xp W x (λρ=>(f ρ).bind asB)) (nb : ∀ op vs p,x ≠ .BoolOp op vs p):S3 X xp W x f:=⟨a,t,λop vs p e=>absurd e (nb op vs p)⟩
end
end Pf

set_option maxRecDepth 100000
set_option maxHeartbeats 1000000
namespace Pf
open PySem PySem.Spec PyProof.Rows L2
section
variable {c:Ck} {x:Expr}
theorem FP {i:Nat} (h:c.e (.var i) x=true) : ∃ n p,x = .Name n p∧c.vis i n=true:=by
 refine aV λno => ?_
 obtain ⟨w,e⟩ : ∃ w,x=w:=⟨_,rfl⟩
 rw [e] at h
 cases w <;> first | exact aa h | skip
 rename_i v1 v2
 exact no ⟨_,_,e,h⟩
theorem F4 {i:Int} (h:c.e (.int i) x=true) : ∃ k p,x = .Constant (.int i) k p:=by
 refine aV λno => ?_
 obtain ⟨w,e⟩ : ∃ w,x=w:=⟨_,rfl⟩
 rw [e] at h
 cases w <;> first | exact aa h | skip
 rename_i v1 v2 v3
 cases v1 <;> first | exact aa h | skip
 rename_i v4
 replace h:decide _=true:=h
 rw [aw] at h
 subst h
 exact no ⟨_,_,e⟩
theorem Jc {s:Str} (h:c.e (.str s) x=true) : ∃ k p,x = .Constant (.str s) k p∧asc s=true∧s.length≤LIM:=by
 refine aV λno => ?_
 obtain ⟨w,e⟩ : ∃ w,x=w:=⟨_,rfl⟩
 rw [e] at h
 cases w <;> first | exact aa h | skip
 rename_i v1 v2 v3
 cases v1 <;> first | exact aa h | skip
 rename_i v4
 replace h:(_&&_&&_)=true:=h
 simp only [ai,aw,Bool.not_eq_true',and_assoc] at h
 obtain ⟨e0,h⟩:=h
 subst e0
 exact no ⟨_,_,e,h⟩
theorem Ke {b:Bool} (h:c.e (.bl b) x=true) : ∃ k p,x = .Constant (.bool b) k p:=by
 refine aV λno => ?_
 obtain ⟨w,e⟩ : ∃ w,x=w:=⟨_,rfl⟩
 rw [e] at h
 cases w <;> first | exact aa h | skip
 rename_i v1 v2 v3
 cases v1 <;> first | exact aa h | skip
 rename_i v4
 replace h:decide _=true:=h
 rw [aw] at h
 subst h
 exact no ⟨_,_,e⟩
theorem Hg  (h:c.e (.non) x=true) : ∃ k p,x = .Constant .none k p:=by
 refine aV λno => ?_
 obtain ⟨w,e⟩ : ∃ w,x=w:=⟨_,rfl⟩
 rw [e] at h
 cases w <;> first | exact aa h | skip
 rename_i v1 v2 v3
 cases v1 <;> first | exact aa h | skip
 exact no ⟨_,_,e⟩
theorem Mx {k:Nat} (h:c.e (.gl k) x=true) : ∃ n p,x = .Name n p∧c.glo n=true∧(match c.Γ.gl.find? (λp=>p.1==k) with | some (_,y,_)=>decide (n=y) | none=>false)=true:=by
 refine aV λno => ?_
 obtain ⟨w,e⟩ : ∃ w,x=w:=⟨_,rfl⟩
 rw [e] at h
 cases w <;> first | exact aa h | skip
 rename_i v1 v2
 replace h:(_&&_)=true:=h
 simp only [ai,aw,Bool.not_eq_true',and_assoc] at h
 exact no ⟨_,_,e,h⟩
theorem Gz {o:Bi} {a b:E} (h:c.e (.bin o a b) x=true) : ∃ y z p,x = .BinOp y o.op z p∧c.e a y=true∧c.e b z=true:=by
 refine aV λno => ?_
 obtain ⟨w,e⟩ : ∃ w,x=w:=⟨_,rfl⟩
 rw [e] at h
 cases w <;> first | exact aa h | skip
 rename_i v1 v2 v3 v4
 replace h:(_&&_&&_)=true:=h
 simp only [ai,aw,Bool.not_eq_true',and_assoc] at h
 obtain ⟨e0,h⟩:=h
 subst e0
 exact no ⟨_,_,_,e,h⟩
theorem NL {a:E} (h:c.e (.neg a) x=true) : ∃ y p,x = .UnaryOp .USub y p∧c.e a y=true:=by
 refine aV λno => ?_
 obtain ⟨w,e⟩ : ∃ w,x=w:=⟨_,rfl⟩
 rw [e] at h
 cases w <;> first | exact aa h | skip
 rename_i v1 v2 v3
 cases v1 <;> first | exact aa h | skip
 exact no ⟨_,_,e,h⟩
theorem DU {o:Cm} {a b:L} (h:c.e (.cmp o a b) x=true) : ∃ y z p,x = .Compare y [o.op] [z] p∧behindInMarks o.op z=false∧c.l a y=true∧c.l b z=true:=by
 refine aV λno => ?_
 obtain ⟨w,e⟩ : ∃ w,x=w:=⟨_,rfl⟩
 rw [e] at h
 cases w <;> first | exact aa h | skip
 rename_i v1 v2 v3 v4
 cases v2 <;> first | exact aa h | skip
 rename_i v5 v6
 cases v6 <;> first | exact aa h | skip
 cases v3 <;> first | exact aa h | skip
 rename_i v7 v8
 cases v8 <;> first | exact aa h | skip
 replace h:(_&&_&&_&&_)=true:=h
 simp only [ai,aw,Bool.not_eq_true',and_assoc] at h
 obtain ⟨e0,h⟩:=h
 subst e0
 exact no ⟨_,_,_,e,h⟩
theorem F8 {o1 o2:Cm} {a b d:L} (h:c.e (.ch o1 o2 a b d) x=true) : ∃ y z u p,x = .Compare y [o1.op,o2.op] [z,u] p∧lastMarks [o1.op,o2.op] [z,u]=false∧c.l a y=true∧c.l b z=true∧c.l d u=true:=by
 refine aV λno => ?_
 obtain ⟨w,e⟩ : ∃ w,x=w:=⟨_,rfl⟩
 rw [e] at h
 cases w <;> first | exact aa h | skip
 rename_i v1 v2 v3 v4
 cases v2 <;> first | exact aa h | skip
 rename_i v5 v6
 cases v6 <;> first | exact aa h | skip
 rename_i v7 v8
 cases v8 <;> first | exact aa h | skip
 cases v3 <;> first | exact aa h | skip
 rename_i v9 v10
 cases v10 <;> first | exact aa h | skip
 rename_i v11 v12
 cases v12 <;> first | exact aa h | skip
 replace h:(_&&_&&_&&_&&_&&_)=true:=h
 simp only [ai,aw,Bool.not_eq_true',and_assoc] at h
 obtain ⟨e0,h⟩:=h
 subst e0
 obtain ⟨e1,h⟩:=h
 subst e1
 exact no ⟨_,_,_,_,e,h⟩
theorem FU {a:E} (h:c.e (.not a) x=true) : ∃ y p,x = .UnaryOp .Not y p∧c.e a y=true:=by
 refine aV λno => ?_
 obtain ⟨w,e⟩ : ∃ w,x=w:=⟨_,rfl⟩
 rw [e] at h
 cases w <;> first | exact aa h | skip
 rename_i v1 v2 v3
 cases v1 <;> first | exact aa h | skip
 exact no ⟨_,_,e,h⟩
theorem FR {a b:E} (h:c.e (.and a b) x=true) : ∃ y z r p,x = .BoolOp .And (y::z::r) p∧c.e a y=true∧(match r with | []=>c.e b z | u::r=>c.e b (.BoolOp .And (z::u::r) p))=true:=by
 refine aV λno => ?_
 obtain ⟨w,e⟩ : ∃ w,x=w:=⟨_,rfl⟩
 rw [e] at h
 cases w <;> first | exact aa h | skip
 rename_i v1 v2 v3
 cases v1 <;> first | exact aa h | skip
 cases v2 <;> first | exact aa h | skip
 rename_i v4 v5
 cases v5 <;> first | exact aa h | skip
 rename_i v6 v7
 replace h:(_&&_)=true:=h
 simp only [ai,aw,Bool.not_eq_true',and_assoc] at h
 exact no ⟨_,_,_,_,e,h⟩
theorem Gh {a b:E} (h:c.e (.or a b) x=true) : ∃ y z r p,x = .BoolOp .Or (y::z::r) p∧c.e a y=true∧(match r with | []=>c.e b z | u::r=>c.e b (.BoolOp .Or (z::u::r) p))=true:=by
 refine aV λno => ?_
 obtain ⟨w,e⟩ : ∃ w,x=w:=⟨_,rfl⟩
 rw [e] at h
 cases w <;> first | exact aa h | skip
 rename_i v1 v2 v3
 cases v1 <;> first | exact aa h | skip
 cases v2 <;> first | exact aa h | skip
 rename_i v4 v5
 cases v5 <;> first | exact aa h | skip
 rename_i v6 v7
 replace h:(_&&_)=true:=h
 simp only [ai,aw,Bool.not_eq_true',and_assoc] at h
 exact no ⟨_,_,_,_,e,h⟩
theorem Hb {d a b:E} (h:c.e (.ife d a b) x=true) : ∃ y z u p,x = .IfExp y z u p∧c.e d y=true∧c.e a z=true∧c.e b u=true:=by
 refine aV λno => ?_
 obtain ⟨w,e⟩ : ∃ w,x=w:=⟨_,rfl⟩
 rw [e] at h
 cases w <;> first | exact aa h | skip
 rename_i v1 v2 v3 v4
 replace h:(_&&_&&_)=true:=h
 simp only [ai,aw,Bool.not_eq_true',and_assoc] at h
 exact no ⟨_,_,_,_,e,h⟩
theorem GF {es:Es} (h:c.e (.tup es) x=true) : ∃ ys k p,x = .Tuple ys k p∧c.es es ys=true:=by
 refine aV λno => ?_
 obtain ⟨w,e⟩ : ∃ w,x=w:=⟨_,rfl⟩
 rw [e] at h
 cases w <;> first | exact aa h | skip
 rename_i v1 v2 v3
 exact no ⟨_,_,_,e,h⟩
theorem Ia {es:Es} (h:c.e (.lst es) x=true) : ∃ ys p,x = .List ys p∧c.es es ys=true:=by
 refine aV λno => ?_
 obtain ⟨w,e⟩ : ∃ w,x=w:=⟨_,rfl⟩
 rw [e] at h
 cases w <;> first | exact aa h | skip
 rename_i v1 v2
 exact no ⟨_,_,e,h⟩
theorem Ht {a b:E} (h:c.e (.ix a b) x=true) : ∃ y z p,x = .Subscript y z p∧jI z=true∧c.e a y=true∧c.e b z=true:=by
 refine aV λno => ?_
 obtain ⟨w,e⟩ : ∃ w,x=w:=⟨_,rfl⟩
 rw [e] at h
 cases w <;> first | exact aa h | skip
 rename_i v1 v2 v3
 replace h:(_&&_&&_)=true:=h
 simp only [ai,aw,Bool.not_eq_true',and_assoc] at h
 exact no ⟨_,_,_,e,h⟩
theorem Fe {a:E} {lo hi:Eo} (h:c.e (.sl a lo hi) x=true) : ∃ y l u q p,x = .Subscript y (.Slice l u none q) p∧c.e a y=true∧c.o lo l=true∧c.o hi u=true:=by
 refine aV λno => ?_
 obtain ⟨w,e⟩ : ∃ w,x=w:=⟨_,rfl⟩
 rw [e] at h
 cases w <;> first | exact aa h | skip
 rename_i v1 v2 v3
 cases v2 <;> first | exact aa h | skip
 rename_i v4 v5 v6 v7
 cases v6 <;> first | exact aa h | skip
 replace h:(_&&_&&_)=true:=h
 simp only [ai,aw,Bool.not_eq_true',and_assoc] at h
 exact no ⟨_,_,_,_,_,e,h⟩
theorem HU {a:E} (h:c.e (.rev a) x=true) : ∃ y k p1 p2 p3 p,x = .Subscript y (.Slice none none (some (.UnaryOp .USub (.Constant (.int 1) k p1) p2)) p3) p∧c.e a y=true:=by
 refine aV λno => ?_
 obtain ⟨w,e⟩ : ∃ w,x=w:=⟨_,rfl⟩
 rw [e] at h
 cases w <;> first | exact aa h | skip
 rename_i v1 v2 v3
 cases v2 <;> first | exact aa h | skip
 rename_i v4 v5 v6 v7
 cases v4 <;> first | exact aa h | skip
 cases v5 <;> first | exact aa h | skip
 cases v6 <;> first | exact aa h | skip
 rename_i v8
 cases v8 <;> first | exact aa h | skip
 rename_i v9 v10 v11
 cases v9 <;> first | exact aa h | skip
 cases v10 <;> first | exact aa h | skip
 rename_i v12 v13 v14
 cases v12 <;> first | exact aa h | skip
 rename_i v15
 cases v15 <;> first | exact aa h | skip
 rename_i v16
 cases v16 <;> first | exact aa h | skip
 rename_i v17
 cases v17 <;> first | exact aa h | skip
 exact no ⟨_,_,_,_,_,_,e,h⟩
theorem EI {f:BI} {es:Es} (h:c.e (.bi f es) x=true) : ∃ q y ys p,x = .Call (.Name (f.id:Str) q) (y::ys) [] p∧(c.cm||f.quiet)=true∧c.blt (f.id:Str)=true∧c.es es (y::ys)=true:=by
 refine aV λno => ?_
 obtain ⟨w,e⟩ : ∃ w,x=w:=⟨_,rfl⟩
 rw [e] at h
 cases w <;> first | exact aa h | skip
 rename_i v1 v2 v3 v4
 cases v1 <;> first | exact aa h | skip
 rename_i v5 v6
 cases v2 <;> first | exact aa h | skip
 rename_i v7 v8
 cases v3 <;> first | exact aa h | skip
 replace h:(_&&_&&_&&_)=true:=h
 simp only [ai,aw,Bool.not_eq_true',and_assoc] at h
 obtain ⟨e0,h⟩:=h
 subst e0
 exact no ⟨_,_,_,_,e,h⟩
theorem HV {f:TyI} {es:Es} (h:c.e (.ti f es) x=true) : ∃ q y ys p,x = .Call (.Name (f.id:Str) q) (y::ys) [] p∧c.blt (f.id:Str)=true∧c.es es (y::ys)=true:=by
 refine aV λno => ?_
 obtain ⟨w,e⟩ : ∃ w,x=w:=⟨_,rfl⟩
 rw [e] at h
 cases w <;> first | exact aa h | skip
 rename_i v1 v2 v3 v4
 cases v1 <;> first | exact aa h | skip
 rename_i v5 v6
 cases v2 <;> first | exact aa h | skip
 rename_i v7 v8
 cases v3 <;> first | exact aa h | skip
 replace h:(_&&_&&_)=true:=h
 simp only [ai,aw,Bool.not_eq_true',and_assoc] at h
 obtain ⟨e0,h⟩:=h
 subst e0
 exact no ⟨_,_,_,_,e,h⟩
theorem M_ {a:L} (h:c.e (.len a) x=true) : ∃ q y p,x = .Call (.Name "len" q) [y] [] p∧c.blt "len" = true∧noStar y=true∧c.l a y=true:=by
 refine aV λno => ?_
 obtain ⟨w,e⟩ : ∃ w,x=w:=⟨_,rfl⟩
 rw [e] at h
 cases w <;> first | exact aa h | skip
 rename_i v1 v2 v3 v4
 cases v1 <;> first | exact aa h | skip
 rename_i v5 v6
 cases v2 <;> first | exact aa h | skip
 rename_i v7 v8
 cases v8 <;> first | exact aa h | skip
 cases v3 <;> first | exact aa h | skip
 replace h:(_&&_&&_&&_)=true:=h
 simp only [ai,aw,Bool.not_eq_true',and_assoc] at h
 obtain ⟨e0,h⟩:=h
 subst e0
 exact no ⟨_,_,_,e,h⟩
theorem Hc {m:MI} {a:E} {es:Es} (h:c.e (.mt m a es) x=true) : ∃ u p1 y ys p,x = .Call (.Attribute u (m.nm:Str) p1) (y::ys) [] p∧kT u=true∧(p1.endLine==p.line)=true∧ys.length<20∧c.e a u=true∧c.es es (y::ys)=true:=by
 refine aV λno => ?_
 obtain ⟨w,e⟩ : ∃ w,x=w:=⟨_,rfl⟩
 rw [e] at h
 cases w <;> first | exact aa h | skip
 rename_i v1 v2 v3 v4
 cases v1 <;> first | exact aa h | skip
 rename_i v5 v6 v7
 cases v2 <;> first | exact aa h | skip
 rename_i v8 v9
 cases v3 <;> first | exact aa h | skip
 replace h:(_&&_&&_&&_&&_&&_)=true:=h
 simp only [ai,aw,Bool.not_eq_true',and_assoc] at h
 obtain ⟨e0,h⟩:=h
 subst e0
 exact no ⟨_,_,_,_,_,e,h⟩
theorem Pm {k:Nat} {es:Es} (h:c.e (.call k es) x=true) : ∃ n q ys p,x = .Call (.Name n q) ys [] p∧c.cm=true∧c.glo n=true∧(match c.Γ.fs.find? (λp=>p.1==k) with | some (_,y,_)=>decide (n=y) | none=>false)=true∧c.es es ys=true:=by
 refine aV λno => ?_
 obtain ⟨w,e⟩ : ∃ w,x=w:=⟨_,rfl⟩
 rw [e] at h
 cases w <;> first | exact aa h | skip
 rename_i v1 v2 v3 v4
 cases v1 <;> first | exact aa h | skip
 rename_i v5 v6
 cases v3 <;> first | exact aa h | skip
 replace h:(_&&_&&_&&_)=true:=h
 simp only [ai,aw,Bool.not_eq_true',and_assoc] at h
 exact no ⟨_,_,_,_,e,h⟩
theorem HY {a:L} {T:TyN} (h:c.e (.isa a T) x=true) : ∃ q y p2 p,x = .Call (.Name "isinstance" q) [y,.Name (T.nm:Str) p2] [] p∧c.blt "isinstance" = true∧c.blt (T.nm:Str)=true∧noStar y=true∧c.l a y=true:=by
 refine aV λno => ?_
 obtain ⟨w,e⟩ : ∃ w,x=w:=⟨_,rfl⟩
 rw [e] at h
 cases w <;> first | exact aa h | skip
 rename_i v1 v2 v3 v4
 cases v1 <;> first | exact aa h | skip
 rename_i v5 v6
 cases v2 <;> first | exact aa h | skip
 rename_i v7 v8
 cases v8 <;> first | exact aa h | skip
 rename_i v9 v10
 cases v9 <;> first | exact aa h | skip
 rename_i v11 v12
 cases v10 <;> first | exact aa h | skip
 cases v3 <;> first | exact aa h | skip
 replace h:(_&&_&&_&&_&&_&&_)=true:=h
 simp only [ai,aw,Bool.not_eq_true',and_assoc] at h
 obtain ⟨e0,h⟩:=h
 subst e0
 obtain ⟨e1,h⟩:=h
 subst e1
 exact no ⟨_,_,_,_,e,h⟩
theorem Oy {t:Tg} {vs:List Nat} {it:I} {cond:Eo} {elt:E} (h:c.e (.lc t vs it cond elt) x=true) : ∃ y tg iter ifs scope p,x = .ListComp y [⟨tg,iter,ifs,0⟩] scope p∧c.cm=true∧dA iter=true∧d_ t vs=true∧blkC c.N c.sc scope (ownOf c.N vs)=true∧c.i tg it iter=true∧(c.blk scope).tg t tg=true∧(c.blk scope).cs cond ifs=true∧(c.blk scope).e elt y=true:=by
 refine aV λno => ?_
 obtain ⟨w,e⟩ : ∃ w,x=w:=⟨_,rfl⟩
 rw [e] at h
 cases w <;> first | exact aa h | skip
 rename_i v1 v2 v3 v4
 cases v2 <;> first | exact aa h | skip
 rename_i v5 v6
 cases v5 <;> first | exact aa h | skip
 rename_i v7 v8 v9 v10
 cases v10 <;> first | exact aa h | skip
 rename_i v11
 cases v11 <;> first | exact aa h | skip
 cases v6 <;> first | exact aa h | skip
 replace h:(_&&_&&_&&_&&_&&_&&_&&_)=true:=h
 simp only [ai,aw,Bool.not_eq_true',and_assoc] at h
 exact no ⟨_,_,_,_,_,_,e,h⟩
theorem KD {t:Tg} {vs:List Nat} {it:I} {cond:Eo} {elt:E} (h:c.e (.lenks t vs it cond elt) x=true) : ∃ q y tg iter ifs scope p1 p,x = .Call (.Name "len" q) [.SetComp y [⟨tg,iter,ifs,0⟩] scope p1] [] p∧c.blt "len" = true∧c.cm=true∧dA iter=true∧d_ t vs=true∧blkC c.N c.sc scope (ownOf c.N vs)=true∧c.i tg it iter=true∧(c.blk scope).tg t tg=true∧(c.blk scope).cs cond ifs=true∧(c.blk scope).e elt y=true:=by
 refine aV λno => ?_
 obtain ⟨w,e⟩ : ∃ w,x=w:=⟨_,rfl⟩
 rw [e] at h
 cases w <;> first | exact aa h | skip
 rename_i v1 v2 v3 v4
 cases v1 <;> first | exact aa h | skip
 rename_i v5 v6
 cases v2 <;> first | exact aa h | skip
 rename_i v7 v8
 cases v7 <;> first | exact aa h | skip
 rename_i v9 v10 v11 v12
 cases v10 <;> first | exact aa h | skip
 rename_i v13 v14
 cases v13 <;> first | exact aa h | skip
 rename_i v15 v16 v17 v18
 cases v18 <;> first | exact aa h | skip
 rename_i v19
 cases v19 <;> first | exact aa h | skip
 cases v14 <;> first | exact aa h | skip
 cases v8 <;> first | exact aa h | skip
 cases v3 <;> first | exact aa h | skip
 replace h:(_&&_&&_&&_&&_&&_&&_&&_&&_&&_)=true:=h
 simp only [ai,aw,Bool.not_eq_true',and_assoc] at h
 obtain ⟨e0,h⟩:=h
 subst e0
 exact no ⟨_,_,_,_,_,_,_,_,e,h⟩
theorem DJ {o:Op} {es:Es} (h:c.e (.op o es) x=true) : ∃ ys,opX c.blt c.cm c.fl c.ic c.xc c.glo c.Γ.sb o x=some ys∧c.es es ys=true:=by
 replace h:(match opX c.blt c.cm c.fl c.ic c.xc c.glo c.Γ.sb o x with | some ys=>c.es es ys | none=>false)=true:=h
 cases e:opX c.blt c.cm c.fl c.ic c.xc c.glo c.Γ.sb o x with
 | none=>rw [e] at h; cases h
 | some ys=>rw [e] at h; exact ⟨ys,rfl,h⟩
theorem i_q {q:Q} (h:c.e (.q q) x=true):c.q q x=true:=by
 exact h
theorem LI {t t2:Tg} {vs us:List Nat} {it it2:I} {cond cond2:Eo} {elt:E} (h:c.q (.lc2 t vs it cond t2 us it2 cond2 elt) x=true) : ∃ y tg iter ifs tg2 iter2 ifs2 scope p1,x = .ListComp y [⟨tg,iter,ifs,0⟩,⟨tg2,iter2,ifs2,0⟩] scope p1∧c.cm=true∧dA iter=true∧d_ t vs=true ∧
  blkC c.N c.sc scope (ownOf c.N vs)=true∧c.i tg it iter=true∧(c.blk scope).tg t tg=true∧(c.blk scope).cs cond ifs=true∧(c.blk scope).e elt y=true∧dA iter2=true∧d_ t2 us=true∧(us.all λi=>decide (i∈vs))=true∧(c.blk scope).i tg2 it2 iter2=true∧(c.blk scope).tg t2 tg2=true∧(c.blk scope).cs cond2 ifs2=true:=by
 refine aV λno => ?_
 obtain ⟨w,e⟩ : ∃ w,x=w:=⟨_,rfl⟩
 rw [e] at h
 cases w <;> first | exact aa h | skip
 rename_i v1 v2 v3 v4
 cases v2 <;> first | exact aa h | skip
 rename_i v5 v6
 cases v5 <;> first | exact aa h | skip
 rename_i v7 v8 v9 v10
 cases v10 <;> first | exact aa h | skip
 rename_i v11
 cases v11 <;> first | exact aa h | skip
 cases v6 <;> first | exact aa h | skip
 rename_i v12 v13
 cases v12 <;> first | exact aa h | skip
 rename_i v14 v15 v16 v17
 cases v17 <;> first | exact aa h | skip
 rename_i v18
 cases v18 <;> first | exact aa h | skip
 cases v13 <;> first | exact aa h | skip
 replace h:(_&&_&&_&&_&&_&&_&&_&&_&&_&&_&&_&&_&&_&&_)=true:=h
 rw [ai,ai,ai,ai,ai,ai,ai,ai,ai,ai,ai,ai,ai] at h
 simp only [and_assoc] at h
 exact no ⟨_,_,_,_,_,_,_,_,_,e,h⟩
end
end Pf

set_option maxRecDepth 100000
namespace Pf
open PySem PySem.Spec PyProof.Rows L2
section
variable {X:Cx} {xp:XP} {W:WX} {x y:Expr} {f g:Sto→Rs D} {pos:Pos}
theorem JB (a:S3 X xp W x f):S3 X xp W (.UnaryOp .Not x pos) (λρ=>((f ρ).bind asB).bind λb => .ok (.bool (!b))):=
 kI (M5 a.1) (rH (Jr a.2.1) λρ=>by cases (f ρ).bind asB <;> rfl) (by intro _ _ _ h; cases h)
theorem Fl {z:Expr} {t:Sto→Rs D} (d:S3 X xp W z t) (a:S3 X xp W x f) (b:S3 X xp W y g):S3 X xp W (.IfExp z x y pos) (λρ=>((t ρ).bind asB).bind λk=>if k=true then f ρ else g ρ):=
 kI (E2 d.2.1 a.1 b.1) (rH (NK d.2.1 a.2.1 b.2.1) λρ=>by
  cases (t ρ).bind asB with
  | ok k=>cases k <;> rfl
  | ex e=>rfl
  | bad=>rfl) (by intro _ _ _ h; cases h)
theorem and_eq (ρ:Sto):(((f ρ).bind asB).bind λk=>if k=true then g ρ else .ok (.bool false)).bind asB=((f ρ).bind asB).bind λk=>if k=true then (g ρ).bind asB else .ok false:=by
 cases (f ρ).bind asB with
 | ok k=>cases k <;> rfl
 | ex e=>rfl
 | bad=>rfl
theorem or_eq (ρ:Sto):(((f ρ).bind asB).bind λk=>if k=true then .ok (.bool true) else g ρ).bind asB=((f ρ).bind asB).bind λk=>if k=true then .ok true else (g ρ).bind asB:=by
 cases (f ρ).bind asB with
 | ok k=>cases k <;> rfl
 | ex e=>rfl
 | bad=>rfl
theorem JL (a:S3 X xp W x f) (b:S3 X xp W y g):S3 X xp W (.BoolOp .And [x,y] pos) (λρ=>((f ρ).bind asB).bind λk=>if k=true then g ρ else .ok (.bool false)):=by
 have cw:CW X xp W (.BoolOp .And [x,y] pos) (λρ=>(((f ρ).bind asB).bind λk=>if k=true then g ρ else .ok (.bool false)).bind asB):=n7 (B4 a.2.1 (EZ b.2.1)) λρ=>and_eq ρ
 exact ⟨vG a.1 (Bz b.1),pe cw,λop vs p e=>cw⟩
theorem PL {z:Expr} {r:List Expr} (a:S3 X xp W x f) (b:S3 X xp W (.BoolOp .And (y::z::r) pos) g):S3 X xp W (.BoolOp .And (x::y::z::r) pos) (λρ=>((f ρ).bind asB).bind λk=>if k=true then g ρ else .ok (.bool false)):=by
 have cw:CW X xp W (.BoolOp .And (x::y::z::r) pos) (λρ=>(((f ρ).bind asB).bind λk=>if k=true then g ρ else .ok (.bool false)).bind asB):=n7 (B4 a.2.1 (b.2.2 _ _ _ rfl)) λρ=>and_eq ρ
 exact ⟨vG a.1 b.1,pe cw,λop vs p e=>cw⟩
theorem Kf (a:S3 X xp W x f) (b:S3 X xp W y g):S3 X xp W (.BoolOp .Or [x,y] pos) (λρ=>((f ρ).bind asB).bind λk=>if k=true then .ok (.bool true) else g ρ):=by
 have cw:CW X xp W (.BoolOp .Or [x,y] pos) (λρ=>(((f ρ).bind asB).bind λk=>if k=true then .ok (.bool true) else g ρ).bind asB):=n7 (Bf a.2.1 (JH b.2.1)) λρ=>or_eq ρ
 exact ⟨z6 a.1 (Bz b.1),pe cw,λop vs p e=>cw⟩
theorem Jt {z:Expr} {r:List Expr} (a:S3 X xp W x f) (b:S3 X xp W (.BoolOp .Or (y::z::r) pos) g):S3 X xp W (.BoolOp .Or (x::y::z::r) pos) (λρ=>((f ρ).bind asB).bind λk=>if k=true then .ok (.bool true) else g ρ):=by
 have cw:CW X xp W (.BoolOp .Or (x::y::z::r) pos) (λρ=>(((f ρ).bind asB).bind λk=>if k=true then .ok (.bool true) else g ρ).bind asB):=n7 (Bf a.2.1 (b.2.2 _ _ _ rfl)) λρ=>or_eq ρ
 exact ⟨z6 a.1 b.1,pe cw,λop vs p e=>cw⟩
theorem JF (xs:List D) (k:List D→D):(if xs.length≤LIM then Rs.ok xs else .bad).bind (λds => .ok (k ds))=cI xs k:=by
 unfold cI
 by_cases h:xs.length≤LIM
 ·rw [if_pos h,if_pos h]; rfl
 ·rw [if_neg h,if_neg h]; rfl
end
section
variable {c:Ck} {X:Cx} {xp:XP} {W:WX}
theorem Lv (A:At c X xp W) (f:BI) (h:(c.cm||f.quiet)=true):CallR X (.builtin f.id) (rBI X.K f):=by
 cases hc:c.cm with
 | true=>exact Ir (A.cm hc) A.nore A.hu f
 | false =>
  rw [hc,Bool.false_or] at h
  cases f <;> first | cases h; done | exact Bq A.nore A.hu | exact call_abs
end
theorem Es.any {c:Ck} {es:Es} {y:Expr} {ys:List Expr} {env:Env} {pos:Pos} (h:c.es es (y::ys)=true):starEach (y::ys) env=(false,eval y env)::starEach ys env∧(backTo pos (starEach ys env)).any (·.1)=false:=by
 cases es with
 | nil=>exact absurd h aa
 | rep=>exact (kO h).elim
 | cons e es =>
  have h:(noStar y&&c.e e y&&c.es es ys)=true:=h
  simp only [ai] at h
  exact ⟨bN h.1.1,by rw [vJ]; exact tG h.2⟩
theorem gm {e:Expr} {env:Env} (h:dA e=true) : ∀ x,foldedSetIterable e env x=pure x:=by
 intro x
 cases e <;> first | rfl | cases h
theorem FE {c:Ck} {xs:List Expr} (h:c.cs .none xs=true):xs=[]:=by
 cases xs with
 | nil=>rfl
 | cons x xs=>cases h
theorem Mb {c:Ck} {e:E} {xs:List Expr} (h:c.cs (.some e) xs=true) : ∃ x,xs=[x]∧c.e e x=true:=by
 match xs,h with
 | [x],h=>exact ⟨x,rfl,h⟩
 | [],h=>cases h
 | _::_::_,h=>cases h
theorem Ng {c:Ck} {x:Option Expr} (h:c.o .none x=true):x=none:=by
 cases x with
 | none=>rfl
 | some x=>cases h
theorem Dt {c:Ck} {e:E} {x:Option Expr} (h:c.o (.some e) x=true) : ∃ y,x=some y∧c.e e y=true:=by
 cases x with
 | none=>cases h
 | some x=>exact ⟨x,rfl,h⟩
theorem KP {c:Ck} {xs:List Expr} (h:c.ls .nil xs=true):xs=[]:=by
 cases xs with
 | nil=>rfl
 | cons x xs=>cases h
theorem N1 {c:Ck} {l:L} {ls:Ls} {xs:List Expr} (h:c.ls (.cons l ls) xs=true) : ∃ y ys,xs=y::ys∧noStar y=true∧c.l l y=true∧c.ls ls ys=true:=by
 cases xs with
 | nil=>cases h
 | cons x xs =>
  have h:(noStar x&&c.l l x&&c.ls ls xs)=true:=h
  simp only [ai] at h
  exact ⟨x,xs,rfl,h.1.1,h.1.2,h.2⟩
theorem L0 {c:Ck} {ls:Ls} {x:Expr} (h:c.l (.tup ls) x=true) : ∃ ys k p,x = .Tuple ys k p∧c.ls ls ys=true:=by
 refine aV λno => ?_
 obtain ⟨w,e⟩ : ∃ w,x=w:=⟨_,rfl⟩
 rw [e] at h
 cases w <;> first | exact aa h | skip
 rename_i v1 v2 v3
 exact no ⟨_,_,_,e,h⟩
theorem BO {c:Ck} {xs:List Expr} (h:c.es .nil xs=true):xs=[]:=by
 cases xs with
 | nil=>rfl
 | cons x xs=>cases h
theorem wH {c:Ck} {e:E} {es:Es} {xs:List Expr} (h:c.es (.cons e es) xs=true) : ∃ y ys,xs=y::ys∧noStar y=true∧c.e e y=true∧c.es es ys=true:=by
 cases xs with
 | nil=>cases h
 | cons x xs =>
  have h:(noStar x&&c.e e x&&c.es es xs)=true:=h
  simp only [ai,and_assoc] at h
  exact ⟨x,xs,rfl,h⟩
theorem HL {c:Ck} {xs:List Expr} (h:c.er .nil xs=true):xs=[]:=by
 cases xs with
 | nil=>rfl
 | cons x xs=>cases h
theorem D_ {c:Ck} {e:E} {es:Es} {xs:List Expr} (h:c.er (.cons e es) xs=true) : ∃ y ys,xs=y::ys∧noStar y=true∧c.e e y=true∧c.er es ys=true:=by
 cases xs with
 | nil=>cases h
 | cons x xs =>
  have h:(noStar x&&c.e e x&&c.er es xs)=true:=h
  simp only [ai,and_assoc] at h
  exact ⟨x,xs,rfl,h⟩
theorem Nl {c:Ck} {xs:List Expr} (h:c.fs .nil xs=true):xs=[]:=by
 cases xs with
 | nil=>rfl
 | cons x xs=>exact absurd h aa
theorem Oq {c:Ck} {e:E} {es:Es} {xs:List Expr} (h:c.fs (.cons e es) xs=true):(∃ y p ys,xs = .FormattedValue y (-1) none p::ys∧c.e e y=true∧c.fs es ys=true) ∨ ∃ k j p ys,e = .str k∧xs = .Constant (.str k) j p::ys∧asc k=true∧k.length≤LIM∧c.fs es ys=true:=by
 unfold Ck.fs at h
 split at h
 ·rename_i h1
  cases h1
 ·rename_i h1
  injection h1 with e1 e2
  subst e1 e2
  simp only [ai,aw,and_assoc] at h
  obtain ⟨e0,h⟩:=h
  subst e0
  exact .inl ⟨_,_,_,rfl,h⟩
 ·rename_i h1
  injection h1 with e1 e2
  subst e1 e2
  rw [ai] at h
  obtain ⟨g,h⟩:=h
  split at g
  ·simp only [ai,aw,and_assoc] at g
   obtain ⟨e0,g1,g2⟩:=g
   subst e0
   exact .inr ⟨_,_,_,_,rfl,rfl,g1,g2,h⟩
  ·cases g
 ·cases h
theorem PE.one {X:Cx} {xp:XP} {W:WX} {e:Expr} {f:Sto→Rs D} (h:CE X xp W e f):CE1 X xp W e f:=CwR.PET.of h
theorem L4 {c:Ck} {i:Nat} {x:Expr} (h:c.l (.ov i) x=true) : ∃ n p,x = .Name n p∧c.vis i n=true:=by
 refine aV λno => ?_
 obtain ⟨w,e⟩ : ∃ w,x=w:=⟨_,rfl⟩
 rw [e] at h
 cases w <;> first | exact aa h | skip
 rename_i v1 v2
 exact no ⟨_,_,e,h⟩
theorem Ft {c:Ck} {a:E} {tg x:Expr} (h:c.i tg (.r1 a) x=true) : ∃ q y p,x = .Call (.Name "range" q) [y] [] p∧c.blt "range" = true∧noStar y=true∧c.e a y=true:=by
 refine aV λno => ?_
 obtain ⟨w,e⟩ : ∃ w,x=w:=⟨_,rfl⟩
 rw [e] at h
 cases w <;> first | exact aa h | skip
 rename_i v1 v2 v3 v4
 cases v1 <;> first | exact aa h | skip
 rename_i v5 v6
 cases v2 <;> first | exact aa h | skip
 rename_i v7 v8
 cases v8 <;> first | exact aa h | skip
 cases v3 <;> first | exact aa h | skip
 replace h:(_&&_&&_&&_)=true:=h
 simp only [ai,aw,and_assoc] at h
 obtain ⟨e0,h⟩:=h
 subst e0
 exact no ⟨_,_,_,e,h⟩
theorem OZ {c:Ck} {a b:E} {tg x:Expr} (h:c.i tg (.r2 a b) x=true) : ∃ q y z p,x = .Call (.Name "range" q) [y,z] [] p∧c.blt "range" = true∧noStar y=true∧noStar z=true∧c.e a y=true∧c.e b z=true:=by
 refine aV λno => ?_
 obtain ⟨w,e⟩ : ∃ w,x=w:=⟨_,rfl⟩
 rw [e] at h
 cases w <;> first | exact aa h | skip
 rename_i v1 v2 v3 v4
 cases v1 <;> first | exact aa h | skip
 rename_i v5 v6
 cases v2 <;> first | exact aa h | skip
 rename_i v7 v8
 cases v8 <;> first | exact aa h | skip
 rename_i v9 v10
 cases v10 <;> first | exact aa h | skip
 cases v3 <;> first | exact aa h | skip
 replace h:(_&&_&&_&&_&&_&&_)=true:=h
 simp only [ai,aw,and_assoc] at h
 obtain ⟨e0,h⟩:=h
 subst e0
 exact no ⟨_,_,_,_,e,h⟩
noncomputable def isTup:Expr→Bool
 | .Tuple .. => true
 | _=>false
theorem OV {c:Ck} {a b d:E} {tg x:Expr} (h:c.i tg (.r3 a b d) x=true) : ∃ q y z v p,x = .Call (.Name "range" q) [y,z,v] [] p∧c.blt "range" = true∧noStar y=true∧noStar z=true∧noStar v=true∧c.e a y=true∧c.e b z=true∧c.e d v=true:=by
 refine aV λno => ?_
 obtain ⟨w,e⟩ : ∃ w,x=w:=⟨_,rfl⟩
 rw [e] at h
 cases w <;> first | exact aa h | skip
 rename_i v1 v2 v3 v4
 cases v1 <;> first | exact aa h | skip
 rename_i v5 v6
 cases v2 <;> first | exact aa h | skip
 rename_i v7 v8
 cases v8 <;> first | exact aa h | skip
 rename_i v9 v10
 cases v10 <;> first | exact aa h | skip
 rename_i v11 v12
 cases v12 <;> first | exact aa h | skip
 cases v3 <;> first | exact aa h | skip
 replace h:(_&&_&&_&&_&&_&&_&&_&&_)=true:=h
 simp only [ai,aw,and_assoc] at h
 obtain ⟨e0,h⟩:=h
 subst e0
 exact no ⟨_,_,_,_,_,e,h⟩
theorem JE {c:Ck} {a:E} {tg x:Expr} (h:c.i tg (.enum a) x=true) : ∃ q y p,x = .Call (.Name "enumerate" q) [y] [] p∧c.blt "enumerate" = true∧isTup tg=true∧noStar y=true∧c.e a y=true:=by
 refine aV λno => ?_
 obtain ⟨w,e⟩ : ∃ w,x=w:=⟨_,rfl⟩
 rw [e] at h
 cases w <;> first | exact aa h | skip
 rename_i v1 v2 v3 v4
 cases v1 <;> first | exact aa h | skip
 rename_i v5 v6
 cases v2 <;> first | exact aa h | skip
 rename_i v7 v8
 cases v8 <;> first | exact aa h | skip
 cases v3 <;> first | exact aa h | skip
 replace h:(_&&_&&_&&_&&_)=true:=h
 simp only [ai,aw,and_assoc] at h
 obtain ⟨e0,h⟩:=h
 subst e0
 exact no ⟨_,_,_,e,h⟩
theorem Ka {c:Ck} {a b:E} {tg x:Expr} (h:c.i tg (.zipL a b) x=true) : ∃ q y z p,x = .Call (.Name "zip" q) [y,z] [] p∧c.blt "zip" = true∧isTup tg=true∧noStar y=true∧noStar z=true∧c.e a y=true∧c.e b z=true:=by
 unfold Ck.i at h
 split at h <;> first | contradiction | skip
 ·rename_i heq
  cases heq
  simp only [ai,aw,and_assoc] at h
  obtain ⟨e0,h⟩:=h
  subst e0
  exact ⟨_,_,_,_,rfl,h⟩
theorem Kh {c:Ck} {a b:E} {tg x:Expr} (h:c.i tg (.zipS a b) x=true) : ∃ q y z p kw,x = .Call (.Name "zip" q) [y,z] kw p∧(kw=[] ∨ ∃ j p1 p2,kw=kwT j p1 p2)∧c.blt "zip" = true∧isTup tg=true∧noStar y=true∧noStar z=true∧c.e a y=true∧c.e b z=true:=by
 unfold Ck.i at h
 split at h <;> first | contradiction | skip
 ·rename_i heq
  cases heq
  simp only [ai,aw,and_assoc] at h
  obtain ⟨e0,h⟩:=h
  subst e0
  exact ⟨_,_,_,_,_,rfl,.inl rfl,h⟩
 ·rename_i heq
  cases heq
  simp only [ai,aw,and_assoc] at h
  obtain ⟨e0,e1,h⟩:=h
  subst e0 e1
  exact ⟨_,_,_,_,_,rfl,.inr ⟨_,_,_,rfl⟩,h⟩
theorem NM {X:Cx} {xp:XP} {W:WX} {x:Expr} {fs:Sto→Rs (List D)} (h:CE X xp W x (λρ=>(fs ρ).bind λxs=>if xs.length≤LIM then .ok (.tuple xs) else .bad)):CE X xp W x (λρ=>(fs ρ).bind λxs=>cI xs .tuple):=h
theorem Hx {X:Cx} {xp:XP} {W:WX} {x:Expr} {fs:Sto→Rs (List D)} (h:CF X xp W x (λρ=>(fs ρ).bind λxs=>if xs.length≤LIM then .ok xs else .bad)):CE X xp W x (λρ=>(fs ρ).bind λxs=>cI xs .list):=
 lg h.ce λρ=>by
  rw [Rs.bind_assoc]
  congr 1
  funext xs
  exact (JF xs .list).symm
theorem Aw {Γ:Gs} {k n j:Nat} {y:Str} {m:List D→Rs D} (e:Γ.fs.find? (λp=>p.1==k)=some (j,y,n,m)) (ds:List D):aX Γ k ds=if ds.length=n then m ds else .bad:=by
 unfold aX
 rw [e]
mutual
theorem sE : ∀ (e:E) (c:Ck) (x:Expr) (X:Cx) (xp:XP) (W:WX),At c X xp W→c.e e x=true→S3 X xp W x (sem c.Γ e)
 | .var i,c,x,X,xp,W,A,h=>by
  obtain ⟨n,p,rfl,h⟩:=FP h
  obtain ⟨h1,h2,h3,h4⟩:=A.rA h
  exact mk3 (Nr h1 h2 h3 h4) (λ_=>rfl) (by intro _ _ _ h; cases h)
 | .int i,c,x,X,xp,W,A,h=>by
  obtain ⟨k,p,rfl⟩:=F4 h
  exact mk3 NJ (λ_=>rfl) (by intro _ _ _ h; cases h)
 | .str s,c,x,X,xp,W,A,h=>by
  obtain ⟨k,p,rfl,h1,h2⟩:=Jc h
  exact mk3 (AB h1 h2) (λ_=>rfl) (by intro _ _ _ h; cases h)
 | .bl b,c,x,X,xp,W,A,h=>by
  obtain ⟨k,p,rfl⟩:=Ke h
  exact mk3 ME (λ_=>rfl) (by intro _ _ _ h; cases h)
 | .non,c,x,X,xp,W,A,h=>by
  obtain ⟨k,p,rfl⟩:=Hg h
  exact mk3 OI (λ_=>rfl) (by intro _ _ _ h; cases h)
 | .gl k,c,x,X,xp,W,A,h=>by
  obtain ⟨n,p,rfl,h1,h2⟩:=Mx h
  obtain ⟨g1,g2⟩:=A.gu h1
  cases e:c.Γ.gl.find? (λp=>p.1==k) with
  | none=>rw [e] at h2; cases h2
  | some q =>
   rw [e] at h2
   obtain ⟨j,y,d⟩:=q
   have h2:n=y:=by simpa using h2
   subst h2
   obtain ⟨u,v,m,r,hd,_⟩:=A.gl j n d (List.mem_of_find?_eq_some e)
   refine mk3 (lg (lK (pe_glob g1 m r g2) hd) λρ => ?_) (λ_=>rfl) (by intro _ _ _ h; cases h)
   show glG c.Γ k=_
   unfold glG
   rw [e]
 | .bin o a b,c,x,X,xp,W,A,h=>by
  obtain ⟨y,z,p,rfl,h1,h2⟩:=Gz h
  exact mk3 (DR (Jy o) (D7 o) (sE a c y X xp W A h1).1 (sE b c z X xp W A h2).1) (λ_=>rfl) (by intro _ _ _ h; cases h)
 | .neg a,c,x,X,xp,W,A,h=>by
  obtain ⟨y,p,rfl,h1⟩:=NL h
  exact mk3 (E6 (sE a c y X xp W A h1).1) (λ_=>rfl) (by intro _ _ _ h; cases h)
 | .cmp o a b,c,x,X,xp,W,A,h=>by
  obtain ⟨y,z,p,rfl,hm,h1,h2⟩:=DU h
  have hu:X.A.units+65<cLine:=Nat.lt_of_le_of_lt (Nat.add_le_add_left (by decide) _) A.hu
  have ha:=sL a c y X xp W A h1
  have hb:=sL b c z X xp W A h2
  exact kI (Jw (jY hu o) (om o) ha hb hm) (NY (jY hu o) (om o) ha hb hm) (by intro _ _ _ h; cases h)
 | .ch o1 o2 a b d,c,x,X,xp,W,A,h=>by
  obtain ⟨y,z,u,p,rfl,hm,h1,h2,h3⟩:=F8 h
  have hu:X.A.units+65<cLine:=Nat.lt_of_le_of_lt (Nat.add_le_add_left (by decide) _) A.hu
  have ha:=sL a c y X xp W A h1
  have hb:=sL b c z X xp W A h2
  have hd:=sL d c u X xp W A h3
  exact kI (NP hu ha hb hd hm) (rH (IX hu ha hb hd hm) λρ=>Hn _) (by intro _ _ _ h; cases h)
 | .not a,c,x,X,xp,W,A,h=>by
  obtain ⟨y,p,rfl,h1⟩:=FU h
  exact JB (sE a c y X xp W A h1)
 | .and a b,c,x,X,xp,W,A,h=>by
  obtain ⟨y,z,r,p,rfl,h1,h2⟩:=FR h
  cases r with
  | nil=>exact JL (sE a c y X xp W A h1) (sE b c z X xp W A h2)
  | cons u r=>exact PL (sE a c y X xp W A h1) (sE b c _ X xp W A h2)
 | .or a b,c,x,X,xp,W,A,h=>by
  obtain ⟨y,z,r,p,rfl,h1,h2⟩:=Gh h
  cases r with
  | nil=>exact Kf (sE a c y X xp W A h1) (sE b c z X xp W A h2)
  | cons u r=>exact Jt (sE a c y X xp W A h1) (sE b c _ X xp W A h2)
 | .ife d a b,c,x,X,xp,W,A,h=>by
  obtain ⟨y,z,u,p,rfl,h1,h2,h3⟩:=Hb h
  exact Fl (sE d c y X xp W A h1) (sE a c z X xp W A h2) (sE b c u X xp W A h3)
 | .tup es,c,x,X,xp,W,A,h=>by
  obtain ⟨ys,k,p,rfl,h1⟩:=GF h
  exact mk3 (NM (IG (sEs es c ys X xp W A h1))) (λ_=>rfl) (by intro _ _ _ h; cases h)
 | .lst es,c,x,X,xp,W,A,h=>by
  obtain ⟨ys,p,rfl,h1⟩:=Ia h
  exact mk3 (Hx (wt (sEs es c ys X xp W A h1))) (λ_=>rfl) (by intro _ _ _ h; cases h)
 | .ix a b,c,x,X,xp,W,A,h=>by
  obtain ⟨y,z,p,rfl,h0,h1,h2⟩:=Ht h
  exact mk3 (O5 (sE a c y X xp W A h1).1 (sE b c z X xp W A h2).1 h0) (λ_=>rfl) (by intro _ _ _ h; cases h)
 | .oix ..,c,x,X,xp,W,A,h=>absurd h aa
 | .sl a lo hi,c,x,X,xp,W,A,h=>by
  obtain ⟨y,l,u,q,p,rfl,h1,h2,h3⟩:=Fe h
  exact mk3 (Gm (sE a c y X xp W A h1).1 (sEo lo c l X xp W A h2) (sEo hi c u X xp W A h3)) (λ_=>rfl) (by intro _ _ _ h; cases h)
 | .rev a,c,x,X,xp,W,A,h=>by
  obtain ⟨y,k,p1,p2,p3,p,rfl,h1⟩:=HU h
  exact mk3 (O_ (sE a c y X xp W A h1).1) (λ_=>rfl) (by intro _ _ _ h; cases h)
 | .bi f es,c,x,X,xp,W,A,h=>by
  obtain ⟨q,y,ys,p,rfl,h0,h1,h2⟩:=EI h
  obtain ⟨b1,b2,b3⟩:=A.de h1
  obtain ⟨s1,s2⟩:=Es.any (env:=X.env) (pos:=p) h2
  exact mk3 (Kb (Lv A f h0) (LY f) b1 b3 (OA f) (sEs es c _ X xp W A h2) (EM f) b2 s1 s2) (λ_=>rfl) (by intro _ _ _ h; cases h)
 | .ti f es,c,x,X,xp,W,A,h=>by
  obtain ⟨q,y,ys,p,rfl,h1,h2⟩:=HV h
  obtain ⟨b1,b2,b3⟩:=A.de h1
  obtain ⟨s1,s2⟩:=Es.any (env:=X.env) (pos:=p) h2
  exact mk3 (Pq (GS f) (NO f) b1 b3 (Ph f) (sEs es c _ X xp W A h2) (ON f) b2 s1 s2) (λ_=>rfl) (by intro _ _ _ h; cases h)
 | .len a,c,x,X,xp,W,A,h=>by
  obtain ⟨q,y,p,rfl,h1,h2,h3⟩:=M_ h
  obtain ⟨b1,b2,b3⟩:=A.de h1
  exact mk3 (Hq DS Iq b1 b3 rfl (sL a c y X xp W A h3) (by decide) b2 (bN h2) rfl) (λ_=>rfl) (by intro _ _ _ h; cases h)
 | .mt m a es,c,x,X,xp,W,A,h=>by
  obtain ⟨u,p1,y,ys,p,rfl,h0,h1,h2,h3,h4⟩:=Hc h
  obtain ⟨s1,s2⟩:=Es.any (env:=X.env) (pos:=p) h4
  exact mk3 (LZ m (sE a c u X xp W A h3).1 (sEs es c _ X xp W A h4) h0 (Nm h4 (by show ys.length+1<25; omega)) h1 s1 s2) (λ_=>rfl) (by intro _ _ _ h; cases h)
 | .call k es,c,x,X,xp,W,A,h=>by
  obtain ⟨n,q,ys,p,rfl,h0,h1,h2,h3⟩:=Pm h
  obtain ⟨g1,g2⟩:=A.gu h1
  cases e:c.Γ.fs.find? (λp=>p.1==k) with
  | none=>rw [e] at h2; cases h2
  | some q =>
   rw [e] at h2
   obtain ⟨j,y,ar,m⟩:=q
   have h2:n=y:=by simpa using h2
   subst h2
   have dd:=(A.fs h0 j n ar m (List.mem_of_find?_eq_some e)).1
   have ha:=sEs es c ys X xp W A h3
   cases ys with
   | nil =>
    cases es with
    | nil=>exact mk3 (lg (Hv A.tk A.nore g1 dd g2) λρ=>Aw e []) (λ_=>rfl) (by intro _ _ _ h; cases h)
    | cons _ _=>exact absurd h3 aa
    | rep=>exact (kO h3).elim
   | cons y ys =>
    obtain ⟨s1,s2⟩:=Es.any (env:=X.env) (pos:=p) h3
    refine mk3 (lg (Dv A.tk A.nore g1 dd ha g2 s1 s2) λρ => ?_) (λ_=>rfl) (by intro _ _ _ h; cases h)
    show (bq c.Γ es ρ).bind (λds=>aX c.Γ k ds)=_
    congr 1
    funext ds
    exact Aw e ds
 | .isa a T,c,x,X,xp,W,A,h=>by
  obtain ⟨q,y,p2,p,rfl,h1,h2,h3,h4⟩:=HY h
  obtain ⟨b1,b2,b3⟩:=A.de h1
  obtain ⟨d1,d2,d3⟩:=A.de h2
  exact mk3 (Fy T b1 b3 d1 d3 (sL a c y X xp W A h4) (bN h3)) (λ_=>rfl) (by intro _ _ _ h; cases h)
 | .isa2 ..,c,x,X,xp,W,A,h=>absurd h aa
 | .lc t vs it cond elt,c,x,X,xp,W,A,h=>by
  obtain ⟨y,tg,iter,ifs,scope,p,rfl,h0,h1,h2,h3,h4,h5,h6,h7⟩:=Oy h
  have blk:=blkOk_by h3
  rw [← A.N,← A.sc] at blk
  have hin : ∀ i∈t.slots,i∈(ownOf X.N vs).map (·.2):=λi hi=>by
   rw [d7]
   exact dF (j5.mp h2 i hi)
  have cf:=IP (own:=ownOf X.N vs) (A.cm h0) A.nd (sI it c tg iter X xp W A h4) blk (λs H C cl fp=>(A.blk h0 scope s H C cl fp).fD h5) (λs H C cl fp=>sC cond _ ifs _ xp W0 (A.blk h0 scope s H C cl fp) h6)
   (λs H C cl fp=>(sE elt _ y _ xp W0 (A.blk h0 scope s H C cl fp) h7).1) (gm h1) hin (pos:=p)
  rw [d7] at cf
  exact mk3 cf.ce (λ_=>rfl) (by intro _ _ _ h; cases h)
 | .lenks t vs it cond elt,c,x,X,xp,W,A,h=>by
  obtain ⟨q,y,tg,iter,ifs,scope,p1,p,rfl,hb,h0,h1,h2,h3,h4,h5,h6,h7⟩:=KD h
  obtain ⟨b1,b2,b3⟩:=A.de hb
  have blk:=blkOk_by h3
  rw [← A.N,← A.sc] at blk
  have hin : ∀ i∈t.slots,i∈(ownOf X.N vs).map (·.2):=λi hi=>by
   rw [d7]
   exact dF (j5.mp h2 i hi)
  have cs:=KS (own:=ownOf X.N vs) (A.cm h0) A.nd (sI it c tg iter X xp W A h4) blk (λs H C cl fp=>(A.blk h0 scope s H C cl fp).fD h5) (λs H C cl fp=>sC cond _ ifs _ xp W0 (A.blk h0 scope s H C cl fp) h6)
   (λs H C cl fp=>(sE elt _ y _ xp W0 (A.blk h0 scope s H C cl fp) h7).1) (gm h1) hin (pos:=p1)
  rw [d7] at cs
  exact mk3 (Eu b1 b3 cs rfl rfl) (λ_=>rfl) (by intro _ _ _ h; cases h)
 | .xat ..,c,x,X,xp,W,A,h=>absurd h aa
 | .xisT ..,c,x,X,xp,W,A,h=>absurd h aa
 | .xis ..,c,x,X,xp,W,A,h=>absurd h aa
 | .dic0 ..,c,x,X,xp,W,A,h=>absurd h aa
 | .lenset ..,c,x,X,xp,W,A,h=>absurd h aa
 | .op o es,c,x,X,xp,W,A,h=>by
  obtain ⟨ys,h0,h1⟩:=DJ h
  obtain ⟨fs,h2,h3⟩:=sEl es c ys X xp W A h1
  have k:=lg (G_ (λn q=>⟨(A.de q).1,(A.de q).2.2⟩) A.cm A.hu (λcls f q=>A.fl cls f (dF q)) (λy q=>by
   unfold Ck.ic at q
   rw [ai,aw] at q
   exact ⟨(A.gu q.1).1,(A.gu q.1).2,A.ic y q.2⟩) (λx f q=>⟨A.at_ x f (dF q),λz=>A.ex z x f (dF q)⟩) A.room (λn q=>A.gu q) A.sb h0 h2) (g:=sem c.Γ (.op o es)) λρ=>bF (opR o) (h3 ρ).symm
  rcases (qC h0).1 with hi | hn
  ·exact kI k (jM (IV hi A.hu h0 h2) λσ H Q ⟨ρ,O,R,q⟩=>⟨ρ,O,R,by
    have q:End X.K X.mg W O σ H (λb H'=>Q b H') ((opR o (kQ c.Γ es ρ)).bind asB):=q
    rw [← h3 ρ] at q
    exact q⟩) (qC h0).2
  ·exact mk3 k (hn X.env) (qC h0).2
 | .q q,c,x,X,xp,W,A,h=>by
  obtain ⟨k,k1,k2⟩:=sQ q c x X xp W A (i_q h)
  exact mk3 k.ce (k1 X.env) k2
 | .lZ ..,c,x,X,xp,W,A,h=>absurd h aa
 | .dget ..,c,x,X,xp,W,A,h=>absurd h aa
 | .oget ..,c,x,X,xp,W,A,h=>absurd h aa
 | .mz ..,c,x,X,xp,W,A,h=>absurd h aa
 | .eE ..,c,x,X,xp,W,A,h=>absurd h aa
 | .lzip ..,c,x,X,xp,W,A,h=>absurd h aa
 | .any,c,x,X,xp,W,A,h=>by
  have ce:CE X xp W x (λ_ => .bad):=⟨λpins s σ H Q I ⟨ρ,O,R,q⟩=>q.elim⟩
  have ct:CT X xp W x (λ_ => .bad):=⟨λpins s σ H Q I ⟨ρ,O,R,q⟩=>q.elim⟩
  have cw:CW X xp W x (λ_ => .bad):=⟨λwh pins s σ H Q I ⟨ρ,O,R,q⟩=>q.elim⟩
  exact ⟨ce,ct,λop vs p e=>cw⟩
 | .xnon ..,c,x,X,xp,W,A,h=>absurd h aa
 | .isC ..,c,x,X,xp,W,A,h=>absurd h aa
 | .fs ..,c,x,X,xp,W,A,h=>absurd h aa
 | .nd ..,c,x,X,xp,W,A,h=>absurd h aa
 | .callK ..,c,x,X,xp,W,A,h=>absurd h aa
 | .meth ..,c,x,X,xp,W,A,h=>absurd h aa
 | .make ..,c,x,X,xp,W,A,h=>absurd h aa
theorem sQ : ∀ (q:Q) (c:Ck) (x:Expr) (X:Cx) (xp:XP) (W:WX),At c X xp W→c.q q x=true→CF X xp W x (t8 c.Γ q)∧(∀ (env:Env) (whole:Sem Value),isTrue x env whole=(do let v ← whole; standAt x.pos; holding [v] (truthy v))) ∧ ∀ op vs p,x ≠ .BoolOp op vs p
 | .srt1 ..,c,x,X,xp,W,A,h=>absurd h aa
 | .srt2 ..,c,x,X,xp,W,A,h=>absurd h aa
 | .lc2 t vs it cond t2 us it2 cond2 elt,c,x,X,xp,W,A,h=>by
  obtain ⟨y,tg,iter,ifs,tg2,iter2,ifs2,scope,p1,rfl,h0,h1,h2,h3,h4,h5,h6,h7,g1,g2,g3,g4,g5,g6⟩:=LI h
  have blk:=blkOk_by h3
  rw [← A.N,← A.sc] at blk
  have hin : ∀ i∈t.slots,i∈(ownOf X.N vs).map (·.2):=λi hi=>by
   rw [d7]
   exact dF (j5.mp h2 i hi)
  have hus : ∀ i∈us,i∈(ownOf X.N vs).map (·.2):=λi hi=>by
   rw [d7]
   exact dF (j5.mp g3 i hi)
  have hin2 : ∀ i∈t2.slots,i∈us:=λi hi=>dF (j5.mp g2 i hi)
  have cs:=GC (own:=ownOf X.N vs) (A.cm h0) A.nd (sI it c tg iter X xp W A h4) blk (λs H C cl fp=>(A.blk h0 scope s H C cl fp).fD h5) (λs H C cl fp=>sC cond _ ifs _ xp W0 (A.blk h0 scope s H C cl fp) h6)
   hus (λs H C cl fp=>sI it2 _ tg2 iter2 _ xp W0 (A.blk h0 scope s H C cl fp) g4) (λs H C cl fp=>(A.blk h0 scope s H C cl fp).fD g5) (λs H C cl fp=>sC cond2 _ ifs2 _ xp W0 (A.blk h0 scope s H C cl fp) g6)
   (λs H C cl fp=>(sE elt _ y _ xp W0 (A.blk h0 scope s H C cl fp) h7).1) (gm h1) (λe x=>gm g1 x) hin hin2 (pos:=p1)
  rw [d7] at cs
  exact ⟨cs,λ_ _=>rfl,λ_ _ _ z=>by cases z⟩
 | .srtK ..,c,x,X,xp,W,A,h=>absurd h aa
 | .srtN ..,c,x,X,xp,W,A,h=>absurd h aa
theorem sL : ∀ (e:L) (c:Ck) (x:Expr) (X:Cx) (xp:XP) (W:WX),At c X xp W→c.l e x=true→CL X xp W x (bz c.Γ e)
 | .ov i,c,x,X,xp,W,A,h=>by
  obtain ⟨n,p,rfl,h⟩:=L4 h
  obtain ⟨h1,h2,h3,h4⟩:=A.rA h
  exact MM h1 h2 h3 h4
 | .ex e,c,x,X,xp,W,A,h=>(sE e c x X xp W A h).1.lax
 | .tup ls,c,x,X,xp,W,A,h=>by
  obtain ⟨ys,k,p,rfl,h⟩:=L0 h
  exact OW (sLs ls c ys X xp W A h)
theorem sLs : ∀ (ls:Ls) (c:Ck) (xs:List Expr) (X:Cx) (xp:XP) (W:WX),At c X xp W→c.ls ls xs=true→CAL X xp W xs (iP c.Γ ls)
 | .nil,c,xs,X,xp,W,A,h=>by
  obtain rfl:=KP h
  exact Mq
 | .cons l ls,c,xs,X,xp,W,A,h=>by
  obtain ⟨y,ys,rfl,h0,h1,h2⟩:=N1 h
  exact Mh (sL l c y X xp W A h1) (sLs ls c ys X xp W A h2) (bN h0)
theorem sEs : ∀ (es:Es) (c:Ck) (xs:List Expr) (X:Cx) (xp:XP) (W:WX),At c X xp W→c.es es xs=true→CA X xp W xs (bq c.Γ es)
 | .nil,c,xs,X,xp,W,A,h=>by
  obtain rfl:=BO h
  exact Nt
 | .cons e es,c,xs,X,xp,W,A,h=>by
  obtain ⟨y,ys,rfl,h0,h1,h2⟩:=wH h
  exact J7 (sE e c y X xp W A h1).1 (sEs es c ys X xp W A h2) (bN h0)
 | .rep a y z es,c,xs,X,xp,W,A,h=>by
  exact (kO h).elim
theorem sEl : ∀ (es:Es) (c:Ck) (xs:List Expr) (X:Cx) (xp:XP) (W:WX),At c X xp W→c.es es xs=true → ∃ fs:List (Sto→Rs D),CEs X xp W xs fs ∧ ∀ ρ,fs.map (λf=>f ρ)=kQ c.Γ es ρ
 | .nil,c,xs,X,xp,W,A,h=>by
  obtain rfl:=BO h
  exact ⟨[],.nil,λρ=>rfl⟩
 | .cons e es,c,xs,X,xp,W,A,h=>by
  obtain ⟨y,ys,rfl,h0,h1,h2⟩:=wH h
  obtain ⟨fs,g1,g2⟩:=sEl es c ys X xp W A h2
  exact ⟨sem c.Γ e::fs,.cons (λzs=>bN h0) (sE e c y X xp W A h1).1 g1,λρ=>by rw [aI,g2 ρ]; rfl⟩
 | .rep a y z es,c,xs,X,xp,W,A,h=>by
  exact (kO h).elim
theorem sF : ∀ (es:Es) (c:Ck) (xs:List Expr) (X:Cx) (xp:XP) (W:WX),At c X xp W→c.fs es xs=true→FJ X xp W xs (uk c.Γ es)
 | .nil,c,xs,X,xp,W,A,h=>by
  obtain rfl:=Nl h
  exact EG
 | .cons e es,c,xs,X,xp,W,A,h=>by
  rcases Oq h with ⟨y,p,ys,rfl,h1,h2⟩ | ⟨k,j,p,ys,he,rfl,h1,h2,h3⟩
  ·exact Lz (sE e c y X xp W A h1).1 (sF es c ys X xp W A h2)
  ·have r:=NQ (AB (X:=X) (xp:=xp) (W:=W) (x:=k) (j:=j) (pos:=p) h1 h2) (sF es c ys X xp W A h3)
   rw [he]
   exact r
 | .rep a y z es,c,xs,X,xp,W,A,h=>by
  exact absurd h aa
theorem sEr : ∀ (es:Es) (c:Ck) (xs:List Expr) (X:Cx) (xp:XP) (W:WX),At c X xp W→c.er es xs=true→CA1 X xp W xs (bq c.Γ es)
 | .nil,c,xs,X,xp,W,A,h=>by
  obtain rfl:=HL h
  exact Lu
 | .cons e es,c,xs,X,xp,W,A,h=>by
  obtain ⟨y,ys,rfl,h0,h1,h2⟩:=D_ h
  exact F_ (PE.one (sE e c y X xp W A h1).1) (sEr es c ys X xp W A h2) (bN h0)
 | .rep ..,c,xs,X,xp,W,A,h=>absurd h aa
theorem sEo : ∀ (e:Eo) (c:Ck) (x:Option Expr) (X:Cx) (xp:XP) (W:WX),At c X xp W→c.o e x=true→CO X xp W x (iB c.Γ e)
 | .none,c,x,X,xp,W,A,h=>by
  obtain rfl:=Ng h
  exact LG
 | .some e,c,x,X,xp,W,A,h=>by
  obtain ⟨y,rfl,h⟩:=Dt h
  exact KG (sE e c y X xp W A h).1
theorem sC : ∀ (e:Eo) (c:Ck) (xs:List Expr) (X:Cx) (xp:XP) (W:WX),At c X xp W→c.cs e xs=true→CTs X xp W xs (aZ c.Γ e)
 | .none,c,xs,X,xp,W,A,h=>by
  obtain rfl:=FE h
  exact JA
 | .some e,c,xs,X,xp,W,A,h=>by
  obtain ⟨y,rfl,h⟩:=Mb h
  exact NG (sE e c y X xp W A h).2.1
theorem sI : ∀ (it:I) (c:Ck) (tg x:Expr) (X:Cx) (xp:XP) (W:WX),At c X xp W→c.i tg it x=true→CI X xp W tg x (semi c.Γ it)
 | .val e,c,tg,x,X,xp,W,A,h=>LH (sE e c x X xp W A h).1
 | .r1 a,c,tg,x,X,xp,W,A,h=>by
  obtain ⟨q,y,p,rfl,h1,h2,h3⟩:=Ft h
  obtain ⟨b1,b2,b3⟩:=A.de h1
  exact N_ b1 b3 (sE a c y X xp W A h3).1 (bN h2)
 | .r2 a b,c,tg,x,X,xp,W,A,h=>by
  obtain ⟨q,y,z,p,rfl,h1,h2,h3,h4,h5⟩:=OZ h
  obtain ⟨b1,b2,b3⟩:=A.de h1
  exact EH b1 b3 (sE a c y X xp W A h4).1 (sE b c z X xp W A h5).1 (bN h3) (bN h2)
 | .r3 a b d,c,tg,x,X,xp,W,A,h=>by
  obtain ⟨q,y,z,v,p,rfl,h1,h2,h3,h4,h5,h6,h7⟩:=OV h
  obtain ⟨b1,b2,b3⟩:=A.de h1
  exact Lb b1 b3 (sE a c y X xp W A h5).1 (sE b c z X xp W A h6).1 (sE d c v X xp W A h7).1 (bN h4) (bN h3) (bN h2)
 | .enum a,c,tg,x,X,xp,W,A,h=>by
  obtain ⟨q,y,p,rfl,h1,h0,h2,h3⟩:=JE h
  obtain ⟨b1,b2,b3⟩:=A.de h1
  cases tg <;> first | cases h0; done | skip
  exact Jg b1 b3 (sE a c y X xp W A h3).1 (bN h2)
 | .zipL a b,c,tg,x,X,xp,W,A,h=>by
  obtain ⟨q,y,z,p,rfl,h1,h0,h2,h3,h4,h5⟩:=Ka h
  obtain ⟨b1,b2,b3⟩:=A.de h1
  cases tg <;> first | cases h0; done | skip
  exact JD b1 b3 (sE a c y X xp W A h4).1 (sE b c z X xp W A h5).1 (bN h3) (bN h2)
 | .zipS a b,c,tg,x,X,xp,W,A,h=>by
  obtain ⟨q,y,z,p,kw,rfl,hk,h1,h0,h2,h3,h4,h5⟩:=Kh h
  obtain ⟨b1,b2,b3⟩:=A.de h1
  cases tg <;> first | cases h0; done | skip
  rcases hk with rfl | ⟨j,p1,p2,rfl⟩
  ·exact HG b1 b3 (sE a c y X xp W A h4).1 (sE b c z X xp W A h5).1 (bN h3) (bN h2)
  ·exact Lc b1 b3 (sE a c y X xp W A h4).1 (sE b c z X xp W A h5).1 (bN h3) (bN h2)
end
end Pf

set_option maxRecDepth 100000
namespace Pf
open PySem PySem.Spec PyProof.Rows L2
inductive SOp where
 | augA
 | augS
 | ext
 | ins0
 | setL
 | nnew
 | nput
noncomputable def nM:Expr→Bool
 | .ListComp .. => false
 | .SetComp .. => false
 | .DictComp .. => false
 | _=>true
theorem vK {e:Expr} {l:Nat} {env:Env} (h:nM e=true) (o:Option Expr):swapsWith e o l env=pure false:=by
 cases e <;> first | rfl | cases h
noncomputable def QE (vis tgt:Nat→Str→Bool) (o:SOp) (i:Nat) (x:Stmt):Option (List Expr):=match o with
 | .augA=>none
 | .augS=>none
 | .ext=>none
 | .ins0=>none
 | .setL=>none
 | .nnew=>none
 | .nput=>none
noncomputable def Jv (o:SOp) (i:Nat) (fs:List (Sto→Rs D)):Sto→Out:=match o with
 | .augA=>(match fs with | [f]=>Br (λa b=>a+b) i f | _=>λ_ => .bad)
 | .augS=>(match fs with | [f]=>Br (λa b=>a-b) i f | _=>λ_ => .bad)
 | .ext=>(match fs with | [f]=>JK i f | _=>λ_ => .bad)
 | .ins0=>(match fs with | [f]=>Pz i f | _=>λ_ => .bad)
 | .setL=>(match fs with | [f,g]=>HJ i f g | _=>λ_ => .bad)
 | .nnew=>(match fs with | []=>λρ => .nx (ρ.set i (some (.st (.on [])))) | _=>λ_ => .bad)
 | .nput=>(match fs with | [f,g]=>IW i f g | _=>λ_ => .bad)
end Pf

set_option maxRecDepth 100000
namespace Pf
open PySem PySem.Spec PyProof.Rows L2
noncomputable abbrev Bw:=Int × Int × D × List D
noncomputable def bwD (b:Bw):D:=.list [.int b.1,.int b.2.1,b.2.2.1,.list b.2.2.2]
noncomputable def Me (vs:List D):D→List D
 | .none=>vs
 | v=>vs++[v]
noncomputable def Gk (e:Int) (c v:D):List Bw→Rs (Option (List Bw))
 | (s1,e1,c1,vs)::r=>(i3 .ne c1 c).bind λk=>match k with
  | .bool true => .ok none
  | .bool false => .ok (some ((s1,(if e>e1 then e else e1),c1,Me vs v)::r))
  | _ => .bad
 | [] => .bad
noncomputable def Kw (s e:Int) (c:D):List Bw→List Bw
 | []=>[(s,e,c,[])]
 | (s1,e1,c1,vs)::r=>if e1<s then (s,e,c,[])::(s1,e1,c1,vs)::r else (s1,e1,c1,vs)::r
noncomputable def wJ (caps:List D):List D→List Bw→Rs (Option (List Bw))
 | [],rs => .ok (some rs)
 | row::rows,rs=>match row with
  | .tuple [.int s,.int i]=>match atI caps i with
   | some (.tuple [_,_,.int e,c,_,v])=>(Gk e c v (Kw s e c rs)).bind λo=>match o with
    | some rs'=>wJ caps rows rs'
    | none => .ok none
   | _ => .bad
  | _ => .bad
section
variable {K:PySem.W.Frag} {M H H':Hp} {us:List V} {bs:List Bw} {T:List Addr}
end
section
variable {X:Cx} {i:Nat} {x:Str} {p1 p2 p3 p4:Pos} {k:Nat}
end
section
variable {K:PySem.W.Frag} {σ:L2.St} {H:Hp} {Q:VK} {te:TE} {a q:Addr} {us xs:List V} {x w:V} {z:Int} {i:Nat}
end
section
variable {X:Cx} {bn sn an cn pn rn:Str} {ib is ia ic ip ir:Nat}
variable {q1 q2 q3 q4 q5 q6 q7 q8 q9 q10 q11 q12 q13 q14 q15 q16 q17 q18 q19 q20 q21 q22 q23 q24 q25 q26 q27 q28 q29 q30 q31 q32 q33 q34 q35 q36 q37 q38 q39 q40 q41 q42 q43 q44 q45 q46 q47 q48 q49 q50 q51 q52 q53 q54 q55 q56 q57 q58 q59 q60 q61 q62 q63 q64 q65 q66 q67 q68 q69 q70 q71 q72 q73 q74 q75 q76 q77 q78 q79 q80 q81 q82 q83 q84 q85 q86 q87 q88 q89 q90:Pos} {k0 k1 k2 k3 k4 k5 k6 k7 k8 k9 k10 k11 k12 k13 k14 k15 k16 k17 k18 k19 k20:Nat}
end
section
variable {K:PySem.W.Frag} {M H0 H:Hp} {a P:Addr} {ib ip is ic n c1 c2:Nat} {rs:List Bw} {σ:L2.St} {E:Ends} {e s:Int} {c v:D} {cv vv:V}
end
section
variable {K:PySem.W.Frag} {M H0 H H':Hp} {a P:Addr} {ib ip is ia ic n c1 c2:Nat} {rs:List Bw} {σ:L2.St} {E:Ends} {e s:Int} {c v:D} {cv vv:V}
end
noncomputable def Lf (ib is ia ic ip ir:Nat) (ρ:Sto):Out:=match ρ[ir]?,ρ[ip]? with
 | some (some (.pd (.list rows))),some (some (.pd (.list caps)))=>if ib<ρ.length∧is<ρ.length∧ia<ρ.length∧ic<ρ.length∧rows.length≤LIM then (match wJ caps rows [] with
  | .ok (some rs) => .rt (.list (rs.reverse.map bwD))
  | .ok none => .rt .none
  | _ => .bad) else .bad
 | _,_ => .bad
section
variable {K:PySem.W.Frag} {mg:Str→Option Value} {xp:XP} {W:WX} {B:List Addr} {ib is ia ic ip ir:Nat}
end
end Pf

set_option maxRecDepth 100000
namespace Pf
open PySem PySem.Spec PyProof.Rows L2
noncomputable def mNm (n:Str):Expr→Bool
 | .Name m _=>decide (m=n)
 | _=>false
noncomputable def lL (n:Str):Expr→Bool
 | .Subscript e (.UnaryOp .USub (.Constant (.int z) _ _) _) _=>mNm n e&&decide (z=1)
 | _=>false
noncomputable def eF (g:Expr→Bool) (k:Int):Expr→Bool
 | .Subscript e (.Constant (.int z) _ _) _=>g e&&decide (z=k)
 | _=>false
noncomputable def mT1 (bn sn:Str):Expr→Bool
 | .BoolOp .Or [.Compare b [.Eq] [.List [] _] _,.Compare s [.Gt] [l] _] _=>mNm bn b&&mNm sn s&&eF (lL bn) 1 l
 | _=>false
noncomputable def mA1 (bn sn cn:Str):Stmt→Bool
 | .Expr (.Call (.Attribute b ap q2) [.List [s,x,y,.List [] _] _] [] q14) _=>decide (ap=("append" : Str))&&mNm bn b&&mNm sn s&&eF (mNm cn) 2 x&&eF (mNm cn) 3 y&&(q2.endLine==q14.line)
 | _=>false
noncomputable def mT2 (bn cn:Str):Expr→Bool
 | .Compare x [.NotEq] [y] _=>eF (lL bn) 2 x&&eF (mNm cn) 3 y
 | _=>false
noncomputable def mA2 (bn cn:Str):Stmt→Bool
 | .Assign [x] (.Call (.Name m _) [y,z] [] _) _=>decide (m=("max" : Str))&&eF (lL bn) 1 x&&eF (lL bn) 1 y&&eF (mNm cn) 2 z
 | _=>false
noncomputable def mT3 (cn:Str):Expr→Bool
 | .Compare x [.IsNot] [.Constant .none _ _] _=>eF (mNm cn) 5 x
 | _=>false
noncomputable def mA3 (bn cn:Str):Stmt→Bool
 | .Expr (.Call (.Attribute b ap q2) [x] [] q14) _=>decide (ap=("append" : Str))&&eF (lL bn) 3 b&&eF (mNm cn) 5 x&&(q2.endLine==q14.line)
 | _=>false
section
variable {X:Cx} {bn sn an cn pn rn:Str} {ib is ia ic ip ir:Nat} {st:Stmt} {e:Expr}
end
noncomputable def Dy:Stmt→Bool
 | .Return (some (.Constant .none _ _)) _=>true
 | _=>false
noncomputable def mIf (t:Expr→Bool) (g:Stmt→Bool):Stmt→Bool
 | .If e [s] [] _=>t e&&g s
 | _=>false
noncomputable def Jd (bn sn cn:Str):List Stmt→Bool
 | [s2,s3,s4,s5]=>mIf (mT1 bn sn) (mA1 bn sn cn) s2&&mIf (mT2 bn cn) Dy s3&&mA2 bn cn s4&&mIf (mT3 cn) (mA3 bn cn) s5
 | _=>false
end Pf

set_option maxRecDepth 100000
namespace Pf
open PySem PySem.Spec PyProof.Rows L2
section
variable {X:Cx} {pins:List (Addr × Obj)} {σ:L2.St} {H:Hp} {s:Shared} {a:Addr} {xs:List (NestedKey × Addr × Value)} {A:Around} {E:Value→Shared→Prop}
end
section
variable {X:Cx}
end
noncomputable def dnL (t:Tg) (cond:Sto→Rs Bool) (fk fv:Sto→Rs D) (ρ0:Sto):List D→List (D × D)→Rs (List (D × D))
 | [],acc => .ok acc
 | d::ds,acc=>(bx t d ρ0).bind λρ1=>(bo (cond ρ1)).bind λb =>
  if b=true then (bo (fk ρ1)).bind λk=>(bo (fv ρ1)).bind λy=>match oG k with
   | some nk=>dnL t cond fk fv ρ0 ds (putN acc k nk y)
   | none => .bad
  else dnL t cond fk fv ρ0 ds acc
noncomputable def dnF (t:Tg) (vs:List Nat) (items:Sto→Rs (List D)) (cond:Sto→Rs Bool) (fk fv:Sto→Rs D):Sto→Rs (List (D × D)):=λρ=>(items ρ).bind λds=>if ds.length≤LIM then bo (dnL t cond fk fv (aJ ρ vs) ds []) else .bad
section
variable {t:Tg} {cond:Sto→Rs Bool} {fk fv:Sto→Rs D} {ρ0:Sto} {vs:List Nat} {items:Sto→Rs (List D)}
variable {w:World} {K:PySem.W.Frag} {mg:Str→Option Value} {xp:XP} {W:WX} {σ:L2.St} {H:Hp} {Q:VK}
end
end Pf

set_option maxRecDepth 100000
namespace Pf
open PySem PySem.Spec PyProof.Rows L2
noncomputable def Ei (Γ:Gs) (g:Nat):Option (List (Str × Str)):=(Γ.gl.find? (λp=>p.1==g)).bind λp=>tabOf p.2.2
noncomputable def Ck.qV (c:Ck) (i:Nat) (x:Str):Bool:=decide (c.N[i]? = some x)&&decide (c.sc.names.lookup x=some .local) && !(x==("__debug__" : Str))
noncomputable def Ck.DN (c:Ck) (i j k:Nat) (sw:Bool) (tx sg cd ty m a1 a2:Str):Bool:=
 c.qV i tx&&c.qV j sg&&c.qV k cd&&decide (ty=tx)&&decide (m=("replace" : Str))&&decide ((a1,a2)=if sw then (cd,sg) else (sg,cd))
noncomputable def Ck.glN (c:Ck) (g:Nat) (x:Str):Bool:=c.glo x&&(match c.Γ.gl.find? (λp=>p.1==g) with | some (_,y,_)=>decide (x=y) | none=>false)
noncomputable def Ck.QF (c:Ck) (rv:Bool) (g:Nat):Expr→Bool
 | .Name x _ => !rv&&c.glN g x
 | .Subscript (.Name x _) (.Slice none none (some (.UnaryOp .USub (.Constant (.int 1) _ _) _)) _) _=>rv&&c.glN g x
 | _=>false
noncomputable def wI (Γ:Gs):Es→List (Sto→Rs D)
 | .nil=>[]
 | .cons e es=>sem Γ e::wI Γ es
 | .rep _ _ _ _=>[]
mutual
inductive S where
 | asg (t:Tg) (e:E)
 | own (i:Nat) (es:Es)
 | ownLc (i:Nat) (t:Tg) (vs:List Nat) (it:I) (cond:Eo) (elt:E)
 | ownAdd (i:Nat) (a b:E)
 | app (i:Nat) (e:E)
 | par (is:List Nat) (es:Es)
 | exp (e:E)
 | star (is:List Nat) (j:Nat) (e:E)
 | ret (e:E)
 | retN
 | pass
 | brk
 | cont
 | ife (c:E) (a b:Ss)
 | for (t:Tg) (it:I) (b:Ss)
 | whl (n:Nat) (c:E) (b:Ss)
 | rai (x f:Str) (e:E)
 | try (i:Nat) (y:Str) (a b:Ss)
 | tryM (a:Ss) (hs:Hs)
 | rpt (i j k:Nat) (sw rv:Bool) (g:Nat)
 | ownF (i:Nat) (e:E)
 | parF (i j:Nat) (a b:E)
 | clr (i:Nat)
 | rptL (i j k:Nat) (sw:Bool) (rows:List (Str × Str))
 | odn (i:Nat)
 | dput (i:Nat) (k v:E)
 | sop (o:SOp) (i:Nat) (es:Es)
 | setDc (i:Nat) (t:Tg) (vs:List Nat) (it:I) (cond:Eo) (fk fv:E)
 | setDn (i:Nat) (t:Tg) (vs:List Nat) (it:I) (cond:Eo) (fk fv:E)
 | ownLc2 (i:Nat) (t:Tg) (vs:List Nat) (it:I) (cond:Eo) (t2:Tg) (us:List Nat) (it2:I) (cond2:Eo) (elt:E)
 | forO (t:Tg) (i:Nat) (b:Ss)
 | retO (i:Nat)
 | ownP (i j k:Nat) (e:E) (es:Es)
 | retP (i:Nat) (e:E)
 | ifZ (i:Nat) (c:E) (a b:Ss)
 | any
inductive Ss where
 | nil
 | cons (s:S) (ss:Ss)
 | frz (i:Nat) (ss:Ss)
 | tryX (i j:Nat) (y:Str) (a r0 r1:Ss)
 | mkG (cls f g:Str) (c:Nat) (q:Q)
 | blk (ib is ia ic ip ir:Nat)
inductive Hs where
 | nil
 | cons (i:Nat) (y:Str) (b:Ss) (r:Hs)
end
noncomputable def NB (cls f g:Str) (c:Nat) (r:Rs (List D)) (ρ:Sto):Out:=.ofR r ρ λds=>if sO ρ 0=true∧c<ρ.length∧ds.length≤LIM ∧ ¬ f=g then (match AR [] ds with
 | some gs => .rt (JG cls [(f,.list ds),(g,.dict (gs.map λp=>(.str p.1,.list p.2)))])
 | none => .bad) else .bad
mutual
noncomputable def exe (Γ:Gs):S→Sto→Out
 | .asg t e,ρ => .ofR (sem Γ e ρ) ρ λd=>bL t d ρ
 | .own i es,ρ => .ofR (bq Γ es ρ) ρ λds=>if ds.length≤LIM then .nx (ρ.set i (some (.own ds))) else .bad
 | .ownLc i t vs it cond elt,ρ => .ofR (lcF t vs (semi Γ it) (aZ Γ cond) (sem Γ elt) ρ) ρ λds => .nx (ρ.set i (some (.own ds)))
 | .ownAdd i a b,ρ => .ofR ((sem Γ a ρ).bind λx=>(sem Γ b ρ).bind λy=>qF x y) ρ λds => .nx (ρ.set i (some (.own ds)))
 | .app i e,ρ=>apF i (sem Γ e) ρ
 | .par is es,ρ => .ofR (bq Γ es ρ) ρ λds=>gq is ds ρ
 | .star is j e,ρ => .ofR (sem Γ e ρ) ρ λd=>AD is j d ρ
 | .exp e,ρ => .ofR (sem Γ e ρ) ρ λ_ => .nx ρ
 | .ret e,ρ => .ofR (sem Γ e ρ) ρ λd => .rt d
 | .retN,_ => .rt .none
 | .pass,ρ => .nx ρ
 | .brk,ρ => .bk ρ
 | .cont,ρ => .ct ρ
 | .ife c a b,ρ => .ofR ((sem Γ c ρ).bind asB) ρ λk=>if k=true then ao Γ a ρ else ao Γ b ρ
 | .for t it b,ρ=>sy t (semi Γ it) (ao Γ b) ρ
 | .whl n c b,ρ=>whL (λρ=>(sem Γ c ρ).bind asB) (ao Γ b) n ρ
 | .rai x f e,ρ => .ofR (sem Γ e ρ) ρ λd => .ex ⟨x,f,d⟩ ρ
 | .try i y a b,ρ=>A2 (λx=>Γ.sb x y) Γ.at_ i (ao Γ a) (ao Γ b) ρ
 | .tryM a hs,ρ=>Ad Γ.at_ (fE Γ hs) (ao Γ a) ρ
 | .rpt i j k sw rv g,ρ=>match Ei Γ g with
  | some rows=>zQ i j k sw (if rv then rows.reverse else rows) ρ
  | none => .bad
 | .ownF i e,ρ => .ofR ((sem Γ e ρ).bind asL) ρ λds => .nx (ρ.set i (some (.own ds)))
 | .parF i j a b,ρ=>FO i j (λρ=>(sem Γ a ρ).bind asL) (λρ=>(sem Γ b ρ).bind asL) ρ
 | .clr i,ρ=>I0 i ρ
 | .odn i,ρ => .nx (ρ.set i (some (.od [])))
 | .dput i k v,ρ=>Ga i (sem Γ k) (sem Γ v) ρ
 | .sop o i es,ρ=>Jv o i (wI Γ es) ρ
 | .setDc i t vs it cond fk fv,ρ => .ofR (dcF t vs (semi Γ it) (aZ Γ cond) (sem Γ fk) (sem Γ fv) ρ) ρ λks => .nx (ρ.set i (some (.pd (.dict ks))))
 | .setDn i t vs it cond fk fv,ρ => .ofR (dnF t vs (semi Γ it) (aZ Γ cond) (sem Γ fk) (sem Γ fv) ρ) ρ λks => .nx (ρ.set i (some (.st (.on ks))))
 | .ownLc2 i t vs it cond t2 us it2 cond2 elt,ρ => .ofR (iD t vs (semi Γ it) (aZ Γ cond) (semi Γ it2) us t2 (aZ Γ cond2) (sem Γ elt) ρ) ρ λds => .nx (ρ.set i (some (.own ds)))
 | .rptL i j k sw rows,ρ=>zQ i j k sw rows ρ
 | .forO t i b,ρ=>IA t i (ao Γ b) ρ
 | .retO i,ρ => .ofR (ownAt ρ i) ρ λxs=>if xs.length≤LIM then .rt (.list xs) else .bad
 | .ownP i j k e es,ρ=>Pb i j (λρ=>(sem Γ (.call k (.cons e es)) ρ).bind asP) ρ
 | .retP i e,ρ=>MG i (sem Γ e) ρ
 | .ifZ i c a b,ρ=>gG i (λρ=>(sem Γ c ρ).bind asB) (ao Γ a) (ao Γ b) ρ
 | .any,_ => .bad
noncomputable def ao (Γ:Gs):Ss→Sto→Out
 | .nil,ρ => .nx ρ
 | .cons s ss,ρ=>(exe Γ s ρ).seq (ao Γ ss)
 | .frz i ss,ρ=>ao Γ ss (frz i ρ)
 | .tryX i j y a r0 r1,ρ=>vj (λx=>Γ.sb x y) Γ.at_ i j (ao Γ a) (ao Γ r0) (ao Γ r1) ρ
 | .mkG cls f g c q,ρ=>NB cls f g c (t8 Γ q ρ) ρ
 | .blk ib is ia ic ip ir,ρ=>Lf ib is ia ic ip ir ρ
noncomputable def fE (Γ:Gs):Hs→List Cl
 | .nil=>[]
 | .cons i y b r=>⟨λx=>Γ.sb x y,i,ao Γ b⟩::fE Γ r
end
noncomputable def rB (tg e:Expr):Bool:=nM e||(match tg with
 | .Tuple .. => true
 | _=>false)
noncomputable def kR (c:Ck) (tg e:Expr):Bool:=rB tg e||(match tg with
 | .Name n _=>decide (c.sc.names.lookup n=some .cell)
 | _=>false)
noncomputable def zA:Expr→Bool
 | .Tuple .. => false
 | .List .. => false
 | _=>true
noncomputable def sW (tg e:Expr):Bool:=zA tg||zA e||(match tg,e with
 | .Tuple ts _ _,.Tuple vs _ _=>vs.all (foldedForSure 8) || !(ts.length==2||ts.length==3)
 | _,_=>false)
noncomputable def jG (c:Ck) (y:Str) (py pos:Pos) (scope:Scope):Bool:=(match c.sc.kind with | .function=>true | _=>false)&&decide (c.sc.names.lookup y=some .local)&&(py.line==pos.line) && !(scope.names.any λ(n,k)=>n==y&&(k == .local||k == .cell))
noncomputable def qP (c:Ck):Expr→Bool
 | .Tuple ts _ _=>ts.any λt=>match t with
  | .Name n _ => !decide (c.sc.names.lookup n=some .local)
  | _=>false
 | _=>false
noncomputable def lG (c:Ck) (tg e:Expr):Bool:=sW tg e||qP c tg
noncomputable def o8:Expr→Bool
 | .Starred .. => false
 | _=>true
noncomputable def rV (c:Ck) (ts vs:List Expr):Bool:=decide (vs.length=ts.length)&&(match c.sc.kind with | .function=>true | _=>false)&&vs.all o8 && !(vs.all (foldedForSure 8)) && !(vs.all (constantsAlone 8))&&ts.all (λt=>match t with | .Name _ p=>p.line==((ts.head?.map (·.pos.line)).getD 0) | _=>false)
noncomputable def Ck.MO (c:Ck):List Nat→Nat→List Expr→Bool
 | [],j,[.Starred (.Name x _) _]=>c.tgt j x
 | i::is,j,.Name x _::es=>c.tgt i x&&c.MO is j es
 | _,_,_=>false
noncomputable def Ck.locs (c:Ck):List Nat→List Expr→Bool
 | [i,j],[.Name x p,.Name y q]=>decide (c.N[i]? = some x)&&decide (c.N[j]? = some y)&&decide (i≠j)&&decide (c.sc.names.lookup x=some .local)&&decide (c.sc.names.lookup y=some .local)
 | [i,j,k],[.Name x p,.Name y q,.Name z r]=>decide (c.N[i]? = some x)&&decide (c.N[j]? = some y)&&decide (c.N[k]? = some z)&&decide (i≠j)&&decide (i≠k)&&decide (j≠k) &&
  decide (c.sc.names.lookup x=some .local)&&decide (c.sc.names.lookup y=some .local)&&decide (c.sc.names.lookup z=some .local)
 | _,_=>false
noncomputable def Ck.bks (c:Ck) (ib is ia ic ip ir:Nat):List Stmt→Bool
 | [.Assign [.Name bn _] (.List [] _) _,.For (.Tuple [.Name sn _,.Name an _] _ _) (.Name rn _) (.Assign [.Name cn _] (.Subscript (.Name pn _) (.Name an' _) _) _::ss) [] _,.Return (some (.Name bn' _)) _] =>
  c.cm&&decide (bn'=bn)&&decide (an'=an)&&decide ([ib,is,ia,ic,ip,ir].Nodup)&&c.vis ib bn&&c.tgt ib bn&&c.vis is sn&&c.tgt is sn&&c.vis ia an&&c.tgt ia an&&c.vis ic cn&&c.tgt ic cn&&c.vis ip pn&&c.vis ir rn&&c.blt ("max" : Str)&&Jd bn sn cn ss
 | _=>false
mutual
noncomputable def Ck.s (c:Ck):S→Stmt→Bool
 | .asg t e,w0=>(match w0 with
  | .Assign [tg] x _=>kR c tg x&&lG c tg x&&c.tg t tg&&c.e e x
  | _=>false)
 | .own i es,w0=>(match w0 with
  | .Assign [.Name x _] (.List xs _) _=>c.tgt i x&&c.es es xs
  | _=>false)
 | .ownLc i t vs it cond elt,w0=>(match w0 with
  | .Assign [.Name n q] (.ListComp y [⟨tg,iter,ifs,0⟩] scope p) _=>decide (c.N[i]? = some n)&&jG c n q p scope&&c.cm&&dA iter&&d_ t vs&&blkC c.N c.sc scope (ownOf c.N vs)&&c.i tg it iter&&(c.blk scope).tg t tg&&(c.blk scope).cs cond ifs&&(c.blk scope).e elt y
  | _=>false)
 | .ownAdd i a b,w0=>(match w0 with
  | .Assign [.Name x _] (.BinOp y .Add z _) _=>c.tgt i x&&c.e a y&&c.e b z
  | _=>false)
 | .app i e,w0=>(match w0 with
  | .Expr (.Call (.Attribute (.Name x _) n p) [y] [] q) _=>decide (n=("append" : Str))&&(p.endLine==q.line)&&noStar y&&c.vis i x&&c.e e y
  | _=>false)
 | .exp e,w0=>(match w0 with
  | .Expr x _=>nM x&&c.e e x
  | _=>false)
 | .star ..,_=>false
 | .par is es,w0=>(match w0 with
  | .Assign [.Tuple ts _ _] (.Tuple vs _ _) _=>c.cm&&rV c ts vs&&c.locs is ts&&c.es es vs
  | _=>false)
 | .ret e,w0=>(match w0 with
  | .Return (some x) _=>c.e e x
  | _=>false)
 | .retN ..,_=>false
 | .pass ..,_=>false
 | .brk ..,_=>false
 | .cont ..,_=>false
 | .ife d a b,w0=>(match w0 with
  | .If x ya yb _=>c.e d x&&c.ss a ya&&c.ss b yb
  | _=>false)
 | .for t it b,w0=>(match w0 with
  | .For tg iter body [] _=>c.cm&&dA iter&&c.i tg it iter&&c.tg t tg&&c.ss b body
  | _=>false)
 | .whl ..,_=>false
 | .rai x f e,w0=>(match w0 with
  | .Raise (some (.Call (.Name n _) [y] [] _)) none _=>decide (x=n)&&decide (c.Γ.at_ x=some f)&&c.cm&&c.glo n&&noStar y&&c.e e y
  | _=>false)
 | .try ..,_=>false
 | .tryM ..,_=>false
 | .rpt ..,_=>false
 | .ownF ..,_=>false
 | .parF ..,_=>false
 | .odn ..,_=>false
 | .sop ..,_=>false
 | .setDc i t vs it cond fk fv,w0=>(match w0 with
  | .Assign [.Name n q] (.DictComp y z [⟨tg,iter,ifs,0⟩] scope p) _=>c.tgt i n&&(jG c n q p scope||decide (c.sc.names.lookup n=some .cell))&&c.cm&&dA iter&&d_ t vs&&blkC c.N c.sc scope (ownOf c.N vs)&&c.i tg it iter&&(c.blk scope).tg t tg&&(c.blk scope).cs cond ifs&&(c.blk scope).e fk y&&(c.blk scope).e fv z
  | _=>false)
 | .setDn ..,_=>false
 | .ownLc2 ..,_=>false
 | .dput ..,_=>false
 | .clr ..,_=>false
 | .forO ..,_=>false
 | .retO ..,_=>false
 | .ownP ..,_=>false
 | .retP ..,_=>false
 | .ifZ _ d a b,w0=>(match w0 with
  | .If x ya yb _=>c.e d x&&c.ss a ya&&c.ss b yb
  | _=>false)
 | .any,_=>true
 | .rptL ..,_=>false
noncomputable def Ck.ss (c:Ck):Ss→List Stmt→Bool
 | .nil,[]=>true
 | .cons s ss,x::xs=>c.s s x&&c.ss ss xs
 | .frz _ ss,xs=>c.ss ss xs
 | .tryX ..,_=>false
 | .blk ..,_=>false
 | _,_=>false
noncomputable def Ck.hs (c:Ck):Hs→List ExceptHandler→Bool
 | .nil,[]=>true
 | .cons ..,_=>false
 | _,_=>false
end
noncomputable def Ck.sT (c:Ck):S→Stmt→Bool
 | .rptL i j k sw rows,.For (.Tuple [.Name sg _,.Name cd _] _ _) (.List es _) [.Assign [.Name tx _] (.Call (.Attribute (.Name ty _) m p6) [.Name a1 _,.Name a2 _] [] p9) _] [] _=>c.cm&&c.DN i j k sw tx sg cd ty m a1 a2&&(p6.endLine==p9.line)&&xu rows es&&decide (rows.length≤1000)
 | _,_=>false
end Pf

set_option maxRecDepth 100000
set_option maxHeartbeats 1000000
namespace Pf
open PySem PySem.Spec PyProof.Rows L2
section
variable {c:Ck} {x:Stmt}
theorem PN {t:Tg} {e:E} (h:c.s (.asg t e) x=true) : ∃ tg y p,x = .Assign [tg] y p∧kR c tg y=true∧lG c tg y=true∧c.tg t tg=true∧c.e e y=true:=by
 refine aV λno => ?_
 obtain ⟨w,e⟩ : ∃ w,x=w:=⟨_,rfl⟩
 rw [e] at h
 cases w <;> first | exact aa h | skip
 rename_i v1 v2 v3
 cases v1 <;> first | exact aa h | skip
 rename_i v4 v5
 cases v5 <;> first | exact aa h | skip
 replace h:(_&&_&&_&&_)=true:=h
 simp only [ai,aw,Bool.not_eq_true',and_assoc] at h
 exact no ⟨_,_,_,e,h⟩
theorem Jp {i:Nat} {es:Es} (h:c.s (.own i es) x=true) : ∃ n q ys p1 p,x = .Assign [.Name n q] (.List ys p1) p∧c.tgt i n=true∧c.es es ys=true:=by
 refine aV λno => ?_
 obtain ⟨w,e⟩ : ∃ w,x=w:=⟨_,rfl⟩
 rw [e] at h
 cases w <;> first | exact aa h | skip
 rename_i v1 v2 v3
 cases v1 <;> first | exact aa h | skip
 rename_i v4 v5
 cases v4 <;> first | exact aa h | skip
 rename_i v6 v7
 cases v5 <;> first | exact aa h | skip
 cases v2 <;> first | exact aa h | skip
 rename_i v8 v9
 replace h:(_&&_)=true:=h
 simp only [ai,aw,Bool.not_eq_true',and_assoc] at h
 exact no ⟨_,_,_,_,_,e,h⟩
theorem GI {i:Nat} {t:Tg} {vs:List Nat} {it:I} {cond:Eo} {elt:E} (h:c.s (.ownLc i t vs it cond elt) x=true) : ∃ n q y tg iter ifs scope p1 p,x = .Assign [.Name n q] (.ListComp y [⟨tg,iter,ifs,0⟩] scope p1) p∧c.N[i]? = some n∧jG c n q p1 scope=true∧c.cm=true∧dA iter=true∧d_ t vs=true∧blkC c.N c.sc scope (ownOf c.N vs)=true∧c.i tg it iter=true∧(c.blk scope).tg t tg=true∧(c.blk scope).cs cond ifs=true∧(c.blk scope).e elt y=true:=by
 refine aV λno => ?_
 obtain ⟨w,e⟩ : ∃ w,x=w:=⟨_,rfl⟩
 rw [e] at h
 cases w <;> first | exact aa h | skip
 rename_i v1 v2 v3
 cases v1 <;> first | exact aa h | skip
 rename_i v4 v5
 cases v4 <;> first | exact aa h | skip
 rename_i v6 v7
 cases v5 <;> first | exact aa h | skip
 cases v2 <;> first | exact aa h | skip
 rename_i v8 v9 v10 v11
 cases v9 <;> first | exact aa h | skip
 rename_i v12 v13
 cases v12 <;> first | exact aa h | skip
 rename_i v14 v15 v16 v17
 cases v17 <;> first | exact aa h | skip
 rename_i v18
 cases v18 <;> first | exact aa h | skip
 cases v13 <;> first | exact aa h | skip
 replace h:(_&&_&&_&&_&&_&&_&&_&&_&&_&&_)=true:=h
 simp only [ai,aw,Bool.not_eq_true',and_assoc] at h
 exact no ⟨_,_,_,_,_,_,_,_,_,e,h⟩
theorem Ik {i:Nat} {t:Tg} {vs:List Nat} {it:I} {cond:Eo} {fk fv:E} (h:c.s (.setDc i t vs it cond fk fv) x=true) : ∃ n q y z tg iter ifs scope p1 p,x = .Assign [.Name n q] (.DictComp y z [⟨tg,iter,ifs,0⟩] scope p1) p∧c.tgt i n=true∧(jG c n q p1 scope||decide (c.sc.names.lookup n=some .cell))=true∧c.cm=true∧dA iter=true∧d_ t vs=true∧blkC c.N c.sc scope (ownOf c.N vs)=true∧c.i tg it iter=true∧(c.blk scope).tg t tg=true∧(c.blk scope).cs cond ifs=true∧(c.blk scope).e fk y=true∧(c.blk scope).e fv z=true:=by
 refine aV λno => ?_
 obtain ⟨w,e⟩ : ∃ w,x=w:=⟨_,rfl⟩
 rw [e] at h
 cases w <;> first | exact aa h | skip
 rename_i v1 v2 v3
 cases v1 <;> first | exact aa h | skip
 rename_i v4 v5
 cases v4 <;> first | exact aa h | skip
 rename_i v6 v7
 cases v5 <;> first | exact aa h | skip
 cases v2 <;> first | exact aa h | skip
 rename_i v8 v9 v10 v11 v12
 cases v10 <;> first | exact aa h | skip
 rename_i v13 v14
 cases v13 <;> first | exact aa h | skip
 rename_i v15 v16 v17 v18
 cases v18 <;> first | exact aa h | skip
 rename_i v19
 cases v19 <;> first | exact aa h | skip
 cases v14 <;> first | exact aa h | skip
 replace h:(_&&_&&_&&_&&_&&_&&_&&_&&_&&_&&_)=true:=h
 simp only [ai,aw,Bool.not_eq_true',and_assoc] at h
 exact no ⟨_,_,_,_,_,_,_,_,_,_,e,h⟩
theorem Lp {i:Nat} {a b:E} (h:c.s (.ownAdd i a b) x=true) : ∃ n q y z p1 p,x = .Assign [.Name n q] (.BinOp y .Add z p1) p∧c.tgt i n=true∧c.e a y=true∧c.e b z=true:=by
 refine aV λno => ?_
 obtain ⟨w,e⟩ : ∃ w,x=w:=⟨_,rfl⟩
 rw [e] at h
 cases w <;> first | exact aa h | skip
 rename_i v1 v2 v3
 cases v1 <;> first | exact aa h | skip
 rename_i v4 v5
 cases v4 <;> first | exact aa h | skip
 rename_i v6 v7
 cases v5 <;> first | exact aa h | skip
 cases v2 <;> first | exact aa h | skip
 rename_i v8 v9 v10 v11
 cases v9 <;> first | exact aa h | skip
 replace h:(_&&_&&_)=true:=h
 simp only [ai,aw,Bool.not_eq_true',and_assoc] at h
 exact no ⟨_,_,_,_,_,_,e,h⟩
theorem IH {i:Nat} {e:E} (h:c.s (.app i e) x=true) : ∃ n q p1 y p2 p,x = .Expr (.Call (.Attribute (.Name n q) "append" p1) [y] [] p2) p∧(p1.endLine==p2.line)=true∧noStar y=true∧c.vis i n=true∧c.e e y=true:=by
 refine aV λno => ?_
 obtain ⟨w,e⟩ : ∃ w,x=w:=⟨_,rfl⟩
 rw [e] at h
 cases w <;> first | exact aa h | skip
 rename_i v1 v2
 cases v1 <;> first | exact aa h | skip
 rename_i v3 v4 v5 v6
 cases v3 <;> first | exact aa h | skip
 rename_i v7 v8 v9
 cases v7 <;> first | exact aa h | skip
 rename_i v10 v11
 cases v4 <;> first | exact aa h | skip
 rename_i v12 v13
 cases v13 <;> first | exact aa h | skip
 cases v5 <;> first | exact aa h | skip
 replace h:(_&&_&&_&&_&&_)=true:=h
 simp only [ai,aw,Bool.not_eq_true',and_assoc] at h
 obtain ⟨e0,h⟩:=h
 subst e0
 exact no ⟨_,_,_,_,_,_,e,h⟩
theorem Mn {is:List Nat} {es:Es} (h:c.s (.par is es) x=true) : ∃ ts k p1 vs k2 p2 p,x = .Assign [.Tuple ts k p1] (.Tuple vs k2 p2) p∧c.cm=true∧rV c ts vs=true∧c.locs is ts=true∧c.es es vs=true:=by
 refine aV λno => ?_
 obtain ⟨w,e⟩ : ∃ w,x=w:=⟨_,rfl⟩
 rw [e] at h
 cases w <;> first | exact aa h | skip
 rename_i v1 v2 v3
 cases v1 <;> first | exact aa h | skip
 rename_i v4 v5
 cases v4 <;> first | exact aa h | skip
 rename_i v6 v7 v8
 cases v5 <;> first | exact aa h | skip
 cases v2 <;> first | exact aa h | skip
 rename_i v9 v10 v11
 replace h:(_&&_&&_&&_)=true:=h
 simp only [ai,aw,Bool.not_eq_true',and_assoc] at h
 exact no ⟨_,_,_,_,_,_,_,e,h⟩
theorem JP {e:E} (h:c.s (.exp e) x=true) : ∃ y p,x = .Expr y p∧nM y=true∧c.e e y=true:=by
 refine aV λno => ?_
 obtain ⟨w,e⟩ : ∃ w,x=w:=⟨_,rfl⟩
 rw [e] at h
 cases w <;> first | exact aa h | skip
 rename_i v1 v2
 replace h:(_&&_)=true:=h
 simp only [ai,aw,Bool.not_eq_true',and_assoc] at h
 exact no ⟨_,_,e,h⟩
theorem Ll {e:E} (h:c.s (.ret e) x=true) : ∃ y p,x = .Return (some y) p∧c.e e y=true:=by
 refine aV λno => ?_
 obtain ⟨w,e⟩ : ∃ w,x=w:=⟨_,rfl⟩
 rw [e] at h
 cases w <;> first | exact aa h | skip
 rename_i v1 v2
 cases v1 <;> first | exact aa h | skip
 rename_i v3
 exact no ⟨_,_,e,h⟩
theorem Iw {d:E} {a b:Ss} (h:c.s (.ife d a b) x=true) : ∃ y ya yb p,x = .If y ya yb p∧c.e d y=true∧c.ss a ya=true∧c.ss b yb=true:=by
 refine aV λno => ?_
 obtain ⟨w,e⟩ : ∃ w,x=w:=⟨_,rfl⟩
 rw [e] at h
 cases w <;> first | exact aa h | skip
 rename_i v1 v2 v3 v4
 replace h:(_&&_&&_)=true:=h
 simp only [ai,aw,Bool.not_eq_true',and_assoc] at h
 exact no ⟨_,_,_,_,e,h⟩
theorem Ic {t:Tg} {it:I} {b:Ss} (h:c.s (.for t it b) x=true) : ∃ tg iter body p,x = .For tg iter body [] p∧c.cm=true∧dA iter=true∧c.i tg it iter=true∧c.tg t tg=true∧c.ss b body=true:=by
 refine aV λno => ?_
 obtain ⟨w,e⟩ : ∃ w,x=w:=⟨_,rfl⟩
 rw [e] at h
 cases w <;> first | exact aa h | skip
 rename_i v1 v2 v3 v4 v5
 cases v4 <;> first | exact aa h | skip
 replace h:(_&&_&&_&&_&&_)=true:=h
 simp only [ai,aw,Bool.not_eq_true',and_assoc] at h
 exact no ⟨_,_,_,_,e,h⟩
theorem LD {i:Nat} {d:E} {a b:Ss} (h:c.s (.ifZ i d a b) x=true) : ∃ y ya yb p,x = .If y ya yb p∧c.e d y=true∧c.ss a ya=true∧c.ss b yb=true:=by
 refine aV λno => ?_
 obtain ⟨w,e⟩ : ∃ w,x=w:=⟨_,rfl⟩
 rw [e] at h
 cases w <;> first | exact aa h | skip
 rename_i v1 v2 v3 v4
 replace h:(_&&_&&_)=true:=h
 simp only [ai,aw,Bool.not_eq_true',and_assoc] at h
 exact no ⟨_,_,_,_,e,h⟩
theorem JR {x0 f:Str} {e:E} (h:c.s (.rai x0 f e) x=true) : ∃ q y p1 p,x = .Raise (some (.Call (.Name x0 q) [y] [] p1)) none p∧c.Γ.at_ x0=some f∧c.cm=true∧c.glo x0=true∧noStar y=true∧c.e e y=true:=by
 refine aV λno => ?_
 obtain ⟨w,e⟩ : ∃ w,x=w:=⟨_,rfl⟩
 rw [e] at h
 cases w <;> first | exact aa h | skip
 rename_i v1 v2 v3
 cases v1 <;> first | exact aa h | skip
 rename_i v4
 cases v4 <;> first | exact aa h | skip
 rename_i v5 v6 v7 v8
 cases v5 <;> first | exact aa h | skip
 rename_i v9 v10
 cases v6 <;> first | exact aa h | skip
 rename_i v11 v12
 cases v12 <;> first | exact aa h | skip
 cases v7 <;> first | exact aa h | skip
 cases v2 <;> first | exact aa h | skip
 replace h:(_&&_&&_&&_&&_&&_)=true:=h
 simp only [ai,aw,Bool.not_eq_true',and_assoc] at h
 obtain ⟨e0,h⟩:=h
 subst e0
 exact no ⟨_,_,_,_,e,h⟩
theorem ES {hds:List ExceptHandler} (h:c.hs .nil hds=true):hds=[]:=by
 cases hds with
 | nil=>rfl
 | cons a b=>exact absurd h aa
end
end Pf

set_option maxRecDepth 100000
namespace Pf
open PySem PySem.Spec PyProof.Rows L2
noncomputable def rT (mg:Str→Option Value) (y:Str) (c:Value):Prop:=mg y=some c∨(mg y=none∧bootBuiltins y=some c∧y ≠ "__name__")
structure AtS (c:Ck) (X:Cx) (xp:XP) (W:WX):Prop extends At c X xp W where
 ps:PassesOwn (model X.prog X.w) X.A X.env X.xe
 fr:c.cm=true→X.stack=X.env::X.outer∧X.env.frame=some X.env.locals
 xn:c.nt=false→xp.x=none
 hnd : ∀ y∈c.Γ.hs,∃ cv,rT X.mg y cv
section
variable {c:Ck} {X:Cx} {xp:XP} {W:WX}
theorem EV {tg e:Expr} {l:Nat} {env:Env} (h:rB tg e=true):swapsWithSole [tg] e l env=pure false:=by
 show swapsWith e (some tg) l env=pure false
 unfold rB at h
 rw [Bool.or_eq_true] at h
 rcases h with h | h
 ·exact vK h _
 ·cases tg <;> first | cases h; done | (cases e <;> rfl)
theorem GJ {e:Expr} {py:Pos} {y:Str} {l:Nat} {env:Env} (h:env.scope.names.lookup y=some .cell):swapsWith e (some (.Name y py)) l env=pure false:=by
 have h1:env.kindOf y=some .cell:=h
 have h2:((some NameKind.cell:Option NameKind)==some .local)=false:=rfl
 cases e <;> first | rfl | (unfold swapsWith; simp only [h1,h2,Bool.and_false,Bool.false_and])
theorem yk {c:Ck} {tg e:Expr} {l:Nat} {env:Env} (hs:env.scope=c.sc) (h:kR c tg e=true):swapsWithSole [tg] e l env=pure false:=by
 unfold kR at h
 rw [Bool.or_eq_true] at h
 rcases h with h | h
 ·exact EV h
 ·cases tg <;> first | cases h; done | skip
  rename_i n q
  have h:decide (c.sc.names.lookup n=some .cell)=true:=h
  show swapsWith e (some (.Name n q)) l env=pure false
  exact GJ (l:=l) (by rw [hs]; exact dF h)
theorem Pe {tg e:Expr} {env:Env} (h:sW tg e=true):swappedStores [tg] e env=pure none:=by
 unfold sW at h
 simp only [Bool.or_eq_true] at h
 rcases h with (h | h) | h
 ·cases tg <;> first | rfl | cases h
 ·cases e <;> first | (cases h; done) | (cases tg <;> rfl)
 ·split at h
  ·rename_i ts k p vs k2 p2
   unfold swappedStores
   by_cases h1:(!(ts.length==2||ts.length==3)||vs.length != ts.length||env.blockKind != .function)=true
   ·simp only [h1,if_true]
   ·have h1':(!(ts.length==2||ts.length==3)||vs.length != ts.length||env.blockKind != .function)=false:=by simpa using h1
    have h2:(ts.length==2||ts.length==3)=true:=by
     cases e:(ts.length==2||ts.length==3) with
     | true=>rfl
     | false=>rw [e] at h1'; simp at h1'
    have hf:vs.all (foldedForSure 8)=true:=by
     rw [h2] at h
     simpa using h
    simp only [h1',hf,cV,if_false,if_true]
    split
    ·rfl
    ·split
     ·rfl
     ·rfl
  ·cases h
theorem yp {α β:Type} {f:α→Option β} : ∀ {l:List α},(∃ a∈l,f a=none)→(l.filterMap f).length<l.length
 | [],⟨a,ha,_⟩=>by cases ha
 | b::l,⟨a,ha,e⟩=>by
  have le:=List.length_filterMap_le f l
  rcases cG.mp ha with rfl | ha
  ·rw [List.filterMap_cons_none e,a8]; omega
  ·have:=yp (f:=f) (l:=l) ⟨a,ha,e⟩
   cases q:f b with
   | none=>rw [List.filterMap_cons_none q,a8]; omega
   | some d=>rw [List.filterMap_cons_some q,a8,a8]; omega
theorem Fw {c:Ck} {tg e:Expr} {env:Env} (hs:env.scope=c.sc) (h:qP c tg=true):swappedStores [tg] e env=pure none:=by
 unfold qP at h
 split at h
 ·rename_i ts k p
  obtain ⟨t,ht,hn⟩:=List.any_eq_true.mp h
  cases e with
  | Tuple vs k2 p2 =>
   unfold swappedStores
   by_cases h1:(!(ts.length==2||ts.length==3)||vs.length != ts.length||env.blockKind != .function)=true
   ·simp only [h1,if_true]
   ·have h1':(!(ts.length==2||ts.length==3)||vs.length != ts.length||env.blockKind != .function)=false:=by simpa using h1
    simp only [h1',cV,if_false]
    split
    ·rfl
    ·rw [if_pos]
     rw [Bool.or_eq_true]
     left
     refine bne_iff_ne.mpr (bU (yp ⟨t,ht,?_⟩))
     cases t with
     | Name n pos =>
      have hn:(!decide (c.sc.names.lookup n=some .local))=true:=hn
      have hn : ¬ c.sc.names.lookup n=some .local:=by simpa using hn
      have:(env.kindOf n==some .local)=false:=by
       refine beq_eq_false_iff_ne.mpr λq=>hn ?_
       rw [← hs]; exact q
      simp only [this,Bool.false_and,cV,if_false]
     | _=>cases hn
  | _=>rfl
 ·cases h
theorem xT {c:Ck} {tg e:Expr} {env:Env} (hs:env.scope=c.sc) (h:lG c tg e=true):swappedStores [tg] e env=pure none:=by
 unfold lG at h
 rw [Bool.or_eq_true] at h
 exact h.elim Pe (Fw hs)
theorem mU {l:List Str} (nd:l.Nodup) {i j:Nat} {x:Str} (h:l[i]? = some x) (k:l[j]? = some x):i=j:=by
 obtain ⟨hi,e1⟩:=List.getElem?_eq_some_iff.mp h
 obtain ⟨hj,e2⟩:=List.getElem?_eq_some_iff.mp k
 exact (List.getElem_inj nd).mp (e1.trans e2.symm)
theorem ve (e:Expr):(match e with | .Starred .. => true | _=>false) = !o8 e:=by cases e <;> rfl
theorem Fv {x y:Str} {a b:Expr} {px py p p2:Pos} {k k2:Nat} {env:Env} (kd:env.scope.kind = .function) (ns:[a,b].all o8=true) (hf:[a,b].all (foldedForSure 8)=false) (hc:[a,b].all (constantsAlone 8)=false)
  (hl:(py.line==px.line)=true) (kx:env.scope.names.lookup x=some .local) (ky:env.scope.names.lookup y=some .local) (ne:x≠y):swappedStores [.Tuple [.Name x px,.Name y py] k p] (.Tuple [a,b] k2 p2) env=pure (some [x,y]):=by
 have hb:env.blockKind = .function:=by
  unfold Env.blockKind
  rw [kd]
  rfl
 have kx':env.kindOf x=some .local:=kx
 have ky':env.kindOf y=some .local:=ky
 have ns':([a,b].any λ| .Starred .. => true | _=>false)=false:=by
  simp only [gW,List.all_nil,ai] at ns
  simp only [j9,List.any_nil,ve,ns.1,ns.2.1]
  rfl
 have ne':(y==x)=false:=by simpa using λz=>ne z.symm
 have ed:[x,y].eraseDups=[x,y]:=by simp [List.eraseDups_cons,ne']
 unfold swappedStores
 simp only [hb,ns',hf,hc,kx',ky',hl,a8,jb,List.filterMap_cons,List.filterMap_nil,List.head?_cons,Option.map_some,Option.getD_some,ed,Expr.pos,beq_self_eq_true,Bool.and_self,if_true,bne_self_eq_false,Bool.or_self,Bool.or_false,cV,if_false,dG,Nat.reduceAdd,Bool.not_true,Bool.true_or]
 first
  | exact if_neg λz=>Bool.noConfusion (z.symm.trans ns')
  | exact (if_neg (by simp)).trans (if_neg λz=>Bool.noConfusion (z.symm.trans ns'))
theorem FY {x y z:Str} {a b d:Expr} {px py pz p p2:Pos} {k k2:Nat} {env:Env} (kd:env.scope.kind = .function) (ns:[a,b,d].all o8=true) (hf:[a,b,d].all (foldedForSure 8)=false) (hc:[a,b,d].all (constantsAlone 8)=false)
  (hl:(py.line==px.line)=true) (hl':(pz.line==px.line)=true) (kx:env.scope.names.lookup x=some .local) (ky:env.scope.names.lookup y=some .local) (kz:env.scope.names.lookup z=some .local) (ne:x≠y) (nz:x≠z) (yz:y≠z) :
  swappedStores [.Tuple [.Name x px,.Name y py,.Name z pz] k p] (.Tuple [a,b,d] k2 p2) env=pure (some [x,y,z]):=by
 have hb:env.blockKind = .function:=by
  unfold Env.blockKind
  rw [kd]
  rfl
 have kx':env.kindOf x=some .local:=kx
 have ky':env.kindOf y=some .local:=ky
 have kz':env.kindOf z=some .local:=kz
 have ns':([a,b,d].any λ| .Starred .. => true | _=>false)=false:=by
  simp only [gW,List.all_nil,ai] at ns
  simp only [j9,List.any_nil,ve,ns.1,ns.2.1,ns.2.2.1]
  rfl
 have e1:(y==x)=false:=by simpa using λz=>ne z.symm
 have e2:(z==x)=false:=by simpa using λq=>nz q.symm
 have e3:(z==y)=false:=by simpa using λq=>yz q.symm
 have ed:[x,y,z].eraseDups=[x,y,z]:=by simp [List.eraseDups_cons,e1,e2,e3]
 unfold swappedStores
 simp only [hb,ns',hf,hc,kx',ky',kz',hl,hl',a8,jb,List.filterMap_cons,List.filterMap_nil,List.head?_cons,Option.map_some,Option.getD_some,ed,Expr.pos,beq_self_eq_true,Bool.and_self,if_true,bne_self_eq_false,Bool.or_self,Bool.or_false,cV,if_false,dG,Nat.reduceAdd,Bool.not_true,Bool.true_or]
 first
  | exact if_neg λz=>Bool.noConfusion (z.symm.trans ns')
  | exact (if_neg (by simp)).trans (if_neg λz=>Bool.noConfusion (z.symm.trans ns'))
theorem BK (A:At c X xp W) {n:Str} {q p:Pos} {scope:Scope} (h:jG c n q p scope=true):X.env.scope.kind = .function∧X.env.scope.names.lookup n=some .local∧(q.line==p.line)=true∧(scope.names.any λ(m,k)=>m==n&&(k == .local||k == .cell))=false:=by
 unfold jG at h
 simp only [ai,aw,Bool.not_eq_true',and_assoc] at h
 rw [A.sc]
 refine ⟨?_,h.2.1,h.2.2.1,h.2.2.2⟩
 have:=h.1
 cases e:c.sc.kind <;> rw [e] at this <;> first | rfl | cases this
theorem HK {i:Nat} {n:Str} {q p p0:Pos} {B:List Addr} {elt tg iter:Expr} {ifs:List Expr} {scope:Scope} {own:List (Str × Nat)} {t:Tg} {items:Sto→Rs (List D)} {cond:Sto→Rs Bool} {fe:Sto→Rs D} (hc:X.calm=true) (hN:X.N.Nodup) (hn:X.N[i]? = some n) (hl:X.env.scope.names.lookup n=some .local)
  (hsw:swapsWith (.ListComp elt [⟨tg,iter,ifs,0⟩] scope p) (some (.Name n q)) p0.line X.env=pure true) (hi:CI X xp W tg iter items) (ok:BlkOk X.N X.env.scope scope own)
  (hg : ∀ (s:Shared) (H:Hp) (C:Addr) (cl:List (Str × Addr)) (fp:List Addr),CG (X.blk s H scope (compEnvC scope cl C X.env) fp) xp tg t)
  (ht : ∀ (s:Shared) (H:Hp) (C:Addr) (cl:List (Str × Addr)) (fp:List Addr),CTs (X.blk s H scope (compEnvC scope cl C X.env) fp) xp W0 ifs cond)
  (he : ∀ (s:Shared) (H:Hp) (C:Addr) (cl:List (Str × Addr)) (fp:List Addr),CE (X.blk s H scope (compEnvC scope cl C X.env) fp) xp W0 elt fe)
  (hs : ∀ x,foldedSetIterable iter X.env x=pure x) (hts : ∀ i∈t.slots,i∈own.map (·.2)) :
  CSt X xp W B (.Assign [.Name n q] (.ListComp elt [⟨tg,iter,ifs,0⟩] scope p) p0) (λρ => .ofR (lcF t (own.map (·.2)) items cond fe ρ) ρ λds => .nx (ρ.set i (some (.own ds)))):=
 du (ps_setLc hc hN hn hl hsw hi ok hg ht he hs) λT σ H ⟨ρ,O,fr,q⟩=>zV hts ⟨ρ,O++B,fr.rel,(aG.oM q fr).imp λds H' _ s k p vs hp h1 hl h2=>k _ H' (p::O) (zp hp s) (fr.new hp s h1 h2)⟩
end
theorem Fg {c:Ck} {xs:List Stmt} (h:c.ss .nil xs=true):xs=[]:=by
 cases xs with
 | nil=>rfl
 | cons x xs=>cases h
theorem GK {c:Ck} {s:S} {ss:Ss} {xs:List Stmt} (h:c.ss (.cons s ss) xs=true) : ∃ y ys,xs=y::ys∧c.s s y=true∧c.ss ss ys=true:=by
 cases xs with
 | nil=>cases h
 | cons x xs =>
  have h:(c.s s x&&c.ss ss xs)=true:=h
  simp only [ai] at h
  exact ⟨x,xs,rfl,h⟩
mutual
theorem sS : ∀ (s:S) (c:Ck) (x:Stmt) (X:Cx) (xp:XP) (W:WX) (B:List Addr),AtS c X xp W→c.s s x=true→CSt X xp W B x (exe c.Γ s)
 | .asg t e,c,x,X,xp,W,B,A,h=>by
  obtain ⟨tg,y,p,rfl,h1,h2,h3,h4⟩:=PN h
  exact vD (sE e c y X xp W A.toAt h4).1 (A.toAt.fD h3) (yk A.toAt.sc h1) (xT A.toAt.sc h2) (by
   unfold Ck.tg at h3
   split at h3 <;> first | rfl | cases h3)
 | .own i es,c,x,X,xp,W,B,A,h=>by
  obtain ⟨n,q,ys,p1,p,rfl,h1,h2⟩:=Jp h
  obtain ⟨g1,g2,g3⟩:=A.toAt.jP h1
  refine du (Ae (B:=B) (wt (sEs es c ys X xp W A.toAt h2)) A.nd g1 g2 g3 rfl) λT σ H ⟨ρ,O,fr,q⟩=>⟨ρ,O,fr,?_⟩
  have q:aG X.K X.mg xp W B T H O (.ofR (bq c.Γ es ρ) ρ λds=>if ds.length≤LIM then .nx (ρ.set i (some (.own ds))) else .bad):=q
  show aG X.K X.mg xp W B T H O (.ofR ((bq c.Γ es ρ).bind λxs=>if xs.length≤LIM then .ok xs else .bad) ρ λds => .nx (ρ.set i (some (.own ds))))
  cases e:bq c.Γ es ρ with
  | ok ds =>
   rw [e] at q
   have q:aG X.K X.mg xp W B T H O (if ds.length≤LIM then .nx (ρ.set i (some (.own ds))) else .bad):=q
   obtain ⟨hl,q⟩:=yD q
   show aG X.K X.mg xp W B T H O (.ofR (if ds.length≤LIM then .ok ds else .bad) ρ λds => .nx (ρ.set i (some (.own ds))))
   rw [if_pos hl]
   exact q
  | ex z=>rw [e] at q; exact q
  | bad=>rw [e] at q; exact q
 | .ownLc i t vs it cond elt,c,x,X,xp,W,B,A,h=>by
  obtain ⟨n,q,y,tg,iter,ifs,scope,p1,p,rfl,h8,h9,h0,h1,h2,h3,h4,h5,h6,h7⟩:=GI h
  obtain ⟨k1,k2,k3,k4⟩:=BK A.toAt h9
  have blk:=blkOk_by h3
  rw [← A.N,← A.sc] at blk
  have hin : ∀ i∈t.slots,i∈(ownOf X.N vs).map (·.2):=λi hi=>by
   rw [d7]
   exact dF (j5.mp h2 i hi)
  have st:=HK (B:=B) (own:=ownOf X.N vs) (A.cm h0) A.nd (by rw [A.N]; exact h8) k2 (sw_true k1 k2 k3 k4) (sI it c tg iter X xp W A.toAt h4) blk (λs H C cl fp=>(A.toAt.blk h0 scope s H C cl fp).fD h5)
   (λs H C cl fp=>sC cond _ ifs _ xp W0 (A.toAt.blk h0 scope s H C cl fp) h6) (λs H C cl fp=>(sE elt _ y _ xp W0 (A.toAt.blk h0 scope s H C cl fp) h7).1) (gm h1) hin (q:=q) (p:=p1) (p0:=p)
  rw [d7] at st
  exact st
 | .ownLc2 ..,c,x,X,xp,W,B,A,h=>absurd h aa
 | .setDc i t vs it cond fk fv,c,x,X,xp,W,B,A,h=>by
  obtain ⟨n,q,y,z,tg,iter,ifs,scope,p1,p,rfl,h8,h9,h0,h1,h2,h3,h4,h5,h6,h7,h10⟩:=Ik h
  obtain ⟨m1,m2,m3⟩:=A.toAt.jP h8
  have blk:=blkOk_by h3
  rw [← A.N,← A.sc] at blk
  have hin : ∀ i∈t.slots,i∈(ownOf X.N vs).map (·.2):=λi hi=>by
   rw [d7]
   exact dF (j5.mp h2 i hi)
  have src:=sI it c tg iter X xp W A.toAt h4
  have tgt:=λ(s:Shared) (H:Hp) (C:Addr) (cl:List (Str × Addr)) (fp:List Addr)=>(A.toAt.blk h0 scope s H C cl fp).fD h5
  have tst:=λ(s:Shared) (H:Hp) (C:Addr) (cl:List (Str × Addr)) (fp:List Addr)=>sC cond _ ifs _ xp W0 (A.toAt.blk h0 scope s H C cl fp) h6
  have key:=λ(s:Shared) (H:Hp) (C:Addr) (cl:List (Str × Addr)) (fp:List Addr)=>(sE fk _ y _ xp W0 (A.toAt.blk h0 scope s H C cl fp) h7).1
  have val:=λ(s:Shared) (H:Hp) (C:Addr) (cl:List (Str × Addr)) (fp:List Addr)=>(sE fv _ z _ xp W0 (A.toAt.blk h0 scope s H C cl fp) h10).1
  rw [Bool.or_eq_true,aw] at h9
  rcases h9 with h9 | h9
  ·obtain ⟨k1,k2,k3,k4⟩:=BK A.toAt h9
   have st:=Dq (B:=B) (own:=ownOf X.N vs) (A.cm h0) A.nd m1 k2 (PF k1 k2 k3 k4) src blk tgt tst key val (gm h1) hin (q:=q) (p:=p1) (p0:=p)
   rw [d7] at st
   exact st
  ·have st:=MJ (B:=B) (own:=ownOf X.N vs) (A.cm h0) A.nd m1 m2 m3 (L6 (by rw [A.sc]; exact h9)) src blk tgt tst key val (gm h1) hin (q:=q) (p:=p1) (p0:=p)
   rw [d7] at st
   exact st
 | .setDn ..,c,x,X,xp,W,B,A,h=>absurd h aa
 | .ownAdd i a b,c,x,X,xp,W,B,A,h=>by
  obtain ⟨n,q,y,z,p1,p,rfl,h1,h2,h3⟩:=Lp h
  obtain ⟨g1,g2,g3⟩:=A.toAt.jP h1
  exact Ae (Et (sE a c y X xp W A.toAt h2).1 (sE b c z X xp W A.toAt h3).1) A.nd g1 g2 g3 rfl
 | .app i e,c,x,X,xp,W,B,A,h=>by
  obtain ⟨n,q,p1,y,p2,p,rfl,h1,h2,h3,h4⟩:=IH h
  obtain ⟨g1,g2,g3,g4⟩:=A.toAt.rA h3
  exact N8 g1 g2 g3 g4 (sE e c y X xp W A.toAt h4).1 (by
   rw [bN h2]
   rfl) h1 (bN h2) rfl rfl
 | .star ..,c,x,X,xp,W,B,A,h=>absurd h aa
 | .par is es,c,x,X,xp,W,B,A,h=>by
  obtain ⟨ts,k,p1,vs,k2,p2,p,rfl,h0,h1,h2,h3⟩:=Mn h
  have sa:=sEs es c vs X xp W A.toAt h3
  unfold rV at h1
  simp only [ai,aw,Bool.not_eq_true',and_assoc] at h1
  obtain ⟨l1,l2,l3,l4,l5,l6⟩:=h1
  have kd:X.env.scope.kind = .function:=by
   rw [A.sc]
   cases e:c.sc.kind <;> rw [e] at l2 <;> first | rfl | cases l2
  have nd:=A.nd
  unfold Ck.locs at h2
  split at h2
  ·rename_i i j x0 q0 y0 r0
   simp only [ai,aw,and_assoc] at h2
   obtain ⟨m1,m2,m3,m4,m5⟩:=h2
   rw [← A.N] at m1 m2
   rw [← A.sc] at m4 m5
   match vs,l1,l3,l4,l5,sa with
   | [a,b],_,l3,l4,l5,sa =>
    simp only [gW,List.head?_cons,Option.map_some,Option.getD_some,Expr.pos,ai] at l6
    exact Ms (A.cm h0) nd m1 m2 m3 m4 m5 sa (Fv kd l3 l4 l5 l6.2.1 m4 m5 λz=>m3 (by
     subst z
     exact mU nd m1 m2))
  ·rename_i i j l x0 q0 y0 r0 z0 t0
   simp only [ai,aw,and_assoc] at h2
   obtain ⟨m1,m2,m3,m4,m5,m6,m7,m8,m9⟩:=h2
   rw [← A.N] at m1 m2 m3
   rw [← A.sc] at m7 m8 m9
   match vs,l1,l3,l4,l5,sa with
   | [a,b,d],_,l3,l4,l5,sa =>
    simp only [gW,List.head?_cons,Option.map_some,Option.getD_some,Expr.pos,ai] at l6
    exact Km (A.cm h0) nd m1 m2 m3 m4 m5 m6 m7 m8 m9 sa (FY kd l3 l4 l5 l6.2.1 l6.2.2.1 m7 m8 m9 (λz=>m4 (by subst z; exact mU nd m1 m2)) (λz=>m5 (by subst z; exact mU nd m1 m3)) (λz=>m6 (by subst z; exact mU nd m2 m3)))
  ·cases h2
 | .exp e,c,x,X,xp,W,B,A,h=>by
  obtain ⟨y,p,rfl,h1,h2⟩:=JP h
  exact Ib (sE e c y X xp W A.toAt h2).1 (vK h1 _)
 | .ret e,c,x,X,xp,W,B,A,h=>by
  obtain ⟨y,p,rfl,h1⟩:=Ll h
  exact xG (sE e c y X xp W A.toAt h1).1
 | .retN ..,c,x,X,xp,W,B,A,h=>absurd h aa
 | .pass ..,c,x,X,xp,W,B,A,h=>absurd h aa
 | .brk ..,c,x,X,xp,W,B,A,h=>absurd h aa
 | .cont ..,c,x,X,xp,W,B,A,h=>absurd h aa
 | .ife d a b,c,x,X,xp,W,B,A,h=>by
  obtain ⟨y,ya,yb,p,rfl,h1,h2,h3⟩:=Iw h
  exact Ep (sE d c y X xp W A.toAt h1).2.1 (sSs a c ya X xp W B A h2) (sSs b c yb X xp W B A h3)
 | .for t it b,c,x,X,xp,W,B,A,h=>by
  obtain ⟨tg,iter,body,p,rfl,h0,h1,h2,h3,h4⟩:=Ic h
  exact Nb A.ps (A.cm h0) (sI it c tg iter X xp W A.toAt h2) (A.toAt.fD h3) (sSs b c body X xp W B A h4) (gm h1)
 | .retO ..,c,x,X,xp,W,B,A,h=>absurd h aa
 | .ownP ..,c,x,X,xp,W,B,A,h=>absurd h aa
 | .retP ..,c,x,X,xp,W,B,A,h=>absurd h aa
 | .ifZ i d a b,c,x,X,xp,W,B,A,h=>by
  obtain ⟨y,ya,yb,p,rfl,h1,h2,h3⟩:=LD h
  exact EE (sE d c y X xp W A.toAt h1).2.1 (sSs a c ya X xp W B A h2) (sSs b c yb X xp W B A h3)
 | .forO ..,c,x,X,xp,W,B,A,h=>absurd h aa
 | .whl ..,c,x,X,xp,W,B,A,h=>absurd h aa
 | .rai x0 f e,c,x,X,xp,W,B,A,h=>by
  obtain ⟨q,y,p1,p,rfl,h1,h2,h3,h4,h5⟩:=JR h
  obtain ⟨k,hk,room⟩:=A.room h2
  obtain ⟨g1,g2⟩:=A.toAt.gu h3
  exact D4 (A.cm h2) A.tk (A.ex h2 x0 f h1) room hk g1 g2 (sE e c y X xp W A.toAt h5).1 (bN h4)
 | .try ..,c,x,X,xp,W,B,A,h=>absurd h aa
 | .rpt ..,c,x,X,xp,W,B,A,h=>absurd h aa
 | .tryM ..,c,x,X,xp,W,B,A,h=>absurd h aa
 | .ownF ..,c,x,X,xp,W,B,A,h=>absurd h aa
 | .parF ..,c,x,X,xp,W,B,A,h=>absurd h aa
 | .sop ..,c,x,X,xp,W,B,A,h=>absurd h aa
 | .odn ..,c,x,X,xp,W,B,A,h=>absurd h aa
 | .dput ..,c,x,X,xp,W,B,A,h=>absurd h aa
 | .clr ..,c,x,X,xp,W,B,A,h=>absurd h aa
 | .rptL i j k sw rows,c,x,X,xp,W,B,A,h=>by
  exact absurd h aa
 | .any,c,x,X,xp,W,B,A,h=>⟨λpins s σ H T I ⟨ρ,O,fr,q⟩=>q.elim⟩
theorem sHs : ∀ (hs:Hs) (c:Ck) (hds:List ExceptHandler) (X:Cx) (W:WX) (B:List Addr),AtS c X (x0 X.w) W→c.cm=true→c.hs hs hds=true → ∃ l,mJ X B c.Γ.at_ hds (fE c.Γ hs) l
 | .nil,c,hds,X,W,B,A,h0,h=>by
  obtain rfl:=ES h
  exact ⟨_,.nil⟩
 | .cons ..,c,hds,X,W,B,A,h0,h=>absurd h aa
theorem sSs : ∀ (s:Ss) (c:Ck) (xs:List Stmt) (X:Cx) (xp:XP) (W:WX) (B:List Addr),AtS c X xp W→c.ss s xs=true→CSs X xp W B xs (ao c.Γ s)
 | .nil,c,xs,X,xp,W,B,A,h=>by
  obtain rfl:=Fg h
  exact MV
 | .cons s ss,c,xs,X,xp,W,B,A,h=>by
  obtain ⟨y,ys,rfl,h1,h2⟩:=GK h
  exact qg (sS s c y X xp W B A h1) (sSs ss c ys X xp W B A h2)
 | .frz i ss,c,xs,X,xp,W,B,A,h=>E8 (sSs ss c xs X xp W B A h)
 | .mkG cls f g k q,c,xs,X,xp,W,B,A,h=>by
  exact absurd h aa
 | .blk ..,c,xs,X,xp,W,B,A,h=>absurd h aa
 | .tryX ..,c,xs,X,xp,W,B,A,h=>absurd h aa
end
end Pf

set_option maxRecDepth 100000
namespace Pf
open PySem PySem.Spec PyProof.Rows L2
section
variable {P:Program} {w:World} {K:PySem.W.Frag} {mg:Str→Option Value} {base:Heap}
end
end Pf

set_option maxRecDepth 100000
namespace Pf
open PySem PySem.Spec PyProof.Rows L2
noncomputable def out (o:Out):Rs D:=match o with
 | .rt d => .ok d
 | .nx _ => .ok .none
 | .ex e _ => .ex e
 | _ => .bad
noncomputable def enter (n:Nat) (ds:List D):Sto:=ds.map (λd=>some (.pd d))++List.replicate (n-ds.length) none
noncomputable def bB (Γ:Gs) (n:Nat) (b:Ss):List D→Rs D:=λds=>out (ao Γ b (enter n ds))
structure Glo (P:Program) (w:World) (K:PySem.W.Frag) (mg:Str→Option Value) (base:Heap) (k:Nat) (Γ:Gs):Prop where
 gl : ∀ i x d,(i,x,d)∈Γ.gl → ∃ u v,mg x=some u∧L2.RelV v u∧(∀ F,Dn K F v d)∧kH K u d
 fs : ∀ i x n m,(i,x,n,m)∈Γ.fs → ∃ (j:Nat) (f:Addr) (fd:FuncData) (ps:List Str),j≤k∧FnG P w K mg base j f fd ps (spF K mg n m)∧(300000≤i→FnG P w K mg base j f fd ps (tm i K mg n m))∧mg x=some (.ref f)∧PySem.W.keepIn K (.ref f)=true∧L2.Binds K fd ps []
 bs : ∀ x∈Γ.bs,mg x=none
 sb : ∀ x y b,Γ.sb x y=some b→nP K mg x y b
 at_ : ∀ y f,Γ.at_ y=some f → ∃ C,mg y=some (.ref C)∧XcK K C y f
 ex : ∀ x f,Γ.at_ x=some f→gn P w K mg base x f
 hnd : ∀ y∈Γ.hs,∃ cv,rT mg y cv
 cs : ∀ y∈Γ.cs,∃ C,mg y=some (.ref C)
 ms : ∀ i cls m n mm,(i,cls,m,n,mm)∈Γ.ms→(m=("__init__" : Str) → ∃ (C:Addr) (j:Nat) (f:Addr) (fd:FuncData) (ps:List Str),j+1≤k∧cS K C cls∧Mk K C f∧FnG P w K mg base j f fd ps (spI K mg cls n mm)∧mg cls=some (.ref C)∧L2.Binds K fd ps []) ∧
  (m≠("__init__" : Str) → ∃ (C:Addr) (j:Nat) (f:Addr) (fd:FuncData) (ps:List Str),j≤k∧cS K C cls∧Meth K C m f∧FnG P w K mg base j f fd ps (spF K mg n mm)∧((Nat.ble 300000 i && !Nat.ble 400000 i)=true→FnG P w K mg base j f fd ps (mO K mg n mm))∧L2.Binds K fd ps [])
 kw : ∀ i x ks pi n m,(i,x,ks,pi,n,m)∈Γ.kw → ∃ (j:Nat) (f:Addr) (fd:FuncData) (ps:List Str),j≤k∧FnG P w K mg base j f fd ps (spF K mg n m)∧mg x=some (.ref f)∧PySem.W.keepIn K (.ref f)=true∧KwB K fd ps ks pi
 fl : ∀ cls f,(cls,f)∈Γ.fl → ∀ C,cS K C cls→NoAttr K C f
 ic : ∀ y∈Γ.ic,∃ C,mg y=some (.ref C)∧cS K C y∧PySem.W.isClsIn K C=true∧PySem.W.typeIn K (.ref C)=some (.type "type")
 two:2≤k
section
variable {P:Program} {w:World} {K:PySem.W.Frag} {mg:Str→Option Value} {base:Heap} {k:Nat} {Γ:Gs}
theorem zI {N:List Str} {H:Hp} {B:List Addr} {vs:List V} {ds:List D} (t:Thr K H B) (a:aj K (msk H B) vs ds) (hl:ds.length≤N.length):Fr K (x0 w) B (start N vs) H (enter N.length ds) []:=by
 have len:vs.length=ds.length:=aK a
 have no : ∀ (i:Nat) (xs:SV),cC xs=true→(enter N.length ds)[i]? ≠ some (some xs):=λi xs o h=>by
  unfold enter at h
  rcases j6.mp (eA h) with z | z
  ·obtain ⟨d,_,e⟩:=fA.mp z
   cases e; cases o
  ·rw [List.mem_replicate] at z
   cases z.2
 refine ⟨⟨?_,λi s h => ?_,λi j xs ys v o1 o2 h1=>absurd h1 (no i xs o1),⟨λb hb=>t.nn b hb,t.tb⟩⟩,λi xs b o h=>absurd h (no i xs o)⟩
 ·unfold L2.start enter
  simp [len]
 ·unfold enter at h
  unfold L2.start
  by_cases hi:i<ds.length
  ·rw [List.getElem?_append_left (by simpa using hi),List.getElem?_map] at h
   cases e:ds[i]? with
   | none=>rw [e] at h; cases h
   | some d =>
    rw [e] at h
    obtain rfl:SV.pd d=s:=by simpa using h
    obtain ⟨v,g1,g2⟩:=ua a e
    refine ⟨v,?_,g2⟩
    rw [List.getElem?_append_left (by simpa [len] using hi),List.getElem?_map,g1]
    rfl
  ·rw [List.getElem?_append_right (by simpa using hi),List.getElem?_replicate] at h
   split at h <;> cases h
theorem rq {H H':Hp} {O:List Addr} (s:Stp H [] H' O):Same H H':=⟨Sm.trans (by have:=s.sm; rw [AL] at this; exact this) dM,s.tab⟩
theorem qe {qual:Str} {st:Stmt} {f:Addr} {N ps:List Str} (S:FnScope N ps (defScope st)) (G:Glo P w K mg base k Γ) {cdv:Value} {A:Around} {outer:List Env} {s:Shared} {H:Hp} {E:XK} (room:Rm k (A.deeper (envOfC qual (defScope st) s.heap.objs.size f cdv))) (nore:bR A) :
  AtS (Ck.mk Γ N (defScope st) true (λ_=>true) false false) (cxOf (L2.CX P w) P w K mg base N qual (defScope st) f cdv A outer s H E) (x0 w) (λcls d _ H'=>E cls d H') where
 N:=rfl
 sc:=rfl
 fa:=λ_ _=>rfl
 cm:=λ_=>rfl
 gl:=G.gl
 fs:=λ_ i x n m hm=>by
  obtain ⟨j,g,gd,qs,hj,FG,FF,r⟩:=G.fs i x n m hm
  exact ⟨⟨j,g,gd,qs,FG,room.mono hj,r⟩,λh=>⟨j,g,gd,qs,FF h,room.mono hj,r⟩⟩
 bs:=G.bs
 nd:=S.nd
 nore:=nore
 hu:=by
  have:=room.un
  show (A.deeper (envOfC qual (defScope st) s.heap.objs.size f cdv)).units+70<cLine
  omega
 tk:=takes_of rfl rfl rfl rfl
 su:=λh=>by cases h
 sb:=G.sb
 at_:=G.at_
 cs:=G.cs
 ms:=λ_ i cls m n mm hm=>by
  obtain ⟨h1,h2⟩:=G.ms i cls m n mm hm
  refine ⟨λe => ?_,λe => ?_⟩
  ·obtain ⟨C,j,g,gd,qs,hj,a1,a2,a3,a4,a5⟩:=h1 e
   exact ⟨C,j,g,gd,qs,a1,a2,a3,room.mono hj,a4,a5⟩
  ·obtain ⟨C,j,g,gd,qs,hj,a1,a2,a3,a4,a5⟩:=h2 e
   exact ⟨⟨C,j,g,gd,qs,a1,a2,a3,room.mono hj,a5⟩,λhi=>⟨C,j,g,gd,qs,a1,a2,a4 hi,room.mono hj,a5⟩⟩
 kw:=λ_ i x ks pi n m hm=>by
  obtain ⟨j,g,gd,qs,hj,FG,r⟩:=G.kw i x ks pi n m hm
  exact ⟨j,g,gd,qs,FG,room.mono hj,r⟩
 fl:=G.fl
 ic:=G.ic
 ps:=PassesOwn.leaving
 fr:=λ_=>⟨rfl,rfl⟩
 xn:=λ_=>rfl
 xw:=rfl
 ex:=λ_=>G.ex
 room:=λ_=>⟨k,G.two,room.room⟩
 hnd:=G.hnd
theorem yg {H:Hp} {Q:VK} {E:XK} {B:List Addr} {o:Out} (wish:match out o with
   | .ok d => ∀ H' v,Same H H'→Dn K (msk H' B) v d→Q v H'
   | .ex e => ∀ H' cls dd,Same H H'→eX K mg (msk H' B) e cls dd→E cls dd H'
   | .bad=>False):aG K mg (x0 w) (λcls d _ H'=>E cls d H') B { nx:=λ_ H'=>Q .non H',rt:=Q } H [] o:=by
 have less : ∀ (H':Hp) (O':List Addr),Sm (msk H' (O'++B)) (msk H' B):=λH' O'=>Pk λb hb=>dW _ hb
 cases o with
 | nx ρ=>exact λσ' H' O' s _=>wish H' .non (rq s) .non
 | rt d=>exact λv H' O' s _ hv=>wish H' v (rq s) (bf (less H' O') hv)
 | ex x ρ=>exact λσ' H' O' cls dd s _ hx=>wish H' cls dd (rq s) (hx.mono (less H' O'))
 | bk ρ=>exact wish.elim
 | ct ρ=>exact wish.elim
 | bad=>exact wish.elim
theorem zf {N ps:List Str} {st:Stmt} {ds:List D} (S:FnScope N ps (defScope st)) (hl:ds.length=ps.length):ds.length≤N.length:=by
 have:=bF List.length S.pre
 rw [ez] at this
 omega
theorem cF {x qual:Str} {st:Stmt} {f:Addr} {fd:FuncData} {N ps:List Str} {b:Ss} (F:Fun K x qual st f fd) (S:FnScope N ps (defScope st)) (G:Glo P w K mg base k Γ)
  (chk:(Ck.mk Γ N (defScope st) true (λ_=>true) false false).ss b (defBody st)=true):FnG P w K mg base (k+1) f fd ps (spF K mg ps.length (bB Γ N.length b)):=by
 refine MQ F S (λvs H Q E h => ?_) λcdv A outer s H vs Q E room nore h => ?_
 ·obtain ⟨O,ds,_,a,hl,_⟩:=h
  exact (aK a).trans hl
 ·obtain ⟨B,ds,thr,a,hl,wish⟩:=h
  exact ⟨_,sSs b _ (defBody st) _ _ _ B (qe S G room nore) chk,enter N.length ds,[],zI thr a (zf S hl),yg wish⟩
end
end Pf

set_option maxRecDepth 100000
namespace Pf
open PySem PySem.Spec PyProof.Rows L2
section
variable {P:Program} {w:World} {K:PySem.W.Frag} {mg:Str→Option Value} {base:Heap} {k:Nat} {Γ:Gs}
end
end Pf

set_option maxRecDepth 100000
namespace Pf
open PySem PySem.Spec PyProof.Rows L2 LamX
section
variable {P:Program} {w:World} {K:PySem.W.Frag} {mg mb:Str→Option Value} {k:Nat} {fa a:Addr} {fd:FuncData} {x:Str} {sp:Sp} {s1:Shared} {vs:List Value} {ns:List Int} {cs:List (Addr × Addr)}
theorem BS (H:Hp) (inK:K.In s1.heap) (top:s1.heap.Ns mainGlobals mg) (blt:s1.heap.Ns builtinsNs mb) (bltAll : ∀ x:Str,x ≠ "__name__" → mb x=bootBuiltins x) (free:s1.heap.NoLimit) (nogen:s1.gens = #[])
  (emp : ∀ p∈cs,s1.heap.get? p.2=some { cls:=.none,data:=.fields #[] }) (codes : ∀ p∈cs,PySem.W.CodeHd s1.heap p.1 p.2) (noK : ∀ p∈cs,K.lookup p.2=none)
  (bmn : ∃ (bm:Addr) (ob:Obj),mg "__builtins__" = some (.ref bm)∧bm≠builtinsNs∧s1.heap.get? bm=some ob∧ob.cls = .type "module" ∧ ob.dict=some builtinsNs∧ob.data = .plain)
  (scr:s1.heap.get? a=some { cls:=.type "list",data:=.seq vs.toArray }) (room:Room k callerA)
  (F : ∀ base:Heap,K.In base→base.Ns mainGlobals mg→(∀ p∈cs,TabB base mg p.1 p.2)→FnG P w K mg base k fa fd [x] sp) (hbind : ∀ (s:Shared) (u:Value),BindsTo s fd ⟨[u],[]⟩ [(x,u)])
  (goal:sp [.ref a] H (λv _=>v = .bl true) λ_ _ _=>False) (tabs : ∀ p∈cs,H p.2=some (.tbl #[])) (hO : ∀ b,H b=none∨(∃ p∈cs,b=p.2) ∨ ∃ o xs,H b=some (.frz o (.lst xs))) (ok:HOk P w H s1.heap)
  (alone : ∀ b,H b≠none→b=a ∨ ∃ p∈cs,b=p.2) (outK:H a≠none→K.lookup a=none) :
  codeAny (model P w) callerA (.call (.ref fa) ⟨[.ref a],[]⟩) (λr s'=>r = .ok (.ret (.bool true))∧OldK s1.heap s'.heap∧s'.os=s1.os∧AllBare s'.gens) s1:=by
 have notrk : ∀ {b:Addr} {o:Obj},s1.heap.get? b=some o→(∀ us n,o.data ≠ .seq us n)→o.data ≠ .fields #[]→H b=none:=by
  intro b o g n1 n2
  cases q:H b with
  | none=>rfl
  | some u =>
   rcases alone b (by rw [q]; exact Option.some_ne_none _) with rfl | ⟨p,hp,rfl⟩
   ·rw [scr] at g; cases g; exact (n1 _ _ rfl).elim
   ·rw [emp p hp] at g; cases g; exact (n2 rfl).elim
 have isD : ∀ {o:Obj} {es:Array DictEntry} {ep:Nat},o.data = .dict es ep→(∀ us n,o.data ≠ .seq us n)∧o.data ≠ .fields #[]:=by
  intro o es ep d
  exact ⟨λus n z=>(by rw [d] at z; cases z),λz=>(by rw [d] at z; cases z)⟩
 have lift : ∀ {b:Addr} {m:Str→Option Value},s1.heap.Ns b m→(hidT s1.heap H).Ns b m:=by
  rintro b m ⟨o,es,ep,g,d,r⟩
  exact ⟨o,es,ep,hidT_get g (notrk g (isD d).1 (isD d).2),d,r⟩
 have inK':K.In (hidT s1.heap H):=by
  intro b o g
  refine hidT_get (inK b o g) ?_
  cases q:H b with
  | none=>rfl
  | some u =>
   rcases alone b (by rw [q]; exact Option.some_ne_none _) with rfl | ⟨p,hp,rfl⟩
   ·rw [outK (by rw [q]; exact Option.some_ne_none _)] at g; cases g
   ·rw [noK p hp] at g; cases g
 have tb : ∀ p∈cs,TabB (hidT s1.heap H) mg p.1 p.2:=by
  intro p hp
  refine ⟨?_,?_,?_⟩
  ·obtain ⟨o,us,file,tf,flags,tg,inF,text,tt,g,c1,c2,c3,rest⟩:=codes p hp
   refine ⟨o,us,file,tf,flags,tg,inF,text,tt,hidT_get g (notrk g (λ_ _ z=>by rw [c2] at z; cases z) λz => ?_),c1,c2,c3,rest⟩
   rw [c2] at z
   cases z
   simp at c3
  ·obtain ⟨bm,ob,b1,b2,b3,b4,b5,b6⟩:=bmn
   refine ⟨bm,ob,b1,b2,λz => ?_,λz => ?_,hidT_get b3 (notrk b3 (λ_ _ z=>by rw [b6] at z; cases z) λz=>by rw [b6] at z; cases z),b4,b5,b6⟩
   ·obtain ⟨o,es,ep,g,d,_⟩:=top
    rw [z,g] at b3; cases b3; rw [d] at b6; cases b6
   ·rw [z,emp p hp] at b3; cases b3; cases b6
  ·intro z
   obtain ⟨o,es,ep,g,d,_⟩:=top
   rw [z,emp p hp] at g; cases g; cases d
 obtain ⟨mc,l1,l2⟩:=free
 have md:Mod K mg (hidT s1.heap H):={ kin:=inK',glob:=lift top,blt:=⟨mb,lift blt,bltAll⟩,nolimit:=⟨mc,lift l1,l2⟩ }
 have ent:Env0 P w K mg (hidT s1.heap H) callerA [] s1 H:=⟨rfl,md,λ_ _ g=>of_hidT g,Nat.le_of_eq (hidT_size _ _),trivial,λb hb=>(by cases hb),ok,.of_eq nogen⟩
 have runs:=(F _ inK' (lift top) tb).run callerA [] s1 H ⟨[.ref a],[]⟩ [.ref a] [.ref a] _ _ room rfl ent (hbind s1 (.ref a)) (.cons rfl .nil) goal
 refine dV runs λres s' out => ?_
 match res,out with
 | .error e,z =>
  obtain ⟨_,_,_,_,_,_,_,_,_,_,_,_,f⟩:=z
  exact f.elim
 | .ok .next,z=>exact z.elim
 | .ok .brk,z=>exact z.elim
 | .ok .cont,z=>exact z.elim
 | .ok (.ret u),⟨v,H',os,bare,un,ok',rv,z⟩ =>
  obtain rfl:v = .bl true:=z
  obtain rfl:u=Value.bool true:=rv
  have grown : ∀ p∈cs,∃ more:Array Value,s'.heap.get? p.2=some { cls:=.none,data:=.fields more }:=λp hp=>by
   obtain ⟨more,z⟩:=un.tbls p.2 #[] (tabs p hp)
   exact ⟨_,ok' p.2 _ z⟩
  have rest : ∀ b o,(∀ p∈cs,b≠p.2)→s1.heap.get? b=some o→s'.heap.get? b=some o:=λb o nb g=>by
   cases q:H b with
   | none=>exact un.keep b o g q (by intro z; cases z) (by intro z; cases z)
   | some u =>
    rcases hO b with z | ⟨p,hp,z⟩ | ⟨ob,xs,z⟩
    ·rw [q] at z; cases z
    ·exact (nb p hp z).elim
    ·have still:=(ok' b _ (un.frzs b ob _ z)).1
     have was:=(ok b _ z).1
     rw [g] at was
     cases was
     exact still
  refine ⟨rfl,⟨λb o g => ?_,λb o g => ?_⟩,os,bare⟩
  ·by_cases hb : ∃ p∈cs,b=p.2
   ·obtain ⟨p,hp,rfl⟩:=hb
    obtain ⟨more,hm⟩:=grown p hp
    rw [emp p hp] at g
    cases g
    exact .inr (.inl ⟨((codes p hp).tab (emp p hp)).isCodeTable,rfl,#[],more,rfl,by rw [Array.empty_append]; exact hm⟩)
   ·exact .inl (rest b o (λp hp z=>hb ⟨p,hp,z⟩) g)
  ·by_cases hb : ∃ p∈cs,b=p.2
   ·obtain ⟨p,hp,rfl⟩:=hb
    obtain ⟨more,hm⟩:=grown p hp
    exact ⟨_,hm⟩
   ·exact ⟨o,rest b o (λp hp z=>hb ⟨p,hp,z⟩) g⟩
theorem L_ (inK:K.In s1.heap) (top:s1.heap.Ns mainGlobals mg) (blt:s1.heap.Ns builtinsNs mb) (bltAll : ∀ x:Str,x ≠ "__name__" → mb x=bootBuiltins x) (free:s1.heap.NoLimit) (nogen:s1.gens = #[])
  (emp : ∀ p∈cs,s1.heap.get? p.2=some { cls:=.none,data:=.fields #[] }) (codes : ∀ p∈cs,PySem.W.CodeHd s1.heap p.1 p.2) (noK : ∀ p∈cs,K.lookup p.2=none)
  (bmn : ∃ (bm:Addr) (ob:Obj),mg "__builtins__" = some (.ref bm)∧bm≠builtinsNs∧s1.heap.get? bm=some ob∧ob.cls = .type "module" ∧ ob.dict=some builtinsNs∧ob.data = .plain)
  (scr:s1.heap.get? a=some { cls:=.type "list",data:=.seq vs.toArray }) (isInts:IntsAre vs ns) (len:ns.length≤sizeLine) (room:Room k callerA)
  (F : ∀ base:Heap,K.In base→base.Ns mainGlobals mg→(∀ p∈cs,TabB base mg p.1 p.2)→FnG P w K mg base k fa fd [x] sp) (hbind : ∀ (s:Shared) (u:Value),BindsTo s fd ⟨[u],[]⟩ [(x,u)])
  (goal : ∀ H:Hp,(∀ p∈cs,H p.2=some (.tbl #[]))→RL K H a (ns.map V.int)→sp [.ref a] H (λv _=>v = .bl true) λ_ _ _=>False) :
  codeAny (model P w) callerA (.call (.ref fa) ⟨[.ref a],[]⟩) (λr s'=>r = .ok (.ret (.bool true))∧OldK s1.heap s'.heap∧s'.os=s1.os∧AllBare s'.gens) s1:=by
 have aT : ∀ p∈cs,a≠p.2:=λp hp z=>by
  rw [z,emp p hp] at scr
  cases scr
 classical
 let T:Addr→Prop:=λb => ∃ p∈cs,b=p.2
 cases hk:K.lookup a with
 | some o =>
  have same:=inK a o hk
  rw [scr] at same
  cases same
  have sz:vs.toArray.size≤sizeLine:=by rw [List.size_toArray,isInts.length]; exact len
  let H:Hp:=λb=>if T b then some (.tbl #[]) else none
  have hT : ∀ p∈cs,H p.2=some (.tbl #[]):=λp hp=>if_pos ⟨p,hp,rfl⟩
  refine BS H inK top blt bltAll free nogen emp codes noK bmn scr room F hbind (goal H hT (Or.inr ⟨vs.toArray,_,hk,sz,?_⟩)) hT (λb => ?_) ?_ ?_ λz=>(z (if_neg λ⟨p,hp,e⟩=>aT p hp e)).elim
  ·rw [List.toList_toArray]; exact vals_ints isInts
  ·by_cases hb:T b
   ·exact .inr (.inl hb)
   ·exact .inl (if_neg hb)
  ·intro b u z
   by_cases hb:T b
   ·cases (if_pos hb).symm.trans z
    obtain ⟨p,hp,rfl⟩:=hb
    exact emp p hp
   ·cases (if_neg hb).symm.trans z
  ·intro b z
   by_cases hb:T b
   ·exact .inr hb
   ·exact (z (if_neg hb)).elim
 | none =>
  let H:Hp:=λb=>if T b then some (.tbl #[]) else if b=a then some (HO.frz { cls:=.type "list",data:=.seq vs.toArray } (.lst (ns.map V.int))) else none
  have hT : ∀ p∈cs,H p.2=some (.tbl #[]):=λp hp=>if_pos ⟨p,hp,rfl⟩
  have na : ¬ T a:=λ⟨p,hp,e⟩=>aT p hp e
  have hA:H a=some (HO.frz { cls:=.type "list",data:=.seq vs.toArray } (.lst (ns.map V.int))):=(if_neg na).trans (if_pos rfl)
  refine BS H inK top blt bltAll free nogen emp codes noK bmn scr room F hbind (goal H hT (Or.inl (Or.inr ⟨_,hA⟩))) hT (λb => ?_) ?_ ?_ λ_=>hk
  ·by_cases hb:T b
   ·exact .inr (.inl hb)
   ·by_cases ha:b=a
    ·exact .inr (.inr ⟨_,_,(if_neg hb).trans (if_pos ha)⟩)
    ·exact .inl ((if_neg hb).trans (if_neg ha))
  ·intro b u z
   by_cases hb:T b
   ·cases (if_pos hb).symm.trans z
    obtain ⟨p,hp,rfl⟩:=hb
    exact emp p hp
   ·by_cases ha:b=a
    ·subst ha
     cases hA.symm.trans z
     exact ⟨scr,by rw [aq]; exact len,vs,_,vals_ints isInts,scr⟩
    ·cases ((if_neg hb).trans (if_neg ha)).symm.trans z
  ·intro b z
   by_cases hb:T b
   ·exact .inr hb
   ·by_cases ha:b=a
    ·exact .inl ha
    ·exact (z ((if_neg hb).trans (if_neg ha))).elim
end
end Pf

set_option maxRecDepth 100000
namespace Pf
open PySem PySem.Spec PyProof.Rows L2
noncomputable def sbT (L:List (Str × Str × Bool)):Str→Str→Option Bool:=λx y=>match L.find? λp=>p.1==x&&p.2.1==y with
 | some p=>some p.2.2
 | none=>none
noncomputable def atT (L:List (Str × Str)):Str→Option Str:=λx=>match L.find? λp=>p.1==x with
 | some p=>some p.2
 | none=>none
theorem MT {L:List (Str × Str × Bool)} {x y:Str} {b:Bool} (h:sbT L x y=some b):(x,y,b)∈L:=by
 unfold sbT at h
 split at h
 ·rename_i p e
  have m:=List.mem_of_find?_eq_some e
  have q:=List.find?_some e
  simp only [ai,beq_iff_eq] at q
  obtain ⟨x',y',b'⟩:=p
  obtain ⟨rfl,rfl⟩:=q
  cases h
  exact m
 ·cases h
theorem wK {L:List (Str × Str)} {x f:Str} (h:atT L x=some f):(x,f)∈L:=by
 unfold atT at h
 split at h
 ·rename_i p e
  have m:=List.mem_of_find?_eq_some e
  have q:=List.find?_some e
  simp only [beq_iff_eq] at q
  obtain ⟨x',f'⟩:=p
  obtain rfl:=q
  cases h
  exact m
 ·cases h
section
variable {P:Program} {w:World} {K:PySem.W.Frag} {mg:Str→Option Value} {base:Heap} {k:Nat} {Γ:Gs}
theorem Glo.F9 (G:Glo P w K mg base k Γ) : ∀ i cls m n mm,(i,cls,m,n,mm)∈Γ.ms→(m=("__init__" : Str) → ∃ (C:Addr) (j:Nat) (f:Addr) (fd:FuncData) (ps:List Str),j+1≤k+1∧cS K C cls∧Mk K C f∧FnG P w K mg base j f fd ps (spI K mg cls n mm)∧mg cls=some (.ref C)∧L2.Binds K fd ps []) ∧
  (m≠("__init__" : Str) → ∃ (C:Addr) (j:Nat) (f:Addr) (fd:FuncData) (ps:List Str),j≤k+1∧cS K C cls∧Meth K C m f∧FnG P w K mg base j f fd ps (spF K mg n mm)∧((Nat.ble 300000 i && !Nat.ble 400000 i)=true→FnG P w K mg base j f fd ps (mO K mg n mm))∧L2.Binds K fd ps []):=λi cls m n mm h=>by
 obtain ⟨h1,h2⟩:=G.ms i cls m n mm h
 refine ⟨λe => ?_,λe => ?_⟩
 ·obtain ⟨C,j,f,fd,ps,hj,r⟩:=h1 e
  exact ⟨C,j,f,fd,ps,mB hj,r⟩
 ·obtain ⟨C,j,f,fd,ps,hj,r⟩:=h2 e
  exact ⟨C,j,f,fd,ps,mB hj,r⟩
theorem Glo.Eh (G:Glo P w K mg base k Γ) (d:Nat) : ∀ i x ks pi n m,(i,x,ks,pi,n,m)∈Γ.kw → ∃ (j:Nat) (f:Addr) (fd:FuncData) (ps:List Str),j≤k+d∧FnG P w K mg base j f fd ps (spF K mg n m)∧mg x=some (.ref f)∧PySem.W.keepIn K (.ref f)=true∧KwB K fd ps ks pi:=λi x ks pi n m h=>by
 obtain ⟨j,f,fd,ps,hj,r⟩:=G.kw i x ks pi n m h
 exact ⟨j,f,fd,ps,by omega,r⟩
theorem Glo.step {i:Nat} {x:Str} {n:Nat} {m:List D→Rs D} {f:Addr} {fd:FuncData} {ps:List Str} (G:Glo P w K mg base k Γ) (F:FnG P w K mg base (k+1) f fd ps (spF K mg n m)) (FF:300000≤i→FnG P w K mg base (k+1) f fd ps (tm i K mg n m)) (hm:mg x=some (.ref f)) (hk:PySem.W.keepIn K (.ref f)=true) (hb:L2.Binds K fd ps []) :
  Glo P w K mg base (k+1) { Γ with fs:=Γ.fs++[(i,x,n,m)] } where
 gl:=G.gl
 fs:=λi' y n' m' h=>by
  rcases j6.mp h with h | h
  ·obtain ⟨j,g,gd,qs,hj,r⟩:=G.fs i' y n' m' h
   exact ⟨j,g,gd,qs,mB hj,r⟩
  ·rw [c7] at h
   cases h
   exact ⟨k+1,f,fd,ps,aC _,F,FF,hm,hk,hb⟩
 bs:=G.bs
 sb:=G.sb
 at_:=G.at_
 ex:=G.ex
 hnd:=G.hnd
 cs:=G.cs
 ms:=G.F9
 kw:=G.Eh 1
 fl:=G.fl
 ic:=G.ic
 two:=mB G.two
theorem Glo.init {gl:List (Nat × Str × D)} {bs hs cs ic:List Str} {fl:List (Str × Str)} {sb:List (Str × Str × Bool)} {at_:List (Str × Str)} (h1 : ∀ p∈gl,∃ u v,mg p.2.1=some u∧L2.RelV v u∧(∀ F,Dn K F v p.2.2)∧kH K u p.2.2) (h2 : ∀ x∈bs,mg x=none) (h3 : ∀ p∈sb,nP K mg p.1 p.2.1 p.2.2)
  (h4 : ∀ p∈at_,(∃ C,mg p.1=some (.ref C)∧XcK K C p.1 p.2)∧gn P w K mg base p.1 p.2) (h5 : ∀ y∈hs,∃ cv,rT mg y cv) (h6 : ∀ y∈cs,∃ C,mg y=some (.ref C)) (h7 : ∀ p∈fl,∀ C,cS K C p.1→NoAttr K C p.2) (h8 : ∀ y∈ic,∃ C,mg y=some (.ref C)∧cS K C y∧PySem.W.isClsIn K C=true∧PySem.W.typeIn K (.ref C)=some (.type "type")):Glo P w K mg base 2 ⟨gl,[],bs,sbT sb,atT at_,hs,cs,[],fl,ic,[]⟩ where
 gl:=λi x d h=>h1 (i,x,d) h
 fs:=λi x n m h=>by cases h
 bs:=h2
 sb:=λx y b h=>h3 (x,y,b) (MT h)
 at_:=λy f h=>(h4 (y,f) (wK h)).1
 ex:=λx f h=>(h4 (x,f) (wK h)).2
 hnd:=h5
 cs:=h6
 ms:=λi cls m n mm h=>by cases h
 kw:=λi x ks pi n m h=>by cases h
 fl:=λcls f h=>h7 (cls,f) h
 ic:=h8
 two:=aC _
theorem gl_str {x:Str} {s:Str} {t:Tok} (h:mg x=some (.str s t)) (a:asc s=true) (l:s.length≤LIM) : ∃ u v,mg x=some u∧L2.RelV v u∧(∀ F,Dn K F v (.str s))∧kH K u (.str s):=⟨_,.str s,h,⟨t,rfl⟩,λ_ => .str a l,λrows e=>by cases e⟩
theorem gl_int {x:Str} {i:Int} {t:Tok} (h:mg x=some (.int i t)) : ∃ u v,mg x=some u∧L2.RelV v u∧(∀ F,Dn K F v (.int i))∧kH K u (.int i):=⟨_,.int i,h,⟨t,rfl⟩,λ_ => .int i,λrows e=>by cases e⟩
theorem qQ {x f base_ par msg qual:Str} {st:Stmt} {C fI:Addr} {fd:FuncData} {b:Bs} {j:Nat} {p1 p2 p3 p4 p5 p6 p7 p8 p9 p10:Pos} (gC:mg x=some (.ref C)) (oc:Oc K b C f) (iC:PySem.W.findIn K (.ref C) "__init__" = some (some (.ref fI))) (tI:PySem.W.isFn K (.ref fI)=true)
  (F:Fun K "__init__" qual st fI fd) (S:FnScope ["self",par] ["self",par] (defScope st)) (B:gN K mg b base_) (hs:(defScope st).names.lookup ("self" : Str)=some .local) (hp:(defScope st).names.lookup par=some .local) (hx:(defScope st).names.lookup base_=some .globalImplicit)
  (hd:(par==("__debug__" : Str))=false) (hcd:(par==("__classdict__" : Str))=false)
  (call : ∀ env:Env,∃ pl:Sem Bool,eval (.Call (.Attribute (.Name base_ p1) "__init__" p2) [.Name "self" p3,.Constant (.str msg) j p4] [] p5) env=(do
   let ov ← eval (.Name base_ p1) env
   standAt p2.atName
   let (g,first) ← holding [ov] (getMethod ov "__init__" pl)
   callWith p5 g first (backTo p5 (starEach [.Name "self" p3,.Constant (.str msg) j p4] env)) (backToKw p5 (keywordEach [] env))))
  (body:defBody st=[.Expr (.Call (.Attribute (.Name base_ p1) "__init__" p2) [.Name "self" p3,.Constant (.str msg) j p4] [] p5) p6,.Assign [.Attribute (.Name "self" p7) f p8] (.Name par p9) p10])
  (bI:L2.Binds K fd ["self",par] []) (bK:KwI K fd ["self",par] f):gn P w K mg base x f:=
 ⟨b,C,fI,fd,["self",par],gC,oc,iC,dF (by simpa [PySem.W.isFn] using tI),N5 F S B hs hp hx hd hcd call body,bI,bK⟩
theorem qb {x qual f:Str} {st:Stmt} {g:Addr} {fd:FuncData} {ps:List Str} (F:L2.Fun K x qual st g fd) (h : ∀ (kV doc pm:Value) (an:Option Addr) (cdv ct:Value) (u w:Value),
  bindArgs (PySem.W.fnOf x qual (defArgs st) (defBody st) (defScope st) .none kV doc pm an cdv ct) ⟨[u],[(f,w)]⟩=pure (ps.zip [u,w])):KwI K fd ps f:=by
 obtain ⟨oc,od,kV,doc,pm,an,cdv,ct,osl,rfl,look,code⟩:=F.ex
 exact λs u w _=>BindsTo.of_eq (h kV doc pm an cdv ct u w)
theorem t9 {C:Addr} {x f:Str} (ns:PySem.W.nsIn K mainGlobals x=some (some (.ref C))) (a:Ask K C f) (n1:PySem.W.mroIn K C (.type "str")=some false) (n2:PySem.W.mroIn K C (.type "int")=some false) (n3:PySem.W.mroIn K C (.type "bool")=some false) (n4:PySem.W.mroIn K C (.type "list")=some false) (n5:PySem.W.mroIn K C (.type "tuple")=some false) (n6:PySem.W.mroIn K C (.type "dict")=some false):XcK K C x f:=
 ⟨ns,a,λn hn=>by
  simp only [cG,fm,or_false] at hn
  rcases hn with rfl | rfl | rfl | rfl | rfl | rfl <;> assumption⟩
end
theorem Lm {K:PySem.W.Frag} {C:Addr} {o:Obj} (h:K.lookup C=some o):PySem.W.clsIn K C=PySem.W.clsIn [(C,o)] C:=by
 unfold PySem.W.clsIn
 rw [h]
 simp [List.lookup]
theorem w7 {K:PySem.W.Frag} {C:Addr} {o:Obj} {tl:List Value} {n:String} (h:K.lookup C=some o) (e:(PySem.W.excInitIn [(C,o)] C tl n&&PySem.W.excOver [(C,o)] C tl)=true):PySem.W.excInitIn K C tl n=true∧PySem.W.excOver K C tl=true:=by
 rw [ai] at e
 refine ⟨?_,?_⟩
 ·have e1:=e.1
  unfold PySem.W.excInitIn at e1 ⊢
  rw [h]
  simpa [List.lookup] using e1
 ·have e2:=e.2
  unfold PySem.W.excOver at e2 ⊢
  rw [Lm h]
  exact e2
theorem qU {K:PySem.W.Frag} {b:Bs} {C:Addr} {f:Str} {o:Obj} (h:K.lookup C=some o) (e:(PySem.W.excInitIn [(C,o)] C b.tail b.new&&PySem.W.excOver [(C,o)] C b.tail)=true) (hd:PySem.W.hasDictIn K C=true) (tk:PySem.W.takerIn K C f=some none)
  (sa:PySem.W.findIn K (.ref C) "__setattr__" = some (some (.builtin "object.__setattr__"))) (exC:PySem.W.subIn K (.ref C) (.type "BaseException")=some true) (tyC:PySem.W.typeIn K (.ref C)=some (.type "type")) (kC:PySem.W.keepIn K (.ref C)=true):Oc K b C f:=
 ⟨(w7 h e).1,(w7 h e).2,hd,tk,sa,exC,tyC,kC⟩
theorem xa {α:Type} {n:Addr} {c:α} : ∀ {l:List (Addr × α)},l.lookup n=some c→(n,c)∈l
 | [],h=>by cases h
 | (m,y)::l,h=>by
  rw [List.lookup_cons] at h
  cases e:n==m with
  | true =>
   rw [e] at h
   cases h
   rw [beq_iff_eq] at e
   rw [e]
   exact bu
  | false =>
   rw [e] at h
   exact aE _ (xa h)
noncomputable def jX (e:Addr × Obj):Option (Addr × Addr):=match e.2.data with
 | .fields vs=>(match (vs[1]? : Option Value),(vs[11]? : Option Value) with
  | some (.str q _),some (.ref P)=>if q ++ ".<locals>." ++ "<lambda>" = d8 P then some (e.1,P) else none
  | _,_=>none)
 | _=>none
noncomputable def OS (K:PySem.W.Frag) (ts:List Addr):Bool:=(K.filterMap jX).all λp=>ts.contains p.2&&PySem.W.codeHdIn K p.1 p.2&&(K.lookup p.2).isNone
theorem vE {K:PySem.W.Frag} {c P:Addr} {q:Str} (h:MkK K c P q):(c,P)∈K.filterMap jX:=by
 obtain ⟨o,vs,t,h1,h2,h3,h4,h5⟩:=h
 refine List.mem_filterMap.mpr ⟨(c,o),xa h1,?_⟩
 unfold jX
 simp only [h2,h3,h4,h5,if_true]
theorem Js {K:PySem.W.Frag} {H:Hp} (e : ∀ p∈K.filterMap jX,H p.2=some (.tbl #[])):jy K H:=λc P q m=>⟨rfl,LamX.TabS.nil (e (c,P) (vE m))⟩
theorem KR {l:PySem.W.OpenLaw} {n k:Nat} {q:Program} {loose:List Str} {XP:(Str→Option Value)→Heap→Prop} {YP:World→Heap→Prop} {d:DefRec} {K:Params→PySem.W.Frag} {x:Str} {m:List D→Rs D} {ts:List Addr}
  (hn:l.most=some n) (hn2:n≤1000000) (hdf:d.params.defaults=[]) (room:Room k callerA) (hY : ∀ (w:World) (h:Heap),YP w h→(K w.params).In h)
  (hT : ∀ (w:World) (h:Heap),YP w h → ∀ P∈ts,h.get? P=some { cls:=.none,data:=.fields #[] }) (chk : ∀ w:World,OS (K w.params) ts=true)
  (F : ∀ (w:World) (mg:Str→Option Value) (fa:Addr) (h:Heap),(K w.params).In h→h.Ns mainGlobals mg→mg d.name=some (.ref fa) → ∃ fd:FuncData,(∀ (s:Shared) (u:Value),BindsTo s fd ⟨[u],[]⟩ [(x,u)]) ∧
   ∀ base:Heap,(K w.params).In base→base.Ns mainGlobals mg→(∀ c P q,MkK (K w.params) c P q→LamX.TabB base mg c P)→FnG l.prog w (K w.params) mg base k fa fd [x] (spF (K w.params) mg 1 m))
  (law : ∀ ns:List Int,ns.length≤n→m [.list (ns.map PyData.int)] = .ok (.bool true)):PySem.W.WalkO q loose XP YP l.row.toRowW d [] (λf vs=>PySem.call f vs):=by
 refine Att.attach_call hn hdf λw s₀ s₁ mg mb fa o pm cd doc a vs ns G Y ho hd hcd hmg hobj hints hlen hg => ?_
 obtain ⟨fd,hb,hF⟩:=F w mg fa _ (hY w _ Y) G.T.g hmg
 have ck : ∀ p∈(K w.params).filterMap jX,p.2∈ts∧PySem.W.codeHdIn (K w.params) p.1 p.2=true∧(K w.params).lookup p.2=none:=λp hp=>by
  have z:=j5.mp (chk w) p hp
  rw [ai,ai,Option.isNone_iff_eq_none] at z
  exact ⟨by simpa using z.1.1,z.1.2,z.2⟩
 refine L_ (cs:=(K w.params).filterMap jX) (hY w _ Y) G.T.g G.T.b G.T.builtins G.T.nolimit hg (λp hp=>hT w _ Y p.2 (ck p hp).1) (λp hp=>PySem.W.codeHd_of_K (hY w _ Y) (ck p hp).2.1) (λp hp=>(ck p hp).2.2) G.T.bmain hobj hints (aF hlen (aF hn2 b9)) room
  (λbase kin ns tb=>hF base kin ns λc P q m=>tb (c,P) (vE m)) hb λH hH hS => ?_
 refine ⟨[],[.list (ns.map PyData.int)],⟨λa ha=>(by cases ha),Js hH⟩,.cons (.lst (by rw [AL]; exact hS) (by rw [aq]; exact aF hlen hn2) (q_ ns)) .nil,rfl,?_⟩
 rw [law ns hlen]
 intro H' v _ hv
 exact hv.isB
end Pf

set_option maxRecDepth 100000
namespace T
open PySem Pf
noncomputable def is_integer:Ss:=(.cons (.ret (.and (.isa (.ex (.var 0)) .int) (.not (.isa (.ex (.var 0)) .bool)))) .nil)
noncomputable def is_between:Ss:=(.cons (.ret (.and (.call 0 (.cons (.var 0) .nil)) (.ch .le .le (.ex (.var 1)) (.ex (.var 0)) (.ex (.var 2))))) .nil)
noncomputable def is_name:Ss:=(.cons (.ret (.and (.isa (.ex (.var 0)) .str) (.and (.ch .le .le (.ex (.int 1)) (.ex (.len (.ex (.var 0)))) (.ex (.gl 2))) (.bi .alll (.cons (.lc (.nm 1) [1] (.val (.var 0)) .none (.cmp .inn (.ex (.var 1)) (.ex (.gl 0)))) .nil))))) .nil)
noncomputable def is_value:Ss:=(.cons (.ret (.and (.cmp .le (.ex (.len (.ex (.var 0)))) (.ex (.gl 2))) (.bi .alll (.cons (.lc (.nm 1) [1] (.val (.var 0)) .none (.cmp .inn (.ex (.var 1)) (.ex (.bin .add (.gl 0) (.gl 1))))) .nil)))) .nil)
noncomputable def split_query:Ss:=(.cons (.ret (.lc (.nm 1) [1] (.val (.mt .split (.var 0) (.cons (.str "&") .nil))) .none (.mt .partition (.var 1) (.cons (.str "=") .nil)))) .nil)
noncomputable def is_query:Ss:=(.cons (.asg (.nm 1) (.call 5 (.cons (.var 0) .nil))) (.cons (.ife (.or (.cmp .gt (.ex (.len (.ex (.var 1)))) (.ex (.gl 5))) (.cmp .ne (.ex (.lenks (.tp [2,3,4]) [2,3,4] (.val (.var 1)) .none (.var 2))) (.ex (.len (.ex (.var 1)))))) (.cons (.ret (.bl false)) .nil) .nil) (.cons (.ret (.bi .alll (.cons (.lc (.tp [2,3,4]) [2,3,4] (.val (.var 1)) .none (.and (.call 3 (.cons (.var 2) .nil)) (.and (.cmp .eq (.ex (.var 3)) (.ex (.str "="))) (.call 4 (.cons (.var 4) .nil))))) .nil))) .nil)))
noncomputable def is_address:Ss:=(.cons (.ife (.not (.isa (.ex (.var 0)) .str)) (.cons (.ret (.bl false)) .nil) .nil) (.cons (.asg (.tp [1,2,3]) (.mt .partition (.var 0) (.cons (.str "?") .nil))) (.cons (.asg (.nm 4) (.mt .split (.var 1) (.cons (.str "/") .nil))) (.cons (.ife (.or (.cmp .gt (.ex (.len (.ex (.var 4)))) (.ex (.bin .add (.gl 4) (.int 1)))) (.not (.bi .alll (.cons (.lc (.nm 5) [5] (.val (.var 4)) .none (.call 3 (.cons (.var 5) .nil))) .nil)))) (.cons (.ret (.bl false)) .nil) .nil) (.cons (.ret (.or (.cmp .eq (.ex (.var 2)) (.ex (.str ""))) (.call 6 (.cons (.var 3) .nil)))) .nil)))))
noncomputable def L7:Ss:=(.cons (.asg (.nm 3) (.bi .max2 (.cons (.var 0) (.cons (.bin .sub (.neg (.int 1)) (.var 0)) .nil)))) (.cons (.asg (.nm 4) (.var 3)) (.cons (.own 5 .nil) (.cons (.for (.nm 6) (.r1 (.len (.ex (.var 2)))) (.cons (.ife (.and (.cmp .ge (.ex (.var 3)) (.ex (.bin .pow (.int 10) (.int 18)))) (.cmp .gt (.ex (.var 4)) (.ex (.int 0)))) (.cons (.app 5 (.bin .mod (.var 4) (.ix (.var 2) (.var 6)))) (.cons (.asg (.nm 4) (.bin .fdiv (.var 4) (.ix (.var 2) (.var 6)))) .nil)) (.cons (.asg (.nm 7) (.bin .mod (.bin .pow (.bin .add (.bin .add (.bin .mod (.var 3) (.int 2147483629)) (.bin .mul (.int 7919) (.var 1))) (.int 1)) (.int 3)) (.int 2147483647))) (.cons (.asg (.nm 7) (.bin .mod (.bin .mul (.bin .add (.var 7) (.bin .mul (.int 104729) (.bin .add (.var 6) (.int 1)))) (.bin .add (.var 6) (.int 3))) (.int 2147483629))) (.cons (.asg (.nm 7) (.bin .mod (.bin .mul (.bin .mod (.bin .pow (.var 7) (.int 5)) (.int 2147483647)) (.int 48271)) (.int 2147483629))) (.cons (.app 5 (.bin .mod (.bin .fdiv (.var 7) (.int 16)) (.ix (.var 2) (.var 6)))) .nil))))) .nil)) (.frz 5 (.cons (.ret (.var 5)) .nil))))))
noncomputable def require_address:Ss:=(.cons (.ife (.not (.call 7 (.cons (.var 0) .nil))) (.cons (.rai "InvalidAddress" "value" (.var 0)) .nil) .nil) .nil)
noncomputable def host_of:Ss:=(.cons (.exp (.call 8 (.cons (.var 0) .nil))) (.cons (.ret (.ix (.mt .split (.ix (.mt .partition (.var 0) (.cons (.str "?") .nil)) (.int 0)) (.cons (.str "/") .nil)) (.int 0))) .nil))
noncomputable def segments_of:Ss:=(.cons (.exp (.call 8 (.cons (.var 0) .nil))) (.cons (.ret (.sl (.mt .split (.ix (.mt .partition (.var 0) (.cons (.str "?") .nil)) (.int 0)) (.cons (.str "/") .nil)) (.some (.int 1)) .none)) .nil))
noncomputable def is_trap:Ss:=(.cons (.asg (.nm 1) (.call 10 (.cons (.var 0) .nil))) (.cons (.for (.nm 2) (.r2 (.int 1) (.bin .add (.bin .fdiv (.len (.ex (.var 1))) (.int 3)) (.int 1))) (.cons (.for (.nm 3) (.r1 (.bin .add (.bin .sub (.len (.ex (.var 1))) (.bin .mul (.int 3) (.var 2))) (.int 1))) (.cons (.asg (.nm 4) (.sl (.var 1) (.some (.var 3)) (.some (.bin .add (.var 3) (.var 2))))) (.cons (.ife (.cmp .eq (.ex (.sl (.var 1) (.some (.var 3)) (.some (.bin .add (.var 3) (.bin .mul (.int 3) (.var 2)))))) (.ex (.bin .mul (.var 4) (.int 3)))) (.cons (.ret (.bl true)) .nil) .nil) .nil))) .nil)) (.cons (.ret (.bl false)) .nil)))
noncomputable def is_candidate:Ss:=(.cons (.ret (.and (.isa (.ex (.var 0)) .tuple) (.and (.cmp .eq (.ex (.len (.ex (.var 0)))) (.ex (.int 2))) (.and (.call 7 (.cons (.ix (.var 0) (.int 0)) .nil)) (.call 1 (.cons (.ix (.var 0) (.int 1)) (.cons (.int 1) (.cons (.gl 25) .nil)))))))) .nil)
noncomputable def require_candidates:Ss:=(.cons (.ife (.or (.not (.isa (.ex (.var 0)) .list)) (.cmp .gt (.ex (.len (.ex (.var 0)))) (.ex (.gl 24)))) (.cons (.rai "InvalidCandidates" "index" .non) .nil) .nil) (.cons (.own 1 .nil) (.cons (.for (.tp [2,3]) (.enum (.var 0)) (.cons (.ife (.or (.not (.call 97 (.cons (.var 3) .nil))) (.cmp .inn (.ex (.ix (.var 3) (.int 0))) (.ov 1))) (.cons (.rai "InvalidCandidates" "index" (.var 2)) .nil) .nil) (.cons (.app 1 (.ix (.var 3) (.int 0))) .nil))) .nil)))
noncomputable def require_small:Ss:=(.cons (.ife (.not (.call 1 (.cons (.var 0) (.cons (.int 0) (.cons (.gl 27) .nil))))) (.cons (.rai "InvalidNumber" "value" (.var 0)) .nil) .nil) .nil)
noncomputable def fits:Ss:=(.cons (.for (.tp [4,5]) (.val (.var 0)) (.cons (.ife (.or (.cmp .eq (.ex (.var 5)) (.ex (.var 2))) (.and (.cmp .eq (.ex (.call 9 (.cons (.var 5) .nil))) (.ex (.call 9 (.cons (.var 2) .nil)))) (.cmp .lt (.ex (.bin .sub (.var 1) (.var 4))) (.ex (.var 3))))) (.cons (.ret (.bl false)) .nil) .nil) .nil)) (.cons (.ret (.bl true)) .nil))
end T

set_option maxRecDepth 100000
namespace Pf
open PySem PySem.Spec L2
theorem dD {α:Type} {us:List α} (hl:us.length=1) : ∃ a,us=[a]:=by
 match us,hl with
 | [a],_=>exact ⟨a,rfl⟩
theorem oR {α:Type} {us:List α} (hl:us.length=2) : ∃ a b,us=[a,b]:=by
 match us,hl with
 | [a,b],_=>exact ⟨a,b,rfl⟩
theorem rf {α:Type} {us:List α} (hl:us.length=3) : ∃ a b c,us=[a,b,c]:=by
 match us,hl with
 | [a,b,c],_=>exact ⟨a,b,c,rfl⟩
theorem xg {α:Type} {us:List α} (hl:us.length=4) : ∃ a b c d,us=[a,b,c,d]:=by
 match us,hl with
 | [a,b,c,d],_=>exact ⟨a,b,c,d,rfl⟩
section
variable {K:PySem.W.Frag} {mg:Str→Option Value}
end
end Pf

set_option maxRecDepth 100000
set_option maxHeartbeats 1000000
namespace Pf
open PySem PySem.Spec PyProof.Rows L2
noncomputable def cj (ks:List D):Nat→Nat
 | 0=>0
 | j+1=>if PySem.W.dataLt (ks.getD (j+1) .none) (ks.getD (cj ks j) .none)=true then j+1 else cj ks j
theorem vU (ks:List D) : ∀ j,cj ks j≤j
 | 0=>aC _
 | j+1=>by
  unfold cj
  split
  ·exact aC _
  ·exact mB (vU ks j)
theorem zr {H:Hp} {p:Addr} {o:HO} {O:List Addr}:msk (upd H p o) (p::O)=msk H (p::O):=by
 funext b
 by_cases hb:b∈p::O
 ·rw [cK hb,cK hb]
 ·rw [bc hb,bc hb,ax λe=>hb (by rw [e]; simp)]
theorem AJ {ks:List D} {j:Nat} {e:D} (h:ks[j]? = some e):ks.getD j .none=e:=by
 rw [List.getD_eq_getElem?_getD,h]; rfl
theorem zZ : ∀ {ks:List D},PyData.hasDictAll ks=false → ∀ x∈ks,x.hasDict=false
 | [],_,x,hx=>by cases hx
 | z::zs,nd,x,hx=>by
  simp only [PyData.hasDictAll,Bool.or_eq_false_iff] at nd
  rcases cG.mp hx with rfl | hx
  ·exact nd.1
  ·exact zZ nd.2 x hx
section
variable {X:Cx} {pins:List (Addr × Obj)} {σ:L2.St} {H:Hp} {s:Shared} {f l it S:Addr} {O:List Addr} {vs:List V} {ds ks:List D} {Q:VK}
noncomputable def xZ (X:Cx) (σ:L2.St) (H:Hp) (O:List Addr) (f:Addr) (ds ks:List D):Prop:=∀ (pins':List (Addr × Obj)) (Hi:Hp) (si:Shared) (O':List Addr) (j:Nat) (v:V) (u:Value) (d e:D),Inv X pins' σ Hi si→Same H Hi→Sm (msk H O) (msk Hi O')→Thr X.K Hi O'→ds[j]? = some d→ks[j]? = some e→Dn X.K (msk Hi O') v d→RelV v u →
 wpAny (model X.prog X.w) X.A.in1 (call (.ref f) [u]) (EP X pins' σ λy H'=>Same Hi H'∧Dn X.K (msk H' O') y e) (λ_ _=>False) si
theorem M0 (hc:X.calm=true) (hu:X.A.units+70<cLine) (hs:SqL X.K H l vs) (t:Thr X.K H O) (hd:aj X.K (msk H O) vs ds) (lk:ks.length=vs.length) (al:PySem.W.AlikeAll ks) (nd:PyData.hasDictAll ks=false) (dep : ∀ d∈ks,d.depth≤64)
  (key:xZ X σ H O f ds ks) (hS0:H S=none) (nSI:S≠it) (q : ∀ H' v,Same H H'→vs[cj ks (vs.length-1)]? = some v→Q v H') :
  ∀ (r j:Nat) (si:Shared) (Hi:Hp) (vb kb:V) (kd:D),vs.length-(j+1)=r→j+1≤vs.length→Inv X pins σ Hi si→Same H Hi→FpOk X pins Hi it→si.heap.IsListIter it l (j+1)→Hi S=some (.lst [vb,kb]) →
   vs[cj ks j]? = some vb→ks[cj ks j]? = some kd→Dn X.K (msk Hi (S::O)) kb kd →
   codeAny (model X.prog X.w) X.A (.builtin "min.loop" ⟨[.ref it,.ref f,.ref S],[]⟩) (λr s'=>match r with | .ok (.ret v)=>EP X pins σ Q v s' | .ok _=>False | .error e=>X.xe e s') si:=by
 have hname:(toString "min" ++ toString ".loop" : String) = "min.loop":=by decide
 intro r
 induction r with
 | zero =>
  intro j si Hi vb kb kd hr hj Ii sm fp st hS hvb hkd hkb
  have hin:j+1=vs.length:=by omega
  obtain ⟨its,rv,pl,sz⟩:=Ii.list (sm.seq hs)
  have hl:=rv.length
  obtain ⟨_,kits,n,rk,_,ka⟩:=Ii.lstM hS
  obtain ⟨f0,f1,f2,f3,f4,f5⟩:=id fp
  cases rk with
  | @cons _ ub _ _ rb rk' =>
  cases rk' with
  | @cons _ wb _ _ rw' rk'' =>
  cases rk''
  refine eR PySem.F.entry_min_loop ?_
  rw [gY kE _]
  show wpAny _ X.A.in1 (seqItems? (.ref S) >>= _) _ _ _
  refine af (fw ka rfl ?_)
  show wpAny _ X.A.in1 (tryCatch (pyNext (.ref it)) _ >>= _) _ _ _
  refine af (wpAny_tryCatch (wpAny_pyNext_list_end (Ii.ok.hd hc) st pl.isList (by simp; omega) λh' eb => ?_))
  have I1:Inv X pins σ Hi { si with heap:=h' }:=Ii.turned (t':=si.toks) (λb o hb e=>eb b o hb e) f0 f1 f3 f4 f5
  have ka1:=eb S _ nSI ka
  show wpAny _ X.A.in1 (updateSeq S (λ_ => #[]) >>= _) _ _ _
  refine af ?_
  refine wpAny_updateSeq ka1 rfl (af (wpAny_letGo (ah ?_)))
  have I2:=I1.lset (its':=[]) (t':=si.toks) (f:=λ_ => #[]) hS ka1 rfl .nil (cy _)
  refine ⟨vb,_,I2,rb,q _ _ (sm.gE hS0 hS) ?_⟩
  rw [← hin]
  exact hvb
 | succ r ih =>
  intro j si Hi vb kb kd hr hj Ii sm fp st hS hvb hkd hkb
  have hlt:j+1<vs.length:=by omega
  obtain ⟨its,rv,pl,sz⟩:=Ii.list (sm.seq hs)
  have hl:=rv.length
  obtain ⟨_,kits,n,rk,_,ka⟩:=Ii.lstM hS
  obtain ⟨f0,f1,f2,f3,f4,f5⟩:=id fp
  cases rk with
  | @cons _ ub _ _ rb rk' =>
  cases rk' with
  | @cons _ wb _ _ rw' rk'' =>
  cases rk''
  obtain ⟨v,hv⟩ : ∃ v,vs[j+1]? = some v:=⟨_,List.getElem?_eq_getElem hlt⟩
  obtain ⟨u,hu',rvu⟩:=rv.get hv
  obtain ⟨d,hdj,dv⟩:=dN hd hv
  obtain ⟨e,hej⟩ : ∃ e,ks[j+1]? = some e:=⟨_,List.getElem?_eq_getElem (by omega)⟩
  have mem:e∈ks:=eA hej
  have memb:kd∈ks:=eA hkd
  refine eR PySem.F.entry_min_loop ?_
  rw [gY kE _]
  show wpAny _ X.A.in1 (seqItems? (.ref S) >>= _) _ _ _
  refine af (fw ka rfl ?_)
  show wpAny _ X.A.in1 (tryCatch (pyNext (.ref it)) _ >>= _) _ _ _
  refine af (wpAny_tryCatch (wpAny_pyNext_list_item st pl.isList (x:=u) (by simpa using hu') λh' st' sb => ?_))
  have I1:Inv X pins σ Hi { si with heap:=h' }:=Ii.turned (t':=si.toks) (λb o hb e=>(sb.2 b hb).trans e) f0 f1 f3 f4 f5
  obtain ⟨oI,hoI,hoc,hod⟩:=id st'
  have I2:=I1.pinned (fp:=[it]) (λb hb=>by
   obtain rfl:b=it:=by simpa using hb
   exact fp) (λb hb=>by
   obtain rfl:b=it:=by simpa using hb
   exact ⟨_,hoI,λv z=>by rw [hod] at z; cases z⟩)
  have pa:(it,oI)∈pinsAt [it] h':=mem_pinsAt (by simp) hoI
  generalize hpl:pinsAt [it] ({ si with heap:=h' }:Shared).heap=pn at I2
  have pa:(it,oI)∈pn:=by rw [← hpl]; exact pa
  have tS:Thr X.K Hi (S::O):=⟨λb hb=>(by
   rcases cG.mp hb with rfl | hb
   ·rw [hS]; exact Option.some_ne_none _
   ·exact (t.same sm).nn b hb),(t.same sm).tb⟩
  show wpAny _ X.A.in1 (tryCatch (holding [u] (call (.ref f) [u])) _ >>= _) _ _ _
  refine af (wpAny_tryCatch (bA (wpAny_mono (key _ Hi _ (S::O) (j+1) v u d e I2 sm (dZ hS0 sm.sm) tS hdj hej (bf (dZ hS0 sm.sm) dv) rvu) (λw s2 he => ?_) λ_ _ hF=>hF.elim)))
  obtain ⟨y,H1,J,ry,s1,dy⟩:=he
  obtain ⟨g1,g2,_⟩:=J.pin (it,oI) (dW _ (dW _ pa))
  have g1:s2.heap.get? it=some oI:=g1
  have g2:H1 it=none:=g2
  have J0:=J.unpinned
  have hS1:H1 S=some (.lst [vb,kb]):=s1 _ _ hS
  obtain ⟨_,kits2,n2,rk2,_,ka2⟩:=J0.lstM hS1
  have hkb1:=bf (aH (O:=S::O) s1.sm) hkb
  have fp1 : ∀ {F:Hp},F it=none→FpOk X pins F it:=λz=>⟨z,f1,f2,f3,f4,f5⟩
  have st2:s2.heap.IsListIter it l (j+1+1):=⟨oI,g1,hoc,hod⟩
  have nde:=zZ nd
  cases rk2 with
  | @cons _ ub2 _ _ rb2 rk2' =>
  cases rk2' with
  | @cons _ wb2 _ _ rw2 rk2'' =>
  cases rk2''
  obtain ⟨as1,re⟩:=Dp.reads J0 e y w (kL (bf dM dy) (nde e mem)) ry
  obtain ⟨as2,rk⟩:=Dp.reads J0 kd kb wb (kL (bf dM hkb1) (nde kd memb)) rw'
  have dm:=dep e mem
  have dmin:=Nat.min_le_left e.depth kd.depth
  show wpAny _ X.A.in1 (tryCatch (holding [u,w] (richCompare .Lt w wb >>= _)) _ >>= _) _ _ _
  refine af (wpAny_tryCatch (bA (af (PySem.W.rcLt_alike e kd X.A.in1 s2 w wb as1 as2 re rk (al.1 _ mem _ memb) (al.2 _ mem) (by show X.A.units+1+_<_; omega) X.prog X.w _ _ ?_))))
  refine af (bA (wpAny_truthy_bool ?_))
  refine af (wpAny_letGo (ah ?_))
  have ej:ks.getD (j+1) .none=e:=AJ hej
  have eb:ks.getD (cj ks j) .none=kd:=AJ hkd
  cases hb:PySem.W.dataLt e kd with
  | true =>
   simp only [if_true]
   have nx:cj ks (j+1)=j+1:=by unfold cj; rw [ej,eb,hb]; rfl
   refine af ?_
   refine wpAny_updateSeq ka2 rfl (af (wpAny_letGo ?_))
   rw [hname]
   have J1:=J0.lset (its':=[u,w]) (t':=s2.toks) (f:=λ_ => #[u,w]) hS1 ka2 rfl (.cons rvu (.cons ry .nil)) (by show 2≤sizeLine; decide)
   refine ah ⟨plainId_quiet kE _,ih (j+1) _ _ v y e (by omega) hlt J1 ((sm.trans s1).gE hS0 hS1) (fp1 (by rw [ax nSI.symm]; exact g2)) ⟨oI,(Heap.get?_update_other _ _ nSI).trans g1,hoc,hod⟩ aS (by rw [nx]; exact hv) (by rw [nx]; exact hej) (by rw [zr]; exact dy)⟩
  | false =>
   simp only [cV,if_false]
   have nx:cj ks (j+1)=cj ks j:=by
    show (if _ then _ else _)=_
    rw [ej,eb,hb,if_neg aa]
   refine af (wpAny_letGo ?_)
   rw [hname]
   exact ah ⟨plainId_quiet kE _,ih (j+1) _ _ vb kb kd (by omega) hlt J0 (sm.trans s1) (fp1 g2) st2 hS1 (by rw [nx]; exact hvb) (by rw [nx]; exact hkd) hkb1⟩
theorem FC (hc:X.calm=true) (hu:X.A.units+70<cLine) (I:Inv X pins σ H s) (hs:SqL X.K H l vs) (t:Thr X.K H O) (hd:aj X.K (msk H O) vs ds) (lk:ks.length=vs.length) (hne:0<vs.length) (al:PySem.W.AlikeAll ks) (nd:PyData.hasDictAll ks=false) (dep : ∀ d∈ks,d.depth≤64)
  (key:xZ X σ H O f ds ks) (q : ∀ H' v,Same H H'→vs[cj ks (vs.length-1)]? = some v→Q v H') :
  wpAny (model X.prog X.w) X.A (call (.builtin "min") [.ref l] [(Str.ofString "key",.ref f)]) (EP X pins σ Q) X.xe s:=by
 have hname:(toString "min" ++ toString ".loop" : String) = "min.loop":=by decide
 obtain ⟨its,rv,pl,sz⟩:=I.list hs
 have hl:=rv.length
 refine kmk_tree PySem.F.kind_min PySem.F.plain_min PySem.F.entry_min (kmk_min_key _ _) ?_
 show wpAny _ X.A.in1 (Builtin.Builtins.bindParams "min" ["key", "default"] 0 ⟨[],[(Str.ofString "key",.ref f)]⟩ >>= _) _ _ s
 refine af (wpAny_of_eq (show Builtin.Builtins.bindParams "min" ["key", "default"] 0 ⟨[],[(Str.ofString "key",.ref f)]⟩=pure [some (.ref f),none] from rfl) ?_)
 refine af (ah ?_)
 refine af (kj pl.isList ?_)
 refine af (wpAny_newList ?_ (cy _))
 rw [hname]
 refine ah ⟨plainId_quiet kE _,?_⟩
 have hI:H s.heap.objs.size=none:=I.hok.fresh (aC _)
 have fpI:FpOk X pins H s.heap.objs.size:=I.fpOk (aC _) hI
 have I2:Inv X pins σ H { s with heap:=s.heap.push { cls:=.type "list_iterator",data:=.fields #[.ref l,.int 0 0] },toks:=s.toks }:=I.kept λb o e=>aD _ e
 have szS:(s.heap.push { cls:=.type "list_iterator",data:=.fields #[.ref l,.int 0 0] }).objs.size=s.heap.objs.size+1:=size_push' ..
 have gI:((s.heap.push { cls:=.type "list_iterator",data:=.fields #[.ref l,.int 0 0] }).push (seqObj "list" #[] 0)).get? s.heap.objs.size=some { cls:=.type "list_iterator",data:=.fields #[.ref l,.int 0 0] }:=aD _ (bT _ rfl)
 have gS:((s.heap.push { cls:=.type "list_iterator",data:=.fields #[.ref l,.int 0 0] }).push (seqObj "list" #[] 0)).get? (s.heap.push { cls:=.type "list_iterator",data:=.fields #[.ref l,.int 0 0] }).objs.size=some (seqObj "list" #[] 0):=bT _ rfl
 have I3:Inv X pins σ (upd H (s.heap.push { cls:=.type "list_iterator",data:=.fields #[.ref l,.int 0 0] }).objs.size (.lst [])) { s with heap:=(s.heap.push { cls:=.type "list_iterator",data:=.fields #[.ref l,.int 0 0] }).push (seqObj "list" #[] 0),toks:=s.toks }:=I2.lnew (its:=[]) (ys:=[]) (t':=s.toks) .nil (cy _)
 have hS0:H (s.heap.push { cls:=.type "list_iterator",data:=.fields #[.ref l,.int 0 0] }).objs.size=none:=I2.hok.fresh (aC _)
 have nSI:(s.heap.push { cls:=.type "list_iterator",data:=.fields #[.ref l,.int 0 0] }).objs.size≠s.heap.objs.size:=by rw [szS]; exact fS (Nat.lt_succ_self _)
 generalize (s.heap.push { cls:=.type "list_iterator",data:=.fields #[.ref l,.int 0 0] }).objs.size=S at gS I3 hS0 nSI ⊢
 generalize hh3:(s.heap.push { cls:=.type "list_iterator",data:=.fields #[.ref l,.int 0 0] }).push (seqObj "list" #[] 0)=h3 at gI gS I3 ⊢
 generalize s.heap.objs.size=it at hI fpI gI nSI ⊢
 have sm3:Same H (upd H S (.lst [])):=a0 hS0
 have fp3:FpOk X pins (upd H S (.lst [])) it:=⟨by rw [ax nSI.symm]; exact hI,fpI.2⟩
 obtain ⟨its3,rv3,pl3,sz3⟩:=I3.list (sm3.seq hs)
 have st3:h3.IsListIter it l 0:=⟨_,gI,rfl,rfl⟩
 obtain ⟨f0,f1,f2,f3,f4,f5⟩:=id fp3
 obtain ⟨v,hv⟩ : ∃ v,vs[0]? = some v:=⟨_,List.getElem?_eq_getElem hne⟩
 obtain ⟨u,hu',rvu⟩:=rv3.get hv
 obtain ⟨d,hdj,dv⟩:=dN hd hv
 obtain ⟨e,hej⟩ : ∃ e,ks[0]? = some e:=⟨_,List.getElem?_eq_getElem (by omega)⟩
 refine eR PySem.F.entry_min_loop ?_
 rw [gY kE _]
 show wpAny _ X.A.in1 (seqItems? (.ref S) >>= _) _ _ _
 refine af (fw gS rfl ?_)
 show wpAny _ X.A.in1 (tryCatch (pyNext (.ref it)) _ >>= _) _ _ _
 refine af (wpAny_tryCatch (wpAny_pyNext_list_item st3 pl3.isList (x:=u) (by simpa using hu') λh' st' sb => ?_))
 have I4:Inv X pins σ (upd H S (.lst [])) { s with heap:=h',toks:=s.toks }:=I3.turned (t':=s.toks) (λb o hb e=>(sb.2 b hb).trans e) f0 f1 f3 f4 f5
 obtain ⟨oI,hoI,hoc,hod⟩:=id st'
 have I5:=I4.pinned (fp:=[it]) (λb hb=>by
  obtain rfl:b=it:=by simpa using hb
  exact fp3) (λb hb=>by
  obtain rfl:b=it:=by simpa using hb
  exact ⟨_,hoI,λv z=>by rw [hod] at z; cases z⟩)
 have pa:(it,oI)∈pinsAt [it] h':=mem_pinsAt (by simp) hoI
 generalize hpl:pinsAt [it] ({ s with heap:=h',toks:=s.toks }:Shared).heap=pn at I5
 have pa:(it,oI)∈pn:=by rw [← hpl]; exact pa
 have tS:Thr X.K (upd H S (.lst [])) (S::O):=⟨λb hb=>(by
  rcases cG.mp hb with rfl | hb
  ·rw [aS]; exact Option.some_ne_none _
  ·exact (t.same sm3).nn b hb),(t.same sm3).tb⟩
 show wpAny _ X.A.in1 (tryCatch (holding [u] (call (.ref f) [u])) _ >>= _) _ _ _
 refine af (wpAny_tryCatch (bA (wpAny_mono (key _ (upd H S (.lst [])) _ (S::O) 0 v u d e I5 sm3 (dZ hS0 sm3.sm) tS hdj hej (bf (dZ hS0 sm3.sm) dv) rvu) (λw s2 he => ?_) λ_ _ hF=>hF.elim)))
 obtain ⟨y,H1,J,ry,s1,dy⟩:=he
 obtain ⟨g1,g2,_⟩:=J.pin (it,oI) (dW _ (dW _ pa))
 have g1:s2.heap.get? it=some oI:=g1
 have g2:H1 it=none:=g2
 have J0:=J.unpinned
 have hS1:H1 S=some (.lst []):=s1 _ _ aS
 obtain ⟨_,kits2,n2,rk2,_,ka2⟩:=J0.lstM hS1
 cases rk2
 have J1:=J0.lset (its':=[u,w]) (t':=s2.toks) (f:=λ_ => #[u,w]) hS1 ka2 rfl (.cons rvu (.cons ry .nil)) (by show 2≤sizeLine; decide)
 show wpAny _ X.A.in1 (updateSeq S (λ_ => #[u,w]) >>= _) _ _ _
 refine af ?_
 refine wpAny_updateSeq ka2 rfl ?_
 rw [hname]
 exact ah ⟨plainId_quiet kE _,M0 hc hu hs t hd lk al nd dep key hS0 nSI q _ 0 _ _ v y e rfl hne J1 ((sm3.trans s1).gE hS0 hS1) ⟨by rw [ax nSI.symm]; exact g2,f1,f2,f3,f4,f5⟩ ⟨oI,(Heap.get?_update_other _ _ nSI).trans g1,hoc,hod⟩ aS hv hej (by rw [zr]; exact dy)⟩
end
end Pf

set_option maxRecDepth 100000
set_option maxHeartbeats 1000000
namespace Pf
open PySem PySem.Spec PyProof.Rows L2 LamX NdefX
noncomputable def fZ (f:Addr) (o:Obj):HO:=.ext λh=>h.get? f=some o
section
variable {X:Cx} {pins:List (Addr × Obj)} {σ:L2.St} {H:Hp} {s:Shared}
theorem xQ {P:Program} {w:World} {H:Hp} {h:Heap} {f:Addr} {o:Obj} (e:h.get? f=some o):ObjOk P w H h f (fZ f o):=⟨e,⟨o,e⟩,λh1 h2 z k=>k _ z⟩
theorem Kr {c P:Addr} {q:Str} {params:Arguments} {body:Expr} {scope:Scope} {pos:Pos} {E:Value→Shared→Prop} {Q:Value→Shared→Prop} (I:Inv X pins σ H s) (TB:TabB X.base X.mg c P) (hcode:X.env.code = .ref c)
  (hq:X.env.qual ++ "<lambda>" = q) (hT:oU H P q) (hdef:defaultsOf params X.env=([],[])) (hfree : ∀ y∈scope.names,y.2 = .free → ∃ c,X.env.cells.lookup y.1=some c)
  (h : ∀ (f c':Addr) (pm ctv:Value) (H1:Hp) (s':Shared),Inv X pins σ H1 s'→Same H H1→H1 f=some (fZ f (PySem.W.kla_obj "<lambda>" q params body scope (cloFrom X.env.cells scope.names []) pm c' ctv))→H1 c'=some (CodeO c' q)→Q (.ref f) s') :
  wpAny (model X.prog X.w) X.A (eval (.Lambda params body scope pos) X.env) Q E s:=by
 obtain ⟨nm,ps,hP,ht,ha⟩:=hT
 refine PySem.W.kla_eval hdef ?_
 rw [hq]
 have bP:s.heap.BuiltinsAt X.mg P:=TB.bm.keeps I.bk
 have hP':s.heap.get? P=some { cls:=.none,data:=.fields ps }:=I.hok P _ hP
 cases hc:codeAmong pos ps.toList with
 | none =>
  refine PySem.W.kla_makeFunction (mg:=X.mg) (c:=c) (P:=P) (ps:=ps) (closure_ok hfree) I.ok.glob (I.mod.glob.keeps I.bk) hcode (TB.code.keeps I.bk) hP' ht hc TB.gP bP λc' ctv h' tk hx hge hlt hrec htb => ?_
  obtain ⟨c2,oc,vs,t,e2,hoc,hd,hv⟩:=hrec
  cases e2
  have nC:H c'=none:=I.hok.fresh hge
  have hsz:s.heap.objs.size≤h'.objs.size:=aF hge (Nat.le_of_lt hlt)
  have nF:H h'.objs.size=none:=I.hok.fresh hsz
  have nPc:P≠c':=dO hP nC
  have I1:=inv_table (t':=tk) (more:=#[rawInt pos.line,rawInt pos.col,.ref c']) (h':=h') I hP (λb o hb e=>hx b o hb e) htb hge ⟨oc,vs,t,hoc,hd,hv⟩
  have I2:=I1.laid (t':=tk) (a:=h'.objs.size) (o:=fZ h'.objs.size (PySem.W.kla_obj "<lambda>" q params body scope (cloFrom X.env.cells scope.names []) ((X.mg "__name__").getD .none) c' ctv)) (h':=h'.push (PySem.W.kla_obj "<lambda>" q params body scope (cloFrom X.env.cells scope.names []) ((X.mg "__name__").getD .none) c' ctv)) (λb o e=>aD _ e) (aC _) (xQ (bT _ rfl))
  have n1:h'.objs.size≠c':=fS hlt
  have n2:h'.objs.size≠P:=fS (gX (bD hP') hsz)
  have eL:(ps ++ #[rawInt pos.line,rawInt pos.col,.ref c']).toList=ps.toList++[rawInt pos.line,rawInt pos.col,.ref c']:=by simp
  refine h h'.objs.size c' ((X.mg "__name__").getD .none) ctv _ _ I2 ⟨⟨λb o e nt => ?_,λb hb=>f7 (f7 (f7 hb))⟩,λP0 q0 g => ?_⟩ aS (by rw [ax n1.symm]; exact aS)
  ·rw [ax (dO e nF),ax (dO e nC),ax (λz=>nt ps (bQ (e.symm.trans (by rw [z]; exact hP))))]
   exact e
  ·obtain ⟨g0,ps0,g1,g2,g3⟩:=g
   have ext : ∀ b u,H b=some u→(∀ ps,u ≠ .tbl ps)→(upd (upd (upd H P (.tbl (ps ++ #[rawInt pos.line,rawInt pos.col,.ref c']))) c' (CodeO c' q)) h'.objs.size (fZ h'.objs.size (PySem.W.kla_obj "<lambda>" q params body scope (cloFrom X.env.cells scope.names []) ((X.mg "__name__").getD .none) c' ctv))) b=some u:=λb u e nt=>by
    rw [ax (dO e nF),ax (dO e nC),ax (λz=>nt ps (bQ (e.symm.trans (by rw [z]; exact hP))))]
    exact e
   by_cases hb:P0=P
   ·subst hb
    have eq:q0=q:=g0.trans nm.symm
    subst eq
    refine ⟨g0,_,by rw [ax (Ne.symm n2),ax nPc,aS],by rw [eL]; exact PySem.TriplesOk_snoc _ _ _ _ ht,λp' cv hcv => ?_⟩
    rw [eL] at hcv
    rcases among_app _ ht hcv with z | z
    ·obtain ⟨c0,e1,e2⟩:=ha p' cv z
     exact ⟨c0,e1,ext _ _ e2 codeO_ne⟩
    ·exact ⟨c',z,by rw [ax n1.symm]; exact aS⟩
   ·refine ⟨g0,ps0,by rw [ax (dO g1 nF),ax (dO g1 nC),ax hb]; exact g1,g2,λp' cv hcv => ?_⟩
    obtain ⟨c0,e1,e2⟩:=g3 p' cv hcv
    exact ⟨c0,e1,ext _ _ e2 codeO_ne⟩
 | some cv =>
  obtain ⟨c',e,hco⟩:=ha pos cv hc
  subst e
  refine PySem.W.kla_makeFunctionHit (mg:=X.mg) (c:=c) (P:=P) (ps:=ps) (closure_ok hfree) I.ok.glob (I.mod.glob.keeps I.bk) hcode (TB.code.keeps I.bk) hP' ht hc bP λctv h' tk hx hsz => ?_
  have I1:Inv X pins σ H { s with heap:=h',toks:=tk }:=I.kept hx
  have nF:H h'.objs.size=none:=I.hok.fresh hsz
  have I2:=I1.laid (t':=tk) (a:=h'.objs.size) (o:=fZ h'.objs.size (PySem.W.kla_obj "<lambda>" q params body scope (cloFrom X.env.cells scope.names []) ((X.mg "__name__").getD .none) c' ctv)) (h':=h'.push (PySem.W.kla_obj "<lambda>" q params body scope (cloFrom X.env.cells scope.names []) ((X.mg "__name__").getD .none) c' ctv)) (λb o e=>aD _ e) (aC _) (xQ (bT _ rfl))
  exact h h'.objs.size c' ((X.mg "__name__").getD .none) ctv _ _ I2 (a0 nF) aS (by rw [ax (dO hco nF)]; exact hco)
end
noncomputable def sd (ρ:Sto) (j:Nat):Option SV:=match ρ[j]? with
 | some (some (.pd d))=>some (.pd d)
 | _=>none
theorem yF {ρ:Sto} {j:Nat} {sv:SV} (h:sd ρ j=some sv) : ∃ d,sv = .pd d∧ρ[j]? = some (some (.pd d)):=by
 unfold sd at h
 split at h
 ·cases h
  exact ⟨_,rfl,by assumption⟩
 ·cases h
noncomputable def dg (js:List Nat) (d:D) (ρ:Sto):Sto:=some (.pd d)::js.map (sd ρ)
noncomputable abbrev jw (q:Str) (params:Arguments) (scope:Scope) (cl:List (Str × Addr)) (c':Addr):NF:=⟨"<lambda>",q,params,[],scope,cl,c'⟩
section
variable {X:Cx} {pins:List (Addr × Obj)} {σ:L2.St} {H Hi:Hp} {s:Shared} {xp:XP} {ρ:Sto} {O O':List Addr} {N fr:List Str} {a:Str} {js jx:List Nat} {v:V} {d:D}
theorem Kt {w:World} (R:Rel X.K xp σ H ρ O) (sm:Sm (msk H O) (msk Hi O')) (t:Thr X.K Hi O') (hv:Dn X.K (msk Hi O') v d) (hN:N.length=(js++jx).length+1) (hx : ∀ j∈jx,ρ.length≤j):Rel X.K (x0 w) (startF N [v] (js.map (slotAt σ))) Hi (dg (js++jx) d ρ) O':=by
 have no : ∀ (i:Nat) (xs:SV),cC xs=true→(dg (js++jx) d ρ)[i]? ≠ some (some xs):=λi xs o h=>by
  unfold dg at h
  cases i with
  | zero =>
   rw [List.getElem?_cons_zero] at h
   cases h
   cases o
  | succ i =>
   rw [List.getElem?_cons_succ,List.getElem?_map] at h
   cases e:(js++jx)[i]? with
   | none=>rw [e] at h; cases h
   | some j =>
    rw [e] at h
    obtain ⟨d,rfl,_⟩:=yF (bQ h)
    cases o
 refine ⟨?_,λi sv h => ?_,λi j xs ys v o1 o2 h1=>absurd h1 (no i xs o1),t⟩
 ·unfold startF dg
  rw [hN]
  simp only [cx,a8,jb,aq,List.length_replicate]
  omega
 ·unfold dg at h
  unfold startF
  cases i with
  | zero =>
   rw [List.getElem?_cons_zero] at h
   cases h
   exact ⟨v,rfl,hv⟩
  | succ i =>
   rw [List.getElem?_cons_succ,List.getElem?_map] at h
   cases e:(js++jx)[i]? with
   | none=>rw [e] at h; cases h
   | some j =>
    rw [e] at h
    obtain ⟨d',rfl,g⟩:=yF (bQ h)
    obtain ⟨v',h1,h2⟩:=R.at_ j _ g
    refine ⟨v',?_,bf sm h2⟩
    show ((js.map (slotAt σ))++_)[i]? = _
    have il:i<js.length:=by
     by_cases q:i<js.length
     ·exact q
     ·rw [List.getElem?_append_right (by omega)] at e
      have:=hx j (eA e)
      rw [List.getElem?_eq_none this] at g
      cases g
    rw [List.getElem?_append_left il] at e
    rw [List.getElem?_append_left (by rw [aq]; exact il),List.getElem?_map,e]
    exact bF some (slotAt_of h1)
theorem D1 {f c':Addr} {pm ctv:Value} {params:Arguments} {body:Expr} {scope:Scope} {q:Str} {fb:Sto→Rs D} {u:Value} {e:D} {k:Nat} (room:Room (k+1) X.A) (nore:bR X.A) (S:NScope N [a] fr scope) (hN:N.length=(js++jx).length+1) (hx : ∀ j∈jx,X.N.length≤j)
  (cp:X.Ok→Caps X (cloFrom X.env.cells scope.names []) fr js) (hbind : ∀ u,bindArgs (PySem.W.kla_fn "<lambda>" q params body scope (cloFrom X.env.cells scope.names []) pm (.ref c') ctv) ⟨[u],[]⟩=pure [(a,u)])
  (hbody : ∀ (A:Around) (outer:List Env) (s:Shared) (H:Hp),Room k A→bR A→CE (ncx (L2.CX X.prog X.w) X.prog X.w X.K X.mg X.base N (jw q params scope (cloFrom X.env.cells scope.names []) c') f A outer s H (λ_ _ _=>False)) (x0 X.w) (λ_ _ _ _=>False) body fb)
  (R:Rel X.K xp σ H ρ O) (I:Inv X pins σ Hi s) (hf:Hi f=some (fZ f (PySem.W.kla_obj "<lambda>" q params body scope (cloFrom X.env.cells scope.names []) pm c' ctv))) (hco:Hi c'=some (CodeO c' q))
  (sm:Sm (msk H O) (msk Hi O')) (t:Thr X.K Hi O') (hv:Dn X.K (msk Hi O') v d) (rv:RelV v u) (ev:fb (dg (js++jx) d ρ) = .ok e) :
  wpAny (model X.prog X.w) X.A.in1 (call (.ref f) [u]) (EP X pins σ λy H'=>Same Hi H'∧Dn X.K (msk H' O') y e) (λ_ _=>False) s:=by
 have e0:=I.env0
 have e1:Env0 X.prog X.w X.K X.mg X.base X.A.in1 X.stack s Hi:=⟨I.ok.frames,e0.mod,e0.bs,e0.bsz,e0.funs,e0.frf,e0.hok,e0.bare⟩
 have lim:s.heap.NoLimit:=e0.mod.nolimit.keeps λb o e=>(e0.bs b o e).1
 obtain ⟨of1,_,_⟩:=I.hok f _ hf
 have of1:s.heap.get? f=some (PySem.W.kla_obj "<lambda>" q params body scope (cloFrom X.env.cells scope.names []) pm c' ctv):=of1
 obtain ⟨⟨oc,vs,tq,hoc,hdc,hvc⟩,_,_⟩:=I.hok c' _ hco
 have C:=cells_of I (cp I.ok)
 have rc:codeAny (model X.prog X.w) X.A.in1 (.call (.ref f) ⟨[u],[]⟩) (CR (L2.CX X.prog X.w) X.stack X.prog X.w Hi s (λy H'=>Same Hi H'∧Dn X.K (msk H' O') y e) (λ_ _ _=>False)) s:=by
  refine PySem.W.kla_callFunE (by have:=room.dp; show X.A.depth<_; omega) of1 rfl S.co S.gen rfl ⟨c',oc,vs,tq,rfl,hoc,hdc,hvc⟩ ?_
  rw [hbind]
  refine ah (wpAny_newFunctionEnv S.nocell (λ⟨n,_⟩ hy=>S.par n (by simp at hy; simp [hy])) (λh₁ hns hsb=>⟨lim.fresh _ hsb,?_⟩) S.kind)
  show codeAny _ _ (.expr body (envF (jw q params scope (cloFrom X.env.cells scope.names []) c') f s.heap.objs.size)) _ _
  have kp : ∀ b o,s.heap.get? b=some o→h₁.get? b=some o:=λb o e=>hsb.extBut b o (bU (bD e)) (aD _ e)
  have J:=inv_startN (A:=X.A.in1) (CX:=L2.CX X.prog X.w) (F:=jw q params scope (cloFrom X.env.cells scope.names []) c') (f:=f) (E:=λ_ _ _=>False) (tk:=s.toks+([(a,u)]:List (Str × Value)).length) S room.hd e1 (vs:=[v]) (us:=[u]) rfl (.cons rv .nil) C hns kp
  refine PySem.W.kla_codeExpr (wpAny_mono ((hbody _ _ s Hi (room.in1) nore).run [] _ _ Hi (λy H'=>Same Hi H'∧Dn X.K (msk H' O') y e) J ⟨_,O',Kt R sm t hv hN λj hj=>(by rw [← R.len,I.len]; exact hx j hj),?_⟩) (λw s' hq => ?_) λe s' hq=>hq)
  ·rw [ev]
   exact λH' s' y hy=>⟨s',hy⟩
  ·obtain ⟨w',H',J',rv',q'⟩:=hq
   exact ⟨w',H',J'.os,J'.bare,J'.base,J'.hok,rv',q'⟩
 refine eQ (dV rc λr s' hq => ?_)
 match r,hq with
 | .error x,z =>
  obtain ⟨_,_,_,_,_,_,_,_,_,_,_,_,no⟩:=z
  exact no.elim
 | .ok (.ret y),z=>exact I.after z
 | .ok .next,z=>exact z.elim
 | .ok .brk,z=>exact z.elim
 | .ok .cont,z=>exact z.elim
end
noncomputable def kY (k:D→Rs D):List D→Rs D
 | [x]=>k x
 | _ => .bad
noncomputable def kW (xs ks:List D):Rs D:=if xs.isEmpty=false∧jD ks=true∧(ks.all λx=>decide (x.depth≤64))=true∧PyData.hasDictAll ks=false then (match xs[cj ks (xs.length-1)]? with | some x => .ok x | none => .bad) else .bad
noncomputable def gD (k:D→Rs D):D→Rs D
 | .list xs=>(match d5 (kY k) xs with | some ks=>kW xs ks | none => .bad)
 | _ => .bad
section
variable {X:Cx} {xp:XP} {W:WX} {x:Expr} {fe:Sto→Rs D} {a:Str} {N fr:List Str} {js jx:List Nat} {params:Arguments} {body:Expr} {scope:Scope} {p kp lpos pos:Pos} {c P:Addr} {qn:Str} {fb:Sto→Rs D} {k:Nat}
noncomputable def tLam (K:PySem.W.Frag) (cl:List (Str × Addr)) (q:Str) (params:Arguments) (body:Expr) (scope:Scope):TE:=λ_ H Q=>jy K H ∧ ∀ f c' pm ctv H1,Same H H1→H1 f=some (fZ f (PySem.W.kla_obj "<lambda>" q params body scope cl pm c' ctv))→H1 c'=some (CodeO c' q)→Q (.ref f) H1
theorem Ge (TB:TabB X.base X.mg c P) (hcode:X.env.code = .ref c) (hMk:MkK X.K c P qn) (hq:X.env.qual=qn ++ ".<locals>.") (hdef:defaultsOf params X.env=([],[])) (hnd:ndefB X.env.scope scope fr=true) :
  PE X (.Lambda params body scope lpos) (Pf.tLam X.K (cloFrom X.env.cells scope.names []) (d8 P) params body scope):=by
 refine ⟨λpins s σ H Q I h => ?_⟩
 obtain ⟨tk,h⟩:=h
 have e:X.env.qual ++ "<lambda>" = d8 P:=by
  obtain ⟨_,_,_,_,_,_,_,z⟩:=hMk
  rw [hq]; exact z
 refine Kr I TB hcode e (tk c P qn hMk) hdef (λy hy z=>(ndef_free hnd y hy z).elim (λw=>I.ok.has _ (.inl w)) λw=>I.ok.has _ (.inr w)) λf c' pm ctv H1 s' I1 s1 h1 h2 => ?_
 exact ⟨.ref f,H1,I1,rfl,h f c' pm ctv H1 s1 h1 h2⟩
theorem yC (hc:X.calm=true) (nore:bR X.A) (hu:X.A.units+70<cLine) (room:Room (k+1) X.A) (hg:Gl X "min") (hm:X.mg "min" = none) (he:CE X xp W x fe) (hs:starEach [x] X.env=(false,eval x X.env)::starEach [] X.env)
  (TB:TabB X.base X.mg c P) (hcode:X.env.code = .ref c) (hMk:MkK X.K c P qn) (hq:X.env.qual=qn ++ ".<locals>.") (hdef:defaultsOf params X.env=([],[])) (S:NScope N [a] fr scope) (hN:N.length=(js++jx).length+1) (hx : ∀ j∈jx,X.N.length≤j) (hnd:ndefB X.env.scope scope fr=true) (hjs:js.map (λj=>X.N[j]?)=fr.map some)
  (hbind : ∀ (cl:List (Str × Addr)) (pm cdv ctv u:Value),bindArgs (PySem.W.kla_fn "<lambda>" (d8 P) params body scope cl pm cdv ctv) ⟨[u],[]⟩=pure [(a,u)])
  (hbody : ∀ (f c':Addr) (A:Around) (outer:List Env) (s:Shared) (H:Hp),Room k A→bR A→CE (ncx (L2.CX X.prog X.w) X.prog X.w X.K X.mg X.base N (jw (d8 P) params scope (cloFrom X.env.cells scope.names []) c') f A outer s H (λ_ _ _=>False)) (x0 X.w) (λ_ _ _ _=>False) body fb) :
  CE X xp W (.Call (.Name "min" p) [x] [⟨some "key",.Lambda params body scope lpos,kp⟩] pos) (λρ=>(fe ρ).bind (gD λd=>fb (dg (js++jx) d ρ))):=by
 refine ⟨λpins s σ H Q I h => ?_⟩
 obtain ⟨ρ,O,R,q⟩:=h
 refine j_ (ld_blt I hg hm (show bootBuiltins "min" = some (.builtin "min") from rfl) ?_ (by decide) (by decide))
 refine PyProof.Rows.callWith_kw (thn ((bG he cu hs).run pos pins s σ H (λvs H1 => ∃ v d,vs=[v]∧Same H H1∧Dn X.K (msk H1 O) v d∧End X.K X.mg W O σ H1 (λd H' => ∀ v,Dn X.K (msk H' O) v d→Q v H') (gD (λd=>fb (dg (js++jx) d ρ)) d)) I ⟨ρ,O,R,(End.bind q).imp λd H1 _ s1 q1 v hv=>⟨v,d,rfl,s1,hv,q1⟩⟩) λus s1 ⟨vs,H1,I1,r1,q1⟩ => ?_) (by rw [hs]; rfl) (by rw [hs]; rfl) rfl rfl
 obtain ⟨v,d,rfl,s01,hv,q1⟩:=q1
 have thr1:=(R.mono s01).thr
 refine thn ((pk_cons (Ge TB hcode hMk hq hdef hnd) pk_nil).run pos pins s1 σ H1 (λzs H2 => ∃ f c' pm ctv,zs=[.ref f]∧Same H1 H2∧H2 f=some (fZ f (PySem.W.kla_obj "<lambda>" (d8 P) params body scope (cloFrom X.env.cells scope.names []) pm c' ctv))∧H2 c'=some (CodeO c' (d8 P))) I1 ⟨thr1.tb,λf c' pm ctv H2 s2 h1 h2=>⟨f,c',pm,ctv,rfl,s2,h1,h2⟩⟩) λws s2 ⟨zs,H2,I2,r2,q2⟩ => ?_
 obtain ⟨f,c',pm,ctv,rfl,s12,hf,hco⟩:=q2
 cases hv with
 | @lst l vs xs h1 hl h3 =>
  have q1:End X.K X.mg W O σ H1 (λd H' => ∀ v,Dn X.K (msk H' O) v d→Q v H') (match d5 (kY λd=>fb (dg (js++jx) d ρ)) xs with | some ks=>kW xs ks | none => .bad):=q1
  cases ek:d5 (kY λd=>fb (dg (js++jx) d ρ)) xs with
  | none=>rw [ek] at q1; exact q1.elim
  | some ks =>
   rw [ek] at q1
   have q1:End X.K X.mg W O σ H1 (λd H' => ∀ v,Dn X.K (msk H' O) v d→Q v H') (if xs.isEmpty=false∧jD ks=true∧(ks.all λx=>decide (x.depth≤64))=true∧PyData.hasDictAll ks=false then (match xs[cj ks (xs.length-1)]? with | some x => .ok x | none => .bad) else .bad):=q1
   obtain ⟨⟨c1,c2,c3,c4⟩,q1⟩:=cO q1
   have lx:vs.length=xs.length:=aK h3
   have lk:ks.length=xs.length:=K7 ek
   have ne:0<xs.length:=by cases xs with | nil=>cases c1 | cons _ _=>exact Nat.succ_pos _
   have km:=tK ek
   rw [Vals.ref1 r1,Vals.ref1 r2]
   refine FC (O:=O) (ds:=xs) (ks:=ks) hc hu I2 (s12.seq (aQ h1).sq) (thr1.same s12) (bj (aH s12.sm) h3) (by omega) (by omega) (EC c2) c4 (λe he=>by simpa using j5.mp c3 e he) ?_ ?_
   ·intro pins' Hi si O' j v u d e Ii si2 sm t hdj hej dv rv
    have ev:fb (dg (js++jx) d ρ) = .ok e:=by
     have z:=bF (λl=>l[j]?) km
     simp only [List.getElem?_map,hdj,hej,Option.map_some] at z
     exact bQ z
    exact D1 room nore S hN hx (λok=>Caps.made ok (ndef_free hnd) (ndef_fr hnd) hjs) (hbind _ _ _ _) (hbody f c') (R.mono (s01.trans s12)) Ii (si2 _ _ hf) (si2 _ _ hco) sm t dv rv ev
   ·intro H' v sH hv
    rw [lx] at hv
    obtain ⟨y,hy,dy⟩:=dN (bj (aH (s12.trans sH).sm) h3) hv
    rw [hy] at q1
    exact q1 H' (s12.trans sH) v dy
 | _=>exact q1.elim
end
end Pf

set_option maxRecDepth 100000
set_option maxHeartbeats 1000000
namespace Pf
open PySem PySem.Spec PyProof.Rows L2 LamX NdefX
noncomputable def eG (Γ:Gs):List S→(Sto→Out)→Sto→Out
 | [],k,ρ=>k ρ
 | s::ss,k,ρ=>(exe Γ s ρ).seq (eG Γ ss k)
noncomputable def gx (Γ Γl:Gs) (i:Nat) (js:List Nat) (e b:E) (post:Ss) (ρ:Sto):Out:=
 if i=999999 then Out.ofR ((sem Γ e ρ).bind (gD λd=>sem Γl b (dg js d ρ))) ρ λd => .rt d else
 (Out.ofR ((sem Γ e ρ).bind (gD λd=>sem Γl b (dg js d ρ))) ρ λd=>bL (.nm i) d ρ).seq (ao Γ post)
noncomputable def rJ (Γ Γl:Gs) (n:Nat) (pre:List S) (i:Nat) (js:List Nat) (e b:E) (post:Ss) (ds:List D):Rs D:=out (eG Γ pre (gx Γ Γl i js e b post) (enter n ds))
noncomputable def oZ (c:Ck) (js:List Nat):List Nat:=js.takeWhile λj=>decide (j<c.N.length)
noncomputable def FN (c:Ck) (js:List Nat):List Nat:=js.dropWhile λj=>decide (j<c.N.length)
noncomputable def oF (c:Ck) (Γl:Gs) (js:List Nat) (N:List Str) (b:E) (params:Arguments) (body:Expr) (scope:Scope):Bool:=match params,N with
 | ⟨[],[⟨a,_,_⟩],none,[],[],none,[]⟩,a'::r=>decide (a=a')&&nscB (a'::r) [a'] (r.take (oZ c js).length) scope&&decide (r.length=js.length)&&(FN c js).all (λj=>decide (c.N.length≤j))&&ndefB c.sc scope (r.take (oZ c js).length)&&decide ((oZ c js).map (λj=>c.N[j]?)=(r.take (oZ c js).length).map some)&&(Ck.mk Γl (a'::r) scope true (λ_=>false) false false).e b body
 | _,_=>false
theorem DZ (q:Str) (a:Str) (an:Option Expr) (ap:Pos) (body:Expr) (scope:Scope) (cl:List (Str × Addr)) (pm cdv ctv u:Value):bindArgs (PySem.W.kla_fn "<lambda>" q ⟨[],[⟨a,an,ap⟩],none,[],[],none,[]⟩ body scope cl pm cdv ctv) ⟨[u],[]⟩=pure [(a,u)]:=by
 have e:List.lookup a [(a,u)]=some u:=by simp [List.lookup]
 unfold bindArgs
 simp [e,seqItems?]
 rfl
theorem yh {c:Ck} {Γl:Gs} {js:List Nat} {N:List Str} {b:E} {params:Arguments} {body:Expr} {scope:Scope} (h:oF c Γl js N b params body scope=true) : ∃ a r fr j0 jx,N=a::r∧js=j0++jx∧NScope (a::r) [a] fr scope∧r.length=js.length∧(∀ j∈jx,c.N.length≤j)∧ndefB c.sc scope fr=true∧j0.map (λj=>c.N[j]?)=fr.map some ∧
  (Ck.mk Γl (a::r) scope true (λ_=>false) false false).e b body=true∧(∀ env,defaultsOf params env=([],[])) ∧ ∀ (q:Str) (cl:List (Str × Addr)) (pm cdv ctv u:Value),bindArgs (PySem.W.kla_fn "<lambda>" q params body scope cl pm cdv ctv) ⟨[u],[]⟩=pure [(a,u)]:=by
 unfold oF at h
 split at h
 ·rename_i a _ _ a' r
  simp only [ai,aw] at h
  obtain ⟨⟨⟨⟨⟨⟨rfl,h2⟩,h3⟩,hx⟩,h4⟩,h5⟩,h6⟩:=h
  exact ⟨_,_,_,_,_,rfl,(List.takeWhile_append_dropWhile (p:=λj=>decide (j<c.N.length)) (l:=js)).symm,nscope_by h2,h3,λj hj=>by simpa using j5.mp hx j hj,h4,h5,h6,λ_=>rfl,λ_ _ _ _ _ _=>DZ ..⟩
 ·cases h
noncomputable def pF (c:Ck) (Γl:Gs) (i:Nat) (js:List Nat) (N:List Str) (e b:E) (post:Ss):List Stmt→Bool
 | .Assign [.Name n p0] (.Call (.Name u p) [x] [⟨some kw,.Lambda params body scope lp,kp⟩] pos) ap::zs =>
  !decide (i=999999)&&kR c (.Name n p0) (.Call (.Name u p) [x] [⟨some kw,.Lambda params body scope lp,kp⟩] pos)&&lG c (.Name n p0) (.Call (.Name u p) [x] [⟨some kw,.Lambda params body scope lp,kp⟩] pos) &&
  decide (u=("min" : Str))&&decide (kw=("key" : Str))&&c.tg (.nm i) (.Name n p0)&&c.blt u&&noStar x&&c.e e x&&oF c Γl js N b params body scope&&c.ss post zs
 | [.Return (some (.Call (.Name u p) [x] [⟨some kw,.Lambda params body scope lp,kp⟩] pos)) ap] =>
  decide (i=999999)&&decide (u=("min" : Str))&&decide (kw=("key" : Str))&&c.blt u&&noStar x&&c.e e x&&oF c Γl js N b params body scope
 | _=>false
noncomputable def kZ (c:Ck) (k:List Stmt→Bool):List S→List Stmt→Bool
 | [],ys=>k ys
 | s::ss,y::ys=>c.s s y&&kZ c k ss ys
 | _::_,[]=>false
section
variable {P:Program} {w:World} {K:PySem.W.Frag} {mg:Str→Option Value} {base:Heap} {k:Nat} {Γ:Gs}
theorem Nh {x qual:Str} {st:Stmt} {f:Addr} {fd:FuncData} {N ps:List Str} {k:Nat} {sp:Sp} (F:Fun K x qual st f fd) (S:FnScope N ps (defScope st)) (len : ∀ vs H Q E,sp vs H Q E→vs.length=ps.length)
  (body : ∀ (cdv:Value) (A:Around) (outer:List Env) (s:Shared) (H:Hp) (vs:List V) (Q:VK) (E:XK),fd.code=cdv→Rm k (A.deeper (envOfC qual (defScope st) s.heap.objs.size f cdv))→bR A→sp vs H Q E →
   ∃ t,PSs (cxOf (L2.CX P w) P w K mg base N qual (defScope st) f cdv A outer s H E) (defBody st) t∧t { nx:=λ_ H'=>Q .non H',rt:=Q } (start N vs) H):FnG P w K mg base (k+1) f fd ps sp:=by
 obtain ⟨oc,od,kV,doc,pm,an,cdv,ct,osl,rfl,look,code⟩:=F.ex
 constructor
 ·exact len
 intro A outer s H args us vs Q E room nore ent binds rel wish
 have nargs:=len vs H Q E wish
 have inK:K.In s.heap:=ent.mod.kin.keeps λb o z=>(ent.bs b o z).1
 have free:s.heap.NoLimit:=ent.mod.nolimit.keeps λb o z=>(ent.bs b o z).1
 have kinds : ∀ y∈ps.zip us,(defScope st).names.lookup y.1=some .local∨((defScope st).names.lookup y.1=some .cell∧((cellsFrom (s.heap.objs.size+1) (defScope st).names []).lookup y.1).isSome=true):=by
  rintro ⟨nm,val⟩ hy
  rcases S.par nm (List.of_mem_zip hy).1 with isl | isc
  ·exact Or.inl isl
  ·exact Or.inr ⟨isc,PySem.W.cellsFrom_some _ _ _ (Or.inl isc)⟩
 apply codeAny_call_function room.depth (inK _ _ look) rfl S.co S.gen rfl (PySem.W.codeRec_of inK code)
 apply binds
 refine wpAny_newFunctionEnv_cells S.kind kinds ?_
 rintro env rfl s1 inside
 refine ⟨free.keeps inside.toInCall.keep,codeAny_func ?_⟩
 obtain ⟨t,der,goal⟩:=body cdv A outer s H vs Q E rfl (.of room _) nore wish
 have inv0:=inv_start (CX:=L2.CX P w) (P:=P) (w:=w) (K:=K) (mg:=mg) (base:=base) (E:=E) S room.hd ent nargs rel inside
 refine wpAny_mono (der.run [] s1 (start N vs) H _ inv0 goal) ?_ λ_ _ z=>z
 have close : ∀ {σ':L2.St} {H':Hp} {v:V} {u:Value} {s':Shared},Inv (cxOf (L2.CX P w) P w K mg base N qual (defScope st) f cdv A outer s H E) [] σ' H' s'→RelV v u→Q v H'→L2.CE outer P w H s Q u s':=
  λ{σ' H' v u s'} J r z=>⟨v,H',J.os,J.bare,J.base,J.hok,r,z⟩
 intro fl s' out
 match fl,out with
 | .ret u,⟨v,σ',H',J,r,z⟩=>exact close J r z
 | .next,⟨σ',H',J,z⟩=>exact close (v:=V.non) (u:=Value.none) J rfl z
 | .brk,⟨_,_,_,z⟩=>exact z.elim
 | .cont,⟨_,_,_,z⟩=>exact z.elim
theorem vn {N ps fr:List Str} {F:NF} {f:Addr} {A:Around} {outer:List Env} {s:Shared} {H:Hp} (S:NScope N ps fr F.scope) (G:Glo P w K mg base k Γ) (room:Rm k (A.deeper (envF F f s.heap.objs.size))) (nore:bR A) :
  At (Ck.mk Γ N F.scope true (λ_=>false) false false) (ncx (L2.CX P w) P w K mg base N F f A outer s H (λ_ _ _=>False)) (x0 w) (λ_ _ _ _=>False) where
 N:=rfl
 sc:=rfl
 fa:=λ_ h=>by cases h
 cm:=λ_=>rfl
 gl:=G.gl
 fs:=λ_ i x n m hm=>by
  obtain ⟨j,g,gd,qs,hj,FG,FF,r⟩:=G.fs i x n m hm
  exact ⟨⟨j,g,gd,qs,FG,room.mono hj,r⟩,λh=>⟨j,g,gd,qs,FF h,room.mono hj,r⟩⟩
 bs:=G.bs
 nd:=S.nd
 nore:=nore
 hu:=by
  have:=room.un
  show (A.deeper (envF F f s.heap.objs.size)).units+70<cLine
  omega
 tk:=L2.takes0
 su:=λh=>by cases h
 xw:=rfl
 sb:=G.sb
 at_:=G.at_
 ex:=λ_=>G.ex
 room:=λ_=>⟨k,G.two,room.room⟩
 cs:=G.cs
 ms:=λ_ i cls m n mm hm=>by
  obtain ⟨h1,h2⟩:=G.ms i cls m n mm hm
  refine ⟨λe => ?_,λe => ?_⟩
  ·obtain ⟨C,j,g,gd,qs,hj,a1,a2,a3,a4,a5⟩:=h1 e
   exact ⟨C,j,g,gd,qs,a1,a2,a3,room.mono hj,a4,a5⟩
  ·obtain ⟨C,j,g,gd,qs,hj,a1,a2,a3,a4,a5⟩:=h2 e
   exact ⟨⟨C,j,g,gd,qs,a1,a2,a3,room.mono hj,a5⟩,λhi=>⟨C,j,g,gd,qs,a1,a2,a4 hi,room.mono hj,a5⟩⟩
 kw:=λ_ i x ks pi n m hm=>by
  obtain ⟨j,g,gd,qs,hj,FG,r⟩:=G.kw i x ks pi n m hm
  exact ⟨j,g,gd,qs,FG,room.mono hj,r⟩
 fl:=G.fl
 ic:=G.ic
theorem KW {N ps:List Str} {qual:Str} {st:Stmt} {f c P0:Addr} {i:Nat} {js:List Nat} {N':List Str} {e b:E} {post:Ss} {A:Around} {outer:List Env} {s:Shared} {H:Hp} {E0:XK} {B:List Addr} {ys:List Stmt} (S:FnScope N ps (defScope st)) (G:Glo P w K mg base k Γ) {kl:Nat} {Γl:Gs} (Gl:Glo P w K mg base kl Γl) (hkl:kl+2≤k)
  (room:Rm k (A.deeper (envOfC qual (defScope st) s.heap.objs.size f (.ref c)))) (nore:bR A) (TB:TabB base mg c P0) (hMk:MkK K c P0 qual)
  (h:pF (Ck.mk Γ N (defScope st) true (λ_=>true) false false) Γl i js N' e b post ys=true) :
  CSs (cxOf (L2.CX P w) P w K mg base N qual (defScope st) f (.ref c) A outer s H E0) (x0 w) (λcls d _ H'=>E0 cls d H') B ys (gx Γ Γl i js e b post):=by
 have A0:=qe (cdv:=.ref c) (outer:=outer) (H:=H) (E:=E0) S G room nore
 unfold pF at h
 split at h
 ·rename_i n p0 u p x kw params body scope lp kp pos ap zs
  simp only [ai,aw,and_assoc] at h
  obtain ⟨h0,h1,h2,rfl,rfl,h3,h4,h5,h6,h7,h8⟩:=h
  obtain ⟨a,r,fr,j0,jx,rfl,rfl,S',l,hx,nd,jn,bd,df,bn⟩:=yh h7
  obtain ⟨g1,g2,g3⟩:=A0.toAt.de h4
  have two:=G.two
  obtain ⟨k',rfl⟩ : ∃ k',k=k'+1:=⟨k-1,by omega⟩
  have ce:=yC (k:=k') (lpos:=lp) (kp:=kp) (pos:=pos) (p:=p) (js:=j0) (jx:=jx) (fb:=sem Γl b) (A0.toAt.cm rfl) nore A0.toAt.hu room.room g1 g3 (sE e _ x _ _ _ A0.toAt h6).1 (bN h5) TB rfl hMk rfl (df _) S' (by rw [a8,l]) hx nd jn (bn _) λf' c' A' outer' s' H' r' n' =>
   (sE b _ body _ _ _ (vn (F:=jw (d8 P0) params scope _ c') (f:=f') (outer:=outer') (s:=s') (H:=H') S' Gl (Rm.of (r'.mono (by omega)) _) n') bd).1
  have ni : ¬ i=999999:=by simpa using h0
  have es:gx Γ Γl i (j0++jx) e b post=λρ=>(Out.ofR ((sem Γ e ρ).bind (gD λd=>sem Γl b (dg (j0++jx) d ρ))) ρ λd=>bL (.nm i) d ρ).seq (ao Γ post):=by
   funext ρ; unfold gx; rw [if_neg ni]
  rw [es]
  exact qg (vD ce (A0.toAt.fD h3) (yk A0.toAt.sc h1) (xT A0.toAt.sc h2) rfl) (sSs post _ zs _ _ _ B A0 h8)
 ·rename_i u p x kw params body scope lp kp pos ap
  simp only [ai,aw,and_assoc] at h
  obtain ⟨h0,rfl,rfl,h4,h5,h6,h7⟩:=h
  obtain ⟨a,r,fr,j0,jx,rfl,rfl,S',l,hx,nd,jn,bd,df,bn⟩:=yh h7
  obtain ⟨g1,g2,g3⟩:=A0.toAt.de h4
  have two:=G.two
  obtain ⟨k',rfl⟩ : ∃ k',k=k'+1:=⟨k-1,by omega⟩
  have ce:=yC (k:=k') (lpos:=lp) (kp:=kp) (pos:=pos) (p:=p) (js:=j0) (jx:=jx) (fb:=sem Γl b) (A0.toAt.cm rfl) nore A0.toAt.hu room.room g1 g3 (sE e _ x _ _ _ A0.toAt h6).1 (bN h5) TB rfl hMk rfl (df _) S' (by rw [a8,l]) hx nd jn (bn _) λf' c' A' outer' s' H' r' n' =>
   (sE b _ body _ _ _ (vn (F:=jw (d8 P0) params scope _ c') (f:=f') (outer:=outer') (s:=s') (H:=H') S' Gl (Rm.of (r'.mono (by omega)) _) n') bd).1
  have es:gx Γ Γl i (j0++jx) e b post=λρ=>Out.ofR ((sem Γ e ρ).bind (gD λd=>sem Γl b (dg (j0++jx) d ρ))) ρ λd => .rt d:=by
   funext ρ; unfold gx; rw [if_pos h0]
  rw [es]
  exact D6 (xG ce)
 ·cases h
theorem Au {c:Ck} {X:Cx} {xp:XP} {W:WX} {B:List Addr} {q:List Stmt→Bool} {r:Sto→Out} (A:AtS c X xp W) (hr : ∀ ys,q ys=true→CSs X xp W B ys r) : ∀ (ss:List S) (ys:List Stmt),kZ c q ss ys=true→CSs X xp W B ys (eG c.Γ ss r)
 | [],ys,h=>hr ys h
 | s::ss,[],h=>by cases h
 | s::ss,y::ys,h=>by
  have h:(c.s s y&&kZ c q ss ys)=true:=h
  rw [ai] at h
  exact qg (sS s c y X xp W B A h.1) (Au A hr ss ys h.2)
theorem IQ {x qual:Str} {st:Stmt} {f c P0:Addr} {fd:FuncData} {N ps:List Str} {pre:List S} {i:Nat} {js:List Nat} {N':List Str} {e b:E} {post:Ss} (F:Fun K x qual st f fd) (S:FnScope N ps (defScope st)) (G:Glo P w K mg base k Γ) {kl:Nat} {Γl:Gs} (Gl:Glo P w K mg base kl Γl) (hkl:kl+2≤k) (hc:fd.code = .ref c) (TB:TabB base mg c P0) (hMk:MkK K c P0 qual)
  (chk:kZ (Ck.mk Γ N (defScope st) true (λ_=>true) false false) (pF (Ck.mk Γ N (defScope st) true (λ_=>true) false false) Γl i js N' e b post) pre (defBody st)=true):FnG P w K mg base (k+1) f fd ps (spF K mg ps.length (rJ Γ Γl N.length pre i js e b post)):=by
 refine Nh F S (λvs H Q E h => ?_) λcdv A outer s H vs Q E hcd room nore h => ?_
 ·obtain ⟨O,ds,_,a,hl,_⟩:=h
  exact (aK a).trans hl
 ·obtain ⟨B,ds,thr,a,hl,wish⟩:=h
  rw [hc] at hcd
  subst hcd
  exact ⟨_,Au (qe S G room nore) (λys hy=>KW S G Gl hkl room nore TB hMk hy) pre (defBody st) chk,enter N.length ds,[],zI thr a (zf S hl),yg wish⟩
end
end Pf

set_option maxRecDepth 100000
namespace K91
open PySem PySem.Spec PyProof.Rows L2 Pf
noncomputable def top (i:Nat):Stmt:=PySem.Challenge.pw_pagesasseen_k91_whole_plans_compared.main.body.getD i (.Pass ⟨0,0,0,0⟩)
noncomputable def gls:List (Nat × Str × D):=[(0, "LETTERS",(.str "abcdefghijklmnopqrstuvwxyz")),(1, "DIGITS",(.str "0123456789")),(2, "MAX_LENGTH",(.int 8)),(4, "MAX_SEGMENTS",(.int 6)),(5, "MAX_PARAMETERS",(.int 4)),(24, "MAX_CANDIDATES",(.int 5)),(25, "MAX_WORTH",(.int 99)),(27, "MAX_BEATS",(.int 6))]
noncomputable def bls:List Str:=["all", "bool", "dict", "enumerate", "int", "isinstance", "len", "list", "max", "min", "range", "set", "sorted", "str", "sum", "tuple"]
noncomputable def sbl:List (Str × Str × Bool):=[]
noncomputable def atl:List (Str × Str):=[("InvalidAddress", "value"),("InvalidCandidates", "index"),("InvalidNumber", "value")]
noncomputable def hsl:List Str:=[]
noncomputable def csl:List Str:=[]
noncomputable def fll:List (Str × Str):=[]
noncomputable def icl:List Str:=[]
noncomputable abbrev iw:Stmt:=top 11
noncomputable def zD:List Str:=["value"]
theorem LF:FnScope zD ["value"] (defScope iw):=⟨rfl,rfl,rfl,by decide +kernel,rfl,by decide +kernel,by decide +kernel⟩
noncomputable abbrev z_:Ss:=T.is_integer
noncomputable abbrev gsT (l : List (Nat × Str × Nat × (List D → Rs D))) : Gs := ⟨gls, l, bls,sbT sbl,atT atl,hsl,csl,[],fll,icl,[]⟩
noncomputable def rF:Gs:=gsT []
noncomputable def DO:List D→Rs D:=bB rF 1 z_
theorem Oi:(Ck.mk rF zD (defScope iw) true (λ_=>true) false false).ss z_ (defBody iw)=true:=by decide +kernel
noncomputable abbrev iU:Stmt:=top 12
noncomputable def xR:List Str:=["value", "least", "most"]
theorem OJ:FnScope xR ["value", "least", "most"] (defScope iU):=⟨rfl,rfl,rfl,by decide +kernel,rfl,by decide +kernel,by decide +kernel⟩
noncomputable abbrev Be:Ss:=T.is_between
noncomputable abbrev fW:Nat × Str × Nat × (List D→Rs D):=(0,("is_integer" : Str),1,DO)
noncomputable def mN:Gs:=gsT [fW]
noncomputable def vp:List D→Rs D:=bB mN 3 Be
theorem DA:(Ck.mk mN xR (defScope iU) true (λ_=>true) false false).ss Be (defBody iU)=true:=by decide +kernel
noncomputable abbrev iG:Stmt:=top 13
noncomputable def x_:List Str:=["value", "sign"]
theorem Lk:FnScope x_ ["value"] (defScope iG):=⟨rfl,rfl,rfl,by decide +kernel,rfl,by decide +kernel,by decide +kernel⟩
noncomputable abbrev y8:Ss:=T.is_name
noncomputable abbrev iy:Nat × Str × Nat × (List D→Rs D):=(1,("is_between" : Str),3,vp)
noncomputable def se:Gs:=gsT [fW, iy]
noncomputable def HI:List D→Rs D:=bB se 2 y8
theorem Iy:(Ck.mk se x_ (defScope iG) true (λ_=>true) false false).ss y8 (defBody iG)=true:=by decide +kernel
noncomputable abbrev iS:Stmt:=top 14
noncomputable def wF:List Str:=["text", "sign"]
theorem GZ:FnScope wF ["text"] (defScope iS):=⟨rfl,rfl,rfl,by decide +kernel,rfl,by decide +kernel,by decide +kernel⟩
noncomputable abbrev wQ:Ss:=T.is_value
noncomputable abbrev jS:Nat × Str × Nat × (List D→Rs D):=(3,("is_name" : Str),1,HI)
noncomputable def qr:Gs:=gsT [fW, iy, jS]
noncomputable def K5:List D→Rs D:=bB qr 2 wQ
theorem LN:(Ck.mk qr wF (defScope iS) true (λ_=>true) false false).ss wQ (defBody iS)=true:=by decide +kernel
noncomputable abbrev iV:Stmt:=top 15
noncomputable def BU:List Str:=["text", "parameter"]
theorem My:FnScope BU ["text"] (defScope iV):=⟨rfl,rfl,rfl,by decide +kernel,rfl,by decide +kernel,by decide +kernel⟩
noncomputable abbrev zj:Ss:=T.split_query
noncomputable abbrev kK:Nat × Str × Nat × (List D→Rs D):=(4,("is_value" : Str),1,K5)
noncomputable def ud:Gs:=gsT [fW, iy, jS, kK]
noncomputable def LL:List D→Rs D:=bB ud 2 zj
theorem HC:(Ck.mk ud BU (defScope iV) true (λ_=>true) false false).ss zj (defBody iV)=true:=by decide +kernel
noncomputable abbrev hU:Stmt:=top 16
noncomputable def AF:List Str:=["text", "parts", "key", "sign", "value"]
theorem LM:FnScope AF ["text"] (defScope hU):=⟨rfl,rfl,rfl,by decide +kernel,rfl,by decide +kernel,by decide +kernel⟩
noncomputable abbrev yE:Ss:=T.is_query
noncomputable abbrev oE:Nat × Str × Nat × (List D→Rs D):=(5,("split_query" : Str),1,LL)
noncomputable def sZ:Gs:=gsT [fW, iy, jS, kK, oE]
noncomputable def Pu:List D→Rs D:=bB sZ 5 yE
theorem L3:(Ck.mk sZ AF (defScope hU) true (λ_=>true) false false).ss yE (defBody hU)=true:=by decide +kernel
noncomputable abbrev iT:Stmt:=top 17
noncomputable def BZ:List Str:=["value", "path", "mark", "query", "names", "name"]
theorem Fh:FnScope BZ ["value"] (defScope iT):=⟨rfl,rfl,rfl,by decide +kernel,rfl,by decide +kernel,by decide +kernel⟩
noncomputable abbrev xK:Ss:=T.is_address
noncomputable abbrev rM:Nat × Str × Nat × (List D→Rs D):=(6,("is_query" : Str),1,Pu)
noncomputable def ug:Gs:=gsT [fW, iy, jS, kK, oE, rM]
noncomputable def ro:List D→Rs D:=bB ug 6 xK
theorem JW:(Ck.mk ug BZ (defScope iT) true (λ_=>true) false false).ss xK (defBody iT)=true:=by decide +kernel
noncomputable abbrev iL:Stmt:=top 18
noncomputable def B7:List Str:=["value"]
theorem I6:FnScope B7 ["value"] (defScope iL):=⟨rfl,rfl,rfl,by decide +kernel,rfl,by decide +kernel,by decide +kernel⟩
noncomputable abbrev w6:Ss:=T.require_address
noncomputable abbrev xj:Nat × Str × Nat × (List D→Rs D):=(7,("is_address" : Str),1,ro)
noncomputable def sf:Gs:=gsT [fW, iy, jS, kK, oE, rM, xj]
noncomputable def F1:List D→Rs D:=bB sf 1 w6
theorem K6:(Ck.mk sf B7 (defScope iL) true (λ_=>true) false false).ss w6 (defBody iL)=true:=by decide +kernel
noncomputable abbrev ie:Stmt:=top 19
noncomputable def vi:List Str:=["address"]
theorem IY:FnScope vi ["address"] (defScope ie):=⟨rfl,rfl,rfl,by decide +kernel,rfl,by decide +kernel,by decide +kernel⟩
noncomputable abbrev Av:Ss:=T.host_of
noncomputable abbrev N9:Nat × Str × Nat × (List D→Rs D):=(8,("require_address" : Str),1,F1)
noncomputable abbrev gp0 (l : List (Nat × Str × Nat × (List D → Rs D))) : List (Nat × Str × Nat × (List D → Rs D)) := fW :: iy :: jS :: kK :: oE :: rM :: xj :: N9 :: l
noncomputable def tj:Gs:=gsT (gp0 [])
noncomputable def oy:List D→Rs D:=bB tj 1 Av
theorem IB:(Ck.mk tj vi (defScope ie) true (λ_=>true) false false).ss Av (defBody ie)=true:=by decide +kernel
noncomputable abbrev iF:Stmt:=top 20
noncomputable def wu:List Str:=["address"]
theorem Dw:FnScope wu ["address"] (defScope iF):=⟨rfl,rfl,rfl,by decide +kernel,rfl,by decide +kernel,by decide +kernel⟩
noncomputable abbrev zX:Ss:=T.segments_of
noncomputable abbrev fX:Nat × Str × Nat × (List D→Rs D):=(9,("host_of" : Str),1,oy)
noncomputable def qD:Gs:=gsT (gp0 [fX])
noncomputable def Fq:List D→Rs D:=bB qD 1 zX
theorem Px:(Ck.mk qD wu (defScope iF) true (λ_=>true) false false).ss zX (defBody iF)=true:=by decide +kernel
noncomputable abbrev iX:Stmt:=top 25
noncomputable def Az:List Str:=["address", "segments", "size", "start", "run"]
theorem K_:FnScope Az ["address"] (defScope iX):=⟨rfl,rfl,rfl,by decide +kernel,rfl,by decide +kernel,by decide +kernel⟩
noncomputable abbrev vT:Ss:=T.is_trap
noncomputable abbrev i5:Nat × Str × Nat × (List D→Rs D):=(10,("segments_of" : Str),1,Fq)
noncomputable def qj:Gs:=gsT (gp0 [fX, i5])
noncomputable def oz:List D→Rs D:=bB qj 5 vT
theorem O8:(Ck.mk qj Az (defScope iX) true (λ_=>true) false false).ss vT (defBody iX)=true:=by decide +kernel
noncomputable abbrev iJ:Stmt:=top 26
noncomputable def wy:List Str:=["value"]
theorem Du:FnScope wy ["value"] (defScope iJ):=⟨rfl,rfl,rfl,by decide +kernel,rfl,by decide +kernel,by decide +kernel⟩
noncomputable abbrev yV:Ss:=T.is_candidate
noncomputable abbrev jg:Nat × Str × Nat × (List D→Rs D):=(96,("is_trap" : Str),1,oz)
noncomputable def kG:Gs:=gsT (gp0 [fX, i5, jg])
noncomputable def KU:List D→Rs D:=bB kG 1 yV
theorem Jq:(Ck.mk kG wy (defScope iJ) true (λ_=>true) false false).ss yV (defBody iJ)=true:=by decide +kernel
noncomputable abbrev iO:Stmt:=top 27
noncomputable def zm:List Str:=["candidates", "seen", "index", "candidate"]
theorem EB:FnScope zm ["candidates"] (defScope iO):=⟨rfl,rfl,rfl,by decide +kernel,rfl,by decide +kernel,by decide +kernel⟩
noncomputable abbrev vX:Ss:=T.require_candidates
noncomputable abbrev ll:Nat × Str × Nat × (List D→Rs D):=(97,("is_candidate" : Str),1,KU)
noncomputable def oL:Gs:=gsT (gp0 [fX, i5, jg, ll])
noncomputable def Kv:List D→Rs D:=bB oL 4 vX
theorem NR:(Ck.mk oL zm (defScope iO) true (λ_=>true) false false).ss vX (defBody iO)=true:=by decide +kernel
noncomputable abbrev iI:Stmt:=top 28
noncomputable def yP:List Str:=["number"]
theorem Na:FnScope yP ["number"] (defScope iI):=⟨rfl,rfl,rfl,by decide +kernel,rfl,by decide +kernel,by decide +kernel⟩
noncomputable abbrev vW:Ss:=T.require_small
noncomputable abbrev nG:Nat × Str × Nat × (List D→Rs D):=(98,("require_candidates" : Str),1,Kv)
noncomputable def eT:Gs:=gsT (gp0 [fX, i5, jg, ll, nG])
noncomputable def OE:List D→Rs D:=bB eT 1 vW
theorem Lx:(Ck.mk eT yP (defScope iI) true (λ_=>true) false false).ss vW (defBody iI)=true:=by decide +kernel
noncomputable abbrev iE:Stmt:=top 29
noncomputable def A7:List Str:=["plan", "beat", "address", "delay", "earlier", "other"]
theorem Jb:FnScope A7 ["plan", "beat", "address", "delay"] (defScope iE):=⟨rfl,rfl,rfl,by decide +kernel,rfl,by decide +kernel,by decide +kernel⟩
noncomputable abbrev yZ:Ss:=T.fits
noncomputable abbrev tJ:Nat × Str × Nat × (List D→Rs D):=(99,("require_small" : Str),1,OE)
noncomputable def oV:Gs:=gsT (gp0 [fX, i5, jg, ll, nG, tJ])
noncomputable def JV:List D→Rs D:=bB oV 6 yZ
theorem Ha:(Ck.mk oV A7 (defScope iE) true (λ_=>true) false false).ss yZ (defBody iE)=true:=by decide +kernel
noncomputable abbrev gA:Stmt:=top 30
noncomputable def tV:List Str:=["candidates", "beats", "delay", "worth_of", "address", "worth", "plans", "beat", "plan"]
theorem OR:FnScope tV ["candidates", "beats", "delay"] (defScope gA):=⟨rfl,rfl,rfl,by decide +kernel,rfl,by decide +kernel,by decide +kernel⟩
noncomputable def ze:Ss:=.nil
noncomputable abbrev Ar:Nat × Str × Nat × (List D→Rs D):=(100,("fits" : Str),4,JV)
noncomputable def ju:Gs:=gsT (gp0 [fX, i5, jg, ll, nG, tJ, Ar])
noncomputable def wm:List S:=[(.exp (.call 98 (.cons (.var 0) .nil))),(.exp (.call 99 (.cons (.var 1) .nil))),(.exp (.call 99 (.cons (.var 2) .nil))),(.setDc 3 (.tp [4,5]) [4,5] (.val (.var 0)) (.some (.not (.call 96 (.cons (.var 4) .nil)))) (.var 4) (.var 5)),(.asg (.nm 6) (.lst (.cons (.lst .nil) .nil))),(.for (.nm 7) (.r1 (.var 1)) (.cons (.asg (.nm 6) (.bin .add (.var 6) (.q (.lc2 (.nm 8) [8,4] (.val (.var 6)) .none (.nm 4) [4] (.val (.var 3)) (.some (.call 100 (.cons (.var 8) (.cons (.var 7) (.cons (.var 4) (.cons (.var 2) .nil)))))) (.bin .add (.var 8) (.lst (.cons (.tup (.cons (.var 7) (.cons (.var 4) .nil))) .nil))))))) .nil))]
noncomputable def Bg:E:=(.var 6)
noncomputable def Bo:E:=(.tup (.cons (.neg (.bi .sum (.cons (.lc (.tp [2,3]) [2,3] (.val (.var 0)) .none (.op .dix (.cons (.var 1) (.cons (.var 3) .nil)))) .nil))) (.cons (.var 0) .nil)))
noncomputable def vw:List D→Rs D:=rJ ju eT 9 wm 999999 [3,1000,1001] Bg Bo ze
theorem Ez:kZ (Ck.mk ju tV (defScope gA) true (λ_=>true) false false) (pF (Ck.mk ju tV (defScope gA) true (λ_=>true) false false) eT 999999 [3,1000,1001] [("plan" : Str),("worth_of" : Str),("beat" : Str),("address" : Str)] Bg Bo ze) wm (defBody gA)=true:=by decide +kernel
noncomputable abbrev hW:Stmt:=top 32
noncomputable def zb:List Str:=["_law_cell", "_law_salt", "_law_sizes", "_law_number", "_law_left", "_law_result", "_law_k", "_law_one"]
theorem Jf:FnScope zb ["_law_cell", "_law_salt", "_law_sizes"] (defScope hW):=⟨rfl,rfl,rfl,by decide +kernel,rfl,by decide +kernel,by decide +kernel⟩
noncomputable abbrev zR:Ss:=T.L7
noncomputable abbrev Hm:Nat × Str × Nat × (List D→Rs D):=(101,("make_plan" : Str),3,vw)
noncomputable abbrev gp1 (l : List (Nat × Str × Nat × (List D → Rs D))) : List (Nat × Str × Nat × (List D → Rs D)) := gp0 (fX :: i5 :: jg :: ll :: nG :: tJ :: Ar :: Hm :: l)
noncomputable def oQ:Gs:=gsT (gp1 [])
noncomputable def KZ:List D→Rs D:=bB oQ 8 zR
theorem MY:(Ck.mk oQ zb (defScope hW) true (λ_=>true) false false).ss zR (defBody hW)=true:=by decide +kernel
noncomputable abbrev h_:Stmt:=top 33
noncomputable def BV:List Str:=["_law_digits", "_law_names", "_law_result", "_law_j", "_law_name", "_law_one"]
theorem HB:FnScope BV ["_law_digits"] (defScope h_):=⟨rfl,rfl,rfl,by decide +kernel,rfl,by decide +kernel,by decide +kernel⟩
noncomputable def rW:S:=(.asg (.nm 1) (.lst (.cons (.str "a/x") (.cons (.str "a/y") (.cons (.str "b") (.cons (.str "c/z") (.cons (.str "b/x?q=1") (.cons (.str "a/x/x/x") (.cons (.str "a") (.cons (.str "c/y") (.cons (.str "b/x") (.cons (.str "c") .nil))))))))))))
noncomputable def qO:S:=(.own 2 .nil)
noncomputable def qR:S:=(.asg (.nm 4) (.ix (.var 1) (.bin .mod (.ix (.var 0) (.bin .add (.int 1) (.bin .mul (.int 2) (.var 3)))) (.int 10))))
noncomputable def rj:S:=(.ifZ 2 (.cmp .nin (.ex (.var 4)) (.ex (.lc (.nm 5) [5] (.val (.var 2)) .none (.ix (.var 5) (.int 0))))) (.cons (.app 2 (.tup (.cons (.var 4) (.cons (.bin .add (.int 1) (.bin .mod (.ix (.var 0) (.bin .add (.int 2) (.bin .mul (.int 2) (.var 3)))) (.int 99))) .nil)))) .nil) .nil)
noncomputable def iK:Ss:=(.cons qR (.cons rj .nil))
noncomputable def uo:S:=(.for (.nm 3) (.r1 (.bin .mod (.ix (.var 0) (.int 0)) (.int 5))) iK)
noncomputable def BC:S:=(.ret (.var 2))
noncomputable def kM:Ss:= (.cons rW (.cons qO (.cons uo (.frz 2 (.cons BC .nil)))))
noncomputable abbrev pf:Nat × Str × Nat × (List D→Rs D):=(1138,("_law_numbers" : Str),3,KZ)
noncomputable def mK:Gs:=gsT (gp1 [pf])
noncomputable def FH:List D→Rs D:=bB mK 6 kM
theorem Gx:(Ck.mk mK BV (defScope h_) true (λ_=>true) false false).ss kM (defBody h_)=true:=by decide +kernel
noncomputable abbrev iQ:Stmt:=top 34
noncomputable def yt:List Str:=["_law_plan", "_law_candidates_here", "_law_worth_of", "_law_beat", "_law_name"]
theorem Hr:FnScope yt ["_law_plan", "_law_candidates_here"] (defScope iQ):=⟨rfl,rfl,rfl,by decide +kernel,rfl,by decide +kernel,by decide +kernel⟩
noncomputable def Ao:Ss:=(.cons (.asg (.nm 2) (.op .dictL (.cons (.var 1) .nil))) (.cons (.ret (.bi .sum (.cons (.lc (.tp [3,4]) [3,4] (.val (.var 0)) .none (.op .dix (.cons (.var 2) (.cons (.var 4) .nil)))) .nil))) .nil))
noncomputable abbrev sA:Nat × Str × Nat × (List D→Rs D):=(1027,("_law_candidates" : Str),1,FH)
noncomputable def oP:Gs:=gsT (gp1 [pf, sA])
noncomputable def A_:List D→Rs D:=bB oP 5 Ao
theorem OK:(Ck.mk oP yt (defScope iQ) true (λ_=>true) false false).ss Ao (defBody iQ)=true:=by decide +kernel
noncomputable abbrev iW:Stmt:=top 35
noncomputable def B2:List Str:=["_law_plan", "_law_candidates_here", "_law_beats", "_law_delay", "_law_names", "_law_name", "_law_worth_here", "_law_beat", "_law_at", "_law_early", "_law_other"]
theorem Dz:FnScope B2 ["_law_plan", "_law_candidates_here", "_law_beats", "_law_delay"] (defScope iW):=⟨rfl,rfl,rfl,by decide +kernel,rfl,by decide +kernel,by decide +kernel⟩
noncomputable def o5:S:=(.ownLc 4 (.tp [5,6]) [5,6] (.val (.var 1)) .none (.var 5))
noncomputable def oD:S:=(.ife (.cmp .ne (.ex (.lc (.tp [7,5]) [7,5] (.val (.var 0)) .none (.var 7))) (.ex (.op .srtSet (.cons (.lc (.tp [7,5]) [7,5] (.val (.var 0)) .none (.var 7)) .nil)))) (.cons (.ret (.bl false)) .nil) .nil)
noncomputable def qT:S:=(.ife (.or (.not (.ch .le .lt (.ex (.int 0)) (.ex (.var 7)) (.ex (.var 2)))) (.or (.cmp .nin (.ex (.var 5)) (.ex (.var 4))) (.call 96 (.cons (.var 5) .nil)))) (.cons (.ret (.bl false)) .nil) .nil)
noncomputable def zT:S:=(.ife (.or (.cmp .eq (.ex (.var 10)) (.ex (.var 5))) (.and (.cmp .eq (.ex (.ix (.var 10) (.int 0))) (.ex (.ix (.var 5) (.int 0)))) (.cmp .lt (.ex (.bin .sub (.var 7) (.var 9))) (.ex (.var 3))))) (.cons (.ret (.bl false)) .nil) .nil)
noncomputable def mY:Ss:=(.cons zT .nil)
noncomputable def zt:S:=(.for (.tp [9,10]) (.val (.sl (.var 0) .none (.some (.var 8)))) mY)
noncomputable def nV:Ss:=(.cons qT (.cons zt .nil))
noncomputable def uf:S:=(.for (.ns 8 [7,5]) (.enum (.var 0)) nV)
noncomputable def zo:S:=(.ret (.bl true))
noncomputable def k_:Ss:= (.cons o5 (.frz 4 (.cons oD (.cons uf (.cons zo .nil)))))
noncomputable abbrev xr:Nat × Str × Nat × (List D→Rs D):=(1231,("_law_worth" : Str),2,A_)
noncomputable def nK:Gs:=gsT (gp1 [pf, sA, xr])
noncomputable def Er:List D→Rs D:=bB nK 11 k_
theorem Fn:(Ck.mk nK B2 (defScope iW) true (λ_=>true) false false).ss k_ (defBody iW)=true:=by decide +kernel
noncomputable abbrev eS:Stmt:=top 36
noncomputable def xS:List Str:=["_law_script", "_law_k", "_law_cell", "_law_digits", "_law_candidates_here", "_law_beats", "_law_delay", "_law_plan", "_law_worth_here", "_law_more", "_law_raised", "_law_name", "_law_much", "_law_others", "_law_good", "_law_near", "_law_apart", "_law_at", "_law_one", "_law_row"]
theorem Pd:FnScope xS ["_law_script"] (defScope eS):=⟨rfl,rfl,rfl,by decide +kernel,rfl,by decide +kernel,by decide +kernel⟩
noncomputable def m_:S:=(.asg (.nm 3) (.call 1138 (.cons (.var 2) (.cons (.bin .add (.int 9100) (.var 1)) (.cons (.bin .mul (.lst (.cons (.int 420) .nil)) (.int 24)) .nil)))))
noncomputable def nR:S:=(.asg (.nm 4) (.call 1027 (.cons (.var 3) .nil)))
noncomputable def oH:S:=(.par [5,6] (.cons (.bin .mod (.ix (.var 3) (.int 12)) (.int 5)) (.cons (.bin .mod (.ix (.var 3) (.int 13)) (.int 7)) .nil)))
noncomputable def mZ:S:=(.asg (.nm 7) (.call 101 (.cons (.var 4) (.cons (.var 5) (.cons (.var 6) .nil)))))
noncomputable def ou:S:=(.asg (.nm 8) (.call 1231 (.cons (.var 7) (.cons (.var 4) .nil))))
noncomputable def mI:S:=(.ife (.or (.not (.call 1099 (.cons (.var 7) (.cons (.var 4) (.cons (.var 5) (.cons (.var 6) .nil)))))) (.cmp .ne (.ex (.call 101 (.cons (.rev (.var 4)) (.cons (.var 5) (.cons (.var 6) .nil))))) (.ex (.var 7)))) (.cons (.ret (.bl false)) .nil) .nil)
noncomputable def ph:S:=(.asg (.nm 9) (.bin .add (.var 4) (.lst (.cons (.tup (.cons (.str "far") (.cons (.bin .add (.int 1) (.bin .mod (.ix (.var 3) (.int 14)) (.int 99))) .nil))) .nil))))
noncomputable def nL:S:=(.ownLc 10 (.tp [11,12]) [11,12] (.val (.var 4)) .none (.tup (.cons (.var 11) (.cons (.bi .min2 (.cons (.int 99) (.cons (.bin .add (.var 12) (.bin .mod (.ix (.var 3) (.int 15)) (.int 50))) .nil))) .nil))))
noncomputable def pD:S:=(.own 13 (.cons (.call 1231 (.cons (.call 101 (.cons (.var 4) (.cons (.bin .add (.var 5) (.int 1)) (.cons (.var 6) .nil)))) (.cons (.var 4) .nil))) .nil))
noncomputable def nS:S:=(.ownAdd 13 (.var 13) (.lst (.cons (.call 1231 (.cons (.call 101 (.cons (.var 4) (.cons (.var 5) (.cons (.bi .max2 (.cons (.int 0) (.cons (.bin .sub (.var 6) (.int 1)) .nil))) .nil)))) (.cons (.var 4) .nil))) .nil)))
noncomputable def mG:S:=(.ownAdd 13 (.var 13) (.lst (.cons (.call 1231 (.cons (.call 101 (.cons (.var 9) (.cons (.var 5) (.cons (.var 6) .nil)))) (.cons (.var 9) .nil))) .nil)))
noncomputable def nH:S:=(.app 13 (.call 1231 (.cons (.call 101 (.cons (.var 10) (.cons (.var 5) (.cons (.var 6) .nil)))) (.cons (.var 10) .nil))))
noncomputable def oW:S:=(.ife (.or (.cmp .lt (.ex (.bi .min1 (.cons (.var 13) .nil))) (.ex (.var 8))) (.cmp .gt (.ex (.var 8)) (.ex (.bi .sum (.cons (.lc (.tp [11,12]) [11,12] (.val (.var 4)) .none (.var 12)) .nil))))) (.cons (.ret (.bl false)) .nil) .nil)
noncomputable def nW:S:=(.asg (.nm 14) (.rev (.bi .sorted (.cons (.lc (.tp [11,12]) [11,12] (.val (.var 4)) (.some (.not (.call 96 (.cons (.var 11) .nil)))) (.var 12)) .nil))))
noncomputable def zO:S:=(.ife (.cmp .ne (.ex (.call 1231 (.cons (.call 101 (.cons (.var 4) (.cons (.var 5) (.cons (.var 15) .nil)))) (.cons (.var 4) .nil)))) (.ex (.bi .sum (.cons (.sl (.var 14) .none (.some (.var 5))) .nil)))) (.cons (.ret (.bl false)) .nil) .nil)
noncomputable def sJ:Ss:=(.cons zO .nil)
noncomputable def nQ:S:=(.for (.nm 15) (.val (.lst (.cons (.int 0) (.cons (.int 1) .nil)))) sJ)
noncomputable def nN:E:=(.cmp .nin (.ex (.ix (.ix (.var 18) (.int 0)) (.int 0))) (.ex (.lc (.nm 19) [19] (.val (.sl (.var 4) .none (.some (.var 17)))) .none (.ix (.ix (.var 19) (.int 0)) (.int 0)))))
noncomputable def mL:S:=(.ownLc 16 (.tp [17,18]) [17,18] (.enum (.var 4)) (.some nN) (.var 18))
noncomputable def oo:S:=(.ife (.cmp .ne (.ex (.call 1231 (.cons (.call 101 (.cons (.var 16) (.cons (.var 5) (.cons (.int 6) .nil)))) (.cons (.var 16) .nil)))) (.ex (.call 1231 (.cons (.call 101 (.cons (.var 16) (.cons (.var 5) (.cons (.int 0) .nil)))) (.cons (.var 16) .nil))))) (.cons (.ret (.bl false)) .nil) .nil)
noncomputable def lD:Ss:=(.cons m_ (.cons nR (.cons oH (.cons mZ (.cons ou (.cons mI (.cons ph (.cons nL (.frz 10 (.cons pD (.frz 13 (.cons nS (.frz 13 (.cons mG (.cons nH (.frz 13 (.cons oW (.cons nW (.cons nQ (.cons mL (.frz 16 (.cons oo .nil))))))))))))))))))))))
noncomputable def mQ:S:=(.for (.tp [1,2]) (.enum (.bin .add (.sl (.var 0) .none (.some (.int 6))) (.bin .mul (.lst (.cons (.int 7) .nil)) (.ti .int (.cons (.cmp .eq (.ex (.var 0)) (.ex (.lst .nil))) .nil))))) lD)
noncomputable def wj:S:=(.ret (.bl true))
noncomputable def lA:Ss:= (.cons mQ (.cons wj .nil))
noncomputable abbrev Ih:Nat × Str × Nat × (List D→Rs D):=(1099,("_law_is_possible" : Str),4,Er)
noncomputable def lF:Gs:=gsT (gp1 [pf, sA, xr, Ih])
noncomputable def sX:List D→Rs D:=bB lF 20 lA
theorem LW:(Ck.mk lF xS (defScope eS) true (λ_=>true) false false).ss lA (defBody eS)=true:=by decide +kernel
set_option maxHeartbeats 0 in
theorem all {P:Program} {w:World} {K:PySem.W.Frag} {h:Heap} {mg:Str→Option Value} {fa C_InvalidAddress C_ArchiveError C_InvalidCandidates C_InvalidNumber I_InvalidAddress I_InvalidCandidates I_InvalidNumber ais_integer ais_between ais_name ais_value asplit_query ais_query ais_address arequire_address ahost_of asegments_of ais_trap ais_candidate arequire_candidates arequire_small afits amake_plan al_numbers al_candidates al_worth al_is_possible alaw cLam pLam:Addr} {o_InvalidAddress o_InvalidCandidates o_InvalidNumber:Obj} {od_InvalidAddress an_InvalidAddress od_InvalidCandidates an_InvalidCandidates od_InvalidNumber an_InvalidNumber odis_integer anis_integer odis_between anis_between odis_name anis_name odis_value anis_value odsplit_query ansplit_query odis_query anis_query odis_address anis_address odrequire_address anrequire_address odhost_of anhost_of odsegments_of ansegments_of odis_trap anis_trap odis_candidate anis_candidate odrequire_candidates anrequire_candidates odrequire_small anrequire_small odfits anfits odmake_plan anmake_plan odl_numbers anl_numbers odl_candidates anl_candidates odl_worth anl_worth odl_is_possible anl_is_possible odlaw anlaw:Option Addr} {sl_InvalidAddress sl_InvalidCandidates sl_InvalidNumber slis_integer slis_between slis_name slis_value slsplit_query slis_query slis_address slrequire_address slhost_of slsegments_of slis_trap slis_candidate slrequire_candidates slrequire_small slfits slmake_plan sll_numbers sll_candidates sll_worth sll_is_possible sllaw:Array (Option Value)} {oc_InvalidAddress0 kV_InvalidAddress dc_InvalidAddress pm_InvalidAddress cd_InvalidAddress ct_InvalidAddress oc_InvalidCandidates0 kV_InvalidCandidates dc_InvalidCandidates pm_InvalidCandidates cd_InvalidCandidates ct_InvalidCandidates oc_InvalidNumber0 kV_InvalidNumber dc_InvalidNumber pm_InvalidNumber cd_InvalidNumber ct_InvalidNumber ocis_integer kVis_integer dcis_integer pmis_integer cdis_integer ctis_integer ocis_between kVis_between dcis_between pmis_between cdis_between ctis_between ocis_name kVis_name dcis_name pmis_name cdis_name ctis_name ocis_value kVis_value dcis_value pmis_value cdis_value ctis_value ocsplit_query kVsplit_query dcsplit_query pmsplit_query cdsplit_query ctsplit_query ocis_query kVis_query dcis_query pmis_query cdis_query ctis_query ocis_address kVis_address dcis_address pmis_address cdis_address ctis_address ocrequire_address kVrequire_address dcrequire_address pmrequire_address cdrequire_address ctrequire_address ochost_of kVhost_of dchost_of pmhost_of cdhost_of cthost_of ocsegments_of kVsegments_of dcsegments_of pmsegments_of cdsegments_of ctsegments_of ocis_trap kVis_trap dcis_trap pmis_trap cdis_trap ctis_trap ocis_candidate kVis_candidate dcis_candidate pmis_candidate cdis_candidate ctis_candidate ocrequire_candidates kVrequire_candidates dcrequire_candidates pmrequire_candidates cdrequire_candidates ctrequire_candidates ocrequire_small kVrequire_small dcrequire_small pmrequire_small cdrequire_small ctrequire_small ocfits kVfits dcfits pmfits cdfits ctfits ocmake_plan kVmake_plan dcmake_plan pmmake_plan cdmake_plan ctmake_plan ocl_numbers kVl_numbers dcl_numbers pml_numbers cdl_numbers ctl_numbers ocl_candidates kVl_candidates dcl_candidates pml_candidates cdl_candidates ctl_candidates ocl_worth kVl_worth dcl_worth pml_worth cdl_worth ctl_worth ocl_is_possible kVl_is_possible dcl_is_possible pml_is_possible cdl_is_possible ctl_is_possible oclaw kVlaw dclaw pmlaw cdlaw ctlaw:Value} {tk_LETTERS tk_DIGITS tk_MAX_LENGTH tk_MAX_SEGMENTS tk_MAX_PARAMETERS tk_MAX_CANDIDATES tk_MAX_WORTH tk_MAX_BEATS:Tok} (X:K.In h) (G:h.Ns mainGlobals mg) (hfa:mg "law" = some (.ref fa))
  (a_InvalidAddress:PySem.W.nsIn K mainGlobals "InvalidAddress" = some (some (.ref C_InvalidAddress)))
  (a_ArchiveError:PySem.W.nsIn K mainGlobals "ArchiveError" = some (some (.ref C_ArchiveError)))
  (a_InvalidCandidates:PySem.W.nsIn K mainGlobals "InvalidCandidates" = some (some (.ref C_InvalidCandidates)))
  (a_InvalidNumber:PySem.W.nsIn K mainGlobals "InvalidNumber" = some (some (.ref C_InvalidNumber)))
  (sx_InvalidAddress:PySem.W.subIn K (.ref C_InvalidAddress) (.type "BaseException")=some true)
  (ty_InvalidAddress:PySem.W.typeIn K (.ref C_InvalidAddress)=some (.type "type"))
  (ic_InvalidAddress:PySem.W.isClsIn K C_InvalidAddress=true)
  (sx_ArchiveError:PySem.W.subIn K (.ref C_ArchiveError) (.type "BaseException")=some true)
  (ty_ArchiveError:PySem.W.typeIn K (.ref C_ArchiveError)=some (.type "type"))
  (ic_ArchiveError:PySem.W.isClsIn K C_ArchiveError=true)
  (sx_InvalidCandidates:PySem.W.subIn K (.ref C_InvalidCandidates) (.type "BaseException")=some true)
  (ty_InvalidCandidates:PySem.W.typeIn K (.ref C_InvalidCandidates)=some (.type "type"))
  (ic_InvalidCandidates:PySem.W.isClsIn K C_InvalidCandidates=true)
  (sx_InvalidNumber:PySem.W.subIn K (.ref C_InvalidNumber) (.type "BaseException")=some true)
  (ty_InvalidNumber:PySem.W.typeIn K (.ref C_InvalidNumber)=some (.type "type"))
  (ic_InvalidNumber:PySem.W.isClsIn K C_InvalidNumber=true)
  (og:PySem.W.specialIn K (.builtin "object.__class__") "__get__" = some (some (.builtin "getset_descriptor.__get__")))
  (ot:PySem.W.takesIn K (.builtin "object.__class__")=some true)
  (lo_InvalidAddress:K.lookup C_InvalidAddress=some o_InvalidAddress)
  (oe_InvalidAddress:(PySem.W.excInitIn [(C_InvalidAddress,o_InvalidAddress)] C_InvalidAddress (Bs.tail .exc) (Bs.new .exc)&&PySem.W.excOver [(C_InvalidAddress,o_InvalidAddress)] C_InvalidAddress (Bs.tail .exc))=true)
  (hd_InvalidAddress:PySem.W.hasDictIn K C_InvalidAddress=true)
  (tk0_InvalidAddress:PySem.W.takerIn K C_InvalidAddress "value" = some none)
  (sa_InvalidAddress:PySem.W.findIn K (.ref C_InvalidAddress) "__setattr__" = some (some (.builtin "object.__setattr__")))
  (kc_InvalidAddress:PySem.W.keepIn K (.ref C_InvalidAddress)=true)
  (q1_InvalidAddress:PySem.W.findIn K (.ref C_InvalidAddress) "__getattribute__" = some (some (.builtin "BaseException.__getattribute__")))
  (q2_InvalidAddress:PySem.W.findIn K (.ref C_InvalidAddress) "__getattr__" = some none)
  (q3_InvalidAddress:PySem.W.findIn K (.ref C_InvalidAddress) "__class__" = some (some (.builtin "object.__class__")))
  (q4_InvalidAddress:PySem.W.mroIn K C_InvalidAddress (.type "object")=some true)
  (q5_InvalidAddress:PySem.W.findIn K (.ref C_InvalidAddress) "value" = some none)
  (n1_InvalidAddress:PySem.W.mroIn K C_InvalidAddress (.type "str")=some false)
  (n2_InvalidAddress:PySem.W.mroIn K C_InvalidAddress (.type "int")=some false)
  (n3_InvalidAddress:PySem.W.mroIn K C_InvalidAddress (.type "bool")=some false)
  (n4_InvalidAddress:PySem.W.mroIn K C_InvalidAddress (.type "list")=some false)
  (n5_InvalidAddress:PySem.W.mroIn K C_InvalidAddress (.type "tuple")=some false)
  (n6_InvalidAddress:PySem.W.mroIn K C_InvalidAddress (.type "dict")=some false)
  (i_InvalidAddress:PySem.W.findIn K (.ref C_InvalidAddress) "__init__" = some (some (.ref I_InvalidAddress)))
  (f_InvalidAddress:PySem.W.isFn K (.ref I_InvalidAddress)=true)
  (l_InvalidAddress:K.lookup I_InvalidAddress=some ⟨oc_InvalidAddress0,od_InvalidAddress,.func (PySem.W.fnOf "__init__" "InvalidAddress.__init__" (defArgs (inClass (top 2) 0)) (defBody (inClass (top 2) 0)) (defScope (inClass (top 2) 0)) .none kV_InvalidAddress dc_InvalidAddress pm_InvalidAddress an_InvalidAddress cd_InvalidAddress ct_InvalidAddress),sl_InvalidAddress⟩)
  (c_InvalidAddress:PySem.W.codeIn K cd_InvalidAddress "InvalidAddress.__init__" = true)
  (k_InvalidAddress:PySem.W.keepIn K (.ref I_InvalidAddress)=true)
  (rd_ArchiveError:PySem.W.readsIn K C_ArchiveError (.type "type")=true)
  (ga_ArchiveError:PySem.W.specialIn K (.ref C_ArchiveError) "__getattribute__" = some (some (.builtin "type.__getattribute__")))
  (v_ArchiveError:PySem.W.findCls K (.ref C_ArchiveError) (.type "type") "__init__" = some (.val (.builtin "Exception.__init__")))
  (lo_InvalidCandidates:K.lookup C_InvalidCandidates=some o_InvalidCandidates)
  (oe_InvalidCandidates:(PySem.W.excInitIn [(C_InvalidCandidates,o_InvalidCandidates)] C_InvalidCandidates (Bs.tail .exc) (Bs.new .exc)&&PySem.W.excOver [(C_InvalidCandidates,o_InvalidCandidates)] C_InvalidCandidates (Bs.tail .exc))=true)
  (hd_InvalidCandidates:PySem.W.hasDictIn K C_InvalidCandidates=true)
  (tk0_InvalidCandidates:PySem.W.takerIn K C_InvalidCandidates "index" = some none)
  (sa_InvalidCandidates:PySem.W.findIn K (.ref C_InvalidCandidates) "__setattr__" = some (some (.builtin "object.__setattr__")))
  (kc_InvalidCandidates:PySem.W.keepIn K (.ref C_InvalidCandidates)=true)
  (q1_InvalidCandidates:PySem.W.findIn K (.ref C_InvalidCandidates) "__getattribute__" = some (some (.builtin "BaseException.__getattribute__")))
  (q2_InvalidCandidates:PySem.W.findIn K (.ref C_InvalidCandidates) "__getattr__" = some none)
  (q3_InvalidCandidates:PySem.W.findIn K (.ref C_InvalidCandidates) "__class__" = some (some (.builtin "object.__class__")))
  (q4_InvalidCandidates:PySem.W.mroIn K C_InvalidCandidates (.type "object")=some true)
  (q5_InvalidCandidates:PySem.W.findIn K (.ref C_InvalidCandidates) "index" = some none)
  (n1_InvalidCandidates:PySem.W.mroIn K C_InvalidCandidates (.type "str")=some false)
  (n2_InvalidCandidates:PySem.W.mroIn K C_InvalidCandidates (.type "int")=some false)
  (n3_InvalidCandidates:PySem.W.mroIn K C_InvalidCandidates (.type "bool")=some false)
  (n4_InvalidCandidates:PySem.W.mroIn K C_InvalidCandidates (.type "list")=some false)
  (n5_InvalidCandidates:PySem.W.mroIn K C_InvalidCandidates (.type "tuple")=some false)
  (n6_InvalidCandidates:PySem.W.mroIn K C_InvalidCandidates (.type "dict")=some false)
  (i_InvalidCandidates:PySem.W.findIn K (.ref C_InvalidCandidates) "__init__" = some (some (.ref I_InvalidCandidates)))
  (f_InvalidCandidates:PySem.W.isFn K (.ref I_InvalidCandidates)=true)
  (l_InvalidCandidates:K.lookup I_InvalidCandidates=some ⟨oc_InvalidCandidates0,od_InvalidCandidates,.func (PySem.W.fnOf "__init__" "InvalidCandidates.__init__" (defArgs (inClass (top 3) 0)) (defBody (inClass (top 3) 0)) (defScope (inClass (top 3) 0)) .none kV_InvalidCandidates dc_InvalidCandidates pm_InvalidCandidates an_InvalidCandidates cd_InvalidCandidates ct_InvalidCandidates),sl_InvalidCandidates⟩)
  (c_InvalidCandidates:PySem.W.codeIn K cd_InvalidCandidates "InvalidCandidates.__init__" = true)
  (k_InvalidCandidates:PySem.W.keepIn K (.ref I_InvalidCandidates)=true)
  (lo_InvalidNumber:K.lookup C_InvalidNumber=some o_InvalidNumber)
  (oe_InvalidNumber:(PySem.W.excInitIn [(C_InvalidNumber,o_InvalidNumber)] C_InvalidNumber (Bs.tail .val) (Bs.new .val)&&PySem.W.excOver [(C_InvalidNumber,o_InvalidNumber)] C_InvalidNumber (Bs.tail .val))=true)
  (hd_InvalidNumber:PySem.W.hasDictIn K C_InvalidNumber=true)
  (tk0_InvalidNumber:PySem.W.takerIn K C_InvalidNumber "value" = some none)
  (sa_InvalidNumber:PySem.W.findIn K (.ref C_InvalidNumber) "__setattr__" = some (some (.builtin "object.__setattr__")))
  (kc_InvalidNumber:PySem.W.keepIn K (.ref C_InvalidNumber)=true)
  (q1_InvalidNumber:PySem.W.findIn K (.ref C_InvalidNumber) "__getattribute__" = some (some (.builtin "BaseException.__getattribute__")))
  (q2_InvalidNumber:PySem.W.findIn K (.ref C_InvalidNumber) "__getattr__" = some none)
  (q3_InvalidNumber:PySem.W.findIn K (.ref C_InvalidNumber) "__class__" = some (some (.builtin "object.__class__")))
  (q4_InvalidNumber:PySem.W.mroIn K C_InvalidNumber (.type "object")=some true)
  (q5_InvalidNumber:PySem.W.findIn K (.ref C_InvalidNumber) "value" = some none)
  (n1_InvalidNumber:PySem.W.mroIn K C_InvalidNumber (.type "str")=some false)
  (n2_InvalidNumber:PySem.W.mroIn K C_InvalidNumber (.type "int")=some false)
  (n3_InvalidNumber:PySem.W.mroIn K C_InvalidNumber (.type "bool")=some false)
  (n4_InvalidNumber:PySem.W.mroIn K C_InvalidNumber (.type "list")=some false)
  (n5_InvalidNumber:PySem.W.mroIn K C_InvalidNumber (.type "tuple")=some false)
  (n6_InvalidNumber:PySem.W.mroIn K C_InvalidNumber (.type "dict")=some false)
  (i_InvalidNumber:PySem.W.findIn K (.ref C_InvalidNumber) "__init__" = some (some (.ref I_InvalidNumber)))
  (f_InvalidNumber:PySem.W.isFn K (.ref I_InvalidNumber)=true)
  (l_InvalidNumber:K.lookup I_InvalidNumber=some ⟨oc_InvalidNumber0,od_InvalidNumber,.func (PySem.W.fnOf "__init__" "InvalidNumber.__init__" (defArgs (inClass (top 4) 0)) (defBody (inClass (top 4) 0)) (defScope (inClass (top 4) 0)) .none kV_InvalidNumber dc_InvalidNumber pm_InvalidNumber an_InvalidNumber cd_InvalidNumber ct_InvalidNumber),sl_InvalidNumber⟩)
  (c_InvalidNumber:PySem.W.codeIn K cd_InvalidNumber "InvalidNumber.__init__" = true)
  (k_InvalidNumber:PySem.W.keepIn K (.ref I_InvalidNumber)=true)
  (m0_InvalidNumber:PySem.W.nsIn K mainGlobals "ValueError" = some none)
  (v_InvalidNumber:PySem.W.findCls K (.type "ValueError") (.type "type") "__init__" = some (.val (.builtin "ValueError.__init__")))
  (g_LETTERS:PySem.W.nsIn K mainGlobals "LETTERS" = some (some (.str "abcdefghijklmnopqrstuvwxyz" tk_LETTERS)))
  (g_DIGITS:PySem.W.nsIn K mainGlobals "DIGITS" = some (some (.str "0123456789" tk_DIGITS)))
  (g_MAX_LENGTH:PySem.W.nsIn K mainGlobals "MAX_LENGTH" = some (some (.int 8 tk_MAX_LENGTH)))
  (g_MAX_SEGMENTS:PySem.W.nsIn K mainGlobals "MAX_SEGMENTS" = some (some (.int 6 tk_MAX_SEGMENTS)))
  (g_MAX_PARAMETERS:PySem.W.nsIn K mainGlobals "MAX_PARAMETERS" = some (some (.int 4 tk_MAX_PARAMETERS)))
  (g_MAX_CANDIDATES:PySem.W.nsIn K mainGlobals "MAX_CANDIDATES" = some (some (.int 5 tk_MAX_CANDIDATES)))
  (g_MAX_WORTH:PySem.W.nsIn K mainGlobals "MAX_WORTH" = some (some (.int 99 tk_MAX_WORTH)))
  (g_MAX_BEATS:PySem.W.nsIn K mainGlobals "MAX_BEATS" = some (some (.int 6 tk_MAX_BEATS)))
  (b_all:PySem.W.nsIn K mainGlobals "all" = some none)
  (b_bool:PySem.W.nsIn K mainGlobals "bool" = some none)
  (b_dict:PySem.W.nsIn K mainGlobals "dict" = some none)
  (b_enumerate:PySem.W.nsIn K mainGlobals "enumerate" = some none)
  (b_int:PySem.W.nsIn K mainGlobals "int" = some none)
  (b_isinstance:PySem.W.nsIn K mainGlobals "isinstance" = some none)
  (b_len:PySem.W.nsIn K mainGlobals "len" = some none)
  (b_list:PySem.W.nsIn K mainGlobals "list" = some none)
  (b_max:PySem.W.nsIn K mainGlobals "max" = some none)
  (b_min:PySem.W.nsIn K mainGlobals "min" = some none)
  (b_range:PySem.W.nsIn K mainGlobals "range" = some none)
  (b_set:PySem.W.nsIn K mainGlobals "set" = some none)
  (b_sorted:PySem.W.nsIn K mainGlobals "sorted" = some none)
  (b_str:PySem.W.nsIn K mainGlobals "str" = some none)
  (b_sum:PySem.W.nsIn K mainGlobals "sum" = some none)
  (b_tuple:PySem.W.nsIn K mainGlobals "tuple" = some none)
  (a_is_integer:PySem.W.nsIn K mainGlobals "is_integer" = some (some (.ref ais_integer)))
  (l_is_integer:K.lookup ais_integer=some ⟨ocis_integer,odis_integer,.func (PySem.W.fnOf "is_integer" "is_integer" (defArgs iw) (defBody iw) (defScope iw) .none kVis_integer dcis_integer pmis_integer anis_integer cdis_integer ctis_integer),slis_integer⟩)
  (c_is_integer:PySem.W.codeIn K cdis_integer "is_integer" = true)
  (k_is_integer:PySem.W.keepIn K (.ref ais_integer)=true)
  (a_is_between:PySem.W.nsIn K mainGlobals "is_between" = some (some (.ref ais_between)))
  (l_is_between:K.lookup ais_between=some ⟨ocis_between,odis_between,.func (PySem.W.fnOf "is_between" "is_between" (defArgs iU) (defBody iU) (defScope iU) .none kVis_between dcis_between pmis_between anis_between cdis_between ctis_between),slis_between⟩)
  (c_is_between:PySem.W.codeIn K cdis_between "is_between" = true)
  (k_is_between:PySem.W.keepIn K (.ref ais_between)=true)
  (a_is_name:PySem.W.nsIn K mainGlobals "is_name" = some (some (.ref ais_name)))
  (l_is_name:K.lookup ais_name=some ⟨ocis_name,odis_name,.func (PySem.W.fnOf "is_name" "is_name" (defArgs iG) (defBody iG) (defScope iG) .none kVis_name dcis_name pmis_name anis_name cdis_name ctis_name),slis_name⟩)
  (c_is_name:PySem.W.codeIn K cdis_name "is_name" = true)
  (k_is_name:PySem.W.keepIn K (.ref ais_name)=true)
  (a_is_value:PySem.W.nsIn K mainGlobals "is_value" = some (some (.ref ais_value)))
  (l_is_value:K.lookup ais_value=some ⟨ocis_value,odis_value,.func (PySem.W.fnOf "is_value" "is_value" (defArgs iS) (defBody iS) (defScope iS) .none kVis_value dcis_value pmis_value anis_value cdis_value ctis_value),slis_value⟩)
  (c_is_value:PySem.W.codeIn K cdis_value "is_value" = true)
  (k_is_value:PySem.W.keepIn K (.ref ais_value)=true)
  (a_split_query:PySem.W.nsIn K mainGlobals "split_query" = some (some (.ref asplit_query)))
  (l_split_query:K.lookup asplit_query=some ⟨ocsplit_query,odsplit_query,.func (PySem.W.fnOf "split_query" "split_query" (defArgs iV) (defBody iV) (defScope iV) .none kVsplit_query dcsplit_query pmsplit_query ansplit_query cdsplit_query ctsplit_query),slsplit_query⟩)
  (c_split_query:PySem.W.codeIn K cdsplit_query "split_query" = true)
  (k_split_query:PySem.W.keepIn K (.ref asplit_query)=true)
  (a_is_query:PySem.W.nsIn K mainGlobals "is_query" = some (some (.ref ais_query)))
  (l_is_query:K.lookup ais_query=some ⟨ocis_query,odis_query,.func (PySem.W.fnOf "is_query" "is_query" (defArgs hU) (defBody hU) (defScope hU) .none kVis_query dcis_query pmis_query anis_query cdis_query ctis_query),slis_query⟩)
  (c_is_query:PySem.W.codeIn K cdis_query "is_query" = true)
  (k_is_query:PySem.W.keepIn K (.ref ais_query)=true)
  (a_is_address:PySem.W.nsIn K mainGlobals "is_address" = some (some (.ref ais_address)))
  (l_is_address:K.lookup ais_address=some ⟨ocis_address,odis_address,.func (PySem.W.fnOf "is_address" "is_address" (defArgs iT) (defBody iT) (defScope iT) .none kVis_address dcis_address pmis_address anis_address cdis_address ctis_address),slis_address⟩)
  (c_is_address:PySem.W.codeIn K cdis_address "is_address" = true)
  (k_is_address:PySem.W.keepIn K (.ref ais_address)=true)
  (a_require_address:PySem.W.nsIn K mainGlobals "require_address" = some (some (.ref arequire_address)))
  (l_require_address:K.lookup arequire_address=some ⟨ocrequire_address,odrequire_address,.func (PySem.W.fnOf "require_address" "require_address" (defArgs iL) (defBody iL) (defScope iL) .none kVrequire_address dcrequire_address pmrequire_address anrequire_address cdrequire_address ctrequire_address),slrequire_address⟩)
  (c_require_address:PySem.W.codeIn K cdrequire_address "require_address" = true)
  (k_require_address:PySem.W.keepIn K (.ref arequire_address)=true)
  (a_host_of:PySem.W.nsIn K mainGlobals "host_of" = some (some (.ref ahost_of)))
  (l_host_of:K.lookup ahost_of=some ⟨ochost_of,odhost_of,.func (PySem.W.fnOf "host_of" "host_of" (defArgs ie) (defBody ie) (defScope ie) .none kVhost_of dchost_of pmhost_of anhost_of cdhost_of cthost_of),slhost_of⟩)
  (c_host_of:PySem.W.codeIn K cdhost_of "host_of" = true)
  (k_host_of:PySem.W.keepIn K (.ref ahost_of)=true)
  (a_segments_of:PySem.W.nsIn K mainGlobals "segments_of" = some (some (.ref asegments_of)))
  (l_segments_of:K.lookup asegments_of=some ⟨ocsegments_of,odsegments_of,.func (PySem.W.fnOf "segments_of" "segments_of" (defArgs iF) (defBody iF) (defScope iF) .none kVsegments_of dcsegments_of pmsegments_of ansegments_of cdsegments_of ctsegments_of),slsegments_of⟩)
  (c_segments_of:PySem.W.codeIn K cdsegments_of "segments_of" = true)
  (k_segments_of:PySem.W.keepIn K (.ref asegments_of)=true)
  (a_is_trap:PySem.W.nsIn K mainGlobals "is_trap" = some (some (.ref ais_trap)))
  (l_is_trap:K.lookup ais_trap=some ⟨ocis_trap,odis_trap,.func (PySem.W.fnOf "is_trap" "is_trap" (defArgs iX) (defBody iX) (defScope iX) .none kVis_trap dcis_trap pmis_trap anis_trap cdis_trap ctis_trap),slis_trap⟩)
  (c_is_trap:PySem.W.codeIn K cdis_trap "is_trap" = true)
  (k_is_trap:PySem.W.keepIn K (.ref ais_trap)=true)
  (a_is_candidate:PySem.W.nsIn K mainGlobals "is_candidate" = some (some (.ref ais_candidate)))
  (l_is_candidate:K.lookup ais_candidate=some ⟨ocis_candidate,odis_candidate,.func (PySem.W.fnOf "is_candidate" "is_candidate" (defArgs iJ) (defBody iJ) (defScope iJ) .none kVis_candidate dcis_candidate pmis_candidate anis_candidate cdis_candidate ctis_candidate),slis_candidate⟩)
  (c_is_candidate:PySem.W.codeIn K cdis_candidate "is_candidate" = true)
  (k_is_candidate:PySem.W.keepIn K (.ref ais_candidate)=true)
  (a_require_candidates:PySem.W.nsIn K mainGlobals "require_candidates" = some (some (.ref arequire_candidates)))
  (l_require_candidates:K.lookup arequire_candidates=some ⟨ocrequire_candidates,odrequire_candidates,.func (PySem.W.fnOf "require_candidates" "require_candidates" (defArgs iO) (defBody iO) (defScope iO) .none kVrequire_candidates dcrequire_candidates pmrequire_candidates anrequire_candidates cdrequire_candidates ctrequire_candidates),slrequire_candidates⟩)
  (c_require_candidates:PySem.W.codeIn K cdrequire_candidates "require_candidates" = true)
  (k_require_candidates:PySem.W.keepIn K (.ref arequire_candidates)=true)
  (a_require_small:PySem.W.nsIn K mainGlobals "require_small" = some (some (.ref arequire_small)))
  (l_require_small:K.lookup arequire_small=some ⟨ocrequire_small,odrequire_small,.func (PySem.W.fnOf "require_small" "require_small" (defArgs iI) (defBody iI) (defScope iI) .none kVrequire_small dcrequire_small pmrequire_small anrequire_small cdrequire_small ctrequire_small),slrequire_small⟩)
  (c_require_small:PySem.W.codeIn K cdrequire_small "require_small" = true)
  (k_require_small:PySem.W.keepIn K (.ref arequire_small)=true)
  (a_fits:PySem.W.nsIn K mainGlobals "fits" = some (some (.ref afits)))
  (l_fits:K.lookup afits=some ⟨ocfits,odfits,.func (PySem.W.fnOf "fits" "fits" (defArgs iE) (defBody iE) (defScope iE) .none kVfits dcfits pmfits anfits cdfits ctfits),slfits⟩)
  (c_fits:PySem.W.codeIn K cdfits "fits" = true)
  (k_fits:PySem.W.keepIn K (.ref afits)=true)
  (a_make_plan:PySem.W.nsIn K mainGlobals "make_plan" = some (some (.ref amake_plan)))
  (l_make_plan:K.lookup amake_plan=some ⟨ocmake_plan,odmake_plan,.func (PySem.W.fnOf "make_plan" "make_plan" (defArgs gA) (defBody gA) (defScope gA) .none kVmake_plan dcmake_plan pmmake_plan anmake_plan cdmake_plan ctmake_plan),slmake_plan⟩)
  (c_make_plan:PySem.W.codeIn K cdmake_plan "make_plan" = true)
  (k_make_plan:PySem.W.keepIn K (.ref amake_plan)=true)
  (a_l_numbers:PySem.W.nsIn K mainGlobals "_law_numbers" = some (some (.ref al_numbers)))
  (l_l_numbers:K.lookup al_numbers=some ⟨ocl_numbers,odl_numbers,.func (PySem.W.fnOf "_law_numbers" "_law_numbers" (defArgs hW) (defBody hW) (defScope hW) .none kVl_numbers dcl_numbers pml_numbers anl_numbers cdl_numbers ctl_numbers),sll_numbers⟩)
  (c_l_numbers:PySem.W.codeIn K cdl_numbers "_law_numbers" = true)
  (k_l_numbers:PySem.W.keepIn K (.ref al_numbers)=true)
  (a_l_candidates:PySem.W.nsIn K mainGlobals "_law_candidates" = some (some (.ref al_candidates)))
  (l_l_candidates:K.lookup al_candidates=some ⟨ocl_candidates,odl_candidates,.func (PySem.W.fnOf "_law_candidates" "_law_candidates" (defArgs h_) (defBody h_) (defScope h_) .none kVl_candidates dcl_candidates pml_candidates anl_candidates cdl_candidates ctl_candidates),sll_candidates⟩)
  (c_l_candidates:PySem.W.codeIn K cdl_candidates "_law_candidates" = true)
  (k_l_candidates:PySem.W.keepIn K (.ref al_candidates)=true)
  (a_l_worth:PySem.W.nsIn K mainGlobals "_law_worth" = some (some (.ref al_worth)))
  (l_l_worth:K.lookup al_worth=some ⟨ocl_worth,odl_worth,.func (PySem.W.fnOf "_law_worth" "_law_worth" (defArgs iQ) (defBody iQ) (defScope iQ) .none kVl_worth dcl_worth pml_worth anl_worth cdl_worth ctl_worth),sll_worth⟩)
  (c_l_worth:PySem.W.codeIn K cdl_worth "_law_worth" = true)
  (k_l_worth:PySem.W.keepIn K (.ref al_worth)=true)
  (a_l_is_possible:PySem.W.nsIn K mainGlobals "_law_is_possible" = some (some (.ref al_is_possible)))
  (l_l_is_possible:K.lookup al_is_possible=some ⟨ocl_is_possible,odl_is_possible,.func (PySem.W.fnOf "_law_is_possible" "_law_is_possible" (defArgs iW) (defBody iW) (defScope iW) .none kVl_is_possible dcl_is_possible pml_is_possible anl_is_possible cdl_is_possible ctl_is_possible),sll_is_possible⟩)
  (c_l_is_possible:PySem.W.codeIn K cdl_is_possible "_law_is_possible" = true)
  (k_l_is_possible:PySem.W.keepIn K (.ref al_is_possible)=true)
  (a_law:PySem.W.nsIn K mainGlobals "law" = some (some (.ref alaw)))
  (l_law:K.lookup alaw=some ⟨oclaw,odlaw,.func (PySem.W.fnOf "law" "law" (defArgs eS) (defBody eS) (defScope eS) .none kVlaw dclaw pmlaw anlaw cdlaw ctlaw),sllaw⟩)
  (c_law:PySem.W.codeIn K cdlaw "law" = true)
  (k_law:PySem.W.keepIn K (.ref alaw)=true)
  (hcL:cdmake_plan = .ref cLam)
  (hmL:MkK K cLam pLam "make_plan") :
  ∃ fd:FuncData,(∀ (s:Shared) (u:Value),BindsTo s fd ⟨[u],[]⟩ [("_law_script",u)]) ∧ ∀ base:Heap,K.In base→base.Ns mainGlobals mg→(∀ c P q,MkK K c P q→LamX.TabB base mg c P)→FnG P w K mg base 23 fa fd ["_law_script"] (spF K mg 1 sX):=by
 cases hfa.symm.trans (br X G a_law)
 have F_is_integer:=bZ (st:=iw) l_is_integer c_is_integer k_is_integer
 have B_is_integer:=F_is_integer.binds (ps:=["value"]) λ_ _ _ _ _ _ us hl=>by obtain ⟨a,rfl⟩:=dD hl; rfl
 have F_is_between:=bZ (st:=iU) l_is_between c_is_between k_is_between
 have B_is_between:=F_is_between.binds (ps:=["value", "least", "most"]) λ_ _ _ _ _ _ us hl=>by obtain ⟨a,b,c,rfl⟩:=rf hl; rfl
 have F_is_name:=bZ (st:=iG) l_is_name c_is_name k_is_name
 have B_is_name:=F_is_name.binds (ps:=["value"]) λ_ _ _ _ _ _ us hl=>by obtain ⟨a,rfl⟩:=dD hl; rfl
 have F_is_value:=bZ (st:=iS) l_is_value c_is_value k_is_value
 have B_is_value:=F_is_value.binds (ps:=["text"]) λ_ _ _ _ _ _ us hl=>by obtain ⟨a,rfl⟩:=dD hl; rfl
 have F_split_query:=bZ (st:=iV) l_split_query c_split_query k_split_query
 have B_split_query:=F_split_query.binds (ps:=["text"]) λ_ _ _ _ _ _ us hl=>by obtain ⟨a,rfl⟩:=dD hl; rfl
 have F_is_query:=bZ (st:=hU) l_is_query c_is_query k_is_query
 have B_is_query:=F_is_query.binds (ps:=["text"]) λ_ _ _ _ _ _ us hl=>by obtain ⟨a,rfl⟩:=dD hl; rfl
 have F_is_address:=bZ (st:=iT) l_is_address c_is_address k_is_address
 have B_is_address:=F_is_address.binds (ps:=["value"]) λ_ _ _ _ _ _ us hl=>by obtain ⟨a,rfl⟩:=dD hl; rfl
 have F_require_address:=bZ (st:=iL) l_require_address c_require_address k_require_address
 have B_require_address:=F_require_address.binds (ps:=["value"]) λ_ _ _ _ _ _ us hl=>by obtain ⟨a,rfl⟩:=dD hl; rfl
 have F_host_of:=bZ (st:=ie) l_host_of c_host_of k_host_of
 have B_host_of:=F_host_of.binds (ps:=["address"]) λ_ _ _ _ _ _ us hl=>by obtain ⟨a,rfl⟩:=dD hl; rfl
 have F_segments_of:=bZ (st:=iF) l_segments_of c_segments_of k_segments_of
 have B_segments_of:=F_segments_of.binds (ps:=["address"]) λ_ _ _ _ _ _ us hl=>by obtain ⟨a,rfl⟩:=dD hl; rfl
 have F_is_trap:=bZ (st:=iX) l_is_trap c_is_trap k_is_trap
 have B_is_trap:=F_is_trap.binds (ps:=["address"]) λ_ _ _ _ _ _ us hl=>by obtain ⟨a,rfl⟩:=dD hl; rfl
 have F_is_candidate:=bZ (st:=iJ) l_is_candidate c_is_candidate k_is_candidate
 have B_is_candidate:=F_is_candidate.binds (ps:=["value"]) λ_ _ _ _ _ _ us hl=>by obtain ⟨a,rfl⟩:=dD hl; rfl
 have F_require_candidates:=bZ (st:=iO) l_require_candidates c_require_candidates k_require_candidates
 have B_require_candidates:=F_require_candidates.binds (ps:=["candidates"]) λ_ _ _ _ _ _ us hl=>by obtain ⟨a,rfl⟩:=dD hl; rfl
 have F_require_small:=bZ (st:=iI) l_require_small c_require_small k_require_small
 have B_require_small:=F_require_small.binds (ps:=["number"]) λ_ _ _ _ _ _ us hl=>by obtain ⟨a,rfl⟩:=dD hl; rfl
 have F_fits:=bZ (st:=iE) l_fits c_fits k_fits
 have B_fits:=F_fits.binds (ps:=["plan", "beat", "address", "delay"]) λ_ _ _ _ _ _ us hl=>by obtain ⟨a,b,c,d,rfl⟩:=xg hl; rfl
 have F_make_plan:=bZ (st:=gA) l_make_plan c_make_plan k_make_plan
 have B_make_plan:=F_make_plan.binds (ps:=["candidates", "beats", "delay"]) λ_ _ _ _ _ _ us hl=>by obtain ⟨a,b,c,rfl⟩:=rf hl; rfl
 have F_l_numbers:=bZ (st:=hW) l_l_numbers c_l_numbers k_l_numbers
 have B_l_numbers:=F_l_numbers.binds (ps:=["_law_cell", "_law_salt", "_law_sizes"]) λ_ _ _ _ _ _ us hl=>by obtain ⟨a,b,c,rfl⟩:=rf hl; rfl
 have F_l_candidates:=bZ (st:=h_) l_l_candidates c_l_candidates k_l_candidates
 have B_l_candidates:=F_l_candidates.binds (ps:=["_law_digits"]) λ_ _ _ _ _ _ us hl=>by obtain ⟨a,rfl⟩:=dD hl; rfl
 have F_l_worth:=bZ (st:=iQ) l_l_worth c_l_worth k_l_worth
 have B_l_worth:=F_l_worth.binds (ps:=["_law_plan", "_law_candidates_here"]) λ_ _ _ _ _ _ us hl=>by obtain ⟨a,b,rfl⟩:=oR hl; rfl
 have F_l_is_possible:=bZ (st:=iW) l_l_is_possible c_l_is_possible k_l_is_possible
 have B_l_is_possible:=F_l_is_possible.binds (ps:=["_law_plan", "_law_candidates_here", "_law_beats", "_law_delay"]) λ_ _ _ _ _ _ us hl=>by obtain ⟨a,b,c,d,rfl⟩:=xg hl; rfl
 have F_law:=bZ (st:=eS) l_law c_law k_law
 have B_law:=F_law.binds (ps:=["_law_script"]) λ_ _ _ _ _ _ us hl=>by obtain ⟨a,rfl⟩:=dD hl; rfl
 have FI_InvalidAddress:=bZ (st:=inClass (top 2) 0) l_InvalidAddress c_InvalidAddress k_InvalidAddress
 have BI_InvalidAddress:=FI_InvalidAddress.binds (ps:=["self", "value"]) λ_ _ _ _ _ _ us hl=>by obtain ⟨a,b,rfl⟩:=oR hl; rfl
 have FI_InvalidCandidates:=bZ (st:=inClass (top 3) 0) l_InvalidCandidates c_InvalidCandidates k_InvalidCandidates
 have BI_InvalidCandidates:=FI_InvalidCandidates.binds (ps:=["self", "index"]) λ_ _ _ _ _ _ us hl=>by obtain ⟨a,b,rfl⟩:=oR hl; rfl
 have FI_InvalidNumber:=bZ (st:=inClass (top 4) 0) l_InvalidNumber c_InvalidNumber k_InvalidNumber
 have BI_InvalidNumber:=FI_InvalidNumber.binds (ps:=["self", "value"]) λ_ _ _ _ _ _ us hl=>by obtain ⟨a,b,rfl⟩:=oR hl; rfl
 refine ⟨PySem.W.fnOf "law" "law" (defArgs eS) (defBody eS) (defScope eS) .none kVlaw dclaw pmlaw anlaw cdlaw ctlaw,λs u => .of_eq rfl,λbase _ _ tbs => ?_⟩
 have G0:Glo P w K mg base 2 rF:=by
  refine Glo.init (gl:=gls) (bs:=bls) (hs:=hsl) (sb:=sbl) (at_:=atl) (cs:=csl) (fl:=fll) (ic:=icl) ?_ ?_ ?_ ?_ ?_ ?_ ?_ ?_
  ·intro p hp
   simp only [gls,cG,fm,or_false] at hp
   rcases hp with rfl | rfl | rfl | rfl | rfl | rfl | rfl | rfl
   ·exact gl_str (br X G g_LETTERS) (by decide +kernel) (by decide +kernel)
   ·exact gl_str (br X G g_DIGITS) (by decide +kernel) (by decide +kernel)
   ·exact gl_int (br X G g_MAX_LENGTH)
   ·exact gl_int (br X G g_MAX_SEGMENTS)
   ·exact gl_int (br X G g_MAX_PARAMETERS)
   ·exact gl_int (br X G g_MAX_CANDIDATES)
   ·exact gl_int (br X G g_MAX_WORTH)
   ·exact gl_int (br X G g_MAX_BEATS)
  ·intro p hp
   simp only [bls,cG,fm,or_false] at hp
   rcases hp with rfl | rfl | rfl | rfl | rfl | rfl | rfl | rfl | rfl | rfl | rfl | rfl | rfl | rfl | rfl | rfl
   ·exact di X G b_all
   ·exact di X G b_bool
   ·exact di X G b_dict
   ·exact di X G b_enumerate
   ·exact di X G b_int
   ·exact di X G b_isinstance
   ·exact di X G b_len
   ·exact di X G b_list
   ·exact di X G b_max
   ·exact di X G b_min
   ·exact di X G b_range
   ·exact di X G b_set
   ·exact di X G b_sorted
   ·exact di X G b_str
   ·exact di X G b_sum
   ·exact di X G b_tuple
  ·intro p hp; cases hp
  ·intro p hp
   simp only [atl,cG,fm,or_false] at hp
   rcases hp with rfl | rfl | rfl
   ·exact ⟨⟨_,br X G a_InvalidAddress,t9 a_InvalidAddress ⟨q1_InvalidAddress,q2_InvalidAddress,sx_InvalidAddress,hd_InvalidAddress,q3_InvalidAddress,og,ot,q4_InvalidAddress,q5_InvalidAddress⟩ n1_InvalidAddress n2_InvalidAddress n3_InvalidAddress n4_InvalidAddress n5_InvalidAddress n6_InvalidAddress⟩,qQ (br X G a_InvalidAddress) (qU lo_InvalidAddress oe_InvalidAddress hd_InvalidAddress tk0_InvalidAddress sa_InvalidAddress sx_InvalidAddress ty_InvalidAddress kc_InvalidAddress) i_InvalidAddress f_InvalidAddress FI_InvalidAddress ⟨rfl,rfl,rfl,by decide +kernel,rfl,by decide +kernel,by decide +kernel⟩ (gN.own (br X G a_ArchiveError) ⟨rd_ArchiveError,ga_ArchiveError⟩ v_ArchiveError (by decide +kernel)) rfl rfl rfl (by decide +kernel) (by decide +kernel) (λ_=>⟨_,rfl⟩) rfl BI_InvalidAddress (qb FI_InvalidAddress λ_ _ _ _ _ _ _ _=>rfl)⟩
   ·exact ⟨⟨_,br X G a_InvalidCandidates,t9 a_InvalidCandidates ⟨q1_InvalidCandidates,q2_InvalidCandidates,sx_InvalidCandidates,hd_InvalidCandidates,q3_InvalidCandidates,og,ot,q4_InvalidCandidates,q5_InvalidCandidates⟩ n1_InvalidCandidates n2_InvalidCandidates n3_InvalidCandidates n4_InvalidCandidates n5_InvalidCandidates n6_InvalidCandidates⟩,qQ (br X G a_InvalidCandidates) (qU lo_InvalidCandidates oe_InvalidCandidates hd_InvalidCandidates tk0_InvalidCandidates sa_InvalidCandidates sx_InvalidCandidates ty_InvalidCandidates kc_InvalidCandidates) i_InvalidCandidates f_InvalidCandidates FI_InvalidCandidates ⟨rfl,rfl,rfl,by decide +kernel,rfl,by decide +kernel,by decide +kernel⟩ (gN.own (br X G a_ArchiveError) ⟨rd_ArchiveError,ga_ArchiveError⟩ v_ArchiveError (by decide +kernel)) rfl rfl rfl (by decide +kernel) (by decide +kernel) (λ_=>⟨_,rfl⟩) rfl BI_InvalidCandidates (qb FI_InvalidCandidates λ_ _ _ _ _ _ _ _=>rfl)⟩
   ·exact ⟨⟨_,br X G a_InvalidNumber,t9 a_InvalidNumber ⟨q1_InvalidNumber,q2_InvalidNumber,sx_InvalidNumber,hd_InvalidNumber,q3_InvalidNumber,og,ot,q4_InvalidNumber,q5_InvalidNumber⟩ n1_InvalidNumber n2_InvalidNumber n3_InvalidNumber n4_InvalidNumber n5_InvalidNumber n6_InvalidNumber⟩,qQ (br X G a_InvalidNumber) (qU lo_InvalidNumber oe_InvalidNumber hd_InvalidNumber tk0_InvalidNumber sa_InvalidNumber sx_InvalidNumber ty_InvalidNumber kc_InvalidNumber) i_InvalidNumber f_InvalidNumber FI_InvalidNumber ⟨rfl,rfl,rfl,by decide +kernel,rfl,by decide +kernel,by decide +kernel⟩ (gN.blt (b:=.val) (di X G m0_InvalidNumber) v_InvalidNumber) rfl rfl rfl (by decide +kernel) (by decide +kernel) (λ_=>⟨_,rfl⟩) rfl BI_InvalidNumber (qb FI_InvalidNumber λ_ _ _ _ _ _ _ _=>rfl)⟩
  ·intro p hp; cases hp
  ·intro p hp; cases hp
  ·intro p hp; cases hp
  ·intro p hp; cases hp
 have G1:Glo P w K mg base 3 mN:=Glo.step G0 (cF F_is_integer LF G0 Oi) (λh=>absurd h (by decide)) (br X G a_is_integer) k_is_integer B_is_integer
 have G2:Glo P w K mg base 4 se:=Glo.step G1 (cF F_is_between OJ G1 DA) (λh=>absurd h (by decide)) (br X G a_is_between) k_is_between B_is_between
 have G3:Glo P w K mg base 5 qr:=Glo.step G2 (cF F_is_name Lk G2 Iy) (λh=>absurd h (by decide)) (br X G a_is_name) k_is_name B_is_name
 have G4:Glo P w K mg base 6 ud:=Glo.step G3 (cF F_is_value GZ G3 LN) (λh=>absurd h (by decide)) (br X G a_is_value) k_is_value B_is_value
 have G5:Glo P w K mg base 7 sZ:=Glo.step G4 (cF F_split_query My G4 HC) (λh=>absurd h (by decide)) (br X G a_split_query) k_split_query B_split_query
 have G6:Glo P w K mg base 8 ug:=Glo.step G5 (cF F_is_query LM G5 L3) (λh=>absurd h (by decide)) (br X G a_is_query) k_is_query B_is_query
 have G7:Glo P w K mg base 9 sf:=Glo.step G6 (cF F_is_address Fh G6 JW) (λh=>absurd h (by decide)) (br X G a_is_address) k_is_address B_is_address
 have G8:Glo P w K mg base 10 tj:=Glo.step G7 (cF F_require_address I6 G7 K6) (λh=>absurd h (by decide)) (br X G a_require_address) k_require_address B_require_address
 have G9:Glo P w K mg base 11 qD:=Glo.step G8 (cF F_host_of IY G8 IB) (λh=>absurd h (by decide)) (br X G a_host_of) k_host_of B_host_of
 have G10:Glo P w K mg base 12 qj:=Glo.step G9 (cF F_segments_of Dw G9 Px) (λh=>absurd h (by decide)) (br X G a_segments_of) k_segments_of B_segments_of
 have G11:Glo P w K mg base 13 kG:=Glo.step G10 (cF F_is_trap K_ G10 O8) (λh=>absurd h (by decide)) (br X G a_is_trap) k_is_trap B_is_trap
 have G12:Glo P w K mg base 14 oL:=Glo.step G11 (cF F_is_candidate Du G11 Jq) (λh=>absurd h (by decide)) (br X G a_is_candidate) k_is_candidate B_is_candidate
 have G13:Glo P w K mg base 15 eT:=Glo.step G12 (cF F_require_candidates EB G12 NR) (λh=>absurd h (by decide)) (br X G a_require_candidates) k_require_candidates B_require_candidates
 have G14:Glo P w K mg base 16 oV:=Glo.step G13 (cF F_require_small Na G13 Lx) (λh=>absurd h (by decide)) (br X G a_require_small) k_require_small B_require_small
 have G15:Glo P w K mg base 17 ju:=Glo.step G14 (cF F_fits Jb G14 Ha) (λh=>absurd h (by decide)) (br X G a_fits) k_fits B_fits
 have G16:Glo P w K mg base 18 oQ:=Glo.step G15 (IQ F_make_plan OR G15 G13 (by decide) hcL (tbs _ _ _ hmL) hmL Ez) (λh=>absurd h (by decide)) (br X G a_make_plan) k_make_plan B_make_plan
 have G17:Glo P w K mg base 19 mK:=Glo.step G16 (cF F_l_numbers Jf G16 MY) (λh=>absurd h (by decide)) (br X G a_l_numbers) k_l_numbers B_l_numbers
 have G18:Glo P w K mg base 20 oP:=Glo.step G17 (cF F_l_candidates HB G17 Gx) (λh=>absurd h (by decide)) (br X G a_l_candidates) k_l_candidates B_l_candidates
 have G19:Glo P w K mg base 21 nK:=Glo.step G18 (cF F_l_worth Hr G18 OK) (λh=>absurd h (by decide)) (br X G a_l_worth) k_l_worth B_l_worth
 have G20:Glo P w K mg base 22 lF:=Glo.step G19 (cF F_l_is_possible Dz G19 Fn) (λh=>absurd h (by decide)) (br X G a_l_is_possible) k_l_is_possible B_l_is_possible
 exact cF F_law Pd G20 LW
end K91

set_option maxRecDepth 100000
namespace Pf.V9
open PySem PySem.W PyProof.Rows
noncomputable abbrev Pl:=List (Nat × Str)
section
variable {host:Str→Str} {dl:Nat} {names:List Str}
noncomputable def dj (host:Str→Str) (dl:Nat) (p:Pl) (b:Nat) (a:Str):Bool:=p.all λe => !(decide (e.2=a)||(decide (host e.2=host a)&&decide ((b:Int)-e.1<dl)))
noncomputable def bh (host:Str→Str) (dl:Nat) (names:List Str):Nat→List Pl
 | 0=>[[]]
 | n+1=>bh host dl names n++(bh host dl names n).flatMap λp=>(names.filter λa=>dj host dl p n a).map λa=>p++[(n,a)]
structure OkP (host:Str→Str) (dl:Nat) (names:List Str) (n:Nat) (p:Pl):Prop where
 all : ∀ e∈p,e.1<n∧e.2∈names
 pw:p.Pairwise λx y=>x.1<y.1∧x.2≠y.2∧(host x.2=host y.2→x.1+dl≤y.1)
theorem zq {p:Pl} {b:Nat} {a:Str} (h : ∀ e∈p,e.1<b):dj host dl p b a=true ↔ ∀ e∈p,e.2≠a∧(host e.2=host a→e.1+dl≤b):=by
 unfold dj
 rw [j5]
 refine forall_congr' λe=>forall_congr' λhe => ?_
 have:=h e he
 by_cases h1:e.2=a <;> by_cases h2:host e.2=host a <;> simp [h1,h2]
 ·omega
theorem cX : ∀ {n:Nat} {p:Pl},p∈bh host dl names n↔OkP host dl names n p
 | 0,p=>by
  unfold bh
  rw [c7]
  refine ⟨λh=>by rw [h]; exact ⟨by simp,List.Pairwise.nil⟩,λh => ?_⟩
  cases p with
  | nil=>rfl
  | cons e r=>have:=(h.all e bu).1; omega
 | n+1,p=>by
  unfold bh
  rw [j6,cX (n:=n),List.mem_flatMap]
  constructor
  ·rintro (h | ⟨q,hq,h⟩)
   ·exact ⟨λe he=>⟨jd (h.all e he).1,(h.all e he).2⟩,h.pw⟩
   ·rw [fA] at h
    obtain ⟨a,ha,rfl⟩:=h
    rw [List.mem_filter] at ha
    have hq:=cX.mp hq
    have ft:=(zq λe he=>(hq.all e he).1).mp ha.2
    refine ⟨λe he => ?_,?_⟩
    ·rcases j6.mp he with he | he
     ·exact ⟨jd (hq.all e he).1,(hq.all e he).2⟩
     ·rw [c7] at he
      subst he
      exact ⟨Nat.lt_succ_self _,ha.1⟩
    ·rw [List.pairwise_append]
     refine ⟨hq.pw,List.pairwise_singleton _ _,λx hx y hy => ?_⟩
     rw [c7] at hy
     subst hy
     exact ⟨(hq.all x hx).1,(ft x hx).1,(ft x hx).2⟩
  ·intro h
   rcases List.eq_nil_or_concat p with rfl | ⟨q,⟨b,a⟩,rfl⟩
   ·exact .inl ⟨by simp,List.Pairwise.nil⟩
   ·have e:=h.pw
    simp only [List.concat_eq_append] at h e ⊢
    rw [List.pairwise_append] at e
    have hb:=h.all (b,a) (by simp)
    have lt : ∀ x∈q,x.1<b:=λx hx=>(e.2.2 x hx (b,a) (by simp)).1
    by_cases hn:b=n
    ·subst hn
     refine .inr ⟨q,cX.mpr ⟨λx hx=>⟨lt x hx,(h.all x (dh _ hx)).2⟩,e.1⟩,?_⟩
     rw [fA]
     refine ⟨a,List.mem_filter.mpr ⟨hb.2,(zq lt).mpr λx hx=>⟨(e.2.2 x hx (b,a) (by simp)).2.1,(e.2.2 x hx (b,a) (by simp)).2.2⟩⟩,rfl⟩
    ·refine .inl ⟨λx hx=>⟨?_,(h.all x hx).2⟩,h.pw⟩
     have hb1:b<n+1:=hb.1
     rcases j6.mp hx with hx | hx
     ·have:=lt x hx
      omega
     ·rw [c7] at hx
      subst hx
      show b<n
      omega
noncomputable def wP (w:Str→Nat) (p:Pl):Nat:=(p.map λe=>w e.2).sum
noncomputable def cZ (e:Nat × Str):PyData:=.tuple [.int (e.1:Nat),.str e.2]
noncomputable def a_ (p:Pl):List PyData:=p.map cZ
noncomputable def kP (w:Str→Nat) (p:Pl):PyData:=.tuple [.int (-(wP w p:Int)),.list (a_ p)]
theorem AK : ∀ {p q:Pl},keyToksAll (a_ p)=keyToksAll (a_ q)→p=q
 | [],[],_=>rfl
 | [],y::q,h=>by
  unfold a_ at h
  simp only [List.map_nil,aI,keyToksAll,List.cons.injEq,Sum.inl.injEq] at h
  exact absurd h.1 (by decide)
 | x::p,[],h=>by
  unfold a_ at h
  simp only [List.map_nil,aI,keyToksAll,List.cons.injEq,Sum.inl.injEq] at h
  exact absurd h.1 (by decide)
 | (b,a)::p,(c,d)::q,h=>by
  have h:Sum.inl 1::(keyToks (cZ (b,a))++keyToksAll (a_ p))=Sum.inl 1::(keyToks (cZ (c,d))++keyToksAll (a_ q)):=h
  simp only [cZ,keyToks,keyToksAll,List.cons_append,mi,eP,List.cons.injEq,Sum.inl.injEq,Sum.inr.injEq,true_and] at h
  obtain ⟨h1,h2,h3⟩:=h
  rw [AK h3,str_of_cps h2,Int.ofNat.inj h1]
theorem KN {w w':Str→Nat} {p q:Pl} (h:keyToks (kP w p)=keyToks (kP w' q)):p=q:=by
 unfold kP at h
 simp only [keyToks,keyToksAll,List.cons_append,mi,eP,List.cons.injEq,Sum.inl.injEq,true_and] at h
 exact AK (List.append_cancel_right h.2)
theorem LV {w:Str→Nat} {p q:Pl} (h:dataLt (kP w q) (kP w p)=false):wP w q≤wP w p:=by
 by_cases hl:wP w q≤wP w p
 ·exact hl
 ·have lt:dataLt (.int (-(wP w q:Int))) (.int (-(wP w p:Int)))=true:=by
   rw [dataLt_int,aw]; omega
  have ne:(Sum.inl (-(wP w q:Int)):Int ⊕ List Nat)≠Sum.inl (-(wP w p:Int)):=λz=>by
   have:=Sum.inl.inj z
   omega
  unfold dataLt kP at h
  simp only [keyToks,keyToksAll,List.cons_append,mi] at h
  rw [lex_self,lex_diff ne] at h
  unfold dataLt at lt
  simp only [keyToks] at lt
  rw [lex_diff ne,h] at lt
  cases lt
theorem rh {ks:List PyData} : ∀ n j,j≤n→dataLt (ks.getD j .none) (ks.getD (cj ks n) .none)=false
 | 0,j,h=>by
  obtain rfl:j=0:=by omega
  exact lex_irrefl _
 | n+1,j,h=>by
  unfold cj
  split
  ·rename_i lt
   by_cases e:j=n+1
   ·subst e; exact lex_irrefl _
   ·have:=rh (ks:=ks) n j (by omega)
    cases q:dataLt (ks.getD j .none) (ks.getD (n+1) .none) with
    | false=>rfl
    | true =>
     have t:=lex_trans _ _ _ q lt
     unfold dataLt at this
     rw [t] at this
     cases this
  ·rename_i lt
   by_cases e:j=n+1
   ·subst e; simpa using lt
   ·exact rh n j (by omega)
noncomputable def cM (w:Str→Nat) (P:List Pl):Pl:=P.getD (cj (P.map (kP w)) (P.length-1)) []
theorem uj {w:Str→Nat} {P:List Pl} (h:P≠[]):P[cj (P.map (kP w)) (P.length-1)]? = some (cM w P):=by
 have l:=vU (P.map (kP w)) (P.length-1)
 have l0:0<P.length:=List.length_pos_iff.mpr h
 have lt:cj (P.map (kP w)) (P.length-1)<P.length:=by omega
 unfold cM
 rw [List.getD_eq_getElem?_getD,List.getElem?_eq_getElem lt]
 rfl
theorem iN {w:Str→Nat} {P:List Pl} (h:P≠[]):cM w P∈P:=eA (uj h)
theorem qG {w:Str→Nat} {P:List Pl} (h:P≠[]) {q:Pl} (hq:q∈P):dataLt (kP w q) (kP w (cM w P))=false:=by
 obtain ⟨j,hj⟩:=List.getElem?_of_mem hq
 have lj:j<P.length:=(List.getElem?_eq_some_iff.mp hj).1
 have:=rh (ks:=P.map (kP w)) (P.length-1) j (by omega)
 have e1:(P.map (kP w)).getD j .none=kP w q:=by rw [List.getD_eq_getElem?_getD,List.getElem?_map,hj]; rfl
 have e2:(P.map (kP w)).getD (cj (P.map (kP w)) (P.length-1)) .none=kP w (cM w P):=by rw [List.getD_eq_getElem?_getD,List.getElem?_map,uj h]; rfl
 rw [e1,e2] at this
 exact this
theorem zi {w:Str→Nat} {P:List Pl} {q:Pl} (hq:q∈P):wP w q≤wP w (cM w P):=LV (qG (List.ne_nil_of_mem hq) hq)
theorem xD {w:Str→Nat} {P Q:List Pl} (h:P≠[]) (m : ∀ p,p∈P↔p∈Q):cM w P=cM w Q:=by
 have hQ:Q≠[]:=List.ne_nil_of_mem ((m _).mp (iN h (w:=w)))
 exact KN (lex_total _ _ (qG hQ ((m _).mp (iN h))) (qG h ((m _).mpr (iN hQ))))
theorem w8 {w w':Str→Nat} {p:Pl} (h : ∀ e∈p,w e.2=w' e.2):wP w p=wP w' p:=by
 unfold wP
 rw [List.map_congr_left h]
theorem DT {w w':Str→Nat} {P:List Pl} (h : ∀ p∈P,∀ e∈p,w e.2=w' e.2):cM w P=cM w' P:=by
 have:P.map (kP w)=P.map (kP w'):=List.map_congr_left λp hp=>by unfold kP; rw [w8 (h p hp)]
 unfold cM
 rw [this]
theorem vI {w w':Str→Nat} : ∀ {p:Pl},(∀ e∈p,w e.2≤w' e.2)→wP w p≤wP w' p
 | [],_=>aC _
 | e::p,h=>by
  unfold wP
  rw [aI,aI,eB,eB]
  exact Nat.add_le_add (h e bu) (vI λx hx=>h x (aE _ hx))
theorem ij {n:Nat}:bh host dl names n≠[]:=List.ne_nil_of_mem (cX.mpr (⟨by simp,List.Pairwise.nil⟩:OkP host dl names n []))
theorem OkP.nd {n:Nat} {p:Pl} (h:OkP host dl names n p):(p.map (·.2)).Nodup:=by
 rw [List.nodup_iff_pairwise_ne,kF]
 exact h.pw.imp λh=>h.2.1
theorem OkP.asc {n:Nat} {p:Pl} (h:OkP host dl names n p):(p.map (·.1)).Pairwise (· < ·):=by
 rw [kF]
 exact h.pw.imp λh=>h.1
theorem yl : ∀ {l:List Nat} {m n:Nat},l.Pairwise (· < ·)→(∀ x∈l,m≤x∧x<n)→l.length≤n-m
 | [],_,_,_,_=>cy _
 | x::l,m,n,h,a=>by
  rw [List.pairwise_cons] at h
  have:=yl (l:=l) (m:=x+1) (n:=n) h.2 λy hy=>⟨h.1 y hy,(a y (aE _ hy)).2⟩
  have:=a x bu
  rw [a8]
  omega
theorem Jl {l:List Nat} {n:Nat} (h:l.Pairwise (· < ·)) (a : ∀ x∈l,x<n):l.length≤n:=yl (m:=0) h λx hx=>⟨cy _,a x hx⟩
theorem OkP.len {n:Nat} {p:Pl} (h:OkP host dl names n p):p.length≤n:=by
 have:=Jl h.asc (n:=n) λx hx=>by
  rw [fA] at hx
  obtain ⟨e,he,rfl⟩:=hx
  exact (h.all e he).1
 rwa [aq] at this
end
end Pf.V9

set_option maxRecDepth 100000
namespace Pf
open PySem L2
theorem yf {acc:List Int} {k j:Int}:j∈adI acc k↔j∈acc∨j=k:=by
 unfold adI
 split
 ·constructor
  ·exact .inl
  ·rintro (h | rfl)
   ·exact h
   ·assumption
 ·simp
theorem vY : ∀ {ks acc:List Int} {j:Int},j∈ks.foldl adI acc↔j∈acc∨j∈ks
 | [],acc,j=>by simp
 | k::ks,acc,j=>by
  rw [List.foldl_cons,vY,yf,cG]
  constructor
  ·rintro ((h | h) | h) <;> simp [h]
  ·rintro (h | h | h) <;> simp [h]
end Pf

set_option maxRecDepth 100000
namespace Pf
open PySem L2
end Pf

set_option maxRecDepth 100000
namespace Pf
open PySem PySem.Spec L2
end Pf

set_option maxRecDepth 100000
namespace Pf
open PySem PySem.Spec L2
section
variable {Γ:Gs} {s:S} {ss a b:Ss} {ρ ρ':Sto} {d:D} {e c:E} {i:Nat} {x:EX} {t:Tg} {it:I} {ds:List D}
theorem d9 (h:exe Γ s ρ = .nx ρ'):ao Γ (.cons s ss) ρ=ao Γ ss ρ':=by
 show (exe Γ s ρ).seq (ao Γ ss)=_
 rw [h]; rfl
theorem tL (h:exe Γ s ρ = .rt d):ao Γ (.cons s ss) ρ = .rt d:=by
 show (exe Γ s ρ).seq (ao Γ ss)=_
 rw [h]; rfl
theorem jQ (h:sem Γ e ρ = .ok d):exe Γ (.asg (.nm i) e) ρ = .nx (ρ.set i (some (.pd d))):=by
 show Out.ofR (sem Γ e ρ) ρ _=_
 rw [h]; rfl
theorem Jh (h:sem Γ c ρ = .ok (.bool true)):exe Γ (.ife c a b) ρ=ao Γ a ρ:=by
 show Out.ofR ((sem Γ c ρ).bind asB) ρ _=_
 rw [h]; rfl
theorem KH (h:sem Γ c ρ = .ok (.bool false)):exe Γ (.ife c a b) ρ=ao Γ b ρ:=by
 show Out.ofR ((sem Γ c ρ).bind asB) ρ _=_
 rw [h]; rfl
theorem qE (h:sem Γ e ρ = .ok d):exe Γ (.ret e) ρ = .rt d:=by
 show Out.ofR (sem Γ e ρ) ρ _=_
 rw [h]; rfl
theorem EK {bd:Ss} (h:semi Γ it ρ = .ok ds):exe Γ (.for t it bd) ρ=forL (λd ρ'=>(bL t d ρ').seq (ao Γ bd)) ds ρ:=by
 show Out.ofR (semi Γ it ρ) ρ _=_
 rw [h]; rfl
end
theorem AI {step:D→Sto→Out} {good:Sto→Prop} : ∀ {ds:List D},(∀ d∈ds,∀ ρ,good ρ → ∃ ρ',good ρ'∧step d ρ = .nx ρ') → ∀ ρ,good ρ → ∃ ρ',good ρ'∧forL step ds ρ = .nx ρ'
 | [],_,ρ,g=>⟨ρ,g,rfl⟩
 | d::ds,h,ρ,g=>by
  obtain ⟨ρ',g',e⟩:=h d (by simp) ρ g
  obtain ⟨ρ2,g2,e2⟩:=AI (λd' hd=>h d' (aE _ hd)) ρ' g'
  refine ⟨ρ2,g2,?_⟩
  unfold forL
  rw [e]
  exact e2
end Pf

set_option maxRecDepth 100000
namespace Pf
open PySem PySem.Spec L2
theorem n_ {i j:Int} (h:small64 i=true∨small64 j=true):bE .mul (.int i) (.int j) = .ok (.int (i*j)):=by
 show (if small64 i=true∨small64 j=true then Rs.ok (PyData.int (i*j)) else Rs.bad)=_
 rw [if_pos h]
theorem gK {i j:Int} (h:0<j):bE .mod (.int i) (.int j) = .ok (.int (i%j)):=by
 show (if 0<j then Rs.ok (PyData.int (i%j)) else Rs.bad)=_
 rw [if_pos h]
theorem rG {i j:Int} (h:0<j) (h2:j<1073741824):bE .fdiv (.int i) (.int j) = .ok (.int (i / j)):=by
 show (if 0<j∧j<1073741824 then Rs.ok (PyData.int (i / j)) else Rs.bad)=_
 rw [if_pos ⟨h,h2⟩]
theorem qp {i j:Int} (h:0≤j) (h2:j≤1000) (h3:small64 i=true):bE .pow (.int i) (.int j) = .ok (.int (i ^ j.toNat)):=by
 show (if 0≤j∧j≤1000∧small64 i=true then Rs.ok (PyData.int (i ^ j.toNat)) else Rs.bad)=_
 rw [if_pos ⟨h,h2,h3⟩]
theorem iq {i:Int} (h : -(2 ^ 64)<i) (h2:i<2 ^ 64):small64 i=true:=oh.mpr ⟨h,h2⟩
section
variable {Γ:Gs} {ρ:Sto} {a b c:E} {x y z:D} {o:Bi}
theorem cq (ha:sem Γ a ρ = .ok x) (hb:sem Γ b ρ = .ok y) (h:bE o x y = .ok z):sem Γ (.bin o a b) ρ = .ok z:=by
 show (sem Γ a ρ).bind (λx=>(sem Γ b ρ).bind λy=>pur (bE o x y))=_
 rw [ha,Rs.ae,hb,Rs.ae,h]; rfl
theorem qM (ha:sem Γ a ρ = .ok x) (hb:sem Γ b ρ = .ok y) (h:ixD x y = .ok z):sem Γ (.ix a b) ρ = .ok z:=by
 show (sem Γ a ρ).bind (λx=>(sem Γ b ρ).bind λy=>pur (ixD x y))=_
 rw [ha,Rs.ae,hb,Rs.ae,h]; rfl
theorem An {q:Cm} {k:Bool} (ha:sem Γ a ρ = .ok x) (hb:sem Γ b ρ = .ok y) (h:aW q x y = .ok k):sem Γ (.cmp q (.ex a) (.ex b)) ρ = .ok (.bool k):=by
 show (sem Γ a ρ).bind (λx=>(sem Γ b ρ).bind λy=>pur (toB (aW q x y)))=_
 rw [ha,Rs.ae,hb,Rs.ae,h]; rfl
theorem E4 {k l:Bool} (ha:sem Γ a ρ = .ok (.bool k)) (hb:k=true→sem Γ b ρ = .ok (.bool l)) (hl:k=false→l=false):sem Γ (.and a b) ρ = .ok (.bool l):=by
 show ((sem Γ a ρ).bind asB).bind (λk=>if k=true then sem Γ b ρ else .ok (.bool false))=_
 rw [ha]
 cases k with
 | true=>exact hb rfl
 | false=>rw [hl rfl]; rfl
theorem tA {xs:List Int} {k:Nat} {s:Int} (h:xs[k]? = some s):ixD (.list (xs.map PyData.int)) (.int k) = .ok (.int s):=by
 have hk:k<xs.length:=(List.getElem?_eq_some_iff.mp h).1
 show opt (atI (xs.map PyData.int) (k:Int)) id=_
 have e:atI (xs.map PyData.int) (k:Int)=some (.int s):=by
  unfold atI
  have e1:ixN (xs.map PyData.int).length (k:Int)=some k:=by
   unfold ixN
   simp [hk]
  rw [e1]
  show (xs.map PyData.int)[k]? = _
  rw [List.getElem?_map,h]
  rfl
 rw [e]
 rfl
end
theorem app_ok {Γ:Gs} {ρ:Sto} {i:Nat} {e:E} {xs:List D} {d:D} (ho:ρ[i]? = some (some (.own xs))) (h:sem Γ e ρ = .ok d) (hl:xs.length<LIM):exe Γ (.app i e) ρ = .nx (ρ.set i (some (.own (xs++[d])))):=by
 show apF i (sem Γ e) ρ=_
 unfold apF
 have e1:ownAt ρ i = .ok xs:=by
  unfold ownAt
  rw [ho]
 rw [e1]
 show Out.ofR (sem Γ e ρ) ρ _=_
 rw [h]
 show (if xs.length<LIM then Out.nx (ρ.set i (some (.own (xs++[d])))) else .bad)=_
 rw [if_pos hl]
theorem sV {step:D→Sto→Out} (Pv:Nat→Sto→Prop) : ∀ {ds:List D} (n:Nat),(∀ i d ρ,ds[i]? = some d→Pv (n+i) ρ → ∃ ρ',Pv (n+i+1) ρ'∧step d ρ = .nx ρ') → ∀ ρ,Pv n ρ → ∃ ρ',Pv (n+ds.length) ρ'∧forL step ds ρ = .nx ρ'
 | [],n,_,ρ,g=>⟨ρ,g,rfl⟩
 | d::ds,n,h,ρ,g=>by
  obtain ⟨ρ',g',e⟩:=h 0 d ρ rfl g
  obtain ⟨ρ2,g2,e2⟩:=sV Pv (ds:=ds) (n+1) (λi d' ρ1 hd p=>by
   have:=h (i+1) d' ρ1 (by simpa using hd) (by rw [show n+(i+1)=n+1+i by omega]; exact p)
   rw [show n+(i+1)+1=n+1+i+1 by omega] at this
   exact this) ρ' g'
  refine ⟨ρ2,by rw [a8,show n+(ds.length+1)=n+1+ds.length by omega]; exact g2,?_⟩
  unfold forL
  rw [e]
  exact e2
noncomputable def lR:Ss:=(.cons (.asg (.nm 7) (.bin .mod (.bin .pow (.bin .add (.bin .add (.bin .mod (.var 3) (.int 2147483629)) (.bin .mul (.int 7919) (.var 1))) (.int 1)) (.int 3)) (.int 2147483647))) (.cons (.asg (.nm 7) (.bin .mod (.bin .mul (.bin .add (.var 7) (.bin .mul (.int 104729) (.bin .add (.var 6) (.int 1)))) (.bin .add (.var 6) (.int 3))) (.int 2147483629))) (.cons (.asg (.nm 7) (.bin .mod (.bin .mul (.bin .mod (.bin .pow (.var 7) (.int 5)) (.int 2147483647)) (.int 48271)) (.int 2147483629))) (.cons (.app 5 (.bin .mod (.bin .fdiv (.var 7) (.int 16)) (.ix (.var 2) (.var 6)))) .nil))))
noncomputable def kS:Ss:=(.cons (.app 5 (.bin .mod (.var 4) (.ix (.var 2) (.var 6)))) (.cons (.asg (.nm 4) (.bin .fdiv (.var 4) (.ix (.var 2) (.var 6)))) .nil))
noncomputable def kN:E:=(.and (.cmp .ge (.ex (.var 3)) (.ex (.bin .pow (.int 10) (.int 18)))) (.cmp .gt (.ex (.var 4)) (.ex (.int 0))))
noncomputable def qd:Ss:=(.cons (.asg (.nm 3) (.bi .max2 (.cons (.var 0) (.cons (.bin .sub (.neg (.int 1)) (.var 0)) .nil)))) (.cons (.asg (.nm 4) (.var 3)) (.cons (.own 5 .nil) (.cons (.for (.nm 6) (.r1 (.len (.ex (.var 2)))) (.cons (.ife kN kS lR) .nil)) (.frz 5 (.cons (.ret (.var 5)) .nil))))))
section
variable {Γ:Gs} {cell salt number left:Int} {ss rs:List Int} {k:Nat} {s:Int} {y:Option SV}
noncomputable def bS (cell salt:Int) (ss:List Int) (number left:Int) (rs:List Int) (k:Nat) (y:Option SV):Sto:=
 [some (.pd (.int cell)),some (.pd (.int salt)),some (.pd (.list (ss.map PyData.int))),some (.pd (.int number)),some (.pd (.int left)),some (.own (rs.map PyData.int)),some (.pd (.int k)),y]
theorem Pa (hs:ss[k]? = some s) (h0:0<s) (h1:s<1073741824) (hl:rs.length<1000):ao Γ kS (bS cell salt ss number left rs k y) = .nx (bS cell salt ss number (left / s) (rs++[left%s]) k y):=by
 have ix : ∀ ρ rest,ρ=(some (SV.pd (.int cell))::some (.pd (.int salt))::some (.pd (.list (ss.map PyData.int)))::rest)→True:=λ_ _ _=>trivial
 unfold kS
 rw [d9 (ρ':=bS cell salt ss number left (rs++[left%s]) k y) ((app_ok (xs:=rs.map PyData.int) (d:=.int (left%s)) rfl (cq (x:=.int left) (y:=.int s) rfl (qM (x:=.list (ss.map PyData.int)) (y:=.int k) rfl rfl (tA hs)) (gK h0)) (by rw [aq]; show _<1000000; omega)).trans (by
   unfold bS
   rw [cW]
   rfl)),
  d9 (ρ':=bS cell salt ss number (left / s) (rs++[left%s]) k y) ((jQ (d:=.int (left / s)) (cq (x:=.int left) (y:=.int s) rfl (qM (x:=.list (ss.map PyData.int)) (y:=.int k) rfl rfl (tA hs)) (rG h0 h1))).trans rfl)]
 rfl
end
end Pf

set_option maxRecDepth 100000
namespace Pf
open PySem PySem.Spec L2
section
variable {Γ:Gs} {cell salt number left:Int} {ss rs:List Int} {k:Nat} {s:Int} {y:Option SV}
theorem jk {a p:Int} (hp:0<p):0≤a%p∧a%p<p:=⟨Int.emod_nonneg _ (by omega),Int.emod_lt_of_pos _ hp⟩
theorem Hu (hs:ss[k]? = some s) (h0:0<s) (hl:rs.length<1000) (hk:k<1000) (salt0:0≤salt) (salt1:salt≤1000000) : ∃ r,0≤r∧r<s ∧ ∃ y',ao Γ lR (bS cell salt ss number left rs k y) = .nx (bS cell salt ss number left (rs++[r]) k y'):=by
 let b1:Int:=number%2147483629+7919*salt+1
 have r1:=jk (a:=number) (p:=2147483629) (by omega)
 let o1:Int:=b1 ^ 3%2147483647
 have r2:=jk (a:=b1 ^ 3) (p:=2147483647) (by omega)
 let o2:Int:=(o1+104729*((k:Int)+1))*((k:Int)+3)%2147483629
 have r3:=jk (a:=(o1+104729*((k:Int)+1))*((k:Int)+3)) (p:=2147483629) (by omega)
 let o3:Int:=o2 ^ 5%2147483647*48271%2147483629
 let r:Int:=o3 / 16%s
 have r5:=jk (a:=o3 / 16) h0
 refine ⟨r,r5.1,r5.2,some (.pd (.int o3)),?_⟩
 let s0:=bS cell salt ss number left rs k y
 unfold lR
 have e1:sem Γ (.bin .mod (.bin .pow (.bin .add (.bin .add (.bin .mod (.var 3) (.int 2147483629)) (.bin .mul (.int 7919) (.var 1))) (.int 1)) (.int 3)) (.int 2147483647)) s0 = .ok (.int o1):=
  cq (x:=.int (b1 ^ 3)) (y:=.int 2147483647) (cq (x:=.int b1) (y:=.int 3) (cq (x:=.int (number%2147483629+7919*salt)) (y:=.int 1) (cq (x:=.int (number%2147483629)) (y:=.int (7919*salt))
   (cq (x:=.int number) (y:=.int 2147483629) rfl rfl (gK (by omega))) (cq (x:=.int 7919) (y:=.int salt) rfl rfl (n_ (.inl (iq (by omega) (by omega))))) rfl) rfl rfl) rfl (qp (by omega) (by omega) (iq (by omega) (by omega)))) rfl (gK (by omega))
 rw [d9 (ρ':=bS cell salt ss number left rs k (some (.pd (.int o1)))) ((jQ e1).trans rfl)]
 have e2:sem Γ (.bin .mod (.bin .mul (.bin .add (.var 7) (.bin .mul (.int 104729) (.bin .add (.var 6) (.int 1)))) (.bin .add (.var 6) (.int 3))) (.int 2147483629)) (bS cell salt ss number left rs k (some (.pd (.int o1)))) = .ok (.int o2):=
  cq (x:=.int ((o1+104729*((k:Int)+1))*((k:Int)+3))) (y:=.int 2147483629) (cq (x:=.int (o1+104729*((k:Int)+1))) (y:=.int ((k:Int)+3)) (cq (x:=.int o1) (y:=.int (104729*((k:Int)+1))) rfl
   (cq (x:=.int 104729) (y:=.int ((k:Int)+1)) rfl (cq (x:=.int k) (y:=.int 1) rfl rfl rfl) (n_ (.inl (iq (by omega) (by omega))))) rfl) (cq (x:=.int k) (y:=.int 3) rfl rfl rfl) (n_ (.inr (iq (by omega) (by omega))))) rfl (gK (by omega))
 rw [d9 (ρ':=bS cell salt ss number left rs k (some (.pd (.int o2)))) ((jQ e2).trans rfl)]
 have r4:=jk (a:=o2 ^ 5) (p:=2147483647) (by omega)
 have e3:sem Γ (.bin .mod (.bin .mul (.bin .mod (.bin .pow (.var 7) (.int 5)) (.int 2147483647)) (.int 48271)) (.int 2147483629)) (bS cell salt ss number left rs k (some (.pd (.int o2)))) = .ok (.int o3):=
  cq (x:=.int (o2 ^ 5%2147483647*48271)) (y:=.int 2147483629) (cq (x:=.int (o2 ^ 5%2147483647)) (y:=.int 48271) (cq (x:=.int (o2 ^ 5)) (y:=.int 2147483647) (cq (x:=.int o2) (y:=.int 5) rfl rfl (qp (by omega) (by omega) (iq (by show _<o2; omega) (by show o2<_; omega)))) rfl (gK (by omega))) rfl
   (n_ (.inr (iq (by omega) (by omega))))) rfl (gK (by omega))
 rw [d9 (ρ':=bS cell salt ss number left rs k (some (.pd (.int o3)))) ((jQ e3).trans rfl)]
 have e4:sem Γ (.bin .mod (.bin .fdiv (.var 7) (.int 16)) (.ix (.var 2) (.var 6))) (bS cell salt ss number left rs k (some (.pd (.int o3)))) = .ok (.int r):=
  cq (x:=.int (o3 / 16)) (y:=.int s) (cq (x:=.int o3) (y:=.int 16) rfl rfl (rG (by omega) (by omega))) (qM (x:=.list (ss.map PyData.int)) (y:=.int k) rfl rfl (tA hs)) (gK h0)
 rw [d9 (ρ':=bS cell salt ss number left (rs++[r]) k (some (.pd (.int o3)))) ((app_ok (xs:=rs.map PyData.int) (d:=.int r) rfl e4 (by rw [aq]; show _<1000000; omega)).trans (by
  unfold bS
  rw [cW]
  rfl))]
 rfl
theorem F5 : ∃ b,sem Γ kN (bS cell salt ss number left rs k y) = .ok (.bool b):=by
 have h1:sem Γ (.cmp .ge (.ex (.var 3)) (.ex (.bin .pow (.int 10) (.int 18)))) (bS cell salt ss number left rs k y) = .ok (.bool (decide ((10:Int) ^ (18:Int).toNat≤number))):=
  An (x:=.int number) (y:=.int ((10:Int) ^ (18:Int).toNat)) rfl (cq (x:=.int 10) (y:=.int 18) rfl rfl (qp (by omega) (by omega) (iq (by omega) (by omega)))) rfl
 have h2:sem Γ (.cmp .gt (.ex (.var 4)) (.ex (.int 0))) (bS cell salt ss number left rs k y) = .ok (.bool (decide ((0:Int)<left))):=An (x:=.int left) (y:=.int 0) rfl rfl rfl
 refine ⟨decide ((10:Int) ^ (18:Int).toNat≤number)&&decide ((0:Int)<left),?_⟩
 unfold kN
 exact E4 h1 (λe=>by rw [h2,e]; rfl) (λe=>by rw [e]; rfl)
end
theorem HW {Γ:Gs} {cell salt:Int} {ss:List Int} (hs : ∀ s∈ss,0<s∧s<1073741824) (hn:ss.length<1000) (salt0:0≤salt) (salt1:salt≤1000000) :
  ∃ rs:List Int,out (ao Γ qd (enter 8 [.int cell,.int salt,.list (ss.map PyData.int)])) = .ok (.list (rs.map PyData.int))∧rs.length=ss.length ∧ ∀ (i:Nat) (r s:Int),rs[i]? = some r→ss[i]? = some s→0≤r∧r<s:=by
 let number:Int:=if -1-cell>cell then -1-cell else cell
 let Pv:Nat→Sto→Prop:=λi ρ => ∃ (left:Int) (rs:List Int) (w y:Option SV),ρ=[some (.pd (.int cell)),some (.pd (.int salt)),some (.pd (.list (ss.map PyData.int))),some (.pd (.int number)),some (.pd (.int left)),some (.own (rs.map PyData.int)),w,y]∧rs.length=i∧i≤ss.length ∧ ∀ (j:Nat) (r s:Int),rs[j]? = some r→ss[j]? = some s→0≤r∧r<s
 let step:D→Sto→Out:=λd ρ'=>(bL (.nm 6) d ρ').seq (ao Γ (.cons (.ife kN kS lR) .nil))
 have turn : ∀ i d ρ,(rng 0 ss.length)[i]? = some d→Pv (0+i) ρ → ∃ ρ',Pv (0+i+1) ρ'∧step d ρ = .nx ρ':=by
  rintro i d ρ hd ⟨left,rs,w,y,rfl,hr,hi,hb⟩
  rw [dG] at hr hi ⊢
  have hlt:i<ss.length:=by
   have:=(List.getElem?_eq_some_iff.mp hd).1
   simpa [rng] using this
  obtain rfl:PyData.int (i:Int)=d:=by
   unfold rng at hd
   rw [List.getElem?_map,List.getElem?_range hlt] at hd
   have:=bQ hd
   rw [← this]
   show PyData.int (i:Int)=PyData.int (0+(i:Int))
   rw [Int.zero_add]
  have hsi:ss[i]? = some ss[i]:=List.getElem?_eq_getElem hlt
  obtain ⟨s0,s1⟩:=hs ss[i] (List.getElem_mem hlt)
  have go:step (.int i) [some (.pd (.int cell)),some (.pd (.int salt)),some (.pd (.list (ss.map PyData.int))),some (.pd (.int number)),some (.pd (.int left)),some (.own (rs.map PyData.int)),w,y]=ao Γ (.cons (.ife kN kS lR) .nil) (bS cell salt ss number left rs i y):=rfl
  have more : ∀ r:Int,0≤r→r<ss[i] → ∀ (j:Nat) (q s:Int),(rs++[r])[j]? = some q→ss[j]? = some s→0≤q∧q<s:=by
   intro r h0 h1 j q s e1 e2
   by_cases hj:j<rs.length
   ·rw [List.getElem?_append_left hj] at e1
    exact hb j q s e1 e2
   ·rw [List.getElem?_append_right (by omega)] at e1
    have:j=rs.length:=by
     have:=(List.getElem?_eq_some_iff.mp e1).1
     simp at this
     omega
    subst this
    simp at e1
    rw [hr,hsi] at e2
    obtain rfl:=bQ e2
    subst e1
    exact ⟨h0,h1⟩
  obtain ⟨b,tb⟩:=F5 (Γ:=Γ) (cell:=cell) (salt:=salt) (number:=number) (left:=left) (ss:=ss) (rs:=rs) (k:=i) (y:=y)
  rw [go]
  cases b with
  | true =>
   have m:=jk (a:=left) s0
   refine ⟨bS cell salt ss number (left / ss[i]) (rs++[left%ss[i]]) i y,⟨left / ss[i],rs++[left%ss[i]],some (.pd (.int i)),y,rfl,by rw [cx]; simp [hr],hlt,more _ m.1 m.2⟩,?_⟩
   rw [d9 (ρ':=bS cell salt ss number (left / ss[i]) (rs++[left%ss[i]]) i y) (by rw [Jh tb]; exact Pa hsi s0 s1 (by omega))]
   rfl
  | false =>
   obtain ⟨r,h0,h1,y',e⟩:=Hu (Γ:=Γ) (cell:=cell) (number:=number) (left:=left) (y:=y) (rs:=rs) hsi s0 (by omega) (by omega) salt0 salt1
   refine ⟨bS cell salt ss number left (rs++[r]) i y',⟨left,rs++[r],some (.pd (.int i)),y',rfl,by rw [cx]; simp [hr],hlt,more r h0 h1⟩,?_⟩
   rw [d9 (ρ':=bS cell salt ss number left (rs++[r]) i y') (by rw [KH tb]; exact e)]
   rfl
 obtain ⟨ρ',⟨left,rs,w,y,rfl,hr,hi,hb⟩,e⟩:=sV Pv 0 turn [some (.pd (.int cell)),some (.pd (.int salt)),some (.pd (.list (ss.map PyData.int))),some (.pd (.int number)),some (.pd (.int number)),some (.own []),none,none] ⟨number,[],none,none,rfl,rfl,cy _,λj r s h=>by simp at h⟩
 have len:(rng 0 ss.length).length=ss.length:=by simp [rng]
 rw [dG,len] at hr
 refine ⟨rs,?_,hr,hb⟩
 let ρ0:Sto:=[some (.pd (.int cell)),some (.pd (.int salt)),some (.pd (.list (ss.map PyData.int))),none,none,none,none,none]
 show out (ao Γ qd ρ0)=_
 unfold qd
 rw [d9 (ρ':=[some (.pd (.int cell)),some (.pd (.int salt)),some (.pd (.list (ss.map PyData.int))),some (.pd (.int number)),none,none,none,none]) ((jQ (d:=.int number) rfl).trans rfl),
  d9 (ρ':=[some (.pd (.int cell)),some (.pd (.int salt)),some (.pd (.list (ss.map PyData.int))),some (.pd (.int number)),some (.pd (.int number)),none,none,none]) ((jQ (d:=.int number) rfl).trans rfl),
  d9 (ρ':=[some (.pd (.int cell)),some (.pd (.int salt)),some (.pd (.list (ss.map PyData.int))),some (.pd (.int number)),some (.pd (.int number)),some (.own []),none,none]) rfl,
  d9 (ρ':=[some (.pd (.int cell)),some (.pd (.int salt)),some (.pd (.list (ss.map PyData.int))),some (.pd (.int number)),some (.pd (.int left)),some (.own (rs.map PyData.int)),w,y]) ((EK (ds:=rng 0 ss.length) (by
   show hJ (.int (ss.map PyData.int).length)=_
   rw [aq]
   show (if gU (ss.length:Int)=true then Rs.ok (rng 0 (ss.length:Int).toNat) else Rs.bad)=_
   rw [if_pos (jA.mpr ⟨by omega,by omega⟩)]
   rfl)).trans e)]
 show out (ao Γ (.cons (.ret (.var 5)) .nil) (frz 5 [some (.pd (.int cell)),some (.pd (.int salt)),some (.pd (.list (ss.map PyData.int))),some (.pd (.int number)),some (.pd (.int left)),some (.own (rs.map PyData.int)),w,y]))=_
 have fz:frz 5 [some (.pd (.int cell)),some (.pd (.int salt)),some (.pd (.list (ss.map PyData.int))),some (.pd (.int number)),some (.pd (.int left)),some (.own (rs.map PyData.int)),w,y] =
   [some (.pd (.int cell)),some (.pd (.int salt)),some (.pd (.list (ss.map PyData.int))),some (.pd (.int number)),some (.pd (.int left)),some (.pd (.list (rs.map PyData.int))),w,y]:=by
  show (if (rs.map PyData.int).length≤LIM then _ else _)=_
  rw [if_pos (by rw [aq]; show _≤1000000; omega)]
  rfl
 rw [fz,tL (qE (d:=.list (rs.map PyData.int)) rfl)]
 rfl
end Pf

set_option maxRecDepth 100000
namespace Pf
open PySem PySem.Spec L2
end Pf

set_option maxRecDepth 100000
namespace Pf
open PySem PySem.Spec L2
section
variable {Γ:Gs} {a b e:E} {la lb lc:L} {es:Es} {ss:Ss} {s:S}
theorem Sz:ao Γ (.cons s ss)=λρ=>(exe Γ s ρ).seq (ao Γ ss):=rfl
theorem Qr:ao Γ .nil=λρ => .nx ρ:=rfl
theorem Qs:exe Γ (.ret e)=λρ => .ofR (sem Γ e ρ) ρ λd => .rt d:=rfl
theorem Rp:sem Γ (.and a b)=λρ=>((sem Γ a ρ).bind asB).bind λk=>if k=true then sem Γ b ρ else .ok (.bool false):=rfl
theorem QD {T:TyN}:sem Γ (.isa la T)=λρ=>(bz Γ la ρ).bind λd => .ok (.bool (eh T (kd d))):=rfl
theorem Rq {o1 o2:Cm}:sem Γ (.ch o1 o2 la lb lc)=λρ=>toB (fH o1 o2 (bz Γ la) (bz Γ lb) (bz Γ lc) ρ):=rfl
theorem QW {f:BI}:sem Γ (.bi f es)=λρ=>(bq Γ es ρ).bind λds=>pur (biD f ds):=rfl
theorem SG {t:Tg} {vs:List Nat} {it:I} {cond:Eo}:sem Γ (.lc t vs it cond e)=λρ=>(lcF t vs (semi Γ it) (aZ Γ cond) (sem Γ e) ρ).bind λds => .ok (.list ds):=rfl
theorem Qz {o:Cm}:sem Γ (.cmp o la lb)=λρ=>(bz Γ la ρ).bind λx=>(bz Γ lb ρ).bind λy=>pur (i3 o x y):=rfl
theorem QG {i:Nat}:sem Γ (.var i)=λρ=>a9 ρ i:=rfl
theorem QC {k:Nat}:sem Γ (.gl k)=λ_=>glG Γ k:=rfl
theorem QJ {o:Bi}:sem Γ (.bin o a b)=λρ=>(sem Γ a ρ).bind λx=>(sem Γ b ρ).bind λy=>pur (bE o x y):=rfl
theorem SD:sem Γ (.len la)=λρ=>(bz Γ la ρ).bind λd=>pur (gO d):=rfl
theorem R4 {i:Int}:sem Γ (.int i)=λ_ => .ok (.int i):=rfl
theorem QN:bz Γ (.ex e)=λρ=>sem Γ e ρ:=rfl
theorem Rc:bq Γ .nil=λ_ => .ok []:=rfl
theorem Q8:bq Γ (.cons e es)=λρ=>(sem Γ e ρ).bind λx=>(bq Γ es ρ).bind λxs => .ok (x::xs):=rfl
end
section
variable {Γ:Gs}
end
end Pf

set_option maxRecDepth 100000
namespace Pf
open PySem PySem.Spec L2
section
variable {Γ:Gs}
end
end Pf

set_option maxRecDepth 100000
namespace Pf
open PySem PySem.Spec L2
section
variable {Γ:Gs}
end
end Pf

set_option maxRecDepth 100000
namespace Pf
open PySem PySem.Spec L2
section
variable {Γ:Gs}
end
end Pf

set_option maxRecDepth 100000
namespace Pf
open PySem PySem.Spec L2
section
variable {Γ:Gs}
end
section
variable {Γ:Gs}
end
end Pf

set_option maxRecDepth 1000000
namespace Pf
open PySem PySem.Spec L2
section
variable {Γ:Gs}
section
variable {rs:List Int} {ρ:Sto}
end
end
end Pf

set_option maxRecDepth 1000000
namespace Pf
open PySem PySem.Spec L2
section
variable {Γ:Gs}
end
end Pf

set_option maxRecDepth 1000000
namespace Pf
open PySem PySem.Spec L2
end Pf

set_option maxRecDepth 1000000
namespace Pf
open PySem PySem.Spec L2
section
variable {Γ:Gs}
end
end Pf

set_option maxRecDepth 1000000
namespace Pf
open PySem PySem.Spec L2
section
variable {Γ:Gs}
end
end Pf

set_option maxRecDepth 1000000
namespace Pf
open PySem PySem.Spec L2
section
variable {Γ:Gs}
end
end Pf

set_option maxRecDepth 1000000
namespace Pf
open PySem PySem.Spec L2
section
variable {Γ:Gs}
theorem Gr {k:Nat} {e:E} {ρ:Sto} {x:D} {b:Bool} (h:sem Γ e ρ = .ok x) (c:aX Γ k [x] = .ok (.bool b)):sem Γ (.call k (.cons e .nil)) ρ = .ok (.bool b):=by
 show ((sem Γ e ρ).bind λx=>(Rs.ok []).bind λxs=>Rs.ok (x::xs)).bind (λds=>aX Γ k ds)=_
 rw [h]
 exact c
end
end Pf

set_option maxRecDepth 1000000
namespace Pf
open PySem PySem.Spec L2
section
variable {Γ:Gs}
theorem zL (xs:List D):pur (toB (aW .eq (.list xs) (.list []))) = .ok (.bool xs.isEmpty):=by
 cases xs with
 | nil=>rfl
 | cons x r =>
  show pur (toB (if plain (.list (x::r))=true∧plain (.list [])=true then .ok (PyData.eqv (.list (x::r)) (.list [])) else .ok false))=_
  split <;> rfl
end
end Pf

set_option maxRecDepth 1000000
namespace Pf
open PySem PySem.Spec L2
section
variable {Γ:Gs}
end
end Pf

set_option maxRecDepth 1000000
namespace Pf
open PySem PySem.Spec L2
section
variable {Γ:Gs}
end
end Pf

set_option maxRecDepth 1000000
namespace Pf
open PySem PySem.Spec L2
section
variable {Γ:Gs}
end
end Pf

set_option maxRecDepth 1000000
namespace Pf
open PySem PySem.Spec L2
end Pf

set_option maxRecDepth 1000000
namespace Pf
open PySem PySem.Spec L2
noncomputable def qh:D→Bool
 | .int _=>true
 | _=>false
noncomputable def eY (d:D) (a b:Int):Bool:=match d with
 | .int i=>decide (a≤i)&&decide (i≤b)
 | _=>false
noncomputable def isNon:D→Bool
 | .none=>true
 | _=>false
section
variable {Γ:Gs}
theorem Mj (d:D):bB Γ 1 T.is_integer [d] = .ok (.bool (qh d)):=by
 cases d <;> rfl
theorem Fz (hi : ∀ d,aX Γ 0 [d] = .ok (.bool (qh d))) (d:D) (a b:Int):bB Γ 3 T.is_between [d,.int a,.int b] = .ok (.bool (eY d a b)):=by
 have c0:sem Γ (.call 0 (.cons (.var 0) .nil)) [some (.pd d),some (.pd (.int a)),some (.pd (.int b))] = .ok (.bool (qh d)):=Gr rfl (hi d)
 have key:sem Γ (.and (.call 0 (.cons (.var 0) .nil)) (.ch .le .le (.ex (.var 1)) (.ex (.var 0)) (.ex (.var 2)))) [some (.pd d),some (.pd (.int a)),some (.pd (.int b))] = .ok (.bool (eY d a b)):=by
  show ((sem Γ (.call 0 (.cons (.var 0) .nil)) _).bind asB).bind _=_
  rw [c0]
  cases d with
  | int i =>
   show (if true=true then sem Γ (.ch .le .le (.ex (.var 1)) (.ex (.var 0)) (.ex (.var 2))) [some (.pd (.int i)),some (.pd (.int a)),some (.pd (.int b))] else .ok (.bool false))=_
   rw [if_pos rfl]
   show toB ((Rs.ok (decide (a≤i))).bind λk=>if k=true then (Rs.ok (decide (i≤b)):Rs Bool) else .ok false)=_
   show toB (if decide (a≤i)=true then (Rs.ok (decide (i≤b)):Rs Bool) else .ok false)=_
   unfold eY
   by_cases h:a≤i
   ·simp [h,toB]
   ·simp [h,toB]
  | _=>rfl
 show out (ao Γ T.is_between _)=_
 exact bF out (tL (qE key))
end
end Pf

set_option maxRecDepth 1000000
set_option maxHeartbeats 2000000
namespace Pf
open PySem PySem.Spec L2
section
variable {Γ:Gs}
theorem ne_plain {x y:D} (hx:plain x=true) (hy:plain y=true):aW .ne x y = .ok (!PyData.eqv x y):=by
 show (eqD x y).bind (λb => .ok (!b))=_
 unfold eqD
 rw [if_pos ⟨hx,hy⟩]
 rfl
end
end Pf

set_option maxRecDepth 100000
namespace Ax
open PySem PySem.Spec L2 Pf
section
variable {m:Mg}
end
section
variable {m:Mg} {v:D}
end
section
variable {m:Mg} {v:D}
end
section
variable {m:Mg} {v:D}
end
section
variable {m:Mg}
end
end Ax

set_option maxRecDepth 100000
namespace Ax
open PySem PySem.Spec L2 Pf
section
variable {m:Mg} {u v:D} {x y:A}
end
section
variable {m:Mg} {u v:D} {x y a:A}
end
end Ax

set_option maxRecDepth 100000
namespace Ax
open PySem PySem.Spec L2 Pf
section
variable {m:Mg}
end
section
variable {m:Mg} {f:A→A→Option Bool}
end
end Ax

set_option maxRecDepth 100000
namespace Ax
open PySem PySem.Spec L2 Pf
section
variable {m:Mg} {u v:D} {x y a:A}
end
section
variable {m:Mg} {u v:D} {x y a:A}
end
end Ax

set_option maxRecDepth 100000
namespace Ax
open PySem PySem.Spec L2 Pf
section
variable {m:Mg} {u v:D} {x y a:A}
end
end Ax

set_option maxRecDepth 100000
namespace Ax
open PySem PySem.Spec L2 Pf
section
variable {α β δ ε:Type} {m:Mg} {R:α→δ→Prop} {S:β→ε→Prop}
end
section
variable {m:Mg} {σ:AE} {ρ:Sto}
end
end Ax

set_option maxRecDepth 100000
namespace Ax
open PySem PySem.Spec L2 Pf
section
variable {base:Gs}
end
end Ax

set_option maxRecDepth 100000
namespace Ax
open PySem PySem.Spec L2 Pf
section
variable {m:Mg} {ρ:Sto} {σ:AE}
end
section
variable {m:Mg}
variable {j:Bool} {step:A→AE→OsS} {stepC:D→Sto→Out} {vs:List Nat}
end
end Ax

set_option maxRecDepth 100000
namespace Ax
open PySem PySem.Spec L2 Pf
end Ax

set_option maxRecDepth 100000
set_option maxHeartbeats 1000000
namespace Ax
open PySem PySem.Spec L2 Pf
section
variable {m:Mg} {c:Cc} {L:List DefE}
end
end Ax

set_option maxRecDepth 100000
set_option maxHeartbeats 2000000
namespace Ax
open PySem PySem.Spec L2 Pf
section
variable {m:Mg} {c:Cc} {L:List DefE}
end
end Ax

set_option maxRecDepth 100000
namespace Ax
open PySem PySem.Spec L2 Pf
end Ax

set_option maxRecDepth 100000
namespace Ax
open PySem PySem.Spec L2 Pf
end Ax

set_option maxRecDepth 100000
namespace Ax
open PySem PySem.Spec L2 Pf PyProof.Rows
section
variable {m:Mg}
end
end Ax

set_option maxRecDepth 1000000
namespace Pf
open PySem PySem.Spec L2
section
variable {Γ:Gs} {ρ:Sto} {d x y:D} {e a b c:E} {la lb lc:L} {es:Es} {s:S} {ss sa sb:Ss} {t:Tg} {it:I} {i j n k:Nat}
@[simp] theorem Im:ao Γ .nil ρ = .nx ρ:=rfl
@[simp] theorem aY:ao Γ (.cons s ss) ρ=(exe Γ s ρ).seq (ao Γ ss):=rfl
@[simp] theorem iY:ao Γ (.frz i ss) ρ=ao Γ ss (frz i ρ):=rfl
@[simp] theorem bg {k:Sto→Out}:(Out.nx ρ).seq k=k ρ:=rfl
@[simp] theorem Sf {k:Sto→Out}:(Out.rt d).seq k = .rt d:=rfl
@[simp] theorem Sx {k:Sto→Out}:(Out.bk ρ).seq k = .bk ρ:=rfl
@[simp] theorem RJ {k:Sto→Out}:(Out.ct ρ).seq k = .ct ρ:=rfl
@[simp] theorem RW {k:Sto→Out} {z:EX}:(Out.ex z ρ).seq k = .ex z ρ:=rfl
@[simp] theorem cD {α:Type} {v:α} {k:α→Out}:Out.ofR (.ok v) ρ k=k v:=rfl
@[simp] theorem SM {α:Type} {z:EX} {k:α→Out}:Out.ofR (.ex z) ρ k = .ex z ρ:=rfl
@[simp] theorem eW:exe Γ (.asg t e) ρ = .ofR (sem Γ e ρ) ρ λd=>bL t d ρ:=rfl
@[simp] theorem N2:exe Γ (.own i es) ρ = .ofR (bq Γ es ρ) ρ λds=>if ds.length≤LIM then .nx (ρ.set i (some (.own ds))) else .bad:=rfl
@[simp] theorem qZ {vs:List Nat} {cond:Eo}:exe Γ (.ownLc i t vs it cond e) ρ = .ofR (lcF t vs (semi Γ it) (aZ Γ cond) (sem Γ e) ρ) ρ λds => .nx (ρ.set i (some (.own ds))):=rfl
@[simp] theorem zh:exe Γ (.ownAdd i a b) ρ = .ofR ((sem Γ a ρ).bind λx=>(sem Γ b ρ).bind λy=>qF x y) ρ λds => .nx (ρ.set i (some (.own ds))):=rfl
@[simp] theorem v_:exe Γ (.app i e) ρ = .ofR (ownAt ρ i) ρ λxs => .ofR (sem Γ e ρ) ρ λd=>if xs.length<LIM then .nx (ρ.set i (some (.own (xs++[d])))) else .bad:=rfl
@[simp] theorem GW {is:List Nat}:exe Γ (.par is es) ρ = .ofR (bq Γ es ρ) ρ λds=>gq is ds ρ:=rfl
@[simp] theorem Q5 {is:List Nat}:exe Γ (.star is j e) ρ = .ofR (sem Γ e ρ) ρ λd=>AD is j d ρ:=rfl
@[simp] theorem tN:exe Γ (.exp e) ρ = .ofR (sem Γ e ρ) ρ λ_ => .nx ρ:=rfl
@[simp] theorem DC:exe Γ (.ret e) ρ = .ofR (sem Γ e ρ) ρ λd => .rt d:=rfl
@[simp] theorem Tb:exe Γ .retN ρ = .rt .none:=rfl
@[simp] theorem RD:exe Γ .pass ρ = .nx ρ:=rfl
@[simp] theorem Rb:exe Γ .brk ρ = .bk ρ:=rfl
@[simp] theorem S7:exe Γ .cont ρ = .ct ρ:=rfl
@[simp] theorem d6:exe Γ (.ife c sa sb) ρ = .ofR ((sem Γ c ρ).bind asB) ρ λk=>if k=true then ao Γ sa ρ else ao Γ sb ρ:=rfl
noncomputable def gM (Γ:Gs) (t:Tg) (ss:Ss) (ds:List D) (ρ:Sto):Out:=forL (λd ρ'=>(bL t d ρ').seq (ao Γ ss)) ds ρ
@[simp] theorem f6:exe Γ (.for t it ss) ρ = .ofR (semi Γ it ρ) ρ λds=>gM Γ t ss ds ρ:=rfl
theorem Ac {ds:List D}:gM Γ t ss (d::ds) ρ=match (bL t d ρ).seq (ao Γ ss) with
 | .nx ρ'=>gM Γ t ss ds ρ'
 | .ct ρ'=>gM Γ t ss ds ρ'
 | .bk ρ' => .nx ρ'
 | o=>o:=by
 show forL _ (d::ds) ρ=_
 unfold forL
 cases (bL t d ρ).seq (ao Γ ss) <;> rfl
theorem qu {good:Sto→Prop} {ds:List D} (h : ∀ d∈ds,∀ ρ,good ρ → ∃ ρ',good ρ'∧(bL t d ρ).seq (ao Γ ss) = .nx ρ') (ρ:Sto) (g:good ρ) : ∃ ρ',good ρ'∧gM Γ t ss ds ρ = .nx ρ':=AI h ρ g
@[simp] theorem SA {x f:Str}:exe Γ (.rai x f e) ρ = .ofR (sem Γ e ρ) ρ λd => .ex ⟨x,f,d⟩ ρ:=rfl
@[simp] theorem Q0 {y:Str}:exe Γ (.try i y sa sb) ρ=A2 (λx=>Γ.sb x y) Γ.at_ i (ao Γ sa) (ao Γ sb) ρ:=rfl
@[simp] theorem SI {hs:Hs}:exe Γ (.tryM sa hs) ρ=Ad Γ.at_ (fE Γ hs) (ao Γ sa) ρ:=rfl
@[simp] theorem Sw:fE Γ .nil=[]:=rfl
@[simp] theorem Ry {y:Str} {r:Hs}:fE Γ (.cons i y sb r)=⟨λx=>Γ.sb x y,i,ao Γ sb⟩::fE Γ r:=rfl
@[simp] theorem QV:sem Γ (.lzip a b) ρ=(sem Γ a ρ).bind λx=>(sem Γ b ρ).bind λy=>A9 x y:=rfl
@[simp] theorem Q7:semi Γ (.zipS a b) ρ=(sem Γ a ρ).bind λx=>(sem Γ b ρ).bind λy=>lS x y:=rfl
@[simp] theorem So:semi Γ (.zipL a b) ρ=(sem Γ a ρ).bind λx=>(sem Γ b ρ).bind λy=>rP x y:=rfl
@[simp] theorem jN:bL (.nm i) d ρ = .nx (ρ.set i (some (.pd d))):=rfl
@[simp] theorem Gq {is:List Nat} {ds:List D} (h:ds.length=is.length):bL (.tp is) (.tuple ds) ρ = .nx (b_ is ds ρ):=by
 show Out.ofR (if ds.length=is.length then Rs.ok (b_ is ds ρ) else .bad) ρ (λρ' => .nx ρ')=_
 rw [if_pos h]; rfl
@[simp] theorem Q1 {ds:List D}:b_ [] ds ρ=ρ:=by cases ds <;> rfl
@[simp] theorem RU {is:List Nat} {ds:List D}:b_ (i::is) (d::ds) ρ=b_ is ds (ρ.set i (some (.pd d))):=rfl
@[simp] theorem SR:a9 (some (.pd d)::ρ) 0 = .ok d:=rfl
@[simp] theorem QR {z:Option SV}:a9 (z::ρ) (n+1)=a9 ρ n:=rfl
@[simp] theorem QL {xs:List D} (h:xs.length≤1000000):eD (some (.own xs)::ρ) 0 = .ok (.list xs):=by
 show (if xs.length≤LIM then Rs.ok (PyData.list xs) else .bad)=_
 rw [if_pos h]
@[simp] theorem Sr {z:Option SV}:eD (z::ρ) (n+1)=eD ρ n:=rfl
@[simp] theorem Te {xs:List D}:ownAt (some (.own xs)::ρ) 0 = .ok xs:=rfl
@[simp] theorem Rf {z:Option SV}:ownAt (z::ρ) (n+1)=ownAt ρ n:=rfl
@[simp] theorem RM {z:EX}:eU (some (.exc z)::ρ) 0 = .ok z:=rfl
@[simp] theorem Sl {z:Option SV}:eU (z::ρ) (n+1)=eU ρ n:=rfl
@[simp] theorem t7 {xs:List D} (h:xs.length≤1000000):frz 0 (some (.own xs)::ρ)=some (.pd (.list xs))::ρ:=by
 unfold frz
 show (if xs.length≤LIM then _ else _)=_
 rw [if_pos h]; rfl
@[simp] theorem SW:frz 0 (some (.pd d)::ρ)=some (.pd d)::ρ:=rfl
@[simp] theorem RT:frz 0 (none::ρ)=none::ρ:=rfl
@[simp] theorem gF {z:Option SV}:frz (i+1) (z::ρ)=z::frz i ρ:=by
 unfold frz
 rw [List.getElem?_cons_succ]
 match ρ[i]? with
 | some (some (.own xs))=>by_cases h:xs.length≤LIM <;> simp [h]
 | some (some (.pd _))=>rfl
 | some (some (.od xs))=>by_cases h:xs.length≤LIM <;> simp [h]
 | some (some (.exc _))=>rfl
 | some (some .pin)=>rfl
 | some (some (.st _))=>rfl
 | some none=>rfl
 | none=>rfl
@[simp] theorem Rk {xs:List (D × D)} (h:xs.length≤1000000):frz 0 (some (.od xs)::ρ)=some (.pd (.dict xs))::ρ:=by
 unfold frz
 show (if xs.length≤LIM then _ else _)=_
 rw [if_pos h]; rfl
@[simp] theorem dw {k:Bool}:asB (.bool k) = .ok k:=rfl
@[simp] theorem zH {k:Int}:asI (.int k) = .ok (some k):=rfl
@[simp] theorem Qq {k:Str}:cR (.str k) = .ok k:=rfl
@[simp] theorem ew:pur (.ok d) = .ok d:=rfl
@[simp] theorem DM {k:Bool}:toB (.ok k) = .ok (.bool k):=rfl
@[simp] theorem Si {o:Cm}:i3 o x y=toB (aW o x y):=rfl
@[simp] theorem aA:sem Γ (.var i) ρ=a9 ρ i:=rfl
@[simp] theorem cJ {k:Int}:sem Γ (.int k) ρ = .ok (.int k):=rfl
@[simp] theorem JQ {k:Str}:sem Γ (.str k) ρ = .ok (.str k):=rfl
@[simp] theorem RX {k:Bool}:sem Γ (.bl k) ρ = .ok (.bool k):=rfl
@[simp] theorem Qv:sem Γ .non ρ = .ok .none:=rfl
@[simp] theorem QA:sem Γ (.gl k) ρ=glG Γ k:=rfl
@[simp] theorem dE {o:Bi}:sem Γ (.bin o a b) ρ=(sem Γ a ρ).bind λx=>(sem Γ b ρ).bind λy=>pur (bE o x y):=rfl
@[simp] theorem SY:sem Γ (.neg a) ρ=(sem Γ a ρ).bind l7:=rfl
@[simp] theorem e6 {o:Cm}:sem Γ (.cmp o la lb) ρ=(bz Γ la ρ).bind λx=>(bz Γ lb ρ).bind λy=>pur (toB (aW o x y)):=rfl
@[simp] theorem Rr {o1 o2:Cm}:sem Γ (.ch o1 o2 la lb lc) ρ=toB (fH o1 o2 (bz Γ la) (bz Γ lb) (bz Γ lc) ρ):=rfl
@[simp] theorem qH:sem Γ (.not a) ρ=((sem Γ a ρ).bind asB).bind λb => .ok (.bool (!b)):=rfl
@[simp] theorem lY:sem Γ (.and a b) ρ=((sem Γ a ρ).bind asB).bind λk=>if k=true then sem Γ b ρ else .ok (.bool false):=rfl
@[simp] theorem gB:sem Γ (.or a b) ρ=((sem Γ a ρ).bind asB).bind λk=>if k=true then .ok (.bool true) else sem Γ b ρ:=rfl
@[simp] theorem SN:sem Γ (.ife c a b) ρ=((sem Γ c ρ).bind asB).bind λk=>if k=true then sem Γ a ρ else sem Γ b ρ:=rfl
@[simp] theorem n8:sem Γ (.tup es) ρ=(bq Γ es ρ).bind λxs=>cI xs .tuple:=rfl
@[simp] theorem l8:sem Γ (.lst es) ρ=(bq Γ es ρ).bind λxs=>cI xs .list:=rfl
@[simp] theorem EF {k:List D→D}:cI [] k = .ok (k []):=rfl
@[simp] theorem AM {k:List D→D}:cI [x] k = .ok (k [x]):=rfl
@[simp] theorem Sv {k:List D→D}:cI [x,y] k = .ok (k [x,y]):=rfl
@[simp] theorem Q_ {k:List D→D} {z:D}:cI [x,y,z] k = .ok (k [x,y,z]):=rfl
@[simp] theorem Qy {k:List D→D} {z u:D}:cI [x,y,z,u] k = .ok (k [x,y,z,u]):=rfl
@[simp] theorem RI {k:List D→D} {z u v:D}:cI [x,y,z,u,v] k = .ok (k [x,y,z,u,v]):=rfl
@[simp] theorem RH {k:List D→D} {z u v w:D}:cI [x,y,z,u,v,w] k = .ok (k [x,y,z,u,v,w]):=rfl
@[simp] theorem eH:sem Γ (.ix a b) ρ=(sem Γ a ρ).bind λx=>(sem Γ b ρ).bind λy=>pur (ixD x y):=rfl
@[simp] theorem Sd:sem Γ (.oix i b) ρ=(eD ρ i).bind λx=>(sem Γ b ρ).bind λy=>pur (ixD x y):=rfl
@[simp] theorem rE {lo hi:Eo}:sem Γ (.sl a lo hi) ρ=(sem Γ a ρ).bind λx=>(iB Γ lo ρ).bind λl=>(iB Γ hi ρ).bind λu=>pur (slD x l u):=rfl
@[simp] theorem zy:sem Γ (.rev a) ρ=(sem Γ a ρ).bind mH:=rfl
@[simp] theorem gT {f:BI}:sem Γ (.bi f es) ρ=(bq Γ es ρ).bind λds=>pur (biD f ds):=rfl
@[simp] theorem M9 {f:TyI}:sem Γ (.ti f es) ρ=(bq Γ es ρ).bind λds=>pur (tiD f ds):=rfl
@[simp] theorem QU:sem Γ (.len la) ρ=(bz Γ la ρ).bind λd=>pur (gO d):=rfl
@[simp] theorem R9 {m:MI}:sem Γ (.mt m a es) ρ=(sem Γ a ρ).bind λx=>(cR x).bind λz=>(bq Γ es ρ).bind λds=>pur (miD m (.str z) ds):=rfl
@[simp] theorem s_call:sem Γ (.call k es) ρ=(bq Γ es ρ).bind λds=>aX Γ k ds:=rfl
@[simp] theorem Sa {T:TyN}:sem Γ (.isa la T) ρ=(bz Γ la ρ).bind λd => .ok (.bool (eh T (kd d))):=rfl
@[simp] theorem Ru {T U:TyN}:sem Γ (.isa2 la T U) ρ=(bz Γ la ρ).bind λd => .ok (.bool (eh T (kd d)||eh U (kd d))):=rfl
@[simp] theorem iM {vs:List Nat} {cond:Eo}:sem Γ (.lc t vs it cond e) ρ=(lcF t vs (semi Γ it) (aZ Γ cond) (sem Γ e) ρ).bind λds => .ok (.list ds):=rfl
@[simp] theorem SH {f:Str}:sem Γ (.xat i f) ρ=(eU ρ i).bind λe=>if Γ.at_ e.cls=some f∧e.attr=f then .ok e.val else .bad:=rfl
@[simp] theorem Qt {y:Str}:sem Γ (.xis i y) ρ=(eU ρ i).bind λe=>opt (Γ.sb e.cls y) PyData.bool:=rfl
@[simp] theorem QY:sem Γ .dic0 ρ = .ok (.dict []):=rfl
@[simp] theorem RS {m:MZ}:sem Γ (.mz m a) ρ=(sem Γ a ρ).bind λx=>(cR x).bind (mzD m):=rfl
@[simp] theorem LK:bz Γ (.ov i) ρ=eD ρ i:=rfl
@[simp] theorem cQ:bz Γ (.ex e) ρ=sem Γ e ρ:=rfl
@[simp] theorem b8:bq Γ .nil ρ = .ok []:=rfl
@[simp] theorem aU:bq Γ (.cons e es) ρ=(sem Γ e ρ).bind λx=>(bq Γ es ρ).bind λxs => .ok (x::xs):=rfl
@[simp] theorem rK:iB Γ .none ρ = .ok none:=rfl
@[simp] theorem ri:iB Γ (.some e) ρ=(sem Γ e ρ).bind asI:=rfl
@[simp] theorem S4:aZ Γ .none ρ = .ok true:=rfl
@[simp] theorem vo:aZ Γ (.some e) ρ=(sem Γ e ρ).bind asB:=rfl
@[simp] theorem oC:semi Γ (.val e) ρ=(sem Γ e ρ).bind fN:=rfl
@[simp] theorem BF:semi Γ (.r1 a) ρ=(sem Γ a ρ).bind hJ:=rfl
@[simp] theorem RQ {c:E}:semi Γ (.r3 a b c) ρ=(sem Γ a ρ).bind λx=>(sem Γ b ρ).bind λy=>(sem Γ c ρ).bind λz=>t_ x y z:=rfl
@[simp] theorem S0:semi Γ (.r2 a b) ρ=(sem Γ a ρ).bind λx=>(sem Γ b ρ).bind λy=>lE x y:=rfl
@[simp] theorem wW:semi Γ (.enum a) ρ=(sem Γ a ρ).bind lT:=rfl
@[simp] theorem QT {xs:List D}:fN (.list xs) = .ok xs:=rfl
@[simp] theorem QQ {xs:List D}:fN (.tuple xs) = .ok xs:=rfl
@[simp] theorem yI {i j:Int}:bE .add (.int i) (.int j) = .ok (.int (i+j)):=rfl
@[simp] theorem Lr {i j:Int}:bE .sub (.int i) (.int j) = .ok (.int (i-j)):=rfl
@[simp] theorem g_ {i j:Int} (h:0<j):bE .mod (.int i) (.int j) = .ok (.int (i%j)):=gK h
@[simp] theorem SU {i j:Int} (h:0<j) (h2:j<1073741824):bE .fdiv (.int i) (.int j) = .ok (.int (i / j)):=rG h h2
@[simp] theorem nI {xs ys:List D} (h:xs.length+ys.length≤1000000):bE .add (.list xs) (.list ys) = .ok (.list (xs++ys)):=by
 show (if xs.length+ys.length≤LIM then _ else _)=_
 rw [if_pos h]
@[simp] theorem Rx {xs ys:List D} (h:xs.length+ys.length≤1000000):bE .add (.tuple xs) (.tuple ys) = .ok (.tuple (xs++ys)):=by
 show (if xs.length+ys.length≤LIM then _ else _)=_
 rw [if_pos h]
@[simp] theorem n_l {xs:List D}:gO (.list xs) = .ok (.int xs.length):=rfl
@[simp] theorem n_t {xs:List D}:gO (.tuple xs) = .ok (.int xs.length):=rfl
@[simp] theorem SJ {i:Int}:l7 (.int i) = .ok (.int (-i)):=rfl
@[simp] theorem SF {xs:List D}:tiD .list [.list xs] = .ok (.list xs):=rfl
@[simp] theorem Q9 {xs:List D}:tiD .list [.tuple xs] = .ok (.list xs):=rfl
@[simp] theorem SO {xs:List D}:tiD .tuple [.list xs] = .ok (.tuple xs):=rfl
@[simp] theorem Sj {xs:List D}:tiD .tuple [.tuple xs] = .ok (.tuple xs):=rfl
@[simp] theorem N6 {k:Bool}:tiD .int [.bool k] = .ok (.int (if k then 1 else 0)):=by cases k <;> rfl
@[simp] theorem Rv {x:D}:aW .is x .none = .ok (isNon x):=by cases x <;> rfl
@[simp] theorem Qu {x:D}:aW .isn x .none = .ok (!isNon x):=by cases x <;> rfl
@[simp] theorem Rh {i j:Int}:aW .le (.int i) (.int j) = .ok (decide (i≤j)):=rfl
@[simp] theorem K2 {i j:Int}:aW .lt (.int i) (.int j) = .ok (decide (i<j)):=rfl
@[simp] theorem QS {i j:Int}:aW .ge (.int i) (.int j) = .ok (decide (j≤i)):=rfl
@[simp] theorem BY {i j:Int}:aW .gt (.int i) (.int j) = .ok (decide (j<i)):=rfl
theorem eq_plain (hx:plain x=true) (hy:plain y=true):aW .eq x y = .ok (PyData.eqv x y):=by
 show eqD x y=_
 unfold eqD
 rw [if_pos ⟨hx,hy⟩]
@[simp] theorem OL {i j:Int}:aW .eq (.int i) (.int j) = .ok (decide (i=j)):=by
 rw [eq_plain (by rfl) (by rfl)]
 simp only [PyData.eqv]
 congr 1
@[simp] theorem Ba {i j:Int}:aW .ne (.int i) (.int j) = .ok (!decide (i=j)):=by
 rw [ne_plain (by rfl) (by rfl)]
 simp only [PyData.eqv]
 congr 1
@[simp] theorem nA {i j:Str}:aW .eq (.str i) (.str j) = .ok (i==j):=by
 rw [eq_plain (by rfl) (by rfl)]
 simp only [PyData.eqv]
@[simp] theorem Sb {i j:Str}:aW .ne (.str i) (.str j) = .ok (!(i==j)):=by
 rw [ne_plain (by rfl) (by rfl)]
 simp only [PyData.eqv]
end
theorem xU {α:Type} {xs:List α} {i:Int} (h:0≤i):atI xs i=xs[i.toNat]?:=by
 unfold atI ixN
 rw [if_pos h]
 by_cases h2:i.toNat<xs.length
 ·rw [if_pos (by omega)]
  rfl
 ·rw [if_neg (by omega),List.getElem?_eq_none (by omega)]
  rfl
@[simp] theorem jF {xs:List D} {i:Int} (h:0≤i):ixD (.list xs) (.int i)=opt (xs[i.toNat]?) id:=by
 show opt (atI xs i) id=_
 rw [xU h]
@[simp] theorem QM {xs:List D} {i:Int} (h:0≤i):ixD (.tuple xs) (.int i)=opt (xs[i.toNat]?) id:=by
 show opt (atI xs i) id=_
 rw [xU h]
@[simp] theorem EN {α β:Type} {a:α} {f:α→β}:opt (some a) f = .ok (f a):=rfl
theorem wA {α:Type} (xs:List α) {k:Int} (h:0≤k):cut xs none (some k)=xs.take k.toNat:=by
 unfold cut HT.sIx
 have e : ¬ (k<0):=by omega
 simp only [e,if_false]
 simp
theorem BX {α:Type} (xs:List α) {k:Int} (h:0≤k):cut xs (some k) none=xs.drop k.toNat:=by
 unfold cut HT.sIx
 have e : ¬ (k<0):=by omega
 simp only [e,if_false]
 by_cases h2:k.toNat≤xs.length
 ·rw [Nat.min_eq_left h2,List.take_of_length_le (by rw [i6]; exact aC _)]
 ·rw [Nat.min_eq_right (by omega),List.drop_of_length_le (aC _),List.drop_of_length_le (by omega),List.take_nil]
@[simp] theorem o4 {xs:List D} {k:Int} (h:0≤k):slD (.list xs) none (some k) = .ok (.list (xs.take k.toNat)):=by
 show Rs.ok (PyData.list (cut xs none (some k)))=_
 rw [wA xs h]
@[simp] theorem Sh {xs:List D} {k:Int} (h:0≤k):slD (.list xs) (some k) none = .ok (.list (xs.drop k.toNat)):=by
 show Rs.ok (PyData.list (cut xs (some k) none))=_
 rw [BX xs h]
@[simp] theorem Sk {xs:List D} {k:Int} (h:0≤k):slD (.tuple xs) none (some k) = .ok (.tuple (xs.take k.toNat)):=by
 show Rs.ok (PyData.tuple (cut xs none (some k)))=_
 rw [wA xs h]
@[simp] theorem QX {xs:List D} {k:Int} (h:0≤k):slD (.tuple xs) (some k) none = .ok (.tuple (xs.drop k.toNat)):=by
 show Rs.ok (PyData.tuple (cut xs (some k) none))=_
 rw [BX xs h]
mutual
theorem eqv_refl : ∀ d:D,PyData.hasDict d=false→PyData.eqv d d=true
 | .none,_=>by simp [PyData.eqv]
 | .bool b,_=>by simp [PyData.eqv]
 | .int i,_=>by simp [PyData.eqv]
 | .str x,_=>by simp [PyData.eqv]
 | .list xs,h=>by simp only [PyData.eqv]; exact uq xs (by simpa only [PyData.hasDict] using h)
 | .tuple xs,h=>by simp only [PyData.eqv]; exact uq xs (by simpa only [PyData.hasDict] using h)
 | .dict xs,h=>by simp [PyData.hasDict] at h
theorem uq : ∀ xs:List D,PyData.hasDictAll xs=false→PyData.eqvAll xs xs=true
 | [],_=>by simp [PyData.eqvAll]
 | x::xs,h=>by
  simp only [PyData.hasDictAll,Bool.or_eq_false_iff] at h
  simp only [PyData.eqvAll,ai]
  exact ⟨eqv_refl x h.1,uq xs h.2⟩
end
theorem ne_self {x:D} (h:plain x=true):aW .ne x x = .ok false:=by
 rw [ne_plain h h,eqv_refl x (by unfold plain at h; rw [ai,Bool.not_eq_true'] at h; exact h.1)]
 rfl
end Pf

set_option maxRecDepth 1000000
namespace Pf
open PySem PySem.Spec L2
theorem xN : ∀ ns:List Int,PyData.hasDictAll (ns.map PyData.int)=false
 | []=>rfl
 | n::ns=>by
  show (PyData.hasDict (.int n)||PyData.hasDictAll (ns.map PyData.int))=false
  rw [xN ns]; rfl
theorem vt : ∀ ns:List Int,PyData.depthAll (ns.map PyData.int)≤2
 | []=>by decide
 | n::ns=>by
  have ih:=vt ns
  have e:PyData.depthAll ((n::ns).map PyData.int)=max (PyData.depth (.int n)) (PyData.depthAll (ns.map PyData.int)):=by
   simp only [aI,PyData.depthAll]
  have e0:PyData.depth (.int n)≤2:=by simp only [PyData.depth]; omega
  rw [e]
  omega
theorem MB (ns:List Int):Pf.plain (.list (ns.map PyData.int))=true:=by
 unfold Pf.plain
 have h1:PyData.hasDict (.list (ns.map PyData.int))=false:=by simp only [PyData.hasDict]; exact xN ns
 have h2:=vt ns
 have h3:PyData.depth (.list (ns.map PyData.int))≤64:=by simp only [PyData.depth]; omega
 rw [h1,cb h3]
 rfl
theorem Dl {L:List D} : ∀ {k:Nat} {d:D},d∈cN k L → ∃ (i:Nat) (e:D),d = .tuple [.int i,e]∧e∈L∧i<k+L.length:=by
 induction L with
 | nil=>intro k d h; cases h
 | cons a L ih =>
  intro k d h
  rcases cG.mp (show d∈PyData.tuple [.int k,a]::cN (k+1) L from h) with rfl | h
  ·exact ⟨k,a,rfl,by simp,by simp⟩
  ·obtain ⟨i,e,h1,h2,h3⟩:=ih h
   exact ⟨i,e,h1,aE _ h2,by rw [a8]; omega⟩
theorem rep1 {x:D} {n:Nat} (h:n≤1000000):bE .mul (.list [x]) (.int n) = .ok (.list (List.replicate n x)):=by
 show (if -1000000≤(n:Int)∧(n:Int)≤1000000∧([x]:List D).length*(n:Int).toNat≤LIM then Rs.ok (PyData.list (List.replicate (n:Int).toNat [x]).flatten) else .bad)=_
 rw [if_pos ⟨by omega,by omega,by
  show 1*(n:Int).toNat≤1000000
  omega⟩,Int.toNat_natCast]
 congr 2
 clear h
 induction n with
 | zero=>rfl
 | succ n ih=>rw [j4,j4,List.flatten_cons,ih]; rfl
section
variable {Γ:Gs}
noncomputable def tT (b:Int):E:=.bin .add (.sl (.var 0) .none (.some (.int b))) (.bin .mul (.lst (.cons (.int 7) .nil)) (.ti .int (.cons (.cmp .eq (.ex (.var 0)) (.ex (.lst .nil))) .nil)))
theorem Oe {ns:List Int} {ρ:Sto} {b:Nat} (hb:b≤1000) (h0:a9 ρ 0 = .ok (.list (ns.map PyData.int))) : ∃ L:List Int,L.length≤b+1∧sem Γ (tT b) ρ = .ok (.list (L.map PyData.int)):=by
 have e:=zL (ns.map PyData.int)
 have e2:aW .eq (.list (ns.map PyData.int)) (.list []) = .ok ns.isEmpty:=by
  rw [eq_plain (MB ns) (by rfl)]
  cases ns with
  | nil=>rfl
  | cons n ns=>simp [PyData.eqv,PyData.eqvAll]
 unfold tT
 have sl:slD (.list (ns.map PyData.int)) none (some (b:Int)) = .ok (.list ((ns.take b).map PyData.int)):=by
  rw [o4 (by omega),Int.toNat_natCast,kD]
 have m0:bE .mul (.list [.int 7]) (.int 0) = .ok (.list []):=rep1 (n:=0) (by omega)
 have m1:bE .mul (.list [.int 7]) (.int 1) = .ok (.list [.int 7]):=rep1 (n:=1) (by omega)
 cases ns with
 | nil =>
  refine ⟨[7],by simp,?_⟩
  simp at e2 sl
  simp [h0,e2,m1,sl]
 | cons n ns =>
  refine ⟨(n::ns).take b,by rw [ez]; omega,?_⟩
  have ad:bE .add (.list (((n::ns).take b).map PyData.int)) (.list []) = .ok (.list (((n::ns).take b).map PyData.int++[])):=nI (by rw [aq,ez]; simp; omega)
  simp only [List.isEmpty_cons] at e2
  simp only [dE,rE,aA,h0,Rs.ae,rK,ri,cJ,zH,sl,ew,l8,aU,b8,AM,M9,e6,cQ,EF,e2,DM,N6,m0,ad,cV,if_false,fQ]
end
end Pf
namespace Ax
open PySem PySem.Spec L2 Pf
noncomputable def Dg (n:Nat) (ds:List D):Prop:=ds.length=n ∧ ∀ d∈ds,∃ i:Int,d = .int i∧0≤i∧i<420
theorem Dg.get {n:Nat} {ds:List D} (h:Dg n ds) {k:Nat} (hk:k<n) : ∃ i:Int,ds[k]? = some (.int i)∧0≤i∧i<420:=by
 have hk':k<ds.length:=by rw [h.1]; exact hk
 obtain ⟨i,e,h1,h2⟩:=h.2 ds[k] (List.getElem_mem hk')
 exact ⟨i,by rw [List.getElem?_eq_getElem hk',e],h1,h2⟩
theorem GX {n:Nat} {rs:List Int} (hl:rs.length=n) (h : ∀ (i:Nat) (r s:Int),rs[i]? = some r→(List.replicate n (420:Int))[i]? = some s→0≤r∧r<s):Dg n (rs.map PyData.int):=by
 refine ⟨by rw [aq]; exact hl,λd hd => ?_⟩
 obtain ⟨r,hr,rfl⟩:=fA.mp hd
 obtain ⟨i,hi,e⟩:=List.mem_iff_getElem.mp hr
 have:=h i r 420 (by rw [List.getElem?_eq_getElem hi,e]) (by rw [List.getElem?_replicate,if_pos (by omega)])
 exact ⟨r,rfl,this.1,this.2⟩
end Ax

set_option maxRecDepth 1000000
set_option maxHeartbeats 2000000
namespace Pf
open PySem PySem.Spec L2
@[simp] theorem QK {i:Nat} {d:D} {ρ:Sto}:bx (.nm i) d ρ = .ok (ρ.set i (some (.pd d))):=rfl
@[simp] theorem Rl {is:List Nat} {ds:List D} {ρ:Sto} (h:ds.length=is.length):bx (.tp is) (.tuple ds) ρ = .ok (b_ is ds ρ):=by
 show (if ds.length=is.length then Rs.ok (b_ is ds ρ) else .bad)=_
 rw [if_pos h]
@[simp] theorem RP {ρ:Sto}:aJ ρ []=ρ:=rfl
@[simp] theorem RY {ρ:Sto} {v:Nat} {vs:List Nat}:aJ ρ (v::vs)=(aJ ρ vs).set v none:=rfl
theorem gr {Γ:Gs}:aZ Γ .none=λ_ => .ok true:=rfl
end Pf

set_option maxRecDepth 100000
namespace Pf
open PySem L2
end Pf

set_option maxRecDepth 1000000
set_option maxHeartbeats 2000000
namespace Pf
open PySem PySem.Spec L2
section
variable {Γ:Gs}
end
end Pf

set_option maxRecDepth 1000000
namespace Pf
open PySem PySem.Spec L2
section
variable {Γ:Gs}
end
end Pf

set_option maxRecDepth 1000000
set_option maxHeartbeats 2000000
namespace Pf
open PySem PySem.Spec L2
section
variable {Γ:Gs}
end
end Pf

set_option maxRecDepth 100000
namespace Pf
open PySem L2
end Pf

set_option maxRecDepth 100000
namespace T
open PySem Pf
end T

set_option maxRecDepth 1000000
set_option maxHeartbeats 2000000
namespace Pf
open PySem PySem.Spec L2
section
variable {Γ:Gs} {ρ:Sto} {a b e:E} {i k:Nat} {es:Es}
@[simp] theorem S5:exe Γ (.sop .augA i (.cons e .nil)) ρ = .ofR ((a9 ρ i).bind eK) ρ λa => .ofR (sem Γ e ρ) ρ λy => .ofR (eK y) ρ λb => .nx (ρ.set i (some (.pd (.int (a+b))))):=rfl
@[simp] theorem Tc:exe Γ (.sop .augS i (.cons e .nil)) ρ = .ofR ((a9 ρ i).bind eK) ρ λa => .ofR (sem Γ e ρ) ρ λy => .ofR (eK y) ρ λb => .nx (ρ.set i (some (.pd (.int (a-b))))):=rfl
@[simp] theorem Q6:exe Γ (.sop .ext i (.cons e .nil)) ρ = .ofR (ownAt ρ i) ρ λxs => .ofR (sem Γ e ρ) ρ λd => .ofR (eE d) ρ λys=>if xs.length+ys.length≤LIM then .nx (ρ.set i (some (.own (xs++ys)))) else .bad:=rfl
@[simp] theorem QI:exe Γ (.sop .ins0 i (.cons e .nil)) ρ = .ofR (ownAt ρ i) ρ λxs => .ofR (sem Γ e ρ) ρ λd=>if xs.length<LIM then .nx (ρ.set i (some (.own (d::xs)))) else .bad:=rfl
@[simp] theorem QZ:exe Γ (.sop .setL i (.cons a (.cons b .nil))) ρ = .ofR (sem Γ b ρ) ρ λd => .ofR (ownAt ρ i) ρ λxs => .ofR ((sem Γ a ρ).bind eK) ρ λk=>match ixN xs.length k with
 | some j => .nx (ρ.set i (some (.own (xs.set j d))))
 | none => .bad:=rfl
@[simp] theorem Ol {t:Tg} {vs:List Nat} {it:I} {cond:Eo}:exe Γ (.setDc i t vs it cond a b) ρ = .ofR (dcF t vs (semi Γ it) (aZ Γ cond) (sem Γ a) (sem Γ b) ρ) ρ λks => .nx (ρ.set i (some (.pd (.dict ks)))):=rfl
@[simp] theorem Rn {t:Tg} {vs:List Nat} {it:I} {cond:Eo}:exe Γ (.setDn i t vs it cond a b) ρ = .ofR (dnF t vs (semi Γ it) (aZ Γ cond) (sem Γ a) (sem Γ b) ρ) ρ λks => .nx (ρ.set i (some (.st (.on ks)))):=rfl
@[simp] theorem Ra:sem Γ (.op .lrg1 (.cons a .nil)) ρ=(mX ((sem Γ a ρ).bind hJ)).bind λds => .ok (.list ds):=rfl
@[simp] theorem Ri:sem Γ (.op .lrg2 (.cons a (.cons b .nil))) ρ=(mX ((sem Γ a ρ).bind λx=>(sem Γ b ρ).bind λy=>lE x y)).bind λds => .ok (.list ds):=rfl
@[simp] theorem Sn:sem Γ (.op .back2 (.cons a .nil)) ρ=((sem Γ a ρ).bind yS).bind λds => .ok (.list ds):=rfl
@[simp] theorem RB:sem Γ (.op .dix (.cons a (.cons b .nil))) ρ=ig (sem Γ a ρ) (sem Γ b ρ):=rfl
@[simp] theorem S1:sem Γ (.op .minD (.cons a (.cons b .nil))) ρ=xf (sem Γ a ρ) (sem Γ b ρ):=rfl
@[simp] theorem RE:sem Γ (.op .minA (.cons a .nil)) ρ=(sem Γ a ρ).bind xh:=rfl
@[simp] theorem Sq:sem Γ (.op .lidx (.cons a (.cons b .nil))) ρ=BA (sem Γ a ρ) (sem Γ b ρ):=rfl
@[simp] theorem S9:sem Γ (.op .sortKeys (.cons a .nil)) ρ=((sem Γ a ρ).bind xY).bind λds => .ok (.list ds):=rfl
@[simp] theorem KQ:sem Γ (.op .srtSet (.cons a .nil)) ρ=((sem Γ a ρ).bind gv).bind λds => .ok (.list ds):=rfl
@[simp] theorem R_:sem Γ (.q (.srtK k a)) ρ=((sem Γ a ρ).bind (Am (aX Γ k))).bind λds => .ok (.list ds):=rfl
@[simp] theorem SE {t:Tg} {vs:List Nat} {it:I} {cond:Eo}:sem Γ (.q (.srt1 t vs it cond e)) ρ=((siF t vs (semi Γ it) (aZ Γ cond) (sem Γ e) ρ).bind λacc => .ok (fK acc)).bind λds => .ok (.list ds):=rfl
@[simp] theorem QB {t t2:Tg} {vs us:List Nat} {it it2:I} {cond cond2:Eo}:sem Γ (.q (.srt2 t vs it cond t2 us it2 cond2 e)) ρ=((xE t vs (semi Γ it) (aZ Γ cond) (semi Γ it2) us t2 (aZ Γ cond2) (sem Γ e) ρ).bind λacc => .ok (fK acc)).bind λds => .ok (.list ds):=rfl
@[simp] theorem Q4 {k:Int}:eK (.int k) = .ok k:=rfl
@[simp] theorem RA {xs:List D}:eE (.list xs) = .ok xs:=rfl
end
noncomputable def n9 (ns:List Int):D:=.list (ns.map PyData.int)
end Pf

set_option maxRecDepth 1000000
set_option maxHeartbeats 2000000
namespace Pf
open PySem PySem.Spec L2
section
variable {Γ:Gs}
theorem oS {t:Tg} {ss:Ss} (Pv:Nat→Sto→Prop) {ds:List D} (n:Nat) (h : ∀ i d ρ,ds[i]? = some d→Pv (n+i) ρ → ∃ ρ',Pv (n+i+1) ρ'∧(bL t d ρ).seq (ao Γ ss) = .nx ρ') (ρ:Sto) (g:Pv n ρ) : ∃ ρ',Pv (n+ds.length) ρ'∧gM Γ t ss ds ρ = .nx ρ':=sV Pv n h ρ g
end
end Pf

set_option maxRecDepth 1000000
set_option maxHeartbeats 2000000
namespace Pf
open PySem PySem.Spec L2
section
variable {Γ:Gs}
end
end Pf

set_option maxRecDepth 1000000
set_option maxHeartbeats 4000000
namespace Pf
open PySem PySem.Spec L2
section
variable {Γ:Gs}
end
end Pf

set_option maxRecDepth 1000000
set_option maxHeartbeats 2000000
namespace Pf
open PySem PySem.Spec L2
end Pf

set_option maxRecDepth 1000000
set_option maxHeartbeats 4000000
namespace Pf
open PySem PySem.Spec L2
section
variable {Γ:Gs}
end
section
variable {Γ:Gs}
theorem Bk (xs:List D):aW .eq (.list xs) (.list []) = .ok xs.isEmpty:=by
 have:=zL xs
 cases q:aW .eq (.list xs) (.list []) with
 | ok b=>rw [q] at this; simp at this; rw [this]
 | ex e=>rw [q] at this; cases this
 | bad=>rw [q] at this; cases this
end
end Pf

set_option maxRecDepth 1000000
set_option maxHeartbeats 2000000
namespace Pf
open PySem PySem.Spec L2
@[simp] theorem RV {xs:List D}:aW .eq (.list xs) (.list []) = .ok xs.isEmpty:=Bk xs
@[simp] theorem RN {xs:List D}:aW .ne (.list xs) (.list []) = .ok (!xs.isEmpty):=by
 have:=Bk xs
 show (eqD (.list xs) (.list [])).bind _=_
 rw [show eqD (.list xs) (.list []) = .ok xs.isEmpty from this]
 rfl
@[simp] theorem QO {ys:List D} {z:D}:ixD (.list (ys++[z])) (.int (-1)) = .ok z:=by
 show opt (atI (ys++[z]) (-1)) id=_
 rw [atI_last]
 rfl
@[simp] theorem RO {ys:List D} {z:D}:ixN (ys++[z]).length (-1)=some ys.length:=by
 unfold ixN
 have l:(ys++[z]).length=ys.length+1:=by simp
 rw [if_neg (by omega),l,if_pos (by omega),show ((-1:Int)+((ys.length+1:Nat):Int)).toNat=ys.length by omega]
@[simp] theorem RC {i j:Int}:biD .max2 [.int i,.int j] = .ok (.int (if j>i then j else i)):=rfl
end Pf

set_option maxRecDepth 1000000
set_option maxHeartbeats 2000000
namespace Pf
open PySem PySem.Spec L2
theorem ye {α:Type} {t:Tg} {cond:Sto→Rs Bool} {elt:Sto→Rs D} {ρ0:Sto} {ι:α→D} {p:α→Bool} {f:α→D} : ∀ {l:List α},(∀ a∈l,∃ ρ1,bx t (ι a) ρ0 = .ok ρ1∧cond ρ1 = .ok (p a)∧(p a=true→elt ρ1 = .ok (f a)))→gR t cond elt ρ0 (l.map ι) = .ok ((l.filter p).map f)
 | [],_=>rfl
 | a::l,h=>by
  obtain ⟨ρ1,h1,h2,h3⟩:=h a (by simp)
  have ih:=ye (l:=l) λb hb=>h b (aE _ hb)
  rw [aI]
  unfold gR
  rw [h1,Rs.ae,h2,show bo (Rs.ok (p a))=Rs.ok (p a) from rfl,Rs.ae,ih]
  cases q:p a with
  | true =>
   rw [if_pos rfl,h3 q,show bo (Rs.ok (f a))=Rs.ok (f a) from rfl,Rs.ae,Rs.ae,mE,q]
   rfl
  | false =>
   rw [if_neg aa,mE,q]
   rfl
theorem qm {α:Type} {t:Tg} {vs:List Nat} {items:Sto→Rs (List D)} {cond:Sto→Rs Bool} {elt:Sto→Rs D} {ρ:Sto} {ι:α→D} {p:α→Bool} {f:α→D} {l:List α} (hi:items ρ = .ok (l.map ι)) (hl:l.length≤1000000)
  (h : ∀ a∈l,∃ ρ1,bx t (ι a) (aJ ρ vs) = .ok ρ1∧cond ρ1 = .ok (p a)∧(p a=true→elt ρ1 = .ok (f a))):lcF t vs items cond elt ρ = .ok ((l.filter p).map f):=by
 unfold lcF
 rw [hi,Rs.ae,if_pos (by rw [aq]; exact hl),ye h]
 rfl
theorem gi {α:Type} {t:Tg} {vs:List Nat} {items:Sto→Rs (List D)} {elt:Sto→Rs D} {ρ:Sto} {ι:α→D} {f:α→D} {l:List α} (hi:items ρ = .ok (l.map ι)) (hl:l.length≤1000000)
  (h : ∀ a∈l,∃ ρ1,bx t (ι a) (aJ ρ vs) = .ok ρ1∧elt ρ1 = .ok (f a)):lcF t vs items (λ_ => .ok true) elt ρ = .ok (l.map f):=by
 rw [qm (p:=λ_=>true) (f:=f) hi hl λa ha=>by
  obtain ⟨ρ1,h1,h2⟩:=h a ha
  exact ⟨ρ1,h1,rfl,λ_=>h2⟩,List.filter_eq_self.mpr λ_ _=>rfl]
end Pf

set_option maxRecDepth 1000000
set_option maxHeartbeats 2000000
namespace Pf
open PySem PySem.Spec L2
theorem Iu {l:List Int} {n:Nat} (nd:l.Nodup) (h : ∀ k∈l,0≤k∧k≤n):l.length≤n+1:=by
 have nd2:(l.map Int.toNat).Nodup:=by
  induction l with
  | nil=>simp
  | cons x l ih =>
   obtain ⟨n1,n2⟩:=List.nodup_cons.mp nd
   rw [aI,List.nodup_cons]
   refine ⟨λq => ?_,ih n2 λk hk=>h k (aE _ hk)⟩
   obtain ⟨y,hy,e⟩:=fA.mp q
   have h1:=h x (by simp)
   have h2:=h y (aE _ hy)
   have:y=x:=by omega
   exact n1 (this ▸ hy)
 have:=List.Nodup.length_le_of_subset nd2 (l₂:=List.range (n+1)) λx hx=>by
  obtain ⟨y,hy,rfl⟩:=fA.mp hx
  have:=h y hy
  rw [List.mem_range]
  omega
 rw [aq,List.length_range] at this
 exact this
end Pf

set_option maxRecDepth 1000000
set_option maxHeartbeats 2000000
namespace Pf
open PySem PySem.Spec L2
end Pf

set_option maxRecDepth 1000000
set_option maxHeartbeats 4000000
namespace Pf
open PySem PySem.Spec L2
section
variable {Γ:Gs}
end
end Pf

set_option maxRecDepth 1000000
set_option maxHeartbeats 2000000
namespace Pf
open PySem PySem.Spec L2
section
variable {Γ:Gs}
end
end Pf

set_option maxRecDepth 1000000
set_option maxHeartbeats 2000000
namespace Pf
open PySem PySem.Spec L2
section
variable {Γ:Gs}
end
end Pf

set_option maxRecDepth 1000000
set_option maxHeartbeats 2000000
namespace Pf
open PySem PySem.Spec L2
end Pf

set_option maxRecDepth 1000000
set_option maxHeartbeats 4000000
namespace Pf
open PySem PySem.Spec L2
section
variable {Γ:Gs}
end
end Pf

set_option maxRecDepth 1000000
set_option maxHeartbeats 4000000
namespace Pf
open PySem PySem.Spec L2
section
variable {Γ:Gs}
end
end Pf

set_option maxRecDepth 1000000
set_option maxHeartbeats 4000000
namespace Pf
open PySem PySem.Spec L2
section
variable {Γ:Gs}
end
end Pf

set_option maxRecDepth 1000000
set_option maxHeartbeats 2000000
namespace Pf
open PySem PySem.Spec L2
end Pf

set_option maxRecDepth 1000000
set_option maxHeartbeats 2000000
namespace Pf
open PySem PySem.Spec L2
end Pf

set_option maxRecDepth 1000000
set_option maxHeartbeats 2000000
namespace Pf
open PySem PySem.Spec L2
section
variable {Γ:Gs} {x0 x1 x2 x5 x6 x7 x8 x9 x10 x11 x12 x13 x14:Option SV} {fr:Nat→D} {f0 f1:D}
end
end Pf

set_option maxRecDepth 1000000
set_option maxHeartbeats 2000000
namespace Pf
open PySem PySem.Spec L2
section
variable {Γ:Gs}
end
section
variable {Γ:Gs} {W:List D} {x1:Option SV}
theorem HR (ns:List Int):intsOf (ns.map PyData.int)=some ns:=by
 induction ns with
 | nil=>rfl
 | cons n ns ih=>rw [aI]; unfold intsOf; rw [ih]; rfl
theorem Iz {n:Int} {ns:List Int}:biD .min1 [.list ((n::ns).map PyData.int)] = .ok (.int ((n::ns).foldl min n)):=by
 show ((opt (intsOf ((n::ns).map PyData.int)) id).bind λns=>if 0<ns.length then Rs.ok (PyData.int (ns.foldl min (ns.headD 0))) else .bad)=_
 rw [HR,EN,Rs.ae]
 rfl
end
end Pf

set_option maxRecDepth 1000000
set_option maxHeartbeats 2000000
namespace Pf
open PySem PySem.Spec L2
section
variable {Γ:Gs} {cs:List Cq}
end
end Pf

set_option maxRecDepth 1000000
set_option maxHeartbeats 2000000
namespace Pf
open PySem PySem.Spec L2
section
end
end Pf

set_option maxRecDepth 1000000
set_option maxHeartbeats 2000000
namespace Pf
open PySem PySem.Spec L2
end Pf

set_option maxRecDepth 1000000
set_option maxHeartbeats 2000000
namespace Pf
open PySem PySem.Spec L2
section
open Classical
end
section
variable {Γ:Gs}
end
end Pf

set_option maxRecDepth 1000000
set_option maxHeartbeats 2000000
namespace Pf
open PySem PySem.Spec L2
section
open Classical
end
end Pf

set_option maxRecDepth 1000000
set_option maxHeartbeats 2000000
namespace Pf
open PySem PySem.Spec L2
section
open Classical
end
section
open Classical
end
section
open Classical
end
end Pf

set_option maxRecDepth 100000
namespace T
open PySem Pf
end T

set_option maxRecDepth 1000000
set_option maxHeartbeats 2000000
namespace Pf
open PySem PySem.Spec L2
section
variable {Γ:Gs} {ρ:Sto} {i:Nat} {e:E}
@[simp] theorem Rg {t t2:Tg} {vs us:List Nat} {it it2:I} {cond cond2:Eo}:exe Γ (.ownLc2 i t vs it cond t2 us it2 cond2 e) ρ = .ofR (iD t vs (semi Γ it) (aZ Γ cond) (semi Γ it2) us t2 (aZ Γ cond2) (sem Γ e) ρ) ρ λds => .nx (ρ.set i (some (.own ds))):=rfl
end
end Pf

set_option maxRecDepth 1000000
set_option maxHeartbeats 2000000
namespace Pf
open PySem PySem.Spec L2
end Pf

set_option maxRecDepth 1000000
set_option maxHeartbeats 4000000
namespace Pf
open PySem PySem.Spec L2
end Pf

set_option maxRecDepth 1000000
set_option maxHeartbeats 2000000
namespace Pf
open PySem PySem.Spec L2
section
variable {Γ:Gs}
end
end Pf

set_option maxRecDepth 1000000
set_option maxHeartbeats 2000000
namespace Pf
open PySem PySem.Spec L2
section
variable {Γ:Gs}
variable {d x m n v:D} {z:EX}
end
end Pf

set_option maxRecDepth 100000
namespace T
open PySem Pf
end T

set_option maxRecDepth 1000000
set_option maxHeartbeats 2000000
namespace Pf
open PySem PySem.Spec L2
end Pf

namespace Pf
open PySem PySem.Spec L2
end Pf

set_option maxRecDepth 1000000
set_option maxHeartbeats 2000000
namespace Pf
open PySem PySem.Spec L2
section
variable {Γ:Gs} {t:Tg} {ss:Ss}
end
theorem La {l:List Int} {lo:Int} {n:Nat} (nd:l.Nodup) (h : ∀ k∈l,lo≤k∧k≤lo+n):l.length≤n+1:=by
 have:=Iu (l:=l.map λk=>k-lo) (n:=n) (List.Pairwise.map _ (λa b (ab:a≠b)=>show a-lo≠b-lo by omega) nd) λk hk=>by
  obtain ⟨j,hj,rfl⟩:=fA.mp hk
  have:=h j hj
  omega
 rw [aq] at this
 exact this
end Pf

set_option maxRecDepth 1000000
set_option maxHeartbeats 2000000
namespace Pf
open PySem PySem.Spec L2
end Pf

set_option maxRecDepth 1000000
set_option maxHeartbeats 2000000
namespace Pf
open PySem PySem.Spec L2
end Pf

set_option maxRecDepth 1000000
set_option maxHeartbeats 2000000
namespace Pf
open PySem PySem.Spec L2
section
variable {Γ:Gs}
end
end Pf

set_option maxRecDepth 1000000
set_option maxHeartbeats 2000000
namespace Pf
open PySem PySem.Spec L2
end Pf

set_option maxRecDepth 1000000
set_option maxHeartbeats 2000000
namespace Pf
open PySem PySem.Spec L2
end Pf

set_option maxRecDepth 1000000
set_option maxHeartbeats 2000000
namespace Pf
open PySem PySem.Spec L2
end Pf

set_option maxRecDepth 1000000
set_option maxHeartbeats 2000000
namespace Pf
open PySem PySem.Spec L2
end Pf

set_option maxRecDepth 1000000
set_option maxHeartbeats 2000000
namespace Pf
open PySem PySem.Spec L2
end Pf

set_option maxRecDepth 1000000
set_option maxHeartbeats 2000000
namespace Pf
open PySem PySem.Spec L2
end Pf

set_option maxRecDepth 1000000
set_option maxHeartbeats 2000000
namespace Pf
open PySem PySem.Spec L2
end Pf

set_option maxRecDepth 1000000
set_option maxHeartbeats 2000000
namespace Pf
open PySem PySem.Spec L2
noncomputable def slP:Option SV→Rs D
 | some (.pd d) => .ok d
 | _ => .bad
noncomputable def slO:Option SV→Rs D
 | some (.own xs)=>if xs.length≤LIM then .ok (.list xs) else .bad
 | _ => .bad
noncomputable def slA:Option SV→Rs (List D)
 | some (.own xs) => .ok xs
 | _ => .bad
section
variable {ρ:Sto} {i j:Nat} {z:Option SV} {d:D} {xs:List D}
theorem Bn:a9 ρ i=slP (ρ[i]?.getD none):=by
 unfold a9 slP
 match ρ[i]? with
 | none=>rfl
 | some none=>rfl
 | some (some (.pd _))=>rfl
 | some (some (.own _))=>rfl
 | some (some (.od _))=>rfl
 | some (some (.exc _))=>rfl
 | some (some .pin)=>rfl
 | some (some (.st _))=>rfl
theorem vQ:ownAt ρ i=slA (ρ[i]?.getD none):=by
 unfold ownAt slA
 match ρ[i]? with
 | none=>rfl
 | some none=>rfl
 | some (some (.pd _))=>rfl
 | some (some (.own _))=>rfl
 | some (some (.od _))=>rfl
 | some (some (.exc _))=>rfl
 | some (some .pin)=>rfl
 | some (some (.st _))=>rfl
theorem xX:(ρ.set i z)[j]?.getD none=if i=j then (if i<ρ.length then z else none) else ρ[j]?.getD none:=by
 rw [List.getElem?_set]
 by_cases q:i=j
 ·rw [if_pos q,if_pos q]
  subst q
  by_cases l:i<ρ.length
  ·rw [if_pos l,if_pos l]; rfl
  ·rw [if_neg l,if_neg l]; rfl
 ·rw [if_neg q,if_neg q]
theorem gsP:a9 (ρ.set i z) j=if i=j then (if i<ρ.length then slP z else .bad) else a9 ρ j:=by
 rw [Bn,xX,Bn]
 split
 ·split <;> rfl
 ·rfl
theorem gsA:ownAt (ρ.set i z) j=if i=j then (if i<ρ.length then slA z else .bad) else ownAt ρ j:=by
 rw [vQ,xX,vQ]
 split
 ·split <;> rfl
 ·rfl
theorem MR:slA (some (.own xs)) = .ok xs:=rfl
theorem eC:aJ ρ []=ρ:=rfl
theorem cL {v:Nat} {vs:List Nat}:aJ ρ (v::vs)=(aJ ρ vs).set v none:=rfl
theorem lM (hi:i<ρ.length) (h:xs.length≤1000000):frz i (ρ.set i (some (.own xs)))=ρ.set i (some (.pd (.list xs))):=by
 unfold frz
 rw [List.getElem?_set,if_pos rfl,if_pos hi]
 show (if xs.length≤LIM then (ρ.set i (some (.own xs))).set i (some (.pd (.list xs))) else _)=_
 rw [if_pos h,List.set_set]
theorem El {i j:Nat} {d e:D}:bL (.tp [i,j]) (.tuple [d,e]) ρ = .nx ((ρ.set i (some (.pd d))).set j (some (.pd e))):=Gq rfl
theorem lI {i j:Nat} {d e:D}:bx (.tp [i,j]) (.tuple [d,e]) ρ = .ok ((ρ.set i (some (.pd d))).set j (some (.pd e))):=rfl
end
noncomputable def Kp (n:Nat) (is:List (Nat × D)) (ρ:Sto):Prop:=ρ.length=n ∧ ∀ p∈is,a9 ρ p.1 = .ok p.2
theorem Kp.set {n:Nat} {is:List (Nat × D)} {ρ:Sto} (h:Kp n is ρ) {i:Nat} {z:Option SV} (ni:(is.all λp => !(i==p.1))=true):Kp n is (ρ.set i z):=by
 refine ⟨by rw [b7]; exact h.1,λp hp => ?_⟩
 have:=j5.mp ni p hp
 rw [gsP,if_neg (by simpa using this)]
 exact h.2 p hp
theorem Kp.cons {n:Nat} {is:List (Nat × D)} {ρ:Sto} {i:Nat} {d:D} (h:Kp n is ρ) (e:a9 ρ i = .ok d):Kp n ((i,d)::is) ρ:=⟨h.1,λp hp=>by
 rcases cG.mp hp with rfl | hp
 ·exact e
 ·exact h.2 p hp⟩
theorem Kp.put {n:Nat} {is:List (Nat × D)} {ρ:Sto} (h:Kp n is ρ) {i:Nat} {d:D} (ni:(is.all λp => !(i==p.1))=true) (hi:i<n):Kp n ((i,d)::is) (ρ.set i (some (.pd d))):=
 (h.set ni).cons (by rw [gsP,if_pos rfl,if_pos (by rw [h.1]; exact hi)]; rfl)
theorem Kp.get {n:Nat} {is:List (Nat × D)} {ρ:Sto} (h:Kp n is ρ) {i:Nat} {d:D} (m:(i,d)∈is):a9 ρ i = .ok d:=h.2 _ m
theorem Kp.less {n:Nat} {is js:List (Nat × D)} {ρ:Sto} (h:Kp n is ρ) (m : ∀ p∈js,p∈is):Kp n js ρ:=⟨h.1,λp hp=>h.2 p (m p hp)⟩
end Pf

set_option maxRecDepth 1000000
set_option maxHeartbeats 2000000
namespace Pf
open PySem PySem.Spec L2
section
variable {Γ:Gs} {xs:List D} {ad:D→Str} {mo:D→Int} {tx:D→Str}
end
end Pf

set_option maxRecDepth 1000000
set_option maxHeartbeats 2000000
namespace Pf
open PySem PySem.Spec L2
end Pf

set_option maxRecDepth 1000000
set_option maxHeartbeats 2000000
namespace Pf
open PySem PySem.Spec L2
section
variable {Γ:Gs}
end
end Pf

set_option maxRecDepth 1000000
set_option maxHeartbeats 4000000
namespace Pf
open PySem PySem.Spec L2
section
variable {Γ:Gs}
end
end Pf

set_option maxRecDepth 1000000
set_option maxHeartbeats 2000000
namespace Pf
open PySem PySem.Spec L2
end Pf

set_option maxRecDepth 1000000
set_option maxHeartbeats 2000000
namespace Pf
open PySem PySem.Spec L2
section
variable {Γ:Gs}
end
end Pf
namespace Pf
open PySem PySem.Spec L2
end Pf

set_option maxRecDepth 1000000
set_option maxHeartbeats 2000000
namespace Pf
open PySem PySem.Spec L2
section
variable {cs:List Cq} {M:List D} {f g:D} {m:Nat}
end
end Pf

set_option maxRecDepth 1000000
set_option maxHeartbeats 2000000
namespace Pf
open PySem PySem.Spec L2
section
variable {cs cs':List Cq} {φ:D→D}
end
end Pf

set_option maxRecDepth 1000000
set_option maxHeartbeats 2000000
namespace Pf
open PySem PySem.Spec L2
section
variable {Γ:Gs} {ys:List D} {gs:List (Str × List D)} {ad:D→Str}
end
end Pf

set_option maxRecDepth 1000000
set_option maxHeartbeats 4000000
namespace Pf
open PySem PySem.Spec L2
section
variable {Γ:Gs}
end
end Pf

set_option maxRecDepth 1000000
set_option maxHeartbeats 4000000
namespace Pf
open PySem PySem.Spec L2
section
variable {Γ:Gs}
end
end Pf

set_option maxRecDepth 1000000
set_option maxHeartbeats 4000000
namespace Pf
open PySem PySem.Spec L2
section
variable {Γ:Gs}
variable {ρ:Sto} {i j:Nat} {a:E} {la:L} {y:Str} {sa r0 r1:Ss}
@[simp] theorem S_:sem Γ .any ρ = .bad:=rfl
@[simp] theorem Qp {b:Bool}:sem Γ (.xnon b i) ρ=(eU ρ i).bind λ_ => .ok (.bool b):=rfl
@[simp] theorem Sy {x:Str}:sem Γ (.isC la x y) ρ=if (Γ.sb x y).isSome=true then (bz Γ la ρ).bind fL else .bad:=rfl
@[simp] theorem Tf:fL .none = .ok (.bool false):=rfl
@[simp] theorem Se {b:Bool}:fL (.bool b) = .ok (.bool false):=rfl
@[simp] theorem Rj {i:Int}:fL (.int i) = .ok (.bool false):=rfl
@[simp] theorem S6 {x:Str}:fL (.str x) = .ok (.bool false):=rfl
@[simp] theorem SQ {xs:List D}:fL (.list xs) = .ok (.bool false):=rfl
@[simp] theorem Qw {xs:List D}:fL (.tuple xs) = .ok (.bool false):=rfl
@[simp] theorem sl_tup {ls:Ls}:bz Γ (.tup ls) ρ=(iP Γ ls ρ).bind λxs=>cI xs .tuple:=rfl
@[simp] theorem Rz:iP Γ .nil ρ = .ok []:=rfl
@[simp] theorem RR {l:L} {ls:Ls}:iP Γ (.cons l ls) ρ=(bz Γ l ρ).bind λx=>(iP Γ ls ρ).bind λxs => .ok (x::xs):=rfl
@[simp] theorem RF:exe Γ (.ownF i a) ρ = .ofR ((sem Γ a ρ).bind asL) ρ λds => .nx (ρ.set i (some (.own ds))):=rfl
@[simp] theorem Qx {b:E}:exe Γ (.parF i j a b) ρ = .ofR ((sem Γ a ρ).bind asL) ρ λxs => .ofR ((sem Γ b ρ).bind asL) ρ λys => .nx ((ρ.set i (some (.own xs))).set j (some (.own ys))):=rfl
@[simp] theorem Th:exe Γ (.clr i) ρ = .ofR (ownAt ρ i) ρ λ_ => .nx (ρ.set i (some (.own []))):=rfl
@[simp] theorem Rw:ao Γ (.tryX i j y sa r0 r1) ρ=vj (λx=>Γ.sb x y) Γ.at_ i j (ao Γ sa) (ao Γ r0) (ao Γ r1) ρ:=rfl
end
end Pf

set_option maxRecDepth 1000000
set_option maxHeartbeats 4000000
namespace Pf
open PySem PySem.Spec L2
end Pf

set_option maxRecDepth 1000000
set_option maxHeartbeats 4000000
namespace Pf
open PySem PySem.Spec L2
section
variable {Γ:Gs}
end
end Pf

set_option maxRecDepth 1000000
set_option maxHeartbeats 4000000
namespace Pf
open PySem PySem.Spec L2
section
variable {ns:List (List Nat)} {ps:List (List Nat × List Nat)}
end
end Pf

set_option maxRecDepth 1000000
set_option maxHeartbeats 4000000
namespace Pf
open PySem PySem.Spec L2
section
variable {Γ:Gs}
variable {ns:List (List Nat)} {ps:List (List Nat × List Nat)}
end
end Pf

set_option maxRecDepth 1000000
set_option maxHeartbeats 4000000
namespace Pf
open PySem PySem.Spec L2
end Pf

set_option maxRecDepth 1000000
set_option maxHeartbeats 2000000
namespace Pf
open PySem PySem.Spec L2
end Pf

set_option maxRecDepth 1000000
set_option maxHeartbeats 4000000
namespace Pf
open PySem PySem.Spec L2
end Pf

set_option maxRecDepth 1000000
set_option maxHeartbeats 2000000
namespace Pf
open PySem PySem.Spec L2
section
variable {Γ:Gs}
end
end Pf

set_option maxRecDepth 1000000
set_option maxHeartbeats 2000000
namespace Pf
open PySem PySem.Spec L2
section
variable {cs:List Cq}
end
end Pf

set_option maxRecDepth 1000000
set_option maxHeartbeats 2000000
namespace Pf
open PySem PySem.Spec L2
section
variable {xs:List D} {a b:D}
end
end Pf

set_option maxRecDepth 100000
namespace T
open PySem Pf
end T

set_option maxRecDepth 1000000
set_option maxHeartbeats 2000000
namespace Pf
open PySem PySem.Spec L2
end Pf

set_option maxRecDepth 1000000
set_option maxHeartbeats 2000000
namespace Pf
open PySem PySem.Spec L2
section
variable {vs vs':List Int} {e:En} (same : ∀ v,v∈vs↔v∈vs') (b : ∀ v∈vs,0≤v∧v≤999)
include same
end
theorem vg (ns:List Int):dP (ns.map PyData.int)=some ns:=by
 induction ns with
 | nil=>rfl
 | cons n ns ih =>
  show (wV (.int n)).bind (λk=>(dP (ns.map PyData.int)).map (k :: ·))=_
  rw [ih]; rfl
theorem I_ {ns:List Int}:((bp ns).mergeSort λx y=>decide (x≤y))=ns↔ns.Pairwise (· < ·):=by
 have mem : ∀ (ks acc:List Int) (x:Int),x∈ks.foldl adI acc↔x∈acc∨x∈ks:=λks=>by
  induction ks with
  | nil=>intro acc x; simp
  | cons k ks ih =>
   intro acc x
   rw [List.foldl_cons,ih,yf,cG]
   constructor
   ·rintro ((h | h) | h)
    ·exact .inl h
    ·exact .inr (.inl h)
    ·exact .inr (.inr h)
   ·rintro (h | h | h)
    ·exact .inl (.inl h)
    ·exact .inl (.inr h)
    ·exact .inr h
 constructor
 ·intro h
  have s:((bp ns).mergeSort λx y=>decide (x≤y)).Pairwise λa b=>decide (a≤b)=true:=pX (λa b c h1 h2=>by simp only [aw] at *; omega) (λa b=>by simp only [Bool.or_eq_true,aw]; omega) _
  have n:=(pW (bp ns) λx y=>decide (x≤y)).nodup_iff.mpr (nU ns)
  rw [h] at s n
  exact (s.and n).imp λ{a b} h=>by
   have h1:=dF h.1
   have h2:a≠b:=h.2
   omega
 ·intro h
  have nd:ns.Nodup:=h.imp λ{a b} h e=>by omega
  have pm:ns.Perm (bp ns):=(pY nd (nU ns)).mpr λx=>by
   rw [show (x∈bp ns↔x∈([]:List Int)∨x∈ns) from mem ns [] x]
   simp
  exact (PySem.W.os_sorted_mergeSort pm (h.imp λ{a b} h=>by omega)).symm
end Pf

set_option maxRecDepth 1000000
set_option maxHeartbeats 2000000
namespace Pf
open PySem PySem.Spec L2
end Pf

set_option maxRecDepth 1000000
set_option maxHeartbeats 4000000
namespace Pf
open PySem PySem.Spec L2
section
variable {Γ:Gs} {ρ:Sto} {TD BD:D} {vs ns:List Int} {e:En} {at_:Int}
end
end Pf

set_option maxRecDepth 1000000
set_option maxHeartbeats 4000000
namespace Pf
open PySem PySem.Spec L2
section
variable {Γ:Gs} {CD TD BD:D}
end
end Pf

set_option maxRecDepth 1000000
set_option maxHeartbeats 4000000
namespace Pf
open PySem PySem.Spec L2
section
variable {Γ:Gs}
end
end Pf

set_option maxRecDepth 1000000
set_option maxHeartbeats 4000000
namespace Pf
open PySem PySem.Spec L2
section
variable {Γ:Gs} {cs:List Cq} {d v:D}
end
end Pf

set_option maxRecDepth 1000000
set_option maxHeartbeats 4000000
namespace Pf
open PySem PySem.Spec L2
section
variable {Γ:Gs} {cs:List Cq} {v:D}
end
end Pf

set_option maxRecDepth 1000000
set_option maxHeartbeats 4000000
namespace Pf
open PySem PySem.Spec L2
section
variable {cs:List Cq}
end
end Pf

set_option maxRecDepth 1000000
set_option maxHeartbeats 2000000
namespace Pf
open PySem PySem.Spec L2
end Pf

set_option maxRecDepth 100000
namespace T
open PySem Pf
end T

set_option maxRecDepth 1000000
set_option maxHeartbeats 4000000
namespace Pf
open PySem PySem.Spec L2
noncomputable def Bp (ns:List Int):List Int:=(bp ns).mergeSort λx y=>decide (x≤y)
theorem Lg {ns:List Int} {lo:Int} {n:Nat} (h : ∀ x∈ns,lo≤x∧x≤lo+n) (hn:n≤60):(bp ns).length<64:=by
 have:=La (lo:=lo) (n:=n) (nU ns) λx hx=>h x (by
  rcases (vY (ks:=ns) (acc:=[])).mp hx with hx | hx
  ·cases hx
  ·exact hx)
 omega
theorem JM {ns:List Int} (h1:ns.length≤4000) (h2:(bp ns).length<64):gv (n9 ns) = .ok ((Bp ns).map PyData.int):=by
 rw [show gv (n9 ns)=qA (n9 ns) from FZ (vg ns)]
 show (match dP (ns.map PyData.int) with | some ks=>if ks.length≤4000 then eV (bp ks) else .bad | none => .bad:Rs (List Int)).bind (λacc=>Rs.ok (fK acc))=_
 rw [vg]
 show (if ns.length≤4000 then eV (bp ns) else .bad:Rs (List Int)).bind _=_
 rw [if_pos h1]
 unfold eV
 rw [if_pos h2]
 rfl
section
variable {Γ:Gs} {ρ:Sto} {CD DD BD:D} {vs ns:List Int} {at_:Int} {es:List En}
end
end Pf

set_option maxRecDepth 100000
namespace Pf
namespace T
end T
end Pf

set_option maxRecDepth 1000000
set_option maxHeartbeats 2000000
namespace Pf
open PySem PySem.Spec L2
section
variable {Γ:Gs}
theorem Kz {α:Type} {ι:α→D} {τ:Sto} {i:Nat} {items:Sto→Rs (List D)} {L:List α} {f:α→D} {e:E} (it:items τ = .ok (L.map ι)) (hl:L.length≤1000000) (hi:i<τ.length) (h : ∀ x∈L,∀ ρ,ρ.length=τ.length→a9 ρ i = .ok (ι x)→(∀ j,j≠i→a9 ρ j=a9 τ j)→sem Γ e ρ = .ok (f x)):lcF (.nm i) [i] items (aZ Γ .none) (sem Γ e) τ = .ok (L.map f):=by
 rw [gr]
 refine gi (ι:=ι) (f:=f) (l:=L) it hl λx hx=>⟨_,rfl,h x hx _ (by rw [b7,cL,eC,b7]) ?_ λj hj => ?_⟩
 ·rw [gsP,if_pos rfl,if_pos (by rw [cL,eC,b7]; exact hi)]; rfl
 ·rw [gsP,if_neg (λq=>hj q.symm),cL,eC,gsP,if_neg (λq=>hj q.symm)]
end
section
variable {Γ:Gs}
variable {coll ad:D} {ys kn fr:List D} {f0:D} {wd:D→Str} {pb:D→Nat→Bool} {p:Str}
end
end Pf

set_option maxRecDepth 1000000
set_option maxHeartbeats 2000000
namespace Pf
open PySem PySem.Spec L2 V9
section
variable {t t2:Tg} {us:List Nat} {it2:Sto→Rs (List D)} {cond cond2:Sto→Rs Bool} {elt:Sto→Rs D} {ρ0:Sto}
theorem ql {p:D→Bool} {f:D→D} : ∀ {ds acc:List D},(∀ d∈ds,∃ ρ1,bx t d ρ0 = .ok ρ1∧cond ρ1 = .ok (p d)∧(p d=true→elt ρ1 = .ok (f d)))→acc.length+ds.length≤1000000→l1L t cond elt ρ0 ds acc = .ok (acc++(ds.filter p).map f)
 | [],acc,_,_=>by simp [l1L]
 | d::ds,acc,h,hl=>by
  obtain ⟨ρ1,h1,h2,h3⟩:=h d bu
  rw [a8] at hl
  unfold l1L
  rw [h1,Rs.ae,h2,show bo (Rs.ok (p d))=Rs.ok (p d) from rfl,Rs.ae]
  cases q:p d with
  | true =>
   rw [if_pos rfl,h3 q,show bo (Rs.ok (f d))=Rs.ok (f d) from rfl,Rs.ae,if_pos (show acc.length<LIM by show acc.length<1000000; omega),ql (λe he=>h e (aE _ he)) (by rw [cx]; simp; omega),mE,q]
   simp
  | false =>
   rw [if_neg aa,ql (λe he=>h e (aE _ he)) (by omega),mE,q]
   rfl
theorem vB {g:D→List D} {n:Nat} : ∀ {ds acc:List D},(∀ d∈ds,∃ ρ1 es,bx t d ρ0 = .ok ρ1∧cond ρ1 = .ok true∧it2 ρ1 = .ok es∧(g d).length≤n ∧ ∀ acc:List D,acc.length+n≤1000000→l1L t2 cond2 elt (aJ ρ1 us) es acc = .ok (acc++g d))→acc.length+ds.length*n≤1000000→l2L t cond it2 us t2 cond2 elt ρ0 ds acc = .ok (acc++ds.flatMap g)
 | [],acc,_,_=>by simp [l2L]
 | d::ds,acc,h,hl=>by
  obtain ⟨ρ1,es,h1,h2,h3,h4,h5⟩:=h d bu
  rw [a8,Nat.succ_mul] at hl
  unfold l2L
  rw [h1,Rs.ae,h2,show bo (Rs.ok true)=Rs.ok true from rfl,Rs.ae,if_pos rfl,h3,show bo (Rs.ok es)=Rs.ok es from rfl,Rs.ae,h5 acc (by omega),Rs.ae,
   vB (λe he=>h e (aE _ he)) (by rw [cx]; omega),List.flatMap_cons,eP]
end
noncomputable def ak (C:List (Str × Nat)):D:=.list (C.map λp => .tuple [.str p.1,.int (p.2:Nat)])
noncomputable def av (trap:Str→Bool) (C:List (Str × Nat)):List (Str × Nat):=C.filter λp => !trap p.1
noncomputable def ag (C:List (Str × Nat)):List Str:=C.map (·.1)
noncomputable def bC (C:List (Str × Nat)) (a:Str):Nat:=((C.find? λp=>decide (p.1=a)).map (·.2)).getD 0
noncomputable def a7 (C:List (Str × Nat)):List (D × D):=C.map λp=>(.str p.1,.int (p.2:Nat))
noncomputable def au (p:Pl):D:=.list (a_ p)
noncomputable def tM:D→Option (Nat × Str)
 | .tuple [.int b,.str a]=>some (b.toNat,a)
 | _=>none
noncomputable def yA:D→Pl
 | .list xs=>xs.filterMap tM
 | _=>[]
theorem Gy (p:Pl):yA (au p)=p:=by
 show (a_ p).filterMap tM=p
 unfold a_
 rw [List.filterMap_map]
 have:(tM∘cZ)=some:=by
  funext e
  rfl
 rw [this,List.filterMap_some]
theorem Bj {α β:Type} {f g:α→List β} : ∀ {l:List α},(∀ x∈l,f x=g x)→l.flatMap f=l.flatMap g
 | [],_=>rfl
 | x::l,h=>by rw [List.flatMap_cons,List.flatMap_cons,h x bu,Bj λy hy=>h y (aE _ hy)]
noncomputable def best (host:Str→Str) (trap:Str→Bool) (C:List (Str × Nat)) (n dl:Nat):Pl:=cM (bC (av trap C)) (bh host dl (ag (av trap C)) n)
structure nY (Γ:Gs) (C:List (Str × Nat)) (n dl:Nat) (host:Str→Str) (trap:Str→Bool):Prop where
 nd:(ag C).Nodup
 cl:C.length≤5
 nl:n≤6
 asc : ∀ a∈ag C,asc a=true∧a.length≤LIM
 r1:aX Γ 98 [ak C] = .ok .none
 r2:aX Γ 99 [.int (n:Nat)] = .ok .none
 r3:aX Γ 99 [.int (dl:Nat)] = .ok .none
 tr : ∀ a∈ag C,aX Γ 96 [.str a] = .ok (.bool (trap a))
 ft : ∀ (p:Pl) (b:Nat) (a:Str),(∀ e∈p,e.2∈ag C)→p.length≤6→a∈ag C→aX Γ 100 [au p,.int (b:Nat),.str a,.int (dl:Nat)] = .ok (.bool (dj host dl p b a))
noncomputable def sY:S:=(.exp (.call 98 (.cons (.var 0) .nil)))
noncomputable def tD:S:=(.exp (.call 99 (.cons (.var 1) .nil)))
noncomputable def tO:S:=(.exp (.call 99 (.cons (.var 2) .nil)))
noncomputable def qt:S:=(.setDc 3 (.tp [4,5]) [4,5] (.val (.var 0)) (.some (.not (.call 96 (.cons (.var 4) .nil)))) (.var 4) (.var 5))
noncomputable def rX:S:=(.asg (.nm 6) (.lst (.cons (.lst .nil) .nil)))
noncomputable def sU:E:=(.q (.lc2 (.nm 8) [8,4] (.val (.var 6)) .none (.nm 4) [4] (.val (.var 3)) (.some (.call 100 (.cons (.var 8) (.cons (.var 7) (.cons (.var 4) (.cons (.var 2) .nil)))))) (.bin .add (.var 8) (.lst (.cons (.tup (.cons (.var 7) (.cons (.var 4) .nil))) .nil)))))
noncomputable def lQ:Ss:=(.cons (.asg (.nm 6) (.bin .add (.var 6) sU)) .nil)
noncomputable def qz:S:=(.for (.nm 7) (.r1 (.var 1)) lQ)
noncomputable def mpP:List S:=[sY,tD,tO,qt,rX,qz]
noncomputable def mpK:E:=(.tup (.cons (.neg (.bi .sum (.cons (.lc (.tp [2,3]) [2,3] (.val (.var 0)) .none (.op .dix (.cons (.var 1) (.cons (.var 3) .nil)))) .nil))) (.cons (.var 0) .nil)))
section
variable {Γ Γl:Gs} {C:List (Str × Nat)} {n dl:Nat} {host:Str→Str} {trap:Str→Bool}
noncomputable abbrev mpS (C:List (Str × Nat)) (n dl:Nat) (x3 x6 x7:Option SV):Sto:=[some (.pd (ak C)),some (.pd (.int (n:Nat))),some (.pd (.int (dl:Nat))),x3,none,none,x6,x7,none]
theorem D9 {x y:Str}:isKey x (.str y)=decide (y=x):=rfl
theorem J_ {x:Str} {d:D} {kvs:List (D × D)} (h : ∀ p∈kvs,isKey x p.1=false):fC kvs x d=kvs++[(.str x,d)]:=by
 unfold fC
 rw [if_neg]
 rw [List.any_eq_true]
 rintro ⟨p,hp,e⟩
 rw [h p hp] at e
 cases e
theorem rm {ρ0:Sto} (l0:ρ0.length=9) (tr : ∀ a∈ag C,aX Γ 96 [.str a] = .ok (.bool (trap a))) : ∀ {L acc:List (Str × Nat)},(∀ p∈L,p∈C)→(ag (acc++L)).Nodup →
  dcL (.tp [4,5]) (aZ Γ (.some (.not (.call 96 (.cons (.var 4) .nil))))) (sem Γ (.var 4)) (sem Γ (.var 5)) ρ0 (L.map λp => .tuple [.str p.1,.int (p.2:Nat)]) (a7 acc) = .ok (a7 (acc++av trap L))
 | [],acc,_,_=>by simp [dcL,av]
 | p::L,acc,hs,nd=>by
  have e4:a9 ((ρ0.set 4 (some (.pd (.str p.1)))).set 5 (some (.pd (.int (p.2:Nat))))) 4 = .ok (.str p.1):=by
   rw [gsP,if_neg (by decide),gsP,if_pos rfl,if_pos (by omega)]; rfl
  have e5:a9 ((ρ0.set 4 (some (.pd (.str p.1)))).set 5 (some (.pd (.int (p.2:Nat))))) 5 = .ok (.int (p.2:Nat)):=by
   rw [gsP,if_pos rfl,if_pos (by rw [b7]; omega)]; rfl
  have c:aZ Γ (.some (.not (.call 96 (.cons (.var 4) .nil)))) ((ρ0.set 4 (some (.pd (.str p.1)))).set 5 (some (.pd (.int (p.2:Nat))))) = .ok (!trap p.1):=by
   show ((((bq Γ (.cons (.var 4) .nil) _).bind (aX Γ 96)).bind asB).bind λb=>Rs.ok (PyData.bool (!b))).bind asB=_
   rw [aU,aA,e4]
   show (((aX Γ 96 [.str p.1]).bind asB).bind λb=>Rs.ok (PyData.bool (!b))).bind asB=_
   rw [tr _ (fA.mpr ⟨p,hs p bu,rfl⟩)]
   rfl
  rw [aI]
  unfold dcL
  rw [lI,Rs.ae,c,show bo (Rs.ok (!trap p.1))=Rs.ok (!trap p.1) from rfl,Rs.ae]
  cases q:trap p.1 with
  | true =>
   rw [Bool.not_true,if_neg aa,rm l0 tr (λz hz=>hs z (aE _ hz)) ?_]
   ·unfold av
    rw [mE,q]
    rfl
   ·unfold ag at nd ⊢
    rw [cW,aI] at nd
    rw [cW]
    exact nd.sublist (List.Sublist.append_left (List.sublist_cons_self _ _) _)
  | false =>
   rw [Bool.not_false,if_pos rfl,aA,e4,show bo (Rs.ok (PyData.str p.1))=Rs.ok (PyData.str p.1) from rfl,Rs.ae,show cR (.str p.1) = .ok p.1 from rfl,Rs.ae,aA,e5,show bo (Rs.ok (PyData.int (p.2:Nat)))=Rs.ok (PyData.int (p.2:Nat)) from rfl,Rs.ae,J_]
   ·have:=rm l0 tr (L:=L) (acc:=acc++[p]) (λz hz=>hs z (aE _ hz)) (by rw [eP]; exact nd)
    have ea:a7 acc++[(.str p.1,.int (p.2:Nat))]=a7 (acc++[p]):=by unfold a7; rw [cW]; rfl
    rw [ea,this]
    unfold av
    rw [mE,q,eP]
    rfl
   ·intro z hz
    unfold a7 at hz
    rw [fA] at hz
    obtain ⟨r,hr,rfl⟩:=hz
    rw [D9,decide_eq_false_iff_not]
    intro e
    unfold ag at nd
    rw [cW,List.nodup_append] at nd
    exact nd.2.2 r.1 (fA.mpr ⟨r,hr,rfl⟩) p.1 (by simp) e
theorem E1 (K:nY Γ C n dl host trap):exe Γ qt (mpS C n dl none none none) = .nx (mpS C n dl (some (.pd (.dict (a7 (av trap C))))) none none):=by
 have e:dcF (.tp [4,5]) [4,5] (semi Γ (.val (.var 0))) (aZ Γ (.some (.not (.call 96 (.cons (.var 4) .nil))))) (sem Γ (.var 4)) (sem Γ (.var 5)) (mpS C n dl none none none) = .ok (a7 (av trap C)):=by
  have:=rm (Γ:=Γ) (ρ0:=mpS C n dl none none none) rfl K.tr (L:=C) (acc:=[]) (λ_ h=>h) K.nd
  unfold dcF
  show (if (C.map λp=>PyData.tuple [.str p.1,.int (p.2:Nat)]).length≤LIM then bo (dcL _ _ _ _ (mpS C n dl none none none) (C.map λp=>PyData.tuple [.str p.1,.int (p.2:Nat)]) (a7 [])) else .bad)=_
  have l:(C.map λp=>PyData.tuple [.str p.1,.int (p.2:Nat)]).length≤1000000:=by rw [aq]; have:=K.cl; omega
  rw [if_pos l,this]
  rfl
 rw [qt,Ol,e]
 rfl
theorem wa (nd:(ag C).Nodup) {p:Str × Nat} (h:p∈C):C.find? (λq=>decide (q.1=p.1))=some p:=by
 induction C with
 | nil=>cases h
 | cons q C ih =>
  unfold ag at nd ih
  rw [aI,List.nodup_cons] at nd
  rw [List.find?_cons]
  rcases cG.mp h with rfl | h
  ·simp
  ·have : ¬ q.1=p.1:=λe=>nd.1 (by rw [e]; exact fA.mpr ⟨p,h,rfl⟩)
   rw [cT this]
   exact ih nd.2 h
theorem AA (nd:(ag C).Nodup) {a:Str} (h:a∈ag C):dB (a7 C) a=some (.int (bC C a:Nat)):=by
 unfold ag at h
 rw [fA] at h
 obtain ⟨p,hp,rfl⟩:=h
 unfold dB a7 bC
 rw [List.find?_map]
 have:(λq:Str × Nat=>isKey p.1 (PyData.str q.1))=λq=>decide (q.1=p.1):=rfl
 show (Option.map _ (C.find? λq=>isKey p.1 (PyData.str q.1))).map _=_
 rw [this,wa nd hp]
 rfl
theorem jv (nd:(ag C).Nodup):(ag (av trap C)).Nodup:=nd.sublist (List.filter_sublist.map _)
theorem good_mem {a:Str} (h:a∈ag (av trap C)):a∈ag C:=(List.filter_sublist.map _).subset h
theorem mV {a:Str}:a∈ag (av trap C)↔a∈ag C∧trap a=false:=by
 unfold ag av
 simp only [fA,List.mem_filter]
 constructor
 ·rintro ⟨p,⟨h1,h2⟩,rfl⟩
  exact ⟨⟨p,h1,rfl⟩,by simpa using h2⟩
 ·rintro ⟨⟨p,h1,rfl⟩,h2⟩
  exact ⟨p,⟨h1,by simpa using h2⟩,rfl⟩
theorem r8 (hl:(ag (av trap C)).length≤5) : ∀ {n:Nat},(bh host dl (ag (av trap C)) n).length≤6 ^ n
 | 0=>by unfold bh; simp
 | n+1=>by
  unfold bh
  rw [cx]
  have ih:=r8 hl (n:=n)
  have : ∀ P:List Pl,(P.flatMap λp=>((ag (av trap C)).filter λa=>dj host dl p n a).map λa=>p++[(n,a)]).length≤P.length*5:=by
   intro P
   induction P with
   | nil=>simp
   | cons p P ih =>
    rw [List.flatMap_cons,cx,a8,aq,Nat.succ_mul]
    have:=List.length_filter_le (λa=>dj host dl p n a) (ag (av trap C))
    omega
  have:=this (bh host dl (ag (av trap C)) n)
  rw [Nat.pow_succ]
  omega
theorem D3 (p:Pl) (b:Nat) (a:Str):a_ p++[.tuple [.int (b:Nat),.str a]]=a_ (p++[(b,a)]):=by
 unfold a_
 rw [cW]
 rfl
theorem Nu (K:nY Γ C n dl host trap) {b:Nat} (hb:b<n) (x7:Option SV) :
  (bL (.nm 7) (.int (b:Nat)) (mpS C n dl (some (.pd (.dict (a7 (av trap C))))) (some (.pd (.list ((bh host dl (ag (av trap C)) b).map au)))) x7)).seq (ao Γ lQ) =
   .nx (mpS C n dl (some (.pd (.dict (a7 (av trap C))))) (some (.pd (.list ((bh host dl (ag (av trap C)) (b+1)).map au)))) (some (.pd (.int (b:Nat))))):=by
 let N:=ag (av trap C)
 have hN:N.length≤5:=by
  show (ag (av trap C)).length≤5
  unfold ag
  rw [aq]
  exact aF (List.length_filter_le _ _) K.cl
 have pl:=r8 (host:=host) (dl:=dl) hN (n:=b)
 have hb6:6 ^ b≤46656:=by
  have:=K.nl
  exact aF (Nat.pow_le_pow_right (by omega) (show b≤6 by omega)) (by decide)
 let τ:Sto:=mpS C n dl (some (.pd (.dict (a7 (av trap C))))) (some (.pd (.list ((bh host dl N b).map au)))) (some (.pd (.int (b:Nat))))
 have lc:sem Γ sU τ = .ok (.list (((bh host dl N b).flatMap λp=>(N.filter λa=>dj host dl p b a).map λa=>p++[(b,a)]).map au)):=by
  show (iD (.nm 8) [8,4] (semi Γ (.val (.var 6))) (aZ Γ .none) (semi Γ (.val (.var 3))) [4] (.nm 4) (aZ Γ (.some (.call 100 (.cons (.var 8) (.cons (.var 7) (.cons (.var 4) (.cons (.var 2) .nil))))))) (sem Γ (.bin .add (.var 8) (.lst (.cons (.tup (.cons (.var 7) (.cons (.var 4) .nil))) .nil)))) τ).bind (λds=>Rs.ok (PyData.list ds))=_
  unfold iD
  show ((bo (l2L _ _ _ _ _ _ _ τ ((bh host dl N b).map au) [])).bind λds=>Rs.ok (PyData.list ds))=_
  let unp:D→Pl:=yA
  have hu : ∀ p∈bh host dl N b,unp (au p)=p:=λp _=>Gy p
  rw [vB (n:=5) (g:=λd=>(N.filter λa=>dj host dl (unp d) b a).map λa=>au (unp d++[(b,a)])) ?_ ?_]
  ·show Rs.ok (PyData.list ([]++((bh host dl N b).map au).flatMap _))=_
   rw [mi,List.flatMap_map,List.map_flatMap]
   congr 2
   refine Bj λp hp => ?_
   show (N.filter λa=>dj host dl (unp (au p)) b a).map (λa=>au (unp (au p)++[(b,a)]))=_
   rw [hu p hp,cz]
   rfl
  ·intro d hd
   rw [fA] at hd
   obtain ⟨p,hp,rfl⟩:=hd
   have ok:=cX.mp hp
   refine ⟨_,N.map PyData.str,rfl,rfl,?_,?_,λacc hacc => ?_⟩
   ·show fN (.dict (a7 (av trap C)))=_
    have ko:((a7 (av trap C)).all λp=>keyOk p.1)=true:=by
     rw [j5]
     intro z hz
     unfold a7 at hz
     rw [fA] at hz
     obtain ⟨r,hr,rfl⟩:=hz
     have:=K.asc r.1 (good_mem (trap:=trap) (fA.mpr ⟨r,hr,rfl⟩))
     show (Pf.asc r.1&&decide (r.1.length≤LIM))=true
     rw [this.1,cb this.2]; rfl
    show (if ((a7 (av trap C)).all λp=>keyOk p.1)=true then Rs.ok ((a7 (av trap C)).map (·.1)) else .bad)=_
    rw [if_pos ko]
    unfold a7
    rw [cz]
    show Rs.ok _=Rs.ok ((ag (av trap C)).map PyData.str)
    unfold ag
    rw [cz]
    rfl
   ·rw [aq]
    exact aF (List.length_filter_le _ _) hN
   ·have hu:=hu p hp
    have l1:=ql (t:=.nm 4) (cond:=aZ Γ (.some (.call 100 (.cons (.var 8) (.cons (.var 7) (.cons (.var 4) (.cons (.var 2) .nil))))))) (elt:=sem Γ (.bin .add (.var 8) (.lst (.cons (.tup (.cons (.var 7) (.cons (.var 4) .nil))) .nil))))
     (ρ0:=aJ ((aJ τ [8,4]).set 8 (some (.pd (au p)))) [4]) (p:=λd=>match d with | .str a=>dj host dl p b a | _=>false) (f:=λd=>match d with | .str a=>au (p++[(b,a)]) | _ => .none) (ds:=N.map PyData.str) (acc:=acc) ?_ ?_
    ·refine l1.trans ?_
     show Rs.ok (acc++_)=Rs.ok (acc++(N.filter λa=>dj host dl (unp (au p)) b a).map λa=>au (unp (au p)++[(b,a)]))
     rw [hu,List.filter_map,cz]
     rfl
    ·intro d hd
     rw [fA] at hd
     obtain ⟨a,ha,rfl⟩:=hd
     have lp:=ok.len
     refine ⟨_,rfl,?_,λ_ => ?_⟩
     ·have:=K.ft p b a (λe he=>good_mem (ok.all e he).2) (by have:=K.nl; omega) (good_mem ha)
      show (aX Γ 100 [au p,.int (b:Nat),.str a,.int (dl:Nat)]).bind asB=_
      rw [this]
      rfl
     ·have l6:(a_ p).length+1≤1000000:=by unfold a_; rw [aq]; have:=K.nl; omega
      show pur (bE .add (.list (a_ p)) (.list [.tuple [.int (b:Nat),.str a]])) = .ok (.list (a_ (p++[(b,a)])))
      have:=nI (xs:=a_ p) (ys:=[.tuple [.int (b:Nat),.str a]]) l6
      rw [this,D3]
      rfl
    ·rw [aq]
     omega
  ·rw [aq,jb]
   show 0+(bh host dl (ag (av trap C)) b).length*5≤1000000
   omega
 show ao Γ lQ τ=_
 have lt:((bh host dl N b).map au).length+(((bh host dl N b).flatMap λp=>(N.filter λa=>dj host dl p b a).map λa=>p++[(b,a)]).map au).length≤1000000:=by
  have p2:=r8 (host:=host) (dl:=dl) hN (n:=b+1)
  unfold bh at p2
  rw [cx] at p2
  rw [aq,aq]
  have:6 ^ (b+1)≤46656:=by
   have:=K.nl
   exact aF (Nat.pow_le_pow_right (by omega) (show b+1≤6 by omega)) (by decide)
  exact aF p2 (by omega)
 have e:exe Γ (.asg (.nm 6) (.bin .add (.var 6) sU)) τ = .nx (mpS C n dl (some (.pd (.dict (a7 (av trap C))))) (some (.pd (.list ((bh host dl N (b+1)).map au)))) (some (.pd (.int (b:Nat))))):=by
  rw [eW,dE,lc,show sem Γ (.var 6) τ = .ok (.list ((bh host dl N b).map au)) from rfl,Rs.ae,Rs.ae,nI lt,← cW]
  rfl
 rw [lQ,aY,e,bg]
 rfl
theorem BB : ∀ p q:Pl,PySem.W.alikeAll (a_ p) (a_ q)=true
 | [],_=>by unfold a_; rw [List.map_nil]; unfold PySem.W.alikeAll; rfl
 | _::_,[]=>by unfold a_; rw [aI,List.map_nil]; unfold PySem.W.alikeAll; rfl
 | x::p,y::q=>by
  have ih:=BB p q
  unfold a_ at ih ⊢
  rw [aI,aI]
  unfold PySem.W.alikeAll
  rw [ih]
  rfl
theorem t5 : ∀ p:Pl,PyData.depthAll (a_ p)≤1∧PyData.hasDictAll (a_ p)=false
 | []=>⟨cy _,rfl⟩
 | x::p=>by
  have ih:=t5 p
  constructor
  ·show PyData.depthAll (cZ x::a_ p)≤1
   unfold PyData.depthAll
   have:PyData.depth (cZ x)=1:=rfl
   omega
  ·show PyData.hasDictAll (cZ x::a_ p)=false
   unfold PyData.hasDictAll
   rw [ih.2]
   rfl
theorem Aa {w:Str→Nat} (p:Pl):(kP w p).depth≤64∧(kP w p).hasDict=false:=by
 obtain ⟨h1,h2⟩:=t5 p
 constructor
 ·show (PyData.depthAll [PyData.int _,.list (a_ p)])+1≤64
  simp only [PyData.depthAll,PyData.depth]
  omega
 ·show PyData.hasDictAll [PyData.int _,.list (a_ p)]=false
  simp only [PyData.hasDictAll,PyData.hasDict,h2,Bool.or_false]
theorem y4 {m:List D→Rs D} {f:Pl→D} : ∀ {P:List Pl},(∀ p∈P,m [au p] = .ok (f p))→d5 m (P.map au)=some (P.map f)
 | [],_=>rfl
 | p::P,h=>by
  rw [aI]
  unfold d5
  rw [h p bu,y4 λq hq=>h q (aE _ hq)]
  rfl
theorem Bt {w:Str→Nat} : ∀ P:List Pl,PyData.hasDictAll (P.map (kP w))=false
 | []=>rfl
 | p::P=>by
  show PyData.hasDictAll (kP w p::P.map (kP w))=false
  unfold PyData.hasDictAll
  rw [(Aa p).2,Bt P]
  rfl
theorem Gp {k:D→Rs D} {w:Str→Nat} {P:List Pl} (ne:P≠[]) (h : ∀ p∈P,k (au p) = .ok (kP w p)):gD k (.list (P.map au)) = .ok (au (cM w P)):=by
 have e:d5 (kY k) (P.map au)=some (P.map (kP w)):=y4 h
 show (match d5 (kY k) (P.map au) with | some ks=>kW (P.map au) ks | none => .bad)=_
 rw [e]
 show kW (P.map au) (P.map (kP w))=_
 unfold kW
 rw [if_pos]
 ·rw [aq,List.getElem?_map,uj ne]
  rfl
 ·refine ⟨?_,?_,?_,Bt P⟩
  ·cases P with
   | nil=>exact absurd rfl ne
   | cons _ _=>rfl
  ·unfold jD
   rw [j5]
   intro x hx
   obtain ⟨p,_,rfl⟩:=fA.mp hx
   rw [ai]
   refine ⟨rfl,?_⟩
   rw [j5]
   intro y hy
   obtain ⟨q,_,rfl⟩:=fA.mp hy
   show (PySem.W.alikeAll [PyData.int _,.list (a_ p)] [PyData.int _,.list (a_ q)])=true
   simp only [PySem.W.alikeAll,PySem.W.alike,BB,Bool.and_self]
  ·rw [j5]
   intro x hx
   obtain ⟨p,_,rfl⟩:=fA.mp hx
   exact cb (Aa p).1
theorem we : ∀ l:List Nat,intsOf (l.map λk => .int ((k:Nat):Int))=some (l.map λk=>((k:Nat):Int))
 | []=>rfl
 | k::l=>by
  rw [aI]
  unfold intsOf
  rw [we l]
  rfl
theorem vc : ∀ l:List Nat,(l.map λk=>((k:Nat):Int)).sum=((l.sum:Nat):Int)
 | []=>rfl
 | k::l=>by rw [aI,eB,eB,vc l]; omega
theorem pB (l:List Nat):biD .sum [.list (l.map λk => .int ((k:Nat):Int))] = .ok (.int ((l.sum:Nat):Int)):=by
 show opt (intsOf (l.map λk => .int ((k:Nat):Int))) (λns=>PyData.int ns.sum)=_
 rw [we,← vc]
 rfl
theorem Hf {C:List (Str × Nat)} (nd:(ag C).Nodup) {p:Pl} (hp : ∀ e∈p,e.2∈ag C) (hl:p.length≤6) {x2 x3:Option SV}:sem Γl mpK [some (.pd (au p)),some (.pd (.dict (a7 C))),x2,x3] = .ok (kP (bC C) p):=by
 have lc:lcF (.tp [2,3]) [2,3] (semi Γl (.val (.var 0))) (aZ Γl .none) (sem Γl (.op .dix (.cons (.var 1) (.cons (.var 3) .nil)))) [some (.pd (au p)),some (.pd (.dict (a7 C))),x2,x3] = .ok ((p.map λe=>bC C e.2).map λk => .int ((k:Nat):Int)):=by
  rw [gr,cz]
  refine gi (ι:=cZ) (f:=λe:Nat × Str=>PyData.int ((bC C e.2:Nat):Int)) (l:=p) rfl (by omega) λe he=>⟨_,rfl,?_⟩
  show ig (.ok (.dict (a7 C))) (.ok (.str e.2))=_
  have i0:dQ (a7 C)=false:=by unfold a7; cases C <;> rfl
  unfold ig
  rw [Rs.ae,qJ i0,Rs.ae,Rs.ae,show cR (.str e.2) = .ok e.2 from rfl,Rs.ae,AA nd (hp e he)]
 have sm:sem Γl (.bi .sum (.cons (.lc (.tp [2,3]) [2,3] (.val (.var 0)) .none (.op .dix (.cons (.var 1) (.cons (.var 3) .nil)))) .nil)) [some (.pd (au p)),some (.pd (.dict (a7 C))),x2,x3] = .ok (.int ((wP (bC C) p:Nat):Int)):=by
  rw [gT,aU,iM,lc,b8]
  show pur (biD .sum [.list ((p.map λe=>bC C e.2).map λk => .int ((k:Nat):Int))])=_
  rw [pB]
  rfl
 rw [mpK,n8,aU]
 show (((sem Γl (.neg (.bi .sum (.cons (.lc (.tp [2,3]) [2,3] (.val (.var 0)) .none (.op .dix (.cons (.var 1) (.cons (.var 3) .nil)))) .nil))) _).bind _).bind _)=_
 have ng : ∀ (e:E) (ρ:Sto),sem Γl (.neg e) ρ=(sem Γl e ρ).bind l7:=λ_ _=>rfl
 rw [ng,sm]
 rfl
theorem IU (K:nY Γ C n dl host trap):rJ Γ Γl 9 mpP 999999 [3,1000,1001] (.var 6) mpK .nil [ak C,.int (n:Nat),.int (dl:Nat)] = .ok (au (best host trap C n dl)):=by
 show out (eG Γ mpP (gx Γ Γl 999999 [3,1000,1001] (.var 6) mpK .nil) (mpS C n dl none none none))=_
 have e0:exe Γ sY (mpS C n dl none none none) = .nx (mpS C n dl none none none):=by
  have c:sem Γ (.call 98 (.cons (.var 0) .nil)) (mpS C n dl none none none) = .ok .none:=K.r1
  rw [sY,tN,c]; rfl
 have e1:exe Γ tD (mpS C n dl none none none) = .nx (mpS C n dl none none none):=by
  have c:sem Γ (.call 99 (.cons (.var 1) .nil)) (mpS C n dl none none none) = .ok .none:=K.r2
  rw [tD,tN,c]; rfl
 have e2:exe Γ tO (mpS C n dl none none none) = .nx (mpS C n dl none none none):=by
  have c:sem Γ (.call 99 (.cons (.var 2) .nil)) (mpS C n dl none none none) = .ok .none:=K.r3
  rw [tO,tN,c]; rfl
 have e4:exe Γ rX (mpS C n dl (some (.pd (.dict (a7 (av trap C))))) none none) = .nx (mpS C n dl (some (.pd (.dict (a7 (av trap C))))) (some (.pd (.list ((bh host dl (ag (av trap C)) 0).map au)))) none):=by
  rw [rX,eW]; rfl
 have rg:semi Γ (.r1 (.var 1)) (mpS C n dl (some (.pd (.dict (a7 (av trap C))))) (some (.pd (.list ((bh host dl (ag (av trap C)) 0).map au)))) none) = .ok (rng 0 n):=by
  rw [BF]
  show hJ (.int (n:Nat))=_
  have:=K.nl
  show (if gU (n:Nat)=true then Rs.ok (rng 0 ((n:Nat):Int).toNat) else .bad)=_
  rw [if_pos (jA.mpr (by omega))]
  rfl
 obtain ⟨ρ',⟨x7,rfl⟩,lp⟩:=oS (Γ:=Γ) (t:=.nm 7) (ss:=lQ) (λi ρ => ∃ x7,ρ=mpS C n dl (some (.pd (.dict (a7 (av trap C))))) (some (.pd (.list ((bh host dl (ag (av trap C)) i).map au)))) x7) (ds:=rng 0 n) 0 (λi d ρ hd hp=>by
  obtain ⟨x7,rfl⟩:=hp
  unfold rng at hd
  rw [List.getElem?_map] at hd
  by_cases hi:i<n
  ·rw [List.getElem?_range hi] at hd
   cases hd
   refine ⟨_,⟨some (.pd (.int (i:Nat))),rfl⟩,?_⟩
   show (bL (.nm 7) (.int (0+((i:Nat):Int))) _).seq _=_
   rw [show ((0:Int)+((i:Nat):Int))=((i:Nat):Int) by omega,dG]
   exact Nu K hi x7
  ·rw [List.getElem?_eq_none (by rw [List.length_range]; omega)] at hd
   cases hd) (mpS C n dl (some (.pd (.dict (a7 (av trap C))))) (some (.pd (.list ((bh host dl (ag (av trap C)) 0).map au)))) none) ⟨none,rfl⟩
 have ln:(rng 0 n).length=n:=by unfold rng; rw [aq,List.length_range]
 rw [ln,dG] at lp
 have e5:exe Γ qz (mpS C n dl (some (.pd (.dict (a7 (av trap C))))) (some (.pd (.list ((bh host dl (ag (av trap C)) 0).map au)))) none) = .nx (mpS C n dl (some (.pd (.dict (a7 (av trap C))))) (some (.pd (.list ((bh host dl (ag (av trap C)) n).map au)))) x7):=by
  rw [qz,f6,rg,cD,lp]
 have mn:(sem Γ (.var 6) (mpS C n dl (some (.pd (.dict (a7 (av trap C))))) (some (.pd (.list ((bh host dl (ag (av trap C)) n).map au)))) x7)).bind (gD λd=>sem Γl mpK (dg [3,1000,1001] d (mpS C n dl (some (.pd (.dict (a7 (av trap C))))) (some (.pd (.list ((bh host dl (ag (av trap C)) n).map au)))) x7))) = .ok (au (best host trap C n dl)):=by
  refine Gp ij λp hp => ?_
  have ok:=cX.mp hp
  have:=ok.len
  exact Hf (jv K.nd) (λe he=>(ok.all e he).2) (by have:=K.nl; omega)
 unfold mpP eG
 rw [e0,bg]
 unfold eG
 rw [e1,bg]
 unfold eG
 rw [e2,bg]
 unfold eG
 rw [E1 K,bg]
 unfold eG
 rw [e4,bg]
 unfold eG
 rw [e5,bg]
 unfold eG
 unfold gx
 rw [if_pos rfl,mn]
 rfl
end
end Pf

set_option maxRecDepth 1000000
set_option maxHeartbeats 2000000
namespace Pf
open PySem PySem.Spec L2 V9
section
variable {Γ:Gs} {ρ:Sto} {t:Tg} {ss:Ss}
theorem yW {α:Type} {ι:α→D} {good:Sto→Prop} {p:α→Bool} {r:D} : ∀ {L:List α},(∀ x∈L,∀ ρ,good ρ→if p x=true then (bL t (ι x) ρ).seq (ao Γ ss) = .rt r else ∃ ρ',good ρ'∧(bL t (ι x) ρ).seq (ao Γ ss) = .nx ρ') → ∀ ρ,good ρ →
  if L.any p=true then gM Γ t ss (L.map ι) ρ = .rt r else ∃ ρ',good ρ'∧gM Γ t ss (L.map ι) ρ = .nx ρ'
 | [],_,ρ,g=>by
  rw [List.any_nil,if_neg aa]
  exact ⟨ρ,g,rfl⟩
 | x::L,h,ρ,g=>by
  have h1:=h x bu ρ g
  rw [j9,aI]
  cases q:p x with
  | true =>
   rw [q,if_pos rfl] at h1
   rw [Bool.true_or,if_pos rfl,Ac,h1]
  | false =>
   rw [q,if_neg aa] at h1
   obtain ⟨ρ1,g1,e1⟩:=h1
   rw [Bool.false_or,Ac,e1]
   exact yW (λy hy=>h y (aE _ hy)) ρ1 g1
end
section
variable {Γ:Gs} {C:List (Str × Nat)} {host:Str→Str}
noncomputable def jh:Ss:=(.cons (.ife (.or (.cmp .eq (.ex (.var 5)) (.ex (.var 2))) (.and (.cmp .eq (.ex (.call 9 (.cons (.var 5) .nil))) (.ex (.call 9 (.cons (.var 2) .nil)))) (.cmp .lt (.ex (.bin .sub (.var 1) (.var 4))) (.ex (.var 3))))) (.cons (.ret (.bl false)) .nil) .nil) .nil)
theorem beq_dec {x y:Str}:(x==y)=decide (x=y):=by
 by_cases h:x=y
 ·subst h; simp
 ·rw [cT h,beq_eq_false_iff_ne.mpr h]
theorem KJ {p:Pl} {b dl:Nat} {a:Str} (hs : ∀ e∈p,aX Γ 9 [.str e.2] = .ok (.str (host e.2))) (ha:aX Γ 9 [.str a] = .ok (.str (host a))) :
  bB Γ 6 T.fits [au p,.int (b:Nat),.str a,.int (dl:Nat)] = .ok (.bool (dj host dl p b a)):=by
 have lp:=yW (Γ:=Γ) (t:=.tp [4,5]) (ss:=jh) (ι:=cZ) (L:=p) (r:=.bool false) (good:=λρ => ∃ x4 x5,ρ=[some (.pd (au p)),some (.pd (.int (b:Nat))),some (.pd (.str a)),some (.pd (.int (dl:Nat))),x4,x5])
  (p:=λe=>decide (e.2=a)||(decide (host e.2=host a)&&decide ((b:Int)-e.1<dl))) (λe he ρ g=>by
  obtain ⟨x4,x5,rfl⟩:=g
  let τ:Sto:=[some (.pd (au p)),some (.pd (.int (b:Nat))),some (.pd (.str a)),some (.pd (.int (dl:Nat))),some (.pd (.int (e.1:Nat))),some (.pd (.str e.2))]
  have c:sem Γ (.or (.cmp .eq (.ex (.var 5)) (.ex (.var 2))) (.and (.cmp .eq (.ex (.call 9 (.cons (.var 5) .nil))) (.ex (.call 9 (.cons (.var 2) .nil)))) (.cmp .lt (.ex (.bin .sub (.var 1) (.var 4))) (.ex (.var 3))))) τ = .ok (.bool (decide (e.2=a)||(decide (host e.2=host a)&&decide ((b:Int)-e.1<dl)))):=by
   have c1:sem Γ (.cmp .eq (.ex (.var 5)) (.ex (.var 2))) τ = .ok (.bool (decide (e.2=a))):=by
    show pur (toB (aW .eq (.str e.2) (.str a)))=_
    rw [nA,beq_dec]; rfl
   have c2:sem Γ (.cmp .eq (.ex (.call 9 (.cons (.var 5) .nil))) (.ex (.call 9 (.cons (.var 2) .nil)))) τ = .ok (.bool (decide (host e.2=host a))):=by
    show (aX Γ 9 [.str e.2]).bind (λx=>(aX Γ 9 [.str a]).bind λy=>pur (toB (aW .eq x y)))=_
    rw [hs e he,ha,Rs.ae,Rs.ae,nA,beq_dec]; rfl
   have c3:sem Γ (.cmp .lt (.ex (.bin .sub (.var 1) (.var 4))) (.ex (.var 3))) τ = .ok (.bool (decide ((b:Int)-e.1<dl))):=rfl
   rw [gB,c1,Rs.ae,dw,Rs.ae]
   cases decide (e.2=a) with
   | true=>rfl
   | false =>
    rw [if_neg aa,lY,c2,Rs.ae,dw,Rs.ae,Bool.false_or]
    cases decide (host e.2=host a) with
    | true=>rw [if_pos rfl,c3,Bool.true_and]
    | false=>rfl
  have go:(bL (.tp [4,5]) (cZ e) [some (.pd (au p)),some (.pd (.int (b:Nat))),some (.pd (.str a)),some (.pd (.int (dl:Nat))),x4,x5]).seq (ao Γ jh)=ao Γ jh τ:=rfl
  rw [go]
  cases q:(decide (e.2=a)||(decide (host e.2=host a)&&decide ((b:Int)-e.1<dl))) with
  | true =>
   rw [if_pos rfl,jh,aY,d6,c,q]
   rfl
  | false =>
   rw [if_neg aa]
   refine ⟨τ,⟨_,_,rfl⟩,?_⟩
   rw [jh,aY,d6,c,q]
   rfl) [some (.pd (au p)),some (.pd (.int (b:Nat))),some (.pd (.str a)),some (.pd (.int (dl:Nat))),none,none] ⟨none,none,rfl⟩
 have e:dj host dl p b a = !(p.any λe=>decide (e.2=a)||(decide (host e.2=host a)&&decide ((b:Int)-e.1<dl))):=by
  unfold dj
  rw [List.not_any_eq_all_not]
 have shape:T.fits = .cons (.for (.tp [4,5]) (.val (.var 0)) jh) (.cons (.ret (.bl true)) .nil):=rfl
 show out (ao Γ T.fits [some (.pd (au p)),some (.pd (.int (b:Nat))),some (.pd (.str a)),some (.pd (.int (dl:Nat))),none,none])=_
 have it:semi Γ (.val (.var 0)) [some (.pd (au p)),some (.pd (.int (b:Nat))),some (.pd (.str a)),some (.pd (.int (dl:Nat))),none,none] = .ok (p.map cZ):=rfl
 rw [shape,aY,f6,it,cD,e]
 cases q:p.any λe=>decide (e.2=a)||(decide (host e.2=host a)&&decide ((b:Int)-e.1<dl)) with
 | true =>
  rw [q,if_pos rfl] at lp
  rw [lp]
  rfl
 | false =>
  rw [q,if_neg aa] at lp
  obtain ⟨ρ',_,e2⟩:=lp
  rw [e2,bg]
  rfl
theorem xF (hb : ∀ d (a b:Int),aX Γ 1 [d,.int a,.int b] = .ok (.bool (eY d a b))) (hg:glG Γ 27 = .ok (.int 6)) {n:Nat} (hn:n≤6):bB Γ 1 T.require_small [.int (n:Nat)] = .ok .none:=by
 have c:sem Γ (.not (.call 1 (.cons (.var 0) (.cons (.int 0) (.cons (.gl 27) .nil))))) [some (.pd (.int (n:Nat)))] = .ok (.bool false):=by
  show ((((Rs.ok (PyData.int (n:Nat))).bind λx=>((Rs.ok (PyData.int 0)).bind λy=>((glG Γ 27).bind λz=>(Rs.ok ([]:List D)).bind λxs => .ok (z::xs)).bind λxs => .ok (y::xs)).bind λxs => .ok (x::xs)).bind (λds=>aX Γ 1 ds)).bind asB).bind (λb=>Rs.ok (PyData.bool (!b)))=_
  rw [hg]
  show (((aX Γ 1 [.int (n:Nat),.int 0,.int 6]).bind asB).bind λb=>Rs.ok (PyData.bool (!b)))=_
  rw [hb]
  have:eY (.int (n:Nat)) 0 6=true:=by unfold eY; simp; omega
  rw [this]
  rfl
 show out (ao Γ T.require_small [some (.pd (.int (n:Nat)))])=_
 have shape:T.require_small = .cons (.ife (.not (.call 1 (.cons (.var 0) (.cons (.int 0) (.cons (.gl 27) .nil))))) (.cons (.rai "InvalidNumber" "value" (.var 0)) .nil) .nil) .nil:=rfl
 rw [shape,aY,d6,c]
 rfl
noncomputable def qx:S:=(.ife (.or (.not (.call 97 (.cons (.var 3) .nil))) (.cmp .inn (.ex (.ix (.var 3) (.int 0))) (.ov 1))) (.cons (.rai "InvalidCandidates" "index" (.var 2)) .nil) .nil)
noncomputable def B9:S:=(.app 1 (.ix (.var 3) (.int 0)))
noncomputable def oX:Ss:=(.cons qx (.cons B9 .nil))
noncomputable def aN (p:Str × Nat):D:=.tuple [.str p.1,.int (p.2:Nat)]
theorem BW {x:Str} {l:List Str}:aW .inn (.str x) (.list (l.map PyData.str)) = .ok (decide (x∈l)):=by
 show inD (.str x) (.list (l.map PyData.str))=_
 have pl:plain (.list (l.map PyData.str))=true:=by
  have h1:PyData.hasDictAll (l.map PyData.str)=false:=by
   induction l with
   | nil=>rfl
   | cons y l ih=>rw [aI]; simp only [PyData.hasDictAll,PyData.hasDict,ih,Bool.or_false]
  have h2:PyData.depthAll (l.map PyData.str)=0:=by
   induction l with
   | nil=>rfl
   | cons y l ih=>rw [aI] at h1 ⊢; simp only [PyData.hasDictAll,PyData.hasDict,Bool.or_eq_false_iff] at h1; simp only [PyData.depthAll,PyData.depth,ih h1.2,Nat.max_self]
  unfold plain
  simp only [PyData.hasDict,PyData.depth,h1,h2]
  rfl
 show (if plain (.str x)=true∧plain (.list (l.map PyData.str))=true then Rs.ok ((l.map PyData.str).any λz=>PyData.eqv z (.str x)) else if gb (.str x)=true∧(l.map PyData.str).all gQ=true then .ok false else .bad)=_
 rw [if_pos ⟨by rfl,pl⟩]
 congr 1
 by_cases h:x∈l
 ·rw [cb h,List.any_eq_true]
  exact ⟨.str x,fA.mpr ⟨x,h,rfl⟩,by simp [PyData.eqv]⟩
 ·rw [cT h,List.any_eq_false]
  intro y hy
  obtain ⟨z,hz,rfl⟩:=fA.mp hy
  simp only [PyData.eqv,beq_iff_eq]
  exact λe=>h (by rw [← e]; exact hz)
theorem Mi (hc : ∀ p∈C,aX Γ 97 [aN p] = .ok (.bool true)) (nd:(ag C).Nodup) (hl:C.length≤5) (hg:glG Γ 24 = .ok (.int 5)):bB Γ 4 T.require_candidates [ak C] = .ok .none:=by
 have lp:=oS (Γ:=Γ) (t:=.tp [2,3]) (ss:=oX) (λi ρ => ∃ x2 x3,ρ=[some (.pd (ak C)),some (.own ((ag (C.take i)).map PyData.str)),x2,x3]) (ds:=cN 0 (C.map aN)) 0 (λi d ρ hd g=>by
  obtain ⟨x2,x3,rfl⟩:=g
  rw [dG]
  have hi:i<C.length:=by
   have:=(List.getElem?_eq_some_iff.mp hd).1
   rw [iR,aq] at this
   exact this
  have hp:(C.map aN)[i]? = some (aN C[i]):=by rw [List.getElem?_map,List.getElem?_eq_getElem hi]; rfl
  have:=kJ (k:=0) hp
  rw [this] at hd
  cases hd
  let τ:Sto:=[some (.pd (ak C)),some (.own ((ag (C.take i)).map PyData.str)),some (.pd (.int ((0+i:Nat):Int))),some (.pd (aN C[i]))]
  have ln:(ag (C.take i)).length≤5:=by unfold ag; rw [aq,ez]; omega
  have c0:sem Γ (.call 97 (.cons (.var 3) .nil)) τ = .ok (.bool true):=hc _ (List.getElem_mem hi)
  have ix:sem Γ (.ix (.var 3) (.int 0)) τ = .ok (.str C[i].1):=rfl
  have ni : ¬ C[i].1∈ag (C.take i):=by
   intro m
   have e:=List.take_append_drop i C
   unfold ag at nd m
   rw [← e,cW,List.nodup_append] at nd
   refine nd.2.2 _ m C[i].1 ?_ rfl
   rw [fu hi,aI]
   exact bu
  have c1:sem Γ (.cmp .inn (.ex (.ix (.var 3) (.int 0))) (.ov 1)) τ = .ok (.bool false):=by
   have go:eD τ 1 = .ok (.list ((ag (C.take i)).map PyData.str)):=if_pos (by rw [aq]; show _≤1000000; omega)
   rw [e6,cQ,ix,Rs.ae,LK,go,Rs.ae,BW,cT ni]
   rfl
  have e0:exe Γ qx τ = .nx τ:=by
   have cn:sem Γ (.not (.call 97 (.cons (.var 3) .nil))) τ = .ok (.bool false):=by rw [qH,c0]; rfl
   rw [qx,d6,gB,cn,Rs.ae,dw,Rs.ae,if_neg aa,c1]
   rfl
  have e1:exe Γ B9 τ = .nx [some (.pd (ak C)),some (.own ((ag (C.take (i+1))).map PyData.str)),some (.pd (.int ((0+i:Nat):Int))),some (.pd (aN C[i]))]:=by
   show apF 1 (sem Γ (.ix (.var 3) (.int 0))) τ=_
   unfold apF
   rw [ix]
   show (if ((ag (C.take i)).map PyData.str).length<LIM then Out.nx (τ.set 1 (some (.own ((ag (C.take i)).map PyData.str++[.str C[i].1])))) else .bad)=_
   rw [if_pos (by rw [aq]; show _<1000000; omega)]
   have:C.take (i+1)=C.take i++[C[i]]:=by rw [List.take_add_one,List.getElem?_eq_getElem hi]; rfl
   rw [this]
   unfold ag
   rw [cW,cW]
   rfl
  refine ⟨[some (.pd (ak C)),some (.own ((ag (C.take (i+1))).map PyData.str)),some (.pd (.int ((0+i:Nat):Int))),some (.pd (aN C[i]))],⟨_,_,rfl⟩,?_⟩
  show ao Γ oX τ=_
  rw [oX,aY,e0,bg,aY,e1]
  rfl) [some (.pd (ak C)),some (.own []),none,none] ⟨none,none,rfl⟩
 obtain ⟨ρ',_,lp⟩:=lp
 have shape:T.require_candidates = .cons (.ife (.or (.not (.isa (.ex (.var 0)) .list)) (.cmp .gt (.ex (.len (.ex (.var 0)))) (.ex (.gl 24)))) (.cons (.rai "InvalidCandidates" "index" .non) .nil) .nil) (.cons (.own 1 .nil) (.cons (.for (.tp [2,3]) (.enum (.var 0)) oX) .nil)):=rfl
 have c:sem Γ (.or (.not (.isa (.ex (.var 0)) .list)) (.cmp .gt (.ex (.len (.ex (.var 0)))) (.ex (.gl 24)))) [some (.pd (ak C)),none,none,none] = .ok (.bool false):=by
  have c1:sem Γ (.not (.isa (.ex (.var 0)) .list)) [some (.pd (ak C)),none,none,none] = .ok (.bool false):=rfl
  rw [gB,c1,Rs.ae,dw,Rs.ae,if_neg aa]
  show (pur (gO (ak C))).bind (λx=>(glG Γ 24).bind λy=>pur (toB (aW .gt x y)))=_
  rw [hg,show gO (ak C) = .ok (.int ((C.map aN).length:Nat)) from rfl,ew,Rs.ae,Rs.ae,BY,aq,cT (by omega)]
  rfl
 show out (ao Γ T.require_candidates [some (.pd (ak C)),none,none,none])=_
 have e0:exe Γ (.ife (.or (.not (.isa (.ex (.var 0)) .list)) (.cmp .gt (.ex (.len (.ex (.var 0)))) (.ex (.gl 24)))) (.cons (.rai "InvalidCandidates" "index" .non) .nil) .nil) [some (.pd (ak C)),none,none,none] = .nx [some (.pd (ak C)),none,none,none]:=by
  rw [d6,c]; rfl
 have e1:exe Γ (.own 1 .nil) [some (.pd (ak C)),none,none,none] = .nx [some (.pd (ak C)),some (.own []),none,none]:=rfl
 have it:semi Γ (.enum (.var 0)) [some (.pd (ak C)),some (.own []),none,none] = .ok (cN 0 (C.map aN)):=rfl
 rw [shape,aY,e0,bg,aY,e1,bg,aY,f6,it,cD,lp]
 rfl
theorem MU (hb : ∀ d (a b:Int),aX Γ 1 [d,.int a,.int b] = .ok (.bool (eY d a b))) (hg:glG Γ 25 = .ok (.int 99)) {p:Str × Nat} (ha:aX Γ 7 [.str p.1] = .ok (.bool true)) (h1:1≤p.2) (h2:p.2≤99):bB Γ 1 T.is_candidate [aN p] = .ok (.bool true):=by
 let τ:Sto:=[some (.pd (aN p))]
 have c1:sem Γ (.isa (.ex (.var 0)) .tuple) τ = .ok (.bool true):=rfl
 have c2:sem Γ (.cmp .eq (.ex (.len (.ex (.var 0)))) (.ex (.int 2))) τ = .ok (.bool true):=by
  show pur (toB (aW .eq (.int 2) (.int 2)))=_
  rw [OL]; rfl
 have c3:sem Γ (.call 7 (.cons (.ix (.var 0) (.int 0)) .nil)) τ = .ok (.bool true):=ha
 have c4:sem Γ (.call 1 (.cons (.ix (.var 0) (.int 1)) (.cons (.int 1) (.cons (.gl 25) .nil)))) τ = .ok (.bool true):=by
  show ((Rs.ok (PyData.int (p.2:Nat))).bind λx=>((Rs.ok (PyData.int 1)).bind λy=>((glG Γ 25).bind λz=>(Rs.ok ([]:List D)).bind λxs => .ok (z::xs)).bind λxs => .ok (y::xs)).bind λxs => .ok (x::xs)).bind (λds=>aX Γ 1 ds)=_
  rw [hg]
  show aX Γ 1 [.int (p.2:Nat),.int 1,.int 99]=_
  rw [hb]
  have:eY (.int (p.2:Nat)) 1 99=true:=by unfold eY; simp; omega
  rw [this]
 have key:sem Γ (.and (.isa (.ex (.var 0)) .tuple) (.and (.cmp .eq (.ex (.len (.ex (.var 0)))) (.ex (.int 2))) (.and (.call 7 (.cons (.ix (.var 0) (.int 0)) .nil)) (.call 1 (.cons (.ix (.var 0) (.int 1)) (.cons (.int 1) (.cons (.gl 25) .nil))))))) τ = .ok (.bool true):=by
  rw [lY,c1,Rs.ae,dw,Rs.ae,if_pos rfl,lY,c2,Rs.ae,dw,Rs.ae,if_pos rfl,lY,c3,Rs.ae,dw,Rs.ae,if_pos rfl,c4]
 show out (ao Γ T.is_candidate τ)=_
 exact bF out (tL (qE key))
end
end Pf

set_option maxRecDepth 100000
namespace Pf.V9
open PySem PySem.W PyProof.Rows
section
variable {host:Str→Str} {dl:Nat} {names:List Str} {w:Str→Nat}
theorem take_one : ∀ {l:List Str} {n A:Nat},(∀ c∈l,w c≤A)→((l.take (n+1)).map w).sum≤((l.take n).map w).sum+A
 | [],_,_,_=>by simp
 | c::l,0,A,h=>by simpa using h c bu
 | c::l,n+1,A,h=>by
  have:=take_one (n:=n) λb hb=>h b (aE _ hb)
  rw [List.take_succ_cons,List.take_succ_cons (i:=n),aI,aI,eB,eB]
  omega
theorem Ob {l:List Str} {n:Nat} {a:Str} (h : ∀ b∈l,w b≤w a):((l.take n).map w).sum≤(((a::l).take n).map w).sum:=by
 cases n with
 | zero=>simp
 | succ n =>
  have:=take_one (n:=n) h
  rw [List.take_succ_cons,aI,eB]
  omega
theorem LQ {s l:List Str} (h:s.Sublist l):l.Pairwise (λa b=>w b≤w a) → ∀ n,s.length≤n→(s.map w).sum≤((l.take n).map w).sum:=by
 induction h with
 | slnil=>intro _ n _; simp
 | cons a h ih =>
  intro p n hn
  rw [List.pairwise_cons] at p
  exact aF (ih p.2 n hn) (Ob p.1)
 | cons_cons a h ih =>
  intro p n hn
  rw [List.pairwise_cons] at p
  cases n with
  | zero=>simp at hn
  | succ n =>
   simp only [List.take_succ_cons,aI,eB]
   exact Nat.add_le_add_left (ih p.2 n (by simpa using hn)) _
noncomputable def dsc (w:Str→Nat) (names:List Str):List Str:=names.mergeSort λa b=>decide (w b≤w a)
theorem jz:(dsc w names).Perm names:=pW _ _
theorem Aq:(dsc w names).Pairwise λa b=>w b≤w a:=by
 refine (pX (le:=λa b=>decide (w b≤w a)) (λa b c h1 h2 => ?_) (λa b => ?_) names).imp λh=>by simpa using h
 ·simp only [aw] at *; omega
 ·simp only [Bool.or_eq_true,aw]; omega
noncomputable def jt:Nat→List Str→Pl
 | _,[]=>[]
 | i,a::l=>(i,a)::jt (i+1) l
theorem qq : ∀ {l:List Str} {i:Nat} {e:Nat × Str},e∈jt i l→i≤e.1∧e.1<i+l.length∧e.2∈l
 | [],_,_,h=>by cases h
 | a::l,i,e,h=>by
  rcases cG.mp h with rfl | h
  ·exact ⟨aC _,by simp,bu⟩
  ·obtain ⟨h1,h2,h3⟩:=qq h
   exact ⟨by omega,by rw [a8]; omega,aE _ h3⟩
theorem wM (d:dl≤1) : ∀ {l:List Str} {i:Nat},l.Nodup→(jt i l).Pairwise λx y=>x.1<y.1∧x.2≠y.2∧(host x.2=host y.2→x.1+dl≤y.1)
 | [],_,_=>List.Pairwise.nil
 | a::l,i,h=>by
  rw [List.nodup_cons] at h
  refine List.Pairwise.cons (λy hy => ?_) (wM d h.2)
  obtain ⟨h1,h2,h3⟩:=qq hy
  exact ⟨by show i<y.1; omega,λz=>h.1 (by have z:a=y.2:=z; rw [z]; exact h3),λ_=>by show i+dl≤y.1; omega⟩
theorem zS : ∀ {l:List Str} {i:Nat},wP w (jt i l)=(l.map w).sum
 | [],_=>rfl
 | a::l,i=>by
  unfold wP jt
  rw [aI,aI,eB,eB]
  exact bF (w a + ·) (zS (l:=l) (i:=i+1))
theorem z8 (d:dl≤1) (nd:names.Nodup) (n:Nat):wP w (cM w (bh host dl names n))=(((dsc w names).take n).map w).sum:=by
 apply Nat.le_antisymm
 ·have ok:=cX.mp (iN (w:=w) (ij (host:=host) (dl:=dl) (names:=names) (n:=n)))
  generalize cM w (bh host dl names n)=p at ok
  let s:=(dsc w names).filter λa=>decide (a∈p.map (·.2))
  have pm:s.Perm (p.map (·.2)):=(pY ((jz.nodup_iff.mpr nd).filter _) ok.nd).mpr λa=>by
   rw [List.mem_filter,aw]
   refine ⟨λh=>h.2,λh=>⟨?_,h⟩⟩
   rw [fA] at h
   obtain ⟨e,he,rfl⟩:=h
   exact jz.mem_iff.mpr (ok.all e he).2
  have sl:s.Sublist (dsc w names):=List.filter_sublist
  have:=LQ (w:=w) sl Aq n (by rw [pm.length_eq,aq]; exact ok.len)
  have e:wP w p=(s.map w).sum:=by
   rw [(pm.map w).sum_nat]
   unfold wP
   rw [cz]; rfl
  rw [e]; exact this
 ·have nt:((dsc w names).take n).Nodup:=(List.take_sublist _ _).nodup (jz.nodup_iff.mpr nd)
  have ok:OkP host dl names n (jt 0 ((dsc w names).take n)):=⟨λe he=>by
   obtain ⟨h1,h2,h3⟩:=qq he
   rw [ez] at h2
   exact ⟨by omega,jz.mem_iff.mp (j7 h3)⟩,wM d nt⟩
  have:=zi (w:=w) (cX.mpr ok)
  rwa [zS] at this
theorem N4:(dsc w names).map w=((names.map w).mergeSort λa b=>decide (a≤b)).reverse:=by
 refine List.Perm.eq_of_pairwise (le:=λa b=>b≤a) (λa b _ _ h1 h2=>Nat.le_antisymm h2 h1) ?_ ?_ ?_
 ·rw [kF]; exact Aq
 ·rw [List.pairwise_reverse]
  refine (pX (le:=λa b=>decide (a≤b)) (λa b c h1 h2 => ?_) (λa b => ?_) (names.map w)).imp λh=>by simpa using h
  ·simp only [aw] at *; omega
  ·simp only [Bool.or_eq_true,aw]; omega
 ·exact (jz.map w).trans ((List.reverse_perm _).trans (pW _ _)).symm
theorem Fj (d:dl≤1) (nd:names.Nodup) (n:Nat):wP w (cM w (bh host dl names n))=(((names.map w).mergeSort λa b=>decide (a≤b)).reverse.take n).sum:=by
 rw [z8 d nd,← N4,kD]
theorem apart (inj : ∀ a∈names,∀ b∈names,host a=host b→a=b) (d e:Nat) {n:Nat} {p:Pl} (h:OkP host d names n p):OkP host e names n p:=
 ⟨h.all,h.pw.imp_of_mem λ{x y} hx hy h=>⟨h.1,h.2.1,λz=>absurd (inj _ (h' hx) _ (h' hy) z) h.2.1⟩⟩
 where h' {x:Nat × Str} (hx:x∈p):x.2∈names:=(h.all x hx).2
theorem OkP.mono {n n' d d':Nat} {names':List Str} {p:Pl} (h:OkP host d names n p) (hn:n≤n') (hd:d'≤d) (hs : ∀ a∈names,a∈names'):OkP host d' names' n' p:=
 ⟨λe he=>⟨gX (h.all e he).1 hn,hs _ (h.all e he).2⟩,h.pw.imp λh=>⟨h.1,h.2.1,λz=>by have:=h.2.2 z; omega⟩⟩
theorem yM {n n' d d':Nat} {names':List Str} {w':Str→Nat} (hn:n≤n') (hd:d'≤d) (hs : ∀ a∈names,a∈names') (hw : ∀ a∈names,w a≤w' a) :
  wP w (cM w (bh host d names n))≤wP w' (cM w' (bh host d' names' n')):=by
 have ok:=cX.mp (iN (w:=w) (ij (host:=host) (dl:=d) (names:=names) (n:=n)))
 exact aF (vI λe he=>hw _ (ok.all e he).2) (zi (cX.mpr (ok.mono hn hd hs)))
theorem Le (nd:names.Nodup) {n d:Nat}:wP w (cM w (bh host d names n))≤(names.map w).sum:=by
 have ok:=cX.mp (iN (w:=w) (ij (host:=host) (dl:=d) (names:=names) (n:=n)))
 have h1:=yM (host:=host) (names:=names) (w:=w) (n:=n) (n':=n) (aC n) (cy d) (λ_ h=>h) (λ_ _=>aC _)
 refine aF h1 ?_
 rw [z8 (by omega) nd]
 have:(((dsc w names).take n).map w).sum≤((dsc w names).map w).sum:=by
  conv=>rhs; rw [← List.take_append_drop n (dsc w names)]
  rw [cW,List.sum_append]
  omega
 rwa [(jz.map w).sum_nat] at this
end
end Pf.V9

set_option maxRecDepth 1000000
set_option maxHeartbeats 2000000
namespace Pf
open PySem PySem.Spec L2 V9
section
variable {Γ:Gs} {C C':List (Str × Nat)} {host:Str→Str} {trap:Str→Bool} {n dl:Nat}
theorem fP (nd:(ag C).Nodup) {p:Str × Nat} (h:p∈C):bC C p.1=p.2:=by
 unfold bC
 rw [wa nd h]
 rfl
theorem ue (nd:(ag C).Nodup) {a:Str} (h:a∈ag (av trap C)):bC (av trap C) a=bC C a:=by
 unfold ag at h
 obtain ⟨p,hp,rfl⟩:=fA.mp h
 rw [fP (jv nd) hp,fP nd (List.mem_filter.mp hp).1]
theorem E_ (nd:(ag C).Nodup) (pm:C.Perm C') {a:Str} (h:a∈ag C):bC C a=bC C' a:=by
 unfold ag at h
 obtain ⟨p,hp,rfl⟩:=fA.mp h
 rw [fP nd hp,fP (C:=C') ((show (ag C).Perm (ag C') from pm.map _).nodup_iff.mp nd) (pm.mem_iff.mp hp)]
theorem mP:OkP host dl (ag (av trap C)) n (best host trap C n dl):=cX.mp (iN ij)
theorem Mz (nd:(ag C).Nodup) (pm:C.Perm C'):best host trap C n dl=best host trap C' n dl:=by
 have pg:(av trap C).Perm (av trap C'):=pm.filter _
 have pn:(ag (av trap C)).Perm (ag (av trap C')):=pg.map _
 unfold best
 rw [DT (w:=bC (av trap C)) (w':=bC (av trap C')) λp hp e he=>E_ (jv nd) pg ((cX.mp hp).all e he).2]
 refine xD ij λp => ?_
 rw [cX,cX]
 exact ⟨λh=>h.mono (aC _) (aC _) λa ha=>pn.mem_iff.mp ha,λh=>h.mono (aC _) (aC _) λa ha=>pn.mem_iff.mpr ha⟩
noncomputable def cg (host:Str→Str) (trap:Str→Bool) (C:List (Str × Nat)) (n dl:Nat):Nat:=wP (bC C) (best host trap C n dl)
theorem oi (nd:(ag C).Nodup):cg host trap C n dl=wP (bC (av trap C)) (best host trap C n dl):=
 w8 λe he=>(ue nd (mP.all e he).2).symm
theorem pC {n' dl':Nat} (nd:(ag C).Nodup) (nd':(ag C').Nodup) (hn:n≤n') (hd:dl'≤dl) (hs : ∀ a∈ag (av trap C),a∈ag (av trap C')) (hw : ∀ a∈ag (av trap C),bC C a≤bC C' a) :
  cg host trap C n dl≤cg host trap C' n' dl':=by
 rw [oi nd,oi nd']
 exact yM hn hd hs λa ha=>by rw [ue nd ha,ue nd' (hs a ha)]; exact hw a ha
theorem BL (nd:(ag C).Nodup):(ag (av trap C)).map (bC (av trap C))=(av trap C).map (·.2):=by
 unfold ag
 rw [cz]
 exact List.map_congr_left λp hp=>fP (jv nd) hp
theorem Gi (nd:(ag C).Nodup) (hd:dl≤1):cg host trap C n dl=((((av trap C).map (·.2)).mergeSort λa b=>decide (a≤b)).reverse.take n).sum:=by
 rw [oi nd,← BL nd]
 exact Fj hd (jv nd) n
theorem I7 {l l':List Nat} (h:l.Sublist l'):l.sum≤l'.sum:=by
 induction h with
 | slnil=>exact aC _
 | cons a _ ih=>rw [eB]; omega
 | cons_cons a _ ih=>rw [eB,eB]; omega
theorem Ek (nd:(ag C).Nodup):cg host trap C n dl≤(C.map (·.2)).sum:=by
 rw [oi nd]
 refine aF (Le (jv nd)) ?_
 rw [BL nd]
 exact I7 (List.filter_sublist.map _)
theorem M7 {d d':Nat} (inj : ∀ a∈ag C,∀ b∈ag C,host a=host b→a=b):cg host trap C n d=cg host trap C n d':=by
 have:best host trap C n d=best host trap C n d':=by
  unfold best
  refine xD ij λp => ?_
  rw [cX,cX]
  exact ⟨apart (λa ha b hb=>inj a (good_mem ha) b (good_mem hb)) d d',apart (λa ha b hb=>inj a (good_mem ha) b (good_mem hb)) d' d⟩
 unfold cg
 rw [this]
theorem Oj (p:Pl):plain (au p)=true:=by
 obtain ⟨h1,h2⟩:=t5 p
 show (!(PyData.hasDictAll (a_ p))&&decide (PyData.depthAll (a_ p)+1≤64))=true
 rw [h2,cb (by omega)]
 rfl
theorem zk : ∀ C:List (Str × Nat),dS (C.map aN)=some (C.map λp=>(.inr p.1,.int (p.2:Nat)))
 | []=>rfl
 | p::C=>by
  rw [aI]
  show (dS (C.map aN)).map _=_
  rw [zk C]
  rfl
theorem JZ (nd:(ag C).Nodup) (hl:C.length≤1000):jo (ak C) = .ok (.dict (a7 C)):=by
 have go : ∀ (ds:List D) (l:List (Key × D)),dS ds=some l→(l.map (·.1)).Nodup→l.length≤1000000→jo (.list ds) = .ok (.dict (l.map λp=>(keyD p.1,p.2))):=λds l e h1 h2=>by
  unfold jo
  simp only [e]
  exact if_pos ⟨h1,h2⟩
 have:=go _ _ (zk C) (by
  rw [cz,List.nodup_iff_pairwise_ne,kF]
  unfold ag at nd
  rw [List.nodup_iff_pairwise_ne,kF] at nd
  exact nd.imp λh z=>h (Sum.inr.inj z)) (by rw [aq]; omega)
 rw [cz] at this
 exact this
theorem tR : ∀ l:List Nat,PyData.hasDictAll (l.map λk => .int ((k:Nat):Int))=false∧PyData.depthAll (l.map λk => .int ((k:Nat):Int))=0
 | []=>⟨rfl,rfl⟩
 | k::l=>by
  obtain ⟨h1,h2⟩:=tR l
  rw [aI]
  exact ⟨by simp only [PyData.hasDictAll,PyData.hasDict,h1,Bool.or_false],by simp only [PyData.depthAll,PyData.depth,h2,Nat.max_self]⟩
theorem NH (l:List Nat):biD .sorted [.list (l.map λk => .int ((k:Nat):Int))] = .ok (.list ((l.mergeSort λa b=>decide (a≤b)).map λk => .int ((k:Nat):Int))):=by
 let f:Nat→D:=λk => .int ((k:Nat):Int)
 show (if oO (l.map f)=true∧sortable (l.map f)=true∧((l.map f).all λx=>decide (x.depth≤64))=true∧PyData.hasDictAll (l.map f)=false then Rs.ok (PyData.list (oj (l.map f))) else .bad)=_
 rw [if_pos]
 ·rw [BM,List.map_mergeSort (r:=λa b=>decide (a≤b)) (s:=oN) (f:=f)]
  intro a _ b _
  show decide (a≤b) = !PySem.W.dataLt (.int (b:Nat)) (.int (a:Nat))
  rw [PySem.W.dataLt_int]
  by_cases h:a≤b
  ·rw [cb h,cT (by omega)]; rfl
  ·rw [cT h,cb (by omega)]; rfl
 ·refine ⟨?_,?_,?_,(tR l).1⟩
  ·unfold oO
   refine j5.mpr λx hx=>j5.mpr λy hy => ?_
   obtain ⟨p,_,rfl⟩:=fA.mp hx
   obtain ⟨q,_,rfl⟩:=fA.mp hy
   rfl
  ·unfold sortable
   rw [Bool.or_eq_true]
   refine .inr (j5.mpr λx hx => ?_)
   obtain ⟨p,_,rfl⟩:=fA.mp hx
   rfl
  ·refine j5.mpr λx hx => ?_
   obtain ⟨p,_,rfl⟩:=fA.mp hx
   rfl
theorem K1 {p:Pl} (nd:(ag C).Nodup) (hl:C.length≤1000) (hp : ∀ e∈p,e.2∈ag C) (lp:p.length≤1000) {t:Ss}
  (ht:t = .cons (.asg (.nm 2) (.op .dictL (.cons (.var 1) .nil))) (.cons (.ret (.bi .sum (.cons (.lc (.tp [3,4]) [3,4] (.val (.var 0)) .none (.op .dix (.cons (.var 2) (.cons (.var 4) .nil)))) .nil))) .nil)) :
  bB Γ 5 t [au p,ak C] = .ok (.int ((wP (bC C) p:Nat):Int)):=by
 let τ:Sto:=[some (.pd (au p)),some (.pd (ak C)),some (.pd (.dict (a7 C))),none,none]
 have e0:exe Γ (.asg (.nm 2) (.op .dictL (.cons (.var 1) .nil))) [some (.pd (au p)),some (.pd (ak C)),none,none,none] = .nx τ:=by
  have:sem Γ (.op .dictL (.cons (.var 1) .nil)) [some (.pd (au p)),some (.pd (ak C)),none,none,none]=jo (ak C):=rfl
  rw [eW,this,JZ nd hl]
  rfl
 have lc:lcF (.tp [3,4]) [3,4] (semi Γ (.val (.var 0))) (aZ Γ .none) (sem Γ (.op .dix (.cons (.var 2) (.cons (.var 4) .nil)))) τ = .ok ((p.map λe=>bC C e.2).map λk => .int ((k:Nat):Int)):=by
  rw [gr,cz]
  refine gi (ι:=cZ) (f:=λe:Nat × Str=>PyData.int ((bC C e.2:Nat):Int)) (l:=p) rfl (by omega) λe he=>⟨_,rfl,?_⟩
  show ig (.ok (.dict (a7 C))) (.ok (.str e.2))=_
  have i0:dQ (a7 C)=false:=by unfold a7; cases C <;> rfl
  unfold ig
  rw [Rs.ae,qJ i0,Rs.ae,Rs.ae,show cR (.str e.2) = .ok e.2 from rfl,Rs.ae,AA nd (hp e he)]
 have sm:sem Γ (.bi .sum (.cons (.lc (.tp [3,4]) [3,4] (.val (.var 0)) .none (.op .dix (.cons (.var 2) (.cons (.var 4) .nil)))) .nil)) τ = .ok (.int ((wP (bC C) p:Nat):Int)):=by
  rw [gT,aU,iM,lc,b8]
  show pur (biD .sum [.list ((p.map λe=>bC C e.2).map λk => .int ((k:Nat):Int))])=_
  rw [pB]
  rfl
 show out (ao Γ t [some (.pd (au p)),some (.pd (ak C)),none,none,none])=_
 rw [ht,aY,e0,bg,aY,DC,sm]
 rfl
end
end Pf

set_option maxRecDepth 1000000
set_option maxHeartbeats 2000000
namespace K91
open PySem PySem.Spec L2 Pf V9
theorem cA {Γ:Gs} {k n:Nat} {m:List D→Rs D} (h : ∀ ds,aX Γ k ds=if ds.length=n then m ds else .bad) {ds:List D} (hl:ds.length=n):aX Γ k ds=m ds:=by rw [h,if_pos hl]
noncomputable def bX:List Str:=["a/x", "a/y", "b", "c/z", "b/x?q=1", "a/x/x/x", "a", "c/y", "b/x", "c"]
noncomputable def c9:List Str:= "far" :: bX
noncomputable def aR (a:Str):Str:=match oy [.str a] with
 | .ok (.str h)=>h
 | _ => ""
noncomputable def aL (a:Str):Bool:=match oz [.str a] with
 | .ok (.bool b)=>b
 | _=>false
noncomputable def lP (a:Str):Bool:=(match ro [.str a] with | .ok (.bool true)=>true | _=>false)&&(match oy [.str a] with | .ok (.str _)=>true | _=>false)&&(match oz [.str a] with | .ok (.bool _)=>true | _=>false)&&asc a&&decide (a.length≤LIM)
theorem oB:c9.all lP=true:=by decide +kernel
noncomputable def zF (a:Str):Bool:=match ixD (.str a) (.int 0) with
 | .ok (.str x)=>decide (x=aR a)
 | _=>false
theorem GU:bX.all zF=true:=by decide +kernel
theorem OB {a:Str} (h:a∈c9):ro [.str a] = .ok (.bool true):=by
 have:=j5.mp oB a h
 unfold lP at this
 simp only [ai] at this
 have:=this.1.1.1.1
 split at this
 ·assumption
 ·cases this
theorem xM {a:Str} (h:a∈c9):oy [.str a] = .ok (.str (aR a)):=by
 have:=j5.mp oB a h
 unfold lP at this
 simp only [ai] at this
 have:=this.1.1.1.2
 unfold aR
 split at this
 ·rename_i e; rw [e]
 ·cases this
theorem qS {a:Str} (h:a∈c9):oz [.str a] = .ok (.bool (aL a)):=by
 have:=j5.mp oB a h
 unfold lP at this
 simp only [ai] at this
 have:=this.1.1.2
 unfold aL
 split at this
 ·rename_i e; rw [e]
 ·cases this
theorem Mc {a:Str} (h:a∈c9):asc a=true∧a.length≤LIM:=by
 have:=j5.mp oB a h
 unfold lP at this
 simp only [ai,aw] at this
 exact ⟨this.1.2,this.2⟩
theorem pE {a:Str} (h:a∈bX):ixD (.str a) (.int 0) = .ok (.str (aR a)):=by
 have:=j5.mp GU a h
 unfold zF at this
 split at this
 ·rename_i e
  rw [aw] at this
  rw [e,this]
 ·cases this
structure CG (M:List Str) (k:Nat) (C:List (Str × Nat)):Prop where
 nd:(ag C).Nodup
 cl:C.length≤k
 nm : ∀ p∈C,p.1∈M∧1≤p.2∧p.2≤99
theorem CG.nam {M:List Str} {k:Nat} {C:List (Str × Nat)} (h:CG M k C) {a:Str} (ha:a∈ag C):a∈M:=by
 unfold ag at ha
 obtain ⟨p,hp,rfl⟩:=fA.mp ha
 exact (h.nm p hp).1
theorem r6 (Γ:Gs) (h1 : ∀ d (a b:Int),aX Γ 1 [d,.int a,.int b]=vp [d,.int a,.int b]) (d:D) (a b:Int):aX Γ 1 [d,.int a,.int b] = .ok (.bool (eY d a b)):=
 (h1 d a b).trans (Fz (Γ:=mN) (λd=>(cA (k:=0) (λ_=>rfl) rfl).trans (Mj d)) d a b)
theorem MH {C:List (Str × Nat)} {n dl:Nat} (h:CG c9 5 C) (hn:n≤6) (hd:dl≤6):vw [ak C,.int (n:Nat),.int (dl:Nat)] = .ok (au (best aR aL C n dl)):=by
 have K:nY ju C n dl aR aL:={
  nd:=h.nd
  cl:=h.cl
  nl:=hn
  asc:=λa ha=>Mc (h.nam ha)
  r1:=(cA (k:=98) (λ_=>rfl) rfl).trans (Mi (Γ:=oL) (λp hp=>(cA (k:=97) (λ_=>rfl) rfl).trans (MU (Γ:=kG) (r6 kG λd a b=>cA (k:=1) (λ_=>rfl) rfl) rfl ((cA (k:=7) (λ_=>rfl) rfl).trans (OB (h.nm p hp).1)) (h.nm p hp).2.1 (h.nm p hp).2.2)) h.nd h.cl rfl)
  r2:=(cA (k:=99) (λ_=>rfl) rfl).trans (xF (Γ:=eT) (r6 eT λd a b=>cA (k:=1) (λ_=>rfl) rfl) rfl hn)
  r3:=(cA (k:=99) (λ_=>rfl) rfl).trans (xF (Γ:=eT) (r6 eT λd a b=>cA (k:=1) (λ_=>rfl) rfl) rfl hd)
  tr:=λa ha=>(cA (k:=96) (λ_=>rfl) rfl).trans (qS (h.nam ha))
  ft:=λp b a hp _ ha=>(cA (k:=100) (λ_=>rfl) rfl).trans (KJ (Γ:=oV) (λe he=>(cA (k:=9) (λ_=>rfl) rfl).trans (xM (h.nam (hp e he)))) ((cA (k:=9) (λ_=>rfl) rfl).trans (xM (h.nam ha)))) }
 exact IU (Γ:=ju) (Γl:=eT) K
theorem IC {p:Pl} {C:List (Str × Nat)} (h:CG c9 5 C) (hp : ∀ e∈p,e.2∈ag C) (lp:p.length≤1000):A_ [au p,ak C] = .ok (.int ((wP (bC C) p:Nat):Int)):=
 K1 (Γ:=oP) h.nd (by have:=h.cl; omega) hp lp rfl
end K91

set_option maxRecDepth 1000000
set_option maxHeartbeats 4000000
namespace K91
open PySem PySem.Spec L2 Pf V9 Ax
theorem Li:kM=(.cons rW (.cons qO (.cons uo (.frz 2 (.cons BC .nil))))):=rfl
noncomputable def fO:D:=.list (bX.map PyData.str)
section
variable {Γ:Gs} {ds:List D}
noncomputable abbrev lcS (ds:List D) (C:List (Str × Nat)) (x3 x4:Option SV):Sto:=[some (.pd (.list ds)),some (.pd fO),some (.own (C.map aN)),x3,x4,none]
theorem uc {x:Str} {l:List Str}:aW .nin (.str x) (.list (l.map PyData.str)) = .ok (!decide (x∈l)):=by
 have:=BW (x:=x) (l:=l)
 show (inD (.str x) (.list (l.map PyData.str))).bind (λb=>Rs.ok (!b))=_
 have e:inD (.str x) (.list (l.map PyData.str)) = .ok (decide (x∈l)):=this
 rw [e]
 rfl
theorem hX {n k:Nat} (h:Dg n ds) (hk:k<n) : ∃ i:Nat,ds[k]? = some (.int (i:Nat))∧i<420:=by
 obtain ⟨i,e,h0,h1⟩:=h.get hk
 refine ⟨i.toNat,by rw [e]; congr 2; omega,by omega⟩
theorem Gu (hd:Dg 24 ds) {C:List (Str × Nat)} {j:Nat} (hj:j<5) (h:CG bX j C) (x3 x4:Option SV) : ∃ C' x4',CG bX (j+1) C'∧(bL (.nm 3) (.int (j:Nat)) (lcS ds C x3 x4)).seq (ao Γ iK) = .nx (lcS ds C' (some (.pd (.int (j:Nat)))) x4'):=by
 obtain ⟨u,hu,lu⟩:=hX hd (k:=1+2*j) (by omega)
 obtain ⟨v,hv,lv⟩:=hX hd (k:=2+2*j) (by omega)
 have iu:ixD (.list ds) (.int (1+2*(j:Int))) = .ok (.int (u:Nat)):=by
  rw [jF (by omega),show (1+2*(j:Int)).toNat=1+2*j by omega,hu]; rfl
 have iv:ixD (.list ds) (.int (2+2*(j:Int))) = .ok (.int (v:Nat)):=by
  rw [jF (by omega),show (2+2*(j:Int)).toNat=2+2*j by omega,hv]; rfl
 have um:u%10<bX.length:=Nat.mod_lt _ (by decide)
 obtain ⟨a,ha⟩ : ∃ a,bX[u%10]? = some a:=⟨_,List.getElem?_eq_getElem um⟩
 have am:a∈bX:=eA ha
 let τ:Sto:=lcS ds C (some (.pd (.int (j:Nat)))) x4
 have ml : ∀ i:Nat,bE .mul (.int 2) (.int (i:Nat)) = .ok (.int (2*(i:Int))):=λi=>rfl
 have e0:exe Γ qR τ = .nx (lcS ds C (some (.pd (.int (j:Nat)))) (some (.pd (.str a)))):=by
  have v:sem Γ (.ix (.var 1) (.bin .mod (.ix (.var 0) (.bin .add (.int 1) (.bin .mul (.int 2) (.var 3)))) (.int 10))) τ = .ok (.str a):=by
   have w:sem Γ (.bin .mod (.ix (.var 0) (.bin .add (.int 1) (.bin .mul (.int 2) (.var 3)))) (.int 10)) τ = .ok (.int ((u%10:Nat):Int)):=by
    show (pur (ixD (.list ds) (.int (1+2*(j:Int))))).bind (λx=>pur (bE .mod x (.int 10)))=_
    rw [iu,ew,Rs.ae,g_ (by decide)]
    show Rs.ok (PyData.int (((u:Nat):Int)%10))=_
    congr 2
   rw [eH,w]
   show pur (ixD fO (.int ((u%10:Nat):Int)))=_
   unfold fO
   rw [jF (by omega),show (((u%10:Nat):Int)).toNat=u%10 by omega,List.getElem?_map,ha]
   rfl
  rw [qR,eW,v]
  rfl
 let σ:Sto:=lcS ds C (some (.pd (.int (j:Nat)))) (some (.pd (.str a)))
 have lC:C.length≤j:=h.cl
 have fz:frz 2 σ=[some (.pd (.list ds)),some (.pd fO),some (.pd (.list (C.map aN))),some (.pd (.int (j:Nat))),some (.pd (.str a)),none]:=by
  show frz 2 (lcS ds C (some (.pd (.int (j:Nat)))) (some (.pd (.str a))))=_
  rw [gF,gF,t7 (by rw [aq]; omega)]
 have cn:sem Γ (.cmp .nin (.ex (.var 4)) (.ex (.lc (.nm 5) [5] (.val (.var 2)) .none (.ix (.var 5) (.int 0))))) (frz 2 σ) = .ok (.bool (!decide (a∈ag C))):=by
  rw [fz]
  have lc:lcF (.nm 5) [5] (semi Γ (.val (.var 2))) (aZ Γ .none) (sem Γ (.ix (.var 5) (.int 0))) [some (.pd (.list ds)),some (.pd fO),some (.pd (.list (C.map aN))),some (.pd (.int (j:Nat))),some (.pd (.str a)),none] = .ok ((ag C).map PyData.str):=by
   unfold ag
   rw [gr,cz]
   exact gi (ι:=aN) (f:=λp:Str × Nat=>PyData.str p.1) (l:=C) rfl (by omega) λp _=>⟨_,rfl,rfl⟩
  rw [e6,cQ,cQ,iM,lc]
  show pur (toB (aW .nin (.str a) (.list ((ag C).map PyData.str))))=_
  rw [uc]
  rfl
 by_cases hm:a∈ag C
 ·refine ⟨C,some (.pd (.str a)),⟨h.nd,by have:=h.cl; omega,h.nm⟩,?_⟩
  have e1:exe Γ rj σ = .nx σ:=by
   show gG 2 (λρ=>(sem Γ (.cmp .nin (.ex (.var 4)) (.ex (.lc (.nm 5) [5] (.val (.var 2)) .none (.ix (.var 5) (.int 0))))) ρ).bind asB) _ _ σ=_
   unfold gG
   simp only [cn,hm,decide_true,Bool.not_true,Rs.ae,dw]
   rfl
  show ao Γ iK τ=_
  rw [iK,aY,e0,bg,aY,e1]
  rfl
 ·refine ⟨C++[(a,1+v%99)],some (.pd (.str a)),⟨?_,?_,?_⟩,?_⟩
  ·unfold ag at hm ⊢
   rw [cW,List.nodup_append]
   exact ⟨h.nd,by simp,λx hx y hy z=>hm (by simp at hy; rw [← hy,← z]; exact hx)⟩
  ·rw [cx]; have:=h.cl; simp; omega
  ·intro p hp
   rcases j6.mp hp with hp | hp
   ·exact h.nm p hp
   ·rw [c7] at hp
    subst hp
    exact ⟨am,by show 1≤1+v%99; omega,by show 1+v%99≤99; have:=Nat.mod_lt v (show 0<99 by decide); omega⟩
  ·have vv:sem Γ (.tup (.cons (.var 4) (.cons (.bin .add (.int 1) (.bin .mod (.ix (.var 0) (.bin .add (.int 2) (.bin .mul (.int 2) (.var 3)))) (.int 99))) .nil))) σ = .ok (aN (a,1+v%99)):=by
    have w:sem Γ (.bin .add (.int 1) (.bin .mod (.ix (.var 0) (.bin .add (.int 2) (.bin .mul (.int 2) (.var 3)))) (.int 99))) σ = .ok (.int ((1+v%99:Nat):Int)):=by
     show ((pur (ixD (.list ds) (.int (2+2*(j:Int))))).bind λx=>pur (bE .mod x (.int 99))).bind (λy=>pur (bE .add (.int 1) y))=_
     rw [iv,ew,Rs.ae,g_ (by decide)]
     show Rs.ok (PyData.int (1+((v:Nat):Int)%99))=_
     congr 2
    rw [n8,aU]
    show (Rs.bind (bq Γ (.cons (.bin .add (.int 1) (.bin .mod (.ix (.var 0) (.bin .add (.int 2) (.bin .mul (.int 2) (.var 3)))) (.int 99))) .nil) σ) _).bind _=_
    rw [aU,w]
    rfl
   have e1:exe Γ rj σ = .nx (lcS ds (C++[(a,1+v%99)]) (some (.pd (.int (j:Nat)))) (some (.pd (.str a)))):=by
    show gG 2 (λρ=>(sem Γ (.cmp .nin (.ex (.var 4)) (.ex (.lc (.nm 5) [5] (.val (.var 2)) .none (.ix (.var 5) (.int 0))))) ρ).bind asB) _ _ σ=_
    unfold gG
    simp only [cn,hm,decide_false,Bool.not_false,Rs.ae,dw]
    rw [aY,v_,show ownAt σ 2 = .ok (C.map aN) from rfl,cD,vv,cD,if_pos (by rw [aq]; show C.length<1000000; omega)]
    show Out.nx [some (.pd (.list ds)),some (.pd fO),some (.own (C.map aN++[aN (a,1+v%99)])),some (.pd (.int (j:Nat))),some (.pd (.str a)),none]=_
    rw [show lcS ds (C++[(a,1+v%99)]) (some (.pd (.int (j:Nat)))) (some (.pd (.str a)))=[some (.pd (.list ds)),some (.pd fO),some (.own ((C++[(a,1+v%99)]).map aN)),some (.pd (.int (j:Nat))),some (.pd (.str a)),none] from rfl,cW]
    rfl
   show ao Γ iK τ=_
   rw [iK,aY,e0,bg,aY,e1]
   rfl
theorem Ji (hd:Dg 24 ds) : ∃ C,CG bX 4 C∧bB Γ 6 kM [.list ds] = .ok (ak C):=by
 obtain ⟨z,hz,lz⟩:=hX hd (k:=0) (by decide)
 have zl:z%5<5:=Nat.mod_lt _ (by decide)
 have rg:semi Γ (.r1 (.bin .mod (.ix (.var 0) (.int 0)) (.int 5))) (lcS ds [] none none) = .ok (rng 0 (z%5)):=by
  have iz:ixD (.list ds) (.int 0) = .ok (.int (z:Nat)):=by rw [jF (by decide)]; show opt (ds[0]?) id=_; rw [hz]; rfl
  have w:sem Γ (.bin .mod (.ix (.var 0) (.int 0)) (.int 5)) (lcS ds [] none none) = .ok (.int ((z%5:Nat):Int)):=by
   show (pur (ixD (.list ds) (.int 0))).bind (λx=>pur (bE .mod x (.int 5)))=_
   rw [iz,ew,Rs.ae,g_ (by decide)]
   show Rs.ok (PyData.int (((z:Nat):Int)%5))=_
   congr 2
  rw [BF,w,Rs.ae]
  show (if gU ((z%5:Nat):Int)=true then Rs.ok (rng 0 ((z%5:Nat):Int).toNat) else .bad)=_
  rw [if_pos (jA.mpr (by omega))]
  rfl
 obtain ⟨ρ',⟨C,x3,x4,hC,rfl⟩,lp⟩:=oS (Γ:=Γ) (t:=.nm 3) (ss:=iK) (λi ρ => ∃ C x3 x4,CG bX i C∧ρ=lcS ds C x3 x4) (ds:=rng 0 (z%5)) 0 (λi d ρ hd' hp=>by
  obtain ⟨C,x3,x4,hC,rfl⟩:=hp
  unfold rng at hd'
  rw [List.getElem?_map] at hd'
  by_cases hi:i<z%5
  ·rw [List.getElem?_range hi] at hd'
   cases hd'
   rw [dG] at hC ⊢
   obtain ⟨C',x4',h1,h2⟩:=Gu (Γ:=Γ) hd (by omega) hC x3 x4
   refine ⟨lcS ds C' (some (.pd (.int (i:Nat)))) x4',⟨C',_,x4',h1,rfl⟩,?_⟩
   show (bL (.nm 3) (.int (0+((i:Nat):Int))) _).seq _=_
   rw [show ((0:Int)+((i:Nat):Int))=((i:Nat):Int) by omega]
   exact h2
  ·rw [List.getElem?_eq_none (by rw [List.length_range]; omega)] at hd'
   cases hd') (lcS ds [] none none) ⟨[],none,none,⟨List.nodup_nil,aC _,by simp⟩,rfl⟩
 have ln:(rng 0 (z%5)).length=z%5:=by unfold rng; rw [aq,List.length_range]
 rw [ln,dG] at hC
 have lC:=hC.cl
 refine ⟨C,⟨hC.nd,by omega,hC.nm⟩,?_⟩
 have e0:exe Γ rW [some (.pd (.list ds)),none,none,none,none,none] = .nx [some (.pd (.list ds)),some (.pd fO),none,none,none,none]:=rfl
 have e1:exe Γ qO [some (.pd (.list ds)),some (.pd fO),none,none,none,none] = .nx (lcS ds [] none none):=rfl
 show out (ao Γ kM [some (.pd (.list ds)),none,none,none,none,none])=_
 rw [Li,aY,e0,bg,aY,e1,bg,aY,uo,f6,rg,cD,lp,bg,iY,gF,gF,t7 (by rw [aq]; omega)]
 rfl
end
theorem Nq:k_=(.cons o5 (.frz 4 (.cons oD (.cons uf (.cons zo .nil))))):=rfl
section
variable {Γ:Gs} {C:List (Str × Nat)} {p:Pl} {n dl:Nat}
noncomputable abbrev lpS (p:Pl) (C:List (Str × Nat)) (n dl:Nat) (x5 x7 x8 x9 x10:Option SV):Sto:=[some (.pd (au p)),some (.pd (ak C)),some (.pd (.int (n:Nat))),some (.pd (.int (dl:Nat))),some (.pd (.list ((ag C).map PyData.str))),x5,none,x7,x8,x9,x10]
theorem EY : ∀ {l:List Nat},(∀ k∈l,k<10)→l.length≤10→l.Pairwise (· < ·)→gv (.list (l.map λk => .int ((k:Nat):Int))) = .ok (l.map λk => .int ((k:Nat):Int)):=by
 intro l hl hn h
 have e:(l.map λk=>PyData.int ((k:Nat):Int))=(l.map λk=>((k:Nat):Int)).map PyData.int:=by rw [cz]; rfl
 have pw:(l.map λk=>((k:Nat):Int)).Pairwise (· < ·):=by
  rw [kF]
  exact h.imp λh=>by omega
 have nd:=pw
 rw [e,show (PyData.list ((l.map λk=>((k:Nat):Int)).map PyData.int))=n9 (l.map λk=>((k:Nat):Int)) from rfl,JM (by rw [aq]; omega) (Lg (lo:=0) (n:=10) (λx hx=>by
  obtain ⟨k,hk,rfl⟩:=fA.mp hx
  have:=hl k hk
  omega) (by decide)),show Bp _=_ from I_.mpr pw]
theorem GL (h:CG bX 5 C) (hn:n≤6) (ok:OkP aR dl (ag (av aL C)) n p) (tr : ∀ a∈ag C,aX Γ 96 [.str a] = .ok (.bool (aL a))):bB Γ 11 k_ [au p,ak C,.int (n:Nat),.int (dl:Nat)] = .ok (.bool true):=by
 have lp:=ok.len
 have l1:lcF (.tp [5,6]) [5,6] (semi Γ (.val (.var 1))) (aZ Γ .none) (sem Γ (.var 5)) [some (.pd (au p)),some (.pd (ak C)),some (.pd (.int (n:Nat))),some (.pd (.int (dl:Nat))),none,none,none,none,none,none,none] = .ok ((ag C).map PyData.str):=by
  unfold ag
  rw [gr,cz]
  exact gi (ι:=aN) (f:=λp:Str × Nat=>PyData.str p.1) (l:=C) rfl (by have:=h.cl; omega) λp _=>⟨_,rfl,rfl⟩
 have e0:exe Γ o5 [some (.pd (au p)),some (.pd (ak C)),some (.pd (.int (n:Nat))),some (.pd (.int (dl:Nat))),none,none,none,none,none,none,none] = .nx [some (.pd (au p)),some (.pd (ak C)),some (.pd (.int (n:Nat))),some (.pd (.int (dl:Nat))),some (.own ((ag C).map PyData.str)),none,none,none,none,none,none]:=by
  rw [o5,qZ,l1]; rfl
 have lN:(ag C).length≤5:=by unfold ag; rw [aq]; exact h.cl
 have fz:frz 4 [some (.pd (au p)),some (.pd (ak C)),some (.pd (.int (n:Nat))),some (.pd (.int (dl:Nat))),some (.own ((ag C).map PyData.str)),none,none,none,none,none,none]=lpS p C n dl none none none none none:=by
  rw [gF,gF,gF,gF,t7 (by rw [aq]; omega)]
 have l2:sem Γ (.lc (.tp [7,5]) [7,5] (.val (.var 0)) .none (.var 7)) (lpS p C n dl none none none none none) = .ok (.list ((p.map (·.1)).map λk => .int ((k:Nat):Int))):=by
  have:lcF (.tp [7,5]) [7,5] (semi Γ (.val (.var 0))) (aZ Γ .none) (sem Γ (.var 7)) (lpS p C n dl none none none none none) = .ok ((p.map (·.1)).map λk => .int ((k:Nat):Int)):=by
   rw [gr,cz]
   exact gi (ι:=cZ) (f:=λe:Nat × Str=>PyData.int ((e.1:Nat):Int)) (l:=p) rfl (by omega) λp _=>⟨_,rfl,rfl⟩
  rw [iM,this]; rfl
 have e1:exe Γ oD (lpS p C n dl none none none none none) = .nx (lpS p C n dl none none none none none):=by
  have pl:Pf.plain (.list ((p.map (·.1)).map λk => .int ((k:Nat):Int)))=true:=by
   obtain ⟨h1,h2⟩:=tR (p.map (·.1))
   unfold Pf.plain
   simp only [PyData.hasDict,PyData.depth,h1,h2]
   rfl
  have c:sem Γ (.cmp .ne (.ex (.lc (.tp [7,5]) [7,5] (.val (.var 0)) .none (.var 7))) (.ex (.op .srtSet (.cons (.lc (.tp [7,5]) [7,5] (.val (.var 0)) .none (.var 7)) .nil)))) (lpS p C n dl none none none none none) = .ok (.bool false):=by
   rw [e6,cQ,cQ,KQ,l2,Rs.ae,Rs.ae,EY (λk hk=>by
     obtain ⟨e,he,rfl⟩:=fA.mp hk
     have:=(ok.all e he).1
     omega) (by rw [aq]; omega) ok.asc,Rs.ae,Rs.ae,ne_self pl]
   rfl
  rw [oD,d6,c]; rfl
 have loop:=oS (Γ:=Γ) (t:=.ns 8 [7,5]) (ss:=nV) (λ_ ρ => ∃ x5 x7 x8 x9 x10,ρ=lpS p C n dl x5 x7 x8 x9 x10) (ds:=cN 0 (a_ p)) 0 (λi d ρ hd g=>by
  obtain ⟨x5,x7,x8,x9,x10,rfl⟩:=g
  have hi:i<p.length:=by
   have:=(List.getElem?_eq_some_iff.mp hd).1
   rw [Pf.iR] at this
   unfold a_ at this
   rw [aq] at this
   exact this
  have hp:(a_ p)[i]? = some (cZ p[i]):=by unfold a_; rw [List.getElem?_map,List.getElem?_eq_getElem hi]; rfl
  have:=kJ (k:=0) hp
  rw [this,dG] at hd
  cases hd
  have hm:=ok.all _ (List.getElem_mem hi)
  generalize he:p[i]=e at *
  have hN:e.2∈ag C:=good_mem hm.2
  have hT:aL e.2=false:=(mV.mp hm.2).2
  let τ:Sto:=lpS p C n dl (some (.pd (.str e.2))) (some (.pd (.int (e.1:Nat)))) (some (.pd (.int (i:Nat)))) x9 x10
  have c0:sem Γ (.or (.not (.ch .le .lt (.ex (.int 0)) (.ex (.var 7)) (.ex (.var 2)))) (.or (.cmp .nin (.ex (.var 5)) (.ex (.var 4))) (.call 96 (.cons (.var 5) .nil)))) τ = .ok (.bool false):=by
   have c1:sem Γ (.not (.ch .le .lt (.ex (.int 0)) (.ex (.var 7)) (.ex (.var 2)))) τ = .ok (.bool false):=by
    show ((toB ((Rs.ok (decide ((0:Int)≤(e.1:Nat)))).bind λk=>if k=true then (Rs.ok (decide (((e.1:Nat):Int)<(n:Nat))):Rs Bool) else .ok false)).bind asB).bind (λb=>Rs.ok (PyData.bool (!b)))=_
    rw [Rs.ae,cb (show (0:Int)≤(e.1:Nat) by omega),if_pos rfl,cb (show ((e.1:Nat):Int)<(n:Nat) by have:=hm.1; omega)]
    rfl
   have c2:sem Γ (.cmp .nin (.ex (.var 5)) (.ex (.var 4))) τ = .ok (.bool false):=by
    show pur (toB (aW .nin (.str e.2) (.list ((ag C).map PyData.str))))=_
    rw [uc,cb hN]; rfl
   have c3:sem Γ (.call 96 (.cons (.var 5) .nil)) τ = .ok (.bool false):=by
    show aX Γ 96 [.str e.2]=_
    rw [tr _ hN,hT]
   rw [gB,c1,Rs.ae,dw,Rs.ae,if_neg aa,gB,c2,Rs.ae,dw,Rs.ae,if_neg aa,c3]
  have e0:exe Γ qT τ = .nx τ:=by rw [qT,d6,c0]; rfl
  have it:semi Γ (.val (.sl (.var 0) .none (.some (.var 8)))) τ = .ok ((p.take i).map cZ):=by
   show (pur (slD (au p) none (some ((i:Nat):Int)))).bind fN=_
   unfold au
   rw [o4 (by omega)]
   show Rs.ok ((a_ p).take i)=_
   unfold a_
   rw [kD]
  have inner:=qu (Γ:=Γ) (t:=.tp [9,10]) (ss:=mY) (good:=λρ => ∃ x9 x10,ρ=lpS p C n dl (some (.pd (.str e.2))) (some (.pd (.int (e.1:Nat)))) (some (.pd (.int (i:Nat)))) x9 x10) (ds:=(p.take i).map cZ) (λd hd ρ g=>by
   obtain ⟨x9,x10,rfl⟩:=g
   obtain ⟨f,hf,rfl⟩:=fA.mp hd
   have hfp:f∈p:=j7 hf
   have fM:f.2∈bX:=h.nam (good_mem (ok.all f hfp).2)
   have eM:e.2∈bX:=h.nam hN
   have pw:f.1<e.1∧f.2≠e.2∧(aR f.2=aR e.2→f.1+dl≤e.1):=by
    have:=ok.pw
    rw [← List.take_append_drop i p,List.pairwise_append] at this
    refine this.2.2 f hf e ?_
    rw [← he,fu hi]
    exact bu
   let υ:Sto:=lpS p C n dl (some (.pd (.str e.2))) (some (.pd (.int (e.1:Nat)))) (some (.pd (.int (i:Nat)))) (some (.pd (.int (f.1:Nat)))) (some (.pd (.str f.2)))
   have c:sem Γ (.or (.cmp .eq (.ex (.var 10)) (.ex (.var 5))) (.and (.cmp .eq (.ex (.ix (.var 10) (.int 0))) (.ex (.ix (.var 5) (.int 0)))) (.cmp .lt (.ex (.bin .sub (.var 7) (.var 9))) (.ex (.var 3))))) υ = .ok (.bool false):=by
    have c1:sem Γ (.cmp .eq (.ex (.var 10)) (.ex (.var 5))) υ = .ok (.bool false):=by
     show pur (toB (aW .eq (.str f.2) (.str e.2)))=_
     rw [nA,beq_dec,cT pw.2.1]; rfl
    have c2:sem Γ (.cmp .eq (.ex (.ix (.var 10) (.int 0))) (.ex (.ix (.var 5) (.int 0)))) υ = .ok (.bool (decide (aR f.2=aR e.2))):=by
     show (pur (ixD (.str f.2) (.int 0))).bind (λx=>(pur (ixD (.str e.2) (.int 0))).bind λy=>pur (toB (aW .eq x y)))=_
     rw [pE fM,pE eM,ew,ew,Rs.ae,Rs.ae,nA,beq_dec]; rfl
    have c3:sem Γ (.cmp .lt (.ex (.bin .sub (.var 7) (.var 9))) (.ex (.var 3))) υ = .ok (.bool (decide (((e.1:Nat):Int)-(f.1:Nat)<(dl:Nat)))):=rfl
    rw [gB,c1,Rs.ae,dw,Rs.ae,if_neg aa,lY,c2,Rs.ae,dw,Rs.ae]
    by_cases q:aR f.2=aR e.2
    ·rw [cb q,if_pos rfl,c3,cT (by have:=pw.2.2 q; omega)]
    ·rw [cT q]; rfl
   refine ⟨υ,⟨_,_,rfl⟩,?_⟩
   show ao Γ mY υ=_
   rw [mY,aY,zT,d6,c]
   rfl) τ ⟨x9,x10,rfl⟩
  obtain ⟨ρ',⟨y9,y10,rfl⟩,e1⟩:=inner
  refine ⟨lpS p C n dl (some (.pd (.str e.2))) (some (.pd (.int (e.1:Nat)))) (some (.pd (.int (i:Nat)))) y9 y10,⟨_,_,_,_,_,rfl⟩,?_⟩
  show ao Γ nV τ=_
  rw [nV,aY,e0,bg,aY,zt,f6,it,cD,e1]
  rfl) (lpS p C n dl none none none none none) ⟨_,_,_,_,_,rfl⟩
 obtain ⟨ρ',_,loop⟩:=loop
 have it:semi Γ (.enum (.var 0)) (lpS p C n dl none none none none none) = .ok (cN 0 (a_ p)):=rfl
 show out (ao Γ k_ [some (.pd (au p)),some (.pd (ak C)),some (.pd (.int (n:Nat))),some (.pd (.int (dl:Nat))),none,none,none,none,none,none,none])=_
 rw [Nq,aY,e0,bg,iY,fz,aY,e1,bg,aY,uf,f6,it,cD,loop]
 rfl
end
end K91

set_option maxRecDepth 1000000
set_option maxHeartbeats 4000000
namespace K91
open PySem PySem.Spec L2 Pf V9 Ax
theorem DF:lA=(.cons mQ (.cons wj .nil)):=rfl
structure Calls (Γ:Gs):Prop where
 nums : ∀ c k:Int,0≤k→k≤1000 → ∃ ds,aX Γ 1138 [.int c,.int (9100+k),.list (List.replicate 24 (.int 420))] = .ok (.list ds)∧Dg 24 ds
 cand : ∀ ds,Dg 24 ds → ∃ C,CG bX 4 C∧aX Γ 1027 [.list ds] = .ok (ak C)
 plan : ∀ (C:List (Str × Nat)) (n dl:Nat),CG c9 5 C→n≤6→dl≤6→aX Γ 101 [ak C,.int (n:Nat),.int (dl:Nat)] = .ok (au (best aR aL C n dl))
 wrt : ∀ (C:List (Str × Nat)) (n dl:Nat),CG c9 5 C→n≤6→aX Γ 1231 [au (best aR aL C n dl),ak C] = .ok (.int ((cg aR aL C n dl:Nat):Int))
 poss : ∀ (C:List (Str × Nat)) (n dl:Nat),CG bX 5 C→n≤6→aX Γ 1099 [au (best aR aL C n dl),ak C,.int (n:Nat),.int (dl:Nat)] = .ok (.bool true)
 tr : ∀ a∈c9,aX Γ 96 [.str a] = .ok (.bool (aL a))
theorem CG.more {M M':List Str} {k k':Nat} {C:List (Str × Nat)} (h:CG M k C) (hM : ∀ a∈M,a∈M') (hk:k≤k'):CG M' k' C:=⟨h.nd,aF h.cl hk,λp hp=>⟨hM _ (h.nm p hp).1,(h.nm p hp).2⟩⟩
theorem nO : ∀ a∈bX,a∈c9:=λa h=>aE _ h
section
variable {Γ:Gs} {C:List (Str × Nat)} {n dl:Nat} {ρ:Sto}
theorem iH (K:Calls Γ) (h:CG c9 5 C) (hn:n≤6) (hd:dl≤6) {a b c:E} (ea:sem Γ a ρ = .ok (ak C)) (eb:sem Γ b ρ = .ok (.int (n:Nat))) (ec:sem Γ c ρ = .ok (.int (dl:Nat))) :
  sem Γ (.call 1231 (.cons (.call 101 (.cons a (.cons b (.cons c .nil)))) (.cons a .nil))) ρ = .ok (.int ((cg aR aL C n dl:Nat):Int)):=by
 have e1:sem Γ (.call 101 (.cons a (.cons b (.cons c .nil)))) ρ = .ok (au (best aR aL C n dl)):=by
  rw [s_call,aU,ea,Rs.ae,aU,eb,Rs.ae,aU,ec,Rs.ae,b8]
  exact K.plan C n dl h hn hd
 rw [s_call,aU,e1,Rs.ae,aU,ea,Rs.ae,b8]
 exact K.wrt C n dl h hn
theorem EJ:mH (ak C) = .ok (ak C.reverse):=by
 show Rs.ok (PyData.list (C.map aN).reverse)=_
 rw [← List.map_reverse]
 rfl
noncomputable def raise (r:Nat) (C:List (Str × Nat)):List (Str × Nat):=C.map λp=>(p.1,min 99 (p.2+r))
theorem xy {r:Nat}:ag (raise r C)=ag C:=by
 unfold ag raise
 rw [cz]
 rfl
theorem wx {r k:Nat} {M:List Str} (h:CG M k C):CG M k (raise r C):=by
 refine ⟨by rw [xy]; exact h.nd,by unfold raise; rw [aq]; exact h.cl,λp hp => ?_⟩
 unfold raise at hp
 obtain ⟨q,hq,rfl⟩:=fA.mp hp
 have:=h.nm q hq
 refine ⟨this.1,?_,?_⟩
 ·show 1≤min 99 (q.2+r); omega
 ·show min 99 (q.2+r)≤99; omega
theorem Ip {r:Nat} {M:List Str} {k:Nat} (h:CG M k C) {a:Str} (ha:a∈ag C):bC C a≤bC (raise r C) a:=by
 unfold ag at ha
 obtain ⟨p,hp,rfl⟩:=fA.mp ha
 rw [fP h.nd hp,fP (C:=raise r C) (p:=(p.1,min 99 (p.2+r))) (wx h).nd (fA.mpr ⟨p,hp,rfl⟩)]
 have:=(h.nm p hp).2.2
 show p.2≤min 99 (p.2+r)
 omega
theorem yB {C':List (Str × Nat)} (h : ∀ a∈ag C,a∈ag C') {a:Str} (ha:a∈ag (av aL C)):a∈ag (av aL C'):=mV.mpr ⟨h a (mV.mp ha).1,(mV.mp ha).2⟩
theorem w_ {k:Nat} (h:CG bX 4 C) (h1:1≤k) (h2:k≤99):CG c9 5 (C++[(("far" : Str),k)]):=by
 have nf:("far" : Str)∉bX:=by decide
 refine ⟨?_,by rw [cx]; have:=h.cl; simp; omega,λp hp => ?_⟩
 ·unfold ag
  rw [cW,List.nodup_append]
  refine ⟨h.nd,by simp,λx hx y hy z=>nf ?_⟩
  simp at hy
  rw [← hy,← z]
  exact h.nam hx
 ·rcases j6.mp hp with hp | hp
  ·exact ⟨nO _ (h.nm p hp).1,(h.nm p hp).2⟩
  ·rw [c7] at hp
   subst hp
   exact ⟨bu,h1,h2⟩
theorem Og {k:Nat} (h:CG bX 4 C) (h1:1≤k) (h2:k≤99) {a:Str} (ha:a∈ag C):bC C a=bC (C++[(("far" : Str),k)]) a:=by
 unfold ag at ha
 obtain ⟨p,hp,rfl⟩:=fA.mp ha
 rw [fP h.nd hp,fP (C:=C++[(("far" : Str),k)]) (p:=p) (w_ h h1 h2).nd (dh _ hp)]
noncomputable def c_:Nat→List (Str × Nat)→List (Nat × (Str × Nat))
 | _,[]=>[]
 | i,p::r=>(i,p)::c_ (i+1) r
noncomputable def apB (C:List (Str × Nat)) (e:Nat × (Str × Nat)):Bool:=!decide (aR e.2.1∈(C.take e.1).map λq=>aR q.1)
noncomputable def apI (e:Nat × (Str × Nat)):D:=.tuple [.int (e.1:Nat),aN e.2]
noncomputable def apF (e:Nat × (Str × Nat)):D:=aN e.2
noncomputable def apC (C:List (Str × Nat)):List (Str × Nat):=((c_ 0 C).filter (apB C)).map (·.2)
theorem rZ : ∀ (i:Nat) (C:List (Str × Nat)),(c_ i C).map (·.2)=C
 | _,[]=>rfl
 | i,p::r=>by
  unfold c_
  rw [aI,rZ (i+1) r]
theorem t6:(apC C).Sublist C:=by
 have:(apC C).Sublist ((c_ 0 C).map (·.2)):=List.filter_sublist.map _
 rwa [rZ] at this
theorem mh : ∀ {i:Nat} {C:List (Str × Nat)} {e:Nat × (Str × Nat)},e∈c_ i C→i≤e.1∧C[e.1-i]? = some e.2
 | _,[],_,h=>by cases h
 | i,p::r,e,h=>by
  unfold c_ at h
  rcases cG.mp h with rfl | h
  ·exact ⟨aC _,by simp⟩
  ·obtain ⟨h1,h2⟩:=mh h
   refine ⟨by omega,?_⟩
   rw [show e.1-i=(e.1-(i+1))+1 by omega,List.getElem?_cons_succ]
   exact h2
theorem zK : ∀ {i:Nat} {C:List (Str × Nat)},(c_ i C).Pairwise λa b=>a.1<b.1
 | _,[]=>List.Pairwise.nil
 | i,p::r=>by
  unfold c_
  refine List.Pairwise.cons (λe he => ?_) zK
  have:=(mh he).1
  show i<e.1
  omega
theorem JO : ∀ a∈ag (apC C),∀ b∈ag (apC C),aR a=aR b→a=b:=by
 have pw:(apC C).Pairwise λp q=>aR p.1≠aR q.1:=by
  unfold apC
  rw [kF]
  refine ((zK (i:=0) (C:=C)).filter _).imp_of_mem λ{a b} ha hb lt => ?_
  obtain ⟨ha1,ha2⟩:=List.mem_filter.mp ha
  obtain ⟨hb1,hb2⟩:=List.mem_filter.mp hb
  obtain ⟨_,ea⟩:=mh ha1
  obtain ⟨_,eb⟩:=mh hb1
  unfold apB at hb2
  simp only [Bool.not_eq_true',decide_eq_false_iff_not] at hb2
  intro z
  refine hb2 (fA.mpr ⟨a.2,?_,z⟩)
  rw [Nat.sub_zero] at ea
  have:(C.take b.1)[a.1]? = some a.2:=by rw [List.getElem?_take,if_pos lt]; exact ea
  exact eA this
 intro a ha b hb e
 unfold ag at ha hb
 obtain ⟨p,hp,rfl⟩:=fA.mp ha
 obtain ⟨q,hq,rfl⟩:=fA.mp hb
 obtain ⟨i,hi,rfl⟩:=List.mem_iff_getElem.mp hp
 obtain ⟨j,hj,rfl⟩:=List.mem_iff_getElem.mp hq
 rw [List.pairwise_iff_getElem] at pw
 rcases Nat.lt_trichotomy i j with q | q | q
 ·exact absurd e (pw i j hi hj q)
 ·subst q; rfl
 ·exact absurd e.symm (pw j i hj hi q)
theorem Nv {M:List Str} {k:Nat} (h:CG M k C):CG M k (apC C):=⟨h.nd.sublist (t6.map _),aF t6.length_le h.cl,λp hp=>h.nm p (t6.subset hp)⟩
theorem wL : ∀ {i:Nat} {C:List (Str × Nat)},cN i (C.map aN)=(c_ i C).map apI
 | _,[]=>rfl
 | i,p::r=>by
  unfold c_
  rw [aI,aI]
  show _::cN (i+1) (r.map aN)=_
  rw [wL]
  rfl
set_option maxHeartbeats 400000 in
theorem GP (h:CG bX 4 C) (l:ρ.length=20) (e4:a9 ρ 4 = .ok (ak C)):lcF (.tp [17,18]) [17,18] (semi Γ (.enum (.var 4))) (aZ Γ (.some nN)) (sem Γ (.var 18)) ρ = .ok ((apC C).map aN):=by
 have ed:(apC C).map aN=((c_ 0 C).filter (apB C)).map apF:=by
  unfold apC
  rw [cz]
  rfl
 rw [ed]
 clear ed
 have it:semi Γ (.enum (.var 4)) ρ = .ok ((c_ 0 C).map apI):=by
  rw [wW,aA,e4,Rs.ae,← wL]
  exact (rfl:lT (.list (C.map aN)) = .ok (cN 0 (C.map aN)))
 have lC:=h.cl
 have le:(c_ 0 C).length=C.length:=by rw [← bF List.length (rZ 0 C),aq]
 have hl:(c_ 0 C).length≤1000000:=by rw [le]; omega
 refine qm (ι:=apI) (p:=apB C) (f:=apF) (l:=c_ 0 C) it hl ?_
 intro e he
 refine ⟨((aJ ρ [17,18]).set 17 (some (.pd (.int (e.1:Nat))))).set 18 (some (.pd (aN e.2))),?_,?_,λ_ => ?_⟩
 ·exact lI
 ·obtain ⟨_,ee⟩:=mh he
  have eM:e.2.1∈bX:=(h.nm e.2 (eA ee)).1
  generalize hσ:((aJ ρ [17,18]).set 17 (some (.pd (.int (e.1:Nat))))).set 18 (some (.pd (aN e.2)))=σ
  have lw:(aJ ρ [17,18]).length=20:=by rw [cL,cL,eC,b7,b7]; exact l
  have g4:a9 σ 4 = .ok (ak C):=by
   rw [← hσ,gsP,if_neg (by decide),gsP,if_neg (by decide),cL,cL,eC,gsP,if_neg (by decide),gsP,if_neg (by decide)]; exact e4
  have g17:a9 σ 17 = .ok (.int (e.1:Nat)):=by
   rw [← hσ,gsP,if_neg (by decide),gsP,if_pos rfl,if_pos (by omega)]; rfl
  have g18:a9 σ 18 = .ok (aN e.2):=by
   rw [← hσ,gsP,if_pos rfl,if_pos (by rw [b7]; omega)]; rfl
  have lσ:σ.length=20:=by rw [← hσ,b7,b7]; exact lw
  have f1:sem Γ (.ix (.ix (.var 18) (.int 0)) (.int 0)) σ = .ok (.str (aR e.2.1)):=by
   have a:sem Γ (.ix (.var 18) (.int 0)) σ = .ok (.str e.2.1):=by rw [eH,aA,g18]; rfl
   rw [eH,a,Rs.ae,cJ,Rs.ae,pE eM]; rfl
  have sl:semi Γ (.val (.sl (.var 4) .none (.some (.var 17)))) σ = .ok ((C.take e.1).map aN):=by
   rw [oC,rE,aA,g4,Rs.ae,rK,Rs.ae,ri,aA,g17]
   show (pur (slD (ak C) none (some ((e.1:Nat):Int)))).bind fN=_
   unfold ak
   rw [o4 (by omega)]
   show Rs.ok ((C.map aN).take e.1)=_
   rw [kD]
  have l2:lcF (.nm 19) [19] (semi Γ (.val (.sl (.var 4) .none (.some (.var 17))))) (aZ Γ .none) (sem Γ (.ix (.ix (.var 19) (.int 0)) (.int 0))) σ = .ok (((C.take e.1).map λq=>aR q.1).map PyData.str):=by
   rw [cz]
   refine Kz (ι:=aN) (f:=λq:Str × Nat=>PyData.str (aR q.1)) (L:=C.take e.1) sl (by rw [ez]; omega) (by omega) λq hq τ _ g19 _ => ?_
   have a:sem Γ (.ix (.var 19) (.int 0)) τ = .ok (.str q.1):=by rw [eH,aA,g19]; rfl
   rw [eH,a,Rs.ae,cJ,Rs.ae,pE (h.nm q (j7 hq)).1]; rfl
  have c:sem Γ nN σ = .ok (.bool (apB C e)):=by
   unfold nN
   rw [e6,cQ,f1,Rs.ae,cQ,iM,l2]
   show pur (toB (aW .nin _ _))=_
   rw [uc]; rfl
  rw [vo,c]
  rfl
 ·rw [aA,gsP,if_pos rfl,if_pos (by rw [b7,cL,cL,eC,b7,b7]; omega)]
  rfl
end
end K91

set_option maxRecDepth 1000000
set_option maxHeartbeats 4000000
namespace K91
open PySem PySem.Spec L2 Pf V9 Ax
section
variable {Γ:Gs} {C:List (Str × Nat)} {n dl:Nat}
theorem Ny (a b c d w:Nat) (h1:w≤a) (h2:w≤b) (h3:w≤c) (h4:w≤d) : ∃ m:Nat,w≤m∧biD .min1 [.list [.int (a:Nat),.int (b:Nat),.int (c:Nat),.int (d:Nat)]] = .ok (.int ((m:Nat):Int)):=by
 refine ⟨min (min (min a b) c) d,by omega,?_⟩
 have:=Iz (n:=(a:Int)) (ns:=[(b:Int),(c:Int),(d:Int)])
 refine Eq.trans this ?_
 show Rs.ok (PyData.int (min (min (min (min (a:Int) a) b) c) d))=_
 congr 2
 omega
theorem I8 (σ:Sto) (l:σ.length=20) (h:C.length≤5) (e4:a9 σ 4 = .ok (ak C)):sem Γ (.lc (.tp [11,12]) [11,12] (.val (.var 4)) .none (.var 12)) σ = .ok (.list ((C.map (·.2)).map λk => .int ((k:Nat):Int))):=by
 have:lcF (.tp [11,12]) [11,12] (semi Γ (.val (.var 4))) (aZ Γ .none) (sem Γ (.var 12)) σ = .ok ((C.map (·.2)).map λk => .int ((k:Nat):Int)):=by
  rw [gr,cz]
  refine gi (ι:=aN) (f:=λp:Str × Nat=>PyData.int ((p.2:Nat):Int)) (l:=C) (by rw [oC,aA,e4]; rfl) (by omega) λp _=>⟨((aJ σ [11,12]).set 11 (some (.pd (.str p.1)))).set 12 (some (.pd (.int (p.2:Nat)))),lI,?_⟩
  rw [aA,gsP,if_pos rfl,if_pos (by rw [b7,cL,cL,eC,b7,b7]; omega)]
  rfl
 rw [iM,this]; rfl
theorem Ho (tr : ∀ a∈ag C,aX Γ 96 [.str a] = .ok (.bool (aL a))) (σ:Sto) (l:σ.length=20) (h:C.length≤5) (e4:a9 σ 4 = .ok (ak C)):sem Γ (.lc (.tp [11,12]) [11,12] (.val (.var 4)) (.some (.not (.call 96 (.cons (.var 11) .nil)))) (.var 12)) σ = .ok (.list (((av aL C).map (·.2)).map λk => .int ((k:Nat):Int))):=by
 have:lcF (.tp [11,12]) [11,12] (semi Γ (.val (.var 4))) (aZ Γ (.some (.not (.call 96 (.cons (.var 11) .nil))))) (sem Γ (.var 12)) σ = .ok (((av aL C).map (·.2)).map λk => .int ((k:Nat):Int)):=by
  rw [cz]
  unfold av
  refine qm (ι:=aN) (p:=λp:Str × Nat => !aL p.1) (f:=λp:Str × Nat=>PyData.int ((p.2:Nat):Int)) (l:=C) (by rw [oC,aA,e4]; rfl) (by omega) λp hp=>⟨((aJ σ [11,12]).set 11 (some (.pd (.str p.1)))).set 12 (some (.pd (.int (p.2:Nat)))),lI,?_,λ_ => ?_⟩
  ·have g:a9 (((aJ σ [11,12]).set 11 (some (.pd (.str p.1)))).set 12 (some (.pd (.int (p.2:Nat))))) 11 = .ok (.str p.1):=by
    rw [gsP,if_neg (by decide),gsP,if_pos rfl,if_pos (by rw [cL,cL,eC,b7,b7]; omega)]; rfl
   rw [vo,qH,s_call,aU,aA,g,Rs.ae,b8,Rs.ae,Rs.ae,tr _ (fA.mpr ⟨p,hp,rfl⟩)]
   rfl
  ·rw [aA,gsP,if_pos rfl,if_pos (by rw [b7,cL,cL,eC,b7,b7]; omega)]
   rfl
 rw [iM,this]; rfl
theorem raises (r:Nat) (σ:Sto) (l:σ.length=20) (h:C.length≤5) (e4:a9 σ 4 = .ok (ak C)) (e3:sem Γ (.bin .mod (.ix (.var 3) (.int 15)) (.int 50)) σ = .ok (.int (r:Nat))) (ds:List D) (g3:a9 σ 3 = .ok (.list ds)) (hx:pur (ixD (.list ds) (.int 15)) = .ok (.int (r:Nat)) ∨ ∃ u:Nat,ixD (.list ds) (.int 15) = .ok (.int (u:Nat))∧r=u%50) :
  lcF (.tp [11,12]) [11,12] (semi Γ (.val (.var 4))) (aZ Γ .none) (sem Γ (.tup (.cons (.var 11) (.cons (.bi .min2 (.cons (.int 99) (.cons (.bin .add (.var 12) (.bin .mod (.ix (.var 3) (.int 15)) (.int 50))) .nil))) .nil)))) σ = .ok ((raise r C).map aN):=by
 unfold raise
 rw [gr,cz]
 refine gi (ι:=aN) (f:=λp:Str × Nat=>aN (p.1,min 99 (p.2+r))) (l:=C) (by rw [oC,aA,e4]; rfl) (by omega) λp _=>⟨((aJ σ [11,12]).set 11 (some (.pd (.str p.1)))).set 12 (some (.pd (.int (p.2:Nat)))),lI,?_⟩
 generalize hτ:((aJ σ [11,12]).set 11 (some (.pd (.str p.1)))).set 12 (some (.pd (.int (p.2:Nat))))=τ
 have lw:(aJ σ [11,12]).length=20:=by rw [cL,cL,eC,b7,b7]; exact l
 have g11:a9 τ 11 = .ok (.str p.1):=by rw [← hτ,gsP,if_neg (by decide),gsP,if_pos rfl,if_pos (by omega)]; rfl
 have g12:a9 τ 12 = .ok (.int (p.2:Nat)):=by rw [← hτ,gsP,if_pos rfl,if_pos (by rw [b7]; omega)]; rfl
 have g3':a9 τ 3 = .ok (.list ds):=by rw [← hτ,gsP,if_neg (by decide),gsP,if_neg (by decide),cL,cL,eC,gsP,if_neg (by decide),gsP,if_neg (by decide)]; exact g3
 have m:sem Γ (.bin .mod (.ix (.var 3) (.int 15)) (.int 50)) τ = .ok (.int (r:Nat)):=by
  have e:sem Γ (.bin .mod (.ix (.var 3) (.int 15)) (.int 50)) τ=sem Γ (.bin .mod (.ix (.var 3) (.int 15)) (.int 50)) σ:=by
   rw [dE,eH,aA,g3',dE,eH,aA,g3]
   rfl
  rw [e]; exact e3
 have a:sem Γ (.bin .add (.var 12) (.bin .mod (.ix (.var 3) (.int 15)) (.int 50))) τ = .ok (.int ((p.2+r:Nat):Int)):=by
  rw [dE,m,aA,g12]
  rfl
 have b:sem Γ (.bi .min2 (.cons (.int 99) (.cons (.bin .add (.var 12) (.bin .mod (.ix (.var 3) (.int 15)) (.int 50))) .nil))) τ = .ok (.int ((min 99 (p.2+r):Nat):Int)):=by
  rw [gT,aU,cJ,Rs.ae,aU,a,Rs.ae,b8]
  have mm:biD .min2 [.int 99,.int ((p.2+r:Nat):Int)] = .ok (.int (if ((p.2+r:Nat):Int)<99 then ((p.2+r:Nat):Int) else 99)):=rfl
  show pur (biD .min2 [.int 99,.int ((p.2+r:Nat):Int)])=_
  rw [mm]
  show Rs.ok (PyData.int _)=Rs.ok (PyData.int _)
  congr 2
  split <;> omega
 rw [n8,aU,aA,g11,Rs.ae,aU,b]
 rfl
noncomputable def lwC:Ss:=(.cons oW (.cons nW (.cons nQ (.cons mL (.frz 16 (.cons oo .nil))))))
noncomputable def lwB:Ss:=(.cons pD (.frz 13 (.cons nS (.frz 13 (.cons mG (.cons nH (.frz 13 lwC)))))))
noncomputable def lwA:Ss:=(.cons mZ (.cons ou (.cons mI (.cons ph (.cons nL (.frz 10 lwB))))))
theorem JN:lD = .cons m_ (.cons nR (.cons oH lwA)):=rfl
theorem N0 (K:Calls Γ) {M:List D} {m:Nat} (hC:CG bX 4 C) (hn4:n≤4) {φ:Sto} (K13:Kp 20 [(13,.list M),(8,.int ((cg aR aL C n dl:Nat):Int)),(5,.int (n:Nat)),(4,ak C)] φ) (hm:cg aR aL C n dl≤m) (em:biD .min1 [.list M] = .ok (.int ((m:Nat):Int))) :
  ∃ ρ',Kp 20 [] ρ'∧ao Γ lwC φ = .nx ρ':=by
 have C5:CG c9 5 C:=hC.more nO (by decide)
 have hl:=hC.cl
 have p13:=K13.get (i:=13) (d:=.list M) (by simp)
 have p8:=K13.get (i:=8) (d:=.int ((cg aR aL C n dl:Nat):Int)) (by simp)
 have p5:=K13.get (i:=5) (d:=.int (n:Nat)) (by simp)
 have p4:=K13.get (i:=4) (d:=ak C) (by simp)
 have e_lw_0b12:exe Γ oW φ = .nx φ:=by
  have c1:sem Γ (.cmp .lt (.ex (.bi .min1 (.cons (.var 13) .nil))) (.ex (.var 8))) φ = .ok (.bool false):=by
   rw [e6,cQ,cQ,gT,aU,aA,p13,Rs.ae,b8,Rs.ae,Rs.ae,em,ew,Rs.ae,aA,p8,Rs.ae,K2,cT (by omega)]
   rfl
  have c2:sem Γ (.cmp .gt (.ex (.var 8)) (.ex (.bi .sum (.cons (.lc (.tp [11,12]) [11,12] (.val (.var 4)) .none (.var 12)) .nil)))) φ = .ok (.bool false):=by
   have:=Ek (host:=aR) (trap:=aL) (n:=n) (dl:=dl) hC.nd
   rw [e6,cQ,cQ,aA,p8,Rs.ae,gT,aU,I8 φ K13.1 (by omega) p4,Rs.ae,b8,Rs.ae,Rs.ae,pB,ew,Rs.ae,BY,cT (by omega)]
   rfl
  rw [oW,d6,gB,c1,Rs.ae,dw,Rs.ae,if_neg aa,c2]
  rfl
 have e_lw_0b13:exe Γ nW φ = .nx (φ.set 14 (some (.pd (PyData.list (((((av aL C).map (·.2)).mergeSort λa b=>decide (a≤b)).reverse).map λk=>PyData.int ((k:Nat):Int)))))):=by
  have tr : ∀ a∈ag C,aX Γ 96 [.str a] = .ok (.bool (aL a)):=λa ha=>K.tr a (C5.nam ha)
  rw [nW,eW,zy,gT,aU,Ho tr φ K13.1 (by omega) p4,Rs.ae,b8,Rs.ae,Rs.ae,NH,ew,Rs.ae]
  show Out.ofR (Rs.ok (PyData.list ((((av aL C).map (·.2)).mergeSort λa b=>decide (a≤b)).map λk=>PyData.int ((k:Nat):Int)).reverse)) _ _=_
  rw [cD,← List.map_reverse,jN]
 have K1_:Kp 20 ((14,PyData.list (((((av aL C).map (·.2)).mergeSort λa b=>decide (a≤b)).reverse).map λk=>PyData.int ((k:Nat):Int)))::[(13,.list M),(8,.int ((cg aR aL C n dl:Nat):Int)),(5,.int (n:Nat)),(4,ak C)]) (φ.set 14 (some (.pd (PyData.list (((((av aL C).map (·.2)).mergeSort λa b=>decide (a≤b)).reverse).map λk=>PyData.int ((k:Nat):Int)))))):=K13.put (i:=14) (by rfl) (by decide)
 generalize hS1:φ.set 14 (some (.pd (PyData.list (((((av aL C).map (·.2)).mergeSort λa b=>decide (a≤b)).reverse).map λk=>PyData.int ((k:Nat):Int)))))=σ1 at *
 have p14:=K1_.get (i:=14) (d:=PyData.list (((((av aL C).map (·.2)).mergeSort λa b=>decide (a≤b)).reverse).map λk=>PyData.int ((k:Nat):Int))) (by simp)
 have p13:=K1_.get (i:=13) (d:=.list M) (by simp)
 have p8:=K1_.get (i:=8) (d:=.int ((cg aR aL C n dl:Nat):Int)) (by simp)
 have p5:=K1_.get (i:=5) (d:=.int (n:Nat)) (by simp)
 have p4:=K1_.get (i:=4) (d:=ak C) (by simp)
 have e14 : ∃ φ',Kp 20 [(5,.int (n:Nat)),(4,ak C)] φ'∧exe Γ nQ σ1 = .nx φ':=by
  have loop:=qu (Γ:=Γ) (t:=.nm 15) (ss:=sJ) (good:=λρ=>Kp 20 [(14,PyData.list (((((av aL C).map (·.2)).mergeSort λa b=>decide (a≤b)).reverse).map λk=>PyData.int ((k:Nat):Int))),(5,.int (n:Nat)),(4,ak C)] ρ) (ds:=[.int ((0:Nat):Int),.int ((1:Nat):Int)]) (λd hd ρ g=>by
   obtain ⟨k,hk,rfl⟩ : ∃ k:Nat,k≤1∧d = .int (k:Nat):=by
    rcases cG.mp hd with rfl | hd
    ·exact ⟨0,by decide,rfl⟩
    ·rcases cG.mp hd with rfl | hd
     ·exact ⟨1,by decide,rfl⟩
     ·cases hd
   rw [jN,bg]
   have Kn:=g.put (i:=15) (d:=.int (k:Nat)) (by rfl) (by decide)
   generalize ρ.set 15 (some (.pd (.int (k:Nat))))=τ at Kn
   have q15:=Kn.get (i:=15) (d:=.int (k:Nat)) (by simp)
   have q14:=Kn.get (i:=14) (d:=PyData.list (((((av aL C).map (·.2)).mergeSort λa b=>decide (a≤b)).reverse).map λk=>PyData.int ((k:Nat):Int))) (by simp)
   have q5:=Kn.get (i:=5) (d:=.int (n:Nat)) (by simp)
   have q4:=Kn.get (i:=4) (d:=ak C) (by simp)
   refine ⟨τ,Kp.less Kn (by simp),?_⟩
   have c:sem Γ (.cmp .ne (.ex (.call 1231 (.cons (.call 101 (.cons (.var 4) (.cons (.var 5) (.cons (.var 15) .nil)))) (.cons (.var 4) .nil)))) (.ex (.bi .sum (.cons (.sl (.var 14) .none (.some (.var 5))) .nil)))) τ = .ok (.bool false):=by
    have nr:=Gi (host:=aR) (trap:=aL) (n:=n) hC.nd hk
    rw [e6,cQ,cQ,iH K C5 (show n≤6 by omega) (show k≤6 by omega) (by rw [aA,q4]) (by rw [aA,q5]) (by rw [aA,q15]),Rs.ae,gT,aU,rE,aA,q14,Rs.ae,rK,Rs.ae,ri,aA,q5,Rs.ae,zH,Rs.ae,o4 (by omega),ew,Rs.ae,b8,Rs.ae,Rs.ae,
     show ((n:Nat):Int).toNat=n by omega,← kD,pB,ew,Rs.ae,Ba,nr,cb rfl]
    rfl
   rw [sJ,aY,zO,d6,c]
   rfl) σ1 (Kp.less K1_ (by simp))
  obtain ⟨φ',g,e⟩:=loop
  refine ⟨φ',Kp.less g (by simp),?_⟩
  rw [nQ,f6]
  exact e
 obtain ⟨ψ,Kψ,e_14⟩:=e14
 have e_15:exe Γ mL ψ = .nx (ψ.set 16 (some (.own ((apC C).map aN)))):=by
  rw [mL,qZ,GP hC Kψ.1 (Kψ.get (i:=4) (d:=ak C) (by simp)),cD]
 have A5:=Nv C5
 have fz16:frz 16 (ψ.set 16 (some (.own ((apC C).map aN))))=ψ.set 16 (some (.pd (ak (apC C)))):=lM (by rw [Kψ.1]; decide) (by rw [aq]; have:=A5.cl; omega)
 have K16:Kp 20 [(16,ak (apC C)),(5,.int (n:Nat))] (ψ.set 16 (some (.pd (ak (apC C))))):=(Kp.less Kψ (by simp)).put (by rfl) (by decide)
 generalize ψ.set 16 (some (.pd (ak (apC C))))=ω at K16 fz16
 have r16:=K16.get (i:=16) (d:=ak (apC C)) (by simp)
 have r5:=K16.get (i:=5) (d:=.int (n:Nat)) (by simp)
 have e_16:exe Γ oo ω = .nx ω:=by
  have c:sem Γ (.cmp .ne (.ex (.call 1231 (.cons (.call 101 (.cons (.var 16) (.cons (.var 5) (.cons (.int 6) .nil)))) (.cons (.var 16) .nil)))) (.ex (.call 1231 (.cons (.call 101 (.cons (.var 16) (.cons (.var 5) (.cons (.int 0) .nil)))) (.cons (.var 16) .nil))))) ω = .ok (.bool false):=by
   rw [e6,cQ,cQ,iH K A5 (dl:=6) (show n≤6 by omega) (by decide) (by rw [aA,r16]) (by rw [aA,r5]) rfl,Rs.ae,iH K A5 (dl:=0) (show n≤6 by omega) (by decide) (by rw [aA,r16]) (by rw [aA,r5]) rfl,Rs.ae,Ba,
    M7 (C:=apC C) (host:=aR) (trap:=aL) (n:=n) (d:=6) (d':=0) JO,cb rfl]
   rfl
  rw [oo,d6,c]
  rfl
 refine ⟨ω,Kp.less K16 (by simp),?_⟩
 rw [lwC,aY,e_lw_0b12,bg,aY,e_lw_0b13,bg,aY,e_14,bg,aY,e_15,bg,iY,fz16,aY,e_16,bg,Im]
theorem Md (K:Calls Γ) {i:Nat} (hi:i≤1000) (c:Int) : ∀ ρ,Kp 20 [] ρ → ∃ ρ',Kp 20 [] ρ'∧(bL (.tp [1,2]) (.tuple [.int (i:Nat),.int c]) ρ).seq (ao Γ lD) = .nx ρ':=by
 intro ρ h
 obtain ⟨ds,hn,hd⟩:=K.nums c (i:Nat) (by omega) (by omega)
 obtain ⟨C,hC,ec⟩:=K.cand ds hd
 obtain ⟨n0,en,_⟩:=hX hd (k:=12) (by decide)
 obtain ⟨d0,ed,_⟩:=hX hd (k:=13) (by decide)
 obtain ⟨f0,ef,_⟩:=hX hd (k:=14) (by decide)
 obtain ⟨r0,er,_⟩:=hX hd (k:=15) (by decide)
 have ix : ∀ {k:Nat} {u:Nat},ds[k]? = some (.int (u:Nat))→pur (ixD (.list ds) (.int (k:Nat))) = .ok (.int (u:Nat)):=λ{k u} e=>by
  rw [jF (by omega),show ((k:Nat):Int).toNat=k by omega,e]; rfl
 let n:=n0%5
 let dl:=d0%7
 have hn4:n≤4:=by have:=Nat.mod_lt n0 (show 0<5 by decide); show n0%5≤4; omega
 have hd6:dl≤6:=by have:=Nat.mod_lt d0 (show 0<7 by decide); show d0%7≤6; omega
 have C5:CG c9 5 C:=hC.more nO (by decide)
 have hl:=hC.cl
 rw [El,bg]
 have K0:Kp 20 [(2,.int c),(1,.int (i:Nat))] ((ρ.set 1 (some (.pd (.int (i:Nat))))).set 2 (some (.pd (.int c)))):=(h.put (i:=1) (d:=.int (i:Nat)) (by rfl) (by decide)).put (by rfl) (by decide)
 generalize (ρ.set 1 (some (.pd (.int (i:Nat))))).set 2 (some (.pd (.int c)))=σ0 at K0
 have p2:=K0.get (i:=2) (d:=.int c) (by simp)
 have p1:=K0.get (i:=1) (d:=.int (i:Nat)) (by simp)
 have e_lw_0b0:exe Γ m_ σ0 = .nx (σ0.set 3 (some (.pd (.list ds)))):=by
  have rp:bE .mul (.list [.int 420]) (.int 24) = .ok (.list (List.replicate 24 (.int 420))):=rep1 (n:=24) (by decide)
  have a2:sem Γ (.bin .mul (.lst (.cons (.int 420) .nil)) (.int 24)) σ0 = .ok (.list (List.replicate 24 (.int 420))):=by
   rw [dE,l8,aU,cJ,Rs.ae,b8,Rs.ae,Rs.ae,AM,Rs.ae,cJ,Rs.ae,rp]; rfl
  have a1:sem Γ (.bin .add (.int 9100) (.var 1)) σ0 = .ok (.int (9100+((i:Nat):Int))):=by
   rw [dE,cJ,Rs.ae,aA,p1,Rs.ae,yI]; rfl
  rw [m_,eW,s_call,aU,aA,p2,Rs.ae,aU,a1,Rs.ae,aU,a2,Rs.ae,b8,Rs.ae,Rs.ae,Rs.ae,Rs.ae,hn,cD,jN]
 have K1_:Kp 20 ((3,.list ds)::[(2,.int c),(1,.int (i:Nat))]) (σ0.set 3 (some (.pd (.list ds)))):=K0.put (i:=3) (by rfl) (by decide)
 generalize hS1:σ0.set 3 (some (.pd (.list ds)))=σ1 at *
 have p3:=K1_.get (i:=3) (d:=.list ds) (by simp)
 have p2:=K1_.get (i:=2) (d:=.int c) (by simp)
 have p1:=K1_.get (i:=1) (d:=.int (i:Nat)) (by simp)
 have e_lw_0b1:exe Γ nR σ1 = .nx (σ1.set 4 (some (.pd (ak C)))):=by
  rw [nR,eW,s_call,aU,aA,p3,Rs.ae,b8,Rs.ae,Rs.ae,ec,cD,jN]
 have K2_:Kp 20 ((4,ak C)::[(3,.list ds),(2,.int c),(1,.int (i:Nat))]) (σ1.set 4 (some (.pd (ak C)))):=K1_.put (i:=4) (by rfl) (by decide)
 generalize hS2:σ1.set 4 (some (.pd (ak C)))=σ2 at *
 have p4:=K2_.get (i:=4) (d:=ak C) (by simp)
 have p3:=K2_.get (i:=3) (d:=.list ds) (by simp)
 have p2:=K2_.get (i:=2) (d:=.int c) (by simp)
 have p1:=K2_.get (i:=1) (d:=.int (i:Nat)) (by simp)
 have e_2:exe Γ oH σ2 = .nx ((σ2.set 5 (some (.pd (.int (n:Nat))))).set 6 (some (.pd (.int (dl:Nat))))):=by
  have a1:sem Γ (.bin .mod (.ix (.var 3) (.int 12)) (.int 5)) σ2 = .ok (.int (n:Nat)):=by
   rw [dE,eH,aA,p3,Rs.ae,cJ,Rs.ae,show pur (ixD (.list ds) (.int 12)) = .ok (.int (n0:Nat)) from ix en,Rs.ae,cJ,Rs.ae,g_ (by decide)]; rfl
  have a2:sem Γ (.bin .mod (.ix (.var 3) (.int 13)) (.int 7)) σ2 = .ok (.int (dl:Nat)):=by
   rw [dE,eH,aA,p3,Rs.ae,cJ,Rs.ae,show pur (ixD (.list ds) (.int 13)) = .ok (.int (d0:Nat)) from ix ed,Rs.ae,cJ,Rs.ae,g_ (by decide)]; rfl
  rw [oH,GW,aU,a1,Rs.ae,aU,a2]
  rfl
 have K3:Kp 20 [(6,.int (dl:Nat)),(5,.int (n:Nat)),(4,ak C),(3,.list ds)] ((σ2.set 5 (some (.pd (.int (n:Nat))))).set 6 (some (.pd (.int (dl:Nat))))):=((Kp.less K2_ (js:=[(4,ak C),(3,.list ds)]) (by simp)).put (by rfl) (by decide)).put (by rfl) (by decide)
 generalize (σ2.set 5 (some (.pd (.int (n:Nat))))).set 6 (some (.pd (.int (dl:Nat))))=τ0 at K3 e_2
 have W:=hC.nd
 have ch1:ao Γ lD σ0=ao Γ lwA τ0:=by
  rw [JN,aY,e_lw_0b0,bg,aY,e_lw_0b1,bg,aY,e_2,bg]
 rw [ch1]
 let w:=cg aR aL C n dl
 have p6:=K3.get (i:=6) (d:=.int (dl:Nat)) (by simp)
 have p5:=K3.get (i:=5) (d:=.int (n:Nat)) (by simp)
 have p4:=K3.get (i:=4) (d:=ak C) (by simp)
 have p3:=K3.get (i:=3) (d:=.list ds) (by simp)
 have e_lw_0b3:exe Γ mZ τ0 = .nx (τ0.set 7 (some (.pd (au (best aR aL C n dl))))):=by
  rw [mZ,eW,s_call,aU,aA,p4,Rs.ae,aU,aA,p5,Rs.ae,aU,aA,p6,Rs.ae,b8,Rs.ae,Rs.ae,Rs.ae,Rs.ae,K.plan C n dl C5 (by omega) hd6,cD,jN]
 have K1_:Kp 20 ((7,au (best aR aL C n dl))::[(6,.int (dl:Nat)),(5,.int (n:Nat)),(4,ak C),(3,.list ds)]) (τ0.set 7 (some (.pd (au (best aR aL C n dl))))):=K3.put (i:=7) (by rfl) (by decide)
 generalize hS1:τ0.set 7 (some (.pd (au (best aR aL C n dl))))=σ1 at *
 have p7:=K1_.get (i:=7) (d:=au (best aR aL C n dl)) (by simp)
 have p6:=K1_.get (i:=6) (d:=.int (dl:Nat)) (by simp)
 have p5:=K1_.get (i:=5) (d:=.int (n:Nat)) (by simp)
 have p4:=K1_.get (i:=4) (d:=ak C) (by simp)
 have p3:=K1_.get (i:=3) (d:=.list ds) (by simp)
 have e_lw_0b4:exe Γ ou σ1 = .nx (σ1.set 8 (some (.pd (.int ((w:Nat):Int))))):=by
  rw [ou,eW,s_call,aU,aA,p7,Rs.ae,aU,aA,p4,Rs.ae,b8,Rs.ae,Rs.ae,Rs.ae,K.wrt C n dl C5 (by omega),cD,jN]
 have K2_:Kp 20 ((8,.int ((w:Nat):Int))::[(7,au (best aR aL C n dl)),(6,.int (dl:Nat)),(5,.int (n:Nat)),(4,ak C),(3,.list ds)]) (σ1.set 8 (some (.pd (.int ((w:Nat):Int))))):=K1_.put (i:=8) (by rfl) (by decide)
 generalize hS2:σ1.set 8 (some (.pd (.int ((w:Nat):Int))))=σ2 at *
 have p8:=K2_.get (i:=8) (d:=.int ((w:Nat):Int)) (by simp)
 have p7:=K2_.get (i:=7) (d:=au (best aR aL C n dl)) (by simp)
 have p6:=K2_.get (i:=6) (d:=.int (dl:Nat)) (by simp)
 have p5:=K2_.get (i:=5) (d:=.int (n:Nat)) (by simp)
 have p4:=K2_.get (i:=4) (d:=ak C) (by simp)
 have p3:=K2_.get (i:=3) (d:=.list ds) (by simp)
 have e_lw_0b5:exe Γ mI σ2 = .nx σ2:=by
  have c1:sem Γ (.not (.call 1099 (.cons (.var 7) (.cons (.var 4) (.cons (.var 5) (.cons (.var 6) .nil)))))) σ2 = .ok (.bool false):=by
   rw [qH,s_call,aU,aA,p7,Rs.ae,aU,aA,p4,Rs.ae,aU,aA,p5,Rs.ae,aU,aA,p6,Rs.ae,b8,Rs.ae,Rs.ae,Rs.ae,Rs.ae,Rs.ae,K.poss C n dl (hC.more (λ_ h=>h) (by decide)) (by omega)]
   rfl
  have rC:CG c9 5 C.reverse:=⟨by unfold ag; rw [List.map_reverse]; exact List.nodup_iff_pairwise_ne.mpr (List.pairwise_reverse.mpr ((List.nodup_iff_pairwise_ne.mp hC.nd).imp λh z=>h z.symm)),by rw [List.length_reverse]; omega,λp hp=>C5.nm p (List.mem_reverse.mp hp)⟩
  have c2:sem Γ (.cmp .ne (.ex (.call 101 (.cons (.rev (.var 4)) (.cons (.var 5) (.cons (.var 6) .nil))))) (.ex (.var 7))) σ2 = .ok (.bool false):=by
   have a:sem Γ (.rev (.var 4)) σ2 = .ok (ak C.reverse):=by rw [zy,aA,p4,Rs.ae,EJ]
   rw [e6,cQ,cQ,s_call,aU,a,Rs.ae,aU,aA,p5,Rs.ae,aU,aA,p6,Rs.ae,b8,Rs.ae,Rs.ae,Rs.ae,Rs.ae,K.plan C.reverse n dl rC (by omega) hd6,Rs.ae,aA,p7,Rs.ae,
    ← Mz (C:=C) (C':=C.reverse) hC.nd (List.reverse_perm C).symm,ne_self (Oj _)]
   rfl
  rw [mI,d6,gB,c1,Rs.ae,dw,Rs.ae,if_neg aa,c2]
  rfl
 let mo:Nat:=1+f0%99
 have hmo:1≤mo∧mo≤99:=by have:=Nat.mod_lt f0 (show 0<99 by decide); constructor <;> (show _≤_; omega)
 have e_lw_0b6:exe Γ ph σ2 = .nx (σ2.set 9 (some (.pd (ak (C++[(("far" : Str),mo)]))))):=by
  have a1:sem Γ (.bin .add (.int 1) (.bin .mod (.ix (.var 3) (.int 14)) (.int 99))) σ2 = .ok (.int (mo:Nat)):=by
   rw [dE,cJ,Rs.ae,dE,eH,aA,p3,Rs.ae,cJ,Rs.ae,show pur (ixD (.list ds) (.int 14)) = .ok (.int (f0:Nat)) from ix ef,Rs.ae,cJ,Rs.ae,g_ (by decide)]
   rfl
  have a2:sem Γ (.lst (.cons (.tup (.cons (.str "far") (.cons (.bin .add (.int 1) (.bin .mod (.ix (.var 3) (.int 14)) (.int 99))) .nil))) .nil)) σ2 = .ok (.list [aN (("far" : Str),mo)]):=by
   rw [l8,aU,n8,aU,JQ,Rs.ae,aU,a1]
   rfl
  have a3:bE .add (ak C) (.list [aN (("far" : Str),mo)]) = .ok (ak (C++[(("far" : Str),mo)])):=by
   have:=nI (xs:=C.map aN) (ys:=[aN (("far" : Str),mo)]) (by rw [aq]; show C.length+1≤1000000; omega)
   refine Eq.trans this ?_
   show _=Rs.ok (PyData.list ((C++[(("far" : Str),mo)]).map aN))
   rw [cW]
   rfl
  rw [ph,eW,dE,aA,p4,Rs.ae,a2,Rs.ae,a3]
  rfl
 have K3_:Kp 20 ((9,ak (C++[(("far" : Str),mo)]))::[(8,.int ((w:Nat):Int)),(7,au (best aR aL C n dl)),(6,.int (dl:Nat)),(5,.int (n:Nat)),(4,ak C),(3,.list ds)]) (σ2.set 9 (some (.pd (ak (C++[(("far" : Str),mo)]))))):=K2_.put (i:=9) (by rfl) (by decide)
 generalize hS3:σ2.set 9 (some (.pd (ak (C++[(("far" : Str),mo)]))))=σ3 at *
 have p9:=K3_.get (i:=9) (d:=ak (C++[(("far" : Str),mo)])) (by simp)
 have p8:=K3_.get (i:=8) (d:=.int ((w:Nat):Int)) (by simp)
 have p7:=K3_.get (i:=7) (d:=au (best aR aL C n dl)) (by simp)
 have p6:=K3_.get (i:=6) (d:=.int (dl:Nat)) (by simp)
 have p5:=K3_.get (i:=5) (d:=.int (n:Nat)) (by simp)
 have p4:=K3_.get (i:=4) (d:=ak C) (by simp)
 have p3:=K3_.get (i:=3) (d:=.list ds) (by simp)
 let r:Nat:=r0%50
 have mr:sem Γ (.bin .mod (.ix (.var 3) (.int 15)) (.int 50)) σ3 = .ok (.int (r:Nat)):=by
  rw [dE,eH,aA,p3,Rs.ae,cJ,Rs.ae,show pur (ixD (.list ds) (.int 15)) = .ok (.int (r0:Nat)) from ix er,Rs.ae,cJ,Rs.ae,g_ (by decide)]
  rfl
 have e_7:exe Γ nL σ3 = .nx (σ3.set 10 (some (.own ((raise r C).map aN)))):=by
  rw [nL,qZ,raises r σ3 K3_.1 (by omega) p4 mr ds p3 (.inr ⟨r0,by rw [jF (by decide)]; show opt (ds[15]?) id=_; rw [er]; rfl,rfl⟩),cD]
 have l10:(raise r C).length≤5:=by unfold raise; rw [aq]; omega
 have fz10:frz 10 (σ3.set 10 (some (.own ((raise r C).map aN))))=σ3.set 10 (some (.pd (ak (raise r C)))):=lM (by rw [K3_.1]; decide) (by rw [aq]; omega)
 have K10:Kp 20 [(10,ak (raise r C)),(9,ak (C++[(("far" : Str),mo)])),(8,.int ((w:Nat):Int)),(6,.int (dl:Nat)),(5,.int (n:Nat)),(4,ak C)] (σ3.set 10 (some (.pd (ak (raise r C))))):=(Kp.less K3_ (by simp)).put (by rfl) (by decide)
 have ch2:ao Γ lwA τ0=ao Γ lwB (σ3.set 10 (some (.pd (ak (raise r C))))):=by
  rw [lwA,aY,e_lw_0b3,bg,aY,e_lw_0b4,bg,aY,e_lw_0b5,bg,aY,e_lw_0b6,bg,aY,e_7,bg,iY,fz10]
 rw [ch2]
 generalize σ3.set 10 (some (.pd (ak (raise r C))))=υ at K10
 let w1:=cg aR aL C (n+1) dl
 let w2:=cg aR aL C n (dl-1)
 let w3:=cg aR aL (C++[(("far" : Str),mo)]) n dl
 let w4:=cg aR aL (raise r C) n dl
 have hw1:w≤w1:=pC hC.nd hC.nd (fj _) (aC _) (λ_ h=>h) λ_ _=>aC _
 have hw2:w≤w2:=pC hC.nd hC.nd (aC _) (Nat.sub_le _ _) (λ_ h=>h) λ_ _=>aC _
 have F:=w_ hC hmo.1 hmo.2
 have R:=wx (r:=r) C5
 have hw3:w≤w3:=pC hC.nd F.nd (aC _) (aC _) (λa h=>yB (λa h=>by unfold ag at h ⊢; rw [cW]; exact dh _ h) h) λa h=>Nat.le_of_eq (Og hC hmo.1 hmo.2 (good_mem h))
 have hw4:w≤w4:=pC hC.nd R.nd (aC _) (aC _) (λa h=>yB (λa h=>by rw [xy]; exact h) h) λa h=>Ip hC (good_mem h)
 have lυ:υ.length=20:=K10.1
 have p10:=K10.get (i:=10) (d:=ak (raise r C)) (by simp)
 have p9:=K10.get (i:=9) (d:=ak (C++[(("far" : Str),mo)])) (by simp)
 have p6:=K10.get (i:=6) (d:=.int (dl:Nat)) (by simp)
 have p5:=K10.get (i:=5) (d:=.int (n:Nat)) (by simp)
 have p4:=K10.get (i:=4) (d:=ak C) (by simp)
 have st : ∀ (z:Option SV) (j:Nat),j≠13→a9 (υ.set 13 z) j=a9 υ j:=λz j hj=>by rw [gsP,if_neg (λq=>hj q.symm)]
 have at13 : ∀ d:D,a9 (υ.set 13 (some (.pd d))) 13 = .ok d:=λd=>by rw [gsP,if_pos rfl,if_pos (by omega)]; rfl
 have e8:exe Γ pD υ = .nx (υ.set 13 (some (.own [.int ((w1:Nat):Int)]))):=by
  have a:sem Γ (.bin .add (.var 5) (.int 1)) υ = .ok (.int ((n+1:Nat):Int)):=by rw [dE,aA,p5,Rs.ae,cJ,Rs.ae,yI]; rfl
  rw [pD,N2,aU,iH K C5 (show n+1≤6 by omega) hd6 (by rw [aA,p4]) a (by rw [aA,p6]),Rs.ae,b8,Rs.ae,cD,if_pos (show _≤1000000 by simp)]
 have f8:frz 13 (υ.set 13 (some (.own [.int ((w1:Nat):Int)])))=υ.set 13 (some (.pd (.list [.int ((w1:Nat):Int)]))):=lM (by omega) (by simp)
 have e9:exe Γ nS (υ.set 13 (some (.pd (.list [.int ((w1:Nat):Int)])))) = .nx (υ.set 13 (some (.own [.int ((w1:Nat):Int),.int ((w2:Nat):Int)]))):=by
  have a:sem Γ (.bi .max2 (.cons (.int 0) (.cons (.bin .sub (.var 6) (.int 1)) .nil))) (υ.set 13 (some (.pd (.list [.int ((w1:Nat):Int)])))) = .ok (.int ((dl-1:Nat):Int)):=by
   have b:sem Γ (.bin .sub (.var 6) (.int 1)) (υ.set 13 (some (.pd (.list [.int ((w1:Nat):Int)])))) = .ok (.int ((dl:Nat)-1)):=by rw [dE,aA,st _ 6 (by decide),p6,Rs.ae,cJ,Rs.ae,Lr]; rfl
   rw [gT,aU,cJ,Rs.ae,aU,b,Rs.ae,b8]
   show Rs.ok (PyData.int (if ((dl:Nat):Int)-1>0 then ((dl:Nat):Int)-1 else 0))=_
   congr 2
   split <;> omega
  rw [nS,zh,aA,at13,Rs.ae,l8,aU,iH K C5 (show n≤6 by omega) (show dl-1≤6 by omega) (by rw [aA,st _ 4 (by decide),p4]) (by rw [aA,st _ 5 (by decide),p5]) a,Rs.ae,b8]
  show Out.ofR (Rs.ok [PyData.int ((w1:Nat):Int),.int ((w2:Nat):Int)]) _ _=_
  rw [cD,List.set_set]
 have f9:frz 13 (υ.set 13 (some (.own [.int ((w1:Nat):Int),.int ((w2:Nat):Int)])))=υ.set 13 (some (.pd (.list [.int ((w1:Nat):Int),.int ((w2:Nat):Int)]))):=lM (by omega) (by simp)
 have e10:exe Γ mG (υ.set 13 (some (.pd (.list [.int ((w1:Nat):Int),.int ((w2:Nat):Int)])))) = .nx (υ.set 13 (some (.own [.int ((w1:Nat):Int),.int ((w2:Nat):Int),.int ((w3:Nat):Int)]))):=by
  rw [mG,zh,aA,at13,Rs.ae,l8,aU,iH K F (show n≤6 by omega) hd6 (by rw [aA,st _ 9 (by decide),p9]) (by rw [aA,st _ 5 (by decide),p5]) (by rw [aA,st _ 6 (by decide),p6]),Rs.ae,b8]
  show Out.ofR (Rs.ok [PyData.int ((w1:Nat):Int),.int ((w2:Nat):Int),.int ((w3:Nat):Int)]) _ _=_
  rw [cD,List.set_set]
 have e11:exe Γ nH (υ.set 13 (some (.own [.int ((w1:Nat):Int),.int ((w2:Nat):Int),.int ((w3:Nat):Int)]))) = .nx (υ.set 13 (some (.own [.int ((w1:Nat):Int),.int ((w2:Nat):Int),.int ((w3:Nat):Int),.int ((w4:Nat):Int)]))):=by
  rw [nH,v_,gsA,if_pos rfl,if_pos (by omega),MR,cD,iH K R (show n≤6 by omega) hd6 (by rw [aA,st _ 10 (by decide),p10]) (by rw [aA,st _ 5 (by decide),p5]) (by rw [aA,st _ 6 (by decide),p6]),cD,if_pos (show _<1000000 by simp),List.set_set]
  rfl
 have f11:frz 13 (υ.set 13 (some (.own [.int ((w1:Nat):Int),.int ((w2:Nat):Int),.int ((w3:Nat):Int),.int ((w4:Nat):Int)])))=υ.set 13 (some (.pd (.list [.int ((w1:Nat):Int),.int ((w2:Nat):Int),.int ((w3:Nat):Int),.int ((w4:Nat):Int)]))):=lM (by omega) (by simp)
 have ch3:ao Γ lwB υ=ao Γ lwC (υ.set 13 (some (.pd (.list [.int ((w1:Nat):Int),.int ((w2:Nat):Int),.int ((w3:Nat):Int),.int ((w4:Nat):Int)])))):=by
  rw [lwB,aY,e8,bg,iY,f8,aY,e9,bg,iY,f9,aY,e10,bg,aY,e11,bg,iY,f11]
 rw [ch3]
 have K13:Kp 20 [(13,.list [.int ((w1:Nat):Int),.int ((w2:Nat):Int),.int ((w3:Nat):Int),.int ((w4:Nat):Int)]),(8,.int ((w:Nat):Int)),(5,.int (n:Nat)),(4,ak C)] (υ.set 13 (some (.pd (.list [.int ((w1:Nat):Int),.int ((w2:Nat):Int),.int ((w3:Nat):Int),.int ((w4:Nat):Int)])))):=(Kp.less K10 (by simp)).put (by rfl) (by decide)
 generalize υ.set 13 (some (.pd (.list [.int ((w1:Nat):Int),.int ((w2:Nat):Int),.int ((w3:Nat):Int),.int ((w4:Nat):Int)])))=φ at K13
 obtain ⟨m,hm,em⟩:=Ny w1 w2 w3 w4 w hw1 hw2 hw3 hw4
 have hm:cg aR aL C n dl≤m:=hm
 exact N0 (dl:=dl) K hC hn4 K13 hm em
theorem J5 (K:Calls Γ) : ∀ ns:List Int,ns.length≤63→bB Γ 20 lA [.list (ns.map PyData.int)] = .ok (.bool true):=by
 intro ns _
 obtain ⟨L,hl,it⟩:=Oe (Γ:=Γ) (ns:=ns) (ρ:=[some (.pd (.list (ns.map PyData.int))),none,none,none,none,none,none,none,none,none,none,none,none,none,none,none,none,none,none,none]) (b:=6) (by decide) rfl
 show out (ao Γ lA [some (.pd (.list (ns.map PyData.int))),none,none,none,none,none,none,none,none,none,none,none,none,none,none,none,none,none,none,none])=_
 rw [DF]
 obtain ⟨ρ1,g,e⟩:=qu (Γ:=Γ) (t:=.tp [1,2]) (ss:=lD) (good:=λρ=>Kp 20 [] ρ) (ds:=cN 0 (L.map PyData.int)) (λd hd ρ g=>by
  obtain ⟨i,x,rfl,hx,hi⟩:=Dl hd
  obtain ⟨c,_,rfl⟩:=fA.mp hx
  rw [aq] at hi
  exact Md K (by omega) c ρ g) [some (.pd (.list (ns.map PyData.int))),none,none,none,none,none,none,none,none,none,none,none,none,none,none,none,none,none,none,none] ⟨rfl,λ_ h=>nomatch h⟩
 have a1:exe Γ mQ [some (.pd (.list (ns.map PyData.int))),none,none,none,none,none,none,none,none,none,none,none,none,none,none,none,none,none,none,none] = .nx ρ1:=by
  unfold mQ
  rw [f6,wW]
  rw [show (E.bin .add (.sl (.var 0) .none (.some (.int 6))) (.bin .mul (.lst (.cons (.int 7) .nil)) (.ti .int (.cons (.cmp .eq (.ex (.var 0)) (.ex (.lst .nil))) .nil))))=tT ((6:Nat):Int) from rfl,it]
  exact e
 rw [aY,a1]
 rfl
end
theorem calls:Calls lF where
 nums:=λc k h0 h1=>by
  have e:(List.replicate 24 (.int 420):List D)=(List.replicate 24 (420:Int)).map PyData.int:=by rw [List.map_replicate]
  obtain ⟨rs,e1,hl,hr⟩:=HW (Γ:=oQ) (cell:=c) (salt:=9100+k) (ss:=List.replicate 24 420) (λs hs=>by rw [(List.mem_replicate.mp hs).2]; decide) (by rw [List.length_replicate]; decide) (by omega) (by omega)
  rw [e]
  exact ⟨_,(cA (Γ:=lF) (k:=1138) (λ_=>rfl) rfl).trans e1,GX (by rw [hl,List.length_replicate]) hr⟩
 cand:=λds hd=>by
  obtain ⟨C,h,e⟩:=Ji (Γ:=mK) hd
  exact ⟨C,h,(cA (k:=1027) (λ_=>rfl) rfl).trans e⟩
 plan:=λC n dl h hn hd=>(cA (k:=101) (λ_=>rfl) rfl).trans (MH h hn hd)
 wrt:=λC n dl h hn=>(cA (k:=1231) (λ_=>rfl) rfl).trans (IC h (λe he=>good_mem (mP.all e he).2) (by have:=(mP (host:=aR) (trap:=aL) (C:=C) (n:=n) (dl:=dl)).len; omega))
 poss:=λC n dl h hn=>(cA (k:=1099) (λ_=>rfl) rfl).trans (GL (Γ:=nK) h hn mP λa ha=>(cA (k:=96) (λ_=>rfl) rfl).trans (qS (nO _ (h.nam ha))))
 tr:=λa ha=>(cA (k:=96) (λ_=>rfl) rfl).trans (qS ha)
theorem HX : ∀ ns:List Int,ns.length≤63→sX [.list (ns.map PyData.int)] = .ok (.bool true):=J5 calls
end K91

open PySem PySem.W PyProof.Rows
set_option maxRecDepth 100000 in
set_option maxHeartbeats 0 in
theorem PySem.Challenge.cw_pagesasseen_k91_whole_plans_compared_holds : PySem.Challenge.rw_pagesasseen_k91_whole_plans_compared.Holds := by
 w_on; o_law; k_head; (case hw=>w_witness2)
 k_fill
 refine Pf.KR (l:=PySem.Challenge.rw_pagesasseen_k91_whole_plans_compared) (k:=23) (x:= "_law_script") (m:=K91.sX) rfl (by decide) rfl ⟨rfl,by decide,by decide⟩ (λw h Y=>by first | exact PySem.W.kIn_of Y | exact PySem.W.km_in_of Y) (λw h Y=>PySem.W.km_tabs_of Y) (λw=>by kernel_rfl) ?F K91.HX
 case F =>
  intro w mg fa h KX G hmg
  refine' K91.all KX G hmg ?Zaa ?Zab ?Zac ?Zad ?Zae ?Zaf ?Zag ?Zah ?Zai ?Zaj ?Zak ?Zal ?Zam ?Zan ?Zao ?Zap ?Zaq ?Zar ?Zas ?Zat ?Zau ?Zav ?Zaw ?Zax ?Zay ?Zaz ?Za0 ?Za1 ?Za2 ?Za3 ?Za4 ?Za5 ?Za6 ?Za7 ?Za8 ?Za9 ?Zba ?Zbb ?Zbc ?Zbd ?Zbe ?Zbf ?Zbg ?Zbh ?Zbi ?Zbj ?Zbk ?Zbl ?Zbm ?Zbn ?Zbo ?Zbp ?Zbq ?Zbr ?Zbs ?Zbt ?Zbu ?Zbv ?Zbw ?Zbx ?Zby ?Zbz ?Zb0 ?Zb1 ?Zb2 ?Zb3 ?Zb4 ?Zb5 ?Zb6 ?Zb7 ?Zb8 ?Zb9 ?Zca ?Zcb ?Zcc ?Zcd ?Zce ?Zcf ?Zcg ?Zch ?Zci ?Zcj ?Zck ?Zcl ?Zcm ?Zcn ?Zco ?Zcp ?Zcq ?Zcr ?Zcs ?Zct ?Zcu ?Zcv ?Zcw ?Zcx ?Zcy ?Zcz ?Zc0 ?Zc1 ?Zc2 ?Zc3 ?Zc4 ?Zc5 ?Zc6 ?Zc7 ?Zc8 ?Zc9 ?Zda ?Zdb ?Zdc ?Zdd ?Zde ?Zdf ?Zdg ?Zdh ?Zdi ?Zdj ?Zdk ?Zdl ?Zdm ?Zdn ?Zdo ?Zdp ?Zdq ?Zdr ?Zds ?Zdt ?Zdu ?Zdv ?Zdw ?Zdx ?Zdy ?Zdz ?Zd0 ?Zd1 ?Zd2 ?Zd3 ?Zd4 ?Zd5 ?Zd6 ?Zd7 ?Zd8 ?Zd9 ?Zea ?Zeb ?Zec ?Zed ?Zee ?Zef ?Zeg ?Zeh ?Zei ?Zej ?Zek ?Zel ?Zem ?Zen ?Zeo ?Zep ?Zeq ?Zer ?Zes ?Zet ?Zeu ?Zev ?Zew ?Zex ?Zey ?Zez ?Ze0 ?Ze1 ?Ze2 ?Ze3 ?Ze4 ?Ze5 ?Ze6 ?Ze7 ?Ze8 ?Ze9 ?Zfa ?Zfb ?Zfc ?Zfd ?Zfe ?Zff ?Zfg ?Zfh ?Zfi ?Zfj ?Zfk ?Zfl ?Zfm ?Zfn ?Zfo ?Zfp ?Zfq ?Zfr ?Zfs
  (case Zaa|Zab|Zac|Zad|Zae|Zaf|Zag|Zah|Zai|Zaj|Zak|Zal|Zam|Zan|Zao|Zap|Zaq|Zar|Zas => k_is)
  (case Zat => decide +kernel)
  (case Zau|Zav|Zaw|Zax|Zay|Zaz|Za0|Za1|Za2|Za3|Za4|Za5|Za6|Za7|Za8|Za9|Zba|Zbb|Zbc|Zbd|Zbe|Zbf|Zbg|Zbh => k_is)
  (case Zbi => decide +kernel)
  (case Zbj|Zbk|Zbl|Zbm|Zbn|Zbo|Zbp|Zbq|Zbr|Zbs|Zbt|Zbu|Zbv|Zbw|Zbx|Zby|Zbz|Zb0|Zb1|Zb2|Zb3 => k_is)
  (case Zb4 => decide +kernel)
  (case Zb5|Zb6|Zb7|Zb8|Zb9|Zca|Zcb|Zcc|Zcd|Zce|Zcf|Zcg|Zch|Zci|Zcj|Zck|Zcl|Zcm|Zcn|Zco|Zcp|Zcq|Zcr|Zcs|Zct|Zcu|Zcv|Zcw|Zcx|Zcy|Zcz|Zc0|Zc1|Zc2|Zc3|Zc4|Zc5|Zc6|Zc7|Zc8|Zc9|Zda|Zdb|Zdc|Zdd|Zde|Zdf|Zdg|Zdh|Zdi|Zdj|Zdk|Zdl|Zdm|Zdn|Zdo|Zdp|Zdq|Zdr|Zds|Zdt|Zdu|Zdv|Zdw|Zdx|Zdy|Zdz|Zd0|Zd1|Zd2|Zd3|Zd4|Zd5|Zd6|Zd7|Zd8|Zd9|Zea|Zeb|Zec|Zed|Zee|Zef|Zeg|Zeh|Zei|Zej|Zek|Zel|Zem|Zen|Zeo|Zep|Zeq|Zer|Zes|Zet|Zeu|Zev|Zew|Zex|Zey|Zez|Ze0|Ze1|Ze2|Ze3|Ze4|Ze5|Ze6|Ze7|Ze8|Ze9|Zfa|Zfb|Zfc|Zfd|Zfe|Zff|Zfg|Zfh|Zfi|Zfj|Zfk|Zfl|Zfm|Zfn|Zfo|Zfp|Zfq => k_is)
  (case Zfr => rfl)
  (case Zfs => (apply Exists.intro; apply Exists.intro; apply Exists.intro; refine ⟨?_,?_,?_,?_,?_⟩; k_is; rfl; rfl; rfl; rfl))
