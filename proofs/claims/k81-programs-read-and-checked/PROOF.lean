import PyProof.Rows.All
import Wide.All
import OpenK.AllK
import Wide.FinOn
import KE.OsRunLaw
import HandS.ForMost
import HandS.DictComp
import HandS.Strs
import HandS.IsInst
import HandS.SortInts
import KE.DataEq
import HandS.Wide
import HandS.Conv
import HandS.ExcOwn
import HandS.ExcInit
import HandS.ExcField
import HandS.ExcIs
import HandS.ExcSuper
import HandS.TryOnly
import HandS.TryMany
import HandS.Property
import HandS.ClsMeth
import HandS.OwnEq
import KE.KExcSuper
import HandS.Nested
import HandS.WordsExc
import KE.KExcIs
import KE.GoesMore
import HandS.TupAny
import HandS.Deep
import HandS.More
import HandS.SetKeys
import HandS.Star
import HandS.SetBool
import HandS.Flow
import HandS.SetFor
import HandS.Style
import HandS.Walk
import PyProof.InstEq
import KE.KOwnIter
import HandS.IterVal
import HandS.HotCalls
import HandS.TupSets
import KE.KTryMore
import HandS.OwnIter
import KE.SortCalls
import KE.SortData
import KE.DataCmp
import KE.KRevSl
import HandS.SortKw
import KE.DataMinMax
import HandS.TupLen
import KE.KDictSum
import HandS.Defaults
import HandS.FStr
import PyProof.FString3
import PyProof.StrOps2
import PyProof.Rows.StrIntSpec
import PyProof.Rows.Range3
import HandS.Records
import PyProof.ListMulRoad
import PyProof.TwoTypes
import PyProof.Rows.MatchSeqLen
import KE.KDictList
import HandS.Sort
import KE.KDictDisplayH
import HandS.Zip
import HandS.Text
import HandS.Iter
import HandS.NoneIn
import KE.KUnpackStar
import KE.RegKSuper
import PySem.Challenge.RW_comesapart_k81_programs_read_and_checked
set_option Elab.async false
set_option linter.all false
set_option maxRecDepth 100000
namespace HS
section
open PySem PySem.W PyProof.Rows
local macro_rules | `(tactic| o_head $H)=>`(tactic| exact (show ∀ T:Prop,T from by assumption) _)
set_option maxHeartbeats 0 in
theorem pre (h:∀ T:Prop,T):PySem.Challenge.rw_comesapart_k81_programs_read_and_checked.Holds:=by
 w_on;o_law;k_head
end
end HS
namespace HS
open PySem PySem.W PySem.Calls PyProof.Rows HeadRun
noncomputable abbrev pp:Program:=PySem.Challenge.pw_comesapart_k81_programs_read_and_checked
noncomputable def qq:Program:=view pp [47]
noncomputable def lz:List PySem.Str:=(["__name__","ComesapartError","TooLarge","ALPHABET","MOST_IN_NAME","BadName","is_name","BadSign","expect","name_end","MOST_FUNS","BoundTwice","UnknownName","UsedTwice","NotUsed","count_funs","check_names","check_program","format_program","read_program","parse_program","_law_cell","_law_draws","_law_pick","_law_shuffled","_law_same","_law_program","_law_distinct","_law_chain","_law_name_changed"]:List PySem.Str)++(["_law_fun_changed","_law_use_changed","_law_changed","_law_is_name","_law_events","_law_fault","_law_written","_law_bad_sign","_law_tree","_law_told","_law_text_right","_law_program_right","_law_text_changed"]:List PySem.Str)
noncomputable abbrev xt:Shared→Bool:=fun s=>xlAt qq [] s&&recOk (RowW.records (OpenRow.toRowW (OpenLaw.row PySem.Challenge.rw_comesapart_k81_programs_read_and_checked))) s
noncomputable def as:List Addr:=([2,3,15,22,23,24,25,28,31,36,37,39,40,42,43,44,45,46,49,52,57,58,60,61,63,64,65,66,67,70]:List Nat)++([73,74,75,78,83,84,86,87,89,90,91,92,93,96,98,99,101,102,103,105,106,108,109,110,113,118,119,121,122,124]:List Nat)++([125,126,127,128,131,134,139,140,142,143,145,146,147,148,149,152,155,160,161,163,164,166,167,168,169,170,173,176,181,182]:List Nat)++([184,185,187,188,189,190,191,194,196,197,199,200,201,203,204,206,207,208,210,211,213,214,215,217,218,220,221,222,224,225]:List Nat)++([227,228,229,231,232,234,235,236,238,239,241,242,243,245,246,248,249,250,252,253,255,256,257,259,260,262,263,264,266,267]:List Nat)++([269,270,271,274,275,276,279,280,281,283,284,286,287,288,290,291,293,294,295,297,298,300,301,302,304,305,307,308,309,311]:List Nat)++([312,314,315,316,318,319,321,322,323,325,326,328,329,330,333,334,335,337,338,340,341,342,344,345,347,348,349,351,352,354]:List Nat)++([355,356,358,359,361,362,363,365,366,368,369,370,372,373,375,376,377,379,380,382,383,384,386,387,389,390]:List Nat)
theorem ek:∀ P,as=(pre.heap_39 P).map (·.1):=fun P=>by kernel_rfl
theorem run (w:World) (os:OsState):(endF (stepQ (denQ tabQ) pp w) 20000 pp w os).map (fun s=>(looksF pp (boot_heap w.params) s.abs,seenQ qq lz (importedModules pp.main.body) xt s.abs,as.map (getT s)))=some (true,openGood qq lz,(pre.heap_39 w.params).map fun x=>some x.2):=by kernel_rfl
theorem left:LeftO pp qq lz xt (Hook.obs (kHook pre.heap_39 as ek)) (Hook.val (kHook pre.heap_39 as ek)) 20700 true :=
 left_oneK (M:=20000) (by kernel_rfl) (by rfl) (fun s=>by kernel_rfl) (by rfl) run
end HS
section
set_option maxHeartbeats 4000000
namespace L2
open PySem PySem.Spec PyProof.Rows
section
variable {X:Cx}
section
variable (K:PySem.W.Frag) (w:World)
theorem op_inK (h:X.K=K:=by rfl):OpR X (compareOp .In) (rIn K false):=h▸op_in_seq
theorem op_niK (h:X.K=K:=by rfl):OpR X (compareOp .NotIn) (rIn K true):=h▸op_notIn_seq
theorem Zdi (h:X.K=K:=by rfl):IxR X (rIxL K):=h▸ix_list
theorem ix_tK (h:X.K=K:=by rfl):IxR X (rIxT K):=h▸ix_tup
theorem Zbs (h:X.K=K:=by rfl):IxR X (rIx K):=h▸ix_seq
theorem sl_lK (h:X.K=K:=by rfl):SlR X (rSlL K):=h▸sl_list
theorem len_K (h:X.K=K:=by rfl):CallR X (.builtin "len") (fun xs H Q=>∃ p ys,xs=[.ref p]∧(SqL K H p ys∨SqT K H p ys)∧Q (.int ys.length) H):=h▸call_len_seq
theorem all_K (hc:X.calm=true) (h:X.K=K:=by rfl):CallR X (.builtin "all") (rAll K):=h▸cr_all hc
def shP (d:PyData):Bool:=d.plain&&decide (d.depth≤64)
def rEqP (K:PySem.W.Frag):R2:=fun x y H Q=>∃ d e,Dp K H x d∧Dp K H y e∧shP d=true∧shP e=true∧Q (.bl (PyData.eqv d e)) H
theorem op_eqDK (hu:X.A.units+64<cLine) (h:X.K=K:=by rfl):OpR X (compareOp .Eq) (rEqP K):=by
 subst h
 intro pins s σ H x y v u Q I rx ry ⟨d,e,hd,he,sd,se,q⟩
 obtain ⟨as,r1⟩:=Dp.reads I d x v hd rx
 obtain ⟨bs,r2⟩:=Dp.reads I e y u he ry
 simp only [shP,Bool.and_eq_true,decide_eq_true_eq] at sd se
 exact SeqAt.eq_plain r1 r2 sd.1 se.1 (by omega) ⟨.bl _,H,I,rfl,q⟩
theorem isi_K (h:X.K=K:=by rfl):CallR X (.builtin "isinstance") (rIsi K):=h▸call_isi
theorem pi_lK {tg l:Expr} {tl:TE} (hl:PE X l tl) (h:X.K=K:=by rfl):PI X tg l (iList K tl):=h▸pi_list hl
theorem truth_K {a:Expr} {ta:TE} (ha:PE X a ta) (he:∀ whole,isTrue a X.env whole=(do let v ← whole;standAt a.pos;holding [v] (truthy v))) (h:X.K=K:=by rfl) :
  PT X a (fun σ H Q=>ta σ H fun x H'=>∃ k,TruV K x H' k∧Q k H'):=h▸pt_truth ha he
theorem bm0_K {o:Expr} {to:TE} {name:Str} {apos cpos:Pos} {T id:String} {r:V→List V→Hp→VK→Prop} (pa:PlainAttrs T) (slot:Slot T name id) (hty:typeOf (.builtin id)=pure (.type "method_descriptor")) (hm:MtR X id r) (ho:PE X o to)
  (hbase:attributeBase o name X.env (eval o X.env)=eval o X.env:=by rfl) (hline:(apos.endLine == cpos.line)=true:=by rfl) (h:X.K=K:=by rfl):PE X (.Call (.Attribute o name apos) [] [] cpos) (tBM0 K T r to):=h▸pe_bm0 pa slot hty hm ho hbase hline
theorem bm_K {o e:Expr} {es:List Expr} {to:TE} {t:TA} {name:Str} {apos cpos:Pos} {T id:String} {r:V→List V→Hp→VK→Prop} (pa:PlainAttrs T) (slot:Slot T name id) (hty:typeOf (.builtin id)=pure (.type "method_descriptor")) (hm:MtR X id r) (ho:PE X o to) (ha:PA X (e::es) t)
  (hbase:attributeBase o name X.env (eval o X.env)=eval o X.env:=by rfl)
  (hfew:((backTo cpos (starEach (e::es) X.env)).all (fun x=>!x.1)&&(backToKw cpos (keywordEach [] X.env)).all (fun x=>x.1.isSome)
   && decide ((e::es).length+([]:List Keyword).length+(if ([]:List Keyword).isEmpty then 0 else 1)<30))=true:=by rfl)
  (hline:(apos.endLine == cpos.line)=true:=by rfl) (hs:starEach (e::es) X.env=(false,eval e X.env)::starEach es X.env:=by rfl) (hplain:(backTo cpos (starEach es X.env)).any (·.1)=false:=by rfl) (h:X.K=K:=by rfl) :
  PE X (.Call (.Attribute o name apos) (e::es) [] cpos) (tBM K T r to t):=h▸pe_bm pa slot hty hm ho ha hbase hfew hline hs hplain
end
end
end L2
end
namespace G
open PySem L2
structure GCtx where
 P:Program
 w:World
 K:PySem.W.Frag
abbrev LO:=List (Addr×HO)
structure En where
 F0:Hp
 H0:Hp
 M:List Addr
structure Wk (e:En) (F:Hp) (L:LO) (H:Hp):Prop where
 ff:Same e.F0 F
 hh:∀ a o,a∉e.M→e.H0 a=some o→H a=some o
 th:∀ a,e.H0 a≠none→H a≠none
 fh:Same F H
 nw:∀ a,e.H0 a≠none→e.F0 a=none→F a=none
 tp:∀ a xs,H a=some (.tup xs)→F a=some (.tup xs)
 ow:∀ p∈L,F p.1=none∧H p.1=some p.2∧(e.H0 p.1=none∨p.1∈e.M)
 nd:(L.map Prod.fst).Nodup
abbrev Gr (F H F' H' : Hp):Prop:=Wk ⟨F,H,[]⟩ F' [] H'
theorem ne_some {α:Type} {x:Option α} {y:α} (h:x=some y):x≠none:=fun z=>by rw [z] at h;cases h
theorem Wk.base {e:En} {F:Hp} {L:LO} {H:Hp} (k:Wk e F L H):Gr F H F H :=
 ⟨Same.refl _,fun _ _ _ h=>h,fun _ h=>h,k.fh,fun _ _ h=>h,k.tp,fun _ h=>(nomatch h),List.nodup_nil⟩
theorem Wk.trans {e:En} {F F' : Hp} {L L' : LO} {H H' : Hp} (a:Wk e F L H) (b:Wk ⟨F,H,[]⟩ F' L' H'):Wk e F' (L'++L) H' where
 ff:=a.ff.trans b.ff
 hh:=fun x o hx h=>b.hh x o (fun z=>nomatch z) (a.hh x o hx h)
 th:=fun x h=>b.th x (a.th x h)
 fh:=b.fh
 nw:=fun x h h'=>b.nw x (a.th x h) (a.nw x h h')
 tp:=b.tp
 ow:=fun p hp=>by
  rcases List.mem_append.mp hp with hp | hp
  ·obtain ⟨h1,h2,h3⟩:=b.ow p hp
   refine ⟨h1,h2,.inl ?_⟩
   rcases h3 with h3 | h3
   ·cases q:e.H0 p.1 with
    | none=>rfl
    | some o=>exact absurd h3 (a.th p.1 (ne_some q))
   ·exact nomatch h3
  ·obtain ⟨h1,h2,h3⟩:=a.ow p hp
   exact ⟨b.nw p.1 (ne_some h2) h1,b.hh p.1 p.2 (fun z=>nomatch z) h2,h3⟩
 nd:=by
  rw [List.map_append]
  refine List.nodup_append.mpr ⟨b.nd,a.nd,fun x hx y hy z=>?_⟩
  obtain ⟨p,hp,rfl⟩:=List.mem_map.mp hx
  obtain ⟨q,hq,rfl⟩:=List.mem_map.mp hy
  obtain ⟨_,_,h3⟩:=b.ow p hp
  obtain ⟨_,h2,_⟩:=a.ow q hq
  rcases h3 with h3 | h3
  ·have h4:H q.1=none:=(show p.1=q.1 from z)▸(show H p.1=none from h3)
   rw [h2] at h4
   cases h4
  ·exact nomatch h3
theorem Wk.Zbc {e:En} {F F' : Hp} {L:LO} {H H' : Hp} (a:Wk e F L H) (b:Gr F H F' H'):Wk e F' L H':=a.trans b
theorem Wk.sub {e:En} {F:Hp} {L L' : LO} {H:Hp} (a:Wk e F L H) (hs:∀ p∈L',p∈L) (hn:(L'.map Prod.fst).Nodup):Wk e F L' H :=
 ⟨a.ff,a.hh,a.th,a.fh,a.nw,a.tp,fun p hp=>a.ow p (hs p hp),hn⟩
theorem nodup_part {L1 Li L2:LO} (h:((L1++Li++L2).map Prod.fst).Nodup):((L1++L2).map Prod.fst).Nodup:=by
 simp only [List.map_append] at h ⊢
 have h1:=List.nodup_append.mp h
 have h2:=List.nodup_append.mp h1.1
 exact List.nodup_append.mpr ⟨h2.1,h1.2.1,fun x hx y hy=>h1.2.2 x (List.mem_append_left _ hx) y hy⟩
theorem Wk.drop {e:En} {F:Hp} {L1 Li L2:LO} {H:Hp} (a:Wk e F (L1++Li++L2) H):Wk e F (L1++L2) H :=
 a.sub (fun p hp=>by
  rcases List.mem_append.mp hp with h | h
  ·exact List.mem_append_left _ (List.mem_append_left _ h)
  ·exact List.mem_append_right _ h) (nodup_part a.nd)
theorem nodup_mid {L1 Li L2:LO} (h:((L1++Li++L2).map Prod.fst).Nodup):((Li++(L1++L2)).map Prod.fst).Nodup:=by
 simp only [List.map_append] at h ⊢
 refine (List.Perm.nodup_iff ?_).mp h
 rw [← List.append_assoc]
 exact List.Perm.append_right _ List.perm_append_comm
theorem nodup_back {L1 Li L2:LO} (h:((Li++(L1++L2)).map Prod.fst).Nodup):((L1++Li++L2).map Prod.fst).Nodup:=by
 simp only [List.map_append] at h ⊢
 refine (List.Perm.nodup_iff ?_).mp h
 rw [← List.append_assoc]
 exact List.Perm.append_right _ List.perm_append_comm
theorem Wk.front {e:En} {F:Hp} {L1 Li L2:LO} {H:Hp} (a:Wk e F (L1++Li++L2) H):Wk e F (Li++(L1++L2)) H :=
 a.sub (fun p hp=>by simp only [List.mem_append] at hp ⊢;rcases hp with h | h | h<;>simp [h]) (nodup_mid a.nd)
theorem Wk.back {e:En} {F:Hp} {L1 Li L2:LO} {H:Hp} (a:Wk e F (Li++(L1++L2)) H):Wk e F (L1++Li++L2) H :=
 a.sub (fun p hp=>by simp only [List.mem_append] at hp ⊢;rcases hp with (h | h) | h<;>simp [h]) (nodup_back a.nd)
theorem Wk.own {e:En} {F:Hp} {L:LO} {H:Hp} {p:Addr} {o:HO} (a:Wk e F L H) (hp:H p=none) (ht:∀ xs,o ≠ .tup xs):Wk e F ((p,o)::L) (upd H p o) where
 ff:=a.ff
 hh:=fun x u hx h=>by rw [upd_ne (ne_of_none (a.hh x u hx h) hp)];exact a.hh x u hx h
 th:=fun x h=>by
  by_cases hx:x=p
  ·subst hx;rw [upd_same];exact fun z=>nomatch z
  ·rw [upd_ne hx];exact a.th x h
 fh:=fun x u h=>by rw [upd_ne (ne_of_none (a.fh x u h) hp)];exact a.fh x u h
 nw:=a.nw
 tp:=fun x xs h=>by
  by_cases hx:x=p
  ·subst hx;rw [upd_same] at h;exact absurd (Option.some.inj h) (ht xs)
  ·rw [upd_ne hx] at h;exact a.tp x xs h
 ow:=fun q hq=>by
  rcases List.mem_cons.mp hq with rfl | hq
  ·refine ⟨Same.free a.fh hp,upd_same,.inl ?_⟩
   cases z:e.H0 p with
   | none=>rfl
   | some u=>exact absurd hp (a.th p (ne_some z))
  ·obtain ⟨h1,h2,h3⟩:=a.ow q hq
   exact ⟨h1,by rw [upd_ne (ne_of_none h2 hp)];exact h2,h3⟩
 nd:=by
  refine List.nodup_cons.mpr ⟨fun z=>?_,a.nd⟩
  obtain ⟨q,hq,e1⟩:=List.mem_map.mp z
  obtain ⟨_,h2,_⟩:=a.ow q hq
  rw [show q.1=p from e1,hp] at h2
  cases h2
theorem Wk.freeze1 {e:En} {F:Hp} {L:LO} {H:Hp} {p:Addr} {o:HO} (a:Wk e F ((p,o)::L) H) (hm:p∉e.M):Wk e (upd F p o) L H where
 ff:=fun x u h=>by
  have h1:=(a.ow (p,o) List.mem_cons_self).1
  rw [upd_ne (ne_of_none (a.ff x u h) h1)]
  exact a.ff x u h
 hh:=a.hh
 th:=a.th
 fh:=fun x u h=>by
  by_cases hx:x=p
  ·subst hx;rw [upd_same] at h;cases h
   exact (a.ow (x,o) List.mem_cons_self).2.1
  ·rw [upd_ne hx] at h;exact a.fh x u h
 nw:=fun x h h'=>by
  have hx:x≠p:=fun z=>by
   subst z
   rcases (a.ow (x,o) List.mem_cons_self).2.2 with z | z
   ·exact h z
   ·exact hm z
  rw [upd_ne hx];exact a.nw x h h'
 tp:=fun x xs h=>by
  by_cases hx:x=p
  ·subst hx
   have h2:=(a.ow (x,o) List.mem_cons_self).2.1
   rw [upd_same,← h2,h]
  ·rw [upd_ne hx];exact a.tp x xs h
 ow:=fun q hq=>by
  obtain ⟨h1,h2,h3⟩:=a.ow q (List.mem_cons_of_mem _ hq)
  have hx:q.1≠p:=fun z=>(List.nodup_cons.mp a.nd).1 (List.mem_map.mpr ⟨q,hq,z⟩)
  exact ⟨by rw [upd_ne hx];exact h1,h2,h3⟩
 nd:=(List.nodup_cons.mp a.nd).2
def plus (F:Hp):LO→Hp
 | []=>F
 | p::L=>plus (upd F p.1 p.2) L
theorem Wk.freeze:∀ {Li L:LO} {e:En} {F:Hp} {H:Hp},Wk e F (Li++L) H→(∀ p∈Li,p.1∉e.M)→Wk e (plus F Li) L H
 | [],_,_,_,_,a,_=>a
 | p::Li,L,e,F,H,a,hm=>Wk.freeze (Li:=Li) (Wk.freeze1 (p:=p.1) (o:=p.2) a (hm p List.mem_cons_self)) fun q hq=>hm q (List.mem_cons_of_mem _ hq)
theorem same_plus:∀ {Li:LO} {F:Hp},(∀ p∈Li,F p.1=none)→(Li.map Prod.fst).Nodup→Same F (plus F Li)
 | [],F,_,_=>Same.refl F
 | p::Li,F,h,hn=>by
  have h1:Same F (upd F p.1 p.2):=fun x u e=>by rw [upd_ne (ne_of_none e (h p List.mem_cons_self))];exact e
  refine h1.trans (same_plus (fun q hq=>?_) (List.nodup_cons.mp hn).2)
  have hx:q.1≠p.1:=fun z=>(List.nodup_cons.mp hn).1 (List.mem_map.mpr ⟨q,hq,z⟩)
  rw [upd_ne hx]
  exact h q (List.mem_cons_of_mem _ hq)
theorem plus_get:∀ {Li:LO} {F:Hp},(∀ p∈Li,F p.1=none)→(Li.map Prod.fst).Nodup → ∀ p∈Li,plus F Li p.1=some p.2
 | [],_,_,_,_,hq=>nomatch hq
 | p::Li,F,h,hn,q,hq=>by
  have hb:∀ r∈Li,upd F p.1 p.2 r.1=none:=fun r hr=>by
   have hx:r.1≠p.1:=fun z=>(List.nodup_cons.mp hn).1 (List.mem_map.mpr ⟨r,hr,z⟩)
   rw [upd_ne hx]
   exact h r (List.mem_cons_of_mem _ hr)
  rcases List.mem_cons.mp hq with rfl | hq
  ·exact same_plus hb (List.nodup_cons.mp hn).2 q.1 q.2 upd_same
  ·exact plus_get (Li:=Li) hb (List.nodup_cons.mp hn).2 q hq
theorem Wk.lay {e:En} {F:Hp} {L:LO} {H:Hp} {p:Addr} {o:HO} (a:Wk e F L H) (hp:H p=none):Wk e (upd F p o) L (upd H p o) where
 ff:=fun x u h=>by rw [upd_ne (ne_of_none (a.ff x u h) (Same.free a.fh hp))];exact a.ff x u h
 hh:=fun x u hx h=>by rw [upd_ne (ne_of_none (a.hh x u hx h) hp)];exact a.hh x u hx h
 th:=fun x h=>by
  by_cases hx:x=p
  ·subst hx;rw [upd_same];exact fun z=>nomatch z
  ·rw [upd_ne hx];exact a.th x h
 fh:=fun x u h=>by
  by_cases hx:x=p
  ·subst hx;rw [upd_same] at h ⊢;exact h
  ·rw [upd_ne hx] at h ⊢;exact a.fh x u h
 nw:=fun x h h'=>by
  have hx:x≠p:=fun z=>by subst z;exact a.th x h hp
  rw [upd_ne hx];exact a.nw x h h'
 tp:=fun x xs h=>by
  by_cases hx:x=p
  ·subst hx;rw [upd_same] at h ⊢;exact h
  ·rw [upd_ne hx] at h ⊢;exact a.tp x xs h
 ow:=fun q hq=>by
  obtain ⟨h1,h2,h3⟩:=a.ow q hq
  have hx:q.1≠p:=ne_of_none h2 hp
  exact ⟨by rw [upd_ne hx];exact h1,by rw [upd_ne hx];exact h2,h3⟩
 nd:=a.nd
theorem Wk.put {e:En} {F:Hp} {L:LO} {H:Hp} {p:Addr} {o o' : HO} (a:Wk e F ((p,o)::L) H) (ht:∀ xs,o' ≠ .tup xs):Wk e F ((p,o')::L) (upd H p o') where
 ff:=a.ff
 hh:=fun x u hx h=>by
  have hp:x≠p:=fun z=>by
   subst z
   rcases (a.ow (x,o) List.mem_cons_self).2.2 with z | z
   ·rw [show e.H0 x=none from z] at h;cases h
   ·exact hx z
  rw [upd_ne hp];exact a.hh x u hx h
 th:=fun x h=>by
  by_cases hx:x=p
  ·subst hx;rw [upd_same];exact fun z=>nomatch z
  ·rw [upd_ne hx];exact a.th x h
 fh:=fun x u h=>by
  rw [upd_ne (ne_of_none h (a.ow (p,o) List.mem_cons_self).1)];exact a.fh x u h
 nw:=a.nw
 tp:=fun x xs h=>by
  by_cases hx:x=p
  ·subst hx;rw [upd_same] at h;exact absurd (Option.some.inj h) (ht xs)
  ·rw [upd_ne hx] at h;exact a.tp x xs h
 ow:=fun q hq=>by
  rcases List.mem_cons.mp hq with rfl | hq
  ·obtain ⟨h1,_,h3⟩:=a.ow (p,o) List.mem_cons_self
   exact ⟨h1,upd_same,h3⟩
  ·obtain ⟨h1,h2,h3⟩:=a.ow q (List.mem_cons_of_mem _ hq)
   have hx:q.1≠p:=fun z=>(List.nodup_cons.mp a.nd).1 (List.mem_map.mpr ⟨q,hq,z⟩)
   exact ⟨h1,by rw [upd_ne hx];exact h2,h3⟩
 nd:=by
  have h:=a.nd
  exact h
class Dat (α:Type) where
 rep:GCtx→Hp→V→α→Prop
 mono:∀ {C:GCtx} {F F' : Hp} {v:V} {x:α},Same F F'→rep C F v x→rep C F' v x
class OD (α:Type) [d:Dat α] where
 orep:GCtx→Hp→V→α→LO→Prop
 omono:∀ {C:GCtx} {F F' : Hp} {v:V} {x:α} {L:LO},Same F F'→orep C F v x L→orep C F' v x L
 view:∀ {C:GCtx} {F H:Hp} {v:V} {x:α} {L:LO},orep C F v x L→Same F H→(∀ p∈L,H p.1=some p.2)→d.rep C H v x
class Imm (α:Type) [d:Dat α]:Prop where
 imm:∀ {C:GCtx} {F H:Hp} {v:V} {x:α},(∀ a xs,H a=some (.tup xs)→F a=some (.tup xs))→d.rep C H v x→d.rep C F v x
inductive Cell:Type 1 where
 | no:Cell
 | val {α:Type} (d:Dat α) (x:α):Cell
 | own {α:Type} (d:Dat α) (od:OD α) (pin:Option V) (x:α):Cell
abbrev cv {α:Type} [d:Dat α] (x:α):Cell:=.val d x
abbrev cp {α:Type} [d:Dat α] [od:OD α] (v:V) (x:α):Cell:=.own d od (some v) x
def Zdf (C:GCtx) (F:Hp) (o:Option V):Cell→LO→Prop
 | .no,L=>L=[]
 | .val d x,L=>L=[] ∧ ∃ v,o=some v∧d.rep C F v x
 | .own _ od pin x,L=>∃ v,o=some v∧(∀ u,pin=some u→v=u)∧od.orep C F v x L
theorem Zdf.mono {C:GCtx} {F F' : Hp} {o:Option V}:∀ {c:Cell} {L:LO},Same F F'→Zdf C F o c L→Zdf C F' o c L
 | .no,_,_,h=>h
 | .val d x,_,s,⟨h,v,e,r⟩=>⟨h,v,e,d.mono s r⟩
 | .own _ od pin x,_,s,⟨v,e,p,r⟩=>⟨v,e,p,od.omono s r⟩
inductive Slots (C:GCtx) (F:Hp):St→List Cell→LO→Prop where
 | nil:Slots C F [] [] []
 | cons {o:Option V} {c:Cell} {L L' : LO} {σ:St} {Γ:List Cell} (h:Zdf C F o c L) (r:Slots C F σ Γ L'):Slots C F (o::σ) (c::Γ) (L++L')
theorem Slots.mono {C:GCtx} {F F' : Hp} {σ:St} {Γ:List Cell} {L:LO} (s:Same F F') (h:Slots C F σ Γ L):Slots C F' σ Γ L:=by
 induction h with
 | nil=>exact .nil
 | cons h _ ih=>exact .cons (h.mono s) ih
theorem Slots.len {C:GCtx} {F:Hp} {σ:St} {Γ:List Cell} {L:LO} (h:Slots C F σ Γ L):σ.length=Γ.length:=by
 induction h with
 | nil=>rfl
 | cons h _ ih=>simp [ih]
theorem Slots.get {C:GCtx} {F:Hp} {σ:St} {Γ:List Cell} {L:LO} (h:Slots C F σ Γ L):∀ {i:Nat} {c:Cell},Γ[i]? = some c →
  ∃ o L1 Li L2,σ[i]? = some o∧L=L1++Li++L2∧Zdf C F o c Li ∧ ∀ F' o' c' Li',Same F F'→Zdf C F' o' c' Li'→Slots C F' (σ.set i o') (Γ.set i c') (L1++Li'++L2):=by
 induction h with
 | nil=>intro i c h;cases i<;>cases h
 | @cons o c0 L L' σ Γ h r ih =>
  intro i c hi
  cases i with
  | zero =>
   cases (Option.some.inj hi:c0=c)
   exact ⟨o,[],L,L',rfl,rfl,h,fun F' o' c' Li' s h'=>.cons h' (r.mono s)⟩
  | succ i =>
   obtain ⟨o1,L1,Li,L2,e1,e2,h1,f⟩:=ih (i:=i) (c:=c) hi
   refine ⟨o1,L++L1,Li,L2,e1,by rw [e2];simp [List.append_assoc],h1,fun F' o' c' Li' s h'=>?_⟩
   have q:=Slots.cons (h.mono s) (f F' o' c' Li' s h')
   simpa [List.append_assoc] using q
theorem Slots.take {C:GCtx} {F:Hp} {σ:St} {Γ:List Cell} {L:LO} (h:Slots C F σ Γ L) (n:Nat):∃ L1,Slots C F (σ.take n) (Γ.take n) L1∧L1.Sublist L:=by
 induction h generalizing n with
 | nil=>exact ⟨[],by simpa using Slots.nil,List.Sublist.refl _⟩
 | @cons o c0 L L' σ Γ h r ih =>
  cases n with
  | zero=>exact ⟨[],by simpa using Slots.nil,List.nil_sublist _⟩
  | succ n =>
   obtain ⟨L1,q,s⟩:=ih n
   exact ⟨L++L1,by simpa using Slots.cons h q,List.Sublist.append (List.Sublist.refl _) s⟩
inductive XV where
 | int (n:Int)
 | str (s:Str)
 | pair (i j:Int)
 deriving DecidableEq
structure Exn where
 cls:Addr
 fs:Option (List (Str×XV))
def XR (F:Hp):XV→V→Prop
 | .int n,v=>v = .int n
 | .str s,v=>v = .str s
 | .pair i j,v=>∃ a,v = .ref a∧F a=some (.tup [.int i,.int j])
def XRs (F:Hp):List (Str×XV)→List (Str×V)→Prop
 | [],[]=>True
 | (k,x)::xs,(k',v)::vs=>k=k'∧XR F x v∧XRs F xs vs
 | _,_=>False
theorem XR.mono {F F' : Hp} (s:Same F F'):∀ {x:XV} {v:V},XR F x v→XR F' x v
 | .int _,_,h=>h
 | .str _,_,h=>h
 | .pair _ _,_,⟨a,e,h⟩=>⟨a,e,s _ _ h⟩
theorem XRs.mono {F F' : Hp} (s:Same F F'):∀ {xs:List (Str×XV)} {vs:List (Str×V)},XRs F xs vs→XRs F' xs vs
 | [],[],_=>trivial
 | _::_,_::_,⟨e,h,r⟩=>⟨e,h.mono s,XRs.mono s r⟩
 | [],_::_,h=>h.elim
 | _::_,[],h=>h.elim
theorem XRs.look {F:Hp} {f:Str} {x:XV}:∀ {xs:List (Str×XV)} {vs:List (Str×V)},XRs F xs vs→xs.lookup f=some x → ∃ v,vs.lookup f=some v∧XR F x v
 | [],[],_,h=>nomatch h
 | (k,y)::xs,(k',v)::vs,⟨e,h,r⟩,hl=>by
  subst e
  rw [List.lookup_cons] at hl ⊢
  cases hk:f == k with
  | true=>rw [hk] at hl;cases hl;exact ⟨v,rfl,h⟩
  | false=>rw [hk] at hl;exact XRs.look r hl
 | [],_::_,h,_=>h.elim
 | _::_,[],h,_=>h.elim
def Exn.at (x:Exn) (F:Hp):Option Addr→Prop
 | none=>x.fs=none
 | some dd=>∃ fs fs',x.fs=some fs∧F dd=some (.xd fs')∧XRs F fs fs'
structure YC where
 g:GCtx
 E:St→XK
 kx:Exn→List Cell→Prop
abbrev YC.K (Y:YC):PySem.W.Frag:=Y.g.K
abbrev YC.w (Y:YC):World:=Y.g.w
abbrev YC.P (Y:YC):Program:=Y.g.P
abbrev calm (C:GCtx):YC:=⟨C,fun _ _ _ _=>False,fun _ _=>False⟩
def St0 (C:GCtx) (e:En) (F:Hp) (σ:St) (H:Hp) (Γ:List Cell):Prop:=∃ L,Wk e F L H∧Slots C F σ Γ L
def XOk (Y:YC) (e:En):Prop:=∀ (x:Exn) (d:Option Addr) (F:Hp) (σ:St) (H:Hp) (Γ:List Cell),Y.kx x Γ→St0 Y.g e F σ H Γ→x.at F d→Y.E σ (.ref x.cls) d H
def State (Y:YC) (e:En) (F:Hp) (σ:St) (H:Hp) (Γ:List Cell):Prop:=XOk Y e ∧ ∃ L,Wk e F L H∧Slots Y.g F σ Γ L
section
variable {C:GCtx} {Y:YC} {e:En} {F F' : Hp} {σ:St} {H H' : Hp} {Γ:List Cell}
theorem State.grow (s:State Y e F σ H Γ) (g:Gr F H F' H'):State Y e F' σ H' Γ:=by
 obtain ⟨hx,L,k,sl⟩:=s
 exact ⟨hx,L,k.Zbc g,sl.mono g.ff⟩
theorem State.base (s:State Y e F σ H Γ):Gr F H F H:=let ⟨_,_,k,_⟩:=s;k.base
theorem State.fh (s:State Y e F σ H Γ):Same F H:=let ⟨_,_,k,_⟩:=s;k.fh
theorem State.val {α:Type} {d:Dat α} {x:α} {i:Nat} (s:State Y e F σ H Γ) (h:Γ[i]? = some (.val d x)):∃ v,σ[i]? = some (some v)∧d.rep Y.g F v x:=by
 obtain ⟨hx,L,k,sl⟩:=s
 obtain ⟨o,L1,Li,L2,e1,_,⟨_,v,rfl,r⟩,_⟩:=sl.get h
 exact ⟨v,e1,r⟩
theorem State.own {α:Type} {d:Dat α} {od:OD α} {x:α} {i:Nat} {pin:Option V} (s:State Y e F σ H Γ) (h:Γ[i]? = some (.own d od pin x)):∃ v,σ[i]? = some (some v)∧d.rep Y.g H v x:=by
 obtain ⟨hx,L,k,sl⟩:=s
 obtain ⟨o,L1,Li,L2,e1,e2,⟨v,rfl,_,r⟩,_⟩:=sl.get h
 exact ⟨v,e1,od.view r k.fh fun p hp=>(k.ow p (by rw [e2];exact List.mem_append_left _ (List.mem_append_right _ hp))).2.1⟩
theorem State.set {c c' : Cell} {i:Nat} {v:V} {L' : LO} (s:State Y e F σ H Γ) (h:Γ[i]? = some c) (g:Wk ⟨F,H,[]⟩ F' L' H') (r:Zdf Y.g F' (some v) c' L'):State Y e F' (σ.set i (some v)) H' (Γ.set i c'):=by
 obtain ⟨hx,L,k,sl⟩:=s
 obtain ⟨o,L1,Li,L2,e1,e2,_,f⟩:=sl.get h
 refine ⟨hx,L1++L'++L2,?_,f F' (some v) c' L' g.ff r⟩
 have q:=k.trans g
 rw [e2] at q
 have q2:Wk e F' ((L'++L1)++Li++L2) H':=by simpa [List.append_assoc] using q
 have q3:=q2.drop
 have q4:Wk e F' (L'++(L1++L2)) H':=by simpa [List.append_assoc] using q3
 exact q4.back
theorem State.forget {i:Nat} {c:Cell} {o:Option V} (s:State Y e F σ H Γ) (h:Γ[i]? = some c):State Y e F (σ.set i o) H (Γ.set i .no):=by
 obtain ⟨hx,L,k,sl⟩:=s
 obtain ⟨o1,L1,Li,L2,e1,e2,_,f⟩:=sl.get h
 rw [e2] at k
 have q:=f F o .no [] (Same.refl _) rfl
 rw [List.append_nil] at q
 exact ⟨hx,L1++L2,k.drop,q⟩
theorem State.hide {i:Nat} {c:Cell} (s:State Y e F σ H Γ) (h:Γ[i]? = some c):State Y e F σ H (Γ.set i .no):=by
 obtain ⟨hx,L,k,sl⟩:=s
 obtain ⟨o1,L1,Li,L2,e1,e2,_,f⟩:=sl.get h
 rw [e2] at k
 have q:=f F o1 .no [] (Same.refl _) rfl
 rw [List.append_nil] at q
 have z:σ.set i o1=σ:=by
  apply List.ext_getElem?
  intro j
  by_cases hj:i=j
  ·subst hj
   obtain ⟨hlt,hv⟩:=List.getElem?_eq_some_iff.mp e1
   rw [List.getElem?_set_self hlt,e1]
  ·rw [List.getElem?_set_ne hj]
 rw [z] at q
 exact ⟨hx,L1++L2,k.drop,q⟩
end
end G
namespace G
open PySem L2
theorem Wk.hh0 {F H F' H' : Hp} {L:LO} (g:Wk ⟨F,H,[]⟩ F' L H'):Same H H':=fun a o h=>g.hh a o (fun z=>nomatch z) h
instance dInt:Dat Int:=⟨fun _ _ v x=>v = .int x,fun _ h=>h⟩
instance dBool:Dat Bool:=⟨fun _ _ v x=>v = .bl x,fun _ h=>h⟩
instance dStr:Dat Str:=⟨fun _ _ v x=>v = .str x,fun _ h=>h⟩
instance dUnit:Dat Unit:=⟨fun _ _ v _=>v = .non,fun _ h=>h⟩
instance imInt:Imm Int:=⟨fun _ h=>h⟩
instance imBool:Imm Bool:=⟨fun _ h=>h⟩
instance imStr:Imm Str:=⟨fun _ h=>h⟩
instance imUnit:Imm Unit:=⟨fun _ h=>h⟩
inductive Opt (α:Type) where
 | none:Opt α
 | some (x:α):Opt α
 deriving DecidableEq
instance dOpt {α:Type} [d:Dat α]:Dat (Opt α):=⟨fun C F v x=>match x with | .none=>v = .non | .some y=>d.rep C F v y,fun {C F F' v x} s h=>match x,h with | .none,h=>h | .some _,h=>d.mono s h⟩
instance imOpt {α:Type} [d:Dat α] [i:Imm α]:Imm (Opt α):=⟨fun {C F H v x} t h=>match x,h with | .none,h=>h | .some _,h=>i.imm t h⟩
def Reps {α:Type} (d:Dat α) (C:GCtx) (F:Hp):List V→List α→Prop
 | [],[]=>True
 | v::vs,x::xs=>d.rep C F v x∧Reps d C F vs xs
 | _,_=>False
section
variable {α:Type} {d:Dat α} {C:GCtx} {Y:YC} {F F' : Hp}
theorem Reps.mono (s:Same F F'):∀ {vs:List V} {xs:List α},Reps d C F vs xs→Reps d C F' vs xs
 | [],[],_=>trivial
 | _::_,_::_,h=>⟨d.mono s h.1,Reps.mono s h.2⟩
 | [],_::_,h=>h.elim
 | _::_,[],h=>h.elim
theorem Reps.len:∀ {vs:List V} {xs:List α},Reps d C F vs xs→vs.length=xs.length
 | [],[],_=>rfl
 | _::_,_::_,h=>by simp [Reps.len h.2]
 | [],_::_,h=>h.elim
 | _::_,[],h=>h.elim
theorem Reps.get:∀ {vs:List V} {xs:List α} {i:Nat} {x:α},Reps d C F vs xs→xs[i]? = some x → ∃ v,vs[i]? = some v∧d.rep C F v x
 | [],[],i,x,_,h=>by cases i<;>cases h
 | v::vs,y::xs,0,x,h,e=>by cases (Option.some.inj e:y=x);exact ⟨v,rfl,h.1⟩
 | v::vs,y::xs,i+1,x,h,e=>Reps.get (i:=i) h.2 e
 | [],_::_,_,_,h,_=>h.elim
 | _::_,[],_,_,h,_=>h.elim
theorem Reps.getV:∀ {vs:List V} {xs:List α} {i:Nat} {v:V},Reps d C F vs xs→vs[i]? = some v → ∃ x,xs[i]? = some x∧d.rep C F v x
 | [],[],i,x,_,h=>by cases i<;>cases h
 | v::vs,y::xs,0,x,h,e=>by cases (Option.some.inj e:v=x);exact ⟨y,rfl,h.1⟩
 | v::vs,y::xs,i+1,x,h,e=>Reps.getV (i:=i) h.2 e
 | [],_::_,_,_,h,_=>h.elim
 | _::_,[],_,_,h,_=>h.elim
theorem Reps.append:∀ {vs ws:List V} {xs ys:List α},Reps d C F vs xs→Reps d C F ws ys→Reps d C F (vs++ws) (xs++ys)
 | [],_,[],_,_,h=>h
 | _::_,_,_::_,_,h,g=>⟨h.1,Reps.append h.2 g⟩
 | [],_,_::_,_,h,_=>h.elim
 | _::_,_,[],_,h,_=>h.elim
theorem Reps.one {v:V} {x:α} (h:d.rep C F v x):Reps d C F [v] [x]:=⟨h,trivial⟩
theorem Reps.take:∀ {vs:List V} {xs:List α} (n:Nat),Reps d C F vs xs→Reps d C F (vs.take n) (xs.take n)
 | [],[],n,_=>by simp [Reps]
 | _::_,_::_,0,_=>trivial
 | _::_,_::_,n+1,h=>⟨h.1,Reps.take n h.2⟩
 | [],_::_,_,h=>h.elim
 | _::_,[],_,h=>h.elim
theorem Reps.drop:∀ {vs:List V} {xs:List α} (n:Nat),Reps d C F vs xs→Reps d C F (vs.drop n) (xs.drop n)
 | [],[],n,_=>by simp [Reps]
 | _::_,_::_,0,h=>h
 | _::_,_::_,n+1,h=>Reps.drop n h.2
 | [],_::_,_,h=>h.elim
 | _::_,[],_,h=>h.elim
theorem Reps.set {v:V} {x:α}:∀ {vs:List V} {xs:List α} (i:Nat),Reps d C F vs xs→d.rep C F v x→Reps d C F (vs.set i v) (xs.set i x)
 | [],[],_,_,_=>trivial
 | _::_,_::_,0,h,g=>⟨g,h.2⟩
 | _::_,_::_,i+1,h,g=>⟨h.1,Reps.set i h.2 g⟩
 | [],_::_,_,h,_=>h.elim
 | _::_,[],_,h,_=>h.elim
theorem Reps.ints:∀ {vs:List V} {xs:List Int},Reps dInt C F vs xs→vs=xs.map V.int
 | [],[],_=>rfl
 | _::_,_::_,h=>by rw [Reps.ints h.2,show _=V.int _ from h.1];rfl
 | [],_::_,h=>h.elim
 | _::_,[],h=>h.elim
theorem Reps.ofInts:∀ (xs:List Int),Reps dInt C F (xs.map V.int) xs
 | []=>trivial
 | _::xs=>⟨rfl,Reps.ofInts xs⟩
theorem Reps.bools:∀ {vs:List V} {xs:List Bool},Reps dBool C F vs xs→vs=xs.map V.bl
 | [],[],_=>rfl
 | _::_,_::_,h=>by rw [Reps.bools h.2,show _=V.bl _ from h.1];rfl
 | [],_::_,h=>h.elim
 | _::_,[],h=>h.elim
theorem Reps.imm [i : @Imm α d] {H:Hp} (t:∀ a xs,H a=some (.tup xs)→F a=some (.tup xs)):∀ {vs:List V} {xs:List α},Reps d C H vs xs→Reps d C F vs xs
 | [],[],_=>trivial
 | _::_,_::_,h=>⟨i.imm t h.1,Reps.imm t h.2⟩
 | [],_::_,h=>h.elim
 | _::_,[],h=>h.elim
end
def TpA (K:PySem.W.Frag) (F:Hp) (a:Addr) (xs:List V):Prop:=F a=some (.tup xs)∨(SqT K (fun _=>none) a xs∧xs≠[] ∧ ∀ x∈xs,∃ t,x=V.str t)
theorem TpA.mono {K:PySem.W.Frag} {F F' : Hp} {a:Addr} {xs:List V} (s:Same F F') (h:TpA K F a xs):TpA K F' a xs:=h.imp (s a _) id
theorem TpA.sq {K:PySem.W.Frag} {F:Hp} {a:Addr} {xs:List V} (h:TpA K F a xs):SqT K F a xs:=by
 rcases h with h | ⟨h,_⟩
 ·exact .inl (.inl h)
 ·rcases h with (h | ⟨_,h⟩) | h
  ·cases h
  ·cases h
  ·exact .inr h
theorem Same.rd {H H' : Hp} {a:Addr} {u:HO} (e:Same H H') (h:Rd H a u):Rd H' a u:=h.imp (e _ _) fun ⟨o,h⟩=>⟨o,e _ _ h⟩
instance {K:PySem.W.Frag} {H:Hp} {a:Addr} {xs:List V}:Coe (Rd H a (.lst xs)) (SqL K H a xs):=⟨.inl⟩
instance dList {α:Type} [d:Dat α]:Dat (List α) :=
 ⟨fun C F v xs=>∃ a vs,v = .ref a∧Rd F a (.lst vs)∧Reps d C F vs xs,fun s ⟨a,vs,e,h,r⟩=>⟨a,vs,e,Same.rd s h,r.mono s⟩⟩
instance oList {α:Type} [d:Dat α]:OD (List α) where
 orep C F v xs L:=∃ a vs,v = .ref a∧L=[(a,.lst vs)]∧Reps d C F vs xs
 omono s:=fun ⟨a,vs,e,h,r⟩=>⟨a,vs,e,h,r.mono s⟩
 view:=fun ⟨a,vs,e,h,r⟩ s k=>⟨a,vs,e,.inl (k (a,.lst vs) (by rw [h];exact List.mem_cons_self)),r.mono s⟩
structure Tup (α:Type) where
 l:List α
 deriving DecidableEq
instance dTup {α:Type} [d:Dat α]:Dat (Tup α) :=
 ⟨fun C F v xs=>∃ a vs,v = .ref a∧TpA C.K F a vs∧Reps d C F vs xs.l,fun s ⟨a,vs,e,h,r⟩=>⟨a,vs,e,h.mono s,r.mono s⟩⟩
instance imTup {α:Type} [d:Dat α] [i:Imm α]:Imm (Tup α):=⟨fun t ⟨a,vs,e,h,r⟩=>⟨a,vs,e,h.imp (t a _) id,r.imm t⟩⟩
instance dPair {α β:Type} [d1:Dat α] [d2:Dat β]:Dat (α×β) :=
 ⟨fun C F v x=>∃ a v1 v2,v = .ref a∧TpA C.K F a [v1,v2]∧d1.rep C F v1 x.1∧d2.rep C F v2 x.2,fun s ⟨a,v1,v2,e,h,r1,r2⟩=>⟨a,v1,v2,e,h.mono s,d1.mono s r1,d2.mono s r2⟩⟩
instance imPair {α β:Type} [d1:Dat α] [d2:Dat β] [i1:Imm α] [i2:Imm β]:Imm (α×β):=⟨fun t ⟨a,v1,v2,e,h,r1,r2⟩=>⟨a,v1,v2,e,h.imp (t a _) id,i1.imm t r1,i2.imm t r2⟩⟩
structure T3 (α β γ:Type) where
 a:α
 b:β
 c:γ
 deriving DecidableEq
structure T4 (α β γ δ:Type) where
 a:α
 b:β
 c:γ
 d:δ
 deriving DecidableEq
instance dT3 {α β γ:Type} [d1:Dat α] [d2:Dat β] [d3:Dat γ]:Dat (T3 α β γ) :=
 ⟨fun C F v x=>∃ a v1 v2 v3,v = .ref a∧TpA C.K F a [v1,v2,v3]∧d1.rep C F v1 x.a∧d2.rep C F v2 x.b∧d3.rep C F v3 x.c,
  fun s ⟨a,v1,v2,v3,e,h,r1,r2,r3⟩=>⟨a,v1,v2,v3,e,h.mono s,d1.mono s r1,d2.mono s r2,d3.mono s r3⟩⟩
instance imT3 {α β γ:Type} [d1:Dat α] [d2:Dat β] [d3:Dat γ] [i1:Imm α] [i2:Imm β] [i3:Imm γ]:Imm (T3 α β γ) :=
 ⟨fun t ⟨a,v1,v2,v3,e,h,r1,r2,r3⟩=>⟨a,v1,v2,v3,e,h.imp (t a _) id,i1.imm t r1,i2.imm t r2,i3.imm t r3⟩⟩
instance dT4 {α β γ δ:Type} [d1:Dat α] [d2:Dat β] [d3:Dat γ] [d4:Dat δ]:Dat (T4 α β γ δ) :=
 ⟨fun C F v x=>∃ a v1 v2 v3 v4,v = .ref a∧TpA C.K F a [v1,v2,v3,v4]∧d1.rep C F v1 x.a∧d2.rep C F v2 x.b∧d3.rep C F v3 x.c∧d4.rep C F v4 x.d,
  fun s ⟨a,v1,v2,v3,v4,e,h,r1,r2,r3,r4⟩=>⟨a,v1,v2,v3,v4,e,h.mono s,d1.mono s r1,d2.mono s r2,d3.mono s r3,d4.mono s r4⟩⟩
instance imT4 {α β γ δ:Type} [d1:Dat α] [d2:Dat β] [d3:Dat γ] [d4:Dat δ] [i1:Imm α] [i2:Imm β] [i3:Imm γ] [i4:Imm δ]:Imm (T4 α β γ δ) :=
 ⟨fun t ⟨a,v1,v2,v3,v4,e,h,r1,r2,r3,r4⟩=>⟨a,v1,v2,v3,v4,e,h.imp (t a _) id,i1.imm t r1,i2.imm t r2,i3.imm t r3,i4.imm t r4⟩⟩
def W (Y:YC) (te:TE) (Γ:List Cell) {α:Type} (d:Dat α) (k:α→Prop):Prop:=∀ (e:En) (F:Hp) (σ:St) (H:Hp),State Y e F σ H Γ → ∀ Q:VK,(∀ v F' H' x,k x→Gr F H F' H'→d.rep Y.g F' v x→Q v H')→te σ H Q
def R (Y:YC) (te:TE) (Γ:List Cell) {α:Type} (d:Dat α) (k:α→Prop):Prop:=∀ (e:En) (F:Hp) (σ:St) (H:Hp),State Y e F σ H Γ → ∀ Q:VK,(∀ v F' H' x,k x→Gr F H F' H'→d.rep Y.g H' v x→Q v H')→te σ H Q
def O (Y:YC) (te:TE) (Γ:List Cell) {α:Type} {d:Dat α} (od:OD α) (k:α→Prop):Prop:=∀ (e:En) (F:Hp) (σ:St) (H:Hp),State Y e F σ H Γ → ∀ Q:VK,(∀ v F' H' L' x,k x→Wk ⟨F,H,[]⟩ F' L' H'→od.orep Y.g F' v x L'→Q v H')→te σ H Q
def T (Y:YC) (t:TT) (Γ:List Cell) (k:Bool→Prop):Prop:=∀ (e:En) (F:Hp) (σ:St) (H:Hp),State Y e F σ H Γ → ∀ Q:Bool→Hp→Prop,(∀ b F' H',k b→Gr F H F' H'→Q b H')→t σ H Q
def WA (Y:YC) (ta:TA) (Γ:List Cell) (k:List Cell→Prop):Prop:=∀ (e:En) (F:Hp) (σ:St) (H:Hp),State Y e F σ H Γ → ∀ Q:List V→Hp→Prop,(∀ vs F' H' cs,k cs→Gr F H F' H'→Slots Y.g F' (vs.map some) cs []→Q vs H')→ta σ H Q
section
variable {C:GCtx} {Y:YC} {Γ:List Cell} {te ta tb tc:TE} {t u:TT} {α β γ:Type} {d1:Dat α} {d:Dat α} {d2:Dat β} {d3:Dat γ}
theorem r_of_w {k:α→Prop} (h:W Y te Γ d k):R Y te Γ d k:=fun e F σ H s Q q=>h e F σ H s Q fun v F' H' x kx g r=>q v F' H' x kx g (d.mono g.fh r)
theorem Zef {k k' : α→Prop} (h:W Y te Γ d k) (m:∀ x,k x→k' x):W Y te Γ d k':=fun e F σ H s Q q=>h e F σ H s Q fun v F' H' x kx g r=>q v F' H' x (m x kx) g r
theorem t_mono {k k' : Bool→Prop} (h:T Y t Γ k) (m:∀ x,k x→k' x):T Y t Γ k':=fun e F σ H s Q q=>h e F σ H s Q fun b F' H' kx g=>q b F' H' (m b kx) g
theorem w_of_o {od : @OD α d} {k:α→Prop} (h:O Y te Γ od k):W Y te Γ d k:=fun e F σ H s Q q=>h e F σ H s Q fun v F' H' L' x kx g r=>by
 have g1:Wk ⟨F,H,[]⟩ F' (L'++[]) H':=by rw [List.append_nil];exact g
 have g2:Gr F H (plus F' L') H':=g1.freeze fun p hp z=>nomatch z
 refine q v _ H' x kx g2 (od.view r (same_plus (fun p hp=>(g.ow p hp).1) g.nd) (plus_get (fun p hp=>(g.ow p hp).1) g.nd))
theorem w_var {i:Nat} {x:α} {k:α→Prop} (h:Γ[i]? = some (.val d x)) (hk:k x):W Y (tVar i) Γ d k:=fun e F σ H s Q q=>by
 obtain ⟨v,e1,r⟩:=s.val h
 exact ⟨v,e1,q v F H x hk s.base r⟩
theorem r_varO {od : @OD α d} {pin:Option V} {i:Nat} {x:α} {k:α→Prop} (h:Γ[i]? = some (.own d od pin x)) (hk:k x):R Y (tVar i) Γ d k:=fun e F σ H s Q q=>by
 obtain ⟨v,e1,r⟩:=s.own h
 exact ⟨v,e1,q v F H x hk s.base r⟩
theorem w_int {n:Int} {k:Int→Prop} (hk:k n):W Y (tC (.int n)) Γ dInt k:=fun e F σ H s Q q=>q _ F H n hk s.base rfl
theorem w_bl {n:Bool} {k:Bool→Prop} (hk:k n):W Y (tC (.bl n)) Γ dBool k:=fun e F σ H s Q q=>q _ F H n hk s.base rfl
theorem w_str {n:Str} {k:Str→Prop} (hk:k n):W Y (tC (.str n)) Γ dStr k:=fun e F σ H s Q q=>q _ F H n hk s.base rfl
theorem w_non {k:Unit→Prop} (hk:k ()):W Y (tC .non) Γ dUnit k:=fun e F σ H s Q q=>q _ F H () hk s.base rfl
theorem w_ii {r:R2} {f:Int→Int→γ} {P:Int→Int→Prop} {ec:γ→V} {k:γ→Prop} (hd:∀ F z,d3.rep Y.g F (ec z) z) (hr:∀ i j H (Q:VK),P i j→Q (ec (f i j)) H→r (.int i) (.int j) H Q)
  (h:R Y ta Γ dInt fun x=>R Y tb Γ dInt fun y=>P x y∧k (f x y)):W Y (tOp r ta tb) Γ d3 k :=
 fun e F σ H s Q q=>h e F σ H s _ fun v1 F1 H1 x h1 g1 r1=>h1 e F1 σ H1 (s.grow g1) _ fun v2 F2 H2 y ⟨p,kz⟩ g2 r2=>by
  cases (show v1 = .int x from r1)
  cases (show v2 = .int y from r2)
  exact hr x y H2 Q p (q _ F2 H2 _ kz (g1.Zbc g2) (hd F2 _))
theorem w_i0 {r:R2} {f:Int→Int→γ} {ec:γ→V} {k:γ→Prop} (hd:∀ F z,d3.rep Y.g F (ec z) z) (hr:∀ i j H (Q:VK),Q (ec (f i j)) H→r (.int i) (.int j) H Q)
  (h:R Y ta Γ dInt fun x=>R Y tb Γ dInt fun y=>k (f x y)):W Y (tOp r ta tb) Γ d3 k :=
 fun e F σ H s Q q=>h e F σ H s _ fun v1 F1 H1 x h1 g1 r1=>h1 e F1 σ H1 (s.grow g1) _ fun v2 F2 H2 y kz g2 r2=>by
  cases (show v1 = .int x from r1)
  cases (show v2 = .int y from r2)
  exact hr x y H2 Q (q _ F2 H2 _ kz (g1.Zbc g2) (hd F2 _))
section
variable {k:Int→Prop} {kb:Bool→Prop}
theorem w_add (h:R Y ta Γ dInt fun x=>R Y tb Γ dInt fun y=>k (x+y)):W Y (tOp (rI0 fun i j=>.int (i+j)) ta tb) Γ dInt k:=w_i0 (ec:=V.int) (fun _ _=>rfl) (fun i j H Q q=>⟨i,j,rfl,rfl,q⟩) h
theorem w_mul (h:R Y ta Γ dInt fun x=>R Y tb Γ dInt fun y=>CMul x y∧k (x*y)):W Y (tOp (rI CMul fun i j=>.int (i*j)) ta tb) Γ dInt k:=w_ii (ec:=V.int) (fun _ _=>rfl) (fun i j H Q p q=>⟨i,j,rfl,rfl,p,q⟩) h
theorem w_mod (h:R Y ta Γ dInt fun x=>R Y tb Γ dInt fun y=>0<y∧k (x%y)):W Y (tOp (rI (fun _ j=>0<j) fun i j=>.int (i%j)) ta tb) Γ dInt k:=w_ii (P:=fun _ j=>0<j) (ec:=V.int) (fun _ _=>rfl) (fun i j H Q p q=>⟨i,j,rfl,rfl,p,q⟩) h
theorem w_fdiv (h:R Y ta Γ dInt fun x=>R Y tb Γ dInt fun y=>CDiv x y∧k (x/y)):W Y (tOp (rI CDiv fun i j=>.int (i/j)) ta tb) Γ dInt k:=w_ii (ec:=V.int) (fun _ _=>rfl) (fun i j H Q p q=>⟨i,j,rfl,rfl,p,q⟩) h
theorem w_pow (h:R Y ta Γ dInt fun x=>R Y tb Γ dInt fun y=>CPow x y∧k (x ^ y.toNat)):W Y (tOp (rI CPow fun i j=>.int (i ^ j.toNat)) ta tb) Γ dInt k:=w_ii (ec:=V.int) (fun _ _=>rfl) (fun i j H Q p q=>⟨i,j,rfl,rfl,p,q⟩) h
theorem w_lt (h:R Y ta Γ dInt fun x=>R Y tb Γ dInt fun y=>kb (decide (x<y))):W Y (tOp (rI0 fun i j=>.bl (decide (i<j))) ta tb) Γ dBool kb:=w_i0 (f:=fun i j=>decide (i<j)) (ec:=V.bl) (fun _ _=>rfl) (fun i j H Q q=>⟨i,j,rfl,rfl,q⟩) h
theorem w_gt (h:R Y ta Γ dInt fun x=>R Y tb Γ dInt fun y=>kb (decide (y<x))):W Y (tOp (rI0 fun i j=>.bl (decide (j<i))) ta tb) Γ dBool kb:=w_i0 (f:=fun i j=>decide (j<i)) (ec:=V.bl) (fun _ _=>rfl) (fun i j H Q q=>⟨i,j,rfl,rfl,q⟩) h
theorem w_ge (h:R Y ta Γ dInt fun x=>R Y tb Γ dInt fun y=>kb (decide (y≤x))):W Y (tOp (rI0 fun i j=>.bl (decide (j≤i))) ta tb) Γ dBool kb:=w_i0 (f:=fun i j=>decide (j≤i)) (ec:=V.bl) (fun _ _=>rfl) (fun i j H Q q=>⟨i,j,rfl,rfl,q⟩) h
theorem w_neg (h:R Y ta Γ dInt fun x=>k (-x)):W Y (tUn (rU fun i=>.int (-i)) ta) Γ dInt k:=fun e F σ H s Q q=>h e F σ H s _ fun v F' H' x kx g r=>by
 cases (show v = .int x from r)
 exact ⟨x,rfl,q _ F' H' _ kx g rfl⟩
end
theorem t_test {k:Bool→Prop} (h:R Y te Γ dBool k):T Y (tTest te) Γ k:=fun e F σ H s Q q=>h e F σ H s _ fun v F' H' x kx g r=>⟨x,r,q x F' H' kx g⟩
theorem t_B {k:Bool→Prop} (h:R Y te Γ dBool k):T Y (tB te) Γ k:=fun e F σ H s Q q=>h e F σ H s _ fun v F' H' x kx g r=>⟨x,r,q x F' H' kx g⟩
theorem t_not {k:Bool→Prop} (h:T Y t Γ fun b=>k (!b)):T Y (tNot t) Γ k:=fun e F σ H s Q q=>h e F σ H s _ fun b F' H' kx g=>q (!b) F' H' kx g
theorem t_and {k:Bool→Prop} (h:T Y t Γ fun b=>(b=true→T Y u Γ k)∧(b=false→k false)):T Y (tAnd t u) Γ k:=fun e F σ H s Q q=>h e F σ H s _ fun b F' H' kx g=>by
 cases b with
 | true=>exact kx.1 rfl e F' σ H' (s.grow g) Q fun b F2 H2 kb g2=>q b F2 H2 kb (g.Zbc g2)
 | false=>exact q false F' H' (kx.2 rfl) g
theorem t_or {k:Bool→Prop} (h:T Y t Γ fun b=>(b=true→k true)∧(b=false→T Y u Γ k)):T Y (tOr t u) Γ k:=fun e F σ H s Q q=>h e F σ H s _ fun b F' H' kx g=>by
 cases b with
 | false=>exact kx.2 rfl e F' σ H' (s.grow g) Q fun b F2 H2 kb g2=>q b F2 H2 kb (g.Zbc g2)
 | true=>exact q true F' H' (kx.1 rfl) g
theorem w_andV {k:Bool→Prop} (h:R Y ta Γ dBool fun a=>(a=true→W Y tb Γ dBool k)∧(a=false→k false)):W Y (tAndV ta tb) Γ dBool k:=fun e F σ H s Q q=>h e F σ H s _ fun v F' H' x kx g r=>⟨x,r,by
 cases x with
 | true=>exact kx.1 rfl e F' σ H' (s.grow g) Q fun v F2 H2 x kb g2 r=>q v F2 H2 x kb (g.Zbc g2) r
 | false=>exact q _ F' H' false (kx.2 rfl) g rfl⟩
theorem w_orV {k:Bool→Prop} (h:R Y ta Γ dBool fun a=>(a=true→k true)∧(a=false→W Y tb Γ dBool k)):W Y (tOrV ta tb) Γ dBool k:=fun e F σ H s Q q=>h e F σ H s _ fun v F' H' x kx g r=>⟨x,r,by
 cases x with
 | false=>exact kx.2 rfl e F' σ H' (s.grow g) Q fun v F2 H2 x kb g2 r=>q v F2 H2 x kb (g.Zbc g2) r
 | true=>exact q _ F' H' true (kx.1 rfl) g rfl⟩
theorem r_mono {k k' : α→Prop} (h:R Y te Γ d k) (m:∀ x,k x→k' x):R Y te Γ d k':=fun e F σ H s Q q=>h e F σ H s Q fun v F' H' x kx g r=>q v F' H' x (m x kx) g r
theorem w_notV {k:Bool→Prop} (h:R Y ta Γ dBool fun a=>k (!a)):W Y (tNotV ta) Γ dBool k:=fun e F σ H s Q q=>h e F σ H s _ fun v F' H' x kx g r=>⟨x,r,q _ F' H' (!x) kx g rfl⟩
theorem wa_nil {k:List Cell→Prop} (hk:k []):WA Y tNil Γ k:=fun e F σ H s Q q=>q [] F H [] hk s.base .nil
theorem Zcv {tr:TA} {k:List Cell→Prop} (h:W Y te Γ d fun x=>WA Y tr Γ fun cs=>k (.val d x::cs)):WA Y (tCons te tr) Γ k:=fun e F σ H s Q q=>h e F σ H s _ fun v F1 H1 x h1 g1 r1=>h1 e F1 σ H1 (s.grow g1) _ fun vs F2 H2 cs kc g2 r2 =>
 q (v::vs) F2 H2 (.val d x::cs) kc (g1.Zbc g2) (Slots.cons (L:=[]) ⟨rfl,v,rfl,d.mono g2.ff r1⟩ r2)
theorem w_abs {k:Int→Prop} (h:R Y ta Γ dInt fun x=>k (if x<0 then -x else x)):W Y (tCB (fun xs H Q=>∃ i,xs=[.int i]∧Q (.int (if i<0 then -i else i)) H) (tCons ta tNil)) Γ dInt k:=fun e F σ H s Q q=>h e F σ H s _ fun v F' H' x kx g r=>by
 cases (show v = .int x from r)
 exact ⟨x,rfl,q _ F' H' _ kx g rfl⟩
theorem w_int1 {k:Int→Prop} (h:R Y ta Γ dInt k):W Y (tCB (fun xs H Q=>(∃ i,xs=[.int i]∧Q (.int i) H) ∨ ∃ k,xs=[.bl k]∧Q (.int (if k then 1 else 0)) H) (tCons ta tNil)) Γ dInt k:=fun e F σ H s Q q=>h e F σ H s _ fun v F' H' x kx g r=>by
 cases (show v = .int x from r)
 exact .inl ⟨x,rfl,q _ F' H' _ kx g rfl⟩
theorem w_len {k:Int→Prop} (h:R Y ta Γ (dList (d:=d)) fun xs=>k (xs.length:Int)):W Y (tCB (fun xs H Q=>∃ p ys,xs=[.ref p]∧(SqL Y.K H p ys∨SqT Y.K H p ys)∧Q (.int ys.length) H) (tCons ta tNil)) Γ dInt k:=fun e F σ H s Q q=>h e F σ H s _ fun v F' H' x kx g ⟨a,vs,e1,h1,r⟩=>by
 subst e1
 exact ⟨a,vs,rfl,.inl h1,q _ F' H' _ (by rw [r.len];exact kx) g rfl⟩
theorem atI_rep {F:Hp} {vs:List V} {xs:List α} {i:Int} {x:α} (r:Reps d C F vs xs) (h:atI xs i=some x):∃ v,atI vs i=some v∧d.rep C F v x:=by
 unfold atI at h ⊢
 rw [r.len]
 cases e:ixN xs.length i with
 | none=>rw [e] at h;cases h
 | some j=>rw [e] at h;exact r.get h
theorem w_ix {k:α→Prop} (h:W Y ta Γ (dList (d:=d)) fun xs=>R Y tb Γ dInt fun i=>∃ x,atI xs i=some x∧k x):W Y (tOp (rIxL Y.K) ta tb) Γ d k:=fun e F σ H s Q q=>h e F σ H s _ fun v1 F1 H1 xs h1 g1 ⟨a,vs,e1,hs,r⟩=>h1 e F1 σ H1 (s.grow g1) _ fun v2 F2 H2 i ⟨x,hx,kx⟩ g2 r2=>by
 subst e1
 cases (show v2 = .int i from r2)
 obtain ⟨v,hv,rv⟩:=atI_rep r hx
 exact ⟨a,vs,i,v,rfl,rfl,(g1.fh.trans g2.hh0).seq hs,hv,q _ F2 H2 x kx (g1.Zbc g2) (d.mono g2.ff rv)⟩
theorem w_ixO {pin:Option V} {i:Nat} {xs:List α} {k:α→Prop} (h:Γ[i]? = some (.own (dList (d:=d)) (oList (d:=d)) pin xs)) (hk:R Y tb Γ dInt fun i=>∃ x,atI xs i=some x∧k x):W Y (tOp (rIxL Y.K) (tVar i) tb) Γ d k:=fun e F σ H s Q q=>by
 obtain ⟨_,L,kw,sl⟩:=id s
 obtain ⟨o,L1,Li,L2,e1,e2,⟨v,rfl,_,a,vs,rfl,e3,r⟩,_⟩:=sl.get h
 have ha:H a=some (.lst vs):=(kw.ow (a,.lst vs) (by rw [e2,e3];simp)).2.1
 refine ⟨.ref a,e1,hk e F σ H s _ fun v2 F2 H2 j ⟨x,hx,kx⟩ g2 r2=>?_⟩
 cases (show v2 = .int j from r2)
 obtain ⟨v,hv,rv⟩:=atI_rep r hx
 exact ⟨a,vs,j,v,rfl,rfl,.inl (.inl (g2.hh0 _ _ ha)),hv,q _ F2 H2 x kx g2 (d.mono g2.ff rv)⟩
class Flat (α:Type) [d:Dat α] where
 enc:α→V
 isEnc:∀ {C:GCtx} {F:Hp} {v:V} {x:α},d.rep C F v x→v=enc x
 flat:∀ x,flatV (enc x)=true
 eqv:∀ x y,eqV (enc x) (enc y)=true↔x=y
instance fInt:Flat Int:=⟨V.int,fun h=>h,fun _=>rfl,fun x y=>by simp [eqV]⟩
instance fStr:Flat Str:=⟨V.str,fun h=>h,fun _=>rfl,fun x y=>by simp [eqV]⟩
theorem Reps.enc [f : @Flat α d] {F:Hp}:∀ {vs:List V} {xs:List α},Reps d C F vs xs→vs=xs.map f.enc
 | [],[],_=>rfl
 | _::_,_::_,h=>by rw [Reps.enc h.2,f.isEnc h.1];rfl
 | [],_::_,h=>h.elim
 | _::_,[],h=>h.elim
theorem flat_all [f : @Flat α d] (xs:List α):(xs.map f.enc).all flatV=true:=by
 rw [List.all_map,List.all_eq_true]
 exact fun x _=>f.flat x
theorem inV_flat [f : @Flat α d] [DecidableEq α] (x:α) (xs:List α):inV (f.enc x) (xs.map f.enc)=decide (x∈xs):=by
 unfold inV
 rw [List.any_map]
 by_cases h:x∈xs
 ·rw [decide_eq_true h,List.any_eq_true]
  exact ⟨x,h,(f.eqv x x).mpr rfl⟩
 ·rw [decide_eq_false h,List.any_eq_false]
  intro y hy z
  have e:=(f.eqv y x).mp z
  subst e
  exact h hy
theorem w_in [f : @Flat α d] [DecidableEq α] {k:Bool→Prop} (h:R Y ta Γ d fun x=>R Y tb Γ (dList (d:=d)) fun xs=>k (decide (x∈xs))):W Y (tOp (rIn Y.K false) ta tb) Γ dBool k:=fun e F σ H s Q q=>h e F σ H s _ fun v1 F1 H1 x h1 g1 r1=>h1 e F1 σ H1 (s.grow g1) _ fun v2 F2 H2 xs kx g2 ⟨a,vs,e1,hs,r⟩=>by
 subst e1
 cases f.isEnc r1
 cases r.enc
 exact ⟨a,_,rfl,.inl hs,f.flat x,flat_all xs,q _ F2 H2 _ kx (g1.Zbc g2) (by rw [inV_flat x xs];rfl)⟩
theorem w_notin [f : @Flat α d] [DecidableEq α] {k:Bool→Prop} (h:R Y ta Γ d fun x=>R Y tb Γ (dList (d:=d)) fun xs=>k (!decide (x∈xs))):W Y (tOp (rIn Y.K true) ta tb) Γ dBool k:=fun e F σ H s Q q=>h e F σ H s _ fun v1 F1 H1 x h1 g1 r1=>h1 e F1 σ H1 (s.grow g1) _ fun v2 F2 H2 xs kx g2 ⟨a,vs,e1,hs,r⟩=>by
 subst e1
 cases f.isEnc r1
 cases r.enc
 exact ⟨a,_,rfl,.inl hs,f.flat x,flat_all xs,q _ F2 H2 _ kx (g1.Zbc g2) (by rw [inV_flat x xs];rfl)⟩
theorem Gr.lay {F H:Hp} {p:Addr} {o:HO} (g:Gr F H F H) (hp:H p=none):Gr F H (upd F p o) (upd H p o):=Wk.lay g hp
theorem w_tup2 {k:α×β→Prop} (h:W Y ta Γ d1 fun x=>W Y tb Γ d2 fun y=>k (x,y)):W Y (tTup (tCons ta (tCons tb tNil))) Γ (dPair (d1:=d1) (d2:=d2)) k:=fun e F σ H s Q q=>h e F σ H s _ fun v1 F1 H1 x h1 g1 r1=>h1 e F1 σ H1 (s.grow g1) _ fun v2 F2 H2 y ky g2 r2 =>
 ⟨show 2≤PySem.sizeLine by decide,fun p hp=>by
  have g3:=Gr.lay (o:=.tup [v1,v2]) g2.base hp
  exact q _ _ _ (x,y) ky ((g1.Zbc g2).Zbc g3) ⟨p,v1,v2,rfl,.inl upd_same,d1.mono (g2.ff.trans g3.ff) r1,d2.mono g3.ff r2⟩⟩
theorem w_tup3 {k:T3 α β γ→Prop} (h:W Y ta Γ d1 fun x=>W Y tb Γ d2 fun y=>W Y tc Γ d3 fun z=>k ⟨x,y,z⟩):W Y (tTup (tCons ta (tCons tb (tCons tc tNil)))) Γ (dT3 (d1:=d1) (d2:=d2) (d3:=d3)) k:=fun e F σ H s Q q=>h e F σ H s _ fun v1 F1 H1 x h1 g1 r1=>h1 e F1 σ H1 (s.grow g1) _ fun v2 F2 H2 y h2 g2 r2 =>
 h2 e F2 σ H2 ((s.grow g1).grow g2) _ fun v3 F3 H3 z kz g3 r3 =>
 ⟨show 3≤PySem.sizeLine by decide,fun p hp=>by
  have g4:=Gr.lay (o:=.tup [v1,v2,v3]) g3.base hp
  exact q _ _ _ ⟨x,y,z⟩ kz (((g1.Zbc g2).Zbc g3).Zbc g4) ⟨p,v1,v2,v3,rfl,.inl upd_same,d1.mono ((g2.ff.trans g3.ff).trans g4.ff) r1,d2.mono (g3.ff.trans g4.ff) r2,d3.mono g4.ff r3⟩⟩
def WL (Y:YC) (ta:TA) (Γ:List Cell) {α:Type} (d:Dat α) (k:List α→Prop):Prop:=∀ (e:En) (F:Hp) (σ:St) (H:Hp),State Y e F σ H Γ → ∀ Q:List V→Hp→Prop,(∀ vs F' H' xs,k xs→Gr F H F' H'→Reps d Y.g F' vs xs→Q vs H')→ta σ H Q
theorem wl_nil {k:List α→Prop} (hk:k []):WL Y tNil Γ d k:=fun e F σ H s Q q=>q [] F H [] hk s.base trivial
theorem wl_cons {tr:TA} {k:List α→Prop} (h:W Y te Γ d fun x=>WL Y tr Γ d fun xs=>k (x::xs)):WL Y (tCons te tr) Γ d k:=fun e F σ H s Q q=>h e F σ H s _ fun v F1 H1 x h1 g1 r1=>h1 e F1 σ H1 (s.grow g1) _ fun vs F2 H2 xs kc g2 r2 =>
 q (v::vs) F2 H2 (x::xs) kc (g1.Zbc g2) ⟨d.mono g2.ff r1,r2⟩
theorem o_new {F H:Hp} {L:LO} (g:Wk ⟨F,H,[]⟩ F [] H) {p:Addr} {vs:List V} {xs:List α} (hp:H p=none) (r:Reps d C F vs xs):Wk ⟨F,H,[]⟩ F [(p,.lst vs)] (upd H p (.lst vs))∧(oList (d:=d)).orep C F (.ref p) xs [(p,.lst vs)] :=
 ⟨g.own hp (fun _ z=>by cases z),p,vs,rfl,rfl,r⟩
theorem o_lst {tl:TA} {k:List α→Prop} (h:WL Y tl Γ d fun xs=>xs.length≤PySem.sizeLine∧k xs):O Y (tLst tl) Γ (oList (d:=d)) k:=fun e F σ H s Q q=>h e F σ H s _ fun vs F' H' xs ⟨hl,kx⟩ g r =>
 ⟨by rw [r.len];exact hl,fun p hp=>by
  obtain ⟨h1,h2⟩:=o_new (L:=[]) g.base hp r
  have h3:=g.trans h1
  exact q _ F' _ [(p,.lst vs)] xs kx (by simpa using h3) h2⟩
theorem o_nil {k:List α→Prop} (hk:k []):O Y (tLst tNil) Γ (oList (d:=d)) k:=o_lst (wl_nil ⟨Nat.zero_le _,hk⟩)
end
end G
namespace G
open PySem L2
section
variable {C:GCtx} {Y:YC} {e:En} {F F' : Hp} {σ:St} {H H' : Hp} {Γ:List Cell}
theorem State.mut {α:Type} {d:Dat α} {od:OD α} {x:α} {i:Nat} {pin:Option V} (s:State Y e F σ H Γ) (h:Γ[i]? = some (.own d od pin x)):∃ v Li rest,σ[i]? = some (some v)∧od.orep Y.g F v x Li∧Wk e F (Li++rest) H ∧
  ∀ F' H' Li' x',Same F F'→Wk e F' (Li'++rest) H'→od.orep Y.g F' v x' Li'→State Y e F' σ H' (Γ.set i (.own d od pin x')):=by
 obtain ⟨hx,L,k,sl⟩:=s
 obtain ⟨o,L1,Li,L2,e1,e2,⟨v,rfl,hp,r⟩,f⟩:=sl.get h
 subst e2
 refine ⟨v,Li,L1++L2,e1,r,k.front,fun F' H' Li' x' s' k' r'=>⟨hx,L1++Li'++L2,k'.back,?_⟩⟩
 have q:=f F' (some v) (.own d od pin x') Li' s' ⟨v,rfl,hp,r'⟩
 have z:σ.set i (some v)=σ:=by
  apply List.ext_getElem?
  intro j
  by_cases hj:i=j
  ·subst hj
   obtain ⟨hlt,hv⟩:=List.getElem?_eq_some_iff.mp e1
   rw [List.getElem?_set_self hlt,e1]
  ·rw [List.getElem?_set_ne hj]
 rw [z] at q
 exact q
theorem State.frz {α:Type} {d:Dat α} {od:OD α} {x:α} {i:Nat} (s:State Y e F σ H Γ) (hM:e.M=[]) (h:Γ[i]? = some (.own d od none x)):∃ F',Same F F'∧State Y e F' σ H (Γ.set i (.val d x)):=by
 obtain ⟨hx,L,k,sl⟩:=s
 obtain ⟨o,L1,Li,L2,e1,e2,⟨v,rfl,hp,r⟩,f⟩:=sl.get h
 subst e2
 have kf:=k.front
 have ff:∀ p∈Li,F p.1=none:=fun p hp=>(kf.ow p (List.mem_append_left _ hp)).1
 have nd:(Li.map Prod.fst).Nodup:=by
  have:=kf.nd
  rw [List.map_append] at this
  exact (List.nodup_append.mp this).1
 have k2:=kf.freeze fun p _ z=>by rw [hM] at z;cases z
 have sm:=same_plus ff nd
 refine ⟨plus F Li,sm,hx,L1++L2,k2,?_⟩
 have q:=f (plus F Li) (some v) (.val d x) [] sm ⟨rfl,v,rfl,od.view r sm (plus_get ff nd)⟩
 have z:σ.set i (some v)=σ:=by
  apply List.ext_getElem?
  intro j
  by_cases hj:i=j
  ·subst hj
   obtain ⟨hlt,hv⟩:=List.getElem?_eq_some_iff.mp e1
   rw [List.getElem?_set_self hlt,e1]
  ·rw [List.getElem?_set_ne hj]
 rw [z,List.append_nil] at q
 exact q
end
structure Ks where
 nx:List Cell→Prop
 rt:Cell→List Cell→Prop
 bk:List Cell→Prop
 ct:List Cell→Prop
structure Cont (Y:YC) (e:En) (k:Ks) (D:Ends):Prop where
 nx:∀ F σ H Γ,k.nx Γ→State Y e F σ H Γ→D.nx σ H
 rt:∀ F σ H Γ v c L L',k.rt c Γ→Wk e F (L++L') H→Zdf Y.g F (some v) c L→Slots Y.g F σ Γ L'→D.rt v H
 bk:∀ F σ H Γ,k.bk Γ→State Y e F σ H Γ→D.bk σ H
 ct:∀ F σ H Γ,k.ct Γ→State Y e F σ H Γ→D.ct σ H
def Z (Y:YC) (ts:TS) (Γ:List Cell) (k:Ks):Prop:=∀ (e:En) (F:Hp) (σ:St) (H:Hp) (D:Ends),e.M=[]→State Y e F σ H Γ→Cont Y e k D→ts D σ H
def A (Y:YC) (g:TG) (Γ:List Cell) {α:Type} (d:Dat α) (x:α) (k:List Cell→Prop):Prop:=∀ (e:En) (F:Hp) (σ:St) (H:Hp) (v:V),State Y e F σ H Γ→d.rep Y.g F v x → ∀ Q:St→Hp→Prop,(∀ σ' Γ',k Γ'→State Y e F σ' H Γ'→Q σ' H)→g v σ H Q
section
variable {C:GCtx} {Y:YC} {Γ:List Cell} {te ta tb tc:TE} {t u:TT} {α β γ δ:Type} {d1:Dat α} {d:Dat α} {d2:Dat β} {d3:Dat γ} {d4:Dat δ} {k:Ks} {t1 t2 ts:TS} {g g1 g2 g3 g4:TG}
theorem ZdW (h:Z Y t1 Γ { k with nx:=fun Γ'=>Z Y t2 Γ' k }):Z Y (tSeq t1 t2) Γ k:=fun e F σ H D hM s c =>
 h e F σ H { D with nx:=t2 D } hM s ⟨fun F σ H Γ q s'=>q e F σ H D hM s' c,c.rt,c.bk,c.ct⟩
theorem z_next (h:k.nx Γ):Z Y tNext Γ k:=fun e F σ H D hM s c=>c.nx F σ H Γ h s
theorem z_mono {k' : Ks} (h:Z Y ts Γ k') (n:∀ Γ,k'.nx Γ→k.nx Γ) (r:∀ c Γ,k'.rt c Γ→k.rt c Γ) (b:∀ Γ,k'.bk Γ→k.bk Γ) (c:∀ Γ,k'.ct Γ→k.ct Γ):Z Y ts Γ k:=fun e F σ H D hM s cc =>
 h e F σ H D hM s ⟨fun F σ H Γ q=>cc.nx F σ H Γ (n Γ q),fun F σ H Γ v x L L' q=>cc.rt F σ H Γ v x L L' (r x Γ q),fun F σ H Γ q=>cc.bk F σ H Γ (b Γ q),fun F σ H Γ q=>cc.ct F σ H Γ (c Γ q)⟩
theorem z_frz {od : @OD α d} {x:α} (i:Nat) (hi:Γ[i]? = some (.own d od none x)) (h:Z Y ts (Γ.set i (.val d x)) k):Z Y ts Γ k:=fun e F σ H D hM s c=>by
 obtain ⟨F',sm,s'⟩:=s.frz hM hi
 exact h e F' σ H D hM s' c
theorem z_forget {c0:Cell} (i:Nat) (hi:Γ[i]? = some c0) (h:Z Y ts (Γ.set i .no) k):Z Y ts Γ k:=fun e F σ H D hM s c=>h e F σ H D hM (s.hide hi) c
theorem ZaT {x:α} {i:Nat} {c0:Cell} {kn:List Cell→Prop} (hi:Γ[i]? = some c0) (h:kn (Γ.set i (.val d x))):A Y (gName i) Γ d x kn:=fun e F σ H v s r Q q =>
 q (σ.set i (some v)) _ h (s.set (c':=.val d x) (L':=[]) hi s.base ⟨rfl,v,rfl,r⟩)
theorem a_pair {x:α×β} {n:Nat} {kn:List Cell→Prop} (hn:n=2) (h:A Y g1 Γ d1 x.1 fun Γ1=>A Y g2 Γ1 d2 x.2 kn):A Y (gTup Y.K n (gCons g1 (gCons g2 gNil))) Γ (dPair (d1:=d1) (d2:=d2)) x kn:=fun e F σ H v s ⟨a,v1,v2,e1,ht,r1,r2⟩ Q q=>by
 subst e1 hn
 refine ⟨a,[v1,v2],rfl,(ht.mono s.fh).sq,rfl,v1,[v2],rfl,h e F σ H v1 s r1 _ fun σ1 Γ1 h1 st1=>⟨v2,[],rfl,h1 e F σ1 H v2 st1 r2 _ fun σ2 Γ2 h2 st2=>⟨rfl,q σ2 Γ2 h2 st2⟩⟩⟩
theorem z_set {i:Nat} {c0:Cell} (hi:Γ[i]? = some c0) (h:W Y te Γ d fun x=>k.nx (Γ.set i (.val d x))):Z Y (tAsg te (gName i)) Γ k:=fun e F σ H D hM s c=>h e F σ H s _ fun v F' H' x kx g r =>
 c.nx F' _ H' _ kx (s.set (c':=.val d x) (L':=[]) hi g ⟨rfl,v,rfl,r⟩)
theorem z_setG (h:W Y te Γ d fun x=>A Y g Γ d x k.nx):Z Y (tAsg te g) Γ k:=fun e F σ H D hM s c=>h e F σ H s _ fun v F' H' x kx gr r =>
 kx e F' σ H' v (s.grow gr) r _ fun σ2 Γ2 k2 s2=>c.nx F' σ2 H' Γ2 k2 s2
theorem z_setO {od : @OD α d} {i:Nat} {c0:Cell} (hi:Γ[i]? = some c0) (h:O Y te Γ od fun x=>k.nx (Γ.set i (.own d od none x))):Z Y (tAsg te (gName i)) Γ k:=fun e F σ H D hM s c=>h e F σ H s _ fun v F' H' L' x kx g r =>
 c.nx F' _ H' _ kx (s.set (c':=.own d od none x) hi g ⟨v,rfl,fun _ z=>(nomatch z),r⟩)
theorem z_drop {kt:α→Prop} (h:R Y te Γ d fun _=>k.nx Γ):Z Y (tDrop te) Γ k:=fun e F σ H D hM s c=>h e F σ H s _ fun v F' H' x kx g r=>c.nx F' σ H' Γ kx (s.grow g)
theorem z_aug {i:Nat} {f:Int→Int→Int} {x:Int} (hi:Γ[i]? = some (.val dInt x)) (h:R Y te Γ dInt fun y=>k.nx (Γ.set i (.val dInt (f x y)))):Z Y (tAug i te (ipI f)) Γ k:=fun e F σ H D hM s c=>by
 obtain ⟨v,e1,r⟩:=s.val hi
 cases (show v = .int x from r)
 refine ⟨.int x,e1,h e F σ H s _ fun v2 F' H' y ky g r2=>?_⟩
 cases (show v2 = .int y from r2)
 exact ⟨x,y,rfl,rfl,c.nx F' _ H' _ ky (s.set (c':=.val dInt (f x y)) (L':=[]) hi g ⟨rfl,_,rfl,rfl⟩)⟩
theorem z_if (h:T Y t Γ fun b=>(b=true→Z Y t1 Γ k)∧(b=false→Z Y t2 Γ k)):Z Y (tIfS t t1 t2) Γ k:=fun e F σ H D hM s c=>h e F σ H s _ fun b F' H' kb g=>by
 cases b with
 | true=>exact kb.1 rfl e F' σ H' D hM (s.grow g) c
 | false=>exact kb.2 rfl e F' σ H' D hM (s.grow g) c
theorem z_ret (h:W Y te Γ d fun x=>k.rt (.val d x) Γ):Z Y (tRet te) Γ k:=fun e F σ H D hM s c=>h e F σ H s _ fun v F' H' x kx g r=>by
 obtain ⟨_,L,kw,sl⟩:=s
 exact c.rt F' σ H' Γ v (.val d x) [] L kx (kw.Zbc g) ⟨rfl,v,rfl,r⟩ (sl.mono g.ff)
theorem z_retO {od : @OD α d} (h:O Y te Γ od fun x=>k.rt (.own d od none x) Γ):Z Y (tRet te) Γ k:=fun e F σ H D hM s c=>h e F σ H s _ fun v F' H' L' x kx g r=>by
 obtain ⟨_,L,kw,sl⟩:=s
 exact c.rt F' σ H' Γ v (.own d od none x) L' L kx (kw.trans g) ⟨v,rfl,fun _ z=>(nomatch z),r⟩ (sl.mono g.ff)
theorem z_retV {od : @OD α d} {i:Nat} {x:α} (hi:Γ[i]? = some (.own d od none x)) (h:k.rt (.own d od none x) (Γ.set i .no)):Z Y (tRet (tVar i)) Γ k:=fun e F σ H D hM s c=>by
 obtain ⟨hx,L,k0,sl⟩:=s
 obtain ⟨o,L1,Li,L2,e1,e2,⟨v,rfl,_,r⟩,f⟩:=sl.get hi
 subst e2
 refine ⟨v,e1,?_⟩
 have sl2:=f F (some v) .no [] (Same.refl F) rfl
 rw [List.append_nil] at sl2
 exact c.rt F _ H _ v (.own d od none x) Li (L1++L2) h k0.front ⟨v,rfl,fun _ z=>(nomatch z),r⟩ sl2
theorem z_retN (h:k.rt (.val dUnit ()) Γ):Z Y tRetN Γ k:=fun e F σ H D hM s c=>by
 obtain ⟨_,L,kw,sl⟩:=s
 exact c.rt F σ H Γ .non (.val dUnit ()) [] L h kw ⟨rfl,.non,rfl,rfl⟩ sl
theorem z_append {pin:Option V} {i:Nat} {xs:List α} (hi:Γ[i]? = some (.own (dList (d:=d)) (oList (d:=d)) pin xs)) (h:W Y te Γ d fun y=>xs.length<PySem.sizeLine∧k.nx (Γ.set i (.own (dList (d:=d)) (oList (d:=d)) pin (xs++[y])))) :
  Z Y (tDrop (tBM Y.K "list" rAppend (tVar i) (tCons te tNil))) Γ k:=fun e F σ H D hM s c=>by
 obtain ⟨v0,_,_,e1,⟨a0,vs0,rfl,rfl,_⟩,kw0,_⟩:=s.mut hi
 have ha0:H a0=some (.lst vs0):=(kw0.ow (a0,.lst vs0) (by simp)).2.1
 refine ⟨.ref a0,e1,.inl ⟨rfl,vs0,.inl (.inl ha0)⟩,h e F σ H s _ fun w F' H' y ⟨hl,ky⟩ g rw'=>?_⟩
 obtain ⟨v,Li,rest,e2,⟨a,vs,rfl,rfl,r⟩,kw,f⟩:=(s.grow g).mut hi
 rw [e1] at e2
 cases (Option.some.inj e2)
 have ha:H' a0=some (.lst vs):=(kw.ow (a0,.lst vs) (by simp)).2.1
 refine ⟨a0,vs,w,rfl,rfl,ha,by rw [r.len];exact hl,?_⟩
 exact c.nx F' σ _ _ ky (f F' _ [(a0,.lst (vs++[w]))] (xs++[y]) (Same.refl F') (kw.put (fun _ z=>by cases z)) ⟨a0,_,rfl,rfl,r.append (Reps.one rw')⟩)
theorem z_pop {pin:Option V} {i j:Nat} {xs:List α} {y:α} {c0:Cell} (hi:Γ[i]? = some (.own (dList (d:=d)) (oList (d:=d)) pin (xs++[y]))) (hj:(Γ.set i (.own (dList (d:=d)) (oList (d:=d)) pin xs))[j]? = some c0)
  (h:k.nx ((Γ.set i (.own (dList (d:=d)) (oList (d:=d)) pin xs)).set j (.val d y))):Z Y (tAsg (tBM0 Y.K "list" rPop (tVar i)) (gName j)) Γ k:=fun e F σ H D hM s c=>by
 obtain ⟨v,_,rest,e1,⟨a,vs,rfl,rfl,r⟩,kw,f⟩:=s.mut hi
 have ha:H a=some (.lst vs):=(kw.ow (a,.lst vs) (by simp)).2.1
 have hl:vs.length=xs.length+1:=by rw [r.len];simp
 have hx:(xs++[y])[vs.length-1]? = some y:=by rw [hl];simp
 obtain ⟨w,hw,rw'⟩:=r.get hx
 refine ⟨.ref a,e1,.inl ⟨rfl,vs,.inl (.inl ha)⟩,a,vs,w,rfl,rfl,ha,hw,?_⟩
 have s2:=f F _ [(a,.lst vs.dropLast)] xs (Same.refl F) (kw.put (fun _ z=>by cases z)) ⟨a,_,rfl,rfl,by
  have q:=r.take xs.length
  rw [List.take_left] at q
  rw [List.dropLast_eq_take,hl]
  exact q⟩
 exact c.nx F _ _ _ h (s2.set (c':=.val d y) (L':=[]) hj s2.base ⟨rfl,w,rfl,rw'⟩)
theorem z_setIx {pin:Option V} {i:Nat} {xs:List α} (hi:Γ[i]? = some (.own (dList (d:=d)) (oList (d:=d)) pin xs)) (h:W Y te Γ d fun y=>R Y tb Γ dInt fun n=>∃ j,ixN xs.length n=some j∧k.nx (Γ.set i (.own (dList (d:=d)) (oList (d:=d)) pin (xs.set j y)))) :
  Z Y (tAsg te (gSub (tVar i) tb rSetL)) Γ k:=fun e F σ H D hM s c=>h e F σ H s _ fun w F1 H1 y hy g1 rw1=>by
 obtain ⟨v0,_,_,e1,⟨a0,vs0,rfl,rfl,_⟩,kw0,_⟩:=(s.grow g1).mut hi
 refine ⟨.ref a0,e1,hy e F1 σ H1 (s.grow g1) _ fun v2 F2 H2 n ⟨j,hj,kj⟩ g2 r2=>?_⟩
 cases (show v2 = .int n from r2)
 obtain ⟨v,Li,rest,e2,⟨a,vs,rfl,rfl,r⟩,kw,f⟩:=((s.grow g1).grow g2).mut hi
 rw [e1] at e2
 cases (Option.some.inj e2)
 have ha:H2 a0=some (.lst vs):=(kw.ow (a0,.lst vs) (by simp)).2.1
 refine ⟨a0,vs,n,j,rfl,rfl,ha,by rw [r.len];exact hj,?_⟩
 exact c.nx F2 σ _ _ kj (f F2 _ [(a0,.lst (vs.set j w))] (xs.set j y) (Same.refl F2) (kw.put (fun _ z=>by cases z)) ⟨a0,_,rfl,rfl,r.set j (d.mono g2.ff rw1)⟩)
theorem Wk.out {e:En} {F1 F:Hp} {L1 L:LO} {H1 H:Hp} (a:Wk e F1 L1 H1) (b:Wk ⟨F1,e.H0,e.M⟩ F L H):Wk e F L H :=
 ⟨a.ff.trans b.ff,b.hh,b.th,b.fh,fun x h h'=>b.nw x h (a.nw x h h'),b.tp,b.ow,b.nd⟩
theorem Wk.into {e:En} {F:Hp} {L:LO} {H:Hp} (a:Wk e F L H):Wk ⟨F,e.H0,e.M⟩ F L H :=
 ⟨Same.refl _,a.hh,a.th,a.fh,fun _ _ h=>h,a.tp,a.ow,a.nd⟩
theorem XOk.into {e:En} {F1:Hp} {L1:LO} {H1:Hp} (h:XOk Y e) (a:Wk e F1 L1 H1):XOk Y ⟨F1,e.H0,e.M⟩:=fun x d F σ H Γ k ⟨L,kw,sl⟩ hd=>h x d F σ H Γ k ⟨L,a.out kw,sl⟩ hd
theorem State.into {e:En} {F:Hp} {σ:St} {H:Hp} (s:State Y e F σ H Γ):State Y ⟨F,e.H0,e.M⟩ F σ H Γ:=let ⟨hx,L,k,sl⟩:=s; ⟨hx.into k,L,k.into,sl⟩
theorem State.out {e:En} {F1 F:Hp} {L1:LO} {H1:Hp} {σ:St} {H:Hp} (hx:XOk Y e) (a:Wk e F1 L1 H1) (s:State Y ⟨F1,e.H0,e.M⟩ F σ H Γ):State Y e F σ H Γ:=let ⟨_,L,k,sl⟩:=s; ⟨hx,L,a.out k,sl⟩
theorem State.ff {e:En} {F:Hp} {σ:St} {H:Hp} (s:State Y e F σ H Γ):Same e.F0 F:=let ⟨_,_,k,_⟩:=s;k.ff
theorem Cont.into {e:En} {F1:Hp} {L1:LO} {H1:Hp} {D:Ends} (hx:XOk Y e) (a:Wk e F1 L1 H1) (c:Cont Y e k D):Cont Y ⟨F1,e.H0,e.M⟩ k D :=
 ⟨fun F σ H Γ q s=>c.nx F σ H Γ q (s.out hx a),fun F σ H Γ v x L L' q kw=>c.rt F σ H Γ v x L L' q (a.out kw),fun F σ H Γ q s=>c.bk F σ H Γ q (s.out hx a),fun F σ H Γ q s=>c.ct F σ H Γ q (s.out hx a)⟩
def Body (Y:YC) (g:TG) (ts:TS) {α:Type} (d:Dat α) (k:Ks) (get:Nat→Option α) (n:Nat) (Γ:List Cell):Prop :=
 ∃ I:Nat→List Cell→Prop,I 0 Γ∧(∀ i x Γ',get i=some x→I i Γ'→A Y g Γ' d x fun Γ2=>Z Y ts Γ2 { nx:=I (i+1),ct:=I (i+1),bk:=k.nx,rt:=k.rt }) ∧ ∀ Γ',I n Γ'→k.nx Γ'
theorem z_for {tl:TE} (h:W Y tl Γ (dList (d:=d)) fun xs=>Body Y g ts d k (fun i=>xs[i]?) xs.length Γ):Z Y (tFor (iList Y.K tl) g ts) Γ k:=fun e F σ H D hM s c=>h e F σ H s _ fun v F1 H1 xs ⟨I,h0,hs,hd⟩ g1 ⟨a,vs,e1,hq,r⟩=>by
 subst e1
 have s1:=s.grow g1
 obtain ⟨hx1,L1,kw1,_⟩:=id s1
 have c1:=c.into hx1 kw1
 refine ⟨a,rfl,⟨vs,g1.fh.seq hq⟩,for_list (K:=Y.K) (a:=a) (xs:=vs) (fun i σ H=>∃ F' Γ',State Y ⟨F1,e.H0,e.M⟩ F' σ H Γ'∧I i Γ') ⟨F1,Γ,s1.into,h0⟩ (fun i σ H _ ⟨F',Γ',st,_⟩=>(st.ff.trans st.fh).seq hq) (fun i w σ H hw ⟨F',Γ',st,hi⟩=>?_) fun σ H ⟨F',Γ',st,hi⟩=>?_⟩
 ·obtain ⟨x,hx,rx⟩:=r.getV hw
  refine hs i x Γ' hx hi _ F' σ H w st (d.mono st.ff rx) _ fun σ2 Γ2 h2 st2=>?_
  exact h2 ⟨F1,e.H0,e.M⟩ F' σ2 H _ hM st2 ⟨fun F3 σ3 H3 Γ3 k3 st3=>⟨F3,Γ3,st3,k3⟩,c1.rt,c1.nx,fun F3 σ3 H3 Γ3 k3 st3=>⟨F3,Γ3,st3,k3⟩⟩
 ·rw [r.len] at hi
  exact c1.nx F' σ H Γ' (hd Γ' hi) st
def rng (lo:Int) (n:Nat) (i:Nat):Option Int:=if i<n then some (lo+i) else none
theorem for_rng {lo:Int} {n:Nat} {e:En} {F:Hp} {σ:St} {H:Hp} {D:Ends} (hM:e.M=[]) (s:State Y e F σ H Γ) (c:Cont Y e k D) (h:Body Y g ts dInt k (rng lo n) n Γ):∃ W:Nat→Nat→St→Hp→Prop,(∃ m,W 0 m σ H) ∧ ∀ i m σ H,W i m σ H →
   ((Itr lo n).stop i H∧D.nx σ H)∨((Itr lo n).go i H ∧ ∃ N:St→Hp→Prop,(∀ σ' H',N σ' H' → ∃ m',m'<m∧W (i+1) m' σ' H') ∧ ∀ x H',(Itr lo n).yld i H x H'→g x σ H' fun σ2 H2=>ts { D with nx:=N,ct:=N,bk:=D.nx } σ2 H2):=by
 obtain ⟨I,h0,hs,hd⟩:=h
 refine for_range (lo:=lo) (n:=n) (fun i σ H=>∃ F' Γ',State Y e F' σ H Γ'∧I i Γ') ⟨F,Γ,s,h0⟩ (fun i σ H hw ⟨F',Γ',st,hi⟩=>?_) fun σ H ⟨F',Γ',st,hi⟩=>c.nx F' σ H Γ' (hd Γ' hi) st
 refine hs i (lo+i) Γ' (by unfold rng;rw [if_pos hw]) hi _ F' σ H _ st rfl _ fun σ2 Γ2 h2 st2=>?_
 exact h2 _ F' σ2 H _ hM st2 ⟨fun F3 σ3 H3 Γ3 k3 st3=>⟨F3,Γ3,st3,k3⟩,c.rt,c.nx,fun F3 σ3 H3 Γ3 k3 st3=>⟨F3,Γ3,st3,k3⟩⟩
theorem z_range (h:R Y ta Γ dInt fun n=>-(2 ^ 62)≤n∧n<2 ^ 62∧Body Y g ts dInt k (rng 0 n.toNat) n.toNat Γ):Z Y (tFor (iRng1 (tCons ta tNil)) g ts) Γ k:=fun e F σ H D hM s c=>h e F σ H s _ fun v F1 H1 n ⟨l1,l2,hb⟩ g1 r1=>by
 cases (show v = .int n from r1)
 exact ⟨n,rfl,l1,l2,for_rng hM (s.grow g1) c hb⟩
theorem z_while (I:Nat→List Cell→Prop) (h0:∃ m,I m Γ) (hs:∀ m Γ',I m Γ'→T Y t Γ' fun b=>(b=true→Z Y ts Γ' { nx:=fun Γ2=>∃ m',m'<m∧I m' Γ2,ct:=fun Γ2=>∃ m',m'<m∧I m' Γ2,bk:=k.nx,rt:=k.rt })∧(b=false→k.nx Γ')):Z Y (tWhile t ts) Γ k:=fun e F σ H D hM s c=>by
 obtain ⟨m0,h0⟩:=h0
 refine ⟨fun m σ H=>∃ F' Γ',State Y e F' σ H Γ'∧I m Γ',⟨m0,F,Γ,s,h0⟩,fun m σ H ⟨F',Γ',st,hi⟩=>?_⟩
 refine hs m Γ' hi e F' σ H st _ fun b F2 H2 kb g2=>?_
 cases b with
 | false=>exact c.nx F2 σ H2 Γ' (kb.2 rfl) (st.grow g2)
 | true =>
  refine ⟨fun σ3 H3=>∃ F3 Γ3,State Y e F3 σ3 H3 Γ3 ∧ ∃ m',m'<m∧I m' Γ3,fun σ3 H3 ⟨F3,Γ3,st3,m',hm,q⟩=>⟨m',hm,F3,Γ3,st3,q⟩,?_⟩
  exact kb.1 rfl e F2 σ H2 _ hM (st.grow g2) ⟨fun F3 σ3 H3 Γ3 k3 st3=>⟨F3,Γ3,st3,k3⟩,c.rt,c.nx,fun F3 σ3 H3 Γ3 k3 st3=>⟨F3,Γ3,st3,k3⟩⟩
theorem t_truL {kb:Bool→Prop} (h:R Y ta Γ (dList (d:=d)) fun xs=>kb (!xs.isEmpty)):T Y (fun σ H Q=>ta σ H fun x H'=>∃ k,TruV Y.K x H' k∧Q k H') Γ kb:=fun e F σ H s Q q=>h e F σ H s _ fun v F' H' xs kx g ⟨a,vs,e1,hs,r⟩=>by
 subst e1
 refine ⟨_,.inl ⟨vs,hs,rfl⟩,q _ F' H' ?_ g⟩
 have e:vs.isEmpty=xs.isEmpty:=by
  have:=r.len
  cases vs<;>cases xs<;>simp_all
 rw [e]
 exact kx
def Fn (C:GCtx) (Γ:List Cell) (post:Cell→Prop) (vs:List V) (H:Hp) (Q:VK):Prop :=
 ∃ F,Gr F H F H∧Slots C F (vs.map some) Γ [] ∧ ∀ v F' H' c L,post c→Wk ⟨F,H,[]⟩ F' L H'→Zdf C F' (some v) c L→Q v H'
theorem Fn.len {post:Cell→Prop} {vs:List V} {H:Hp} {Q:VK} (h:Fn C Γ post vs H Q):vs.length=Γ.length:=by
 obtain ⟨F,_,s,_⟩:=h
 simpa using s.len
theorem Fn.mono {post post' : Cell→Prop} {vs:List V} {H:Hp} {Q:VK} (h:Fn C Γ post vs H Q) (m:∀ c,post' c→post c):Fn C Γ post' vs H Q:=by
 obtain ⟨F,g,s,q⟩:=h
 exact ⟨F,g,s,fun v F' H' c L p=>q v F' H' c L (m c p)⟩
def SpW (C:GCtx) (sp:Sp) (cs:List Cell) (post:Cell→Prop):Prop:=∀ vs H Q E,Fn C cs post vs H Q→sp vs H Q E
theorem Gr.all {F H:Hp} (b:Gr F H F H):Gr H H H H:=⟨Same.refl _,fun _ _ _ h=>h,fun _ h=>h,Same.refl _,fun _ _ h=>h,fun _ _ h=>h,fun _ h=>(nomatch h),List.nodup_nil⟩
class OIm (α:Type) [d:Dat α] (od:OD α):Prop where
 oimm:∀ {C:GCtx} {F H:Hp} {v:V} {x:α} {L:LO},(∀ a xs,H a=some (.tup xs)→F a=some (.tup xs))→od.orep C H v x L→od.orep C F v x L
instance mList {α:Type} [d:Dat α] [i:Imm α]:OIm (List α) oList:=⟨fun t ⟨a,vs,e,h,r⟩=>⟨a,vs,e,h,r.imm t⟩⟩
theorem slots_pad {C:GCtx} {F:Hp}:∀ n,Slots C F (List.replicate n none) (List.replicate n .no) []:=by
 intro n
 induction n with
 | zero=>exact .nil
 | succ n ih=>exact .cons (L:=[]) rfl ih
theorem ZcR {C:GCtx} {F:Hp} {σ1 σ2:St} {Γ1 Γ2:List Cell} {L1 L2:LO} (a:Slots C F σ1 Γ1 L1) (b:Slots C F σ2 Γ2 L2):Slots C F (σ1++σ2) (Γ1++Γ2) (L1++L2):=by
 induction a with
 | nil=>exact b
 | cons h r ih=>rw [List.append_assoc];exact .cons h ih
def FnX (C:GCtx) (Γ:List Cell) (post:Cell→Prop) (xp:Exn→Prop) (vs:List V) (H:Hp) (Q:VK) (E:XK):Prop :=
 ∃ F,Gr F H F H∧Slots C F (vs.map some) Γ []∧(∀ v F' H' c L,post c→Wk ⟨F,H,[]⟩ F' L H'→Zdf C F' (some v) c L→Q v H') ∧
  ∀ x d F' H',xp x→Wk ⟨F,H,[]⟩ F' [] H'→x.at F' d→E (.ref x.cls) d H'
theorem FnX.fn {post:Cell→Prop} {xp:Exn→Prop} {vs:List V} {H:Hp} {Q:VK} {E:XK} (h:FnX C Γ post xp vs H Q E):Fn C Γ post vs H Q:=let ⟨F,g,s,q,_⟩:=h; ⟨F,g,s,q⟩
theorem FnX.len {post:Cell→Prop} {xp:Exn→Prop} {vs:List V} {H:Hp} {Q:VK} {E:XK} (h:FnX C Γ post xp vs H Q E):vs.length=Γ.length:=h.fn.len
theorem FnX.mono {post post' : Cell→Prop} {xp xp' : Exn→Prop} {vs:List V} {H:Hp} {Q:VK} {E:XK} (h:FnX C Γ post xp vs H Q E) (m:∀ c,post' c→post c) (mx:∀ x,xp' x→xp x):FnX C Γ post' xp' vs H Q E:=by
 obtain ⟨F,g,s,q,qx⟩:=h
 exact ⟨F,g,s,fun v F' H' c L p=>q v F' H' c L (m c p),fun x d F' H' p=>qx x d F' H' (mx x p)⟩
theorem Fn.x {post:Cell→Prop} {vs:List V} {H:Hp} {Q:VK} {E:XK} (h:Fn C Γ post vs H Q):FnX C Γ post (fun _=>False) vs H Q E:=let ⟨F,g,s,q⟩:=h; ⟨F,g,s,q,fun _ _ _ _ z=>z.elim⟩
def SpX (C:GCtx) (sp:Sp) (cs:List Cell) (post:Cell→Prop) (xp:Exn→Prop):Prop:=∀ vs H Q E,FnX C cs post xp vs H Q E→sp vs H Q E
theorem SpX.w {sp:Sp} {cs:List Cell} {post:Cell→Prop} (h:SpX C sp cs post fun _=>False):SpW C sp cs post:=fun vs H Q E f=>h vs H Q E f.x
theorem FnX.body {N:List Str} {post:Cell→Prop} {xp:Exn→Prop} {vs:List V} {H:Hp} {Q:VK} {E:XK} {t:TS} (h:FnX C Γ post xp vs H Q E)
  (hz:Z ⟨C,fun _=>E,fun x _=>xp x⟩ t (Γ++List.replicate (N.length-Γ.length) .no) { nx:=fun _=>post (.val dUnit ()),rt:=fun c _=>post c,bk:=fun _=>False,ct:=fun _=>False }):t { nx:=fun _ H'=>Q .non H',rt:=Q } (L2.start N vs) H:=by
 have hl:=h.len
 obtain ⟨F,g,s,q,qx⟩:=h
 have st:State ⟨C,fun _=>E,fun x _=>xp x⟩ ⟨F,H,[]⟩ F (L2.start N vs) H (Γ++List.replicate (N.length-Γ.length) .no):=by
  refine ⟨fun x d F' σ' H' Γ' k ⟨L,kw,_⟩ hd=>qx x d F' H' k (kw.sub (fun _ z=>nomatch z) List.nodup_nil) hd,[],g,?_⟩
  unfold L2.start
  rw [← hl]
  exact ZcR s (slots_pad _)
 refine hz ⟨F,H,[]⟩ F (L2.start N vs) H _ rfl st ⟨fun F' σ' H' Γ' p s'=>?_,fun F' σ' H' Γ' v c L L' p kw rc sl=>?_,fun _ _ _ _ z=>z.elim,fun _ _ _ _ z=>z.elim⟩
 ·obtain ⟨_,L,kw,_⟩:=s'
  refine q .non F' H' (.val dUnit ()) [] p (kw.sub (fun _ z=>nomatch z) List.nodup_nil) ⟨rfl,.non,rfl,rfl⟩
 ·have nd:(L.map Prod.fst).Nodup:=by
   have:=kw.nd
   rw [List.map_append] at this
   exact (List.nodup_append.mp this).1
  exact q v F' H' c L p (kw.sub (fun p hp=>List.mem_append_left _ hp) nd) rc
theorem Fn.body {N:List Str} {post:Cell→Prop} {vs:List V} {H:Hp} {Q:VK} {t:TS} (h:Fn C Γ post vs H Q)
  (hz:Z (calm C) t (Γ++List.replicate (N.length-Γ.length) .no) { nx:=fun _=>post (.val dUnit ()),rt:=fun c _=>post c,bk:=fun _=>False,ct:=fun _=>False }):t { nx:=fun _ H'=>Q .non H',rt:=Q } (L2.start N vs) H:=FnX.body (E:=fun _ _ _=>False) h.x hz
theorem w_callX {sp:Sp} {E:St→XK} {tl:TA} {kx:α→Prop} (hE:E=Y.E) (h:WA Y tl Γ fun cs=>SpX Y.g sp cs (fun c=>∃ r,c = .val d r∧kx r) fun x=>Y.kx x Γ):W Y (tCallS sp E tl) Γ d kx:=fun e F σ H s Q q=>h e F σ H s _ fun vs F1 H1 cs hc g1 sl=>by
 subst hE
 refine hc vs H1 Q _ ⟨F1,g1.base,sl,fun v F' H' c L ⟨r,ec,kr⟩ g2 rc=>?_,fun x d F' H' kx' g2 hd=>?_⟩
 ·subst ec
  obtain ⟨e1,v',e2,rv⟩:=rc
  subst e1
  cases (Option.some.inj e2)
  exact q v F' H' r kr (g1.Zbc g2) rv
 ·exact s.1 x d F' σ H' Γ kx' ((s.grow g1).grow g2).2 hd
theorem o_callX {sp:Sp} {E:St→XK} {tl:TA} {od : @OD α d} {kx:α→Prop} (hE:E=Y.E) (h:WA Y tl Γ fun cs=>SpX Y.g sp cs (fun c=>∃ r,c = .own d od none r∧kx r) fun x=>Y.kx x Γ):O Y (tCallS sp E tl) Γ od kx:=fun e F σ H s Q q=>h e F σ H s _ fun vs F1 H1 cs hc g1 sl=>by
 subst hE
 refine hc vs H1 Q _ ⟨F1,g1.base,sl,fun v F' H' c L ⟨r,ec,kr⟩ g2 rc=>?_,fun x d F' H' kx' g2 hd=>?_⟩
 ·subst ec
  obtain ⟨v',e2,_,rv⟩:=rc
  cases (Option.some.inj e2)
  exact q v F' H' L r kr (by simpa using g1.trans g2) rv
 ·exact s.1 x d F' σ H' Γ kx' ((s.grow g1).grow g2).2 hd
end
end G
namespace G
open PySem L2
def Tg (g:TG) (js:List Nat):Prop:=∀ v σ H (Q:St→Hp→Prop),g v σ H Q→g v σ H fun σ' H'=>wipe σ' js=wipe σ js∧Q σ' H'
theorem set_comm {α:Type _} (l:List α) {i j:Nat} (a b:α) (h:i≠j):(l.set i a).set j b=(l.set j b).set i a:=by
 apply List.ext_getElem?
 intro m
 simp only [List.getElem?_set,List.length_set]
 by_cases h1:j=m<;>by_cases h2:i=m<;>simp_all
theorem wipe_at {σ:St} {i:Nat} {o:Option V}:∀ {js:List Nat},i∈js→wipe (σ.set i o) js=wipe σ js
 | [],h=>nomatch h
 | j::js,h=>by
  unfold wipe
  by_cases hi:i∈js
  ·rw [wipe_at hi]
  ·have e:i=j:=by
    rcases List.mem_cons.mp h with h | h
    ·exact h
    ·exact absurd h hi
   subst e
   have q:∀ (js:List Nat),i∉js→wipe (σ.set i o) js=(wipe σ js).set i o:=by
    intro js
    induction js with
    | nil=>intro _;rfl
    | cons m js ih =>
     intro h
     unfold wipe
     rw [ih (fun z=>h (List.mem_cons_of_mem _ z)),set_comm _ _ _ (fun z=>h (by rw [z];exact List.mem_cons_self))]
   rw [q js hi]
   exact List.set_set _
theorem tg_name {i:Nat} {js:List Nat} (h:i∈js):Tg (gName i) js:=fun v σ H Q q=>⟨wipe_at h,q⟩
def MoG (g:TG):Prop:=∀ v σ H (Q Q' : St→Hp→Prop),(∀ σ H,Q σ H→Q' σ H)→g v σ H Q→g v σ H Q'
theorem mo_name {i:Nat}:MoG (gName i):=fun _ _ _ _ _ m q=>m _ _ q
theorem ZdI {i:Nat} {js:List Nat} (h:i∈js):Tg (gName i) js∧MoG (gName i):=⟨tg_name h,mo_name⟩
def Zak (Γ:List Cell):List Nat→List Cell
 | []=>Γ
 | v::vs=>(Zak Γ vs).set v .no
section
variable {C:GCtx} {Y:YC} {e:En} {F F' : Hp} {σ:St} {H H' : Hp} {Γ:List Cell}
theorem State.len (s:State Y e F σ H Γ):σ.length=Γ.length:=let ⟨_,_,_,sl⟩:=s;sl.len
theorem State.wipe (s:State Y e F σ H Γ):∀ vs:List Nat,State Y e F (wipe σ vs) H (Zak Γ vs)
 | []=>s
 | v::vs=>by
  have ih:=State.wipe s vs
  unfold L2.wipe Zak
  cases q:(Zak Γ vs)[v]? with
  | some c=>exact ih.forget q
  | none =>
   have h1:(Zak Γ vs).length≤v:=List.getElem?_eq_none_iff.mp q
   have h2:(L2.wipe σ vs).length≤v:=by rw [ih.len];exact h1
   rw [List.set_eq_of_length_le h1,List.set_eq_of_length_le h2]
   exact ih
theorem State.growL {L' : LO} (s:State Y e F σ H Γ) (g:Wk ⟨F,H,[]⟩ F' L' H'):State Y e F' σ H' Γ:=by
 obtain ⟨hx,L,k,sl⟩:=s
 have k2:=k.trans g
 have k3:Wk e F' ([]++L'++L) H':=by simpa using k2
 exact ⟨hx,L,by simpa using k3.drop,sl.mono g.ff⟩
end
section
variable {C:GCtx} {Y:YC} {Γ:List Cell} {te ta tb tc:TE} {t u tt:TT} {α β γ δ:Type} {d1:Dat α} {d:Dat α} {d2:Dat β} {k:Ks} {t1 t2 ts:TS} {g:TG}
def CompB (Y:YC) (g:TG) (tt:TT) (te:TE) {α β:Type} (d:Dat α) (d2:Dat β) (kx:List β→Prop) (get:Nat→Option α) (n:Nat) (Γ:List Cell):Prop :=
 ∃ I:Nat→List β→Prop,I 0 []∧(∀ i x ys,get i=some x→I i ys→A Y g Γ d x fun Γ2=>T Y tt Γ2 fun b=>(b=true→W Y te Γ2 d2 fun y=>ys.length<PySem.sizeLine∧I (i+1) (ys++[y]))∧(b=false→I (i+1) ys)) ∧ ∀ ys,I n ys→kx ys
theorem comp_turn {e:En} {F1:Hp} {σ:St} {H1:Hp} {vs:List Nat} {D:Addr} {x:α} {v:V} {I I' : List β→Prop} (s1:State Y e F1 σ H1 Γ) (hT:Tg g vs)
  (hs:∀ ys,I ys→A Y g (Zak Γ vs) d x fun Γ2=>T Y tt Γ2 fun b=>(b=true→W Y te Γ2 d2 fun y=>ys.length<PySem.sizeLine∧I' (ys++[y]))∧(b=false→I' ys)) (rx:∀ F',Same F1 F'→d.rep Y.g F' v x) {H:Hp}
  (h:∃ F' acc ys,Wk ⟨F1,H1,[]⟩ F' [(D,.lst acc)] H∧Reps d2 Y.g F' acc ys∧I ys) :
  g v (wipe σ vs) H fun σ2 H2=>wipe σ2 vs=wipe σ vs∧tt σ2 H2 fun b H3 =>
   if b=true then te σ2 H3 fun y H4=>∃ acc,H4 D=some (.lst acc)∧acc.length<PySem.sizeLine∧(∃ F' acc' ys,Wk ⟨F1,H1,[]⟩ F' [(D,.lst acc')] (upd H4 D (.lst (acc++[y])))∧Reps d2 Y.g F' acc' ys∧I' ys) else (∃ F' acc ys,Wk ⟨F1,H1,[]⟩ F' [(D,.lst acc)] H3∧Reps d2 Y.g F' acc ys∧I' ys):=by
 obtain ⟨F',acc,ys,kw,r,hi⟩:=h
 have st:=(s1.growL kw).wipe vs
 have ww:∀ σ0:St,wipe (wipe σ0 vs) vs=wipe σ0 vs:=by
  intro σ0
  have:∀ (l:List Nat) (σ1:St),(∀ j∈l,(σ1[j]? = none∨σ1[j]? = some none))→wipe σ1 l=σ1:=by
   intro l
   induction l with
   | nil=>intro _ _;rfl
   | cons j l ih =>
    intro σ1 hj
    unfold wipe
    rw [ih σ1 fun m hm=>hj m (List.mem_cons_of_mem _ hm)]
    apply List.ext_getElem?
    intro m
    rw [List.getElem?_set]
    by_cases hm:j=m
    ·subst hm
     rcases hj j List.mem_cons_self with z | z
     ·rw [z,if_pos rfl,if_neg (Nat.not_lt.mpr (List.getElem?_eq_none_iff.mp z))]
     ·rw [z,if_pos rfl,if_pos (List.getElem?_eq_some_iff.mp z).1]
    ·rw [if_neg hm]
  refine this vs _ fun j hj=>?_
  cases q:(wipe σ0 vs)[j]? with
  | none=>exact .inl rfl
  | some o =>
   cases o with
   | none=>exact .inr rfl
   | some y=>exact absurd hj (wipe_some q).2
 have key:=hs ys hi e F' _ H v st (rx F' kw.ff) (fun σ2 H2=>tt σ2 H2 fun b H3 =>
   if b=true then te σ2 H3 fun y H4=>∃ acc,H4 D=some (.lst acc)∧acc.length<PySem.sizeLine∧(∃ F' acc' ys,Wk ⟨F1,H1,[]⟩ F' [(D,.lst acc')] (upd H4 D (.lst (acc++[y])))∧Reps d2 Y.g F' acc' ys∧I' ys) else (∃ F' acc ys,Wk ⟨F1,H1,[]⟩ F' [(D,.lst acc)] H3∧Reps d2 Y.g F' acc ys∧I' ys)) fun σ2 Γ2 h2 st2=>by
  refine h2 e F' σ2 H st2 _ fun b F3 H3 kb g3=>?_
  have kw3:=kw.Zbc g3
  cases b with
  | false=>exact ⟨F3,acc,ys,kw3,r.mono g3.ff,kb.2 rfl⟩
  | true =>
   refine kb.1 rfl e F3 σ2 H3 (st2.grow g3) _ fun y F4 H4 yv ⟨hl,ky⟩ g4 ry=>?_
   have kw4:=kw3.Zbc g4
   have hD:H4 D=some (.lst acc):=(kw4.ow (D,.lst acc) (by simp)).2.1
   exact ⟨acc,hD,by rw [r.len];exact hl,F4,acc++[y],ys++[yv],kw4.put (fun _ z=>by cases z),(r.mono (g3.ff.trans g4.ff)).append (Reps.one ry),ky⟩
 have key2:=hT v _ H _ key
 rw [ww] at key2
 exact key2
theorem o_lcR {vs:List Nat} {kx:List β→Prop} (hT:Tg g vs∧MoG g) (h:R Y ta Γ dInt fun n=>-(2 ^ 62)≤n∧n<2 ^ 62∧CompB Y g tt te dInt d2 kx (rng 0 n.toNat) n.toNat (Zak Γ vs)):O Y (tLc (iRng1 (tCons ta tNil)) g tt te vs) Γ (oList (d:=d2)) kx:=fun e F σ H s Q q=>h e F σ H s _ fun v F1 H1 n ⟨l1,l2,I,h0,hs,hd⟩ g1 r1=>by
 cases (show v = .int n from r1)
 refine ⟨n,rfl,l1,l2,fun D hD=>?_⟩
 have kw0:Wk ⟨F1,H1,[]⟩ F1 [(D,.lst [])] (upd H1 D (.lst [])):=g1.base.own hD (fun _ z=>by cases z)
 refine lc_range (lo:=0) (n:=n.toNat) (fun i H=>∃ F' acc ys,Wk ⟨F1,H1,[]⟩ F' [(D,.lst acc)] H∧Reps d2 Y.g F' acc ys∧I i ys) ⟨F1,[],[],kw0,trivial,h0⟩ (fun i H hw p=>?_) fun H ⟨F',acc,ys,kw,ra,hi⟩=>?_
 ·exact comp_turn (d:=dInt) (s.grow g1) hT.1 (hs i (0+i) · (by unfold rng;rw [if_pos hw])) (fun F' sm=>rfl) p
 ·exact q _ F' H _ ys (hd ys hi) (by simpa using g1.trans kw) ⟨D,acc,rfl,rfl,ra⟩
theorem t_yes {kb:Bool→Prop} (h:kb true):T Y tYes Γ kb:=fun e F σ H s Q q=>q true F H h s.base
def rngL (lo:Int) (n:Nat):List Int:=(List.range n).map fun i:Nat=>lo+(i:Int)
theorem rng_get (lo:Int) (n i:Nat):rng lo n i=(rngL lo n)[i]?:=by
 unfold rng rngL
 rw [List.getElem?_map]
 by_cases h:i<n
 ·rw [if_pos h,List.getElem?_range h];rfl
 ·rw [if_neg h,List.getElem?_eq_none (by simpa using h)];rfl
theorem Zds (lo:Int) (n:Nat):(rngL lo n).length=n:=by simp [rngL]
def isort (xs:List Int):List Int:=xs.mergeSort (fun a b=>decide (a≤b))
class Ty (α:Type) [d:Dat α] where
 tn:String
 ty:∀ {C:GCtx} {H:Hp} {v:V} {x:α},d.rep C H v x→TyX C.K H v (.type tn)
instance tyInt:Ty Int:=⟨"int",fun {C H v x} h=>by cases (show v = .int x from h);exact .base (.int x)⟩
instance tyBool:Ty Bool:=⟨"bool",fun {C H v x} h=>by cases (show v = .bl x from h);exact .base (.bl x)⟩
instance tyStr:Ty Str:=⟨"str",fun {C H v x} h=>by cases (show v = .str x from h);exact .base (.str x)⟩
theorem ty_sql {K:PySem.W.Frag} {H:Hp} {a:Addr} {xs:List V} (h:SqL K H a xs):TyX K H (.ref a) (.type "list"):=by
 rcases h with (h | ⟨o,h⟩) | ⟨o,its,n,h,hc,_⟩
 ·exact .base (.lst h)
 ·exact .base (.frz h)
 ·exact .kList h hc
theorem ty_tpa {K:PySem.W.Frag} {H:Hp} {a:Addr} {xs:List V} (h:TpA K H a xs):TyX K H (.ref a) (.type "tuple"):=by
 rcases h with h | (h | ⟨o,h⟩) | ⟨o,its,n,h,hc,_⟩
 ·exact .base (.tup h)
 ·cases h
 ·cases h
 ·exact .kTuple h hc
instance tyList {α:Type} [d:Dat α]:Ty (List α):=⟨"list",fun ⟨a,vs,e,h,r⟩=>by subst e;exact ty_sql (.inl h)⟩
instance tyTup {α:Type} [d:Dat α]:Ty (Tup α):=⟨"tuple",fun ⟨a,vs,e,h,r⟩=>by subst e;exact ty_tpa h⟩
instance tyPair {α β:Type} [d1:Dat α] [d2:Dat β]:Ty (α×β):=⟨"tuple",fun ⟨a,_,_,e,h,_⟩=>by subst e;exact ty_tpa h⟩
instance tyT3 {α β γ:Type} [d1:Dat α] [d2:Dat β] [d3:Dat γ]:Ty (T3 α β γ):=⟨"tuple",fun ⟨a,_,_,_,e,h,_⟩=>by subst e;exact ty_tpa h⟩
instance tyT4 {α β γ δ:Type} [d1:Dat α] [d2:Dat β] [d3:Dat γ] [d4:Dat δ]:Ty (T4 α β γ δ):=⟨"tuple",fun ⟨a,_,_,_,_,e,h,_⟩=>by subst e;exact ty_tpa h⟩
class DE (α:Type) [d:Dat α] where
 toD:α→PyData
 dep:Nat
 dp:∀ {C:GCtx} {H:Hp} {v:V} {x:α},d.rep C H v x→Dp C.K H v (toD x)
 lay:∀ x,(toD x).plain=true
 deep:∀ x,(toD x).depth≤dep
 eqv:∀ x y,PyData.eqv (toD x) (toD y)=true↔x=y
instance deInt:DE Int:=⟨.int,1,fun {C H v x} h=>by cases (show v = .int x from h);exact .int x,fun _=>by simp [PyData.plain],fun _=>by simp [PyData.depth],fun x y=>by simp [PyData.eqv]⟩
instance deStr:DE Str:=⟨.str,1,fun {C H v x} h=>by cases (show v = .str x from h);exact .str x,fun _=>by simp [PyData.plain],fun _=>by simp [PyData.depth],fun x y=>by simp [PyData.eqv]⟩
instance deBool:DE Bool:=⟨.bool,1,fun {C H v x} h=>by cases (show v = .bl x from h);exact .bl x,fun _=>by simp [PyData.plain],fun _=>by simp [PyData.depth],fun x y=>by simp [PyData.eqv]⟩
theorem dpAll_of [de : @DE α d] {H:Hp}:∀ {vs:List V} {xs:List α},Reps d C H vs xs→DpAll C.K H vs (xs.map de.toD)
 | [],[],_=>.nil
 | _::_,_::_,h=>.cons (de.dp h.1) (dpAll_of h.2)
 | [],_::_,h=>h.elim
 | _::_,[],h=>h.elim
theorem eqvAll_of [de : @DE α d]:∀ xs ys:List α,PyData.eqvAll (xs.map de.toD) (ys.map de.toD)=true↔xs=ys
 | [],[]=>by simp [PyData.eqvAll]
 | x::xs,y::ys=>by simp [PyData.eqvAll,de.eqv,eqvAll_of xs ys]
 | [],_::_=>by simp [PyData.eqvAll]
 | _::_,[]=>by simp [PyData.eqvAll]
theorem layAll_of [de : @DE α d]:∀ xs:List α,PyData.plainAll (xs.map de.toD)=true
 | []=>by simp [PyData.plainAll]
 | x::xs=>by simp [PyData.plainAll,de.lay,layAll_of xs]
theorem depAll_of [de : @DE α d]:∀ xs:List α,PyData.depthAll (xs.map de.toD)≤de.dep
 | []=>by simp [PyData.depthAll]
 | x::xs=>by
  simp only [List.map_cons,PyData.depthAll]
  exact Nat.max_le.mpr ⟨de.deep x,depAll_of xs⟩
instance deList [de : @DE α d] : @DE (List α) dList :=
 ⟨fun xs=>.list (xs.map de.toD),de.dep+1,fun ⟨a,vs,e,h,r⟩=>by subst e;exact .lst h (dpAll_of r),fun xs=>by simp [PyData.plain,layAll_of],fun xs=>by simp [PyData.depth,depAll_of],fun xs ys=>by simp [PyData.eqv,eqvAll_of]⟩
instance deTup [de : @DE α d] : @DE (Tup α) dTup :=
 ⟨fun xs=>.tuple (xs.l.map de.toD),de.dep+1,fun ⟨a,vs,e,h,r⟩=>by subst e;exact .tup h.sq (dpAll_of r),fun xs=>by simp [PyData.plain,layAll_of],fun xs=>by simp [PyData.depth,depAll_of],fun xs ys=>by
  obtain ⟨xs⟩:=xs
  obtain ⟨ys⟩:=ys
  simp [PyData.eqv,eqvAll_of]⟩
instance dePair {α β:Type} {d1:Dat α} {d2:Dat β} [de1 : @DE α d1] [de2 : @DE β d2] : @DE (α×β) dPair :=
 ⟨fun x=>.tuple [de1.toD x.1,de2.toD x.2],max de1.dep de2.dep+1,fun ⟨a,v1,v2,e,h,r1,r2⟩=>by subst e;exact .tup h.sq (.cons (de1.dp r1) (.cons (de2.dp r2) .nil)),fun x=>by simp [PyData.plain,PyData.plainAll,de1.lay,de2.lay],
  fun x=>by have h1:=de1.deep x.1;have h2:=de2.deep x.2;simp [PyData.depth,PyData.depthAll];omega,fun x y=>by
  obtain ⟨x1,x2⟩:=x
  obtain ⟨y1,y2⟩:=y
  simp [PyData.eqv,PyData.eqvAll,de1.eqv,de2.eqv]⟩
instance deT3 {α β γ:Type} {d1:Dat α} {d2:Dat β} {d3:Dat γ} [de1 : @DE α d1] [de2 : @DE β d2] [de3 : @DE γ d3] : @DE (T3 α β γ) dT3 :=
 ⟨fun x=>.tuple [de1.toD x.a,de2.toD x.b,de3.toD x.c],max de1.dep (max de2.dep de3.dep)+1,fun ⟨a,v1,v2,v3,e,h,r1,r2,r3⟩=>by subst e;exact .tup h.sq (.cons (de1.dp r1) (.cons (de2.dp r2) (.cons (de3.dp r3) .nil))),fun x=>by simp [PyData.plain,PyData.plainAll,de1.lay,de2.lay,de3.lay],
  fun x=>by have h1:=de1.deep x.a;have h2:=de2.deep x.b;have h3:=de3.deep x.c;simp [PyData.depth,PyData.depthAll];omega,fun x y=>by
  obtain ⟨x1,x2,x3⟩:=x
  obtain ⟨y1,y2,y3⟩:=y
  simp [PyData.eqv,PyData.eqvAll,de1.eqv,de2.eqv,de3.eqv]⟩
instance deT4 {α β γ δ:Type} {d1:Dat α} {d2:Dat β} {d3:Dat γ} {d4:Dat δ} [de1 : @DE α d1] [de2 : @DE β d2] [de3 : @DE γ d3] [de4 : @DE δ d4] : @DE (T4 α β γ δ) dT4 :=
 ⟨fun x=>.tuple [de1.toD x.a,de2.toD x.b,de3.toD x.c,de4.toD x.d],max de1.dep (max de2.dep (max de3.dep de4.dep))+1,fun ⟨a,v1,v2,v3,v4,e,h,r1,r2,r3,r4⟩=>by subst e;exact .tup h.sq (.cons (de1.dp r1) (.cons (de2.dp r2) (.cons (de3.dp r3) (.cons (de4.dp r4) .nil)))),fun x=>by simp [PyData.plain,PyData.plainAll,de1.lay,de2.lay,de3.lay,de4.lay],
  fun x=>by have h1:=de1.deep x.a;have h2:=de2.deep x.b;have h3:=de3.deep x.c;have h4:=de4.deep x.d;simp [PyData.depth,PyData.depthAll];omega,fun x y=>by
  obtain ⟨x1,x2,x3,x4⟩:=x
  obtain ⟨y1,y2,y3,y4⟩:=y
  simp [PyData.eqv,PyData.eqvAll,de1.eqv,de2.eqv,de3.eqv,de4.eqv]⟩
structure IS where
 l:List Int
def SetOk (S:Int→Bool) (n:Nat) (s:IS):Prop:=(∀ k,S k=decide (k∈s.l))∧n=s.l.length
instance dSet:Dat IS:=⟨fun C F v s=>∃ a S n,v = .ref a∧F a=some (SetO C.w a S n)∧SetOk S n s,fun m ⟨a,S,n,e,h,o⟩=>⟨a,S,n,e,m _ _ h,o⟩⟩
instance oSet:OD IS where
 orep C F v s L:=∃ a S n,v = .ref a∧L=[(a,SetO C.w a S n)]∧SetOk S n s
 omono m:=fun h=>h
 view:=fun ⟨a,S,n,e,h,o⟩ m k=>⟨a,S,n,e,k (a,SetO _ a S n) (by rw [h];exact List.mem_cons_self),o⟩
structure DI (β:Type) where
 kv:List (Int×β)
def Zcy {β:Type} (d:Dat β) (C:GCtx) (F:Hp):List (Key×V)→List (Int×β)→Prop
 | [],[]=>True
 | p::ps,x::xs=>p.1=Sum.inl x.1∧d.rep C F p.2 x.2∧Zcy d C F ps xs
 | _,_=>False
section
variable {F F' : Hp}
theorem Zcy.mono (s:Same F F'):∀ {ps:List (Key×V)} {xs:List (Int×α)},Zcy d C F ps xs→Zcy d C F' ps xs
 | [],[],_=>trivial
 | _::_,_::_,h=>⟨h.1,d.mono s h.2.1,Zcy.mono s h.2.2⟩
 | [],_::_,h=>h.elim
 | _::_,[],h=>h.elim
theorem Zcy.len:∀ {ps:List (Key×V)} {xs:List (Int×α)},Zcy d C F ps xs→ps.length=xs.length
 | [],[],_=>rfl
 | _::_,_::_,h=>by simp [Zcy.len h.2.2]
 | [],_::_,h=>h.elim
 | _::_,[],h=>h.elim
theorem valV_cons {κ:Type} [DecidableEq κ] (p:κ×V) (ps:List (κ×V)) (k:κ):valV (p::ps) k=if p.1=k then some p.2 else valV ps k:=by
 unfold valV
 by_cases h:p.1=k
 ·rw [List.find?_cons_of_pos (by simp [h]),if_pos h];rfl
 ·rw [List.find?_cons_of_neg (by simp [h]),if_neg h]
theorem lookup_cons' {β:Type} (x:Int×β) (xs:List (Int×β)) (k:Int):(x::xs).lookup k=if x.1=k then some x.2 else xs.lookup k:=by
 obtain ⟨a,b⟩:=x
 rw [List.lookup_cons]
 by_cases h:a=k
 ·subst h;simp
 ·have:(k == a)=false:=by simp;exact fun z=>h z.symm
  rw [this];simp [h]
theorem Zcy.look:∀ {ps:List (Key×V)} {xs:List (Int×α)} (k:Int),Zcy d C F ps xs→(∀ x,xs.lookup k=some x → ∃ v,valV ps (Sum.inl k)=some v∧d.rep C F v x)∧(xs.lookup k=none→valV ps (Sum.inl k:Key)=none)
 | [],[],k,_=>⟨fun _ h=>(nomatch h),fun _=>rfl⟩
 | p::ps,x::xs,k,h=>by
  rw [valV_cons,lookup_cons',h.1]
  by_cases hk:x.1=k
  ·rw [if_pos hk,if_pos (by rw [hk])]
   exact ⟨fun y e=>⟨p.2,rfl,by cases e;exact h.2.1⟩,fun z=>(nomatch z)⟩
  ·rw [if_neg hk,if_neg (fun z=>hk (Sum.inl.inj z))]
   exact Zcy.look k h.2.2
 | [],_::_,_,h=>h.elim
 | _::_,[],_,h=>h.elim
end
def putI {β:Type} (kv:List (Int×β)) (k:Int) (v:β):List (Int×β):=if (kv.lookup k).isSome then kv.map (fun p=>if p.1=k then (k,v) else p) else kv++[(k,v)]
instance dDI {α:Type} [d:Dat α]:Dat (DI α):=⟨fun C F v x=>∃ a ps,v = .ref a∧F a=some (.dK ps)∧Zcy d C F ps x.kv,fun m ⟨a,ps,e,h,r⟩=>⟨a,ps,e,m _ _ h,r.mono m⟩⟩
instance oDI {α:Type} [d:Dat α]:OD (DI α) where
 orep C F v x L:=∃ a ps,v = .ref a∧L=[(a,.dK ps)]∧Zcy d C F ps x.kv
 omono m:=fun ⟨a,ps,e,h,r⟩=>⟨a,ps,e,h,r.mono m⟩
 view:=fun ⟨a,ps,e,h,r⟩ m k=>⟨a,ps,e,k (a,.dK ps) (by rw [h];exact List.mem_cons_self),r.mono m⟩
end
end G
section
set_option maxHeartbeats 2000000
namespace SrtO
open PySem PyProof.Rows Srt
section
variable {prog:Program} {w:World} {A:Around} {E:Value→Shared→Prop} {s:Shared}
end
end SrtO
namespace L2
open PySem PySem.Spec PyProof.Rows
section
variable {X:Cx}
theorem born {pins:List (Addr×Obj)} {σ:St} {H:Hp} {s:Shared} {R:It→Hp→Prop} {tg:Expr} {J:It} {tn:Nat→Heap→Prop} {ob:Obj} (I:Inv X pins σ H s) (T:Turn X.prog X.w X.K tg J [s.heap.objs.size] s.heap.objs.size tn) (t0:tn 0 (s.heap.push ob)) (q:R J H) :
  PIE X pins σ tg R (.ref s.heap.objs.size) { s with heap:=s.heap.push ob } :=
 ⟨_,_,_,_,H,rfl,I.kept (t':=s.toks) (fun _ _ z=>Heap.get?_push_of_some _ z),T,t0,fun b hb=>by
  cases List.mem_singleton.mp hb
  exact I.fpOk (Nat.le_refl _) (I.hok.fresh (Nat.le_refl _)),q⟩
end
end L2
namespace G
open PySem L2
structure Sq (α:Type) where
 l:List α
 deriving DecidableEq
instance dSq {α:Type} [d:Dat α]:Dat (Sq α) :=
 ⟨fun C F v xs=>∃ a vs,v = .ref a∧(SqL C.K F a vs∨TpA C.K F a vs)∧Reps d C F vs xs.l,fun s ⟨a,vs,e,h,r⟩=>⟨a,vs,e,h.imp s.seq (·.mono s),r.mono s⟩⟩
section
variable {C:GCtx} {Y:YC} {Γ:List Cell} {te ta tb tc:TE} {t u tt:TT} {α β γ δ:Type} {d1:Dat α} {d:Dat α} {d2:Dat β} {k:Ks} {t1 t2 ts:TS} {g:TG}
theorem w_lenQ {k:Int→Prop} (h:R Y ta Γ (dSq (d:=d)) fun xs=>k (xs.l.length:Int)):W Y (tCB (fun xs H Q=>∃ p ys,xs=[.ref p]∧(SqL Y.K H p ys∨SqT Y.K H p ys)∧Q (.int ys.length) H) (tCons ta tNil)) Γ dInt k:=fun e F σ H s Q q=>h e F σ H s _ fun v F' H' x kx g ⟨a,vs,e1,h1,r⟩=>by
 subst e1
 exact ⟨a,vs,rfl,h1.imp id (·.sq),q _ F' H' _ (by rw [r.len];exact kx) g rfl⟩
def Zcw {α:Type} {d:Dat α} (od:OD α) (C:GCtx) (F:Hp):List V→List α→LO→Prop
 | [],[],L=>L=[]
 | v::vs,x::xs,L=>∃ L1 L2,L=L1++L2∧od.orep C F v x L1∧Zcw od C F vs xs L2
 | _,_,_=>False
theorem Zcw.mono {od : @OD α d} {F F' : Hp} (s:Same F F'):∀ {vs:List V} {xs:List α} {L:LO},Zcw od C F vs xs L→Zcw od C F' vs xs L
 | [],[],_,h=>h
 | _::_,_::_,_,⟨L1,L2,e,h1,h2⟩=>⟨L1,L2,e,od.omono s h1,Zcw.mono s h2⟩
 | [],_::_,_,h=>h.elim
 | _::_,[],_,h=>h.elim
theorem Zcw.view {od : @OD α d} {F H:Hp} (s:Same F H):∀ {vs:List V} {xs:List α} {L:LO},Zcw od C F vs xs L→(∀ p∈L,H p.1=some p.2)→Reps d C H vs xs
 | [],[],_,_,_=>trivial
 | _::_,_::_,_,⟨L1,L2,e,h1,h2⟩,k=>⟨od.view h1 s fun p hp=>k p (by rw [e];exact List.mem_append_left _ hp),Zcw.view s h2 fun p hp=>k p (by rw [e];exact List.mem_append_right _ hp)⟩
 | [],_::_,_,h,_=>h.elim
 | _::_,[],_,h,_=>h.elim
theorem Zcw.len {od : @OD α d} {F:Hp}:∀ {vs:List V} {xs:List α} {L:LO},Zcw od C F vs xs L→vs.length=xs.length
 | [],[],_,_=>rfl
 | _::_,_::_,_,⟨_,_,_,_,h2⟩=>by simp [Zcw.len h2]
 | [],_::_,_,h=>h.elim
 | _::_,[],_,h=>h.elim
theorem Zcw.append {od : @OD α d} {F:Hp} {ws:List V} {ys:List α} {M:LO}:∀ {vs:List V} {xs:List α} {L:LO},Zcw od C F vs xs L→Zcw od C F ws ys M→Zcw od C F (vs++ws) (xs++ys) (L++M)
 | [],[],_,h,g=>by cases (show _=[] from h);exact g
 | _::_,_::_,_,⟨L1,L2,e,h1,h2⟩,g=>⟨L1,L2++M,by rw [e,List.append_assoc],h1,Zcw.append h2 g⟩
 | [],_::_,_,h,_=>h.elim
 | _::_,[],_,h,_=>h.elim
theorem Zcw.one {od : @OD α d} {F:Hp} {v:V} {x:α} {L:LO} (h:od.orep C F v x L):Zcw od C F [v] [x] L:=⟨L,[],by simp,h,rfl⟩
theorem Zcw.at {od : @OD α d} {F:Hp}:∀ {vs:List V} {xs:List α} {L:LO} {i:Nat} {x:α},Zcw od C F vs xs L→xs[i]? = some x → ∃ v L1 Li L2,vs[i]? = some v∧L=L1++Li++L2∧od.orep C F v x Li ∧ ∀ x' Li',od.orep C F v x' Li'→Zcw od C F vs (xs.set i x') (L1++Li'++L2)
 | [],[],_,i,_,_,e=>by cases i<;>cases e
 | v::vs,y::xs,L,0,x,⟨L1,L2,e,h1,h2⟩,hx=>by
  cases (Option.some.inj hx:y=x)
  exact ⟨v,[],L1,L2,rfl,by simpa using e,h1,fun x' Li' h=>⟨Li',L2,by simp,h,h2⟩⟩
 | v::vs,y::xs,L,i+1,x,⟨L1,L2,e,h1,h2⟩,hx=>by
  obtain ⟨w,M1,Mi,M2,e1,e2,h3,f⟩:=Zcw.at (i:=i) h2 hx
  exact ⟨w,L1++M1,Mi,M2,e1,by rw [e,e2];simp [List.append_assoc],h3,fun x' Li' h=>⟨L1,M1++Li'++M2,by simp [List.append_assoc],h1,f x' Li' h⟩⟩
 | [],_::_,_,_,_,h,_=>h.elim
 | _::_,[],_,_,_,h,_=>h.elim
@[reducible] def Zea {α:Type} {d:Dat α} (od:OD α) : @OD (List α) dList where
 orep C F v xs L:=∃ a vs L',v = .ref a∧L=(a,.lst vs)::L'∧Zcw od C F vs xs L'
 omono s:=fun ⟨a,vs,L',e,h,r⟩=>⟨a,vs,L',e,h,r.mono s⟩
 view:=fun ⟨a,vs,L',e,h,r⟩ s k=>⟨a,vs,e,.inl (k (a,.lst vs) (by rw [h];exact List.mem_cons_self)),r.view s fun p hp=>k p (by rw [h];exact List.mem_cons_of_mem _ hp)⟩
instance mDeep {α:Type} [d:Dat α] {od:OD α} [i:OIm α od]:OIm (List α) (Zea od):=⟨fun {C F H v xs L} t ⟨a,vs,L',e,h,r⟩=>⟨a,vs,L',e,h,by
 have go:∀ {vs:List V} {xs:List α} {L:LO},Zcw od C H vs xs L→Zcw od C F vs xs L:=by
  intro vs xs L h
  induction vs generalizing xs L with
  | nil=>cases xs with
   | nil=>exact h
   | cons _ _=>exact h.elim
  | cons v vs ih=>cases xs with
   | nil=>exact h.elim
   | cons x xs=>obtain ⟨L1,L2,e,h1,h2⟩:=h;exact ⟨L1,L2,e,i.oimm t h1,ih h2⟩
 exact go r⟩⟩
def Zcn {β:Type} {d:Dat β} (od:OD β) (C:GCtx) (F:Hp):List (Key×V)→List (Int×β)→LO→Prop
 | [],[],L=>L=[]
 | p::ps,x::xs,L=>∃ L1 L2,L=L1++L2∧p.1=Sum.inl x.1∧od.orep C F p.2 x.2 L1∧Zcn od C F ps xs L2
 | _,_,_=>False
theorem Zcn.mono {od : @OD α d} {F F' : Hp} (s:Same F F'):∀ {ps:List (Key×V)} {xs:List (Int×α)} {L:LO},Zcn od C F ps xs L→Zcn od C F' ps xs L
 | [],[],_,h=>h
 | _::_,_::_,_,⟨L1,L2,e,hk,h1,h2⟩=>⟨L1,L2,e,hk,od.omono s h1,Zcn.mono s h2⟩
 | [],_::_,_,h=>h.elim
 | _::_,[],_,h=>h.elim
theorem Zcn.view {od : @OD α d} {F H:Hp} (s:Same F H):∀ {ps:List (Key×V)} {xs:List (Int×α)} {L:LO},Zcn od C F ps xs L→(∀ p∈L,H p.1=some p.2)→Zcy d C H ps xs
 | [],[],_,_,_=>trivial
 | _::_,_::_,_,⟨L1,L2,e,hk,h1,h2⟩,k=>⟨hk,od.view h1 s fun p hp=>k p (by rw [e];exact List.mem_append_left _ hp),Zcn.view s h2 fun p hp=>k p (by rw [e];exact List.mem_append_right _ hp)⟩
 | [],_::_,_,h,_=>h.elim
 | _::_,[],_,h,_=>h.elim
theorem Zcn.append {od : @OD α d} {F:Hp} {ws:List (Key×V)} {ys:List (Int×α)} {M:LO}:∀ {vs:List (Key×V)} {xs:List (Int×α)} {L:LO},Zcn od C F vs xs L→Zcn od C F ws ys M→Zcn od C F (vs++ws) (xs++ys) (L++M)
 | [],[],_,h,g=>by cases (show _=[] from h);exact g
 | _::_,_::_,_,⟨L1,L2,e,hk,h1,h2⟩,g=>⟨L1,L2++M,by rw [e,List.append_assoc],hk,h1,Zcn.append h2 g⟩
 | [],_::_,_,h,_=>h.elim
 | _::_,[],_,h,_=>h.elim
def setI {β:Type}:List (Int×β)→Int→β→List (Int×β)
 | [],_,_=>[]
 | p::ps,k,x=>if p.1=k then (p.1,x)::ps else p::setI ps k x
theorem Zcn.at {od : @OD α d} {F:Hp}:∀ {ps:List (Key×V)} {xs:List (Int×α)} {L:LO} {i:Int} {x:α},Zcn od C F ps xs L→xs.lookup i=some x → ∃ v L1 Li L2,valV ps (Sum.inl i)=some v∧L=L1++Li++L2∧od.orep C F v x Li ∧ ∀ x' Li',od.orep C F v x' Li'→Zcn od C F ps (setI xs i x') (L1++Li'++L2)
 | [],[],_,i,_,_,e=>by cases e
 | p::vs,y::xs,L,i,x,⟨L1,L2,e,hk,h1,h2⟩,hx=>by
  rw [lookup_cons'] at hx
  rw [valV_cons,hk]
  unfold setI
  by_cases hi:y.1=i
  ·rw [if_pos hi] at hx
   cases (Option.some.inj hx:y.2=x)
   refine ⟨p.2,[],L1,L2,by rw [if_pos (by rw [hi])],by simpa using e,h1,fun x' Li' h=>?_⟩
   rw [if_pos hi]
   exact ⟨Li',L2,by simp,hk,h,h2⟩
  ·rw [if_neg hi] at hx
   simp only [if_neg hi]
   obtain ⟨w,M1,Mi,M2,e1,e2,h3,f⟩:=Zcn.at (i:=i) h2 hx
   exact ⟨w,L1++M1,Mi,M2,by rw [if_neg (fun z=>hi (Sum.inl.inj z)),e1],by rw [e,e2];simp [List.append_assoc],h3,fun x' Li' h=>⟨L1,M1++Li'++M2,by simp [List.append_assoc],hk,h1,f x' Li' h⟩⟩
 | [],_::_,_,_,_,h,_=>h.elim
 | _::_,[],_,_,_,h,_=>h.elim
@[reducible] def oDeepDI {β:Type} {d:Dat β} (od:OD β) : @OD (DI β) dDI where
 orep C F v x L:=∃ a ps L',v = .ref a∧L=(a,.dK ps)::L'∧Zcn od C F ps x.kv L'
 omono s:=fun ⟨a,vs,L',e,h,r⟩=>⟨a,vs,L',e,h,r.mono s⟩
 view:=fun ⟨a,ps,L',e,h,r⟩ s k=>⟨a,ps,e,k (a,.dK ps) (by rw [h];exact List.mem_cons_self),r.view s fun p hp=>k p (by rw [h];exact List.mem_cons_of_mem _ hp)⟩
end
end G
end
namespace G
open PySem L2
theorem atI_of {α:Type} {xs:List α} {i:Int} {x:α} (h0:0≤i) (h:xs[i.toNat]? = some x):atI xs i=some x:=by
 obtain ⟨j,rfl⟩:∃ j:Nat,i=j:=⟨i.toNat,by omega⟩
 exact atI_nat h
theorem ZcQ {n:Nat} (h:n≤100000):n<PySem.sizeLine:=Nat.lt_of_le_of_lt h (by decide)
theorem rng_some {lo:Int} {n i:Nat} {x:Int} (h:rng lo n i=some x):i<n∧x=lo+i:=by
 unfold rng at h
 split at h
 ·next hi=>exact ⟨hi,by cases h;rfl⟩
 ·cases h
section
variable {C:GCtx} {Y:YC} {Γ:List Cell} {te ta tb tc tk tv:TE} {t u tt:TT} {α β γ δ:Type} {d1:Dat α} {d:Dat α} {d2:Dat β} {k:Ks} {t1 t2 ts:TS} {g:TG}
theorem KReps_has {od : @OD β d2} {F:Hp}:∀ {ps:List (Key×V)} {xs:List (Int×β)} {L:LO},Zcn od C F ps xs L→ps.map (·.1)=xs.map fun p=>(Sum.inl p.1:Key)
 | [],[],_,_=>rfl
 | _::_,_::_,_,⟨_,_,_,hk,_,h2⟩=>by simp [hk,KReps_has h2]
 | [],_::_,_,h=>h.elim
 | _::_,[],_,h=>h.elim
theorem Zcn.none {od : @OD β d2} {F:Hp}:∀ {ps:List (Key×V)} {xs:List (Int×β)} {L:LO} {i:Int},Zcn od C F ps xs L→xs.lookup i=none→valV ps (Sum.inl i:Key)=none
 | [],[],_,_,_,_=>rfl
 | p::ps,x::xs,_,i,⟨_,_,_,hk,_,h2⟩,e=>by
  rw [lookup_cons'] at e
  rw [valV_cons,hk]
  by_cases hi:x.1=i
  ·rw [if_pos hi] at e;cases e
  ·rw [if_neg hi] at e
   rw [if_neg (fun z=>hi (Sum.inl.inj z))]
   exact Zcn.none h2 e
 | [],_::_,_,_,h,_=>h.elim
 | _::_,[],_,_,h,_=>h.elim
theorem Zcn.len {od : @OD β d2} {F:Hp} {ps:List (Key×V)} {xs:List (Int×β)} {L:LO} (h:Zcn od C F ps xs L):ps.length=xs.length:=by
 have:=congrArg List.length (KReps_has h)
 simpa using this
theorem z_appendIx {pin:Option V} {i:Nat} {xs:List (List α)} (hi:Γ[i]? = some (.own (dList (d:=dList (d:=d))) (Zea (oList (d:=d))) pin xs)) (h:R Y ta Γ dInt fun n=>∃ j x,ixN xs.length n=some j∧xs[j]? = some x∧W Y te Γ d fun y=>x.length<PySem.sizeLine∧k.nx (Γ.set i (.own (dList (d:=dList (d:=d))) (Zea (oList (d:=d))) pin (xs.set j (x++[y]))))) :
  Z Y (tDrop (tBM Y.K "list" rAppend (tOp (rIxL Y.K) (tVar i) ta) (tCons te tNil))) Γ k:=fun e F σ H D hM s c=>by
 obtain ⟨v0,e1,r0⟩:=s.own hi
 refine ⟨v0,e1,h e F σ H s _ fun v1 F1 H1 n ⟨j,x,hj,hx,hw⟩ g1 r1=>?_⟩
 cases (show v1 = .int n from r1)
 have st1:=s.grow g1
 obtain ⟨v,Li,rest,e2,⟨a,vs,L',rfl,rfl,r⟩,kw,f⟩:=st1.mut hi
 rw [e1] at e2
 cases (Option.some.inj e2)
 have ha:H1 a=some (.lst vs):=(kw.ow (a,.lst vs) (by simp)).2.1
 obtain ⟨w,M1,Mi,M2,e3,e4,⟨b,us,rfl,rfl,ru⟩,f2⟩:=r.at hx
 have hb:H1 b=some (.lst us):=(kw.ow (b,.lst us) (by rw [e4];simp)).2.1
 refine ⟨a,vs,n,.ref b,rfl,rfl,.inl (.inl ha),by unfold atI;rw [r.len,hj];exact e3,.inl ⟨rfl,us,.inl (.inl hb)⟩,hw e F1 σ H1 st1 _ fun y F2 H2 yv ⟨hl,ky⟩ g2 ry=>?_⟩
 have hb2:H2 b=some (.lst us):=g2.hh0 _ _ hb
 refine ⟨b,us,y,rfl,rfl,hb2,by rw [ru.len];exact hl,?_⟩
 obtain ⟨v',Li',rest',e9,⟨a',vs',L2,h30,h31,r30⟩,k9,f9⟩:=(st1.grow g2).mut hi
 rw [e1] at e9
 cases (Option.some.inj e9)
 cases h30
 subst h31
 have ha0:H2 a=some (.lst vs'):=(k9.ow (a,.lst vs') (by simp)).2.1
 rw [g2.hh0 _ _ ha] at ha0
 cases (Option.some.inj ha0)
 obtain ⟨w4,Q1,Qi,Q2,e10,e11,⟨b4,us4,h40,h41,ru4⟩,f5⟩:=r30.at hx
 rw [e3] at e10
 cases (Option.some.inj e10)
 cases h40
 subst h41 e11
 have hb4:H2 b=some (.lst us4):=(k9.ow (b,.lst us4) (by simp)).2.1
 rw [hb2] at hb4
 cases (Option.some.inj hb4)
 have q5:=f5 (x++[yv]) [(b,.lst (us++[y]))] ⟨b,_,rfl,rfl,ru4.append (Reps.one ry)⟩
 have k1:Wk e F2 (((a,.lst vs)::Q1)++[(b,.lst us)]++(Q2++rest')) H2:=by simpa [List.append_assoc] using k9
 have k2:=k1.front.put (o':=.lst (us++[y])) (fun _ z=>by cases z)
 have k3:Wk e F2 (((a,.lst vs)::Q1)++[(b,.lst (us++[y]))]++(Q2++rest')) (upd H2 b (.lst (us++[y]))):=Wk.back (Li:=[(b,.lst (us++[y]))]) k2
 exact c.nx F2 σ _ _ ky (f9 F2 _ ((a,.lst vs)::(Q1++[(b,.lst (us++[y]))]++Q2)) _ (Same.refl _) (by simpa [List.append_assoc] using k3) ⟨a,vs,_,rfl,rfl,q5⟩)
theorem z_appendO {od : @OD α d} {pin:Option V} {i:Nat} {xs:List α} (hi:Γ[i]? = some (.own (dList (d:=d)) (Zea od) pin xs)) (h:O Y te Γ od fun y=>xs.length<PySem.sizeLine∧k.nx (Γ.set i (.own (dList (d:=d)) (Zea od) pin (xs++[y])))) :
  Z Y (tDrop (tBM Y.K "list" rAppend (tVar i) (tCons te tNil))) Γ k:=fun e F σ H D hM s c=>by
 obtain ⟨v0,_,_,e1,⟨a0,vs0,L0,rfl,rfl,_⟩,kw0,_⟩:=s.mut hi
 have ha0:H a0=some (.lst vs0):=(kw0.ow (a0,.lst vs0) (by simp)).2.1
 refine ⟨.ref a0,e1,.inl ⟨rfl,vs0,.inl (.inl ha0)⟩,h e F σ H s _ fun w F' H' L' y ⟨hl,ky⟩ g rw'=>?_⟩
 obtain ⟨hx,L,k0,sl0⟩:=id s
 obtain ⟨o0,P1,Pi,P2,f1,f2,⟨u0,rfl,hp0,a,vs,Lx,rfl,rfl,r⟩,f4⟩:=sl0.get hi
 rw [e1] at f1
 cases (Option.some.inj f1)
 subst f2
 have k1:=k0.trans g
 have ha:H' a0=some (.lst vs):=(k1.ow (a0,.lst vs) (by simp)).2.1
 refine ⟨a0,vs,w,rfl,rfl,ha,by rw [r.len];exact hl,?_⟩
 have q6:=f4 F' (some (.ref a0)) (.own (dList (d:=d)) (Zea od) pin (xs++[y])) ((a0,.lst (vs++[w]))::(Lx++L')) g.ff ⟨.ref a0,rfl,hp0,a0,_,_,rfl,rfl,(r.mono g.ff).append (Zcw.one rw')⟩
 have z:σ.set i (some (.ref a0))=σ:=by
  apply List.ext_getElem?
  intro j
  by_cases hj:i=j
  ·subst hj
   obtain ⟨hlt,hv⟩:=List.getElem?_eq_some_iff.mp e1
   rw [List.getElem?_set_self hlt,e1]
  ·rw [List.getElem?_set_ne hj]
 rw [z] at q6
 refine c.nx F' σ _ _ ky ⟨hx,_,?_,q6⟩
 have k2:Wk e F' ((L'++P1)++[(a0,.lst vs)]++(Lx++P2)) H':=by simpa [List.append_assoc] using k1
 have k3:=k2.front.put (o':=.lst (vs++[w])) (fun _ z=>by cases z)
 refine k3.sub (fun p hp=>?_) ?_
 ·simp only [List.mem_cons,List.mem_append] at hp ⊢
  rcases hp with (h | h | h | h) | h<;>simp [h]
 ·have n3:=k3.nd
  refine (List.Perm.nodup_iff (List.Perm.map _ ?_)).mp n3
  simp only [List.append_assoc,List.singleton_append,List.cons_append]
  refine List.Perm.trans ?_ List.perm_middle.symm
  refine List.Perm.cons _ ?_
  refine List.Perm.trans (List.perm_append_comm (l₁:=L')) ?_
  simp only [List.append_assoc]
  refine List.Perm.append_left _ (List.Perm.append_left _ ?_)
  exact List.perm_append_comm
end
end G
namespace G
open PySem L2
section
variable {C:GCtx} {Y:YC} {Γ:List Cell} {te ta tb tc tk tv:TE} {t u tt:TT} {α β γ δ:Type} {d1:Dat α} {d:Dat α} {d2:Dat β} {k:Ks} {t1 t2 ts:TS} {g:TG}
theorem Fn.script {K:PySem.W.Frag} {P:Program} {w:World} {H:Hp} {a:Addr} {ns:List Int} (hS:SqL K H a (ns.map V.int)):Fn ⟨P,w,K⟩ [.val (dSq (d:=dInt)) ⟨ns⟩] (fun c=>c=cv true) [.ref a] H (fun v _=>v = .bl true) :=
 ⟨H,⟨Same.refl _,fun _ _ _ h=>h,fun _ h=>h,Same.refl _,fun _ _ h=>h,fun _ _ h=>h,fun _ h=>(nomatch h),List.nodup_nil⟩,Slots.cons (L:=[]) ⟨rfl,.ref a,rfl,a,_,rfl,.inl hS,Reps.ofInts ns⟩ .nil,fun v F' H' c L e _ ok=>by
  subst e
  obtain ⟨_,v',e',r⟩:=ok
  cases (Option.some.inj e')
  exact r⟩
end
end G
namespace G
open PySem L2
section
variable {C:GCtx} {Y:YC} {Γ:List Cell} {te ta tb tc tk tv:TE} {t u tt:TT} {α β γ δ:Type} {d1:Dat α} {d:Dat α} {d2:Dat β} {k:Ks} {t1 t2 ts:TS} {g:TG}
theorem Zcy.map_put {F:Hp} {v:V} {x:α} {n:Int} (hv:d.rep C F v x):∀ {ps:List (Key×V)} {xs:List (Int×α)},Zcy d C F ps xs→Zcy d C F (ps.map fun kv=>if kv.1=Sum.inl n then (kv.1,v) else kv) (xs.map fun p=>if p.1=n then (n,x) else p)
 | [],[],_=>trivial
 | p::ps,y::ys,h=>by
  rw [List.map_cons,List.map_cons]
  by_cases hn:y.1=n
  ·rw [if_pos hn,if_pos (by rw [h.1,hn])]
   exact ⟨by show p.1=Sum.inl n;rw [h.1,hn],hv,Zcy.map_put hv h.2.2⟩
  ·rw [if_neg hn,if_neg (by rw [h.1];exact fun z=>hn (Sum.inl.inj z))]
   exact ⟨h.1,h.2.1,Zcy.map_put hv h.2.2⟩
 | [],_::_,h=>h.elim
 | _::_,[],h=>h.elim
theorem Zcy.snoc {F:Hp} {v:V} {x:α} {n:Int} (hv:d.rep C F v x):∀ {ps:List (Key×V)} {xs:List (Int×α)},Zcy d C F ps xs→Zcy d C F (ps++[(Sum.inl n,v)]) (xs++[(n,x)])
 | [],[],_=>⟨rfl,hv,trivial⟩
 | _::_,_::_,h=>⟨h.1,h.2.1,Zcy.snoc hv h.2.2⟩
 | [],_::_,h=>h.elim
 | _::_,[],h=>h.elim
theorem Zcy.put {F:Hp} {ps:List (Key×V)} {xs:List (Int×α)} {v:V} {x:α} {n:Int} (h:Zcy d C F ps xs) (hv:d.rep C F v x):Zcy d C F (putK ps (Sum.inl n) v) (putI xs n x):=by
 unfold putK putI
 have l:=h.look n
 rw [valV_any]
 cases q:xs.lookup n with
 | none =>
  rw [l.2 q,if_neg (fun z=>(nomatch z)),if_neg (fun z=>(nomatch z))]
  exact h.snoc hv
 | some y =>
  obtain ⟨w,hw,_⟩:=l.1 y q
  rw [hw]
  exact h.map_put hv
def cutL {α:Type} (xs:List α) (lo hi:Option Int):List α:=(xs.drop (HT.sIx xs.length 0 lo)).take (HT.sIx xs.length xs.length hi-HT.sIx xs.length 0 lo)
theorem cut_rep {F:Hp} {vs:List V} {xs:List α} (r:Reps d C F vs xs) (lo hi:Option Int):Reps d C F (cutV vs lo hi) (cutL xs lo hi):=by
 unfold cutV cutL
 rw [r.len]
 exact (r.drop _).take _
def TOk (Y:YC) (to:TO) (Γ:List Cell) (k:Option Int→Prop):Prop:=∀ (e:En) (F:Hp) (σ:St) (H:Hp),State Y e F σ H Γ → ∀ Q:Option Int→Hp→Prop,(∀ o F' H',k o→Gr F H F' H'→Q o H')→to σ H Q
theorem to_none {kx:Option Int→Prop} (h:kx none):TOk Y tNoPart Γ kx:=fun e F σ H s Q q=>q none F H h s.base
theorem to_some {kx:Option Int→Prop} (h:R Y te Γ dInt fun n=>kx (some n)):TOk Y (tPart te) Γ kx:=fun e F σ H s Q q=>h e F σ H s _ fun v F' H' n kn g r=>⟨n,r,q (some n) F' H' kn g⟩
theorem o_sl {tl th:TO} {kx:List α→Prop} (h:W Y te Γ (dList (d:=d)) fun xs=>TOk Y tl Γ fun lo=>TOk Y th Γ fun hi=>kx (cutL xs lo hi)):O Y (tSl (rSlL Y.K) te tl th) Γ (oList (d:=d)) kx:=fun e F σ H s Q q=>h e F σ H s _ fun v F1 H1 xs h1 g1 ⟨a,vs,e1,hq,r⟩=>by
 subst e1
 refine h1 e F1 σ H1 (s.grow g1) _ fun lo F2 H2 h2 g2=>h2 e F2 σ H2 ((s.grow g1).grow g2) _ fun hi F3 H3 h3 g3=>⟨a,vs,rfl,?_,fun p hp=>?_⟩
 ·exact (g1.fh.trans (g2.hh0.trans g3.hh0)).seq hq
 ·obtain ⟨h4,h5⟩:=o_new (L:=[]) g3.base hp (cut_rep (r.mono (g2.ff.trans g3.ff)) lo hi)
  have g4:=((g1.Zbc g2).Zbc g3).trans h4
  exact q _ F3 _ _ _ h3 (by simpa using g4) h5
theorem Reps.erase {F:Hp}:∀ {vs:List V} {xs:List α} (i:Nat),Reps d C F vs xs→Reps d C F (vs.eraseIdx i) (xs.eraseIdx i)
 | [],[],_,_=>by simp [Reps]
 | _::_,_::_,0,h=>h.2
 | _::_,_::_,i+1,h=>⟨h.1,Reps.erase i h.2⟩
 | [],_::_,_,h=>h.elim
 | _::_,[],_,h=>h.elim
theorem z_appendPop {p1 p2:Option V} {i j:Nat} {xs ys:List α} (hij:i≠j) (hi:Γ[i]? = some (.own (dList (d:=d)) (oList (d:=d)) p1 xs)) (hj:Γ[j]? = some (.own (dList (d:=d)) (oList (d:=d)) p2 ys))
  (h:R Y ta Γ dInt fun n=>∃ m y,(0≤n∧n<2 ^ 63∧seqIndex? n ys.length=some m∧ys[m]? = some y)∧xs.length<PySem.sizeLine∧k.nx ((Γ.set j (.own (dList (d:=d)) (oList (d:=d)) p2 (ys.eraseIdx m))).set i (.own (dList (d:=d)) (oList (d:=d)) p1 (xs++[y])))) :
  Z Y (tDrop (tBM Y.K "list" rAppend (tVar i) (tCons (tBM Y.K "list" rPopAt (tVar j) (tCons ta tNil)) tNil))) Γ k:=fun e F σ H D hM s c=>by
 obtain ⟨v0,_,_,e1,⟨a0,vs0,rfl,rfl,_⟩,kw0,_⟩:=s.mut hi
 have ha0:H a0=some (.lst vs0):=(kw0.ow (a0,.lst vs0) (by simp)).2.1
 obtain ⟨v1,_,_,e2,⟨a1,vs1,rfl,rfl,_⟩,kw1,_⟩:=s.mut hj
 have ha1:H a1=some (.lst vs1):=(kw1.ow (a1,.lst vs1) (by simp)).2.1
 refine ⟨.ref a0,e1,.inl ⟨rfl,vs0,.inl (.inl ha0)⟩,.ref a1,e2,.inl ⟨rfl,vs1,.inl (.inl ha1)⟩,h e F σ H s _ fun v F1 H1 n ⟨m,y,⟨h0,h63,hm,hy⟩,hl,kn⟩ g r=>?_⟩
 cases (show v = .int n from r)
 obtain ⟨w1,L1,rest1,e3,⟨b1,us1,rfl,rfl,r1⟩,kv1,f1⟩:=(s.grow g).mut hj
 rw [e2] at e3
 cases (Option.some.inj e3)
 have hb1:H1 a1=some (.lst us1):=(kv1.ow (a1,.lst us1) (by simp)).2.1
 obtain ⟨wv,hwv,rwv⟩:=r1.get hy
 refine ⟨a1,us1,n,m,wv,rfl,rfl,hb1,by omega,h63,by rw [r1.len];exact hm,hwv,?_⟩
 have s2:=f1 F1 _ [(a1,.lst (us1.eraseIdx m))] (ys.eraseIdx m) (Same.refl F1) (kv1.put (fun _ z=>by cases z)) ⟨a1,_,rfl,rfl,r1.erase m⟩
 have hi2:(Γ.set j (.own (dList (d:=d)) (oList (d:=d)) p2 (ys.eraseIdx m)))[i]? = some (.own (dList (d:=d)) (oList (d:=d)) p1 xs):=by
  rw [List.getElem?_set_ne (fun z=>hij z.symm)];exact hi
 obtain ⟨w0,L0,rest0,e4,⟨b0,us0,rfl,rfl,r0⟩,kv0,f0⟩:=s2.mut hi2
 rw [e1] at e4
 cases (Option.some.inj e4)
 have hb0:=(kv0.ow (a0,.lst us0) (by simp)).2.1
 refine ⟨a0,us0,wv,rfl,rfl,hb0,by rw [r0.len];exact hl,?_⟩
 exact c.nx F1 σ _ _ kn (f0 F1 _ [(a0,.lst (us0++[wv]))] (xs++[y]) (Same.refl F1) (kv0.put (fun _ z=>by cases z)) ⟨a0,_,rfl,rfl,r0.append (Reps.one rwv)⟩)
theorem Wk.sublist {e:En} {F:Hp} {L L' : LO} {H:Hp} (a:Wk e F L H) (h:L'.Sublist L):Wk e F L' H :=
 a.sub (fun p hp=>h.subset hp) ((h.map Prod.fst).nodup a.nd)
theorem Slots.wipe {F:Hp} {σ:St} {L:LO} (h:Slots C F σ Γ L):∀ vs:List Nat,∃ L',L'.Sublist L∧Slots C F (wipe σ vs) (Zak Γ vs) L'
 | []=>⟨L,List.Sublist.refl _,h⟩
 | v::vs=>by
  obtain ⟨L1,h1,h2⟩:=Slots.wipe h vs
  unfold L2.wipe Zak
  cases q:(Zak Γ vs)[v]? with
  | some c =>
   obtain ⟨o,M1,Mi,M2,e1,e2,_,f⟩:=h2.get q
   refine ⟨M1++M2,?_,by simpa using f F none .no [] (Same.refl F) rfl⟩
   refine List.Sublist.trans ?_ h1
   rw [e2,List.append_assoc]
   exact List.Sublist.append_left (List.sublist_append_right _ _) _
  | none =>
   have l1:(Zak Γ vs).length≤v:=List.getElem?_eq_none_iff.mp q
   have l2:(L2.wipe σ vs).length≤v:=by rw [h2.len];exact l1
   rw [List.set_eq_of_length_le l1,List.set_eq_of_length_le l2]
   exact ⟨L1,h1,h2⟩
end
end G
namespace G
open PySem PySem.Spec PyProof.Rows L2 PySem.W
theorem super_init {X:Cx} {pins:List (Addr×Obj)} {σ:L2.St} {H:Hp} {s:Shared} {Q:Flow→Shared→Prop} {E:Value→Shared→Prop} {body:List Stmt} {f cc cda D a C:Addr} {fd:FuncData} {ar:Arg} {vs:Array Value} {file:Str} {tf:Tok}
  {oc ccl cl:Value} {od cdd cld:Option Addr} {osl ccs csl:Array (Option Value)} {cdD cdC:ClassData} {m:Str} {j:Nat} {p0 p1 p2 p3 p4 p5:Pos} {pl:Sem Bool}
  (I:Inv X pins σ H s) (hfun:X.env.func=some f) (hcode:X.env.code = .ref cda) (hks:X.env.kindOf "super" = some .globalImplicit) (hkc:X.env.kindOf "__class__" = some .free) (hcl:X.env.cells.lookup ("__class__" : Str)=some cc)
  (kf:X.K.lookup f=some ⟨oc,od,.func fd,osl⟩) (hp:(fd.params.posonlyargs++fd.params.args).head? = some ar) (hN:X.N[0]? = some ar.arg) (hl:X.env.kindOf ar.arg=some .local) (h0:σ[0]? = some (some (.ref a)))
  (kcell:X.K.lookup cc=some ⟨cl,cld,.cell (some (.ref D)),csl⟩) (kcode:X.K.lookup cda=some ⟨ccl,cdd,.fields vs,ccs⟩) (hvs:vs[2]? = some (.str file tf)) (hfile:((X.prog.main.file:Str) == file)=true)
  (kD:clsIn X.K D=some cdD) (kC:clsIn X.K C=some cdC) (hsub:mroIn X.K C (.ref D)=some true) (hsup:X.mg "super" = none) (htop:(X.prog.main.scope.names.lookup ("super" : Str)).isSome=false)
  (hst:nsIn X.K cStatics "thirdparty.any" = some none) (hin:ks_superIn X.K C D "__init__" = some (some (.builtin "ValueError.__init__"))) (hB:subIn X.K (.ref C) (.type "ValueError")=some true)
  (T:OexC X.K C) (ea:H a=some (exo a C none)) (hq:∀ s',Inv X pins σ H s'→Q .next s')
  (he:eval (.Call (.Attribute (.Call (.Name "super" p0) [] [] p1) "__init__" p2) [.Constant (.str m) j p3] [] p4) X.env=(do
   let ov ← attributeBase (.Call (.Name "super" p0) [] [] p1) "__init__" X.env (eval (.Call (.Name "super" p0) [] [] p1) X.env)
   standAt p2.atName
   let (f,first) ← holding [ov] (getMethod ov "__init__" pl)
   callWith p4 f first (backTo p4 (starEach [.Constant (.str m) j p3] X.env)) [])) :
  _root_.PySem.wpAt (model X.prog X.w) X.A (.func body X.env) (exec (.Expr (.Call (.Attribute (.Call (.Name "super" p0) [] [] p1) "__init__" p2) [.Constant (.str m) j p3] [] p4) p5) X.env) Q E s:=by
 obtain ⟨nm,q,N,bs,bm,sn,sub,ab,col,dd,k0,k1,k2,k3,k5,hC,hbm⟩:=T.cls
 obtain ⟨t1,ho⟩:=exo_at I.hok ea
 refine ks_wpAt_Expr_any (hs:=?hs) ?hm I.quiet
 case hs=>rfl
 refine ks_wpAt_MethodCall (he:=he) ?_
 refine ks_wpAt_super_base hks hkc rfl hfun (I.kIn _ _ kf) rfl hp hcode (I.kIn _ _ kcode) rfl hvs hfile htop ?_
 obtain ⟨mb,b1,b2⟩:=I.mod.blt
 refine ks_loadName_global I.ok.kind hks (Calls.loadGlobal_builtin (by rw [I.ok.glob];exact I.mod.glob.keeps I.bk) hsup (by rw [I.ok.blt];exact b1.keeps I.bk) ((b2 _ (by decide)).trans (PyProof.Rows.Boot.«super»)) ⟨rfl,?_⟩)
 refine wpAny_loadName_free I.ok.kind hkc hcl ⟨_,I.kIn _ _ kcell,rfl⟩ ?_
 obtain ⟨mm,hn,hlk⟩:=I.loc
 obtain ⟨u0,ru,lk⟩:=hlk 0 ar.arg (.ref a) hN h0 (.inl hl)
 obtain rfl:u0=Value.ref a:=ru
 have hm0:mm ar.arg=some (.ref a):=by
  rcases lk with ⟨_,h⟩ | ⟨h,_⟩
  ·exact h
  ·rw [hl] at h;rcases h with h | h<;>cases h
 refine wpAny_loadName_local I.ok.kind hl hn hm0 ?_
 obtain ⟨oD,hD1,hD2⟩:∃ oD,s.heap.get? D=some oD∧oD.data = .cls cdD:=by
  unfold clsIn at kD
  split at kD
  ·rename_i c d cd' sl hoD
   cases kD
   exact ⟨_,I.kIn _ _ hoD,rfl⟩
  ·cases kD
 refine ks_wpAny_isType_cls hD1 hD2 ⟨rfl,?_⟩
 have hty:Looks (model X.prog X.w) s.heap (typeOf (.ref a)) (.ref C):=(InstAt.mk (ox:=({ cls:=.ref C,dict:=none,data:=.fields #[.ref t1,.none,.none,.none,.bool false,.none] }:Obj)) (od:=none) ho rfl rfl trivial).type
 obtain ⟨hh,g,d,t,os⟩:=s
 refine ks_wpAny_call_super hD1 hD2 ho rfl (fun c e=>by cases e) (looks_mroIn I.kIn hsub) (fun h' e k=>?_)
 have I1:Inv X pins σ H ⟨h',g,d,t,os⟩:=I.kept (t':=t) k
 have hI:Looks (model X.prog X.w) h' (isInstance (.ref a) (.type "ValueError")) true:=(hty.keeps k).andThen (looks_subIn I1.kIn hB)
 have hne:a≠C:=fun z=>by
  have h1:=I.kIn _ _ hC
  rw [← z,show (Shared.heap ⟨hh,g,d,t,os⟩).get? a=_ from ho] at h1
  cases h1
 have hmr:Looks (model X.prog X.w) h' (mroOf (.ref C)) cdC.mro:=fun A Q E s k q=>wpAny_bind ((looks_clsIn I1.kIn kC) A _ E s k (wpAny_pure q))
 have hin' : alongIn X.K "__init__" ((cdC.mro.dropWhile (· != .ref D)).drop 1)=some (some (.builtin "ValueError.__init__")):=by
  unfold ks_superIn at hin
  rw [kC] at hin
  exact hin
 refine kxs_getMethod kxs_ValueError e (looks_opaque I1.kIn hst) (l₀:=cdC.mro) hmr rfl I1.kIn hin' hI hne rfl ?_
 have hu:(h'.push (kxs_mw "ValueError.__init__" a)).get? h'.objs.size=some (kxs_mw "ValueError.__init__" a):=Heap.get?_push_at rfl rfl
 have I2:Inv X pins σ H ⟨h'.push (kxs_mw "ValueError.__init__" a),g,d,t+1,os⟩:=I1.kept (t':=t+1) fun b o e=>Heap.get?_push_of_some _ e
 refine kxs_callWith (i:="ValueError.__init__") (x:=a) rfl ?_
 show wpAny _ _ (evalArgs _ true ((false,eval (.Constant (.str m) j p3) X.env)::[]) []) _ _ _
 refine Calls.evalArgs_plain (Calls.spliced_cons (Calls.Constant_str (Calls.spliced_nil ⟨hu,?_⟩)))
 have I3:Inv X pins σ H ⟨h'.push (kxs_mw "ValueError.__init__" a),g,d,t+1+1,os⟩:=I2.kept (t':=t+1+1) fun b o e=>e
 obtain ⟨t2,ho2⟩:=exo_at I3.hok ea
 show wpAny _ _ (call (.ref h'.objs.size) [.str m (t+1)]) _ _ _
 refine wpAny_call (codeAny_of_tree ?_)
 show wpAny _ X.A.in1 (callAny (.ref h'.objs.size) ⟨[.str m (t+1)],[]⟩) _ _ _
 simp only [callAny]
 refine wpAny_bind (wpAny_load hu ?_)
 simp only [kxs_mw,show (Value.type "method-wrapper" == Value.type "method" || Value.type "method-wrapper" == Value.type "builtin_function_or_method" || Value.type "method-wrapper" == Value.type "method-wrapper")=true by decide,if_true]
 refine KFB.if_so (by decide) ?_
 refine wpAny_bind (check_bound_init F.excBase_ValueError.toExcCallFacts (I3.kIn _ _ hC) ho2 rfl ?_)
 refine wpAny_bind (wpAny_pure (wpAny_pure ?_))
 refine ⟨plainId_quiet F.excBase_ValueError.init.plain _,codeAny_builtin F.excBase_ValueError.initEntry ?_⟩
 refine exc_init_tree (cls:=.ref C) (t0:=t2) (dv:=none) (c2:=.none) (c3:=.none) (b4:=.bool false) ho2 (by show 1≤sizeLine;rw [sizeLine_eq];omega) fun h3 k3 e3 e4=>?_
 have J:=I3.write (t':=t+1+1) (x:=a) (e:=a) (o:=exo a C none) (by rw [ea];exact True.intro) (.inl rfl) k3 ⟨_,e3⟩ (exo_ok e3)
 have eu:upd H a (exo a C none)=H:=by
  funext b
  by_cases hb:b=a
  ·rw [hb,upd_same,ea]
  ·rw [upd_ne hb]
 rw [eu] at J
 exact hq _ J
theorem fok_super {P:Program} {w:World} {K:Frag} {mg:Str→Option Value} {base:Heap} {CXt:CXT} {k:Nat} {f cc D:Addr} {N ps:List Str} {F:NdefX.NF} {doc pm ctv:Value} {sp:Sp} {rest:List Stmt} {ar:Arg} {vs0:Array Value} {file:Str} {tf:Tok}
  {oc ccl cl:Value} {od cdd cld:Option Addr} {osl ccs csl:Array (Option Value)} {cdD:ClassData} {m:Str} {j:Nat} {p0 p1 p2 p3 p4 p5:Pos} {pl:Sem Bool}
  (S:NdefX.NScope N ps ["__class__"] F.scope) (hF:F.cl=[(("__class__" : Str),cc)]) (hb:F.body = .Expr (.Call (.Attribute (.Call (.Name "super" p0) [] [] p1) "__init__" p2) [.Constant (.str m) j p3] [] p4) p5::rest)
  (hks:F.scope.names.lookup ("super" : Str)=some .globalImplicit) (kf:K.lookup f=some ⟨oc,od,.func (F.fd doc pm ctv),osl⟩) (hp:(F.params.posonlyargs++F.params.args).head? = some ar) (hN:N[0]? = some ar.arg) (hl:F.scope.names.lookup ar.arg=some .local)
  (kcell:K.lookup cc=some ⟨cl,cld,.cell (some (.ref D)),csl⟩) (kcode:K.lookup F.c=some ⟨ccl,cdd,.fields vs0,ccs⟩) (hvs:vs0[2]? = some (.str file tf)) (hcd:codeIn K (.ref F.c) F.qual=true) (hfile:((P.main.file:Str) == file)=true)
  (kD:clsIn K D=some cdD) (hsup:mg "super" = none) (htop:(P.main.scope.names.lookup ("super" : Str)).isSome=false) (hst:nsIn K cStatics "thirdparty.any" = some none)
  (he:∀ env:Env,eval (.Call (.Attribute (.Call (.Name "super" p0) [] [] p1) "__init__" p2) [.Constant (.str m) j p3] [] p4) env=(do
   let ov ← attributeBase (.Call (.Name "super" p0) [] [] p1) "__init__" env (eval (.Call (.Name "super" p0) [] [] p1) env)
   standAt p2.atName
   let (f,first) ← holding [ov] (getMethod ov "__init__" pl)
   callWith p4 f first (backTo p4 (starEach [.Constant (.str m) j p3] env)) []))
  (len:∀ vs H Q E,sp vs H Q E→vs.length=ps.length)
  (walk:∀ (A:Around) (outer:List Env) (s:Shared) (H:Hp) (vs:List V) (Q:VK) (E:XK),Room k (A.deeper (NdefX.envF F f s.heap.objs.size))→sp vs H Q E →
   ∃ a C cdC,vs[0]? = some (.ref a)∧H a=some (exo a C none)∧OexC K C∧clsIn K C=some cdC∧mroIn K C (.ref D)=some true∧ks_superIn K C D "__init__" = some (some (.builtin "ValueError.__init__"))∧subIn K (.ref C) (.type "ValueError")=some true ∧
    ∃ t,PSs (NdefX.ncx CXt P w K mg base N F f A outer s H E) rest t∧t { nx:=fun _ H'=>Q .non H',rt:=Q } (NdefX.startF N vs [some (.ref D)]) H) :
  FnOk P w K mg base CXt (k+1) f (F.fd doc pm ctv) ps sp:=by
 refine ⟨len,fun A outer s H args us vs Q E hr e0 hbind r hsp=>?_⟩
 have hlen:=len _ _ _ _ hsp
 have kin:K.In s.heap:=fun a o e=>(e0.bs a o (e0.mod.kin a o e)).1
 have lim:s.heap.NoLimit:=e0.mod.nolimit.keeps fun b o e=>(e0.bs b o e).1
 have hc0:H cc=none:=(e0.bs cc _ (e0.mod.kin _ _ kcell)).2
 have cls1:∀ y c,F.cl.lookup y=some c→y=("__class__" : Str)∧c=cc:=fun y c e=>by
  rw [hF,List.lookup_cons] at e
  split at e
  ·rename_i z
   cases e
   exact ⟨by simpa using z,rfl⟩
  ·cases e
 have C0:NdefX.CellsAt F.cl ["__class__"] [some (.ref D)] s.heap H:=by
  refine ⟨rfl,fun y c e=>?_,fun x y c e1 e2=>?_,fun i y e=>?_⟩
  ·obtain ⟨_,rfl⟩:=cls1 y c e
   exact ⟨hc0,_,_,kin _ _ kcell,rfl⟩
  ·rw [(cls1 x c e1).1,(cls1 y c e2).1]
  ·cases i with
   | zero =>
    cases (Option.some.inj e)
    refine ⟨cc,by rw [hF];rfl,fun v hv=>?_⟩
    cases hv
    exact ⟨.ref D,rfl,_,kin _ _ kcell,rfl⟩
   | succ i=>cases e
 refine ks_codeAny_call_defAt (fd:=F.fd doc pm ctv) hr.depth (kin _ _ kf) rfl lim (codeRec_of kin hcd) rfl hbind S.nocell (fun ⟨n,_⟩ hy=>S.par n (List.of_mem_zip hy).1) (fun h₁ hns kp=>?_) S.co S.gen S.kind
 obtain ⟨a,C,cdC,v0,ea,T,kC,hsub,hin,hB,t,ht,hq⟩:=walk A outer s H vs Q E (hr.deeper _) hsp
 have I:Inv (NdefX.ncx CXt P w K mg base N F f A outer s H E) [] (NdefX.startF N vs [some (.ref D)]) H { s with heap:=h₁,toks:=s.toks+(ps.zip us).length }:=NdefX.inv_startN S hr.hd e0 hlen r C0 hns kp
 have h0:(NdefX.startF N vs [some (V.ref D)])[0]? = some (some (.ref a)):=by
  unfold NdefX.startF
  have:0<vs.length:=(List.getElem?_eq_some_iff.mp v0).1
  rw [List.getElem?_append_left (by rw [List.length_map];exact this),List.getElem?_map,v0]
  rfl
 show _root_.PySem.wpAt (model P w) (A.deeper (NdefX.envF F f s.heap.objs.size)) (.func F.body (NdefX.envF F f s.heap.objs.size)) (execs F.body (NdefX.envF F f s.heap.objs.size)) _ _ _
 have fin:∀ {s' : Shared} {σ' : L2.St} {H' : Hp} {v:V} {u:Value},Inv (NdefX.ncx CXt P w K mg base N F f A outer s H E) [] σ' H' s'→L2.RelV v u→Q v H'→CE outer P w H s Q u s' :=
  fun {s' σ' H' v u} J rv q=>⟨v,H',J.os,J.bare,J.base,J.hok,rv,q⟩
 rw [show execs F.body (NdefX.envF F f s.heap.objs.size)=execs (_::rest) (NdefX.envF F f s.heap.objs.size) from congrArg (fun b=>execs b _) hb]
 refine ks_wpAt_execs_cons ?_
 refine super_init (X:=NdefX.ncx CXt P w K mg base N F f A outer s H E) (a:=a) (C:=C) I rfl rfl hks (S.frk _ (by simp)) (by show F.cl.lookup _=_;rw [hF];rfl) kf hp hN hl h0 kcell kcode hvs hfile kD kC hsub hsup htop hst hin hB T ea (fun s' I'=>?_) (he _)
 refine _root_.PySem.wpAt_of_wpAny (wpAny_mono (ht.run [] _ _ H _ I' hq) (fun fl s' hs=>?_) fun e s' hs=>hs)
 cases fl with
 | ret u =>
  obtain ⟨v,σ',H',J,rv,q⟩:=hs
  exact fin J rv q
 | next =>
  obtain ⟨σ',H',J,q⟩:=hs
  exact fin (v:=V.non) (u:=Value.none) J rfl q
 | brk =>
  obtain ⟨_,_,_,q⟩:=hs
  exact False.elim q
 | cont =>
  obtain ⟨_,_,_,q⟩:=hs
  exact False.elim q
end G
namespace G
open PySem PySem.Spec PyProof.Rows L2 PySem.W
def spX1 (C:Addr) (f1:Str):Sp:=fun vs H Q _=>∃ a v,vs=[.ref a,v]∧H a=some (exo a C none) ∧ ∀ d,H d=none→d≠a→Q .non (upd (upd H d (exd d [(f1,v)])) a (exo a C (some d)))
structure XCls (K:Frag) (D fI:Addr):Prop where
 T:OexC K D
 cls:∃ cd,clsIn K D=some cd
 self:mroIn K D (.ref D)=some true
 sup:ks_superIn K D D "__init__" = some (some (.builtin "ValueError.__init__"))
 ve:subIn K (.ref D) (.type "ValueError")=some true
 init:findIn K (.ref D) "__init__" = some (some (.ref fI))
 fn:typeIn K (.ref fI)=some (.type "function")
section
variable {P:Program} {w:World} {K:Frag} {mg:Str→Option Value} {base:Heap} {CXt:CXT} {k:Nat} {f cc D:Addr} {ps:List Str} {F:NdefX.NF} {doc pm ctv:Value} {ar:Arg} {vs0:Array Value} {file:Str} {tf:Tok}
  {oc ccl cl:Value} {od cdd cld:Option Addr} {osl ccs csl:Array (Option Value)} {m:Str} {j:Nat} {p0 p1 p2 p3 p4 p5 q1 q2 q3 q4 r1 r2 r3 r4:Pos} {pl:Sem Bool} {f1 f2 x1 x2:Str}
theorem ZeA (S:NdefX.NScope [ar.arg,x1,"__class__"] [ar.arg,x1] ["__class__"] F.scope) (hF:F.cl=[(("__class__" : Str),cc)])
  (hb:F.body=[.Expr (.Call (.Attribute (.Call (.Name "super" p0) [] [] p1) "__init__" p2) [.Constant (.str m) j p3] [] p4) p5,.Assign [.Attribute (.Name ar.arg q1) f1 q2] (.Name x1 q3) q4])
  (hd1:(ar.arg == ("__debug__" : Str))=false) (hc1:(ar.arg == ("__classdict__" : Str))=false) (hd2:(x1 == ("__debug__" : Str))=false) (hc2:(x1 == ("__classdict__" : Str))=false)
  (hks:F.scope.names.lookup ("super" : Str)=some .globalImplicit) (kf:K.lookup f=some ⟨oc,od,.func (F.fd doc pm ctv),osl⟩) (hp:(F.params.posonlyargs++F.params.args).head? = some ar)
  (kcell:K.lookup cc=some ⟨cl,cld,.cell (some (.ref D)),csl⟩) (kcode:K.lookup F.c=some ⟨ccl,cdd,.fields vs0,ccs⟩) (hvs:vs0[2]? = some (.str file tf)) (hcd:codeIn K (.ref F.c) F.qual=true) (hfile:((P.main.file:Str) == file)=true)
  (X:XCls K D f) (hno:findIn K (.ref D) f1=some none) (hsup:mg "super" = none) (htop:(P.main.scope.names.lookup ("super" : Str)).isSome=false) (hst:nsIn K cStatics "thirdparty.any" = some none)
  (he:∀ env:Env,eval (.Call (.Attribute (.Call (.Name "super" p0) [] [] p1) "__init__" p2) [.Constant (.str m) j p3] [] p4) env=(do
   let ov ← attributeBase (.Call (.Name "super" p0) [] [] p1) "__init__" env (eval (.Call (.Name "super" p0) [] [] p1) env)
   standAt p2.atName
   let (f,first) ← holding [ov] (getMethod ov "__init__" pl)
   callWith p4 f first (backTo p4 (starEach [.Constant (.str m) j p3] env)) [])) :
  FnOk P w K mg base CXt (k+1) f (F.fd doc pm ctv) [ar.arg,x1] (spX1 D f1):=by
 obtain ⟨cdD,kD⟩:=X.cls
 refine fok_super (N:=[ar.arg,x1,"__class__"]) (rest:=_) S hF hb hks kf hp rfl (S.par _ (by simp)) kcell kcode hvs hcd hfile kD hsup htop hst he (fun vs H Q E ⟨a,v,e,_⟩=>by rw [e];rfl) (fun A outer s H vs Q E hr ⟨a,v,e,ea,q⟩=>?_)
 subst e
 refine ⟨a,D,cdD,rfl,ea,X.T,kD,X.self,X.sup,X.ve,_,pss_one (ps_ost (pe_var (i:=0) rfl (.inl (S.par _ (by simp))) hd1 hc1) (pe_var (i:=1) rfl (.inl (S.par _ (by simp))) hd2 hc2) rfl),?_⟩
 exact ⟨v,rfl,.ref a,rfl,a,D,rfl,X.T,hno,.inl ⟨ea,fun dx n ne=>q dx n ne⟩⟩
end
section
variable {Y:YC} {Γ:List Cell} {k:Ks} {te t1 t2:TE} {Cx:Addr} {f1 f2:Str} {Wt:WX}
theorem z_raise1 (hE:Y.E=WE Wt) (h:R Y te Γ dInt fun n=>Y.kx ⟨Cx,some [(f1,.int n)]⟩ Γ):Z Y (fun _ σ H=>tMkO Cx (spX1 Cx f1) [] (tCons te tNil) σ H fun cls d H'=>Wt cls d σ H') Γ k:=fun e F σ H D hM s c=>h e F σ H s _ fun v F1 H1 n kn g r=>by
 cases (show v = .int n from r)
 refine ⟨by show 1≤1000;omega,fun a ha=>⟨a,.int n,rfl,upd_same,fun d hd hda=>⟨rfl,d,[(f1,.int n)],upd_same,by rw [upd_ne hda,upd_same],?_,?_⟩⟩⟩
 ·rw [upd_ne hda] at hd
  exact hd
 ·rw [upd_ne hda] at hd
  have e1:upd (del (upd (upd (upd H1 a (exo a Cx none)) d (exd d [(f1,.int n)])) a (exo a Cx (some d))) a) d (.xd [(f1,.int n)])=upd H1 d (.xd [(f1,.int n)]):=by
   funext b
   by_cases hb:b=d
   ·subst hb;rw [upd_same,upd_same]
   ·rw [upd_ne hb,upd_ne hb]
    by_cases hb2:b=a
    ·subst hb2;rw [del_same,ha]
    ·rw [del_ne hb2,upd_ne hb2,upd_ne hb,upd_ne hb2]
  rw [e1]
  have:=s.1 ⟨Cx,some [(f1,.int n)]⟩ (some d) (upd F1 d (.xd [(f1,.int n)])) σ (upd H1 d (.xd [(f1,.int n)])) Γ kn ((s.grow g).grow (g.base.lay hd)).2 ⟨_,_,rfl,upd_same,rfl,rfl,trivial⟩
  rw [hE] at this
  exact this
end
end G
namespace G
open PySem PySem.Spec PyProof.Rows L2 PySem.W
@[reducible] def dExn (a:Addr) (d:Option Addr):Dat Exn where
 rep _ F v x:=v = .ref a∧x.at F d
 mono:=fun {C F F' v x} s ⟨e,h⟩=>⟨e,by
  cases d with
  | none=>exact h
  | some dd=>obtain ⟨fs,fs',e1,e2,r⟩:=h;exact ⟨fs,fs',e1,s _ _ e2,r.mono s⟩⟩
def rIsX (K:Frag) (a:Addr) (cls:Value) (d:Option Addr):List V→Hp→VK→Prop:=fun xs H Q=>∃ (D:Addr) (c:V) (cv:Value) (b:Bool),cls = .ref D∧ExcC K D∧xs=[.ref a,c]∧(∀ u,RelV c u→u=cv)∧kitOne K (.ref D) cv=some b ∧
 (∀ dd,d=some dd → ∃ fs,H dd=some (.xd fs))∧Q (.bl b) H
theorem ZdV {X:Cx} {a:Addr} {cls:Value} {d:Option Addr} {oe:Obj} {pn:List (Addr×Obj)} (hz:Zc cls d oe) (hf:∃ vs,oe.data = .fields vs):CallR (X.suite a ((a,oe)::pn)) (.builtin "isinstance") (rIsX X.K a cls d):=by
 intro pins s σ H xs us Q I r h
 obtain ⟨D,c,cv,b,rfl,C,rfl,hcv,e,hd,q⟩:=h
 cases r with
 | cons rx rr =>
  cases rr with
  | cons rt rr =>
   cases rr
   cases rx
   have ec:=hcv _ rt
   subst ec
   obtain ⟨hget,_⟩:=I.pin (a,oe) (List.mem_append.mpr (.inl List.mem_cons_self))
   obtain ⟨vs,hv⟩:=hf
   obtain ⟨od,J⟩:∃ od,InstAt s.heap a oe D od:=by
    obtain ⟨oc,odt,oda,osl⟩:=oe
    obtain ⟨h1,h2⟩:=hz
    dsimp only at h1 h2 hv
    subst h1 h2 hv
    cases odt with
    | none=>exact ⟨none,hget,rfl,rfl,trivial⟩
    | some dd =>
     obtain ⟨fs,hfs⟩:=hd dd rfl
     have ok:ObjOk X.prog X.w H s.heap dd (.xd fs):=I.hok dd _ hfs
     obtain ⟨mA,⟨o,es,ep,ho,_⟩,_⟩:=ok
     exact ⟨some o,hget,rfl,rfl,ho⟩
   have hcl:(clsIn X.K D).isSome=true:=by obtain ⟨cd,hc,_⟩:=any_some C.hd;rw [hc];rfl
   exact kia_one (kitx_exc hcl C.hg C.hk C.hs C.ha C.hn C.ht C.hm) I.kIn J e (fun z=>nomatch z) fun tk=>⟨.bl b,H,I.kept (t':=tk) fun _ _ z=>z,rfl,q⟩
section
variable {Y:YC} {Γ:List Cell} {k:Ks} {te:TE} {a Cx:Addr} {d:Option Addr} {x:Exn} {i:Nat}
theorem w_isX {cls:Value} {c:V} {cv:Value} {b:Bool} {kx:Bool→Prop} (hi:Γ[i]? = some (.val (dExn a d) x)) (hc:cls = .ref x.cls) (C:ExcC Y.K x.cls) (hv:∀ u,RelV c u→u=cv) (hk:kitOne Y.K (.ref x.cls) cv=some b) (h:kx b) :
  W Y (tCB (rIsX Y.K a cls d) (tCons (tVar i) (tCons (tC c) tNil))) Γ dBool kx:=fun e F σ H s Q q=>by
 obtain ⟨v,e1,e2,r⟩:=s.val hi
 subst e2
 refine ⟨.ref a,e1,x.cls,c,cv,b,hc,C,rfl,hv,hk,fun dd hd=>?_,q _ F H b h s.base rfl⟩
 subst hd
 obtain ⟨_,fs,_,e3,_⟩:=r
 exact ⟨fs,s.fh _ _ e3⟩
theorem w_xf {cls:Value} {f:Str} {n:Int} {fs:List (Str×XV)} {kx:Int→Prop} (hi:Γ[i]? = some (.val (dExn a d) x)) (hc:cls = .ref x.cls) (hx:x.cls=Cx) (hf:x.fs=some fs) (hl:fs.lookup f=some (.int n)) (h:kx n) :
  W Y (tXf a cls d Cx f (tVar i)) Γ dInt kx:=fun e F σ H s Q q=>by
 obtain ⟨v,e1,e2,r⟩:=s.val hi
 subst e2
 refine ⟨.ref a,e1,rfl,by rw [hc,hx],?_⟩
 cases d with
 | none=>rw [show x.fs=none from r] at hf;cases hf
 | some dd =>
  obtain ⟨fs1,fs',e3,e4,e5⟩:=r
  rw [hf] at e3
  cases e3
  obtain ⟨v',e6,e7⟩:=e5.look hl
  cases (show v' = .int n from e7)
  exact ⟨dd,fs',.int n,rfl,s.fh _ _ e4,e6,q _ F H n h s.base rfl⟩
theorem State.noAt {e:En} {F:Hp} {σ:L2.St} {H:Hp} (s:State Y e F σ H Γ) (i:Nat):State Y e F (σ.set i none) H (Γ.set i .no):=by
 cases q:Γ[i]? with
 | some c=>exact s.forget q
 | none =>
  have h1:Γ.length≤i:=List.getElem?_eq_none_iff.mp q
  have h2:σ.length≤i:=by rw [s.len];exact h1
  rw [List.set_eq_of_length_le h1,List.set_eq_of_length_le h2]
  exact s
theorem Cont.at {e:En} {D:Ends} {E:L2.St→XK} {kb:Exn→List Cell→Prop} (hx:XOk Y e) (c:Cont Y e k D):Cont ⟨Y.g,E,kb⟩ e k D :=
 ⟨fun F σ H Γ q s=>c.nx F σ H Γ q ⟨hx,s.2⟩,c.rt,fun F σ H Γ q s=>c.bk F σ H Γ q ⟨hx,s.2⟩,fun F σ H Γ q s=>c.ct F σ H Γ q ⟨hx,s.2⟩⟩
theorem z_tryAs {tb:WX→TS} {ts:Addr→Value→Option Addr→TS} {c:Value} {Wout:WX} (kb:Exn→List Cell→Prop) (hE:Y.E=WE Wout) (hb:∀ W:WX,Z ⟨Y.g,WE W,kb⟩ (tb W) Γ k)
  (hx:∀ x Γ',kb x Γ' → ∃ b,exmOne Y.K (.ref x.cls) c=some b ∧
   (b=true→(∃ c0,Γ'[i]? = some c0) ∧ ∀ a d,Z Y (ts a (.ref x.cls) d) (Γ'.set i (.val (dExn a d) x)) { nx:=fun Γ2=>k.nx (Γ2.set i .no),rt:=k.rt,bk:=fun Γ2=>k.bk (Γ2.set i .no),ct:=fun Γ2=>k.ct (Γ2.set i .no) })∧(b=false→Y.kx x Γ')) :
  Z Y (fun D σ H=>tb (wAs Y.K c i ts Wout D) D σ H) Γ k:=fun e F σ H D hM s ct=>by
 refine hb _ e F σ H D hM ⟨fun x d F' σ' H' Γ' kbx st hd=>?_,s.2⟩ (ct.at s.1)
 obtain ⟨b,hm,h1,h2⟩:=hx x Γ' kbx
 refine ⟨b,hm,fun hb1 a ha=>?_,fun hb0=>?_⟩
 ·obtain ⟨⟨c0,hi⟩,hz⟩:=h1 hb1
  have st1:State Y e F' σ' H' Γ':=⟨s.1,st⟩
  refine hz a d e F' _ H' _ hM (st1.set (c':=.val (dExn a d) x) (L':=[]) hi st1.base ⟨rfl,_,rfl,rfl,hd⟩) ⟨fun F3 σ3 H3 Γ3 q s3=>ct.nx F3 _ H3 _ q (s3.noAt i),ct.rt,fun F3 σ3 H3 Γ3 q s3=>ct.bk F3 _ H3 _ q (s3.noAt i),fun F3 σ3 H3 Γ3 q s3=>ct.ct F3 _ H3 _ q (s3.noAt i)⟩
 ·have:=s.1 x d F' σ' H' Γ' (h2 hb0) st hd
  rw [hE] at this
  exact this
end
end G
namespace G
open PySem PySem.Spec PyProof.Rows L2 PySem.W
section
variable {X:Cx} {CXt:CXT} {k:Nat} {f C:Addr} {fd:FuncData} {ps:List Str} {sp:Sp} {E:L2.St→XK} {x m:Str} {p pos apos:Pos} {e o:Expr} {es:List Expr} {ta:TE} {t:TA}
end
structure Ob1 (α:Type) where
 a:α
 deriving DecidableEq
structure Ob2 (α β:Type) where
 a:α
 b:β
 deriving DecidableEq
section
variable {α β:Type} [d1:Dat α] [d2:Dat β] (C0:Addr) (f1 f2:Str)
@[reducible] def dOb1:Dat (Ob1 α):=⟨fun C F v x=>∃ p dx v1,v = .ref p∧F p=some (.ins C0 dx [(f1,v1)])∧d1.rep C F v1 x.a,fun s ⟨p,dx,v1,e,h,r1⟩=>⟨p,dx,v1,e,s _ _ h,d1.mono s r1⟩⟩
@[reducible] def dOb2:Dat (Ob2 α β):=⟨fun C F v x=>∃ p dx v1 v2,v = .ref p∧F p=some (.ins C0 dx [(f1,v1),(f2,v2)])∧d1.rep C F v1 x.a∧d2.rep C F v2 x.b,
 fun s ⟨p,dx,v1,v2,e,h,r1,r2⟩=>⟨p,dx,v1,v2,e,s _ _ h,d1.mono s r1,d2.mono s r2⟩⟩
@[reducible] def oOb1 : @OD (Ob1 α) (dOb1 C0 f1):=@OD.mk (Ob1 α) (dOb1 C0 f1)
 (fun C F v x L=>∃ p dx v1,v = .ref p∧L=[(p,.ins C0 dx [(f1,v1)])]∧d1.rep C F v1 x.a)
 (fun s ⟨p,dx,v1,e,h,r1⟩=>⟨p,dx,v1,e,h,d1.mono s r1⟩)
 (fun ⟨p,dx,v1,e,h,r1⟩ s k=>⟨p,dx,v1,e,k (p,.ins C0 dx [(f1,v1)]) (by rw [h];exact List.mem_cons_self),d1.mono s r1⟩)
@[reducible] def oOb2 : @OD (Ob2 α β) (dOb2 C0 f1 f2):=@OD.mk (Ob2 α β) (dOb2 C0 f1 f2)
 (fun C F v x L=>∃ p dx v1 v2,v = .ref p∧L=[(p,.ins C0 dx [(f1,v1),(f2,v2)])]∧d1.rep C F v1 x.a∧d2.rep C F v2 x.b)
 (fun s ⟨p,dx,v1,v2,e,h,r1,r2⟩=>⟨p,dx,v1,v2,e,h,d1.mono s r1,d2.mono s r2⟩)
 (fun ⟨p,dx,v1,v2,e,h,r1,r2⟩ s k=>⟨p,dx,v1,v2,e,k (p,.ins C0 dx [(f1,v1),(f2,v2)]) (by rw [h];exact List.mem_cons_self),d1.mono s r1,d2.mono s r2⟩)
end
structure Ob0 where
 u:Unit
@[reducible] def dOb0 (C0:Addr):Dat Ob0:=⟨fun _ F v _=>∃ p dx,v = .ref p∧F p=some (.ins C0 dx []),fun s ⟨p,dx,e,h⟩=>⟨p,dx,e,s _ _ h⟩⟩
@[reducible] def oOb0 (C0:Addr) : @OD Ob0 (dOb0 C0):=@OD.mk Ob0 (dOb0 C0)
 (fun _ _ v _ L=>∃ p dx,v = .ref p∧L=[(p,.ins C0 dx [])])
 (fun _ h=>h)
 (fun ⟨p,dx,e,h⟩ _ k=>⟨p,dx,e,k (p,.ins C0 dx []) (by rw [h];exact List.mem_cons_self)⟩)
section
variable {α β:Type} [d1:Dat α] [d2:Dat β] {C0:Addr} {f1 f2:Str}
end
section
variable {Y:YC} {Γ:List Cell} {k:Ks} {te:TE} {tl:TA} {α β:Type} {d:Dat α} {d2:Dat β} {C0:Addr} {f:Str} {ns:List Str}
end
end G
namespace G
open PySem PySem.Spec PyProof.Rows L2 PySem.W
section
variable {C:GCtx} {Y:YC} {Γ:List Cell} {α:Type} {d:Dat α}
def FnI (C:GCtx) {α:Type} {d:Dat α} (od:OD α) (C0:Addr) (Γ:List Cell) (post:α→Prop) (xp:Exn→Prop) (vs:List V) (H:Hp) (Q:VK) (E:XK):Prop :=
 ∃ p dx ws F H1,vs = .ref p::ws∧H1 p=none∧H1 dx=none∧dx≠p∧H=upd (upd H1 dx (.own p)) p (.ins C0 dx [])∧Gr F H1 F H1∧Slots C F (ws.map some) Γ [] ∧
  (∀ x F' H' L,post x→Wk ⟨F,H1,[]⟩ F' L H'→od.orep C F' (.ref p) x L→Q .non H') ∧
  ∀ x d F' H',xp x→Wk ⟨F,H1,[]⟩ F' [] H'→x.at F' d→E (.ref x.cls) d H'
theorem FnI.len {od : @OD α d} {C0:Addr} {post:α→Prop} {xp:Exn→Prop} {vs:List V} {H:Hp} {Q:VK} {E:XK} (h:FnI C od C0 Γ post xp vs H Q E):vs.length=Γ.length+1:=by
 obtain ⟨p,dx,ws,F,H1,e,_,_,_,_,_,sl,_⟩:=h
 rw [e,List.length_cons,← sl.len,List.length_map]
theorem FnI.mono {od : @OD α d} {C0:Addr} {post post' : α→Prop} {xp xp' : Exn→Prop} {vs:List V} {H:Hp} {Q:VK} {E:XK} (h:FnI C od C0 Γ post xp vs H Q E) (m:∀ x,post' x→post x) (mx:∀ x,xp' x→xp x):FnI C od C0 Γ post' xp' vs H Q E:=by
 obtain ⟨p,dx,ws,F,H1,e,a1,a2,a3,a4,a5,sl,q,qx⟩:=h
 exact ⟨p,dx,ws,F,H1,e,a1,a2,a3,a4,a5,sl,fun x F' H' L k=>q x F' H' L (m x k),fun x d F' H' k=>qx x d F' H' (mx x k)⟩
theorem FnI.body {od : @OD α d} {C0:Addr} {N:List Str} {post:α→Prop} {xp:Exn→Prop} {vs:List V} {H:Hp} {Q:VK} {E:XK} {t:TS} (h:FnI C od C0 Γ post xp vs H Q E)
  (hz:∀ p,Z ⟨C,fun _=>E,fun x _=>xp x⟩ t (.own (dOb0 C0) (oOb0 C0) (some (.ref p)) ⟨()⟩::(Γ++List.replicate (N.length-(Γ.length+1)) .no)) { nx:=fun Γ'=>∃ x,Γ'[0]? = some (.own d od (some (.ref p)) x)∧post x,rt:=fun _ _=>False,bk:=fun _=>False,ct:=fun _=>False }):t { nx:=fun _ H'=>Q .non H',rt:=Q } (L2.start N vs) H:=by
 have hl:=h.len
 obtain ⟨p,dx,ws,F,H1,e,hp,hdx,hne,eH,g,sl,q,qx⟩:=h
 subst e eH
 have hl2:ws.length=Γ.length:=by simpa using hl
 have k0:Wk ⟨F,H1,[]⟩ (upd F dx (.own p)) [] (upd H1 dx (.own p)):=Wk.lay g hdx
 have k1:Wk ⟨F,H1,[]⟩ (upd F dx (.own p)) [(p,.ins C0 dx [])] (upd (upd H1 dx (.own p)) p (.ins C0 dx [])):=k0.own (by rw [upd_ne (Ne.symm hne)];exact hp) (fun _ z=>by cases z)
 have st:State ⟨C,fun _=>E,fun x _=>xp x⟩ ⟨F,H1,[]⟩ (upd F dx (.own p)) (L2.start N (.ref p::ws)) (upd (upd H1 dx (.own p)) p (.ins C0 dx [])) (.own (dOb0 C0) (oOb0 C0) (some (.ref p)) ⟨()⟩::(Γ++List.replicate (N.length-(Γ.length+1)) .no)):=by
  refine ⟨fun x d F' σ' H' Γ' k ⟨L,kw,_⟩ hd=>qx x d F' H' k (kw.sub (fun _ z=>nomatch z) List.nodup_nil) hd,[(p,.ins C0 dx [])],k1,?_⟩
  unfold L2.start
  rw [List.length_cons,hl2]
  exact .cons (L:=[(p,.ins C0 dx [])]) (L':=[]) ⟨.ref p,rfl,fun u z=>by cases z;rfl,p,dx,rfl,rfl⟩ (ZcR (sl.mono k1.ff) (slots_pad _))
 refine hz p ⟨F,H1,[]⟩ _ (L2.start N (.ref p::ws)) _ _ rfl st ⟨fun F' σ' H' Γ' hn s'=>?_,fun F' σ' H' Γ' v c L L' z=>z.elim,fun _ _ _ _ z=>z.elim,fun _ _ _ _ z=>z.elim⟩
 obtain ⟨x,hi,px⟩:=hn
 obtain ⟨_,L,kw,sl'⟩:=s'
 obtain ⟨o,L1,Li,L2,e1,e2,⟨v,rfl,hpin,r⟩,_⟩:=sl'.get hi
 cases hpin _ rfl
 subst e2
 refine q x F' H' Li px (kw.sub (fun p hp=>by simp [hp]) ?_) r
 have n1:=kw.front.nd
 rw [List.map_append] at n1
 exact (List.nodup_append.mp n1).1
end
end G
namespace G
open PySem PySem.Spec PyProof.Rows L2 PySem.W
abbrev EF:XK:=fun _ _ _=>False
theorem passF {X:Cx} {P:Program} {w:World}:Passes (L2.CX P w) X EF:=fun _ _ _ _ _ _ _ c=>by
 obtain ⟨_,_,_,_,_,_,_,_,_,_,_,_,h⟩:=c
 exact h.elim
theorem Zbt {X:Cx} {P:Program} {w:World} (σ:L2.St):PassesAt (L2.CX P w) X σ EF:=fun _ _ _ _ _ _ c=>by
 obtain ⟨_,_,_,_,_,_,_,_,_,_,_,_,h⟩:=c
 exact h.elim
section
variable {X:Cx} {CXt:CXT} {k:Nat} {f C g p:Addr} {mc:Value} {fd:FuncData} {ps:List Str} {sp:Sp} {E:L2.St→XK} {x m:Str} {apos pos:Pos} {e o:Expr} {es:List Expr} {ta:TE} {t:TA} {pl:Sem Bool}
theorem inst_of {pins:List (Addr×Obj)} {σ:L2.St} {H:Hp} {s:Shared} {a dx:Addr} {fs:List (Str×V)} (I:Inv X pins σ H s) (e:H a=some (.ins C dx fs)):∃ ox od,InstAt s.heap a ox C od:=by
 obtain ⟨mA,O,_⟩:=ins_get I.hok e
 obtain ⟨od,J,_⟩:=O.look
 exact ⟨_,_,J⟩
end
section
variable {Y:YC} {Γ:List Cell} {ta tb:TE} {tl:TA} {α β:Type} {d:Dat α} {d2:Dat β} {C0:Addr} {m:Str} {ns:List Str} {sp:Sp} {E:L2.St→XK}
end
end G
namespace G
open PySem PySem.Spec PyProof.Rows L2 PySem.W
def clsB:Stmt→List Stmt
 | .ClassDef (body:=b) ..=>b
 | _=>[]
def Zcx (name qual:Str) (st:Stmt) (cc c:Addr):NdefX.NF:=⟨name,qual,defArgs st,defBody st,defScope st,[(("__class__" : Str),cc)],c⟩
end G
section
set_option maxHeartbeats 2000000
namespace G
open PySem PySem.Spec PyProof.Rows L2 PySem.W
open AutoSeq1 (wpAny_loadPart')
section
variable {prog:Program} {w:World} {A:Around} {E:Value→Shared→Prop} {s:Shared}
end
end G
end
namespace G
open PySem PySem.Spec PyProof.Rows L2 PySem.W
section
variable {Y:YC} {Γ:List Cell} {te:TE} {α:Type} {d:Dat α} {k:Ks} {ts:TS} {g:TG}
end
end G
noncomputable section
namespace G
open PySem L2
inductive XC where
 | NotAPairing | NothingToUndo | NothingToRedo | BadLabel | NameTaken | NoSuchName | StillTied | ComesapartError | TooLarge | BadLine | UnknownPlace | BadSides | UnknownSide | UnknownTie | BadStep | Repeated | NotATurningCycle | UnknownPoint | UnknownPair | SamePoint | NoLinks | BadLink | BadNode | UnknownTerm | NotSameSteps | NoFacing | NotARing | NotAJoint | NotShut | BadCut | NoSuchCut | Locked | Nothing | BadName | BadSign | BadMove | NoTerm | NeverOpened | BoundTwice | UnknownName | UsedTwice | NotUsed | NotARedex | NotBalanced | NotAnArrow | NotAPermutation | BadSetting | BadSigns | BadChoice | NotOuter
 deriving DecidableEq
structure PX where
 cls:XC
 fs:Option (List (Str×XV))
 deriving DecidableEq
inductive M (α:Type) where
 | ok (x:α):M α
 | exc (x:PX):M α
 | bad:M α
instance:Monad M where
 pure:=M.ok
 bind m f:=match m with | .ok x=>f x | .exc x=>.exc x | .bad=>.bad
namespace M
variable {α β γ:Type}
@[simp] theorem Zab (x:α) (f:α→M β):(M.ok x>>=f)=f x:=rfl
@[simp] theorem exc_bind (x:PX) (f:α→M β):(M.exc x>>=f) = .exc x:=rfl
@[simp] theorem bad_bind (f:α→M β):((M.bad:M α)>>=f) = .bad:=rfl
@[simp] theorem pure_ok (x:α):(pure x:M α) = .ok x:=rfl
@[simp] theorem assoc (m:M α) (f:α→M β) (g:β→M γ):((m>>=f)>>=g)=(m>>=fun x=>f x>>=g):=by cases m<;>rfl
@[simp] theorem bind_ok (m:M α):(m>>=M.ok)=m:=by cases m<;>rfl
def nb (m:M α):Prop:=m ≠ .bad
theorem nb1 {m:M α} {f:α→M β} (h:(m>>=f).nb):m.nb:=fun z=>h (by rw [z];rfl)
theorem nb2 {m:M α} {f:α→M β} {x:α} (h:(m>>=f).nb) (e:m = .ok x):(f x).nb:=fun z=>h (by rw [e];exact z)
def asrt (p:Prop) (m:M α):M α:=@ite _ p (Classical.propDecidable p) m .bad
theorem Zah {p:Prop} {m:M α} (h:p):asrt p m=m:=@if_pos p (Classical.propDecidable p) h _ _ _
theorem Zbv {p:Prop} {m:M α} (h:(asrt p m).nb):p:=by
 unfold asrt at h
 split at h
 ·assumption
 ·exact absurd rfl h
def ofO:Option α→M α
 | some x=>.ok x
 | none=>.bad
@[simp] theorem ZaO (x:α):ofO (some x) = .ok x:=rfl
def push (xs:List α) (m:M α):M (List α):=m>>=fun y=>asrt (xs.length<PySem.sizeLine) (.ok (xs++[y]))
theorem push_ok {xs:List α} {y:α} (h:xs.length<PySem.sizeLine):push xs (.ok y) = .ok (xs++[y]):=Zah h
def ix (xs:List α) (i:Int):M α:=ofO (atI xs i)
def range (n:Int):M (List Int):=asrt (-(2 ^ 62)≤n∧n≤PySem.sizeLine) (.ok (rngL 0 n.toNat))
def fold {σ:Type} (f:σ→α→M σ):σ→List α→M σ
 | s,[]=>.ok s
 | s,x::xs=>f s x>>=fun s'=>fold f s' xs
theorem fold_snoc {σ:Type} (f:σ→α→M σ) (x:α):∀ (xs:List α) (s:σ),fold f s (xs++[x])=(fold f s xs>>=fun s'=>f s' x)
 | [],s=>by simp [fold]
 | y::xs,s=>by simp only [List.cons_append,fold,assoc];congr 1;funext s';exact fold_snoc f x xs s'
end M
inductive Ct (σ ρ:Type) where
 | nx (s:σ):Ct σ ρ
 | rt (r:ρ):Ct σ ρ
 | bk (s:σ):Ct σ ρ
def Ct.go {σ ρ τ:Type} (c:Ct σ ρ) (r:ρ→M τ) (n:σ→M τ):M τ:=match c with | .nx s=>n s | .rt x=>r x | .bk s=>n s
namespace M
variable {α β γ σ ρ:Type}
def ZbA (f:σ→α→M (Ct σ ρ)):σ→List α→M (Ct σ ρ)
 | s,[]=>.ok (.nx s)
 | s,x::xs=>f s x>>=fun c=>match c with | .nx s'=>ZbA f s' xs | c=>.ok c
def Zdh (c:σ→M Bool) (f:σ→M σ):Nat→σ→M σ
 | 0,_=>.bad
 | n+1,s=>c s>>=fun b=>if b then f s>>=Zdh c f n else .ok s
open Classical in
noncomputable def loop (c:σ→M Bool) (f:σ→M σ) (s:σ):M σ:=if h:∃ n,Zdh c f n s ≠ .bad then Zdh c f h.choose s else .bad
theorem loopN_mono (c:σ→M Bool) (f:σ→M σ):∀ (n m:Nat) (s:σ),n≤m→Zdh c f n s ≠ .bad→Zdh c f m s=Zdh c f n s
 | 0,_,_,_,h=>absurd rfl h
 | n+1,0,_,hm,_=>absurd hm (by omega)
 | n+1,m+1,s,hm,h=>by
  unfold Zdh at h ⊢
  cases hc:c s with
  | bad=>rfl
  | exc x=>rfl
  | ok b =>
   rw [hc] at h
   simp only [Zab] at h ⊢
   cases b with
   | false=>rfl
   | true =>
    simp only [if_true] at h ⊢
    cases hf:f s with
    | bad=>rfl
    | exc x=>rfl
    | ok s' =>
     rw [hf] at h
     exact loopN_mono c f n m s' (by omega) h
theorem loop_of {c:σ→M Bool} {f:σ→M σ} {s:σ} {n:Nat} (h:Zdh c f n s ≠ .bad):loop c f s=Zdh c f n s:=by
 have hx:∃ n,Zdh c f n s ≠ .bad:=⟨n,h⟩
 unfold loop
 rw [dif_pos hx]
 rcases Nat.le_total n hx.choose with hl | hl
 ·exact loopN_mono c f _ _ s hl h
 ·exact (loopN_mono c f _ _ s hl hx.choose_spec).symm
theorem loop_nb {c:σ→M Bool} {f:σ→M σ} {s:σ} (h:(loop c f s).nb):∃ n,Zdh c f n s ≠ .bad∧loop c f s=Zdh c f n s:=by
 by_cases hx:∃ n,Zdh c f n s ≠ .bad
 ·obtain ⟨n,hn⟩:=hx
  exact ⟨n,hn,loop_of hn⟩
 ·exact absurd (by unfold loop;rw [dif_neg hx]) h
theorem loop_eq (c:σ→M Bool) (f:σ→M σ) (s:σ):loop c f s=(c s>>=fun b=>if b then f s>>=loop c f else .ok s):=by
 by_cases hx:∃ n,Zdh c f n s ≠ .bad
 ·obtain ⟨n,hn⟩:=hx
  rw [loop_of hn]
  cases n with
  | zero=>exact absurd rfl hn
  | succ n =>
   unfold Zdh at hn ⊢
   cases hc:c s with
   | bad=>rfl
   | exc x=>rfl
   | ok b =>
    rw [hc] at hn
    simp only [Zab] at hn ⊢
    cases b with
    | false=>rfl
    | true =>
     simp only [if_true] at hn ⊢
     cases hf:f s with
     | bad=>rfl
     | exc x=>rfl
     | ok s' =>
      rw [hf] at hn
      simp only [Zab] at hn ⊢
      exact (loop_of hn).symm
 ·have e1:loop c f s = .bad:=by unfold loop;rw [dif_neg hx]
  rw [e1]
  cases hc:c s with
  | bad=>rfl
  | exc x=>exact absurd ⟨1,by unfold Zdh;rw [hc];exact fun z=>nomatch z⟩ hx
  | ok b =>
   simp only [Zab]
   cases b with
   | false=>exact absurd ⟨1,by unfold Zdh;rw [hc];exact fun z=>nomatch z⟩ hx
   | true =>
    simp only [if_true]
    cases hf:f s with
    | bad=>rfl
    | exc x=>exact absurd ⟨1,by unfold Zdh;rw [hc];simp only [Zab,if_true];rw [hf];exact fun z=>nomatch z⟩ hx
    | ok s' =>
     simp only [Zab]
     by_cases hy:∃ n,Zdh c f n s' ≠ .bad
     ·obtain ⟨n,hn⟩:=hy
      exact absurd ⟨n+1,by unfold Zdh;rw [hc];simp only [Zab,if_true];rw [hf];exact hn⟩ hx
     ·unfold loop;rw [dif_neg hy]
def calm:M α→M α
 | .exc _=>.bad
 | m=>m
@[simp] theorem calm_of_ok (x:α):calm (.ok x:M α) = .ok x:=rfl
theorem calm_nb {m:M α} (h:(calm m).nb):∃ x,m = .ok x:=by
 cases m with
 | ok x=>exact ⟨x,rfl⟩
 | exc x=>exact absurd rfl h
 | bad=>exact absurd rfl h
def comp (p:α→M Bool) (f:α→M β):List α→M (List β)
 | []=>.ok []
 | x::xs=>calm (p x)>>=fun b=>if b then calm (f x)>>=fun y=>comp p f xs>>=fun ys=>.ok (y::ys) else comp p f xs
theorem comp_app (p:α→M Bool) (f:α→M β):∀ (xs ys:List α),comp p f (xs++ys)=(comp p f xs>>=fun a=>comp p f ys>>=fun b=>.ok (a++b))
 | [],ys=>by simp [comp]
 | x::xs,ys=>by
  simp only [List.cons_append,comp,assoc]
  cases calm (p x) with
  | bad=>rfl
  | exc x=>rfl
  | ok b =>
   simp only [Zab]
   cases b with
   | false=>exact comp_app p f xs ys
   | true =>
    simp only [if_true,assoc]
    cases calm (f x) with
    | bad=>rfl
    | exc x=>rfl
    | ok y =>
     simp only [Zab]
     rw [comp_app p f xs ys]
     cases comp p f xs<;>cases comp p f ys<;>rfl
theorem comp_ok (p:α→Bool) (f:α→β):∀ xs:List α,comp (fun x=>.ok (p x)) (fun x=>.ok (f x)) xs = .ok ((xs.filter p).map f)
 | []=>rfl
 | x::xs=>by
  simp only [comp,calm_of_ok,Zab]
  cases h:p x with
  | true=>rw [if_pos rfl,comp_ok p f xs,List.filter_cons_of_pos h];rfl
  | false=>rw [if_neg (by simp),comp_ok p f xs,List.filter_cons_of_neg (by simp [h])]
theorem comp_map (f:α→β) (xs:List α):comp (fun _=>.ok true) (fun x=>.ok (f x)) xs = .ok (xs.map f):=by
 rw [comp_ok (fun _=>true) f xs]
 congr 2
 exact List.filter_eq_self.mpr fun _ _=>rfl
theorem comp_of {p:α→M Bool} {f:α→M β} (p' : α→Bool) (f' : α→β):∀ xs:List α,(∀ x∈xs,p x = .ok (p' x))→(∀ x∈xs,p' x=true→f x = .ok (f' x))→comp p f xs = .ok ((xs.filter p').map f')
 | [],_,_=>rfl
 | x::xs,h1,h2=>by
  have ih:=comp_of p' f' xs (fun y hy=>h1 y (List.mem_cons_of_mem _ hy)) fun y hy=>h2 y (List.mem_cons_of_mem _ hy)
  simp only [comp]
  rw [h1 x List.mem_cons_self]
  simp only [calm_of_ok,Zab]
  cases h:p' x with
  | true=>rw [if_pos rfl,h2 x List.mem_cons_self h,ih,List.filter_cons_of_pos h];rfl
  | false=>rw [if_neg (by simp),ih,List.filter_cons_of_neg (by simp [h])]
theorem fold_app {σ:Type} (f:σ→α→M σ):∀ (xs ys:List α) (s:σ),fold f s (xs++ys)=(fold f s xs>>=fun s'=>fold f s' ys)
 | [],ys,s=>by simp [fold]
 | x::xs,ys,s=>by
  simp only [List.cons_append,fold,assoc]
  congr 1;funext s';exact fold_app f xs ys s'
theorem foldC_app (f:σ→α→M (Ct σ ρ)):∀ (xs ys:List α) (s:σ),ZbA f s (xs++ys)=(ZbA f s xs>>=fun c=>match c with | .nx s'=>ZbA f s' ys | c=>.ok c)
 | [],ys,s=>by simp [ZbA]
 | x::xs,ys,s=>by
  simp only [List.cons_append,ZbA,assoc]
  congr 1;funext c
  cases c with
  | nx s'=>exact foldC_app f xs ys s'
  | rt r=>rfl
  | bk s'=>rfl
theorem Zeo {f:Unit→α→M (Ct Unit ρ)}:∀ xs:List α,(∀ x∈xs,f () x = .ok (.nx ()))→ZbA f () xs = .ok (.nx ())
 | [],_=>rfl
 | x::xs,h=>by
  simp only [ZbA]
  rw [h x List.mem_cons_self]
  exact Zeo xs fun y hy=>h y (List.mem_cons_of_mem _ hy)
end M
def PX.x (tx:XC→Addr) (x:PX):Exn:=⟨tx x.cls,x.fs⟩
section
variable (tx:XC→Addr) (Y:YC)
def XkM {α:Type} (Γ:List Cell) (m:M α):Prop:=∀ x,m = .exc x→Y.kx (x.x tx) Γ
def We (te:TE) (Γ:List Cell) {α:Type} (d:Dat α) (m:M α):Prop:=m.nb→XkM tx Y Γ m→W Y te Γ d (m = .ok ·)
def Re (te:TE) (Γ:List Cell) {α:Type} (d:Dat α) (m:M α):Prop:=m.nb→XkM tx Y Γ m→R Y te Γ d (m = .ok ·)
def Oe (te:TE) (Γ:List Cell) {α:Type} {d:Dat α} (od:OD α) (m:M α):Prop:=m.nb→XkM tx Y Γ m→O Y te Γ od (m = .ok ·)
def Te (t:TT) (Γ:List Cell) (m:M Bool):Prop:=m.nb→XkM tx Y Γ m→T Y t Γ (m = .ok ·)
end
section
variable {tx:XC→Addr} {Y:YC} {Γ:List Cell} {te ta tb tc td:TE} {t u:TT} {α β γ δ ε:Type} {d:Dat α} {d1:Dat α} {d2:Dat β} {d3:Dat γ}
theorem XkM.l {m:M α} {f:α→M β} (h:XkM tx Y Γ (m>>=f)):XkM tx Y Γ m:=fun x e=>h x (by rw [e];rfl)
theorem XkM.r {m:M α} {f:α→M β} {x:α} (h:XkM tx Y Γ (m>>=f)) (e:m = .ok x):XkM tx Y Γ (f x):=fun y e2=>h y (by rw [e];exact e2)
theorem XkM.ok {x:α}:XkM tx Y Γ (M.ok x):=fun _ z=>nomatch z
theorem Zae {m m' : M α} (h:We tx Y te Γ d m) (e:m=m'):We tx Y te Γ d m':=e▸h
theorem ZdY {m m' : M α} (h:Re tx Y te Γ d m) (e:m=m'):Re tx Y te Γ d m':=e▸h
theorem ZdZ {od : @OD α d} {m m' : M α} (h:Oe tx Y te Γ od m) (e:m=m'):Oe tx Y te Γ od m':=e▸h
theorem Zap {m m' : M Bool} (h:Te tx Y t Γ m) (e:m=m'):Te tx Y t Γ m':=e▸h
theorem o_mono {od : @OD α d} {k k' : α→Prop} (h:O Y te Γ od k) (m:∀ x,k x→k' x):O Y te Γ od k':=fun e F σ H s Q q=>h e F σ H s Q fun v F' H' L x kx g r=>q v F' H' L x (m x kx) g r
theorem re_w {m:M α} (h:We tx Y te Γ d m):Re tx Y te Γ d m:=fun nb xk=>r_of_w (h nb xk)
theorem we_o {od : @OD α d} {m:M α} (h:Oe tx Y te Γ od m):We tx Y te Γ d m:=fun nb xk=>w_of_o (h nb xk)
theorem Re.k {m:M α} {f:α→M β} {k:α→Prop} (h:Re tx Y te Γ d m) (nb:(m>>=f).nb) (xk:XkM tx Y Γ (m>>=f)) (g:∀ x,m = .ok x→(f x).nb→XkM tx Y Γ (f x)→k x):R Y te Γ d k :=
 r_mono (h (M.nb1 nb) xk.l) fun x e=>g x e (M.nb2 nb e) (xk.r e)
theorem We.k {m:M α} {f:α→M β} {k:α→Prop} (h:We tx Y te Γ d m) (nb:(m>>=f).nb) (xk:XkM tx Y Γ (m>>=f)) (g:∀ x,m = .ok x→(f x).nb→XkM tx Y Γ (f x)→k x):W Y te Γ d k :=
 Zef (h (M.nb1 nb) xk.l) fun x e=>g x e (M.nb2 nb e) (xk.r e)
theorem Oe.k {od : @OD α d} {m:M α} {f:α→M β} {k:α→Prop} (h:Oe tx Y te Γ od m) (nb:(m>>=f).nb) (xk:XkM tx Y Γ (m>>=f)) (g:∀ x,m = .ok x→(f x).nb→XkM tx Y Γ (f x)→k x):O Y te Γ od k :=
 o_mono (h (M.nb1 nb) xk.l) fun x e=>g x e (M.nb2 nb e) (xk.r e)
theorem Te.k {m:M Bool} {f:Bool→M β} {k:Bool→Prop} (h:Te tx Y t Γ m) (nb:(m>>=f).nb) (xk:XkM tx Y Γ (m>>=f)) (g:∀ x,m = .ok x→(f x).nb→XkM tx Y Γ (f x)→k x):T Y t Γ k :=
 t_mono (h (M.nb1 nb) xk.l) fun x e=>g x e (M.nb2 nb e) (xk.r e)
theorem we_p1 {f:α→β} {m:M α} (rule:∀ k:β→Prop,(R Y ta Γ d1 fun x=>k (f x))→W Y te Γ d2 k) (h:Re tx Y ta Γ d1 m):We tx Y te Γ d2 (m>>=fun x=>.ok (f x)):=fun nb xk =>
 rule _ (h.k nb xk fun x e _ _=>by rw [e];rfl)
theorem we_p1w {f:α→β} {m:M α} (rule:∀ k:β→Prop,(W Y ta Γ d1 fun x=>k (f x))→W Y te Γ d2 k) (h:We tx Y ta Γ d1 m):We tx Y te Γ d2 (m>>=fun x=>.ok (f x)):=fun nb xk =>
 rule _ (h.k nb xk fun x e _ _=>by rw [e];rfl)
theorem we_p2 {f:α→β→γ} {m:M α} {n:M β} (rule:∀ k:γ→Prop,(R Y ta Γ d1 fun x=>R Y tb Γ d2 fun y=>k (f x y))→W Y te Γ d3 k) (h:Re tx Y ta Γ d1 m) (h2:Re tx Y tb Γ d2 n):We tx Y te Γ d3 (m>>=fun x=>n>>=fun y=>.ok (f x y)):=fun nb xk =>
 rule _ (h.k nb xk fun x e nb xk=>h2.k nb xk fun y e2 _ _=>by rw [e];show (n>>=_)=_;rw [e2];rfl)
theorem we_g2 {P:α→β→Prop} [∀ x y,Decidable (P x y)] {f:α→β→γ} {m:M α} {n:M β} (rule:∀ k:γ→Prop,(R Y ta Γ d1 fun x=>R Y tb Γ d2 fun y=>P x y∧k (f x y))→W Y te Γ d3 k) (h:Re tx Y ta Γ d1 m) (h2:Re tx Y tb Γ d2 n):We tx Y te Γ d3 (m>>=fun x=>n>>=fun y=>M.asrt (P x y) (.ok (f x y))):=fun nb xk =>
 rule _ (h.k nb xk fun x e nb xk=>h2.k nb xk fun y e2 nb2 _=>⟨M.Zbv nb2,by rw [e];show (n>>=_)=_;rw [e2];show M.asrt _ _=_;rw [M.Zah (M.Zbv nb2)]⟩)
theorem we_l2 {f:α→β→Option γ} {m:M α} {n:M β} (rule:∀ k:γ→Prop,(W Y ta Γ d1 fun x=>R Y tb Γ d2 fun y=>∃ z,f x y=some z∧k z)→W Y te Γ d3 k) (h:We tx Y ta Γ d1 m) (h2:Re tx Y tb Γ d2 n):We tx Y te Γ d3 (m>>=fun x=>n>>=fun y=>M.ofO (f x y)):=fun nb xk =>
 rule _ (h.k nb xk fun x e nb xk=>h2.k nb xk fun y e2 nb2 _=>by
  cases q:f x y with
  | none=>rw [q] at nb2;exact absurd rfl nb2
  | some z=>exact ⟨z,rfl,by rw [e];show (n>>=_)=_;rw [e2];show M.ofO _=_;rw [q];rfl⟩)
end
end G
end
noncomputable section
namespace G
open PySem PySem.Spec PyProof.Rows L2 PySem.W
instance (i j:Int):Decidable (CDiv i j):=inferInstanceAs (Decidable (_∧_))
instance (i j:Int):Decidable (CMul i j):=inferInstanceAs (Decidable (_∨_))
instance (i j:Int):Decidable (CPow i j):=inferInstanceAs (Decidable (_∧_∧_))
instance : @Flat Bool dBool:=⟨V.bl,fun h=>h,fun _=>rfl,fun x y=>by cases x<;>cases y<;>simp [eqV]⟩
section
variable {tx:XC→Addr} {Y:YC} {Γ:List Cell} {te ta tb tc td:TE} {t u:TT} {α β γ δ ε:Type} {d:Dat α} {d1:Dat α} {d2:Dat β} {d3:Dat γ} {d4:Dat δ}
theorem w_calm {k:α→Prop} (h:W (calm Y.g) te Γ d k):W Y te Γ d k:=fun e F σ H s Q q=>h e F σ H ⟨fun _ _ _ _ _ _ z=>z.elim,s.2⟩ Q q
theorem t_calm {k:Bool→Prop} (h:T (calm Y.g) t Γ k):T Y t Γ k:=fun e F σ H s Q q=>h e F σ H ⟨fun _ _ _ _ _ _ z=>z.elim,s.2⟩ Q q
theorem Zaa {i:Nat} {x:α} (h:Γ[i]? = some (.val d x)):We tx Y (tVar i) Γ d (.ok x):=fun _ _=>w_var h rfl
theorem ZbK {od : @OD α d} {pin:Option V} {i:Nat} {x:α} (h:Γ[i]? = some (.own d od pin x)):Re tx Y (tVar i) Γ d (.ok x):=fun _ _=>r_varO h rfl
theorem Zac {n:Int}:We tx Y (tC (.int n)) Γ dInt (.ok n):=fun _ _=>w_int rfl
theorem Zee {n:Bool}:We tx Y (tC (.bl n)) Γ dBool (.ok n):=fun _ _=>w_bl rfl
theorem Zad {n:Str}:We tx Y (tC (.str n)) Γ dStr (.ok n):=fun _ _=>w_str rfl
theorem we_non:We tx Y (tC .non) Γ dUnit (.ok ()):=fun _ _=>w_non rfl
theorem ZaZ {m n:M Int} (h:Re tx Y ta Γ dInt m) (h2:Re tx Y tb Γ dInt n):We tx Y (tOp (rI0 fun i j=>.int (i+j)) ta tb) Γ dInt (m>>=fun x=>n>>=fun y=>.ok (x+y)):=we_p2 (fun k h=>w_add h) h h2
theorem we_mul {m n:M Int} (h:Re tx Y ta Γ dInt m) (h2:Re tx Y tb Γ dInt n):We tx Y (tOp (rI CMul fun i j=>.int (i*j)) ta tb) Γ dInt (m>>=fun x=>n>>=fun y=>M.asrt (CMul x y) (.ok (x*y))):=we_g2 (fun k h=>w_mul h) h h2
theorem we_mod {m n:M Int} (h:Re tx Y ta Γ dInt m) (h2:Re tx Y tb Γ dInt n):We tx Y (tOp (rI (fun _ j=>0<j) fun i j=>.int (i%j)) ta tb) Γ dInt (m>>=fun x=>n>>=fun y=>M.asrt (0<y) (.ok (x%y))):=we_g2 (P:=fun _ y=>0<y) (fun k h=>w_mod h) h h2
theorem we_fdiv {m n:M Int} (h:Re tx Y ta Γ dInt m) (h2:Re tx Y tb Γ dInt n):We tx Y (tOp (rI CDiv fun i j=>.int (i/j)) ta tb) Γ dInt (m>>=fun x=>n>>=fun y=>M.asrt (CDiv x y) (.ok (x/y))):=we_g2 (fun k h=>w_fdiv h) h h2
theorem we_pow {m n:M Int} (h:Re tx Y ta Γ dInt m) (h2:Re tx Y tb Γ dInt n):We tx Y (tOp (rI CPow fun i j=>.int (i ^ j.toNat)) ta tb) Γ dInt (m>>=fun x=>n>>=fun y=>M.asrt (CPow x y) (.ok (x ^ y.toNat))):=we_g2 (fun k h=>w_pow h) h h2
theorem we_powC {a b c:Int} (h:Re tx Y ta Γ dInt (.ok a)) (h2:Re tx Y tb Γ dInt (.ok b)) (hc:CPow a b∧a ^ b.toNat=c):We tx Y (tOp (rI CPow fun i j=>.int (i ^ j.toNat)) ta tb) Γ dInt (.ok c):=Zae (we_pow h h2) (by show M.asrt _ _=_;rw [M.Zah hc.1,hc.2])
theorem we_neg {m:M Int} (h:Re tx Y ta Γ dInt m):We tx Y (tUn (rU fun i=>.int (-i)) ta) Γ dInt (m>>=fun x=>.ok (-x)):=we_p1 (fun k h=>w_neg h) h
theorem we_lt {m n:M Int} (h:Re tx Y ta Γ dInt m) (h2:Re tx Y tb Γ dInt n):We tx Y (tOp (rI0 fun i j=>.bl (decide (i<j))) ta tb) Γ dBool (m>>=fun x=>n>>=fun y=>.ok (decide (x<y))):=we_p2 (fun k h=>w_lt h) h h2
theorem we_gt {m n:M Int} (h:Re tx Y ta Γ dInt m) (h2:Re tx Y tb Γ dInt n):We tx Y (tOp (rI0 fun i j=>.bl (decide (j<i))) ta tb) Γ dBool (m>>=fun x=>n>>=fun y=>.ok (decide (y<x))):=we_p2 (fun k h=>w_gt h) h h2
theorem we_ge {m n:M Int} (h:Re tx Y ta Γ dInt m) (h2:Re tx Y tb Γ dInt n):We tx Y (tOp (rI0 fun i j=>.bl (decide (j≤i))) ta tb) Γ dBool (m>>=fun x=>n>>=fun y=>.ok (decide (y≤x))):=we_p2 (fun k h=>w_ge h) h h2
class Sc (α:Type) [d:Dat α] where
 enc:α→V
 isEnc:∀ {C:GCtx} {F:Hp} {v:V} {x:α},d.rep C F v x→v=enc x
 scal:∀ x y,L2.scal (enc x) (enc y)=true
 inj:∀ x y,enc x=enc y→x=y
instance:Sc Int:=⟨V.int,fun h=>h,fun _ _=>rfl,fun _ _ h=>V.int.inj h⟩
instance:Sc Bool:=⟨V.bl,fun h=>h,fun _ _=>rfl,fun _ _ h=>V.bl.inj h⟩
instance:Sc Str:=⟨V.str,fun h=>h,fun _ _=>rfl,fun _ _ h=>V.str.inj h⟩
theorem w_eqS [s : @Sc α d] [DecidableEq α] {kb:Bool→Prop} (h:R Y ta Γ d fun x=>R Y tb Γ d fun y=>kb (decide (x=y))):W Y (tOp rEq ta tb) Γ dBool kb:=fun e F σ H st Q q=>h e F σ H st _ fun v1 F1 H1 x h1 g1 r1=>h1 e F1 σ H1 (st.grow g1) _ fun v2 F2 H2 y ky g2 r2=>by
 cases s.isEnc r1
 cases s.isEnc r2
 exact ⟨s.scal x y,q _ F2 H2 _ ky (g1.Zbc g2) (by show V.bl _=V.bl _;rw [decide_eq_decide.mpr ⟨s.inj x y,fun z=>by rw [z]⟩])⟩
theorem w_neS [s : @Sc α d] [DecidableEq α] {kb:Bool→Prop} (h:R Y ta Γ d fun x=>R Y tb Γ d fun y=>kb (!decide (x=y))):W Y (tOp rNe ta tb) Γ dBool kb:=fun e F σ H st Q q=>h e F σ H st _ fun v1 F1 H1 x h1 g1 r1=>h1 e F1 σ H1 (st.grow g1) _ fun v2 F2 H2 y ky g2 r2=>by
 cases s.isEnc r1
 cases s.isEnc r2
 exact ⟨s.scal x y,q _ F2 H2 _ ky (g1.Zbc g2) (by show V.bl _=V.bl _;rw [decide_eq_decide.mpr ⟨s.inj x y,fun z=>by rw [z]⟩])⟩
theorem ZaS [s : @Sc α d] [DecidableEq α] {m n:M α} (h:Re tx Y ta Γ d m) (h2:Re tx Y tb Γ d n):We tx Y (tOp rEq ta tb) Γ dBool (m>>=fun x=>n>>=fun y=>.ok (decide (x=y))):=we_p2 (fun k h=>w_eqS h) h h2
theorem we_neS [s : @Sc α d] [DecidableEq α] {m n:M α} (h:Re tx Y ta Γ d m) (h2:Re tx Y tb Γ d n):We tx Y (tOp rNe ta tb) Γ dBool (m>>=fun x=>n>>=fun y=>.ok (!decide (x=y))):=we_p2 (fun k h=>w_neS h) h h2
theorem we_chain {f f' : Int→Int→Bool} {m n o:M Int} (h:Re tx Y ta Γ dInt m) (h2:Re tx Y tb Γ dInt n) (h3:Re tx Y tc Γ dInt o):We tx Y (tChain (rI0 fun i j=>.bl (f i j)) (rI0 fun i j=>.bl (f' i j)) ta tb tc) Γ dBool (m>>=fun x=>n>>=fun y=>if f x y then o>>=fun z=>.ok (f' y z) else .ok false):=fun nb xk e F σ H s Q q =>
 (h.k nb xk (k:=fun x=>R Y tb Γ dInt fun y=>(n = .ok y)∧((if f x y=true then o>>=fun z=>M.ok (f' y z) else .ok false):M Bool).nb∧XkM tx Y Γ ((if f x y=true then o>>=fun z=>M.ok (f' y z) else .ok false):M Bool)∧m = .ok x) fun x e1 nb xk=>h2.k nb xk fun y e2 nb xk=>⟨e2,nb,xk,e1⟩) e F σ H s _ fun v1 F1 H1 x hy g1 r1=>hy e F1 σ H1 (s.grow g1) _ fun v2 F2 H2 y ⟨e2,nb,xk,e1⟩ g2 r2=>by
  cases (show v1 = .int x from r1)
  cases (show v2 = .int y from r2)
  refine ⟨x,y,rfl,rfl,f x y,rfl,?_⟩
  cases hf:f x y with
  | false=>
   rw [if_neg (by simp)]
   exact q _ F2 H2 false (by rw [e1];show (n>>=_)=_;rw [e2];show (if f x y=true then _ else _)=_;rw [hf];rfl) (g1.Zbc g2) rfl
  | true =>
   rw [if_pos rfl]
   rw [hf,if_pos rfl] at nb xk
   refine h3.k nb xk (k:=fun z=>o = .ok z) (fun z e3 _ _=>e3) e F2 σ H2 ((s.grow g1).grow g2) _ fun v3 F3 H3 z e3 g3 r3=>?_
   cases (show v3 = .int z from r3)
   exact ⟨y,z,rfl,rfl,q _ F3 H3 _ (by rw [e1];show (n>>=_)=_;rw [e2];show (if f x y=true then _ else _)=_;rw [hf,if_pos rfl,e3];rfl) ((g1.Zbc g2).Zbc g3) rfl⟩
theorem Zaf {m:M Bool} (h:We tx Y te Γ dBool m):Te tx Y (tTest te) Γ m:=fun nb xk=>t_test (r_of_w (h nb xk))
theorem te_B {m:M Bool} (h:We tx Y te Γ dBool m):Te tx Y (tB te) Γ m:=fun nb xk=>t_B (r_of_w (h nb xk))
theorem Zdk {m:M Bool} (h:Te tx Y t Γ m):Te tx Y (tNot t) Γ (m>>=fun b=>.ok (!b)):=fun nb xk=>t_not (h.k nb xk fun b e _ _=>by rw [e];rfl)
theorem ZeL {m n:M Bool} (h:Te tx Y t Γ m) (h2:Te tx Y u Γ n):Te tx Y (tAnd t u) Γ (m>>=fun b=>if b then n else .ok false):=fun nb xk=>t_and (h.k nb xk fun b e nb xk=>⟨fun hb=>by
 subst hb;exact t_mono (h2 nb xk) fun c ec=>by rw [e];exact ec,fun hb=>by subst hb;rw [e];rfl⟩)
theorem te_or {m n:M Bool} (h:Te tx Y t Γ m) (h2:Te tx Y u Γ n):Te tx Y (tOr t u) Γ (m>>=fun b=>if b then .ok true else n):=fun nb xk=>t_or (h.k nb xk fun b e nb xk=>⟨fun hb=>by subst hb;rw [e];rfl,fun hb=>by
 subst hb;exact t_mono (h2 nb xk) fun c ec=>by rw [e];exact ec⟩)
theorem te_andP {a b:Bool} (h:Te tx Y t Γ (.ok a)) (h2:Te tx Y u Γ (.ok b)):Te tx Y (tAnd t u) Γ (.ok (a&&b)):=Zap (ZeL h h2) (by cases a<;>rfl)
theorem te_orP {a b:Bool} (h:Te tx Y t Γ (.ok a)) (h2:Te tx Y u Γ (.ok b)):Te tx Y (tOr t u) Γ (.ok (a||b)):=Zap (te_or h h2) (by cases a<;>rfl)
theorem we_and {m n:M Bool} (h:We tx Y ta Γ dBool m) (h2:We tx Y tb Γ dBool n):We tx Y (tAndV ta tb) Γ dBool (m>>=fun b=>if b then n else .ok false):=fun nb xk=>w_andV (r_of_w (h.k nb xk fun b e nb xk=>⟨fun hb=>by
 subst hb;exact Zef (h2 nb xk) fun c ec=>by rw [e];exact ec,fun hb=>by subst hb;rw [e];rfl⟩))
theorem we_or {m n:M Bool} (h:We tx Y ta Γ dBool m) (h2:We tx Y tb Γ dBool n):We tx Y (tOrV ta tb) Γ dBool (m>>=fun b=>if b then .ok true else n):=fun nb xk=>w_orV (r_of_w (h.k nb xk fun b e nb xk=>⟨fun hb=>by subst hb;rw [e];rfl,fun hb=>by
 subst hb;exact Zef (h2 nb xk) fun c ec=>by rw [e];exact ec⟩))
theorem we_not {m:M Bool} (h:We tx Y ta Γ dBool m):We tx Y (tNotV ta) Γ dBool (m>>=fun b=>.ok (!b)):=fun nb xk=>w_notV (r_of_w (h.k nb xk fun b e _ _=>by rw [e];rfl))
theorem te_truL {m:M (List α)} (h:Re tx Y ta Γ (dList (d:=d)) m):Te tx Y (fun σ H Q=>ta σ H fun x H'=>∃ k,TruV Y.K x H' k∧Q k H') Γ (m>>=fun xs=>.ok (!xs.isEmpty)):=fun nb xk=>t_truL (h.k nb xk fun x e _ _=>by rw [e];rfl)
theorem we_abs {m:M Int} (h:Re tx Y ta Γ dInt m):We tx Y (tCB (fun xs H Q=>∃ i,xs=[.int i]∧Q (.int (if i<0 then -i else i)) H) (tCons ta tNil)) Γ dInt (m>>=fun x=>.ok (if x<0 then -x else x)):=we_p1 (fun k h=>w_abs h) h
theorem we_int1 {m:M Int} (h:Re tx Y ta Γ dInt m):We tx Y (tCB (fun xs H Q=>(∃ i,xs=[.int i]∧Q (.int i) H) ∨ ∃ k,xs=[.bl k]∧Q (.int (if k then 1 else 0)) H) (tCons ta tNil)) Γ dInt m:=Zae (we_p1 (f:=fun x:Int=>x) (fun k h=>w_int1 h) h) (M.bind_ok m)
theorem ZcU {m:M (List α)} (h:Re tx Y ta Γ (dList (d:=d)) m):We tx Y (tCB (fun xs H Q=>∃ p ys,xs=[.ref p]∧(SqL Y.K H p ys∨SqT Y.K H p ys)∧Q (.int ys.length) H) (tCons ta tNil)) Γ dInt (m>>=fun xs=>.ok (xs.length:Int)):=we_p1 (f:=fun xs:List α=>(xs.length:Int)) (fun k h=>w_len h) h
theorem we_lenQ {m:M (Sq α)} (h:Re tx Y ta Γ (dSq (d:=d)) m):We tx Y (tCB (fun xs H Q=>∃ p ys,xs=[.ref p]∧(SqL Y.K H p ys∨SqT Y.K H p ys)∧Q (.int ys.length) H) (tCons ta tNil)) Γ dInt (m>>=fun xs=>.ok (xs.l.length:Int)):=we_p1 (f:=fun xs:Sq α=>(xs.l.length:Int)) (fun k h=>w_lenQ h) h
theorem we_ix {m:M (List α)} {n:M Int} (h:We tx Y ta Γ (dList (d:=d)) m) (h2:Re tx Y tb Γ dInt n):We tx Y (tOp (rIxL Y.K) ta tb) Γ d (m>>=fun xs=>n>>=fun i=>M.ix xs i):=we_l2 (fun k h=>w_ix h) h h2
theorem ZeJ {pin:Option V} {i:Nat} {xs:List α} {n:M Int} (hi:Γ[i]? = some (.own (dList (d:=d)) (oList (d:=d)) pin xs)) (h2:Re tx Y tb Γ dInt n):We tx Y (tOp (rIxL Y.K) (tVar i) tb) Γ d (n>>=fun i=>M.ix xs i):=fun nb xk=>w_ixO hi (h2.k nb xk fun y e nb2 _=>by
 cases q:atI xs y with
 | none=>unfold M.ix at nb2;rw [q] at nb2;exact absurd rfl nb2
 | some z=>exact ⟨z,rfl,by rw [e];show M.ix _ _=_;unfold M.ix;rw [q];rfl⟩)
theorem atI_c {K:Frag} {H:Hp} {a:Addr} {xs:List V} {F:Hp} (h:TpA K F a xs) (s:Same F H):SqT K H a xs:=(h.mono s).sq
theorem w_fst {k:α→Prop} (h:W Y te Γ (dPair (d1:=d) (d2:=d2)) fun x=>k x.1):W Y (tOp (rIxT Y.K) te (tC (.int 0))) Γ d k:=fun e F σ H s Q q=>h e F σ H s _ fun v F' H' x kx g ⟨a,v1,v2,ev,ht,r1,r2⟩=>by
 subst ev
 exact ⟨a,_,0,v1,rfl,rfl,atI_c ht g.fh,rfl,q v1 F' H' _ kx g r1⟩
theorem we_fst {m:M (α×β)} (h:We tx Y te Γ (dPair (d1:=d) (d2:=d2)) m):We tx Y (tOp (rIxT Y.K) te (tC (.int 0))) Γ d (m>>=fun x=>.ok x.1):=we_p1w (fun k h=>w_fst h) h
def memB {α:Type} [DecidableEq α] (x:α) (xs:List α):Bool:=decide (x∈xs)
theorem memB_iff {α:Type} [DecidableEq α] {x:α} {xs:List α}:memB x xs=true↔x∈xs:=decide_eq_true_iff
theorem we_in [f : @Flat α d] [DecidableEq α] {m:M α} {n:M (List α)} (h:Re tx Y ta Γ d m) (h2:Re tx Y tb Γ (dList (d:=d)) n):We tx Y (tOp (rIn Y.K false) ta tb) Γ dBool (m>>=fun x=>n>>=fun xs=>.ok (memB x xs)):=we_p2 (f:=fun (x:α) xs=>memB x xs) (fun k h=>w_in h) h h2
theorem ZdG [f : @Flat α d] [DecidableEq α] {m:M α} {n:M (List α)} (h:Re tx Y ta Γ d m) (h2:Re tx Y tb Γ (dList (d:=d)) n):We tx Y (tOp (rIn Y.K true) ta tb) Γ dBool (m>>=fun x=>n>>=fun xs=>.ok (!memB x xs)):=we_p2 (f:=fun (x:α) xs=>!memB x xs) (fun k h=>w_notin h) h h2
theorem ZbB {m:M α} {n:M β} (h:We tx Y ta Γ d m) (h2:We tx Y tb Γ d2 n):We tx Y (tTup (tCons ta (tCons tb tNil))) Γ (dPair (d1:=d) (d2:=d2)) (m>>=fun x=>n>>=fun y=>.ok (x,y)):=fun nb xk =>
 w_tup2 (h.k nb xk fun x e nb xk=>h2.k nb xk fun y e2 nb xk=>by rw [e];show (n>>=_)=_;rw [e2];rfl)
def WLe (tx:XC→Addr) (Y:YC) (ta:TA) (Γ:List Cell) {α:Type} (d:Dat α) (m:M (List α)):Prop:=m.nb→XkM tx Y Γ m→WL Y ta Γ d (m = .ok ·)
theorem wl_mono {tl:TA} {k k' : List α→Prop} (h:WL Y tl Γ d k) (m:∀ x,k x→k' x):WL Y tl Γ d k':=fun e F σ H s Q q=>h e F σ H s Q fun v F' H' x kx g r=>q v F' H' x (m x kx) g r
theorem Zca:WLe tx Y tNil Γ d (.ok []):=fun _ _=>wl_nil rfl
theorem Zaj {tr:TA} {m:M α} {n:M (List α)} (h:We tx Y te Γ d m) (h2:WLe tx Y tr Γ d n):WLe tx Y (tCons te tr) Γ d (m>>=fun x=>n>>=fun xs=>.ok (x::xs)):=fun nb xk=>wl_cons (h.k nb xk fun x e nb xk=>wl_mono (h2 (M.nb1 nb) xk.l) fun xs e2=>by rw [e];show (n>>=_)=_;rw [e2];rfl)
theorem oe_lst {tl:TA} {m:M (List α)} (h:WLe tx Y tl Γ d m) (hl:∀ xs,m = .ok xs→xs.length≤PySem.sizeLine):Oe tx Y (tLst tl) Γ (oList (d:=d)) m:=fun nb xk=>o_lst (wl_mono (h nb xk) fun xs e=>⟨hl xs e,e⟩)
theorem ZdC:Oe tx Y (tLst tNil) Γ (oList (d:=d)) (.ok []):=fun _ _=>o_nil rfl
def asLen (n:Nat) (m:M (List α)):Prop:=∀ xs,m = .ok xs→xs.length=n
theorem ZcT:asLen 0 (.ok ([]:List α)):=fun xs e=>by cases e;rfl
theorem ZaH {n:Nat} {m:M α} {o:M (List α)} (h:asLen n o):asLen (n+1) (m>>=fun x=>o>>=fun xs=>.ok (x::xs)):=fun xs e=>by
 cases m with
 | bad=>cases e
 | exc x=>cases e
 | ok x=>cases ho:o with
  | bad=>rw [ho] at e;cases e
  | exc x=>rw [ho] at e;cases e
  | ok ys=>rw [ho] at e;cases e;simp [h ys ho]
theorem Zcc {n:Nat} {tl:TA} {m:M (List α)} (h:WLe tx Y tl Γ d m) (hl:asLen n m) (hn:n≤1000):Oe tx Y (tLst tl) Γ (oList (d:=d)) m:=oe_lst h fun xs e=>by rw [hl xs e];exact Nat.le_of_lt (ZcQ (by omega))
def TOe (tx:XC→Addr) (Y:YC) (to:TO) (Γ:List Cell) (m:M (Option Int)):Prop:=m.nb→XkM tx Y Γ m→TOk Y to Γ (m = .ok ·)
theorem Zcb:TOe tx Y tNoPart Γ (.ok none):=fun _ _=>to_none rfl
theorem Zba {m:M Int} (h:Re tx Y te Γ dInt m):TOe tx Y (tPart te) Γ (m>>=fun n=>.ok (some n)):=fun nb xk=>to_some (h.k nb xk fun n e _ _=>by rw [e];rfl)
theorem to_mono {to:TO} {k k' : Option Int→Prop} (h:TOk Y to Γ k) (m:∀ x,k x→k' x):TOk Y to Γ k':=fun e F σ H s Q q=>h e F σ H s Q fun v F' H' kx g=>q v F' H' (m v kx) g
theorem oe_sl {tl th:TO} {m:M (List α)} {n o:M (Option Int)} (h:We tx Y te Γ (dList (d:=d)) m) (h2:TOe tx Y tl Γ n) (h3:TOe tx Y th Γ o):Oe tx Y (tSl (rSlL Y.K) te tl th) Γ (oList (d:=d)) (m>>=fun xs=>n>>=fun lo=>o>>=fun hi=>.ok (cutL xs lo hi)):=fun nb xk =>
 o_sl (h.k nb xk fun xs e nb xk=>to_mono (h2 (M.nb1 nb) xk.l) fun lo e2=>to_mono (h3 (M.nb1 (f:=fun hi=>.ok (cutL xs lo hi)) (M.nb2 (f:=fun lo=>o>>=fun hi=>.ok (cutL xs lo hi)) nb e2)) (XkM.l (f:=fun hi=>.ok (cutL xs lo hi)) (XkM.r (f:=fun lo=>o>>=fun hi=>.ok (cutL xs lo hi)) xk e2))) fun hi e3=>by rw [e];show (n>>=_)=_;rw [e2];show (o>>=_)=_;rw [e3];rfl)
end
section
variable {tx:XC→Addr} {Y:YC} {Γ:List Cell} {β:Type} {d:Dat β} {t1 t2 t3 t4 t5 t6 t7:TE} {sp:Sp} {E:L2.St→XK}
variable {α0 α1 α2 α3 α4 α5 α6 α7:Type} {d0:Dat α0} {d1:Dat α1} {d2:Dat α2} {d3:Dat α3} {d4:Dat α4} {d5:Dat α5} {d6:Dat α6} {d7:Dat α7} {m0:M α0} {m1:M α1} {m2:M α2} {m3:M α3} {m4:M α4} {m5:M α5} {m6:M α6} {m7:M α7} {t0:TE}
theorem ZaF {f:α1→M β} (hs:∀ x1,(f x1).nb→SpX Y.g sp [.val d1 x1] (fun c=>∃ r,c = .val d r∧(f x1) = .ok r) fun x=>∃ px,(f x1) = .exc px∧x=px.x tx) (hE:E=Y.E) (h1:We tx Y t1 Γ d1 m1):We tx Y (tCallS sp E (tCons t1 tNil)) Γ d (m1>>=fun x1=>f x1):=fun nb xk=>w_callX hE (Zcv (h1.k nb xk fun x1 e1 nb xk=>wa_nil fun vs H Q E fx=>hs x1 nb vs H Q E (fx.mono (fun c ⟨r,e,q⟩=>⟨r,e,by rw [e1];exact q⟩) fun x ⟨px,e,q⟩=>q▸xk px e)))
theorem ZbQ {f:α1→α2→M β} (hs:∀ x1 x2,(f x1 x2).nb→SpX Y.g sp [.val d1 x1,.val d2 x2] (fun c=>∃ r,c = .val d r∧(f x1 x2) = .ok r) fun x=>∃ px,(f x1 x2) = .exc px∧x=px.x tx) (hE:E=Y.E) (h1:We tx Y t1 Γ d1 m1) (h2:We tx Y t2 Γ d2 m2):We tx Y (tCallS sp E (tCons t1 (tCons t2 tNil))) Γ d (m1>>=fun x1=>m2>>=fun x2=>f x1 x2):=fun nb xk=>w_callX hE (Zcv (h1.k nb xk fun x1 e1 nb xk=>Zcv (h2.k nb xk fun x2 e2 nb xk=>wa_nil fun vs H Q E fx=>hs x1 x2 nb vs H Q E (fx.mono (fun c ⟨r,e,q⟩=>⟨r,e,by rw [e1];show (m2>>=_)=_;rw [e2];exact q⟩) fun x ⟨px,e,q⟩=>q▸xk px e))))
theorem ZaD {f:α1→α2→α3→M β} (hs:∀ x1 x2 x3,(f x1 x2 x3).nb→SpX Y.g sp [.val d1 x1,.val d2 x2,.val d3 x3] (fun c=>∃ r,c = .val d r∧(f x1 x2 x3) = .ok r) fun x=>∃ px,(f x1 x2 x3) = .exc px∧x=px.x tx) (hE:E=Y.E) (h1:We tx Y t1 Γ d1 m1) (h2:We tx Y t2 Γ d2 m2) (h3:We tx Y t3 Γ d3 m3):We tx Y (tCallS sp E (tCons t1 (tCons t2 (tCons t3 tNil)))) Γ d (m1>>=fun x1=>m2>>=fun x2=>m3>>=fun x3=>f x1 x2 x3):=fun nb xk=>w_callX hE (Zcv (h1.k nb xk fun x1 e1 nb xk=>Zcv (h2.k nb xk fun x2 e2 nb xk=>Zcv (h3.k nb xk fun x3 e3 nb xk=>wa_nil fun vs H Q E fx=>hs x1 x2 x3 nb vs H Q E (fx.mono (fun c ⟨r,e,q⟩=>⟨r,e,by rw [e1];show (m2>>=_)=_;rw [e2];show (m3>>=_)=_;rw [e3];exact q⟩) fun x ⟨px,e,q⟩=>q▸xk px e)))))
theorem we_call4 {f:α1→α2→α3→α4→M β} (hs:∀ x1 x2 x3 x4,(f x1 x2 x3 x4).nb→SpX Y.g sp [.val d1 x1,.val d2 x2,.val d3 x3,.val d4 x4] (fun c=>∃ r,c = .val d r∧(f x1 x2 x3 x4) = .ok r) fun x=>∃ px,(f x1 x2 x3 x4) = .exc px∧x=px.x tx) (hE:E=Y.E) (h1:We tx Y t1 Γ d1 m1) (h2:We tx Y t2 Γ d2 m2) (h3:We tx Y t3 Γ d3 m3) (h4:We tx Y t4 Γ d4 m4):We tx Y (tCallS sp E (tCons t1 (tCons t2 (tCons t3 (tCons t4 tNil))))) Γ d (m1>>=fun x1=>m2>>=fun x2=>m3>>=fun x3=>m4>>=fun x4=>f x1 x2 x3 x4):=fun nb xk=>w_callX hE (Zcv (h1.k nb xk fun x1 e1 nb xk=>Zcv (h2.k nb xk fun x2 e2 nb xk=>Zcv (h3.k nb xk fun x3 e3 nb xk=>Zcv (h4.k nb xk fun x4 e4 nb xk=>wa_nil fun vs H Q E fx=>hs x1 x2 x3 x4 nb vs H Q E (fx.mono (fun c ⟨r,e,q⟩=>⟨r,e,by rw [e1];show (m2>>=_)=_;rw [e2];show (m3>>=_)=_;rw [e3];show (m4>>=_)=_;rw [e4];exact q⟩) fun x ⟨px,e,q⟩=>q▸xk px e))))))
theorem oe_call1 {od : @OD β d} {f:α1→M β} (hs:∀ x1,(f x1).nb→SpX Y.g sp [.val d1 x1] (fun c=>∃ r,c = .own d od none r∧(f x1) = .ok r) fun x=>∃ px,(f x1) = .exc px∧x=px.x tx) (hE:E=Y.E) (h1:We tx Y t1 Γ d1 m1):Oe tx Y (tCallS sp E (tCons t1 tNil)) Γ od (m1>>=fun x1=>f x1):=fun nb xk=>o_callX hE (Zcv (h1.k nb xk fun x1 e1 nb xk=>wa_nil fun vs H Q E fx=>hs x1 nb vs H Q E (fx.mono (fun c ⟨r,e,q⟩=>⟨r,e,by rw [e1];exact q⟩) fun x ⟨px,e,q⟩=>q▸xk px e)))
theorem oe_call2 {od : @OD β d} {f:α1→α2→M β} (hs:∀ x1 x2,(f x1 x2).nb→SpX Y.g sp [.val d1 x1,.val d2 x2] (fun c=>∃ r,c = .own d od none r∧(f x1 x2) = .ok r) fun x=>∃ px,(f x1 x2) = .exc px∧x=px.x tx) (hE:E=Y.E) (h1:We tx Y t1 Γ d1 m1) (h2:We tx Y t2 Γ d2 m2):Oe tx Y (tCallS sp E (tCons t1 (tCons t2 tNil))) Γ od (m1>>=fun x1=>m2>>=fun x2=>f x1 x2):=fun nb xk=>o_callX hE (Zcv (h1.k nb xk fun x1 e1 nb xk=>Zcv (h2.k nb xk fun x2 e2 nb xk=>wa_nil fun vs H Q E fx=>hs x1 x2 nb vs H Q E (fx.mono (fun c ⟨r,e,q⟩=>⟨r,e,by rw [e1];show (m2>>=_)=_;rw [e2];exact q⟩) fun x ⟨px,e,q⟩=>q▸xk px e))))
theorem oe_call3 {od : @OD β d} {f:α1→α2→α3→M β} (hs:∀ x1 x2 x3,(f x1 x2 x3).nb→SpX Y.g sp [.val d1 x1,.val d2 x2,.val d3 x3] (fun c=>∃ r,c = .own d od none r∧(f x1 x2 x3) = .ok r) fun x=>∃ px,(f x1 x2 x3) = .exc px∧x=px.x tx) (hE:E=Y.E) (h1:We tx Y t1 Γ d1 m1) (h2:We tx Y t2 Γ d2 m2) (h3:We tx Y t3 Γ d3 m3):Oe tx Y (tCallS sp E (tCons t1 (tCons t2 (tCons t3 tNil)))) Γ od (m1>>=fun x1=>m2>>=fun x2=>m3>>=fun x3=>f x1 x2 x3):=fun nb xk=>o_callX hE (Zcv (h1.k nb xk fun x1 e1 nb xk=>Zcv (h2.k nb xk fun x2 e2 nb xk=>Zcv (h3.k nb xk fun x3 e3 nb xk=>wa_nil fun vs H Q E fx=>hs x1 x2 x3 nb vs H Q E (fx.mono (fun c ⟨r,e,q⟩=>⟨r,e,by rw [e1];show (m2>>=_)=_;rw [e2];show (m3>>=_)=_;rw [e3];exact q⟩) fun x ⟨px,e,q⟩=>q▸xk px e)))))
end
end G
end
noncomputable section
namespace L2
open PySem PySem.Spec PyProof.Rows
section
variable {X:Cx}
def iListB (K:PySem.W.Frag) (tl:TE):TI:=fun σ H R=>tl σ H fun x H1=>∃ a xs,x = .ref a∧SqL K H1 a xs∧(xs.length≤sizeLine→R (Itl K a) H1)
theorem pi_listB {tg l:Expr} {tl:TE} (hl:PE X l tl):PI X tg l (iListB X.K tl):=⟨fun pins s σ H R I h=>thn (hl.run pins s σ H _ I h) fun v s1 ⟨x,H1,I1,r1,a,xs,e,hq,q⟩=>by
 subst e
 cases r1
 obtain ⟨its,rv,p,hz⟩:=I1.list hq
 exact wpAny_pyIter_list p.isList (born I1 (turn_list a _) ⟨_,Heap.get?_push_size _ rfl,rfl,rfl⟩ (q hz))⟩
theorem pi_lB (K:PySem.W.Frag) {tg l:Expr} {tl:TE} (hl:PE X l tl) (h:X.K=K:=by rfl):PI X tg l (iListB K tl):=h▸pi_listB hl
end
end L2
namespace G
open PySem PySem.Spec PyProof.Rows L2 PySem.W
section
variable {tx:XC→Addr} {Y:YC} {Γ:List Cell} {te ta tb tc td tl:TE} {t u tt:TT} {α β γ δ ε σ τ ρ:Type} {d:Dat α} {d1:Dat α} {d2:Dat β} {d3:Dat γ} {g:TG} {ts t1 t2 rest:TS} {js js' vs:List Nat}
def Ie (tx:XC→Addr) (Y:YC) (ti:TI) (Γ:List Cell) {α:Type} (d:Dat α) (m:M (List α)):Prop:=m.nb→XkM tx Y Γ m → ∀ (g:TG) (ts:TS) (k:Ks),(∀ xs,m = .ok xs→Body Y g ts d k (fun i=>xs[i]?) xs.length Γ)→Z Y (tFor ti g ts) Γ k
theorem ie_eq {ti:TI} {m m' : M (List α)} (h:Ie tx Y ti Γ d m) (e:m=m'):Ie tx Y ti Γ d m':=e▸h
theorem ie_list {m:M (List α)} (h:We tx Y tl Γ (dList (d:=d)) m):Ie tx Y (iList Y.K tl) Γ d m:=fun nb xk g ts k hb=>z_for (Zef (h nb xk) fun xs e=>hb xs e)
theorem ZdS {m:M Int} (h:Re tx Y ta Γ dInt m):Ie tx Y (iRng1 (tCons ta tNil)) Γ dInt (m>>=M.range):=fun nb xk g ts k hb=>z_range (h.k nb xk fun n e nb2 _=>by
 have hp:=M.Zbv nb2
 refine ⟨hp.1,Int.lt_of_le_of_lt hp.2 (by decide),?_⟩
 have:=hb (rngL 0 n.toNat) (by rw [e];exact M.Zah hp)
 rw [Zds] at this
 rw [show rng 0 n.toNat=fun i=>(rngL 0 n.toNat)[i]? from funext fun i=>rng_get 0 n.toNat i]
 exact this)
def Ic (tx:XC→Addr) (Y:YC) (ti:TI) (Γ:List Cell) {α:Type} (d:Dat α) (m:M (List α)):Prop:=m.nb→XkM tx Y Γ m → ∀ {β:Type} (d2:Dat β) (g:TG) (tt:TT) (te:TE) (vs:List Nat) (kx:List β→Prop),(Tg g vs∧MoG g) →
 (∀ xs,m = .ok xs→xs.length≤PySem.sizeLine→CompB Y g tt te d d2 kx (fun i=>xs[i]?) xs.length (Zak Γ vs))→O Y (tLc ti g tt te vs) Γ (oList (d:=d2)) kx
theorem ic_list {m:M (List α)} (h:We tx Y tl Γ (dList (d:=d)) m):Ic tx Y (iListB Y.K tl) Γ d m:=fun nb xk β d2 g tt te vs kx hT hb e F σ H s Q q=>h nb xk e F σ H s _ fun v F1 H1 xs hm g1 ⟨a,us,e1,hq,r⟩=>by
 subst e1
 refine ⟨a,us,rfl,g1.fh.seq hq,fun hz D hD=>?_⟩
 obtain ⟨I,h0,hs,hd⟩:=hb xs hm (by rw [← r.len];exact hz)
 have kw0:Wk ⟨F1,H1,[]⟩ F1 [(D,.lst [])] (upd H1 D (.lst [])):=g1.base.own hD (fun _ z=>by cases z)
 refine lc_list (K:=Y.K) (a:=a) (xs:=us) (fun i H=>∃ F' acc ys,Wk ⟨F1,H1,[]⟩ F' [(D,.lst acc)] H∧Reps d2 Y.g F' acc ys∧I i ys) ⟨F1,[],[],kw0,trivial,h0⟩ (fun i H _ ⟨F',acc,ys,kw,_⟩=>(kw.ff.trans kw.fh).seq hq) (fun i w H hw p=>?_) fun H ⟨F',acc,ys,kw,ra,hi⟩=>?_
 ·obtain ⟨x,hx,rx⟩:=r.getV hw
  exact comp_turn (s.grow g1) hT.1 (hs i x · hx) (fun F' sm=>d.mono sm rx) p
 ·rw [r.len] at hi
  exact q _ F' H _ ys (hd ys hi) (by simpa using g1.trans kw) ⟨D,acc,rfl,rfl,ra⟩
theorem ic_range {m:M Int} (h:Re tx Y ta Γ dInt m):Ic tx Y (iRng1 (tCons ta tNil)) Γ dInt (m>>=M.range):=fun nb xk β d2 g tt te vs kx hT hb=>o_lcR hT (h.k nb xk fun n e nb2 _=>by
 have hp:=M.Zbv nb2
 refine ⟨hp.1,Int.lt_of_le_of_lt hp.2 (by decide),?_⟩
 have:=hb (rngL 0 n.toNat) (by rw [e];exact M.Zah hp) (by rw [Zds];have:=hp.2;omega)
 rw [Zds] at this
 rw [show rng 0 n.toNat=fun i=>(rngL 0 n.toNat)[i]? from funext fun i=>rng_get 0 n.toNat i]
 exact this)
theorem te_yes:Te tx Y tYes Γ (.ok true):=fun _ _=>t_yes rfl
theorem oe_lc {ti:TI} {m0:M (List α)} {p:α→M Bool} {f:α→M β} (hT:Tg g vs∧MoG g) (h:Ic tx Y ti Γ d m0) (hb:∀ x,A Y g (Zak Γ vs) d x fun Γ2=>Te tx (calm Y.g) tt Γ2 (p x)∧We tx (calm Y.g) te Γ2 d2 (f x)) :
  Oe tx Y (tLc ti g tt te vs) Γ (oList (d:=d2)) (m0>>=M.comp p f):=fun nb xk=>h (M.nb1 nb) xk.l d2 g tt te vs _ hT fun xs e hz=>by
 have nb2:(M.comp p f xs).nb:=M.nb2 nb e
 refine ⟨fun i ys=>M.comp p f (xs.take i) = .ok ys∧ys.length≤i,⟨rfl,Nat.le_refl _⟩,fun i x ys hx ⟨hi,hl⟩=>?_,fun ys ⟨hi,_⟩=>?_⟩
 ·have hx' : xs[i]? = some x:=hx
  have hlt:i<xs.length:=(List.getElem?_eq_some_iff.mp hx').1
  have htk:xs.take (i+1)=xs.take i++[x]:=by rw [List.take_add_one,hx'];rfl
  have e1:M.comp p f (xs.take (i+1))=(M.comp p f [x]>>=fun b=>.ok (ys++b)):=by rw [htk,M.comp_app,hi];rfl
  have nb3:(M.comp p f [x]).nb:=fun z=>nb2 (by
   have:xs=xs.take (i+1)++xs.drop (i+1):=(List.take_append_drop _ _).symm
   rw [this,M.comp_app,e1,z];rfl)
  intro e0 F σ0 H v s r Q q
  refine hb x e0 F σ0 H v s r Q fun σ' Γ' ⟨ht,hw⟩ s'=>q σ' Γ' ?_ s'
  simp only [M.comp] at nb3 e1
  obtain ⟨b,hb1⟩:=M.calm_nb (M.nb1 nb3)
  rw [hb1] at nb3 e1
  simp only [M.calm_of_ok,M.Zab] at nb3 e1
  refine t_mono (t_calm (ht (by rw [hb1];exact fun z=>nomatch z) (by rw [hb1];exact XkM.ok))) fun b' eb=>⟨fun z=>?_,fun z=>?_⟩
  ·rw [hb1] at eb
   cases eb
   subst z
   rw [if_pos rfl] at nb3 e1
   obtain ⟨y,hy⟩:=M.calm_nb (M.nb1 nb3)
   rw [hy] at e1
   refine Zef (w_calm (hw (by rw [hy];exact fun z=>nomatch z) (by rw [hy];exact XkM.ok))) fun y' ey=>?_
   rw [hy] at ey
   cases ey
   exact ⟨by omega,e1,by simp;omega⟩
  ·rw [hb1] at eb
   cases eb
   subst z
   rw [if_neg (by simp)] at e1
   exact ⟨by rw [e1];simp,by omega⟩
 ·rw [List.take_length] at hi
  rw [e]
  exact hi
theorem Zed (Γ:List Cell):∀ js,(Zak Γ js).length=Γ.length
 | []=>rfl
 | j::js=>by unfold Zak;rw [List.length_set,Zed Γ js]
theorem ZaL {Γ:List Cell} {i:Nat} {c:Cell}:∀ {js:List Nat},i∈js→Zak (Γ.set i c) js=Zak Γ js
 | [],h=>nomatch h
 | j::js,h=>by
  unfold Zak
  by_cases hi:i∈js
  ·rw [ZaL hi]
  ·have e:i=j:=by
    rcases List.mem_cons.mp h with h | h
    ·exact h
    ·exact absurd h hi
   subst e
   have q:∀ (js:List Nat),i∉js→Zak (Γ.set i c) js=(Zak Γ js).set i c:=by
    intro js
    induction js with
    | nil=>intro _;rfl
    | cons m js ih =>
     intro h
     unfold Zak
     rw [ih (fun z=>h (List.mem_cons_of_mem _ z)),set_comm _ _ _ (fun z=>h (by rw [z];exact List.mem_cons_self))]
   rw [q js hi]
   exact List.set_set _
theorem z_wipe {k:Ks}:∀ (js:List Nat) {Γ:List Cell},Z Y ts (Zak Γ js) k→Z Y ts Γ k
 | [],_,h=>h
 | j::js,Γ,h=>by
  refine z_wipe js ?_
  unfold Zak at h
  cases q:(Zak Γ js)[j]? with
  | some c=>exact z_forget j q h
  | none =>
   rw [List.set_eq_of_length_le (List.getElem?_eq_none_iff.mp q)] at h
   exact h
structure Kt (τ:Type) where
 nx:τ→List Cell→Prop
 rt:τ→Cell→List Cell→Prop
 bk:τ→List Cell→Prop
 ct:τ→List Cell→Prop
def Kt.ks {τ:Type} (K:Kt τ) (m:M τ):Ks:=⟨fun Γ=>∃ t,m = .ok t∧K.nx t Γ,fun c Γ=>∃ t,m = .ok t∧K.rt t c Γ,fun Γ=>∃ t,m = .ok t∧K.bk t Γ,fun Γ=>∃ t,m = .ok t∧K.ct t Γ⟩
def KF {ρ:Type} (cell:ρ→Cell):Kt ρ:=⟨fun t _=>.val dUnit ()=cell t,fun t c _=>c=cell t,fun _ _=>False,fun _ _=>False⟩
def KL {σ:Type} (js' : List Nat) (cells:σ→List Cell):Kt σ:=⟨fun s Γ=>Zak Γ js'=cells s,fun _ _ _=>False,fun _ _=>False,fun s Γ=>Zak Γ js'=cells s⟩
def KC {σ ρ:Type} (js' : List Nat) (cells:σ→List Cell) (cell:ρ→Cell):Kt (Ct σ ρ):=⟨fun t Γ=>∃ s,t = .nx s∧Zak Γ js'=cells s,fun t c _=>∃ r,t = .rt r∧c=cell r,fun t Γ=>∃ s,t = .bk s∧Zak Γ js'=cells s,fun t Γ=>∃ s,t = .nx s∧Zak Γ js'=cells s⟩
def Xk (tx:XC→Addr) (Y:YC) (js:List Nat) (Γ:List Cell) {τ:Type} (m:M τ):Prop:=∀ x,m = .exc x → ∀ Γ',Zak Γ' js=Zak Γ js→Y.kx (x.x tx) Γ'
theorem Xk.here {m:M τ} (h:Xk tx Y js Γ m):XkM tx Y Γ m:=fun x e=>h x e Γ rfl
theorem Xk.r {Γ2:List Cell} {m:M σ} {f:σ→M τ} {x:σ} (h:Xk tx Y js Γ (m>>=f)) (e:m = .ok x) (hw:Zak Γ2 js=Zak Γ js):Xk tx Y js Γ2 (f x):=fun y e2 Γ' e3=>h y (by rw [e];exact e2) Γ' (e3.trans hw)
theorem Xk.l {m:M σ} {f:σ→M τ} (h:Xk tx Y js Γ (m>>=f)):Xk tx Y js Γ m:=fun y e2 Γ' e3=>h y (by rw [e2];rfl) Γ' e3
theorem Xk.w {Γ2:List Cell} {m:M τ} (h:Xk tx Y js Γ m) (hw:Zak Γ2 js=Zak Γ js):Xk tx Y js Γ2 m:=fun y e2 Γ' e3=>h y e2 Γ' (e3.trans hw)
def Zm (tx:XC→Addr) (Y:YC) (js:List Nat) (ts:TS) (Γ:List Cell) {τ:Type} (K:Kt τ) (m:M τ):Prop:=m.nb→Xk tx Y js Γ m→Z Y ts Γ (K.ks m)
variable {K:Kt τ}
theorem Zm.go {Γ2:List Cell} {m1:M σ} {f:σ→M τ} {x:σ} (h:Zm tx Y js rest Γ2 K (f x)) (nb:(m1>>=f).nb) (xk:Xk tx Y js Γ (m1>>=f)) (e:m1 = .ok x) (hw:Zak Γ2 js=Zak Γ js):Z Y rest Γ2 (K.ks (m1>>=f)):=by
 have:=h (M.nb2 nb e) (xk.r e hw)
 rw [e]
 exact this
theorem Zai {m:M τ} (h:Zm tx Y js (tSeq ts tNext) Γ K m):Zm tx Y js ts Γ K m:=h
theorem Zaq {m:M τ} (h:Zm tx Y js (tSeq t1 (tSeq t2 rest)) Γ K m):Zm tx Y js (tSeq (tSeq t1 t2) rest) Γ K m:=h
theorem Zag {m:M τ} (h:Zm tx Y js rest Γ K m):Zm tx Y js (tSeq tNext rest) Γ K m:=h
theorem Zau {i:Nat} {c0:Cell} {m1:M α} {m2:α→M τ} (hi:Γ[i]? = some c0) (hj:i∈js) (h:We tx Y te Γ d m1) (h2:∀ x,Zm tx Y js rest (Γ.set i (.val d x)) K (m2 x)):Zm tx Y js (tSeq (tAsg te (gName i)) rest) Γ K (m1>>=m2):=fun nb xk =>
 ZdW (z_set hi (Zef (h (M.nb1 nb) xk.l.here) fun x e=>(h2 x).go nb xk e (ZaL hj)))
theorem ZcF {od : @OD α d} {i:Nat} {c0:Cell} {m1:M α} {m2:α→M τ} (hi:Γ[i]? = some c0) (hj:i∈js) (h:Oe tx Y te Γ od m1) (h2:∀ x,Zm tx Y js rest (Γ.set i (.own d od none x)) K (m2 x)):Zm tx Y js (tSeq (tAsg te (gName i)) rest) Γ K (m1>>=m2):=fun nb xk =>
 ZdW (z_setO hi (o_mono (h (M.nb1 nb) xk.l.here) fun x e=>(h2 x).go nb xk e (ZaL hj)))
theorem a_mono {x:α} {k k' : List Cell→Prop} (h:A Y g Γ d x k) (m:∀ Γ,k Γ→k' Γ):A Y g Γ d x k':=fun e F σ H v s r Q q=>h e F σ H v s r Q fun σ' Γ' kx s'=>q σ' Γ' (m Γ' kx) s'
theorem Zeq {m1:M α} {m2:α→M τ} (h:We tx Y te Γ d m1) (h2:∀ x,A Y g Γ d x fun Γ2=>Zak Γ2 js=Zak Γ js∧Zm tx Y js rest Γ2 K (m2 x)):Zm tx Y js (tSeq (tAsg te g) rest) Γ K (m1>>=m2):=fun nb xk =>
 ZdW (z_setG (Zef (h (M.nb1 nb) xk.l.here) fun x e=>a_mono (h2 x) fun Γ2 ⟨hw,hz⟩=>hz.go nb xk e hw))
theorem zm_drop {m1:M α} {m2:M τ} (h:Re tx Y te Γ d m1) (h2:Zm tx Y js rest Γ K m2):Zm tx Y js (tSeq (tDrop te) rest) Γ K (m1>>=fun _=>m2):=fun nb xk =>
 ZdW (z_drop (kt:=fun _=>True) (r_mono (h (M.nb1 nb) xk.l.here) fun x e=>Zm.go (f:=fun _=>m2) (x:=x) h2 nb xk e rfl))
theorem zm_frz {od : @OD α d} {x:α} {m:M τ} (i:Nat) (hi:Γ[i]? = some (.own d od none x)) (hj:i∈js) (h:Zm tx Y js ts (Γ.set i (.val d x)) K m):Zm tx Y js ts Γ K m:=fun nb xk=>z_frz i hi (h nb (xk.w (ZaL hj)))
theorem ZcE {Γ2:List Cell} {m:M τ} (e:Γ=Γ2) (h:Zm tx Y js ts Γ2 K m):Zm tx Y js ts Γ K m:=e▸h
theorem Zbf {pin:Option V} {i:Nat} {xs:List α} {m1:M α} {m2:List α→M τ} (hi:Γ[i]? = some (.own (dList (d:=d)) (oList (d:=d)) pin xs)) (hj:i∈js) (h:We tx Y te Γ d m1) (h2:∀ ys,Zm tx Y js rest (Γ.set i (.own (dList (d:=d)) (oList (d:=d)) pin ys)) K (m2 ys)) :
  Zm tx Y js (tSeq (tDrop (tBM Y.K "list" rAppend (tVar i) (tCons te tNil))) rest) Γ K (M.push xs m1>>=m2):=fun nb xk =>
 ZdW (z_append hi (Zef (h (M.nb1 (M.nb1 nb)) fun x e=>xk.here x (by unfold M.push;rw [e];rfl)) fun y e=>by
  have nb1:(M.push xs m1).nb:=M.nb1 nb
  unfold M.push at nb1
  rw [e] at nb1
  have hl:=M.Zbv nb1
  exact ⟨hl,(h2 (xs++[y])).go nb xk (by rw [e];exact M.push_ok hl) (ZaL hj)⟩))
theorem zm_pushO {od : @OD α d} {pin:Option V} {i:Nat} {xs:List α} {m1:M α} {m2:List α→M τ} (hi:Γ[i]? = some (.own (dList (d:=d)) (Zea od) pin xs)) (hj:i∈js) (h:Oe tx Y te Γ od m1) (h2:∀ ys,Zm tx Y js rest (Γ.set i (.own (dList (d:=d)) (Zea od) pin ys)) K (m2 ys)) :
  Zm tx Y js (tSeq (tDrop (tBM Y.K "list" rAppend (tVar i) (tCons te tNil))) rest) Γ K (M.push xs m1>>=m2):=fun nb xk =>
 ZdW (z_appendO hi (o_mono (h (M.nb1 (M.nb1 nb)) fun x e=>xk.here x (by unfold M.push;rw [e];rfl)) fun y e=>by
  have nb1:(M.push xs m1).nb:=M.nb1 nb
  unfold M.push at nb1
  rw [e] at nb1
  have hl:=M.Zbv nb1
  exact ⟨hl,(h2 (xs++[y])).go nb xk (by rw [e];exact M.push_ok hl) (ZaL hj)⟩))
def M.setIx {α:Type} (xs:List α) (mi:M Int) (me:M α):M (List α):=me>>=fun y=>mi>>=fun n=>match ixN xs.length n with | some j=>.ok (xs.set j y) | none=>.bad
theorem zm_setIx {pin:Option V} {i:Nat} {xs:List α} {mi:M Int} {m1:M α} {m2:List α→M τ} (hi:Γ[i]? = some (.own (dList (d:=d)) (oList (d:=d)) pin xs)) (hj:i∈js) (h:We tx Y te Γ d m1) (hx:Re tx Y tb Γ dInt mi) (h2:∀ ys,Zm tx Y js rest (Γ.set i (.own (dList (d:=d)) (oList (d:=d)) pin ys)) K (m2 ys)) :
  Zm tx Y js (tSeq (tAsg te (gSub (tVar i) tb rSetL)) rest) Γ K (M.setIx xs mi m1>>=m2):=fun nb xk =>
 ZdW (z_setIx hi (h.k (M.nb1 nb) xk.l.here fun y e nb3 xk3=>hx.k nb3 xk3 fun n e2 nb4 _=>by
  cases q:ixN xs.length n with
  | none=>simp only [q] at nb4;exact absurd rfl nb4
  | some j=>exact ⟨j,rfl,(h2 (xs.set j y)).go nb xk (by unfold M.setIx;rw [e];show (mi>>=_)=_;rw [e2];show (match ixN xs.length n with | some j=>_ | none=>_)=_;rw [q]) (ZaL hj)⟩))
def M.aug (f:Int→Int→Int) (x:Int) (m:M Int):M Int:=m>>=fun y=>.ok (f x y)
theorem zm_aug {i:Nat} {f:Int→Int→Int} {x:Int} {m1:M Int} {m2:Int→M τ} (hi:Γ[i]? = some (.val dInt x)) (hj:i∈js) (h:Re tx Y te Γ dInt m1) (h2:∀ y,Zm tx Y js rest (Γ.set i (.val dInt y)) K (m2 y)) :
  Zm tx Y js (tSeq (tAug i te (ipI f)) rest) Γ K (M.aug f x m1>>=m2):=fun nb xk =>
 ZdW (z_aug hi (h.k (M.nb1 nb) xk.l.here fun y e _ _=>(h2 (f x y)).go nb xk (by unfold M.aug;rw [e];rfl) (ZaL hj)))
def M.popL {α:Type} (xs:List α):M (List α×α):=match xs.getLast? with | some y=>.ok (xs.dropLast,y) | none=>.bad
theorem zm_pop {pin:Option V} {i j:Nat} {xs:List α} {c0:Cell} {m2:List α×α→M τ} (hi:Γ[i]? = some (.own (dList (d:=d)) (oList (d:=d)) pin xs)) (hij:(i == j)=false) (hj' : Γ[j]? = some c0) (hj:i∈js) (hjj:j∈js) (h2:∀ p,Zm tx Y js rest ((Γ.set i (.own (dList (d:=d)) (oList (d:=d)) pin p.1)).set j (.val d p.2)) K (m2 p)) :
  Zm tx Y js (tSeq (tAsg (tBM0 Y.K "list" rPop (tVar i)) (gName j)) rest) Γ K (M.popL xs>>=m2):=fun nb xk=>by
 have nb1:(M.popL xs).nb:=M.nb1 nb
 cases q:xs.getLast? with
 | none=>unfold M.popL at nb1;rw [q] at nb1;exact absurd rfl nb1
 | some y =>
  have e:M.popL xs = .ok (xs.dropLast,y):=by unfold M.popL;rw [q]
  have ex:xs=xs.dropLast++[y]:=by
   obtain ⟨ys,rfl⟩:=List.getLast?_eq_some_iff.mp q
   simp
  have hne:i≠j:=by simpa using hij
  refine ZdW (z_pop (xs:=xs.dropLast) (y:=y) (c0:=c0) (by rw [← ex];exact hi) ?_ ((h2 (xs.dropLast,y)).go nb xk e ?_))
  ·rw [List.getElem?_set_ne hne];exact hj'
  ·rw [ZaL hjj,ZaL hj]
def M.dput {α:Type} (x:DI α) (mk:M Int) (mv:M α):M (DI α):=mv>>=fun y=>mk>>=fun n=>M.asrt (x.kv.length<PySem.sizeLine) (.ok ⟨putI x.kv n y⟩)
theorem ZbU {mb:M Bool} {m1 m2:M τ} (hb:Te tx Y t Γ mb) (h1:Zm tx Y js (tSeq t1 rest) Γ K m1) (h2:Zm tx Y js (tSeq t2 rest) Γ K m2):Zm tx Y js (tSeq (tIfS t t1 t2) rest) Γ K (mb>>=fun b=>if b then m1 else m2):=fun nb xk=>by
 have:Z Y (tIfS t (tSeq t1 rest) (tSeq t2 rest)) Γ (K.ks (mb>>=fun b=>if b then m1 else m2)):=z_if (t_mono (hb (M.nb1 nb) xk.l.here) fun b e=>⟨fun z=>by
  subst z
  exact Zm.go (f:=fun b=>if b=true then m1 else m2) (x:=true) h1 nb xk e rfl,fun z=>by
  subst z
  exact Zm.go (f:=fun b=>if b=true then m1 else m2) (x:=false) h2 nb xk e rfl⟩)
 intro e F σ H D hM s c
 have q:=this e F σ H D hM s c
 refine Eq.mp ?_ q
 unfold tIfS tSeq
 rfl
theorem ZaC {b:Bool} {m1 m2:M τ} (hb:Te tx Y t Γ (.ok b)) (h1:Zm tx Y js (tSeq t1 rest) Γ K m1) (h2:Zm tx Y js (tSeq t2 rest) Γ K m2):Zm tx Y js (tSeq (tIfS t t1 t2) rest) Γ K (if b then m1 else m2):=ZbU hb h1 h2
theorem Zav {cell:τ→Cell} {d:Dat τ} {m:M τ} (h:We tx Y te Γ d m) (hc:cell=fun r=>.val d r:=by rfl):Zm tx Y js (tSeq (tRet te) rest) Γ (KF cell) m:=fun nb xk=>by
 subst hc
 exact z_ret (te:=te) (k:=(KF fun r=>Cell.val d r).ks m) (Zef (h nb xk.here) fun x e=>⟨x,e,rfl⟩)
theorem zm_retO {cell:τ→Cell} {d:Dat τ} {od:OD τ} {m:M τ} (h:Oe tx Y te Γ od m) (hc:cell=fun r=>.own d od none r:=by rfl):Zm tx Y js (tSeq (tRet te) rest) Γ (KF cell) m:=fun nb xk=>by
 subst hc
 exact z_retO (te:=te) (k:=(KF fun r=>Cell.own d od none r).ks m) (o_mono (h nb xk.here) fun x e=>⟨x,e,rfl⟩)
theorem zm_retV {cell:τ→Cell} {d:Dat τ} {od:OD τ} {i:Nat} {x:τ} (hi:Γ[i]? = some (.own d od none x)) (hc:cell=fun r=>.own d od none r:=by rfl):Zm tx Y js (tSeq (tRet (tVar i)) rest) Γ (KF cell) (.ok x):=fun nb xk=>by
 subst hc
 exact z_retV (k:=(KF fun r=>Cell.own d od none r).ks (M.ok x)) hi ⟨x,rfl,rfl⟩
theorem zm_end {cell:Unit→Cell} (hc:cell=fun r=>.val dUnit r:=by rfl):Zm tx Y js tNext Γ (KF cell) (.ok ()):=fun nb xk=>by
 subst hc
 exact z_next (k:=(KF fun r=>Cell.val dUnit r).ks (M.ok ())) ⟨(),rfl,rfl⟩
variable {cells:σ→List Cell} {cell:ρ→Cell} {s:σ}
theorem Zci {d:Dat ρ} {m:M ρ} (h:We tx Y te Γ d m) (hc:cell=fun r=>.val d r:=by rfl):Zm tx Y js (tSeq (tRet te) rest) Γ (KC js' cells cell) (m>>=fun r=>.ok (.rt r)):=fun nb xk=>by
 subst hc
 exact z_ret (te:=te) (k:=(KC js' cells fun r=>Cell.val d r).ks (m>>=fun r=>.ok (.rt r))) (Zef (h (M.nb1 nb) xk.l.here) fun x e=>⟨.rt x,by rw [e];rfl,x,rfl,rfl⟩)
theorem ZbP (h:Zak Γ js'=cells s):Zm tx Y js tNext Γ (KL js' cells) (.ok s):=fun nb xk=>z_next (k:=(KL js' cells).ks (M.ok s)) ⟨s,rfl,h⟩
theorem ZbJ (h:Zak Γ js'=cells s):Zm tx Y js tNext Γ (KC js' cells cell) (.ok (.nx s)):=fun nb xk=>z_next (k:=(KC js' cells cell).ks (M.ok (.nx s))) ⟨.nx s,rfl,s,rfl,h⟩
def KJ {σ:Type} (js' : List Nat) (cells:σ→List Cell):Kt σ:=⟨fun s Γ=>Zak Γ js'=cells s,fun _ _ _=>False,fun _ _=>False,fun _ _=>False⟩
theorem ZaN (h:Zak Γ js'=cells s):Zm tx Y js tNext Γ (KJ js' cells) (.ok s):=fun nb xk=>z_next (k:=(KJ js' cells).ks (M.ok s)) ⟨s,rfl,h⟩
theorem ZcM (js' : List Nat) (cells:σ→List Cell) {m1:M σ} {m2:σ→M τ} (hw:∀ s,Zak (cells s) js=Zak Γ js) (h1:Zm tx Y js t1 Γ (KJ js' cells) m1) (h2:∀ s,Zm tx Y js rest (cells s) K (m2 s)):Zm tx Y js (tSeq t1 rest) Γ K (m1>>=m2):=fun nb xk =>
 ZdW (z_mono (h1 (M.nb1 nb) xk.l) (fun Γ' ⟨s,e,hs⟩=>z_wipe js' (by rw [show Zak Γ' js'=cells s from hs];exact (h2 s).go nb xk e (hw s))) (fun _ _ ⟨_,_,z⟩=>z.elim) (fun _ ⟨_,_,z⟩=>z.elim) fun Γ' ⟨s,e,z⟩=>z.elim)
theorem zm_for {ti:TI} (js' : List Nat) (cells:σ→List Cell) (s0:σ) {m0:M (List α)} {f:σ→α→M σ} {m2:σ→M τ} (hw0:Zak (Zak Γ js') js=Zak Γ js) (h0:Zak Γ js'=cells s0) (hw:∀ s,Zak (cells s) js=Zak Γ js) (h:Ie tx Y ti (cells s0) d m0)
  (hb:∀ s x,A Y g (cells s) d x fun Γ2=>Zak Γ2 js=Zak Γ js∧Zm tx Y js ts Γ2 (KL js' cells) (f s x)) (h2:∀ s,Zm tx Y js rest (cells s) K (m2 s)):Zm tx Y js (tSeq (tFor ti g ts) rest) Γ K (m0>>=fun xs=>M.fold f s0 xs>>=m2):=fun nb xk=>by
 refine z_wipe js' (by
  rw [h0]
  refine ZdW (h (M.nb1 nb) ((xk.w (hw s0)).l.here) g ts _ fun xs e=>?_)
  have nb1:(M.fold f s0 xs>>=m2).nb:=M.nb2 (f:=fun xs=>M.fold f s0 xs>>=m2) nb e
  have nb2:(M.fold f s0 xs).nb:=M.nb1 nb1
  refine ⟨fun i Γ'=>∃ s,M.fold f s0 (xs.take i) = .ok s∧Zak Γ' js'=cells s,⟨s0,rfl,?_⟩,fun i x Γ' hx ⟨s,es,hΓ⟩=>?_,fun Γ' ⟨s,es,hΓ⟩=>?_⟩
  ·rw [← h0]
   have:∀ js:List Nat,Zak (Zak Γ js) js=Zak Γ js:=by
    intro l
    suffices ∀ (l m:List Nat),(∀ j∈m,j∈l)→Zak (Zak Γ l) m=Zak Γ l from this l l fun _ h=>h
    intro l m hm
    induction m with
    | nil=>rfl
    | cons j m ih =>
     show (Zak (Zak Γ l) m).set j .no=_
     rw [ih fun k hk=>hm k (List.mem_cons_of_mem _ hk)]
     have:∀ l:List Nat,j∈l→(Zak Γ l).set j .no=Zak Γ l:=by
      intro l hl
      induction l with
      | nil=>exact nomatch hl
      | cons k l ih2 =>
       show ((Zak Γ l).set k .no).set j .no=(Zak Γ l).set k .no
       by_cases hk:j=k
       ·subst hk;exact List.set_set _
       ·rw [set_comm _ _ _ (fun z=>hk z.symm),ih2 ((List.mem_cons.mp hl).resolve_left hk)]
     exact this l (hm j List.mem_cons_self)
   exact this js'
  ·have htk:xs.take (i+1)=xs.take i++[x]:=by rw [List.take_add_one,show xs[i]? = some x from hx];rfl
   have hs1:M.fold f s0 (xs.take (i+1))=f s x:=by rw [htk,M.fold_app,es];show M.fold f s [x]=_;simp [M.fold]
   have hall:M.fold f s0 xs=(f s x>>=fun s'=>M.fold f s' (xs.drop (i+1))):=by
    have:xs=xs.take (i+1)++xs.drop (i+1):=(List.take_append_drop _ _).symm
    rw [this,M.fold_app,hs1,← this]
   have nb3:(f s x).nb:=fun z=>nb2 (by rw [hall,z];rfl)
   have xk3:∀ {Γ2:List Cell},Zak Γ2 js=Zak Γ js→Xk tx Y js Γ2 (f s x):=fun {Γ2} hΓ2 y ey Γ' e3=>xk y (by rw [e];show (M.fold f s0 xs>>=m2)=_;rw [hall,ey];rfl) Γ' (e3.trans hΓ2)
   refine fun e0 F σ0 H v st r Q q=>?_
   have st2:State Y e0 F σ0 H Γ':=st
   refine (show A Y g Γ' d x _ from ?_) e0 F σ0 H v st r Q q
   have hA:=hb s x
   rw [← hΓ] at hA
   have lift:∀ (js' : List Nat) (Γ' : List Cell) (k:List Cell→Prop),A Y g (Zak Γ' js') d x k→A Y g Γ' d x k:=by
    intro l
    induction l with
    | nil=>intro _ _ h;exact h
    | cons j l ih =>
     intro Γ' k h
     refine ih Γ' k ?_
     unfold Zak at h
     cases q:(Zak Γ' l)[j]? with
     | some c=>exact fun e F σ H v s r Q q'=>h e F σ H v (s.hide q) r Q q'
     | none =>
      rw [List.set_eq_of_length_le (List.getElem?_eq_none_iff.mp q)] at h
      exact h
   refine lift js' Γ' _ (a_mono hA fun Γ2 ⟨hΓ2,hz⟩=>?_)
   exact z_mono (hz nb3 (xk3 hΓ2)) (fun Γ3 ⟨s',e',h'⟩=>⟨s',by rw [hs1];exact e',h'⟩) (fun _ _ ⟨_,_,z⟩=>z.elim) (fun _ ⟨_,_,z⟩=>z.elim) fun Γ3 ⟨s',e',h'⟩=>⟨s',by rw [hs1];exact e',h'⟩
  ·rw [List.take_length] at es
   refine z_wipe js' ?_
   rw [hΓ]
   have hz:=Zm.go (f:=m2) (x:=s) (m1:=M.fold f s0 xs) (Γ:=Γ) (h2 s) nb1 (Xk.r (f:=fun xs=>M.fold f s0 xs>>=m2) xk e rfl) es (hw s)
   rw [e]
   exact hz)
theorem wipeC_idem (Γ:List Cell) (js:List Nat):Zak (Zak Γ js) js=Zak Γ js:=by
 suffices ∀ (l m:List Nat),(∀ j∈m,j∈l)→Zak (Zak Γ l) m=Zak Γ l from this js js fun _ h=>h
 intro l m hm
 induction m with
 | nil=>rfl
 | cons j m ih =>
  show (Zak (Zak Γ l) m).set j .no=_
  rw [ih fun k hk=>hm k (List.mem_cons_of_mem _ hk)]
  have:∀ l:List Nat,j∈l→(Zak Γ l).set j .no=Zak Γ l:=by
   intro l hl
   induction l with
   | nil=>exact nomatch hl
   | cons k l ih2 =>
    show ((Zak Γ l).set k .no).set j .no=(Zak Γ l).set k .no
    by_cases hk:j=k
    ·subst hk;exact List.set_set _
    ·rw [set_comm _ _ _ (fun z=>hk z.symm),ih2 ((List.mem_cons.mp hl).resolve_left hk)]
  exact this l (hm j List.mem_cons_self)
theorem a_wipe {x:α}:∀ (js' : List Nat) {Γ' : List Cell} {k:List Cell→Prop},A Y g (Zak Γ' js') d x k→A Y g Γ' d x k
 | [],_,_,h=>h
 | j::l,Γ',k,h=>by
  refine a_wipe l ?_
  unfold Zak at h
  cases q:(Zak Γ' l)[j]? with
  | some c=>exact fun e F σ H v s r Q q'=>h e F σ H v (s.hide q) r Q q'
  | none =>
   rw [List.set_eq_of_length_le (List.getElem?_eq_none_iff.mp q)] at h
   exact h
theorem t_wipe {k:Bool→Prop}:∀ (js' : List Nat) {Γ' : List Cell},T Y t (Zak Γ' js') k→T Y t Γ' k
 | [],_,h=>h
 | j::l,Γ',h=>by
  refine t_wipe l ?_
  unfold Zak at h
  cases q:(Zak Γ' l)[j]? with
  | some c=>exact fun e F σ H s Q q'=>h e F σ H (s.hide q) Q q'
  | none =>
   rw [List.set_eq_of_length_le (List.getElem?_eq_none_iff.mp q)] at h
   exact h
theorem zm_forC {ti:TI} (js' : List Nat) (cells:σ→List Cell) (cell:ρ→Cell) (s0:σ) {m0:M (List α)} {f:σ→α→M (Ct σ ρ)} {mr:ρ→M τ} {m2:σ→M τ} (hw0:Zak (Zak Γ js') js=Zak Γ js) (h0:Zak Γ js'=cells s0) (hw:∀ s,Zak (cells s) js=Zak Γ js) (h:Ie tx Y ti (cells s0) d m0)
  (hb:∀ s x,A Y g (cells s) d x fun Γ2=>Zak Γ2 js=Zak Γ js∧Zm tx Y js ts Γ2 (KC js' cells cell) (f s x)) (hr:∀ r Γ',∃ t,mr r = .ok t∧K.rt t (cell r) Γ') (h2:∀ s,Zm tx Y js rest (cells s) K (m2 s)):Zm tx Y js (tSeq (tFor ti g ts) rest) Γ K (m0>>=fun xs=>M.ZbA f s0 xs>>=fun c=>c.go mr m2):=fun nb xk=>by
 refine z_wipe js' (by
  rw [h0]
  refine ZdW (h (M.nb1 nb) ((xk.w (hw s0)).l.here) g ts _ fun xs e=>?_)
  have nb1:(M.ZbA f s0 xs>>=fun c=>c.go mr m2).nb:=M.nb2 (f:=fun xs=>M.ZbA f s0 xs>>=fun c=>c.go mr m2) nb e
  have nb2:(M.ZbA f s0 xs).nb:=M.nb1 nb1
  have fin:∀ (s:σ) (c:Ct σ ρ) (Γ' : List Cell),M.ZbA f s0 xs = .ok c→(c = .nx s∨c = .bk s)→Zak Γ' js'=cells s→Z Y rest Γ' (K.ks (m0>>=fun xs=>M.ZbA f s0 xs>>=fun c=>c.go mr m2)):=fun s c Γ' es hc hΓ=>by
   refine z_wipe js' ?_
   rw [hΓ]
   have hg:c.go mr m2=m2 s:=by rcases hc with z | z<;>(subst z;rfl)
   have hz:=Zm.go (f:=fun c:Ct σ ρ=>c.go mr m2) (x:=c) (show Zm tx Y js rest (cells s) K (c.go mr m2) from by rw [hg];exact h2 s) (m1:=M.ZbA f s0 xs) (Γ:=Γ) nb1 (Xk.r (f:=fun xs=>M.ZbA f s0 xs>>=fun c=>c.go mr m2) xk e rfl) es (hw s)
   rw [e]
   exact hz
  refine ⟨fun i Γ'=>∃ s,M.ZbA f s0 (xs.take i) = .ok (.nx s)∧Zak Γ' js'=cells s,⟨s0,rfl,by rw [← h0];exact wipeC_idem Γ js'⟩,fun i x Γ' hx ⟨s,es,hΓ⟩=>?_,fun Γ' ⟨s,es,hΓ⟩=>?_⟩
  ·have htk:xs.take (i+1)=xs.take i++[x]:=by rw [List.take_add_one,show xs[i]? = some x from hx];rfl
   have hs1:M.ZbA f s0 (xs.take (i+1))=f s x:=by
    rw [htk,M.foldC_app,es];show M.ZbA f s [x]=_
    simp only [M.ZbA]
    cases f s x with
    | bad=>rfl
    | exc x=>rfl
    | ok c=>cases c<;>rfl
   have hall:M.ZbA f s0 xs=(f s x>>=fun c=>match c with | .nx s'=>M.ZbA f s' (xs.drop (i+1)) | c=>.ok c):=by
    have:xs=xs.take (i+1)++xs.drop (i+1):=(List.take_append_drop _ _).symm
    rw [this,M.foldC_app,hs1,← this]
    all_goals (cases f s x with
    | bad=>rfl
    | exc x=>rfl
    | ok c=>cases c<;>rfl)
   have nb3:(f s x).nb:=fun z=>nb2 (by rw [hall,z];rfl)
   have xk3:∀ {Γ2:List Cell},Zak Γ2 js=Zak Γ js→Xk tx Y js Γ2 (f s x):=fun {Γ2} hΓ2 y ey Γ' e3=>xk y (by rw [e];show (M.ZbA f s0 xs>>=_)=_;rw [hall,ey];rfl) Γ' (e3.trans hΓ2)
   have hA:=hb s x
   rw [← hΓ] at hA
   refine a_wipe js' (a_mono hA fun Γ2 ⟨hΓ2,hz⟩=>?_)
   refine z_mono (hz nb3 (xk3 hΓ2)) (fun Γ3 ⟨c,e',s',ec,h'⟩=>⟨s',by rw [hs1,e',ec],h'⟩) (fun c Γ3 ⟨t,e',r,er,hc⟩=>?_) (fun Γ3 ⟨c,e',s',ec,h'⟩=>?_) fun Γ3 ⟨c,e',s',ec,h'⟩=>⟨s',by rw [hs1,e',ec],h'⟩
   ·subst er hc
    obtain ⟨t2,e2,hk⟩:=hr r Γ3
    exact ⟨t2,by rw [e];show (M.ZbA f s0 xs>>=_)=_;rw [hall,e'];exact e2,hk⟩
   ·subst ec
    exact fin s' (.bk s') Γ3 (by rw [hall,e'];rfl) (.inr rfl) h'
  ·rw [List.take_length] at es
   exact fin s (.nx s) Γ' es (.inl rfl) hΓ)
theorem zm_while (js' : List Nat) (cells:σ→List Cell) (s0:σ) {c:σ→M Bool} {f:σ→M σ} {m2:σ→M τ} (h0:Zak Γ js'=cells s0) (hw:∀ s,Zak (cells s) js=Zak Γ js)
  (hc:∀ s,Te tx Y t (cells s) (c s)) (hb:∀ s,Zm tx Y js ts (cells s) (KL js' cells) (f s)) (h2:∀ s,Zm tx Y js rest (cells s) K (m2 s)):Zm tx Y js (tSeq (tWhile t ts) rest) Γ K (M.loop c f s0>>=m2):=fun nb xk=>by
 obtain ⟨n,hn,hl⟩:=M.loop_nb (M.nb1 nb)
 refine z_wipe js' ?_
 rw [h0]
 refine ZdW (z_while (fun m Γ'=>∃ s,Zak Γ' js'=cells s∧M.Zdh c f m s=M.loop c f s0∧M.Zdh c f m s ≠ .bad) ⟨n,s0,by rw [← h0];exact wipeC_idem Γ js',hl.symm,hn⟩ fun m Γ' ⟨s,hΓ,hm,hnb⟩=>?_)
 cases m with
 | zero=>exact absurd rfl hnb
 | succ m =>
  unfold M.Zdh at hm hnb
  have nbc:(c s).nb:=fun z=>hnb (by rw [z];rfl)
  have xkc:XkM tx Y (cells s) (c s):=fun y ey=>(xk.w (hw s)).here y (by rw [← hm,ey];rfl)
  refine t_wipe js' ?_
  rw [hΓ]
  refine t_mono (hc s nbc xkc) fun b eb=>⟨fun z=>?_,fun z=>?_⟩
  ·subst z
   rw [eb] at hm hnb
   simp only [M.Zab,if_true] at hm hnb
   refine z_wipe js' ?_
   rw [hΓ]
   have nbf:(f s).nb:=fun z=>hnb (by rw [z];rfl)
   have fin:∀ (s' : σ) (Γ3:List Cell),f s = .ok s'→Zak Γ3 js'=cells s' → ∃ m',m'<m+1 ∧ ∃ s,Zak Γ3 js'=cells s∧M.Zdh c f m' s=M.loop c f s0∧M.Zdh c f m' s ≠ .bad:=fun s' Γ3 e' h'=>by
    rw [e'] at hm hnb
    exact ⟨m,Nat.lt_succ_self m,s',h',hm,hnb⟩
   exact z_mono (hb s nbf fun y ey Γ2 e3=>xk y (by rw [← hm,ey];rfl) Γ2 (e3.trans (hw s))) (fun Γ3 ⟨s',e',h'⟩=>fin s' Γ3 e' h') (fun _ _ ⟨_,_,z⟩=>z.elim) (fun _ ⟨_,_,z⟩=>z.elim) fun Γ3 ⟨s',e',h'⟩=>fin s' Γ3 e' h'
  ·subst z
   rw [eb] at hm
   refine z_wipe js' ?_
   rw [hΓ]
   exact (h2 s).go nb xk (by rw [← hm];rfl) (hw s)
theorem rt_KF {cell:τ→Cell}:∀ (r:τ) (Γ' : List Cell),∃ t,(M.ok r:M τ) = .ok t∧(KF cell).rt t (cell r) Γ':=fun r _=>⟨r,rfl,rfl⟩
theorem Zm.body {C:GCtx} {N:List Str} {cell:τ→Cell} {m:M τ} {vs:List V} {H:Hp} {Q:VK} {E:XK} (nb:m.nb) (h:FnX C Γ (fun c=>∃ r,c=cell r∧m = .ok r) (fun x=>∃ px,m = .exc px∧x=px.x tx) vs H Q E)
  (hz:Zm tx ⟨C,fun _=>E,fun x _=>∃ px,m = .exc px∧x=px.x tx⟩ js ts (Γ++List.replicate (N.length-Γ.length) .no) (KF cell) m):ts { nx:=fun _ H'=>Q .non H',rt:=Q } (L2.start N vs) H :=
 h.body (z_mono (hz nb fun x e Γ' _=>⟨x,e,rfl⟩) (fun Γ' ⟨t,e,q⟩=>⟨t,q,e⟩) (fun c Γ' ⟨t,e,q⟩=>⟨t,q,e⟩) (fun _ ⟨_,_,z⟩=>z) fun _ ⟨_,_,z⟩=>z)
theorem Zm.body0 {C:GCtx} {N:List Str} {cell:τ→Cell} {m:M τ} {x:τ} {vs:List V} {H:Hp} {Q:VK} (e:m = .ok x) (h:Fn C Γ (fun c=>c=cell x) vs H Q)
  (hz:Zm tx (calm C) js ts (Γ++List.replicate (N.length-Γ.length) .no) (KF cell) m):ts { nx:=fun _ H'=>Q .non H',rt:=Q } (L2.start N vs) H:=by
 subst e
 exact h.body (z_mono (hz (fun z=>nomatch z) fun x e=>nomatch e) (fun Γ' ⟨t,e,q⟩=>by cases e;exact q) (fun c Γ' ⟨t,e,q⟩=>by cases e;exact q) (fun _ ⟨_,_,z⟩=>z) fun _ ⟨_,_,z⟩=>z)
end
end G
end
noncomputable section
namespace G
open PySem PySem.Spec PyProof.Rows L2 PySem.W
def XC.isA (c k:XC):Bool:=decide (k = .ComesapartError)||decide (c=k)
def M.raise1 {α:Type} (c:XC) (f:Str) (m:M Int):M α:=m>>=fun n=>.exc ⟨c,some [(f,.int n)]⟩
def M.tryK {α:Type} (kn p:XC→Bool) (m:M α) (h:PX→M α):M α:=match m with | .exc x=>if kn x.cls then (if p x.cls then h x else .exc x) else .bad | m=>m
def PX.fld (x:PX) (c:XC) (f:Str):M Int:=if x.cls=c then (match x.fs with | some fs=>(match fs.lookup f with | some (.int n)=>.ok n | _=>.bad) | none=>.bad) else .bad
section
variable {tx:XC→Addr} {Y:YC} {Γ:List Cell} {te ta tb tc td tl t1 t2:TE} {α β γ τ:Type} {d:Dat α} {d1:Dat α} {d2:Dat β} {ts rest:TS} {js:List Nat} {K:Kt τ} {Cx:Addr} {f1 f2:Str} {Wt:WX}
theorem zm_raise1 {c:XC} {m:M Int} (hE:Y.E=WE Wt) (hc:tx c=Cx) (h:Re tx Y te Γ dInt m):Zm tx Y js (tSeq (fun _ σ H=>tMkO Cx (spX1 Cx f1) [] (tCons te tNil) σ H fun cls d H'=>Wt cls d σ H') rest) Γ K (M.raise1 c f1 m):=fun nb xk=>by
 subst hc
 exact z_raise1 (k:=K.ks (M.raise1 c f1 m)) hE (r_mono (h (M.nb1 nb) xk.l.here) fun n e=>xk ⟨c,some [(f1,.int n)]⟩ (by unfold M.raise1;rw [e];rfl) Γ rfl)
theorem z_wipeSet {k:Ks} {i:Nat} {c:Cell}:∀ (js:List Nat) {Γ:List Cell},Z Y ts ((Zak Γ js).set i c) k→Z Y ts (Γ.set i c) k
 | [],_,h=>h
 | j::js,Γ,h=>by
  refine z_wipeSet js ?_
  unfold Zak at h
  by_cases hj:j=i
  ·subst hj
   rw [List.set_set] at h
   exact h
  ·rw [set_comm _ _ _ hj] at h
   exact z_wipe [j] h
theorem zm_try {ρ:Type} {cell:ρ→Cell} (jt:List Nat) {tb:WX→TS} {tsu:Addr→Value→Option Addr→TS} {i:Nat} {cv:Value} {Wout:WX} {kn p:XC→Bool} {m:M ρ} {h:PX→M ρ} (hE:Y.E=WE Wout) (hi:∃ c0,Γ[i]? = some c0) (hj:∀ j∈jt,j∈js) (hij:i∈js)
  (hex:∀ c,kn c=true→exmOne Y.K (.ref (tx c)) cv=some (p c))
  (hb:∀ (W:WX) (kb:Exn→List Cell→Prop),Zm tx ⟨Y.g,WE W,kb⟩ jt (tb W) Γ (KF cell) m)
  (hs:∀ px a d,kn px.cls=true→p px.cls=true→Zm tx Y js (tsu a (.ref (tx px.cls)) d) ((Zak Γ jt).set i (.val (dExn a d) (px.x tx))) (KF cell) (h px)) :
  Zm tx Y js (tSeq (fun D σ H=>tb (wAs Y.K cv i tsu Wout D) D σ H) tNext) Γ (KF cell) (M.tryK kn p m h):=fun nb xk=>by
 have wj:∀ {Γ' : List Cell},Zak Γ' jt=Zak Γ jt→Zak Γ' js=Zak Γ js:=by
  intro Γ' e
  have key:∀ (G:List Cell) (l:List Nat),(∀ j∈l,j∈js)→Zak (Zak G l) js=Zak G js:=by
   intro G l
   induction l with
   | nil=>intro _;rfl
   | cons j l ih=>intro hl;show Zak ((Zak G l).set j .no) js=_;rw [ZaL (hl j List.mem_cons_self)];exact ih fun k hk=>hl k (List.mem_cons_of_mem _ hk)
  rw [← key Γ' jt hj,e,key Γ jt hj]
 have nbm:m.nb:=fun z=>nb (by unfold M.tryK;rw [z])
 have hz:Z Y (fun D σ H=>tb (wAs Y.K cv i tsu Wout D) D σ H) Γ ((KF cell).ks (M.tryK kn p m h)):=by
  refine z_tryAs (fun x Γ'=>∃ px,m = .exc px∧x=px.x tx∧Zak Γ' jt=Zak Γ jt) hE (fun W=>?_) fun x Γ' ⟨px,em,ex,hΓ⟩=>?_
  ·refine z_mono (hb W _ nbm fun x e Γ' hΓ=>⟨x,e,rfl,hΓ⟩) (fun Γ' ⟨t,e,q⟩=>⟨t,by unfold M.tryK;rw [e],q⟩) (fun c Γ' ⟨t,e,q⟩=>⟨t,by unfold M.tryK;rw [e],q⟩) (fun _ ⟨_,_,z⟩=>z.elim) fun _ ⟨_,_,z⟩=>z.elim
  ·subst ex
   have hkn:kn px.cls=true:=by
    cases hk:kn px.cls with
    | true=>rfl
    | false=>exact absurd (by unfold M.tryK;rw [em];show (if kn px.cls=true then _ else _)=_;rw [hk];rfl) nb
   refine ⟨p px.cls,hex _ hkn,fun hp=>⟨?_,fun a d=>?_⟩,fun hp=>?_⟩
   ·obtain ⟨c0,hc0⟩:=hi
    have hl:i<Γ'.length:=by
     have e1:Γ'.length=Γ.length:=by rw [← Zed Γ' jt,hΓ,Zed]
     rw [e1];exact (List.getElem?_eq_some_iff.mp hc0).1
    exact ⟨_,List.getElem?_eq_getElem hl⟩
   ·have et:M.tryK kn p m h=h px:=by unfold M.tryK;rw [em];show (if kn px.cls=true then (if p px.cls=true then _ else _) else _)=_;rw [hkn,hp];rfl
    refine z_wipeSet jt ?_
    rw [hΓ]
    have hw2:Zak ((Zak Γ jt).set i (.val (dExn a d) (px.x tx))) js=Zak Γ js:=by
     rw [ZaL hij];exact wj (wipeC_idem Γ jt)
    have q:=hs px a d hkn hp (by rw [← et];exact nb) (fun y ey Γ2 e2=>xk y (by rw [et];exact ey) Γ2 (e2.trans hw2))
    refine z_mono q (fun Γ2 ⟨t,e,q⟩=>⟨t,by rw [et];exact e,q⟩) (fun c Γ2 ⟨t,e,q⟩=>⟨t,by rw [et];exact e,q⟩) (fun _ ⟨_,_,z⟩=>z.elim) fun _ ⟨_,_,z⟩=>z.elim
   ·exact xk px (by unfold M.tryK;rw [em];show (if kn px.cls=true then (if p px.cls=true then _ else _) else _)=_;rw [hkn,hp];rfl) Γ' (wj hΓ)
 exact hz
theorem we_isX {a:Addr} {dd:Option Addr} {px:PX} {i:Nat} {c:V} {cv:Value} {kn:XC→Bool} {b:XC→Bool} (hi:Γ[i]? = some (.val (dExn a dd) (px.x tx))) (hkn:kn px.cls=true) (C:∀ c,kn c=true→ExcC Y.K (tx c)) (hv:∀ u,RelV c u→u=cv) (hk:∀ c,kn c=true→kitOne Y.K (.ref (tx c)) cv=some (b c)) :
  We tx Y (tCB (rIsX Y.K a (.ref (tx px.cls)) dd) (tCons (tVar i) (tCons (tC c) tNil))) Γ dBool (.ok (b px.cls)):=fun nb xk=>w_isX (x:=px.x tx) hi rfl (C px.cls hkn) hv (hk px.cls hkn) rfl
theorem we_xf {a:Addr} {dd:Option Addr} {px:PX} {i:Nat} {c:XC} {f:Str} (hi:Γ[i]? = some (.val (dExn a dd) (px.x tx))) (hc:tx c=Cx):We tx Y (tXf a (.ref (tx px.cls)) dd Cx f (tVar i)) Γ dInt (px.fld c f):=fun nb xk=>by
 subst hc
 unfold PX.fld at nb ⊢
 split at nb
 ·next hcls =>
  cases hfs:px.fs with
  | none=>rw [hfs] at nb;exact absurd rfl nb
  | some fs =>
   rw [hfs] at nb
   cases hl:fs.lookup f with
   | none=>simp only [hl] at nb;exact absurd rfl nb
   | some v =>
    cases v with
    | int n =>
     rw [if_pos hcls]
     exact w_xf (x:=px.x tx) (n:=n) (fs:=fs) hi rfl (by show tx px.cls=_;rw [hcls]) hfs hl (by simp only [hl])
    | _=>simp only [hl] at nb;exact absurd rfl nb
 ·exact absurd rfl nb
end
end G
end
noncomputable section
namespace G
open PySem PySem.Spec PyProof.Rows L2 PySem.W
theorem kitCls_ref {K:Frag} {t:Value} {C:Addr} {cd:ClassData} {b:Bool} (h1:clsIn K C=some cd) (h2:typeIn K (.ref C)=some (.type "type")) (h3:subIn K t (.ref C)=some b):kitCls K t (.ref C)=some b:=by
 show (if ((clsIn K C).isSome&&typeIn K (.ref C) == some (.type "type"))=true then subIn K t (.ref C) else none)=_
 rw [h1,h2,h3]
 exact if_pos (by simp)
theorem Zew {K:Frag} {t:Value} {C:Addr} {cd:ClassData} (h1:clsIn K C=some cd) (h2:typeIn K (.ref C)=some (.type "type")) (h3:subIn K t (.ref C)=some true):kitOne K t (.ref C)=some true:=by
 unfold kitOne
 rw [kitCls_ref h1 h2 h3]
 split<;>rfl
theorem Zan {K:Frag} {D C:Addr} {cd:ClassData} (hne:D≠C) (h1:clsIn K C=some cd) (h2:typeIn K (.ref C)=some (.type "type")) (h3:subIn K (.ref D) (.ref C)=some false):kitOne K (.ref D) (.ref C)=some false:=by
 unfold kitOne
 rw [kitCls_ref h1 h2 h3]
 exact if_neg (fun z=>hne (Value.ref.inj (beq_iff_eq.mp z)))
theorem exm_ref {K:Frag} {t:Value} {C:Addr} {cd:ClassData} {b:Bool} (h0:subIn K (.ref C) (.type "BaseException")=some true) (h1:clsIn K C=some cd) (h2:typeIn K (.ref C)=some (.type "type")) (h3:subIn K t (.ref C)=some b):exmOne K t (.ref C)=some b:=by
 unfold exmOne
 rw [h0,kitCls_ref h1 h2 h3]
 rfl
theorem kit_VE {K:Frag} {D:Addr} (h:subIn K (.ref D) (.type "ValueError")=some true):kitOne K (.ref D) (.type "ValueError")=some true:=by
 unfold kitOne kitCls
 rw [if_neg (by simp)]
 show (if kitMeta "ValueError" = true then subIn K (.ref D) (.type "ValueError") else none)=_
 rw [if_pos (by decide +kernel),h]
inductive OC where
 | Web | PairedWeb | Wiring | Sum | Kind | Desk | Likeness | Batch
 deriving DecidableEq
structure CA3 where
 tx:XC→Addr
 ob:OC→Addr
abbrev T4I:=T4 Int Int Int Int
abbrev WebM:=Ob2 (Tup Int) (Tup (T4 Int Int Int Int))
abbrev PairedWebM:=Ob2 Int (Tup (Int×Int))
abbrev LikenessM:=Ob2 Int (Tup (Int×Int))
abbrev SumM:=Ob1 (Tup (Int×Tup Int))
section
variable (A:CA3)
@[reducible] def dWeb:Dat WebM:=dOb2 (d1:=(dTup (d:=dInt))) (d2:=(dTup (d:=(dT4 (d1:=dInt) (d2:=dInt) (d3:=dInt) (d4:=dInt))))) (A.ob .Web) "sides" "ties"
@[reducible] def oWeb : @OD WebM (dWeb A):=oOb2 (d1:=(dTup (d:=dInt))) (d2:=(dTup (d:=(dT4 (d1:=dInt) (d2:=dInt) (d3:=dInt) (d4:=dInt))))) (A.ob .Web) "sides" "ties"
@[reducible] def dPairedWeb:Dat PairedWebM:=dOb2 (d1:=dInt) (d2:=(dTup (d:=(dPair (d1:=dInt) (d2:=dInt))))) (A.ob .PairedWeb) "pairs" "free"
@[reducible] def oPairedWeb : @OD PairedWebM (dPairedWeb A):=oOb2 (d1:=dInt) (d2:=(dTup (d:=(dPair (d1:=dInt) (d2:=dInt))))) (A.ob .PairedWeb) "pairs" "free"
@[reducible] def dLikeness:Dat LikenessM:=dOb2 (d1:=dInt) (d2:=(dTup (d:=(dPair (d1:=dInt) (d2:=dInt))))) (A.ob .Likeness) "size" "_like"
@[reducible] def oLikeness : @OD LikenessM (dLikeness A):=oOb2 (d1:=dInt) (d2:=(dTup (d:=(dPair (d1:=dInt) (d2:=dInt))))) (A.ob .Likeness) "size" "_like"
@[reducible] def dSum:Dat SumM:=dOb1 (d1:=(dTup (d:=(dPair (d1:=dInt) (d2:=(dTup (d:=dInt))))))) (A.ob .Sum) "_rows"
@[reducible] def oSum : @OD SumM (dSum A):=oOb1 (d1:=(dTup (d:=(dPair (d1:=dInt) (d2:=(dTup (d:=dInt))))))) (A.ob .Sum) "_rows"
end
section
variable {tx:XC→Addr} {Y:YC} {Γ:List Cell} {te ta tb tc td tl t1 t2:TE} {α β γ δ τ:Type} {d:Dat α} {d1:Dat α} {d2:Dat β} {d3:Dat γ} {d4:Dat δ}
theorem we_modC {m:M Int} {j:Int} (h:Re tx Y ta Γ dInt m) (h2:Re tx Y tb Γ dInt (.ok j)) (hj:0<j:=by decide):We tx Y (tOp (rI (fun _ j=>0<j) fun i j=>.int (i%j)) ta tb) Γ dInt (m>>=fun x=>.ok (x%j)):=Zae (we_mod h h2) (by cases m<;>first | rfl | exact M.Zah hj)
theorem we_fdivC {m:M Int} {j:Int} (h:Re tx Y ta Γ dInt m) (h2:Re tx Y tb Γ dInt (.ok j)) (hj:CDiv 0 j:=by decide):We tx Y (tOp (rI CDiv fun i j=>.int (i/j)) ta tb) Γ dInt (m>>=fun x=>.ok (x/j)):=Zae (we_fdiv h h2) (by cases m<;>first | rfl | exact M.Zah hj)
theorem we_mulCr {m:M Int} {j:Int} (h:Re tx Y ta Γ dInt m) (h2:Re tx Y tb Γ dInt (.ok j)) (hj : -(2 ^ 64)<j∧j<2 ^ 64:=by decide):We tx Y (tOp (rI CMul fun i j=>.int (i*j)) ta tb) Γ dInt (m>>=fun x=>.ok (x*j)):=Zae (we_mul h h2) (by cases m<;>first | rfl | exact M.Zah (.inr hj))
theorem ZdH {m:M Int} {j:Int} (h:Re tx Y ta Γ dInt (.ok j)) (h2:Re tx Y tb Γ dInt m) (hj : -(2 ^ 64)<j∧j<2 ^ 64:=by decide):We tx Y (tOp (rI CMul fun i j=>.int (i*j)) ta tb) Γ dInt (m>>=fun x=>.ok (j*x)):=Zae (we_mul h h2) (by cases m<;>first | rfl | exact M.Zah (.inl hj))
def M.cat {α:Type} (xs ys:List α):M (List α):=M.asrt (xs.length+ys.length≤PySem.sizeLine) (.ok (xs++ys))
end
end G
namespace L2
open PySem PySem.Spec PyProof.Rows
section
variable {X:Cx} (K:PySem.W.Frag)
theorem pg_tupK {es:List Expr} {k n:Nat} {t:TGs} {pos:Pos} (hc:X.calm=true) (h:PGs X es t) (hn:(assignEach es X.env).length=n:=by rfl) (hst:(assignEach es X.env).findIdx? (·.1)=none:=by rfl) (hK:X.K=K:=by rfl):PG X (.Tuple es k pos) (gTup K n t):=hK▸pg_tup hc h hn hst
end
def tTry (K:PySem.W.Frag) (c:Value) (i:Nat) (tb:WX→TS) (ts:Addr→Value→Option Addr→TS) (Wout:WX):TS:=fun D σ H=>tb (wAs K c i ts Wout D) D σ H
section
variable {X:Cx} {x n:Str} {c:Value} {i:Nat} {body suite:List Stmt} {b₀:Stmt} {np pos pos' : Pos} {tb:WX→TS} {ts:Addr→Value→Option Addr→TS} {Wout:WX}
theorem try_as (K:PySem.W.Frag) (hs:X.stack=X.env::X.outer) (hf:X.env.frame=some X.env.locals) (hN:X.N.Nodup) (hi:X.N[i]? = some n) (hln:X.env.kindOf n=some .local) (hc:Names X x c) (tk:Takes X Wout)
  (hb:∀ (W:WX) (pn:List (Addr×Obj)) (xe:Value→Shared→Prop),Takes (X.tr pn xe) W→PassesOwn (model X.prog X.w) X.A X.env xe→PSs (X.tr pn xe) body (tb W))
  (hsu:∀ (a:Addr) (oe:Obj) (cls:Value) (d:Option Addr) (pn:List (Addr×Obj)),Zc cls d oe→(∃ vs,oe.data = .fields vs)→PSs (X.suite a ((a,oe)::pn)) (b₀::suite) (ts a cls d)) (hK:X.K=K:=by rfl) :
  PS X (.Try body [.ExceptHandler (some (.Name x np)) (some n) (b₀::suite) pos'] [] [] pos) (tTry K c i tb ts Wout):=hK▸ps_try_as hs hf hN hi hln hc tk hb hsu
end
end L2
namespace G
open PySem PySem.Spec PyProof.Rows L2 PySem.W
theorem zm_tryT {tx:XC→Addr} {Y:YC} {Γ:List Cell} {js:List Nat} {ρ:Type} {cell:ρ→Cell} (jt:List Nat) {tb:WX→TS} {tsu:Addr→Value→Option Addr→TS} {i:Nat} {cv:Value} {Wout:WX} {kn p:XC→Bool} {m:M ρ} {h:PX→M ρ} (hE:Y.E=WE Wout) (hi:∃ c0,Γ[i]? = some c0) (hj:∀ j∈jt,j∈js) (hij:i∈js)
  (hex:∀ c,kn c=true→exmOne Y.K (.ref (tx c)) cv=some (p c))
  (hb:∀ (W:WX) (kb:Exn→List Cell→Prop),Zm tx ⟨Y.g,WE W,kb⟩ jt (tb W) Γ (KF cell) m)
  (hs:∀ px a d,kn px.cls=true→p px.cls=true→Zm tx Y js (tsu a (.ref (tx px.cls)) d) ((Zak Γ jt).set i (.val (dExn a d) (px.x tx))) (KF cell) (h px)) :
  Zm tx Y js (tSeq (tTry Y.K cv i tb tsu Wout) tNext) Γ (KF cell) (M.tryK kn p m h):=zm_try jt hE hi hj hij hex hb hs
end G
end
noncomputable section
namespace L2
open PySem PySem.Spec PyProof.Rows
section
variable {X:Cx}
def rCatR:R2:=fun x y H Q=>∃ l b xs zs,x = .ref l∧y = .ref b∧Rd H l (.lst xs)∧Rd H b (.lst zs)∧xs.length+zs.length≤sizeLine ∧ ∀ p,H p=none→Q (.ref p) (upd H p (.lst (xs++zs)))
theorem ZcS:OpR X (binaryOp .Add) rCatR:=by
 intro pins s σ H x y v u Q I rx ry h
 obtain ⟨l,b,xs,zs,rfl,rfl,hH,hB,hz,q⟩:=h
 cases rx
 cases ry
 obtain ⟨z,its,n,r,e⟩:=hH.ok I.hok
 obtain ⟨z2,its2,n2,r2,e2⟩:=hB.ok I.hok
 have hl:=r.length
 have hl2:=r2.length
 refine PySem.P.add_list e e2 ?_ (by rw [List.size_toArray,List.size_toArray];omega)
 have ea:its.toArray++its2.toArray=(its++its2).toArray:=by simp
 rw [ea]
 exact ⟨.ref _,_,I.lnew (t':=s.toks) (r.append r2) (by rw [List.length_append];omega),rfl,q _ I.fresh⟩
end
end L2
namespace G
open PySem PySem.Spec PyProof.Rows L2 PySem.W
theorem Reps.rep {α:Type} {d:Dat α} {C:GCtx} {F:Hp} {vs:List V} {xs:List α} (r:Reps d C F vs xs):∀ n,Reps d C F (List.replicate n vs).flatten (List.replicate n xs).flatten
 | 0=>trivial
 | n+1=>by
  simp only [List.replicate_succ,List.flatten_cons]
  exact r.append (Reps.rep r n)
section
variable {tx:XC→Addr} {Y:YC} {Γ:List Cell} {te ta tb tc td tl t1 t2:TE} {α β γ δ τ:Type} {d:Dat α} {d1:Dat α} {d2:Dat β} {d3:Dat γ} {ts rest:TS} {js:List Nat} {K:Kt τ}
theorem w_ixQ {k:α→Prop} (h:W Y ta Γ (dSq (d:=d)) fun xs=>R Y tb Γ dInt fun i=>∃ x,atI xs.l i=some x∧k x):W Y (tOp (rIx Y.K) ta tb) Γ d k:=fun e F σ H s Q q=>h e F σ H s _ fun v1 F1 H1 xs h1 g1 ⟨a,vs,e1,hs,r⟩=>h1 e F1 σ H1 (s.grow g1) _ fun v2 F2 H2 i ⟨x,hx,kx⟩ g2 r2=>by
 subst e1
 cases (show v2 = .int i from r2)
 obtain ⟨v,hv,rv⟩:=atI_rep r hx
 rcases hs with hs | hs
 ·exact .inl ⟨a,vs,i,v,rfl,rfl,(g1.fh.trans g2.hh0).seq hs,hv,q _ F2 H2 x kx (g1.Zbc g2) (d.mono g2.ff rv)⟩
 ·exact .inr (.inl ⟨a,vs,i,v,rfl,rfl,(hs.mono (g2.ff.trans g2.fh)).sq,hv,q _ F2 H2 x kx (g1.Zbc g2) (d.mono g2.ff rv)⟩)
theorem ZaI {m:M (Sq α)} {n:M Int} (h:We tx Y ta Γ (dSq (d:=d)) m) (h2:Re tx Y tb Γ dInt n):We tx Y (tOp (rIx Y.K) ta tb) Γ d (m>>=fun xs=>n>>=fun i=>M.ix xs.l i):=we_l2 (f:=fun (xs:Sq α) i=>atI xs.l i) (fun k h=>w_ixQ h) h h2
theorem o_cat {k:List α→Prop} (h:W Y ta Γ (dList (d:=d)) fun xs=>W Y tb Γ (dList (d:=d)) fun ys=>xs.length+ys.length≤PySem.sizeLine∧k (xs++ys)):O Y (tOp rCatR ta tb) Γ (oList (d:=d)) k:=fun e F σ H s Q q=>h e F σ H s _ fun v1 F1 H1 xs h1 g1 ⟨a,vs,e1,hs,r⟩=>h1 e F1 σ H1 (s.grow g1) _ fun v2 F2 H2 ys ⟨hl,ky⟩ g2 ⟨b,ws,e2,hs2,r2⟩=>by
 subst e1 e2
 refine ⟨a,b,vs,ws,rfl,rfl,Same.rd (g2.ff.trans g2.fh) hs,Same.rd g2.fh hs2,by rw [r.len,r2.len];exact hl,fun p hp=>?_⟩
 obtain ⟨h3,h4⟩:=o_new (L:=[]) g2.base hp ((r.mono g2.ff).append r2)
 exact q _ F2 _ _ _ ky (by simpa using (g1.Zbc g2).trans h3) h4
theorem ZdR {m n:M (List α)} (h:We tx Y ta Γ (dList (d:=d)) m) (h2:We tx Y tb Γ (dList (d:=d)) n):Oe tx Y (tOp rCatR ta tb) Γ (oList (d:=d)) (m>>=fun xs=>n>>=fun ys=>M.cat xs ys):=fun nb xk =>
 o_cat (h.k nb xk fun xs e nb xk=>h2.k nb xk fun ys e2 nb2 _=>⟨M.Zbv nb2,by rw [e];show (n>>=_)=_;rw [e2];exact M.Zah (M.Zbv nb2)⟩)
def M.rep {α:Type} (xs:List α) (k:Int):M (List α):=M.asrt (-(2 ^ 63)≤k∧k<2 ^ 63∧xs.length*k.toNat≤PySem.sizeLine) (.ok (List.replicate k.toNat xs).flatten)
def M.rangeL (a b:Int):M (List Int):=M.asrt (-(2 ^ 62)≤a∧a<2 ^ 62 ∧ -(2 ^ 62)≤b∧b<2 ^ 62∧(b-a).toNat≤2 ^ 24) (.ok (rngL a (b-a).toNat))
theorem rgV_L (a b:Int):rgV a b=(rngL a (b-a).toNat).map V.int:=by
 unfold rgV rngL
 rw [List.map_map];rfl
theorem o_listRg1 {k:List Int→Prop} (h:R Y ta Γ dInt fun n=>(-(2 ^ 62)≤(0:Int)∧(0:Int)<2 ^ 62 ∧ -(2 ^ 62)≤n∧n<2 ^ 62∧(n-0).toNat≤2 ^ 24)∧k (rngL 0 (n-0).toNat)):O Y (tLstRg (tRg1 ta)) Γ (oList (d:=dInt)) k:=fun e F σ H s Q q=>h e F σ H s _ fun v F1 H1 n ⟨hb,kn⟩ g r=>by
 cases (show v = .int n from r)
 refine ⟨n,rfl,hb,fun p hp=>?_⟩
 rw [rgV_L]
 obtain ⟨h3,h4⟩:=o_new (d:=dInt) (L:=[]) g.base hp (Reps.ofInts (rngL 0 (n-0).toNat))
 exact q _ F1 _ _ _ kn (by simpa using g.trans h3) h4
theorem oe_listRg1 {m:M Int} (h:Re tx Y ta Γ dInt m):Oe tx Y (tLstRg (tRg1 ta)) Γ (oList (d:=dInt)) (m>>=fun n=>M.rangeL 0 n):=fun nb xk =>
 o_listRg1 (h.k nb xk fun n e nb2 _=>⟨M.Zbv nb2,by rw [e];exact M.Zah (M.Zbv nb2)⟩)
theorem w_all {k:Bool→Prop} (h:R Y ta Γ (dList (d:=dBool)) fun xs=>k (xs.all id)):W Y (tCB (rAll Y.K) (tCons ta tNil)) Γ dBool k:=fun e F σ H s Q q=>h e F σ H s _ fun v F' H' xs kx g ⟨a,vs,e1,hs,r⟩=>by
 subst e1
 cases r.bools
 exact ⟨a,xs,rfl,.inl hs,q _ F' H' _ kx g rfl⟩
theorem we_all {m:M (List Bool)} (h:Re tx Y ta Γ (dList (d:=dBool)) m):We tx Y (tCB (rAll Y.K) (tCons ta tNil)) Γ dBool (m>>=fun xs=>.ok (xs.all id)):=we_p1 (f:=fun xs:List Bool=>xs.all id) (fun k h=>w_all h) h
class NN (α:Type) [d:Dat α]:Prop where
 nn:∀ {C:GCtx} {F:Hp} {v:V} {x:α},d.rep C F v x→v ≠ .non
instance:NN Int:=⟨fun {C F v x} h z=>by subst z;cases (show V.non = .int x from h)⟩
instance:NN Bool:=⟨fun {C F v x} h z=>by subst z;cases (show V.non = .bl x from h)⟩
instance:NN Str:=⟨fun {C F v x} h z=>by subst z;cases (show V.non = .str x from h)⟩
instance {α:Type} [d:Dat α]:NN (List α):=⟨fun ⟨a,vs,e,_⟩ z=>by subst z;cases e⟩
instance {α:Type} [d:Dat α]:NN (Tup α):=⟨fun ⟨a,vs,e,_⟩ z=>by subst z;cases e⟩
instance {α β:Type} [d:Dat α] [d2:Dat β]:NN (α×β):=⟨fun ⟨a,v1,v2,e,_⟩ z=>by subst z;cases e⟩
instance {α β γ:Type} [d:Dat α] [d2:Dat β] [d3:Dat γ]:NN (T3 α β γ):=⟨fun ⟨a,v1,v2,v3,e,_⟩ z=>by subst z;cases e⟩
instance {α β γ δ:Type} [d:Dat α] [d2:Dat β] [d3:Dat γ] [d4:Dat δ]:NN (T4 α β γ δ):=⟨fun ⟨a,v1,v2,v3,v4,e,_⟩ z=>by subst z;cases e⟩
def M.popAt {α:Type} (xs:List α) (mi:M Int):M (List α×α):=mi>>=fun n=>M.asrt (-(2 ^ 63)≤n∧n<2 ^ 63) (match seqIndex? n xs.length with | some k=>(match xs[k]? with | some y=>.ok (xs.eraseIdx k,y) | none=>.bad) | none=>.bad)
theorem M.popAt_at {α:Type} {xs:List α} {n:Int} {y:α} (h0:0≤n) (h1:n<100000000) (hy:xs[n.toNat]? = some y):M.popAt xs (.ok n) = .ok (xs.eraseIdx n.toNat,y):=by
 have hl:n.toNat<xs.length:=(List.getElem?_eq_some_iff.mp hy).1
 have e:seqIndex? n xs.length=some n.toNat:=by
  unfold seqIndex?
  have hneg:¬ (n<0):=by omega
  simp only [if_neg hneg]
  rw [if_pos (by rw [Bool.and_eq_true];exact ⟨decide_eq_true h0,decide_eq_true (by omega)⟩)]
 show M.asrt _ _=_
 rw [M.Zah ⟨by omega,by omega⟩,e]
 show (match xs[n.toNat]? with | some y=>_ | none=>_)=_
 rw [hy]
theorem M.popAt_nb {α:Type} {xs:List α} {n:Int} (h:(M.asrt (-(2 ^ 63)≤n∧n<2 ^ 63) (match seqIndex? n xs.length with | some k=>(match xs[k]? with | some y=>M.ok (xs.eraseIdx k,y) | none=>.bad) | none=>.bad)).nb):(-(2 ^ 63)≤n∧n<2 ^ 63) ∧ ∃ k y,seqIndex? n xs.length=some k∧xs[k]? = some y:=by
 have hb:=M.Zbv h
 refine ⟨hb,?_⟩
 rw [M.Zah hb] at h
 cases q:seqIndex? n xs.length with
 | none=>rw [q] at h;exact absurd rfl h
 | some k =>
  rw [q] at h
  cases q2:xs[k]? with
  | none=>simp only [q2] at h;exact absurd rfl h
  | some y=>exact ⟨k,y,rfl,q2⟩
def M.appendPop {α:Type} (xs ys:List α) (mi:M Int):M (List α×List α):=mi>>=fun n=>M.asrt (0≤n) (M.popAt ys (.ok n))>>=fun q=>M.push xs (.ok q.2)>>=fun xs'=>.ok (xs',q.1)
theorem zm_appendPop {p1 p2:Option V} {i j:Nat} {xs ys:List α} {mi:M Int} {m2:List α×List α→M τ} (hij:(i == j)=false) (hi:Γ[i]? = some (.own (dList (d:=d)) (oList (d:=d)) p1 xs)) (hj:Γ[j]? = some (.own (dList (d:=d)) (oList (d:=d)) p2 ys)) (hii:i∈js) (hjj:j∈js) (hx:Re tx Y ta Γ dInt mi)
  (h2:∀ p,Zm tx Y js rest ((Γ.set j (.own (dList (d:=d)) (oList (d:=d)) p2 p.2)).set i (.own (dList (d:=d)) (oList (d:=d)) p1 p.1)) K (m2 p)) :
  Zm tx Y js (tSeq (tDrop (tBM Y.K "list" rAppend (tVar i) (tCons (tBM Y.K "list" rPopAt (tVar j) (tCons ta tNil)) tNil))) rest) Γ K (M.appendPop xs ys mi>>=m2):=fun nb xk =>
 ZdW (z_appendPop (by simpa using hij) hi hj (hx.k (M.nb1 nb) xk.l.here fun n e nb2 _=>by
  have nb3:(M.asrt (0≤n) (M.popAt ys (.ok n))).nb:=M.nb1 nb2
  have h0:=M.Zbv nb3
  rw [M.Zah h0] at nb3
  obtain ⟨hb,k,y,h1,h3⟩:=M.popAt_nb nb3
  have ep:M.popAt ys (.ok n) = .ok (ys.eraseIdx k,y):=by
   show M.asrt _ _=_
   rw [M.Zah hb,h1]
   show (match ys[k]? with | some y=>_ | none=>_)=_
   rw [h3]
  have nb4:(M.push xs (.ok y)).nb:=by
   have:=M.nb2 nb2 (x:=(ys.eraseIdx k,y)) (by rw [M.Zah h0];exact ep)
   exact M.nb1 this
  have hl:=M.Zbv nb4
  refine ⟨k,y,⟨h0,hb.2,h1,h3⟩,hl,(h2 (xs++[y],ys.eraseIdx k)).go nb xk ?_ ?_⟩
  ·rw [e]
   show (M.asrt (0≤n) (M.popAt ys (.ok n))>>=_)=_
   rw [M.Zah h0,ep]
   show (M.push xs (.ok y)>>=_)=_
   rw [M.push_ok hl];rfl
  ·rw [ZaL hii,ZaL hjj]))
def M.insert {α:Type} (xs:List α) (mi:M Int) (m:M α):M (List α):=mi>>=fun n=>m>>=fun y=>M.asrt (xs.length<PySem.sizeLine∧0≤n∧n<2 ^ 63) (.ok (xs.take n.toNat++[y]++xs.drop n.toNat))
end
end G
end
noncomputable section
namespace G
open PySem PySem.Spec PyProof.Rows L2 PySem.W
structure Ob3 (α β γ:Type) where
 a:α
 b:β
 c:γ
 deriving DecidableEq
structure Ob4 (α β γ δ:Type) where
 a:α
 b:β
 c:γ
 d:δ
 deriving DecidableEq
section
variable {α β γ δ:Type} [d1:Dat α] [d2:Dat β] [d3:Dat γ] [d4:Dat δ] (C0:Addr) (f1 f2 f3 f4:Str)
@[reducible] def dOb3:Dat (Ob3 α β γ):=⟨fun C F v x=>∃ p dx v1 v2 v3,v = .ref p∧F p=some (.ins C0 dx [(f1,v1),(f2,v2),(f3,v3)])∧d1.rep C F v1 x.a∧d2.rep C F v2 x.b∧d3.rep C F v3 x.c,
 fun s ⟨p,dx,v1,v2,v3,e,h,r1,r2,r3⟩=>⟨p,dx,v1,v2,v3,e,s _ _ h,d1.mono s r1,d2.mono s r2,d3.mono s r3⟩⟩
@[reducible] def dOb4:Dat (Ob4 α β γ δ):=⟨fun C F v x=>∃ p dx v1 v2 v3 v4,v = .ref p∧F p=some (.ins C0 dx [(f1,v1),(f2,v2),(f3,v3),(f4,v4)])∧d1.rep C F v1 x.a∧d2.rep C F v2 x.b∧d3.rep C F v3 x.c∧d4.rep C F v4 x.d,
 fun s ⟨p,dx,v1,v2,v3,v4,e,h,r1,r2,r3,r4⟩=>⟨p,dx,v1,v2,v3,v4,e,s _ _ h,d1.mono s r1,d2.mono s r2,d3.mono s r3,d4.mono s r4⟩⟩
@[reducible] def oOb3 (od3 : @OD γ d3) : @OD (Ob3 α β γ) (dOb3 C0 f1 f2 f3):=@OD.mk (Ob3 α β γ) (dOb3 C0 f1 f2 f3)
 (fun C F v x L=>∃ p dx v1 v2 v3 L3,v = .ref p∧L=(p,.ins C0 dx [(f1,v1),(f2,v2),(f3,v3)])::L3∧d1.rep C F v1 x.a∧d2.rep C F v2 x.b∧od3.orep C F v3 x.c L3)
 (fun s ⟨p,dx,v1,v2,v3,L3,e,h,r1,r2,r3⟩=>⟨p,dx,v1,v2,v3,L3,e,h,d1.mono s r1,d2.mono s r2,od3.omono s r3⟩)
 (fun ⟨p,dx,v1,v2,v3,L3,e,h,r1,r2,r3⟩ s k=>⟨p,dx,v1,v2,v3,e,k (p,.ins C0 dx [(f1,v1),(f2,v2),(f3,v3)]) (by rw [h];exact List.mem_cons_self),d1.mono s r1,d2.mono s r2,od3.view r3 s fun q hq=>k q (by rw [h];exact List.mem_cons_of_mem _ hq)⟩)
@[reducible] def oOb4 (od3 : @OD γ d3) (od4 : @OD δ d4) : @OD (Ob4 α β γ δ) (dOb4 C0 f1 f2 f3 f4):=@OD.mk (Ob4 α β γ δ) (dOb4 C0 f1 f2 f3 f4)
 (fun C F v x L=>∃ p dx v1 v2 v3 v4 L3 L4,v = .ref p∧L=(p,.ins C0 dx [(f1,v1),(f2,v2),(f3,v3),(f4,v4)])::(L3++L4)∧d1.rep C F v1 x.a∧d2.rep C F v2 x.b∧od3.orep C F v3 x.c L3∧od4.orep C F v4 x.d L4)
 (fun s ⟨p,dx,v1,v2,v3,v4,L3,L4,e,h,r1,r2,r3,r4⟩=>⟨p,dx,v1,v2,v3,v4,L3,L4,e,h,d1.mono s r1,d2.mono s r2,od3.omono s r3,od4.omono s r4⟩)
 (fun ⟨p,dx,v1,v2,v3,v4,L3,L4,e,h,r1,r2,r3,r4⟩ s k=>⟨p,dx,v1,v2,v3,v4,e,k (p,.ins C0 dx [(f1,v1),(f2,v2),(f3,v3),(f4,v4)]) (by rw [h];exact List.mem_cons_self),d1.mono s r1,d2.mono s r2,
  od3.view r3 s fun q hq=>k q (by rw [h];exact List.mem_cons_of_mem _ (List.mem_append_left _ hq)),od4.view r4 s fun q hq=>k q (by rw [h];exact List.mem_cons_of_mem _ (List.mem_append_right _ hq))⟩)
end
section
variable {α β γ δ:Type} [d1:Dat α] [d2:Dat β] [d3:Dat γ] [d4:Dat δ] {C0:Addr} {f1 f2 f3 f4:Str}
end
theorem set_same {σ:L2.St} {i:Nat} {v:V} (e1:σ[i]? = some (some v)):σ.set i (some v)=σ:=by
 apply List.ext_getElem?
 intro j
 by_cases hj:i=j
 ·subst hj
  obtain ⟨hlt,hv⟩:=List.getElem?_eq_some_iff.mp e1
  rw [List.getElem?_set_self hlt,e1]
 ·rw [List.getElem?_set_ne hj]
section
variable {Y:YC} {Γ:List Cell} {k:Ks} {te tk tv:TE} {α β γ δ ε:Type} {d1:Dat α} {d2:Dat β} {d3:Dat γ} {d4:Dat δ} {dv:Dat ε} {C0:Addr} {f f1 f2 f3:Str}
end
section
variable {tx:XC→Addr} {Y:YC} {Γ:List Cell} {te tk tv:TE} {α β γ δ ε τ:Type} {d1:Dat α} {d2:Dat β} {d3:Dat γ} {d4:Dat δ} {dv:Dat ε} {rest:TS} {js:List Nat} {K:Kt τ} {C0:Addr} {f f1 f2 f3:Str}
end
abbrev WiringM:=Ob4 (Tup (Int×Int)) (Tup (T3 Str Int Int)) (DI Int) (DI Int)
section
variable (A:CA3)
@[reducible] def dLinks:Dat (Tup (Int×Int)):=dTup (d:=dPair (d1:=dInt) (d2:=dInt))
@[reducible] def dNodes:Dat (Tup (T3 Str Int Int)):=dTup (d:=dT3 (d1:=dStr) (d2:=dInt) (d3:=dInt))
@[reducible] def dWiring:Dat WiringM:=dOb4 (d1:=dTup (d:=dPair (d1:=dInt) (d2:=dInt))) (d2:=dTup (d:=dT3 (d1:=dStr) (d2:=dInt) (d3:=dInt))) (d3:=dDI (d:=dInt)) (d4:=dDI (d:=dInt)) (A.ob .Wiring) "links" "nodes" "_parents" "_owners"
@[reducible] def oWiring : @OD WiringM (dWiring A):=oOb4 (d1:=dTup (d:=dPair (d1:=dInt) (d2:=dInt))) (d2:=dTup (d:=dT3 (d1:=dStr) (d2:=dInt) (d3:=dInt))) (d3:=dDI (d:=dInt)) (d4:=dDI (d:=dInt)) (A.ob .Wiring) "links" "nodes" "_parents" "_owners" (oDI (d:=dInt)) (oDI (d:=dInt))
end
section
variable {tx:XC→Addr} {Y:YC} {Γ:List Cell} {te ta tb:TE} {α β:Type} {d:Dat α}
end
end G
end
noncomputable section
namespace L2
open PySem PySem.Spec PyProof.Rows
end L2
namespace G
open PySem PySem.Spec PyProof.Rows L2 PySem.W
section
variable {tx:XC→Addr} {Y:YC} {Γ:List Cell} {ta tb:TE} {α β γ δ:Type} {d:Dat α} {d1:Dat α} {d2:Dat β} {d3:Dat γ} {d4:Dat δ} {sp:Sp} {C0:Addr} {ns:List Str}
end
end G
end
noncomputable section
namespace G
open PySem PySem.Spec PyProof.Rows L2 PySem.W
section
variable {Y:YC} {Γ:List Cell} {k:Ks} {ta tk tv te:TE} {α β:Type} {d:Dat α}
end
section
variable {tx:XC→Addr} {Y:YC} {Γ:List Cell} {ta tk tv te tl:TE} {tt:TT} {g:TG} {α β τ:Type} {d:Dat α} {d2:Dat β} {rest:TS} {js vs:List Nat} {K:Kt τ}
end
end G
end
noncomputable section
namespace G
open PySem PySem.Spec PyProof.Rows L2 PySem.W
mutual
def DU (C:GCtx) (F:Hp):PyData→V→Prop
 | .none,v=>v = .non
 | .bool b,v=>v = .bl b
 | .int i,v=>v = .int i
 | .str s,v=>v = .str s
 | .list ds,v=>∃ a vs,v = .ref a∧Rd F a (.lst vs)∧DUs C F ds vs
 | .tuple ds,v=>∃ a vs,v = .ref a∧TpA C.K F a vs∧DUs C F ds vs
 | .dict _,_=>False
def DUs (C:GCtx) (F:Hp):List PyData→List V→Prop
 | [],[]=>True
 | d::ds,v::vs=>DU C F d v∧DUs C F ds vs
 | [],_::_=>False
 | _::_,[]=>False
end
mutual
theorem DU.mono {C:GCtx} {F F' : Hp} (s:Same F F'):∀ (x:PyData) (v:V),DU C F x v→DU C F' x v
 | .none,_,h=>h
 | .bool _,_,h=>h
 | .int _,_,h=>h
 | .str _,_,h=>h
 | .list ds,_,⟨a,vs,e,h,r⟩=>⟨a,vs,e,h.imp (s a _) fun ⟨o,e⟩=>⟨o,s a _ e⟩,DUs.mono s ds vs r⟩
 | .tuple ds,_,⟨a,vs,e,h,r⟩=>⟨a,vs,e,h.mono s,DUs.mono s ds vs r⟩
 | .dict _,_,h=>h.elim
theorem DUs.mono {C:GCtx} {F F' : Hp} (s:Same F F'):∀ (xs:List PyData) (vs:List V),DUs C F xs vs→DUs C F' xs vs
 | [],[],h=>h
 | d::ds,v::vs,h=>⟨DU.mono s d v h.1,DUs.mono s ds vs h.2⟩
 | [],_::_,h=>h.elim
 | _::_,[],h=>h.elim
end
mutual
theorem DU.dp {C:GCtx} {F:Hp}:∀ (x:PyData) (v:V),DU C F x v→Dp C.K F v x
 | .none,_,h=>by cases (show _=_ from h);exact .non
 | .bool _,_,h=>by cases (show _=_ from h);exact .bl _
 | .int _,_,h=>by cases (show _=_ from h);exact .int _
 | .str _,_,h=>by cases (show _=_ from h);exact .str _
 | .list ds,_,⟨a,vs,e,h,r⟩=>by subst e;exact .lst (.inl h) (DUs.dp ds vs r)
 | .tuple ds,_,⟨a,vs,e,h,r⟩=>by subst e;exact .tup h.sq (DUs.dp ds vs r)
 | .dict _,_,h=>h.elim
theorem DUs.dp {C:GCtx} {F:Hp}:∀ (xs:List PyData) (vs:List V),DUs C F xs vs→DpAll C.K F vs xs
 | [],[],_=>.nil
 | d::ds,v::vs,h=>.cons (DU.dp d v h.1) (DUs.dp ds vs h.2)
 | [],_::_,h=>h.elim
 | _::_,[],h=>h.elim
end
mutual
theorem DU.pl {C:GCtx} {F:Hp}:∀ (x:PyData) (v:V),DU C F x v→x.plain=true
 | .none,_,_=>rfl
 | .bool _,_,_=>rfl
 | .int _,_,_=>rfl
 | .str _,_,_=>rfl
 | .list ds,_,⟨a,vs,e,h,r⟩=>by simp only [PyData.plain];exact DUs.pl ds vs r
 | .tuple ds,_,⟨a,vs,e,h,r⟩=>by simp only [PyData.plain];exact DUs.pl ds vs r
 | .dict _,_,h=>h.elim
theorem DUs.pl {C:GCtx} {F:Hp}:∀ (xs:List PyData) (vs:List V),DUs C F xs vs→PyData.plainAll xs=true
 | [],_,_=>rfl
 | d::ds,v::vs,h=>by simp only [PyData.plainAll,DU.pl d v h.1,DUs.pl ds vs h.2,Bool.and_self]
 | _::_,[],h=>h.elim
end
abbrev U:=PyData
@[reducible] def dU:Dat U:=⟨fun C F v x=>DU C F x v,fun s h=>DU.mono s _ _ h⟩
class UD (α:Type) [d:Dat α] where
 toU:α→U
 du:∀ {C:GCtx} {F:Hp} {v:V} {x:α},d.rep C F v x→DU C F (toU x) v
instance udInt:UD Int:=⟨.int,fun h=>h⟩
instance udBool:UD Bool:=⟨.bool,fun h=>h⟩
instance udStr:UD Str:=⟨.str,fun h=>h⟩
instance udUnit:UD Unit:=⟨fun _=>.none,fun h=>h⟩
theorem dus_of {α:Type} {d:Dat α} [u : @UD α d] {C:GCtx} {F:Hp}:∀ {vs:List V} {xs:List α},Reps d C F vs xs→DUs C F (xs.map u.toU) vs
 | [],[],_=>trivial
 | _::_,_::_,h=>⟨u.du h.1,dus_of h.2⟩
 | [],_::_,h=>h.elim
 | _::_,[],h=>h.elim
instance udList {α:Type} {d:Dat α} [u : @UD α d] : @UD (List α) dList:=⟨fun xs=>.list (xs.map u.toU),fun ⟨a,vs,e,h,r⟩=>⟨a,vs,e,h,dus_of r⟩⟩
instance udTup {α:Type} {d:Dat α} [u : @UD α d] : @UD (Tup α) dTup:=⟨fun xs=>.tuple (xs.l.map u.toU),fun ⟨a,vs,e,h,r⟩=>⟨a,vs,e,h,dus_of r⟩⟩
instance udPair {α β:Type} {d1:Dat α} {d2:Dat β} [u1 : @UD α d1] [u2 : @UD β d2] : @UD (α×β) dPair:=⟨fun x=>.tuple [u1.toU x.1,u2.toU x.2],fun ⟨a,v1,v2,e,h,r1,r2⟩=>⟨a,_,e,h,u1.du r1,u2.du r2,trivial⟩⟩
instance udT3 {α β γ:Type} {d1:Dat α} {d2:Dat β} {d3:Dat γ} [u1 : @UD α d1] [u2 : @UD β d2] [u3 : @UD γ d3] : @UD (T3 α β γ) dT3:=⟨fun x=>.tuple [u1.toU x.a,u2.toU x.b,u3.toU x.c],fun ⟨a,v1,v2,v3,e,h,r1,r2,r3⟩=>⟨a,_,e,h,u1.du r1,u2.du r2,u3.du r3,trivial⟩⟩
instance udT4 {α β γ δ:Type} {d1:Dat α} {d2:Dat β} {d3:Dat γ} {d4:Dat δ} [u1 : @UD α d1] [u2 : @UD β d2] [u3 : @UD γ d3] [u4 : @UD δ d4] : @UD (T4 α β γ δ) dT4:=⟨fun x=>.tuple [u1.toU x.a,u2.toU x.b,u3.toU x.c,u4.toU x.d],fun ⟨a,v1,v2,v3,v4,e,h,r1,r2,r3,r4⟩=>⟨a,_,e,h,u1.du r1,u2.du r2,u3.du r3,u4.du r4,trivial⟩⟩
def tyU:U→String
 | .none=>"NoneType" | .bool _=>"bool" | .int _=>"int" | .str _=>"str" | .list _=>"list" | .tuple _=>"tuple" | .dict _=>"dict"
def isTy (c t:String):Bool:=c == t||(t == "bool" && c == "int")
def isU (c:String) (x:U):Bool:=isTy c (tyU x)
theorem kitU {K:Frag} {c:String} (hc:c∈["bool","int","str","list","tuple"]) {x:U} (hp:x.plain=true):kitOne K (.type (tyU x)) (.type c)=some (isU c x):=by
 refine kit_ty ?_
 simp only [List.mem_cons,List.not_mem_nil,or_false] at hc
 cases x with
 | dict _=>cases hp
 | none=>rcases hc with rfl | rfl | rfl | rfl | rfl<;>(show kitB "NoneType" _=some (isTy _ "NoneType");decide +kernel)
 | bool _=>rcases hc with rfl | rfl | rfl | rfl | rfl<;>(show kitB "bool" _=some (isTy _ "bool");decide +kernel)
 | int _=>rcases hc with rfl | rfl | rfl | rfl | rfl<;>(show kitB "int" _=some (isTy _ "int");decide +kernel)
 | str _=>rcases hc with rfl | rfl | rfl | rfl | rfl<;>(show kitB "str" _=some (isTy _ "str");decide +kernel)
 | list _=>rcases hc with rfl | rfl | rfl | rfl | rfl<;>(show kitB "list" _=some (isTy _ "list");decide +kernel)
 | tuple _=>rcases hc with rfl | rfl | rfl | rfl | rfl<;>(show kitB "tuple" _=some (isTy _ "tuple");decide +kernel)
theorem DU.ty {C:GCtx} {F:Hp} {v:V}:∀ {x:U},DU C F x v→TyX C.K F v (.type (tyU x))
 | .none,h=>by cases (show v=_ from h);exact .base .non
 | .bool _,h=>by cases (show v=_ from h);exact .base (.bl _)
 | .int _,h=>by cases (show v=_ from h);exact .base (.int _)
 | .str _,h=>by cases (show v=_ from h);exact .base (.str _)
 | .list _,⟨a,vs,e,h,_⟩=>by subst e;exact ty_sql (.inl h)
 | .tuple _,⟨a,vs,e,h,_⟩=>by subst e;exact ty_tpa h
 | .dict _,h=>h.elim
def Zcd:U→Bool
 | .none=>true
 | _=>false
theorem DU.non {C:GCtx} {F:Hp} {v:V}:∀ {x:U},DU C F x v→decide (v = .non)=Zcd x
 | .none,h=>by cases (show v=_ from h);rfl
 | .bool _,h=>by cases (show v=_ from h);rfl
 | .int _,h=>by cases (show v=_ from h);rfl
 | .str _,h=>by cases (show v=_ from h);rfl
 | .list _,⟨a,vs,e,h,_⟩=>by subst e;rfl
 | .tuple _,⟨a,vs,e,h,_⟩=>by subst e;rfl
 | .dict _,h=>h.elim
theorem DUs.reps {C:GCtx} {F:Hp}:∀ {ds:List U} {vs:List V},DUs C F ds vs→Reps dU C F vs ds
 | [],[],_=>trivial
 | _::_,_::_,h=>⟨h.1,DUs.reps h.2⟩
 | [],_::_,h=>h.elim
 | _::_,[],h=>h.elim
def Zat:U→Option (List U)
 | .list ds=>some ds
 | .tuple ds=>some ds
 | _=>none
section
variable {tx:XC→Addr} {Y:YC} {Γ:List Cell} {te ta tb:TE} {α:Type} {d:Dat α}
theorem w_U [u : @UD α d] {k:U→Prop} (h:W Y te Γ d fun x=>k (u.toU x)):W Y te Γ dU k:=fun e F σ H s Q q=>h e F σ H s Q fun v F' H' x kx g r=>q v F' H' _ kx g (u.du r)
theorem we_U [u : @UD α d] {m:M α} (h:We tx Y te Γ d m):We tx Y te Γ dU (m>>=fun x=>.ok (u.toU x)):=we_p1w (f:=u.toU) (fun k h=>w_U h) h
theorem w_eqU {k:Bool→Prop} (h:R Y ta Γ dU fun x=>R Y tb Γ dU fun y=>(x.depth≤64∧y.depth≤64)∧k (PyData.eqv x y)):W Y (tOp (rEqP Y.K) ta tb) Γ dBool k:=fun e F σ H s Q q=>h e F σ H s _ fun v1 F1 H1 x h1 g1 r1=>h1 e F1 σ H1 (s.grow g1) _ fun v2 F2 H2 y ⟨hd,ky⟩ g2 r2=>by
 have q1:DU Y.g H2 x v1:=DU.mono g2.hh0 _ _ r1
 have q2:DU Y.g H2 y v2:=r2
 exact ⟨x,y,DU.dp _ _ q1,DU.dp _ _ q2,by unfold shP;rw [DU.pl _ _ q1,decide_eq_true hd.1];rfl,by unfold shP;rw [DU.pl _ _ q2,decide_eq_true hd.2];rfl,q _ F2 H2 _ ky (g1.Zbc g2) rfl⟩
theorem we_eqU {m n:M U} (h:Re tx Y ta Γ dU m) (h2:Re tx Y tb Γ dU n):We tx Y (tOp (rEqP Y.K) ta tb) Γ dBool (m>>=fun x=>n>>=fun y=>M.asrt (x.depth≤64∧y.depth≤64) (.ok (PyData.eqv x y))):=we_g2 (P:=fun x y:U=>x.depth≤64∧y.depth≤64) (f:=fun x y:U=>PyData.eqv x y) (fun k h=>w_eqU h) h h2
theorem w_isNU {k:Bool→Prop} (h:R Y ta Γ dU fun x=>k (Zcd x)):W Y (tOp (fun x y H Q=>y = .non∧Q (.bl (decide (x = .non))) H) ta (tC .non)) Γ dBool k:=fun e F σ H s Q q=>h e F σ H s _ fun v F' H' x kx g r=>⟨rfl,q _ F' H' _ kx g (by show V.bl _=V.bl _;rw [DU.non r])⟩
theorem we_isNU {m:M U} (h:Re tx Y ta Γ dU m):We tx Y (tOp (fun x y H Q=>y = .non∧Q (.bl (decide (x = .non))) H) ta (tC .non)) Γ dBool (m>>=fun x=>.ok (Zcd x)):=we_p1 (f:=Zcd) (fun k h=>w_isNU h) h
theorem w_notNU {k:Bool→Prop} (h:R Y ta Γ dU fun x=>k (!Zcd x)):W Y (tOp (fun x y H Q=>y = .non∧Q (.bl (!decide (x = .non))) H) ta (tC .non)) Γ dBool k:=fun e F σ H s Q q=>h e F σ H s _ fun v F' H' x kx g r=>⟨rfl,q _ F' H' _ kx g (by show V.bl _=V.bl _;rw [DU.non r])⟩
theorem we_notNU {m:M U} (h:Re tx Y ta Γ dU m):We tx Y (tOp (fun x y H Q=>y = .non∧Q (.bl (!decide (x = .non))) H) ta (tC .non)) Γ dBool (m>>=fun x=>.ok (!Zcd x)):=we_p1 (f:=fun x:U=>!Zcd x) (fun k h=>w_notNU h) h
theorem w_isU {c:String} {k:Bool→Prop} (hc:c∈["bool","int","str","list","tuple"]) (h:R Y ta Γ dU fun x=>k (isU c x)):W Y (tCB (rIsi Y.K) (tCons ta (tCons (tC (.ty c)) tNil))) Γ dBool k:=fun e F σ H s Q q=>h e F σ H s _ fun v F' H' x kx g r =>
 ⟨v,.ty c,.type (tyU x),.type c,isU c x,rfl,.ty c,DU.ty r,kitU hc (DU.pl _ _ r),q _ F' H' _ kx g rfl⟩
theorem ZeK {c:String} {m:M U} (hc:c∈["bool","int","str","list","tuple"]) (h:Re tx Y ta Γ dU m):We tx Y (tCB (rIsi Y.K) (tCons ta (tCons (tC (.ty c)) tNil))) Γ dBool (m>>=fun x=>.ok (isU c x)):=we_p1 (f:=isU c) (fun k h=>w_isU hc h) h
theorem w_sqU {k:Sq U→Prop} (h:W Y te Γ dU fun x=>∃ ds,Zat x=some ds∧k ⟨ds⟩):W Y te Γ (dSq (d:=dU)) k:=fun e F σ H s Q q=>h e F σ H s Q fun v F' H' x ⟨ds,hi,kx⟩ g r=>q v F' H' _ kx g (by
 cases x with
 | list xs=>cases hi;obtain ⟨a,vs,e1,h1,r1⟩:=r;exact ⟨a,vs,e1,.inl (.inl h1),r1.reps⟩
 | tuple xs=>cases hi;obtain ⟨a,vs,e1,h1,r1⟩:=r;exact ⟨a,vs,e1,.inr h1,r1.reps⟩
 | _=>cases hi)
theorem ZaG {m:M U} (h:We tx Y te Γ dU m):We tx Y te Γ (dSq (d:=dU)) (m>>=fun x=>M.ofO (Zat x)>>=fun ds=>.ok ⟨ds⟩):=fun nb xk=>w_sqU (h.k nb xk fun x e nb2 _=>by
 cases hx:Zat x with
 | none=>rw [hx] at nb2;exact absurd rfl nb2
 | some ds=>exact ⟨ds,rfl,by rw [e];show (M.ofO (Zat x)>>=_)=_;rw [hx];rfl⟩)
end
end G
end
noncomputable section
namespace G
open PySem PySem.Spec PyProof.Rows L2 PySem.W
@[reducible] def oPair {α β:Type} {d1:Dat α} {d2:Dat β} (od1 : @OD α d1) (od2 : @OD β d2) : @OD (α×β) (dPair (d1:=d1) (d2:=d2)):=@OD.mk (α×β) (dPair (d1:=d1) (d2:=d2))
 (fun C F v x L=>∃ a v1 v2 L1 L2,v = .ref a∧L=L1++L2∧TpA C.K F a [v1,v2]∧od1.orep C F v1 x.1 L1∧od2.orep C F v2 x.2 L2)
 (fun s ⟨a,v1,v2,L1,L2,e,h,t,r1,r2⟩=>⟨a,v1,v2,L1,L2,e,h,t.mono s,od1.omono s r1,od2.omono s r2⟩)
 (fun ⟨a,v1,v2,L1,L2,e,h,t,r1,r2⟩ s k=>⟨a,v1,v2,e,t.mono s,od1.view r1 s fun p hp=>k p (by rw [h];exact List.mem_append_left _ hp),od2.view r2 s fun p hp=>k p (by rw [h];exact List.mem_append_right _ hp)⟩)
theorem Wk.subl {e:En} {F:Hp} {L L' : LO} {H:Hp} (a:Wk e F L H) (h:L'.Sublist L):Wk e F L' H:=a.sub (fun _ hp=>h.subset hp) (List.Nodup.sublist (h.map _) a.nd)
section
variable {Y:YC} {Γ:List Cell} {k:Ks} {te:TE} {α β:Type} {d1:Dat α} {d2:Dat β}
end
section
variable {tx:XC→Addr} {Y:YC} {Γ:List Cell} {te:TE} {α β τ:Type} {d1:Dat α} {d2:Dat β} {rest:TS} {js:List Nat} {K:Kt τ}
end
end G
end
noncomputable section
namespace L2
open PySem PySem.Spec PyProof.Rows ClX StX
section
variable {X:Cx} (K:PySem.W.Frag)
end
end L2
namespace G
open PySem PySem.Spec PyProof.Rows L2 PySem.W ClX StX
section
variable {tx:XC→Addr} {Y:YC} {Γ:List Cell} {te ta:TE} {α:Type} {d:Dat α}
end
section
variable {tx:XC→Addr} {Y:YC} {Γ:List Cell} {ta tb:TE} {α:Type} {d:Dat α}
theorem w_tup1 {k:Tup α→Prop} (h:W Y ta Γ d fun x=>k ⟨[x]⟩):W Y (tTup (tCons ta tNil)) Γ (dTup (d:=d)) k:=fun e F σ H s Q q=>h e F σ H s _ fun v1 F1 H1 x kx g1 r1=>⟨show (1:Nat)≤PySem.sizeLine by decide,fun p hp=>by
 have g2:=Gr.lay (o:=.tup [v1]) g1.base hp
 exact q _ _ _ ⟨[x]⟩ kx (g1.Zbc g2) ⟨p,[v1],rfl,.inl upd_same,d.mono g2.ff r1,trivial⟩⟩
theorem we_tup1 {m:M α} (h:We tx Y ta Γ d m):We tx Y (tTup (tCons ta tNil)) Γ (dTup (d:=d)) (m>>=fun x=>.ok ⟨[x]⟩):=we_p1w (f:=fun x:α=>(⟨[x]⟩:Tup α)) (fun k h=>w_tup1 h) h
end
end G
end
noncomputable section
namespace G
open PySem PySem.Spec PyProof.Rows L2 PySem.W
section
variable {tx:XC→Addr} {Y:YC} {Γ:List Cell} {te ta tb tl:TE} {t u tt:TT} {α β:Type} {d:Dat α} {d2:Dat β} {g:TG}
theorem comp_turn0 {e:En} {F1:Hp} {σ:L2.St} {H1:Hp} {vs:List Nat} {D:Addr} {x:α} {v:V} {I I' : List β→Prop} (s1:State Y e F1 σ H1 Γ) (hT:Tg g vs)
  (hs:∀ ys,I ys→A Y g (Zak Γ vs) d x fun Γ2=>T Y tt Γ2 fun b=>(b=true→W Y te Γ2 d2 fun y=>ys.length<PySem.sizeLine∧I' (ys++[y]))∧(b=false→I' ys)) {H F' : Hp} {acc:List V} {ys:List β}
  (kw:Wk ⟨F1,H1,[]⟩ F' [(D,.lst acc)] H) (r:Reps d2 Y.g F' acc ys) (hi:I ys) (rx:d.rep Y.g F' v x) :
  g v (wipe σ vs) H fun σ2 H2=>wipe σ2 vs=wipe σ vs∧tt σ2 H2 fun b H3 =>
   if b=true then te σ2 H3 fun y H4=>∃ acc,H4 D=some (.lst acc)∧acc.length<PySem.sizeLine∧(∃ F' acc' ys,Wk ⟨F1,H1,[]⟩ F' [(D,.lst acc')] (upd H4 D (.lst (acc++[y])))∧Reps d2 Y.g F' acc' ys∧I' ys) else (∃ F' acc ys,Wk ⟨F1,H1,[]⟩ F' [(D,.lst acc)] H3∧Reps d2 Y.g F' acc ys∧I' ys):=by
 have st:=(s1.growL kw).wipe vs
 have ww:∀ σ0:L2.St,wipe (wipe σ0 vs) vs=wipe σ0 vs:=by
  intro σ0
  have:∀ (l:List Nat) (σ1:L2.St),(∀ j∈l,(σ1[j]? = none∨σ1[j]? = some none))→wipe σ1 l=σ1:=by
   intro l
   induction l with
   | nil=>intro _ _;rfl
   | cons j l ih =>
    intro σ1 hj
    unfold wipe
    rw [ih σ1 fun m hm=>hj m (List.mem_cons_of_mem _ hm)]
    apply List.ext_getElem?
    intro m
    rw [List.getElem?_set]
    by_cases hm:j=m
    ·subst hm
     rcases hj j List.mem_cons_self with z | z
     ·rw [z,if_pos rfl,if_neg (Nat.not_lt.mpr (List.getElem?_eq_none_iff.mp z))]
     ·rw [z,if_pos rfl,if_pos (List.getElem?_eq_some_iff.mp z).1]
    ·rw [if_neg hm]
  refine this vs _ fun j hj=>?_
  cases q:(wipe σ0 vs)[j]? with
  | none=>exact .inl rfl
  | some o =>
   cases o with
   | none=>exact .inr rfl
   | some y=>exact absurd hj (wipe_some q).2
 have key:=hs ys hi e F' _ H v st rx (fun σ2 H2=>tt σ2 H2 fun b H3 =>
   if b=true then te σ2 H3 fun y H4=>∃ acc,H4 D=some (.lst acc)∧acc.length<PySem.sizeLine∧(∃ F' acc' ys,Wk ⟨F1,H1,[]⟩ F' [(D,.lst acc')] (upd H4 D (.lst (acc++[y])))∧Reps d2 Y.g F' acc' ys∧I' ys) else (∃ F' acc ys,Wk ⟨F1,H1,[]⟩ F' [(D,.lst acc)] H3∧Reps d2 Y.g F' acc ys∧I' ys)) fun σ2 Γ2 h2 st2=>by
  refine h2 e F' σ2 H st2 _ fun b F3 H3 kb g3=>?_
  have kw3:=kw.Zbc g3
  cases b with
  | false=>exact ⟨F3,acc,ys,kw3,r.mono g3.ff,kb.2 rfl⟩
  | true =>
   refine kb.1 rfl e F3 σ2 H3 (st2.grow g3) _ fun y F4 H4 yv ⟨hl,ky⟩ g4 ry=>?_
   have kw4:=kw3.Zbc g4
   have hD:H4 D=some (.lst acc):=(kw4.ow (D,.lst acc) (by simp)).2.1
   exact ⟨acc,hD,by rw [r.len];exact hl,F4,acc++[y],ys++[yv],kw4.put (fun _ z=>by cases z),(r.mono (g3.ff.trans g4.ff)).append (Reps.one ry),ky⟩
 have key2:=hT v _ H _ key
 rw [ww] at key2
 exact key2
end
theorem wipeC_get (Γ:List Cell):∀ (js:List Nat) (i:Nat),i<Γ.length→i∈js→(Zak Γ js)[i]? = some .no
 | [],_,_,h=>nomatch h
 | j::js,i,hl,h=>by
  unfold Zak
  by_cases e:j=i
  ·subst e
   rw [List.getElem?_set_self (by rw [Zed];exact hl)]
  ·rw [List.getElem?_set_ne e]
   exact wipeC_get Γ js i hl ((List.mem_cons.mp h).resolve_left fun z=>e z.symm)
theorem wlen (n:Nat) {Γ Γ' : List Cell} {js:List Nat} (h1:Γ.length=n) (h2:Γ'.length=n) (hj:(List.range n).all (fun i=>js.contains i)=true):Zak Γ js=Zak Γ' js:=by
 apply List.ext_getElem?
 intro i
 by_cases hi:i<n
 ·have hm:i∈js:=by
   have:=List.all_eq_true.mp hj i (List.mem_range.mpr hi)
   simpa using this
  rw [wipeC_get Γ js i (by omega) hm,wipeC_get Γ' js i (by omega) hm]
 ·rw [List.getElem?_eq_none (by rw [Zed];omega),List.getElem?_eq_none (by rw [Zed];omega)]
end G
end
noncomputable section
namespace G
open PySem PySem.Spec PyProof.Rows L2 PySem.W
def minus (H:Hp) (L:LO):Hp:=fun a=>if a∈L.map Prod.fst then none else H a
theorem Zel {H:Hp} {L:LO} {a:Addr} (h:a∉L.map Prod.fst):minus H L a=H a:=if_neg h
theorem minus_in {H:Hp} {L:LO} {a:Addr} (h:a∈L.map Prod.fst):minus H L a=none:=if_pos h
theorem Wk.lend {e:En} {F H:Hp} {Li L:LO} (a:Wk e F (Li++L) H):Wk ⟨F,minus H Li,[]⟩ F Li H where
 ff:=Same.refl _
 hh:=fun x o _ h=>by
  have h:minus H Li x=some o:=h
  by_cases hx:x∈Li.map Prod.fst
  ·rw [minus_in hx] at h;cases h
  ·rw [Zel hx] at h;exact h
 th:=fun x h=>by
  have h:minus H Li x≠none:=h
  by_cases hx:x∈Li.map Prod.fst
  ·exact absurd (minus_in hx) h
  ·rw [Zel hx] at h;exact h
 fh:=a.fh
 nw:=fun _ _ h=>h
 tp:=a.tp
 ow:=fun p hp=>by
  obtain ⟨h1,h2,_⟩:=a.ow p (List.mem_append_left _ hp)
  exact ⟨h1,h2,.inl (minus_in (List.mem_map.mpr ⟨p,hp,rfl⟩))⟩
 nd:=by
  have h:=a.nd
  rw [List.map_append] at h
  exact (List.nodup_append.mp h).1
theorem Wk.transM {e:En} (hM:e.M=[]) {F F' H H' : Hp} {Li L L' : LO} (a:Wk e F (Li++L) H) (b:Wk ⟨F,minus H Li,[]⟩ F' L' H'):Wk e F' (L'++L) H':=by
 have own0:∀ x,x∈Li.map Prod.fst→e.H0 x=none:=fun x hx=>by
  obtain ⟨p,hp,rfl⟩:=List.mem_map.mp hx
  rcases (a.ow p (List.mem_append_left _ hp)).2.2 with h | h
  ·exact h
  ·rw [hM] at h;cases h
 have keep:∀ x,e.H0 x≠none→minus H Li x=H x:=fun x h=>Zel fun z=>h (own0 x z)
 refine ⟨a.ff.trans b.ff,fun x o hx h=>?_,fun x h=>?_,b.fh,fun x h h'=>?_,b.tp,fun p hp=>?_,?_⟩
 ·exact b.hh x o (fun z=>nomatch z) (by show minus H Li x=some o;rw [keep x (ne_some h)];exact a.hh x o hx h)
 ·exact b.th x (by show minus H Li x≠none;rw [keep x h];exact a.th x h)
 ·exact b.nw x (by show minus H Li x≠none;rw [keep x h];exact a.th x h) (a.nw x h h')
 ·rcases List.mem_append.mp hp with hp | hp
  ·obtain ⟨h1,h2,h3⟩:=b.ow p hp
   refine ⟨h1,h2,.inl ?_⟩
   have h4:minus H Li p.1=none:=h3.resolve_right fun z=>nomatch z
   by_cases hx:p.1∈Li.map Prod.fst
   ·exact own0 _ hx
   ·rw [Zel hx] at h4
    cases q:e.H0 p.1 with
    | none=>rfl
    | some o=>exact absurd h4 (a.th p.1 (ne_some q))
  ·obtain ⟨h1,h2,h3⟩:=a.ow p (List.mem_append_right _ hp)
   have hx:p.1∉Li.map Prod.fst:=fun z=>by
    have h:=a.nd
    rw [List.map_append] at h
    exact (List.nodup_append.mp h).2.2 p.1 z p.1 (List.mem_map.mpr ⟨p,hp,rfl⟩) rfl
   have e1:minus H Li p.1=some p.2:=by rw [Zel hx];exact h2
   exact ⟨b.nw p.1 (ne_some e1) h1,b.hh p.1 p.2 (fun z=>nomatch z) e1,h3⟩
 ·rw [List.map_append]
  refine List.nodup_append.mpr ⟨b.nd,?_,fun x hx y hy z=>?_⟩
  ·have h:=a.nd
   rw [List.map_append] at h
   exact (List.nodup_append.mp h).2.1
  ·subst z
   obtain ⟨p,hp,e1⟩:=List.mem_map.mp hx
   obtain ⟨q,hq,e2⟩:=List.mem_map.mp hy
   obtain ⟨_,_,h3⟩:=b.ow p hp
   have h4:minus H Li p.1=none:=h3.resolve_right fun z=>nomatch z
   obtain ⟨_,h5,_⟩:=a.ow q (List.mem_append_right _ hq)
   have hx2:q.1∉Li.map Prod.fst:=fun z=>by
    have h:=a.nd
    rw [List.map_append] at h
    exact (List.nodup_append.mp h).2.2 q.1 z q.1 (List.mem_map.mpr ⟨q,hq,rfl⟩) rfl
   have e4:p.1=q.1:=(show p.1=x from e1).trans (show q.1=x from e2).symm
   rw [e4,Zel hx2,h5] at h4
   cases h4
def FnM (C:GCtx) {α:Type} (dr:Dat α) (Γ:List Cell) (ms:List Nat) (post:α→List Cell→Prop) (vs:List V) (H:Hp) (Q:VK) (E:XK):Prop :=
 ∃ F L H0,Wk ⟨F,H0,[]⟩ F L H∧Slots C F (vs.map some) Γ L ∧ ∀ v F' H' r Γm L2,post r Γm→Wk ⟨F,H0,[]⟩ F' L2 H'→dr.rep C F' v r→Slots C F' (ms.map fun j=>vs[j]?) Γm L2→Q v H'
theorem FnM.len {C:GCtx} {α:Type} {dr:Dat α} {Γ:List Cell} {ms:List Nat} {post:α→List Cell→Prop} {vs:List V} {H:Hp} {Q:VK} {E:XK} (h:FnM C dr Γ ms post vs H Q E):vs.length=Γ.length:=by
 obtain ⟨F,L,H0,_,s,_⟩:=h
 simpa using s.len
abbrev AC:=Cell ⊕ (Nat×Cell)
def AC.cell:AC→Cell
 | .inl c=>c
 | .inr p=>p.2
def MArgs (C:GCtx) (F:Hp) (σ:_root_.L2.St):List V→List AC→Prop
 | [],[]=>True
 | v::vs,.inl c::as=>Zdf C F (some v) c []∧MArgs C F σ vs as
 | v::vs,.inr p::as=>σ[p.1]? = some (some v)∧MArgs C F σ vs as
 | [],_::_=>False
 | _::_,[]=>False
theorem MArgs.mono {C:GCtx} {F F' : Hp} {σ:_root_.L2.St} (s:Same F F'):∀ {vs:List V} {as:List AC},MArgs C F σ vs as→MArgs C F' σ vs as
 | [],[],h=>h
 | _::_,.inl _::_,h=>⟨h.1.mono s,h.2.mono s⟩
 | _::_,.inr _::_,h=>⟨h.1,h.2.mono s⟩
 | [],_::_,h=>h.elim
 | _::_,[],h=>h.elim
theorem MArgs.slots {C:GCtx} {F:Hp} {σ:_root_.L2.St}:∀ {vs:List V} {cs:List Cell},MArgs C F σ vs (cs.map .inl)→Slots C F (vs.map some) cs []
 | [],[],_=>.nil
 | _::_,_::_,h=>.cons (L:=[]) (L':=[]) h.1 h.2.slots
 | [],_::_,h=>h.elim
 | _::_,[],h=>h.elim
theorem MArgs.at {C:GCtx} {F:Hp} {σ:_root_.L2.St} {j:Nat} {c:Cell} {post:List AC}:∀ {pre:List Cell} {vs:List V},MArgs C F σ vs (pre.map .inl ++ .inr (j,c)::post) →
  ∃ vs1 v vs2,vs=vs1++v::vs2∧vs1.length=pre.length∧σ[j]? = some (some v)∧Slots C F (vs1.map some) pre []∧MArgs C F σ vs2 post
 | [],v::vs,h=>⟨[],v,vs,rfl,rfl,h.1,.nil,h.2⟩
 | c0::pre,v::vs,h=>by
  obtain ⟨vs1,u,vs2,e,hl,hj,sl,hr⟩:=MArgs.at (pre:=pre) h.2
  exact ⟨v::vs1,u,vs2,by rw [e];rfl,by simp [hl],hj,.cons (L:=[]) (L':=[]) h.1 sl,hr⟩
 | [],[],h=>h.elim
 | _::_,[],h=>h.elim
def MA (Y:YC) (tl:TA) (Γ:List Cell) (k:List AC→Prop):Prop:=∀ (e:En) (F:Hp) (σ:_root_.L2.St) (H:Hp),State Y e F σ H Γ → ∀ Q:List V→Hp→Prop,(∀ vs F' H' as,k as→Gr F H F' H'→MArgs Y.g F' σ vs as→Q vs H')→tl σ H Q
section
variable {tx:XC→Addr} {Y:YC} {Γ:List Cell} {te:TE} {tr tl:TA} {α β τ σ:Type} {d:Dat α} {rest:TS} {js:List Nat} {K:Kt τ}
theorem ma_nil {k:List AC→Prop} (hk:k []):MA Y tNil Γ k:=fun e F σ H s Q q=>q [] F H [] hk s.base trivial
theorem ma_cons {k:List AC→Prop} (h:W Y te Γ d fun x=>MA Y tr Γ fun as=>k (.inl (.val d x)::as)):MA Y (tCons te tr) Γ k:=fun e F σ H s Q q=>h e F σ H s _ fun v F1 H1 x h1 g1 r1=>h1 e F1 σ H1 (s.grow g1) _ fun vs F2 H2 as kc g2 r2 =>
 q (v::vs) F2 H2 _ kc (g1.Zbc g2) ⟨⟨rfl,v,rfl,d.mono g2.ff r1⟩,r2⟩
theorem ma_own {k:List AC→Prop} {od:OD α} {x:α} {j:Nat} {pin:Option V} (hj:Γ[j]? = some (.own d od pin x)) (h:MA Y tr Γ fun as=>k (.inr (j,.own d od none x)::as)):MA Y (tCons (tVar j) tr) Γ k:=fun e F σ H s Q q=>by
 obtain ⟨v,e1,r⟩:=s.own hj
 exact ⟨v,e1,h e F σ H s _ fun vs F2 H2 as kc g2 r2=>q (v::vs) F2 H2 _ kc g2 ⟨e1,r2⟩⟩
def KFM {ρ σ:Type} (cell:ρ→Cell) (chk:σ→List Cell→Prop):Kt (ρ×σ):=⟨fun t Γ=>.val dUnit ()=cell t.1∧chk t.2 Γ,fun t c Γ=>c=cell t.1∧chk t.2 Γ,fun _ _=>False,fun _ _=>False⟩
theorem zm_endM {cell:Unit→Cell} {chk:σ→List Cell→Prop} {x:σ} (hx:chk x Γ) (hc:cell=fun r=>.val dUnit r:=by rfl):Zm tx Y js tNext Γ (KFM cell chk) (.ok ((),x)):=fun nb xk=>by
 subst hc
 exact z_next (k:=(KFM (fun r=>Cell.val dUnit r) chk).ks (M.ok ((),x))) ⟨((),x),rfl,rfl,hx⟩
theorem zm_retNM {cell:Unit→Cell} {chk:σ→List Cell→Prop} {x:σ} (hx:chk x Γ) (hc:cell=fun r=>.val dUnit r:=by rfl):Zm tx Y js (tSeq tRetN rest) Γ (KFM cell chk) (.ok ((),x)):=fun nb xk=>by
 subst hc
 exact z_retN (k:=(KFM (fun r=>Cell.val dUnit r) chk).ks (M.ok ((),x))) ⟨((),x),rfl,rfl,hx⟩
end
theorem Zcy.imm {α:Type} {d:Dat α} [i : @Imm α d] {C:GCtx} {F H:Hp} (t:∀ a xs,H a=some (.tup xs)→F a=some (.tup xs)):∀ {ps:List (Key×V)} {xs:List (Int×α)},Zcy d C H ps xs→Zcy d C F ps xs
 | [],[],_=>trivial
 | _::_,_::_,h=>⟨h.1,i.imm t h.2.1,Zcy.imm t h.2.2⟩
 | [],_::_,h=>h.elim
 | _::_,[],h=>h.elim
instance mDI {α:Type} [d:Dat α] [i:Imm α]:OIm (DI α) oDI:=⟨fun t ⟨a,ps,e,h,r⟩=>⟨a,ps,e,h,r.imm t⟩⟩
section
variable {tx:XC→Addr} {Y:YC} {Γ:List Cell} {te:TE} {tr tl:TA} {α β τ σ:Type} {d:Dat α} {rest:TS} {js:List Nat} {K:Kt τ} {j0:Nat}
end
end G
end
section
set_option maxHeartbeats 2000000
noncomputable section
namespace L2
open PySem PySem.Spec PyProof.Rows
section
variable {X:Cx}
end
end L2
namespace G
open PySem PySem.Spec PyProof.Rows L2 PySem.W
section
variable {tx:XC→Addr} {Y:YC} {Γ:List Cell} {ta te tl:TE} {tt:TT} {g:TG} {α τ:Type} {d:Dat α} {vs:List Nat}
end
end G
end
end
noncomputable section
namespace G
open PySem PySem.Spec PyProof.Rows L2 PySem.W
section
variable {tx:XC→Addr} {Y:YC} {Γ:List Cell} {ta tb tc:TE}
end
section
variable {tx:XC→Addr} {Y:YC} {Γ:List Cell} {ta tb te:TE} {α τ:Type} {d:Dat α} {rest:TS} {js:List Nat} {K:Kt τ}
def M.appIx {α:Type} (xs:List (List α)) (mi:M Int) (mv:M α):M (List (List α)):=mi>>=fun n=>M.ofO (ixN xs.length n)>>=fun j=>M.ofO xs[j]? >>= fun x=>mv>>=fun y=>M.asrt (x.length<PySem.sizeLine) (.ok (xs.set j (x++[y])))
theorem zm_appendIx {pin:Option V} {i:Nat} {xs:List (List α)} {mi:M Int} {mv:M α} {m2:List (List α)→M τ} (hi:Γ[i]? = some (.own (dList (d:=dList (d:=d))) (Zea (oList (d:=d))) pin xs)) (hj:i∈js) (hx:Re tx Y ta Γ dInt mi) (hv:We tx Y te Γ d mv)
  (h2:∀ y,Zm tx Y js rest (Γ.set i (.own (dList (d:=dList (d:=d))) (Zea (oList (d:=d))) pin y)) K (m2 y)):Zm tx Y js (tSeq (tDrop (tBM Y.K "list" rAppend (tOp (rIxL Y.K) (tVar i) ta) (tCons te tNil))) rest) Γ K (M.appIx xs mi mv>>=m2):=fun nb xk =>
 ZdW (z_appendIx hi (hx.k (M.nb1 nb) xk.l.here fun n e nb3 xk3=>by
  cases hq:ixN xs.length n with
  | none=>rw [hq] at nb3;exact absurd rfl nb3
  | some j =>
   rw [hq] at nb3 xk3
   have nb3' : (M.ofO xs[j]? >>= fun x=>mv>>=fun y=>M.asrt (x.length<PySem.sizeLine) (.ok (xs.set j (x++[y])))).nb:=nb3
   have xk3' : XkM tx Y Γ (M.ofO xs[j]? >>= fun x=>mv>>=fun y=>M.asrt (x.length<PySem.sizeLine) (.ok (xs.set j (x++[y])))):=xk3
   cases hz:xs[j]? with
   | none=>rw [hz] at nb3';exact absurd rfl nb3'
   | some x =>
    rw [hz] at nb3' xk3'
    exact ⟨j,x,rfl,hz,hv.k nb3' xk3' fun y e2 nb4 _=>⟨M.Zbv nb4,(h2 _).go nb xk (by unfold M.appIx;rw [e];show (M.ofO (ixN xs.length n)>>=_)=_;rw [hq];show (M.ofO xs[j]? >>= _)=_;rw [hz];show (mv>>=_)=_;rw [e2];exact M.Zah (M.Zbv nb4)) (ZaL hj)⟩⟩))
end
end G
end
noncomputable section
namespace G
open PySem PySem.Spec PyProof.Rows L2 PySem.W
section
variable {tx:XC→Addr} {Y:YC} {Γ:List Cell} {ta tb te:TE} {α β τ σ:Type} {d:Dat α} {ts rest:TS} {js js' : List Nat} {K:Kt τ} {i:Nat}
def M.remove (xs:List Int) (m:M Int):M (List Int):=m>>=fun k=>M.asrt (k∈xs) (.ok (xs.erase k))
end
end G
end
noncomputable section
namespace G
open PySem PySem.Spec PyProof.Rows L2 PySem.W
section
variable {tx:XC→Addr} {Y:YC} {Γ:List Cell} {te ta tb tc td tl:TE} {t u tt:TT} {α β γ δ ε σ τ ρ:Type} {d:Dat α} {d1:Dat α} {d2:Dat β} {d3:Dat γ} {g:TG} {ts t1 t2 rest:TS} {js js' vs:List Nat} {K:Kt τ}
def BodyP (Y:YC) (g:TG) (ts:TS) {α:Type} (d:Dat α) (k:Ks) (get:Nat→Option α) (n:Nat) (Γ:List Cell) (P:List Cell→Prop):Prop :=
 ∃ I:Nat→List Cell→Prop,I 0 Γ∧(∀ n Γ',I n Γ'→P Γ')∧(∀ i x Γ',get i=some x→I i Γ'→A Y g Γ' d x fun Γ2=>Z Y ts Γ2 { nx:=I (i+1),ct:=I (i+1),bk:=k.nx,rt:=k.rt }) ∧ ∀ Γ',I n Γ'→k.nx Γ'
theorem BodyP.body {k:Ks} {get:Nat→Option α} {n:Nat} {P:List Cell→Prop} (h:BodyP Y g ts d k get n Γ P):Body Y g ts d k get n Γ:=let ⟨I,h0,_,hs,hd⟩:=h; ⟨I,h0,hs,hd⟩
end
end G
end
noncomputable section
namespace G
open PySem PySem.Spec PyProof.Rows L2 PySem.W
def optU {α:Type} (f:α→PyData):Opt α→PyData
 | .none=>.none
 | .some x=>f x
instance udOpt {α:Type} {d:Dat α} [u : @UD α d] : @UD (Opt α) (dOpt (d:=d)):=⟨optU u.toU,fun {C F v x} h=>match x,h with
 | .none,h=>h
 | .some _,h=>u.du h⟩
end G
end
noncomputable section
namespace G
open PySem PySem.Spec PyProof.Rows L2 PySem.W
class OU (α:Type) [d:Dat α] where
 ofU:PyData→Option α
 snd:∀ {C:GCtx} {F:Hp} {v:V} {x:PyData} {y:α},ofU x=some y→DU C F x v→d.rep C F v y
def ofInt:PyData→Option Int | .int i=>some i | _=>none
def ofBool:PyData→Option Bool | .bool i=>some i | _=>none
def ofStr:PyData→Option Str | .str i=>some i | _=>none
instance ouInt:OU Int:=⟨ofInt,fun {C F v x y} h r=>by cases x<;>cases h;exact r⟩
instance ouBool:OU Bool:=⟨ofBool,fun {C F v x y} h r=>by cases x<;>cases h;exact r⟩
instance ouStr:OU Str:=⟨ofStr,fun {C F v x y} h r=>by cases x<;>cases h;exact r⟩
def ofAll {α:Type} (f:PyData→Option α):List PyData→Option (List α)
 | []=>some []
 | x::xs=>match f x,ofAll f xs with | some y,some ys=>some (y::ys) | _,_=>none
theorem ofAll_reps {α:Type} {d:Dat α} [o : @OU α d] {C:GCtx} {F:Hp}:∀ {ds:List PyData} {ys:List α} {vs:List V},ofAll o.ofU ds=some ys→DUs C F ds vs→Reps d C F vs ys
 | [],ys,[],h,_=>by cases h;trivial
 | x::xs,ys,v::vs,h,r=>by
  unfold ofAll at h
  cases h1:o.ofU x with
  | none=>rw [h1] at h;cases h
  | some y =>
   cases h2:ofAll o.ofU xs with
   | none=>rw [h1,h2] at h;cases h
   | some zs =>
    rw [h1,h2] at h
    cases h
    exact ⟨o.snd h1 r.1,ofAll_reps h2 r.2⟩
 | [],_,_::_,_,r=>r.elim
 | _::_,_,[],_,r=>r.elim
def ofList {α:Type} (f:PyData→Option α):PyData→Option (List α)
 | .list ds=>ofAll f ds
 | _=>none
def ofTup {α:Type} (f:PyData→Option α):PyData→Option (Tup α)
 | .tuple ds=>(ofAll f ds).map fun xs=>⟨xs⟩
 | _=>none
instance ouList {α:Type} {d:Dat α} [o : @OU α d] : @OU (List α) dList:=⟨ofList o.ofU,fun {C F v x y} h r=>by
 cases x with
 | list ds =>
  obtain ⟨a,vs,e,h1,r1⟩:=r
  exact ⟨a,vs,e,h1,ofAll_reps h r1⟩
 | _=>cases h⟩
instance ouTup {α:Type} {d:Dat α} [o : @OU α d] : @OU (Tup α) dTup:=⟨ofTup o.ofU,fun {C F v x y} h r=>by
 cases x with
 | tuple ds =>
  obtain ⟨a,vs,e,h1,r1⟩:=r
  have h:(ofAll o.ofU ds).map (fun xs=>(⟨xs⟩:Tup α))=some y:=h
  cases h2:ofAll o.ofU ds with
  | none=>rw [h2] at h;cases h
  | some xs =>
   rw [h2] at h
   cases h
   exact ⟨a,vs,e,h1,ofAll_reps h2 r1⟩
 | _=>cases h⟩
def ofPair {α β:Type} (f:PyData→Option α) (g:PyData→Option β):PyData→Option (α×β)
 | .tuple [x,y]=>match f x,g y with | some a,some b=>some (a,b) | _,_=>none
 | _=>none
instance ouPair {α β:Type} {d1:Dat α} {d2:Dat β} [o1 : @OU α d1] [o2 : @OU β d2] : @OU (α×β) dPair:=⟨ofPair o1.ofU o2.ofU,fun {C F v x y} h r=>by
 unfold ofPair at h
 split at h
 ·rename_i x1 x2
  cases h1:o1.ofU x1 with
  | none=>rw [h1] at h;cases h
  | some a =>
   cases h2:o2.ofU x2 with
   | none=>rw [h1,h2] at h;cases h
   | some b =>
    rw [h1,h2] at h
    cases h
    obtain ⟨p,vs,e,ht,r1⟩:=r
    match vs,r1 with
    | [v1,v2],r1=>exact ⟨p,v1,v2,e,ht,o1.snd h1 r1.1,o2.snd h2 r1.2.1⟩
 ·cases h⟩
def ofT4 {α β γ δ:Type} (f:PyData→Option α) (g:PyData→Option β) (h:PyData→Option γ) (i:PyData→Option δ):PyData→Option (T4 α β γ δ)
 | .tuple [x,y,z,w]=>match f x,g y,h z,i w with | some a,some b,some c,some d=>some ⟨a,b,c,d⟩ | _,_,_,_=>none
 | _=>none
instance ouT4 {α β γ δ:Type} {d1:Dat α} {d2:Dat β} {d3:Dat γ} {d4:Dat δ} [o1 : @OU α d1] [o2 : @OU β d2] [o3 : @OU γ d3] [o4 : @OU δ d4] : @OU (T4 α β γ δ) dT4:=⟨ofT4 o1.ofU o2.ofU o3.ofU o4.ofU,fun {C F v x y} h r=>by
 unfold ofT4 at h
 split at h
 ·rename_i x1 x2 x3 x4
  cases h1:o1.ofU x1 with
  | none=>rw [h1] at h;cases h
  | some a =>
   cases h2:o2.ofU x2 with
   | none=>rw [h1,h2] at h;cases h
   | some b =>
    cases h3:o3.ofU x3 with
    | none=>rw [h1,h2,h3] at h;cases h
    | some c =>
     cases h4:o4.ofU x4 with
     | none=>rw [h1,h2,h3,h4] at h;cases h
     | some d =>
      rw [h1,h2,h3,h4] at h
      cases h
      obtain ⟨p,vs,e,ht,r1⟩:=r
      match vs,r1 with
      | [v1,v2,v3,v4],r1=>exact ⟨p,v1,v2,v3,v4,e,ht,o1.snd h1 r1.1,o2.snd h2 r1.2.1,o3.snd h3 r1.2.2.1,o4.snd h4 r1.2.2.2.1⟩
 ·cases h⟩
section
variable {tx:XC→Addr} {Y:YC} {Γ:List Cell} {te:TE} {α:Type} {d:Dat α}
theorem ZaB [o : @OU α d] {m:M PyData} (h:We tx Y te Γ dU m):We tx Y te Γ d (m>>=fun x=>M.ofO (o.ofU x)):=fun nb xk e F σ H s Q q =>
 (h.k nb xk (k:=fun x=>∃ y,o.ofU x=some y∧(m>>=fun x=>M.ofO (o.ofU x)) = .ok y) fun x ex nb2 _=>by
  cases hx:o.ofU x with
  | none=>rw [hx] at nb2;exact absurd rfl nb2
  | some y=>exact ⟨y,rfl,by rw [ex];show M.ofO (o.ofU x)=_;rw [hx];rfl⟩) e F σ H s _ fun v F' H' x ⟨y,hy,ky⟩ g r=>q v F' H' y ky g (o.snd hy r)
end
end G
end
noncomputable section
namespace G
open PySem PySem.Spec PyProof.Rows L2 PySem.W
section
variable {tx:XC→Addr} {Y:YC} {Γ:List Cell} {te:TE} {α:Type} {d:Dat α}
end
end G
end
noncomputable section
namespace G
open PySem PySem.Spec PyProof.Rows L2 PySem.W
@[reducible] def oFz {α:Type} {d:Dat α} : @OD α d:=@OD.mk α d (fun C F v x L=>L=[]∧d.rep C F v x) (fun s ⟨e,r⟩=>⟨e,d.mono s r⟩) (fun ⟨_,r⟩ s _=>d.mono s r)
section
variable {tx:XC→Addr} {Y:YC} {Γ:List Cell} {α τ:Type} {d:Dat α} {ts:TS} {js:List Nat} {K:Kt τ} {m:M τ} {x:α}
end
end G
end
noncomputable section
namespace G
open PySem PySem.Spec PyProof.Rows L2 PySem.W
section
variable {tx:XC→Addr} {Y:YC} {Γ:List Cell} {α:Type} {d:Dat α}
end
section
variable {Y:YC} {Γ:List Cell} {α β γ:Type} {d:Dat α} {d1:Dat γ} {d2:Dat β} {g g1:TG} {tt tt1:TT} {te:TE} {ti ti1:TI} {vs vs1:List Nat}
end
namespace M
variable {α β γ:Type}
end M
section
variable {tx:XC→Addr} {Y:YC} {Γ:List Cell} {α β γ:Type} {d:Dat α} {d1:Dat γ} {d2:Dat β} {g g1:TG} {tt tt1:TT} {te:TE} {ti ti1:TI} {vs vs1:List Nat}
end
end G
end
namespace G
open PySem PySem.Spec PyProof.Rows L2 PySem.W
section
variable {X:Cx} {CXt:CXT} {k:Nat} {f C:Addr} {fd:FuncData} {ps:List Str} {sp:Sp}
def EqArg (K:Frag) (C:Addr) (y:V) (H:Hp):Prop:=∃ b,y = .ref b∧((∃ dy gs,H b=some (.ins C dy gs))∨(notFirst K C (.type "tuple")=true ∧ ∃ ys,TpA K H b ys))
theorem EqArg.mono {K:Frag} {C:Addr} {y:V} {F H:Hp} (h:EqArg K C y F) (s:Same F H):EqArg K C y H:=let ⟨b,e,h⟩:=h; ⟨b,e,h.imp (fun ⟨dy,gs,h⟩=>⟨dy,gs,s _ _ h⟩) fun ⟨n,ys,h⟩=>⟨n,ys,h.mono s⟩⟩
end
section
variable {X:Cx} {CXt:CXT} {k:Nat} {f C:Addr} {fd:FuncData} {ps:List Str} {sp:Sp}
end
section
variable {Y:YC} {Γ:List Cell} {ta tb:TE} {α β:Type} {d:Dat α} {d2:Dat β} {C0:Addr} {ns:List Str} {sp:Sp}
end
section
variable {tx:XC→Addr} {Y:YC} {Γ:List Cell} {t1 t2:TE} {α1 α2:Type} {d1:Dat α1} {d2:Dat α2} {m1:M α1} {m2:M α2} {C0:Addr} {ns:List Str} {sp:Sp}
end
end G
namespace G
open PySem PySem.Spec PyProof.Rows L2 PySem.W
section
variable {X:Cx}
end
section
variable {X:Cx} {CXt:CXT} {k:Nat} {g C:Addr} {fd:FuncData} {ps:List Str} {f:Str} {e tg:Expr} {te:TE}
end
section
variable {Y:YC} {Γ:List Cell} {te:TE} {α β:Type} {d:Dat α} {d2:Dat β} {C0:Addr} {f:Str}
variable {tx:XC→Addr}
end
end G
noncomputable section
namespace G
open PySem PySem.Spec PyProof.Rows L2 PySem.W
@[reducible] def Mix (β:Type):=Sum β PyData
@[reducible] def dMix {β:Type} (d:Dat β):Dat (Mix β):=⟨fun C F v x=>match x with
 | .inl y=>d.rep C F v y
 | .inr u=>DU C F u v,fun {C F F' v x} s h=>match x,h with
 | .inl _,h=>d.mono s h
 | .inr _,h=>DU.mono s _ _ h⟩
section
variable {α β γ α2 β2:Type} {d:Dat α} {d2:Dat β} {d3:Dat γ} {e1:Dat α2} {e2:Dat β2}
end
section
variable {tx:XC→Addr} {Y:YC} {Γ:List Cell} {te:TE} {α β:Type} {d:Dat α} {d2:Dat β}
end
end G
end
noncomputable section
namespace G
open PySem PySem.Spec PyProof.Rows L2 PySem.W
section
variable {Y:YC} {Γ:List Cell} {te:TE} {α:Type} {d:Dat α} {k:Ks}
end
section
variable {tx:XC→Addr} {Y:YC} {Γ:List Cell} {te:TE} {α τ:Type} {d:Dat α} {K:Kt τ} {rest:TS} {js:List Nat}
def M.ext {α:Type} (xs:List α) (m:M (List α)):M (List α):=m>>=fun ys=>M.asrt (xs.length+ys.length≤PySem.sizeLine) (.ok (xs++ys))
end
end G
end
noncomputable section
namespace G
open PySem PySem.Spec PyProof.Rows L2 PySem.W
section
variable {X:Cx}
end
section
variable {tx:XC→Addr} {Y:YC} {Γ:List Cell} {ta tb:TE}
end
section
variable {α β γ δ:Type} {d:Dat α} {d2:Dat β} {d3:Dat γ} {d4:Dat δ}
end
section
variable {tx:XC→Addr} {Y:YC} {Γ:List Cell} {ta:TE}
end
end G
end
noncomputable section
namespace G
open PySem PySem.Spec PyProof.Rows L2 PySem.W
theorem Wk.perm2 {e:En} {F H:Hp} {L L' : LO} (a:Wk e F L H) (p:L.Perm L'):Wk e F L' H :=
 a.sub (fun _ h=>p.mem_iff.mpr h) ((p.map Prod.fst).nodup_iff.mp a.nd)
section
variable {tx:XC→Addr} {Y:YC} {Γ:List Cell} {te:TE} {tr tl:TA} {α1 α2 β τ σ:Type} {d1:Dat α1} {d2:Dat α2} {rest:TS} {js:List Nat} {K:Kt τ}
theorem Zdv {γ:Type _} {xs:List γ} {i j:Nat} {a b:γ} (h:i≠j):(xs.set i a).set j b=(xs.set j b).set i a:=List.set_comm _ _ h
theorem State.mut2 {e:En} {F:Hp} {σ:_root_.L2.St} {H:Hp} {od1:OD α1} {od2:OD α2} {x1:α1} {x2:α2} {j1 j2:Nat} {p1 p2:Option V} (s:State Y e F σ H Γ) (hn:j1≠j2) (h1:Γ[j1]? = some (.own d1 od1 p1 x1)) (h2:Γ[j2]? = some (.own d2 od2 p2 x2)) :
  ∃ v1 v2 L1 L2 rest,σ[j1]? = some (some v1)∧σ[j2]? = some (some v2)∧od1.orep Y.g F v1 x1 L1∧od2.orep Y.g F v2 x2 L2∧Wk e F ((L1++L2)++rest) H ∧
  ∀ F' H' L1' L2' x1' x2',Same F F'→Wk e F' ((L1'++L2')++rest) H'→od1.orep Y.g F' v1 x1' L1'→od2.orep Y.g F' v2 x2' L2'→State Y e F' σ H' ((Γ.set j1 (.own d1 od1 p1 x1')).set j2 (.own d2 od2 p2 x2')):=by
 obtain ⟨hx,L,k,sl⟩:=s
 obtain ⟨o,A1,Li1,A2,e1,e2,⟨v1,rfl,hp1,r1⟩,f⟩:=sl.get h1
 subst e2
 have sl1:=f F (some v1) .no [] (Same.refl _) rfl
 rw [set_same e1] at sl1
 have h2' : (Γ.set j1 .no)[j2]? = some (.own d2 od2 p2 x2):=by rw [List.getElem?_set_ne hn];exact h2
 obtain ⟨o2,B1,Li2,B2,e3,e4,⟨v2,rfl,hp2,r2⟩,g⟩:=sl1.get h2'
 have e4' : A1++A2=B1++Li2++B2:=by simpa using e4
 have pm:(A1++Li1++A2).Perm ((Li1++Li2)++(B1++B2)):=by
  have q1:(A1++Li1++A2).Perm (Li1++(A1++A2)):=by
   have:=(List.perm_append_comm (l₁:=A1) (l₂:=Li1)).append_right A2
   simpa [List.append_assoc] using this
  have q2:(B1++Li2++B2).Perm (Li2++(B1++B2)):=by
   have:=(List.perm_append_comm (l₁:=B1) (l₂:=Li2)).append_right B2
   simpa [List.append_assoc] using this
  rw [e4'] at q1
  have q3:=q1.trans (q2.append_left Li1)
  simpa [List.append_assoc] using q3
 refine ⟨v1,v2,Li1,Li2,B1++B2,e1,e3,r1,r2,k.perm2 pm,fun F' H' L1' L2' x1' x2' s' k' r1' r2'=>?_⟩
 have sl2:=g F' (some v2) (.own d2 od2 p2 x2') L2' s' ⟨v2,rfl,hp2,r2'⟩
 rw [set_same e3] at sl2
 have hlt:j1<Γ.length:=(List.getElem?_eq_some_iff.mp h1).1
 have h3:((Γ.set j1 .no).set j2 (.own d2 od2 p2 x2'))[j1]? = some .no:=by
  rw [List.getElem?_set_ne (Ne.symm hn),List.getElem?_set_self hlt]
 obtain ⟨o3,C1,Lz,C2,e5,e6,hz,q⟩:=sl2.get h3
 have hz:Lz=[]:=hz
 subst hz
 have sl3:=q F' (some v1) (.own d1 od1 p1 x1') L1' (Same.refl _) ⟨v1,rfl,hp1,r1'⟩
 rw [set_same e1] at sl3
 have eΓ:((Γ.set j1 .no).set j2 (.own d2 od2 p2 x2')).set j1 (.own d1 od1 p1 x1')=(Γ.set j1 (.own d1 od1 p1 x1')).set j2 (.own d2 od2 p2 x2'):=by
  rw [Zdv hn,List.set_set,Zdv (Ne.symm hn)]
 rw [eΓ] at sl3
 refine ⟨hx,C1++L1'++C2,k'.perm2 ?_,sl3⟩
 have e6' : B1++L2'++B2=C1++C2:=by simpa using e6
 have q2:(Li2++(B1++B2)).Perm (B1++Li2++B2):=by
  have:=(List.perm_append_comm (l₁:=B1) (l₂:=Li2)).append_right B2
  simpa [List.append_assoc] using this.symm
 have q2' : (L2'++(B1++B2)).Perm (B1++L2'++B2):=by
  have:=(List.perm_append_comm (l₁:=B1) (l₂:=L2')).append_right B2
  simpa [List.append_assoc] using this.symm
 rw [e6'] at q2'
 have q3:(L1'++(C1++C2)).Perm (C1++L1'++C2):=by
  have:=(List.perm_append_comm (l₁:=C1) (l₂:=L1')).append_right C2
  simpa [List.append_assoc] using this.symm
 have:=(q2'.append_left L1').trans q3
 simpa [List.append_assoc] using this
end
end G
end
noncomputable section
namespace G
open PySem PySem.Spec PyProof.Rows L2 PySem.W ClX
section
variable {X:Cx} {CXt:CXT} {k i:Nat} {C p g f:Addr} {mc:Value} {fd:FuncData} {ps:List Str} {sp:Sp} {E:L2.St→XK} {o e:Expr} {es:List Expr} {m x:Str} {pos apos np:Pos} {ta:TE} {t:TA} {pl:Sem Bool}
end
@[reducible] def dCls (C0:Addr):Dat Unit:=⟨fun _ _ v _=>v = .ref C0,fun _ h=>h⟩
section
variable {tx:XC→Addr} {Y:YC} {Γ:List Cell} {te:TE} {tl:TA} {α β:Type} {d:Dat β} {sp:Sp} {E:_root_.L2.St→XK} {C0:Addr}
end
end G
end
noncomputable section
namespace G
open PySem PySem.Spec PyProof.Rows L2 PySem.W
instance oimOb2 {α β:Type} {d1:Dat α} {d2:Dat β} [i1 : @Imm α d1] [i2 : @Imm β d2] {C0:Addr} {f1 f2:Str} : @OIm (Ob2 α β) (dOb2 (d1:=d1) (d2:=d2) C0 f1 f2) (oOb2 (d1:=d1) (d2:=d2) C0 f1 f2) :=
 @OIm.mk _ (dOb2 (d1:=d1) (d2:=d2) C0 f1 f2) (oOb2 (d1:=d1) (d2:=d2) C0 f1 f2) (fun t ⟨p,dx,v1,v2,e,h,r1,r2⟩=>⟨p,dx,v1,v2,e,h,i1.imm t r1,i2.imm t r2⟩)
instance oimOb1 {α:Type} {d1:Dat α} [i1 : @Imm α d1] {C0:Addr} {f1:Str} : @OIm (Ob1 α) (dOb1 (d1:=d1) C0 f1) (oOb1 (d1:=d1) C0 f1) :=
 @OIm.mk _ (dOb1 (d1:=d1) C0 f1) (oOb1 (d1:=d1) C0 f1) (fun t ⟨p,dx,v1,e,h,r1⟩=>⟨p,dx,v1,e,h,i1.imm t r1⟩)
mutual
def noL:PyData→Bool
 | .list _=>false
 | .tuple ds=>noLs ds
 | .dict _=>false
 | _=>true
def noLs:List PyData→Bool
 | []=>true
 | d::ds=>noL d&&noLs ds
end
mutual
theorem DU.imm {C:GCtx} {F H:Hp} (t:∀ a xs,H a=some (.tup xs)→F a=some (.tup xs)):∀ (x:PyData) (v:V),noL x=true→DU C H x v→DU C F x v
 | .none,_,_,h=>h
 | .bool _,_,_,h=>h
 | .int _,_,_,h=>h
 | .str _,_,_,h=>h
 | .list _,_,n,_=>by cases n
 | .tuple ds,v,n,⟨a,vs,e,h,r⟩=>⟨a,vs,e,h.imp (t a _) id,DUs.imm t ds vs n r⟩
 | .dict _,_,_,h=>h.elim
theorem DUs.imm {C:GCtx} {F H:Hp} (t:∀ a xs,H a=some (.tup xs)→F a=some (.tup xs)):∀ (xs:List PyData) (vs:List V),noLs xs=true→DUs C H xs vs→DUs C F xs vs
 | [],[],_,h=>h
 | d::ds,v::vs,n,h=>by
  have n2:(noL d&&noLs ds)=true:=n
  rw [Bool.and_eq_true] at n2
  exact ⟨DU.imm t d v n2.1 h.1,DUs.imm t ds vs n2.2 h.2⟩
 | [],_::_,_,h=>h.elim
 | _::_,[],_,h=>h.elim
end
@[reducible] def dUI:Dat PyData:=⟨fun C F v x=>noL x=true∧DU C F x v,fun s ⟨n,h⟩=>⟨n,DU.mono s _ _ h⟩⟩
instance imUI : @Imm PyData dUI:=@Imm.mk PyData dUI fun t ⟨n,h⟩=>⟨n,DU.imm t _ _ n h⟩
class UI (α:Type) [d:Dat α] [u:UD α]:Prop where
 no:∀ x:α,noL (u.toU x)=true
instance uiInt:UI Int:=⟨fun _=>rfl⟩
instance uiBool:UI Bool:=⟨fun _=>rfl⟩
instance uiStr:UI Str:=⟨fun _=>rfl⟩
instance uiUnit:UI Unit:=⟨fun _=>rfl⟩
theorem noLs_map {α:Type} {d:Dat α} [u : @UD α d] [n : @UI α d u]:∀ xs:List α,noLs (xs.map u.toU)=true
 | []=>rfl
 | x::xs=>by show (noL _&&noLs _)=true;rw [n.no x,noLs_map xs];rfl
instance uiTup {α:Type} {d:Dat α} [u : @UD α d] [n : @UI α d u] : @UI (Tup α) dTup udTup:=@UI.mk _ dTup udTup fun x=>noLs_map x.l
instance uiPair {α β:Type} {d1:Dat α} {d2:Dat β} [u1 : @UD α d1] [u2 : @UD β d2] [n1 : @UI α d1 u1] [n2 : @UI β d2 u2] : @UI (α×β) dPair udPair:=@UI.mk _ dPair udPair fun x=>by
 show (noL _&&(noL _&&true))=true
 rw [n1.no,n2.no];rfl
instance uiT3 {α β γ:Type} {d1:Dat α} {d2:Dat β} {d3:Dat γ} [u1 : @UD α d1] [u2 : @UD β d2] [u3 : @UD γ d3] [n1 : @UI α d1 u1] [n2 : @UI β d2 u2] [n3 : @UI γ d3 u3] : @UI (T3 α β γ) dT3 udT3:=@UI.mk _ dT3 udT3 fun x=>by
 show (noL _&&(noL _&&(noL _&&true)))=true
 rw [n1.no,n2.no,n3.no];rfl
instance uiT4 {α β γ δ:Type} {d1:Dat α} {d2:Dat β} {d3:Dat γ} {d4:Dat δ} [u1 : @UD α d1] [u2 : @UD β d2] [u3 : @UD γ d3] [u4 : @UD δ d4] [n1 : @UI α d1 u1] [n2 : @UI β d2 u2] [n3 : @UI γ d3 u3] [n4 : @UI δ d4 u4] : @UI (T4 α β γ δ) dT4 udT4:=@UI.mk _ dT4 udT4 fun x=>by
 show (noL _&&(noL _&&(noL _&&(noL _&&true))))=true
 rw [n1.no,n2.no,n3.no,n4.no];rfl
section
variable {tx:XC→Addr} {Y:YC} {Γ:List Cell} {te:TE} {α:Type} {d:Dat α}
theorem w_UI [u : @UD α d] [n : @UI α d u] {k:PyData→Prop} (h:W Y te Γ d fun x=>k (u.toU x)):W Y te Γ dUI k:=fun e F σ H s Q q=>h e F σ H s Q fun v F' H' x kx g r=>q v F' H' _ kx g ⟨n.no x,u.du r⟩
theorem Zaw [u : @UD α d] [n : @UI α d u] {m:M α} (h:We tx Y te Γ d m):We tx Y te Γ dUI (m>>=fun x=>.ok (u.toU x)):=we_p1w (f:=u.toU) (fun k h=>w_UI h) h
theorem Zam {m:M PyData} (h:We tx Y te Γ dUI m):We tx Y te Γ dU m:=fun nb xk e F σ H s Q q=>h nb xk e F σ H s Q fun v F' H' x kx g r=>q v F' H' x kx g r.2
end
end G
namespace L2
open PySem PySem.Spec PyProof.Rows
structure FnC (P:Program) (w:World) (K:PySem.W.Frag) (mg:Str→Option Value) (base:Heap) (CX:CXT) (k:Nat) (f:Addr) (fd:FuncData) (ps:List Str) (sp:Sp):Prop where
 len:∀ vs H Q E,sp vs H Q E→vs.length=ps.length
 run:∀ (A:Around) (outer:List Env) (s:Shared) (H:Hp) (args:Args) (us:List Value) (vs:List V) (Q:VK) (E:XK),L2H.RoomH k A→Env0 P w K mg base A outer s H→BindsTo s fd args (ps.zip us)→Vals vs us→sp vs H Q E →
  codeAny (model P w) A (.call (.ref f) args) (CR CX outer P w H s Q E) s
def cxC (CX:CXT) (P:Program) (w:World) (K:PySem.W.Frag) (mg:Str→Option Value) (base:Heap) (N:List Str) (qual:Str) (scope:Scope) (f:Addr) (cd:Value) (A:Around) (outer:List Env) (s:Shared) (H:Hp) (E:XK):Cx :=
 { cxOf CX P w K mg base N qual scope f cd A outer s H E with calm:=false }
theorem inv_startC {CX:CXT} {P:Program} {w:World} {K:PySem.W.Frag} {mg:Str→Option Value} {base:Heap} {N ps:List Str} {qual:Str} {scope:Scope} {f:Addr} {cd:Value} {A:Around} {outer:List Env} {s s1:Shared} {H:Hp} {E:XK} {us:List Value} {vs:List V}
  (S:FnScope N ps scope) (e0:Env0 P w K mg base A outer s H) (hl:vs.length=ps.length) (r:Vals vs us)
  (x:InCallC s s.heap.objs.size (bindL (envOfC qual scope s.heap.objs.size f cd).kindOf (ps.zip us) fun _=>none) (cellsFrom (s.heap.objs.size+1) scope.names []) (bindC (envOfC qual scope s.heap.objs.size f cd).kindOf (ps.zip us) fun _=>none) s1) :
  Inv (cxC CX P w K mg base N qual scope f cd A outer s H E) [] (L2.start N vs) H s1:=by
 have hpl:ps.length≤N.length:=by have:=congrArg List.length S.pre;rw [List.length_take] at this;omega
 obtain ⟨h1,tk,rfl,hk⟩:=x.done
 have noA:∀ b:Addr,b∉(cxC CX P w K mg base N qual scope f cd A outer s H E).ex:=fun b z=>absurd (show b∈([]:List Addr) from z) (by simp)
 refine ⟨⟨e0.mod,S.kind,rfl,rfl,Nat.le_refl _,fun y z c h1 h2=>?_,fun y hy=>?_,fun y c _ h=>?_,(fun z=>Bool.noConfusion (show false=true from z)),Around.frames_deeper e0.frames,.inr ⟨rfl,rfl⟩,fun b z=>absurd z (noA b),e0.bs,e0.bsz,fun b _ _=>noA b,fun b z=>absurd z (noA b),e0.funs,e0.frf⟩,
  rfl,e0.bare,Un.kept hk,⟨_,x.toInCall.ns,fun i y v h1 h2 h3=>?_⟩,fun y c h=>⟨_,x.cell y c h⟩,e0.hok.fresh (Nat.le_refl _),fun y c h=>?_,fun p hp=>absurd (show p∈([]:List (Addr×Obj)) from hp) (by simp),e0.hok.kept hk,?_⟩
 ·exact name_of_addr x.apart (PySem.mem_of_lookup h1) (PySem.mem_of_lookup h2)
 ·have hy:scope.names.lookup y=some .cell∨scope.names.lookup y=some .free:=hy
  rcases hy with hy | hy
  ·exact cell_has hy
  ·exact absurd rfl (S.nofree _ (PySem.mem_of_lookup hy))
 ·exact Nat.le_of_lt (x.above y c (PySem.mem_of_lookup h))
 ·have hi:i<vs.length:=by
   unfold L2.start at h2
   by_cases hi:i<vs.length
   ·exact hi
   ·rw [List.getElem?_append_right (by simpa using hi)] at h2
    rw [List.getElem?_replicate] at h2
    split at h2<;>cases h2
  have ha:vs[i]? = some v:=by
   unfold L2.start at h2
   rw [List.getElem?_append_left (by simpa using hi),List.getElem?_map] at h2
   cases e:vs[i]? with
   | none=>rw [e] at h2;cases h2
   | some a=>rw [e] at h2;cases h2;rfl
  obtain ⟨u,hu,rv⟩:=r.get ha
  have hp:ps[i]? = some y:=by
   rw [← S.pre,List.getElem?_take_of_lt (by omega)];exact h1
  have ndP:ps.Nodup:=by rw [← S.pre];exact S.nd.sublist (List.take_sublist _ _)
  refine ⟨u,rv,?_⟩
  rcases S.par y (List.mem_of_getElem? hp) with k | k
  ·exact .inl ⟨k,bindL_get ndP hp hu k⟩
  ·obtain ⟨c,e⟩:=cell_has (n:=s.heap.objs.size+1) k
   refine .inr ⟨.inl k,c,e,?_⟩
   have q:=x.cell y c e
   rw [bindC_get ndP hp hu (by show scope.names.lookup y≠_;rw [k];decide)] at q
   exact q
 ·exact e0.hok.fresh (Nat.le_of_lt (x.above y c (PySem.mem_of_lookup h)))
 ·unfold L2.start
  show _=N.length
  rw [List.length_append,List.length_map,List.length_replicate]
  omega
theorem Fun.okC {P:Program} {w:World} {K:PySem.W.Frag} {mg:Str→Option Value} {base:Heap} {name qual:Str} {st:Stmt} {f:Addr} {fd:FuncData} {N ps:List Str} {k:Nat} {sp:Sp} (F:Fun K name qual st f fd) (S:FnScope N ps (defScope st)) (len:∀ vs H Q E,sp vs H Q E→vs.length=ps.length)
  (hbody:∀ (cdv:Value) (A:Around) (outer:List Env) (s:Shared) (H:Hp) (vs:List V) (Q:VK) (E:XK),L2H.RoomH k (A.deeper (envOfC qual (defScope st) s.heap.objs.size f cdv))→sp vs H Q E →
   ∃ t,PSs (cxC (L2.CX P w) P w K mg base N qual (defScope st) f cdv A outer s H E) (defBody st) t∧t { nx:=fun _ H'=>Q .non H',rt:=Q } (L2.start N vs) H):FnC P w K mg base (L2.CX P w) (k+1) f fd ps sp:=by
 obtain ⟨oc,od,kV,doc,pm,an,cdv,ct,osl,rfl,lk,hcd⟩:=F.ex
 refine ⟨len,fun A outer s H args us vs Q E hr e0 hb r hsp=>?_⟩
 have hl:=len _ _ _ _ hsp
 have KX:K.In s.heap:=e0.mod.kin.keeps fun b o e=>(e0.bs b o e).1
 have lim:s.heap.NoLimit:=e0.mod.nolimit.keeps fun b o e=>(e0.bs b o e).1
 have hkind:∀ y∈ps.zip us,(defScope st).names.lookup y.1=some .local∨((defScope st).names.lookup y.1=some .cell∧((cellsFrom (s.heap.objs.size+1) (defScope st).names []).lookup y.1).isSome=true):=fun ⟨n,v⟩ hy=>by
  rcases S.par n (List.of_mem_zip hy).1 with q | q
  ·exact .inl q
  ·exact .inr ⟨q,PySem.W.cellsFrom_some _ _ _ (.inl q)⟩
 refine codeAny_call_function hr.depth (KX _ _ lk) rfl S.co S.gen rfl (PySem.W.codeRec_of KX hcd) (hb _ _ _ _ ?_)
 refine wpAny_newFunctionEnv_cells S.kind hkind fun env he s1 x=>?_
 subst he
 refine ⟨lim.keeps x.toInCall.keep,codeAny_func ?_⟩
 obtain ⟨t,ht,hq⟩:=hbody cdv A outer s H vs Q E (hr.deeper _) hsp
 have I:Inv (cxC (L2.CX P w) P w K mg base N qual (defScope st) f cdv A outer s H E) [] (L2.start N vs) H s1:=inv_startC S e0 hl r x
 refine wpAny_mono (ht.run [] s1 (L2.start N vs) H _ I hq) (fun fl s' hs=>?_) fun e s' hs=>hs
 have fin:∀ {σ' : L2.St} {H' : Hp} {v:V} {u:Value},Inv (cxC (L2.CX P w) P w K mg base N qual (defScope st) f cdv A outer s H E) [] σ' H' s'→RelV v u→Q v H'→CE outer P w H s Q u s' :=
  fun {σ' H' v u} J rv q=>⟨v,H',J.os,J.bare,J.base,J.hok,rv,q⟩
 cases fl with
 | ret u =>
  obtain ⟨v,σ',H',J,rv,q⟩:=hs
  exact fin J rv q
 | next =>
  obtain ⟨σ',H',J,q⟩:=hs
  exact fin (v:=V.non) (u:=Value.none) J rfl q
 | brk =>
  obtain ⟨_,_,_,q⟩:=hs
  exact False.elim q
 | cont =>
  obtain ⟨_,_,_,q⟩:=hs
  exact False.elim q
section
variable {X:Cx} {CXt:CXT} {k:Nat} {f:Addr} {fd:FuncData} {ps:List Str} {sp:Sp} {E:L2.St→XK} {x:Str} {q pos:Pos} {e:Expr} {es:List Expr} {t:TA}
end
end L2
end
noncomputable section
namespace G
open PySem PySem.Spec PyProof.Rows L2 PySem.W
def TI (o:HO):Prop:=(∃ xs,o = .tup xs) ∨ ∃ C dx fs,o = .ins C dx fs
class ImmI (α:Type) [d:Dat α]:Prop where
 immI:∀ {C:GCtx} {F H:Hp} {v:V} {x:α},(∀ a o,H a=some o→TI o→F a=some o)→d.rep C H v x→d.rep C F v x
theorem Reps.immI {α:Type} {d:Dat α} [i : @ImmI α d] {C:GCtx} {F H:Hp} (t:∀ a o,H a=some o→TI o→F a=some o):∀ {vs:List V} {xs:List α},Reps d C H vs xs→Reps d C F vs xs
 | [],[],_=>trivial
 | _::_,_::_,h=>⟨i.immI t h.1,Reps.immI t h.2⟩
 | [],_::_,h=>h.elim
 | _::_,[],h=>h.elim
instance (priority:=low) immI_of {α:Type} {d:Dat α} [i : @Imm α d] : @ImmI α d:=@ImmI.mk α d fun t r=>i.imm (fun a xs h=>t a _ h (.inl ⟨xs,rfl⟩)) r
instance immITup {α:Type} {d:Dat α} [i : @ImmI α d] : @ImmI (Tup α) (dTup (d:=d)):=@ImmI.mk _ (dTup (d:=d)) fun t ⟨a,vs,e,h,r⟩=>⟨a,vs,e,h.imp (fun h=>t a _ h (.inl ⟨vs,rfl⟩)) id,Reps.immI t r⟩
instance immIPair {α β:Type} {d1:Dat α} {d2:Dat β} [i1 : @ImmI α d1] [i2 : @ImmI β d2] : @ImmI (α×β) (dPair (d1:=d1) (d2:=d2)):=@ImmI.mk _ (dPair (d1:=d1) (d2:=d2)) fun t ⟨a,v1,v2,e,h,r1,r2⟩=>⟨a,v1,v2,e,h.imp (fun h=>t a _ h (.inl ⟨_,rfl⟩)) id,i1.immI t r1,i2.immI t r2⟩
instance immIOb2 {α β:Type} {d1:Dat α} {d2:Dat β} [i1 : @ImmI α d1] [i2 : @ImmI β d2] {C0:Addr} {f1 f2:Str} : @ImmI (Ob2 α β) (dOb2 (d1:=d1) (d2:=d2) C0 f1 f2) :=
 @ImmI.mk _ (dOb2 (d1:=d1) (d2:=d2) C0 f1 f2) fun t ⟨p,dx,v1,v2,e,h,r1,r2⟩=>⟨p,dx,v1,v2,e,t p _ h (.inr ⟨_,_,_,rfl⟩),i1.immI t r1,i2.immI t r2⟩
@[reducible] def dMixI {β:Type} (d:Dat β):Dat (Mix β):=⟨fun C F v x=>match x with
 | .inl y=>d.rep C F v y
 | .inr u=>noL u=true∧DU C F u v,fun {C F F' v x} s h=>match x,h with
 | .inl _,h=>d.mono s h
 | .inr _,h=>⟨h.1,DU.mono s _ _ h.2⟩⟩
instance immIMix {β:Type} {d:Dat β} [i : @ImmI β d] : @ImmI (Mix β) (dMixI d):=@ImmI.mk _ (dMixI d) fun {C F H v x} t r=>match x,r with
 | .inl _,r=>i.immI t r
 | .inr u,r=>⟨r.1,DU.imm (fun a xs h=>t a _ h (.inl ⟨xs,rfl⟩)) u v r.1 r.2⟩
section
variable {α β γ:Type} {d:Dat α} {d2:Dat β}
end
class NoIns {α:Type} {d:Dat α} (od:OD α):Prop where
 no:∀ {C:GCtx} {F:Hp} {v:V} {x:α} {L:LO},od.orep C F v x L → ∀ p∈L,¬ ∃ C dx fs,p.2 = .ins C dx fs
instance noList {α:Type} {d:Dat α}:NoIns (oList (d:=d)):=⟨fun ⟨a,vs,e,h,r⟩ p hp=>by
 subst h
 rw [List.mem_singleton] at hp
 subst hp
 rintro ⟨_,_,_,z⟩
 cases z⟩
section
variable {tx:XC→Addr} {Y:YC} {Γ:List Cell} {te:TE} {α β:Type} {d:Dat α} {d2:Dat β}
end
end G
end
noncomputable section
namespace L2
open PySem PySem.Spec PyProof.Rows
inductive KEnt:List DictEntry→List (Int×Str)→Prop where
 | nil:KEnt [] []
 | cons {es:List DictEntry} {kvs:List (Int×Str)} (k:Int) (z:Str) (t t2:Tok) (h:Int) (hh:h=hashInt k) (r:KEnt es kvs):KEnt (⟨h,.int k t,.str z t2⟩::es) ((k,z)::kvs)
theorem KEnt.find {P:Program} {w:World}:∀ {es:List DictEntry} {kvs:List (Int×Str)} {k:Int} {z:Str},KEnt es kvs→kvs.lookup k=some z → ∃ t,(es.find? fun e=>(intKind P w).is k e.key).map (·.val)=some (.str z t)
 | _,_,_,_,.nil,h=>by cases h
 | _,_,k0,z0,.cons k z t t2 h hh r,hl=>by
  rw [List.lookup_cons] at hl
  rw [List.find?_cons]
  have e:(intKind P w).is k0 (.int k t)=(k0 == k):=by
   show Value.isInt k0 (.int k t)=_
   show (k == k0)=(k0 == k)
   exact BEq.comm
  rw [e]
  cases hk:(k0 == k) with
  | true =>
   rw [hk] at hl
   cases hl
   exact ⟨t2,rfl⟩
  | false =>
   rw [hk] at hl
   exact r.find hl
section
variable {X:Cx}
end
end L2
namespace G
open PySem PySem.Spec PyProof.Rows L2 PySem.W
section
variable {tx:XC→Addr} {Y:YC} {Γ:List Cell} {tb:TE}
end
end G
end
noncomputable section
namespace G
open PySem PySem.Spec PyProof.Rows L2 PySem.W
section
variable {tx:XC→Addr} {Y:YC} {Γ:List Cell} {te:TE} {α β γ:Type} {d1:Dat α} {d2:Dat β} {d3:Dat γ}
variable {d:Dat α} {ta tb tc:TE}
end
instance oimOb4 {α β γ δ:Type} {d1:Dat α} {d2:Dat β} {d3:Dat γ} {d4:Dat δ} [i1 : @Imm α d1] [i2 : @Imm β d2] {o3 : @OD γ d3} {o4 : @OD δ d4} [i3 : @OIm γ d3 o3] [i4 : @OIm δ d4 o4] {C0:Addr} {f1 f2 f3 f4:Str} :
  @OIm (Ob4 α β γ δ) (dOb4 (d1:=d1) (d2:=d2) (d3:=d3) (d4:=d4) C0 f1 f2 f3 f4) (oOb4 (d1:=d1) (d2:=d2) (d3:=d3) (d4:=d4) C0 f1 f2 f3 f4 o3 o4) :=
 @OIm.mk _ (dOb4 (d1:=d1) (d2:=d2) (d3:=d3) (d4:=d4) C0 f1 f2 f3 f4) (oOb4 (d1:=d1) (d2:=d2) (d3:=d3) (d4:=d4) C0 f1 f2 f3 f4 o3 o4) (fun t ⟨p,dx,v1,v2,v3,v4,L3,L4,e,h,r1,r2,r3,r4⟩=>⟨p,dx,v1,v2,v3,v4,L3,L4,e,h,i1.imm t r1,i2.imm t r2,i3.oimm t r3,i4.oimm t r4⟩)
end G
end
set_option maxRecDepth 40000
noncomputable section
namespace G
open PySem PySem.Spec PyProof.Rows L2 PySem.W
mutual
def OUr (C:GCtx) (F:Hp):PyData→V→LO→Prop
 | .none,v,L=>v = .non∧L=[]
 | .bool b,v,L=>v = .bl b∧L=[]
 | .int i,v,L=>v = .int i∧L=[]
 | .str s,v,L=>v = .str s∧L=[]
 | .list ds,v,L=>∃ a vs L',v = .ref a∧L=(a,.lst vs)::L'∧OUrs C F ds vs L'
 | .tuple ds,v,L=>∃ a vs,v = .ref a∧TpA C.K F a vs∧OUrs C F ds vs L
 | .dict _,_,_=>False
def OUrs (C:GCtx) (F:Hp):List PyData→List V→LO→Prop
 | [],[],L=>L=[]
 | d::ds,v::vs,L=>∃ L1 L2,L=L1++L2∧OUr C F d v L1∧OUrs C F ds vs L2
 | [],_::_,_=>False
 | _::_,[],_=>False
end
mutual
theorem OUr.mono {C:GCtx} {F F' : Hp} (s:Same F F'):∀ (x:PyData) (v:V) (L:LO),OUr C F x v L→OUr C F' x v L
 | .none,_,_,h=>h
 | .bool _,_,_,h=>h
 | .int _,_,_,h=>h
 | .str _,_,_,h=>h
 | .list ds,_,_,⟨a,vs,L',e,e2,r⟩=>⟨a,vs,L',e,e2,OUrs.mono s ds vs L' r⟩
 | .tuple ds,_,L,⟨a,vs,e,h,r⟩=>⟨a,vs,e,h.mono s,OUrs.mono s ds vs L r⟩
 | .dict _,_,_,h=>h.elim
theorem OUrs.mono {C:GCtx} {F F' : Hp} (s:Same F F'):∀ (xs:List PyData) (vs:List V) (L:LO),OUrs C F xs vs L→OUrs C F' xs vs L
 | [],[],_,h=>h
 | d::ds,v::vs,_,⟨L1,L2,e,h1,h2⟩=>⟨L1,L2,e,OUr.mono s d v L1 h1,OUrs.mono s ds vs L2 h2⟩
 | [],_::_,_,h=>h.elim
 | _::_,[],_,h=>h.elim
end
mutual
theorem OUr.view {C:GCtx} {F H:Hp} (s:Same F H):∀ (x:PyData) (v:V) (L:LO),OUr C F x v L→(∀ p∈L,H p.1=some p.2)→DU C H x v
 | .none,_,_,h,_=>h.1
 | .bool _,_,_,h,_=>h.1
 | .int _,_,_,h,_=>h.1
 | .str _,_,_,h,_=>h.1
 | .list ds,_,_,⟨a,vs,L',e,e2,r⟩,k=>⟨a,vs,e,.inl (k (a,.lst vs) (by rw [e2];exact List.mem_cons_self)),OUrs.view s ds vs L' r fun p hp=>k p (by rw [e2];exact List.mem_cons_of_mem _ hp)⟩
 | .tuple ds,_,L,⟨a,vs,e,h,r⟩,k=>⟨a,vs,e,h.mono s,OUrs.view s ds vs L r k⟩
 | .dict _,_,_,h,_=>h.elim
theorem OUrs.view {C:GCtx} {F H:Hp} (s:Same F H):∀ (xs:List PyData) (vs:List V) (L:LO),OUrs C F xs vs L→(∀ p∈L,H p.1=some p.2)→DUs C H xs vs
 | [],[],_,_,_=>trivial
 | d::ds,v::vs,_,⟨L1,L2,e,h1,h2⟩,k=>⟨OUr.view s d v L1 h1 fun p hp=>k p (by rw [e];exact List.mem_append_left _ hp),OUrs.view s ds vs L2 h2 fun p hp=>k p (by rw [e];exact List.mem_append_right _ hp)⟩
 | [],_::_,_,h,_=>h.elim
 | _::_,[],_,h,_=>h.elim
end
theorem OUrs.at {C:GCtx} {F:Hp}:∀ {xs:List PyData} {vs:List V} {L:LO} {i:Nat} {x:PyData},OUrs C F xs vs L→xs[i]? = some x → ∃ v L1 Li L2,vs[i]? = some v∧L=L1++Li++L2∧OUr C F x v Li ∧ ∀ F' x' Li',Same F F'→OUr C F' x' v Li'→OUrs C F' (xs.set i x') vs (L1++Li'++L2)
 | [],[],_,i,_,_,e=>by cases i<;>cases e
 | y::xs,v::vs,L,0,x,⟨L1,L2,e,h1,h2⟩,hx=>by
  cases (Option.some.inj hx:y=x)
  exact ⟨v,[],L1,L2,rfl,by simpa using e,h1,fun F' x' Li' s h=>⟨Li',L2,by simp,h,OUrs.mono s _ _ _ h2⟩⟩
 | y::xs,v::vs,L,i+1,x,⟨L1,L2,e,h1,h2⟩,hx=>by
  obtain ⟨w,M1,Mi,M2,e1,e2,h3,f⟩:=OUrs.at (i:=i) h2 hx
  exact ⟨w,L1++M1,Mi,M2,e1,by rw [e,e2];simp [List.append_assoc],h3,fun F' x' Li' s h=>⟨L1,M1++Li'++M2,by simp [List.append_assoc],OUr.mono s _ _ _ h1,f F' x' Li' s h⟩⟩
 | [],_::_,_,_,_,h,_=>h.elim
 | _::_,[],_,_,_,h,_=>h.elim
theorem OUrs.len {C:GCtx} {F:Hp}:∀ {xs:List PyData} {vs:List V} {L:LO},OUrs C F xs vs L→vs.length=xs.length
 | [],[],_,_=>rfl
 | _::_,_::_,_,⟨_,_,_,_,h2⟩=>by simp [OUrs.len h2]
 | [],_::_,_,h=>h.elim
 | _::_,[],_,h=>h.elim
theorem OUrs.append {C:GCtx} {F:Hp} {y:PyData} {w:V} {M:LO} (g:OUr C F y w M):∀ {xs:List PyData} {vs:List V} {L:LO},OUrs C F xs vs L→OUrs C F (xs++[y]) (vs++[w]) (L++M)
 | [],[],_,h=>by
  cases (show _=[] from h)
  exact ⟨M,[],by simp,g,rfl⟩
 | _::_,_::_,_,⟨L1,L2,e,h1,h2⟩=>⟨L1,L2++M,by rw [e,List.append_assoc],h1,OUrs.append g h2⟩
 | [],_::_,_,h=>h.elim
 | _::_,[],_,h=>h.elim
@[reducible] def oU : @OD PyData dU:=@OD.mk PyData dU (fun C F v x L=>OUr C F x v L) (fun s h=>OUr.mono s _ _ _ h) (fun h s k=>OUr.view s _ _ _ h k)
section
variable {tx:XC→Addr} {Y:YC} {Γ:List Cell} {te ta tb:TE} {α τ:Type} {d:Dat α} {rest:TS} {js:List Nat} {K:Kt τ}
theorem z_popDrop {pin:Option V} {i:Nat} {xs:List α} {k:Ks} (hi:Γ[i]? = some (.own (dList (d:=d)) (oList (d:=d)) pin xs))
  (h:R Y ta Γ dInt fun n=>∃ m y,(-(2 ^ 63)≤n∧n<2 ^ 63∧seqIndex? n xs.length=some m∧xs[m]? = some y)∧k.nx (Γ.set i (.own (dList (d:=d)) (oList (d:=d)) pin (xs.eraseIdx m)))) :
  Z Y (tDrop (tBM Y.K "list" rPopAt (tVar i) (tCons ta tNil))) Γ k:=fun e F σ H D hM s c=>by
 obtain ⟨v0,_,_,e1,⟨a0,vs0,rfl,rfl,_⟩,kw0,_⟩:=s.mut hi
 have ha0:H a0=some (.lst vs0):=(kw0.ow (a0,.lst vs0) (by simp)).2.1
 refine ⟨.ref a0,e1,.inl ⟨rfl,vs0,.inl (.inl ha0)⟩,h e F σ H s _ fun v F1 H1 n ⟨m,y,⟨h0,h63,hm,hy⟩,kn⟩ g r=>?_⟩
 cases (show v = .int n from r)
 obtain ⟨w1,L1,rest1,e3,⟨b1,us1,rfl,rfl,r1⟩,kv1,f1⟩:=(s.grow g).mut hi
 rw [e1] at e3
 cases (Option.some.inj e3)
 have hb1:H1 a0=some (.lst us1):=(kv1.ow (a0,.lst us1) (by simp)).2.1
 obtain ⟨wv,hwv,rwv⟩:=r1.get hy
 refine ⟨a0,us1,n,m,wv,rfl,rfl,hb1,h0,h63,by rw [r1.len];exact hm,hwv,?_⟩
 exact c.nx F1 σ _ _ kn (f1 F1 _ [(a0,.lst (us1.eraseIdx m))] (xs.eraseIdx m) (Same.refl F1) (kv1.put (fun _ z=>by cases z)) ⟨a0,_,rfl,rfl,r1.erase m⟩)
theorem zm_popDrop {pin:Option V} {i:Nat} {xs:List α} {mi:M Int} {m2:List α×α→M τ} (hi:Γ[i]? = some (.own (dList (d:=d)) (oList (d:=d)) pin xs)) (hj:i∈js) (hx:Re tx Y ta Γ dInt mi)
  (h2:∀ p,Zm tx Y js rest (Γ.set i (.own (dList (d:=d)) (oList (d:=d)) pin p.1)) K (m2 p)):Zm tx Y js (tSeq (tDrop (tBM Y.K "list" rPopAt (tVar i) (tCons ta tNil))) rest) Γ K (M.popAt xs mi>>=m2):=fun nb xk =>
 ZdW (z_popDrop hi (hx.k (M.nb1 nb) xk.l.here fun n e nb2 _=>by
  obtain ⟨hb,k,y,h1,h3⟩:=M.popAt_nb nb2
  refine ⟨k,y,⟨hb.1,hb.2,h1,h3⟩,(h2 (xs.eraseIdx k,y)).go nb xk ?_ (ZaL hj)⟩
  unfold M.popAt
  rw [e]
  show M.asrt _ _=_
  rw [M.Zah hb,h1]
  show (match xs[k]? with | some y=>_ | none=>_)=_
  rw [h3]))
end
end G
namespace L2
open PySem PySem.Spec PyProof.Rows
section
variable {X:Cx}
end
end L2
namespace G
open PySem PySem.Spec PyProof.Rows L2 PySem.W
section
variable {tx:XC→Addr} {Y:YC} {Γ:List Cell} {ta:TE}
end
end G
end
namespace G
open PySem L2
instance datU:Dat PyData:=dU
instance udU : @UD PyData dU:=⟨fun x=>x,fun h=>h⟩
end G
noncomputable section
namespace L2
open PySem PySem.Spec PyProof.Rows
section
variable {X:Cx} {x1 x2:Str} {c1 c2:Value} {body suite:List Stmt} {b₀:Stmt} {np1 np2 tpos pos pos' : Pos} {tb:WX→TS} {ts:Addr→Value→Option Addr→TS} {Wout:WX}
end
end L2
namespace L2
open PySem PySem.Spec PyProof.Rows
section
variable {X:Cx} {x x1 x2:Str} {c c1 c2:Value} {body suite:List Stmt} {b₀:Stmt} {np np1 np2 tpos pos pos' : Pos} {tb:WX→TS} {ts:Addr→Value→Option Addr→TS} {Wout:WX}
end
end L2
namespace G
open PySem PySem.Spec PyProof.Rows L2 PySem.W
section
variable {Y:YC} {Γ:List Cell} {k:Ks}
end
end G
end
noncomputable section
namespace G
open PySem PySem.Spec PyProof.Rows L2 PySem.W
class DL (α:Type) {d:Dat α} [de : @DE α d]:Prop where
 lay0:∀ x,(de.toD x).canLay0=true
instance dlInt : @DL Int dInt deInt:=@DL.mk _ _ deInt fun _=>by simp [DE.toD,PyData.canLay0]
instance dlBool : @DL Bool dBool deBool:=@DL.mk _ _ deBool fun _=>by simp [DE.toD,PyData.canLay0]
theorem dlAll {α:Type} {d:Dat α} [de : @DE α d] [dl : @DL α d de]:∀ xs:List α,PyData.canLayAll0 (xs.map de.toD)=true
 | []=>by simp [PyData.canLayAll0]
 | x::xs=>by simp [PyData.canLayAll0,dl.lay0,dlAll xs]
instance dlList {α:Type} {d:Dat α} [de : @DE α d] [dl : @DL α d de] : @DL (List α) dList deList:=@DL.mk _ _ deList fun x=>by
 show PyData.canLay0 (.list (x.map de.toD))=true
 simp [PyData.canLay0,dlAll x]
instance dlPair {α β:Type} {d1:Dat α} {d2:Dat β} [de1 : @DE α d1] [de2 : @DE β d2] [dl1 : @DL α d1 de1] [dl2 : @DL β d2 de2] : @DL (α×β) dPair dePair:=@DL.mk _ _ dePair fun x=>by
 show PyData.canLay0 (.tuple [de1.toD x.1,de2.toD x.2])=true
 simp [PyData.canLay0,PyData.canLayAll0,dl1.lay0,dl2.lay0]
instance dlT4 {α β γ δ:Type} {d1:Dat α} {d2:Dat β} {d3:Dat γ} {d4:Dat δ} [de1 : @DE α d1] [de2 : @DE β d2] [de3 : @DE γ d3] [de4 : @DE δ d4] [dl1 : @DL α d1 de1] [dl2 : @DL β d2 de2] [dl3 : @DL γ d3 de3] [dl4 : @DL δ d4 de4] : @DL (T4 α β γ δ) dT4 deT4:=@DL.mk _ _ deT4 fun x=>by
 show PyData.canLay0 (.tuple [de1.toD x.a,de2.toD x.b,de3.toD x.c,de4.toD x.d])=true
 simp [PyData.canLay0,PyData.canLayAll0,dl1.lay0,dl2.lay0,dl3.lay0,dl4.lay0]
section
variable {tx:XC→Addr} {Y:YC} {Γ:List Cell} {ta tb:TE} {α:Type} {d:Dat α}
end
section
variable {tx:XC→Addr} {Y:YC} {Γ:List Cell} {te:TE} {α:Type} {d:Dat α}
end
end G
namespace L2
open PySem PySem.Spec PyProof.Rows
section
variable {X:Cx}
end
end L2
end
namespace G
open PySem PySem.Spec PyProof.Rows L2 PySem.W
section
variable {prog:Program} {w:World} {A:Around} {E:Value→Shared→Prop} {s:Shared} {K:Frag} {x y C L f:Addr} {h₀:Heap} {m:Str→Option Value} {ox oy:Obj} {od od2:Option Obj}
end
theorem relV_back {v:V} {u:Value} {Q:Value→Shared→Prop} {s:Shared} (r:RelV v u) (q:Q u s):PySem.W.CmpBack Q u s:=by
 unfold PySem.W.CmpBack
 cases v with
 | non=>obtain rfl:=(show u=Value.none from r);exact q
 | bl b=>obtain rfl:=(show u=Value.bool b from r);exact q
 | int i=>obtain ⟨t,rfl⟩:=r;exact q
 | str x=>obtain ⟨t,rfl⟩:=r;exact q
 | byt b=>obtain ⟨t,rfl⟩:=r;exact q
 | flt b=>obtain ⟨t,rfl⟩:=r;exact q
 | ref a=>obtain rfl:=(show u=Value.ref a from r);exact q
 | ty n=>obtain rfl:=(show u=Value.type n from r);exact q
section
variable {X:Cx} {CXt:CXT} {k:Nat} {f C:Addr} {fd:FuncData} {ps:List Str} {sp:Sp} {E:L2.St→XK} {pos:Pos} {e o fe a b:Expr} {es:List Expr} {ta tb:TE} {t:TA}
end
section
variable {Y:YC} {Γ:List Cell} {ta tb:TE} {tl:TA} {α β γ:Type} {d:Dat α} {d2:Dat β} {d1:Dat γ} {C0:Addr} {ns ns2:List Str} {sp:Sp} {E:L2.St→XK} {BA:List V→Hp→Prop}
end
section
variable {tx:XC→Addr} {Y:YC} {Γ:List Cell} {β:Type} {d:Dat β} {t0 t1 t2 t3:TE} {sp:Sp} {E:L2.St→XK}
variable {α0 α1 α2 α3:Type} {d0:Dat α0} {d1:Dat α1} {d2:Dat α2} {d3:Dat α3} {m0:M α0} {m1:M α1} {m2:M α2} {m3:M α3} {C0:Addr} {ns ns2:List Str}
end
section
variable {tx:XC→Addr} {Y:YC} {Γ:List Cell} {t:TT} {τ:Type} {t1 t2 rest:TS} {js:List Nat} {K:Kt τ}
end
end G
noncomputable section
namespace G
open PySem PySem.Spec PyProof.Rows L2 PySem.W
section
variable {tx:XC→Addr} {Y:YC} {Γ:List Cell} {te:TE} {τ:Type} {rest:TS} {js:List Nat} {K:Kt τ} {k:Ks}
end
end G
end
noncomputable section
namespace G
open PySem PySem.Spec PyProof.Rows L2 PySem.W
section
variable {tx:XC→Addr} {Y:YC} {Γ:List Cell} {te ta tb tl tk tv:TE} {t u tt:TT} {α β:Type} {d:Dat α} {d2:Dat β} {g:TG}
end
end G
end
noncomputable section
namespace G
open PySem PySem.Spec PyProof.Rows L2 PySem.W
section
variable {X:Cx} {pins:List (Addr×Obj)} {σ:L2.St} {A1:Around}
end
section
variable {X:Cx} {CXt:CXT} {k:Nat} {g C:Addr} {fd:FuncData} {ps:List Str} {f:Str}
end
section
variable {tx:XC→Addr} {Y:YC} {Γ:List Cell} {te:TE} {α β:Type} {d:Dat α} {d2:Dat β} {C0:Addr} {f:Str}
end
end G
end
noncomputable section
namespace G
open PySem PySem.Spec PyProof.Rows L2 PySem.W
class DO (α:Type) {d:Dat α} [de : @DE α d]:Prop where
 alk:∀ x y,alike (de.toD x) (de.toD y)=true
class DSo (α:Type) {d:Dat α} [de : @DE α d]:Prop where
 so:(∀ x,∃ y r,de.toD x = .tuple (y::r)) ∨ ∀ x,de.toD x ≠ .none ∧ ∀ xs,de.toD x ≠ .tuple xs
instance doInt : @DO Int dInt deInt:=@DO.mk _ _ deInt fun x y=>rfl
theorem alk_all {α:Type} {d:Dat α} [de : @DE α d] [o : @DO α d de]:∀ xs ys:List α,alikeAll (xs.map de.toD) (ys.map de.toD)=true
 | [],[]=>by simp [alikeAll]
 | [],_::_=>by simp [alikeAll]
 | _::_,[]=>by simp [alikeAll]
 | x::xs,y::ys=>by
  simp only [List.map_cons,alikeAll,Bool.and_eq_true]
  exact ⟨o.alk x y,alk_all xs ys⟩
instance doList {α:Type} {d:Dat α} [de : @DE α d] [o : @DO α d de] : @DO (List α) dList deList:=@DO.mk _ _ deList fun x y=>by
 show alike (.list (x.map de.toD)) (.list (y.map de.toD))=true
 rw [alike]
 exact alk_all x y
instance doPair {α β:Type} {d1:Dat α} {d2:Dat β} [de1 : @DE α d1] [de2 : @DE β d2] [o1 : @DO α d1 de1] [o2 : @DO β d2 de2] : @DO (α×β) dPair dePair:=@DO.mk _ _ dePair fun x y=>by
 show alike (.tuple [de1.toD x.1,de2.toD x.2]) (.tuple [de1.toD y.1,de2.toD y.2])=true
 rw [alike]
 simp [alikeAll,o1.alk,o2.alk]
instance soList {α:Type} {d:Dat α} [de : @DE α d] : @DSo (List α) dList deList:=@DSo.mk _ _ deList (.inr fun x=>And.intro (fun z=>nomatch (show PyData.list (x.map de.toD) = .none from z)) fun xs z=>nomatch (show PyData.list (x.map de.toD) = .tuple xs from z))
instance soPair {α β:Type} {d1:Dat α} {d2:Dat β} [de1 : @DE α d1] [de2 : @DE β d2] : @DSo (α×β) dPair dePair:=@DSo.mk _ _ dePair (.inl fun x=>⟨_,_,rfl⟩)
class OLt (α:Type) where
 lt:α→α→Bool
instance ltInt:OLt Int:=⟨fun a b=>decide (a<b)⟩
instance ltPair {α β:Type} [DecidableEq α] [OLt α] [OLt β]:OLt (α×β):=⟨fun x y=>if x.1=y.1 then OLt.lt x.2 y.2 else OLt.lt x.1 y.1⟩
def ltL {α:Type} [DecidableEq α] [OLt α]:List α→List α→Bool
 | _,[]=>false
 | [],_::_=>true
 | x::xs,y::ys=>if x=y then ltL xs ys else OLt.lt x y
instance ltList {α:Type} [DecidableEq α] [OLt α]:OLt (List α):=⟨ltL⟩
class DLt (α:Type) {d:Dat α} [de : @DE α d] [OLt α]:Prop where
 is:∀ x y,dataLt (de.toD x) (de.toD y)=OLt.lt x y
instance dltInt : @DLt Int dInt deInt _:=@DLt.mk _ _ deInt _ fun x y=>dataLt_int x y
theorem dataLt_self (d:PyData):dataLt d d=false:=by
 unfold dataLt
 exact lex_irrefl _
instance dltPair {α β:Type} [DecidableEq α] [OLt α] [OLt β] {d1:Dat α} {d2:Dat β} [de1 : @DE α d1] [de2 : @DE β d2] [o1 : @DO α d1 de1] [o2 : @DO β d2 de2] [l1 : @DLt α d1 de1 _] [l2 : @DLt β d2 de2 _] : @DLt (α×β) dPair dePair _:=@DLt.mk _ _ dePair _ fun x y=>by
 show dataLt (.tuple [de1.toD x.1,de2.toD x.2]) (.tuple [de1.toD y.1,de2.toD y.2])=if x.1=y.1 then OLt.lt x.2 y.2 else OLt.lt x.1 y.1
 rw [dataLt_pair (o1.alk _ _) (o2.alk _ _)]
 by_cases h1:x.1=y.1
 ·rw [if_pos ((de1.eqv _ _).mpr h1),if_pos h1]
  by_cases h2:x.2=y.2
  ·rw [if_pos ((de2.eqv _ _).mpr h2),← l2.is,h2,dataLt_self]
  ·rw [if_neg (fun z=>h2 ((de2.eqv _ _).mp z)),l2.is]
 ·rw [if_neg (fun z=>h1 ((de1.eqv _ _).mp z)),if_neg h1,l1.is]
theorem dlt_all {α:Type} [DecidableEq α] [OLt α] {d:Dat α} [de : @DE α d] [o : @DO α d de] [l : @DLt α d de _]:∀ xs ys:List α,PyProof.Rows.lexLt itemOrd (keyToksAll (xs.map de.toD)) (keyToksAll (ys.map de.toD))=ltL xs ys
 | [],[]=>by
  simp only [List.map_nil,keyToksAll,ltL]
  rfl
 | [],y::ys=>by
  simp only [List.map_nil,List.map_cons,keyToksAll,ltL]
  rw [lex_diff (O:=itemOrd) (fun z=>by cases z)]
  rfl
 | x::xs,[]=>by
  simp only [List.map_nil,List.map_cons,keyToksAll,ltL]
  rw [lex_diff (O:=itemOrd) (fun z=>by cases z)]
  rfl
 | x::xs,y::ys=>by
  rw [List.map_cons,List.map_cons,dataLt_cons (o.alk x y),ltL]
  by_cases h:x=y
  ·rw [if_pos ((de.eqv _ _).mpr h),if_pos h]
   exact dlt_all xs ys
  ·rw [if_neg (fun z=>h ((de.eqv _ _).mp z)),if_neg h,l.is]
instance dltList {α:Type} [DecidableEq α] [OLt α] {d:Dat α} [de : @DE α d] [o : @DO α d de] [l : @DLt α d de _] : @DLt (List α) dList deList _:=@DLt.mk _ _ deList _ fun x y=>by
 show dataLt (.list (x.map de.toD)) (.list (y.map de.toD))=ltL x y
 rw [dataLt_list]
 exact dlt_all x y
section
variable {X:Cx}
end
section
variable {tx:XC→Addr} {Y:YC} {Γ:List Cell} {te:TE} {α:Type} {d:Dat α}
end
end G
end
noncomputable section
namespace G
open PySem PySem.Spec PyProof.Rows L2 PySem.W
section
variable {tx:XC→Addr} {Y:YC} {Γ:List Cell} {ta te:TE} {α τ:Type} {d:Dat α} {g:TG} {rest:TS} {js:List Nat} {K:Kt τ} {k:Ks}
theorem z_popAtG {pin:Option V} {i:Nat} {xs:List α} (hi:Γ[i]? = some (.own (dList (d:=d)) (oList (d:=d)) pin xs))
  (h:R Y ta Γ dInt fun n=>∃ m y,(-(2 ^ 63)≤n∧n<2 ^ 63∧seqIndex? n xs.length=some m∧xs[m]? = some y)∧A Y g (Γ.set i (.own (dList (d:=d)) (oList (d:=d)) pin (xs.eraseIdx m))) d y fun Γ2=>k.nx Γ2) :
  Z Y (tAsg (tBM Y.K "list" rPopAt (tVar i) (tCons ta tNil)) g) Γ k:=fun e F σ H D hM s c=>by
 obtain ⟨v0,_,_,e1,⟨a0,vs0,rfl,rfl,_⟩,kw0,_⟩:=s.mut hi
 have ha0:H a0=some (.lst vs0):=(kw0.ow (a0,.lst vs0) (by simp)).2.1
 refine ⟨.ref a0,e1,.inl ⟨rfl,vs0,.inl (.inl ha0)⟩,h e F σ H s _ fun v F1 H1 n ⟨m,y,⟨h0,h63,hm,hy⟩,kn⟩ g1 r=>?_⟩
 cases (show v = .int n from r)
 obtain ⟨w1,L1,rest1,e3,⟨b1,us1,rfl,rfl,r1⟩,kv1,f1⟩:=(s.grow g1).mut hi
 rw [e1] at e3
 cases (Option.some.inj e3)
 have hb1:H1 a0=some (.lst us1):=(kv1.ow (a0,.lst us1) (by simp)).2.1
 obtain ⟨wv,hwv,rwv⟩:=r1.get hy
 refine ⟨a0,us1,n,m,wv,rfl,rfl,hb1,h0,h63,by rw [r1.len];exact hm,hwv,?_⟩
 have s2:=f1 F1 _ [(a0,.lst (us1.eraseIdx m))] (xs.eraseIdx m) (Same.refl F1) (kv1.put (fun _ z=>by cases z)) ⟨a0,_,rfl,rfl,r1.erase m⟩
 exact kn e F1 σ _ wv s2 rwv _ fun σ' Γ' hk st'=>c.nx F1 σ' _ Γ' hk st'
theorem zm_popAtG {pin:Option V} {i:Nat} {xs:List α} {mi:M Int} {m2:List α×α→M τ} (hi:Γ[i]? = some (.own (dList (d:=d)) (oList (d:=d)) pin xs)) (hj:i∈js) (hx:Re tx Y ta Γ dInt mi)
  (h2:∀ p:List α×α,A Y g (Γ.set i (.own (dList (d:=d)) (oList (d:=d)) pin p.1)) d p.2 fun Γ2=>Zak Γ2 js=Zak (Γ.set i (.own (dList (d:=d)) (oList (d:=d)) pin p.1)) js∧Zm tx Y js rest Γ2 K (m2 p)):Zm tx Y js (tSeq (tAsg (tBM Y.K "list" rPopAt (tVar i) (tCons ta tNil)) g) rest) Γ K (M.popAt xs mi>>=m2):=fun nb xk =>
 ZdW (z_popAtG hi (hx.k (M.nb1 nb) xk.l.here fun n e nb2 _=>by
  obtain ⟨hb,k,y,h1,h3⟩:=M.popAt_nb nb2
  have e2:M.popAt xs mi = .ok (xs.eraseIdx k,y):=by
   unfold M.popAt
   rw [e]
   show M.asrt _ _=_
   rw [M.Zah hb,h1]
   show (match xs[k]? with | some y=>_ | none=>_)=_
   rw [h3]
  exact ⟨k,y,⟨hb.1,hb.2,h1,h3⟩,a_mono (h2 (xs.eraseIdx k,y)) fun Γ2 ⟨hw,hz⟩=>hz.go nb xk e2 (hw.trans (ZaL hj))⟩))
end
end G
end
noncomputable section
namespace G
open PySem PySem.Spec PyProof.Rows L2 PySem.W
section
variable {X:Cx} {CXt:CXT} {k:Nat} {C g p:Addr} {fd:FuncData} {ps:List Str} {sp:Sp} {E:L2.St→XK} {m:Str} {apos pos:Pos} {e o:Expr} {es:List Expr} {ta:TE} {t:TA} {pl:Sem Bool}
end
section
variable {Y:YC} {Γ:List Cell} {ta:TE} {tl:TA} {α β:Type} {d:Dat α} {d2:Dat β} {C0:Addr} {m:Str} {ns:List Str} {sp:Sp} {E:L2.St→XK}
end
section
variable {tx:XC→Addr} {Y:YC} {Γ:List Cell} {β:Type} {d:Dat β} {t0 t1 t2:TE} {sp:Sp} {E:L2.St→XK}
variable {α0 α1 α2:Type} {d0:Dat α0} {d1:Dat α1} {d2:Dat α2} {m0:M α0} {m1:M α1} {m2:M α2} {C0:Addr} {mn:Str} {ns:List Str}
end
end G
end
noncomputable section
namespace G
open PySem PySem.Spec PyProof.Rows L2 PySem.W PySem.AutoSeq1
section
variable {Y:YC} {Γ:List Cell} {te:TE} {α:Type} {d:Dat α} {k:Ks}
end
section
variable {tx:XC→Addr} {Y:YC} {Γ:List Cell} {te:TE} {α τ:Type} {d:Dat α} {K:Kt τ} {rest:TS} {js:List Nat}
end
end G
noncomputable section
namespace G
open PySem PySem.Spec PyProof.Rows L2 PySem.W
section
variable {α:Type} {d:Dat α}
variable {Y:YC} {Γ:List Cell} {k:Ks}
end
section
variable {tx:XC→Addr} {Y:YC} {Γ:List Cell} {α:Type} {d:Dat α} {rest:TS} {js:List Nat}
end
end G
noncomputable section
namespace G
open PySem PySem.Spec PyProof.Rows L2 PySem.W
@[reducible] def oT3 {α β γ:Type} {d1:Dat α} {d2:Dat β} {d3:Dat γ} (od1 : @OD α d1) (od2 : @OD β d2) (od3 : @OD γ d3) : @OD (T3 α β γ) (dT3 (d1:=d1) (d2:=d2) (d3:=d3)):=@OD.mk (T3 α β γ) (dT3 (d1:=d1) (d2:=d2) (d3:=d3))
 (fun C F v x L=>∃ a v1 v2 v3 L1 L2 L3,v = .ref a∧L=L1++(L2++L3)∧TpA C.K F a [v1,v2,v3]∧od1.orep C F v1 x.a L1∧od2.orep C F v2 x.b L2∧od3.orep C F v3 x.c L3)
 (fun s ⟨a,v1,v2,v3,L1,L2,L3,e,h,t,r1,r2,r3⟩=>⟨a,v1,v2,v3,L1,L2,L3,e,h,t.mono s,od1.omono s r1,od2.omono s r2,od3.omono s r3⟩)
 (fun ⟨a,v1,v2,v3,L1,L2,L3,e,h,t,r1,r2,r3⟩ s k=>⟨a,v1,v2,v3,e,t.mono s,od1.view r1 s fun p hp=>k p (by rw [h];simp [hp]),od2.view r2 s fun p hp=>k p (by rw [h];simp [hp]),od3.view r3 s fun p hp=>k p (by rw [h];simp [hp])⟩)
section
variable {Y:YC} {Γ:List Cell} {k:Ks} {te:TE} {α β γ:Type} {d1:Dat α} {d2:Dat β} {d3:Dat γ}
end
section
variable {tx:XC→Addr} {Y:YC} {Γ:List Cell} {te ta tb:TE} {α β γ τ:Type} {d1:Dat α} {d2:Dat β} {d3:Dat γ} {rest:TS} {js:List Nat} {K:Kt τ}
def rCatS:R2:=fun x y H Q=>∃ i j,x=V.str i∧y=V.str j∧i.length+j.length≤PySem.sizeLine∧Q (.str (i++j)) H
theorem Zbm {X:Cx}:OpR X (binaryOp .Add) rCatS:=op_add_str
theorem w_catS {k:Str→Prop} (h:W Y ta Γ dStr fun x=>W Y tb Γ dStr fun y=>x.length+y.length≤PySem.sizeLine∧k (x++y)):W Y (tOp rCatS ta tb) Γ dStr k:=fun e F σ H s Q q=>h e F σ H s _ fun v1 F1 H1 x h1 g1 r1=>h1 e F1 σ H1 (s.grow g1) _ fun v2 F2 H2 y ⟨hl,ky⟩ g2 r2=>by
 cases (show v1 = .str x from r1)
 cases (show v2 = .str y from r2)
 exact ⟨x,y,rfl,rfl,hl,q _ F2 H2 _ ky (g1.trans g2) rfl⟩
def M.catS (x y:Str):M Str:=M.asrt (x.length+y.length≤PySem.sizeLine) (.ok (x++y))
theorem Zbl {m1 m2:M Str} (h:We tx Y ta Γ dStr m1) (h2:We tx Y tb Γ dStr m2):We tx Y (tOp rCatS ta tb) Γ dStr (m1>>=fun x=>m2>>=fun y=>M.catS x y):=fun nb xk =>
 w_catS (h.k nb xk fun x e nb2 xk2=>h2.k nb2 xk2 fun y e2 nb3 xk3=>by
  have hl:=M.Zbv nb3
  exact ⟨hl,by rw [e];simp only [M.Zab];rw [e2];exact M.Zah hl⟩)
end
section
variable {tx:XC→Addr} {Y:YC} {Γ:List Cell} {ta:TE}
end
section
variable {tx:XC→Addr} {Y:YC} {Γ:List Cell} {tl:TA} {g:TG} {α β τ:Type} {d:Dat α} {K:Kt τ} {rest:TS} {js:List Nat}
end
end G
noncomputable section
namespace G
open PySem PySem.Spec PyProof.Rows L2 PySem.W ClX StX
section
variable {tx:XC→Addr} {Y:YC} {Γ:List Cell} {te ta tb:TE} {α:Type} {d:Dat α}
end
end G
noncomputable section
namespace G
open PySem PySem.Spec PyProof.Rows L2 PySem.W
section
variable {tx:XC→Addr} {Y:YC} {Γ:List Cell} {te:TE} {i j:Nat} {α β γ:Type} {d1:Dat α} {d2:Dat β} {d3:Dat γ}
variable {d:Dat α} {τ:Type} {rest:TS} {js:List Nat} {K:Kt τ} {k:Ks}
end
end G
end
noncomputable section
namespace G
open PySem PySem.Spec PyProof.Rows L2 PySem.W
@[reducible] def oOpt {α:Type} {d:Dat α} (od : @OD α d) : @OD (Opt α) (dOpt (d:=d)):=@OD.mk (Opt α) (dOpt (d:=d))
 (fun C F v x L=>match x with | .none=>v = .non∧L=[] | .some y=>od.orep C F v y L)
 (fun {C F F' v x L} s h=>match x,h with | .none,h=>h | .some _,h=>od.omono s h)
 (fun {C F H v x L} h s k=>match x,h with | .none,h=>h.1 | .some _,h=>od.view h s k)
section
variable {tx:XC→Addr} {Y:YC} {Γ:List Cell} {te ta:TE} {i:Nat} {α β τ:Type} {d:Dat α} {od : @OD α d} {ts rest:TS} {js:List Nat} {K:Kt τ}
end
mutual
theorem OUr.imm {C:GCtx} {F H:Hp} (t:∀ a xs,H a=some (.tup xs)→F a=some (.tup xs)):∀ (x:PyData) (v:V) (L:LO),OUr C H x v L→OUr C F x v L
 | .none,_,_,h=>h
 | .bool _,_,_,h=>h
 | .int _,_,_,h=>h
 | .str _,_,_,h=>h
 | .list ds,_,_,⟨a,vs,L',e,e2,r⟩=>⟨a,vs,L',e,e2,OUrs.imm t ds vs L' r⟩
 | .tuple ds,_,L,⟨a,vs,e,h,r⟩=>⟨a,vs,e,h.imp (t a vs) id,OUrs.imm t ds vs L r⟩
 | .dict _,_,_,h=>h.elim
theorem OUrs.imm {C:GCtx} {F H:Hp} (t:∀ a xs,H a=some (.tup xs)→F a=some (.tup xs)):∀ (xs:List PyData) (vs:List V) (L:LO),OUrs C H xs vs L→OUrs C F xs vs L
 | [],[],_,h=>h
 | d::ds,v::vs,_,⟨L1,L2,e,h1,h2⟩=>⟨L1,L2,e,OUr.imm t d v L1 h1,OUrs.imm t ds vs L2 h2⟩
 | [],_::_,_,h=>h.elim
 | _::_,[],_,h=>h.elim
end
instance oimU : @OIm PyData dU oU:=@OIm.mk PyData dU oU fun t h=>OUr.imm t _ _ _ h
instance udUI : @UD PyData dUI:=@UD.mk PyData dUI (fun x=>x) fun h=>h.2
instance ouUI : @OU PyData dUI:=@OU.mk PyData dUI (fun x=>if noL x then some x else none) fun {C F v x y} h r=>by
 split at h
 ·cases h
  exact ⟨by assumption,r⟩
 ·cases h
section
variable {tx:XC→Addr} {Y:YC} {Γ:List Cell} {te:TE}
end
end G
end
noncomputable section
namespace G
open PySem PySem.Spec PyProof.Rows L2 PySem.W
section
variable {X:Cx} {K:PySem.W.Frag}
end
section
variable {tx:XC→Addr} {Y:YC} {Γ:List Cell} {ta tb:TE} {α:Type} {d:Dat α}
end
end G
end
noncomputable section
namespace G
open PySem PySem.Spec PyProof.Rows L2 PySem.W
section
variable {tx:XC→Addr} {Y:YC} {Γ:List Cell} {te:TE} {α:Type} {d:Dat α}
end
end G
end
noncomputable section
namespace G
open PySem PySem.Spec PyProof.Rows L2 PySem.W
section
variable {tx:XC→Addr} {Y:YC} {Γ:List Cell} {i:Nat} {α:Type} {d:Dat α}
end
end G
end
noncomputable section
namespace G
open PySem PySem.Spec PyProof.Rows L2 PySem.W
end G
end
noncomputable section
namespace G
open PySem PySem.Spec PyProof.Rows L2 PySem.W
class KeyD (κ:Type) (d:Dat κ) where
 key:κ→List L2.Key
 inj:∀ {a b:κ},key a=key b→a=b
 rd:∀ {C:GCtx} {F:Hp} {v:V} {k:κ},d.rep C F v k → ∃ a,v = .ref a∧F a=some (.tup ((key k).map kV))
theorem tpa_int {K:Frag} {F:Hp} {a:Addr} {xs:List V} (h:TpA K F a xs) (n:xs=[] ∨ ∃ i,V.int i∈xs):F a=some (.tup xs):=by
 rcases h with h | ⟨_,h1,h2⟩
 ·exact h
 ·rcases n with n | ⟨i,n⟩
  ·exact absurd n h1
  ·obtain ⟨t,z⟩:=h2 _ n
   cases z
instance kyPair:KeyD (Int×Int) (dPair (d1:=dInt) (d2:=dInt)) where
 key p:=[Sum.inl p.1,Sum.inl p.2]
 inj:=by
  intro a b h
  simp only [List.cons.injEq,Sum.inl.injEq,and_true] at h
  exact Prod.ext h.1 h.2
 rd:=fun ⟨a,v1,v2,e,h,r1,r2⟩=>by
  cases (show v1 = .int _ from r1)
  cases (show v2 = .int _ from r2)
  exact ⟨a,e,tpa_int h (.inr ⟨_,List.mem_cons_self⟩)⟩
instance kyTup:KeyD (Tup Int) (dTup (d:=dInt)) where
 key t:=t.l.map Sum.inl
 inj:=by
  intro a b h
  obtain ⟨a⟩:=a
  obtain ⟨b⟩:=b
  have inj:∀ {a b:List Int},a.map (Sum.inl:Int→L2.Key)=b.map Sum.inl→a=b:=by
   intro a
   induction a with
   | nil=>intro b h;cases b with | nil=>rfl | cons=>cases h
   | cons x a ih =>
    intro b h
    cases b with
    | nil=>cases h
    | cons y b =>
     rw [List.map_cons,List.map_cons,List.cons.injEq] at h
     rw [Sum.inl.inj h.1,ih h.2]
  have e:a=b:=inj h
  subst e
  rfl
 rd:=fun {C F v k} ⟨a,vs,e,h,r⟩=>by
  have e2:=r.ints
  subst e2
  refine ⟨a,e,?_⟩
  have:((k.l.map Sum.inl:List L2.Key)).map kV=k.l.map V.int:=by rw [List.map_map];rfl
  rw [this]
  refine tpa_int h ?_
  cases k.l with
  | nil=>exact .inl rfl
  | cons i l=>exact .inr ⟨i,by simp⟩
structure DK (κ α:Type) where
 kv:List (κ×α)
def lkD {κ α:Type} [DecidableEq κ]:List (κ×α)→κ→Option α
 | [],_=>none
 | p::r,k=>if p.1=k then some p.2 else lkD r k
def putD {κ α:Type} [DecidableEq κ] (kv:List (κ×α)) (k:κ) (v:α):List (κ×α):=if (lkD kv k).isSome then kv.map (fun p=>if p.1=k then (p.1,v) else p) else kv++[(k,v)]
def Zcj {κ β:Type} {dk:Dat κ} (ky:KeyD κ dk) (d:Dat β) (C:GCtx) (F:Hp):List (List L2.Key×V)→List (κ×β)→Prop
 | [],[]=>True
 | p::ps,x::xs=>p.1=ky.key x.1∧d.rep C F p.2 x.2∧Zcj ky d C F ps xs
 | _,_=>False
section
variable {κ α:Type} [DecidableEq κ] {dk:Dat κ} {ky:KeyD κ dk} {d:Dat α} {C:GCtx} {F F' : Hp}
theorem Zcj.mono (s:Same F F'):∀ {ps:List (List L2.Key×V)} {xs:List (κ×α)},Zcj ky d C F ps xs→Zcj ky d C F' ps xs
 | [],[],_=>trivial
 | _::_,_::_,h=>⟨h.1,d.mono s h.2.1,Zcj.mono s h.2.2⟩
 | [],_::_,h=>h.elim
 | _::_,[],h=>h.elim
theorem Zcj.len:∀ {ps:List (List L2.Key×V)} {xs:List (κ×α)},Zcj ky d C F ps xs→ps.length=xs.length
 | [],[],_=>rfl
 | _::_,_::_,h=>by simp [Zcj.len h.2.2]
 | [],_::_,h=>h.elim
 | _::_,[],h=>h.elim
theorem Zcj.look:∀ {ps:List (List L2.Key×V)} {xs:List (κ×α)} (k:κ),Zcj ky d C F ps xs→(∀ x,lkD xs k=some x → ∃ v,valV ps (ky.key k)=some v∧d.rep C F v x)∧(lkD xs k=none→valV ps (ky.key k)=none)
 | [],[],k,_=>⟨fun _ h=>(nomatch h),fun _=>rfl⟩
 | p::ps,x::xs,k,h=>by
  rw [valV_cons,h.1]
  unfold lkD
  by_cases hk:x.1=k
  ·rw [if_pos hk,if_pos (by rw [hk])]
   exact ⟨fun y e=>⟨p.2,rfl,by cases e;exact h.2.1⟩,fun z=>(nomatch z)⟩
  ·rw [if_neg hk,if_neg (fun z=>hk (ky.inj z))]
   exact Zcj.look k h.2.2
 | [],_::_,_,h=>h.elim
 | _::_,[],_,h=>h.elim
theorem Zcj.snoc {v:V} {x:α} {k:κ}:∀ {ps:List (List L2.Key×V)} {xs:List (κ×α)},Zcj ky d C F ps xs→d.rep C F v x→Zcj ky d C F (ps++[(ky.key k,v)]) (xs++[(k,x)])
 | [],[],_,h=>⟨rfl,h,trivial⟩
 | _::_,_::_,h,h2=>⟨h.1,h.2.1,Zcj.snoc h.2.2 h2⟩
 | [],_::_,h,_=>h.elim
 | _::_,[],h,_=>h.elim
theorem Zcj.map_put {v:V} {x:α} {k:κ}:∀ {ps:List (List L2.Key×V)} {xs:List (κ×α)},Zcj ky d C F ps xs→d.rep C F v x→Zcj ky d C F (ps.map fun kv=>if kv.1=ky.key k then (kv.1,v) else kv) (xs.map fun p=>if p.1=k then (p.1,x) else p)
 | [],[],_,_=>trivial
 | p::ps,y::ys,h,h2=>by
  rw [List.map_cons,List.map_cons]
  refine ⟨?_,?_,Zcj.map_put h.2.2 h2⟩
  ·by_cases e:y.1=k
   ·rw [if_pos e,if_pos (by rw [h.1,e])];exact h.1
   ·rw [if_neg e,if_neg (fun z=>e (ky.inj (h.1.symm.trans z)))];exact h.1
  ·by_cases e:y.1=k
   ·rw [if_pos e,if_pos (by rw [h.1,e])];exact h2
   ·rw [if_neg e,if_neg (fun z=>e (ky.inj (h.1.symm.trans z)))];exact h.2.1
 | [],_::_,h,_=>h.elim
 | _::_,[],h,_=>h.elim
theorem Zcj.put {ps:List (List L2.Key×V)} {xs:List (κ×α)} {v:V} {x:α} {k:κ} (h:Zcj ky d C F ps xs) (hv:d.rep C F v x):Zcj ky d C F (putK ps (ky.key k) v) (putD xs k x):=by
 unfold putK putD
 have l:=h.look k
 rw [valV_any]
 cases q:lkD xs k with
 | none =>
  rw [l.2 q,if_neg (fun z=>(nomatch z)),if_neg (fun z=>(nomatch z))]
  exact h.snoc hv
 | some y =>
  obtain ⟨w,hw,_⟩:=l.1 y q
  rw [hw]
  exact h.map_put hv
end
@[reducible] def dDK {κ α:Type} {dk:Dat κ} {ky:KeyD κ dk} {d:Dat α}:Dat (DK κ α):=⟨fun C F v x=>∃ a ps,v = .ref a∧Rd F a (.dT ps)∧Zcj ky d C F ps x.kv,fun {C F F' v x} m ⟨a,ps,e,h,r⟩=>⟨a,ps,e,Same.rd m h,by
 have mono:∀ {ps:List (List L2.Key×V)} {xs:List (κ×α)},Zcj ky d C F ps xs→Zcj ky d C F' ps xs:=by
  intro ps
  induction ps with
  | nil=>intro xs h;cases xs with | nil=>trivial | cons=>exact h.elim
  | cons p ps ih=>intro xs h;cases xs with | nil=>exact h.elim | cons x xs=>exact ⟨h.1,d.mono m h.2.1,ih h.2.2⟩
 exact mono r⟩⟩
theorem Zcj.mono' {κ α:Type} {dk:Dat κ} {ky:KeyD κ dk} {d:Dat α} {C:GCtx} {F F' : Hp} (m:Same F F'):∀ {ps:List (List L2.Key×V)} {xs:List (κ×α)},Zcj ky d C F ps xs→Zcj ky d C F' ps xs
 | [],[],_=>trivial
 | _::_,_::_,h=>⟨h.1,d.mono m h.2.1,Zcj.mono' m h.2.2⟩
 | [],_::_,h=>h.elim
 | _::_,[],h=>h.elim
@[reducible] def oDK {κ α:Type} {dk:Dat κ} {ky:KeyD κ dk} {d:Dat α} : @OD (DK κ α) (dDK (ky:=ky) (d:=d)):=@OD.mk (DK κ α) (dDK (ky:=ky) (d:=d))
 (fun C F v x L=>∃ a ps,v = .ref a∧L=[(a,.dT ps)]∧Zcj ky d C F ps x.kv)
 (fun m ⟨a,ps,e,h,r⟩=>⟨a,ps,e,h,Zcj.mono' m r⟩)
 (fun ⟨a,ps,e,h,r⟩ m k=>⟨a,ps,e,.inl (k (a,.dT ps) (by rw [h];exact List.mem_cons_self)),Zcj.mono' m r⟩)
section
variable {tx:XC→Addr} {Y:YC} {Γ:List Cell} {te ta tb tc tk tv:TE} {κ α τ:Type} [DecidableEq κ] {dk:Dat κ} {ky:KeyD κ dk} {d:Dat α} {js:List Nat} {rest:TS} {K:Kt τ}
end
end G
end
noncomputable section
namespace G
open PySem PySem.Spec PyProof.Rows L2 PySem.W
section
variable {α β τ:Type} {d:Dat α} {d2:Dat β} {tx:XC→Addr} {Y:YC} {Γ:List Cell} {ti:_root_.L2.TI} {tt:TT} {te ta tl:TE} {g:TG} {vs:List Nat} {rest ts:TS} {js:List Nat} {K:Kt τ} {k:Ks}
theorem State.two {α1:Type} {d1:Dat α1} {e:En} {F:Hp} {σ:_root_.L2.St} {H:Hp} {od1 : @OD α1 d1} {x1:α1} {c2:Cell} {j1 j2:Nat} {p1:Option V} (s:State Y e F σ H Γ) (hn:j1≠j2) (h1:Γ[j1]? = some (.own d1 od1 p1 x1)) (h2:Γ[j2]? = some c2) :
  ∃ v1 o2 L1 L2 rest,σ[j1]? = some (some v1)∧σ[j2]? = some o2∧(∀ u,p1=some u→v1=u)∧od1.orep Y.g F v1 x1 L1∧Zdf Y.g F o2 c2 L2∧Wk e F ((L1++L2)++rest) H ∧
  ∀ F' H' o2' c1' c2' L1' L2',Same F F'→Wk e F' ((L1'++L2')++rest) H'→Zdf Y.g F' (some v1) c1' L1'→Zdf Y.g F' o2' c2' L2'→State Y e F' (σ.set j2 o2') H' ((Γ.set j1 c1').set j2 c2'):=by
 obtain ⟨hx,L,k,sl⟩:=s
 obtain ⟨o,A1,Li1,A2,e1,e2,⟨v1,rfl,hp1,r1⟩,f⟩:=sl.get h1
 subst e2
 have sl1:=f F (some v1) .no [] (Same.refl _) rfl
 rw [set_same e1] at sl1
 have h2' : (Γ.set j1 .no)[j2]? = some c2:=by rw [List.getElem?_set_ne hn];exact h2
 obtain ⟨o2,B1,Li2,B2,e3,e4,r2,g⟩:=sl1.get h2'
 have e4' : A1++A2=B1++Li2++B2:=by simpa using e4
 have pm:(A1++Li1++A2).Perm ((Li1++Li2)++(B1++B2)):=by
  have q1:(A1++Li1++A2).Perm (Li1++(A1++A2)):=by
   have:=(List.perm_append_comm (l₁:=A1) (l₂:=Li1)).append_right A2
   simpa [List.append_assoc] using this
  have q2:(B1++Li2++B2).Perm (Li2++(B1++B2)):=by
   have:=(List.perm_append_comm (l₁:=B1) (l₂:=Li2)).append_right B2
   simpa [List.append_assoc] using this
  rw [e4'] at q1
  have q3:=q1.trans (q2.append_left Li1)
  simpa [List.append_assoc] using q3
 refine ⟨v1,o2,Li1,Li2,B1++B2,e1,e3,hp1,r1,r2,k.perm2 pm,fun F' H' o2' c1' c2' L1' L2' s' k' r1' r2'=>?_⟩
 have sl2:=g F' o2' c2' L2' s' r2'
 have hlt:j1<Γ.length:=(List.getElem?_eq_some_iff.mp h1).1
 have h3:((Γ.set j1 .no).set j2 c2')[j1]? = some .no:=by
  rw [List.getElem?_set_ne (Ne.symm hn),List.getElem?_set_self hlt]
 obtain ⟨o3,C1,Lz,C2,e5,e6,hz,q⟩:=sl2.get h3
 have hz:Lz=[]:=hz
 subst hz
 have sl3:=q F' (some v1) c1' L1' (Same.refl _) r1'
 rw [set_same (by rw [List.getElem?_set_ne (Ne.symm hn)];exact e1)] at sl3
 have eΓ:((Γ.set j1 .no).set j2 c2').set j1 c1'=(Γ.set j1 c1').set j2 c2':=by
  rw [Zdv hn,List.set_set,Zdv (Ne.symm hn)]
 rw [eΓ] at sl3
 refine ⟨hx,C1++L1'++C2,k'.perm2 ?_,sl3⟩
 have e6' : B1++L2'++B2=C1++C2:=by simpa using e6
 have q2' : (L2'++(B1++B2)).Perm (B1++L2'++B2):=by
  have:=(List.perm_append_comm (l₁:=B1) (l₂:=L2')).append_right B2
  simpa [List.append_assoc] using this.symm
 rw [e6'] at q2'
 have q3:(L1'++(C1++C2)).Perm (C1++L1'++C2):=by
  have:=(List.perm_append_comm (l₁:=C1) (l₂:=L1')).append_right C2
  simpa [List.append_assoc] using this.symm
 have:=(q2'.append_left L1').trans q3
 simpa [List.append_assoc] using this
theorem Zcw.unsnoc {od : @OD α d} {C:GCtx} {F:Hp} {y:α}:∀ {vs:List V} {xs:List α} {L:LO},Zcw od C F vs (xs++[y]) L → ∃ us w L1 L2,vs=us++[w]∧L=L1++L2∧Zcw od C F us xs L1∧od.orep C F w y L2
 | [],[],_,h=>h.elim
 | [],_::_,_,h=>h.elim
 | v::vs,[],L,⟨L1,L2,e,h1,h2⟩=>by
  cases vs with
  | nil=>exact ⟨[],v,[],L1,rfl,by rw [e,(show L2=[] from h2)];simp,rfl,h1⟩
  | cons=>exact h2.elim
 | v::vs,x::xs,L,⟨L1,L2,e,h1,h2⟩=>by
  obtain ⟨us,w,M1,M2,e1,e2,h3,h4⟩:=Zcw.unsnoc h2
  exact ⟨v::us,w,L1++M1,M2,by rw [e1];rfl,by rw [e,e2,List.append_assoc],⟨L1,M1,rfl,h1,h3⟩,h4⟩
theorem z_popO {od : @OD α d} {pin:Option V} {i j:Nat} {xs:List α} {y:α} {c0:Cell} (hn:i≠j) (hi:Γ[i]? = some (.own (dList (d:=d)) (Zea od) pin (xs++[y]))) (hj:Γ[j]? = some c0)
  (h:k.nx ((Γ.set i (.own (dList (d:=d)) (Zea od) pin xs)).set j (.own d od none y))):Z Y (tAsg (tBM0 Y.K "list" rPop (tVar i)) (gName j)) Γ k:=fun e F σ H D hM s c=>by
 obtain ⟨v,o2,_,L2,rest,e1,e2,hp,⟨a,vs,L,rfl,rfl,r⟩,r2,kw,f⟩:=s.two hn hi hj
 have ha:H a=some (.lst vs):=(kw.ow (a,.lst vs) (by simp)).2.1
 obtain ⟨us,w,M1,M2,rfl,rfl,r3,r4⟩:=r.unsnoc
 refine ⟨.ref a,e1,.inl ⟨rfl,us++[w],.inl (.inl ha)⟩,a,us++[w],w,rfl,rfl,ha,by simp,?_⟩
 rw [List.dropLast_concat]
 refine c.nx F _ _ _ h (f F _ (some w) _ _ ((a,.lst us)::M1) M2 (Same.refl F) ?_ ⟨.ref a,rfl,hp,a,us,M1,rfl,rfl,r3⟩ ⟨w,rfl,fun _ z=>(nomatch z),r4⟩)
 have k1:Wk e F ((a,.lst (us++[w]))::(M1++M2++L2++rest)) H:=by simpa [List.append_assoc] using kw
 refine (k1.put (o':=.lst us) (fun _ z=>by cases z)).subl ?_
 have:List.Sublist (M2++rest) (M2++(L2++rest)):=List.Sublist.append (List.Sublist.refl _) (List.sublist_append_right _ _)
 simpa [List.append_assoc] using this
theorem zm_popO {od : @OD α d} {pin:Option V} {i j:Nat} {xs:List α} {c0:Cell} {m2:List α×α→M τ} (hi:Γ[i]? = some (.own (dList (d:=d)) (Zea od) pin xs)) (hij:(i == j)=false) (hj' : Γ[j]? = some c0) (hj:i∈js) (hjj:j∈js) (h2:∀ p,Zm tx Y js rest ((Γ.set i (.own (dList (d:=d)) (Zea od) pin p.1)).set j (.own d od none p.2)) K (m2 p)) :
  Zm tx Y js (tSeq (tAsg (tBM0 Y.K "list" rPop (tVar i)) (gName j)) rest) Γ K (M.popL xs>>=m2):=fun nb xk=>by
 have nb1:(M.popL xs).nb:=M.nb1 nb
 cases q:xs.getLast? with
 | none=>unfold M.popL at nb1;rw [q] at nb1;exact absurd rfl nb1
 | some y =>
  have e:M.popL xs = .ok (xs.dropLast,y):=by unfold M.popL;rw [q]
  have ex:xs=xs.dropLast++[y]:=by
   obtain ⟨ys,rfl⟩:=List.getLast?_eq_some_iff.mp q
   simp
  have hne:i≠j:=by simpa using hij
  refine ZdW (z_popO (xs:=xs.dropLast) (y:=y) (c0:=c0) hne (by rw [← ex];exact hi) hj' ((h2 (xs.dropLast,y)).go nb xk e ?_))
  rw [ZaL hjj,ZaL hj]
@[reducible] def dRaw (v0:V):Dat Unit:=⟨fun _ _ v _=>v=v0,fun _ h=>h⟩
@[reducible] def dAl (v0:V) (y:α):Dat (List α):=⟨fun C F v xs=>(dList (d:=d)).rep C F v xs∧d.rep C F v0 y,fun s h=>⟨(dList (d:=d)).mono s h.1,d.mono s h.2⟩⟩
theorem Reps.zipV {C:GCtx} {F:Hp} {v:V} {y:α}:∀ {vs:List V} {xs:List α},Reps d C F vs xs→(v,y)∈vs.zip xs→d.rep C F v y
 | [],[],_,h=>nomatch h
 | u::us,x::xs,r,h=>by
  rw [List.zip_cons_cons] at h
  rcases List.mem_cons.mp h with e | h
  ·cases e;exact r.1
  ·exact Reps.zipV r.2 h
 | [],_::_,r,_=>r.elim
 | _::_,[],r,_=>r.elim
@[reducible] def oAl (v0:V) (y:α) (od : @OD α d) : @OD (List α) (dAl (d:=d) v0 y):=@OD.mk (List α) (dAl (d:=d) v0 y)
 (fun C F v xs L=>∃ a vs L',v = .ref a∧L=(a,.lst vs)::L'∧Zcw od C F vs xs L'∧(v0,y)∈vs.zip xs)
 (fun m ⟨a,vs,L',e,h,r,z⟩=>⟨a,vs,L',e,h,r.mono m,z⟩)
 (fun ⟨a,vs,L',e,h,r,z⟩ m k=>by
  have r2:=r.view m fun p hp=>k p (by rw [h];exact List.mem_cons_of_mem _ hp)
  exact ⟨(Zea od).view ⟨a,vs,L',e,h,r⟩ m k,Reps.zipV r2 z⟩)
end
end G
end
noncomputable section
namespace G
open PySem PySem.Spec PyProof.Rows L2 PySem.W
@[reducible] def dPin {α:Type} (u:V) (d:Dat α):Dat α:=⟨fun C F v x=>v=u∧d.rep C F v x,fun s h=>⟨h.1,d.mono s h.2⟩⟩
section
variable {tx:XC→Addr} {Y:YC} {Γ:List Cell} {te:TE} {tl:TA} {α β τ σ:Type} {d:Dat α} {rest ts:TS} {js:List Nat} {K:Kt τ} {k:Ks}
end
end G
end
noncomputable section
namespace G
open PySem PySem.Spec PyProof.Rows L2 PySem.W
instance mPair {α β:Type} {d1:Dat α} {d2:Dat β} {od1 : @OD α d1} {od2 : @OD β d2} [i1 : @OIm α d1 od1] [i2 : @OIm β d2 od2] : @OIm (α×β) (dPair (d1:=d1) (d2:=d2)) (oPair od1 od2) :=
 @OIm.mk (α×β) (dPair (d1:=d1) (d2:=d2)) (oPair od1 od2) fun t ⟨a,v1,v2,L1,L2,e,h,tp,r1,r2⟩=>⟨a,v1,v2,L1,L2,e,h,tp.imp (t a _) id,i1.oimm t r1,i2.oimm t r2⟩
end G
end
noncomputable section
namespace G
open PySem PySem.Spec PyProof.Rows L2 PySem.W
section
variable {X:Cx}
end
section
variable {tx:XC→Addr} {Y:YC} {Γ:List Cell} {te ta tb tl tk tv:TE} {t u tt:TT} {α β κ:Type} [DecidableEq κ] {dk:Dat κ} {ky:KeyD κ dk} {d:Dat α} {d2:Dat β} {g:TG}
end
end G
end
noncomputable section
namespace G
open PySem PySem.Spec PyProof.Rows L2 PySem.W
class KeyB (κ:Type) (dk:Dat κ) (ky:KeyD κ dk) where
 bk:∀ {C:GCtx} {F:Hp} {q:Addr} {k:κ},F q=some (.tup ((ky.key k).map kV))→dk.rep C F (.ref q) k
instance kbPair:KeyB (Int×Int) (dPair (d1:=dInt) (d2:=dInt)) kyPair where
 bk:=fun {C F q k} h=>⟨q,.int k.1,.int k.2,rfl,.inl h,rfl,rfl⟩
@[reducible] def dKL {κ α:Type} {dk:Dat κ} {ky:KeyD κ dk} {d:Dat α}:Dat (DK κ α):=⟨fun C F v x=>∃ a o ps,v = .ref a∧F a=some (.frz o (.dT ps))∧Zcj ky d C F ps x.kv,fun m ⟨a,o,ps,e,h,r⟩=>⟨a,o,ps,e,m _ _ h,Zcj.mono' m r⟩⟩
@[reducible] def oKL {κ α:Type} {dk:Dat κ} {ky:KeyD κ dk} {d:Dat α} : @OD (DK κ α) (dKL (ky:=ky) (d:=d)):=@OD.mk (DK κ α) (dKL (ky:=ky) (d:=d))
 (fun C F v x L=>∃ a o ps,v = .ref a∧L=[(a,.frz o (.dT ps))]∧Zcj ky d C F ps x.kv)
 (fun m ⟨a,o,ps,e,h,r⟩=>⟨a,o,ps,e,h,Zcj.mono' m r⟩)
 (fun ⟨a,o,ps,e,h,r⟩ m k=>⟨a,o,ps,e,k (a,.frz o (.dT ps)) (by rw [h];exact List.mem_cons_self),Zcj.mono' m r⟩)
section
variable {tx:XC→Addr} {Y:YC} {Γ:List Cell} {te ta tb tl tk tv:TE} {t:TS} {κ α τ:Type} {dk:Dat κ} {ky:KeyD κ dk} {d:Dat α} {js:List Nat} {rest:TS} {K:Kt τ}
variable [kb:KeyB κ dk ky]
end
end G
end
noncomputable section
namespace G
open PySem PySem.Spec PyProof.Rows L2 PySem.W
section
variable {Y:YC} {Γ:List Cell} {k:Ks} {α β γ:Type} {d1:Dat α} {d2:Dat β} {d3:Dat γ}
end
section
variable {tx:XC→Addr} {Y:YC} {Γ:List Cell} {α β γ:Type} {d1:Dat α} {d2:Dat β} {d3:Dat γ} {rest:TS} {js:List Nat}
end
section
variable {tx:XC→Addr} {Y:YC} {Γ:List Cell} {tl:TA} {α τ:Type} {d:Dat α} {K:Kt τ} {rest t1 t2:TS} {js:List Nat}
end
end G
end
noncomputable section
namespace G
open PySem PySem.Spec PyProof.Rows L2 PySem.W
section
variable {tx:XC→Addr} {Y:YC} {Γ:List Cell} {js:List Nat} {rest ts:TS} {g:TG} {te:TE} {α β τ σ ρ μ:Type} {d:Dat α} {K:Kt τ}
section
variable {js' : List Nat} {cells:σ→List Cell} {s:σ} {rt:ρ→Cell→List Cell→Prop}
end
end
end G
end
noncomputable section
namespace L2
open PySem PySem.Spec PyProof.Rows
section
variable {X:Cx}
end
end L2
namespace G
open PySem PySem.Spec PyProof.Rows L2 PySem.W
def toP (q:Addr×List Int):Int×Int:=(q.2.getD 0 0,q.2.getD 1 0)
def OkQ (C:GCtx) (F:Hp) (q:Addr×List Int):Prop:=q.2=[(toP q).1,(toP q).2]∧TpA C.K F q.1 [V.int (toP q).1,V.int (toP q).2]
section
variable {tx:XC→Addr} {Y:YC} {Γ:List Cell} {ta:TE}
end
end G
end
noncomputable section
namespace L2
open PySem PySem.Spec PyProof.Rows
section
variable {X:Cx}
end
end L2
namespace G
open PySem PySem.Spec PyProof.Rows L2 PySem.W
section
variable {tx:XC→Addr} {Y:YC} {Γ:List Cell} {te:TE} {α:Type} {d:Dat α}
end
end G
end
noncomputable section
namespace G
open PySem PySem.Spec PyProof.Rows L2 PySem.W
section
variable {Y:YC} {Γ:List Cell} {k:Ks} {te:TE} {α β:Type} {d1:Dat α} {d2:Dat β}
end
section
variable {tx:XC→Addr} {Y:YC} {Γ:List Cell} {te:TE} {α β:Type} {d1:Dat α} {d2:Dat β} {rest:TS} {js:List Nat}
end
end G
end
noncomputable section
namespace L2
open PySem PySem.Spec PyProof.Rows
section
variable {prog:Program} {w:World} {A:Around} {E:Value→Shared→Prop} {s:Shared} {l:Addr} {its:List Value} {ns:List Int} {Q:Value→Shared→Prop}
end
section
variable {X:Cx}
end
end L2
namespace G
open PySem PySem.Spec PyProof.Rows L2 PySem.W
section
variable {tx:XC→Addr} {Y:YC} {Γ:List Cell} {ta tb te:TE} {α β τ κ:Type} {d:Dat α} {d2:Dat β}
end
end G
end
noncomputable section
namespace L2
open PySem PySem.Spec PyProof.Rows
end L2
namespace G
open PySem PySem.Spec PyProof.Rows L2 PySem.W
section
variable {tx:XC→Addr} {Y:YC} {Γ:List Cell} {ta tb tl te tk tv:TE} {α β τ κ:Type} [DecidableEq κ] {dk:Dat κ} {ky:KeyD κ dk} {d:Dat α} {d2:Dat β} {js vs:List Nat} {rest:TS} {K:Kt τ}
variable [kb:KeyB κ dk ky]
end
end G
end
noncomputable section
namespace G
open PySem PySem.Spec PyProof.Rows L2 PySem.W
section
variable {Y:YC} {Γ:List Cell} {k:Ks} {te te3:TE} {α β γ:Type} {d1:Dat α} {d2:Dat β} {d3:Dat γ}
end
section
variable {tx:XC→Addr} {Y:YC} {Γ:List Cell} {te te3:TE} {α β γ:Type} {d1:Dat α} {d2:Dat β} {d3:Dat γ} {rest:TS} {js:List Nat}
end
mutual
theorem OUr.frz {C:GCtx} {F:Hp}:∀ (x:PyData) (v:V) (L:LO),G.noL x=true→OUr C F x v L→DU C F x v
 | .none,_,_,_,h=>h.1
 | .bool _,_,_,_,h=>h.1
 | .int _,_,_,_,h=>h.1
 | .str _,_,_,_,h=>h.1
 | .list _,_,_,n,_=>by cases n
 | .tuple ds,v,L,n,⟨a,vs,e,h,r⟩=>⟨a,vs,e,h,OUrs.frz ds vs L n r⟩
 | .dict _,_,_,_,h=>h.elim
theorem OUrs.frz {C:GCtx} {F:Hp}:∀ (xs:List PyData) (vs:List V) (L:LO),noLs xs=true→OUrs C F xs vs L→DUs C F xs vs
 | [],[],_,_,_=>trivial
 | d::ds,v::vs,_,n,⟨L1,L2,_,h1,h2⟩=>by
  have n2:(G.noL d&&noLs ds)=true:=n
  rw [Bool.and_eq_true] at n2
  exact ⟨OUr.frz d v L1 n2.1 h1,OUrs.frz ds vs L2 n2.2 h2⟩
 | [],_::_,_,_,h=>h.elim
 | _::_,[],_,_,h=>h.elim
end
section
variable {tx:XC→Addr} {Y:YC} {Γ:List Cell} {α:Type} {d:Dat α} {g:TG} {ts:TS}
end
end G
end
noncomputable section
namespace G
open PySem PySem.Spec PyProof.Rows L2 PySem.W
section
variable {Y:YC} {Γ:List Cell} {β:Type} {d2:Dat β} {ta tb te:TE} {tt:TT} {g:TG}
end
section
variable {tx:XC→Addr} {Y:YC} {Γ:List Cell} {ta tb:TE}
end
end G
noncomputable section
namespace L2
open PySem PySem.Spec PyProof.Rows PySem.W
section
variable {X:Cx}
end
end L2
namespace G
open PySem PySem.Spec PyProof.Rows L2 PySem.W
instance kbTup:KeyB (Tup Int) (dTup (d:=dInt)) kyTup where
 bk:=fun {C F q k} h=>⟨q,k.l.map V.int,rfl,.inl (by
  have:((KeyD.key (dTup (d:=dInt)) k:List L2.Key)).map kV=k.l.map V.int:=by
   show (k.l.map Sum.inl).map kV=_
   rw [List.map_map]
   rfl
  rw [this] at h
  exact h),by
   have:∀ l:List Int,Reps dInt C F (l.map V.int) l:=fun l=>by
    induction l with
    | nil=>trivial
    | cons x l ih=>exact ⟨rfl,ih⟩
   exact this k.l⟩
instance ltTup {α:Type} [DecidableEq α] [OLt α]:OLt (Tup α):=⟨fun x y=>ltL x.l y.l⟩
instance doTup {α:Type} {d:Dat α} [de : @DE α d] [o : @DO α d de] : @DO (Tup α) dTup deTup:=@DO.mk _ _ deTup fun x y=>by
 show alike (.tuple (x.l.map de.toD)) (.tuple (y.l.map de.toD))=true
 rw [alike]
 exact alk_all x.l y.l
instance dltTup {α:Type} [DecidableEq α] [OLt α] {d:Dat α} [de : @DE α d] [o : @DO α d de] [l : @DLt α d de _] : @DLt (Tup α) dTup deTup _:=@DLt.mk _ _ deTup _ fun x y=>by
 show dataLt (.tuple (x.l.map de.toD)) (.tuple (y.l.map de.toD))=ltL x.l y.l
 rw [dataLt_tuple]
 exact dlt_all x.l y.l
class KNe (κ:Type) {dk:Dat κ} [de : @DE κ dk] where
 ne:κ→Bool
 is:∀ k,ne k=true → ∃ y r,de.toD k = .tuple (y::r)
instance kneTup : @KNe (Tup Int) (dTup (d:=dInt)) deTup:=@KNe.mk _ _ deTup (fun t=>!t.l.isEmpty) fun k h=>by
 obtain ⟨l⟩:=k
 cases l with
 | nil=>cases h
 | cons x l=>exact ⟨_,_,rfl⟩
instance knePair : @KNe (Int×Int) (dPair (d1:=dInt) (d2:=dInt)) dePair:=@KNe.mk _ _ dePair (fun _=>true) fun k _=>⟨_,_,rfl⟩
section
variable {tx:XC→Addr} {Y:YC} {Γ:List Cell} {te ta tb tc:TE} {κ α:Type} [DecidableEq κ] {dk:Dat κ} {ky:KeyD κ dk} {d:Dat α}
end
end G
end
noncomputable section
namespace L2
open PySem PySem.Spec PyProof.Rows
section
variable {X:Cx} {a b c d:Expr} {ta tb tc td:TE} {pos:Pos}
end
end L2
namespace G
open PySem PySem.Spec PyProof.Rows L2 PySem.W
section
variable {tx:XC→Addr} {Y:YC} {Γ:List Cell} {ta tb tc td:TE}
end
section
variable {tx:XC→Addr} {Y:YC} {Γ:List Cell} {ta tb tc:TE} {κ α:Type} [DecidableEq κ] {dk:Dat κ} {ky:KeyD κ dk} {d:Dat α}
end
end G
end
noncomputable section
namespace L2
open PySem PySem.Spec PyProof.Rows
def tCallNS (n m:Nat) (sp:Sp) (gV:List V→List V→List V) (E:St→XK) (t tk:TA):TE:=fun σ H Q=>t σ H fun vs H1=>tk σ H1 fun zs H2=>vs.length=n∧zs.length=m∧sp (gV vs zs) H2 Q (E σ)
section
variable {X:Cx} {CX:CXT} {k n:Nat} {f:Addr} {fd:FuncData} {ps ks:List Str} {sp:Sp} {E:St→XK} {x:Str} {p pos:Pos} {e:Expr} {es:List Expr} {kws:List Keyword} {t tk:TA} {ta tb tc:TE} {g:List Value→List Value→List Value} {gV:List V→List V→List V}
end
section
variable {K:PySem.W.Frag} {x qual:Str} {st:Stmt} {f:Addr} {fd:FuncData} {ps:List Str}
end
end L2
end
noncomputable section
namespace G
open PySem PySem.Spec PyProof.Rows L2 PySem.W
section
variable {tx:XC→Addr} {Y:YC} {Γ:List Cell} {te:TE} {α β γ:Type} {d1:Dat α} {d2:Dat β} {d3:Dat γ}
end
end G
noncomputable section
namespace L2
open PySem PySem.Spec PyProof.Rows
section
variable {X:Cx}
def rJoinK (K:PySem.W.Frag):V→List V→Hp→VK→Prop:=fun x xs H Q=>∃ a p,∃ ys:List Str,x = .str a∧xs=[.ref p]∧(SqL K H p (ys.map V.str)∨SqT K H p (ys.map V.str))∧(ys.map (·.length)).sum+ys.length*a.length≤16777216∧Q (.str (Txt.join a ys)) H
theorem join_K (K:PySem.W.Frag) {o e:Expr} {to te:TE} {apos pos:Pos} (ho:PE X o to) (he:PE X e te) (hK:X.K=K:=by rfl) (hs:starEach [e] X.env=[(false,eval e X.env)]:=by rfl) (hbase:attributeBase o "join" X.env (eval o X.env)=eval o X.env:=by rfl) (hline:(apos.endLine == pos.line)=true:=by rfl) :
  PE X (.Call (.Attribute o "join" apos) [e] [] pos) (tM1 (rJoinK K) to te):=hK▸pe_join ho he hs hbase hline
end
end L2
namespace G
open PySem PySem.Spec PyProof.Rows L2 PySem.W
section
variable {Y:YC} {Γ:List Cell} {k:Ks} {ta tb te:TE} {α:Type} {d:Dat α}
end
section
variable {tx:XC→Addr} {Y:YC} {Γ:List Cell} {ta tb te:TE} {α τ:Type} {d:Dat α} {rest:TS} {js:List Nat} {K:Kt τ}
def M.lenS (x:Str):M Int:=M.asrt (x.length≤PySem.sizeLine) (.ok (x.length:Int))
theorem ZbV {m:M Str} (h:Re tx Y ta Γ dStr m):We tx Y (tCB (fun xs H Q=>∃ z,xs=[.str z]∧z.length≤sizeLine∧Q (.int z.length) H) (tCons ta tNil)) Γ dInt (m>>=M.lenS):=fun nb xk e F σ H s Q q=>h.k nb xk (k:=fun i=>m = .ok i∧(M.lenS i).nb) (fun i e nb2 _=>⟨e,nb2⟩) e F σ H s _ fun v F' H' i ⟨hm,nb2⟩ g r=>by
 cases (show v = .str i from r)
 have hz:=M.Zbv nb2
 exact ⟨i,rfl,hz,q _ F' H' _ (by rw [hm];exact M.Zah hz) g rfl⟩
theorem Reps.strs {C:GCtx} {F:Hp}:∀ {vs:List V} {xs:List Str},Reps dStr C F vs xs→vs=xs.map V.str
 | [],[],_=>rfl
 | v::vs,x::xs,h=>by
  cases (show v=V.str x from h.1)
  rw [Reps.strs h.2]
  rfl
 | [],_::_,h=>h.elim
 | _::_,[],h=>h.elim
def M.join (a:Str) (ys:List Str):M Str:=M.asrt ((ys.map (·.length)).sum+ys.length*a.length≤16777216) (.ok (Txt.join a ys))
theorem we_join {m1:M Str} {m2:M (List Str)} (h:We tx Y ta Γ dStr m1) (h2:We tx Y tb Γ (dList (d:=dStr)) m2):We tx Y (tM1 (rJoinK Y.K) ta tb) Γ dStr (m1>>=fun a=>m2>>=fun ys=>M.join a ys):=fun nb xk e F σ H s Q q =>
 h.k nb xk (k:=fun a=>W Y tb Γ (dList (d:=dStr)) fun ys=>((m1>>=fun a=>m2>>=fun ys=>M.join a ys) = .ok (Txt.join a ys))∧(ys.map (·.length)).sum+ys.length*a.length≤16777216) (fun a ea nb2 xk2=>h2.k nb2 xk2 fun ys ey nb3 xk3=>⟨by rw [ea];simp only [M.Zab];rw [ey];exact M.Zah (M.Zbv nb3),M.Zbv nb3⟩) e F σ H s _ fun v1 F1 H1 a ha g1 r1=>by
  cases (show v1 = .str a from r1)
  refine ⟨⟨a,rfl⟩,ha e F1 σ H1 (s.grow g1) _ fun v2 F2 H2 ys ⟨hm,hl⟩ g2 ⟨p,us,e2,hq,r⟩=>?_⟩
  subst e2
  rw [Reps.strs r] at hq
  exact ⟨a,p,ys,rfl,rfl,.inl (g2.fh.seq hq),hl,q _ F2 H2 _ hm (g1.trans g2) rfl⟩
end
section
variable {α β:Type} {d:Dat α} {tx:XC→Addr} {Y:YC} {Γ:List Cell} {tl:TE}
end
end G
end
noncomputable section
namespace G
open PySem PySem.Spec PyProof.Rows L2 PySem.W
structure Fl (α:Type) where
 x:α
 o:Bool
@[reducible] def dFl {α:Type} (d:Dat α):Dat (Fl α):=⟨fun C F v y=>d.rep C F v y.x,fun s h=>d.mono s h⟩
@[reducible] def oFl {α:Type} {d:Dat α} (od : @OD α d) : @OD (Fl α) (dFl d):=@OD.mk (Fl α) (dFl d)
 (fun C F v y L=>(y.o=true∧od.orep C F v y.x L)∨(y.o=false∧L=[]∧d.rep C F v y.x))
 (fun s h=>h.imp (fun ⟨a,b⟩=>⟨a,od.omono s b⟩) fun ⟨a,b,c⟩=>⟨a,b,d.mono s c⟩)
 (fun h s k=>h.elim (fun ⟨_,b⟩=>od.view b s k) fun ⟨_,_,c⟩=>d.mono s c)
section
variable {Y:YC} {Γ:List Cell} {k:Ks} {te tb:TE} {α:Type} {d:Dat α}
end
instance noDeep {α:Type} {d:Dat α} {od : @OD α d} [n:NoIns od]:NoIns (Zea od):=⟨fun {C F v x L} ⟨a,vs,L2,h1,h2,r⟩ p hp=>by
 subst h2
 rcases List.mem_cons.mp hp with rfl | hp
 ·rintro ⟨_,_,_,z⟩
  cases z
 ·have go:∀ (xs:List α) (vs:List V) (L:LO),Zcw od C F vs xs L → ∀ p∈L,¬ ∃ C dx fs,p.2 = .ins C dx fs:=by
   intro xs
   induction xs with
   | nil =>
    intro vs L r p hp
    cases vs with
    | nil=>rw [show L=[] from r] at hp;cases hp
    | cons=>exact r.elim
   | cons x xs ih =>
    intro vs L r p hp
    cases vs with
    | nil=>exact r.elim
    | cons v vs =>
     obtain ⟨L1,L2,e,h1,h2⟩:=r
     subst e
     rcases List.mem_append.mp hp with hp | hp
     ·exact n.no h1 p hp
     ·exact ih vs L2 h2 p hp
  exact go _ _ _ r p hp⟩
instance noOpt {α:Type} {d:Dat α} {od : @OD α d} [n:NoIns od]:NoIns (oOpt od):=⟨fun {C F v x L} h p hp=>by
 cases x with
 | none=>rw [show L=[] from h.2] at hp;cases hp
 | some y=>exact n.no (show od.orep C F v y L from h) p hp⟩
instance noFl {α:Type} {d:Dat α} {od : @OD α d} [n:NoIns od]:NoIns (oFl od):=⟨fun {C F v x L} h p hp=>by
 rcases h with ⟨_,h⟩ | ⟨_,h,_⟩
 ·exact n.no h p hp
 ·subst h;cases hp⟩
section
variable {tx:XC→Addr} {Y:YC} {Γ:List Cell} {te tb:TE} {α τ:Type} {d:Dat α} {rest:TS} {js:List Nat} {K:Kt τ}
end
end G
end
noncomputable section
namespace L2
open PySem PySem.Spec PyProof.Rows
section
variable {X:Cx} {CX:CXT} {k:Nat} {f:Addr} {fd:FuncData} {ps:List Str} {sp:Sp} {E:St→XK} {x:Str} {p pos:Pos} {ta:TE}
theorem kw0:tCallNS 1 0 sp (fun vs zs=>vs++[.non,.non]++zs) E (tCons ta tNil) tNil=tCallS sp E (tCons ta (tCons (tC .non) (tCons (tC .non) tNil))):=by
 funext σ H Q
 simp [tCallNS,tCallS,tCons,tNil,tC]
end
end L2
end
noncomputable section
namespace G
open PySem PySem.Spec PyProof.Rows L2 PySem.W
section
variable {prog:Program} {w:World} {M:Model} {A:Around} {E:Value→Shared→Prop} {s:Shared} {K:Frag} {x C L f:Addr} {h₀:Heap} {m:Str→Option Value} {ox:Obj} {od:Option Obj}
theorem truthy_fn {Q:Bool→Shared→Prop} (F:Fr h₀ L s.heap m) (X₀:K.In h₀) (I:InstAt s.heap x ox C od) (hs:findIn K (.ref C) "__bool__" = some (some (.ref f))) (hf:isFn K (.ref f)=true)
  (h:wpAny M A (call (.ref f) [.ref x]) (fun r s'=>∃ b,r = .bool b∧Q b s') E s):wpAny M A (truthy (.ref x)) Q E s:=by
 unfold truthy
 first
  | refine wpAny_bind (special_fn (X₀.keeps F.keep) I hs (beq_iff_eq.mp hf) (wpAny_mono h (fun r s' ⟨b,e,q⟩=>?_) fun _ _ z=>z))
  | refine wpAny_bind (wpAny_pure (wpAny_bind (special_fn (X₀.keeps F.keep) I hs (beq_iff_eq.mp hf) (wpAny_mono h (fun r s' ⟨b,e,q⟩=>?_) fun _ _ z=>z))))
 subst e
 exact wpAny_pure q
theorem meets_bool {y:Value}:MeetsIn prog w (Builtin.«bool.__new__» ⟨[.type "bool",y],[]⟩) (fun A R s=>wpAny (model prog w) A.in1 (truthy y) (fun b s'=>R (.ok (.ret (.bool b))) s') (fun e s'=>R (.error e) s') s):=fun A R s hs=>by
 have f1:=PySem.F.conv_sub_bool
 obtain ⟨hp,g,d,tk,os⟩:=s
 have key:∀ {Q:Bool→Shared→Prop},(∀ b s',R (.ok (.ret (.bool b))) s'→Q b s')→wpAny (model prog w) A.in1 (truthy y) Q (fun e s'=>R (.error e) s') ⟨hp,g,d,tk,os⟩:=fun hq=>wpAny_mono hs hq fun _ _ z=>z
 wp_walk using (key fun b s' hr=>?_)
 exact hr
theorem call_bool_t {y:Value} {Q:Value→Shared→Prop} (h:wpAny (model prog w) A.in1.in1 (truthy y) (fun b s'=>Q (.bool b) s') E s):wpAny (model prog w) A (call (.type "bool") [y]) Q E s :=
 callType_newIn PySem.F.called_bool PySem.F.newNe_bool (PySem.F.typeCall_bool_1 y) (PySem.F.newCall_bool_1 y) (fun obj=>PySem.F.args_object_init_2 obj y) PySem.F.entry_bool_new meets_bool (wpAny_mono h (fun b s' q=>⟨rfl,q⟩) fun _ _ z=>z)
end
end G
namespace L2
open PySem PySem.Spec PyProof.Rows
open G (EF inst_of truthy_fn call_bool_t)
section
variable {X:Cx} {CXt:CXT} {k:Nat} {f C:Addr} {fd:FuncData} {ps:List Str} {sp:Sp} {ta:TE} {e:Expr}
end
end L2
namespace G
open PySem PySem.Spec PyProof.Rows L2 PySem.W
section
variable {tx:XC→Addr} {Y:YC} {Γ:List Cell} {ta:TE} {α β:Type} {d:Dat α} {d2:Dat β} {C0:Addr} {ns:List Str} {sp:Sp}
end
end G
end
noncomputable section
namespace G
open PySem PySem.Spec PyProof.Rows L2 PySem.W
theorem mul_ins (a:Int) (t:Tok) (l C dx:Addr) :
  Meets (Builtin.«int.__mul__» ⟨[.int a t,.ref l],[]⟩) (fun _ R s=>s.heap.get? l=some (instObj C dx)∧R (.ok (.ret Value.notImplemented)) s) :=
 .of_wp fun prog w A R s h=>by
  obtain ⟨hp,g,d,tk,os⟩:=s
  obtain ⟨hl,h⟩:=h
  unfold instObj at hl
  wp_walk
  exact ⟨_,rfl,h⟩
section
variable {prog:Program} {w:World} {A:Around} {E:Value→Shared→Prop} {s:Shared} {K:Frag} {x y C dx L f g0:Addr} {h₀:Heap} {m:Str→Option Value} {od:Option Obj}
theorem mul_call {n:Int} {t:Tok} {Q2:Option Value→Shared→Prop} (hy:s.heap.get? y=some (instObj C dx)) (q:Q2 none s):wpAny (model prog w) A (call (.builtin "int.__mul__") [.int n t,.ref y]) (fun v s'=>v = .notImplemented∧Q2 none s') E s:=by
 refine call_meets (S:=fun _ R s=>s.heap.get? y=some (instObj C dx)∧R (.ok (.ret Value.notImplemented)) s) PySem.F.slot_int_mul (typeIs_int s n t) PySem.F.entry_int_mul (PySem.F.args_int_mul_2 _ _) (mul_ins n t y C dx) ?_
 exact ⟨hy,rfl,q⟩
theorem own_rmul {n:Int} {t:Tok} {Q:Value→Shared→Prop} (F:Fr h₀ L s.heap m) (X₀:K.In h₀) (I:InstAt s.heap y (instObj C dx) C od) (hc:selfFirst K C=true)
  (hs:findIn K (.ref C) (PySem.dunder "mul")=some (some (.ref g0))) (hr:findIn K (.ref C) (dunderR "mul")=some (some (.ref f))) (hf:isFn K (.ref f)=true) (hsub:subIn K (.ref C) (.type "int")=some false)
  (h:wpAny (model prog w) A (call (.ref f) [.ref y,.int n t]) (PySem.W.CmpBack Q) E s):wpAny (model prog w) A (binaryOp .Mult (.int n t) (.ref y)) Q E s:=by
 have hK:=X₀.keeps F.keep
 obtain ⟨cd,rest,hcd,hm⟩:=ksp_first hc
 have one:=ksp_try hK I hr hf h
 have ht:s.TypeIs (.int n t) "int":=typeIs_int s n t
 have decl:∀ {Q2:Option Value→Shared→Prop},Q2 none s→wpAny (model prog w) A (tryMethod (.int n t) (PySem.dunder "mul") (.ref y)) Q2 E s:=fun {Q2} q=>by
  refine wpAny_tryMethod_declines (M:=model prog w) (T:="int") (id:="int.__mul__") (name:=PySem.dunder "mul") (Q:=Q2) ?_ ?_ ?_
  ·exact ht
  ·exact PySem.F.slot_int_mul
  ·exact mul_call (dx:=dx) (C:=C) I.at_ q
 obtain ⟨hh,g,d,tt,os⟩:=s
 have L1:Looks (model prog w) hh (typeOf (.int n t)) (.type "int"):=Looks.of_pure rfl
 have L2:Looks (model prog w) hh (typeOf (.ref y)) (.ref C):=I.type
 have L3:fillsNumberSlot (.type "int") "mul" = pure true:=PySem.F.fills_int_mul
 have L4:Looks (model prog w) hh (fillsNumberSlot (.ref C) "mul") true:=fills_K hK hcd hm hs
 have L5:Looks (model prog w) hh (isSubtype (.ref C) (.type "int")) false:=looks_subIn hK hsub
 have hne:(Value.type "int" == Value.ref C)=false:=rfl
 have L7:numberSlotInPython (.type "int") "mul" = pure false:=rfl
 simp only [binaryOp,show Operator.Mult.info=("*","mul") from rfl]
 refine wpAny_holding (wpAny_bind ?_)
 unfold binaryOp1
 refine wpAny_bind (L1.at (wpAny_bind (L2.at (wpAny_bind (wpAny_of_eq L3 ?_)))))
 simp only [hne,Bool.false_eq_true,if_false]
 refine wpAny_bind (L4.at ?_)
 simp only [Bool.and_self,if_true]
 refine wpAny_bind (L5.at ?_)
 simp only [Bool.false_eq_true,if_false,pure_bind,Bool.not_false,Bool.and_self,if_true,L7]
 refine wpAny_bind (decl ?_)
 refine wpAny_bind (wpAny_mono one (fun r s' hr'=>?_) fun _ _ e=>e)
 obtain ⟨v,rfl,hq⟩:=hr'
 ksp_lk
 exact hq
end
end G
namespace L2
open PySem PySem.Spec PyProof.Rows
open G (EF inst_of own_rmul relV_back)
section
variable {X:Cx} {CXt:CXT} {k:Nat} {f g0 C:Addr} {fd:FuncData} {ps:List Str} {sp:Sp} {E:L2.St→XK} {pos:Pos} {a b:Expr} {ta tb:TE}
end
end L2
namespace G
open PySem PySem.Spec PyProof.Rows L2 PySem.W
section
variable {tx:XC→Addr} {Y:YC} {Γ:List Cell} {ta tb:TE} {α β:Type} {d:Dat α} {d2:Dat β} {C0:Addr} {ns:List Str} {sp:Sp} {E:L2.St→XK}
end
end G
end
noncomputable section
namespace G
open PySem PySem.Spec PyProof.Rows L2 PySem.W
section
variable {tx:XC→Addr} {Y:YC} {Γ:List Cell} {te:TE} {α:Type} {d:Dat α}
end
end G
end
noncomputable section
namespace L2
open PySem PySem.Spec PyProof.Rows PySem.W
section
variable {prog:Program} {w:World} {A:Around} {s:Shared}
end
section
variable {X:Cx}
end
end L2
namespace G
open PySem PySem.Spec PyProof.Rows L2 PySem.W
section
variable {tx:XC→Addr} {Y:YC} {Γ:List Cell} {te ta tb tc:TE} {κ α:Type} [DecidableEq κ] {dk:Dat κ} {ky:KeyD κ dk} {d:Dat α}
end
end G
end
namespace G
open PySem L2
section
variable {tx:XC→Addr} {Y:YC} {Γ:List Cell} {α τ:Type} {d:Dat α} {rest:TS} {js:List Nat} {K:Kt τ}
end
end G
noncomputable section
namespace G
open PySem PySem.Spec PyProof.Rows L2 PySem.W
section
variable {Y:YC} {Γ:List Cell} {k:Ks} {ta tb tb2 te:TE} {ts:TS}
end
section
variable {tx:XC→Addr} {Y:YC} {Γ:List Cell} {ta tb tb2 te:TE} {τ:Type} {rest:TS} {js:List Nat} {K:Kt τ}
end
end G
section
set_option maxHeartbeats 2000000
noncomputable section
namespace L2
open PySem PySem.Spec PyProof.Rows
section
variable {prog:Program} {w:World} {A:Around} {R:Result→Shared→Prop} {s:Shared} {elt t0 i0 t1 i1:Expr} {ifs0 ifs1:List Expr} {scope:Scope} {pos:Pos} {it acc:Value} {env:Env}
end
section
variable {X:Cx}
end
end L2
namespace G
open PySem PySem.Spec PyProof.Rows L2 PySem.W
section
variable {Y:YC} {Γ:List Cell} {α γ:Type} {d:Dat α} {d1:Dat γ} {g g1:TG} {tt tt1:TT} {te:TE} {ti ti1:L2.TI} {vs vs1:List Nat}
end
section
variable {tx:XC→Addr} {Y:YC} {Γ:List Cell} {α γ:Type} {d:Dat α} {d1:Dat γ} {g g1:TG} {tt tt1:TT} {te:TE} {ti ti1:L2.TI} {vs vs1:List Nat}
end
end G
end
noncomputable section
namespace G
open PySem PySem.Spec PyProof.Rows L2 PySem.W
section
variable {X:Cx}
end
end G
namespace L2
open PySem PySem.Spec PyProof.Rows PySem.W
section
variable {X:Cx}
end
end L2
namespace G
open PySem PySem.Spec PyProof.Rows L2 PySem.W
section
variable {tx:XC→Addr} {Y:YC} {Γ:List Cell} {ta tb te:TE} {α:Type} {d:Dat α}
instance dlTup {α:Type} {d:Dat α} [de : @DE α d] [dl : @DL α d de] : @DL (Tup α) dTup deTup:=@DL.mk _ _ deTup fun x=>by
 show PyData.canLay0 (.tuple (x.l.map de.toD))=true
 simp [PyData.canLay0,dlAll x.l]
end
end G
noncomputable section
namespace G
open PySem PySem.Spec PyProof.Rows L2 PySem.W
structure Wt where
 w:Str
 l:List Int
 deriving DecidableEq
instance dWt:Dat Wt:=⟨fun C F v x=>∃ a vs,v = .ref a∧TpA C.K F a (.str x.w::vs)∧Reps dInt C F vs x.l,fun s ⟨a,vs,e,h,r⟩=>⟨a,vs,e,h.mono s,r.mono s⟩⟩
instance imWt:Imm Wt:=⟨fun t ⟨a,vs,e,h,r⟩=>⟨a,vs,e,h.imp (t a _) id,r.imm t⟩⟩
instance udWt:UD Wt:=⟨fun x=>.tuple (.str x.w::x.l.map .int),fun ⟨a,vs,e,h,r⟩=>⟨a,_,e,h,rfl,dus_of (u:=udInt) r⟩⟩
section
variable {tx:XC→Addr} {Y:YC} {Γ:List Cell} {te ta tb:TE}
end
end G
end
noncomputable section
namespace L2
open PySem PySem.Spec PyProof.Rows PySem.W
abbrev TMc:=V→TS
section
variable {X:Cx} {pos:Pos} {te:TE} {t:TMc} {e:Expr} {cs:List MatchCase}
inductive Caps:List Pattern→List Str→Prop
 | nil:Caps [] []
 | cons {n:Str} {p:Pos} {ps:List Pattern} {ns:List Str} (h:Caps ps ns):Caps (.MatchAs none (some n) p::ps) (n::ns)
theorem Caps.len {ps:List Pattern} {ns:List Str} (h:Caps ps ns):ps.length=ns.length:=by
 induction h with
 | nil=>rfl
 | cons _ ih=>rw [List.length_cons,List.length_cons,ih]
end
end L2
end
noncomputable section
namespace G
open PySem PySem.Spec PyProof.Rows L2 PySem.W
section
variable {tx:XC→Addr} {Y:YC} {Γ:List Cell} {te:TE} {js:List Nat} {τ:Type} {K:Kt τ} {rest tb:TS} {t tr:TMc}
end
end G
namespace L2
open PySem PySem.Spec PyProof.Rows PySem.W
section
variable {X:Cx}
end
end L2
end
noncomputable section
namespace L2
open PySem PySem.Spec PyProof.Rows
end L2
namespace G
open PySem PySem.Spec PyProof.Rows L2 PySem.W
section
variable {tx:XC→Addr} {Y:YC} {Γ:List Cell} {ta te:TE} {α:Type} {d:Dat α}
end
end G
end
noncomputable section
namespace G
open PySem PySem.Spec PyProof.Rows L2 PySem.W
section
variable {tx:XC→Addr} {Y:YC} {Γ:List Cell} {ta te:TE} {js:List Nat} {rest:TS} {τ:Type} {K:Kt τ}
end
end G
end
noncomputable section
namespace G
open PySem PySem.Spec PyProof.Rows L2 PySem.W
@[reducible] def dIL {α:Type} {d:Dat α}:Dat (DI α):=⟨fun C F v x=>∃ a o ps,v = .ref a∧F a=some (.frz o (.dK ps))∧Zcy d C F ps x.kv,fun m ⟨a,o,ps,e,h,r⟩=>⟨a,o,ps,e,m _ _ h,r.mono m⟩⟩
@[reducible] def oIL {α:Type} {d:Dat α} : @OD (DI α) (dIL (d:=d)):=@OD.mk (DI α) (dIL (d:=d))
 (fun C F v x L=>∃ a o ps,v = .ref a∧L=[(a,.frz o (.dK ps))]∧Zcy d C F ps x.kv)
 (fun m ⟨a,o,ps,e,h,r⟩=>⟨a,o,ps,e,h,r.mono m⟩)
 (fun ⟨a,o,ps,e,h,r⟩ m k=>⟨a,o,ps,e,k (a,.frz o (.dK ps)) (by rw [h];exact List.mem_cons_self),r.mono m⟩)
section
variable {tx:XC→Addr} {Y:YC} {Γ:List Cell} {te ta tb tl tk tv:TE} {t:TS} {α τ:Type} {d:Dat α} {js:List Nat} {rest:TS} {K:Kt τ}
end
end G
end
noncomputable section
namespace L2
open PySem PySem.Spec PyProof.Rows PySem.W
section
variable {X:Cx} {o:Expr} {p pos apos mpos:Pos} {td:TE}
end
end L2
namespace G
open PySem PySem.Spec PyProof.Rows L2 PySem.W
section
variable {tx:XC→Addr} {Y:YC} {Γ:List Cell} {te:TE} {α:Type} {d:Dat α}
end
end G
end
noncomputable section
namespace G
open PySem PySem.Spec PyProof.Rows L2 PySem.W
section
variable {tx:XC→Addr} {Y:YC} {Γ:List Cell} {ta:TE} {α β τ:Type} {d1:Dat α} {d2:Dat β} {js:List Nat} {rest:TS} {K:Kt τ}
end
end G
end
noncomputable section
namespace G
open PySem PySem.Spec PyProof.Rows L2 PySem.W
section
variable {tx:XC→Addr} {Y:YC} {Γ:List Cell} {ta:TE} {α β τ:Type} {d1:Dat α} {d2:Dat β} {js:List Nat} {rest:TS} {K:Kt τ}
end
end G
end
noncomputable section
namespace G
open PySem PySem.Spec PyProof.Rows L2 PySem.W
section
variable {tx:XC→Addr} {Y:YC} {Γ:List Cell} {te ta:TE} {tl:TA} {α β:Type} {d:Dat α} {rest:TS} {js:List Nat}
end
end G
end
noncomputable section
namespace L2
open PySem PySem.Spec PyProof.Rows
end L2
namespace G
open PySem PySem.Spec PyProof.Rows L2 PySem.W
section
variable {tx:XC→Addr} {Y:YC} {Γ:List Cell} {ta te:TE} {α:Type} {d:Dat α}
end
end G
end
noncomputable section
namespace G
open PySem PySem.Spec PyProof.Rows L2 PySem.W
section
variable {tx:XC→Addr} {Y:YC} {Γ:List Cell} {ta:TE} {α τ:Type} {d:Dat α} {rest:TS} {js:List Nat} {K:Kt τ}
end
instance nnDI {α:Type} {d:Dat α} : @NN (DI α) (dDI (d:=d)):=⟨fun ⟨a,ps,e,_⟩ z=>by subst z;cases e⟩
instance nnIL {α:Type} {d:Dat α} : @NN (DI α) (dIL (d:=d)):=@NN.mk (DI α) (dIL (d:=d)) fun ⟨a,o,ps,e,_⟩ z=>by subst z;cases e
end G
end
section
set_option maxHeartbeats 2000000
noncomputable section
namespace L2
open PySem PySem.Spec PyProof.Rows
section
variable {X:Cx}
end
end L2
namespace G
open PySem PySem.Spec PyProof.Rows L2 PySem.W
structure PS where
 l:List (Int×Int)
theorem OkQ.mono {C:GCtx} {F F' : Hp} {q:Addr×List Int} (h:OkQ C F q) (s:Same F F'):OkQ C F' q:=⟨h.1,h.2.mono s⟩
instance dPS:Dat PS:=⟨fun C F v s=>∃ a L,v = .ref a∧F a=some (SetTO C.P C.w a L)∧(∀ q∈L,OkQ C F q)∧(L.map toP).Perm s.l,fun m ⟨a,L,e,h,o,p⟩=>⟨a,L,e,m _ _ h,fun q hq=>(o q hq).mono m,p⟩⟩
instance oPS:OD PS where
 orep C F v s Ls:=∃ a L,v = .ref a∧Ls=[(a,SetTO C.P C.w a L)]∧(∀ q∈L,OkQ C F q)∧(L.map toP).Perm s.l
 omono m:=fun ⟨a,L,e,h,o,p⟩=>⟨a,L,e,h,fun q hq=>(o q hq).mono m,p⟩
 view:=fun ⟨a,L,e,h,o,p⟩ m k=>⟨a,L,e,k (a,SetTO _ _ a L) (by rw [h];exact List.mem_cons_self),fun q hq=>(o q hq).mono m,p⟩
section
variable {tx:XC→Addr} {Y:YC} {Γ:List Cell} {tl te ta:TE} {g:TG} {tt:TT} {vs:List Nat} {α:Type} {d:Dat α}
end
end G
end
end
section
set_option maxHeartbeats 2000000
noncomputable section
namespace L2
open PySem PySem.Spec PyProof.Rows
section
variable {X:Cx} {CXt:CXT} {k:Nat} {f a:Addr} {oe:Obj} {cls:Value} {d:Option Addr} {pn:List (Addr×Obj)} {fd:FuncData} {ps:List Str} {sp:Addr→Value→Option Addr→Sp} {E:L2.St→XK} {x:Str} {q pos:Pos} {e:Expr} {es:List Expr} {t:TA}
end
end L2
namespace G
open PySem PySem.Spec PyProof.Rows L2 PySem.W
section
variable {tx:XC→Addr} {Y:YC} {Γ:List Cell} {β:Type} {d:Dat β}
end
end G
end
end
section
set_option maxHeartbeats 2000000
noncomputable section
namespace L2
open PySem PySem.Spec PyProof.Rows
section
variable {X:Cx}
end
end L2
namespace G
open PySem PySem.Spec PyProof.Rows L2 PySem.W
section
variable {tx:XC→Addr} {Y:YC} {Γ:List Cell} {te:TE} {κ α:Type} [DecidableEq κ] {dk:Dat κ} {ky:KeyD κ dk} {d:Dat α}
end
end G
end
end
noncomputable section
namespace G
open PySem PySem.Spec PyProof.Rows L2 PySem.W
section
variable {tx:XC→Addr} {Y:YC} {Γ:List Cell} {ta tb:TE}
end
end G
end
section
set_option maxHeartbeats 2000000
noncomputable section
namespace L2
open PySem PySem.Spec PyProof.Rows
section
variable {P:Program} {w:World} {A:Around} {E:Value→Shared→Prop} {s:Shared} {a:Addr} {L:List (Addr×List Int)} {es:Array (Int×Value)} {ep:Nat} {t:SetTable}
end
end L2
namespace L2
open PySem PySem.Spec PyProof.Rows
section
variable {X:Cx}
variable {o e:Expr} {es:List Expr} {to:TE} {t:TA} {apos cpos:Pos}
end
end L2
namespace G
open PySem PySem.Spec PyProof.Rows L2 PySem.W
section
variable {tx:XC→Addr} {Y:YC} {Γ:List Cell} {te ta tb:TE} {τ:Type} {js:List Nat} {rest:TS} {K:Kt τ} {k:Ks}
end
end G
end
end
noncomputable section
namespace G
open PySem PySem.Spec PyProof.Rows L2 PySem.W
section
variable {tx:XC→Addr} {Y:YC} {Γ:List Cell} {te:TE} {α:Type} {d:Dat α}
end
end G
end
noncomputable section
namespace G
open PySem PySem.Spec PyProof.Rows L2 PySem.W
section
variable {tx:XC→Addr} {Y:YC} {Γ:List Cell} {te ta tb tl:TE} {t u tt:TT} {α β γ:Type} {d:Dat α} {d1:Dat γ} {d2:Dat β} {g:TG}
end
end G
end
noncomputable section
namespace L2
open PySem PySem.Spec PyProof.Rows
end L2
namespace G
open PySem PySem.Spec PyProof.Rows L2 PySem.W
section
variable {tx:XC→Addr} {Y:YC} {Γ:List Cell} {te:TE} {α:Type} {d:Dat α}
end
end G
end
noncomputable section
namespace L2
open PySem PySem.Spec PyProof.Rows
structure KDS (K:PySem.W.Frag) (w:World) (a:Addr) (kvs:List (Str×Int)):Prop where
 at_:∀ k z,kvs.lookup k=some z→KDct K w a k (.int z)
theorem KDS.nil {K:PySem.W.Frag} {w:World} {a:Addr}:KDS K w a []:=⟨fun k z h=>by cases h⟩
theorem KDS.cons {K:PySem.W.Frag} {w:World} {a:Addr} {kvs:List (Str×Int)} {k:Str} {z:Int} (h:KDct K w a k (.int z)) (r:KDS K w a kvs):KDS K w a ((k,z)::kvs):=⟨fun k' z' e=>by
 rw [List.lookup_cons] at e
 cases hk:(k' == k) with
 | true =>
  rw [hk] at e
  cases e
  rw [eq_of_beq hk]
  exact h
 | false =>
  rw [hk] at e
  exact r.at_ k' z' e⟩
end L2
namespace G
open PySem PySem.Spec PyProof.Rows L2 PySem.W
section
variable {tx:XC→Addr} {Y:YC} {Γ:List Cell} {tb tl te:TE} {α β:Type} {d:Dat α}
end
end G
end
noncomputable section
namespace G
open PySem PySem.Spec PyProof.Rows L2 PySem.W
section
variable {Y:YC} {Γ:List Cell} {α β γ:Type} {d:Dat α} {d1:Dat γ} {d2:Dat β} {g g1:TG} {tt tt1:TT} {te:TE} {ti ti1:L2.TI} {vs vs1:List Nat}
end
section
variable {tx:XC→Addr} {Y:YC} {Γ:List Cell} {α β γ:Type} {d:Dat α} {d1:Dat γ} {d2:Dat β} {g g1:TG} {tt tt1:TT} {te:TE} {ti ti1:L2.TI} {vs vs1:List Nat}
end
end G
end
noncomputable section
namespace G
open PySem PySem.Spec PyProof.Rows L2 PySem.W
section
variable {tx:XC→Addr} {Y:YC} {Γ:List Cell} {tt:TT} {α τ:Type} {d:Dat α} {js:List Nat} {rest:TS}
end
end G
end
noncomputable section
namespace G
open PySem PySem.Spec PyProof.Rows L2 PySem.W
section
variable {tx:XC→Addr} {Y:YC} {Γ:List Cell} {te:TE} {α:Type} {d:Dat α}
theorem oe_lst1O {od : @OD α d} {m:M α} (h:Oe tx Y te Γ od m):Oe tx Y (tLst (tCons te tNil)) Γ (Zea od) (m>>=fun x=>.ok [x]):=fun nb xk e F σ H s Q q =>
 h (M.nb1 nb) xk.l e F σ H s _ fun v F1 H1 L1 x hm g1 r=>by
 refine ⟨show (1:Nat)≤PySem.sizeLine by decide,fun p hp=>?_⟩
 exact q _ F1 _ ((p,.lst [v])::L1) _ (by rw [hm];rfl) (g1.own hp (fun _ z=>by cases z)) ⟨p,[v],L1,rfl,rfl,Zcw.one r⟩
end
end G
end
noncomputable section
namespace G
open PySem PySem.Spec PyProof.Rows L2 PySem.W
section
variable {tx:XC→Addr} {Y:YC} {Γ:List Cell} {ta tb:TE}
end
end G
namespace L2
open PySem PySem.Spec PyProof.Rows
end L2
noncomputable section
namespace G
open PySem PySem.Spec PyProof.Rows L2 PySem.W
section
variable {tx:XC→Addr} {Y:YC} {js:List Nat} {Γ:List Cell} {tt:TT} {rest:TS} {α:Type} {d:Dat α}
end
end G
noncomputable section
namespace G
open PySem PySem.Spec PyProof.Rows L2 PySem.W
def rInSg:R2:=fun x y H Q=>∃ (c:Nat) (z:Str),x = .str ⟨#[c]⟩∧y = .str z∧Q (.bl (decide (c∈z.cps.toList))) H
def rNiSg:R2:=fun x y H Q=>∃ (c:Nat) (z:Str),x = .str ⟨#[c]⟩∧y = .str z∧Q (.bl (!decide (c∈z.cps.toList))) H
theorem op_inSg {X:Cx}:OpR X (compareOp .In) rInSg:=op_in_sign
theorem op_niSg {X:Cx}:OpR X (compareOp .NotIn) rNiSg:=op_notIn_sign
def signs (z:Str):List Str:=z.cps.toList.map fun c=>(⟨#[c]⟩:Str)
def M.signs (z:Str):M (List Str):=M.asrt (z.cps.size≤PySem.sizeLine) (.ok (G.signs z))
def M.ixS (z:Str) (i:Int):M Str:=M.asrt (z.length≤PySem.sizeLine) (M.ofO ((atI z.cps.toList i).map fun c=>(⟨#[c]⟩:Str)))
def M.slS (z:Str) (lo hi:Option Int):M Str:=M.asrt (z.length≤PySem.sizeLine) (.ok (cutS z lo hi))
def M.inSg (x z:Str):M Bool:=match x.cps.toList with | [c]=>.ok (decide (c∈z.cps.toList)) | _=>.bad
def M.niSg (x z:Str):M Bool:=match x.cps.toList with | [c]=>.ok (!decide (c∈z.cps.toList)) | _=>.bad
theorem str_one {x:Str} {c:Nat} (h:x.cps.toList=[c]):x=⟨#[c]⟩:=by
 obtain ⟨a⟩:=x
 congr 1
 exact Array.toList_inj.mp h
section
variable {tx:XC→Addr} {Y:YC} {Γ:List Cell} {te ta tb:TE} {β:Type} {d2:Dat β} {g:TG} {ts:TS} {k:Ks}
theorem ZeI {m1:M Str} {m2:M Int} (h:We tx Y ta Γ dStr m1) (h2:We tx Y tb Γ dInt m2):We tx Y (tOp rIxS ta tb) Γ dStr (m1>>=fun x=>m2>>=fun n=>M.ixS x n):=fun nb xk e F σ H s Q q =>
 h.k nb xk (k:=fun x=>W Y tb Γ dInt fun n=>∃ c,atI x.cps.toList n=some c∧x.length≤PySem.sizeLine∧(m1>>=fun x=>m2>>=fun n=>M.ixS x n) = .ok (⟨#[c]⟩:Str)) (fun x ex nb2 xk2=>h2.k nb2 xk2 fun n en nb3 xk3=>by
  have hz:=M.Zbv nb3
  have e4:M.ixS x n=M.ofO ((atI x.cps.toList n).map fun c=>(⟨#[c]⟩:Str)):=M.Zah hz
  rw [e4] at nb3
  cases hc:atI x.cps.toList n with
  | none=>rw [hc] at nb3;exact absurd rfl nb3
  | some c=>exact ⟨c,rfl,hz,by rw [ex];show (m2>>=_)=_;rw [en];show M.ixS x n=_;rw [e4,hc];rfl⟩) e F σ H s _ fun v1 F1 H1 x hx g1 r1=>hx e F1 σ H1 (s.grow g1) _ fun v2 F2 H2 n ⟨c,hc,hz,hm⟩ g2 r2=>by
  cases (show v1 = .str x from r1)
  cases (show v2 = .int n from r2)
  exact ⟨x,n,c,rfl,rfl,hz,hc,q _ F2 H2 _ hm (g1.trans g2) rfl⟩
theorem we_inSg {m1 m2:M Str} (h:We tx Y ta Γ dStr m1) (h2:We tx Y tb Γ dStr m2):We tx Y (tOp rInSg ta tb) Γ dBool (m1>>=fun x=>m2>>=fun n=>M.inSg x n):=fun nb xk e F σ H s Q q =>
 h.k nb xk (k:=fun x=>W Y tb Γ dStr fun n=>∃ c,x=⟨#[c]⟩∧(m1>>=fun x=>m2>>=fun n=>M.inSg x n) = .ok (decide (c∈n.cps.toList))) (fun x ex nb2 xk2=>h2.k nb2 xk2 fun n en nb3 xk3=>by
  cases hc:x.cps.toList with
  | nil=>unfold M.inSg at nb3;rw [hc] at nb3;exact absurd rfl nb3
  | cons c l=>cases l with
   | cons _ _=>unfold M.inSg at nb3;rw [hc] at nb3;exact absurd rfl nb3
   | nil=>exact ⟨c,str_one hc,by rw [ex];show (m2>>=_)=_;rw [en];show M.inSg x n=_;unfold M.inSg;rw [hc]⟩) e F σ H s _ fun v1 F1 H1 x hx g1 r1=>hx e F1 σ H1 (s.grow g1) _ fun v2 F2 H2 n ⟨c,hc,hm⟩ g2 r2=>by
  subst hc
  cases (show v1 = .str _ from r1)
  cases (show v2 = .str n from r2)
  exact ⟨c,n,rfl,rfl,q _ F2 H2 _ hm (g1.trans g2) rfl⟩
theorem we_niSg {m1 m2:M Str} (h:We tx Y ta Γ dStr m1) (h2:We tx Y tb Γ dStr m2):We tx Y (tOp rNiSg ta tb) Γ dBool (m1>>=fun x=>m2>>=fun n=>M.niSg x n):=fun nb xk e F σ H s Q q =>
 h.k nb xk (k:=fun x=>W Y tb Γ dStr fun n=>∃ c,x=⟨#[c]⟩∧(m1>>=fun x=>m2>>=fun n=>M.niSg x n) = .ok (!decide (c∈n.cps.toList))) (fun x ex nb2 xk2=>h2.k nb2 xk2 fun n en nb3 xk3=>by
  cases hc:x.cps.toList with
  | nil=>unfold M.niSg at nb3;rw [hc] at nb3;exact absurd rfl nb3
  | cons c l=>cases l with
   | cons _ _=>unfold M.niSg at nb3;rw [hc] at nb3;exact absurd rfl nb3
   | nil=>exact ⟨c,str_one hc,by rw [ex];show (m2>>=_)=_;rw [en];show M.niSg x n=_;unfold M.niSg;rw [hc]⟩) e F σ H s _ fun v1 F1 H1 x hx g1 r1=>hx e F1 σ H1 (s.grow g1) _ fun v2 F2 H2 n ⟨c,hc,hm⟩ g2 r2=>by
  subst hc
  cases (show v1 = .str _ from r1)
  cases (show v2 = .str n from r2)
  exact ⟨c,n,rfl,rfl,q _ F2 H2 _ hm (g1.trans g2) rfl⟩
theorem w_slS {tl th:TO} {kx:Str→Prop} (h:W Y te Γ dStr fun z=>TOk Y tl Γ fun lo=>TOk Y th Γ fun hi=>z.length≤PySem.sizeLine∧kx (cutS z lo hi)):W Y (tSl rSlS te tl th) Γ dStr kx:=fun e F σ H s Q q=>h e F σ H s _ fun v F1 H1 z h1 g1 r1=>by
 cases (show v = .str z from r1)
 refine h1 e F1 σ H1 (s.grow g1) _ fun lo F2 H2 h2 g2=>h2 e F2 σ H2 ((s.grow g1).grow g2) _ fun hi F3 H3 h3 g3=>⟨z,rfl,h3.1,?_⟩
 exact q _ _ _ _ h3.2 ((g1.Zbc g2).trans g3) rfl
theorem Zdj {tl th:TO} {m:M Str} {n o:M (Option Int)} (h:We tx Y te Γ dStr m) (h2:TOe tx Y tl Γ n) (h3:TOe tx Y th Γ o):We tx Y (tSl rSlS te tl th) Γ dStr (m>>=fun xs=>n>>=fun lo=>o>>=fun hi=>M.slS xs lo hi):=fun nb xk =>
 w_slS (h.k nb xk fun xs e nb xk=>to_mono (h2 (M.nb1 nb) xk.l) fun lo e2=>to_mono (h3 (M.nb1 (f:=fun hi=>M.slS xs lo hi) (M.nb2 (f:=fun lo=>o>>=fun hi=>M.slS xs lo hi) nb e2)) (XkM.l (f:=fun hi=>M.slS xs lo hi) (XkM.r (f:=fun lo=>o>>=fun hi=>M.slS xs lo hi) xk e2))) fun hi e3=>by
  have hp:xs.length≤PySem.sizeLine:=M.Zbv (M.nb2 (f:=fun hi=>M.slS xs lo hi) (M.nb2 (f:=fun lo=>o>>=fun hi=>M.slS xs lo hi) nb e2) e3)
  refine ⟨hp,?_⟩
  rw [e]
  show (n>>=_)=_
  rw [e2]
  show (o>>=_)=_
  rw [e3]
  exact M.Zah hp)
theorem signs_get {z:Str} {i:Nat} {c:Nat} (h:z.cps[i]? = some c):(signs z)[i]? = some (⟨#[c]⟩:Str):=by
 unfold signs
 rw [List.getElem?_map,Array.getElem?_toList,h]
 rfl
theorem signs_len (z:Str):(signs z).length=z.cps.size:=by
 unfold signs
 rw [List.length_map,Array.length_toList]
theorem z_forS {kt:Ks} (h:W Y te Γ dStr fun z=>Body Y g ts dStr kt (fun i=>(signs z)[i]?) (signs z).length Γ):Z Y (tFor (iStr te) g ts) Γ kt:=fun e F σ H D hM s c=>h e F σ H s _ fun v F1 H1 z ⟨I,h0,hs,hd⟩ g1 r1=>by
 cases (show v = .str z from r1)
 have s1:=s.grow g1
 refine ⟨z,rfl,fun i m σ H=>m=z.cps.size-i∧i≤z.cps.size ∧ ∃ F' Γ',State Y e F' σ H Γ'∧I i Γ',⟨z.cps.size,by simp,Nat.zero_le _,F1,Γ,s1,h0⟩,?_⟩
 rintro i m σ H ⟨rfl,hi,F',Γ',st,hI⟩
 by_cases hlt:i<z.cps.size
 ·refine .inr ⟨hlt,fun σ' H'=>∃ F' Γ',State Y e F' σ' H' Γ'∧I (i+1) Γ',fun σ' H' p=>⟨z.cps.size-(i+1),by omega,rfl,hlt,p⟩,?_⟩
  rintro x H' ⟨rfl,c',hc,rfl⟩
  refine hs i _ Γ' (signs_get hc) hI _ F' σ H' _ st rfl _ fun σ2 Γ2 h2 st2=>?_
  exact h2 _ F' σ2 H' _ hM st2 ⟨fun F3 σ3 H3 Γ3 k3 st3=>⟨F3,Γ3,st3,k3⟩,c.rt,c.nx,fun F3 σ3 H3 Γ3 k3 st3=>⟨F3,Γ3,st3,k3⟩⟩
 ·have hi2:i=z.cps.size:=by omega
  subst hi2
  rw [signs_len] at hd
  exact .inl ⟨Nat.le_refl _,c.nx F' σ H Γ' (hd Γ' hI) st⟩
theorem ie_str {m:M Str} (h:We tx Y te Γ dStr m):Ie tx Y (iStr te) Γ dStr (m>>=fun z=>.ok (signs z)):=fun nb xk g ts kt hb=>z_forS (h.k nb xk fun z e _ _=>hb (signs z) (by rw [e];rfl))
theorem ic_str {m:M Str} (h:We tx Y te Γ dStr m):Ic tx Y (iStr te) Γ dStr (m>>=M.signs):=fun nb xk β d2 g tt te2 vs kx hT hb e F σ H s Q q=>h.k nb xk (k:=fun z=>m = .ok z∧z.cps.size≤PySem.sizeLine) (fun z e nb2 _=>⟨e,M.Zbv nb2⟩) e F σ H s _ fun v F1 H1 z ⟨hm,hz⟩ g1 r1=>by
 cases (show v = .str z from r1)
 refine ⟨z,rfl,fun D hD=>?_⟩
 obtain ⟨I,h0,hs,hd⟩:=hb (signs z) (by rw [hm];exact M.Zah hz) (by rw [signs_len];exact hz)
 have kw0:Wk ⟨F1,H1,[]⟩ F1 [(D,.lst [])] (upd H1 D (.lst [])):=g1.base.own hD (fun _ z=>by cases z)
 refine ⟨fun i m H=>m=z.cps.size-i∧i≤z.cps.size ∧ ∃ F' acc ys,Wk ⟨F1,H1,[]⟩ F' [(D,.lst acc)] H∧Reps d2 Y.g F' acc ys∧I i ys,⟨z.cps.size,by simp,Nat.zero_le _,F1,[],[],kw0,trivial,h0⟩,?_⟩
 rintro i m H ⟨rfl,hi,F',acc,zs,kw,ra,hI⟩
 by_cases hlt:i<z.cps.size
 ·refine .inr ⟨hlt,fun H=>∃ F' acc ys,Wk ⟨F1,H1,[]⟩ F' [(D,.lst acc)] H∧Reps d2 Y.g F' acc ys∧I (i+1) ys,fun H' p'=>⟨z.cps.size-(i+1),by omega,rfl,hlt,p'⟩,?_⟩
  rintro x H' ⟨rfl,c',hc,rfl⟩
  exact comp_turn0 (d:=dStr) (x:=(⟨#[c']⟩:Str)) (s.grow g1) hT.1 (hs i _ · (signs_get hc)) kw ra hI rfl
 ·have hi2:i=z.cps.size:=by omega
  subst hi2
  rw [signs_len] at hd
  exact .inl ⟨Nat.le_refl _,q _ F' H _ zs (hd zs hI) (by simpa using g1.trans kw) ⟨D,acc,rfl,rfl,ra⟩⟩
end
end G
end
noncomputable section
namespace G
open PySem PySem.Spec PyProof.Rows L2 PySem.W
section
variable {tx:XC→Addr} {Y:YC} {Γ:List Cell} {ta tb tc:TE}
theorem w_tupV2 {k:PyData→Prop} (h:W Y ta Γ dUI fun x=>W Y tb Γ dUI fun y=>k (.tuple [x,y])):W Y (tTup (tCons ta (tCons tb tNil))) Γ dUI k:=fun e F σ H s Q q =>
 w_tup2 (d1:=dUI) (d2:=dUI) (k:=fun p:PyData×PyData=>k (.tuple [p.1,p.2])) h e F σ H s Q fun v F' H' p kp g ⟨a,v1,v2,e1,ht,r1,r2⟩=>q v F' H' _ kp g ⟨by show (noL _&&(noL _&&true))=true;rw [r1.1,r2.1];rfl,a,_,e1,ht,r1.2,r2.2,trivial⟩
theorem w_tupV3 {k:PyData→Prop} (h:W Y ta Γ dUI fun x=>W Y tb Γ dUI fun y=>W Y tc Γ dUI fun z=>k (.tuple [x,y,z])):W Y (tTup (tCons ta (tCons tb (tCons tc tNil)))) Γ dUI k:=fun e F σ H s Q q =>
 w_tup3 (d1:=dUI) (d2:=dUI) (d3:=dUI) (k:=fun p:T3 PyData PyData PyData=>k (.tuple [p.a,p.b,p.c])) h e F σ H s Q fun v F' H' p kp g ⟨a,v1,v2,v3,e1,ht,r1,r2,r3⟩=>q v F' H' _ kp g ⟨by show (noL _&&(noL _&&(noL _&&true)))=true;rw [r1.1,r2.1,r3.1];rfl,a,_,e1,ht,r1.2,r2.2,r3.2,trivial⟩
theorem Zbp {m n:M PyData} (h:We tx Y ta Γ dUI m) (h2:We tx Y tb Γ dUI n):We tx Y (tTup (tCons ta (tCons tb tNil))) Γ dUI (m>>=fun x=>n>>=fun y=>.ok (PyData.tuple [x,y])):=fun nb xk =>
 w_tupV2 (h.k nb xk fun x e nb2 xk2=>h2.k nb2 xk2 fun y e2 _ _=>by rw [e];show (n>>=_)=_;rw [e2];rfl)
theorem ZaA {m n o:M PyData} (h:We tx Y ta Γ dUI m) (h2:We tx Y tb Γ dUI n) (h3:We tx Y tc Γ dUI o):We tx Y (tTup (tCons ta (tCons tb (tCons tc tNil)))) Γ dUI (m>>=fun x=>n>>=fun y=>o>>=fun z=>.ok (PyData.tuple [x,y,z])):=fun nb xk =>
 w_tupV3 (h.k nb xk fun x e nb2 xk2=>h2.k nb2 xk2 fun y e2 nb3 xk3=>h3.k nb3 xk3 fun z e3 _ _=>by rw [e];show (n>>=_)=_;rw [e2];show (o>>=_)=_;rw [e3];rfl)
end
end G
end
noncomputable section
namespace G
open PySem PySem.Spec PyProof.Rows L2 PySem.W
abbrev KindM:=Ob1 PyData
section
variable (A:CA3)
@[reducible] def dKind:Dat KindM:=dOb1 (d1:=dUI) (A.ob .Kind) "shape"
@[reducible] def oKind : @OD KindM (dKind A):=oOb1 (d1:=dUI) (A.ob .Kind) "shape"
end
end G
end
noncomputable section
namespace G
open PySem PySem.Spec PyProof.Rows L2 PySem.W
section
variable {Y:YC} {Γ:List Cell} {k:Ks} {te t1 t2:TE} {Cx:Addr} {f1 f2:Str} {Wt:WX}
theorem z_raise1S (hE:Y.E=WE Wt) (h:R Y te Γ dStr fun n=>Y.kx ⟨Cx,some [(f1,.str n)]⟩ Γ):Z Y (fun _ σ H=>tMkO Cx (spX1 Cx f1) [] (tCons te tNil) σ H fun cls d H'=>Wt cls d σ H') Γ k:=fun e F σ H D hM s c=>h e F σ H s _ fun v F1 H1 n kn g r=>by
 cases (show v = .str n from r)
 refine ⟨by show 1≤1000;omega,fun a ha=>⟨a,.str n,rfl,upd_same,fun d hd hda=>⟨rfl,d,[(f1,.str n)],upd_same,by rw [upd_ne hda,upd_same],?_,?_⟩⟩⟩
 ·rw [upd_ne hda] at hd
  exact hd
 ·rw [upd_ne hda] at hd
  have e1:upd (del (upd (upd (upd H1 a (exo a Cx none)) d (exd d [(f1,.str n)])) a (exo a Cx (some d))) a) d (.xd [(f1,.str n)])=upd H1 d (.xd [(f1,.str n)]):=by
   funext b
   by_cases hb:b=d
   ·subst hb;rw [upd_same,upd_same]
   ·rw [upd_ne hb,upd_ne hb]
    by_cases hb2:b=a
    ·subst hb2;rw [del_same,ha]
    ·rw [del_ne hb2,upd_ne hb2,upd_ne hb,upd_ne hb2]
  rw [e1]
  have:=s.1 ⟨Cx,some [(f1,.str n)]⟩ (some d) (upd F1 d (.xd [(f1,.str n)])) σ (upd H1 d (.xd [(f1,.str n)])) Γ kn ((s.grow g).grow (g.base.lay hd)).2 ⟨_,_,rfl,upd_same,rfl,rfl,trivial⟩
  rw [hE] at this
  exact this
end
section
variable {Y:YC} {Γ:List Cell} {k:Ks} {te:TE} {a Cx:Addr} {d:Option Addr} {x:Exn} {i:Nat}
theorem w_xfS {cls:Value} {f:Str} {n:Str} {fs:List (Str×XV)} {kx:Str→Prop} (hi:Γ[i]? = some (.val (dExn a d) x)) (hc:cls = .ref x.cls) (hx:x.cls=Cx) (hf:x.fs=some fs) (hl:fs.lookup f=some (.str n)) (h:kx n) :
  W Y (tXf a cls d Cx f (tVar i)) Γ dStr kx:=fun e F σ H s Q q=>by
 obtain ⟨v,e1,e2,r⟩:=s.val hi
 subst e2
 refine ⟨.ref a,e1,rfl,by rw [hc,hx],?_⟩
 cases d with
 | none=>rw [show x.fs=none from r] at hf;cases hf
 | some dd =>
  obtain ⟨fs1,fs',e3,e4,e5⟩:=r
  rw [hf] at e3
  cases e3
  obtain ⟨v',e6,e7⟩:=e5.look hl
  cases (show v' = .str n from e7)
  exact ⟨dd,fs',.str n,rfl,s.fh _ _ e4,e6,q _ F H n h s.base rfl⟩
end
def M.raise1S {α:Type} (c:XC) (f:Str) (m:M Str):M α:=m>>=fun n=>.exc ⟨c,some [(f,.str n)]⟩
def PX.fldS (x:PX) (c:XC) (f:Str):M Str:=if x.cls=c then (match x.fs with | some fs=>(match fs.lookup f with | some (.str n)=>.ok n | _=>.bad) | none=>.bad) else .bad
section
variable {tx:XC→Addr} {Y:YC} {Γ:List Cell} {te:TE} {rest:TS} {js:List Nat} {τ:Type} {K:Kt τ} {Cx:Addr} {f1 f2:Str} {Wt:WX}
theorem Zec {c:XC} {m:M Str} (hE:Y.E=WE Wt) (hc:tx c=Cx) (h:Re tx Y te Γ dStr m):Zm tx Y js (tSeq (fun _ σ H=>tMkO Cx (spX1 Cx f1) [] (tCons te tNil) σ H fun cls d H'=>Wt cls d σ H') rest) Γ K (M.raise1S c f1 m):=fun nb xk=>by
 subst hc
 exact z_raise1S (k:=K.ks (M.raise1S c f1 m)) hE (r_mono (h (M.nb1 nb) xk.l.here) fun n e=>xk ⟨c,some [(f1,.str n)]⟩ (by unfold M.raise1S;rw [e];rfl) Γ rfl)
theorem we_xfS {a:Addr} {dd:Option Addr} {px:PX} {i:Nat} {c:XC} {f:Str} (hi:Γ[i]? = some (.val (dExn a dd) (px.x tx))) (hc:tx c=Cx):We tx Y (tXf a (.ref (tx px.cls)) dd Cx f (tVar i)) Γ dStr (px.fldS c f):=fun nb xk=>by
 subst hc
 unfold PX.fldS at nb ⊢
 split at nb
 ·next hcls =>
  cases hfs:px.fs with
  | none=>rw [hfs] at nb;exact absurd rfl nb
  | some fs =>
   rw [hfs] at nb
   cases hl:fs.lookup f with
   | none=>simp only [hl] at nb;exact absurd rfl nb
   | some v =>
    cases v with
    | str n =>
     rw [if_pos hcls]
     exact w_xfS (x:=px.x tx) (n:=n) (fs:=fs) hi rfl (by show tx px.cls=_;rw [hcls]) hfs hl (by simp only [hl])
    | _=>simp only [hl] at nb;exact absurd rfl nb
 ·exact absurd rfl nb
end
end G
end
noncomputable section
namespace L2
open PySem PySem.Spec PyProof.Rows
inductive TEnt:List DictEntry→List (Str×Str)→Prop where
 | nil:TEnt [] []
 | cons {es:List DictEntry} {kvs:List (Str×Str)} (k z:Str) (t t2:Tok) (h:Int) (r:TEnt es kvs):TEnt (⟨h,.str k t,.str z t2⟩::es) ((k,z)::kvs)
structure KDT (K:PySem.W.Frag) (w:World) (a:Addr) (kvs:List (Str×Str)):Prop where
 at_:∃ es n,K.lookup a=some ⟨.type "dict",none,.dict es n,#[]⟩∧PySem.W.KeysLit w.params es.toList∧(a == sysModules)=false∧TEnt es.toList kvs
theorem TEnt.ref:∀ {es:List DictEntry} {kvs:List (Str×Str)},TEnt es kvs→es.any (·.refKey)=false
 | _,_,.nil=>rfl
 | _,_,.cons k z t t2 h r=>by
  rw [List.any_cons,r.ref]
  rfl
theorem TEnt.find:∀ {es:List DictEntry} {kvs:List (Str×Str)} (x:Str),TEnt es kvs→((es.find? (·.key.isStr x)).map (·.val)=none∧kvs.lookup x=none) ∨ ∃ z t,(es.find? (·.key.isStr x)).map (·.val)=some (.str z t)∧kvs.lookup x=some z
 | _,_,x,.nil=>.inl ⟨rfl,rfl⟩
 | _,_,x,.cons k z t t2 h r=>by
  rw [List.find?_cons,List.lookup_cons]
  have e:(Value.str k t).isStr x=(x == k):=by
   show (k == x)=(x == k)
   exact BEq.comm
  rw [e]
  cases hk:(x == k) with
  | true=>exact .inr ⟨z,t2,rfl,rfl⟩
  | false=>exact r.find x
theorem KDT.ns {K:PySem.W.Frag} {w:World} {a:Addr} {kvs:List (Str×Str)} (h:KDT K w a kvs) (x:Str):(PySem.W.nsIn K a x=some none∧kvs.lookup x=none) ∨ ∃ z t,PySem.W.nsIn K a x=some (some (.str z t))∧kvs.lookup x=some z:=by
 obtain ⟨es,n,e1,_,_,te⟩:=h.at_
 have hr:=te.ref
 unfold PySem.W.nsIn
 rw [e1]
 simp only
 rcases te.find x with ⟨e2,e3⟩ | ⟨z,t,e2,e3⟩
 ·left
  refine ⟨?_,e3⟩
  cases q:es.toList.find? (·.key.isStr x) with
  | none=>simp only [hr];rfl
  | some y=>rw [q] at e2;cases e2
 ·right
  refine ⟨z,t,?_,e3⟩
  cases q:es.toList.find? (·.key.isStr x) with
  | none=>rw [q] at e2;cases e2
  | some y =>
   rw [q] at e2
   simp only [Option.map_some,Option.some.injEq] at e2
   simp only [e2]
theorem KDT.get {K:PySem.W.Frag} {w:World} {a:Addr} {kvs:List (Str×Str)} {k z:Str} (h:KDT K w a kvs) (e:kvs.lookup k=some z):KDct K w a k (.str z):=by
 obtain ⟨es,n,e1,e2,_,te⟩:=h.at_
 rcases h.ns k with ⟨_,q⟩ | ⟨z',t,q1,q2⟩
 ·rw [e] at q;cases q
 ·rw [e] at q2
  cases q2
  exact ⟨es,n,_,e1,e2,q1,⟨t,rfl⟩⟩
end L2
namespace G
open PySem PySem.Spec PyProof.Rows L2 PySem.W
section
variable {tx:XC→Addr} {Y:YC} {Γ:List Cell} {ta tb:TE}
end
end G
end
noncomputable section
namespace G
open PySem PySem.Spec PyProof.Rows L2 PySem.W
section
variable {tx:XC→Addr} {Y:YC} {Γ:List Cell} {rest:TS} {js:List Nat} {α τ:Type} {d:Dat α} {K:Kt τ}
theorem z_popLDrop {pin:Option V} {i:Nat} {xs:List α} {y:α} {k:Ks} (hi:Γ[i]? = some (.own (dList (d:=d)) (oList (d:=d)) pin (xs++[y]))) (h:k.nx (Γ.set i (.own (dList (d:=d)) (oList (d:=d)) pin xs))) :
  Z Y (tDrop (tBM0 Y.K "list" rPop (tVar i))) Γ k:=fun e F σ H D hM s c=>by
 obtain ⟨v,_,rest,e1,⟨a,vs,rfl,rfl,r⟩,kw,f⟩:=s.mut hi
 have ha:H a=some (.lst vs):=(kw.ow (a,.lst vs) (by simp)).2.1
 have hl:vs.length=xs.length+1:=by rw [r.len];simp
 have hx:(xs++[y])[vs.length-1]? = some y:=by rw [hl];simp
 obtain ⟨w,hw,rw'⟩:=r.get hx
 refine ⟨.ref a,e1,.inl ⟨rfl,vs,.inl (.inl ha)⟩,a,vs,w,rfl,rfl,ha,hw,?_⟩
 have s2:=f F _ [(a,.lst vs.dropLast)] xs (Same.refl F) (kw.put (fun _ z=>by cases z)) ⟨a,_,rfl,rfl,by
  have q:=r.take xs.length
  rw [List.take_left] at q
  rw [List.dropLast_eq_take,hl]
  exact q⟩
 exact c.nx F _ _ _ h s2
theorem Zdy {pin:Option V} {i:Nat} {xs:List α} {m2:List α×α→M τ} (hi:Γ[i]? = some (.own (dList (d:=d)) (oList (d:=d)) pin xs)) (hj:i∈js) (h2:∀ p,Zm tx Y js rest (Γ.set i (.own (dList (d:=d)) (oList (d:=d)) pin p.1)) K (m2 p)) :
  Zm tx Y js (tSeq (tDrop (tBM0 Y.K "list" rPop (tVar i))) rest) Γ K (M.popL xs>>=m2):=fun nb xk=>by
 have nb1:(M.popL xs).nb:=M.nb1 nb
 cases q:xs.getLast? with
 | none=>unfold M.popL at nb1;rw [q] at nb1;exact absurd rfl nb1
 | some y =>
  have e:M.popL xs = .ok (xs.dropLast,y):=by unfold M.popL;rw [q]
  have ex:xs=xs.dropLast++[y]:=by
   obtain ⟨ys,rfl⟩:=List.getLast?_eq_some_iff.mp q
   simp
  exact ZdW (z_popLDrop (xs:=xs.dropLast) (y:=y) (by rw [← ex];exact hi) ((h2 (xs.dropLast,y)).go nb xk e (ZaL hj)))
end
end G
end
noncomputable section
namespace G
open PySem PySem.Spec PyProof.Rows L2 PySem.W
structure LP (α β:Type) where
 a:α
 b:β
 deriving DecidableEq
instance dLP {α β:Type} [d1:Dat α] [d2:Dat β]:Dat (LP α β) :=
 ⟨fun C F v x=>∃ p v1 v2,v = .ref p∧Rd F p (.lst [v1,v2])∧d1.rep C F v1 x.a∧d2.rep C F v2 x.b,fun s ⟨p,v1,v2,e,h,r1,r2⟩=>⟨p,v1,v2,e,Same.rd s h,d1.mono s r1,d2.mono s r2⟩⟩
instance oLP {α β:Type} [d1:Dat α] [d2:Dat β]:OD (LP α β) where
 orep C F v x L:=∃ p v1 v2,v = .ref p∧L=[(p,.lst [v1,v2])]∧d1.rep C F v1 x.a∧d2.rep C F v2 x.b
 omono s:=fun ⟨p,v1,v2,e,h,r1,r2⟩=>⟨p,v1,v2,e,h,d1.mono s r1,d2.mono s r2⟩
 view:=fun ⟨p,v1,v2,e,h,r1,r2⟩ s k=>⟨p,v1,v2,e,.inl (k (p,.lst [v1,v2]) (by rw [h];exact List.mem_cons_self)),d1.mono s r1,d2.mono s r2⟩
section
variable {tx:XC→Addr} {Y:YC} {Γ:List Cell} {ta tb te:TE} {α β:Type} {d1:Dat α} {d2:Dat β}
theorem o_lp {k:LP α β→Prop} (h:W Y ta Γ d1 fun x=>W Y tb Γ d2 fun y=>k ⟨x,y⟩):O Y (tLst (tCons ta (tCons tb tNil))) Γ (oLP (d1:=d1) (d2:=d2)) k:=fun e F σ H s Q q=>h e F σ H s _ fun v1 F1 H1 x h1 g1 r1=>h1 e F1 σ H1 (s.grow g1) _ fun v2 F2 H2 y ky g2 r2 =>
 ⟨show 2≤PySem.sizeLine by decide,fun p hp=>by
  have h3:=(g1.Zbc g2).trans (g2.base.own (o:=.lst [v1,v2]) hp (fun _ z=>by cases z))
  exact q _ F2 _ [(p,.lst [v1,v2])] ⟨x,y⟩ ky (by simpa using h3) ⟨p,v1,v2,rfl,rfl,d1.mono g2.ff r1,r2⟩⟩
theorem oe_lp {m:M α} {n:M β} (h:We tx Y ta Γ d1 m) (h2:We tx Y tb Γ d2 n):Oe tx Y (tLst (tCons ta (tCons tb tNil))) Γ (oLP (d1:=d1) (d2:=d2)) (m>>=fun x=>n>>=fun y=>.ok ⟨x,y⟩):=fun nb xk =>
 o_lp (h.k nb xk fun x e nb xk=>h2.k nb xk fun y e2 nb xk=>by rw [e];show (n>>=_)=_;rw [e2];rfl)
theorem a_lp {g1 g2:TG} {x:LP α β} {n:Nat} {kn:List Cell→Prop} (hn:n=2) (h:A Y g1 Γ d1 x.a fun Γ1=>A Y g2 Γ1 d2 x.b kn):A Y (gUnl Y.K n (gCons g1 (gCons g2 gNil))) Γ (dLP (d1:=d1) (d2:=d2)) x kn:=fun e F σ H v s ⟨a,v1,v2,e1,ht,r1,r2⟩ Q q=>by
 subst e1 hn
 refine ⟨a,[v1,v2],rfl,.inl (Same.rd s.fh ht),rfl,v1,[v2],rfl,h e F σ H v1 s r1 _ fun σ1 Γ1 h1 st1=>⟨v2,[],rfl,h1 e F σ1 H v2 st1 r2 _ fun σ2 Γ2 h2 st2=>⟨rfl,q σ2 Γ2 h2 st2⟩⟩⟩
end
end G
namespace L2
open PySem PySem.Spec PyProof.Rows
section
variable {X:Cx} (K:PySem.W.Frag)
theorem pg_unlK {es:List Expr} {k n:Nat} {t:TGs} {pos:Pos} (hc:X.calm=true) (h:PGs X es t) (hn:(assignEach es X.env).length=n:=by rfl) (hst:(assignEach es X.env).findIdx? (·.1)=none:=by rfl) (hK:X.K=K:=by rfl):PG X (.Tuple es k pos) (gUnl K n t):=hK▸pg_unl hc h hn hst
end
end L2
end
noncomputable section
namespace G
open PySem PySem.Spec PyProof.Rows L2 PySem.W
section
variable {Y:YC} {Γ:List Cell} {k:Ks} {te t1 t2:TE} {Cx:Addr} {f1 f2:Str} {Wt:WX}
end
section
variable {Y:YC} {Γ:List Cell} {k:Ks} {te:TE} {a Cx:Addr} {d:Option Addr} {x:Exn} {i:Nat}
end
section
variable {tx:XC→Addr} {Y:YC} {Γ:List Cell} {te:TE} {rest:TS} {js:List Nat} {τ:Type} {K:Kt τ} {Cx:Addr} {f1 f2:Str} {Wt:WX}
end
end G
end
noncomputable section
namespace G
open PySem PySem.Spec PyProof.Rows L2 PySem.W
section
variable {tx:XC→Addr} {Y:YC} {Γ:List Cell} {ta:TE} {α τ:Type} {d:Dat α} {js:List Nat} {rest:TS} {K:Kt τ}
end
end G
end
noncomputable section
namespace G
open PySem PySem.Spec PyProof.Rows L2 PySem.W
section
variable {tx:XC→Addr} {Y:YC} {Γ:List Cell} {te:TE} {i:Nat} {α:Type} {d:Dat α}
end
end G
end
noncomputable section
namespace G
open PySem PySem.Spec PyProof.Rows L2 PySem.W
instance udLP {α β:Type} {d1:Dat α} {d2:Dat β} [u1 : @UD α d1] [u2 : @UD β d2] : @UD (LP α β) dLP:=⟨fun x=>.list [u1.toU x.a,u2.toU x.b],fun ⟨a,v1,v2,e,h,r1,r2⟩=>⟨a,_,e,h,u1.du r1,u2.du r2,trivial⟩⟩
section
variable {tx:XC→Addr} {Y:YC} {Γ:List Cell} {ta tk:TE} {α τ:Type} {d:Dat α} {js:List Nat} {rest:TS} {K:Kt τ}
end
end G
end
noncomputable section
namespace G
open PySem PySem.Spec PyProof.Rows L2 PySem.W
section
variable {tx:XC→Addr} {Y:YC} {Γ:List Cell} {tl:TA} {ta:TE} {α β τ:Type} {d:Dat α} {K:Kt τ} {rest:TS} {js:List Nat}
end
end G
end
noncomputable section
namespace G
open PySem PySem.Spec PyProof.Rows L2 PySem.W
section
variable {tx:XC→Addr} {Y:YC} {Γ:List Cell} {α τ:Type} {d:Dat α} {js:List Nat} {rest:TS} {K:Kt τ}
end
end G
end
noncomputable section
namespace G
open PySem PySem.Spec PyProof.Rows L2 PySem.W
section
variable {tx:XC→Addr} {Y:YC} {Γ:List Cell} {te:TE} {α τ:Type} {d:Dat α} {js:List Nat} {rest:TS} {K:Kt τ}
end
end G
end
noncomputable section
namespace G
open PySem PySem.Spec PyProof.Rows L2 PySem.W
section
variable {tx:XC→Addr} {Y:YC} {Γ:List Cell} {ta tb tc:TE} {α β γ τ:Type} {d:Dat α} {d2:Dat β} {d3:Dat γ} {js:List Nat} {rest:TS} {K:Kt τ}
end
end G
end
noncomputable section
namespace G
open PySem PySem.Spec PyProof.Rows L2 PySem.W
section
variable {tx:XC→Addr} {Y:YC} {Γ:List Cell} {τ:Type} {rest:TS} {js:List Nat} {K:Kt τ} {k:Ks}
end
end G
end
noncomputable section
namespace G
open PySem PySem.Spec PyProof.Rows L2 PySem.W
section
variable {tx:XC→Addr} {Y:YC} {Γ:List Cell} {te:TE} {α:Type} {d:Dat α}
end
end G
end
noncomputable section
namespace L2
open PySem
end L2
namespace G
open PySem PySem.Spec PyProof.Rows L2 PySem.W
section
variable {tx:XC→Addr} {Y:YC} {Γ:List Cell} {ta te:TE} {α β τ:Type} {d1:Dat α} {d2:Dat β} {js:List Nat} {ts rest:TS} {K:Kt τ}
end
end G
end
noncomputable section
namespace L2
open PySem PySem.Spec PyProof.Rows PySem.W
section
variable {X:Cx} {pos:Pos}
end
end L2
namespace G
open PySem PySem.Spec PyProof.Rows L2 PySem.W
section
variable {tx:XC→Addr} {Y:YC} {Γ:List Cell} {te t1 t2 t3 t4:TE} {α α1 α2 α3 α4 β τ:Type} {d:Dat α} {d1:Dat α1} {d2:Dat α2} {d3:Dat α3} {d4:Dat α4} {js:List Nat} {ts us rest:TS} {K:Kt τ}
end
section
variable {tx:XC→Addr} {Y:YC} {Γ:List Cell} {te:TE} {α τ:Type} {d:Dat α} {js:List Nat} {rest:TS} {K:Kt τ}
end
end G
end
noncomputable section
namespace L2
open PySem PySem.Spec PyProof.Rows PySem.W
section
variable {X:Cx} {o:Expr} {p pos apos mpos:Pos} {td:TE}
end
end L2
namespace G
open PySem PySem.Spec PyProof.Rows L2 PySem.W
section
variable {tx:XC→Addr} {Y:YC} {Γ:List Cell} {te:TE} {α:Type} {d:Dat α}
end
theorem lay_ints (xs:List Int):PyData.plainAll (xs.map PyData.int)=true:=layAll_of (de:=deInt) xs
theorem dep_ints1 (xs:List Int):PyData.depthAll (xs.map PyData.int)≤1:=depAll_of (de:=deInt) xs
theorem eqv_ints2 (xs ys:List Int):PyData.eqvAll (xs.map PyData.int) (ys.map PyData.int)=true↔xs=ys:=eqvAll_of (de:=deInt) xs ys
instance deWt:DE Wt:=⟨fun x=>.tuple (.str x.w::x.l.map .int),2,fun {C H v x} ⟨a,vs,e,h,r⟩=>by subst e;exact .tup h.sq (.cons (.str x.w) (dpAll_of (de:=deInt) r)),fun x=>by
  rw [PyData.plain,PyData.plainAll,lay_ints];simp [PyData.plain],fun x=>by
  have:=dep_ints1 x.l
  rw [PyData.depth,PyData.depthAll]
  simp only [PyData.depth]
  omega,fun x y=>by
  obtain ⟨w1,l1⟩:=x
  obtain ⟨w2,l2⟩:=y
  rw [PyData.eqv,PyData.eqvAll,Bool.and_eq_true,eqv_ints2]
  simp [PyData.eqv]⟩
end G
end
noncomputable section
namespace L2
open PySem PySem.Spec PyProof.Rows
inductive KEntI:List DictEntry→List (Int×Int)→Prop where
 | nil:KEntI [] []
 | cons {es:List DictEntry} {kvs:List (Int×Int)} (k:Int) (z:Int) (t t2:Tok) (h:Int) (hh:h=hashInt k) (r:KEntI es kvs):KEntI (⟨h,.int k t,.int z t2⟩::es) ((k,z)::kvs)
section
variable {X:Cx}
end
end L2
namespace G
open PySem PySem.Spec PyProof.Rows L2 PySem.W
section
variable {tx:XC→Addr} {Y:YC} {Γ:List Cell} {tb:TE}
end
section
variable {α β:Type} {d:Dat α} {db:Dat β} {tx:XC→Addr} {Y:YC} {Γ:List Cell} {te tb:TE}
end
section
variable {tx:XC→Addr} {Y:YC} {Γ:List Cell} {β:Type} {d:Dat β} {t1 t2 t3 t4 t5 t6 t7 t8:TE} {sp:Sp} {E:L2.St→XK}
variable {α1 α2 α3 α4 α5 α6 α7 α8:Type} {d1:Dat α1} {d2:Dat α2} {d3:Dat α3} {d4:Dat α4} {d5:Dat α5} {d6:Dat α6} {d7:Dat α7} {d8:Dat α8} {m1:M α1} {m2:M α2} {m3:M α3} {m4:M α4} {m5:M α5} {m6:M α6} {m7:M α7} {m8:M α8}
end
end G
end
noncomputable section
namespace G
open PySem PySem.Spec PyProof.Rows L2 PySem.W
section
variable {tx:XC→Addr} {Y:YC} {Γ:List Cell} {te ta tb:TE}
end
end G
end
section
set_option maxHeartbeats 2000000
noncomputable section
namespace L2
open PySem PySem.Spec PyProof.Rows
section
variable {X:Cx}
end
end L2
namespace G
open PySem PySem.Spec PyProof.Rows L2 PySem.W
structure TSt where
 l:List (List Int)
def OkTq (C:GCtx) (F:Hp) (q:Addr×List Int):Prop:=TpA C.K F q.1 (q.2.map V.int)
theorem OkTq.mono {C:GCtx} {F F' : Hp} {q:Addr×List Int} (h:OkTq C F q) (s:Same F F'):OkTq C F' q:=(show TpA C.K F q.1 (q.2.map V.int) from h).mono s
instance dTSt:Dat TSt:=⟨fun C F v s=>∃ a,∃ L:List (Addr×List Int),v = .ref a∧F a=some (SetTO C.P C.w a L)∧(∀ q∈L,OkTq C F q)∧(L.map (fun q:Addr×List Int=>q.2)).Perm s.l,fun m ⟨a,L,e,h,o,p⟩=>⟨a,L,e,m _ _ h,fun q hq=>(o q hq).mono m,p⟩⟩
instance oTSt:OD TSt where
 orep C F v s Ls:=∃ a,∃ L:List (Addr×List Int),v = .ref a∧Ls=[(a,SetTO C.P C.w a L)]∧(∀ q∈L,OkTq C F q)∧(L.map (fun q:Addr×List Int=>q.2)).Perm s.l
 omono m:=fun ⟨a,L,e,h,o,p⟩=>⟨a,L,e,h,fun q hq=>(o q hq).mono m,p⟩
 view:=fun ⟨a,L,e,h,o,p⟩ m k=>⟨a,L,e,k (a,SetTO _ _ a L) (by rw [h];exact List.mem_cons_self),fun q hq=>(o q hq).mono m,p⟩
def tadd (s:TSt) (x:Tup Int):TSt:=if x.l∈s.l then s else ⟨s.l++[x.l]⟩
def tsetOf (xs:List (Tup Int)):TSt:=xs.foldl tadd ⟨[]⟩
def OkT (C:GCtx) (F:Hp) (L:List (Addr×List Int)) (ys:List (Tup Int)):Prop:=(∀ q∈L,OkTq C F q)∧(L.map (·.2)).Perm (tsetOf ys).l∧L.length≤ys.length
theorem OkT.nil {C:GCtx} {F:Hp}:OkT C F [] []:=⟨fun _ h=>(nomatch h),.refl _,Nat.le_refl _⟩
theorem OkT.mono {C:GCtx} {F F' : Hp} {L:List (Addr×List Int)} {ys:List (Tup Int)} (h:OkT C F L ys) (s:Same F F'):OkT C F' L ys:=⟨fun q hq=>(h.1 q hq).mono s,h.2⟩
section
variable {tx:XC→Addr} {Y:YC} {Γ:List Cell} {te ta:TE} {g:TG} {tt:TT} {vs:List Nat} {α:Type} {d:Dat α}
end
section
variable {Y:YC} {Γ:List Cell} {α γ:Type} {d:Dat α} {d1:Dat γ} {g g1:TG} {tt tt1:TT} {te:TE} {ti ti1:L2.TI} {vs vs1:List Nat}
end
section
variable {tx:XC→Addr} {Y:YC} {Γ:List Cell} {α γ:Type} {d:Dat α} {d1:Dat γ} {g g1:TG} {tt tt1:TT} {te:TE} {ti ti1:L2.TI} {vs vs1:List Nat}
end
end G
namespace G
open PySem PySem.Spec PyProof.Rows L2 PySem.W
section
variable {tx:XC→Addr} {Y:YC} {Γ:List Cell} {ta:TE}
end
end G
end
noncomputable section
namespace G
open PySem PySem.Spec PyProof.Rows L2 PySem.W
section
variable {tx:XC→Addr} {Y:YC} {Γ:List Cell} {ta:TE} {τ:Type} {rest:TS} {js:List Nat} {K:Kt τ}
end
section
variable {tx:XC→Addr} {Y:YC} {Γ:List Cell} {te:TE} {α:Type} {d:Dat α}
end
end G
end
noncomputable section
namespace G
open PySem PySem.Spec PyProof.Rows L2 PySem.W
structure Sl (α:Type) where
 l:List α
instance dSl {α:Type} [d:Dat α]:Dat (Sl α) :=
 ⟨fun C F v xs=>∃ a vs,v = .ref a∧SqL C.K F a vs∧Reps d C F vs xs.l,fun s ⟨a,vs,e,h,r⟩=>⟨a,vs,e,s.seq h,r.mono s⟩⟩
section
variable {tx:XC→Addr} {Y:YC} {Γ:List Cell} {te:TE} {α:Type} {d:Dat α}
end
section
variable {tx:XC→Addr} {Y:YC} {Γ:List Cell} {te:TE} {α:Type} {d:Dat α}
end
theorem Slots.split {C:GCtx} {F:Hp} {σ2:_root_.L2.St} {Γ2:List Cell}:∀ {σ1:_root_.L2.St} {Γ1:List Cell} {L:LO},σ1.length=Γ1.length→Slots C F (σ1++σ2) (Γ1++Γ2) L → ∃ L1 L2,L=L1++L2∧Slots C F σ1 Γ1 L1
 | [],[],L,_,_=>⟨[],L,rfl,.nil⟩
 | o::σ1,c::Γ1,L,hl,h=>by
  cases h with
  | @cons _ _ La Lb _ _ hc hr =>
   obtain ⟨L1,L2,e,s⟩:=Slots.split (by simpa using hl) hr
   exact ⟨La++L1,L2,by rw [e,List.append_assoc],.cons hc s⟩
 | [],_::_,_,hl,_=>by cases hl
 | _::_,[],_,hl,_=>by cases hl
section
variable {tx:XC→Addr} {Y:YC} {Γ:List Cell} {te0 te2 ten:TE} {α0 α1 α2 α3 β τ:Type} {d0:Dat α0} {d1:Dat α1} {d2:Dat α2} {d3:Dat α3} {rest:TS} {js:List Nat} {K:Kt τ}
theorem State.init {e:En} {F:Hp} {σ:_root_.L2.St} {H:Hp} {o:Option V} {c:Cell} (hl:σ.length=Γ.length) (s:State Y e F (σ++[o]) H (Γ++[c])):State Y e F σ H Γ:=by
 obtain ⟨hx,L,k,sl⟩:=s
 obtain ⟨L1,L2,rfl,sl1⟩:=Slots.split hl sl
 exact ⟨hx,L1,k.subl (List.sublist_append_left _ _),sl1⟩
theorem State.more {e:En} {F:Hp} {σ:_root_.L2.St} {H:Hp} (s:State Y e F σ H Γ):State Y e F (σ++[none]) H (Γ++[.no]):=by
 obtain ⟨hx,L,k,sl⟩:=s
 have h1:Slots Y.g F [none] [.no] []:=Slots.cons (L:=[]) (L':=[]) rfl .nil
 have h2:=ZcR sl h1
 rw [List.append_nil] at h2
 exact ⟨hx,L,k,h2⟩
end
section
variable {tx:XC→Addr} {Y:YC} {Γ:List Cell} {te:TE} {α:Type} {d:Dat α}
end
section
variable {tx:XC→Addr} {Y:YC} {Γ:List Cell} {te:TE} {τ:Type} {rest:TS} {js:List Nat} {K:Kt τ}
end
end G
end
noncomputable section
namespace G
open PySem PySem.Spec PyProof.Rows L2 PySem.W
section
variable {tx:XC→Addr} {Y:YC} {Γ:List Cell} {te ta tb:TE}
def Jse (tx:XC→Addr) (Y:YC) (ts:List TE) (Γ:List Cell) (f:Str→M Str):Prop:=∀ acc:Str,(f acc).nb→XkM tx Y Γ (f acc) → ∀ (e:En) (F:Hp) (σ:_root_.L2.St) (H:Hp),State Y e F σ H Γ → ∀ Q:Str→Hp→Prop,(∀ F' H' out,f acc = .ok out→Gr F H F' H'→Q out H')→tJs ts acc σ H Q
theorem js_nil:Jse tx Y [] Γ fun acc=>.ok acc:=fun acc _ _ e F σ H s Q q=>q F H acc rfl s.base
theorem js_str {x:Str} {ts:List TE} {f:Str→M Str} (h:Jse tx Y ts Γ f):Jse tx Y (tC (.str x)::ts) Γ fun acc=>M.catS acc x>>=f:=fun acc nb xk e F σ H s Q q=>by
 have hz:acc.length+x.length≤PySem.sizeLine:=M.Zbv (M.nb1 nb)
 have e1:M.catS acc x = .ok (acc++x):=M.Zah hz
 have ef:(M.catS acc x>>=f)=f (acc++x):=by rw [e1];rfl
 refine ⟨x,rfl,by rw [PySem.Str.length_append];exact hz,h (acc++x) ?_ ?_ e F σ H s Q fun F' H' out eo g=>q F' H' out (ef.trans eo) g⟩
 ·exact ef▸nb
 ·exact ef▸xk
theorem js_S {m:M Str} {ts:List TE} {f:Str→M Str} (hm:We tx Y te Γ dStr m) (h:Jse tx Y ts Γ f):Jse tx Y (tFmt te::ts) Γ fun acc=>m>>=fun y=>M.catS acc y>>=f:=fun acc nb xk e F σ H s Q q =>
 hm.k nb xk (k:=fun y=>m = .ok y∧(M.catS acc y>>=f).nb∧XkM tx Y Γ (M.catS acc y>>=f)) (fun y ey nb2 xk2=>⟨ey,nb2,xk2⟩) e F σ H s _ fun v F1 H1 y ⟨ey,nb2,xk2⟩ g1 r1=>by
  cases (show v = .str y from r1)
  have hz:acc.length+y.length≤PySem.sizeLine:=M.Zbv (M.nb1 nb2)
  have e1:M.catS acc y = .ok (acc++y):=M.Zah hz
  rw [e1] at nb2 xk2
  refine .inl ⟨y,rfl,by omega,y,rfl,by rw [PySem.Str.length_append];exact hz,h (acc++y) nb2 xk2 e F1 σ H1 (s.grow g1) Q fun F' H' out eo g=>q F' H' out ?_ (g1.trans g)⟩
  rw [ey]
  show (M.catS acc y>>=f)=_
  rw [e1]
  exact eo
theorem we_js {ts:List TE} {f:Str→M Str} (h:Jse tx Y ts Γ f):We tx Y (fun σ H Q=>tJs ts Str.empty σ H fun out H1=>Q (.str out) H1) Γ dStr (f Str.empty):=fun nb xk e F σ H s Q q =>
 h Str.empty nb xk e F σ H s _ fun F' H' out eo g=>q _ F' H' out eo g rfl
end
end G
end
noncomputable section
namespace G
open PySem PySem.Spec PyProof.Rows L2 PySem.W
def FnMX (C:GCtx) {α:Type} (dr:Dat α) (Γ:List Cell) (ms:List Nat) (post:α→List Cell→Prop) (xp:Exn→Prop) (vs:List V) (H:Hp) (Q:VK) (E:XK):Prop :=
 ∃ F L H0,Wk ⟨F,H0,[]⟩ F L H∧Slots C F (vs.map some) Γ L∧(∀ v F' H' r Γm L2,post r Γm→Wk ⟨F,H0,[]⟩ F' L2 H'→dr.rep C F' v r→Slots C F' (ms.map fun j=>vs[j]?) Γm L2→Q v H') ∧
  ∀ x d F' H',xp x→Wk ⟨F,H0,[]⟩ F' [] H'→x.at F' d→E (.ref x.cls) d H'
theorem FnMX.len {C:GCtx} {α:Type} {dr:Dat α} {Γ:List Cell} {ms:List Nat} {post:α→List Cell→Prop} {xp:Exn→Prop} {vs:List V} {H:Hp} {Q:VK} {E:XK} (h:FnMX C dr Γ ms post xp vs H Q E):vs.length=Γ.length:=by
 obtain ⟨F,L,H0,_,s,_⟩:=h
 simpa using s.len
def SpMX (C:GCtx) (sp:Sp) {α:Type} (dr:Dat α) (cs:List Cell) (ms:List Nat) (post:α→List Cell→Prop) (xp:Exn→Prop):Prop:=∀ vs H Q E,FnMX C dr cs ms post xp vs H Q E→sp vs H Q E
section
variable {tx:XC→Addr} {Y:YC} {Γ:List Cell} {te te0 te1 te2 te3:TE} {tr tl:TA} {α α0 α3 α1 α2 β τ σ:Type} {d:Dat α} {d0:Dat α0} {d1:Dat α1} {d2:Dat α2} {d3:Dat α3} {rest:TS} {js:List Nat} {K:Kt τ}
theorem State.mut2x {e:En} {F:Hp} {σ:_root_.L2.St} {H:Hp} {od1:OD α1} {od2:OD α2} {x1:α1} {x2:α2} {j1 j2:Nat} {p1 p2:Option V} (s:State Y e F σ H Γ) (hn:j1≠j2) (h1:Γ[j1]? = some (.own d1 od1 p1 x1)) (h2:Γ[j2]? = some (.own d2 od2 p2 x2)) :
  ∃ v1 v2 L1 L2 rest,σ[j1]? = some (some v1)∧σ[j2]? = some (some v2)∧od1.orep Y.g F v1 x1 L1∧od2.orep Y.g F v2 x2 L2∧Wk e F ((L1++L2)++rest) H ∧
  (∀ F' H' L1' L2' x1' x2',Same F F'→Wk e F' ((L1'++L2')++rest) H'→od1.orep Y.g F' v1 x1' L1'→od2.orep Y.g F' v2 x2' L2'→State Y e F' σ H' ((Γ.set j1 (.own d1 od1 p1 x1')).set j2 (.own d2 od2 p2 x2'))) ∧
  ∀ F' H',Same F F'→Wk e F' rest H'→State Y e F' σ H' ((Γ.set j1 .no).set j2 .no):=by
 obtain ⟨hx,L,k,sl⟩:=s
 obtain ⟨o,A1,Li1,A2,e1,e2,⟨v1,rfl,hp1,r1⟩,f⟩:=sl.get h1
 subst e2
 have sl1:=f F (some v1) .no [] (Same.refl _) rfl
 rw [set_same e1] at sl1
 have h2' : (Γ.set j1 .no)[j2]? = some (.own d2 od2 p2 x2):=by rw [List.getElem?_set_ne hn];exact h2
 obtain ⟨o2,B1,Li2,B2,e3,e4,⟨v2,rfl,hp2,r2⟩,g⟩:=sl1.get h2'
 have e4' : A1++A2=B1++Li2++B2:=by simpa using e4
 have pm:(A1++Li1++A2).Perm ((Li1++Li2)++(B1++B2)):=by
  have q1:(A1++Li1++A2).Perm (Li1++(A1++A2)):=by
   have:=(List.perm_append_comm (l₁:=A1) (l₂:=Li1)).append_right A2
   simpa [List.append_assoc] using this
  have q2:(B1++Li2++B2).Perm (Li2++(B1++B2)):=by
   have:=(List.perm_append_comm (l₁:=B1) (l₂:=Li2)).append_right B2
   simpa [List.append_assoc] using this
  rw [e4'] at q1
  have q3:=q1.trans (q2.append_left Li1)
  simpa [List.append_assoc] using q3
 refine ⟨v1,v2,Li1,Li2,B1++B2,e1,e3,r1,r2,k.perm2 pm,fun F' H' L1' L2' x1' x2' s' k' r1' r2'=>?_,fun F' H' s' k'=>?_⟩
 ·have sl2:=g F' (some v2) (.own d2 od2 p2 x2') L2' s' ⟨v2,rfl,hp2,r2'⟩
  rw [set_same e3] at sl2
  have hlt:j1<Γ.length:=(List.getElem?_eq_some_iff.mp h1).1
  have h3:((Γ.set j1 .no).set j2 (.own d2 od2 p2 x2'))[j1]? = some .no:=by
   rw [List.getElem?_set_ne (Ne.symm hn),List.getElem?_set_self hlt]
  obtain ⟨o3,C1,Lz,C2,e5,e6,hz,q⟩:=sl2.get h3
  have hz:Lz=[]:=hz
  subst hz
  have sl3:=q F' (some v1) (.own d1 od1 p1 x1') L1' (Same.refl _) ⟨v1,rfl,hp1,r1'⟩
  rw [set_same e1] at sl3
  have eΓ:((Γ.set j1 .no).set j2 (.own d2 od2 p2 x2')).set j1 (.own d1 od1 p1 x1')=(Γ.set j1 (.own d1 od1 p1 x1')).set j2 (.own d2 od2 p2 x2'):=by
   rw [Zdv hn,List.set_set,Zdv (Ne.symm hn)]
  rw [eΓ] at sl3
  refine ⟨hx,C1++L1'++C2,k'.perm2 ?_,sl3⟩
  have e6' : B1++L2'++B2=C1++C2:=by simpa using e6
  have q2' : (L2'++(B1++B2)).Perm (B1++L2'++B2):=by
   have:=(List.perm_append_comm (l₁:=B1) (l₂:=L2')).append_right B2
   simpa [List.append_assoc] using this.symm
  rw [e6'] at q2'
  have q3:(L1'++(C1++C2)).Perm (C1++L1'++C2):=by
   have:=(List.perm_append_comm (l₁:=C1) (l₂:=L1')).append_right C2
   simpa [List.append_assoc] using this.symm
  have:=(q2'.append_left L1').trans q3
  simpa [List.append_assoc] using this
 ·have sl2:=g F' (some v2) .no [] s' rfl
  rw [set_same e3] at sl2
  exact ⟨hx,B1++B2,k',by simpa using sl2⟩
def Lend2X (tx:XC→Addr) (Y:YC) (sp:Sp) (dr:Dat β) (od1:OD α1) (j1:Nat) (c1:Cell) (od2:OD α2) (j2:Nat) (c2:Cell) (l:List AC) (m:M (β×(α1×α2))):Prop :=
 ∃ pre mid post:List Cell,l=pre.map .inl ++ .inr (j1,c1)::(mid.map .inl ++ .inr (j2,c2)::post.map .inl)∧SpMX Y.g sp dr (pre++c1::(mid++c2::post)) [pre.length,pre.length+1+mid.length] (fun r Γm=>∃ x',m = .ok (r,x')∧Γm=[.own d1 od1 none x'.1,.own d2 od2 none x'.2]) fun x=>∃ px,m = .exc px∧x=px.x tx
theorem z_callM2X {dr:Dat β} {od1:OD α1} {od2:OD α2} {x1:α1} {x2:α2} {j1 j2:Nat} {p1 p2:Option V} {sp:Sp} {E:_root_.L2.St→XK} {m:M (β×(α1×α2))} {e:En} {F:Hp} {σ:_root_.L2.St} {H:Hp} {Q:VK} (hE:E=Y.E) (hM:e.M=[]) (s:State Y e F σ H Γ) (hn:j1≠j2) (h1:Γ[j1]? = some (.own d1 od1 p1 x1)) (h2:Γ[j2]? = some (.own d2 od2 p2 x2))
  (h:MA Y tl Γ fun l=>Lend2X tx Y sp dr od1 j1 (.own d1 od1 none x1) od2 j2 (.own d2 od2 none x2) l m) (q:∀ v F' H' r x',m = .ok (r,x')→State Y e F' σ H' ((Γ.set j1 (.own d1 od1 p1 x'.1)).set j2 (.own d2 od2 p2 x'.2))→dr.rep Y.g F' v r→Q v H')
  (qx:∀ px,m = .exc px→Y.kx (px.x tx) ((Γ.set j1 .no).set j2 .no)):tCallS sp E tl σ H Q:=by
 subst hE
 exact h e F σ H s _ fun vs F1 H1 l ⟨pre,mid,post,el,hsp⟩ g1 ha=>by
  subst el
  obtain ⟨vs1,w1,vs2,ev,hl,hv,sl1,ha2⟩:=ha.at
  obtain ⟨vs3,w2,vs4,ev2,hl2,hv2,sl2,ha3⟩:=ha2.at
  obtain ⟨v1,v2,L1,L2,rest,e1,e2,r1,r2,kw,f,fx⟩:=(s.grow g1).mut2x hn h1 h2
  rw [e1] at hv
  cases hv
  rw [e2] at hv2
  cases hv2
  subst ev2
  refine hsp vs H1 Q _ ⟨F1,L1++L2,minus H1 (L1++L2),kw.lend,?_,fun u F' H' r' Γm L' ⟨x',em,eΓ⟩ k2 hr sl'=>?_,fun x d F' H' ⟨px,em,ex⟩ k2 hd=>?_⟩
  ·subst ev
   have c1:=Slots.cons (C:=Y.g) (F:=F1) (L:=L1) (c:=.own d1 od1 none x1) (o:=some w1) ⟨w1,rfl,(fun _ z=>nomatch z),r1⟩
    (ZcR sl2 (Slots.cons (L:=L2) (L':=[]) (c:=.own d2 od2 none x2) (o:=some w2) ⟨w2,rfl,(fun _ z=>nomatch z),r2⟩ ha3.slots))
   have:=ZcR sl1 c1
   simpa using this
  ·subst eΓ
   have k3:=kw.transM hM k2
   have hvp:vs[pre.length]? = some w1:=by rw [ev,List.getElem?_append_right (by omega),hl,Nat.sub_self];rfl
   have hvq:vs[pre.length+1+mid.length]? = some w2:=by
    rw [ev,List.getElem?_append_right (by omega),hl,show pre.length+1+mid.length-pre.length=mid.length+1 by omega,List.getElem?_cons_succ,List.getElem?_append_right (by omega),hl2,Nat.sub_self];rfl
   simp only [List.map_cons,List.map_nil,hvp,hvq] at sl'
   cases sl' with
   | @cons _ _ La Lb _ _ hc hn' =>
    cases hn' with
    | @cons _ _ Lc Ld _ _ hc2 hn2 =>
     cases hn2
     obtain ⟨w,ew,_,rr⟩:=hc
     cases ew
     obtain ⟨w',ew',_,rr'⟩:=hc2
     cases ew'
     rw [List.append_nil] at k3 k2
     exact q u F' H' r' x' em (f F' H' La Lc x'.1 x'.2 k2.ff k3 rr rr') hr
  ·subst ex
   have k3:=kw.transM hM k2
   have st:=fx F' H' k2.ff (by simpa using k3)
   exact s.1 _ d F' σ H' _ (qx px em) st.2 hd
def Mmx (tx:XC→Addr) (Y:YC) (tl:TA) (Γ:List Cell) {τ:Type} (m:M τ) (R:List AC→M τ→Prop):Prop:=m.nb→XkM tx Y Γ m→MA Y tl Γ fun l=>R l m
theorem mmx_nil {m:M τ} {R:List AC→M τ→Prop} (h:m.nb→R [] m):Mmx tx Y tNil Γ m R:=fun nb _=>ma_nil (h nb)
theorem mmx_cons {m1:M α} {f:α→M τ} {R:List AC→M τ→Prop} (h:We tx Y te Γ d m1) (h2:∀ x,Mmx tx Y tr Γ (f x) fun l m=>R (.inl (.val d x)::l) m):Mmx tx Y (tCons te tr) Γ (m1>>=f) R:=fun nb xk =>
 ma_cons (Zef (h (M.nb1 nb) xk.l) fun x ex=>by
  have e3:(m1>>=f)=f x:=by rw [ex];rfl
  rw [e3] at nb xk ⊢
  exact h2 x nb xk)
theorem mmx_own {od:OD α} {x:α} {j:Nat} {pin:Option V} {m:M τ} {R:List AC→M τ→Prop} (hj:Γ[j]? = some (.own d od pin x)) (h:Mmx tx Y tr Γ m fun l m=>R (.inr (j,.own d od none x)::l) m):Mmx tx Y (tCons (tVar j) tr) Γ m R:=fun nb xk=>ma_own hj (h nb xk)
theorem zm_dropM2X {dr:Dat β} {od1:OD α1} {od2:OD α2} {x1:α1} {x2:α2} {j1 j2:Nat} {p1 p2:Option V} {sp:Sp} {E:_root_.L2.St→XK} {m:M (β×(α1×α2))} {m2:β×(α1×α2)→M τ} (hE:E=Y.E) (h1:Γ[j1]? = some (.own d1 od1 p1 x1)) (h2:Γ[j2]? = some (.own d2 od2 p2 x2)) (hn:(j1 == j2)=false) (hj1:j1∈js) (hj2:j2∈js)
  (h:Mmx tx Y tl Γ m fun l m=>Lend2X tx Y sp dr od1 j1 (.own d1 od1 none x1) od2 j2 (.own d2 od2 none x2) l m)
  (hr:∀ p,Zm tx Y js rest ((Γ.set j1 (.own d1 od1 p1 p.2.1)).set j2 (.own d2 od2 p2 p.2.2)) K (m2 p)):Zm tx Y js (tSeq (tDrop (tCallS sp E tl)) rest) Γ K (m>>=m2):=fun nb xk=>by
 refine ZdW (fun e F σ H D hM s c=>?_)
 refine z_callM2X hE hM s (by simpa using hn) h1 h2 (h (M.nb1 nb) xk.l.here) (fun v F' H' r x' em s' hr'=>?_) fun px em=>?_
 ·exact c.nx F' σ H' _ ((hr (r,x')).go nb xk em (by rw [ZaL hj2,ZaL hj1])) s'
 ·exact xk.l px em _ (by rw [ZaL hj2,ZaL hj1])
theorem z_callNNX {dr:Dat β} {od2:OD α2} {od3:OD α3} {sp:Sp} {E:_root_.L2.St→XK} {f:α0→α1→α2→α3→M (β×(α2×α3))} {e:En} {F:Hp} {σ:_root_.L2.St} {H:Hp} {Q:VK} (hE:E=Y.E) (hM:e.M=[]) (s:State Y e F σ H Γ)
  (h:W Y te0 Γ d0 fun y0=>W Y te1 Γ d1 fun y1=>O Y te2 Γ od2 fun x2=>O Y te3 Γ od3 fun x3=>SpMX Y.g sp dr [.val d0 y0,.val d1 y1,.own d2 od2 none x2,.own d3 od3 none x3] [2,3] (fun r Γm=>∃ x',f y0 y1 x2 x3 = .ok (r,x')∧Γm=[.own d2 od2 none x'.1,.own d3 od3 none x'.2]) (fun x=>∃ px,f y0 y1 x2 x3 = .exc px∧x=px.x tx) ∧
   (∀ v F' H' r x',f y0 y1 x2 x3 = .ok (r,x')→State Y e F' σ H' Γ→dr.rep Y.g F' v r→Q v H') ∧ ∀ px,f y0 y1 x2 x3 = .exc px→Y.kx (px.x tx) Γ):tCallS sp E (tCons te0 (tCons te1 (tCons te2 (tCons te3 tNil)))) σ H Q:=by
 subst hE
 have hlen:=s.len
 refine h e F σ H s _ fun v0 F0 H0 y0 h1 g0 r0=>h1 e F0 σ H0 (s.grow g0) _ fun v1 F1 H1 y1 h2 g1 r1=>?_
 have sA:=(s.grow g0).grow g1
 refine h2 e F1 σ H1 sA _ fun v2 F2 H2 L2 x2 h3 g2 r2=>?_
 have sB:=sA.growL g2
 refine h3 e F2 σ H2 sB _ fun v3 F3 H3 L3 x3 ⟨hsp,q,qx⟩ g3 r3=>?_
 have sx0:=sA.more
 have hG0:(Γ++[Cell.no])[Γ.length]? = some .no:=by simp
 have sx:=sx0.set (c':=.own d2 od2 none x2) hG0 g2 ⟨v2,rfl,fun _ z=>(nomatch z),r2⟩
 have eσ:(σ++[none]).set Γ.length (some v2)=σ++[some v2]:=by
  rw [← hlen,List.set_append_right _ _ (Nat.le_refl _),Nat.sub_self];rfl
 have eΓ:(Γ++[Cell.no]).set Γ.length (.own d2 od2 none x2)=Γ++[.own d2 od2 none x2]:=by
  rw [List.set_append_right _ _ (Nat.le_refl _),Nat.sub_self];rfl
 rw [eσ,eΓ] at sx
 have sy0:=sx.more
 have hG1:(Γ++[Cell.own d2 od2 none x2]++[Cell.no])[Γ.length+1]? = some .no:=by
  rw [List.getElem?_append_right (by simp)]
  simp
 have sy:=sy0.set (c':=.own d3 od3 none x3) hG1 g3 ⟨v3,rfl,fun _ z=>(nomatch z),r3⟩
 have eσ2:(σ++[some v2]++[none]).set (Γ.length+1) (some v3)=σ++[some v2]++[some v3]:=by
  rw [← hlen,List.set_append_right _ _ (by simp)]
  simp
 have eΓ2:(Γ++[Cell.own d2 od2 none x2]++[Cell.no]).set (Γ.length+1) (.own d3 od3 none x3)=Γ++[.own d2 od2 none x2]++[.own d3 od3 none x3]:=by
  rw [List.set_append_right _ _ (by simp)]
  simp
 rw [eσ2,eΓ2] at sy
 have hA:(Γ++[Cell.own d2 od2 none x2]++[Cell.own d3 od3 none x3])[Γ.length]? = some (.own d2 od2 none x2):=by
  rw [List.append_assoc,List.getElem?_append_right (Nat.le_refl _),Nat.sub_self]
  rfl
 have hB:(Γ++[Cell.own d2 od2 none x2]++[Cell.own d3 od3 none x3])[Γ.length+1]? = some (.own d3 od3 none x3):=by
  rw [List.getElem?_append_right (by simp)]
  simp
 obtain ⟨u2,u3,M2,M3,rst,e2,e3,q2,q3,kw,fin,finx⟩:=sy.mut2x (show Γ.length≠Γ.length+1 by omega) hA hB
 have eu2:u2=v2:=by
  rw [← hlen,List.append_assoc,List.getElem?_append_right (Nat.le_refl _),Nat.sub_self] at e2
  simp at e2
  exact e2.symm
 have eu3:u3=v3:=by
  rw [← hlen,List.getElem?_append_right (by simp)] at e3
  simp at e3
  exact e3.symm
 subst eu2 eu3
 have setA:∀ a b c:Cell,(Γ++[a]++[b]).set Γ.length c=Γ++[c]++[b]:=fun a b c=>by
  rw [List.append_assoc,List.set_append_right _ _ (Nat.le_refl _),Nat.sub_self,List.append_assoc]
  rfl
 have setB:∀ a b c:Cell,(Γ++[a]++[b]).set (Γ.length+1) c=Γ++[a]++[c]:=fun a b c=>by
  rw [List.set_append_right _ _ (by simp)]
  simp
 have back:∀ {F' H' : Hp} {a b:Cell},State Y e F' (σ++[some u2]++[some u3]) H' (Γ++[a]++[b])→State Y e F' σ H' Γ:=fun {F' H' a b} st =>
  State.init hlen (State.init (by simp [hlen]) st)
 refine hsp [v0,v1,u2,u3] H3 Q _ ⟨F3,M2++M3,minus H3 (M2++M3),kw.lend,?_,fun u F' H' r' Γm L' ⟨x',em,eΓm⟩ k2 hr sl'=>?_,fun x d F' H' ⟨px,em,ex⟩ k2 hd=>?_⟩
 ·have a0:Slots Y.g F3 [some v0] [.val d0 y0] []:=Slots.cons (L:=[]) (L':=[]) ⟨rfl,v0,rfl,d0.mono ((g1.ff.trans g2.ff).trans g3.ff) r0⟩ .nil
  have a1:Slots Y.g F3 [some v1] [.val d1 y1] []:=Slots.cons (L:=[]) (L':=[]) ⟨rfl,v1,rfl,d1.mono (g2.ff.trans g3.ff) r1⟩ .nil
  have a2:Slots Y.g F3 [some u2] [.own d2 od2 none x2] M2:=by simpa using Slots.cons (L':=[]) (c:=.own d2 od2 none x2) (o:=some u2) ⟨u2,rfl,(fun _ z=>nomatch z),q2⟩ Slots.nil
  have a3:Slots Y.g F3 [some u3] [.own d3 od3 none x3] M3:=by simpa using Slots.cons (L':=[]) (c:=.own d3 od3 none x3) (o:=some u3) ⟨u3,rfl,(fun _ z=>nomatch z),q3⟩ Slots.nil
  have:=ZcR (ZcR (ZcR a0 a1) a2) a3
  simpa using this
 ·subst eΓm
  have k3:=kw.transM hM k2
  cases sl' with
  | @cons _ _ La Lb _ _ hc hn' =>
   cases hn' with
   | @cons _ _ Lc Ld _ _ hc2 hn2 =>
    cases hn2
    obtain ⟨w,ew,_,rr⟩:=hc
    cases ew
    obtain ⟨w',ew',_,rr'⟩:=hc2
    cases ew'
    rw [List.append_nil] at k3 k2
    have st:=fin F' H' La Lc x'.1 x'.2 k2.ff k3 rr rr'
    rw [setA,setB] at st
    exact q u F' H' r' x' em (back st) hr
 ·subst ex
  have k3:=kw.transM hM k2
  have st:=finx F' H' k2.ff (by simpa using k3)
  rw [setA,setB] at st
  exact s.1 _ d F' σ H' _ (qx px em) (back st).2 hd
theorem zm_dropNNX {dr:Dat β} {od2:OD α2} {od3:OD α3} {sp:Sp} {E:_root_.L2.St→XK} {m0:M α0} {m1:M α1} {n2:M α2} {n3:M α3} {f:α0→α1→α2→α3→M (β×(α2×α3))} {m2:β×(α2×α3)→M τ} (hE:E=Y.E)
  (h0:We tx Y te0 Γ d0 m0) (h1:We tx Y te1 Γ d1 m1) (h2:Oe tx Y te2 Γ od2 n2) (h3:Oe tx Y te3 Γ od3 n3)
  (hs:∀ {y0 y1 x2 x3},(f y0 y1 x2 x3).nb→SpMX Y.g sp dr [.val d0 y0,.val d1 y1,.own d2 od2 none x2,.own d3 od3 none x3] [2,3] (fun r Γm=>∃ x',f y0 y1 x2 x3 = .ok (r,x')∧Γm=[.own d2 od2 none x'.1,.own d3 od3 none x'.2]) fun x=>∃ px,f y0 y1 x2 x3 = .exc px∧x=px.x tx)
  (hr:∀ p,Zm tx Y js rest Γ K (m2 p)):Zm tx Y js (tSeq (tDrop (tCallS sp E (tCons te0 (tCons te1 (tCons te2 (tCons te3 tNil)))))) rest) Γ K ((m0>>=fun y0=>m1>>=fun y1=>n2>>=fun x2=>n3>>=fun x3=>f y0 y1 x2 x3)>>=m2):=fun nb xk=>by
 have nbL:=M.nb1 nb
 have xkL:=xk.l.here
 refine ZdW (fun e F σ H D hM s c=>?_)
 refine z_callNNX (d0:=d0) (d1:=d1) (d2:=d2) (d3:=d3) (dr:=dr) (od2:=od2) (od3:=od3) (f:=f) (tx:=tx) hE hM s ?_
 refine Zef (h0 (M.nb1 nbL) xkL.l) fun y0 e0=>?_
 have nb1:=M.nb2 nbL e0
 have xk1:=xkL.r e0
 refine Zef (h1 (M.nb1 nb1) xk1.l) fun y1 e1=>?_
 have nb2:=M.nb2 nb1 e1
 have xk2:=xk1.r e1
 refine o_mono (h2 (M.nb1 nb2) xk2.l) fun x2 e2=>?_
 have nb3:=M.nb2 nb2 e2
 have xk3:=xk2.r e2
 refine o_mono (h3 (M.nb1 nb3) xk3.l) fun x3 e3=>?_
 have eM:(m0>>=fun y0=>m1>>=fun y1=>n2>>=fun x2=>n3>>=fun x3=>f y0 y1 x2 x3)=f y0 y1 x2 x3:=by
  rw [e0]
  show (m1>>=_)=_
  rw [e1]
  show (n2>>=_)=_
  rw [e2]
  show (n3>>=_)=_
  rw [e3]
  rfl
 refine ⟨hs (M.nb2 nb3 e3),fun v F' H' r x' em s' hr'=>?_,fun px em=>?_⟩
 ·exact c.nx F' σ H' _ ((hr (r,x')).go nb xk (eM.trans em) rfl) s'
 ·exact xkL px (eM.trans em)
theorem Zm.bodyM2X {C:GCtx} {N:List Str} {dr:Dat β} {od1:OD α1} {od2:OD α2} {x1:α1} {x2:α2} {p1 p2:Nat} {Γ' : V→V→List Cell} {m:M (β×(α1×α2))} {vs:List V} {H:Hp} {Q:VK} {E:XK} {ts:TS} (nb:m.nb) (hn:(p1 == p2)=false) (hp1:Γ[p1]? = some (.own d1 od1 none x1)) (hp2:Γ[p2]? = some (.own d2 od2 none x2))
  (h:FnMX C dr Γ [p1,p2] (fun r Γm=>∃ x',m = .ok (r,x')∧Γm=[.own d1 od1 none x'.1,.own d2 od2 none x'.2]) (fun x=>∃ px,m = .exc px∧x=px.x tx) vs H Q E)
  (hΓ:∀ u1 u2,Γ' u1 u2=(Γ.set p1 (.own d1 od1 (some u1) x1)).set p2 (.own d2 od2 (some u2) x2)++List.replicate (N.length-Γ.length) .no)
  (hz:∀ u1 u2:V,Zm tx ⟨C,fun _=>E,fun x _=>∃ px,m = .exc px∧x=px.x tx⟩ js ts (Γ' u1 u2) (KFM (fun r=>.val dr r) fun x' Γ2=>Γ2[p1]? = some (.own d1 od1 (some u1) x'.1)∧Γ2[p2]? = some (.own d2 od2 (some u2) x'.2)) m):ts { nx:=fun _ H'=>Q .non H',rt:=Q } (_root_.L2.start N vs) H:=by
 have hl:=h.len
 have hne:p1≠p2:=by simpa using hn
 obtain ⟨F,L,H0,kw,sl,q,qx⟩:=h
 have gv:∀ {p:Nat} {o:Option V} {u:V},(vs.map some)[p]? = some o→o=some u→vs[p]? = some u:=fun {p o u} e1 eo=>by
  subst eo
  rw [List.getElem?_map] at e1
  cases hv:vs[p]? with
  | none=>rw [hv] at e1;cases e1
  | some w=>rw [hv] at e1;cases e1;rfl
 obtain ⟨o,A1,Li,A2,e1,e2,⟨u1,rfl,_,r1⟩,f⟩:=sl.get hp1
 subst e2
 have hu1:=gv e1 rfl
 have sl1:=f F (some u1) (.own d1 od1 (some u1) x1) Li (Same.refl _) ⟨u1,rfl,fun w z=>by cases z;rfl,r1⟩
 rw [set_same e1] at sl1
 have hp2' : (Γ.set p1 (.own d1 od1 (some u1) x1))[p2]? = some (.own d2 od2 none x2):=by rw [List.getElem?_set_ne hne];exact hp2
 obtain ⟨o2,B1,Lj,B2,e3,e4,⟨u2,rfl,_,r2⟩,g⟩:=sl1.get hp2'
 have hu2:=gv e3 rfl
 have sl2:=g F (some u2) (.own d2 od2 (some u2) x2) Lj (Same.refl _) ⟨u2,rfl,fun w z=>by cases z;rfl,r2⟩
 rw [set_same e3,← e4] at sl2
 have st:State ⟨C,fun _=>E,fun x _=>∃ px,m = .exc px∧x=px.x tx⟩ ⟨F,H0,[]⟩ F (_root_.L2.start N vs) H (Γ' u1 u2):=by
  refine ⟨fun x d F' σ' H' Γ' k ⟨L,kw,_⟩ hd=>qx x d F' H' k (kw.sub (fun _ z=>nomatch z) List.nodup_nil) hd,A1++Li++A2,kw,?_⟩
  unfold _root_.L2.start
  rw [hΓ u1 u2,← hl]
  have:=ZcR sl2 (slots_pad (C:=C) (F:=F) (N.length-vs.length))
  simpa using this
 have hz':=hz u1 u2 nb fun x e2 Γ' _=>⟨x,e2,rfl⟩
 have fin:∀ (v:V) (F' H' : Hp) (σ' : _root_.L2.St) (Γ2:List Cell) (Lr:LO) (r' : β) (x' : α1×α2),m = .ok (r',x')→(Γ2[p1]? = some (.own d1 od1 (some u1) x'.1)∧Γ2[p2]? = some (.own d2 od2 (some u2) x'.2))→Wk ⟨F,H0,[]⟩ F' Lr H'→dr.rep C F' v r'→Slots C F' σ' Γ2 Lr→Q v H':=fun v F' H' σ' Γ2 Lr r' x' em hg k2 hr sl2=>by
  obtain ⟨hg1,hg2⟩:=hg
  have st2:State ⟨C,fun _=>E,fun _ _=>False⟩ ⟨F,H0,[]⟩ F' σ' H' Γ2:=⟨fun x d F' σ' H' Γ' k=>k.elim,Lr,k2,sl2⟩
  obtain ⟨w1,w2,M1,M2,rest,q1,q2,rr1,rr2,kk,_⟩:=st2.mut2 hne hg1 hg2
  have hw1:w1=u1:=by
   obtain ⟨_,_,_,_,z1,_,⟨w,rfl,hw,_⟩,_⟩:=sl2.get hg1
   rw [q1] at z1;cases z1;exact hw u1 rfl
  have hw2:w2=u2:=by
   obtain ⟨_,_,_,_,z1,_,⟨w,rfl,hw,_⟩,_⟩:=sl2.get hg2
   rw [q2] at z1;cases z1;exact hw u2 rfl
  subst hw1
  subst hw2
  refine q v F' H' r' _ (M1++M2) ⟨x',em,rfl⟩ (kk.subl (List.sublist_append_left _ _)) hr ?_
  rw [List.map_cons,List.map_cons,List.map_nil,hu1,hu2]
  have c1:Zdf C F' (some w1) (.own d1 od1 none x'.1) M1:=⟨w1,rfl,(fun _ z=>nomatch z),rr1⟩
  have c2:Zdf C F' (some w2) (.own d2 od2 none x'.2) M2:=⟨w2,rfl,(fun _ z=>nomatch z),rr2⟩
  have hs:=Slots.cons c1 (Slots.cons c2 (Slots.nil (C:=C) (F:=F')))
  rw [List.append_nil] at hs
  exact hs
 refine hz' ⟨F,H0,[]⟩ F (_root_.L2.start N vs) H _ rfl st ⟨fun F' σ' H' Γ2 hn s'=>?_,fun F' σ' H' Γ2 v c Lc L' hn k2 rc sl2=>?_,fun _ _ _ _ z=>?_,fun _ _ _ _ z=>?_⟩
 ·obtain ⟨t,em,ec,hg⟩:=hn
  obtain ⟨_,Lr,k2,sl2⟩:=s'
  refine fin .non F' H' σ' Γ2 Lr t.1 t.2 em hg k2 ?_ sl2
  have:Zdf C F' (some V.non) (.val dUnit ()) []:=⟨rfl,.non,rfl,rfl⟩
  rw [ec] at this
  obtain ⟨_,v',ev,rv⟩:=this
  cases ev
  exact rv
 ·obtain ⟨t,em,ec,hg⟩:=hn
  subst ec
  obtain ⟨el,v',ev,rv⟩:=rc
  cases ev
  subst el
  exact fin v F' H' σ' Γ2 L' t.1 t.2 em hg k2 rv sl2
 ·obtain ⟨_,_,z⟩:=z;exact z.elim
 ·obtain ⟨_,_,z⟩:=z;exact z.elim
end
end G
end
namespace G
def Adj (pts:List Int) (ties:List (Int×Int)) (a b:Int):Prop:=a∈pts∧b∈pts∧((a,b)∈ties∨(b,a)∈ties)
theorem Adj.symm {pts:List Int} {ties:List (Int×Int)} {a b:Int} (h:Adj pts ties a b):Adj pts ties b a:=⟨h.2.1,h.1,h.2.2.symm⟩
inductive Reach (pts:List Int) (ties:List (Int×Int)):Int→Int→Prop where
 | refl (x:Int):Reach pts ties x x
 | tail {x y z:Int} (h:Reach pts ties x y) (a:Adj pts ties y z):Reach pts ties x z
section
variable {pts:List Int} {ties:List (Int×Int)}
theorem Reach.trans {x y z:Int} (h:Reach pts ties x y) (g:Reach pts ties y z):Reach pts ties x z:=by
 induction g with
 | refl=>exact h
 | tail _ a ih=>exact .tail ih a
theorem Reach.symm {x y:Int} (h:Reach pts ties x y):Reach pts ties y x:=by
 induction h with
 | refl=>exact .refl _
 | tail _ a ih=>exact (Reach.tail (.refl _) a.symm).trans ih
theorem Reach.mem {x y:Int} (h:Reach pts ties x y) (hx:x∈pts):y∈pts:=by
 cases h with
 | refl=>exact hx
 | tail _ a=>exact a.2.1
noncomputable instance decReach {pts:List Int} {ties:List (Int×Int)} {x y:Int}:Decidable (Reach pts ties x y):=Classical.propDecidable _
def IsMin (pts:List Int) (ties:List (Int×Int)) (p:Int):Prop:=∀ q∈pts,Reach pts ties p q→p≤q
noncomputable instance decMin {pts:List Int} {ties:List (Int×Int)} {x:Int}:Decidable (IsMin pts ties x):=Classical.propDecidable _
structure Dfs (pts:List Int) (ties:List (Int×Int)) (s0:List Int) (p:Int) (seen group waiting:List Int):Prop where
 nd:(group++waiting).Nodup
 sn:seen.Nodup
 mem:∀ x,x∈seen↔x∈s0∨x∈group++waiting
 re:∀ x∈group++waiting,Reach pts ties p x∧x∈pts
 clo:∀ x∈group,∀ z,Adj pts ties x z→z∈seen
 st:p∈group++waiting
  /-- what is seen is of the points -/
 sub:∀ x∈seen,x∈pts
theorem len_le {α:Type} [DecidableEq α]:∀ {xs pts:List α},xs.Nodup→(∀ x∈xs,x∈pts)→xs.length≤pts.length
 | [],_,_,_=>Nat.zero_le _
 | x::xs,pts,h,hs=>by
  have hx:=hs x List.mem_cons_self
  have h1:=List.nodup_cons.mp h
  have ih:=len_le (xs:=xs) (pts:=pts.erase x) h1.2 fun y hy=>(List.mem_erase_of_ne (fun z=>h1.1 (by rw [← z];exact hy))).mpr (hs y (List.mem_cons_of_mem _ hy))
  have hl:=List.length_erase_of_mem hx
  have hp:=List.length_pos_of_mem hx
  simp only [List.length_cons]
  omega
structure Dfs2 (pts:List Int) (ties:List (Int×Int)) (s0:List Int) (p:Int) (seen group waiting:List Int) (m:Int) (done:List Int):Prop where
 nd:(group++waiting).Nodup
 sn:seen.Nodup
 mem:∀ x,x∈seen↔x∈s0∨x∈group++waiting
 re:∀ x∈group++waiting,Reach pts ties p x∧x∈pts
 clo:∀ x∈group,x≠m → ∀ z,Adj pts ties x z→z∈seen
 st:p∈group++waiting
 sub:∀ x∈seen,x∈pts
 hm:m∈group
 dn:∀ z∈done,z∈seen
theorem Dfs.take {s0 seen group ws:List Int} {p m:Int} (h:Dfs pts ties s0 p seen group (ws++[m])):Dfs2 pts ties s0 p seen (group++[m]) ws m []:=by
 have hp:((group++[m])++ws).Perm (group++(ws++[m])):=by
  rw [List.append_assoc]
  exact List.Perm.append_left _ List.perm_append_comm
 refine ⟨hp.nodup_iff.mpr h.nd,h.sn,fun x=>by rw [h.mem x,hp.mem_iff],fun x hx=>h.re x (hp.mem_iff.mp hx),fun x hx hne z a=>?_,hp.mem_iff.mpr h.st,h.sub,by simp,fun z hz=>(nomatch hz)⟩
 rcases List.mem_append.mp hx with hx | hx
 ·exact h.clo x hx z a
 ·exact absurd (List.mem_singleton.mp hx) hne
theorem Dfs.done {s0 seen group:List Int} {p:Int} (h:Dfs pts ties s0 p seen group []) (h0:∀ x y,x∈s0→Reach pts ties x y→y∈s0) (hp:p∉s0) (x:Int):x∈group↔x∈pts∧Reach pts ties p x:=by
 have hg:∀ y,y∈group++[]↔y∈group:=fun y=>by simp
 constructor
 ·intro hx
  have:=h.re x ((hg x).mpr hx)
  exact ⟨this.2,this.1⟩
 ·rintro ⟨hx,hr⟩
  clear hx
  induction hr with
  | refl=>exact (hg p).mp h.st
  | @tail y z hy a ih =>
   have:=(h.mem z).mp (h.clo y ih z a)
   rcases this with q | q
   ·exact absurd (h0 z p q (Reach.tail hy a).symm) hp
   ·exact (hg z).mp q
structure Seen (pts:List Int) (ties:List (Int×Int)) (xs seen:List Int):Prop where
 nd:seen.Nodup
 mem:∀ x,x∈seen↔x∈pts ∧ ∃ q∈xs,Reach pts ties q x
theorem Seen.clo {xs seen:List Int} (h:Seen pts ties xs seen) (x y:Int) (hx:x∈seen) (hr:Reach pts ties x y):y∈seen:=by
 obtain ⟨h1,q,hq,h2⟩:=(h.mem x).mp hx
 exact (h.mem y).mpr ⟨hr.mem h1,q,hq,h2.trans hr⟩
theorem Seen.next {xs seen seen' group:List Int} {p:Int} (h:Seen pts ties xs seen) (hn:p∉seen) (hd:Dfs pts ties seen p seen' group []):Seen pts ties (xs++[p]) seen':=by
 refine ⟨hd.sn,fun x=>?_⟩
 have q:=hd.done (fun a b=>h.clo a b) hn x
 rw [hd.mem x,List.append_nil,q,h.mem x]
 constructor
 ·rintro (⟨h1,y,hy,h2⟩ | ⟨h1,h2⟩)
  ·exact ⟨h1,y,List.mem_append_left _ hy,h2⟩
  ·exact ⟨h1,p,by simp,h2⟩
 ·rintro ⟨h1,y,hy,h2⟩
  rcases List.mem_append.mp hy with hy | hy
  ·exact .inl ⟨h1,y,hy,h2⟩
  ·rw [List.mem_singleton] at hy;subst hy;exact .inr ⟨h1,h2⟩
end
end G
namespace G
section
variable {pts:List Int} {ties:List (Int×Int)}
def Cor (pts:List Int) (ts:List (Int×Int)) (kv:List (Int×Int)) (x:Int):Prop:=∃ y,kv.lookup x=some y∧IsMin pts ts y
noncomputable instance decCor {pts:List Int} {ts:List (Int×Int)} {kv:List (Int×Int)} {x:Int}:Decidable (Cor pts ts kv x):=Classical.propDecidable _
end
end G
namespace PM
open PySem L2 G
noncomputable def Zcm (script:(Sq Int)) (k:Int):M Int :=
 if (decide (k<(script.l.length:Int))) then
 (M.ix script.l k)
else
 (M.ok (0:Int))
noncomputable def ZbH (cell_here:Int) (many:Int):M (List Int) :=
 (M.ok (if cell_here<0 then -cell_here else cell_here))>>=fun rest_1 =>
 (M.ok (decide ((1000000000000000000:Int)≤rest_1)))>>=fun exact_2 =>
 (M.ok ((rest_1%(2147483629:Int))+(17:Int)))>>=fun mixed_3 =>
 (M.ok ([]:(List Int)))>>=fun draws_here_4 =>
 (M.range many)>>=fun l12 =>
 M.fold (fun (s5:(Int×Int×(List Int))) x6 =>
  (M.ok ((((s5.2.1*(48271:Int))+((9973:Int)*x6))+(11:Int))%(2147483647:Int)))>>=fun mixed_7 =>
   if (exact_2&&(decide ((0:Int)<s5.1))) then
   M.push s5.2.2 (M.ok (s5.1%(60:Int)))>>=fun draws_here_8 =>
    (M.ok (s5.1/(60:Int)))>>=fun rest_9 =>
    M.ok (rest_9,mixed_7,draws_here_8)
  else
   M.push s5.2.2 (M.ok ((mixed_7/(13:Int))%(60:Int)))>>=fun draws_here_10 =>
    M.ok (s5.1,mixed_7,draws_here_10)) (rest_1,mixed_3,draws_here_4) l12>>=fun (s11:(Int×Int×(List Int))) =>
 M.ok s11.2.2
noncomputable def Zas (draws_here:(List Int)) (k:Int) (many:Int):M Int :=
 if ((decide (many<(2:Int)))||(decide ((draws_here.length:Int)=(0:Int)))) then
 (M.ok (0:Int))
else
 (((M.asrt (0<(draws_here.length:Int)) (.ok (k%(draws_here.length:Int))))>>=fun t1=>(M.ix draws_here t1))>>=fun t2=>(M.asrt (0<many) (.ok (t2%many))))
noncomputable def Zbh (rec_:PyData→PyData→M Bool) (told:PyData) (due_here:PyData):M Bool :=
 if (Zcd due_here) then
 (M.ok (Zcd told))
else
 if (isU "bool" due_here) then
  (if (isU "bool" told) then (M.asrt (told.depth≤64∧due_here.depth≤64) (.ok (PyData.eqv told due_here))) else .ok false)
 else
  if (isU "int" due_here) then
   (if (isU "int" told) then (if (!(isU "bool" told)) then (M.asrt (told.depth≤64∧due_here.depth≤64) (.ok (PyData.eqv told due_here))) else .ok false) else .ok false)
  else
   if (isU "str" due_here) then
    (if (isU "str" told) then (M.asrt (told.depth≤64∧due_here.depth≤64) (.ok (PyData.eqv told due_here))) else .ok false)
   else
    if ((isU "list" due_here)&&(!(isU "list" told))) then
     (M.ok false)
    else
     if ((isU "tuple" due_here)&&(!(isU "tuple" told))) then
      (M.ok false)
     else
      (((M.ofO (Zat told)>>=fun ds=>M.ok (⟨ds⟩:Sq PyData))>>=fun t1=>(M.ok (t1.l.length:Int)))>>=fun t3=>(((M.ofO (Zat due_here)>>=fun ds=>M.ok (⟨ds⟩:Sq PyData))>>=fun t2=>(M.ok (t2.l.length:Int)))>>=fun t4=>(M.ok (!decide (t3=t4)))))>>=fun b18=>if b18 then
       (M.ok false)
      else
       (((M.ofO (Zat due_here)>>=fun ds=>M.ok (⟨ds⟩:Sq PyData))>>=fun t6=>(M.ok (t6.l.length:Int)))>>=fun t7=>(M.range t7))>>=fun l17 =>
        M.ZbA (fun (_:Unit) x8 =>
         ((((M.ofO (Zat told)>>=fun ds=>M.ok (⟨ds⟩:Sq PyData))>>=fun t9=>(M.ix t9.l x8))>>=fun t11=>(((M.ofO (Zat due_here)>>=fun ds=>M.ok (⟨ds⟩:Sq PyData))>>=fun t10=>(M.ix t10.l x8))>>=fun t12=>(rec_ t11 t12)))>>=fun t13=>(M.ok (!t13)))>>=fun b14=>if b14 then
          (M.ok false)>>=fun r=>.ok (.rt r)
         else
          M.ok (.nx ())) () l17>>=fun c16=>Ct.go c16 M.ok fun (_:Unit) =>
        (M.ok true)
noncomputable def ZaY:Nat→PyData→PyData→M Bool
 | 0=>fun _ _=>.bad
 | fl+1=>Zbh (ZaY fl)
noncomputable def l_groups_m (others:(List Int)) (ties:(List (T4 Int Int Int Int))):M (List (List Int)) :=
 (M.ok (⟨[]⟩:(DI Int)))>>=fun label_1 =>
 (M.ok others)>>=fun l35 =>
 M.fold (fun (s2:(DI Int)) x3 =>
  M.dput s2 (M.ok x3) (M.ok x3)>>=fun label_4 =>
   M.ok label_4) label_1 l35>>=fun (s5:(DI Int)) =>
 (M.range (others.length:Int))>>=fun l34 =>
 M.ZbA (fun (s6:(DI Int)) x7 =>
  (M.ok false)>>=fun changed_8 =>
   (M.ok ties)>>=fun l21 =>
   M.fold (fun (s9:((DI Int)×Bool)) x10 =>
    (if ((s9.1.kv.lookup x10.a).isSome) then (if ((s9.1.kv.lookup x10.c).isSome) then ((M.ofO (s9.1.kv.lookup x10.a))>>=fun t11=>((M.ofO (s9.1.kv.lookup x10.c))>>=fun t12=>(M.ok (!decide (t11=t12))))) else .ok false) else .ok false)>>=fun b19=>if b19 then
     ((M.ofO (s9.1.kv.lookup x10.a))>>=fun t13=>((M.ofO (s9.1.kv.lookup x10.c))>>=fun t14=>(M.ok (if t14<t13 then t14 else t13))))>>=fun low_15 =>
      M.dput s9.1 (M.ok x10.a) (M.ok low_15)>>=fun label_16 =>
      M.dput label_16 (M.ok x10.c) (M.ok low_15)>>=fun label_17 =>
      (M.ok true)>>=fun changed_18 =>
      M.ok (label_17,changed_18)
    else
     M.ok (s9.1,s9.2)) (s6,changed_8) l21>>=fun (s20:((DI Int)×Bool)) =>
   if (!s20.2) then
   M.ok (.bk s20.1)
  else
   M.ok (.nx s20.1)) s5 l34>>=fun c33=>Ct.go c33 (fun (r:Empty)=>nomatch r) fun (s22:(DI Int)) =>
 (M.ok ([]:(List (List Int))))>>=fun groups_here_23 =>
 (M.ok (isort others))>>=fun l32 =>
 M.fold (fun (s24:(List (List Int))) x25 =>
  ((M.ofO (s22.kv.lookup x25))>>=fun t26=>(M.ok (decide (t26=x25))))>>=fun b30=>if b30 then
   M.push s24 (M.comp (fun x27=>((M.ofO (s22.kv.lookup x27))>>=fun t28=>(M.ok (decide (t28=x25))))) (fun x27=>(M.ok x27)) (isort others))>>=fun groups_here_29 =>
    M.ok groups_here_29
  else
   M.ok s24) groups_here_23 l32>>=fun (s31:(List (List Int))) =>
 M.ok s31
noncomputable def l_touched_m (ties:(List (T4 Int Int Int Int))) (group:(List Int)) (place:Int):M (List Int) :=
 (M.ok ([]:(List Int)))>>=fun touched_here_1 =>
 (M.ok ties)>>=fun l8 =>
 M.fold (fun (s2:(List Int)) x3 =>
  (if ((decide (x3.a=place))&&((memB x3.c group)&&(!memB x3.b s2))) then
   M.push s2 (M.ok x3.b)>>=fun touched_here_4 =>
    M.ok touched_here_4
  else
   M.ok s2)>>=(fun s5:(List Int) =>
   if ((decide (x3.c=place))&&((memB x3.a group)&&(!memB x3.d s5))) then
   M.push s5 (M.ok x3.d)>>=fun touched_here_6 =>
    M.ok touched_here_6
  else
   M.ok s5)) touched_here_1 l8>>=fun (s7:(List Int)) =>
 (M.ok (isort s7))
noncomputable def l_is_hinge_m (ties:(List (T4 Int Int Int Int))) (shut:(List Int)) (place:Int):M Bool :=
 (M.ok ties)>>=fun l16 =>
 M.ZbA (fun (_:Unit) x2 =>
  if ((decide (x2.a=place))&&((decide (x2.c=place))&&(!decide (x2.b=x2.d)))) then
   (M.ok false)>>=fun r=>.ok (.rt r)
  else
   M.ok (.nx ())) () l16>>=fun c15=>Ct.go c15 M.ok fun (_:Unit) =>
 ((M.comp (fun x6=>(M.ok (!decide (x6=place)))) (fun x6=>(M.ok x6)) shut)>>=fun t7=>(l_groups_m t7 ties))>>=fun l14 =>
 M.ZbA (fun (_:Unit) x8 =>
  (((l_touched_m ties x8 place)>>=fun t9=>(M.ok (t9.length:Int)))>>=fun t10=>(M.ok (decide ((1:Int)<t10))))>>=fun b11=>if b11 then
   (M.ok false)>>=fun r=>.ok (.rt r)
  else
   M.ok (.nx ())) () l14>>=fun c13=>Ct.go c13 M.ok fun (_:Unit) =>
 (M.ok true)
noncomputable def ZbG (ties:(List (T4 Int Int Int Int))) (joints_here:(List Int)) (order:(List Int)):M (Opt Int) :=
 (M.ok joints_here)>>=fun shut_1 =>
 (M.range (order.length:Int))>>=fun l12 =>
 M.ZbA (fun (s2:(List Int)) x3 =>
  (((M.ix order x3)>>=fun t4=>(M.ok (!memB t4 s2)))>>=fun b7=>(if b7 then .ok true else ((M.calm ((M.ix order x3)>>=fun t5=>(l_is_hinge_m ties s2 t5)))>>=fun t6=>(M.ok (!t6)))))>>=fun b9=>if b9 then
   (M.ok (.some x3))>>=fun r=>.ok (.rt r)
  else
   M.remove s2 (M.ix order x3)>>=fun shut_8 =>
    M.ok (.nx shut_8)) shut_1 l12>>=fun c11=>Ct.go c11 M.ok fun (s10:(List Int)) =>
 (M.ok .none)
noncomputable def Zbn (draws_here:(List Int)) (at_:Int) (many:Int):M (List Int) :=
 (M.rangeL 0 many)>>=fun pool_1 =>
 (M.ok ([]:(List Int)))>>=fun row_2 =>
 (M.range many)>>=fun l7 =>
 M.fold (fun (s3:((List Int)×(List Int))) x4 =>
  M.appendPop s3.2 s3.1 (Zas draws_here (at_+x4) (s3.1.length:Int))>>=fun p5 =>
   M.ok (p5.2,p5.1)) (pool_1,row_2) l7>>=fun (s6:((List Int)×(List Int))) =>
 M.ok s6.2
noncomputable def Zem (draws_here:(List Int)) (at_:Int) (steps:(List (Int×Int))) (many_ties:Int):M (List (Int×Int)) :=
 (M.ok steps)>>=fun rows_1 =>
 (Zas draws_here at_ (6:Int))>>=fun deed_2 =>
 (Zas draws_here (at_+(1:Int)) (rows_1.length:Int))>>=fun k_3 =>
 if (decide ((rows_1.length:Int)=(0:Int))) then
 (((Zas draws_here (at_+(2:Int)) (many_ties+(1:Int)))>>=fun t4=>(M.ok (t4,(0:Int))))>>=fun t5=>(M.ok (t5::[])))
else
 (M.ix rows_1 k_3)>>=fun t6 =>
  (if (decide (deed_2=(0:Int))) then
  (M.popAt rows_1 (M.ok k_3))>>=fun p7 =>
   M.ok p7.1
 else
  M.ok rows_1)>>=(fun s8:(List (Int×Int)) =>
  (if (decide (deed_2=(1:Int))) then
  M.insert s8 (M.ok k_3) (M.ix s8 k_3)>>=fun rows_9 =>
   M.ok rows_9
 else
  M.ok s8)>>=(fun s10:(List (Int×Int)) =>
  (if (decide (deed_2=(2:Int))) then
  M.setIx s10 (M.ok k_3) (M.ok (t6.1,((1:Int)-t6.2)))>>=fun rows_11 =>
   M.ok rows_11
 else
  M.ok s10)>>=(fun s12:(List (Int×Int)) =>
  (if (decide (deed_2=(3:Int))) then
  M.setIx s12 (M.ok k_3) ((Zas draws_here (at_+(2:Int)) (many_ties+(1:Int)))>>=fun t13=>((Zas draws_here (at_+(3:Int)) (2:Int))>>=fun t14=>(M.ok (t13,t14))))>>=fun rows_15 =>
   M.ok rows_15
 else
  M.ok s12)>>=(fun s16:(List (Int×Int)) =>
  (if (decide (deed_2=(4:Int))) then
  M.setIx s16 (M.ok k_3) (((Zas draws_here (at_+(2:Int)) (3:Int))>>=fun t17=>(M.ix [(-(1:Int)),many_ties,(many_ties+(7:Int))] t17))>>=fun t18=>(M.ok (t18,t6.2)))>>=fun rows_19 =>
   M.ok rows_19
 else
  M.ok s16)>>=(fun s20:(List (Int×Int)) =>
  (if (decide (deed_2=(5:Int))) then
  M.setIx s20 (M.ok k_3) (((Zas draws_here (at_+(2:Int)) (2:Int))>>=fun t21=>(M.ix [(-(1:Int)),(2:Int)] t21))>>=fun t22=>(M.ok (t6.1,t22)))>>=fun rows_23 =>
   M.ok rows_23
 else
  M.ok s20)>>=(fun s24:(List (Int×Int)) =>
  M.ok s24))))))
end PM
namespace PM
open PySem L2 G
noncomputable def ZbE (name:PySem.Str):M Bool :=
 (((M.lenS name)>>=fun t1=>(if (decide ((0:Int)<t1)) then (M.ok (decide (t1≤(8:Int)))) else .ok false))>>=fun b4=>(if b4 then (((M.signs name)>>=M.comp (fun _=>(M.ok true)) (fun x2=>(M.inSg x2 ("abcdefghijklmnopqrstuvwxyz" : PySem.Str))))>>=fun t3=>(M.ok (t3.all id))) else .ok false))
end PM
namespace G
open PySem L2
namespace M
variable {α β γ σ ρ:Type}
theorem fold_ok {f:σ→α→M σ} {xs:List α} {s0:σ} (P:Nat→σ→Prop) (h0:P 0 s0) (hs:∀ i x s,xs[i]? = some x→P i s → ∃ s',f s x = .ok s'∧P (i+1) s'):∃ s,fold f s0 xs = .ok s∧P xs.length s:=by
 have key:∀ n,n≤xs.length → ∃ s,fold f s0 (xs.take n) = .ok s∧P n s:=by
  intro n
  induction n with
  | zero=>intro _;exact ⟨s0,rfl,h0⟩
  | succ n ih =>
   intro hn
   obtain ⟨s,e,p⟩:=ih (by omega)
   have hx:xs[n]? = some xs[n]:=by simp [show n<xs.length by omega]
   obtain ⟨s',e',p'⟩:=hs n xs[n] s hx p
   refine ⟨s',?_,p'⟩
   rw [List.take_add_one,hx]
   show fold f s0 (xs.take n++[xs[n]])=_
   rw [fold_snoc,e]
   exact e'
 have:=key xs.length (Nat.le_refl _)
 rwa [List.take_length] at this
theorem range_ok {n:Int} (h0:0≤n) (h1:n≤100000):range n = .ok (rngL 0 n.toNat):=Zah ⟨by omega,Int.le_trans h1 (by decide)⟩
theorem rangeN {n:Nat} (h1:n≤100000):range (n:Int) = .ok (rngL 0 n):=by rw [range_ok (by omega) (by omega)];simp
theorem ZbO {xs:List α} {y:α} (h:xs.length≤100000):push xs (.ok y) = .ok (xs++[y]):=push_ok (ZcQ h)
theorem ix_at {xs:List α} {i:Int} {x:α} (h0:0≤i) (h:xs[i.toNat]? = some x):ix xs i = .ok x:=by unfold ix;rw [atI_of h0 h];rfl
theorem Zeb {xs:List α} {i:Int} (h0:0≤i) (h1:i<xs.length):∃ x,xs[i.toNat]? = some x∧ix xs i = .ok x:=by
 have hlt:i.toNat<xs.length:=by omega
 exact ⟨xs[i.toNat],by simp [hlt],ix_at h0 (by simp [hlt])⟩
theorem ix_getD {xs:List α} {i:Int} (d:α) (h0:0≤i) (h1:i<xs.length):ix xs i = .ok (xs.getD i.toNat d):=by
 obtain ⟨x,hx,e⟩:=Zeb h0 h1
 rw [e,List.getD_eq_getElem?_getD,hx];rfl
theorem comp_mapM {f:α→M β} (f' : α→β) {xs:List α} (h:∀ x∈xs,f x = .ok (f' x)):comp (fun _=>.ok true) f xs = .ok (xs.map f'):=by
 rw [comp_of (fun _=>true) f' xs (fun _ _=>rfl) fun x hx _=>h x hx,List.filter_eq_self.mpr fun _ _=>rfl]
theorem tryK_exc {kn p:XC→Bool} {x:PX} {h:PX→M α} (h1:kn x.cls=true) (h2:p x.cls=true):tryK kn p (.exc x) h=h x:=by
 show (if kn x.cls=true then (if p x.cls=true then h x else .exc x) else .bad)=_
 rw [if_pos h1,if_pos h2]
@[simp] theorem tryK_ok {kn p:XC→Bool} {x:α} {h:PX→M α}:tryK kn p (.ok x) h = .ok x:=rfl
def sat (m:M α) (R:α→Prop):Prop:=∃ r,m = .ok r∧R r
theorem Zbb {x:α} {R:α→Prop} (h:R x):sat (.ok x) R:=⟨x,rfl,h⟩
theorem Zdr {m:M α} {f:α→M β} {R1:α→Prop} {R:β→Prop} (h:sat m R1) (h2:∀ x,R1 x→sat (f x) R):sat (m>>=f) R:=by
 obtain ⟨x,rfl,hx⟩:=h
 exact h2 x hx
theorem Zdm {b:Bool} {m n:M α} {R:α→Prop} (h:b=true→sat m R) (h2:b=false→sat n R):sat (if b then m else n) R:=by
 cases b with
 | true=>exact h rfl
 | false=>exact h2 rfl
theorem sat_fold {f:σ→α→M σ} {xs:List α} {s0:σ} (P:Nat→σ→Prop) (h0:P 0 s0) (hs:∀ i x s,xs[i]? = some x→P i s→sat (f s x) (P (i+1))):sat (fold f s0 xs) (P xs.length):=fold_ok P h0 hs
theorem sat_push {xs:List α} {m:M α} {R:List α→Prop} (hl:xs.length≤100000) (h:sat m fun y=>R (xs++[y])):sat (push xs m) R:=by
 obtain ⟨y,rfl,hy⟩:=h
 exact ⟨_,push_ok (ZcQ hl),hy⟩
theorem sat_ix {xs:List α} {i:Int} {R:α→Prop} (h0:0≤i) (h1:i<xs.length) (h:∀ x,xs[i.toNat]? = some x→R x):sat (ix xs i) R:=by
 have hlt:i.toNat<xs.length:=by omega
 have e:xs[i.toNat]? = some xs[i.toNat]:=by simp [hlt]
 exact ⟨_,by unfold ix;rw [atI_of h0 e];rfl,h _ e⟩
theorem bnd {m:M α} {x:α} {f:α→M β} (h:m = .ok x):(m>>=f)=f x:=by rw [h];rfl
end M
theorem rngL_get {lo:Int} {n i:Nat} {x:Int} (h:(rngL lo n)[i]? = some x):i<n∧x=lo+i:=by
 rw [← rng_get] at h
 exact rng_some h
theorem Zdt {lo:Int} {n:Nat} {x:Int}:x∈rngL lo n↔lo≤x∧x<lo+n:=by
 unfold rngL
 rw [List.mem_map]
 constructor
 ·rintro ⟨i,hi,rfl⟩
  rw [List.mem_range] at hi
  omega
 ·intro ⟨h1,h2⟩
  exact ⟨(x-lo).toNat,List.mem_range.mpr (by omega),by omega⟩
end G
namespace PM
open PySem L2 G
theorem cell_ok (s:Sq Int) {k:Int} (hk:0≤k):∃ x,Zcm s k = .ok x:=by
 unfold Zcm
 split
 ·next h =>
  simp at h
  obtain ⟨x,_,e⟩:=M.Zeb hk h
  exact ⟨x,e⟩
 ·exact ⟨_,rfl⟩
theorem draws_ok (c:Int) {m:Int} (h0:0≤m) (h1:m≤1000):∃ ds,ZbH c m = .ok ds:=by
 suffices M.sat (ZbH c m) fun _=>True from let ⟨d,e,_⟩:=this; ⟨d,e⟩
 unfold ZbH
 simp only [M.Zab]
 rw [M.range_ok h0 (by omega)]
 simp only [M.Zab]
 refine M.Zdr (M.sat_fold (fun i s=>s.2.2.length≤i) (Nat.le_refl 0) fun i x s hx hs=>?_) fun s _=>M.Zbb trivial
 have hi:=(rngL_get hx).1
 refine M.Zdm (fun _=>?_) fun _=>?_
 ·exact M.Zdr (M.sat_push (R:=fun y=>y.length≤i+1) (by omega) (M.Zbb (by simp;omega))) fun y hy=>M.Zbb hy
 ·exact M.Zdr (M.sat_push (R:=fun y=>y.length≤i+1) (by omega) (M.Zbb (by simp;omega))) fun y hy=>M.Zbb hy
def pick (d:List Int) (k m:Int):Int:=if m<2∨d=[] then 0 else d.getD (k%d.length).toNat 0%m
theorem ZdB (d:List Int) (k m:Int):Zas d k m = .ok (pick d k m):=by
 unfold Zas pick
 by_cases h:m<2∨d=[]
 ·rw [if_pos h,if_pos]
  simp;exact h
 ·rw [if_neg h,if_neg (by simp;exact ⟨by omega,fun z=>h (.inr z)⟩)]
  have hd:d≠[]:=fun z=>h (.inr z)
  have hl:0<d.length:=List.length_pos_iff.mpr hd
  have h1:0≤k%(d.length:Int):=Int.emod_nonneg _ (by omega)
  have h2:k%(d.length:Int)<d.length:=Int.emod_lt_of_pos _ (by omega)
  rw [M.Zah (by omega)]
  simp only [M.Zab]
  rw [M.ix_getD 0 h1 h2]
  simp only [M.Zab]
  rw [M.Zah (by omega)]
theorem ZaU {d:List Int} {k m:Int} (h:1≤m):0≤pick d k m∧pick d k m<m:=by
 unfold pick
 split
 ·omega
 ·exact ⟨Int.emod_nonneg _ (by omega),Int.emod_lt_of_pos _ (by omega)⟩
def bk (s:Int×Int):Int×Int:=(s.1,1-s.2)
def IsStep (ties:List T4I) (s:Int×Int):Prop:=0≤s.1∧s.1<ties.length∧(s.2=0∨s.2=1)
end PM
namespace G
open PySem L2
namespace M
variable {α β γ σ ρ:Type}
theorem sat_loop {c:σ→M Bool} {f:σ→M σ} {s0:σ} {R:σ→Prop} (I:σ→Prop) (mu:σ→Nat) (h0:I s0) (hc:∀ s,I s → ∃ b,c s = .ok b∧(b=true→sat (f s) fun s'=>I s'∧mu s'<mu s)∧(b=false→R s)):sat (loop c f s0) R:=by
 suffices ∀ n s,mu s≤n→I s→sat (loop c f s) R from this _ s0 (Nat.le_refl _) h0
 intro n
 induction n with
 | zero =>
  intro s hn hs
  obtain ⟨b,e,h1,h2⟩:=hc s hs
  rw [loop_eq,e]
  cases b with
  | true=>obtain ⟨s',_,_,hl⟩:=h1 rfl;omega
  | false=>exact ⟨s,rfl,h2 rfl⟩
 | succ n ih =>
  intro s hn hs
  obtain ⟨b,e,h1,h2⟩:=hc s hs
  rw [loop_eq,e]
  cases b with
  | true =>
   obtain ⟨s',e',hi,hl⟩:=h1 rfl
   simp only [Zab,if_true]
   rw [e']
   exact ih s' (by omega) hi
  | false=>exact ⟨s,rfl,h2 rfl⟩
theorem sat_val {m:M α} {x:α} (h:sat m (· = x)):m = .ok x:=by obtain ⟨y,e,rfl⟩:=h;exact e
end M
end G
namespace PM
open PySem L2 G
end PM
namespace G
open PySem L2
namespace M
variable {α β γ σ ρ:Type}
theorem Zep {f:Unit→α→M (Ct Unit ρ)} (p:α→Bool) (g:α→ρ) (h:∀ x,f () x=if p x then .ok (.rt (g x)) else .ok (.nx ())):∀ xs:List α,ZbA f () xs = .ok (match xs.find? p with | some x=>.rt (g x) | none=>.nx ())
 | []=>rfl
 | x::xs=>by
  simp only [ZbA]
  rw [h x]
  cases hp:p x with
  | true=>rw [if_pos rfl,List.find?_cons_of_pos hp];rfl
  | false=>rw [if_neg (by simp),List.find?_cons_of_neg (by simp [hp])];exact Zep p g h xs
end M
end G
namespace PM
open PySem L2 G
end PM
namespace PM
open PySem L2 G
theorem setIx_ok {α:Type} {xs:List α} {i:Int} {j:Nat} {y:α} (hi:i=j) (hj:j<xs.length):M.setIx xs (.ok i) (.ok y) = .ok (xs.set j y):=by
 unfold M.setIx
 simp only [M.Zab]
 have:ixN xs.length i=some j:=by
  subst hi
  unfold ixN
  rw [if_pos (by omega),if_pos (by omega)]
  simp
 rw [this]
end PM
namespace PM
open PySem L2 G
theorem rngL_nodup (lo:Int) (n:Nat):(rngL lo n).Nodup:=by
 unfold rngL
 exact List.pairwise_map.mpr (List.Pairwise.imp (fun h z=>h (by omega)) List.nodup_range)
theorem rangeL_ok {n:Int} (h0:0≤n) (h1:n≤100000):M.rangeL 0 n = .ok (rngL 0 n.toNat):=by
 unfold M.rangeL
 rw [M.Zah ⟨by decide,by decide,by omega,by omega,by omega⟩,Int.sub_zero]
theorem perm_erase {α:Type}:∀ (ys:List α) (k:Nat) (y:α),ys[k]? = some y→(y::ys.eraseIdx k).Perm ys
 | _::_,0,_,h=>by cases h;exact .refl _
 | y0::ys,k+1,y,h=>(List.Perm.swap y0 y (ys.eraseIdx k)).trans ((perm_erase ys k y h).cons y0)
theorem appendPop_at {α:Type} {xs ys:List α} {n:Int} {y:α} (h0:0≤n) (h1:n<100000000) (hy:ys[n.toNat]? = some y) (hl:xs.length≤100000):M.appendPop xs ys (.ok n) = .ok (xs++[y],ys.eraseIdx n.toNat):=by
 unfold M.appendPop
 simp only [M.Zab]
 rw [M.Zah h0,M.popAt_at h0 h1 hy]
 simp only [M.Zab]
 rw [M.ZbO hl]
 rfl
def flat (L:List (Int×Int)):List Int:=L.flatMap fun x=>[x.1,x.2]
structure GoodL (L:List (Int×Int)):Prop where
 pos:0<L.length
 most:L.length≤40
 pm:(flat L).Perm (rngL 0 (2*L.length))
theorem GoodL.nd {L:List (Int×Int)} (g:GoodL L):(flat L).Nodup:=(List.Perm.nodup_iff g.pm).mpr (rngL_nodup _ _)
end PM
namespace PM
open PySem L2 G
inductive OkU:Nat→PyData→Prop
 | none {n:Nat}:OkU (n+1) .none
 | bool {n:Nat} (b:Bool):OkU (n+1) (.bool b)
 | int {n:Nat} (i:Int):OkU (n+1) (.int i)
 | str {n:Nat} (s:Str):OkU (n+1) (.str s)
 | list {n:Nat} {ds:List PyData} (hl:ds.length≤100000) (h:∀ d∈ds,OkU n d):OkU (n+1) (.list ds)
 | tuple {n:Nat} {ds:List PyData} (hl:ds.length≤100000) (h:∀ d∈ds,OkU n d):OkU (n+1) (.tuple ds)
theorem same_items {ds:List PyData} {rec_:PyData→PyData→M Bool} (hl:ds.length≤100000) (h:∀ d∈ds,rec_ d d = .ok true) :
  (M.range (ds.length:Int)>>=fun l17=>M.ZbA (fun (_:Unit) x8=>((M.ix ds x8>>=fun t11=>M.ix ds x8>>=fun t12=>rec_ t11 t12)>>=fun t13=>M.ok (!t13))>>=fun b14=>if b14 then (M.ok false>>=fun r=>.ok (.rt r)) else M.ok (.nx ())) () l17>>=fun c16=>Ct.go c16 M.ok fun (_:Unit)=>M.ok true) = .ok true:=by
 rw [M.rangeN hl,M.Zab,M.Zeo _ fun z hz=>?_]
 ·rfl
 ·obtain ⟨h0,h1⟩:=Zdt.mp hz
  obtain ⟨d,hd,e⟩:=M.Zeb (xs:=ds) (i:=z) h0 (by omega)
  rw [e]
  simp only [M.Zab]
  rw [h d (List.mem_of_getElem? hd)]
  rfl
theorem same_refl {n:Nat} {e:PyData} (h:OkU n e):ZaY n e e = .ok true:=by
 induction h with
 | none=>rfl
 | @bool n b =>
  show Zbh _ _ _=_
  unfold Zbh
  simp only [Zcd,isU,tyU,isTy]
  rw [M.Zah (by simp [PyData.depth])]
  simp [PyData.eqv]
 | @int n i =>
  show Zbh _ _ _=_
  unfold Zbh
  simp only [Zcd,isU,tyU,isTy]
  rw [M.Zah (by simp [PyData.depth])]
  simp [PyData.eqv]
 | @str n s =>
  show Zbh _ _ _=_
  unfold Zbh
  simp only [Zcd,isU,tyU,isTy]
  rw [M.Zah (by simp [PyData.depth])]
  simp [PyData.eqv]
 | @list n ds hl _ ih =>
  show Zbh (ZaY n) _ _=_
  have:=same_items hl ih
  unfold Zbh
  simp only [Zcd,isU,tyU,isTy,Zat]
  simpa using this
 | @tuple n ds hl _ ih =>
  show Zbh (ZaY n) _ _=_
  have:=same_items hl ih
  unfold Zbh
  simp only [Zcd,isU,tyU,isTy,Zat]
  simpa using this
end PM
namespace PM
open PySem L2 G
theorem Zez {σ α ρ:Type} {f:σ→α→M (Ct σ ρ)} {s:σ} {x:α} {xs:List α}:M.ZbA f s (x::xs)=(f s x>>=fun c=>match c with | .nx s'=>M.ZbA f s' xs | c=>M.ok c):=rfl
theorem Zch {σ α:Type} {f:σ→α→M σ} {s:σ} {x:α} {xs:List α}:M.fold f s (x::xs)=(f s x>>=fun s'=>M.fold f s' xs):=rfl
variable {ties:List T4I} {s:Int×Int}
theorem insert_ok {α:Type} {xs:List α} {n:Int} {y:α} (h0:0≤n) (h1:n≤100000) (hl:xs.length≤100000):M.insert xs (.ok n) (.ok y) = .ok (xs.take n.toNat++[y]++xs.drop n.toNat):=by
 unfold M.insert
 simp only [M.Zab]
 exact M.Zah ⟨ZcQ hl,h0,by omega⟩
theorem Zda {d:List Int} {at_:Int} {steps:List (Int×Int)} {many:Int} (hl:steps.length≤1000):M.sat (Zem d at_ steps many) fun r=>r.length≤steps.length+1:=by
 unfold Zem
 simp only [M.Zab,ZdB]
 refine M.Zdm (fun _=>M.Zbb (by simp)) fun hb=>?_
 have hne:1≤steps.length:=by
  have:¬ ((steps.length:Int)=0):=by simpa using hb
  omega
 have hp:=ZaU (d:=d) (k:=at_+1) (m:=(steps.length:Int)) (by omega)
 generalize pick d (at_+1) (steps.length:Int)=k at hp
 generalize pick d at_ 6=deed
 obtain ⟨st,hst,e⟩:=M.Zeb (xs:=steps) hp.1 hp.2
 rw [e]
 simp only [M.Zab]
 have hk:k=(k.toNat:Int):=by omega
 have menu3:∀ j:Int,∃ z,M.ix ([-1,many,many+7]:List Int) (pick d j 3) = .ok z:=fun j=>by
  have hr:=ZaU (d:=d) (k:=j) (m:=3) (by omega)
  obtain ⟨x,_,e⟩:=M.Zeb (xs:=([-1,many,many+7]:List Int)) hr.1 (by simpa using hr.2)
  exact ⟨x,e⟩
 have menu2:∀ j:Int,∃ z,M.ix ([-1,2]:List Int) (pick d j 2) = .ok z:=fun j=>by
  have hr:=ZaU (d:=d) (k:=j) (m:=2) (by omega)
  obtain ⟨x,_,e⟩:=M.Zeb (xs:=([-1,2]:List Int)) hr.1 (by simpa using hr.2)
  exact ⟨x,e⟩
 by_cases h0:deed=0
 ·subst h0
  simp only [decide_true,if_true]
  rw [M.popAt_at hp.1 (by omega) hst]
  simp only [M.Zab]
  iterate 5 rw [if_neg (by decide),M.Zab]
  exact M.Zbb (by rw [List.length_eraseIdx];split<;>omega)
 rw [if_neg (by simpa using h0),M.Zab]
 by_cases h1:deed=1
 ·subst h1
  simp only [decide_true,if_true]
  rw [e,insert_ok hp.1 (by omega) (by omega)]
  simp only [M.Zab]
  iterate 4 rw [if_neg (by decide),M.Zab]
  exact M.Zbb (by simp;omega)
 rw [if_neg (by simpa using h1),M.Zab]
 have key:∀ y,M.setIx steps (.ok k) (.ok y) = .ok (steps.set k.toNat y):=fun y=>setIx_ok hk (by omega)
 by_cases h2:deed=2
 ·subst h2
  simp only [decide_true,if_true]
  rw [key]
  simp only [M.Zab]
  iterate 3 rw [if_neg (by decide),M.Zab]
  exact M.Zbb (by simp)
 rw [if_neg (by simpa using h2),M.Zab]
 by_cases h3:deed=3
 ·subst h3
  simp only [decide_true,if_true]
  rw [key]
  simp only [M.Zab]
  iterate 2 rw [if_neg (by decide),M.Zab]
  exact M.Zbb (by simp)
 rw [if_neg (by simpa using h3),M.Zab]
 by_cases h4:deed=4
 ·subst h4
  obtain ⟨z,ez⟩:=menu3 (at_+2)
  simp only [decide_true,if_true]
  rw [ez]
  simp only [M.Zab]
  rw [key]
  simp only [M.Zab]
  rw [if_neg (by decide),M.Zab]
  exact M.Zbb (by simp)
 rw [if_neg (by simpa using h4),M.Zab]
 by_cases h5:deed=5
 ·subst h5
  obtain ⟨z,ez⟩:=menu2 (at_+2)
  simp only [decide_true,if_true]
  rw [ez]
  simp only [M.Zab]
  rw [key]
  exact M.Zbb (by simp)
 rw [if_neg (by simpa using h5),M.Zab]
 exact M.Zbb (by omega)
instance decIsStep {ties:List T4I} {s:Int×Int}:Decidable (IsStep ties s):=by unfold IsStep;infer_instance
theorem okI {n:Nat} (i:Int):OkU (n+1) (UD.toU i):=.int i
theorem okSU {n:Nat} {s:PySem.Str} {e:PyData} (h:OkU (n+1) e):OkU (n+2) (.tuple [.str s,e]):=  .tuple (by simp) fun d hd=>by
 rcases List.mem_cons.mp hd with rfl | hd
 ·exact .str _
 ·rw [List.mem_singleton] at hd;subst hd;exact h
theorem ix_last {α:Type} (xs:List α) (y:α):M.ix (xs++[y]) (-(1:Int)) = .ok y:=by
 unfold M.ix
 have:atI (xs++[y]) (-(1:Int))=some y:=by
  unfold atI ixN
  have h1:(1:Int)≤(xs.length:Int)+1:=by omega
  simp only [List.length_append,List.length_singleton]
  have h2:((-(1:Int))+((xs.length+1:Nat):Int)).toNat=xs.length:=by omega
  simp [h1]
  rw [show (-1+((xs.length:Int)+1)).toNat=xs.length by omega]
  simp
 rw [this]
 rfl
end PM
namespace PM
open PySem L2 G
theorem rngL_cons' (lo:Int) (n:Nat):rngL lo (n+1)=lo::rngL (lo+1) n:=by
 unfold rngL
 rw [List.range_succ_eq_map,List.map_cons,List.map_map]
 congr 1
 ·simp
 ·refine List.map_congr_left fun i _=>?_
  simp only [Function.comp]
  omega
theorem cutD {α:Type} (xs:List α) (k:Nat):cutL xs (some (k:Int)) none=xs.drop k:=by
 unfold cutL
 rw [HT.sIx_nat,HT.sIx_none]
 by_cases h:k≤xs.length
 ·rw [Nat.min_eq_left h,List.take_of_length_le (by simp)]
 ·rw [Nat.min_eq_right (by omega),List.drop_eq_nil_of_le (Nat.le_refl _),List.drop_eq_nil_of_le (by omega)]
  simp
theorem cutT {α:Type} (xs:List α) (k:Nat):cutL xs none (some (k:Int))=xs.take k:=by
 unfold cutL
 rw [HT.sIx_nat,HT.sIx_none,List.drop_zero,Nat.sub_zero]
 by_cases h:k≤xs.length
 ·rw [Nat.min_eq_left h]
 ·rw [Nat.min_eq_right (by omega),List.take_of_length_le (Nat.le_refl _),List.take_of_length_le (by omega)]
inductive OutC where
 | step (k:Nat)
 | again (k:Nat)
 | places (ps:List Int)
def OutC.px:OutC→PX
 | .step k=>⟨.BadStep,some [("step",.int (k:Int))]⟩
 | .again k=>⟨.Repeated,some [("step",.int (k:Int))]⟩
 | .places _=>⟨.BadStep,none⟩
section
variable {sides:List Int} {ties:List T4I}
def NF (steps r:List (Int×Int)):Prop:=∃ low h t,(steps.map Prod.fst).Nodup∧(∀ s∈steps,low≤s.1)∧(steps=h++(low,0)::t∨((low,(0:Int))∉steps∧steps.reverse.map bk=h++(low,0)::t))∧r=(low,0)::(t++h)
theorem NF.len {ss r:List (Int×Int)} (n:NF ss r):r.length=ss.length:=by
 obtain ⟨low,h,t,n1,n2,n3,rfl⟩:=n
 rcases n3 with e | ⟨e0,e⟩
 ·rw [e];simp;omega
 ·have:ss.length=(ss.reverse.map bk).length:=by simp
  rw [this,e];simp;omega
end
end PM
namespace PM
open PySem L2 G
structure Few (s:IS):Prop where
 nd:s.l.Nodup
 rg:∀ y∈s.l,0≤y∧y<4
theorem Few.len {s:IS} (h:Few s):s.l.length≤4:=by
 have:=len_le (pts:=rngL 0 4) h.nd fun y hy=>Zdt.mpr (by have:=h.rg y hy;omega)
 rw [Zds] at this
 exact this
def memU (ties:List T4I) (p v:Int):Prop:=∃ x∈ties,(x.a=p∧x.b=v)∨(x.c=p∧x.d=v)
def IsJoint (ties:List T4I) (p:Int):Prop:=∃ v w,v≠w∧memU ties p v∧memU ties p w
noncomputable instance decJoint {ties:List T4I} {p:Int}:Decidable (IsJoint ties p):=Classical.propDecidable _
end PM
namespace KP
open PySem L2 G PM
inductive Sh where
 | letter (n:PySem.Str) (b:Bool)
 | node (w:Bool) (l r:Sh)
 deriving DecidableEq
namespace Sh
def wd (w:Bool):PySem.Str:=if w then "both" else "together"
def toD:Sh→PyData
 | letter n b=>.tuple [.str "letter",.str n,.bool b]
 | node w l r=>.tuple [.str (wd w),l.toD,r.toD]
def lets:Sh→List (PySem.Str×Bool)
 | letter n b=>[(n,b)]
 | node _ l r=>l.lets++r.lets
def hs:Sh→Nat
 | letter _ _=>1
 | node _ l r=>max l.hs r.hs+1
theorem lets_pos:∀ s:Sh,1≤s.lets.length
 | letter n b=>Nat.le_refl _
 | node w l r=>by
  have:=lets_pos l
  simp only [lets,List.length_append]
  omega
theorem hs_le:∀ s:Sh,s.hs≤s.lets.length
 | letter n b=>Nat.le_refl _
 | node w l r=>by
  have h1:=hs_le l
  have h2:=hs_le r
  have p1:=lets_pos l
  have p2:=lets_pos r
  simp only [hs,lets,List.length_append]
  omega
theorem hs_pos:∀ s:Sh,1≤s.hs
 | letter n b=>Nat.le_refl _
 | node w l r=>by
  simp only [hs]
  omega
theorem nol:∀ s:Sh,noL s.toD=true
 | letter n b=>rfl
 | node w l r=>by
  simp only [toD,noL,noLs,nol l,nol r,Bool.and_self]
end Sh
theorem ouV (s:Sh) : @OU.ofU PyData dUI _ s.toD=some s.toD:=by
 show (if noL s.toD then some s.toD else none)=_
 rw [s.nol]
 rfl
theorem ix0 (a b c:PyData):M.ix [a,b,c] (0:Int) = .ok a:=rfl
theorem ix1 (a b c:PyData):M.ix [a,b,c] (1:Int) = .ok b:=rfl
theorem ix2 (a b c:PyData):M.ix [a,b,c] (2:Int) = .ok c:=rfl
theorem ouS (n:PySem.Str):OU.ofU (α:=PySem.Str) (.str n)=some n:=rfl
theorem wt (w:Bool):decide (Sh.wd w=("together" : PySem.Str)) = !w:=by cases w<;>decide
theorem popL_map (ss:List Sh) (x:Sh):M.popL ((ss++[x]).map Sh.toD) = .ok (ss.map Sh.toD,x.toD):=by
 unfold M.popL
 simp
def az:PySem.Str:="abcdefghijklmnopqrstuvwxyz"
def okC (c:Nat):Bool:=decide (c∈az.cps.toList)
def okN (n:PySem.Str):Bool:=(decide (0<n.length)&&decide (n.length≤8))&&n.cps.toList.all okC
def okX (x:PySem.Str):Bool:=match x.cps.toList with | [c]=>okC c | _=>false
theorem signs_okX (n:PySem.Str):(signs n).map okX=n.cps.toList.map okC:=by
 unfold signs
 rw [List.map_map]
 rfl
theorem inSg_ok {n x:PySem.Str} (h:x∈signs n):M.inSg x az = .ok (okX x):=by
 unfold signs at h
 obtain ⟨c,_,rfl⟩:=List.mem_map.mp h
 rfl
theorem niSg_ok {n x:PySem.Str} (h:x∈signs n):M.niSg x az = .ok (!okX x):=by
 unfold signs at h
 obtain ⟨c,_,rfl⟩:=List.mem_map.mp h
 rfl
theorem okN_len {n:PySem.Str} (h:okN n=true):n.length≤8:=by
 unfold okN at h
 rw [Bool.and_eq_true,Bool.and_eq_true,decide_eq_true_eq,decide_eq_true_eq] at h
 exact h.1.2
structure Sm (s:Sh):Prop where
 len:s.lets.length≤1000
 nm:∀ x∈s.lets,x.1.length≤1000
structure Gd (s:Sh):Prop where
 len:s.lets.length≤40
 nm:∀ x∈s.lets,okN x.1=true
theorem Gd.sm {s:Sh} (g:Gd s):Sm s:=⟨by have:=g.len;omega,fun x hx=>by have:=okN_len (g.nm x hx);omega⟩
theorem Gd.hs {s:Sh} (g:Gd s):s.hs≤40:=Nat.le_trans s.hs_le g.len
theorem Gd.node {a b:Sh} (g:Gd a) (g2:Gd b) (w:Bool) (h:a.lets.length+b.lets.length≤40):Gd (.node w a b):=by
 refine ⟨by show (a.lets++b.lets).length≤_;rw [List.length_append];exact h,fun x hx=>?_⟩
 rcases List.mem_append.mp hx with hx | hx
 ·exact g.nm x hx
 ·exact g2.nm x hx
theorem Zep {α ρ:Type} {f:Unit→α→M (Ct Unit ρ)} (g:α→Option ρ):∀ {xs:List α},(∀ x∈xs,f () x=match g x with | some r=>.ok (.rt r) | none=>.ok (.nx ()))→M.ZbA f () xs=match xs.findSome? g with | some r=>.ok (.rt r) | none=>.ok (.nx ())
 | [],_=>rfl
 | x::xs,h=>by
  have ih:=Zep g (xs:=xs) fun y hy=>h y (List.mem_cons_of_mem _ hy)
  show (f () x>>=_)=_
  rw [h x List.mem_cons_self,List.findSome?_cons]
  cases g x with
  | some r=>rfl
  | none=>exact ih
theorem catS_ok {a b:PySem.Str} (h:a.length+b.length≤1000):M.catS a b = .ok (a++b):=M.Zah (Nat.le_of_lt (ZcQ (by omega)))
theorem set_mid {α:Type}:∀ (A:List α) (x z:α) (B:List α),(A++x::B).set A.length z=A++z::B
 | [],_,_,_=>rfl
 | a::A,x,z,B=>by
  show a::(A++x::B).set A.length z=_
  rw [set_mid A x z B]
  rfl
end KP
namespace KP
open PySem L2 G PM
def st (l:List Nat):PySem.Str:=⟨l.toArray⟩
theorem Zer (l:List Nat):(st l).cps.toList=l:=rfl
theorem ZcV (l:List Nat):(st l).length=l.length:=by show l.toArray.size=_;simp
theorem st_of (z:PySem.Str):st z.cps.toList=z:=by
 obtain ⟨a⟩:=z
 show (⟨a.toList.toArray⟩:PySem.Str)=⟨a⟩
 simp
theorem st_cat (a b:List Nat):st a++st b=st (a++b):=by
 show (⟨a.toArray++b.toArray⟩:PySem.Str)=⟨(a++b).toArray⟩
 simp
theorem st_inj {a b:List Nat}:st a=st b↔a=b:=⟨fun h=>by
 have:=congrArg (fun z:PySem.Str=>z.cps.toList) h
 exact this,fun h=>h▸rfl⟩
theorem st_inj' {a b:List Nat}:(decide (st a=st b):Bool)=decide (a=b):=decide_eq_decide.mpr st_inj
inductive Rs where
 | bad
 | err (r:List Nat)
 | ok (s:Sh) (r:List Nat)
def rl (l:List Nat):Rs :=
 if l.takeWhile okC=[] then .err l else
 match l.dropWhile okC with
 | 39::r=>.ok (.letter (st (l.takeWhile okC)) false) r
 | r=>.ok (.letter (st (l.takeWhile okC)) true) r
def Rs.on (x:Rs) (k:Sh→List Nat→Rs):Rs:=match x with | .bad=>.bad | .err r=>.err r | .ok s r=>k s r
def ex (c:Nat) (l:List Nat) (k:List Nat→Rs):Rs:=match l with | []=>.err [] | d::l'=>if d=c then k l' else .err (d::l')
def wx (l:List Nat) (k:Bool→List Nat→Rs):Rs:=match l with | []=>.err [] | d::l'=>if d=38 then k true l' else if d=124 then k false l' else .err (d::l')
def rd:Nat→List Nat→Rs
 | 0,_=>.bad
 | f+1,l=>if l.head? = some 40 then
  (rd f l.tail).on fun a l2=>ex 32 l2 fun l3=>wx l3 fun w l4=>ex 32 l4 fun l5=>(rd f l5).on fun b l6=>ex 41 l6 fun l7=>.ok (.node w a b) l7
  else rl l
inductive Qs where
 | kind | name | done | word | gap
 deriving DecidableEq
def clo (c:Nat):List Bool→Option (Qs×List Bool)
 | false::s=>if c=32 then some (.word,false::s) else none
 | true::s=>if c=41 then some (.done,s) else none
 | []=>none
def stq (c:Nat) (s:List Bool):Qs→Option (Qs×List Bool)
 | .kind=>if c=40 then some (.kind,false::s) else if okC c then some (.name,s) else none
 | .name=>if okC c then some (.name,s) else if c=39 then some (.done,s) else clo c s
 | .done=>clo c s
 | .word=>if c=38∨c=124 then some (.gap,s) else none
 | .gap=>if c=32 then match s with | _::s=>some (.kind,true::s) | []=>none else none
def run:Qs→List Bool→List Nat→List Nat ⊕ (Qs×List Bool)
 | q,s,[]=>.inr (q,s)
 | q,s,c::l=>match stq c s q with
  | none=>.inl (c::l)
  | some (q',s')=>run q' s' l
def fin:List Nat ⊕ (Qs×List Bool)→Option (List Nat)
 | .inl r=>some r
 | .inr (q,s)=>if (q = .name∨q = .done)∧s=[] then none else some []
def Aft (q:Qs) (r:List Nat):Prop:=q = .done∨(q = .name ∧ ∀ c l,r=c::l→okC c=false∧c≠39)
theorem aft_stq {q:Qs} {c:Nat} {l:List Nat} (h:Aft q (c::l)) (s:List Bool):stq c s q=clo c s:=by
 rcases h with rfl | ⟨rfl,h⟩
 ·rfl
 ·obtain ⟨h1,h2⟩:=h c l rfl
  show (if okC c=true then _ else _)=_
  rw [if_neg (by rw [h1];decide),if_neg h2]
theorem aft_nil {q:Qs} {b:Bool} {s:List Bool}:fin (run q (b::s) [])=some []:=by
 show (if _∧(b::s)=[] then none else some [])=_
 rw [if_neg (by simp)]
theorem run_names:∀ {n:List Nat} (s:List Bool) (r:List Nat),(∀ c∈n,okC c=true)→run .name s (n++r)=run .name s r
 | [],_,_,_=>rfl
 | c::n,s,r,h=>by
  show (match stq c s .name with | none=>_ | some (q',s')=>run q' s' (n++r))=_
  rw [show stq c s .name=some (.name,s) from if_pos (h c List.mem_cons_self)]
  exact run_names s r fun c hc=>h c (List.mem_cons_of_mem _ hc)
theorem ok40:okC 40=false:=by decide
theorem ok32:okC 32=false:=by decide
theorem ok41:okC 41=false:=by decide
theorem tw_ok (l:List Nat):∀ c∈l.takeWhile okC,okC c=true:=fun c hc=>by
 have:=List.all_takeWhile (l:=l) (p:=okC)
 exact List.all_eq_true.mp this c hc
theorem dw_hd {l:List Nat} {c:Nat} {r:List Nat} (h:l.dropWhile okC=c::r):okC c=false:=by
 have:=List.head?_dropWhile_not okC l
 rw [h] at this
 simpa using this
def Says (R:List Nat ⊕ (Qs×List Bool)) (s:List Bool):Rs→Prop
 | .bad=>True
 | .err r=>fin R=some r
 | .ok _ r=>∃ q,Aft q r∧R=run q s r
theorem says_rl {l:List Nat} (h:l.head? ≠ some 40) (s:List Bool):Says (run .kind s l) s (rl l):=by
 unfold rl
 by_cases hn:l.takeWhile okC=[]
 ·rw [if_pos hn]
  cases l with
  | nil=>rfl
  | cons c l =>
   have h1:c≠40:=fun e=>h (e▸rfl)
   have h2:okC c=false:=by
    rw [List.takeWhile_cons] at hn
    by_cases hc:okC c=true
    ·rw [if_pos hc] at hn;cases hn
    ·simpa using hc
   show fin (match stq c s .kind with | none=>_ | some (q',s')=>_)=_
   rw [show stq c s .kind=none by show (if c=40 then _ else _)=_;rw [if_neg h1,if_neg (by rw [h2];decide)]]
   rfl
 ·rw [if_neg hn]
  have e:run .kind s l=run .name s (l.dropWhile okC):=by
   conv=>lhs;rw [← List.takeWhile_append_dropWhile (p:=okC) (l:=l)]
   have ht:=tw_ok l
   cases ht2:l.takeWhile okC with
   | nil=>exact absurd ht2 hn
   | cons c n =>
    rw [ht2] at ht
    show (match stq c s .kind with | none=>_ | some (q',s')=>run q' s' (n++_))=_
    have hc:=ht c List.mem_cons_self
    rw [show stq c s .kind=some (.name,s) by
     show (if c=40 then _ else _)=_
     rw [if_neg (fun e=>by rw [e,ok40] at hc;cases hc),if_pos hc]]
    exact run_names s _ fun c hc=>ht c (List.mem_cons_of_mem _ hc)
  split
  ·next r he =>
   refine ⟨.done,.inl rfl,?_⟩
   rw [e,he]
   rfl
  ·next r hne =>
   refine ⟨.name,.inr ⟨rfl,fun c l2 hr=>?_⟩,e⟩
   exact ⟨dw_hd hr,fun h39=>hne l2 (h39▸hr)⟩
theorem ZdQ {q q' : Qs} {s s' : List Bool} {c:Nat} {l:List Nat} (h:stq c s q=some (q',s')):run q s (c::l)=run q' s' l:=by
 show (match stq c s q with | none=>_ | some (q',s')=>run q' s' l)=_
 rw [h]
theorem ZdA {q:Qs} {s:List Bool} {c:Nat} {l:List Nat} (h:stq c s q=none):fin (run q s (c::l))=some (c::l):=by
 show fin (match stq c s q with | none=>_ | some (q',s')=>run q' s' l)=_
 rw [h]
 rfl
theorem says_on {R:List Nat ⊕ (Qs×List Bool)} {s s2:List Bool} {x:Rs} {k:Sh→List Nat→Rs} (h:Says R s x) (h2:∀ a q r,Aft q r→Says (run q s r) s2 (k a r)):Says R s2 (x.on k):=by
 cases x with
 | bad=>trivial
 | err r=>exact h
 | ok a r =>
  obtain ⟨q,ha,e⟩:=h
  show Says R s2 (k a r)
  rw [e]
  exact h2 a q r ha
theorem says_ex {q q1:Qs} {s s1 s2:List Bool} {c:Nat} {l:List Nat} {k:List Nat→Rs} (h:∀ d l',l=d::l'→stq d s q=if d=c then some (q1,s1) else none) (h0:fin (run q s [])=some []) (h2:∀ l',Says (run q1 s1 l') s2 (k l')):Says (run q s l) s2 (ex c l k):=by
 cases l with
 | nil=>exact h0
 | cons d l =>
  have e:=h d l rfl
  show Says _ _ (if d=c then k l else .err (d::l))
  by_cases hd:d=c
  ·rw [if_pos hd] at e ⊢
   rw [ZdQ e]
   exact h2 l
  ·rw [if_neg hd] at e ⊢
   exact ZdA e
theorem says_wx {s s2:List Bool} {l:List Nat} {k:Bool→List Nat→Rs} (h2:∀ w l',Says (run .gap s l') s2 (k w l')):Says (run .word s l) s2 (wx l k):=by
 cases l with
 | nil =>
  show (if (Qs.word = .name∨Qs.word = .done)∧s=[] then none else some [])=_
  rw [if_neg (by rintro ⟨h | h,_⟩<;>cases h)]
 | cons d l =>
  show Says _ _ (if d=38 then k true l else if d=124 then k false l else .err (d::l))
  by_cases hd:d=38
  ·rw [if_pos hd,ZdQ (show stq d s .word=some (.gap,s) from if_pos (.inl hd))]
   exact h2 _ l
  ·rw [if_neg hd]
   by_cases hd2:d=124
   ·rw [if_pos hd2,ZdQ (show stq d s .word=some (.gap,s) from if_pos (.inr hd2))]
    exact h2 _ l
   ·rw [if_neg hd2]
    exact ZdA (show stq d s .word=none from if_neg (by rintro (h | h)<;>contradiction))
theorem rd_says:∀ (f:Nat) (l:List Nat) (s:List Bool),Says (run .kind s l) s (rd f l)
 | 0,_,_=>trivial
 | f+1,l,s=>by
  unfold rd
  by_cases hl:l.head? = some 40
  ·rw [if_pos hl]
   obtain ⟨l1,rfl⟩:∃ l1,l=40::l1:=by
    cases l with
    | nil=>cases hl
    | cons c l=>cases hl;exact ⟨l,rfl⟩
   rw [ZdQ (q':=.kind) (s':=false::s) rfl]
   refine says_on (rd_says f l1 (false::s)) fun a q r ha=>says_ex (q1:=.word) (s1:=false::s) (fun d l' e=>?_) aft_nil fun l3=>says_wx fun w l4=>says_ex (q1:=.kind) (s1:=true::s) (fun d l' e=>?_) aft_nil fun l5=>says_on (rd_says f l5 (true::s)) fun b q2 r2 ha2=>says_ex (q1:=.done) (s1:=s) (fun d l' e=>?_) aft_nil fun l7=>⟨.done,.inl rfl,rfl⟩
   ·subst e
    exact aft_stq ha _
   ·rfl
   ·subst e
    exact aft_stq ha2 _
  ·rw [if_neg hl]
   exact says_rl hl s
theorem rd_fin {f:Nat} {l:List Nat}:match rd f l with | .bad=>True | .err r=>fin (run .kind [] l)=some r | .ok _ r=>fin (run .kind [] l)=if r=[] then none else some r:=by
 have h:=rd_says f l []
 cases e:rd f l with
 | bad=>trivial
 | err r=>rw [e] at h;exact h
 | ok s r =>
  rw [e] at h
  obtain ⟨q,ha,e2⟩:=h
  show fin (run .kind [] l)=_
  rw [e2]
  cases r with
  | nil =>
   rw [if_pos rfl]
   show (if _∧([]:List Bool)=[] then none else some [])=none
   rw [if_pos ⟨ha.symm.imp (fun h=>h.1) id,rfl⟩]
  | cons c r =>
   rw [if_neg (by simp),ZdA (aft_stq ha [])]
def wr:Sh→List Nat
 | .letter n b=>n.cps.toList++if b then [] else [39]
 | .node w a b=>40::(wr a++(32::(if w then 38 else 124)::32::(wr b++[41])))
def Nm (s:Sh):Prop:=∀ x∈s.lets,x.1.cps.toList≠[] ∧ ∀ c∈x.1.cps.toList,okC c=true
theorem on_ok {x:Rs} {k:Sh→List Nat→Rs} {s:Sh} {r:List Nat} (h:x.on k = .ok s r):∃ a l2,x = .ok a l2∧k a l2 = .ok s r:=by
 cases x with
 | bad=>cases h
 | err r=>cases h
 | ok a l2=>exact ⟨a,l2,rfl,h⟩
theorem ex_ok {c:Nat} {l:List Nat} {k:List Nat→Rs} {s:Sh} {r:List Nat} (h:ex c l k = .ok s r):∃ l',l=c::l'∧k l' = .ok s r:=by
 cases l with
 | nil=>cases h
 | cons d l =>
  have h:(if d=c then k l else .err (d::l)) = .ok s r:=h
  by_cases hd:d=c
  ·rw [if_pos hd] at h
   exact ⟨l,by rw [hd],h⟩
  ·rw [if_neg hd] at h;cases h
theorem wx_ok {l:List Nat} {k:Bool→List Nat→Rs} {s:Sh} {r:List Nat} (h:wx l k = .ok s r):∃ w l',l=(if w then 38 else 124)::l'∧k w l' = .ok s r:=by
 cases l with
 | nil=>cases h
 | cons d l =>
  have h:(if d=38 then k true l else if d=124 then k false l else .err (d::l)) = .ok s r:=h
  by_cases hd:d=38
  ·rw [if_pos hd] at h
   exact ⟨true,l,by rw [hd];rfl,h⟩
  ·rw [if_neg hd] at h
   by_cases hd2:d=124
   ·rw [if_pos hd2] at h
    exact ⟨false,l,by rw [hd2];rfl,h⟩
   ·rw [if_neg hd2] at h;cases h
theorem rl_ok {l r:List Nat} {s:Sh} (h:rl l = .ok s r):l=wr s++r∧Nm s∧s.hs=1:=by
 unfold rl at h
 by_cases hn:l.takeWhile okC=[]
 ·rw [if_pos hn] at h;cases h
 ·rw [if_neg hn] at h
  have hN:∀ b,Nm (.letter (st (l.takeWhile okC)) b):=fun b x hx=>by
   have hx:x∈[(st (l.takeWhile okC),b)]:=hx
   rw [List.mem_singleton] at hx
   subst hx
   exact ⟨hn,tw_ok l⟩
  have hl:=List.takeWhile_append_dropWhile (p:=okC) (l:=l)
  split at h
  ·next r' he =>
   cases h
   refine ⟨?_,hN _,rfl⟩
   show l=(l.takeWhile okC++[39])++r
   rw [List.append_assoc,List.singleton_append,← he,hl]
  ·next r' hne =>
   cases h
   refine ⟨?_,hN _,rfl⟩
   show l=(l.takeWhile okC++[])++l.dropWhile okC
   rw [List.append_nil,hl]
theorem rd_ok:∀ {f:Nat} {l r:List Nat} {s:Sh},rd f l = .ok s r→l=wr s++r∧Nm s∧s.hs≤f
 | 0,_,_,_,h=>by cases h
 | f+1,l,r,s,h=>by
  unfold rd at h
  by_cases hl:l.head? = some 40
  ·rw [if_pos hl] at h
   obtain ⟨l1,rfl⟩:∃ l1,l=40::l1:=by
    cases l with
    | nil=>cases hl
    | cons c l=>cases hl;exact ⟨l,rfl⟩
   obtain ⟨a,l2,h1,g1⟩:=on_ok h
   obtain ⟨l3,rfl,g2⟩:=ex_ok g1
   obtain ⟨w,l4,rfl,g3⟩:=wx_ok g2
   obtain ⟨l5,rfl,g4⟩:=ex_ok g3
   obtain ⟨b,l6,h2,g5⟩:=on_ok g4
   obtain ⟨l7,rfl,g6⟩:=ex_ok g5
   cases g6
   obtain ⟨e1,n1,g1⟩:=rd_ok h1
   obtain ⟨e2,n2,g2⟩:=rd_ok h2
   have e1:l1=_:=e1
   refine ⟨?_,fun x hx=>?_,?_⟩
   ·rw [e1,e2]
    show _=(40::(wr a++(32::_::32::(wr b++[41]))))++r
    simp
   ·rcases List.mem_append.mp hx with hx | hx
    ·exact n1 x hx
    ·exact n2 x hx
   ·show max a.hs b.hs+1≤f+1
    omega
  ·rw [if_neg hl] at h
   obtain ⟨e,n,g⟩:=rl_ok h
   exact ⟨e,n,by omega⟩
theorem on_nb {x:Rs} {k:Sh→List Nat→Rs} (h:x ≠ .bad) (h2:∀ a r,x = .ok a r→k a r ≠ .bad):x.on k ≠ .bad:=by
 cases x with
 | bad=>exact absurd rfl h
 | err r=>exact fun z=>nomatch z
 | ok a r=>exact h2 a r rfl
theorem ex_nb {c:Nat} {l:List Nat} {k:List Nat→Rs} (h:∀ l',l=c::l'→k l' ≠ .bad):ex c l k ≠ .bad:=by
 cases l with
 | nil=>exact fun z=>nomatch z
 | cons d l =>
  show (if d=c then k l else .err (d::l))≠_
  by_cases hd:d=c
  ·rw [if_pos hd];exact h l (hd▸rfl)
  ·rw [if_neg hd];exact fun z=>nomatch z
theorem wx_nb {l:List Nat} {k:Bool→List Nat→Rs} (h:∀ w l',l=(if w then 38 else 124)::l'→k w l' ≠ .bad):wx l k ≠ .bad:=by
 cases l with
 | nil=>exact fun z=>nomatch z
 | cons d l =>
  show (if d=38 then k true l else if d=124 then k false l else .err (d::l))≠_
  by_cases hd:d=38
  ·rw [if_pos hd];exact h true l (hd▸rfl)
  ·rw [if_neg hd]
   by_cases hd2:d=124
   ·rw [if_pos hd2];exact h false l (hd2▸rfl)
   ·rw [if_neg hd2];exact fun z=>nomatch z
theorem rd_nb:∀ {f:Nat} {l:List Nat},l.count 40<f→rd f l ≠ .bad
 | 0,_,h=>absurd h (Nat.not_lt_zero _)
 | f+1,l,h=>by
  unfold rd
  by_cases hl:l.head? = some 40
  ·rw [if_pos hl]
   obtain ⟨l1,rfl⟩:∃ l1,l=40::l1:=by
    cases l with
    | nil=>cases hl
    | cons c l=>cases hl;exact ⟨l,rfl⟩
   have hc:l1.count 40<f:=by rw [List.count_cons_self] at h;omega
   refine on_nb (rd_nb hc) fun a l2 e1=>ex_nb fun l3 e2=>wx_nb fun w l4 e3=>ex_nb fun l5 e4=>on_nb (rd_nb ?_) fun b l6 e5=>ex_nb fun l7 e6=>fun z=>nomatch z
   have hl2:l1=_:=(rd_ok e1).1
   rw [hl2,e2,e3,e4] at hc
   simp only [List.count_append,List.count_cons] at hc
   omega
  ·rw [if_neg hl]
   unfold rl
   by_cases hn:l.takeWhile okC=[]
   ·rw [if_pos hn];exact fun z=>nomatch z
   ·rw [if_neg hn]
    split<;>exact fun z=>nomatch z
theorem L40:("(" : PySem.Str)=st [40]:=by decide
theorem L41:(")" : PySem.Str)=st [41]:=by decide
theorem catT {a b:List Nat} (h:a.length+b.length≤1000):M.catS (st a) (st b) = .ok (st (a++b)):=by
 rw [catS_ok (by rw [ZcV,ZcV];exact h),st_cat]
theorem wr_len:∀ {s:Sh} {m:Nat},(∀ x∈s.lets,x.1.length≤m)→(wr s).length+5≤(m+6)*s.lets.length
 | .letter n b,m,h=>by
  have h1:n.length≤m:=h (n,b) (List.mem_singleton.mpr rfl)
  have h2:n.cps.toList.length=n.length:=Array.length_toList
  show (n.cps.toList++if b then [] else [39]).length+5≤(m+6)*1
  rw [List.length_append,h2]
  cases b<;>simp<;>omega
 | .node w a b,m,h=>by
  have h1:=wr_len (s:=a) (m:=m) fun x hx=>h x (List.mem_append_left _ hx)
  have h2:=wr_len (s:=b) (m:=m) fun x hx=>h x (List.mem_append_right _ hx)
  show (40::(wr a++(32::_::32::(wr b++[41])))).length+5≤(m+6)*(a.lets++b.lets).length
  rw [List.length_append,Nat.mul_add]
  simp only [List.length_cons,List.length_append,List.length_nil]
  omega
end KP
namespace K81
open PySem L2 G PM
def kn:XC→Bool:=fun c=>decide (c∈([.BadName,.BadSign,.BoundTwice,.NotUsed,.TooLarge,.UnknownName,.UsedTwice]:List XC))
noncomputable def Zbe (draws_here:(List Int)) (extra:(List Int)) (many:Int):M (List PySem.Str) :=
 ((Zbn draws_here (0:Int) (26:Int))>>=M.comp (fun _=>(M.ok true)) (fun x1=>(M.ixS ("abcdefghijklmnopqrstuvwxyz" : PySem.Str) x1)))>>=fun signs_2 =>
 ((((Zas extra (0:Int) (8:Int))>>=fun t3=>(M.range t3))>>=M.comp (fun _=>(M.ok true)) (fun x4=>((Zas extra ((2:Int)+x4) (8:Int))>>=fun t5=>(M.ixS ("etaoinsh" : PySem.Str) t5))))>>=fun t6=>(M.join ("" : PySem.Str) t6))>>=fun word_7 =>
 (((M.lenS word_7)>>=fun t9=>(M.ok (t9+(1:Int))))>>=fun t10=>(Zas extra (1:Int) t10))>>=fun place_11 =>
 (M.comp (fun _=>(M.ok true)) (fun x12=>(((M.slS word_7 none (some place_11))>>=fun t13=>(M.catS t13 x12))>>=fun t14=>((M.slS word_7 (some place_11) none)>>=fun t15=>(M.catS t14 t15)))) (cutL signs_2 none (some many)))>>=fun names_16 =>
 (((Zas extra (10:Int) (2:Int))>>=fun t17=>(M.ok (decide (t17=(1:Int)))))>>=fun b28=>if b28 then
 ((M.range many)>>=M.comp (fun _=>(M.ok true)) (fun x18=>((M.ix signs_2 x18)>>=fun t24=>((((((M.lenS word_7)>>=fun t20=>(M.ok (t20+(1:Int))))>>=fun t21=>(Zas extra ((11:Int)+x18) t21))>>=fun t22=>(M.ok (some t22)))>>=fun t23=>(M.slS word_7 none t23))>>=fun t25=>(M.catS t24 t25)))))>>=fun names_26 =>
  M.ok names_26
else
 M.ok names_16)>>=(fun s27:(List PySem.Str) =>
 M.ok s27)
noncomputable def ZbF (draws_here:(List Int)) (at_:Int) (names:(List PySem.Str)):M PyData :=
 (M.comp (fun _=>(M.ok true)) (fun x1=>(M.ok (⟨(PyData.tuple [(UD.toU ("name" : PySem.Str)),(UD.toU x1)]),[x1]⟩:(LP PyData (List PySem.Str))))) names)>>=fun pieces_2 =>
 (M.range ((3:Int)*(names.length:Int)))>>=fun l35 =>
 M.fold (fun (s3:(List (LP PyData (List PySem.Str)))) x4 =>
  (Zas draws_here ((at_+((3:Int)*x4))+(1:Int)) (s3.length:Int))>>=fun place_5 =>
   (M.ix s3 place_5)>>=fun t6 =>
   (((Zas draws_here (at_+((3:Int)*x4)) (3:Int))>>=fun t7=>(M.ok (decide (t7=(0:Int)))))>>=fun b8=>(if b8 then (M.ok (decide ((0:Int)<(t6.b.length:Int)))) else .ok false))>>=fun b19=>if b19 then
   ((Zas draws_here ((at_+((3:Int)*x4))+(2:Int)) (t6.b.length:Int))>>=fun t9=>(M.ix t6.b t9))>>=fun name_10 =>
    M.setIx s3 (M.ok place_5) ((M.comp (fun x11=>(M.ok (!decide (x11=name_10)))) (fun x11=>(M.ok x11)) t6.b)>>=fun t12=>(M.ok (⟨(PyData.tuple [(UD.toU ("fun" : PySem.Str)),(UD.toU name_10),t6.a]),t12⟩:(LP PyData (List PySem.Str)))))>>=fun pieces_13 =>
    M.ok pieces_13
  else
   if (decide ((1:Int)<(s3.length:Int))) then
    (M.popAt s3 (M.ok place_5))>>=fun p14 =>
     (Zas draws_here ((at_+((3:Int)*x4))+(2:Int)) (p14.1.length:Int))>>=fun place_15 =>
     (M.ix p14.1 place_15)>>=fun t16 =>
     M.setIx p14.1 (M.ok place_15) ((M.cat t6.b t16.b)>>=fun t17=>(M.ok (⟨(PyData.tuple [(UD.toU ("use" : PySem.Str)),t6.a,t16.a]),t17⟩:(LP PyData (List PySem.Str)))))>>=fun pieces_18 =>
     M.ok pieces_18
   else
    M.ok s3) pieces_2 l35>>=fun (s20:(List (LP PyData (List PySem.Str)))) =>
 (M.range (names.length:Int))>>=fun l34 =>
 M.fold (fun (s21:(List (LP PyData (List PySem.Str)))) x22 =>
  if (decide ((1:Int)<(s21.length:Int))) then
   (M.popAt s21 (M.ok (0:Int)))>>=fun p23 =>
    (M.ix p23.1 (0:Int))>>=fun t24 =>
    M.setIx p23.1 (M.ok (0:Int)) ((M.cat t24.b p23.2.b)>>=fun t25=>(M.ok (⟨(PyData.tuple [(UD.toU ("use" : PySem.Str)),t24.a,p23.2.a]),t25⟩:(LP PyData (List PySem.Str)))))>>=fun pieces_26 =>
    M.ok pieces_26
  else
   M.ok s21) s20 l34>>=fun (s27:(List (LP PyData (List PySem.Str)))) =>
 (M.ix s27 (0:Int))>>=fun t28 =>
 (M.ok t28.b)>>=fun l33 =>
 M.fold (fun (s29:PyData) x30 =>
  (M.ok (PyData.tuple [(UD.toU ("fun" : PySem.Str)),(UD.toU x30),s29]))>>=fun body_31 =>
   M.ok body_31) t28.a l33>>=fun (s32:PyData) =>
 (M.ok s32)
noncomputable def Zbu (rec_:PyData→M (List (PySem.Str×PySem.Str))) (program_here:PyData):M (List (PySem.Str×PySem.Str)) :=
 ((((M.ofO (Zat program_here)>>=fun ds=>M.ok (⟨ds⟩:Sq PyData))>>=fun t1=>(M.ix t1.l (0:Int)))>>=fun t2=>(M.ofO (OU.ofU (α:=PySem.Str) t2)))>>=fun t3=>(M.ok (decide (t3=("name" : PySem.Str)))))>>=fun b35=>if b35 then
 (((((M.ofO (Zat program_here)>>=fun ds=>M.ok (⟨ds⟩:Sq PyData))>>=fun t4=>(M.ix t4.l (1:Int)))>>=fun t5=>(M.ofO (OU.ofU (α:=PySem.Str) t5)))>>=fun t6=>(M.ok (("name" : PySem.Str),t6)))>>=fun t7=>(M.ok (t7::[])))
else
 ((((M.ofO (Zat program_here)>>=fun ds=>M.ok (⟨ds⟩:Sq PyData))>>=fun t8=>(M.ix t8.l (0:Int)))>>=fun t9=>(M.ofO (OU.ofU (α:=PySem.Str) t9)))>>=fun t10=>(M.ok (decide (t10=("fun" : PySem.Str)))))>>=fun b34=>if b34 then
  (((((((M.ofO (Zat program_here)>>=fun ds=>M.ok (⟨ds⟩:Sq PyData))>>=fun t11=>(M.ix t11.l (1:Int)))>>=fun t12=>(M.ofO (OU.ofU (α:=PySem.Str) t12)))>>=fun t13=>(M.ok (("bind" : PySem.Str),t13)))>>=fun t14=>(M.ok (t14::[])))>>=fun t18=>(((((M.ofO (Zat program_here)>>=fun ds=>M.ok (⟨ds⟩:Sq PyData))>>=fun t15=>(M.ix t15.l (2:Int)))>>=fun t16=>(M.ofO (@OU.ofU PyData dUI _ t16)))>>=fun t17=>(rec_ t17))>>=fun t19=>(M.cat t18 t19)))>>=fun t24=>((((((M.ofO (Zat program_here)>>=fun ds=>M.ok (⟨ds⟩:Sq PyData))>>=fun t20=>(M.ix t20.l (1:Int)))>>=fun t21=>(M.ofO (OU.ofU (α:=PySem.Str) t21)))>>=fun t22=>(M.ok (("end" : PySem.Str),t22)))>>=fun t23=>(M.ok (t23::[])))>>=fun t25=>(M.cat t24 t25)))
 else
  (((((M.ofO (Zat program_here)>>=fun ds=>M.ok (⟨ds⟩:Sq PyData))>>=fun t26=>(M.ix t26.l (1:Int)))>>=fun t27=>(M.ofO (@OU.ofU PyData dUI _ t27)))>>=fun t28=>(rec_ t28))>>=fun t32=>(((((M.ofO (Zat program_here)>>=fun ds=>M.ok (⟨ds⟩:Sq PyData))>>=fun t29=>(M.ix t29.l (2:Int)))>>=fun t30=>(M.ofO (@OU.ofU PyData dUI _ t30)))>>=fun t31=>(rec_ t31))>>=fun t33=>(M.cat t32 t33)))
noncomputable def ZbZ:Nat→PyData→M (List (PySem.Str×PySem.Str))
 | 0=>fun _=>.bad
 | fl+1=>Zbu (ZbZ fl)
noncomputable def Zbr (name:PySem.Str):M Bool :=
 (M.ok (signs name))>>=fun l9 =>
 M.ZbA (fun (_:Unit) x2 =>
  (M.niSg x2 ("abcdefghijklmnopqrstuvwxyz" : PySem.Str))>>=fun b3=>if b3 then
   (M.ok false)>>=fun r=>.ok (.rt r)
  else
   M.ok (.nx ())) () l9>>=fun c8=>Ct.go c8 M.ok fun (_:Unit) =>
 (((M.lenS name)>>=fun t5=>(M.ok (decide ((0:Int)<t5))))>>=fun b7=>(if b7 then ((M.lenS name)>>=fun t6=>(M.ok (decide (t6<(9:Int))))) else .ok false))
noncomputable def ZbG (program_here:PyData):M PyData :=
 (ZbZ 100 program_here)>>=fun events_here_1 =>
 (((M.comp (fun x2=>(M.ok (decide (x2.1=("bind" : PySem.Str))))) (fun x2=>(M.ok x2)) events_here_1)>>=fun t3=>(M.ok (t3.length:Int)))>>=fun t4=>(M.ok (decide ((12:Int)<t4))))>>=fun b23=>if b23 then
 (M.ok (UD.toU (("large" : PySem.Str),(12:Int))))
else
 (M.ok ([]:(List PySem.Str)))>>=fun bound_5 =>
  (M.ok ([]:(List PySem.Str)))>>=fun around_6 =>
  (M.ok ([]:(List PySem.Str)))>>=fun used_7 =>
  (M.ok events_here_1)>>=fun l22 =>
  M.ZbA (fun (s8:((List PySem.Str)×(List PySem.Str)×(List PySem.Str))) x9 =>
   ((Zbr x9.2)>>=fun t10=>(M.ok (!t10)))>>=fun b19=>if b19 then
    (M.ok (UD.toU (("bad" : PySem.Str),x9.2)))>>=fun r=>.ok (.rt r)
   else
    if (decide (x9.1=("bind" : PySem.Str))) then
     if (memB x9.2 s8.1) then
      (M.ok (UD.toU (("twice" : PySem.Str),x9.2)))>>=fun r=>.ok (.rt r)
     else
      M.push s8.1 (M.ok x9.2)>>=fun bound_11 =>
       M.push s8.2.1 (M.ok x9.2)>>=fun around_12 =>
       if (decide (x9.1=("name" : PySem.Str))) then
       if (!memB x9.2 around_12) then
        (M.ok (UD.toU (("unknown" : PySem.Str),x9.2)))>>=fun r=>.ok (.rt r)
       else
        if (memB x9.2 s8.2.2) then
         (M.ok (UD.toU (("used" : PySem.Str),x9.2)))>>=fun r=>.ok (.rt r)
        else
         M.push s8.2.2 (M.ok x9.2)>>=fun used_13 =>
          if (decide (x9.1=("end" : PySem.Str))) then
          (M.popL around_12)>>=fun p14 =>
           if (!memB x9.2 used_13) then
           (M.ok (UD.toU (("idle" : PySem.Str),x9.2)))>>=fun r=>.ok (.rt r)
          else
           M.ok (.nx (bound_11,p14.1,used_13))
         else
          M.ok (.nx (bound_11,around_12,used_13))
      else
       if (decide (x9.1=("end" : PySem.Str))) then
        (M.popL around_12)>>=fun p15 =>
         if (!memB x9.2 s8.2.2) then
         (M.ok (UD.toU (("idle" : PySem.Str),x9.2)))>>=fun r=>.ok (.rt r)
        else
         M.ok (.nx (bound_11,p15.1,s8.2.2))
       else
        M.ok (.nx (bound_11,around_12,s8.2.2))
    else
     if (decide (x9.1=("name" : PySem.Str))) then
      if (!memB x9.2 s8.2.1) then
       (M.ok (UD.toU (("unknown" : PySem.Str),x9.2)))>>=fun r=>.ok (.rt r)
      else
       if (memB x9.2 s8.2.2) then
        (M.ok (UD.toU (("used" : PySem.Str),x9.2)))>>=fun r=>.ok (.rt r)
       else
        M.push s8.2.2 (M.ok x9.2)>>=fun used_16 =>
         if (decide (x9.1=("end" : PySem.Str))) then
         (M.popL s8.2.1)>>=fun p17 =>
          if (!memB x9.2 used_16) then
          (M.ok (UD.toU (("idle" : PySem.Str),x9.2)))>>=fun r=>.ok (.rt r)
         else
          M.ok (.nx (s8.1,p17.1,used_16))
        else
         M.ok (.nx (s8.1,s8.2.1,used_16))
     else
      if (decide (x9.1=("end" : PySem.Str))) then
       (M.popL s8.2.1)>>=fun p18 =>
        if (!memB x9.2 s8.2.2) then
        (M.ok (UD.toU (("idle" : PySem.Str),x9.2)))>>=fun r=>.ok (.rt r)
       else
        M.ok (.nx (s8.1,p18.1,s8.2.2))
      else
       M.ok (.nx (s8.1,s8.2.1,s8.2.2))) (bound_5,around_6,used_7) l22>>=fun c21=>Ct.go c21 M.ok fun (s20:((List PySem.Str)×(List PySem.Str)×(List PySem.Str))) =>
  (M.ok (UD.toU ()))
noncomputable def Zbd (text:PySem.Str) (at_:Int):M Int :=
 (M.ok at_)>>=fun end__1 =>
 M.loop (fun (s2:Int)=>(((M.lenS text)>>=fun t3=>(M.ok (decide (s2<t3))))>>=fun b5=>(if b5 then ((M.ixS text s2)>>=fun t4=>(M.inSg t4 ("abcdefghijklmnopqrstuvwxyz" : PySem.Str))) else .ok false))) (fun (s2:Int) =>
  M.aug (fun i j=>i+j) s2 (M.ok (1:Int))>>=fun end__6 =>
   M.ok end__6) end__1>>=fun (s7:Int) =>
 if (decide (s7=at_)) then
 M.raise1 .BadSign "sign" (M.ok at_)
else
 (M.ok s7)
noncomputable def ZaV (text:PySem.Str) (at_:Int) (char:PySem.Str):M Int :=
 (((M.lenS text)>>=fun t1=>(M.ok (decide (t1≤at_))))>>=fun b3=>(if b3 then .ok true else ((M.ixS text at_)>>=fun t2=>(M.ok (!decide (t2=char))))))>>=fun b4=>if b4 then
 M.raise1 .BadSign "sign" (M.ok at_)
else
 (M.ok (at_+(1:Int)))
noncomputable def ZbD (rec_:PySem.Str→Int→M (PyData×Int)) (text:PySem.Str) (at_:Int):M (PyData×Int) :=
 (((M.lenS text)>>=fun t1=>(M.ok (decide (at_<t1))))>>=fun b3=>(if b3 then ((M.ixS text at_)>>=fun t2=>(M.ok (decide (t2=("[" : PySem.Str))))) else .ok false))>>=fun b23=>if b23 then
 (Zbd text (at_+(1:Int)))>>=fun end__4 =>
  ((ZaV text end__4 (" " : PySem.Str))>>=fun t5=>(rec_ text t5))>>=fun t6 =>
  ((((M.slS text (some (at_+(1:Int))) (some end__4))>>=fun t7=>(M.ok (UD.toU t7)))>>=fun t8=>(M.ok (PyData.tuple [(UD.toU ("fun" : PySem.Str)),t8,t6.1])))>>=fun t9=>((ZaV text t6.2 ("]" : PySem.Str))>>=fun t10=>(M.ok (t9,t10))))
else
 (((M.lenS text)>>=fun t11=>(M.ok (decide (at_<t11))))>>=fun b13=>(if b13 then ((M.ixS text at_)>>=fun t12=>(M.ok (decide (t12=("(" : PySem.Str))))) else .ok false))>>=fun b22=>if b22 then
  (rec_ text (at_+(1:Int)))>>=fun t14 =>
   ((ZaV text t14.2 (" " : PySem.Str))>>=fun t15=>(rec_ text t15))>>=fun t16 =>
   ((ZaV text t16.2 (")" : PySem.Str))>>=fun t17=>(M.ok ((PyData.tuple [(UD.toU ("use" : PySem.Str)),t14.1,t16.1]),t17)))
 else
  (Zbd text at_)>>=fun end__18 =>
   ((((M.slS text (some at_) (some end__18))>>=fun t19=>(M.ok (UD.toU t19)))>>=fun t20=>(M.ok (PyData.tuple [(UD.toU ("name" : PySem.Str)),t20])))>>=fun t21=>(M.ok (t21,end__18)))
noncomputable def ZaE:Nat→PySem.Str→Int→M (PyData×Int)
 | 0=>fun _ _=>.bad
 | fl+1=>ZbD (ZaE fl)
noncomputable def ZaW (program:PyData):M Int :=
 (M.ok (0:Int))>>=fun many_1 =>
 (M.ok [program])>>=fun waiting_2 =>
 M.loop (fun (s3:(Int×(List PyData)))=>(M.ok (!s3.2.isEmpty))) (fun (s3:(Int×(List PyData))) =>
  (M.popL s3.2)>>=fun p4 =>
   (((((M.ofO (Zat p4.2)>>=fun ds=>M.ok (⟨ds⟩:Sq PyData))>>=fun t5=>(M.ix t5.l (0:Int)))>>=fun t6=>(M.ofO (OU.ofU (α:=PySem.Str) t6)))>>=fun t7=>(M.ok (decide (t7=("fun" : PySem.Str)))))>>=fun b23=>if b23 then
   M.aug (fun i j=>i+j) s3.1 (M.ok (1:Int))>>=fun many_8 =>
    M.push p4.1 (((M.ofO (Zat p4.2)>>=fun ds=>M.ok (⟨ds⟩:Sq PyData))>>=fun t9=>(M.ix t9.l (2:Int)))>>=fun t10=>(M.ofO (@OU.ofU PyData dUI _ t10)))>>=fun waiting_11 =>
    M.ok (many_8,waiting_11)
  else
   M.ok (s3.1,p4.1))>>=(fun s12:(Int×(List PyData)) =>
   ((((M.ofO (Zat p4.2)>>=fun ds=>M.ok (⟨ds⟩:Sq PyData))>>=fun t13=>(M.ix t13.l (0:Int)))>>=fun t14=>(M.ofO (OU.ofU (α:=PySem.Str) t14)))>>=fun t15=>(M.ok (decide (t15=("use" : PySem.Str)))))>>=fun b22=>if b22 then
   M.push s12.2 (((M.ofO (Zat p4.2)>>=fun ds=>M.ok (⟨ds⟩:Sq PyData))>>=fun t16=>(M.ix t16.l (1:Int)))>>=fun t17=>(M.ofO (@OU.ofU PyData dUI _ t17)))>>=fun waiting_18 =>
    M.push waiting_18 (((M.ofO (Zat p4.2)>>=fun ds=>M.ok (⟨ds⟩:Sq PyData))>>=fun t19=>(M.ix t19.l (2:Int)))>>=fun t20=>(M.ofO (@OU.ofU PyData dUI _ t20)))>>=fun waiting_21 =>
    M.ok (s12.1,waiting_21)
  else
   M.ok (s12.1,s12.2))) (many_1,waiting_2)>>=fun (s24:(Int×(List PyData))) =>
 (M.ok s24.1)
noncomputable def ZaM (rec_:PyData→(List PySem.Str)→(List PySem.Str)→(List PySem.Str)→M (Unit×(List PySem.Str)×(List PySem.Str))) (program:PyData) (around:(List PySem.Str)) (bound:(List PySem.Str)) (used:(List PySem.Str)):M (Unit×(List PySem.Str)×(List PySem.Str)) :=
 (((M.ofO (Zat program)>>=fun ds=>M.ok (⟨ds⟩:Sq PyData))>>=fun t1=>(M.ix t1.l (0:Int)))>>=fun t2=>(M.ofO (OU.ofU (α:=PySem.Str) t2)))>>=fun word_3 =>
 if (decide (word_3=("use" : PySem.Str))) then
 ((((M.ofO (Zat program)>>=fun ds=>M.ok (⟨ds⟩:Sq PyData))>>=fun t6=>(M.ix t6.l (1:Int)))>>=fun t7=>(M.ofO (@OU.ofU PyData dUI _ t7)))>>=fun a8=>((M.ok around)>>=fun a9=>(rec_ a8 a9 bound used)))>>=fun p10 =>
  ((((M.ofO (Zat program)>>=fun ds=>M.ok (⟨ds⟩:Sq PyData))>>=fun t13=>(M.ix t13.l (2:Int)))>>=fun t14=>(M.ofO (@OU.ofU PyData dUI _ t14)))>>=fun a15=>((M.ok around)>>=fun a16=>(rec_ a15 a16 p10.2.1 p10.2.2)))>>=fun p17 =>
  M.ok ((),(p17.2.1,p17.2.2))
else
 (((M.ofO (Zat program)>>=fun ds=>M.ok (⟨ds⟩:Sq PyData))>>=fun t18=>(M.ix t18.l (1:Int)))>>=fun t19=>(M.ofO (OU.ofU (α:=PySem.Str) t19)))>>=fun name_20 =>
  ((ZbE name_20)>>=fun t21=>(M.ok (!t21)))>>=fun b31=>if b31 then
  M.raise1S .BadName "name" (M.ok name_20)
 else
  if (decide (word_3=("name" : PySem.Str))) then
   if (!memB name_20 around) then
    M.raise1S .UnknownName "name" (M.ok name_20)
   else
    if (memB name_20 used) then
     M.raise1S .UsedTwice "name" (M.ok name_20)
    else
     M.push used (M.ok name_20)>>=fun used_22 =>
      M.ok ((),(bound,used_22))
  else
   if (memB name_20 bound) then
    M.raise1S .BoundTwice "name" (M.ok name_20)
   else
    M.push bound (M.ok name_20)>>=fun bound_23 =>
     ((((M.ofO (Zat program)>>=fun ds=>M.ok (⟨ds⟩:Sq PyData))>>=fun t26=>(M.ix t26.l (2:Int)))>>=fun t27=>(M.ofO (@OU.ofU PyData dUI _ t27)))>>=fun a28=>((M.cat around [name_20])>>=fun a29=>(rec_ a28 a29 bound_23 used)))>>=fun p30 =>
     if (!memB name_20 p30.2.2) then
     M.raise1S .NotUsed "name" (M.ok name_20)
    else
     M.ok ((),(p30.2.1,p30.2.2))
noncomputable def ZaP:Nat→PyData→(List PySem.Str)→(List PySem.Str)→(List PySem.Str)→M (Unit×(List PySem.Str)×(List PySem.Str))
 | 0=>fun _ _ _ _=>.bad
 | fl+1=>ZaM (ZaP fl)
noncomputable def Zar (program:PyData):M Unit :=
 ((ZaW program)>>=fun t1=>(M.ok (decide ((12:Int)<t1))))>>=fun b7=>if b7 then
 M.raise1 .TooLarge "limit" (M.ok (12:Int))
else
 ((M.ok program)>>=fun a3=>(M.ok ([]:(List PySem.Str)))>>=fun a4=>(M.ok [])>>=fun a5=>(M.ok [])>>=fun a6=>(ZaP 100 a3 a4 a5 a6))>>=fun p2 =>
  M.ok ()
noncomputable def Zax (text:PySem.Str):M PyData :=
 (ZaE 100 text (0:Int))>>=fun t1 =>
 ((M.lenS text)>>=fun t2=>(M.ok (decide (t1.2<t2))))>>=fun b3=>if b3 then
 M.raise1 .BadSign "sign" (M.ok t1.2)
else
 (Zar t1.1)>>=fun _ =>
  (M.ok t1.1)
noncomputable def ZbS (program_here:PyData) (text:PySem.Str) (reads:Bool):M (PyData×PyData) :=
 M.tryK kn (fun c=>XC.isA c .ComesapartError) (if reads then
 ((Zax text)>>=fun t1=>(M.ok ((UD.toU ()),t1)))
else
 (((Zar program_here)>>=fun t2=>(M.ok (UD.toU t2)))>>=fun t3=>(M.ok (!Zcd t3)))>>=fun b4=>if b4 then
  (M.ok ((UD.toU (⟨[("other" : PySem.Str)]⟩:Tup PySem.Str)),(UD.toU ())))
 else
  (M.ok ((UD.toU ()),(UD.toU ()))))
 fun px5=>(M.ok ([]:(List PyData)))>>=fun found_6 =>
  (if (XC.isA px5.cls .TooLarge) then
  M.push found_6 (((px5.fld .TooLarge "limit")>>=fun t7=>(M.ok (UD.toU t7)))>>=fun t8=>(M.ok (PyData.tuple [(UD.toU ("large" : PySem.Str)),t8])))>>=fun found_9 =>
   M.ok found_9
 else
  M.ok found_6)>>=(fun s10:(List PyData) =>
  (if (XC.isA px5.cls .BadSign) then
  M.push s10 (((px5.fld .BadSign "sign")>>=fun t11=>(M.ok (UD.toU t11)))>>=fun t12=>(M.ok (PyData.tuple [(UD.toU ("sign" : PySem.Str)),t12])))>>=fun found_13 =>
   M.ok found_13
 else
  M.ok s10)>>=(fun s14:(List PyData) =>
  (if (XC.isA px5.cls .BadName) then
  M.push s14 (((px5.fldS .BadName "name")>>=fun t15=>(M.ok (UD.toU t15)))>>=fun t16=>(M.ok (PyData.tuple [(UD.toU ("bad" : PySem.Str)),t16])))>>=fun found_17 =>
   M.ok found_17
 else
  M.ok s14)>>=(fun s18:(List PyData) =>
  (if (XC.isA px5.cls .BoundTwice) then
  M.push s18 (((px5.fldS .BoundTwice "name")>>=fun t19=>(M.ok (UD.toU t19)))>>=fun t20=>(M.ok (PyData.tuple [(UD.toU ("twice" : PySem.Str)),t20])))>>=fun found_21 =>
   M.ok found_21
 else
  M.ok s18)>>=(fun s22:(List PyData) =>
  (if (XC.isA px5.cls .UnknownName) then
  M.push s22 (((px5.fldS .UnknownName "name")>>=fun t23=>(M.ok (UD.toU t23)))>>=fun t24=>(M.ok (PyData.tuple [(UD.toU ("unknown" : PySem.Str)),t24])))>>=fun found_25 =>
   M.ok found_25
 else
  M.ok s22)>>=(fun s26:(List PyData) =>
  (if (XC.isA px5.cls .UsedTwice) then
  M.push s26 (((px5.fldS .UsedTwice "name")>>=fun t27=>(M.ok (UD.toU t27)))>>=fun t28=>(M.ok (PyData.tuple [(UD.toU ("used" : PySem.Str)),t28])))>>=fun found_29 =>
   M.ok found_29
 else
  M.ok s26)>>=(fun s30:(List PyData) =>
  (if (XC.isA px5.cls .NotUsed) then
  M.push s30 (((px5.fldS .NotUsed "name")>>=fun t31=>(M.ok (UD.toU t31)))>>=fun t32=>(M.ok (PyData.tuple [(UD.toU ("idle" : PySem.Str)),t32])))>>=fun found_33 =>
   M.ok found_33
 else
  M.ok s30)>>=(fun s34:(List PyData) =>
  if ((!decide ((s34.length:Int)=(1:Int)))||(!true)) then
  (M.ok ((UD.toU (⟨[("other" : PySem.Str)]⟩:Tup PySem.Str)),(UD.toU ())))
 else
  ((M.ix s34 (0:Int))>>=fun t35=>(M.ok (t35,(UD.toU ())))))))))))
noncomputable def Zbj (rec_:PyData→M PySem.Str) (program_here:PyData):M PySem.Str :=
 ((((M.ofO (Zat program_here)>>=fun ds=>M.ok (⟨ds⟩:Sq PyData))>>=fun t1=>(M.ix t1.l (0:Int)))>>=fun t2=>(M.ofO (OU.ofU (α:=PySem.Str) t2)))>>=fun t3=>(M.ok (decide (t3=("name" : PySem.Str)))))>>=fun b31=>if b31 then
 (((M.ofO (Zat program_here)>>=fun ds=>M.ok (⟨ds⟩:Sq PyData))>>=fun t4=>(M.ix t4.l (1:Int)))>>=fun t5=>(M.ofO (OU.ofU (α:=PySem.Str) t5)))
else
 ((((M.ofO (Zat program_here)>>=fun ds=>M.ok (⟨ds⟩:Sq PyData))>>=fun t6=>(M.ix t6.l (0:Int)))>>=fun t7=>(M.ofO (OU.ofU (α:=PySem.Str) t7)))>>=fun t8=>(M.ok (decide (t8=("fun" : PySem.Str)))))>>=fun b30=>if b30 then
  (((((((M.ofO (Zat program_here)>>=fun ds=>M.ok (⟨ds⟩:Sq PyData))>>=fun t9=>(M.ix t9.l (1:Int)))>>=fun t10=>(M.ofO (OU.ofU (α:=PySem.Str) t10)))>>=fun t11=>(M.catS ("[" : PySem.Str) t11))>>=fun t12=>(M.catS t12 (" " : PySem.Str)))>>=fun t16=>(((((M.ofO (Zat program_here)>>=fun ds=>M.ok (⟨ds⟩:Sq PyData))>>=fun t13=>(M.ix t13.l (2:Int)))>>=fun t14=>(M.ofO (@OU.ofU PyData dUI _ t14)))>>=fun t15=>(rec_ t15))>>=fun t17=>(M.catS t16 t17)))>>=fun t18=>(M.catS t18 ("]" : PySem.Str)))
 else
  ((((((((M.ofO (Zat program_here)>>=fun ds=>M.ok (⟨ds⟩:Sq PyData))>>=fun t19=>(M.ix t19.l (1:Int)))>>=fun t20=>(M.ofO (@OU.ofU PyData dUI _ t20)))>>=fun t21=>(rec_ t21))>>=fun t22=>(M.catS ("(" : PySem.Str) t22))>>=fun t23=>(M.catS t23 (" " : PySem.Str)))>>=fun t27=>(((((M.ofO (Zat program_here)>>=fun ds=>M.ok (⟨ds⟩:Sq PyData))>>=fun t24=>(M.ix t24.l (2:Int)))>>=fun t25=>(M.ofO (@OU.ofU PyData dUI _ t25)))>>=fun t26=>(rec_ t26))>>=fun t28=>(M.catS t27 t28)))>>=fun t29=>(M.catS t29 (")" : PySem.Str)))
noncomputable def Zbg:Nat→PyData→M PySem.Str
 | 0=>fun _=>.bad
 | fl+1=>Zbj (Zbg fl)
noncomputable def Zbo (text:PySem.Str):M Int :=
 (M.ok [("program" : PySem.Str)])>>=fun due_1 =>
 (M.ok false)>>=fun inside_2 =>
 ((M.lenS text)>>=fun t4=>(M.range t4))>>=fun l27 =>
 M.ZbA (fun (s3:((List PySem.Str)×Bool)) x5 =>
  ((M.ixS text x5)>>=fun t6=>(M.inSg t6 ("abcdefghijklmnopqrstuvwxyz" : PySem.Str)))>>=fun b24=>if b24 then
   if (!s3.2) then
    (if (decide ((s3.1.length:Int)=(0:Int))) then .ok true else (((M.ix s3.1 (-(1:Int)))>>=fun t7=>(M.ok (!decide (t7=("program" : PySem.Str)))))>>=fun b9=>(if b9 then ((M.ix s3.1 (-(1:Int)))>>=fun t8=>(M.ok (!decide (t8=("name" : PySem.Str))))) else .ok false)))>>=fun b12=>if b12 then
     (M.ok x5)>>=fun r=>.ok (.rt r)
    else
     (M.popL s3.1)>>=fun p10 =>
      (M.ok true)>>=fun inside_11 =>
      M.ok (.nx (p10.1,inside_11))
   else
    (M.ok true)>>=fun inside_13 =>
     M.ok (.nx (s3.1,inside_13))
  else
   (M.ok false)>>=fun inside_14 =>
    if (decide ((s3.1.length:Int)=(0:Int))) then
    (M.ok x5)>>=fun r=>.ok (.rt r)
   else
    (M.popL s3.1)>>=fun p15 =>
     (if (decide (p15.2=("program" : PySem.Str))) then ((M.ixS text x5)>>=fun t16=>(M.ok (decide (t16=("[" : PySem.Str))))) else .ok false)>>=fun b23=>if b23 then
     (M.cat p15.1 [("]" : PySem.Str),("program" : PySem.Str),(" " : PySem.Str),("name" : PySem.Str)])>>=fun due_17 =>
      M.ok (.nx (due_17,inside_14))
    else
     (if (decide (p15.2=("program" : PySem.Str))) then ((M.ixS text x5)>>=fun t18=>(M.ok (decide (t18=("(" : PySem.Str))))) else .ok false)>>=fun b22=>if b22 then
      (M.cat p15.1 [(")" : PySem.Str),("program" : PySem.Str),(" " : PySem.Str),("program" : PySem.Str)])>>=fun due_19 =>
       M.ok (.nx (due_19,inside_14))
     else
      ((M.ixS text x5)>>=fun t20=>(M.ok (!decide (p15.2=t20))))>>=fun b21=>if b21 then
       (M.ok x5)>>=fun r=>.ok (.rt r)
      else
       M.ok (.nx (p15.1,inside_14))) (due_1,inside_2) l27>>=fun c26=>Ct.go c26 M.ok fun (s25:((List PySem.Str)×Bool)) =>
 if (decide ((0:Int)<(s25.1.length:Int))) then
 (M.lenS text)
else
 (M.ok (-(1:Int)))
noncomputable def ZcC (text:PySem.Str):M PyData :=
 (M.ok [([]:(List PyData))])>>=fun stack_1 =>
 (M.ok ("" : PySem.Str))>>=fun name_2 =>
 ((M.catS text (" " : PySem.Str))>>=fun t4=>(M.ok (signs t4)))>>=fun l29 =>
 M.fold (fun (s3:((List (List PyData))×PySem.Str)) x5 =>
  (M.inSg x5 ("abcdefghijklmnopqrstuvwxyz" : PySem.Str))>>=fun b25=>if b25 then
   (M.catS s3.2 x5)>>=fun name_6 =>
    M.ok (s3.1,name_6)
  else
   (if (!decide (s3.2=("" : PySem.Str))) then
    M.appIx s3.1 (M.ok (-(1:Int))) (M.ok (PyData.tuple [(UD.toU ("name" : PySem.Str)),(UD.toU s3.2)]))>>=fun stack_7 =>
     (M.ok ("" : PySem.Str))>>=fun name_8 =>
     M.ok (stack_7,name_8)
   else
    M.ok (s3.1,s3.2))>>=(fun s9:((List (List PyData))×PySem.Str) =>
    (if ((decide (x5=("[" : PySem.Str)))||(decide (x5=("(" : PySem.Str)))) then
    M.push s9.1 (M.ok ([]:(List PyData)))>>=fun stack_10 =>
     M.ok stack_10
   else
    M.ok s9.1)>>=(fun s11:(List (List PyData)) =>
    (if (decide (x5=("]" : PySem.Str))) then
    (M.popL s11)>>=fun p12 =>
     M.appIx p12.1 (M.ok (-(1:Int))) ((((((M.ix p12.2 (0:Int))>>=fun t13=>(M.ofO (Zat t13)>>=fun ds=>M.ok (⟨ds⟩:Sq PyData)))>>=fun t14=>(M.ix t14.l (1:Int)))>>=fun t15=>(M.ofO (OU.ofU (α:=PySem.Str) t15)))>>=fun t16=>(M.ok (UD.toU t16)))>>=fun t17=>((M.ix p12.2 (1:Int))>>=fun t18=>(M.ok (PyData.tuple [(UD.toU ("fun" : PySem.Str)),t17,t18]))))>>=fun stack_19 =>
     M.ok stack_19
   else
    M.ok s11)>>=(fun s20:(List (List PyData)) =>
    if (decide (x5=(")" : PySem.Str))) then
    (M.popL s20)>>=fun p21 =>
     M.appIx p21.1 (M.ok (-(1:Int))) ((M.ix p21.2 (0:Int))>>=fun t22=>((M.ix p21.2 (1:Int))>>=fun t23=>(M.ok (PyData.tuple [(UD.toU ("use" : PySem.Str)),t22,t23]))))>>=fun stack_24 =>
     M.ok (stack_24,s9.2)
   else
    M.ok (s20,s9.2))))) (stack_1,name_2) l29>>=fun (s26:((List (List PyData))×PySem.Str)) =>
 ((M.ix s26.1 (0:Int))>>=fun t28=>(M.ix t28 (0:Int)))
noncomputable def Zaz (rec_:PyData→M PySem.Str) (program:PyData):M PySem.Str :=
 ((((M.ofO (Zat program)>>=fun ds=>M.ok (⟨ds⟩:Sq PyData))>>=fun t1=>(M.ix t1.l (0:Int)))>>=fun t2=>(M.ofO (OU.ofU (α:=PySem.Str) t2)))>>=fun t3=>(M.ok (decide (t3=("name" : PySem.Str)))))>>=fun b27=>if b27 then
 (((M.ofO (Zat program)>>=fun ds=>M.ok (⟨ds⟩:Sq PyData))>>=fun t4=>(M.ix t4.l (1:Int)))>>=fun t5=>(M.ofO (OU.ofU (α:=PySem.Str) t5)))
else
 ((((M.ofO (Zat program)>>=fun ds=>M.ok (⟨ds⟩:Sq PyData))>>=fun t6=>(M.ix t6.l (0:Int)))>>=fun t7=>(M.ofO (OU.ofU (α:=PySem.Str) t7)))>>=fun t8=>(M.ok (decide (t8=("fun" : PySem.Str)))))>>=fun b26=>if b26 then
  ((fun c14=>M.catS c14 ("[" : PySem.Str)>>=(fun c14=>(((M.ofO (Zat program)>>=fun ds=>M.ok (⟨ds⟩:Sq PyData))>>=fun t9=>(M.ix t9.l (1:Int)))>>=fun t10=>(M.ofO (OU.ofU (α:=PySem.Str) t10)))>>=fun y15=>M.catS c14 y15>>=(fun c14=>M.catS c14 (" " : PySem.Str)>>=(fun c14=>((((M.ofO (Zat program)>>=fun ds=>M.ok (⟨ds⟩:Sq PyData))>>=fun t11=>(M.ix t11.l (2:Int)))>>=fun t12=>(M.ofO (@OU.ofU PyData dUI _ t12)))>>=fun t13=>(rec_ t13))>>=fun y15=>M.catS c14 y15>>=(fun c14=>M.catS c14 ("]" : PySem.Str)>>=(fun c14=>M.ok c14)))))) PySem.Str.empty)
 else
  ((fun c23=>M.catS c23 ("(" : PySem.Str)>>=(fun c23=>((((M.ofO (Zat program)>>=fun ds=>M.ok (⟨ds⟩:Sq PyData))>>=fun t17=>(M.ix t17.l (1:Int)))>>=fun t18=>(M.ofO (@OU.ofU PyData dUI _ t18)))>>=fun t19=>(rec_ t19))>>=fun y24=>M.catS c23 y24>>=(fun c23=>M.catS c23 (" " : PySem.Str)>>=(fun c23=>((((M.ofO (Zat program)>>=fun ds=>M.ok (⟨ds⟩:Sq PyData))>>=fun t20=>(M.ix t20.l (2:Int)))>>=fun t21=>(M.ofO (@OU.ofU PyData dUI _ t21)))>>=fun t22=>(rec_ t22))>>=fun y24=>M.catS c23 y24>>=(fun c23=>M.catS c23 (")" : PySem.Str)>>=(fun c23=>M.ok c23)))))) PySem.Str.empty)
noncomputable def Zao:Nat→PyData→M PySem.Str
 | 0=>fun _=>.bad
 | fl+1=>Zaz (Zao fl)
noncomputable def ZaK (text:PySem.Str):M Bool :=
 (ZbS (UD.toU ()) text true)>>=fun t1 =>
 (Zbo text)>>=fun sign_2 =>
 if (decide ((0:Int)≤sign_2)) then
 (ZaY 100 t1.1 (UD.toU (("sign" : PySem.Str),sign_2)))
else
 (ZcC text)>>=fun tree_here_3 =>
  ((M.ofO (@OU.ofU PyData dUI _ tree_here_3))>>=fun t4=>(ZbG t4))>>=fun due_5 =>
  ((ZaY 100 t1.1 due_5)>>=fun t6=>(M.ok (!t6)))>>=fun b13=>if b13 then
  (M.ok false)
 else
  if (!Zcd due_5) then
   (M.ok true)
  else
   ((ZaY 100 t1.2 tree_here_3)>>=fun b12=>(if b12 then ((((M.ofO (@OU.ofU PyData dUI _ t1.2))>>=fun t9=>(Zao 100 t9))>>=fun t10=>(M.ok (UD.toU t10)))>>=fun t11=>(ZaY 100 t11 (UD.toU text))) else .ok false))
noncomputable def Zal (program_here:PyData):M Bool :=
 (ZbG program_here)>>=fun due_1 =>
 (((((ZbS program_here ("" : PySem.Str) false)>>=fun t3=>(M.ok t3.1))>>=fun t4=>(ZaY 100 t4 due_1))>>=fun t5=>(M.ok (!t5)))>>=fun b8=>(if b8 then .ok true else (((Zbg 100 program_here)>>=fun t6=>(ZaK t6))>>=fun t7=>(M.ok (!t7)))))>>=fun b15=>if b15 then
 (M.ok false)
else
 (if (!Zcd due_1) then .ok true else (((Zao 100 program_here)>>=fun t11=>(M.ok (UD.toU t11)))>>=fun t13=>(((Zbg 100 program_here)>>=fun t12=>(M.ok (UD.toU t12)))>>=fun t14=>(ZaY 100 t13 t14))))
noncomputable def Zce (names:(List PySem.Str)):M PyData :=
 (((M.ix names (0:Int))>>=fun t1=>(M.ok (UD.toU t1)))>>=fun t2=>(M.ok (PyData.tuple [(UD.toU ("name" : PySem.Str)),t2])))>>=fun program_here_3 =>
 (M.ok (cutL names (some (1:Int)) none))>>=fun l13 =>
 M.fold (fun (s4:PyData) x5 =>
  (M.ok (PyData.tuple [(UD.toU ("use" : PySem.Str)),s4,(PyData.tuple [(UD.toU ("name" : PySem.Str)),(UD.toU x5)])]))>>=fun program_here_6 =>
   M.ok program_here_6) program_here_3 l13>>=fun (s7:PyData) =>
 (M.ok names)>>=fun l12 =>
 M.fold (fun (s8:PyData) x9 =>
  (M.ok (PyData.tuple [(UD.toU ("fun" : PySem.Str)),(UD.toU x9),s8]))>>=fun program_here_10 =>
   M.ok program_here_10) s7 l12>>=fun (s11:PyData) =>
 (M.ok s11)
noncomputable def ZaJ (program_here:PyData) (deed:Int) (name:PySem.Str):M PyData :=
 (M.ok (PyData.tuple [(UD.toU ("fun" : PySem.Str)),(UD.toU name),(PyData.tuple [(UD.toU ("name" : PySem.Str)),(UD.toU name)])]))>>=fun fresh_1 =>
 (M.ok [(PyData.tuple [(UD.toU ("name" : PySem.Str)),(UD.toU name)]),(PyData.tuple [(UD.toU ("use" : PySem.Str)),program_here,program_here]),(PyData.tuple [(UD.toU ("fun" : PySem.Str)),(UD.toU name),program_here]),fresh_1])>>=fun menu_2 =>
 (M.cat menu_2 [(PyData.tuple [(UD.toU ("use" : PySem.Str)),program_here,fresh_1]),(PyData.tuple [(UD.toU ("use" : PySem.Str)),fresh_1,program_here]),(PyData.tuple [(UD.toU ("name" : PySem.Str)),(UD.toU name)])])>>=fun menu_3 =>
 ((M.cat menu_3 [(PyData.tuple [(UD.toU ("use" : PySem.Str)),program_here,(PyData.tuple [(UD.toU ("name" : PySem.Str)),(UD.toU name)])])])>>=fun t4=>(M.ix t4 deed))
noncomputable def ZaR (program_here:PyData) (deed:Int) (name:PySem.Str):M PyData :=
 (((M.ofO (Zat program_here)>>=fun ds=>M.ok (⟨ds⟩:Sq PyData))>>=fun t1=>(M.ix t1.l (1:Int)))>>=fun t2=>(M.ofO (OU.ofU (α:=PySem.Str) t2)))>>=fun own_3 =>
 (((M.ofO (Zat program_here)>>=fun ds=>M.ok (⟨ds⟩:Sq PyData))>>=fun t4=>(M.ix t4.l (2:Int)))>>=fun t5=>(M.ofO (@OU.ofU PyData dUI _ t5)))>>=fun body_6 =>
 (M.ok [(PyData.tuple [(UD.toU ("fun" : PySem.Str)),(UD.toU name),body_6]),body_6,(PyData.tuple [(UD.toU ("fun" : PySem.Str)),(UD.toU name),program_here]),(PyData.tuple [(UD.toU ("use" : PySem.Str)),program_here,program_here])])>>=fun menu_7 =>
 (M.cat menu_7 [(PyData.tuple [(UD.toU ("use" : PySem.Str)),program_here,(PyData.tuple [(UD.toU ("fun" : PySem.Str)),(UD.toU name),(PyData.tuple [(UD.toU ("name" : PySem.Str)),(UD.toU name)])])]),(PyData.tuple [(UD.toU ("fun" : PySem.Str)),(UD.toU own_3),program_here]),(PyData.tuple [(UD.toU ("fun" : PySem.Str)),(UD.toU name),body_6])])>>=fun menu_8 =>
 ((M.cat menu_8 [(PyData.tuple [(UD.toU ("fun" : PySem.Str)),(UD.toU own_3),(PyData.tuple [(UD.toU ("use" : PySem.Str)),body_6,(PyData.tuple [(UD.toU ("name" : PySem.Str)),(UD.toU own_3)])])])])>>=fun t9=>(M.ix t9 deed))
noncomputable def ZaQ (program_here:PyData) (deed:Int) (name:PySem.Str):M PyData :=
 (((M.ofO (Zat program_here)>>=fun ds=>M.ok (⟨ds⟩:Sq PyData))>>=fun t1=>(M.ix t1.l (1:Int)))>>=fun t2=>(M.ofO (@OU.ofU PyData dUI _ t2)))>>=fun one_3 =>
 (((M.ofO (Zat program_here)>>=fun ds=>M.ok (⟨ds⟩:Sq PyData))>>=fun t4=>(M.ix t4.l (2:Int)))>>=fun t5=>(M.ofO (@OU.ofU PyData dUI _ t5)))>>=fun other_6 =>
 (M.ok [(PyData.tuple [(UD.toU ("use" : PySem.Str)),other_6,one_3]),one_3,other_6,(PyData.tuple [(UD.toU ("fun" : PySem.Str)),(UD.toU name),program_here]),(PyData.tuple [(UD.toU ("use" : PySem.Str)),program_here,(PyData.tuple [(UD.toU ("name" : PySem.Str)),(UD.toU name)])])])>>=fun menu_7 =>
 ((M.cat menu_7 [(PyData.tuple [(UD.toU ("use" : PySem.Str)),(PyData.tuple [(UD.toU ("name" : PySem.Str)),(UD.toU name)]),program_here]),(PyData.tuple [(UD.toU ("use" : PySem.Str)),one_3,one_3]),(PyData.tuple [(UD.toU ("use" : PySem.Str)),other_6,one_3])])>>=fun t8=>(M.ix t8 deed))
noncomputable def Zbk (rec_:(List Int)→Int→PyData→PySem.Str→M PyData) (draws_here:(List Int)) (at_:Int) (program_here:PyData) (name:PySem.Str):M PyData :=
 (Zas draws_here at_ (6:Int))>>=fun turn_1 =>
 (((((M.ofO (Zat program_here)>>=fun ds=>M.ok (⟨ds⟩:Sq PyData))>>=fun t2=>(M.ix t2.l (0:Int)))>>=fun t3=>(M.ofO (OU.ofU (α:=PySem.Str) t3)))>>=fun t4=>(M.ok (decide (t4=("fun" : PySem.Str)))))>>=fun b5=>(if b5 then (M.ok ((decide (turn_1<(4:Int)))&&(decide (at_<(40:Int))))) else .ok false))>>=fun b47=>if b47 then
 (((((M.ofO (Zat program_here)>>=fun ds=>M.ok (⟨ds⟩:Sq PyData))>>=fun t6=>(M.ix t6.l (1:Int)))>>=fun t7=>(M.ofO (OU.ofU (α:=PySem.Str) t7)))>>=fun t8=>(M.ok (UD.toU t8)))>>=fun t12=>(((((M.ofO (Zat program_here)>>=fun ds=>M.ok (⟨ds⟩:Sq PyData))>>=fun t9=>(M.ix t9.l (2:Int)))>>=fun t10=>(M.ofO (@OU.ofU PyData dUI _ t10)))>>=fun t11=>(rec_ draws_here (at_+(1:Int)) t11 name))>>=fun t13=>(M.ok (PyData.tuple [(UD.toU ("fun" : PySem.Str)),t12,t13]))))
else
 (((((M.ofO (Zat program_here)>>=fun ds=>M.ok (⟨ds⟩:Sq PyData))>>=fun t14=>(M.ix t14.l (0:Int)))>>=fun t15=>(M.ofO (OU.ofU (α:=PySem.Str) t15)))>>=fun t16=>(M.ok (decide (t16=("use" : PySem.Str)))))>>=fun b17=>(if b17 then (M.ok ((decide (turn_1<(2:Int)))&&(decide (at_<(40:Int))))) else .ok false))>>=fun b46=>if b46 then
  (((((M.ofO (Zat program_here)>>=fun ds=>M.ok (⟨ds⟩:Sq PyData))>>=fun t18=>(M.ix t18.l (1:Int)))>>=fun t19=>(M.ofO (@OU.ofU PyData dUI _ t19)))>>=fun t20=>(rec_ draws_here (at_+(1:Int)) t20 name))>>=fun t23=>((((M.ofO (Zat program_here)>>=fun ds=>M.ok (⟨ds⟩:Sq PyData))>>=fun t21=>(M.ix t21.l (2:Int)))>>=fun t22=>(M.ofO (@OU.ofU PyData dUI _ t22)))>>=fun t24=>(M.ok (PyData.tuple [(UD.toU ("use" : PySem.Str)),t23,t24]))))
 else
  (((((M.ofO (Zat program_here)>>=fun ds=>M.ok (⟨ds⟩:Sq PyData))>>=fun t25=>(M.ix t25.l (0:Int)))>>=fun t26=>(M.ofO (OU.ofU (α:=PySem.Str) t26)))>>=fun t27=>(M.ok (decide (t27=("use" : PySem.Str)))))>>=fun b28=>(if b28 then (M.ok ((decide (turn_1<(4:Int)))&&(decide (at_<(40:Int))))) else .ok false))>>=fun b45=>if b45 then
   ((((M.ofO (Zat program_here)>>=fun ds=>M.ok (⟨ds⟩:Sq PyData))>>=fun t29=>(M.ix t29.l (1:Int)))>>=fun t30=>(M.ofO (@OU.ofU PyData dUI _ t30)))>>=fun t34=>(((((M.ofO (Zat program_here)>>=fun ds=>M.ok (⟨ds⟩:Sq PyData))>>=fun t31=>(M.ix t31.l (2:Int)))>>=fun t32=>(M.ofO (@OU.ofU PyData dUI _ t32)))>>=fun t33=>(rec_ draws_here (at_+(1:Int)) t33 name))>>=fun t35=>(M.ok (PyData.tuple [(UD.toU ("use" : PySem.Str)),t34,t35]))))
  else
   (Zas draws_here (at_+(1:Int)) (8:Int))>>=fun deed_36 =>
    ((((M.ofO (Zat program_here)>>=fun ds=>M.ok (⟨ds⟩:Sq PyData))>>=fun t37=>(M.ix t37.l (0:Int)))>>=fun t38=>(M.ofO (OU.ofU (α:=PySem.Str) t38)))>>=fun t39=>(M.ok (decide (t39=("name" : PySem.Str)))))>>=fun b44=>if b44 then
    (ZaJ program_here deed_36 name)
   else
    ((((M.ofO (Zat program_here)>>=fun ds=>M.ok (⟨ds⟩:Sq PyData))>>=fun t40=>(M.ix t40.l (0:Int)))>>=fun t41=>(M.ofO (OU.ofU (α:=PySem.Str) t41)))>>=fun t42=>(M.ok (decide (t42=("fun" : PySem.Str)))))>>=fun b43=>if b43 then
     (ZaR program_here deed_36 name)
    else
     (ZaQ program_here deed_36 name)
noncomputable def Zbi:Nat→(List Int)→Int→PyData→PySem.Str→M PyData
 | 0=>fun _ _ _ _=>.bad
 | fl+1=>Zbk (Zbi fl)
noncomputable def Zay (draws_here:(List Int)) (at_:Int) (text:PySem.Str):M PySem.Str :=
 (M.catS (" []()az'A7&-" : PySem.Str) ("\n" : PySem.Str))>>=fun chars_1 =>
 (Zas draws_here at_ (5:Int))>>=fun deed_2 =>
 ((((Zas draws_here (at_+(1:Int)) (60:Int))>>=fun t3=>(M.ok (t3*(60:Int))))>>=fun t4=>((Zas draws_here (at_+(2:Int)) (60:Int))>>=fun t5=>(M.ok (t4+t5))))>>=fun t7=>(((M.lenS text)>>=fun t6=>(M.ok (t6+(1:Int))))>>=fun t8=>(M.asrt (0<t8) (.ok (t7%t8)))))>>=fun k_9 =>
 ((Zas draws_here (at_+(3:Int)) (13:Int))>>=fun t10=>(M.ixS chars_1 t10))>>=fun char_11 =>
 if (decide (deed_2=(0:Int))) then
 ((M.slS text none (some k_9))>>=fun t12=>((M.slS text (some (k_9+(1:Int))) none)>>=fun t13=>(M.catS t12 t13)))
else
 if (decide (deed_2=(1:Int))) then
  (((M.slS text none (some k_9))>>=fun t14=>(M.catS t14 char_11))>>=fun t15=>((M.slS text (some k_9) none)>>=fun t16=>(M.catS t15 t16)))
 else
  if (decide (deed_2=(2:Int))) then
   (((M.slS text none (some k_9))>>=fun t17=>(M.catS t17 char_11))>>=fun t18=>((M.slS text (some (k_9+(1:Int))) none)>>=fun t19=>(M.catS t18 t19)))
  else
   if (decide (deed_2=(3:Int))) then
    (M.slS text none (some k_9))
   else
    ((((M.slS text none (some k_9))>>=fun t20=>((M.slS text (some (k_9+(1:Int))) (some (k_9+(2:Int))))>>=fun t21=>(M.catS t20 t21)))>>=fun t22=>((M.slS text (some k_9) (some (k_9+(1:Int))))>>=fun t23=>(M.catS t22 t23)))>>=fun t24=>((M.slS text (some (k_9+(2:Int))) none)>>=fun t25=>(M.catS t24 t25)))
noncomputable def law_m (script:(Sq Int)):M Bool :=
 ((Zcm script (0:Int))>>=fun t1=>(ZbH t1 (60:Int)))>>=fun draws_here_2 =>
 ((Zcm script (1:Int))>>=fun t3=>(ZbH t3 (60:Int)))>>=fun extra_4 =>
 (((Zas extra_4 (59:Int) (7:Int))>>=fun t6=>(M.ok ((1:Int)+t6)))>>=fun t7=>(Zbe draws_here_2 extra_4 t7))>>=fun names_8 =>
 (ZbF draws_here_2 (0:Int) names_8)>>=fun program_here_9 =>
 (Zbe extra_4 draws_here_2 (13:Int))>>=fun many_10 =>
 ((((M.ofO (@OU.ofU PyData dUI _ program_here_9))>>=fun t11=>(Zal t11))>>=fun t12=>(M.ok (!t12)))>>=fun b15=>(if b15 then .ok true else (((Zce (cutL many_10 (some (1:Int)) none))>>=fun t13=>(Zal t13))>>=fun t14=>(M.ok (!t14)))))>>=fun b84=>if b84 then
 (M.ok false)
else
 ((((Zce many_10)>>=fun t16=>(Zal t16))>>=fun t17=>(M.ok (!t17)))>>=fun b20=>(if b20 then .ok true else (((M.ofO (@OU.ofU PyData dUI _ program_here_9))>>=fun t18=>(ZbG t18))>>=fun t19=>(M.ok (!Zcd t19)))))>>=fun b83=>if b83 then
  (M.ok false)
 else
  (M.cat names_8 [("q" : PySem.Str),("abcdefgh" : PySem.Str),("abcdefghi" : PySem.Str),("" : PySem.Str),("A" : PySem.Str),("a1" : PySem.Str),("x'" : PySem.Str),("b c" : PySem.Str),("zz-" : PySem.Str)])>>=fun menu_21 =>
   (M.range (8:Int))>>=fun l82 =>
   M.ZbA (fun (_:Unit) x23 =>
    (((Zcm script ((2:Int)+x23))>>=fun t25=>(M.ok (t25+((104729:Int)*x23))))>>=fun t26=>(ZbH t26 (60:Int)))>>=fun row_27 =>
     ((M.ofO (@OU.ofU PyData dUI _ program_here_9))>>=fun t30=>(((Zas row_27 (0:Int) (menu_21.length:Int))>>=fun t29=>(M.ix menu_21 t29))>>=fun t31=>(Zbi 100 row_27 (2:Int) t30 t31)))>>=fun changed_here_32 =>
     (((Zas row_27 (58:Int) (2:Int))>>=fun t33=>(M.ok (decide (t33=(1:Int)))))>>=fun b41=>if b41 then
     (((Zas row_27 (1:Int) (menu_21.length:Int))>>=fun t35=>(M.ix menu_21 t35))>>=fun t36=>(Zbi 100 row_27 (30:Int) changed_here_32 t36))>>=fun changed_here_37 =>
      M.ok changed_here_37
    else
     M.ok changed_here_32)>>=(fun s38:PyData =>
     ((Zal s38)>>=fun t39=>(M.ok (!t39)))>>=fun b40=>if b40 then
     (M.ok false)>>=fun r=>.ok (.rt r)
    else
     M.ok (.nx ()))) () l82>>=fun c81=>Ct.go c81 M.ok fun (_:Unit) =>
   ((M.ofO (@OU.ofU PyData dUI _ program_here_9))>>=fun t43=>(Zbg 100 t43))>>=fun text_44 =>
   (M.range (10:Int))>>=fun l80 =>
   M.ZbA (fun (_:Unit) x46 =>
    (((Zcm script ((10:Int)+x46))>>=fun t48=>(M.ok (t48+((15485863:Int)*x46))))>>=fun t49=>(ZbH t49 (10:Int)))>>=fun row_50 =>
     ((Zay row_50 (1:Int) text_44)>>=fun t51=>(M.ok (UD.toU t51)))>>=fun changed_here_52 =>
     (((Zas row_50 (0:Int) (3:Int))>>=fun t53=>(M.ok (decide (t53=(1:Int)))))>>=fun b61=>if b61 then
     (((M.ofO (OU.ofU (α:=PySem.Str) changed_here_52))>>=fun t54=>(Zay row_50 (5:Int) t54))>>=fun t55=>(M.ok (UD.toU t55)))>>=fun changed_here_56 =>
      M.ok changed_here_56
    else
     M.ok changed_here_52)>>=(fun s57:PyData =>
     (((M.ofO (OU.ofU (α:=PySem.Str) s57))>>=fun t58=>(ZaK t58))>>=fun t59=>(M.ok (!t59)))>>=fun b60=>if b60 then
     (M.ok false)>>=fun r=>.ok (.rt r)
    else
     M.ok (.nx ()))) () l80>>=fun c79=>Ct.go c79 M.ok fun (_:Unit) =>
   ((M.catS text_44 ("\n" : PySem.Str))>>=fun t70=>(((M.catS text_44 (" " : PySem.Str))>>=fun t68=>(((M.catS (" " : PySem.Str) text_44)>>=fun t66=>((((M.catS text_44 text_44)>>=fun t64=>(M.ok (t64::[])))>>=fun t65=>M.ok (("" : PySem.Str)::t65))>>=fun t67=>M.ok (t66::t67)))>>=fun t69=>M.ok (t68::t69)))>>=fun t71=>M.ok (t70::t71)))>>=fun l78 =>
   M.ZbA (fun (_:Unit) x72 =>
    ((ZaK x72)>>=fun t73=>(M.ok (!t73)))>>=fun b74=>if b74 then
     (M.ok false)>>=fun r=>.ok (.rt r)
    else
     M.ok (.nx ())) () l78>>=fun c77=>Ct.go c77 M.ok fun (_:Unit) =>
   ((M.ofO (@OU.ofU PyData dUI _ program_here_9))>>=fun t76=>(Zal t76))
end K81
namespace K81
open PySem L2 G PM
open KP (okC okN st Zer ZcV st_of st_cat st_inj st_inj' tw_ok dw_hd ok40 ok32 ok41 ouS ix0 ix1 ix2 Zep L40 L41)
inductive Pr where
 | nm (n:PySem.Str)
 | fn (n:PySem.Str) (b:Pr)
 | us (f a:Pr)
namespace Pr
def toD:Pr→PyData
 | nm n=>.tuple [.str "name",.str n]
 | fn n b=>.tuple [.str "fun",.str n,b.toD]
 | us f a=>.tuple [.str "use",f.toD,a.toD]
def hs:Pr→Nat
 | nm _=>1
 | fn _ b=>b.hs+1
 | us f a=>max f.hs a.hs+1
def cnt:Pr→Nat
 | nm _=>0
 | fn _ b=>b.cnt+1
 | us f a=>f.cnt+a.cnt+1
def funs:Pr→Nat
 | nm _=>0
 | fn _ b=>b.funs+1
 | us f a=>f.funs+a.funs
def ns:Pr→List PySem.Str
 | nm n=>[n]
 | fn n b=>n::b.ns
 | us f a=>f.ns++a.ns
def ev:Pr→List (PySem.Str×PySem.Str)
 | nm n=>[(("name" : PySem.Str),n)]
 | fn n b=>[(("bind" : PySem.Str),n)]++b.ev++[(("end" : PySem.Str),n)]
 | us f a=>f.ev++a.ev
def wr:Pr→List Nat
 | nm n=>n.cps.toList
 | fn n b=>91::(n.cps.toList++(32::(b.wr++[93])))
 | us f a=>40::(f.wr++(32::(a.wr++[41])))
theorem hs_pos:∀ p:Pr,1≤p.hs
 | nm _=>Nat.le_refl _
 | fn _ b=>by simp only [hs];omega
 | us f a=>by simp only [hs];omega
theorem hs_cnt:∀ p:Pr,p.hs≤p.cnt+1
 | nm _=>Nat.le_refl _
 | fn _ b=>by have:=hs_cnt b;simp only [hs,cnt];omega
 | us f a=>by have:=hs_cnt f;have:=hs_cnt a;simp only [hs,cnt];omega
theorem nol:∀ p:Pr,noL p.toD=true
 | nm _=>rfl
 | fn _ b=>by simp only [toD,noL,noLs,nol b,Bool.and_self]
 | us f a=>by simp only [toD,noL,noLs,nol f,nol a,Bool.and_self]
end Pr
theorem ouV (p:Pr) : @OU.ofU PyData dUI _ p.toD=some p.toD:=by
 show (if noL p.toD then some p.toD else none)=_
 rw [p.nol]
 rfl
theorem jx0 (a b:PyData):M.ix [a,b] (0:Int) = .ok a:=rfl
theorem jx1 (a b:PyData):M.ix [a,b] (1:Int) = .ok b:=rfl
theorem itN (n:PySem.Str):Zat (Pr.nm n).toD=some [.str "name",.str n]:=rfl
theorem itF (n:PySem.Str) (b:Pr):Zat (Pr.fn n b).toD=some [.str "fun",.str n,b.toD]:=rfl
theorem itU (f a:Pr):Zat (Pr.us f a).toD=some [.str "use",f.toD,a.toD]:=rfl
theorem nn:decide (("name" : PySem.Str) = "name")=true:=by decide
theorem nf:decide (("name" : PySem.Str) = "fun")=false:=by decide
theorem nu:decide (("name" : PySem.Str) = "use")=false:=by decide
theorem fN:decide (("fun" : PySem.Str) = "name")=false:=by decide
theorem ff:decide (("fun" : PySem.Str) = "fun")=true:=by decide
theorem fu:decide (("fun" : PySem.Str) = "use")=false:=by decide
theorem un:decide (("use" : PySem.Str) = "name")=false:=by decide
theorem uf:decide (("use" : PySem.Str) = "fun")=false:=by decide
theorem uu:decide (("use" : PySem.Str) = "use")=true:=by decide
theorem ZdU {α:Type} {xs ys:List α} (h:xs.length+ys.length≤100000):M.cat xs ys = .ok (xs++ys):=M.Zah (Nat.le_trans h (by decide))
theorem ev_len:∀ p:Pr,p.ev.length≤2*p.cnt+1
 | .nm _=>Nat.le_refl _
 | .fn n b=>by have:=ev_len b;simp only [Pr.ev,Pr.cnt,List.length_append,List.length_singleton];omega
 | .us f a=>by have:=ev_len f;have:=ev_len a;simp only [Pr.ev,Pr.cnt,List.length_append];omega
theorem events_ok:∀ (p:Pr) (n:Nat),p.hs≤n→p.cnt≤10000→ZbZ n p.toD = .ok p.ev
 | .nm m,n+1,_,_=>by
  show Zbu _ _=_
  unfold Zbu
  simp only [itN,M.ZaO,M.Zab,jx0,jx1,ouS,nn,if_true,decide_true]
  rfl
 | .fn m b,n+1,h,hc=>by
  simp only [Pr.cnt] at hc
  have h1:=events_ok b n (by simp only [Pr.hs] at h;omega) (by omega)
  have h2:=ev_len b
  show Zbu _ _=_
  unfold Zbu
  simp only [itF,M.ZaO,M.Zab,ix0,ix1,ix2,ouS,ouV,fN,ff,if_true,decide_true,Bool.false_eq_true,if_false,h1]
  rw [ZdU (by simp;omega)]
  simp only [M.Zab]
  rw [ZdU (by simp;omega)]
  rfl
 | .us f a,n+1,h,hc=>by
  simp only [Pr.cnt] at hc
  have h1:=events_ok f n (by simp only [Pr.hs] at h;omega) (by omega)
  have h2:=events_ok a n (by simp only [Pr.hs] at h;omega) (by omega)
  have h3:=ev_len f
  have h4:=ev_len a
  show Zbu _ _=_
  unfold Zbu
  simp only [itU,M.ZaO,M.Zab,ix0,ix1,ix2,ouS,ouV,un,uf,Bool.false_eq_true,if_false,h1,h2]
  exact ZdU (by omega)
 | p,0,h,_=>absurd p.hs_pos (by omega)
theorem popL_map (ss:List Pr) (x:Pr):M.popL ((ss++[x]).map Pr.toD) = .ok (ss.map Pr.toD,x.toD):=by
 unfold M.popL
 simp
def sz:Pr→Nat
 | .nm _=>1
 | .fn _ b=>sz b+1
 | .us f a=>sz f+sz a+1
theorem sz_pos:∀ p:Pr,1≤sz p
 | .nm _=>Nat.le_refl _
 | .fn _ b=>by simp only [sz];omega
 | .us f a=>by simp only [sz];omega
theorem sz_cnt:∀ p:Pr,sz p≤2*p.cnt+1
 | .nm _=>Nat.le_refl _
 | .fn _ b=>by have:=sz_cnt b;simp only [sz,Pr.cnt];omega
 | .us f a=>by have:=sz_cnt f;have:=sz_cnt a;simp only [sz,Pr.cnt];omega
theorem szs_len (ss:List Pr):ss.length≤(ss.map sz).sum:=by
 induction ss with
 | nil=>exact Nat.zero_le _
 | cons x ss ih =>
  have:=sz_pos x
  simp only [List.map_cons,List.sum_cons,List.length_cons]
  omega
theorem count_ok (p:Pr) (h:p.cnt≤10000):ZaW p.toD = .ok (p.funs:Int):=by
 unfold ZaW
 simp only [M.Zab]
 have hz:=sz_cnt p
 refine M.sat_val (M.Zdr (R1:=fun st=>st.1=(p.funs:Int)) (M.sat_loop (fun st:Int×List PyData=>∃ ss:List Pr,∃ k:Nat,st.1=(k:Int)∧st.2=ss.map Pr.toD∧k+(ss.map Pr.funs).sum=p.funs∧(ss.map sz).sum≤sz p) (fun st=>match st with | (_,w)=>(w.map sizeOf).sum) ⟨[p],0,rfl,rfl,by simp,by simp⟩ ?_) fun st e=>M.Zbb e)
 rintro ⟨fd,wt⟩ ⟨ss,k,e0,e1,e2,e3⟩
 simp only at e0 e1
 subst e0
 subst e1
 refine ⟨_,rfl,fun hb=>?_,fun hb=>?_⟩
 ·rcases List.eq_nil_or_concat ss with rfl | ⟨ss',x,rfl⟩
  ·cases hb
  ·rw [List.concat_eq_append] at e2 e3 ⊢
   rw [popL_map]
   have hl:=szs_len ss'
   simp only [List.map_append,List.map_cons,List.map_nil,List.sum_append,List.sum_cons,List.sum_nil] at e2 e3
   cases x with
   | nm n =>
    simp only [itN,M.ZaO,M.Zab,jx0,jx1,ouS,nf,nu,Bool.false_eq_true,if_false]
    refine ⟨_,rfl,⟨ss',k,rfl,rfl,by simp only [Pr.funs] at e2;omega,by omega⟩,?_⟩
    show ((ss'.map Pr.toD).map sizeOf).sum<_
    simp only [List.map_append,List.map_cons,List.map_nil,List.sum_append,List.sum_cons,List.sum_nil]
    have:0<sizeOf (Pr.nm n).toD:=by
     show 0<sizeOf (PyData.tuple _)
     simp
     omega
    omega
   | fn n b =>
    simp only [sz,Pr.funs] at e2 e3
    simp only [itF,M.ZaO,M.Zab,ix0,ix1,ix2,ouS,ouV,ff,if_true,decide_true]
    show M.sat (((M.aug (fun i j=>i+j) (k:Int) (M.ok (1:Int))>>=fun many_8=>M.push (ss'.map Pr.toD) (M.ok b.toD)>>=fun waiting_11=>M.ok (many_8,waiting_11)))>>=_) _
    rw [show M.aug (fun i j=>i+j) (k:Int) (M.ok (1:Int)) = .ok ((k:Int)+1) from rfl,M.ZbO (by rw [List.length_map];omega)]
    simp only [M.Zab,fu,Bool.false_eq_true,if_false]
    refine ⟨_,rfl,⟨ss'++[b],k+1,by simp,by simp,?_,?_⟩,?_⟩
    ·simp only [List.map_append,List.map_cons,List.map_nil,List.sum_append,List.sum_cons,List.sum_nil]
     omega
    ·simp only [List.map_append,List.map_cons,List.map_nil,List.sum_append,List.sum_cons,List.sum_nil]
     omega
    ·show ((ss'.map Pr.toD++[b.toD]).map sizeOf).sum<_
     simp only [List.map_append,List.map_cons,List.map_nil,List.sum_append,List.sum_cons,List.sum_nil]
     have:sizeOf b.toD<sizeOf (Pr.fn n b).toD:=by
      show _<sizeOf (PyData.tuple [.str "fun",.str n,b.toD])
      simp
      omega
     omega
   | us f a =>
    simp only [sz,Pr.funs] at e2 e3
    simp only [itU,M.ZaO,M.Zab,ix0,ix1,ix2,ouS,ouV,uf,uu,if_true,decide_true,Bool.false_eq_true,if_false]
    rw [M.ZbO (by rw [List.length_map];omega)]
    simp only [M.Zab]
    rw [M.ZbO (by rw [List.length_append,List.length_map];simp;omega)]
    refine ⟨_,rfl,⟨ss'++[f]++[a],k,rfl,by simp,?_,?_⟩,?_⟩
    ·simp only [List.map_append,List.map_cons,List.map_nil,List.sum_append,List.sum_cons,List.sum_nil]
     omega
    ·simp only [List.map_append,List.map_cons,List.map_nil,List.sum_append,List.sum_cons,List.sum_nil]
     omega
    ·show ((ss'.map Pr.toD++[f.toD]++[a.toD]).map sizeOf).sum<_
     simp only [List.map_append,List.map_cons,List.map_nil,List.sum_append,List.sum_cons,List.sum_nil]
     have:sizeOf f.toD+sizeOf a.toD<sizeOf (Pr.us f a).toD:=by
      show _<sizeOf (PyData.tuple [.str "use",f.toD,a.toD])
      simp
      omega
     omega
 ·cases ss with
  | nil =>
   show (k:Int)=_
   simp at e2
   omega
  | cons x ss=>cases hb
theorem lenS_b {n:PySem.Str} (h:n.length≤50000):M.lenS n = .ok (n.length:Int):=M.Zah (Nat.le_of_lt (ZcQ (by omega)))
theorem pname_ok {n:PySem.Str} (h:n.length≤50000):ZbE n = .ok (okN n):=by
 unfold ZbE okN
 rw [lenS_b h]
 simp only [M.Zab]
 have hs:M.signs n = .ok (signs n):=M.Zah (Nat.le_of_lt (ZcQ (show n.length≤100000 by omega)))
 by_cases h0:0<n.length
 ·have h0' : (0:Int)<(n.length:Int):=by omega
  rw [if_pos (by simpa using h0'),decide_eq_true h0,Bool.true_and]
  simp only [M.Zab]
  by_cases h8:n.length≤8
  ·have h8' : (n.length:Int)≤8:=by omega
   rw [if_pos (by simpa using h8'),decide_eq_true h8,Bool.true_and,hs]
   simp only [M.Zab]
   rw [M.comp_mapM KP.okX fun x hx=>by
    have e:=KP.inSg_ok hx
    unfold KP.az at e
    exact e]
   simp only [M.Zab]
   rw [KP.signs_okX,List.all_map]
   rfl
  ·have h8' : ¬ (n.length:Int)≤8:=by omega
   rw [if_neg (by simpa using h8'),decide_eq_false h8]
   rfl
 ·have h0' : ¬ (0:Int)<(n.length:Int):=by omega
  rw [if_neg (by simpa using h0'),decide_eq_false h0]
  rfl
theorem find_all {α:Type} (p:α→Bool):∀ xs:List α,(xs.findSome? fun x=>if p x then none else some false)=if xs.all p then none else some false
 | []=>rfl
 | x::xs=>by
  rw [List.findSome?_cons,List.all_cons]
  cases p x with
  | true=>exact find_all p xs
  | false=>rfl
theorem lname_ok {n:PySem.Str} (h:n.length≤50000):Zbr n = .ok (okN n):=by
 unfold Zbr okN
 simp only [M.Zab]
 rw [Zep (fun x=>if KP.okX x then none else some false) fun x hx=>by
  have e:=KP.niSg_ok hx
  unfold KP.az at e
  rw [e]
  simp only [M.Zab]
  cases KP.okX x<;>rfl]
 rw [find_all]
 have ea:(signs n).all KP.okX=n.cps.toList.all okC:=by
  have:=KP.signs_okX n
  have h2:=congrArg (fun l:List Bool=>l.all id) this
  simpa [List.all_map] using h2
 rw [ea]
 cases n.cps.toList.all okC with
 | false=>simp [Ct.go]
 | true =>
  simp only [if_true,M.Zab,Ct.go]
  rw [lenS_b h]
  simp only [M.Zab]
  by_cases h0:0<n.length
  ·rw [if_pos (decide_eq_true (by omega)),decide_eq_true h0]
   simp only [Bool.true_and,Bool.and_true]
   rw [M.ok.injEq,decide_eq_decide]
   omega
  ·rw [if_neg (by rw [decide_eq_true_eq];omega),decide_eq_false h0]
   rfl
inductive Ft where
 | large
 | bad (n:PySem.Str)
 | twice (n:PySem.Str)
 | unknown (n:PySem.Str)
 | used (n:PySem.Str)
 | idle (n:PySem.Str)
def Ft.toU:Ft→PyData
 | .large=>UD.toU (("large" : PySem.Str),(12:Int))
 | .bad n=>UD.toU (("bad" : PySem.Str),n)
 | .twice n=>UD.toU (("twice" : PySem.Str),n)
 | .unknown n=>UD.toU (("unknown" : PySem.Str),n)
 | .used n=>UD.toU (("used" : PySem.Str),n)
 | .idle n=>UD.toU (("idle" : PySem.Str),n)
def Ft.px:Ft→PX
 | .large=>⟨.TooLarge,some [("limit",.int 12)]⟩
 | .bad n=>⟨.BadName,some [("name",.str n)]⟩
 | .twice n=>⟨.BoundTwice,some [("name",.str n)]⟩
 | .unknown n=>⟨.UnknownName,some [("name",.str n)]⟩
 | .used n=>⟨.UsedTwice,some [("name",.str n)]⟩
 | .idle n=>⟨.NotUsed,some [("name",.str n)]⟩
def chk:Pr→List PySem.Str→List PySem.Str→List PySem.Str→Ft ⊕ (List PySem.Str×List PySem.Str)
 | .us f a,A,B,U=>match chk f A B U with | .inl e=>.inl e | .inr r=>chk a A r.1 r.2
 | .nm n,A,B,U=>if okN n=false then .inl (.bad n) else if n∉A then .inl (.unknown n) else if n∈U then .inl (.used n) else .inr (B,U++[n])
 | .fn n b,A,B,U=>if okN n=false then .inl (.bad n) else if n∈B then .inl (.twice n) else match chk b (A++[n]) (B++[n]) U with | .inl e=>.inl e | .inr r=>if n∉r.2 then .inl (.idle n) else .inr r
theorem memB_iff {x:PySem.Str} {l:List PySem.Str}:memB x l=decide (x∈l):=by simp [memB]
theorem chk_len:∀ {p:Pr} {A B U:List PySem.Str} {r:List PySem.Str×List PySem.Str},chk p A B U = .inr r→r.1.length≤B.length+p.cnt∧r.2.length≤U.length+(p.cnt+1)
 | .us f a,A,B,U,r,h=>by
  unfold chk at h
  cases e:chk f A B U with
  | inl x=>rw [e] at h;cases h
  | inr q =>
   rw [e] at h
   have h1:=chk_len e
   have h2:=chk_len (p:=a) h
   simp only [Pr.cnt]
   omega
 | .nm n,A,B,U,r,h=>by
  unfold chk at h
  split at h
  ·cases h
  ·split at h
   ·cases h
   ·split at h
    ·cases h
    ·cases h
     simp [Pr.cnt]
 | .fn n b,A,B,U,r,h=>by
  unfold chk at h
  split at h
  ·cases h
  ·split at h
   ·cases h
   ·cases e:chk b (A++[n]) (B++[n]) U with
    | inl x=>rw [e] at h;cases h
    | inr q =>
     rw [e] at h
     have h1:=chk_len e
     simp only at h
     split at h
     ·cases h
     ·cases h
      rw [List.length_append] at h1
      simp only [Pr.cnt]
      simp at h1
      omega
theorem pchk:∀ (p:Pr) (k:Nat) (A B U:List PySem.Str),p.hs≤k→A.length+p.cnt≤50000→B.length+p.cnt≤50000→U.length+p.cnt≤50000→(∀ n∈p.ns,n.length≤50000) →
  ZaP k p.toD A B U=match chk p A B U with | .inl f=>.exc f.px | .inr r=>.ok ((),r.1,r.2)
 | .us f a,k+1,A,B,U,hk,hA,hB,hU,hn=>by
  simp only [Pr.hs,Pr.cnt] at hk hA hB hU
  show ZaM _ _ _ _ _=_
  unfold ZaM chk
  simp only [itU,M.ZaO,M.Zab,ix0,ix1,ix2,ouS,ouV,uu,if_true,decide_true]
  rw [pchk f k A B U (by omega) (by omega) (by omega) (by omega) fun n h=>hn n (List.mem_append_left _ h)]
  cases e:chk f A B U with
  | inl x=>rfl
  | inr r =>
   have hl:=chk_len e
   simp only [M.Zab]
   rw [pchk a k A r.1 r.2 (by omega) (by omega) (by omega) (by omega) fun n h=>hn n (List.mem_append_right _ h)]
   cases chk a A r.1 r.2<;>rfl
 | .nm n,k+1,A,B,U,hk,hA,hB,hU,hn=>by
  have hn1:=hn n (List.mem_singleton.mpr rfl)
  show ZaM _ _ _ _ _=_
  unfold ZaM chk
  simp only [itN,M.ZaO,M.Zab,jx0,jx1,ouS,nu,Bool.false_eq_true,if_false]
  rw [pname_ok hn1]
  simp only [M.Zab]
  cases okN n with
  | false=>rfl
  | true =>
   simp only [Bool.not_true,Bool.false_eq_true,if_false,nn,if_true,decide_true,memB_iff,Bool.true_eq_false]
   by_cases h1:n∈A
   ·rw [decide_eq_true h1,if_neg (by simp),if_neg (not_not_intro h1)]
    by_cases h2:n∈U
    ·rw [decide_eq_true h2,if_pos rfl,if_pos h2]
     rfl
    ·rw [decide_eq_false h2,if_neg (by simp),if_neg h2,M.ZbO (by omega)]
     rfl
   ·rw [decide_eq_false h1,if_pos (by simp),if_pos h1]
    rfl
 | .fn n b,k+1,A,B,U,hk,hA,hB,hU,hn=>by
  simp only [Pr.hs,Pr.cnt] at hk hA hB hU
  have hn1:=hn n List.mem_cons_self
  show ZaM _ _ _ _ _=_
  unfold ZaM chk
  simp only [itF,M.ZaO,M.Zab,ix0,ix1,ix2,ouS,ouV,fu,Bool.false_eq_true,if_false]
  rw [pname_ok hn1]
  simp only [M.Zab]
  cases okN n with
  | false=>rfl
  | true =>
   simp only [Bool.not_true,Bool.false_eq_true,if_false,fN,memB_iff,Bool.true_eq_false]
   by_cases h1:n∈B
   ·rw [decide_eq_true h1,if_pos rfl,if_pos h1]
    rfl
   ·rw [decide_eq_false h1,if_neg (by simp),if_neg h1,M.ZbO (by omega),ZdU (by simp;omega)]
    simp only [M.Zab]
    rw [pchk b k (A++[n]) (B++[n]) U (by omega) (by simp;omega) (by simp;omega) (by omega) fun x h=>hn x (List.mem_cons_of_mem _ h)]
    cases e:chk b (A++[n]) (B++[n]) U with
    | inl x=>rfl
    | inr r =>
     simp only [M.Zab]
     by_cases h2:n∈r.2
     ·rw [decide_eq_true h2,if_neg (by simp),if_neg (not_not_intro h2)]
     ·rw [decide_eq_false h2,if_pos (by simp),if_pos h2]
      rfl
 | p,0,_,_,_,h,_,_,_,_=>absurd p.hs_pos (by omega)
noncomputable def evF:((List PySem.Str)×(List PySem.Str)×(List PySem.Str))→(PySem.Str×PySem.Str)→M (Ct ((List PySem.Str)×(List PySem.Str)×(List PySem.Str)) PyData):=(fun (s8:((List PySem.Str)×(List PySem.Str)×(List PySem.Str))) x9 =>
   ((Zbr x9.2)>>=fun t10=>(M.ok (!t10)))>>=fun b19=>if b19 then
    (M.ok (UD.toU (("bad" : PySem.Str),x9.2)))>>=fun r=>.ok (.rt r)
   else
    if (decide (x9.1=("bind" : PySem.Str))) then
     if (memB x9.2 s8.1) then
      (M.ok (UD.toU (("twice" : PySem.Str),x9.2)))>>=fun r=>.ok (.rt r)
     else
      M.push s8.1 (M.ok x9.2)>>=fun bound_11 =>
       M.push s8.2.1 (M.ok x9.2)>>=fun around_12 =>
       if (decide (x9.1=("name" : PySem.Str))) then
       if (!memB x9.2 around_12) then
        (M.ok (UD.toU (("unknown" : PySem.Str),x9.2)))>>=fun r=>.ok (.rt r)
       else
        if (memB x9.2 s8.2.2) then
         (M.ok (UD.toU (("used" : PySem.Str),x9.2)))>>=fun r=>.ok (.rt r)
        else
         M.push s8.2.2 (M.ok x9.2)>>=fun used_13 =>
          if (decide (x9.1=("end" : PySem.Str))) then
          (M.popL around_12)>>=fun p14 =>
           if (!memB x9.2 used_13) then
           (M.ok (UD.toU (("idle" : PySem.Str),x9.2)))>>=fun r=>.ok (.rt r)
          else
           M.ok (.nx (bound_11,p14.1,used_13))
         else
          M.ok (.nx (bound_11,around_12,used_13))
      else
       if (decide (x9.1=("end" : PySem.Str))) then
        (M.popL around_12)>>=fun p15 =>
         if (!memB x9.2 s8.2.2) then
         (M.ok (UD.toU (("idle" : PySem.Str),x9.2)))>>=fun r=>.ok (.rt r)
        else
         M.ok (.nx (bound_11,p15.1,s8.2.2))
       else
        M.ok (.nx (bound_11,around_12,s8.2.2))
    else
     if (decide (x9.1=("name" : PySem.Str))) then
      if (!memB x9.2 s8.2.1) then
       (M.ok (UD.toU (("unknown" : PySem.Str),x9.2)))>>=fun r=>.ok (.rt r)
      else
       if (memB x9.2 s8.2.2) then
        (M.ok (UD.toU (("used" : PySem.Str),x9.2)))>>=fun r=>.ok (.rt r)
       else
        M.push s8.2.2 (M.ok x9.2)>>=fun used_16 =>
         if (decide (x9.1=("end" : PySem.Str))) then
         (M.popL s8.2.1)>>=fun p17 =>
          if (!memB x9.2 used_16) then
          (M.ok (UD.toU (("idle" : PySem.Str),x9.2)))>>=fun r=>.ok (.rt r)
         else
          M.ok (.nx (s8.1,p17.1,used_16))
        else
         M.ok (.nx (s8.1,s8.2.1,used_16))
     else
      if (decide (x9.1=("end" : PySem.Str))) then
       (M.popL s8.2.1)>>=fun p18 =>
        if (!memB x9.2 s8.2.2) then
        (M.ok (UD.toU (("idle" : PySem.Str),x9.2)))>>=fun r=>.ok (.rt r)
       else
        M.ok (.nx (s8.1,p18.1,s8.2.2))
      else
       M.ok (.nx (s8.1,s8.2.1,s8.2.2)))
theorem evb (B A U:List PySem.Str) (n:PySem.Str) (hn:n.length≤50000) (hB:B.length≤50000) (hA:A.length≤50000):evF (B,A,U) ("bind",n)=if okN n=false then .ok (.rt (Ft.bad n).toU) else if n∈B then .ok (.rt (Ft.twice n).toU) else .ok (.nx (B++[n],A++[n],U)):=by
 unfold evF
 simp only
 rw [lname_ok hn]
 simp only [M.Zab]
 cases okN n with
 | false=>rfl
 | true =>
  simp only [Bool.not_true,Bool.false_eq_true,if_false,memB_iff,Bool.true_eq_false,show decide (("bind" : PySem.Str) = "bind")=true by decide,show decide (("bind" : PySem.Str) = "name")=false by decide,show decide (("bind" : PySem.Str) = "end")=false by decide,if_true,decide_true]
  by_cases h1:n∈B
  ·rw [decide_eq_true h1,if_pos rfl,if_pos h1]
   rfl
  ·rw [decide_eq_false h1,if_neg (by simp),if_neg h1,M.ZbO (by omega),M.ZbO (by omega)]
   rfl
theorem evn (B A U:List PySem.Str) (n:PySem.Str) (hn:n.length≤50000) (hU:U.length≤50000):evF (B,A,U) ("name",n)=if okN n=false then .ok (.rt (Ft.bad n).toU) else if n∉A then .ok (.rt (Ft.unknown n).toU) else if n∈U then .ok (.rt (Ft.used n).toU) else .ok (.nx (B,A,U++[n])):=by
 unfold evF
 simp only
 rw [lname_ok hn]
 simp only [M.Zab]
 cases okN n with
 | false=>rfl
 | true =>
  simp only [Bool.not_true,Bool.false_eq_true,if_false,memB_iff,Bool.true_eq_false,show decide (("name" : PySem.Str) = "bind")=false by decide,show decide (("name" : PySem.Str) = "name")=true by decide,show decide (("name" : PySem.Str) = "end")=false by decide,if_true,decide_true]
  by_cases h1:n∈A
  ·rw [decide_eq_true h1,if_neg (by simp),if_neg (not_not_intro h1)]
   by_cases h2:n∈U
   ·rw [decide_eq_true h2,if_pos rfl,if_pos h2]
    rfl
   ·rw [decide_eq_false h2,if_neg (by simp),if_neg h2,M.ZbO (by omega)]
    rfl
  ·rw [decide_eq_false h1,if_pos (by simp),if_pos h1]
   rfl
theorem popS (A:List PySem.Str) (n:PySem.Str):M.popL (A++[n]) = .ok (A,n):=by
 unfold M.popL
 simp
theorem eve (B A U:List PySem.Str) (n m:PySem.Str) (hn:n.length≤50000) (hok:okN n=true):evF (B,A++[m],U) ("end",n)=if n∉U then .ok (.rt (Ft.idle n).toU) else .ok (.nx (B,A,U)):=by
 unfold evF
 simp only
 rw [lname_ok hn,hok]
 simp only [M.Zab]
 simp only [Bool.not_true,Bool.false_eq_true,if_false,memB_iff,show decide (("end" : PySem.Str) = "bind")=false by decide,show decide (("end" : PySem.Str) = "name")=false by decide,show decide (("end" : PySem.Str) = "end")=true by decide,if_true,decide_true,popS,M.Zab]
 by_cases h1:n∈U
 ·rw [decide_eq_true h1,if_neg (by simp),if_neg (not_not_intro h1)]
 ·rw [decide_eq_false h1,if_pos (by simp),if_pos h1]
  rfl
theorem lchk:∀ (p:Pr) (A B U:List PySem.Str) (rest:List (PySem.Str×PySem.Str)),A.length+p.cnt≤50000→B.length+p.cnt≤50000→U.length+p.cnt≤50000→(∀ n∈p.ns,n.length≤50000) →
  M.ZbA evF (B,A,U) (p.ev++rest)=match chk p A B U with | .inl f=>.ok (.rt f.toU) | .inr r=>M.ZbA evF (r.1,A,r.2) rest
 | .us f a,A,B,U,rest,hA,hB,hU,hn=>by
  simp only [Pr.cnt] at hA hB hU
  show M.ZbA evF _ (f.ev++a.ev++rest)=_
  have ec:chk (.us f a) A B U=match chk f A B U with | .inl e=>.inl e | .inr r=>chk a A r.1 r.2:=rfl
  rw [ec,List.append_assoc,lchk f A B U (a.ev++rest) (by omega) (by omega) (by omega) fun n h=>hn n (List.mem_append_left _ h)]
  cases e:chk f A B U with
  | inl x=>rfl
  | inr r =>
   have hl:=chk_len e
   simp only
   exact lchk a A r.1 r.2 rest (by omega) (by omega) (by omega) fun n h=>hn n (List.mem_append_right _ h)
 | .nm n,A,B,U,rest,hA,hB,hU,hn=>by
  have hn1:=hn n (List.mem_singleton.mpr rfl)
  show M.ZbA evF _ ((("name" : PySem.Str),n)::rest)=_
  rw [Zez,evn B A U n hn1 (by omega)]
  unfold chk
  by_cases h0:okN n=false
  ·rw [if_pos h0,if_pos h0]
   rfl
  ·rw [if_neg h0,if_neg h0]
   by_cases h1:n∉A
   ·rw [if_pos h1,if_pos h1]
    rfl
   ·rw [if_neg h1,if_neg h1]
    by_cases h2:n∈U
    ·rw [if_pos h2,if_pos h2]
     rfl
    ·rw [if_neg h2,if_neg h2]
     rfl
 | .fn n b,A,B,U,rest,hA,hB,hU,hn=>by
  simp only [Pr.cnt] at hA hB hU
  have hn1:=hn n List.mem_cons_self
  have e0:(Pr.fn n b).ev++rest=(("bind" : PySem.Str),n)::(b.ev++((("end" : PySem.Str),n)::rest)):=by simp [Pr.ev]
  rw [e0,Zez,evb B A U n hn1 (by omega) (by omega)]
  unfold chk
  by_cases h0:okN n=false
  ·rw [if_pos h0,if_pos h0]
   rfl
  ·rw [if_neg h0,if_neg h0]
   by_cases h1:n∈B
   ·rw [if_pos h1,if_pos h1]
    rfl
   ·rw [if_neg h1,if_neg h1]
    simp only [M.Zab]
    rw [lchk b (A++[n]) (B++[n]) U _ (by simp;omega) (by simp;omega) (by omega) fun x h=>hn x (List.mem_cons_of_mem _ h)]
    cases e:chk b (A++[n]) (B++[n]) U with
    | inl x=>rfl
    | inr r =>
     simp only
     rw [Zez,eve r.1 A r.2 n n hn1 (by simpa using h0)]
     by_cases h2:n∉r.2
     ·rw [if_pos h2,if_pos h2]
      rfl
     ·rw [if_neg h2,if_neg h2]
      rfl
theorem binds:∀ p:Pr,(p.ev.filter fun x=>decide (x.1=("bind" : PySem.Str))).length=p.funs
 | .nm n=>by
  show (List.filter _ [(("name" : PySem.Str),n)]).length=0
  rw [List.filter_cons_of_neg (by simp;decide)]
  rfl
 | .fn n b=>by
  have:=binds b
  simp only [Pr.ev,List.filter_append,List.length_append,this,Pr.funs]
  rw [List.filter_cons_of_pos (by simp),List.filter_cons_of_neg (by simp;decide)]
  simp
  omega
 | .us f a=>by
  simp only [Pr.ev,List.filter_append,List.length_append,binds f,binds a,Pr.funs]
def flt (p:Pr):Option Ft:=if 12<p.funs then some .large else match chk p [] [] [] with | .inl f=>some f | .inr _=>none
def fU:Option Ft→PyData
 | some f=>f.toU
 | none=>UD.toU ()
structure Sm (p:Pr):Prop where
 hs:p.hs≤100
 cnt:p.cnt≤10000
 nm:∀ n∈p.ns,n.length≤50000
theorem fault_ok {p:Pr} (h:Sm p):ZbG p.toD = .ok (fU (flt p)):=by
 have hc:=h.cnt
 unfold ZbG
 rw [events_ok p 100 h.hs hc]
 simp only [M.Zab]
 rw [M.comp_ok]
 simp only [M.Zab,List.map_id']
 rw [binds]
 unfold flt
 by_cases h12:12<p.funs
 ·rw [if_pos h12,if_pos (decide_eq_true (by omega))]
  rfl
 ·rw [if_neg h12,if_neg (by rw [decide_eq_true_eq];omega)]
  have:=lchk p [] [] [] [] (by simp;omega) (by simp;omega) (by simp;omega) h.nm
  rw [List.append_nil] at this
  show (M.ZbA evF ([],[],[]) p.ev>>=_)=_
  rw [this]
  cases chk p [] [] []<;>rfl
theorem checked_ok {p:Pr} (h:Sm p):Zar p.toD=match flt p with | some f=>.exc f.px | none=>.ok ():=by
 have hc:=h.cnt
 unfold Zar flt
 rw [count_ok p hc]
 simp only [M.Zab]
 by_cases h12:12<p.funs
 ·rw [if_pos h12,if_pos (decide_eq_true (by omega))]
  rfl
 ·rw [if_neg h12,if_neg (by rw [decide_eq_true_eq];omega)]
  rw [pchk p 100 [] [] [] h.hs (by simp;omega) (by simp;omega) (by simp;omega) h.nm]
  cases chk p [] [] []<;>rfl
noncomputable def toldH:PX→M (PyData×PyData):=fun px5=>(M.ok ([]:(List PyData)))>>=fun found_6 =>
  (if (XC.isA px5.cls .TooLarge) then
  M.push found_6 (((px5.fld .TooLarge "limit")>>=fun t7=>(M.ok (UD.toU t7)))>>=fun t8=>(M.ok (PyData.tuple [(UD.toU ("large" : PySem.Str)),t8])))>>=fun found_9 =>
   M.ok found_9
 else
  M.ok found_6)>>=(fun s10:(List PyData) =>
  (if (XC.isA px5.cls .BadSign) then
  M.push s10 (((px5.fld .BadSign "sign")>>=fun t11=>(M.ok (UD.toU t11)))>>=fun t12=>(M.ok (PyData.tuple [(UD.toU ("sign" : PySem.Str)),t12])))>>=fun found_13 =>
   M.ok found_13
 else
  M.ok s10)>>=(fun s14:(List PyData) =>
  (if (XC.isA px5.cls .BadName) then
  M.push s14 (((px5.fldS .BadName "name")>>=fun t15=>(M.ok (UD.toU t15)))>>=fun t16=>(M.ok (PyData.tuple [(UD.toU ("bad" : PySem.Str)),t16])))>>=fun found_17 =>
   M.ok found_17
 else
  M.ok s14)>>=(fun s18:(List PyData) =>
  (if (XC.isA px5.cls .BoundTwice) then
  M.push s18 (((px5.fldS .BoundTwice "name")>>=fun t19=>(M.ok (UD.toU t19)))>>=fun t20=>(M.ok (PyData.tuple [(UD.toU ("twice" : PySem.Str)),t20])))>>=fun found_21 =>
   M.ok found_21
 else
  M.ok s18)>>=(fun s22:(List PyData) =>
  (if (XC.isA px5.cls .UnknownName) then
  M.push s22 (((px5.fldS .UnknownName "name")>>=fun t23=>(M.ok (UD.toU t23)))>>=fun t24=>(M.ok (PyData.tuple [(UD.toU ("unknown" : PySem.Str)),t24])))>>=fun found_25 =>
   M.ok found_25
 else
  M.ok s22)>>=(fun s26:(List PyData) =>
  (if (XC.isA px5.cls .UsedTwice) then
  M.push s26 (((px5.fldS .UsedTwice "name")>>=fun t27=>(M.ok (UD.toU t27)))>>=fun t28=>(M.ok (PyData.tuple [(UD.toU ("used" : PySem.Str)),t28])))>>=fun found_29 =>
   M.ok found_29
 else
  M.ok s26)>>=(fun s30:(List PyData) =>
  (if (XC.isA px5.cls .NotUsed) then
  M.push s30 (((px5.fldS .NotUsed "name")>>=fun t31=>(M.ok (UD.toU t31)))>>=fun t32=>(M.ok (PyData.tuple [(UD.toU ("idle" : PySem.Str)),t32])))>>=fun found_33 =>
   M.ok found_33
 else
  M.ok s30)>>=(fun s34:(List PyData) =>
  if ((!decide ((s34.length:Int)=(1:Int)))||(!true)) then
  (M.ok ((UD.toU (⟨[("other" : PySem.Str)]⟩:Tup PySem.Str)),(UD.toU ())))
 else
  ((M.ix s34 (0:Int))>>=fun t35=>(M.ok (t35,(UD.toU ())))))))))))
def sgU (i:Int):PyData:=UD.toU (("sign" : PySem.Str),i)
def Zeu (i:Int):PX:=⟨.BadSign,some [("sign",.int i)]⟩
theorem push0 (y:PyData):M.push [] (M.ok y) = .ok [y]:=M.ZbO (by decide)
theorem told_sign (i:Int):toldH (Zeu i) = .ok (sgU i,UD.toU ()):=by
 unfold toldH Zeu
 simp (decide:=true) only [if_true,if_false,M.Zab]
 rw [show PX.fld ⟨.BadSign,some [("sign",.int i)]⟩ .BadSign "sign" = .ok (i:Int) from rfl]
 simp only [M.Zab,push0]
 rfl
theorem told_px (f:Ft):toldH f.px = .ok (f.toU,UD.toU ()):=by
 cases f with
 | large =>
  unfold toldH Ft.px
  simp (decide:=true) only [if_true,if_false,M.Zab]
  rw [show PX.fld ⟨.TooLarge,some [("limit",.int 12)]⟩ .TooLarge "limit" = .ok (12:Int) from rfl]
  simp only [M.Zab,push0]
  rfl
 | bad n =>
  unfold toldH Ft.px
  simp (decide:=true) only [if_true,if_false,M.Zab]
  rw [show PX.fldS ⟨.BadName,some [("name",.str n)]⟩ .BadName "name" = .ok n from rfl]
  simp only [M.Zab,push0]
  rfl
 | twice n =>
  unfold toldH Ft.px
  simp (decide:=true) only [if_true,if_false,M.Zab]
  rw [show PX.fldS ⟨.BoundTwice,some [("name",.str n)]⟩ .BoundTwice "name" = .ok n from rfl]
  simp only [M.Zab,push0]
  rfl
 | unknown n =>
  unfold toldH Ft.px
  simp (decide:=true) only [if_true,if_false,M.Zab]
  rw [show PX.fldS ⟨.UnknownName,some [("name",.str n)]⟩ .UnknownName "name" = .ok n from rfl]
  simp only [M.Zab,push0]
  rfl
 | used n =>
  unfold toldH Ft.px
  simp (decide:=true) only [if_true,if_false,M.Zab]
  rw [show PX.fldS ⟨.UsedTwice,some [("name",.str n)]⟩ .UsedTwice "name" = .ok n from rfl]
  simp only [M.Zab,push0]
  rfl
 | idle n =>
  unfold toldH Ft.px
  simp (decide:=true) only [if_true,if_false,M.Zab]
  rw [show PX.fldS ⟨.NotUsed,some [("name",.str n)]⟩ .NotUsed "name" = .ok n from rfl]
  simp only [M.Zab,push0]
  rfl
theorem told_prog {p:Pr} (h:Sm p) (t:PySem.Str):ZbS p.toD t false = .ok (fU (flt p),UD.toU ()):=by
 unfold ZbS
 rw [checked_ok h]
 cases hf:flt p with
 | none=>rfl
 | some f =>
  show M.tryK kn (fun c=>XC.isA c .ComesapartError) (.exc f.px) toldH=_
  rw [M.tryK_exc (by cases f<;>rfl) (by cases f<;>rfl)]
  exact told_px f
structure At (cs l:List Nat) (at_:Int):Prop where
 ex:∃ pre,cs=pre++l∧at_=(pre.length:Int)
 sm:cs.length≤40000
theorem At.next {cs l:List Nat} {c:Nat} {a:Int} (h:At cs (c::l) a):At cs l (a+1):=by
 obtain ⟨⟨pre,e,e2⟩,hs⟩:=h
 exact ⟨⟨pre++[c],by simp [e],by rw [e2];simp⟩,hs⟩
theorem At.val {cs l:List Nat} {a:Int} (h:At cs l a):a=(cs.length:Int)-l.length:=by
 obtain ⟨⟨pre,e,e2⟩,hs⟩:=h
 rw [e,e2,List.length_append]
 omega
theorem At.le {cs l:List Nat} {a:Int} (h:At cs l a):l.length≤cs.length:=by
 obtain ⟨⟨pre,e,e2⟩,hs⟩:=h
 rw [e,List.length_append]
 omega
theorem At.app {cs l m:List Nat} {a:Int} (h:At cs (m++l) a):At cs l (a+m.length):=by
 obtain ⟨⟨pre,e,e2⟩,hs⟩:=h
 exact ⟨⟨pre++m,by simp [e],by rw [e2];simp⟩,hs⟩
theorem At.suf {cs l m:List Nat} {a:Int} (h:At cs (m++l) a):At cs l ((cs.length:Int)-l.length):=by
 have:=h.app
 rw [this.val] at this
 exact this
theorem At.all {cs:List Nat} (h:cs.length≤40000):At cs cs 0:=⟨⟨[],rfl,rfl⟩,h⟩
theorem lenT {cs:List Nat} (h:cs.length≤40000):M.lenS (st cs) = .ok (cs.length:Int):=by
 rw [lenS_b (by rw [ZcV];omega),ZcV]
theorem At.ix {cs l:List Nat} {c:Nat} {a:Int} (h:At cs (c::l) a):M.ixS (st cs) a = .ok (st [c]):=by
 obtain ⟨⟨pre,e,e2⟩,hs⟩:=h
 unfold M.ixS
 rw [M.Zah (Nat.le_of_lt (ZcQ (by rw [ZcV];omega)))]
 rw [e2,Zer,atI_of (i:=(pre.length:Int)) (x:=c) (by omega) (by rw [e];simp)]
 rfl
theorem At.lt {cs l:List Nat} {a:Int} (h:At cs l a):decide (a<(cs.length:Int)) = !l.isEmpty:=by
 have:=h.val
 have:=h.le
 cases l with
 | nil=>exact decide_eq_false (by simp at *;omega)
 | cons c l=>exact decide_eq_true (by simp at *;omega)
theorem At.ge {cs l:List Nat} {a:Int} (h:At cs l a):decide ((cs.length:Int)≤a)=l.isEmpty:=by
 have:=h.val
 have:=h.le
 cases l with
 | nil=>exact decide_eq_true (by simp at *;omega)
 | cons c l=>exact decide_eq_false (by simp at *;omega)
theorem L32:(" " : PySem.Str)=st [32]:=by decide
theorem L91:("[" : PySem.Str)=st [91]:=by decide
theorem L93:("]" : PySem.Str)=st [93]:=by decide
theorem Zcq (a b:Nat):decide (st [a]=st [b])=decide (a=b):=by
 rw [st_inj']
 exact decide_eq_decide.mpr (by simp)
def exM (a:Int) (c:Nat):List Nat→M Int
 | []=>.exc (Zeu a)
 | d::_=>if d=c then .ok (a+1) else .exc (Zeu a)
def hdC:List Nat→Bool
 | []=>false
 | c::_=>okC c
theorem expect_ok {cs l:List Nat} {a:Int} (h:At cs l a) (c:Nat):ZaV (st cs) a (st [c])=exM a c l:=by
 unfold ZaV
 rw [lenT h.sm]
 simp only [M.Zab]
 rw [h.ge]
 cases l with
 | nil=>rfl
 | cons d l =>
  simp only [List.isEmpty_cons,Bool.false_eq_true,if_false]
  rw [h.ix]
  simp only [M.Zab]
  rw [Zcq]
  show _=if d=c then M.ok (a+1) else M.exc (Zeu a)
  by_cases hd:d=c
  ·rw [if_pos hd,decide_eq_true hd];rfl
  ·rw [if_neg hd,decide_eq_false hd];rfl
theorem test_ok {cs l:List Nat} {s:Int} (h:At cs l s):(((M.lenS (st cs))>>=fun t3=>(M.ok (decide (s<t3))))>>=fun b5=>(if b5 then ((M.ixS (st cs) s)>>=fun t4=>(M.inSg t4 ("abcdefghijklmnopqrstuvwxyz" : PySem.Str))) else .ok false)) = .ok (hdC l):=by
 rw [lenT h.sm]
 simp only [M.Zab]
 rw [h.lt]
 cases l with
 | nil=>rfl
 | cons c l =>
  simp only [List.isEmpty_cons,Bool.not_false,if_true]
  rw [h.ix]
  rfl
theorem loop_ok {cs l:List Nat} {a:Int} {t:Int→M Bool} {f:Int→M Int} (h:At cs l a) (ht:∀ s l',At cs l' s→t s = .ok (hdC l')) (hf:∀ s,f s = .ok (s+1)) :
  M.loop t f a = .ok (a+(l.takeWhile okC).length):=by
 refine M.sat_val (M.sat_loop (fun s=>∃ k l',l=k++l'∧s=a+k.length∧(∀ c∈k,okC c=true)) (fun s=>((cs.length:Int)-s).toNat) ⟨[],l,rfl,by simp,fun c hc=>nomatch hc⟩ ?_)
 rintro s ⟨k,l',e,es,hk⟩
 have h' : At cs l' s:=by
  rw [es]
  exact At.app (e▸h)
 refine ⟨_,ht s l' h',fun hb=>?_,fun hb=>?_⟩
 ·cases l' with
  | nil=>cases hb
  | cons c l' =>
   refine ⟨_,hf s,⟨k++[c],l',by simp [e],by rw [es];simp;omega,fun d hd=>?_⟩,?_⟩
   ·rcases List.mem_append.mp hd with hd | hd
    ·exact hk d hd
    ·rw [List.mem_singleton] at hd
     exact hd▸hb
   ·have:=h'.val
    have:=h'.le
    simp at *
    omega
 ·rw [es,e,List.takeWhile_append_of_pos hk]
  have:l'.takeWhile okC=[]:=by
   cases l' with
   | nil=>rfl
   | cons c l' =>
    have hb:okC c=false:=hb
    rw [List.takeWhile_cons,hb]
    rfl
  rw [this,List.append_nil]
theorem name_end_ok {cs l:List Nat} {a:Int} (h:At cs l a):Zbd (st cs) a=if l.takeWhile okC=[] then .exc (Zeu a) else .ok (a+(l.takeWhile okC).length):=by
 unfold Zbd
 simp only [M.Zab]
 refine (M.bnd (loop_ok h (fun s l' h'=>test_ok h') fun s=>rfl)).trans ?_
 by_cases hn:l.takeWhile okC=[]
 ·rw [if_pos hn,if_pos (decide_eq_true (by rw [hn];simp))]
  rfl
 ·rw [if_neg hn,if_neg]
  intro z
  have z:=of_decide_eq_true z
  have:(l.takeWhile okC).length≠0:=fun z=>hn (List.length_eq_zero_iff.mp z)
  omega
theorem sl_name {cs l n r:List Nat} {a:Int} (h:At cs l a) (e:l=n++r):M.slS (st cs) (some a) (some (a+n.length)) = .ok (st n):=by
 unfold M.slS
 rw [M.Zah (Nat.le_of_lt (ZcQ (by rw [ZcV];have:=h.sm;omega)))]
 obtain ⟨⟨pre,e1,e2⟩,hs⟩:=h
 unfold cutS
 rw [e2,show ((pre.length:Int)+(n.length:Int))=((pre.length+n.length:Nat):Int) by simp,HT.sIx_nat,HT.sIx_nat,ZcV,Zer]
 have hl:cs.length=pre.length+(n.length+r.length):=by rw [e1,e];simp
 rw [Nat.min_eq_left (by omega),Nat.min_eq_left (by omega),show pre.length+n.length-pre.length=n.length by omega]
 rw [e1,e,List.drop_left,List.take_left]
 rfl
theorem head_ok {cs l:List Nat} {a:Int} (h:At cs l a) (d:Nat):(((M.lenS (st cs))>>=fun t1=>(M.ok (decide (a<t1))))>>=fun b3=>(if b3 then ((M.ixS (st cs) a)>>=fun t2=>(M.ok (decide (t2=st [d])))) else .ok false)) = .ok (decide (l.head? = some d)):=by
 rw [lenT h.sm]
 simp only [M.Zab]
 rw [h.lt]
 cases l with
 | nil=>rfl
 | cons c l =>
  simp only [List.isEmpty_cons,Bool.not_false,if_true]
  rw [h.ix]
  simp only [M.Zab]
  rw [Zcq]
  simp
theorem head_not {l:List Nat} {c:Nat} (h:¬ l.head? = some c):decide (l.head? = some c)=false:=decide_eq_false h
inductive Rs where
 | bad
 | err (r:List Nat)
 | ok (s:Pr) (r:List Nat)
def Rs.on (x:Rs) (k:Pr→List Nat→Rs):Rs:=match x with | .bad=>.bad | .err r=>.err r | .ok s r=>k s r
def ex (c:Nat) (l:List Nat) (k:List Nat→Rs):Rs:=match l with | []=>.err [] | d::l'=>if d=c then k l' else .err (d::l')
def nmr (l:List Nat) (k:PySem.Str→List Nat→Rs):Rs:=if l.takeWhile okC=[] then .err l else k (st (l.takeWhile okC)) (l.dropWhile okC)
def rd:Nat→List Nat→Rs
 | 0,_=>.bad
 | f+1,l=>if l.head? = some 91 then
   nmr l.tail fun n l2=>ex 32 l2 fun l3=>(rd f l3).on fun b l4=>ex 93 l4 fun l5=>.ok (.fn n b) l5
  else if l.head? = some 40 then
   (rd f l.tail).on fun a l2=>ex 32 l2 fun l3=>(rd f l3).on fun b l4=>ex 41 l4 fun l5=>.ok (.us a b) l5
  else nmr l fun n l2=>.ok (.nm n) l2
theorem on_ok {x:Rs} {k:Pr→List Nat→Rs} {s:Pr} {r:List Nat} (h:x.on k = .ok s r):∃ a l2,x = .ok a l2∧k a l2 = .ok s r:=by
 cases x with
 | bad=>cases h
 | err r=>cases h
 | ok a l2=>exact ⟨a,l2,rfl,h⟩
theorem ex_ok {c:Nat} {l:List Nat} {k:List Nat→Rs} {s:Pr} {r:List Nat} (h:ex c l k = .ok s r):∃ l',l=c::l'∧k l' = .ok s r:=by
 cases l with
 | nil=>cases h
 | cons d l =>
  have h:(if d=c then k l else .err (d::l)) = .ok s r:=h
  by_cases hd:d=c
  ·rw [if_pos hd] at h
   exact ⟨l,by rw [hd],h⟩
  ·rw [if_neg hd] at h;cases h
theorem nmr_ok {l:List Nat} {k:PySem.Str→List Nat→Rs} {s:Pr} {r:List Nat} (h:nmr l k = .ok s r):∃ n l',l=n++l'∧n≠[]∧(∀ c∈n,okC c=true)∧l'=l.dropWhile okC∧k (st n) l' = .ok s r:=by
 unfold nmr at h
 by_cases hn:l.takeWhile okC=[]
 ·rw [if_pos hn] at h;cases h
 ·rw [if_neg hn] at h
  exact ⟨l.takeWhile okC,l.dropWhile okC,(List.takeWhile_append_dropWhile).symm,hn,tw_ok l,rfl,h⟩
def Nm (s:Pr):Prop:=∀ x∈s.ns,x.cps.toList≠[] ∧ ∀ c∈x.cps.toList,okC c=true
theorem rd_ok:∀ {f:Nat} {l r:List Nat} {s:Pr},rd f l = .ok s r→l=s.wr++r∧Nm s∧s.hs≤f
 | 0,_,_,_,h=>by cases h
 | f+1,l,r,s,h=>by
  unfold rd at h
  by_cases hl:l.head? = some 91
  ·rw [if_pos hl] at h
   obtain ⟨l1,rfl⟩:∃ l1,l=91::l1:=by
    cases l with
    | nil=>cases hl
    | cons c l=>cases hl;exact ⟨l,rfl⟩
   obtain ⟨n,l2,e1,n1,n2,_,g1⟩:=nmr_ok h
   have e1:l1=n++l2:=e1
   obtain ⟨l3,rfl,g2⟩:=ex_ok g1
   obtain ⟨b,l4,h2,g3⟩:=on_ok g2
   obtain ⟨l5,rfl,g4⟩:=ex_ok g3
   cases g4
   obtain ⟨e2,m2,d2⟩:=rd_ok h2
   refine ⟨?_,fun x hx=>?_,?_⟩
   ·rw [e1,e2]
    show _=(91::(n++(32::(b.wr++[93]))))++r
    simp
   ·rcases List.mem_cons.mp hx with rfl | hx
    ·exact ⟨n1,n2⟩
    ·exact m2 x hx
   ·show b.hs+1≤f+1
    omega
  ·rw [if_neg hl] at h
   by_cases hl2:l.head? = some 40
   ·rw [if_pos hl2] at h
    obtain ⟨l1,rfl⟩:∃ l1,l=40::l1:=by
     cases l with
     | nil=>cases hl2
     | cons c l=>cases hl2;exact ⟨l,rfl⟩
    obtain ⟨a,l2,h1,g1⟩:=on_ok h
    obtain ⟨l3,rfl,g2⟩:=ex_ok g1
    obtain ⟨b,l4,h2,g3⟩:=on_ok g2
    obtain ⟨l5,rfl,g4⟩:=ex_ok g3
    cases g4
    obtain ⟨e1,m1,d1⟩:=rd_ok h1
    obtain ⟨e2,m2,d2⟩:=rd_ok h2
    have e1:l1=_:=e1
    refine ⟨?_,fun x hx=>?_,?_⟩
    ·rw [e1,e2]
     show _=(40::(a.wr++(32::(b.wr++[41]))))++r
     simp
    ·rcases List.mem_append.mp hx with hx | hx
     ·exact m1 x hx
     ·exact m2 x hx
    ·show max a.hs b.hs+1≤f+1
     omega
   ·rw [if_neg hl2] at h
    obtain ⟨n,l2,e1,n1,n2,_,g1⟩:=nmr_ok h
    cases g1
    refine ⟨e1,fun x hx=>?_,by show 1≤f+1;omega⟩
    rw [List.mem_singleton.mp hx]
    exact ⟨n1,n2⟩
def out (cs:List Nat):Rs→M (PyData×Int)
 | .bad=>.bad
 | .err r=>.exc (Zeu ((cs.length:Int)-r.length))
 | .ok s r=>.ok (s.toD,(cs.length:Int)-r.length)
theorem out_ex {cs l:List Nat} {a:Int} (h:At cs l a) (c:Nat) (k:List Nat→Rs) (km:Int→M (PyData×Int)) (hk:∀ l',l=c::l'→km (a+1)=out cs (k l')):(ZaV (st cs) a (st [c])>>=km)=out cs (ex c l k):=by
 rw [expect_ok h]
 unfold ex exM
 cases l with
 | nil =>
  show M.exc (Zeu a)=M.exc (Zeu _)
  rw [h.val]
 | cons d l =>
  simp only
  by_cases hd:d=c
  ·rw [if_pos hd,if_pos hd]
   exact hk l (by rw [hd])
  ·rw [if_neg hd,if_neg hd]
   show M.exc (Zeu a)=M.exc (Zeu _)
   rw [h.val]
theorem read_ok:∀ (f:Nat) (cs l:List Nat) (a:Int),At cs l a→ZaE f (st cs) a=out cs (rd f l)
 | 0,_,_,_,_=>rfl
 | f+1,cs,l,a,h=>by
  show ZbD (ZaE f) (st cs) a=_
  unfold ZbD
  rw [L91,L40,head_ok h 91]
  simp only [M.Zab]
  unfold rd
  by_cases hl:l.head? = some 91
  ·rw [if_pos (decide_eq_true hl),if_pos hl]
   obtain ⟨l1,rfl⟩:∃ l1,l=91::l1:=by
    cases l with
    | nil=>cases hl
    | cons c l=>cases hl;exact ⟨l,rfl⟩
   have h1:=h.next
   rw [name_end_ok h1,List.tail_cons]
   unfold nmr
   by_cases hn:l1.takeWhile okC=[]
   ·rw [if_pos hn,if_pos hn]
    show M.exc (Zeu _)=M.exc (Zeu _)
    rw [h1.val]
   ·rw [if_neg hn,if_neg hn]
    simp only [M.Zab]
    have hs:=List.takeWhile_append_dropWhile (p:=okC) (l:=l1)
    have h2:At cs (l1.dropWhile okC) (a+1+(l1.takeWhile okC).length):=At.app (by rw [hs];exact h1)
    rw [L32,L93,sl_name h1 hs.symm]
    simp only [M.Zab,M.assoc]
    refine out_ex h2 32 _ _ fun l3 e3=>?_
    have h3:At cs l3 (a+1+(l1.takeWhile okC).length+1):=by rw [e3] at h2;exact h2.next
    rw [read_ok f cs l3 _ h3]
    cases e4:rd f l3 with
    | bad=>rfl
    | err r=>rfl
    | ok b l4 =>
     have h4:At cs l4 ((cs.length:Int)-l4.length):=At.suf ((rd_ok e4).1▸h3)
     show (ZaV (st cs) ((cs.length:Int)-l4.length) (st [93])>>=_)=out cs (ex 93 l4 _)
     refine out_ex h4 93 _ _ fun l5 e5=>?_
     have h5:At cs l5 ((cs.length:Int)-l4.length+1):=by rw [e5] at h4 ⊢;exact h4.next
     show M.ok (_,_)=M.ok (_,_)
     rw [h5.val]
     rfl
  ·rw [if_neg (by rw [head_not hl];decide),if_neg hl,head_ok h 40]
   simp only [M.Zab]
   by_cases hl2:l.head? = some 40
   ·rw [if_pos (decide_eq_true hl2),if_pos hl2]
    obtain ⟨l1,rfl⟩:∃ l1,l=40::l1:=by
     cases l with
     | nil=>cases hl2
     | cons c l=>cases hl2;exact ⟨l,rfl⟩
    rw [read_ok f cs l1 _ h.next,List.tail_cons]
    cases e1:rd f l1 with
    | bad=>rfl
    | err r=>rfl
    | ok x l2 =>
     have h2:At cs l2 ((cs.length:Int)-l2.length):=At.suf ((rd_ok e1).1▸h.next)
     show ((ZaV (st cs) ((cs.length:Int)-l2.length) " " >>= _)>>=_)=out cs (ex 32 l2 _)
     rw [L32,L41]
     simp only [M.assoc]
     refine out_ex h2 32 _ _ fun l3 e3=>?_
     have h3:At cs l3 ((cs.length:Int)-l2.length+1):=by rw [e3] at h2 ⊢;exact h2.next
     rw [read_ok f cs l3 _ h3]
     cases e4:rd f l3 with
     | bad=>rfl
     | err r=>rfl
     | ok b l4 =>
      have h4:At cs l4 ((cs.length:Int)-l4.length):=At.suf ((rd_ok e4).1▸h3)
      show (ZaV (st cs) ((cs.length:Int)-l4.length) (st [41])>>=_)=out cs (ex 41 l4 _)
      refine out_ex h4 41 _ _ fun l5 e5=>?_
      have h5:At cs l5 ((cs.length:Int)-l4.length+1):=by rw [e5] at h4 ⊢;exact h4.next
      show M.ok (_,_)=M.ok (_,_)
      rw [h5.val]
      rfl
   ·rw [if_neg (by rw [head_not hl2];decide),if_neg hl2,name_end_ok h]
    unfold nmr
    by_cases hn:l.takeWhile okC=[]
    ·rw [if_pos hn,if_pos hn]
     show M.exc (Zeu _)=M.exc (Zeu _)
     rw [h.val]
    ·rw [if_neg hn,if_neg hn]
     simp only [M.Zab]
     have hs:=List.takeWhile_append_dropWhile (p:=okC) (l:=l)
     have h2:At cs (l.dropWhile okC) (a+(l.takeWhile okC).length):=At.app (by rw [hs];exact h)
     rw [sl_name h hs.symm]
     show M.ok (_,_)=M.ok (_,_)
     rw [h2.val]
     rfl
inductive Tk where
 | prog | name | sp | cb | cp
 deriving DecidableEq
def tk:Tk→PySem.Str
 | .prog=>"program"
 | .name=>"name"
 | .sp=>" "
 | .cb=>"]"
 | .cp=>")"
def tc:Tk→Option Nat
 | .sp=>some 32
 | .cb=>some 93
 | .cp=>some 41
 | _=>none
def stq (c:Nat) (s:List Tk) (ins:Bool):Option (List Tk×Bool) :=
 if okC c then (if ins then some (s,true) else match s with | .prog::s'=>some (s',true) | .name::s'=>some (s',true) | _=>none)
 else match s with
  | []=>none
  | t::s'=>if t = .prog∧c=91 then some (.name :: .sp :: .prog :: .cb::s',false) else if t = .prog∧c=40 then some (.prog :: .sp :: .prog :: .cp::s',false) else if tc t=some c then some (s',false) else none
def run:List Tk→Bool→List Nat→List Nat ⊕ (List Tk×Bool)
 | s,ins,[]=>.inr (s,ins)
 | s,ins,c::l=>match stq c s ins with
  | none=>.inl (c::l)
  | some (s',i')=>run s' i' l
def fin:List Nat ⊕ (List Tk×Bool)→Option (List Nat)
 | .inl r=>some r
 | .inr (s,_)=>if s=[] then none else some []
def Aft (ins:Bool) (r:List Nat):Prop:=ins=true → ∀ c l,r=c::l→okC c=false
def Says (R:List Nat ⊕ (List Tk×Bool)) (s:List Tk):Rs→Prop
 | .bad=>True
 | .err r=>fin R=some r
 | .ok _ r=>∃ ins,Aft ins r∧R=run s ins r
theorem ZdQ {s s' : List Tk} {i i' : Bool} {c:Nat} {l:List Nat} (h:stq c s i=some (s',i')):run s i (c::l)=run s' i' l:=by
 show (match stq c s i with | none=>_ | some (s',i')=>run s' i' l)=_
 rw [h]
theorem ZdA {s:List Tk} {i:Bool} {c:Nat} {l:List Nat} (h:stq c s i=none):fin (run s i (c::l))=some (c::l):=by
 show fin (match stq c s i with | none=>_ | some (s',i')=>run s' i' l)=_
 rw [h]
 rfl
theorem says_on {R:List Nat ⊕ (List Tk×Bool)} {s s2:List Tk} {x:Rs} {k:Pr→List Nat→Rs} (h:Says R s x) (h2:∀ a i r,Aft i r→Says (run s i r) s2 (k a r)):Says R s2 (x.on k):=by
 cases x with
 | bad=>trivial
 | err r=>exact h
 | ok a r =>
  obtain ⟨q,ha,e⟩:=h
  show Says R s2 (k a r)
  rw [e]
  exact h2 a q r ha
theorem tc_no {t:Tk} {c:Nat} (h:tc t=some c):okC c=false∧t ≠ .prog∧t ≠ .name:=by
 cases t<;>simp only [tc] at h<;>first | (cases h;exact ⟨by decide,by decide,by decide⟩) | (cases h)
theorem says_ex {t:Tk} {s s2:List Tk} {i:Bool} {c:Nat} {l:List Nat} {k:List Nat→Rs} (ht:tc t=some c) (ha:Aft i l) (h2:∀ l',Says (run s false l') s2 (k l')):Says (run (t::s) i l) s2 (ex c l k):=by
 obtain ⟨hc,n1,n2⟩:=tc_no ht
 cases l with
 | nil=>rfl
 | cons d l =>
  show Says _ _ (if d=c then k l else .err (d::l))
  by_cases hd:d=c
  ·subst hd
   rw [if_pos rfl]
   have e:stq d (t::s) i=some (s,false):=by
    unfold stq
    rw [if_neg (by rw [hc];decide)]
    show (if t = .prog∧d=91 then _ else if t = .prog∧d=40 then _ else if tc t=some d then some (s,false) else none)=_
    rw [if_neg (fun z=>n1 z.1),if_neg (fun z=>n1 z.1),if_pos ht]
   rw [ZdQ e]
   exact h2 l
  ·rw [if_neg hd]
   refine ZdA ?_
   unfold stq
   by_cases hk:okC d=true
   ·rw [if_pos hk]
    cases i with
    | true =>
     have:=ha rfl d l rfl
     rw [hk] at this
     cases this
    | false =>
     rw [if_neg (by simp)]
     cases t with
     | prog=>exact absurd rfl n1
     | name=>exact absurd rfl n2
     | sp=>rfl
     | cb=>rfl
     | cp=>rfl
   ·rw [if_neg hk]
    show (if t = .prog∧d=91 then _ else if t = .prog∧d=40 then _ else if tc t=some d then some (s,false) else none)=none
    rw [if_neg (fun z=>n1 z.1),if_neg (fun z=>n1 z.1),if_neg (fun z=>hd (by rw [ht] at z;exact (Option.some.inj z).symm))]
theorem run_names:∀ {n:List Nat} (s:List Tk) (r:List Nat),(∀ c∈n,okC c=true)→run s true (n++r)=run s true r
 | [],_,_,_=>rfl
 | c::n,s,r,h=>by
  show (match stq c s true with | none=>_ | some (s',i')=>run s' i' (n++r))=_
  rw [show stq c s true=some (s,true) by unfold stq;rw [if_pos (h c List.mem_cons_self),if_pos rfl]]
  exact run_names s r fun c hc=>h c (List.mem_cons_of_mem _ hc)
theorem says_nmr {t:Tk} {s s2:List Tk} {l:List Nat} {k:PySem.Str→List Nat→Rs} (ht:t = .name∨(t = .prog∧l.head? ≠ some 91∧l.head? ≠ some 40)) (h2:∀ n l',Aft true l'→Says (run s true l') s2 (k n l')):Says (run (t::s) false l) s2 (nmr l k):=by
 unfold nmr
 by_cases hn:l.takeWhile okC=[]
 ·rw [if_pos hn]
  cases l with
  | nil=>rfl
  | cons c l =>
   have hc:okC c=false:=by
    rw [List.takeWhile_cons] at hn
    by_cases hc:okC c=true
    ·rw [if_pos hc] at hn;cases hn
    ·simpa using hc
   refine ZdA ?_
   unfold stq
   rw [if_neg (by rw [hc];decide)]
   show (if t = .prog∧c=91 then _ else if t = .prog∧c=40 then _ else if tc t=some c then some (s,false) else none)=none
   rcases ht with rfl | ⟨rfl,h1,h3⟩
   ·rw [if_neg (fun z=>nomatch z.1),if_neg (fun z=>nomatch z.1),if_neg (fun z=>nomatch z)]
   ·rw [if_neg (fun z=>h1 (by rw [z.2];rfl)),if_neg (fun z=>h3 (by rw [z.2];rfl)),if_neg (fun z=>nomatch z)]
 ·rw [if_neg hn]
  have e:run (t::s) false l=run s true (l.dropWhile okC):=by
   conv=>lhs;rw [← List.takeWhile_append_dropWhile (p:=okC) (l:=l)]
   have ht':=tw_ok l
   cases hw:l.takeWhile okC with
   | nil=>exact absurd hw hn
   | cons c n =>
    rw [hw] at ht'
    have hc:=ht' c List.mem_cons_self
    show (match stq c (t::s) false with | none=>_ | some (s',i')=>run s' i' (n++_))=_
    rw [show stq c (t::s) false=some (s,true) by
     unfold stq
     rw [if_pos hc,if_neg (by simp)]
     rcases ht with rfl | ⟨rfl,_⟩<;>rfl]
    exact run_names s _ fun c hc=>ht' c (List.mem_cons_of_mem _ hc)
  rw [e]
  exact h2 _ _ fun _ c l' e'=>dw_hd e'
theorem rd_says:∀ (f:Nat) (l:List Nat) (s:List Tk),Says (run (.prog::s) false l) s (rd f l)
 | 0,_,_=>trivial
 | f+1,l,s=>by
  unfold rd
  by_cases hl:l.head? = some 91
  ·rw [if_pos hl]
   obtain ⟨l1,rfl⟩:∃ l1,l=91::l1:=by
    cases l with
    | nil=>cases hl
    | cons c l=>cases hl;exact ⟨l,rfl⟩
   rw [ZdQ (s':=.name :: .sp :: .prog :: .cb::s) (i':=false) rfl]
   exact says_nmr (.inl rfl) fun n l2 ha=>says_ex rfl ha fun l3=>says_on (rd_says f l3 (.cb::s)) fun b i r ha2=>says_ex rfl ha2 fun l5=>⟨false,(fun z=>nomatch z),rfl⟩
  ·rw [if_neg hl]
   by_cases hl2:l.head? = some 40
   ·rw [if_pos hl2]
    obtain ⟨l1,rfl⟩:∃ l1,l=40::l1:=by
     cases l with
     | nil=>cases hl2
     | cons c l=>cases hl2;exact ⟨l,rfl⟩
    rw [ZdQ (s':=.prog :: .sp :: .prog :: .cp::s) (i':=false) rfl]
    exact says_on (rd_says f l1 (.sp :: .prog :: .cp::s)) fun a i r ha=>says_ex rfl ha fun l3=>says_on (rd_says f l3 (.cp::s)) fun b i2 r2 ha2=>says_ex rfl ha2 fun l5=>⟨false,(fun z=>nomatch z),rfl⟩
   ·rw [if_neg hl2]
    exact says_nmr (.inr ⟨rfl,hl,hl2⟩) fun n l2 ha=>⟨true,ha,rfl⟩
theorem rd_fin {f:Nat} {l:List Nat}:match rd f l with | .bad=>True | .err r=>fin (run [.prog] false l)=some r | .ok _ r=>fin (run [.prog] false l)=if r=[] then none else some r:=by
 have h:=rd_says f l []
 cases e:rd f l with
 | bad=>trivial
 | err r=>rw [e] at h;exact h
 | ok s r =>
  rw [e] at h
  obtain ⟨i,ha,e2⟩:=h
  show fin (run [.prog] false l)=_
  rw [e2]
  cases r with
  | nil=>rfl
  | cons c r =>
   rw [if_neg (by simp)]
   refine ZdA ?_
   unfold stq
   by_cases hk:okC c=true
   ·rw [if_pos hk]
    cases i with
    | true =>
     have:=ha rfl c r rfl
     rw [hk] at this
     cases this
    | false=>rfl
   ·rw [if_neg hk]
def opn (c:Nat):Bool:=decide (c=91)||decide (c=40)
theorem on_nb {x:Rs} {k:Pr→List Nat→Rs} (h:x ≠ .bad) (h2:∀ a r,x = .ok a r→k a r ≠ .bad):x.on k ≠ .bad:=by
 cases x with
 | bad=>exact absurd rfl h
 | err r=>exact fun z=>nomatch z
 | ok a r=>exact h2 a r rfl
theorem ex_nb {c:Nat} {l:List Nat} {k:List Nat→Rs} (h:∀ l',l=c::l'→k l' ≠ .bad):ex c l k ≠ .bad:=by
 cases l with
 | nil=>exact fun z=>nomatch z
 | cons d l =>
  show (if d=c then k l else .err (d::l))≠_
  by_cases hd:d=c
  ·rw [if_pos hd];exact h l (hd▸rfl)
  ·rw [if_neg hd];exact fun z=>nomatch z
theorem nmr_nb {l:List Nat} {k:PySem.Str→List Nat→Rs} (h:∀ n l',l=n++l'→k (st n) l' ≠ .bad):nmr l k ≠ .bad:=by
 unfold nmr
 by_cases hn:l.takeWhile okC=[]
 ·rw [if_pos hn];exact fun z=>nomatch z
 ·rw [if_neg hn]
  exact h _ _ (List.takeWhile_append_dropWhile).symm
theorem rd_nb:∀ {f:Nat} {l:List Nat},l.countP opn<f→rd f l ≠ .bad
 | 0,_,h=>absurd h (Nat.not_lt_zero _)
 | f+1,l,h=>by
  unfold rd
  by_cases hl:l.head? = some 91
  ·rw [if_pos hl]
   obtain ⟨l1,rfl⟩:∃ l1,l=91::l1:=by
    cases l with
    | nil=>cases hl
    | cons c l=>cases hl;exact ⟨l,rfl⟩
   have hc:l1.countP opn<f:=by rw [List.countP_cons_of_pos (by decide)] at h;omega
   refine nmr_nb fun n l2 e1=>ex_nb fun l3 e2=>on_nb (rd_nb ?_) fun b l4 e3=>ex_nb fun l5 e4=>fun z=>nomatch z
   have e1:l1=n++l2:=e1
   rw [e1,e2] at hc
   simp only [List.countP_append,List.countP_cons] at hc
   omega
  ·rw [if_neg hl]
   by_cases hl2:l.head? = some 40
   ·rw [if_pos hl2]
    obtain ⟨l1,rfl⟩:∃ l1,l=40::l1:=by
     cases l with
     | nil=>cases hl2
     | cons c l=>cases hl2;exact ⟨l,rfl⟩
    have hc:l1.countP opn<f:=by rw [List.countP_cons_of_pos (by decide)] at h;omega
    refine on_nb (rd_nb hc) fun a l2 e1=>ex_nb fun l3 e2=>on_nb (rd_nb ?_) fun b l4 e3=>ex_nb fun l5 e4=>fun z=>nomatch z
    have e1:l1=_:=(rd_ok e1).1
    rw [e1,e2] at hc
    simp only [List.countP_append,List.countP_cons] at hc
    omega
   ·rw [if_neg hl2]
    exact nmr_nb fun n l2 e1=>fun z=>nomatch z
noncomputable def bsF (text:PySem.Str):((List PySem.Str)×Bool)→Int→M (Ct ((List PySem.Str)×Bool) Int):=(fun (s3:((List PySem.Str)×Bool)) x5 =>
  ((M.ixS text x5)>>=fun t6=>(M.inSg t6 ("abcdefghijklmnopqrstuvwxyz" : PySem.Str)))>>=fun b24=>if b24 then
   if (!s3.2) then
    (if (decide ((s3.1.length:Int)=(0:Int))) then .ok true else (((M.ix s3.1 (-(1:Int)))>>=fun t7=>(M.ok (!decide (t7=("program" : PySem.Str)))))>>=fun b9=>(if b9 then ((M.ix s3.1 (-(1:Int)))>>=fun t8=>(M.ok (!decide (t8=("name" : PySem.Str))))) else .ok false)))>>=fun b12=>if b12 then
     (M.ok x5)>>=fun r=>.ok (.rt r)
    else
     (M.popL s3.1)>>=fun p10 =>
      (M.ok true)>>=fun inside_11 =>
      M.ok (.nx (p10.1,inside_11))
   else
    (M.ok true)>>=fun inside_13 =>
     M.ok (.nx (s3.1,inside_13))
  else
   (M.ok false)>>=fun inside_14 =>
    if (decide ((s3.1.length:Int)=(0:Int))) then
    (M.ok x5)>>=fun r=>.ok (.rt r)
   else
    (M.popL s3.1)>>=fun p15 =>
     (if (decide (p15.2=("program" : PySem.Str))) then ((M.ixS text x5)>>=fun t16=>(M.ok (decide (t16=("[" : PySem.Str))))) else .ok false)>>=fun b23=>if b23 then
     (M.cat p15.1 [("]" : PySem.Str),("program" : PySem.Str),(" " : PySem.Str),("name" : PySem.Str)])>>=fun due_17 =>
      M.ok (.nx (due_17,inside_14))
    else
     (if (decide (p15.2=("program" : PySem.Str))) then ((M.ixS text x5)>>=fun t18=>(M.ok (decide (t18=("(" : PySem.Str))))) else .ok false)>>=fun b22=>if b22 then
      (M.cat p15.1 [(")" : PySem.Str),("program" : PySem.Str),(" " : PySem.Str),("program" : PySem.Str)])>>=fun due_19 =>
       M.ok (.nx (due_19,inside_14))
     else
      ((M.ixS text x5)>>=fun t20=>(M.ok (!decide (p15.2=t20))))>>=fun b21=>if b21 then
       (M.ok x5)>>=fun r=>.ok (.rt r)
      else
       M.ok (.nx (p15.1,inside_14)))
def sk (s:List Tk):List PySem.Str:=(s.map tk).reverse
theorem ZdX (t:Tk) (s:List Tk):sk (t::s)=sk s++[tk t]:=by simp [sk]
theorem sk_len (s:List Tk):(sk s).length=s.length:=by simp [sk]
theorem tkp (t:Tk):decide (tk t=("program" : PySem.Str))=decide (t = .prog):=by cases t<;>decide
theorem tkn (t:Tk):decide (tk t=("name" : PySem.Str))=decide (t = .name):=by cases t<;>decide
theorem prog_st (c:Nat):decide (("program" : PySem.Str)=st [c])=false:=by
 refine decide_eq_false fun z=>?_
 have:=congrArg (fun z:PySem.Str=>z.cps.toList.length) z
 simp only [Zer] at this
 have h2:("program" : PySem.Str).cps.toList.length=7:=by decide
 rw [h2] at this
 simp at this
theorem name_st (c:Nat):decide (("name" : PySem.Str)=st [c])=false:=by
 refine decide_eq_false fun z=>?_
 have:=congrArg (fun z:PySem.Str=>z.cps.toList.length) z
 simp only [Zer] at this
 have h2:("name" : PySem.Str).cps.toList.length=4:=by decide
 rw [h2] at this
 simp at this
theorem tk_st (t:Tk) (c:Nat):decide (tk t=st [c])=decide (tc t=some c):=by
 cases t with
 | prog=>rw [show tk .prog=("program" : PySem.Str) from rfl,prog_st];exact (decide_eq_false (fun z=>nomatch z)).symm
 | name=>rw [show tk .name=("name" : PySem.Str) from rfl,name_st];exact (decide_eq_false (fun z=>nomatch z)).symm
 | sp=>rw [show tk .sp=(" " : PySem.Str) from rfl,L32,Zcq];exact decide_eq_decide.mpr (by simp [tc])
 | cb=>rw [show tk .cb=("]" : PySem.Str) from rfl,L93,Zcq];exact decide_eq_decide.mpr (by simp [tc])
 | cp=>rw [show tk .cp=(")" : PySem.Str) from rfl,L41,Zcq];exact decide_eq_decide.mpr (by simp [tc])
theorem bs_step {cs l:List Nat} {c:Nat} {a:Int} (h:At cs (c::l) a) (s:List Tk) (ins:Bool) (hl:s.length≤90000):bsF (st cs) (sk s,ins) a=match stq c s ins with | none=>.ok (.rt a) | some (s',i')=>.ok (.nx (sk s',i')):=by
 unfold bsF
 simp only
 rw [h.ix]
 simp only [M.Zab]
 rw [show M.inSg (st [c]) ("abcdefghijklmnopqrstuvwxyz" : PySem.Str) = .ok (okC c) from rfl]
 simp only [M.Zab]
 unfold stq
 cases hk:okC c with
 | true =>
  simp only [if_true]
  cases ins with
  | true=>rfl
  | false =>
   simp only [Bool.not_false,if_true,Bool.false_eq_true,if_false]
   cases s with
   | nil=>rfl
   | cons t s =>
    rw [ZdX,if_neg (by rw [decide_eq_true_eq,List.length_append];simp;omega),ix_last]
    simp only [M.Zab]
    rw [tkp,tkn,popS]
    cases t<;>rfl
 | false =>
  simp only [Bool.false_eq_true,if_false]
  cases s with
  | nil=>rfl
  | cons t s =>
   rw [List.length_cons] at hl
   rw [ZdX,if_neg (by rw [decide_eq_true_eq,List.length_append];simp;omega),popS]
   simp only [M.Zab]
   rw [tkp,L91,L40,Zcq,Zcq,tk_st]
   by_cases ht:t = .prog
   ·rw [decide_eq_true ht]
    simp only [if_true,M.Zab]
    by_cases h91:c=91
    ·rw [decide_eq_true h91,if_pos rfl,if_pos ⟨ht,h91⟩,ZdU (by rw [sk_len];simp;omega)]
     simp only [M.Zab]
     rw [ZdX,ZdX,ZdX,ZdX]
     simp [tk]
    ·rw [decide_eq_false h91,if_neg (show ¬ false=true by decide),if_neg (show ¬ (t = .prog∧c=91) from fun z=>h91 z.2)]
     by_cases h40:c=40
     ·rw [decide_eq_true h40,if_pos rfl,if_pos ⟨ht,h40⟩,ZdU (by rw [sk_len];simp;omega)]
      simp only [M.Zab]
      rw [ZdX,ZdX,ZdX,ZdX]
      simp [tk]
     ·rw [decide_eq_false h40,if_neg (show ¬ false=true by decide),if_neg (show ¬ (t = .prog∧c=40) from fun z=>h40 z.2),ht]
      rfl
   ·rw [decide_eq_false ht,if_neg (show ¬ (t = .prog∧c=91) from fun z=>ht z.1),if_neg (show ¬ (t = .prog∧c=40) from fun z=>ht z.1)]
    simp only [Bool.false_eq_true,if_false,M.Zab]
    by_cases hc:tc t=some c
    ·rw [decide_eq_true hc,if_pos hc]
     rfl
    ·rw [decide_eq_false hc,if_neg hc]
     rfl
theorem stq_len {c:Nat} {s s' : List Tk} {i i' : Bool} (h:stq c s i=some (s',i')):s'.length≤s.length+3:=by
 unfold stq at h
 split at h
 ·split at h
  ·cases h;omega
  ·split at h
   ·cases h;simp only [List.length_cons];omega
   ·cases h;simp only [List.length_cons];omega
   ·cases h
 ·split at h
  ·cases h
  ·split at h
   ·cases h;simp
   ·split at h
    ·cases h;simp
    ·split at h
     ·cases h;simp only [List.length_cons];omega
     ·cases h
theorem bs_fold {cs:List Nat}:∀ (l:List Nat) (s:List Tk) (i:Bool) (a:Int),At cs l a→s.length+3*l.length≤90000 →
  M.ZbA (bsF (st cs)) (sk s,i) (rngL a l.length)=match run s i l with | .inl r=>.ok (.rt ((cs.length:Int)-r.length)) | .inr (s',i')=>.ok (.nx (sk s',i'))
 | [],s,i,a,h,hl=>rfl
 | c::l,s,i,a,h,hl=>by
  rw [List.length_cons] at hl
  rw [List.length_cons,rngL_cons',Zez,bs_step h s i (by omega)]
  have er:run s i (c::l)=match stq c s i with | none=>.inl (c::l) | some (s',i')=>run s' i' l:=rfl
  rw [er]
  cases e:stq c s i with
  | none =>
   show M.ok (Ct.rt a)=M.ok (Ct.rt _)
   rw [h.val]
  | some q =>
   obtain ⟨s',i'⟩:=q
   have:=stq_len e
   exact bs_fold l s' i' (a+1) h.next (by omega)
def bad_at (cs:List Nat):Int:=match fin (run [.prog] false cs) with | none=>-1 | some r=>(cs.length:Int)-r.length
theorem bad_sign_ok {cs:List Nat} (h:cs.length≤20000):Zbo (st cs) = .ok (bad_at cs):=by
 unfold Zbo
 simp only [M.Zab]
 rw [lenT (by omega)]
 simp only [M.Zab]
 rw [M.rangeN (by omega)]
 simp only [M.Zab]
 show (M.ZbA (bsF (st cs)) (sk [.prog],false) (rngL 0 cs.length)>>=_)=_
 rw [bs_fold cs [.prog] false 0 (At.all (by omega)) (by simp;omega)]
 unfold bad_at
 cases run [.prog] false cs with
 | inl r=>rfl
 | inr q =>
  obtain ⟨s,i⟩:=q
  simp only [M.Zab,Ct.go]
  cases s with
  | nil=>rfl
  | cons t s =>
   rw [if_pos (by rw [decide_eq_true_eq,sk_len];simp)]
   show M.ok (cs.length:Int)=M.ok _
   simp [fin]
noncomputable def trF:((List (List PyData))×PySem.Str)→PySem.Str→M ((List (List PyData))×PySem.Str):=(fun (s3:((List (List PyData))×PySem.Str)) x5 =>
  (M.inSg x5 ("abcdefghijklmnopqrstuvwxyz" : PySem.Str))>>=fun b25=>if b25 then
   (M.catS s3.2 x5)>>=fun name_6 =>
    M.ok (s3.1,name_6)
  else
   (if (!decide (s3.2=("" : PySem.Str))) then
    M.appIx s3.1 (M.ok (-(1:Int))) (M.ok (PyData.tuple [(UD.toU ("name" : PySem.Str)),(UD.toU s3.2)]))>>=fun stack_7 =>
     (M.ok ("" : PySem.Str))>>=fun name_8 =>
     M.ok (stack_7,name_8)
   else
    M.ok (s3.1,s3.2))>>=(fun s9:((List (List PyData))×PySem.Str) =>
    (if ((decide (x5=("[" : PySem.Str)))||(decide (x5=("(" : PySem.Str)))) then
    M.push s9.1 (M.ok ([]:(List PyData)))>>=fun stack_10 =>
     M.ok stack_10
   else
    M.ok s9.1)>>=(fun s11:(List (List PyData)) =>
    (if (decide (x5=("]" : PySem.Str))) then
    (M.popL s11)>>=fun p12 =>
     M.appIx p12.1 (M.ok (-(1:Int))) ((((((M.ix p12.2 (0:Int))>>=fun t13=>(M.ofO (Zat t13)>>=fun ds=>M.ok (⟨ds⟩:Sq PyData)))>>=fun t14=>(M.ix t14.l (1:Int)))>>=fun t15=>(M.ofO (OU.ofU (α:=PySem.Str) t15)))>>=fun t16=>(M.ok (UD.toU t16)))>>=fun t17=>((M.ix p12.2 (1:Int))>>=fun t18=>(M.ok (PyData.tuple [(UD.toU ("fun" : PySem.Str)),t17,t18]))))>>=fun stack_19 =>
     M.ok stack_19
   else
    M.ok s11)>>=(fun s20:(List (List PyData)) =>
    if (decide (x5=(")" : PySem.Str))) then
    (M.popL s20)>>=fun p21 =>
     M.appIx p21.1 (M.ok (-(1:Int))) ((M.ix p21.2 (0:Int))>>=fun t22=>((M.ix p21.2 (1:Int))>>=fun t23=>(M.ok (PyData.tuple [(UD.toU ("use" : PySem.Str)),t22,t23]))))>>=fun stack_24 =>
     M.ok (stack_24,s9.2)
   else
    M.ok (s20,s9.2)))))
theorem catT {a b:List Nat} (h:a.length+b.length≤50000):M.catS (st a) (st b) = .ok (st (a++b)):=by
 unfold M.catS
 rw [M.Zah (Nat.le_of_lt (ZcQ (by rw [ZcV,ZcV];omega))),st_cat]
theorem Le:("" : PySem.Str)=st []:=by decide
theorem app_last {α:Type} (S:List (List α)) (row:List α) (y:α) (h:row.length≤100000):M.appIx (S++[row]) (M.ok (-(1:Int))) (M.ok y) = .ok (S++[row++[y]]):=by
 unfold M.appIx
 have e:ixN (S++[row]).length (-(1:Int))=some S.length:=by
  unfold ixN
  have h1:(1:Int)≤(S.length:Int)+1:=by omega
  simp only [List.length_append,List.length_singleton]
  have h2:((-(1:Int))+((S.length+1:Nat):Int)).toNat=S.length:=by omega
  rw [if_neg (by omega),if_pos (by omega),h2]
 simp only [M.Zab]
 rw [e]
 simp only [M.ZaO,M.Zab]
 rw [List.getElem?_append_right (Nat.le_refl _),Nat.sub_self]
 simp only [List.getElem?_cons_zero,M.ZaO,M.Zab]
 rw [M.Zah (ZcQ h),List.set_append_right _ _ (Nat.le_refl _),Nat.sub_self]
 rfl
theorem popR {α:Type} (S:List α) (r:α):M.popL (S++[r]) = .ok (S,r):=by
 unfold M.popL
 simp
theorem in_az (c:Nat):M.inSg (st [c]) ("abcdefghijklmnopqrstuvwxyz" : PySem.Str) = .ok (okC c):=rfl
theorem tr_let {S:List (List PyData)} {n:List Nat} {c:Nat} (hc:okC c=true) (hl:n.length≤40000):trF (S,st n) (st [c]) = .ok (S,st (n++[c])):=by
 unfold trF
 simp only
 rw [in_az,hc]
 simp only [M.Zab,if_true]
 rw [catT (by simp;omega)]
 rfl
theorem st_ne {n:List Nat} (h:n≠[]):decide (st n=("" : PySem.Str))=false:=decide_eq_false fun z=>h (by rw [Le] at z;exact st_inj.mp z)
theorem tr_flush {S:List (List PyData)} {row:List PyData} {n:List Nat} {d:Nat} (hd:okC d=false) (hn:n≠[]) (hl:row.length≤1000):trF (S++[row],st n) (st [d])=trF (S++[row++[(Pr.nm (st n)).toD]],"") (st [d]):=by
 unfold trF
 simp only
 rw [in_az,hd]
 simp only [M.Zab,Bool.false_eq_true,if_false]
 rw [st_ne hn]
 simp only [Bool.not_false,decide_true,Bool.not_true,if_true,Bool.false_eq_true,if_false]
 rw [show (PyData.tuple [UD.toU ("name" : PySem.Str),UD.toU (st n)])=(Pr.nm (st n)).toD from rfl,app_last S row _ (by omega)]
 rfl
theorem tr_open {S:List (List PyData)} {d:Nat} (hd:d=91∨d=40) (hl:S.length≤50000):trF (S,"") (st [d]) = .ok (S++[[]],""):=by
 unfold trF
 simp only
 rw [in_az,L91,L40,L93,L41,Zcq,Zcq,Zcq,Zcq]
 rcases hd with rfl | rfl
 ·simp only [M.Zab,show okC 91=false by decide,Bool.false_eq_true,if_false,decide_true,Bool.not_true,decide_true,Bool.true_or,if_true,show decide ((91:Nat)=93)=false by decide,show decide ((91:Nat)=41)=false by decide]
  rw [M.ZbO (by omega)]
  rfl
 ·simp only [M.Zab,show okC 40=false by decide,Bool.false_eq_true,if_false,decide_true,Bool.not_true,decide_true,Bool.or_true,if_true,show decide ((40:Nat)=93)=false by decide,show decide ((40:Nat)=41)=false by decide]
  rw [M.ZbO (by omega)]
  rfl
theorem tr_space {S:List (List PyData)}:trF (S,"") (st [32]) = .ok (S,""):=by
 unfold trF
 simp only
 rw [in_az,L91,L40,L93,L41,Zcq,Zcq,Zcq,Zcq]
 simp only [M.Zab,show okC 32=false by decide,Bool.false_eq_true,if_false,decide_true,Bool.not_true,show decide ((32:Nat)=91)=false by decide,show decide ((32:Nat)=40)=false by decide,show decide ((32:Nat)=93)=false by decide,show decide ((32:Nat)=41)=false by decide,Bool.or_self]
theorem tr_fun {S:List (List PyData)} {row:List PyData} {n:PySem.Str} {y:PyData} (hl:row.length≤1000):trF (S++[row]++[[(Pr.nm n).toD,y]],"") (st [93]) = .ok (S++[row++[.tuple [.str "fun",.str n,y]]],""):=by
 unfold trF
 simp only
 rw [in_az,L91,L40,L93,L41,Zcq,Zcq,Zcq,Zcq]
 simp only [M.Zab,show okC 93=false by decide,Bool.false_eq_true,if_false,decide_true,Bool.not_true,decide_true,if_true,show decide ((93:Nat)=91)=false by decide,show decide ((93:Nat)=40)=false by decide,show decide ((93:Nat)=41)=false by decide,Bool.or_self,popR]
 rw [jx0,jx1]
 simp only [M.Zab,itN,M.ZaO,jx1,ouS]
 rw [show (PyData.tuple [UD.toU ("fun" : PySem.Str),UD.toU n,y]) = .tuple [.str "fun",.str n,y] from rfl,app_last S row _ (by omega)]
 rfl
theorem tr_use {S:List (List PyData)} {row:List PyData} {x y:PyData} (hl:row.length≤1000):trF (S++[row]++[[x,y]],"") (st [41]) = .ok (S++[row++[.tuple [.str "use",x,y]]],""):=by
 unfold trF
 simp only
 rw [in_az,L91,L40,L93,L41,Zcq,Zcq,Zcq,Zcq]
 simp only [M.Zab,show okC 41=false by decide,Bool.false_eq_true,if_false,decide_true,Bool.not_true,decide_true,if_true,show decide ((41:Nat)=91)=false by decide,show decide ((41:Nat)=40)=false by decide,show decide ((41:Nat)=93)=false by decide,Bool.or_self,popR]
 rw [jx0,jx1]
 simp only [M.Zab]
 rw [show (PyData.tuple [UD.toU ("use" : PySem.Str),x,y]) = .tuple [.str "use",x,y] from rfl,app_last S row _ (by omega)]
 rfl
def sgs (l:List Nat):List PySem.Str:=l.map fun c=>st [c]
theorem sgs_app (a b:List Nat):sgs (a++b)=sgs a++sgs b:=List.map_append
theorem sgs_cons (c:Nat) (l:List Nat):sgs (c::l)=st [c]::sgs l:=rfl
theorem tr_lets {S:List (List PyData)} {rest:List PySem.Str}:∀ (n m:List Nat),(∀ c∈n,okC c=true)→m.length+n.length≤40000→M.fold trF (S,st m) (sgs n++rest)=M.fold trF (S,st (m++n)) rest
 | [],m,_,_=>by simp [sgs]
 | c::n,m,h,hl=>by
  rw [List.length_cons] at hl
  rw [sgs_cons,List.cons_append,Zch,tr_let (h c List.mem_cons_self) (by omega)]
  simp only [M.Zab]
  rw [tr_lets n (m++[c]) (fun c hc=>h c (List.mem_cons_of_mem _ hc)) (by simp;omega)]
  simp
theorem ok93:okC 93=false:=by decide
theorem tree_nm (n:PySem.Str) (d:Nat) (S:List (List PyData)) (row:List PyData) (rest:List PySem.Str) (hn:Nm (.nm n)) (hd:okC d=false) (hl:n.cps.toList.length≤40000) (hr:row.length≤900) :
  M.fold trF (S++[row],"") (sgs (n.cps.toList++[d])++rest)=M.fold trF (S++[row++[(Pr.nm n).toD]],"") (st [d]::rest):=by
 obtain ⟨h1,h2⟩:=hn n (List.mem_singleton.mpr rfl)
 rw [sgs_app,List.append_assoc,Le,tr_lets n.cps.toList [] h2 (by rw [List.length_nil];omega)]
 show M.fold trF (S++[row],st n.cps.toList) (st [d]::rest)=M.fold trF _ (st [d]::rest)
 rw [Zch,Zch,tr_flush hd h1 (by omega),st_of,Le]
theorem tree_ok:∀ (p:Pr) (d:Nat) (S:List (List PyData)) (row:List PyData) (rest:List PySem.Str),Nm p→okC d=false→p.wr.length≤40000→row.length≤900→S.length+p.cnt≤40000 →
  M.fold trF (S++[row],"") (sgs (p.wr++[d])++rest)=M.fold trF (S++[row++[p.toD]],"") (st [d]::rest)
 | .nm n,d,S,row,rest,hn,hd,hl,hr,hS=>tree_nm n d S row rest hn hd hl hr
 | .fn n b,d,S,row,rest,hn,hd,hl,hr,hS=>by
  have hl' : (91::(n.cps.toList++(32::(b.wr++[93])))).length≤40000:=hl
  simp only [List.length_cons,List.length_append,List.length_nil] at hl'
  simp only [Pr.cnt] at hS
  have hnN:Nm (.nm n):=fun x hx=>hn x (by rw [List.mem_singleton.mp hx];exact List.mem_cons_self)
  have hnB:Nm b:=fun x hx=>hn x (List.mem_cons_of_mem _ hx)
  have e:sgs ((Pr.fn n b).wr++[d])++rest=st [91]::(sgs (n.cps.toList++[32])++(sgs (b.wr++[93])++(st [d]::rest))):=by
   show sgs ((91::(n.cps.toList++(32::(b.wr++[93]))))++[d])++rest=st [91]::(sgs (n.cps.toList++[32])++(sgs (b.wr++[93])++(st [d]::rest)))
   simp [sgs]
  rw [e,Zch,tr_open (.inl rfl) (by simp;omega)]
  simp only [M.Zab]
  rw [tree_nm n 32 (S++[row]) [] _ hnN ok32 (by omega) (by simp),Zch,tr_space]
  simp only [M.Zab,List.nil_append]
  rw [tree_ok b 93 (S++[row]) [(Pr.nm n).toD] _ hnB ok93 (by omega) (by simp) (by simp;omega),Zch]
  rw [show [(Pr.nm n).toD]++[b.toD]=[(Pr.nm n).toD,b.toD] from rfl,tr_fun (by omega)]
  rfl
 | .us f a,d,S,row,rest,hn,hd,hl,hr,hS=>by
  have hl' : (40::(f.wr++(32::(a.wr++[41])))).length≤40000:=hl
  simp only [List.length_cons,List.length_append,List.length_nil] at hl'
  simp only [Pr.cnt] at hS
  have e:sgs ((Pr.us f a).wr++[d])++rest=st [40]::(sgs (f.wr++[32])++(sgs (a.wr++[41])++(st [d]::rest))):=by
   show sgs ((40::(f.wr++(32::(a.wr++[41]))))++[d])++rest=_
   simp [sgs]
  rw [e,Zch,tr_open (.inr rfl) (by simp;omega)]
  simp only [M.Zab]
  rw [tree_ok f 32 (S++[row]) [] _ (fun x hx=>hn x (List.mem_append_left _ hx)) ok32 (by omega) (by simp) (by simp;omega),Zch,tr_space]
  simp only [M.Zab,List.nil_append]
  rw [tree_ok a 41 (S++[row]) [f.toD] _ (fun x hx=>hn x (List.mem_append_right _ hx)) ok41 (by omega) (by simp) (by simp;omega),Zch]
  rw [show [f.toD]++[a.toD]=[f.toD,a.toD] from rfl,tr_use (by omega)]
  rfl
theorem cnt_wr:∀ p:Pr,3*p.cnt≤p.wr.length
 | .nm _=>Nat.zero_le _
 | .fn n b=>by have:=cnt_wr b;simp only [Pr.cnt,Pr.wr,List.length_cons,List.length_append];omega
 | .us f a=>by have:=cnt_wr f;have:=cnt_wr a;simp only [Pr.cnt,Pr.wr,List.length_cons,List.length_append];omega
theorem ltree_ok {p:Pr} (hn:Nm p) (hl:p.wr.length≤20000):ZcC (st p.wr) = .ok p.toD:=by
 unfold ZcC
 simp only [M.Zab]
 rw [L32,catT (by simp;omega)]
 simp only [M.Zab]
 have e:signs (st (p.wr++[32]))=sgs (p.wr++[32])++[]:=by rw [List.append_nil];rfl
 have hc:=cnt_wr p
 have h:=tree_ok p 32 [] [] [] hn ok32 (by omega) (by simp) (by simp;omega)
 rw [e]
 show (M.fold trF ([]++[[]],"") (sgs (p.wr++[32])++[])>>=_)=_
 rw [h,Zch,tr_space]
 rfl
theorem cat3 {a b:List Nat} {x:PySem.Str} (hx:x=st b) (h:a.length+b.length≤50000):M.catS (st a) x = .ok (st (a++b)):=by
 rw [hx]
 exact catT h
theorem wr_fn (n:PySem.Str) (b:Pr):(Pr.fn n b).wr=((([91]++n.cps.toList)++[32])++b.wr)++[93]:=by simp [Pr.wr]
theorem wr_us (f a:Pr):(Pr.us f a).wr=((([40]++f.wr)++[32])++a.wr)++[41]:=by simp [Pr.wr]
theorem ZdD:∀ (p:Pr) (k:Nat),p.hs≤k→p.wr.length≤40000→Zbg k p.toD = .ok (st p.wr)
 | .nm n,k+1,_,_=>by
  show Zbj _ _=_
  unfold Zbj
  simp only [itN,M.ZaO,M.Zab,jx0,jx1,ouS,nn,if_true,decide_true]
  show M.ok n=M.ok (st n.cps.toList)
  rw [st_of]
 | .fn n b,k+1,h,hl=>by
  simp only [Pr.hs] at h
  have hz:n.cps.toList.length=n.cps.size:=Array.length_toList
  rw [wr_fn] at hl ⊢
  simp only [List.length_append,List.length_cons,List.length_nil] at hl
  show Zbj _ _=_
  unfold Zbj
  simp only [itF,M.ZaO,M.Zab,ix0,ix1,ix2,ouS,ouV,fN,ff,if_true,decide_true,Bool.false_eq_true,if_false]
  rw [ZdD b k (by omega) (by omega),L91,L32,L93,cat3 (b:=n.cps.toList) (st_of n).symm (by simp;omega)]
  simp only [M.Zab]
  rw [catT (by simp;omega)]
  simp only [M.Zab]
  rw [catT (by simp;omega)]
  simp only [M.Zab]
  rw [catT (by simp;omega)]
 | .us f a,k+1,h,hl=>by
  simp only [Pr.hs] at h
  rw [wr_us] at hl ⊢
  simp only [List.length_append,List.length_cons,List.length_nil] at hl
  show Zbj _ _=_
  unfold Zbj
  simp only [itU,M.ZaO,M.Zab,ix0,ix1,ix2,ouS,ouV,un,uf,Bool.false_eq_true,if_false]
  rw [ZdD f k (by omega) (by omega),ZdD a k (by omega) (by omega),L40,L32,L41]
  simp only [M.Zab]
  rw [catT (by simp;omega)]
  simp only [M.Zab]
  rw [catT (by simp;omega)]
  simp only [M.Zab]
  rw [catT (by simp;omega)]
  simp only [M.Zab]
  rw [catT (by simp;omega)]
 | p,0,h,_=>absurd p.hs_pos (by omega)
theorem empty_st:PySem.Str.empty=st []:=by decide
theorem Zek:∀ (p:Pr) (k:Nat),p.hs≤k→p.wr.length≤40000→Zao k p.toD = .ok (st p.wr)
 | .nm n,k+1,_,_=>by
  show Zaz _ _=_
  unfold Zaz
  simp only [itN,M.ZaO,M.Zab,jx0,jx1,ouS,nn,if_true,decide_true]
  show M.ok n=M.ok (st n.cps.toList)
  rw [st_of]
 | .fn n b,k+1,h,hl=>by
  simp only [Pr.hs] at h
  have hz:n.cps.toList.length=n.cps.size:=Array.length_toList
  rw [wr_fn] at hl ⊢
  simp only [List.length_append,List.length_cons,List.length_nil] at hl
  show Zaz _ _=_
  unfold Zaz
  simp only [itF,M.ZaO,M.Zab,ix0,ix1,ix2,ouS,ouV,fN,ff,if_true,decide_true,Bool.false_eq_true,if_false]
  rw [Zek b k (by omega) (by omega),L91,L32,L93,empty_st,catT (by simp)]
  simp only [M.Zab,List.nil_append]
  rw [cat3 (b:=n.cps.toList) (st_of n).symm (by simp;omega)]
  simp only [M.Zab]
  rw [catT (by simp;omega)]
  simp only [M.Zab]
  rw [catT (by simp;omega)]
  simp only [M.Zab]
  rw [catT (by simp;omega)]
  rfl
 | .us f a,k+1,h,hl=>by
  simp only [Pr.hs] at h
  rw [wr_us] at hl ⊢
  simp only [List.length_append,List.length_cons,List.length_nil] at hl
  show Zaz _ _=_
  unfold Zaz
  simp only [itU,M.ZaO,M.Zab,ix0,ix1,ix2,ouS,ouV,un,uf,Bool.false_eq_true,if_false]
  rw [Zek f k (by omega) (by omega),Zek a k (by omega) (by omega),L40,L32,L41,empty_st,catT (by simp)]
  simp only [M.Zab,List.nil_append]
  rw [catT (by simp;omega)]
  simp only [M.Zab]
  rw [catT (by simp;omega)]
  simp only [M.Zab]
  rw [catT (by simp;omega)]
  simp only [M.Zab]
  rw [catT (by simp;omega)]
  rfl
 | p,0,h,_=>absurd p.hs_pos (by omega)
theorem ns_wr:∀ (p:Pr) (n:PySem.Str),n∈p.ns→n.length≤p.wr.length
 | .nm m,n,h=>by
  rw [List.mem_singleton.mp h]
  show m.cps.size≤m.cps.toList.length
  rw [Array.length_toList]
  exact Nat.le_refl _
 | .fn m b,n,h=>by
  have e:m.cps.toList.length=m.length:=Array.length_toList
  simp only [Pr.wr,List.length_cons,List.length_append]
  rcases List.mem_cons.mp h with rfl | h
  ·omega
  ·have:=ns_wr b n h
   omega
 | .us f a,n,h=>by
  simp only [Pr.wr,List.length_cons,List.length_append]
  rcases List.mem_append.mp h with h | h
  ·have:=ns_wr f n h
   omega
  ·have:=ns_wr a n h
   omega
theorem sm_wr {p:Pr} (h:p.hs≤100) (hl:p.wr.length≤20000):Sm p:=⟨h,by have:=cnt_wr p;omega,fun n hn=>by have:=ns_wr p n hn;omega⟩
theorem oku_pr:∀ (p:Pr) (n:Nat),p.hs+1≤n→OkU n p.toD
 | .nm m,n+2,_=>.tuple (by simp) fun d hd=>by
  rcases List.mem_cons.mp hd with rfl | hd
  ·exact .str _
  ·rw [List.mem_singleton.mp hd]
   exact .str _
 | .fn m b,n+2,h=>.tuple (by simp) fun d hd=>by
  simp only [Pr.hs] at h
  rcases List.mem_cons.mp hd with rfl | hd
  ·exact .str _
  ·rcases List.mem_cons.mp hd with rfl | hd
   ·exact .str _
   ·rw [List.mem_singleton.mp hd]
    exact oku_pr b (n+1) (by omega)
 | .us f a,n+2,h=>.tuple (by simp) fun d hd=>by
  simp only [Pr.hs] at h
  rcases List.mem_cons.mp hd with rfl | hd
  ·exact .str _
  ·rcases List.mem_cons.mp hd with rfl | hd
   ·exact oku_pr f (n+1) (by omega)
   ·rw [List.mem_singleton.mp hd]
    exact oku_pr a (n+1) (by omega)
 | p,0,h=>absurd p.hs_pos (by omega)
 | p,1,h=>absurd p.hs_pos (by omega)
theorem oku_fU (f:Option Ft):OkU 100 (fU f):=by
 cases f with
 | none=>exact .none
 | some f =>
  cases f with
  | large=>exact okSU (okI _)
  | bad n=>exact okSU (.str _)
  | twice n=>exact okSU (.str _)
  | unknown n=>exact okSU (.str _)
  | used n=>exact okSU (.str _)
  | idle n=>exact okSU (.str _)
theorem parse_ok {cs:List Nat} (hl:cs.length≤10000):Zax (st cs)=match rd 100 cs with
  | .bad=>.bad
  | .err r=>.exc (Zeu ((cs.length:Int)-r.length))
  | .ok p r=>if r=[] then (match flt p with | some f=>.exc f.px | none=>.ok p.toD) else .exc (Zeu ((cs.length:Int)-r.length)):=by
 unfold Zax
 rw [read_ok 100 cs cs 0 (At.all (by omega))]
 cases e:rd 100 cs with
 | bad=>rfl
 | err r=>rfl
 | ok p r =>
  obtain ⟨e1,e2,e3⟩:=rd_ok e
  have hlen:=congrArg List.length e1
  rw [List.length_append] at hlen
  show ((M.lenS (st cs)>>=_)>>=_)=_
  rw [lenT (by omega)]
  simp only [M.Zab]
  by_cases hr:r=[]
  ·subst hr
   rw [if_pos rfl,if_neg (by rw [decide_eq_true_eq];simp)]
   show (Zar p.toD>>=_)=_
   rw [checked_ok (sm_wr e3 (by omega))]
   cases flt p<;>rfl
  ·have:0<r.length:=List.length_pos_iff.mpr hr
   rw [if_neg hr,if_pos (by rw [decide_eq_true_eq];show (cs.length:Int)-r.length<_;omega)]
   rfl
theorem text_ok {cs:List Nat} (hl:cs.length≤10000) (ho:cs.countP opn≤98):ZaK (st cs) = .ok true:=by
 unfold ZaK
 rw [bad_sign_ok (by omega)]
 have hp:=parse_ok hl
 have hf:=rd_fin (f:=100) (l:=cs)
 have sgn:∀ r:List Nat,r.length≤cs.length→Zax (st cs) = .exc (Zeu ((cs.length:Int)-r.length))→fin (run [.prog] false cs)=some r→(ZbS (UD.toU ()) (st cs) true>>=fun t1=>M.ok (bad_at cs)>>=fun sign_2=>if (decide ((0:Int)≤sign_2)) then (ZaY 100 t1.1 (UD.toU (("sign" : PySem.Str),sign_2))) else
   (ZcC (st cs))>>=fun tree_here_3 =>
  ((M.ofO (@OU.ofU PyData dUI _ tree_here_3))>>=fun t4=>(ZbG t4))>>=fun due_5 =>
  ((ZaY 100 t1.1 due_5)>>=fun t6=>(M.ok (!t6)))>>=fun b13=>if b13 then
  (M.ok false)
 else
  if (!Zcd due_5) then
   (M.ok true)
  else
   ((ZaY 100 t1.2 tree_here_3)>>=fun b12=>(if b12 then ((((M.ofO (@OU.ofU PyData dUI _ t1.2))>>=fun t9=>(Zao 100 t9))>>=fun t10=>(M.ok (UD.toU t10)))>>=fun t11=>(ZaY 100 t11 (UD.toU (st cs)))) else .ok false))) = .ok true:=fun r hr e1 e2=>by
  have eb:bad_at cs=(cs.length:Int)-r.length:=by unfold bad_at;rw [e2]
  have et:ZbS (UD.toU ()) (st cs) true = .ok (sgU ((cs.length:Int)-r.length),UD.toU ()):=by
   unfold ZbS
   rw [if_pos rfl,e1]
   show M.tryK kn (fun c=>XC.isA c .ComesapartError) (.exc (Zeu _)) toldH=_
   rw [M.tryK_exc rfl rfl]
   exact told_sign _
  rw [et,eb]
  simp only [M.Zab]
  rw [if_pos (decide_eq_true (by omega))]
  exact same_refl (n:=100) (okSU (okI _))
 cases e:rd 100 cs with
 | bad=>exact absurd e (rd_nb (by omega))
 | err r =>
  rw [e] at hp hf
  refine sgn r ?_ hp hf
  have:∀ (s:List Tk) (i:Bool) (l r:List Nat),fin (run s i l)=some r→r.length≤l.length:=fun s i l=>by
   induction l generalizing s i with
   | nil =>
    intro r h
    have h:(if s=[] then none else some ([]:List Nat))=some r:=h
    split at h
    ·cases h
    ·cases h;exact Nat.le_refl _
   | cons c l ih =>
    intro r h
    have h:fin (match stq c s i with | none=>.inl (c::l) | some (s',i')=>run s' i' l)=some r:=h
    cases q:stq c s i with
    | none=>rw [q] at h;cases h;exact Nat.le_refl _
    | some x =>
     obtain ⟨s',i'⟩:=x
     rw [q] at h
     have:=ih s' i' r h
     simp only [List.length_cons]
     omega
  exact this _ _ _ _ hf
 | ok p r =>
  rw [e] at hp hf
  obtain ⟨e1,e2,e3⟩:=rd_ok e
  have hlen:=congrArg List.length e1
  rw [List.length_append] at hlen
  simp only at hp hf
  by_cases hr:r=[]
  ·subst hr
   rw [if_pos rfl] at hp hf
   rw [List.append_nil] at e1
   subst e1
   have eb:bad_at p.wr = -1:=by unfold bad_at;rw [hf]
   have sm:=sm_wr e3 (by omega:p.wr.length≤20000)
   rw [eb]
   have et:ZbS (UD.toU ()) (st p.wr) true = .ok (match flt p with | some f=>(f.toU,UD.toU ()) | none=>(UD.toU (),p.toD)):=by
    unfold ZbS
    rw [if_pos rfl,hp]
    cases flt p with
    | none=>rfl
    | some f =>
     show M.tryK kn (fun c=>XC.isA c .ComesapartError) (.exc f.px) toldH=_
     rw [M.tryK_exc (by cases f<;>rfl) (by cases f<;>rfl)]
     exact told_px f
   rw [et]
   simp only [M.Zab]
   rw [if_neg (by decide),ltree_ok e2 (by omega)]
   simp only [M.Zab]
   rw [ouV]
   simp only [M.ZaO,M.Zab]
   rw [fault_ok sm]
   simp only [M.Zab]
   cases hfl:flt p with
   | some f =>
    have:=same_refl (oku_fU (some f))
    simp only [fU] at this ⊢
    rw [this]
    cases f<;>rfl
   | none =>
    simp only [fU]
    rw [show ZaY 100 (UD.toU ()) (UD.toU ()) = .ok true from same_refl (oku_fU none)]
    simp only [M.Zab,Bool.not_true,Bool.false_eq_true,if_false]
    rw [if_neg (by decide),same_refl (oku_pr p 100 (by
     have:p.hs≤p.cnt+1:=p.hs_cnt
     have h2:∀ q:Pr,q.cnt≤q.wr.countP opn:=fun q=>by
      induction q with
      | nm _=>exact Nat.zero_le _
      | fn n b ih =>
       simp only [Pr.cnt,Pr.wr,List.countP_cons,List.countP_append]
       simp [opn] at ih ⊢
       omega
      | us f a ih1 ih2 =>
       simp only [Pr.cnt,Pr.wr,List.countP_cons,List.countP_append]
       simp [opn] at ih1 ih2 ⊢
       omega
     have:=h2 p
     omega))]
    simp only [M.Zab,if_true]
    rw [ouV]
    simp only [M.ZaO,M.Zab]
    rw [Zek p 100 e3 (by omega)]
    simp only [M.Zab]
    exact same_refl (n:=100) (.str _)
  ·rw [if_neg hr] at hp hf
   exact sgn r (by omega) hp hf
def lv:Pr→List PySem.Str
 | .nm n=>[n]
 | .fn _ b=>lv b
 | .us f a=>lv f++lv a
def bd:Pr→List PySem.Str
 | .nm _=>[]
 | .fn n b=>n::bd b
 | .us f a=>bd f++bd a
def Sc:List PySem.Str→Pr→Prop
 | A,.nm n=>n∈A
 | A,.fn n b=>Sc (A++[n]) b∧n∈lv b
 | A,.us f a=>Sc A f∧Sc A a
theorem Sc.mono:∀ {p:Pr} {A A' : List PySem.Str},Sc A p→(∀ x∈A,x∈A')→Sc A' p
 | .nm n,_,_,h,hm=>hm n h
 | .fn n b,A,A',h,hm=>⟨Sc.mono h.1 fun x hx=>by
  rcases List.mem_append.mp hx with hx | hx
  ·exact List.mem_append_left _ (hm x hx)
  ·exact List.mem_append_right _ hx,h.2⟩
 | .us f a,_,_,h,hm=>⟨Sc.mono h.1 hm,Sc.mono h.2 hm⟩
theorem ns_in:∀ (p:Pr) (x:PySem.Str),x∈p.ns→x∈lv p∨x∈bd p
 | .nm n,x,h=>.inl h
 | .fn n b,x,h=>by
  rcases List.mem_cons.mp h with rfl | h
  ·exact .inr List.mem_cons_self
  ·rcases ns_in b x h with h | h
   ·exact .inl h
   ·exact .inr (List.mem_cons_of_mem _ h)
 | .us f a,x,h=>by
  rcases List.mem_append.mp h with h | h
  ·rcases ns_in f x h with h | h
   ·exact .inl (List.mem_append_left _ h)
   ·exact .inr (List.mem_append_left _ h)
  ·rcases ns_in a x h with h | h
   ·exact .inl (List.mem_append_right _ h)
   ·exact .inr (List.mem_append_right _ h)
theorem cnt_eq:∀ p:Pr,p.cnt+1=p.funs+(lv p).length
 | .nm _=>rfl
 | .fn _ b=>by have:=cnt_eq b;simp only [Pr.cnt,Pr.funs,lv];omega
 | .us f a=>by have:=cnt_eq f;have:=cnt_eq a;simp only [Pr.cnt,Pr.funs,lv,List.length_append];omega
theorem bd_len:∀ p:Pr,(bd p).length=p.funs
 | .nm _=>rfl
 | .fn _ b=>by simp only [bd,Pr.funs,List.length_cons,bd_len b]
 | .us f a=>by simp only [bd,Pr.funs,List.length_append,bd_len f,bd_len a]
theorem chk_ok:∀ (p:Pr) (A B U:List PySem.Str),Sc A p→(B++bd p).Nodup→(U++lv p).Nodup→(∀ n∈p.ns,okN n=true)→chk p A B U = .inr (B++bd p,U++lv p)
 | .us f a,A,B,U,hs,hb,hu,hn=>by
  have hb:(B++(bd f++bd a)).Nodup:=hb
  have hu:(U++(lv f++lv a)).Nodup:=hu
  rw [← List.append_assoc] at hb hu
  unfold chk
  rw [chk_ok f A B U hs.1 (List.nodup_append.mp hb).1 (List.nodup_append.mp hu).1 fun n h=>hn n (List.mem_append_left _ h)]
  simp only
  rw [chk_ok a A _ _ hs.2 hb hu fun n h=>hn n (List.mem_append_right _ h)]
  simp [bd,lv]
 | .nm n,A,B,U,hs,hb,hu,hn=>by
  have hu:(U++[n]).Nodup:=hu
  unfold chk
  rw [if_neg (by rw [hn n (List.mem_singleton.mpr rfl)];decide),if_neg (not_not_intro (show n∈A from hs)),if_neg fun z=>(List.nodup_append.mp hu).2.2 n z n (List.mem_singleton.mpr rfl) rfl]
  simp [bd,lv]
 | .fn n b,A,B,U,hs,hb,hu,hn=>by
  have hb:(B++(n::bd b)).Nodup:=hb
  have hu:(U++lv b).Nodup:=hu
  unfold chk
  rw [if_neg (by rw [hn n List.mem_cons_self];decide),if_neg fun z=>(List.nodup_append.mp hb).2.2 n z n List.mem_cons_self rfl]
  rw [chk_ok b (A++[n]) (B++[n]) U hs.1 (by rw [List.append_assoc];exact hb) hu fun x h=>hn x (List.mem_cons_of_mem _ h)]
  simp only
  rw [if_neg (not_not_intro (List.mem_append_right _ hs.2))]
  simp [bd,lv]
def good9 (n:PySem.Str):Prop:=n.length≤9∧n.cps.toList.countP opn=0
structure Bd (k:Nat) (p:Pr):Prop where
 cnt:p.cnt≤k
 nm:∀ n∈p.ns,good9 n
theorem wr_len:∀ (p:Pr),(∀ n∈p.ns,good9 n)→p.wr.length≤12*(2*p.cnt+1)
 | .nm n,h=>by
  have h1:=(h n (List.mem_singleton.mpr rfl)).1
  have h2:n.cps.toList.length=n.length:=Array.length_toList
  simp only [Pr.wr,Pr.cnt]
  omega
 | .fn n b,h=>by
  have h1:=(h n List.mem_cons_self).1
  have h2:n.cps.toList.length=n.length:=Array.length_toList
  have:=wr_len b fun x hx=>h x (List.mem_cons_of_mem _ hx)
  simp only [Pr.wr,Pr.cnt,List.length_cons,List.length_append,List.length_nil]
  omega
 | .us f a,h=>by
  have h1:=wr_len f fun x hx=>h x (List.mem_append_left _ hx)
  have h2:=wr_len a fun x hx=>h x (List.mem_append_right _ hx)
  simp only [Pr.wr,Pr.cnt,List.length_cons,List.length_append,List.length_nil]
  omega
theorem wr_opn:∀ (p:Pr),(∀ n∈p.ns,good9 n)→p.wr.countP opn=p.cnt
 | .nm n,h=>(h n (List.mem_singleton.mpr rfl)).2
 | .fn n b,h=>by
  have h1:=(h n List.mem_cons_self).2
  have:=wr_opn b fun x hx=>h x (List.mem_cons_of_mem _ hx)
  have e1:opn 91=true:=by decide
  have e2:opn 32=false:=by decide
  have e3:opn 93=false:=by decide
  simp only [Pr.wr,Pr.cnt,List.countP_cons,List.countP_append,h1,this,e1,e2,e3,List.countP_nil]
  simp
 | .us f a,h=>by
  have h1:=wr_opn f fun x hx=>h x (List.mem_append_left _ hx)
  have h2:=wr_opn a fun x hx=>h x (List.mem_append_right _ hx)
  have e1:opn 40=true:=by decide
  have e2:opn 32=false:=by decide
  have e3:opn 41=false:=by decide
  simp only [Pr.wr,Pr.cnt,List.countP_cons,List.countP_append,h1,h2,e1,e2,e3,List.countP_nil]
  simp
theorem Bd.sm {p:Pr} (h:Bd 61 p):Sm p:=⟨by have:=p.hs_cnt;have:=h.cnt;omega,by have:=h.cnt;omega,fun n hn=>by have:=(h.nm n hn).1;omega⟩
theorem prog_ok {p:Pr} (h:Bd 61 p):Zal p.toD = .ok true:=by
 have hc:=h.cnt
 have hw:=wr_len p h.nm
 have ho:=wr_opn p h.nm
 have hh:=p.hs_cnt
 unfold Zal
 rw [fault_ok h.sm]
 simp only [M.Zab]
 rw [told_prog h.sm]
 simp only [M.Zab]
 rw [same_refl (oku_fU _)]
 simp only [M.Zab,Bool.not_true,Bool.false_eq_true,if_false]
 rw [ZdD p 100 (by omega) (by omega)]
 simp only [M.Zab]
 rw [text_ok (by omega) (by omega)]
 simp only [M.Zab,Bool.not_true,Bool.false_eq_true,if_false]
 rw [Zek p 100 (by omega) (by omega)]
 simp only [M.Zab]
 rw [show ZaY 100 (UD.toU (st p.wr)) (UD.toU (st p.wr)) = .ok true from same_refl (n:=100) (.str _)]
 split<;>rfl
theorem ix_mem {α:Type} {xs:List α} {i:Int} (h0:0≤i) (h1:i<xs.length):∃ x∈xs,M.ix xs i = .ok x:=by
 obtain ⟨x,hx,e⟩:=M.Zeb h0 h1
 exact ⟨x,List.mem_of_getElem? hx,e⟩
def Ch (p:Pr) (name:PySem.Str) (r:PyData):Prop:=∃ q:Pr,r=q.toD∧q.cnt≤2*p.cnt+3 ∧ ∀ n∈q.ns,n∈p.ns∨n=name
theorem namec_sat (p:Pr) (name:PySem.Str) {deed:Int} (h0:0≤deed) (h8:deed<8):M.sat (ZaJ p.toD deed name) (Ch p name):=by
 unfold ZaJ
 simp only [M.Zab]
 rw [ZdU (by simp)]
 simp only [M.Zab]
 rw [ZdU (by simp)]
 simp only [M.Zab]
 refine M.sat_ix h0 (by simpa using h8) fun x hx=>?_
 have hx:=List.mem_of_getElem? hx
 simp only [List.cons_append,List.nil_append,List.mem_cons,List.not_mem_nil,or_false] at hx
 rcases hx with rfl | rfl | rfl | rfl | rfl | rfl | rfl | rfl
 ·exact ⟨.nm name,rfl,by simp [Pr.cnt],by simp [Pr.ns]⟩
 ·exact ⟨.us p p,rfl,by simp only [Pr.cnt];omega,fun n h=>by simp [Pr.ns] at h;exact .inl h⟩
 ·exact ⟨.fn name p,rfl,by simp only [Pr.cnt];omega,fun n h=>by simp [Pr.ns] at h;rcases h with h | h<;>simp [h]⟩
 ·exact ⟨.fn name (.nm name),rfl,by simp only [Pr.cnt];omega,by simp [Pr.ns]⟩
 ·exact ⟨.us p (.fn name (.nm name)),rfl,by simp only [Pr.cnt];omega,fun n h=>by simp [Pr.ns] at h;rcases h with h | h<;>simp [h]⟩
 ·exact ⟨.us (.fn name (.nm name)) p,rfl,by simp only [Pr.cnt];omega,fun n h=>by simp [Pr.ns] at h;rcases h with h | h<;>simp [h]⟩
 ·exact ⟨.nm name,rfl,by simp [Pr.cnt],by simp [Pr.ns]⟩
 ·exact ⟨.us p (.nm name),rfl,by simp only [Pr.cnt];omega,fun n h=>by simp [Pr.ns] at h;rcases h with h | h<;>simp [h]⟩
theorem func_sat (m:PySem.Str) (b:Pr) (name:PySem.Str) {deed:Int} (h0:0≤deed) (h8:deed<8):M.sat (ZaR (Pr.fn m b).toD deed name) (Ch (.fn m b) name):=by
 unfold ZaR
 simp only [itF,M.ZaO,M.Zab,ix1,ix2,ouS,ouV]
 rw [ZdU (by simp)]
 simp only [M.Zab]
 rw [ZdU (by simp)]
 simp only [M.Zab]
 refine M.sat_ix h0 (by simpa using h8) fun x hx=>?_
 have hx:=List.mem_of_getElem? hx
 simp only [List.cons_append,List.nil_append,List.mem_cons,List.not_mem_nil,or_false] at hx
 rcases hx with rfl | rfl | rfl | rfl | rfl | rfl | rfl | rfl
 ·exact ⟨.fn name b,rfl,by simp only [Pr.cnt];omega,fun n h=>by simp [Pr.ns] at h ⊢;rcases h with h | h<;>simp [h]⟩
 ·exact ⟨b,rfl,by simp only [Pr.cnt];omega,fun n h=>.inl (List.mem_cons_of_mem _ h)⟩
 ·exact ⟨.fn name (.fn m b),rfl,by simp only [Pr.cnt];omega,fun n h=>by simp [Pr.ns] at h ⊢;rcases h with h | h | h<;>simp [h]⟩
 ·exact ⟨.us (.fn m b) (.fn m b),rfl,by simp only [Pr.cnt];omega,fun n h=>.inl (by rcases List.mem_append.mp h with h | h<;>exact h)⟩
 ·exact ⟨.us (.fn m b) (.fn name (.nm name)),rfl,by simp only [Pr.cnt];omega,fun n h=>by simp [Pr.ns] at h ⊢;rcases h with h | h | h<;>simp [h]⟩
 ·exact ⟨.fn m (.fn m b),rfl,by simp only [Pr.cnt];omega,fun n h=>by simp [Pr.ns] at h ⊢;rcases h with h | h<;>simp [h]⟩
 ·exact ⟨.fn name b,rfl,by simp only [Pr.cnt];omega,fun n h=>by simp [Pr.ns] at h ⊢;rcases h with h | h<;>simp [h]⟩
 ·exact ⟨.fn m (.us b (.nm m)),rfl,by simp only [Pr.cnt];omega,fun n h=>by simp [Pr.ns] at h ⊢;rcases h with h | h | h<;>simp [h]⟩
theorem usec_sat (f a:Pr) (name:PySem.Str) {deed:Int} (h0:0≤deed) (h8:deed<8):M.sat (ZaQ (Pr.us f a).toD deed name) (Ch (.us f a) name):=by
 unfold ZaQ
 simp only [itU,M.ZaO,M.Zab,ix1,ix2,ouS,ouV]
 rw [ZdU (by simp)]
 simp only [M.Zab]
 refine M.sat_ix h0 (by simpa using h8) fun x hx=>?_
 have hx:=List.mem_of_getElem? hx
 simp only [List.cons_append,List.nil_append,List.mem_cons,List.not_mem_nil,or_false] at hx
 rcases hx with rfl | rfl | rfl | rfl | rfl | rfl | rfl | rfl
 ·exact ⟨.us a f,rfl,by simp only [Pr.cnt];omega,fun n h=>by simp [Pr.ns] at h ⊢;rcases h with h | h<;>simp [h]⟩
 ·exact ⟨f,rfl,by simp only [Pr.cnt];omega,fun n h=>.inl (List.mem_append_left _ h)⟩
 ·exact ⟨a,rfl,by simp only [Pr.cnt];omega,fun n h=>.inl (List.mem_append_right _ h)⟩
 ·exact ⟨.fn name (.us f a),rfl,by simp only [Pr.cnt];omega,fun n h=>by simp [Pr.ns] at h ⊢;rcases h with h | h | h<;>simp [h]⟩
 ·exact ⟨.us (.us f a) (.nm name),rfl,by simp only [Pr.cnt];omega,fun n h=>by simp [Pr.ns] at h ⊢;rcases h with h | h | h<;>simp [h]⟩
 ·exact ⟨.us (.nm name) (.us f a),rfl,by simp only [Pr.cnt];omega,fun n h=>by simp [Pr.ns] at h ⊢;rcases h with h | h | h<;>simp [h]⟩
 ·exact ⟨.us f f,rfl,by simp only [Pr.cnt];omega,fun n h=>.inl (List.mem_append_left _ (by rcases List.mem_append.mp h with h | h<;>exact h))⟩
 ·exact ⟨.us a f,rfl,by simp only [Pr.cnt];omega,fun n h=>by simp [Pr.ns] at h ⊢;rcases h with h | h<;>simp [h]⟩
theorem Zda (d:List Int) (name:PySem.Str):∀ (p:Pr) (k:Nat) (a:Int),p.hs≤k→M.sat (Zbi k d a p.toD name) (Ch p name)
 | .nm n,k+1,a,_=>by
  show M.sat (Zbk _ _ _ _ _) _
  unfold Zbk
  have p8:=ZaU (d:=d) (k:=a+1) (m:=8) (by decide)
  simp only [ZdB,itN,M.ZaO,M.Zab,jx0,jx1,ouS,nf,nu,nn,if_true,decide_true,Bool.false_eq_true,if_false]
  exact namec_sat (.nm n) name p8.1 p8.2
 | .fn m b,k+1,a,h=>by
  simp only [Pr.hs] at h
  have p8:=ZaU (d:=d) (k:=a+1) (m:=8) (by decide)
  have ih:=Zda d name b k (a+1) (by omega)
  show M.sat (Zbk _ _ _ _ _) _
  unfold Zbk
  simp only [ZdB,itF,M.ZaO,M.Zab,ix0,ix1,ix2,ouS,ouV,fN,ff,fu,if_true,decide_true,Bool.false_eq_true,if_false]
  refine M.Zdm (fun _=>?_) fun _=>func_sat m b name p8.1 p8.2
  obtain ⟨r,er,q,rfl,h1,h2⟩:=ih
  rw [er]
  refine M.Zbb ⟨.fn m q,rfl,by simp only [Pr.cnt];omega,fun n hn=>?_⟩
  simp only [Pr.ns,List.mem_cons] at hn ⊢
  rcases hn with hn | hn
  ·exact .inl (.inl hn)
  ·rcases h2 n hn with h2 | h2
   ·exact .inl (.inr h2)
   ·exact .inr h2
 | .us f b,k+1,a,h=>by
  simp only [Pr.hs] at h
  have p8:=ZaU (d:=d) (k:=a+1) (m:=8) (by decide)
  have ih1:=Zda d name f k (a+1) (by omega)
  have ih2:=Zda d name b k (a+1) (by omega)
  show M.sat (Zbk _ _ _ _ _) _
  unfold Zbk
  simp only [ZdB,itU,M.ZaO,M.Zab,ix0,ix1,ix2,ouS,ouV,un,uf,uu,if_true,decide_true,Bool.false_eq_true,if_false]
  refine M.Zdm (fun _=>?_) fun _=>M.Zdm (fun _=>?_) fun _=>usec_sat f b name p8.1 p8.2
  ·obtain ⟨r,er,q,rfl,h1,h2⟩:=ih1
   rw [er]
   refine M.Zbb ⟨.us q b,rfl,by simp only [Pr.cnt];omega,fun n hn=>?_⟩
   rcases List.mem_append.mp hn with hn | hn
   ·rcases h2 n hn with h2 | h2
    ·exact .inl (List.mem_append_left _ h2)
    ·exact .inr h2
   ·exact .inl (List.mem_append_right _ hn)
  ·obtain ⟨r,er,q,rfl,h1,h2⟩:=ih2
   rw [er]
   refine M.Zbb ⟨.us f q,rfl,by simp only [Pr.cnt];omega,fun n hn=>?_⟩
   rcases List.mem_append.mp hn with hn | hn
   ·exact .inl (List.mem_append_left _ hn)
   ·rcases h2 n hn with h2 | h2
    ·exact .inl (List.mem_append_right _ h2)
    ·exact .inr h2
 | p,0,_,h=>absurd p.hs_pos (by omega)
theorem Ch.bd {p:Pr} {name:PySem.Str} {r:PyData} {k:Nat} (h:Ch p name r) (hb:Bd k p) (hn:good9 name):∃ q:Pr,r=q.toD∧Bd (2*k+3) q:=by
 obtain ⟨q,e,h1,h2⟩:=h
 refine ⟨q,e,by have:=hb.cnt;omega,fun n hq=>?_⟩
 rcases h2 n hq with h | rfl
 ·exact hb.nm n h
 ·exact hn
theorem folds_fn:∀ (L:List PySem.Str) (p:Pr),M.fold (fun (s8:PyData) x9 =>
  (M.ok (PyData.tuple [(UD.toU ("fun" : PySem.Str)),(UD.toU x9),s8]))>>=fun program_here_10 =>
   M.ok program_here_10) p.toD L = .ok (L.foldl (fun p n=>Pr.fn n p) p).toD
 | [],p=>rfl
 | n::L,p=>folds_fn L (.fn n p)
theorem folds_us:∀ (L:List PySem.Str) (p:Pr),M.fold (fun (s4:PyData) x5 =>
  (M.ok (PyData.tuple [(UD.toU ("use" : PySem.Str)),s4,(PyData.tuple [(UD.toU ("name" : PySem.Str)),(UD.toU x5)])]))>>=fun program_here_6 =>
   M.ok program_here_6) p.toD L = .ok (L.foldl (fun p n=>Pr.us p (.nm n)) p).toD
 | [],p=>rfl
 | n::L,p=>folds_us L (.us p (.nm n))
theorem fns_bd:∀ (L:List PySem.Str) (p:Pr) (k:Nat),Bd k p→(∀ n∈L,good9 n)→Bd (k+L.length) (L.foldl (fun p n=>Pr.fn n p) p)
 | [],p,k,h,_=>h
 | n::L,p,k,h,hn=>by
  have:=fns_bd L (.fn n p) (k+1) ⟨by have:=h.cnt;simp only [Pr.cnt];omega,fun x hx=>by
   rcases List.mem_cons.mp hx with rfl | hx
   ·exact hn _ List.mem_cons_self
   ·exact h.nm x hx⟩ fun x hx=>hn x (List.mem_cons_of_mem _ hx)
  rw [List.length_cons,show k+(L.length+1)=k+1+L.length by omega]
  exact this
theorem uss_bd:∀ (L:List PySem.Str) (p:Pr) (k:Nat),Bd k p→(∀ n∈L,good9 n)→Bd (k+L.length) (L.foldl (fun p n=>Pr.us p (.nm n)) p)
 | [],p,k,h,_=>h
 | n::L,p,k,h,hn=>by
  have:=uss_bd L (.us p (.nm n)) (k+1) ⟨by have:=h.cnt;simp only [Pr.cnt];omega,fun x hx=>by
   rcases List.mem_append.mp hx with hx | hx
   ·exact h.nm x hx
   ·rw [List.mem_singleton.mp hx];exact hn _ List.mem_cons_self⟩ fun x hx=>hn x (List.mem_cons_of_mem _ hx)
  rw [List.length_cons,show k+(L.length+1)=k+1+L.length by omega]
  exact this
theorem chain_sat {L:List PySem.Str} (h1:1≤L.length) (h2:L.length≤13) (hn:∀ n∈L,good9 n):∃ p:Pr,Zce L = .ok p.toD∧Bd 61 p:=by
 cases L with
 | nil=>simp at h1
 | cons n L =>
  rw [List.length_cons] at h2
  have b0:Bd 0 (.nm n):=⟨Nat.le_refl _,fun x hx=>by rw [List.mem_singleton.mp hx];exact hn _ List.mem_cons_self⟩
  have b1:=uss_bd L (.nm n) 0 b0 fun x hx=>hn x (List.mem_cons_of_mem _ hx)
  have b2:=fns_bd (n::L) _ _ b1 hn
  refine ⟨(n::L).foldl (fun p n=>Pr.fn n p) (L.foldl (fun p n=>Pr.us p (.nm n)) (.nm n)),?_,by have:=b2.cnt;rw [List.length_cons] at this;omega,b2.nm⟩
  unfold Zce
  rw [show M.ix (n::L) (0:Int) = .ok n from M.ix_at (by decide) rfl]
  simp only [M.Zab]
  rw [show cutL (n::L) (some (1:Int)) none=L by
   have:=cutD (n::L) 1
   rw [show ((1:Nat):Int)=1 from rfl] at this
   exact this]
  have e1:=folds_us L (.nm n)
  have e2:=folds_fn (n::L) (L.foldl (fun p n=>Pr.us p (.nm n)) (.nm n))
  rw [show (PyData.tuple [UD.toU ("name" : PySem.Str),UD.toU n])=(Pr.nm n).toD from rfl]
  simp only [M.Zab] at e1 e2
  rw [e1]
  simp only [M.Zab]
  rw [e2]
  rfl
theorem shuffled_sat {n:Nat} (d:List Int) (at_:Int) (hn:n≤100):M.sat (Zbn d at_ (n:Int)) fun r=>r.Perm (rngL 0 n):=by
 unfold Zbn
 simp only [ZdB,M.Zab]
 rw [rangeL_ok (by omega) (by omega),M.rangeN (by omega)]
 simp only [M.Zab]
 rw [show ((n:Int)).toNat=n by omega]
 refine M.Zdr (M.sat_fold (fun i (s:List Int×List Int)=>s.2.length=i∧s.1.length+i=n∧(s.2++s.1).Perm (rngL 0 n)) ⟨rfl,by show (rngL 0 n).length+0=n;rw [Zds];rfl,List.Perm.refl _⟩ fun i x s hx ⟨hl,hl2,hp⟩=>?_) fun s ⟨hl,hl2,hp⟩=>?_
 ·have hi:=(rngL_get hx).1
  have hr:=ZaU (d:=d) (k:=at_+x) (m:=(s.1.length:Int)) (by omega)
  generalize pick d (at_+x) (s.1.length:Int)=k at hr
  obtain ⟨y,hy,_⟩:=M.Zeb hr.1 hr.2
  rw [appendPop_at hr.1 (by omega) hy (by omega)]
  refine ⟨_,rfl,by simp;omega,?_,?_⟩
  ·show (s.1.eraseIdx k.toNat).length+_=_
   rw [List.length_eraseIdx,if_pos (by omega)];omega
  ·have p:=perm_erase s.1 k.toNat y hy
   refine List.Perm.trans ?_ hp
   show (s.2++[y]++s.1.eraseIdx k.toNat).Perm (s.2++s.1)
   rw [List.append_assoc]
   exact List.Perm.append_left _ p
 ·rw [Zds] at hl hl2
  have:s.1=[]:=List.eq_nil_of_length_eq_zero (by omega)
  rw [this,List.append_nil] at hp
  exact M.Zbb hp
theorem join_sgs:∀ l:List Nat,Txt.join ("" : PySem.Str) (sgs l)=st l:=by
 intro l
 show Builtin.Str.glued (PySem.Str.ofString "") (sgs l)=st l
 rw [StrLaws.glued_eq_join]
 induction l with
 | nil=>rfl
 | cons c l ih =>
  cases l with
  | nil=>rfl
  | cons c2 l =>
   show st [c]++(PySem.Str.ofString "")++PySem.Str.join (PySem.Str.ofString "") (sgs (c2::l))=_
   rw [ih,show PySem.Str.ofString "" = st [] from Le,st_cat,st_cat]
   rfl
def azc (x:Int):Nat:=97+x.toNat
theorem az_ix {x:Int} (h0:0≤x) (h1:x<26):M.ixS ("abcdefghijklmnopqrstuvwxyz" : PySem.Str) x = .ok (st [azc x])∧okC (azc x)=true:=by
 have hz:("abcdefghijklmnopqrstuvwxyz" : PySem.Str).cps.toList=(List.range 26).map fun i=>97+i:=by decide
 have hx:x.toNat<26:=by omega
 constructor
 ·unfold M.ixS
  rw [M.Zah (by decide),hz,atI_of h0 (x:=azc x) (by rw [List.getElem?_map,List.getElem?_range hx];rfl)]
  rfl
 ·have:∀ i,i<26→okC (97+i)=true:=by decide
  exact this _ hx
structure NL (L:List (List Nat)) (m:Nat):Prop where
 len:L.length=m
 nd:L.Nodup
 ok:∀ l∈L,1≤l.length∧l.length≤8 ∧ ∀ c∈l,okC c=true
theorem sl_lo {l:List Nat} (p:Nat) (h:l.length≤20000):M.slS (st l) none (some (p:Int)) = .ok (st (l.take p)):=by
 unfold M.slS
 rw [M.Zah (Nat.le_of_lt (ZcQ (by rw [ZcV];omega)))]
 unfold cutS
 rw [HT.sIx_nat,HT.sIx_none,ZcV,Zer,Nat.sub_zero,List.drop_zero]
 by_cases hp:p≤l.length
 ·rw [Nat.min_eq_left hp]
  rfl
 ·rw [Nat.min_eq_right (by omega),List.take_of_length_le (Nat.le_refl _),List.take_of_length_le (by omega)]
  rfl
theorem sl_hi {l:List Nat} (p:Nat) (h:l.length≤20000):M.slS (st l) (some (p:Int)) none = .ok (st (l.drop p)):=by
 unfold M.slS
 rw [M.Zah (Nat.le_of_lt (ZcQ (by rw [ZcV];omega)))]
 unfold cutS
 rw [HT.sIx_nat,HT.sIx_none,ZcV,Zer]
 by_cases hp:p≤l.length
 ·rw [Nat.min_eq_left hp,List.take_of_length_le (by rw [List.length_drop];omega)]
  rfl
 ·rw [Nat.min_eq_right (by omega),List.drop_eq_nil_of_le (Nat.le_refl _),List.drop_eq_nil_of_le (by omega),List.take_nil]
  rfl
theorem sl_mid {l:List Nat} (p q:Nat) (h:l.length≤20000) (hq:q≤p+1):∃ m,M.slS (st l) (some (p:Int)) (some (q:Int)) = .ok (st m)∧m.length≤1:=by
 refine ⟨(l.drop (min p l.length)).take (min q l.length-min p l.length),?_,by rw [List.length_take];omega⟩
 unfold M.slS
 rw [M.Zah (Nat.le_of_lt (ZcQ (by rw [ZcV];omega)))]
 unfold cutS
 rw [HT.sIx_nat,HT.sIx_nat,ZcV,Zer]
 rfl
theorem distinct_sat (d e:List Int) {m:Nat} (hm:m≤26):M.sat (Zbe d e (m:Int)) fun r=>∃ L,r=L.map st∧NL L m:=by
 unfold Zbe
 obtain ⟨R,eR,hR⟩:=shuffled_sat d 0 (n:=26) (by decide)
 rw [show ((26:Nat):Int)=26 from rfl] at eR
 rw [eR]
 have hRl:R.length=26:=by rw [hR.length_eq,Zds]
 have hRn:R.Nodup:=hR.nodup_iff.mpr (rngL_nodup _ _)
 have hRr:∀ x∈R,0≤x∧x<26:=fun x hx=>by have:=Zdt.mp (hR.mem_iff.mp hx);omega
 simp only [M.Zab,ZdB]
 rw [M.comp_mapM (fun x=>st [azc x]) fun x hx=>(az_ix (hRr x hx).1 (hRr x hx).2).1]
 simp only [M.Zab]
 have p8:=ZaU (d:=e) (k:=0) (m:=8) (by decide)
 rw [M.range_ok (by omega) (by omega)]
 simp only [M.Zab]
 have hsg:∀ x:Int,∃ c,M.ixS ("etaoinsh" : PySem.Str) (pick e (2+x) 8) = .ok (st [c])∧okC c=true:=fun x=>by
  have q8:=ZaU (d:=e) (k:=2+x) (m:=8) (by decide)
  have hz:("etaoinsh" : PySem.Str).cps.toList.length=8:=by decide
  obtain ⟨c,hc,ec⟩:=M.Zeb (xs:=("etaoinsh" : PySem.Str).cps.toList) (i:=pick e (2+x) 8) q8.1 (by rw [hz];exact q8.2)
  refine ⟨c,?_,(by decide:∀ c∈("etaoinsh" : PySem.Str).cps.toList,okC c=true) c (List.mem_of_getElem? hc)⟩
  unfold M.ixS
  rw [M.Zah (by decide),atI_of q8.1 hc]
  rfl
 rw [M.comp_mapM (fun x=>st [(hsg x).choose]) fun x _=>(hsg x).choose_spec.1]
 simp only [M.Zab]
 obtain ⟨w,hw,hw7,hwo⟩:∃ w:List Nat,((rngL 0 (pick e 0 8).toNat).map fun x=>st [(hsg x).choose])=sgs w∧w.length≤7 ∧ ∀ c∈w,okC c=true:=by
  refine ⟨(rngL 0 (pick e 0 8).toNat).map fun x=>(hsg x).choose,by unfold sgs;rw [List.map_map];rfl,by rw [List.length_map,Zds];omega,fun c hc=>?_⟩
  obtain ⟨x,_,rfl⟩:=List.mem_map.mp hc
  exact (hsg x).choose_spec.2
 rw [hw]
 have hsum:((sgs w).map (·.length)).sum=w.length:=by
  clear hw hw7 hwo
  induction w with
  | nil=>rfl
  | cons c w ih =>
   rw [sgs_cons,List.map_cons,List.sum_cons,ih]
   show 1+_=_
   simp
   omega
 have hj:M.join ("" : PySem.Str) (sgs w) = .ok (st w):=by
  unfold M.join
  rw [M.Zah (by rw [hsum,show ("" : PySem.Str).length=0 by decide];omega),join_sgs]
 rw [hj]
 simp only [M.Zab]
 rw [lenT (by omega)]
 simp only [M.Zab]
 have pp:=ZaU (d:=e) (k:=1) (m:=(w.length:Int)+1) (by omega)
 obtain ⟨p,hp⟩:∃ p:Nat,pick e 1 ((w.length:Int)+1)=p:=⟨_,(Int.toNat_of_nonneg pp.1).symm⟩
 rw [hp] at pp ⊢
 rw [sl_lo p (by omega),sl_hi p (by omega)]
 simp only [M.Zab]
 have hcut:cutL (R.map fun x=>st [azc x]) none (some (m:Int))=(R.take m).map fun x=>st [azc x]:=by rw [cutT,List.map_take]
 rw [hcut]
 have hl1:(w.take p).length+(w.drop p).length=w.length:=by rw [← List.length_append,List.take_append_drop]
 have hn1:M.comp (fun _=>(M.ok true)) (fun x12=>(M.catS (st (w.take p)) x12)>>=fun t14=>M.catS t14 (st (w.drop p))) ((R.take m).map fun x=>st [azc x]) = .ok (((R.take m).map fun x=>w.take p++[azc x]++w.drop p).map st):=by
  have e1:∀ y∈(R.take m).map fun x=>st [azc x],(M.catS (st (w.take p)) y>>=fun t14=>M.catS t14 (st (w.drop p))) = .ok (st (w.take p)++y++st (w.drop p)):=fun y hy=>by
   obtain ⟨x,_,rfl⟩:=List.mem_map.mp hy
   rw [catT (by simp;omega)]
   simp only [M.Zab]
   rw [catT (by simp;omega),st_cat,st_cat]
  rw [M.comp_mapM _ e1,List.map_map,List.map_map]
  congr 1
  refine List.map_congr_left fun x _=>?_
  show st (w.take p)++st [azc x]++st (w.drop p)=_
  rw [st_cat,st_cat]
  rfl
 try simp only [M.Zab] at hn1
 rw [hn1]
 simp only [M.Zab]
 have azi:∀ x∈R,∀ y∈R,azc x=azc y→x=y:=fun x hx y hy h=>by
  have:=hRr x hx
  have:=hRr y hy
  unfold azc at h
  omega
 have hT:(R.take m).length=m:=by rw [List.length_take];omega
 have hTm:∀ x∈R.take m,x∈R:=fun x hx=>List.mem_of_mem_take hx
 have hTn:(R.take m).Nodup:=(List.take_sublist m R).nodup hRn
 refine M.Zdr (R1:=fun r=>∃ L,r=L.map st∧NL L m) (M.Zdm (fun _=>?_) fun _=>M.Zbb ⟨_,rfl,by rw [List.length_map];exact hT,?_,fun l hl=>?_⟩) fun r hr=>M.Zbb hr
 ·rw [M.rangeN (by omega)]
  simp only [M.Zab]
  have e1:∀ x∈rngL 0 m,((M.ix (R.map fun x=>st [azc x]) x)>>=fun t24=>(M.slS (st w) none (some (pick e (11+x) ((w.length:Int)+1))))>>=fun t25=>M.catS t24 t25) = .ok (st (azc (R.getD x.toNat 0)::w.take (pick e (11+x) ((w.length:Int)+1)).toNat)):=fun x hx=>by
   obtain ⟨h0,h1⟩:=Zdt.mp hx
   have q:=ZaU (d:=e) (k:=11+x) (m:=(w.length:Int)+1) (by omega)
   rw [M.ix_getD (st [azc 0]) h0 (by rw [List.length_map];omega)]
   simp only [M.Zab]
   rw [show some (pick e (11+x) ((w.length:Int)+1))=some (((pick e (11+x) ((w.length:Int)+1)).toNat:Nat):Int) by rw [Int.toNat_of_nonneg q.1],sl_lo _ (by omega)]
   simp only [M.Zab]
   rw [List.getD_eq_getElem?_getD,List.getElem?_map,List.getElem?_eq_getElem (by omega),List.getD_eq_getElem?_getD,List.getElem?_eq_getElem (by omega)]
   show M.catS (st [azc _]) _=_
   rw [catT (by rw [List.length_take];simp;omega)]
   rfl
  have e2:=M.comp_mapM (f:=fun x18=>(M.ix (R.map fun x=>st [azc x]) x18)>>=fun t24=>(M.slS (st w) none (some (pick e (11+x18) ((w.length:Int)+1))))>>=fun t25=>M.catS t24 t25) _ e1
  try simp only [M.Zab] at e2
  rw [e2]
  simp only [M.Zab]
  refine M.Zbb ⟨(rngL 0 m).map fun x=>azc (R.getD x.toNat 0)::w.take (pick e (11+x) ((w.length:Int)+1)).toNat,by rw [List.map_map];rfl,by rw [List.length_map,Zds],?_,fun l hl=>?_⟩
  ·refine List.Pairwise.map _ (R:=fun a b=>a≠b∧a∈rngL 0 m∧b∈rngL 0 m) (fun a b ⟨hab,ha,hb⟩ h=>hab ?_) ((rngL_nodup 0 m).imp_of_mem fun {a b} ha hb h=>⟨h,ha,hb⟩)
   obtain ⟨a0,a1⟩:=Zdt.mp ha
   obtain ⟨b0,b1⟩:=Zdt.mp hb
   have h:=(List.cons.inj h).1
   have ga:R.getD a.toNat 0=R[a.toNat]'(by omega):=by rw [List.getD_eq_getElem?_getD,List.getElem?_eq_getElem (by omega)];rfl
   have gb:R.getD b.toNat 0=R[b.toNat]'(by omega):=by rw [List.getD_eq_getElem?_getD,List.getElem?_eq_getElem (by omega)];rfl
   rw [ga,gb] at h
   have:=azi _ (List.getElem_mem _) _ (List.getElem_mem _) h
   have:=(List.getElem_inj hRn).mp this
   omega
  ·obtain ⟨x,hx,rfl⟩:=List.mem_map.mp hl
   obtain ⟨h0,h1⟩:=Zdt.mp hx
   refine ⟨by simp,by rw [List.length_cons,List.length_take];omega,fun c hc=>?_⟩
   rcases List.mem_cons.mp hc with rfl | hc
   ·have hm' : R.getD x.toNat 0∈R:=by
     rw [List.getD_eq_getElem?_getD,List.getElem?_eq_getElem (by omega)]
     exact List.getElem_mem _
    exact (az_ix (hRr _ hm').1 (hRr _ hm').2).2
   ·exact hwo c (List.mem_of_mem_take hc)
 ·refine List.Pairwise.map _ (R:=fun a b=>a≠b∧a∈R.take m∧b∈R.take m) (fun a b ⟨hab,ha,hb⟩ h=>hab ?_) (hTn.imp_of_mem fun {a b} ha hb h=>⟨h,ha,hb⟩)
  rw [List.append_assoc,List.append_assoc] at h
  have h:=List.append_cancel_left h
  exact azi a (hTm a ha) b (hTm b hb) (List.cons.inj h).1
 ·obtain ⟨x,hx,rfl⟩:=List.mem_map.mp hl
  have hx:=hTm x hx
  refine ⟨by simp;omega,by simp only [List.length_append,List.length_singleton];omega,fun c hc=>?_⟩
  rcases List.mem_append.mp hc with hc | hc
  ·rcases List.mem_append.mp hc with hc | hc
   ·exact hwo c (List.mem_of_mem_take hc)
   ·rw [List.mem_singleton.mp hc]
    exact (az_ix (hRr x hx).1 (hRr x hx).2).2
  ·exact hwo c (List.mem_of_mem_drop hc)
abbrev Q:=Pr×List PySem.Str
def lpq (q:Q):LP PyData (List PySem.Str):=⟨q.1.toD,q.2⟩
structure Pc (q:Q):Prop where
 sc:Sc q.2 q.1
 nd:(bd q.1++q.2).Nodup
 sub:∀ x∈bd q.1++q.2,x∈lv q.1
theorem Pc.fn {p:Pr} {fr fr' : List PySem.Str} {n:PySem.Str} (h:Pc (p,fr)) (e:(n::fr').Perm fr):Pc (.fn n p,fr'):=by
 have hn:n∈fr:=e.mem_iff.mp List.mem_cons_self
 refine ⟨⟨Sc.mono h.sc fun x hx=>?_,h.sub n (List.mem_append_right _ hn)⟩,?_,fun x hx=>?_⟩
 ·rcases List.mem_cons.mp (e.mem_iff.mpr hx) with rfl | hx
  ·simp
  ·exact List.mem_append_left _ hx
 ·have p1:(bd p++fr).Perm (bd p++(n::fr')):=e.symm.append_left _
  have p2:(bd p++(n::fr')).Perm (n::(bd p++fr')):=List.perm_middle
  exact (p1.trans p2).nodup_iff.mp h.nd
 ·have hx:x∈(n::bd p)++fr':=hx
  refine h.sub x ?_
  rcases List.mem_append.mp hx with hx | hx
  ·rcases List.mem_cons.mp hx with rfl | hx
   ·exact List.mem_append_right _ hn
   ·exact List.mem_append_left _ hx
  ·exact List.mem_append_right _ (e.mem_iff.mp (List.mem_cons_of_mem _ hx))
theorem Pc.us {a b:Q} (h:Pc a) (h2:Pc b) (hd:∀ x∈lv a.1,∀ y∈lv b.1,x≠y):Pc (.us a.1 b.1,a.2++b.2):=by
 refine ⟨⟨Sc.mono h.sc fun x hx=>List.mem_append_left _ hx,Sc.mono h2.sc fun x hx=>List.mem_append_right _ hx⟩,?_,fun x hx=>?_⟩
 ·have p:((bd a.1++bd b.1)++(a.2++b.2)).Perm ((bd a.1++a.2)++(bd b.1++b.2)):=by
   rw [List.append_assoc,List.append_assoc]
   exact (List.perm_append_comm_assoc _ _ _).append_left _
  show ((bd a.1++bd b.1)++(a.2++b.2)).Nodup
  rw [p.nodup_iff]
  exact List.nodup_append.mpr ⟨h.nd,h2.nd,fun x hx y hy=>hd x (h.sub x hx) y (h2.sub y hy)⟩
 ·have hx:x∈(bd a.1++bd b.1)++(a.2++b.2):=hx
  show x∈lv a.1++lv b.1
  rcases List.mem_append.mp hx with hx | hx
  ·rcases List.mem_append.mp hx with hx | hx
   ·exact List.mem_append_left _ (h.sub x (List.mem_append_left _ hx))
   ·exact List.mem_append_right _ (h2.sub x (List.mem_append_left _ hx))
  ·rcases List.mem_append.mp hx with hx | hx
   ·exact List.mem_append_left _ (h.sub x (List.mem_append_right _ hx))
   ·exact List.mem_append_right _ (h2.sub x (List.mem_append_right _ hx))
def lvs (Qs:List Q):List PySem.Str:=Qs.flatMap fun q=>lv q.1
structure Ps (N:List PySem.Str) (Qs:List Q):Prop where
 ne:Qs≠[]
 le:Qs.length≤100
 pc:∀ q∈Qs,Pc q
 nd:(lvs Qs).Nodup
 sub:∀ x∈lvs Qs,x∈N
theorem lvs_perm {a b:List Q} (h:a.Perm b):(lvs a).Perm (lvs b):=h.flatMap_right _
theorem lvs_app (a b:List Q):lvs (a++b)=lvs a++lvs b:=List.flatMap_append
theorem Zev (q:Q) (b:List Q):lvs (q::b)=lv q.1++lvs b:=rfl
theorem Ps.of_perm {N:List PySem.Str} {a b:List Q} (h:Ps N a) (hn:b≠[]) (hl:b.length≤100) (hp:∀ q∈b,Pc q) (e:(lvs b).Perm (lvs a)):Ps N b :=
 ⟨hn,hl,hp,e.nodup_iff.mpr h.nd,fun x hx=>h.sub x (e.mem_iff.mp hx)⟩
theorem at_split {α:Type} {xs:List α} {i:Nat} {x:α} (h:xs[i]? = some x):∃ A B,xs=A++x::B∧A.length=i:=by
 obtain ⟨hl,e⟩:=List.getElem?_eq_some_iff.mp h
 exact ⟨xs.take i,xs.drop (i+1),by rw [← e,← List.drop_eq_getElem_cons,List.take_append_drop],by rw [List.length_take];omega⟩
theorem Ps.join {N:List PySem.Str} {Qs Q1 A B:List Q} {q r s:Q} (h:Ps N Qs) (e1:Qs.Perm (q::Q1)) (e2:Q1=A++r::B) (hs:(s=(.us q.1 r.1,q.2++r.2))∨s=(.us r.1 q.1,r.2++q.2)):Ps N (A++s::B):=by
 subst e2
 have hq:q∈Qs:=e1.mem_iff.mpr List.mem_cons_self
 have hr:r∈Qs:=e1.mem_iff.mpr (by simp)
 have ep:=lvs_perm e1
 have nd:=ep.nodup_iff.mp h.nd
 rw [Zev,lvs_app,Zev] at nd ep
 have hdis:∀ x∈lv q.1,∀ y∈lv r.1,x≠y:=fun x hx y hy=>(List.nodup_append.mp nd).2.2 x hx y (List.mem_append_right _ (List.mem_append_left _ hy))
 have hlen:=e1.length_eq
 have hle:=h.le
 refine h.of_perm (by simp) (by simp at hlen ⊢;omega) (fun z hz=>?_) ?_
 ·rcases List.mem_append.mp hz with hz | hz
  ·exact h.pc z (e1.mem_iff.mpr (List.mem_cons_of_mem _ (List.mem_append_left _ hz)))
  ·rcases List.mem_cons.mp hz with rfl | hz
   ·rcases hs with rfl | rfl
    ·exact (h.pc q hq).us (h.pc r hr) hdis
    ·exact (h.pc r hr).us (h.pc q hq) fun x hx y hy=>(hdis y hy x hx).symm
   ·exact h.pc z (e1.mem_iff.mpr (List.mem_cons_of_mem _ (List.mem_append_right _ (List.mem_cons_of_mem _ hz))))
 ·refine List.Perm.trans ?_ ep.symm
  rw [lvs_app,Zev]
  have e3:(lv s.1).Perm (lv q.1++lv r.1):=by
   rcases hs with rfl | rfl
   ·exact List.Perm.refl _
   ·exact List.perm_append_comm
  refine ((e3.append_right (lvs B)).append_left (lvs A)).trans ?_
  rw [List.append_assoc]
  exact List.perm_append_comm_assoc _ _ _
theorem set_at {α:Type} (A:List α) (x z:α) (B:List α):(A++x::B).set A.length z=A++z::B:=KP.set_mid A x z B
theorem setM {Qs A B:List Q} {r s:Q} {i:Int} (e:Qs=A++r::B) (hi:i=(A.length:Int)):M.setIx (Qs.map lpq) (M.ok i) (M.ok (lpq s)) = .ok ((A++s::B).map lpq):=by
 rw [setIx_ok (j:=A.length) hi (by rw [e];simp)]
 congr 1
 rw [e,List.map_append,List.map_cons,List.map_append,List.map_cons]
 have:=set_at (A.map lpq) (lpq r) (lpq s) (B.map lpq)
 rw [List.length_map] at this
 exact this
theorem era_map {α β:Type} (f:α→β):∀ (xs:List α) (i:Nat),(xs.map f).eraseIdx i=(xs.eraseIdx i).map f
 | [],_=>rfl
 | x::xs,0=>rfl
 | x::xs,i+1=>by
  show f x::(xs.map f).eraseIdx i=f x::(xs.eraseIdx i).map f
  rw [era_map f xs i]
theorem Pc.all:∀ (fr:List PySem.Str) (p:Pr),Pc (p,fr)→Pc (fr.foldl (fun p n=>Pr.fn n p) p,[])∧lv (fr.foldl (fun p n=>Pr.fn n p) p)=lv p
 | [],p,h=>⟨h,rfl⟩
 | n::fr,p,h=>Pc.all fr (.fn n p) (Pc.fn h (List.Perm.refl _))
theorem Ps.fr {N:List PySem.Str} {Qs:List Q} (h:Ps N Qs) {q:Q} (hq:q∈Qs):q.2.length≤N.length:=len_le (List.nodup_append.mp (h.pc q hq).nd).2.1 fun x hx=>h.sub x (List.mem_flatMap.mpr ⟨q,hq,(h.pc q hq).sub x (List.mem_append_right _ hx)⟩)
theorem program_sat (d:List Int) (a:Int) {N:List PySem.Str} (h1:1≤N.length) (h2:N.length≤12) (hn:N.Nodup):M.sat (ZbF d a N) fun r=>∃ p:Pr,r=p.toD∧Pc (p,[])∧(lv p).Nodup ∧ ∀ x∈lv p,x∈N:=by
 unfold ZbF
 rw [M.comp_map]
 simp only [M.Zab]
 obtain ⟨k3,hk3⟩:∃ k:Nat,(3:Int)*(N.length:Int)=k:=⟨3*N.length,by omega⟩
 rw [hk3,M.rangeN (by omega)]
 simp only [M.Zab,ZdB]
 have start:Ps N (N.map fun n=>((.nm n,[n]):Q)):=by
  have e:lvs (N.map fun n=>((.nm n,[n]):Q))=N:=by
   unfold lvs
   rw [List.flatMap_map]
   show N.flatMap (fun n=>[n])=N
   clear h1 h2 hn hk3
   induction N with
   | nil=>rfl
   | cons n N ih=>rw [List.flatMap_cons,ih];rfl
  refine ⟨fun z=>by have:=congrArg List.length z;rw [List.length_map,List.length_nil] at this;omega,by rw [List.length_map];omega,fun q hq=>?_,by rw [e];exact hn,fun x hx=>by rw [e] at hx;exact hx⟩
  obtain ⟨n,_,rfl⟩:=List.mem_map.mp hq
  exact ⟨List.mem_singleton.mpr rfl,by simp [bd],fun x hx=>hx⟩
 refine M.Zdr (M.sat_fold (fun _ (s:List (LP PyData (List PySem.Str)))=>∃ Qs:List Q,s=Qs.map lpq∧Ps N Qs) ⟨_,by rw [List.map_map];rfl,start⟩ fun i x s hx ⟨Qs,es,hP⟩=>?_) fun s ⟨Qs,es,hP⟩=>?_
 ·subst es
  have hpos:=List.length_pos_iff.mpr hP.ne
  have hle:=hP.le
  rw [List.length_map]
  have pp:=ZaU (d:=d) (k:=a+3*x+1) (m:=(Qs.length:Int)) (by omega)
  obtain ⟨j,hj⟩:∃ j:Nat,pick d (a+3*x+1) (Qs.length:Int)=j:=⟨_,(Int.toNat_of_nonneg pp.1).symm⟩
  rw [hj] at pp ⊢
  obtain ⟨q,hq⟩:∃ q,Qs[j]? = some q:=⟨_,List.getElem?_eq_getElem (by omega)⟩
  have eix:M.ix (Qs.map lpq) (j:Int) = .ok (lpq q):=M.ix_at (by omega) (by rw [Int.toNat_natCast,List.getElem?_map,hq];rfl)
  obtain ⟨A,B,eQ,hA⟩:=at_split hq
  have hqm:q∈Qs:=List.mem_of_getElem? hq
  rw [eix]
  simp only [M.Zab]
  refine M.Zdr (R1:=fun b:Bool=>b=true→q.2≠[]) (M.Zdm (fun _=>M.Zbb fun hb=>?_) fun _=>M.Zbb fun z=>nomatch z) fun b hb=>M.Zdm (fun hb1=>?_) fun _=>?_
  ·have:=of_decide_eq_true hb
   intro z
   rw [show (lpq q).b=q.2 from rfl,z] at this
   simp at this
  ·have hne:=List.length_pos_iff.mpr (hb hb1)
   show M.sat ((M.ix q.2 (pick d (a+3*x+2) (q.2.length:Int))>>=_)) _
   have p2:=ZaU (d:=d) (k:=a+3*x+2) (m:=(q.2.length:Int)) (by omega)
   obtain ⟨n,hnm,en⟩:=ix_mem p2.1 p2.2
   rw [en]
   simp only [M.Zab]
   rw [M.comp_ok]
   simp only [M.Zab,List.map_id']
   have hpc:=hP.pc q hqm
   have hfn:q.2.Nodup:=(List.nodup_append.mp hpc.nd).2.1
   have ef:(n::q.2.filter fun y=>!decide (y=n)).Perm q.2:=by
    refine (List.perm_ext_iff_of_nodup ?_ hfn).mpr fun y=>?_
    ·rw [List.nodup_cons]
     refine ⟨fun z=>?_,List.Pairwise.sublist List.filter_sublist hfn⟩
     have:=(List.mem_filter.mp z).2
     simp at this
    ·rw [List.mem_cons,List.mem_filter]
     constructor
     ·rintro (rfl | h)
      ·exact hnm
      ·exact h.1
     ·intro hy
      by_cases hyn:y=n
      ·exact .inl hyn
      ·exact .inr ⟨hy,by simp [hyn]⟩
   rw [show (⟨PyData.tuple [UD.toU ("fun" : PySem.Str),UD.toU n,(lpq q).a],(lpq q).b.filter fun x11=>!decide (x11=n)⟩:LP PyData (List PySem.Str))=lpq (.fn n q.1,q.2.filter fun y=>!decide (y=n)) from rfl]
   rw [setM eQ (by omega)]
   refine M.Zbb ⟨A++(.fn n q.1,q.2.filter fun y=>!decide (y=n))::B,rfl,?_⟩
   have el:lvs (A++(.fn n q.1,q.2.filter fun y=>!decide (y=n))::B)=lvs Qs:=by
    rw [eQ,lvs_app,lvs_app,Zev,Zev]
    rfl
   refine hP.of_perm (by simp) (by rw [eQ] at hle;simp at hle ⊢;omega) (fun z hz=>?_) (by rw [el])
   rcases List.mem_append.mp hz with hz | hz
   ·exact hP.pc z (by rw [eQ];exact List.mem_append_left _ hz)
   ·rcases List.mem_cons.mp hz with rfl | hz
    ·exact Pc.fn (p:=q.1) (fr:=q.2) hpc ef
    ·exact hP.pc z (by rw [eQ];exact List.mem_append_right _ (List.mem_cons_of_mem _ hz))
  ·refine M.Zdm (fun h1'=>?_) fun _=>M.Zbb ⟨Qs,rfl,hP⟩
   have h1':=of_decide_eq_true h1'
   have epop:M.popAt (Qs.map lpq) (M.ok (j:Int)) = .ok ((Qs.eraseIdx j).map lpq,lpq q):=by
    rw [M.popAt_at (y:=lpq q) (by omega) (by omega) (by rw [Int.toNat_natCast,List.getElem?_map,hq];rfl),Int.toNat_natCast,era_map]
   rw [epop]
   simp only [M.Zab]
   have ep:=perm_erase Qs j q hq
   have elen:=ep.length_eq
   rw [List.length_cons] at elen
   rw [List.length_map]
   have p2:=ZaU (d:=d) (k:=a+3*x+2) (m:=((Qs.eraseIdx j).length:Int)) (by omega)
   obtain ⟨j2,hj2⟩:∃ j2:Nat,pick d (a+3*x+2) ((Qs.eraseIdx j).length:Int)=j2:=⟨_,(Int.toNat_of_nonneg p2.1).symm⟩
   rw [hj2] at p2 ⊢
   obtain ⟨r,hr⟩:∃ r,(Qs.eraseIdx j)[j2]? = some r:=⟨_,List.getElem?_eq_getElem (by omega)⟩
   have eix2:M.ix ((Qs.eraseIdx j).map lpq) (j2:Int) = .ok (lpq r):=M.ix_at (by omega) (by rw [Int.toNat_natCast,List.getElem?_map,hr];rfl)
   obtain ⟨A2,B2,eQ2,hA2⟩:=at_split hr
   have hPn:=hP.join ep.symm eQ2 (.inl rfl)
   rw [eix2]
   simp only [M.Zab]
   have hrm:r∈Qs:=ep.mem_iff.mp (List.mem_cons_of_mem _ (List.mem_of_getElem? hr))
   have f1:=hP.fr hqm
   have f2:=hP.fr hrm
   rw [show (lpq q).b=q.2 from rfl,show (lpq r).b=r.2 from rfl,ZdU (by omega)]
   simp only [M.Zab]
   rw [show (⟨PyData.tuple [UD.toU ("use" : PySem.Str),(lpq q).a,(lpq r).a],q.2++r.2⟩:LP PyData (List PySem.Str))=lpq (.us q.1 r.1,q.2++r.2) from rfl]
   rw [setM eQ2 (by omega)]
   exact M.Zbb ⟨_,rfl,hPn⟩
 ·subst es
  rw [M.rangeN (by omega)]
  simp only [M.Zab]
  refine M.Zdr (M.sat_fold (fun _ (s:List (LP PyData (List PySem.Str)))=>∃ Qs:List Q,s=Qs.map lpq∧Ps N Qs) ⟨Qs,rfl,hP⟩ fun i x s hx ⟨Qs,es,hP⟩=>?_) fun s ⟨Qs,es,hP⟩=>?_
  ·subst es
   have hle:=hP.le
   rw [List.length_map]
   refine M.Zdm (fun h1'=>?_) fun _=>M.Zbb ⟨Qs,rfl,hP⟩
   have h1':=of_decide_eq_true h1'
   match Qs,h1',hP with
   | [],h1',_=>simp at h1'
   | [_],h1',_=>simp at h1'
   | q::r::B,_,hP =>
    have f1:=hP.fr (q:=q) (by simp)
    have f2:=hP.fr (q:=r) (by simp)
    have epop:M.popAt ((q::r::B).map lpq) (M.ok (0:Int)) = .ok ((r::B).map lpq,lpq q):=by
     rw [M.popAt_at (y:=lpq q) (by omega) (by omega) rfl]
     rfl
    rw [epop]
    simp only [M.Zab]
    rw [show M.ix ((r::B).map lpq) (0:Int) = .ok (lpq r) from M.ix_at (by decide) rfl]
    simp only [M.Zab]
    rw [show (lpq q).b=q.2 from rfl,show (lpq r).b=r.2 from rfl,ZdU (by omega)]
    simp only [M.Zab]
    rw [show (⟨PyData.tuple [UD.toU ("use" : PySem.Str),(lpq r).a,(lpq q).a],r.2++q.2⟩:LP PyData (List PySem.Str))=lpq (.us r.1 q.1,r.2++q.2) from rfl]
    rw [setM (i:=(0:Int)) (Qs:=r::B) (A:=[]) (B:=B) (r:=r) rfl rfl]
    exact M.Zbb ⟨_,rfl,hP.join (List.Perm.refl _) (A:=[]) rfl (.inr rfl)⟩
  ·subst es
   match Qs,hP with
   | [],hP=>exact absurd rfl hP.ne
   | q::B,hP =>
    rw [show M.ix ((q::B).map lpq) (0:Int) = .ok (lpq q) from M.ix_at (by decide) rfl]
    simp only [M.Zab]
    have e2:=folds_fn q.2 q.1
    simp only [M.Zab] at e2
    rw [show (lpq q).b=q.2 from rfl,show (lpq q).a=q.1.toD from rfl,e2]
    obtain ⟨g1,g2⟩:=Pc.all q.2 q.1 (hP.pc q List.mem_cons_self)
    have nd:=hP.nd
    rw [Zev] at nd
    exact M.Zbb ⟨_,rfl,g1,by rw [g2];exact (List.nodup_append.mp nd).1,fun x hx=>hP.sub x (by rw [Zev];exact List.mem_append_left _ (g2▸hx))⟩
theorem st_good {l:List Nat} (h:1≤l.length∧l.length≤8 ∧ ∀ c∈l,okC c=true):okN (st l)=true∧good9 (st l):=by
 constructor
 ·unfold okN
  rw [ZcV,decide_eq_true (show 0<l.length by omega),decide_eq_true h.2.1]
  exact List.all_eq_true.mpr h.2.2
 ·refine ⟨by rw [ZcV];omega,?_⟩
  rw [Zer,List.countP_eq_zero]
  intro c hc z
  have h1:=h.2.2 c hc
  unfold opn at z
  rw [Bool.or_eq_true,decide_eq_true_eq,decide_eq_true_eq] at z
  rcases z with rfl | rfl
  ·exact absurd h1 (by decide)
  ·exact absurd h1 (by decide)
theorem no_fault {p:Pr} {N:List PySem.Str} (h:Pc (p,[])) (nd:(lv p).Nodup) (sub:∀ x∈lv p,x∈N) (hN:N.length≤12) (hok:∀ n∈N,okN n=true):flt p=none∧p.cnt+1≤2*N.length ∧ ∀ n∈p.ns,n∈N:=by
 have hb:=h.nd
 rw [List.append_nil] at hb
 have hbs:∀ x∈bd p,x∈lv p:=fun x hx=>h.sub x (List.mem_append_left _ hx)
 have l1:(bd p).length≤(lv p).length:=len_le hb hbs
 have l2:=len_le nd sub
 have hf:=bd_len p
 have hc:=cnt_eq p
 have hns:∀ n∈p.ns,n∈N:=fun n hn=>by
  rcases ns_in p n hn with h | h
  ·exact sub n h
  ·exact sub n (hbs n h)
 refine ⟨?_,by omega,hns⟩
 unfold flt
 rw [if_neg (by omega),chk_ok p [] [] [] h.sc (by simpa using hb) (by simpa using nd) fun n hn=>hok n (hns n hn)]
structure Tx (n k:Nat) (l:List Nat):Prop where
 len:l.length≤n
 opn:l.countP opn≤k
theorem chars_ok {x:Int} (h0:0≤x) (h1:x<13):∃ c,(M.catS (" []()az'A7&-" : PySem.Str) ("\n" : PySem.Str)>>=fun z=>M.ixS z x) = .ok (st [c]):=by
 rw [show M.catS (" []()az'A7&-" : PySem.Str) ("\n" : PySem.Str) = .ok ((" []()az'A7&-" : PySem.Str)++("\n" : PySem.Str)) from M.Zah (by decide)]
 simp only [M.Zab]
 have hz:((" []()az'A7&-" : PySem.Str)++("\n" : PySem.Str)).cps.toList.length=13:=by decide
 obtain ⟨c,hc,ec⟩:=M.Zeb (xs:=((" []()az'A7&-" : PySem.Str)++("\n" : PySem.Str)).cps.toList) (i:=x) h0 (by rw [hz];exact h1)
 refine ⟨c,?_⟩
 unfold M.ixS
 rw [M.Zah (by decide),atI_of h0 hc]
 rfl
theorem cnt1 {m:List Nat} (h:m.length≤1):m.countP opn≤1:=Nat.le_trans List.countP_le_length h
theorem textc_sat (d:List Int) (a:Int) {l:List Nat} {n k:Nat} (h:Tx n k l) (hn:n≤9000):M.sat (Zay d a (st l)) fun r=>∃ l',r=st l'∧Tx (n+2) (k+2) l':=by
 have hl:=h.len
 have ho:=h.opn
 unfold Zay
 simp only [ZdB,M.Zab]
 rw [lenT (by omega)]
 simp only [M.Zab]
 have p13:=ZaU (d:=d) (k:=a+3) (m:=13) (by decide)
 obtain ⟨c,ec⟩:=chars_ok p13.1 p13.2
 have ecat:M.catS (" []()az'A7&-" : PySem.Str) ("\n" : PySem.Str) = .ok ((" []()az'A7&-" : PySem.Str)++("\n" : PySem.Str)):=M.Zah (by decide)
 rw [ecat] at ec ⊢
 simp only [M.Zab] at ec ⊢
 rw [M.Zah (by omega)]
 simp only [M.Zab]
 have hp0:=Int.emod_nonneg (pick d (a+1) 60*60+pick d (a+2) 60) (b:=(l.length:Int)+1) (by omega)
 have hp1:=Int.emod_lt_of_pos (pick d (a+1) 60*60+pick d (a+2) 60) (b:=(l.length:Int)+1) (by omega)
 obtain ⟨p,hpe⟩:∃ p:Nat,(pick d (a+1) 60*60+pick d (a+2) 60)%((l.length:Int)+1)=p:=⟨_,(Int.toNat_of_nonneg hp0).symm⟩
 rw [hpe] at hp1 ⊢
 rw [ec]
 simp only [M.Zab]
 obtain ⟨m1,em1,hm1⟩:=sl_mid (l:=l) (p+1) (p+2) (by omega) (by omega)
 obtain ⟨m2,em2,hm2⟩:=sl_mid (l:=l) p (p+1) (by omega) (by omega)
 rw [show ((p:Int)+1)=((p+1:Nat):Int) by omega,show ((p:Int)+2)=((p+2:Nat):Int) by omega,sl_lo p (by omega),sl_hi p (by omega),sl_hi (p+1) (by omega),sl_hi (p+2) (by omega),em1,em2]
 simp only [M.Zab]
 have hcc:=cnt1 (m:=[c]) (by simp)
 have c1:=cnt1 hm1
 have c2:=cnt1 hm2
 have hc1:(l.take p).countP opn+(l.drop p).countP opn=l.countP opn:=by rw [← List.countP_append,List.take_append_drop]
 have hc2:(l.drop (p+1)).countP opn≤(l.drop p).countP opn:=by
  rw [← List.drop_drop]
  exact (List.drop_sublist 1 _).countP_le
 have hc3:(l.drop (p+2)).countP opn≤(l.drop p).countP opn:=by
  rw [← List.drop_drop]
  exact (List.drop_sublist 2 _).countP_le
 have t1:(l.take p).length≤l.length:=by rw [List.length_take];omega
 have t2:(l.drop p).length≤l.length:=by rw [List.length_drop];omega
 have t3:(l.drop (p+1)).length≤l.length:=by rw [List.length_drop];omega
 have t4:(l.drop (p+2)).length≤l.length:=by rw [List.length_drop];omega
 have t5:(l.take p).length+(l.drop p).length=l.length:=by rw [← List.length_append,List.take_append_drop]
 have t6:(l.drop (p+1)).length≤(l.drop p).length:=by rw [List.length_drop,List.length_drop];omega
 have t7:(l.drop (p+2)).length≤(l.drop p).length:=by rw [List.length_drop,List.length_drop];omega
 refine M.Zdm (fun _=>?_) fun _=>M.Zdm (fun _=>?_) fun _=>M.Zdm (fun _=>?_) fun _=>M.Zdm (fun _=>?_) fun _=>?_
 ·rw [catT (by omega)]
  exact M.Zbb ⟨_,rfl,by rw [List.length_append];omega,by rw [List.countP_append];omega⟩
 ·rw [catT (by simp only [List.length_singleton];omega)]
  simp only [M.Zab]
  rw [catT (by simp only [List.length_append,List.length_singleton];omega)]
  exact M.Zbb ⟨_,rfl,by simp only [List.length_append,List.length_singleton];omega,by simp only [List.countP_append];omega⟩
 ·rw [catT (by simp only [List.length_singleton];omega)]
  simp only [M.Zab]
  rw [catT (by simp only [List.length_append,List.length_singleton];omega)]
  exact M.Zbb ⟨_,rfl,by simp only [List.length_append,List.length_singleton];omega,by simp only [List.countP_append];omega⟩
 ·exact M.Zbb ⟨_,rfl,by omega,by omega⟩
 ·rw [catT (by omega)]
  simp only [M.Zab]
  rw [catT (by simp only [List.length_append];omega)]
  simp only [M.Zab]
  rw [catT (by simp only [List.length_append];omega)]
  exact M.Zbb ⟨_,rfl,by simp only [List.length_append];omega,by simp only [List.countP_append];omega⟩
theorem law_plain (s:List Int) (hs:s.length≤63):law_m ⟨s⟩ = .ok true:=by
 refine M.sat_val ?_
 obtain ⟨c0,e0⟩:=cell_ok ⟨s⟩ (k:=0) (by decide)
 obtain ⟨c1,e1⟩:=cell_ok ⟨s⟩ (k:=1) (by decide)
 obtain ⟨dr,f0⟩:=draws_ok c0 (m:=60) (by decide) (by decide)
 obtain ⟨ex,f1⟩:=draws_ok c1 (m:=60) (by decide) (by decide)
 unfold law_m
 rw [e0,e1]
 simp only [M.Zab]
 rw [f0,f1]
 simp only [M.Zab,ZdB]
 have p7:=ZaU (d:=ex) (k:=59) (m:=7) (by decide)
 obtain ⟨m,hm⟩:∃ m:Nat,1+pick ex 59 7=m:=⟨(1+pick ex 59 7).toNat,by omega⟩
 rw [hm]
 obtain ⟨_,en,L,rfl,hL⟩:=distinct_sat dr ex (m:=m) (by omega)
 rw [en]
 simp only [M.Zab]
 have hLl:=hL.len
 have hLg:∀ n∈L.map st,okN n=true∧good9 n:=fun n hn=>by
  obtain ⟨l,hl,rfl⟩:=List.mem_map.mp hn
  exact st_good (hL.ok l hl)
 have hLn:(L.map st).Nodup:=List.Pairwise.map _ (fun a b hab h=>hab (st_inj.mp h)) hL.nd
 obtain ⟨_,ep,p,rfl,hpc,hnd,hsub⟩:=program_sat dr 0 (N:=L.map st) (by rw [List.length_map];omega) (by rw [List.length_map];omega) hLn
 rw [ep]
 simp only [M.Zab]
 obtain ⟨hflt,hcnt,hns⟩:=no_fault hpc hnd hsub (by rw [List.length_map];omega) fun n hn=>(hLg n hn).1
 rw [List.length_map] at hcnt
 have b13:Bd 13 p:=⟨by omega,fun n hn=>(hLg n (hns n hn)).2⟩
 have b61:Bd 61 p:=⟨by omega,b13.nm⟩
 obtain ⟨_,en2,L2,rfl,hL2⟩:=distinct_sat ex dr (m:=13) (by omega)
 rw [show ((13:Nat):Int)=13 from rfl] at en2
 rw [en2]
 simp only [M.Zab]
 have hL2l:=hL2.len
 have hL2g:∀ n∈L2.map st,good9 n:=fun n hn=>by
  obtain ⟨l,hl,rfl⟩:=List.mem_map.mp hn
  exact (st_good (hL2.ok l hl)).2
 rw [ouV]
 simp only [M.ZaO,M.Zab]
 rw [prog_ok b61]
 simp only [M.Zab,Bool.not_true,Bool.false_eq_true,if_false]
 have ecut:cutL (L2.map st) (some (1:Int)) none=(L2.map st).drop 1:=by
  have:=cutD (L2.map st) 1
  rw [show ((1:Nat):Int)=1 from rfl] at this
  exact this
 obtain ⟨q1,eq1,bq1⟩:=chain_sat (L:=(L2.map st).drop 1) (by rw [List.length_drop,List.length_map];omega) (by rw [List.length_drop,List.length_map];omega) fun n hn=>hL2g n (List.mem_of_mem_drop hn)
 obtain ⟨q2,eq2,bq2⟩:=chain_sat (L:=L2.map st) (by rw [List.length_map];omega) (by rw [List.length_map];omega) hL2g
 rw [ecut,eq1]
 simp only [M.Zab]
 rw [prog_ok bq1]
 simp only [M.Zab,Bool.not_true,Bool.false_eq_true,if_false]
 rw [eq2]
 simp only [M.Zab]
 rw [prog_ok bq2]
 simp only [M.Zab,Bool.not_true,Bool.false_eq_true,if_false]
 rw [fault_ok b61.sm,hflt]
 simp only [M.Zab]
 rw [if_neg (by decide),ZdU (by rw [List.length_map];simp;omega)]
 simp only [M.Zab]
 generalize hMn:L.map st++[("q" : PySem.Str),("abcdefgh" : PySem.Str),("abcdefghi" : PySem.Str),("" : PySem.Str),("A" : PySem.Str),("a1" : PySem.Str),("x'" : PySem.Str),("b c" : PySem.Str),("zz-" : PySem.Str)]=Mn
 have hMg:∀ n∈Mn,good9 n:=fun n hn=>by
  rw [← hMn] at hn
  rcases List.mem_append.mp hn with hn | hn
  ·exact (hLg n hn).2
  ·have:∀ n∈[("q" : PySem.Str),("abcdefgh" : PySem.Str),("abcdefghi" : PySem.Str),("" : PySem.Str),("A" : PySem.Str),("a1" : PySem.Str),("x'" : PySem.Str),("b c" : PySem.Str),("zz-" : PySem.Str)],n.length≤9∧n.cps.toList.countP opn=0:=by decide
   exact this n hn
 have hMl:1≤Mn.length:=by rw [← hMn];simp
 rw [M.range_ok (by decide) (by decide)]
 simp only [M.Zab]
 rw [M.Zeo _ fun x hx=>?_]
 rotate_left
 ·obtain ⟨h0,h1⟩:=Zdt.mp hx
  obtain ⟨c,ec⟩:=cell_ok ⟨s⟩ (k:=2+x) (by omega)
  rw [ec]
  simp only [M.Zab]
  obtain ⟨row,er⟩:=draws_ok (c+104729*x) (m:=60) (by decide) (by decide)
  rw [er]
  simp only [M.Zab,ZdB]
  have q0:=ZaU (d:=row) (k:=0) (m:=(Mn.length:Int)) (by omega)
  have q1':=ZaU (d:=row) (k:=1) (m:=(Mn.length:Int)) (by omega)
  obtain ⟨n0,hn0,en0⟩:=ix_mem q0.1 q0.2
  obtain ⟨n1,hn1,en1⟩:=ix_mem q1'.1 q1'.2
  rw [en0,en1]
  simp only [M.Zab]
  obtain ⟨_,ech,hch⟩:=Zda row n0 p 100 2 (by have:=p.hs_cnt;have:=b13.cnt;omega)
  obtain ⟨r1,rfl,br1⟩:=hch.bd b13 (hMg n0 hn0)
  rw [ech]
  simp only [M.Zab]
  have:M.sat (if decide (pick row 58 2=1)=true then Zbi 100 row 30 r1.toD n1>>=fun changed_here_37=>M.ok changed_here_37 else M.ok r1.toD) fun r=>∃ q:Pr,r=q.toD∧Bd 61 q:=by
   refine M.Zdm (fun _=>?_) fun _=>M.Zbb ⟨r1,rfl,by have:=br1.cnt;omega,br1.nm⟩
   obtain ⟨_,ech2,hch2⟩:=Zda row n1 r1 100 30 (by have:=r1.hs_cnt;have:=br1.cnt;omega)
   obtain ⟨r2,rfl,br2⟩:=hch2.bd br1 (hMg n1 hn1)
   rw [ech2]
   exact M.Zbb ⟨r2,rfl,by have:=br2.cnt;omega,br2.nm⟩
  obtain ⟨_,e3,q,rfl,bq⟩:=this
  rw [e3]
  simp only [M.Zab]
  rw [prog_ok bq]
  rfl
 simp only [M.Zab,Ct.go]
 have hw:=wr_len p b13.nm
 have hop:=wr_opn p b13.nm
 have hc13:=b13.cnt
 rw [ZdD p 100 (by have:=p.hs_cnt;omega) (by omega)]
 simp only [M.Zab]
 have tx:Tx 400 13 p.wr:=⟨by omega,by omega⟩
 rw [M.range_ok (by decide) (by decide)]
 simp only [M.Zab]
 rw [M.Zeo _ fun x hx=>?_]
 rotate_left
 ·obtain ⟨h0,h1⟩:=Zdt.mp hx
  obtain ⟨c,ec⟩:=cell_ok ⟨s⟩ (k:=10+x) (by omega)
  rw [ec]
  simp only [M.Zab]
  obtain ⟨row,er⟩:=draws_ok (c+15485863*x) (m:=10) (by decide) (by decide)
  rw [er]
  simp only [M.Zab,ZdB]
  obtain ⟨_,et,l1,rfl,h1'⟩:=textc_sat row 1 tx (by omega)
  rw [et]
  simp only [M.Zab]
  rw [show OU.ofU (α:=PySem.Str) (UD.toU (st l1):PyData)=some (st l1) from rfl]
  simp only [M.ZaO,M.Zab]
  have:M.sat (if decide (pick row 0 3=1)=true then (Zay row 5 (st l1)>>=fun t55=>M.ok (UD.toU t55))>>=fun changed_here_56=>M.ok changed_here_56 else M.ok (UD.toU (st l1))) fun r=>∃ l,r=(UD.toU (st l):PyData)∧Tx 404 17 l:=by
   refine M.Zdm (fun _=>?_) fun _=>M.Zbb ⟨l1,rfl,by have:=h1'.len;omega,by have:=h1'.opn;omega⟩
   obtain ⟨_,et2,l2,rfl,h2'⟩:=textc_sat row 5 h1' (by omega)
   rw [et2]
   exact M.Zbb ⟨l2,rfl,h2'.len,h2'.opn⟩
  try simp only [M.Zab] at this
  obtain ⟨_,e3,l,rfl,hl⟩:=this
  rw [e3]
  simp only [M.Zab]
  rw [show OU.ofU (α:=PySem.Str) (UD.toU (st l):PyData)=some (st l) from rfl]
  simp only [M.ZaO,M.Zab]
  rw [text_ok (by have:=hl.len;omega) (by have:=hl.opn;omega)]
  rfl
 simp only [M.Zab,Ct.go]
 rw [show ("\n" : PySem.Str)=st [10] by decide,L32,Le,catT (by simp;omega),catT (by simp;omega),catT (by simp;omega),catT (by omega)]
 simp only [M.Zab]
 rw [M.Zeo _ fun x hx=>?_]
 ·simp only [M.Zab,Ct.go]
  exact M.Zbb rfl
 ·have hl:∃ l,x=st l∧l.length≤10000∧l.countP opn≤98:=by
   have o1:[10].countP opn=0:=by decide
   have o2:[32].countP opn=0:=by decide
   simp only [List.mem_cons,List.not_mem_nil,or_false] at hx
   rcases hx with rfl | rfl | rfl | rfl | rfl
   ·exact ⟨_,rfl,by simp;omega,by rw [List.countP_append,o1];omega⟩
   ·exact ⟨_,rfl,by simp;omega,by rw [List.countP_append,o2];omega⟩
   ·exact ⟨_,rfl,by simp;omega,by rw [List.countP_append,o2];omega⟩
   ·exact ⟨_,rfl,by simp,by simp⟩
   ·exact ⟨_,rfl,by simp;omega,by rw [List.countP_append];omega⟩
  obtain ⟨l,rfl,h1',h2'⟩:=hl
  rw [text_ok h1' h2']
  rfl
end K81
section
set_option maxHeartbeats 4000000
namespace K81
open PySem L2 G PM
def topS (i:Nat):Stmt:=PySem.Challenge.pw_comesapart_k81_programs_read_and_checked.main.body.getD i (.Pass ⟨0,0,0,0⟩)
abbrev s_l_cell:Stmt:=topS 25
abbrev N_l_cell:List Str:=["_law_script","_law_k"]
theorem sc_l_cell:FnScope N_l_cell ["_law_script","_law_k"] (defScope s_l_cell):=⟨rfl,rfl,rfl,by decide +kernel,rfl,by decide +kernel,by decide +kernel⟩
abbrev Zei:Stmt:=topS 26
abbrev N_l_draws:List Str:=["_law_cell_here","_law_many","_law_rest","_law_exact","_law_mixed","_law_draws_here","_law_k"]
theorem sc_l_draws:FnScope N_l_draws ["_law_cell_here","_law_many"] (defScope Zei):=⟨rfl,rfl,rfl,by decide +kernel,rfl,by decide +kernel,by decide +kernel⟩
abbrev s_l_pick:Stmt:=topS 27
abbrev N_l_pick:List Str:=["_law_draws_here","_law_k","_law_many"]
theorem sc_l_pick:FnScope N_l_pick ["_law_draws_here","_law_k","_law_many"] (defScope s_l_pick):=⟨rfl,rfl,rfl,by decide +kernel,rfl,by decide +kernel,by decide +kernel⟩
abbrev ZcJ:Stmt:=topS 28
abbrev N_l_shuffled:List Str:=["_law_draws_here","_law_at","_law_many","_law_pool","_law_row","_law_k"]
theorem sc_l_shuffled:FnScope N_l_shuffled ["_law_draws_here","_law_at","_law_many"] (defScope ZcJ):=⟨rfl,rfl,rfl,by decide +kernel,rfl,by decide +kernel,by decide +kernel⟩
abbrev Zbw:Stmt:=topS 31
abbrev Zde:List Str:=["_law_draws_here","_law_extra","_law_many","_law_signs","_law_word","_law_place","_law_names","_law_k","_law_sign"]
theorem sc_l_distinct:FnScope Zde ["_law_draws_here","_law_extra","_law_many"] (defScope Zbw):=⟨rfl,rfl,rfl,by decide +kernel,rfl,by decide +kernel,by decide +kernel⟩
abbrev Zcp:Stmt:=topS 30
abbrev N_l_program:List Str:=["_law_draws_here","_law_at","_law_names","_law_name","_law_pieces","_law_k","_law_place","_law_body","_law_free","_law_other","_law_more"]
theorem sc_l_program:FnScope N_l_program ["_law_draws_here","_law_at","_law_names"] (defScope Zcp):=⟨rfl,rfl,rfl,by decide +kernel,rfl,by decide +kernel,by decide +kernel⟩
abbrev Zdx:Stmt:=topS 38
abbrev N_l_events:List Str:=["_law_program_here"]
theorem sc_l_events:FnScope N_l_events ["_law_program_here"] (defScope Zdx):=⟨rfl,rfl,rfl,by decide +kernel,rfl,by decide +kernel,by decide +kernel⟩
abbrev ZcY:Stmt:=topS 37
abbrev N_l_is_name:List Str:=["_law_name","_law_char"]
theorem sc_l_is_name:FnScope N_l_is_name ["_law_name"] (defScope ZcY):=⟨rfl,rfl,rfl,by decide +kernel,rfl,by decide +kernel,by decide +kernel⟩
abbrev Zdz:Stmt:=topS 39
abbrev N_l_fault:List Str:=["_law_program_here","_law_events_here","_law_bound","_law_around","_law_used","_law_word","_law_name","_law_row"]
theorem sc_l_fault:FnScope N_l_fault ["_law_program_here"] (defScope Zdz):=⟨rfl,rfl,rfl,by decide +kernel,rfl,by decide +kernel,by decide +kernel⟩
abbrev ZcI:Stmt:=topS 11
abbrev N_p_name_end:List Str:=["text","at","end"]
theorem sc_p_name_end:FnScope N_p_name_end ["text","at"] (defScope ZcI):=⟨rfl,rfl,rfl,by decide +kernel,rfl,by decide +kernel,by decide +kernel⟩
abbrev Zdw:Stmt:=topS 10
abbrev N_p_expect:List Str:=["text","at","char"]
theorem sc_p_expect:FnScope N_p_expect ["text","at","char"] (defScope Zdw):=⟨rfl,rfl,rfl,by decide +kernel,rfl,by decide +kernel,by decide +kernel⟩
abbrev ZbL:Stmt:=topS 22
abbrev N_p_read_program:List Str:=["text","at","end","body","last","one","other"]
theorem ZcW:FnScope N_p_read_program ["text","at"] (defScope ZbL):=⟨rfl,rfl,rfl,by decide +kernel,rfl,by decide +kernel,by decide +kernel⟩
abbrev Zcf:Stmt:=topS 18
abbrev N_p_count_funs:List Str:=["program","many","waiting","top"]
theorem sc_p_count_funs:FnScope N_p_count_funs ["program"] (defScope Zcf):=⟨rfl,rfl,rfl,by decide +kernel,rfl,by decide +kernel,by decide +kernel⟩
abbrev ZcH:Stmt:=topS 7
abbrev N_p_is_name:List Str:=["name","char"]
theorem sc_p_is_name:FnScope N_p_is_name ["name"] (defScope ZcH):=⟨rfl,rfl,rfl,by decide +kernel,rfl,by decide +kernel,by decide +kernel⟩
abbrev ZbW:Stmt:=topS 19
abbrev N_p_check_names:List Str:=["program","around","bound","used","word","name"]
theorem Zdg:FnScope N_p_check_names ["program","around","bound","used"] (defScope ZbW):=⟨rfl,rfl,rfl,by decide +kernel,rfl,by decide +kernel,by decide +kernel⟩
abbrev Zby:Stmt:=topS 20
abbrev N_p_check_program:List Str:=["program"]
theorem ZdO:FnScope N_p_check_program ["program"] (defScope Zby):=⟨rfl,rfl,rfl,by decide +kernel,rfl,by decide +kernel,by decide +kernel⟩
abbrev Zbx:Stmt:=topS 23
abbrev N_p_parse_program:List Str:=["text","program","end"]
theorem ZdN:FnScope N_p_parse_program ["text"] (defScope Zbx):=⟨rfl,rfl,rfl,by decide +kernel,rfl,by decide +kernel,by decide +kernel⟩
abbrev s_l_told:Stmt:=topS 43
abbrev N_l_told:List Str:=["_law_program_here","_law_text","_law_reads","e","_law_found"]
theorem sc_l_told:FnScope N_l_told ["_law_program_here","_law_text","_law_reads"] (defScope s_l_told):=⟨rfl,rfl,rfl,by decide +kernel,rfl,by decide +kernel,by decide +kernel⟩
abbrev s_l_same:Stmt:=topS 29
abbrev N_l_same:List Str:=["_law_told_here","_law_due","_law_k"]
theorem sc_l_same:FnScope N_l_same ["_law_told_here","_law_due"] (defScope s_l_same):=⟨rfl,rfl,rfl,by decide +kernel,rfl,by decide +kernel,by decide +kernel⟩
abbrev ZcX:Stmt:=topS 40
abbrev N_l_written:List Str:=["_law_program_here"]
theorem sc_l_written:FnScope N_l_written ["_law_program_here"] (defScope ZcX):=⟨rfl,rfl,rfl,by decide +kernel,rfl,by decide +kernel,by decide +kernel⟩
abbrev ZcK:Stmt:=topS 41
abbrev N_l_bad_sign:List Str:=["_law_text","_law_due","_law_inside","_law_k","_law_top"]
theorem sc_l_bad_sign:FnScope N_l_bad_sign ["_law_text"] (defScope ZcK):=⟨rfl,rfl,rfl,by decide +kernel,rfl,by decide +kernel,by decide +kernel⟩
abbrev s_l_tree:Stmt:=topS 42
abbrev N_l_tree:List Str:=["_law_text","_law_stack","_law_name","_law_char","_law_row"]
theorem sc_l_tree:FnScope N_l_tree ["_law_text"] (defScope s_l_tree):=⟨rfl,rfl,rfl,by decide +kernel,rfl,by decide +kernel,by decide +kernel⟩
abbrev Zbq:Stmt:=topS 21
abbrev N_p_format_program:List Str:=["program"]
theorem ZcG:FnScope N_p_format_program ["program"] (defScope Zbq):=⟨rfl,rfl,rfl,by decide +kernel,rfl,by decide +kernel,by decide +kernel⟩
abbrev Zcg:Stmt:=topS 44
abbrev N_l_text_right:List Str:=["_law_text","_law_refusal","_law_program_here","_law_sign","_law_tree_here","_law_due"]
theorem sc_l_text_right:FnScope N_l_text_right ["_law_text"] (defScope Zcg):=⟨rfl,rfl,rfl,by decide +kernel,rfl,by decide +kernel,by decide +kernel⟩
abbrev Zbz:Stmt:=topS 45
abbrev N_l_program_right:List Str:=["_law_program_here","_law_due"]
theorem ZdP:FnScope N_l_program_right ["_law_program_here"] (defScope Zbz):=⟨rfl,rfl,rfl,by decide +kernel,rfl,by decide +kernel,by decide +kernel⟩
abbrev Zej:Stmt:=topS 32
abbrev N_l_chain:List Str:=["_law_names","_law_program_here","_law_name"]
theorem sc_l_chain:FnScope N_l_chain ["_law_names"] (defScope Zej):=⟨rfl,rfl,rfl,by decide +kernel,rfl,by decide +kernel,by decide +kernel⟩
abbrev ZbN:Stmt:=topS 33
abbrev N_l_name_changed:List Str:=["_law_program_here","_law_deed","_law_name","_law_fresh","_law_menu"]
theorem Zeh:FnScope N_l_name_changed ["_law_program_here","_law_deed","_law_name"] (defScope ZbN):=⟨rfl,rfl,rfl,by decide +kernel,rfl,by decide +kernel,by decide +kernel⟩
abbrev ZbY:Stmt:=topS 34
abbrev N_l_fun_changed:List Str:=["_law_program_here","_law_deed","_law_name","_law_own","_law_body","_law_menu"]
theorem ZeE:FnScope N_l_fun_changed ["_law_program_here","_law_deed","_law_name"] (defScope ZbY):=⟨rfl,rfl,rfl,by decide +kernel,rfl,by decide +kernel,by decide +kernel⟩
abbrev ZbX:Stmt:=topS 35
abbrev N_l_use_changed:List Str:=["_law_program_here","_law_deed","_law_name","_law_one","_law_other","_law_menu"]
theorem ZeD:FnScope N_l_use_changed ["_law_program_here","_law_deed","_law_name"] (defScope ZbX):=⟨rfl,rfl,rfl,by decide +kernel,rfl,by decide +kernel,by decide +kernel⟩
abbrev ZcZ:Stmt:=topS 36
abbrev N_l_changed:List Str:=["_law_draws_here","_law_at","_law_program_here","_law_name","_law_turn","_law_deed"]
theorem sc_l_changed:FnScope N_l_changed ["_law_draws_here","_law_at","_law_program_here","_law_name"] (defScope ZcZ):=⟨rfl,rfl,rfl,by decide +kernel,rfl,by decide +kernel,by decide +kernel⟩
abbrev ZbM:Stmt:=topS 46
abbrev N_l_text_changed:List Str:=["_law_draws_here","_law_at","_law_text","_law_chars","_law_deed","_law_k","_law_char"]
theorem Zeg:FnScope N_l_text_changed ["_law_draws_here","_law_at","_law_text"] (defScope ZbM):=⟨rfl,rfl,rfl,by decide +kernel,rfl,by decide +kernel,by decide +kernel⟩
abbrev s_law:Stmt:=topS 47
abbrev N_law:List Str:=["_law_script","_law_draws_here","_law_extra","_law_names","_law_program_here","_law_many","_law_menu","_law_j","_law_row","_law_changed_here","_law_text"]
theorem sc_law:FnScope N_law ["_law_script"] (defScope s_law):=⟨rfl,rfl,rfl,by decide +kernel,rfl,by decide +kernel,by decide +kernel⟩
structure Txt (K:PySem.W.Frag) (mg:Str→Option Value) where
 A:CA3
 b_ValueError:mg "ValueError" = none
 b_abs:mg "abs" = none
 b_all:mg "all" = none
 b_bool:mg "bool" = none
 b_int:mg "int" = none
 b_isinstance:mg "isinstance" = none
 b_len:mg "len" = none
 b_list:mg "list" = none
 b_range:mg "range" = none
 b_str:mg "str" = none
 b_tuple:mg "tuple" = none
 g_BadName:mg "BadName" = some (.ref (A.tx .BadName))
 g_BadSign:mg "BadSign" = some (.ref (A.tx .BadSign))
 g_BoundTwice:mg "BoundTwice" = some (.ref (A.tx .BoundTwice))
 g_ComesapartError:mg "ComesapartError" = some (.ref (A.tx .ComesapartError))
 g_NotUsed:mg "NotUsed" = some (.ref (A.tx .NotUsed))
 g_TooLarge:mg "TooLarge" = some (.ref (A.tx .TooLarge))
 g_UnknownName:mg "UnknownName" = some (.ref (A.tx .UnknownName))
 g_UsedTwice:mg "UsedTwice" = some (.ref (A.tx .UsedTwice))
 u_ALPHABET:Value
 g_ALPHABET:mg "ALPHABET" = some u_ALPHABET
 ku_ALPHABET:∃ t,u_ALPHABET = .str "abcdefghijklmnopqrstuvwxyz" t
 u_MOST_FUNS:Value
 g_MOST_FUNS:mg "MOST_FUNS" = some u_MOST_FUNS
 ku_MOST_FUNS:∃ t,u_MOST_FUNS = .int (12) t
 u_MOST_IN_NAME:Value
 g_MOST_IN_NAME:mg "MOST_IN_NAME" = some u_MOST_IN_NAME
 ku_MOST_IN_NAME:∃ t,u_MOST_IN_NAME = .int (8) t
 a_l_cell:Addr
 f_l_cell:FuncData
 F_l_cell:Fun K "_law_cell" "_law_cell" s_l_cell a_l_cell f_l_cell
 d_l_cell:Binds K f_l_cell ["_law_script","_law_k"] []
 g_l_cell:mg "_law_cell" = some (.ref a_l_cell)
 a_l_draws:Addr
 f_l_draws:FuncData
 F_l_draws:Fun K "_law_draws" "_law_draws" Zei a_l_draws f_l_draws
 d_l_draws:Binds K f_l_draws ["_law_cell_here","_law_many"] []
 g_l_draws:mg "_law_draws" = some (.ref a_l_draws)
 a_l_pick:Addr
 f_l_pick:FuncData
 F_l_pick:Fun K "_law_pick" "_law_pick" s_l_pick a_l_pick f_l_pick
 d_l_pick:Binds K f_l_pick ["_law_draws_here","_law_k","_law_many"] []
 g_l_pick:mg "_law_pick" = some (.ref a_l_pick)
 a_l_shuffled:Addr
 f_l_shuffled:FuncData
 F_l_shuffled:Fun K "_law_shuffled" "_law_shuffled" ZcJ a_l_shuffled f_l_shuffled
 d_l_shuffled:Binds K f_l_shuffled ["_law_draws_here","_law_at","_law_many"] []
 g_l_shuffled:mg "_law_shuffled" = some (.ref a_l_shuffled)
 a_l_distinct:Addr
 f_l_distinct:FuncData
 F_l_distinct:Fun K "_law_distinct" "_law_distinct" Zbw a_l_distinct f_l_distinct
 d_l_distinct:Binds K f_l_distinct ["_law_draws_here","_law_extra","_law_many"] []
 g_l_distinct:mg "_law_distinct" = some (.ref a_l_distinct)
 a_l_program:Addr
 f_l_program:FuncData
 F_l_program:Fun K "_law_program" "_law_program" Zcp a_l_program f_l_program
 d_l_program:Binds K f_l_program ["_law_draws_here","_law_at","_law_names"] []
 g_l_program:mg "_law_program" = some (.ref a_l_program)
 a_l_events:Addr
 f_l_events:FuncData
 F_l_events:Fun K "_law_events" "_law_events" Zdx a_l_events f_l_events
 d_l_events:Binds K f_l_events ["_law_program_here"] []
 g_l_events:mg "_law_events" = some (.ref a_l_events)
 a_l_is_name:Addr
 f_l_is_name:FuncData
 F_l_is_name:Fun K "_law_is_name" "_law_is_name" ZcY a_l_is_name f_l_is_name
 d_l_is_name:Binds K f_l_is_name ["_law_name"] []
 g_l_is_name:mg "_law_is_name" = some (.ref a_l_is_name)
 a_l_fault:Addr
 f_l_fault:FuncData
 F_l_fault:Fun K "_law_fault" "_law_fault" Zdz a_l_fault f_l_fault
 d_l_fault:Binds K f_l_fault ["_law_program_here"] []
 g_l_fault:mg "_law_fault" = some (.ref a_l_fault)
 a_p_name_end:Addr
 f_p_name_end:FuncData
 F_p_name_end:Fun K "name_end" "name_end" ZcI a_p_name_end f_p_name_end
 d_p_name_end:Binds K f_p_name_end ["text","at"] []
 g_p_name_end:mg "name_end" = some (.ref a_p_name_end)
 a_p_expect:Addr
 f_p_expect:FuncData
 F_p_expect:Fun K "expect" "expect" Zdw a_p_expect f_p_expect
 d_p_expect:Binds K f_p_expect ["text","at","char"] []
 g_p_expect:mg "expect" = some (.ref a_p_expect)
 a_p_read_program:Addr
 f_p_read_program:FuncData
 F_p_read_program:Fun K "read_program" "read_program" ZbL a_p_read_program f_p_read_program
 d_p_read_program:Binds K f_p_read_program ["text","at"] []
 g_p_read_program:mg "read_program" = some (.ref a_p_read_program)
 a_p_count_funs:Addr
 f_p_count_funs:FuncData
 F_p_count_funs:Fun K "count_funs" "count_funs" Zcf a_p_count_funs f_p_count_funs
 d_p_count_funs:Binds K f_p_count_funs ["program"] []
 g_p_count_funs:mg "count_funs" = some (.ref a_p_count_funs)
 a_p_is_name:Addr
 f_p_is_name:FuncData
 F_p_is_name:Fun K "is_name" "is_name" ZcH a_p_is_name f_p_is_name
 d_p_is_name:Binds K f_p_is_name ["name"] []
 g_p_is_name:mg "is_name" = some (.ref a_p_is_name)
 a_p_check_names:Addr
 f_p_check_names:FuncData
 F_p_check_names:Fun K "check_names" "check_names" ZbW a_p_check_names f_p_check_names
 d_p_check_names:Binds K f_p_check_names ["program","around","bound","used"] []
 g_p_check_names:mg "check_names" = some (.ref a_p_check_names)
 a_p_check_program:Addr
 f_p_check_program:FuncData
 F_p_check_program:Fun K "check_program" "check_program" Zby a_p_check_program f_p_check_program
 d_p_check_program:Binds K f_p_check_program ["program"] []
 g_p_check_program:mg "check_program" = some (.ref a_p_check_program)
 a_p_parse_program:Addr
 f_p_parse_program:FuncData
 F_p_parse_program:Fun K "parse_program" "parse_program" Zbx a_p_parse_program f_p_parse_program
 d_p_parse_program:Binds K f_p_parse_program ["text"] []
 g_p_parse_program:mg "parse_program" = some (.ref a_p_parse_program)
 a_l_told:Addr
 f_l_told:FuncData
 F_l_told:Fun K "_law_told" "_law_told" s_l_told a_l_told f_l_told
 d_l_told:Binds K f_l_told ["_law_program_here","_law_text","_law_reads"] []
 g_l_told:mg "_law_told" = some (.ref a_l_told)
 a_l_same:Addr
 f_l_same:FuncData
 F_l_same:Fun K "_law_same" "_law_same" s_l_same a_l_same f_l_same
 d_l_same:Binds K f_l_same ["_law_told_here","_law_due"] []
 g_l_same:mg "_law_same" = some (.ref a_l_same)
 a_l_written:Addr
 f_l_written:FuncData
 F_l_written:Fun K "_law_written" "_law_written" ZcX a_l_written f_l_written
 d_l_written:Binds K f_l_written ["_law_program_here"] []
 g_l_written:mg "_law_written" = some (.ref a_l_written)
 a_l_bad_sign:Addr
 f_l_bad_sign:FuncData
 F_l_bad_sign:Fun K "_law_bad_sign" "_law_bad_sign" ZcK a_l_bad_sign f_l_bad_sign
 d_l_bad_sign:Binds K f_l_bad_sign ["_law_text"] []
 g_l_bad_sign:mg "_law_bad_sign" = some (.ref a_l_bad_sign)
 a_l_tree:Addr
 f_l_tree:FuncData
 F_l_tree:Fun K "_law_tree" "_law_tree" s_l_tree a_l_tree f_l_tree
 d_l_tree:Binds K f_l_tree ["_law_text"] []
 g_l_tree:mg "_law_tree" = some (.ref a_l_tree)
 a_p_format_program:Addr
 f_p_format_program:FuncData
 F_p_format_program:Fun K "format_program" "format_program" Zbq a_p_format_program f_p_format_program
 d_p_format_program:Binds K f_p_format_program ["program"] []
 g_p_format_program:mg "format_program" = some (.ref a_p_format_program)
 a_l_text_right:Addr
 f_l_text_right:FuncData
 F_l_text_right:Fun K "_law_text_right" "_law_text_right" Zcg a_l_text_right f_l_text_right
 d_l_text_right:Binds K f_l_text_right ["_law_text"] []
 g_l_text_right:mg "_law_text_right" = some (.ref a_l_text_right)
 a_l_program_right:Addr
 f_l_program_right:FuncData
 F_l_program_right:Fun K "_law_program_right" "_law_program_right" Zbz a_l_program_right f_l_program_right
 d_l_program_right:Binds K f_l_program_right ["_law_program_here"] []
 g_l_program_right:mg "_law_program_right" = some (.ref a_l_program_right)
 a_l_chain:Addr
 f_l_chain:FuncData
 F_l_chain:Fun K "_law_chain" "_law_chain" Zej a_l_chain f_l_chain
 d_l_chain:Binds K f_l_chain ["_law_names"] []
 g_l_chain:mg "_law_chain" = some (.ref a_l_chain)
 a_l_name_changed:Addr
 f_l_name_changed:FuncData
 F_l_name_changed:Fun K "_law_name_changed" "_law_name_changed" ZbN a_l_name_changed f_l_name_changed
 d_l_name_changed:Binds K f_l_name_changed ["_law_program_here","_law_deed","_law_name"] []
 g_l_name_changed:mg "_law_name_changed" = some (.ref a_l_name_changed)
 a_l_fun_changed:Addr
 f_l_fun_changed:FuncData
 F_l_fun_changed:Fun K "_law_fun_changed" "_law_fun_changed" ZbY a_l_fun_changed f_l_fun_changed
 d_l_fun_changed:Binds K f_l_fun_changed ["_law_program_here","_law_deed","_law_name"] []
 g_l_fun_changed:mg "_law_fun_changed" = some (.ref a_l_fun_changed)
 a_l_use_changed:Addr
 f_l_use_changed:FuncData
 F_l_use_changed:Fun K "_law_use_changed" "_law_use_changed" ZbX a_l_use_changed f_l_use_changed
 d_l_use_changed:Binds K f_l_use_changed ["_law_program_here","_law_deed","_law_name"] []
 g_l_use_changed:mg "_law_use_changed" = some (.ref a_l_use_changed)
 a_l_changed:Addr
 f_l_changed:FuncData
 F_l_changed:Fun K "_law_changed" "_law_changed" ZcZ a_l_changed f_l_changed
 d_l_changed:Binds K f_l_changed ["_law_draws_here","_law_at","_law_program_here","_law_name"] []
 g_l_changed:mg "_law_changed" = some (.ref a_l_changed)
 a_l_text_changed:Addr
 f_l_text_changed:FuncData
 F_l_text_changed:Fun K "_law_text_changed" "_law_text_changed" ZbM a_l_text_changed f_l_text_changed
 d_l_text_changed:Binds K f_l_text_changed ["_law_draws_here","_law_at","_law_text"] []
 g_l_text_changed:mg "_law_text_changed" = some (.ref a_l_text_changed)
 a_law:Addr
 f_law:FuncData
 F_law:Fun K "law" "law" s_law a_law f_law
 d_law:Binds K f_law ["_law_script"] []
 g_law:mg "law" = some (.ref a_law)
 i_BadName:Addr
 fx_BadName:FuncData
 x_BadName:XCls K (A.tx .BadName) i_BadName
 dx_BadName:Binds K fx_BadName ["self","name"] []
 i_BadSign:Addr
 fx_BadSign:FuncData
 x_BadSign:XCls K (A.tx .BadSign) i_BadSign
 dx_BadSign:Binds K fx_BadSign ["self","sign"] []
 i_BoundTwice:Addr
 fx_BoundTwice:FuncData
 x_BoundTwice:XCls K (A.tx .BoundTwice) i_BoundTwice
 dx_BoundTwice:Binds K fx_BoundTwice ["self","name"] []
 i_NotUsed:Addr
 fx_NotUsed:FuncData
 x_NotUsed:XCls K (A.tx .NotUsed) i_NotUsed
 dx_NotUsed:Binds K fx_NotUsed ["self","name"] []
 i_TooLarge:Addr
 fx_TooLarge:FuncData
 x_TooLarge:XCls K (A.tx .TooLarge) i_TooLarge
 dx_TooLarge:Binds K fx_TooLarge ["self","limit"] []
 i_UnknownName:Addr
 fx_UnknownName:FuncData
 x_UnknownName:XCls K (A.tx .UnknownName) i_UnknownName
 dx_UnknownName:Binds K fx_UnknownName ["self","name"] []
 i_UsedTwice:Addr
 fx_UsedTwice:FuncData
 x_UsedTwice:XCls K (A.tx .UsedTwice) i_UsedTwice
 dx_UsedTwice:Binds K fx_UsedTwice ["self","name"] []
 no_BadName_name:PySem.W.findIn K (.ref (A.tx .BadName)) "name" = some none
 no_BadSign_sign:PySem.W.findIn K (.ref (A.tx .BadSign)) "sign" = some none
 no_BoundTwice_name:PySem.W.findIn K (.ref (A.tx .BoundTwice)) "name" = some none
 no_NotUsed_name:PySem.W.findIn K (.ref (A.tx .NotUsed)) "name" = some none
 no_TooLarge_limit:PySem.W.findIn K (.ref (A.tx .TooLarge)) "limit" = some none
 no_UnknownName_name:PySem.W.findIn K (.ref (A.tx .UnknownName)) "name" = some none
 no_UsedTwice_name:PySem.W.findIn K (.ref (A.tx .UsedTwice)) "name" = some none
 xf_BadName:XfC K (A.tx .BadName)
 xf_BadSign:XfC K (A.tx .BadSign)
 xf_BoundTwice:XfC K (A.tx .BoundTwice)
 xf_NotUsed:XfC K (A.tx .NotUsed)
 xf_TooLarge:XfC K (A.tx .TooLarge)
 xf_UnknownName:XfC K (A.tx .UnknownName)
 xf_UsedTwice:XfC K (A.tx .UsedTwice)
 exc:∀ c,kn c=true→ExcC K (A.tx c)
 hx_ComesapartError:∀ c,kn c=true→PySem.W.exmOne K (.ref (A.tx c)) (.ref (A.tx .ComesapartError))=some (XC.isA c .ComesapartError)
 kx_BadName:∀ c,kn c=true→PySem.W.kitOne K (.ref (A.tx c)) (.ref (A.tx .BadName))=some (XC.isA c .BadName)
 kx_BadSign:∀ c,kn c=true→PySem.W.kitOne K (.ref (A.tx c)) (.ref (A.tx .BadSign))=some (XC.isA c .BadSign)
 kx_BoundTwice:∀ c,kn c=true→PySem.W.kitOne K (.ref (A.tx c)) (.ref (A.tx .BoundTwice))=some (XC.isA c .BoundTwice)
 kx_NotUsed:∀ c,kn c=true→PySem.W.kitOne K (.ref (A.tx c)) (.ref (A.tx .NotUsed))=some (XC.isA c .NotUsed)
 kx_TooLarge:∀ c,kn c=true→PySem.W.kitOne K (.ref (A.tx c)) (.ref (A.tx .TooLarge))=some (XC.isA c .TooLarge)
 kx_UnknownName:∀ c,kn c=true→PySem.W.kitOne K (.ref (A.tx c)) (.ref (A.tx .UnknownName))=some (XC.isA c .UnknownName)
 kx_UsedTwice:∀ c,kn c=true→PySem.W.kitOne K (.ref (A.tx c)) (.ref (A.tx .UsedTwice))=some (XC.isA c .UsedTwice)
 kx_ValueError:∀ c,kn c=true→PySem.W.kitOne K (.ref (A.tx c)) (.type "ValueError")=some true
theorem hu64 {A:Around} {k:Nat} (hr:Room k A):A.units+64<cLine:=by have:=hr.un;omega
def sp_l_cell (C:GCtx) (A:CA3):Sp:=fun vs H Q E=>∃ script:(Sq Int),∃ k:Int,(Zcm script k).nb∧FnX C [.val (dSq (d:=dInt)) script,.val dInt k] (fun c=>∃ r,c = .val dInt r∧(Zcm script k) = .ok r) (fun x=>∃ px,(Zcm script k) = .exc px∧x=px.x A.tx) vs H Q E
theorem sp_l_cell_len {C:GCtx} {A:CA3} {vs H Q E} (h:sp_l_cell C A vs H Q E):vs.length=2:=by obtain ⟨_,_,_,h⟩:=h;exact h.len
theorem hs_l_cell {C:GCtx} {A:CA3}:∀ script k,(Zcm script k).nb→SpX C (sp_l_cell C A) [.val (dSq (d:=dInt)) script,.val dInt k] (fun c=>∃ r,c = .val dInt r∧(Zcm script k) = .ok r) (fun x=>∃ px,(Zcm script k) = .exc px∧x=px.x A.tx):=fun script k nb vs H Q E h=>⟨script,k,nb,h⟩
def sp_l_draws (C:GCtx) (A:CA3):Sp:=fun vs H Q E=>∃ cell_here:Int,∃ many:Int,(ZbH cell_here many).nb∧FnX C [.val dInt cell_here,.val dInt many] (fun c=>∃ r,c = .own (dList (d:=dInt)) (oList (d:=dInt)) none r∧(ZbH cell_here many) = .ok r) (fun x=>∃ px,(ZbH cell_here many) = .exc px∧x=px.x A.tx) vs H Q E
theorem sp_l_draws_len {C:GCtx} {A:CA3} {vs H Q E} (h:sp_l_draws C A vs H Q E):vs.length=2:=by obtain ⟨_,_,_,h⟩:=h;exact h.len
theorem hs_l_draws {C:GCtx} {A:CA3}:∀ cell_here many,(ZbH cell_here many).nb→SpX C (sp_l_draws C A) [.val dInt cell_here,.val dInt many] (fun c=>∃ r,c = .own (dList (d:=dInt)) (oList (d:=dInt)) none r∧(ZbH cell_here many) = .ok r) (fun x=>∃ px,(ZbH cell_here many) = .exc px∧x=px.x A.tx):=fun cell_here many nb vs H Q E h=>⟨cell_here,many,nb,h⟩
def ZcP (C:GCtx) (A:CA3):Sp:=fun vs H Q E=>∃ draws_here:(List Int),∃ k:Int,∃ many:Int,(Zas draws_here k many).nb∧FnX C [.val (dList (d:=dInt)) draws_here,.val dInt k,.val dInt many] (fun c=>∃ r,c = .val dInt r∧(Zas draws_here k many) = .ok r) (fun x=>∃ px,(Zas draws_here k many) = .exc px∧x=px.x A.tx) vs H Q E
theorem sp_l_pick_len {C:GCtx} {A:CA3} {vs H Q E} (h:ZcP C A vs H Q E):vs.length=3:=by obtain ⟨_,_,_,_,h⟩:=h;exact h.len
theorem ZaX {C:GCtx} {A:CA3}:∀ draws_here k many,(Zas draws_here k many).nb→SpX C (ZcP C A) [.val (dList (d:=dInt)) draws_here,.val dInt k,.val dInt many] (fun c=>∃ r,c = .val dInt r∧(Zas draws_here k many) = .ok r) (fun x=>∃ px,(Zas draws_here k many) = .exc px∧x=px.x A.tx):=fun draws_here k many nb vs H Q E h=>⟨draws_here,k,many,nb,h⟩
def Zdo (C:GCtx) (A:CA3):Sp:=fun vs H Q E=>∃ draws_here:(List Int),∃ at_:Int,∃ many:Int,(Zbn draws_here at_ many).nb∧FnX C [.val (dList (d:=dInt)) draws_here,.val dInt at_,.val dInt many] (fun c=>∃ r,c = .own (dList (d:=dInt)) (oList (d:=dInt)) none r∧(Zbn draws_here at_ many) = .ok r) (fun x=>∃ px,(Zbn draws_here at_ many) = .exc px∧x=px.x A.tx) vs H Q E
theorem sp_l_shuffled_len {C:GCtx} {A:CA3} {vs H Q E} (h:Zdo C A vs H Q E):vs.length=3:=by obtain ⟨_,_,_,_,h⟩:=h;exact h.len
theorem hs_l_shuffled {C:GCtx} {A:CA3}:∀ draws_here at_ many,(Zbn draws_here at_ many).nb→SpX C (Zdo C A) [.val (dList (d:=dInt)) draws_here,.val dInt at_,.val dInt many] (fun c=>∃ r,c = .own (dList (d:=dInt)) (oList (d:=dInt)) none r∧(Zbn draws_here at_ many) = .ok r) (fun x=>∃ px,(Zbn draws_here at_ many) = .exc px∧x=px.x A.tx):=fun draws_here at_ many nb vs H Q E h=>⟨draws_here,at_,many,nb,h⟩
def Zdp (C:GCtx) (A:CA3):Sp:=fun vs H Q E=>∃ draws_here:(List Int),∃ extra:(List Int),∃ many:Int,(Zbe draws_here extra many).nb∧FnX C [.val (dList (d:=dInt)) draws_here,.val (dList (d:=dInt)) extra,.val dInt many] (fun c=>∃ r,c = .own (dList (d:=dStr)) (oList (d:=dStr)) none r∧(Zbe draws_here extra many) = .ok r) (fun x=>∃ px,(Zbe draws_here extra many) = .exc px∧x=px.x A.tx) vs H Q E
theorem sp_l_distinct_len {C:GCtx} {A:CA3} {vs H Q E} (h:Zdp C A vs H Q E):vs.length=3:=by obtain ⟨_,_,_,_,h⟩:=h;exact h.len
theorem hs_l_distinct {C:GCtx} {A:CA3}:∀ draws_here extra many,(Zbe draws_here extra many).nb→SpX C (Zdp C A) [.val (dList (d:=dInt)) draws_here,.val (dList (d:=dInt)) extra,.val dInt many] (fun c=>∃ r,c = .own (dList (d:=dStr)) (oList (d:=dStr)) none r∧(Zbe draws_here extra many) = .ok r) (fun x=>∃ px,(Zbe draws_here extra many) = .exc px∧x=px.x A.tx):=fun draws_here extra many nb vs H Q E h=>⟨draws_here,extra,many,nb,h⟩
def ZdK (C:GCtx) (A:CA3):Sp:=fun vs H Q E=>∃ draws_here:(List Int),∃ at_:Int,∃ names:(List PySem.Str),(ZbF draws_here at_ names).nb∧FnX C [.val (dList (d:=dInt)) draws_here,.val dInt at_,.val (dList (d:=dStr)) names] (fun c=>∃ r,c = .val dUI r∧(ZbF draws_here at_ names) = .ok r) (fun x=>∃ px,(ZbF draws_here at_ names) = .exc px∧x=px.x A.tx) vs H Q E
theorem sp_l_program_len {C:GCtx} {A:CA3} {vs H Q E} (h:ZdK C A vs H Q E):vs.length=3:=by obtain ⟨_,_,_,_,h⟩:=h;exact h.len
theorem hs_l_program {C:GCtx} {A:CA3}:∀ draws_here at_ names,(ZbF draws_here at_ names).nb→SpX C (ZdK C A) [.val (dList (d:=dInt)) draws_here,.val dInt at_,.val (dList (d:=dStr)) names] (fun c=>∃ r,c = .val dUI r∧(ZbF draws_here at_ names) = .ok r) (fun x=>∃ px,(ZbF draws_here at_ names) = .exc px∧x=px.x A.tx):=fun draws_here at_ names nb vs H Q E h=>⟨draws_here,at_,names,nb,h⟩
def Zet (n:Nat) (C:GCtx) (A:CA3):Sp:=fun vs H Q E=>∃ program_here:PyData,(ZbZ n program_here).nb∧FnX C [.val dUI program_here] (fun c=>∃ r,c = .own (dList (d:=(dPair (d1:=dStr) (d2:=dStr)))) (oList (d:=(dPair (d1:=dStr) (d2:=dStr)))) none r∧(ZbZ n program_here) = .ok r) (fun x=>∃ px,(ZbZ n program_here) = .exc px∧x=px.x A.tx) vs H Q E
theorem sp_l_events_len {n:Nat} {C:GCtx} {A:CA3} {vs H Q E} (h:Zet n C A vs H Q E):vs.length=1:=by obtain ⟨_,_,h⟩:=h;exact h.len
theorem Zey {n:Nat} {C:GCtx} {A:CA3}:∀ program_here,(ZbZ n program_here).nb→SpX C (Zet n C A) [.val dUI program_here] (fun c=>∃ r,c = .own (dList (d:=(dPair (d1:=dStr) (d2:=dStr)))) (oList (d:=(dPair (d1:=dStr) (d2:=dStr)))) none r∧(ZbZ n program_here) = .ok r) (fun x=>∃ px,(ZbZ n program_here) = .exc px∧x=px.x A.tx):=fun program_here nb vs H Q E h=>⟨program_here,nb,h⟩
def ZdL (C:GCtx) (A:CA3):Sp:=fun vs H Q E=>∃ name:PySem.Str,(Zbr name).nb∧FnX C [.val dStr name] (fun c=>∃ r,c = .val dBool r∧(Zbr name) = .ok r) (fun x=>∃ px,(Zbr name) = .exc px∧x=px.x A.tx) vs H Q E
theorem sp_l_is_name_len {C:GCtx} {A:CA3} {vs H Q E} (h:ZdL C A vs H Q E):vs.length=1:=by obtain ⟨_,_,h⟩:=h;exact h.len
theorem hs_l_is_name {C:GCtx} {A:CA3}:∀ name,(Zbr name).nb→SpX C (ZdL C A) [.val dStr name] (fun c=>∃ r,c = .val dBool r∧(Zbr name) = .ok r) (fun x=>∃ px,(Zbr name) = .exc px∧x=px.x A.tx):=fun name nb vs H Q E h=>⟨name,nb,h⟩
def Zdu (C:GCtx) (A:CA3):Sp:=fun vs H Q E=>∃ program_here:PyData,(ZbG program_here).nb∧FnX C [.val dUI program_here] (fun c=>∃ r,c = .val dU r∧(ZbG program_here) = .ok r) (fun x=>∃ px,(ZbG program_here) = .exc px∧x=px.x A.tx) vs H Q E
theorem sp_l_fault_len {C:GCtx} {A:CA3} {vs H Q E} (h:Zdu C A vs H Q E):vs.length=1:=by obtain ⟨_,_,h⟩:=h;exact h.len
theorem hs_l_fault {C:GCtx} {A:CA3}:∀ program_here,(ZbG program_here).nb→SpX C (Zdu C A) [.val dUI program_here] (fun c=>∃ r,c = .val dU r∧(ZbG program_here) = .ok r) (fun x=>∃ px,(ZbG program_here) = .exc px∧x=px.x A.tx):=fun program_here nb vs H Q E h=>⟨program_here,nb,h⟩
def Zdn (C:GCtx) (A:CA3):Sp:=fun vs H Q E=>∃ text:PySem.Str,∃ at_:Int,(Zbd text at_).nb∧FnX C [.val dStr text,.val dInt at_] (fun c=>∃ r,c = .val dInt r∧(Zbd text at_) = .ok r) (fun x=>∃ px,(Zbd text at_) = .exc px∧x=px.x A.tx) vs H Q E
theorem sp_p_name_end_len {C:GCtx} {A:CA3} {vs H Q E} (h:Zdn C A vs H Q E):vs.length=2:=by obtain ⟨_,_,_,h⟩:=h;exact h.len
theorem hs_p_name_end {C:GCtx} {A:CA3}:∀ text at_,(Zbd text at_).nb→SpX C (Zdn C A) [.val dStr text,.val dInt at_] (fun c=>∃ r,c = .val dInt r∧(Zbd text at_) = .ok r) (fun x=>∃ px,(Zbd text at_) = .exc px∧x=px.x A.tx):=fun text at_ nb vs H Q E h=>⟨text,at_,nb,h⟩
def Zes (C:GCtx) (A:CA3):Sp:=fun vs H Q E=>∃ text:PySem.Str,∃ at_:Int,∃ char:PySem.Str,(ZaV text at_ char).nb∧FnX C [.val dStr text,.val dInt at_,.val dStr char] (fun c=>∃ r,c = .val dInt r∧(ZaV text at_ char) = .ok r) (fun x=>∃ px,(ZaV text at_ char) = .exc px∧x=px.x A.tx) vs H Q E
theorem sp_p_expect_len {C:GCtx} {A:CA3} {vs H Q E} (h:Zes C A vs H Q E):vs.length=3:=by obtain ⟨_,_,_,_,h⟩:=h;exact h.len
theorem Zex {C:GCtx} {A:CA3}:∀ text at_ char,(ZaV text at_ char).nb→SpX C (Zes C A) [.val dStr text,.val dInt at_,.val dStr char] (fun c=>∃ r,c = .val dInt r∧(ZaV text at_ char) = .ok r) (fun x=>∃ px,(ZaV text at_ char) = .exc px∧x=px.x A.tx):=fun text at_ char nb vs H Q E h=>⟨text,at_,char,nb,h⟩
def Zcr (n:Nat) (C:GCtx) (A:CA3):Sp:=fun vs H Q E=>∃ text:PySem.Str,∃ at_:Int,(ZaE n text at_).nb∧FnX C [.val dStr text,.val dInt at_] (fun c=>∃ r,c = .val (dPair (d1:=dUI) (d2:=dInt)) r∧(ZaE n text at_) = .ok r) (fun x=>∃ px,(ZaE n text at_) = .exc px∧x=px.x A.tx) vs H Q E
theorem Zdb {n:Nat} {C:GCtx} {A:CA3} {vs H Q E} (h:Zcr n C A vs H Q E):vs.length=2:=by obtain ⟨_,_,_,h⟩:=h;exact h.len
theorem Zcu {n:Nat} {C:GCtx} {A:CA3}:∀ text at_,(ZaE n text at_).nb→SpX C (Zcr n C A) [.val dStr text,.val dInt at_] (fun c=>∃ r,c = .val (dPair (d1:=dUI) (d2:=dInt)) r∧(ZaE n text at_) = .ok r) (fun x=>∃ px,(ZaE n text at_) = .exc px∧x=px.x A.tx):=fun text at_ nb vs H Q E h=>⟨text,at_,nb,h⟩
def ZcO (C:GCtx) (A:CA3):Sp:=fun vs H Q E=>∃ program:PyData,(ZaW program).nb∧FnX C [.val dUI program] (fun c=>∃ r,c = .val dInt r∧(ZaW program) = .ok r) (fun x=>∃ px,(ZaW program) = .exc px∧x=px.x A.tx) vs H Q E
theorem sp_p_count_funs_len {C:GCtx} {A:CA3} {vs H Q E} (h:ZcO C A vs H Q E):vs.length=1:=by obtain ⟨_,_,h⟩:=h;exact h.len
theorem hs_p_count_funs {C:GCtx} {A:CA3}:∀ program,(ZaW program).nb→SpX C (ZcO C A) [.val dUI program] (fun c=>∃ r,c = .val dInt r∧(ZaW program) = .ok r) (fun x=>∃ px,(ZaW program) = .exc px∧x=px.x A.tx):=fun program nb vs H Q E h=>⟨program,nb,h⟩
def ZdJ (C:GCtx) (A:CA3):Sp:=fun vs H Q E=>∃ name:PySem.Str,(ZbE name).nb∧FnX C [.val dStr name] (fun c=>∃ r,c = .val dBool r∧(ZbE name) = .ok r) (fun x=>∃ px,(ZbE name) = .exc px∧x=px.x A.tx) vs H Q E
theorem sp_p_is_name_len {C:GCtx} {A:CA3} {vs H Q E} (h:ZdJ C A vs H Q E):vs.length=1:=by obtain ⟨_,_,h⟩:=h;exact h.len
theorem hs_p_is_name {C:GCtx} {A:CA3}:∀ name,(ZbE name).nb→SpX C (ZdJ C A) [.val dStr name] (fun c=>∃ r,c = .val dBool r∧(ZbE name) = .ok r) (fun x=>∃ px,(ZbE name) = .exc px∧x=px.x A.tx):=fun name nb vs H Q E h=>⟨name,nb,h⟩
def Zcz (n:Nat) (C:GCtx) (A:CA3):Sp:=fun vs H Q E=>∃ program:PyData,∃ around:(List PySem.Str),∃ bound:(List PySem.Str),∃ used:(List PySem.Str),(ZaP n program around bound used).nb∧FnMX C dUnit [.val dUI program,.val (dList (d:=dStr)) around,.own (dList (d:=dStr)) (oList (d:=dStr)) none bound,.own (dList (d:=dStr)) (oList (d:=dStr)) none used] [2,3] (fun r Γm=>∃ x',(ZaP n program around bound used) = .ok (r,x')∧Γm=[.own (dList (d:=dStr)) (oList (d:=dStr)) none x'.1,.own (dList (d:=dStr)) (oList (d:=dStr)) none x'.2]) (fun x=>∃ px,(ZaP n program around bound used) = .exc px∧x=px.x A.tx) vs H Q E
theorem Zdl {n:Nat} {C:GCtx} {A:CA3} {vs H Q E} (h:Zcz n C A vs H Q E):vs.length=4:=by obtain ⟨_,_,_,_,_,h⟩:=h;exact h.len
theorem ZcD {C:GCtx} {A:CA3} {n:Nat} {program around bound used} (nb:(ZaP n program around bound used).nb):SpMX C (Zcz n C A) dUnit [.val dUI program,.val (dList (d:=dStr)) around,.own (dList (d:=dStr)) (oList (d:=dStr)) none bound,.own (dList (d:=dStr)) (oList (d:=dStr)) none used] [2,3] (fun r Γm=>∃ x',(ZaP n program around bound used) = .ok (r,x')∧Γm=[.own (dList (d:=dStr)) (oList (d:=dStr)) none x'.1,.own (dList (d:=dStr)) (oList (d:=dStr)) none x'.2]) (fun x=>∃ px,(ZaP n program around bound used) = .exc px∧x=px.x A.tx):=fun vs H Q E h=>⟨program,around,bound,used,nb,h⟩
def ZbR (C:GCtx) (A:CA3):Sp:=fun vs H Q E=>∃ program:PyData,(Zar program).nb∧FnX C [.val dUI program] (fun c=>∃ r,c = .val dUnit r∧(Zar program) = .ok r) (fun x=>∃ px,(Zar program) = .exc px∧x=px.x A.tx) vs H Q E
theorem ZeG {C:GCtx} {A:CA3} {vs H Q E} (h:ZbR C A vs H Q E):vs.length=1:=by obtain ⟨_,_,h⟩:=h;exact h.len
theorem ZdT {C:GCtx} {A:CA3}:∀ program,(Zar program).nb→SpX C (ZbR C A) [.val dUI program] (fun c=>∃ r,c = .val dUnit r∧(Zar program) = .ok r) (fun x=>∃ px,(Zar program) = .exc px∧x=px.x A.tx):=fun program nb vs H Q E h=>⟨program,nb,h⟩
def Zck (C:GCtx) (A:CA3):Sp:=fun vs H Q E=>∃ text:PySem.Str,(Zax text).nb∧FnX C [.val dStr text] (fun c=>∃ r,c = .val dUI r∧(Zax text) = .ok r) (fun x=>∃ px,(Zax text) = .exc px∧x=px.x A.tx) vs H Q E
theorem ZeF {C:GCtx} {A:CA3} {vs H Q E} (h:Zck C A vs H Q E):vs.length=1:=by obtain ⟨_,_,h⟩:=h;exact h.len
theorem hs_p_parse_program {C:GCtx} {A:CA3}:∀ text,(Zax text).nb→SpX C (Zck C A) [.val dStr text] (fun c=>∃ r,c = .val dUI r∧(Zax text) = .ok r) (fun x=>∃ px,(Zax text) = .exc px∧x=px.x A.tx):=fun text nb vs H Q E h=>⟨text,nb,h⟩
def ZeM (C:GCtx) (A:CA3):Sp:=fun vs H Q E=>∃ program_here:PyData,∃ text:PySem.Str,∃ reads:Bool,(ZbS program_here text reads).nb∧FnX C [.val dUI program_here,.val dStr text,.val dBool reads] (fun c=>∃ r,c = .val (dPair (d1:=dU) (d2:=dU)) r∧(ZbS program_here text reads) = .ok r) (fun x=>∃ px,(ZbS program_here text reads) = .exc px∧x=px.x A.tx) vs H Q E
theorem sp_l_told_len {C:GCtx} {A:CA3} {vs H Q E} (h:ZeM C A vs H Q E):vs.length=3:=by obtain ⟨_,_,_,_,h⟩:=h;exact h.len
theorem hs_l_told {C:GCtx} {A:CA3}:∀ program_here text reads,(ZbS program_here text reads).nb→SpX C (ZeM C A) [.val dUI program_here,.val dStr text,.val dBool reads] (fun c=>∃ r,c = .val (dPair (d1:=dU) (d2:=dU)) r∧(ZbS program_here text reads) = .ok r) (fun x=>∃ px,(ZbS program_here text reads) = .exc px∧x=px.x A.tx):=fun program_here text reads nb vs H Q E h=>⟨program_here,text,reads,nb,h⟩
def ZeO (n:Nat) (C:GCtx) (A:CA3):Sp:=fun vs H Q E=>∃ told_here:PyData,∃ due:PyData,(ZaY n told_here due).nb∧FnX C [.val dU told_here,.val dU due] (fun c=>∃ r,c = .val dBool r∧(ZaY n told_here due) = .ok r) (fun x=>∃ px,(ZaY n told_here due) = .exc px∧x=px.x A.tx) vs H Q E
theorem sp_l_same_len {n:Nat} {C:GCtx} {A:CA3} {vs H Q E} (h:ZeO n C A vs H Q E):vs.length=2:=by obtain ⟨_,_,_,h⟩:=h;exact h.len
theorem ZdF {n:Nat} {C:GCtx} {A:CA3}:∀ told_here due,(ZaY n told_here due).nb→SpX C (ZeO n C A) [.val dU told_here,.val dU due] (fun c=>∃ r,c = .val dBool r∧(ZaY n told_here due) = .ok r) (fun x=>∃ px,(ZaY n told_here due) = .exc px∧x=px.x A.tx):=fun told_here due nb vs H Q E h=>⟨told_here,due,nb,h⟩
def Zdc (n:Nat) (C:GCtx) (A:CA3):Sp:=fun vs H Q E=>∃ program_here:PyData,(Zbg n program_here).nb∧FnX C [.val dUI program_here] (fun c=>∃ r,c = .val dStr r∧(Zbg n program_here) = .ok r) (fun x=>∃ px,(Zbg n program_here) = .exc px∧x=px.x A.tx) vs H Q E
theorem ZeB {n:Nat} {C:GCtx} {A:CA3} {vs H Q E} (h:Zdc n C A vs H Q E):vs.length=1:=by obtain ⟨_,_,h⟩:=h;exact h.len
theorem ZcL {n:Nat} {C:GCtx} {A:CA3}:∀ program_here,(Zbg n program_here).nb→SpX C (Zdc n C A) [.val dUI program_here] (fun c=>∃ r,c = .val dStr r∧(Zbg n program_here) = .ok r) (fun x=>∃ px,(Zbg n program_here) = .exc px∧x=px.x A.tx):=fun program_here nb vs H Q E h=>⟨program_here,nb,h⟩
def Zdq (C:GCtx) (A:CA3):Sp:=fun vs H Q E=>∃ text:PySem.Str,(Zbo text).nb∧FnX C [.val dStr text] (fun c=>∃ r,c = .val dInt r∧(Zbo text) = .ok r) (fun x=>∃ px,(Zbo text) = .exc px∧x=px.x A.tx) vs H Q E
theorem sp_l_bad_sign_len {C:GCtx} {A:CA3} {vs H Q E} (h:Zdq C A vs H Q E):vs.length=1:=by obtain ⟨_,_,h⟩:=h;exact h.len
theorem hs_l_bad_sign {C:GCtx} {A:CA3}:∀ text,(Zbo text).nb→SpX C (Zdq C A) [.val dStr text] (fun c=>∃ r,c = .val dInt r∧(Zbo text) = .ok r) (fun x=>∃ px,(Zbo text) = .exc px∧x=px.x A.tx):=fun text nb vs H Q E h=>⟨text,nb,h⟩
def sp_l_tree (C:GCtx) (A:CA3):Sp:=fun vs H Q E=>∃ text:PySem.Str,(ZcC text).nb∧FnX C [.val dStr text] (fun c=>∃ r,c = .val dUI r∧(ZcC text) = .ok r) (fun x=>∃ px,(ZcC text) = .exc px∧x=px.x A.tx) vs H Q E
theorem sp_l_tree_len {C:GCtx} {A:CA3} {vs H Q E} (h:sp_l_tree C A vs H Q E):vs.length=1:=by obtain ⟨_,_,h⟩:=h;exact h.len
theorem hs_l_tree {C:GCtx} {A:CA3}:∀ text,(ZcC text).nb→SpX C (sp_l_tree C A) [.val dStr text] (fun c=>∃ r,c = .val dUI r∧(ZcC text) = .ok r) (fun x=>∃ px,(ZcC text) = .exc px∧x=px.x A.tx):=fun text nb vs H Q E h=>⟨text,nb,h⟩
def ZbC (n:Nat) (C:GCtx) (A:CA3):Sp:=fun vs H Q E=>∃ program:PyData,(Zao n program).nb∧FnX C [.val dUI program] (fun c=>∃ r,c = .val dStr r∧(Zao n program) = .ok r) (fun x=>∃ px,(Zao n program) = .exc px∧x=px.x A.tx) vs H Q E
theorem ZcN {n:Nat} {C:GCtx} {A:CA3} {vs H Q E} (h:ZbC n C A vs H Q E):vs.length=1:=by obtain ⟨_,_,h⟩:=h;exact h.len
theorem ZbI {n:Nat} {C:GCtx} {A:CA3}:∀ program,(Zao n program).nb→SpX C (ZbC n C A) [.val dUI program] (fun c=>∃ r,c = .val dStr r∧(Zao n program) = .ok r) (fun x=>∃ px,(Zao n program) = .exc px∧x=px.x A.tx):=fun program nb vs H Q E h=>⟨program,nb,h⟩
def Zco (C:GCtx) (A:CA3):Sp:=fun vs H Q E=>∃ text:PySem.Str,(ZaK text).nb∧FnX C [.val dStr text] (fun c=>∃ r,c = .val dBool r∧(ZaK text) = .ok r) (fun x=>∃ px,(ZaK text) = .exc px∧x=px.x A.tx) vs H Q E
theorem sp_l_text_right_len {C:GCtx} {A:CA3} {vs H Q E} (h:Zco C A vs H Q E):vs.length=1:=by obtain ⟨_,_,h⟩:=h;exact h.len
theorem ZdE {C:GCtx} {A:CA3}:∀ text,(ZaK text).nb→SpX C (Zco C A) [.val dStr text] (fun c=>∃ r,c = .val dBool r∧(ZaK text) = .ok r) (fun x=>∃ px,(ZaK text) = .exc px∧x=px.x A.tx):=fun text nb vs H Q E h=>⟨text,nb,h⟩
def Zcl (C:GCtx) (A:CA3):Sp:=fun vs H Q E=>∃ program_here:PyData,(Zal program_here).nb∧FnX C [.val dUI program_here] (fun c=>∃ r,c = .val dBool r∧(Zal program_here) = .ok r) (fun x=>∃ px,(Zal program_here) = .exc px∧x=px.x A.tx) vs H Q E
theorem ZeH {C:GCtx} {A:CA3} {vs H Q E} (h:Zcl C A vs H Q E):vs.length=1:=by obtain ⟨_,_,h⟩:=h;exact h.len
theorem ZbT {C:GCtx} {A:CA3}:∀ program_here,(Zal program_here).nb→SpX C (Zcl C A) [.val dUI program_here] (fun c=>∃ r,c = .val dBool r∧(Zal program_here) = .ok r) (fun x=>∃ px,(Zal program_here) = .exc px∧x=px.x A.tx):=fun program_here nb vs H Q E h=>⟨program_here,nb,h⟩
def sp_l_chain (C:GCtx) (A:CA3):Sp:=fun vs H Q E=>∃ names:(List PySem.Str),(Zce names).nb∧FnX C [.val (dList (d:=dStr)) names] (fun c=>∃ r,c = .val dUI r∧(Zce names) = .ok r) (fun x=>∃ px,(Zce names) = .exc px∧x=px.x A.tx) vs H Q E
theorem sp_l_chain_len {C:GCtx} {A:CA3} {vs H Q E} (h:sp_l_chain C A vs H Q E):vs.length=1:=by obtain ⟨_,_,h⟩:=h;exact h.len
theorem hs_l_chain {C:GCtx} {A:CA3}:∀ names,(Zce names).nb→SpX C (sp_l_chain C A) [.val (dList (d:=dStr)) names] (fun c=>∃ r,c = .val dUI r∧(Zce names) = .ok r) (fun x=>∃ px,(Zce names) = .exc px∧x=px.x A.tx):=fun names nb vs H Q E h=>⟨names,nb,h⟩
def Zct (C:GCtx) (A:CA3):Sp:=fun vs H Q E=>∃ program_here:PyData,∃ deed:Int,∃ name:PySem.Str,(ZaJ program_here deed name).nb∧FnX C [.val dUI program_here,.val dInt deed,.val dStr name] (fun c=>∃ r,c = .val dUI r∧(ZaJ program_here deed name) = .ok r) (fun x=>∃ px,(ZaJ program_here deed name) = .exc px∧x=px.x A.tx) vs H Q E
theorem ZeP {C:GCtx} {A:CA3} {vs H Q E} (h:Zct C A vs H Q E):vs.length=3:=by obtain ⟨_,_,_,_,h⟩:=h;exact h.len
theorem hs_l_name_changed {C:GCtx} {A:CA3}:∀ program_here deed name,(ZaJ program_here deed name).nb→SpX C (Zct C A) [.val dUI program_here,.val dInt deed,.val dStr name] (fun c=>∃ r,c = .val dUI r∧(ZaJ program_here deed name) = .ok r) (fun x=>∃ px,(ZaJ program_here deed name) = .exc px∧x=px.x A.tx):=fun program_here deed name nb vs H Q E h=>⟨program_here,deed,name,nb,h⟩
def ZcB (C:GCtx) (A:CA3):Sp:=fun vs H Q E=>∃ program_here:PyData,∃ deed:Int,∃ name:PySem.Str,(ZaR program_here deed name).nb∧FnX C [.val dUI program_here,.val dInt deed,.val dStr name] (fun c=>∃ r,c = .val dUI r∧(ZaR program_here deed name) = .ok r) (fun x=>∃ px,(ZaR program_here deed name) = .exc px∧x=px.x A.tx) vs H Q E
theorem sp_l_fun_changed_len {C:GCtx} {A:CA3} {vs H Q E} (h:ZcB C A vs H Q E):vs.length=3:=by obtain ⟨_,_,_,_,h⟩:=h;exact h.len
theorem hs_l_fun_changed {C:GCtx} {A:CA3}:∀ program_here deed name,(ZaR program_here deed name).nb→SpX C (ZcB C A) [.val dUI program_here,.val dInt deed,.val dStr name] (fun c=>∃ r,c = .val dUI r∧(ZaR program_here deed name) = .ok r) (fun x=>∃ px,(ZaR program_here deed name) = .exc px∧x=px.x A.tx):=fun program_here deed name nb vs H Q E h=>⟨program_here,deed,name,nb,h⟩
def ZcA (C:GCtx) (A:CA3):Sp:=fun vs H Q E=>∃ program_here:PyData,∃ deed:Int,∃ name:PySem.Str,(ZaQ program_here deed name).nb∧FnX C [.val dUI program_here,.val dInt deed,.val dStr name] (fun c=>∃ r,c = .val dUI r∧(ZaQ program_here deed name) = .ok r) (fun x=>∃ px,(ZaQ program_here deed name) = .exc px∧x=px.x A.tx) vs H Q E
theorem sp_l_use_changed_len {C:GCtx} {A:CA3} {vs H Q E} (h:ZcA C A vs H Q E):vs.length=3:=by obtain ⟨_,_,_,_,h⟩:=h;exact h.len
theorem hs_l_use_changed {C:GCtx} {A:CA3}:∀ program_here deed name,(ZaQ program_here deed name).nb→SpX C (ZcA C A) [.val dUI program_here,.val dInt deed,.val dStr name] (fun c=>∃ r,c = .val dUI r∧(ZaQ program_here deed name) = .ok r) (fun x=>∃ px,(ZaQ program_here deed name) = .exc px∧x=px.x A.tx):=fun program_here deed name nb vs H Q E h=>⟨program_here,deed,name,nb,h⟩
def ZdM (n:Nat) (C:GCtx) (A:CA3):Sp:=fun vs H Q E=>∃ draws_here:(List Int),∃ at_:Int,∃ program_here:PyData,∃ name:PySem.Str,(Zbi n draws_here at_ program_here name).nb∧FnX C [.val (dList (d:=dInt)) draws_here,.val dInt at_,.val dUI program_here,.val dStr name] (fun c=>∃ r,c = .val dUI r∧(Zbi n draws_here at_ program_here name) = .ok r) (fun x=>∃ px,(Zbi n draws_here at_ program_here name) = .exc px∧x=px.x A.tx) vs H Q E
theorem ZeC {n:Nat} {C:GCtx} {A:CA3} {vs H Q E} (h:ZdM n C A vs H Q E):vs.length=4:=by obtain ⟨_,_,_,_,_,h⟩:=h;exact h.len
theorem Zdd {n:Nat} {C:GCtx} {A:CA3}:∀ draws_here at_ program_here name,(Zbi n draws_here at_ program_here name).nb→SpX C (ZdM n C A) [.val (dList (d:=dInt)) draws_here,.val dInt at_,.val dUI program_here,.val dStr name] (fun c=>∃ r,c = .val dUI r∧(Zbi n draws_here at_ program_here name) = .ok r) (fun x=>∃ px,(Zbi n draws_here at_ program_here name) = .exc px∧x=px.x A.tx):=fun draws_here at_ program_here name nb vs H Q E h=>⟨draws_here,at_,program_here,name,nb,h⟩
def Zcs (C:GCtx) (A:CA3):Sp:=fun vs H Q E=>∃ draws_here:(List Int),∃ at_:Int,∃ text:PySem.Str,(Zay draws_here at_ text).nb∧FnX C [.val (dList (d:=dInt)) draws_here,.val dInt at_,.val dStr text] (fun c=>∃ r,c = .val dStr r∧(Zay draws_here at_ text) = .ok r) (fun x=>∃ px,(Zay draws_here at_ text) = .exc px∧x=px.x A.tx) vs H Q E
theorem ZeN {C:GCtx} {A:CA3} {vs H Q E} (h:Zcs C A vs H Q E):vs.length=3:=by obtain ⟨_,_,_,_,h⟩:=h;exact h.len
theorem Zen {C:GCtx} {A:CA3}:∀ draws_here at_ text,(Zay draws_here at_ text).nb→SpX C (Zcs C A) [.val (dList (d:=dInt)) draws_here,.val dInt at_,.val dStr text] (fun c=>∃ r,c = .val dStr r∧(Zay draws_here at_ text) = .ok r) (fun x=>∃ px,(Zay draws_here at_ text) = .exc px∧x=px.x A.tx):=fun draws_here at_ text nb vs H Q E h=>⟨draws_here,at_,text,nb,h⟩
def sp_law (C:GCtx):Sp:=fun vs H Q _=>∃ s:Sq Int,law_m s = .ok true∧Fn C [.val (dSq (d:=dInt)) s] (fun c=>c = .val dBool true) vs H Q
theorem sp_law_len {C:GCtx} {vs H Q E} (h:sp_law C vs H Q E):vs.length=1:=by obtain ⟨_,_,h⟩:=h;exact h.len
end K81
end
namespace K81
open PySem L2 G PM
set_option maxHeartbeats 4000000 in
theorem ok_l_cell {P:Program} {w:World} {K:PySem.W.Frag} {mg:Str→Option Value} {base:Heap} (T:Txt K mg):FnOk P w K mg base (L2.CX P w) 1 T.a_l_cell T.f_l_cell ["_law_script","_law_k"] (sp_l_cell ⟨P,w,K⟩ T.A):=by
 have nd:=sc_l_cell.nd
 refine T.F_l_cell.okX sc_l_cell (fun vs H Q E h=>?_) (fun cdv A outer s H vs Q E hr h=>?_)
 ·exact sp_l_cell_len h
 have hu:=hu_of hr
 refine ⟨_,(pss_cons (ps_if (pt_cmpR op_lt (pv 1) (pe_callB (len_K K) (by rfl) T.b_len (by decide +kernel) (pa_cons (pv 0) pa_nil)) (nomark _))
    (pss_one (ps_ret (pe_ix (Zbs K) (pv 0) (pv 1) (fun _ _=>rfl))))
    pss_nil)
   (pss_one (ps_ret pe_int))),?_⟩
 try dsimp only [cxOf]
 obtain ⟨script,k,nb,h⟩:=h
 refine Zm.body (js:=[0,1]) (m:=Zcm script k) nb h ?_
 refine ZcE (Γ2:=[(.val (dSq (d:=dInt)) script),(.val dInt k)]) rfl ?_
 delta Zcm
 refine ZaC (Zap (Zaf (we_lt (re_w (Zaa rfl)) (re_w (we_lenQ (re_w (Zaa rfl)))))) rfl) ?_ ?_
 ·exact Zav (Zae (ZaI (Zaa rfl) (re_w (Zaa rfl))) rfl)
 ·refine Zag ?_
  refine Zai ?_
  exact Zav (Zae Zac rfl)
end K81
namespace K81
open PySem L2 G PM
set_option maxHeartbeats 4000000 in
theorem ok_l_draws {P:Program} {w:World} {K:PySem.W.Frag} {mg:Str→Option Value} {base:Heap} (T:Txt K mg):FnOk P w K mg base (L2.CX P w) 1 T.a_l_draws T.f_l_draws ["_law_cell_here","_law_many"] (sp_l_draws ⟨P,w,K⟩ T.A):=by
 have nd:=sc_l_draws.nd
 refine T.F_l_draws.okX sc_l_draws (fun vs H Q E h=>?_) (fun cdv A outer s H vs Q E hr h=>?_)
 ·exact sp_l_draws_len h
 have hu:=hu_of hr
 refine ⟨_,(pss_cons (ps_set (i:=2) nd rfl (Or.inl rfl) (pe_callB call_abs (by rfl) T.b_abs (by decide +kernel) (pa_cons (pe_callTy call_int1 (by rfl) T.b_int (by decide +kernel) (pa_cons (pv 0) pa_nil)) pa_nil)))
   (pss_cons (ps_set (i:=3) nd rfl (Or.inl rfl) (pe_cmpR op_ge (pv 2) (pe_op op_pow pe_int pe_int) (nomark _)))
   (pss_cons (ps_set (i:=4) nd rfl (Or.inl rfl) (pe_op op_add (pe_op op_mod (pe_callTy call_int1 (by rfl) T.b_int (by decide +kernel) (pa_cons (pv 2) pa_nil)) pe_int) pe_int))
   (pss_cons (ps_set (i:=5) nd rfl (Or.inl rfl) (pe_lst pa_nil))
   (pss_cons (ps_for (passes_of rfl) rfl (pi_range1 (by rfl) T.b_range (pa_cons (pv 1) pa_nil)) (pg_name (i:=6) nd rfl (Or.inl rfl))
    (pss_cons (ps_set (i:=4) nd rfl (Or.inl rfl) (pe_op op_mod (pe_callTy call_int1 (by rfl) T.b_int (by decide +kernel) (pa_cons (pe_op op_add (pe_op op_add (pe_op op_mul (pv 4) pe_int) (pe_op op_mul pe_int (pv 6))) pe_int) pa_nil)) pe_int))
   (pss_one (ps_if (PW.pt (pw_and (pt_val (pv 3)) (pw_and1 (pt_cmpR op_gt (pv 2) pe_int (nomark _)))))
    (pss_cons (ps_expr (bm_K K PySem.F.plainAttrs_list PySem.F.slot_list_append PySem.F.type_list_append mt_append (pv 5) (pa_cons (pe_op op_mod (pe_callTy call_int1 (by rfl) T.b_int (by decide +kernel) (pa_cons (pv 2) pa_nil)) pe_int) pa_nil)))
   (pss_one (ps_set (i:=2) nd rfl (Or.inl rfl) (pe_op op_fdiv (pv 2) pe_int))))
    (pss_one (ps_expr (bm_K K PySem.F.plainAttrs_list PySem.F.slot_list_append PySem.F.type_list_append mt_append (pv 5) (pa_cons (pe_op op_mod (pe_op op_fdiv (pv 4) pe_int) pe_int) pa_nil))))))))
   (pss_one (ps_ret (pv 5)))))))),?_⟩
 try dsimp only [cxOf]
 obtain ⟨cell_here,many,nb,h⟩:=h
 refine Zm.body (js:=[0,1,2,3,4,5,6]) (m:=ZbH cell_here many) nb h ?_
 refine ZcE (Γ2:=[(.val dInt cell_here),(.val dInt many),.no,.no,.no,.no,.no]) rfl ?_
 delta ZbH
 refine Zau (i:=2) rfl (by decide) (Zae (we_abs (re_w (we_int1 (re_w (Zaa rfl))))) rfl) fun rest_1=>?_
 refine Zau (i:=3) rfl (by decide) (Zae (we_ge (re_w (Zaa rfl)) (re_w (we_powC (c:=1000000000000000000) (re_w Zac) (re_w Zac) (by decide)))) rfl) fun exact_2=>?_
 refine Zau (i:=4) rfl (by decide) (Zae (ZaZ (re_w (we_modC (re_w (we_int1 (re_w (Zaa rfl)))) (re_w Zac))) (re_w Zac)) rfl) fun mixed_3=>?_
 refine ZcF (i:=5) rfl (by decide) (ZdZ (ZdC (d:=dInt)) rfl) fun draws_here_4=>?_
 refine zm_for [6] (fun s5=>[(.val dInt cell_here),(.val dInt many),(.val dInt s5.1),(.val dBool exact_2),(.val dInt s5.2.1),(.own (dList (d:=dInt)) (oList (d:=dInt)) none s5.2.2),.no]) (rest_1,mixed_3,draws_here_4) (wlen 7 (by exact rfl) (by exact rfl) (by decide)) rfl (fun _=>(wlen 7 (by exact rfl) (by exact rfl) (by decide))) (ie_eq (ZdS (re_w (Zaa rfl))) rfl) (fun s5 x6=>(ZaT rfl ⟨(wlen 7 (by exact rfl) (by exact rfl) (by decide)),?_⟩)) fun s11=>?_
 ·refine Zau (i:=4) rfl (by decide) (Zae (we_modC (re_w (we_int1 (re_w (ZaZ (re_w (ZaZ (re_w (we_mulCr (re_w (Zaa rfl)) (re_w Zac))) (re_w (ZdH (re_w Zac) (re_w (Zaa rfl)))))) (re_w Zac))))) (re_w Zac)) rfl) fun mixed_7=>?_
  refine Zai ?_
  refine ZaC (Zap (te_andP (te_B (Zaa rfl)) (Zaf (we_gt (re_w (Zaa rfl)) (re_w Zac)))) rfl) ?_ ?_
  ·refine Zaq ?_
   refine Zbf (i:=5) rfl (by decide) (Zae (we_modC (re_w (we_int1 (re_w (Zaa rfl)))) (re_w Zac)) rfl) fun draws_here_8=>?_
   refine Zau (i:=2) rfl (by decide) (Zae (we_fdivC (re_w (Zaa rfl)) (re_w Zac)) rfl) fun rest_9=>?_
   exact ZbP rfl
  ·refine Zbf (i:=5) rfl (by decide) (Zae (we_modC (re_w (we_fdivC (re_w (Zaa rfl)) (re_w Zac))) (re_w Zac)) rfl) fun draws_here_10=>?_
   exact ZbP rfl
 ·refine Zai ?_
  exact zm_retV rfl
end K81
namespace K81
open PySem L2 G PM
set_option maxHeartbeats 4000000 in
theorem ok_l_pick {P:Program} {w:World} {K:PySem.W.Frag} {mg:Str→Option Value} {base:Heap} (T:Txt K mg):FnOk P w K mg base (L2.CX P w) 1 T.a_l_pick T.f_l_pick ["_law_draws_here","_law_k","_law_many"] (ZcP ⟨P,w,K⟩ T.A):=by
 have nd:=sc_l_pick.nd
 refine T.F_l_pick.okX sc_l_pick (fun vs H Q E h=>?_) (fun cdv A outer s H vs Q E hr h=>?_)
 ·exact sp_l_pick_len h
 have hu:=hu_of hr
 refine ⟨_,(pss_cons (ps_if (PW.pt (pw_or (pt_cmpR op_lt (pv 2) pe_int (nomark _)) (pw_or1 (pt_cmpR op_eq (pe_callB (len_K K) (by rfl) T.b_len (by decide +kernel) (pa_cons (pv 0) pa_nil)) pe_int (nomark _)))))
    (pss_one (ps_ret pe_int))
    pss_nil)
   (pss_one (ps_ret (pe_op op_mod (pe_callTy call_int1 (by rfl) T.b_int (by decide +kernel) (pa_cons (pe_ix (Zdi K) (pv 0) (pe_op op_mod (pe_callTy call_int1 (by rfl) T.b_int (by decide +kernel) (pa_cons (pv 1) pa_nil)) (pe_callB (len_K K) (by rfl) T.b_len (by decide +kernel) (pa_cons (pv 0) pa_nil))) (fun _ _=>rfl)) pa_nil)) (pv 2))))),?_⟩
 try dsimp only [cxOf]
 obtain ⟨draws_here,k,many,nb,h⟩:=h
 refine Zm.body (js:=[0,1,2]) (m:=Zas draws_here k many) nb h ?_
 refine ZcE (Γ2:=[(.val (dList (d:=dInt)) draws_here),(.val dInt k),(.val dInt many)]) rfl ?_
 delta Zas
 refine ZaC (Zap (te_orP (Zaf (we_lt (re_w (Zaa rfl)) (re_w Zac))) (Zaf (ZaS (re_w (ZcU (re_w (Zaa rfl)))) (re_w Zac)))) rfl) ?_ ?_
 ·exact Zav (Zae Zac rfl)
 ·refine Zag ?_
  refine Zai ?_
  exact Zav (Zae (we_mod (re_w (we_int1 (re_w (we_ix (Zaa rfl) (re_w (we_mod (re_w (we_int1 (re_w (Zaa rfl)))) (re_w (ZcU (re_w (Zaa rfl)))))))))) (re_w (Zaa rfl))) rfl)
end K81
namespace K81
open PySem L2 G PM
set_option maxHeartbeats 4000000 in
theorem ok_l_shuffled {P:Program} {w:World} {K:PySem.W.Frag} {mg:Str→Option Value} {base:Heap} (T:Txt K mg) (G_l_pick:FnOk P w K mg base (L2.CX P w) 1 T.a_l_pick T.f_l_pick ["_law_draws_here","_law_k","_law_many"] (ZcP ⟨P,w,K⟩ T.A)):FnOk P w K mg base (L2.CX P w) 2 T.a_l_shuffled T.f_l_shuffled ["_law_draws_here","_law_at","_law_many"] (Zdo ⟨P,w,K⟩ T.A):=by
 have nd:=sc_l_shuffled.nd
 refine T.F_l_shuffled.okX sc_l_shuffled (fun vs H Q E h=>?_) (fun cdv A outer s H vs Q E hr h=>?_)
 ·exact sp_l_shuffled_len h
 have hu:=hu_of hr
 refine ⟨_,(pss_cons (ps_set (i:=3) nd rfl (Or.inl rfl) (pe_listRg rfl (by rfl) T.b_list (prg_1 (by rfl) T.b_range (pv 2))))
   (pss_cons (ps_set (i:=4) nd rfl (Or.inl rfl) (pe_lst pa_nil))
   (pss_cons (ps_for (passes_of rfl) rfl (pi_range1 (by rfl) T.b_range (pa_cons (pv 2) pa_nil)) (pg_name (i:=5) nd rfl (Or.inl rfl))
    (pss_one (ps_expr (bm_K K PySem.F.plainAttrs_list PySem.F.slot_list_append PySem.F.type_list_append mt_append (pv 4) (pa_cons (bm_K K PySem.F.plainAttrs_list PySem.F.slot_list_pop PySem.F.type_list_pop mt_popAt (pv 3) (pa_cons (pe_callS G_l_pick (hr.mono (by decide)) (by rfl) T.g_l_pick T.F_l_pick.kp T.d_l_pick (fun σ=>passAt (takes_of rfl rfl rfl rfl) σ) (pa_cons (pv 0) (pa_cons (pe_op op_add (pv 1) (pv 5)) (pa_cons (pe_callB (len_K K) (by rfl) T.b_len (by decide +kernel) (pa_cons (pv 3) pa_nil)) pa_nil)))) pa_nil)) pa_nil)))))
   (pss_one (ps_ret (pv 4)))))),?_⟩
 try dsimp only [cxOf]
 obtain ⟨draws_here,at_,many,nb,h⟩:=h
 refine Zm.body (js:=[0,1,2,3,4,5]) (m:=Zbn draws_here at_ many) nb h ?_
 refine ZcE (Γ2:=[(.val (dList (d:=dInt)) draws_here),(.val dInt at_),(.val dInt many),.no,.no,.no]) rfl ?_
 delta Zbn
 refine ZcF (i:=3) rfl (by decide) (ZdZ (oe_listRg1 (re_w (Zaa rfl))) rfl) fun pool_1=>?_
 refine ZcF (i:=4) rfl (by decide) (ZdZ (ZdC (d:=dInt)) rfl) fun row_2=>?_
 refine zm_for [5] (fun s3=>[(.val (dList (d:=dInt)) draws_here),(.val dInt at_),(.val dInt many),(.own (dList (d:=dInt)) (oList (d:=dInt)) none s3.1),(.own (dList (d:=dInt)) (oList (d:=dInt)) none s3.2),.no]) (pool_1,row_2) (wlen 6 (by exact rfl) (by exact rfl) (by decide)) rfl (fun _=>(wlen 6 (by exact rfl) (by exact rfl) (by decide))) (ie_eq (ZdS (re_w (Zaa rfl))) rfl) (fun s3 x4=>(ZaT rfl ⟨(wlen 6 (by exact rfl) (by exact rfl) (by decide)),?_⟩)) fun s6=>?_
 ·refine Zai ?_
  refine zm_appendPop (i:=4) (j:=3) rfl rfl rfl (by decide) (by decide) (ZdY (re_w (ZaD ZaX rfl (Zaa rfl) (ZaZ (re_w (Zaa rfl)) (re_w (Zaa rfl))) (ZcU (ZbK rfl)))) rfl) fun p5=>?_
  exact ZbP rfl
 ·refine Zai ?_
  exact zm_retV rfl
end K81
namespace K81
open PySem L2 G PM
set_option maxHeartbeats 4000000 in
theorem ok_l_distinct {P:Program} {w:World} {K:PySem.W.Frag} {mg:Str→Option Value} {base:Heap} (T:Txt K mg) (G_l_shuffled:FnOk P w K mg base (L2.CX P w) 2 T.a_l_shuffled T.f_l_shuffled ["_law_draws_here","_law_at","_law_many"] (Zdo ⟨P,w,K⟩ T.A)) (G_l_pick:FnOk P w K mg base (L2.CX P w) 1 T.a_l_pick T.f_l_pick ["_law_draws_here","_law_k","_law_many"] (ZcP ⟨P,w,K⟩ T.A)):FnOk P w K mg base (L2.CX P w) 3 T.a_l_distinct T.f_l_distinct ["_law_draws_here","_law_extra","_law_many"] (Zdp ⟨P,w,K⟩ T.A):=by
 have nd:=sc_l_distinct.nd
 refine T.F_l_distinct.okX sc_l_distinct (fun vs H Q E h=>?_) (fun cdv A outer s H vs Q E hr h=>?_)
 ·exact sp_l_distinct_len h
 have hu:=hu_of hr
 refine ⟨_,(pss_cons (ps_set (i:=3) nd rfl (Or.inr rfl) (pe_lc (own:=[("_law_k",7)]) (by rfl) nd (pi_lB K (pe_callS G_l_shuffled (hr.mono (by decide)) (by rfl) T.g_l_shuffled T.F_l_shuffled.kp T.d_l_shuffled (fun σ=>passAt (takes_of rfl rfl rfl rfl) σ) (pa_cons (pv 0) (pa_cons pe_int (pa_cons pe_int pa_nil))))) (blkOk_by (own:=[("_law_k",7)]) (N:=Zde) (sc:=defScope Zbw) (by decide +kernel)) (fun _ _ _ _ _=>(pg_name (i:=7) nd rfl (Or.inl rfl))) (fun _ _ _ _ _=>pts_nil) (fun _ _ _ _ _=>(pe_ix ix_str pe_str (pv 7) (fun _ _=>rfl)))))
   (pss_cons (ps_set (i:=4) nd rfl (Or.inr rfl) (join_K K pe_str (pe_lc (own:=[("_law_k",7)]) (by rfl) nd (pi_range1 (by rfl) T.b_range (pa_cons (pe_callS G_l_pick (hr.mono (by decide)) (by rfl) T.g_l_pick T.F_l_pick.kp T.d_l_pick (fun σ=>passAt (takes_of rfl rfl rfl rfl) σ) (pa_cons (pv 1) (pa_cons pe_int (pa_cons pe_int pa_nil)))) pa_nil)) (blkOk_by (own:=[("_law_k",7)]) (N:=Zde) (sc:=defScope Zbw) (by decide +kernel)) (fun _ _ _ _ _=>(pg_name (i:=7) nd rfl (Or.inl rfl))) (fun _ _ _ _ _=>pts_nil) (fun _ _ _ _ _=>(pe_ix ix_str pe_str (pe_callS G_l_pick (hr.mono (by decide)) (by rfl) T.g_l_pick T.F_l_pick.kp T.d_l_pick (fun σ=>Zbt σ) (pa_cons (pv 1) (pa_cons (pe_op op_add pe_int (pv 7)) (pa_cons pe_int pa_nil)))) (fun _ _=>rfl))))))
   (pss_cons (ps_set (i:=5) nd rfl (Or.inr rfl) (pe_callS G_l_pick (hr.mono (by decide)) (by rfl) T.g_l_pick T.F_l_pick.kp T.d_l_pick (fun σ=>passAt (takes_of rfl rfl rfl rfl) σ) (pa_cons (pv 1) (pa_cons pe_int (pa_cons (pe_op op_add (pe_callB call_len_str (by rfl) T.b_len (by decide +kernel) (pa_cons (pv 4) pa_nil)) pe_int) pa_nil)))))
   (pss_cons (ps_setLc (i:=6) (own:=[("_law_sign",8)]) (by rfl) nd rfl rfl (sw_true rfl rfl rfl (by decide +kernel)) (pi_lB K (pe_slice (sl_lK K) (pv 3) po_none (po_some (pv 2)))) (blkOk_by (own:=[("_law_sign",8)]) (N:=Zde) (sc:=defScope Zbw) (by decide +kernel)) (fun _ _ _ _ _=>(pg_name (i:=8) nd rfl (Or.inl rfl))) (fun _ _ _ _ _=>pts_nil) (fun _ _ _ _ _=>(pe_op Zbm (pe_op Zbm (pe_slice sl_str (pv 4) po_none (po_some (pv 5))) (pv 8)) (pe_slice sl_str (pv 4) (po_some (pv 5)) po_none))))
   (pss_cons (ps_if (pt_cmpR op_eq (pe_callS G_l_pick (hr.mono (by decide)) (by rfl) T.g_l_pick T.F_l_pick.kp T.d_l_pick (fun σ=>passAt (takes_of rfl rfl rfl rfl) σ) (pa_cons (pv 1) (pa_cons pe_int (pa_cons pe_int pa_nil)))) pe_int (nomark _))
    (pss_one (ps_setLc (i:=6) (own:=[("_law_k",7)]) (by rfl) nd rfl rfl (sw_true rfl rfl rfl (by decide +kernel)) (pi_range1 (by rfl) T.b_range (pa_cons (pv 2) pa_nil)) (blkOk_by (own:=[("_law_k",7)]) (N:=Zde) (sc:=defScope Zbw) (by decide +kernel)) (fun _ _ _ _ _=>(pg_name (i:=7) nd rfl (Or.inl rfl))) (fun _ _ _ _ _=>pts_nil) (fun _ _ _ _ _=>(pe_op Zbm (pe_ix (Zdi K) (pv 3) (pv 7) (fun _ _=>rfl)) (pe_slice sl_str (pv 4) po_none (po_some (pe_callS G_l_pick (hr.mono (by decide)) (by rfl) T.g_l_pick T.F_l_pick.kp T.d_l_pick (fun σ=>Zbt σ) (pa_cons (pv 1) (pa_cons (pe_op op_add pe_int (pv 7)) (pa_cons (pe_op op_add (pe_callB call_len_str (by rfl) T.b_len (by decide +kernel) (pa_cons (pv 4) pa_nil)) pe_int) pa_nil))))))))))
    pss_nil)
   (pss_one (ps_ret (pv 6)))))))),?_⟩
 try dsimp only [cxOf]
 obtain ⟨draws_here,extra,many,nb,h⟩:=h
 refine Zm.body (js:=[0,1,2,3,4,5,6,7,8]) (m:=Zbe draws_here extra many) nb h ?_
 refine ZcE (Γ2:=[(.val (dList (d:=dInt)) draws_here),(.val (dList (d:=dInt)) extra),(.val dInt many),.no,.no,.no,.no,.no,.no]) rfl ?_
 delta Zbe
 refine Zau (i:=3) rfl (by decide) (Zae (we_o (oe_lc (ZdI (by decide)) (ic_list (we_o (oe_call3 hs_l_shuffled rfl (Zaa rfl) Zac Zac))) fun x1=>(ZaT rfl ⟨te_yes,(ZeI Zad (Zaa rfl))⟩))) rfl) fun signs_2=>?_
 refine Zau (i:=4) rfl (by decide) (Zae (we_join Zad (we_o (oe_lc (ZdI (by decide)) (ic_range (re_w (ZaD ZaX rfl (Zaa rfl) Zac Zac))) fun x4=>(ZaT rfl ⟨te_yes,(ZeI Zad (ZaD ZaX rfl (Zaa rfl) (ZaZ (re_w Zac) (re_w (Zaa rfl))) Zac))⟩)))) rfl) fun word_7=>?_
 refine Zau (i:=5) rfl (by decide) (Zae (ZaD ZaX rfl (Zaa rfl) Zac (ZaZ (re_w (ZbV (re_w (Zaa rfl)))) (re_w Zac))) rfl) fun place_11=>?_
 refine ZcF (i:=6) rfl (by decide) (ZdZ (oe_lc (ZdI (by decide)) (ic_list (we_o (oe_sl (Zaa rfl) Zcb (Zba (re_w (Zaa rfl)))))) fun x12=>(ZaT rfl ⟨te_yes,(Zbl (Zbl (Zdj (Zaa rfl) Zcb (Zba (re_w (Zaa rfl)))) (Zaa rfl)) (Zdj (Zaa rfl) (Zba (re_w (Zaa rfl))) Zcb))⟩)) rfl) fun names_16=>?_
 refine ZcM [] (fun s27=>[(.val (dList (d:=dInt)) draws_here),(.val (dList (d:=dInt)) extra),(.val dInt many),(.val (dList (d:=dStr)) signs_2),(.val dStr word_7),(.val dInt place_11),(.own (dList (d:=dStr)) (oList (d:=dStr)) none s27),.no,.no]) (fun _=>(wlen 9 (by exact rfl) (by exact rfl) (by decide))) ?_ fun s27=>?_
 ·refine Zai (ZbU (Zap (Zaf (ZaS (re_w (ZaD ZaX rfl (Zaa rfl) Zac Zac)) (re_w Zac))) rfl) ?_ ?_)
  ·refine ZcF (i:=6) rfl (by decide) (ZdZ (oe_lc (ZdI (by decide)) (ic_range (re_w (Zaa rfl))) fun x18=>(ZaT rfl ⟨te_yes,(Zbl (we_ix (Zaa rfl) (re_w (Zaa rfl))) (Zdj (Zaa rfl) Zcb (Zba (re_w (ZaD ZaX rfl (Zaa rfl) (ZaZ (re_w Zac) (re_w (Zaa rfl))) (ZaZ (re_w (ZbV (re_w (Zaa rfl)))) (re_w Zac)))))))⟩)) rfl) fun names_26=>?_
   exact ZaN rfl
  ·refine Zag ?_
   exact ZaN rfl
 ·refine Zai ?_
  exact zm_retV rfl
end K81
namespace K81
open PySem L2 G PM
set_option maxHeartbeats 4000000 in
theorem ok_l_program {P:Program} {w:World} {K:PySem.W.Frag} {mg:Str→Option Value} {base:Heap} (T:Txt K mg) (G_l_pick:FnOk P w K mg base (L2.CX P w) 1 T.a_l_pick T.f_l_pick ["_law_draws_here","_law_k","_law_many"] (ZcP ⟨P,w,K⟩ T.A)):FnOk P w K mg base (L2.CX P w) 2 T.a_l_program T.f_l_program ["_law_draws_here","_law_at","_law_names"] (ZdK ⟨P,w,K⟩ T.A):=by
 have nd:=sc_l_program.nd
 refine T.F_l_program.okX sc_l_program (fun vs H Q E h=>?_) (fun cdv A outer s H vs Q E hr h=>?_)
 ·exact sp_l_program_len h
 have hu:=hu_of hr
 refine ⟨_,(pss_cons (ps_setLc (i:=4) (own:=[("_law_name",3)]) (by rfl) nd rfl rfl (sw_true rfl rfl rfl (by decide +kernel)) (pi_lB K (pv 2)) (blkOk_by (own:=[("_law_name",3)]) (N:=N_l_program) (sc:=defScope Zcp) (by decide +kernel)) (fun _ _ _ _ _=>(pg_name (i:=3) nd rfl (Or.inl rfl))) (fun _ _ _ _ _=>pts_nil) (fun _ _ _ _ _=>(pe_lst (pa_cons (pe_tup (pa_cons pe_str (pa_cons (pv 3) pa_nil))) (pa_cons (pe_lst (pa_cons (pv 3) pa_nil)) pa_nil)))))
   (pss_cons (ps_for (passes_of rfl) rfl (pi_range1 (by rfl) T.b_range (pa_cons (pe_op op_mul pe_int (pe_callB (len_K K) (by rfl) T.b_len (by decide +kernel) (pa_cons (pv 2) pa_nil))) pa_nil)) (pg_name (i:=5) nd rfl (Or.inl rfl))
    (pss_cons (ps_set (i:=6) nd rfl (Or.inl rfl) (pe_callS G_l_pick (hr.mono (by decide)) (by rfl) T.g_l_pick T.F_l_pick.kp T.d_l_pick (fun σ=>passAt (takes_of rfl rfl rfl rfl) σ) (pa_cons (pv 0) (pa_cons (pe_op op_add (pe_op op_add (pv 1) (pe_op op_mul pe_int (pv 5))) pe_int) (pa_cons (pe_callB (len_K K) (by rfl) T.b_len (by decide +kernel) (pa_cons (pv 4) pa_nil)) pa_nil)))))
   (pss_cons (ps_asg (pe_ix (Zdi K) (pv 4) (pv 6) (fun _ _=>rfl)) (pg_unlK (n:=2) K (by rfl) (pgs_cons (pg_name (i:=7) nd rfl (Or.inl rfl)) (pgs_cons (pg_name (i:=8) nd rfl (Or.inl rfl)) pgs_nil))))
   (pss_one (ps_if (PW.pt (pw_and (pt_cmpR op_eq (pe_callS G_l_pick (hr.mono (by decide)) (by rfl) T.g_l_pick T.F_l_pick.kp T.d_l_pick (fun σ=>passAt (takes_of rfl rfl rfl rfl) σ) (pa_cons (pv 0) (pa_cons (pe_op op_add (pv 1) (pe_op op_mul pe_int (pv 5))) (pa_cons pe_int pa_nil)))) pe_int (nomark _)) (pw_and1 (pt_cmpR op_gt (pe_callB (len_K K) (by rfl) T.b_len (by decide +kernel) (pa_cons (pv 8) pa_nil)) pe_int (nomark _)))))
    (pss_cons (ps_set (i:=3) nd rfl (Or.inr rfl) (pe_ix (Zdi K) (pv 8) (pe_callS G_l_pick (hr.mono (by decide)) (by rfl) T.g_l_pick T.F_l_pick.kp T.d_l_pick (fun σ=>passAt (takes_of rfl rfl rfl rfl) σ) (pa_cons (pv 0) (pa_cons (pe_op op_add (pe_op op_add (pv 1) (pe_op op_mul pe_int (pv 5))) pe_int) (pa_cons (pe_callB (len_K K) (by rfl) T.b_len (by decide +kernel) (pa_cons (pv 8) pa_nil)) pa_nil)))) (fun _ _=>rfl)))
   (pss_one (ps_asg (pe_lst (pa_cons (pe_tup (pa_cons pe_str (pa_cons (pv 3) (pa_cons (pv 7) pa_nil)))) (pa_cons (pe_lc (own:=[("_law_other",9)]) (by rfl) nd (pi_lB K (pv 8)) (blkOk_by (own:=[("_law_other",9)]) (N:=N_l_program) (sc:=defScope Zcp) (by decide +kernel)) (fun _ _ _ _ _=>(pg_name (i:=9) nd rfl (Or.inl rfl))) (fun _ _ _ _ _=>(pts_one (pt_cmpR op_ne (pv 9) (pv 3) (nomark _)))) (fun _ _ _ _ _=>(pv 9))) pa_nil))) (pg_sub (pv 4) (pv 6) set_list))))
    (pss_one (ps_if (pt_cmpR op_gt (pe_callB (len_K K) (by rfl) T.b_len (by decide +kernel) (pa_cons (pv 4) pa_nil)) pe_int (nomark _))
    (pss_cons (ps_expr (bm_K K PySem.F.plainAttrs_list PySem.F.slot_list_pop PySem.F.type_list_pop mt_popAt (pv 4) (pa_cons (pv 6) pa_nil)))
   (pss_cons (ps_set (i:=6) nd rfl (Or.inl rfl) (pe_callS G_l_pick (hr.mono (by decide)) (by rfl) T.g_l_pick T.F_l_pick.kp T.d_l_pick (fun σ=>passAt (takes_of rfl rfl rfl rfl) σ) (pa_cons (pv 0) (pa_cons (pe_op op_add (pe_op op_add (pv 1) (pe_op op_mul pe_int (pv 5))) pe_int) (pa_cons (pe_callB (len_K K) (by rfl) T.b_len (by decide +kernel) (pa_cons (pv 4) pa_nil)) pa_nil)))))
   (pss_cons (ps_asg (pe_ix (Zdi K) (pv 4) (pv 6) (fun _ _=>rfl)) (pg_unlK (n:=2) K (by rfl) (pgs_cons (pg_name (i:=9) nd rfl (Or.inl rfl)) (pgs_cons (pg_name (i:=10) nd rfl (Or.inl rfl)) pgs_nil))))
   (pss_one (ps_asg (pe_lst (pa_cons (pe_tup (pa_cons pe_str (pa_cons (pv 7) (pa_cons (pv 9) pa_nil)))) (pa_cons (pe_op ZcS (pv 8) (pv 10)) pa_nil))) (pg_sub (pv 4) (pv 6) set_list))))))
    pss_nil)))))))
   (pss_cons (ps_for (passes_of rfl) rfl (pi_range1 (by rfl) T.b_range (pa_cons (pe_callB (len_K K) (by rfl) T.b_len (by decide +kernel) (pa_cons (pv 2) pa_nil)) pa_nil)) (pg_name (i:=5) nd rfl (Or.inl rfl))
    (pss_one (ps_if (pt_cmpR op_gt (pe_callB (len_K K) (by rfl) T.b_len (by decide +kernel) (pa_cons (pv 4) pa_nil)) pe_int (nomark _))
    (pss_cons (ps_asg (bm_K K PySem.F.plainAttrs_list PySem.F.slot_list_pop PySem.F.type_list_pop mt_popAt (pv 4) (pa_cons pe_int pa_nil)) (pg_unlK (n:=2) K (by rfl) (pgs_cons (pg_name (i:=7) nd rfl (Or.inl rfl)) (pgs_cons (pg_name (i:=8) nd rfl (Or.inl rfl)) pgs_nil))))
   (pss_cons (ps_asg (pe_ix (Zdi K) (pv 4) pe_int (fun _ _=>rfl)) (pg_unlK (n:=2) K (by rfl) (pgs_cons (pg_name (i:=9) nd rfl (Or.inl rfl)) (pgs_cons (pg_name (i:=10) nd rfl (Or.inl rfl)) pgs_nil))))
   (pss_one (ps_asg (pe_lst (pa_cons (pe_tup (pa_cons pe_str (pa_cons (pv 9) (pa_cons (pv 7) pa_nil)))) (pa_cons (pe_op ZcS (pv 10) (pv 8)) pa_nil))) (pg_sub (pv 4) pe_int set_list)))))
    pss_nil)))
   (pss_cons (ps_asg (pe_ix (Zdi K) (pv 4) pe_int (fun _ _=>rfl)) (pg_unlK (n:=2) K (by rfl) (pgs_cons (pg_name (i:=7) nd rfl (Or.inl rfl)) (pgs_cons (pg_name (i:=8) nd rfl (Or.inl rfl)) pgs_nil))))
   (pss_cons (ps_for (passes_of rfl) rfl (pi_lK K (pv 8)) (pg_name (i:=3) nd rfl (Or.inr rfl))
    (pss_one (ps_set (i:=7) nd rfl (Or.inl rfl) (pe_tup (pa_cons pe_str (pa_cons (pv 3) (pa_cons (pv 7) pa_nil)))))))
   (pss_one (ps_ret (pv 7)))))))),?_⟩
 try dsimp only [cxOf]
 obtain ⟨draws_here,at_,names,nb,h⟩:=h
 refine Zm.body (js:=[0,1,2,3,4,5,6,7,8,9,10]) (m:=ZbF draws_here at_ names) nb h ?_
 refine ZcE (Γ2:=[(.val (dList (d:=dInt)) draws_here),(.val dInt at_),(.val (dList (d:=dStr)) names),.no,.no,.no,.no,.no,.no,.no,.no]) rfl ?_
 delta ZbF
 refine ZcF (i:=4) rfl (by decide) (ZdZ (oe_lc (ZdI (by decide)) (ic_list (Zaa rfl)) fun x1=>(ZaT rfl ⟨te_yes,(we_o (oe_lp (Zbp (Zaw Zad) (Zaw (Zaa rfl))) (we_o (Zcc (Zaj (Zaa rfl) Zca) (ZaH ZcT) (by decide)))))⟩)) rfl) fun pieces_2=>?_
 refine zm_for [3,5,6,7,8,9,10] (fun s3=>[(.val (dList (d:=dInt)) draws_here),(.val dInt at_),(.val (dList (d:=dStr)) names),.no,(.own (dList (d:=(dLP (d1:=dUI) (d2:=(dList (d:=dStr)))))) (oList (d:=(dLP (d1:=dUI) (d2:=(dList (d:=dStr)))))) none s3),.no,.no,.no,.no,.no,.no]) pieces_2 (wlen 11 (by exact rfl) (by exact rfl) (by decide)) rfl (fun _=>(wlen 11 (by exact rfl) (by exact rfl) (by decide))) (ie_eq (ZdS (re_w (ZdH (re_w Zac) (re_w (ZcU (re_w (Zaa rfl))))))) rfl) (fun s3 x4=>(ZaT rfl ⟨(wlen 11 (by exact rfl) (by exact rfl) (by decide)),?_⟩)) fun s20=>?_
 ·refine Zau (i:=6) rfl (by decide) (Zae (ZaD ZaX rfl (Zaa rfl) (ZaZ (re_w (ZaZ (re_w (Zaa rfl)) (re_w (ZdH (re_w Zac) (re_w (Zaa rfl)))))) (re_w Zac)) (ZcU (ZbK rfl))) rfl) fun place_5=>?_
  refine Zeq (Zae (ZeJ rfl (re_w (Zaa rfl))) rfl) fun t6=>(a_lp rfl (ZaT rfl (ZaT rfl ⟨(wlen 11 (by exact rfl) (by exact rfl) (by decide)),?_⟩)))
  refine Zai ?_
  refine ZbU (Zap (ZeL (Zaf (ZaS (re_w (ZaD ZaX rfl (Zaa rfl) (ZaZ (re_w (Zaa rfl)) (re_w (ZdH (re_w Zac) (re_w (Zaa rfl))))) Zac)) (re_w Zac))) (Zaf (we_gt (re_w (ZcU (re_w (Zaa rfl)))) (re_w Zac)))) rfl) ?_ ?_
  ·refine Zaq ?_
   refine Zau (i:=3) rfl (by decide) (Zae (we_ix (Zaa rfl) (re_w (ZaD ZaX rfl (Zaa rfl) (ZaZ (re_w (ZaZ (re_w (Zaa rfl)) (re_w (ZdH (re_w Zac) (re_w (Zaa rfl)))))) (re_w Zac)) (ZcU (re_w (Zaa rfl)))))) rfl) fun name_10=>?_
   refine zm_setIx (i:=4) rfl (by decide) (Zae (we_o (oe_lp (ZaA (Zaw Zad) (Zaw (Zaa rfl)) (Zaa rfl)) (we_o (oe_lc (ZdI (by decide)) (ic_list (Zaa rfl)) fun x11=>(ZaT rfl ⟨(Zaf (we_neS (re_w (Zaa rfl)) (re_w (Zaa rfl)))),(Zaa rfl)⟩))))) rfl) (ZdY (re_w (Zaa rfl)) rfl) fun pieces_13=>?_
   exact ZbP rfl
  ·refine ZaC (Zap (Zaf (we_gt (re_w (ZcU (ZbK rfl))) (re_w Zac))) rfl) ?_ ?_
   ·refine Zaq ?_
    refine zm_popDrop (i:=4) rfl (by decide) (ZdY (re_w (Zaa rfl)) rfl) fun p14=>?_
    refine Zaq ?_
    refine Zau (i:=6) rfl (by decide) (Zae (ZaD ZaX rfl (Zaa rfl) (ZaZ (re_w (ZaZ (re_w (Zaa rfl)) (re_w (ZdH (re_w Zac) (re_w (Zaa rfl)))))) (re_w Zac)) (ZcU (ZbK rfl))) rfl) fun place_15=>?_
    refine Zaq ?_
    refine Zeq (Zae (ZeJ rfl (re_w (Zaa rfl))) rfl) fun t16=>(a_lp rfl (ZaT rfl (ZaT rfl ⟨(wlen 11 (by exact rfl) (by exact rfl) (by decide)),?_⟩)))
    refine zm_setIx (i:=4) rfl (by decide) (Zae (we_o (oe_lp (ZaA (Zaw Zad) (Zaa rfl) (Zaa rfl)) (we_o (ZdR (Zaa rfl) (Zaa rfl))))) rfl) (ZdY (re_w (Zaa rfl)) rfl) fun pieces_18=>?_
    exact ZbP rfl
   ·refine Zag ?_
    exact ZbP rfl
 ·refine zm_for [5,7,8,9,10] (fun s21=>[(.val (dList (d:=dInt)) draws_here),(.val dInt at_),(.val (dList (d:=dStr)) names),.no,(.own (dList (d:=(dLP (d1:=dUI) (d2:=(dList (d:=dStr)))))) (oList (d:=(dLP (d1:=dUI) (d2:=(dList (d:=dStr)))))) none s21),.no,.no,.no,.no,.no,.no]) s20 (wlen 11 (by exact rfl) (by exact rfl) (by decide)) rfl (fun _=>(wlen 11 (by exact rfl) (by exact rfl) (by decide))) (ie_eq (ZdS (re_w (ZcU (re_w (Zaa rfl))))) rfl) (fun s21 x22=>(ZaT rfl ⟨(wlen 11 (by exact rfl) (by exact rfl) (by decide)),?_⟩)) fun s27=>?_
  ·refine Zai ?_
   refine ZaC (Zap (Zaf (we_gt (re_w (ZcU (ZbK rfl))) (re_w Zac))) rfl) ?_ ?_
   ·refine Zaq ?_
    refine zm_popAtG (i:=4) rfl (by decide) (ZdY (re_w Zac) rfl) fun p23=>(a_lp rfl (ZaT rfl (ZaT rfl ⟨(wlen 11 (by exact rfl) (by exact rfl) (by decide)),?_⟩)))
    refine Zaq ?_
    refine Zeq (Zae (ZeJ rfl (re_w Zac)) rfl) fun t24=>(a_lp rfl (ZaT rfl (ZaT rfl ⟨(wlen 11 (by exact rfl) (by exact rfl) (by decide)),?_⟩)))
    refine zm_setIx (i:=4) rfl (by decide) (Zae (we_o (oe_lp (ZaA (Zaw Zad) (Zaa rfl) (Zaa rfl)) (we_o (ZdR (Zaa rfl) (Zaa rfl))))) rfl) (ZdY (re_w Zac) rfl) fun pieces_26=>?_
    exact ZbP rfl
   ·refine Zag ?_
    exact ZbP rfl
  ·refine Zeq (Zae (ZeJ rfl (re_w Zac)) rfl) fun t28=>(a_lp rfl (ZaT rfl (ZaT rfl ⟨(wlen 11 (by exact rfl) (by exact rfl) (by decide)),?_⟩)))
   refine zm_for [3] (fun s29=>[(.val (dList (d:=dInt)) draws_here),(.val dInt at_),(.val (dList (d:=dStr)) names),.no,(.own (dList (d:=(dLP (d1:=dUI) (d2:=(dList (d:=dStr)))))) (oList (d:=(dLP (d1:=dUI) (d2:=(dList (d:=dStr)))))) none s27),.no,.no,(.val dUI s29),(.val (dList (d:=dStr)) t28.b),.no,.no]) t28.a (wlen 11 (by exact rfl) (by exact rfl) (by decide)) rfl (fun _=>(wlen 11 (by exact rfl) (by exact rfl) (by decide))) (ie_eq (ie_list (Zaa rfl)) rfl) (fun s29 x30=>(ZaT rfl ⟨(wlen 11 (by exact rfl) (by exact rfl) (by decide)),?_⟩)) fun s32=>?_
   ·refine Zai ?_
    refine Zau (i:=7) rfl (by decide) (Zae (ZaA (Zaw Zad) (Zaw (Zaa rfl)) (Zaa rfl)) rfl) fun body_31=>?_
    exact ZbP rfl
   ·refine Zai ?_
    exact Zav (Zae (Zaa rfl) rfl)
end K81
namespace K81
open PySem L2 G PM
set_option maxHeartbeats 4000000 in
theorem ok_l_events {P:Program} {w:World} {K:PySem.W.Frag} {mg:Str→Option Value} {base:Heap} (T:Txt K mg):∀ n:Nat,FnOk P w K mg base (L2.CX P w) (n+1) T.a_l_events T.f_l_events ["_law_program_here"] (Zet n ⟨P,w,K⟩ T.A):=by
 have nd:=sc_l_events.nd
 intro n
 induction n with
 | zero =>
  refine T.F_l_events.okX sc_l_events (fun vs H Q E h=>?_) (fun cdv A outer s H vs Q E hr h=>?_)
  ·exact sp_l_events_len h
  ·obtain ⟨program_here,nb,_⟩:=h;exact absurd rfl nb
 | succ fl G_l_events =>
  refine T.F_l_events.okX sc_l_events (fun vs H Q E h=>?_) (fun cdv A outer s H vs Q E hr h=>?_)
  ·exact sp_l_events_len h
  have hu:=hu_of hr
  refine ⟨_,(pss_cons (ps_if (pt_cmpR op_eq (pe_ix (Zbs K) (pv 0) pe_int (fun _ _=>rfl)) pe_str (nomark _))
    (pss_one (ps_ret (pe_lst (pa_cons (pe_tup (pa_cons pe_str (pa_cons (pe_ix (Zbs K) (pv 0) pe_int (fun _ _=>rfl)) pa_nil))) pa_nil))))
    pss_nil)
   (pss_cons (ps_if (pt_cmpR op_eq (pe_ix (Zbs K) (pv 0) pe_int (fun _ _=>rfl)) pe_str (nomark _))
    (pss_one (ps_ret (pe_op ZcS (pe_op ZcS (pe_lst (pa_cons (pe_tup (pa_cons pe_str (pa_cons (pe_ix (Zbs K) (pv 0) pe_int (fun _ _=>rfl)) pa_nil))) pa_nil)) (pe_callS G_l_events (hr.mono (by omega)) (by rfl) T.g_l_events T.F_l_events.kp T.d_l_events (fun σ=>passAt (takes_of rfl rfl rfl rfl) σ) (pa_cons (pe_ix (Zbs K) (pv 0) pe_int (fun _ _=>rfl)) pa_nil))) (pe_lst (pa_cons (pe_tup (pa_cons pe_str (pa_cons (pe_ix (Zbs K) (pv 0) pe_int (fun _ _=>rfl)) pa_nil))) pa_nil)))))
    pss_nil)
   (pss_one (ps_ret (pe_op ZcS (pe_callS G_l_events (hr.mono (by omega)) (by rfl) T.g_l_events T.F_l_events.kp T.d_l_events (fun σ=>passAt (takes_of rfl rfl rfl rfl) σ) (pa_cons (pe_ix (Zbs K) (pv 0) pe_int (fun _ _=>rfl)) pa_nil)) (pe_callS G_l_events (hr.mono (by omega)) (by rfl) T.g_l_events T.F_l_events.kp T.d_l_events (fun σ=>passAt (takes_of rfl rfl rfl rfl) σ) (pa_cons (pe_ix (Zbs K) (pv 0) pe_int (fun _ _=>rfl)) pa_nil))))))),?_⟩
  try dsimp only [cxOf]
  obtain ⟨program_here,nb,h⟩:=h
  refine Zm.body (js:=[0]) (m:=ZbZ (fl+1) program_here) nb h ?_
  refine ZcE (Γ2:=[(.val dUI program_here)]) rfl ?_
  show Zm _ _ _ _ _ _ (Zbu (ZbZ fl) program_here)
  delta Zbu
  refine ZbU (Zap (Zaf (ZaS (re_w (ZaB (ZaI (ZaG (Zam (Zaa rfl))) (re_w Zac)))) (re_w Zad))) rfl) ?_ ?_
  ·exact zm_retO (ZdZ (Zcc (Zaj (ZbB Zad (ZaB (ZaI (ZaG (Zam (Zaa rfl))) (re_w Zac)))) Zca) (ZaH ZcT) (by decide)) rfl)
  ·refine Zag ?_
   refine ZbU (Zap (Zaf (ZaS (re_w (ZaB (ZaI (ZaG (Zam (Zaa rfl))) (re_w Zac)))) (re_w Zad))) rfl) ?_ ?_
   ·exact zm_retO (ZdZ (ZdR (we_o (ZdR (we_o (Zcc (Zaj (ZbB Zad (ZaB (ZaI (ZaG (Zam (Zaa rfl))) (re_w Zac)))) Zca) (ZaH ZcT) (by decide))) (we_o (oe_call1 Zey rfl (ZaB (d:=dUI) (ZaI (ZaG (Zam (Zaa rfl))) (re_w Zac))))))) (we_o (Zcc (Zaj (ZbB Zad (ZaB (ZaI (ZaG (Zam (Zaa rfl))) (re_w Zac)))) Zca) (ZaH ZcT) (by decide)))) rfl)
   ·refine Zag ?_
    refine Zai ?_
    exact zm_retO (ZdZ (ZdR (we_o (oe_call1 Zey rfl (ZaB (d:=dUI) (ZaI (ZaG (Zam (Zaa rfl))) (re_w Zac))))) (we_o (oe_call1 Zey rfl (ZaB (d:=dUI) (ZaI (ZaG (Zam (Zaa rfl))) (re_w Zac)))))) rfl)
end K81
namespace K81
open PySem L2 G PM
set_option maxHeartbeats 4000000 in
theorem ok_l_is_name {P:Program} {w:World} {K:PySem.W.Frag} {mg:Str→Option Value} {base:Heap} (T:Txt K mg):FnOk P w K mg base (L2.CX P w) 1 T.a_l_is_name T.f_l_is_name ["_law_name"] (ZdL ⟨P,w,K⟩ T.A):=by
 have nd:=sc_l_is_name.nd
 refine T.F_l_is_name.okX sc_l_is_name (fun vs H Q E h=>?_) (fun cdv A outer s H vs Q E hr h=>?_)
 ·exact sp_l_is_name_len h
 have hu:=hu_of hr
 refine ⟨_,(pss_cons (ps_for (passes_of rfl) rfl (pi_str (pv 0)) (pg_name (i:=1) nd rfl (Or.inl rfl))
    (pss_one (ps_if (pt_cmpR op_niSg (pv 1) pe_str (by with_unfolding_all rfl))
    (pss_one (ps_ret pe_bl))
    pss_nil)))
   (pss_one (ps_ret (pe_and (pe_cmpR op_gt (pe_callB call_len_str (by rfl) T.b_len (by decide +kernel) (pa_cons (pv 0) pa_nil)) pe_int (nomark _)) (pe_one (pe_cmpR op_lt (pe_callB call_len_str (by rfl) T.b_len (by decide +kernel) (pa_cons (pv 0) pa_nil)) pe_int (nomark _))))))),?_⟩
 try dsimp only [cxOf]
 obtain ⟨name,nb,h⟩:=h
 refine Zm.body (js:=[0,1]) (m:=Zbr name) nb h ?_
 refine ZcE (Γ2:=[(.val dStr name),.no]) rfl ?_
 delta Zbr
 refine zm_forC [1] (fun (_:Unit)=>[(.val dStr name),.no]) (fun r=>.val dBool r) () (wlen 2 (by exact rfl) (by exact rfl) (by decide)) rfl (fun _=>(wlen 2 (by exact rfl) (by exact rfl) (by decide))) (ie_eq (ie_str (Zaa rfl)) rfl) (fun _ x2=>(ZaT rfl ⟨(wlen 2 (by exact rfl) (by exact rfl) (by decide)),?_⟩)) rt_KF fun _=>?_
 ·refine Zai ?_
  refine ZbU (Zap (Zaf (we_niSg (Zaa rfl) Zad)) rfl) ?_ ?_
  ·exact Zci (Zae Zee rfl)
  ·refine Zag ?_
   exact ZbJ rfl
 ·refine Zai ?_
  exact Zav (Zae (we_and (we_gt (re_w (ZbV (re_w (Zaa rfl)))) (re_w Zac)) (we_lt (re_w (ZbV (re_w (Zaa rfl)))) (re_w Zac))) rfl)
end K81
namespace K81
open PySem L2 G PM
set_option maxHeartbeats 4000000 in
theorem ok_l_fault {P:Program} {w:World} {K:PySem.W.Frag} {mg:Str→Option Value} {base:Heap} (T:Txt K mg) (G_l_events:∀ n:Nat,FnOk P w K mg base (L2.CX P w) (n+1) T.a_l_events T.f_l_events ["_law_program_here"] (Zet n ⟨P,w,K⟩ T.A)) (G_l_is_name:FnOk P w K mg base (L2.CX P w) 1 T.a_l_is_name T.f_l_is_name ["_law_name"] (ZdL ⟨P,w,K⟩ T.A)):FnOk P w K mg base (L2.CX P w) 102 T.a_l_fault T.f_l_fault ["_law_program_here"] (Zdu ⟨P,w,K⟩ T.A):=by
 have nd:=sc_l_fault.nd
 refine T.F_l_fault.okX sc_l_fault (fun vs H Q E h=>?_) (fun cdv A outer s H vs Q E hr h=>?_)
 ·exact sp_l_fault_len h
 have hu:=hu_of hr
 refine ⟨_,(pss_cons (ps_set (i:=1) nd rfl (Or.inl rfl) (pe_callS (G_l_events 100) (hr.mono (by decide)) (by rfl) T.g_l_events T.F_l_events.kp T.d_l_events (fun σ=>passAt (takes_of rfl rfl rfl rfl) σ) (pa_cons (pv 0) pa_nil)))
   (pss_cons (ps_if (pt_cmpR op_gt (pe_callB (len_K K) (by rfl) T.b_len (by decide +kernel) (pa_cons (pe_lc (own:=[("_law_row",7)]) (by rfl) nd (pi_lB K (pv 1)) (blkOk_by (own:=[("_law_row",7)]) (N:=N_l_fault) (sc:=defScope Zdz) (by decide +kernel)) (fun _ _ _ _ _=>(pg_name (i:=7) nd rfl (Or.inl rfl))) (fun _ _ _ _ _=>(pts_one (pt_cmpR op_eq (pe_ix (ix_tK K) (pv 7) pe_int (fun _ _=>rfl)) pe_str (nomark _)))) (fun _ _ _ _ _=>(pv 7))) pa_nil)) pe_int (nomark _))
    (pss_one (ps_ret (pe_tup (pa_cons pe_str (pa_cons pe_int pa_nil)))))
    pss_nil)
   (pss_cons (ps_set (i:=2) nd rfl (Or.inl rfl) (pe_lst pa_nil))
   (pss_cons (ps_set (i:=3) nd rfl (Or.inl rfl) (pe_lst pa_nil))
   (pss_cons (ps_set (i:=4) nd rfl (Or.inl rfl) (pe_lst pa_nil))
   (pss_cons (ps_for (passes_of rfl) rfl (pi_lK K (pv 1)) (pg_tupK (n:=2) K (by rfl) (pgs_cons (pg_name (i:=5) nd rfl (Or.inl rfl)) (pgs_cons (pg_name (i:=6) nd rfl (Or.inl rfl)) pgs_nil)))
    (pss_cons (ps_if (pt_not (pt_val (pe_callS G_l_is_name (hr.mono (by decide)) (by rfl) T.g_l_is_name T.F_l_is_name.kp T.d_l_is_name (fun σ=>passAt (takes_of rfl rfl rfl rfl) σ) (pa_cons (pv 6) pa_nil))))
    (pss_one (ps_ret (pe_tup (pa_cons pe_str (pa_cons (pv 6) pa_nil)))))
    pss_nil)
   (pss_cons (ps_if (pt_cmpR op_eq (pv 5) pe_str (nomark _))
    (pss_cons (ps_if (pt_cmpR (op_inK K) (pv 6) (pv 2) (by with_unfolding_all rfl))
    (pss_one (ps_ret (pe_tup (pa_cons pe_str (pa_cons (pv 6) pa_nil)))))
    pss_nil)
   (pss_cons (ps_expr (bm_K K PySem.F.plainAttrs_list PySem.F.slot_list_append PySem.F.type_list_append mt_append (pv 2) (pa_cons (pv 6) pa_nil)))
   (pss_one (ps_expr (bm_K K PySem.F.plainAttrs_list PySem.F.slot_list_append PySem.F.type_list_append mt_append (pv 3) (pa_cons (pv 6) pa_nil))))))
    pss_nil)
   (pss_cons (ps_if (pt_cmpR op_eq (pv 5) pe_str (nomark _))
    (pss_cons (ps_if (pt_cmpR (op_niK K) (pv 6) (pv 3) (by with_unfolding_all rfl))
    (pss_one (ps_ret (pe_tup (pa_cons pe_str (pa_cons (pv 6) pa_nil)))))
    pss_nil)
   (pss_cons (ps_if (pt_cmpR (op_inK K) (pv 6) (pv 4) (by with_unfolding_all rfl))
    (pss_one (ps_ret (pe_tup (pa_cons pe_str (pa_cons (pv 6) pa_nil)))))
    pss_nil)
   (pss_one (ps_expr (bm_K K PySem.F.plainAttrs_list PySem.F.slot_list_append PySem.F.type_list_append mt_append (pv 4) (pa_cons (pv 6) pa_nil))))))
    pss_nil)
   (pss_one (ps_if (pt_cmpR op_eq (pv 5) pe_str (nomark _))
    (pss_cons (ps_expr (bm0_K K PySem.F.plainAttrs_list PySem.F.slot_list_pop PySem.F.type_list_pop mt_pop (pv 3)))
   (pss_one (ps_if (pt_cmpR (op_niK K) (pv 6) (pv 4) (by with_unfolding_all rfl))
    (pss_one (ps_ret (pe_tup (pa_cons pe_str (pa_cons (pv 6) pa_nil)))))
    pss_nil)))
    pss_nil))))))
   (pss_one (ps_ret pe_non)))))))),?_⟩
 try dsimp only [cxOf]
 obtain ⟨program_here,nb,h⟩:=h
 refine Zm.body (js:=[0,1,2,3,4,5,6,7]) (m:=ZbG program_here) nb h ?_
 refine ZcE (Γ2:=[(.val dUI program_here),.no,.no,.no,.no,.no,.no,.no]) rfl ?_
 delta ZbG
 refine Zau (i:=1) rfl (by decide) (Zae (we_o (oe_call1 Zey rfl (Zaa rfl))) rfl) fun events_here_1=>?_
 refine ZbU (Zap (Zaf (we_gt (re_w (ZcU (re_w (we_o (oe_lc (ZdI (by decide)) (ic_list (Zaa rfl)) fun x2=>(ZaT rfl ⟨(Zaf (ZaS (re_w (we_fst (Zaa rfl))) (re_w Zad))),(Zaa rfl)⟩)))))) (re_w Zac))) rfl) ?_ ?_
 ·exact Zav (Zae (we_U (ZbB Zad Zac)) rfl)
 ·refine Zag ?_
  refine ZcF (i:=2) rfl (by decide) (ZdZ (ZdC (d:=dStr)) rfl) fun bound_5=>?_
  refine ZcF (i:=3) rfl (by decide) (ZdZ (ZdC (d:=dStr)) rfl) fun around_6=>?_
  refine ZcF (i:=4) rfl (by decide) (ZdZ (ZdC (d:=dStr)) rfl) fun used_7=>?_
  refine zm_forC [5,6] (fun s8=>[(.val dUI program_here),(.val (dList (d:=(dPair (d1:=dStr) (d2:=dStr)))) events_here_1),(.own (dList (d:=dStr)) (oList (d:=dStr)) none s8.1),(.own (dList (d:=dStr)) (oList (d:=dStr)) none s8.2.1),(.own (dList (d:=dStr)) (oList (d:=dStr)) none s8.2.2),.no,.no,.no]) (fun r=>.val dU r) (bound_5,around_6,used_7) (wlen 8 (by exact rfl) (by exact rfl) (by decide)) rfl (fun _=>(wlen 8 (by exact rfl) (by exact rfl) (by decide))) (ie_eq (ie_list (Zaa rfl)) rfl) (fun s8 x9=>(a_pair rfl (ZaT rfl (ZaT rfl ⟨(wlen 8 (by exact rfl) (by exact rfl) (by decide)),?_⟩)))) rt_KF fun s20=>?_
  ·refine ZbU (Zap (Zdk (te_B (ZaF hs_l_is_name rfl (Zaa rfl)))) rfl) ?_ ?_
   ·exact Zci (Zae (we_U (ZbB Zad (Zaa rfl))) rfl)
   ·refine Zag ?_
    refine ZaC (Zap (Zaf (ZaS (re_w (Zaa rfl)) (re_w Zad))) rfl) ?_ ?_
    ·refine Zaq ?_
     refine ZaC (Zap (Zaf (we_in (re_w (Zaa rfl)) (ZbK rfl))) rfl) ?_ ?_
     ·exact Zci (Zae (we_U (ZbB Zad (Zaa rfl))) rfl)
     ·refine Zag ?_
      refine Zaq ?_
      refine Zbf (i:=2) rfl (by decide) (Zae (Zaa rfl) rfl) fun bound_11=>?_
      refine Zbf (i:=3) rfl (by decide) (Zae (Zaa rfl) rfl) fun around_12=>?_
      refine ZaC (Zap (Zaf (ZaS (re_w (Zaa rfl)) (re_w Zad))) rfl) ?_ ?_
      ·refine Zaq ?_
       refine ZaC (Zap (Zaf (ZdG (re_w (Zaa rfl)) (ZbK rfl))) rfl) ?_ ?_
       ·exact Zci (Zae (we_U (ZbB Zad (Zaa rfl))) rfl)
       ·refine Zag ?_
        refine Zaq ?_
        refine ZaC (Zap (Zaf (we_in (re_w (Zaa rfl)) (ZbK rfl))) rfl) ?_ ?_
        ·exact Zci (Zae (we_U (ZbB Zad (Zaa rfl))) rfl)
        ·refine Zag ?_
         refine Zbf (i:=4) rfl (by decide) (Zae (Zaa rfl) rfl) fun used_13=>?_
         refine Zai ?_
         refine ZaC (Zap (Zaf (ZaS (re_w (Zaa rfl)) (re_w Zad))) rfl) ?_ ?_
         ·refine Zaq ?_
          refine Zdy (i:=3) rfl (by decide) fun p14=>?_
          refine ZaC (Zap (Zaf (ZdG (re_w (Zaa rfl)) (ZbK rfl))) rfl) ?_ ?_
          ·exact Zci (Zae (we_U (ZbB Zad (Zaa rfl))) rfl)
          ·refine Zag ?_
           exact ZbJ rfl
         ·refine Zag ?_
          exact ZbJ rfl
      ·refine Zag ?_
       refine Zai ?_
       refine ZaC (Zap (Zaf (ZaS (re_w (Zaa rfl)) (re_w Zad))) rfl) ?_ ?_
       ·refine Zaq ?_
        refine Zdy (i:=3) rfl (by decide) fun p15=>?_
        refine ZaC (Zap (Zaf (ZdG (re_w (Zaa rfl)) (ZbK rfl))) rfl) ?_ ?_
        ·exact Zci (Zae (we_U (ZbB Zad (Zaa rfl))) rfl)
        ·refine Zag ?_
         exact ZbJ rfl
       ·refine Zag ?_
        exact ZbJ rfl
    ·refine Zag ?_
     refine ZaC (Zap (Zaf (ZaS (re_w (Zaa rfl)) (re_w Zad))) rfl) ?_ ?_
     ·refine Zaq ?_
      refine ZaC (Zap (Zaf (ZdG (re_w (Zaa rfl)) (ZbK rfl))) rfl) ?_ ?_
      ·exact Zci (Zae (we_U (ZbB Zad (Zaa rfl))) rfl)
      ·refine Zag ?_
       refine Zaq ?_
       refine ZaC (Zap (Zaf (we_in (re_w (Zaa rfl)) (ZbK rfl))) rfl) ?_ ?_
       ·exact Zci (Zae (we_U (ZbB Zad (Zaa rfl))) rfl)
       ·refine Zag ?_
        refine Zbf (i:=4) rfl (by decide) (Zae (Zaa rfl) rfl) fun used_16=>?_
        refine Zai ?_
        refine ZaC (Zap (Zaf (ZaS (re_w (Zaa rfl)) (re_w Zad))) rfl) ?_ ?_
        ·refine Zaq ?_
         refine Zdy (i:=3) rfl (by decide) fun p17=>?_
         refine ZaC (Zap (Zaf (ZdG (re_w (Zaa rfl)) (ZbK rfl))) rfl) ?_ ?_
         ·exact Zci (Zae (we_U (ZbB Zad (Zaa rfl))) rfl)
         ·refine Zag ?_
          exact ZbJ rfl
        ·refine Zag ?_
         exact ZbJ rfl
     ·refine Zag ?_
      refine Zai ?_
      refine ZaC (Zap (Zaf (ZaS (re_w (Zaa rfl)) (re_w Zad))) rfl) ?_ ?_
      ·refine Zaq ?_
       refine Zdy (i:=3) rfl (by decide) fun p18=>?_
       refine ZaC (Zap (Zaf (ZdG (re_w (Zaa rfl)) (ZbK rfl))) rfl) ?_ ?_
       ·exact Zci (Zae (we_U (ZbB Zad (Zaa rfl))) rfl)
       ·refine Zag ?_
        exact ZbJ rfl
      ·refine Zag ?_
       exact ZbJ rfl
  ·refine Zai ?_
   exact Zav (Zae (we_U we_non) rfl)
end K81
namespace K81
open PySem L2 G PM
set_option maxHeartbeats 4000000 in
theorem ok_p_name_end {P:Program} {w:World} {K:PySem.W.Frag} {mg:Str→Option Value} {base:Heap} (T:Txt K mg) (G_x_BadSign:FnOk P w K mg base (L2.CX P w) 1 T.i_BadSign T.fx_BadSign ["self","sign"] (spX1 (T.A.tx .BadSign) "sign")):FnOk P w K mg base (L2.CX P w) 3 T.a_p_name_end T.f_p_name_end ["text","at"] (Zdn ⟨P,w,K⟩ T.A):=by
 have nd:=sc_p_name_end.nd
 refine T.F_p_name_end.okX sc_p_name_end (fun vs H Q E h=>?_) (fun cdv A outer s H vs Q E hr h=>?_)
 ·exact sp_p_name_end_len h
 have hu:=hu_of hr
 refine ⟨_,(pss_cons (ps_set (i:=2) nd rfl (Or.inl rfl) (pv 1))
   (pss_cons (ps_while (passes_of rfl) (PW.pt (pw_and (pt_cmpR op_lt (pv 2) (pe_callB call_len_str (by rfl) T.b_len (by decide +kernel) (pa_cons (pv 0) pa_nil)) (nomark _)) (pw_and1 (pt_cmpR op_inSg (pe_ix ix_str (pv 0) (pv 2) (fun _ _=>rfl)) (pe_glob (v:=.str "abcdefghijklmnopqrstuvwxyz") (by rfl) T.g_ALPHABET T.ku_ALPHABET) (by with_unfolding_all rfl)))))
    (pss_one (ps_aug (i:=2) nd rfl (Or.inl rfl) pe_int ip_add)))
   (pss_cons (ps_if (pt_cmpR op_eq (pv 2) (pv 1) (nomark _))
    (pss_one (ps_raise rfl (takes_of rfl rfl rfl rfl) (pmk_oex T.x_BadSign.T T.x_BadSign.init T.x_BadSign.fn G_x_BadSign (hr.mono (by decide)) T.dx_BadSign .nil passF (by rfl) T.g_BadSign (pa_cons (pv 1) pa_nil))))
    pss_nil)
   (pss_one (ps_ret (pv 2)))))),?_⟩
 try dsimp only [cxOf]
 obtain ⟨text,at_,nb,h⟩:=h
 refine Zm.body (js:=[0,1,2]) (m:=Zbd text at_) nb h ?_
 refine ZcE (Γ2:=[(.val dStr text),(.val dInt at_),.no]) rfl ?_
 delta Zbd
 refine Zau (i:=2) rfl (by decide) (Zae (Zaa rfl) rfl) fun end__1=>?_
 refine zm_while [] (fun s2=>[(.val dStr text),(.val dInt at_),(.val dInt s2)]) end__1 rfl (fun _=>rfl) (fun s2=>Zap (ZeL (Zaf (we_lt (re_w (Zaa rfl)) (re_w (ZbV (re_w (Zaa rfl)))))) (Zaf (we_inSg (ZeI (Zaa rfl) (Zaa rfl)) Zad))) rfl) (fun s2=>?_) fun s7=>?_
 ·refine Zai ?_
  refine zm_aug (i:=2) rfl (by decide) (ZdY (re_w Zac) rfl) fun end__6=>?_
  exact ZbP rfl
 ·refine ZaC (Zap (Zaf (ZaS (re_w (Zaa rfl)) (re_w (Zaa rfl)))) rfl) ?_ ?_
  ·exact zm_raise1 rfl rfl (ZdY (re_w (Zaa rfl)) rfl)
  ·refine Zag ?_
   refine Zai ?_
   exact Zav (Zae (Zaa rfl) rfl)
end K81
namespace K81
open PySem L2 G PM
set_option maxHeartbeats 4000000 in
theorem ok_p_expect {P:Program} {w:World} {K:PySem.W.Frag} {mg:Str→Option Value} {base:Heap} (T:Txt K mg) (G_x_BadSign:FnOk P w K mg base (L2.CX P w) 1 T.i_BadSign T.fx_BadSign ["self","sign"] (spX1 (T.A.tx .BadSign) "sign")):FnOk P w K mg base (L2.CX P w) 3 T.a_p_expect T.f_p_expect ["text","at","char"] (Zes ⟨P,w,K⟩ T.A):=by
 have nd:=sc_p_expect.nd
 refine T.F_p_expect.okX sc_p_expect (fun vs H Q E h=>?_) (fun cdv A outer s H vs Q E hr h=>?_)
 ·exact sp_p_expect_len h
 have hu:=hu_of hr
 refine ⟨_,(pss_cons (ps_if (PW.pt (pw_or (pt_cmpR op_ge (pv 1) (pe_callB call_len_str (by rfl) T.b_len (by decide +kernel) (pa_cons (pv 0) pa_nil)) (nomark _)) (pw_or1 (pt_cmpR op_ne (pe_ix ix_str (pv 0) (pv 1) (fun _ _=>rfl)) (pv 2) (nomark _)))))
    (pss_one (ps_raise rfl (takes_of rfl rfl rfl rfl) (pmk_oex T.x_BadSign.T T.x_BadSign.init T.x_BadSign.fn G_x_BadSign (hr.mono (by decide)) T.dx_BadSign .nil passF (by rfl) T.g_BadSign (pa_cons (pv 1) pa_nil))))
    pss_nil)
   (pss_one (ps_ret (pe_op op_add (pv 1) pe_int)))),?_⟩
 try dsimp only [cxOf]
 obtain ⟨text,at_,char,nb,h⟩:=h
 refine Zm.body (js:=[0,1,2]) (m:=ZaV text at_ char) nb h ?_
 refine ZcE (Γ2:=[(.val dStr text),(.val dInt at_),(.val dStr char)]) rfl ?_
 delta ZaV
 refine ZbU (Zap (te_or (Zaf (we_ge (re_w (Zaa rfl)) (re_w (ZbV (re_w (Zaa rfl)))))) (Zaf (we_neS (re_w (ZeI (Zaa rfl) (Zaa rfl))) (re_w (Zaa rfl))))) rfl) ?_ ?_
 ·exact zm_raise1 rfl rfl (ZdY (re_w (Zaa rfl)) rfl)
 ·refine Zag ?_
  refine Zai ?_
  exact Zav (Zae (ZaZ (re_w (Zaa rfl)) (re_w Zac)) rfl)
end K81
namespace K81
open PySem L2 G PM
set_option maxHeartbeats 4000000 in
theorem ok_p_read_program {P:Program} {w:World} {K:PySem.W.Frag} {mg:Str→Option Value} {base:Heap} (T:Txt K mg) (G_p_name_end:FnOk P w K mg base (L2.CX P w) 3 T.a_p_name_end T.f_p_name_end ["text","at"] (Zdn ⟨P,w,K⟩ T.A)) (G_p_expect:FnOk P w K mg base (L2.CX P w) 3 T.a_p_expect T.f_p_expect ["text","at","char"] (Zes ⟨P,w,K⟩ T.A)):∀ n:Nat,FnOk P w K mg base (L2.CX P w) (n+4) T.a_p_read_program T.f_p_read_program ["text","at"] (Zcr n ⟨P,w,K⟩ T.A):=by
 have nd:=ZcW.nd
 intro n
 induction n with
 | zero =>
  refine T.F_p_read_program.okX ZcW (fun vs H Q E h=>?_) (fun cdv A outer s H vs Q E hr h=>?_)
  ·exact Zdb h
  ·obtain ⟨text,at_,nb,_⟩:=h;exact absurd rfl nb
 | succ fl G_p_read_program =>
  refine T.F_p_read_program.okX ZcW (fun vs H Q E h=>?_) (fun cdv A outer s H vs Q E hr h=>?_)
  ·exact Zdb h
  have hu:=hu_of hr
  refine ⟨_,(pss_cons (ps_if (PW.pt (pw_and (pt_cmpR op_lt (pv 1) (pe_callB call_len_str (by rfl) T.b_len (by decide +kernel) (pa_cons (pv 0) pa_nil)) (nomark _)) (pw_and1 (pt_cmpR op_eq (pe_ix ix_str (pv 0) (pv 1) (fun _ _=>rfl)) pe_str (nomark _)))))
    (pss_cons (ps_set (i:=2) nd rfl (Or.inl rfl) (pe_callS G_p_name_end (hr.mono (by omega)) (by rfl) T.g_p_name_end T.F_p_name_end.kp T.d_p_name_end (fun σ=>passAt (takes_of rfl rfl rfl rfl) σ) (pa_cons (pv 0) (pa_cons (pe_op op_add (pv 1) pe_int) pa_nil))))
   (pss_cons (ps_asg (pe_callS G_p_read_program (hr.mono (by omega)) (by rfl) T.g_p_read_program T.F_p_read_program.kp T.d_p_read_program (fun σ=>passAt (takes_of rfl rfl rfl rfl) σ) (pa_cons (pv 0) (pa_cons (pe_callS G_p_expect (hr.mono (by omega)) (by rfl) T.g_p_expect T.F_p_expect.kp T.d_p_expect (fun σ=>passAt (takes_of rfl rfl rfl rfl) σ) (pa_cons (pv 0) (pa_cons (pv 2) (pa_cons pe_str pa_nil)))) pa_nil))) (pg_tupK (n:=2) K (by rfl) (pgs_cons (pg_name (i:=3) nd rfl (Or.inl rfl)) (pgs_cons (pg_name (i:=4) nd rfl (Or.inl rfl)) pgs_nil))))
   (pss_one (ps_ret (pe_tup (pa_cons (pe_tup (pa_cons pe_str (pa_cons (pe_slice sl_str (pv 0) (po_some (pe_op op_add (pv 1) pe_int)) (po_some (pv 2))) (pa_cons (pv 3) pa_nil)))) (pa_cons (pe_callS G_p_expect (hr.mono (by omega)) (by rfl) T.g_p_expect T.F_p_expect.kp T.d_p_expect (fun σ=>passAt (takes_of rfl rfl rfl rfl) σ) (pa_cons (pv 0) (pa_cons (pv 4) (pa_cons pe_str pa_nil)))) pa_nil)))))))
    pss_nil)
   (pss_cons (ps_if (PW.pt (pw_and (pt_cmpR op_lt (pv 1) (pe_callB call_len_str (by rfl) T.b_len (by decide +kernel) (pa_cons (pv 0) pa_nil)) (nomark _)) (pw_and1 (pt_cmpR op_eq (pe_ix ix_str (pv 0) (pv 1) (fun _ _=>rfl)) pe_str (nomark _)))))
    (pss_cons (ps_asg (pe_callS G_p_read_program (hr.mono (by omega)) (by rfl) T.g_p_read_program T.F_p_read_program.kp T.d_p_read_program (fun σ=>passAt (takes_of rfl rfl rfl rfl) σ) (pa_cons (pv 0) (pa_cons (pe_op op_add (pv 1) pe_int) pa_nil))) (pg_tupK (n:=2) K (by rfl) (pgs_cons (pg_name (i:=5) nd rfl (Or.inl rfl)) (pgs_cons (pg_name (i:=2) nd rfl (Or.inl rfl)) pgs_nil))))
   (pss_cons (ps_asg (pe_callS G_p_read_program (hr.mono (by omega)) (by rfl) T.g_p_read_program T.F_p_read_program.kp T.d_p_read_program (fun σ=>passAt (takes_of rfl rfl rfl rfl) σ) (pa_cons (pv 0) (pa_cons (pe_callS G_p_expect (hr.mono (by omega)) (by rfl) T.g_p_expect T.F_p_expect.kp T.d_p_expect (fun σ=>passAt (takes_of rfl rfl rfl rfl) σ) (pa_cons (pv 0) (pa_cons (pv 2) (pa_cons pe_str pa_nil)))) pa_nil))) (pg_tupK (n:=2) K (by rfl) (pgs_cons (pg_name (i:=6) nd rfl (Or.inl rfl)) (pgs_cons (pg_name (i:=4) nd rfl (Or.inl rfl)) pgs_nil))))
   (pss_one (ps_ret (pe_tup (pa_cons (pe_tup (pa_cons pe_str (pa_cons (pv 5) (pa_cons (pv 6) pa_nil)))) (pa_cons (pe_callS G_p_expect (hr.mono (by omega)) (by rfl) T.g_p_expect T.F_p_expect.kp T.d_p_expect (fun σ=>passAt (takes_of rfl rfl rfl rfl) σ) (pa_cons (pv 0) (pa_cons (pv 4) (pa_cons pe_str pa_nil)))) pa_nil)))))))
    pss_nil)
   (pss_cons (ps_set (i:=2) nd rfl (Or.inl rfl) (pe_callS G_p_name_end (hr.mono (by omega)) (by rfl) T.g_p_name_end T.F_p_name_end.kp T.d_p_name_end (fun σ=>passAt (takes_of rfl rfl rfl rfl) σ) (pa_cons (pv 0) (pa_cons (pv 1) pa_nil))))
   (pss_one (ps_ret (pe_tup (pa_cons (pe_tup (pa_cons pe_str (pa_cons (pe_slice sl_str (pv 0) (po_some (pv 1)) (po_some (pv 2))) pa_nil))) (pa_cons (pv 2) pa_nil)))))))),?_⟩
  try dsimp only [cxOf]
  obtain ⟨text,at_,nb,h⟩:=h
  refine Zm.body (js:=[0,1,2,3,4,5,6]) (m:=ZaE (fl+1) text at_) nb h ?_
  refine ZcE (Γ2:=[(.val dStr text),(.val dInt at_),.no,.no,.no,.no,.no]) rfl ?_
  show Zm _ _ _ _ _ _ (ZbD (ZaE fl) text at_)
  delta ZbD
  refine ZbU (Zap (ZeL (Zaf (we_lt (re_w (Zaa rfl)) (re_w (ZbV (re_w (Zaa rfl)))))) (Zaf (ZaS (re_w (ZeI (Zaa rfl) (Zaa rfl))) (re_w Zad)))) rfl) ?_ ?_
  ·refine Zaq ?_
   refine Zau (i:=2) rfl (by decide) (Zae (ZbQ hs_p_name_end rfl (Zaa rfl) (ZaZ (re_w (Zaa rfl)) (re_w Zac))) rfl) fun end__4=>?_
   refine Zaq ?_
   refine Zeq (Zae (ZbQ Zcu rfl (Zaa rfl) (ZaD Zex rfl (Zaa rfl) (Zaa rfl) Zad)) rfl) fun t6=>(a_pair rfl (ZaT rfl (ZaT rfl ⟨rfl,?_⟩)))
   exact Zav (Zae (ZbB (ZaA (Zaw Zad) (Zaw (Zdj (Zaa rfl) (Zba (re_w (ZaZ (re_w (Zaa rfl)) (re_w Zac)))) (Zba (re_w (Zaa rfl))))) (Zaa rfl)) (ZaD Zex rfl (Zaa rfl) (Zaa rfl) Zad)) rfl)
  ·refine Zag ?_
   refine ZbU (Zap (ZeL (Zaf (we_lt (re_w (Zaa rfl)) (re_w (ZbV (re_w (Zaa rfl)))))) (Zaf (ZaS (re_w (ZeI (Zaa rfl) (Zaa rfl))) (re_w Zad)))) rfl) ?_ ?_
   ·refine Zaq ?_
    refine Zeq (Zae (ZbQ Zcu rfl (Zaa rfl) (ZaZ (re_w (Zaa rfl)) (re_w Zac))) rfl) fun t14=>(a_pair rfl (ZaT rfl (ZaT rfl ⟨rfl,?_⟩)))
    refine Zaq ?_
    refine Zeq (Zae (ZbQ Zcu rfl (Zaa rfl) (ZaD Zex rfl (Zaa rfl) (Zaa rfl) Zad)) rfl) fun t16=>(a_pair rfl (ZaT rfl (ZaT rfl ⟨rfl,?_⟩)))
    exact Zav (Zae (ZbB (ZaA (Zaw Zad) (Zaa rfl) (Zaa rfl)) (ZaD Zex rfl (Zaa rfl) (Zaa rfl) Zad)) rfl)
   ·refine Zag ?_
    refine Zau (i:=2) rfl (by decide) (Zae (ZbQ hs_p_name_end rfl (Zaa rfl) (Zaa rfl)) rfl) fun end__18=>?_
    refine Zai ?_
    exact Zav (Zae (ZbB (Zbp (Zaw Zad) (Zaw (Zdj (Zaa rfl) (Zba (re_w (Zaa rfl))) (Zba (re_w (Zaa rfl)))))) (Zaa rfl)) rfl)
end K81
namespace K81
open PySem L2 G PM
set_option maxHeartbeats 4000000 in
theorem ok_p_count_funs {P:Program} {w:World} {K:PySem.W.Frag} {mg:Str→Option Value} {base:Heap} (T:Txt K mg):FnOk P w K mg base (L2.CX P w) 1 T.a_p_count_funs T.f_p_count_funs ["program"] (ZcO ⟨P,w,K⟩ T.A):=by
 have nd:=sc_p_count_funs.nd
 refine T.F_p_count_funs.okX sc_p_count_funs (fun vs H Q E h=>?_) (fun cdv A outer s H vs Q E hr h=>?_)
 ·exact sp_p_count_funs_len h
 have hu:=hu_of hr
 refine ⟨_,(pss_cons (ps_set (i:=1) nd rfl (Or.inl rfl) pe_int)
   (pss_cons (ps_set (i:=2) nd rfl (Or.inl rfl) (pe_lst (pa_cons (pv 0) pa_nil)))
   (pss_cons (ps_while (passes_of rfl) (truth_K K (pv 2) (by intro _;rfl))
    (pss_cons (ps_set (i:=3) nd rfl (Or.inl rfl) (bm0_K K PySem.F.plainAttrs_list PySem.F.slot_list_pop PySem.F.type_list_pop mt_pop (pv 2)))
   (pss_cons (ps_if (pt_cmpR op_eq (pe_ix (Zbs K) (pv 3) pe_int (fun _ _=>rfl)) pe_str (nomark _))
    (pss_cons (ps_aug (i:=1) nd rfl (Or.inl rfl) pe_int ip_add)
   (pss_one (ps_expr (bm_K K PySem.F.plainAttrs_list PySem.F.slot_list_append PySem.F.type_list_append mt_append (pv 2) (pa_cons (pe_ix (Zbs K) (pv 3) pe_int (fun _ _=>rfl)) pa_nil)))))
    pss_nil)
   (pss_one (ps_if (pt_cmpR op_eq (pe_ix (Zbs K) (pv 3) pe_int (fun _ _=>rfl)) pe_str (nomark _))
    (pss_cons (ps_expr (bm_K K PySem.F.plainAttrs_list PySem.F.slot_list_append PySem.F.type_list_append mt_append (pv 2) (pa_cons (pe_ix (Zbs K) (pv 3) pe_int (fun _ _=>rfl)) pa_nil)))
   (pss_one (ps_expr (bm_K K PySem.F.plainAttrs_list PySem.F.slot_list_append PySem.F.type_list_append mt_append (pv 2) (pa_cons (pe_ix (Zbs K) (pv 3) pe_int (fun _ _=>rfl)) pa_nil)))))
    pss_nil)))))
   (pss_one (ps_ret (pv 1)))))),?_⟩
 try dsimp only [cxOf]
 obtain ⟨program,nb,h⟩:=h
 refine Zm.body (js:=[0,1,2,3]) (m:=ZaW program) nb h ?_
 refine ZcE (Γ2:=[(.val dUI program),.no,.no,.no]) rfl ?_
 delta ZaW
 refine Zau (i:=1) rfl (by decide) (Zae Zac rfl) fun many_1=>?_
 refine ZcF (i:=2) rfl (by decide) (ZdZ (Zcc (Zaj (Zaa rfl) Zca) (ZaH ZcT) (by decide)) rfl) fun waiting_2=>?_
 refine zm_while [3] (fun s3=>[(.val dUI program),(.val dInt s3.1),(.own (dList (d:=dUI)) (oList (d:=dUI)) none s3.2),.no]) (many_1,waiting_2) rfl (fun _=>rfl) (fun s3=>Zap (te_truL (ZbK rfl)) rfl) (fun s3=>?_) fun s24=>?_
 ·refine zm_pop (i:=2) (j:=3) rfl rfl rfl (by decide) (by decide) fun p4=>?_
  refine ZcM [] (fun s12=>[(.val dUI program),(.val dInt s12.1),(.own (dList (d:=dUI)) (oList (d:=dUI)) none s12.2),(.val dUI p4.2)]) (fun _=>rfl) ?_ fun s12=>?_
  ·refine Zai (ZbU (Zap (Zaf (ZaS (re_w (ZaB (ZaI (ZaG (Zam (Zaa rfl))) (re_w Zac)))) (re_w Zad))) rfl) ?_ ?_)
   ·refine Zaq ?_
    refine zm_aug (i:=1) rfl (by decide) (ZdY (re_w Zac) rfl) fun many_8=>?_
    refine Zbf (i:=2) rfl (by decide) (Zae (ZaB (d:=dUI) (ZaI (ZaG (Zam (Zaa rfl))) (re_w Zac))) rfl) fun waiting_11=>?_
    exact ZaN rfl
   ·refine Zag ?_
    exact ZaN rfl
  ·refine Zai ?_
   refine ZbU (Zap (Zaf (ZaS (re_w (ZaB (ZaI (ZaG (Zam (Zaa rfl))) (re_w Zac)))) (re_w Zad))) rfl) ?_ ?_
   ·refine Zaq ?_
    refine Zbf (i:=2) rfl (by decide) (Zae (ZaB (d:=dUI) (ZaI (ZaG (Zam (Zaa rfl))) (re_w Zac))) rfl) fun waiting_18=>?_
    refine Zbf (i:=2) rfl (by decide) (Zae (ZaB (d:=dUI) (ZaI (ZaG (Zam (Zaa rfl))) (re_w Zac))) rfl) fun waiting_21=>?_
    exact ZbP rfl
   ·refine Zag ?_
    exact ZbP rfl
 ·refine Zai ?_
  exact Zav (Zae (Zaa rfl) rfl)
end K81
namespace K81
open PySem L2 G PM
set_option maxHeartbeats 4000000 in
theorem ok_p_is_name {P:Program} {w:World} {K:PySem.W.Frag} {mg:Str→Option Value} {base:Heap} (T:Txt K mg):FnOk P w K mg base (L2.CX P w) 1 T.a_p_is_name T.f_p_is_name ["name"] (ZdJ ⟨P,w,K⟩ T.A):=by
 have nd:=sc_p_is_name.nd
 refine T.F_p_is_name.okX sc_p_is_name (fun vs H Q E h=>?_) (fun cdv A outer s H vs Q E hr h=>?_)
 ·exact sp_p_is_name_len h
 have hu:=hu_of hr
 refine ⟨_,(pss_one (ps_ret (pe_and (pe_chain op_lt op_le pe_int (pe_callB call_len_str (by rfl) T.b_len (by decide +kernel) (pa_cons (pv 0) pa_nil)) (pe_glob (v:=.int (8)) (by rfl) T.g_MOST_IN_NAME T.ku_MOST_IN_NAME)) (pe_one (pe_callB (all_K K rfl) (by rfl) T.b_all (by decide +kernel) (pa_cons (pe_lc (own:=[("char",1)]) (by rfl) nd (pi_str (pv 0)) (blkOk_by (own:=[("char",1)]) (N:=N_p_is_name) (sc:=defScope ZcH) (by decide +kernel)) (fun _ _ _ _ _=>(pg_name (i:=1) nd rfl (Or.inl rfl))) (fun _ _ _ _ _=>pts_nil) (fun _ _ _ _ _=>(pe_cmpR op_inSg (pv 1) (pe_glob (v:=.str "abcdefghijklmnopqrstuvwxyz") (by rfl) T.g_ALPHABET T.ku_ALPHABET) (by with_unfolding_all rfl)))) pa_nil)))))),?_⟩
 try dsimp only [cxOf]
 obtain ⟨name,nb,h⟩:=h
 refine Zm.body (js:=[0,1]) (m:=ZbE name) nb h ?_
 refine ZcE (Γ2:=[(.val dStr name),.no]) rfl ?_
 delta ZbE
 refine Zai ?_
 exact Zav (Zae (we_and (we_chain (re_w Zac) (re_w (ZbV (re_w (Zaa rfl)))) (re_w Zac)) (we_all (re_w (we_o (oe_lc (ZdI (by decide)) (ic_str (Zaa rfl)) fun x2=>(ZaT rfl ⟨te_yes,(we_inSg (Zaa rfl) Zad)⟩)))))) rfl)
end K81
namespace K81
open PySem L2 G PM
set_option maxHeartbeats 4000000 in
theorem ok_p_check_names {P:Program} {w:World} {K:PySem.W.Frag} {mg:Str→Option Value} {base:Heap} (T:Txt K mg) (G_p_is_name:FnOk P w K mg base (L2.CX P w) 1 T.a_p_is_name T.f_p_is_name ["name"] (ZdJ ⟨P,w,K⟩ T.A)) (G_x_BadName:FnOk P w K mg base (L2.CX P w) 1 T.i_BadName T.fx_BadName ["self","name"] (spX1 (T.A.tx .BadName) "name")) (G_x_BoundTwice:FnOk P w K mg base (L2.CX P w) 1 T.i_BoundTwice T.fx_BoundTwice ["self","name"] (spX1 (T.A.tx .BoundTwice) "name")) (G_x_NotUsed:FnOk P w K mg base (L2.CX P w) 1 T.i_NotUsed T.fx_NotUsed ["self","name"] (spX1 (T.A.tx .NotUsed) "name")) (G_x_UnknownName:FnOk P w K mg base (L2.CX P w) 1 T.i_UnknownName T.fx_UnknownName ["self","name"] (spX1 (T.A.tx .UnknownName) "name")) (G_x_UsedTwice:FnOk P w K mg base (L2.CX P w) 1 T.i_UsedTwice T.fx_UsedTwice ["self","name"] (spX1 (T.A.tx .UsedTwice) "name")):∀ n:Nat,FnOk P w K mg base (L2.CX P w) (n+3) T.a_p_check_names T.f_p_check_names ["program","around","bound","used"] (Zcz n ⟨P,w,K⟩ T.A):=by
 have nd:=Zdg.nd
 intro n
 induction n with
 | zero =>
  refine T.F_p_check_names.okX Zdg (fun vs H Q E h=>?_) (fun cdv A outer s H vs Q E hr h=>?_)
  ·exact Zdl h
  ·obtain ⟨program,around,bound,used,nb,_⟩:=h;exact absurd rfl nb
 | succ fl G_p_check_names =>
  refine T.F_p_check_names.okX Zdg (fun vs H Q E h=>?_) (fun cdv A outer s H vs Q E hr h=>?_)
  ·exact Zdl h
  have hu:=hu_of hr
  refine ⟨_,(pss_cons (ps_set (i:=4) nd rfl (Or.inl rfl) (pe_ix (Zbs K) (pv 0) pe_int (fun _ _=>rfl)))
   (pss_cons (ps_if (pt_cmpR op_eq (pv 4) pe_str (nomark _))
    (pss_cons (ps_expr (pe_callS G_p_check_names (hr.mono (by omega)) (by rfl) T.g_p_check_names T.F_p_check_names.kp T.d_p_check_names (fun σ=>passAt (takes_of rfl rfl rfl rfl) σ) (pa_cons (pe_ix (Zbs K) (pv 0) pe_int (fun _ _=>rfl)) (pa_cons (pv 1) (pa_cons (pv 2) (pa_cons (pv 3) pa_nil))))))
   (pss_cons (ps_expr (pe_callS G_p_check_names (hr.mono (by omega)) (by rfl) T.g_p_check_names T.F_p_check_names.kp T.d_p_check_names (fun σ=>passAt (takes_of rfl rfl rfl rfl) σ) (pa_cons (pe_ix (Zbs K) (pv 0) pe_int (fun _ _=>rfl)) (pa_cons (pv 1) (pa_cons (pv 2) (pa_cons (pv 3) pa_nil))))))
   (pss_one ps_retN)))
    pss_nil)
   (pss_cons (ps_set (i:=5) nd rfl (Or.inl rfl) (pe_ix (Zbs K) (pv 0) pe_int (fun _ _=>rfl)))
   (pss_cons (ps_if (pt_not (pt_val (pe_callS G_p_is_name (hr.mono (by omega)) (by rfl) T.g_p_is_name T.F_p_is_name.kp T.d_p_is_name (fun σ=>passAt (takes_of rfl rfl rfl rfl) σ) (pa_cons (pv 5) pa_nil))))
    (pss_one (ps_raise rfl (takes_of rfl rfl rfl rfl) (pmk_oex T.x_BadName.T T.x_BadName.init T.x_BadName.fn G_x_BadName (hr.mono (by omega)) T.dx_BadName .nil passF (by rfl) T.g_BadName (pa_cons (pv 5) pa_nil))))
    pss_nil)
   (pss_cons (ps_if (pt_cmpR op_eq (pv 4) pe_str (nomark _))
    (pss_cons (ps_if (pt_cmpR (op_niK K) (pv 5) (pv 1) (by with_unfolding_all rfl))
    (pss_one (ps_raise rfl (takes_of rfl rfl rfl rfl) (pmk_oex T.x_UnknownName.T T.x_UnknownName.init T.x_UnknownName.fn G_x_UnknownName (hr.mono (by omega)) T.dx_UnknownName .nil passF (by rfl) T.g_UnknownName (pa_cons (pv 5) pa_nil))))
    pss_nil)
   (pss_cons (ps_if (pt_cmpR (op_inK K) (pv 5) (pv 3) (by with_unfolding_all rfl))
    (pss_one (ps_raise rfl (takes_of rfl rfl rfl rfl) (pmk_oex T.x_UsedTwice.T T.x_UsedTwice.init T.x_UsedTwice.fn G_x_UsedTwice (hr.mono (by omega)) T.dx_UsedTwice .nil passF (by rfl) T.g_UsedTwice (pa_cons (pv 5) pa_nil))))
    pss_nil)
   (pss_cons (ps_expr (bm_K K PySem.F.plainAttrs_list PySem.F.slot_list_append PySem.F.type_list_append mt_append (pv 3) (pa_cons (pv 5) pa_nil)))
   (pss_one ps_retN))))
    pss_nil)
   (pss_cons (ps_if (pt_cmpR (op_inK K) (pv 5) (pv 2) (by with_unfolding_all rfl))
    (pss_one (ps_raise rfl (takes_of rfl rfl rfl rfl) (pmk_oex T.x_BoundTwice.T T.x_BoundTwice.init T.x_BoundTwice.fn G_x_BoundTwice (hr.mono (by omega)) T.dx_BoundTwice .nil passF (by rfl) T.g_BoundTwice (pa_cons (pv 5) pa_nil))))
    pss_nil)
   (pss_cons (ps_expr (bm_K K PySem.F.plainAttrs_list PySem.F.slot_list_append PySem.F.type_list_append mt_append (pv 2) (pa_cons (pv 5) pa_nil)))
   (pss_cons (ps_expr (pe_callS G_p_check_names (hr.mono (by omega)) (by rfl) T.g_p_check_names T.F_p_check_names.kp T.d_p_check_names (fun σ=>passAt (takes_of rfl rfl rfl rfl) σ) (pa_cons (pe_ix (Zbs K) (pv 0) pe_int (fun _ _=>rfl)) (pa_cons (pe_op ZcS (pv 1) (pe_lst (pa_cons (pv 5) pa_nil))) (pa_cons (pv 2) (pa_cons (pv 3) pa_nil))))))
   (pss_one (ps_if (pt_cmpR (op_niK K) (pv 5) (pv 3) (by with_unfolding_all rfl))
    (pss_one (ps_raise rfl (takes_of rfl rfl rfl rfl) (pmk_oex T.x_NotUsed.T T.x_NotUsed.init T.x_NotUsed.fn G_x_NotUsed (hr.mono (by omega)) T.dx_NotUsed .nil passF (by rfl) T.g_NotUsed (pa_cons (pv 5) pa_nil))))
    pss_nil)))))))))),?_⟩
  try dsimp only [cxOf]
  obtain ⟨program,around,bound,used,nb,h⟩:=h
  refine Zm.bodyM2X (tx:=T.A.tx) (js:=[0,1,2,3,4,5]) (p1:=2) (p2:=3) (Γ':=fun u2 u3=>[(.val dUI program),(.val (dList (d:=dStr)) around),(.own (dList (d:=dStr)) (oList (d:=dStr)) (some u2) bound),(.own (dList (d:=dStr)) (oList (d:=dStr)) (some u3) used),.no,.no]) (m:=ZaP (fl+1) program around bound used) nb rfl rfl rfl h (fun _ _=>rfl) fun u2 u3=>?_
  show Zm _ _ _ _ _ _ (ZaM (ZaP fl) program around bound used)
  delta ZaM
  refine Zau (i:=4) rfl (by decide) (Zae (ZaB (ZaI (ZaG (Zam (Zaa rfl))) (re_w Zac))) rfl) fun word_3=>?_
  refine ZaC (Zap (Zaf (ZaS (re_w (Zaa rfl)) (re_w Zad))) rfl) ?_ ?_
  ·refine Zaq ?_
   refine zm_dropM2X (j1:=2) (j2:=3) rfl rfl rfl rfl (by decide) (by decide) (mmx_cons (Zae (ZaB (d:=dUI) (ZaI (ZaG (Zam (Zaa rfl))) (re_w Zac))) rfl) fun a8=>(mmx_cons (Zae (Zaa rfl) rfl) fun a9=>(mmx_own rfl (mmx_own rfl (mmx_nil fun nb=>⟨[_,_],[],[],rfl,ZcD nb⟩))))) fun p10=>?_
   refine Zaq ?_
   refine zm_dropM2X (j1:=2) (j2:=3) rfl rfl rfl rfl (by decide) (by decide) (mmx_cons (Zae (ZaB (d:=dUI) (ZaI (ZaG (Zam (Zaa rfl))) (re_w Zac))) rfl) fun a15=>(mmx_cons (Zae (Zaa rfl) rfl) fun a16=>(mmx_own rfl (mmx_own rfl (mmx_nil fun nb=>⟨[_,_],[],[],rfl,ZcD nb⟩))))) fun p17=>?_
   exact zm_retNM ⟨rfl,rfl⟩
  ·refine Zag ?_
   refine Zau (i:=5) rfl (by decide) (Zae (ZaB (ZaI (ZaG (Zam (Zaa rfl))) (re_w Zac))) rfl) fun name_20=>?_
   refine ZbU (Zap (Zdk (te_B (ZaF hs_p_is_name rfl (Zaa rfl)))) rfl) ?_ ?_
   ·exact Zec rfl rfl (ZdY (re_w (Zaa rfl)) rfl)
   ·refine Zag ?_
    refine ZaC (Zap (Zaf (ZaS (re_w (Zaa rfl)) (re_w Zad))) rfl) ?_ ?_
    ·refine Zaq ?_
     refine ZaC (Zap (Zaf (ZdG (re_w (Zaa rfl)) (re_w (Zaa rfl)))) rfl) ?_ ?_
     ·exact Zec rfl rfl (ZdY (re_w (Zaa rfl)) rfl)
     ·refine Zag ?_
      refine Zaq ?_
      refine ZaC (Zap (Zaf (we_in (re_w (Zaa rfl)) (ZbK rfl))) rfl) ?_ ?_
      ·exact Zec rfl rfl (ZdY (re_w (Zaa rfl)) rfl)
      ·refine Zag ?_
       refine Zaq ?_
       refine Zbf (i:=3) rfl (by decide) (Zae (Zaa rfl) rfl) fun used_22=>?_
       exact zm_retNM ⟨rfl,rfl⟩
    ·refine Zag ?_
     refine ZaC (Zap (Zaf (we_in (re_w (Zaa rfl)) (ZbK rfl))) rfl) ?_ ?_
     ·exact Zec rfl rfl (ZdY (re_w (Zaa rfl)) rfl)
     ·refine Zag ?_
      refine Zbf (i:=2) rfl (by decide) (Zae (Zaa rfl) rfl) fun bound_23=>?_
      refine zm_dropM2X (j1:=2) (j2:=3) rfl rfl rfl rfl (by decide) (by decide) (mmx_cons (Zae (ZaB (d:=dUI) (ZaI (ZaG (Zam (Zaa rfl))) (re_w Zac))) rfl) fun a28=>(mmx_cons (Zae (we_o (ZdR (Zaa rfl) (we_o (Zcc (Zaj (Zaa rfl) Zca) (ZaH ZcT) (by decide))))) rfl) fun a29=>(mmx_own rfl (mmx_own rfl (mmx_nil fun nb=>⟨[_,_],[],[],rfl,ZcD nb⟩))))) fun p30=>?_
      refine Zai ?_
      refine ZaC (Zap (Zaf (ZdG (re_w (Zaa rfl)) (ZbK rfl))) rfl) ?_ ?_
      ·exact Zec rfl rfl (ZdY (re_w (Zaa rfl)) rfl)
      ·refine Zag ?_
       exact zm_endM ⟨rfl,rfl⟩
end K81
namespace K81
open PySem L2 G PM
set_option maxHeartbeats 4000000 in
theorem ok_p_check_program {P:Program} {w:World} {K:PySem.W.Frag} {mg:Str→Option Value} {base:Heap} (T:Txt K mg) (G_p_count_funs:FnOk P w K mg base (L2.CX P w) 1 T.a_p_count_funs T.f_p_count_funs ["program"] (ZcO ⟨P,w,K⟩ T.A)) (G_p_check_names:∀ n:Nat,FnOk P w K mg base (L2.CX P w) (n+3) T.a_p_check_names T.f_p_check_names ["program","around","bound","used"] (Zcz n ⟨P,w,K⟩ T.A)) (G_x_TooLarge:FnOk P w K mg base (L2.CX P w) 1 T.i_TooLarge T.fx_TooLarge ["self","limit"] (spX1 (T.A.tx .TooLarge) "limit")):FnOk P w K mg base (L2.CX P w) 104 T.a_p_check_program T.f_p_check_program ["program"] (ZbR ⟨P,w,K⟩ T.A):=by
 have nd:=ZdO.nd
 refine T.F_p_check_program.okX ZdO (fun vs H Q E h=>?_) (fun cdv A outer s H vs Q E hr h=>?_)
 ·exact ZeG h
 have hu:=hu_of hr
 refine ⟨_,(pss_cons (ps_if (pt_cmpR op_gt (pe_callS G_p_count_funs (hr.mono (by decide)) (by rfl) T.g_p_count_funs T.F_p_count_funs.kp T.d_p_count_funs (fun σ=>passAt (takes_of rfl rfl rfl rfl) σ) (pa_cons (pv 0) pa_nil)) (pe_glob (v:=.int (12)) (by rfl) T.g_MOST_FUNS T.ku_MOST_FUNS) (nomark _))
    (pss_one (ps_raise rfl (takes_of rfl rfl rfl rfl) (pmk_oex T.x_TooLarge.T T.x_TooLarge.init T.x_TooLarge.fn G_x_TooLarge (hr.mono (by decide)) T.dx_TooLarge .nil passF (by rfl) T.g_TooLarge (pa_cons (pe_glob (v:=.int (12)) (by rfl) T.g_MOST_FUNS T.ku_MOST_FUNS) pa_nil))))
    pss_nil)
   (pss_one (ps_expr (pe_callS (G_p_check_names 100) (hr.mono (by decide)) (by rfl) T.g_p_check_names T.F_p_check_names.kp T.d_p_check_names (fun σ=>passAt (takes_of rfl rfl rfl rfl) σ) (pa_cons (pv 0) (pa_cons (pe_lst pa_nil) (pa_cons (pe_lst pa_nil) (pa_cons (pe_lst pa_nil) pa_nil)))))))),?_⟩
 try dsimp only [cxOf]
 obtain ⟨program,nb,h⟩:=h
 refine Zm.body (js:=[0]) (m:=Zar program) nb h ?_
 refine ZcE (Γ2:=[(.val dUI program)]) rfl ?_
 delta Zar
 refine ZbU (Zap (Zaf (we_gt (re_w (ZaF hs_p_count_funs rfl (Zaa rfl))) (re_w Zac))) rfl) ?_ ?_
 ·exact zm_raise1 rfl rfl (ZdY (re_w Zac) rfl)
 ·refine Zag ?_
  refine Zai ?_
  refine zm_dropNNX rfl (Zae (Zaa rfl) rfl) (Zae (we_o (ZdC (d:=dStr))) rfl) (ZdZ (ZdC (d:=dStr)) rfl) (ZdZ (ZdC (d:=dStr)) rfl) (fun nb=>ZcD nb) fun p2=>?_
  exact zm_end
end K81
namespace K81
open PySem L2 G PM
set_option maxHeartbeats 4000000 in
theorem ok_p_parse_program {P:Program} {w:World} {K:PySem.W.Frag} {mg:Str→Option Value} {base:Heap} (T:Txt K mg) (G_p_read_program:∀ n:Nat,FnOk P w K mg base (L2.CX P w) (n+4) T.a_p_read_program T.f_p_read_program ["text","at"] (Zcr n ⟨P,w,K⟩ T.A)) (G_p_check_program:FnOk P w K mg base (L2.CX P w) 104 T.a_p_check_program T.f_p_check_program ["program"] (ZbR ⟨P,w,K⟩ T.A)) (G_x_BadSign:FnOk P w K mg base (L2.CX P w) 1 T.i_BadSign T.fx_BadSign ["self","sign"] (spX1 (T.A.tx .BadSign) "sign")):FnOk P w K mg base (L2.CX P w) 105 T.a_p_parse_program T.f_p_parse_program ["text"] (Zck ⟨P,w,K⟩ T.A):=by
 have nd:=ZdN.nd
 refine T.F_p_parse_program.okX ZdN (fun vs H Q E h=>?_) (fun cdv A outer s H vs Q E hr h=>?_)
 ·exact ZeF h
 have hu:=hu_of hr
 refine ⟨_,(pss_cons (ps_asg (pe_callS (G_p_read_program 100) (hr.mono (by decide)) (by rfl) T.g_p_read_program T.F_p_read_program.kp T.d_p_read_program (fun σ=>passAt (takes_of rfl rfl rfl rfl) σ) (pa_cons (pv 0) (pa_cons pe_int pa_nil))) (pg_tupK (n:=2) K (by rfl) (pgs_cons (pg_name (i:=1) nd rfl (Or.inl rfl)) (pgs_cons (pg_name (i:=2) nd rfl (Or.inl rfl)) pgs_nil))))
   (pss_cons (ps_if (pt_cmpR op_lt (pv 2) (pe_callB call_len_str (by rfl) T.b_len (by decide +kernel) (pa_cons (pv 0) pa_nil)) (nomark _))
    (pss_one (ps_raise rfl (takes_of rfl rfl rfl rfl) (pmk_oex T.x_BadSign.T T.x_BadSign.init T.x_BadSign.fn G_x_BadSign (hr.mono (by decide)) T.dx_BadSign .nil passF (by rfl) T.g_BadSign (pa_cons (pv 2) pa_nil))))
    pss_nil)
   (pss_cons (ps_expr (pe_callS G_p_check_program (hr.mono (by decide)) (by rfl) T.g_p_check_program T.F_p_check_program.kp T.d_p_check_program (fun σ=>passAt (takes_of rfl rfl rfl rfl) σ) (pa_cons (pv 1) pa_nil)))
   (pss_one (ps_ret (pv 1)))))),?_⟩
 try dsimp only [cxOf]
 obtain ⟨text,nb,h⟩:=h
 refine Zm.body (js:=[0,1,2]) (m:=Zax text) nb h ?_
 refine ZcE (Γ2:=[(.val dStr text),.no,.no]) rfl ?_
 delta Zax
 refine Zeq (Zae (ZbQ Zcu rfl (Zaa rfl) Zac) rfl) fun t1=>(a_pair rfl (ZaT rfl (ZaT rfl ⟨rfl,?_⟩)))
 refine ZbU (Zap (Zaf (we_lt (re_w (Zaa rfl)) (re_w (ZbV (re_w (Zaa rfl)))))) rfl) ?_ ?_
 ·exact zm_raise1 rfl rfl (ZdY (re_w (Zaa rfl)) rfl)
 ·refine Zag ?_
  refine zm_drop (ZdY (re_w (ZaF ZdT rfl (Zaa rfl))) rfl) ?_
  refine Zai ?_
  exact Zav (Zae (Zaa rfl) rfl)
end K81
namespace K81
open PySem L2 G PM
set_option maxHeartbeats 4000000 in
theorem ok_l_told {P:Program} {w:World} {K:PySem.W.Frag} {mg:Str→Option Value} {base:Heap} (T:Txt K mg) (G_p_parse_program:FnOk P w K mg base (L2.CX P w) 105 T.a_p_parse_program T.f_p_parse_program ["text"] (Zck ⟨P,w,K⟩ T.A)) (G_p_check_program:FnOk P w K mg base (L2.CX P w) 104 T.a_p_check_program T.f_p_check_program ["program"] (ZbR ⟨P,w,K⟩ T.A)):FnOk P w K mg base (L2.CX P w) 106 T.a_l_told T.f_l_told ["_law_program_here","_law_text","_law_reads"] (ZeM ⟨P,w,K⟩ T.A):=by
 have nd:=sc_l_told.nd
 refine T.F_l_told.okX sc_l_told (fun vs H Q E h=>?_) (fun cdv A outer s H vs Q E hr h=>?_)
 ·exact sp_l_told_len h
 have hu:=hu_of hr
 refine ⟨_,(pss_one (try_as K (i:=3) rfl rfl nd rfl rfl ⟨rfl,by decide,.inl T.g_ComesapartError⟩ (takes_of rfl rfl rfl rfl) (fun W pn xe tk po=>(pss_cons (ps_if (pt_val (pv 2))
    (pss_one (ps_ret (pe_tup (pa_cons pe_non (pa_cons (pe_callS G_p_parse_program (hr.mono (by decide)) (by rfl) T.g_p_parse_program T.F_p_parse_program.kp T.d_p_parse_program (fun σ=>passAt tk σ) (pa_cons (pv 1) pa_nil)) pa_nil)))))
    pss_nil)
   (pss_cons (ps_if (pt_cmpR op_notN (pe_callS G_p_check_program (hr.mono (by decide)) (by rfl) T.g_p_check_program T.F_p_check_program.kp T.d_p_check_program (fun σ=>passAt tk σ) (pa_cons (pv 0) pa_nil)) pe_non (nomark _))
    (pss_one (ps_ret (pe_tup (pa_cons (pe_tup (pa_cons pe_str pa_nil)) (pa_cons pe_non pa_nil)))))
    pss_nil)
   (pss_one (ps_ret (pe_tup (pa_cons pe_non (pa_cons pe_non pa_nil)))))))) (fun a oe cls d pn hz hf=>(pss_cons (ps_set (i:=4) nd rfl (Or.inl rfl) (pe_lst pa_nil))
   (pss_cons (ps_if (pt_val (pe_callB (ZdV hz hf) (by rfl) T.b_isinstance (by decide +kernel) (pa_cons (pv 3) (pa_cons (pe_glob (v:=.ref (T.A.tx .TooLarge)) (by rfl) T.g_TooLarge rfl) pa_nil))))
    (pss_one (ps_expr (bm_K K PySem.F.plainAttrs_list PySem.F.slot_list_append PySem.F.type_list_append mt_append (pv 4) (pa_cons (pe_tup (pa_cons pe_str (pa_cons (pe_xf T.xf_TooLarge T.no_TooLarge_limit hz hf (pv 3)) pa_nil))) pa_nil))))
    pss_nil)
   (pss_cons (ps_if (pt_val (pe_callB (ZdV hz hf) (by rfl) T.b_isinstance (by decide +kernel) (pa_cons (pv 3) (pa_cons (pe_glob (v:=.ref (T.A.tx .BadSign)) (by rfl) T.g_BadSign rfl) pa_nil))))
    (pss_one (ps_expr (bm_K K PySem.F.plainAttrs_list PySem.F.slot_list_append PySem.F.type_list_append mt_append (pv 4) (pa_cons (pe_tup (pa_cons pe_str (pa_cons (pe_xf T.xf_BadSign T.no_BadSign_sign hz hf (pv 3)) pa_nil))) pa_nil))))
    pss_nil)
   (pss_cons (ps_if (pt_val (pe_callB (ZdV hz hf) (by rfl) T.b_isinstance (by decide +kernel) (pa_cons (pv 3) (pa_cons (pe_glob (v:=.ref (T.A.tx .BadName)) (by rfl) T.g_BadName rfl) pa_nil))))
    (pss_one (ps_expr (bm_K K PySem.F.plainAttrs_list PySem.F.slot_list_append PySem.F.type_list_append mt_append (pv 4) (pa_cons (pe_tup (pa_cons pe_str (pa_cons (pe_xf T.xf_BadName T.no_BadName_name hz hf (pv 3)) pa_nil))) pa_nil))))
    pss_nil)
   (pss_cons (ps_if (pt_val (pe_callB (ZdV hz hf) (by rfl) T.b_isinstance (by decide +kernel) (pa_cons (pv 3) (pa_cons (pe_glob (v:=.ref (T.A.tx .BoundTwice)) (by rfl) T.g_BoundTwice rfl) pa_nil))))
    (pss_one (ps_expr (bm_K K PySem.F.plainAttrs_list PySem.F.slot_list_append PySem.F.type_list_append mt_append (pv 4) (pa_cons (pe_tup (pa_cons pe_str (pa_cons (pe_xf T.xf_BoundTwice T.no_BoundTwice_name hz hf (pv 3)) pa_nil))) pa_nil))))
    pss_nil)
   (pss_cons (ps_if (pt_val (pe_callB (ZdV hz hf) (by rfl) T.b_isinstance (by decide +kernel) (pa_cons (pv 3) (pa_cons (pe_glob (v:=.ref (T.A.tx .UnknownName)) (by rfl) T.g_UnknownName rfl) pa_nil))))
    (pss_one (ps_expr (bm_K K PySem.F.plainAttrs_list PySem.F.slot_list_append PySem.F.type_list_append mt_append (pv 4) (pa_cons (pe_tup (pa_cons pe_str (pa_cons (pe_xf T.xf_UnknownName T.no_UnknownName_name hz hf (pv 3)) pa_nil))) pa_nil))))
    pss_nil)
   (pss_cons (ps_if (pt_val (pe_callB (ZdV hz hf) (by rfl) T.b_isinstance (by decide +kernel) (pa_cons (pv 3) (pa_cons (pe_glob (v:=.ref (T.A.tx .UsedTwice)) (by rfl) T.g_UsedTwice rfl) pa_nil))))
    (pss_one (ps_expr (bm_K K PySem.F.plainAttrs_list PySem.F.slot_list_append PySem.F.type_list_append mt_append (pv 4) (pa_cons (pe_tup (pa_cons pe_str (pa_cons (pe_xf T.xf_UsedTwice T.no_UsedTwice_name hz hf (pv 3)) pa_nil))) pa_nil))))
    pss_nil)
   (pss_cons (ps_if (pt_val (pe_callB (ZdV hz hf) (by rfl) T.b_isinstance (by decide +kernel) (pa_cons (pv 3) (pa_cons (pe_glob (v:=.ref (T.A.tx .NotUsed)) (by rfl) T.g_NotUsed rfl) pa_nil))))
    (pss_one (ps_expr (bm_K K PySem.F.plainAttrs_list PySem.F.slot_list_append PySem.F.type_list_append mt_append (pv 4) (pa_cons (pe_tup (pa_cons pe_str (pa_cons (pe_xf T.xf_NotUsed T.no_NotUsed_name hz hf (pv 3)) pa_nil))) pa_nil))))
    pss_nil)
   (pss_cons (ps_if (PW.pt (pw_or (pt_cmpR op_ne (pe_callB (len_K K) (by rfl) T.b_len (by decide +kernel) (pa_cons (pv 4) pa_nil)) pe_int (nomark _)) (pw_or1 (pt_not (pt_val (pe_callB (ZdV hz hf) (by rfl) T.b_isinstance (by decide +kernel) (pa_cons (pv 3) (pa_cons (pe_bltn (v:=.ty "ValueError") (by rfl) T.b_ValueError (by decide +kernel) rfl) pa_nil))))))))
    (pss_one (ps_ret (pe_tup (pa_cons (pe_tup (pa_cons pe_str pa_nil)) (pa_cons pe_non pa_nil)))))
    pss_nil)
   (pss_one (ps_ret (pe_tup (pa_cons (pe_ix (Zdi K) (pv 4) pe_int (fun _ _=>rfl)) (pa_cons pe_non pa_nil))))))))))))))))),?_⟩
 try dsimp only [cxOf]
 obtain ⟨program_here,text,reads,nb,h⟩:=h
 refine Zm.body (js:=[0,1,2,3,4]) (m:=ZbS program_here text reads) nb h ?_
 refine ZcE (Γ2:=[(.val dUI program_here),(.val dStr text),(.val dBool reads),.no,.no]) rfl ?_
 delta ZbS
 refine Zai ?_
 refine zm_tryT (js:=[0,1,2,3,4]) [] (i:=3) rfl ⟨_,rfl⟩ (by decide) (by decide) T.hx_ComesapartError (fun W kb=>?_) (fun px5 a dd hkn hp=>?_)
 ·refine ZaC (Zap (te_B (Zaa rfl)) rfl) ?_ ?_
  ·exact Zav (Zae (ZbB (we_U we_non) (Zam (ZaF hs_p_parse_program rfl (Zaa rfl)))) rfl)
  ·refine Zag ?_
   refine ZbU (Zap (Zaf (we_notNU (re_w (we_U (ZaF ZdT rfl (Zaa rfl)))))) rfl) ?_ ?_
   ·exact Zav (Zae (ZbB (we_U (we_tup1 Zad)) (we_U we_non)) rfl)
   ·refine Zag ?_
    refine Zai ?_
    exact Zav (Zae (ZbB (we_U we_non) (we_U we_non)) rfl)
 ·refine ZcF (i:=4) rfl (by decide) (ZdZ (ZdC (d:=dUI)) rfl) fun found_6=>?_
  refine ZcM [] (fun s10=>[(.val dUI program_here),(.val dStr text),(.val dBool reads),(.val (dExn a dd) (px5.x T.A.tx)),(.own (dList (d:=dUI)) (oList (d:=dUI)) none s10)]) (fun _=>(wlen 5 (by exact rfl) (by exact rfl) (by decide))) ?_ fun s10=>?_
  ·refine Zai (ZaC (Zap (te_B (we_isX (b:=fun c=>XC.isA c .TooLarge) rfl hkn T.exc (fun u e=>by cases e;rfl) T.kx_TooLarge)) rfl) ?_ ?_)
   ·refine Zbf (i:=4) rfl (by decide) (Zae (Zbp (Zaw Zad) (Zaw (we_xf rfl rfl))) rfl) fun found_9=>?_
    exact ZaN rfl
   ·refine Zag ?_
    exact ZaN rfl
  ·refine ZcM [] (fun s14=>[(.val dUI program_here),(.val dStr text),(.val dBool reads),(.val (dExn a dd) (px5.x T.A.tx)),(.own (dList (d:=dUI)) (oList (d:=dUI)) none s14)]) (fun _=>(wlen 5 (by exact rfl) (by exact rfl) (by decide))) ?_ fun s14=>?_
   ·refine Zai (ZaC (Zap (te_B (we_isX (b:=fun c=>XC.isA c .BadSign) rfl hkn T.exc (fun u e=>by cases e;rfl) T.kx_BadSign)) rfl) ?_ ?_)
    ·refine Zbf (i:=4) rfl (by decide) (Zae (Zbp (Zaw Zad) (Zaw (we_xf rfl rfl))) rfl) fun found_13=>?_
     exact ZaN rfl
    ·refine Zag ?_
     exact ZaN rfl
   ·refine ZcM [] (fun s18=>[(.val dUI program_here),(.val dStr text),(.val dBool reads),(.val (dExn a dd) (px5.x T.A.tx)),(.own (dList (d:=dUI)) (oList (d:=dUI)) none s18)]) (fun _=>(wlen 5 (by exact rfl) (by exact rfl) (by decide))) ?_ fun s18=>?_
    ·refine Zai (ZaC (Zap (te_B (we_isX (b:=fun c=>XC.isA c .BadName) rfl hkn T.exc (fun u e=>by cases e;rfl) T.kx_BadName)) rfl) ?_ ?_)
     ·refine Zbf (i:=4) rfl (by decide) (Zae (Zbp (Zaw Zad) (Zaw (we_xfS rfl rfl))) rfl) fun found_17=>?_
      exact ZaN rfl
     ·refine Zag ?_
      exact ZaN rfl
    ·refine ZcM [] (fun s22=>[(.val dUI program_here),(.val dStr text),(.val dBool reads),(.val (dExn a dd) (px5.x T.A.tx)),(.own (dList (d:=dUI)) (oList (d:=dUI)) none s22)]) (fun _=>(wlen 5 (by exact rfl) (by exact rfl) (by decide))) ?_ fun s22=>?_
     ·refine Zai (ZaC (Zap (te_B (we_isX (b:=fun c=>XC.isA c .BoundTwice) rfl hkn T.exc (fun u e=>by cases e;rfl) T.kx_BoundTwice)) rfl) ?_ ?_)
      ·refine Zbf (i:=4) rfl (by decide) (Zae (Zbp (Zaw Zad) (Zaw (we_xfS rfl rfl))) rfl) fun found_21=>?_
       exact ZaN rfl
      ·refine Zag ?_
       exact ZaN rfl
     ·refine ZcM [] (fun s26=>[(.val dUI program_here),(.val dStr text),(.val dBool reads),(.val (dExn a dd) (px5.x T.A.tx)),(.own (dList (d:=dUI)) (oList (d:=dUI)) none s26)]) (fun _=>(wlen 5 (by exact rfl) (by exact rfl) (by decide))) ?_ fun s26=>?_
      ·refine Zai (ZaC (Zap (te_B (we_isX (b:=fun c=>XC.isA c .UnknownName) rfl hkn T.exc (fun u e=>by cases e;rfl) T.kx_UnknownName)) rfl) ?_ ?_)
       ·refine Zbf (i:=4) rfl (by decide) (Zae (Zbp (Zaw Zad) (Zaw (we_xfS rfl rfl))) rfl) fun found_25=>?_
        exact ZaN rfl
       ·refine Zag ?_
        exact ZaN rfl
      ·refine ZcM [] (fun s30=>[(.val dUI program_here),(.val dStr text),(.val dBool reads),(.val (dExn a dd) (px5.x T.A.tx)),(.own (dList (d:=dUI)) (oList (d:=dUI)) none s30)]) (fun _=>(wlen 5 (by exact rfl) (by exact rfl) (by decide))) ?_ fun s30=>?_
       ·refine Zai (ZaC (Zap (te_B (we_isX (b:=fun c=>XC.isA c .UsedTwice) rfl hkn T.exc (fun u e=>by cases e;rfl) T.kx_UsedTwice)) rfl) ?_ ?_)
        ·refine Zbf (i:=4) rfl (by decide) (Zae (Zbp (Zaw Zad) (Zaw (we_xfS rfl rfl))) rfl) fun found_29=>?_
         exact ZaN rfl
        ·refine Zag ?_
         exact ZaN rfl
       ·refine ZcM [] (fun s34=>[(.val dUI program_here),(.val dStr text),(.val dBool reads),(.val (dExn a dd) (px5.x T.A.tx)),(.own (dList (d:=dUI)) (oList (d:=dUI)) none s34)]) (fun _=>(wlen 5 (by exact rfl) (by exact rfl) (by decide))) ?_ fun s34=>?_
        ·refine Zai (ZaC (Zap (te_B (we_isX (b:=fun c=>XC.isA c .NotUsed) rfl hkn T.exc (fun u e=>by cases e;rfl) T.kx_NotUsed)) rfl) ?_ ?_)
         ·refine Zbf (i:=4) rfl (by decide) (Zae (Zbp (Zaw Zad) (Zaw (we_xfS rfl rfl))) rfl) fun found_33=>?_
          exact ZaN rfl
         ·refine Zag ?_
          exact ZaN rfl
        ·refine ZaC (Zap (te_orP (Zaf (we_neS (re_w (ZcU (ZbK rfl))) (re_w Zac))) (Zdk (te_B (we_isX (b:=fun _=>true) rfl hkn T.exc (fun u e=>by cases e;rfl) T.kx_ValueError)))) rfl) ?_ ?_
         ·exact Zav (Zae (ZbB (we_U (we_tup1 Zad)) (we_U we_non)) rfl)
         ·refine Zag ?_
          refine Zai ?_
          exact Zav (Zae (ZbB (Zam (ZeJ rfl (re_w Zac))) (we_U we_non)) rfl)
end K81
namespace K81
open PySem L2 G PM
set_option maxHeartbeats 4000000 in
theorem ok_l_same {P:Program} {w:World} {K:PySem.W.Frag} {mg:Str→Option Value} {base:Heap} (T:Txt K mg):∀ n:Nat,FnOk P w K mg base (L2.CX P w) (n+1) T.a_l_same T.f_l_same ["_law_told_here","_law_due"] (ZeO n ⟨P,w,K⟩ T.A):=by
 have nd:=sc_l_same.nd
 intro n
 induction n with
 | zero =>
  refine T.F_l_same.okX sc_l_same (fun vs H Q E h=>?_) (fun cdv A outer s H vs Q E hr h=>?_)
  ·exact sp_l_same_len h
  ·obtain ⟨told_here,due,nb,_⟩:=h;exact absurd rfl nb
 | succ fl G_l_same =>
  refine T.F_l_same.okX sc_l_same (fun vs H Q E h=>?_) (fun cdv A outer s H vs Q E hr h=>?_)
  ·exact sp_l_same_len h
  have hu:=hu_of hr
  refine ⟨_,(pss_cons (ps_if (pt_cmpR op_isN (pv 1) pe_non (nomark _))
    (pss_one (ps_ret (pe_cmpR op_isN (pv 0) pe_non (nomark _))))
    pss_nil)
   (pss_cons (ps_if (pt_val (pe_callB (isi_K K) (by rfl) T.b_isinstance (by decide +kernel) (pa_cons (pv 1) (pa_cons (pe_bltn (v:=.ty "bool") (by rfl) T.b_bool (by decide +kernel) rfl) pa_nil))))
    (pss_one (ps_ret (pe_and (pe_callB (isi_K K) (by rfl) T.b_isinstance (by decide +kernel) (pa_cons (pv 0) (pa_cons (pe_bltn (v:=.ty "bool") (by rfl) T.b_bool (by decide +kernel) rfl) pa_nil))) (pe_one (pe_cmpR (op_eqDK K (hu64 hr)) (pv 0) (pv 1) (nomark _))))))
    pss_nil)
   (pss_cons (ps_if (pt_val (pe_callB (isi_K K) (by rfl) T.b_isinstance (by decide +kernel) (pa_cons (pv 1) (pa_cons (pe_bltn (v:=.ty "int") (by rfl) T.b_int (by decide +kernel) rfl) pa_nil))))
    (pss_one (ps_ret (pe_and (pe_callB (isi_K K) (by rfl) T.b_isinstance (by decide +kernel) (pa_cons (pv 0) (pa_cons (pe_bltn (v:=.ty "int") (by rfl) T.b_int (by decide +kernel) rfl) pa_nil))) (pe_and (pe_not (pe_callB (isi_K K) (by rfl) T.b_isinstance (by decide +kernel) (pa_cons (pv 0) (pa_cons (pe_bltn (v:=.ty "bool") (by rfl) T.b_bool (by decide +kernel) rfl) pa_nil)))) (pe_one (pe_cmpR (op_eqDK K (hu64 hr)) (pv 0) (pv 1) (nomark _)))))))
    pss_nil)
   (pss_cons (ps_if (pt_val (pe_callB (isi_K K) (by rfl) T.b_isinstance (by decide +kernel) (pa_cons (pv 1) (pa_cons (pe_bltn (v:=.ty "str") (by rfl) T.b_str (by decide +kernel) rfl) pa_nil))))
    (pss_one (ps_ret (pe_and (pe_callB (isi_K K) (by rfl) T.b_isinstance (by decide +kernel) (pa_cons (pv 0) (pa_cons (pe_bltn (v:=.ty "str") (by rfl) T.b_str (by decide +kernel) rfl) pa_nil))) (pe_one (pe_cmpR (op_eqDK K (hu64 hr)) (pv 0) (pv 1) (nomark _))))))
    pss_nil)
   (pss_cons (ps_if (PW.pt (pw_and (pt_val (pe_callB (isi_K K) (by rfl) T.b_isinstance (by decide +kernel) (pa_cons (pv 1) (pa_cons (pe_bltn (v:=.ty "list") (by rfl) T.b_list (by decide +kernel) rfl) pa_nil)))) (pw_and1 (pt_not (pt_val (pe_callB (isi_K K) (by rfl) T.b_isinstance (by decide +kernel) (pa_cons (pv 0) (pa_cons (pe_bltn (v:=.ty "list") (by rfl) T.b_list (by decide +kernel) rfl) pa_nil))))))))
    (pss_one (ps_ret pe_bl))
    pss_nil)
   (pss_cons (ps_if (PW.pt (pw_and (pt_val (pe_callB (isi_K K) (by rfl) T.b_isinstance (by decide +kernel) (pa_cons (pv 1) (pa_cons (pe_bltn (v:=.ty "tuple") (by rfl) T.b_tuple (by decide +kernel) rfl) pa_nil)))) (pw_and1 (pt_not (pt_val (pe_callB (isi_K K) (by rfl) T.b_isinstance (by decide +kernel) (pa_cons (pv 0) (pa_cons (pe_bltn (v:=.ty "tuple") (by rfl) T.b_tuple (by decide +kernel) rfl) pa_nil))))))))
    (pss_one (ps_ret pe_bl))
    pss_nil)
   (pss_cons (ps_if (pt_cmpR op_ne (pe_callB (len_K K) (by rfl) T.b_len (by decide +kernel) (pa_cons (pv 0) pa_nil)) (pe_callB (len_K K) (by rfl) T.b_len (by decide +kernel) (pa_cons (pv 1) pa_nil)) (nomark _))
    (pss_one (ps_ret pe_bl))
    pss_nil)
   (pss_cons (ps_for (passes_of rfl) rfl (pi_range1 (by rfl) T.b_range (pa_cons (pe_callB (len_K K) (by rfl) T.b_len (by decide +kernel) (pa_cons (pv 1) pa_nil)) pa_nil)) (pg_name (i:=2) nd rfl (Or.inl rfl))
    (pss_one (ps_if (pt_not (pt_val (pe_callS G_l_same (hr.mono (by omega)) (by rfl) T.g_l_same T.F_l_same.kp T.d_l_same (fun σ=>passAt (takes_of rfl rfl rfl rfl) σ) (pa_cons (pe_ix (Zbs K) (pv 0) (pv 2) (fun _ _=>rfl)) (pa_cons (pe_ix (Zbs K) (pv 1) (pv 2) (fun _ _=>rfl)) pa_nil)))))
    (pss_one (ps_ret pe_bl))
    pss_nil)))
   (pss_one (ps_ret pe_bl)))))))))),?_⟩
  try dsimp only [cxOf]
  obtain ⟨told_here,due,nb,h⟩:=h
  refine Zm.body (js:=[0,1,2]) (m:=ZaY (fl+1) told_here due) nb h ?_
  refine ZcE (Γ2:=[(.val dU told_here),(.val dU due),.no]) rfl ?_
  show Zm _ _ _ _ _ _ (Zbh (ZaY fl) told_here due)
  delta Zbh
  refine ZaC (Zap (Zaf (we_isNU (re_w (Zaa rfl)))) rfl) ?_ ?_
  ·exact Zav (Zae (we_isNU (re_w (Zaa rfl))) rfl)
  ·refine Zag ?_
   refine ZaC (Zap (te_B (ZeK (by decide) (re_w (Zaa rfl)))) rfl) ?_ ?_
   ·exact Zav (Zae (we_and (ZeK (by decide) (re_w (Zaa rfl))) (we_eqU (re_w (Zaa rfl)) (re_w (Zaa rfl)))) rfl)
   ·refine Zag ?_
    refine ZaC (Zap (te_B (ZeK (by decide) (re_w (Zaa rfl)))) rfl) ?_ ?_
    ·exact Zav (Zae (we_and (ZeK (by decide) (re_w (Zaa rfl))) (we_and (we_not (ZeK (by decide) (re_w (Zaa rfl)))) (we_eqU (re_w (Zaa rfl)) (re_w (Zaa rfl))))) rfl)
    ·refine Zag ?_
     refine ZaC (Zap (te_B (ZeK (by decide) (re_w (Zaa rfl)))) rfl) ?_ ?_
     ·exact Zav (Zae (we_and (ZeK (by decide) (re_w (Zaa rfl))) (we_eqU (re_w (Zaa rfl)) (re_w (Zaa rfl)))) rfl)
     ·refine Zag ?_
      refine ZaC (Zap (te_andP (te_B (ZeK (by decide) (re_w (Zaa rfl)))) (Zdk (te_B (ZeK (by decide) (re_w (Zaa rfl)))))) rfl) ?_ ?_
      ·exact Zav (Zae Zee rfl)
      ·refine Zag ?_
       refine ZaC (Zap (te_andP (te_B (ZeK (by decide) (re_w (Zaa rfl)))) (Zdk (te_B (ZeK (by decide) (re_w (Zaa rfl)))))) rfl) ?_ ?_
       ·exact Zav (Zae Zee rfl)
       ·refine Zag ?_
        refine ZbU (Zap (Zaf (we_neS (re_w (we_lenQ (re_w (ZaG (Zaa rfl))))) (re_w (we_lenQ (re_w (ZaG (Zaa rfl))))))) rfl) ?_ ?_
        ·exact Zav (Zae Zee rfl)
        ·refine Zag ?_
         refine zm_forC [2] (fun (_:Unit)=>[(.val dU told_here),(.val dU due),.no]) (fun r=>.val dBool r) () (wlen 3 (by exact rfl) (by exact rfl) (by decide)) rfl (fun _=>(wlen 3 (by exact rfl) (by exact rfl) (by decide))) (ie_eq (ZdS (re_w (we_lenQ (re_w (ZaG (Zaa rfl)))))) rfl) (fun _ x8=>(ZaT rfl ⟨(wlen 3 (by exact rfl) (by exact rfl) (by decide)),?_⟩)) rt_KF fun _=>?_
         ·refine Zai ?_
          refine ZbU (Zap (Zdk (te_B (ZbQ ZdF rfl (ZaI (ZaG (Zaa rfl)) (re_w (Zaa rfl))) (ZaI (ZaG (Zaa rfl)) (re_w (Zaa rfl)))))) rfl) ?_ ?_
          ·exact Zci (Zae Zee rfl)
          ·refine Zag ?_
           exact ZbJ rfl
         ·refine Zai ?_
          exact Zav (Zae Zee rfl)
end K81
namespace K81
open PySem L2 G PM
set_option maxHeartbeats 4000000 in
theorem ok_l_written {P:Program} {w:World} {K:PySem.W.Frag} {mg:Str→Option Value} {base:Heap} (T:Txt K mg):∀ n:Nat,FnOk P w K mg base (L2.CX P w) (n+1) T.a_l_written T.f_l_written ["_law_program_here"] (Zdc n ⟨P,w,K⟩ T.A):=by
 have nd:=sc_l_written.nd
 intro n
 induction n with
 | zero =>
  refine T.F_l_written.okX sc_l_written (fun vs H Q E h=>?_) (fun cdv A outer s H vs Q E hr h=>?_)
  ·exact ZeB h
  ·obtain ⟨program_here,nb,_⟩:=h;exact absurd rfl nb
 | succ fl G_l_written =>
  refine T.F_l_written.okX sc_l_written (fun vs H Q E h=>?_) (fun cdv A outer s H vs Q E hr h=>?_)
  ·exact ZeB h
  have hu:=hu_of hr
  refine ⟨_,(pss_cons (ps_if (pt_cmpR op_eq (pe_ix (Zbs K) (pv 0) pe_int (fun _ _=>rfl)) pe_str (nomark _))
    (pss_one (ps_ret (pe_ix (Zbs K) (pv 0) pe_int (fun _ _=>rfl))))
    pss_nil)
   (pss_cons (ps_if (pt_cmpR op_eq (pe_ix (Zbs K) (pv 0) pe_int (fun _ _=>rfl)) pe_str (nomark _))
    (pss_one (ps_ret (pe_op Zbm (pe_op Zbm (pe_op Zbm (pe_op Zbm pe_str (pe_ix (Zbs K) (pv 0) pe_int (fun _ _=>rfl))) pe_str) (pe_callS G_l_written (hr.mono (by omega)) (by rfl) T.g_l_written T.F_l_written.kp T.d_l_written (fun σ=>passAt (takes_of rfl rfl rfl rfl) σ) (pa_cons (pe_ix (Zbs K) (pv 0) pe_int (fun _ _=>rfl)) pa_nil))) pe_str)))
    pss_nil)
   (pss_one (ps_ret (pe_op Zbm (pe_op Zbm (pe_op Zbm (pe_op Zbm pe_str (pe_callS G_l_written (hr.mono (by omega)) (by rfl) T.g_l_written T.F_l_written.kp T.d_l_written (fun σ=>passAt (takes_of rfl rfl rfl rfl) σ) (pa_cons (pe_ix (Zbs K) (pv 0) pe_int (fun _ _=>rfl)) pa_nil))) pe_str) (pe_callS G_l_written (hr.mono (by omega)) (by rfl) T.g_l_written T.F_l_written.kp T.d_l_written (fun σ=>passAt (takes_of rfl rfl rfl rfl) σ) (pa_cons (pe_ix (Zbs K) (pv 0) pe_int (fun _ _=>rfl)) pa_nil))) pe_str))))),?_⟩
  try dsimp only [cxOf]
  obtain ⟨program_here,nb,h⟩:=h
  refine Zm.body (js:=[0]) (m:=Zbg (fl+1) program_here) nb h ?_
  refine ZcE (Γ2:=[(.val dUI program_here)]) rfl ?_
  show Zm _ _ _ _ _ _ (Zbj (Zbg fl) program_here)
  delta Zbj
  refine ZbU (Zap (Zaf (ZaS (re_w (ZaB (ZaI (ZaG (Zam (Zaa rfl))) (re_w Zac)))) (re_w Zad))) rfl) ?_ ?_
  ·exact Zav (Zae (ZaB (ZaI (ZaG (Zam (Zaa rfl))) (re_w Zac))) rfl)
  ·refine Zag ?_
   refine ZbU (Zap (Zaf (ZaS (re_w (ZaB (ZaI (ZaG (Zam (Zaa rfl))) (re_w Zac)))) (re_w Zad))) rfl) ?_ ?_
   ·exact Zav (Zae (Zbl (Zbl (Zbl (Zbl Zad (ZaB (ZaI (ZaG (Zam (Zaa rfl))) (re_w Zac)))) Zad) (ZaF ZcL rfl (ZaB (d:=dUI) (ZaI (ZaG (Zam (Zaa rfl))) (re_w Zac))))) Zad) rfl)
   ·refine Zag ?_
    refine Zai ?_
    exact Zav (Zae (Zbl (Zbl (Zbl (Zbl Zad (ZaF ZcL rfl (ZaB (d:=dUI) (ZaI (ZaG (Zam (Zaa rfl))) (re_w Zac))))) Zad) (ZaF ZcL rfl (ZaB (d:=dUI) (ZaI (ZaG (Zam (Zaa rfl))) (re_w Zac))))) Zad) rfl)
end K81
namespace K81
open PySem L2 G PM
set_option maxHeartbeats 4000000 in
theorem ok_l_bad_sign {P:Program} {w:World} {K:PySem.W.Frag} {mg:Str→Option Value} {base:Heap} (T:Txt K mg):FnOk P w K mg base (L2.CX P w) 1 T.a_l_bad_sign T.f_l_bad_sign ["_law_text"] (Zdq ⟨P,w,K⟩ T.A):=by
 have nd:=sc_l_bad_sign.nd
 refine T.F_l_bad_sign.okX sc_l_bad_sign (fun vs H Q E h=>?_) (fun cdv A outer s H vs Q E hr h=>?_)
 ·exact sp_l_bad_sign_len h
 have hu:=hu_of hr
 refine ⟨_,(pss_cons (ps_set (i:=1) nd rfl (Or.inl rfl) (pe_lst (pa_cons pe_str pa_nil)))
   (pss_cons (ps_set (i:=2) nd rfl (Or.inl rfl) pe_bl)
   (pss_cons (ps_for (passes_of rfl) rfl (pi_range1 (by rfl) T.b_range (pa_cons (pe_callB call_len_str (by rfl) T.b_len (by decide +kernel) (pa_cons (pv 0) pa_nil)) pa_nil)) (pg_name (i:=3) nd rfl (Or.inl rfl))
    (pss_one (ps_if (pt_cmpR op_inSg (pe_ix ix_str (pv 0) (pv 3) (fun _ _=>rfl)) pe_str (by with_unfolding_all rfl))
    (pss_cons (ps_if (pt_not (pt_val (pv 2)))
    (pss_cons (ps_if (PW.pt (pw_or (pt_cmpR op_eq (pe_callB (len_K K) (by rfl) T.b_len (by decide +kernel) (pa_cons (pv 1) pa_nil)) pe_int (nomark _)) (pw_or1 (PW.pt (pw_and (pt_cmpR op_ne (pe_ix (Zdi K) (pv 1) (pe_un un_neg pe_int) (fun _ _=>rfl)) pe_str (nomark _)) (pw_and1 (pt_cmpR op_ne (pe_ix (Zdi K) (pv 1) (pe_un un_neg pe_int) (fun _ _=>rfl)) pe_str (nomark _))))))))
    (pss_one (ps_ret (pv 3)))
    pss_nil)
   (pss_one (ps_expr (bm0_K K PySem.F.plainAttrs_list PySem.F.slot_list_pop PySem.F.type_list_pop mt_pop (pv 1)))))
    pss_nil)
   (pss_one (ps_set (i:=2) nd rfl (Or.inl rfl) pe_bl)))
    (pss_cons (ps_set (i:=2) nd rfl (Or.inl rfl) pe_bl)
   (pss_cons (ps_if (pt_cmpR op_eq (pe_callB (len_K K) (by rfl) T.b_len (by decide +kernel) (pa_cons (pv 1) pa_nil)) pe_int (nomark _))
    (pss_one (ps_ret (pv 3)))
    pss_nil)
   (pss_cons (ps_set (i:=4) nd rfl (Or.inl rfl) (bm0_K K PySem.F.plainAttrs_list PySem.F.slot_list_pop PySem.F.type_list_pop mt_pop (pv 1)))
   (pss_one (ps_if (PW.pt (pw_and (pt_cmpR op_eq (pv 4) pe_str (nomark _)) (pw_and1 (pt_cmpR op_eq (pe_ix ix_str (pv 0) (pv 3) (fun _ _=>rfl)) pe_str (nomark _)))))
    (pss_one (ps_set (i:=1) nd rfl (Or.inl rfl) (pe_op ZcS (pv 1) (pe_lst (pa_cons pe_str (pa_cons pe_str (pa_cons pe_str (pa_cons pe_str pa_nil))))))))
    (pss_one (ps_if (PW.pt (pw_and (pt_cmpR op_eq (pv 4) pe_str (nomark _)) (pw_and1 (pt_cmpR op_eq (pe_ix ix_str (pv 0) (pv 3) (fun _ _=>rfl)) pe_str (nomark _)))))
    (pss_one (ps_set (i:=1) nd rfl (Or.inl rfl) (pe_op ZcS (pv 1) (pe_lst (pa_cons pe_str (pa_cons pe_str (pa_cons pe_str (pa_cons pe_str pa_nil))))))))
    (pss_one (ps_if (pt_cmpR op_ne (pv 4) (pe_ix ix_str (pv 0) (pv 3) (fun _ _=>rfl)) (nomark _))
    (pss_one (ps_ret (pv 3)))
    pss_nil))))))))))))
   (pss_cons (ps_if (pt_cmpR op_gt (pe_callB (len_K K) (by rfl) T.b_len (by decide +kernel) (pa_cons (pv 1) pa_nil)) pe_int (nomark _))
    (pss_one (ps_ret (pe_callB call_len_str (by rfl) T.b_len (by decide +kernel) (pa_cons (pv 0) pa_nil))))
    pss_nil)
   (pss_one (ps_ret (pe_un un_neg pe_int))))))),?_⟩
 try dsimp only [cxOf]
 obtain ⟨text,nb,h⟩:=h
 refine Zm.body (js:=[0,1,2,3,4]) (m:=Zbo text) nb h ?_
 refine ZcE (Γ2:=[(.val dStr text),.no,.no,.no,.no]) rfl ?_
 delta Zbo
 refine ZcF (i:=1) rfl (by decide) (ZdZ (Zcc (Zaj Zad Zca) (ZaH ZcT) (by decide)) rfl) fun due_1=>?_
 refine Zau (i:=2) rfl (by decide) (Zae Zee rfl) fun inside_2=>?_
 refine zm_forC [3,4] (fun s3=>[(.val dStr text),(.own (dList (d:=dStr)) (oList (d:=dStr)) none s3.1),(.val dBool s3.2),.no,.no]) (fun r=>.val dInt r) (due_1,inside_2) (wlen 5 (by exact rfl) (by exact rfl) (by decide)) rfl (fun _=>(wlen 5 (by exact rfl) (by exact rfl) (by decide))) (ie_eq (ZdS (re_w (ZbV (re_w (Zaa rfl))))) rfl) (fun s3 x5=>(ZaT rfl ⟨(wlen 5 (by exact rfl) (by exact rfl) (by decide)),?_⟩)) rt_KF fun s25=>?_
 ·refine Zai ?_
  refine ZbU (Zap (Zaf (we_inSg (ZeI (Zaa rfl) (Zaa rfl)) Zad)) rfl) ?_ ?_
  ·refine Zaq ?_
   refine ZaC (Zap (Zdk (te_B (Zaa rfl))) rfl) ?_ ?_
   ·refine Zaq ?_
    refine ZbU (Zap (te_or (Zaf (ZaS (re_w (ZcU (ZbK rfl))) (re_w Zac))) (ZeL (Zaf (we_neS (re_w (ZeJ rfl (re_w (we_neg (re_w Zac))))) (re_w Zad))) (Zaf (we_neS (re_w (ZeJ rfl (re_w (we_neg (re_w Zac))))) (re_w Zad))))) rfl) ?_ ?_
    ·exact Zci (Zae (Zaa rfl) rfl)
    ·refine Zag ?_
     refine Zdy (i:=1) rfl (by decide) fun p10=>?_
     refine Zau (i:=2) rfl (by decide) (Zae Zee rfl) fun inside_11=>?_
     exact ZbJ rfl
   ·refine Zag ?_
    refine Zau (i:=2) rfl (by decide) (Zae Zee rfl) fun inside_13=>?_
    exact ZbJ rfl
  ·refine Zaq ?_
   refine Zau (i:=2) rfl (by decide) (Zae Zee rfl) fun inside_14=>?_
   refine Zaq ?_
   refine ZaC (Zap (Zaf (ZaS (re_w (ZcU (ZbK rfl))) (re_w Zac))) rfl) ?_ ?_
   ·exact Zci (Zae (Zaa rfl) rfl)
   ·refine Zag ?_
    refine Zaq ?_
    refine zm_pop (i:=1) (j:=4) rfl rfl rfl (by decide) (by decide) fun p15=>?_
    refine ZbU (Zap (ZeL (Zaf (ZaS (re_w (Zaa rfl)) (re_w Zad))) (Zaf (ZaS (re_w (ZeI (Zaa rfl) (Zaa rfl))) (re_w Zad)))) rfl) ?_ ?_
    ·refine zm_frz 1 rfl (by decide) ?_
     refine ZcF (i:=1) rfl (by decide) (ZdZ (ZdR (Zaa rfl) (we_o (Zcc (Zaj Zad (Zaj Zad (Zaj Zad (Zaj Zad Zca)))) (ZaH (ZaH (ZaH (ZaH ZcT)))) (by decide)))) rfl) fun due_17=>?_
     exact ZbJ rfl
    ·refine ZbU (Zap (ZeL (Zaf (ZaS (re_w (Zaa rfl)) (re_w Zad))) (Zaf (ZaS (re_w (ZeI (Zaa rfl) (Zaa rfl))) (re_w Zad)))) rfl) ?_ ?_
     ·refine zm_frz 1 rfl (by decide) ?_
      refine ZcF (i:=1) rfl (by decide) (ZdZ (ZdR (Zaa rfl) (we_o (Zcc (Zaj Zad (Zaj Zad (Zaj Zad (Zaj Zad Zca)))) (ZaH (ZaH (ZaH (ZaH ZcT)))) (by decide)))) rfl) fun due_19=>?_
      exact ZbJ rfl
     ·refine ZbU (Zap (Zaf (we_neS (re_w (Zaa rfl)) (re_w (ZeI (Zaa rfl) (Zaa rfl))))) rfl) ?_ ?_
      ·exact Zci (Zae (Zaa rfl) rfl)
      ·refine Zag ?_
       exact ZbJ rfl
 ·refine ZaC (Zap (Zaf (we_gt (re_w (ZcU (ZbK rfl))) (re_w Zac))) rfl) ?_ ?_
  ·exact Zav (Zae (ZbV (re_w (Zaa rfl))) rfl)
  ·refine Zag ?_
   refine Zai ?_
   exact Zav (Zae (we_neg (re_w Zac)) rfl)
end K81
namespace K81
open PySem L2 G PM
set_option maxHeartbeats 4000000 in
theorem ok_l_tree {P:Program} {w:World} {K:PySem.W.Frag} {mg:Str→Option Value} {base:Heap} (T:Txt K mg):FnOk P w K mg base (L2.CX P w) 1 T.a_l_tree T.f_l_tree ["_law_text"] (sp_l_tree ⟨P,w,K⟩ T.A):=by
 have nd:=sc_l_tree.nd
 refine T.F_l_tree.okX sc_l_tree (fun vs H Q E h=>?_) (fun cdv A outer s H vs Q E hr h=>?_)
 ·exact sp_l_tree_len h
 have hu:=hu_of hr
 refine ⟨_,(pss_cons (ps_set (i:=1) nd rfl (Or.inl rfl) (pe_lst (pa_cons (pe_lst pa_nil) pa_nil)))
   (pss_cons (ps_set (i:=2) nd rfl (Or.inl rfl) pe_str)
   (pss_cons (ps_for (passes_of rfl) rfl (pi_str (pe_op Zbm (pv 0) pe_str)) (pg_name (i:=3) nd rfl (Or.inl rfl))
    (pss_one (ps_if (pt_cmpR op_inSg (pv 3) pe_str (by with_unfolding_all rfl))
    (pss_one (ps_set (i:=2) nd rfl (Or.inl rfl) (pe_op Zbm (pv 2) (pv 3))))
    (pss_cons (ps_if (pt_cmpR op_ne (pv 2) pe_str (nomark _))
    (pss_cons (ps_expr (bm_K K PySem.F.plainAttrs_list PySem.F.slot_list_append PySem.F.type_list_append mt_append (pe_ix (Zdi K) (pv 1) (pe_un un_neg pe_int) (fun _ _=>rfl)) (pa_cons (pe_tup (pa_cons pe_str (pa_cons (pv 2) pa_nil))) pa_nil)))
   (pss_one (ps_set (i:=2) nd rfl (Or.inl rfl) pe_str)))
    pss_nil)
   (pss_cons (ps_if (PW.pt (pw_or (pt_cmpR op_eq (pv 3) pe_str (nomark _)) (pw_or1 (pt_cmpR op_eq (pv 3) pe_str (nomark _)))))
    (pss_one (ps_expr (bm_K K PySem.F.plainAttrs_list PySem.F.slot_list_append PySem.F.type_list_append mt_append (pv 1) (pa_cons (pe_lst pa_nil) pa_nil))))
    pss_nil)
   (pss_cons (ps_if (pt_cmpR op_eq (pv 3) pe_str (nomark _))
    (pss_cons (ps_set (i:=4) nd rfl (Or.inl rfl) (bm0_K K PySem.F.plainAttrs_list PySem.F.slot_list_pop PySem.F.type_list_pop mt_pop (pv 1)))
   (pss_one (ps_expr (bm_K K PySem.F.plainAttrs_list PySem.F.slot_list_append PySem.F.type_list_append mt_append (pe_ix (Zdi K) (pv 1) (pe_un un_neg pe_int) (fun _ _=>rfl)) (pa_cons (pe_tup (pa_cons pe_str (pa_cons (pe_ix (Zbs K) (pe_ix (Zdi K) (pv 4) pe_int (fun _ _=>rfl)) pe_int (fun _ _=>rfl)) (pa_cons (pe_ix (Zdi K) (pv 4) pe_int (fun _ _=>rfl)) pa_nil)))) pa_nil)))))
    pss_nil)
   (pss_one (ps_if (pt_cmpR op_eq (pv 3) pe_str (nomark _))
    (pss_cons (ps_set (i:=4) nd rfl (Or.inl rfl) (bm0_K K PySem.F.plainAttrs_list PySem.F.slot_list_pop PySem.F.type_list_pop mt_pop (pv 1)))
   (pss_one (ps_expr (bm_K K PySem.F.plainAttrs_list PySem.F.slot_list_append PySem.F.type_list_append mt_append (pe_ix (Zdi K) (pv 1) (pe_un un_neg pe_int) (fun _ _=>rfl)) (pa_cons (pe_tup (pa_cons pe_str (pa_cons (pe_ix (Zdi K) (pv 4) pe_int (fun _ _=>rfl)) (pa_cons (pe_ix (Zdi K) (pv 4) pe_int (fun _ _=>rfl)) pa_nil)))) pa_nil)))))
    pss_nil))))))))
   (pss_one (ps_ret (pe_ix (Zdi K) (pe_ix (Zdi K) (pv 1) pe_int (fun _ _=>rfl)) pe_int (fun _ _=>rfl))))))),?_⟩
 try dsimp only [cxOf]
 obtain ⟨text,nb,h⟩:=h
 refine Zm.body (js:=[0,1,2,3,4]) (m:=ZcC text) nb h ?_
 refine ZcE (Γ2:=[(.val dStr text),.no,.no,.no,.no]) rfl ?_
 delta ZcC
 refine ZcF (i:=1) rfl (by decide) (ZdZ (oe_lst1O (ZdC (d:=dUI))) rfl) fun stack_1=>?_
 refine Zau (i:=2) rfl (by decide) (Zae Zad rfl) fun name_2=>?_
 refine zm_for [3,4] (fun s3=>[(.val dStr text),(.own (dList (d:=(dList (d:=dUI)))) (Zea (oList (d:=dUI))) none s3.1),(.val dStr s3.2),.no,.no]) (stack_1,name_2) (wlen 5 (by exact rfl) (by exact rfl) (by decide)) rfl (fun _=>(wlen 5 (by exact rfl) (by exact rfl) (by decide))) (ie_eq (ie_str (Zbl (Zaa rfl) Zad)) rfl) (fun s3 x5=>(ZaT rfl ⟨(wlen 5 (by exact rfl) (by exact rfl) (by decide)),?_⟩)) fun s26=>?_
 ·refine Zai ?_
  refine ZbU (Zap (Zaf (we_inSg (Zaa rfl) Zad)) rfl) ?_ ?_
  ·refine Zau (i:=2) rfl (by decide) (Zae (Zbl (Zaa rfl) (Zaa rfl)) rfl) fun name_6=>?_
   exact ZbP rfl
  ·refine Zaq ?_
   refine ZcM [] (fun s9=>[(.val dStr text),(.own (dList (d:=(dList (d:=dUI)))) (Zea (oList (d:=dUI))) none s9.1),(.val dStr s9.2),(.val dStr x5),.no]) (fun _=>(wlen 5 (by exact rfl) (by exact rfl) (by decide))) ?_ fun s9=>?_
   ·refine Zai (ZaC (Zap (Zaf (we_neS (re_w (Zaa rfl)) (re_w Zad))) rfl) ?_ ?_)
    ·refine Zaq ?_
     refine zm_appendIx (i:=1) rfl (by decide) (ZdY (re_w (we_neg (re_w Zac))) rfl) (Zae (Zbp (Zaw Zad) (Zaw (Zaa rfl))) rfl) fun stack_7=>?_
     refine Zau (i:=2) rfl (by decide) (Zae Zad rfl) fun name_8=>?_
     exact ZaN rfl
    ·refine Zag ?_
     exact ZaN rfl
   ·refine Zaq ?_
    refine ZcM [] (fun s11=>[(.val dStr text),(.own (dList (d:=(dList (d:=dUI)))) (Zea (oList (d:=dUI))) none s11),(.val dStr s9.2),(.val dStr x5),.no]) (fun _=>(wlen 5 (by exact rfl) (by exact rfl) (by decide))) ?_ fun s11=>?_
    ·refine Zai (ZaC (Zap (te_orP (Zaf (ZaS (re_w (Zaa rfl)) (re_w Zad))) (Zaf (ZaS (re_w (Zaa rfl)) (re_w Zad)))) rfl) ?_ ?_)
     ·refine zm_pushO (i:=1) rfl (by decide) (ZdZ (ZdC (d:=dUI)) rfl) fun stack_10=>?_
      exact ZaN rfl
     ·refine Zag ?_
      exact ZaN rfl
    ·refine Zaq ?_
     refine ZcM [4] (fun s20=>[(.val dStr text),(.own (dList (d:=(dList (d:=dUI)))) (Zea (oList (d:=dUI))) none s20),(.val dStr s9.2),(.val dStr x5),.no]) (fun _=>(wlen 5 (by exact rfl) (by exact rfl) (by decide))) ?_ fun s20=>?_
     ·refine Zai (ZaC (Zap (Zaf (ZaS (re_w (Zaa rfl)) (re_w Zad))) rfl) ?_ ?_)
      ·refine Zaq ?_
       refine zm_popO (i:=1) (j:=4) rfl rfl rfl (by decide) (by decide) fun p12=>?_
       refine zm_appendIx (i:=1) rfl (by decide) (ZdY (re_w (we_neg (re_w Zac))) rfl) (Zae (ZaA (Zaw Zad) (Zaw (ZaB (ZaI (ZaG (Zam (ZeJ rfl (re_w Zac)))) (re_w Zac)))) (ZeJ rfl (re_w Zac))) rfl) fun stack_19=>?_
       exact ZaN rfl
      ·refine Zag ?_
       exact ZaN rfl
     ·refine ZaC (Zap (Zaf (ZaS (re_w (Zaa rfl)) (re_w Zad))) rfl) ?_ ?_
      ·refine Zaq ?_
       refine zm_popO (i:=1) (j:=4) rfl rfl rfl (by decide) (by decide) fun p21=>?_
       refine zm_appendIx (i:=1) rfl (by decide) (ZdY (re_w (we_neg (re_w Zac))) rfl) (Zae (ZaA (Zaw Zad) (ZeJ rfl (re_w Zac)) (ZeJ rfl (re_w Zac))) rfl) fun stack_24=>?_
       exact ZbP rfl
      ·refine Zag ?_
       exact ZbP rfl
 ·refine Zai ?_
  refine zm_frz 1 rfl (by decide) ?_
  exact Zav (Zae (we_ix (we_ix (Zaa rfl) (re_w Zac)) (re_w Zac)) rfl)
end K81
namespace K81
open PySem L2 G PM
set_option maxHeartbeats 4000000 in
theorem ok_p_format_program {P:Program} {w:World} {K:PySem.W.Frag} {mg:Str→Option Value} {base:Heap} (T:Txt K mg):∀ n:Nat,FnOk P w K mg base (L2.CX P w) (n+1) T.a_p_format_program T.f_p_format_program ["program"] (ZbC n ⟨P,w,K⟩ T.A):=by
 have nd:=ZcG.nd
 intro n
 induction n with
 | zero =>
  refine T.F_p_format_program.okX ZcG (fun vs H Q E h=>?_) (fun cdv A outer s H vs Q E hr h=>?_)
  ·exact ZcN h
  ·obtain ⟨program,nb,_⟩:=h;exact absurd rfl nb
 | succ fl G_p_format_program =>
  refine T.F_p_format_program.okX ZcG (fun vs H Q E h=>?_) (fun cdv A outer s H vs Q E hr h=>?_)
  ·exact ZcN h
  have hu:=hu_of hr
  refine ⟨_,(pss_cons (ps_if (pt_cmpR op_eq (pe_ix (Zbs K) (pv 0) pe_int (fun _ _=>rfl)) pe_str (nomark _))
    (pss_one (ps_ret (pe_ix (Zbs K) (pv 0) pe_int (fun _ _=>rfl))))
    pss_nil)
   (pss_cons (ps_if (pt_cmpR op_eq (pe_ix (Zbs K) (pv 0) pe_int (fun _ _=>rfl)) pe_str (nomark _))
    (pss_one (ps_ret (pe_joined (PJ.cons pe_str (PJ.cons (pe_fmt (pe_ix (Zbs K) (pv 0) pe_int (fun _ _=>rfl))) (PJ.cons pe_str (PJ.cons (pe_fmt (pe_callS G_p_format_program (hr.mono (by omega)) (by rfl) T.g_p_format_program T.F_p_format_program.kp T.d_p_format_program (fun σ=>passAt (takes_of rfl rfl rfl rfl) σ) (pa_cons (pe_ix (Zbs K) (pv 0) pe_int (fun _ _=>rfl)) pa_nil))) (PJ.cons pe_str PJ.nil))))))))
    pss_nil)
   (pss_one (ps_ret (pe_joined (PJ.cons pe_str (PJ.cons (pe_fmt (pe_callS G_p_format_program (hr.mono (by omega)) (by rfl) T.g_p_format_program T.F_p_format_program.kp T.d_p_format_program (fun σ=>passAt (takes_of rfl rfl rfl rfl) σ) (pa_cons (pe_ix (Zbs K) (pv 0) pe_int (fun _ _=>rfl)) pa_nil))) (PJ.cons pe_str (PJ.cons (pe_fmt (pe_callS G_p_format_program (hr.mono (by omega)) (by rfl) T.g_p_format_program T.F_p_format_program.kp T.d_p_format_program (fun σ=>passAt (takes_of rfl rfl rfl rfl) σ) (pa_cons (pe_ix (Zbs K) (pv 0) pe_int (fun _ _=>rfl)) pa_nil))) (PJ.cons pe_str PJ.nil)))))))))),?_⟩
  try dsimp only [cxOf]
  obtain ⟨program,nb,h⟩:=h
  refine Zm.body (js:=[0]) (m:=Zao (fl+1) program) nb h ?_
  refine ZcE (Γ2:=[(.val dUI program)]) rfl ?_
  show Zm _ _ _ _ _ _ (Zaz (Zao fl) program)
  delta Zaz
  refine ZbU (Zap (Zaf (ZaS (re_w (ZaB (ZaI (ZaG (Zam (Zaa rfl))) (re_w Zac)))) (re_w Zad))) rfl) ?_ ?_
  ·exact Zav (Zae (ZaB (ZaI (ZaG (Zam (Zaa rfl))) (re_w Zac))) rfl)
  ·refine Zag ?_
   refine ZbU (Zap (Zaf (ZaS (re_w (ZaB (ZaI (ZaG (Zam (Zaa rfl))) (re_w Zac)))) (re_w Zad))) rfl) ?_ ?_
   ·exact Zav (Zae (Zae (we_js (js_str (js_S (ZaB (ZaI (ZaG (Zam (Zaa rfl))) (re_w Zac))) (js_str (js_S (ZaF ZbI rfl (ZaB (d:=dUI) (ZaI (ZaG (Zam (Zaa rfl))) (re_w Zac)))) (js_str js_nil)))))) rfl) rfl)
   ·refine Zag ?_
    refine Zai ?_
    exact Zav (Zae (Zae (we_js (js_str (js_S (ZaF ZbI rfl (ZaB (d:=dUI) (ZaI (ZaG (Zam (Zaa rfl))) (re_w Zac)))) (js_str (js_S (ZaF ZbI rfl (ZaB (d:=dUI) (ZaI (ZaG (Zam (Zaa rfl))) (re_w Zac)))) (js_str js_nil)))))) rfl) rfl)
end K81
namespace K81
open PySem L2 G PM
set_option maxHeartbeats 4000000 in
theorem ok_l_text_right {P:Program} {w:World} {K:PySem.W.Frag} {mg:Str→Option Value} {base:Heap} (T:Txt K mg) (G_l_told:FnOk P w K mg base (L2.CX P w) 106 T.a_l_told T.f_l_told ["_law_program_here","_law_text","_law_reads"] (ZeM ⟨P,w,K⟩ T.A)) (G_l_bad_sign:FnOk P w K mg base (L2.CX P w) 1 T.a_l_bad_sign T.f_l_bad_sign ["_law_text"] (Zdq ⟨P,w,K⟩ T.A)) (G_l_same:∀ n:Nat,FnOk P w K mg base (L2.CX P w) (n+1) T.a_l_same T.f_l_same ["_law_told_here","_law_due"] (ZeO n ⟨P,w,K⟩ T.A)) (G_l_tree:FnOk P w K mg base (L2.CX P w) 1 T.a_l_tree T.f_l_tree ["_law_text"] (sp_l_tree ⟨P,w,K⟩ T.A)) (G_l_fault:FnOk P w K mg base (L2.CX P w) 102 T.a_l_fault T.f_l_fault ["_law_program_here"] (Zdu ⟨P,w,K⟩ T.A)) (G_p_format_program:∀ n:Nat,FnOk P w K mg base (L2.CX P w) (n+1) T.a_p_format_program T.f_p_format_program ["program"] (ZbC n ⟨P,w,K⟩ T.A)):FnOk P w K mg base (L2.CX P w) 107 T.a_l_text_right T.f_l_text_right ["_law_text"] (Zco ⟨P,w,K⟩ T.A):=by
 have nd:=sc_l_text_right.nd
 refine T.F_l_text_right.okX sc_l_text_right (fun vs H Q E h=>?_) (fun cdv A outer s H vs Q E hr h=>?_)
 ·exact sp_l_text_right_len h
 have hu:=hu_of hr
 refine ⟨_,(pss_cons (ps_asg (pe_callS G_l_told (hr.mono (by decide)) (by rfl) T.g_l_told T.F_l_told.kp T.d_l_told (fun σ=>passAt (takes_of rfl rfl rfl rfl) σ) (pa_cons pe_non (pa_cons (pv 0) (pa_cons pe_bl pa_nil)))) (pg_tupK (n:=2) K (by rfl) (pgs_cons (pg_name (i:=1) nd rfl (Or.inl rfl)) (pgs_cons (pg_name (i:=2) nd rfl (Or.inl rfl)) pgs_nil))))
   (pss_cons (ps_set (i:=3) nd rfl (Or.inl rfl) (pe_callS G_l_bad_sign (hr.mono (by decide)) (by rfl) T.g_l_bad_sign T.F_l_bad_sign.kp T.d_l_bad_sign (fun σ=>passAt (takes_of rfl rfl rfl rfl) σ) (pa_cons (pv 0) pa_nil)))
   (pss_cons (ps_if (pt_cmpR op_ge (pv 3) pe_int (nomark _))
    (pss_one (ps_ret (pe_callS (G_l_same 100) (hr.mono (by decide)) (by rfl) T.g_l_same T.F_l_same.kp T.d_l_same (fun σ=>passAt (takes_of rfl rfl rfl rfl) σ) (pa_cons (pv 1) (pa_cons (pe_tup (pa_cons pe_str (pa_cons (pv 3) pa_nil))) pa_nil)))))
    pss_nil)
   (pss_cons (ps_set (i:=4) nd rfl (Or.inl rfl) (pe_callS G_l_tree (hr.mono (by decide)) (by rfl) T.g_l_tree T.F_l_tree.kp T.d_l_tree (fun σ=>passAt (takes_of rfl rfl rfl rfl) σ) (pa_cons (pv 0) pa_nil)))
   (pss_cons (ps_set (i:=5) nd rfl (Or.inl rfl) (pe_callS G_l_fault (hr.mono (by decide)) (by rfl) T.g_l_fault T.F_l_fault.kp T.d_l_fault (fun σ=>passAt (takes_of rfl rfl rfl rfl) σ) (pa_cons (pv 4) pa_nil)))
   (pss_cons (ps_if (pt_not (pt_val (pe_callS (G_l_same 100) (hr.mono (by decide)) (by rfl) T.g_l_same T.F_l_same.kp T.d_l_same (fun σ=>passAt (takes_of rfl rfl rfl rfl) σ) (pa_cons (pv 1) (pa_cons (pv 5) pa_nil)))))
    (pss_one (ps_ret pe_bl))
    pss_nil)
   (pss_cons (ps_if (pt_cmpR op_notN (pv 5) pe_non (nomark _))
    (pss_one (ps_ret pe_bl))
    pss_nil)
   (pss_one (ps_ret (pe_and (pe_callS (G_l_same 100) (hr.mono (by decide)) (by rfl) T.g_l_same T.F_l_same.kp T.d_l_same (fun σ=>passAt (takes_of rfl rfl rfl rfl) σ) (pa_cons (pv 2) (pa_cons (pv 4) pa_nil))) (pe_one (pe_callS (G_l_same 100) (hr.mono (by decide)) (by rfl) T.g_l_same T.F_l_same.kp T.d_l_same (fun σ=>passAt (takes_of rfl rfl rfl rfl) σ) (pa_cons (pe_callS (G_p_format_program 100) (hr.mono (by decide)) (by rfl) T.g_p_format_program T.F_p_format_program.kp T.d_p_format_program (fun σ=>passAt (takes_of rfl rfl rfl rfl) σ) (pa_cons (pv 2) pa_nil)) (pa_cons (pv 0) pa_nil)))))))))))))),?_⟩
 try dsimp only [cxOf]
 obtain ⟨text,nb,h⟩:=h
 refine Zm.body (js:=[0,1,2,3,4,5]) (m:=ZaK text) nb h ?_
 refine ZcE (Γ2:=[(.val dStr text),.no,.no,.no,.no,.no]) rfl ?_
 delta ZaK
 refine Zeq (Zae (ZaD hs_l_told rfl (Zaw we_non) (Zaa rfl) Zee) rfl) fun t1=>(a_pair rfl (ZaT rfl (ZaT rfl ⟨(wlen 6 (by exact rfl) (by exact rfl) (by decide)),?_⟩)))
 refine Zau (i:=3) rfl (by decide) (Zae (ZaF hs_l_bad_sign rfl (Zaa rfl)) rfl) fun sign_2=>?_
 refine ZaC (Zap (Zaf (we_ge (re_w (Zaa rfl)) (re_w Zac))) rfl) ?_ ?_
 ·exact Zav (Zae (ZbQ ZdF rfl (Zaa rfl) (we_U (ZbB Zad (Zaa rfl)))) rfl)
 ·refine Zag ?_
  refine Zau (i:=4) rfl (by decide) (Zae (Zam (ZaF hs_l_tree rfl (Zaa rfl))) rfl) fun tree_here_3=>?_
  refine Zau (i:=5) rfl (by decide) (Zae (ZaF hs_l_fault rfl (ZaB (d:=dUI) (Zaa rfl))) rfl) fun due_5=>?_
  refine ZbU (Zap (Zdk (te_B (ZbQ ZdF rfl (Zaa rfl) (Zaa rfl)))) rfl) ?_ ?_
  ·exact Zav (Zae Zee rfl)
  ·refine Zag ?_
   refine ZaC (Zap (Zaf (we_notNU (re_w (Zaa rfl)))) rfl) ?_ ?_
   ·exact Zav (Zae Zee rfl)
   ·refine Zag ?_
    refine Zai ?_
    exact Zav (Zae (we_and (ZbQ ZdF rfl (Zaa rfl) (Zaa rfl)) (ZbQ ZdF rfl (we_U (ZaF ZbI rfl (ZaB (d:=dUI) (Zaa rfl)))) (we_U (Zaa rfl)))) rfl)
end K81
namespace K81
open PySem L2 G PM
set_option maxHeartbeats 4000000 in
theorem ok_l_program_right {P:Program} {w:World} {K:PySem.W.Frag} {mg:Str→Option Value} {base:Heap} (T:Txt K mg) (G_l_fault:FnOk P w K mg base (L2.CX P w) 102 T.a_l_fault T.f_l_fault ["_law_program_here"] (Zdu ⟨P,w,K⟩ T.A)) (G_l_told:FnOk P w K mg base (L2.CX P w) 106 T.a_l_told T.f_l_told ["_law_program_here","_law_text","_law_reads"] (ZeM ⟨P,w,K⟩ T.A)) (G_l_same:∀ n:Nat,FnOk P w K mg base (L2.CX P w) (n+1) T.a_l_same T.f_l_same ["_law_told_here","_law_due"] (ZeO n ⟨P,w,K⟩ T.A)) (G_l_written:∀ n:Nat,FnOk P w K mg base (L2.CX P w) (n+1) T.a_l_written T.f_l_written ["_law_program_here"] (Zdc n ⟨P,w,K⟩ T.A)) (G_l_text_right:FnOk P w K mg base (L2.CX P w) 107 T.a_l_text_right T.f_l_text_right ["_law_text"] (Zco ⟨P,w,K⟩ T.A)) (G_p_format_program:∀ n:Nat,FnOk P w K mg base (L2.CX P w) (n+1) T.a_p_format_program T.f_p_format_program ["program"] (ZbC n ⟨P,w,K⟩ T.A)):FnOk P w K mg base (L2.CX P w) 108 T.a_l_program_right T.f_l_program_right ["_law_program_here"] (Zcl ⟨P,w,K⟩ T.A):=by
 have nd:=ZdP.nd
 refine T.F_l_program_right.okX ZdP (fun vs H Q E h=>?_) (fun cdv A outer s H vs Q E hr h=>?_)
 ·exact ZeH h
 have hu:=hu_of hr
 refine ⟨_,(pss_cons (ps_set (i:=1) nd rfl (Or.inl rfl) (pe_callS G_l_fault (hr.mono (by decide)) (by rfl) T.g_l_fault T.F_l_fault.kp T.d_l_fault (fun σ=>passAt (takes_of rfl rfl rfl rfl) σ) (pa_cons (pv 0) pa_nil)))
   (pss_cons (ps_if (PW.pt (pw_or (pt_not (pt_val (pe_callS (G_l_same 100) (hr.mono (by decide)) (by rfl) T.g_l_same T.F_l_same.kp T.d_l_same (fun σ=>passAt (takes_of rfl rfl rfl rfl) σ) (pa_cons (pe_ix (ix_tK K) (pe_callS G_l_told (hr.mono (by decide)) (by rfl) T.g_l_told T.F_l_told.kp T.d_l_told (fun σ=>passAt (takes_of rfl rfl rfl rfl) σ) (pa_cons (pv 0) (pa_cons pe_str (pa_cons pe_bl pa_nil)))) pe_int (fun _ _=>rfl)) (pa_cons (pv 1) pa_nil))))) (pw_or1 (pt_not (pt_val (pe_callS G_l_text_right (hr.mono (by decide)) (by rfl) T.g_l_text_right T.F_l_text_right.kp T.d_l_text_right (fun σ=>passAt (takes_of rfl rfl rfl rfl) σ) (pa_cons (pe_callS (G_l_written 100) (hr.mono (by decide)) (by rfl) T.g_l_written T.F_l_written.kp T.d_l_written (fun σ=>passAt (takes_of rfl rfl rfl rfl) σ) (pa_cons (pv 0) pa_nil)) pa_nil)))))))
    (pss_one (ps_ret pe_bl))
    pss_nil)
   (pss_one (ps_ret (pe_or (pe_cmpR op_notN (pv 1) pe_non (nomark _)) (pe_one (pe_callS (G_l_same 100) (hr.mono (by decide)) (by rfl) T.g_l_same T.F_l_same.kp T.d_l_same (fun σ=>passAt (takes_of rfl rfl rfl rfl) σ) (pa_cons (pe_callS (G_p_format_program 100) (hr.mono (by decide)) (by rfl) T.g_p_format_program T.F_p_format_program.kp T.d_p_format_program (fun σ=>passAt (takes_of rfl rfl rfl rfl) σ) (pa_cons (pv 0) pa_nil)) (pa_cons (pe_callS (G_l_written 100) (hr.mono (by decide)) (by rfl) T.g_l_written T.F_l_written.kp T.d_l_written (fun σ=>passAt (takes_of rfl rfl rfl rfl) σ) (pa_cons (pv 0) pa_nil)) pa_nil))))))))),?_⟩
 try dsimp only [cxOf]
 obtain ⟨program_here,nb,h⟩:=h
 refine Zm.body (js:=[0,1]) (m:=Zal program_here) nb h ?_
 refine ZcE (Γ2:=[(.val dUI program_here),.no]) rfl ?_
 delta Zal
 refine Zau (i:=1) rfl (by decide) (Zae (ZaF hs_l_fault rfl (Zaa rfl)) rfl) fun due_1=>?_
 refine ZbU (Zap (te_or (Zdk (te_B (ZbQ ZdF rfl (we_fst (ZaD hs_l_told rfl (Zaa rfl) Zad Zee)) (Zaa rfl)))) (Zdk (te_B (ZaF ZdE rfl (ZaF ZcL rfl (Zaa rfl)))))) rfl) ?_ ?_
 ·exact Zav (Zae Zee rfl)
 ·refine Zag ?_
  refine Zai ?_
  exact Zav (Zae (we_or (we_notNU (re_w (Zaa rfl))) (ZbQ ZdF rfl (we_U (ZaF ZbI rfl (Zaa rfl))) (we_U (ZaF ZcL rfl (Zaa rfl))))) rfl)
end K81
namespace K81
open PySem L2 G PM
set_option maxHeartbeats 4000000 in
theorem ok_l_chain {P:Program} {w:World} {K:PySem.W.Frag} {mg:Str→Option Value} {base:Heap} (T:Txt K mg):FnOk P w K mg base (L2.CX P w) 1 T.a_l_chain T.f_l_chain ["_law_names"] (sp_l_chain ⟨P,w,K⟩ T.A):=by
 have nd:=sc_l_chain.nd
 refine T.F_l_chain.okX sc_l_chain (fun vs H Q E h=>?_) (fun cdv A outer s H vs Q E hr h=>?_)
 ·exact sp_l_chain_len h
 have hu:=hu_of hr
 refine ⟨_,(pss_cons (ps_set (i:=1) nd rfl (Or.inl rfl) (pe_tup (pa_cons pe_str (pa_cons (pe_ix (Zdi K) (pv 0) pe_int (fun _ _=>rfl)) pa_nil))))
   (pss_cons (ps_for (passes_of rfl) rfl (pi_lK K (pe_slice (sl_lK K) (pv 0) (po_some pe_int) po_none)) (pg_name (i:=2) nd rfl (Or.inl rfl))
    (pss_one (ps_set (i:=1) nd rfl (Or.inl rfl) (pe_tup (pa_cons pe_str (pa_cons (pv 1) (pa_cons (pe_tup (pa_cons pe_str (pa_cons (pv 2) pa_nil))) pa_nil)))))))
   (pss_cons (ps_for (passes_of rfl) rfl (pi_lK K (pv 0)) (pg_name (i:=2) nd rfl (Or.inl rfl))
    (pss_one (ps_set (i:=1) nd rfl (Or.inl rfl) (pe_tup (pa_cons pe_str (pa_cons (pv 2) (pa_cons (pv 1) pa_nil)))))))
   (pss_one (ps_ret (pv 1)))))),?_⟩
 try dsimp only [cxOf]
 obtain ⟨names,nb,h⟩:=h
 refine Zm.body (js:=[0,1,2]) (m:=Zce names) nb h ?_
 refine ZcE (Γ2:=[(.val (dList (d:=dStr)) names),.no,.no]) rfl ?_
 delta Zce
 refine Zau (i:=1) rfl (by decide) (Zae (Zbp (Zaw Zad) (Zaw (we_ix (Zaa rfl) (re_w Zac)))) rfl) fun program_here_3=>?_
 refine zm_for [2] (fun s4=>[(.val (dList (d:=dStr)) names),(.val dUI s4),.no]) program_here_3 (wlen 3 (by exact rfl) (by exact rfl) (by decide)) rfl (fun _=>(wlen 3 (by exact rfl) (by exact rfl) (by decide))) (ie_eq (ie_list (we_o (oe_sl (Zaa rfl) (Zba (re_w Zac)) Zcb))) rfl) (fun s4 x5=>(ZaT rfl ⟨(wlen 3 (by exact rfl) (by exact rfl) (by decide)),?_⟩)) fun s7=>?_
 ·refine Zai ?_
  refine Zau (i:=1) rfl (by decide) (Zae (ZaA (Zaw Zad) (Zaa rfl) (Zbp (Zaw Zad) (Zaw (Zaa rfl)))) rfl) fun program_here_6=>?_
  exact ZbP rfl
 ·refine zm_for [2] (fun s8=>[(.val (dList (d:=dStr)) names),(.val dUI s8),.no]) s7 (wlen 3 (by exact rfl) (by exact rfl) (by decide)) rfl (fun _=>(wlen 3 (by exact rfl) (by exact rfl) (by decide))) (ie_eq (ie_list (Zaa rfl)) rfl) (fun s8 x9=>(ZaT rfl ⟨(wlen 3 (by exact rfl) (by exact rfl) (by decide)),?_⟩)) fun s11=>?_
  ·refine Zai ?_
   refine Zau (i:=1) rfl (by decide) (Zae (ZaA (Zaw Zad) (Zaw (Zaa rfl)) (Zaa rfl)) rfl) fun program_here_10=>?_
   exact ZbP rfl
  ·refine Zai ?_
   exact Zav (Zae (Zaa rfl) rfl)
end K81
namespace K81
open PySem L2 G PM
set_option maxHeartbeats 4000000 in
theorem ok_l_name_changed {P:Program} {w:World} {K:PySem.W.Frag} {mg:Str→Option Value} {base:Heap} (T:Txt K mg):FnOk P w K mg base (L2.CX P w) 1 T.a_l_name_changed T.f_l_name_changed ["_law_program_here","_law_deed","_law_name"] (Zct ⟨P,w,K⟩ T.A):=by
 have nd:=Zeh.nd
 refine T.F_l_name_changed.okX Zeh (fun vs H Q E h=>?_) (fun cdv A outer s H vs Q E hr h=>?_)
 ·exact ZeP h
 have hu:=hu_of hr
 refine ⟨_,(pss_cons (ps_set (i:=3) nd rfl (Or.inl rfl) (pe_tup (pa_cons pe_str (pa_cons (pv 2) (pa_cons (pe_tup (pa_cons pe_str (pa_cons (pv 2) pa_nil))) pa_nil)))))
   (pss_cons (ps_set (i:=4) nd rfl (Or.inl rfl) (pe_lst (pa_cons (pe_tup (pa_cons pe_str (pa_cons (pv 2) pa_nil))) (pa_cons (pe_tup (pa_cons pe_str (pa_cons (pv 0) (pa_cons (pv 0) pa_nil)))) (pa_cons (pe_tup (pa_cons pe_str (pa_cons (pv 2) (pa_cons (pv 0) pa_nil)))) (pa_cons (pv 3) pa_nil))))))
   (pss_cons (ps_set (i:=4) nd rfl (Or.inl rfl) (pe_op ZcS (pv 4) (pe_lst (pa_cons (pe_tup (pa_cons pe_str (pa_cons (pv 0) (pa_cons (pv 3) pa_nil)))) (pa_cons (pe_tup (pa_cons pe_str (pa_cons (pv 3) (pa_cons (pv 0) pa_nil)))) (pa_cons (pe_tup (pa_cons pe_str (pa_cons (pv 2) pa_nil))) pa_nil))))))
   (pss_one (ps_ret (pe_ix (Zdi K) (pe_op ZcS (pv 4) (pe_lst (pa_cons (pe_tup (pa_cons pe_str (pa_cons (pv 0) (pa_cons (pe_tup (pa_cons pe_str (pa_cons (pv 2) pa_nil))) pa_nil)))) pa_nil))) (pv 1) (fun _ _=>rfl))))))),?_⟩
 try dsimp only [cxOf]
 obtain ⟨program_here,deed,name,nb,h⟩:=h
 refine Zm.body (js:=[0,1,2,3,4]) (m:=ZaJ program_here deed name) nb h ?_
 refine ZcE (Γ2:=[(.val dUI program_here),(.val dInt deed),(.val dStr name),.no,.no]) rfl ?_
 delta ZaJ
 refine Zau (i:=3) rfl (by decide) (Zae (ZaA (Zaw Zad) (Zaw (Zaa rfl)) (Zbp (Zaw Zad) (Zaw (Zaa rfl)))) rfl) fun fresh_1=>?_
 refine Zau (i:=4) rfl (by decide) (Zae (we_o (Zcc (Zaj (Zbp (Zaw Zad) (Zaw (Zaa rfl))) (Zaj (ZaA (Zaw Zad) (Zaa rfl) (Zaa rfl)) (Zaj (ZaA (Zaw Zad) (Zaw (Zaa rfl)) (Zaa rfl)) (Zaj (Zaa rfl) Zca)))) (ZaH (ZaH (ZaH (ZaH ZcT)))) (by decide))) rfl) fun menu_2=>?_
 refine Zau (i:=4) rfl (by decide) (Zae (we_o (ZdR (Zaa rfl) (we_o (Zcc (Zaj (ZaA (Zaw Zad) (Zaa rfl) (Zaa rfl)) (Zaj (ZaA (Zaw Zad) (Zaa rfl) (Zaa rfl)) (Zaj (Zbp (Zaw Zad) (Zaw (Zaa rfl))) Zca))) (ZaH (ZaH (ZaH ZcT))) (by decide))))) rfl) fun menu_3=>?_
 refine Zai ?_
 exact Zav (Zae (we_ix (we_o (ZdR (Zaa rfl) (we_o (Zcc (Zaj (ZaA (Zaw Zad) (Zaa rfl) (Zbp (Zaw Zad) (Zaw (Zaa rfl)))) Zca) (ZaH ZcT) (by decide))))) (re_w (Zaa rfl))) rfl)
end K81
namespace K81
open PySem L2 G PM
set_option maxHeartbeats 4000000 in
theorem ok_l_fun_changed {P:Program} {w:World} {K:PySem.W.Frag} {mg:Str→Option Value} {base:Heap} (T:Txt K mg):FnOk P w K mg base (L2.CX P w) 1 T.a_l_fun_changed T.f_l_fun_changed ["_law_program_here","_law_deed","_law_name"] (ZcB ⟨P,w,K⟩ T.A):=by
 have nd:=ZeE.nd
 refine T.F_l_fun_changed.okX ZeE (fun vs H Q E h=>?_) (fun cdv A outer s H vs Q E hr h=>?_)
 ·exact sp_l_fun_changed_len h
 have hu:=hu_of hr
 refine ⟨_,(pss_cons (ps_set (i:=3) nd rfl (Or.inl rfl) (pe_ix (Zbs K) (pv 0) pe_int (fun _ _=>rfl)))
   (pss_cons (ps_set (i:=4) nd rfl (Or.inl rfl) (pe_ix (Zbs K) (pv 0) pe_int (fun _ _=>rfl)))
   (pss_cons (ps_set (i:=5) nd rfl (Or.inl rfl) (pe_lst (pa_cons (pe_tup (pa_cons pe_str (pa_cons (pv 2) (pa_cons (pv 4) pa_nil)))) (pa_cons (pv 4) (pa_cons (pe_tup (pa_cons pe_str (pa_cons (pv 2) (pa_cons (pv 0) pa_nil)))) (pa_cons (pe_tup (pa_cons pe_str (pa_cons (pv 0) (pa_cons (pv 0) pa_nil)))) pa_nil))))))
   (pss_cons (ps_set (i:=5) nd rfl (Or.inl rfl) (pe_op ZcS (pv 5) (pe_lst (pa_cons (pe_tup (pa_cons pe_str (pa_cons (pv 0) (pa_cons (pe_tup (pa_cons pe_str (pa_cons (pv 2) (pa_cons (pe_tup (pa_cons pe_str (pa_cons (pv 2) pa_nil))) pa_nil)))) pa_nil)))) (pa_cons (pe_tup (pa_cons pe_str (pa_cons (pv 3) (pa_cons (pv 0) pa_nil)))) (pa_cons (pe_tup (pa_cons pe_str (pa_cons (pv 2) (pa_cons (pv 4) pa_nil)))) pa_nil))))))
   (pss_one (ps_ret (pe_ix (Zdi K) (pe_op ZcS (pv 5) (pe_lst (pa_cons (pe_tup (pa_cons pe_str (pa_cons (pv 3) (pa_cons (pe_tup (pa_cons pe_str (pa_cons (pv 4) (pa_cons (pe_tup (pa_cons pe_str (pa_cons (pv 3) pa_nil))) pa_nil)))) pa_nil)))) pa_nil))) (pv 1) (fun _ _=>rfl)))))))),?_⟩
 try dsimp only [cxOf]
 obtain ⟨program_here,deed,name,nb,h⟩:=h
 refine Zm.body (js:=[0,1,2,3,4,5]) (m:=ZaR program_here deed name) nb h ?_
 refine ZcE (Γ2:=[(.val dUI program_here),(.val dInt deed),(.val dStr name),.no,.no,.no]) rfl ?_
 delta ZaR
 refine Zau (i:=3) rfl (by decide) (Zae (ZaB (ZaI (ZaG (Zam (Zaa rfl))) (re_w Zac))) rfl) fun own_3=>?_
 refine Zau (i:=4) rfl (by decide) (Zae (ZaB (d:=dUI) (ZaI (ZaG (Zam (Zaa rfl))) (re_w Zac))) rfl) fun body_6=>?_
 refine Zau (i:=5) rfl (by decide) (Zae (we_o (Zcc (Zaj (ZaA (Zaw Zad) (Zaw (Zaa rfl)) (Zaa rfl)) (Zaj (Zaa rfl) (Zaj (ZaA (Zaw Zad) (Zaw (Zaa rfl)) (Zaa rfl)) (Zaj (ZaA (Zaw Zad) (Zaa rfl) (Zaa rfl)) Zca)))) (ZaH (ZaH (ZaH (ZaH ZcT)))) (by decide))) rfl) fun menu_7=>?_
 refine Zau (i:=5) rfl (by decide) (Zae (we_o (ZdR (Zaa rfl) (we_o (Zcc (Zaj (ZaA (Zaw Zad) (Zaa rfl) (ZaA (Zaw Zad) (Zaw (Zaa rfl)) (Zbp (Zaw Zad) (Zaw (Zaa rfl))))) (Zaj (ZaA (Zaw Zad) (Zaw (Zaa rfl)) (Zaa rfl)) (Zaj (ZaA (Zaw Zad) (Zaw (Zaa rfl)) (Zaa rfl)) Zca))) (ZaH (ZaH (ZaH ZcT))) (by decide))))) rfl) fun menu_8=>?_
 refine Zai ?_
 exact Zav (Zae (we_ix (we_o (ZdR (Zaa rfl) (we_o (Zcc (Zaj (ZaA (Zaw Zad) (Zaw (Zaa rfl)) (ZaA (Zaw Zad) (Zaa rfl) (Zbp (Zaw Zad) (Zaw (Zaa rfl))))) Zca) (ZaH ZcT) (by decide))))) (re_w (Zaa rfl))) rfl)
end K81
namespace K81
open PySem L2 G PM
set_option maxHeartbeats 4000000 in
theorem ok_l_use_changed {P:Program} {w:World} {K:PySem.W.Frag} {mg:Str→Option Value} {base:Heap} (T:Txt K mg):FnOk P w K mg base (L2.CX P w) 1 T.a_l_use_changed T.f_l_use_changed ["_law_program_here","_law_deed","_law_name"] (ZcA ⟨P,w,K⟩ T.A):=by
 have nd:=ZeD.nd
 refine T.F_l_use_changed.okX ZeD (fun vs H Q E h=>?_) (fun cdv A outer s H vs Q E hr h=>?_)
 ·exact sp_l_use_changed_len h
 have hu:=hu_of hr
 refine ⟨_,(pss_cons (ps_set (i:=3) nd rfl (Or.inl rfl) (pe_ix (Zbs K) (pv 0) pe_int (fun _ _=>rfl)))
   (pss_cons (ps_set (i:=4) nd rfl (Or.inl rfl) (pe_ix (Zbs K) (pv 0) pe_int (fun _ _=>rfl)))
   (pss_cons (ps_set (i:=5) nd rfl (Or.inl rfl) (pe_lst (pa_cons (pe_tup (pa_cons pe_str (pa_cons (pv 4) (pa_cons (pv 3) pa_nil)))) (pa_cons (pv 3) (pa_cons (pv 4) (pa_cons (pe_tup (pa_cons pe_str (pa_cons (pv 2) (pa_cons (pv 0) pa_nil)))) (pa_cons (pe_tup (pa_cons pe_str (pa_cons (pv 0) (pa_cons (pe_tup (pa_cons pe_str (pa_cons (pv 2) pa_nil))) pa_nil)))) pa_nil)))))))
   (pss_one (ps_ret (pe_ix (Zdi K) (pe_op ZcS (pv 5) (pe_lst (pa_cons (pe_tup (pa_cons pe_str (pa_cons (pe_tup (pa_cons pe_str (pa_cons (pv 2) pa_nil))) (pa_cons (pv 0) pa_nil)))) (pa_cons (pe_tup (pa_cons pe_str (pa_cons (pv 3) (pa_cons (pv 3) pa_nil)))) (pa_cons (pe_tup (pa_cons pe_str (pa_cons (pv 4) (pa_cons (pv 3) pa_nil)))) pa_nil))))) (pv 1) (fun _ _=>rfl))))))),?_⟩
 try dsimp only [cxOf]
 obtain ⟨program_here,deed,name,nb,h⟩:=h
 refine Zm.body (js:=[0,1,2,3,4,5]) (m:=ZaQ program_here deed name) nb h ?_
 refine ZcE (Γ2:=[(.val dUI program_here),(.val dInt deed),(.val dStr name),.no,.no,.no]) rfl ?_
 delta ZaQ
 refine Zau (i:=3) rfl (by decide) (Zae (ZaB (d:=dUI) (ZaI (ZaG (Zam (Zaa rfl))) (re_w Zac))) rfl) fun one_3=>?_
 refine Zau (i:=4) rfl (by decide) (Zae (ZaB (d:=dUI) (ZaI (ZaG (Zam (Zaa rfl))) (re_w Zac))) rfl) fun other_6=>?_
 refine Zau (i:=5) rfl (by decide) (Zae (we_o (Zcc (Zaj (ZaA (Zaw Zad) (Zaa rfl) (Zaa rfl)) (Zaj (Zaa rfl) (Zaj (Zaa rfl) (Zaj (ZaA (Zaw Zad) (Zaw (Zaa rfl)) (Zaa rfl)) (Zaj (ZaA (Zaw Zad) (Zaa rfl) (Zbp (Zaw Zad) (Zaw (Zaa rfl)))) Zca))))) (ZaH (ZaH (ZaH (ZaH (ZaH ZcT))))) (by decide))) rfl) fun menu_7=>?_
 refine Zai ?_
 exact Zav (Zae (we_ix (we_o (ZdR (Zaa rfl) (we_o (Zcc (Zaj (ZaA (Zaw Zad) (Zbp (Zaw Zad) (Zaw (Zaa rfl))) (Zaa rfl)) (Zaj (ZaA (Zaw Zad) (Zaa rfl) (Zaa rfl)) (Zaj (ZaA (Zaw Zad) (Zaa rfl) (Zaa rfl)) Zca))) (ZaH (ZaH (ZaH ZcT))) (by decide))))) (re_w (Zaa rfl))) rfl)
end K81
namespace K81
open PySem L2 G PM
set_option maxHeartbeats 4000000 in
theorem ok_l_changed {P:Program} {w:World} {K:PySem.W.Frag} {mg:Str→Option Value} {base:Heap} (T:Txt K mg) (G_l_pick:FnOk P w K mg base (L2.CX P w) 1 T.a_l_pick T.f_l_pick ["_law_draws_here","_law_k","_law_many"] (ZcP ⟨P,w,K⟩ T.A)) (G_l_name_changed:FnOk P w K mg base (L2.CX P w) 1 T.a_l_name_changed T.f_l_name_changed ["_law_program_here","_law_deed","_law_name"] (Zct ⟨P,w,K⟩ T.A)) (G_l_fun_changed:FnOk P w K mg base (L2.CX P w) 1 T.a_l_fun_changed T.f_l_fun_changed ["_law_program_here","_law_deed","_law_name"] (ZcB ⟨P,w,K⟩ T.A)) (G_l_use_changed:FnOk P w K mg base (L2.CX P w) 1 T.a_l_use_changed T.f_l_use_changed ["_law_program_here","_law_deed","_law_name"] (ZcA ⟨P,w,K⟩ T.A)):∀ n:Nat,FnOk P w K mg base (L2.CX P w) (n+2) T.a_l_changed T.f_l_changed ["_law_draws_here","_law_at","_law_program_here","_law_name"] (ZdM n ⟨P,w,K⟩ T.A):=by
 have nd:=sc_l_changed.nd
 intro n
 induction n with
 | zero =>
  refine T.F_l_changed.okX sc_l_changed (fun vs H Q E h=>?_) (fun cdv A outer s H vs Q E hr h=>?_)
  ·exact ZeC h
  ·obtain ⟨draws_here,at_,program_here,name,nb,_⟩:=h;exact absurd rfl nb
 | succ fl G_l_changed =>
  refine T.F_l_changed.okX sc_l_changed (fun vs H Q E h=>?_) (fun cdv A outer s H vs Q E hr h=>?_)
  ·exact ZeC h
  have hu:=hu_of hr
  refine ⟨_,(pss_cons (ps_set (i:=4) nd rfl (Or.inl rfl) (pe_callS G_l_pick (hr.mono (by omega)) (by rfl) T.g_l_pick T.F_l_pick.kp T.d_l_pick (fun σ=>passAt (takes_of rfl rfl rfl rfl) σ) (pa_cons (pv 0) (pa_cons (pv 1) (pa_cons pe_int pa_nil)))))
   (pss_cons (ps_if (PW.pt (pw_and (pt_cmpR op_eq (pe_ix (Zbs K) (pv 2) pe_int (fun _ _=>rfl)) pe_str (nomark _)) (pw_and (pt_cmpR op_lt (pv 4) pe_int (nomark _)) (pw_and1 (pt_cmpR op_lt (pv 1) pe_int (nomark _))))))
    (pss_one (ps_ret (pe_tup (pa_cons pe_str (pa_cons (pe_ix (Zbs K) (pv 2) pe_int (fun _ _=>rfl)) (pa_cons (pe_callS G_l_changed (hr.mono (by omega)) (by rfl) T.g_l_changed T.F_l_changed.kp T.d_l_changed (fun σ=>passAt (takes_of rfl rfl rfl rfl) σ) (pa_cons (pv 0) (pa_cons (pe_op op_add (pv 1) pe_int) (pa_cons (pe_ix (Zbs K) (pv 2) pe_int (fun _ _=>rfl)) (pa_cons (pv 3) pa_nil))))) pa_nil))))))
    pss_nil)
   (pss_cons (ps_if (PW.pt (pw_and (pt_cmpR op_eq (pe_ix (Zbs K) (pv 2) pe_int (fun _ _=>rfl)) pe_str (nomark _)) (pw_and (pt_cmpR op_lt (pv 4) pe_int (nomark _)) (pw_and1 (pt_cmpR op_lt (pv 1) pe_int (nomark _))))))
    (pss_one (ps_ret (pe_tup (pa_cons pe_str (pa_cons (pe_callS G_l_changed (hr.mono (by omega)) (by rfl) T.g_l_changed T.F_l_changed.kp T.d_l_changed (fun σ=>passAt (takes_of rfl rfl rfl rfl) σ) (pa_cons (pv 0) (pa_cons (pe_op op_add (pv 1) pe_int) (pa_cons (pe_ix (Zbs K) (pv 2) pe_int (fun _ _=>rfl)) (pa_cons (pv 3) pa_nil))))) (pa_cons (pe_ix (Zbs K) (pv 2) pe_int (fun _ _=>rfl)) pa_nil))))))
    pss_nil)
   (pss_cons (ps_if (PW.pt (pw_and (pt_cmpR op_eq (pe_ix (Zbs K) (pv 2) pe_int (fun _ _=>rfl)) pe_str (nomark _)) (pw_and (pt_cmpR op_lt (pv 4) pe_int (nomark _)) (pw_and1 (pt_cmpR op_lt (pv 1) pe_int (nomark _))))))
    (pss_one (ps_ret (pe_tup (pa_cons pe_str (pa_cons (pe_ix (Zbs K) (pv 2) pe_int (fun _ _=>rfl)) (pa_cons (pe_callS G_l_changed (hr.mono (by omega)) (by rfl) T.g_l_changed T.F_l_changed.kp T.d_l_changed (fun σ=>passAt (takes_of rfl rfl rfl rfl) σ) (pa_cons (pv 0) (pa_cons (pe_op op_add (pv 1) pe_int) (pa_cons (pe_ix (Zbs K) (pv 2) pe_int (fun _ _=>rfl)) (pa_cons (pv 3) pa_nil))))) pa_nil))))))
    pss_nil)
   (pss_cons (ps_set (i:=5) nd rfl (Or.inl rfl) (pe_callS G_l_pick (hr.mono (by omega)) (by rfl) T.g_l_pick T.F_l_pick.kp T.d_l_pick (fun σ=>passAt (takes_of rfl rfl rfl rfl) σ) (pa_cons (pv 0) (pa_cons (pe_op op_add (pv 1) pe_int) (pa_cons pe_int pa_nil)))))
   (pss_cons (ps_if (pt_cmpR op_eq (pe_ix (Zbs K) (pv 2) pe_int (fun _ _=>rfl)) pe_str (nomark _))
    (pss_one (ps_ret (pe_callS G_l_name_changed (hr.mono (by omega)) (by rfl) T.g_l_name_changed T.F_l_name_changed.kp T.d_l_name_changed (fun σ=>passAt (takes_of rfl rfl rfl rfl) σ) (pa_cons (pv 2) (pa_cons (pv 5) (pa_cons (pv 3) pa_nil))))))
    pss_nil)
   (pss_cons (ps_if (pt_cmpR op_eq (pe_ix (Zbs K) (pv 2) pe_int (fun _ _=>rfl)) pe_str (nomark _))
    (pss_one (ps_ret (pe_callS G_l_fun_changed (hr.mono (by omega)) (by rfl) T.g_l_fun_changed T.F_l_fun_changed.kp T.d_l_fun_changed (fun σ=>passAt (takes_of rfl rfl rfl rfl) σ) (pa_cons (pv 2) (pa_cons (pv 5) (pa_cons (pv 3) pa_nil))))))
    pss_nil)
   (pss_one (ps_ret (pe_callS G_l_use_changed (hr.mono (by omega)) (by rfl) T.g_l_use_changed T.F_l_use_changed.kp T.d_l_use_changed (fun σ=>passAt (takes_of rfl rfl rfl rfl) σ) (pa_cons (pv 2) (pa_cons (pv 5) (pa_cons (pv 3) pa_nil))))))))))))),?_⟩
  try dsimp only [cxOf]
  obtain ⟨draws_here,at_,program_here,name,nb,h⟩:=h
  refine Zm.body (js:=[0,1,2,3,4,5]) (m:=Zbi (fl+1) draws_here at_ program_here name) nb h ?_
  refine ZcE (Γ2:=[(.val (dList (d:=dInt)) draws_here),(.val dInt at_),(.val dUI program_here),(.val dStr name),.no,.no]) rfl ?_
  show Zm _ _ _ _ _ _ (Zbk (Zbi fl) draws_here at_ program_here name)
  delta Zbk
  refine Zau (i:=4) rfl (by decide) (Zae (ZaD ZaX rfl (Zaa rfl) (Zaa rfl) Zac) rfl) fun turn_1=>?_
  refine ZbU (Zap (ZeL (Zaf (ZaS (re_w (ZaB (ZaI (ZaG (Zam (Zaa rfl))) (re_w Zac)))) (re_w Zad))) (te_andP (Zaf (we_lt (re_w (Zaa rfl)) (re_w Zac))) (Zaf (we_lt (re_w (Zaa rfl)) (re_w Zac))))) rfl) ?_ ?_
  ·exact Zav (Zae (ZaA (Zaw Zad) (Zaw (ZaB (ZaI (ZaG (Zam (Zaa rfl))) (re_w Zac)))) (we_call4 Zdd rfl (Zaa rfl) (ZaZ (re_w (Zaa rfl)) (re_w Zac)) (ZaB (d:=dUI) (ZaI (ZaG (Zam (Zaa rfl))) (re_w Zac))) (Zaa rfl))) rfl)
  ·refine Zag ?_
   refine ZbU (Zap (ZeL (Zaf (ZaS (re_w (ZaB (ZaI (ZaG (Zam (Zaa rfl))) (re_w Zac)))) (re_w Zad))) (te_andP (Zaf (we_lt (re_w (Zaa rfl)) (re_w Zac))) (Zaf (we_lt (re_w (Zaa rfl)) (re_w Zac))))) rfl) ?_ ?_
   ·exact Zav (Zae (ZaA (Zaw Zad) (we_call4 Zdd rfl (Zaa rfl) (ZaZ (re_w (Zaa rfl)) (re_w Zac)) (ZaB (d:=dUI) (ZaI (ZaG (Zam (Zaa rfl))) (re_w Zac))) (Zaa rfl)) (ZaB (d:=dUI) (ZaI (ZaG (Zam (Zaa rfl))) (re_w Zac)))) rfl)
   ·refine Zag ?_
    refine ZbU (Zap (ZeL (Zaf (ZaS (re_w (ZaB (ZaI (ZaG (Zam (Zaa rfl))) (re_w Zac)))) (re_w Zad))) (te_andP (Zaf (we_lt (re_w (Zaa rfl)) (re_w Zac))) (Zaf (we_lt (re_w (Zaa rfl)) (re_w Zac))))) rfl) ?_ ?_
    ·exact Zav (Zae (ZaA (Zaw Zad) (ZaB (d:=dUI) (ZaI (ZaG (Zam (Zaa rfl))) (re_w Zac))) (we_call4 Zdd rfl (Zaa rfl) (ZaZ (re_w (Zaa rfl)) (re_w Zac)) (ZaB (d:=dUI) (ZaI (ZaG (Zam (Zaa rfl))) (re_w Zac))) (Zaa rfl))) rfl)
    ·refine Zag ?_
     refine Zau (i:=5) rfl (by decide) (Zae (ZaD ZaX rfl (Zaa rfl) (ZaZ (re_w (Zaa rfl)) (re_w Zac)) Zac) rfl) fun deed_36=>?_
     refine ZbU (Zap (Zaf (ZaS (re_w (ZaB (ZaI (ZaG (Zam (Zaa rfl))) (re_w Zac)))) (re_w Zad))) rfl) ?_ ?_
     ·exact Zav (Zae (ZaD hs_l_name_changed rfl (Zaa rfl) (Zaa rfl) (Zaa rfl)) rfl)
     ·refine Zag ?_
      refine ZbU (Zap (Zaf (ZaS (re_w (ZaB (ZaI (ZaG (Zam (Zaa rfl))) (re_w Zac)))) (re_w Zad))) rfl) ?_ ?_
      ·exact Zav (Zae (ZaD hs_l_fun_changed rfl (Zaa rfl) (Zaa rfl) (Zaa rfl)) rfl)
      ·refine Zag ?_
       refine Zai ?_
       exact Zav (Zae (ZaD hs_l_use_changed rfl (Zaa rfl) (Zaa rfl) (Zaa rfl)) rfl)
end K81
namespace K81
open PySem L2 G PM
set_option maxHeartbeats 4000000 in
theorem ok_l_text_changed {P:Program} {w:World} {K:PySem.W.Frag} {mg:Str→Option Value} {base:Heap} (T:Txt K mg) (G_l_pick:FnOk P w K mg base (L2.CX P w) 1 T.a_l_pick T.f_l_pick ["_law_draws_here","_law_k","_law_many"] (ZcP ⟨P,w,K⟩ T.A)):FnOk P w K mg base (L2.CX P w) 2 T.a_l_text_changed T.f_l_text_changed ["_law_draws_here","_law_at","_law_text"] (Zcs ⟨P,w,K⟩ T.A):=by
 have nd:=Zeg.nd
 refine T.F_l_text_changed.okX Zeg (fun vs H Q E h=>?_) (fun cdv A outer s H vs Q E hr h=>?_)
 ·exact ZeN h
 have hu:=hu_of hr
 refine ⟨_,(pss_cons (ps_set (i:=3) nd rfl (Or.inl rfl) (pe_op Zbm pe_str pe_str))
   (pss_cons (ps_set (i:=4) nd rfl (Or.inl rfl) (pe_callS G_l_pick (hr.mono (by decide)) (by rfl) T.g_l_pick T.F_l_pick.kp T.d_l_pick (fun σ=>passAt (takes_of rfl rfl rfl rfl) σ) (pa_cons (pv 0) (pa_cons (pv 1) (pa_cons pe_int pa_nil)))))
   (pss_cons (ps_set (i:=5) nd rfl (Or.inl rfl) (pe_op op_mod (pe_callTy call_int1 (by rfl) T.b_int (by decide +kernel) (pa_cons (pe_op op_add (pe_op op_mul (pe_callS G_l_pick (hr.mono (by decide)) (by rfl) T.g_l_pick T.F_l_pick.kp T.d_l_pick (fun σ=>passAt (takes_of rfl rfl rfl rfl) σ) (pa_cons (pv 0) (pa_cons (pe_op op_add (pv 1) pe_int) (pa_cons pe_int pa_nil)))) pe_int) (pe_callS G_l_pick (hr.mono (by decide)) (by rfl) T.g_l_pick T.F_l_pick.kp T.d_l_pick (fun σ=>passAt (takes_of rfl rfl rfl rfl) σ) (pa_cons (pv 0) (pa_cons (pe_op op_add (pv 1) pe_int) (pa_cons pe_int pa_nil))))) pa_nil)) (pe_op op_add (pe_callB call_len_str (by rfl) T.b_len (by decide +kernel) (pa_cons (pv 2) pa_nil)) pe_int)))
   (pss_cons (ps_set (i:=6) nd rfl (Or.inl rfl) (pe_ix ix_str (pv 3) (pe_callS G_l_pick (hr.mono (by decide)) (by rfl) T.g_l_pick T.F_l_pick.kp T.d_l_pick (fun σ=>passAt (takes_of rfl rfl rfl rfl) σ) (pa_cons (pv 0) (pa_cons (pe_op op_add (pv 1) pe_int) (pa_cons pe_int pa_nil)))) (fun _ _=>rfl)))
   (pss_cons (ps_if (pt_cmpR op_eq (pv 4) pe_int (nomark _))
    (pss_one (ps_ret (pe_op Zbm (pe_slice sl_str (pv 2) po_none (po_some (pv 5))) (pe_slice sl_str (pv 2) (po_some (pe_op op_add (pv 5) pe_int)) po_none))))
    pss_nil)
   (pss_cons (ps_if (pt_cmpR op_eq (pv 4) pe_int (nomark _))
    (pss_one (ps_ret (pe_op Zbm (pe_op Zbm (pe_slice sl_str (pv 2) po_none (po_some (pv 5))) (pv 6)) (pe_slice sl_str (pv 2) (po_some (pv 5)) po_none))))
    pss_nil)
   (pss_cons (ps_if (pt_cmpR op_eq (pv 4) pe_int (nomark _))
    (pss_one (ps_ret (pe_op Zbm (pe_op Zbm (pe_slice sl_str (pv 2) po_none (po_some (pv 5))) (pv 6)) (pe_slice sl_str (pv 2) (po_some (pe_op op_add (pv 5) pe_int)) po_none))))
    pss_nil)
   (pss_cons (ps_if (pt_cmpR op_eq (pv 4) pe_int (nomark _))
    (pss_one (ps_ret (pe_slice sl_str (pv 2) po_none (po_some (pv 5)))))
    pss_nil)
   (pss_one (ps_ret (pe_op Zbm (pe_op Zbm (pe_op Zbm (pe_slice sl_str (pv 2) po_none (po_some (pv 5))) (pe_slice sl_str (pv 2) (po_some (pe_op op_add (pv 5) pe_int)) (po_some (pe_op op_add (pv 5) pe_int)))) (pe_slice sl_str (pv 2) (po_some (pv 5)) (po_some (pe_op op_add (pv 5) pe_int)))) (pe_slice sl_str (pv 2) (po_some (pe_op op_add (pv 5) pe_int)) po_none)))))))))))),?_⟩
 try dsimp only [cxOf]
 obtain ⟨draws_here,at_,text,nb,h⟩:=h
 refine Zm.body (js:=[0,1,2,3,4,5,6]) (m:=Zay draws_here at_ text) nb h ?_
 refine ZcE (Γ2:=[(.val (dList (d:=dInt)) draws_here),(.val dInt at_),(.val dStr text),.no,.no,.no,.no]) rfl ?_
 delta Zay
 refine Zau (i:=3) rfl (by decide) (Zae (Zbl Zad Zad) rfl) fun chars_1=>?_
 refine Zau (i:=4) rfl (by decide) (Zae (ZaD ZaX rfl (Zaa rfl) (Zaa rfl) Zac) rfl) fun deed_2=>?_
 refine Zau (i:=5) rfl (by decide) (Zae (we_mod (re_w (we_int1 (re_w (ZaZ (re_w (we_mulCr (re_w (ZaD ZaX rfl (Zaa rfl) (ZaZ (re_w (Zaa rfl)) (re_w Zac)) Zac)) (re_w Zac))) (re_w (ZaD ZaX rfl (Zaa rfl) (ZaZ (re_w (Zaa rfl)) (re_w Zac)) Zac)))))) (re_w (ZaZ (re_w (ZbV (re_w (Zaa rfl)))) (re_w Zac)))) rfl) fun k_9=>?_
 refine Zau (i:=6) rfl (by decide) (Zae (ZeI (Zaa rfl) (ZaD ZaX rfl (Zaa rfl) (ZaZ (re_w (Zaa rfl)) (re_w Zac)) Zac)) rfl) fun char_11=>?_
 refine ZaC (Zap (Zaf (ZaS (re_w (Zaa rfl)) (re_w Zac))) rfl) ?_ ?_
 ·exact Zav (Zae (Zbl (Zdj (Zaa rfl) Zcb (Zba (re_w (Zaa rfl)))) (Zdj (Zaa rfl) (Zba (re_w (ZaZ (re_w (Zaa rfl)) (re_w Zac)))) Zcb)) rfl)
 ·refine Zag ?_
  refine ZaC (Zap (Zaf (ZaS (re_w (Zaa rfl)) (re_w Zac))) rfl) ?_ ?_
  ·exact Zav (Zae (Zbl (Zbl (Zdj (Zaa rfl) Zcb (Zba (re_w (Zaa rfl)))) (Zaa rfl)) (Zdj (Zaa rfl) (Zba (re_w (Zaa rfl))) Zcb)) rfl)
  ·refine Zag ?_
   refine ZaC (Zap (Zaf (ZaS (re_w (Zaa rfl)) (re_w Zac))) rfl) ?_ ?_
   ·exact Zav (Zae (Zbl (Zbl (Zdj (Zaa rfl) Zcb (Zba (re_w (Zaa rfl)))) (Zaa rfl)) (Zdj (Zaa rfl) (Zba (re_w (ZaZ (re_w (Zaa rfl)) (re_w Zac)))) Zcb)) rfl)
   ·refine Zag ?_
    refine ZaC (Zap (Zaf (ZaS (re_w (Zaa rfl)) (re_w Zac))) rfl) ?_ ?_
    ·exact Zav (Zae (Zdj (Zaa rfl) Zcb (Zba (re_w (Zaa rfl)))) rfl)
    ·refine Zag ?_
     refine Zai ?_
     exact Zav (Zae (Zbl (Zbl (Zbl (Zdj (Zaa rfl) Zcb (Zba (re_w (Zaa rfl)))) (Zdj (Zaa rfl) (Zba (re_w (ZaZ (re_w (Zaa rfl)) (re_w Zac)))) (Zba (re_w (ZaZ (re_w (Zaa rfl)) (re_w Zac)))))) (Zdj (Zaa rfl) (Zba (re_w (Zaa rfl))) (Zba (re_w (ZaZ (re_w (Zaa rfl)) (re_w Zac)))))) (Zdj (Zaa rfl) (Zba (re_w (ZaZ (re_w (Zaa rfl)) (re_w Zac)))) Zcb)) rfl)
end K81
namespace K81
open PySem L2 G PM
set_option maxHeartbeats 4000000 in
theorem ok_law {P:Program} {w:World} {K:PySem.W.Frag} {mg:Str→Option Value} {base:Heap} (T:Txt K mg) (G_l_cell:FnOk P w K mg base (L2.CX P w) 1 T.a_l_cell T.f_l_cell ["_law_script","_law_k"] (sp_l_cell ⟨P,w,K⟩ T.A)) (G_l_draws:FnOk P w K mg base (L2.CX P w) 1 T.a_l_draws T.f_l_draws ["_law_cell_here","_law_many"] (sp_l_draws ⟨P,w,K⟩ T.A)) (G_l_pick:FnOk P w K mg base (L2.CX P w) 1 T.a_l_pick T.f_l_pick ["_law_draws_here","_law_k","_law_many"] (ZcP ⟨P,w,K⟩ T.A)) (G_l_distinct:FnOk P w K mg base (L2.CX P w) 3 T.a_l_distinct T.f_l_distinct ["_law_draws_here","_law_extra","_law_many"] (Zdp ⟨P,w,K⟩ T.A)) (G_l_program:FnOk P w K mg base (L2.CX P w) 2 T.a_l_program T.f_l_program ["_law_draws_here","_law_at","_law_names"] (ZdK ⟨P,w,K⟩ T.A)) (G_l_program_right:FnOk P w K mg base (L2.CX P w) 108 T.a_l_program_right T.f_l_program_right ["_law_program_here"] (Zcl ⟨P,w,K⟩ T.A)) (G_l_chain:FnOk P w K mg base (L2.CX P w) 1 T.a_l_chain T.f_l_chain ["_law_names"] (sp_l_chain ⟨P,w,K⟩ T.A)) (G_l_fault:FnOk P w K mg base (L2.CX P w) 102 T.a_l_fault T.f_l_fault ["_law_program_here"] (Zdu ⟨P,w,K⟩ T.A)) (G_l_changed:∀ n:Nat,FnOk P w K mg base (L2.CX P w) (n+2) T.a_l_changed T.f_l_changed ["_law_draws_here","_law_at","_law_program_here","_law_name"] (ZdM n ⟨P,w,K⟩ T.A)) (G_l_written:∀ n:Nat,FnOk P w K mg base (L2.CX P w) (n+1) T.a_l_written T.f_l_written ["_law_program_here"] (Zdc n ⟨P,w,K⟩ T.A)) (G_l_text_changed:FnOk P w K mg base (L2.CX P w) 2 T.a_l_text_changed T.f_l_text_changed ["_law_draws_here","_law_at","_law_text"] (Zcs ⟨P,w,K⟩ T.A)) (G_l_text_right:FnOk P w K mg base (L2.CX P w) 107 T.a_l_text_right T.f_l_text_right ["_law_text"] (Zco ⟨P,w,K⟩ T.A)):FnOk P w K mg base CX0 109 T.a_law T.f_law ["_law_script"] (sp_law ⟨P,w,K⟩):=by
 have nd:=sc_law.nd
 refine T.F_law.ok sc_law (fun vs H Q E h=>?_) (fun cdv A outer s H vs Q E hr h=>?_)
 ·exact sp_law_len h
 have hu:=hu_of hr
 refine ⟨_,(pss_cons (ps_set (i:=1) nd rfl (Or.inl rfl) (pe_callS G_l_draws (hr.mono (by decide)) (by rfl) T.g_l_draws T.F_l_draws.kp T.d_l_draws (fun σ=>Zbt σ) (pa_cons (pe_callS G_l_cell (hr.mono (by decide)) (by rfl) T.g_l_cell T.F_l_cell.kp T.d_l_cell (fun σ=>Zbt σ) (pa_cons (pv 0) (pa_cons pe_int pa_nil))) (pa_cons pe_int pa_nil))))
   (pss_cons (ps_set (i:=2) nd rfl (Or.inl rfl) (pe_callS G_l_draws (hr.mono (by decide)) (by rfl) T.g_l_draws T.F_l_draws.kp T.d_l_draws (fun σ=>Zbt σ) (pa_cons (pe_callS G_l_cell (hr.mono (by decide)) (by rfl) T.g_l_cell T.F_l_cell.kp T.d_l_cell (fun σ=>Zbt σ) (pa_cons (pv 0) (pa_cons pe_int pa_nil))) (pa_cons pe_int pa_nil))))
   (pss_cons (ps_set (i:=3) nd rfl (Or.inl rfl) (pe_callS G_l_distinct (hr.mono (by decide)) (by rfl) T.g_l_distinct T.F_l_distinct.kp T.d_l_distinct (fun σ=>Zbt σ) (pa_cons (pv 1) (pa_cons (pv 2) (pa_cons (pe_op op_add pe_int (pe_callS G_l_pick (hr.mono (by decide)) (by rfl) T.g_l_pick T.F_l_pick.kp T.d_l_pick (fun σ=>Zbt σ) (pa_cons (pv 2) (pa_cons pe_int (pa_cons pe_int pa_nil))))) pa_nil)))))
   (pss_cons (ps_set (i:=4) nd rfl (Or.inl rfl) (pe_callS G_l_program (hr.mono (by decide)) (by rfl) T.g_l_program T.F_l_program.kp T.d_l_program (fun σ=>Zbt σ) (pa_cons (pv 1) (pa_cons pe_int (pa_cons (pv 3) pa_nil)))))
   (pss_cons (ps_set (i:=5) nd rfl (Or.inl rfl) (pe_callS G_l_distinct (hr.mono (by decide)) (by rfl) T.g_l_distinct T.F_l_distinct.kp T.d_l_distinct (fun σ=>Zbt σ) (pa_cons (pv 2) (pa_cons (pv 1) (pa_cons pe_int pa_nil)))))
   (pss_cons (ps_if (PW.pt (pw_or (pt_not (pt_val (pe_callS G_l_program_right (hr.mono (by decide)) (by rfl) T.g_l_program_right T.F_l_program_right.kp T.d_l_program_right (fun σ=>Zbt σ) (pa_cons (pv 4) pa_nil)))) (pw_or1 (pt_not (pt_val (pe_callS G_l_program_right (hr.mono (by decide)) (by rfl) T.g_l_program_right T.F_l_program_right.kp T.d_l_program_right (fun σ=>Zbt σ) (pa_cons (pe_callS G_l_chain (hr.mono (by decide)) (by rfl) T.g_l_chain T.F_l_chain.kp T.d_l_chain (fun σ=>Zbt σ) (pa_cons (pe_slice (sl_lK K) (pv 5) (po_some pe_int) po_none) pa_nil)) pa_nil)))))))
    (pss_one (ps_ret pe_bl))
    pss_nil)
   (pss_cons (ps_if (PW.pt (pw_or (pt_not (pt_val (pe_callS G_l_program_right (hr.mono (by decide)) (by rfl) T.g_l_program_right T.F_l_program_right.kp T.d_l_program_right (fun σ=>Zbt σ) (pa_cons (pe_callS G_l_chain (hr.mono (by decide)) (by rfl) T.g_l_chain T.F_l_chain.kp T.d_l_chain (fun σ=>Zbt σ) (pa_cons (pv 5) pa_nil)) pa_nil)))) (pw_or1 (pt_cmpR op_notN (pe_callS G_l_fault (hr.mono (by decide)) (by rfl) T.g_l_fault T.F_l_fault.kp T.d_l_fault (fun σ=>Zbt σ) (pa_cons (pv 4) pa_nil)) pe_non (nomark _)))))
    (pss_one (ps_ret pe_bl))
    pss_nil)
   (pss_cons (ps_set (i:=6) nd rfl (Or.inl rfl) (pe_op ZcS (pv 3) (pe_lst (pa_cons pe_str (pa_cons pe_str (pa_cons pe_str (pa_cons pe_str (pa_cons pe_str (pa_cons pe_str (pa_cons pe_str (pa_cons pe_str (pa_cons pe_str pa_nil))))))))))))
   (pss_cons (ps_for PassesOwn.never rfl (pi_range1 (by rfl) T.b_range (pa_cons pe_int pa_nil)) (pg_name (i:=7) nd rfl (Or.inl rfl))
    (pss_cons (ps_set (i:=8) nd rfl (Or.inl rfl) (pe_callS G_l_draws (hr.mono (by decide)) (by rfl) T.g_l_draws T.F_l_draws.kp T.d_l_draws (fun σ=>Zbt σ) (pa_cons (pe_op op_add (pe_callS G_l_cell (hr.mono (by decide)) (by rfl) T.g_l_cell T.F_l_cell.kp T.d_l_cell (fun σ=>Zbt σ) (pa_cons (pv 0) (pa_cons (pe_op op_add pe_int (pv 7)) pa_nil))) (pe_op op_mul pe_int (pv 7))) (pa_cons pe_int pa_nil))))
   (pss_cons (ps_set (i:=9) nd rfl (Or.inl rfl) (pe_callS (G_l_changed 100) (hr.mono (by decide)) (by rfl) T.g_l_changed T.F_l_changed.kp T.d_l_changed (fun σ=>Zbt σ) (pa_cons (pv 8) (pa_cons pe_int (pa_cons (pv 4) (pa_cons (pe_ix (Zdi K) (pv 6) (pe_callS G_l_pick (hr.mono (by decide)) (by rfl) T.g_l_pick T.F_l_pick.kp T.d_l_pick (fun σ=>Zbt σ) (pa_cons (pv 8) (pa_cons pe_int (pa_cons (pe_callB (len_K K) (by rfl) T.b_len (by decide +kernel) (pa_cons (pv 6) pa_nil)) pa_nil)))) (fun _ _=>rfl)) pa_nil))))))
   (pss_cons (ps_if (pt_cmpR op_eq (pe_callS G_l_pick (hr.mono (by decide)) (by rfl) T.g_l_pick T.F_l_pick.kp T.d_l_pick (fun σ=>Zbt σ) (pa_cons (pv 8) (pa_cons pe_int (pa_cons pe_int pa_nil)))) pe_int (nomark _))
    (pss_one (ps_set (i:=9) nd rfl (Or.inl rfl) (pe_callS (G_l_changed 100) (hr.mono (by decide)) (by rfl) T.g_l_changed T.F_l_changed.kp T.d_l_changed (fun σ=>Zbt σ) (pa_cons (pv 8) (pa_cons pe_int (pa_cons (pv 9) (pa_cons (pe_ix (Zdi K) (pv 6) (pe_callS G_l_pick (hr.mono (by decide)) (by rfl) T.g_l_pick T.F_l_pick.kp T.d_l_pick (fun σ=>Zbt σ) (pa_cons (pv 8) (pa_cons pe_int (pa_cons (pe_callB (len_K K) (by rfl) T.b_len (by decide +kernel) (pa_cons (pv 6) pa_nil)) pa_nil)))) (fun _ _=>rfl)) pa_nil)))))))
    pss_nil)
   (pss_one (ps_if (pt_not (pt_val (pe_callS G_l_program_right (hr.mono (by decide)) (by rfl) T.g_l_program_right T.F_l_program_right.kp T.d_l_program_right (fun σ=>Zbt σ) (pa_cons (pv 9) pa_nil))))
    (pss_one (ps_ret pe_bl))
    pss_nil))))))
   (pss_cons (ps_set (i:=10) nd rfl (Or.inl rfl) (pe_callS (G_l_written 100) (hr.mono (by decide)) (by rfl) T.g_l_written T.F_l_written.kp T.d_l_written (fun σ=>Zbt σ) (pa_cons (pv 4) pa_nil)))
   (pss_cons (ps_for PassesOwn.never rfl (pi_range1 (by rfl) T.b_range (pa_cons pe_int pa_nil)) (pg_name (i:=7) nd rfl (Or.inl rfl))
    (pss_cons (ps_set (i:=8) nd rfl (Or.inl rfl) (pe_callS G_l_draws (hr.mono (by decide)) (by rfl) T.g_l_draws T.F_l_draws.kp T.d_l_draws (fun σ=>Zbt σ) (pa_cons (pe_op op_add (pe_callS G_l_cell (hr.mono (by decide)) (by rfl) T.g_l_cell T.F_l_cell.kp T.d_l_cell (fun σ=>Zbt σ) (pa_cons (pv 0) (pa_cons (pe_op op_add pe_int (pv 7)) pa_nil))) (pe_op op_mul pe_int (pv 7))) (pa_cons pe_int pa_nil))))
   (pss_cons (ps_set (i:=9) nd rfl (Or.inl rfl) (pe_callS G_l_text_changed (hr.mono (by decide)) (by rfl) T.g_l_text_changed T.F_l_text_changed.kp T.d_l_text_changed (fun σ=>Zbt σ) (pa_cons (pv 8) (pa_cons pe_int (pa_cons (pv 10) pa_nil)))))
   (pss_cons (ps_if (pt_cmpR op_eq (pe_callS G_l_pick (hr.mono (by decide)) (by rfl) T.g_l_pick T.F_l_pick.kp T.d_l_pick (fun σ=>Zbt σ) (pa_cons (pv 8) (pa_cons pe_int (pa_cons pe_int pa_nil)))) pe_int (nomark _))
    (pss_one (ps_set (i:=9) nd rfl (Or.inl rfl) (pe_callS G_l_text_changed (hr.mono (by decide)) (by rfl) T.g_l_text_changed T.F_l_text_changed.kp T.d_l_text_changed (fun σ=>Zbt σ) (pa_cons (pv 8) (pa_cons pe_int (pa_cons (pv 9) pa_nil))))))
    pss_nil)
   (pss_one (ps_if (pt_not (pt_val (pe_callS G_l_text_right (hr.mono (by decide)) (by rfl) T.g_l_text_right T.F_l_text_right.kp T.d_l_text_right (fun σ=>Zbt σ) (pa_cons (pv 9) pa_nil))))
    (pss_one (ps_ret pe_bl))
    pss_nil))))))
   (pss_cons (ps_for PassesOwn.never rfl (pi_lK K (pe_lst (pa_cons (pe_op Zbm (pv 10) pe_str) (pa_cons (pe_op Zbm (pv 10) pe_str) (pa_cons (pe_op Zbm pe_str (pv 10)) (pa_cons pe_str (pa_cons (pe_op Zbm (pv 10) (pv 10)) pa_nil))))))) (pg_name (i:=9) nd rfl (Or.inl rfl))
    (pss_one (ps_if (pt_not (pt_val (pe_callS G_l_text_right (hr.mono (by decide)) (by rfl) T.g_l_text_right T.F_l_text_right.kp T.d_l_text_right (fun σ=>Zbt σ) (pa_cons (pv 9) pa_nil))))
    (pss_one (ps_ret pe_bl))
    pss_nil)))
   (pss_one (ps_ret (pe_callS G_l_program_right (hr.mono (by decide)) (by rfl) T.g_l_program_right T.F_l_program_right.kp T.d_l_program_right (fun σ=>Zbt σ) (pa_cons (pv 4) pa_nil)))))))))))))))),?_⟩
 try dsimp only [cxOf]
 obtain ⟨script,e,h⟩:=h
 refine Zm.body0 (tx:=T.A.tx) (js:=[0,1,2,3,4,5,6,7,8,9,10]) (m:=law_m script) e h ?_
 refine ZcE (Γ2:=[(.val (dSq (d:=dInt)) script),.no,.no,.no,.no,.no,.no,.no,.no,.no,.no]) rfl ?_
 delta law_m
 refine Zau (i:=1) rfl (by decide) (Zae (we_o (oe_call2 hs_l_draws rfl (ZbQ hs_l_cell rfl (Zaa rfl) Zac) Zac)) rfl) fun draws_here_2=>?_
 refine Zau (i:=2) rfl (by decide) (Zae (we_o (oe_call2 hs_l_draws rfl (ZbQ hs_l_cell rfl (Zaa rfl) Zac) Zac)) rfl) fun extra_4=>?_
 refine Zau (i:=3) rfl (by decide) (Zae (we_o (oe_call3 hs_l_distinct rfl (Zaa rfl) (Zaa rfl) (ZaZ (re_w Zac) (re_w (ZaD ZaX rfl (Zaa rfl) Zac Zac))))) rfl) fun names_8=>?_
 refine Zau (i:=4) rfl (by decide) (Zae (Zam (ZaD hs_l_program rfl (Zaa rfl) Zac (Zaa rfl))) rfl) fun program_here_9=>?_
 refine Zau (i:=5) rfl (by decide) (Zae (we_o (oe_call3 hs_l_distinct rfl (Zaa rfl) (Zaa rfl) Zac)) rfl) fun many_10=>?_
 refine ZbU (Zap (te_or (Zdk (te_B (ZaF ZbT rfl (ZaB (d:=dUI) (Zaa rfl))))) (Zdk (te_B (ZaF ZbT rfl (ZaF hs_l_chain rfl (we_o (oe_sl (Zaa rfl) (Zba (re_w Zac)) Zcb))))))) rfl) ?_ ?_
 ·exact Zav (Zae Zee rfl)
 ·refine Zag ?_
  refine ZbU (Zap (te_or (Zdk (te_B (ZaF ZbT rfl (ZaF hs_l_chain rfl (Zaa rfl))))) (Zaf (we_notNU (re_w (ZaF hs_l_fault rfl (ZaB (d:=dUI) (Zaa rfl))))))) rfl) ?_ ?_
  ·exact Zav (Zae Zee rfl)
  ·refine Zag ?_
   refine Zau (i:=6) rfl (by decide) (Zae (we_o (ZdR (Zaa rfl) (we_o (Zcc (Zaj Zad (Zaj Zad (Zaj Zad (Zaj Zad (Zaj Zad (Zaj Zad (Zaj Zad (Zaj Zad (Zaj Zad Zca))))))))) (ZaH (ZaH (ZaH (ZaH (ZaH (ZaH (ZaH (ZaH (ZaH ZcT))))))))) (by decide))))) rfl) fun menu_21=>?_
   refine zm_forC [7,8,9] (fun (_:Unit)=>[(.val (dSq (d:=dInt)) script),(.val (dList (d:=dInt)) draws_here_2),(.val (dList (d:=dInt)) extra_4),(.val (dList (d:=dStr)) names_8),(.val dU program_here_9),(.val (dList (d:=dStr)) many_10),(.val (dList (d:=dStr)) menu_21),.no,.no,.no,.no]) (fun r=>.val dBool r) () (wlen 11 (by exact rfl) (by exact rfl) (by decide)) rfl (fun _=>(wlen 11 (by exact rfl) (by exact rfl) (by decide))) (ie_eq (ZdS (re_w Zac)) rfl) (fun _ x23=>(ZaT rfl ⟨(wlen 11 (by exact rfl) (by exact rfl) (by decide)),?_⟩)) rt_KF fun _=>?_
   ·refine Zau (i:=8) rfl (by decide) (Zae (we_o (oe_call2 hs_l_draws rfl (ZaZ (re_w (ZbQ hs_l_cell rfl (Zaa rfl) (ZaZ (re_w Zac) (re_w (Zaa rfl))))) (re_w (ZdH (re_w Zac) (re_w (Zaa rfl))))) Zac)) rfl) fun row_27=>?_
    refine Zau (i:=9) rfl (by decide) (Zae (we_call4 Zdd rfl (Zaa rfl) Zac (ZaB (d:=dUI) (Zaa rfl)) (we_ix (Zaa rfl) (re_w (ZaD ZaX rfl (Zaa rfl) Zac (ZcU (re_w (Zaa rfl))))))) rfl) fun changed_here_32=>?_
    refine ZcM [] (fun s38=>[(.val (dSq (d:=dInt)) script),(.val (dList (d:=dInt)) draws_here_2),(.val (dList (d:=dInt)) extra_4),(.val (dList (d:=dStr)) names_8),(.val dU program_here_9),(.val (dList (d:=dStr)) many_10),(.val (dList (d:=dStr)) menu_21),(.val dInt x23),(.val (dList (d:=dInt)) row_27),(.val dUI s38),.no]) (fun _=>(wlen 11 (by exact rfl) (by exact rfl) (by decide))) ?_ fun s38=>?_
    ·refine Zai (ZbU (Zap (Zaf (ZaS (re_w (ZaD ZaX rfl (Zaa rfl) Zac Zac)) (re_w Zac))) rfl) ?_ ?_)
     ·refine Zau (i:=9) rfl (by decide) (Zae (we_call4 Zdd rfl (Zaa rfl) Zac (Zaa rfl) (we_ix (Zaa rfl) (re_w (ZaD ZaX rfl (Zaa rfl) Zac (ZcU (re_w (Zaa rfl))))))) rfl) fun changed_here_37=>?_
      exact ZaN rfl
     ·refine Zag ?_
      exact ZaN rfl
    ·refine Zai ?_
     refine ZbU (Zap (Zdk (te_B (ZaF ZbT rfl (Zaa rfl)))) rfl) ?_ ?_
     ·exact Zci (Zae Zee rfl)
     ·refine Zag ?_
      exact ZbJ rfl
   ·refine Zau (i:=10) rfl (by decide) (Zae (ZaF ZcL rfl (ZaB (d:=dUI) (Zaa rfl))) rfl) fun text_44=>?_
    refine zm_forC [7,8,9] (fun (_:Unit)=>[(.val (dSq (d:=dInt)) script),(.val (dList (d:=dInt)) draws_here_2),(.val (dList (d:=dInt)) extra_4),(.val (dList (d:=dStr)) names_8),(.val dU program_here_9),(.val (dList (d:=dStr)) many_10),(.val (dList (d:=dStr)) menu_21),.no,.no,.no,(.val dStr text_44)]) (fun r=>.val dBool r) () (wlen 11 (by exact rfl) (by exact rfl) (by decide)) rfl (fun _=>(wlen 11 (by exact rfl) (by exact rfl) (by decide))) (ie_eq (ZdS (re_w Zac)) rfl) (fun _ x46=>(ZaT rfl ⟨(wlen 11 (by exact rfl) (by exact rfl) (by decide)),?_⟩)) rt_KF fun _=>?_
    ·refine Zau (i:=8) rfl (by decide) (Zae (we_o (oe_call2 hs_l_draws rfl (ZaZ (re_w (ZbQ hs_l_cell rfl (Zaa rfl) (ZaZ (re_w Zac) (re_w (Zaa rfl))))) (re_w (ZdH (re_w Zac) (re_w (Zaa rfl))))) Zac)) rfl) fun row_50=>?_
     refine Zau (i:=9) rfl (by decide) (Zae (Zaw (ZaD Zen rfl (Zaa rfl) Zac (Zaa rfl))) rfl) fun changed_here_52=>?_
     refine ZcM [] (fun s57=>[(.val (dSq (d:=dInt)) script),(.val (dList (d:=dInt)) draws_here_2),(.val (dList (d:=dInt)) extra_4),(.val (dList (d:=dStr)) names_8),(.val dU program_here_9),(.val (dList (d:=dStr)) many_10),(.val (dList (d:=dStr)) menu_21),(.val dInt x46),(.val (dList (d:=dInt)) row_50),(.val dUI s57),(.val dStr text_44)]) (fun _=>(wlen 11 (by exact rfl) (by exact rfl) (by decide))) ?_ fun s57=>?_
     ·refine Zai (ZbU (Zap (Zaf (ZaS (re_w (ZaD ZaX rfl (Zaa rfl) Zac Zac)) (re_w Zac))) rfl) ?_ ?_)
      ·refine Zau (i:=9) rfl (by decide) (Zae (Zaw (ZaD Zen rfl (Zaa rfl) Zac (ZaB (Zam (Zaa rfl))))) rfl) fun changed_here_56=>?_
       exact ZaN rfl
      ·refine Zag ?_
       exact ZaN rfl
     ·refine Zai ?_
      refine ZbU (Zap (Zdk (te_B (ZaF ZdE rfl (ZaB (Zam (Zaa rfl)))))) rfl) ?_ ?_
      ·exact Zci (Zae Zee rfl)
      ·refine Zag ?_
       exact ZbJ rfl
    ·refine zm_forC [9] (fun (_:Unit)=>[(.val (dSq (d:=dInt)) script),(.val (dList (d:=dInt)) draws_here_2),(.val (dList (d:=dInt)) extra_4),(.val (dList (d:=dStr)) names_8),(.val dU program_here_9),(.val (dList (d:=dStr)) many_10),(.val (dList (d:=dStr)) menu_21),.no,.no,.no,(.val dStr text_44)]) (fun r=>.val dBool r) () (wlen 11 (by exact rfl) (by exact rfl) (by decide)) rfl (fun _=>(wlen 11 (by exact rfl) (by exact rfl) (by decide))) (ie_eq (ie_list (we_o (Zcc (Zaj (Zbl (Zaa rfl) Zad) (Zaj (Zbl (Zaa rfl) Zad) (Zaj (Zbl Zad (Zaa rfl)) (Zaj Zad (Zaj (Zbl (Zaa rfl) (Zaa rfl)) Zca))))) (ZaH (ZaH (ZaH (ZaH (ZaH ZcT))))) (by decide)))) rfl) (fun _ x72=>(ZaT rfl ⟨(wlen 11 (by exact rfl) (by exact rfl) (by decide)),?_⟩)) rt_KF fun _=>?_
     ·refine Zai ?_
      refine ZbU (Zap (Zdk (te_B (ZaF ZdE rfl (Zaa rfl)))) rfl) ?_ ?_
      ·exact Zci (Zae Zee rfl)
      ·refine Zag ?_
       exact ZbJ rfl
     ·refine Zai ?_
      exact Zav (Zae (ZaF ZbT rfl (ZaB (d:=dUI) (Zaa rfl))) rfl)
end K81
namespace K81
open PySem L2 G PM
set_option maxHeartbeats 0 in
theorem all_mk {w:World} {K:PySem.W.Frag} {h:Heap} {mg:Str→Option Value} {fa:Addr} (X:K.In h) (G:h.Ns mainGlobals mg) (hfa:mg "law" = some (.ref fa))
  {D_BadName:Addr}
  {D_BadSign:Addr}
  {D_BoundTwice:Addr}
  {D_ComesapartError:Addr}
  {D_NotUsed:Addr}
  {D_TooLarge:Addr}
  {D_UnknownName:Addr}
  {D_UsedTwice:Addr}
  {tg_ALPHABET:_}
  {tg_MOST_FUNS:_}
  {tg_MOST_IN_NAME:_}
  {od0 an0:Option Addr} {sl0:Array (Option Value)} {oc0 kV0 dc0 pm0 cd0 ct0:Value} {f0:Addr}
  {od1 an1:Option Addr} {sl1:Array (Option Value)} {oc1 kV1 dc1 pm1 cd1 ct1:Value} {f1:Addr}
  {od2 an2:Option Addr} {sl2:Array (Option Value)} {oc2 kV2 dc2 pm2 cd2 ct2:Value} {f2:Addr}
  {od3 an3:Option Addr} {sl3:Array (Option Value)} {oc3 kV3 dc3 pm3 cd3 ct3:Value} {f3:Addr}
  {od4 an4:Option Addr} {sl4:Array (Option Value)} {oc4 kV4 dc4 pm4 cd4 ct4:Value} {f4:Addr}
  {od5 an5:Option Addr} {sl5:Array (Option Value)} {oc5 kV5 dc5 pm5 cd5 ct5:Value} {f5:Addr}
  {od6 an6:Option Addr} {sl6:Array (Option Value)} {oc6 kV6 dc6 pm6 cd6 ct6:Value} {f6:Addr}
  {od7 an7:Option Addr} {sl7:Array (Option Value)} {oc7 kV7 dc7 pm7 cd7 ct7:Value} {f7:Addr}
  {od8 an8:Option Addr} {sl8:Array (Option Value)} {oc8 kV8 dc8 pm8 cd8 ct8:Value} {f8:Addr}
  {od9 an9:Option Addr} {sl9:Array (Option Value)} {oc9 kV9 dc9 pm9 cd9 ct9:Value} {f9:Addr}
  {od10 an10:Option Addr} {sl10:Array (Option Value)} {oc10 kV10 dc10 pm10 cd10 ct10:Value} {f10:Addr}
  {od11 an11:Option Addr} {sl11:Array (Option Value)} {oc11 kV11 dc11 pm11 cd11 ct11:Value} {f11:Addr}
  {od12 an12:Option Addr} {sl12:Array (Option Value)} {oc12 kV12 dc12 pm12 cd12 ct12:Value} {f12:Addr}
  {od13 an13:Option Addr} {sl13:Array (Option Value)} {oc13 kV13 dc13 pm13 cd13 ct13:Value} {f13:Addr}
  {od14 an14:Option Addr} {sl14:Array (Option Value)} {oc14 kV14 dc14 pm14 cd14 ct14:Value} {f14:Addr}
  {od15 an15:Option Addr} {sl15:Array (Option Value)} {oc15 kV15 dc15 pm15 cd15 ct15:Value} {f15:Addr}
  {od16 an16:Option Addr} {sl16:Array (Option Value)} {oc16 kV16 dc16 pm16 cd16 ct16:Value} {f16:Addr}
  {od17 an17:Option Addr} {sl17:Array (Option Value)} {oc17 kV17 dc17 pm17 cd17 ct17:Value} {f17:Addr}
  {od18 an18:Option Addr} {sl18:Array (Option Value)} {oc18 kV18 dc18 pm18 cd18 ct18:Value} {f18:Addr}
  {od19 an19:Option Addr} {sl19:Array (Option Value)} {oc19 kV19 dc19 pm19 cd19 ct19:Value} {f19:Addr}
  {od20 an20:Option Addr} {sl20:Array (Option Value)} {oc20 kV20 dc20 pm20 cd20 ct20:Value} {f20:Addr}
  {od21 an21:Option Addr} {sl21:Array (Option Value)} {oc21 kV21 dc21 pm21 cd21 ct21:Value} {f21:Addr}
  {od22 an22:Option Addr} {sl22:Array (Option Value)} {oc22 kV22 dc22 pm22 cd22 ct22:Value} {f22:Addr}
  {od23 an23:Option Addr} {sl23:Array (Option Value)} {oc23 kV23 dc23 pm23 cd23 ct23:Value} {f23:Addr}
  {od24 an24:Option Addr} {sl24:Array (Option Value)} {oc24 kV24 dc24 pm24 cd24 ct24:Value} {f24:Addr}
  {od25 an25:Option Addr} {sl25:Array (Option Value)} {oc25 kV25 dc25 pm25 cd25 ct25:Value} {f25:Addr}
  {od26 an26:Option Addr} {sl26:Array (Option Value)} {oc26 kV26 dc26 pm26 cd26 ct26:Value} {f26:Addr}
  {od27 an27:Option Addr} {sl27:Array (Option Value)} {oc27 kV27 dc27 pm27 cd27 ct27:Value} {f27:Addr}
  {od28 an28:Option Addr} {sl28:Array (Option Value)} {oc28 kV28 dc28 pm28 cd28 ct28:Value} {f28:Addr}
  {od29 an29:Option Addr} {sl29:Array (Option Value)} {oc29 kV29 dc29 pm29 cd29 ct29:Value} {f29:Addr}
  {od30 an30:Option Addr} {sl30:Array (Option Value)} {oc30 kV30 dc30 pm30 cd30 ct30:Value} {f30:Addr}
  {od31 an31:Option Addr} {sl31:Array (Option Value)} {oc31 kV31 dc31 pm31 cd31 ct31:Value} {f31:Addr}
  {xo_BadName xd_BadName:Option Addr} {xs_BadName xt_BadName xu_BadName:Array (Option Value)} {xa_BadName xb_BadName xc_BadName xdc_BadName xpm_BadName xct_BadName:Value} {xf_BadName cc_BadName cda_BadName:Addr} {xe_BadName:Option Addr} {vs_BadName:Array Value} {cdx_BadName:ClassData}
  {nm_BadName q_BadName:Str} {N_BadName:Addr} {bs_BadName bm_BadName:List Value} {sn_BadName:_} {sub_BadName:_} {ab_BadName:_} {col_BadName:_} {dd_BadName:_} {k0_BadName:_} {k1_BadName:_} {k2_BadName:_} {k3_BadName:_} {k5_BadName:_}
  {fl_BadName:Str} {tf_BadName:_}
  {xo_BadSign xd_BadSign:Option Addr} {xs_BadSign xt_BadSign xu_BadSign:Array (Option Value)} {xa_BadSign xb_BadSign xc_BadSign xdc_BadSign xpm_BadSign xct_BadSign:Value} {xf_BadSign cc_BadSign cda_BadSign:Addr} {xe_BadSign:Option Addr} {vs_BadSign:Array Value} {cdx_BadSign:ClassData}
  {nm_BadSign q_BadSign:Str} {N_BadSign:Addr} {bs_BadSign bm_BadSign:List Value} {sn_BadSign:_} {sub_BadSign:_} {ab_BadSign:_} {col_BadSign:_} {dd_BadSign:_} {k0_BadSign:_} {k1_BadSign:_} {k2_BadSign:_} {k3_BadSign:_} {k5_BadSign:_}
  {fl_BadSign:Str} {tf_BadSign:_}
  {xo_BoundTwice xd_BoundTwice:Option Addr} {xs_BoundTwice xt_BoundTwice xu_BoundTwice:Array (Option Value)} {xa_BoundTwice xb_BoundTwice xc_BoundTwice xdc_BoundTwice xpm_BoundTwice xct_BoundTwice:Value} {xf_BoundTwice cc_BoundTwice cda_BoundTwice:Addr} {xe_BoundTwice:Option Addr} {vs_BoundTwice:Array Value} {cdx_BoundTwice:ClassData}
  {nm_BoundTwice q_BoundTwice:Str} {N_BoundTwice:Addr} {bs_BoundTwice bm_BoundTwice:List Value} {sn_BoundTwice:_} {sub_BoundTwice:_} {ab_BoundTwice:_} {col_BoundTwice:_} {dd_BoundTwice:_} {k0_BoundTwice:_} {k1_BoundTwice:_} {k2_BoundTwice:_} {k3_BoundTwice:_} {k5_BoundTwice:_}
  {fl_BoundTwice:Str} {tf_BoundTwice:_}
  {xo_NotUsed xd_NotUsed:Option Addr} {xs_NotUsed xt_NotUsed xu_NotUsed:Array (Option Value)} {xa_NotUsed xb_NotUsed xc_NotUsed xdc_NotUsed xpm_NotUsed xct_NotUsed:Value} {xf_NotUsed cc_NotUsed cda_NotUsed:Addr} {xe_NotUsed:Option Addr} {vs_NotUsed:Array Value} {cdx_NotUsed:ClassData}
  {nm_NotUsed q_NotUsed:Str} {N_NotUsed:Addr} {bs_NotUsed bm_NotUsed:List Value} {sn_NotUsed:_} {sub_NotUsed:_} {ab_NotUsed:_} {col_NotUsed:_} {dd_NotUsed:_} {k0_NotUsed:_} {k1_NotUsed:_} {k2_NotUsed:_} {k3_NotUsed:_} {k5_NotUsed:_}
  {fl_NotUsed:Str} {tf_NotUsed:_}
  {xo_TooLarge xd_TooLarge:Option Addr} {xs_TooLarge xt_TooLarge xu_TooLarge:Array (Option Value)} {xa_TooLarge xb_TooLarge xc_TooLarge xdc_TooLarge xpm_TooLarge xct_TooLarge:Value} {xf_TooLarge cc_TooLarge cda_TooLarge:Addr} {xe_TooLarge:Option Addr} {vs_TooLarge:Array Value} {cdx_TooLarge:ClassData}
  {nm_TooLarge q_TooLarge:Str} {N_TooLarge:Addr} {bs_TooLarge bm_TooLarge:List Value} {sn_TooLarge:_} {sub_TooLarge:_} {ab_TooLarge:_} {col_TooLarge:_} {dd_TooLarge:_} {k0_TooLarge:_} {k1_TooLarge:_} {k2_TooLarge:_} {k3_TooLarge:_} {k5_TooLarge:_}
  {fl_TooLarge:Str} {tf_TooLarge:_}
  {xo_UnknownName xd_UnknownName:Option Addr} {xs_UnknownName xt_UnknownName xu_UnknownName:Array (Option Value)} {xa_UnknownName xb_UnknownName xc_UnknownName xdc_UnknownName xpm_UnknownName xct_UnknownName:Value} {xf_UnknownName cc_UnknownName cda_UnknownName:Addr} {xe_UnknownName:Option Addr} {vs_UnknownName:Array Value} {cdx_UnknownName:ClassData}
  {nm_UnknownName q_UnknownName:Str} {N_UnknownName:Addr} {bs_UnknownName bm_UnknownName:List Value} {sn_UnknownName:_} {sub_UnknownName:_} {ab_UnknownName:_} {col_UnknownName:_} {dd_UnknownName:_} {k0_UnknownName:_} {k1_UnknownName:_} {k2_UnknownName:_} {k3_UnknownName:_} {k5_UnknownName:_}
  {fl_UnknownName:Str} {tf_UnknownName:_}
  {xo_UsedTwice xd_UsedTwice:Option Addr} {xs_UsedTwice xt_UsedTwice xu_UsedTwice:Array (Option Value)} {xa_UsedTwice xb_UsedTwice xc_UsedTwice xdc_UsedTwice xpm_UsedTwice xct_UsedTwice:Value} {xf_UsedTwice cc_UsedTwice cda_UsedTwice:Addr} {xe_UsedTwice:Option Addr} {vs_UsedTwice:Array Value} {cdx_UsedTwice:ClassData}
  {nm_UsedTwice q_UsedTwice:Str} {N_UsedTwice:Addr} {bs_UsedTwice bm_UsedTwice:List Value} {sn_UsedTwice:_} {sub_UsedTwice:_} {ab_UsedTwice:_} {col_UsedTwice:_} {dd_UsedTwice:_} {k0_UsedTwice:_} {k1_UsedTwice:_} {k2_UsedTwice:_} {k3_UsedTwice:_} {k5_UsedTwice:_}
  {fl_UsedTwice:Str} {tf_UsedTwice:_}
  {cdy_BadName:ClassData}
  {cdy_BadSign:ClassData}
  {cdy_BoundTwice:ClassData}
  {cdy_ComesapartError:ClassData}
  {cdy_NotUsed:ClassData}
  {cdy_TooLarge:ClassData}
  {cdy_UnknownName:ClassData}
  {cdy_UsedTwice:ClassData}
  (q0:PySem.W.nsIn K mainGlobals "BadName" = some (some (.ref D_BadName)))
  (q1:PySem.W.nsIn K mainGlobals "BadSign" = some (some (.ref D_BadSign)))
  (q2:PySem.W.nsIn K mainGlobals "BoundTwice" = some (some (.ref D_BoundTwice)))
  (q3:PySem.W.nsIn K mainGlobals "ComesapartError" = some (some (.ref D_ComesapartError)))
  (q4:PySem.W.nsIn K mainGlobals "NotUsed" = some (some (.ref D_NotUsed)))
  (q5:PySem.W.nsIn K mainGlobals "TooLarge" = some (some (.ref D_TooLarge)))
  (q6:PySem.W.nsIn K mainGlobals "UnknownName" = some (some (.ref D_UnknownName)))
  (q7:PySem.W.nsIn K mainGlobals "UsedTwice" = some (some (.ref D_UsedTwice)))
  (q8:PySem.W.nsIn K mainGlobals "ALPHABET" = some (some (.str "abcdefghijklmnopqrstuvwxyz" tg_ALPHABET)))
  (q9:PySem.W.nsIn K mainGlobals "MOST_FUNS" = some (some (.int (12) tg_MOST_FUNS)))
  (q10:PySem.W.nsIn K mainGlobals "MOST_IN_NAME" = some (some (.int (8) tg_MOST_IN_NAME)))
  (q11:PySem.W.nsIn K mainGlobals "_law_cell" = some (some (.ref f0)))
  (q12:K.lookup f0=some ⟨oc0,od0,.func (PySem.W.fnOf "_law_cell" "_law_cell" (defArgs s_l_cell) (defBody s_l_cell) (defScope s_l_cell) .none kV0 dc0 pm0 an0 cd0 ct0),sl0⟩)
  (q13:PySem.W.codeIn K cd0 "_law_cell" = true)
  (q14:PySem.W.keepIn K (.ref f0)=true)
  (q15:PySem.W.nsIn K mainGlobals "_law_draws" = some (some (.ref f1)))
  (q16:K.lookup f1=some ⟨oc1,od1,.func (PySem.W.fnOf "_law_draws" "_law_draws" (defArgs Zei) (defBody Zei) (defScope Zei) .none kV1 dc1 pm1 an1 cd1 ct1),sl1⟩)
  (q17:PySem.W.codeIn K cd1 "_law_draws" = true)
  (q18:PySem.W.keepIn K (.ref f1)=true)
  (q19:PySem.W.nsIn K mainGlobals "_law_pick" = some (some (.ref f2)))
  (q20:K.lookup f2=some ⟨oc2,od2,.func (PySem.W.fnOf "_law_pick" "_law_pick" (defArgs s_l_pick) (defBody s_l_pick) (defScope s_l_pick) .none kV2 dc2 pm2 an2 cd2 ct2),sl2⟩)
  (q21:PySem.W.codeIn K cd2 "_law_pick" = true)
  (q22:PySem.W.keepIn K (.ref f2)=true)
  (q23:PySem.W.nsIn K mainGlobals "_law_shuffled" = some (some (.ref f3)))
  (q24:K.lookup f3=some ⟨oc3,od3,.func (PySem.W.fnOf "_law_shuffled" "_law_shuffled" (defArgs ZcJ) (defBody ZcJ) (defScope ZcJ) .none kV3 dc3 pm3 an3 cd3 ct3),sl3⟩)
  (q25:PySem.W.codeIn K cd3 "_law_shuffled" = true)
  (q26:PySem.W.keepIn K (.ref f3)=true)
  (q27:PySem.W.nsIn K mainGlobals "_law_distinct" = some (some (.ref f4)))
  (q28:K.lookup f4=some ⟨oc4,od4,.func (PySem.W.fnOf "_law_distinct" "_law_distinct" (defArgs Zbw) (defBody Zbw) (defScope Zbw) .none kV4 dc4 pm4 an4 cd4 ct4),sl4⟩)
  (q29:PySem.W.codeIn K cd4 "_law_distinct" = true)
  (q30:PySem.W.keepIn K (.ref f4)=true)
  (q31:PySem.W.nsIn K mainGlobals "_law_program" = some (some (.ref f5)))
  (q32:K.lookup f5=some ⟨oc5,od5,.func (PySem.W.fnOf "_law_program" "_law_program" (defArgs Zcp) (defBody Zcp) (defScope Zcp) .none kV5 dc5 pm5 an5 cd5 ct5),sl5⟩)
  (q33:PySem.W.codeIn K cd5 "_law_program" = true)
  (q34:PySem.W.keepIn K (.ref f5)=true)
  (q35:PySem.W.nsIn K mainGlobals "_law_events" = some (some (.ref f6)))
  (q36:K.lookup f6=some ⟨oc6,od6,.func (PySem.W.fnOf "_law_events" "_law_events" (defArgs Zdx) (defBody Zdx) (defScope Zdx) .none kV6 dc6 pm6 an6 cd6 ct6),sl6⟩)
  (q37:PySem.W.codeIn K cd6 "_law_events" = true)
  (q38:PySem.W.keepIn K (.ref f6)=true)
  (q39:PySem.W.nsIn K mainGlobals "_law_is_name" = some (some (.ref f7)))
  (q40:K.lookup f7=some ⟨oc7,od7,.func (PySem.W.fnOf "_law_is_name" "_law_is_name" (defArgs ZcY) (defBody ZcY) (defScope ZcY) .none kV7 dc7 pm7 an7 cd7 ct7),sl7⟩)
  (q41:PySem.W.codeIn K cd7 "_law_is_name" = true)
  (q42:PySem.W.keepIn K (.ref f7)=true)
  (q43:PySem.W.nsIn K mainGlobals "_law_fault" = some (some (.ref f8)))
  (q44:K.lookup f8=some ⟨oc8,od8,.func (PySem.W.fnOf "_law_fault" "_law_fault" (defArgs Zdz) (defBody Zdz) (defScope Zdz) .none kV8 dc8 pm8 an8 cd8 ct8),sl8⟩)
  (q45:PySem.W.codeIn K cd8 "_law_fault" = true)
  (q46:PySem.W.keepIn K (.ref f8)=true)
  (q47:PySem.W.nsIn K mainGlobals "name_end" = some (some (.ref f9)))
  (q48:K.lookup f9=some ⟨oc9,od9,.func (PySem.W.fnOf "name_end" "name_end" (defArgs ZcI) (defBody ZcI) (defScope ZcI) .none kV9 dc9 pm9 an9 cd9 ct9),sl9⟩)
  (q49:PySem.W.codeIn K cd9 "name_end" = true)
  (q50:PySem.W.keepIn K (.ref f9)=true)
  (q51:PySem.W.nsIn K mainGlobals "expect" = some (some (.ref f10)))
  (q52:K.lookup f10=some ⟨oc10,od10,.func (PySem.W.fnOf "expect" "expect" (defArgs Zdw) (defBody Zdw) (defScope Zdw) .none kV10 dc10 pm10 an10 cd10 ct10),sl10⟩)
  (q53:PySem.W.codeIn K cd10 "expect" = true)
  (q54:PySem.W.keepIn K (.ref f10)=true)
  (q55:PySem.W.nsIn K mainGlobals "read_program" = some (some (.ref f11)))
  (q56:K.lookup f11=some ⟨oc11,od11,.func (PySem.W.fnOf "read_program" "read_program" (defArgs ZbL) (defBody ZbL) (defScope ZbL) .none kV11 dc11 pm11 an11 cd11 ct11),sl11⟩)
  (q57:PySem.W.codeIn K cd11 "read_program" = true)
  (q58:PySem.W.keepIn K (.ref f11)=true)
  (q59:PySem.W.nsIn K mainGlobals "count_funs" = some (some (.ref f12)))
  (q60:K.lookup f12=some ⟨oc12,od12,.func (PySem.W.fnOf "count_funs" "count_funs" (defArgs Zcf) (defBody Zcf) (defScope Zcf) .none kV12 dc12 pm12 an12 cd12 ct12),sl12⟩)
  (q61:PySem.W.codeIn K cd12 "count_funs" = true)
  (q62:PySem.W.keepIn K (.ref f12)=true)
  (q63:PySem.W.nsIn K mainGlobals "is_name" = some (some (.ref f13)))
  (q64:K.lookup f13=some ⟨oc13,od13,.func (PySem.W.fnOf "is_name" "is_name" (defArgs ZcH) (defBody ZcH) (defScope ZcH) .none kV13 dc13 pm13 an13 cd13 ct13),sl13⟩)
  (q65:PySem.W.codeIn K cd13 "is_name" = true)
  (q66:PySem.W.keepIn K (.ref f13)=true)
  (q67:PySem.W.nsIn K mainGlobals "check_names" = some (some (.ref f14)))
  (q68:K.lookup f14=some ⟨oc14,od14,.func (PySem.W.fnOf "check_names" "check_names" (defArgs ZbW) (defBody ZbW) (defScope ZbW) .none kV14 dc14 pm14 an14 cd14 ct14),sl14⟩)
  (q69:PySem.W.codeIn K cd14 "check_names" = true)
  (q70:PySem.W.keepIn K (.ref f14)=true)
  (q71:PySem.W.nsIn K mainGlobals "check_program" = some (some (.ref f15)))
  (q72:K.lookup f15=some ⟨oc15,od15,.func (PySem.W.fnOf "check_program" "check_program" (defArgs Zby) (defBody Zby) (defScope Zby) .none kV15 dc15 pm15 an15 cd15 ct15),sl15⟩)
  (q73:PySem.W.codeIn K cd15 "check_program" = true)
  (q74:PySem.W.keepIn K (.ref f15)=true)
  (q75:PySem.W.nsIn K mainGlobals "parse_program" = some (some (.ref f16)))
  (q76:K.lookup f16=some ⟨oc16,od16,.func (PySem.W.fnOf "parse_program" "parse_program" (defArgs Zbx) (defBody Zbx) (defScope Zbx) .none kV16 dc16 pm16 an16 cd16 ct16),sl16⟩)
  (q77:PySem.W.codeIn K cd16 "parse_program" = true)
  (q78:PySem.W.keepIn K (.ref f16)=true)
  (q79:PySem.W.nsIn K mainGlobals "_law_told" = some (some (.ref f17)))
  (q80:K.lookup f17=some ⟨oc17,od17,.func (PySem.W.fnOf "_law_told" "_law_told" (defArgs s_l_told) (defBody s_l_told) (defScope s_l_told) .none kV17 dc17 pm17 an17 cd17 ct17),sl17⟩)
  (q81:PySem.W.codeIn K cd17 "_law_told" = true)
  (q82:PySem.W.keepIn K (.ref f17)=true)
  (q83:PySem.W.nsIn K mainGlobals "_law_same" = some (some (.ref f18)))
  (q84:K.lookup f18=some ⟨oc18,od18,.func (PySem.W.fnOf "_law_same" "_law_same" (defArgs s_l_same) (defBody s_l_same) (defScope s_l_same) .none kV18 dc18 pm18 an18 cd18 ct18),sl18⟩)
  (q85:PySem.W.codeIn K cd18 "_law_same" = true)
  (q86:PySem.W.keepIn K (.ref f18)=true)
  (q87:PySem.W.nsIn K mainGlobals "_law_written" = some (some (.ref f19)))
  (q88:K.lookup f19=some ⟨oc19,od19,.func (PySem.W.fnOf "_law_written" "_law_written" (defArgs ZcX) (defBody ZcX) (defScope ZcX) .none kV19 dc19 pm19 an19 cd19 ct19),sl19⟩)
  (q89:PySem.W.codeIn K cd19 "_law_written" = true)
  (q90:PySem.W.keepIn K (.ref f19)=true)
  (q91:PySem.W.nsIn K mainGlobals "_law_bad_sign" = some (some (.ref f20)))
  (q92:K.lookup f20=some ⟨oc20,od20,.func (PySem.W.fnOf "_law_bad_sign" "_law_bad_sign" (defArgs ZcK) (defBody ZcK) (defScope ZcK) .none kV20 dc20 pm20 an20 cd20 ct20),sl20⟩)
  (q93:PySem.W.codeIn K cd20 "_law_bad_sign" = true)
  (q94:PySem.W.keepIn K (.ref f20)=true)
  (q95:PySem.W.nsIn K mainGlobals "_law_tree" = some (some (.ref f21)))
  (q96:K.lookup f21=some ⟨oc21,od21,.func (PySem.W.fnOf "_law_tree" "_law_tree" (defArgs s_l_tree) (defBody s_l_tree) (defScope s_l_tree) .none kV21 dc21 pm21 an21 cd21 ct21),sl21⟩)
  (q97:PySem.W.codeIn K cd21 "_law_tree" = true)
  (q98:PySem.W.keepIn K (.ref f21)=true)
  (q99:PySem.W.nsIn K mainGlobals "format_program" = some (some (.ref f22)))
  (q100:K.lookup f22=some ⟨oc22,od22,.func (PySem.W.fnOf "format_program" "format_program" (defArgs Zbq) (defBody Zbq) (defScope Zbq) .none kV22 dc22 pm22 an22 cd22 ct22),sl22⟩)
  (q101:PySem.W.codeIn K cd22 "format_program" = true)
  (q102:PySem.W.keepIn K (.ref f22)=true)
  (q103:PySem.W.nsIn K mainGlobals "_law_text_right" = some (some (.ref f23)))
  (q104:K.lookup f23=some ⟨oc23,od23,.func (PySem.W.fnOf "_law_text_right" "_law_text_right" (defArgs Zcg) (defBody Zcg) (defScope Zcg) .none kV23 dc23 pm23 an23 cd23 ct23),sl23⟩)
  (q105:PySem.W.codeIn K cd23 "_law_text_right" = true)
  (q106:PySem.W.keepIn K (.ref f23)=true)
  (q107:PySem.W.nsIn K mainGlobals "_law_program_right" = some (some (.ref f24)))
  (q108:K.lookup f24=some ⟨oc24,od24,.func (PySem.W.fnOf "_law_program_right" "_law_program_right" (defArgs Zbz) (defBody Zbz) (defScope Zbz) .none kV24 dc24 pm24 an24 cd24 ct24),sl24⟩)
  (q109:PySem.W.codeIn K cd24 "_law_program_right" = true)
  (q110:PySem.W.keepIn K (.ref f24)=true)
  (q111:PySem.W.nsIn K mainGlobals "_law_chain" = some (some (.ref f25)))
  (q112:K.lookup f25=some ⟨oc25,od25,.func (PySem.W.fnOf "_law_chain" "_law_chain" (defArgs Zej) (defBody Zej) (defScope Zej) .none kV25 dc25 pm25 an25 cd25 ct25),sl25⟩)
  (q113:PySem.W.codeIn K cd25 "_law_chain" = true)
  (q114:PySem.W.keepIn K (.ref f25)=true)
  (q115:PySem.W.nsIn K mainGlobals "_law_name_changed" = some (some (.ref f26)))
  (q116:K.lookup f26=some ⟨oc26,od26,.func (PySem.W.fnOf "_law_name_changed" "_law_name_changed" (defArgs ZbN) (defBody ZbN) (defScope ZbN) .none kV26 dc26 pm26 an26 cd26 ct26),sl26⟩)
  (q117:PySem.W.codeIn K cd26 "_law_name_changed" = true)
  (q118:PySem.W.keepIn K (.ref f26)=true)
  (q119:PySem.W.nsIn K mainGlobals "_law_fun_changed" = some (some (.ref f27)))
  (q120:K.lookup f27=some ⟨oc27,od27,.func (PySem.W.fnOf "_law_fun_changed" "_law_fun_changed" (defArgs ZbY) (defBody ZbY) (defScope ZbY) .none kV27 dc27 pm27 an27 cd27 ct27),sl27⟩)
  (q121:PySem.W.codeIn K cd27 "_law_fun_changed" = true)
  (q122:PySem.W.keepIn K (.ref f27)=true)
  (q123:PySem.W.nsIn K mainGlobals "_law_use_changed" = some (some (.ref f28)))
  (q124:K.lookup f28=some ⟨oc28,od28,.func (PySem.W.fnOf "_law_use_changed" "_law_use_changed" (defArgs ZbX) (defBody ZbX) (defScope ZbX) .none kV28 dc28 pm28 an28 cd28 ct28),sl28⟩)
  (q125:PySem.W.codeIn K cd28 "_law_use_changed" = true)
  (q126:PySem.W.keepIn K (.ref f28)=true)
  (q127:PySem.W.nsIn K mainGlobals "_law_changed" = some (some (.ref f29)))
  (q128:K.lookup f29=some ⟨oc29,od29,.func (PySem.W.fnOf "_law_changed" "_law_changed" (defArgs ZcZ) (defBody ZcZ) (defScope ZcZ) .none kV29 dc29 pm29 an29 cd29 ct29),sl29⟩)
  (q129:PySem.W.codeIn K cd29 "_law_changed" = true)
  (q130:PySem.W.keepIn K (.ref f29)=true)
  (q131:PySem.W.nsIn K mainGlobals "_law_text_changed" = some (some (.ref f30)))
  (q132:K.lookup f30=some ⟨oc30,od30,.func (PySem.W.fnOf "_law_text_changed" "_law_text_changed" (defArgs ZbM) (defBody ZbM) (defScope ZbM) .none kV30 dc30 pm30 an30 cd30 ct30),sl30⟩)
  (q133:PySem.W.codeIn K cd30 "_law_text_changed" = true)
  (q134:PySem.W.keepIn K (.ref f30)=true)
  (q135:PySem.W.nsIn K mainGlobals "law" = some (some (.ref f31)))
  (q136:K.lookup f31=some ⟨oc31,od31,.func (PySem.W.fnOf "law" "law" (defArgs s_law) (defBody s_law) (defScope s_law) .none kV31 dc31 pm31 an31 cd31 ct31),sl31⟩)
  (q137:PySem.W.codeIn K cd31 "law" = true)
  (q138:PySem.W.keepIn K (.ref f31)=true)
  (q139:PySem.W.nsIn K mainGlobals "super" = some none)
  (q140:PySem.W.nsIn K PySem.cStatics "thirdparty.any" = some none)
  (q141:K.lookup D_BadName=some (excClassObj nm_BadName q_BadName D_BadName N_BadName bs_BadName bm_BadName true sn_BadName sub_BadName ab_BadName col_BadName dd_BadName k0_BadName k1_BadName k2_BadName k3_BadName k5_BadName "ValueError.__new__"))
  (q142:PySem.HandSPX.refsVE bm_BadName=true)
  (q143:PySem.W.findIn K (.ref D_BadName) "__setattr__" = some (some (.builtin "object.__setattr__")))
  (q144:PySem.W.subIn K (.ref D_BadName) (.type "BaseException")=some true)
  (q145:PySem.W.typeIn K (.ref D_BadName)=some (.type "type"))
  (q146:PySem.W.keepIn K (.ref D_BadName)=true)
  (q147:PySem.W.clsIn K D_BadName=some cdx_BadName)
  (q148:PySem.W.mroIn K D_BadName (.ref D_BadName)=some true)
  (q149:PySem.W.ks_superIn K D_BadName D_BadName "__init__" = some (some (.builtin "ValueError.__init__")))
  (q150:PySem.W.subIn K (.ref D_BadName) (.type "ValueError")=some true)
  (q151:PySem.W.findIn K (.ref D_BadName) "__init__" = some (some (.ref xf_BadName)))
  (q152:PySem.W.typeIn K (.ref xf_BadName)=some (.type "function"))
  (q153:K.lookup xf_BadName=some ⟨xa_BadName,xo_BadName,.func ((Zcx "__init__" "BadName.__init__" ((clsB (topS 6)).getD 0 (.Pass ⟨0,0,0,0⟩)) cc_BadName cda_BadName).fd xdc_BadName xpm_BadName xct_BadName),xs_BadName⟩)
  (q154:K.lookup cc_BadName=some ⟨xb_BadName,xd_BadName,.cell (some (.ref D_BadName)),xt_BadName⟩)
  (q155:K.lookup cda_BadName=some ⟨xc_BadName,xe_BadName,.fields vs_BadName,xu_BadName⟩)
  (q156:PySem.W.codeIn K (.ref cda_BadName) "BadName.__init__" = true)
  (q157:vs_BadName[2]? = some (.str fl_BadName tf_BadName))
  (q158:((PySem.Challenge.rw_comesapart_k81_programs_read_and_checked.prog.main.file:Str) == fl_BadName)=true)
  (q159:PySem.W.findIn K (.ref D_BadName) "name" = some none)
  (q160:K.lookup D_BadSign=some (excClassObj nm_BadSign q_BadSign D_BadSign N_BadSign bs_BadSign bm_BadSign true sn_BadSign sub_BadSign ab_BadSign col_BadSign dd_BadSign k0_BadSign k1_BadSign k2_BadSign k3_BadSign k5_BadSign "ValueError.__new__"))
  (q161:PySem.HandSPX.refsVE bm_BadSign=true)
  (q162:PySem.W.findIn K (.ref D_BadSign) "__setattr__" = some (some (.builtin "object.__setattr__")))
  (q163:PySem.W.subIn K (.ref D_BadSign) (.type "BaseException")=some true)
  (q164:PySem.W.typeIn K (.ref D_BadSign)=some (.type "type"))
  (q165:PySem.W.keepIn K (.ref D_BadSign)=true)
  (q166:PySem.W.clsIn K D_BadSign=some cdx_BadSign)
  (q167:PySem.W.mroIn K D_BadSign (.ref D_BadSign)=some true)
  (q168:PySem.W.ks_superIn K D_BadSign D_BadSign "__init__" = some (some (.builtin "ValueError.__init__")))
  (q169:PySem.W.subIn K (.ref D_BadSign) (.type "ValueError")=some true)
  (q170:PySem.W.findIn K (.ref D_BadSign) "__init__" = some (some (.ref xf_BadSign)))
  (q171:PySem.W.typeIn K (.ref xf_BadSign)=some (.type "function"))
  (q172:K.lookup xf_BadSign=some ⟨xa_BadSign,xo_BadSign,.func ((Zcx "__init__" "BadSign.__init__" ((clsB (topS 9)).getD 0 (.Pass ⟨0,0,0,0⟩)) cc_BadSign cda_BadSign).fd xdc_BadSign xpm_BadSign xct_BadSign),xs_BadSign⟩)
  (q173:K.lookup cc_BadSign=some ⟨xb_BadSign,xd_BadSign,.cell (some (.ref D_BadSign)),xt_BadSign⟩)
  (q174:K.lookup cda_BadSign=some ⟨xc_BadSign,xe_BadSign,.fields vs_BadSign,xu_BadSign⟩)
  (q175:PySem.W.codeIn K (.ref cda_BadSign) "BadSign.__init__" = true)
  (q176:vs_BadSign[2]? = some (.str fl_BadSign tf_BadSign))
  (q177:((PySem.Challenge.rw_comesapart_k81_programs_read_and_checked.prog.main.file:Str) == fl_BadSign)=true)
  (q178:PySem.W.findIn K (.ref D_BadSign) "sign" = some none)
  (q179:K.lookup D_BoundTwice=some (excClassObj nm_BoundTwice q_BoundTwice D_BoundTwice N_BoundTwice bs_BoundTwice bm_BoundTwice true sn_BoundTwice sub_BoundTwice ab_BoundTwice col_BoundTwice dd_BoundTwice k0_BoundTwice k1_BoundTwice k2_BoundTwice k3_BoundTwice k5_BoundTwice "ValueError.__new__"))
  (q180:PySem.HandSPX.refsVE bm_BoundTwice=true)
  (q181:PySem.W.findIn K (.ref D_BoundTwice) "__setattr__" = some (some (.builtin "object.__setattr__")))
  (q182:PySem.W.subIn K (.ref D_BoundTwice) (.type "BaseException")=some true)
  (q183:PySem.W.typeIn K (.ref D_BoundTwice)=some (.type "type"))
  (q184:PySem.W.keepIn K (.ref D_BoundTwice)=true)
  (q185:PySem.W.clsIn K D_BoundTwice=some cdx_BoundTwice)
  (q186:PySem.W.mroIn K D_BoundTwice (.ref D_BoundTwice)=some true)
  (q187:PySem.W.ks_superIn K D_BoundTwice D_BoundTwice "__init__" = some (some (.builtin "ValueError.__init__")))
  (q188:PySem.W.subIn K (.ref D_BoundTwice) (.type "ValueError")=some true)
  (q189:PySem.W.findIn K (.ref D_BoundTwice) "__init__" = some (some (.ref xf_BoundTwice)))
  (q190:PySem.W.typeIn K (.ref xf_BoundTwice)=some (.type "function"))
  (q191:K.lookup xf_BoundTwice=some ⟨xa_BoundTwice,xo_BoundTwice,.func ((Zcx "__init__" "BoundTwice.__init__" ((clsB (topS 14)).getD 0 (.Pass ⟨0,0,0,0⟩)) cc_BoundTwice cda_BoundTwice).fd xdc_BoundTwice xpm_BoundTwice xct_BoundTwice),xs_BoundTwice⟩)
  (q192:K.lookup cc_BoundTwice=some ⟨xb_BoundTwice,xd_BoundTwice,.cell (some (.ref D_BoundTwice)),xt_BoundTwice⟩)
  (q193:K.lookup cda_BoundTwice=some ⟨xc_BoundTwice,xe_BoundTwice,.fields vs_BoundTwice,xu_BoundTwice⟩)
  (q194:PySem.W.codeIn K (.ref cda_BoundTwice) "BoundTwice.__init__" = true)
  (q195:vs_BoundTwice[2]? = some (.str fl_BoundTwice tf_BoundTwice))
  (q196:((PySem.Challenge.rw_comesapart_k81_programs_read_and_checked.prog.main.file:Str) == fl_BoundTwice)=true)
  (q197:PySem.W.findIn K (.ref D_BoundTwice) "name" = some none)
  (q198:K.lookup D_NotUsed=some (excClassObj nm_NotUsed q_NotUsed D_NotUsed N_NotUsed bs_NotUsed bm_NotUsed true sn_NotUsed sub_NotUsed ab_NotUsed col_NotUsed dd_NotUsed k0_NotUsed k1_NotUsed k2_NotUsed k3_NotUsed k5_NotUsed "ValueError.__new__"))
  (q199:PySem.HandSPX.refsVE bm_NotUsed=true)
  (q200:PySem.W.findIn K (.ref D_NotUsed) "__setattr__" = some (some (.builtin "object.__setattr__")))
  (q201:PySem.W.subIn K (.ref D_NotUsed) (.type "BaseException")=some true)
  (q202:PySem.W.typeIn K (.ref D_NotUsed)=some (.type "type"))
  (q203:PySem.W.keepIn K (.ref D_NotUsed)=true)
  (q204:PySem.W.clsIn K D_NotUsed=some cdx_NotUsed)
  (q205:PySem.W.mroIn K D_NotUsed (.ref D_NotUsed)=some true)
  (q206:PySem.W.ks_superIn K D_NotUsed D_NotUsed "__init__" = some (some (.builtin "ValueError.__init__")))
  (q207:PySem.W.subIn K (.ref D_NotUsed) (.type "ValueError")=some true)
  (q208:PySem.W.findIn K (.ref D_NotUsed) "__init__" = some (some (.ref xf_NotUsed)))
  (q209:PySem.W.typeIn K (.ref xf_NotUsed)=some (.type "function"))
  (q210:K.lookup xf_NotUsed=some ⟨xa_NotUsed,xo_NotUsed,.func ((Zcx "__init__" "NotUsed.__init__" ((clsB (topS 17)).getD 0 (.Pass ⟨0,0,0,0⟩)) cc_NotUsed cda_NotUsed).fd xdc_NotUsed xpm_NotUsed xct_NotUsed),xs_NotUsed⟩)
  (q211:K.lookup cc_NotUsed=some ⟨xb_NotUsed,xd_NotUsed,.cell (some (.ref D_NotUsed)),xt_NotUsed⟩)
  (q212:K.lookup cda_NotUsed=some ⟨xc_NotUsed,xe_NotUsed,.fields vs_NotUsed,xu_NotUsed⟩)
  (q213:PySem.W.codeIn K (.ref cda_NotUsed) "NotUsed.__init__" = true)
  (q214:vs_NotUsed[2]? = some (.str fl_NotUsed tf_NotUsed))
  (q215:((PySem.Challenge.rw_comesapart_k81_programs_read_and_checked.prog.main.file:Str) == fl_NotUsed)=true)
  (q216:PySem.W.findIn K (.ref D_NotUsed) "name" = some none)
  (q217:K.lookup D_TooLarge=some (excClassObj nm_TooLarge q_TooLarge D_TooLarge N_TooLarge bs_TooLarge bm_TooLarge true sn_TooLarge sub_TooLarge ab_TooLarge col_TooLarge dd_TooLarge k0_TooLarge k1_TooLarge k2_TooLarge k3_TooLarge k5_TooLarge "ValueError.__new__"))
  (q218:PySem.HandSPX.refsVE bm_TooLarge=true)
  (q219:PySem.W.findIn K (.ref D_TooLarge) "__setattr__" = some (some (.builtin "object.__setattr__")))
  (q220:PySem.W.subIn K (.ref D_TooLarge) (.type "BaseException")=some true)
  (q221:PySem.W.typeIn K (.ref D_TooLarge)=some (.type "type"))
  (q222:PySem.W.keepIn K (.ref D_TooLarge)=true)
  (q223:PySem.W.clsIn K D_TooLarge=some cdx_TooLarge)
  (q224:PySem.W.mroIn K D_TooLarge (.ref D_TooLarge)=some true)
  (q225:PySem.W.ks_superIn K D_TooLarge D_TooLarge "__init__" = some (some (.builtin "ValueError.__init__")))
  (q226:PySem.W.subIn K (.ref D_TooLarge) (.type "ValueError")=some true)
  (q227:PySem.W.findIn K (.ref D_TooLarge) "__init__" = some (some (.ref xf_TooLarge)))
  (q228:PySem.W.typeIn K (.ref xf_TooLarge)=some (.type "function"))
  (q229:K.lookup xf_TooLarge=some ⟨xa_TooLarge,xo_TooLarge,.func ((Zcx "__init__" "TooLarge.__init__" ((clsB (topS 2)).getD 0 (.Pass ⟨0,0,0,0⟩)) cc_TooLarge cda_TooLarge).fd xdc_TooLarge xpm_TooLarge xct_TooLarge),xs_TooLarge⟩)
  (q230:K.lookup cc_TooLarge=some ⟨xb_TooLarge,xd_TooLarge,.cell (some (.ref D_TooLarge)),xt_TooLarge⟩)
  (q231:K.lookup cda_TooLarge=some ⟨xc_TooLarge,xe_TooLarge,.fields vs_TooLarge,xu_TooLarge⟩)
  (q232:PySem.W.codeIn K (.ref cda_TooLarge) "TooLarge.__init__" = true)
  (q233:vs_TooLarge[2]? = some (.str fl_TooLarge tf_TooLarge))
  (q234:((PySem.Challenge.rw_comesapart_k81_programs_read_and_checked.prog.main.file:Str) == fl_TooLarge)=true)
  (q235:PySem.W.findIn K (.ref D_TooLarge) "limit" = some none)
  (q236:K.lookup D_UnknownName=some (excClassObj nm_UnknownName q_UnknownName D_UnknownName N_UnknownName bs_UnknownName bm_UnknownName true sn_UnknownName sub_UnknownName ab_UnknownName col_UnknownName dd_UnknownName k0_UnknownName k1_UnknownName k2_UnknownName k3_UnknownName k5_UnknownName "ValueError.__new__"))
  (q237:PySem.HandSPX.refsVE bm_UnknownName=true)
  (q238:PySem.W.findIn K (.ref D_UnknownName) "__setattr__" = some (some (.builtin "object.__setattr__")))
  (q239:PySem.W.subIn K (.ref D_UnknownName) (.type "BaseException")=some true)
  (q240:PySem.W.typeIn K (.ref D_UnknownName)=some (.type "type"))
  (q241:PySem.W.keepIn K (.ref D_UnknownName)=true)
  (q242:PySem.W.clsIn K D_UnknownName=some cdx_UnknownName)
  (q243:PySem.W.mroIn K D_UnknownName (.ref D_UnknownName)=some true)
  (q244:PySem.W.ks_superIn K D_UnknownName D_UnknownName "__init__" = some (some (.builtin "ValueError.__init__")))
  (q245:PySem.W.subIn K (.ref D_UnknownName) (.type "ValueError")=some true)
  (q246:PySem.W.findIn K (.ref D_UnknownName) "__init__" = some (some (.ref xf_UnknownName)))
  (q247:PySem.W.typeIn K (.ref xf_UnknownName)=some (.type "function"))
  (q248:K.lookup xf_UnknownName=some ⟨xa_UnknownName,xo_UnknownName,.func ((Zcx "__init__" "UnknownName.__init__" ((clsB (topS 15)).getD 0 (.Pass ⟨0,0,0,0⟩)) cc_UnknownName cda_UnknownName).fd xdc_UnknownName xpm_UnknownName xct_UnknownName),xs_UnknownName⟩)
  (q249:K.lookup cc_UnknownName=some ⟨xb_UnknownName,xd_UnknownName,.cell (some (.ref D_UnknownName)),xt_UnknownName⟩)
  (q250:K.lookup cda_UnknownName=some ⟨xc_UnknownName,xe_UnknownName,.fields vs_UnknownName,xu_UnknownName⟩)
  (q251:PySem.W.codeIn K (.ref cda_UnknownName) "UnknownName.__init__" = true)
  (q252:vs_UnknownName[2]? = some (.str fl_UnknownName tf_UnknownName))
  (q253:((PySem.Challenge.rw_comesapart_k81_programs_read_and_checked.prog.main.file:Str) == fl_UnknownName)=true)
  (q254:PySem.W.findIn K (.ref D_UnknownName) "name" = some none)
  (q255:K.lookup D_UsedTwice=some (excClassObj nm_UsedTwice q_UsedTwice D_UsedTwice N_UsedTwice bs_UsedTwice bm_UsedTwice true sn_UsedTwice sub_UsedTwice ab_UsedTwice col_UsedTwice dd_UsedTwice k0_UsedTwice k1_UsedTwice k2_UsedTwice k3_UsedTwice k5_UsedTwice "ValueError.__new__"))
  (q256:PySem.HandSPX.refsVE bm_UsedTwice=true)
  (q257:PySem.W.findIn K (.ref D_UsedTwice) "__setattr__" = some (some (.builtin "object.__setattr__")))
  (q258:PySem.W.subIn K (.ref D_UsedTwice) (.type "BaseException")=some true)
  (q259:PySem.W.typeIn K (.ref D_UsedTwice)=some (.type "type"))
  (q260:PySem.W.keepIn K (.ref D_UsedTwice)=true)
  (q261:PySem.W.clsIn K D_UsedTwice=some cdx_UsedTwice)
  (q262:PySem.W.mroIn K D_UsedTwice (.ref D_UsedTwice)=some true)
  (q263:PySem.W.ks_superIn K D_UsedTwice D_UsedTwice "__init__" = some (some (.builtin "ValueError.__init__")))
  (q264:PySem.W.subIn K (.ref D_UsedTwice) (.type "ValueError")=some true)
  (q265:PySem.W.findIn K (.ref D_UsedTwice) "__init__" = some (some (.ref xf_UsedTwice)))
  (q266:PySem.W.typeIn K (.ref xf_UsedTwice)=some (.type "function"))
  (q267:K.lookup xf_UsedTwice=some ⟨xa_UsedTwice,xo_UsedTwice,.func ((Zcx "__init__" "UsedTwice.__init__" ((clsB (topS 16)).getD 0 (.Pass ⟨0,0,0,0⟩)) cc_UsedTwice cda_UsedTwice).fd xdc_UsedTwice xpm_UsedTwice xct_UsedTwice),xs_UsedTwice⟩)
  (q268:K.lookup cc_UsedTwice=some ⟨xb_UsedTwice,xd_UsedTwice,.cell (some (.ref D_UsedTwice)),xt_UsedTwice⟩)
  (q269:K.lookup cda_UsedTwice=some ⟨xc_UsedTwice,xe_UsedTwice,.fields vs_UsedTwice,xu_UsedTwice⟩)
  (q270:PySem.W.codeIn K (.ref cda_UsedTwice) "UsedTwice.__init__" = true)
  (q271:vs_UsedTwice[2]? = some (.str fl_UsedTwice tf_UsedTwice))
  (q272:((PySem.Challenge.rw_comesapart_k81_programs_read_and_checked.prog.main.file:Str) == fl_UsedTwice)=true)
  (q273:PySem.W.findIn K (.ref D_UsedTwice) "name" = some none)
  (q274:PySem.W.findIn K (.ref D_BadName) "name" = some none)
  (q275:PySem.W.findIn K (.ref D_BadSign) "sign" = some none)
  (q276:PySem.W.findIn K (.ref D_BoundTwice) "name" = some none)
  (q277:PySem.W.findIn K (.ref D_NotUsed) "name" = some none)
  (q278:PySem.W.findIn K (.ref D_TooLarge) "limit" = some none)
  (q279:PySem.W.findIn K (.ref D_UnknownName) "name" = some none)
  (q280:PySem.W.findIn K (.ref D_UsedTwice) "name" = some none)
  (q281:PySem.W.findIn K (.ref D_BadName) "__getattribute__" = some (some (.builtin "BaseException.__getattribute__")))
  (q282:PySem.W.findIn K (.ref D_BadName) "__getattr__" = some none)
  (q283:PySem.W.subIn K (.ref D_BadName) (.type "BaseException")=some true)
  (q284:PySem.W.hasDictIn K D_BadName=true)
  (q285:PySem.W.findIn K (.ref D_BadSign) "__getattribute__" = some (some (.builtin "BaseException.__getattribute__")))
  (q286:PySem.W.findIn K (.ref D_BadSign) "__getattr__" = some none)
  (q287:PySem.W.subIn K (.ref D_BadSign) (.type "BaseException")=some true)
  (q288:PySem.W.hasDictIn K D_BadSign=true)
  (q289:PySem.W.findIn K (.ref D_BoundTwice) "__getattribute__" = some (some (.builtin "BaseException.__getattribute__")))
  (q290:PySem.W.findIn K (.ref D_BoundTwice) "__getattr__" = some none)
  (q291:PySem.W.subIn K (.ref D_BoundTwice) (.type "BaseException")=some true)
  (q292:PySem.W.hasDictIn K D_BoundTwice=true)
  (q293:PySem.W.findIn K (.ref D_NotUsed) "__getattribute__" = some (some (.builtin "BaseException.__getattribute__")))
  (q294:PySem.W.findIn K (.ref D_NotUsed) "__getattr__" = some none)
  (q295:PySem.W.subIn K (.ref D_NotUsed) (.type "BaseException")=some true)
  (q296:PySem.W.hasDictIn K D_NotUsed=true)
  (q297:PySem.W.findIn K (.ref D_TooLarge) "__getattribute__" = some (some (.builtin "BaseException.__getattribute__")))
  (q298:PySem.W.findIn K (.ref D_TooLarge) "__getattr__" = some none)
  (q299:PySem.W.subIn K (.ref D_TooLarge) (.type "BaseException")=some true)
  (q300:PySem.W.hasDictIn K D_TooLarge=true)
  (q301:PySem.W.findIn K (.ref D_UnknownName) "__getattribute__" = some (some (.builtin "BaseException.__getattribute__")))
  (q302:PySem.W.findIn K (.ref D_UnknownName) "__getattr__" = some none)
  (q303:PySem.W.subIn K (.ref D_UnknownName) (.type "BaseException")=some true)
  (q304:PySem.W.hasDictIn K D_UnknownName=true)
  (q305:PySem.W.findIn K (.ref D_UsedTwice) "__getattribute__" = some (some (.builtin "BaseException.__getattribute__")))
  (q306:PySem.W.findIn K (.ref D_UsedTwice) "__getattr__" = some none)
  (q307:PySem.W.subIn K (.ref D_UsedTwice) (.type "BaseException")=some true)
  (q308:PySem.W.hasDictIn K D_UsedTwice=true)
  (q309:PySem.W.specialIn K (.builtin "object.__class__") "__get__" = some (some (.builtin "getset_descriptor.__get__")))
  (q310:PySem.W.takesIn K (.builtin "object.__class__")=some true)
  (q311:PySem.W.findIn K (.ref D_BadName) "__getattribute__" = some (some (.builtin "BaseException.__getattribute__")))
  (q312:PySem.W.findIn K (.ref D_BadName) "__getattr__" = some none)
  (q313:PySem.W.subIn K (.ref D_BadName) (.type "BaseException")=some true)
  (q314:PySem.W.hasDictIn K D_BadName=true)
  (q315:PySem.W.findIn K (.ref D_BadName) "__class__" = some (some (.builtin "object.__class__")))
  (q316:PySem.W.mroIn K D_BadName (.type "object")=some true)
  (q317:PySem.W.findIn K (.ref D_BadSign) "__getattribute__" = some (some (.builtin "BaseException.__getattribute__")))
  (q318:PySem.W.findIn K (.ref D_BadSign) "__getattr__" = some none)
  (q319:PySem.W.subIn K (.ref D_BadSign) (.type "BaseException")=some true)
  (q320:PySem.W.hasDictIn K D_BadSign=true)
  (q321:PySem.W.findIn K (.ref D_BadSign) "__class__" = some (some (.builtin "object.__class__")))
  (q322:PySem.W.mroIn K D_BadSign (.type "object")=some true)
  (q323:PySem.W.findIn K (.ref D_BoundTwice) "__getattribute__" = some (some (.builtin "BaseException.__getattribute__")))
  (q324:PySem.W.findIn K (.ref D_BoundTwice) "__getattr__" = some none)
  (q325:PySem.W.subIn K (.ref D_BoundTwice) (.type "BaseException")=some true)
  (q326:PySem.W.hasDictIn K D_BoundTwice=true)
  (q327:PySem.W.findIn K (.ref D_BoundTwice) "__class__" = some (some (.builtin "object.__class__")))
  (q328:PySem.W.mroIn K D_BoundTwice (.type "object")=some true)
  (q329:PySem.W.findIn K (.ref D_NotUsed) "__getattribute__" = some (some (.builtin "BaseException.__getattribute__")))
  (q330:PySem.W.findIn K (.ref D_NotUsed) "__getattr__" = some none)
  (q331:PySem.W.subIn K (.ref D_NotUsed) (.type "BaseException")=some true)
  (q332:PySem.W.hasDictIn K D_NotUsed=true)
  (q333:PySem.W.findIn K (.ref D_NotUsed) "__class__" = some (some (.builtin "object.__class__")))
  (q334:PySem.W.mroIn K D_NotUsed (.type "object")=some true)
  (q335:PySem.W.findIn K (.ref D_TooLarge) "__getattribute__" = some (some (.builtin "BaseException.__getattribute__")))
  (q336:PySem.W.findIn K (.ref D_TooLarge) "__getattr__" = some none)
  (q337:PySem.W.subIn K (.ref D_TooLarge) (.type "BaseException")=some true)
  (q338:PySem.W.hasDictIn K D_TooLarge=true)
  (q339:PySem.W.findIn K (.ref D_TooLarge) "__class__" = some (some (.builtin "object.__class__")))
  (q340:PySem.W.mroIn K D_TooLarge (.type "object")=some true)
  (q341:PySem.W.findIn K (.ref D_UnknownName) "__getattribute__" = some (some (.builtin "BaseException.__getattribute__")))
  (q342:PySem.W.findIn K (.ref D_UnknownName) "__getattr__" = some none)
  (q343:PySem.W.subIn K (.ref D_UnknownName) (.type "BaseException")=some true)
  (q344:PySem.W.hasDictIn K D_UnknownName=true)
  (q345:PySem.W.findIn K (.ref D_UnknownName) "__class__" = some (some (.builtin "object.__class__")))
  (q346:PySem.W.mroIn K D_UnknownName (.type "object")=some true)
  (q347:PySem.W.findIn K (.ref D_UsedTwice) "__getattribute__" = some (some (.builtin "BaseException.__getattribute__")))
  (q348:PySem.W.findIn K (.ref D_UsedTwice) "__getattr__" = some none)
  (q349:PySem.W.subIn K (.ref D_UsedTwice) (.type "BaseException")=some true)
  (q350:PySem.W.hasDictIn K D_UsedTwice=true)
  (q351:PySem.W.findIn K (.ref D_UsedTwice) "__class__" = some (some (.builtin "object.__class__")))
  (q352:PySem.W.mroIn K D_UsedTwice (.type "object")=some true)
  (q353:PySem.W.clsIn K D_BadName=some cdy_BadName)
  (q354:PySem.W.typeIn K (.ref D_BadName)=some (.type "type"))
  (q355:PySem.W.clsIn K D_BadSign=some cdy_BadSign)
  (q356:PySem.W.typeIn K (.ref D_BadSign)=some (.type "type"))
  (q357:PySem.W.clsIn K D_BoundTwice=some cdy_BoundTwice)
  (q358:PySem.W.typeIn K (.ref D_BoundTwice)=some (.type "type"))
  (q359:PySem.W.clsIn K D_ComesapartError=some cdy_ComesapartError)
  (q360:PySem.W.typeIn K (.ref D_ComesapartError)=some (.type "type"))
  (q361:PySem.W.clsIn K D_NotUsed=some cdy_NotUsed)
  (q362:PySem.W.typeIn K (.ref D_NotUsed)=some (.type "type"))
  (q363:PySem.W.clsIn K D_TooLarge=some cdy_TooLarge)
  (q364:PySem.W.typeIn K (.ref D_TooLarge)=some (.type "type"))
  (q365:PySem.W.clsIn K D_UnknownName=some cdy_UnknownName)
  (q366:PySem.W.typeIn K (.ref D_UnknownName)=some (.type "type"))
  (q367:PySem.W.clsIn K D_UsedTwice=some cdy_UsedTwice)
  (q368:PySem.W.typeIn K (.ref D_UsedTwice)=some (.type "type"))
  (q369:PySem.W.subIn K (.ref D_BadName) (.ref D_BadName)=some true)
  (q370:PySem.W.subIn K (.ref D_BadName) (.ref D_BadSign)=some false)
  (q371:PySem.W.subIn K (.ref D_BadName) (.ref D_BoundTwice)=some false)
  (q372:PySem.W.subIn K (.ref D_BadName) (.ref D_ComesapartError)=some true)
  (q373:PySem.W.subIn K (.ref D_BadName) (.ref D_NotUsed)=some false)
  (q374:PySem.W.subIn K (.ref D_BadName) (.ref D_TooLarge)=some false)
  (q375:PySem.W.subIn K (.ref D_BadName) (.ref D_UnknownName)=some false)
  (q376:PySem.W.subIn K (.ref D_BadName) (.ref D_UsedTwice)=some false)
  (q377:PySem.W.subIn K (.ref D_BadSign) (.ref D_BadName)=some false)
  (q378:PySem.W.subIn K (.ref D_BadSign) (.ref D_BadSign)=some true)
  (q379:PySem.W.subIn K (.ref D_BadSign) (.ref D_BoundTwice)=some false)
  (q380:PySem.W.subIn K (.ref D_BadSign) (.ref D_ComesapartError)=some true)
  (q381:PySem.W.subIn K (.ref D_BadSign) (.ref D_NotUsed)=some false)
  (q382:PySem.W.subIn K (.ref D_BadSign) (.ref D_TooLarge)=some false)
  (q383:PySem.W.subIn K (.ref D_BadSign) (.ref D_UnknownName)=some false)
  (q384:PySem.W.subIn K (.ref D_BadSign) (.ref D_UsedTwice)=some false)
  (q385:PySem.W.subIn K (.ref D_BoundTwice) (.ref D_BadName)=some false)
  (q386:PySem.W.subIn K (.ref D_BoundTwice) (.ref D_BadSign)=some false)
  (q387:PySem.W.subIn K (.ref D_BoundTwice) (.ref D_BoundTwice)=some true)
  (q388:PySem.W.subIn K (.ref D_BoundTwice) (.ref D_ComesapartError)=some true)
  (q389:PySem.W.subIn K (.ref D_BoundTwice) (.ref D_NotUsed)=some false)
  (q390:PySem.W.subIn K (.ref D_BoundTwice) (.ref D_TooLarge)=some false)
  (q391:PySem.W.subIn K (.ref D_BoundTwice) (.ref D_UnknownName)=some false)
  (q392:PySem.W.subIn K (.ref D_BoundTwice) (.ref D_UsedTwice)=some false)
  (q393:PySem.W.subIn K (.ref D_NotUsed) (.ref D_BadName)=some false)
  (q394:PySem.W.subIn K (.ref D_NotUsed) (.ref D_BadSign)=some false)
  (q395:PySem.W.subIn K (.ref D_NotUsed) (.ref D_BoundTwice)=some false)
  (q396:PySem.W.subIn K (.ref D_NotUsed) (.ref D_ComesapartError)=some true)
  (q397:PySem.W.subIn K (.ref D_NotUsed) (.ref D_NotUsed)=some true)
  (q398:PySem.W.subIn K (.ref D_NotUsed) (.ref D_TooLarge)=some false)
  (q399:PySem.W.subIn K (.ref D_NotUsed) (.ref D_UnknownName)=some false)
  (q400:PySem.W.subIn K (.ref D_NotUsed) (.ref D_UsedTwice)=some false)
  (q401:PySem.W.subIn K (.ref D_TooLarge) (.ref D_BadName)=some false)
  (q402:PySem.W.subIn K (.ref D_TooLarge) (.ref D_BadSign)=some false)
  (q403:PySem.W.subIn K (.ref D_TooLarge) (.ref D_BoundTwice)=some false)
  (q404:PySem.W.subIn K (.ref D_TooLarge) (.ref D_ComesapartError)=some true)
  (q405:PySem.W.subIn K (.ref D_TooLarge) (.ref D_NotUsed)=some false)
  (q406:PySem.W.subIn K (.ref D_TooLarge) (.ref D_TooLarge)=some true)
  (q407:PySem.W.subIn K (.ref D_TooLarge) (.ref D_UnknownName)=some false)
  (q408:PySem.W.subIn K (.ref D_TooLarge) (.ref D_UsedTwice)=some false)
  (q409:PySem.W.subIn K (.ref D_UnknownName) (.ref D_BadName)=some false)
  (q410:PySem.W.subIn K (.ref D_UnknownName) (.ref D_BadSign)=some false)
  (q411:PySem.W.subIn K (.ref D_UnknownName) (.ref D_BoundTwice)=some false)
  (q412:PySem.W.subIn K (.ref D_UnknownName) (.ref D_ComesapartError)=some true)
  (q413:PySem.W.subIn K (.ref D_UnknownName) (.ref D_NotUsed)=some false)
  (q414:PySem.W.subIn K (.ref D_UnknownName) (.ref D_TooLarge)=some false)
  (q415:PySem.W.subIn K (.ref D_UnknownName) (.ref D_UnknownName)=some true)
  (q416:PySem.W.subIn K (.ref D_UnknownName) (.ref D_UsedTwice)=some false)
  (q417:PySem.W.subIn K (.ref D_UsedTwice) (.ref D_BadName)=some false)
  (q418:PySem.W.subIn K (.ref D_UsedTwice) (.ref D_BadSign)=some false)
  (q419:PySem.W.subIn K (.ref D_UsedTwice) (.ref D_BoundTwice)=some false)
  (q420:PySem.W.subIn K (.ref D_UsedTwice) (.ref D_ComesapartError)=some true)
  (q421:PySem.W.subIn K (.ref D_UsedTwice) (.ref D_NotUsed)=some false)
  (q422:PySem.W.subIn K (.ref D_UsedTwice) (.ref D_TooLarge)=some false)
  (q423:PySem.W.subIn K (.ref D_UsedTwice) (.ref D_UnknownName)=some false)
  (q424:PySem.W.subIn K (.ref D_UsedTwice) (.ref D_UsedTwice)=some true)
  (q425:PySem.W.subIn K (.ref D_ComesapartError) (.type "BaseException")=some true)
  (q426:D_BadSign≠D_BadName)
  (q427:D_BoundTwice≠D_BadName)
  (q428:D_NotUsed≠D_BadName)
  (q429:D_TooLarge≠D_BadName)
  (q430:D_UnknownName≠D_BadName)
  (q431:D_UsedTwice≠D_BadName)
  (q432:D_BadName≠D_BadSign)
  (q433:D_BoundTwice≠D_BadSign)
  (q434:D_NotUsed≠D_BadSign)
  (q435:D_TooLarge≠D_BadSign)
  (q436:D_UnknownName≠D_BadSign)
  (q437:D_UsedTwice≠D_BadSign)
  (q438:D_BadName≠D_BoundTwice)
  (q439:D_BadSign≠D_BoundTwice)
  (q440:D_NotUsed≠D_BoundTwice)
  (q441:D_TooLarge≠D_BoundTwice)
  (q442:D_UnknownName≠D_BoundTwice)
  (q443:D_UsedTwice≠D_BoundTwice)
  (q444:D_BadName≠D_NotUsed)
  (q445:D_BadSign≠D_NotUsed)
  (q446:D_BoundTwice≠D_NotUsed)
  (q447:D_TooLarge≠D_NotUsed)
  (q448:D_UnknownName≠D_NotUsed)
  (q449:D_UsedTwice≠D_NotUsed)
  (q450:D_BadName≠D_TooLarge)
  (q451:D_BadSign≠D_TooLarge)
  (q452:D_BoundTwice≠D_TooLarge)
  (q453:D_NotUsed≠D_TooLarge)
  (q454:D_UnknownName≠D_TooLarge)
  (q455:D_UsedTwice≠D_TooLarge)
  (q456:D_BadName≠D_UnknownName)
  (q457:D_BadSign≠D_UnknownName)
  (q458:D_BoundTwice≠D_UnknownName)
  (q459:D_NotUsed≠D_UnknownName)
  (q460:D_TooLarge≠D_UnknownName)
  (q461:D_UsedTwice≠D_UnknownName)
  (q462:D_BadName≠D_UsedTwice)
  (q463:D_BadSign≠D_UsedTwice)
  (q464:D_BoundTwice≠D_UsedTwice)
  (q465:D_NotUsed≠D_UsedTwice)
  (q466:D_TooLarge≠D_UsedTwice)
  (q467:D_UnknownName≠D_UsedTwice)
  (q468:PySem.W.subIn K (.ref D_BadName) (.type "ValueError")=some true)
  (q469:PySem.W.subIn K (.ref D_BadSign) (.type "ValueError")=some true)
  (q470:PySem.W.subIn K (.ref D_BoundTwice) (.type "ValueError")=some true)
  (q471:PySem.W.subIn K (.ref D_NotUsed) (.type "ValueError")=some true)
  (q472:PySem.W.subIn K (.ref D_TooLarge) (.type "ValueError")=some true)
  (q473:PySem.W.subIn K (.ref D_UnknownName) (.type "ValueError")=some true)
  (q474:PySem.W.subIn K (.ref D_UsedTwice) (.type "ValueError")=some true)
  (q475:PySem.W.nsIn K mainGlobals "ValueError" = some none)
  (q476:PySem.W.nsIn K mainGlobals "abs" = some none)
  (q477:PySem.W.nsIn K mainGlobals "all" = some none)
  (q478:PySem.W.nsIn K mainGlobals "bool" = some none)
  (q479:PySem.W.nsIn K mainGlobals "int" = some none)
  (q480:PySem.W.nsIn K mainGlobals "isinstance" = some none)
  (q481:PySem.W.nsIn K mainGlobals "len" = some none)
  (q482:PySem.W.nsIn K mainGlobals "list" = some none)
  (q483:PySem.W.nsIn K mainGlobals "range" = some none)
  (q484:PySem.W.nsIn K mainGlobals "str" = some none)
  (q485:PySem.W.nsIn K mainGlobals "tuple" = some none)
  : ∃ fd:FuncData,(∀ (s:Shared) (v:Value),BindsTo s fd ⟨[v],[]⟩ [("_law_script",v)]) ∧ ∀ base:Heap,K.In base→base.Ns mainGlobals mg→FnOk PySem.Challenge.rw_comesapart_k81_programs_read_and_checked.prog w K mg base CX0 109 fa fd ["_law_script"] (sp_law ⟨PySem.Challenge.rw_comesapart_k81_programs_read_and_checked.prog,w,K⟩):=by
 have e:=hfa.symm.trans (PySem.W.mg_of X G q135)
 cases e
 have F0:=fun_mk (st:=s_l_cell) q12 q13 q14
 have d0:=F0.binds (ps:=["_law_script","_law_k"]) fun _ _ _ _ _ _ us hl=>match us,hl with | [_,_],_=>rfl
 have F1:=fun_mk (st:=Zei) q16 q17 q18
 have d1:=F1.binds (ps:=["_law_cell_here","_law_many"]) fun _ _ _ _ _ _ us hl=>match us,hl with | [_,_],_=>rfl
 have F2:=fun_mk (st:=s_l_pick) q20 q21 q22
 have d2:=F2.binds (ps:=["_law_draws_here","_law_k","_law_many"]) fun _ _ _ _ _ _ us hl=>match us,hl with | [_,_,_],_=>rfl
 have F3:=fun_mk (st:=ZcJ) q24 q25 q26
 have d3:=F3.binds (ps:=["_law_draws_here","_law_at","_law_many"]) fun _ _ _ _ _ _ us hl=>match us,hl with | [_,_,_],_=>rfl
 have F4:=fun_mk (st:=Zbw) q28 q29 q30
 have d4:=F4.binds (ps:=["_law_draws_here","_law_extra","_law_many"]) fun _ _ _ _ _ _ us hl=>match us,hl with | [_,_,_],_=>rfl
 have F5:=fun_mk (st:=Zcp) q32 q33 q34
 have d5:=F5.binds (ps:=["_law_draws_here","_law_at","_law_names"]) fun _ _ _ _ _ _ us hl=>match us,hl with | [_,_,_],_=>rfl
 have F6:=fun_mk (st:=Zdx) q36 q37 q38
 have d6:=F6.binds (ps:=["_law_program_here"]) fun _ _ _ _ _ _ us hl=>match us,hl with | [_],_=>rfl
 have F7:=fun_mk (st:=ZcY) q40 q41 q42
 have d7:=F7.binds (ps:=["_law_name"]) fun _ _ _ _ _ _ us hl=>match us,hl with | [_],_=>rfl
 have F8:=fun_mk (st:=Zdz) q44 q45 q46
 have d8:=F8.binds (ps:=["_law_program_here"]) fun _ _ _ _ _ _ us hl=>match us,hl with | [_],_=>rfl
 have F9:=fun_mk (st:=ZcI) q48 q49 q50
 have d9:=F9.binds (ps:=["text","at"]) fun _ _ _ _ _ _ us hl=>match us,hl with | [_,_],_=>rfl
 have F10:=fun_mk (st:=Zdw) q52 q53 q54
 have d10:=F10.binds (ps:=["text","at","char"]) fun _ _ _ _ _ _ us hl=>match us,hl with | [_,_,_],_=>rfl
 have F11:=fun_mk (st:=ZbL) q56 q57 q58
 have d11:=F11.binds (ps:=["text","at"]) fun _ _ _ _ _ _ us hl=>match us,hl with | [_,_],_=>rfl
 have F12:=fun_mk (st:=Zcf) q60 q61 q62
 have d12:=F12.binds (ps:=["program"]) fun _ _ _ _ _ _ us hl=>match us,hl with | [_],_=>rfl
 have F13:=fun_mk (st:=ZcH) q64 q65 q66
 have d13:=F13.binds (ps:=["name"]) fun _ _ _ _ _ _ us hl=>match us,hl with | [_],_=>rfl
 have F14:=fun_mk (st:=ZbW) q68 q69 q70
 have d14:=F14.binds (ps:=["program","around","bound","used"]) fun _ _ _ _ _ _ us hl=>match us,hl with | [_,_,_,_],_=>rfl
 have F15:=fun_mk (st:=Zby) q72 q73 q74
 have d15:=F15.binds (ps:=["program"]) fun _ _ _ _ _ _ us hl=>match us,hl with | [_],_=>rfl
 have F16:=fun_mk (st:=Zbx) q76 q77 q78
 have d16:=F16.binds (ps:=["text"]) fun _ _ _ _ _ _ us hl=>match us,hl with | [_],_=>rfl
 have F17:=fun_mk (st:=s_l_told) q80 q81 q82
 have d17:=F17.binds (ps:=["_law_program_here","_law_text","_law_reads"]) fun _ _ _ _ _ _ us hl=>match us,hl with | [_,_,_],_=>rfl
 have F18:=fun_mk (st:=s_l_same) q84 q85 q86
 have d18:=F18.binds (ps:=["_law_told_here","_law_due"]) fun _ _ _ _ _ _ us hl=>match us,hl with | [_,_],_=>rfl
 have F19:=fun_mk (st:=ZcX) q88 q89 q90
 have d19:=F19.binds (ps:=["_law_program_here"]) fun _ _ _ _ _ _ us hl=>match us,hl with | [_],_=>rfl
 have F20:=fun_mk (st:=ZcK) q92 q93 q94
 have d20:=F20.binds (ps:=["_law_text"]) fun _ _ _ _ _ _ us hl=>match us,hl with | [_],_=>rfl
 have F21:=fun_mk (st:=s_l_tree) q96 q97 q98
 have d21:=F21.binds (ps:=["_law_text"]) fun _ _ _ _ _ _ us hl=>match us,hl with | [_],_=>rfl
 have F22:=fun_mk (st:=Zbq) q100 q101 q102
 have d22:=F22.binds (ps:=["program"]) fun _ _ _ _ _ _ us hl=>match us,hl with | [_],_=>rfl
 have F23:=fun_mk (st:=Zcg) q104 q105 q106
 have d23:=F23.binds (ps:=["_law_text"]) fun _ _ _ _ _ _ us hl=>match us,hl with | [_],_=>rfl
 have F24:=fun_mk (st:=Zbz) q108 q109 q110
 have d24:=F24.binds (ps:=["_law_program_here"]) fun _ _ _ _ _ _ us hl=>match us,hl with | [_],_=>rfl
 have F25:=fun_mk (st:=Zej) q112 q113 q114
 have d25:=F25.binds (ps:=["_law_names"]) fun _ _ _ _ _ _ us hl=>match us,hl with | [_],_=>rfl
 have F26:=fun_mk (st:=ZbN) q116 q117 q118
 have d26:=F26.binds (ps:=["_law_program_here","_law_deed","_law_name"]) fun _ _ _ _ _ _ us hl=>match us,hl with | [_,_,_],_=>rfl
 have F27:=fun_mk (st:=ZbY) q120 q121 q122
 have d27:=F27.binds (ps:=["_law_program_here","_law_deed","_law_name"]) fun _ _ _ _ _ _ us hl=>match us,hl with | [_,_,_],_=>rfl
 have F28:=fun_mk (st:=ZbX) q124 q125 q126
 have d28:=F28.binds (ps:=["_law_program_here","_law_deed","_law_name"]) fun _ _ _ _ _ _ us hl=>match us,hl with | [_,_,_],_=>rfl
 have F29:=fun_mk (st:=ZcZ) q128 q129 q130
 have d29:=F29.binds (ps:=["_law_draws_here","_law_at","_law_program_here","_law_name"]) fun _ _ _ _ _ _ us hl=>match us,hl with | [_,_,_,_],_=>rfl
 have F30:=fun_mk (st:=ZbM) q132 q133 q134
 have d30:=F30.binds (ps:=["_law_draws_here","_law_at","_law_text"]) fun _ _ _ _ _ _ us hl=>match us,hl with | [_,_,_],_=>rfl
 have F31:=fun_mk (st:=s_law) q136 q137 q138
 have d31:=F31.binds (ps:=["_law_script"]) fun _ _ _ _ _ _ us hl=>match us,hl with | [_],_=>rfl
 let T:Txt K mg:={
  A:=⟨fun c=>match c with | .BadName=>D_BadName | .BadSign=>D_BadSign | .BoundTwice=>D_BoundTwice | .ComesapartError=>D_ComesapartError | .NotUsed=>D_NotUsed | .TooLarge=>D_TooLarge | .UnknownName=>D_UnknownName | .UsedTwice=>D_UsedTwice | _=>0,fun c=>match c with  | _=>0⟩
  g_BadName:=PySem.W.mg_of X G q0
  g_BadSign:=PySem.W.mg_of X G q1
  g_BoundTwice:=PySem.W.mg_of X G q2
  g_ComesapartError:=PySem.W.mg_of X G q3
  g_NotUsed:=PySem.W.mg_of X G q4
  g_TooLarge:=PySem.W.mg_of X G q5
  g_UnknownName:=PySem.W.mg_of X G q6
  g_UsedTwice:=PySem.W.mg_of X G q7
  u_ALPHABET:=_
  g_ALPHABET:=PySem.W.mg_of X G q8
  ku_ALPHABET:=⟨_,rfl⟩
  u_MOST_FUNS:=_
  g_MOST_FUNS:=PySem.W.mg_of X G q9
  ku_MOST_FUNS:=⟨_,rfl⟩
  u_MOST_IN_NAME:=_
  g_MOST_IN_NAME:=PySem.W.mg_of X G q10
  ku_MOST_IN_NAME:=⟨_,rfl⟩
  g_l_cell:=PySem.W.mg_of X G q11
  a_l_cell:=_
  f_l_cell:=_
  F_l_cell:=F0
  d_l_cell:=d0
  g_l_draws:=PySem.W.mg_of X G q15
  a_l_draws:=_
  f_l_draws:=_
  F_l_draws:=F1
  d_l_draws:=d1
  g_l_pick:=PySem.W.mg_of X G q19
  a_l_pick:=_
  f_l_pick:=_
  F_l_pick:=F2
  d_l_pick:=d2
  g_l_shuffled:=PySem.W.mg_of X G q23
  a_l_shuffled:=_
  f_l_shuffled:=_
  F_l_shuffled:=F3
  d_l_shuffled:=d3
  g_l_distinct:=PySem.W.mg_of X G q27
  a_l_distinct:=_
  f_l_distinct:=_
  F_l_distinct:=F4
  d_l_distinct:=d4
  g_l_program:=PySem.W.mg_of X G q31
  a_l_program:=_
  f_l_program:=_
  F_l_program:=F5
  d_l_program:=d5
  g_l_events:=PySem.W.mg_of X G q35
  a_l_events:=_
  f_l_events:=_
  F_l_events:=F6
  d_l_events:=d6
  g_l_is_name:=PySem.W.mg_of X G q39
  a_l_is_name:=_
  f_l_is_name:=_
  F_l_is_name:=F7
  d_l_is_name:=d7
  g_l_fault:=PySem.W.mg_of X G q43
  a_l_fault:=_
  f_l_fault:=_
  F_l_fault:=F8
  d_l_fault:=d8
  g_p_name_end:=PySem.W.mg_of X G q47
  a_p_name_end:=_
  f_p_name_end:=_
  F_p_name_end:=F9
  d_p_name_end:=d9
  g_p_expect:=PySem.W.mg_of X G q51
  a_p_expect:=_
  f_p_expect:=_
  F_p_expect:=F10
  d_p_expect:=d10
  g_p_read_program:=PySem.W.mg_of X G q55
  a_p_read_program:=_
  f_p_read_program:=_
  F_p_read_program:=F11
  d_p_read_program:=d11
  g_p_count_funs:=PySem.W.mg_of X G q59
  a_p_count_funs:=_
  f_p_count_funs:=_
  F_p_count_funs:=F12
  d_p_count_funs:=d12
  g_p_is_name:=PySem.W.mg_of X G q63
  a_p_is_name:=_
  f_p_is_name:=_
  F_p_is_name:=F13
  d_p_is_name:=d13
  g_p_check_names:=PySem.W.mg_of X G q67
  a_p_check_names:=_
  f_p_check_names:=_
  F_p_check_names:=F14
  d_p_check_names:=d14
  g_p_check_program:=PySem.W.mg_of X G q71
  a_p_check_program:=_
  f_p_check_program:=_
  F_p_check_program:=F15
  d_p_check_program:=d15
  g_p_parse_program:=PySem.W.mg_of X G q75
  a_p_parse_program:=_
  f_p_parse_program:=_
  F_p_parse_program:=F16
  d_p_parse_program:=d16
  g_l_told:=PySem.W.mg_of X G q79
  a_l_told:=_
  f_l_told:=_
  F_l_told:=F17
  d_l_told:=d17
  g_l_same:=PySem.W.mg_of X G q83
  a_l_same:=_
  f_l_same:=_
  F_l_same:=F18
  d_l_same:=d18
  g_l_written:=PySem.W.mg_of X G q87
  a_l_written:=_
  f_l_written:=_
  F_l_written:=F19
  d_l_written:=d19
  g_l_bad_sign:=PySem.W.mg_of X G q91
  a_l_bad_sign:=_
  f_l_bad_sign:=_
  F_l_bad_sign:=F20
  d_l_bad_sign:=d20
  g_l_tree:=PySem.W.mg_of X G q95
  a_l_tree:=_
  f_l_tree:=_
  F_l_tree:=F21
  d_l_tree:=d21
  g_p_format_program:=PySem.W.mg_of X G q99
  a_p_format_program:=_
  f_p_format_program:=_
  F_p_format_program:=F22
  d_p_format_program:=d22
  g_l_text_right:=PySem.W.mg_of X G q103
  a_l_text_right:=_
  f_l_text_right:=_
  F_l_text_right:=F23
  d_l_text_right:=d23
  g_l_program_right:=PySem.W.mg_of X G q107
  a_l_program_right:=_
  f_l_program_right:=_
  F_l_program_right:=F24
  d_l_program_right:=d24
  g_l_chain:=PySem.W.mg_of X G q111
  a_l_chain:=_
  f_l_chain:=_
  F_l_chain:=F25
  d_l_chain:=d25
  g_l_name_changed:=PySem.W.mg_of X G q115
  a_l_name_changed:=_
  f_l_name_changed:=_
  F_l_name_changed:=F26
  d_l_name_changed:=d26
  g_l_fun_changed:=PySem.W.mg_of X G q119
  a_l_fun_changed:=_
  f_l_fun_changed:=_
  F_l_fun_changed:=F27
  d_l_fun_changed:=d27
  g_l_use_changed:=PySem.W.mg_of X G q123
  a_l_use_changed:=_
  f_l_use_changed:=_
  F_l_use_changed:=F28
  d_l_use_changed:=d28
  g_l_changed:=PySem.W.mg_of X G q127
  a_l_changed:=_
  f_l_changed:=_
  F_l_changed:=F29
  d_l_changed:=d29
  g_l_text_changed:=PySem.W.mg_of X G q131
  a_l_text_changed:=_
  f_l_text_changed:=_
  F_l_text_changed:=F30
  d_l_text_changed:=d30
  g_law:=PySem.W.mg_of X G q135
  a_law:=_
  f_law:=_
  F_law:=F31
  d_law:=d31
  i_BadName:=xf_BadName
  fx_BadName:=(Zcx "__init__" "BadName.__init__" ((clsB (topS 6)).getD 0 (.Pass ⟨0,0,0,0⟩)) cc_BadName cda_BadName).fd xdc_BadName xpm_BadName xct_BadName
  x_BadName:=⟨⟨⟨_,_,_,_,_,_,_,_,_,_,_,_,_,_,_,q141,q142⟩,q143,q144,q145,q146⟩,⟨_,q147⟩,q148,q149,q150,q151,q152⟩
  dx_BadName:=fun s us _ hl=>BindsTo.of_eq (match us,hl with | [_,_],_=>rfl)
  i_BadSign:=xf_BadSign
  fx_BadSign:=(Zcx "__init__" "BadSign.__init__" ((clsB (topS 9)).getD 0 (.Pass ⟨0,0,0,0⟩)) cc_BadSign cda_BadSign).fd xdc_BadSign xpm_BadSign xct_BadSign
  x_BadSign:=⟨⟨⟨_,_,_,_,_,_,_,_,_,_,_,_,_,_,_,q160,q161⟩,q162,q163,q164,q165⟩,⟨_,q166⟩,q167,q168,q169,q170,q171⟩
  dx_BadSign:=fun s us _ hl=>BindsTo.of_eq (match us,hl with | [_,_],_=>rfl)
  i_BoundTwice:=xf_BoundTwice
  fx_BoundTwice:=(Zcx "__init__" "BoundTwice.__init__" ((clsB (topS 14)).getD 0 (.Pass ⟨0,0,0,0⟩)) cc_BoundTwice cda_BoundTwice).fd xdc_BoundTwice xpm_BoundTwice xct_BoundTwice
  x_BoundTwice:=⟨⟨⟨_,_,_,_,_,_,_,_,_,_,_,_,_,_,_,q179,q180⟩,q181,q182,q183,q184⟩,⟨_,q185⟩,q186,q187,q188,q189,q190⟩
  dx_BoundTwice:=fun s us _ hl=>BindsTo.of_eq (match us,hl with | [_,_],_=>rfl)
  i_NotUsed:=xf_NotUsed
  fx_NotUsed:=(Zcx "__init__" "NotUsed.__init__" ((clsB (topS 17)).getD 0 (.Pass ⟨0,0,0,0⟩)) cc_NotUsed cda_NotUsed).fd xdc_NotUsed xpm_NotUsed xct_NotUsed
  x_NotUsed:=⟨⟨⟨_,_,_,_,_,_,_,_,_,_,_,_,_,_,_,q198,q199⟩,q200,q201,q202,q203⟩,⟨_,q204⟩,q205,q206,q207,q208,q209⟩
  dx_NotUsed:=fun s us _ hl=>BindsTo.of_eq (match us,hl with | [_,_],_=>rfl)
  i_TooLarge:=xf_TooLarge
  fx_TooLarge:=(Zcx "__init__" "TooLarge.__init__" ((clsB (topS 2)).getD 0 (.Pass ⟨0,0,0,0⟩)) cc_TooLarge cda_TooLarge).fd xdc_TooLarge xpm_TooLarge xct_TooLarge
  x_TooLarge:=⟨⟨⟨_,_,_,_,_,_,_,_,_,_,_,_,_,_,_,q217,q218⟩,q219,q220,q221,q222⟩,⟨_,q223⟩,q224,q225,q226,q227,q228⟩
  dx_TooLarge:=fun s us _ hl=>BindsTo.of_eq (match us,hl with | [_,_],_=>rfl)
  i_UnknownName:=xf_UnknownName
  fx_UnknownName:=(Zcx "__init__" "UnknownName.__init__" ((clsB (topS 15)).getD 0 (.Pass ⟨0,0,0,0⟩)) cc_UnknownName cda_UnknownName).fd xdc_UnknownName xpm_UnknownName xct_UnknownName
  x_UnknownName:=⟨⟨⟨_,_,_,_,_,_,_,_,_,_,_,_,_,_,_,q236,q237⟩,q238,q239,q240,q241⟩,⟨_,q242⟩,q243,q244,q245,q246,q247⟩
  dx_UnknownName:=fun s us _ hl=>BindsTo.of_eq (match us,hl with | [_,_],_=>rfl)
  i_UsedTwice:=xf_UsedTwice
  fx_UsedTwice:=(Zcx "__init__" "UsedTwice.__init__" ((clsB (topS 16)).getD 0 (.Pass ⟨0,0,0,0⟩)) cc_UsedTwice cda_UsedTwice).fd xdc_UsedTwice xpm_UsedTwice xct_UsedTwice
  x_UsedTwice:=⟨⟨⟨_,_,_,_,_,_,_,_,_,_,_,_,_,_,_,q255,q256⟩,q257,q258,q259,q260⟩,⟨_,q261⟩,q262,q263,q264,q265,q266⟩
  dx_UsedTwice:=fun s us _ hl=>BindsTo.of_eq (match us,hl with | [_,_],_=>rfl)
  no_BadName_name:=q274
  no_BadSign_sign:=q275
  no_BoundTwice_name:=q276
  no_NotUsed_name:=q277
  no_TooLarge_limit:=q278
  no_UnknownName_name:=q279
  no_UsedTwice_name:=q280
  xf_BadName:=⟨q281,q282,q283,q284⟩
  xf_BadSign:=⟨q285,q286,q287,q288⟩
  xf_BoundTwice:=⟨q289,q290,q291,q292⟩
  xf_NotUsed:=⟨q293,q294,q295,q296⟩
  xf_TooLarge:=⟨q297,q298,q299,q300⟩
  xf_UnknownName:=⟨q301,q302,q303,q304⟩
  xf_UsedTwice:=⟨q305,q306,q307,q308⟩
  exc:=fun c hc=>by
   revert hc
   cases c with
   | NotAPairing=>exact fun h=>absurd h (by decide)
   | NothingToUndo=>exact fun h=>absurd h (by decide)
   | NothingToRedo=>exact fun h=>absurd h (by decide)
   | BadLabel=>exact fun h=>absurd h (by decide)
   | NameTaken=>exact fun h=>absurd h (by decide)
   | NoSuchName=>exact fun h=>absurd h (by decide)
   | StillTied=>exact fun h=>absurd h (by decide)
   | ComesapartError=>exact fun h=>absurd h (by decide)
   | TooLarge=>exact fun _=>⟨q335,q336,q337,q338,q339,q309,q310,q340⟩
   | BadLine=>exact fun h=>absurd h (by decide)
   | UnknownPlace=>exact fun h=>absurd h (by decide)
   | BadSides=>exact fun h=>absurd h (by decide)
   | UnknownSide=>exact fun h=>absurd h (by decide)
   | UnknownTie=>exact fun h=>absurd h (by decide)
   | BadStep=>exact fun h=>absurd h (by decide)
   | Repeated=>exact fun h=>absurd h (by decide)
   | NotATurningCycle=>exact fun h=>absurd h (by decide)
   | UnknownPoint=>exact fun h=>absurd h (by decide)
   | UnknownPair=>exact fun h=>absurd h (by decide)
   | SamePoint=>exact fun h=>absurd h (by decide)
   | NoLinks=>exact fun h=>absurd h (by decide)
   | BadLink=>exact fun h=>absurd h (by decide)
   | BadNode=>exact fun h=>absurd h (by decide)
   | UnknownTerm=>exact fun h=>absurd h (by decide)
   | NotSameSteps=>exact fun h=>absurd h (by decide)
   | NoFacing=>exact fun h=>absurd h (by decide)
   | NotARing=>exact fun h=>absurd h (by decide)
   | NotAJoint=>exact fun h=>absurd h (by decide)
   | NotShut=>exact fun h=>absurd h (by decide)
   | BadCut=>exact fun h=>absurd h (by decide)
   | NoSuchCut=>exact fun h=>absurd h (by decide)
   | Locked=>exact fun h=>absurd h (by decide)
   | Nothing=>exact fun h=>absurd h (by decide)
   | BadName=>exact fun _=>⟨q311,q312,q313,q314,q315,q309,q310,q316⟩
   | BadSign=>exact fun _=>⟨q317,q318,q319,q320,q321,q309,q310,q322⟩
   | BadMove=>exact fun h=>absurd h (by decide)
   | NoTerm=>exact fun h=>absurd h (by decide)
   | NeverOpened=>exact fun h=>absurd h (by decide)
   | BoundTwice=>exact fun _=>⟨q323,q324,q325,q326,q327,q309,q310,q328⟩
   | UnknownName=>exact fun _=>⟨q341,q342,q343,q344,q345,q309,q310,q346⟩
   | UsedTwice=>exact fun _=>⟨q347,q348,q349,q350,q351,q309,q310,q352⟩
   | NotUsed=>exact fun _=>⟨q329,q330,q331,q332,q333,q309,q310,q334⟩
   | NotARedex=>exact fun h=>absurd h (by decide)
   | NotBalanced=>exact fun h=>absurd h (by decide)
   | NotAnArrow=>exact fun h=>absurd h (by decide)
   | NotAPermutation=>exact fun h=>absurd h (by decide)
   | BadSetting=>exact fun h=>absurd h (by decide)
   | BadSigns=>exact fun h=>absurd h (by decide)
   | BadChoice=>exact fun h=>absurd h (by decide)
   | NotOuter=>exact fun h=>absurd h (by decide)
  hx_ComesapartError:=fun c hc=>by
   revert hc
   cases c with
   | NotAPairing=>exact fun h=>absurd h (by decide)
   | NothingToUndo=>exact fun h=>absurd h (by decide)
   | NothingToRedo=>exact fun h=>absurd h (by decide)
   | BadLabel=>exact fun h=>absurd h (by decide)
   | NameTaken=>exact fun h=>absurd h (by decide)
   | NoSuchName=>exact fun h=>absurd h (by decide)
   | StillTied=>exact fun h=>absurd h (by decide)
   | ComesapartError=>exact fun h=>absurd h (by decide)
   | TooLarge=>exact fun _=>exm_ref q425 q359 q360 q404
   | BadLine=>exact fun h=>absurd h (by decide)
   | UnknownPlace=>exact fun h=>absurd h (by decide)
   | BadSides=>exact fun h=>absurd h (by decide)
   | UnknownSide=>exact fun h=>absurd h (by decide)
   | UnknownTie=>exact fun h=>absurd h (by decide)
   | BadStep=>exact fun h=>absurd h (by decide)
   | Repeated=>exact fun h=>absurd h (by decide)
   | NotATurningCycle=>exact fun h=>absurd h (by decide)
   | UnknownPoint=>exact fun h=>absurd h (by decide)
   | UnknownPair=>exact fun h=>absurd h (by decide)
   | SamePoint=>exact fun h=>absurd h (by decide)
   | NoLinks=>exact fun h=>absurd h (by decide)
   | BadLink=>exact fun h=>absurd h (by decide)
   | BadNode=>exact fun h=>absurd h (by decide)
   | UnknownTerm=>exact fun h=>absurd h (by decide)
   | NotSameSteps=>exact fun h=>absurd h (by decide)
   | NoFacing=>exact fun h=>absurd h (by decide)
   | NotARing=>exact fun h=>absurd h (by decide)
   | NotAJoint=>exact fun h=>absurd h (by decide)
   | NotShut=>exact fun h=>absurd h (by decide)
   | BadCut=>exact fun h=>absurd h (by decide)
   | NoSuchCut=>exact fun h=>absurd h (by decide)
   | Locked=>exact fun h=>absurd h (by decide)
   | Nothing=>exact fun h=>absurd h (by decide)
   | BadName=>exact fun _=>exm_ref q425 q359 q360 q372
   | BadSign=>exact fun _=>exm_ref q425 q359 q360 q380
   | BadMove=>exact fun h=>absurd h (by decide)
   | NoTerm=>exact fun h=>absurd h (by decide)
   | NeverOpened=>exact fun h=>absurd h (by decide)
   | BoundTwice=>exact fun _=>exm_ref q425 q359 q360 q388
   | UnknownName=>exact fun _=>exm_ref q425 q359 q360 q412
   | UsedTwice=>exact fun _=>exm_ref q425 q359 q360 q420
   | NotUsed=>exact fun _=>exm_ref q425 q359 q360 q396
   | NotARedex=>exact fun h=>absurd h (by decide)
   | NotBalanced=>exact fun h=>absurd h (by decide)
   | NotAnArrow=>exact fun h=>absurd h (by decide)
   | NotAPermutation=>exact fun h=>absurd h (by decide)
   | BadSetting=>exact fun h=>absurd h (by decide)
   | BadSigns=>exact fun h=>absurd h (by decide)
   | BadChoice=>exact fun h=>absurd h (by decide)
   | NotOuter=>exact fun h=>absurd h (by decide)
  kx_BadName:=fun c hc=>by
   revert hc
   cases c with
   | NotAPairing=>exact fun h=>absurd h (by decide)
   | NothingToUndo=>exact fun h=>absurd h (by decide)
   | NothingToRedo=>exact fun h=>absurd h (by decide)
   | BadLabel=>exact fun h=>absurd h (by decide)
   | NameTaken=>exact fun h=>absurd h (by decide)
   | NoSuchName=>exact fun h=>absurd h (by decide)
   | StillTied=>exact fun h=>absurd h (by decide)
   | ComesapartError=>exact fun h=>absurd h (by decide)
   | TooLarge=>exact fun _=>Zan q429 q353 q354 q401
   | BadLine=>exact fun h=>absurd h (by decide)
   | UnknownPlace=>exact fun h=>absurd h (by decide)
   | BadSides=>exact fun h=>absurd h (by decide)
   | UnknownSide=>exact fun h=>absurd h (by decide)
   | UnknownTie=>exact fun h=>absurd h (by decide)
   | BadStep=>exact fun h=>absurd h (by decide)
   | Repeated=>exact fun h=>absurd h (by decide)
   | NotATurningCycle=>exact fun h=>absurd h (by decide)
   | UnknownPoint=>exact fun h=>absurd h (by decide)
   | UnknownPair=>exact fun h=>absurd h (by decide)
   | SamePoint=>exact fun h=>absurd h (by decide)
   | NoLinks=>exact fun h=>absurd h (by decide)
   | BadLink=>exact fun h=>absurd h (by decide)
   | BadNode=>exact fun h=>absurd h (by decide)
   | UnknownTerm=>exact fun h=>absurd h (by decide)
   | NotSameSteps=>exact fun h=>absurd h (by decide)
   | NoFacing=>exact fun h=>absurd h (by decide)
   | NotARing=>exact fun h=>absurd h (by decide)
   | NotAJoint=>exact fun h=>absurd h (by decide)
   | NotShut=>exact fun h=>absurd h (by decide)
   | BadCut=>exact fun h=>absurd h (by decide)
   | NoSuchCut=>exact fun h=>absurd h (by decide)
   | Locked=>exact fun h=>absurd h (by decide)
   | Nothing=>exact fun h=>absurd h (by decide)
   | BadName=>exact fun _=>Zew q353 q354 q369
   | BadSign=>exact fun _=>Zan q426 q353 q354 q377
   | BadMove=>exact fun h=>absurd h (by decide)
   | NoTerm=>exact fun h=>absurd h (by decide)
   | NeverOpened=>exact fun h=>absurd h (by decide)
   | BoundTwice=>exact fun _=>Zan q427 q353 q354 q385
   | UnknownName=>exact fun _=>Zan q430 q353 q354 q409
   | UsedTwice=>exact fun _=>Zan q431 q353 q354 q417
   | NotUsed=>exact fun _=>Zan q428 q353 q354 q393
   | NotARedex=>exact fun h=>absurd h (by decide)
   | NotBalanced=>exact fun h=>absurd h (by decide)
   | NotAnArrow=>exact fun h=>absurd h (by decide)
   | NotAPermutation=>exact fun h=>absurd h (by decide)
   | BadSetting=>exact fun h=>absurd h (by decide)
   | BadSigns=>exact fun h=>absurd h (by decide)
   | BadChoice=>exact fun h=>absurd h (by decide)
   | NotOuter=>exact fun h=>absurd h (by decide)
  kx_BadSign:=fun c hc=>by
   revert hc
   cases c with
   | NotAPairing=>exact fun h=>absurd h (by decide)
   | NothingToUndo=>exact fun h=>absurd h (by decide)
   | NothingToRedo=>exact fun h=>absurd h (by decide)
   | BadLabel=>exact fun h=>absurd h (by decide)
   | NameTaken=>exact fun h=>absurd h (by decide)
   | NoSuchName=>exact fun h=>absurd h (by decide)
   | StillTied=>exact fun h=>absurd h (by decide)
   | ComesapartError=>exact fun h=>absurd h (by decide)
   | TooLarge=>exact fun _=>Zan q435 q355 q356 q402
   | BadLine=>exact fun h=>absurd h (by decide)
   | UnknownPlace=>exact fun h=>absurd h (by decide)
   | BadSides=>exact fun h=>absurd h (by decide)
   | UnknownSide=>exact fun h=>absurd h (by decide)
   | UnknownTie=>exact fun h=>absurd h (by decide)
   | BadStep=>exact fun h=>absurd h (by decide)
   | Repeated=>exact fun h=>absurd h (by decide)
   | NotATurningCycle=>exact fun h=>absurd h (by decide)
   | UnknownPoint=>exact fun h=>absurd h (by decide)
   | UnknownPair=>exact fun h=>absurd h (by decide)
   | SamePoint=>exact fun h=>absurd h (by decide)
   | NoLinks=>exact fun h=>absurd h (by decide)
   | BadLink=>exact fun h=>absurd h (by decide)
   | BadNode=>exact fun h=>absurd h (by decide)
   | UnknownTerm=>exact fun h=>absurd h (by decide)
   | NotSameSteps=>exact fun h=>absurd h (by decide)
   | NoFacing=>exact fun h=>absurd h (by decide)
   | NotARing=>exact fun h=>absurd h (by decide)
   | NotAJoint=>exact fun h=>absurd h (by decide)
   | NotShut=>exact fun h=>absurd h (by decide)
   | BadCut=>exact fun h=>absurd h (by decide)
   | NoSuchCut=>exact fun h=>absurd h (by decide)
   | Locked=>exact fun h=>absurd h (by decide)
   | Nothing=>exact fun h=>absurd h (by decide)
   | BadName=>exact fun _=>Zan q432 q355 q356 q370
   | BadSign=>exact fun _=>Zew q355 q356 q378
   | BadMove=>exact fun h=>absurd h (by decide)
   | NoTerm=>exact fun h=>absurd h (by decide)
   | NeverOpened=>exact fun h=>absurd h (by decide)
   | BoundTwice=>exact fun _=>Zan q433 q355 q356 q386
   | UnknownName=>exact fun _=>Zan q436 q355 q356 q410
   | UsedTwice=>exact fun _=>Zan q437 q355 q356 q418
   | NotUsed=>exact fun _=>Zan q434 q355 q356 q394
   | NotARedex=>exact fun h=>absurd h (by decide)
   | NotBalanced=>exact fun h=>absurd h (by decide)
   | NotAnArrow=>exact fun h=>absurd h (by decide)
   | NotAPermutation=>exact fun h=>absurd h (by decide)
   | BadSetting=>exact fun h=>absurd h (by decide)
   | BadSigns=>exact fun h=>absurd h (by decide)
   | BadChoice=>exact fun h=>absurd h (by decide)
   | NotOuter=>exact fun h=>absurd h (by decide)
  kx_BoundTwice:=fun c hc=>by
   revert hc
   cases c with
   | NotAPairing=>exact fun h=>absurd h (by decide)
   | NothingToUndo=>exact fun h=>absurd h (by decide)
   | NothingToRedo=>exact fun h=>absurd h (by decide)
   | BadLabel=>exact fun h=>absurd h (by decide)
   | NameTaken=>exact fun h=>absurd h (by decide)
   | NoSuchName=>exact fun h=>absurd h (by decide)
   | StillTied=>exact fun h=>absurd h (by decide)
   | ComesapartError=>exact fun h=>absurd h (by decide)
   | TooLarge=>exact fun _=>Zan q441 q357 q358 q403
   | BadLine=>exact fun h=>absurd h (by decide)
   | UnknownPlace=>exact fun h=>absurd h (by decide)
   | BadSides=>exact fun h=>absurd h (by decide)
   | UnknownSide=>exact fun h=>absurd h (by decide)
   | UnknownTie=>exact fun h=>absurd h (by decide)
   | BadStep=>exact fun h=>absurd h (by decide)
   | Repeated=>exact fun h=>absurd h (by decide)
   | NotATurningCycle=>exact fun h=>absurd h (by decide)
   | UnknownPoint=>exact fun h=>absurd h (by decide)
   | UnknownPair=>exact fun h=>absurd h (by decide)
   | SamePoint=>exact fun h=>absurd h (by decide)
   | NoLinks=>exact fun h=>absurd h (by decide)
   | BadLink=>exact fun h=>absurd h (by decide)
   | BadNode=>exact fun h=>absurd h (by decide)
   | UnknownTerm=>exact fun h=>absurd h (by decide)
   | NotSameSteps=>exact fun h=>absurd h (by decide)
   | NoFacing=>exact fun h=>absurd h (by decide)
   | NotARing=>exact fun h=>absurd h (by decide)
   | NotAJoint=>exact fun h=>absurd h (by decide)
   | NotShut=>exact fun h=>absurd h (by decide)
   | BadCut=>exact fun h=>absurd h (by decide)
   | NoSuchCut=>exact fun h=>absurd h (by decide)
   | Locked=>exact fun h=>absurd h (by decide)
   | Nothing=>exact fun h=>absurd h (by decide)
   | BadName=>exact fun _=>Zan q438 q357 q358 q371
   | BadSign=>exact fun _=>Zan q439 q357 q358 q379
   | BadMove=>exact fun h=>absurd h (by decide)
   | NoTerm=>exact fun h=>absurd h (by decide)
   | NeverOpened=>exact fun h=>absurd h (by decide)
   | BoundTwice=>exact fun _=>Zew q357 q358 q387
   | UnknownName=>exact fun _=>Zan q442 q357 q358 q411
   | UsedTwice=>exact fun _=>Zan q443 q357 q358 q419
   | NotUsed=>exact fun _=>Zan q440 q357 q358 q395
   | NotARedex=>exact fun h=>absurd h (by decide)
   | NotBalanced=>exact fun h=>absurd h (by decide)
   | NotAnArrow=>exact fun h=>absurd h (by decide)
   | NotAPermutation=>exact fun h=>absurd h (by decide)
   | BadSetting=>exact fun h=>absurd h (by decide)
   | BadSigns=>exact fun h=>absurd h (by decide)
   | BadChoice=>exact fun h=>absurd h (by decide)
   | NotOuter=>exact fun h=>absurd h (by decide)
  kx_NotUsed:=fun c hc=>by
   revert hc
   cases c with
   | NotAPairing=>exact fun h=>absurd h (by decide)
   | NothingToUndo=>exact fun h=>absurd h (by decide)
   | NothingToRedo=>exact fun h=>absurd h (by decide)
   | BadLabel=>exact fun h=>absurd h (by decide)
   | NameTaken=>exact fun h=>absurd h (by decide)
   | NoSuchName=>exact fun h=>absurd h (by decide)
   | StillTied=>exact fun h=>absurd h (by decide)
   | ComesapartError=>exact fun h=>absurd h (by decide)
   | TooLarge=>exact fun _=>Zan q447 q361 q362 q405
   | BadLine=>exact fun h=>absurd h (by decide)
   | UnknownPlace=>exact fun h=>absurd h (by decide)
   | BadSides=>exact fun h=>absurd h (by decide)
   | UnknownSide=>exact fun h=>absurd h (by decide)
   | UnknownTie=>exact fun h=>absurd h (by decide)
   | BadStep=>exact fun h=>absurd h (by decide)
   | Repeated=>exact fun h=>absurd h (by decide)
   | NotATurningCycle=>exact fun h=>absurd h (by decide)
   | UnknownPoint=>exact fun h=>absurd h (by decide)
   | UnknownPair=>exact fun h=>absurd h (by decide)
   | SamePoint=>exact fun h=>absurd h (by decide)
   | NoLinks=>exact fun h=>absurd h (by decide)
   | BadLink=>exact fun h=>absurd h (by decide)
   | BadNode=>exact fun h=>absurd h (by decide)
   | UnknownTerm=>exact fun h=>absurd h (by decide)
   | NotSameSteps=>exact fun h=>absurd h (by decide)
   | NoFacing=>exact fun h=>absurd h (by decide)
   | NotARing=>exact fun h=>absurd h (by decide)
   | NotAJoint=>exact fun h=>absurd h (by decide)
   | NotShut=>exact fun h=>absurd h (by decide)
   | BadCut=>exact fun h=>absurd h (by decide)
   | NoSuchCut=>exact fun h=>absurd h (by decide)
   | Locked=>exact fun h=>absurd h (by decide)
   | Nothing=>exact fun h=>absurd h (by decide)
   | BadName=>exact fun _=>Zan q444 q361 q362 q373
   | BadSign=>exact fun _=>Zan q445 q361 q362 q381
   | BadMove=>exact fun h=>absurd h (by decide)
   | NoTerm=>exact fun h=>absurd h (by decide)
   | NeverOpened=>exact fun h=>absurd h (by decide)
   | BoundTwice=>exact fun _=>Zan q446 q361 q362 q389
   | UnknownName=>exact fun _=>Zan q448 q361 q362 q413
   | UsedTwice=>exact fun _=>Zan q449 q361 q362 q421
   | NotUsed=>exact fun _=>Zew q361 q362 q397
   | NotARedex=>exact fun h=>absurd h (by decide)
   | NotBalanced=>exact fun h=>absurd h (by decide)
   | NotAnArrow=>exact fun h=>absurd h (by decide)
   | NotAPermutation=>exact fun h=>absurd h (by decide)
   | BadSetting=>exact fun h=>absurd h (by decide)
   | BadSigns=>exact fun h=>absurd h (by decide)
   | BadChoice=>exact fun h=>absurd h (by decide)
   | NotOuter=>exact fun h=>absurd h (by decide)
  kx_TooLarge:=fun c hc=>by
   revert hc
   cases c with
   | NotAPairing=>exact fun h=>absurd h (by decide)
   | NothingToUndo=>exact fun h=>absurd h (by decide)
   | NothingToRedo=>exact fun h=>absurd h (by decide)
   | BadLabel=>exact fun h=>absurd h (by decide)
   | NameTaken=>exact fun h=>absurd h (by decide)
   | NoSuchName=>exact fun h=>absurd h (by decide)
   | StillTied=>exact fun h=>absurd h (by decide)
   | ComesapartError=>exact fun h=>absurd h (by decide)
   | TooLarge=>exact fun _=>Zew q363 q364 q406
   | BadLine=>exact fun h=>absurd h (by decide)
   | UnknownPlace=>exact fun h=>absurd h (by decide)
   | BadSides=>exact fun h=>absurd h (by decide)
   | UnknownSide=>exact fun h=>absurd h (by decide)
   | UnknownTie=>exact fun h=>absurd h (by decide)
   | BadStep=>exact fun h=>absurd h (by decide)
   | Repeated=>exact fun h=>absurd h (by decide)
   | NotATurningCycle=>exact fun h=>absurd h (by decide)
   | UnknownPoint=>exact fun h=>absurd h (by decide)
   | UnknownPair=>exact fun h=>absurd h (by decide)
   | SamePoint=>exact fun h=>absurd h (by decide)
   | NoLinks=>exact fun h=>absurd h (by decide)
   | BadLink=>exact fun h=>absurd h (by decide)
   | BadNode=>exact fun h=>absurd h (by decide)
   | UnknownTerm=>exact fun h=>absurd h (by decide)
   | NotSameSteps=>exact fun h=>absurd h (by decide)
   | NoFacing=>exact fun h=>absurd h (by decide)
   | NotARing=>exact fun h=>absurd h (by decide)
   | NotAJoint=>exact fun h=>absurd h (by decide)
   | NotShut=>exact fun h=>absurd h (by decide)
   | BadCut=>exact fun h=>absurd h (by decide)
   | NoSuchCut=>exact fun h=>absurd h (by decide)
   | Locked=>exact fun h=>absurd h (by decide)
   | Nothing=>exact fun h=>absurd h (by decide)
   | BadName=>exact fun _=>Zan q450 q363 q364 q374
   | BadSign=>exact fun _=>Zan q451 q363 q364 q382
   | BadMove=>exact fun h=>absurd h (by decide)
   | NoTerm=>exact fun h=>absurd h (by decide)
   | NeverOpened=>exact fun h=>absurd h (by decide)
   | BoundTwice=>exact fun _=>Zan q452 q363 q364 q390
   | UnknownName=>exact fun _=>Zan q454 q363 q364 q414
   | UsedTwice=>exact fun _=>Zan q455 q363 q364 q422
   | NotUsed=>exact fun _=>Zan q453 q363 q364 q398
   | NotARedex=>exact fun h=>absurd h (by decide)
   | NotBalanced=>exact fun h=>absurd h (by decide)
   | NotAnArrow=>exact fun h=>absurd h (by decide)
   | NotAPermutation=>exact fun h=>absurd h (by decide)
   | BadSetting=>exact fun h=>absurd h (by decide)
   | BadSigns=>exact fun h=>absurd h (by decide)
   | BadChoice=>exact fun h=>absurd h (by decide)
   | NotOuter=>exact fun h=>absurd h (by decide)
  kx_UnknownName:=fun c hc=>by
   revert hc
   cases c with
   | NotAPairing=>exact fun h=>absurd h (by decide)
   | NothingToUndo=>exact fun h=>absurd h (by decide)
   | NothingToRedo=>exact fun h=>absurd h (by decide)
   | BadLabel=>exact fun h=>absurd h (by decide)
   | NameTaken=>exact fun h=>absurd h (by decide)
   | NoSuchName=>exact fun h=>absurd h (by decide)
   | StillTied=>exact fun h=>absurd h (by decide)
   | ComesapartError=>exact fun h=>absurd h (by decide)
   | TooLarge=>exact fun _=>Zan q460 q365 q366 q407
   | BadLine=>exact fun h=>absurd h (by decide)
   | UnknownPlace=>exact fun h=>absurd h (by decide)
   | BadSides=>exact fun h=>absurd h (by decide)
   | UnknownSide=>exact fun h=>absurd h (by decide)
   | UnknownTie=>exact fun h=>absurd h (by decide)
   | BadStep=>exact fun h=>absurd h (by decide)
   | Repeated=>exact fun h=>absurd h (by decide)
   | NotATurningCycle=>exact fun h=>absurd h (by decide)
   | UnknownPoint=>exact fun h=>absurd h (by decide)
   | UnknownPair=>exact fun h=>absurd h (by decide)
   | SamePoint=>exact fun h=>absurd h (by decide)
   | NoLinks=>exact fun h=>absurd h (by decide)
   | BadLink=>exact fun h=>absurd h (by decide)
   | BadNode=>exact fun h=>absurd h (by decide)
   | UnknownTerm=>exact fun h=>absurd h (by decide)
   | NotSameSteps=>exact fun h=>absurd h (by decide)
   | NoFacing=>exact fun h=>absurd h (by decide)
   | NotARing=>exact fun h=>absurd h (by decide)
   | NotAJoint=>exact fun h=>absurd h (by decide)
   | NotShut=>exact fun h=>absurd h (by decide)
   | BadCut=>exact fun h=>absurd h (by decide)
   | NoSuchCut=>exact fun h=>absurd h (by decide)
   | Locked=>exact fun h=>absurd h (by decide)
   | Nothing=>exact fun h=>absurd h (by decide)
   | BadName=>exact fun _=>Zan q456 q365 q366 q375
   | BadSign=>exact fun _=>Zan q457 q365 q366 q383
   | BadMove=>exact fun h=>absurd h (by decide)
   | NoTerm=>exact fun h=>absurd h (by decide)
   | NeverOpened=>exact fun h=>absurd h (by decide)
   | BoundTwice=>exact fun _=>Zan q458 q365 q366 q391
   | UnknownName=>exact fun _=>Zew q365 q366 q415
   | UsedTwice=>exact fun _=>Zan q461 q365 q366 q423
   | NotUsed=>exact fun _=>Zan q459 q365 q366 q399
   | NotARedex=>exact fun h=>absurd h (by decide)
   | NotBalanced=>exact fun h=>absurd h (by decide)
   | NotAnArrow=>exact fun h=>absurd h (by decide)
   | NotAPermutation=>exact fun h=>absurd h (by decide)
   | BadSetting=>exact fun h=>absurd h (by decide)
   | BadSigns=>exact fun h=>absurd h (by decide)
   | BadChoice=>exact fun h=>absurd h (by decide)
   | NotOuter=>exact fun h=>absurd h (by decide)
  kx_UsedTwice:=fun c hc=>by
   revert hc
   cases c with
   | NotAPairing=>exact fun h=>absurd h (by decide)
   | NothingToUndo=>exact fun h=>absurd h (by decide)
   | NothingToRedo=>exact fun h=>absurd h (by decide)
   | BadLabel=>exact fun h=>absurd h (by decide)
   | NameTaken=>exact fun h=>absurd h (by decide)
   | NoSuchName=>exact fun h=>absurd h (by decide)
   | StillTied=>exact fun h=>absurd h (by decide)
   | ComesapartError=>exact fun h=>absurd h (by decide)
   | TooLarge=>exact fun _=>Zan q466 q367 q368 q408
   | BadLine=>exact fun h=>absurd h (by decide)
   | UnknownPlace=>exact fun h=>absurd h (by decide)
   | BadSides=>exact fun h=>absurd h (by decide)
   | UnknownSide=>exact fun h=>absurd h (by decide)
   | UnknownTie=>exact fun h=>absurd h (by decide)
   | BadStep=>exact fun h=>absurd h (by decide)
   | Repeated=>exact fun h=>absurd h (by decide)
   | NotATurningCycle=>exact fun h=>absurd h (by decide)
   | UnknownPoint=>exact fun h=>absurd h (by decide)
   | UnknownPair=>exact fun h=>absurd h (by decide)
   | SamePoint=>exact fun h=>absurd h (by decide)
   | NoLinks=>exact fun h=>absurd h (by decide)
   | BadLink=>exact fun h=>absurd h (by decide)
   | BadNode=>exact fun h=>absurd h (by decide)
   | UnknownTerm=>exact fun h=>absurd h (by decide)
   | NotSameSteps=>exact fun h=>absurd h (by decide)
   | NoFacing=>exact fun h=>absurd h (by decide)
   | NotARing=>exact fun h=>absurd h (by decide)
   | NotAJoint=>exact fun h=>absurd h (by decide)
   | NotShut=>exact fun h=>absurd h (by decide)
   | BadCut=>exact fun h=>absurd h (by decide)
   | NoSuchCut=>exact fun h=>absurd h (by decide)
   | Locked=>exact fun h=>absurd h (by decide)
   | Nothing=>exact fun h=>absurd h (by decide)
   | BadName=>exact fun _=>Zan q462 q367 q368 q376
   | BadSign=>exact fun _=>Zan q463 q367 q368 q384
   | BadMove=>exact fun h=>absurd h (by decide)
   | NoTerm=>exact fun h=>absurd h (by decide)
   | NeverOpened=>exact fun h=>absurd h (by decide)
   | BoundTwice=>exact fun _=>Zan q464 q367 q368 q392
   | UnknownName=>exact fun _=>Zan q467 q367 q368 q416
   | UsedTwice=>exact fun _=>Zew q367 q368 q424
   | NotUsed=>exact fun _=>Zan q465 q367 q368 q400
   | NotARedex=>exact fun h=>absurd h (by decide)
   | NotBalanced=>exact fun h=>absurd h (by decide)
   | NotAnArrow=>exact fun h=>absurd h (by decide)
   | NotAPermutation=>exact fun h=>absurd h (by decide)
   | BadSetting=>exact fun h=>absurd h (by decide)
   | BadSigns=>exact fun h=>absurd h (by decide)
   | BadChoice=>exact fun h=>absurd h (by decide)
   | NotOuter=>exact fun h=>absurd h (by decide)
  kx_ValueError:=fun c hc=>by
   revert hc
   cases c with
   | NotAPairing=>exact fun h=>absurd h (by decide)
   | NothingToUndo=>exact fun h=>absurd h (by decide)
   | NothingToRedo=>exact fun h=>absurd h (by decide)
   | BadLabel=>exact fun h=>absurd h (by decide)
   | NameTaken=>exact fun h=>absurd h (by decide)
   | NoSuchName=>exact fun h=>absurd h (by decide)
   | StillTied=>exact fun h=>absurd h (by decide)
   | ComesapartError=>exact fun h=>absurd h (by decide)
   | TooLarge=>exact fun _=>kit_VE q472
   | BadLine=>exact fun h=>absurd h (by decide)
   | UnknownPlace=>exact fun h=>absurd h (by decide)
   | BadSides=>exact fun h=>absurd h (by decide)
   | UnknownSide=>exact fun h=>absurd h (by decide)
   | UnknownTie=>exact fun h=>absurd h (by decide)
   | BadStep=>exact fun h=>absurd h (by decide)
   | Repeated=>exact fun h=>absurd h (by decide)
   | NotATurningCycle=>exact fun h=>absurd h (by decide)
   | UnknownPoint=>exact fun h=>absurd h (by decide)
   | UnknownPair=>exact fun h=>absurd h (by decide)
   | SamePoint=>exact fun h=>absurd h (by decide)
   | NoLinks=>exact fun h=>absurd h (by decide)
   | BadLink=>exact fun h=>absurd h (by decide)
   | BadNode=>exact fun h=>absurd h (by decide)
   | UnknownTerm=>exact fun h=>absurd h (by decide)
   | NotSameSteps=>exact fun h=>absurd h (by decide)
   | NoFacing=>exact fun h=>absurd h (by decide)
   | NotARing=>exact fun h=>absurd h (by decide)
   | NotAJoint=>exact fun h=>absurd h (by decide)
   | NotShut=>exact fun h=>absurd h (by decide)
   | BadCut=>exact fun h=>absurd h (by decide)
   | NoSuchCut=>exact fun h=>absurd h (by decide)
   | Locked=>exact fun h=>absurd h (by decide)
   | Nothing=>exact fun h=>absurd h (by decide)
   | BadName=>exact fun _=>kit_VE q468
   | BadSign=>exact fun _=>kit_VE q469
   | BadMove=>exact fun h=>absurd h (by decide)
   | NoTerm=>exact fun h=>absurd h (by decide)
   | NeverOpened=>exact fun h=>absurd h (by decide)
   | BoundTwice=>exact fun _=>kit_VE q470
   | UnknownName=>exact fun _=>kit_VE q473
   | UsedTwice=>exact fun _=>kit_VE q474
   | NotUsed=>exact fun _=>kit_VE q471
   | NotARedex=>exact fun h=>absurd h (by decide)
   | NotBalanced=>exact fun h=>absurd h (by decide)
   | NotAnArrow=>exact fun h=>absurd h (by decide)
   | NotAPermutation=>exact fun h=>absurd h (by decide)
   | BadSetting=>exact fun h=>absurd h (by decide)
   | BadSigns=>exact fun h=>absurd h (by decide)
   | BadChoice=>exact fun h=>absurd h (by decide)
   | NotOuter=>exact fun h=>absurd h (by decide)
  b_ValueError:=PySem.W.mg_none_of X G q475
  b_abs:=PySem.W.mg_none_of X G q476
  b_all:=PySem.W.mg_none_of X G q477
  b_bool:=PySem.W.mg_none_of X G q478
  b_int:=PySem.W.mg_none_of X G q479
  b_isinstance:=PySem.W.mg_none_of X G q480
  b_len:=PySem.W.mg_none_of X G q481
  b_list:=PySem.W.mg_none_of X G q482
  b_range:=PySem.W.mg_none_of X G q483
  b_str:=PySem.W.mg_none_of X G q484
  b_tuple:=PySem.W.mg_none_of X G q485
 }
 have G_x_BadName:∀ base:Heap,FnOk PySem.Challenge.rw_comesapart_k81_programs_read_and_checked.prog w K mg base (L2.CX PySem.Challenge.rw_comesapart_k81_programs_read_and_checked.prog w) 1 T.i_BadName T.fx_BadName ["self","name"] (spX1 (T.A.tx .BadName) "name"):=fun base=>ZeA (k:=0) (ar:=((defArgs ((clsB (topS 6)).getD 0 (.Pass ⟨0,0,0,0⟩))).posonlyargs++(defArgs ((clsB (topS 6)).getD 0 (.Pass ⟨0,0,0,0⟩))).args).headD ⟨"",none,⟨0,0,0,0⟩⟩) (F:=Zcx "__init__" "BadName.__init__" ((clsB (topS 6)).getD 0 (.Pass ⟨0,0,0,0⟩)) cc_BadName cda_BadName) (D:=D_BadName) (f:=xf_BadName) (show NdefX.NScope ["self","name","__class__"] ["self","name"] ["__class__"] (defScope ((clsB (topS 6)).getD 0 (.Pass ⟨0,0,0,0⟩))) from NdefX.nscope_by (by decide +kernel)) rfl rfl (by decide +kernel) (by decide +kernel) (by decide) (by decide) (show (defScope ((clsB (topS 6)).getD 0 (.Pass ⟨0,0,0,0⟩))).names.lookup ("super" : PySem.Str)=some NameKind.globalImplicit from by decide +kernel) q153 rfl q154 q155 q157 q156 q158 T.x_BadName q159 (PySem.W.mg_none_of X G q139) (by decide +kernel) q140 (by intro _;rfl)
 have G_x_BadSign:∀ base:Heap,FnOk PySem.Challenge.rw_comesapart_k81_programs_read_and_checked.prog w K mg base (L2.CX PySem.Challenge.rw_comesapart_k81_programs_read_and_checked.prog w) 1 T.i_BadSign T.fx_BadSign ["self","sign"] (spX1 (T.A.tx .BadSign) "sign"):=fun base=>ZeA (k:=0) (ar:=((defArgs ((clsB (topS 9)).getD 0 (.Pass ⟨0,0,0,0⟩))).posonlyargs++(defArgs ((clsB (topS 9)).getD 0 (.Pass ⟨0,0,0,0⟩))).args).headD ⟨"",none,⟨0,0,0,0⟩⟩) (F:=Zcx "__init__" "BadSign.__init__" ((clsB (topS 9)).getD 0 (.Pass ⟨0,0,0,0⟩)) cc_BadSign cda_BadSign) (D:=D_BadSign) (f:=xf_BadSign) (show NdefX.NScope ["self","sign","__class__"] ["self","sign"] ["__class__"] (defScope ((clsB (topS 9)).getD 0 (.Pass ⟨0,0,0,0⟩))) from NdefX.nscope_by (by decide +kernel)) rfl rfl (by decide +kernel) (by decide +kernel) (by decide) (by decide) (show (defScope ((clsB (topS 9)).getD 0 (.Pass ⟨0,0,0,0⟩))).names.lookup ("super" : PySem.Str)=some NameKind.globalImplicit from by decide +kernel) q172 rfl q173 q174 q176 q175 q177 T.x_BadSign q178 (PySem.W.mg_none_of X G q139) (by decide +kernel) q140 (by intro _;rfl)
 have G_x_BoundTwice:∀ base:Heap,FnOk PySem.Challenge.rw_comesapart_k81_programs_read_and_checked.prog w K mg base (L2.CX PySem.Challenge.rw_comesapart_k81_programs_read_and_checked.prog w) 1 T.i_BoundTwice T.fx_BoundTwice ["self","name"] (spX1 (T.A.tx .BoundTwice) "name"):=fun base=>ZeA (k:=0) (ar:=((defArgs ((clsB (topS 14)).getD 0 (.Pass ⟨0,0,0,0⟩))).posonlyargs++(defArgs ((clsB (topS 14)).getD 0 (.Pass ⟨0,0,0,0⟩))).args).headD ⟨"",none,⟨0,0,0,0⟩⟩) (F:=Zcx "__init__" "BoundTwice.__init__" ((clsB (topS 14)).getD 0 (.Pass ⟨0,0,0,0⟩)) cc_BoundTwice cda_BoundTwice) (D:=D_BoundTwice) (f:=xf_BoundTwice) (show NdefX.NScope ["self","name","__class__"] ["self","name"] ["__class__"] (defScope ((clsB (topS 14)).getD 0 (.Pass ⟨0,0,0,0⟩))) from NdefX.nscope_by (by decide +kernel)) rfl rfl (by decide +kernel) (by decide +kernel) (by decide) (by decide) (show (defScope ((clsB (topS 14)).getD 0 (.Pass ⟨0,0,0,0⟩))).names.lookup ("super" : PySem.Str)=some NameKind.globalImplicit from by decide +kernel) q191 rfl q192 q193 q195 q194 q196 T.x_BoundTwice q197 (PySem.W.mg_none_of X G q139) (by decide +kernel) q140 (by intro _;rfl)
 have G_x_NotUsed:∀ base:Heap,FnOk PySem.Challenge.rw_comesapart_k81_programs_read_and_checked.prog w K mg base (L2.CX PySem.Challenge.rw_comesapart_k81_programs_read_and_checked.prog w) 1 T.i_NotUsed T.fx_NotUsed ["self","name"] (spX1 (T.A.tx .NotUsed) "name"):=fun base=>ZeA (k:=0) (ar:=((defArgs ((clsB (topS 17)).getD 0 (.Pass ⟨0,0,0,0⟩))).posonlyargs++(defArgs ((clsB (topS 17)).getD 0 (.Pass ⟨0,0,0,0⟩))).args).headD ⟨"",none,⟨0,0,0,0⟩⟩) (F:=Zcx "__init__" "NotUsed.__init__" ((clsB (topS 17)).getD 0 (.Pass ⟨0,0,0,0⟩)) cc_NotUsed cda_NotUsed) (D:=D_NotUsed) (f:=xf_NotUsed) (show NdefX.NScope ["self","name","__class__"] ["self","name"] ["__class__"] (defScope ((clsB (topS 17)).getD 0 (.Pass ⟨0,0,0,0⟩))) from NdefX.nscope_by (by decide +kernel)) rfl rfl (by decide +kernel) (by decide +kernel) (by decide) (by decide) (show (defScope ((clsB (topS 17)).getD 0 (.Pass ⟨0,0,0,0⟩))).names.lookup ("super" : PySem.Str)=some NameKind.globalImplicit from by decide +kernel) q210 rfl q211 q212 q214 q213 q215 T.x_NotUsed q216 (PySem.W.mg_none_of X G q139) (by decide +kernel) q140 (by intro _;rfl)
 have G_x_TooLarge:∀ base:Heap,FnOk PySem.Challenge.rw_comesapart_k81_programs_read_and_checked.prog w K mg base (L2.CX PySem.Challenge.rw_comesapart_k81_programs_read_and_checked.prog w) 1 T.i_TooLarge T.fx_TooLarge ["self","limit"] (spX1 (T.A.tx .TooLarge) "limit"):=fun base=>ZeA (k:=0) (ar:=((defArgs ((clsB (topS 2)).getD 0 (.Pass ⟨0,0,0,0⟩))).posonlyargs++(defArgs ((clsB (topS 2)).getD 0 (.Pass ⟨0,0,0,0⟩))).args).headD ⟨"",none,⟨0,0,0,0⟩⟩) (F:=Zcx "__init__" "TooLarge.__init__" ((clsB (topS 2)).getD 0 (.Pass ⟨0,0,0,0⟩)) cc_TooLarge cda_TooLarge) (D:=D_TooLarge) (f:=xf_TooLarge) (show NdefX.NScope ["self","limit","__class__"] ["self","limit"] ["__class__"] (defScope ((clsB (topS 2)).getD 0 (.Pass ⟨0,0,0,0⟩))) from NdefX.nscope_by (by decide +kernel)) rfl rfl (by decide +kernel) (by decide +kernel) (by decide) (by decide) (show (defScope ((clsB (topS 2)).getD 0 (.Pass ⟨0,0,0,0⟩))).names.lookup ("super" : PySem.Str)=some NameKind.globalImplicit from by decide +kernel) q229 rfl q230 q231 q233 q232 q234 T.x_TooLarge q235 (PySem.W.mg_none_of X G q139) (by decide +kernel) q140 (by intro _;rfl)
 have G_x_UnknownName:∀ base:Heap,FnOk PySem.Challenge.rw_comesapart_k81_programs_read_and_checked.prog w K mg base (L2.CX PySem.Challenge.rw_comesapart_k81_programs_read_and_checked.prog w) 1 T.i_UnknownName T.fx_UnknownName ["self","name"] (spX1 (T.A.tx .UnknownName) "name"):=fun base=>ZeA (k:=0) (ar:=((defArgs ((clsB (topS 15)).getD 0 (.Pass ⟨0,0,0,0⟩))).posonlyargs++(defArgs ((clsB (topS 15)).getD 0 (.Pass ⟨0,0,0,0⟩))).args).headD ⟨"",none,⟨0,0,0,0⟩⟩) (F:=Zcx "__init__" "UnknownName.__init__" ((clsB (topS 15)).getD 0 (.Pass ⟨0,0,0,0⟩)) cc_UnknownName cda_UnknownName) (D:=D_UnknownName) (f:=xf_UnknownName) (show NdefX.NScope ["self","name","__class__"] ["self","name"] ["__class__"] (defScope ((clsB (topS 15)).getD 0 (.Pass ⟨0,0,0,0⟩))) from NdefX.nscope_by (by decide +kernel)) rfl rfl (by decide +kernel) (by decide +kernel) (by decide) (by decide) (show (defScope ((clsB (topS 15)).getD 0 (.Pass ⟨0,0,0,0⟩))).names.lookup ("super" : PySem.Str)=some NameKind.globalImplicit from by decide +kernel) q248 rfl q249 q250 q252 q251 q253 T.x_UnknownName q254 (PySem.W.mg_none_of X G q139) (by decide +kernel) q140 (by intro _;rfl)
 have G_x_UsedTwice:∀ base:Heap,FnOk PySem.Challenge.rw_comesapart_k81_programs_read_and_checked.prog w K mg base (L2.CX PySem.Challenge.rw_comesapart_k81_programs_read_and_checked.prog w) 1 T.i_UsedTwice T.fx_UsedTwice ["self","name"] (spX1 (T.A.tx .UsedTwice) "name"):=fun base=>ZeA (k:=0) (ar:=((defArgs ((clsB (topS 16)).getD 0 (.Pass ⟨0,0,0,0⟩))).posonlyargs++(defArgs ((clsB (topS 16)).getD 0 (.Pass ⟨0,0,0,0⟩))).args).headD ⟨"",none,⟨0,0,0,0⟩⟩) (F:=Zcx "__init__" "UsedTwice.__init__" ((clsB (topS 16)).getD 0 (.Pass ⟨0,0,0,0⟩)) cc_UsedTwice cda_UsedTwice) (D:=D_UsedTwice) (f:=xf_UsedTwice) (show NdefX.NScope ["self","name","__class__"] ["self","name"] ["__class__"] (defScope ((clsB (topS 16)).getD 0 (.Pass ⟨0,0,0,0⟩))) from NdefX.nscope_by (by decide +kernel)) rfl rfl (by decide +kernel) (by decide +kernel) (by decide) (by decide) (show (defScope ((clsB (topS 16)).getD 0 (.Pass ⟨0,0,0,0⟩))).names.lookup ("super" : PySem.Str)=some NameKind.globalImplicit from by decide +kernel) q267 rfl q268 q269 q271 q270 q272 T.x_UsedTwice q273 (PySem.W.mg_none_of X G q139) (by decide +kernel) q140 (by intro _;rfl)
 refine ⟨PySem.W.fnOf "law" "law" (defArgs s_law) (defBody s_law) (defScope s_law) .none kV31 dc31 pm31 an31 cd31 ct31,fun s v=>.of_eq rfl,fun base _ _=>?_⟩
 have G_l_cell:=ok_l_cell (P:=PySem.Challenge.rw_comesapart_k81_programs_read_and_checked.prog) (w:=w) (base:=base) T
 have G_l_draws:=ok_l_draws (P:=PySem.Challenge.rw_comesapart_k81_programs_read_and_checked.prog) (w:=w) (base:=base) T
 have G_l_pick:=ok_l_pick (P:=PySem.Challenge.rw_comesapart_k81_programs_read_and_checked.prog) (w:=w) (base:=base) T
 have G_l_shuffled:=ok_l_shuffled (P:=PySem.Challenge.rw_comesapart_k81_programs_read_and_checked.prog) (w:=w) (base:=base) T G_l_pick
 have G_l_distinct:=ok_l_distinct (P:=PySem.Challenge.rw_comesapart_k81_programs_read_and_checked.prog) (w:=w) (base:=base) T G_l_shuffled G_l_pick
 have G_l_program:=ok_l_program (P:=PySem.Challenge.rw_comesapart_k81_programs_read_and_checked.prog) (w:=w) (base:=base) T G_l_pick
 have G_l_events:=ok_l_events (P:=PySem.Challenge.rw_comesapart_k81_programs_read_and_checked.prog) (w:=w) (base:=base) T
 have G_l_is_name:=ok_l_is_name (P:=PySem.Challenge.rw_comesapart_k81_programs_read_and_checked.prog) (w:=w) (base:=base) T
 have G_l_fault:=ok_l_fault (P:=PySem.Challenge.rw_comesapart_k81_programs_read_and_checked.prog) (w:=w) (base:=base) T G_l_events G_l_is_name
 have G_p_name_end:=ok_p_name_end (P:=PySem.Challenge.rw_comesapart_k81_programs_read_and_checked.prog) (w:=w) (base:=base) T (G_x_BadSign base)
 have G_p_expect:=ok_p_expect (P:=PySem.Challenge.rw_comesapart_k81_programs_read_and_checked.prog) (w:=w) (base:=base) T (G_x_BadSign base)
 have G_p_read_program:=ok_p_read_program (P:=PySem.Challenge.rw_comesapart_k81_programs_read_and_checked.prog) (w:=w) (base:=base) T G_p_name_end G_p_expect
 have G_p_count_funs:=ok_p_count_funs (P:=PySem.Challenge.rw_comesapart_k81_programs_read_and_checked.prog) (w:=w) (base:=base) T
 have G_p_is_name:=ok_p_is_name (P:=PySem.Challenge.rw_comesapart_k81_programs_read_and_checked.prog) (w:=w) (base:=base) T
 have G_p_check_names:=ok_p_check_names (P:=PySem.Challenge.rw_comesapart_k81_programs_read_and_checked.prog) (w:=w) (base:=base) T G_p_is_name (G_x_BadName base) (G_x_BoundTwice base) (G_x_NotUsed base) (G_x_UnknownName base) (G_x_UsedTwice base)
 have G_p_check_program:=ok_p_check_program (P:=PySem.Challenge.rw_comesapart_k81_programs_read_and_checked.prog) (w:=w) (base:=base) T G_p_count_funs G_p_check_names (G_x_TooLarge base)
 have G_p_parse_program:=ok_p_parse_program (P:=PySem.Challenge.rw_comesapart_k81_programs_read_and_checked.prog) (w:=w) (base:=base) T G_p_read_program G_p_check_program (G_x_BadSign base)
 have G_l_told:=ok_l_told (P:=PySem.Challenge.rw_comesapart_k81_programs_read_and_checked.prog) (w:=w) (base:=base) T G_p_parse_program G_p_check_program
 have G_l_same:=ok_l_same (P:=PySem.Challenge.rw_comesapart_k81_programs_read_and_checked.prog) (w:=w) (base:=base) T
 have G_l_written:=ok_l_written (P:=PySem.Challenge.rw_comesapart_k81_programs_read_and_checked.prog) (w:=w) (base:=base) T
 have G_l_bad_sign:=ok_l_bad_sign (P:=PySem.Challenge.rw_comesapart_k81_programs_read_and_checked.prog) (w:=w) (base:=base) T
 have G_l_tree:=ok_l_tree (P:=PySem.Challenge.rw_comesapart_k81_programs_read_and_checked.prog) (w:=w) (base:=base) T
 have G_p_format_program:=ok_p_format_program (P:=PySem.Challenge.rw_comesapart_k81_programs_read_and_checked.prog) (w:=w) (base:=base) T
 have G_l_text_right:=ok_l_text_right (P:=PySem.Challenge.rw_comesapart_k81_programs_read_and_checked.prog) (w:=w) (base:=base) T G_l_told G_l_bad_sign G_l_same G_l_tree G_l_fault G_p_format_program
 have G_l_program_right:=ok_l_program_right (P:=PySem.Challenge.rw_comesapart_k81_programs_read_and_checked.prog) (w:=w) (base:=base) T G_l_fault G_l_told G_l_same G_l_written G_l_text_right G_p_format_program
 have G_l_chain:=ok_l_chain (P:=PySem.Challenge.rw_comesapart_k81_programs_read_and_checked.prog) (w:=w) (base:=base) T
 have G_l_name_changed:=ok_l_name_changed (P:=PySem.Challenge.rw_comesapart_k81_programs_read_and_checked.prog) (w:=w) (base:=base) T
 have G_l_fun_changed:=ok_l_fun_changed (P:=PySem.Challenge.rw_comesapart_k81_programs_read_and_checked.prog) (w:=w) (base:=base) T
 have G_l_use_changed:=ok_l_use_changed (P:=PySem.Challenge.rw_comesapart_k81_programs_read_and_checked.prog) (w:=w) (base:=base) T
 have G_l_changed:=ok_l_changed (P:=PySem.Challenge.rw_comesapart_k81_programs_read_and_checked.prog) (w:=w) (base:=base) T G_l_pick G_l_name_changed G_l_fun_changed G_l_use_changed
 have G_l_text_changed:=ok_l_text_changed (P:=PySem.Challenge.rw_comesapart_k81_programs_read_and_checked.prog) (w:=w) (base:=base) T G_l_pick
 have G_law:=ok_law (P:=PySem.Challenge.rw_comesapart_k81_programs_read_and_checked.prog) (w:=w) (base:=base) T G_l_cell G_l_draws G_l_pick G_l_distinct G_l_program G_l_program_right G_l_chain G_l_fault G_l_changed G_l_written G_l_text_changed G_l_text_right
 exact G_law
end K81
open PySem PySem.W PyProof.Rows
set_option maxRecDepth 100000 in
set_option maxHeartbeats 0 in
theorem PySem.Challenge.cw_comesapart_k81_programs_read_and_checked_holds : PySem.Challenge.rw_comesapart_k81_programs_read_and_checked.Holds := by
 w_on;o_law
 refine holds_open (q:=HS.qq) (loose:=HS.lz) (Xt:=HS.xt) (XP:=XL HS.qq []) (Yf:=Hook.obs (kHook HS.pre.heap_39 HS.as HS.ek)) (Ya:=Hook.val (kHook HS.pre.heap_39 HS.as HS.ek)) (YP:=Hook.says (kHook HS.pre.heap_39 HS.as HS.ek)) (N:=20700) HS.left (Hook.of (kHook HS.pre.heap_39 HS.as HS.ek)) (Hook.keeps (kHook HS.pre.heap_39 HS.as HS.ek)) (fun s e=>xl_of s (Bool.and_eq_true_iff.mp e).1) XL.keeps (by rfl) (by rfl) (by rfl) (fun s e=>recFacts_of (Bool.and_eq_true_iff.mp e).2) (by rfl) (by first | assumption | decide +kernel) (by decide +kernel) ⟨rfl,rfl,rfl,rfl,rfl,by decide +kernel⟩ ?hw ?hc
 case hw=>w_witness2
 k_fill
 refine L2.walk_of (l:=PySem.Challenge.rw_comesapart_k81_programs_read_and_checked) (n:=63) (k:=109) (x:="_law_script") (CX:=fun _=>L2.CX0) (sp:=fun w=>K81.sp_law ⟨PySem.Challenge.rw_comesapart_k81_programs_read_and_checked.prog,w,_⟩) rfl (by decide) rfl ⟨rfl,by decide,by decide⟩ (fun w h Y=>PySem.W.kIn_of Y) ?F (fun w _ a ns hl _ hS=>⟨⟨ns⟩,K81.law_plain ns hl,G.Fn.script hS⟩) (fun _ _ _ _ _ h=>h)
 case F =>
  intro w mg fa h KX G hmg
  refine' K81.all_mk KX G hmg ?q0 ?q1 ?q2 ?q3 ?q4 ?q5 ?q6 ?q7 ?q8 ?q9 ?q10 ?q11 ?q12 ?q13 ?q14 ?q15 ?q16 ?q17 ?q18 ?q19 ?q20 ?q21 ?q22 ?q23 ?q24 ?q25 ?q26 ?q27 ?q28 ?q29 ?q30 ?q31 ?q32 ?q33 ?q34 ?q35 ?q36 ?q37 ?q38 ?q39 ?q40 ?q41 ?q42 ?q43 ?q44 ?q45 ?q46 ?q47 ?q48 ?q49 ?q50 ?q51 ?q52 ?q53 ?q54 ?q55 ?q56 ?q57 ?q58 ?q59 ?q60 ?q61 ?q62 ?q63 ?q64 ?q65 ?q66 ?q67 ?q68 ?q69 ?q70 ?q71 ?q72 ?q73 ?q74 ?q75 ?q76 ?q77 ?q78 ?q79 ?q80 ?q81 ?q82 ?q83 ?q84 ?q85 ?q86 ?q87 ?q88 ?q89 ?q90 ?q91 ?q92 ?q93 ?q94 ?q95 ?q96 ?q97 ?q98 ?q99 ?q100 ?q101 ?q102 ?q103 ?q104 ?q105 ?q106 ?q107 ?q108 ?q109 ?q110 ?q111 ?q112 ?q113 ?q114 ?q115 ?q116 ?q117 ?q118 ?q119 ?q120 ?q121 ?q122 ?q123 ?q124 ?q125 ?q126 ?q127 ?q128 ?q129 ?q130 ?q131 ?q132 ?q133 ?q134 ?q135 ?q136 ?q137 ?q138 ?q139 ?q140 ?q141 ?q142 ?q143 ?q144 ?q145 ?q146 ?q147 ?q148 ?q149 ?q150 ?q151 ?q152 ?q153 ?q154 ?q155 ?q156 ?q157 ?q158 ?q159 ?q160 ?q161 ?q162 ?q163 ?q164 ?q165 ?q166 ?q167 ?q168 ?q169 ?q170 ?q171 ?q172 ?q173 ?q174 ?q175 ?q176 ?q177 ?q178 ?q179 ?q180 ?q181 ?q182 ?q183 ?q184 ?q185 ?q186 ?q187 ?q188 ?q189 ?q190 ?q191 ?q192 ?q193 ?q194 ?q195 ?q196 ?q197 ?q198 ?q199 ?q200 ?q201 ?q202 ?q203 ?q204 ?q205 ?q206 ?q207 ?q208 ?q209 ?q210 ?q211 ?q212 ?q213 ?q214 ?q215 ?q216 ?q217 ?q218 ?q219 ?q220 ?q221 ?q222 ?q223 ?q224 ?q225 ?q226 ?q227 ?q228 ?q229 ?q230 ?q231 ?q232 ?q233 ?q234 ?q235 ?q236 ?q237 ?q238 ?q239 ?q240 ?q241 ?q242 ?q243 ?q244 ?q245 ?q246 ?q247 ?q248 ?q249 ?q250 ?q251 ?q252 ?q253 ?q254 ?q255 ?q256 ?q257 ?q258 ?q259 ?q260 ?q261 ?q262 ?q263 ?q264 ?q265 ?q266 ?q267 ?q268 ?q269 ?q270 ?q271 ?q272 ?q273 ?q274 ?q275 ?q276 ?q277 ?q278 ?q279 ?q280 ?q281 ?q282 ?q283 ?q284 ?q285 ?q286 ?q287 ?q288 ?q289 ?q290 ?q291 ?q292 ?q293 ?q294 ?q295 ?q296 ?q297 ?q298 ?q299 ?q300 ?q301 ?q302 ?q303 ?q304 ?q305 ?q306 ?q307 ?q308 ?q309 ?q310 ?q311 ?q312 ?q313 ?q314 ?q315 ?q316 ?q317 ?q318 ?q319 ?q320 ?q321 ?q322 ?q323 ?q324 ?q325 ?q326 ?q327 ?q328 ?q329 ?q330 ?q331 ?q332 ?q333 ?q334 ?q335 ?q336 ?q337 ?q338 ?q339 ?q340 ?q341 ?q342 ?q343 ?q344 ?q345 ?q346 ?q347 ?q348 ?q349 ?q350 ?q351 ?q352 ?q353 ?q354 ?q355 ?q356 ?q357 ?q358 ?q359 ?q360 ?q361 ?q362 ?q363 ?q364 ?q365 ?q366 ?q367 ?q368 ?q369 ?q370 ?q371 ?q372 ?q373 ?q374 ?q375 ?q376 ?q377 ?q378 ?q379 ?q380 ?q381 ?q382 ?q383 ?q384 ?q385 ?q386 ?q387 ?q388 ?q389 ?q390 ?q391 ?q392 ?q393 ?q394 ?q395 ?q396 ?q397 ?q398 ?q399 ?q400 ?q401 ?q402 ?q403 ?q404 ?q405 ?q406 ?q407 ?q408 ?q409 ?q410 ?q411 ?q412 ?q413 ?q414 ?q415 ?q416 ?q417 ?q418 ?q419 ?q420 ?q421 ?q422 ?q423 ?q424 ?q425 ?q426 ?q427 ?q428 ?q429 ?q430 ?q431 ?q432 ?q433 ?q434 ?q435 ?q436 ?q437 ?q438 ?q439 ?q440 ?q441 ?q442 ?q443 ?q444 ?q445 ?q446 ?q447 ?q448 ?q449 ?q450 ?q451 ?q452 ?q453 ?q454 ?q455 ?q456 ?q457 ?q458 ?q459 ?q460 ?q461 ?q462 ?q463 ?q464 ?q465 ?q466 ?q467 ?q468 ?q469 ?q470 ?q471 ?q472 ?q473 ?q474 ?q475 ?q476 ?q477 ?q478 ?q479 ?q480 ?q481 ?q482 ?q483 ?q484 ?q485
  (case q0=>k_is)
  (case q1=>k_is)
  (case q2=>k_is)
  (case q3=>k_is)
  (case q4=>k_is)
  (case q5=>k_is)
  (case q6=>k_is)
  (case q7=>k_is)
  (case q8=>k_is)
  (case q9=>k_is)
  (case q10=>k_is)
  (case q11=>k_is)
  (case q12=>k_is)
  (case q13=>k_is)
  (case q14=>k_is)
  (case q15=>k_is)
  (case q16=>k_is)
  (case q17=>k_is)
  (case q18=>k_is)
  (case q19=>k_is)
  (case q20=>k_is)
  (case q21=>k_is)
  (case q22=>k_is)
  (case q23=>k_is)
  (case q24=>k_is)
  (case q25=>k_is)
  (case q26=>k_is)
  (case q27=>k_is)
  (case q28=>k_is)
  (case q29=>k_is)
  (case q30=>k_is)
  (case q31=>k_is)
  (case q32=>k_is)
  (case q33=>k_is)
  (case q34=>k_is)
  (case q35=>k_is)
  (case q36=>k_is)
  (case q37=>k_is)
  (case q38=>k_is)
  (case q39=>k_is)
  (case q40=>k_is)
  (case q41=>k_is)
  (case q42=>k_is)
  (case q43=>k_is)
  (case q44=>k_is)
  (case q45=>k_is)
  (case q46=>k_is)
  (case q47=>k_is)
  (case q48=>k_is)
  (case q49=>k_is)
  (case q50=>k_is)
  (case q51=>k_is)
  (case q52=>k_is)
  (case q53=>k_is)
  (case q54=>k_is)
  (case q55=>k_is)
  (case q56=>k_is)
  (case q57=>k_is)
  (case q58=>k_is)
  (case q59=>k_is)
  (case q60=>k_is)
  (case q61=>k_is)
  (case q62=>k_is)
  (case q63=>k_is)
  (case q64=>k_is)
  (case q65=>k_is)
  (case q66=>k_is)
  (case q67=>k_is)
  (case q68=>k_is)
  (case q69=>k_is)
  (case q70=>k_is)
  (case q71=>k_is)
  (case q72=>k_is)
  (case q73=>k_is)
  (case q74=>k_is)
  (case q75=>k_is)
  (case q76=>k_is)
  (case q77=>k_is)
  (case q78=>k_is)
  (case q79=>k_is)
  (case q80=>k_is)
  (case q81=>k_is)
  (case q82=>k_is)
  (case q83=>k_is)
  (case q84=>k_is)
  (case q85=>k_is)
  (case q86=>k_is)
  (case q87=>k_is)
  (case q88=>k_is)
  (case q89=>k_is)
  (case q90=>k_is)
  (case q91=>k_is)
  (case q92=>k_is)
  (case q93=>k_is)
  (case q94=>k_is)
  (case q95=>k_is)
  (case q96=>k_is)
  (case q97=>k_is)
  (case q98=>k_is)
  (case q99=>k_is)
  (case q100=>k_is)
  (case q101=>k_is)
  (case q102=>k_is)
  (case q103=>k_is)
  (case q104=>k_is)
  (case q105=>k_is)
  (case q106=>k_is)
  (case q107=>k_is)
  (case q108=>k_is)
  (case q109=>k_is)
  (case q110=>k_is)
  (case q111=>k_is)
  (case q112=>k_is)
  (case q113=>k_is)
  (case q114=>k_is)
  (case q115=>k_is)
  (case q116=>k_is)
  (case q117=>k_is)
  (case q118=>k_is)
  (case q119=>k_is)
  (case q120=>k_is)
  (case q121=>k_is)
  (case q122=>k_is)
  (case q123=>k_is)
  (case q124=>k_is)
  (case q125=>k_is)
  (case q126=>k_is)
  (case q127=>k_is)
  (case q128=>k_is)
  (case q129=>k_is)
  (case q130=>k_is)
  (case q131=>k_is)
  (case q132=>k_is)
  (case q133=>k_is)
  (case q134=>k_is)
  (case q135=>k_is)
  (case q136=>k_is)
  (case q137=>k_is)
  (case q138=>k_is)
  (case q139=>k_is)
  (case q140=>k_is)
  (case q141=>k_is)
  (case q142=>decide +kernel)
  (case q143=>k_is)
  (case q144=>k_is)
  (case q145=>k_is)
  (case q146=>k_is)
  (case q147=>k_is)
  (case q148=>k_is)
  (case q149=>ks_is)
  (case q150=>k_is)
  (case q151=>k_is)
  (case q152=>k_is)
  (case q153=>k_is)
  (case q154=>k_is)
  (case q155=>k_is)
  (case q156=>k_is)
  (case q157=>rfl)
  (case q158=>decide +kernel)
  (case q159=>k_is)
  (case q160=>k_is)
  (case q161=>decide +kernel)
  (case q162=>k_is)
  (case q163=>k_is)
  (case q164=>k_is)
  (case q165=>k_is)
  (case q166=>k_is)
  (case q167=>k_is)
  (case q168=>ks_is)
  (case q169=>k_is)
  (case q170=>k_is)
  (case q171=>k_is)
  (case q172=>k_is)
  (case q173=>k_is)
  (case q174=>k_is)
  (case q175=>k_is)
  (case q176=>rfl)
  (case q177=>decide +kernel)
  (case q178=>k_is)
  (case q179=>k_is)
  (case q180=>decide +kernel)
  (case q181=>k_is)
  (case q182=>k_is)
  (case q183=>k_is)
  (case q184=>k_is)
  (case q185=>k_is)
  (case q186=>k_is)
  (case q187=>ks_is)
  (case q188=>k_is)
  (case q189=>k_is)
  (case q190=>k_is)
  (case q191=>k_is)
  (case q192=>k_is)
  (case q193=>k_is)
  (case q194=>k_is)
  (case q195=>rfl)
  (case q196=>decide +kernel)
  (case q197=>k_is)
  (case q198=>k_is)
  (case q199=>decide +kernel)
  (case q200=>k_is)
  (case q201=>k_is)
  (case q202=>k_is)
  (case q203=>k_is)
  (case q204=>k_is)
  (case q205=>k_is)
  (case q206=>ks_is)
  (case q207=>k_is)
  (case q208=>k_is)
  (case q209=>k_is)
  (case q210=>k_is)
  (case q211=>k_is)
  (case q212=>k_is)
  (case q213=>k_is)
  (case q214=>rfl)
  (case q215=>decide +kernel)
  (case q216=>k_is)
  (case q217=>k_is)
  (case q218=>decide +kernel)
  (case q219=>k_is)
  (case q220=>k_is)
  (case q221=>k_is)
  (case q222=>k_is)
  (case q223=>k_is)
  (case q224=>k_is)
  (case q225=>ks_is)
  (case q226=>k_is)
  (case q227=>k_is)
  (case q228=>k_is)
  (case q229=>k_is)
  (case q230=>k_is)
  (case q231=>k_is)
  (case q232=>k_is)
  (case q233=>rfl)
  (case q234=>decide +kernel)
  (case q235=>k_is)
  (case q236=>k_is)
  (case q237=>decide +kernel)
  (case q238=>k_is)
  (case q239=>k_is)
  (case q240=>k_is)
  (case q241=>k_is)
  (case q242=>k_is)
  (case q243=>k_is)
  (case q244=>ks_is)
  (case q245=>k_is)
  (case q246=>k_is)
  (case q247=>k_is)
  (case q248=>k_is)
  (case q249=>k_is)
  (case q250=>k_is)
  (case q251=>k_is)
  (case q252=>rfl)
  (case q253=>decide +kernel)
  (case q254=>k_is)
  (case q255=>k_is)
  (case q256=>decide +kernel)
  (case q257=>k_is)
  (case q258=>k_is)
  (case q259=>k_is)
  (case q260=>k_is)
  (case q261=>k_is)
  (case q262=>k_is)
  (case q263=>ks_is)
  (case q264=>k_is)
  (case q265=>k_is)
  (case q266=>k_is)
  (case q267=>k_is)
  (case q268=>k_is)
  (case q269=>k_is)
  (case q270=>k_is)
  (case q271=>rfl)
  (case q272=>decide +kernel)
  (case q273=>k_is)
  (case q274=>k_is)
  (case q275=>k_is)
  (case q276=>k_is)
  (case q277=>k_is)
  (case q278=>k_is)
  (case q279=>k_is)
  (case q280=>k_is)
  (case q281=>k_is)
  (case q282=>k_is)
  (case q283=>k_is)
  (case q284=>k_is)
  (case q285=>k_is)
  (case q286=>k_is)
  (case q287=>k_is)
  (case q288=>k_is)
  (case q289=>k_is)
  (case q290=>k_is)
  (case q291=>k_is)
  (case q292=>k_is)
  (case q293=>k_is)
  (case q294=>k_is)
  (case q295=>k_is)
  (case q296=>k_is)
  (case q297=>k_is)
  (case q298=>k_is)
  (case q299=>k_is)
  (case q300=>k_is)
  (case q301=>k_is)
  (case q302=>k_is)
  (case q303=>k_is)
  (case q304=>k_is)
  (case q305=>k_is)
  (case q306=>k_is)
  (case q307=>k_is)
  (case q308=>k_is)
  (case q309=>k_is)
  (case q310=>k_is)
  (case q311=>k_is)
  (case q312=>k_is)
  (case q313=>k_is)
  (case q314=>k_is)
  (case q315=>k_is)
  (case q316=>k_is)
  (case q317=>k_is)
  (case q318=>k_is)
  (case q319=>k_is)
  (case q320=>k_is)
  (case q321=>k_is)
  (case q322=>k_is)
  (case q323=>k_is)
  (case q324=>k_is)
  (case q325=>k_is)
  (case q326=>k_is)
  (case q327=>k_is)
  (case q328=>k_is)
  (case q329=>k_is)
  (case q330=>k_is)
  (case q331=>k_is)
  (case q332=>k_is)
  (case q333=>k_is)
  (case q334=>k_is)
  (case q335=>k_is)
  (case q336=>k_is)
  (case q337=>k_is)
  (case q338=>k_is)
  (case q339=>k_is)
  (case q340=>k_is)
  (case q341=>k_is)
  (case q342=>k_is)
  (case q343=>k_is)
  (case q344=>k_is)
  (case q345=>k_is)
  (case q346=>k_is)
  (case q347=>k_is)
  (case q348=>k_is)
  (case q349=>k_is)
  (case q350=>k_is)
  (case q351=>k_is)
  (case q352=>k_is)
  (case q353=>k_is)
  (case q354=>k_is)
  (case q355=>k_is)
  (case q356=>k_is)
  (case q357=>k_is)
  (case q358=>k_is)
  (case q359=>k_is)
  (case q360=>k_is)
  (case q361=>k_is)
  (case q362=>k_is)
  (case q363=>k_is)
  (case q364=>k_is)
  (case q365=>k_is)
  (case q366=>k_is)
  (case q367=>k_is)
  (case q368=>k_is)
  (case q369=>k_is)
  (case q370=>k_is)
  (case q371=>k_is)
  (case q372=>k_is)
  (case q373=>k_is)
  (case q374=>k_is)
  (case q375=>k_is)
  (case q376=>k_is)
  (case q377=>k_is)
  (case q378=>k_is)
  (case q379=>k_is)
  (case q380=>k_is)
  (case q381=>k_is)
  (case q382=>k_is)
  (case q383=>k_is)
  (case q384=>k_is)
  (case q385=>k_is)
  (case q386=>k_is)
  (case q387=>k_is)
  (case q388=>k_is)
  (case q389=>k_is)
  (case q390=>k_is)
  (case q391=>k_is)
  (case q392=>k_is)
  (case q393=>k_is)
  (case q394=>k_is)
  (case q395=>k_is)
  (case q396=>k_is)
  (case q397=>k_is)
  (case q398=>k_is)
  (case q399=>k_is)
  (case q400=>k_is)
  (case q401=>k_is)
  (case q402=>k_is)
  (case q403=>k_is)
  (case q404=>k_is)
  (case q405=>k_is)
  (case q406=>k_is)
  (case q407=>k_is)
  (case q408=>k_is)
  (case q409=>k_is)
  (case q410=>k_is)
  (case q411=>k_is)
  (case q412=>k_is)
  (case q413=>k_is)
  (case q414=>k_is)
  (case q415=>k_is)
  (case q416=>k_is)
  (case q417=>k_is)
  (case q418=>k_is)
  (case q419=>k_is)
  (case q420=>k_is)
  (case q421=>k_is)
  (case q422=>k_is)
  (case q423=>k_is)
  (case q424=>k_is)
  (case q425=>k_is)
  (case q426=>decide)
  (case q427=>decide)
  (case q428=>decide)
  (case q429=>decide)
  (case q430=>decide)
  (case q431=>decide)
  (case q432=>decide)
  (case q433=>decide)
  (case q434=>decide)
  (case q435=>decide)
  (case q436=>decide)
  (case q437=>decide)
  (case q438=>decide)
  (case q439=>decide)
  (case q440=>decide)
  (case q441=>decide)
  (case q442=>decide)
  (case q443=>decide)
  (case q444=>decide)
  (case q445=>decide)
  (case q446=>decide)
  (case q447=>decide)
  (case q448=>decide)
  (case q449=>decide)
  (case q450=>decide)
  (case q451=>decide)
  (case q452=>decide)
  (case q453=>decide)
  (case q454=>decide)
  (case q455=>decide)
  (case q456=>decide)
  (case q457=>decide)
  (case q458=>decide)
  (case q459=>decide)
  (case q460=>decide)
  (case q461=>decide)
  (case q462=>decide)
  (case q463=>decide)
  (case q464=>decide)
  (case q465=>decide)
  (case q466=>decide)
  (case q467=>decide)
  (case q468=>k_is)
  (case q469=>k_is)
  (case q470=>k_is)
  (case q471=>k_is)
  (case q472=>k_is)
  (case q473=>k_is)
  (case q474=>k_is)
  (case q475=>k_is)
  (case q476=>k_is)
  (case q477=>k_is)
  (case q478=>k_is)
  (case q479=>k_is)
  (case q480=>k_is)
  (case q481=>k_is)
  (case q482=>k_is)
  (case q483=>k_is)
  (case q484=>k_is)
  (case q485=>k_is)
