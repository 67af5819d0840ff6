import PyProof.Rows.All
import Wide.All
import OpenK.AllK
import Wide.FinOn
import HandS.ForMost
import HandS.DictComp
import HandS.Strs
import HandS.IsInst
import HandS.SortInts
import KE.DataEq
import HandS.Wide
import HandS.Conv
import HandS.ExcOwn
import HandS.ExcInit
import HandS.ExcField
import HandS.ExcIs
import HandS.ExcSuper
import HandS.TryOnly
import HandS.TryMany
import HandS.Property
import HandS.ClsMeth
import HandS.OwnEq
import KE.KExcSuper
import HandS.Nested
import HandS.WordsExc
import KE.KExcIs
import KE.GoesMore
import HandS.TupAny
import HandS.Deep
import HandS.More
import HandS.SetKeys
import HandS.Star
import HandS.SetBool
import HandS.Flow
import HandS.SetFor
import HandS.Style
import HandS.Walk
import PyProof.InstEq
import KE.KOwnIter
import HandS.IterVal
import HandS.HotCalls
import HandS.TupSets
import KE.KTryMore
import HandS.OwnIter
import KE.SortCalls
import KE.SortData
import KE.DataCmp
import KE.KRevSl
import HandS.SortKw
import KE.DataMinMax
import HandS.TupLen
import KE.KDictSum
import HandS.Defaults
import HandS.FStr
import PyProof.FString3
import PyProof.StrOps2
import PyProof.Rows.StrIntSpec
import PyProof.Rows.Range3
import HandS.Records
import PyProof.ListMulRoad
import PyProof.TwoTypes
import PyProof.Rows.MatchSeqLen
import KE.KDictList
import HandS.Sort
import KE.KDictDisplayH
import HandS.Zip
import HandS.Text
import HandS.Iter
import HandS.NoneIn
import KE.RegKSuper
import PySem.Challenge.RW_comesapart_k79_written_kinds
set_option Elab.async false
set_option linter.all false
set_option maxRecDepth 100000
section
set_option maxHeartbeats 4000000
/-! G0: rules that the layer lacks: a name takes a dict comprehension. -/
namespace L2
open PySem PySem.Spec PyProof.Rows
section
variable {X : Cx}
/-! the same rules over a written part that bears a name (K, w): within a comprehension's block the context is another, K and w are not -/
section
variable (K : PySem.W.Frag) (w : World)
theorem ix_lK (h : X.K = K := by rfl) : IxR X (rIxL K) := h ▸ ix_list
theorem ix_qK (h : X.K = K := by rfl) : IxR X (rIx K) := h ▸ ix_seq
theorem len_K (h : X.K = K := by rfl) : CallR X (.builtin "len") (fun xs H Q => ∃ p ys, xs = [.ref p] ∧ (SqL K H p ys ∨ SqT K H p ys) ∧ Q (.int ys.length) H) := h ▸ call_len_seq
theorem list_K (h : X.K = K := by rfl) : CallR X (.type "list") (fun xs H Q => ∃ p ys, xs = [.ref p] ∧ (SqL K H p ys ∨ SqT K H p ys) ∧ ∀ l, H l = none → Q (.ref l) (upd H l (.lst ys))) := h ▸ call_list_of
theorem all_K (hc : X.calm = true) (h : X.K = K := by rfl) : CallR X (.builtin "all") (rAll K) := h ▸ cr_all hc
/-- data without dicts, not too deep -/
def shP (d : PyData) : Bool := d.plain && decide (d.depth ≤ 64)
def rEqP (K : PySem.W.Frag) : R2 := fun x y H Q => ∃ d e, Dp K H x d ∧ Dp K H y e ∧ shP d = true ∧ shP e = true ∧ Q (.bl (PyData.eqv d e)) H
def rNeP (K : PySem.W.Frag) : R2 := fun x y H Q => ∃ d e, Dp K H x d ∧ Dp K H y e ∧ shP d = true ∧ shP e = true ∧ Q (.bl (!PyData.eqv d e)) H
theorem op_eqDK (hu : X.A.units + 64 < cLine) (h : X.K = K := by rfl) : OpR X (compareOp .Eq) (rEqP K) := by
  subst h
  intro pins s σ H x y v u Q I rx ry ⟨d, e, hd, he, sd, se, q⟩
  obtain ⟨as, r1⟩ := Dp.reads I d x v hd rx
  obtain ⟨bs, r2⟩ := Dp.reads I e y u he ry
  simp only [shP, Bool.and_eq_true, decide_eq_true_eq] at sd se
  exact SeqAt.eq_plain r1 r2 sd.1 se.1 (by omega) ⟨.bl _, H, I, rfl, q⟩
theorem op_neDK (hu : X.A.units + 64 < cLine) (h : X.K = K := by rfl) : OpR X (compareOp .NotEq) (rNeP K) := by
  subst h
  intro pins s σ H x y v u Q I rx ry ⟨d, e, hd, he, sd, se, q⟩
  obtain ⟨as, r1⟩ := Dp.reads I d x v hd rx
  obtain ⟨bs, r2⟩ := Dp.reads I e y u he ry
  simp only [shP, Bool.and_eq_true, decide_eq_true_eq] at sd se
  exact SeqAt.ne_plain r1 r2 sd.1 se.1 (by omega) ⟨.bl _, H, I, rfl, q⟩
theorem isi_K (h : X.K = K := by rfl) : CallR X (.builtin "isinstance") (rIsi K) := h ▸ call_isi
theorem pi_lK {tg l : Expr} {tl : TE} (hl : PE X l tl) (h : X.K = K := by rfl) : PI X tg l (iList K tl) := h ▸ pi_list hl
theorem truth_K {a : Expr} {ta : TE} (ha : PE X a ta) (he : ∀ whole, isTrue a X.env whole = (do let v ← whole; standAt a.pos; holding [v] (truthy v))) (h : X.K = K := by rfl) :
    PT X a (fun σ H Q => ta σ H fun x H' => ∃ k, TruV K x H' k ∧ Q k H') := h ▸ pt_truth ha he
theorem bm0_K {o : Expr} {to : TE} {name : Str} {apos cpos : Pos} {T id : String} {r : V → List V → Hp → VK → Prop} (pa : PlainAttrs T) (slot : Slot T name id) (hty : typeOf (.builtin id) = pure (.type "method_descriptor")) (hm : MtR X id r) (ho : PE X o to)
    (hbase : attributeBase o name X.env (eval o X.env) = eval o X.env := by rfl) (hline : (apos.endLine == cpos.line) = true := by rfl) (h : X.K = K := by rfl) : PE X (.Call (.Attribute o name apos) [] [] cpos) (tBM0 K T r to) := h ▸ pe_bm0 pa slot hty hm ho hbase hline
theorem bm_K {o e : Expr} {es : List Expr} {to : TE} {t : TA} {name : Str} {apos cpos : Pos} {T id : String} {r : V → List V → Hp → VK → Prop} (pa : PlainAttrs T) (slot : Slot T name id) (hty : typeOf (.builtin id) = pure (.type "method_descriptor")) (hm : MtR X id r) (ho : PE X o to) (ha : PA X (e :: es) t)
    (hbase : attributeBase o name X.env (eval o X.env) = eval o X.env := by rfl)
    (hfew : ((backTo cpos (starEach (e :: es) X.env)).all (fun x => !x.1) && (backToKw cpos (keywordEach [] X.env)).all (fun x => x.1.isSome)
      && decide ((e :: es).length + ([] : List Keyword).length + (if ([] : List Keyword).isEmpty then 0 else 1) < 30)) = true := by rfl)
    (hline : (apos.endLine == cpos.line) = true := by rfl) (hs : starEach (e :: es) X.env = (false, eval e X.env) :: starEach es X.env := by rfl) (hplain : (backTo cpos (starEach es X.env)).any (·.1) = false := by rfl) (h : X.K = K := by rfl) :
    PE X (.Call (.Attribute o name apos) (e :: es) [] cpos) (tBM K T r to t) := h ▸ pe_bm pa slot hty hm ho ha hbase hfew hline hs hplain
end
end
end L2
end

/-! G1: value environments over the hand layer. F: the frozen view of the heap (read only from now on), L: what is owned (may still be written). -/
namespace G
open PySem L2

structure GCtx where
  P : Program
  w : World
  K : PySem.W.Frag

abbrev LO := List (Addr × HO)

structure En where
  F0 : Hp
  H0 : Hp
  M : List Addr

structure Wk (e : En) (F : Hp) (L : LO) (H : Hp) : Prop where
  ff : Same e.F0 F
  hh : ∀ a o, a ∉ e.M → e.H0 a = some o → H a = some o
  th : ∀ a, e.H0 a ≠ none → H a ≠ none
  fh : Same F H
  nw : ∀ a, e.H0 a ≠ none → e.F0 a = none → F a = none
  tp : ∀ a xs, H a = some (.tup xs) → F a = some (.tup xs)
  ow : ∀ p ∈ L, F p.1 = none ∧ H p.1 = some p.2 ∧ (e.H0 p.1 = none ∨ p.1 ∈ e.M)
  nd : (L.map Prod.fst).Nodup

/-- the heap has grown, nothing that stood has changed -/
abbrev Gr (F H F' H' : Hp) : Prop := Wk ⟨F, H, []⟩ F' [] H'

theorem ne_some {α : Type} {x : Option α} {y : α} (h : x = some y) : x ≠ none := fun z => by rw [z] at h; cases h

theorem Wk.base {e : En} {F : Hp} {L : LO} {H : Hp} (k : Wk e F L H) : Gr F H F H :=
  ⟨Same.refl _, fun _ _ _ h => h, fun _ h => h, k.fh, fun _ _ h => h, k.tp, fun _ h => (nomatch h), List.nodup_nil⟩

theorem Wk.trans {e : En} {F F' : Hp} {L L' : LO} {H H' : Hp} (a : Wk e F L H) (b : Wk ⟨F, H, []⟩ F' L' H') : Wk e F' (L' ++ L) H' where
  ff := a.ff.trans b.ff
  hh := fun x o hx h => b.hh x o (fun z => nomatch z) (a.hh x o hx h)
  th := fun x h => b.th x (a.th x h)
  fh := b.fh
  nw := fun x h h' => b.nw x (a.th x h) (a.nw x h h')
  tp := b.tp
  ow := fun p hp => by
    rcases List.mem_append.mp hp with hp | hp
    · obtain ⟨h1, h2, h3⟩ := b.ow p hp
      refine ⟨h1, h2, .inl ?_⟩
      rcases h3 with h3 | h3
      · cases q : e.H0 p.1 with
        | none => rfl
        | some o => exact absurd h3 (a.th p.1 (ne_some q))
      · exact nomatch h3
    · obtain ⟨h1, h2, h3⟩ := a.ow p hp
      exact ⟨b.nw p.1 (ne_some h2) h1, b.hh p.1 p.2 (fun z => nomatch z) h2, h3⟩
  nd := by
    rw [List.map_append]
    refine List.nodup_append.mpr ⟨b.nd, a.nd, fun x hx y hy z => ?_⟩
    obtain ⟨p, hp, rfl⟩ := List.mem_map.mp hx
    obtain ⟨q, hq, rfl⟩ := List.mem_map.mp hy
    obtain ⟨_, _, h3⟩ := b.ow p hp
    obtain ⟨_, h2, _⟩ := a.ow q hq
    rcases h3 with h3 | h3
    · have h4 : H q.1 = none := (show p.1 = q.1 from z) ▸ (show H p.1 = none from h3)
      rw [h2] at h4
      cases h4
    · exact nomatch h3

theorem Wk.trans0 {e : En} {F F' : Hp} {L : LO} {H H' : Hp} (a : Wk e F L H) (b : Gr F H F' H') : Wk e F' L H' := a.trans b

/-- a part of what is owned may be forgotten; the order is nothing -/
theorem Wk.sub {e : En} {F : Hp} {L L' : LO} {H : Hp} (a : Wk e F L H) (hs : ∀ p ∈ L', p ∈ L) (hn : (L'.map Prod.fst).Nodup) : Wk e F L' H :=
  ⟨a.ff, a.hh, a.th, a.fh, a.nw, a.tp, fun p hp => a.ow p (hs p hp), hn⟩

theorem nodup_part {L1 Li L2 : LO} (h : ((L1 ++ Li ++ L2).map Prod.fst).Nodup) : ((L1 ++ L2).map Prod.fst).Nodup := by
  simp only [List.map_append] at h ⊢
  have h1 := List.nodup_append.mp h
  have h2 := List.nodup_append.mp h1.1
  exact List.nodup_append.mpr ⟨h2.1, h1.2.1, fun x hx y hy => h1.2.2 x (List.mem_append_left _ hx) y hy⟩
theorem Wk.drop {e : En} {F : Hp} {L1 Li L2 : LO} {H : Hp} (a : Wk e F (L1 ++ Li ++ L2) H) : Wk e F (L1 ++ L2) H :=
  a.sub (fun p hp => by
    rcases List.mem_append.mp hp with h | h
    · exact List.mem_append_left _ (List.mem_append_left _ h)
    · exact List.mem_append_right _ h) (nodup_part a.nd)
theorem nodup_mid {L1 Li L2 : LO} (h : ((L1 ++ Li ++ L2).map Prod.fst).Nodup) : ((Li ++ (L1 ++ L2)).map Prod.fst).Nodup := by
  simp only [List.map_append] at h ⊢
  refine (List.Perm.nodup_iff ?_).mp h
  rw [← List.append_assoc]
  exact List.Perm.append_right _ List.perm_append_comm
theorem nodup_back {L1 Li L2 : LO} (h : ((Li ++ (L1 ++ L2)).map Prod.fst).Nodup) : ((L1 ++ Li ++ L2).map Prod.fst).Nodup := by
  simp only [List.map_append] at h ⊢
  refine (List.Perm.nodup_iff ?_).mp h
  rw [← List.append_assoc]
  exact List.Perm.append_right _ List.perm_append_comm
theorem Wk.front {e : En} {F : Hp} {L1 Li L2 : LO} {H : Hp} (a : Wk e F (L1 ++ Li ++ L2) H) : Wk e F (Li ++ (L1 ++ L2)) H :=
  a.sub (fun p hp => by simp only [List.mem_append] at hp ⊢; rcases hp with h | h | h <;> simp [h]) (nodup_mid a.nd)
theorem Wk.back {e : En} {F : Hp} {L1 Li L2 : LO} {H : Hp} (a : Wk e F (Li ++ (L1 ++ L2)) H) : Wk e F (L1 ++ Li ++ L2) H :=
  a.sub (fun p hp => by simp only [List.mem_append] at hp ⊢; rcases hp with (h | h) | h <;> simp [h]) (nodup_back a.nd)

/-- a new object, owned -/
theorem Wk.own {e : En} {F : Hp} {L : LO} {H : Hp} {p : Addr} {o : HO} (a : Wk e F L H) (hp : H p = none) (ht : ∀ xs, o ≠ .tup xs) : Wk e F ((p, o) :: L) (upd H p o) where
  ff := a.ff
  hh := fun x u hx h => by rw [upd_ne (ne_of_none (a.hh x u hx h) hp)]; exact a.hh x u hx h
  th := fun x h => by
    by_cases hx : x = p
    · subst hx; rw [upd_same]; exact fun z => nomatch z
    · rw [upd_ne hx]; exact a.th x h
  fh := fun x u h => by rw [upd_ne (ne_of_none (a.fh x u h) hp)]; exact a.fh x u h
  nw := a.nw
  tp := fun x xs h => by
    by_cases hx : x = p
    · subst hx; rw [upd_same] at h; exact absurd (Option.some.inj h) (ht xs)
    · rw [upd_ne hx] at h; exact a.tp x xs h
  ow := fun q hq => by
    rcases List.mem_cons.mp hq with rfl | hq
    · refine ⟨Same.free a.fh hp, upd_same, .inl ?_⟩
      cases z : e.H0 p with
      | none => rfl
      | some u => exact absurd hp (a.th p (ne_some z))
    · obtain ⟨h1, h2, h3⟩ := a.ow q hq
      exact ⟨h1, by rw [upd_ne (ne_of_none h2 hp)]; exact h2, h3⟩
  nd := by
    refine List.nodup_cons.mpr ⟨fun z => ?_, a.nd⟩
    obtain ⟨q, hq, e1⟩ := List.mem_map.mp z
    obtain ⟨_, h2, _⟩ := a.ow q hq
    rw [show q.1 = p from e1, hp] at h2
    cases h2

/-- what is owned is frozen -/
theorem Wk.freeze1 {e : En} {F : Hp} {L : LO} {H : Hp} {p : Addr} {o : HO} (a : Wk e F ((p, o) :: L) H) (hm : p ∉ e.M) : Wk e (upd F p o) L H where
  ff := fun x u h => by
    have h1 := (a.ow (p, o) List.mem_cons_self).1
    rw [upd_ne (ne_of_none (a.ff x u h) h1)]
    exact a.ff x u h
  hh := a.hh
  th := a.th
  fh := fun x u h => by
    by_cases hx : x = p
    · subst hx; rw [upd_same] at h; cases h
      exact (a.ow (x, o) List.mem_cons_self).2.1
    · rw [upd_ne hx] at h; exact a.fh x u h
  nw := fun x h h' => by
    have hx : x ≠ p := fun z => by
      subst z
      rcases (a.ow (x, o) List.mem_cons_self).2.2 with z | z
      · exact h z
      · exact hm z
    rw [upd_ne hx]; exact a.nw x h h'
  tp := fun x xs h => by
    by_cases hx : x = p
    · subst hx
      have h2 := (a.ow (x, o) List.mem_cons_self).2.1
      rw [upd_same, ← h2, h]
    · rw [upd_ne hx]; exact a.tp x xs h
  ow := fun q hq => by
    obtain ⟨h1, h2, h3⟩ := a.ow q (List.mem_cons_of_mem _ hq)
    have hx : q.1 ≠ p := fun z => (List.nodup_cons.mp a.nd).1 (List.mem_map.mpr ⟨q, hq, z⟩)
    exact ⟨by rw [upd_ne hx]; exact h1, h2, h3⟩
  nd := (List.nodup_cons.mp a.nd).2
/-- the owned L joins F -/
def plus (F : Hp) : LO → Hp
  | [] => F
  | p :: L => plus (upd F p.1 p.2) L
theorem Wk.freeze : ∀ {Li L : LO} {e : En} {F : Hp} {H : Hp}, Wk e F (Li ++ L) H → (∀ p ∈ Li, p.1 ∉ e.M) → Wk e (plus F Li) L H
  | [], _, _, _, _, a, _ => a
  | p :: Li, L, e, F, H, a, hm => Wk.freeze (Li := Li) (Wk.freeze1 (p := p.1) (o := p.2) a (hm p List.mem_cons_self)) fun q hq => hm q (List.mem_cons_of_mem _ hq)
theorem same_plus : ∀ {Li : LO} {F : Hp}, (∀ p ∈ Li, F p.1 = none) → (Li.map Prod.fst).Nodup → Same F (plus F Li)
  | [], F, _, _ => Same.refl F
  | p :: Li, F, h, hn => by
    have h1 : Same F (upd F p.1 p.2) := fun x u e => by rw [upd_ne (ne_of_none e (h p List.mem_cons_self))]; exact e
    refine h1.trans (same_plus (fun q hq => ?_) (List.nodup_cons.mp hn).2)
    have hx : q.1 ≠ p.1 := fun z => (List.nodup_cons.mp hn).1 (List.mem_map.mpr ⟨q, hq, z⟩)
    rw [upd_ne hx]
    exact h q (List.mem_cons_of_mem _ hq)
theorem plus_get : ∀ {Li : LO} {F : Hp}, (∀ p ∈ Li, F p.1 = none) → (Li.map Prod.fst).Nodup → ∀ p ∈ Li, plus F Li p.1 = some p.2
  | [], _, _, _, _, hq => nomatch hq
  | p :: Li, F, h, hn, q, hq => by
    have hb : ∀ r ∈ Li, upd F p.1 p.2 r.1 = none := fun r hr => by
      have hx : r.1 ≠ p.1 := fun z => (List.nodup_cons.mp hn).1 (List.mem_map.mpr ⟨r, hr, z⟩)
      rw [upd_ne hx]
      exact h r (List.mem_cons_of_mem _ hr)
    rcases List.mem_cons.mp hq with rfl | hq
    · exact same_plus hb (List.nodup_cons.mp hn).2 q.1 q.2 upd_same
    · exact plus_get (Li := Li) hb (List.nodup_cons.mp hn).2 q hq

/-- a new object, frozen at once -/
theorem Wk.lay {e : En} {F : Hp} {L : LO} {H : Hp} {p : Addr} {o : HO} (a : Wk e F L H) (hp : H p = none) : Wk e (upd F p o) L (upd H p o) where
  ff := fun x u h => by rw [upd_ne (ne_of_none (a.ff x u h) (Same.free a.fh hp))]; exact a.ff x u h
  hh := fun x u hx h => by rw [upd_ne (ne_of_none (a.hh x u hx h) hp)]; exact a.hh x u hx h
  th := fun x h => by
    by_cases hx : x = p
    · subst hx; rw [upd_same]; exact fun z => nomatch z
    · rw [upd_ne hx]; exact a.th x h
  fh := fun x u h => by
    by_cases hx : x = p
    · subst hx; rw [upd_same] at h ⊢; exact h
    · rw [upd_ne hx] at h ⊢; exact a.fh x u h
  nw := fun x h h' => by
    have hx : x ≠ p := fun z => by subst z; exact a.th x h hp
    rw [upd_ne hx]; exact a.nw x h h'
  tp := fun x xs h => by
    by_cases hx : x = p
    · subst hx; rw [upd_same] at h ⊢; exact h
    · rw [upd_ne hx] at h ⊢; exact a.tp x xs h
  ow := fun q hq => by
    obtain ⟨h1, h2, h3⟩ := a.ow q hq
    have hx : q.1 ≠ p := ne_of_none h2 hp
    exact ⟨by rw [upd_ne hx]; exact h1, by rw [upd_ne hx]; exact h2, h3⟩
  nd := a.nd
/-- an owned object is written -/
theorem Wk.put {e : En} {F : Hp} {L : LO} {H : Hp} {p : Addr} {o o' : HO} (a : Wk e F ((p, o) :: L) H) (ht : ∀ xs, o' ≠ .tup xs) : Wk e F ((p, o') :: L) (upd H p o') where
  ff := a.ff
  hh := fun x u hx h => by
    have hp : x ≠ p := fun z => by
      subst z
      rcases (a.ow (x, o) List.mem_cons_self).2.2 with z | z
      · rw [show e.H0 x = none from z] at h; cases h
      · exact hx z
    rw [upd_ne hp]; exact a.hh x u hx h
  th := fun x h => by
    by_cases hx : x = p
    · subst hx; rw [upd_same]; exact fun z => nomatch z
    · rw [upd_ne hx]; exact a.th x h
  fh := fun x u h => by
    rw [upd_ne (ne_of_none h (a.ow (p, o) List.mem_cons_self).1)]; exact a.fh x u h
  nw := a.nw
  tp := fun x xs h => by
    by_cases hx : x = p
    · subst hx; rw [upd_same] at h; exact absurd (Option.some.inj h) (ht xs)
    · rw [upd_ne hx] at h; exact a.tp x xs h
  ow := fun q hq => by
    rcases List.mem_cons.mp hq with rfl | hq
    · obtain ⟨h1, _, h3⟩ := a.ow (p, o) List.mem_cons_self
      exact ⟨h1, upd_same, h3⟩
    · obtain ⟨h1, h2, h3⟩ := a.ow q (List.mem_cons_of_mem _ hq)
      have hx : q.1 ≠ p := fun z => (List.nodup_cons.mp a.nd).1 (List.mem_map.mpr ⟨q, hq, z⟩)
      exact ⟨h1, by rw [upd_ne hx]; exact h2, h3⟩
  nd := by
    have h := a.nd
    exact h

/-! ### data -/
class Dat (α : Type) where
  rep : GCtx → Hp → V → α → Prop
  mono : ∀ {C : GCtx} {F F' : Hp} {v : V} {x : α}, Same F F' → rep C F v x → rep C F' v x
/-- data that may be owned: L is its footprint -/
class OD (α : Type) [d : Dat α] where
  orep : GCtx → Hp → V → α → LO → Prop
  omono : ∀ {C : GCtx} {F F' : Hp} {v : V} {x : α} {L : LO}, Same F F' → orep C F v x L → orep C F' v x L
  view : ∀ {C : GCtx} {F H : Hp} {v : V} {x : α} {L : LO}, orep C F v x L → Same F H → (∀ p ∈ L, H p.1 = some p.2) → d.rep C H v x
/-- data that no store can change -/
class Imm (α : Type) [d : Dat α] : Prop where
  imm : ∀ {C : GCtx} {F H : Hp} {v : V} {x : α}, (∀ a xs, H a = some (.tup xs) → F a = some (.tup xs)) → d.rep C H v x → d.rep C F v x

inductive Cell : Type 1 where
  | no : Cell
  | val {α : Type} (d : Dat α) (x : α) : Cell
  | own {α : Type} (d : Dat α) (od : OD α) (pin : Option V) (x : α) : Cell
abbrev cv {α : Type} [d : Dat α] (x : α) : Cell := .val d x
abbrev co {α : Type} [d : Dat α] [od : OD α] (x : α) : Cell := .own d od none x
def CellOk (C : GCtx) (F : Hp) (o : Option V) : Cell → LO → Prop
  | .no, L => L = []
  | .val d x, L => L = [] ∧ ∃ v, o = some v ∧ d.rep C F v x
  | .own _ od pin x, L => ∃ v, o = some v ∧ (∀ u, pin = some u → v = u) ∧ od.orep C F v x L
theorem CellOk.mono {C : GCtx} {F F' : Hp} {o : Option V} : ∀ {c : Cell} {L : LO}, Same F F' → CellOk C F o c L → CellOk C F' o c L
  | .no, _, _, h => h
  | .val d x, _, s, ⟨h, v, e, r⟩ => ⟨h, v, e, d.mono s r⟩
  | .own _ od pin x, _, s, ⟨v, e, p, r⟩ => ⟨v, e, p, od.omono s r⟩

inductive Slots (C : GCtx) (F : Hp) : St → List Cell → LO → Prop where
  | nil : Slots C F [] [] []
  | cons {o : Option V} {c : Cell} {L L' : LO} {σ : St} {Γ : List Cell} (h : CellOk C F o c L) (r : Slots C F σ Γ L') : Slots C F (o :: σ) (c :: Γ) (L ++ L')
theorem Slots.mono {C : GCtx} {F F' : Hp} {σ : St} {Γ : List Cell} {L : LO} (s : Same F F') (h : Slots C F σ Γ L) : Slots C F' σ Γ L := by
  induction h with
  | nil => exact .nil
  | cons h _ ih => exact .cons (h.mono s) ih
theorem Slots.len {C : GCtx} {F : Hp} {σ : St} {Γ : List Cell} {L : LO} (h : Slots C F σ Γ L) : σ.length = Γ.length := by
  induction h with
  | nil => rfl
  | cons h _ ih => simp [ih]
theorem Slots.get {C : GCtx} {F : Hp} {σ : St} {Γ : List Cell} {L : LO} (h : Slots C F σ Γ L) : ∀ {i : Nat} {c : Cell}, Γ[i]? = some c →
    ∃ o L1 Li L2, σ[i]? = some o ∧ L = L1 ++ Li ++ L2 ∧ CellOk C F o c Li ∧ ∀ F' o' c' Li', Same F F' → CellOk C F' o' c' Li' → Slots C F' (σ.set i o') (Γ.set i c') (L1 ++ Li' ++ L2) := by
  induction h with
  | nil => intro i c h; cases i <;> cases h
  | @cons o c0 L L' σ Γ h r ih =>
    intro i c hi
    cases i with
    | zero =>
      cases (Option.some.inj hi : c0 = c)
      exact ⟨o, [], L, L', rfl, rfl, h, fun F' o' c' Li' s h' => .cons h' (r.mono s)⟩
    | succ i =>
      obtain ⟨o1, L1, Li, L2, e1, e2, h1, f⟩ := ih (i := i) (c := c) hi
      refine ⟨o1, L ++ L1, Li, L2, e1, by rw [e2]; simp [List.append_assoc], h1, fun F' o' c' Li' s h' => ?_⟩
      have q := Slots.cons (h.mono s) (f F' o' c' Li' s h')
      simpa [List.append_assoc] using q
theorem Slots.take {C : GCtx} {F : Hp} {σ : St} {Γ : List Cell} {L : LO} (h : Slots C F σ Γ L) (n : Nat) : ∃ L1, Slots C F (σ.take n) (Γ.take n) L1 ∧ L1.Sublist L := by
  induction h generalizing n with
  | nil => exact ⟨[], by simpa using Slots.nil, List.Sublist.refl _⟩
  | @cons o c0 L L' σ Γ h r ih =>
    cases n with
    | zero => exact ⟨[], by simpa using Slots.nil, List.nil_sublist _⟩
    | succ n =>
      obtain ⟨L1, q, s⟩ := ih n
      exact ⟨L ++ L1, by simpa using Slots.cons h q, List.Sublist.append (List.Sublist.refl _) s⟩

/-- an exception: its class, its attributes -/
structure Exn where
  cls : Addr
  fs : Option (List (Str × V))
def Exn.at (x : Exn) (F : Hp) : Option Addr → Prop
  | none => x.fs = none
  | some dd => ∃ fs, x.fs = some fs ∧ F dd = some (.xd fs)
/-- where one stands: the def's world, what is wished of an exception that leaves, which ones may leave, and with what environment -/
structure YC where
  g : GCtx
  E : St → XK
  kx : Exn → List Cell → Prop
abbrev YC.K (Y : YC) : PySem.W.Frag := Y.g.K
abbrev YC.w (Y : YC) : World := Y.g.w
abbrev YC.P (Y : YC) : Program := Y.g.P
abbrev calm (C : GCtx) : YC := ⟨C, fun _ _ _ _ => False, fun _ _ => False⟩
def St0 (C : GCtx) (e : En) (F : Hp) (σ : St) (H : Hp) (Γ : List Cell) : Prop := ∃ L, Wk e F L H ∧ Slots C F σ Γ L
def XOk (Y : YC) (e : En) : Prop := ∀ (x : Exn) (d : Option Addr) (F : Hp) (σ : St) (H : Hp) (Γ : List Cell), Y.kx x Γ → St0 Y.g e F σ H Γ → x.at F d → Y.E σ (.ref x.cls) d H
/-- THE STATE: the slots hold what the environment says -/
def State (Y : YC) (e : En) (F : Hp) (σ : St) (H : Hp) (Γ : List Cell) : Prop := XOk Y e ∧ ∃ L, Wk e F L H ∧ Slots Y.g F σ Γ L
section
variable {C : GCtx} {Y : YC} {e : En} {F F' : Hp} {σ : St} {H H' : Hp} {Γ : List Cell}
theorem State.grow (s : State Y e F σ H Γ) (g : Gr F H F' H') : State Y e F' σ H' Γ := by
  obtain ⟨hx, L, k, sl⟩ := s
  exact ⟨hx, L, k.trans0 g, sl.mono g.ff⟩
theorem State.base (s : State Y e F σ H Γ) : Gr F H F H := let ⟨_, _, k, _⟩ := s; k.base
theorem State.fh (s : State Y e F σ H Γ) : Same F H := let ⟨_, _, k, _⟩ := s; k.fh
theorem State.val {α : Type} {d : Dat α} {x : α} {i : Nat} (s : State Y e F σ H Γ) (h : Γ[i]? = some (.val d x)) : ∃ v, σ[i]? = some (some v) ∧ d.rep Y.g F v x := by
  obtain ⟨hx, L, k, sl⟩ := s
  obtain ⟨o, L1, Li, L2, e1, _, ⟨_, v, rfl, r⟩, _⟩ := sl.get h
  exact ⟨v, e1, r⟩
theorem State.own {α : Type} {d : Dat α} {od : OD α} {x : α} {i : Nat} {pin : Option V} (s : State Y e F σ H Γ) (h : Γ[i]? = some (.own d od pin x)) : ∃ v, σ[i]? = some (some v) ∧ d.rep Y.g H v x := by
  obtain ⟨hx, L, k, sl⟩ := s
  obtain ⟨o, L1, Li, L2, e1, e2, ⟨v, rfl, _, r⟩, _⟩ := sl.get h
  exact ⟨v, e1, od.view r k.fh fun p hp => (k.ow p (by rw [e2]; exact List.mem_append_left _ (List.mem_append_right _ hp))).2.1⟩
/-- a slot is stored -/
theorem State.set {c c' : Cell} {i : Nat} {v : V} {L' : LO} (s : State Y e F σ H Γ) (h : Γ[i]? = some c) (g : Wk ⟨F, H, []⟩ F' L' H') (r : CellOk Y.g F' (some v) c' L') : State Y e F' (σ.set i (some v)) H' (Γ.set i c') := by
  obtain ⟨hx, L, k, sl⟩ := s
  obtain ⟨o, L1, Li, L2, e1, e2, _, f⟩ := sl.get h
  refine ⟨hx, L1 ++ L' ++ L2, ?_, f F' (some v) c' L' g.ff r⟩
  have q := k.trans g
  rw [e2] at q
  have q2 : Wk e F' ((L' ++ L1) ++ Li ++ L2) H' := by simpa [List.append_assoc] using q
  have q3 := q2.drop
  have q4 : Wk e F' (L' ++ (L1 ++ L2)) H' := by simpa [List.append_assoc] using q3
  exact q4.back
/-- a slot is forgotten -/
theorem State.forget {i : Nat} {c : Cell} {o : Option V} (s : State Y e F σ H Γ) (h : Γ[i]? = some c) : State Y e F (σ.set i o) H (Γ.set i .no) := by
  obtain ⟨hx, L, k, sl⟩ := s
  obtain ⟨o1, L1, Li, L2, e1, e2, _, f⟩ := sl.get h
  rw [e2] at k
  have q := f F o .no [] (Same.refl _) rfl
  rw [List.append_nil] at q
  exact ⟨hx, L1 ++ L2, k.drop, q⟩
theorem State.hide {i : Nat} {c : Cell} (s : State Y e F σ H Γ) (h : Γ[i]? = some c) : State Y e F σ H (Γ.set i .no) := by
  obtain ⟨hx, L, k, sl⟩ := s
  obtain ⟨o1, L1, Li, L2, e1, e2, _, f⟩ := sl.get h
  rw [e2] at k
  have q := f F o1 .no [] (Same.refl _) rfl
  rw [List.append_nil] at q
  have z : σ.set i o1 = σ := by
    apply List.ext_getElem?
    intro j
    by_cases hj : i = j
    · subst hj
      obtain ⟨hlt, hv⟩ := List.getElem?_eq_some_iff.mp e1
      rw [List.getElem?_set_self hlt, e1]
    · rw [List.getElem?_set_ne hj]
  rw [z] at q
  exact ⟨hx, L1 ++ L2, k.drop, q⟩
end
end G

/-! G2: data, judgements, the rules for expressions. -/
namespace G
open PySem L2

theorem Wk.hh0 {F H F' H' : Hp} {L : LO} (g : Wk ⟨F, H, []⟩ F' L H') : Same H H' := fun a o h => g.hh a o (fun z => nomatch z) h

/-! ### scalars -/
instance dInt : Dat Int := ⟨fun _ _ v x => v = .int x, fun _ h => h⟩
instance dBool : Dat Bool := ⟨fun _ _ v x => v = .bl x, fun _ h => h⟩
instance dStr : Dat Str := ⟨fun _ _ v x => v = .str x, fun _ h => h⟩
instance dUnit : Dat Unit := ⟨fun _ _ v _ => v = .non, fun _ h => h⟩
instance imInt : Imm Int := ⟨fun _ h => h⟩
instance imBool : Imm Bool := ⟨fun _ h => h⟩
instance imStr : Imm Str := ⟨fun _ h => h⟩
instance imUnit : Imm Unit := ⟨fun _ h => h⟩
/-- None or a value -/
inductive Opt (α : Type) where
  | none : Opt α
  | some (x : α) : Opt α
  deriving DecidableEq
instance dOpt {α : Type} [d : Dat α] : Dat (Opt α) := ⟨fun C F v x => match x with | .none => v = .non | .some y => d.rep C F v y, fun {C F F' v x} s h => match x, h with | .none, h => h | .some _, h => d.mono s h⟩
instance imOpt {α : Type} [d : Dat α] [i : Imm α] : Imm (Opt α) := ⟨fun {C F H v x} t h => match x, h with | .none, h => h | .some _, h => i.imm t h⟩

/-! ### lists -/
def Reps {α : Type} (d : Dat α) (C : GCtx) (F : Hp) : List V → List α → Prop
  | [], [] => True
  | v :: vs, x :: xs => d.rep C F v x ∧ Reps d C F vs xs
  | _, _ => False
section
variable {α : Type} {d : Dat α} {C : GCtx} {Y : YC} {F F' : Hp}
theorem Reps.mono (s : Same F F') : ∀ {vs : List V} {xs : List α}, Reps d C F vs xs → Reps d C F' vs xs
  | [], [], _ => trivial
  | _ :: _, _ :: _, h => ⟨d.mono s h.1, Reps.mono s h.2⟩
  | [], _ :: _, h => h.elim
  | _ :: _, [], h => h.elim
theorem Reps.len : ∀ {vs : List V} {xs : List α}, Reps d C F vs xs → vs.length = xs.length
  | [], [], _ => rfl
  | _ :: _, _ :: _, h => by simp [Reps.len h.2]
  | [], _ :: _, h => h.elim
  | _ :: _, [], h => h.elim
theorem Reps.get : ∀ {vs : List V} {xs : List α} {i : Nat} {x : α}, Reps d C F vs xs → xs[i]? = some x → ∃ v, vs[i]? = some v ∧ d.rep C F v x
  | [], [], i, x, _, h => by cases i <;> cases h
  | v :: vs, y :: xs, 0, x, h, e => by cases (Option.some.inj e : y = x); exact ⟨v, rfl, h.1⟩
  | v :: vs, y :: xs, i + 1, x, h, e => Reps.get (i := i) h.2 e
  | [], _ :: _, _, _, h, _ => h.elim
  | _ :: _, [], _, _, h, _ => h.elim
theorem Reps.getV : ∀ {vs : List V} {xs : List α} {i : Nat} {v : V}, Reps d C F vs xs → vs[i]? = some v → ∃ x, xs[i]? = some x ∧ d.rep C F v x
  | [], [], i, x, _, h => by cases i <;> cases h
  | v :: vs, y :: xs, 0, x, h, e => by cases (Option.some.inj e : v = x); exact ⟨y, rfl, h.1⟩
  | v :: vs, y :: xs, i + 1, x, h, e => Reps.getV (i := i) h.2 e
  | [], _ :: _, _, _, h, _ => h.elim
  | _ :: _, [], _, _, h, _ => h.elim
theorem Reps.append : ∀ {vs ws : List V} {xs ys : List α}, Reps d C F vs xs → Reps d C F ws ys → Reps d C F (vs ++ ws) (xs ++ ys)
  | [], _, [], _, _, h => h
  | _ :: _, _, _ :: _, _, h, g => ⟨h.1, Reps.append h.2 g⟩
  | [], _, _ :: _, _, h, _ => h.elim
  | _ :: _, _, [], _, h, _ => h.elim
theorem Reps.one {v : V} {x : α} (h : d.rep C F v x) : Reps d C F [v] [x] := ⟨h, trivial⟩
theorem Reps.take : ∀ {vs : List V} {xs : List α} (n : Nat), Reps d C F vs xs → Reps d C F (vs.take n) (xs.take n)
  | [], [], n, _ => by simp [Reps]
  | _ :: _, _ :: _, 0, _ => trivial
  | _ :: _, _ :: _, n + 1, h => ⟨h.1, Reps.take n h.2⟩
  | [], _ :: _, _, h => h.elim
  | _ :: _, [], _, h => h.elim
theorem Reps.drop : ∀ {vs : List V} {xs : List α} (n : Nat), Reps d C F vs xs → Reps d C F (vs.drop n) (xs.drop n)
  | [], [], n, _ => by simp [Reps]
  | _ :: _, _ :: _, 0, h => h
  | _ :: _, _ :: _, n + 1, h => Reps.drop n h.2
  | [], _ :: _, _, h => h.elim
  | _ :: _, [], _, h => h.elim
theorem Reps.set {v : V} {x : α} : ∀ {vs : List V} {xs : List α} (i : Nat), Reps d C F vs xs → d.rep C F v x → Reps d C F (vs.set i v) (xs.set i x)
  | [], [], _, _, _ => trivial
  | _ :: _, _ :: _, 0, h, g => ⟨g, h.2⟩
  | _ :: _, _ :: _, i + 1, h, g => ⟨h.1, Reps.set i h.2 g⟩
  | [], _ :: _, _, h, _ => h.elim
  | _ :: _, [], _, h, _ => h.elim
theorem Reps.ints : ∀ {vs : List V} {xs : List Int}, Reps dInt C F vs xs → vs = xs.map V.int
  | [], [], _ => rfl
  | _ :: _, _ :: _, h => by rw [Reps.ints h.2, show _ = V.int _ from h.1]; rfl
  | [], _ :: _, h => h.elim
  | _ :: _, [], h => h.elim
theorem Reps.ofInts : ∀ (xs : List Int), Reps dInt C F (xs.map V.int) xs
  | [] => trivial
  | _ :: xs => ⟨rfl, Reps.ofInts xs⟩
theorem Reps.bools : ∀ {vs : List V} {xs : List Bool}, Reps dBool C F vs xs → vs = xs.map V.bl
  | [], [], _ => rfl
  | _ :: _, _ :: _, h => by rw [Reps.bools h.2, show _ = V.bl _ from h.1]; rfl
  | [], _ :: _, h => h.elim
  | _ :: _, [], h => h.elim
theorem Reps.imm [i : @Imm α d] {H : Hp} (t : ∀ a xs, H a = some (.tup xs) → F a = some (.tup xs)) : ∀ {vs : List V} {xs : List α}, Reps d C H vs xs → Reps d C F vs xs
  | [], [], _ => trivial
  | _ :: _, _ :: _, h => ⟨i.imm t h.1, Reps.imm t h.2⟩
  | [], _ :: _, h => h.elim
  | _ :: _, [], h => h.elim
end
/-- a tuple that stands still: frozen, or of the written part -/
def TpA (K : PySem.W.Frag) (F : Hp) (a : Addr) (xs : List V) : Prop := F a = some (.tup xs) ∨ (SqT K (fun _ => none) a xs ∧ xs ≠ [] ∧ ∀ x ∈ xs, ∃ t, x = V.str t)
theorem TpA.mono {K : PySem.W.Frag} {F F' : Hp} {a : Addr} {xs : List V} (s : Same F F') (h : TpA K F a xs) : TpA K F' a xs := h.imp (s a _) id
theorem TpA.sq {K : PySem.W.Frag} {F : Hp} {a : Addr} {xs : List V} (h : TpA K F a xs) : SqT K F a xs := by
  rcases h with h | ⟨h, _⟩
  · exact .inl (.inl h)
  · rcases h with (h | ⟨_, h⟩) | h
    · cases h
    · cases h
    · exact .inr h
/-- a list that is tracked -/
theorem Same.rd {H H' : Hp} {a : Addr} {u : HO} (e : Same H H') (h : Rd H a u) : Rd H' a u := h.imp (e _ _) fun ⟨o, h⟩ => ⟨o, e _ _ h⟩
instance {K : PySem.W.Frag} {H : Hp} {a : Addr} {xs : List V} : Coe (Rd H a (.lst xs)) (SqL K H a xs) := ⟨.inl⟩
instance dList {α : Type} [d : Dat α] : Dat (List α) :=
  ⟨fun C F v xs => ∃ a vs, v = .ref a ∧ Rd F a (.lst vs) ∧ Reps d C F vs xs, fun s ⟨a, vs, e, h, r⟩ => ⟨a, vs, e, Same.rd s h, r.mono s⟩⟩
instance oList {α : Type} [d : Dat α] : OD (List α) where
  orep C F v xs L := ∃ a vs, v = .ref a ∧ L = [(a, .lst vs)] ∧ Reps d C F vs xs
  omono s := fun ⟨a, vs, e, h, r⟩ => ⟨a, vs, e, h, r.mono s⟩
  view := fun ⟨a, vs, e, h, r⟩ s k => ⟨a, vs, e, .inl (k (a, .lst vs) (by rw [h]; exact List.mem_cons_self)), r.mono s⟩
/-- a tuple of any length, its items alike -/
structure Tup (α : Type) where
  l : List α
  deriving DecidableEq
instance dTup {α : Type} [d : Dat α] : Dat (Tup α) :=
  ⟨fun C F v xs => ∃ a vs, v = .ref a ∧ TpA C.K F a vs ∧ Reps d C F vs xs.l, fun s ⟨a, vs, e, h, r⟩ => ⟨a, vs, e, h.mono s, r.mono s⟩⟩
instance imTup {α : Type} [d : Dat α] [i : Imm α] : Imm (Tup α) := ⟨fun t ⟨a, vs, e, h, r⟩ => ⟨a, vs, e, h.imp (t a _) id, r.imm t⟩⟩
instance dPair {α β : Type} [d1 : Dat α] [d2 : Dat β] : Dat (α × β) :=
  ⟨fun C F v x => ∃ a v1 v2, v = .ref a ∧ TpA C.K F a [v1, v2] ∧ d1.rep C F v1 x.1 ∧ d2.rep C F v2 x.2, fun s ⟨a, v1, v2, e, h, r1, r2⟩ => ⟨a, v1, v2, e, h.mono s, d1.mono s r1, d2.mono s r2⟩⟩
instance imPair {α β : Type} [d1 : Dat α] [d2 : Dat β] [i1 : Imm α] [i2 : Imm β] : Imm (α × β) := ⟨fun t ⟨a, v1, v2, e, h, r1, r2⟩ => ⟨a, v1, v2, e, h.imp (t a _) id, i1.imm t r1, i2.imm t r2⟩⟩
structure T3 (α β γ : Type) where
  a : α
  b : β
  c : γ
  deriving DecidableEq
structure T4 (α β γ δ : Type) where
  a : α
  b : β
  c : γ
  d : δ
  deriving DecidableEq
instance dT3 {α β γ : Type} [d1 : Dat α] [d2 : Dat β] [d3 : Dat γ] : Dat (T3 α β γ) :=
  ⟨fun C F v x => ∃ a v1 v2 v3, v = .ref a ∧ TpA C.K F a [v1, v2, v3] ∧ d1.rep C F v1 x.a ∧ d2.rep C F v2 x.b ∧ d3.rep C F v3 x.c,
    fun s ⟨a, v1, v2, v3, e, h, r1, r2, r3⟩ => ⟨a, v1, v2, v3, e, h.mono s, d1.mono s r1, d2.mono s r2, d3.mono s r3⟩⟩
instance imT3 {α β γ : Type} [d1 : Dat α] [d2 : Dat β] [d3 : Dat γ] [i1 : Imm α] [i2 : Imm β] [i3 : Imm γ] : Imm (T3 α β γ) :=
  ⟨fun t ⟨a, v1, v2, v3, e, h, r1, r2, r3⟩ => ⟨a, v1, v2, v3, e, h.imp (t a _) id, i1.imm t r1, i2.imm t r2, i3.imm t r3⟩⟩
instance dT4 {α β γ δ : Type} [d1 : Dat α] [d2 : Dat β] [d3 : Dat γ] [d4 : Dat δ] : Dat (T4 α β γ δ) :=
  ⟨fun C F v x => ∃ a v1 v2 v3 v4, v = .ref a ∧ TpA C.K F a [v1, v2, v3, v4] ∧ d1.rep C F v1 x.a ∧ d2.rep C F v2 x.b ∧ d3.rep C F v3 x.c ∧ d4.rep C F v4 x.d,
    fun s ⟨a, v1, v2, v3, v4, e, h, r1, r2, r3, r4⟩ => ⟨a, v1, v2, v3, v4, e, h.mono s, d1.mono s r1, d2.mono s r2, d3.mono s r3, d4.mono s r4⟩⟩
instance imT4 {α β γ δ : Type} [d1 : Dat α] [d2 : Dat β] [d3 : Dat γ] [d4 : Dat δ] [i1 : Imm α] [i2 : Imm β] [i3 : Imm γ] [i4 : Imm δ] : Imm (T4 α β γ δ) :=
  ⟨fun t ⟨a, v1, v2, v3, v4, e, h, r1, r2, r3, r4⟩ => ⟨a, v1, v2, v3, v4, e, h.imp (t a _) id, i1.imm t r1, i2.imm t r2, i3.imm t r3, i4.imm t r4⟩⟩

/-! ### judgements -/
/-- the term evaluates to a value that k is true of, frozen from now on -/
def W (Y : YC) (te : TE) (Γ : List Cell) {α : Type} (d : Dat α) (k : α → Prop) : Prop := ∀ (e : En) (F : Hp) (σ : St) (H : Hp), State Y e F σ H Γ → ∀ Q : VK, (∀ v F' H' x, k x → Gr F H F' H' → d.rep Y.g F' v x → Q v H') → te σ H Q
/-- .. that may be read until the next store -/
def R (Y : YC) (te : TE) (Γ : List Cell) {α : Type} (d : Dat α) (k : α → Prop) : Prop := ∀ (e : En) (F : Hp) (σ : St) (H : Hp), State Y e F σ H Γ → ∀ Q : VK, (∀ v F' H' x, k x → Gr F H F' H' → d.rep Y.g H' v x → Q v H') → te σ H Q
/-- .. that is new, and owned -/
def O (Y : YC) (te : TE) (Γ : List Cell) {α : Type} {d : Dat α} (od : OD α) (k : α → Prop) : Prop := ∀ (e : En) (F : Hp) (σ : St) (H : Hp), State Y e F σ H Γ → ∀ Q : VK, (∀ v F' H' L' x, k x → Wk ⟨F, H, []⟩ F' L' H' → od.orep Y.g F' v x L' → Q v H') → te σ H Q
def T (Y : YC) (t : TT) (Γ : List Cell) (k : Bool → Prop) : Prop := ∀ (e : En) (F : Hp) (σ : St) (H : Hp), State Y e F σ H Γ → ∀ Q : Bool → Hp → Prop, (∀ b F' H', k b → Gr F H F' H' → Q b H') → t σ H Q
def WA (Y : YC) (ta : TA) (Γ : List Cell) (k : List Cell → Prop) : Prop := ∀ (e : En) (F : Hp) (σ : St) (H : Hp), State Y e F σ H Γ → ∀ Q : List V → Hp → Prop, (∀ vs F' H' cs, k cs → Gr F H F' H' → Slots Y.g F' (vs.map some) cs [] → Q vs H') → ta σ H Q

section
variable {C : GCtx} {Y : YC} {Γ : List Cell} {te ta tb tc : TE} {t u : TT} {α β γ : Type} {d1 : Dat α} {d : Dat α} {d2 : Dat β} {d3 : Dat γ}

theorem r_of_w {k : α → Prop} (h : W Y te Γ d k) : R Y te Γ d k := fun e F σ H s Q q => h e F σ H s Q fun v F' H' x kx g r => q v F' H' x kx g (d.mono g.fh r)
theorem w_mono {k k' : α → Prop} (h : W Y te Γ d k) (m : ∀ x, k x → k' x) : W Y te Γ d k' := fun e F σ H s Q q => h e F σ H s Q fun v F' H' x kx g r => q v F' H' x (m x kx) g r
theorem t_mono {k k' : Bool → Prop} (h : T Y t Γ k) (m : ∀ x, k x → k' x) : T Y t Γ k' := fun e F σ H s Q q => h e F σ H s Q fun b F' H' kx g => q b F' H' (m b kx) g
/-- what is owned and new is frozen at once -/
theorem w_of_o {od : @OD α d} {k : α → Prop} (h : O Y te Γ od k) : W Y te Γ d k := fun e F σ H s Q q => h e F σ H s Q fun v F' H' L' x kx g r => by
  have g1 : Wk ⟨F, H, []⟩ F' (L' ++ []) H' := by rw [List.append_nil]; exact g
  have g2 : Gr F H (plus F' L') H' := g1.freeze fun p hp z => nomatch z
  refine q v _ H' x kx g2 (od.view r (same_plus (fun p hp => (g.ow p hp).1) g.nd) (plus_get (fun p hp => (g.ow p hp).1) g.nd))

/-! names and constants -/
theorem w_var {i : Nat} {x : α} {k : α → Prop} (h : Γ[i]? = some (.val d x)) (hk : k x) : W Y (tVar i) Γ d k := fun e F σ H s Q q => by
  obtain ⟨v, e1, r⟩ := s.val h
  exact ⟨v, e1, q v F H x hk s.base r⟩
theorem r_varO {od : @OD α d} {pin : Option V} {i : Nat} {x : α} {k : α → Prop} (h : Γ[i]? = some (.own d od pin x)) (hk : k x) : R Y (tVar i) Γ d k := fun e F σ H s Q q => by
  obtain ⟨v, e1, r⟩ := s.own h
  exact ⟨v, e1, q v F H x hk s.base r⟩
theorem w_int {n : Int} {k : Int → Prop} (hk : k n) : W Y (tC (.int n)) Γ dInt k := fun e F σ H s Q q => q _ F H n hk s.base rfl
theorem w_bl {n : Bool} {k : Bool → Prop} (hk : k n) : W Y (tC (.bl n)) Γ dBool k := fun e F σ H s Q q => q _ F H n hk s.base rfl
theorem w_str {n : Str} {k : Str → Prop} (hk : k n) : W Y (tC (.str n)) Γ dStr k := fun e F σ H s Q q => q _ F H n hk s.base rfl
theorem w_nonO {k : Opt α → Prop} (hk : k .none) : W Y (tC .non) Γ (dOpt (d := d)) k := fun e F σ H s Q q => q _ F H .none hk s.base rfl
theorem w_some {k : Opt α → Prop} (h : W Y te Γ d fun x => k (.some x)) : W Y te Γ (dOpt (d := d)) k := fun e F σ H s Q q => h e F σ H s Q fun v F' H' x kx g r => q v F' H' (.some x) kx g r

/-! two operands, a scalar back -/
theorem w_ii {r : R2} {f : Int → Int → γ} {P : Int → Int → Prop} {ec : γ → V} {k : γ → Prop} (hd : ∀ F z, d3.rep Y.g F (ec z) z) (hr : ∀ i j H (Q : VK), P i j → Q (ec (f i j)) H → r (.int i) (.int j) H Q)
    (h : R Y ta Γ dInt fun x => R Y tb Γ dInt fun y => P x y ∧ k (f x y)) : W Y (tOp r ta tb) Γ d3 k :=
  fun e F σ H s Q q => h e F σ H s _ fun v1 F1 H1 x h1 g1 r1 => h1 e F1 σ H1 (s.grow g1) _ fun v2 F2 H2 y ⟨p, kz⟩ g2 r2 => by
    cases (show v1 = .int x from r1)
    cases (show v2 = .int y from r2)
    exact hr x y H2 Q p (q _ F2 H2 _ kz (g1.trans0 g2) (hd F2 _))
theorem w_i0 {r : R2} {f : Int → Int → γ} {ec : γ → V} {k : γ → Prop} (hd : ∀ F z, d3.rep Y.g F (ec z) z) (hr : ∀ i j H (Q : VK), Q (ec (f i j)) H → r (.int i) (.int j) H Q)
    (h : R Y ta Γ dInt fun x => R Y tb Γ dInt fun y => k (f x y)) : W Y (tOp r ta tb) Γ d3 k :=
  fun e F σ H s Q q => h e F σ H s _ fun v1 F1 H1 x h1 g1 r1 => h1 e F1 σ H1 (s.grow g1) _ fun v2 F2 H2 y kz g2 r2 => by
    cases (show v1 = .int x from r1)
    cases (show v2 = .int y from r2)
    exact hr x y H2 Q (q _ F2 H2 _ kz (g1.trans0 g2) (hd F2 _))
section
variable {k : Int → Prop} {kb : Bool → Prop}
theorem w_add (h : R Y ta Γ dInt fun x => R Y tb Γ dInt fun y => k (x + y)) : W Y (tOp (rI0 fun i j => .int (i + j)) ta tb) Γ dInt k := w_i0 (ec := V.int) (fun _ _ => rfl) (fun i j H Q q => ⟨i, j, rfl, rfl, q⟩) h
theorem w_sub (h : R Y ta Γ dInt fun x => R Y tb Γ dInt fun y => k (x - y)) : W Y (tOp (rI0 fun i j => .int (i - j)) ta tb) Γ dInt k := w_i0 (ec := V.int) (fun _ _ => rfl) (fun i j H Q q => ⟨i, j, rfl, rfl, q⟩) h
theorem w_mul (h : R Y ta Γ dInt fun x => R Y tb Γ dInt fun y => CMul x y ∧ k (x * y)) : W Y (tOp (rI CMul fun i j => .int (i * j)) ta tb) Γ dInt k := w_ii (ec := V.int) (fun _ _ => rfl) (fun i j H Q p q => ⟨i, j, rfl, rfl, p, q⟩) h
theorem w_mod (h : R Y ta Γ dInt fun x => R Y tb Γ dInt fun y => 0 < y ∧ k (x % y)) : W Y (tOp (rI (fun _ j => 0 < j) fun i j => .int (i % j)) ta tb) Γ dInt k := w_ii (P := fun _ j => 0 < j) (ec := V.int) (fun _ _ => rfl) (fun i j H Q p q => ⟨i, j, rfl, rfl, p, q⟩) h
theorem w_fdiv (h : R Y ta Γ dInt fun x => R Y tb Γ dInt fun y => CDiv x y ∧ k (x / y)) : W Y (tOp (rI CDiv fun i j => .int (i / j)) ta tb) Γ dInt k := w_ii (ec := V.int) (fun _ _ => rfl) (fun i j H Q p q => ⟨i, j, rfl, rfl, p, q⟩) h
theorem w_pow (h : R Y ta Γ dInt fun x => R Y tb Γ dInt fun y => CPow x y ∧ k (x ^ y.toNat)) : W Y (tOp (rI CPow fun i j => .int (i ^ j.toNat)) ta tb) Γ dInt k := w_ii (ec := V.int) (fun _ _ => rfl) (fun i j H Q p q => ⟨i, j, rfl, rfl, p, q⟩) h
theorem w_lt (h : R Y ta Γ dInt fun x => R Y tb Γ dInt fun y => kb (decide (x < y))) : W Y (tOp (rI0 fun i j => .bl (decide (i < j))) ta tb) Γ dBool kb := w_i0 (f := fun i j => decide (i < j)) (ec := V.bl) (fun _ _ => rfl) (fun i j H Q q => ⟨i, j, rfl, rfl, q⟩) h
theorem w_le (h : R Y ta Γ dInt fun x => R Y tb Γ dInt fun y => kb (decide (x ≤ y))) : W Y (tOp (rI0 fun i j => .bl (decide (i ≤ j))) ta tb) Γ dBool kb := w_i0 (f := fun i j => decide (i ≤ j)) (ec := V.bl) (fun _ _ => rfl) (fun i j H Q q => ⟨i, j, rfl, rfl, q⟩) h
theorem w_gt (h : R Y ta Γ dInt fun x => R Y tb Γ dInt fun y => kb (decide (y < x))) : W Y (tOp (rI0 fun i j => .bl (decide (j < i))) ta tb) Γ dBool kb := w_i0 (f := fun i j => decide (j < i)) (ec := V.bl) (fun _ _ => rfl) (fun i j H Q q => ⟨i, j, rfl, rfl, q⟩) h
theorem w_ge (h : R Y ta Γ dInt fun x => R Y tb Γ dInt fun y => kb (decide (y ≤ x))) : W Y (tOp (rI0 fun i j => .bl (decide (j ≤ i))) ta tb) Γ dBool kb := w_i0 (f := fun i j => decide (j ≤ i)) (ec := V.bl) (fun _ _ => rfl) (fun i j H Q q => ⟨i, j, rfl, rfl, q⟩) h
theorem w_neg (h : R Y ta Γ dInt fun x => k (-x)) : W Y (tUn (rU fun i => .int (-i)) ta) Γ dInt k := fun e F σ H s Q q => h e F σ H s _ fun v F' H' x kx g r => by
  cases (show v = .int x from r)
  exact ⟨x, rfl, q _ F' H' _ kx g rfl⟩
end

/-! tests -/
theorem t_test {k : Bool → Prop} (h : R Y te Γ dBool k) : T Y (tTest te) Γ k := fun e F σ H s Q q => h e F σ H s _ fun v F' H' x kx g r => ⟨x, r, q x F' H' kx g⟩
theorem t_B {k : Bool → Prop} (h : R Y te Γ dBool k) : T Y (tB te) Γ k := fun e F σ H s Q q => h e F σ H s _ fun v F' H' x kx g r => ⟨x, r, q x F' H' kx g⟩
theorem t_not {k : Bool → Prop} (h : T Y t Γ fun b => k (!b)) : T Y (tNot t) Γ k := fun e F σ H s Q q => h e F σ H s _ fun b F' H' kx g => q (!b) F' H' kx g
theorem t_and {k : Bool → Prop} (h : T Y t Γ fun b => (b = true → T Y u Γ k) ∧ (b = false → k false)) : T Y (tAnd t u) Γ k := fun e F σ H s Q q => h e F σ H s _ fun b F' H' kx g => by
  cases b with
  | true => exact kx.1 rfl e F' σ H' (s.grow g) Q fun b F2 H2 kb g2 => q b F2 H2 kb (g.trans0 g2)
  | false => exact q false F' H' (kx.2 rfl) g
theorem t_or {k : Bool → Prop} (h : T Y t Γ fun b => (b = true → k true) ∧ (b = false → T Y u Γ k)) : T Y (tOr t u) Γ k := fun e F σ H s Q q => h e F σ H s _ fun b F' H' kx g => by
  cases b with
  | false => exact kx.2 rfl e F' σ H' (s.grow g) Q fun b F2 H2 kb g2 => q b F2 H2 kb (g.trans0 g2)
  | true => exact q true F' H' (kx.1 rfl) g
/-! values by tests -/
theorem w_andV {k : Bool → Prop} (h : R Y ta Γ dBool fun a => (a = true → W Y tb Γ dBool k) ∧ (a = false → k false)) : W Y (tAndV ta tb) Γ dBool k := fun e F σ H s Q q => h e F σ H s _ fun v F' H' x kx g r => ⟨x, r, by
  cases x with
  | true => exact kx.1 rfl e F' σ H' (s.grow g) Q fun v F2 H2 x kb g2 r => q v F2 H2 x kb (g.trans0 g2) r
  | false => exact q _ F' H' false (kx.2 rfl) g rfl⟩
theorem r_mono {k k' : α → Prop} (h : R Y te Γ d k) (m : ∀ x, k x → k' x) : R Y te Γ d k' := fun e F σ H s Q q => h e F σ H s Q fun v F' H' x kx g r => q v F' H' x (m x kx) g r
/-! arguments -/
theorem wa_nil {k : List Cell → Prop} (hk : k []) : WA Y tNil Γ k := fun e F σ H s Q q => q [] F H [] hk s.base .nil
theorem wa_cons {tr : TA} {k : List Cell → Prop} (h : W Y te Γ d fun x => WA Y tr Γ fun cs => k (.val d x :: cs)) : WA Y (tCons te tr) Γ k := fun e F σ H s Q q => h e F σ H s _ fun v F1 H1 x h1 g1 r1 => h1 e F1 σ H1 (s.grow g1) _ fun vs F2 H2 cs kc g2 r2 =>
  q (v :: vs) F2 H2 (.val d x :: cs) kc (g1.trans0 g2) (Slots.cons (L := []) ⟨rfl, v, rfl, d.mono g2.ff r1⟩ r2)

/-! built-ins of numbers -/
theorem w_abs {k : Int → Prop} (h : R Y ta Γ dInt fun x => k (if x < 0 then -x else x)) : W Y (tCB (fun xs H Q => ∃ i, xs = [.int i] ∧ Q (.int (if i < 0 then -i else i)) H) (tCons ta tNil)) Γ dInt k := fun e F σ H s Q q => h e F σ H s _ fun v F' H' x kx g r => by
  cases (show v = .int x from r)
  exact ⟨x, rfl, q _ F' H' _ kx g rfl⟩
theorem w_int1 {k : Int → Prop} (h : R Y ta Γ dInt k) : W Y (tCB (fun xs H Q => (∃ i, xs = [.int i] ∧ Q (.int i) H) ∨ ∃ k, xs = [.bl k] ∧ Q (.int (if k then 1 else 0)) H) (tCons ta tNil)) Γ dInt k := fun e F σ H s Q q => h e F σ H s _ fun v F' H' x kx g r => by
  cases (show v = .int x from r)
  exact .inl ⟨x, rfl, q _ F' H' _ kx g rfl⟩
/-! lists and tuples that are read -/
theorem w_len {k : Int → Prop} (h : R Y ta Γ (dList (d := d)) fun xs => k (xs.length : Int)) : W Y (tCB (fun xs H Q => ∃ p ys, xs = [.ref p] ∧ (SqL Y.K H p ys ∨ SqT Y.K H p ys) ∧ Q (.int ys.length) H) (tCons ta tNil)) Γ dInt k := fun e F σ H s Q q => h e F σ H s _ fun v F' H' x kx g ⟨a, vs, e1, h1, r⟩ => by
  subst e1
  exact ⟨a, vs, rfl, .inl h1, q _ F' H' _ (by rw [r.len]; exact kx) g rfl⟩
theorem atI_rep {F : Hp} {vs : List V} {xs : List α} {i : Int} {x : α} (r : Reps d C F vs xs) (h : atI xs i = some x) : ∃ v, atI vs i = some v ∧ d.rep C F v x := by
  unfold atI at h ⊢
  rw [r.len]
  cases e : ixN xs.length i with
  | none => rw [e] at h; cases h
  | some j => rw [e] at h; exact r.get h
theorem w_ix {k : α → Prop} (h : W Y ta Γ (dList (d := d)) fun xs => R Y tb Γ dInt fun i => ∃ x, atI xs i = some x ∧ k x) : W Y (tOp (rIxL Y.K) ta tb) Γ d k := fun e F σ H s Q q => h e F σ H s _ fun v1 F1 H1 xs h1 g1 ⟨a, vs, e1, hs, r⟩ => h1 e F1 σ H1 (s.grow g1) _ fun v2 F2 H2 i ⟨x, hx, kx⟩ g2 r2 => by
  subst e1
  cases (show v2 = .int i from r2)
  obtain ⟨v, hv, rv⟩ := atI_rep r hx
  exact ⟨a, vs, i, v, rfl, rfl, (g1.fh.trans g2.hh0).seq hs, hv, q _ F2 H2 x kx (g1.trans0 g2) (d.mono g2.ff rv)⟩
/-- an item of an owned list -/
theorem w_ixO {pin : Option V} {i : Nat} {xs : List α} {k : α → Prop} (h : Γ[i]? = some (.own (dList (d := d)) (oList (d := d)) pin xs)) (hk : R Y tb Γ dInt fun i => ∃ x, atI xs i = some x ∧ k x) : W Y (tOp (rIxL Y.K) (tVar i) tb) Γ d k := fun e F σ H s Q q => by
  obtain ⟨_, L, kw, sl⟩ := id s
  obtain ⟨o, L1, Li, L2, e1, e2, ⟨v, rfl, _, a, vs, rfl, e3, r⟩, _⟩ := sl.get h
  have ha : H a = some (.lst vs) := (kw.ow (a, .lst vs) (by rw [e2, e3]; simp)).2.1
  refine ⟨.ref a, e1, hk e F σ H s _ fun v2 F2 H2 j ⟨x, hx, kx⟩ g2 r2 => ?_⟩
  cases (show v2 = .int j from r2)
  obtain ⟨v, hv, rv⟩ := atI_rep r hx
  exact ⟨a, vs, j, v, rfl, rfl, .inl (.inl (g2.hh0 _ _ ha)), hv, q _ F2 H2 x kx g2 (d.mono g2.ff rv)⟩
/-! membership -/
class Flat (α : Type) [d : Dat α] where
  enc : α → V
  isEnc : ∀ {C : GCtx} {F : Hp} {v : V} {x : α}, d.rep C F v x → v = enc x
  flat : ∀ x, flatV (enc x) = true
  eqv : ∀ x y, eqV (enc x) (enc y) = true ↔ x = y
instance fInt : Flat Int := ⟨V.int, fun h => h, fun _ => rfl, fun x y => by simp [eqV]⟩
instance fStr : Flat Str := ⟨V.str, fun h => h, fun _ => rfl, fun x y => by simp [eqV]⟩
theorem Reps.enc [f : @Flat α d] {F : Hp} : ∀ {vs : List V} {xs : List α}, Reps d C F vs xs → vs = xs.map f.enc
  | [], [], _ => rfl
  | _ :: _, _ :: _, h => by rw [Reps.enc h.2, f.isEnc h.1]; rfl
  | [], _ :: _, h => h.elim
  | _ :: _, [], h => h.elim
/-! tuples, lists made -/
theorem Gr.lay {F H : Hp} {p : Addr} {o : HO} (g : Gr F H F H) (hp : H p = none) : Gr F H (upd F p o) (upd H p o) := Wk.lay g hp
theorem w_tup2 {k : α × β → Prop} (h : W Y ta Γ d1 fun x => W Y tb Γ d2 fun y => k (x, y)) : W Y (tTup (tCons ta (tCons tb tNil))) Γ (dPair (d1 := d1) (d2 := d2)) k := fun e F σ H s Q q => h e F σ H s _ fun v1 F1 H1 x h1 g1 r1 => h1 e F1 σ H1 (s.grow g1) _ fun v2 F2 H2 y ky g2 r2 =>
  ⟨show 2 ≤ PySem.sizeLine by decide, fun p hp => by
    have g3 := Gr.lay (o := .tup [v1, v2]) g2.base hp
    exact q _ _ _ (x, y) ky ((g1.trans0 g2).trans0 g3) ⟨p, v1, v2, rfl, .inl upd_same, d1.mono (g2.ff.trans g3.ff) r1, d2.mono g3.ff r2⟩⟩
theorem w_tup3 {k : T3 α β γ → Prop} (h : W Y ta Γ d1 fun x => W Y tb Γ d2 fun y => W Y tc Γ d3 fun z => k ⟨x, y, z⟩) : W Y (tTup (tCons ta (tCons tb (tCons tc tNil)))) Γ (dT3 (d1 := d1) (d2 := d2) (d3 := d3)) k := fun e F σ H s Q q => h e F σ H s _ fun v1 F1 H1 x h1 g1 r1 => h1 e F1 σ H1 (s.grow g1) _ fun v2 F2 H2 y h2 g2 r2 =>
  h2 e F2 σ H2 ((s.grow g1).grow g2) _ fun v3 F3 H3 z kz g3 r3 =>
  ⟨show 3 ≤ PySem.sizeLine by decide, fun p hp => by
    have g4 := Gr.lay (o := .tup [v1, v2, v3]) g3.base hp
    exact q _ _ _ ⟨x, y, z⟩ kz (((g1.trans0 g2).trans0 g3).trans0 g4) ⟨p, v1, v2, v3, rfl, .inl upd_same, d1.mono ((g2.ff.trans g3.ff).trans g4.ff) r1, d2.mono (g3.ff.trans g4.ff) r2, d3.mono g4.ff r3⟩⟩
/-- items that are alike, for a display -/
def WL (Y : YC) (ta : TA) (Γ : List Cell) {α : Type} (d : Dat α) (k : List α → Prop) : Prop := ∀ (e : En) (F : Hp) (σ : St) (H : Hp), State Y e F σ H Γ → ∀ Q : List V → Hp → Prop, (∀ vs F' H' xs, k xs → Gr F H F' H' → Reps d Y.g F' vs xs → Q vs H') → ta σ H Q
theorem wl_nil {k : List α → Prop} (hk : k []) : WL Y tNil Γ d k := fun e F σ H s Q q => q [] F H [] hk s.base trivial
theorem wl_cons {tr : TA} {k : List α → Prop} (h : W Y te Γ d fun x => WL Y tr Γ d fun xs => k (x :: xs)) : WL Y (tCons te tr) Γ d k := fun e F σ H s Q q => h e F σ H s _ fun v F1 H1 x h1 g1 r1 => h1 e F1 σ H1 (s.grow g1) _ fun vs F2 H2 xs kc g2 r2 =>
  q (v :: vs) F2 H2 (x :: xs) kc (g1.trans0 g2) ⟨d.mono g2.ff r1, r2⟩
theorem o_new {F H : Hp} {L : LO} (g : Wk ⟨F, H, []⟩ F [] H) {p : Addr} {vs : List V} {xs : List α} (hp : H p = none) (r : Reps d C F vs xs) : Wk ⟨F, H, []⟩ F [(p, .lst vs)] (upd H p (.lst vs)) ∧ (oList (d := d)).orep C F (.ref p) xs [(p, .lst vs)] :=
  ⟨g.own hp (fun _ z => by cases z), p, vs, rfl, rfl, r⟩
theorem o_lst {tl : TA} {k : List α → Prop} (h : WL Y tl Γ d fun xs => xs.length ≤ PySem.sizeLine ∧ k xs) : O Y (tLst tl) Γ (oList (d := d)) k := fun e F σ H s Q q => h e F σ H s _ fun vs F' H' xs ⟨hl, kx⟩ g r =>
  ⟨by rw [r.len]; exact hl, fun p hp => by
    obtain ⟨h1, h2⟩ := o_new (L := []) g.base hp r
    have h3 := g.trans h1
    exact q _ F' _ [(p, .lst vs)] xs kx (by simpa using h3) h2⟩
theorem o_nil {k : List α → Prop} (hk : k []) : O Y (tLst tNil) Γ (oList (d := d)) k := o_lst (wl_nil ⟨Nat.zero_le _, hk⟩)
/-- list(xs) -/
theorem o_listOf {k : List α → Prop} (h : W Y ta Γ (dList (d := d)) k) : O Y (tCB (fun xs H Q => ∃ p ys, xs = [.ref p] ∧ (SqL Y.K H p ys ∨ SqT Y.K H p ys) ∧ ∀ l, H l = none → Q (.ref l) (upd H l (.lst ys))) (tCons ta tNil)) Γ (oList (d := d)) k := fun e F σ H s Q q => h e F σ H s _ fun v F' H' xs kx g ⟨a, vs, e1, hs, r⟩ => by
  subst e1
  refine ⟨a, vs, rfl, .inl (g.fh.seq hs), fun l hl => ?_⟩
  obtain ⟨h1, h2⟩ := o_new (L := []) g.base hl r
  exact q _ F' _ _ xs kx (by simpa using g.trans h1) h2
end
end G

/-! G3: statements, loops, calls, comprehensions. -/
namespace G
open PySem L2

/-! ### the state, more -/
section
variable {C : GCtx} {Y : YC} {e : En} {F F' : Hp} {σ : St} {H H' : Hp} {Γ : List Cell}
theorem State.mut {α : Type} {d : Dat α} {od : OD α} {x : α} {i : Nat} {pin : Option V} (s : State Y e F σ H Γ) (h : Γ[i]? = some (.own d od pin x)) : ∃ v Li rest, σ[i]? = some (some v) ∧ od.orep Y.g F v x Li ∧ Wk e F (Li ++ rest) H ∧
    ∀ F' H' Li' x', Same F F' → Wk e F' (Li' ++ rest) H' → od.orep Y.g F' v x' Li' → State Y e F' σ H' (Γ.set i (.own d od pin x')) := by
  obtain ⟨hx, L, k, sl⟩ := s
  obtain ⟨o, L1, Li, L2, e1, e2, ⟨v, rfl, hp, r⟩, f⟩ := sl.get h
  subst e2
  refine ⟨v, Li, L1 ++ L2, e1, r, k.front, fun F' H' Li' x' s' k' r' => ⟨hx, L1 ++ Li' ++ L2, k'.back, ?_⟩⟩
  have q := f F' (some v) (.own d od pin x') Li' s' ⟨v, rfl, hp, r'⟩
  have z : σ.set i (some v) = σ := by
    apply List.ext_getElem?
    intro j
    by_cases hj : i = j
    · subst hj
      obtain ⟨hlt, hv⟩ := List.getElem?_eq_some_iff.mp e1
      rw [List.getElem?_set_self hlt, e1]
    · rw [List.getElem?_set_ne hj]
  rw [z] at q
  exact q
/-- what is owned is frozen -/
theorem State.frz {α : Type} {d : Dat α} {od : OD α} {x : α} {i : Nat} (s : State Y e F σ H Γ) (hM : e.M = []) (h : Γ[i]? = some (.own d od none x)) : ∃ F', Same F F' ∧ State Y e F' σ H (Γ.set i (.val d x)) := by
  obtain ⟨hx, L, k, sl⟩ := s
  obtain ⟨o, L1, Li, L2, e1, e2, ⟨v, rfl, hp, r⟩, f⟩ := sl.get h
  subst e2
  have kf := k.front
  have ff : ∀ p ∈ Li, F p.1 = none := fun p hp => (kf.ow p (List.mem_append_left _ hp)).1
  have nd : (Li.map Prod.fst).Nodup := by
    have := kf.nd
    rw [List.map_append] at this
    exact (List.nodup_append.mp this).1
  have k2 := kf.freeze fun p _ z => by rw [hM] at z; cases z
  have sm := same_plus ff nd
  refine ⟨plus F Li, sm, hx, L1 ++ L2, k2, ?_⟩
  have q := f (plus F Li) (some v) (.val d x) [] sm ⟨rfl, v, rfl, od.view r sm (plus_get ff nd)⟩
  have z : σ.set i (some v) = σ := by
    apply List.ext_getElem?
    intro j
    by_cases hj : i = j
    · subst hj
      obtain ⟨hlt, hv⟩ := List.getElem?_eq_some_iff.mp e1
      rw [List.getElem?_set_self hlt, e1]
    · rw [List.getElem?_set_ne hj]
  rw [z, List.append_nil] at q
  exact q
end

/-! ### statements -/
structure Ks where
  nx : List Cell → Prop
  rt : Cell → List Cell → Prop
  bk : List Cell → Prop
  ct : List Cell → Prop
structure Cont (Y : YC) (e : En) (k : Ks) (D : Ends) : Prop where
  nx : ∀ F σ H Γ, k.nx Γ → State Y e F σ H Γ → D.nx σ H
  rt : ∀ F σ H Γ v c L L', k.rt c Γ → Wk e F (L ++ L') H → CellOk Y.g F (some v) c L → Slots Y.g F σ Γ L' → D.rt v H
  bk : ∀ F σ H Γ, k.bk Γ → State Y e F σ H Γ → D.bk σ H
  ct : ∀ F σ H Γ, k.ct Γ → State Y e F σ H Γ → D.ct σ H
def Z (Y : YC) (ts : TS) (Γ : List Cell) (k : Ks) : Prop := ∀ (e : En) (F : Hp) (σ : St) (H : Hp) (D : Ends), e.M = [] → State Y e F σ H Γ → Cont Y e k D → ts D σ H
/-- a target takes x -/
def A (Y : YC) (g : TG) (Γ : List Cell) {α : Type} (d : Dat α) (x : α) (k : List Cell → Prop) : Prop := ∀ (e : En) (F : Hp) (σ : St) (H : Hp) (v : V), State Y e F σ H Γ → d.rep Y.g F v x → ∀ Q : St → Hp → Prop, (∀ σ' Γ', k Γ' → State Y e F σ' H Γ' → Q σ' H) → g v σ H Q

section
variable {C : GCtx} {Y : YC} {Γ : List Cell} {te ta tb tc : TE} {t u : TT} {α β γ δ : Type} {d1 : Dat α} {d : Dat α} {d2 : Dat β} {d3 : Dat γ} {d4 : Dat δ} {k : Ks} {t1 t2 ts : TS} {g g1 g2 g3 g4 : TG}

theorem z_seq (h : Z Y t1 Γ { k with nx := fun Γ' => Z Y t2 Γ' k }) : Z Y (tSeq t1 t2) Γ k := fun e F σ H D hM s c =>
  h e F σ H { D with nx := t2 D } hM s ⟨fun F σ H Γ q s' => q e F σ H D hM s' c, c.rt, c.bk, c.ct⟩
theorem z_next (h : k.nx Γ) : Z Y tNext Γ k := fun e F σ H D hM s c => c.nx F σ H Γ h s
theorem z_mono {k' : Ks} (h : Z Y ts Γ k') (n : ∀ Γ, k'.nx Γ → k.nx Γ) (r : ∀ c Γ, k'.rt c Γ → k.rt c Γ) (b : ∀ Γ, k'.bk Γ → k.bk Γ) (c : ∀ Γ, k'.ct Γ → k.ct Γ) : Z Y ts Γ k := fun e F σ H D hM s cc =>
  h e F σ H D hM s ⟨fun F σ H Γ q => cc.nx F σ H Γ (n Γ q), fun F σ H Γ v x L L' q => cc.rt F σ H Γ v x L L' (r x Γ q), fun F σ H Γ q => cc.bk F σ H Γ (b Γ q), fun F σ H Γ q => cc.ct F σ H Γ (c Γ q)⟩
theorem z_forget {c0 : Cell} (i : Nat) (hi : Γ[i]? = some c0) (h : Z Y ts (Γ.set i .no) k) : Z Y ts Γ k := fun e F σ H D hM s c => h e F σ H D hM (s.hide hi) c

/-! targets -/
theorem a_name {x : α} {i : Nat} {c0 : Cell} {kn : List Cell → Prop} (hi : Γ[i]? = some c0) (h : kn (Γ.set i (.val d x))) : A Y (gName i) Γ d x kn := fun e F σ H v s r Q q =>
  q (σ.set i (some v)) _ h (s.set (c' := .val d x) (L' := []) hi s.base ⟨rfl, v, rfl, r⟩)
theorem a_pair {x : α × β} {n : Nat} {kn : List Cell → Prop} (hn : n = 2) (h : A Y g1 Γ d1 x.1 fun Γ1 => A Y g2 Γ1 d2 x.2 kn) : A Y (gTup Y.K n (gCons g1 (gCons g2 gNil))) Γ (dPair (d1 := d1) (d2 := d2)) x kn := fun e F σ H v s ⟨a, v1, v2, e1, ht, r1, r2⟩ Q q => by
  subst e1 hn
  refine ⟨a, [v1, v2], rfl, (ht.mono s.fh).sq, rfl, v1, [v2], rfl, h e F σ H v1 s r1 _ fun σ1 Γ1 h1 st1 => ⟨v2, [], rfl, h1 e F σ1 H v2 st1 r2 _ fun σ2 Γ2 h2 st2 => ⟨rfl, q σ2 Γ2 h2 st2⟩⟩⟩
/-! assignments -/
theorem z_set {i : Nat} {c0 : Cell} (hi : Γ[i]? = some c0) (h : W Y te Γ d fun x => k.nx (Γ.set i (.val d x))) : Z Y (tAsg te (gName i)) Γ k := fun e F σ H D hM s c => h e F σ H s _ fun v F' H' x kx g r =>
  c.nx F' _ H' _ kx (s.set (c' := .val d x) (L' := []) hi g ⟨rfl, v, rfl, r⟩)
theorem z_setG (h : W Y te Γ d fun x => A Y g Γ d x k.nx) : Z Y (tAsg te g) Γ k := fun e F σ H D hM s c => h e F σ H s _ fun v F' H' x kx gr r =>
  kx e F' σ H' v (s.grow gr) r _ fun σ2 Γ2 k2 s2 => c.nx F' σ2 H' Γ2 k2 s2
theorem z_setO {od : @OD α d} {i : Nat} {c0 : Cell} (hi : Γ[i]? = some c0) (h : O Y te Γ od fun x => k.nx (Γ.set i (.own d od none x))) : Z Y (tAsg te (gName i)) Γ k := fun e F σ H D hM s c => h e F σ H s _ fun v F' H' L' x kx g r =>
  c.nx F' _ H' _ kx (s.set (c' := .own d od none x) hi g ⟨v, rfl, fun _ z => (nomatch z), r⟩)
theorem z_aug {i : Nat} {f : Int → Int → Int} {x : Int} (hi : Γ[i]? = some (.val dInt x)) (h : R Y te Γ dInt fun y => k.nx (Γ.set i (.val dInt (f x y)))) : Z Y (tAug i te (ipI f)) Γ k := fun e F σ H D hM s c => by
  obtain ⟨v, e1, r⟩ := s.val hi
  cases (show v = .int x from r)
  refine ⟨.int x, e1, h e F σ H s _ fun v2 F' H' y ky g r2 => ?_⟩
  cases (show v2 = .int y from r2)
  exact ⟨x, y, rfl, rfl, c.nx F' _ H' _ ky (s.set (c' := .val dInt (f x y)) (L' := []) hi g ⟨rfl, _, rfl, rfl⟩)⟩
theorem z_if (h : T Y t Γ fun b => (b = true → Z Y t1 Γ k) ∧ (b = false → Z Y t2 Γ k)) : Z Y (tIfS t t1 t2) Γ k := fun e F σ H D hM s c => h e F σ H s _ fun b F' H' kb g => by
  cases b with
  | true => exact kb.1 rfl e F' σ H' D hM (s.grow g) c
  | false => exact kb.2 rfl e F' σ H' D hM (s.grow g) c
theorem z_ret (h : W Y te Γ d fun x => k.rt (.val d x) Γ) : Z Y (tRet te) Γ k := fun e F σ H D hM s c => h e F σ H s _ fun v F' H' x kx g r => by
  obtain ⟨_, L, kw, sl⟩ := s
  exact c.rt F' σ H' Γ v (.val d x) [] L kx (kw.trans0 g) ⟨rfl, v, rfl, r⟩ (sl.mono g.ff)
theorem z_retO {od : @OD α d} (h : O Y te Γ od fun x => k.rt (.own d od none x) Γ) : Z Y (tRet te) Γ k := fun e F σ H D hM s c => h e F σ H s _ fun v F' H' L' x kx g r => by
  obtain ⟨_, L, kw, sl⟩ := s
  exact c.rt F' σ H' Γ v (.own d od none x) L' L kx (kw.trans g) ⟨v, rfl, fun _ z => (nomatch z), r⟩ (sl.mono g.ff)
theorem z_retV {od : @OD α d} {i : Nat} {x : α} (hi : Γ[i]? = some (.own d od none x)) (h : k.rt (.own d od none x) (Γ.set i .no)) : Z Y (tRet (tVar i)) Γ k := fun e F σ H D hM s c => by
  obtain ⟨hx, L, k0, sl⟩ := s
  obtain ⟨o, L1, Li, L2, e1, e2, ⟨v, rfl, _, r⟩, f⟩ := sl.get hi
  subst e2
  refine ⟨v, e1, ?_⟩
  have sl2 := f F (some v) .no [] (Same.refl F) rfl
  rw [List.append_nil] at sl2
  exact c.rt F _ H _ v (.own d od none x) Li (L1 ++ L2) h k0.front ⟨v, rfl, fun _ z => (nomatch z), r⟩ sl2
/-! stores to what is owned -/
theorem z_append {pin : Option V} {i : Nat} {xs : List α} (hi : Γ[i]? = some (.own (dList (d := d)) (oList (d := d)) pin xs)) (h : W Y te Γ d fun y => xs.length < PySem.sizeLine ∧ k.nx (Γ.set i (.own (dList (d := d)) (oList (d := d)) pin (xs ++ [y])))) :
    Z Y (tDrop (tBM Y.K "list" rAppend (tVar i) (tCons te tNil))) Γ k := fun e F σ H D hM s c => by
  obtain ⟨v0, _, _, e1, ⟨a0, vs0, rfl, rfl, _⟩, kw0, _⟩ := s.mut hi
  have ha0 : H a0 = some (.lst vs0) := (kw0.ow (a0, .lst vs0) (by simp)).2.1
  refine ⟨.ref a0, e1, .inl ⟨rfl, vs0, .inl (.inl ha0)⟩, h e F σ H s _ fun w F' H' y ⟨hl, ky⟩ g rw' => ?_⟩
  obtain ⟨v, Li, rest, e2, ⟨a, vs, rfl, rfl, r⟩, kw, f⟩ := (s.grow g).mut hi
  rw [e1] at e2
  cases (Option.some.inj e2)
  have ha : H' a0 = some (.lst vs) := (kw.ow (a0, .lst vs) (by simp)).2.1
  refine ⟨a0, vs, w, rfl, rfl, ha, by rw [r.len]; exact hl, ?_⟩
  exact c.nx F' σ _ _ ky (f F' _ [(a0, .lst (vs ++ [w]))] (xs ++ [y]) (Same.refl F') (kw.put (fun _ z => by cases z)) ⟨a0, _, rfl, rfl, r.append (Reps.one rw')⟩)
/-- y = xs.pop() -/
theorem z_pop {pin : Option V} {i j : Nat} {xs : List α} {y : α} {c0 : Cell} (hi : Γ[i]? = some (.own (dList (d := d)) (oList (d := d)) pin (xs ++ [y]))) (hj : (Γ.set i (.own (dList (d := d)) (oList (d := d)) pin xs))[j]? = some c0)
    (h : k.nx ((Γ.set i (.own (dList (d := d)) (oList (d := d)) pin xs)).set j (.val d y))) : Z Y (tAsg (tBM0 Y.K "list" rPop (tVar i)) (gName j)) Γ k := fun e F σ H D hM s c => by
  obtain ⟨v, _, rest, e1, ⟨a, vs, rfl, rfl, r⟩, kw, f⟩ := s.mut hi
  have ha : H a = some (.lst vs) := (kw.ow (a, .lst vs) (by simp)).2.1
  have hl : vs.length = xs.length + 1 := by rw [r.len]; simp
  have hx : (xs ++ [y])[vs.length - 1]? = some y := by rw [hl]; simp
  obtain ⟨w, hw, rw'⟩ := r.get hx
  refine ⟨.ref a, e1, .inl ⟨rfl, vs, .inl (.inl ha)⟩, a, vs, w, rfl, rfl, ha, hw, ?_⟩
  have s2 := f F _ [(a, .lst vs.dropLast)] xs (Same.refl F) (kw.put (fun _ z => by cases z)) ⟨a, _, rfl, rfl, by
    have q := r.take xs.length
    rw [List.take_left] at q
    rw [List.dropLast_eq_take, hl]
    exact q⟩
  exact c.nx F _ _ _ h (s2.set (c' := .val d y) (L' := []) hj s2.base ⟨rfl, w, rfl, rw'⟩)
/-- xs[i] = e -/
theorem z_setIx {pin : Option V} {i : Nat} {xs : List α} (hi : Γ[i]? = some (.own (dList (d := d)) (oList (d := d)) pin xs)) (h : W Y te Γ d fun y => R Y tb Γ dInt fun n => ∃ j, ixN xs.length n = some j ∧ k.nx (Γ.set i (.own (dList (d := d)) (oList (d := d)) pin (xs.set j y)))) :
    Z Y (tAsg te (gSub (tVar i) tb rSetL)) Γ k := fun e F σ H D hM s c => h e F σ H s _ fun w F1 H1 y hy g1 rw1 => by
  obtain ⟨v0, _, _, e1, ⟨a0, vs0, rfl, rfl, _⟩, kw0, _⟩ := (s.grow g1).mut hi
  refine ⟨.ref a0, e1, hy e F1 σ H1 (s.grow g1) _ fun v2 F2 H2 n ⟨j, hj, kj⟩ g2 r2 => ?_⟩
  cases (show v2 = .int n from r2)
  obtain ⟨v, Li, rest, e2, ⟨a, vs, rfl, rfl, r⟩, kw, f⟩ := ((s.grow g1).grow g2).mut hi
  rw [e1] at e2
  cases (Option.some.inj e2)
  have ha : H2 a0 = some (.lst vs) := (kw.ow (a0, .lst vs) (by simp)).2.1
  refine ⟨a0, vs, n, j, rfl, rfl, ha, by rw [r.len]; exact hj, ?_⟩
  exact c.nx F2 σ _ _ kj (f F2 _ [(a0, .lst (vs.set j w))] (xs.set j y) (Same.refl F2) (kw.put (fun _ z => by cases z)) ⟨a0, _, rfl, rfl, r.set j (d.mono g2.ff rw1)⟩)

/-! loops -/
theorem Wk.out {e : En} {F1 F : Hp} {L1 L : LO} {H1 H : Hp} (a : Wk e F1 L1 H1) (b : Wk ⟨F1, e.H0, e.M⟩ F L H) : Wk e F L H :=
  ⟨a.ff.trans b.ff, b.hh, b.th, b.fh, fun x h h' => b.nw x h (a.nw x h h'), b.tp, b.ow, b.nd⟩
theorem Wk.into {e : En} {F : Hp} {L : LO} {H : Hp} (a : Wk e F L H) : Wk ⟨F, e.H0, e.M⟩ F L H :=
  ⟨Same.refl _, a.hh, a.th, a.fh, fun _ _ h => h, a.tp, a.ow, a.nd⟩
theorem XOk.into {e : En} {F1 : Hp} {L1 : LO} {H1 : Hp} (h : XOk Y e) (a : Wk e F1 L1 H1) : XOk Y ⟨F1, e.H0, e.M⟩ := fun x d F σ H Γ k ⟨L, kw, sl⟩ hd => h x d F σ H Γ k ⟨L, a.out kw, sl⟩ hd
theorem State.into {e : En} {F : Hp} {σ : St} {H : Hp} (s : State Y e F σ H Γ) : State Y ⟨F, e.H0, e.M⟩ F σ H Γ := let ⟨hx, L, k, sl⟩ := s; ⟨hx.into k, L, k.into, sl⟩
theorem State.out {e : En} {F1 F : Hp} {L1 : LO} {H1 : Hp} {σ : St} {H : Hp} (hx : XOk Y e) (a : Wk e F1 L1 H1) (s : State Y ⟨F1, e.H0, e.M⟩ F σ H Γ) : State Y e F σ H Γ := let ⟨_, L, k, sl⟩ := s; ⟨hx, L, a.out k, sl⟩
theorem State.ff {e : En} {F : Hp} {σ : St} {H : Hp} (s : State Y e F σ H Γ) : Same e.F0 F := let ⟨_, _, k, _⟩ := s; k.ff
theorem Cont.into {e : En} {F1 : Hp} {L1 : LO} {H1 : Hp} {D : Ends} (hx : XOk Y e) (a : Wk e F1 L1 H1) (c : Cont Y e k D) : Cont Y ⟨F1, e.H0, e.M⟩ k D :=
  ⟨fun F σ H Γ q s => c.nx F σ H Γ q (s.out hx a), fun F σ H Γ v x L L' q kw => c.rt F σ H Γ v x L L' q (a.out kw), fun F σ H Γ q s => c.bk F σ H Γ q (s.out hx a), fun F σ H Γ q s => c.ct F σ H Γ q (s.out hx a)⟩
/-- what a loop asks of its body -/
def Body (Y : YC) (g : TG) (ts : TS) {α : Type} (d : Dat α) (k : Ks) (get : Nat → Option α) (n : Nat) (Γ : List Cell) : Prop :=
  ∃ I : Nat → List Cell → Prop, I 0 Γ ∧ (∀ i x Γ', get i = some x → I i Γ' → A Y g Γ' d x fun Γ2 => Z Y ts Γ2 { nx := I (i + 1), ct := I (i + 1), bk := k.nx, rt := k.rt }) ∧ ∀ Γ', I n Γ' → k.nx Γ'
theorem z_for {tl : TE} (h : W Y tl Γ (dList (d := d)) fun xs => Body Y g ts d k (fun i => xs[i]?) xs.length Γ) : Z Y (tFor (iList Y.K tl) g ts) Γ k := fun e F σ H D hM s c => h e F σ H s _ fun v F1 H1 xs ⟨I, h0, hs, hd⟩ g1 ⟨a, vs, e1, hq, r⟩ => by
  subst e1
  have s1 := s.grow g1
  obtain ⟨hx1, L1, kw1, _⟩ := id s1
  have c1 := c.into hx1 kw1
  refine ⟨a, rfl, ⟨vs, g1.fh.seq hq⟩, for_list (K := Y.K) (a := a) (xs := vs) (fun i σ H => ∃ F' Γ', State Y ⟨F1, e.H0, e.M⟩ F' σ H Γ' ∧ I i Γ') ⟨F1, Γ, s1.into, h0⟩ (fun i σ H _ ⟨F', Γ', st, _⟩ => (st.ff.trans st.fh).seq hq) (fun i w σ H hw ⟨F', Γ', st, hi⟩ => ?_) fun σ H ⟨F', Γ', st, hi⟩ => ?_⟩
  · obtain ⟨x, hx, rx⟩ := r.getV hw
    refine hs i x Γ' hx hi _ F' σ H w st (d.mono st.ff rx) _ fun σ2 Γ2 h2 st2 => ?_
    exact h2 ⟨F1, e.H0, e.M⟩ F' σ2 H _ hM st2 ⟨fun F3 σ3 H3 Γ3 k3 st3 => ⟨F3, Γ3, st3, k3⟩, c1.rt, c1.nx, fun F3 σ3 H3 Γ3 k3 st3 => ⟨F3, Γ3, st3, k3⟩⟩
  · rw [r.len] at hi
    exact c1.nx F' σ H Γ' (hd Γ' hi) st
/-- lo, lo + 1, .. (n of them) -/
def rng (lo : Int) (n : Nat) (i : Nat) : Option Int := if i < n then some (lo + i) else none
theorem for_rng {lo : Int} {n : Nat} {e : En} {F : Hp} {σ : St} {H : Hp} {D : Ends} (hM : e.M = []) (s : State Y e F σ H Γ) (c : Cont Y e k D) (h : Body Y g ts dInt k (rng lo n) n Γ) : ∃ W : Nat → Nat → St → Hp → Prop, (∃ m, W 0 m σ H) ∧ ∀ i m σ H, W i m σ H →
      ((Itr lo n).stop i H ∧ D.nx σ H) ∨ ((Itr lo n).go i H ∧ ∃ N : St → Hp → Prop, (∀ σ' H', N σ' H' → ∃ m', m' < m ∧ W (i + 1) m' σ' H') ∧ ∀ x H', (Itr lo n).yld i H x H' → g x σ H' fun σ2 H2 => ts { D with nx := N, ct := N, bk := D.nx } σ2 H2) := by
  obtain ⟨I, h0, hs, hd⟩ := h
  refine for_range (lo := lo) (n := n) (fun i σ H => ∃ F' Γ', State Y e F' σ H Γ' ∧ I i Γ') ⟨F, Γ, s, h0⟩ (fun i σ H hw ⟨F', Γ', st, hi⟩ => ?_) fun σ H ⟨F', Γ', st, hi⟩ => c.nx F' σ H Γ' (hd Γ' hi) st
  refine hs i (lo + i) Γ' (by unfold rng; rw [if_pos hw]) hi _ F' σ H _ st rfl _ fun σ2 Γ2 h2 st2 => ?_
  exact h2 _ F' σ2 H _ hM st2 ⟨fun F3 σ3 H3 Γ3 k3 st3 => ⟨F3, Γ3, st3, k3⟩, c.rt, c.nx, fun F3 σ3 H3 Γ3 k3 st3 => ⟨F3, Γ3, st3, k3⟩⟩
theorem z_range (h : R Y ta Γ dInt fun n => -(2 ^ 62) ≤ n ∧ n < 2 ^ 62 ∧ Body Y g ts dInt k (rng 0 n.toNat) n.toNat Γ) : Z Y (tFor (iRng1 (tCons ta tNil)) g ts) Γ k := fun e F σ H D hM s c => h e F σ H s _ fun v F1 H1 n ⟨l1, l2, hb⟩ g1 r1 => by
  cases (show v = .int n from r1)
  exact ⟨n, rfl, l1, l2, for_rng hM (s.grow g1) c hb⟩
theorem z_while (I : Nat → List Cell → Prop) (h0 : ∃ m, I m Γ) (hs : ∀ m Γ', I m Γ' → T Y t Γ' fun b => (b = true → Z Y ts Γ' { nx := fun Γ2 => ∃ m', m' < m ∧ I m' Γ2, ct := fun Γ2 => ∃ m', m' < m ∧ I m' Γ2, bk := k.nx, rt := k.rt }) ∧ (b = false → k.nx Γ')) : Z Y (tWhile t ts) Γ k := fun e F σ H D hM s c => by
  obtain ⟨m0, h0⟩ := h0
  refine ⟨fun m σ H => ∃ F' Γ', State Y e F' σ H Γ' ∧ I m Γ', ⟨m0, F, Γ, s, h0⟩, fun m σ H ⟨F', Γ', st, hi⟩ => ?_⟩
  refine hs m Γ' hi e F' σ H st _ fun b F2 H2 kb g2 => ?_
  cases b with
  | false => exact c.nx F2 σ H2 Γ' (kb.2 rfl) (st.grow g2)
  | true =>
    refine ⟨fun σ3 H3 => ∃ F3 Γ3, State Y e F3 σ3 H3 Γ3 ∧ ∃ m', m' < m ∧ I m' Γ3, fun σ3 H3 ⟨F3, Γ3, st3, m', hm, q⟩ => ⟨m', hm, F3, Γ3, st3, q⟩, ?_⟩
    exact kb.1 rfl e F2 σ H2 _ hM (st.grow g2) ⟨fun F3 σ3 H3 Γ3 k3 st3 => ⟨F3, Γ3, st3, k3⟩, c.rt, c.nx, fun F3 σ3 H3 Γ3 k3 st3 => ⟨F3, Γ3, st3, k3⟩⟩
/-! truth of a list -/
theorem t_truL {kb : Bool → Prop} (h : R Y ta Γ (dList (d := d)) fun xs => kb (!xs.isEmpty)) : T Y (fun σ H Q => ta σ H fun x H' => ∃ k, TruV Y.K x H' k ∧ Q k H') Γ kb := fun e F σ H s Q q => h e F σ H s _ fun v F' H' xs kx g ⟨a, vs, e1, hs, r⟩ => by
  subst e1
  refine ⟨_, .inl ⟨vs, hs, rfl⟩, q _ F' H' ?_ g⟩
  have e : vs.isEmpty = xs.isEmpty := by
    have := r.len
    cases vs <;> cases xs <;> simp_all
  rw [e]
  exact kx

/-! ### calls -/
/-- a def over data that it leaves as they are -/
def Fn (C : GCtx) (Γ : List Cell) (post : Cell → Prop) (vs : List V) (H : Hp) (Q : VK) : Prop :=
  ∃ F, Gr F H F H ∧ Slots C F (vs.map some) Γ [] ∧ ∀ v F' H' c L, post c → Wk ⟨F, H, []⟩ F' L H' → CellOk C F' (some v) c L → Q v H'
theorem Fn.len {post : Cell → Prop} {vs : List V} {H : Hp} {Q : VK} (h : Fn C Γ post vs H Q) : vs.length = Γ.length := by
  obtain ⟨F, _, s, _⟩ := h
  simpa using s.len
theorem Fn.mono {post post' : Cell → Prop} {vs : List V} {H : Hp} {Q : VK} (h : Fn C Γ post vs H Q) (m : ∀ c, post' c → post c) : Fn C Γ post' vs H Q := by
  obtain ⟨F, g, s, q⟩ := h
  exact ⟨F, g, s, fun v F' H' c L p => q v F' H' c L (m c p)⟩
/-- sp serves the cells, and its answers are as post says -/
def SpW (C : GCtx) (sp : Sp) (cs : List Cell) (post : Cell → Prop) : Prop := ∀ vs H Q E, Fn C cs post vs H Q → sp vs H Q E
/-- what is new in H' joins F -/
def fresh (F H F' : Hp) : Hp := fun a => if (H a).isSome = true then F a else F' a
theorem fresh_gr {F F1 H F' H' : Hp} {L : LO} (b : Gr F H F H) (g : Wk ⟨F1, H, []⟩ F' L H') : Wk ⟨F, H, []⟩ (fresh F H F') L H' where
  ff := fun a o h => by
    have h2 : (H a).isSome = true := by rw [b.fh a o h]; rfl
    unfold fresh; rw [if_pos h2]; exact h
  hh := g.hh
  th := g.th
  fh := fun a o h => by
    unfold fresh at h
    split at h
    · exact g.hh a o (fun z => nomatch z) (b.fh a o h)
    · exact g.fh a o h
  nw := fun a h h' => by
    unfold fresh
    have h2 : (H a).isSome = true := by cases q : H a with | none => exact absurd q h | some o => rfl
    rw [if_pos h2]; exact h'
  tp := fun a xs h => by
    unfold fresh
    split
    · next h2 =>
      cases q : H a with
      | none => rw [q] at h2; cases h2
      | some o =>
        have := g.hh a o (fun z => nomatch z) q
        rw [h] at this
        cases (Option.some.inj this)
        exact b.tp a xs q
    · exact g.tp a xs h
  ow := fun p hp => by
    obtain ⟨h1, h2, h3⟩ := g.ow p hp
    have h4 : H p.1 = none := h3.resolve_right (fun z => nomatch z)
    refine ⟨?_, h2, .inl h4⟩
    unfold fresh
    rw [if_neg (by rw [h4]; exact fun z => nomatch z)]
    exact h1
  nd := g.nd
theorem Gr.all {F H : Hp} (b : Gr F H F H) : Gr H H H H := ⟨Same.refl _, fun _ _ _ h => h, fun _ h => h, Same.refl _, fun _ _ h => h, fun _ _ h => h, fun _ h => (nomatch h), List.nodup_nil⟩
/-- owned data that lean on nothing but what stands still -/
class OIm (α : Type) [d : Dat α] (od : OD α) : Prop where
  oimm : ∀ {C : GCtx} {F H : Hp} {v : V} {x : α} {L : LO}, (∀ a xs, H a = some (.tup xs) → F a = some (.tup xs)) → od.orep C H v x L → od.orep C F v x L
instance mList {α : Type} [d : Dat α] [i : Imm α] : OIm (List α) oList := ⟨fun t ⟨a, vs, e, h, r⟩ => ⟨a, vs, e, h, r.imm t⟩⟩
theorem slots_pad {C : GCtx} {F : Hp} : ∀ n, Slots C F (List.replicate n none) (List.replicate n .no) [] := by
  intro n
  induction n with
  | zero => exact .nil
  | succ n ih => exact .cons (L := []) rfl ih
theorem slots_app {C : GCtx} {F : Hp} {σ1 σ2 : St} {Γ1 Γ2 : List Cell} {L1 L2 : LO} (a : Slots C F σ1 Γ1 L1) (b : Slots C F σ2 Γ2 L2) : Slots C F (σ1 ++ σ2) (Γ1 ++ Γ2) (L1 ++ L2) := by
  induction a with
  | nil => exact b
  | cons h r ih => rw [List.append_assoc]; exact .cons h ih
/-- a def over data that it leaves as they are, which may let exceptions out -/
def FnX (C : GCtx) (Γ : List Cell) (post : Cell → Prop) (xp : Exn → Prop) (vs : List V) (H : Hp) (Q : VK) (E : XK) : Prop :=
  ∃ F, Gr F H F H ∧ Slots C F (vs.map some) Γ [] ∧ (∀ v F' H' c L, post c → Wk ⟨F, H, []⟩ F' L H' → CellOk C F' (some v) c L → Q v H') ∧
    ∀ x d F' H', xp x → Wk ⟨F, H, []⟩ F' [] H' → x.at F' d → E (.ref x.cls) d H'
theorem FnX.fn {post : Cell → Prop} {xp : Exn → Prop} {vs : List V} {H : Hp} {Q : VK} {E : XK} (h : FnX C Γ post xp vs H Q E) : Fn C Γ post vs H Q := let ⟨F, g, s, q, _⟩ := h; ⟨F, g, s, q⟩
theorem FnX.len {post : Cell → Prop} {xp : Exn → Prop} {vs : List V} {H : Hp} {Q : VK} {E : XK} (h : FnX C Γ post xp vs H Q E) : vs.length = Γ.length := h.fn.len
theorem FnX.mono {post post' : Cell → Prop} {xp xp' : Exn → Prop} {vs : List V} {H : Hp} {Q : VK} {E : XK} (h : FnX C Γ post xp vs H Q E) (m : ∀ c, post' c → post c) (mx : ∀ x, xp' x → xp x) : FnX C Γ post' xp' vs H Q E := by
  obtain ⟨F, g, s, q, qx⟩ := h
  exact ⟨F, g, s, fun v F' H' c L p => q v F' H' c L (m c p), fun x d F' H' p => qx x d F' H' (mx x p)⟩
theorem Fn.x {post : Cell → Prop} {vs : List V} {H : Hp} {Q : VK} {E : XK} (h : Fn C Γ post vs H Q) : FnX C Γ post (fun _ => False) vs H Q E := let ⟨F, g, s, q⟩ := h; ⟨F, g, s, q, fun _ _ _ _ z => z.elim⟩
def SpX (C : GCtx) (sp : Sp) (cs : List Cell) (post : Cell → Prop) (xp : Exn → Prop) : Prop := ∀ vs H Q E, FnX C cs post xp vs H Q E → sp vs H Q E
theorem SpX.w {sp : Sp} {cs : List Cell} {post : Cell → Prop} (h : SpX C sp cs post fun _ => False) : SpW C sp cs post := fun vs H Q E f => h vs H Q E f.x
theorem FnX.body {N : List Str} {post : Cell → Prop} {xp : Exn → Prop} {vs : List V} {H : Hp} {Q : VK} {E : XK} {t : TS} (h : FnX C Γ post xp vs H Q E)
    (hz : Z ⟨C, fun _ => E, fun x _ => xp x⟩ t (Γ ++ List.replicate (N.length - Γ.length) .no) { nx := fun _ => post (.val dUnit ()), rt := fun c _ => post c, bk := fun _ => False, ct := fun _ => False }) : t { nx := fun _ H' => Q .non H', rt := Q } (L2.start N vs) H := by
  have hl := h.len
  obtain ⟨F, g, s, q, qx⟩ := h
  have st : State ⟨C, fun _ => E, fun x _ => xp x⟩ ⟨F, H, []⟩ F (L2.start N vs) H (Γ ++ List.replicate (N.length - Γ.length) .no) := by
    refine ⟨fun x d F' σ' H' Γ' k ⟨L, kw, _⟩ hd => qx x d F' H' k (kw.sub (fun _ z => nomatch z) List.nodup_nil) hd, [], g, ?_⟩
    unfold L2.start
    rw [← hl]
    exact slots_app s (slots_pad _)
  refine hz ⟨F, H, []⟩ F (L2.start N vs) H _ rfl st ⟨fun F' σ' H' Γ' p s' => ?_, fun F' σ' H' Γ' v c L L' p kw rc sl => ?_, fun _ _ _ _ z => z.elim, fun _ _ _ _ z => z.elim⟩
  · obtain ⟨_, L, kw, _⟩ := s'
    refine q .non F' H' (.val dUnit ()) [] p (kw.sub (fun _ z => nomatch z) List.nodup_nil) ⟨rfl, .non, rfl, rfl⟩
  · have nd : (L.map Prod.fst).Nodup := by
      have := kw.nd
      rw [List.map_append] at this
      exact (List.nodup_append.mp this).1
    exact q v F' H' c L p (kw.sub (fun p hp => List.mem_append_left _ hp) nd) rc
/-- THE BODY of such a def -/
theorem Fn.body {N : List Str} {post : Cell → Prop} {vs : List V} {H : Hp} {Q : VK} {t : TS} (h : Fn C Γ post vs H Q)
    (hz : Z (calm C) t (Γ ++ List.replicate (N.length - Γ.length) .no) { nx := fun _ => post (.val dUnit ()), rt := fun c _ => post c, bk := fun _ => False, ct := fun _ => False }) : t { nx := fun _ H' => Q .non H', rt := Q } (L2.start N vs) H := FnX.body (E := fun _ _ _ => False) h.x hz
/-! calls that may raise -/
theorem w_callX {sp : Sp} {E : St → XK} {tl : TA} {kx : α → Prop} (hE : E = Y.E) (h : WA Y tl Γ fun cs => SpX Y.g sp cs (fun c => ∃ r, c = .val d r ∧ kx r) fun x => Y.kx x Γ) : W Y (tCallS sp E tl) Γ d kx := fun e F σ H s Q q => h e F σ H s _ fun vs F1 H1 cs hc g1 sl => by
  subst hE
  refine hc vs H1 Q _ ⟨F1, g1.base, sl, fun v F' H' c L ⟨r, ec, kr⟩ g2 rc => ?_, fun x d F' H' kx' g2 hd => ?_⟩
  · subst ec
    obtain ⟨e1, v', e2, rv⟩ := rc
    subst e1
    cases (Option.some.inj e2)
    exact q v F' H' r kr (g1.trans0 g2) rv
  · exact s.1 x d F' σ H' Γ kx' ((s.grow g1).grow g2).2 hd
theorem o_callX {sp : Sp} {E : St → XK} {tl : TA} {od : @OD α d} {kx : α → Prop} (hE : E = Y.E) (h : WA Y tl Γ fun cs => SpX Y.g sp cs (fun c => ∃ r, c = .own d od none r ∧ kx r) fun x => Y.kx x Γ) : O Y (tCallS sp E tl) Γ od kx := fun e F σ H s Q q => h e F σ H s _ fun vs F1 H1 cs hc g1 sl => by
  subst hE
  refine hc vs H1 Q _ ⟨F1, g1.base, sl, fun v F' H' c L ⟨r, ec, kr⟩ g2 rc => ?_, fun x d F' H' kx' g2 hd => ?_⟩
  · subst ec
    obtain ⟨v', e2, _, rv⟩ := rc
    cases (Option.some.inj e2)
    exact q v F' H' L r kr (by simpa using g1.trans g2) rv
  · exact s.1 x d F' σ H' Γ kx' ((s.grow g1).grow g2).2 hd
end
end G

/-! G4: comprehensions, sorted, isinstance, equality, sets and dicts. -/
namespace G
open PySem L2

/-! ### targets that touch but their own slots -/
def Tg (g : TG) (js : List Nat) : Prop := ∀ v σ H (Q : St → Hp → Prop), g v σ H Q → g v σ H fun σ' H' => wipe σ' js = wipe σ js ∧ Q σ' H'
theorem set_comm {α : Type _} (l : List α) {i j : Nat} (a b : α) (h : i ≠ j) : (l.set i a).set j b = (l.set j b).set i a := by
  apply List.ext_getElem?
  intro m
  simp only [List.getElem?_set, List.length_set]
  by_cases h1 : j = m <;> by_cases h2 : i = m <;> simp_all
theorem wipe_at {σ : St} {i : Nat} {o : Option V} : ∀ {js : List Nat}, i ∈ js → wipe (σ.set i o) js = wipe σ js
  | [], h => nomatch h
  | j :: js, h => by
    unfold wipe
    by_cases hi : i ∈ js
    · rw [wipe_at hi]
    · have e : i = j := by
        rcases List.mem_cons.mp h with h | h
        · exact h
        · exact absurd h hi
      subst e
      have q : ∀ (js : List Nat), i ∉ js → wipe (σ.set i o) js = (wipe σ js).set i o := by
        intro js
        induction js with
        | nil => intro _; rfl
        | cons m js ih =>
          intro h
          unfold wipe
          rw [ih (fun z => h (List.mem_cons_of_mem _ z)), set_comm _ _ _ (fun z => h (by rw [z]; exact List.mem_cons_self))]
      rw [q js hi]
      exact List.set_set _
theorem tg_name {i : Nat} {js : List Nat} (h : i ∈ js) : Tg (gName i) js := fun v σ H Q q => ⟨wipe_at h, q⟩
def MoG (g : TG) : Prop := ∀ v σ H (Q Q' : St → Hp → Prop), (∀ σ H, Q σ H → Q' σ H) → g v σ H Q → g v σ H Q'
theorem mo_name {i : Nat} : MoG (gName i) := fun _ _ _ _ _ m q => m _ _ q
theorem tg_name' {i : Nat} {js : List Nat} (h : i ∈ js) : Tg (gName i) js ∧ MoG (gName i) := ⟨tg_name h, mo_name⟩
def wipeC (Γ : List Cell) : List Nat → List Cell
  | [] => Γ
  | v :: vs => (wipeC Γ vs).set v .no
section
variable {C : GCtx} {Y : YC} {e : En} {F F' : Hp} {σ : St} {H H' : Hp} {Γ : List Cell}
theorem State.len (s : State Y e F σ H Γ) : σ.length = Γ.length := let ⟨_, _, _, sl⟩ := s; sl.len
theorem State.wipe (s : State Y e F σ H Γ) : ∀ vs : List Nat, State Y e F (wipe σ vs) H (wipeC Γ vs)
  | [] => s
  | v :: vs => by
    have ih := State.wipe s vs
    unfold L2.wipe wipeC
    cases q : (wipeC Γ vs)[v]? with
    | some c => exact ih.forget q
    | none =>
      have h1 : (wipeC Γ vs).length ≤ v := List.getElem?_eq_none_iff.mp q
      have h2 : (L2.wipe σ vs).length ≤ v := by rw [ih.len]; exact h1
      rw [List.set_eq_of_length_le h1, List.set_eq_of_length_le h2]
      exact ih
theorem State.growL {L' : LO} (s : State Y e F σ H Γ) (g : Wk ⟨F, H, []⟩ F' L' H') : State Y e F' σ H' Γ := by
  obtain ⟨hx, L, k, sl⟩ := s
  have k2 := k.trans g
  have k3 : Wk e F' ([] ++ L' ++ L) H' := by simpa using k2
  exact ⟨hx, L, by simpa using k3.drop, sl.mono g.ff⟩
end

/-! ### comprehensions -/
section
variable {C : GCtx} {Y : YC} {Γ : List Cell} {te ta tb tc : TE} {t u tt : TT} {α β γ δ : Type} {d1 : Dat α} {d : Dat α} {d2 : Dat β} {k : Ks} {t1 t2 ts : TS} {g : TG}

def CompB (Y : YC) (g : TG) (tt : TT) (te : TE) {α β : Type} (d : Dat α) (d2 : Dat β) (kx : List β → Prop) (get : Nat → Option α) (n : Nat) (Γ : List Cell) : Prop :=
  ∃ I : Nat → List β → Prop, I 0 [] ∧ (∀ i x ys, get i = some x → I i ys → A Y g Γ d x fun Γ2 => T Y tt Γ2 fun b => (b = true → W Y te Γ2 d2 fun y => ys.length < PySem.sizeLine ∧ I (i + 1) (ys ++ [y])) ∧ (b = false → I (i + 1) ys)) ∧ ∀ ys, I n ys → kx ys
/-- one turn -/
theorem comp_turn {e : En} {F1 : Hp} {σ : St} {H1 : Hp} {vs : List Nat} {D : Addr} {x : α} {v : V} {I I' : List β → Prop} (s1 : State Y e F1 σ H1 Γ) (hT : Tg g vs)
    (hs : ∀ ys, I ys → A Y g (wipeC Γ vs) d x fun Γ2 => T Y tt Γ2 fun b => (b = true → W Y te Γ2 d2 fun y => ys.length < PySem.sizeLine ∧ I' (ys ++ [y])) ∧ (b = false → I' ys)) (rx : ∀ F', Same F1 F' → d.rep Y.g F' v x) {H : Hp}
    (h : ∃ F' acc ys, Wk ⟨F1, H1, []⟩ F' [(D, .lst acc)] H ∧ Reps d2 Y.g F' acc ys ∧ I ys) :
    g v (wipe σ vs) H fun σ2 H2 => wipe σ2 vs = wipe σ vs ∧ tt σ2 H2 fun b H3 =>
      if b = true then te σ2 H3 fun y H4 => ∃ acc, H4 D = some (.lst acc) ∧ acc.length < PySem.sizeLine ∧ (∃ F' acc' ys, Wk ⟨F1, H1, []⟩ F' [(D, .lst acc')] (upd H4 D (.lst (acc ++ [y]))) ∧ Reps d2 Y.g F' acc' ys ∧ I' ys) else (∃ F' acc ys, Wk ⟨F1, H1, []⟩ F' [(D, .lst acc)] H3 ∧ Reps d2 Y.g F' acc ys ∧ I' ys) := by
  obtain ⟨F', acc, ys, kw, r, hi⟩ := h
  have st := (s1.growL kw).wipe vs
  have ww : ∀ σ0 : St, wipe (wipe σ0 vs) vs = wipe σ0 vs := by
    intro σ0
    have : ∀ (l : List Nat) (σ1 : St), (∀ j ∈ l, (σ1[j]? = none ∨ σ1[j]? = some none)) → wipe σ1 l = σ1 := by
      intro l
      induction l with
      | nil => intro _ _; rfl
      | cons j l ih =>
        intro σ1 hj
        unfold wipe
        rw [ih σ1 fun m hm => hj m (List.mem_cons_of_mem _ hm)]
        apply List.ext_getElem?
        intro m
        rw [List.getElem?_set]
        by_cases hm : j = m
        · subst hm
          rcases hj j List.mem_cons_self with z | z
          · rw [z, if_pos rfl, if_neg (Nat.not_lt.mpr (List.getElem?_eq_none_iff.mp z))]
          · rw [z, if_pos rfl, if_pos (List.getElem?_eq_some_iff.mp z).1]
        · rw [if_neg hm]
    refine this vs _ fun j hj => ?_
    cases q : (wipe σ0 vs)[j]? with
    | none => exact .inl rfl
    | some o =>
      cases o with
      | none => exact .inr rfl
      | some y => exact absurd hj (wipe_some q).2
  have key := hs ys hi e F' _ H v st (rx F' kw.ff) (fun σ2 H2 => tt σ2 H2 fun b H3 =>
      if b = true then te σ2 H3 fun y H4 => ∃ acc, H4 D = some (.lst acc) ∧ acc.length < PySem.sizeLine ∧ (∃ F' acc' ys, Wk ⟨F1, H1, []⟩ F' [(D, .lst acc')] (upd H4 D (.lst (acc ++ [y]))) ∧ Reps d2 Y.g F' acc' ys ∧ I' ys) else (∃ F' acc ys, Wk ⟨F1, H1, []⟩ F' [(D, .lst acc)] H3 ∧ Reps d2 Y.g F' acc ys ∧ I' ys)) fun σ2 Γ2 h2 st2 => by
    refine h2 e F' σ2 H st2 _ fun b F3 H3 kb g3 => ?_
    have kw3 := kw.trans0 g3
    cases b with
    | false => exact ⟨F3, acc, ys, kw3, r.mono g3.ff, kb.2 rfl⟩
    | true =>
      refine kb.1 rfl e F3 σ2 H3 (st2.grow g3) _ fun y F4 H4 yv ⟨hl, ky⟩ g4 ry => ?_
      have kw4 := kw3.trans0 g4
      have hD : H4 D = some (.lst acc) := (kw4.ow (D, .lst acc) (by simp)).2.1
      exact ⟨acc, hD, by rw [r.len]; exact hl, F4, acc ++ [y], ys ++ [yv], kw4.put (fun _ z => by cases z), (r.mono (g3.ff.trans g4.ff)).append (Reps.one ry), ky⟩
  have key2 := hT v _ H _ key
  rw [ww] at key2
  exact key2
theorem o_lcR {vs : List Nat} {kx : List β → Prop} (hT : Tg g vs ∧ MoG g) (h : R Y ta Γ dInt fun n => -(2 ^ 62) ≤ n ∧ n < 2 ^ 62 ∧ CompB Y g tt te dInt d2 kx (rng 0 n.toNat) n.toNat (wipeC Γ vs)) : O Y (tLc (iRng1 (tCons ta tNil)) g tt te vs) Γ (oList (d := d2)) kx := fun e F σ H s Q q => h e F σ H s _ fun v F1 H1 n ⟨l1, l2, I, h0, hs, hd⟩ g1 r1 => by
  cases (show v = .int n from r1)
  refine ⟨n, rfl, l1, l2, fun D hD => ?_⟩
  have kw0 : Wk ⟨F1, H1, []⟩ F1 [(D, .lst [])] (upd H1 D (.lst [])) := g1.base.own hD (fun _ z => by cases z)
  refine lc_range (lo := 0) (n := n.toNat) (fun i H => ∃ F' acc ys, Wk ⟨F1, H1, []⟩ F' [(D, .lst acc)] H ∧ Reps d2 Y.g F' acc ys ∧ I i ys) ⟨F1, [], [], kw0, trivial, h0⟩ (fun i H hw p => ?_) fun H ⟨F', acc, ys, kw, ra, hi⟩ => ?_
  · exact comp_turn (d := dInt) (s.grow g1) hT.1 (hs i (0 + i) · (by unfold rng; rw [if_pos hw])) (fun F' sm => rfl) p
  · exact q _ F' H _ ys (hd ys hi) (by simpa using g1.trans kw) ⟨D, acc, rfl, rfl, ra⟩
/-- no test -/
theorem t_yes {kb : Bool → Prop} (h : kb true) : T Y tYes Γ kb := fun e F σ H s Q q => q true F H h s.base
theorem getElem?_filterTake {α : Type} (p : α → Bool) (xs : List α) {i : Nat} {x : α} (h : xs[i]? = some x) : (xs.take (i + 1)).filter p = (xs.take i).filter p ++ (if p x then [x] else []) := by
  rw [List.take_add_one, h, List.filter_append]
  congr 1
  cases hp : p x <;> simp [hp]
def rngL (lo : Int) (n : Nat) : List Int := (List.range n).map fun i : Nat => lo + (i : Int)
theorem rng_get (lo : Int) (n i : Nat) : rng lo n i = (rngL lo n)[i]? := by
  unfold rng rngL
  rw [List.getElem?_map]
  by_cases h : i < n
  · rw [if_pos h, List.getElem?_range h]; rfl
  · rw [if_neg h, List.getElem?_eq_none (by simpa using h)]; rfl
theorem rngL_len (lo : Int) (n : Nat) : (rngL lo n).length = n := by simp [rngL]

/-! ### sorted -/
/-! ### isinstance -/
class Ty (α : Type) [d : Dat α] where
  tn : String
  ty : ∀ {C : GCtx} {H : Hp} {v : V} {x : α}, d.rep C H v x → TyX C.K H v (.type tn)
instance tyInt : Ty Int := ⟨"int", fun {C H v x} h => by cases (show v = .int x from h); exact .base (.int x)⟩
instance tyBool : Ty Bool := ⟨"bool", fun {C H v x} h => by cases (show v = .bl x from h); exact .base (.bl x)⟩
instance tyStr : Ty Str := ⟨"str", fun {C H v x} h => by cases (show v = .str x from h); exact .base (.str x)⟩
theorem ty_sql {K : PySem.W.Frag} {H : Hp} {a : Addr} {xs : List V} (h : SqL K H a xs) : TyX K H (.ref a) (.type "list") := by
  rcases h with (h | ⟨o, h⟩) | ⟨o, its, n, h, hc, _⟩
  · exact .base (.lst h)
  · exact .base (.frz h)
  · exact .kList h hc
theorem ty_tpa {K : PySem.W.Frag} {H : Hp} {a : Addr} {xs : List V} (h : TpA K H a xs) : TyX K H (.ref a) (.type "tuple") := by
  rcases h with h | (h | ⟨o, h⟩) | ⟨o, its, n, h, hc, _⟩
  · exact .base (.tup h)
  · cases h
  · cases h
  · exact .kTuple h hc
instance tyList {α : Type} [d : Dat α] : Ty (List α) := ⟨"list", fun ⟨a, vs, e, h, r⟩ => by subst e; exact ty_sql (.inl h)⟩
instance tyTup {α : Type} [d : Dat α] : Ty (Tup α) := ⟨"tuple", fun ⟨a, vs, e, h, r⟩ => by subst e; exact ty_tpa h⟩
instance tyPair {α β : Type} [d1 : Dat α] [d2 : Dat β] : Ty (α × β) := ⟨"tuple", fun ⟨a, _, _, e, h, _⟩ => by subst e; exact ty_tpa h⟩
instance tyT3 {α β γ : Type} [d1 : Dat α] [d2 : Dat β] [d3 : Dat γ] : Ty (T3 α β γ) := ⟨"tuple", fun ⟨a, _, _, _, e, h, _⟩ => by subst e; exact ty_tpa h⟩
instance tyT4 {α β γ δ : Type} [d1 : Dat α] [d2 : Dat β] [d3 : Dat γ] [d4 : Dat δ] : Ty (T4 α β γ δ) := ⟨"tuple", fun ⟨a, _, _, _, _, e, h, _⟩ => by subst e; exact ty_tpa h⟩
theorem w_isi [ty : @Ty α d] {c : String} {b : Bool} {kx : Bool → Prop} (hk : PySem.W.kitOne Y.K (.type ty.tn) (.type c) = some b) (h : R Y ta Γ d fun _ => kx b) : W Y (tCB (rIsi Y.K) (tCons ta (tCons (tC (.ty c)) tNil))) Γ dBool kx := fun e F σ H s Q q => h e F σ H s _ fun v F' H' x kx g r =>
  ⟨v, .ty c, .type ty.tn, .type c, b, rfl, .ty c, ty.ty r, hk, q _ F' H' b kx g rfl⟩

/-! ### equality of data -/
class DE (α : Type) [d : Dat α] where
  toD : α → PyData
  dep : Nat
  dp : ∀ {C : GCtx} {H : Hp} {v : V} {x : α}, d.rep C H v x → Dp C.K H v (toD x)
  lay : ∀ x, (toD x).plain = true
  deep : ∀ x, (toD x).depth ≤ dep
  eqv : ∀ x y, PyData.eqv (toD x) (toD y) = true ↔ x = y
instance deInt : DE Int := ⟨.int, 1, fun {C H v x} h => by cases (show v = .int x from h); exact .int x, fun _ => by simp [PyData.plain], fun _ => by simp [PyData.depth], fun x y => by simp [PyData.eqv]⟩
instance deStr : DE Str := ⟨.str, 1, fun {C H v x} h => by cases (show v = .str x from h); exact .str x, fun _ => by simp [PyData.plain], fun _ => by simp [PyData.depth], fun x y => by simp [PyData.eqv]⟩
instance deBool : DE Bool := ⟨.bool, 1, fun {C H v x} h => by cases (show v = .bl x from h); exact .bl x, fun _ => by simp [PyData.plain], fun _ => by simp [PyData.depth], fun x y => by simp [PyData.eqv]⟩
theorem dpAll_of [de : @DE α d] {H : Hp} : ∀ {vs : List V} {xs : List α}, Reps d C H vs xs → DpAll C.K H vs (xs.map de.toD)
  | [], [], _ => .nil
  | _ :: _, _ :: _, h => .cons (de.dp h.1) (dpAll_of h.2)
  | [], _ :: _, h => h.elim
  | _ :: _, [], h => h.elim
theorem eqvAll_of [de : @DE α d] : ∀ xs ys : List α, PyData.eqvAll (xs.map de.toD) (ys.map de.toD) = true ↔ xs = ys
  | [], [] => by simp [PyData.eqvAll]
  | x :: xs, y :: ys => by simp [PyData.eqvAll, de.eqv, eqvAll_of xs ys]
  | [], _ :: _ => by simp [PyData.eqvAll]
  | _ :: _, [] => by simp [PyData.eqvAll]
theorem layAll_of [de : @DE α d] : ∀ xs : List α, PyData.plainAll (xs.map de.toD) = true
  | [] => by simp [PyData.plainAll]
  | x :: xs => by simp [PyData.plainAll, de.lay, layAll_of xs]
theorem depAll_of [de : @DE α d] : ∀ xs : List α, PyData.depthAll (xs.map de.toD) ≤ de.dep
  | [] => by simp [PyData.depthAll]
  | x :: xs => by
    simp only [List.map_cons, PyData.depthAll]
    exact Nat.max_le.mpr ⟨de.deep x, depAll_of xs⟩
instance deList [de : @DE α d] : @DE (List α) dList :=
  ⟨fun xs => .list (xs.map de.toD), de.dep + 1, fun ⟨a, vs, e, h, r⟩ => by subst e; exact .lst h (dpAll_of r), fun xs => by simp [PyData.plain, layAll_of], fun xs => by simp [PyData.depth, depAll_of], fun xs ys => by simp [PyData.eqv, eqvAll_of]⟩
instance deTup [de : @DE α d] : @DE (Tup α) dTup :=
  ⟨fun xs => .tuple (xs.l.map de.toD), de.dep + 1, fun ⟨a, vs, e, h, r⟩ => by subst e; exact .tup h.sq (dpAll_of r), fun xs => by simp [PyData.plain, layAll_of], fun xs => by simp [PyData.depth, depAll_of], fun xs ys => by
    obtain ⟨xs⟩ := xs
    obtain ⟨ys⟩ := ys
    simp [PyData.eqv, eqvAll_of]⟩
instance dePair {α β : Type} {d1 : Dat α} {d2 : Dat β} [de1 : @DE α d1] [de2 : @DE β d2] : @DE (α × β) dPair :=
  ⟨fun x => .tuple [de1.toD x.1, de2.toD x.2], max de1.dep de2.dep + 1, fun ⟨a, v1, v2, e, h, r1, r2⟩ => by subst e; exact .tup h.sq (.cons (de1.dp r1) (.cons (de2.dp r2) .nil)), fun x => by simp [PyData.plain, PyData.plainAll, de1.lay, de2.lay],
    fun x => by have h1 := de1.deep x.1; have h2 := de2.deep x.2; simp [PyData.depth, PyData.depthAll]; omega, fun x y => by
    obtain ⟨x1, x2⟩ := x
    obtain ⟨y1, y2⟩ := y
    simp [PyData.eqv, PyData.eqvAll, de1.eqv, de2.eqv]⟩
instance deT3 {α β γ : Type} {d1 : Dat α} {d2 : Dat β} {d3 : Dat γ} [de1 : @DE α d1] [de2 : @DE β d2] [de3 : @DE γ d3] : @DE (T3 α β γ) dT3 :=
  ⟨fun x => .tuple [de1.toD x.a, de2.toD x.b, de3.toD x.c], max de1.dep (max de2.dep de3.dep) + 1, fun ⟨a, v1, v2, v3, e, h, r1, r2, r3⟩ => by subst e; exact .tup h.sq (.cons (de1.dp r1) (.cons (de2.dp r2) (.cons (de3.dp r3) .nil))), fun x => by simp [PyData.plain, PyData.plainAll, de1.lay, de2.lay, de3.lay],
    fun x => by have h1 := de1.deep x.a; have h2 := de2.deep x.b; have h3 := de3.deep x.c; simp [PyData.depth, PyData.depthAll]; omega, fun x y => by
    obtain ⟨x1, x2, x3⟩ := x
    obtain ⟨y1, y2, y3⟩ := y
    simp [PyData.eqv, PyData.eqvAll, de1.eqv, de2.eqv, de3.eqv]⟩
instance deT4 {α β γ δ : Type} {d1 : Dat α} {d2 : Dat β} {d3 : Dat γ} {d4 : Dat δ} [de1 : @DE α d1] [de2 : @DE β d2] [de3 : @DE γ d3] [de4 : @DE δ d4] : @DE (T4 α β γ δ) dT4 :=
  ⟨fun x => .tuple [de1.toD x.a, de2.toD x.b, de3.toD x.c, de4.toD x.d], max de1.dep (max de2.dep (max de3.dep de4.dep)) + 1, fun ⟨a, v1, v2, v3, v4, e, h, r1, r2, r3, r4⟩ => by subst e; exact .tup h.sq (.cons (de1.dp r1) (.cons (de2.dp r2) (.cons (de3.dp r3) (.cons (de4.dp r4) .nil)))), fun x => by simp [PyData.plain, PyData.plainAll, de1.lay, de2.lay, de3.lay, de4.lay],
    fun x => by have h1 := de1.deep x.a; have h2 := de2.deep x.b; have h3 := de3.deep x.c; have h4 := de4.deep x.d; simp [PyData.depth, PyData.depthAll]; omega, fun x y => by
    obtain ⟨x1, x2, x3, x4⟩ := x
    obtain ⟨y1, y2, y3, y4⟩ := y
    simp [PyData.eqv, PyData.eqvAll, de1.eqv, de2.eqv, de3.eqv, de4.eqv]⟩
/-! ### sets of ints -/
structure IS where
  l : List Int
def isAdd (s : IS) (k : Int) : IS := if k ∈ s.l then s else ⟨s.l ++ [k]⟩
def SetOk (S : Int → Bool) (n : Nat) (s : IS) : Prop := (∀ k, S k = decide (k ∈ s.l)) ∧ n = s.l.length
instance dSet : Dat IS := ⟨fun C F v s => ∃ a S n, v = .ref a ∧ F a = some (SetO C.w a S n) ∧ SetOk S n s, fun m ⟨a, S, n, e, h, o⟩ => ⟨a, S, n, e, m _ _ h, o⟩⟩
instance oSet : OD IS where
  orep C F v s L := ∃ a S n, v = .ref a ∧ L = [(a, SetO C.w a S n)] ∧ SetOk S n s
  omono m := fun h => h
  view := fun ⟨a, S, n, e, h, o⟩ m k => ⟨a, S, n, e, k (a, SetO _ a S n) (by rw [h]; exact List.mem_cons_self), o⟩
/-! ### dicts by ints -/
structure DI (β : Type) where
  kv : List (Int × β)
def KReps {β : Type} (d : Dat β) (C : GCtx) (F : Hp) : List (Key × V) → List (Int × β) → Prop
  | [], [] => True
  | p :: ps, x :: xs => p.1 = Sum.inl x.1 ∧ d.rep C F p.2 x.2 ∧ KReps d C F ps xs
  | _, _ => False
section
variable {F F' : Hp}
theorem KReps.mono (s : Same F F') : ∀ {ps : List (Key × V)} {xs : List (Int × α)}, KReps d C F ps xs → KReps d C F' ps xs
  | [], [], _ => trivial
  | _ :: _, _ :: _, h => ⟨h.1, d.mono s h.2.1, KReps.mono s h.2.2⟩
  | [], _ :: _, h => h.elim
  | _ :: _, [], h => h.elim
theorem KReps.len : ∀ {ps : List (Key × V)} {xs : List (Int × α)}, KReps d C F ps xs → ps.length = xs.length
  | [], [], _ => rfl
  | _ :: _, _ :: _, h => by simp [KReps.len h.2.2]
  | [], _ :: _, h => h.elim
  | _ :: _, [], h => h.elim
theorem valV_cons {κ : Type} [DecidableEq κ] (p : κ × V) (ps : List (κ × V)) (k : κ) : valV (p :: ps) k = if p.1 = k then some p.2 else valV ps k := by
  unfold valV
  by_cases h : p.1 = k
  · rw [List.find?_cons_of_pos (by simp [h]), if_pos h]; rfl
  · rw [List.find?_cons_of_neg (by simp [h]), if_neg h]
theorem lookup_cons' {β : Type} (x : Int × β) (xs : List (Int × β)) (k : Int) : (x :: xs).lookup k = if x.1 = k then some x.2 else xs.lookup k := by
  obtain ⟨a, b⟩ := x
  rw [List.lookup_cons]
  by_cases h : a = k
  · subst h; simp
  · have : (k == a) = false := by simp; exact fun z => h z.symm
    rw [this]; simp [h]
theorem KReps.look : ∀ {ps : List (Key × V)} {xs : List (Int × α)} (k : Int), KReps d C F ps xs → (∀ x, xs.lookup k = some x → ∃ v, valV ps (Sum.inl k) = some v ∧ d.rep C F v x) ∧ (xs.lookup k = none → valV ps (Sum.inl k : Key) = none)
  | [], [], k, _ => ⟨fun _ h => (nomatch h), fun _ => rfl⟩
  | p :: ps, x :: xs, k, h => by
    rw [valV_cons, lookup_cons', h.1]
    by_cases hk : x.1 = k
    · rw [if_pos hk, if_pos (by rw [hk])]
      exact ⟨fun y e => ⟨p.2, rfl, by cases e; exact h.2.1⟩, fun z => (nomatch z)⟩
    · rw [if_neg hk, if_neg (fun z => hk (Sum.inl.inj z))]
      exact KReps.look k h.2.2
  | [], _ :: _, _, h => h.elim
  | _ :: _, [], _, h => h.elim
end
/-- d[k] = v on pairs -/
def putI {β : Type} (kv : List (Int × β)) (k : Int) (v : β) : List (Int × β) := if (kv.lookup k).isSome then kv.map (fun p => if p.1 = k then (k, v) else p) else kv ++ [(k, v)]
instance dDI {α : Type} [d : Dat α] : Dat (DI α) := ⟨fun C F v x => ∃ a ps, v = .ref a ∧ F a = some (.dK ps) ∧ KReps d C F ps x.kv, fun m ⟨a, ps, e, h, r⟩ => ⟨a, ps, e, m _ _ h, r.mono m⟩⟩
instance oDI {α : Type} [d : Dat α] : OD (DI α) where
  orep C F v x L := ∃ a ps, v = .ref a ∧ L = [(a, .dK ps)] ∧ KReps d C F ps x.kv
  omono m := fun ⟨a, ps, e, h, r⟩ => ⟨a, ps, e, h, r.mono m⟩
  view := fun ⟨a, ps, e, h, r⟩ m k => ⟨a, ps, e, k (a, .dK ps) (by rw [h]; exact List.mem_cons_self), r.mono m⟩
end
end G

section
set_option maxHeartbeats 2000000
/-! G5: lists or tuples; sorted of both; data owned within data. -/
namespace SrtO
open PySem PyProof.Rows Srt
section
variable {prog : Program} {w : World} {A : Around} {E : Value → Shared → Prop} {s : Shared}
end
end SrtO
namespace L2
open PySem PySem.Spec PyProof.Rows
section
variable {X : Cx}
end
end L2
namespace G
open PySem L2
/-! ### a list or a tuple, its items alike -/
structure Sq (α : Type) where
  l : List α
  deriving DecidableEq
instance dSq {α : Type} [d : Dat α] : Dat (Sq α) :=
  ⟨fun C F v xs => ∃ a vs, v = .ref a ∧ (SqL C.K F a vs ∨ TpA C.K F a vs) ∧ Reps d C F vs xs.l, fun s ⟨a, vs, e, h, r⟩ => ⟨a, vs, e, h.imp s.seq (·.mono s), r.mono s⟩⟩
section
variable {C : GCtx} {Y : YC} {Γ : List Cell} {te ta tb tc : TE} {t u tt : TT} {α β γ δ : Type} {d1 : Dat α} {d : Dat α} {d2 : Dat β} {k : Ks} {t1 t2 ts : TS} {g : TG}
theorem w_lenQ {k : Int → Prop} (h : R Y ta Γ (dSq (d := d)) fun xs => k (xs.l.length : Int)) : W Y (tCB (fun xs H Q => ∃ p ys, xs = [.ref p] ∧ (SqL Y.K H p ys ∨ SqT Y.K H p ys) ∧ Q (.int ys.length) H) (tCons ta tNil)) Γ dInt k := fun e F σ H s Q q => h e F σ H s _ fun v F' H' x kx g ⟨a, vs, e1, h1, r⟩ => by
  subst e1
  exact ⟨a, vs, rfl, h1.imp id (·.sq), q _ F' H' _ (by rw [r.len]; exact kx) g rfl⟩
/-! ### lists owned within lists, within dicts -/
/-- each item owned: their values, their footprints one behind the other -/
def OReps {α : Type} {d : Dat α} (od : OD α) (C : GCtx) (F : Hp) : List V → List α → LO → Prop
  | [], [], L => L = []
  | v :: vs, x :: xs, L => ∃ L1 L2, L = L1 ++ L2 ∧ od.orep C F v x L1 ∧ OReps od C F vs xs L2
  | _, _, _ => False
theorem OReps.mono {od : @OD α d} {F F' : Hp} (s : Same F F') : ∀ {vs : List V} {xs : List α} {L : LO}, OReps od C F vs xs L → OReps od C F' vs xs L
  | [], [], _, h => h
  | _ :: _, _ :: _, _, ⟨L1, L2, e, h1, h2⟩ => ⟨L1, L2, e, od.omono s h1, OReps.mono s h2⟩
  | [], _ :: _, _, h => h.elim
  | _ :: _, [], _, h => h.elim
theorem OReps.view {od : @OD α d} {F H : Hp} (s : Same F H) : ∀ {vs : List V} {xs : List α} {L : LO}, OReps od C F vs xs L → (∀ p ∈ L, H p.1 = some p.2) → Reps d C H vs xs
  | [], [], _, _, _ => trivial
  | _ :: _, _ :: _, _, ⟨L1, L2, e, h1, h2⟩, k => ⟨od.view h1 s fun p hp => k p (by rw [e]; exact List.mem_append_left _ hp), OReps.view s h2 fun p hp => k p (by rw [e]; exact List.mem_append_right _ hp)⟩
  | [], _ :: _, _, h, _ => h.elim
  | _ :: _, [], _, h, _ => h.elim
theorem OReps.len {od : @OD α d} {F : Hp} : ∀ {vs : List V} {xs : List α} {L : LO}, OReps od C F vs xs L → vs.length = xs.length
  | [], [], _, _ => rfl
  | _ :: _, _ :: _, _, ⟨_, _, _, _, h2⟩ => by simp [OReps.len h2]
  | [], _ :: _, _, h => h.elim
  | _ :: _, [], _, h => h.elim
theorem OReps.append {od : @OD α d} {F : Hp} {ws : List V} {ys : List α} {M : LO} : ∀ {vs : List V} {xs : List α} {L : LO}, OReps od C F vs xs L → OReps od C F ws ys M → OReps od C F (vs ++ ws) (xs ++ ys) (L ++ M)
  | [], [], _, h, g => by cases (show _ = [] from h); exact g
  | _ :: _, _ :: _, _, ⟨L1, L2, e, h1, h2⟩, g => ⟨L1, L2 ++ M, by rw [e, List.append_assoc], h1, OReps.append h2 g⟩
  | [], _ :: _, _, h, _ => h.elim
  | _ :: _, [], _, h, _ => h.elim
theorem OReps.one {od : @OD α d} {F : Hp} {v : V} {x : α} {L : LO} (h : od.orep C F v x L) : OReps od C F [v] [x] L := ⟨L, [], by simp, h, rfl⟩
theorem OReps.at {od : @OD α d} {F : Hp} : ∀ {vs : List V} {xs : List α} {L : LO} {i : Nat} {x : α}, OReps od C F vs xs L → xs[i]? = some x → ∃ v L1 Li L2, vs[i]? = some v ∧ L = L1 ++ Li ++ L2 ∧ od.orep C F v x Li ∧ ∀ x' Li', od.orep C F v x' Li' → OReps od C F vs (xs.set i x') (L1 ++ Li' ++ L2)
  | [], [], _, i, _, _, e => by cases i <;> cases e
  | v :: vs, y :: xs, L, 0, x, ⟨L1, L2, e, h1, h2⟩, hx => by
    cases (Option.some.inj hx : y = x)
    exact ⟨v, [], L1, L2, rfl, by simpa using e, h1, fun x' Li' h => ⟨Li', L2, by simp, h, h2⟩⟩
  | v :: vs, y :: xs, L, i + 1, x, ⟨L1, L2, e, h1, h2⟩, hx => by
    obtain ⟨w, M1, Mi, M2, e1, e2, h3, f⟩ := OReps.at (i := i) h2 hx
    exact ⟨w, L1 ++ M1, Mi, M2, e1, by rw [e, e2]; simp [List.append_assoc], h3, fun x' Li' h => ⟨L1, M1 ++ Li' ++ M2, by simp [List.append_assoc], h1, f x' Li' h⟩⟩
  | [], _ :: _, _, _, _, h, _ => h.elim
  | _ :: _, [], _, _, _, h, _ => h.elim
/-- a list that owns its items -/
@[reducible] def oDeep {α : Type} {d : Dat α} (od : OD α) : @OD (List α) dList where
  orep C F v xs L := ∃ a vs L', v = .ref a ∧ L = (a, .lst vs) :: L' ∧ OReps od C F vs xs L'
  omono s := fun ⟨a, vs, L', e, h, r⟩ => ⟨a, vs, L', e, h, r.mono s⟩
  view := fun ⟨a, vs, L', e, h, r⟩ s k => ⟨a, vs, e, .inl (k (a, .lst vs) (by rw [h]; exact List.mem_cons_self)), r.view s fun p hp => k p (by rw [h]; exact List.mem_cons_of_mem _ hp)⟩
instance mDeep {α : Type} [d : Dat α] {od : OD α} [i : OIm α od] : OIm (List α) (oDeep od) := ⟨fun {C F H v xs L} t ⟨a, vs, L', e, h, r⟩ => ⟨a, vs, L', e, h, by
  have go : ∀ {vs : List V} {xs : List α} {L : LO}, OReps od C H vs xs L → OReps od C F vs xs L := by
    intro vs xs L h
    induction vs generalizing xs L with
    | nil => cases xs with
      | nil => exact h
      | cons _ _ => exact h.elim
    | cons v vs ih => cases xs with
      | nil => exact h.elim
      | cons x xs => obtain ⟨L1, L2, e, h1, h2⟩ := h; exact ⟨L1, L2, e, i.oimm t h1, ih h2⟩
  exact go r⟩⟩
/-- each value owned -/
def OKReps {β : Type} {d : Dat β} (od : OD β) (C : GCtx) (F : Hp) : List (Key × V) → List (Int × β) → LO → Prop
  | [], [], L => L = []
  | p :: ps, x :: xs, L => ∃ L1 L2, L = L1 ++ L2 ∧ p.1 = Sum.inl x.1 ∧ od.orep C F p.2 x.2 L1 ∧ OKReps od C F ps xs L2
  | _, _, _ => False
theorem OKReps.mono {od : @OD α d} {F F' : Hp} (s : Same F F') : ∀ {ps : List (Key × V)} {xs : List (Int × α)} {L : LO}, OKReps od C F ps xs L → OKReps od C F' ps xs L
  | [], [], _, h => h
  | _ :: _, _ :: _, _, ⟨L1, L2, e, hk, h1, h2⟩ => ⟨L1, L2, e, hk, od.omono s h1, OKReps.mono s h2⟩
  | [], _ :: _, _, h => h.elim
  | _ :: _, [], _, h => h.elim
theorem OKReps.view {od : @OD α d} {F H : Hp} (s : Same F H) : ∀ {ps : List (Key × V)} {xs : List (Int × α)} {L : LO}, OKReps od C F ps xs L → (∀ p ∈ L, H p.1 = some p.2) → KReps d C H ps xs
  | [], [], _, _, _ => trivial
  | _ :: _, _ :: _, _, ⟨L1, L2, e, hk, h1, h2⟩, k => ⟨hk, od.view h1 s fun p hp => k p (by rw [e]; exact List.mem_append_left _ hp), OKReps.view s h2 fun p hp => k p (by rw [e]; exact List.mem_append_right _ hp)⟩
  | [], _ :: _, _, h, _ => h.elim
  | _ :: _, [], _, h, _ => h.elim
theorem OKReps.append {od : @OD α d} {F : Hp} {ws : List (Key × V)} {ys : List (Int × α)} {M : LO} : ∀ {vs : List (Key × V)} {xs : List (Int × α)} {L : LO}, OKReps od C F vs xs L → OKReps od C F ws ys M → OKReps od C F (vs ++ ws) (xs ++ ys) (L ++ M)
  | [], [], _, h, g => by cases (show _ = [] from h); exact g
  | _ :: _, _ :: _, _, ⟨L1, L2, e, hk, h1, h2⟩, g => ⟨L1, L2 ++ M, by rw [e, List.append_assoc], hk, h1, OKReps.append h2 g⟩
  | [], _ :: _, _, h, _ => h.elim
  | _ :: _, [], _, h, _ => h.elim
/-- xs at k becomes x' (the first pair with that key) -/
def setI {β : Type} : List (Int × β) → Int → β → List (Int × β)
  | [], _, _ => []
  | p :: ps, k, x => if p.1 = k then (p.1, x) :: ps else p :: setI ps k x
theorem OKReps.at {od : @OD α d} {F : Hp} : ∀ {ps : List (Key × V)} {xs : List (Int × α)} {L : LO} {i : Int} {x : α}, OKReps od C F ps xs L → xs.lookup i = some x → ∃ v L1 Li L2, valV ps (Sum.inl i) = some v ∧ L = L1 ++ Li ++ L2 ∧ od.orep C F v x Li ∧ ∀ x' Li', od.orep C F v x' Li' → OKReps od C F ps (setI xs i x') (L1 ++ Li' ++ L2)
  | [], [], _, i, _, _, e => by cases e
  | p :: vs, y :: xs, L, i, x, ⟨L1, L2, e, hk, h1, h2⟩, hx => by
    rw [lookup_cons'] at hx
    rw [valV_cons, hk]
    unfold setI
    by_cases hi : y.1 = i
    · rw [if_pos hi] at hx
      cases (Option.some.inj hx : y.2 = x)
      refine ⟨p.2, [], L1, L2, by rw [if_pos (by rw [hi])], by simpa using e, h1, fun x' Li' h => ?_⟩
      rw [if_pos hi]
      exact ⟨Li', L2, by simp, hk, h, h2⟩
    · rw [if_neg hi] at hx
      simp only [if_neg hi]
      obtain ⟨w, M1, Mi, M2, e1, e2, h3, f⟩ := OKReps.at (i := i) h2 hx
      exact ⟨w, L1 ++ M1, Mi, M2, by rw [if_neg (fun z => hi (Sum.inl.inj z)), e1], by rw [e, e2]; simp [List.append_assoc], h3, fun x' Li' h => ⟨L1, M1 ++ Li' ++ M2, by simp [List.append_assoc], hk, h1, f x' Li' h⟩⟩
  | [], _ :: _, _, _, _, h, _ => h.elim
  | _ :: _, [], _, _, _, h, _ => h.elim
/-- a dict that owns its values -/
@[reducible] def oDeepDI {β : Type} {d : Dat β} (od : OD β) : @OD (DI β) dDI where
  orep C F v x L := ∃ a ps L', v = .ref a ∧ L = (a, .dK ps) :: L' ∧ OKReps od C F ps x.kv L'
  omono s := fun ⟨a, vs, L', e, h, r⟩ => ⟨a, vs, L', e, h, r.mono s⟩
  view := fun ⟨a, ps, L', e, h, r⟩ s k => ⟨a, ps, e, k (a, .dK ps) (by rw [h]; exact List.mem_cons_self), r.view s fun p hp => k p (by rw [h]; exact List.mem_cons_of_mem _ hp)⟩
end
end G
end

/-! G6: small helps. -/
namespace G
open PySem L2
theorem atI_of {α : Type} {xs : List α} {i : Int} {x : α} (h0 : 0 ≤ i) (h : xs[i.toNat]? = some x) : atI xs i = some x := by
  obtain ⟨j, rfl⟩ : ∃ j : Nat, i = j := ⟨i.toNat, by omega⟩
  exact atI_nat h
theorem small1k {n : Nat} (h : n ≤ 100000) : n < PySem.sizeLine := Nat.lt_of_le_of_lt h (by decide)
theorem nodup_snoc {α : Type} {xs : List α} {x : α} (h : xs.Nodup) (hx : x ∉ xs) : (xs ++ [x]).Nodup :=
  List.nodup_append.mpr ⟨h, by simp, fun a ha b hb e => hx (by rw [List.mem_singleton] at hb; rw [← hb, ← e]; exact ha)⟩
theorem rng_some {lo : Int} {n i : Nat} {x : Int} (h : rng lo n i = some x) : i < n ∧ x = lo + i := by
  unfold rng at h
  split at h
  · next hi => exact ⟨hi, by cases h; rfl⟩
  · cases h

/-! ### dict comprehensions: new keys, owned values -/
section
variable {C : GCtx} {Y : YC} {Γ : List Cell} {te ta tb tc tk tv : TE} {t u tt : TT} {α β γ δ : Type} {d1 : Dat α} {d : Dat α} {d2 : Dat β} {k : Ks} {t1 t2 ts : TS} {g : TG}
theorem KReps_has {od : @OD β d2} {F : Hp} : ∀ {ps : List (Key × V)} {xs : List (Int × β)} {L : LO}, OKReps od C F ps xs L → ps.map (·.1) = xs.map fun p => (Sum.inl p.1 : Key)
  | [], [], _, _ => rfl
  | _ :: _, _ :: _, _, ⟨_, _, _, hk, _, h2⟩ => by simp [hk, KReps_has h2]
  | [], _ :: _, _, h => h.elim
  | _ :: _, [], _, h => h.elim
theorem OKReps.none {od : @OD β d2} {F : Hp} : ∀ {ps : List (Key × V)} {xs : List (Int × β)} {L : LO} {i : Int}, OKReps od C F ps xs L → xs.lookup i = none → valV ps (Sum.inl i : Key) = none
  | [], [], _, _, _, _ => rfl
  | p :: ps, x :: xs, _, i, ⟨_, _, _, hk, _, h2⟩, e => by
    rw [lookup_cons'] at e
    rw [valV_cons, hk]
    by_cases hi : x.1 = i
    · rw [if_pos hi] at e; cases e
    · rw [if_neg hi] at e
      rw [if_neg (fun z => hi (Sum.inl.inj z))]
      exact OKReps.none h2 e
  | [], _ :: _, _, _, h, _ => h.elim
  | _ :: _, [], _, _, h, _ => h.elim
theorem OKReps.len {od : @OD β d2} {F : Hp} {ps : List (Key × V)} {xs : List (Int × β)} {L : LO} (h : OKReps od C F ps xs L) : ps.length = xs.length := by
  have := congrArg List.length (KReps_has h)
  simpa using this
theorem wipe_wipe {vs : List Nat} (σ0 : St) : wipe (wipe σ0 vs) vs = wipe σ0 vs := by
  have : ∀ (l : List Nat) (σ1 : St), (∀ j ∈ l, (σ1[j]? = none ∨ σ1[j]? = some none)) → wipe σ1 l = σ1 := by
    intro l
    induction l with
    | nil => intro _ _; rfl
    | cons j l ih =>
      intro σ1 hj
      unfold wipe
      rw [ih σ1 fun m hm => hj m (List.mem_cons_of_mem _ hm)]
      apply List.ext_getElem?
      intro m
      rw [List.getElem?_set]
      by_cases hm : j = m
      · subst hm
        rcases hj j List.mem_cons_self with z | z
        · rw [z, if_pos rfl, if_neg (Nat.not_lt.mpr (List.getElem?_eq_none_iff.mp z))]
        · rw [z, if_pos rfl, if_pos (List.getElem?_eq_some_iff.mp z).1]
      · rw [if_neg hm]
  refine this vs _ fun j hj => ?_
  cases q : (wipe σ0 vs)[j]? with
  | none => exact .inl rfl
  | some o =>
    cases o with
    | none => exact .inr rfl
    | some y => exact absurd hj (wipe_some q).2
/-! ### lists that own lists -/
end
end G

/-! G7: what is owned, read as if it were frozen; comprehensions of owned items; the script. -/
namespace G
open PySem L2
section
variable {C : GCtx} {Y : YC} {Γ : List Cell} {te ta tb tc tk tv : TE} {t u tt : TT} {α β γ δ : Type} {d1 : Dat α} {d : Dat α} {d2 : Dat β} {k : Ks} {t1 t2 ts : TS} {g : TG}
theorem compO_turn {od : @OD β d2} {e : En} {F1 : Hp} {σ : St} {H1 : Hp} {vs : List Nat} {D : Addr} {x : α} {v : V} {I I' : List β → Prop} (s1 : State Y e F1 σ H1 Γ) (hT : Tg g vs)
    (hs : ∀ ys, I ys → A Y g (wipeC Γ vs) d x fun Γ2 => T Y tt Γ2 fun b => (b = true → O Y te Γ2 od fun y => ys.length < PySem.sizeLine ∧ I' (ys ++ [y])) ∧ (b = false → I' ys)) (rx : ∀ F', Same F1 F' → d.rep Y.g F' v x) {H : Hp}
    (h : ∃ F' acc ys L, Wk ⟨F1, H1, []⟩ F' ((D, .lst acc) :: L) H ∧ OReps od Y.g F' acc ys L ∧ I ys) :
    g v (wipe σ vs) H fun σ2 H2 => wipe σ2 vs = wipe σ vs ∧ tt σ2 H2 fun b H3 =>
      if b = true then te σ2 H3 fun y H4 => ∃ acc, H4 D = some (.lst acc) ∧ acc.length < PySem.sizeLine ∧ (∃ F' acc' ys L, Wk ⟨F1, H1, []⟩ F' ((D, .lst acc') :: L) (upd H4 D (.lst (acc ++ [y]))) ∧ OReps od Y.g F' acc' ys L ∧ I' ys) else (∃ F' acc ys L, Wk ⟨F1, H1, []⟩ F' ((D, .lst acc) :: L) H3 ∧ OReps od Y.g F' acc ys L ∧ I' ys) := by
  obtain ⟨F', acc, ys, L, kw, r, hi⟩ := h
  have st := (s1.growL kw).wipe vs
  have key := hs ys hi e F' _ H v st (rx F' kw.ff) (fun σ2 H2 => tt σ2 H2 fun b H3 =>
      if b = true then te σ2 H3 fun y H4 => ∃ acc, H4 D = some (.lst acc) ∧ acc.length < PySem.sizeLine ∧ (∃ F' acc' ys L, Wk ⟨F1, H1, []⟩ F' ((D, .lst acc') :: L) (upd H4 D (.lst (acc ++ [y]))) ∧ OReps od Y.g F' acc' ys L ∧ I' ys) else (∃ F' acc ys L, Wk ⟨F1, H1, []⟩ F' ((D, .lst acc) :: L) H3 ∧ OReps od Y.g F' acc ys L ∧ I' ys)) fun σ2 Γ2 h2 st2 => by
    refine h2 e F' σ2 H st2 _ fun b F3 H3 kb g3 => ?_
    have kw3 := kw.trans0 g3
    cases b with
    | false => exact ⟨F3, acc, ys, L, kw3, r.mono g3.ff, kb.2 rfl⟩
    | true =>
      refine kb.1 rfl e F3 σ2 H3 (st2.grow g3) _ fun y F4 H4 Ly yv ⟨hl, ky⟩ g4 ry => ?_
      have kw4 := kw3.trans g4
      have r4 := r.mono (g3.ff.trans g4.ff)
      have hD : H4 D = some (.lst acc) := (kw4.ow (D, .lst acc) (by simp)).2.1
      refine ⟨acc, hD, by rw [r.len]; exact hl, F4, acc ++ [y], ys ++ [yv], L ++ Ly, ?_, r4.append (OReps.one ry), ky⟩
      have k6 : Wk ⟨F1, H1, []⟩ F4 (Ly ++ [(D, .lst acc)] ++ L) H4 := by simpa [List.append_assoc] using kw4
      have k7 : Wk ⟨F1, H1, []⟩ F4 ((D, .lst (acc ++ [y])) :: (Ly ++ L)) _ := k6.front.put (o' := .lst (acc ++ [y])) (fun _ z => by cases z)
      refine k7.sub (fun p hp => ?_) ?_
      · simp only [List.mem_cons, List.mem_append] at hp ⊢
        rcases hp with h | h | h <;> simp [h]
      · exact (List.Perm.nodup_iff (List.Perm.map _ (List.Perm.cons _ List.perm_append_comm))).mp k7.nd
  have key2 := hT v _ H _ key
  rw [wipe_wipe] at key2
  exact key2
/-- the script, as the law takes it -/
theorem Fn.script {K : PySem.W.Frag} {P : Program} {w : World} {H : Hp} {a : Addr} {ns : List Int} (hS : SqL K H a (ns.map V.int)) : Fn ⟨P, w, K⟩ [.val (dSq (d := dInt)) ⟨ns⟩] (fun c => c = cv true) [.ref a] H (fun v _ => v = .bl true) :=
  ⟨H, ⟨Same.refl _, fun _ _ _ h => h, fun _ h => h, Same.refl _, fun _ _ h => h, fun _ _ h => h, fun _ h => (nomatch h), List.nodup_nil⟩, Slots.cons (L := []) ⟨rfl, .ref a, rfl, a, _, rfl, .inl hS, Reps.ofInts ns⟩ .nil, fun v F' H' c L e _ ok => by
    subst e
    obtain ⟨_, v', e', r⟩ := ok
    cases (Option.some.inj e')
    exact r⟩
end
end G

/-! G8: stores into dicts, slices, items that change their list, lists picked out of owned lists. -/
namespace G
open PySem L2
section
variable {C : GCtx} {Y : YC} {Γ : List Cell} {te ta tb tc tk tv : TE} {t u tt : TT} {α β γ δ : Type} {d1 : Dat α} {d : Dat α} {d2 : Dat β} {k : Ks} {t1 t2 ts : TS} {g : TG}
/-! d[k] = v -/
theorem KReps.map_put {F : Hp} {v : V} {x : α} {n : Int} (hv : d.rep C F v x) : ∀ {ps : List (Key × V)} {xs : List (Int × α)}, KReps d C F ps xs → KReps d C F (ps.map fun kv => if kv.1 = Sum.inl n then (kv.1, v) else kv) (xs.map fun p => if p.1 = n then (n, x) else p)
  | [], [], _ => trivial
  | p :: ps, y :: ys, h => by
    rw [List.map_cons, List.map_cons]
    by_cases hn : y.1 = n
    · rw [if_pos hn, if_pos (by rw [h.1, hn])]
      exact ⟨by show p.1 = Sum.inl n; rw [h.1, hn], hv, KReps.map_put hv h.2.2⟩
    · rw [if_neg hn, if_neg (by rw [h.1]; exact fun z => hn (Sum.inl.inj z))]
      exact ⟨h.1, h.2.1, KReps.map_put hv h.2.2⟩
  | [], _ :: _, h => h.elim
  | _ :: _, [], h => h.elim
theorem KReps.snoc {F : Hp} {v : V} {x : α} {n : Int} (hv : d.rep C F v x) : ∀ {ps : List (Key × V)} {xs : List (Int × α)}, KReps d C F ps xs → KReps d C F (ps ++ [(Sum.inl n, v)]) (xs ++ [(n, x)])
  | [], [], _ => ⟨rfl, hv, trivial⟩
  | _ :: _, _ :: _, h => ⟨h.1, h.2.1, KReps.snoc hv h.2.2⟩
  | [], _ :: _, h => h.elim
  | _ :: _, [], h => h.elim
theorem KReps.put {F : Hp} {ps : List (Key × V)} {xs : List (Int × α)} {v : V} {x : α} {n : Int} (h : KReps d C F ps xs) (hv : d.rep C F v x) : KReps d C F (putK ps (Sum.inl n) v) (putI xs n x) := by
  unfold putK putI
  have l := h.look n
  rw [valV_any]
  cases q : xs.lookup n with
  | none =>
    rw [l.2 q, if_neg (fun z => (nomatch z)), if_neg (fun z => (nomatch z))]
    exact h.snoc hv
  | some y =>
    obtain ⟨w, hw, _⟩ := l.1 y q
    rw [hw]
    exact h.map_put hv
/-! slices -/
def cutL {α : Type} (xs : List α) (lo hi : Option Int) : List α := (xs.drop (HT.sIx xs.length 0 lo)).take (HT.sIx xs.length xs.length hi - HT.sIx xs.length 0 lo)
/-- a part of a slice -/
def TOk (Y : YC) (to : TO) (Γ : List Cell) (k : Option Int → Prop) : Prop := ∀ (e : En) (F : Hp) (σ : St) (H : Hp), State Y e F σ H Γ → ∀ Q : Option Int → Hp → Prop, (∀ o F' H', k o → Gr F H F' H' → Q o H') → to σ H Q
theorem to_none {kx : Option Int → Prop} (h : kx none) : TOk Y tNoPart Γ kx := fun e F σ H s Q q => q none F H h s.base
theorem to_some {kx : Option Int → Prop} (h : R Y te Γ dInt fun n => kx (some n)) : TOk Y (tPart te) Γ kx := fun e F σ H s Q q => h e F σ H s _ fun v F' H' n kn g r => ⟨n, r, q (some n) F' H' kn g⟩
/-! xs.append(ys.pop(i)) -/
theorem Reps.erase {F : Hp} : ∀ {vs : List V} {xs : List α} (i : Nat), Reps d C F vs xs → Reps d C F (vs.eraseIdx i) (xs.eraseIdx i)
  | [], [], _, _ => by simp [Reps]
  | _ :: _, _ :: _, 0, h => h.2
  | _ :: _, _ :: _, i + 1, h => ⟨h.1, Reps.erase i h.2⟩
  | [], _ :: _, _, h => h.elim
  | _ :: _, [], _, h => h.elim
/-! parts of what is owned -/
theorem Wk.sublist {e : En} {F : Hp} {L L' : LO} {H : Hp} (a : Wk e F L H) (h : L'.Sublist L) : Wk e F L' H :=
  a.sub (fun p hp => h.subset hp) ((h.map Prod.fst).nodup a.nd)
theorem Wk.blank {e : En} {F : Hp} {L : LO} {H : Hp} (a : Wk e F L H) : Wk ⟨F, fun _ => none, []⟩ F L H :=
  ⟨Same.refl _, fun _ _ _ z => (nomatch z), fun _ z => absurd rfl z, a.fh, fun _ z _ => absurd rfl z, a.tp, fun p hp => ⟨(a.ow p hp).1, (a.ow p hp).2.1, .inl rfl⟩, a.nd⟩
theorem Slots.wipe {F : Hp} {σ : St} {L : LO} (h : Slots C F σ Γ L) : ∀ vs : List Nat, ∃ L', L'.Sublist L ∧ Slots C F (wipe σ vs) (wipeC Γ vs) L'
  | [] => ⟨L, List.Sublist.refl _, h⟩
  | v :: vs => by
    obtain ⟨L1, h1, h2⟩ := Slots.wipe h vs
    unfold L2.wipe wipeC
    cases q : (wipeC Γ vs)[v]? with
    | some c =>
      obtain ⟨o, M1, Mi, M2, e1, e2, _, f⟩ := h2.get q
      refine ⟨M1 ++ M2, ?_, by simpa using f F none .no [] (Same.refl F) rfl⟩
      refine List.Sublist.trans ?_ h1
      rw [e2, List.append_assoc]
      exact List.Sublist.append_left (List.sublist_append_right _ _) _
    | none =>
      have l1 : (wipeC Γ vs).length ≤ v := List.getElem?_eq_none_iff.mp q
      have l2 : (L2.wipe σ vs).length ≤ v := by rw [h2.len]; exact l1
      rw [List.set_eq_of_length_le l1, List.set_eq_of_length_le l2]
      exact ⟨L1, h1, h2⟩
/-! [x for x in OWNED if t]: the owned items that are picked -/
/-! for x in OWNED: x.append(n) -/
end
end G

/-! E1: super().__init__('..') within the __init__ of an own exception class. -/
namespace G
open PySem PySem.Spec PyProof.Rows L2 PySem.W
theorem super_init {X : Cx} {pins : List (Addr × Obj)} {σ : L2.St} {H : Hp} {s : Shared} {Q : Flow → Shared → Prop} {E : Value → Shared → Prop} {body : List Stmt} {f cc cda D a C : Addr} {fd : FuncData} {ar : Arg} {vs : Array Value} {file : Str} {tf : Tok}
    {oc ccl cl : Value} {od cdd cld : Option Addr} {osl ccs csl : Array (Option Value)} {cdD cdC : ClassData} {m : Str} {j : Nat} {p0 p1 p2 p3 p4 p5 : Pos} {pl : Sem Bool}
    (I : Inv X pins σ H s) (hfun : X.env.func = some f) (hcode : X.env.code = .ref cda) (hks : X.env.kindOf "super" = some .globalImplicit) (hkc : X.env.kindOf "__class__" = some .free) (hcl : X.env.cells.lookup ("__class__" : Str) = some cc)
    (kf : X.K.lookup f = some ⟨oc, od, .func fd, osl⟩) (hp : (fd.params.posonlyargs ++ fd.params.args).head? = some ar) (hN : X.N[0]? = some ar.arg) (hl : X.env.kindOf ar.arg = some .local) (h0 : σ[0]? = some (some (.ref a)))
    (kcell : X.K.lookup cc = some ⟨cl, cld, .cell (some (.ref D)), csl⟩) (kcode : X.K.lookup cda = some ⟨ccl, cdd, .fields vs, ccs⟩) (hvs : vs[2]? = some (.str file tf)) (hfile : ((X.prog.main.file : Str) == file) = true)
    (kD : clsIn X.K D = some cdD) (kC : clsIn X.K C = some cdC) (hsub : mroIn X.K C (.ref D) = some true) (hsup : X.mg "super" = none) (htop : (X.prog.main.scope.names.lookup ("super" : Str)).isSome = false)
    (hst : nsIn X.K cStatics "thirdparty.any" = some none) (hin : ks_superIn X.K C D "__init__" = some (some (.builtin "ValueError.__init__"))) (hB : subIn X.K (.ref C) (.type "ValueError") = some true)
    (T : OexC X.K C) (ea : H a = some (exo a C none)) (hq : ∀ s', Inv X pins σ H s' → Q .next s')
    (he : eval (.Call (.Attribute (.Call (.Name "super" p0) [] [] p1) "__init__" p2) [.Constant (.str m) j p3] [] p4) X.env = (do
      let ov ← attributeBase (.Call (.Name "super" p0) [] [] p1) "__init__" X.env (eval (.Call (.Name "super" p0) [] [] p1) X.env)
      standAt p2.atName
      let (f, first) ← holding [ov] (getMethod ov "__init__" pl)
      callWith p4 f first (backTo p4 (starEach [.Constant (.str m) j p3] X.env)) [])) :
    _root_.PySem.wpAt (model X.prog X.w) X.A (.func body X.env) (exec (.Expr (.Call (.Attribute (.Call (.Name "super" p0) [] [] p1) "__init__" p2) [.Constant (.str m) j p3] [] p4) p5) X.env) Q E s := by
  obtain ⟨nm, q, N, bs, bm, sn, sub, ab, col, dd, k0, k1, k2, k3, k5, hC, hbm⟩ := T.cls
  obtain ⟨t1, ho⟩ := exo_at I.hok ea
  refine ks_wpAt_Expr_any (hs := ?hs) ?hm I.quiet
  case hs => rfl
  refine ks_wpAt_MethodCall (he := he) ?_
  refine ks_wpAt_super_base hks hkc rfl hfun (I.kIn _ _ kf) rfl hp hcode (I.kIn _ _ kcode) rfl hvs hfile htop ?_
  obtain ⟨mb, b1, b2⟩ := I.mod.blt
  refine ks_loadName_global I.ok.kind hks (Calls.loadGlobal_builtin (by rw [I.ok.glob]; exact I.mod.glob.keeps I.bk) hsup (by rw [I.ok.blt]; exact b1.keeps I.bk) ((b2 _ (by decide)).trans (PyProof.Rows.Boot.«super»)) ⟨rfl, ?_⟩)
  refine wpAny_loadName_free I.ok.kind hkc hcl ⟨_, I.kIn _ _ kcell, rfl⟩ ?_
  obtain ⟨mm, hn, hlk⟩ := I.loc
  obtain ⟨u0, ru, lk⟩ := hlk 0 ar.arg (.ref a) hN h0 (.inl hl)
  obtain rfl : u0 = Value.ref a := ru
  have hm0 : mm ar.arg = some (.ref a) := by
    rcases lk with ⟨_, h⟩ | ⟨h, _⟩
    · exact h
    · rw [hl] at h; rcases h with h | h <;> cases h
  refine wpAny_loadName_local I.ok.kind hl hn hm0 ?_
  obtain ⟨oD, hD1, hD2⟩ : ∃ oD, s.heap.get? D = some oD ∧ oD.data = .cls cdD := by
    unfold clsIn at kD
    split at kD
    · rename_i c d cd' sl hoD
      cases kD
      exact ⟨_, I.kIn _ _ hoD, rfl⟩
    · cases kD
  refine ks_wpAny_isType_cls hD1 hD2 ⟨rfl, ?_⟩
  have hty : Looks (model X.prog X.w) s.heap (typeOf (.ref a)) (.ref C) := (InstAt.mk (ox := ({ cls := .ref C, dict := none, data := .fields #[.ref t1, .none, .none, .none, .bool false, .none] } : Obj)) (od := none) ho rfl rfl trivial).type
  obtain ⟨hh, g, d, t, os⟩ := s
  refine ks_wpAny_call_super hD1 hD2 ho rfl (fun c e => by cases e) (looks_mroIn I.kIn hsub) (fun h' e k => ?_)
  have I1 : Inv X pins σ H ⟨h', g, d, t, os⟩ := I.kept (t' := t) k
  have hI : Looks (model X.prog X.w) h' (isInstance (.ref a) (.type "ValueError")) true := (hty.keeps k).andThen (looks_subIn I1.kIn hB)
  have hne : a ≠ C := fun z => by
    have h1 := I.kIn _ _ hC
    rw [← z, show (Shared.heap ⟨hh, g, d, t, os⟩).get? a = _ from ho] at h1
    cases h1
  have hmr : Looks (model X.prog X.w) h' (mroOf (.ref C)) cdC.mro := fun A Q E s k q => wpAny_bind ((looks_clsIn I1.kIn kC) A _ E s k (wpAny_pure q))
  have hin' : alongIn X.K "__init__" ((cdC.mro.dropWhile (· != .ref D)).drop 1) = some (some (.builtin "ValueError.__init__")) := by
    unfold ks_superIn at hin
    rw [kC] at hin
    exact hin
  refine kxs_getMethod kxs_ValueError e (looks_opaque I1.kIn hst) (l₀ := cdC.mro) hmr rfl I1.kIn hin' hI hne rfl ?_
  have hu : (h'.push (kxs_mw "ValueError.__init__" a)).get? h'.objs.size = some (kxs_mw "ValueError.__init__" a) := Heap.get?_push_at rfl rfl
  have I2 : Inv X pins σ H ⟨h'.push (kxs_mw "ValueError.__init__" a), g, d, t + 1, os⟩ := I1.kept (t' := t + 1) fun b o e => Heap.get?_push_of_some _ e
  refine kxs_callWith (i := "ValueError.__init__") (x := a) rfl ?_
  show wpAny _ _ (evalArgs _ true ((false, eval (.Constant (.str m) j p3) X.env) :: []) []) _ _ _
  refine Calls.evalArgs_plain (Calls.spliced_cons (Calls.Constant_str (Calls.spliced_nil ⟨hu, ?_⟩)))
  have I3 : Inv X pins σ H ⟨h'.push (kxs_mw "ValueError.__init__" a), g, d, t + 1 + 1, os⟩ := I2.kept (t' := t + 1 + 1) fun b o e => e
  obtain ⟨t2, ho2⟩ := exo_at I3.hok ea
  show wpAny _ _ (call (.ref h'.objs.size) [.str m (t + 1)]) _ _ _
  refine wpAny_call (codeAny_of_tree ?_)
  show wpAny _ X.A.in1 (callAny (.ref h'.objs.size) ⟨[.str m (t + 1)], []⟩) _ _ _
  simp only [callAny]
  refine wpAny_bind (wpAny_load hu ?_)
  simp only [kxs_mw, show (Value.type "method-wrapper" == Value.type "method" || Value.type "method-wrapper" == Value.type "builtin_function_or_method" || Value.type "method-wrapper" == Value.type "method-wrapper") = true by decide, if_true]
  refine KFB.if_so (by decide) ?_
  refine wpAny_bind (check_bound_init F.excBase_ValueError.toExcCallFacts (I3.kIn _ _ hC) ho2 rfl ?_)
  refine wpAny_bind (wpAny_pure (wpAny_pure ?_))
  refine ⟨plainId_quiet F.excBase_ValueError.init.plain _, codeAny_builtin F.excBase_ValueError.initEntry ?_⟩
  refine exc_init_tree (cls := .ref C) (t0 := t2) (dv := none) (c2 := .none) (c3 := .none) (b4 := .bool false) ho2 (by show 1 ≤ sizeLine; rw [sizeLine_eq]; omega) fun h3 k3 e3 e4 => ?_
  have J := I3.write (t' := t + 1 + 1) (x := a) (e := a) (o := exo a C none) (by rw [ea]; exact True.intro) (.inl rfl) k3 ⟨_, e3⟩ (exo_ok e3)
  have eu : upd H a (exo a C none) = H := by
    funext b
    by_cases hb : b = a
    · rw [hb, upd_same, ea]
    · rw [upd_ne hb]
  rw [eu] at J
  exact hq _ J

/-- a class's __init__ that begins with super().__init__('..'): the rest of its body -/
theorem fok_super {P : Program} {w : World} {K : Frag} {mg : Str → Option Value} {base : Heap} {CXt : CXT} {k : Nat} {f cc D : Addr} {N ps : List Str} {F : NdefX.NF} {doc pm ctv : Value} {sp : Sp} {rest : List Stmt} {ar : Arg} {vs0 : Array Value} {file : Str} {tf : Tok}
    {oc ccl cl : Value} {od cdd cld : Option Addr} {osl ccs csl : Array (Option Value)} {cdD : ClassData} {m : Str} {j : Nat} {p0 p1 p2 p3 p4 p5 : Pos} {pl : Sem Bool}
    (S : NdefX.NScope N ps ["__class__"] F.scope) (hF : F.cl = [(("__class__" : Str), cc)]) (hb : F.body = .Expr (.Call (.Attribute (.Call (.Name "super" p0) [] [] p1) "__init__" p2) [.Constant (.str m) j p3] [] p4) p5 :: rest)
    (hks : F.scope.names.lookup ("super" : Str) = some .globalImplicit) (kf : K.lookup f = some ⟨oc, od, .func (F.fd doc pm ctv), osl⟩) (hp : (F.params.posonlyargs ++ F.params.args).head? = some ar) (hN : N[0]? = some ar.arg) (hl : F.scope.names.lookup ar.arg = some .local)
    (kcell : K.lookup cc = some ⟨cl, cld, .cell (some (.ref D)), csl⟩) (kcode : K.lookup F.c = some ⟨ccl, cdd, .fields vs0, ccs⟩) (hvs : vs0[2]? = some (.str file tf)) (hcd : codeIn K (.ref F.c) F.qual = true) (hfile : ((P.main.file : Str) == file) = true)
    (kD : clsIn K D = some cdD) (hsup : mg "super" = none) (htop : (P.main.scope.names.lookup ("super" : Str)).isSome = false) (hst : nsIn K cStatics "thirdparty.any" = some none)
    (he : ∀ env : Env, eval (.Call (.Attribute (.Call (.Name "super" p0) [] [] p1) "__init__" p2) [.Constant (.str m) j p3] [] p4) env = (do
      let ov ← attributeBase (.Call (.Name "super" p0) [] [] p1) "__init__" env (eval (.Call (.Name "super" p0) [] [] p1) env)
      standAt p2.atName
      let (f, first) ← holding [ov] (getMethod ov "__init__" pl)
      callWith p4 f first (backTo p4 (starEach [.Constant (.str m) j p3] env)) []))
    (len : ∀ vs H Q E, sp vs H Q E → vs.length = ps.length)
    (walk : ∀ (A : Around) (outer : List Env) (s : Shared) (H : Hp) (vs : List V) (Q : VK) (E : XK), Room k (A.deeper (NdefX.envF F f s.heap.objs.size)) → sp vs H Q E →
      ∃ a C cdC, vs[0]? = some (.ref a) ∧ H a = some (exo a C none) ∧ OexC K C ∧ clsIn K C = some cdC ∧ mroIn K C (.ref D) = some true ∧ ks_superIn K C D "__init__" = some (some (.builtin "ValueError.__init__")) ∧ subIn K (.ref C) (.type "ValueError") = some true ∧
        ∃ t, PSs (NdefX.ncx CXt P w K mg base N F f A outer s H E) rest t ∧ t { nx := fun _ H' => Q .non H', rt := Q } (NdefX.startF N vs [some (.ref D)]) H) :
    FnOk P w K mg base CXt (k + 1) f (F.fd doc pm ctv) ps sp := by
  refine ⟨len, fun A outer s H args us vs Q E hr e0 hbind r hsp => ?_⟩
  have hlen := len _ _ _ _ hsp
  have kin : K.In s.heap := fun a o e => (e0.bs a o (e0.mod.kin a o e)).1
  have lim : s.heap.NoLimit := e0.mod.nolimit.keeps fun b o e => (e0.bs b o e).1
  have hc0 : H cc = none := (e0.bs cc _ (e0.mod.kin _ _ kcell)).2
  have cls1 : ∀ y c, F.cl.lookup y = some c → y = ("__class__" : Str) ∧ c = cc := fun y c e => by
    rw [hF, List.lookup_cons] at e
    split at e
    · rename_i z
      cases e
      exact ⟨by simpa using z, rfl⟩
    · cases e
  have C0 : NdefX.CellsAt F.cl ["__class__"] [some (.ref D)] s.heap H := by
    refine ⟨rfl, fun y c e => ?_, fun x y c e1 e2 => ?_, fun i y e => ?_⟩
    · obtain ⟨_, rfl⟩ := cls1 y c e
      exact ⟨hc0, _, _, kin _ _ kcell, rfl⟩
    · rw [(cls1 x c e1).1, (cls1 y c e2).1]
    · cases i with
      | zero =>
        cases (Option.some.inj e)
        refine ⟨cc, by rw [hF]; rfl, fun v hv => ?_⟩
        cases hv
        exact ⟨.ref D, rfl, _, kin _ _ kcell, rfl⟩
      | succ i => cases e
  refine ks_codeAny_call_defAt (fd := F.fd doc pm ctv) hr.depth (kin _ _ kf) rfl lim (codeRec_of kin hcd) rfl hbind S.nocell (fun ⟨n, _⟩ hy => S.par n (List.of_mem_zip hy).1) (fun h₁ hns kp => ?_) S.co S.gen S.kind
  obtain ⟨a, C, cdC, v0, ea, T, kC, hsub, hin, hB, t, ht, hq⟩ := walk A outer s H vs Q E (hr.deeper _) hsp
  have I : Inv (NdefX.ncx CXt P w K mg base N F f A outer s H E) [] (NdefX.startF N vs [some (.ref D)]) H { s with heap := h₁, toks := s.toks + (ps.zip us).length } := NdefX.inv_startN S hr.hd e0 hlen r C0 hns kp
  have h0 : (NdefX.startF N vs [some (V.ref D)])[0]? = some (some (.ref a)) := by
    unfold NdefX.startF
    have : 0 < vs.length := (List.getElem?_eq_some_iff.mp v0).1
    rw [List.getElem?_append_left (by rw [List.length_map]; exact this), List.getElem?_map, v0]
    rfl
  show _root_.PySem.wpAt (model P w) (A.deeper (NdefX.envF F f s.heap.objs.size)) (.func F.body (NdefX.envF F f s.heap.objs.size)) (execs F.body (NdefX.envF F f s.heap.objs.size)) _ _ _
  have fin : ∀ {s' : Shared} {σ' : L2.St} {H' : Hp} {v : V} {u : Value}, Inv (NdefX.ncx CXt P w K mg base N F f A outer s H E) [] σ' H' s' → L2.RelV v u → Q v H' → CE outer P w H s Q u s' :=
    fun {s' σ' H' v u} J rv q => ⟨v, H', J.os, J.bare, J.base, J.hok, rv, q⟩
  rw [show execs F.body (NdefX.envF F f s.heap.objs.size) = execs (_ :: rest) (NdefX.envF F f s.heap.objs.size) from congrArg (fun b => execs b _) hb]
  refine ks_wpAt_execs_cons ?_
  refine super_init (X := NdefX.ncx CXt P w K mg base N F f A outer s H E) (a := a) (C := C) I rfl rfl hks (S.frk _ (by simp)) (by show F.cl.lookup _ = _; rw [hF]; rfl) kf hp hN hl h0 kcell kcode hvs hfile kD kC hsub hsup htop hst hin hB T ea (fun s' I' => ?_) (he _)
  refine _root_.PySem.wpAt_of_wpAny (wpAny_mono (ht.run [] _ _ H _ I' hq) (fun fl s' hs => ?_) fun e s' hs => hs)
  cases fl with
  | ret u =>
    obtain ⟨v, σ', H', J, rv, q⟩ := hs
    exact fin J rv q
  | next =>
    obtain ⟨σ', H', J, q⟩ := hs
    exact fin (v := V.non) (u := Value.none) J rfl q
  | brk =>
    obtain ⟨_, _, _, q⟩ := hs
    exact False.elim q
  | cont =>
    obtain ⟨_, _, _, q⟩ := hs
    exact False.elim q
end G

/-! E2: exceptions of one and of two attributes: their __init__, raising them. -/
namespace G
open PySem PySem.Spec PyProof.Rows L2 PySem.W
/-- what __init__ of one attribute promises -/
def spX1 (C : Addr) (f1 : Str) : Sp := fun vs H Q _ => ∃ a v, vs = [.ref a, v] ∧ H a = some (exo a C none) ∧ ∀ d, H d = none → d ≠ a → Q .non (upd (upd H d (exd d [(f1, v)])) a (exo a C (some d)))
/-- what the written part says of such a class -/
structure XCls (K : Frag) (D fI : Addr) : Prop where
  T : OexC K D
  cls : ∃ cd, clsIn K D = some cd
  self : mroIn K D (.ref D) = some true
  sup : ks_superIn K D D "__init__" = some (some (.builtin "ValueError.__init__"))
  ve : subIn K (.ref D) (.type "ValueError") = some true
  init : findIn K (.ref D) "__init__" = some (some (.ref fI))
  fn : typeIn K (.ref fI) = some (.type "function")
section
variable {P : Program} {w : World} {K : Frag} {mg : Str → Option Value} {base : Heap} {CXt : CXT} {k : Nat} {f cc D : Addr} {ps : List Str} {F : NdefX.NF} {doc pm ctv : Value} {ar : Arg} {vs0 : Array Value} {file : Str} {tf : Tok}
    {oc ccl cl : Value} {od cdd cld : Option Addr} {osl ccs csl : Array (Option Value)} {m : Str} {j : Nat} {p0 p1 p2 p3 p4 p5 q1 q2 q3 q4 r1 r2 r3 r4 : Pos} {pl : Sem Bool} {f1 f2 x1 x2 : Str}
theorem fok_exc1 (S : NdefX.NScope [ar.arg, x1, "__class__"] [ar.arg, x1] ["__class__"] F.scope) (hF : F.cl = [(("__class__" : Str), cc)])
    (hb : F.body = [.Expr (.Call (.Attribute (.Call (.Name "super" p0) [] [] p1) "__init__" p2) [.Constant (.str m) j p3] [] p4) p5, .Assign [.Attribute (.Name ar.arg q1) f1 q2] (.Name x1 q3) q4])
    (hd1 : (ar.arg == ("__debug__" : Str)) = false) (hc1 : (ar.arg == ("__classdict__" : Str)) = false) (hd2 : (x1 == ("__debug__" : Str)) = false) (hc2 : (x1 == ("__classdict__" : Str)) = false)
    (hks : F.scope.names.lookup ("super" : Str) = some .globalImplicit) (kf : K.lookup f = some ⟨oc, od, .func (F.fd doc pm ctv), osl⟩) (hp : (F.params.posonlyargs ++ F.params.args).head? = some ar)
    (kcell : K.lookup cc = some ⟨cl, cld, .cell (some (.ref D)), csl⟩) (kcode : K.lookup F.c = some ⟨ccl, cdd, .fields vs0, ccs⟩) (hvs : vs0[2]? = some (.str file tf)) (hcd : codeIn K (.ref F.c) F.qual = true) (hfile : ((P.main.file : Str) == file) = true)
    (X : XCls K D f) (hno : findIn K (.ref D) f1 = some none) (hsup : mg "super" = none) (htop : (P.main.scope.names.lookup ("super" : Str)).isSome = false) (hst : nsIn K cStatics "thirdparty.any" = some none)
    (he : ∀ env : Env, eval (.Call (.Attribute (.Call (.Name "super" p0) [] [] p1) "__init__" p2) [.Constant (.str m) j p3] [] p4) env = (do
      let ov ← attributeBase (.Call (.Name "super" p0) [] [] p1) "__init__" env (eval (.Call (.Name "super" p0) [] [] p1) env)
      standAt p2.atName
      let (f, first) ← holding [ov] (getMethod ov "__init__" pl)
      callWith p4 f first (backTo p4 (starEach [.Constant (.str m) j p3] env)) [])) :
    FnOk P w K mg base CXt (k + 1) f (F.fd doc pm ctv) [ar.arg, x1] (spX1 D f1) := by
  obtain ⟨cdD, kD⟩ := X.cls
  refine fok_super (N := [ar.arg, x1, "__class__"]) (rest := _) S hF hb hks kf hp rfl (S.par _ (by simp)) kcell kcode hvs hcd hfile kD hsup htop hst he (fun vs H Q E ⟨a, v, e, _⟩ => by rw [e]; rfl) (fun A outer s H vs Q E hr ⟨a, v, e, ea, q⟩ => ?_)
  subst e
  refine ⟨a, D, cdD, rfl, ea, X.T, kD, X.self, X.sup, X.ve, _, pss_one (ps_ost (pe_var (i := 0) rfl (.inl (S.par _ (by simp))) hd1 hc1) (pe_var (i := 1) rfl (.inl (S.par _ (by simp))) hd2 hc2) rfl), ?_⟩
  exact ⟨v, rfl, .ref a, rfl, a, D, rfl, X.T, hno, .inl ⟨ea, fun dx n ne => q dx n ne⟩⟩
end
/-! raising -/
section
variable {Y : YC} {Γ : List Cell} {k : Ks} {te t1 t2 : TE} {Cx : Addr} {f1 f2 : Str} {Wt : WX}
theorem z_raise1 (hE : Y.E = WE Wt) (h : R Y te Γ dInt fun n => Y.kx ⟨Cx, some [(f1, .int n)]⟩ Γ) : Z Y (fun _ σ H => tMkO Cx (spX1 Cx f1) [] (tCons te tNil) σ H fun cls d H' => Wt cls d σ H') Γ k := fun e F σ H D hM s c => h e F σ H s _ fun v F1 H1 n kn g r => by
  cases (show v = .int n from r)
  refine ⟨by show 1 ≤ 1000; omega, fun a ha => ⟨a, .int n, rfl, upd_same, fun d hd hda => ⟨rfl, d, [(f1, .int n)], upd_same, by rw [upd_ne hda, upd_same], ?_, ?_⟩⟩⟩
  · rw [upd_ne hda] at hd
    exact hd
  · rw [upd_ne hda] at hd
    have e1 : upd (del (upd (upd (upd H1 a (exo a Cx none)) d (exd d [(f1, .int n)])) a (exo a Cx (some d))) a) d (.xd [(f1, .int n)]) = upd H1 d (.xd [(f1, .int n)]) := by
      funext b
      by_cases hb : b = d
      · subst hb; rw [upd_same, upd_same]
      · rw [upd_ne hb, upd_ne hb]
        by_cases hb2 : b = a
        · subst hb2; rw [del_same, ha]
        · rw [del_ne hb2, upd_ne hb2, upd_ne hb, upd_ne hb2]
    rw [e1]
    have := s.1 ⟨Cx, some [(f1, .int n)]⟩ (some d) (upd F1 d (.xd [(f1, .int n)])) σ (upd H1 d (.xd [(f1, .int n)])) Γ kn ((s.grow g).grow (g.base.lay hd)).2 ⟨_, rfl, upd_same⟩
    rw [hE] at this
    exact this
end
end G

/-! E3: try .. except X as n; isinstance of what was caught; its attributes. -/
namespace G
open PySem PySem.Spec PyProof.Rows L2 PySem.W
/-- the caught exception at a, its dict d -/
@[reducible] def dExn (a : Addr) (d : Option Addr) : Dat Exn where
  rep _ F v x := v = .ref a ∧ x.at F d
  mono := fun {C F F' v x} s ⟨e, h⟩ => ⟨e, by
    cases d with
    | none => exact h
    | some dd => obtain ⟨fs, e1, e2⟩ := h; exact ⟨fs, e1, s _ _ e2⟩⟩
/-- isinstance(e, c), e the exception that the suite holds -/
def rIsX (K : Frag) (a : Addr) (cls : Value) (d : Option Addr) : List V → Hp → VK → Prop := fun xs H Q => ∃ (D : Addr) (c : V) (cv : Value) (b : Bool), cls = .ref D ∧ ExcC K D ∧ xs = [.ref a, c] ∧ (∀ u, RelV c u → u = cv) ∧ kitOne K (.ref D) cv = some b ∧
  (∀ dd, d = some dd → ∃ fs, H dd = some (.xd fs)) ∧ Q (.bl b) H
theorem call_isX {X : Cx} {a : Addr} {cls : Value} {d : Option Addr} {oe : Obj} {pn : List (Addr × Obj)} (hz : Zc cls d oe) (hf : ∃ vs, oe.data = .fields vs) : CallR (X.suite a ((a, oe) :: pn)) (.builtin "isinstance") (rIsX X.K a cls d) := by
  intro pins s σ H xs us Q I r h
  obtain ⟨D, c, cv, b, rfl, C, rfl, hcv, e, hd, q⟩ := h
  cases r with
  | cons rx rr =>
    cases rr with
    | cons rt rr =>
      cases rr
      cases rx
      have ec := hcv _ rt
      subst ec
      obtain ⟨hget, _⟩ := I.pin (a, oe) (List.mem_append.mpr (.inl List.mem_cons_self))
      obtain ⟨vs, hv⟩ := hf
      obtain ⟨od, J⟩ : ∃ od, InstAt s.heap a oe D od := by
        obtain ⟨oc, odt, oda, osl⟩ := oe
        obtain ⟨h1, h2⟩ := hz
        dsimp only at h1 h2 hv
        subst h1 h2 hv
        cases odt with
        | none => exact ⟨none, hget, rfl, rfl, trivial⟩
        | some dd =>
          obtain ⟨fs, hfs⟩ := hd dd rfl
          have ok : ObjOk X.prog X.w H s.heap dd (.xd fs) := I.hok dd _ hfs
          obtain ⟨mA, ⟨o, es, ep, ho, _⟩, _⟩ := ok
          exact ⟨some o, hget, rfl, rfl, ho⟩
      have hcl : (clsIn X.K D).isSome = true := by obtain ⟨cd, hc, _⟩ := any_some C.hd; rw [hc]; rfl
      exact kia_one (kitx_exc hcl C.hg C.hk C.hs C.ha C.hn C.ht C.hm) I.kIn J e (fun z => nomatch z) fun tk => ⟨.bl b, H, I.kept (t' := tk) fun _ _ z => z, rfl, q⟩
section
variable {Y : YC} {Γ : List Cell} {k : Ks} {te : TE} {a Cx : Addr} {d : Option Addr} {x : Exn} {i : Nat}
theorem w_isX {cls : Value} {c : V} {cv : Value} {b : Bool} {kx : Bool → Prop} (hi : Γ[i]? = some (.val (dExn a d) x)) (hc : cls = .ref x.cls) (C : ExcC Y.K x.cls) (hv : ∀ u, RelV c u → u = cv) (hk : kitOne Y.K (.ref x.cls) cv = some b) (h : kx b) :
    W Y (tCB (rIsX Y.K a cls d) (tCons (tVar i) (tCons (tC c) tNil))) Γ dBool kx := fun e F σ H s Q q => by
  obtain ⟨v, e1, e2, r⟩ := s.val hi
  subst e2
  refine ⟨.ref a, e1, x.cls, c, cv, b, hc, C, rfl, hv, hk, fun dd hd => ?_, q _ F H b h s.base rfl⟩
  subst hd
  obtain ⟨fs, _, e3⟩ := r
  exact ⟨fs, s.fh _ _ e3⟩
theorem w_xf {cls : Value} {f : Str} {n : Int} {fs : List (Str × V)} {kx : Int → Prop} (hi : Γ[i]? = some (.val (dExn a d) x)) (hc : cls = .ref x.cls) (hx : x.cls = Cx) (hf : x.fs = some fs) (hl : fs.lookup f = some (.int n)) (h : kx n) :
    W Y (tXf a cls d Cx f (tVar i)) Γ dInt kx := fun e F σ H s Q q => by
  obtain ⟨v, e1, e2, r⟩ := s.val hi
  subst e2
  refine ⟨.ref a, e1, rfl, by rw [hc, hx], ?_⟩
  cases d with
  | none => rw [show x.fs = none from r] at hf; cases hf
  | some dd =>
    obtain ⟨fs', e3, e4⟩ := r
    rw [hf] at e3
    cases e3
    exact ⟨dd, fs, .int n, rfl, s.fh _ _ e4, hl, q _ F H n h s.base rfl⟩
theorem State.noAt {e : En} {F : Hp} {σ : L2.St} {H : Hp} (s : State Y e F σ H Γ) (i : Nat) : State Y e F (σ.set i none) H (Γ.set i .no) := by
  cases q : Γ[i]? with
  | some c => exact s.forget q
  | none =>
    have h1 : Γ.length ≤ i := List.getElem?_eq_none_iff.mp q
    have h2 : σ.length ≤ i := by rw [s.len]; exact h1
    rw [List.set_eq_of_length_le h1, List.set_eq_of_length_le h2]
    exact s
theorem Cont.at {e : En} {D : Ends} {E : L2.St → XK} {kb : Exn → List Cell → Prop} (hx : XOk Y e) (c : Cont Y e k D) : Cont ⟨Y.g, E, kb⟩ e k D :=
  ⟨fun F σ H Γ q s => c.nx F σ H Γ q ⟨hx, s.2⟩, c.rt, fun F σ H Γ q s => c.bk F σ H Γ q ⟨hx, s.2⟩, fun F σ H Γ q s => c.ct F σ H Γ q ⟨hx, s.2⟩⟩
/-- try: body; except c as the name at i: suite -/
theorem z_tryAs {tb : WX → TS} {ts : Addr → Value → Option Addr → TS} {c : Value} {Wout : WX} (kb : Exn → List Cell → Prop) (hE : Y.E = WE Wout) (hb : ∀ W : WX, Z ⟨Y.g, WE W, kb⟩ (tb W) Γ k)
    (hx : ∀ x Γ', kb x Γ' → ∃ b, exmOne Y.K (.ref x.cls) c = some b ∧
      (b = true → (∃ c0, Γ'[i]? = some c0) ∧ ∀ a d, Z Y (ts a (.ref x.cls) d) (Γ'.set i (.val (dExn a d) x)) { nx := fun Γ2 => k.nx (Γ2.set i .no), rt := k.rt, bk := fun Γ2 => k.bk (Γ2.set i .no), ct := fun Γ2 => k.ct (Γ2.set i .no) }) ∧ (b = false → Y.kx x Γ')) :
    Z Y (fun D σ H => tb (wAs Y.K c i ts Wout D) D σ H) Γ k := fun e F σ H D hM s ct => by
  refine hb _ e F σ H D hM ⟨fun x d F' σ' H' Γ' kbx st hd => ?_, s.2⟩ (ct.at s.1)
  obtain ⟨b, hm, h1, h2⟩ := hx x Γ' kbx
  refine ⟨b, hm, fun hb1 a ha => ?_, fun hb0 => ?_⟩
  · obtain ⟨⟨c0, hi⟩, hz⟩ := h1 hb1
    have st1 : State Y e F' σ' H' Γ' := ⟨s.1, st⟩
    refine hz a d e F' _ H' _ hM (st1.set (c' := .val (dExn a d) x) (L' := []) hi st1.base ⟨rfl, _, rfl, rfl, hd⟩) ⟨fun F3 σ3 H3 Γ3 q s3 => ct.nx F3 _ H3 _ q (s3.noAt i), ct.rt, fun F3 σ3 H3 Γ3 q s3 => ct.bk F3 _ H3 _ q (s3.noAt i), fun F3 σ3 H3 Γ3 q s3 => ct.ct F3 _ H3 _ q (s3.noAt i)⟩
  · have := s.1 x d F' σ' H' Γ' (h2 hb0) st hd
    rw [hE] at this
    exact this
end
end G

/-! E4: instances of own classes. -/
namespace G
open PySem PySem.Spec PyProof.Rows L2 PySem.W
/-! calls that may raise, within a try -/
section
variable {X : Cx} {CXt : CXT} {k : Nat} {f C : Addr} {fd : FuncData} {ps : List Str} {sp : Sp} {E : L2.St → XK} {x m : Str} {p pos apos : Pos} {e o : Expr} {es : List Expr} {ta : TE} {t : TA}
def tMakeS (C : Addr) (sp : Sp) (E : L2.St → XK) (t : TA) : TE := fun σ H Q => t σ H fun vs H1 => ∀ x dx, H1 x = none → H1 dx = none → dx ≠ x → sp (.ref x :: vs) (upd (upd H1 dx (.own x)) x (.ins C dx [])) (fun v H2 => v = .non ∧ Q (.ref x) H2) (E σ)
theorem run_makeS {pins : List (Addr × Obj)} {σ : L2.St} {H : Hp} {s : Shared} {Q : VK} {us : List Value} {vs : List V} {E : XK} (M : Mk X.K C f) (F : FnOk X.prog X.w X.K X.mg X.base CXt k f fd ps sp) (hr : Room (k + 1) X.A) (hb : Binds X.K fd ps [])
    (hx : PassesAt CXt X σ E) (I : Inv X pins σ H s) (r : Vals vs us)
    (h : ∀ x dx, H x = none → H dx = none → dx ≠ x → sp (.ref x :: vs) (upd (upd H dx (.own x)) x (.ins C dx [])) (fun v H2 => v = .non ∧ Q (.ref x) H2) E) :
    wpAny (model X.prog X.w) X.A (call (.ref C) us) (EP X pins σ Q) X.xe s := by
  have hq := h (s.heap.objs.size + 1) s.heap.objs.size (I.hok.fresh (Nat.le_succ _)) (I.hok.fresh (Nat.le_refl _)) (Nat.ne_of_lt (Nat.lt_succ_self _))
  have I2 := Inv.made (C := C) I
  have r2 : Vals (V.ref (s.heap.objs.size + 1) :: vs) (Value.ref (s.heap.objs.size + 1) :: us) := .cons rfl r
  have hl : (Value.ref (s.heap.objs.size + 1) :: us).length = ps.length := by
    have e := r2.length
    rw [F.len _ _ _ _ hq] at e
    exact e.symm
  have hb2 := hb _ (Value.ref (s.heap.objs.size + 1) :: us) I2.kIn (by rw [List.append_nil]; exact hl)
  rw [List.append_nil] at hb2
  refine wpAny_call (make_map (f := f) I.kIn M.makes M.init (beq_iff_eq.mp M.fn) (codeAny_mono (F.run _ X.stack _ _ ⟨Value.ref (s.heap.objs.size + 1) :: us, []⟩ (Value.ref (s.heap.objs.size + 1) :: us) _ _ E (hr.make C us [])
    (I2.env0.make C us []) hb2 r2 hq) fun r s' hq' => ?_))
  cases r with
  | error e => exact hx pins _ _ e s' I2 hq'
  | ok fl =>
    cases fl with
    | ret u =>
      obtain ⟨v, H', J, rv, ev, q⟩ := I2.after hq'
      subst ev
      exact ⟨rv, .ref (s.heap.objs.size + 1), H', J, rfl, q⟩
    | next => exact False.elim hq'
    | brk => exact False.elim hq'
    | cont => exact False.elim hq'
theorem pe_makeS (M : Mk X.K C f) (F : FnOk X.prog X.w X.K X.mg X.base CXt k f fd ps sp) (hr : Room (k + 1) X.A) (hg : Gl X x) (hm : X.mg x = some (.ref C)) (hb : Binds X.K fd ps []) (hx : ∀ σ, PassesAt CXt X σ (E σ))
    (ha : PA X (e :: es) t) (hdb : (x == ("__debug__" : Str)) = false := by decide) (he : starEach (e :: es) X.env = (false, eval e X.env) :: starEach es X.env := by rfl) (hpl : (backTo pos (starEach es X.env)).any (·.1) = false := by rfl) :
    PE X (.Call (.Name x p) (e :: es) [] pos) (tMakeS C sp E t) := by
  refine ⟨fun pins s σ H Q I h => ?_⟩
  refine wpAny_Call_Name_kw (ld_glob I hg hm ?_ hdb)
  refine PySem.W.callWith_K (h₀ := X.base) I.ok.mod.kin M.kp (thn (ha.run pos pins s σ H _ I h) fun us s1 ⟨vs, H1, I1, r, q⟩ => ⟨I1.kIn, ?_⟩) he hpl
  exact run_makeS M F hr hb (hx σ) I1 r q
end
/-! data -/
structure Ob1 (α : Type) where
  a : α
  deriving DecidableEq
structure Ob2 (α β : Type) where
  a : α
  b : β
  deriving DecidableEq
section
variable {α β : Type} [d1 : Dat α] [d2 : Dat β] (C0 : Addr) (f1 f2 : Str)
@[reducible] def dOb1 : Dat (Ob1 α) := ⟨fun C F v x => ∃ p dx v1, v = .ref p ∧ F p = some (.ins C0 dx [(f1, v1)]) ∧ d1.rep C F v1 x.a, fun s ⟨p, dx, v1, e, h, r1⟩ => ⟨p, dx, v1, e, s _ _ h, d1.mono s r1⟩⟩
@[reducible] def dOb2 : Dat (Ob2 α β) := ⟨fun C F v x => ∃ p dx v1 v2, v = .ref p ∧ F p = some (.ins C0 dx [(f1, v1), (f2, v2)]) ∧ d1.rep C F v1 x.a ∧ d2.rep C F v2 x.b,
  fun s ⟨p, dx, v1, v2, e, h, r1, r2⟩ => ⟨p, dx, v1, v2, e, s _ _ h, d1.mono s r1, d2.mono s r2⟩⟩
@[reducible] def oOb1 : @OD (Ob1 α) (dOb1 C0 f1) := @OD.mk (Ob1 α) (dOb1 C0 f1)
  (fun C F v x L => ∃ p dx v1, v = .ref p ∧ L = [(p, .ins C0 dx [(f1, v1)])] ∧ d1.rep C F v1 x.a)
  (fun s ⟨p, dx, v1, e, h, r1⟩ => ⟨p, dx, v1, e, h, d1.mono s r1⟩)
  (fun ⟨p, dx, v1, e, h, r1⟩ s k => ⟨p, dx, v1, e, k (p, .ins C0 dx [(f1, v1)]) (by rw [h]; exact List.mem_cons_self), d1.mono s r1⟩)
@[reducible] def oOb2 : @OD (Ob2 α β) (dOb2 C0 f1 f2) := @OD.mk (Ob2 α β) (dOb2 C0 f1 f2)
  (fun C F v x L => ∃ p dx v1 v2, v = .ref p ∧ L = [(p, .ins C0 dx [(f1, v1), (f2, v2)])] ∧ d1.rep C F v1 x.a ∧ d2.rep C F v2 x.b)
  (fun s ⟨p, dx, v1, v2, e, h, r1, r2⟩ => ⟨p, dx, v1, v2, e, h, d1.mono s r1, d2.mono s r2⟩)
  (fun ⟨p, dx, v1, v2, e, h, r1, r2⟩ s k => ⟨p, dx, v1, v2, e, k (p, .ins C0 dx [(f1, v1), (f2, v2)]) (by rw [h]; exact List.mem_cons_self), d1.mono s r1, d2.mono s r2⟩)
end
/-- an instance without attributes yet -/
structure Ob0 where
  u : Unit
@[reducible] def dOb0 (C0 : Addr) : Dat Ob0 := ⟨fun _ F v _ => ∃ p dx, v = .ref p ∧ F p = some (.ins C0 dx []), fun s ⟨p, dx, e, h⟩ => ⟨p, dx, e, s _ _ h⟩⟩
@[reducible] def oOb0 (C0 : Addr) : @OD Ob0 (dOb0 C0) := @OD.mk Ob0 (dOb0 C0)
  (fun _ _ v _ L => ∃ p dx, v = .ref p ∧ L = [(p, .ins C0 dx [])])
  (fun _ h => h)
  (fun ⟨p, dx, e, h⟩ _ k => ⟨p, dx, e, k (p, .ins C0 dx []) (by rw [h]; exact List.mem_cons_self)⟩)
/-- data that are instances of the class at C0 with these attributes -/
structure IsI {α : Type} (d : Dat α) (C0 : Addr) (ns : List Str) : Prop where
  ins : ∀ {C : GCtx} {F : Hp} {v : V} {x : α}, d.rep C F v x → ∃ p dx fs, v = .ref p ∧ F p = some (.ins C0 dx fs) ∧ ∀ f, f ∉ ns → fs.lookup f = none
/-- its attribute f -/
structure IsF {α β : Type} (d : Dat α) (C0 : Addr) (f : Str) (d2 : Dat β) (g : α → β) : Prop where
  fld : ∀ {C : GCtx} {F : Hp} {v : V} {x : α}, d.rep C F v x → ∃ p dx fs v2, v = .ref p ∧ F p = some (.ins C0 dx fs) ∧ fs.lookup f = some v2 ∧ d2.rep C F v2 (g x)
theorem isI0 {C0 : Addr} : IsI (dOb0 C0) C0 [] := ⟨fun ⟨p, dx, e, h⟩ => ⟨p, dx, [], e, h, fun _ _ => rfl⟩⟩
section
variable {α β : Type} [d1 : Dat α] [d2 : Dat β] {C0 : Addr} {f1 f2 : Str}
theorem isI1 : IsI (dOb1 (α := α) C0 f1) C0 [f1] := ⟨fun ⟨p, dx, v1, e, h, _⟩ => ⟨p, dx, _, e, h, fun f hf => by
  rw [List.lookup_cons, beq_eq_false_iff_ne.mpr (fun z => hf (by rw [z]; simp))]; rfl⟩⟩
theorem isF1 : IsF (dOb1 (α := α) C0 f1) C0 f1 d1 Ob1.a := ⟨fun ⟨p, dx, v1, e, h, r⟩ => ⟨p, dx, _, v1, e, h, by rw [List.lookup_cons, beq_self_eq_true], r⟩⟩
end
section
variable {Y : YC} {Γ : List Cell} {k : Ks} {te : TE} {tl : TA} {α β : Type} {d : Dat α} {d2 : Dat β} {C0 : Addr} {f : Str} {ns : List Str}
theorem w_fld {g : α → β} {kx : β → Prop} (hf : IsF d C0 f d2 g) (c : Cls Y.K C0) (n : NoAttr Y.K C0 f) (h : W Y te Γ d fun x => kx (g x)) : W Y (tFld Y.K te f) Γ d2 kx := fun e F σ H s Q q => h e F σ H s _ fun v F' H' x kx' gr r => by
  obtain ⟨p, dx, fs, v2, e1, e2, e3, r2⟩ := hf.fld r
  exact ⟨p, C0, dx, fs, v2, e1, gr.fh _ _ e2, c, n, e3, q v2 F' H' _ kx' gr r2⟩
theorem w_con {kx : Int → Prop} {n : Int} {u : Value} (hf : IsI d C0 ns) (c : Cls Y.K C0) (k0 : Con Y.K C0 f (.int n) u) (hn : f ∉ ns) (h : R Y te Γ d fun _ => kx n) : W Y (tCon Y.K te f) Γ dInt kx := fun e F σ H s Q q => h e F σ H s _ fun v F' H' x kx' gr r => by
  obtain ⟨p, dx, fs, e1, e2, e3⟩ := hf.ins r
  exact ⟨p, C0, dx, fs, .int n, u, e1, e2, c, k0, e3 f hn, q _ F' H' n kx' gr rfl⟩
/-! stores within __init__ -/
theorem z_fld1 {d1 : Dat β} {i : Nat} {pin : Option V} {x : Ob0} (hi : Γ[i]? = some (.own (dOb0 C0) (oOb0 C0) pin x)) (c : Cls Y.K C0) (n : NoAttr Y.K C0 f) (h : W Y te Γ d1 fun y => k.nx (Γ.set i (.own (dOb1 C0 f) (oOb1 C0 f) pin ⟨y⟩))) :
    Z Y (sFld Y.K (tVar i) te f) Γ k := fun e F σ H D hM s ct => h e F σ H s _ fun v F' H' y ky g r => by
  have st := s.grow g
  obtain ⟨L, kw, sl⟩ := st.2
  obtain ⟨o, L1, Li, L2, e1, e2, ⟨v0, rfl, hp, p, dx, rfl, rfl⟩, f2⟩ := sl.get hi
  subst e2
  have hH : H' p = some (.ins C0 dx []) := (kw.ow (p, .ins C0 dx []) (by simp)).2.1
  refine ⟨.ref p, e1, p, C0, dx, [], rfl, hH, c, n, by decide, ct.nx F' σ _ _ ky ⟨s.1, L1 ++ [(p, .ins C0 dx [(f, v)])] ++ L2, ?_, ?_⟩⟩
  · exact (kw.front.put (o' := .ins C0 dx [(f, v)]) (fun _ z => by cases z)).back (Li := [(p, .ins C0 dx [(f, v)])])
  · have q := f2 F' (some (.ref p)) (.own (dOb1 C0 f) (oOb1 C0 f) pin ⟨y⟩) [(p, .ins C0 dx [(f, v)])] (Same.refl _) ⟨.ref p, rfl, hp, p, dx, v, rfl, rfl, r⟩
    have z : σ.set i (some (.ref p)) = σ := by
      apply List.ext_getElem?
      intro j
      by_cases hj : i = j
      · subst hj
        obtain ⟨hlt, hv⟩ := List.getElem?_eq_some_iff.mp e1
        rw [List.getElem?_set_self hlt, e1]
      · rw [List.getElem?_set_ne hj]
    rw [z] at q
    exact q
end
end G

/-! E5: making an instance: __init__ and the call of the class. -/
namespace G
open PySem PySem.Spec PyProof.Rows L2 PySem.W
section
variable {C : GCtx} {Y : YC} {Γ : List Cell} {α : Type} {d : Dat α}
/-- __init__ of the class at C0 over the data Γ: it leaves an instance as post says, or lets an exception out -/
def FnI (C : GCtx) {α : Type} {d : Dat α} (od : OD α) (C0 : Addr) (Γ : List Cell) (post : α → Prop) (xp : Exn → Prop) (vs : List V) (H : Hp) (Q : VK) (E : XK) : Prop :=
  ∃ p dx ws F H1, vs = .ref p :: ws ∧ H1 p = none ∧ H1 dx = none ∧ dx ≠ p ∧ H = upd (upd H1 dx (.own p)) p (.ins C0 dx []) ∧ Gr F H1 F H1 ∧ Slots C F (ws.map some) Γ [] ∧
    (∀ x F' H' L, post x → Wk ⟨F, H1, []⟩ F' L H' → od.orep C F' (.ref p) x L → Q .non H') ∧
    ∀ x d F' H', xp x → Wk ⟨F, H1, []⟩ F' [] H' → x.at F' d → E (.ref x.cls) d H'
theorem FnI.len {od : @OD α d} {C0 : Addr} {post : α → Prop} {xp : Exn → Prop} {vs : List V} {H : Hp} {Q : VK} {E : XK} (h : FnI C od C0 Γ post xp vs H Q E) : vs.length = Γ.length + 1 := by
  obtain ⟨p, dx, ws, F, H1, e, _, _, _, _, _, sl, _⟩ := h
  rw [e, List.length_cons, ← sl.len, List.length_map]
theorem FnI.mono {od : @OD α d} {C0 : Addr} {post post' : α → Prop} {xp xp' : Exn → Prop} {vs : List V} {H : Hp} {Q : VK} {E : XK} (h : FnI C od C0 Γ post xp vs H Q E) (m : ∀ x, post' x → post x) (mx : ∀ x, xp' x → xp x) : FnI C od C0 Γ post' xp' vs H Q E := by
  obtain ⟨p, dx, ws, F, H1, e, a1, a2, a3, a4, a5, sl, q, qx⟩ := h
  exact ⟨p, dx, ws, F, H1, e, a1, a2, a3, a4, a5, sl, fun x F' H' L k => q x F' H' L (m x k), fun x d F' H' k => qx x d F' H' (mx x k)⟩
def SpI (C : GCtx) (sp : Sp) {α : Type} {d : Dat α} (od : OD α) (C0 : Addr) (cs : List Cell) (post : α → Prop) (xp : Exn → Prop) : Prop := ∀ vs H Q E, FnI C od C0 cs post xp vs H Q E → sp vs H Q E
/-- C(..) -/
theorem o_makeS {od : @OD α d} {C0 : Addr} {sp : Sp} {E : L2.St → XK} {tl : TA} {kx : α → Prop} (hE : E = Y.E) (h : WA Y tl Γ fun cs => SpI Y.g sp od C0 cs kx fun x => Y.kx x Γ) : O Y (tMakeS C0 sp E tl) Γ od kx := fun e F σ H s Q q => h e F σ H s _ fun vs F1 H1 cs hc g1 sl => fun p dx hp hdx hne => by
  subst hE
  refine hc _ _ _ _ ⟨p, dx, vs, F1, H1, rfl, hp, hdx, hne, rfl, g1.base, sl, fun x F' H' L kx' g2 r => ⟨rfl, ?_⟩, fun x d F' H' kx' g2 hd => ?_⟩
  · exact q _ F' H' L x kx' (by simpa using g1.trans g2) r
  · exact s.1 x d F' σ H' Γ kx' ((s.grow g1).grow g2).2 hd
/-- THE BODY of an __init__ -/
theorem FnI.body {od : @OD α d} {C0 : Addr} {N : List Str} {post : α → Prop} {xp : Exn → Prop} {vs : List V} {H : Hp} {Q : VK} {E : XK} {t : TS} (h : FnI C od C0 Γ post xp vs H Q E)
    (hz : ∀ p, Z ⟨C, fun _ => E, fun x _ => xp x⟩ t (.own (dOb0 C0) (oOb0 C0) (some (.ref p)) ⟨()⟩ :: (Γ ++ List.replicate (N.length - (Γ.length + 1)) .no)) { nx := fun Γ' => ∃ x, Γ'[0]? = some (.own d od (some (.ref p)) x) ∧ post x, rt := fun _ _ => False, bk := fun _ => False, ct := fun _ => False }) : t { nx := fun _ H' => Q .non H', rt := Q } (L2.start N vs) H := by
  have hl := h.len
  obtain ⟨p, dx, ws, F, H1, e, hp, hdx, hne, eH, g, sl, q, qx⟩ := h
  subst e eH
  have hl2 : ws.length = Γ.length := by simpa using hl
  have k0 : Wk ⟨F, H1, []⟩ (upd F dx (.own p)) [] (upd H1 dx (.own p)) := Wk.lay g hdx
  have k1 : Wk ⟨F, H1, []⟩ (upd F dx (.own p)) [(p, .ins C0 dx [])] (upd (upd H1 dx (.own p)) p (.ins C0 dx [])) := k0.own (by rw [upd_ne (Ne.symm hne)]; exact hp) (fun _ z => by cases z)
  have st : State ⟨C, fun _ => E, fun x _ => xp x⟩ ⟨F, H1, []⟩ (upd F dx (.own p)) (L2.start N (.ref p :: ws)) (upd (upd H1 dx (.own p)) p (.ins C0 dx [])) (.own (dOb0 C0) (oOb0 C0) (some (.ref p)) ⟨()⟩ :: (Γ ++ List.replicate (N.length - (Γ.length + 1)) .no)) := by
    refine ⟨fun x d F' σ' H' Γ' k ⟨L, kw, _⟩ hd => qx x d F' H' k (kw.sub (fun _ z => nomatch z) List.nodup_nil) hd, [(p, .ins C0 dx [])], k1, ?_⟩
    unfold L2.start
    rw [List.length_cons, hl2]
    exact .cons (L := [(p, .ins C0 dx [])]) (L' := []) ⟨.ref p, rfl, fun u z => by cases z; rfl, p, dx, rfl, rfl⟩ (slots_app (sl.mono k1.ff) (slots_pad _))
  refine hz p ⟨F, H1, []⟩ _ (L2.start N (.ref p :: ws)) _ _ rfl st ⟨fun F' σ' H' Γ' hn s' => ?_, fun F' σ' H' Γ' v c L L' z => z.elim, fun _ _ _ _ z => z.elim, fun _ _ _ _ z => z.elim⟩
  obtain ⟨x, hi, px⟩ := hn
  obtain ⟨_, L, kw, sl'⟩ := s'
  obtain ⟨o, L1, Li, L2, e1, e2, ⟨v, rfl, hpin, r⟩, _⟩ := sl'.get hi
  cases hpin _ rfl
  subst e2
  refine q x F' H' Li px (kw.sub (fun p hp => by simp [hp]) ?_) r
  have n1 := kw.front.nd
  rw [List.map_append] at n1
  exact (List.nodup_append.mp n1).1
end
end G

/-! E6: methods, static methods, x in o by an own __contains__. -/
namespace G
open PySem PySem.Spec PyProof.Rows L2 PySem.W
abbrev EF : XK := fun _ _ _ => False
theorem passF {X : Cx} {P : Program} {w : World} : Passes (L2.CX P w) X EF := fun _ _ _ _ _ _ _ c => by
  obtain ⟨_, _, _, _, _, _, _, _, _, _, _, _, h⟩ := c
  exact h.elim
theorem passFS {X : Cx} {P : Program} {w : World} (σ : L2.St) : PassesAt (L2.CX P w) X σ EF := fun _ _ _ _ _ _ c => by
  obtain ⟨_, _, _, _, _, _, _, _, _, _, _, _, h⟩ := c
  exact h.elim
section
variable {X : Cx} {CXt : CXT} {k : Nat} {f C g p : Addr} {mc : Value} {fd : FuncData} {ps : List Str} {sp : Sp} {E : L2.St → XK} {x m : Str} {apos pos : Pos} {e o : Expr} {es : List Expr} {ta : TE} {t : TA} {pl : Sem Bool}
theorem inst_of {pins : List (Addr × Obj)} {σ : L2.St} {H : Hp} {s : Shared} {a dx : Addr} {fs : List (Str × V)} (I : Inv X pins σ H s) (e : H a = some (.ins C dx fs)) : ∃ ox od, InstAt s.heap a ox C od := by
  obtain ⟨mA, O, _⟩ := ins_get I.hok e
  obtain ⟨od, J, _⟩ := O.look
  exact ⟨_, _, J⟩
end
/-! readings -/
section
variable {Y : YC} {Γ : List Cell} {ta tb : TE} {tl : TA} {α β : Type} {d : Dat α} {d2 : Dat β} {C0 : Addr} {m : Str} {ns : List Str} {sp : Sp} {E : L2.St → XK}
end
end G

/-! E7: the classes' addresses; what stands within a class. -/
namespace G
open PySem PySem.Spec PyProof.Rows L2 PySem.W
def clsB : Stmt → List Stmt
  | .ClassDef (body := b) .. => b
  | _ => []
/-- the exception's __init__ of the text: a function that captured its class -/
def initNF (name qual : Str) (st : Stmt) (cc c : Addr) : NdefX.NF := ⟨name, qual, defArgs st, defBody st, defScope st, [(("__class__" : Str), cc)], c⟩
end G

section
set_option maxHeartbeats 2000000
/-! E8: enumerate over a tuple. -/
namespace G
open PySem PySem.Spec PyProof.Rows L2 PySem.W
open AutoSeq1 (wpAny_loadPart')
section
variable {prog : Program} {w : World} {A : Around} {E : Value → Shared → Prop} {s : Shared}
end
end G
end

/-! E9: for i, x in enumerate(..): a statement's rule. -/
namespace G
open PySem PySem.Spec PyProof.Rows L2 PySem.W
section
variable {Y : YC} {Γ : List Cell} {te : TE} {α : Type} {d : Dat α} {k : Ks} {ts : TS} {g : TG}
end
end G

noncomputable section
/-! M0: the monad of the models, judgements that tie readings to models. -/
namespace G
open PySem L2

/-- the classes of the exceptions -/
inductive XC where
  | NotAPairing | NothingToUndo | NothingToRedo | BadLabel | NameTaken | NoSuchName | StillTied | ComesapartError | TooLarge | BadLine | UnknownPlace | BadSides | UnknownSide | UnknownTie | BadStep | Repeated | NotATurningCycle | UnknownPoint | UnknownPair | SamePoint | NoLinks | BadLink | BadNode | UnknownTerm | NotSameSteps | NoFacing | NotARing | NotAJoint | NotShut | BadCut | NoSuchCut | Locked | Nothing | BadName | BadSign | BadMove | NoTerm | NeverOpened | BoundTwice | UnknownName | UsedTwice | NotUsed | NotARedex | NotBalanced | NotAnArrow | NotAPermutation | BadSetting | BadSigns | BadChoice | NotOuter
  deriving DecidableEq
/-- an exception of a model: its class by name, its attributes -/
structure PX where
  cls : XC
  fs : Option (List (Str × V))
  deriving DecidableEq
/-- what a piece of a model gives: a value, an exception, or nothing that is spoken of -/
inductive M (α : Type) where
  | ok (x : α) : M α
  | exc (x : PX) : M α
  | bad : M α
instance : Monad M where
  pure := M.ok
  bind m f := match m with | .ok x => f x | .exc x => .exc x | .bad => .bad
namespace M
variable {α β γ : Type}
@[simp] theorem ok_bind (x : α) (f : α → M β) : (M.ok x >>= f) = f x := rfl
@[simp] theorem exc_bind (x : PX) (f : α → M β) : (M.exc x >>= f) = .exc x := rfl
@[simp] theorem bad_bind (f : α → M β) : ((M.bad : M α) >>= f) = .bad := rfl
@[simp] theorem pure_ok (x : α) : (pure x : M α) = .ok x := rfl
@[simp] theorem assoc (m : M α) (f : α → M β) (g : β → M γ) : ((m >>= f) >>= g) = (m >>= fun x => f x >>= g) := by cases m <;> rfl
@[simp] theorem bind_ok (m : M α) : (m >>= M.ok) = m := by cases m <;> rfl
def nb (m : M α) : Prop := m ≠ .bad
theorem nb1 {m : M α} {f : α → M β} (h : (m >>= f).nb) : m.nb := fun z => h (by rw [z]; rfl)
theorem nb2 {m : M α} {f : α → M β} {x : α} (h : (m >>= f).nb) (e : m = .ok x) : (f x).nb := fun z => h (by rw [e]; exact z)
/-- a guard: m where p holds (the choice is Classical: nothing is to be reckoned out) -/
def asrt (p : Prop) (m : M α) : M α := @ite _ p (Classical.propDecidable p) m .bad
theorem asrt_pos {p : Prop} {m : M α} (h : p) : asrt p m = m := @if_pos p (Classical.propDecidable p) h _ _ _
theorem asrt_nb {p : Prop} {m : M α} (h : (asrt p m).nb) : p := by
  unfold asrt at h
  split at h
  · assumption
  · exact absurd rfl h
def ofO : Option α → M α
  | some x => .ok x
  | none => .bad
@[simp] theorem ofO_some (x : α) : ofO (some x) = .ok x := rfl
/-- xs.append(y) -/
def push (xs : List α) (m : M α) : M (List α) := m >>= fun y => asrt (xs.length < PySem.sizeLine) (.ok (xs ++ [y]))
theorem push_ok {xs : List α} {y : α} (h : xs.length < PySem.sizeLine) : push xs (.ok y) = .ok (xs ++ [y]) := asrt_pos h
/-- xs[i] -/
def ix (xs : List α) (i : Int) : M α := ofO (atI xs i)
/-- range(n), range(a, b) -/
def range (n : Int) : M (List Int) := asrt (-(2 ^ 62) ≤ n ∧ n ≤ PySem.sizeLine) (.ok (rngL 0 n.toNat))
/-- for x in xs, nothing leaves it early -/
def fold {σ : Type} (f : σ → α → M σ) : σ → List α → M σ
  | s, [] => .ok s
  | s, x :: xs => f s x >>= fun s' => fold f s' xs
theorem fold_snoc {σ : Type} (f : σ → α → M σ) (x : α) : ∀ (xs : List α) (s : σ), fold f s (xs ++ [x]) = (fold f s xs >>= fun s' => f s' x)
  | [], s => by simp [fold]
  | y :: xs, s => by simp only [List.cons_append, fold, assoc]; congr 1; funext s'; exact fold_snoc f x xs s'
end M
/-- the end of a turn -/
inductive Ct (σ ρ : Type) where
  | nx (s : σ) : Ct σ ρ
  | rt (r : ρ) : Ct σ ρ
  | bk (s : σ) : Ct σ ρ
/-- behind a loop -/
def Ct.go {σ ρ τ : Type} (c : Ct σ ρ) (r : ρ → M τ) (n : σ → M τ) : M τ := match c with | .nx s => n s | .rt x => r x | .bk s => n s
namespace M
variable {α β γ σ ρ : Type}
/-- for x in xs, with returns or breaks -/
def foldC (f : σ → α → M (Ct σ ρ)) : σ → List α → M (Ct σ ρ)
  | s, [] => .ok (.nx s)
  | s, x :: xs => f s x >>= fun c => match c with | .nx s' => foldC f s' xs | c => .ok c
/-- n turns of a while, at most -/
def loopN (c : σ → M Bool) (f : σ → M σ) : Nat → σ → M σ
  | 0, _ => .bad
  | n + 1, s => c s >>= fun b => if b then f s >>= loopN c f n else .ok s
open Classical in
noncomputable def loop (c : σ → M Bool) (f : σ → M σ) (s : σ) : M σ := if h : ∃ n, loopN c f n s ≠ .bad then loopN c f h.choose s else .bad
theorem loopN_mono (c : σ → M Bool) (f : σ → M σ) : ∀ (n m : Nat) (s : σ), n ≤ m → loopN c f n s ≠ .bad → loopN c f m s = loopN c f n s
  | 0, _, _, _, h => absurd rfl h
  | n + 1, 0, _, hm, _ => absurd hm (by omega)
  | n + 1, m + 1, s, hm, h => by
    unfold loopN at h ⊢
    cases hc : c s with
    | bad => rfl
    | exc x => rfl
    | ok b =>
      rw [hc] at h
      simp only [ok_bind] at h ⊢
      cases b with
      | false => rfl
      | true =>
        simp only [if_true] at h ⊢
        cases hf : f s with
        | bad => rfl
        | exc x => rfl
        | ok s' =>
          rw [hf] at h
          exact loopN_mono c f n m s' (by omega) h
theorem loop_of {c : σ → M Bool} {f : σ → M σ} {s : σ} {n : Nat} (h : loopN c f n s ≠ .bad) : loop c f s = loopN c f n s := by
  have hx : ∃ n, loopN c f n s ≠ .bad := ⟨n, h⟩
  unfold loop
  rw [dif_pos hx]
  rcases Nat.le_total n hx.choose with hl | hl
  · exact loopN_mono c f _ _ s hl h
  · exact (loopN_mono c f _ _ s hl hx.choose_spec).symm
theorem loop_nb {c : σ → M Bool} {f : σ → M σ} {s : σ} (h : (loop c f s).nb) : ∃ n, loopN c f n s ≠ .bad ∧ loop c f s = loopN c f n s := by
  by_cases hx : ∃ n, loopN c f n s ≠ .bad
  · obtain ⟨n, hn⟩ := hx
    exact ⟨n, hn, loop_of hn⟩
  · exact absurd (by unfold loop; rw [dif_neg hx]) h
/-- the turn of a while -/
theorem loop_eq (c : σ → M Bool) (f : σ → M σ) (s : σ) : loop c f s = (c s >>= fun b => if b then f s >>= loop c f else .ok s) := by
  by_cases hx : ∃ n, loopN c f n s ≠ .bad
  · obtain ⟨n, hn⟩ := hx
    rw [loop_of hn]
    cases n with
    | zero => exact absurd rfl hn
    | succ n =>
      unfold loopN at hn ⊢
      cases hc : c s with
      | bad => rfl
      | exc x => rfl
      | ok b =>
        rw [hc] at hn
        simp only [ok_bind] at hn ⊢
        cases b with
        | false => rfl
        | true =>
          simp only [if_true] at hn ⊢
          cases hf : f s with
          | bad => rfl
          | exc x => rfl
          | ok s' =>
            rw [hf] at hn
            simp only [ok_bind] at hn ⊢
            exact (loop_of hn).symm
  · have e1 : loop c f s = .bad := by unfold loop; rw [dif_neg hx]
    rw [e1]
    cases hc : c s with
    | bad => rfl
    | exc x => exact absurd ⟨1, by unfold loopN; rw [hc]; exact fun z => nomatch z⟩ hx
    | ok b =>
      simp only [ok_bind]
      cases b with
      | false => exact absurd ⟨1, by unfold loopN; rw [hc]; exact fun z => nomatch z⟩ hx
      | true =>
        simp only [if_true]
        cases hf : f s with
        | bad => rfl
        | exc x => exact absurd ⟨1, by unfold loopN; rw [hc]; simp only [ok_bind, if_true]; rw [hf]; exact fun z => nomatch z⟩ hx
        | ok s' =>
          simp only [ok_bind]
          by_cases hy : ∃ n, loopN c f n s' ≠ .bad
          · obtain ⟨n, hn⟩ := hy
            exact absurd ⟨n + 1, by unfold loopN; rw [hc]; simp only [ok_bind, if_true]; rw [hf]; exact hn⟩ hx
          · unfold loop; rw [dif_neg hy]
/-- no exception comes out of it -/
def calm : M α → M α
  | .exc _ => .bad
  | m => m
@[simp] theorem calm_of_ok (x : α) : calm (.ok x : M α) = .ok x := rfl
theorem calm_nb {m : M α} (h : (calm m).nb) : ∃ x, m = .ok x := by
  cases m with
  | ok x => exact ⟨x, rfl⟩
  | exc x => exact absurd rfl h
  | bad => exact absurd rfl h
/-- [f x for x in xs if p x] -/
def comp (p : α → M Bool) (f : α → M β) : List α → M (List β)
  | [] => .ok []
  | x :: xs => calm (p x) >>= fun b => if b then calm (f x) >>= fun y => comp p f xs >>= fun ys => .ok (y :: ys) else comp p f xs
theorem comp_app (p : α → M Bool) (f : α → M β) : ∀ (xs ys : List α), comp p f (xs ++ ys) = (comp p f xs >>= fun a => comp p f ys >>= fun b => .ok (a ++ b))
  | [], ys => by simp [comp]
  | x :: xs, ys => by
    simp only [List.cons_append, comp, assoc]
    cases calm (p x) with
    | bad => rfl
    | exc x => rfl
    | ok b =>
      simp only [ok_bind]
      cases b with
      | false => exact comp_app p f xs ys
      | true =>
        simp only [if_true, assoc]
        cases calm (f x) with
        | bad => rfl
        | exc x => rfl
        | ok y =>
          simp only [ok_bind]
          rw [comp_app p f xs ys]
          cases comp p f xs <;> cases comp p f ys <;> rfl
theorem comp_ok (p : α → Bool) (f : α → β) : ∀ xs : List α, comp (fun x => .ok (p x)) (fun x => .ok (f x)) xs = .ok ((xs.filter p).map f)
  | [] => rfl
  | x :: xs => by
    simp only [comp, calm_of_ok, ok_bind]
    cases h : p x with
    | true => rw [if_pos rfl, comp_ok p f xs, List.filter_cons_of_pos h]; rfl
    | false => rw [if_neg (by simp), comp_ok p f xs, List.filter_cons_of_neg (by simp [h])]
theorem comp_map (f : α → β) (xs : List α) : comp (fun _ => .ok true) (fun x => .ok (f x)) xs = .ok (xs.map f) := by
  rw [comp_ok (fun _ => true) f xs]
  congr 2
  exact List.filter_eq_self.mpr fun _ _ => rfl
/-- what each turn gives, told for the items -/
theorem comp_of {p : α → M Bool} {f : α → M β} (p' : α → Bool) (f' : α → β) : ∀ xs : List α, (∀ x ∈ xs, p x = .ok (p' x)) → (∀ x ∈ xs, p' x = true → f x = .ok (f' x)) → comp p f xs = .ok ((xs.filter p').map f')
  | [], _, _ => rfl
  | x :: xs, h1, h2 => by
    have ih := comp_of p' f' xs (fun y hy => h1 y (List.mem_cons_of_mem _ hy)) fun y hy => h2 y (List.mem_cons_of_mem _ hy)
    simp only [comp]
    rw [h1 x List.mem_cons_self]
    simp only [calm_of_ok, ok_bind]
    cases h : p' x with
    | true => rw [if_pos rfl, h2 x List.mem_cons_self h, ih, List.filter_cons_of_pos h]; rfl
    | false => rw [if_neg (by simp), ih, List.filter_cons_of_neg (by simp [h])]
theorem fold_app {σ : Type} (f : σ → α → M σ) : ∀ (xs ys : List α) (s : σ), fold f s (xs ++ ys) = (fold f s xs >>= fun s' => fold f s' ys)
  | [], ys, s => by simp [fold]
  | x :: xs, ys, s => by
    simp only [List.cons_append, fold, assoc]
    congr 1; funext s'; exact fold_app f xs ys s'
theorem foldC_app (f : σ → α → M (Ct σ ρ)) : ∀ (xs ys : List α) (s : σ), foldC f s (xs ++ ys) = (foldC f s xs >>= fun c => match c with | .nx s' => foldC f s' ys | c => .ok c)
  | [], ys, s => by simp [foldC]
  | x :: xs, ys, s => by
    simp only [List.cons_append, foldC, assoc]
    congr 1; funext c
    cases c with
    | nx s' => exact foldC_app f xs ys s'
    | rt r => rfl
    | bk s' => rfl
/-- enumerate(xs) -/
def enumL (xs : List α) : List (Int × α) := xs.zipIdx.map fun p => ((p.2 : Int), p.1)
end M

/-! ### judgements -/
/-- a model's exception over the classes' places -/
def PX.x (tx : XC → Addr) (x : PX) : Exn := ⟨tx x.cls, x.fs⟩
section
variable (tx : XC → Addr) (Y : YC)
def XkM {α : Type} (Γ : List Cell) (m : M α) : Prop := ∀ x, m = .exc x → Y.kx (x.x tx) Γ
/-- the term evaluates to frozen data as the model says -/
def We (te : TE) (Γ : List Cell) {α : Type} (d : Dat α) (m : M α) : Prop := m.nb → XkM tx Y Γ m → W Y te Γ d (m = .ok ·)
def Re (te : TE) (Γ : List Cell) {α : Type} (d : Dat α) (m : M α) : Prop := m.nb → XkM tx Y Γ m → R Y te Γ d (m = .ok ·)
def Oe (te : TE) (Γ : List Cell) {α : Type} {d : Dat α} (od : OD α) (m : M α) : Prop := m.nb → XkM tx Y Γ m → O Y te Γ od (m = .ok ·)
def Te (t : TT) (Γ : List Cell) (m : M Bool) : Prop := m.nb → XkM tx Y Γ m → T Y t Γ (m = .ok ·)
end
section
variable {tx : XC → Addr} {Y : YC} {Γ : List Cell} {te ta tb tc td : TE} {t u : TT} {α β γ δ ε : Type} {d : Dat α} {d1 : Dat α} {d2 : Dat β} {d3 : Dat γ}
theorem XkM.l {m : M α} {f : α → M β} (h : XkM tx Y Γ (m >>= f)) : XkM tx Y Γ m := fun x e => h x (by rw [e]; rfl)
theorem XkM.r {m : M α} {f : α → M β} {x : α} (h : XkM tx Y Γ (m >>= f)) (e : m = .ok x) : XkM tx Y Γ (f x) := fun y e2 => h y (by rw [e]; exact e2)
theorem XkM.ok {x : α} : XkM tx Y Γ (M.ok x) := fun _ z => nomatch z
theorem we_eq {m m' : M α} (h : We tx Y te Γ d m) (e : m = m') : We tx Y te Γ d m' := e ▸ h
theorem re_eq {m m' : M α} (h : Re tx Y te Γ d m) (e : m = m') : Re tx Y te Γ d m' := e ▸ h
theorem oe_eq {od : @OD α d} {m m' : M α} (h : Oe tx Y te Γ od m) (e : m = m') : Oe tx Y te Γ od m' := e ▸ h
theorem te_eq {m m' : M Bool} (h : Te tx Y t Γ m) (e : m = m') : Te tx Y t Γ m' := e ▸ h
theorem o_mono {od : @OD α d} {k k' : α → Prop} (h : O Y te Γ od k) (m : ∀ x, k x → k' x) : O Y te Γ od k' := fun e F σ H s Q q => h e F σ H s Q fun v F' H' L x kx g r => q v F' H' L x (m x kx) g r
theorem re_w {m : M α} (h : We tx Y te Γ d m) : Re tx Y te Γ d m := fun nb xk => r_of_w (h nb xk)
theorem we_o {od : @OD α d} {m : M α} (h : Oe tx Y te Γ od m) : We tx Y te Γ d m := fun nb xk => w_of_o (h nb xk)
/-- one part read, then the rest -/
theorem Re.k {m : M α} {f : α → M β} {k : α → Prop} (h : Re tx Y te Γ d m) (nb : (m >>= f).nb) (xk : XkM tx Y Γ (m >>= f)) (g : ∀ x, m = .ok x → (f x).nb → XkM tx Y Γ (f x) → k x) : R Y te Γ d k :=
  r_mono (h (M.nb1 nb) xk.l) fun x e => g x e (M.nb2 nb e) (xk.r e)
theorem We.k {m : M α} {f : α → M β} {k : α → Prop} (h : We tx Y te Γ d m) (nb : (m >>= f).nb) (xk : XkM tx Y Γ (m >>= f)) (g : ∀ x, m = .ok x → (f x).nb → XkM tx Y Γ (f x) → k x) : W Y te Γ d k :=
  w_mono (h (M.nb1 nb) xk.l) fun x e => g x e (M.nb2 nb e) (xk.r e)
theorem Oe.k {od : @OD α d} {m : M α} {f : α → M β} {k : α → Prop} (h : Oe tx Y te Γ od m) (nb : (m >>= f).nb) (xk : XkM tx Y Γ (m >>= f)) (g : ∀ x, m = .ok x → (f x).nb → XkM tx Y Γ (f x) → k x) : O Y te Γ od k :=
  o_mono (h (M.nb1 nb) xk.l) fun x e => g x e (M.nb2 nb e) (xk.r e)
theorem Te.k {m : M Bool} {f : Bool → M β} {k : Bool → Prop} (h : Te tx Y t Γ m) (nb : (m >>= f).nb) (xk : XkM tx Y Γ (m >>= f)) (g : ∀ x, m = .ok x → (f x).nb → XkM tx Y Γ (f x) → k x) : T Y t Γ k :=
  t_mono (h (M.nb1 nb) xk.l) fun x e => g x e (M.nb2 nb e) (xk.r e)
/-! shapes of rules -/
theorem we_p1 {f : α → β} {m : M α} (rule : ∀ k : β → Prop, (R Y ta Γ d1 fun x => k (f x)) → W Y te Γ d2 k) (h : Re tx Y ta Γ d1 m) : We tx Y te Γ d2 (m >>= fun x => .ok (f x)) := fun nb xk =>
  rule _ (h.k nb xk fun x e _ _ => by rw [e]; rfl)
theorem we_p1w {f : α → β} {m : M α} (rule : ∀ k : β → Prop, (W Y ta Γ d1 fun x => k (f x)) → W Y te Γ d2 k) (h : We tx Y ta Γ d1 m) : We tx Y te Γ d2 (m >>= fun x => .ok (f x)) := fun nb xk =>
  rule _ (h.k nb xk fun x e _ _ => by rw [e]; rfl)
theorem oe_p1w {od : @OD β d2} {f : α → β} {m : M α} (rule : ∀ k : β → Prop, (W Y ta Γ d1 fun x => k (f x)) → O Y te Γ od k) (h : We tx Y ta Γ d1 m) : Oe tx Y te Γ od (m >>= fun x => .ok (f x)) := fun nb xk =>
  rule _ (h.k nb xk fun x e _ _ => by rw [e]; rfl)
theorem we_p2 {f : α → β → γ} {m : M α} {n : M β} (rule : ∀ k : γ → Prop, (R Y ta Γ d1 fun x => R Y tb Γ d2 fun y => k (f x y)) → W Y te Γ d3 k) (h : Re tx Y ta Γ d1 m) (h2 : Re tx Y tb Γ d2 n) : We tx Y te Γ d3 (m >>= fun x => n >>= fun y => .ok (f x y)) := fun nb xk =>
  rule _ (h.k nb xk fun x e nb xk => h2.k nb xk fun y e2 _ _ => by rw [e]; show (n >>= _) = _; rw [e2]; rfl)
/-- a guarded operator -/
theorem we_g2 {P : α → β → Prop} [∀ x y, Decidable (P x y)] {f : α → β → γ} {m : M α} {n : M β} (rule : ∀ k : γ → Prop, (R Y ta Γ d1 fun x => R Y tb Γ d2 fun y => P x y ∧ k (f x y)) → W Y te Γ d3 k) (h : Re tx Y ta Γ d1 m) (h2 : Re tx Y tb Γ d2 n) : We tx Y te Γ d3 (m >>= fun x => n >>= fun y => M.asrt (P x y) (.ok (f x y))) := fun nb xk =>
  rule _ (h.k nb xk fun x e nb xk => h2.k nb xk fun y e2 nb2 _ => ⟨M.asrt_nb nb2, by rw [e]; show (n >>= _) = _; rw [e2]; show M.asrt _ _ = _; rw [M.asrt_pos (M.asrt_nb nb2)]⟩)
/-- an item looked up -/
theorem we_l2 {f : α → β → Option γ} {m : M α} {n : M β} (rule : ∀ k : γ → Prop, (W Y ta Γ d1 fun x => R Y tb Γ d2 fun y => ∃ z, f x y = some z ∧ k z) → W Y te Γ d3 k) (h : We tx Y ta Γ d1 m) (h2 : Re tx Y tb Γ d2 n) : We tx Y te Γ d3 (m >>= fun x => n >>= fun y => M.ofO (f x y)) := fun nb xk =>
  rule _ (h.k nb xk fun x e nb xk => h2.k nb xk fun y e2 nb2 _ => by
    cases q : f x y with
    | none => rw [q] at nb2; exact absurd rfl nb2
    | some z => exact ⟨z, rfl, by rw [e]; show (n >>= _) = _; rw [e2]; show M.ofO _ = _; rw [q]; rfl⟩)
end
end G
end

noncomputable section
/-! M1: the rules of expressions, with models. (printed in part by genM1.py) -/
namespace G
open PySem PySem.Spec PyProof.Rows L2 PySem.W
instance (i j : Int) : Decidable (CDiv i j) := inferInstanceAs (Decidable (_ ∧ _))
instance (i j : Int) : Decidable (CMul i j) := inferInstanceAs (Decidable (_ ∨ _))
instance (i j : Int) : Decidable (CPow i j) := inferInstanceAs (Decidable (_ ∧ _ ∧ _))
instance : @Flat Bool dBool := ⟨V.bl, fun h => h, fun _ => rfl, fun x y => by cases x <;> cases y <;> simp [eqV]⟩
section
variable {tx : XC → Addr} {Y : YC} {Γ : List Cell} {te ta tb tc td : TE} {t u : TT} {α β γ δ ε : Type} {d : Dat α} {d1 : Dat α} {d2 : Dat β} {d3 : Dat γ} {d4 : Dat δ}
theorem w_calm {k : α → Prop} (h : W (calm Y.g) te Γ d k) : W Y te Γ d k := fun e F σ H s Q q => h e F σ H ⟨fun _ _ _ _ _ _ z => z.elim, s.2⟩ Q q
theorem t_calm {k : Bool → Prop} (h : T (calm Y.g) t Γ k) : T Y t Γ k := fun e F σ H s Q q => h e F σ H ⟨fun _ _ _ _ _ _ z => z.elim, s.2⟩ Q q
/-! names, constants -/
theorem we_var {i : Nat} {x : α} (h : Γ[i]? = some (.val d x)) : We tx Y (tVar i) Γ d (.ok x) := fun _ _ => w_var h rfl
theorem re_varO {od : @OD α d} {pin : Option V} {i : Nat} {x : α} (h : Γ[i]? = some (.own d od pin x)) : Re tx Y (tVar i) Γ d (.ok x) := fun _ _ => r_varO h rfl
theorem we_int {n : Int} : We tx Y (tC (.int n)) Γ dInt (.ok n) := fun _ _ => w_int rfl
theorem we_bl {n : Bool} : We tx Y (tC (.bl n)) Γ dBool (.ok n) := fun _ _ => w_bl rfl
theorem we_str {n : Str} : We tx Y (tC (.str n)) Γ dStr (.ok n) := fun _ _ => w_str rfl
theorem we_nonO : We tx Y (tC .non) Γ (dOpt (d := d)) (.ok .none) := fun _ _ => w_nonO rfl
theorem we_some {m : M α} (h : We tx Y te Γ d m) : We tx Y te Γ (dOpt (d := d)) (m >>= fun x => .ok (.some x)) := we_p1w (fun k h => w_some h) h
/-! operators -/
theorem we_add {m n : M Int} (h : Re tx Y ta Γ dInt m) (h2 : Re tx Y tb Γ dInt n) : We tx Y (tOp (rI0 fun i j => .int (i + j)) ta tb) Γ dInt (m >>= fun x => n >>= fun y => .ok (x + y)) := we_p2 (fun k h => w_add h) h h2
theorem we_sub {m n : M Int} (h : Re tx Y ta Γ dInt m) (h2 : Re tx Y tb Γ dInt n) : We tx Y (tOp (rI0 fun i j => .int (i - j)) ta tb) Γ dInt (m >>= fun x => n >>= fun y => .ok (x - y)) := we_p2 (fun k h => w_sub h) h h2
theorem we_mul {m n : M Int} (h : Re tx Y ta Γ dInt m) (h2 : Re tx Y tb Γ dInt n) : We tx Y (tOp (rI CMul fun i j => .int (i * j)) ta tb) Γ dInt (m >>= fun x => n >>= fun y => M.asrt (CMul x y) (.ok (x * y))) := we_g2 (fun k h => w_mul h) h h2
theorem we_mod {m n : M Int} (h : Re tx Y ta Γ dInt m) (h2 : Re tx Y tb Γ dInt n) : We tx Y (tOp (rI (fun _ j => 0 < j) fun i j => .int (i % j)) ta tb) Γ dInt (m >>= fun x => n >>= fun y => M.asrt (0 < y) (.ok (x % y))) := we_g2 (P := fun _ y => 0 < y) (fun k h => w_mod h) h h2
theorem we_fdiv {m n : M Int} (h : Re tx Y ta Γ dInt m) (h2 : Re tx Y tb Γ dInt n) : We tx Y (tOp (rI CDiv fun i j => .int (i / j)) ta tb) Γ dInt (m >>= fun x => n >>= fun y => M.asrt (CDiv x y) (.ok (x / y))) := we_g2 (fun k h => w_fdiv h) h h2
theorem we_pow {m n : M Int} (h : Re tx Y ta Γ dInt m) (h2 : Re tx Y tb Γ dInt n) : We tx Y (tOp (rI CPow fun i j => .int (i ^ j.toNat)) ta tb) Γ dInt (m >>= fun x => n >>= fun y => M.asrt (CPow x y) (.ok (x ^ y.toNat))) := we_g2 (fun k h => w_pow h) h h2
theorem we_powC {a b c : Int} (h : Re tx Y ta Γ dInt (.ok a)) (h2 : Re tx Y tb Γ dInt (.ok b)) (hc : CPow a b ∧ a ^ b.toNat = c) : We tx Y (tOp (rI CPow fun i j => .int (i ^ j.toNat)) ta tb) Γ dInt (.ok c) := we_eq (we_pow h h2) (by show M.asrt _ _ = _; rw [M.asrt_pos hc.1, hc.2])
theorem we_neg {m : M Int} (h : Re tx Y ta Γ dInt m) : We tx Y (tUn (rU fun i => .int (-i)) ta) Γ dInt (m >>= fun x => .ok (-x)) := we_p1 (fun k h => w_neg h) h
theorem we_lt {m n : M Int} (h : Re tx Y ta Γ dInt m) (h2 : Re tx Y tb Γ dInt n) : We tx Y (tOp (rI0 fun i j => .bl (decide (i < j))) ta tb) Γ dBool (m >>= fun x => n >>= fun y => .ok (decide (x < y))) := we_p2 (fun k h => w_lt h) h h2
theorem we_le {m n : M Int} (h : Re tx Y ta Γ dInt m) (h2 : Re tx Y tb Γ dInt n) : We tx Y (tOp (rI0 fun i j => .bl (decide (i ≤ j))) ta tb) Γ dBool (m >>= fun x => n >>= fun y => .ok (decide (x ≤ y))) := we_p2 (fun k h => w_le h) h h2
theorem we_gt {m n : M Int} (h : Re tx Y ta Γ dInt m) (h2 : Re tx Y tb Γ dInt n) : We tx Y (tOp (rI0 fun i j => .bl (decide (j < i))) ta tb) Γ dBool (m >>= fun x => n >>= fun y => .ok (decide (y < x))) := we_p2 (fun k h => w_gt h) h h2
theorem we_ge {m n : M Int} (h : Re tx Y ta Γ dInt m) (h2 : Re tx Y tb Γ dInt n) : We tx Y (tOp (rI0 fun i j => .bl (decide (j ≤ i))) ta tb) Γ dBool (m >>= fun x => n >>= fun y => .ok (decide (y ≤ x))) := we_p2 (fun k h => w_ge h) h h2
/-- scalars of one kind, compared -/
class Sc (α : Type) [d : Dat α] where
  enc : α → V
  isEnc : ∀ {C : GCtx} {F : Hp} {v : V} {x : α}, d.rep C F v x → v = enc x
  scal : ∀ x y, L2.scal (enc x) (enc y) = true
  inj : ∀ x y, enc x = enc y → x = y
instance : Sc Int := ⟨V.int, fun h => h, fun _ _ => rfl, fun _ _ h => V.int.inj h⟩
instance : Sc Bool := ⟨V.bl, fun h => h, fun _ _ => rfl, fun _ _ h => V.bl.inj h⟩
instance : Sc Str := ⟨V.str, fun h => h, fun _ _ => rfl, fun _ _ h => V.str.inj h⟩
theorem w_eqS [s : @Sc α d] [DecidableEq α] {kb : Bool → Prop} (h : R Y ta Γ d fun x => R Y tb Γ d fun y => kb (decide (x = y))) : W Y (tOp rEq ta tb) Γ dBool kb := fun e F σ H st Q q => h e F σ H st _ fun v1 F1 H1 x h1 g1 r1 => h1 e F1 σ H1 (st.grow g1) _ fun v2 F2 H2 y ky g2 r2 => by
  cases s.isEnc r1
  cases s.isEnc r2
  exact ⟨s.scal x y, q _ F2 H2 _ ky (g1.trans0 g2) (by show V.bl _ = V.bl _; rw [decide_eq_decide.mpr ⟨s.inj x y, fun z => by rw [z]⟩])⟩
theorem w_neS [s : @Sc α d] [DecidableEq α] {kb : Bool → Prop} (h : R Y ta Γ d fun x => R Y tb Γ d fun y => kb (!decide (x = y))) : W Y (tOp rNe ta tb) Γ dBool kb := fun e F σ H st Q q => h e F σ H st _ fun v1 F1 H1 x h1 g1 r1 => h1 e F1 σ H1 (st.grow g1) _ fun v2 F2 H2 y ky g2 r2 => by
  cases s.isEnc r1
  cases s.isEnc r2
  exact ⟨s.scal x y, q _ F2 H2 _ ky (g1.trans0 g2) (by show V.bl _ = V.bl _; rw [decide_eq_decide.mpr ⟨s.inj x y, fun z => by rw [z]⟩])⟩
theorem we_eqS [s : @Sc α d] [DecidableEq α] {m n : M α} (h : Re tx Y ta Γ d m) (h2 : Re tx Y tb Γ d n) : We tx Y (tOp rEq ta tb) Γ dBool (m >>= fun x => n >>= fun y => .ok (decide (x = y))) := we_p2 (fun k h => w_eqS h) h h2
theorem we_neS [s : @Sc α d] [DecidableEq α] {m n : M α} (h : Re tx Y ta Γ d m) (h2 : Re tx Y tb Γ d n) : We tx Y (tOp rNe ta tb) Γ dBool (m >>= fun x => n >>= fun y => .ok (!decide (x = y))) := we_p2 (fun k h => w_neS h) h h2
/-- a op b op' c, whole numbers -/
theorem we_chain {f f' : Int → Int → Bool} {m n o : M Int} (h : Re tx Y ta Γ dInt m) (h2 : Re tx Y tb Γ dInt n) (h3 : Re tx Y tc Γ dInt o) : We tx Y (tChain (rI0 fun i j => .bl (f i j)) (rI0 fun i j => .bl (f' i j)) ta tb tc) Γ dBool (m >>= fun x => n >>= fun y => if f x y then o >>= fun z => .ok (f' y z) else .ok false) := fun nb xk e F σ H s Q q =>
  (h.k nb xk (k := fun x => R Y tb Γ dInt fun y => (n = .ok y) ∧ ((if f x y = true then o >>= fun z => M.ok (f' y z) else .ok false) : M Bool).nb ∧ XkM tx Y Γ ((if f x y = true then o >>= fun z => M.ok (f' y z) else .ok false) : M Bool) ∧ m = .ok x) fun x e1 nb xk => h2.k nb xk fun y e2 nb xk => ⟨e2, nb, xk, e1⟩) e F σ H s _ fun v1 F1 H1 x hy g1 r1 => hy e F1 σ H1 (s.grow g1) _ fun v2 F2 H2 y ⟨e2, nb, xk, e1⟩ g2 r2 => by
    cases (show v1 = .int x from r1)
    cases (show v2 = .int y from r2)
    refine ⟨x, y, rfl, rfl, f x y, rfl, ?_⟩
    cases hf : f x y with
    | false => 
      rw [if_neg (by simp)]
      exact q _ F2 H2 false (by rw [e1]; show (n >>= _) = _; rw [e2]; show (if f x y = true then _ else _) = _; rw [hf]; rfl) (g1.trans0 g2) rfl
    | true =>
      rw [if_pos rfl]
      rw [hf, if_pos rfl] at nb xk
      refine h3.k nb xk (k := fun z => o = .ok z) (fun z e3 _ _ => e3) e F2 σ H2 ((s.grow g1).grow g2) _ fun v3 F3 H3 z e3 g3 r3 => ?_
      cases (show v3 = .int z from r3)
      exact ⟨y, z, rfl, rfl, q _ F3 H3 _ (by rw [e1]; show (n >>= _) = _; rw [e2]; show (if f x y = true then _ else _) = _; rw [hf, if_pos rfl, e3]; rfl) ((g1.trans0 g2).trans0 g3) rfl⟩
/-! tests -/
theorem te_test {m : M Bool} (h : We tx Y te Γ dBool m) : Te tx Y (tTest te) Γ m := fun nb xk => t_test (r_of_w (h nb xk))
theorem te_B {m : M Bool} (h : We tx Y te Γ dBool m) : Te tx Y (tB te) Γ m := fun nb xk => t_B (r_of_w (h nb xk))
theorem te_not {m : M Bool} (h : Te tx Y t Γ m) : Te tx Y (tNot t) Γ (m >>= fun b => .ok (!b)) := fun nb xk => t_not (h.k nb xk fun b e _ _ => by rw [e]; rfl)
theorem te_and {m n : M Bool} (h : Te tx Y t Γ m) (h2 : Te tx Y u Γ n) : Te tx Y (tAnd t u) Γ (m >>= fun b => if b then n else .ok false) := fun nb xk => t_and (h.k nb xk fun b e nb xk => ⟨fun hb => by
  subst hb; exact t_mono (h2 nb xk) fun c ec => by rw [e]; exact ec, fun hb => by subst hb; rw [e]; rfl⟩)
theorem te_or {m n : M Bool} (h : Te tx Y t Γ m) (h2 : Te tx Y u Γ n) : Te tx Y (tOr t u) Γ (m >>= fun b => if b then .ok true else n) := fun nb xk => t_or (h.k nb xk fun b e nb xk => ⟨fun hb => by subst hb; rw [e]; rfl, fun hb => by
  subst hb; exact t_mono (h2 nb xk) fun c ec => by rw [e]; exact ec⟩)
theorem te_andP {a b : Bool} (h : Te tx Y t Γ (.ok a)) (h2 : Te tx Y u Γ (.ok b)) : Te tx Y (tAnd t u) Γ (.ok (a && b)) := te_eq (te_and h h2) (by cases a <;> rfl)
theorem te_orP {a b : Bool} (h : Te tx Y t Γ (.ok a)) (h2 : Te tx Y u Γ (.ok b)) : Te tx Y (tOr t u) Γ (.ok (a || b)) := te_eq (te_or h h2) (by cases a <;> rfl)
theorem we_and {m n : M Bool} (h : We tx Y ta Γ dBool m) (h2 : We tx Y tb Γ dBool n) : We tx Y (tAndV ta tb) Γ dBool (m >>= fun b => if b then n else .ok false) := fun nb xk => w_andV (r_of_w (h.k nb xk fun b e nb xk => ⟨fun hb => by
  subst hb; exact w_mono (h2 nb xk) fun c ec => by rw [e]; exact ec, fun hb => by subst hb; rw [e]; rfl⟩))
theorem te_truL {m : M (List α)} (h : Re tx Y ta Γ (dList (d := d)) m) : Te tx Y (fun σ H Q => ta σ H fun x H' => ∃ k, TruV Y.K x H' k ∧ Q k H') Γ (m >>= fun xs => .ok (!xs.isEmpty)) := fun nb xk => t_truL (h.k nb xk fun x e _ _ => by rw [e]; rfl)
/-! built-ins -/
theorem we_abs {m : M Int} (h : Re tx Y ta Γ dInt m) : We tx Y (tCB (fun xs H Q => ∃ i, xs = [.int i] ∧ Q (.int (if i < 0 then -i else i)) H) (tCons ta tNil)) Γ dInt (m >>= fun x => .ok (if x < 0 then -x else x)) := we_p1 (fun k h => w_abs h) h
theorem we_int1 {m : M Int} (h : Re tx Y ta Γ dInt m) : We tx Y (tCB (fun xs H Q => (∃ i, xs = [.int i] ∧ Q (.int i) H) ∨ ∃ k, xs = [.bl k] ∧ Q (.int (if k then 1 else 0)) H) (tCons ta tNil)) Γ dInt m := we_eq (we_p1 (f := fun x : Int => x) (fun k h => w_int1 h) h) (M.bind_ok m)
theorem we_len {m : M (List α)} (h : Re tx Y ta Γ (dList (d := d)) m) : We tx Y (tCB (fun xs H Q => ∃ p ys, xs = [.ref p] ∧ (SqL Y.K H p ys ∨ SqT Y.K H p ys) ∧ Q (.int ys.length) H) (tCons ta tNil)) Γ dInt (m >>= fun xs => .ok (xs.length : Int)) := we_p1 (f := fun xs : List α => (xs.length : Int)) (fun k h => w_len h) h
theorem we_lenQ {m : M (Sq α)} (h : Re tx Y ta Γ (dSq (d := d)) m) : We tx Y (tCB (fun xs H Q => ∃ p ys, xs = [.ref p] ∧ (SqL Y.K H p ys ∨ SqT Y.K H p ys) ∧ Q (.int ys.length) H) (tCons ta tNil)) Γ dInt (m >>= fun xs => .ok (xs.l.length : Int)) := we_p1 (f := fun xs : Sq α => (xs.l.length : Int)) (fun k h => w_lenQ h) h
/-! items -/
theorem we_ix {m : M (List α)} {n : M Int} (h : We tx Y ta Γ (dList (d := d)) m) (h2 : Re tx Y tb Γ dInt n) : We tx Y (tOp (rIxL Y.K) ta tb) Γ d (m >>= fun xs => n >>= fun i => M.ix xs i) := we_l2 (fun k h => w_ix h) h h2
/-- an item of an owned list -/
theorem we_ixO {pin : Option V} {i : Nat} {xs : List α} {n : M Int} (hi : Γ[i]? = some (.own (dList (d := d)) (oList (d := d)) pin xs)) (h2 : Re tx Y tb Γ dInt n) : We tx Y (tOp (rIxL Y.K) (tVar i) tb) Γ d (n >>= fun i => M.ix xs i) := fun nb xk => w_ixO hi (h2.k nb xk fun y e nb2 _ => by
  cases q : atI xs y with
  | none => unfold M.ix at nb2; rw [q] at nb2; exact absurd rfl nb2
  | some z => exact ⟨z, rfl, by rw [e]; show M.ix _ _ = _; unfold M.ix; rw [q]; rfl⟩)
/-! membership -/
/-- x in xs -/
def memB {α : Type} [DecidableEq α] (x : α) (xs : List α) : Bool := decide (x ∈ xs)
theorem memB_iff {α : Type} [DecidableEq α] {x : α} {xs : List α} : memB x xs = true ↔ x ∈ xs := decide_eq_true_iff
theorem we_isi [ty : @Ty α d] {c : String} {b : Bool} {m : M α} (hk : PySem.W.kitOne Y.K (.type ty.tn) (.type c) = some b) (h : Re tx Y ta Γ d m) : We tx Y (tCB (rIsi Y.K) (tCons ta (tCons (tC (.ty c)) tNil))) Γ dBool (m >>= fun _ => .ok b) := we_p1 (f := fun _ : α => b) (fun k h => w_isi hk h) h
/-! tuples, lists -/
theorem we_tup2 {m : M α} {n : M β} (h : We tx Y ta Γ d m) (h2 : We tx Y tb Γ d2 n) : We tx Y (tTup (tCons ta (tCons tb tNil))) Γ (dPair (d1 := d) (d2 := d2)) (m >>= fun x => n >>= fun y => .ok (x, y)) := fun nb xk =>
  w_tup2 (h.k nb xk fun x e nb xk => h2.k nb xk fun y e2 nb xk => by rw [e]; show (n >>= _) = _; rw [e2]; rfl)
def WLe (tx : XC → Addr) (Y : YC) (ta : TA) (Γ : List Cell) {α : Type} (d : Dat α) (m : M (List α)) : Prop := m.nb → XkM tx Y Γ m → WL Y ta Γ d (m = .ok ·)
theorem wl_mono {tl : TA} {k k' : List α → Prop} (h : WL Y tl Γ d k) (m : ∀ x, k x → k' x) : WL Y tl Γ d k' := fun e F σ H s Q q => h e F σ H s Q fun v F' H' x kx g r => q v F' H' x (m x kx) g r
theorem wle_nil : WLe tx Y tNil Γ d (.ok []) := fun _ _ => wl_nil rfl
theorem wle_cons {tr : TA} {m : M α} {n : M (List α)} (h : We tx Y te Γ d m) (h2 : WLe tx Y tr Γ d n) : WLe tx Y (tCons te tr) Γ d (m >>= fun x => n >>= fun xs => .ok (x :: xs)) := fun nb xk => wl_cons (h.k nb xk fun x e nb xk => wl_mono (h2 (M.nb1 nb) xk.l) fun xs e2 => by rw [e]; show (n >>= _) = _; rw [e2]; rfl)
theorem oe_lst {tl : TA} {m : M (List α)} (h : WLe tx Y tl Γ d m) (hl : ∀ xs, m = .ok xs → xs.length ≤ PySem.sizeLine) : Oe tx Y (tLst tl) Γ (oList (d := d)) m := fun nb xk => o_lst (wl_mono (h nb xk) fun xs e => ⟨hl xs e, e⟩)
theorem oe_lst0 : Oe tx Y (tLst tNil) Γ (oList (d := d)) (.ok []) := fun _ _ => o_nil rfl
def asLen (n : Nat) (m : M (List α)) : Prop := ∀ xs, m = .ok xs → xs.length = n
theorem asLen0 : asLen 0 (.ok ([] : List α)) := fun xs e => by cases e; rfl
theorem asLenS {n : Nat} {m : M α} {o : M (List α)} (h : asLen n o) : asLen (n + 1) (m >>= fun x => o >>= fun xs => .ok (x :: xs)) := fun xs e => by
  cases m with
  | bad => cases e
  | exc x => cases e
  | ok x => cases ho : o with
    | bad => rw [ho] at e; cases e
    | exc x => rw [ho] at e; cases e
    | ok ys => rw [ho] at e; cases e; simp [h ys ho]
theorem oe_lstN {n : Nat} {tl : TA} {m : M (List α)} (h : WLe tx Y tl Γ d m) (hl : asLen n m) (hn : n ≤ 1000) : Oe tx Y (tLst tl) Γ (oList (d := d)) m := oe_lst h fun xs e => by rw [hl xs e]; exact Nat.le_of_lt (small1k (by omega))
theorem oe_listOf {m : M (List α)} (h : We tx Y ta Γ (dList (d := d)) m) : Oe tx Y (tCB (fun xs H Q => ∃ p ys, xs = [.ref p] ∧ (SqL Y.K H p ys ∨ SqT Y.K H p ys) ∧ ∀ l, H l = none → Q (.ref l) (upd H l (.lst ys))) (tCons ta tNil)) Γ (oList (d := d)) m := oe_eq (oe_p1w (f := fun x : List α => x) (fun k h => o_listOf h) h) (M.bind_ok m)
/-! slices -/
def TOe (tx : XC → Addr) (Y : YC) (to : TO) (Γ : List Cell) (m : M (Option Int)) : Prop := m.nb → XkM tx Y Γ m → TOk Y to Γ (m = .ok ·)
theorem toe_none : TOe tx Y tNoPart Γ (.ok none) := fun _ _ => to_none rfl
theorem toe_some {m : M Int} (h : Re tx Y te Γ dInt m) : TOe tx Y (tPart te) Γ (m >>= fun n => .ok (some n)) := fun nb xk => to_some (h.k nb xk fun n e _ _ => by rw [e]; rfl)
theorem to_mono {to : TO} {k k' : Option Int → Prop} (h : TOk Y to Γ k) (m : ∀ x, k x → k' x) : TOk Y to Γ k' := fun e F σ H s Q q => h e F σ H s Q fun v F' H' kx g => q v F' H' (m v kx) g
/-! fields -/
theorem we_fld {C0 : Addr} {f : Str} {g : α → β} {m : M α} (hf : IsF d C0 f d2 g) (c : Cls Y.K C0) (n : NoAttr Y.K C0 f) (h : We tx Y te Γ d m) : We tx Y (tFld Y.K te f) Γ d2 (m >>= fun x => .ok (g x)) := we_p1w (fun k h => w_fld hf c n h) h
theorem we_con {C0 : Addr} {f : Str} {ns : List Str} {n : Int} {u : Value} {m : M α} (hf : IsI d C0 ns) (c : Cls Y.K C0) (k0 : Con Y.K C0 f (.int n) u) (hn : f ∉ ns) (h : Re tx Y te Γ d m) : We tx Y (tCon Y.K te f) Γ dInt (m >>= fun _ => .ok n) := we_p1 (f := fun _ : α => n) (fun k h => w_con hf c k0 hn h) h
end
section
variable {tx : XC → Addr} {Y : YC} {Γ : List Cell} {β : Type} {d : Dat β} {t1 t2 t3 t4 t5 t6 t7 : TE} {sp : Sp} {E : L2.St → XK}
variable {α0 α1 α2 α3 α4 α5 α6 α7 : Type} {d0 : Dat α0} {d1 : Dat α1} {d2 : Dat α2} {d3 : Dat α3} {d4 : Dat α4} {d5 : Dat α5} {d6 : Dat α6} {d7 : Dat α7} {m0 : M α0} {m1 : M α1} {m2 : M α2} {m3 : M α3} {m4 : M α4} {m5 : M α5} {m6 : M α6} {m7 : M α7} {t0 : TE}
theorem we_call1 {f : α1 → M β} (hs : ∀ x1, (f x1).nb → SpX Y.g sp [.val d1 x1] (fun c => ∃ r, c = .val d r ∧ (f x1) = .ok r) fun x => ∃ px, (f x1) = .exc px ∧ x = px.x tx) (hE : E = Y.E) (h1 : We tx Y t1 Γ d1 m1) : We tx Y (tCallS sp E (tCons t1 tNil)) Γ d (m1 >>= fun x1 => f x1) := fun nb xk => w_callX hE (wa_cons (h1.k nb xk fun x1 e1 nb xk => wa_nil fun vs H Q E fx => hs x1 nb vs H Q E (fx.mono (fun c ⟨r, e, q⟩ => ⟨r, e, by rw [e1]; exact q⟩) fun x ⟨px, e, q⟩ => q ▸ xk px e)))
theorem we_call2 {f : α1 → α2 → M β} (hs : ∀ x1 x2, (f x1 x2).nb → SpX Y.g sp [.val d1 x1, .val d2 x2] (fun c => ∃ r, c = .val d r ∧ (f x1 x2) = .ok r) fun x => ∃ px, (f x1 x2) = .exc px ∧ x = px.x tx) (hE : E = Y.E) (h1 : We tx Y t1 Γ d1 m1) (h2 : We tx Y t2 Γ d2 m2) : We tx Y (tCallS sp E (tCons t1 (tCons t2 tNil))) Γ d (m1 >>= fun x1 => m2 >>= fun x2 => f x1 x2) := fun nb xk => w_callX hE (wa_cons (h1.k nb xk fun x1 e1 nb xk => wa_cons (h2.k nb xk fun x2 e2 nb xk => wa_nil fun vs H Q E fx => hs x1 x2 nb vs H Q E (fx.mono (fun c ⟨r, e, q⟩ => ⟨r, e, by rw [e1]; show (m2 >>= _) = _; rw [e2]; exact q⟩) fun x ⟨px, e, q⟩ => q ▸ xk px e))))
theorem we_call3 {f : α1 → α2 → α3 → M β} (hs : ∀ x1 x2 x3, (f x1 x2 x3).nb → SpX Y.g sp [.val d1 x1, .val d2 x2, .val d3 x3] (fun c => ∃ r, c = .val d r ∧ (f x1 x2 x3) = .ok r) fun x => ∃ px, (f x1 x2 x3) = .exc px ∧ x = px.x tx) (hE : E = Y.E) (h1 : We tx Y t1 Γ d1 m1) (h2 : We tx Y t2 Γ d2 m2) (h3 : We tx Y t3 Γ d3 m3) : We tx Y (tCallS sp E (tCons t1 (tCons t2 (tCons t3 tNil)))) Γ d (m1 >>= fun x1 => m2 >>= fun x2 => m3 >>= fun x3 => f x1 x2 x3) := fun nb xk => w_callX hE (wa_cons (h1.k nb xk fun x1 e1 nb xk => wa_cons (h2.k nb xk fun x2 e2 nb xk => wa_cons (h3.k nb xk fun x3 e3 nb xk => wa_nil fun vs H Q E fx => hs x1 x2 x3 nb vs H Q E (fx.mono (fun c ⟨r, e, q⟩ => ⟨r, e, by rw [e1]; show (m2 >>= _) = _; rw [e2]; show (m3 >>= _) = _; rw [e3]; exact q⟩) fun x ⟨px, e, q⟩ => q ▸ xk px e)))))
theorem oe_call1 {od : @OD β d} {f : α1 → M β} (hs : ∀ x1, (f x1).nb → SpX Y.g sp [.val d1 x1] (fun c => ∃ r, c = .own d od none r ∧ (f x1) = .ok r) fun x => ∃ px, (f x1) = .exc px ∧ x = px.x tx) (hE : E = Y.E) (h1 : We tx Y t1 Γ d1 m1) : Oe tx Y (tCallS sp E (tCons t1 tNil)) Γ od (m1 >>= fun x1 => f x1) := fun nb xk => o_callX hE (wa_cons (h1.k nb xk fun x1 e1 nb xk => wa_nil fun vs H Q E fx => hs x1 nb vs H Q E (fx.mono (fun c ⟨r, e, q⟩ => ⟨r, e, by rw [e1]; exact q⟩) fun x ⟨px, e, q⟩ => q ▸ xk px e)))
theorem oe_call2 {od : @OD β d} {f : α1 → α2 → M β} (hs : ∀ x1 x2, (f x1 x2).nb → SpX Y.g sp [.val d1 x1, .val d2 x2] (fun c => ∃ r, c = .own d od none r ∧ (f x1 x2) = .ok r) fun x => ∃ px, (f x1 x2) = .exc px ∧ x = px.x tx) (hE : E = Y.E) (h1 : We tx Y t1 Γ d1 m1) (h2 : We tx Y t2 Γ d2 m2) : Oe tx Y (tCallS sp E (tCons t1 (tCons t2 tNil))) Γ od (m1 >>= fun x1 => m2 >>= fun x2 => f x1 x2) := fun nb xk => o_callX hE (wa_cons (h1.k nb xk fun x1 e1 nb xk => wa_cons (h2.k nb xk fun x2 e2 nb xk => wa_nil fun vs H Q E fx => hs x1 x2 nb vs H Q E (fx.mono (fun c ⟨r, e, q⟩ => ⟨r, e, by rw [e1]; show (m2 >>= _) = _; rw [e2]; exact q⟩) fun x ⟨px, e, q⟩ => q ▸ xk px e))))
theorem oe_call3 {od : @OD β d} {f : α1 → α2 → α3 → M β} (hs : ∀ x1 x2 x3, (f x1 x2 x3).nb → SpX Y.g sp [.val d1 x1, .val d2 x2, .val d3 x3] (fun c => ∃ r, c = .own d od none r ∧ (f x1 x2 x3) = .ok r) fun x => ∃ px, (f x1 x2 x3) = .exc px ∧ x = px.x tx) (hE : E = Y.E) (h1 : We tx Y t1 Γ d1 m1) (h2 : We tx Y t2 Γ d2 m2) (h3 : We tx Y t3 Γ d3 m3) : Oe tx Y (tCallS sp E (tCons t1 (tCons t2 (tCons t3 tNil)))) Γ od (m1 >>= fun x1 => m2 >>= fun x2 => m3 >>= fun x3 => f x1 x2 x3) := fun nb xk => o_callX hE (wa_cons (h1.k nb xk fun x1 e1 nb xk => wa_cons (h2.k nb xk fun x2 e2 nb xk => wa_cons (h3.k nb xk fun x3 e3 nb xk => wa_nil fun vs H Q E fx => hs x1 x2 x3 nb vs H Q E (fx.mono (fun c ⟨r, e, q⟩ => ⟨r, e, by rw [e1]; show (m2 >>= _) = _; rw [e2]; show (m3 >>= _) = _; rw [e3]; exact q⟩) fun x ⟨px, e, q⟩ => q ▸ xk px e)))))
theorem oe_make1 {od : @OD β d} {C0 : Addr} {f : α1 → M β} (hs : ∀ x1, (f x1).nb → SpI Y.g sp od C0 [.val d1 x1] (fun r => (f x1) = .ok r) fun x => ∃ px, (f x1) = .exc px ∧ x = px.x tx) (hE : E = Y.E) (h1 : We tx Y t1 Γ d1 m1) : Oe tx Y (tMakeS C0 sp E (tCons t1 tNil)) Γ od (m1 >>= fun x1 => f x1) := fun nb xk => o_makeS hE (wa_cons (h1.k nb xk fun x1 e1 nb xk => wa_nil fun vs H Q E fx => hs x1 nb vs H Q E (fx.mono (fun r q => by rw [e1]; exact q) fun x ⟨px, e, q⟩ => q ▸ xk px e)))
end
end G
end

noncomputable section
/-! M2: what is walked, comprehensions, statements: with models. -/
namespace L2
open PySem PySem.Spec PyProof.Rows
section
variable {X : Cx}
/-- what is walked is no longer than a line -/
def iListB (K : PySem.W.Frag) (tl : TE) : TI := fun σ H R => tl σ H fun x H1 => ∃ a xs, x = .ref a ∧ SqL K H1 a xs ∧ (xs.length ≤ sizeLine → R (Itl K a) H1)
end
end L2
namespace G
open PySem PySem.Spec PyProof.Rows L2 PySem.W
section
variable {tx : XC → Addr} {Y : YC} {Γ : List Cell} {te ta tb tc td tl : TE} {t u tt : TT} {α β γ δ ε σ τ ρ : Type} {d : Dat α} {d1 : Dat α} {d2 : Dat β} {d3 : Dat γ} {g : TG} {ts t1 t2 rest : TS} {js js' vs : List Nat}
/-! ### what a for walks -/
def Ie (tx : XC → Addr) (Y : YC) (ti : TI) (Γ : List Cell) {α : Type} (d : Dat α) (m : M (List α)) : Prop := m.nb → XkM tx Y Γ m → ∀ (g : TG) (ts : TS) (k : Ks), (∀ xs, m = .ok xs → Body Y g ts d k (fun i => xs[i]?) xs.length Γ) → Z Y (tFor ti g ts) Γ k
theorem ie_eq {ti : TI} {m m' : M (List α)} (h : Ie tx Y ti Γ d m) (e : m = m') : Ie tx Y ti Γ d m' := e ▸ h
theorem ie_list {m : M (List α)} (h : We tx Y tl Γ (dList (d := d)) m) : Ie tx Y (iList Y.K tl) Γ d m := fun nb xk g ts k hb => z_for (w_mono (h nb xk) fun xs e => hb xs e)
theorem ie_range {m : M Int} (h : Re tx Y ta Γ dInt m) : Ie tx Y (iRng1 (tCons ta tNil)) Γ dInt (m >>= M.range) := fun nb xk g ts k hb => z_range (h.k nb xk fun n e nb2 _ => by
  have hp := M.asrt_nb nb2
  refine ⟨hp.1, Int.lt_of_le_of_lt hp.2 (by decide), ?_⟩
  have := hb (rngL 0 n.toNat) (by rw [e]; exact M.asrt_pos hp)
  rw [rngL_len] at this
  rw [show rng 0 n.toNat = fun i => (rngL 0 n.toNat)[i]? from funext fun i => rng_get 0 n.toNat i]
  exact this)
/-! ### comprehensions -/
def Ic (tx : XC → Addr) (Y : YC) (ti : TI) (Γ : List Cell) {α : Type} (d : Dat α) (m : M (List α)) : Prop := m.nb → XkM tx Y Γ m → ∀ {β : Type} (d2 : Dat β) (g : TG) (tt : TT) (te : TE) (vs : List Nat) (kx : List β → Prop), (Tg g vs ∧ MoG g) →
  (∀ xs, m = .ok xs → xs.length ≤ PySem.sizeLine → CompB Y g tt te d d2 kx (fun i => xs[i]?) xs.length (wipeC Γ vs)) → O Y (tLc ti g tt te vs) Γ (oList (d := d2)) kx
theorem ic_range {m : M Int} (h : Re tx Y ta Γ dInt m) : Ic tx Y (iRng1 (tCons ta tNil)) Γ dInt (m >>= M.range) := fun nb xk β d2 g tt te vs kx hT hb => o_lcR hT (h.k nb xk fun n e nb2 _ => by
  have hp := M.asrt_nb nb2
  refine ⟨hp.1, Int.lt_of_le_of_lt hp.2 (by decide), ?_⟩
  have := hb (rngL 0 n.toNat) (by rw [e]; exact M.asrt_pos hp) (by rw [rngL_len]; have := hp.2; omega)
  rw [rngL_len] at this
  rw [show rng 0 n.toNat = fun i => (rngL 0 n.toNat)[i]? from funext fun i => rng_get 0 n.toNat i]
  exact this)
theorem te_yes : Te tx Y tYes Γ (.ok true) := fun _ _ => t_yes rfl
theorem oe_lc {ti : TI} {m0 : M (List α)} {p : α → M Bool} {f : α → M β} (hT : Tg g vs ∧ MoG g) (h : Ic tx Y ti Γ d m0) (hb : ∀ x, A Y g (wipeC Γ vs) d x fun Γ2 => Te tx (calm Y.g) tt Γ2 (p x) ∧ We tx (calm Y.g) te Γ2 d2 (f x)) :
    Oe tx Y (tLc ti g tt te vs) Γ (oList (d := d2)) (m0 >>= M.comp p f) := fun nb xk => h (M.nb1 nb) xk.l d2 g tt te vs _ hT fun xs e hz => by
  have nb2 : (M.comp p f xs).nb := M.nb2 nb e
  refine ⟨fun i ys => M.comp p f (xs.take i) = .ok ys ∧ ys.length ≤ i, ⟨rfl, Nat.le_refl _⟩, fun i x ys hx ⟨hi, hl⟩ => ?_, fun ys ⟨hi, _⟩ => ?_⟩
  · have hx' : xs[i]? = some x := hx
    have hlt : i < xs.length := (List.getElem?_eq_some_iff.mp hx').1
    have htk : xs.take (i + 1) = xs.take i ++ [x] := by rw [List.take_add_one, hx']; rfl
    have e1 : M.comp p f (xs.take (i + 1)) = (M.comp p f [x] >>= fun b => .ok (ys ++ b)) := by rw [htk, M.comp_app, hi]; rfl
    have nb3 : (M.comp p f [x]).nb := fun z => nb2 (by
      have : xs = xs.take (i + 1) ++ xs.drop (i + 1) := (List.take_append_drop _ _).symm
      rw [this, M.comp_app, e1, z]; rfl)
    intro e0 F σ0 H v s r Q q
    refine hb x e0 F σ0 H v s r Q fun σ' Γ' ⟨ht, hw⟩ s' => q σ' Γ' ?_ s'
    simp only [M.comp] at nb3 e1
    obtain ⟨b, hb1⟩ := M.calm_nb (M.nb1 nb3)
    rw [hb1] at nb3 e1
    simp only [M.calm_of_ok, M.ok_bind] at nb3 e1
    refine t_mono (t_calm (ht (by rw [hb1]; exact fun z => nomatch z) (by rw [hb1]; exact XkM.ok))) fun b' eb => ⟨fun z => ?_, fun z => ?_⟩
    · rw [hb1] at eb
      cases eb
      subst z
      rw [if_pos rfl] at nb3 e1
      obtain ⟨y, hy⟩ := M.calm_nb (M.nb1 nb3)
      rw [hy] at e1
      refine w_mono (w_calm (hw (by rw [hy]; exact fun z => nomatch z) (by rw [hy]; exact XkM.ok))) fun y' ey => ?_
      rw [hy] at ey
      cases ey
      exact ⟨by omega, e1, by simp; omega⟩
    · rw [hb1] at eb
      cases eb
      subst z
      rw [if_neg (by simp)] at e1
      exact ⟨by rw [e1]; simp, by omega⟩
  · rw [List.take_length] at hi
    rw [e]
    exact hi
/-! ### statements -/
theorem wipeC_len (Γ : List Cell) : ∀ js, (wipeC Γ js).length = Γ.length
  | [] => rfl
  | j :: js => by unfold wipeC; rw [List.length_set, wipeC_len Γ js]
theorem wipeC_set {Γ : List Cell} {i : Nat} {c : Cell} : ∀ {js : List Nat}, i ∈ js → wipeC (Γ.set i c) js = wipeC Γ js
  | [], h => nomatch h
  | j :: js, h => by
    unfold wipeC
    by_cases hi : i ∈ js
    · rw [wipeC_set hi]
    · have e : i = j := by
        rcases List.mem_cons.mp h with h | h
        · exact h
        · exact absurd h hi
      subst e
      have q : ∀ (js : List Nat), i ∉ js → wipeC (Γ.set i c) js = (wipeC Γ js).set i c := by
        intro js
        induction js with
        | nil => intro _; rfl
        | cons m js ih =>
          intro h
          unfold wipeC
          rw [ih (fun z => h (List.mem_cons_of_mem _ z)), set_comm _ _ _ (fun z => h (by rw [z]; exact List.mem_cons_self))]
      rw [q js hi]
      exact List.set_set _
theorem z_wipe {k : Ks} : ∀ (js : List Nat) {Γ : List Cell}, Z Y ts (wipeC Γ js) k → Z Y ts Γ k
  | [], _, h => h
  | j :: js, Γ, h => by
    refine z_wipe js ?_
    unfold wipeC at h
    cases q : (wipeC Γ js)[j]? with
    | some c => exact z_forget j q h
    | none =>
      rw [List.set_eq_of_length_le (List.getElem?_eq_none_iff.mp q)] at h
      exact h
structure Kt (τ : Type) where
  nx : τ → List Cell → Prop
  rt : τ → Cell → List Cell → Prop
  bk : τ → List Cell → Prop
  ct : τ → List Cell → Prop
def Kt.ks {τ : Type} (K : Kt τ) (m : M τ) : Ks := ⟨fun Γ => ∃ t, m = .ok t ∧ K.nx t Γ, fun c Γ => ∃ t, m = .ok t ∧ K.rt t c Γ, fun Γ => ∃ t, m = .ok t ∧ K.bk t Γ, fun Γ => ∃ t, m = .ok t ∧ K.ct t Γ⟩
/-- a def's end -/
def KF {ρ : Type} (cell : ρ → Cell) : Kt ρ := ⟨fun t _ => .val dUnit () = cell t, fun t c _ => c = cell t, fun _ _ => False, fun _ _ => False⟩
/-- a turn's end -/
def KL {σ : Type} (js' : List Nat) (cells : σ → List Cell) : Kt σ := ⟨fun s Γ => wipeC Γ js' = cells s, fun _ _ _ => False, fun _ _ => False, fun s Γ => wipeC Γ js' = cells s⟩
/-- a turn's end, where a turn may leave -/
def KC {σ ρ : Type} (js' : List Nat) (cells : σ → List Cell) (cell : ρ → Cell) : Kt (Ct σ ρ) := ⟨fun t Γ => ∃ s, t = .nx s ∧ wipeC Γ js' = cells s, fun t c _ => ∃ r, t = .rt r ∧ c = cell r, fun t Γ => ∃ s, t = .bk s ∧ wipeC Γ js' = cells s, fun t Γ => ∃ s, t = .nx s ∧ wipeC Γ js' = cells s⟩
def Xk (tx : XC → Addr) (Y : YC) (js : List Nat) (Γ : List Cell) {τ : Type} (m : M τ) : Prop := ∀ x, m = .exc x → ∀ Γ', wipeC Γ' js = wipeC Γ js → Y.kx (x.x tx) Γ'
theorem Xk.here {m : M τ} (h : Xk tx Y js Γ m) : XkM tx Y Γ m := fun x e => h x e Γ rfl
theorem Xk.r {Γ2 : List Cell} {m : M σ} {f : σ → M τ} {x : σ} (h : Xk tx Y js Γ (m >>= f)) (e : m = .ok x) (hw : wipeC Γ2 js = wipeC Γ js) : Xk tx Y js Γ2 (f x) := fun y e2 Γ' e3 => h y (by rw [e]; exact e2) Γ' (e3.trans hw)
theorem Xk.l {m : M σ} {f : σ → M τ} (h : Xk tx Y js Γ (m >>= f)) : Xk tx Y js Γ m := fun y e2 Γ' e3 => h y (by rw [e2]; rfl) Γ' e3
theorem Xk.w {Γ2 : List Cell} {m : M τ} (h : Xk tx Y js Γ m) (hw : wipeC Γ2 js = wipeC Γ js) : Xk tx Y js Γ2 m := fun y e2 Γ' e3 => h y e2 Γ' (e3.trans hw)
/-- the statement does as the model says -/
def Zm (tx : XC → Addr) (Y : YC) (js : List Nat) (ts : TS) (Γ : List Cell) {τ : Type} (K : Kt τ) (m : M τ) : Prop := m.nb → Xk tx Y js Γ m → Z Y ts Γ (K.ks m)
variable {K : Kt τ}
theorem Zm.go {Γ2 : List Cell} {m1 : M σ} {f : σ → M τ} {x : σ} (h : Zm tx Y js rest Γ2 K (f x)) (nb : (m1 >>= f).nb) (xk : Xk tx Y js Γ (m1 >>= f)) (e : m1 = .ok x) (hw : wipeC Γ2 js = wipeC Γ js) : Z Y rest Γ2 (K.ks (m1 >>= f)) := by
  have := h (M.nb2 nb e) (xk.r e hw)
  rw [e]
  exact this
theorem zm_last {m : M τ} (h : Zm tx Y js (tSeq ts tNext) Γ K m) : Zm tx Y js ts Γ K m := h
theorem zm_assoc {m : M τ} (h : Zm tx Y js (tSeq t1 (tSeq t2 rest)) Γ K m) : Zm tx Y js (tSeq (tSeq t1 t2) rest) Γ K m := h
theorem zm_skip {m : M τ} (h : Zm tx Y js rest Γ K m) : Zm tx Y js (tSeq tNext rest) Γ K m := h
theorem zm_set {i : Nat} {c0 : Cell} {m1 : M α} {m2 : α → M τ} (hi : Γ[i]? = some c0) (hj : i ∈ js) (h : We tx Y te Γ d m1) (h2 : ∀ x, Zm tx Y js rest (Γ.set i (.val d x)) K (m2 x)) : Zm tx Y js (tSeq (tAsg te (gName i)) rest) Γ K (m1 >>= m2) := fun nb xk =>
  z_seq (z_set hi (w_mono (h (M.nb1 nb) xk.l.here) fun x e => (h2 x).go nb xk e (wipeC_set hj)))
theorem zm_setO {od : @OD α d} {i : Nat} {c0 : Cell} {m1 : M α} {m2 : α → M τ} (hi : Γ[i]? = some c0) (hj : i ∈ js) (h : Oe tx Y te Γ od m1) (h2 : ∀ x, Zm tx Y js rest (Γ.set i (.own d od none x)) K (m2 x)) : Zm tx Y js (tSeq (tAsg te (gName i)) rest) Γ K (m1 >>= m2) := fun nb xk =>
  z_seq (z_setO hi (o_mono (h (M.nb1 nb) xk.l.here) fun x e => (h2 x).go nb xk e (wipeC_set hj)))
theorem a_mono {x : α} {k k' : List Cell → Prop} (h : A Y g Γ d x k) (m : ∀ Γ, k Γ → k' Γ) : A Y g Γ d x k' := fun e F σ H v s r Q q => h e F σ H v s r Q fun σ' Γ' kx s' => q σ' Γ' (m Γ' kx) s'
theorem zm_setG {m1 : M α} {m2 : α → M τ} (h : We tx Y te Γ d m1) (h2 : ∀ x, A Y g Γ d x fun Γ2 => wipeC Γ2 js = wipeC Γ js ∧ Zm tx Y js rest Γ2 K (m2 x)) : Zm tx Y js (tSeq (tAsg te g) rest) Γ K (m1 >>= m2) := fun nb xk =>
  z_seq (z_setG (w_mono (h (M.nb1 nb) xk.l.here) fun x e => a_mono (h2 x) fun Γ2 ⟨hw, hz⟩ => hz.go nb xk e hw))
theorem zm_to {Γ2 : List Cell} {m : M τ} (e : Γ = Γ2) (h : Zm tx Y js ts Γ2 K m) : Zm tx Y js ts Γ K m := e ▸ h
/-! stores into what is owned -/
theorem zm_append {pin : Option V} {i : Nat} {xs : List α} {m1 : M α} {m2 : List α → M τ} (hi : Γ[i]? = some (.own (dList (d := d)) (oList (d := d)) pin xs)) (hj : i ∈ js) (h : We tx Y te Γ d m1) (h2 : ∀ ys, Zm tx Y js rest (Γ.set i (.own (dList (d := d)) (oList (d := d)) pin ys)) K (m2 ys)) :
    Zm tx Y js (tSeq (tDrop (tBM Y.K "list" rAppend (tVar i) (tCons te tNil))) rest) Γ K (M.push xs m1 >>= m2) := fun nb xk =>
  z_seq (z_append hi (w_mono (h (M.nb1 (M.nb1 nb)) fun x e => xk.here x (by unfold M.push; rw [e]; rfl)) fun y e => by
    have nb1 : (M.push xs m1).nb := M.nb1 nb
    unfold M.push at nb1
    rw [e] at nb1
    have hl := M.asrt_nb nb1
    exact ⟨hl, (h2 (xs ++ [y])).go nb xk (by rw [e]; exact M.push_ok hl) (wipeC_set hj)⟩))
/-- xs[i] = e -/
def M.setIx {α : Type} (xs : List α) (mi : M Int) (me : M α) : M (List α) := me >>= fun y => mi >>= fun n => match ixN xs.length n with | some j => .ok (xs.set j y) | none => .bad
theorem zm_setIx {pin : Option V} {i : Nat} {xs : List α} {mi : M Int} {m1 : M α} {m2 : List α → M τ} (hi : Γ[i]? = some (.own (dList (d := d)) (oList (d := d)) pin xs)) (hj : i ∈ js) (h : We tx Y te Γ d m1) (hx : Re tx Y tb Γ dInt mi) (h2 : ∀ ys, Zm tx Y js rest (Γ.set i (.own (dList (d := d)) (oList (d := d)) pin ys)) K (m2 ys)) :
    Zm tx Y js (tSeq (tAsg te (gSub (tVar i) tb rSetL)) rest) Γ K (M.setIx xs mi m1 >>= m2) := fun nb xk =>
  z_seq (z_setIx hi (h.k (M.nb1 nb) xk.l.here fun y e nb3 xk3 => hx.k nb3 xk3 fun n e2 nb4 _ => by
    cases q : ixN xs.length n with
    | none => simp only [q] at nb4; exact absurd rfl nb4
    | some j => exact ⟨j, rfl, (h2 (xs.set j y)).go nb xk (by unfold M.setIx; rw [e]; show (mi >>= _) = _; rw [e2]; show (match ixN xs.length n with | some j => _ | none => _) = _; rw [q]) (wipeC_set hj)⟩))
def M.aug (f : Int → Int → Int) (x : Int) (m : M Int) : M Int := m >>= fun y => .ok (f x y)
theorem zm_aug {i : Nat} {f : Int → Int → Int} {x : Int} {m1 : M Int} {m2 : Int → M τ} (hi : Γ[i]? = some (.val dInt x)) (hj : i ∈ js) (h : Re tx Y te Γ dInt m1) (h2 : ∀ y, Zm tx Y js rest (Γ.set i (.val dInt y)) K (m2 y)) :
    Zm tx Y js (tSeq (tAug i te (ipI f)) rest) Γ K (M.aug f x m1 >>= m2) := fun nb xk =>
  z_seq (z_aug hi (h.k (M.nb1 nb) xk.l.here fun y e _ _ => (h2 (f x y)).go nb xk (by unfold M.aug; rw [e]; rfl) (wipeC_set hj)))
def M.popL {α : Type} (xs : List α) : M (List α × α) := match xs.getLast? with | some y => .ok (xs.dropLast, y) | none => .bad
theorem zm_pop {pin : Option V} {i j : Nat} {xs : List α} {c0 : Cell} {m2 : List α × α → M τ} (hi : Γ[i]? = some (.own (dList (d := d)) (oList (d := d)) pin xs)) (hij : (i == j) = false) (hj' : Γ[j]? = some c0) (hj : i ∈ js) (hjj : j ∈ js) (h2 : ∀ p, Zm tx Y js rest ((Γ.set i (.own (dList (d := d)) (oList (d := d)) pin p.1)).set j (.val d p.2)) K (m2 p)) :
    Zm tx Y js (tSeq (tAsg (tBM0 Y.K "list" rPop (tVar i)) (gName j)) rest) Γ K (M.popL xs >>= m2) := fun nb xk => by
  have nb1 : (M.popL xs).nb := M.nb1 nb
  cases q : xs.getLast? with
  | none => unfold M.popL at nb1; rw [q] at nb1; exact absurd rfl nb1
  | some y =>
    have e : M.popL xs = .ok (xs.dropLast, y) := by unfold M.popL; rw [q]
    have ex : xs = xs.dropLast ++ [y] := by
      obtain ⟨ys, rfl⟩ := List.getLast?_eq_some_iff.mp q
      simp
    have hne : i ≠ j := by simpa using hij
    refine z_seq (z_pop (xs := xs.dropLast) (y := y) (c0 := c0) (by rw [← ex]; exact hi) ?_ ((h2 (xs.dropLast, y)).go nb xk e ?_))
    · rw [List.getElem?_set_ne hne]; exact hj'
    · rw [wipeC_set hjj, wipeC_set hj]
/-! ways -/
theorem zm_if {mb : M Bool} {m1 m2 : M τ} (hb : Te tx Y t Γ mb) (h1 : Zm tx Y js (tSeq t1 rest) Γ K m1) (h2 : Zm tx Y js (tSeq t2 rest) Γ K m2) : Zm tx Y js (tSeq (tIfS t t1 t2) rest) Γ K (mb >>= fun b => if b then m1 else m2) := fun nb xk => by
  have : Z Y (tIfS t (tSeq t1 rest) (tSeq t2 rest)) Γ (K.ks (mb >>= fun b => if b then m1 else m2)) := z_if (t_mono (hb (M.nb1 nb) xk.l.here) fun b e => ⟨fun z => by
    subst z
    exact Zm.go (f := fun b => if b = true then m1 else m2) (x := true) h1 nb xk e rfl, fun z => by
    subst z
    exact Zm.go (f := fun b => if b = true then m1 else m2) (x := false) h2 nb xk e rfl⟩)
  intro e F σ H D hM s c
  have q := this e F σ H D hM s c
  refine Eq.mp ?_ q
  unfold tIfS tSeq
  rfl
theorem zm_ifP {b : Bool} {m1 m2 : M τ} (hb : Te tx Y t Γ (.ok b)) (h1 : Zm tx Y js (tSeq t1 rest) Γ K m1) (h2 : Zm tx Y js (tSeq t2 rest) Γ K m2) : Zm tx Y js (tSeq (tIfS t t1 t2) rest) Γ K (if b then m1 else m2) := zm_if hb h1 h2
theorem zm_ret {cell : τ → Cell} {d : Dat τ} {m : M τ} (h : We tx Y te Γ d m) (hc : cell = fun r => .val d r := by rfl) : Zm tx Y js (tSeq (tRet te) rest) Γ (KF cell) m := fun nb xk => by
  subst hc
  exact z_ret (te := te) (k := (KF fun r => Cell.val d r).ks m) (w_mono (h nb xk.here) fun x e => ⟨x, e, rfl⟩)
theorem zm_retO {cell : τ → Cell} {d : Dat τ} {od : OD τ} {m : M τ} (h : Oe tx Y te Γ od m) (hc : cell = fun r => .own d od none r := by rfl) : Zm tx Y js (tSeq (tRet te) rest) Γ (KF cell) m := fun nb xk => by
  subst hc
  exact z_retO (te := te) (k := (KF fun r => Cell.own d od none r).ks m) (o_mono (h nb xk.here) fun x e => ⟨x, e, rfl⟩)
theorem zm_retV {cell : τ → Cell} {d : Dat τ} {od : OD τ} {i : Nat} {x : τ} (hi : Γ[i]? = some (.own d od none x)) (hc : cell = fun r => .own d od none r := by rfl) : Zm tx Y js (tSeq (tRet (tVar i)) rest) Γ (KF cell) (.ok x) := fun nb xk => by
  subst hc
  exact z_retV (k := (KF fun r => Cell.own d od none r).ks (M.ok x)) hi ⟨x, rfl, rfl⟩
variable {cells : σ → List Cell} {cell : ρ → Cell} {s : σ}
theorem zm_retC {d : Dat ρ} {m : M ρ} (h : We tx Y te Γ d m) (hc : cell = fun r => .val d r := by rfl) : Zm tx Y js (tSeq (tRet te) rest) Γ (KC js' cells cell) (m >>= fun r => .ok (.rt r)) := fun nb xk => by
  subst hc
  exact z_ret (te := te) (k := (KC js' cells fun r => Cell.val d r).ks (m >>= fun r => .ok (.rt r))) (w_mono (h (M.nb1 nb) xk.l.here) fun x e => ⟨.rt x, by rw [e]; rfl, x, rfl, rfl⟩)
theorem zm_nextL (h : wipeC Γ js' = cells s) : Zm tx Y js tNext Γ (KL js' cells) (.ok s) := fun nb xk => z_next (k := (KL js' cells).ks (M.ok s)) ⟨s, rfl, h⟩
theorem zm_nextC (h : wipeC Γ js' = cells s) : Zm tx Y js tNext Γ (KC js' cells cell) (.ok (.nx s)) := fun nb xk => z_next (k := (KC js' cells cell).ks (M.ok (.nx s))) ⟨.nx s, rfl, s, rfl, h⟩
/-- ways that meet: no turn ends here -/
def KJ {σ : Type} (js' : List Nat) (cells : σ → List Cell) : Kt σ := ⟨fun s Γ => wipeC Γ js' = cells s, fun _ _ _ => False, fun _ _ => False, fun _ _ => False⟩
theorem zm_nextJ (h : wipeC Γ js' = cells s) : Zm tx Y js tNext Γ (KJ js' cells) (.ok s) := fun nb xk => z_next (k := (KJ js' cells).ks (M.ok s)) ⟨s, rfl, h⟩
theorem zm_join (js' : List Nat) (cells : σ → List Cell) {m1 : M σ} {m2 : σ → M τ} (hw : ∀ s, wipeC (cells s) js = wipeC Γ js) (h1 : Zm tx Y js t1 Γ (KJ js' cells) m1) (h2 : ∀ s, Zm tx Y js rest (cells s) K (m2 s)) : Zm tx Y js (tSeq t1 rest) Γ K (m1 >>= m2) := fun nb xk =>
  z_seq (z_mono (h1 (M.nb1 nb) xk.l) (fun Γ' ⟨s, e, hs⟩ => z_wipe js' (by rw [show wipeC Γ' js' = cells s from hs]; exact (h2 s).go nb xk e (hw s))) (fun _ _ ⟨_, _, z⟩ => z.elim) (fun _ ⟨_, _, z⟩ => z.elim) fun Γ' ⟨s, e, z⟩ => z.elim)
/-! loops -/
theorem zm_for {ti : TI} (js' : List Nat) (cells : σ → List Cell) (s0 : σ) {m0 : M (List α)} {f : σ → α → M σ} {m2 : σ → M τ} (hw0 : wipeC (wipeC Γ js') js = wipeC Γ js) (h0 : wipeC Γ js' = cells s0) (hw : ∀ s, wipeC (cells s) js = wipeC Γ js) (h : Ie tx Y ti (cells s0) d m0)
    (hb : ∀ s x, A Y g (cells s) d x fun Γ2 => wipeC Γ2 js = wipeC Γ js ∧ Zm tx Y js ts Γ2 (KL js' cells) (f s x)) (h2 : ∀ s, Zm tx Y js rest (cells s) K (m2 s)) : Zm tx Y js (tSeq (tFor ti g ts) rest) Γ K (m0 >>= fun xs => M.fold f s0 xs >>= m2) := fun nb xk => by
  refine z_wipe js' (by
    rw [h0]
    refine z_seq (h (M.nb1 nb) ((xk.w (hw s0)).l.here) g ts _ fun xs e => ?_)
    have nb1 : (M.fold f s0 xs >>= m2).nb := M.nb2 (f := fun xs => M.fold f s0 xs >>= m2) nb e
    have nb2 : (M.fold f s0 xs).nb := M.nb1 nb1
    refine ⟨fun i Γ' => ∃ s, M.fold f s0 (xs.take i) = .ok s ∧ wipeC Γ' js' = cells s, ⟨s0, rfl, ?_⟩, fun i x Γ' hx ⟨s, es, hΓ⟩ => ?_, fun Γ' ⟨s, es, hΓ⟩ => ?_⟩
    · rw [← h0]
      have : ∀ js : List Nat, wipeC (wipeC Γ js) js = wipeC Γ js := by
        intro l
        suffices ∀ (l m : List Nat), (∀ j ∈ m, j ∈ l) → wipeC (wipeC Γ l) m = wipeC Γ l from this l l fun _ h => h
        intro l m hm
        induction m with
        | nil => rfl
        | cons j m ih =>
          show (wipeC (wipeC Γ l) m).set j .no = _
          rw [ih fun k hk => hm k (List.mem_cons_of_mem _ hk)]
          have : ∀ l : List Nat, j ∈ l → (wipeC Γ l).set j .no = wipeC Γ l := by
            intro l hl
            induction l with
            | nil => exact nomatch hl
            | cons k l ih2 =>
              show ((wipeC Γ l).set k .no).set j .no = (wipeC Γ l).set k .no
              by_cases hk : j = k
              · subst hk; exact List.set_set _
              · rw [set_comm _ _ _ (fun z => hk z.symm), ih2 ((List.mem_cons.mp hl).resolve_left hk)]
          exact this l (hm j List.mem_cons_self)
      exact this js'
    · have htk : xs.take (i + 1) = xs.take i ++ [x] := by rw [List.take_add_one, show xs[i]? = some x from hx]; rfl
      have hs1 : M.fold f s0 (xs.take (i + 1)) = f s x := by rw [htk, M.fold_app, es]; show M.fold f s [x] = _; simp [M.fold]
      have hall : M.fold f s0 xs = (f s x >>= fun s' => M.fold f s' (xs.drop (i + 1))) := by
        have : xs = xs.take (i + 1) ++ xs.drop (i + 1) := (List.take_append_drop _ _).symm
        rw [this, M.fold_app, hs1, ← this]
      have nb3 : (f s x).nb := fun z => nb2 (by rw [hall, z]; rfl)
      have xk3 : ∀ {Γ2 : List Cell}, wipeC Γ2 js = wipeC Γ js → Xk tx Y js Γ2 (f s x) := fun {Γ2} hΓ2 y ey Γ' e3 => xk y (by rw [e]; show (M.fold f s0 xs >>= m2) = _; rw [hall, ey]; rfl) Γ' (e3.trans hΓ2)
      refine fun e0 F σ0 H v st r Q q => ?_
      have st2 : State Y e0 F σ0 H Γ' := st
      refine (show A Y g Γ' d x _ from ?_) e0 F σ0 H v st r Q q
      have hA := hb s x
      rw [← hΓ] at hA
      have lift : ∀ (js' : List Nat) (Γ' : List Cell) (k : List Cell → Prop), A Y g (wipeC Γ' js') d x k → A Y g Γ' d x k := by
        intro l
        induction l with
        | nil => intro _ _ h; exact h
        | cons j l ih =>
          intro Γ' k h
          refine ih Γ' k ?_
          unfold wipeC at h
          cases q : (wipeC Γ' l)[j]? with
          | some c => exact fun e F σ H v s r Q q' => h e F σ H v (s.hide q) r Q q'
          | none =>
            rw [List.set_eq_of_length_le (List.getElem?_eq_none_iff.mp q)] at h
            exact h
      refine lift js' Γ' _ (a_mono hA fun Γ2 ⟨hΓ2, hz⟩ => ?_)
      exact z_mono (hz nb3 (xk3 hΓ2)) (fun Γ3 ⟨s', e', h'⟩ => ⟨s', by rw [hs1]; exact e', h'⟩) (fun _ _ ⟨_, _, z⟩ => z.elim) (fun _ ⟨_, _, z⟩ => z.elim) fun Γ3 ⟨s', e', h'⟩ => ⟨s', by rw [hs1]; exact e', h'⟩
    · rw [List.take_length] at es
      refine z_wipe js' ?_
      rw [hΓ]
      have hz := Zm.go (f := m2) (x := s) (m1 := M.fold f s0 xs) (Γ := Γ) (h2 s) nb1 (Xk.r (f := fun xs => M.fold f s0 xs >>= m2) xk e rfl) es (hw s)
      rw [e]
      exact hz)
theorem wipeC_idem (Γ : List Cell) (js : List Nat) : wipeC (wipeC Γ js) js = wipeC Γ js := by
  suffices ∀ (l m : List Nat), (∀ j ∈ m, j ∈ l) → wipeC (wipeC Γ l) m = wipeC Γ l from this js js fun _ h => h
  intro l m hm
  induction m with
  | nil => rfl
  | cons j m ih =>
    show (wipeC (wipeC Γ l) m).set j .no = _
    rw [ih fun k hk => hm k (List.mem_cons_of_mem _ hk)]
    have : ∀ l : List Nat, j ∈ l → (wipeC Γ l).set j .no = wipeC Γ l := by
      intro l hl
      induction l with
      | nil => exact nomatch hl
      | cons k l ih2 =>
        show ((wipeC Γ l).set k .no).set j .no = (wipeC Γ l).set k .no
        by_cases hk : j = k
        · subst hk; exact List.set_set _
        · rw [set_comm _ _ _ (fun z => hk z.symm), ih2 ((List.mem_cons.mp hl).resolve_left hk)]
    exact this l (hm j List.mem_cons_self)
theorem a_wipe {x : α} : ∀ (js' : List Nat) {Γ' : List Cell} {k : List Cell → Prop}, A Y g (wipeC Γ' js') d x k → A Y g Γ' d x k
  | [], _, _, h => h
  | j :: l, Γ', k, h => by
    refine a_wipe l ?_
    unfold wipeC at h
    cases q : (wipeC Γ' l)[j]? with
    | some c => exact fun e F σ H v s r Q q' => h e F σ H v (s.hide q) r Q q'
    | none =>
      rw [List.set_eq_of_length_le (List.getElem?_eq_none_iff.mp q)] at h
      exact h
theorem t_wipe {k : Bool → Prop} : ∀ (js' : List Nat) {Γ' : List Cell}, T Y t (wipeC Γ' js') k → T Y t Γ' k
  | [], _, h => h
  | j :: l, Γ', h => by
    refine t_wipe l ?_
    unfold wipeC at h
    cases q : (wipeC Γ' l)[j]? with
    | some c => exact fun e F σ H s Q q' => h e F σ H (s.hide q) Q q'
    | none =>
      rw [List.set_eq_of_length_le (List.getElem?_eq_none_iff.mp q)] at h
      exact h
/-- a for whose turns may leave -/
theorem zm_forC {ti : TI} (js' : List Nat) (cells : σ → List Cell) (cell : ρ → Cell) (s0 : σ) {m0 : M (List α)} {f : σ → α → M (Ct σ ρ)} {mr : ρ → M τ} {m2 : σ → M τ} (hw0 : wipeC (wipeC Γ js') js = wipeC Γ js) (h0 : wipeC Γ js' = cells s0) (hw : ∀ s, wipeC (cells s) js = wipeC Γ js) (h : Ie tx Y ti (cells s0) d m0)
    (hb : ∀ s x, A Y g (cells s) d x fun Γ2 => wipeC Γ2 js = wipeC Γ js ∧ Zm tx Y js ts Γ2 (KC js' cells cell) (f s x)) (hr : ∀ r Γ', ∃ t, mr r = .ok t ∧ K.rt t (cell r) Γ') (h2 : ∀ s, Zm tx Y js rest (cells s) K (m2 s)) : Zm tx Y js (tSeq (tFor ti g ts) rest) Γ K (m0 >>= fun xs => M.foldC f s0 xs >>= fun c => c.go mr m2) := fun nb xk => by
  refine z_wipe js' (by
    rw [h0]
    refine z_seq (h (M.nb1 nb) ((xk.w (hw s0)).l.here) g ts _ fun xs e => ?_)
    have nb1 : (M.foldC f s0 xs >>= fun c => c.go mr m2).nb := M.nb2 (f := fun xs => M.foldC f s0 xs >>= fun c => c.go mr m2) nb e
    have nb2 : (M.foldC f s0 xs).nb := M.nb1 nb1
    -- behind the loop
    have fin : ∀ (s : σ) (c : Ct σ ρ) (Γ' : List Cell), M.foldC f s0 xs = .ok c → (c = .nx s ∨ c = .bk s) → wipeC Γ' js' = cells s → Z Y rest Γ' (K.ks (m0 >>= fun xs => M.foldC f s0 xs >>= fun c => c.go mr m2)) := fun s c Γ' es hc hΓ => by
      refine z_wipe js' ?_
      rw [hΓ]
      have hg : c.go mr m2 = m2 s := by rcases hc with z | z <;> (subst z; rfl)
      have hz := Zm.go (f := fun c : Ct σ ρ => c.go mr m2) (x := c) (show Zm tx Y js rest (cells s) K (c.go mr m2) from by rw [hg]; exact h2 s) (m1 := M.foldC f s0 xs) (Γ := Γ) nb1 (Xk.r (f := fun xs => M.foldC f s0 xs >>= fun c => c.go mr m2) xk e rfl) es (hw s)
      rw [e]
      exact hz
    refine ⟨fun i Γ' => ∃ s, M.foldC f s0 (xs.take i) = .ok (.nx s) ∧ wipeC Γ' js' = cells s, ⟨s0, rfl, by rw [← h0]; exact wipeC_idem Γ js'⟩, fun i x Γ' hx ⟨s, es, hΓ⟩ => ?_, fun Γ' ⟨s, es, hΓ⟩ => ?_⟩
    · have htk : xs.take (i + 1) = xs.take i ++ [x] := by rw [List.take_add_one, show xs[i]? = some x from hx]; rfl
      have hs1 : M.foldC f s0 (xs.take (i + 1)) = f s x := by
        rw [htk, M.foldC_app, es]; show M.foldC f s [x] = _
        simp only [M.foldC]
        cases f s x with
        | bad => rfl
        | exc x => rfl
        | ok c => cases c <;> rfl
      have hall : M.foldC f s0 xs = (f s x >>= fun c => match c with | .nx s' => M.foldC f s' (xs.drop (i + 1)) | c => .ok c) := by
        have : xs = xs.take (i + 1) ++ xs.drop (i + 1) := (List.take_append_drop _ _).symm
        rw [this, M.foldC_app, hs1, ← this]
        all_goals (cases f s x with
        | bad => rfl
        | exc x => rfl
        | ok c => cases c <;> rfl)
      have nb3 : (f s x).nb := fun z => nb2 (by rw [hall, z]; rfl)
      have xk3 : ∀ {Γ2 : List Cell}, wipeC Γ2 js = wipeC Γ js → Xk tx Y js Γ2 (f s x) := fun {Γ2} hΓ2 y ey Γ' e3 => xk y (by rw [e]; show (M.foldC f s0 xs >>= _) = _; rw [hall, ey]; rfl) Γ' (e3.trans hΓ2)
      have hA := hb s x
      rw [← hΓ] at hA
      refine a_wipe js' (a_mono hA fun Γ2 ⟨hΓ2, hz⟩ => ?_)
      refine z_mono (hz nb3 (xk3 hΓ2)) (fun Γ3 ⟨c, e', s', ec, h'⟩ => ⟨s', by rw [hs1, e', ec], h'⟩) (fun c Γ3 ⟨t, e', r, er, hc⟩ => ?_) (fun Γ3 ⟨c, e', s', ec, h'⟩ => ?_) fun Γ3 ⟨c, e', s', ec, h'⟩ => ⟨s', by rw [hs1, e', ec], h'⟩
      · subst er hc
        obtain ⟨t2, e2, hk⟩ := hr r Γ3
        exact ⟨t2, by rw [e]; show (M.foldC f s0 xs >>= _) = _; rw [hall, e']; exact e2, hk⟩
      · subst ec
        exact fin s' (.bk s') Γ3 (by rw [hall, e']; rfl) (.inr rfl) h'
    · rw [List.take_length] at es
      exact fin s (.nx s) Γ' es (.inl rfl) hΓ)
theorem zm_while (js' : List Nat) (cells : σ → List Cell) (s0 : σ) {c : σ → M Bool} {f : σ → M σ} {m2 : σ → M τ} (h0 : wipeC Γ js' = cells s0) (hw : ∀ s, wipeC (cells s) js = wipeC Γ js)
    (hc : ∀ s, Te tx Y t (cells s) (c s)) (hb : ∀ s, Zm tx Y js ts (cells s) (KL js' cells) (f s)) (h2 : ∀ s, Zm tx Y js rest (cells s) K (m2 s)) : Zm tx Y js (tSeq (tWhile t ts) rest) Γ K (M.loop c f s0 >>= m2) := fun nb xk => by
  obtain ⟨n, hn, hl⟩ := M.loop_nb (M.nb1 nb)
  refine z_wipe js' ?_
  rw [h0]
  refine z_seq (z_while (fun m Γ' => ∃ s, wipeC Γ' js' = cells s ∧ M.loopN c f m s = M.loop c f s0 ∧ M.loopN c f m s ≠ .bad) ⟨n, s0, by rw [← h0]; exact wipeC_idem Γ js', hl.symm, hn⟩ fun m Γ' ⟨s, hΓ, hm, hnb⟩ => ?_)
  cases m with
  | zero => exact absurd rfl hnb
  | succ m =>
    unfold M.loopN at hm hnb
    have nbc : (c s).nb := fun z => hnb (by rw [z]; rfl)
    have xkc : XkM tx Y (cells s) (c s) := fun y ey => (xk.w (hw s)).here y (by rw [← hm, ey]; rfl)
    refine t_wipe js' ?_
    rw [hΓ]
    refine t_mono (hc s nbc xkc) fun b eb => ⟨fun z => ?_, fun z => ?_⟩
    · subst z
      rw [eb] at hm hnb
      simp only [M.ok_bind, if_true] at hm hnb
      refine z_wipe js' ?_
      rw [hΓ]
      have nbf : (f s).nb := fun z => hnb (by rw [z]; rfl)
      have fin : ∀ (s' : σ) (Γ3 : List Cell), f s = .ok s' → wipeC Γ3 js' = cells s' → ∃ m', m' < m + 1 ∧ ∃ s, wipeC Γ3 js' = cells s ∧ M.loopN c f m' s = M.loop c f s0 ∧ M.loopN c f m' s ≠ .bad := fun s' Γ3 e' h' => by
        rw [e'] at hm hnb
        exact ⟨m, Nat.lt_succ_self m, s', h', hm, hnb⟩
      exact z_mono (hb s nbf fun y ey Γ2 e3 => xk y (by rw [← hm, ey]; rfl) Γ2 (e3.trans (hw s))) (fun Γ3 ⟨s', e', h'⟩ => fin s' Γ3 e' h') (fun _ _ ⟨_, _, z⟩ => z.elim) (fun _ ⟨_, _, z⟩ => z.elim) fun Γ3 ⟨s', e', h'⟩ => fin s' Γ3 e' h'
    · subst z
      rw [eb] at hm
      refine z_wipe js' ?_
      rw [hΓ]
      exact (h2 s).go nb xk (by rw [← hm]; rfl) (hw s)
/-- returns through, of defs and of turns -/
theorem rt_KF {cell : τ → Cell} : ∀ (r : τ) (Γ' : List Cell), ∃ t, (M.ok r : M τ) = .ok t ∧ (KF cell).rt t (cell r) Γ' := fun r _ => ⟨r, rfl, rfl⟩
/-! ### the body of a def -/
theorem Zm.body {C : GCtx} {N : List Str} {cell : τ → Cell} {m : M τ} {vs : List V} {H : Hp} {Q : VK} {E : XK} (nb : m.nb) (h : FnX C Γ (fun c => ∃ r, c = cell r ∧ m = .ok r) (fun x => ∃ px, m = .exc px ∧ x = px.x tx) vs H Q E)
    (hz : Zm tx ⟨C, fun _ => E, fun x _ => ∃ px, m = .exc px ∧ x = px.x tx⟩ js ts (Γ ++ List.replicate (N.length - Γ.length) .no) (KF cell) m) : ts { nx := fun _ H' => Q .non H', rt := Q } (L2.start N vs) H :=
  h.body (z_mono (hz nb fun x e Γ' _ => ⟨x, e, rfl⟩) (fun Γ' ⟨t, e, q⟩ => ⟨t, q, e⟩) (fun c Γ' ⟨t, e, q⟩ => ⟨t, q, e⟩) (fun _ ⟨_, _, z⟩ => z) fun _ ⟨_, _, z⟩ => z)
/-- .. of a def that lets nothing out -/
theorem Zm.body0 {C : GCtx} {N : List Str} {cell : τ → Cell} {m : M τ} {x : τ} {vs : List V} {H : Hp} {Q : VK} (e : m = .ok x) (h : Fn C Γ (fun c => c = cell x) vs H Q)
    (hz : Zm tx (calm C) js ts (Γ ++ List.replicate (N.length - Γ.length) .no) (KF cell) m) : ts { nx := fun _ H' => Q .non H', rt := Q } (L2.start N vs) H := by
  subst e
  exact h.body (z_mono (hz (fun z => nomatch z) fun x e => nomatch e) (fun Γ' ⟨t, e, q⟩ => by cases e; exact q) (fun c Γ' ⟨t, e, q⟩ => by cases e; exact q) (fun _ ⟨_, _, z⟩ => z) fun _ ⟨_, _, z⟩ => z)
end
end G
end

noncomputable section
/-! M3: exceptions and instances, with models. -/
namespace G
open PySem PySem.Spec PyProof.Rows L2 PySem.W
/-- c is k, or k is a base of c -/
def XC.isA (c k : XC) : Bool := decide (k = .ComesapartError) || decide (c = k)
def M.raise1 {α : Type} (c : XC) (f : Str) (m : M Int) : M α := m >>= fun n => .exc ⟨c, some [(f, .int n)]⟩
def M.raise2 {α : Type} (c : XC) (f1 f2 : Str) (m1 m2 : M Int) : M α := m1 >>= fun n => m2 >>= fun n2 => .exc ⟨c, some [(f2, .int n2), (f1, .int n)]⟩
/-- try: m; except: h, for the classes that p tells; kn: the classes that are known -/
def M.tryK {α : Type} (kn p : XC → Bool) (m : M α) (h : PX → M α) : M α := match m with | .exc x => if kn x.cls then (if p x.cls then h x else .exc x) else .bad | m => m
/-- e.f where e is of the class c -/
def PX.fld (x : PX) (c : XC) (f : Str) : M Int := if x.cls = c then (match x.fs with | some fs => (match fs.lookup f with | some (.int n) => .ok n | _ => .bad) | none => .bad) else .bad
section
variable {tx : XC → Addr} {Y : YC} {Γ : List Cell} {te ta tb tc td tl t1 t2 : TE} {α β γ τ : Type} {d : Dat α} {d1 : Dat α} {d2 : Dat β} {ts rest : TS} {js : List Nat} {K : Kt τ} {Cx : Addr} {f1 f2 : Str} {Wt : WX}
theorem zm_raise1 {c : XC} {m : M Int} (hE : Y.E = WE Wt) (hc : tx c = Cx) (h : Re tx Y te Γ dInt m) : Zm tx Y js (tSeq (fun _ σ H => tMkO Cx (spX1 Cx f1) [] (tCons te tNil) σ H fun cls d H' => Wt cls d σ H') rest) Γ K (M.raise1 c f1 m) := fun nb xk => by
  subst hc
  exact z_raise1 (k := K.ks (M.raise1 c f1 m)) hE (r_mono (h (M.nb1 nb) xk.l.here) fun n e => xk ⟨c, some [(f1, .int n)]⟩ (by unfold M.raise1; rw [e]; rfl) Γ rfl)
theorem z_wipeSet {k : Ks} {i : Nat} {c : Cell} : ∀ (js : List Nat) {Γ : List Cell}, Z Y ts ((wipeC Γ js).set i c) k → Z Y ts (Γ.set i c) k
  | [], _, h => h
  | j :: js, Γ, h => by
    refine z_wipeSet js ?_
    unfold wipeC at h
    by_cases hj : j = i
    · subst hj
      rw [List.set_set] at h
      exact h
    · rw [set_comm _ _ _ hj] at h
      exact z_wipe [j] h
/-- try: body; except c as the name at i: suite; a def's last statement -/
theorem zm_try {ρ : Type} {cell : ρ → Cell} (jt : List Nat) {tb : WX → TS} {tsu : Addr → Value → Option Addr → TS} {i : Nat} {cv : Value} {Wout : WX} {kn p : XC → Bool} {m : M ρ} {h : PX → M ρ} (hE : Y.E = WE Wout) (hi : ∃ c0, Γ[i]? = some c0) (hj : ∀ j ∈ jt, j ∈ js) (hij : i ∈ js)
    (hex : ∀ c, kn c = true → exmOne Y.K (.ref (tx c)) cv = some (p c))
    (hb : ∀ (W : WX) (kb : Exn → List Cell → Prop), Zm tx ⟨Y.g, WE W, kb⟩ jt (tb W) Γ (KF cell) m)
    (hs : ∀ px a d, kn px.cls = true → p px.cls = true → Zm tx Y js (tsu a (.ref (tx px.cls)) d) ((wipeC Γ jt).set i (.val (dExn a d) (px.x tx))) (KF cell) (h px)) :
    Zm tx Y js (tSeq (fun D σ H => tb (wAs Y.K cv i tsu Wout D) D σ H) tNext) Γ (KF cell) (M.tryK kn p m h) := fun nb xk => by
  have wj : ∀ {Γ' : List Cell}, wipeC Γ' jt = wipeC Γ jt → wipeC Γ' js = wipeC Γ js := by
    intro Γ' e
    have key : ∀ (G : List Cell) (l : List Nat), (∀ j ∈ l, j ∈ js) → wipeC (wipeC G l) js = wipeC G js := by
      intro G l
      induction l with
      | nil => intro _; rfl
      | cons j l ih => intro hl; show wipeC ((wipeC G l).set j .no) js = _; rw [wipeC_set (hl j List.mem_cons_self)]; exact ih fun k hk => hl k (List.mem_cons_of_mem _ hk)
    rw [← key Γ' jt hj, e, key Γ jt hj]
  have nbm : m.nb := fun z => nb (by unfold M.tryK; rw [z])
  have hz : Z Y (fun D σ H => tb (wAs Y.K cv i tsu Wout D) D σ H) Γ ((KF cell).ks (M.tryK kn p m h)) := by
    refine z_tryAs (fun x Γ' => ∃ px, m = .exc px ∧ x = px.x tx ∧ wipeC Γ' jt = wipeC Γ jt) hE (fun W => ?_) fun x Γ' ⟨px, em, ex, hΓ⟩ => ?_
    · refine z_mono (hb W _ nbm fun x e Γ' hΓ => ⟨x, e, rfl, hΓ⟩) (fun Γ' ⟨t, e, q⟩ => ⟨t, by unfold M.tryK; rw [e], q⟩) (fun c Γ' ⟨t, e, q⟩ => ⟨t, by unfold M.tryK; rw [e], q⟩) (fun _ ⟨_, _, z⟩ => z.elim) fun _ ⟨_, _, z⟩ => z.elim
    · subst ex
      have hkn : kn px.cls = true := by
        cases hk : kn px.cls with
        | true => rfl
        | false => exact absurd (by unfold M.tryK; rw [em]; show (if kn px.cls = true then _ else _) = _; rw [hk]; rfl) nb
      refine ⟨p px.cls, hex _ hkn, fun hp => ⟨?_, fun a d => ?_⟩, fun hp => ?_⟩
      · obtain ⟨c0, hc0⟩ := hi
        have hl : i < Γ'.length := by
          have e1 : Γ'.length = Γ.length := by rw [← wipeC_len Γ' jt, hΓ, wipeC_len]
          rw [e1]; exact (List.getElem?_eq_some_iff.mp hc0).1
        exact ⟨_, List.getElem?_eq_getElem hl⟩
      · have et : M.tryK kn p m h = h px := by unfold M.tryK; rw [em]; show (if kn px.cls = true then (if p px.cls = true then _ else _) else _) = _; rw [hkn, hp]; rfl
        refine z_wipeSet jt ?_
        rw [hΓ]
        have hw2 : wipeC ((wipeC Γ jt).set i (.val (dExn a d) (px.x tx))) js = wipeC Γ js := by
          rw [wipeC_set hij]; exact wj (wipeC_idem Γ jt)
        have q := hs px a d hkn hp (by rw [← et]; exact nb) (fun y ey Γ2 e2 => xk y (by rw [et]; exact ey) Γ2 (e2.trans hw2))
        refine z_mono q (fun Γ2 ⟨t, e, q⟩ => ⟨t, by rw [et]; exact e, q⟩) (fun c Γ2 ⟨t, e, q⟩ => ⟨t, by rw [et]; exact e, q⟩) (fun _ ⟨_, _, z⟩ => z.elim) fun _ ⟨_, _, z⟩ => z.elim
      · exact xk px (by unfold M.tryK; rw [em]; show (if kn px.cls = true then (if p px.cls = true then _ else _) else _) = _; rw [hkn, hp]; rfl) Γ' (wj hΓ)
  exact hz
/-- isinstance of the caught -/
theorem we_isX {a : Addr} {dd : Option Addr} {px : PX} {i : Nat} {c : V} {cv : Value} {kn : XC → Bool} {b : XC → Bool} (hi : Γ[i]? = some (.val (dExn a dd) (px.x tx))) (hkn : kn px.cls = true) (C : ∀ c, kn c = true → ExcC Y.K (tx c)) (hv : ∀ u, RelV c u → u = cv) (hk : ∀ c, kn c = true → kitOne Y.K (.ref (tx c)) cv = some (b c)) :
    We tx Y (tCB (rIsX Y.K a (.ref (tx px.cls)) dd) (tCons (tVar i) (tCons (tC c) tNil))) Γ dBool (.ok (b px.cls)) := fun nb xk => w_isX (x := px.x tx) hi rfl (C px.cls hkn) hv (hk px.cls hkn) rfl
theorem we_xf {a : Addr} {dd : Option Addr} {px : PX} {i : Nat} {c : XC} {f : Str} (hi : Γ[i]? = some (.val (dExn a dd) (px.x tx))) (hc : tx c = Cx) : We tx Y (tXf a (.ref (tx px.cls)) dd Cx f (tVar i)) Γ dInt (px.fld c f) := fun nb xk => by
  subst hc
  unfold PX.fld at nb ⊢
  split at nb
  · next hcls =>
    cases hfs : px.fs with
    | none => rw [hfs] at nb; exact absurd rfl nb
    | some fs =>
      rw [hfs] at nb
      cases hl : fs.lookup f with
      | none => simp only [hl] at nb; exact absurd rfl nb
      | some v =>
        cases v with
        | int n =>
          rw [if_pos hcls]
          exact w_xf (x := px.x tx) (n := n) (fs := fs) hi rfl (by show tx px.cls = _; rw [hcls]) hfs hl (by simp only [hl])
        | _ => simp only [hl] at nb; exact absurd rfl nb
  · exact absurd rfl nb
/-! making an instance -/
/-- the end of an __init__ -/
def KI {α : Type} {d : Dat α} (od : OD α) (p : Addr) : Kt α := ⟨fun t Γ => Γ[0]? = some (.own d od (some (.ref p)) t), fun _ _ _ => False, fun _ _ => False, fun _ _ => False⟩
theorem zm_endI {od : @OD α d} {p : Addr} {x : α} (h : Γ[0]? = some (.own d od (some (.ref p)) x)) : Zm tx Y js tNext Γ (KI od p) (.ok x) := fun nb xk => z_next (k := (KI od p).ks (M.ok x)) ⟨x, rfl, h⟩
theorem zm_fld1 {C0 : Addr} {f : Str} {i : Nat} {pin : Option V} {x : Ob0} {m1 : M β} {m2 : β → M τ} (hi : Γ[i]? = some (.own (dOb0 C0) (oOb0 C0) pin x)) (hj : i ∈ js) (c : Cls Y.K C0) (n : NoAttr Y.K C0 f) (h : We tx Y te Γ d2 m1) (h2 : ∀ y, Zm tx Y js rest (Γ.set i (.own (dOb1 C0 f) (oOb1 C0 f) pin ⟨y⟩)) K (m2 y)) :
    Zm tx Y js (tSeq (sFld Y.K (tVar i) te f) rest) Γ K (m1 >>= m2) := fun nb xk => z_seq (z_fld1 hi c n (w_mono (h (M.nb1 nb) xk.l.here) fun y e => (h2 y).go nb xk e (wipeC_set hj)))
theorem Zm.bodyI {C : GCtx} {N : List Str} {C0 : Addr} {od : @OD α d} {m : M α} {vs : List V} {H : Hp} {Q : VK} {E : XK} (nb : m.nb) (h : FnI C od C0 Γ (fun r => m = .ok r) (fun x => ∃ px, m = .exc px ∧ x = px.x tx) vs H Q E)
    (hz : ∀ p, Zm tx ⟨C, fun _ => E, fun x _ => ∃ px, m = .exc px ∧ x = px.x tx⟩ js ts (.own (dOb0 C0) (oOb0 C0) (some (.ref p)) ⟨()⟩ :: (Γ ++ List.replicate (N.length - (Γ.length + 1)) .no)) (KI od p) m) : ts { nx := fun _ H' => Q .non H', rt := Q } (L2.start N vs) H :=
  h.body fun p => z_mono (hz p nb fun x e Γ' _ => ⟨x, e, rfl⟩) (fun Γ' ⟨t, e, q⟩ => ⟨t, q, e⟩) (fun _ _ ⟨_, _, z⟩ => z.elim) (fun _ ⟨_, _, z⟩ => z) fun _ ⟨_, _, z⟩ => z
end
end G
end

noncomputable section
/-! M4: the program's classes; more rules. -/
namespace G
open PySem PySem.Spec PyProof.Rows L2 PySem.W
theorem kitCls_ref {K : Frag} {t : Value} {C : Addr} {cd : ClassData} {b : Bool} (h1 : clsIn K C = some cd) (h2 : typeIn K (.ref C) = some (.type "type")) (h3 : subIn K t (.ref C) = some b) : kitCls K t (.ref C) = some b := by
  show (if ((clsIn K C).isSome && typeIn K (.ref C) == some (.type "type")) = true then subIn K t (.ref C) else none) = _
  rw [h1, h2, h3]
  exact if_pos (by simp)
theorem kit_refT {K : Frag} {t : Value} {C : Addr} {cd : ClassData} (h1 : clsIn K C = some cd) (h2 : typeIn K (.ref C) = some (.type "type")) (h3 : subIn K t (.ref C) = some true) : kitOne K t (.ref C) = some true := by
  unfold kitOne
  rw [kitCls_ref h1 h2 h3]
  split <;> rfl
theorem kit_refF {K : Frag} {D C : Addr} {cd : ClassData} (hne : D ≠ C) (h1 : clsIn K C = some cd) (h2 : typeIn K (.ref C) = some (.type "type")) (h3 : subIn K (.ref D) (.ref C) = some false) : kitOne K (.ref D) (.ref C) = some false := by
  unfold kitOne
  rw [kitCls_ref h1 h2 h3]
  exact if_neg (fun z => hne (Value.ref.inj (beq_iff_eq.mp z)))
theorem exm_ref {K : Frag} {t : Value} {C : Addr} {cd : ClassData} {b : Bool} (h0 : subIn K (.ref C) (.type "BaseException") = some true) (h1 : clsIn K C = some cd) (h2 : typeIn K (.ref C) = some (.type "type")) (h3 : subIn K t (.ref C) = some b) : exmOne K t (.ref C) = some b := by
  unfold exmOne
  rw [h0, kitCls_ref h1 h2 h3]
  rfl
theorem kit_VE {K : Frag} {D : Addr} (h : subIn K (.ref D) (.type "ValueError") = some true) : kitOne K (.ref D) (.type "ValueError") = some true := by
  unfold kitOne kitCls
  rw [if_neg (by simp)]
  show (if kitMeta "ValueError" = true then subIn K (.ref D) (.type "ValueError") else none) = _
  rw [if_pos (by decide +kernel), h]
/-- the program's classes of objects -/
inductive OC where
  | Web | PairedWeb | Wiring | Sum | Kind | Desk | Likeness | Batch
  deriving DecidableEq
/-- where the classes stand -/
structure CA3 where
  tx : XC → Addr
  ob : OC → Addr
abbrev T4I := T4 Int Int Int Int
abbrev WebM := Ob2 (Tup Int) (Tup (T4 Int Int Int Int))
abbrev PairedWebM := Ob2 Int (Tup (Int × Int))
abbrev LikenessM := Ob2 Int (Tup (Int × Int))
abbrev SumM := Ob1 (Tup (Int × Tup Int))
section
variable (A : CA3)
@[reducible] def dWeb : Dat WebM := dOb2 (d1 := (dTup (d := dInt))) (d2 := (dTup (d := (dT4 (d1 := dInt) (d2 := dInt) (d3 := dInt) (d4 := dInt))))) (A.ob .Web) "sides" "ties"
@[reducible] def oWeb : @OD WebM (dWeb A) := oOb2 (d1 := (dTup (d := dInt))) (d2 := (dTup (d := (dT4 (d1 := dInt) (d2 := dInt) (d3 := dInt) (d4 := dInt))))) (A.ob .Web) "sides" "ties"
@[reducible] def dPairedWeb : Dat PairedWebM := dOb2 (d1 := dInt) (d2 := (dTup (d := (dPair (d1 := dInt) (d2 := dInt))))) (A.ob .PairedWeb) "pairs" "free"
@[reducible] def oPairedWeb : @OD PairedWebM (dPairedWeb A) := oOb2 (d1 := dInt) (d2 := (dTup (d := (dPair (d1 := dInt) (d2 := dInt))))) (A.ob .PairedWeb) "pairs" "free"
@[reducible] def dLikeness : Dat LikenessM := dOb2 (d1 := dInt) (d2 := (dTup (d := (dPair (d1 := dInt) (d2 := dInt))))) (A.ob .Likeness) "size" "_like"
@[reducible] def oLikeness : @OD LikenessM (dLikeness A) := oOb2 (d1 := dInt) (d2 := (dTup (d := (dPair (d1 := dInt) (d2 := dInt))))) (A.ob .Likeness) "size" "_like"
@[reducible] def dSum : Dat SumM := dOb1 (d1 := (dTup (d := (dPair (d1 := dInt) (d2 := (dTup (d := dInt))))))) (A.ob .Sum) "_rows"
@[reducible] def oSum : @OD SumM (dSum A) := oOb1 (d1 := (dTup (d := (dPair (d1 := dInt) (d2 := (dTup (d := dInt))))))) (A.ob .Sum) "_rows"
end
section
variable {tx : XC → Addr} {Y : YC} {Γ : List Cell} {te ta tb tc td tl t1 t2 : TE} {α β γ δ τ : Type} {d : Dat α} {d1 : Dat α} {d2 : Dat β} {d3 : Dat γ} {d4 : Dat δ}
/-! operators with written numbers -/
theorem we_modC {m : M Int} {j : Int} (h : Re tx Y ta Γ dInt m) (h2 : Re tx Y tb Γ dInt (.ok j)) (hj : 0 < j := by decide) : We tx Y (tOp (rI (fun _ j => 0 < j) fun i j => .int (i % j)) ta tb) Γ dInt (m >>= fun x => .ok (x % j)) := we_eq (we_mod h h2) (by cases m <;> first | rfl | exact M.asrt_pos hj)
theorem we_fdivC {m : M Int} {j : Int} (h : Re tx Y ta Γ dInt m) (h2 : Re tx Y tb Γ dInt (.ok j)) (hj : CDiv 0 j := by decide) : We tx Y (tOp (rI CDiv fun i j => .int (i / j)) ta tb) Γ dInt (m >>= fun x => .ok (x / j)) := we_eq (we_fdiv h h2) (by cases m <;> first | rfl | exact M.asrt_pos hj)
theorem we_mulCr {m : M Int} {j : Int} (h : Re tx Y ta Γ dInt m) (h2 : Re tx Y tb Γ dInt (.ok j)) (hj : -(2 ^ 64) < j ∧ j < 2 ^ 64 := by decide) : We tx Y (tOp (rI CMul fun i j => .int (i * j)) ta tb) Γ dInt (m >>= fun x => .ok (x * j)) := we_eq (we_mul h h2) (by cases m <;> first | rfl | exact M.asrt_pos (.inr hj))
theorem we_mulCl {m : M Int} {j : Int} (h : Re tx Y ta Γ dInt (.ok j)) (h2 : Re tx Y tb Γ dInt m) (hj : -(2 ^ 64) < j ∧ j < 2 ^ 64 := by decide) : We tx Y (tOp (rI CMul fun i j => .int (i * j)) ta tb) Γ dInt (m >>= fun x => .ok (j * x)) := we_eq (we_mul h h2) (by cases m <;> first | rfl | exact M.asrt_pos (.inl hj))
/-! lists joined -/
def M.cat {α : Type} (xs ys : List α) : M (List α) := M.asrt (xs.length + ys.length ≤ PySem.sizeLine) (.ok (xs ++ ys))
/-! sets, dicts -/
end
end G
namespace L2
open PySem PySem.Spec PyProof.Rows
section
variable {X : Cx} (K : PySem.W.Frag)
theorem pg_tupK {es : List Expr} {k n : Nat} {t : TGs} {pos : Pos} (hc : X.calm = true) (h : PGs X es t) (hn : (assignEach es X.env).length = n := by rfl) (hst : (assignEach es X.env).findIdx? (·.1) = none := by rfl) (hK : X.K = K := by rfl) : PG X (.Tuple es k pos) (gTup K n t) := hK ▸ pg_tup hc h hn hst
theorem fld_K {e : Expr} {te : TE} {f : Str} {pos : Pos} (he : PE X e te) (hb : attributeBase e f X.env (eval e X.env) = eval e X.env) (hK : X.K = K := by rfl) : PE X (.Attribute e f pos) (tFld K te f) := hK ▸ pe_fld he hb
theorem con_K {e : Expr} {te : TE} {f : Str} {pos : Pos} (he : PE X e te) (hb : attributeBase e f X.env (eval e X.env) = eval e X.env) (hK : X.K = K := by rfl) : PE X (.Attribute e f pos) (tCon K te f) := hK ▸ pe_con he hb
end
/-- try: body; except c as the name at i: suite -/
def tTry (K : PySem.W.Frag) (c : Value) (i : Nat) (tb : WX → TS) (ts : Addr → Value → Option Addr → TS) (Wout : WX) : TS := fun D σ H => tb (wAs K c i ts Wout D) D σ H
section
variable {X : Cx} {x n : Str} {c : Value} {i : Nat} {body suite : List Stmt} {b₀ : Stmt} {np pos pos' : Pos} {tb : WX → TS} {ts : Addr → Value → Option Addr → TS} {Wout : WX}
theorem try_as (K : PySem.W.Frag) (hs : X.stack = X.env :: X.outer) (hf : X.env.frame = some X.env.locals) (hN : X.N.Nodup) (hi : X.N[i]? = some n) (hln : X.env.kindOf n = some .local) (hc : Names X x c) (tk : Takes X Wout)
    (hb : ∀ (W : WX) (pn : List (Addr × Obj)) (xe : Value → Shared → Prop), Takes (X.tr pn xe) W → PassesOwn (model X.prog X.w) X.A X.env xe → PSs (X.tr pn xe) body (tb W))
    (hsu : ∀ (a : Addr) (oe : Obj) (cls : Value) (d : Option Addr) (pn : List (Addr × Obj)), Zc cls d oe → (∃ vs, oe.data = .fields vs) → PSs (X.suite a ((a, oe) :: pn)) (b₀ :: suite) (ts a cls d)) (hK : X.K = K := by rfl) :
    PS X (.Try body [.ExceptHandler (some (.Name x np)) (some n) (b₀ :: suite) pos'] [] [] pos) (tTry K c i tb ts Wout) := hK ▸ ps_try_as hs hf hN hi hln hc tk hb hsu
end
end L2
namespace G
open PySem PySem.Spec PyProof.Rows L2 PySem.W
theorem zm_tryT {tx : XC → Addr} {Y : YC} {Γ : List Cell} {js : List Nat} {ρ : Type} {cell : ρ → Cell} (jt : List Nat) {tb : WX → TS} {tsu : Addr → Value → Option Addr → TS} {i : Nat} {cv : Value} {Wout : WX} {kn p : XC → Bool} {m : M ρ} {h : PX → M ρ} (hE : Y.E = WE Wout) (hi : ∃ c0, Γ[i]? = some c0) (hj : ∀ j ∈ jt, j ∈ js) (hij : i ∈ js)
    (hex : ∀ c, kn c = true → exmOne Y.K (.ref (tx c)) cv = some (p c))
    (hb : ∀ (W : WX) (kb : Exn → List Cell → Prop), Zm tx ⟨Y.g, WE W, kb⟩ jt (tb W) Γ (KF cell) m)
    (hs : ∀ px a d, kn px.cls = true → p px.cls = true → Zm tx Y js (tsu a (.ref (tx px.cls)) d) ((wipeC Γ jt).set i (.val (dExn a d) (px.x tx))) (KF cell) (h px)) :
    Zm tx Y js (tSeq (tTry Y.K cv i tb tsu Wout) tNext) Γ (KF cell) (M.tryK kn p m h) := zm_try jt hE hi hj hij hex hb hs
end G
end

noncomputable section
/-! M5: more rules: lists joined and repeated, list(range), pop(i), insert, sum, None. -/
namespace L2
open PySem PySem.Spec PyProof.Rows
section
variable {X : Cx}
/-- xs + ys, lists that are read -/
def rCatR : R2 := fun x y H Q => ∃ l b xs zs, x = .ref l ∧ y = .ref b ∧ Rd H l (.lst xs) ∧ Rd H b (.lst zs) ∧ xs.length + zs.length ≤ sizeLine ∧ ∀ p, H p = none → Q (.ref p) (upd H p (.lst (xs ++ zs)))
theorem op_catR : OpR X (binaryOp .Add) rCatR := by
  intro pins s σ H x y v u Q I rx ry h
  obtain ⟨l, b, xs, zs, rfl, rfl, hH, hB, hz, q⟩ := h
  cases rx
  cases ry
  obtain ⟨z, its, n, r, e⟩ := hH.ok I.hok
  obtain ⟨z2, its2, n2, r2, e2⟩ := hB.ok I.hok
  have hl := r.length
  have hl2 := r2.length
  refine PySem.P.add_list e e2 ?_ (by rw [List.size_toArray, List.size_toArray]; omega)
  have ea : its.toArray ++ its2.toArray = (its ++ its2).toArray := by simp
  rw [ea]
  exact ⟨.ref _, _, I.lnew (t' := s.toks) (r.append r2) (by rw [List.length_append]; omega), rfl, q _ I.fresh⟩
end
end L2
namespace G
open PySem PySem.Spec PyProof.Rows L2 PySem.W
theorem Reps.rep {α : Type} {d : Dat α} {C : GCtx} {F : Hp} {vs : List V} {xs : List α} (r : Reps d C F vs xs) : ∀ n, Reps d C F (List.replicate n vs).flatten (List.replicate n xs).flatten
  | 0 => trivial
  | n + 1 => by
    simp only [List.replicate_succ, List.flatten_cons]
    exact r.append (Reps.rep r n)
section
variable {tx : XC → Addr} {Y : YC} {Γ : List Cell} {te ta tb tc td tl t1 t2 : TE} {α β γ δ τ : Type} {d : Dat α} {d1 : Dat α} {d2 : Dat β} {d3 : Dat γ} {ts rest : TS} {js : List Nat} {K : Kt τ}
theorem w_ixQ {k : α → Prop} (h : W Y ta Γ (dSq (d := d)) fun xs => R Y tb Γ dInt fun i => ∃ x, atI xs.l i = some x ∧ k x) : W Y (tOp (rIx Y.K) ta tb) Γ d k := fun e F σ H s Q q => h e F σ H s _ fun v1 F1 H1 xs h1 g1 ⟨a, vs, e1, hs, r⟩ => h1 e F1 σ H1 (s.grow g1) _ fun v2 F2 H2 i ⟨x, hx, kx⟩ g2 r2 => by
  subst e1
  cases (show v2 = .int i from r2)
  obtain ⟨v, hv, rv⟩ := atI_rep r hx
  rcases hs with hs | hs
  · exact .inl ⟨a, vs, i, v, rfl, rfl, (g1.fh.trans g2.hh0).seq hs, hv, q _ F2 H2 x kx (g1.trans0 g2) (d.mono g2.ff rv)⟩
  · exact .inr (.inl ⟨a, vs, i, v, rfl, rfl, (hs.mono (g2.ff.trans g2.fh)).sq, hv, q _ F2 H2 x kx (g1.trans0 g2) (d.mono g2.ff rv)⟩)
theorem we_ixQ {m : M (Sq α)} {n : M Int} (h : We tx Y ta Γ (dSq (d := d)) m) (h2 : Re tx Y tb Γ dInt n) : We tx Y (tOp (rIx Y.K) ta tb) Γ d (m >>= fun xs => n >>= fun i => M.ix xs.l i) := we_l2 (f := fun (xs : Sq α) i => atI xs.l i) (fun k h => w_ixQ h) h h2
/-! lists joined, repeated -/
theorem o_cat {k : List α → Prop} (h : W Y ta Γ (dList (d := d)) fun xs => W Y tb Γ (dList (d := d)) fun ys => xs.length + ys.length ≤ PySem.sizeLine ∧ k (xs ++ ys)) : O Y (tOp rCatR ta tb) Γ (oList (d := d)) k := fun e F σ H s Q q => h e F σ H s _ fun v1 F1 H1 xs h1 g1 ⟨a, vs, e1, hs, r⟩ => h1 e F1 σ H1 (s.grow g1) _ fun v2 F2 H2 ys ⟨hl, ky⟩ g2 ⟨b, ws, e2, hs2, r2⟩ => by
  subst e1 e2
  refine ⟨a, b, vs, ws, rfl, rfl, Same.rd (g2.ff.trans g2.fh) hs, Same.rd g2.fh hs2, by rw [r.len, r2.len]; exact hl, fun p hp => ?_⟩
  obtain ⟨h3, h4⟩ := o_new (L := []) g2.base hp ((r.mono g2.ff).append r2)
  exact q _ F2 _ _ _ ky (by simpa using (g1.trans0 g2).trans h3) h4
theorem oe_cat {m n : M (List α)} (h : We tx Y ta Γ (dList (d := d)) m) (h2 : We tx Y tb Γ (dList (d := d)) n) : Oe tx Y (tOp rCatR ta tb) Γ (oList (d := d)) (m >>= fun xs => n >>= fun ys => M.cat xs ys) := fun nb xk =>
  o_cat (h.k nb xk fun xs e nb xk => h2.k nb xk fun ys e2 nb2 _ => ⟨M.asrt_nb nb2, by rw [e]; show (n >>= _) = _; rw [e2]; exact M.asrt_pos (M.asrt_nb nb2)⟩)
def M.rep {α : Type} (xs : List α) (k : Int) : M (List α) := M.asrt (-(2 ^ 63) ≤ k ∧ k < 2 ^ 63 ∧ xs.length * k.toNat ≤ PySem.sizeLine) (.ok (List.replicate k.toNat xs).flatten)
/-! list(range(..)) -/
/-! sum, all, min, max -/
theorem w_all {k : Bool → Prop} (h : R Y ta Γ (dList (d := dBool)) fun xs => k (xs.all id)) : W Y (tCB (rAll Y.K) (tCons ta tNil)) Γ dBool k := fun e F σ H s Q q => h e F σ H s _ fun v F' H' xs kx g ⟨a, vs, e1, hs, r⟩ => by
  subst e1
  cases r.bools
  exact ⟨a, xs, rfl, .inl hs, q _ F' H' _ kx g rfl⟩
theorem we_all {m : M (List Bool)} (h : Re tx Y ta Γ (dList (d := dBool)) m) : We tx Y (tCB (rAll Y.K) (tCons ta tNil)) Γ dBool (m >>= fun xs => .ok (xs.all id)) := we_p1 (f := fun xs : List Bool => xs.all id) (fun k h => w_all h) h
def minL (xs : List Int) : Int := xs.foldl (fun a b => if b < a then b else a) (xs.headD 0)
def M.minM (xs : List Int) : M Int := M.asrt (0 < xs.length) (.ok (minL xs))
theorem foldmin (xs : List Int) : ∀ a : Int, (xs.foldl (fun a b => if b < a then b else a) a = a ∨ xs.foldl (fun a b => if b < a then b else a) a ∈ xs) ∧ xs.foldl (fun a b => if b < a then b else a) a ≤ a ∧ ∀ y ∈ xs, xs.foldl (fun a b => if b < a then b else a) a ≤ y := by
  induction xs with
  | nil => intro a; exact ⟨.inl rfl, Int.le_refl a, fun y hy => nomatch hy⟩
  | cons x xs ih =>
    intro a
    obtain ⟨h1, h2, h3⟩ := ih (if x < a then x else a)
    simp only [List.foldl_cons, List.mem_cons]
    refine ⟨?_, ?_, ?_⟩
    · rcases h1 with h1 | h1
      · rw [h1]; split <;> simp
      · exact .inr (.inr h1)
    · exact Int.le_trans h2 (by split <;> omega)
    · rintro y (rfl | hy)
      · exact Int.le_trans h2 (by split <;> omega)
      · exact h3 y hy
theorem minL_spec {xs : List Int} (h : 0 < xs.length) : minL xs ∈ xs ∧ ∀ y ∈ xs, minL xs ≤ y := by
  cases xs with
  | nil => cases h
  | cons x xs =>
    obtain ⟨h1, h2, h3⟩ := foldmin (x :: xs) x
    unfold minL
    exact ⟨h1.elim (fun z => by rw [show (x :: xs).headD 0 = x from rfl, z]; simp) id, h3⟩
/-! None -/
class NN (α : Type) [d : Dat α] : Prop where
  nn : ∀ {C : GCtx} {F : Hp} {v : V} {x : α}, d.rep C F v x → v ≠ .non
instance : NN Int := ⟨fun {C F v x} h z => by subst z; cases (show V.non = .int x from h)⟩
instance : NN Bool := ⟨fun {C F v x} h z => by subst z; cases (show V.non = .bl x from h)⟩
instance : NN Str := ⟨fun {C F v x} h z => by subst z; cases (show V.non = .str x from h)⟩
instance {α : Type} [d : Dat α] : NN (List α) := ⟨fun ⟨a, vs, e, _⟩ z => by subst z; cases e⟩
instance {α : Type} [d : Dat α] : NN (Tup α) := ⟨fun ⟨a, vs, e, _⟩ z => by subst z; cases e⟩
instance {α β : Type} [d : Dat α] [d2 : Dat β] : NN (α × β) := ⟨fun ⟨a, v1, v2, e, _⟩ z => by subst z; cases e⟩
instance {α β γ : Type} [d : Dat α] [d2 : Dat β] [d3 : Dat γ] : NN (T3 α β γ) := ⟨fun ⟨a, v1, v2, v3, e, _⟩ z => by subst z; cases e⟩
instance {α β γ δ : Type} [d : Dat α] [d2 : Dat β] [d3 : Dat γ] [d4 : Dat δ] : NN (T4 α β γ δ) := ⟨fun ⟨a, v1, v2, v3, v4, e, _⟩ z => by subst z; cases e⟩
def Opt.isNone {α : Type} : Opt α → Bool
  | .none => true
  | .some _ => false
theorem w_notN [nn : @NN α d] {k : Bool → Prop} (h : R Y ta Γ (dOpt (d := d)) fun x => k (!x.isNone)) : W Y (tOp (fun x y H Q => y = .non ∧ Q (.bl (!decide (x = .non))) H) ta (tC .non)) Γ dBool k := fun e F σ H s Q q => h e F σ H s _ fun v F' H' x kx g r => ⟨rfl, q _ F' H' _ kx g (by
  cases x with
  | none => cases (show v = .non from r); rfl
  | some y => show V.bl _ = V.bl _; rw [decide_eq_false (nn.nn (show d.rep _ _ v y from r))]; rfl)⟩
theorem we_notN [nn : @NN α d] {m : M (Opt α)} (h : Re tx Y ta Γ (dOpt (d := d)) m) : We tx Y (tOp (fun x y H Q => y = .non ∧ Q (.bl (!decide (x = .non))) H) ta (tC .non)) Γ dBool (m >>= fun x => .ok (!x.isNone)) := we_p1 (f := fun x : Opt α => !x.isNone) (fun k h => w_notN h) h
/-! pop(i), insert -/
def M.popAt {α : Type} (xs : List α) (mi : M Int) : M (List α × α) := mi >>= fun n => M.asrt (-(2 ^ 63) ≤ n ∧ n < 2 ^ 63) (match seqIndex? n xs.length with | some k => (match xs[k]? with | some y => .ok (xs.eraseIdx k, y) | none => .bad) | none => .bad)
theorem M.popAt_at {α : Type} {xs : List α} {n : Int} {y : α} (h0 : 0 ≤ n) (h1 : n < 100000000) (hy : xs[n.toNat]? = some y) : M.popAt xs (.ok n) = .ok (xs.eraseIdx n.toNat, y) := by
  have hl : n.toNat < xs.length := (List.getElem?_eq_some_iff.mp hy).1
  have e : seqIndex? n xs.length = some n.toNat := by
    unfold seqIndex?
    have hneg : ¬ (n < 0) := by omega
    simp only [if_neg hneg]
    rw [if_pos (by rw [Bool.and_eq_true]; exact ⟨decide_eq_true h0, decide_eq_true (by omega)⟩)]
  show M.asrt _ _ = _
  rw [M.asrt_pos ⟨by omega, by omega⟩, e]
  show (match xs[n.toNat]? with | some y => _ | none => _) = _
  rw [hy]
theorem M.popAt_nb {α : Type} {xs : List α} {n : Int} (h : (M.asrt (-(2 ^ 63) ≤ n ∧ n < 2 ^ 63) (match seqIndex? n xs.length with | some k => (match xs[k]? with | some y => M.ok (xs.eraseIdx k, y) | none => .bad) | none => .bad)).nb) : (-(2 ^ 63) ≤ n ∧ n < 2 ^ 63) ∧ ∃ k y, seqIndex? n xs.length = some k ∧ xs[k]? = some y := by
  have hb := M.asrt_nb h
  refine ⟨hb, ?_⟩
  rw [M.asrt_pos hb] at h
  cases q : seqIndex? n xs.length with
  | none => rw [q] at h; exact absurd rfl h
  | some k =>
    rw [q] at h
    cases q2 : xs[k]? with
    | none => simp only [q2] at h; exact absurd rfl h
    | some y => exact ⟨k, y, rfl, q2⟩
theorem z_popAt {pin : Option V} {i j : Nat} {xs : List α} {c0 : Cell} {k : Ks} (hij : i ≠ j) (hi : Γ[i]? = some (.own (dList (d := d)) (oList (d := d)) pin xs)) (hj : Γ[j]? = some c0)
    (h : R Y ta Γ dInt fun n => ∃ m y, (-(2 ^ 63) ≤ n ∧ n < 2 ^ 63 ∧ seqIndex? n xs.length = some m ∧ xs[m]? = some y) ∧ k.nx ((Γ.set i (.own (dList (d := d)) (oList (d := d)) pin (xs.eraseIdx m))).set j (.val d y))) :
    Z Y (tAsg (tBM Y.K "list" rPopAt (tVar i) (tCons ta tNil)) (gName j)) Γ k := fun e F σ H D hM s c => by
  obtain ⟨v0, _, _, e1, ⟨a0, vs0, rfl, rfl, _⟩, kw0, _⟩ := s.mut hi
  have ha0 : H a0 = some (.lst vs0) := (kw0.ow (a0, .lst vs0) (by simp)).2.1
  refine ⟨.ref a0, e1, .inl ⟨rfl, vs0, .inl (.inl ha0)⟩, h e F σ H s _ fun v F1 H1 n ⟨m, y, ⟨h0, h63, hm, hy⟩, kn⟩ g r => ?_⟩
  cases (show v = .int n from r)
  obtain ⟨w1, L1, rest1, e3, ⟨b1, us1, rfl, rfl, r1⟩, kv1, f1⟩ := (s.grow g).mut hi
  rw [e1] at e3
  cases (Option.some.inj e3)
  have hb1 : H1 a0 = some (.lst us1) := (kv1.ow (a0, .lst us1) (by simp)).2.1
  obtain ⟨wv, hwv, rwv⟩ := r1.get hy
  refine ⟨a0, us1, n, m, wv, rfl, rfl, hb1, h0, h63, by rw [r1.len]; exact hm, hwv, ?_⟩
  have s2 := f1 F1 _ [(a0, .lst (us1.eraseIdx m))] (xs.eraseIdx m) (Same.refl F1) (kv1.put (fun _ z => by cases z)) ⟨a0, _, rfl, rfl, r1.erase m⟩
  have hj2 : (Γ.set i (.own (dList (d := d)) (oList (d := d)) pin (xs.eraseIdx m)))[j]? = some c0 := by rw [List.getElem?_set_ne hij]; exact hj
  exact c.nx F1 _ _ _ kn (s2.set (c' := .val d y) (L' := []) hj2 s2.base ⟨rfl, wv, rfl, rwv⟩)
theorem zm_popAt {pin : Option V} {i j : Nat} {xs : List α} {c0 : Cell} {mi : M Int} {m2 : List α × α → M τ} (hi : Γ[i]? = some (.own (dList (d := d)) (oList (d := d)) pin xs)) (hij : (i == j) = false) (hj' : Γ[j]? = some c0) (hj : i ∈ js) (hjj : j ∈ js) (hx : Re tx Y ta Γ dInt mi)
    (h2 : ∀ p, Zm tx Y js rest ((Γ.set i (.own (dList (d := d)) (oList (d := d)) pin p.1)).set j (.val d p.2)) K (m2 p)) : Zm tx Y js (tSeq (tAsg (tBM Y.K "list" rPopAt (tVar i) (tCons ta tNil)) (gName j)) rest) Γ K (M.popAt xs mi >>= m2) := fun nb xk =>
  z_seq (z_popAt (by simpa using hij) hi hj' (hx.k (M.nb1 nb) xk.l.here fun n e nb2 _ => by
    obtain ⟨hb, k, y, h1, h3⟩ := M.popAt_nb nb2
    refine ⟨k, y, ⟨hb.1, hb.2, h1, h3⟩, (h2 (xs.eraseIdx k, y)).go nb xk ?_ ?_⟩
    · unfold M.popAt
      rw [e]
      show M.asrt _ _ = _
      rw [M.asrt_pos hb, h1]
      show (match xs[k]? with | some y => _ | none => _) = _
      rw [h3]
    · rw [wipeC_set hjj, wipeC_set hj]))
def M.insert {α : Type} (xs : List α) (mi : M Int) (m : M α) : M (List α) := mi >>= fun n => m >>= fun y => M.asrt (xs.length < PySem.sizeLine ∧ 0 ≤ n ∧ n < 2 ^ 63) (.ok (xs.take n.toNat ++ [y] ++ xs.drop n.toNat))
/-! a, b = x, y -/
end
end G
end

noncomputable section
/-! M6: instances whose later attributes are dicts (filled within __init__), tuples of the top. -/
namespace G
open PySem PySem.Spec PyProof.Rows L2 PySem.W
structure Ob3 (α β γ : Type) where
  a : α
  b : β
  c : γ
  deriving DecidableEq
structure Ob4 (α β γ δ : Type) where
  a : α
  b : β
  c : γ
  d : δ
  deriving DecidableEq
section
variable {α β γ δ : Type} [d1 : Dat α] [d2 : Dat β] [d3 : Dat γ] [d4 : Dat δ] (C0 : Addr) (f1 f2 f3 f4 : Str)
@[reducible] def dOb3 : Dat (Ob3 α β γ) := ⟨fun C F v x => ∃ p dx v1 v2 v3, v = .ref p ∧ F p = some (.ins C0 dx [(f1, v1), (f2, v2), (f3, v3)]) ∧ d1.rep C F v1 x.a ∧ d2.rep C F v2 x.b ∧ d3.rep C F v3 x.c,
  fun s ⟨p, dx, v1, v2, v3, e, h, r1, r2, r3⟩ => ⟨p, dx, v1, v2, v3, e, s _ _ h, d1.mono s r1, d2.mono s r2, d3.mono s r3⟩⟩
@[reducible] def dOb4 : Dat (Ob4 α β γ δ) := ⟨fun C F v x => ∃ p dx v1 v2 v3 v4, v = .ref p ∧ F p = some (.ins C0 dx [(f1, v1), (f2, v2), (f3, v3), (f4, v4)]) ∧ d1.rep C F v1 x.a ∧ d2.rep C F v2 x.b ∧ d3.rep C F v3 x.c ∧ d4.rep C F v4 x.d,
  fun s ⟨p, dx, v1, v2, v3, v4, e, h, r1, r2, r3, r4⟩ => ⟨p, dx, v1, v2, v3, v4, e, s _ _ h, d1.mono s r1, d2.mono s r2, d3.mono s r3, d4.mono s r4⟩⟩
@[reducible] def oOb3 (od3 : @OD γ d3) : @OD (Ob3 α β γ) (dOb3 C0 f1 f2 f3) := @OD.mk (Ob3 α β γ) (dOb3 C0 f1 f2 f3)
  (fun C F v x L => ∃ p dx v1 v2 v3 L3, v = .ref p ∧ L = (p, .ins C0 dx [(f1, v1), (f2, v2), (f3, v3)]) :: L3 ∧ d1.rep C F v1 x.a ∧ d2.rep C F v2 x.b ∧ od3.orep C F v3 x.c L3)
  (fun s ⟨p, dx, v1, v2, v3, L3, e, h, r1, r2, r3⟩ => ⟨p, dx, v1, v2, v3, L3, e, h, d1.mono s r1, d2.mono s r2, od3.omono s r3⟩)
  (fun ⟨p, dx, v1, v2, v3, L3, e, h, r1, r2, r3⟩ s k => ⟨p, dx, v1, v2, v3, e, k (p, .ins C0 dx [(f1, v1), (f2, v2), (f3, v3)]) (by rw [h]; exact List.mem_cons_self), d1.mono s r1, d2.mono s r2, od3.view r3 s fun q hq => k q (by rw [h]; exact List.mem_cons_of_mem _ hq)⟩)
@[reducible] def oOb4 (od3 : @OD γ d3) (od4 : @OD δ d4) : @OD (Ob4 α β γ δ) (dOb4 C0 f1 f2 f3 f4) := @OD.mk (Ob4 α β γ δ) (dOb4 C0 f1 f2 f3 f4)
  (fun C F v x L => ∃ p dx v1 v2 v3 v4 L3 L4, v = .ref p ∧ L = (p, .ins C0 dx [(f1, v1), (f2, v2), (f3, v3), (f4, v4)]) :: (L3 ++ L4) ∧ d1.rep C F v1 x.a ∧ d2.rep C F v2 x.b ∧ od3.orep C F v3 x.c L3 ∧ od4.orep C F v4 x.d L4)
  (fun s ⟨p, dx, v1, v2, v3, v4, L3, L4, e, h, r1, r2, r3, r4⟩ => ⟨p, dx, v1, v2, v3, v4, L3, L4, e, h, d1.mono s r1, d2.mono s r2, od3.omono s r3, od4.omono s r4⟩)
  (fun ⟨p, dx, v1, v2, v3, v4, L3, L4, e, h, r1, r2, r3, r4⟩ s k => ⟨p, dx, v1, v2, v3, v4, e, k (p, .ins C0 dx [(f1, v1), (f2, v2), (f3, v3), (f4, v4)]) (by rw [h]; exact List.mem_cons_self), d1.mono s r1, d2.mono s r2,
    od3.view r3 s fun q hq => k q (by rw [h]; exact List.mem_cons_of_mem _ (List.mem_append_left _ hq)), od4.view r4 s fun q hq => k q (by rw [h]; exact List.mem_cons_of_mem _ (List.mem_append_right _ hq))⟩)
end
section
variable {α β γ δ : Type} [d1 : Dat α] [d2 : Dat β] [d3 : Dat γ] [d4 : Dat δ] {C0 : Addr} {f1 f2 f3 f4 : Str}
end
theorem set_same {σ : L2.St} {i : Nat} {v : V} (e1 : σ[i]? = some (some v)) : σ.set i (some v) = σ := by
  apply List.ext_getElem?
  intro j
  by_cases hj : i = j
  · subst hj
    obtain ⟨hlt, hv⟩ := List.getElem?_eq_some_iff.mp e1
    rw [List.getElem?_set_self hlt, e1]
  · rw [List.getElem?_set_ne hj]
section
variable {Y : YC} {Γ : List Cell} {k : Ks} {te tk tv : TE} {α β γ δ ε : Type} {d1 : Dat α} {d2 : Dat β} {d3 : Dat γ} {d4 : Dat δ} {dv : Dat ε} {C0 : Addr} {f f1 f2 f3 : Str}
end
section
variable {tx : XC → Addr} {Y : YC} {Γ : List Cell} {te tk tv : TE} {α β γ δ ε τ : Type} {d1 : Dat α} {d2 : Dat β} {d3 : Dat γ} {d4 : Dat δ} {dv : Dat ε} {rest : TS} {js : List Nat} {K : Kt τ} {C0 : Addr} {f f1 f2 f3 : Str}
end
/-! the class Wiring -/
abbrev WiringM := Ob4 (Tup (Int × Int)) (Tup (T3 Str Int Int)) (DI Int) (DI Int)
section
variable (A : CA3)
@[reducible] def dLinks : Dat (Tup (Int × Int)) := dTup (d := dPair (d1 := dInt) (d2 := dInt))
@[reducible] def dNodes : Dat (Tup (T3 Str Int Int)) := dTup (d := dT3 (d1 := dStr) (d2 := dInt) (d3 := dInt))
@[reducible] def dWiring : Dat WiringM := dOb4 (d1 := dTup (d := dPair (d1 := dInt) (d2 := dInt))) (d2 := dTup (d := dT3 (d1 := dStr) (d2 := dInt) (d3 := dInt))) (d3 := dDI (d := dInt)) (d4 := dDI (d := dInt)) (A.ob .Wiring) "links" "nodes" "_parents" "_owners"
@[reducible] def oWiring : @OD WiringM (dWiring A) := oOb4 (d1 := dTup (d := dPair (d1 := dInt) (d2 := dInt))) (d2 := dTup (d := dT3 (d1 := dStr) (d2 := dInt) (d3 := dInt))) (d3 := dDI (d := dInt)) (d4 := dDI (d := dInt)) (A.ob .Wiring) "links" "nodes" "_parents" "_owners" (oDI (d := dInt)) (oDI (d := dInt))
end
/-! tuples of the top -/
section
variable {tx : XC → Addr} {Y : YC} {Γ : List Cell} {te ta tb : TE} {α β : Type} {d : Dat α}
/-- the class's type may be asked -/
structure InsT (K : PySem.W.Frag) (C : Addr) : Prop where
  cl : Cls K C
  ha : PySem.W.findIn K (.ref C) "__class__" = some (some (.builtin "object.__class__"))
  hn : PySem.W.specialIn K (.builtin "object.__class__") "__get__" = some (some (.builtin "getset_descriptor.__get__"))
  htk : PySem.W.takesIn K (.builtin "object.__class__") = some true
  hm : PySem.W.mroIn K C (.type "object") = some true
/-- isinstance(x, C), x an instance of C -/
theorem w_isO {C0 : Addr} {ns : List Str} {kx : Bool → Prop} (hf : IsI d C0 ns) (I : InsT Y.K C0) (h : R Y ta Γ d fun _ => kx true) : W Y (tCB (rIsi Y.K) (tCons ta (tCons (tC (.ref C0)) tNil))) Γ dBool kx := fun e F σ H s Q q => h e F σ H s _ fun v F' H' x kx g r => by
  obtain ⟨p, dx, fs, e1, e2, _⟩ := hf.ins r
  subst e1
  exact ⟨.ref p, .ref C0, .ref C0, .ref C0, true, rfl, .own C0, .base (.ins e2 I.cl I.ha I.hn I.htk I.hm), by unfold kitOne; simp, q _ F' H' true kx g rfl⟩
theorem we_isO {C0 : Addr} {ns : List Str} {m : M α} (hf : IsI d C0 ns) (I : InsT Y.K C0) (h : Re tx Y ta Γ d m) : We tx Y (tCB (rIsi Y.K) (tCons ta (tCons (tC (.ref C0)) tNil))) Γ dBool (m >>= fun _ => .ok true) := we_p1 (f := fun _ : α => true) (fun k h => w_isO hf I h) h
end
end G
end

noncomputable section
/-! M7: properties, pairs joined. -/
namespace L2
open PySem PySem.Spec PyProof.Rows
end L2
namespace G
open PySem PySem.Spec PyProof.Rows L2 PySem.W
section
variable {tx : XC → Addr} {Y : YC} {Γ : List Cell} {ta tb : TE} {α β γ δ : Type} {d : Dat α} {d1 : Dat α} {d2 : Dat β} {d3 : Dat γ} {d4 : Dat δ} {sp : Sp} {C0 : Addr} {ns : List Str}
end
end G
end

noncomputable section
/-! M8: setdefault, d[k].append(y), dict comprehensions. -/
namespace G
open PySem PySem.Spec PyProof.Rows L2 PySem.W
section
variable {Y : YC} {Γ : List Cell} {k : Ks} {ta tk tv te : TE} {α β : Type} {d : Dat α}
end
section
variable {tx : XC → Addr} {Y : YC} {Γ : List Cell} {ta tk tv te tl : TE} {tt : TT} {g : TG} {α β τ : Type} {d : Dat α} {d2 : Dat β} {rest : TS} {js vs : List Nat} {K : Kt τ}
end
end G
end

noncomputable section
/-! M9: plain data of any shape. -/
namespace G
open PySem PySem.Spec PyProof.Rows L2 PySem.W
mutual
def DU (C : GCtx) (F : Hp) : PyData → V → Prop
  | .none, v => v = .non
  | .bool b, v => v = .bl b
  | .int i, v => v = .int i
  | .str s, v => v = .str s
  | .list ds, v => ∃ a vs, v = .ref a ∧ Rd F a (.lst vs) ∧ DUs C F ds vs
  | .tuple ds, v => ∃ a vs, v = .ref a ∧ TpA C.K F a vs ∧ DUs C F ds vs
  | .dict _, _ => False
def DUs (C : GCtx) (F : Hp) : List PyData → List V → Prop
  | [], [] => True
  | d :: ds, v :: vs => DU C F d v ∧ DUs C F ds vs
  | [], _ :: _ => False
  | _ :: _, [] => False
end
mutual
theorem DU.mono {C : GCtx} {F F' : Hp} (s : Same F F') : ∀ (x : PyData) (v : V), DU C F x v → DU C F' x v
  | .none, _, h => h
  | .bool _, _, h => h
  | .int _, _, h => h
  | .str _, _, h => h
  | .list ds, _, ⟨a, vs, e, h, r⟩ => ⟨a, vs, e, h.imp (s a _) fun ⟨o, e⟩ => ⟨o, s a _ e⟩, DUs.mono s ds vs r⟩
  | .tuple ds, _, ⟨a, vs, e, h, r⟩ => ⟨a, vs, e, h.mono s, DUs.mono s ds vs r⟩
  | .dict _, _, h => h.elim
theorem DUs.mono {C : GCtx} {F F' : Hp} (s : Same F F') : ∀ (xs : List PyData) (vs : List V), DUs C F xs vs → DUs C F' xs vs
  | [], [], h => h
  | d :: ds, v :: vs, h => ⟨DU.mono s d v h.1, DUs.mono s ds vs h.2⟩
  | [], _ :: _, h => h.elim
  | _ :: _, [], h => h.elim
end
mutual
theorem DU.dp {C : GCtx} {F : Hp} : ∀ (x : PyData) (v : V), DU C F x v → Dp C.K F v x
  | .none, _, h => by cases (show _ = _ from h); exact .non
  | .bool _, _, h => by cases (show _ = _ from h); exact .bl _
  | .int _, _, h => by cases (show _ = _ from h); exact .int _
  | .str _, _, h => by cases (show _ = _ from h); exact .str _
  | .list ds, _, ⟨a, vs, e, h, r⟩ => by subst e; exact .lst (.inl h) (DUs.dp ds vs r)
  | .tuple ds, _, ⟨a, vs, e, h, r⟩ => by subst e; exact .tup h.sq (DUs.dp ds vs r)
  | .dict _, _, h => h.elim
theorem DUs.dp {C : GCtx} {F : Hp} : ∀ (xs : List PyData) (vs : List V), DUs C F xs vs → DpAll C.K F vs xs
  | [], [], _ => .nil
  | d :: ds, v :: vs, h => .cons (DU.dp d v h.1) (DUs.dp ds vs h.2)
  | [], _ :: _, h => h.elim
  | _ :: _, [], h => h.elim
end
mutual
theorem DU.pl {C : GCtx} {F : Hp} : ∀ (x : PyData) (v : V), DU C F x v → x.plain = true
  | .none, _, _ => rfl
  | .bool _, _, _ => rfl
  | .int _, _, _ => rfl
  | .str _, _, _ => rfl
  | .list ds, _, ⟨a, vs, e, h, r⟩ => by simp only [PyData.plain]; exact DUs.pl ds vs r
  | .tuple ds, _, ⟨a, vs, e, h, r⟩ => by simp only [PyData.plain]; exact DUs.pl ds vs r
  | .dict _, _, h => h.elim
theorem DUs.pl {C : GCtx} {F : Hp} : ∀ (xs : List PyData) (vs : List V), DUs C F xs vs → PyData.plainAll xs = true
  | [], _, _ => rfl
  | d :: ds, v :: vs, h => by simp only [PyData.plainAll, DU.pl d v h.1, DUs.pl ds vs h.2, Bool.and_self]
  | _ :: _, [], h => h.elim
end
abbrev U := PyData
@[reducible] def dU : Dat U := ⟨fun C F v x => DU C F x v, fun s h => DU.mono s _ _ h⟩
/-- data that are plain data -/
class UD (α : Type) [d : Dat α] where
  toU : α → U
  du : ∀ {C : GCtx} {F : Hp} {v : V} {x : α}, d.rep C F v x → DU C F (toU x) v
instance udInt : UD Int := ⟨.int, fun h => h⟩
instance udBool : UD Bool := ⟨.bool, fun h => h⟩
instance udStr : UD Str := ⟨.str, fun h => h⟩
instance udUnit : UD Unit := ⟨fun _ => .none, fun h => h⟩
theorem dus_of {α : Type} {d : Dat α} [u : @UD α d] {C : GCtx} {F : Hp} : ∀ {vs : List V} {xs : List α}, Reps d C F vs xs → DUs C F (xs.map u.toU) vs
  | [], [], _ => trivial
  | _ :: _, _ :: _, h => ⟨u.du h.1, dus_of h.2⟩
  | [], _ :: _, h => h.elim
  | _ :: _, [], h => h.elim
instance udList {α : Type} {d : Dat α} [u : @UD α d] : @UD (List α) dList := ⟨fun xs => .list (xs.map u.toU), fun ⟨a, vs, e, h, r⟩ => ⟨a, vs, e, h, dus_of r⟩⟩
instance udTup {α : Type} {d : Dat α} [u : @UD α d] : @UD (Tup α) dTup := ⟨fun xs => .tuple (xs.l.map u.toU), fun ⟨a, vs, e, h, r⟩ => ⟨a, vs, e, h, dus_of r⟩⟩
instance udPair {α β : Type} {d1 : Dat α} {d2 : Dat β} [u1 : @UD α d1] [u2 : @UD β d2] : @UD (α × β) dPair := ⟨fun x => .tuple [u1.toU x.1, u2.toU x.2], fun ⟨a, v1, v2, e, h, r1, r2⟩ => ⟨a, _, e, h, u1.du r1, u2.du r2, trivial⟩⟩
instance udT3 {α β γ : Type} {d1 : Dat α} {d2 : Dat β} {d3 : Dat γ} [u1 : @UD α d1] [u2 : @UD β d2] [u3 : @UD γ d3] : @UD (T3 α β γ) dT3 := ⟨fun x => .tuple [u1.toU x.a, u2.toU x.b, u3.toU x.c], fun ⟨a, v1, v2, v3, e, h, r1, r2, r3⟩ => ⟨a, _, e, h, u1.du r1, u2.du r2, u3.du r3, trivial⟩⟩
instance udT4 {α β γ δ : Type} {d1 : Dat α} {d2 : Dat β} {d3 : Dat γ} {d4 : Dat δ} [u1 : @UD α d1] [u2 : @UD β d2] [u3 : @UD γ d3] [u4 : @UD δ d4] : @UD (T4 α β γ δ) dT4 := ⟨fun x => .tuple [u1.toU x.a, u2.toU x.b, u3.toU x.c, u4.toU x.d], fun ⟨a, v1, v2, v3, v4, e, h, r1, r2, r3, r4⟩ => ⟨a, _, e, h, u1.du r1, u2.du r2, u3.du r3, u4.du r4, trivial⟩⟩
def tyU : U → String
  | .none => "NoneType" | .bool _ => "bool" | .int _ => "int" | .str _ => "str" | .list _ => "list" | .tuple _ => "tuple" | .dict _ => "dict"
theorem DU.ty {C : GCtx} {F : Hp} {v : V} : ∀ {x : U}, DU C F x v → TyX C.K F v (.type (tyU x))
  | .none, h => by cases (show v = _ from h); exact .base .non
  | .bool _, h => by cases (show v = _ from h); exact .base (.bl _)
  | .int _, h => by cases (show v = _ from h); exact .base (.int _)
  | .str _, h => by cases (show v = _ from h); exact .base (.str _)
  | .list _, ⟨a, vs, e, h, _⟩ => by subst e; exact ty_sql (.inl h)
  | .tuple _, ⟨a, vs, e, h, _⟩ => by subst e; exact ty_tpa h
  | .dict _, h => h.elim
def isNoneU : U → Bool
  | .none => true
  | _ => false
theorem DU.non {C : GCtx} {F : Hp} {v : V} : ∀ {x : U}, DU C F x v → decide (v = .non) = isNoneU x
  | .none, h => by cases (show v = _ from h); rfl
  | .bool _, h => by cases (show v = _ from h); rfl
  | .int _, h => by cases (show v = _ from h); rfl
  | .str _, h => by cases (show v = _ from h); rfl
  | .list _, ⟨a, vs, e, h, _⟩ => by subst e; rfl
  | .tuple _, ⟨a, vs, e, h, _⟩ => by subst e; rfl
  | .dict _, h => h.elim
theorem DUs.reps {C : GCtx} {F : Hp} : ∀ {ds : List U} {vs : List V}, DUs C F ds vs → Reps dU C F vs ds
  | [], [], _ => trivial
  | _ :: _, _ :: _, h => ⟨h.1, DUs.reps h.2⟩
  | [], _ :: _, h => h.elim
  | _ :: _, [], h => h.elim
/-- the items of a list or tuple -/
def itemsU : U → Option (List U)
  | .list ds => some ds
  | .tuple ds => some ds
  | _ => none
section
variable {tx : XC → Addr} {Y : YC} {Γ : List Cell} {te ta tb : TE} {α : Type} {d : Dat α}
theorem w_U [u : @UD α d] {k : U → Prop} (h : W Y te Γ d fun x => k (u.toU x)) : W Y te Γ dU k := fun e F σ H s Q q => h e F σ H s Q fun v F' H' x kx g r => q v F' H' _ kx g (u.du r)
theorem we_U [u : @UD α d] {m : M α} (h : We tx Y te Γ d m) : We tx Y te Γ dU (m >>= fun x => .ok (u.toU x)) := we_p1w (f := u.toU) (fun k h => w_U h) h
theorem w_eqU {k : Bool → Prop} (h : R Y ta Γ dU fun x => R Y tb Γ dU fun y => (x.depth ≤ 64 ∧ y.depth ≤ 64) ∧ k (PyData.eqv x y)) : W Y (tOp (rEqP Y.K) ta tb) Γ dBool k := fun e F σ H s Q q => h e F σ H s _ fun v1 F1 H1 x h1 g1 r1 => h1 e F1 σ H1 (s.grow g1) _ fun v2 F2 H2 y ⟨hd, ky⟩ g2 r2 => by
  have q1 : DU Y.g H2 x v1 := DU.mono g2.hh0 _ _ r1
  have q2 : DU Y.g H2 y v2 := r2
  exact ⟨x, y, DU.dp _ _ q1, DU.dp _ _ q2, by unfold shP; rw [DU.pl _ _ q1, decide_eq_true hd.1]; rfl, by unfold shP; rw [DU.pl _ _ q2, decide_eq_true hd.2]; rfl, q _ F2 H2 _ ky (g1.trans0 g2) rfl⟩
theorem we_eqU {m n : M U} (h : Re tx Y ta Γ dU m) (h2 : Re tx Y tb Γ dU n) : We tx Y (tOp (rEqP Y.K) ta tb) Γ dBool (m >>= fun x => n >>= fun y => M.asrt (x.depth ≤ 64 ∧ y.depth ≤ 64) (.ok (PyData.eqv x y))) := we_g2 (P := fun x y : U => x.depth ≤ 64 ∧ y.depth ≤ 64) (f := fun x y : U => PyData.eqv x y) (fun k h => w_eqU h) h h2
theorem w_neU {k : Bool → Prop} (h : R Y ta Γ dU fun x => R Y tb Γ dU fun y => (x.depth ≤ 64 ∧ y.depth ≤ 64) ∧ k (!PyData.eqv x y)) : W Y (tOp (rNeP Y.K) ta tb) Γ dBool k := fun e F σ H s Q q => h e F σ H s _ fun v1 F1 H1 x h1 g1 r1 => h1 e F1 σ H1 (s.grow g1) _ fun v2 F2 H2 y ⟨hd, ky⟩ g2 r2 => by
  have q1 : DU Y.g H2 x v1 := DU.mono g2.hh0 _ _ r1
  have q2 : DU Y.g H2 y v2 := r2
  exact ⟨x, y, DU.dp _ _ q1, DU.dp _ _ q2, by unfold shP; rw [DU.pl _ _ q1, decide_eq_true hd.1]; rfl, by unfold shP; rw [DU.pl _ _ q2, decide_eq_true hd.2]; rfl, q _ F2 H2 _ ky (g1.trans0 g2) rfl⟩
theorem we_neU {m n : M U} (h : Re tx Y ta Γ dU m) (h2 : Re tx Y tb Γ dU n) : We tx Y (tOp (rNeP Y.K) ta tb) Γ dBool (m >>= fun x => n >>= fun y => M.asrt (x.depth ≤ 64 ∧ y.depth ≤ 64) (.ok (!PyData.eqv x y))) := we_g2 (P := fun x y : U => x.depth ≤ 64 ∧ y.depth ≤ 64) (f := fun x y : U => !PyData.eqv x y) (fun k h => w_neU h) h h2
/-- as a list or tuple -/
theorem w_sqU {k : Sq U → Prop} (h : W Y te Γ dU fun x => ∃ ds, itemsU x = some ds ∧ k ⟨ds⟩) : W Y te Γ (dSq (d := dU)) k := fun e F σ H s Q q => h e F σ H s Q fun v F' H' x ⟨ds, hi, kx⟩ g r => q v F' H' _ kx g (by
  cases x with
  | list xs => cases hi; obtain ⟨a, vs, e1, h1, r1⟩ := r; exact ⟨a, vs, e1, .inl (.inl h1), r1.reps⟩
  | tuple xs => cases hi; obtain ⟨a, vs, e1, h1, r1⟩ := r; exact ⟨a, vs, e1, .inr h1, r1.reps⟩
  | _ => cases hi)
theorem we_sqU {m : M U} (h : We tx Y te Γ dU m) : We tx Y te Γ (dSq (d := dU)) (m >>= fun x => M.ofO (itemsU x) >>= fun ds => .ok ⟨ds⟩) := fun nb xk => w_sqU (h.k nb xk fun x e nb2 _ => by
  cases hx : itemsU x with
  | none => rw [hx] at nb2; exact absurd rfl nb2
  | some ds => exact ⟨ds, rfl, by rw [e]; show (M.ofO (itemsU x) >>= _) = _; rw [hx]; rfl⟩)
end
end G
end

noncomputable section
/-! M10: pairs that own their parts. -/
namespace G
open PySem PySem.Spec PyProof.Rows L2 PySem.W
@[reducible] def oPair {α β : Type} {d1 : Dat α} {d2 : Dat β} (od1 : @OD α d1) (od2 : @OD β d2) : @OD (α × β) (dPair (d1 := d1) (d2 := d2)) := @OD.mk (α × β) (dPair (d1 := d1) (d2 := d2))
  (fun C F v x L => ∃ a v1 v2 L1 L2, v = .ref a ∧ L = L1 ++ L2 ∧ TpA C.K F a [v1, v2] ∧ od1.orep C F v1 x.1 L1 ∧ od2.orep C F v2 x.2 L2)
  (fun s ⟨a, v1, v2, L1, L2, e, h, t, r1, r2⟩ => ⟨a, v1, v2, L1, L2, e, h, t.mono s, od1.omono s r1, od2.omono s r2⟩)
  (fun ⟨a, v1, v2, L1, L2, e, h, t, r1, r2⟩ s k => ⟨a, v1, v2, e, t.mono s, od1.view r1 s fun p hp => k p (by rw [h]; exact List.mem_append_left _ hp), od2.view r2 s fun p hp => k p (by rw [h]; exact List.mem_append_right _ hp)⟩)
theorem Wk.subl {e : En} {F : Hp} {L L' : LO} {H : Hp} (a : Wk e F L H) (h : L'.Sublist L) : Wk e F L' H := a.sub (fun _ hp => h.subset hp) (List.Nodup.sublist (h.map _) a.nd)
section
variable {Y : YC} {Γ : List Cell} {k : Ks} {te : TE} {α β : Type} {d1 : Dat α} {d2 : Dat β}
end
section
variable {tx : XC → Addr} {Y : YC} {Γ : List Cell} {te : TE} {α β τ : Type} {d1 : Dat α} {d2 : Dat β} {rest : TS} {js : List Nat} {K : Kt τ}
end
end G
end

noncomputable section
/-! M11: constants by their class, [*xs, y]. -/
namespace L2
open PySem PySem.Spec PyProof.Rows ClX StX
section
variable {X : Cx} (K : PySem.W.Frag)
end
end L2
namespace G
open PySem PySem.Spec PyProof.Rows L2 PySem.W ClX StX
section
variable {tx : XC → Addr} {Y : YC} {Γ : List Cell} {te ta : TE} {α : Type} {d : Dat α}
end
section
variable {tx : XC → Addr} {Y : YC} {Γ : List Cell} {ta tb : TE} {α : Type} {d : Dat α}
def M.catT {α : Type} (xs ys : Tup α) : M (Tup α) := M.asrt (xs.l.length + ys.l.length ≤ PySem.sizeLine) (.ok ⟨xs.l ++ ys.l⟩)
theorem w_tup1 {k : Tup α → Prop} (h : W Y ta Γ d fun x => k ⟨[x]⟩) : W Y (tTup (tCons ta tNil)) Γ (dTup (d := d)) k := fun e F σ H s Q q => h e F σ H s _ fun v1 F1 H1 x kx g1 r1 => ⟨show (1 : Nat) ≤ PySem.sizeLine by decide, fun p hp => by
  have g2 := Gr.lay (o := .tup [v1]) g1.base hp
  exact q _ _ _ ⟨[x]⟩ kx (g1.trans0 g2) ⟨p, [v1], rfl, .inl upd_same, d.mono g2.ff r1, trivial⟩⟩
theorem we_tup1 {m : M α} (h : We tx Y ta Γ d m) : We tx Y (tTup (tCons ta tNil)) Γ (dTup (d := d)) (m >>= fun x => .ok ⟨[x]⟩) := we_p1w (f := fun x : α => (⟨[x]⟩ : Tup α)) (fun k h => w_tup1 h) h
end
end G
end

noncomputable section
/-! M12: enumerate within comprehensions. -/
namespace G
open PySem PySem.Spec PyProof.Rows L2 PySem.W
section
variable {tx : XC → Addr} {Y : YC} {Γ : List Cell} {te ta tb tl : TE} {t u tt : TT} {α β : Type} {d : Dat α} {d2 : Dat β} {g : TG}
theorem comp_turn0 {e : En} {F1 : Hp} {σ : L2.St} {H1 : Hp} {vs : List Nat} {D : Addr} {x : α} {v : V} {I I' : List β → Prop} (s1 : State Y e F1 σ H1 Γ) (hT : Tg g vs)
    (hs : ∀ ys, I ys → A Y g (wipeC Γ vs) d x fun Γ2 => T Y tt Γ2 fun b => (b = true → W Y te Γ2 d2 fun y => ys.length < PySem.sizeLine ∧ I' (ys ++ [y])) ∧ (b = false → I' ys)) {H F' : Hp} {acc : List V} {ys : List β}
    (kw : Wk ⟨F1, H1, []⟩ F' [(D, .lst acc)] H) (r : Reps d2 Y.g F' acc ys) (hi : I ys) (rx : d.rep Y.g F' v x) :
    g v (wipe σ vs) H fun σ2 H2 => wipe σ2 vs = wipe σ vs ∧ tt σ2 H2 fun b H3 =>
      if b = true then te σ2 H3 fun y H4 => ∃ acc, H4 D = some (.lst acc) ∧ acc.length < PySem.sizeLine ∧ (∃ F' acc' ys, Wk ⟨F1, H1, []⟩ F' [(D, .lst acc')] (upd H4 D (.lst (acc ++ [y]))) ∧ Reps d2 Y.g F' acc' ys ∧ I' ys) else (∃ F' acc ys, Wk ⟨F1, H1, []⟩ F' [(D, .lst acc)] H3 ∧ Reps d2 Y.g F' acc ys ∧ I' ys) := by
  have st := (s1.growL kw).wipe vs
  have ww : ∀ σ0 : L2.St, wipe (wipe σ0 vs) vs = wipe σ0 vs := by
    intro σ0
    have : ∀ (l : List Nat) (σ1 : L2.St), (∀ j ∈ l, (σ1[j]? = none ∨ σ1[j]? = some none)) → wipe σ1 l = σ1 := by
      intro l
      induction l with
      | nil => intro _ _; rfl
      | cons j l ih =>
        intro σ1 hj
        unfold wipe
        rw [ih σ1 fun m hm => hj m (List.mem_cons_of_mem _ hm)]
        apply List.ext_getElem?
        intro m
        rw [List.getElem?_set]
        by_cases hm : j = m
        · subst hm
          rcases hj j List.mem_cons_self with z | z
          · rw [z, if_pos rfl, if_neg (Nat.not_lt.mpr (List.getElem?_eq_none_iff.mp z))]
          · rw [z, if_pos rfl, if_pos (List.getElem?_eq_some_iff.mp z).1]
        · rw [if_neg hm]
    refine this vs _ fun j hj => ?_
    cases q : (wipe σ0 vs)[j]? with
    | none => exact .inl rfl
    | some o =>
      cases o with
      | none => exact .inr rfl
      | some y => exact absurd hj (wipe_some q).2
  have key := hs ys hi e F' _ H v st rx (fun σ2 H2 => tt σ2 H2 fun b H3 =>
      if b = true then te σ2 H3 fun y H4 => ∃ acc, H4 D = some (.lst acc) ∧ acc.length < PySem.sizeLine ∧ (∃ F' acc' ys, Wk ⟨F1, H1, []⟩ F' [(D, .lst acc')] (upd H4 D (.lst (acc ++ [y]))) ∧ Reps d2 Y.g F' acc' ys ∧ I' ys) else (∃ F' acc ys, Wk ⟨F1, H1, []⟩ F' [(D, .lst acc)] H3 ∧ Reps d2 Y.g F' acc ys ∧ I' ys)) fun σ2 Γ2 h2 st2 => by
    refine h2 e F' σ2 H st2 _ fun b F3 H3 kb g3 => ?_
    have kw3 := kw.trans0 g3
    cases b with
    | false => exact ⟨F3, acc, ys, kw3, r.mono g3.ff, kb.2 rfl⟩
    | true =>
      refine kb.1 rfl e F3 σ2 H3 (st2.grow g3) _ fun y F4 H4 yv ⟨hl, ky⟩ g4 ry => ?_
      have kw4 := kw3.trans0 g4
      have hD : H4 D = some (.lst acc) := (kw4.ow (D, .lst acc) (by simp)).2.1
      exact ⟨acc, hD, by rw [r.len]; exact hl, F4, acc ++ [y], ys ++ [yv], kw4.put (fun _ z => by cases z), (r.mono (g3.ff.trans g4.ff)).append (Reps.one ry), ky⟩
  have key2 := hT v _ H _ key
  rw [ww] at key2
  exact key2
end
theorem wipeC_get (Γ : List Cell) : ∀ (js : List Nat) (i : Nat), i < Γ.length → i ∈ js → (wipeC Γ js)[i]? = some .no
  | [], _, _, h => nomatch h
  | j :: js, i, hl, h => by
    unfold wipeC
    by_cases e : j = i
    · subst e
      rw [List.getElem?_set_self (by rw [wipeC_len]; exact hl)]
    · rw [List.getElem?_set_ne e]
      exact wipeC_get Γ js i hl ((List.mem_cons.mp h).resolve_left fun z => e z.symm)
/-- where all slots are wiped nothing is left to compare -/
theorem wlen (n : Nat) {Γ Γ' : List Cell} {js : List Nat} (h1 : Γ.length = n) (h2 : Γ'.length = n) (hj : (List.range n).all (fun i => js.contains i) = true) : wipeC Γ js = wipeC Γ' js := by
  apply List.ext_getElem?
  intro i
  by_cases hi : i < n
  · have hm : i ∈ js := by
      have := List.all_eq_true.mp hj i (List.mem_range.mpr hi)
      simpa using this
    rw [wipeC_get Γ js i (by omega) hm, wipeC_get Γ' js i (by omega) hm]
  · rw [List.getElem?_eq_none (by rw [wipeC_len]; omega), List.getElem?_eq_none (by rw [wipeC_len]; omega)]
end G
end

noncomputable section
/-! M13: defs that change what is passed to them. -/
namespace G
open PySem PySem.Spec PyProof.Rows L2 PySem.W
/-- the heap without what is lent -/
def minus (H : Hp) (L : LO) : Hp := fun a => if a ∈ L.map Prod.fst then none else H a
theorem minus_out {H : Hp} {L : LO} {a : Addr} (h : a ∉ L.map Prod.fst) : minus H L a = H a := if_neg h
theorem minus_in {H : Hp} {L : LO} {a : Addr} (h : a ∈ L.map Prod.fst) : minus H L a = none := if_pos h
theorem Wk.lend {e : En} {F H : Hp} {Li L : LO} (a : Wk e F (Li ++ L) H) : Wk ⟨F, minus H Li, []⟩ F Li H where
  ff := Same.refl _
  hh := fun x o _ h => by
    have h : minus H Li x = some o := h
    by_cases hx : x ∈ Li.map Prod.fst
    · rw [minus_in hx] at h; cases h
    · rw [minus_out hx] at h; exact h
  th := fun x h => by
    have h : minus H Li x ≠ none := h
    by_cases hx : x ∈ Li.map Prod.fst
    · exact absurd (minus_in hx) h
    · rw [minus_out hx] at h; exact h
  fh := a.fh
  nw := fun _ _ h => h
  tp := a.tp
  ow := fun p hp => by
    obtain ⟨h1, h2, _⟩ := a.ow p (List.mem_append_left _ hp)
    exact ⟨h1, h2, .inl (minus_in (List.mem_map.mpr ⟨p, hp, rfl⟩))⟩
  nd := by
    have h := a.nd
    rw [List.map_append] at h
    exact (List.nodup_append.mp h).1
theorem Wk.transM {e : En} (hM : e.M = []) {F F' H H' : Hp} {Li L L' : LO} (a : Wk e F (Li ++ L) H) (b : Wk ⟨F, minus H Li, []⟩ F' L' H') : Wk e F' (L' ++ L) H' := by
  have own0 : ∀ x, x ∈ Li.map Prod.fst → e.H0 x = none := fun x hx => by
    obtain ⟨p, hp, rfl⟩ := List.mem_map.mp hx
    rcases (a.ow p (List.mem_append_left _ hp)).2.2 with h | h
    · exact h
    · rw [hM] at h; cases h
  have keep : ∀ x, e.H0 x ≠ none → minus H Li x = H x := fun x h => minus_out fun z => h (own0 x z)
  refine ⟨a.ff.trans b.ff, fun x o hx h => ?_, fun x h => ?_, b.fh, fun x h h' => ?_, b.tp, fun p hp => ?_, ?_⟩
  · exact b.hh x o (fun z => nomatch z) (by show minus H Li x = some o; rw [keep x (ne_some h)]; exact a.hh x o hx h)
  · exact b.th x (by show minus H Li x ≠ none; rw [keep x h]; exact a.th x h)
  · exact b.nw x (by show minus H Li x ≠ none; rw [keep x h]; exact a.th x h) (a.nw x h h')
  · rcases List.mem_append.mp hp with hp | hp
    · obtain ⟨h1, h2, h3⟩ := b.ow p hp
      refine ⟨h1, h2, .inl ?_⟩
      have h4 : minus H Li p.1 = none := h3.resolve_right fun z => nomatch z
      by_cases hx : p.1 ∈ Li.map Prod.fst
      · exact own0 _ hx
      · rw [minus_out hx] at h4
        cases q : e.H0 p.1 with
        | none => rfl
        | some o => exact absurd h4 (a.th p.1 (ne_some q))
    · obtain ⟨h1, h2, h3⟩ := a.ow p (List.mem_append_right _ hp)
      have hx : p.1 ∉ Li.map Prod.fst := fun z => by
        have h := a.nd
        rw [List.map_append] at h
        exact (List.nodup_append.mp h).2.2 p.1 z p.1 (List.mem_map.mpr ⟨p, hp, rfl⟩) rfl
      have e1 : minus H Li p.1 = some p.2 := by rw [minus_out hx]; exact h2
      exact ⟨b.nw p.1 (ne_some e1) h1, b.hh p.1 p.2 (fun z => nomatch z) e1, h3⟩
  · rw [List.map_append]
    refine List.nodup_append.mpr ⟨b.nd, ?_, fun x hx y hy z => ?_⟩
    · have h := a.nd
      rw [List.map_append] at h
      exact (List.nodup_append.mp h).2.1
    · subst z
      obtain ⟨p, hp, e1⟩ := List.mem_map.mp hx
      obtain ⟨q, hq, e2⟩ := List.mem_map.mp hy
      obtain ⟨_, _, h3⟩ := b.ow p hp
      have h4 : minus H Li p.1 = none := h3.resolve_right fun z => nomatch z
      obtain ⟨_, h5, _⟩ := a.ow q (List.mem_append_right _ hq)
      have hx2 : q.1 ∉ Li.map Prod.fst := fun z => by
        have h := a.nd
        rw [List.map_append] at h
        exact (List.nodup_append.mp h).2.2 q.1 z q.1 (List.mem_map.mpr ⟨q, hq, rfl⟩) rfl
      have e4 : p.1 = q.1 := (show p.1 = x from e1).trans (show q.1 = x from e2).symm
      rw [e4, minus_out hx2, h5] at h4
      cases h4
/-- a def that changes the arguments at the places ms -/
def FnM (C : GCtx) {α : Type} (dr : Dat α) (Γ : List Cell) (ms : List Nat) (post : α → List Cell → Prop) (vs : List V) (H : Hp) (Q : VK) (E : XK) : Prop :=
  ∃ F L H0, Wk ⟨F, H0, []⟩ F L H ∧ Slots C F (vs.map some) Γ L ∧ ∀ v F' H' r Γm L2, post r Γm → Wk ⟨F, H0, []⟩ F' L2 H' → dr.rep C F' v r → Slots C F' (ms.map fun j => vs[j]?) Γm L2 → Q v H'
theorem FnM.len {C : GCtx} {α : Type} {dr : Dat α} {Γ : List Cell} {ms : List Nat} {post : α → List Cell → Prop} {vs : List V} {H : Hp} {Q : VK} {E : XK} (h : FnM C dr Γ ms post vs H Q E) : vs.length = Γ.length := by
  obtain ⟨F, L, H0, _, s, _⟩ := h
  simpa using s.len
def SpM (C : GCtx) (sp : Sp) {α : Type} (dr : Dat α) (cs : List Cell) (ms : List Nat) (post : α → List Cell → Prop) : Prop := ∀ vs H Q E, FnM C dr cs ms post vs H Q E → sp vs H Q E
/-! arguments of which some are lent: (slot, cell) -/
abbrev AC := Cell ⊕ (Nat × Cell)
def AC.cell : AC → Cell
  | .inl c => c
  | .inr p => p.2
def MArgs (C : GCtx) (F : Hp) (σ : _root_.L2.St) : List V → List AC → Prop
  | [], [] => True
  | v :: vs, .inl c :: as => CellOk C F (some v) c [] ∧ MArgs C F σ vs as
  | v :: vs, .inr p :: as => σ[p.1]? = some (some v) ∧ MArgs C F σ vs as
  | [], _ :: _ => False
  | _ :: _, [] => False
theorem MArgs.mono {C : GCtx} {F F' : Hp} {σ : _root_.L2.St} (s : Same F F') : ∀ {vs : List V} {as : List AC}, MArgs C F σ vs as → MArgs C F' σ vs as
  | [], [], h => h
  | _ :: _, .inl _ :: _, h => ⟨h.1.mono s, h.2.mono s⟩
  | _ :: _, .inr _ :: _, h => ⟨h.1, h.2.mono s⟩
  | [], _ :: _, h => h.elim
  | _ :: _, [], h => h.elim
theorem MArgs.slots {C : GCtx} {F : Hp} {σ : _root_.L2.St} : ∀ {vs : List V} {cs : List Cell}, MArgs C F σ vs (cs.map .inl) → Slots C F (vs.map some) cs []
  | [], [], _ => .nil
  | _ :: _, _ :: _, h => .cons (L := []) (L' := []) h.1 h.2.slots
  | [], _ :: _, h => h.elim
  | _ :: _, [], h => h.elim
theorem MArgs.at {C : GCtx} {F : Hp} {σ : _root_.L2.St} {j : Nat} {c : Cell} {post : List AC} : ∀ {pre : List Cell} {vs : List V}, MArgs C F σ vs (pre.map .inl ++ .inr (j, c) :: post) →
    ∃ vs1 v vs2, vs = vs1 ++ v :: vs2 ∧ vs1.length = pre.length ∧ σ[j]? = some (some v) ∧ Slots C F (vs1.map some) pre [] ∧ MArgs C F σ vs2 post
  | [], v :: vs, h => ⟨[], v, vs, rfl, rfl, h.1, .nil, h.2⟩
  | c0 :: pre, v :: vs, h => by
    obtain ⟨vs1, u, vs2, e, hl, hj, sl, hr⟩ := MArgs.at (pre := pre) h.2
    exact ⟨v :: vs1, u, vs2, by rw [e]; rfl, by simp [hl], hj, .cons (L := []) (L' := []) h.1 sl, hr⟩
  | [], [], h => h.elim
  | _ :: _, [], h => h.elim
def MA (Y : YC) (tl : TA) (Γ : List Cell) (k : List AC → Prop) : Prop := ∀ (e : En) (F : Hp) (σ : _root_.L2.St) (H : Hp), State Y e F σ H Γ → ∀ Q : List V → Hp → Prop, (∀ vs F' H' as, k as → Gr F H F' H' → MArgs Y.g F' σ vs as → Q vs H') → tl σ H Q
section
variable {tx : XC → Addr} {Y : YC} {Γ : List Cell} {te : TE} {tr tl : TA} {α β τ σ : Type} {d : Dat α} {rest : TS} {js : List Nat} {K : Kt τ}
theorem ma_nil {k : List AC → Prop} (hk : k []) : MA Y tNil Γ k := fun e F σ H s Q q => q [] F H [] hk s.base trivial
theorem ma_cons {k : List AC → Prop} (h : W Y te Γ d fun x => MA Y tr Γ fun as => k (.inl (.val d x) :: as)) : MA Y (tCons te tr) Γ k := fun e F σ H s Q q => h e F σ H s _ fun v F1 H1 x h1 g1 r1 => h1 e F1 σ H1 (s.grow g1) _ fun vs F2 H2 as kc g2 r2 =>
  q (v :: vs) F2 H2 _ kc (g1.trans0 g2) ⟨⟨rfl, v, rfl, d.mono g2.ff r1⟩, r2⟩
theorem ma_own {k : List AC → Prop} {od : OD α} {x : α} {j : Nat} {pin : Option V} (hj : Γ[j]? = some (.own d od pin x)) (h : MA Y tr Γ fun as => k (.inr (j, .own d od none x) :: as)) : MA Y (tCons (tVar j) tr) Γ k := fun e F σ H s Q q => by
  obtain ⟨v, e1, r⟩ := s.own hj
  exact ⟨v, e1, h e F σ H s _ fun vs F2 H2 as kc g2 r2 => q (v :: vs) F2 H2 _ kc g2 ⟨e1, r2⟩⟩
/-- .. with models -/
def Mm (tx : XC → Addr) (Y : YC) (tl : TA) (Γ : List Cell) {τ : Type} (m : M τ) (R : List AC → M τ → Prop) : Prop := (∃ y, m = .ok y) → MA Y tl Γ fun l => R l m
theorem mm_nil {m : M τ} {R : List AC → M τ → Prop} (h : (∃ y, m = .ok y) → R [] m) : Mm tx Y tNil Γ m R := fun hy => ma_nil (h hy)
theorem ma_mono {k k' : List AC → Prop} (h : MA Y tl Γ k) (m : ∀ l, k l → k' l) : MA Y tl Γ k' := fun e F σ H s Q q => h e F σ H s Q fun vs F' H' as kc g r => q vs F' H' as (m as kc) g r
theorem bind_okD {m1 : M α} {f : α → M τ} {y : τ} (h : (m1 >>= f) = .ok y) : ∃ x, m1 = .ok x ∧ f x = .ok y := by
  cases m1 with
  | ok x => exact ⟨x, rfl, h⟩
  | exc x => cases h
  | bad => cases h
theorem mm_cons {m1 : M α} {f : α → M τ} {R : List AC → M τ → Prop} (h : We tx Y te Γ d m1) (h2 : ∀ x, Mm tx Y tr Γ (f x) fun l m => R (.inl (.val d x) :: l) m) : Mm tx Y (tCons te tr) Γ (m1 >>= f) R := fun ⟨y, hy⟩ => by
  obtain ⟨x, e1, e2⟩ := bind_okD hy
  subst e1
  refine ma_cons (w_mono (h (fun z => nomatch z) XkM.ok) fun x' ex => ?_)
  cases ex
  exact ma_mono (h2 x ⟨y, e2⟩) fun l hl => hl
theorem mm_own {od : OD α} {x : α} {j : Nat} {pin : Option V} {m : M τ} {R : List AC → M τ → Prop} (hj : Γ[j]? = some (.own d od pin x)) (h : Mm tx Y tr Γ m fun l m => R (.inr (j, .own d od none x) :: l) m) : Mm tx Y (tCons (tVar j) tr) Γ m R := fun hy => ma_own hj (h hy)
/-- the promise of a def that changes one of its arguments, what it is called with -/
def Lend1 (Y : YC) (sp : Sp) (dr : Dat β) (od : OD α) (j : Nat) (c : Cell) (l : List AC) (m : M (β × α)) : Prop :=
  ∃ pre post : List Cell, l = pre.map .inl ++ .inr (j, c) :: post.map .inl ∧ SpM Y.g sp dr (pre ++ c :: post) [pre.length] fun r Γm => ∃ x', m = .ok (r, x') ∧ Γm = [.own d od none x']
theorem z_callM1 {dr : Dat β} {od : OD α} {x : α} {j : Nat} {pin : Option V} {sp : Sp} {E : _root_.L2.St → XK} {m : M (β × α)} {e : En} {F : Hp} {σ : _root_.L2.St} {H : Hp} {Q : VK} (hM : e.M = []) (s : State Y e F σ H Γ) (hj : Γ[j]? = some (.own d od pin x))
    (h : MA Y tl Γ fun l => Lend1 Y sp dr od j (.own d od none x) l m) (q : ∀ v F' H' r x', m = .ok (r, x') → State Y e F' σ H' (Γ.set j (.own d od pin x')) → dr.rep Y.g F' v r → Q v H') : tCallS sp E tl σ H Q :=
  h e F σ H s _ fun vs F1 H1 l ⟨pre, post, el, hsp⟩ g1 ha => by
    subst el
    obtain ⟨vs1, v, vs2, ev, hl, hv, sl1, ha2⟩ := ha.at
    obtain ⟨v', Li, rest, e1, r, kw, f⟩ := (s.grow g1).mut hj
    rw [e1] at hv
    cases hv
    refine hsp vs H1 Q (E σ) ⟨F1, Li, minus H1 Li, kw.lend, ?_, fun u F' H' r' Γm L2 ⟨x', em, eΓ⟩ k2 hr sl2 => ?_⟩
    · subst ev
      rw [List.map_append, List.map_cons]
      have := slots_app sl1 (Slots.cons (L := Li) (L' := []) (c := .own d od none x) ⟨v, rfl, (fun _ z => nomatch z), r⟩ ha2.slots)
      simpa using this
    · subst eΓ
      have k3 := kw.transM hM k2
      have hvp : vs[pre.length]? = some v := by rw [ev, List.getElem?_append_right (by omega), hl, Nat.sub_self]; rfl
      simp only [List.map_cons, List.map_nil, hvp] at sl2
      cases sl2 with
      | @cons _ _ La Lb _ _ hc hn =>
        cases hn
        obtain ⟨w, ew, _, rr⟩ := hc
        cases ew
        rw [List.append_nil] at k3 k2
        exact q u F' H' r' x' em (f F' H' La x' k2.ff k3 rr) hr
/-- y = f(.., xs, ..) -/
theorem zm_setM1 {dr : Dat β} {od : OD α} {x : α} {i j : Nat} {c0 : Cell} {pin : Option V} {sp : Sp} {E : _root_.L2.St → XK} {m : M (β × α)} {m2 : β × α → M τ} (hj : Γ[j]? = some (.own d od pin x)) (hij : (i == j) = false) (hi : Γ[i]? = some c0) (hjj : j ∈ js) (hii : i ∈ js) (h : Mm tx Y tl Γ m fun l m => Lend1 Y sp dr od j (.own d od none x) l m)
    (h2 : ∀ p, Zm tx Y js rest ((Γ.set j (.own d od pin p.2)).set i (.val dr p.1)) K (m2 p)) : Zm tx Y js (tSeq (tAsg (tCallS sp E tl) (gName i)) rest) Γ K (M.calm m >>= m2) := fun nb xk => by
  obtain ⟨p, hp⟩ := M.calm_nb (M.nb1 nb)
  refine z_seq (fun e F σ H D hM s c => ?_)
  refine z_callM1 hM s hj (h ⟨p, hp⟩) fun v F' H' r x' em s' hr => ?_
  have ep : p = (r, x') := by rw [hp] at em; cases em; rfl
  subst ep
  have hne : j ≠ i := fun z => by simp [z] at hij
  exact c.nx F' _ H' _ ((h2 (r, x')).go nb xk (by rw [hp]; rfl) (by rw [wipeC_set hii, wipeC_set hjj])) (s'.set (c' := .val dr r) (L' := []) (by rw [List.getElem?_set_ne hne]; exact hi) s'.base ⟨rfl, v, rfl, hr⟩)
/-! ### the body of such a def -/
/-- a def's end; chk: what stands in the slots of the changed -/
def KFM {ρ σ : Type} (cell : ρ → Cell) (chk : σ → List Cell → Prop) : Kt (ρ × σ) := ⟨fun t Γ => .val dUnit () = cell t.1 ∧ chk t.2 Γ, fun t c Γ => c = cell t.1 ∧ chk t.2 Γ, fun _ _ => False, fun _ _ => False⟩
theorem zm_retM {cell : β → Cell} {dr : Dat β} {chk : σ → List Cell → Prop} {m : M β} {x : σ} (h : We tx Y te Γ dr m) (hx : chk x Γ) (hc : cell = fun r => .val dr r := by rfl) : Zm tx Y js (tSeq (tRet te) rest) Γ (KFM cell chk) (m >>= fun r => .ok (r, x)) := fun nb xk => by
  subst hc
  exact z_ret (te := te) (k := (KFM (fun r => Cell.val dr r) chk).ks (m >>= fun r => .ok (r, x))) (w_mono (h (M.nb1 nb) xk.l.here) fun r e => ⟨(r, x), by rw [e]; rfl, rfl, hx⟩)
theorem Zm.bodyM1 {C : GCtx} {N : List Str} {dr : Dat β} {od : OD α} {x : α} {p : Nat} {Γ' : V → List Cell} {m : M (β × α)} {vs : List V} {H : Hp} {Q : VK} {E : XK} {ts : TS} (nb : m.nb) (hp : Γ[p]? = some (.own d od none x)) (h : FnM C dr Γ [p] (fun r Γm => ∃ x', m = .ok (r, x') ∧ Γm = [.own d od none x']) vs H Q E) (hme : ∃ y, m = .ok y)
    (hΓ : ∀ u, Γ' u = Γ.set p (.own d od (some u) x) ++ List.replicate (N.length - Γ.length) .no)
    (hz : ∀ u : V, Zm tx ⟨C, fun _ => E, fun _ _ => False⟩ js ts (Γ' u) (KFM (fun r => .val dr r) fun x' Γ2 => Γ2[p]? = some (.own d od (some u) x')) m) : ts { nx := fun _ H' => Q .non H', rt := Q } (_root_.L2.start N vs) H := by
  have hl := h.len
  obtain ⟨y, ey⟩ := hme
  obtain ⟨F, L, H0, kw, sl, q⟩ := h
  obtain ⟨o, L1, Li, L2, e1, e2, ⟨u, rfl, _, r⟩, f⟩ := sl.get hp
  subst e2
  have hlt := (List.getElem?_eq_some_iff.mp hp).1
  have hu : vs[p]? = some u := by
    rw [List.getElem?_map] at e1
    cases hv : vs[p]? with
    | none => rw [hv] at e1; cases e1
    | some w => rw [hv] at e1; cases e1; rfl
  have ez : (vs.map some).set p (some u) = vs.map some := by
    apply List.ext_getElem?
    intro k
    by_cases hk : p = k
    · subst hk
      rw [List.getElem?_set_self (by rw [List.length_map, hl]; exact hlt), e1]
    · rw [List.getElem?_set_ne hk]
  have sl1 := f F (some u) (.own d od (some u) x) Li (Same.refl _) ⟨u, rfl, fun w z => by cases z; rfl, r⟩
  rw [ez] at sl1
  have st : State ⟨C, fun _ => E, fun _ _ => False⟩ ⟨F, H0, []⟩ F (_root_.L2.start N vs) H (Γ.set p (.own d od (some u) x) ++ List.replicate (N.length - Γ.length) .no) := by
    refine ⟨fun x d F' σ' H' Γ' k => k.elim, L1 ++ Li ++ L2, kw, ?_⟩
    unfold _root_.L2.start
    rw [← hl]
    have := slots_app sl1 (slots_pad (C := C) (F := F) (N.length - vs.length))
    simpa using this
  have hz' := hz u nb fun _ e2 => by rw [ey] at e2; cases e2
  rw [hΓ u] at hz'
  have fin : ∀ (v : V) (F' H' : Hp) (σ' : _root_.L2.St) (Γ2 : List Cell) (Lr : LO) (r' : β) (x' : α), m = .ok (r', x') → Γ2[p]? = some (.own d od (some u) x') → Wk ⟨F, H0, []⟩ F' Lr H' → dr.rep C F' v r' → Slots C F' σ' Γ2 Lr → Q v H' := fun v F' H' σ' Γ2 Lr r' x' em hg k2 hr sl2 => by
    obtain ⟨o2, P1, Mi, P2, e3, e4, ⟨w, rfl, hw, rr⟩, _⟩ := sl2.get hg
    cases hw u rfl
    subst e4
    refine q v F' H' r' _ Mi ⟨x', em, rfl⟩ (k2.front.subl (List.sublist_append_left _ _)) hr ?_
    rw [List.map_cons, List.map_nil, hu]
    have hcell : CellOk C F' (some u) (.own d od none x') Mi := ⟨u, rfl, (fun _ z => nomatch z), rr⟩
    have hs := Slots.cons hcell (Slots.nil (C := C) (F := F'))
    rw [List.append_nil] at hs
    exact hs
  refine hz' ⟨F, H0, []⟩ F (_root_.L2.start N vs) H _ rfl st ⟨fun F' σ' H' Γ2 hn s' => ?_, fun F' σ' H' Γ2 v c Lc L' hn k2 rc sl2 => ?_, fun _ _ _ _ z => ?_, fun _ _ _ _ z => ?_⟩
  · obtain ⟨t, em, ec, hg⟩ := hn
    obtain ⟨_, Lr, k2, sl2⟩ := s'
    refine fin .non F' H' σ' Γ2 Lr t.1 t.2 em hg k2 ?_ sl2
    have : CellOk C F' (some V.non) (.val dUnit ()) [] := ⟨rfl, .non, rfl, rfl⟩
    rw [ec] at this
    obtain ⟨_, v', ev, rv⟩ := this
    cases ev
    exact rv
  · obtain ⟨t, em, ec, hg⟩ := hn
    subst ec
    obtain ⟨el, v', ev, rv⟩ := rc
    cases ev
    subst el
    exact fin v F' H' σ' Γ2 L' t.1 t.2 em hg k2 rv sl2
  · obtain ⟨_, _, z⟩ := z; exact z.elim
  · obtain ⟨_, _, z⟩ := z; exact z.elim
end
theorem KReps.imm {α : Type} {d : Dat α} [i : @Imm α d] {C : GCtx} {F H : Hp} (t : ∀ a xs, H a = some (.tup xs) → F a = some (.tup xs)) : ∀ {ps : List (Key × V)} {xs : List (Int × α)}, KReps d C H ps xs → KReps d C F ps xs
  | [], [], _ => trivial
  | _ :: _, _ :: _, h => ⟨h.1, i.imm t h.2.1, KReps.imm t h.2.2⟩
  | [], _ :: _, h => h.elim
  | _ :: _, [], h => h.elim
instance mDI {α : Type} [d : Dat α] [i : Imm α] : OIm (DI α) oDI := ⟨fun t ⟨a, ps, e, h, r⟩ => ⟨a, ps, e, h, r.imm t⟩⟩
/-! lent, and others borrowed meanwhile -/
section
variable {tx : XC → Addr} {Y : YC} {Γ : List Cell} {te : TE} {tr tl : TA} {α β τ σ : Type} {d : Dat α} {rest : TS} {js : List Nat} {K : Kt τ} {j0 : Nat}
end
end G
end

section
set_option maxHeartbeats 2000000
noncomputable section
/-! M14: set comprehensions of ints, sorted. -/
namespace L2
open PySem PySem.Spec PyProof.Rows
section
variable {X : Cx}
end
end L2
namespace G
open PySem PySem.Spec PyProof.Rows L2 PySem.W
section
variable {tx : XC → Addr} {Y : YC} {Γ : List Cell} {ta te tl : TE} {tt : TT} {g : TG} {α τ : Type} {d : Dat α} {vs : List Nat}
end
end G
end
end

noncomputable section
/-! M15: a == b == c. -/
namespace G
open PySem PySem.Spec PyProof.Rows L2 PySem.W
section
variable {tx : XC → Addr} {Y : YC} {Γ : List Cell} {ta tb tc : TE}
end
section
variable {tx : XC → Addr} {Y : YC} {Γ : List Cell} {ta tb te : TE} {α τ : Type} {d : Dat α} {rest : TS} {js : List Nat} {K : Kt τ}
end
end G
end

noncomputable section
/-! M16: while with a walrus, None or a value narrowed, list.remove. -/
namespace G
open PySem PySem.Spec PyProof.Rows L2 PySem.W
section
variable {tx : XC → Addr} {Y : YC} {Γ : List Cell} {ta tb te : TE} {α β τ σ : Type} {d : Dat α} {ts rest : TS} {js js' : List Nat} {K : Kt τ} {i : Nat}
/-- None or a value, known to be one -/
def M.ofOpt {α : Type} : Opt α → M α
  | .some x => .ok x
  | .none => .bad
theorem z_recell {c c' : Cell} {k : Ks} (hi : Γ[i]? = some c) (h : ∀ (C : GCtx) (F : Hp) (o : Option V) (L : LO), CellOk C F o c L → CellOk C F o c' L) (hz : Z Y ts (Γ.set i c') k) : Z Y ts Γ k := fun e F σ0 H D hM s ct => by
  obtain ⟨hx, L, kw, sl⟩ := id s
  obtain ⟨o, L1, Li, L2, e1, e2, hc, f⟩ := sl.get hi
  have q := f F o c' Li (Same.refl _) (h _ _ _ _ hc)
  have z : σ0.set i o = σ0 := by
    apply List.ext_getElem?
    intro j
    by_cases hj : i = j
    · subst hj
      obtain ⟨hlt, hv⟩ := List.getElem?_eq_some_iff.mp e1
      rw [List.getElem?_set_self hlt, e1]
    · rw [List.getElem?_set_ne hj]
  rw [z, ← e2] at q
  exact hz e F σ0 H D hM ⟨hx, L, kw, q⟩ ct
theorem zm_narrow {o : Opt α} {m2 : α → M τ} (hi : Γ[i]? = some (.val (dOpt (d := d)) o)) (hj : i ∈ js) (h : ∀ x, Zm tx Y js ts (Γ.set i (.val d x)) K (m2 x)) : Zm tx Y js ts Γ K (M.ofOpt o >>= m2) := fun nb xk => by
  cases o with
  | none => exact absurd rfl nb
  | some x =>
    have hz := (h x).go (m1 := M.ofOpt (.some x)) (f := m2) (x := x) (Γ := Γ) nb xk rfl (wipeC_set hj)
    exact z_recell (c' := .val d x) hi (fun C F o L hc => hc) hz
/-- xs.remove(k) -/
def M.remove (xs : List Int) (m : M Int) : M (List Int) := m >>= fun k => M.asrt (k ∈ xs) (.ok (xs.erase k))
end
end G
end

noncomputable section
/-! M17: for over a list that is owned and changed later. -/
namespace G
open PySem PySem.Spec PyProof.Rows L2 PySem.W
section
variable {tx : XC → Addr} {Y : YC} {Γ : List Cell} {te ta tb tc td tl : TE} {t u tt : TT} {α β γ δ ε σ τ ρ : Type} {d : Dat α} {d1 : Dat α} {d2 : Dat β} {d3 : Dat γ} {g : TG} {ts t1 t2 rest : TS} {js js' vs : List Nat} {K : Kt τ}
/-- what a for asks, P: what its turns keep -/
def BodyP (Y : YC) (g : TG) (ts : TS) {α : Type} (d : Dat α) (k : Ks) (get : Nat → Option α) (n : Nat) (Γ : List Cell) (P : List Cell → Prop) : Prop :=
  ∃ I : Nat → List Cell → Prop, I 0 Γ ∧ (∀ n Γ', I n Γ' → P Γ') ∧ (∀ i x Γ', get i = some x → I i Γ' → A Y g Γ' d x fun Γ2 => Z Y ts Γ2 { nx := I (i + 1), ct := I (i + 1), bk := k.nx, rt := k.rt }) ∧ ∀ Γ', I n Γ' → k.nx Γ'
theorem BodyP.body {k : Ks} {get : Nat → Option α} {n : Nat} {P : List Cell → Prop} (h : BodyP Y g ts d k get n Γ P) : Body Y g ts d k get n Γ := let ⟨I, h0, _, hs, hd⟩ := h; ⟨I, h0, hs, hd⟩
end
end G
end

noncomputable section
/-! M18: None or plain data, as plain data. -/
namespace G
open PySem PySem.Spec PyProof.Rows L2 PySem.W
def optU {α : Type} (f : α → PyData) : Opt α → PyData
  | .none => .none
  | .some x => f x
instance udOpt {α : Type} {d : Dat α} [u : @UD α d] : @UD (Opt α) (dOpt (d := d)) := ⟨optU u.toU, fun {C F v x} h => match x, h with
  | .none, h => h
  | .some _, h => u.du h⟩
end G
end

noncomputable section
/-! M19: plain data read as data of a known shape. -/
namespace G
open PySem PySem.Spec PyProof.Rows L2 PySem.W
/-- what plain data are, seen as of a shape -/
class OU (α : Type) [d : Dat α] where
  ofU : PyData → Option α
  snd : ∀ {C : GCtx} {F : Hp} {v : V} {x : PyData} {y : α}, ofU x = some y → DU C F x v → d.rep C F v y
def ofInt : PyData → Option Int | .int i => some i | _ => none
def ofBool : PyData → Option Bool | .bool i => some i | _ => none
def ofStr : PyData → Option Str | .str i => some i | _ => none
instance ouInt : OU Int := ⟨ofInt, fun {C F v x y} h r => by cases x <;> cases h; exact r⟩
instance ouBool : OU Bool := ⟨ofBool, fun {C F v x y} h r => by cases x <;> cases h; exact r⟩
instance ouStr : OU Str := ⟨ofStr, fun {C F v x y} h r => by cases x <;> cases h; exact r⟩
def ofAll {α : Type} (f : PyData → Option α) : List PyData → Option (List α)
  | [] => some []
  | x :: xs => match f x, ofAll f xs with | some y, some ys => some (y :: ys) | _, _ => none
theorem ofAll_reps {α : Type} {d : Dat α} [o : @OU α d] {C : GCtx} {F : Hp} : ∀ {ds : List PyData} {ys : List α} {vs : List V}, ofAll o.ofU ds = some ys → DUs C F ds vs → Reps d C F vs ys
  | [], ys, [], h, _ => by cases h; trivial
  | x :: xs, ys, v :: vs, h, r => by
    unfold ofAll at h
    cases h1 : o.ofU x with
    | none => rw [h1] at h; cases h
    | some y =>
      cases h2 : ofAll o.ofU xs with
      | none => rw [h1, h2] at h; cases h
      | some zs =>
        rw [h1, h2] at h
        cases h
        exact ⟨o.snd h1 r.1, ofAll_reps h2 r.2⟩
  | [], _, _ :: _, _, r => r.elim
  | _ :: _, _, [], _, r => r.elim
def ofList {α : Type} (f : PyData → Option α) : PyData → Option (List α)
  | .list ds => ofAll f ds
  | _ => none
def ofTup {α : Type} (f : PyData → Option α) : PyData → Option (Tup α)
  | .tuple ds => (ofAll f ds).map fun xs => ⟨xs⟩
  | _ => none
instance ouList {α : Type} {d : Dat α} [o : @OU α d] : @OU (List α) dList := ⟨ofList o.ofU, fun {C F v x y} h r => by
  cases x with
  | list ds =>
    obtain ⟨a, vs, e, h1, r1⟩ := r
    exact ⟨a, vs, e, h1, ofAll_reps h r1⟩
  | _ => cases h⟩
instance ouTup {α : Type} {d : Dat α} [o : @OU α d] : @OU (Tup α) dTup := ⟨ofTup o.ofU, fun {C F v x y} h r => by
  cases x with
  | tuple ds =>
    obtain ⟨a, vs, e, h1, r1⟩ := r
    have h : (ofAll o.ofU ds).map (fun xs => (⟨xs⟩ : Tup α)) = some y := h
    cases h2 : ofAll o.ofU ds with
    | none => rw [h2] at h; cases h
    | some xs =>
      rw [h2] at h
      cases h
      exact ⟨a, vs, e, h1, ofAll_reps h2 r1⟩
  | _ => cases h⟩
def ofPair {α β : Type} (f : PyData → Option α) (g : PyData → Option β) : PyData → Option (α × β)
  | .tuple [x, y] => match f x, g y with | some a, some b => some (a, b) | _, _ => none
  | _ => none
instance ouPair {α β : Type} {d1 : Dat α} {d2 : Dat β} [o1 : @OU α d1] [o2 : @OU β d2] : @OU (α × β) dPair := ⟨ofPair o1.ofU o2.ofU, fun {C F v x y} h r => by
  unfold ofPair at h
  split at h
  · rename_i x1 x2
    cases h1 : o1.ofU x1 with
    | none => rw [h1] at h; cases h
    | some a =>
      cases h2 : o2.ofU x2 with
      | none => rw [h1, h2] at h; cases h
      | some b =>
        rw [h1, h2] at h
        cases h
        obtain ⟨p, vs, e, ht, r1⟩ := r
        match vs, r1 with
        | [v1, v2], r1 => exact ⟨p, v1, v2, e, ht, o1.snd h1 r1.1, o2.snd h2 r1.2.1⟩
  · cases h⟩
def ofT4 {α β γ δ : Type} (f : PyData → Option α) (g : PyData → Option β) (h : PyData → Option γ) (i : PyData → Option δ) : PyData → Option (T4 α β γ δ)
  | .tuple [x, y, z, w] => match f x, g y, h z, i w with | some a, some b, some c, some d => some ⟨a, b, c, d⟩ | _, _, _, _ => none
  | _ => none
instance ouT4 {α β γ δ : Type} {d1 : Dat α} {d2 : Dat β} {d3 : Dat γ} {d4 : Dat δ} [o1 : @OU α d1] [o2 : @OU β d2] [o3 : @OU γ d3] [o4 : @OU δ d4] : @OU (T4 α β γ δ) dT4 := ⟨ofT4 o1.ofU o2.ofU o3.ofU o4.ofU, fun {C F v x y} h r => by
  unfold ofT4 at h
  split at h
  · rename_i x1 x2 x3 x4
    cases h1 : o1.ofU x1 with
    | none => rw [h1] at h; cases h
    | some a =>
      cases h2 : o2.ofU x2 with
      | none => rw [h1, h2] at h; cases h
      | some b =>
        cases h3 : o3.ofU x3 with
        | none => rw [h1, h2, h3] at h; cases h
        | some c =>
          cases h4 : o4.ofU x4 with
          | none => rw [h1, h2, h3, h4] at h; cases h
          | some d =>
            rw [h1, h2, h3, h4] at h
            cases h
            obtain ⟨p, vs, e, ht, r1⟩ := r
            match vs, r1 with
            | [v1, v2, v3, v4], r1 => exact ⟨p, v1, v2, v3, v4, e, ht, o1.snd h1 r1.1, o2.snd h2 r1.2.1, o3.snd h3 r1.2.2.1, o4.snd h4 r1.2.2.2.1⟩
  · cases h⟩
section
variable {tx : XC → Addr} {Y : YC} {Γ : List Cell} {te : TE} {α : Type} {d : Dat α}
theorem we_ofU [o : @OU α d] {m : M PyData} (h : We tx Y te Γ dU m) : We tx Y te Γ d (m >>= fun x => M.ofO (o.ofU x)) := fun nb xk e F σ H s Q q =>
  (h.k nb xk (k := fun x => ∃ y, o.ofU x = some y ∧ (m >>= fun x => M.ofO (o.ofU x)) = .ok y) fun x ex nb2 _ => by
    cases hx : o.ofU x with
    | none => rw [hx] at nb2; exact absurd rfl nb2
    | some y => exact ⟨y, rfl, by rw [ex]; show M.ofO (o.ofU x) = _; rw [hx]; rfl⟩) e F σ H s _ fun v F' H' x ⟨y, hy, ky⟩ g r => q v F' H' y ky g (o.snd hy r)
end
end G
end

noncomputable section
/-! M20: xs[::-1]. -/
namespace G
open PySem PySem.Spec PyProof.Rows L2 PySem.W
section
variable {tx : XC → Addr} {Y : YC} {Γ : List Cell} {te : TE} {α : Type} {d : Dat α}
end
end G
end

noncomputable section
/-! M21: pairs that own one part. -/
namespace G
open PySem PySem.Spec PyProof.Rows L2 PySem.W
/-- frozen data, as a part of what is owned -/
@[reducible] def oFz {α : Type} {d : Dat α} : @OD α d := @OD.mk α d (fun C F v x L => L = [] ∧ d.rep C F v x) (fun s ⟨e, r⟩ => ⟨e, d.mono s r⟩) (fun ⟨_, r⟩ s _ => d.mono s r)
section
variable {tx : XC → Addr} {Y : YC} {Γ : List Cell} {α τ : Type} {d : Dat α} {ts : TS} {js : List Nat} {K : Kt τ} {m : M τ} {x : α}
end
end G
end

noncomputable section
/-! M22: comprehensions with two fors. -/
namespace G
open PySem PySem.Spec PyProof.Rows L2 PySem.W
section
variable {tx : XC → Addr} {Y : YC} {Γ : List Cell} {α : Type} {d : Dat α}
/-- what is walked -/
def Iw (tx : XC → Addr) (Y : YC) (ti : TI) (Γ : List Cell) {α : Type} (d : Dat α) (m : M (List α)) : Prop := m.nb → XkM tx Y Γ m → ∀ (e : En) (F : Hp) (σ : L2.St) (H : Hp), State Y e F σ H Γ → ∀ R : It → Hp → Prop,
  (∀ J F1 H1 us xs (Gd : Hp → Prop), m = .ok xs → xs.length ≤ PySem.sizeLine → Gr F H F1 H1 → (∀ H', Same F1 H' → Gd H') → Walk J us.length Gd (YAt us) → Reps d Y.g F1 us xs → R J H1) → ti σ H R
end
theorem wipe_wipeB (σ0 : L2.St) (vs : List Nat) : wipe (wipe σ0 vs) vs = wipe σ0 vs := by
  have : ∀ (l : List Nat) (σ1 : L2.St), (∀ j ∈ l, (σ1[j]? = none ∨ σ1[j]? = some none)) → wipe σ1 l = σ1 := by
    intro l
    induction l with
    | nil => intro _ _; rfl
    | cons j l ih =>
      intro σ1 hj
      unfold wipe
      rw [ih σ1 fun m hm => hj m (List.mem_cons_of_mem _ hm)]
      apply List.ext_getElem?
      intro m
      rw [List.getElem?_set]
      by_cases hm : j = m
      · subst hm
        rcases hj j List.mem_cons_self with z | z
        · rw [z, if_pos rfl, if_neg (Nat.not_lt.mpr (List.getElem?_eq_none_iff.mp z))]
        · rw [z, if_pos rfl, if_pos (List.getElem?_eq_some_iff.mp z).1]
      · rw [if_neg hm]
  refine this vs _ fun j hj => ?_
  cases q : (wipe σ0 vs)[j]? with
  | none => exact .inl rfl
  | some o =>
    cases o with
    | none => exact .inr rfl
    | some y => exact absurd hj (wipe_some q).2
section
variable {Y : YC} {Γ : List Cell} {α β γ : Type} {d : Dat α} {d1 : Dat γ} {d2 : Dat β} {g g1 : TG} {tt tt1 : TT} {te : TE} {ti ti1 : TI} {vs vs1 : List Nat}
def Iwk (Y : YC) (ti : TI) (Γ : List Cell) {α : Type} (d : Dat α) (k : List α → Prop) : Prop := ∀ (e : En) (F : Hp) (σ : L2.St) (H : Hp), State Y e F σ H Γ → ∀ R : It → Hp → Prop,
  (∀ J F1 H1 us xs (Gd : Hp → Prop), k xs → xs.length ≤ PySem.sizeLine → Gr F H F1 H1 → (∀ H', Same F1 H' → Gd H') → Walk J us.length Gd (YAt us) → Reps d Y.g F1 us xs → R J H1) → ti σ H R
end
namespace M
variable {α β γ : Type}
/-- [f x z for x in xs if p x for z in m1 x if p1 x z] -/
def comp2 (p : α → M Bool) (m1 : α → M (List γ)) (p1 : α → γ → M Bool) (f : α → γ → M β) : List α → M (List β)
  | [] => .ok []
  | x :: xs => (calm (p x) >>= fun b => if b then calm (m1 x) >>= fun zs => comp (p1 x) (f x) zs else .ok []) >>= fun ys => comp2 p m1 p1 f xs >>= fun zs => .ok (ys ++ zs)
def lc2 (p : α → M Bool) (m1 : α → M (List γ)) (p1 : α → γ → M Bool) (f : α → γ → M β) (xs : List α) : M (List β) := comp2 p m1 p1 f xs >>= fun ys => asrt (ys.length ≤ PySem.sizeLine) (.ok ys)
theorem comp_tot (p : α → M Bool) (f : α → M β) : ∀ xs : List α, (comp p f xs).nb → ∃ ys, comp p f xs = .ok ys
  | [], _ => ⟨[], rfl⟩
  | x :: xs, h => by
    simp only [comp] at h ⊢
    obtain ⟨b, hb⟩ := calm_nb (nb1 h)
    rw [hb] at h ⊢
    simp only [calm_of_ok, ok_bind] at h ⊢
    cases b with
    | true =>
      rw [if_pos rfl] at h ⊢
      obtain ⟨y, hy⟩ := calm_nb (nb1 h)
      rw [hy] at h ⊢
      simp only [calm_of_ok, ok_bind] at h ⊢
      obtain ⟨ys, e⟩ := comp_tot p f xs (nb1 h)
      rw [e]
      exact ⟨_, rfl⟩
    | false =>
      rw [if_neg (by simp)] at h ⊢
      exact comp_tot p f xs h
/-- what one item of the first for gives -/
def part (p : α → M Bool) (m1 : α → M (List γ)) (p1 : α → γ → M Bool) (f : α → γ → M β) (x : α) : M (List β) := calm (p x) >>= fun b => if b then calm (m1 x) >>= fun zs => comp (p1 x) (f x) zs else .ok []
theorem part_tot (p : α → M Bool) (m1 : α → M (List γ)) (p1 : α → γ → M Bool) (f : α → γ → M β) (x : α) (h : (part p m1 p1 f x).nb) : (p x = .ok false ∧ part p m1 p1 f x = .ok []) ∨ ∃ zs ys, p x = .ok true ∧ m1 x = .ok zs ∧ comp (p1 x) (f x) zs = .ok ys ∧ part p m1 p1 f x = .ok ys := by
  unfold part at h ⊢
  obtain ⟨b, hb⟩ := calm_nb (nb1 h)
  rw [hb] at h ⊢
  simp only [calm_of_ok, ok_bind] at h ⊢
  cases b with
  | false => exact .inl ⟨by first | rfl | trivial, rfl⟩
  | true =>
    rw [if_pos rfl] at h ⊢
    obtain ⟨zs, hz⟩ := calm_nb (nb1 h)
    rw [hz] at h ⊢
    simp only [calm_of_ok, ok_bind] at h ⊢
    obtain ⟨ys, e⟩ := comp_tot _ _ zs h
    exact .inr ⟨zs, ys, by first | rfl | trivial, by first | rfl | trivial, e, e⟩
theorem comp2_cons (p : α → M Bool) (m1 : α → M (List γ)) (p1 : α → γ → M Bool) (f : α → γ → M β) (x : α) (xs : List α) : comp2 p m1 p1 f (x :: xs) = (part p m1 p1 f x >>= fun ys => comp2 p m1 p1 f xs >>= fun zs => .ok (ys ++ zs)) := rfl
theorem comp2_tot (p : α → M Bool) (m1 : α → M (List γ)) (p1 : α → γ → M Bool) (f : α → γ → M β) : ∀ xs : List α, (comp2 p m1 p1 f xs).nb → ∃ ys, comp2 p m1 p1 f xs = .ok ys
  | [], _ => ⟨[], rfl⟩
  | x :: xs, h => by
    rw [comp2_cons] at h ⊢
    rcases part_tot p m1 p1 f x (nb1 h) with ⟨_, e⟩ | ⟨_, _, _, _, _, e⟩ <;>
    · rw [e] at h ⊢
      simp only [ok_bind] at h ⊢
      obtain ⟨ys, e2⟩ := comp2_tot p m1 p1 f xs (nb1 h)
      rw [e2]
      exact ⟨_, rfl⟩
theorem comp2_app (p : α → M Bool) (m1 : α → M (List γ)) (p1 : α → γ → M Bool) (f : α → γ → M β) : ∀ xs ys : List α, comp2 p m1 p1 f (xs ++ ys) = (comp2 p m1 p1 f xs >>= fun a => comp2 p m1 p1 f ys >>= fun b => .ok (a ++ b))
  | [], ys => by
    show _ = (M.ok [] >>= _)
    simp only [ok_bind, List.nil_append]
    cases comp2 p m1 p1 f ys <;> rfl
  | x :: xs, ys => by
    rw [List.cons_append]
    simp only [comp2, comp2_app p m1 p1 f xs ys, assoc, ok_bind, List.append_assoc]
end M
section
variable {tx : XC → Addr} {Y : YC} {Γ : List Cell} {α β γ : Type} {d : Dat α} {d1 : Dat γ} {d2 : Dat β} {g g1 : TG} {tt tt1 : TT} {te : TE} {ti ti1 : TI} {vs vs1 : List Nat}
end
end G
end

/-! M23: == and != by an own __eq__. -/
namespace G
open PySem PySem.Spec PyProof.Rows L2 PySem.W
section
variable {X : Cx} {CXt : CXT} {k : Nat} {f C : Addr} {fd : FuncData} {ps : List Str} {sp : Sp}
/-- what stands at the right: an instance of the same class or a tuple -/
def EqArg (K : Frag) (C : Addr) (y : V) (H : Hp) : Prop := ∃ b, y = .ref b ∧ ((∃ dy gs, H b = some (.ins C dy gs)) ∨ (notFirst K C (.type "tuple") = true ∧ ∃ ys, TpA K H b ys))
theorem EqArg.mono {K : Frag} {C : Addr} {y : V} {F H : Hp} (h : EqArg K C y F) (s : Same F H) : EqArg K C y H := let ⟨b, e, h⟩ := h; ⟨b, e, h.imp (fun ⟨dy, gs, h⟩ => ⟨dy, gs, s _ _ h⟩) fun ⟨n, ys, h⟩ => ⟨n, ys, h.mono s⟩⟩
end
section
variable {X : Cx} {CXt : CXT} {k : Nat} {f C : Addr} {fd : FuncData} {ps : List Str} {sp : Sp}
end
section
variable {Y : YC} {Γ : List Cell} {ta tb : TE} {α β : Type} {d : Dat α} {d2 : Dat β} {C0 : Addr} {ns : List Str} {sp : Sp}
end
section
variable {tx : XC → Addr} {Y : YC} {Γ : List Cell} {t1 t2 : TE} {α1 α2 : Type} {d1 : Dat α1} {d2 : Dat α2} {m1 : M α1} {m2 : M α2} {C0 : Addr} {ns : List Str} {sp : Sp}
end
end G

/-! M24: an instance walked by its own __iter__ (iter of a tuple it holds). -/
namespace G
open PySem PySem.Spec PyProof.Rows L2 PySem.W
section
variable {X : Cx}
end
section
variable {X : Cx} {CXt : CXT} {k : Nat} {g C : Addr} {fd : FuncData} {ps : List Str} {f : Str} {e tg : Expr} {te : TE}
end
section
variable {Y : YC} {Γ : List Cell} {te : TE} {α β : Type} {d : Dat α} {d2 : Dat β} {C0 : Addr} {f : Str}
variable {tx : XC → Addr}
end
end G

noncomputable section
/-! M25: mixed data: an instance or plain data; tuples of them. -/
namespace G
open PySem PySem.Spec PyProof.Rows L2 PySem.W
@[reducible] def Mix (β : Type) := Sum β PyData
@[reducible] def dMix {β : Type} (d : Dat β) : Dat (Mix β) := ⟨fun C F v x => match x with
  | .inl y => d.rep C F v y
  | .inr u => DU C F u v, fun {C F F' v x} s h => match x, h with
  | .inl _, h => d.mono s h
  | .inr _, h => DU.mono s _ _ h⟩
section
variable {α β γ α2 β2 : Type} {d : Dat α} {d2 : Dat β} {d3 : Dat γ} {e1 : Dat α2} {e2 : Dat β2}
end
section
variable {tx : XC → Addr} {Y : YC} {Γ : List Cell} {te : TE} {α β : Type} {d : Dat α} {d2 : Dat β}
end
end G
end

noncomputable section
/-! M26: xs += ys (lists), xs.reverse(). -/
namespace G
open PySem PySem.Spec PyProof.Rows L2 PySem.W
section
variable {Y : YC} {Γ : List Cell} {te : TE} {α : Type} {d : Dat α} {k : Ks}
end
section
variable {tx : XC → Addr} {Y : YC} {Γ : List Cell} {te : TE} {α τ : Type} {d : Dat α} {K : Kt τ} {rest : TS} {js : List Nat}
def M.ext {α : Type} (xs : List α) (m : M (List α)) : M (List α) := m >>= fun ys => M.asrt (xs.length + ys.length ≤ PySem.sizeLine) (.ok (xs ++ ys))
end
end G
end

noncomputable section
/-! M27: xs.count(b) of bools. -/
namespace G
open PySem PySem.Spec PyProof.Rows L2 PySem.W
section
variable {X : Cx}
end
section
variable {tx : XC → Addr} {Y : YC} {Γ : List Cell} {ta tb : TE}
end
section
variable {α β γ δ : Type} {d : Dat α} {d2 : Dat β} {d3 : Dat γ} {d4 : Dat δ}
end
section
variable {tx : XC → Addr} {Y : YC} {Γ : List Cell} {ta : TE}
end
end G
end

noncomputable section
/-! M28: defs that change two of their arguments. -/
namespace G
open PySem PySem.Spec PyProof.Rows L2 PySem.W
theorem Wk.perm2 {e : En} {F H : Hp} {L L' : LO} (a : Wk e F L H) (p : L.Perm L') : Wk e F L' H :=
  a.sub (fun _ h => p.mem_iff.mpr h) ((p.map Prod.fst).nodup_iff.mp a.nd)
section
variable {tx : XC → Addr} {Y : YC} {Γ : List Cell} {te : TE} {tr tl : TA} {α1 α2 β τ σ : Type} {d1 : Dat α1} {d2 : Dat α2} {rest : TS} {js : List Nat} {K : Kt τ}
theorem set_set_ne {γ : Type _} {xs : List γ} {i j : Nat} {a b : γ} (h : i ≠ j) : (xs.set i a).set j b = (xs.set j b).set i a := List.set_comm _ _ h
/-! ### the body of such a def -/
end
end G
end

noncomputable section
/-! M29: class methods: C.m(..) and cls(..) within. -/
namespace G
open PySem PySem.Spec PyProof.Rows L2 PySem.W ClX
section
variable {X : Cx} {CXt : CXT} {k i : Nat} {C p g f : Addr} {mc : Value} {fd : FuncData} {ps : List Str} {sp : Sp} {E : L2.St → XK} {o e : Expr} {es : List Expr} {m x : Str} {pos apos np : Pos} {ta : TE} {t : TA} {pl : Sem Bool}
end
/-- the class itself, in a name -/
@[reducible] def dCls (C0 : Addr) : Dat Unit := ⟨fun _ _ v _ => v = .ref C0, fun _ h => h⟩
section
variable {tx : XC → Addr} {Y : YC} {Γ : List Cell} {te : TE} {tl : TA} {α β : Type} {d : Dat β} {sp : Sp} {E : _root_.L2.St → XK} {C0 : Addr}
end
end G
end

noncomputable section
/-! M30: plain data without lists (what a call may give while names are borrowed); calls within an except suite of defs that raise nothing. -/
namespace G
open PySem PySem.Spec PyProof.Rows L2 PySem.W
instance oimOb2 {α β : Type} {d1 : Dat α} {d2 : Dat β} [i1 : @Imm α d1] [i2 : @Imm β d2] {C0 : Addr} {f1 f2 : Str} : @OIm (Ob2 α β) (dOb2 (d1 := d1) (d2 := d2) C0 f1 f2) (oOb2 (d1 := d1) (d2 := d2) C0 f1 f2) :=
  @OIm.mk _ (dOb2 (d1 := d1) (d2 := d2) C0 f1 f2) (oOb2 (d1 := d1) (d2 := d2) C0 f1 f2) (fun t ⟨p, dx, v1, v2, e, h, r1, r2⟩ => ⟨p, dx, v1, v2, e, h, i1.imm t r1, i2.imm t r2⟩)
instance oimOb1 {α : Type} {d1 : Dat α} [i1 : @Imm α d1] {C0 : Addr} {f1 : Str} : @OIm (Ob1 α) (dOb1 (d1 := d1) C0 f1) (oOb1 (d1 := d1) C0 f1) :=
  @OIm.mk _ (dOb1 (d1 := d1) C0 f1) (oOb1 (d1 := d1) C0 f1) (fun t ⟨p, dx, v1, e, h, r1⟩ => ⟨p, dx, v1, e, h, i1.imm t r1⟩)
/-! ### without lists -/
mutual
def noL : PyData → Bool
  | .list _ => false
  | .tuple ds => noLs ds
  | .dict _ => false
  | _ => true
def noLs : List PyData → Bool
  | [] => true
  | d :: ds => noL d && noLs ds
end
mutual
theorem DU.imm {C : GCtx} {F H : Hp} (t : ∀ a xs, H a = some (.tup xs) → F a = some (.tup xs)) : ∀ (x : PyData) (v : V), noL x = true → DU C H x v → DU C F x v
  | .none, _, _, h => h
  | .bool _, _, _, h => h
  | .int _, _, _, h => h
  | .str _, _, _, h => h
  | .list _, _, n, _ => by cases n
  | .tuple ds, v, n, ⟨a, vs, e, h, r⟩ => ⟨a, vs, e, h.imp (t a _) id, DUs.imm t ds vs n r⟩
  | .dict _, _, _, h => h.elim
theorem DUs.imm {C : GCtx} {F H : Hp} (t : ∀ a xs, H a = some (.tup xs) → F a = some (.tup xs)) : ∀ (xs : List PyData) (vs : List V), noLs xs = true → DUs C H xs vs → DUs C F xs vs
  | [], [], _, h => h
  | d :: ds, v :: vs, n, h => by
    have n2 : (noL d && noLs ds) = true := n
    rw [Bool.and_eq_true] at n2
    exact ⟨DU.imm t d v n2.1 h.1, DUs.imm t ds vs n2.2 h.2⟩
  | [], _ :: _, _, h => h.elim
  | _ :: _, [], _, h => h.elim
end
@[reducible] def dUI : Dat PyData := ⟨fun C F v x => noL x = true ∧ DU C F x v, fun s ⟨n, h⟩ => ⟨n, DU.mono s _ _ h⟩⟩
instance imUI : @Imm PyData dUI := @Imm.mk PyData dUI fun t ⟨n, h⟩ => ⟨n, DU.imm t _ _ n h⟩
class UI (α : Type) [d : Dat α] [u : UD α] : Prop where
  no : ∀ x : α, noL (u.toU x) = true
instance uiInt : UI Int := ⟨fun _ => rfl⟩
instance uiBool : UI Bool := ⟨fun _ => rfl⟩
instance uiStr : UI Str := ⟨fun _ => rfl⟩
instance uiUnit : UI Unit := ⟨fun _ => rfl⟩
theorem noLs_map {α : Type} {d : Dat α} [u : @UD α d] [n : @UI α d u] : ∀ xs : List α, noLs (xs.map u.toU) = true
  | [] => rfl
  | x :: xs => by show (noL _ && noLs _) = true; rw [n.no x, noLs_map xs]; rfl
instance uiTup {α : Type} {d : Dat α} [u : @UD α d] [n : @UI α d u] : @UI (Tup α) dTup udTup := @UI.mk _ dTup udTup fun x => noLs_map x.l
instance uiPair {α β : Type} {d1 : Dat α} {d2 : Dat β} [u1 : @UD α d1] [u2 : @UD β d2] [n1 : @UI α d1 u1] [n2 : @UI β d2 u2] : @UI (α × β) dPair udPair := @UI.mk _ dPair udPair fun x => by
  show (noL _ && (noL _ && true)) = true
  rw [n1.no, n2.no]; rfl
instance uiT3 {α β γ : Type} {d1 : Dat α} {d2 : Dat β} {d3 : Dat γ} [u1 : @UD α d1] [u2 : @UD β d2] [u3 : @UD γ d3] [n1 : @UI α d1 u1] [n2 : @UI β d2 u2] [n3 : @UI γ d3 u3] : @UI (T3 α β γ) dT3 udT3 := @UI.mk _ dT3 udT3 fun x => by
  show (noL _ && (noL _ && (noL _ && true))) = true
  rw [n1.no, n2.no, n3.no]; rfl
instance uiT4 {α β γ δ : Type} {d1 : Dat α} {d2 : Dat β} {d3 : Dat γ} {d4 : Dat δ} [u1 : @UD α d1] [u2 : @UD β d2] [u3 : @UD γ d3] [u4 : @UD δ d4] [n1 : @UI α d1 u1] [n2 : @UI β d2 u2] [n3 : @UI γ d3 u3] [n4 : @UI δ d4 u4] : @UI (T4 α β γ δ) dT4 udT4 := @UI.mk _ dT4 udT4 fun x => by
  show (noL _ && (noL _ && (noL _ && (noL _ && true)))) = true
  rw [n1.no, n2.no, n3.no, n4.no]; rfl
section
variable {tx : XC → Addr} {Y : YC} {Γ : List Cell} {te : TE} {α : Type} {d : Dat α}
theorem w_UI [u : @UD α d] [n : @UI α d u] {k : PyData → Prop} (h : W Y te Γ d fun x => k (u.toU x)) : W Y te Γ dUI k := fun e F σ H s Q q => h e F σ H s Q fun v F' H' x kx g r => q v F' H' _ kx g ⟨n.no x, u.du r⟩
theorem we_UI [u : @UD α d] [n : @UI α d u] {m : M α} (h : We tx Y te Γ d m) : We tx Y te Γ dUI (m >>= fun x => .ok (u.toU x)) := we_p1w (f := u.toU) (fun k h => w_UI h) h
theorem we_ui2u {m : M PyData} (h : We tx Y te Γ dUI m) : We tx Y te Γ dU m := fun nb xk e F σ H s Q q => h nb xk e F σ H s Q fun v F' H' x kx g r => q v F' H' x kx g r.2
end
end G
namespace L2
open PySem PySem.Spec PyProof.Rows
/-! ### calls in a suite -/
structure FnC (P : Program) (w : World) (K : PySem.W.Frag) (mg : Str → Option Value) (base : Heap) (CX : CXT) (k : Nat) (f : Addr) (fd : FuncData) (ps : List Str) (sp : Sp) : Prop where
  len : ∀ vs H Q E, sp vs H Q E → vs.length = ps.length
  run : ∀ (A : Around) (outer : List Env) (s : Shared) (H : Hp) (args : Args) (us : List Value) (vs : List V) (Q : VK) (E : XK), L2H.RoomH k A → Env0 P w K mg base A outer s H → BindsTo s fd args (ps.zip us) → Vals vs us → sp vs H Q E →
    codeAny (model P w) A (.call (.ref f) args) (CR CX outer P w H s Q E) s
def cxC (CX : CXT) (P : Program) (w : World) (K : PySem.W.Frag) (mg : Str → Option Value) (base : Heap) (N : List Str) (qual : Str) (scope : Scope) (f : Addr) (cd : Value) (A : Around) (outer : List Env) (s : Shared) (H : Hp) (E : XK) : Cx :=
  { cxOf CX P w K mg base N qual scope f cd A outer s H E with calm := false }
theorem inv_startC {CX : CXT} {P : Program} {w : World} {K : PySem.W.Frag} {mg : Str → Option Value} {base : Heap} {N ps : List Str} {qual : Str} {scope : Scope} {f : Addr} {cd : Value} {A : Around} {outer : List Env} {s s1 : Shared} {H : Hp} {E : XK} {us : List Value} {vs : List V}
    (S : FnScope N ps scope) (e0 : Env0 P w K mg base A outer s H) (hl : vs.length = ps.length) (r : Vals vs us)
    (x : InCallC s s.heap.objs.size (bindL (envOfC qual scope s.heap.objs.size f cd).kindOf (ps.zip us) fun _ => none) (cellsFrom (s.heap.objs.size + 1) scope.names []) (bindC (envOfC qual scope s.heap.objs.size f cd).kindOf (ps.zip us) fun _ => none) s1) :
    Inv (cxC CX P w K mg base N qual scope f cd A outer s H E) [] (L2.start N vs) H s1 := by
  have hpl : ps.length ≤ N.length := by have := congrArg List.length S.pre; rw [List.length_take] at this; omega
  obtain ⟨h1, tk, rfl, hk⟩ := x.done
  have noA : ∀ b : Addr, b ∉ (cxC CX P w K mg base N qual scope f cd A outer s H E).ex := fun b z => absurd (show b ∈ ([] : List Addr) from z) (by simp)
  refine ⟨⟨e0.mod, S.kind, rfl, rfl, Nat.le_refl _, fun y z c h1 h2 => ?_, fun y hy => ?_, fun y c _ h => ?_, (fun z => Bool.noConfusion (show false = true from z)), Around.frames_deeper e0.frames, .inr ⟨rfl, rfl⟩, fun b z => absurd z (noA b), e0.bs, e0.bsz, fun b _ _ => noA b, fun b z => absurd z (noA b), e0.funs, e0.frf⟩,
    rfl, e0.bare, Un.kept hk, ⟨_, x.toInCall.ns, fun i y v h1 h2 h3 => ?_⟩, fun y c h => ⟨_, x.cell y c h⟩, e0.hok.fresh (Nat.le_refl _), fun y c h => ?_, fun p hp => absurd (show p ∈ ([] : List (Addr × Obj)) from hp) (by simp), e0.hok.kept hk, ?_⟩
  · exact name_of_addr x.apart (PySem.mem_of_lookup h1) (PySem.mem_of_lookup h2)
  · have hy : scope.names.lookup y = some .cell ∨ scope.names.lookup y = some .free := hy
    rcases hy with hy | hy
    · exact cell_has hy
    · exact absurd rfl (S.nofree _ (PySem.mem_of_lookup hy))
  · exact Nat.le_of_lt (x.above y c (PySem.mem_of_lookup h))
  · have hi : i < vs.length := by
      unfold L2.start at h2
      by_cases hi : i < vs.length
      · exact hi
      · rw [List.getElem?_append_right (by simpa using hi)] at h2
        rw [List.getElem?_replicate] at h2
        split at h2 <;> cases h2
    have ha : vs[i]? = some v := by
      unfold L2.start at h2
      rw [List.getElem?_append_left (by simpa using hi), List.getElem?_map] at h2
      cases e : vs[i]? with
      | none => rw [e] at h2; cases h2
      | some a => rw [e] at h2; cases h2; rfl
    obtain ⟨u, hu, rv⟩ := r.get ha
    have hp : ps[i]? = some y := by
      rw [← S.pre, List.getElem?_take_of_lt (by omega)]; exact h1
    have ndP : ps.Nodup := by rw [← S.pre]; exact S.nd.sublist (List.take_sublist _ _)
    refine ⟨u, rv, ?_⟩
    rcases S.par y (List.mem_of_getElem? hp) with k | k
    · exact .inl ⟨k, bindL_get ndP hp hu k⟩
    · obtain ⟨c, e⟩ := cell_has (n := s.heap.objs.size + 1) k
      refine .inr ⟨.inl k, c, e, ?_⟩
      have q := x.cell y c e
      rw [bindC_get ndP hp hu (by show scope.names.lookup y ≠ _; rw [k]; decide)] at q
      exact q
  · exact e0.hok.fresh (Nat.le_of_lt (x.above y c (PySem.mem_of_lookup h)))
  · unfold L2.start
    show _ = N.length
    rw [List.length_append, List.length_map, List.length_replicate]
    omega
theorem Fun.okC {P : Program} {w : World} {K : PySem.W.Frag} {mg : Str → Option Value} {base : Heap} {name qual : Str} {st : Stmt} {f : Addr} {fd : FuncData} {N ps : List Str} {k : Nat} {sp : Sp} (F : Fun K name qual st f fd) (S : FnScope N ps (defScope st)) (len : ∀ vs H Q E, sp vs H Q E → vs.length = ps.length)
    (hbody : ∀ (cdv : Value) (A : Around) (outer : List Env) (s : Shared) (H : Hp) (vs : List V) (Q : VK) (E : XK), L2H.RoomH k (A.deeper (envOfC qual (defScope st) s.heap.objs.size f cdv)) → sp vs H Q E →
      ∃ t, PSs (cxC (L2.CX P w) P w K mg base N qual (defScope st) f cdv A outer s H E) (defBody st) t ∧ t { nx := fun _ H' => Q .non H', rt := Q } (L2.start N vs) H) : FnC P w K mg base (L2.CX P w) (k + 1) f fd ps sp := by
  obtain ⟨oc, od, kV, doc, pm, an, cdv, ct, osl, rfl, lk, hcd⟩ := F.ex
  refine ⟨len, fun A outer s H args us vs Q E hr e0 hb r hsp => ?_⟩
  have hl := len _ _ _ _ hsp
  have KX : K.In s.heap := e0.mod.kin.keeps fun b o e => (e0.bs b o e).1
  have lim : s.heap.NoLimit := e0.mod.nolimit.keeps fun b o e => (e0.bs b o e).1
  have hkind : ∀ y ∈ ps.zip us, (defScope st).names.lookup y.1 = some .local ∨ ((defScope st).names.lookup y.1 = some .cell ∧ ((cellsFrom (s.heap.objs.size + 1) (defScope st).names []).lookup y.1).isSome = true) := fun ⟨n, v⟩ hy => by
    rcases S.par n (List.of_mem_zip hy).1 with q | q
    · exact .inl q
    · exact .inr ⟨q, PySem.W.cellsFrom_some _ _ _ (.inl q)⟩
  refine codeAny_call_function hr.depth (KX _ _ lk) rfl S.co S.gen rfl (PySem.W.codeRec_of KX hcd) (hb _ _ _ _ ?_)
  refine wpAny_newFunctionEnv_cells S.kind hkind fun env he s1 x => ?_
  subst he
  refine ⟨lim.keeps x.toInCall.keep, codeAny_func ?_⟩
  obtain ⟨t, ht, hq⟩ := hbody cdv A outer s H vs Q E (hr.deeper _) hsp
  have I : Inv (cxC (L2.CX P w) P w K mg base N qual (defScope st) f cdv A outer s H E) [] (L2.start N vs) H s1 := inv_startC S e0 hl r x
  refine wpAny_mono (ht.run [] s1 (L2.start N vs) H _ I hq) (fun fl s' hs => ?_) fun e s' hs => hs
  have fin : ∀ {σ' : L2.St} {H' : Hp} {v : V} {u : Value}, Inv (cxC (L2.CX P w) P w K mg base N qual (defScope st) f cdv A outer s H E) [] σ' H' s' → RelV v u → Q v H' → CE outer P w H s Q u s' :=
    fun {σ' H' v u} J rv q => ⟨v, H', J.os, J.bare, J.base, J.hok, rv, q⟩
  cases fl with
  | ret u =>
    obtain ⟨v, σ', H', J, rv, q⟩ := hs
    exact fin J rv q
  | next =>
    obtain ⟨σ', H', J, q⟩ := hs
    exact fin (v := V.non) (u := Value.none) J rfl q
  | brk =>
    obtain ⟨_, _, _, q⟩ := hs
    exact False.elim q
  | cont =>
    obtain ⟨_, _, _, q⟩ := hs
    exact False.elim q
section
variable {X : Cx} {CXt : CXT} {k : Nat} {f : Addr} {fd : FuncData} {ps : List Str} {sp : Sp} {E : L2.St → XK} {x : Str} {q pos : Pos} {e : Expr} {es : List Expr} {t : TA}
end
end L2
end

noncomputable section
/-! M31: results that hold instances, while lists are borrowed. -/
namespace G
open PySem PySem.Spec PyProof.Rows L2 PySem.W
def TI (o : HO) : Prop := (∃ xs, o = .tup xs) ∨ ∃ C dx fs, o = .ins C dx fs
class ImmI (α : Type) [d : Dat α] : Prop where
  immI : ∀ {C : GCtx} {F H : Hp} {v : V} {x : α}, (∀ a o, H a = some o → TI o → F a = some o) → d.rep C H v x → d.rep C F v x
theorem Reps.immI {α : Type} {d : Dat α} [i : @ImmI α d] {C : GCtx} {F H : Hp} (t : ∀ a o, H a = some o → TI o → F a = some o) : ∀ {vs : List V} {xs : List α}, Reps d C H vs xs → Reps d C F vs xs
  | [], [], _ => trivial
  | _ :: _, _ :: _, h => ⟨i.immI t h.1, Reps.immI t h.2⟩
  | [], _ :: _, h => h.elim
  | _ :: _, [], h => h.elim
instance (priority := low) immI_of {α : Type} {d : Dat α} [i : @Imm α d] : @ImmI α d := @ImmI.mk α d fun t r => i.imm (fun a xs h => t a _ h (.inl ⟨xs, rfl⟩)) r
instance immITup {α : Type} {d : Dat α} [i : @ImmI α d] : @ImmI (Tup α) (dTup (d := d)) := @ImmI.mk _ (dTup (d := d)) fun t ⟨a, vs, e, h, r⟩ => ⟨a, vs, e, h.imp (fun h => t a _ h (.inl ⟨vs, rfl⟩)) id, Reps.immI t r⟩
instance immIPair {α β : Type} {d1 : Dat α} {d2 : Dat β} [i1 : @ImmI α d1] [i2 : @ImmI β d2] : @ImmI (α × β) (dPair (d1 := d1) (d2 := d2)) := @ImmI.mk _ (dPair (d1 := d1) (d2 := d2)) fun t ⟨a, v1, v2, e, h, r1, r2⟩ => ⟨a, v1, v2, e, h.imp (fun h => t a _ h (.inl ⟨_, rfl⟩)) id, i1.immI t r1, i2.immI t r2⟩
instance immIOb2 {α β : Type} {d1 : Dat α} {d2 : Dat β} [i1 : @ImmI α d1] [i2 : @ImmI β d2] {C0 : Addr} {f1 f2 : Str} : @ImmI (Ob2 α β) (dOb2 (d1 := d1) (d2 := d2) C0 f1 f2) :=
  @ImmI.mk _ (dOb2 (d1 := d1) (d2 := d2) C0 f1 f2) fun t ⟨p, dx, v1, v2, e, h, r1, r2⟩ => ⟨p, dx, v1, v2, e, t p _ h (.inr ⟨_, _, _, rfl⟩), i1.immI t r1, i2.immI t r2⟩
/-- mixed data without lists -/
@[reducible] def dMixI {β : Type} (d : Dat β) : Dat (Mix β) := ⟨fun C F v x => match x with
  | .inl y => d.rep C F v y
  | .inr u => noL u = true ∧ DU C F u v, fun {C F F' v x} s h => match x, h with
  | .inl _, h => d.mono s h
  | .inr _, h => ⟨h.1, DU.mono s _ _ h.2⟩⟩
instance immIMix {β : Type} {d : Dat β} [i : @ImmI β d] : @ImmI (Mix β) (dMixI d) := @ImmI.mk _ (dMixI d) fun {C F H v x} t r => match x, r with
  | .inl _, r => i.immI t r
  | .inr u, r => ⟨r.1, DU.imm (fun a xs h => t a _ h (.inl ⟨xs, rfl⟩)) u v r.1 r.2⟩
section
variable {α β γ : Type} {d : Dat α} {d2 : Dat β}
end
/-- what is owned holds no instance -/
class NoIns {α : Type} {d : Dat α} (od : OD α) : Prop where
  no : ∀ {C : GCtx} {F : Hp} {v : V} {x : α} {L : LO}, od.orep C F v x L → ∀ p ∈ L, ¬ ∃ C dx fs, p.2 = .ins C dx fs
instance noList {α : Type} {d : Dat α} : NoIns (oList (d := d)) := ⟨fun ⟨a, vs, e, h, r⟩ p hp => by
  subst h
  rw [List.mem_singleton] at hp
  subst hp
  rintro ⟨_, _, _, z⟩
  cases z⟩
section
variable {tx : XC → Addr} {Y : YC} {Γ : List Cell} {te : TE} {α β : Type} {d : Dat α} {d2 : Dat β}
end
end G
end

noncomputable section
/-! M32: a dict of the top, int keys, texts. -/
namespace L2
open PySem PySem.Spec PyProof.Rows
/-- what stands in such a dict -/
inductive KEnt : List DictEntry → List (Int × Str) → Prop where
  | nil : KEnt [] []
  | cons {es : List DictEntry} {kvs : List (Int × Str)} (k : Int) (z : Str) (t t2 : Tok) (h : Int) (hh : h = hashInt k) (r : KEnt es kvs) : KEnt (⟨h, .int k t, .str z t2⟩ :: es) ((k, z) :: kvs)
theorem KEnt.keys {P : Program} {w : World} : ∀ {es : List DictEntry} {kvs : List (Int × Str)}, KEnt es kvs → ∀ e ∈ es, ∃ k, (intKind P w).is k e.key = true ∧ e.hash = (intKind P w).hash k
  | _, _, .nil => fun e he => by cases he
  | _, _, .cons k z t t2 h hh r => fun e he => by
    rcases List.mem_cons.mp he with rfl | he
    · exact ⟨k, by show Value.isInt k (.int k t) = true; exact beq_self_eq_true k, hh⟩
    · exact r.keys e he
theorem KEnt.find {P : Program} {w : World} : ∀ {es : List DictEntry} {kvs : List (Int × Str)} {k : Int} {z : Str}, KEnt es kvs → kvs.lookup k = some z → ∃ t, (es.find? fun e => (intKind P w).is k e.key).map (·.val) = some (.str z t)
  | _, _, _, _, .nil, h => by cases h
  | _, _, k0, z0, .cons k z t t2 h hh r, hl => by
    rw [List.lookup_cons] at hl
    rw [List.find?_cons]
    have e : (intKind P w).is k0 (.int k t) = (k0 == k) := by
      show Value.isInt k0 (.int k t) = _
      show (k == k0) = (k0 == k)
      exact BEq.comm
    rw [e]
    cases hk : (k0 == k) with
    | true =>
      rw [hk] at hl
      cases hl
      exact ⟨t2, rfl⟩
    | false =>
      rw [hk] at hl
      exact r.find hl
section
variable {X : Cx}
end
end L2
namespace G
open PySem PySem.Spec PyProof.Rows L2 PySem.W
section
variable {tx : XC → Addr} {Y : YC} {Γ : List Cell} {tb : TE}
end
end G
end

noncomputable section
/-! M33: slices of tuples, list(t) of a tuple of unlike data. -/
namespace G
open PySem PySem.Spec PyProof.Rows L2 PySem.W
section
variable {tx : XC → Addr} {Y : YC} {Γ : List Cell} {te : TE} {α β γ : Type} {d1 : Dat α} {d2 : Dat β} {d3 : Dat γ}
/-! d.get(k, ..) -/
variable {d : Dat α} {ta tb tc : TE}
/-! walks over computed tuples -/
end
instance oimOb4 {α β γ δ : Type} {d1 : Dat α} {d2 : Dat β} {d3 : Dat γ} {d4 : Dat δ} [i1 : @Imm α d1] [i2 : @Imm β d2] {o3 : @OD γ d3} {o4 : @OD δ d4} [i3 : @OIm γ d3 o3] [i4 : @OIm δ d4 o4] {C0 : Addr} {f1 f2 f3 f4 : Str} :
    @OIm (Ob4 α β γ δ) (dOb4 (d1 := d1) (d2 := d2) (d3 := d3) (d4 := d4) C0 f1 f2 f3 f4) (oOb4 (d1 := d1) (d2 := d2) (d3 := d3) (d4 := d4) C0 f1 f2 f3 f4 o3 o4) :=
  @OIm.mk _ (dOb4 (d1 := d1) (d2 := d2) (d3 := d3) (d4 := d4) C0 f1 f2 f3 f4) (oOb4 (d1 := d1) (d2 := d2) (d3 := d3) (d4 := d4) C0 f1 f2 f3 f4 o3 o4) (fun t ⟨p, dx, v1, v2, v3, v4, L3, L4, e, h, r1, r2, r3, r4⟩ => ⟨p, dx, v1, v2, v3, v4, L3, L4, e, h, i1.imm t r1, i2.imm t r2, i3.oimm t r3, i4.oimm t r4⟩)
end G
end

set_option maxRecDepth 40000
noncomputable section
/-! M34: plain data whose lists are owned; xs.pop(i) as a statement; xs.count(n); len(set(xs)). -/
namespace G
open PySem PySem.Spec PyProof.Rows L2 PySem.W
mutual
def OUr (C : GCtx) (F : Hp) : PyData → V → LO → Prop
  | .none, v, L => v = .non ∧ L = []
  | .bool b, v, L => v = .bl b ∧ L = []
  | .int i, v, L => v = .int i ∧ L = []
  | .str s, v, L => v = .str s ∧ L = []
  | .list ds, v, L => ∃ a vs L', v = .ref a ∧ L = (a, .lst vs) :: L' ∧ OUrs C F ds vs L'
  | .tuple ds, v, L => ∃ a vs, v = .ref a ∧ TpA C.K F a vs ∧ OUrs C F ds vs L
  | .dict _, _, _ => False
def OUrs (C : GCtx) (F : Hp) : List PyData → List V → LO → Prop
  | [], [], L => L = []
  | d :: ds, v :: vs, L => ∃ L1 L2, L = L1 ++ L2 ∧ OUr C F d v L1 ∧ OUrs C F ds vs L2
  | [], _ :: _, _ => False
  | _ :: _, [], _ => False
end
mutual
theorem OUr.mono {C : GCtx} {F F' : Hp} (s : Same F F') : ∀ (x : PyData) (v : V) (L : LO), OUr C F x v L → OUr C F' x v L
  | .none, _, _, h => h
  | .bool _, _, _, h => h
  | .int _, _, _, h => h
  | .str _, _, _, h => h
  | .list ds, _, _, ⟨a, vs, L', e, e2, r⟩ => ⟨a, vs, L', e, e2, OUrs.mono s ds vs L' r⟩
  | .tuple ds, _, L, ⟨a, vs, e, h, r⟩ => ⟨a, vs, e, h.mono s, OUrs.mono s ds vs L r⟩
  | .dict _, _, _, h => h.elim
theorem OUrs.mono {C : GCtx} {F F' : Hp} (s : Same F F') : ∀ (xs : List PyData) (vs : List V) (L : LO), OUrs C F xs vs L → OUrs C F' xs vs L
  | [], [], _, h => h
  | d :: ds, v :: vs, _, ⟨L1, L2, e, h1, h2⟩ => ⟨L1, L2, e, OUr.mono s d v L1 h1, OUrs.mono s ds vs L2 h2⟩
  | [], _ :: _, _, h => h.elim
  | _ :: _, [], _, h => h.elim
end
mutual
theorem OUr.view {C : GCtx} {F H : Hp} (s : Same F H) : ∀ (x : PyData) (v : V) (L : LO), OUr C F x v L → (∀ p ∈ L, H p.1 = some p.2) → DU C H x v
  | .none, _, _, h, _ => h.1
  | .bool _, _, _, h, _ => h.1
  | .int _, _, _, h, _ => h.1
  | .str _, _, _, h, _ => h.1
  | .list ds, _, _, ⟨a, vs, L', e, e2, r⟩, k => ⟨a, vs, e, .inl (k (a, .lst vs) (by rw [e2]; exact List.mem_cons_self)), OUrs.view s ds vs L' r fun p hp => k p (by rw [e2]; exact List.mem_cons_of_mem _ hp)⟩
  | .tuple ds, _, L, ⟨a, vs, e, h, r⟩, k => ⟨a, vs, e, h.mono s, OUrs.view s ds vs L r k⟩
  | .dict _, _, _, h, _ => h.elim
theorem OUrs.view {C : GCtx} {F H : Hp} (s : Same F H) : ∀ (xs : List PyData) (vs : List V) (L : LO), OUrs C F xs vs L → (∀ p ∈ L, H p.1 = some p.2) → DUs C H xs vs
  | [], [], _, _, _ => trivial
  | d :: ds, v :: vs, _, ⟨L1, L2, e, h1, h2⟩, k => ⟨OUr.view s d v L1 h1 fun p hp => k p (by rw [e]; exact List.mem_append_left _ hp), OUrs.view s ds vs L2 h2 fun p hp => k p (by rw [e]; exact List.mem_append_right _ hp)⟩
  | [], _ :: _, _, h, _ => h.elim
  | _ :: _, [], _, h, _ => h.elim
end
mutual
theorem OUr.noL {C : GCtx} {F : Hp} : ∀ (x : PyData) (v : V), G.noL x = true → DU C F x v → OUr C F x v []
  | .none, _, _, h => ⟨h, rfl⟩
  | .bool _, _, _, h => ⟨h, rfl⟩
  | .int _, _, _, h => ⟨h, rfl⟩
  | .str _, _, _, h => ⟨h, rfl⟩
  | .list _, _, n, _ => by cases n
  | .tuple ds, v, n, ⟨a, vs, e, h, r⟩ => ⟨a, vs, e, h, OUrs.noL ds vs n r⟩
  | .dict _, _, _, h => h.elim
theorem OUrs.noL {C : GCtx} {F : Hp} : ∀ (xs : List PyData) (vs : List V), noLs xs = true → DUs C F xs vs → OUrs C F xs vs []
  | [], [], _, _ => rfl
  | d :: ds, v :: vs, n, h => by
    have n2 : (G.noL d && noLs ds) = true := n
    rw [Bool.and_eq_true] at n2
    exact ⟨[], [], rfl, OUr.noL d v n2.1 h.1, OUrs.noL ds vs n2.2 h.2⟩
  | [], _ :: _, _, h => h.elim
  | _ :: _, [], _, h => h.elim
end
theorem OUrs.at {C : GCtx} {F : Hp} : ∀ {xs : List PyData} {vs : List V} {L : LO} {i : Nat} {x : PyData}, OUrs C F xs vs L → xs[i]? = some x → ∃ v L1 Li L2, vs[i]? = some v ∧ L = L1 ++ Li ++ L2 ∧ OUr C F x v Li ∧ ∀ F' x' Li', Same F F' → OUr C F' x' v Li' → OUrs C F' (xs.set i x') vs (L1 ++ Li' ++ L2)
  | [], [], _, i, _, _, e => by cases i <;> cases e
  | y :: xs, v :: vs, L, 0, x, ⟨L1, L2, e, h1, h2⟩, hx => by
    cases (Option.some.inj hx : y = x)
    exact ⟨v, [], L1, L2, rfl, by simpa using e, h1, fun F' x' Li' s h => ⟨Li', L2, by simp, h, OUrs.mono s _ _ _ h2⟩⟩
  | y :: xs, v :: vs, L, i + 1, x, ⟨L1, L2, e, h1, h2⟩, hx => by
    obtain ⟨w, M1, Mi, M2, e1, e2, h3, f⟩ := OUrs.at (i := i) h2 hx
    exact ⟨w, L1 ++ M1, Mi, M2, e1, by rw [e, e2]; simp [List.append_assoc], h3, fun F' x' Li' s h => ⟨L1, M1 ++ Li' ++ M2, by simp [List.append_assoc], OUr.mono s _ _ _ h1, f F' x' Li' s h⟩⟩
  | [], _ :: _, _, _, _, h, _ => h.elim
  | _ :: _, [], _, _, _, h, _ => h.elim
theorem OUrs.len {C : GCtx} {F : Hp} : ∀ {xs : List PyData} {vs : List V} {L : LO}, OUrs C F xs vs L → vs.length = xs.length
  | [], [], _, _ => rfl
  | _ :: _, _ :: _, _, ⟨_, _, _, _, h2⟩ => by simp [OUrs.len h2]
  | [], _ :: _, _, h => h.elim
  | _ :: _, [], _, h => h.elim
theorem OUrs.append {C : GCtx} {F : Hp} {y : PyData} {w : V} {M : LO} (g : OUr C F y w M) : ∀ {xs : List PyData} {vs : List V} {L : LO}, OUrs C F xs vs L → OUrs C F (xs ++ [y]) (vs ++ [w]) (L ++ M)
  | [], [], _, h => by
    cases (show _ = [] from h)
    exact ⟨M, [], by simp, g, rfl⟩
  | _ :: _, _ :: _, _, ⟨L1, L2, e, h1, h2⟩ => ⟨L1, L2 ++ M, by rw [e, List.append_assoc], h1, OUrs.append g h2⟩
  | [], _ :: _, _, h => h.elim
  | _ :: _, [], _, h => h.elim
/-- plain data, its lists owned -/
@[reducible] def oU : @OD PyData dU := @OD.mk PyData dU (fun C F v x L => OUr C F x v L) (fun s h => OUr.mono s _ _ _ h) (fun h s k => OUr.view s _ _ _ h k)
section
variable {tx : XC → Addr} {Y : YC} {Γ : List Cell} {te ta tb : TE} {α τ : Type} {d : Dat α} {rest : TS} {js : List Nat} {K : Kt τ}
/-! x[k].append(y), x such data -/
/-! xs.pop(i), its answer dropped -/
/-! xs.count(n) of ints -/
end
/-! len(set(xs)) -/
end G
namespace L2
open PySem PySem.Spec PyProof.Rows
section
variable {X : Cx}
end
end L2
namespace G
open PySem PySem.Spec PyProof.Rows L2 PySem.W
section
variable {tx : XC → Addr} {Y : YC} {Γ : List Cell} {ta : TE}
end
end G
end
namespace G
open PySem L2
/-! plain data within pairs -/
instance datU : Dat PyData := dU
instance udU : @UD PyData dU := ⟨fun x => x, fun h => h⟩
end G

/-! M35: try .. except (A, B): suite; try .. except A: suite (without a name). -/
noncomputable section
namespace L2
open PySem PySem.Spec PyProof.Rows
section
variable {X : Cx} {x1 x2 : Str} {c1 c2 : Value} {body suite : List Stmt} {b₀ : Stmt} {np1 np2 tpos pos pos' : Pos} {tb : WX → TS} {ts : Addr → Value → Option Addr → TS} {Wout : WX}
end
end L2
namespace L2
open PySem PySem.Spec PyProof.Rows
section
variable {X : Cx} {x x1 x2 : Str} {c c1 c2 : Value} {body suite : List Stmt} {b₀ : Stmt} {np np1 np2 tpos pos pos' : Pos} {tb : WX → TS} {ts : Addr → Value → Option Addr → TS} {Wout : WX}
end
end L2
namespace G
open PySem PySem.Spec PyProof.Rows L2 PySem.W
section
variable {Y : YC} {Γ : List Cell} {k : Ks}
end
end G
end

/-! M36: xs.index(y) for data. -/
noncomputable section
namespace G
open PySem PySem.Spec PyProof.Rows L2 PySem.W
/-- the data's equality needs no text -/
class DL (α : Type) {d : Dat α} [de : @DE α d] : Prop where
  lay0 : ∀ x, (de.toD x).canLay0 = true
instance dlInt : @DL Int dInt deInt := @DL.mk _ _ deInt fun _ => by simp [DE.toD, PyData.canLay0]
instance dlBool : @DL Bool dBool deBool := @DL.mk _ _ deBool fun _ => by simp [DE.toD, PyData.canLay0]
theorem dlAll {α : Type} {d : Dat α} [de : @DE α d] [dl : @DL α d de] : ∀ xs : List α, PyData.canLayAll0 (xs.map de.toD) = true
  | [] => by simp [PyData.canLayAll0]
  | x :: xs => by simp [PyData.canLayAll0, dl.lay0, dlAll xs]
instance dlList {α : Type} {d : Dat α} [de : @DE α d] [dl : @DL α d de] : @DL (List α) dList deList := @DL.mk _ _ deList fun x => by
  show PyData.canLay0 (.list (x.map de.toD)) = true
  simp [PyData.canLay0, dlAll x]
instance dlPair {α β : Type} {d1 : Dat α} {d2 : Dat β} [de1 : @DE α d1] [de2 : @DE β d2] [dl1 : @DL α d1 de1] [dl2 : @DL β d2 de2] : @DL (α × β) dPair dePair := @DL.mk _ _ dePair fun x => by
  show PyData.canLay0 (.tuple [de1.toD x.1, de2.toD x.2]) = true
  simp [PyData.canLay0, PyData.canLayAll0, dl1.lay0, dl2.lay0]
instance dlT4 {α β γ δ : Type} {d1 : Dat α} {d2 : Dat β} {d3 : Dat γ} {d4 : Dat δ} [de1 : @DE α d1] [de2 : @DE β d2] [de3 : @DE γ d3] [de4 : @DE δ d4] [dl1 : @DL α d1 de1] [dl2 : @DL β d2 de2] [dl3 : @DL γ d3 de3] [dl4 : @DL δ d4 de4] : @DL (T4 α β γ δ) dT4 deT4 := @DL.mk _ _ deT4 fun x => by
  show PyData.canLay0 (.tuple [de1.toD x.a, de2.toD x.b, de3.toD x.c, de4.toD x.d]) = true
  simp [PyData.canLay0, PyData.canLayAll0, dl1.lay0, dl2.lay0, dl3.lay0, dl4.lay0]
/-- the first place of an equal one -/
def M.idx {α : Type} [DecidableEq α] (xs : List α) (y : α) : M Int := M.ofO ((xs.findIdx? fun z => decide (z = y)).map fun j => (j : Int))
section
variable {tx : XC → Addr} {Y : YC} {Γ : List Cell} {ta tb : TE} {α : Type} {d : Dat α}
end
/-! a slice of an owned list -/
section
variable {tx : XC → Addr} {Y : YC} {Γ : List Cell} {te : TE} {α : Type} {d : Dat α}
end
end G
namespace L2
open PySem PySem.Spec PyProof.Rows
section
variable {X : Cx}
end
end L2
end

/-! M37: own operators: a + b of two instances of one class, ~a, -a, and the call of an instance. -/
namespace G
open PySem PySem.Spec PyProof.Rows L2 PySem.W
section
variable {prog : Program} {w : World} {A : Around} {E : Value → Shared → Prop} {s : Shared} {K : Frag} {x y C L f : Addr} {h₀ : Heap} {m : Str → Option Value} {ox oy : Obj} {od od2 : Option Obj}
end
theorem relV_back {v : V} {u : Value} {Q : Value → Shared → Prop} {s : Shared} (r : RelV v u) (q : Q u s) : PySem.W.CmpBack Q u s := by
  unfold PySem.W.CmpBack
  cases v with
  | non => obtain rfl := (show u = Value.none from r); exact q
  | bl b => obtain rfl := (show u = Value.bool b from r); exact q
  | int i => obtain ⟨t, rfl⟩ := r; exact q
  | str x => obtain ⟨t, rfl⟩ := r; exact q
  | byt b => obtain ⟨t, rfl⟩ := r; exact q
  | flt b => obtain ⟨t, rfl⟩ := r; exact q
  | ref a => obtain rfl := (show u = Value.ref a from r); exact q
  | ty n => obtain rfl := (show u = Value.type n from r); exact q
section
variable {X : Cx} {CXt : CXT} {k : Nat} {f C : Addr} {fd : FuncData} {ps : List Str} {sp : Sp} {E : L2.St → XK} {pos : Pos} {e o fe a b : Expr} {es : List Expr} {ta tb : TE} {t : TA}
end
/-! readings -/
section
variable {Y : YC} {Γ : List Cell} {ta tb : TE} {tl : TA} {α β γ : Type} {d : Dat α} {d2 : Dat β} {d1 : Dat γ} {C0 : Addr} {ns ns2 : List Str} {sp : Sp} {E : L2.St → XK} {BA : List V → Hp → Prop}
end
section
variable {tx : XC → Addr} {Y : YC} {Γ : List Cell} {β : Type} {d : Dat β} {t0 t1 t2 t3 : TE} {sp : Sp} {E : L2.St → XK}
variable {α0 α1 α2 α3 : Type} {d0 : Dat α0} {d1 : Dat α1} {d2 : Dat α2} {d3 : Dat α3} {m0 : M α0} {m1 : M α1} {m2 : M α2} {m3 : M α3} {C0 : Addr} {ns ns2 : List Str}
end
section
variable {tx : XC → Addr} {Y : YC} {Γ : List Cell} {t : TT} {τ : Type} {t1 t2 rest : TS} {js : List Nat} {K : Kt τ}
end
end G

noncomputable section
/-! M38: for x in xs: x.append(n). -/
namespace G
open PySem PySem.Spec PyProof.Rows L2 PySem.W
section
variable {tx : XC → Addr} {Y : YC} {Γ : List Cell} {te : TE} {τ : Type} {rest : TS} {js : List Nat} {K : Kt τ} {k : Ks}
end
end G
end

noncomputable section
/-! M39: {key: value for ..} with values that are not owned, over lists, tuples and enumerate. -/
namespace G
open PySem PySem.Spec PyProof.Rows L2 PySem.W
section
variable {tx : XC → Addr} {Y : YC} {Γ : List Cell} {te ta tb tl tk tv : TE} {t u tt : TT} {α β : Type} {d : Dat α} {d2 : Dat β} {g : TG}
end
end G
end

noncomputable section
/-! M40: list(o), o an instance whose __iter__ gives an iterator over a tuple that it holds. -/
namespace G
open PySem PySem.Spec PyProof.Rows L2 PySem.W
section
variable {X : Cx} {pins : List (Addr × Obj)} {σ : L2.St} {A1 : Around}
end
section
variable {X : Cx} {CXt : CXT} {k : Nat} {g C : Addr} {fd : FuncData} {ps : List Str} {f : Str}
end
section
variable {tx : XC → Addr} {Y : YC} {Γ : List Cell} {te : TE} {α β : Type} {d : Dat α} {d2 : Dat β} {C0 : Addr} {f : Str}
end
end G
end

noncomputable section
/-! M41: sorted(xs) for data: whole numbers, pairs, lists of these. -/
namespace G
open PySem PySem.Spec PyProof.Rows L2 PySem.W
/-- data that stand in one order -/
class DO (α : Type) {d : Dat α} [de : @DE α d] : Prop where
  alk : ∀ x y, alike (de.toD x) (de.toD y) = true
/-- what sorted asks of the items -/
class DSo (α : Type) {d : Dat α} [de : @DE α d] : Prop where
  so : (∀ x, ∃ y r, de.toD x = .tuple (y :: r)) ∨ ∀ x, de.toD x ≠ .none ∧ ∀ xs, de.toD x ≠ .tuple xs
instance doInt : @DO Int dInt deInt := @DO.mk _ _ deInt fun x y => rfl
theorem alk_all {α : Type} {d : Dat α} [de : @DE α d] [o : @DO α d de] : ∀ xs ys : List α, alikeAll (xs.map de.toD) (ys.map de.toD) = true
  | [], [] => by simp [alikeAll]
  | [], _ :: _ => by simp [alikeAll]
  | _ :: _, [] => by simp [alikeAll]
  | x :: xs, y :: ys => by
    simp only [List.map_cons, alikeAll, Bool.and_eq_true]
    exact ⟨o.alk x y, alk_all xs ys⟩
instance doList {α : Type} {d : Dat α} [de : @DE α d] [o : @DO α d de] : @DO (List α) dList deList := @DO.mk _ _ deList fun x y => by
  show alike (.list (x.map de.toD)) (.list (y.map de.toD)) = true
  rw [alike]
  exact alk_all x y
instance doPair {α β : Type} {d1 : Dat α} {d2 : Dat β} [de1 : @DE α d1] [de2 : @DE β d2] [o1 : @DO α d1 de1] [o2 : @DO β d2 de2] : @DO (α × β) dPair dePair := @DO.mk _ _ dePair fun x y => by
  show alike (.tuple [de1.toD x.1, de2.toD x.2]) (.tuple [de1.toD y.1, de2.toD y.2]) = true
  rw [alike]
  simp [alikeAll, o1.alk, o2.alk]
instance soList {α : Type} {d : Dat α} [de : @DE α d] : @DSo (List α) dList deList := @DSo.mk _ _ deList (.inr fun x => And.intro (fun z => nomatch (show PyData.list (x.map de.toD) = .none from z)) fun xs z => nomatch (show PyData.list (x.map de.toD) = .tuple xs from z))
instance soPair {α β : Type} {d1 : Dat α} {d2 : Dat β} [de1 : @DE α d1] [de2 : @DE β d2] : @DSo (α × β) dPair dePair := @DSo.mk _ _ dePair (.inl fun x => ⟨_, _, rfl⟩)
/-- x before y -/
class OLt (α : Type) where
  lt : α → α → Bool
instance ltInt : OLt Int := ⟨fun a b => decide (a < b)⟩
instance ltPair {α β : Type} [DecidableEq α] [OLt α] [OLt β] : OLt (α × β) := ⟨fun x y => if x.1 = y.1 then OLt.lt x.2 y.2 else OLt.lt x.1 y.1⟩
def ltL {α : Type} [DecidableEq α] [OLt α] : List α → List α → Bool
  | _, [] => false
  | [], _ :: _ => true
  | x :: xs, y :: ys => if x = y then ltL xs ys else OLt.lt x y
instance ltList {α : Type} [DecidableEq α] [OLt α] : OLt (List α) := ⟨ltL⟩
class DLt (α : Type) {d : Dat α} [de : @DE α d] [OLt α] : Prop where
  is : ∀ x y, dataLt (de.toD x) (de.toD y) = OLt.lt x y
instance dltInt : @DLt Int dInt deInt _ := @DLt.mk _ _ deInt _ fun x y => dataLt_int x y
theorem dataLt_self (d : PyData) : dataLt d d = false := by
  unfold dataLt
  exact lex_irrefl _
instance dltPair {α β : Type} [DecidableEq α] [OLt α] [OLt β] {d1 : Dat α} {d2 : Dat β} [de1 : @DE α d1] [de2 : @DE β d2] [o1 : @DO α d1 de1] [o2 : @DO β d2 de2] [l1 : @DLt α d1 de1 _] [l2 : @DLt β d2 de2 _] : @DLt (α × β) dPair dePair _ := @DLt.mk _ _ dePair _ fun x y => by
  show dataLt (.tuple [de1.toD x.1, de2.toD x.2]) (.tuple [de1.toD y.1, de2.toD y.2]) = if x.1 = y.1 then OLt.lt x.2 y.2 else OLt.lt x.1 y.1
  rw [dataLt_pair (o1.alk _ _) (o2.alk _ _)]
  by_cases h1 : x.1 = y.1
  · rw [if_pos ((de1.eqv _ _).mpr h1), if_pos h1]
    by_cases h2 : x.2 = y.2
    · rw [if_pos ((de2.eqv _ _).mpr h2), ← l2.is, h2, dataLt_self]
    · rw [if_neg (fun z => h2 ((de2.eqv _ _).mp z)), l2.is]
  · rw [if_neg (fun z => h1 ((de1.eqv _ _).mp z)), if_neg h1, l1.is]
theorem dlt_all {α : Type} [DecidableEq α] [OLt α] {d : Dat α} [de : @DE α d] [o : @DO α d de] [l : @DLt α d de _] : ∀ xs ys : List α, PyProof.Rows.lexLt itemOrd (keyToksAll (xs.map de.toD)) (keyToksAll (ys.map de.toD)) = ltL xs ys
  | [], [] => by
    simp only [List.map_nil, keyToksAll, ltL]
    rfl
  | [], y :: ys => by
    simp only [List.map_nil, List.map_cons, keyToksAll, ltL]
    rw [lex_diff (O := itemOrd) (fun z => by cases z)]
    rfl
  | x :: xs, [] => by
    simp only [List.map_nil, List.map_cons, keyToksAll, ltL]
    rw [lex_diff (O := itemOrd) (fun z => by cases z)]
    rfl
  | x :: xs, y :: ys => by
    rw [List.map_cons, List.map_cons, dataLt_cons (o.alk x y), ltL]
    by_cases h : x = y
    · rw [if_pos ((de.eqv _ _).mpr h), if_pos h]
      exact dlt_all xs ys
    · rw [if_neg (fun z => h ((de.eqv _ _).mp z)), if_neg h, l.is]
instance dltList {α : Type} [DecidableEq α] [OLt α] {d : Dat α} [de : @DE α d] [o : @DO α d de] [l : @DLt α d de _] : @DLt (List α) dList deList _ := @DLt.mk _ _ deList _ fun x y => by
  show dataLt (.list (x.map de.toD)) (.list (y.map de.toD)) = ltL x y
  rw [dataLt_list]
  exact dlt_all x y
section
variable {X : Cx}
end
section
variable {tx : XC → Addr} {Y : YC} {Γ : List Cell} {te : TE} {α : Type} {d : Dat α}
end
end G
end

noncomputable section
/-! M42: a, b = xs.pop(), a, b = xs.pop(i). -/
namespace G
open PySem PySem.Spec PyProof.Rows L2 PySem.W
section
variable {tx : XC → Addr} {Y : YC} {Γ : List Cell} {ta te : TE} {α τ : Type} {d : Dat α} {g : TG} {rest : TS} {js : List Nat} {K : Kt τ} {k : Ks}
end
end G
end

noncomputable section
/-! M43: a static method by an instance. -/
namespace G
open PySem PySem.Spec PyProof.Rows L2 PySem.W
section
variable {X : Cx} {CXt : CXT} {k : Nat} {C g p : Addr} {fd : FuncData} {ps : List Str} {sp : Sp} {E : L2.St → XK} {m : Str} {apos pos : Pos} {e o : Expr} {es : List Expr} {ta : TE} {t : TA} {pl : Sem Bool}
end
section
variable {Y : YC} {Γ : List Cell} {ta : TE} {tl : TA} {α β : Type} {d : Dat α} {d2 : Dat β} {C0 : Addr} {m : Str} {ns : List Str} {sp : Sp} {E : L2.St → XK}
end
section
variable {tx : XC → Addr} {Y : YC} {Γ : List Cell} {β : Type} {d : Dat β} {t0 t1 t2 : TE} {sp : Sp} {E : L2.St → XK}
variable {α0 α1 α2 : Type} {d0 : Dat α0} {d1 : Dat α1} {d2 : Dat α2} {m0 : M α0} {m1 : M α1} {m2 : M α2} {C0 : Addr} {mn : Str} {ns : List Str}
end
end G
end

noncomputable section
/-! M44: xs += (a, b) (a list and a pair of its items' type). -/
namespace G
open PySem PySem.Spec PyProof.Rows L2 PySem.W PySem.AutoSeq1
section
variable {Y : YC} {Γ : List Cell} {te : TE} {α : Type} {d : Dat α} {k : Ks}
end
section
variable {tx : XC → Addr} {Y : YC} {Γ : List Cell} {te : TE} {α τ : Type} {d : Dat α} {K : Kt τ} {rest : TS} {js : List Nat}
end
end G

noncomputable section
/-! M45: return sorted(xs) of a name whose list owns its parts. -/
namespace G
open PySem PySem.Spec PyProof.Rows L2 PySem.W
section
variable {α : Type} {d : Dat α}
variable {Y : YC} {Γ : List Cell} {k : Ks}
end
section
variable {tx : XC → Addr} {Y : YC} {Γ : List Cell} {α : Type} {d : Dat α} {rest : TS} {js : List Nat}
end
end G

noncomputable section
/-! M46: triples that own their parts; str + str. -/
namespace G
open PySem PySem.Spec PyProof.Rows L2 PySem.W
@[reducible] def oT3 {α β γ : Type} {d1 : Dat α} {d2 : Dat β} {d3 : Dat γ} (od1 : @OD α d1) (od2 : @OD β d2) (od3 : @OD γ d3) : @OD (T3 α β γ) (dT3 (d1 := d1) (d2 := d2) (d3 := d3)) := @OD.mk (T3 α β γ) (dT3 (d1 := d1) (d2 := d2) (d3 := d3))
  (fun C F v x L => ∃ a v1 v2 v3 L1 L2 L3, v = .ref a ∧ L = L1 ++ (L2 ++ L3) ∧ TpA C.K F a [v1, v2, v3] ∧ od1.orep C F v1 x.a L1 ∧ od2.orep C F v2 x.b L2 ∧ od3.orep C F v3 x.c L3)
  (fun s ⟨a, v1, v2, v3, L1, L2, L3, e, h, t, r1, r2, r3⟩ => ⟨a, v1, v2, v3, L1, L2, L3, e, h, t.mono s, od1.omono s r1, od2.omono s r2, od3.omono s r3⟩)
  (fun ⟨a, v1, v2, v3, L1, L2, L3, e, h, t, r1, r2, r3⟩ s k => ⟨a, v1, v2, v3, e, t.mono s, od1.view r1 s fun p hp => k p (by rw [h]; simp [hp]), od2.view r2 s fun p hp => k p (by rw [h]; simp [hp]), od3.view r3 s fun p hp => k p (by rw [h]; simp [hp])⟩)
section
variable {Y : YC} {Γ : List Cell} {k : Ks} {te : TE} {α β γ : Type} {d1 : Dat α} {d2 : Dat β} {d3 : Dat γ}
end
section
variable {tx : XC → Addr} {Y : YC} {Γ : List Cell} {te ta tb : TE} {α β γ τ : Type} {d1 : Dat α} {d2 : Dat β} {d3 : Dat γ} {rest : TS} {js : List Nat} {K : Kt τ}
/-! texts -/
def rCatS : R2 := fun x y H Q => ∃ i j, x = V.str i ∧ y = V.str j ∧ i.length + j.length ≤ PySem.sizeLine ∧ Q (.str (i ++ j)) H
theorem op_catS {X : Cx} : OpR X (binaryOp .Add) rCatS := op_add_str
theorem w_catS {k : Str → Prop} (h : W Y ta Γ dStr fun x => W Y tb Γ dStr fun y => x.length + y.length ≤ PySem.sizeLine ∧ k (x ++ y)) : W Y (tOp rCatS ta tb) Γ dStr k := fun e F σ H s Q q => h e F σ H s _ fun v1 F1 H1 x h1 g1 r1 => h1 e F1 σ H1 (s.grow g1) _ fun v2 F2 H2 y ⟨hl, ky⟩ g2 r2 => by
  cases (show v1 = .str x from r1)
  cases (show v2 = .str y from r2)
  exact ⟨x, y, rfl, rfl, hl, q _ F2 H2 _ ky (g1.trans g2) rfl⟩
def M.catS (x y : Str) : M Str := M.asrt (x.length + y.length ≤ PySem.sizeLine) (.ok (x ++ y))
theorem we_catS {m1 m2 : M Str} (h : We tx Y ta Γ dStr m1) (h2 : We tx Y tb Γ dStr m2) : We tx Y (tOp rCatS ta tb) Γ dStr (m1 >>= fun x => m2 >>= fun y => M.catS x y) := fun nb xk =>
  w_catS (h.k nb xk fun x e nb2 xk2 => h2.k nb2 xk2 fun y e2 nb3 xk3 => by
    have hl := M.asrt_nb nb3
    exact ⟨hl, by rw [e]; simp only [M.ok_bind]; rw [e2]; exact M.asrt_pos hl⟩)
end
section
variable {tx : XC → Addr} {Y : YC} {Γ : List Cell} {ta : TE}
end
section
variable {tx : XC → Addr} {Y : YC} {Γ : List Cell} {tl : TA} {g : TG} {α β τ : Type} {d : Dat α} {K : Kt τ} {rest : TS} {js : List Nat}
end
end G

noncomputable section
/-! M47: [*xs, y, z]; tuple(xs) as a pair. -/
namespace G
open PySem PySem.Spec PyProof.Rows L2 PySem.W ClX StX
section
variable {tx : XC → Addr} {Y : YC} {Γ : List Cell} {te ta tb : TE} {α : Type} {d : Dat α}
end
end G

noncomputable section
/-! M48: while (x := ..) != y; t3[:2]. -/
namespace G
open PySem PySem.Spec PyProof.Rows L2 PySem.W
section
variable {tx : XC → Addr} {Y : YC} {Γ : List Cell} {te : TE} {i j : Nat} {α β γ : Type} {d1 : Dat α} {d2 : Dat β} {d3 : Dat γ}
variable {d : Dat α} {τ : Type} {rest : TS} {js : List Nat} {K : Kt τ} {k : Ks}
end
end G
end

noncomputable section
/-! M49: None or owned data; return (a, xs) as plain data, xs owned; list(x) of plain data. -/
namespace G
open PySem PySem.Spec PyProof.Rows L2 PySem.W
/-- None, or what is owned -/
@[reducible] def oOpt {α : Type} {d : Dat α} (od : @OD α d) : @OD (Opt α) (dOpt (d := d)) := @OD.mk (Opt α) (dOpt (d := d))
  (fun C F v x L => match x with | .none => v = .non ∧ L = [] | .some y => od.orep C F v y L)
  (fun {C F F' v x L} s h => match x, h with | .none, h => h | .some _, h => od.omono s h)
  (fun {C F H v x L} h s k => match x, h with | .none, h => h.1 | .some _, h => od.view h s k)
section
variable {tx : XC → Addr} {Y : YC} {Γ : List Cell} {te ta : TE} {i : Nat} {α β τ : Type} {d : Dat α} {od : @OD α d} {ts rest : TS} {js : List Nat} {K : Kt τ}
end
/-! plain data without lists, plain data whose lists are owned -/
mutual
theorem OUr.imm {C : GCtx} {F H : Hp} (t : ∀ a xs, H a = some (.tup xs) → F a = some (.tup xs)) : ∀ (x : PyData) (v : V) (L : LO), OUr C H x v L → OUr C F x v L
  | .none, _, _, h => h
  | .bool _, _, _, h => h
  | .int _, _, _, h => h
  | .str _, _, _, h => h
  | .list ds, _, _, ⟨a, vs, L', e, e2, r⟩ => ⟨a, vs, L', e, e2, OUrs.imm t ds vs L' r⟩
  | .tuple ds, _, L, ⟨a, vs, e, h, r⟩ => ⟨a, vs, e, h.imp (t a vs) id, OUrs.imm t ds vs L r⟩
  | .dict _, _, _, h => h.elim
theorem OUrs.imm {C : GCtx} {F H : Hp} (t : ∀ a xs, H a = some (.tup xs) → F a = some (.tup xs)) : ∀ (xs : List PyData) (vs : List V) (L : LO), OUrs C H xs vs L → OUrs C F xs vs L
  | [], [], _, h => h
  | d :: ds, v :: vs, _, ⟨L1, L2, e, h1, h2⟩ => ⟨L1, L2, e, OUr.imm t d v L1 h1, OUrs.imm t ds vs L2 h2⟩
  | [], _ :: _, _, h => h.elim
  | _ :: _, [], _, h => h.elim
end
instance oimU : @OIm PyData dU oU := @OIm.mk PyData dU oU fun t h => OUr.imm t _ _ _ h
instance udUI : @UD PyData dUI := @UD.mk PyData dUI (fun x => x) fun h => h.2
instance ouUI : @OU PyData dUI := @OU.mk PyData dUI (fun x => if noL x then some x else none) fun {C F v x y} h r => by
  split at h
  · cases h
    exact ⟨by assumption, r⟩
  · cases h
section
variable {tx : XC → Addr} {Y : YC} {Γ : List Cell} {te : TE}
end
end G
end

noncomputable section
/-! M50: xs < ys of data in one order. -/
namespace G
open PySem PySem.Spec PyProof.Rows L2 PySem.W
section
variable {X : Cx} {K : PySem.W.Frag}
end
section
variable {tx : XC → Addr} {Y : YC} {Γ : List Cell} {ta tb : TE} {α : Type} {d : Dat α}
end
end G
end

noncomputable section
/-! M51: None or data, read as the data. -/
namespace G
open PySem PySem.Spec PyProof.Rows L2 PySem.W
section
variable {tx : XC → Addr} {Y : YC} {Γ : List Cell} {te : TE} {α : Type} {d : Dat α}
end
end G
end

noncomputable section
/-! M52: list(xs) of an owned name whose items are frozen. -/
namespace G
open PySem PySem.Spec PyProof.Rows L2 PySem.W
section
variable {tx : XC → Addr} {Y : YC} {Γ : List Cell} {i : Nat} {α : Type} {d : Dat α}
end
end G
end

noncomputable section
/-! M53: xs.clear(). -/
namespace G
open PySem PySem.Spec PyProof.Rows L2 PySem.W
end G
end

noncomputable section
/-! M54: dicts keyed by tuples of ints. -/
namespace G
open PySem PySem.Spec PyProof.Rows L2 PySem.W
/-- what may be a key: tuples of ints -/
class KeyD (κ : Type) (d : Dat κ) where
  key : κ → List L2.Key
  inj : ∀ {a b : κ}, key a = key b → a = b
  rd : ∀ {C : GCtx} {F : Hp} {v : V} {k : κ}, d.rep C F v k → ∃ a, v = .ref a ∧ F a = some (.tup ((key k).map kV))
theorem tpa_int {K : Frag} {F : Hp} {a : Addr} {xs : List V} (h : TpA K F a xs) (n : xs = [] ∨ ∃ i, V.int i ∈ xs) : F a = some (.tup xs) := by
  rcases h with h | ⟨_, h1, h2⟩
  · exact h
  · rcases n with n | ⟨i, n⟩
    · exact absurd n h1
    · obtain ⟨t, z⟩ := h2 _ n
      cases z
instance kyPair : KeyD (Int × Int) (dPair (d1 := dInt) (d2 := dInt)) where
  key p := [Sum.inl p.1, Sum.inl p.2]
  inj := by
    intro a b h
    simp only [List.cons.injEq, Sum.inl.injEq, and_true] at h
    exact Prod.ext h.1 h.2
  rd := fun ⟨a, v1, v2, e, h, r1, r2⟩ => by
    cases (show v1 = .int _ from r1)
    cases (show v2 = .int _ from r2)
    exact ⟨a, e, tpa_int h (.inr ⟨_, List.mem_cons_self⟩)⟩
instance kyTup : KeyD (Tup Int) (dTup (d := dInt)) where
  key t := t.l.map Sum.inl
  inj := by
    intro a b h
    obtain ⟨a⟩ := a
    obtain ⟨b⟩ := b
    have inj : ∀ {a b : List Int}, a.map (Sum.inl : Int → L2.Key) = b.map Sum.inl → a = b := by
      intro a
      induction a with
      | nil => intro b h; cases b with | nil => rfl | cons => cases h
      | cons x a ih =>
        intro b h
        cases b with
        | nil => cases h
        | cons y b =>
          rw [List.map_cons, List.map_cons, List.cons.injEq] at h
          rw [Sum.inl.inj h.1, ih h.2]
    have e : a = b := inj h
    subst e
    rfl
  rd := fun {C F v k} ⟨a, vs, e, h, r⟩ => by
    have e2 := r.ints
    subst e2
    refine ⟨a, e, ?_⟩
    have : ((k.l.map Sum.inl : List L2.Key)).map kV = k.l.map V.int := by rw [List.map_map]; rfl
    rw [this]
    refine tpa_int h ?_
    cases k.l with
    | nil => exact .inl rfl
    | cons i l => exact .inr ⟨i, by simp⟩
structure DK (κ α : Type) where
  kv : List (κ × α)
def lkD {κ α : Type} [DecidableEq κ] : List (κ × α) → κ → Option α
  | [], _ => none
  | p :: r, k => if p.1 = k then some p.2 else lkD r k
def putD {κ α : Type} [DecidableEq κ] (kv : List (κ × α)) (k : κ) (v : α) : List (κ × α) := if (lkD kv k).isSome then kv.map (fun p => if p.1 = k then (p.1, v) else p) else kv ++ [(k, v)]
def TReps {κ β : Type} {dk : Dat κ} (ky : KeyD κ dk) (d : Dat β) (C : GCtx) (F : Hp) : List (List L2.Key × V) → List (κ × β) → Prop
  | [], [] => True
  | p :: ps, x :: xs => p.1 = ky.key x.1 ∧ d.rep C F p.2 x.2 ∧ TReps ky d C F ps xs
  | _, _ => False
section
variable {κ α : Type} [DecidableEq κ] {dk : Dat κ} {ky : KeyD κ dk} {d : Dat α} {C : GCtx} {F F' : Hp}
theorem TReps.mono (s : Same F F') : ∀ {ps : List (List L2.Key × V)} {xs : List (κ × α)}, TReps ky d C F ps xs → TReps ky d C F' ps xs
  | [], [], _ => trivial
  | _ :: _, _ :: _, h => ⟨h.1, d.mono s h.2.1, TReps.mono s h.2.2⟩
  | [], _ :: _, h => h.elim
  | _ :: _, [], h => h.elim
theorem TReps.len : ∀ {ps : List (List L2.Key × V)} {xs : List (κ × α)}, TReps ky d C F ps xs → ps.length = xs.length
  | [], [], _ => rfl
  | _ :: _, _ :: _, h => by simp [TReps.len h.2.2]
  | [], _ :: _, h => h.elim
  | _ :: _, [], h => h.elim
theorem TReps.look : ∀ {ps : List (List L2.Key × V)} {xs : List (κ × α)} (k : κ), TReps ky d C F ps xs → (∀ x, lkD xs k = some x → ∃ v, valV ps (ky.key k) = some v ∧ d.rep C F v x) ∧ (lkD xs k = none → valV ps (ky.key k) = none)
  | [], [], k, _ => ⟨fun _ h => (nomatch h), fun _ => rfl⟩
  | p :: ps, x :: xs, k, h => by
    rw [valV_cons, h.1]
    unfold lkD
    by_cases hk : x.1 = k
    · rw [if_pos hk, if_pos (by rw [hk])]
      exact ⟨fun y e => ⟨p.2, rfl, by cases e; exact h.2.1⟩, fun z => (nomatch z)⟩
    · rw [if_neg hk, if_neg (fun z => hk (ky.inj z))]
      exact TReps.look k h.2.2
  | [], _ :: _, _, h => h.elim
  | _ :: _, [], _, h => h.elim
theorem TReps.snoc {v : V} {x : α} {k : κ} : ∀ {ps : List (List L2.Key × V)} {xs : List (κ × α)}, TReps ky d C F ps xs → d.rep C F v x → TReps ky d C F (ps ++ [(ky.key k, v)]) (xs ++ [(k, x)])
  | [], [], _, h => ⟨rfl, h, trivial⟩
  | _ :: _, _ :: _, h, h2 => ⟨h.1, h.2.1, TReps.snoc h.2.2 h2⟩
  | [], _ :: _, h, _ => h.elim
  | _ :: _, [], h, _ => h.elim
theorem TReps.map_put {v : V} {x : α} {k : κ} : ∀ {ps : List (List L2.Key × V)} {xs : List (κ × α)}, TReps ky d C F ps xs → d.rep C F v x → TReps ky d C F (ps.map fun kv => if kv.1 = ky.key k then (kv.1, v) else kv) (xs.map fun p => if p.1 = k then (p.1, x) else p)
  | [], [], _, _ => trivial
  | p :: ps, y :: ys, h, h2 => by
    rw [List.map_cons, List.map_cons]
    refine ⟨?_, ?_, TReps.map_put h.2.2 h2⟩
    · by_cases e : y.1 = k
      · rw [if_pos e, if_pos (by rw [h.1, e])]; exact h.1
      · rw [if_neg e, if_neg (fun z => e (ky.inj (h.1.symm.trans z)))]; exact h.1
    · by_cases e : y.1 = k
      · rw [if_pos e, if_pos (by rw [h.1, e])]; exact h2
      · rw [if_neg e, if_neg (fun z => e (ky.inj (h.1.symm.trans z)))]; exact h.2.1
  | [], _ :: _, h, _ => h.elim
  | _ :: _, [], h, _ => h.elim
theorem TReps.put {ps : List (List L2.Key × V)} {xs : List (κ × α)} {v : V} {x : α} {k : κ} (h : TReps ky d C F ps xs) (hv : d.rep C F v x) : TReps ky d C F (putK ps (ky.key k) v) (putD xs k x) := by
  unfold putK putD
  have l := h.look k
  rw [valV_any]
  cases q : lkD xs k with
  | none =>
    rw [l.2 q, if_neg (fun z => (nomatch z)), if_neg (fun z => (nomatch z))]
    exact h.snoc hv
  | some y =>
    obtain ⟨w, hw, _⟩ := l.1 y q
    rw [hw]
    exact h.map_put hv
end
@[reducible] def dDK {κ α : Type} {dk : Dat κ} {ky : KeyD κ dk} {d : Dat α} : Dat (DK κ α) := ⟨fun C F v x => ∃ a ps, v = .ref a ∧ Rd F a (.dT ps) ∧ TReps ky d C F ps x.kv, fun {C F F' v x} m ⟨a, ps, e, h, r⟩ => ⟨a, ps, e, Same.rd m h, by
  have mono : ∀ {ps : List (List L2.Key × V)} {xs : List (κ × α)}, TReps ky d C F ps xs → TReps ky d C F' ps xs := by
    intro ps
    induction ps with
    | nil => intro xs h; cases xs with | nil => trivial | cons => exact h.elim
    | cons p ps ih => intro xs h; cases xs with | nil => exact h.elim | cons x xs => exact ⟨h.1, d.mono m h.2.1, ih h.2.2⟩
  exact mono r⟩⟩
theorem TReps.mono' {κ α : Type} {dk : Dat κ} {ky : KeyD κ dk} {d : Dat α} {C : GCtx} {F F' : Hp} (m : Same F F') : ∀ {ps : List (List L2.Key × V)} {xs : List (κ × α)}, TReps ky d C F ps xs → TReps ky d C F' ps xs
  | [], [], _ => trivial
  | _ :: _, _ :: _, h => ⟨h.1, d.mono m h.2.1, TReps.mono' m h.2.2⟩
  | [], _ :: _, h => h.elim
  | _ :: _, [], h => h.elim
@[reducible] def oDK {κ α : Type} {dk : Dat κ} {ky : KeyD κ dk} {d : Dat α} : @OD (DK κ α) (dDK (ky := ky) (d := d)) := @OD.mk (DK κ α) (dDK (ky := ky) (d := d))
  (fun C F v x L => ∃ a ps, v = .ref a ∧ L = [(a, .dT ps)] ∧ TReps ky d C F ps x.kv)
  (fun m ⟨a, ps, e, h, r⟩ => ⟨a, ps, e, h, TReps.mono' m r⟩)
  (fun ⟨a, ps, e, h, r⟩ m k => ⟨a, ps, e, .inl (k (a, .dT ps) (by rw [h]; exact List.mem_cons_self)), TReps.mono' m r⟩)
section
variable {tx : XC → Addr} {Y : YC} {Γ : List Cell} {te ta tb tc tk tv : TE} {κ α τ : Type} [DecidableEq κ] {dk : Dat κ} {ky : KeyD κ dk} {d : Dat α} {js : List Nat} {rest : TS} {K : Kt τ}
end
end G
end

noncomputable section
/-! M55: lists of owned lists: comprehensions that make them, pop, +=; an item that has been handed in and is still read. -/
namespace G
open PySem PySem.Spec PyProof.Rows L2 PySem.W
section
variable {α β τ : Type} {d : Dat α} {d2 : Dat β} {tx : XC → Addr} {Y : YC} {Γ : List Cell} {ti : _root_.L2.TI} {tt : TT} {te ta tl : TE} {g : TG} {vs : List Nat} {rest ts : TS} {js : List Nat} {K : Kt τ} {k : Ks}
/-! comprehensions -/
/-! two slots at once -/
theorem State.two {α1 : Type} {d1 : Dat α1} {e : En} {F : Hp} {σ : _root_.L2.St} {H : Hp} {od1 : @OD α1 d1} {x1 : α1} {c2 : Cell} {j1 j2 : Nat} {p1 : Option V} (s : State Y e F σ H Γ) (hn : j1 ≠ j2) (h1 : Γ[j1]? = some (.own d1 od1 p1 x1)) (h2 : Γ[j2]? = some c2) :
    ∃ v1 o2 L1 L2 rest, σ[j1]? = some (some v1) ∧ σ[j2]? = some o2 ∧ (∀ u, p1 = some u → v1 = u) ∧ od1.orep Y.g F v1 x1 L1 ∧ CellOk Y.g F o2 c2 L2 ∧ Wk e F ((L1 ++ L2) ++ rest) H ∧
    ∀ F' H' o2' c1' c2' L1' L2', Same F F' → Wk e F' ((L1' ++ L2') ++ rest) H' → CellOk Y.g F' (some v1) c1' L1' → CellOk Y.g F' o2' c2' L2' → State Y e F' (σ.set j2 o2') H' ((Γ.set j1 c1').set j2 c2') := by
  obtain ⟨hx, L, k, sl⟩ := s
  obtain ⟨o, A1, Li1, A2, e1, e2, ⟨v1, rfl, hp1, r1⟩, f⟩ := sl.get h1
  subst e2
  have sl1 := f F (some v1) .no [] (Same.refl _) rfl
  rw [set_same e1] at sl1
  have h2' : (Γ.set j1 .no)[j2]? = some c2 := by rw [List.getElem?_set_ne hn]; exact h2
  obtain ⟨o2, B1, Li2, B2, e3, e4, r2, g⟩ := sl1.get h2'
  have e4' : A1 ++ A2 = B1 ++ Li2 ++ B2 := by simpa using e4
  have pm : (A1 ++ Li1 ++ A2).Perm ((Li1 ++ Li2) ++ (B1 ++ B2)) := by
    have q1 : (A1 ++ Li1 ++ A2).Perm (Li1 ++ (A1 ++ A2)) := by
      have := (List.perm_append_comm (l₁ := A1) (l₂ := Li1)).append_right A2
      simpa [List.append_assoc] using this
    have q2 : (B1 ++ Li2 ++ B2).Perm (Li2 ++ (B1 ++ B2)) := by
      have := (List.perm_append_comm (l₁ := B1) (l₂ := Li2)).append_right B2
      simpa [List.append_assoc] using this
    rw [e4'] at q1
    have q3 := q1.trans (q2.append_left Li1)
    simpa [List.append_assoc] using q3
  refine ⟨v1, o2, Li1, Li2, B1 ++ B2, e1, e3, hp1, r1, r2, k.perm2 pm, fun F' H' o2' c1' c2' L1' L2' s' k' r1' r2' => ?_⟩
  have sl2 := g F' o2' c2' L2' s' r2'
  have hlt : j1 < Γ.length := (List.getElem?_eq_some_iff.mp h1).1
  have h3 : ((Γ.set j1 .no).set j2 c2')[j1]? = some .no := by
    rw [List.getElem?_set_ne (Ne.symm hn), List.getElem?_set_self hlt]
  obtain ⟨o3, C1, Lz, C2, e5, e6, hz, q⟩ := sl2.get h3
  have hz : Lz = [] := hz
  subst hz
  have sl3 := q F' (some v1) c1' L1' (Same.refl _) r1'
  rw [set_same (by rw [List.getElem?_set_ne (Ne.symm hn)]; exact e1)] at sl3
  have eΓ : ((Γ.set j1 .no).set j2 c2').set j1 c1' = (Γ.set j1 c1').set j2 c2' := by
    rw [set_set_ne hn, List.set_set, set_set_ne (Ne.symm hn)]
  rw [eΓ] at sl3
  refine ⟨hx, C1 ++ L1' ++ C2, k'.perm2 ?_, sl3⟩
  have e6' : B1 ++ L2' ++ B2 = C1 ++ C2 := by simpa using e6
  have q2' : (L2' ++ (B1 ++ B2)).Perm (B1 ++ L2' ++ B2) := by
    have := (List.perm_append_comm (l₁ := B1) (l₂ := L2')).append_right B2
    simpa [List.append_assoc] using this.symm
  rw [e6'] at q2'
  have q3 : (L1' ++ (C1 ++ C2)).Perm (C1 ++ L1' ++ C2) := by
    have := (List.perm_append_comm (l₁ := C1) (l₂ := L1')).append_right C2
    simpa [List.append_assoc] using this.symm
  have := (q2'.append_left L1').trans q3
  simpa [List.append_assoc] using this
/-! an item handed in and still read: the list with its item v0, which stands for y -/
@[reducible] def dRaw (v0 : V) : Dat Unit := ⟨fun _ _ v _ => v = v0, fun _ h => h⟩
@[reducible] def dAl (v0 : V) (y : α) : Dat (List α) := ⟨fun C F v xs => (dList (d := d)).rep C F v xs ∧ d.rep C F v0 y, fun s h => ⟨(dList (d := d)).mono s h.1, d.mono s h.2⟩⟩
theorem Reps.zipV {C : GCtx} {F : Hp} {v : V} {y : α} : ∀ {vs : List V} {xs : List α}, Reps d C F vs xs → (v, y) ∈ vs.zip xs → d.rep C F v y
  | [], [], _, h => nomatch h
  | u :: us, x :: xs, r, h => by
    rw [List.zip_cons_cons] at h
    rcases List.mem_cons.mp h with e | h
    · cases e; exact r.1
    · exact Reps.zipV r.2 h
  | [], _ :: _, r, _ => r.elim
  | _ :: _, [], r, _ => r.elim
@[reducible] def oAl (v0 : V) (y : α) (od : @OD α d) : @OD (List α) (dAl (d := d) v0 y) := @OD.mk (List α) (dAl (d := d) v0 y)
  (fun C F v xs L => ∃ a vs L', v = .ref a ∧ L = (a, .lst vs) :: L' ∧ OReps od C F vs xs L' ∧ (v0, y) ∈ vs.zip xs)
  (fun m ⟨a, vs, L', e, h, r, z⟩ => ⟨a, vs, L', e, h, r.mono m, z⟩)
  (fun ⟨a, vs, L', e, h, r, z⟩ m k => by
    have r2 := r.view m fun p hp => k p (by rw [h]; exact List.mem_cons_of_mem _ hp)
    exact ⟨(oDeep od).view ⟨a, vs, L', e, h, r⟩ m k, Reps.zipV r2 z⟩)
end
end G
end

noncomputable section
/-! M56: defs that change one of their arguments and hand it back within their result: frozen for the caller from then on. -/
namespace G
open PySem PySem.Spec PyProof.Rows L2 PySem.W
@[reducible] def dPin {α : Type} (u : V) (d : Dat α) : Dat α := ⟨fun C F v x => v = u ∧ d.rep C F v x, fun s h => ⟨h.1, d.mono s h.2⟩⟩
section
variable {tx : XC → Addr} {Y : YC} {Γ : List Cell} {te : TE} {tl : TA} {α β τ σ : Type} {d : Dat α} {rest ts : TS} {js : List Nat} {K : Kt τ} {k : Ks}
end
end G
end

noncomputable section
/-! M57: pairs of owned things hold nothing that is frozen for a borrowing alone. -/
namespace G
open PySem PySem.Spec PyProof.Rows L2 PySem.W
instance mPair {α β : Type} {d1 : Dat α} {d2 : Dat β} {od1 : @OD α d1} {od2 : @OD β d2} [i1 : @OIm α d1 od1] [i2 : @OIm β d2 od2] : @OIm (α × β) (dPair (d1 := d1) (d2 := d2)) (oPair od1 od2) :=
  @OIm.mk (α × β) (dPair (d1 := d1) (d2 := d2)) (oPair od1 od2) fun t ⟨a, v1, v2, L1, L2, e, h, tp, r1, r2⟩ => ⟨a, v1, v2, L1, L2, e, h, tp.imp (t a _) id, i1.oimm t r1, i2.oimm t r2⟩
end G
end

noncomputable section
/-! M58: {key: value for ..} with keys tuples of ints (the walk follows the library's own for other keys, the store's step is the tuples' one). -/
namespace G
open PySem PySem.Spec PyProof.Rows L2 PySem.W
section
variable {X : Cx}
end
section
variable {tx : XC → Addr} {Y : YC} {Γ : List Cell} {te ta tb tl tk tv : TE} {t u tt : TT} {α β κ : Type} [DecidableEq κ] {dk : Dat κ} {ky : KeyD κ dk} {d : Dat α} {d2 : Dat β} {g : TG}
end
end G
end

noncomputable section
/-! M59: an owned dict keyed by tuples is locked for good (nothing writes it any more); walks over its keys. -/
namespace G
open PySem PySem.Spec PyProof.Rows L2 PySem.W
class KeyB (κ : Type) (dk : Dat κ) (ky : KeyD κ dk) where
  bk : ∀ {C : GCtx} {F : Hp} {q : Addr} {k : κ}, F q = some (.tup ((ky.key k).map kV)) → dk.rep C F (.ref q) k
instance kbPair : KeyB (Int × Int) (dPair (d1 := dInt) (d2 := dInt)) kyPair where
  bk := fun {C F q k} h => ⟨q, .int k.1, .int k.2, rfl, .inl h, rfl, rfl⟩
theorem TReps.getV {κ β : Type} {dk : Dat κ} {ky : KeyD κ dk} {d : Dat β} {C : GCtx} {F : Hp} {k : List L2.Key} {v : V} : ∀ {ps : List (List L2.Key × V)} {xs : List (κ × β)} {i : Nat}, TReps ky d C F ps xs → ps[i]? = some (k, v) → ∃ x, xs[i]? = some x ∧ k = ky.key x.1 ∧ d.rep C F v x.2
  | [], [], i, _, e => by simp at e
  | p :: ps, x :: xs, 0, h, e => ⟨x, rfl, by cases (Option.some.inj e); exact h.1, by cases (Option.some.inj e); exact h.2.1⟩
  | p :: ps, x :: xs, i + 1, h, e => TReps.getV (i := i) h.2.2 e
  | [], _ :: _, _, h, _ => h.elim
  | _ :: _, [], _, h, _ => h.elim
/-- a locked dict -/
@[reducible] def dKL {κ α : Type} {dk : Dat κ} {ky : KeyD κ dk} {d : Dat α} : Dat (DK κ α) := ⟨fun C F v x => ∃ a o ps, v = .ref a ∧ F a = some (.frz o (.dT ps)) ∧ TReps ky d C F ps x.kv, fun m ⟨a, o, ps, e, h, r⟩ => ⟨a, o, ps, e, m _ _ h, TReps.mono' m r⟩⟩
@[reducible] def oKL {κ α : Type} {dk : Dat κ} {ky : KeyD κ dk} {d : Dat α} : @OD (DK κ α) (dKL (ky := ky) (d := d)) := @OD.mk (DK κ α) (dKL (ky := ky) (d := d))
  (fun C F v x L => ∃ a o ps, v = .ref a ∧ L = [(a, .frz o (.dT ps))] ∧ TReps ky d C F ps x.kv)
  (fun m ⟨a, o, ps, e, h, r⟩ => ⟨a, o, ps, e, h, TReps.mono' m r⟩)
  (fun ⟨a, o, ps, e, h, r⟩ m k => ⟨a, o, ps, e, k (a, .frz o (.dT ps)) (by rw [h]; exact List.mem_cons_self), TReps.mono' m r⟩)
section
variable {tx : XC → Addr} {Y : YC} {Γ : List Cell} {te ta tb tl tk tv : TE} {t : TS} {κ α τ : Type} {dk : Dat κ} {ky : KeyD κ dk} {d : Dat α} {js : List Nat} {rest : TS} {K : Kt τ}
variable [kb : KeyB κ dk ky]
end
end G
end

noncomputable section
/-! M60: a return of three owned locals. -/
namespace G
open PySem PySem.Spec PyProof.Rows L2 PySem.W
section
variable {Y : YC} {Γ : List Cell} {k : Ks} {α β γ : Type} {d1 : Dat α} {d2 : Dat β} {d3 : Dat γ}
end
section
variable {tx : XC → Addr} {Y : YC} {Γ : List Cell} {α β γ : Type} {d1 : Dat α} {d2 : Dat β} {d3 : Dat γ} {rest : TS} {js : List Nat}
end
/-! if not f(.., xs, ..) -/
section
variable {tx : XC → Addr} {Y : YC} {Γ : List Cell} {tl : TA} {α τ : Type} {d : Dat α} {K : Kt τ} {rest t1 t2 : TS} {js : List Nat}
end
end G
end

noncomputable section
/-! M61: loops left by a return in defs that change an argument. -/
namespace G
open PySem PySem.Spec PyProof.Rows L2 PySem.W
section
variable {tx : XC → Addr} {Y : YC} {Γ : List Cell} {js : List Nat} {rest ts : TS} {g : TG} {te : TE} {α β τ σ ρ μ : Type} {d : Dat α} {K : Kt τ}
section
variable {js' : List Nat} {cells : σ → List Cell} {s : σ} {rt : ρ → Cell → List Cell → Prop}
end
end
end G
end

noncomputable section
/-! M62: sorted(set(xs)), xs a list of pairs of ints below 64. -/
namespace L2
open PySem PySem.Spec PyProof.Rows
section
variable {X : Cx}
end
end L2
namespace G
open PySem PySem.Spec PyProof.Rows L2 PySem.W
def toP (q : Addr × List Int) : Int × Int := (q.2.getD 0 0, q.2.getD 1 0)
def OkQ (C : GCtx) (F : Hp) (q : Addr × List Int) : Prop := q.2 = [(toP q).1, (toP q).2] ∧ TpA C.K F q.1 [V.int (toP q).1, V.int (toP q).2]
section
variable {tx : XC → Addr} {Y : YC} {Γ : List Cell} {ta : TE}
end
end G
end

noncomputable section
/-! M63: xs[:0:-1]. -/
namespace L2
open PySem PySem.Spec PyProof.Rows
section
variable {X : Cx}
end
end L2
namespace G
open PySem PySem.Spec PyProof.Rows L2 PySem.W
section
variable {tx : XC → Addr} {Y : YC} {Γ : List Cell} {te : TE} {α : Type} {d : Dat α}
end
end G
end

noncomputable section
/-! M64: a return of a new thing and an owned local. -/
namespace G
open PySem PySem.Spec PyProof.Rows L2 PySem.W
section
variable {Y : YC} {Γ : List Cell} {k : Ks} {te : TE} {α β : Type} {d1 : Dat α} {d2 : Dat β}
end
section
variable {tx : XC → Addr} {Y : YC} {Γ : List Cell} {te : TE} {α β : Type} {d1 : Dat α} {d2 : Dat β} {rest : TS} {js : List Nat}
end
end G
end

noncomputable section
/-! M65: max(xs, default=d); len(set(pairs)); d[k] op= v for dicts keyed by tuples; an own dict keyed by tuples read and walked within a comprehension. -/
namespace L2
open PySem PySem.Spec PyProof.Rows
section
variable {prog : Program} {w : World} {A : Around} {E : Value → Shared → Prop} {s : Shared} {l : Addr} {its : List Value} {ns : List Int} {Q : Value → Shared → Prop}
end
section
variable {X : Cx}
end
end L2
namespace G
open PySem PySem.Spec PyProof.Rows L2 PySem.W
/-! ### max with a default -/
section
variable {tx : XC → Addr} {Y : YC} {Γ : List Cell} {ta tb te : TE} {α β τ κ : Type} {d : Dat α} {d2 : Dat β}
/-! ### len(set(pairs)) -/
end
end G
end

noncomputable section
/-! M66: d[k] op= v for dicts keyed by tuples; an own dict keyed by tuples, read and walked within a comprehension (locked meanwhile). -/
namespace L2
open PySem PySem.Spec PyProof.Rows
end L2
namespace G
open PySem PySem.Spec PyProof.Rows L2 PySem.W
section
variable {tx : XC → Addr} {Y : YC} {Γ : List Cell} {ta tb tl te tk tv : TE} {α β τ κ : Type} [DecidableEq κ] {dk : Dat κ} {ky : KeyD κ dk} {d : Dat α} {d2 : Dat β} {js vs : List Nat} {rest : TS} {K : Kt τ}
/-! ### locked for one expression -/
/-! ### a comprehension over the keys -/
theorem comp_turnT {g : TG} {tt : TT} {d : Dat α} {e : En} {F1 : Hp} {σ : _root_.L2.St} {H1 : Hp} {vs : List Nat} {D : Addr} {x : α} {v : V} {I I' : List β → Prop} (s1 : State Y e F1 σ H1 Γ) (hT : Tg g vs)
    (hs : ∀ ys, I ys → A Y g (wipeC Γ vs) d x fun Γ2 => T Y tt Γ2 fun b => (b = true → W Y te Γ2 d2 fun y => ys.length < PySem.sizeLine ∧ I' (ys ++ [y])) ∧ (b = false → I' ys)) {H : Hp} (rx : ∀ F', Same F1 F' → (∀ a xs, H a = some (.tup xs) → F' a = some (.tup xs)) → d.rep Y.g F' v x)
    (h : ∃ F' acc ys, Wk ⟨F1, H1, []⟩ F' [(D, .lst acc)] H ∧ Reps d2 Y.g F' acc ys ∧ I ys) :
    g v (wipe σ vs) H fun σ2 H2 => wipe σ2 vs = wipe σ vs ∧ tt σ2 H2 fun b H3 =>
      if b = true then te σ2 H3 fun y H4 => ∃ acc, H4 D = some (.lst acc) ∧ acc.length < PySem.sizeLine ∧ (∃ F' acc' ys, Wk ⟨F1, H1, []⟩ F' [(D, .lst acc')] (upd H4 D (.lst (acc ++ [y]))) ∧ Reps d2 Y.g F' acc' ys ∧ I' ys) else (∃ F' acc ys, Wk ⟨F1, H1, []⟩ F' [(D, .lst acc)] H3 ∧ Reps d2 Y.g F' acc ys ∧ I' ys) := by
  obtain ⟨F', acc, ys, kw, r, hi⟩ := h
  have st := (s1.growL kw).wipe vs
  have key := hs ys hi e F' _ H v st (rx F' kw.ff kw.tp) (fun σ2 H2 => tt σ2 H2 fun b H3 =>
      if b = true then te σ2 H3 fun y H4 => ∃ acc, H4 D = some (.lst acc) ∧ acc.length < PySem.sizeLine ∧ (∃ F' acc' ys, Wk ⟨F1, H1, []⟩ F' [(D, .lst acc')] (upd H4 D (.lst (acc ++ [y]))) ∧ Reps d2 Y.g F' acc' ys ∧ I' ys) else (∃ F' acc ys, Wk ⟨F1, H1, []⟩ F' [(D, .lst acc)] H3 ∧ Reps d2 Y.g F' acc ys ∧ I' ys)) fun σ2 Γ2 h2 st2 => by
    refine h2 e F' σ2 H st2 _ fun b F3 H3 kb g3 => ?_
    have kw3 := kw.trans0 g3
    cases b with
    | false => exact ⟨F3, acc, ys, kw3, r.mono g3.ff, kb.2 rfl⟩
    | true =>
      refine kb.1 rfl e F3 σ2 H3 (st2.grow g3) _ fun y F4 H4 yv ⟨hl, ky⟩ g4 ry => ?_
      have kw4 := kw3.trans0 g4
      have hD : H4 D = some (.lst acc) := (kw4.ow (D, .lst acc) (by simp)).2.1
      exact ⟨acc, hD, by rw [r.len]; exact hl, F4, acc ++ [y], ys ++ [yv], kw4.put (fun _ z => by cases z), (r.mono (g3.ff.trans g4.ff)).append (Reps.one ry), ky⟩
  have key2 := hT v _ H _ key
  rw [wipe_wipe] at key2
  exact key2
variable [kb : KeyB κ dk ky]
/-! len of an own dict keyed by tuples -/
end
end G
end

noncomputable section
/-! M67: a return of new, owned local, new; for over a list within owned plain data that are changed later. -/
namespace G
open PySem PySem.Spec PyProof.Rows L2 PySem.W
section
variable {Y : YC} {Γ : List Cell} {k : Ks} {te te3 : TE} {α β γ : Type} {d1 : Dat α} {d2 : Dat β} {d3 : Dat γ}
end
section
variable {tx : XC → Addr} {Y : YC} {Γ : List Cell} {te te3 : TE} {α β γ : Type} {d1 : Dat α} {d2 : Dat β} {d3 : Dat γ} {rest : TS} {js : List Nat}
end
mutual
theorem OUr.frz {C : GCtx} {F : Hp} : ∀ (x : PyData) (v : V) (L : LO), G.noL x = true → OUr C F x v L → DU C F x v
  | .none, _, _, _, h => h.1
  | .bool _, _, _, _, h => h.1
  | .int _, _, _, _, h => h.1
  | .str _, _, _, _, h => h.1
  | .list _, _, _, n, _ => by cases n
  | .tuple ds, v, L, n, ⟨a, vs, e, h, r⟩ => ⟨a, vs, e, h, OUrs.frz ds vs L n r⟩
  | .dict _, _, _, _, h => h.elim
theorem OUrs.frz {C : GCtx} {F : Hp} : ∀ (xs : List PyData) (vs : List V) (L : LO), noLs xs = true → OUrs C F xs vs L → DUs C F xs vs
  | [], [], _, _, _ => trivial
  | d :: ds, v :: vs, _, n, ⟨L1, L2, _, h1, h2⟩ => by
    have n2 : (G.noL d && noLs ds) = true := n
    rw [Bool.and_eq_true] at n2
    exact ⟨OUr.frz d v L1 n2.1 h1, OUrs.frz ds vs L2 n2.2 h2⟩
  | [], _ :: _, _, _, h => h.elim
  | _ :: _, [], _, _, h => h.elim
end
section
variable {tx : XC → Addr} {Y : YC} {Γ : List Cell} {α : Type} {d : Dat α} {g : TG} {ts : TS}
end
end G
end

noncomputable section
/-! M68: comprehensions over range(a, b). -/
namespace G
open PySem PySem.Spec PyProof.Rows L2 PySem.W
section
variable {Y : YC} {Γ : List Cell} {β : Type} {d2 : Dat β} {ta tb te : TE} {tt : TT} {g : TG}
end
section
variable {tx : XC → Addr} {Y : YC} {Γ : List Cell} {ta tb : TE}
end
end G

noncomputable section
/-! M69: sorted(d) of a locked dict keyed by tuples; d.get(k, x) of dicts keyed by tuples. -/
namespace L2
open PySem PySem.Spec PyProof.Rows PySem.W
section
variable {X : Cx}
end
end L2
namespace G
open PySem PySem.Spec PyProof.Rows L2 PySem.W
instance kbTup : KeyB (Tup Int) (dTup (d := dInt)) kyTup where
  bk := fun {C F q k} h => ⟨q, k.l.map V.int, rfl, .inl (by
    have : ((KeyD.key (dTup (d := dInt)) k : List L2.Key)).map kV = k.l.map V.int := by
      show (k.l.map Sum.inl).map kV = _
      rw [List.map_map]
      rfl
    rw [this] at h
    exact h), by
      have : ∀ l : List Int, Reps dInt C F (l.map V.int) l := fun l => by
        induction l with
        | nil => trivial
        | cons x l ih => exact ⟨rfl, ih⟩
      exact this k.l⟩
instance ltTup {α : Type} [DecidableEq α] [OLt α] : OLt (Tup α) := ⟨fun x y => ltL x.l y.l⟩
instance doTup {α : Type} {d : Dat α} [de : @DE α d] [o : @DO α d de] : @DO (Tup α) dTup deTup := @DO.mk _ _ deTup fun x y => by
  show alike (.tuple (x.l.map de.toD)) (.tuple (y.l.map de.toD)) = true
  rw [alike]
  exact alk_all x.l y.l
instance dltTup {α : Type} [DecidableEq α] [OLt α] {d : Dat α} [de : @DE α d] [o : @DO α d de] [l : @DLt α d de _] : @DLt (Tup α) dTup deTup _ := @DLt.mk _ _ deTup _ fun x y => by
  show dataLt (.tuple (x.l.map de.toD)) (.tuple (y.l.map de.toD)) = ltL x.l y.l
  rw [dataLt_tuple]
  exact dlt_all x.l y.l
/-- keys that are not empty -/
class KNe (κ : Type) {dk : Dat κ} [de : @DE κ dk] where
  ne : κ → Bool
  is : ∀ k, ne k = true → ∃ y r, de.toD k = .tuple (y :: r)
instance kneTup : @KNe (Tup Int) (dTup (d := dInt)) deTup := @KNe.mk _ _ deTup (fun t => !t.l.isEmpty) fun k h => by
  obtain ⟨l⟩ := k
  cases l with
  | nil => cases h
  | cons x l => exact ⟨_, _, rfl⟩
instance knePair : @KNe (Int × Int) (dPair (d1 := dInt) (d2 := dInt)) dePair := @KNe.mk _ _ dePair (fun _ => true) fun k _ => ⟨_, _, rfl⟩
section
variable {tx : XC → Addr} {Y : YC} {Γ : List Cell} {te ta tb tc : TE} {κ α : Type} [DecidableEq κ] {dk : Dat κ} {ky : KeyD κ dk} {d : Dat α}
/-! d.get(k, x) -/
end
end G
end

noncomputable section
/-! M70: a < b < c < d of whole numbers, as a test. -/
namespace L2
open PySem PySem.Spec PyProof.Rows
section
variable {X : Cx} {a b c d : Expr} {ta tb tc td : TE} {pos : Pos}
end
end L2
namespace G
open PySem PySem.Spec PyProof.Rows L2 PySem.W
section
variable {tx : XC → Addr} {Y : YC} {Γ : List Cell} {ta tb tc td : TE}
end
section
variable {tx : XC → Addr} {Y : YC} {Γ : List Cell} {ta tb tc : TE} {κ α : Type} [DecidableEq κ] {dk : Dat κ} {ky : KeyD κ dk} {d : Dat α}
end
end G
end

noncomputable section
/-! M71: calls with keyword-only arguments f(a, x = .., y = ..) of defs that may raise. -/
namespace L2
open PySem PySem.Spec PyProof.Rows
def tCallNS (n m : Nat) (sp : Sp) (gV : List V → List V → List V) (E : St → XK) (t tk : TA) : TE := fun σ H Q => t σ H fun vs H1 => tk σ H1 fun zs H2 => vs.length = n ∧ zs.length = m ∧ sp (gV vs zs) H2 Q (E σ)
section
variable {X : Cx} {CX : CXT} {k n : Nat} {f : Addr} {fd : FuncData} {ps ks : List Str} {sp : Sp} {E : St → XK} {x : Str} {p pos : Pos} {e : Expr} {es : List Expr} {kws : List Keyword} {t tk : TA} {ta tb tc : TE} {g : List Value → List Value → List Value} {gV : List V → List V → List V}
theorem kw1 : tCallNS 1 1 sp (fun vs zs => vs ++ zs ++ [.non]) E (tCons ta tNil) (tCons tb tNil) = tCallS sp E (tCons ta (tCons tb (tCons (tC .non) tNil))) := by
  funext σ H Q
  simp [tCallNS, tCallS, tCons, tNil, tC]
theorem kw2 : tCallNS 1 1 sp (fun vs zs => vs ++ [.non] ++ zs) E (tCons ta tNil) (tCons tc tNil) = tCallS sp E (tCons ta (tCons (tC .non) (tCons tc tNil))) := by
  funext σ H Q
  simp [tCallNS, tCallS, tCons, tNil, tC]
end
section
variable {K : PySem.W.Frag} {x qual : Str} {st : Stmt} {f : Addr} {fd : FuncData} {ps : List Str}
theorem Fun.kb (F : Fun K x qual st f fd) {D : Addr} (hD : fd.kwdefaults = .ref D) (n : Nat) (ks : List Str) (ms : List (Str × V)) (g : {α : Type} → List α → List α → List α → List α) (hq : ∀ q ∈ ms, ∃ u, PySem.W.nsIn K D q.1 = some (some u) ∧ RelV q.2 u)
    (hrel : ∀ {vs mz zs : List V} {us mv ws : List Value}, Vals vs us → Vals mz mv → Vals zs ws → Vals (g vs mz zs) (g us mv ws))
    (h : ∀ (doc pm : Value) (an : Option Addr) (cdv ct : Value) (us mv ws : List Value), us.length = n → mv.length = ms.length → ws.length = ks.length →
      KwChain D ((ms.map (·.1)).zip mv) (bindArgs (PySem.W.fnOf x qual (defArgs st) (defBody st) (defScope st) .none (.ref D) doc pm an cdv ct) ⟨us, ks.zip ws⟩) (ps.zip (g us mv ws))) :
    ∃ g', KBn K fd ps n ks g' (fun vs zs => g vs (ms.map (·.2)) zs) := by
  obtain ⟨oc, od, kV, doc, pm, an, cdv, ct, osl, rfl, lk, hcd⟩ := F.ex
  have e : kV = .ref D := hD
  subst e
  obtain ⟨mv, hl, rk, hks⟩ := kwd_vals hq
  refine ⟨fun us ws => g us mv ws, ⟨fun s us ws X l1 l2 => ?_, fun r1 r2 => hrel r1 rk r2⟩⟩
  exact BindsTo.of_looks fun M => KwChain.looks X hks (h doc pm an cdv ct us mv ws l1 hl l2)
end
end L2
end

noncomputable section
/-! M72: a triple whose third part may be None, from one where it is not. -/
namespace G
open PySem PySem.Spec PyProof.Rows L2 PySem.W
section
variable {tx : XC → Addr} {Y : YC} {Γ : List Cell} {te : TE} {α β γ : Type} {d1 : Dat α} {d2 : Dat β} {d3 : Dat γ}
end
end G

noncomputable section
/-! M73: xs[i][j] = e and xs[i][j] += e of lists that own lists; f'{i:spec}', str(i), s * n, s.join(xs), len(s). -/
namespace L2
open PySem PySem.Spec PyProof.Rows
section
variable {X : Cx}
end
end L2
namespace G
open PySem PySem.Spec PyProof.Rows L2 PySem.W
section
variable {Y : YC} {Γ : List Cell} {k : Ks} {ta tb te : TE} {α : Type} {d : Dat α}
end
section
variable {tx : XC → Addr} {Y : YC} {Γ : List Cell} {ta tb te : TE} {α τ : Type} {d : Dat α} {rest : TS} {js : List Nat} {K : Kt τ}
/-! texts -/
def M.lenS (x : Str) : M Int := M.asrt (x.length ≤ PySem.sizeLine) (.ok (x.length : Int))
theorem we_lenStr {m : M Str} (h : Re tx Y ta Γ dStr m) : We tx Y (tCB (fun xs H Q => ∃ z, xs = [.str z] ∧ z.length ≤ sizeLine ∧ Q (.int z.length) H) (tCons ta tNil)) Γ dInt (m >>= M.lenS) := fun nb xk e F σ H s Q q => h.k nb xk (k := fun i => m = .ok i ∧ (M.lenS i).nb) (fun i e nb2 _ => ⟨e, nb2⟩) e F σ H s _ fun v F' H' i ⟨hm, nb2⟩ g r => by
  cases (show v = .str i from r)
  have hz := M.asrt_nb nb2
  exact ⟨i, rfl, hz, q _ F' H' _ (by rw [hm]; exact M.asrt_pos hz) g rfl⟩
theorem Reps.strs {C : GCtx} {F : Hp} : ∀ {vs : List V} {xs : List Str}, Reps dStr C F vs xs → vs = xs.map V.str
  | [], [], _ => rfl
  | v :: vs, x :: xs, h => by
    cases (show v = V.str x from h.1)
    rw [Reps.strs h.2]
    rfl
  | [], _ :: _, h => h.elim
  | _ :: _, [], h => h.elim
def M.join (a : Str) (ys : List Str) : M Str := M.asrt ((ys.map (·.length)).sum + ys.length * a.length ≤ 16777216) (.ok (Txt.join a ys))
end
section
variable {α β : Type} {d : Dat α} {tx : XC → Addr} {Y : YC} {Γ : List Cell} {tl : TE}
end
end G
end

noncomputable section
/-! M74: lists whose items are owned or only read (a mark tells which); for r in xs: if r is not None: r.reverse(); r.append(n). -/
namespace G
open PySem PySem.Spec PyProof.Rows L2 PySem.W
/-- an item, and whether it is owned -/
structure Fl (α : Type) where
  x : α
  o : Bool
@[reducible] def dFl {α : Type} (d : Dat α) : Dat (Fl α) := ⟨fun C F v y => d.rep C F v y.x, fun s h => d.mono s h⟩
@[reducible] def oFl {α : Type} {d : Dat α} (od : @OD α d) : @OD (Fl α) (dFl d) := @OD.mk (Fl α) (dFl d)
  (fun C F v y L => (y.o = true ∧ od.orep C F v y.x L) ∨ (y.o = false ∧ L = [] ∧ d.rep C F v y.x))
  (fun s h => h.imp (fun ⟨a, b⟩ => ⟨a, od.omono s b⟩) fun ⟨a, b, c⟩ => ⟨a, b, d.mono s c⟩)
  (fun h s k => h.elim (fun ⟨_, b⟩ => od.view b s k) fun ⟨_, _, c⟩ => d.mono s c)
section
variable {Y : YC} {Γ : List Cell} {k : Ks} {te tb : TE} {α : Type} {d : Dat α}
/-- what the loop makes of an item -/
def Fl.turn (n : Int) (y : Fl (Opt (List Int))) : Fl (Opt (List Int)) := match y.x with
  | .none => y
  | .some xs => ⟨.some (xs.reverse ++ [n]), y.o⟩
end
instance noDeep {α : Type} {d : Dat α} {od : @OD α d} [n : NoIns od] : NoIns (oDeep od) := ⟨fun {C F v x L} ⟨a, vs, L2, h1, h2, r⟩ p hp => by
  subst h2
  rcases List.mem_cons.mp hp with rfl | hp
  · rintro ⟨_, _, _, z⟩
    cases z
  · have go : ∀ (xs : List α) (vs : List V) (L : LO), OReps od C F vs xs L → ∀ p ∈ L, ¬ ∃ C dx fs, p.2 = .ins C dx fs := by
      intro xs
      induction xs with
      | nil =>
        intro vs L r p hp
        cases vs with
        | nil => rw [show L = [] from r] at hp; cases hp
        | cons => exact r.elim
      | cons x xs ih =>
        intro vs L r p hp
        cases vs with
        | nil => exact r.elim
        | cons v vs =>
          obtain ⟨L1, L2, e, h1, h2⟩ := r
          subst e
          rcases List.mem_append.mp hp with hp | hp
          · exact n.no h1 p hp
          · exact ih vs L2 h2 p hp
    exact go _ _ _ r p hp⟩
instance noOpt {α : Type} {d : Dat α} {od : @OD α d} [n : NoIns od] : NoIns (oOpt od) := ⟨fun {C F v x L} h p hp => by
  cases x with
  | none => rw [show L = [] from h.2] at hp; cases hp
  | some y => exact n.no (show od.orep C F v y L from h) p hp⟩
instance noFl {α : Type} {d : Dat α} {od : @OD α d} [n : NoIns od] : NoIns (oFl od) := ⟨fun {C F v x L} h p hp => by
  rcases h with ⟨_, h⟩ | ⟨_, h, _⟩
  · exact n.no h p hp
  · subst h; cases hp⟩
section
variable {tx : XC → Addr} {Y : YC} {Γ : List Cell} {te tb : TE} {α τ : Type} {d : Dat α} {rest : TS} {js : List Nat} {K : Kt τ}
end
end G
end

noncomputable section
/-! M75: a call f(a) of a def with two keyword-only arguments, neither given; x is None for data that is never None. -/
namespace L2
open PySem PySem.Spec PyProof.Rows
section
variable {X : Cx} {CX : CXT} {k : Nat} {f : Addr} {fd : FuncData} {ps : List Str} {sp : Sp} {E : St → XK} {x : Str} {p pos : Pos} {ta : TE}
theorem kw0 : tCallNS 1 0 sp (fun vs zs => vs ++ [.non, .non] ++ zs) E (tCons ta tNil) tNil = tCallS sp E (tCons ta (tCons (tC .non) (tCons (tC .non) tNil))) := by
  funext σ H Q
  simp [tCallNS, tCallS, tCons, tNil, tC]
end
end L2
end

noncomputable section
/-! M76: the truth of an instance by an own __bool__, as a test and by bool(o); bool(t), t a tuple. -/
namespace G
open PySem PySem.Spec PyProof.Rows L2 PySem.W
section
variable {prog : Program} {w : World} {M : Model} {A : Around} {E : Value → Shared → Prop} {s : Shared} {K : Frag} {x C L f : Addr} {h₀ : Heap} {m : Str → Option Value} {ox : Obj} {od : Option Obj}
theorem truthy_fn {Q : Bool → Shared → Prop} (F : Fr h₀ L s.heap m) (X₀ : K.In h₀) (I : InstAt s.heap x ox C od) (hs : findIn K (.ref C) "__bool__" = some (some (.ref f))) (hf : isFn K (.ref f) = true)
    (h : wpAny M A (call (.ref f) [.ref x]) (fun r s' => ∃ b, r = .bool b ∧ Q b s') E s) : wpAny M A (truthy (.ref x)) Q E s := by
  unfold truthy
  first
    | refine wpAny_bind (special_fn (X₀.keeps F.keep) I hs (beq_iff_eq.mp hf) (wpAny_mono h (fun r s' ⟨b, e, q⟩ => ?_) fun _ _ z => z))
    | refine wpAny_bind (wpAny_pure (wpAny_bind (special_fn (X₀.keeps F.keep) I hs (beq_iff_eq.mp hf) (wpAny_mono h (fun r s' ⟨b, e, q⟩ => ?_) fun _ _ z => z))))
  subst e
  exact wpAny_pure q
theorem meets_bool {y : Value} : MeetsIn prog w (Builtin.«bool.__new__» ⟨[.type "bool", y], []⟩) (fun A R s => wpAny (model prog w) A.in1 (truthy y) (fun b s' => R (.ok (.ret (.bool b))) s') (fun e s' => R (.error e) s') s) := fun A R s hs => by
  have f1 := PySem.F.conv_sub_bool
  obtain ⟨hp, g, d, tk, os⟩ := s
  have key : ∀ {Q : Bool → Shared → Prop}, (∀ b s', R (.ok (.ret (.bool b))) s' → Q b s') → wpAny (model prog w) A.in1 (truthy y) Q (fun e s' => R (.error e) s') ⟨hp, g, d, tk, os⟩ := fun hq => wpAny_mono hs hq fun _ _ z => z
  wp_walk using (key fun b s' hr => ?_)
  exact hr
theorem call_bool_t {y : Value} {Q : Value → Shared → Prop} (h : wpAny (model prog w) A.in1.in1 (truthy y) (fun b s' => Q (.bool b) s') E s) : wpAny (model prog w) A (call (.type "bool") [y]) Q E s :=
  callType_newIn PySem.F.called_bool PySem.F.newNe_bool (PySem.F.typeCall_bool_1 y) (PySem.F.newCall_bool_1 y) (fun obj => PySem.F.args_object_init_2 obj y) PySem.F.entry_bool_new meets_bool (wpAny_mono h (fun b s' q => ⟨rfl, q⟩) fun _ _ z => z)
end
end G
namespace L2
open PySem PySem.Spec PyProof.Rows
open G (EF inst_of truthy_fn call_bool_t)
section
variable {X : Cx} {CXt : CXT} {k : Nat} {f C : Addr} {fd : FuncData} {ps : List Str} {sp : Sp} {ta : TE} {e : Expr}
end
end L2
namespace G
open PySem PySem.Spec PyProof.Rows L2 PySem.W
section
variable {tx : XC → Addr} {Y : YC} {Γ : List Cell} {ta : TE} {α β : Type} {d : Dat α} {d2 : Dat β} {C0 : Addr} {ns : List Str} {sp : Sp}
end
end G
end

noncomputable section
/-! M77: n * o, n a whole number, o an instance whose class has __rmul__. -/
namespace G
open PySem PySem.Spec PyProof.Rows L2 PySem.W
theorem mul_ins (a : Int) (t : Tok) (l C dx : Addr) :
    Meets (Builtin.«int.__mul__» ⟨[.int a t, .ref l], []⟩) (fun _ R s => s.heap.get? l = some (instObj C dx) ∧ R (.ok (.ret Value.notImplemented)) s) :=
  .of_wp fun prog w A R s h => by
    obtain ⟨hp, g, d, tk, os⟩ := s
    obtain ⟨hl, h⟩ := h
    unfold instObj at hl
    wp_walk
    exact ⟨_, rfl, h⟩
section
variable {prog : Program} {w : World} {A : Around} {E : Value → Shared → Prop} {s : Shared} {K : Frag} {x y C dx L f g0 : Addr} {h₀ : Heap} {m : Str → Option Value} {od : Option Obj}
theorem mul_call {n : Int} {t : Tok} {Q2 : Option Value → Shared → Prop} (hy : s.heap.get? y = some (instObj C dx)) (q : Q2 none s) : wpAny (model prog w) A (call (.builtin "int.__mul__") [.int n t, .ref y]) (fun v s' => v = .notImplemented ∧ Q2 none s') E s := by
  refine call_meets (S := fun _ R s => s.heap.get? y = some (instObj C dx) ∧ R (.ok (.ret Value.notImplemented)) s) PySem.F.slot_int_mul (typeIs_int s n t) PySem.F.entry_int_mul (PySem.F.args_int_mul_2 _ _) (mul_ins n t y C dx) ?_
  exact ⟨hy, rfl, q⟩
theorem own_rmul {n : Int} {t : Tok} {Q : Value → Shared → Prop} (F : Fr h₀ L s.heap m) (X₀ : K.In h₀) (I : InstAt s.heap y (instObj C dx) C od) (hc : selfFirst K C = true)
    (hs : findIn K (.ref C) (PySem.dunder "mul") = some (some (.ref g0))) (hr : findIn K (.ref C) (dunderR "mul") = some (some (.ref f))) (hf : isFn K (.ref f) = true) (hsub : subIn K (.ref C) (.type "int") = some false)
    (h : wpAny (model prog w) A (call (.ref f) [.ref y, .int n t]) (PySem.W.CmpBack Q) E s) : wpAny (model prog w) A (binaryOp .Mult (.int n t) (.ref y)) Q E s := by
  have hK := X₀.keeps F.keep
  obtain ⟨cd, rest, hcd, hm⟩ := ksp_first hc
  have one := ksp_try hK I hr hf h
  have ht : s.TypeIs (.int n t) "int" := typeIs_int s n t
  have decl : ∀ {Q2 : Option Value → Shared → Prop}, Q2 none s → wpAny (model prog w) A (tryMethod (.int n t) (PySem.dunder "mul") (.ref y)) Q2 E s := fun {Q2} q => by
    refine wpAny_tryMethod_declines (M := model prog w) (T := "int") (id := "int.__mul__") (name := PySem.dunder "mul") (Q := Q2) ?_ ?_ ?_
    · exact ht
    · exact PySem.F.slot_int_mul
    · exact mul_call (dx := dx) (C := C) I.at_ q
  obtain ⟨hh, g, d, tt, os⟩ := s
  have L1 : Looks (model prog w) hh (typeOf (.int n t)) (.type "int") := Looks.of_pure rfl
  have L2 : Looks (model prog w) hh (typeOf (.ref y)) (.ref C) := I.type
  have L3 : fillsNumberSlot (.type "int") "mul" = pure true := PySem.F.fills_int_mul
  have L4 : Looks (model prog w) hh (fillsNumberSlot (.ref C) "mul") true := fills_K hK hcd hm hs
  have L5 : Looks (model prog w) hh (isSubtype (.ref C) (.type "int")) false := looks_subIn hK hsub
  have hne : (Value.type "int" == Value.ref C) = false := rfl
  have L7 : numberSlotInPython (.type "int") "mul" = pure false := rfl
  simp only [binaryOp, show Operator.Mult.info = ("*", "mul") from rfl]
  refine wpAny_holding (wpAny_bind ?_)
  unfold binaryOp1
  refine wpAny_bind (L1.at (wpAny_bind (L2.at (wpAny_bind (wpAny_of_eq L3 ?_)))))
  simp only [hne, Bool.false_eq_true, if_false]
  refine wpAny_bind (L4.at ?_)
  simp only [Bool.and_self, if_true]
  refine wpAny_bind (L5.at ?_)
  simp only [Bool.false_eq_true, if_false, pure_bind, Bool.not_false, Bool.and_self, if_true, L7]
  refine wpAny_bind (decl ?_)
  refine wpAny_bind (wpAny_mono one (fun r s' hr' => ?_) fun _ _ e => e)
  obtain ⟨v, rfl, hq⟩ := hr'
  ksp_lk
  exact hq
end
end G
namespace L2
open PySem PySem.Spec PyProof.Rows
open G (EF inst_of own_rmul relV_back)
section
variable {X : Cx} {CXt : CXT} {k : Nat} {f g0 C : Addr} {fd : FuncData} {ps : List Str} {sp : Sp} {E : L2.St → XK} {pos : Pos} {a b : Expr} {ta tb : TE}
end
end L2
namespace G
open PySem PySem.Spec PyProof.Rows L2 PySem.W
section
variable {tx : XC → Addr} {Y : YC} {Γ : List Cell} {ta tb : TE} {α β : Type} {d : Dat α} {d2 : Dat β} {C0 : Addr} {ns : List Str} {sp : Sp} {E : L2.St → XK}
end
end G
end

noncomputable section
/-! M78: slices of tuples (not the whole). -/
namespace G
open PySem PySem.Spec PyProof.Rows L2 PySem.W
section
variable {tx : XC → Addr} {Y : YC} {Γ : List Cell} {te : TE} {α : Type} {d : Dat α}
end
end G
end

noncomputable section
/-! M79: sorted(d) of a dict keyed by tuples whose one key may be the empty tuple. -/
namespace L2
open PySem PySem.Spec PyProof.Rows PySem.W
section
variable {prog : Program} {w : World} {A : Around} {s : Shared}
end
section
variable {X : Cx}
end
end L2
namespace G
open PySem PySem.Spec PyProof.Rows L2 PySem.W
section
variable {tx : XC → Addr} {Y : YC} {Γ : List Cell} {te ta tb tc : TE} {κ α : Type} [DecidableEq κ] {dk : Dat κ} {ky : KeyD κ dk} {d : Dat α}
end
end G
end

/-! M80: y = x, where x is not read any more: y owns what x owned. -/
namespace G
open PySem L2
section
variable {tx : XC → Addr} {Y : YC} {Γ : List Cell} {α τ : Type} {d : Dat α} {rest : TS} {js : List Nat} {K : Kt τ}
end
end G

noncomputable section
/-! M81: row = xs[a]; row[b] = row[c] op e, xs a list of owned lists of ints: the row is not read any more. -/
namespace G
open PySem PySem.Spec PyProof.Rows L2 PySem.W
section
variable {Y : YC} {Γ : List Cell} {k : Ks} {ta tb tb2 te : TE} {ts : TS}
end
section
variable {tx : XC → Addr} {Y : YC} {Γ : List Cell} {ta tb tb2 te : TE} {τ : Type} {rest : TS} {js : List Nat} {K : Kt τ}
end
end G

section
set_option maxHeartbeats 2000000
noncomputable section
/-! M82: set comprehensions of ints with two fors. -/
namespace L2
open PySem PySem.Spec PyProof.Rows
section
variable {prog : Program} {w : World} {A : Around} {R : Result → Shared → Prop} {s : Shared} {elt t0 i0 t1 i1 : Expr} {ifs0 ifs1 : List Expr} {scope : Scope} {pos : Pos} {it acc : Value} {env : Env}
end
section
variable {X : Cx}
end
end L2
namespace G
open PySem PySem.Spec PyProof.Rows L2 PySem.W
section
variable {Y : YC} {Γ : List Cell} {α γ : Type} {d : Dat α} {d1 : Dat γ} {g g1 : TG} {tt tt1 : TT} {te : TE} {ti ti1 : L2.TI} {vs vs1 : List Nat}
end
section
variable {tx : XC → Addr} {Y : YC} {Γ : List Cell} {α γ : Type} {d : Dat α} {d1 : Dat γ} {g g1 : TG} {tt tt1 : TT} {te : TE} {ti ti1 : L2.TI} {vs vs1 : List Nat}
end
end G
end

noncomputable section
/-! M83: sorted(xs), xs a list of tuples of ints, none of them empty or the empty one alone; xs.count(y) of data. -/
namespace G
open PySem PySem.Spec PyProof.Rows L2 PySem.W
section
variable {X : Cx}
end
end G
namespace L2
open PySem PySem.Spec PyProof.Rows PySem.W
section
variable {X : Cx}
end
end L2
namespace G
open PySem PySem.Spec PyProof.Rows L2 PySem.W
section
variable {tx : XC → Addr} {Y : YC} {Γ : List Cell} {ta tb te : TE} {α : Type} {d : Dat α}
/-! xs.count(y) -/
instance dlTup {α : Type} {d : Dat α} [de : @DE α d] [dl : @DL α d de] : @DL (Tup α) dTup deTup := @DL.mk _ _ deTup fun x => by
  show PyData.canLay0 (.tuple (x.l.map de.toD)) = true
  simp [PyData.canLay0, dlAll x.l]
end
end G

noncomputable section
/-! M84: tuples of a word and numbers behind it: ("link", 0), ("beside", 0, 1), .. -/
namespace G
open PySem PySem.Spec PyProof.Rows L2 PySem.W
structure Wt where
  w : Str
  l : List Int
  deriving DecidableEq
instance dWt : Dat Wt := ⟨fun C F v x => ∃ a vs, v = .ref a ∧ TpA C.K F a (.str x.w :: vs) ∧ Reps dInt C F vs x.l, fun s ⟨a, vs, e, h, r⟩ => ⟨a, vs, e, h.mono s, r.mono s⟩⟩
instance imWt : Imm Wt := ⟨fun t ⟨a, vs, e, h, r⟩ => ⟨a, vs, e, h.imp (t a _) id, r.imm t⟩⟩
instance udWt : UD Wt := ⟨fun x => .tuple (.str x.w :: x.l.map .int), fun ⟨a, vs, e, h, r⟩ => ⟨a, _, e, h, rfl, dus_of (u := udInt) r⟩⟩
section
variable {tx : XC → Addr} {Y : YC} {Γ : List Cell} {te ta tb : TE}
/-! displays -/
/-! parts -/
theorem atI_nat {α : Type} {xs : List α} {n : Nat} {y : α} (h : xs[n]? = some y) : atI xs (n : Int) = some y := by
  have hl : n < xs.length := (List.getElem?_eq_some_iff.mp h).1
  unfold atI ixN
  rw [if_pos (by omega), if_pos (by omega)]
  exact h
/-! parts of the tuple -/
/-! numbers put behind -/
end
end G
end

noncomputable section
/-! M85: match over tuples: cases [a, b], .. of names alone, and `case _`. -/
namespace L2
open PySem PySem.Spec PyProof.Rows PySem.W
/-- cases, the subject told -/
abbrev TMc := V → TS
section
variable {X : Cx} {pos : Pos} {te : TE} {t : TMc} {e : Expr} {cs : List MatchCase}
inductive Caps : List Pattern → List Str → Prop
  | nil : Caps [] []
  | cons {n : Str} {p : Pos} {ps : List Pattern} {ns : List Str} (h : Caps ps ns) : Caps (.MatchAs none (some n) p :: ps) (n :: ns)
theorem Caps.len {ps : List Pattern} {ns : List Str} (h : Caps ps ns) : ps.length = ns.length := by
  induction h with
  | nil => rfl
  | cons _ ih => rw [List.length_cons, List.length_cons, ih]
theorem Caps.each {M : Model} {A : Around} {E : Value → Shared → Prop} {s : Shared} {env : Env} {ps : List Pattern} {ns : List Str} (h : Caps ps ns) : ∀ {us : List Value} {Q : Option (List (Str × Value)) → Shared → Prop}, us.length = ns.length → Q (some (ns.zip us)) s → wpAny M A (matchEach ps env us) Q E s := by
  induction h with
  | nil =>
    intro us Q hl hq
    cases us with
    | nil => exact wpAny_matchEach_nil hq
    | cons _ _ => cases hl
  | cons _ ih =>
    intro us Q hl hq
    cases us with
    | nil => cases hl
    | cons u us =>
      refine wpAny_matchEach_cons (wpAny_matchPattern_Capture ?_)
      exact ih (Nat.succ.inj hl) hq
end
end L2
end

noncomputable section
/-! M86: match over a tuple of a word and numbers, read as models. -/
namespace G
open PySem PySem.Spec PyProof.Rows L2 PySem.W
section
variable {tx : XC → Addr} {Y : YC} {Γ : List Cell} {te : TE} {js : List Nat} {τ : Type} {K : Kt τ} {rest tb : TS} {t tr : TMc}
end
end G
namespace L2
open PySem PySem.Spec PyProof.Rows PySem.W
section
variable {X : Cx}
end
end L2
end

noncomputable section
/-! M87: len(d) and dict(d) of dicts keyed by ints. -/
namespace L2
open PySem PySem.Spec PyProof.Rows
end L2
namespace G
open PySem PySem.Spec PyProof.Rows L2 PySem.W
section
variable {tx : XC → Addr} {Y : YC} {Γ : List Cell} {ta te : TE} {α : Type} {d : Dat α}
end
end G
end

noncomputable section
/-! M88: rows.append((word, pool.pop(i))). -/
namespace G
open PySem PySem.Spec PyProof.Rows L2 PySem.W
section
variable {tx : XC → Addr} {Y : YC} {Γ : List Cell} {ta te : TE} {js : List Nat} {rest : TS} {τ : Type} {K : Kt τ}
end
end G
end

noncomputable section
/-! M89: an owned dict keyed by ints is locked for good; in, not in, [], len, dict() and walks over its keys. -/
namespace G
open PySem PySem.Spec PyProof.Rows L2 PySem.W
theorem KReps.getV {β : Type} {d : Dat β} {C : GCtx} {F : Hp} {k : L2.Key} {v : V} : ∀ {ps : List (L2.Key × V)} {xs : List (Int × β)} {i : Nat}, KReps d C F ps xs → ps[i]? = some (k, v) → ∃ x, xs[i]? = some x ∧ k = Sum.inl x.1 ∧ d.rep C F v x.2
  | [], [], i, _, e => by simp at e
  | p :: ps, x :: xs, 0, h, e => ⟨x, rfl, by cases (Option.some.inj e); exact h.1, by cases (Option.some.inj e); exact h.2.1⟩
  | p :: ps, x :: xs, i + 1, h, e => KReps.getV (i := i) h.2.2 e
  | [], _ :: _, _, h, _ => h.elim
  | _ :: _, [], _, h, _ => h.elim
/-- a locked dict -/
@[reducible] def dIL {α : Type} {d : Dat α} : Dat (DI α) := ⟨fun C F v x => ∃ a o ps, v = .ref a ∧ F a = some (.frz o (.dK ps)) ∧ KReps d C F ps x.kv, fun m ⟨a, o, ps, e, h, r⟩ => ⟨a, o, ps, e, m _ _ h, r.mono m⟩⟩
@[reducible] def oIL {α : Type} {d : Dat α} : @OD (DI α) (dIL (d := d)) := @OD.mk (DI α) (dIL (d := d))
  (fun C F v x L => ∃ a o ps, v = .ref a ∧ L = [(a, .frz o (.dK ps))] ∧ KReps d C F ps x.kv)
  (fun m ⟨a, o, ps, e, h, r⟩ => ⟨a, o, ps, e, h, r.mono m⟩)
  (fun ⟨a, o, ps, e, h, r⟩ m k => ⟨a, o, ps, e, k (a, .frz o (.dK ps)) (by rw [h]; exact List.mem_cons_self), r.mono m⟩)
section
variable {tx : XC → Addr} {Y : YC} {Γ : List Cell} {te ta tb tl tk tv : TE} {t : TS} {α τ : Type} {d : Dat α} {js : List Nat} {rest : TS} {K : Kt τ}
/-! reading -/
end
end G
end

noncomputable section
/-! M90: list(d.values()) of a dict keyed by ints. -/
namespace L2
open PySem PySem.Spec PyProof.Rows PySem.W
section
variable {X : Cx} {o : Expr} {p pos apos mpos : Pos} {td : TE}
end
end L2
namespace G
open PySem PySem.Spec PyProof.Rows L2 PySem.W
section
variable {tx : XC → Addr} {Y : YC} {Γ : List Cell} {te : TE} {α : Type} {d : Dat α}
end
end G
end

noncomputable section
/-! M91: a, b = xs.pop(i), xs a list of pairs of owned things. -/
namespace G
open PySem PySem.Spec PyProof.Rows L2 PySem.W
section
variable {tx : XC → Addr} {Y : YC} {Γ : List Cell} {ta : TE} {α β τ : Type} {d1 : Dat α} {d2 : Dat β} {js : List Nat} {rest : TS} {K : Kt τ}
/-! a pair of new owned things -/
end
end G
end

noncomputable section
/-! M92: xs.append((a, b)), a and b own and given away. -/
namespace G
open PySem PySem.Spec PyProof.Rows L2 PySem.W
section
variable {tx : XC → Addr} {Y : YC} {Γ : List Cell} {ta : TE} {α β τ : Type} {d1 : Dat α} {d2 : Dat β} {js : List Nat} {rest : TS} {K : Kt τ}
end
end G
end

noncomputable section
/-! M93: return f(.., xs, ..) and return a and f(.., xs, ..) of a def that changes xs, within a def that changes it. -/
namespace G
open PySem PySem.Spec PyProof.Rows L2 PySem.W
section
variable {tx : XC → Addr} {Y : YC} {Γ : List Cell} {te ta : TE} {tl : TA} {α β : Type} {d : Dat α} {rest : TS} {js : List Nat}
end
end G
end

noncomputable section
/-! M94: list(d) of a dict keyed by ints. -/
namespace L2
open PySem PySem.Spec PyProof.Rows
end L2
namespace G
open PySem PySem.Spec PyProof.Rows L2 PySem.W
section
variable {tx : XC → Addr} {Y : YC} {Γ : List Cell} {ta te : TE} {α : Type} {d : Dat α}
end
end G
end

noncomputable section
/-! M95: xs.append(xs.pop(i)). -/
namespace G
open PySem PySem.Spec PyProof.Rows L2 PySem.W
section
variable {tx : XC → Addr} {Y : YC} {Γ : List Cell} {ta : TE} {α τ : Type} {d : Dat α} {rest : TS} {js : List Nat} {K : Kt τ}
end
/-! dicts are not None -/
instance nnDI {α : Type} {d : Dat α} : @NN (DI α) (dDI (d := d)) := ⟨fun ⟨a, ps, e, _⟩ z => by subst z; cases e⟩
instance nnIL {α : Type} {d : Dat α} : @NN (DI α) (dIL (d := d)) := @NN.mk (DI α) (dIL (d := d)) fun ⟨a, o, ps, e, _⟩ z => by subst z; cases e
end G
end

section
set_option maxHeartbeats 2000000
noncomputable section
/-! M96: set comprehensions of pairs of ints, sorted. -/
namespace L2
open PySem PySem.Spec PyProof.Rows
section
variable {X : Cx}
end
end L2
namespace G
open PySem PySem.Spec PyProof.Rows L2 PySem.W
/-- a set of pairs, in some order -/
structure PS where
  l : List (Int × Int)
theorem OkQ.mono {C : GCtx} {F F' : Hp} {q : Addr × List Int} (h : OkQ C F q) (s : Same F F') : OkQ C F' q := ⟨h.1, h.2.mono s⟩
instance dPS : Dat PS := ⟨fun C F v s => ∃ a L, v = .ref a ∧ F a = some (SetTO C.P C.w a L) ∧ (∀ q ∈ L, OkQ C F q) ∧ (L.map toP).Perm s.l, fun m ⟨a, L, e, h, o, p⟩ => ⟨a, L, e, m _ _ h, fun q hq => (o q hq).mono m, p⟩⟩
instance oPS : OD PS where
  orep C F v s Ls := ∃ a L, v = .ref a ∧ Ls = [(a, SetTO C.P C.w a L)] ∧ (∀ q ∈ L, OkQ C F q) ∧ (L.map toP).Perm s.l
  omono m := fun ⟨a, L, e, h, o, p⟩ => ⟨a, L, e, h, fun q hq => (o q hq).mono m, p⟩
  view := fun ⟨a, L, e, h, o, p⟩ m k => ⟨a, L, e, k (a, SetTO _ _ a L) (by rw [h]; exact List.mem_cons_self), fun q hq => (o q hq).mono m, p⟩
section
variable {tx : XC → Addr} {Y : YC} {Γ : List Cell} {tl te ta : TE} {g : TG} {tt : TT} {vs : List Nat} {α : Type} {d : Dat α}
end
end G
end
end

section
set_option maxHeartbeats 2000000
noncomputable section
/-! M97: a def that is handed the exception that a suite has caught (FnE: its promise speaks of the exception's place; Fun.okE, pe_callE, we_callE, oe_callE). -/
namespace L2
open PySem PySem.Spec PyProof.Rows
structure FnE (P : Program) (w : World) (K : PySem.W.Frag) (mg : Str → Option Value) (base : Heap) (CX : CXT) (k : Nat) (f : Addr) (fd : FuncData) (ps : List Str) (sp : Addr → Value → Option Addr → Sp) : Prop where
  len : ∀ a cls d vs H Q E, sp a cls d vs H Q E → vs.length = ps.length
  run : ∀ (a : Addr) (oe : Obj) (cls : Value) (d : Option Addr), Zc cls d oe → (∃ vs, oe.data = .fields vs) → ∀ (A : Around) (outer : List Env) (s : Shared) (H : Hp) (args : Args) (us : List Value) (vs : List V) (Q : VK) (E : XK), A.handled = some (.ref a) → L2H.RoomH k A → L2H.PinOk outer H s (a, oe) → Env0 P w K mg base A outer s H → BindsTo s fd args (ps.zip us) → Vals vs us → sp a cls d vs H Q E →
    codeAny (model P w) A (.call (.ref f) args) (CR CX outer P w H s Q E) s
theorem Fun.okE {P : Program} {w : World} {K : PySem.W.Frag} {mg : Str → Option Value} {base : Heap} {name qual : Str} {st : Stmt} {f : Addr} {fd : FuncData} {N ps : List Str} {k : Nat} {sp : Addr → Value → Option Addr → Sp} (F : Fun K name qual st f fd) (S : FnScope N ps (defScope st)) (len : ∀ a cls d vs H Q E, sp a cls d vs H Q E → vs.length = ps.length)
    (hbody : ∀ (a : Addr) (oe : Obj) (cls : Value) (d : Option Addr) (hz : Zc cls d oe) (hf : ∃ vs, oe.data = .fields vs) (cdv : Value) (A : Around) (outer : List Env) (s : Shared) (H : Hp) (vs : List V) (Q : VK) (E : XK), L2H.RoomH k (A.deeper (envOfC qual (defScope st) s.heap.objs.size f cdv)) → sp a cls d vs H Q E →
      ∃ t, PSs ((cxC (L2.CX P w) P w K mg base N qual (defScope st) f cdv A outer s H E).suite a ((a, oe) :: [])) (defBody st) t ∧ t { nx := fun _ H' => Q .non H', rt := Q } (L2.start N vs) H) : FnE P w K mg base (L2.CX P w) (k + 1) f fd ps sp := by
  obtain ⟨oc, od, kV, doc, pm, an, cdv, ct, osl, rfl, lk, hcd⟩ := F.ex
  refine ⟨len, fun a oe cls d hz hf A outer s H args us vs Q E hh hr hpin e0 hb r hsp => ?_⟩
  have hl := len _ _ _ _ _ _ _ hsp
  have KX : K.In s.heap := e0.mod.kin.keeps fun b o e => (e0.bs b o e).1
  have lim : s.heap.NoLimit := e0.mod.nolimit.keeps fun b o e => (e0.bs b o e).1
  have hkind : ∀ y ∈ ps.zip us, (defScope st).names.lookup y.1 = some .local ∨ ((defScope st).names.lookup y.1 = some .cell ∧ ((cellsFrom (s.heap.objs.size + 1) (defScope st).names []).lookup y.1).isSome = true) := fun ⟨n, v⟩ hy => by
    rcases S.par n (List.of_mem_zip hy).1 with q | q
    · exact .inl q
    · exact .inr ⟨q, PySem.W.cellsFrom_some _ _ _ (.inl q)⟩
  refine codeAny_call_function hr.depth (KX _ _ lk) rfl S.co S.gen rfl (PySem.W.codeRec_of KX hcd) (hb _ _ _ _ ?_)
  refine wpAny_newFunctionEnv_cells S.kind hkind fun env he s1 x => ?_
  subst he
  refine ⟨lim.keeps x.toInCall.keep, codeAny_func ?_⟩
  obtain ⟨t, ht, hq⟩ := hbody a oe cls d hz hf cdv A outer s H vs Q E (hr.deeper _) hsp
  have I0 := L2H.inv_startH (CX := L2.CX P w) (qual := qual) (f := f) (cd := cdv) (A := A) (E := E) S hpin e0 hl r x
  have eA : (A.deeper (envOfC qual (defScope st) s.heap.objs.size f cdv)).mark (some (.ref a)) = A.deeper (envOfC qual (defScope st) s.heap.objs.size f cdv) := by
    cases A with
    | mk h dp fr gd un => cases hh; rfl
  have I : Inv ((cxC (L2.CX P w) P w K mg base N qual (defScope st) f cdv A outer s H E).suite a ((a, oe) :: [])) [] (L2.start N vs) H s1 :=
    ⟨⟨I0.ok.mod, I0.ok.kind, I0.ok.glob, I0.ok.blt, I0.ok.above, I0.ok.inj, I0.ok.has, I0.ok.cab, fun z => Bool.noConfusion (show false = true from z), I0.ok.frames, I0.ok.stk, I0.ok.exf, I0.ok.bs, I0.ok.bsz, I0.ok.noex, I0.ok.exfs, I0.ok.funs, I0.ok.frf⟩,
      I0.os, I0.bare, I0.base, I0.loc, I0.cell, I0.free, I0.freeC, I0.pin, I0.hok, I0.len⟩
  have run := ht.run [] s1 (L2.start N vs) H _ I hq
  rw [show ((cxC (L2.CX P w) P w K mg base N qual (defScope st) f cdv A outer s H E).suite a ((a, oe) :: [])).A = A.deeper (envOfC qual (defScope st) s.heap.objs.size f cdv) from eA] at run
  refine wpAny_mono run (fun fl s' hs => ?_) fun e s' hs => absurd (show False from hs) id
  have fin : ∀ {σ' : L2.St} {H' : Hp} {v : V} {u : Value}, Inv ((cxC (L2.CX P w) P w K mg base N qual (defScope st) f cdv A outer s H E).suite a ((a, oe) :: [])) [] σ' H' s' → RelV v u → Q v H' → CE outer P w H s Q u s' :=
    fun {σ' H' v u} J rv q => ⟨v, H', J.os, J.bare, J.base, J.hok, rv, q⟩
  cases fl with
  | ret u =>
    obtain ⟨v, σ', H', J, rv, q⟩ := hs
    exact fin J rv q
  | next =>
    obtain ⟨σ', H', J, q⟩ := hs
    exact fin (v := V.non) (u := Value.none) J rfl q
  | brk =>
    obtain ⟨_, _, _, q⟩ := hs
    exact False.elim q
  | cont =>
    obtain ⟨_, _, _, q⟩ := hs
    exact False.elim q
section
variable {X : Cx} {CXt : CXT} {k : Nat} {f a : Addr} {oe : Obj} {cls : Value} {d : Option Addr} {pn : List (Addr × Obj)} {fd : FuncData} {ps : List Str} {sp : Addr → Value → Option Addr → Sp} {E : L2.St → XK} {x : Str} {q pos : Pos} {e : Expr} {es : List Expr} {t : TA}
theorem run_fnE {pins : List (Addr × Obj)} {σ : L2.St} {H : Hp} {s : Shared} {Q : VK} {us : List Value} {vs : List V} (hz : Zc cls d oe) (hf : ∃ vs, oe.data = .fields vs) (F : FnE X.prog X.w X.K X.mg X.base CXt k f fd ps sp) (hr : L2H.RoomH k (X.suite a ((a, oe) :: pn)).A) (hb : Binds X.K fd ps []) (hx : PassesAt CXt (X.suite a ((a, oe) :: pn)) σ (E σ))
    (I : Inv (X.suite a ((a, oe) :: pn)) pins σ H s) (r : Vals vs us) (h : sp a cls d vs H Q (E σ)) : wpAny (model X.prog X.w) (X.suite a ((a, oe) :: pn)).A (call (.ref f) us) (EP (X.suite a ((a, oe) :: pn)) pins σ Q) (X.suite a ((a, oe) :: pn)).xe s := by
  have hl : us.length = ps.length := by rw [← r.length]; exact F.len _ _ _ _ _ _ _ h
  have b := hb s us I.kIn (by rw [List.append_nil]; exact hl)
  rw [List.append_nil] at b
  have hp := I.pin (a, oe) (List.mem_append_left _ List.mem_cons_self)
  have pin : L2H.PinOk (X.suite a ((a, oe) :: pn)).stack H s (a, oe) := ⟨hp.1, hp.2.1, fun z => (List.mem_cons.mp (I.stkSub _ z)).elim hp.2.2.1 hp.2.2.2.1, hp.2.2.2.2⟩
  refine wpAny_call (codeAny_mono (F.run a oe cls d hz hf (X.suite a ((a, oe) :: pn)).A (X.suite a ((a, oe) :: pn)).stack s H ⟨us, []⟩ us vs Q (E σ) rfl hr pin I.env0 b r h) fun r s' hq => ?_)
  cases r with
  | error e => exact hx pins H s e s' I hq
  | ok fl =>
    cases fl with
    | ret u => exact I.after hq
    | next => exact False.elim hq
    | brk => exact False.elim hq
    | cont => exact False.elim hq
theorem pe_callE (hz : Zc cls d oe) (hf : ∃ vs, oe.data = .fields vs) (F : FnE X.prog X.w X.K X.mg X.base CXt k f fd ps sp) (hr : L2H.RoomH k (X.suite a ((a, oe) :: pn)).A) (hg : Gl (X.suite a ((a, oe) :: pn)) x) (hm : X.mg x = some (.ref f)) (hk : PySem.W.keepIn X.K (.ref f) = true) (hb : Binds X.K fd ps []) (hx : ∀ σ, PassesAt CXt (X.suite a ((a, oe) :: pn)) σ (E σ))
    (ha : PA (X.suite a ((a, oe) :: pn)) (e :: es) t) (hdb : (x == ("__debug__" : Str)) = false := by decide) (he : starEach (e :: es) X.env = (false, eval e X.env) :: starEach es X.env := by rfl) (hpl : (backTo pos (starEach es X.env)).any (·.1) = false := by rfl) :
    PE (X.suite a ((a, oe) :: pn)) (.Call (.Name x q) (e :: es) [] pos) (tCallS (sp a cls d) E t) := by
  refine ⟨fun pins s σ H Q I h => ?_⟩
  refine wpAny_Call_Name_kw (ld_glob I hg hm ?_ hdb)
  refine PySem.W.callWith_K (h₀ := X.base) I.ok.mod.kin hk (thn (ha.run pos pins s σ H _ I h) fun us s1 ⟨vs, H1, I1, r, q⟩ => ⟨I1.kIn, ?_⟩) he hpl
  exact run_fnE hz hf F hr hb (hx σ) I1 r q
end
end L2
namespace G
open PySem PySem.Spec PyProof.Rows L2 PySem.W
section
variable {tx : XC → Addr} {Y : YC} {Γ : List Cell} {β : Type} {d : Dat β}
theorem we_callE {a : Addr} {dd : Option Addr} {px : PX} {i : Nat} {sp : Sp} {E : L2.St → XK} {m : M β} (hi : Γ[i]? = some (.val (dExn a dd) (px.x tx))) (hs : m.nb → SpX Y.g sp [.val (dExn a dd) (px.x tx)] (fun c => ∃ r, c = .val d r ∧ m = .ok r) fun x => ∃ px', m = .exc px' ∧ x = px'.x tx) (hE : E = Y.E) :
    We tx Y (tCallS sp E (tCons (tVar i) tNil)) Γ d m := fun nb xk => w_callX hE (wa_cons (w_var hi (wa_nil fun vs H Q E fx => hs nb vs H Q E (fx.mono (fun c ⟨r, e, q⟩ => ⟨r, e, q⟩) fun x ⟨px, e, q⟩ => q ▸ xk px e))))
theorem oe_callE {od : @OD β d} {a : Addr} {dd : Option Addr} {px : PX} {i : Nat} {sp : Sp} {E : L2.St → XK} {m : M β} (hi : Γ[i]? = some (.val (dExn a dd) (px.x tx))) (hs : m.nb → SpX Y.g sp [.val (dExn a dd) (px.x tx)] (fun c => ∃ r, c = .own d od none r ∧ m = .ok r) fun x => ∃ px', m = .exc px' ∧ x = px'.x tx) (hE : E = Y.E) :
    Oe tx Y (tCallS sp E (tCons (tVar i) tNil)) Γ od m := fun nb xk => o_callX hE (wa_cons (w_var hi (wa_nil fun vs H Q E fx => hs nb vs H Q E (fx.mono (fun c ⟨r, e, q⟩ => ⟨r, e, q⟩) fun x ⟨px, e, q⟩ => q ▸ xk px e))))
end
end G
end
end

section
set_option maxHeartbeats 2000000
noncomputable section
/-! M98: {k: c}, k a name of a tuple, c a constant (pe_dispT, oe_dispT); an expression of an optional type that is not None where it stands (we_unopt). -/
namespace L2
open PySem PySem.Spec PyProof.Rows
/-- {k: v}, k a tuple -/
def tDispT (tk tv : TE) : TE := fun σ H Q => ∀ p, H p = none → tk σ (upd H p (.dT [])) fun x H1 => tv σ H1 fun y H2 => H2 p = some (.dT []) ∧ ∃ b ks, x = .ref b ∧ H2 b = some (.tup (ks.map kV)) ∧ Q (.ref p) (upd H2 p (.dT [(ks, y)]))
section
variable {X : Cx}
theorem wpAny_Dict_pairsF {prog : Program} {w : World} {K : Type} [DecidableEq K] {knd : HeapKind prog w K} {A : Around} {E : Value → Shared → Prop} {s : Shared} {env : Env} {keys : List (Option Expr)} {values : List Expr} {pos : Pos} {pairs : List (Sem Value × Sem Value)} {Q : Value → Shared → Prop} (hu : knd.room A)
    (hshape : (evalEachOpt keys env).zip ((evalEach values env).map fun v => do let x ← v; standAt pos; pure x) = pairs.map fun p => (some p.1, p.2)) (h0 : pairs ≠ []) (hlen : pairs.length ≤ 15)
    (h : wpAny (model prog w) A (evalPairs pairs) (fun vs s₁ => ∃ ps, CarriesH knd s₁.heap vs ps ∧ s₁.heap.DictOfH knd s.heap.objs.size [] ∧
      ∀ h' tk, h'.DictOfH knd s.heap.objs.size (storedAllH [] ps) → Heap.SameBut s.heap.objs.size s₁.heap h' → Q (.ref s.heap.objs.size) { s₁ with heap := h', toks := tk }) E
      { s with heap := s.heap.push { cls := .type "dict", data := .dict #[] } }) :
    wpAny (model prog w) A (eval (.Dict keys values pos) env) Q E s := by
  rw [arm_eval_Dict, hshape, dictDisplay_pairs pairs h0 (by omega)]
  exact wpAny_bind (wpAny_standAt (wpAny_bind (wpAny_subDictH (knd := knd) (Q := fun d s' => wpAny (model prog w) A (pure (Value.ref d)) Q E s') hu hlen
    (wpAny_mono h (fun vs s₁ h₁ => by obtain ⟨ps, hc, hm, hq⟩ := h₁; exact ⟨ps, hc, hm, fun h' tk a b => wpAny_pure (hq h' tk a b)⟩) fun _ _ e => e))))
theorem pe_dispT {k v : Expr} {pos : Pos} {tk tv : TE} (hu : X.A.units + 1 < cLine) (hk : PE X k tk) (hv : PE X v tv) : PE X (.Dict [some k] [v] pos) (tDispT tk tv) := by
  refine ⟨fun pins s σ H Q I q => ?_⟩
  have hn := I.hok.fresh (Nat.le_refl s.heap.objs.size)
  have I1 := I.laid (a := s.heap.objs.size) (o := .dT []) (h' := s.heap.push { cls := .type "dict", data := .dict #[] }) (t' := s.toks) (fun _ _ q => Heap.get?_push_of_some _ q) (Nat.le_refl _) (dt_empty s.heap I.big)
  have hp : PPs X pos [some k] [v] [(tk, tv)] := pps_cons hk hv pps_nil
  have hpl : (pairTrees [some k] [v] X.env pos).length = 1 := pairTrees_length [some k] [v] X.env pos rfl rfl
  refine wpAny_Dict_pairsF (knd := tupleKind (mixKind X.prog X.w)) (show X.A.units < cLine by omega) (zip_pairTrees [some k] [v] X.env pos rfl rfl) (fun z => by rw [z] at hpl; cases hpl) (by rw [hpl]; decide) (thn (hp.run pins _ σ _ (fun ps H2 => match ps with
    | [(x, y)] => H2 s.heap.objs.size = some (.dT []) ∧ ∃ b ks, x = .ref b ∧ H2 b = some (.tup (ks.map kV)) ∧ Q (.ref s.heap.objs.size) (upd H2 s.heap.objs.size (.dT [(ks, y)]))
    | _ => False) I1 (q _ hn)) fun ws s2 ⟨ps, H2, I2, rel, hq⟩ => ?_)
  match ps, hq with
  | [(x, y)], ⟨e, b, ks, ex, eb, q2⟩ =>
    subst ex
    cases rel with
    | @cons p1 p2 l1 l2 h t =>
      cases t
      obtain ⟨u, r⟩ := p2
      obtain ⟨h1, h2⟩ := h
      cases (show u = Value.ref b from h1)
      obtain ⟨z, hd, xs, rk, dd⟩ := dt_of I2.hok e
      cases rk
      refine ⟨[(ks, b, r)], ⟨rfl, rfl, key_of I2.hok eb, trivial⟩, dd, fun h' tk dd' hs => ⟨.ref s.heap.objs.size, _, ?_, rfl, q2⟩⟩
      obtain ⟨q, es, ep, hq, h2', h3, h4, _, h5⟩ := dd'
      have kt : KT H2 [(ks, y)] [(ks, b, r)] := KT.put (kvs := []) (xs := []) .nil ks eb h2
      refine d_write I2 (by rw [e]; exact True.intro) hs ⟨q, hq⟩ ⟨Nat.le_trans (show [(ks, y)].length ≤ 1 from Nat.le_refl 1) (by decide), hd, _, kt.keeps fun c ys ec => ?_, q, es, ep, hq, h2', h3, h4, h5⟩
      rw [upd_ne (ne_of ec e (fun z => nomatch z))]
      exact ec
end
end L2
namespace G
open PySem PySem.Spec PyProof.Rows L2 PySem.W
section
variable {tx : XC → Addr} {Y : YC} {Γ : List Cell} {te : TE} {κ α : Type} [DecidableEq κ] {dk : Dat κ} {ky : KeyD κ dk} {d : Dat α}
/-- {k: c} -/
theorem oe_dispT {i : Nat} {k : κ} {c : V} {y : α} (hi : Γ[i]? = some (.val dk k)) (hc : ∀ C F, d.rep C F c y) : Oe tx Y (tDispT (tVar i) (tC c)) Γ (oDK (ky := ky) (d := d)) (.ok ⟨[(k, y)]⟩) := fun nb xk e F σ H s Q q p hp => by
  obtain ⟨v, e1, r⟩ := s.val hi
  obtain ⟨b, rfl, hb⟩ := ky.rd r
  have hne : b ≠ p := fun z => by
    have := s.fh _ _ hb
    rw [z, hp] at this
    cases this
  refine ⟨.ref b, e1, ?_⟩
  refine ⟨upd_same, b, _, rfl, by rw [upd_ne hne]; exact s.fh _ _ hb, ?_⟩
  rw [upd_upd]
  exact q _ F _ _ _ rfl (s.base.own hp (fun _ z => by cases z)) ⟨p, _, rfl, rfl, rfl, hc _ _, trivial⟩
/-- not None where it stands -/
theorem we_unopt {m : M (Opt α)} [nn : @NN α d] (h : We tx Y te Γ (dOpt (d := d)) m) : We tx Y te Γ d (m >>= M.ofOpt) := fun nb xk e F σ H s Q q => h.k nb xk (k := fun o => m = .ok o ∧ (M.ofOpt o).nb) (fun o e nb2 _ => ⟨e, nb2⟩) e F σ H s _ fun v F' H' o ⟨hm, nb2⟩ g r => by
  cases o with
  | none => exact absurd rfl nb2
  | some x => exact q v F' H' x (by rw [hm]; rfl) g r
end
end G
end
end

noncomputable section
/-! M99: range(a, b) as the inner walk of a comprehension with two fors. -/
namespace G
open PySem PySem.Spec PyProof.Rows L2 PySem.W
section
variable {tx : XC → Addr} {Y : YC} {Γ : List Cell} {ta tb : TE}
end
end G
end

section
set_option maxHeartbeats 2000000
noncomputable section
/-! M100: sets of pairs of ints: set(), in, not in, s.add(p). -/
namespace L2
open PySem PySem.Spec PyProof.Rows
section
variable {P : Program} {w : World} {A : Around} {E : Value → Shared → Prop} {s : Shared} {a : Addr} {L : List (Addr × List Int)} {es : Array (Int × Value)} {ep : Nat} {t : SetTable}
end
end L2
namespace L2
open PySem PySem.Spec PyProof.Rows
section
variable {X : Cx}
variable {o e : Expr} {es : List Expr} {to : TE} {t : TA} {apos cpos : Pos}
end
end L2
namespace G
open PySem PySem.Spec PyProof.Rows L2 PySem.W
section
variable {tx : XC → Addr} {Y : YC} {Γ : List Cell} {te ta tb : TE} {τ : Type} {js : List Nat} {rest : TS} {K : Kt τ} {k : Ks}
end
end G
end
end

noncomputable section
/-! M101: an owned list or None as owned data. -/
namespace G
open PySem PySem.Spec PyProof.Rows L2 PySem.W
section
variable {tx : XC → Addr} {Y : YC} {Γ : List Cell} {te : TE} {α : Type} {d : Dat α}
end
end G
end

noncomputable section
/-! M102: comprehensions over zip(xs, ys), of lists and of tuples. -/
namespace G
open PySem PySem.Spec PyProof.Rows L2 PySem.W
def M.zip {α γ : Type} (xs : List α) (ys : List γ) : M (List (α × γ)) := M.asrt ((xs.zip ys).length ≤ PySem.sizeLine) (.ok (xs.zip ys))
section
variable {tx : XC → Addr} {Y : YC} {Γ : List Cell} {te ta tb tl : TE} {t u tt : TT} {α β γ : Type} {d : Dat α} {d1 : Dat γ} {d2 : Dat β} {g : TG}
end
end G
end

noncomputable section
/-! M103: {k: v, ..} with written int keys (oe_disp). -/
namespace L2
open PySem PySem.Spec PyProof.Rows
theorem putK_app {kvs : List (Key × V)} {k : Key} {v : V} (h : k ∉ kvs.map (·.1)) : putK kvs k v = kvs ++ [(k, v)] := by
  unfold putK
  rw [if_neg]
  intro z
  obtain ⟨p, hp, e⟩ := List.any_eq_true.mp z
  exact h (List.mem_map.mpr ⟨p, hp, of_decide_eq_true e⟩)
theorem mergeK_app : ∀ (more acc : List (Key × V)), (acc.map (·.1) ++ more.map (·.1)).Nodup → mergeK acc more = acc ++ more
  | [], acc, _ => by simp [mergeK]
  | p :: more, acc, h => by
    have hp : p.1 ∉ acc.map (·.1) := fun z => by
      rw [List.map_cons, List.nodup_append] at h
      exact h.2.2 _ z _ List.mem_cons_self rfl
    show mergeK (putK acc p.1 p.2) more = _
    rw [putK_app hp, mergeK_app more _ (by rw [List.map_append, List.append_assoc]; exact h)]
    simp
end L2
namespace G
open PySem PySem.Spec PyProof.Rows L2 PySem.W
section
variable {tx : XC → Addr} {Y : YC} {Γ : List Cell} {te : TE} {α : Type} {d : Dat α}
/-- the written pairs -/
def DPs (Y : YC) (Γ : List Cell) (d : Dat α) : List (TE × TE) → List (Int × α) → Prop
  | [], [] => True
  | t :: ts, x :: xs => W Y t.1 Γ dInt (· = x.1) ∧ W Y t.2 Γ d (· = x.2) ∧ DPs Y Γ d ts xs
  | _, _ => False
def DReps (d : Dat α) (C : GCtx) (F : Hp) : List (V × V) → List (Int × α) → Prop
  | [], [] => True
  | p :: ps, x :: xs => p.1 = .int x.1 ∧ d.rep C F p.2 x.2 ∧ DReps d C F ps xs
  | _, _ => False
theorem DReps.keys {C : GCtx} {F : Hp} : ∀ {ps : List (V × V)} {xs : List (Int × α)}, DReps d C F ps xs → ∃ kvs : List (Key × V), ps = kvs.map (fun kv => (kV kv.1, kv.2)) ∧ kvs.map (·.1) = xs.map (fun x => Sum.inl x.1) ∧ KReps d C F kvs xs
  | [], [], _ => ⟨[], rfl, rfl, trivial⟩
  | p :: ps, x :: xs, h => by
    obtain ⟨kvs, e1, e2, r⟩ := DReps.keys h.2.2
    obtain ⟨p1, p2⟩ := p
    obtain ⟨h1, h2, _⟩ := h
    refine ⟨(Sum.inl x.1, p2) :: kvs, ?_, ?_, rfl, h2, r⟩
    · rw [List.map_cons, ← e1, show p1 = .int x.1 from h1]; rfl
    · rw [List.map_cons, List.map_cons, e2]
  | [], _ :: _, h => h.elim
  | _ :: _, [], h => h.elim
theorem disp_run {e : En} {F1 : Hp} {σ : _root_.L2.St} {H1 : Hp} {p : Addr} (s1 : State Y e F1 σ H1 Γ) : ∀ (trs : List (TE × TE)) (kvs : List (Int × α)), DPs Y Γ d trs kvs → ∀ (F H : Hp) (kw : Wk ⟨F1, H1, []⟩ F [(p, .dK [])] H) (Q : List (V × V) → Hp → Prop),
    (∀ F' H' ps, Wk ⟨F1, H1, []⟩ F' [(p, .dK [])] H' → DReps d Y.g F' ps kvs → Same F F' → Q ps H') → tPairs trs σ H Q
  | [], [], _, F, H, kw, Q, q => q F H [] kw trivial (Same.refl F)
  | t :: ts, x :: xs, h, F, H, kw, Q, q => by
    refine h.1 e F σ H (s1.growL kw) _ fun v2 F2 H2 k hk g2 r2 => ?_
    have kw2 := kw.trans0 g2
    refine h.2.1 e F2 σ H2 (s1.growL kw2) _ fun v3 F3 H3 y hy g3 r3 => ?_
    have kw3 := kw2.trans0 g3
    subst hk
    subst hy
    refine disp_run s1 ts xs h.2.2 F3 H3 kw3 _ fun F' H' ps kw' r' sm => ?_
    exact q F' H' ((v2, v3) :: ps) kw' ⟨r2, d.mono sm r3, r'⟩ (g2.ff.trans (g3.ff.trans sm))
  | [], _ :: _, h, _, _, _, _, _ => h.elim
  | _ :: _, [], h, _, _, _, _, _ => h.elim
theorem oe_disp {trs : List (TE × TE)} {kvs : List (Int × α)} (h : DPs Y Γ d trs kvs) (nd : (kvs.map fun x => x.1).Nodup) (hl : kvs.length ≤ 15) : Oe tx Y (tDisp trs) Γ (oDI (d := d)) (.ok ⟨kvs⟩) := fun nb xk e F σ H s Q q p hp => by
  have kw0 : Wk ⟨F, H, []⟩ F [(p, .dK [])] (upd H p (.dK [])) := s.base.own hp (fun _ z => by cases z)
  refine disp_run s trs kvs h F _ kw0 _ fun F' H' ps kw r _ => ?_
  obtain ⟨ks, e1, e2, kr⟩ := r.keys
  have hks : ks.length = kvs.length := kr.len
  have hm : mergeK [] ks = ks := by
    have := mergeK_app ks [] (by
      rw [List.map_nil, List.nil_append, e2]
      rw [show (kvs.map fun x => (Sum.inl x.1 : Key)) = (kvs.map fun x => x.1).map Sum.inl by rw [List.map_map]; rfl]
      exact List.Pairwise.map _ (fun a b z y => z (Sum.inl.inj y)) nd)
    simpa using this
  refine ⟨(kw.ow (p, .dK []) (by simp)).2.1, ks, e1, by omega, ?_⟩
  rw [hm]
  exact q _ F' _ _ _ rfl (kw.put (fun _ z => by cases z)) ⟨p, ks, rfl, rfl, kr⟩
end
end G
end

noncomputable section
/-! M104: comprehensions over the keys of a locked int dict (ic_keysI); a dict of the top with text keys and ints (KDS, we_kgetS). -/
namespace L2
open PySem PySem.Spec PyProof.Rows
/-- what stands in a dict of the top with text keys -/
structure KDS (K : PySem.W.Frag) (w : World) (a : Addr) (kvs : List (Str × Int)) : Prop where
  at_ : ∀ k z, kvs.lookup k = some z → KDct K w a k (.int z)
theorem KDS.nil {K : PySem.W.Frag} {w : World} {a : Addr} : KDS K w a [] := ⟨fun k z h => by cases h⟩
theorem KDS.cons {K : PySem.W.Frag} {w : World} {a : Addr} {kvs : List (Str × Int)} {k : Str} {z : Int} (h : KDct K w a k (.int z)) (r : KDS K w a kvs) : KDS K w a ((k, z) :: kvs) := ⟨fun k' z' e => by
  rw [List.lookup_cons] at e
  cases hk : (k' == k) with
  | true =>
    rw [hk] at e
    cases e
    rw [eq_of_beq hk]
    exact h
  | false =>
    rw [hk] at e
    exact r.at_ k' z' e⟩
theorem ix_kdS {X : Cx} (K : PySem.W.Frag) (w : World) (hK : X.K = K := by rfl) (hw : X.w = w := by rfl) : IxR X (rIxD K w) := hK ▸ hw ▸ ix_kdict
end L2
namespace G
open PySem PySem.Spec PyProof.Rows L2 PySem.W
section
variable {tx : XC → Addr} {Y : YC} {Γ : List Cell} {tb tl te : TE} {α β : Type} {d : Dat α}
theorem w_kgetS {D : Addr} {kvs : List (Str × Int)} {k : Int → Prop} (hD : KDS Y.K Y.w D kvs) (h : R Y tb Γ dStr fun n => ∃ z, kvs.lookup n = some z ∧ k z) : W Y (tOp (rIxD Y.K Y.w) (tC (.ref D)) tb) Γ dInt k := fun e F σ H s Q q => h e F σ H s _ fun v F' H' n ⟨z, hz, kz⟩ g r => by
  cases (show v = .str n from r)
  exact ⟨D, n, .int z, rfl, rfl, hD.at_ n z hz, q _ _ _ z kz g rfl⟩
theorem we_kgetS {D : Addr} {kvs : List (Str × Int)} {m : M Str} (hD : KDS Y.K Y.w D kvs) (h : Re tx Y tb Γ dStr m) : We tx Y (tOp (rIxD Y.K Y.w) (tC (.ref D)) tb) Γ dInt (m >>= fun n => M.ofO (kvs.lookup n)) := fun nb xk =>
  w_kgetS hD (h.k nb xk fun n e nb2 _ => by
    cases hz : kvs.lookup n with
    | none => rw [hz] at nb2; exact absurd rfl nb2
    | some z => exact ⟨z, rfl, by rw [e]; show M.ofO (kvs.lookup n) = _; rw [hz]; rfl⟩)
theorem ic_keysI {m : M (DI α)} (h : We tx Y tl Γ (dIL (d := d)) m) : Ic tx Y (iKeys tl) Γ dInt (m >>= fun s => M.asrt (s.kv.length ≤ PySem.sizeLine) (.ok (s.kv.map Prod.fst))) := fun nb xk β d2 g tt te vs kx hT hb e F σ H s Q q => h.k nb xk (k := fun s => m = .ok s ∧ s.kv.length ≤ PySem.sizeLine) (fun s e nb2 _ => ⟨e, M.asrt_nb nb2⟩) e F σ H s _ fun v F1 H1 s0 ⟨hm, hz⟩ g1 ⟨a, o, ps, e1, ha, r⟩ => by
  subst e1
  obtain ⟨I, h0, hs, hd⟩ := hb (s0.kv.map Prod.fst) (by rw [hm]; exact M.asrt_pos hz) (by rw [List.length_map]; exact hz)
  refine ⟨a, o, rfl, .inl ⟨ps, g1.fh _ _ ha, fun D hD => ?_⟩⟩
  have kw0 : Wk ⟨F1, H1, []⟩ F1 [(D, .lst [])] (upd H1 D (.lst [])) := g1.base.own hD (fun _ z => by cases z)
  refine lc_it walk_keys (fun i H => ∃ F' acc ys, Wk ⟨F1, H1, []⟩ F' [(D, .lst acc)] H ∧ Reps d2 Y.g F' acc ys ∧ I i ys) ⟨F1, [], [], kw0, trivial, h0⟩ (fun i H _ ⟨F', acc, ys, kw, _⟩ => (kw.ff.trans kw.fh) _ _ ha) (fun i x H H' hi p ⟨eH, k', v', hk, ex⟩ => ?_) fun H ⟨F', acc, ys, kw, ra, hi⟩ => ?_
  · subst eH ex
    obtain ⟨y, hy, ek, _⟩ := r.getV hk
    subst ek
    exact comp_turnT (s.grow g1) hT.1 (hs i y.1 · (by show (s0.kv.map Prod.fst)[i]? = _; rw [List.getElem?_map, hy]; rfl)) (fun F' _ _ => rfl) p
  · rw [KReps.len r, ← List.length_map (f := Prod.fst)] at hi
    exact q _ F' H _ ys (hd ys hi) (by simpa using g1.trans kw) ⟨D, acc, rfl, rfl, ra⟩
end
end G
end

noncomputable section
/-! M105: comprehensions with two fors whose items are new lists, owned (oe_lc2O). -/
namespace G
open PySem PySem.Spec PyProof.Rows L2 PySem.W
/-- the heap without some objects -/
def lessS (H : Hp) (S : List Addr) : Hp := fun a => if a ∈ S then none else H a
theorem lessS_in {H : Hp} {S : List Addr} {a : Addr} (h : a ∈ S) : lessS H S a = none := if_pos h
theorem lessS_out {H : Hp} {S : List Addr} {a : Addr} (h : a ∉ S) : lessS H S a = H a := if_neg h
theorem lessS_some {H : Hp} {S : List Addr} {a : Addr} {o : HO} (h : lessS H S a = some o) : H a = some o := by
  unfold lessS at h
  split at h
  · cases h
  · exact h
theorem State.lessS {C : GCtx} {e : En} {F : Hp} {σ : L2.St} {H : Hp} {Γ : List Cell} {S : List Addr} (s : State (calm C) e F σ H Γ) (h0 : ∀ a, a ∈ S → e.H0 a ≠ none) (hm : ∀ a, a ∈ S → a ∉ e.M) (hf : ∀ a, a ∈ S → F a = none) : ∃ M, State (calm C) ⟨F, G.lessS H S, M⟩ F σ (G.lessS H S) Γ := by
  obtain ⟨_, L, k, sl⟩ := s
  have hne : ∀ p ∈ L, p.1 ∉ S := fun p hp e1 => by
    rcases (k.ow p hp).2.2 with z | z
    · exact h0 _ e1 z
    · exact hm _ e1 z
  refine ⟨L.map Prod.fst, fun _ _ _ _ _ _ hk _ _ => hk, L, ⟨Same.refl _, fun _ _ _ h => h, fun _ h => h, fun a o h => ?_, fun _ _ h => h, fun a xs h => k.tp a xs (lessS_some h), fun p hp => ⟨(k.ow p hp).1, ?_, .inr (List.mem_map.mpr ⟨p, hp, rfl⟩)⟩, k.nd⟩, sl⟩
  · rw [lessS_out fun e1 => by rw [hf a e1] at h; cases h]
    exact k.fh a o h
  · rw [lessS_out (hne p hp)]
    exact (k.ow p hp).2.1
section
variable {Y : YC} {Γ : List Cell} {α β γ : Type} {d : Dat α} {d1 : Dat γ} {d2 : Dat β} {g g1 : TG} {tt tt1 : TT} {te : TE} {ti ti1 : L2.TI} {vs vs1 : List Nat}
/-- what a comprehension with two fors asks -/
def CompO2 (Y : YC) (g : TG) (tt : TT) (ti1 : L2.TI) (g1 : TG) (tt1 : TT) (te : TE) (vs1 : List Nat) {α β γ : Type} (d : Dat α) (d1 : Dat γ) {d2 : Dat β} (od : OD β) (kx : List β → Prop) (xs : List α) (Γ : List Cell) : Prop :=
  ∃ I : Nat → List β → Prop, I 0 [] ∧ (∀ i x ys, xs[i]? = some x → I i ys → A Y g Γ d x fun Γ2 => T Y tt Γ2 fun b => (b = true → Iwk Y ti1 Γ2 d1 fun zs => ∃ I1 : Nat → List β → Prop, I1 0 ys ∧
    (∀ j z ws, zs[j]? = some z → I1 j ws → A Y g1 (wipeC Γ2 vs1) d1 z fun Γ3 => T Y tt1 Γ3 fun b => (b = true → O Y te Γ3 od fun w => ws.length < PySem.sizeLine ∧ I1 (j + 1) (ws ++ [w])) ∧ (b = false → I1 (j + 1) ws)) ∧ ∀ ws, I1 zs.length ws → I (i + 1) ws) ∧ (b = false → I (i + 1) ys)) ∧ ∀ ys, I xs.length ys → kx ys
theorem comp_turn2O {od : @OD β d2} {e : En} {F1 : Hp} {σ : L2.St} {H1 : Hp} {D : Addr} {x : α} {v : V} {i : Nat} {I : Nat → List β → Prop} (s1 : State Y e F1 σ H1 Γ) (hD : H1 D = none) (hT : Tg g vs) (hT1 : Tg g1 vs1)
    (hs : ∀ ys, I i ys → A (calm Y.g) g (wipeC Γ vs) d x fun Γ2 => T (calm Y.g) tt Γ2 fun b => (b = true → Iwk (calm Y.g) ti1 Γ2 d1 fun zs => ∃ I1 : Nat → List β → Prop, I1 0 ys ∧
      (∀ j z ws, zs[j]? = some z → I1 j ws → A (calm Y.g) g1 (wipeC Γ2 vs1) d1 z fun Γ3 => T (calm Y.g) tt1 Γ3 fun b => (b = true → O (calm Y.g) te Γ3 od fun w => ws.length < PySem.sizeLine ∧ I1 (j + 1) (ws ++ [w])) ∧ (b = false → I1 (j + 1) ws)) ∧ ∀ ws, I1 zs.length ws → I (i + 1) ws) ∧ (b = false → I (i + 1) ys))
    (rx : ∀ F', Same F1 F' → d.rep Y.g F' v x) {H : Hp} (h : ∃ F' acc ys L, Wk ⟨F1, H1, []⟩ F' ((D, .lst acc) :: L) H ∧ OReps od Y.g F' acc ys L ∧ I i ys) :
    g v (wipe σ vs) H fun σ2 H2 => wipe σ2 vs = wipe σ vs ∧ tt σ2 H2 fun b H3 =>
      if b = true then ti1 σ2 H3 fun J1 H4 => ∃ W1 : Nat → Nat → Hp → Prop, (∃ m, W1 0 m H4) ∧ ∀ j k H, W1 j k H →
        (J1.stop j H ∧ ∃ F' acc ys L, Wk ⟨F1, H1, []⟩ F' ((D, .lst acc) :: L) H ∧ OReps od Y.g F' acc ys L ∧ I (i + 1) ys) ∨ (J1.go j H ∧ ∃ Nx1 : Hp → Prop, (∀ H', Nx1 H' → ∃ k', k' < k ∧ W1 (j + 1) k' H') ∧ ∀ x H', J1.yld j H x H' → g1 x (wipe σ2 vs1) H' fun σ3 H5 => wipe σ3 vs1 = wipe σ2 vs1 ∧ tt1 σ3 H5 fun b H6 =>
          if b = true then te σ3 H6 fun y H7 => ∃ acc, H7 D = some (.lst acc) ∧ acc.length < PySem.sizeLine ∧ Nx1 (upd H7 D (.lst (acc ++ [y]))) else Nx1 H6)
      else ∃ F' acc ys L, Wk ⟨F1, H1, []⟩ F' ((D, .lst acc) :: L) H3 ∧ OReps od Y.g F' acc ys L ∧ I (i + 1) ys := by
  obtain ⟨F', acc, ys, L, kw, r, hi⟩ := h
  obtain ⟨_, L1, k1, sl1⟩ := s1
  have k2 := k1.trans kw
  have hdis : ∀ a, a ∈ ((D, (.lst acc : HO)) :: L).map Prod.fst → a ∉ L1.map Prod.fst := fun a ha hb => by
    have := k2.nd
    rw [List.map_append, List.nodup_append] at this
    exact this.2.2 a ha a hb rfl
  have k3 : Wk e F' L1 H := k2.sub (fun p hp => List.mem_append_right _ hp) k1.nd
  have st : State (calm Y.g) ⟨F', H, L1.map Prod.fst⟩ F' σ H Γ := ⟨fun _ _ _ _ _ _ hk _ _ => hk, L1, ⟨Same.refl _, fun _ _ _ h => h, fun _ h => h, k3.fh, fun _ _ h => h, k3.tp, fun p hp => ⟨(k3.ow p hp).1, (k3.ow p hp).2.1, .inr (List.mem_map.mpr ⟨p, hp, rfl⟩)⟩, k3.nd⟩, sl1.mono kw.ff⟩
  have hHS : ∀ a, a ∈ ((D, (.lst acc : HO)) :: L).map Prod.fst → H a ≠ none := fun a ha => by
    obtain ⟨p, hp, rfl⟩ := List.mem_map.mp ha
    rw [(kw.ow p hp).2.1]
    exact fun z => nomatch z
  have hH1 : ∀ a, a ∈ ((D, (.lst acc : HO)) :: L).map Prod.fst → H1 a = none := fun a ha => by
    obtain ⟨p, hp, rfl⟩ := List.mem_map.mp ha
    rcases (kw.ow p hp).2.2 with z | z
    · exact z
    · cases z
  have key := hs ys hi _ F' _ H v (st.wipe vs) (rx F' kw.ff) (fun σ2 H2 => tt σ2 H2 fun b H3 =>
      if b = true then ti1 σ2 H3 fun J1 H4 => ∃ W1 : Nat → Nat → Hp → Prop, (∃ m, W1 0 m H4) ∧ ∀ j k H, W1 j k H →
        (J1.stop j H ∧ ∃ F' acc ys L, Wk ⟨F1, H1, []⟩ F' ((D, .lst acc) :: L) H ∧ OReps od Y.g F' acc ys L ∧ I (i + 1) ys) ∨ (J1.go j H ∧ ∃ Nx1 : Hp → Prop, (∀ H', Nx1 H' → ∃ k', k' < k ∧ W1 (j + 1) k' H') ∧ ∀ x H', J1.yld j H x H' → g1 x (wipe σ2 vs1) H' fun σ3 H5 => wipe σ3 vs1 = wipe σ2 vs1 ∧ tt1 σ3 H5 fun b H6 =>
          if b = true then te σ3 H6 fun y H7 => ∃ acc, H7 D = some (.lst acc) ∧ acc.length < PySem.sizeLine ∧ Nx1 (upd H7 D (.lst (acc ++ [y]))) else Nx1 H6)
      else ∃ F' acc ys L, Wk ⟨F1, H1, []⟩ F' ((D, .lst acc) :: L) H3 ∧ OReps od Y.g F' acc ys L ∧ I (i + 1) ys) fun σ2 Γ2 h2 st2 => by
    refine h2 _ F' σ2 H st2 _ fun b F3 H3 kb g3 => ?_
    cases b with
    | false => exact ⟨F3, acc, ys, L, kw.trans0 g3, r.mono g3.ff, kb.2 rfl⟩
    | true =>
      refine kb.1 rfl _ F3 σ2 H3 (st2.grow g3) _ fun J1 F4 H4 us1 zs Gd1 ⟨I1, h10, h1s, h1d⟩ hz1 g4 hGd1 w1 r1 => ?_
      have st4 := (st2.grow g3).grow g4
      have kw4 := (kw.trans0 g3).trans0 g4
      have hF4 : ∀ a, a ∈ ((D, (.lst acc : HO)) :: L).map Prod.fst → F4 a = none := fun a ha => by
        obtain ⟨p, hp, rfl⟩ := List.mem_map.mp ha
        exact (kw4.ow p hp).1
      obtain ⟨M5, st5⟩ := st4.lessS (S := ((D, (.lst acc : HO)) :: L).map Prod.fst) hHS hdis hF4
      have kwA : Wk ⟨F4, G.lessS H4 (((D, (.lst acc : HO)) :: L).map Prod.fst), []⟩ F4 ((D, .lst acc) :: L) H4 := ⟨Same.refl _, fun a o _ h => lessS_some h, fun a h => by
        have h : G.lessS H4 (((D, (.lst acc : HO)) :: L).map Prod.fst) a ≠ none := h
        intro z
        refine h ?_
        unfold G.lessS
        split
        · rfl
        · exact z, kw4.fh, fun _ _ h => h, kw4.tp, fun p hp => ⟨(kw4.ow p hp).1, (kw4.ow p hp).2.1, .inl (lessS_in (List.mem_map.mpr ⟨p, hp, rfl⟩))⟩, kw4.nd⟩
      have kwB : Wk ⟨F1, H1, []⟩ F4 [] (G.lessS H4 (((D, (.lst acc : HO)) :: L).map Prod.fst)) := ⟨kw4.ff, fun a o hm h => by
        have h1 : H1 a = some o := h
        rw [lessS_out fun z => by rw [hH1 a z] at h1; cases h1]
        exact kw4.hh a o hm h, fun a h => by
        have h : H1 a ≠ none := h
        rw [lessS_out fun z => h (hH1 a z)]
        exact kw4.th a h, fun a o h => by
        rw [lessS_out fun z => by rw [hF4 a z] at h; cases h]
        exact kw4.fh a o h, kw4.nw, fun a xs h => kw4.tp a xs (lessS_some h), fun p hp => (nomatch hp), List.nodup_nil⟩
      refine ⟨fun j k H => k = us1.length - j ∧ j ≤ us1.length ∧ ∃ F' acc' ys L', Wk ⟨F4, G.lessS H4 (((D, (.lst acc : HO)) :: L).map Prod.fst), []⟩ F' ((D, .lst acc') :: L') H ∧ OReps od Y.g F' acc' ys L' ∧ I1 j ys, ⟨us1.length, by simp, Nat.zero_le _, F4, acc, ys, L, kwA, r.mono (g3.ff.trans g4.ff), h10⟩, ?_⟩
      rintro j k H5 ⟨rfl, hj, p1⟩
      have hG1 : Gd1 H5 := by
        obtain ⟨F5, acc5, ys5, L5, kw5, _⟩ := id p1
        exact hGd1 H5 (kw5.ff.trans kw5.fh)
      by_cases hlt : j < us1.length
      · refine .inr ⟨w1.goes j H5 hlt hG1, fun H => ∃ F' acc' ys L', Wk ⟨F4, G.lessS H4 (((D, (.lst acc : HO)) :: L).map Prod.fst), []⟩ F' ((D, .lst acc') :: L') H ∧ OReps od Y.g F' acc' ys L' ∧ I1 (j + 1) ys, fun H' p' => ⟨us1.length - (j + 1), by omega, rfl, hlt, p'⟩, fun z H' y => ?_⟩
        obtain ⟨e1, hz⟩ := w1.yields j H5 z H' hlt hG1 y
        subst e1
        obtain ⟨z', hz', rz⟩ := r1.getV hz
        exact compO_turn (Y := calm Y.g) st5 hT1 (h1s j z' · hz') (fun F' sm => d1.mono sm rz) p1
      · have ej : j = us1.length := by omega
        subst ej
        refine .inl ⟨w1.stops H5 hG1, ?_⟩
        obtain ⟨F5, acc5, ys5, L5, kw5, r5, h5⟩ := p1
        rw [r1.len] at h5
        exact ⟨F5, acc5, ys5, L5, by simpa using kwB.trans kw5, r5, h1d ys5 h5⟩
  have key2 := hT v _ H _ key
  rw [wipe_wipeB] at key2
  exact key2
theorem o_lc2O {od : @OD β d2} {kx : List β → Prop} (hT : Tg g vs) (hT1 : Tg g1 vs1) (h : Iwk Y ti Γ d fun xs => CompO2 (calm Y.g) g tt ti1 g1 tt1 te vs1 d d1 od kx xs (wipeC Γ vs)) : O Y (tLc2 ti g tt ti1 g1 tt1 te vs vs1) Γ (oDeep od) kx := fun e F σ H s Q q => h e F σ H s _ fun J F1 H1 us xs Gd ⟨I, h0, hs, hd⟩ hz gg hGd w r D hD => by
  have kw0 : Wk ⟨F1, H1, []⟩ F1 [(D, .lst [])] (upd H1 D (.lst [])) := gg.base.own hD (fun _ z => by cases z)
  refine ⟨fun i m H => m = us.length - i ∧ i ≤ us.length ∧ ∃ F' acc ys L, Wk ⟨F1, H1, []⟩ F' ((D, .lst acc) :: L) H ∧ OReps od Y.g F' acc ys L ∧ I i ys, ⟨us.length, by simp, Nat.zero_le _, F1, [], [], [], kw0, rfl, h0⟩, ?_⟩
  rintro i m H' ⟨rfl, hi, p⟩
  have hG : Gd H' := by
    obtain ⟨F', acc, ys, L, kw, _⟩ := id p
    exact hGd H' (kw.ff.trans kw.fh)
  by_cases hlt : i < us.length
  · refine .inr ⟨w.goes i H' hlt hG, fun H => ∃ F' acc ys L, Wk ⟨F1, H1, []⟩ F' ((D, .lst acc) :: L) H ∧ OReps od Y.g F' acc ys L ∧ I (i + 1) ys, fun H'' p' => ⟨us.length - (i + 1), by omega, rfl, hlt, p'⟩, fun v H'' y => ?_⟩
    obtain ⟨e1, hv⟩ := w.yields i H' v H'' hlt hG y
    subst e1
    obtain ⟨x, hx, rx⟩ := r.getV hv
    exact comp_turn2O (s.grow gg) hD hT hT1 (hs i x · hx) (fun F' sm => d.mono sm rx) p
  · have ei : i = us.length := by omega
    subst ei
    refine .inl ⟨w.stops H' hG, ?_⟩
    obtain ⟨F', acc, ys, L, kw, ra, hI⟩ := p
    rw [r.len] at hI
    exact q _ F' H' _ ys (hd ys hI) (by simpa using gg.trans kw) ⟨D, acc, L, rfl, rfl, ra⟩
end
section
variable {tx : XC → Addr} {Y : YC} {Γ : List Cell} {α β γ : Type} {d : Dat α} {d1 : Dat γ} {d2 : Dat β} {g g1 : TG} {tt tt1 : TT} {te : TE} {ti ti1 : L2.TI} {vs vs1 : List Nat}
theorem oe_lc2O {od : @OD β d2} {m0 : M (List α)} {p : α → M Bool} {m1 : α → M (List γ)} {p1 : α → γ → M Bool} {f : α → γ → M β} (hT : Tg g vs ∧ MoG g) (hT1 : Tg g1 vs1 ∧ MoG g1) (h : Iw tx Y ti Γ d m0)
    (hb : ∀ x, A (calm Y.g) g (wipeC Γ vs) d x fun Γ2 => Te tx (calm Y.g) tt Γ2 (p x) ∧ Iw tx (calm Y.g) ti1 Γ2 d1 (m1 x) ∧ ∀ z, A (calm Y.g) g1 (wipeC Γ2 vs1) d1 z fun Γ3 => Te tx (calm Y.g) tt1 Γ3 (p1 x z) ∧ Oe tx (calm Y.g) te Γ3 od (f x z)) :
    Oe tx Y (tLc2 ti g tt ti1 g1 tt1 te vs vs1) Γ (oDeep od) (m0 >>= M.lc2 p m1 p1 f) := fun nb xk => o_lc2O (d1 := d1) hT.1 hT1.1 fun e F σ H s R q => h (M.nb1 nb) xk.l e F σ H s R fun J F1 H1 us xs Gd em hz gg hG w r => q J F1 H1 us xs Gd (by
  have nb2 : (M.lc2 p m1 p1 f xs).nb := M.nb2 nb em
  obtain ⟨tot, et⟩ := M.comp2_tot p m1 p1 f xs (M.nb1 nb2)
  have htl : tot.length ≤ PySem.sizeLine := by
    unfold M.lc2 at nb2
    rw [et] at nb2
    exact M.asrt_nb nb2
  have efin : (m0 >>= M.lc2 p m1 p1 f) = .ok tot := by
    rw [em]
    show M.lc2 p m1 p1 f xs = _
    unfold M.lc2
    rw [et]
    exact M.asrt_pos htl
  refine ⟨fun i ys => M.comp2 p m1 p1 f (xs.take i) = .ok ys, rfl, fun i x ys hx hi => ?_, fun ys hi => ?_⟩
  · have hlt : i < xs.length := (List.getElem?_eq_some_iff.mp hx).1
    have htk : xs.take (i + 1) = xs.take i ++ [x] := by rw [List.take_add_one, hx]; rfl
    have hdr : xs = xs.take i ++ (x :: xs.drop (i + 1)) := by
      have h1 : xs = xs.take (i + 1) ++ xs.drop (i + 1) := (List.take_append_drop _ _).symm
      rw [htk, List.append_assoc] at h1
      exact h1
    have e0 : M.comp2 p m1 p1 f xs = (M.part p m1 p1 f x >>= fun a => M.comp2 p m1 p1 f (xs.drop (i + 1)) >>= fun b => .ok (ys ++ (a ++ b))) := by
      conv => lhs; rw [hdr]
      rw [M.comp2_app, hi, M.comp2_cons]
      simp only [M.assoc, M.ok_bind]
    have e1 : M.comp2 p m1 p1 f (xs.take (i + 1)) = (M.part p m1 p1 f x >>= fun a => .ok (ys ++ a)) := by
      rw [htk, M.comp2_app, hi, M.comp2_cons]
      simp only [M.assoc, M.ok_bind, M.comp2, List.append_nil]
    have nbp : (M.part p m1 p1 f x).nb := fun z => by rw [z] at e0; rw [e0] at et; cases et
    have hpt := M.part_tot p m1 p1 f x nbp
    intro e2 F2 σ2 H2 v s2 r2 Q q2
    refine hb x e2 F2 σ2 H2 v s2 r2 Q fun σ' Γ' ⟨ht, hw, ha⟩ s' => q2 σ' Γ' ?_ s'
    have hpb : ∃ b, p x = .ok b := by
      rcases hpt with ⟨e3, _⟩ | ⟨_, _, e3, _⟩ <;> exact ⟨_, e3⟩
    obtain ⟨b, hb1⟩ := hpb
    refine t_mono (ht (by rw [hb1]; exact fun z => nomatch z) (by rw [hb1]; exact XkM.ok)) fun b' eb => ⟨fun z => ?_, fun z => ?_⟩
    · rw [hb1] at eb
      cases eb
      subst z
      rcases hpt with ⟨e3, _⟩ | ⟨zs, as, _, e4, e5, e6⟩
      · rw [hb1] at e3; cases e3
      rw [e6] at e0 e1
      simp only [M.ok_bind] at e0 e1
      have hpre : ∃ rest, tot = ys ++ (as ++ rest) := by
        rw [et] at e0
        cases hc : M.comp2 p m1 p1 f (xs.drop (i + 1)) with
        | ok rest => rw [hc] at e0; cases e0; exact ⟨rest, rfl⟩
        | bad => rw [hc] at e0; cases e0
        | exc z => rw [hc] at e0; cases e0
      intro e3 F3 σ3 H3 s3 R3 q3
      refine hw (by rw [e4]; exact fun z => nomatch z) (by rw [e4]; exact XkM.ok) e3 F3 σ3 H3 s3 R3 fun J1 F4 H4 us1 zs' Gd1 ez hz1 g4 hG1 w1 r1 => ?_
      rw [e4] at ez
      cases ez
      refine q3 J1 F4 H4 us1 zs Gd1 ⟨fun j ws => ∃ a, M.comp (p1 x) (f x) (zs.take j) = .ok a ∧ ws = ys ++ a, ⟨[], rfl, (List.append_nil _).symm⟩, fun j z ws hzj ⟨a, ea, ew⟩ => ?_, fun ws ⟨a, ea, ew⟩ => ?_⟩ hz1 g4 hG1 w1 r1
      · have hj : j < zs.length := (List.getElem?_eq_some_iff.mp hzj).1
        have hztk : zs.take (j + 1) = zs.take j ++ [z] := by rw [List.take_add_one, hzj]; rfl
        have e7 : M.comp (p1 x) (f x) (zs.take (j + 1)) = (M.comp (p1 x) (f x) [z] >>= fun b => .ok (a ++ b)) := by rw [hztk, M.comp_app, ea]; rfl
        have e8 : (M.comp (p1 x) (f x) [z] >>= fun b => M.comp (p1 x) (f x) (zs.drop (j + 1)) >>= fun c => .ok ((a ++ b) ++ c)) = .ok as := by
          rw [← e5]
          conv => rhs; rw [show zs = zs.take (j + 1) ++ zs.drop (j + 1) from (List.take_append_drop _ _).symm]
          rw [M.comp_app, e7]
          simp only [M.assoc, M.ok_bind]
        have nb3 : (M.comp (p1 x) (f x) [z]).nb := fun q => by rw [q] at e8; cases e8
        have hlen : ∀ bz, M.comp (p1 x) (f x) [z] = .ok bz → ys.length + a.length + bz.length ≤ PySem.sizeLine := fun bz ebz => by
          rw [ebz] at e8
          simp only [M.ok_bind] at e8
          obtain ⟨rest, er⟩ := hpre
          cases hc : M.comp (p1 x) (f x) (zs.drop (j + 1)) with
          | ok c =>
            rw [hc] at e8
            cases e8
            rw [er] at htl
            simp only [List.length_append] at htl
            omega
          | bad => rw [hc] at e8; cases e8
          | exc w => rw [hc] at e8; cases e8
        intro e9 F9 σ9 H9 v9 s9 r9 Q9 q9
        refine ha z e9 F9 σ9 H9 v9 s9 r9 Q9 fun σ10 Γ3 ⟨ht3, hw3⟩ s10 => q9 σ10 Γ3 ?_ s10
        simp only [M.comp] at nb3 e7 hlen
        obtain ⟨b2, hb2⟩ := M.calm_nb (M.nb1 nb3)
        rw [hb2] at nb3 e7 hlen
        simp only [M.calm_of_ok, M.ok_bind] at nb3 e7 hlen
        refine t_mono (ht3 (by rw [hb2]; exact fun z => nomatch z) (by rw [hb2]; exact XkM.ok)) fun b' eb => ⟨fun zz => ?_, fun zz => ?_⟩
        · rw [hb2] at eb
          cases eb
          subst zz
          rw [if_pos rfl] at nb3 e7 hlen
          obtain ⟨y, hy⟩ := M.calm_nb (M.nb1 nb3)
          rw [hy] at e7 hlen
          simp only [M.calm_of_ok, M.ok_bind] at e7 hlen
          refine o_mono (hw3 (by rw [hy]; exact fun z => nomatch z) (by rw [hy]; exact XkM.ok)) fun y' ey => ?_
          rw [hy] at ey
          cases ey
          have hl2 := hlen [y] rfl
          refine ⟨?_, a ++ [y], e7, by rw [ew, List.append_assoc]⟩
          rw [ew, List.length_append]
          simp only [List.length_singleton] at hl2
          omega
        · rw [hb2] at eb
          cases eb
          subst zz
          rw [if_neg (by simp)] at e7
          exact ⟨a, by rw [e7]; simp, ew⟩
      · rw [List.take_length, e5] at ea
        cases ea
        rw [e1, ew]
    · rw [hb1] at eb
      cases eb
      subst z
      rcases hpt with ⟨_, e6⟩ | ⟨_, _, e3, _⟩
      · rw [e1, e6]
        simp
      · rw [hb1] at e3; cases e3
  · have hi : M.comp2 p m1 p1 f (xs.take xs.length) = .ok ys := hi
    rw [List.take_length, et] at hi
    cases hi
    exact efin) hz gg hG w r
end
end G
end

noncomputable section
/-! M106: return [x for x in xs if t], xs an own list whose items are owned: the picked items are given (zm_retPick). -/
namespace G
open PySem PySem.Spec PyProof.Rows L2 PySem.W
section
variable {tx : XC → Addr} {Y : YC} {Γ : List Cell} {tt : TT} {α τ : Type} {d : Dat α} {js : List Nat} {rest : TS}
/-- picking owned items out of the list at a, wherever it comes from -/
theorem lcPick_at {e : En} {F : Hp} {σ : _root_.L2.St} {H : Hp} {od : @OD α d} {vs : List Nat} {j : Nat} {c0 : Cell} {kx : List α → Prop} (hj : j ∈ vs) (hc : (wipeC Γ vs)[j]? = some c0) (p : α → Bool) (s : State Y e F σ H Γ) {F1 H1 : Hp} {a : Addr} {us : List V} {L2 : LO} {xs : List α} (g1 : Wk ⟨F, H, []⟩ F1 ((a, .lst us) :: L2) H1) (r : OReps od Y.g F1 us xs L2)
    (hsz : xs.length ≤ PySem.sizeLine) (ht : ∀ x ∈ xs, T (calm Y.g) tt ((wipeC Γ vs).set j (.val d x)) (· = p x)) (hk : kx (xs.filter p)) {Q : VK} (q : ∀ v F' H' L' (x : List α), kx x → Wk ⟨F, H, []⟩ F' L' H' → (oDeep od).orep Y.g F' v x L' → Q v H') :
    tLc (iList Y.K (fun _ _ Q => Q (V.ref a) H1)) (gName j) tt (tVar j) vs σ H Q := by
  have s1 := s.growL g1
  have ha : H1 a = some (.lst us) := (g1.ow (a, .lst us) (by simp)).2.1
  refine ⟨a, rfl, ⟨us, .inl (.inl ha)⟩, fun D hD => ?_⟩
  have hDa : a ≠ D := ne_of_none ha hD
  have kw0 : Wk ⟨F, H, []⟩ F1 ((D, .lst []) :: ((a, .lst us) :: L2)) (upd H1 D (.lst [])) := g1.own hD (fun _ z => by cases z)
  refine lc_list (K := Y.K) (a := a) (xs := us) (fun i H' => ∃ F' acc La Lb, Wk ⟨F, H, []⟩ F' ((D, .lst acc) :: (a, .lst us) :: (La ++ Lb)) H' ∧ OReps od Y.g F' acc ((xs.take i).filter p) La ∧ OReps od Y.g F' (us.drop i) (xs.drop i) Lb ∧ Same F1 F') ⟨F1, [], [], L2, kw0, rfl, r, Same.refl _⟩ (fun i H' _ ⟨F', acc, La, Lb, kw, _⟩ => .inl (.inl (kw.ow (a, .lst us) (by simp)).2.1)) (fun i w H' hw ⟨F', acc, La, Lb, kw, ra, rb, sm⟩ => ?_) fun H' ⟨F', acc, La, Lb, kw, ra, rb, sm⟩ => ?_
  · -- one turn
    have hlt : i < us.length := (List.getElem?_eq_some_iff.mp hw).1
    have hlx : i < xs.length := by rw [← r.len]; exact hlt
    have hx : xs[i]? = some xs[i] := by simp [hlx]
    generalize xs[i] = x at hx
    have hxm : x ∈ xs := List.mem_of_getElem? hx
    have du : us.drop i = w :: us.drop (i + 1) := by rw [← List.getElem_cons_drop hlt]; congr 1; exact (List.getElem?_eq_some_iff.mp hw).2
    have dx : xs.drop i = x :: xs.drop (i + 1) := by rw [← List.getElem_cons_drop hlx]; congr 1; exact (List.getElem?_eq_some_iff.mp hx).2
    rw [du, dx] at rb
    obtain ⟨Lx, Lb', eL, rx, rb'⟩ := rb
    subst eL
    -- the item, as if it were frozen
    obtain ⟨_, L0, k0, sl0⟩ := id s
    have kall := k0.trans kw
    obtain ⟨Lw, hLw, slw⟩ := (sl0.mono kw.ff).wipe vs
    obtain ⟨o1, M1, Mi, M2, f1, f2, f3, f4⟩ := slw.get hc
    have kx1 : Wk ⟨F', fun _ => none, []⟩ F' (Lx ++ (M1 ++ M2)) H' := by
      refine kall.blank.sublist ?_
      refine List.Sublist.append ?_ (List.Sublist.trans ?_ hLw)
      · refine .cons _ (.cons _ ?_)
        exact List.Sublist.trans (List.sublist_append_left _ _) (List.sublist_append_right _ _)
      · rw [f2, List.append_assoc]
        exact List.Sublist.append_left (List.sublist_append_right _ _) _
    have fx : ∀ q ∈ Lx, F' q.1 = none := fun q hq => (kx1.ow q (List.mem_append_left _ hq)).1
    have nx : (Lx.map Prod.fst).Nodup := by
      have n := kx1.nd
      rw [List.map_append] at n
      exact (List.nodup_append.mp n).1
    have kf := kx1.freeze fun _ _ z => (nomatch z)
    have smx := same_plus fx nx
    have repx : d.rep Y.g (plus F' Lx) w x := od.view rx smx (plus_get fx nx)
    have st2 : State (calm Y.g) ⟨F', fun _ => none, []⟩ (plus F' Lx) ((wipe σ vs).set j (some w)) H' ((wipeC Γ vs).set j (.val d x)) :=
      ⟨fun _ _ _ _ _ _ z => z.elim, M1 ++ M2, kf, by simpa using f4 (plus F' Lx) (some w) (.val d x) [] smx ⟨rfl, w, rfl, repx⟩⟩
    have hwj : ((wipe σ vs).set j (some w))[j]? = some (some w) := by
      rw [List.getElem?_set_self]
      rw [slw.len]
      exact (List.getElem?_eq_some_iff.mp hc).1
    have tk : ((xs.take (i + 1)).filter p) = (xs.take i).filter p ++ (if p x then [x] else []) := getElem?_filterTake p xs hx
    refine ⟨by rw [wipe_at hj, wipe_wipe], ht x hxm _ _ _ _ st2 _ fun b F2 H2 hb g2 => ?_⟩
    subst hb
    have g3 := fresh_gr kw.base g2
    have kw3 := kw.trans0 g3
    have ra3 := ra.mono g3.ff
    have rb3 := rb'.mono g3.ff
    cases hp : p x with
    | true =>
      rw [hp, if_pos rfl] at tk
      refine ⟨w, hwj, acc, (kw3.ow (D, .lst acc) (by simp)).2.1, ?_, fresh F' H' F2, acc ++ [w], La ++ Lx, Lb', ?_, ?_, rb3, sm.trans g3.ff⟩
      · rw [ra3.len]
        have h1 := List.length_filter_le p (xs.take i)
        rw [List.length_take] at h1
        omega
      · have k4 : Wk ⟨F, H, []⟩ (fresh F' H' F2) ((D, .lst (acc ++ [w])) :: (a, .lst us) :: (La ++ (Lx ++ Lb'))) _ := kw3.put (o' := .lst (acc ++ [w])) (fun _ z => by cases z)
        rw [List.append_assoc]
        exact k4
      · rw [tk]
        exact ra3.append (OReps.one (od.omono g3.ff rx))
    | false =>
      rw [hp, if_neg (fun z => (nomatch z)), List.append_nil] at tk
      refine ⟨fresh F' H' F2, acc, La, Lb', kw3.sublist ?_, by rw [tk]; exact ra3, rb3, sm.trans g3.ff⟩
      exact .cons₂ _ (.cons₂ _ (List.Sublist.append_left (List.sublist_append_right _ _) _))
  · rw [r.len, List.take_length] at ra
    exact q _ F' H' ((D, .lst acc) :: La) _ hk (kw.sublist (.cons₂ _ (.cons _ (List.sublist_append_left _ _)))) ⟨D, acc, La, rfl, rfl, ra⟩
theorem z_retPick {k : Ks} {od : @OD α d} {i j : Nat} {pin : Option V} {c0 : Cell} {xs : List α} (hi : Γ[i]? = some (.own (dList (d := d)) (oDeep od) pin xs)) (hc : (wipeC (Γ.set i .no) [j])[j]? = some c0) (p : α → Bool) (hsz : xs.length ≤ PySem.sizeLine)
    (ht : ∀ x ∈ xs, T (calm Y.g) tt ((wipeC (Γ.set i .no) [j]).set j (.val d x)) (· = p x)) (hk : k.rt (.own (dList (d := d)) (oDeep od) none (xs.filter p)) (Γ.set i .no)) : Z Y (tRet (tLc (iList Y.K (tVar i)) (gName j) tt (tVar j) [j])) Γ k := fun e F σ H D hM s c => by
  obtain ⟨hx, L, k0, sl⟩ := s
  obtain ⟨o, L1, Li, Lr, e1, e2, ⟨v, rfl, _, a, us, L2, rfl, rfl, r⟩, f⟩ := sl.get hi
  subst e2
  have sl2 := f F (some (V.ref a)) .no [] (Same.refl F) rfl
  rw [List.append_nil] at sl2
  have hset : σ.set i (some (V.ref a)) = σ := by
    apply List.ext_getElem?
    intro m
    by_cases hm : i = m
    · subst hm
      rw [List.getElem?_set_self (List.getElem?_eq_some_iff.mp e1).1, e1]
    · rw [List.getElem?_set_ne hm]
  rw [hset] at sl2
  have knd := k0.nd
  rw [List.map_append, List.map_append, List.nodup_append, List.nodup_append] at knd
  obtain ⟨⟨n1, n2, n12⟩, n3, n123⟩ := knd
  have hdis : ∀ b, b ∈ ((a, (.lst us : HO)) :: L2).map Prod.fst → b ∉ (L1 ++ Lr).map Prod.fst := fun b hb hc => by
    rw [List.map_append] at hc
    rcases List.mem_append.mp hc with hc | hc
    · exact n12 b hc b hb rfl
    · exact n123 b (List.mem_append_right _ hb) b hc rfl
  have inS : ∀ b, b ∈ ((a, (.lst us : HO)) :: L2).map Prod.fst → ∃ p ∈ ((a, (.lst us : HO)) :: L2), p.1 = b ∧ F b = none ∧ H b = some p.2 ∧ e.H0 b = none := fun b hb => by
    obtain ⟨p, hp, rfl⟩ := List.mem_map.mp hb
    have ow := k0.ow p (List.mem_append_left _ (List.mem_append_right _ hp))
    refine ⟨p, hp, rfl, ow.1, ow.2.1, ?_⟩
    rcases ow.2.2 with z | z
    · exact z
    · rw [hM] at z; cases z
  have kr : Wk e F (L1 ++ Lr) H := k0.sub (fun p hp => by
    rcases List.mem_append.mp hp with hp | hp
    · exact List.mem_append_left _ (List.mem_append_left _ hp)
    · exact List.mem_append_right _ hp) (by
    rw [List.map_append, List.nodup_append]
    exact ⟨n1, n3, fun x hx y hy => n123 x (List.mem_append_left _ hx) y hy⟩)
  have st : State (calm Y.g) ⟨F, H, (L1 ++ Lr).map Prod.fst⟩ F σ H (Γ.set i .no) := ⟨fun _ _ _ _ _ _ hk _ _ => hk, L1 ++ Lr, ⟨Same.refl _, fun _ _ _ h => h, fun _ h => h, kr.fh, fun _ _ h => h, kr.tp, fun p hp => ⟨(kr.ow p hp).1, (kr.ow p hp).2.1, .inr (List.mem_map.mpr ⟨p, hp, rfl⟩)⟩, kr.nd⟩, sl2⟩
  obtain ⟨M5, st5⟩ := st.lessS (S := ((a, (.lst us : HO)) :: L2).map Prod.fst) (fun b hb => by
    obtain ⟨p, _, _, _, h, _⟩ := inS b hb
    show H b ≠ none
    rw [h]
    exact fun z => nomatch z) hdis (fun b hb => let ⟨_, _, _, h, _, _⟩ := inS b hb; h)
  have g1 : Wk ⟨F, G.lessS H (((a, (.lst us : HO)) :: L2).map Prod.fst), []⟩ F ((a, .lst us) :: L2) H := ⟨Same.refl _, fun a o _ h => lessS_some h, fun b h => by
    have h : G.lessS H (((a, (.lst us : HO)) :: L2).map Prod.fst) b ≠ none := h
    intro z
    refine h ?_
    unfold G.lessS
    split
    · rfl
    · exact z, kr.fh, fun _ _ h => h, kr.tp, fun p hp => by
    obtain ⟨p', hp', e3, h1, h2, _⟩ := inS p.1 (List.mem_map.mpr ⟨p, hp, rfl⟩)
    have ow := k0.ow p (List.mem_append_left _ (List.mem_append_right _ hp))
    exact ⟨ow.1, ow.2.1, .inl (lessS_in (List.mem_map.mpr ⟨p, hp, rfl⟩))⟩, n2⟩
  have kb : Wk e F (L1 ++ Lr) (G.lessS H (((a, (.lst us : HO)) :: L2).map Prod.fst)) := ⟨kr.ff, fun b o hm h => by
    rw [lessS_out fun z => by obtain ⟨_, _, _, _, _, h0⟩ := inS b z; rw [h0] at h; cases h]
    exact kr.hh b o hm h, fun b h => by
    rw [lessS_out fun z => by obtain ⟨_, _, _, _, _, h0⟩ := inS b z; exact h h0]
    exact kr.th b h, fun b o h => by
    rw [lessS_out fun z => by obtain ⟨_, _, _, h0, _, _⟩ := inS b z; rw [h0] at h; cases h]
    exact kr.fh b o h, kr.nw, fun b xs h => kr.tp b xs (lessS_some h), fun p hp => ⟨(kr.ow p hp).1, by
    rw [lessS_out fun z => hdis p.1 z (List.mem_map.mpr ⟨p, hp, rfl⟩)]
    exact (kr.ow p hp).2.1, (kr.ow p hp).2.2⟩, kr.nd⟩
  refine ⟨V.ref a, e1, ?_⟩
  have key := lcPick_at (Y := calm Y.g) (kx := fun zs => zs = xs.filter p) List.mem_cons_self hc p st5 g1 r hsz ht rfl (Q := D.rt) fun v F' H' L' x hx g rr => by
    subst hx
    exact c.rt F' σ H' (Γ.set i .no) v (.own (dList (d := d)) (oDeep od) none (xs.filter p)) L' (L1 ++ Lr) hk (kb.trans g) ⟨v, rfl, fun _ z => (nomatch z), rr⟩ (sl2.mono g.ff)
  exact key
theorem zm_retPick {cell : List α → Cell} {od : @OD α d} {i j : Nat} {pin : Option V} {c0 : Cell} {xs : List α} {pm : α → M Bool} (hi : Γ[i]? = some (.own (dList (d := d)) (oDeep od) pin xs)) (hc : (wipeC (Γ.set i .no) [j])[j]? = some c0)
    (ht : ∀ x, Te tx (calm Y.g) tt ((wipeC (Γ.set i .no) [j]).set j (.val d x)) (pm x)) (he : cell = fun r => .own (dList (d := d)) (oDeep od) none r := by rfl) :
    Zm tx Y js (tSeq (tRet (tLc (iList Y.K (tVar i)) (gName j) tt (tVar j) [j])) rest) Γ (KF cell) (M.asrt (xs.length ≤ PySem.sizeLine) (M.comp pm (fun x => .ok x) xs)) := fun nb xk => by
  subst he
  have hsz := M.asrt_nb nb
  have nb2 : (M.comp pm (fun x => .ok x) xs).nb := by rwa [M.asrt_pos hsz] at nb
  have hp : ∀ x ∈ xs, ∃ b, pm x = .ok b := by
    have gen : ∀ xs : List α, (M.comp pm (fun x => .ok x) xs).nb → ∀ x ∈ xs, ∃ b, pm x = .ok b := by
      intro xs
      induction xs with
      | nil => intro _ x hx; cases hx
      | cons y ys ih =>
        intro nb x hx
        have e : M.comp pm (fun x => .ok x) (y :: ys) = (M.comp pm (fun x => .ok x) [y] >>= fun a => M.comp pm (fun x => .ok x) ys >>= fun b => .ok (a ++ b)) := M.comp_app pm _ [y] ys
        rw [e] at nb
        have n1 : (M.comp pm (fun x => .ok x) [y]).nb := M.nb1 nb
        rcases List.mem_cons.mp hx with rfl | hx
        · simp only [M.comp] at n1
          exact M.calm_nb (M.nb1 n1)
        · refine ih ?_ x hx
          obtain ⟨a, ea⟩ := M.comp_tot pm (fun x => .ok x) [y] n1
          rw [ea] at nb
          exact M.nb1 nb
    exact gen xs nb2
  have hch : ∃ p : α → Bool, ∀ x ∈ xs, pm x = .ok (p x) := by
    refine ⟨fun x => match pm x with | .ok b => b | _ => false, fun x hx => ?_⟩
    obtain ⟨b, e⟩ := hp x hx
    simp only [e]
  obtain ⟨p, hp2⟩ := hch
  have ev : M.asrt (xs.length ≤ PySem.sizeLine) (M.comp pm (fun x => .ok x) xs) = .ok (xs.filter p) := by
    rw [M.asrt_pos hsz, M.comp_of p (fun x => x) xs hp2 fun _ _ _ => rfl, List.map_id']
  exact z_retPick (k := (KF fun r => Cell.own (dList (d := d)) (oDeep od) none r).ks _) hi hc p hsz (fun x hx => t_mono (ht x (by rw [hp2 x hx]; exact fun z => nomatch z) (by rw [hp2 x hx]; exact XkM.ok)) fun b eb => by rw [hp2 x hx] at eb; cases eb; rfl) ⟨_, ev, rfl⟩
end
end G
end

noncomputable section
/-! M107: [e], e a new list that is owned from here on. -/
namespace G
open PySem PySem.Spec PyProof.Rows L2 PySem.W
section
variable {tx : XC → Addr} {Y : YC} {Γ : List Cell} {te : TE} {α : Type} {d : Dat α}
end
end G
end

noncomputable section
/-! M108: xs.index(y) for texts (we_indexS). -/
namespace G
open PySem PySem.Spec PyProof.Rows L2 PySem.W
section
variable {tx : XC → Addr} {Y : YC} {Γ : List Cell} {ta tb : TE}
theorem w_indexS {k : Int → Prop} (h : W Y ta Γ (dList (d := dStr)) fun xs => W Y tb Γ dStr fun y => ∃ j : Nat, (xs.findIdx? fun z => decide (z = y)) = some j ∧ k j) :
    W Y (tBM Y.K "list" (rIndex Y.K) ta (tCons tb tNil)) Γ dInt k := fun e F σ H s Q q => h e F σ H s _ fun v1 F1 H1 xs h1 g1 ⟨a, vs, e1, hs, r⟩ => by
  subst e1
  refine ⟨.inl ⟨rfl, vs, g1.fh.seq hs⟩, h1 e F1 σ H1 (s.grow g1) _ fun v2 F2 H2 y ⟨j, hj, hk⟩ g2 r2 => ?_⟩
  rw [List.findIdx?_eq_some_iff_getElem] at hj
  obtain ⟨hlt, hp, hno⟩ := hj
  cases (show v2 = .str y from r2)
  have hv := r.strs
  subst hv
  refine ⟨a, xs.map V.str, .str y, j, .str xs[j], rfl, rfl, (g1.fh.trans g2.hh0).seq hs, rfl, ?_, ?_, ?_, fun m z' hm hz => ?_, q _ F2 H2 _ hk (g1.trans0 g2) rfl⟩
  · rw [List.all_map, List.all_eq_true]
    exact fun _ _ => rfl
  · rw [List.getElem?_map, List.getElem?_eq_getElem hlt]; rfl
  · show (xs[j] == y) = true
    rw [decide_eq_true_eq] at hp
    rw [hp]
    exact beq_self_eq_true y
  · rw [List.getElem?_map, List.getElem?_eq_getElem (by omega)] at hz
    cases hz
    have := hno m hm
    show (xs[m] == y) = false
    simpa using this
theorem we_indexS {m : M (List Str)} {n : M Str} (h : We tx Y ta Γ (dList (d := dStr)) m) (h2 : We tx Y tb Γ dStr n) : We tx Y (tBM Y.K "list" (rIndex Y.K) ta (tCons tb tNil)) Γ dInt (m >>= fun xs => n >>= fun y => M.idx xs y) := fun nb xk =>
  w_indexS (h.k nb xk fun x e nb xk => h2.k nb xk fun y e2 nb xk => by
    unfold M.idx at nb
    cases hf : x.findIdx? (fun z => decide (z = y)) with
    | none => rw [hf] at nb; exact absurd rfl nb
    | some j => exact ⟨j, rfl, by rw [e]; show (n >>= _) = _; rw [e2]; show M.idx x y = _; unfold M.idx; rw [hf]; rfl⟩)
end
end G
namespace L2
open PySem PySem.Spec PyProof.Rows
end L2

noncomputable section
/-! M109: zm_retPick where the list is asked for its bound (iListB). -/
namespace G
open PySem PySem.Spec PyProof.Rows L2 PySem.W
section
variable {tx : XC → Addr} {Y : YC} {js : List Nat} {Γ : List Cell} {tt : TT} {rest : TS} {α : Type} {d : Dat α}
end
end G

noncomputable section
/-! M110: texts: s[k] (we_ixS), s[a:b] (we_slS), one sign in a text (we_inSg, we_niSg), walks over a text's signs (ie_str, ic_str). -/
namespace G
open PySem PySem.Spec PyProof.Rows L2 PySem.W
def rInSg : R2 := fun x y H Q => ∃ (c : Nat) (z : Str), x = .str ⟨#[c]⟩ ∧ y = .str z ∧ Q (.bl (decide (c ∈ z.cps.toList))) H
def rNiSg : R2 := fun x y H Q => ∃ (c : Nat) (z : Str), x = .str ⟨#[c]⟩ ∧ y = .str z ∧ Q (.bl (!decide (c ∈ z.cps.toList))) H
theorem op_inSg {X : Cx} : OpR X (compareOp .In) rInSg := op_in_sign
def signs (z : Str) : List Str := z.cps.toList.map fun c => (⟨#[c]⟩ : Str)
def M.signs (z : Str) : M (List Str) := M.asrt (z.cps.size ≤ PySem.sizeLine) (.ok (G.signs z))
def M.ixS (z : Str) (i : Int) : M Str := M.asrt (z.length ≤ PySem.sizeLine) (M.ofO ((atI z.cps.toList i).map fun c => (⟨#[c]⟩ : Str)))
def M.slS (z : Str) (lo hi : Option Int) : M Str := M.asrt (z.length ≤ PySem.sizeLine) (.ok (cutS z lo hi))
def M.inSg (x z : Str) : M Bool := match x.cps.toList with | [c] => .ok (decide (c ∈ z.cps.toList)) | _ => .bad
def M.niSg (x z : Str) : M Bool := match x.cps.toList with | [c] => .ok (!decide (c ∈ z.cps.toList)) | _ => .bad
theorem str_one {x : Str} {c : Nat} (h : x.cps.toList = [c]) : x = ⟨#[c]⟩ := by
  obtain ⟨a⟩ := x
  congr 1
  exact Array.toList_inj.mp h
section
variable {tx : XC → Addr} {Y : YC} {Γ : List Cell} {te ta tb : TE} {β : Type} {d2 : Dat β} {g : TG} {ts : TS} {k : Ks}
theorem we_ixS {m1 : M Str} {m2 : M Int} (h : We tx Y ta Γ dStr m1) (h2 : We tx Y tb Γ dInt m2) : We tx Y (tOp rIxS ta tb) Γ dStr (m1 >>= fun x => m2 >>= fun n => M.ixS x n) := fun nb xk e F σ H s Q q =>
  h.k nb xk (k := fun x => W Y tb Γ dInt fun n => ∃ c, atI x.cps.toList n = some c ∧ x.length ≤ PySem.sizeLine ∧ (m1 >>= fun x => m2 >>= fun n => M.ixS x n) = .ok (⟨#[c]⟩ : Str)) (fun x ex nb2 xk2 => h2.k nb2 xk2 fun n en nb3 xk3 => by
    have hz := M.asrt_nb nb3
    have e4 : M.ixS x n = M.ofO ((atI x.cps.toList n).map fun c => (⟨#[c]⟩ : Str)) := M.asrt_pos hz
    rw [e4] at nb3
    cases hc : atI x.cps.toList n with
    | none => rw [hc] at nb3; exact absurd rfl nb3
    | some c => exact ⟨c, rfl, hz, by rw [ex]; show (m2 >>= _) = _; rw [en]; show M.ixS x n = _; rw [e4, hc]; rfl⟩) e F σ H s _ fun v1 F1 H1 x hx g1 r1 => hx e F1 σ H1 (s.grow g1) _ fun v2 F2 H2 n ⟨c, hc, hz, hm⟩ g2 r2 => by
    cases (show v1 = .str x from r1)
    cases (show v2 = .int n from r2)
    exact ⟨x, n, c, rfl, rfl, hz, hc, q _ F2 H2 _ hm (g1.trans g2) rfl⟩
theorem we_inSg {m1 m2 : M Str} (h : We tx Y ta Γ dStr m1) (h2 : We tx Y tb Γ dStr m2) : We tx Y (tOp rInSg ta tb) Γ dBool (m1 >>= fun x => m2 >>= fun n => M.inSg x n) := fun nb xk e F σ H s Q q =>
  h.k nb xk (k := fun x => W Y tb Γ dStr fun n => ∃ c, x = ⟨#[c]⟩ ∧ (m1 >>= fun x => m2 >>= fun n => M.inSg x n) = .ok (decide (c ∈ n.cps.toList))) (fun x ex nb2 xk2 => h2.k nb2 xk2 fun n en nb3 xk3 => by
    cases hc : x.cps.toList with
    | nil => unfold M.inSg at nb3; rw [hc] at nb3; exact absurd rfl nb3
    | cons c l => cases l with
      | cons _ _ => unfold M.inSg at nb3; rw [hc] at nb3; exact absurd rfl nb3
      | nil => exact ⟨c, str_one hc, by rw [ex]; show (m2 >>= _) = _; rw [en]; show M.inSg x n = _; unfold M.inSg; rw [hc]⟩) e F σ H s _ fun v1 F1 H1 x hx g1 r1 => hx e F1 σ H1 (s.grow g1) _ fun v2 F2 H2 n ⟨c, hc, hm⟩ g2 r2 => by
    subst hc
    cases (show v1 = .str _ from r1)
    cases (show v2 = .str n from r2)
    exact ⟨c, n, rfl, rfl, q _ F2 H2 _ hm (g1.trans g2) rfl⟩
theorem we_niSg {m1 m2 : M Str} (h : We tx Y ta Γ dStr m1) (h2 : We tx Y tb Γ dStr m2) : We tx Y (tOp rNiSg ta tb) Γ dBool (m1 >>= fun x => m2 >>= fun n => M.niSg x n) := fun nb xk e F σ H s Q q =>
  h.k nb xk (k := fun x => W Y tb Γ dStr fun n => ∃ c, x = ⟨#[c]⟩ ∧ (m1 >>= fun x => m2 >>= fun n => M.niSg x n) = .ok (!decide (c ∈ n.cps.toList))) (fun x ex nb2 xk2 => h2.k nb2 xk2 fun n en nb3 xk3 => by
    cases hc : x.cps.toList with
    | nil => unfold M.niSg at nb3; rw [hc] at nb3; exact absurd rfl nb3
    | cons c l => cases l with
      | cons _ _ => unfold M.niSg at nb3; rw [hc] at nb3; exact absurd rfl nb3
      | nil => exact ⟨c, str_one hc, by rw [ex]; show (m2 >>= _) = _; rw [en]; show M.niSg x n = _; unfold M.niSg; rw [hc]⟩) e F σ H s _ fun v1 F1 H1 x hx g1 r1 => hx e F1 σ H1 (s.grow g1) _ fun v2 F2 H2 n ⟨c, hc, hm⟩ g2 r2 => by
    subst hc
    cases (show v1 = .str _ from r1)
    cases (show v2 = .str n from r2)
    exact ⟨c, n, rfl, rfl, q _ F2 H2 _ hm (g1.trans g2) rfl⟩
theorem w_slS {tl th : TO} {kx : Str → Prop} (h : W Y te Γ dStr fun z => TOk Y tl Γ fun lo => TOk Y th Γ fun hi => z.length ≤ PySem.sizeLine ∧ kx (cutS z lo hi)) : W Y (tSl rSlS te tl th) Γ dStr kx := fun e F σ H s Q q => h e F σ H s _ fun v F1 H1 z h1 g1 r1 => by
  cases (show v = .str z from r1)
  refine h1 e F1 σ H1 (s.grow g1) _ fun lo F2 H2 h2 g2 => h2 e F2 σ H2 ((s.grow g1).grow g2) _ fun hi F3 H3 h3 g3 => ⟨z, rfl, h3.1, ?_⟩
  exact q _ _ _ _ h3.2 ((g1.trans0 g2).trans g3) rfl
theorem we_slS {tl th : TO} {m : M Str} {n o : M (Option Int)} (h : We tx Y te Γ dStr m) (h2 : TOe tx Y tl Γ n) (h3 : TOe tx Y th Γ o) : We tx Y (tSl rSlS te tl th) Γ dStr (m >>= fun xs => n >>= fun lo => o >>= fun hi => M.slS xs lo hi) := fun nb xk =>
  w_slS (h.k nb xk fun xs e nb xk => to_mono (h2 (M.nb1 nb) xk.l) fun lo e2 => to_mono (h3 (M.nb1 (f := fun hi => M.slS xs lo hi) (M.nb2 (f := fun lo => o >>= fun hi => M.slS xs lo hi) nb e2)) (XkM.l (f := fun hi => M.slS xs lo hi) (XkM.r (f := fun lo => o >>= fun hi => M.slS xs lo hi) xk e2))) fun hi e3 => by
    have hp : xs.length ≤ PySem.sizeLine := M.asrt_nb (M.nb2 (f := fun hi => M.slS xs lo hi) (M.nb2 (f := fun lo => o >>= fun hi => M.slS xs lo hi) nb e2) e3)
    refine ⟨hp, ?_⟩
    rw [e]
    show (n >>= _) = _
    rw [e2]
    show (o >>= _) = _
    rw [e3]
    exact M.asrt_pos hp)
theorem signs_get {z : Str} {i : Nat} {c : Nat} (h : z.cps[i]? = some c) : (signs z)[i]? = some (⟨#[c]⟩ : Str) := by
  unfold signs
  rw [List.getElem?_map, Array.getElem?_toList, h]
  rfl
theorem signs_len (z : Str) : (signs z).length = z.cps.size := by
  unfold signs
  rw [List.length_map, Array.length_toList]
theorem z_forS {kt : Ks} (h : W Y te Γ dStr fun z => Body Y g ts dStr kt (fun i => (signs z)[i]?) (signs z).length Γ) : Z Y (tFor (iStr te) g ts) Γ kt := fun e F σ H D hM s c => h e F σ H s _ fun v F1 H1 z ⟨I, h0, hs, hd⟩ g1 r1 => by
  cases (show v = .str z from r1)
  have s1 := s.grow g1
  refine ⟨z, rfl, fun i m σ H => m = z.cps.size - i ∧ i ≤ z.cps.size ∧ ∃ F' Γ', State Y e F' σ H Γ' ∧ I i Γ', ⟨z.cps.size, by simp, Nat.zero_le _, F1, Γ, s1, h0⟩, ?_⟩
  rintro i m σ H ⟨rfl, hi, F', Γ', st, hI⟩
  by_cases hlt : i < z.cps.size
  · refine .inr ⟨hlt, fun σ' H' => ∃ F' Γ', State Y e F' σ' H' Γ' ∧ I (i + 1) Γ', fun σ' H' p => ⟨z.cps.size - (i + 1), by omega, rfl, hlt, p⟩, ?_⟩
    rintro x H' ⟨rfl, c', hc, rfl⟩
    refine hs i _ Γ' (signs_get hc) hI _ F' σ H' _ st rfl _ fun σ2 Γ2 h2 st2 => ?_
    exact h2 _ F' σ2 H' _ hM st2 ⟨fun F3 σ3 H3 Γ3 k3 st3 => ⟨F3, Γ3, st3, k3⟩, c.rt, c.nx, fun F3 σ3 H3 Γ3 k3 st3 => ⟨F3, Γ3, st3, k3⟩⟩
  · have hi2 : i = z.cps.size := by omega
    subst hi2
    rw [signs_len] at hd
    exact .inl ⟨Nat.le_refl _, c.nx F' σ H Γ' (hd Γ' hI) st⟩
theorem ie_str {m : M Str} (h : We tx Y te Γ dStr m) : Ie tx Y (iStr te) Γ dStr (m >>= fun z => .ok (signs z)) := fun nb xk g ts kt hb => z_forS (h.k nb xk fun z e _ _ => hb (signs z) (by rw [e]; rfl))
theorem ic_str {m : M Str} (h : We tx Y te Γ dStr m) : Ic tx Y (iStr te) Γ dStr (m >>= M.signs) := fun nb xk β d2 g tt te2 vs kx hT hb e F σ H s Q q => h.k nb xk (k := fun z => m = .ok z ∧ z.cps.size ≤ PySem.sizeLine) (fun z e nb2 _ => ⟨e, M.asrt_nb nb2⟩) e F σ H s _ fun v F1 H1 z ⟨hm, hz⟩ g1 r1 => by
  cases (show v = .str z from r1)
  refine ⟨z, rfl, fun D hD => ?_⟩
  obtain ⟨I, h0, hs, hd⟩ := hb (signs z) (by rw [hm]; exact M.asrt_pos hz) (by rw [signs_len]; exact hz)
  have kw0 : Wk ⟨F1, H1, []⟩ F1 [(D, .lst [])] (upd H1 D (.lst [])) := g1.base.own hD (fun _ z => by cases z)
  refine ⟨fun i m H => m = z.cps.size - i ∧ i ≤ z.cps.size ∧ ∃ F' acc ys, Wk ⟨F1, H1, []⟩ F' [(D, .lst acc)] H ∧ Reps d2 Y.g F' acc ys ∧ I i ys, ⟨z.cps.size, by simp, Nat.zero_le _, F1, [], [], kw0, trivial, h0⟩, ?_⟩
  rintro i m H ⟨rfl, hi, F', acc, zs, kw, ra, hI⟩
  by_cases hlt : i < z.cps.size
  · refine .inr ⟨hlt, fun H => ∃ F' acc ys, Wk ⟨F1, H1, []⟩ F' [(D, .lst acc)] H ∧ Reps d2 Y.g F' acc ys ∧ I (i + 1) ys, fun H' p' => ⟨z.cps.size - (i + 1), by omega, rfl, hlt, p'⟩, ?_⟩
    rintro x H' ⟨rfl, c', hc, rfl⟩
    exact comp_turn0 (d := dStr) (x := (⟨#[c']⟩ : Str)) (s.grow g1) hT.1 (hs i _ · (signs_get hc)) kw ra hI rfl
  · have hi2 : i = z.cps.size := by omega
    subst hi2
    rw [signs_len] at hd
    exact .inl ⟨Nat.le_refl _, q _ F' H _ zs (hd zs hI) (by simpa using g1.trans kw) ⟨D, acc, rfl, rfl, ra⟩⟩
end
end G
end

noncomputable section
/-! M111: tuple displays of plain data without lists (we_tupV2, we_tupV3). -/
namespace G
open PySem PySem.Spec PyProof.Rows L2 PySem.W
section
variable {tx : XC → Addr} {Y : YC} {Γ : List Cell} {ta tb tc : TE}
theorem w_tupV2 {k : PyData → Prop} (h : W Y ta Γ dUI fun x => W Y tb Γ dUI fun y => k (.tuple [x, y])) : W Y (tTup (tCons ta (tCons tb tNil))) Γ dUI k := fun e F σ H s Q q =>
  w_tup2 (d1 := dUI) (d2 := dUI) (k := fun p : PyData × PyData => k (.tuple [p.1, p.2])) h e F σ H s Q fun v F' H' p kp g ⟨a, v1, v2, e1, ht, r1, r2⟩ => q v F' H' _ kp g ⟨by show (noL _ && (noL _ && true)) = true; rw [r1.1, r2.1]; rfl, a, _, e1, ht, r1.2, r2.2, trivial⟩
theorem w_tupV3 {k : PyData → Prop} (h : W Y ta Γ dUI fun x => W Y tb Γ dUI fun y => W Y tc Γ dUI fun z => k (.tuple [x, y, z])) : W Y (tTup (tCons ta (tCons tb (tCons tc tNil)))) Γ dUI k := fun e F σ H s Q q =>
  w_tup3 (d1 := dUI) (d2 := dUI) (d3 := dUI) (k := fun p : T3 PyData PyData PyData => k (.tuple [p.a, p.b, p.c])) h e F σ H s Q fun v F' H' p kp g ⟨a, v1, v2, v3, e1, ht, r1, r2, r3⟩ => q v F' H' _ kp g ⟨by show (noL _ && (noL _ && (noL _ && true))) = true; rw [r1.1, r2.1, r3.1]; rfl, a, _, e1, ht, r1.2, r2.2, r3.2, trivial⟩
theorem we_tupV2 {m n : M PyData} (h : We tx Y ta Γ dUI m) (h2 : We tx Y tb Γ dUI n) : We tx Y (tTup (tCons ta (tCons tb tNil))) Γ dUI (m >>= fun x => n >>= fun y => .ok (PyData.tuple [x, y])) := fun nb xk =>
  w_tupV2 (h.k nb xk fun x e nb2 xk2 => h2.k nb2 xk2 fun y e2 _ _ => by rw [e]; show (n >>= _) = _; rw [e2]; rfl)
theorem we_tupV3 {m n o : M PyData} (h : We tx Y ta Γ dUI m) (h2 : We tx Y tb Γ dUI n) (h3 : We tx Y tc Γ dUI o) : We tx Y (tTup (tCons ta (tCons tb (tCons tc tNil)))) Γ dUI (m >>= fun x => n >>= fun y => o >>= fun z => .ok (PyData.tuple [x, y, z])) := fun nb xk =>
  w_tupV3 (h.k nb xk fun x e nb2 xk2 => h2.k nb2 xk2 fun y e2 nb3 xk3 => h3.k nb3 xk3 fun z e3 _ _ => by rw [e]; show (n >>= _) = _; rw [e2]; show (o >>= _) = _; rw [e3]; rfl)
end
end G
end

noncomputable section
/-! M112: kinds (instances of one attribute: plain data without lists). -/
namespace G
open PySem PySem.Spec PyProof.Rows L2 PySem.W
abbrev KindM := Ob1 PyData
section
variable (A : CA3)
@[reducible] def dKind : Dat KindM := dOb1 (d1 := dUI) (A.ob .Kind) "shape"
@[reducible] def oKind : @OD KindM (dKind A) := oOb1 (d1 := dUI) (A.ob .Kind) "shape"
theorem isI_Kind : IsI (dKind A) (A.ob .Kind) ["shape"] := isI1 (d1 := dUI)
theorem isF_Kind_shape : IsF (dKind A) (A.ob .Kind) "shape" dUI Ob1.a := isF1 (d1 := dUI)
end
end G
end

noncomputable section
/-! M113: exceptions whose one attribute is a text (zm_raise1S, we_xfS). -/
namespace G
open PySem PySem.Spec PyProof.Rows L2 PySem.W
section
variable {Y : YC} {Γ : List Cell} {k : Ks} {te t1 t2 : TE} {Cx : Addr} {f1 f2 : Str} {Wt : WX}
theorem z_raise1S (hE : Y.E = WE Wt) (h : R Y te Γ dStr fun n => Y.kx ⟨Cx, some [(f1, .str n)]⟩ Γ) : Z Y (fun _ σ H => tMkO Cx (spX1 Cx f1) [] (tCons te tNil) σ H fun cls d H' => Wt cls d σ H') Γ k := fun e F σ H D hM s c => h e F σ H s _ fun v F1 H1 n kn g r => by
  cases (show v = .str n from r)
  refine ⟨by show 1 ≤ 1000; omega, fun a ha => ⟨a, .str n, rfl, upd_same, fun d hd hda => ⟨rfl, d, [(f1, .str n)], upd_same, by rw [upd_ne hda, upd_same], ?_, ?_⟩⟩⟩
  · rw [upd_ne hda] at hd
    exact hd
  · rw [upd_ne hda] at hd
    have e1 : upd (del (upd (upd (upd H1 a (exo a Cx none)) d (exd d [(f1, .str n)])) a (exo a Cx (some d))) a) d (.xd [(f1, .str n)]) = upd H1 d (.xd [(f1, .str n)]) := by
      funext b
      by_cases hb : b = d
      · subst hb; rw [upd_same, upd_same]
      · rw [upd_ne hb, upd_ne hb]
        by_cases hb2 : b = a
        · subst hb2; rw [del_same, ha]
        · rw [del_ne hb2, upd_ne hb2, upd_ne hb, upd_ne hb2]
    rw [e1]
    have := s.1 ⟨Cx, some [(f1, .str n)]⟩ (some d) (upd F1 d (.xd [(f1, .str n)])) σ (upd H1 d (.xd [(f1, .str n)])) Γ kn ((s.grow g).grow (g.base.lay hd)).2 ⟨_, rfl, upd_same⟩
    rw [hE] at this
    exact this
end
section
variable {Y : YC} {Γ : List Cell} {k : Ks} {te : TE} {a Cx : Addr} {d : Option Addr} {x : Exn} {i : Nat}
theorem w_xfS {cls : Value} {f : Str} {n : Str} {fs : List (Str × V)} {kx : Str → Prop} (hi : Γ[i]? = some (.val (dExn a d) x)) (hc : cls = .ref x.cls) (hx : x.cls = Cx) (hf : x.fs = some fs) (hl : fs.lookup f = some (.str n)) (h : kx n) :
    W Y (tXf a cls d Cx f (tVar i)) Γ dStr kx := fun e F σ H s Q q => by
  obtain ⟨v, e1, e2, r⟩ := s.val hi
  subst e2
  refine ⟨.ref a, e1, rfl, by rw [hc, hx], ?_⟩
  cases d with
  | none => rw [show x.fs = none from r] at hf; cases hf
  | some dd =>
    obtain ⟨fs', e3, e4⟩ := r
    rw [hf] at e3
    cases e3
    exact ⟨dd, fs, .str n, rfl, s.fh _ _ e4, hl, q _ F H n h s.base rfl⟩
end
def M.raise1S {α : Type} (c : XC) (f : Str) (m : M Str) : M α := m >>= fun n => .exc ⟨c, some [(f, .str n)]⟩
def PX.fldS (x : PX) (c : XC) (f : Str) : M Str := if x.cls = c then (match x.fs with | some fs => (match fs.lookup f with | some (.str n) => .ok n | _ => .bad) | none => .bad) else .bad
section
variable {tx : XC → Addr} {Y : YC} {Γ : List Cell} {te : TE} {rest : TS} {js : List Nat} {τ : Type} {K : Kt τ} {Cx : Addr} {f1 f2 : Str} {Wt : WX}
theorem zm_raise1S {c : XC} {m : M Str} (hE : Y.E = WE Wt) (hc : tx c = Cx) (h : Re tx Y te Γ dStr m) : Zm tx Y js (tSeq (fun _ σ H => tMkO Cx (spX1 Cx f1) [] (tCons te tNil) σ H fun cls d H' => Wt cls d σ H') rest) Γ K (M.raise1S c f1 m) := fun nb xk => by
  subst hc
  exact z_raise1S (k := K.ks (M.raise1S c f1 m)) hE (r_mono (h (M.nb1 nb) xk.l.here) fun n e => xk ⟨c, some [(f1, .str n)]⟩ (by unfold M.raise1S; rw [e]; rfl) Γ rfl)
theorem we_xfS {a : Addr} {dd : Option Addr} {px : PX} {i : Nat} {c : XC} {f : Str} (hi : Γ[i]? = some (.val (dExn a dd) (px.x tx))) (hc : tx c = Cx) : We tx Y (tXf a (.ref (tx px.cls)) dd Cx f (tVar i)) Γ dStr (px.fldS c f) := fun nb xk => by
  subst hc
  unfold PX.fldS at nb ⊢
  split at nb
  · next hcls =>
    cases hfs : px.fs with
    | none => rw [hfs] at nb; exact absurd rfl nb
    | some fs =>
      rw [hfs] at nb
      cases hl : fs.lookup f with
      | none => simp only [hl] at nb; exact absurd rfl nb
      | some v =>
        cases v with
        | str n =>
          rw [if_pos hcls]
          exact w_xfS (x := px.x tx) (n := n) (fs := fs) hi rfl (by show tx px.cls = _; rw [hcls]) hfs hl (by simp only [hl])
        | _ => simp only [hl] at nb; exact absurd rfl nb
  · exact absurd rfl nb
end
end G
end

noncomputable section
/-! M114: dicts of the top with text keys and texts (KDT): d[k] (we_kgetT), k in d, k not in d (we_inKT, we_niKT). -/
namespace L2
open PySem PySem.Spec PyProof.Rows
inductive TEnt : List DictEntry → List (Str × Str) → Prop where
  | nil : TEnt [] []
  | cons {es : List DictEntry} {kvs : List (Str × Str)} (k z : Str) (t t2 : Tok) (h : Int) (r : TEnt es kvs) : TEnt (⟨h, .str k t, .str z t2⟩ :: es) ((k, z) :: kvs)
structure KDT (K : PySem.W.Frag) (w : World) (a : Addr) (kvs : List (Str × Str)) : Prop where
  at_ : ∃ es n, K.lookup a = some ⟨.type "dict", none, .dict es n, #[]⟩ ∧ PySem.W.KeysLit w.params es.toList ∧ (a == sysModules) = false ∧ TEnt es.toList kvs
theorem TEnt.ref : ∀ {es : List DictEntry} {kvs : List (Str × Str)}, TEnt es kvs → es.any (·.refKey) = false
  | _, _, .nil => rfl
  | _, _, .cons k z t t2 h r => by
    rw [List.any_cons, r.ref]
    rfl
theorem TEnt.find : ∀ {es : List DictEntry} {kvs : List (Str × Str)} (x : Str), TEnt es kvs → ((es.find? (·.key.isStr x)).map (·.val) = none ∧ kvs.lookup x = none) ∨ ∃ z t, (es.find? (·.key.isStr x)).map (·.val) = some (.str z t) ∧ kvs.lookup x = some z
  | _, _, x, .nil => .inl ⟨rfl, rfl⟩
  | _, _, x, .cons k z t t2 h r => by
    rw [List.find?_cons, List.lookup_cons]
    have e : (Value.str k t).isStr x = (x == k) := by
      show (k == x) = (x == k)
      exact BEq.comm
    rw [e]
    cases hk : (x == k) with
    | true => exact .inr ⟨z, t2, rfl, rfl⟩
    | false => exact r.find x
theorem KDT.ns {K : PySem.W.Frag} {w : World} {a : Addr} {kvs : List (Str × Str)} (h : KDT K w a kvs) (x : Str) : (PySem.W.nsIn K a x = some none ∧ kvs.lookup x = none) ∨ ∃ z t, PySem.W.nsIn K a x = some (some (.str z t)) ∧ kvs.lookup x = some z := by
  obtain ⟨es, n, e1, _, _, te⟩ := h.at_
  have hr := te.ref
  unfold PySem.W.nsIn
  rw [e1]
  simp only
  rcases te.find x with ⟨e2, e3⟩ | ⟨z, t, e2, e3⟩
  · left
    refine ⟨?_, e3⟩
    cases q : es.toList.find? (·.key.isStr x) with
    | none => simp only [hr]; rfl
    | some y => rw [q] at e2; cases e2
  · right
    refine ⟨z, t, ?_, e3⟩
    cases q : es.toList.find? (·.key.isStr x) with
    | none => rw [q] at e2; cases e2
    | some y =>
      rw [q] at e2
      simp only [Option.map_some, Option.some.injEq] at e2
      simp only [e2]
theorem KDT.get {K : PySem.W.Frag} {w : World} {a : Addr} {kvs : List (Str × Str)} {k z : Str} (h : KDT K w a kvs) (e : kvs.lookup k = some z) : KDct K w a k (.str z) := by
  obtain ⟨es, n, e1, e2, _, te⟩ := h.at_
  rcases h.ns k with ⟨_, q⟩ | ⟨z', t, q1, q2⟩
  · rw [e] at q; cases q
  · rw [e] at q2
    cases q2
    exact ⟨es, n, _, e1, e2, q1, ⟨t, rfl⟩⟩
def rInKT (K : PySem.W.Frag) (w : World) (D : Addr) (kvs : List (Str × Str)) : R2 := fun x y H Q => ∃ z : Str, x = .str z ∧ y = .ref D ∧ KDT K w D kvs ∧ Q (.bl (kvs.lookup z).isSome) H
def rNiKT (K : PySem.W.Frag) (w : World) (D : Addr) (kvs : List (Str × Str)) : R2 := fun x y H Q => ∃ z : Str, x = .str z ∧ y = .ref D ∧ KDT K w D kvs ∧ Q (.bl (!(kvs.lookup z).isSome)) H
theorem op_niKT {X : Cx} {D : Addr} {kvs : List (Str × Str)} (K : PySem.W.Frag) (w : World) (hD : KDT K w D kvs) (hK : X.K = K := by rfl) (hw : X.w = w := by rfl) : OpR X (compareOp .NotIn) (rNiKT K w D kvs) := by
  subst hK hw
  obtain ⟨es, n, e1, e2, e3, _⟩ := hD.at_
  intro pins s σ H x y v u Q I rx ry h
  obtain ⟨z, hx, hy, _, q⟩ := h
  refine op_notIn_kd (X := X) (d := D) (es := es) (n := n) ⟨e1, e2, e3⟩ pins s σ H x y v u Q I rx ry ?_
  rcases hD.ns z with ⟨q1, q2⟩ | ⟨z', t, q1, q2⟩
  · exact ⟨z, none, hx, hy, q1, by rw [q2] at q; exact q⟩
  · exact ⟨z, some _, hx, hy, q1, by rw [q2] at q; exact q⟩
end L2
namespace G
open PySem PySem.Spec PyProof.Rows L2 PySem.W
section
variable {tx : XC → Addr} {Y : YC} {Γ : List Cell} {ta tb : TE}
theorem w_kgetT {D : Addr} {kvs : List (Str × Str)} {k : Str → Prop} (hD : KDT Y.K Y.w D kvs) (h : R Y tb Γ dStr fun n => ∃ z, kvs.lookup n = some z ∧ k z) : W Y (tOp (rIxD Y.K Y.w) (tC (.ref D)) tb) Γ dStr k := fun e F σ H s Q q => h e F σ H s _ fun v F' H' n ⟨z, hz, kz⟩ g r => by
  cases (show v = .str n from r)
  exact ⟨D, n, .str z, rfl, rfl, hD.get hz, q _ _ _ z kz g rfl⟩
theorem we_kgetT {D : Addr} {kvs : List (Str × Str)} {m : M Str} (hD : KDT Y.K Y.w D kvs) (h : Re tx Y tb Γ dStr m) : We tx Y (tOp (rIxD Y.K Y.w) (tC (.ref D)) tb) Γ dStr (m >>= fun n => M.ofO (kvs.lookup n)) := fun nb xk =>
  w_kgetT hD (h.k nb xk fun n e nb2 _ => by
    cases hz : kvs.lookup n with
    | none => rw [hz] at nb2; exact absurd rfl nb2
    | some z => exact ⟨z, rfl, by rw [e]; show M.ofO (kvs.lookup n) = _; rw [hz]; rfl⟩)
theorem we_inKT {D : Addr} {kvs : List (Str × Str)} {m : M Str} (hD : KDT Y.K Y.w D kvs) (h : Re tx Y ta Γ dStr m) : We tx Y (tOp (rInKT Y.K Y.w D kvs) ta (tC (.ref D))) Γ dBool (m >>= fun n => .ok (kvs.lookup n).isSome) := fun nb xk e F σ H s Q q => h.k nb xk (k := fun n => m = .ok n) (fun n e _ _ => e) e F σ H s _ fun v F' H' n hm g r => by
  cases (show v = .str n from r)
  exact ⟨n, rfl, rfl, hD, q _ _ _ _ (by rw [hm]; rfl) g rfl⟩
theorem we_niKT {D : Addr} {kvs : List (Str × Str)} {m : M Str} (hD : KDT Y.K Y.w D kvs) (h : Re tx Y ta Γ dStr m) : We tx Y (tOp (rNiKT Y.K Y.w D kvs) ta (tC (.ref D))) Γ dBool (m >>= fun n => .ok (!(kvs.lookup n).isSome)) := fun nb xk e F σ H s Q q => h.k nb xk (k := fun n => m = .ok n) (fun n e _ _ => e) e F σ H s _ fun v F' H' n hm g r => by
  cases (show v = .str n from r)
  exact ⟨n, rfl, rfl, hD, q _ _ _ _ (by rw [hm]; rfl) g rfl⟩
end
end G
end

noncomputable section
/-! M115: xs.pop(), its answer dropped (zm_popLDrop). -/
namespace G
open PySem PySem.Spec PyProof.Rows L2 PySem.W
section
variable {tx : XC → Addr} {Y : YC} {Γ : List Cell} {rest : TS} {js : List Nat} {α τ : Type} {d : Dat α} {K : Kt τ}
theorem z_popLDrop {pin : Option V} {i : Nat} {xs : List α} {y : α} {k : Ks} (hi : Γ[i]? = some (.own (dList (d := d)) (oList (d := d)) pin (xs ++ [y]))) (h : k.nx (Γ.set i (.own (dList (d := d)) (oList (d := d)) pin xs))) :
    Z Y (tDrop (tBM0 Y.K "list" rPop (tVar i))) Γ k := fun e F σ H D hM s c => by
  obtain ⟨v, _, rest, e1, ⟨a, vs, rfl, rfl, r⟩, kw, f⟩ := s.mut hi
  have ha : H a = some (.lst vs) := (kw.ow (a, .lst vs) (by simp)).2.1
  have hl : vs.length = xs.length + 1 := by rw [r.len]; simp
  have hx : (xs ++ [y])[vs.length - 1]? = some y := by rw [hl]; simp
  obtain ⟨w, hw, rw'⟩ := r.get hx
  refine ⟨.ref a, e1, .inl ⟨rfl, vs, .inl (.inl ha)⟩, a, vs, w, rfl, rfl, ha, hw, ?_⟩
  have s2 := f F _ [(a, .lst vs.dropLast)] xs (Same.refl F) (kw.put (fun _ z => by cases z)) ⟨a, _, rfl, rfl, by
    have q := r.take xs.length
    rw [List.take_left] at q
    rw [List.dropLast_eq_take, hl]
    exact q⟩
  exact c.nx F _ _ _ h s2
theorem zm_popLDrop {pin : Option V} {i : Nat} {xs : List α} {m2 : List α × α → M τ} (hi : Γ[i]? = some (.own (dList (d := d)) (oList (d := d)) pin xs)) (hj : i ∈ js) (h2 : ∀ p, Zm tx Y js rest (Γ.set i (.own (dList (d := d)) (oList (d := d)) pin p.1)) K (m2 p)) :
    Zm tx Y js (tSeq (tDrop (tBM0 Y.K "list" rPop (tVar i))) rest) Γ K (M.popL xs >>= m2) := fun nb xk => by
  have nb1 : (M.popL xs).nb := M.nb1 nb
  cases q : xs.getLast? with
  | none => unfold M.popL at nb1; rw [q] at nb1; exact absurd rfl nb1
  | some y =>
    have e : M.popL xs = .ok (xs.dropLast, y) := by unfold M.popL; rw [q]
    have ex : xs = xs.dropLast ++ [y] := by
      obtain ⟨ys, rfl⟩ := List.getLast?_eq_some_iff.mp q
      simp
    exact z_seq (z_popLDrop (xs := xs.dropLast) (y := y) (by rw [← ex]; exact hi) ((h2 (xs.dropLast, y)).go nb xk e (wipeC_set hj)))
end
end G
end

noncomputable section
/-! M116: a list of two things that are unlike ([shape, end]): LP, its display, taken apart, its two items. -/
namespace G
open PySem PySem.Spec PyProof.Rows L2 PySem.W
structure LP (α β : Type) where
  a : α
  b : β
  deriving DecidableEq
instance dLP {α β : Type} [d1 : Dat α] [d2 : Dat β] : Dat (LP α β) :=
  ⟨fun C F v x => ∃ p v1 v2, v = .ref p ∧ Rd F p (.lst [v1, v2]) ∧ d1.rep C F v1 x.a ∧ d2.rep C F v2 x.b, fun s ⟨p, v1, v2, e, h, r1, r2⟩ => ⟨p, v1, v2, e, Same.rd s h, d1.mono s r1, d2.mono s r2⟩⟩
instance oLP {α β : Type} [d1 : Dat α] [d2 : Dat β] : OD (LP α β) where
  orep C F v x L := ∃ p v1 v2, v = .ref p ∧ L = [(p, .lst [v1, v2])] ∧ d1.rep C F v1 x.a ∧ d2.rep C F v2 x.b
  omono s := fun ⟨p, v1, v2, e, h, r1, r2⟩ => ⟨p, v1, v2, e, h, d1.mono s r1, d2.mono s r2⟩
  view := fun ⟨p, v1, v2, e, h, r1, r2⟩ s k => ⟨p, v1, v2, e, .inl (k (p, .lst [v1, v2]) (by rw [h]; exact List.mem_cons_self)), d1.mono s r1, d2.mono s r2⟩
section
variable {tx : XC → Addr} {Y : YC} {Γ : List Cell} {ta tb te : TE} {α β : Type} {d1 : Dat α} {d2 : Dat β}
theorem o_lp {k : LP α β → Prop} (h : W Y ta Γ d1 fun x => W Y tb Γ d2 fun y => k ⟨x, y⟩) : O Y (tLst (tCons ta (tCons tb tNil))) Γ (oLP (d1 := d1) (d2 := d2)) k := fun e F σ H s Q q => h e F σ H s _ fun v1 F1 H1 x h1 g1 r1 => h1 e F1 σ H1 (s.grow g1) _ fun v2 F2 H2 y ky g2 r2 =>
  ⟨show 2 ≤ PySem.sizeLine by decide, fun p hp => by
    have h3 := (g1.trans0 g2).trans (g2.base.own (o := .lst [v1, v2]) hp (fun _ z => by cases z))
    exact q _ F2 _ [(p, .lst [v1, v2])] ⟨x, y⟩ ky (by simpa using h3) ⟨p, v1, v2, rfl, rfl, d1.mono g2.ff r1, r2⟩⟩
theorem oe_lp {m : M α} {n : M β} (h : We tx Y ta Γ d1 m) (h2 : We tx Y tb Γ d2 n) : Oe tx Y (tLst (tCons ta (tCons tb tNil))) Γ (oLP (d1 := d1) (d2 := d2)) (m >>= fun x => n >>= fun y => .ok ⟨x, y⟩) := fun nb xk =>
  o_lp (h.k nb xk fun x e nb xk => h2.k nb xk fun y e2 nb xk => by rw [e]; show (n >>= _) = _; rw [e2]; rfl)
theorem w_lp0 {k : α → Prop} (h : W Y te Γ (dLP (d1 := d1) (d2 := d2)) fun x => k x.a) : W Y (tOp (rIxL Y.K) te (tC (.int 0))) Γ d1 k := fun e F σ H s Q q => h e F σ H s _ fun v F' H' x kx g ⟨a, v1, v2, ev, ht, r1, r2⟩ => by
  subst ev
  exact ⟨a, _, 0, v1, rfl, rfl, g.fh.seq (.inl ht), rfl, q v1 F' H' _ kx g r1⟩
theorem we_lp0 {m : M (LP α β)} (h : We tx Y te Γ (dLP (d1 := d1) (d2 := d2)) m) : We tx Y (tOp (rIxL Y.K) te (tC (.int 0))) Γ d1 (m >>= fun x => .ok x.a) := we_p1w (fun k h => w_lp0 h) h
theorem a_lp {g1 g2 : TG} {x : LP α β} {n : Nat} {kn : List Cell → Prop} (hn : n = 2) (h : A Y g1 Γ d1 x.a fun Γ1 => A Y g2 Γ1 d2 x.b kn) : A Y (gUnl Y.K n (gCons g1 (gCons g2 gNil))) Γ (dLP (d1 := d1) (d2 := d2)) x kn := fun e F σ H v s ⟨a, v1, v2, e1, ht, r1, r2⟩ Q q => by
  subst e1 hn
  refine ⟨a, [v1, v2], rfl, .inl (Same.rd s.fh ht), rfl, v1, [v2], rfl, h e F σ H v1 s r1 _ fun σ1 Γ1 h1 st1 => ⟨v2, [], rfl, h1 e F σ1 H v2 st1 r2 _ fun σ2 Γ2 h2 st2 => ⟨rfl, q σ2 Γ2 h2 st2⟩⟩⟩
end
end G
namespace L2
open PySem PySem.Spec PyProof.Rows
section
variable {X : Cx} (K : PySem.W.Frag)
theorem pg_unlK {es : List Expr} {k n : Nat} {t : TGs} {pos : Pos} (hc : X.calm = true) (h : PGs X es t) (hn : (assignEach es X.env).length = n := by rfl) (hst : (assignEach es X.env).findIdx? (·.1) = none := by rfl) (hK : X.K = K := by rfl) : PG X (.Tuple es k pos) (gUnl K n t) := hK ▸ pg_unl hc h hn hst
end
end L2
end

/-! GM: groups of a graph, in plain Lean. -/
namespace G
def Adj (pts : List Int) (ties : List (Int × Int)) (a b : Int) : Prop := a ∈ pts ∧ b ∈ pts ∧ ((a, b) ∈ ties ∨ (b, a) ∈ ties)
theorem Adj.symm {pts : List Int} {ties : List (Int × Int)} {a b : Int} (h : Adj pts ties a b) : Adj pts ties b a := ⟨h.2.1, h.1, h.2.2.symm⟩
inductive Reach (pts : List Int) (ties : List (Int × Int)) : Int → Int → Prop where
  | refl (x : Int) : Reach pts ties x x
  | tail {x y z : Int} (h : Reach pts ties x y) (a : Adj pts ties y z) : Reach pts ties x z
section
variable {pts : List Int} {ties : List (Int × Int)}
theorem Reach.trans {x y z : Int} (h : Reach pts ties x y) (g : Reach pts ties y z) : Reach pts ties x z := by
  induction g with
  | refl => exact h
  | tail _ a ih => exact .tail ih a
theorem Reach.symm {x y : Int} (h : Reach pts ties x y) : Reach pts ties y x := by
  induction h with
  | refl => exact .refl _
  | tail _ a ih => exact (Reach.tail (.refl _) a.symm).trans ih
theorem Reach.mem {x y : Int} (h : Reach pts ties x y) (hx : x ∈ pts) : y ∈ pts := by
  cases h with
  | refl => exact hx
  | tail _ a => exact a.2.1
noncomputable instance decReach {pts : List Int} {ties : List (Int × Int)} {x y : Int} : Decidable (Reach pts ties x y) := Classical.propDecidable _
def IsMin (pts : List Int) (ties : List (Int × Int)) (p : Int) : Prop := ∀ q ∈ pts, Reach pts ties p q → p ≤ q
noncomputable instance decMin {pts : List Int} {ties : List (Int × Int)} {x : Int} : Decidable (IsMin pts ties x) := Classical.propDecidable _
/-! near -/
/-! the search -/
/-- what holds while the group of p is searched: s0 is what was seen ahead of it -/
structure Dfs (pts : List Int) (ties : List (Int × Int)) (s0 : List Int) (p : Int) (seen group waiting : List Int) : Prop where
  nd : (group ++ waiting).Nodup
  sn : seen.Nodup
  mem : ∀ x, x ∈ seen ↔ x ∈ s0 ∨ x ∈ group ++ waiting
  re : ∀ x ∈ group ++ waiting, Reach pts ties p x ∧ x ∈ pts
  clo : ∀ x ∈ group, ∀ z, Adj pts ties x z → z ∈ seen
  st : p ∈ group ++ waiting
  /-- what is seen is of the points -/
  sub : ∀ x ∈ seen, x ∈ pts
theorem len_le {α : Type} [DecidableEq α] : ∀ {xs pts : List α}, xs.Nodup → (∀ x ∈ xs, x ∈ pts) → xs.length ≤ pts.length
  | [], _, _, _ => Nat.zero_le _
  | x :: xs, pts, h, hs => by
    have hx := hs x List.mem_cons_self
    have h1 := List.nodup_cons.mp h
    have ih := len_le (xs := xs) (pts := pts.erase x) h1.2 fun y hy => (List.mem_erase_of_ne (fun z => h1.1 (by rw [← z]; exact hy))).mpr (hs y (List.mem_cons_of_mem _ hy))
    have hl := List.length_erase_of_mem hx
    have hp := List.length_pos_of_mem hx
    simp only [List.length_cons]
    omega
/-- one neighbour more -/
theorem Dfs.push {s0 seen group waiting : List Int} {p m z : Int} (h : Dfs pts ties s0 p seen group waiting) (hm : m ∈ group) (a : Adj pts ties m z) (hz : z ∉ seen) :
    Dfs pts ties s0 p (seen ++ [z]) group (waiting ++ [z]) := by
  have h1 : z ∉ s0 := fun q => hz ((h.mem z).mpr (.inl q))
  have h2 : z ∉ group ++ waiting := fun q => hz ((h.mem z).mpr (.inr q))
  have hr := h.re m (List.mem_append_left _ hm)
  refine ⟨?_, ?_, fun x => ?_, fun x hx => ?_, fun x hx y ay => ?_, ?_, fun x hx => ?_⟩
  · rw [← List.append_assoc]
    refine List.nodup_append.mpr ⟨h.nd, by simp, fun x hx y hy e => ?_⟩
    rw [List.mem_singleton] at hy
    subst e hy
    exact h2 hx
  · refine List.nodup_append.mpr ⟨h.sn, by simp, fun x hx y hy e => ?_⟩
    rw [List.mem_singleton] at hy
    subst e hy
    exact hz hx
  · rw [← List.append_assoc, List.mem_append, List.mem_append, h.mem x, or_assoc]
  · rw [← List.append_assoc, List.mem_append, List.mem_singleton] at hx
    rcases hx with hx | rfl
    · exact h.re x hx
    · exact ⟨.tail hr.1 a, a.2.1⟩
  · exact List.mem_append_left _ (h.clo x hx y ay)
  · rw [← List.append_assoc]; exact List.mem_append_left _ h.st
  · rcases List.mem_append.mp hx with hx | hx
    · exact h.sub x hx
    · rw [List.mem_singleton] at hx; subst hx; exact a.2.1
/-- .. in the midst of the neighbours of m, which the group holds: done are those that were looked at -/
structure Dfs2 (pts : List Int) (ties : List (Int × Int)) (s0 : List Int) (p : Int) (seen group waiting : List Int) (m : Int) (done : List Int) : Prop where
  nd : (group ++ waiting).Nodup
  sn : seen.Nodup
  mem : ∀ x, x ∈ seen ↔ x ∈ s0 ∨ x ∈ group ++ waiting
  re : ∀ x ∈ group ++ waiting, Reach pts ties p x ∧ x ∈ pts
  clo : ∀ x ∈ group, x ≠ m → ∀ z, Adj pts ties x z → z ∈ seen
  st : p ∈ group ++ waiting
  sub : ∀ x ∈ seen, x ∈ pts
  hm : m ∈ group
  dn : ∀ z ∈ done, z ∈ seen
theorem Dfs.take {s0 seen group ws : List Int} {p m : Int} (h : Dfs pts ties s0 p seen group (ws ++ [m])) : Dfs2 pts ties s0 p seen (group ++ [m]) ws m [] := by
  have hp : ((group ++ [m]) ++ ws).Perm (group ++ (ws ++ [m])) := by
    rw [List.append_assoc]
    exact List.Perm.append_left _ List.perm_append_comm
  refine ⟨hp.nodup_iff.mpr h.nd, h.sn, fun x => by rw [h.mem x, hp.mem_iff], fun x hx => h.re x (hp.mem_iff.mp hx), fun x hx hne z a => ?_, hp.mem_iff.mpr h.st, h.sub, by simp, fun z hz => (nomatch hz)⟩
  rcases List.mem_append.mp hx with hx | hx
  · exact h.clo x hx z a
  · exact absurd (List.mem_singleton.mp hx) hne
theorem Dfs2.push {s0 seen group waiting dn : List Int} {p m z : Int} (h : Dfs2 pts ties s0 p seen group waiting m dn) (a : Adj pts ties m z) (hz : z ∉ seen) : Dfs2 pts ties s0 p (seen ++ [z]) group (waiting ++ [z]) m (dn ++ [z]) := by
  have h2 : z ∉ group ++ waiting := fun q => hz ((h.mem z).mpr (.inr q))
  refine ⟨?_, nodup_snoc h.sn hz, fun x => ?_, fun x hx => ?_, fun x hx hne y ay => List.mem_append_left _ (h.clo x hx hne y ay), ?_, fun x hx => ?_, h.hm, fun x hx => ?_⟩
  · rw [← List.append_assoc]; exact nodup_snoc h.nd h2
  · rw [← List.append_assoc, List.mem_append, List.mem_append, h.mem x, or_assoc]
  · rw [← List.append_assoc, List.mem_append, List.mem_singleton] at hx
    rcases hx with hx | rfl
    · exact h.re x hx
    · exact ⟨.tail (h.re m (List.mem_append_left _ h.hm)).1 a, a.2.1⟩
  · rw [← List.append_assoc]; exact List.mem_append_left _ h.st
  · rcases List.mem_append.mp hx with hx | hx
    · exact h.sub x hx
    · rw [List.mem_singleton] at hx; subst hx; exact a.2.1
  · rcases List.mem_append.mp hx with hx | hx
    · exact List.mem_append_left _ (h.dn x hx)
    · exact List.mem_append_right _ hx
theorem Dfs2.back {s0 seen group waiting dn : List Int} {p m : Int} (h : Dfs2 pts ties s0 p seen group waiting m dn) (hd : ∀ z, Adj pts ties m z → z ∈ dn) : Dfs pts ties s0 p seen group waiting :=
  ⟨h.nd, h.sn, h.mem, h.re, fun x hx z a => by
    by_cases e : x = m
    · subst e; exact h.dn z (hd z a)
    · exact h.clo x hx e z a, h.st, h.sub⟩
/-- the search is over -/
theorem Dfs.done {s0 seen group : List Int} {p : Int} (h : Dfs pts ties s0 p seen group []) (h0 : ∀ x y, x ∈ s0 → Reach pts ties x y → y ∈ s0) (hp : p ∉ s0) (x : Int) : x ∈ group ↔ x ∈ pts ∧ Reach pts ties p x := by
  have hg : ∀ y, y ∈ group ++ [] ↔ y ∈ group := fun y => by simp
  constructor
  · intro hx
    have := h.re x ((hg x).mpr hx)
    exact ⟨this.2, this.1⟩
  · rintro ⟨hx, hr⟩
    clear hx
    induction hr with
    | refl => exact (hg p).mp h.st
    | @tail y z hy a ih =>
      have := (h.mem z).mp (h.clo y ih z a)
      rcases this with q | q
      · exact absurd (h0 z p q (Reach.tail hy a).symm) hp
      · exact (hg z).mp q
/-- what has been seen behind the points xs -/
structure Seen (pts : List Int) (ties : List (Int × Int)) (xs seen : List Int) : Prop where
  nd : seen.Nodup
  mem : ∀ x, x ∈ seen ↔ x ∈ pts ∧ ∃ q ∈ xs, Reach pts ties q x
theorem Seen.clo {xs seen : List Int} (h : Seen pts ties xs seen) (x y : Int) (hx : x ∈ seen) (hr : Reach pts ties x y) : y ∈ seen := by
  obtain ⟨h1, q, hq, h2⟩ := (h.mem x).mp hx
  exact (h.mem y).mpr ⟨hr.mem h1, q, hq, h2.trans hr⟩
theorem Seen.start {xs seen : List Int} {p : Int} (h : Seen pts ties xs seen) (hp : p ∈ pts) (hn : p ∉ seen) : Dfs pts ties seen p (seen ++ [p]) [] [p] := by
  refine ⟨by simp, ?_, fun x => by simp, fun x hx => ?_, fun x hx => (nomatch hx), by simp, fun x hx => ?_⟩
  · refine List.nodup_append.mpr ⟨h.nd, by simp, fun x hx y hy e => ?_⟩
    rw [List.mem_singleton] at hy
    subst e hy
    exact hn hx
  · have e : x = p := by simpa using hx
    subst e
    exact ⟨.refl _, hp⟩
  · rcases List.mem_append.mp hx with hx | hx
    · exact ((h.mem x).mp hx).1
    · rw [List.mem_singleton] at hx; subst hx; exact hp
theorem Seen.next {xs seen seen' group : List Int} {p : Int} (h : Seen pts ties xs seen) (hn : p ∉ seen) (hd : Dfs pts ties seen p seen' group []) : Seen pts ties (xs ++ [p]) seen' := by
  refine ⟨hd.sn, fun x => ?_⟩
  have q := hd.done (fun a b => h.clo a b) hn x
  rw [hd.mem x, List.append_nil, q, h.mem x]
  constructor
  · rintro (⟨h1, y, hy, h2⟩ | ⟨h1, h2⟩)
    · exact ⟨h1, y, List.mem_append_left _ hy, h2⟩
    · exact ⟨h1, p, by simp, h2⟩
  · rintro ⟨h1, y, hy, h2⟩
    rcases List.mem_append.mp hy with hy | hy
    · exact .inl ⟨h1, y, hy, h2⟩
    · rw [List.mem_singleton] at hy; subst hy; exact .inr ⟨h1, h2⟩
/-! groups hang together -/
end
end G

/-! GN: groups by labels, in plain Lean. -/
namespace G
section
variable {pts : List Int} {ties : List (Int × Int)}
def Cor (pts : List Int) (ts : List (Int × Int)) (kv : List (Int × Int)) (x : Int) : Prop := ∃ y, kv.lookup x = some y ∧ IsMin pts ts y
noncomputable instance decCor {pts : List Int} {ts : List (Int × Int)} {kv : List (Int × Int)} {x : Int} : Decidable (Cor pts ts kv x) := Classical.propDecidable _
end
end G

/-! PM: models of the helpers that the laws share, and of the program (printed by gen3.py). -/
namespace PM
open PySem L2 G
/-- _law_cell -/
noncomputable def l_cell_m (script : (Sq Int)) (k : Int) : M Int :=
  if (decide (k < (script.l.length : Int))) then
  (M.ix script.l k)
else
  (M.ok (0 : Int))
/-- _law_draws -/
noncomputable def l_draws_m (cell_here : Int) (many : Int) : M (List Int) :=
  (M.ok (if cell_here < 0 then -cell_here else cell_here)) >>= fun rest_1 =>
  (M.ok (decide ((1000000000000000000 : Int) ≤ rest_1))) >>= fun exact_2 =>
  (M.ok ((rest_1 % (2147483629 : Int)) + (17 : Int))) >>= fun mixed_3 =>
  (M.ok ([] : (List Int))) >>= fun draws_here_4 =>
  (M.range many) >>= fun l12 =>
  M.fold (fun (s5 : (Int × Int × (List Int))) x6 =>
    (M.ok ((((s5.2.1 * (48271 : Int)) + ((9973 : Int) * x6)) + (11 : Int)) % (2147483647 : Int))) >>= fun mixed_7 =>
      if (exact_2 && (decide ((0 : Int) < s5.1))) then
      M.push s5.2.2 (M.ok (s5.1 % (60 : Int))) >>= fun draws_here_8 =>
        (M.ok (s5.1 / (60 : Int))) >>= fun rest_9 =>
        M.ok (rest_9, mixed_7, draws_here_8)
    else
      M.push s5.2.2 (M.ok ((mixed_7 / (13 : Int)) % (60 : Int))) >>= fun draws_here_10 =>
        M.ok (s5.1, mixed_7, draws_here_10)) (rest_1, mixed_3, draws_here_4) l12 >>= fun (s11 : (Int × Int × (List Int))) =>
  M.ok s11.2.2
/-- _law_pick -/
noncomputable def l_pick_m (draws_here : (List Int)) (k : Int) (many : Int) : M Int :=
  if ((decide (many < (2 : Int))) || (decide ((draws_here.length : Int) = (0 : Int)))) then
  (M.ok (0 : Int))
else
  (((M.asrt (0 < (draws_here.length : Int)) (.ok (k % (draws_here.length : Int)))) >>= fun t1 => (M.ix draws_here t1)) >>= fun t2 => (M.asrt (0 < many) (.ok (t2 % many))))
/-- check_end -/
noncomputable def p_check_end_m (sides : (List Int)) (place : Int) (side : Int) : M Unit :=
  if ((decide (place < (0 : Int))) || (decide ((sides.length : Int) ≤ place))) then
  M.raise1 .UnknownPlace "place" (M.ok place)
else
  (if (decide (side < (0 : Int))) then .ok true else ((M.ix sides place) >>= fun t1 => (M.ok (decide (t1 ≤ side))))) >>= fun b2 => if b2 then
    M.raise2 .UnknownSide "place" "side" (M.ok place) (M.ok side)
  else
    M.ok ()
/-- Web.__init__ -/
noncomputable def m_WebX_initX_m (sides : (List Int)) (ties : (List (T4 Int Int Int Int))) : M WebM :=
  if (decide ((200 : Int) < (sides.length : Int))) then
  M.raise1 .TooLarge "limit" (M.ok (200 : Int))
else
  if (decide ((300 : Int) < (ties.length : Int))) then
    M.raise1 .TooLarge "limit" (M.ok (300 : Int))
  else
    (M.ok (M.enumL sides)) >>= fun l12 =>
      M.fold (fun (_ : Unit) x2 =>
        if ((decide (x2.2 < (1 : Int))) || (decide ((4 : Int) < x2.2))) then
          M.raise1 .BadSides "place" (M.ok x2.1)
        else
          M.ok ()) () l12 >>= fun (_ : Unit) =>
      (M.ok ties) >>= fun l11 =>
      M.fold (fun (_ : Unit) x5 =>
        (p_check_end_m sides x5.a x5.b) >>= fun _ =>
          (p_check_end_m sides x5.c x5.d) >>= fun _ =>
          M.ok ()) () l11 >>= fun (_ : Unit) =>
      (M.ok ⟨sides⟩) >>= fun f_7 =>
      ((M.comp (fun _ => (M.ok true)) (fun x8 => (M.ok ⟨x8.a, x8.b, x8.c, x8.d⟩)) ties) >>= fun t9 => (M.ok ⟨t9⟩)) >>= fun f_10 =>
      M.ok ⟨f_7, f_10⟩
/-- Web.back -/
noncomputable def m_Web_back_m (step : (Int × Int)) : M (Int × Int) :=
  (M.ok (step.1, ((1 : Int) - step.2)))
/-- reversed_steps -/
noncomputable def p_reversed_steps_m (steps : (List (Int × Int))) : M (List (Int × Int)) :=
  (M.comp (fun _ => (M.ok true)) (fun x1 => (m_Web_back_m x1)) steps.reverse)
/-- normal_cycle -/
noncomputable def p_normal_cycle_m (steps : (List (Int × Int))) : M (List (Int × Int)) :=
  ((M.comp (fun _ => (M.ok true)) (fun x1 => (M.ok x1.1)) steps) >>= fun t2 => (M.minM t2)) >>= fun low_3 =>
  (M.ok steps) >>= fun walked_4 =>
  (if (!memB (low_3, (0 : Int)) walked_4) then
  (p_reversed_steps_m walked_4) >>= fun walked_5 =>
    M.ok walked_5
else
  M.ok walked_4) >>= (fun s6 : (List (Int × Int)) =>
  (M.idx s6 (low_3, (0 : Int))) >>= fun first_7 =>
  (M.cat (cutL s6 (some first_7) none) (cutL s6 none (some first_7))))
end PM

/-! KM: models of kinds that laws have in common (printed by gen3.py). -/
namespace PM
open PySem L2 G
/-- _law_name -/
noncomputable def l_name_m (draws_here : (List Int)) (at_ : Int) : M PySem.Str :=
  (M.ok ("" : PySem.Str)) >>= fun name_here_1 =>
  (((l_pick_m draws_here at_ (8 : Int)) >>= fun t3 => (M.ok ((1 : Int) + t3))) >>= fun t4 => (M.range t4)) >>= fun l10 =>
  M.fold (fun (s2 : PySem.Str) x5 =>
    (((l_pick_m draws_here ((at_ + (1 : Int)) + x5) (26 : Int)) >>= fun t6 => (M.ixS ("abcdefghijklmnopqrstuvwxyz" : PySem.Str) t6)) >>= fun t7 => (M.catS s2 t7)) >>= fun name_here_8 =>
      M.ok name_here_8) name_here_1 l10 >>= fun (s9 : PySem.Str) =>
  (M.ok s9)
/-- _law_names -/
noncomputable def l_names_m (draws_here : (List Int)) (extra : (List Int)) (many : Int) : M (List PySem.Str) :=
  (l_name_m draws_here (0 : Int)) >>= fun base_1 =>
  ((l_pick_m extra (0 : Int) (2 : Int)) >>= fun t2 => (M.ok (decide (t2 = (0 : Int))))) >>= fun b17 => if b17 then
  ((M.range many) >>= M.comp (fun _ => (M.ok true)) (fun x3 => (l_name_m draws_here ((9 : Int) * x3))))
else
  ((M.lenS base_1) >>= fun t4 => (l_pick_m extra (1 : Int) t4)) >>= fun place_5 =>
    (M.ok ([] : (List PySem.Str))) >>= fun names_here_6 =>
    (M.range many) >>= fun l16 =>
    M.fold (fun (s7 : (List PySem.Str)) x8 =>
      ((l_pick_m draws_here ((9 : Int) + x8) (4 : Int)) >>= fun t9 => (M.ixS ("abyz" : PySem.Str) t9)) >>= fun sign_10 =>
        M.push s7 (((M.slS base_1 none (some place_5)) >>= fun t11 => (M.catS t11 sign_10)) >>= fun t12 => ((M.slS base_1 (some (place_5 + (1 : Int))) none) >>= fun t13 => (M.catS t12 t13))) >>= fun names_here_14 =>
        M.ok names_here_14) names_here_6 l16 >>= fun (s15 : (List PySem.Str)) =>
    M.ok s15
/-- _law_shape -/
noncomputable def l_shape_m (draws_here : (List Int)) (at_ : Int) (letters_here : (List PyData)) : M PyData :=
  (M.ok letters_here) >>= fun items_1 =>
  (M.range ((letters_here.length : Int) - (1 : Int))) >>= fun l14 =>
  M.fold (fun (s2 : (List PyData)) x3 =>
    (l_pick_m draws_here (at_ + ((2 : Int) * x3)) ((s2.length : Int) - (1 : Int))) >>= fun place_4 =>
      (M.popAt s2 (M.ok (place_4 + (1 : Int)))) >>= fun p5 =>
      (M.ok ("both" : PySem.Str)) >>= fun word_6 =>
      (((l_pick_m draws_here ((at_ + ((2 : Int) * x3)) + (1 : Int)) (2 : Int)) >>= fun t7 => (M.ok (decide (t7 = (1 : Int))))) >>= fun b12 => if b12 then
      (M.ok ("together" : PySem.Str)) >>= fun word_8 =>
        M.ok word_8
    else
      M.ok word_6) >>= (fun s9 : PySem.Str =>
      M.setIx p5.1 (M.ok place_4) ((M.ix p5.1 place_4) >>= fun t10 => (M.ok (PyData.tuple [(UD.toU s9), t10, p5.2]))) >>= fun items_11 =>
      M.ok items_11)) items_1 l14 >>= fun (s13 : (List PyData)) =>
  (M.ix s13 (0 : Int))
/-- letters_in -/
noncomputable def p_letters_in_m (shape : PyData) : M (List (PySem.Str × Bool)) :=
  (M.ok ([] : (List (PySem.Str × Bool)))) >>= fun found_1 =>
  (M.ok [shape]) >>= fun waiting_2 =>
  M.loop (fun (s3 : ((List (PySem.Str × Bool)) × (List PyData))) => (M.ok (!s3.2.isEmpty))) (fun (s3 : ((List (PySem.Str × Bool)) × (List PyData))) =>
    (M.popL s3.2) >>= fun p4 =>
      ((((M.ofO (itemsU p4.2) >>= fun ds => M.ok (⟨ds⟩ : Sq PyData)) >>= fun t5 => (M.ix t5.l (0 : Int))) >>= fun t6 => (M.ofO (OU.ofU (α := PySem.Str) t6))) >>= fun t7 => (M.ok (decide (t7 = ("letter" : PySem.Str))))) >>= fun b21 => if b21 then
      M.push s3.1 ((((M.ofO (itemsU p4.2) >>= fun ds => M.ok (⟨ds⟩ : Sq PyData)) >>= fun t8 => (M.ix t8.l (1 : Int))) >>= fun t9 => (M.ofO (OU.ofU (α := PySem.Str) t9))) >>= fun t12 => ((((M.ofO (itemsU p4.2) >>= fun ds => M.ok (⟨ds⟩ : Sq PyData)) >>= fun t10 => (M.ix t10.l (2 : Int))) >>= fun t11 => (M.ofO (OU.ofU (α := Bool) t11))) >>= fun t13 => (M.ok (t12, t13)))) >>= fun found_14 =>
        M.ok (found_14, p4.1)
    else
      M.push p4.1 (((M.ofO (itemsU p4.2) >>= fun ds => M.ok (⟨ds⟩ : Sq PyData)) >>= fun t15 => (M.ix t15.l (2 : Int))) >>= fun t16 => (M.ofO (@OU.ofU PyData dUI _ t16))) >>= fun waiting_17 =>
        M.push waiting_17 (((M.ofO (itemsU p4.2) >>= fun ds => M.ok (⟨ds⟩ : Sq PyData)) >>= fun t18 => (M.ix t18.l (1 : Int))) >>= fun t19 => (M.ofO (@OU.ofU PyData dUI _ t19))) >>= fun waiting_20 =>
        M.ok (s3.1, waiting_20)) (found_1, waiting_2) >>= fun (s22 : ((List (PySem.Str × Bool)) × (List PyData))) =>
  M.ok s22.1
/-- is_name -/
noncomputable def p_is_name_m (name : PySem.Str) : M Bool :=
  (((M.lenS name) >>= fun t1 => (if (decide ((0 : Int) < t1)) then (M.ok (decide (t1 ≤ (8 : Int)))) else .ok false)) >>= fun b4 => (if b4 then (((M.signs name) >>= M.comp (fun _ => (M.ok true)) (fun x2 => (M.inSg x2 ("abcdefghijklmnopqrstuvwxyz" : PySem.Str)))) >>= fun t3 => (M.ok (t3.all id))) else .ok false))
/-- Kind.__init__ -/
noncomputable def m_KindX_initX_m (shape : PyData) : M KindM :=
  (p_letters_in_m shape) >>= fun found_1 =>
  if (decide ((40 : Int) < (found_1.length : Int))) then
  M.raise1 .TooLarge "limit" (M.ok (40 : Int))
else
  (M.ok found_1) >>= fun l8 =>
    M.fold (fun (_ : Unit) x3 =>
      ((p_is_name_m x3.1) >>= fun t4 => (M.ok (!t4))) >>= fun b5 => if b5 then
        M.raise1S .BadName "name" (M.ok x3.1)
      else
        M.ok ()) () l8 >>= fun (_ : Unit) =>
    (M.ok shape) >>= fun f_7 =>
    M.ok ⟨f_7⟩
/-- written_shape -/
noncomputable def p_written_shape_step (rec_ : PyData → M PySem.Str) (shape : PyData) : M PySem.Str :=
  ((((M.ofO (itemsU shape) >>= fun ds => M.ok (⟨ds⟩ : Sq PyData)) >>= fun t1 => (M.ix t1.l (0 : Int))) >>= fun t2 => (M.ofO (OU.ofU (α := PySem.Str) t2))) >>= fun t3 => (M.ok (decide (t3 = ("letter" : PySem.Str))))) >>= fun b27 => if b27 then
  (((M.ofO (itemsU shape) >>= fun ds => M.ok (⟨ds⟩ : Sq PyData)) >>= fun t4 => (M.ix t4.l (2 : Int))) >>= fun t5 => (M.ofO (OU.ofU (α := Bool) t5))) >>= fun b11 => if b11 then
    (((M.ofO (itemsU shape) >>= fun ds => M.ok (⟨ds⟩ : Sq PyData)) >>= fun t6 => (M.ix t6.l (1 : Int))) >>= fun t7 => (M.ofO (OU.ofU (α := PySem.Str) t7)))
  else
    ((((M.ofO (itemsU shape) >>= fun ds => M.ok (⟨ds⟩ : Sq PyData)) >>= fun t8 => (M.ix t8.l (1 : Int))) >>= fun t9 => (M.ofO (OU.ofU (α := PySem.Str) t9))) >>= fun t10 => (M.catS t10 ("'" : PySem.Str)))
else
  ((((((((M.ofO (itemsU shape) >>= fun ds => M.ok (⟨ds⟩ : Sq PyData)) >>= fun t12 => (M.ix t12.l (1 : Int))) >>= fun t13 => (M.ofO (@OU.ofU PyData dUI _ t13))) >>= fun t14 => (rec_ t14)) >>= fun t15 => (M.catS ("(" : PySem.Str) t15)) >>= fun t19 => (((((M.ofO (itemsU shape) >>= fun ds => M.ok (⟨ds⟩ : Sq PyData)) >>= fun t16 => (M.ix t16.l (0 : Int))) >>= fun t17 => (M.ofO (OU.ofU (α := PySem.Str) t17))) >>= fun t18 => (M.ofO (List.lookup t18 ([("both", " & "), ("together", " | ")] : List (PySem.Str × PySem.Str))))) >>= fun t20 => (M.catS t19 t20))) >>= fun t24 => (((((M.ofO (itemsU shape) >>= fun ds => M.ok (⟨ds⟩ : Sq PyData)) >>= fun t21 => (M.ix t21.l (2 : Int))) >>= fun t22 => (M.ofO (@OU.ofU PyData dUI _ t22))) >>= fun t23 => (rec_ t23)) >>= fun t25 => (M.catS t24 t25))) >>= fun t26 => (M.catS t26 (")" : PySem.Str)))
noncomputable def p_written_shape_m : Nat → PyData → M PySem.Str
  | 0 => fun _ => .bad
  | fl + 1 => p_written_shape_step (p_written_shape_m fl)
/-- format_kind -/
noncomputable def p_format_kind_m (kind : KindM) : M PySem.Str :=
  (p_written_shape_m 44 kind.a)
/-- _law_letters -/
noncomputable def l_letters_step (rec_ : PyData → M (List (PySem.Str × Bool))) (shape_here : PyData) : M (List (PySem.Str × Bool)) :=
  ((((M.ofO (itemsU shape_here) >>= fun ds => M.ok (⟨ds⟩ : Sq PyData)) >>= fun t1 => (M.ix t1.l (0 : Int))) >>= fun t2 => (M.ofO (OU.ofU (α := PySem.Str) t2))) >>= fun t3 => (M.ok (decide (t3 = ("letter" : PySem.Str))))) >>= fun b19 => if b19 then
  (((((M.ofO (itemsU shape_here) >>= fun ds => M.ok (⟨ds⟩ : Sq PyData)) >>= fun t4 => (M.ix t4.l (1 : Int))) >>= fun t5 => (M.ofO (OU.ofU (α := PySem.Str) t5))) >>= fun t8 => ((((M.ofO (itemsU shape_here) >>= fun ds => M.ok (⟨ds⟩ : Sq PyData)) >>= fun t6 => (M.ix t6.l (2 : Int))) >>= fun t7 => (M.ofO (OU.ofU (α := Bool) t7))) >>= fun t9 => (M.ok (t8, t9)))) >>= fun t10 => (M.ok (t10 :: [])))
else
  (((((M.ofO (itemsU shape_here) >>= fun ds => M.ok (⟨ds⟩ : Sq PyData)) >>= fun t11 => (M.ix t11.l (1 : Int))) >>= fun t12 => (M.ofO (@OU.ofU PyData dUI _ t12))) >>= fun t13 => (rec_ t13)) >>= fun t17 => (((((M.ofO (itemsU shape_here) >>= fun ds => M.ok (⟨ds⟩ : Sq PyData)) >>= fun t14 => (M.ix t14.l (2 : Int))) >>= fun t15 => (M.ofO (@OU.ofU PyData dUI _ t15))) >>= fun t16 => (rec_ t16)) >>= fun t18 => (M.cat t17 t18)))
noncomputable def l_letters_m : Nat → PyData → M (List (PySem.Str × Bool))
  | 0 => fun _ => .bad
  | fl + 1 => l_letters_step (l_letters_m fl)
end PM

/-! PB: plain lemmas over the monad. -/
namespace G
open PySem L2
namespace M
variable {α β γ σ ρ : Type}
theorem fold_ok {f : σ → α → M σ} {xs : List α} {s0 : σ} (P : Nat → σ → Prop) (h0 : P 0 s0) (hs : ∀ i x s, xs[i]? = some x → P i s → ∃ s', f s x = .ok s' ∧ P (i + 1) s') : ∃ s, fold f s0 xs = .ok s ∧ P xs.length s := by
  have key : ∀ n, n ≤ xs.length → ∃ s, fold f s0 (xs.take n) = .ok s ∧ P n s := by
    intro n
    induction n with
    | zero => intro _; exact ⟨s0, rfl, h0⟩
    | succ n ih =>
      intro hn
      obtain ⟨s, e, p⟩ := ih (by omega)
      have hx : xs[n]? = some xs[n] := by simp [show n < xs.length by omega]
      obtain ⟨s', e', p'⟩ := hs n xs[n] s hx p
      refine ⟨s', ?_, p'⟩
      rw [List.take_add_one, hx]
      show fold f s0 (xs.take n ++ [xs[n]]) = _
      rw [fold_snoc, e]
      exact e'
  have := key xs.length (Nat.le_refl _)
  rwa [List.take_length] at this
/-- the state behind i turns is told -/
theorem fold_eq {f : σ → α → M σ} {xs : List α} (s0 : σ) (g : Nat → σ) (h0 : g 0 = s0) (hs : ∀ i x, xs[i]? = some x → f (g i) x = .ok (g (i + 1))) : fold f s0 xs = .ok (g xs.length) := by
  obtain ⟨s, e, p⟩ := fold_ok (f := f) (xs := xs) (s0 := s0) (fun i s => s = g i) h0.symm fun i x s hx e => ⟨g (i + 1), by rw [e]; exact hs i x hx, rfl⟩
  rw [e, p]
/-- turns that keep the state -/
theorem fold_unit {f : Unit → α → M Unit} {xs : List α} (h : ∀ x ∈ xs, f () x = .ok ()) : fold f () xs = .ok () :=
  fold_eq () (fun _ => ()) rfl fun i x hx => h x (List.mem_of_getElem? hx)
theorem range_ok {n : Int} (h0 : 0 ≤ n) (h1 : n ≤ 100000) : range n = .ok (rngL 0 n.toNat) := asrt_pos ⟨by omega, Int.le_trans h1 (by decide)⟩
theorem rangeN {n : Nat} (h1 : n ≤ 100000) : range (n : Int) = .ok (rngL 0 n) := by rw [range_ok (by omega) (by omega)]; simp
theorem push_small {xs : List α} {y : α} (h : xs.length ≤ 100000) : push xs (.ok y) = .ok (xs ++ [y]) := push_ok (small1k h)
theorem ix_at {xs : List α} {i : Int} {x : α} (h0 : 0 ≤ i) (h : xs[i.toNat]? = some x) : ix xs i = .ok x := by unfold ix; rw [atI_of h0 h]; rfl
theorem ix_some {xs : List α} {i : Int} (h0 : 0 ≤ i) (h1 : i < xs.length) : ∃ x, xs[i.toNat]? = some x ∧ ix xs i = .ok x := by
  have hlt : i.toNat < xs.length := by omega
  exact ⟨xs[i.toNat], by simp [hlt], ix_at h0 (by simp [hlt])⟩
theorem ix_getD {xs : List α} {i : Int} (d : α) (h0 : 0 ≤ i) (h1 : i < xs.length) : ix xs i = .ok (xs.getD i.toNat d) := by
  obtain ⟨x, hx, e⟩ := ix_some h0 h1
  rw [e, List.getD_eq_getElem?_getD, hx]; rfl
theorem comp_mapM {f : α → M β} (f' : α → β) {xs : List α} (h : ∀ x ∈ xs, f x = .ok (f' x)) : comp (fun _ => .ok true) f xs = .ok (xs.map f') := by
  rw [comp_of (fun _ => true) f' xs (fun _ _ => rfl) fun x hx _ => h x hx, List.filter_eq_self.mpr fun _ _ => rfl]
@[simp] theorem tryK_ok {kn p : XC → Bool} {x : α} {h : PX → M α} : tryK kn p (.ok x) h = .ok x := rfl
/-- m ends well, with a value as R says -/
def sat (m : M α) (R : α → Prop) : Prop := ∃ r, m = .ok r ∧ R r
theorem sat_ok {x : α} {R : α → Prop} (h : R x) : sat (.ok x) R := ⟨x, rfl, h⟩
theorem sat_bind {m : M α} {f : α → M β} {R1 : α → Prop} {R : β → Prop} (h : sat m R1) (h2 : ∀ x, R1 x → sat (f x) R) : sat (m >>= f) R := by
  obtain ⟨x, rfl, hx⟩ := h
  exact h2 x hx
theorem sat_eq {m : M α} {f : α → M β} {x : α} {R : β → Prop} (h : m = .ok x) (h2 : sat (f x) R) : sat (m >>= f) R := by
  rw [h]; exact h2
theorem sat_if {b : Bool} {m n : M α} {R : α → Prop} (h : b = true → sat m R) (h2 : b = false → sat n R) : sat (if b then m else n) R := by
  cases b with
  | true => exact h rfl
  | false => exact h2 rfl
theorem sat_fold {f : σ → α → M σ} {xs : List α} {s0 : σ} (P : Nat → σ → Prop) (h0 : P 0 s0) (hs : ∀ i x s, xs[i]? = some x → P i s → sat (f s x) (P (i + 1))) : sat (fold f s0 xs) (P xs.length) := fold_ok P h0 hs
theorem sat_push {xs : List α} {m : M α} {R : List α → Prop} (hl : xs.length ≤ 100000) (h : sat m fun y => R (xs ++ [y])) : sat (push xs m) R := by
  obtain ⟨y, rfl, hy⟩ := h
  exact ⟨_, push_ok (small1k hl), hy⟩
theorem bnd {m : M α} {x : α} {f : α → M β} (h : m = .ok x) : (m >>= f) = f x := by rw [h]; rfl
end M
theorem rngL_get {lo : Int} {n i : Nat} {x : Int} (h : (rngL lo n)[i]? = some x) : i < n ∧ x = lo + i := by
  rw [← rng_get] at h
  exact rng_some h
theorem mem_rngL {lo : Int} {n : Nat} {x : Int} : x ∈ rngL lo n ↔ lo ≤ x ∧ x < lo + n := by
  unfold rngL
  rw [List.mem_map]
  constructor
  · rintro ⟨i, hi, rfl⟩
    rw [List.mem_range] at hi
    omega
  · intro ⟨h1, h2⟩
    exact ⟨(x - lo).toNat, List.mem_range.mpr (by omega), by omega⟩
end G

/-! PL: what the shared helpers compute. -/
namespace PM
open PySem L2 G
theorem cell_ok (s : Sq Int) {k : Int} (hk : 0 ≤ k) : ∃ x, l_cell_m s k = .ok x := by
  unfold l_cell_m
  split
  · next h =>
    simp at h
    obtain ⟨x, _, e⟩ := M.ix_some hk h
    exact ⟨x, e⟩
  · exact ⟨_, rfl⟩
theorem draws_ok (c : Int) {m : Int} (h0 : 0 ≤ m) (h1 : m ≤ 1000) : ∃ ds, l_draws_m c m = .ok ds := by
  suffices M.sat (l_draws_m c m) fun _ => True from let ⟨d, e, _⟩ := this; ⟨d, e⟩
  unfold l_draws_m
  simp only [M.ok_bind]
  rw [M.range_ok h0 (by omega)]
  simp only [M.ok_bind]
  refine M.sat_bind (M.sat_fold (fun i s => s.2.2.length ≤ i) (Nat.le_refl 0) fun i x s hx hs => ?_) fun s _ => M.sat_ok trivial
  have hi := (rngL_get hx).1
  refine M.sat_if (fun _ => ?_) fun _ => ?_
  · exact M.sat_bind (M.sat_push (R := fun y => y.length ≤ i + 1) (by omega) (M.sat_ok (by simp; omega))) fun y hy => M.sat_ok hy
  · exact M.sat_bind (M.sat_push (R := fun y => y.length ≤ i + 1) (by omega) (M.sat_ok (by simp; omega))) fun y hy => M.sat_ok hy
def pick (d : List Int) (k m : Int) : Int := if m < 2 ∨ d = [] then 0 else d.getD (k % d.length).toNat 0 % m
theorem pick_eq (d : List Int) (k m : Int) : l_pick_m d k m = .ok (pick d k m) := by
  unfold l_pick_m pick
  by_cases h : m < 2 ∨ d = []
  · rw [if_pos h, if_pos]
    simp; exact h
  · rw [if_neg h, if_neg (by simp; exact ⟨by omega, fun z => h (.inr z)⟩)]
    have hd : d ≠ [] := fun z => h (.inr z)
    have hl : 0 < d.length := List.length_pos_iff.mpr hd
    have h1 : 0 ≤ k % (d.length : Int) := Int.emod_nonneg _ (by omega)
    have h2 : k % (d.length : Int) < d.length := Int.emod_lt_of_pos _ (by omega)
    rw [M.asrt_pos (by omega)]
    simp only [M.ok_bind]
    rw [M.ix_getD 0 h1 h2]
    simp only [M.ok_bind]
    rw [M.asrt_pos (by omega)]
theorem pick_range {d : List Int} {k m : Int} (h : 1 ≤ m) : 0 ≤ pick d k m ∧ pick d k m < m := by
  unfold pick
  split
  · omega
  · exact ⟨Int.emod_nonneg _ (by omega), Int.emod_lt_of_pos _ (by omega)⟩
/-- sides and ties that make a web -/
structure Good (sides : List Int) (ties : List T4I) : Prop where
  sd : ∀ s ∈ sides, 1 ≤ s ∧ s ≤ 4
  ti : ∀ x ∈ ties, 0 ≤ x.a ∧ x.a < sides.length ∧ 0 ≤ x.b ∧ x.b < sides.getD x.a.toNat 0 ∧ 0 ≤ x.c ∧ x.c < sides.length ∧ 0 ≤ x.d ∧ x.d < sides.getD x.c.toNat 0
theorem check_ok {sides : List Int} {p s : Int} (h1 : 0 ≤ p) (h2 : p < sides.length) (h3 : 0 ≤ s) (h4 : s < sides.getD p.toNat 0) : p_check_end_m sides p s = .ok () := by
  unfold p_check_end_m
  rw [if_neg (by simp; omega), if_neg (by simp; omega), M.ix_getD 0 h1 h2]
  simp only [M.ok_bind]
  rw [if_neg (by simp only [decide_eq_true_eq]; omega)]
theorem init_ok {sides : List Int} {ties : List T4I} (h : Good sides ties) (hs : sides.length ≤ 200) (ht : ties.length ≤ 300) : m_WebX_initX_m sides ties = .ok ⟨⟨sides⟩, ⟨ties⟩⟩ := by
  unfold m_WebX_initX_m
  rw [if_neg (by simp; omega), if_neg (by simp; omega)]
  simp only [M.ok_bind]
  rw [M.fold_unit fun x hx => ?_]
  simp only [M.ok_bind]
  rw [M.fold_unit fun x hx => ?_]
  simp only [M.ok_bind]
  · rw [M.comp_map]
    simp only [M.ok_bind]
    have : (ties.map fun x8 : T4I => (⟨x8.a, x8.b, x8.c, x8.d⟩ : T4I)) = ties := by
      refine (List.map_congr_left fun x _ => ?_).trans (List.map_id ties)
      cases x; rfl
    rw [this]
  · obtain ⟨a, b, c, d, e, f, g, i⟩ := h.ti x hx
    rw [check_ok a b c d, check_ok e f g i]; rfl
  · unfold M.enumL at hx
    rw [List.mem_map] at hx
    obtain ⟨p, hp, rfl⟩ := hx
    have hm : p.1 ∈ sides := by
      have := List.mem_zipIdx hp
      rw [this.2.2]
      exact List.getElem_mem _
    have := h.sd _ hm
    rw [if_neg (by simp; omega)]
/-! steps -/
def tl (ties : List T4I) (s : Int × Int) : Int × Int := let x := ties.getD s.1.toNat ⟨0, 0, 0, 0⟩; if s.2 = 0 then (x.a, x.b) else (x.c, x.d)
def bk (s : Int × Int) : Int × Int := (s.1, 1 - s.2)
/-- the step walks a tie -/
def IsStep (ties : List T4I) (s : Int × Int) : Prop := 0 ≤ s.1 ∧ s.1 < ties.length ∧ (s.2 = 0 ∨ s.2 = 1)
theorem IsStep.bk {ties : List T4I} {s : Int × Int} (h : IsStep ties s) : IsStep ties (bk s) := ⟨h.1, h.2.1, by rcases h.2.2 with e | e <;> simp [PM.bk, e]⟩
end PM

/-! PG: loops with an invariant; what grouped computes; paired webs. -/
namespace G
open PySem L2
namespace M
variable {α β γ σ ρ : Type}
theorem sat_loop {c : σ → M Bool} {f : σ → M σ} {s0 : σ} {R : σ → Prop} (I : σ → Prop) (mu : σ → Nat) (h0 : I s0) (hc : ∀ s, I s → ∃ b, c s = .ok b ∧ (b = true → sat (f s) fun s' => I s' ∧ mu s' < mu s) ∧ (b = false → R s)) : sat (loop c f s0) R := by
  suffices ∀ n s, mu s ≤ n → I s → sat (loop c f s) R from this _ s0 (Nat.le_refl _) h0
  intro n
  induction n with
  | zero =>
    intro s hn hs
    obtain ⟨b, e, h1, h2⟩ := hc s hs
    rw [loop_eq, e]
    cases b with
    | true => obtain ⟨s', _, _, hl⟩ := h1 rfl; omega
    | false => exact ⟨s, rfl, h2 rfl⟩
  | succ n ih =>
    intro s hn hs
    obtain ⟨b, e, h1, h2⟩ := hc s hs
    rw [loop_eq, e]
    cases b with
    | true =>
      obtain ⟨s', e', hi, hl⟩ := h1 rfl
      simp only [ok_bind, if_true]
      rw [e']
      exact ih s' (by omega) hi
    | false => exact ⟨s, rfl, h2 rfl⟩
theorem sat_val {m : M α} {x : α} (h : sat m (· = x)) : m = .ok x := by obtain ⟨y, e, rfl⟩ := h; exact e
theorem popL_snoc {xs : List α} {x : α} : M.popL (xs ++ [x]) = .ok (xs, x) := by
  unfold M.popL
  rw [List.getLast?_concat]
  simp
end M
end G
namespace PM
open PySem L2 G
end PM
namespace G
open PySem L2
namespace M
variable {α β γ σ ρ : Type}
theorem foldC_find {f : Unit → α → M (Ct Unit ρ)} (p : α → Bool) (g : α → ρ) (h : ∀ x, f () x = if p x then .ok (.rt (g x)) else .ok (.nx ())) : ∀ xs : List α, foldC f () xs = .ok (match xs.find? p with | some x => .rt (g x) | none => .nx ())
  | [] => rfl
  | x :: xs => by
    simp only [foldC]
    rw [h x]
    cases hp : p x with
    | true => rw [if_pos rfl, List.find?_cons_of_pos hp]; rfl
    | false => rw [if_neg (by simp), List.find?_cons_of_neg (by simp [hp])]; exact foldC_find p g h xs
end M
end G
namespace PM
open PySem L2 G
end PM
namespace PM
open PySem L2 G
theorem setIx_ok {α : Type} {xs : List α} {i : Int} {j : Nat} {y : α} (hi : i = j) (hj : j < xs.length) : M.setIx xs (.ok i) (.ok y) = .ok (xs.set j y) := by
  unfold M.setIx
  simp only [M.ok_bind]
  have : ixN xs.length i = some j := by
    subst hi
    unfold ixN
    rw [if_pos (by omega), if_pos (by omega)]
    simp
  rw [this]
end PM

/-! PW: wirings: what the shared makers make, and that Wiring takes it. -/
namespace PM
open PySem L2 G
theorem rngL_nodup (lo : Int) (n : Nat) : (rngL lo n).Nodup := by
  unfold rngL
  exact List.pairwise_map.mpr (List.Pairwise.imp (fun h z => h (by omega)) List.nodup_range)
/-- the leaves of links, in their order -/
def flat (L : List (Int × Int)) : List Int := L.flatMap fun x => [x.1, x.2]
def parts (N : List (T3 Str Int Int)) : List Int := N.flatMap fun x => [x.b, x.c]
theorem flat_app (a b : List (Int × Int)) : flat (a ++ b) = flat a ++ flat b := List.flatMap_append
structure GoodL (L : List (Int × Int)) : Prop where
  pos : 0 < L.length
  most : L.length ≤ 40
  pm : (flat L).Perm (rngL 0 (2 * L.length))
theorem flat_split {L : List (Int × Int)} {i : Nat} {x : Int × Int} (h : L[i]? = some x) : flat L = flat (L.take i) ++ (x.1 :: x.2 :: flat (L.drop (i + 1))) := by
  obtain ⟨hl, e⟩ := List.getElem?_eq_some_iff.mp h
  have : L = L.take i ++ ([x] ++ L.drop (i + 1)) := by
    conv => lhs; rw [← List.take_append_drop i L]
    rw [List.drop_eq_getElem_cons hl, e]; rfl
  conv => lhs; rw [this]
  rw [flat_app, flat_app]; rfl
theorem GoodL.mem {L : List (Int × Int)} (g : GoodL L) {i : Nat} {x : Int × Int} (h : L[i]? = some x) : (0 ≤ x.1 ∧ x.1 < 2 * L.length) ∧ (0 ≤ x.2 ∧ x.2 < 2 * L.length) := by
  have m1 : x.1 ∈ flat L := by rw [flat_split h]; simp
  have m2 : x.2 ∈ flat L := by rw [flat_split h]; simp
  have q1 := mem_rngL.mp (g.pm.mem_iff.mp m1)
  have q2 := mem_rngL.mp (g.pm.mem_iff.mp m2)
  omega
theorem GoodL.nd {L : List (Int × Int)} (g : GoodL L) : (flat L).Nodup := (List.Perm.nodup_iff g.pm).mpr (rngL_nodup _ _)
end PM

/-! PS: _law_same of a thing and itself. -/
namespace PM
open PySem L2 G
/-- plain data of this depth, no list or tuple long -/
inductive OkU : Nat → PyData → Prop
  | none {n : Nat} : OkU (n + 1) .none
  | bool {n : Nat} (b : Bool) : OkU (n + 1) (.bool b)
  | int {n : Nat} (i : Int) : OkU (n + 1) (.int i)
  | str {n : Nat} (s : Str) : OkU (n + 1) (.str s)
  | list {n : Nat} {ds : List PyData} (hl : ds.length ≤ 100000) (h : ∀ d ∈ ds, OkU n d) : OkU (n + 1) (.list ds)
  | tuple {n : Nat} {ds : List PyData} (hl : ds.length ≤ 100000) (h : ∀ d ∈ ds, OkU n d) : OkU (n + 1) (.tuple ds)
theorem OkU.up {n : Nat} {e : PyData} (h : OkU n e) : OkU (n + 1) e := by
  induction h with
  | none => exact .none
  | bool b => exact .bool b
  | int i => exact .int i
  | str s => exact .str s
  | list hl _ ih => exact .list hl ih
  | tuple hl _ ih => exact .tuple hl ih
end PM

/-! PT: rows of steps: roam, steps_changed; loops over indexes; _law_same as a rewrite. -/
namespace PM
open PySem L2 G
/-! rows with their numbers -/
/-! ties by their index -/
variable {ties : List T4I} {s : Int × Int}
theorem bk_bk (s : Int × Int) : bk (bk s) = s := by
  unfold bk
  obtain ⟨a, b⟩ := s
  simp only [Prod.mk.injEq, true_and]
  omega
/-! roam -/
/-! steps_changed -/
/-! steps -/
instance decIsStep {ties : List T4I} {s : Int × Int} : Decidable (IsStep ties s) := by unfold IsStep; infer_instance
theorem reversed_eq (steps : List (Int × Int)) : p_reversed_steps_m steps = .ok (steps.reverse.map bk) := by
  unfold p_reversed_steps_m
  exact M.comp_mapM bk fun x _ => rfl
/-! the law's equality, where the two are the same -/
/-! indexes from the end -/
theorem ix_last {α : Type} (xs : List α) (y : α) : M.ix (xs ++ [y]) (-(1 : Int)) = .ok y := by
  unfold M.ix
  have : atI (xs ++ [y]) (-(1 : Int)) = some y := by
    unfold atI ixN
    have h1 : (1 : Int) ≤ (xs.length : Int) + 1 := by omega
    simp only [List.length_append, List.length_singleton]
    have h2 : ((-(1 : Int)) + ((xs.length + 1 : Nat) : Int)).toNat = xs.length := by omega
    simp [h1]
    rw [show (-1 + ((xs.length : Int) + 1)).toNat = xs.length by omega]
    simp
  rw [this]
  rfl
/-! walks -/
def hd1 (ties : List T4I) (s : Int × Int) : Int := (tl ties (bk s)).1
def endW (ties : List T4I) : Int → List (Int × Int) → Int
  | p, [] => p
  | _, s :: ss => endW ties (hd1 ties s) ss
def IsWk (ties : List T4I) : Int → List (Int × Int) → Prop
  | _, [] => True
  | p, s :: ss => (IsStep ties s ∧ (tl ties s).1 = p) ∧ IsWk ties (hd1 ties s) ss
/-- the first step that is none, or that leaves another place -/
def scanW (ties : List T4I) : Nat → Int → List (Int × Int) → Option Nat
  | _, _, [] => none
  | i, p, s :: ss => if IsStep ties s ∧ (tl ties s).1 = p then scanW ties (i + 1) (hd1 ties s) ss else some i
theorem scanW_none {ties : List T4I} : ∀ {ss : List (Int × Int)} {i : Nat} {p : Int}, scanW ties i p ss = none ↔ IsWk ties p ss
  | [], _, _ => ⟨fun _ => trivial, fun _ => rfl⟩
  | s :: ss, i, p => by
    unfold scanW IsWk
    by_cases h : IsStep ties s ∧ (tl ties s).1 = p
    · rw [if_pos h, scanW_none]
      exact Iff.intro (fun z => ⟨h, z⟩) (fun z => z.2)
    · rw [if_neg h]
      constructor
      · intro z; cases z
      · intro z; exact (h z.1).elim
theorem IsWk.mem {ties : List T4I} : ∀ {ss : List (Int × Int)} {p : Int}, IsWk ties p ss → ∀ s ∈ ss, IsStep ties s
  | [], _, _, _, h => nomatch h
  | s :: ss, p, h, x, hx => by
    rcases List.mem_cons.mp hx with rfl | hx
    · exact h.1.1
    · exact h.2.mem x hx
theorem isWk_snoc {ties : List T4I} {s : Int × Int} : ∀ {ss : List (Int × Int)} {p : Int}, IsWk ties p (ss ++ [s]) ↔ IsWk ties p ss ∧ IsStep ties s ∧ (tl ties s).1 = endW ties p ss
  | [], p => by simp [IsWk, endW]
  | x :: ss, p => by
    simp only [List.cons_append, IsWk, endW]
    rw [isWk_snoc]
    exact ⟨fun ⟨a, b, c⟩ => ⟨⟨a, b⟩, c⟩, fun ⟨⟨a, b⟩, c⟩ => ⟨a, b, c⟩⟩
theorem endW_snoc {ties : List T4I} {s : Int × Int} : ∀ {ss : List (Int × Int)} {p : Int}, endW ties p (ss ++ [s]) = hd1 ties s
  | [], _ => rfl
  | x :: ss, _ => endW_snoc (ss := ss) (p := hd1 ties x)
/-- a walk backward -/
theorem IsWk.back {ties : List T4I} : ∀ {ss : List (Int × Int)} {p : Int}, IsWk ties p ss → IsWk ties (endW ties p ss) (ss.reverse.map bk) ∧ endW ties p ss :: (ss.reverse.map bk).map (hd1 ties) = (p :: ss.map (hd1 ties)).reverse ∧ endW ties (endW ties p ss) (ss.reverse.map bk) = p
  | [], p, _ => ⟨trivial, rfl, rfl⟩
  | s :: ss, p, h => by
    obtain ⟨h1, h2, h3⟩ := h.2.back
    have e0 : endW ties p (s :: ss) = endW ties (hd1 ties s) ss := rfl
    have e1 : (s :: ss).reverse.map bk = ss.reverse.map bk ++ [bk s] := by simp
    have e2 : hd1 ties (bk s) = p := by unfold hd1; rw [bk_bk]; exact h.1.2
    rw [e0, e1]
    refine ⟨isWk_snoc.mpr ⟨h1, h.1.1.bk, by rw [h3]; rfl⟩, ?_, by rw [endW_snoc, e2]⟩
    rw [List.map_append, ← List.cons_append, h2, List.map_cons, List.reverse_cons (a := p)]
    simp [e2]
end PM

/-! PC: rings, cycles, normal forms. -/
namespace PM
open PySem L2 G
theorem cutD {α : Type} (xs : List α) (k : Nat) : cutL xs (some (k : Int)) none = xs.drop k := by
  unfold cutL
  rw [HT.sIx_nat, HT.sIx_none]
  by_cases h : k ≤ xs.length
  · rw [Nat.min_eq_left h, List.take_of_length_le (by simp)]
  · rw [Nat.min_eq_right (by omega), List.drop_eq_nil_of_le (Nat.le_refl _), List.drop_eq_nil_of_le (by omega)]
    simp
theorem cutT {α : Type} (xs : List α) (k : Nat) : cutL xs none (some (k : Int)) = xs.take k := by
  unfold cutL
  rw [HT.sIx_nat, HT.sIx_none, List.drop_zero, Nat.sub_zero]
  by_cases h : k ≤ xs.length
  · rw [Nat.min_eq_left h]
  · rw [Nat.min_eq_right (by omega), List.take_of_length_le (Nat.le_refl _), List.take_of_length_le (by omega)]
/-! rings -/
/-! cycles -/
inductive OutC where
  | step (k : Nat)
  | again (k : Nat)
  | places (ps : List Int)
def rep (ties : List T4I) : Nat → List Int → List Int → List (Int × Int) → Option Nat
  | _, _, _, [] => none
  | i, ps, ts, s :: ss => if (tl ties s).1 ∈ ps ∨ s.1 ∈ ts then some i else rep ties (i + 1) (ps ++ [(tl ties s).1]) (ts ++ [s.1]) ss
/-- how the judging of a cycle ends -/
def outC (ties : List T4I) : List (Int × Int) → OutC
  | [] => .step 0
  | s0 :: ss => match scanW ties 0 (tl ties s0).1 (s0 :: ss) with
    | some k => .step k
    | none => if endW ties (tl ties s0).1 (s0 :: ss) = (tl ties s0).1 then (match rep ties 0 [] [] (s0 :: ss) with | some k => .again k | none => .places ((s0 :: ss).map fun s => (tl ties s).1)) else .step (s0 :: ss).length
theorem outC_cons (ties : List T4I) (s0 : Int × Int) (ss : List (Int × Int)) : outC ties (s0 :: ss) = match scanW ties 0 (tl ties s0).1 (s0 :: ss) with
    | some k => .step k
    | none => if endW ties (tl ties s0).1 (s0 :: ss) = (tl ties s0).1 then (match rep ties 0 [] [] (s0 :: ss) with | some k => .again k | none => .places ((s0 :: ss).map fun s => (tl ties s).1)) else .step (s0 :: ss).length := rfl
def OutC.px : OutC → PX
  | .step k => ⟨.BadStep, some [("step", .int (k : Int))]⟩
  | .again k => ⟨.Repeated, some [("step", .int (k : Int))]⟩
  | .places _ => ⟨.BadStep, none⟩
def OutC.run {α : Type} (f : List Int → α) : OutC → M α
  | .places ps => .ok (f ps)
  | o => .exc o.px
/-- steps that make a cycle -/
structure Cyc (ties : List T4I) (p : Int) (ss : List (Int × Int)) : Prop where
  ne : ss ≠ []
  wk : IsWk ties p ss
  en : endW ties p ss = p
  np : (ss.map fun s => (tl ties s).1).Nodup
  nt : (ss.map Prod.fst).Nodup
section
variable {sides : List Int} {ties : List T4I}
theorem rep_none : ∀ {ss : List (Int × Int)} {i : Nat} {ps ts : List Int}, ps.Nodup → ts.Nodup → (rep ties i ps ts ss = none ↔ (ps ++ ss.map fun s => (tl ties s).1).Nodup ∧ (ts ++ ss.map Prod.fst).Nodup)
  | [], i, ps, ts, h1, h2 => by simp [rep, h1, h2]
  | s :: ss, i, ps, ts, h1, h2 => by
    unfold rep
    by_cases h : (tl ties s).1 ∈ ps ∨ s.1 ∈ ts
    · rw [if_pos h]
      constructor
      · intro z; cases z
      · intro ⟨a, b⟩
        rw [List.nodup_append] at a b
        rcases h with h | h
        · exact absurd rfl (a.2.2 _ h _ (by simp))
        · exact absurd rfl (b.2.2 _ h _ (by simp))
    · rw [if_neg h]
      have n1 : (ps ++ [(tl ties s).1]).Nodup := List.nodup_append.mpr ⟨h1, by simp, fun a ha b hb e => by
        rw [List.mem_singleton] at hb
        subst e hb
        exact h (.inl ha)⟩
      have n2 : (ts ++ [s.1]).Nodup := List.nodup_append.mpr ⟨h2, by simp, fun a ha b hb e => by
        rw [List.mem_singleton] at hb
        subst e hb
        exact h (.inr ha)⟩
      rw [rep_none n1 n2]
      simp only [List.map_cons, List.append_assoc, List.singleton_append]
theorem Cyc.out {p : Int} {ss : List (Int × Int)} (c : Cyc ties p ss) : outC ties ss = .places (ss.map fun s => (tl ties s).1) := by
  cases ss with
  | nil => exact absurd rfl c.ne
  | cons s0 ss =>
    have hp : (tl ties s0).1 = p := c.wk.1.2
    rw [outC_cons, hp, scanW_none.mpr c.wk]
    simp only
    rw [if_pos c.en, (rep_none (ps := []) (ts := []) List.nodup_nil List.nodup_nil).mpr ⟨by simpa using c.np, by simpa using c.nt⟩]
theorem nodup_rev {α : Type} {xs : List α} : xs.reverse.Nodup ↔ xs.Nodup := (List.reverse_perm xs).nodup_iff
/-! indexes round a cycle, cusps -/
def stp (steps : List (Int × Int)) (k : Int) : Int × Int := steps.getD k.toNat (0, 0)
def pv (steps : List (Int × Int)) (k : Int) : Int × Int := if k = 0 then steps.getD (steps.length - 1) (0, 0) else stp steps (k - 1)
theorem heads_tails : ∀ {ss : List (Int × Int)} {p : Int}, IsWk ties p ss → p :: ss.map (hd1 ties) = (ss.map fun s => (tl ties s).1) ++ [endW ties p ss]
  | [], _, _ => rfl
  | s :: ss, p, h => by
    rw [List.map_cons, heads_tails h.2, List.map_cons, h.1.2]
    rfl
theorem Cyc.back {p : Int} {ss : List (Int × Int)} (c : Cyc ties p ss) : Cyc ties p (ss.reverse.map bk) := by
  obtain ⟨b1, b2, b3⟩ := c.wk.back
  rw [c.en] at b1 b3
  refine ⟨?_, b1, b3, ?_, ?_⟩
  · intro z
    rw [List.map_eq_nil_iff, List.reverse_eq_nil_iff] at z
    exact c.ne z
  · have e : ((ss.reverse.map bk).map fun s => (tl ties s).1) = (ss.map (hd1 ties)).reverse := by
      rw [List.map_map, ← List.map_reverse]
      rfl
    rw [e, nodup_rev]
    have h := heads_tails c.wk
    rw [c.en] at h
    have hp : (p :: ss.map (hd1 ties)).Perm (p :: ss.map fun s => (tl ties s).1) := by
      rw [h]
      exact List.perm_append_comm
    exact (hp.cons_inv).nodup_iff.mpr c.np
  · have e : ((ss.reverse.map bk).map Prod.fst) = (ss.map Prod.fst).reverse := by
      rw [List.map_map, ← List.map_reverse]
      rfl
    rw [e, nodup_rev]
    exact c.nt
/-! normal forms -/
/-- r is the normal form of the cycle's steps -/
def NF (steps r : List (Int × Int)) : Prop := ∃ low h t, (steps.map Prod.fst).Nodup ∧ (∀ s ∈ steps, low ≤ s.1) ∧ (steps = h ++ (low, 0) :: t ∨ ((low, (0 : Int)) ∉ steps ∧ steps.reverse.map bk = h ++ (low, 0) :: t)) ∧ r = (low, 0) :: (t ++ h)
theorem bk_rev (ss : List (Int × Int)) : (ss.reverse.map bk).reverse.map bk = ss := by
  rw [← List.map_reverse, List.reverse_reverse, List.map_map]
  refine (List.map_congr_left fun x _ => ?_).trans (List.map_id ss)
  exact bk_bk x
theorem fst_rev (ss : List (Int × Int)) : (ss.reverse.map bk).map Prod.fst = (ss.map Prod.fst).reverse := by
  rw [List.map_map, ← List.map_reverse]; rfl
theorem nd_fst {ss : List (Int × Int)} (h : (ss.map Prod.fst).Nodup) {a b : Int × Int} (ha : a ∈ ss) (hb : b ∈ ss) (e : a.1 = b.1) : a = b := by
  induction ss with
  | nil => nomatch ha
  | cons x ss ih =>
    rw [List.map_cons, List.nodup_cons] at h
    rcases List.mem_cons.mp ha with ha' | ha' <;> rcases List.mem_cons.mp hb with hb' | hb'
    · rw [ha', hb']
    · subst ha'
      exact absurd (List.mem_map.mpr ⟨b, hb', e.symm⟩) h.1
    · subst hb'
      exact absurd (List.mem_map.mpr ⟨a, ha', e⟩) h.1
    · exact ih h.2 ha' hb'
theorem NF.back {ss r : List (Int × Int)} (n : NF ss r) : NF (ss.reverse.map bk) r := by
  obtain ⟨low, h, t, n1, n2, n3, rfl⟩ := n
  have hn : ((ss.reverse.map bk).map Prod.fst).Nodup := by rw [fst_rev, nodup_rev]; exact n1
  have hm : ∀ s ∈ ss.reverse.map bk, low ≤ s.1 := fun s hs => by
    obtain ⟨x, hx, rfl⟩ := List.mem_map.mp hs
    exact n2 x (List.mem_reverse.mp hx)
  rcases n3 with e | ⟨e0, e⟩
  · refine ⟨low, h, t, hn, hm, .inr ⟨fun z => ?_, by rw [bk_rev]; exact e⟩, rfl⟩
    obtain ⟨x, hx, ex⟩ := List.mem_map.mp z
    have hx' := List.mem_reverse.mp hx
    have h0 : (low, (0 : Int)) ∈ ss := by rw [e]; simp
    have e1 : x.1 = low := congrArg Prod.fst ex
    have e2 : (1 : Int) - x.2 = 0 := congrArg Prod.snd ex
    have := nd_fst n1 hx' h0 e1
    rw [this] at e2
    simp at e2
  · exact ⟨low, h, t, hn, hm, .inl e, rfl⟩
theorem NF.ex {ss : List (Int × Int)} (h0 : ss ≠ []) (h1 : ∀ s ∈ ss, s.2 = 0 ∨ s.2 = 1) (h2 : (ss.map Prod.fst).Nodup) : ∃ r, NF ss r := by
  obtain ⟨m1, m2⟩ := minL_spec (xs := ss.map Prod.fst) (by rw [List.length_map]; exact List.length_pos_iff.mpr h0)
  generalize minL (ss.map Prod.fst) = low at m1 m2
  have hl : ∀ s ∈ ss, low ≤ s.1 := fun s hs => m2 _ (List.mem_map.mpr ⟨s, hs, rfl⟩)
  by_cases hm : (low, (0 : Int)) ∈ ss
  · obtain ⟨h, t, e⟩ := List.append_of_mem hm
    exact ⟨_, low, h, t, h2, hl, .inl e, rfl⟩
  · obtain ⟨s, hs, es⟩ := List.mem_map.mp m1
    have hs2 : s.2 = 1 := by
      rcases h1 s hs with z | z
      · exact absurd (show (low, (0 : Int)) ∈ ss by rw [← es, ← z]; exact hs) hm
      · exact z
    have hb : (low, (0 : Int)) ∈ ss.reverse.map bk := List.mem_map.mpr ⟨s, List.mem_reverse.mpr hs, by unfold bk; rw [es, hs2]; rfl⟩
    obtain ⟨h, t, e⟩ := List.append_of_mem hb
    exact ⟨_, low, h, t, h2, hl, .inr ⟨hm, e⟩, rfl⟩
theorem idx_at {row h t : List (Int × Int)} {x : Int × Int} (e : row = h ++ x :: t) (hn : (row.map Prod.fst).Nodup) : M.idx row x = .ok (h.length : Int) := by
  have hno : ∀ y ∈ h, y ≠ x := fun y hy z => by
    subst z
    rw [e, List.map_append, List.nodup_append] at hn
    exact hn.2.2 _ (List.mem_map.mpr ⟨y, hy, rfl⟩) _ (List.mem_map.mpr ⟨y, List.mem_cons_self, rfl⟩) rfl
  have : row.findIdx? (fun z => decide (z = x)) = some h.length := by
    rw [List.findIdx?_eq_some_iff_getElem]
    refine ⟨by rw [e]; simp, by simp [e], fun j hj => ?_⟩
    simp only [e, List.getElem_append_left hj, decide_eq_true_eq]
    exact hno _ (List.getElem_mem hj)
  unfold M.idx
  rw [this]
  rfl
theorem cat_small {α : Type} {xs ys : List α} (h : xs.length + ys.length ≤ 100000) : M.cat xs ys = .ok (xs ++ ys) := M.asrt_pos (Nat.le_trans h (by decide))
theorem NF.eval {ss r : List (Int × Int)} (n : NF ss r) (hl : ss.length ≤ 1000) : p_normal_cycle_m ss = .ok r := by
  obtain ⟨low, h, t, n1, n2, n3, rfl⟩ := n
  have hmem : ∃ s ∈ ss, s.1 = low := by
    rcases n3 with e | ⟨_, e⟩
    · exact ⟨(low, 0), by rw [e]; simp, rfl⟩
    · have : (low, (0 : Int)) ∈ ss.reverse.map bk := by rw [e]; simp
      obtain ⟨x, hx, ex⟩ := List.mem_map.mp this
      exact ⟨x, List.mem_reverse.mp hx, congrArg Prod.fst ex⟩
  obtain ⟨s, hs, es⟩ := hmem
  have hpos : 0 < (ss.map Prod.fst).length := by rw [List.length_map]; exact List.length_pos_iff.mpr (List.ne_nil_of_mem hs)
  obtain ⟨m1, m2⟩ := minL_spec hpos
  have hlow : minL (ss.map Prod.fst) = low := by
    obtain ⟨y, hy, ey⟩ := List.mem_map.mp m1
    have a := n2 y hy
    have b := m2 _ (List.mem_map.mpr ⟨s, hs, es⟩)
    omega
  unfold p_normal_cycle_m
  rw [show M.comp (fun _ => (M.ok true)) (fun x1 : Int × Int => (M.ok x1.1)) ss = .ok (ss.map Prod.fst) from M.comp_map _ _]
  simp only [M.ok_bind]
  unfold M.minM
  rw [M.asrt_pos hpos]
  simp only [M.ok_bind]
  rw [hlow]
  have fin : ∀ row : List (Int × Int), row = h ++ (low, 0) :: t → (row.map Prod.fst).Nodup → row.length ≤ 1000 → (M.idx row (low, (0 : Int)) >>= fun first_7 => M.cat (cutL row (some first_7) none) (cutL row none (some first_7))) = .ok ((low, 0) :: (t ++ h)) := fun row e hn hr => by
    rw [idx_at e hn]
    simp only [M.ok_bind]
    rw [cutD, cutT, cat_small (by rw [List.length_drop, List.length_take]; omega), e]
    simp
  rcases n3 with e | ⟨e0, e⟩
  · rw [show memB (low, (0 : Int)) ss = true from memB_iff.mpr (by rw [e]; simp)]
    simp only [Bool.not_true, if_neg Bool.false_ne_true, M.ok_bind]
    exact fin ss e n1 hl
  · rw [show memB (low, (0 : Int)) ss = false by rw [← Bool.not_eq_true]; exact fun z => e0 (memB_iff.mp z)]
    simp only [Bool.not_false, if_true]
    rw [reversed_eq]
    simp only [M.ok_bind]
    exact fin _ e (by rw [fst_rev, nodup_rev]; exact n1) (by simp; omega)
theorem NF.len {ss r : List (Int × Int)} (n : NF ss r) : r.length = ss.length := by
  obtain ⟨low, h, t, n1, n2, n3, rfl⟩ := n
  rcases n3 with e | ⟨e0, e⟩
  · rw [e]; simp; omega
  · have : ss.length = (ss.reverse.map bk).length := by simp
    rw [this, e]; simp; omega
end
end PM

/-! PH: joints, groups by labels, touched sides, hinges: what the laws and the program compute of them. -/
namespace PM
open PySem L2 G
/-! groups by labels -/
/-! touched sides -/
def tStep (group : List Int) (place : Int) (s : IS) (x : T4I) : IS :=
  let s1 := if x.a = place ∧ x.c ∈ group then isAdd s x.b else s
  if x.c = place ∧ x.a ∈ group then isAdd s1 x.d else s1
theorem isAdd_nd {s : IS} {x : Int} (h : s.l.Nodup) : (isAdd s x).l.Nodup := by
  unfold isAdd
  split
  · exact h
  · next hx => exact nodup_snoc h hx
theorem isAdd_mem {s : IS} {x y : Int} : y ∈ (isAdd s x).l ↔ y ∈ s.l ∨ y = x := by
  unfold isAdd
  split
  · next hx =>
    constructor
    · exact .inl
    · rintro (h | rfl)
      · exact h
      · exact hx
  · simp
structure Few (s : IS) : Prop where
  nd : s.l.Nodup
  rg : ∀ y ∈ s.l, 0 ≤ y ∧ y < 4
theorem Few.add {s : IS} {x : Int} (h : Few s) (h0 : 0 ≤ x ∧ x < 4) : Few (isAdd s x) := ⟨isAdd_nd h.nd, fun y hy => (isAdd_mem.mp hy).elim (h.rg y) fun e => by rw [e]; exact h0⟩
theorem Few.len {s : IS} (h : Few s) : s.l.length ≤ 4 := by
  have := len_le (pts := rngL 0 4) h.nd fun y hy => mem_rngL.mpr (by have := h.rg y hy; omega)
  rw [rngL_len] at this
  exact this
theorem Few.step {s : IS} {group : List Int} {place : Int} {x : T4I} (h : Few s) (hx : (0 ≤ x.b ∧ x.b < 4) ∧ (0 ≤ x.d ∧ x.d < 4)) : Few (tStep group place s x) := by
  unfold tStep
  by_cases h1 : x.a = place ∧ x.c ∈ group
  · rw [if_pos h1]
    simp only
    split
    · exact (h.add hx.1).add hx.2
    · exact h.add hx.1
  · rw [if_neg h1]
    simp only
    split
    · exact h.add hx.2
    · exact h
/-! hinges -/
/-! joints -/
def memU (ties : List T4I) (p v : Int) : Prop := ∃ x ∈ ties, (x.a = p ∧ x.b = v) ∨ (x.c = p ∧ x.d = v)
def IsJoint (ties : List T4I) (p : Int) : Prop := ∃ v w, v ≠ w ∧ memU ties p v ∧ memU ties p w
noncomputable instance decJoint {ties : List T4I} {p : Int} : Decidable (IsJoint ties p) := Classical.propDecidable _
/-! makers -/
end PM

/-! KP: kinds in plain Lean: shapes (Sh), their letters, names, Kind.__init__, what the makers of the laws make. -/
namespace KP
open PySem L2 G PM
inductive Sh where
  | letter (n : PySem.Str) (b : Bool)
  | node (w : Bool) (l r : Sh)
  deriving DecidableEq
namespace Sh
def wd (w : Bool) : PySem.Str := if w then "both" else "together"
def toD : Sh → PyData
  | letter n b => .tuple [.str "letter", .str n, .bool b]
  | node w l r => .tuple [.str (wd w), l.toD, r.toD]
def lets : Sh → List (PySem.Str × Bool)
  | letter n b => [(n, b)]
  | node _ l r => l.lets ++ r.lets
def hs : Sh → Nat
  | letter _ _ => 1
  | node _ l r => max l.hs r.hs + 1
theorem lets_pos : ∀ s : Sh, 1 ≤ s.lets.length
  | letter n b => Nat.le_refl _
  | node w l r => by
    have := lets_pos l
    simp only [lets, List.length_append]
    omega
theorem hs_le : ∀ s : Sh, s.hs ≤ s.lets.length
  | letter n b => Nat.le_refl _
  | node w l r => by
    have h1 := hs_le l
    have h2 := hs_le r
    have p1 := lets_pos l
    have p2 := lets_pos r
    simp only [hs, lets, List.length_append]
    omega
theorem hs_pos : ∀ s : Sh, 1 ≤ s.hs
  | letter n b => Nat.le_refl _
  | node w l r => by
    simp only [hs]
    omega
theorem nol : ∀ s : Sh, noL s.toD = true
  | letter n b => rfl
  | node w l r => by
    simp only [toD, noL, noLs, nol l, nol r, Bool.and_self]
theorem dep : ∀ s : Sh, s.toD.depth ≤ s.hs
  | letter n b => by simp [toD, hs, PyData.depth, PyData.depthAll]
  | node w l r => by
    have h1 := dep l
    have h2 := dep r
    simp only [toD, hs, PyData.depth, PyData.depthAll]
    omega
theorem eqvT (a b c d e f : PyData) : PyData.eqv (.tuple [a, b, c]) (.tuple [d, e, f]) = (PyData.eqv a d && (PyData.eqv b e && PyData.eqv c f)) := by
  simp [PyData.eqv, PyData.eqvAll]
theorem eqvS (x y : PySem.Str) : PyData.eqv (.str x) (.str y) = decide (x = y) := by
  by_cases h : x = y <;> simp [PyData.eqv, h]
theorem eqvB (x y : Bool) : PyData.eqv (.bool x) (.bool y) = decide (x = y) := by
  by_cases h : x = y <;> simp [PyData.eqv, h]
theorem lw (w : Bool) : decide (("letter" : PySem.Str) = wd w) = false := by cases w <;> decide
theorem wlw (w : Bool) : decide (wd w = ("letter" : PySem.Str)) = false := by cases w <;> decide
theorem ww (v w : Bool) : decide (wd v = wd w) = decide (v = w) := by cases v <;> cases w <;> decide
theorem eqv_iff (a : Sh) : ∀ b : Sh, PyData.eqv a.toD b.toD = true ↔ a = b := by
  induction a with
  | letter n b =>
    intro y
    cases y with
    | letter m c =>
      show PyData.eqv (.tuple [.str "letter", .str n, .bool b]) (.tuple [.str "letter", .str m, .bool c]) = true ↔ _
      rw [eqvT, eqvS, eqvS, eqvB, Bool.and_eq_true, Bool.and_eq_true, decide_eq_true_eq, decide_eq_true_eq, decide_eq_true_eq]
      exact ⟨fun ⟨_, h1, h2⟩ => by rw [h1, h2], fun z => by injection z with h1 h2; exact ⟨rfl, h1, h2⟩⟩
    | node w l r =>
      show PyData.eqv (.tuple [.str "letter", .str n, .bool b]) (.tuple [.str (wd w), l.toD, r.toD]) = true ↔ _
      rw [eqvT, eqvS, lw, Bool.false_and]
      exact ⟨fun z => (by cases z), fun z => (by cases z)⟩
  | node w l r h1 h2 =>
    intro y
    cases y with
    | letter n b =>
      show PyData.eqv (.tuple [.str (wd w), l.toD, r.toD]) (.tuple [.str "letter", .str n, .bool b]) = true ↔ _
      rw [eqvT, eqvS, wlw, Bool.false_and]
      exact ⟨fun z => (by cases z), fun z => (by cases z)⟩
    | node w2 l2 r2 =>
      show PyData.eqv (.tuple [.str (wd w), l.toD, r.toD]) (.tuple [.str (wd w2), l2.toD, r2.toD]) = true ↔ _
      rw [eqvT, eqvS, ww, Bool.and_eq_true, Bool.and_eq_true, h1 l2, h2 r2, decide_eq_true_eq]
      exact ⟨fun ⟨a, b, c⟩ => by rw [a, b, c], fun z => by injection z with a b c; exact ⟨a, b, c⟩⟩
end Sh
theorem ouV (s : Sh) : @OU.ofU PyData dUI _ s.toD = some s.toD := by
  show (if noL s.toD then some s.toD else none) = _
  rw [s.nol]
  rfl
theorem ix0 (a b c : PyData) : M.ix [a, b, c] (0 : Int) = .ok a := rfl
theorem ix1 (a b c : PyData) : M.ix [a, b, c] (1 : Int) = .ok b := rfl
theorem ix2 (a b c : PyData) : M.ix [a, b, c] (2 : Int) = .ok c := rfl
theorem itl (n : PySem.Str) (b : Bool) : itemsU (Sh.letter n b).toD = some [.str "letter", .str n, .bool b] := rfl
theorem itn (w : Bool) (l r : Sh) : itemsU (Sh.node w l r).toD = some [.str (Sh.wd w), l.toD, r.toD] := rfl
theorem ouS (n : PySem.Str) : OU.ofU (α := PySem.Str) (.str n) = some n := rfl
theorem ouB (n : Bool) : OU.ofU (α := Bool) (.bool n) = some n := rfl
theorem wl (w : Bool) : decide (Sh.wd w = ("letter" : PySem.Str)) = false := by cases w <;> decide
theorem wb (w : Bool) : decide (Sh.wd w = ("both" : PySem.Str)) = w := by cases w <;> decide
theorem wt (w : Bool) : decide (Sh.wd w = ("together" : PySem.Str)) = !w := by cases w <;> decide
theorem ll : decide (("letter" : PySem.Str) = ("letter" : PySem.Str)) = true := by decide
theorem letters_ok : ∀ (s : Sh) (n : Nat), s.hs ≤ n → s.lets.length ≤ 1000 → l_letters_m n s.toD = .ok s.lets
  | .letter nm b, n + 1, _, _ => by
    show l_letters_step _ _ = _
    unfold l_letters_step
    simp only [itl, M.ofO_some, M.ok_bind, ix0, ix1, ix2, ouS, ouB, ll, if_true]
    rfl
  | .node w l r, n + 1, h, hl => by
    simp only [Sh.lets, List.length_append] at hl
    have h1 := letters_ok l n (by simp only [Sh.hs] at h; omega) (by omega)
    have h2 := letters_ok r n (by simp only [Sh.hs] at h; omega) (by omega)
    show l_letters_step _ _ = _
    unfold l_letters_step
    simp only [itn, M.ofO_some, M.ok_bind, ix0, ix1, ix2, ouS, ouV, wl, Bool.false_eq_true, if_false, h1, h2]
    exact cat_small (by omega)
  | s, 0, h, _ => absurd s.hs_pos (by omega)
theorem toD_sz : ∀ (w : Bool) (l r : Sh), sizeOf l.toD + sizeOf r.toD < sizeOf (Sh.node w l r).toD := fun w l r => by
  show _ < sizeOf (PyData.tuple [.str (Sh.wd w), l.toD, r.toD])
  simp
  omega
theorem popL_map (ss : List Sh) (x : Sh) : M.popL ((ss ++ [x]).map Sh.toD) = .ok (ss.map Sh.toD, x.toD) := by
  unfold M.popL
  simp
theorem lets_flat (ss : List Sh) : ss.length ≤ (ss.flatMap Sh.lets).length := by
  induction ss with
  | nil => exact Nat.zero_le _
  | cons x ss ih =>
    have := x.lets_pos
    simp only [List.flatMap_cons, List.length_append, List.length_cons]
    omega
theorem letters_in_ok (s : Sh) (h : s.lets.length ≤ 1000) : p_letters_in_m s.toD = .ok s.lets := by
  unfold p_letters_in_m
  simp only [M.ok_bind]
  refine M.sat_val (M.sat_bind (R1 := fun st => st.1 = s.lets) (M.sat_loop (fun st : List (PySem.Str × Bool) × List PyData => ∃ ss : List Sh, st.2 = ss.map Sh.toD ∧ st.1 ++ ss.reverse.flatMap Sh.lets = s.lets) (fun st => (st.2.map sizeOf).sum) ⟨[s], rfl, by simp⟩ ?_) fun st e => M.sat_ok e)
  rintro ⟨fd, wt⟩ ⟨ss, e1, e2⟩
  simp only at e1 e2
  subst e1
  refine ⟨_, rfl, fun hb => ?_, fun hb => ?_⟩
  · rcases List.eq_nil_or_concat ss with rfl | ⟨ss', x, rfl⟩
    · cases hb
    · rw [List.concat_eq_append] at e2 ⊢
      rw [popL_map]
      have hlen := congrArg List.length e2
      rw [List.length_append] at hlen
      have hfl := lets_flat ss'.reverse
      rw [List.length_reverse] at hfl
      rw [List.reverse_append, List.reverse_singleton, List.singleton_append, List.flatMap_cons] at e2 hlen
      rw [List.length_append] at hlen
      cases x with
      | letter n b =>
        simp only [itl, M.ofO_some, M.ok_bind, ix0, ix1, ix2, ouS, ouB, ll, if_true]
        rw [M.push_small (by omega)]
        refine ⟨_, rfl, ⟨ss', rfl, ?_⟩, ?_⟩
        · rw [List.append_assoc]
          exact e2
        · show ((ss'.map Sh.toD).map sizeOf).sum < _
          simp only [List.map_append, List.map_cons, List.map_nil, List.sum_append, List.sum_cons, List.sum_nil]
          have : 0 < sizeOf (Sh.letter n b).toD := by
            show 0 < sizeOf (PyData.tuple _)
            simp
            omega
          omega
      | node w l r =>
        simp only [itn, M.ofO_some, M.ok_bind, ix0, ix1, ix2, ouS, ouV, wl, Bool.false_eq_true, if_false]
        rw [M.push_small (by rw [List.length_map]; omega)]
        simp only [M.ok_bind]
        rw [M.push_small (by rw [List.length_append, List.length_map, List.length_singleton]; omega)]
        refine ⟨_, rfl, ⟨ss' ++ [r] ++ [l], by simp, ?_⟩, ?_⟩
        · show fd ++ _ = _
          rw [← e2]
          simp [Sh.lets]
        · have := toD_sz w l r
          simp only [List.map_append, List.map_cons, List.map_nil, List.sum_append, List.sum_cons, List.sum_nil]
          omega
  · cases ss with
    | nil => simpa using e2
    | cons x ss => cases hb
def az : PySem.Str := "abcdefghijklmnopqrstuvwxyz"
def okC (c : Nat) : Bool := decide (c ∈ az.cps.toList)
def okN (n : PySem.Str) : Bool := (decide (0 < n.length) && decide (n.length ≤ 8)) && n.cps.toList.all okC
def okX (x : PySem.Str) : Bool := match x.cps.toList with | [c] => okC c | _ => false
theorem signs_okX (n : PySem.Str) : (signs n).map okX = n.cps.toList.map okC := by
  unfold signs
  rw [List.map_map]
  rfl
theorem lenS_ok {n : PySem.Str} (h : n.length ≤ 1000) : M.lenS n = .ok (n.length : Int) := M.asrt_pos (Nat.le_of_lt (small1k (by omega)))
theorem inSg_ok {n x : PySem.Str} (h : x ∈ signs n) : M.inSg x az = .ok (okX x) := by
  unfold signs at h
  obtain ⟨c, _, rfl⟩ := List.mem_map.mp h
  rfl
theorem is_name_ok {n : PySem.Str} (h : n.length ≤ 1000) : p_is_name_m n = .ok (okN n) := by
  unfold p_is_name_m okN
  rw [lenS_ok h]
  simp only [M.ok_bind]
  have hs : M.signs n = .ok (signs n) := M.asrt_pos (Nat.le_of_lt (small1k (show n.length ≤ 100000 by omega)))
  by_cases h0 : 0 < n.length
  · have h0' : (0 : Int) < (n.length : Int) := by omega
    rw [if_pos (by simpa using h0'), decide_eq_true h0, Bool.true_and]
    simp only [M.ok_bind]
    by_cases h8 : n.length ≤ 8
    · have h8' : (n.length : Int) ≤ 8 := by omega
      rw [if_pos (by simpa using h8'), decide_eq_true h8, Bool.true_and, hs]
      simp only [M.ok_bind]
      rw [M.comp_mapM okX fun x hx => by
        have e := inSg_ok hx
        unfold az at e
        exact e]
      simp only [M.ok_bind]
      rw [signs_okX, List.all_map]
      rfl
    · have h8' : ¬ (n.length : Int) ≤ 8 := by omega
      rw [if_neg (by simpa using h8'), decide_eq_false h8]
      rfl
  · have h0' : ¬ (0 : Int) < (n.length : Int) := by omega
    rw [if_neg (by simpa using h0'), decide_eq_false h0]
    rfl
def tooX : PX := ⟨.TooLarge, some [("limit", .int 40)]⟩
def nameX (n : PySem.Str) : PX := ⟨.BadName, some [("name", .str n)]⟩
def bad1 (x : PySem.Str × Bool) : Option PySem.Str := if okN x.1 then none else some x.1
theorem fold_exc {α β : Type} {f : Unit → α → M Unit} (g : α → Option β) (E : β → PX) : ∀ {xs : List α}, (∀ x ∈ xs, f () x = match g x with | none => .ok () | some e => .exc (E e)) → M.fold f () xs = match xs.findSome? g with | none => .ok () | some e => .exc (E e)
  | [], _ => rfl
  | x :: xs, h => by
    simp only [M.fold, List.findSome?_cons]
    rw [h x List.mem_cons_self]
    cases g x with
    | none => exact fold_exc g E fun y hy => h y (List.mem_cons_of_mem _ hy)
    | some e => rfl
theorem okN_len {n : PySem.Str} (h : okN n = true) : n.length ≤ 8 := by
  unfold okN at h
  rw [Bool.and_eq_true, Bool.and_eq_true, decide_eq_true_eq, decide_eq_true_eq] at h
  exact h.1.2
structure Sm (s : Sh) : Prop where
  len : s.lets.length ≤ 1000
  nm : ∀ x ∈ s.lets, x.1.length ≤ 1000
theorem init_ok {s : Sh} (h : Sm s) : m_KindX_initX_m s.toD = if 40 < s.lets.length then .exc tooX else match s.lets.findSome? bad1 with | none => .ok ⟨s.toD⟩ | some n => .exc (nameX n) := by
  unfold m_KindX_initX_m
  rw [letters_in_ok s h.len]
  simp only [M.ok_bind]
  by_cases hl : 40 < s.lets.length
  · have hl' : (40 : Int) < (s.lets.length : Int) := by omega
    rw [if_pos (by simpa using hl'), if_pos hl]
    rfl
  · have hl' : ¬ (40 : Int) < (s.lets.length : Int) := by omega
    rw [if_neg (by simpa using hl'), if_neg hl]
    rw [fold_exc bad1 nameX fun x hx => by
      rw [is_name_ok (h.nm x hx)]
      simp only [M.ok_bind]
      unfold bad1
      cases okN x.1 <;> rfl]
    cases s.lets.findSome? bad1 <;> rfl
structure Gd (s : Sh) : Prop where
  len : s.lets.length ≤ 40
  nm : ∀ x ∈ s.lets, okN x.1 = true
theorem Gd.find {s : Sh} (g : Gd s) : s.lets.findSome? bad1 = none := by
  rw [List.findSome?_eq_none_iff]
  intro x hx
  unfold bad1
  rw [if_pos (g.nm x hx)]
theorem Gd.sm {s : Sh} (g : Gd s) : Sm s := ⟨by have := g.len; omega, fun x hx => by have := okN_len (g.nm x hx); omega⟩
theorem init_gd {s : Sh} (g : Gd s) : m_KindX_initX_m s.toD = .ok ⟨s.toD⟩ := by
  rw [init_ok g.sm, if_neg (by have := g.len; omega), g.find]
theorem Gd.hs {s : Sh} (g : Gd s) : s.hs ≤ 40 := Nat.le_trans s.hs_le g.len
theorem Gd.node {a b : Sh} (g : Gd a) (g2 : Gd b) (w : Bool) (h : a.lets.length + b.lets.length ≤ 40) : Gd (.node w a b) := by
  refine ⟨by show (a.lets ++ b.lets).length ≤ _; rw [List.length_append]; exact h, fun x hx => ?_⟩
  rcases List.mem_append.mp hx with hx | hx
  · exact g.nm x hx
  · exact g2.nm x hx
theorem foldC_find {α ρ : Type} {f : Unit → α → M (Ct Unit ρ)} (g : α → Option ρ) : ∀ {xs : List α}, (∀ x ∈ xs, f () x = match g x with | some r => .ok (.rt r) | none => .ok (.nx ())) → M.foldC f () xs = match xs.findSome? g with | some r => .ok (.rt r) | none => .ok (.nx ())
  | [], _ => rfl
  | x :: xs, h => by
    have ih := foldC_find g (xs := xs) fun y hy => h y (List.mem_cons_of_mem _ hy)
    show (f () x >>= _) = _
    rw [h x List.mem_cons_self, List.findSome?_cons]
    cases g x with
    | some r => rfl
    | none => exact ih
theorem catS_ok {a b : PySem.Str} (h : a.length + b.length ≤ 1000) : M.catS a b = .ok (a ++ b) := M.asrt_pos (Nat.le_of_lt (small1k (by omega)))
theorem app_len (a b : PySem.Str) : (a ++ b).length = a.length + b.length := PySem.Str.length_append a b
theorem comp_sat {α : Type} {f : α → M PySem.Str} {R : PySem.Str → Prop} {xs : List α} (h : ∀ x ∈ xs, M.sat (f x) R) : M.sat (M.comp (fun _ => .ok true) f xs) fun ys => ys.length = xs.length ∧ ∀ y ∈ ys, R y := by
  refine ⟨_, M.comp_mapM (fun x => match f x with | .ok r => r | _ => "") fun x hx => ?_, by rw [List.length_map], fun y hy => ?_⟩
  · obtain ⟨r, e, _⟩ := h x hx
    rw [e]
  · obtain ⟨x, hx, rfl⟩ := List.mem_map.mp hy
    obtain ⟨r, e, hr⟩ := h x hx
    rw [e]
    exact hr
theorem split2 {α : Type} {tt : List α} {p : Nat} (h : p + 1 < tt.length) : ∃ A x y B, tt = A ++ x :: y :: B ∧ A.length = p := by
  refine ⟨tt.take p, tt[p], tt[p + 1], tt.drop (p + 1 + 1), ?_, by rw [List.length_take]; omega⟩
  rw [← List.drop_eq_getElem_cons, ← List.drop_eq_getElem_cons, List.take_append_drop]
theorem erase_mid {α : Type} : ∀ (A : List α) (x y : α) (B : List α), (A ++ x :: y :: B).eraseIdx (A.length + 1) = A ++ x :: B
  | [], _, _, _ => rfl
  | a :: A, x, y, B => by
    show a :: (A ++ x :: y :: B).eraseIdx (A.length + 1) = _
    rw [erase_mid A x y B]
    rfl
theorem set_mid {α : Type} : ∀ (A : List α) (x z : α) (B : List α), (A ++ x :: B).set A.length z = A ++ z :: B
  | [], _, _, _ => rfl
  | a :: A, x, z, B => by
    show a :: (A ++ x :: B).set A.length z = _
    rw [set_mid A x z B]
    rfl
/-- two neighbours made one -/
theorem merge_step {tt : List Sh} {p : Int} (h0 : 0 ≤ p) (h1 : p + 1 < tt.length) (hl : tt.length ≤ 1000) : ∃ A x y B, tt = A ++ x :: y :: B ∧
    M.popAt (tt.map Sh.toD) (.ok (p + 1)) = .ok ((A ++ x :: B).map Sh.toD, y.toD) ∧ M.ix ((A ++ x :: B).map Sh.toD) p = .ok x.toD ∧ ∀ z : Sh, M.setIx ((A ++ x :: B).map Sh.toD) (.ok p) (.ok z.toD) = .ok ((A ++ z :: B).map Sh.toD) := by
  obtain ⟨A, x, y, B, rfl, hA⟩ := split2 (tt := tt) (p := p.toNat) (by omega)
  have hA' : (A.map Sh.toD).length = p.toNat := by rw [List.length_map]; exact hA
  refine ⟨A, x, y, B, rfl, ?_, ?_, fun z => ?_⟩
  · have hp : (p + 1).toNat = (A.map Sh.toD).length + 1 := by omega
    rw [M.popAt_at (y := y.toD) (by omega) (by omega) (by rw [hp]; simp), hp]
    congr 2
    rw [List.map_append, List.map_cons, List.map_cons, erase_mid]
    simp
  · refine M.ix_at h0 ?_
    rw [← hA']
    simp
  · rw [setIx_ok (j := p.toNat) (by omega) (by simp; omega)]
    congr 1
    rw [← hA', List.map_append, List.map_cons, set_mid]
    simp
theorem shape_sat (d : List Int) (a : Int) {ss : List Sh} (h : 1 ≤ ss.length) (h2 : ss.length ≤ 100) : M.sat (l_shape_m d a (ss.map Sh.toD)) fun r => ∃ s : Sh, r = s.toD ∧ s.lets = ss.flatMap Sh.lets := by
  unfold l_shape_m
  simp only [M.ok_bind, pick_eq]
  rw [List.length_map]
  obtain ⟨k, hk⟩ : ∃ k : Nat, (ss.length : Int) - 1 = k := ⟨ss.length - 1, by omega⟩
  rw [hk, M.rangeN (by omega)]
  simp only [M.ok_bind]
  refine M.sat_bind (M.sat_fold (fun i (s : List PyData) => ∃ tt : List Sh, s = tt.map Sh.toD ∧ tt.length + i = ss.length ∧ tt.flatMap Sh.lets = ss.flatMap Sh.lets) ⟨ss, rfl, rfl, rfl⟩ fun i x s hx ⟨tt, es, hl, hf⟩ => ?_) fun s ⟨tt, es, hl, hf⟩ => ?_
  · obtain ⟨hi, _⟩ := rngL_get hx
    subst es
    rw [List.length_map]
    have hp := pick_range (d := d) (k := a + 2 * x) (m := (tt.length : Int) - 1) (by omega)
    generalize pick d (a + 2 * x) ((tt.length : Int) - 1) = p at hp
    obtain ⟨A, u, v, B, rfl, e1, e2, e3⟩ := merge_step (tt := tt) (p := p) hp.1 (by omega) (by omega)
    rw [e1]
    simp only [M.ok_bind]
    refine M.sat_bind (R1 := fun w : PySem.Str => ∃ b : Bool, w = Sh.wd b) (M.sat_if (fun _ => M.sat_ok ⟨false, rfl⟩) fun _ => M.sat_ok ⟨true, rfl⟩) ?_
    rintro _ ⟨b, rfl⟩
    rw [e2]
    simp only [M.ok_bind]
    rw [show M.setIx ((A ++ u :: B).map Sh.toD) (.ok p) (M.ok (PyData.tuple [UD.toU (Sh.wd b), u.toD, v.toD])) = .ok ((A ++ Sh.node b u v :: B).map Sh.toD) from e3 (.node b u v)]
    refine ⟨_, rfl, A ++ Sh.node b u v :: B, rfl, ?_, ?_⟩
    · simp at hl ⊢
      omega
    · rw [← hf]
      simp [Sh.lets]
  · rw [rngL_len] at hl
    subst es
    match tt, hl with
    | [s], _ => exact ⟨s.toD, rfl, s, rfl, by simpa using hf⟩
    | [], hl => exact absurd hl (by simp; omega)
    | _ :: _ :: _, hl => exact absurd hl (by simp; omega)
theorem letters_map (ls : List (PySem.Str × Bool)) : (ls.map fun p => Sh.letter p.1 p.2).flatMap Sh.lets = ls := by
  induction ls with
  | nil => rfl
  | cons x xs ih =>
    rw [List.map_cons, List.flatMap_cons, ih]
    rfl
end KP

/-! KT: written kinds in plain Lean: the reader (rd), the machine that tells the first bad sign (run), the written form (wr). -/
namespace KP
open PySem L2 G PM
/-! ### texts as lists of signs -/
def st (l : List Nat) : PySem.Str := ⟨l.toArray⟩
theorem st_list (l : List Nat) : (st l).cps.toList = l := rfl
theorem st_len (l : List Nat) : (st l).length = l.length := by show l.toArray.size = _; simp
theorem st_of (z : PySem.Str) : st z.cps.toList = z := by
  obtain ⟨a⟩ := z
  show (⟨a.toList.toArray⟩ : PySem.Str) = ⟨a⟩
  simp
theorem st_cat (a b : List Nat) : st a ++ st b = st (a ++ b) := by
  show (⟨a.toArray ++ b.toArray⟩ : PySem.Str) = ⟨(a ++ b).toArray⟩
  simp
theorem st_inj {a b : List Nat} : st a = st b ↔ a = b := ⟨fun h => by
  have := congrArg (fun z : PySem.Str => z.cps.toList) h
  exact this, fun h => h ▸ rfl⟩
theorem st_inj' {a b : List Nat} : (decide (st a = st b) : Bool) = decide (a = b) := decide_eq_decide.mpr st_inj
inductive Rs where
  | bad
  | err (r : List Nat)
  | ok (s : Sh) (r : List Nat)
def rl (l : List Nat) : Rs :=
  if l.takeWhile okC = [] then .err l else
  match l.dropWhile okC with
  | 39 :: r => .ok (.letter (st (l.takeWhile okC)) false) r
  | r => .ok (.letter (st (l.takeWhile okC)) true) r
def Rs.on (x : Rs) (k : Sh → List Nat → Rs) : Rs := match x with | .bad => .bad | .err r => .err r | .ok s r => k s r
def ex (c : Nat) (l : List Nat) (k : List Nat → Rs) : Rs := match l with | [] => .err [] | d :: l' => if d = c then k l' else .err (d :: l')
def wx (l : List Nat) (k : Bool → List Nat → Rs) : Rs := match l with | [] => .err [] | d :: l' => if d = 38 then k true l' else if d = 124 then k false l' else .err (d :: l')
def rd : Nat → List Nat → Rs
  | 0, _ => .bad
  | f + 1, l => if l.head? = some 40 then
    (rd f l.tail).on fun a l2 => ex 32 l2 fun l3 => wx l3 fun w l4 => ex 32 l4 fun l5 => (rd f l5).on fun b l6 => ex 41 l6 fun l7 => .ok (.node w a b) l7
    else rl l
/-! ### the machine -/
inductive Qs where
  | kind | name | done | word | gap
  deriving DecidableEq
def clo (c : Nat) : List Bool → Option (Qs × List Bool)
  | false :: s => if c = 32 then some (.word, false :: s) else none
  | true :: s => if c = 41 then some (.done, s) else none
  | [] => none
def stq (c : Nat) (s : List Bool) : Qs → Option (Qs × List Bool)
  | .kind => if c = 40 then some (.kind, false :: s) else if okC c then some (.name, s) else none
  | .name => if okC c then some (.name, s) else if c = 39 then some (.done, s) else clo c s
  | .done => clo c s
  | .word => if c = 38 ∨ c = 124 then some (.gap, s) else none
  | .gap => if c = 32 then match s with | _ :: s => some (.kind, true :: s) | [] => none else none
def run : Qs → List Bool → List Nat → List Nat ⊕ (Qs × List Bool)
  | q, s, [] => .inr (q, s)
  | q, s, c :: l => match stq c s q with
    | none => .inl (c :: l)
    | some (q', s') => run q' s' l
def fin : List Nat ⊕ (Qs × List Bool) → Option (List Nat)
  | .inl r => some r
  | .inr (q, s) => if (q = .name ∨ q = .done) ∧ s = [] then none else some []
/-- nothing here goes on with a name -/
def Aft (q : Qs) (r : List Nat) : Prop := q = .done ∨ (q = .name ∧ ∀ c l, r = c :: l → okC c = false ∧ c ≠ 39)
theorem aft_stq {q : Qs} {c : Nat} {l : List Nat} (h : Aft q (c :: l)) (s : List Bool) : stq c s q = clo c s := by
  rcases h with rfl | ⟨rfl, h⟩
  · rfl
  · obtain ⟨h1, h2⟩ := h c l rfl
    show (if okC c = true then _ else _) = _
    rw [if_neg (by rw [h1]; decide), if_neg h2]
theorem aft_nil {q : Qs} {b : Bool} {s : List Bool} : fin (run q (b :: s) []) = some [] := by
  show (if _ ∧ (b :: s) = [] then none else some []) = _
  rw [if_neg (by simp)]
theorem run_names : ∀ {n : List Nat} (s : List Bool) (r : List Nat), (∀ c ∈ n, okC c = true) → run .name s (n ++ r) = run .name s r
  | [], _, _, _ => rfl
  | c :: n, s, r, h => by
    show (match stq c s .name with | none => _ | some (q', s') => run q' s' (n ++ r)) = _
    rw [show stq c s .name = some (.name, s) from if_pos (h c List.mem_cons_self)]
    exact run_names s r fun c hc => h c (List.mem_cons_of_mem _ hc)
theorem ok40 : okC 40 = false := by decide
theorem ok39 : okC 39 = false := by decide
theorem ok32 : okC 32 = false := by decide
theorem ok41 : okC 41 = false := by decide
theorem tw_ok (l : List Nat) : ∀ c ∈ l.takeWhile okC, okC c = true := fun c hc => by
  have := List.all_takeWhile (l := l) (p := okC)
  exact List.all_eq_true.mp this c hc
theorem dw_hd {l : List Nat} {c : Nat} {r : List Nat} (h : l.dropWhile okC = c :: r) : okC c = false := by
  have := List.head?_dropWhile_not okC l
  rw [h] at this
  simpa using this
/-- what the reader says, the machine says -/
def Says (R : List Nat ⊕ (Qs × List Bool)) (s : List Bool) : Rs → Prop
  | .bad => True
  | .err r => fin R = some r
  | .ok _ r => ∃ q, Aft q r ∧ R = run q s r
theorem says_rl {l : List Nat} (h : l.head? ≠ some 40) (s : List Bool) : Says (run .kind s l) s (rl l) := by
  unfold rl
  by_cases hn : l.takeWhile okC = []
  · rw [if_pos hn]
    cases l with
    | nil => rfl
    | cons c l =>
      have h1 : c ≠ 40 := fun e => h (e ▸ rfl)
      have h2 : okC c = false := by
        rw [List.takeWhile_cons] at hn
        by_cases hc : okC c = true
        · rw [if_pos hc] at hn; cases hn
        · simpa using hc
      show fin (match stq c s .kind with | none => _ | some (q', s') => _) = _
      rw [show stq c s .kind = none by show (if c = 40 then _ else _) = _; rw [if_neg h1, if_neg (by rw [h2]; decide)]]
      rfl
  · rw [if_neg hn]
    have e : run .kind s l = run .name s (l.dropWhile okC) := by
      conv => lhs; rw [← List.takeWhile_append_dropWhile (p := okC) (l := l)]
      have ht := tw_ok l
      cases ht2 : l.takeWhile okC with
      | nil => exact absurd ht2 hn
      | cons c n =>
        rw [ht2] at ht
        show (match stq c s .kind with | none => _ | some (q', s') => run q' s' (n ++ _)) = _
        have hc := ht c List.mem_cons_self
        rw [show stq c s .kind = some (.name, s) by
          show (if c = 40 then _ else _) = _
          rw [if_neg (fun e => by rw [e, ok40] at hc; cases hc), if_pos hc]]
        exact run_names s _ fun c hc => ht c (List.mem_cons_of_mem _ hc)
    split
    · next r he =>
      refine ⟨.done, .inl rfl, ?_⟩
      rw [e, he]
      rfl
    · next r hne =>
      refine ⟨.name, .inr ⟨rfl, fun c l2 hr => ?_⟩, e⟩
      exact ⟨dw_hd hr, fun h39 => hne l2 (h39 ▸ hr)⟩
theorem run_cons {q q' : Qs} {s s' : List Bool} {c : Nat} {l : List Nat} (h : stq c s q = some (q', s')) : run q s (c :: l) = run q' s' l := by
  show (match stq c s q with | none => _ | some (q', s') => run q' s' l) = _
  rw [h]
theorem run_stuck {q : Qs} {s : List Bool} {c : Nat} {l : List Nat} (h : stq c s q = none) : fin (run q s (c :: l)) = some (c :: l) := by
  show fin (match stq c s q with | none => _ | some (q', s') => run q' s' l) = _
  rw [h]
  rfl
theorem says_on {R : List Nat ⊕ (Qs × List Bool)} {s s2 : List Bool} {x : Rs} {k : Sh → List Nat → Rs} (h : Says R s x) (h2 : ∀ a q r, Aft q r → Says (run q s r) s2 (k a r)) : Says R s2 (x.on k) := by
  cases x with
  | bad => trivial
  | err r => exact h
  | ok a r =>
    obtain ⟨q, ha, e⟩ := h
    show Says R s2 (k a r)
    rw [e]
    exact h2 a q r ha
theorem says_ex {q q1 : Qs} {s s1 s2 : List Bool} {c : Nat} {l : List Nat} {k : List Nat → Rs} (h : ∀ d l', l = d :: l' → stq d s q = if d = c then some (q1, s1) else none) (h0 : fin (run q s []) = some []) (h2 : ∀ l', Says (run q1 s1 l') s2 (k l')) : Says (run q s l) s2 (ex c l k) := by
  cases l with
  | nil => exact h0
  | cons d l =>
    have e := h d l rfl
    show Says _ _ (if d = c then k l else .err (d :: l))
    by_cases hd : d = c
    · rw [if_pos hd] at e ⊢
      rw [run_cons e]
      exact h2 l
    · rw [if_neg hd] at e ⊢
      exact run_stuck e
theorem says_wx {s s2 : List Bool} {l : List Nat} {k : Bool → List Nat → Rs} (h2 : ∀ w l', Says (run .gap s l') s2 (k w l')) : Says (run .word s l) s2 (wx l k) := by
  cases l with
  | nil =>
    show (if (Qs.word = .name ∨ Qs.word = .done) ∧ s = [] then none else some []) = _
    rw [if_neg (by rintro ⟨h | h, _⟩ <;> cases h)]
  | cons d l =>
    show Says _ _ (if d = 38 then k true l else if d = 124 then k false l else .err (d :: l))
    by_cases hd : d = 38
    · rw [if_pos hd, run_cons (show stq d s .word = some (.gap, s) from if_pos (.inl hd))]
      exact h2 _ l
    · rw [if_neg hd]
      by_cases hd2 : d = 124
      · rw [if_pos hd2, run_cons (show stq d s .word = some (.gap, s) from if_pos (.inr hd2))]
        exact h2 _ l
      · rw [if_neg hd2]
        exact run_stuck (show stq d s .word = none from if_neg (by rintro (h | h) <;> contradiction))
theorem rd_says : ∀ (f : Nat) (l : List Nat) (s : List Bool), Says (run .kind s l) s (rd f l)
  | 0, _, _ => trivial
  | f + 1, l, s => by
    unfold rd
    by_cases hl : l.head? = some 40
    · rw [if_pos hl]
      obtain ⟨l1, rfl⟩ : ∃ l1, l = 40 :: l1 := by
        cases l with
        | nil => cases hl
        | cons c l => cases hl; exact ⟨l, rfl⟩
      rw [run_cons (q' := .kind) (s' := false :: s) rfl]
      refine says_on (rd_says f l1 (false :: s)) fun a q r ha => says_ex (q1 := .word) (s1 := false :: s) (fun d l' e => ?_) aft_nil fun l3 => says_wx fun w l4 => says_ex (q1 := .kind) (s1 := true :: s) (fun d l' e => ?_) aft_nil fun l5 => says_on (rd_says f l5 (true :: s)) fun b q2 r2 ha2 => says_ex (q1 := .done) (s1 := s) (fun d l' e => ?_) aft_nil fun l7 => ⟨.done, .inl rfl, rfl⟩
      · subst e
        exact aft_stq ha _
      · rfl
      · subst e
        exact aft_stq ha2 _
    · rw [if_neg hl]
      exact says_rl hl s
/-- the whole text: the first bad sign -/
theorem rd_fin {f : Nat} {l : List Nat} : match rd f l with | .bad => True | .err r => fin (run .kind [] l) = some r | .ok _ r => fin (run .kind [] l) = if r = [] then none else some r := by
  have h := rd_says f l []
  cases e : rd f l with
  | bad => trivial
  | err r => rw [e] at h; exact h
  | ok s r =>
    rw [e] at h
    obtain ⟨q, ha, e2⟩ := h
    show fin (run .kind [] l) = _
    rw [e2]
    cases r with
    | nil =>
      rw [if_pos rfl]
      show (if _ ∧ ([] : List Bool) = [] then none else some []) = none
      rw [if_pos ⟨ha.symm.imp (fun h => h.1) id, rfl⟩]
    | cons c r =>
      rw [if_neg (by simp), run_stuck (aft_stq ha [])]
/-! ### the written form -/
def wr : Sh → List Nat
  | .letter n b => n.cps.toList ++ if b then [] else [39]
  | .node w a b => 40 :: (wr a ++ (32 :: (if w then 38 else 124) :: 32 :: (wr b ++ [41])))
/-- names that can be written -/
def Nm (s : Sh) : Prop := ∀ x ∈ s.lets, x.1.cps.toList ≠ [] ∧ ∀ c ∈ x.1.cps.toList, okC c = true
theorem on_ok {x : Rs} {k : Sh → List Nat → Rs} {s : Sh} {r : List Nat} (h : x.on k = .ok s r) : ∃ a l2, x = .ok a l2 ∧ k a l2 = .ok s r := by
  cases x with
  | bad => cases h
  | err r => cases h
  | ok a l2 => exact ⟨a, l2, rfl, h⟩
theorem ex_ok {c : Nat} {l : List Nat} {k : List Nat → Rs} {s : Sh} {r : List Nat} (h : ex c l k = .ok s r) : ∃ l', l = c :: l' ∧ k l' = .ok s r := by
  cases l with
  | nil => cases h
  | cons d l =>
    have h : (if d = c then k l else .err (d :: l)) = .ok s r := h
    by_cases hd : d = c
    · rw [if_pos hd] at h
      exact ⟨l, by rw [hd], h⟩
    · rw [if_neg hd] at h; cases h
theorem wx_ok {l : List Nat} {k : Bool → List Nat → Rs} {s : Sh} {r : List Nat} (h : wx l k = .ok s r) : ∃ w l', l = (if w then 38 else 124) :: l' ∧ k w l' = .ok s r := by
  cases l with
  | nil => cases h
  | cons d l =>
    have h : (if d = 38 then k true l else if d = 124 then k false l else .err (d :: l)) = .ok s r := h
    by_cases hd : d = 38
    · rw [if_pos hd] at h
      exact ⟨true, l, by rw [hd]; rfl, h⟩
    · rw [if_neg hd] at h
      by_cases hd2 : d = 124
      · rw [if_pos hd2] at h
        exact ⟨false, l, by rw [hd2]; rfl, h⟩
      · rw [if_neg hd2] at h; cases h
theorem rl_ok {l r : List Nat} {s : Sh} (h : rl l = .ok s r) : l = wr s ++ r ∧ Nm s ∧ s.hs = 1 := by
  unfold rl at h
  by_cases hn : l.takeWhile okC = []
  · rw [if_pos hn] at h; cases h
  · rw [if_neg hn] at h
    have hN : ∀ b, Nm (.letter (st (l.takeWhile okC)) b) := fun b x hx => by
      have hx : x ∈ [(st (l.takeWhile okC), b)] := hx
      rw [List.mem_singleton] at hx
      subst hx
      exact ⟨hn, tw_ok l⟩
    have hl := List.takeWhile_append_dropWhile (p := okC) (l := l)
    split at h
    · next r' he =>
      cases h
      refine ⟨?_, hN _, rfl⟩
      show l = (l.takeWhile okC ++ [39]) ++ r
      rw [List.append_assoc, List.singleton_append, ← he, hl]
    · next r' hne =>
      cases h
      refine ⟨?_, hN _, rfl⟩
      show l = (l.takeWhile okC ++ []) ++ l.dropWhile okC
      rw [List.append_nil, hl]
theorem rd_ok : ∀ {f : Nat} {l r : List Nat} {s : Sh}, rd f l = .ok s r → l = wr s ++ r ∧ Nm s ∧ s.hs ≤ f
  | 0, _, _, _, h => by cases h
  | f + 1, l, r, s, h => by
    unfold rd at h
    by_cases hl : l.head? = some 40
    · rw [if_pos hl] at h
      obtain ⟨l1, rfl⟩ : ∃ l1, l = 40 :: l1 := by
        cases l with
        | nil => cases hl
        | cons c l => cases hl; exact ⟨l, rfl⟩
      obtain ⟨a, l2, h1, g1⟩ := on_ok h
      obtain ⟨l3, rfl, g2⟩ := ex_ok g1
      obtain ⟨w, l4, rfl, g3⟩ := wx_ok g2
      obtain ⟨l5, rfl, g4⟩ := ex_ok g3
      obtain ⟨b, l6, h2, g5⟩ := on_ok g4
      obtain ⟨l7, rfl, g6⟩ := ex_ok g5
      cases g6
      obtain ⟨e1, n1, g1⟩ := rd_ok h1
      obtain ⟨e2, n2, g2⟩ := rd_ok h2
      have e1 : l1 = _ := e1
      refine ⟨?_, fun x hx => ?_, ?_⟩
      · rw [e1, e2]
        show _ = (40 :: (wr a ++ (32 :: _ :: 32 :: (wr b ++ [41])))) ++ r
        simp
      · rcases List.mem_append.mp hx with hx | hx
        · exact n1 x hx
        · exact n2 x hx
      · show max a.hs b.hs + 1 ≤ f + 1
        omega
    · rw [if_neg hl] at h
      obtain ⟨e, n, g⟩ := rl_ok h
      exact ⟨e, n, by omega⟩
theorem on_nb {x : Rs} {k : Sh → List Nat → Rs} (h : x ≠ .bad) (h2 : ∀ a r, x = .ok a r → k a r ≠ .bad) : x.on k ≠ .bad := by
  cases x with
  | bad => exact absurd rfl h
  | err r => exact fun z => nomatch z
  | ok a r => exact h2 a r rfl
theorem ex_nb {c : Nat} {l : List Nat} {k : List Nat → Rs} (h : ∀ l', l = c :: l' → k l' ≠ .bad) : ex c l k ≠ .bad := by
  cases l with
  | nil => exact fun z => nomatch z
  | cons d l =>
    show (if d = c then k l else .err (d :: l)) ≠ _
    by_cases hd : d = c
    · rw [if_pos hd]; exact h l (hd ▸ rfl)
    · rw [if_neg hd]; exact fun z => nomatch z
theorem wx_nb {l : List Nat} {k : Bool → List Nat → Rs} (h : ∀ w l', l = (if w then 38 else 124) :: l' → k w l' ≠ .bad) : wx l k ≠ .bad := by
  cases l with
  | nil => exact fun z => nomatch z
  | cons d l =>
    show (if d = 38 then k true l else if d = 124 then k false l else .err (d :: l)) ≠ _
    by_cases hd : d = 38
    · rw [if_pos hd]; exact h true l (hd ▸ rfl)
    · rw [if_neg hd]
      by_cases hd2 : d = 124
      · rw [if_pos hd2]; exact h false l (hd2 ▸ rfl)
      · rw [if_neg hd2]; exact fun z => nomatch z
theorem on_hit (a : Sh) (r : List Nat) (k : Sh → List Nat → Rs) : (Rs.ok a r).on k = k a r := rfl
theorem ex_hit (c : Nat) (l : List Nat) (k : List Nat → Rs) : ex c (c :: l) k = k l := if_pos rfl
theorem wx_hit (w : Bool) (l : List Nat) (k : Bool → List Nat → Rs) : wx ((if w then 38 else 124) :: l) k = k w l := by cases w <;> rfl
/-- no more than that many brackets: the reader does not give up -/
theorem rd_nb : ∀ {f : Nat} {l : List Nat}, l.count 40 < f → rd f l ≠ .bad
  | 0, _, h => absurd h (Nat.not_lt_zero _)
  | f + 1, l, h => by
    unfold rd
    by_cases hl : l.head? = some 40
    · rw [if_pos hl]
      obtain ⟨l1, rfl⟩ : ∃ l1, l = 40 :: l1 := by
        cases l with
        | nil => cases hl
        | cons c l => cases hl; exact ⟨l, rfl⟩
      have hc : l1.count 40 < f := by rw [List.count_cons_self] at h; omega
      refine on_nb (rd_nb hc) fun a l2 e1 => ex_nb fun l3 e2 => wx_nb fun w l4 e3 => ex_nb fun l5 e4 => on_nb (rd_nb ?_) fun b l6 e5 => ex_nb fun l7 e6 => fun z => nomatch z
      have hl2 : l1 = _ := (rd_ok e1).1
      rw [hl2, e2, e3, e4] at hc
      simp only [List.count_append, List.count_cons] at hc
      omega
    · rw [if_neg hl]
      unfold rl
      by_cases hn : l.takeWhile okC = []
      · rw [if_pos hn]; exact fun z => nomatch z
      · rw [if_neg hn]
        split <;> exact fun z => nomatch z
/-- the reader reads what is written -/
theorem rd_wr : ∀ {s : Sh} {f : Nat} {r : List Nat}, Nm s → s.hs ≤ f → (∀ c l, r = c :: l → okC c = false ∧ c ≠ 39) → rd f (wr s ++ r) = .ok s r
  | .letter n b, f, r, hn, hf, hr => by
    obtain ⟨h1, h2⟩ := hn (n, b) (List.mem_singleton.mpr rfl)
    obtain ⟨f, rfl⟩ : ∃ g, f = g + 1 := ⟨f - 1, by have : 1 ≤ f := hf; omega⟩
    have hd : (wr (.letter n b) ++ r).head? ≠ some 40 := by
      show ((n.cps.toList ++ _) ++ r).head? ≠ _
      cases e : n.cps.toList with
      | nil => exact absurd e h1
      | cons c l =>
        intro z
        cases z
        have := h2 40 (by rw [e]; exact List.mem_cons_self)
        rw [ok40] at this
        cases this
    unfold rd
    rw [if_neg hd]
    have ht : ∀ q : List Nat, (∀ c l, q = c :: l → okC c = false) → (n.cps.toList ++ q).takeWhile okC = n.cps.toList ∧ (n.cps.toList ++ q).dropWhile okC = q := fun q hq => by
      rw [List.takeWhile_append_of_pos h2, List.dropWhile_append_of_pos h2]
      cases q with
      | nil => simp
      | cons c l =>
        have := hq c l rfl
        rw [List.takeWhile_cons, List.dropWhile_cons, this]
        simp
    cases b with
    | false =>
      show rl ((n.cps.toList ++ [39]) ++ r) = _
      rw [List.append_assoc]
      obtain ⟨e1, e2⟩ := ht ([39] ++ r) (fun c l e => by cases e; exact ok39)
      unfold rl
      rw [e1, e2, if_neg h1, st_of]
      rfl
    | true =>
      show rl ((n.cps.toList ++ []) ++ r) = _
      rw [List.append_nil]
      obtain ⟨e1, e2⟩ := ht r fun c l e => (hr c l e).1
      unfold rl
      rw [e1, e2, if_neg h1, st_of]
      split
      · next r' => exact absurd rfl (hr 39 r' rfl).2
      · rfl
  | .node w a b, f, r, hn, hf, hr => by
    have hm : max a.hs b.hs + 1 ≤ f := hf
    obtain ⟨f, rfl⟩ : ∃ g, f = g + 1 := ⟨f - 1, by omega⟩
    have e : wr (.node w a b) ++ r = 40 :: (wr a ++ (32 :: (if w then 38 else 124) :: 32 :: (wr b ++ (41 :: r)))) := by
      show (40 :: (wr a ++ (32 :: _ :: 32 :: (wr b ++ [41])))) ++ r = _
      simp
    rw [e]
    unfold rd
    rw [if_pos (show (40 :: _).head? = some 40 from rfl)]
    show (rd f (wr a ++ _)).on _ = _
    rw [rd_wr (fun x hx => hn x (List.mem_append_left _ hx)) (by omega) fun c l e => by cases e; exact ⟨ok32, by decide⟩]
    rw [on_hit, ex_hit, wx_hit, ex_hit]
    rw [rd_wr (s := b) (f := f) (r := 41 :: r) (fun x hx => hn x (List.mem_append_right _ hx)) (by omega) fun c l e => by cases e; exact ⟨ok41, by decide⟩]
    rw [on_hit, ex_hit]
theorem L39 : ("'" : PySem.Str) = st [39] := by decide
theorem L40 : ("(" : PySem.Str) = st [40] := by decide
theorem L41 : (")" : PySem.Str) = st [41] := by decide
theorem L_and : (" & " : PySem.Str) = st [32, 38, 32] := by decide
theorem L_or : (" | " : PySem.Str) = st [32, 124, 32] := by decide
theorem catT {a b : List Nat} (h : a.length + b.length ≤ 1000) : M.catS (st a) (st b) = .ok (st (a ++ b)) := by
  rw [catS_ok (by rw [st_len, st_len]; exact h), st_cat]
theorem look_w (w : Bool) : List.lookup (Sh.wd w) ([("both", " & "), ("together", " | ")] : List (PySem.Str × PySem.Str)) = some (st [32, if w then 38 else 124, 32]) := by cases w <;> decide
theorem wr_node (w : Bool) (a b : Sh) : wr (.node w a b) = ((([40] ++ wr a) ++ [32, if w then 38 else 124, 32]) ++ wr b) ++ [41] := by
  show 40 :: (wr a ++ (32 :: (if w then 38 else 124) :: 32 :: (wr b ++ [41]))) = _
  simp
theorem written_ok : ∀ (s : Sh) (n : Nat), s.hs ≤ n → (wr s).length ≤ 1000 → p_written_shape_m n s.toD = .ok (st (wr s))
  | .letter m b, n, h, hl => by
    obtain ⟨n, rfl⟩ : ∃ k, n = k + 1 := ⟨n - 1, by have : 1 ≤ n := h; omega⟩
    show p_written_shape_step (p_written_shape_m n) (Sh.letter m b).toD = _
    unfold p_written_shape_step
    simp only [itl, M.ofO_some, M.ok_bind, ix0, ix1, ix2, ouS, ouB, ll, if_true, decide_true]
    cases b with
    | false =>
      rw [if_neg (by decide)]
      have hl : (m.cps.toList ++ [39]).length ≤ 1000 := hl
      rw [List.length_append] at hl
      have e := catT (a := m.cps.toList) (b := [39]) hl
      rw [st_of] at e
      rw [L39, e]
      rfl
    | true =>
      rw [if_pos rfl]
      show M.ok m = M.ok (st (m.cps.toList ++ []))
      rw [List.append_nil, st_of]
  | .node w a b, n, h, hl => by
    have hm : max a.hs b.hs + 1 ≤ n := h
    obtain ⟨n, rfl⟩ : ∃ k, n = k + 1 := ⟨n - 1, by omega⟩
    rw [wr_node] at hl ⊢
    simp only [List.length_append, List.length_cons, List.length_nil] at hl
    show p_written_shape_step (p_written_shape_m n) (Sh.node w a b).toD = _
    unfold p_written_shape_step
    simp only [itn, M.ofO_some, M.ok_bind, ix0, ix1, ix2, ouS, ouV, wl, Bool.false_eq_true, if_false]
    rw [written_ok a n (by omega) (by omega), written_ok b n (by omega) (by omega)]
    simp only [M.ok_bind]
    rw [look_w, L40, catT (by simp; omega)]
    simp only [M.ok_bind, M.ofO_some]
    rw [catT (by simp; omega)]
    simp only [M.ok_bind]
    rw [catT (by simp; omega)]
    simp only [M.ok_bind]
    rw [L41, catT (by simp; omega)]
theorem wr_len : ∀ {s : Sh} {m : Nat}, (∀ x ∈ s.lets, x.1.length ≤ m) → (wr s).length + 5 ≤ (m + 6) * s.lets.length
  | .letter n b, m, h => by
    have h1 : n.length ≤ m := h (n, b) (List.mem_singleton.mpr rfl)
    have h2 : n.cps.toList.length = n.length := Array.length_toList
    show (n.cps.toList ++ if b then [] else [39]).length + 5 ≤ (m + 6) * 1
    rw [List.length_append, h2]
    cases b <;> simp <;> omega
  | .node w a b, m, h => by
    have h1 := wr_len (s := a) (m := m) fun x hx => h x (List.mem_append_left _ hx)
    have h2 := wr_len (s := b) (m := m) fun x hx => h x (List.mem_append_right _ hx)
    show (40 :: (wr a ++ (32 :: _ :: 32 :: (wr b ++ [41])))).length + 5 ≤ (m + 6) * (a.lets ++ b.lets).length
    rw [List.length_append, Nat.mul_add]
    simp only [List.length_cons, List.length_append, List.length_nil]
    omega
theorem wr_count : ∀ {s : Sh}, Nm s → (wr s).count 40 + 1 = s.lets.length
  | .letter n b, h => by
    obtain ⟨_, h2⟩ := h (n, b) (List.mem_singleton.mpr rfl)
    have : n.cps.toList.count 40 = 0 := List.count_eq_zero.mpr fun z => by
      have := h2 40 z
      rw [ok40] at this
      cases this
    show (n.cps.toList ++ if b then [] else [39]).count 40 + 1 = 1
    rw [List.count_append, this]
    cases b <;> rfl
  | .node w a b, h => by
    have h1 := wr_count (s := a) fun x hx => h x (List.mem_append_left _ hx)
    have h2 := wr_count (s := b) fun x hx => h x (List.mem_append_right _ hx)
    show (40 :: (wr a ++ (32 :: _ :: 32 :: (wr b ++ [41])))).count 40 + 1 = (a.lets ++ b.lets).length
    rw [List.length_append]
    simp only [List.count_cons, List.count_append, List.count_nil]
    cases w <;> simp <;> omega
end KP

namespace K79
open PySem L2 G PM
/-- the exceptions that may come up -/
def kn : XC → Bool := fun c => decide (c ∈ ([.BadName, .BadSign, .TooLarge] : List XC))
/-- _law_write -/
noncomputable def l_write_step (rec_ : PyData → M PySem.Str) (shape_here : PyData) : M PySem.Str :=
  (((((M.ofO (itemsU shape_here) >>= fun ds => M.ok (⟨ds⟩ : Sq PyData)) >>= fun t1 => (M.ix t1.l (0 : Int))) >>= fun t2 => (M.ofO (OU.ofU (α := PySem.Str) t2))) >>= fun t3 => (M.ok (decide (t3 = ("letter" : PySem.Str))))) >>= fun b6 => (if b6 then (((M.ofO (itemsU shape_here) >>= fun ds => M.ok (⟨ds⟩ : Sq PyData)) >>= fun t4 => (M.ix t4.l (2 : Int))) >>= fun t5 => (M.ofO (OU.ofU (α := Bool) t5))) else .ok false)) >>= fun b42 => if b42 then
  (((M.ofO (itemsU shape_here) >>= fun ds => M.ok (⟨ds⟩ : Sq PyData)) >>= fun t7 => (M.ix t7.l (1 : Int))) >>= fun t8 => (M.ofO (OU.ofU (α := PySem.Str) t8)))
else
  ((((M.ofO (itemsU shape_here) >>= fun ds => M.ok (⟨ds⟩ : Sq PyData)) >>= fun t9 => (M.ix t9.l (0 : Int))) >>= fun t10 => (M.ofO (OU.ofU (α := PySem.Str) t10))) >>= fun t11 => (M.ok (decide (t11 = ("letter" : PySem.Str))))) >>= fun b41 => if b41 then
    ((((M.ofO (itemsU shape_here) >>= fun ds => M.ok (⟨ds⟩ : Sq PyData)) >>= fun t12 => (M.ix t12.l (1 : Int))) >>= fun t13 => (M.ofO (OU.ofU (α := PySem.Str) t13))) >>= fun t14 => (M.catS t14 ("'" : PySem.Str)))
  else
    ((((M.ofO (itemsU shape_here) >>= fun ds => M.ok (⟨ds⟩ : Sq PyData)) >>= fun t15 => (M.ix t15.l (0 : Int))) >>= fun t16 => (M.ofO (OU.ofU (α := PySem.Str) t16))) >>= fun t17 => (M.ok (decide (t17 = ("both" : PySem.Str))))) >>= fun b40 => if b40 then
      ((((((((M.ofO (itemsU shape_here) >>= fun ds => M.ok (⟨ds⟩ : Sq PyData)) >>= fun t18 => (M.ix t18.l (1 : Int))) >>= fun t19 => (M.ofO (@OU.ofU PyData dUI _ t19))) >>= fun t20 => (rec_ t20)) >>= fun t21 => (M.catS ("(" : PySem.Str) t21)) >>= fun t22 => (M.catS t22 (" & " : PySem.Str))) >>= fun t26 => (((((M.ofO (itemsU shape_here) >>= fun ds => M.ok (⟨ds⟩ : Sq PyData)) >>= fun t23 => (M.ix t23.l (2 : Int))) >>= fun t24 => (M.ofO (@OU.ofU PyData dUI _ t24))) >>= fun t25 => (rec_ t25)) >>= fun t27 => (M.catS t26 t27))) >>= fun t28 => (M.catS t28 (")" : PySem.Str)))
    else
      ((((((((M.ofO (itemsU shape_here) >>= fun ds => M.ok (⟨ds⟩ : Sq PyData)) >>= fun t29 => (M.ix t29.l (1 : Int))) >>= fun t30 => (M.ofO (@OU.ofU PyData dUI _ t30))) >>= fun t31 => (rec_ t31)) >>= fun t32 => (M.catS ("(" : PySem.Str) t32)) >>= fun t33 => (M.catS t33 (" | " : PySem.Str))) >>= fun t37 => (((((M.ofO (itemsU shape_here) >>= fun ds => M.ok (⟨ds⟩ : Sq PyData)) >>= fun t34 => (M.ix t34.l (2 : Int))) >>= fun t35 => (M.ofO (@OU.ofU PyData dUI _ t35))) >>= fun t36 => (rec_ t36)) >>= fun t38 => (M.catS t37 t38))) >>= fun t39 => (M.catS t39 (")" : PySem.Str)))
noncomputable def l_write_m : Nat → PyData → M PySem.Str
  | 0 => fun _ => .bad
  | fl + 1 => l_write_step (l_write_m fl)
/-- expect -/
noncomputable def p_expect_m (text : PySem.Str) (at_ : Int) (char : PySem.Str) : M Int :=
  (((M.lenS text) >>= fun t1 => (M.ok (decide (t1 ≤ at_)))) >>= fun b3 => (if b3 then .ok true else ((M.ixS text at_) >>= fun t2 => (M.ok (!decide (t2 = char)))))) >>= fun b4 => if b4 then
  M.raise1 .BadSign "sign" (M.ok at_)
else
  (M.ok (at_ + (1 : Int)))
/-- name_end -/
noncomputable def p_name_end_m (text : PySem.Str) (at_ : Int) : M Int :=
  (M.ok at_) >>= fun end__1 =>
  M.loop (fun (s2 : Int) => (((M.lenS text) >>= fun t3 => (M.ok (decide (s2 < t3)))) >>= fun b5 => (if b5 then ((M.ixS text s2) >>= fun t4 => (M.inSg t4 ("abcdefghijklmnopqrstuvwxyz" : PySem.Str))) else .ok false))) (fun (s2 : Int) =>
    M.aug (fun i j => i + j) s2 (M.ok (1 : Int)) >>= fun end__6 =>
      M.ok end__6) end__1 >>= fun (s7 : Int) =>
  if (decide (s7 = at_)) then
  M.raise1 .BadSign "sign" (M.ok at_)
else
  (M.ok s7)
/-- read_shape -/
noncomputable def p_read_shape_step (rec_ : PySem.Str → Int → M (PyData × Int)) (text : PySem.Str) (at_ : Int) : M (PyData × Int) :=
  (((M.lenS text) >>= fun t1 => (M.ok (decide (at_ < t1)))) >>= fun b3 => (if b3 then ((M.ixS text at_) >>= fun t2 => (M.ok (decide (t2 = ("(" : PySem.Str))))) else .ok false)) >>= fun b26 => if b26 then
  (rec_ text (at_ + (1 : Int))) >>= fun t4 =>
    (p_expect_m text t4.2 (" " : PySem.Str)) >>= fun at__5 =>
    (((M.lenS text) >>= fun t6 => (M.ok (decide (t6 ≤ at__5)))) >>= fun b8 => (if b8 then .ok true else ((M.ixS text at__5) >>= fun t7 => (M.ok (!(List.lookup t7 ([("&", "both"), ("|", "together")] : List (PySem.Str × PySem.Str))).isSome))))) >>= fun b14 => if b14 then
    M.raise1 .BadSign "sign" (M.ok at__5)
  else
    ((M.ixS text at__5) >>= fun t9 => (M.ofO (List.lookup t9 ([("&", "both"), ("|", "together")] : List (PySem.Str × PySem.Str))))) >>= fun word_10 =>
      ((p_expect_m text (at__5 + (1 : Int)) (" " : PySem.Str)) >>= fun t11 => (rec_ text t11)) >>= fun t12 =>
      ((p_expect_m text t12.2 (")" : PySem.Str)) >>= fun t13 => (M.ok ((PyData.tuple [(UD.toU word_10), t4.1, t12.1]), t13)))
else
  (p_name_end_m text at_) >>= fun end__15 =>
    (((M.lenS text) >>= fun t16 => (M.ok (decide (end__15 < t16)))) >>= fun b18 => (if b18 then ((M.ixS text end__15) >>= fun t17 => (M.ok (decide (t17 = ("'" : PySem.Str))))) else .ok false)) >>= fun b25 => if b25 then
    ((((M.slS text (some at_) (some end__15)) >>= fun t19 => (M.ok (UD.toU t19))) >>= fun t20 => (M.ok (PyData.tuple [(UD.toU ("letter" : PySem.Str)), t20, (UD.toU false)]))) >>= fun t21 => (M.ok (t21, (end__15 + (1 : Int)))))
  else
    ((((M.slS text (some at_) (some end__15)) >>= fun t22 => (M.ok (UD.toU t22))) >>= fun t23 => (M.ok (PyData.tuple [(UD.toU ("letter" : PySem.Str)), t23, (UD.toU true)]))) >>= fun t24 => (M.ok (t24, end__15)))
noncomputable def p_read_shape_m : Nat → PySem.Str → Int → M (PyData × Int)
  | 0 => fun _ _ => .bad
  | fl + 1 => p_read_shape_step (p_read_shape_m fl)
/-- parse_kind -/
noncomputable def p_parse_kind_m (text : PySem.Str) : M KindM :=
  (p_read_shape_m 50 text (0 : Int)) >>= fun t1 =>
  ((M.lenS text) >>= fun t2 => (M.ok (decide (t1.2 < t2)))) >>= fun b3 => if b3 then
  M.raise1 .BadSign "sign" (M.ok t1.2)
else
  (m_KindX_initX_m t1.1)
/-- _law_told -/
noncomputable def l_told_m (text : PySem.Str) : M PyData :=
  M.tryK kn (fun c => XC.isA c .ComesapartError) ((p_parse_kind_m text) >>= fun kind_1 =>
  (if (!true) then .ok true else ((p_format_kind_m kind_1) >>= fun t2 => (M.ok (!decide (t2 = text))))) >>= fun b3 => if b3 then
  (M.ok (UD.toU (⟨[("other" : PySem.Str)]⟩ : Tup PySem.Str)))
else
  (M.ok (PyData.tuple [(UD.toU ("kind" : PySem.Str)), kind_1.a])))
  fun px4 => (M.ok ([] : (List PyData))) >>= fun found_5 =>
    (if (XC.isA px4.cls .BadSign) then
    M.push found_5 (((px4.fld .BadSign "sign") >>= fun t6 => (M.ok (UD.toU t6))) >>= fun t7 => (M.ok (PyData.tuple [(UD.toU ("sign" : PySem.Str)), t7]))) >>= fun found_8 =>
      M.ok found_8
  else
    M.ok found_5) >>= (fun s9 : (List PyData) =>
    (if (XC.isA px4.cls .TooLarge) then
    M.push s9 (((px4.fld .TooLarge "limit") >>= fun t10 => (M.ok (UD.toU t10))) >>= fun t11 => (M.ok (PyData.tuple [(UD.toU ("large" : PySem.Str)), t11]))) >>= fun found_12 =>
      M.ok found_12
  else
    M.ok s9) >>= (fun s13 : (List PyData) =>
    (if (XC.isA px4.cls .BadName) then
    M.push s13 (((px4.fldS .BadName "name") >>= fun t14 => (M.ok (UD.toU t14))) >>= fun t15 => (M.ok (PyData.tuple [(UD.toU ("name" : PySem.Str)), t15]))) >>= fun found_16 =>
      M.ok found_16
  else
    M.ok s13) >>= (fun s17 : (List PyData) =>
    if ((!decide ((s17.length : Int) = (1 : Int))) || (!true)) then
    (M.ok (UD.toU (⟨[("other" : PySem.Str)]⟩ : Tup PySem.Str)))
  else
    (M.ix s17 (0 : Int)))))
/-- _law_spoilt -/
noncomputable def l_spoilt_m (extra : (List Int)) (at_ : Int) (text : PySem.Str) : M PySem.Str :=
  (M.ok [("a" : PySem.Str), ("q" : PySem.Str), ("(" : PySem.Str), (")" : PySem.Str), (" " : PySem.Str), ("&" : PySem.Str), ("|" : PySem.Str), ("'" : PySem.Str), ("B" : PySem.Str), ("7" : PySem.Str), ("\n" : PySem.Str), ("~" : PySem.Str)]) >>= fun menu_1 =>
  ((l_pick_m extra (at_ + (1 : Int)) (12 : Int)) >>= fun t2 => (M.ix menu_1 t2)) >>= fun sign_3 =>
  ((l_pick_m extra (at_ + (2 : Int)) (60 : Int)) >>= fun t5 => (((l_pick_m extra (at_ + (3 : Int)) (12 : Int)) >>= fun t4 => (M.ok ((60 : Int) * t4))) >>= fun t6 => (M.ok (t5 + t6)))) >>= fun place_7 =>
  (((M.lenS text) >>= fun t8 => (M.ok (t8 + (1 : Int)))) >>= fun t9 => (M.asrt (0 < t9) (.ok (place_7 % t9)))) >>= fun place_10 =>
  (l_pick_m extra at_ (6 : Int)) >>= fun deed_11 =>
  if (decide (deed_11 = (0 : Int))) then
  ((M.slS text none (some place_10)) >>= fun t12 => ((M.slS text (some (place_10 + (1 : Int))) none) >>= fun t13 => (M.catS t12 t13)))
else
  if ((decide (deed_11 = (1 : Int))) || (decide (deed_11 = (2 : Int)))) then
    (((M.slS text none (some place_10)) >>= fun t14 => (M.catS t14 sign_3)) >>= fun t15 => ((M.slS text (some place_10) none) >>= fun t16 => (M.catS t15 t16)))
  else
    if (decide (deed_11 = (3 : Int))) then
      (((M.slS text none (some place_10)) >>= fun t17 => (M.catS t17 sign_3)) >>= fun t18 => ((M.slS text (some (place_10 + (1 : Int))) none) >>= fun t19 => (M.catS t18 t19)))
    else
      if (decide (deed_11 = (4 : Int))) then
        (M.slS text none (some place_10))
      else
        (M.catS text sign_3)
/-- _law_is_letter -/
noncomputable def l_is_letter_m (sign : PySem.Str) : M Bool :=
  (M.inSg sign ("abcdefghijklmnopqrstuvwxyz" : PySem.Str))
/-- _law_next -/
noncomputable def l_next_m (state : PySem.Str) (sign : PySem.Str) (stack : (List Int)) : M (PySem.Str × (List Int)) :=
  if ((decide (state = ("kind" : PySem.Str))) && (decide (sign = ("(" : PySem.Str)))) then
  M.push stack (M.ok (0 : Int)) >>= fun stack_1 =>
    (M.ok ("kind" : PySem.Str)) >>= fun r => M.ok (r, stack_1)
else
  (if ((decide (state = ("kind" : PySem.Str))) || (decide (state = ("name" : PySem.Str)))) then (l_is_letter_m sign) else .ok false) >>= fun b11 => if b11 then
    (M.ok ("name" : PySem.Str)) >>= fun r => M.ok (r, stack)
  else
    if ((decide (state = ("name" : PySem.Str))) && (decide (sign = ("'" : PySem.Str)))) then
      (M.ok ("done" : PySem.Str)) >>= fun r => M.ok (r, stack)
    else
      if (((decide (state = ("name" : PySem.Str))) || (decide (state = ("done" : PySem.Str)))) && (decide ((0 : Int) < (stack.length : Int)))) then
        (((M.ix stack (-(1 : Int))) >>= fun t2 => (M.ok (decide (t2 = (0 : Int))))) >>= fun b3 => (if b3 then (M.ok (decide (sign = (" " : PySem.Str)))) else .ok false)) >>= fun b9 => if b9 then
          (M.ok ("word" : PySem.Str)) >>= fun r => M.ok (r, stack)
        else
          (((M.ix stack (-(1 : Int))) >>= fun t4 => (M.ok (decide (t4 = (1 : Int))))) >>= fun b5 => (if b5 then (M.ok (decide (sign = (")" : PySem.Str)))) else .ok false)) >>= fun b8 => if b8 then
            (M.popL stack) >>= fun p6 =>
              (M.ok ("done" : PySem.Str)) >>= fun r => M.ok (r, p6.1)
          else
            if ((decide (state = ("word" : PySem.Str))) && ((decide (sign = ("&" : PySem.Str))) || (decide (sign = ("|" : PySem.Str))))) then
              (M.ok ("gap" : PySem.Str)) >>= fun r => M.ok (r, stack)
            else
              if ((decide (state = ("gap" : PySem.Str))) && (decide (sign = (" " : PySem.Str)))) then
                M.setIx stack (M.ok (-(1 : Int))) (M.ok (1 : Int)) >>= fun stack_7 =>
                  (M.ok ("kind" : PySem.Str)) >>= fun r => M.ok (r, stack_7)
              else
                (M.ok ("stuck" : PySem.Str)) >>= fun r => M.ok (r, stack)
      else
        if ((decide (state = ("word" : PySem.Str))) && ((decide (sign = ("&" : PySem.Str))) || (decide (sign = ("|" : PySem.Str))))) then
          (M.ok ("gap" : PySem.Str)) >>= fun r => M.ok (r, stack)
        else
          if ((decide (state = ("gap" : PySem.Str))) && (decide (sign = (" " : PySem.Str)))) then
            M.setIx stack (M.ok (-(1 : Int))) (M.ok (1 : Int)) >>= fun stack_10 =>
              (M.ok ("kind" : PySem.Str)) >>= fun r => M.ok (r, stack_10)
          else
            (M.ok ("stuck" : PySem.Str)) >>= fun r => M.ok (r, stack)
/-- _law_bad_sign -/
noncomputable def l_bad_sign_m (text : PySem.Str) : M (Opt Int) :=
  (M.ok ("kind" : PySem.Str)) >>= fun state_1 =>
  (M.ok ([] : (List Int))) >>= fun stack_2 =>
  ((M.lenS text) >>= fun t4 => (M.range t4)) >>= fun l12 =>
  M.foldC (fun (s3 : (PySem.Str × (List Int))) x5 =>
    (M.calm ((M.ok s3.1) >>= fun a6 => ((M.ixS text x5) >>= fun a7 => (l_next_m a6 a7 s3.2)))) >>= fun p8 =>
      if (decide (p8.1 = ("stuck" : PySem.Str))) then
      (M.ok (.some x5)) >>= fun r => .ok (.rt r)
    else
      M.ok (.nx (p8.1, p8.2))) (state_1, stack_2) l12 >>= fun c11 => Ct.go c11 M.ok fun (s9 : (PySem.Str × (List Int))) =>
  if (((decide (s9.1 = ("name" : PySem.Str))) || (decide (s9.1 = ("done" : PySem.Str)))) && (decide ((s9.2.length : Int) = (0 : Int)))) then
  (M.ok .none)
else
  ((M.lenS text) >>= fun t10 => (M.ok (.some t10)))
/-- _law_read -/
noncomputable def l_read_step (rec_ : PySem.Str → Int → M (LP PyData Int)) (text : PySem.Str) (at_ : Int) : M (LP PyData Int) :=
  ((M.ixS text at_) >>= fun t1 => (M.ok (decide (t1 = ("(" : PySem.Str))))) >>= fun b26 => if b26 then
  (rec_ text (at_ + (1 : Int))) >>= fun t2 =>
    (M.ok ("both" : PySem.Str)) >>= fun word_3 =>
    (((M.ixS text (t2.b + (1 : Int))) >>= fun t4 => (M.ok (decide (t4 = ("|" : PySem.Str))))) >>= fun b8 => if b8 then
    (M.ok ("together" : PySem.Str)) >>= fun word_5 =>
      M.ok word_5
  else
    M.ok word_3) >>= (fun s6 : PySem.Str =>
    (rec_ text (t2.b + (3 : Int))) >>= fun t7 =>
    (M.ok (⟨(PyData.tuple [(UD.toU s6), t2.a, t7.a]), (t7.b + (1 : Int))⟩ : (LP PyData Int))))
else
  (M.ok at_) >>= fun end__9 =>
    M.loop (fun (s10 : Int) => (((M.lenS text) >>= fun t11 => (M.ok (decide (s10 < t11)))) >>= fun b13 => (if b13 then ((M.ixS text s10) >>= fun t12 => (l_is_letter_m t12)) else .ok false))) (fun (s10 : Int) =>
      (M.ok (s10 + (1 : Int))) >>= fun end__14 =>
        M.ok end__14) end__9 >>= fun (s15 : Int) =>
    (((M.lenS text) >>= fun t16 => (M.ok (decide (s15 < t16)))) >>= fun b18 => (if b18 then ((M.ixS text s15) >>= fun t17 => (M.ok (decide (t17 = ("'" : PySem.Str))))) else .ok false)) >>= fun b25 => if b25 then
    ((((M.slS text (some at_) (some s15)) >>= fun t19 => (M.ok (UD.toU t19))) >>= fun t20 => (M.ok (PyData.tuple [(UD.toU ("letter" : PySem.Str)), t20, (UD.toU false)]))) >>= fun t21 => (M.ok (⟨t21, (s15 + (1 : Int))⟩ : (LP PyData Int))))
  else
    ((((M.slS text (some at_) (some s15)) >>= fun t22 => (M.ok (UD.toU t22))) >>= fun t23 => (M.ok (PyData.tuple [(UD.toU ("letter" : PySem.Str)), t23, (UD.toU true)]))) >>= fun t24 => (M.ok (⟨t24, s15⟩ : (LP PyData Int))))
noncomputable def l_read_m : Nat → PySem.Str → Int → M (LP PyData Int)
  | 0 => fun _ _ => .bad
  | fl + 1 => l_read_step (l_read_m fl)
/-- _law_due -/
noncomputable def l_due_m (text : PySem.Str) : M PyData :=
  (l_bad_sign_m text) >>= fun sign_1 =>
  if (!sign_1.isNone) then
  M.ofOpt sign_1 >>= fun z2 =>
    (M.ok (PyData.tuple [(UD.toU ("sign" : PySem.Str)), (UD.toU z2)]))
else
  ((l_read_m 50 text (0 : Int)) >>= fun t3 => (M.ok t3.a)) >>= fun shape_here_4 =>
    (l_letters_m 44 shape_here_4) >>= fun letters_here_5 =>
    if (decide ((40 : Int) < (letters_here_5.length : Int))) then
    (M.ok (PyData.tuple [(UD.toU ("large" : PySem.Str)), (UD.toU (40 : Int))]))
  else
    (M.ok letters_here_5) >>= fun l12 =>
      M.foldC (fun (_ : Unit) x7 =>
        ((M.lenS x7.1) >>= fun t8 => (M.ok (decide ((8 : Int) < t8)))) >>= fun b9 => if b9 then
          (M.ok (PyData.tuple [(UD.toU ("name" : PySem.Str)), (UD.toU x7.1)])) >>= fun r => .ok (.rt r)
        else
          M.ok (.nx ())) () l12 >>= fun c11 => Ct.go c11 M.ok fun (_ : Unit) =>
      (M.ok (PyData.tuple [(UD.toU ("kind" : PySem.Str)), shape_here_4]))
/-- law -/
noncomputable def law_m (script : (Sq Int)) : M Bool :=
  ((l_cell_m script (0 : Int)) >>= fun t1 => (l_draws_m t1 (100 : Int))) >>= fun draws_here_2 =>
  ((l_cell_m script (1 : Int)) >>= fun t3 => (l_draws_m t3 (40 : Int))) >>= fun extra_4 =>
  ((l_pick_m extra_4 (2 : Int) (8 : Int)) >>= fun t5 => (M.ok ((1 : Int) + t5))) >>= fun many_6 =>
  (((l_pick_m extra_4 (3 : Int) (10 : Int)) >>= fun t7 => (M.ok (decide (t7 = (7 : Int))))) >>= fun b122 => if b122 then
  ((l_pick_m extra_4 (2 : Int) (4 : Int)) >>= fun t8 => (M.ok ((39 : Int) + t8))) >>= fun many_9 =>
    M.ok many_9
else
  M.ok many_6) >>= (fun s10 : Int =>
  (l_names_m draws_here_2 extra_4 s10) >>= fun names_here_11 =>
  ((M.range s10) >>= M.comp (fun _ => (M.ok true)) (fun x12 => ((l_pick_m draws_here_2 ((5 : Int) + x12) (2 : Int)) >>= fun t13 => (M.ok (decide (t13 = (1 : Int))))))) >>= fun signs_14 =>
  (((M.range s10) >>= M.comp (fun _ => (M.ok true)) (fun x20 => (((M.ix names_here_11 x20) >>= fun t21 => (M.ok (UD.toU t21))) >>= fun t23 => (((M.ix signs_14 x20) >>= fun t22 => (M.ok (UD.toU t22))) >>= fun t24 => (M.ok (PyData.tuple [(UD.toU ("letter" : PySem.Str)), t23, t24])))))) >>= fun t25 => (l_shape_m draws_here_2 (20 : Int) t25)) >>= fun shape_here_26 =>
  (l_write_m 44 shape_here_26) >>= fun text_27 =>
  if (decide (s10 ≤ (40 : Int))) then
  ((m_KindX_initX_m shape_here_26) >>= fun t28 => (p_format_kind_m t28)) >>= fun written_29 =>
    (if (!true) then .ok true else (if (!decide (written_29 = text_27)) then .ok true else ((l_told_m text_27) >>= fun t30 => (M.asrt (t30.depth ≤ 64 ∧ (UD.toU (("kind" : PySem.Str), shape_here_26)).depth ≤ 64) (.ok (!PyData.eqv t30 (UD.toU (("kind" : PySem.Str), shape_here_26)))))))) >>= fun b76 => if b76 then
    (M.ok false)
  else
    (((l_pick_m extra_4 (4 : Int) (6 : Int)) >>= fun t31 => (M.ok (decide (t31 = (1 : Int))))) >>= fun b75 => if b75 then
      (l_pick_m extra_4 (5 : Int) s10) >>= fun place_32 =>
        M.setIx names_here_11 (M.ok place_32) (((M.ix names_here_11 place_32) >>= fun t33 => (M.catS t33 ("longernm" : PySem.Str))) >>= fun t35 => (((l_pick_m extra_4 (6 : Int) (4 : Int)) >>= fun t34 => (M.ixS ("abcd" : PySem.Str) t34)) >>= fun t36 => (M.catS t35 t36))) >>= fun names_here_37 =>
        ((((M.range s10) >>= M.comp (fun _ => (M.ok true)) (fun x54 => (((M.ix names_here_37 x54) >>= fun t55 => (M.ok (UD.toU t55))) >>= fun t57 => (((M.ix signs_14 x54) >>= fun t56 => (M.ok (UD.toU t56))) >>= fun t58 => (M.ok (PyData.tuple [(UD.toU ("letter" : PySem.Str)), t57, t58])))))) >>= fun t59 => (l_shape_m draws_here_2 (20 : Int) t59)) >>= fun t60 => (l_write_m 44 t60)) >>= fun text_61 =>
        M.ok text_61
    else
      M.ok text_27) >>= (fun s62 : PySem.Str =>
      (((l_pick_m extra_4 (7 : Int) (3 : Int)) >>= fun t63 => (M.ok (decide ((0 : Int) < t63)))) >>= fun b74 => if b74 then
      (l_spoilt_m extra_4 (8 : Int) s62) >>= fun text_64 =>
        ((l_pick_m extra_4 (7 : Int) (6 : Int)) >>= fun t65 => (M.ok (decide (t65 = (4 : Int))))) >>= fun b67 => if b67 then
        (l_spoilt_m extra_4 (14 : Int) text_64) >>= fun text_66 =>
          M.ok text_66
      else
        M.ok text_64
    else
      M.ok s62) >>= (fun s68 : PySem.Str =>
      (((l_told_m s68) >>= fun t69 => ((l_due_m s68) >>= fun t70 => (M.asrt (t69.depth ≤ 64 ∧ t70.depth ≤ 64) (.ok (PyData.eqv t69 t70))))) >>= fun b73 => (if b73 then ((l_told_m s68) >>= fun t71 => ((l_due_m s68) >>= fun t72 => (M.asrt (t71.depth ≤ 64 ∧ t72.depth ≤ 64) (.ok (PyData.eqv t71 t72))))) else .ok false))))
else
  (((l_pick_m extra_4 (4 : Int) (6 : Int)) >>= fun t77 => (M.ok (decide (t77 = (1 : Int))))) >>= fun b121 => if b121 then
    (l_pick_m extra_4 (5 : Int) s10) >>= fun place_78 =>
      M.setIx names_here_11 (M.ok place_78) (((M.ix names_here_11 place_78) >>= fun t79 => (M.catS t79 ("longernm" : PySem.Str))) >>= fun t81 => (((l_pick_m extra_4 (6 : Int) (4 : Int)) >>= fun t80 => (M.ixS ("abcd" : PySem.Str) t80)) >>= fun t82 => (M.catS t81 t82))) >>= fun names_here_83 =>
      ((((M.range s10) >>= M.comp (fun _ => (M.ok true)) (fun x100 => (((M.ix names_here_83 x100) >>= fun t101 => (M.ok (UD.toU t101))) >>= fun t103 => (((M.ix signs_14 x100) >>= fun t102 => (M.ok (UD.toU t102))) >>= fun t104 => (M.ok (PyData.tuple [(UD.toU ("letter" : PySem.Str)), t103, t104])))))) >>= fun t105 => (l_shape_m draws_here_2 (20 : Int) t105)) >>= fun t106 => (l_write_m 44 t106)) >>= fun text_107 =>
      M.ok text_107
  else
    M.ok text_27) >>= (fun s108 : PySem.Str =>
    (((l_pick_m extra_4 (7 : Int) (3 : Int)) >>= fun t109 => (M.ok (decide ((0 : Int) < t109)))) >>= fun b120 => if b120 then
    (l_spoilt_m extra_4 (8 : Int) s108) >>= fun text_110 =>
      ((l_pick_m extra_4 (7 : Int) (6 : Int)) >>= fun t111 => (M.ok (decide (t111 = (4 : Int))))) >>= fun b113 => if b113 then
      (l_spoilt_m extra_4 (14 : Int) text_110) >>= fun text_112 =>
        M.ok text_112
    else
      M.ok text_110
  else
    M.ok s108) >>= (fun s114 : PySem.Str =>
    (((l_told_m s114) >>= fun t115 => ((l_due_m s114) >>= fun t116 => (M.asrt (t115.depth ≤ 64 ∧ t116.depth ≤ 64) (.ok (PyData.eqv t115 t116))))) >>= fun b119 => (if b119 then ((l_told_m s114) >>= fun t117 => ((l_due_m s114) >>= fun t118 => (M.asrt (t117.depth ≤ 64 ∧ t118.depth ≤ 64) (.ok (PyData.eqv t117 t118))))) else .ok false)))))
end K79

/-! K79p: the plain law. -/
namespace K79
open PySem L2 G PM KP
/-! ### positions -/
structure At (cs l : List Nat) (at_ : Int) : Prop where
  ex : ∃ pre, cs = pre ++ l ∧ at_ = (pre.length : Int)
  sm : cs.length ≤ 1000
theorem At.next {cs l : List Nat} {c : Nat} {a : Int} (h : At cs (c :: l) a) : At cs l (a + 1) := by
  obtain ⟨⟨pre, e, e2⟩, hs⟩ := h
  exact ⟨⟨pre ++ [c], by simp [e], by rw [e2]; simp⟩, hs⟩
theorem At.val {cs l : List Nat} {a : Int} (h : At cs l a) : a = (cs.length : Int) - l.length := by
  obtain ⟨⟨pre, e, e2⟩, hs⟩ := h
  rw [e, e2, List.length_append]
  omega
theorem At.le {cs l : List Nat} {a : Int} (h : At cs l a) : l.length ≤ cs.length := by
  obtain ⟨⟨pre, e, e2⟩, hs⟩ := h
  rw [e, List.length_append]
  omega
theorem At.app {cs l m : List Nat} {a : Int} (h : At cs (m ++ l) a) : At cs l (a + m.length) := by
  obtain ⟨⟨pre, e, e2⟩, hs⟩ := h
  exact ⟨⟨pre ++ m, by simp [e], by rw [e2]; simp⟩, hs⟩
theorem At.suf {cs l m : List Nat} {a : Int} (h : At cs (m ++ l) a) : At cs l ((cs.length : Int) - l.length) := by
  have := h.app
  rw [this.val] at this
  exact this
theorem At.all {cs : List Nat} (h : cs.length ≤ 1000) : At cs cs 0 := ⟨⟨[], rfl, rfl⟩, h⟩
theorem lenT {cs : List Nat} (h : cs.length ≤ 1000) : M.lenS (st cs) = .ok (cs.length : Int) := by
  rw [lenS_ok (by rw [st_len]; exact h), st_len]
theorem At.ix {cs l : List Nat} {c : Nat} {a : Int} (h : At cs (c :: l) a) : M.ixS (st cs) a = .ok (st [c]) := by
  obtain ⟨⟨pre, e, e2⟩, hs⟩ := h
  unfold M.ixS
  rw [M.asrt_pos (Nat.le_of_lt (small1k (by rw [st_len]; omega)))]
  rw [e2, st_list, atI_of (i := (pre.length : Int)) (x := c) (by omega) (by rw [e]; simp)]
  rfl
theorem At.lt {cs l : List Nat} {a : Int} (h : At cs l a) : decide (a < (cs.length : Int)) = !l.isEmpty := by
  have := h.val
  have := h.le
  cases l with
  | nil => exact decide_eq_false (by simp at *; omega)
  | cons c l => exact decide_eq_true (by simp at *; omega)
theorem At.ge {cs l : List Nat} {a : Int} (h : At cs l a) : decide ((cs.length : Int) ≤ a) = l.isEmpty := by
  have := h.val
  have := h.le
  cases l with
  | nil => exact decide_eq_true (by simp at *; omega)
  | cons c l => exact decide_eq_false (by simp at *; omega)
def signX (i : Int) : PX := ⟨.BadSign, some [("sign", .int i)]⟩
theorem L32 : (" " : PySem.Str) = st [32] := by decide
theorem L38 : ("&" : PySem.Str) = st [38] := by decide
theorem L124 : ("|" : PySem.Str) = st [124] := by decide
theorem one_eq (a b : Nat) : decide (st [a] = st [b]) = decide (a = b) := by
  rw [st_inj']
  exact decide_eq_decide.mpr (by simp)
def exM (a : Int) (c : Nat) : List Nat → M Int
  | [] => .exc (signX a)
  | d :: _ => if d = c then .ok (a + 1) else .exc (signX a)
def hdC : List Nat → Bool
  | [] => false
  | c :: _ => okC c
theorem expect_ok {cs l : List Nat} {a : Int} (h : At cs l a) (c : Nat) : p_expect_m (st cs) a (st [c]) = exM a c l := by
  unfold p_expect_m
  rw [lenT h.sm]
  simp only [M.ok_bind]
  rw [h.ge]
  cases l with
  | nil => rfl
  | cons d l =>
    simp only [List.isEmpty_cons, Bool.false_eq_true, if_false]
    rw [h.ix]
    simp only [M.ok_bind]
    rw [one_eq]
    show _ = if d = c then M.ok (a + 1) else M.exc (signX a)
    by_cases hd : d = c
    · rw [if_pos hd, decide_eq_true hd]; rfl
    · rw [if_neg hd, decide_eq_false hd]; rfl
/-! ### names within a text -/
theorem test_ok {cs l : List Nat} {s : Int} (h : At cs l s) : (((M.lenS (st cs)) >>= fun t3 => (M.ok (decide (s < t3)))) >>= fun b5 => (if b5 then ((M.ixS (st cs) s) >>= fun t4 => (M.inSg t4 ("abcdefghijklmnopqrstuvwxyz" : PySem.Str))) else .ok false)) = .ok (hdC l) := by
  rw [lenT h.sm]
  simp only [M.ok_bind]
  rw [h.lt]
  cases l with
  | nil => rfl
  | cons c l =>
    simp only [List.isEmpty_cons, Bool.not_false, if_true]
    rw [h.ix]
    rfl
theorem loop_ok {cs l : List Nat} {a : Int} {t : Int → M Bool} {f : Int → M Int} (h : At cs l a) (ht : ∀ s l', At cs l' s → t s = .ok (hdC l')) (hf : ∀ s, f s = .ok (s + 1)) :
    M.loop t f a = .ok (a + (l.takeWhile okC).length) := by
  refine M.sat_val (M.sat_loop (fun s => ∃ k l', l = k ++ l' ∧ s = a + k.length ∧ (∀ c ∈ k, okC c = true)) (fun s => ((cs.length : Int) - s).toNat) ⟨[], l, rfl, by simp, fun c hc => nomatch hc⟩ ?_)
  rintro s ⟨k, l', e, es, hk⟩
  have h' : At cs l' s := by
    rw [es]
    exact At.app (e ▸ h)
  refine ⟨_, ht s l' h', fun hb => ?_, fun hb => ?_⟩
  · cases l' with
    | nil => cases hb
    | cons c l' =>
      refine ⟨_, hf s, ⟨k ++ [c], l', by simp [e], by rw [es]; simp; omega, fun d hd => ?_⟩, ?_⟩
      · rcases List.mem_append.mp hd with hd | hd
        · exact hk d hd
        · rw [List.mem_singleton] at hd
          exact hd ▸ hb
      · have := h'.val
        have := h'.le
        simp at *
        omega
  · rw [es, e, List.takeWhile_append_of_pos hk]
    have : l'.takeWhile okC = [] := by
      cases l' with
      | nil => rfl
      | cons c l' =>
        have hb : okC c = false := hb
        rw [List.takeWhile_cons, hb]
        rfl
    rw [this, List.append_nil]
theorem name_end_ok {cs l : List Nat} {a : Int} (h : At cs l a) : p_name_end_m (st cs) a = if l.takeWhile okC = [] then .exc (signX a) else .ok (a + (l.takeWhile okC).length) := by
  unfold p_name_end_m
  simp only [M.ok_bind]
  refine (M.bnd (loop_ok h (fun s l' h' => test_ok h') fun s => rfl)).trans ?_
  by_cases hn : l.takeWhile okC = []
  · rw [if_pos hn, if_pos (decide_eq_true (by rw [hn]; simp))]
    rfl
  · rw [if_neg hn, if_neg]
    intro z
    have z := of_decide_eq_true z
    have : (l.takeWhile okC).length ≠ 0 := fun z => hn (List.length_eq_zero_iff.mp z)
    omega
theorem sl_name {cs l n r : List Nat} {a : Int} (h : At cs l a) (e : l = n ++ r) : M.slS (st cs) (some a) (some (a + n.length)) = .ok (st n) := by
  unfold M.slS
  rw [M.asrt_pos (Nat.le_of_lt (small1k (by rw [st_len]; have := h.sm; omega)))]
  obtain ⟨⟨pre, e1, e2⟩, hs⟩ := h
  unfold cutS
  rw [e2, show ((pre.length : Int) + (n.length : Int)) = ((pre.length + n.length : Nat) : Int) by simp, HT.sIx_nat, HT.sIx_nat, st_len, st_list]
  have hl : cs.length = pre.length + (n.length + r.length) := by rw [e1, e]; simp
  rw [Nat.min_eq_left (by omega), Nat.min_eq_left (by omega), show pre.length + n.length - pre.length = n.length by omega]
  rw [e1, e, List.drop_left, List.take_left]
  rfl
/-! ### the readers -/
def out (cs : List Nat) : Rs → M (PyData × Int)
  | .bad => .bad
  | .err r => .exc (signX ((cs.length : Int) - r.length))
  | .ok s r => .ok (s.toD, (cs.length : Int) - r.length)
theorem look_eq (c : Nat) : List.lookup (st [c]) ([("&", "both"), ("|", "together")] : List (PySem.Str × PySem.Str)) = if c = 38 then some ("both" : PySem.Str) else if c = 124 then some ("together" : PySem.Str) else none := by
  rw [show ([("&", "both"), ("|", "together")] : List (PySem.Str × PySem.Str)) = [(st [38], ("both" : PySem.Str)), (st [124], ("together" : PySem.Str))] by decide]
  by_cases h1 : c = 38
  · subst h1; rfl
  · rw [if_neg h1, List.lookup_cons, show (st [c] == st [38]) = false from beq_eq_false_iff_ne.mpr fun z => h1 (by have := st_inj.mp z; simpa using this)]
    by_cases h2 : c = 124
    · subst h2; rfl
    · rw [if_neg h2, List.lookup_cons, show (st [c] == st [124]) = false from beq_eq_false_iff_ne.mpr fun z => h2 (by have := st_inj.mp z; simpa using this)]
      rfl
theorem open_ok {cs l : List Nat} {a : Int} (h : At cs l a) : (((M.lenS (st cs)) >>= fun t1 => (M.ok (decide (a < t1)))) >>= fun b3 => (if b3 then ((M.ixS (st cs) a) >>= fun t2 => (M.ok (decide (t2 = ("(" : PySem.Str))))) else .ok false)) = .ok (decide (l.head? = some 40)) := by
  rw [lenT h.sm]
  simp only [M.ok_bind]
  rw [h.lt]
  cases l with
  | nil => rfl
  | cons c l =>
    simp only [List.isEmpty_cons, Bool.not_false, if_true]
    rw [h.ix, L40]
    simp only [M.ok_bind]
    rw [one_eq]
    simp
theorem quote_ok {cs l : List Nat} {a : Int} (h : At cs l a) : (((M.lenS (st cs)) >>= fun t1 => (M.ok (decide (a < t1)))) >>= fun b3 => (if b3 then ((M.ixS (st cs) a) >>= fun t2 => (M.ok (decide (t2 = ("'" : PySem.Str))))) else .ok false)) = .ok (decide (l.head? = some 39)) := by
  rw [lenT h.sm]
  simp only [M.ok_bind]
  rw [h.lt]
  cases l with
  | nil => rfl
  | cons c l =>
    simp only [List.isEmpty_cons, Bool.not_false, if_true]
    rw [h.ix, L39]
    simp only [M.ok_bind]
    rw [one_eq]
    simp
theorem rl_cases (l : List Nat) (hn : l.takeWhile okC ≠ []) : (∃ r, l.dropWhile okC = 39 :: r ∧ rl l = .ok (.letter (st (l.takeWhile okC)) false) r) ∨ ((l.dropWhile okC).head? ≠ some 39 ∧ rl l = .ok (.letter (st (l.takeWhile okC)) true) (l.dropWhile okC)) := by
  unfold rl
  rw [if_neg hn]
  split
  · next r he => exact .inl ⟨r, he, rfl⟩
  · next r hne =>
    refine .inr ⟨fun z => ?_, rfl⟩
    cases e : l.dropWhile okC with
    | nil => rw [e] at z; cases z
    | cons c q =>
      rw [e] at z
      cases z
      exact hne q e
theorem head_not {l : List Nat} {c : Nat} (h : ¬ l.head? = some c) : decide (l.head? = some c) = false := decide_eq_false h
theorem read_ok : ∀ (f : Nat) (cs l : List Nat) (a : Int), At cs l a → p_read_shape_m f (st cs) a = out cs (rd f l)
  | 0, _, _, _, _ => rfl
  | f + 1, cs, l, a, h => by
    show p_read_shape_step (p_read_shape_m f) (st cs) a = _
    unfold p_read_shape_step
    rw [open_ok h]
    simp only [M.ok_bind]
    unfold rd
    by_cases hl : l.head? = some 40
    · rw [if_pos (decide_eq_true hl), if_pos hl]
      obtain ⟨l1, rfl⟩ : ∃ l1, l = 40 :: l1 := by
        cases l with
        | nil => cases hl
        | cons c l => cases hl; exact ⟨l, rfl⟩
      rw [read_ok f cs l1 _ h.next, List.tail_cons]
      cases e1 : rd f l1 with
      | bad => rfl
      | err r => rfl
      | ok x l2 =>
        have hx := (rd_ok e1).1
        have h2 : At cs l2 ((cs.length : Int) - l2.length) := At.suf (hx ▸ h.next)
        show (p_expect_m (st cs) ((cs.length : Int) - l2.length) " " >>= _) = out cs (ex 32 l2 _)
        rw [L32, expect_ok h2]
        unfold ex exM
        cases l2 with
        | nil => rfl
        | cons d l3 =>
          simp only
          by_cases hd : d = 32
          · rw [if_pos hd, if_pos hd]
            simp only [M.ok_bind]
            have h3 := h2.next
            rw [lenT h.sm]
            simp only [M.ok_bind]
            rw [h3.ge]
            unfold wx
            cases l3 with
            | nil =>
              simp only [List.isEmpty_nil, if_true, M.ok_bind]
              show M.exc (signX _) = M.exc (signX _)
              rw [h3.val]
            | cons c l4 =>
              simp only [List.isEmpty_cons, Bool.false_eq_true, if_false]
              rw [h3.ix]
              simp only [M.ok_bind]
              rw [look_eq]
              have h4 := h3.next
              have key : ∀ w : Bool, ((p_expect_m (st cs) (((cs.length : Int) - (d :: c :: l4).length) + 1 + 1) (st [32]) >>= fun t11 => p_read_shape_m f (st cs) t11) >>= fun t12 => (p_expect_m (st cs) t12.2 (")" : PySem.Str)) >>= fun t13 => (M.ok ((PyData.tuple [(UD.toU (Sh.wd w)), x.toD, t12.1]), t13))) = out cs (ex 32 l4 fun l5 => (rd f l5).on fun b l6 => ex 41 l6 fun l7 => .ok (.node w x b) l7) := fun w => by
                rw [expect_ok h4]
                unfold ex exM
                cases l4 with
                | nil =>
                  show M.exc (signX _) = M.exc (signX _)
                  rw [h4.val]
                | cons d2 l5 =>
                  simp only
                  by_cases hd2 : d2 = 32
                  · rw [if_pos hd2, if_pos hd2]
                    simp only [M.ok_bind]
                    rw [read_ok f cs l5 _ h4.next]
                    cases e5 : rd f l5 with
                    | bad => rfl
                    | err r => rfl
                    | ok b l6 =>
                      have hb := (rd_ok e5).1
                      have h6 : At cs l6 ((cs.length : Int) - l6.length) := At.suf (hb ▸ h4.next)
                      show (p_expect_m (st cs) ((cs.length : Int) - l6.length) ")" >>= _) = out cs (ex 41 l6 _)
                      rw [L41, expect_ok h6]
                      unfold ex exM
                      cases l6 with
                      | nil => rfl
                      | cons d4 l7 =>
                        simp only
                        by_cases hd4 : d4 = 41
                        · rw [if_pos hd4, if_pos hd4]
                          show M.ok (_, _) = M.ok (_, _)
                          rw [h6.next.val]
                          rfl
                        · rw [if_neg hd4, if_neg hd4]
                          rfl
                  · rw [if_neg hd2, if_neg hd2]
                    show M.exc (signX _) = M.exc (signX _)
                    rw [h4.val]
              by_cases h38 : c = 38
              · rw [if_pos h38, if_pos h38]
                exact key true
              · rw [if_neg h38, if_neg h38]
                by_cases h124 : c = 124
                · rw [if_pos h124, if_pos h124]
                  exact key false
                · rw [if_neg h124, if_neg h124]
                  show M.exc (signX _) = M.exc (signX _)
                  rw [h3.val]
          · rw [if_neg hd, if_neg hd]
            rfl
    · rw [if_neg (by rw [head_not hl]; decide), if_neg hl]
      rw [name_end_ok h]
      by_cases hn : l.takeWhile okC = []
      · rw [if_pos hn]
        unfold rl
        rw [if_pos hn]
        show M.exc (signX _) = M.exc (signX _)
        rw [h.val]
      · rw [if_neg hn]
        simp only [M.ok_bind]
        have hs := List.takeWhile_append_dropWhile (p := okC) (l := l)
        have hd : At cs (l.dropWhile okC) (a + (l.takeWhile okC).length) := At.app (by rw [hs]; exact h)
        rw [quote_ok hd, sl_name h hs.symm]
        simp only [M.ok_bind]
        rcases rl_cases l hn with ⟨r, e, e2⟩ | ⟨e, e2⟩
        · rw [e2, e, if_pos (show decide ((39 :: r).head? = some 39) = true from rfl)]
          rw [e] at hd
          show M.ok (_, _) = M.ok (_, _)
          rw [hd.next.val]
          rfl
        · rw [e2, if_neg (by rw [head_not e]; decide)]
          show M.ok (_, _) = M.ok (_, _)
          rw [hd.val]
          rfl
theorem lread_ok : ∀ (f : Nat) (cs l : List Nat) (a : Int) (s : Sh) (r : List Nat), At cs l a → rd f l = .ok s r → l_read_m f (st cs) a = .ok ⟨s.toD, (cs.length : Int) - r.length⟩
  | 0, _, _, _, _, _, _, e => by cases e
  | f + 1, cs, l, a, s, r, h, e => by
    show l_read_step (l_read_m f) (st cs) a = _
    unfold l_read_step
    unfold rd at e
    by_cases hl : l.head? = some 40
    · rw [if_pos hl] at e
      obtain ⟨l1, rfl⟩ : ∃ l1, l = 40 :: l1 := by
        cases l with
        | nil => cases hl
        | cons c l => cases hl; exact ⟨l, rfl⟩
      obtain ⟨x, l2, h1, g1⟩ := on_ok e
      obtain ⟨l3, rfl, g2⟩ := ex_ok g1
      obtain ⟨w, l4, rfl, g3⟩ := wx_ok g2
      obtain ⟨l5, rfl, g4⟩ := ex_ok g3
      obtain ⟨b, l6, h2, g5⟩ := on_ok g4
      obtain ⟨l7, rfl, g6⟩ := ex_ok g5
      cases g6
      rw [h.ix, L40]
      simp only [M.ok_bind]
      simp only [decide_true, if_true]
      rw [lread_ok f cs l1 _ _ _ h.next h1]
      simp only [M.ok_bind]
      have a2 : At cs (32 :: (if w then 38 else 124) :: 32 :: l5) ((cs.length : Int) - (32 :: (if w then 38 else 124) :: 32 :: l5).length) := At.suf ((show l1 = _ from (rd_ok h1).1) ▸ h.next)
      rw [a2.next.ix, L124]
      simp only [M.ok_bind]
      rw [one_eq]
      have e5 := lread_ok f cs l5 _ _ _ a2.next.next.next h2
      rw [show ∀ z : Int, z + 1 + 1 + 1 = z + 3 by intro z; omega] at e5
      rw [e5]
      have a6 : At cs (41 :: r) ((cs.length : Int) - (41 :: r).length) := At.suf ((rd_ok h2).1 ▸ a2.next.next.next)
      have v := a6.next.val
      cases w
      · simp only [M.ok_bind]
        show M.ok _ = M.ok _
        rw [v]
        rfl
      · simp only [M.ok_bind]
        show M.ok _ = M.ok _
        rw [v]
        rfl
    · rw [if_neg hl] at e
      by_cases hn : l.takeWhile okC = []
      · unfold rl at e
        rw [if_pos hn] at e
        cases e
      · obtain ⟨c, l', rfl⟩ : ∃ c l', l = c :: l' := by
          cases l with
          | nil => exact absurd rfl hn
          | cons c l => exact ⟨c, l, rfl⟩
        have hc : c ≠ 40 := fun z => hl (z ▸ rfl)
        rw [h.ix, L40]
        simp only [M.ok_bind]
        rw [one_eq, if_neg (by rw [decide_eq_false hc]; decide)]
        refine (M.bnd (loop_ok h (fun s l' h' => test_ok h') fun s => rfl)).trans ?_
        have hs := List.takeWhile_append_dropWhile (p := okC) (l := c :: l')
        have hd : At cs ((c :: l').dropWhile okC) (a + ((c :: l').takeWhile okC).length) := At.app (by rw [hs]; exact h)
        rw [quote_ok hd, sl_name h hs.symm]
        simp only [M.ok_bind]
        rcases rl_cases (c :: l') hn with ⟨r', e1, e2⟩ | ⟨e1, e2⟩
        · rw [e2] at e
          cases e
          rw [e1, if_pos (show decide ((39 :: r).head? = some 39) = true from rfl)]
          rw [e1] at hd
          show M.ok _ = M.ok _
          rw [hd.next.val]
          rfl
        · rw [e2] at e
          cases e
          rw [if_neg (by rw [head_not e1]; decide)]
          show M.ok _ = M.ok _
          rw [hd.val]
          rfl
/-! ### the machine of the law -/
def qs : Qs → PySem.Str
  | .kind => "kind"
  | .name => "name"
  | .done => "done"
  | .word => "word"
  | .gap => "gap"
def sk (s : List Bool) : List Int := (s.map fun b => if b then (1 : Int) else 0).reverse
theorem sk_cons (b : Bool) (s : List Bool) : sk (b :: s) = sk s ++ [if b then 1 else 0] := by
  unfold sk
  simp
theorem sk_len (s : List Bool) : (sk s).length = s.length := by unfold sk; simp
theorem qk (q : Qs) : decide (qs q = ("kind" : PySem.Str)) = decide (q = .kind) := by cases q <;> decide
theorem qn (q : Qs) : decide (qs q = ("name" : PySem.Str)) = decide (q = .name) := by cases q <;> decide
theorem qd (q : Qs) : decide (qs q = ("done" : PySem.Str)) = decide (q = .done) := by cases q <;> decide
theorem qw (q : Qs) : decide (qs q = ("word" : PySem.Str)) = decide (q = .word) := by cases q <;> decide
theorem qg (q : Qs) : decide (qs q = ("gap" : PySem.Str)) = decide (q = .gap) := by cases q <;> decide
theorem qst (q : Qs) : decide (qs q = ("stuck" : PySem.Str)) = false := by cases q <;> decide
theorem c40 (c : Nat) : decide (st [c] = ("(" : PySem.Str)) = decide (c = 40) := by rw [L40, one_eq]
theorem c41 (c : Nat) : decide (st [c] = (")" : PySem.Str)) = decide (c = 41) := by rw [L41, one_eq]
theorem c39 (c : Nat) : decide (st [c] = ("'" : PySem.Str)) = decide (c = 39) := by rw [L39, one_eq]
theorem c32 (c : Nat) : decide (st [c] = (" " : PySem.Str)) = decide (c = 32) := by rw [L32, one_eq]
theorem c38 (c : Nat) : decide (st [c] = ("&" : PySem.Str)) = decide (c = 38) := by rw [L38, one_eq]
theorem c124 (c : Nat) : decide (st [c] = ("|" : PySem.Str)) = decide (c = 124) := by rw [L124, one_eq]
theorem letter_ok (c : Nat) : l_is_letter_m (st [c]) = .ok (okC c) := rfl
def nxt (s : List Bool) : Option (Qs × List Bool) → PySem.Str × List Int
  | none => ("stuck", sk s)
  | some (q, s') => (qs q, sk s')
theorem popL_snoc (xs : List Int) (y : Int) : M.popL (xs ++ [y]) = .ok (xs, y) := by
  unfold M.popL
  simp
theorem setIx_snoc (xs : List Int) (y z : Int) : M.setIx (xs ++ [y]) (.ok (-(1 : Int))) (.ok z) = .ok (xs ++ [z]) := by
  unfold M.setIx
  simp only [M.ok_bind]
  have : ixN (xs ++ [y]).length (-(1 : Int)) = some xs.length := by
    unfold ixN
    rw [if_neg (by decide), if_pos (by simp; omega), List.length_append, List.length_singleton]
    congr 1
    omega
  rw [this]
  simp
theorem clo_ok (c : Nat) (s : List Bool) : (if decide ((0 : Int) < ((sk s).length : Int)) = true then
        (((M.ix (sk s) (-(1 : Int))) >>= fun t2 => (M.ok (decide (t2 = (0 : Int))))) >>= fun b3 => (if b3 then (M.ok (decide (c = 32))) else .ok false)) >>= fun b9 => if b9 then
          (M.ok (("word" : PySem.Str), sk s))
        else
          (((M.ix (sk s) (-(1 : Int))) >>= fun t4 => (M.ok (decide (t4 = (1 : Int))))) >>= fun b5 => (if b5 then (M.ok (decide (c = 41))) else .ok false)) >>= fun b8 => if b8 then
            (M.popL (sk s)) >>= fun p6 => M.ok (("done" : PySem.Str), p6.1)
          else M.ok (("stuck" : PySem.Str), sk s)
      else M.ok (("stuck" : PySem.Str), sk s)) = .ok (nxt s (clo c s)) := by
  cases s with
  | nil => rfl
  | cons b s =>
    rw [if_pos (decide_eq_true (by rw [sk_len]; simp only [List.length_cons]; omega)), sk_cons, ix_last]
    simp only [M.ok_bind]
    cases b with
    | false =>
      show _ = M.ok (nxt (false :: s) (if c = 32 then some (.word, false :: s) else none))
      by_cases h : c = 32
      · rw [if_pos h, h]
        show M.ok (_, _) = M.ok (_, sk (false :: s))
        rw [sk_cons]
        try rfl
      · rw [if_neg h, decide_eq_false h]
        show M.ok (_, _) = M.ok (_, sk (false :: s))
        rw [sk_cons]
        try rfl
    | true =>
      show _ = M.ok (nxt (true :: s) (if c = 41 then some (.done, s) else none))
      by_cases h : c = 41
      · rw [if_pos h, h]
        show (M.popL (sk s ++ [1]) >>= fun p6 => M.ok (("done" : PySem.Str), p6.1)) = _
        rw [popL_snoc]
        rfl
      · rw [if_neg h, decide_eq_false h]
        show M.ok (_, _) = M.ok (_, sk (true :: s))
        rw [sk_cons]
        try rfl
theorem next_ok {q : Qs} {s : List Bool} (c : Nat) (hg : q = .gap → s ≠ []) (hl : s.length ≤ 1000) : l_next_m (qs q) (st [c]) (sk s) = .ok (nxt s (stq c s q)) := by
  unfold l_next_m
  simp only [qk, qn, qd, qw, qg, c40, c41, c39, c32, c38, c124, letter_ok, M.ok_bind]
  cases q with
  | kind =>
    simp only [decide_true, Bool.true_and, Bool.true_or, if_true, reduceCtorEq, M.ok_bind, decide_false, Bool.false_and, Bool.or_false, Bool.false_eq_true, if_false]
    show _ = M.ok (nxt s (if c = 40 then _ else if okC c = true then _ else none))
    by_cases h : c = 40
    · rw [if_pos (decide_eq_true h), if_pos h, M.push_small (by rw [sk_len]; omega)]
      simp only [M.ok_bind]
      show M.ok (_, sk s ++ [0]) = M.ok (_, sk (false :: s))
      rw [sk_cons]
      rfl
    · rw [if_neg (by simpa using h), if_neg h]
      by_cases h2 : okC c = true
      · rw [if_pos h2, if_pos h2]
        rfl
      · rw [if_neg h2, if_neg h2]
        rfl
  | name =>
    simp only [decide_true, Bool.true_and, Bool.true_or, Bool.or_true, if_true, reduceCtorEq, M.ok_bind, decide_false, Bool.false_and, Bool.or_false, Bool.false_eq_true, if_false]
    show _ = M.ok (nxt s (if okC c = true then _ else if c = 39 then _ else clo c s))
    by_cases h2 : okC c = true
    · rw [if_pos h2, if_pos h2]
      rfl
    · rw [if_neg h2, if_neg h2]
      by_cases h : c = 39
      · rw [if_pos (decide_eq_true h), if_pos h]
        rfl
      · rw [if_neg (by simpa using h), if_neg h]
        exact clo_ok c s
  | done =>
    simp only [decide_true, Bool.true_and, Bool.true_or, Bool.or_true, if_true, reduceCtorEq, M.ok_bind, decide_false, Bool.false_and, Bool.or_false, Bool.false_eq_true, if_false]
    exact clo_ok c s
  | word =>
    simp only [decide_true, Bool.true_and, Bool.true_or, Bool.or_true, if_true, reduceCtorEq, M.ok_bind, decide_false, Bool.false_and, Bool.or_false, Bool.false_eq_true, if_false]
    show _ = M.ok (nxt s (if c = 38 ∨ c = 124 then _ else none))
    by_cases h : c = 38 ∨ c = 124
    · rw [if_pos h, if_pos (by simpa using h)]
      rfl
    · rw [if_neg h, if_neg (by simpa using h)]
      rfl
  | gap =>
    simp only [decide_true, Bool.true_and, Bool.true_or, Bool.or_true, if_true, reduceCtorEq, M.ok_bind, decide_false, Bool.false_and, Bool.or_false, Bool.false_eq_true, if_false]
    obtain ⟨b, s', rfl⟩ : ∃ b s', s = b :: s' := by
      cases s with
      | nil => exact absurd rfl (hg rfl)
      | cons b s => exact ⟨b, s, rfl⟩
    show _ = M.ok (nxt (b :: s') (if c = 32 then some (.kind, true :: s') else none))
    by_cases h : c = 32
    · rw [if_pos h, if_pos (by simpa using h), sk_cons, setIx_snoc]
      show M.ok (_, _) = M.ok (_, sk (true :: s'))
      rw [sk_cons]
      rfl
    · rw [if_neg h, if_neg (by simpa using h)]
      rfl
theorem stp_inv {c : Nat} {s s' : List Bool} {q q' : Qs} (h : stq c s q = some (q', s')) (hi : q = .word ∨ q = .gap → s ≠ []) : (q' = .word ∨ q' = .gap → s' ≠ []) ∧ s'.length ≤ s.length + 1 := by
  have hc : ∀ {s s' : List Bool} {q' : Qs}, clo c s = some (q', s') → (q' = .word ∨ q' = .gap → s' ≠ []) ∧ s'.length ≤ s.length + 1 := fun {s s' q'} h => by
    unfold clo at h
    split at h
    · split at h
      · cases h; exact ⟨(fun _ z => by cases z), by simp⟩
      · cases h
    · split at h
      · cases h; exact ⟨(fun z => by rcases z with z | z <;> cases z), by simp; omega⟩
      · cases h
    · cases h
  unfold stq at h
  cases q with
  | kind =>
    simp only at h
    split at h
    · cases h; exact ⟨(fun z => by rcases z with z | z <;> cases z), by simp⟩
    · split at h
      · cases h; exact ⟨(fun z => by rcases z with z | z <;> cases z), by omega⟩
      · cases h
  | name =>
    simp only at h
    split at h
    · cases h; exact ⟨(fun z => by rcases z with z | z <;> cases z), by omega⟩
    · split at h
      · cases h; exact ⟨(fun z => by rcases z with z | z <;> cases z), by omega⟩
      · exact hc h
  | done => exact hc h
  | word =>
    simp only at h
    split at h
    · cases h; exact ⟨fun _ => hi (.inl rfl), by omega⟩
    · cases h
  | gap =>
    simp only at h
    split at h
    · split at h
      · cases h; exact ⟨(fun z => by rcases z with z | z <;> cases z), by simp⟩
      · cases h
    · cases h
theorem rngL_cons (a : Int) (n : Nat) : rngL a (n + 1) = a :: rngL (a + 1) n := by
  unfold rngL
  rw [List.range_succ_eq_map]
  simp only [List.map_cons, List.map_map]
  refine congr (congrArg List.cons (by simp)) (List.map_congr_left fun i _ => ?_)
  show a + ((i + 1 : Nat) : Int) = a + 1 + (i : Int)
  omega
def ctr (cs : List Nat) : List Nat ⊕ (Qs × List Bool) → Ct (PySem.Str × List Int) (Opt Int)
  | .inl r => .rt (.some ((cs.length : Int) - r.length))
  | .inr (q, s) => .nx (qs q, sk s)
theorem fold_run {cs : List Nat} : ∀ (l : List Nat) (q : Qs) (s : List Bool) (a : Int), At cs l a → (q = .word ∨ q = .gap → s ≠ []) → s.length + l.length ≤ cs.length →
    M.foldC (fun (s3 : (PySem.Str × (List Int))) x5 =>
    (M.calm ((M.ok s3.1) >>= fun a6 => ((M.ixS (st cs) x5) >>= fun a7 => (l_next_m a6 a7 s3.2)))) >>= fun p8 =>
      if (decide (p8.1 = ("stuck" : PySem.Str))) then
      (M.ok (.some x5)) >>= fun r => .ok (.rt r)
    else
      M.ok (.nx (p8.1, p8.2))) (qs q, sk s) (rngL a l.length) = .ok (ctr cs (run q s l))
  | [], q, s, a, h, hi, hl => rfl
  | c :: l, q, s, a, h, hi, hl => by
    rw [List.length_cons, rngL_cons]
    simp only [M.foldC, M.ok_bind]
    rw [h.ix]
    simp only [M.ok_bind]
    simp only [List.length_cons] at hl
    rw [next_ok c (fun z => hi (.inr z)) (by have := h.sm; omega)]
    cases e : stq c s q with
    | none =>
      show ((if decide (("stuck" : PySem.Str) = "stuck") = true then _ else _) >>= _) = _
      rw [if_pos (by decide)]
      simp only [M.ok_bind]
      show M.ok (.rt (.some a)) = M.ok (ctr cs (match stq c s q with | none => .inl (c :: l) | some (q', s') => run q' s' l))
      rw [e, h.val]
      rfl
    | some p =>
      obtain ⟨q', s'⟩ := p
      obtain ⟨h1, h2⟩ := stp_inv e hi
      show ((if decide (qs q' = "stuck") = true then _ else _) >>= _) = _
      rw [if_neg (by rw [qst]; decide)]
      simp only [M.ok_bind]
      show M.foldC _ (qs q', sk s') (rngL (a + 1) l.length) = _
      rw [run_cons e]
      exact fold_run l q' s' (a + 1) h.next h1 (by omega)
def badAt (cs : List Nat) : Opt Int := match fin (run .kind [] cs) with | none => .none | some r => .some ((cs.length : Int) - r.length)
theorem bad_sign_ok {cs : List Nat} (h : cs.length ≤ 1000) : l_bad_sign_m (st cs) = .ok (badAt cs) := by
  unfold l_bad_sign_m
  simp only [M.ok_bind]
  rw [lenT h]
  simp only [M.ok_bind]
  rw [M.rangeN (by omega)]
  simp only [M.ok_bind]
  refine (M.bnd (fold_run cs .kind [] 0 (At.all h) (fun z => by rcases z with z | z <;> cases z) (by simp))).trans ?_
  unfold badAt
  cases e : run .kind [] cs with
  | inl r => rfl
  | inr p =>
    obtain ⟨q, s⟩ := p
    show (if ((decide (qs q = ("name" : PySem.Str)) || decide (qs q = ("done" : PySem.Str))) && decide (((sk s).length : Int) = 0)) = true then M.ok Opt.none else (M.ok (cs.length : Int) >>= fun t => M.ok (Opt.some t))) = M.ok (match (if (q = .name ∨ q = .done) ∧ s = [] then (none : Option (List Nat)) else some []) with | none => .none | some r => .some ((cs.length : Int) - r.length))
    rw [qn, qd]
    by_cases hc : (q = .name ∨ q = .done) ∧ s = []
    · rw [if_pos hc, if_pos]
      obtain ⟨h1, rfl⟩ := hc
      rcases h1 with rfl | rfl <;> rfl
    · rw [if_neg hc, if_neg]
      · simp
      · intro z
        rw [Bool.and_eq_true, Bool.or_eq_true, decide_eq_true_eq, decide_eq_true_eq, decide_eq_true_eq] at z
        exact hc ⟨z.1, by have := z.2; rw [sk_len] at this; exact List.length_eq_zero_iff.mp (by omega)⟩
/-! ### what is told, and what is due -/
def sg (i : Int) : PyData := .tuple [.str "sign", .int i]
def lg : PyData := .tuple [.str "large", .int 40]
def nmD (n : PySem.Str) : PyData := .tuple [.str "name", .str n]
def kd (s : Sh) : PyData := .tuple [.str "kind", s.toD]
def V1 (s : Sh) : PyData := if 40 < s.lets.length then lg else match s.lets.findSome? bad1 with | none => kd s | some n => nmD n
def Vd (cs : List Nat) : PyData := match rd 50 cs with
  | .bad => .none
  | .err r => sg ((cs.length : Int) - r.length)
  | .ok s r => if r = [] then V1 s else sg ((cs.length : Int) - r.length)
theorem Nm.sm {s : Sh} {cs r : List Nat} (e : cs = wr s ++ r) (hn : Nm s) (hl : cs.length ≤ 1000) : Sm s := by
  have key : ∀ s : Sh, s.lets.length ≤ (wr s).length + 1 ∧ (∀ x ∈ s.lets, x.1.length ≤ (wr s).length) := fun s => by
    induction s with
    | letter n b =>
      refine ⟨by show 1 ≤ _; omega, fun x hx => ?_⟩
      have hx : x ∈ [(n, b)] := hx
      rw [List.mem_singleton] at hx
      subst hx
      show n.cps.size ≤ (n.cps.toList ++ _).length
      rw [List.length_append, Array.length_toList]
      omega
    | node w a b iha ihb =>
      rw [wr_node]
      simp only [List.length_append, List.length_cons, List.length_nil]
      refine ⟨by show (a.lets ++ b.lets).length ≤ _; rw [List.length_append]; have := iha.1; have := ihb.1; omega, fun x hx => ?_⟩
      rcases List.mem_append.mp hx with hx | hx
      · have := iha.2 x hx; omega
      · have := ihb.2 x hx; omega
  rw [e, List.length_append] at hl
  refine ⟨?_, fun x hx => ?_⟩
  · have h1 := (key s).1
    have h2 : s.lets.length * 1 ≤ _ := Nat.le_of_eq (Nat.mul_one _)
    have h3 : (wr s).length + 1 ≤ 1001 := by omega
    cases s with
    | letter n b => show 1 ≤ 1000; omega
    | node w a b =>
      have ha := (key a).1
      have hb := (key b).1
      rw [wr_node] at hl
      simp only [List.length_append, List.length_cons, List.length_nil] at hl
      show (a.lets ++ b.lets).length ≤ _
      rw [List.length_append]
      omega
  · have := (key s).2 x hx
    omega
theorem told_sign {t : PySem.Str} {i : Int} (h : p_parse_kind_m t = .exc (signX i)) : l_told_m t = .ok (sg i) := by
  unfold l_told_m
  rw [h]
  simp only [M.exc_bind]
  unfold M.tryK signX
  simp only
  rw [if_pos (by decide), if_pos (by decide)]
  simp only [M.ok_bind]
  rw [if_pos (by decide)]
  rw [show PX.fld ⟨.BadSign, some [("sign", .int i)]⟩ .BadSign "sign" = .ok i from rfl]
  simp only [M.ok_bind]
  rw [M.push_small (by decide)]
  rfl
theorem told_too {t : PySem.Str} (h : p_parse_kind_m t = .exc tooX) : l_told_m t = .ok lg := by
  unfold l_told_m
  rw [h]
  simp only [M.exc_bind]
  unfold M.tryK tooX
  simp only
  rw [if_pos (by decide), if_pos (by decide)]
  simp only [M.ok_bind]
  rw [if_neg (by decide)]
  simp only [M.ok_bind]
  rw [if_pos (by decide)]
  rw [show PX.fld ⟨.TooLarge, some [("limit", .int 40)]⟩ .TooLarge "limit" = .ok 40 from rfl]
  simp only [M.ok_bind]
  rw [M.push_small (by decide)]
  rfl
theorem told_name {t : PySem.Str} {n : PySem.Str} (h : p_parse_kind_m t = .exc (nameX n)) : l_told_m t = .ok (nmD n) := by
  unfold l_told_m
  rw [h]
  simp only [M.exc_bind]
  unfold M.tryK nameX
  simp only
  rw [if_pos (by decide), if_pos (by decide)]
  simp only [M.ok_bind]
  rw [if_neg (by decide)]
  simp only [M.ok_bind]
  rw [if_neg (by decide)]
  simp only [M.ok_bind]
  rw [if_pos (by decide)]
  rw [show PX.fldS ⟨.BadName, some [("name", .str n)]⟩ .BadName "name" = .ok n from rfl]
  simp only [M.ok_bind]
  rw [M.push_small (by decide)]
  rfl
theorem told_kind {s : Sh} (h : p_parse_kind_m (st (wr s)) = .ok ⟨s.toD⟩) (hh : s.hs ≤ 44) (hl : (wr s).length ≤ 1000) : l_told_m (st (wr s)) = .ok (kd s) := by
  unfold l_told_m
  rw [h]
  simp only [M.ok_bind]
  rw [show p_format_kind_m ⟨s.toD⟩ = .ok (st (wr s)) from written_ok s 44 hh hl]
  simp only [M.ok_bind]
  rw [show (!decide True) = false by decide]
  rfl
theorem parse_ok {cs : List Nat} (hl : cs.length ≤ 1000) : p_parse_kind_m (st cs) = match rd 50 cs with | .bad => .bad | .err r => .exc (signX ((cs.length : Int) - r.length)) | .ok s r => if r = [] then m_KindX_initX_m s.toD else .exc (signX ((cs.length : Int) - r.length)) := by
  unfold p_parse_kind_m
  rw [read_ok 50 cs cs 0 (At.all hl)]
  cases e : rd 50 cs with
  | bad => rfl
  | err r => rfl
  | ok s r =>
    show (M.ok (s.toD, (cs.length : Int) - r.length) >>= _) = _
    simp only [M.ok_bind]
    rw [lenT hl]
    simp only [M.ok_bind]
    have hr : r.length ≤ cs.length := by rw [(rd_ok e).1, List.length_append]; omega
    cases r with
    | nil =>
      rw [if_neg (by simp), if_pos rfl]
    | cons c r =>
      simp only [List.length_cons] at hr ⊢
      rw [if_pos (decide_eq_true (by omega)), if_neg (by simp)]
      rfl
structure Tx (n k : Nat) (l : List Nat) : Prop where
  len : l.length ≤ n
  cnt : l.count 40 ≤ k
theorem told_ok {cs : List Nat} (h : Tx 1000 43 cs) : l_told_m (st cs) = .ok (Vd cs) := by
  have hp := parse_ok h.len
  have hb := rd_nb (f := 50) (l := cs) (by have := h.cnt; omega)
  unfold Vd
  cases e : rd 50 cs with
  | bad => exact absurd e hb
  | err r => rw [e] at hp; exact told_sign hp
  | ok s r =>
    rw [e] at hp
    obtain ⟨e1, hn, _⟩ := rd_ok e
    by_cases hr : r = []
    · subst hr
      rw [List.append_nil] at e1
      have hc := wr_count hn
      have hct := h.cnt
      rw [e1] at hct
      have hh : s.hs ≤ 44 := Nat.le_trans s.hs_le (by omega)
      have hs : Sm s := Nm.sm (r := []) (by rw [List.append_nil]; exact e1) hn h.len
      have hp : p_parse_kind_m (st cs) = m_KindX_initX_m s.toD := hp
      rw [init_ok hs] at hp
      show _ = M.ok (V1 s)
      unfold V1
      by_cases h40 : 40 < s.lets.length
      · rw [if_pos h40] at hp ⊢
        exact told_too hp
      · rw [if_neg h40] at hp ⊢
        cases hf : s.lets.findSome? bad1 with
        | none =>
          rw [hf] at hp
          rw [e1] at hp ⊢
          exact told_kind hp hh (by rw [← e1]; exact h.len)
        | some n =>
          rw [hf] at hp
          exact told_name hp
    · simp only [if_neg hr] at hp ⊢
      exact told_sign hp
theorem bad1_len {s : Sh} (hn : Nm s) (hs : Sm s) : ∀ x ∈ s.lets, bad1 x = if 8 < x.1.length then some x.1 else none := fun x hx => by
  obtain ⟨h1, h2⟩ := hn x hx
  unfold bad1 okN
  have h3 : 0 < x.1.length := by
    show 0 < x.1.cps.size
    rw [← Array.length_toList]
    exact List.length_pos_iff.mpr h1
  have h4 : x.1.cps.toList.all okC = true := List.all_eq_true.mpr h2
  rw [h4, decide_eq_true h3]
  by_cases h8 : 8 < x.1.length
  · rw [if_pos h8, decide_eq_false (by omega)]
    rfl
  · rw [if_neg h8, decide_eq_true (by omega)]
    rfl
theorem due_ok {cs : List Nat} (h : Tx 1000 43 cs) : l_due_m (st cs) = .ok (Vd cs) := by
  have hb := rd_nb (f := 50) (l := cs) (by have := h.cnt; omega)
  have hf := rd_fin (f := 50) (l := cs)
  unfold l_due_m Vd
  rw [bad_sign_ok h.len]
  simp only [M.ok_bind]
  unfold badAt
  cases e : rd 50 cs with
  | bad => exact absurd e hb
  | err r =>
    rw [e] at hf
    have hf : fin (run .kind [] cs) = some r := hf
    rw [hf]
    rfl
  | ok s r =>
    rw [e] at hf
    have hf : fin (run .kind [] cs) = if r = [] then none else some r := hf
    obtain ⟨e1, hn, _⟩ := rd_ok e
    by_cases hr : r = []
    · rw [if_pos hr] at hf
      rw [hf]
      subst hr
      rw [List.append_nil] at e1
      have hc := wr_count hn
      have hct := h.cnt
      rw [e1] at hct
      have hh : s.hs ≤ 44 := Nat.le_trans s.hs_le (by omega)
      have hs : Sm s := Nm.sm (r := []) (by rw [List.append_nil]; exact e1) hn h.len
      show (((l_read_m 50 (st cs) (0 : Int)) >>= fun t3 => (M.ok t3.a)) >>= _) = M.ok (V1 s)
      rw [lread_ok 50 cs cs 0 s [] (At.all h.len) e]
      simp only [M.ok_bind]
      rw [letters_ok s 44 hh hs.len]
      simp only [M.ok_bind]
      unfold V1
      by_cases hl : 40 < s.lets.length
      · have hl' : (40 : Int) < (s.lets.length : Int) := by omega
        rw [if_pos (by simpa using hl'), if_pos hl]
        rfl
      · have hl' : ¬ (40 : Int) < (s.lets.length : Int) := by omega
        rw [if_neg (by simpa using hl'), if_neg hl]
        rw [foldC_find (fun x => (bad1 x).map nmD) fun x hx => by
          rw [lenS_ok (hs.nm x hx), bad1_len hn hs x hx]
          simp only [M.ok_bind]
          by_cases h8 : 8 < x.1.length
          · have h8' : (8 : Int) < (x.1.length : Int) := by omega
            rw [if_pos h8, if_pos (by simpa using h8')]
            rfl
          · have h8' : ¬ (8 : Int) < (x.1.length : Int) := by omega
            rw [if_neg h8, if_neg (by simpa using h8')]
            rfl]
        have e : s.lets.findSome? (fun x => (bad1 x).map nmD) = (s.lets.findSome? bad1).map nmD := by
          induction s.lets with
          | nil => rfl
          | cons x xs ih =>
            rw [List.findSome?_cons, List.findSome?_cons]
            cases bad1 x with
            | none => exact ih
            | some y => rfl
        rw [e]
        cases s.lets.findSome? bad1 <;> rfl
    · rw [if_neg hr] at hf
      rw [hf]
      simp only [if_neg hr]
      rfl
theorem eqv2 (a b c d : PyData) : PyData.eqv (.tuple [a, b]) (.tuple [c, d]) = (PyData.eqv a c && PyData.eqv b d) := by
  simp [PyData.eqv, PyData.eqvAll]
theorem kd_eqv (s : Sh) : PyData.eqv (kd s) (kd s) = true := by
  unfold kd
  rw [eqv2, Sh.eqvS, (Sh.eqv_iff s s).mpr rfl]
  simp
theorem kd_dep {s : Sh} (h : s.hs ≤ 50) : (kd s).depth ≤ 64 := by
  have := s.dep
  simp only [kd, PyData.depth, PyData.depthAll]
  omega
theorem Vd_ok {cs : List Nat} (h : Tx 1000 43 cs) : (Vd cs).depth ≤ 64 ∧ PyData.eqv (Vd cs) (Vd cs) = true := by
  have hsg : ∀ i : Int, (sg i).depth ≤ 64 ∧ PyData.eqv (sg i) (sg i) = true := fun i => ⟨by simp [sg, PyData.depth, PyData.depthAll], by simp [sg, PyData.eqv, PyData.eqvAll]⟩
  have hb := rd_nb (f := 50) (l := cs) (by have := h.cnt; omega)
  unfold Vd
  cases e : rd 50 cs with
  | bad => exact absurd e hb
  | err r => exact hsg _
  | ok s r =>
    obtain ⟨e1, hn, hh⟩ := rd_ok e
    by_cases hr : r = []
    · simp only [if_pos hr]
      unfold V1
      split
      · exact ⟨by decide, by decide⟩
      · cases s.lets.findSome? bad1 with
        | none => exact ⟨kd_dep hh, kd_eqv s⟩
        | some n => exact ⟨by simp [nmD, PyData.depth, PyData.depthAll], by simp [nmD, PyData.eqv, PyData.eqvAll]⟩
    · simp only [if_neg hr]
      exact hsg _
theorem last_ok {cs : List Nat} (h : Tx 1000 43 cs) : (((l_told_m (st cs)) >>= fun t69 => ((l_due_m (st cs)) >>= fun t70 => (M.asrt (t69.depth ≤ 64 ∧ t70.depth ≤ 64) (.ok (PyData.eqv t69 t70))))) >>= fun b73 => (if b73 then ((l_told_m (st cs)) >>= fun t71 => ((l_due_m (st cs)) >>= fun t72 => (M.asrt (t71.depth ≤ 64 ∧ t72.depth ≤ 64) (.ok (PyData.eqv t71 t72))))) else .ok false)) = .ok true := by
  obtain ⟨h1, h2⟩ := Vd_ok h
  rw [told_ok h, due_ok h]
  simp only [M.ok_bind]
  rw [M.asrt_pos ⟨h1, h1⟩, h2]
  rfl
/-! ### the makers -/
structure NC (m : Nat) (n : PySem.Str) : Prop where
  ne : n.cps.toList ≠ []
  all : ∀ c ∈ n.cps.toList, okC c = true
  len : n.length ≤ m
theorem ixS_mem {z : PySem.Str} {i : Int} (hz : z.length ≤ 1000) (h0 : 0 ≤ i) (h1 : i < z.length) : ∃ c ∈ z.cps.toList, M.ixS z i = .ok (st [c]) := by
  obtain ⟨c, hc, e⟩ := M.ix_some (xs := z.cps.toList) h0 (by rw [Array.length_toList]; exact h1)
  refine ⟨c, List.mem_of_getElem? hc, ?_⟩
  unfold M.ixS
  rw [M.asrt_pos (Nat.le_of_lt (small1k (by omega))), atI_of h0 hc]
  rfl
theorem sl_lo {l : List Nat} (p : Nat) (h : l.length ≤ 1000) : M.slS (st l) none (some (p : Int)) = .ok (st (l.take p)) := by
  unfold M.slS cutS
  rw [M.asrt_pos (Nat.le_of_lt (small1k (by rw [st_len]; omega))), HT.sIx_none, HT.sIx_nat, st_list, st_len]
  show M.ok (st ((l.drop 0).take (min p l.length - 0))) = _
  rw [List.drop_zero, Nat.sub_zero]
  by_cases hp : p ≤ l.length
  · rw [Nat.min_eq_left hp]
  · rw [Nat.min_eq_right (by omega), List.take_length, List.take_of_length_le (by omega)]
theorem sl_hi {l : List Nat} (p : Nat) (h : l.length ≤ 1000) : M.slS (st l) (some (p : Int)) none = .ok (st (l.drop p)) := by
  unfold M.slS cutS
  rw [M.asrt_pos (Nat.le_of_lt (small1k (by rw [st_len]; omega))), HT.sIx_none, HT.sIx_nat, st_list, st_len]
  show M.ok (st ((l.drop (min p l.length)).take (l.length - min p l.length))) = _
  rw [List.take_of_length_le (by rw [List.length_drop]; omega)]
  by_cases hp : p ≤ l.length
  · rw [Nat.min_eq_left hp]
  · rw [Nat.min_eq_right (by omega), List.drop_length, List.drop_of_length_le (by omega)]
theorem mem_cat (a b : PySem.Str) : (a ++ b).cps.toList = a.cps.toList ++ b.cps.toList := by
  show (a.cps ++ b.cps).toList = _
  simp
theorem lwrite_ok : ∀ (s : Sh) (n : Nat), s.hs ≤ n → (wr s).length ≤ 1000 → l_write_m n s.toD = .ok (st (wr s))
  | .letter m b, n, h, hl => by
    obtain ⟨n, rfl⟩ : ∃ k, n = k + 1 := ⟨n - 1, by have : 1 ≤ n := h; omega⟩
    show l_write_step (l_write_m n) (Sh.letter m b).toD = _
    unfold l_write_step
    simp only [itl, M.ofO_some, M.ok_bind, ix0, ix1, ix2, ouS, ouB, ll, if_true, decide_true]
    cases b with
    | false =>
      rw [if_neg (by decide)]
      have hl : (m.cps.toList ++ [39]).length ≤ 1000 := hl
      rw [List.length_append] at hl
      have e := catT (a := m.cps.toList) (b := [39]) hl
      rw [st_of] at e
      rw [L39, e]
      rfl
    | true =>
      rw [if_pos rfl]
      show M.ok m = M.ok (st (m.cps.toList ++ []))
      rw [List.append_nil, st_of]
  | .node w a b, n, h, hl => by
    have hm : max a.hs b.hs + 1 ≤ n := h
    obtain ⟨n, rfl⟩ : ∃ k, n = k + 1 := ⟨n - 1, by omega⟩
    rw [wr_node] at hl ⊢
    simp only [List.length_append, List.length_cons, List.length_nil] at hl
    show l_write_step (l_write_m n) (Sh.node w a b).toD = _
    unfold l_write_step
    simp only [itn, M.ofO_some, M.ok_bind, ix0, ix1, ix2, ouS, ouV, wl, wb, Bool.false_eq_true, if_false]
    rw [lwrite_ok a n (by omega) (by omega), lwrite_ok b n (by omega) (by omega)]
    simp only [M.ok_bind]
    rw [L_and, L_or, L40, catT (by simp; omega)]
    simp only [M.ok_bind]
    cases w with
    | false =>
      rw [if_neg (by decide), catT (by simp; omega)]
      simp only [M.ok_bind]
      rw [catT (by simp; omega)]
      simp only [M.ok_bind]
      rw [L41, catT (by simp; omega)]
      rfl
    | true =>
      rw [if_pos rfl, catT (by simp; omega)]
      simp only [M.ok_bind]
      rw [catT (by simp; omega)]
      simp only [M.ok_bind]
      rw [L41, catT (by simp; omega)]
      rfl
theorem name_nc (d : List Int) (a : Int) : M.sat (l_name_m d a) (NC 8) := by
  unfold l_name_m
  simp only [pick_eq, M.ok_bind]
  have h8 := pick_range (d := d) (k := a) (m := 8) (by decide)
  generalize pick d a 8 = q at h8
  rw [M.range_ok (by omega) (by omega)]
  simp only [M.ok_bind]
  refine M.sat_bind (M.sat_fold (fun i (s : PySem.Str) => s.length = i ∧ ∀ c ∈ s.cps.toList, okC c = true) ⟨rfl, fun c hc => nomatch hc⟩ fun i x s hx ⟨hs, ha⟩ => ?_) fun s ⟨hs, ha⟩ => M.sat_ok ⟨fun z => ?_, ha, by rw [rngL_len] at hs; omega⟩
  · obtain ⟨hi, _⟩ := rngL_get hx
    have h26 := pick_range (d := d) (k := a + 1 + x) (m := 26) (by decide)
    obtain ⟨c, hc, e⟩ := ixS_mem (z := az) (i := pick d (a + 1 + x) 26) (by decide) h26.1 h26.2
    rw [show M.ixS ("abcdefghijklmnopqrstuvwxyz" : PySem.Str) (pick d (a + 1 + x) 26) = _ from e]
    simp only [M.ok_bind]
    rw [catS_ok (by rw [st_len]; simp; omega)]
    refine ⟨_, rfl, by rw [app_len, st_len]; simp; omega, fun c' hc' => ?_⟩
    rw [mem_cat] at hc'
    rcases List.mem_append.mp hc' with hc' | hc'
    · exact ha c' hc'
    · have hc' : c' ∈ [c] := hc'
      rw [List.mem_singleton] at hc'
      subst hc'
      exact decide_eq_true hc
  · rw [rngL_len] at hs
    have : s.cps.toList.length = s.length := Array.length_toList
    rw [z] at this
    simp at this
    omega
theorem names_nc (d e : List Int) {m : Nat} (hm : m ≤ 100) : M.sat (l_names_m d e m) fun ns => ns.length = m ∧ ∀ n ∈ ns, NC 8 n := by
  unfold l_names_m
  refine M.sat_bind (name_nc d 0) fun b hb => ?_
  simp only [pick_eq, M.ok_bind]
  rw [M.rangeN (by omega)]
  simp only [M.ok_bind]
  refine M.sat_if (fun _ => ?_) fun _ => ?_
  · obtain ⟨ys, ey, h1, h2⟩ := comp_sat (f := fun x3 => l_name_m d ((9 : Int) * x3)) (xs := rngL 0 m) fun x _ => name_nc d _
    exact ⟨ys, ey, by rw [h1, rngL_len], h2⟩
  · have hb8 := hb.len
    have hbl : b.cps.toList.length = b.length := Array.length_toList
    have hb0 : 0 < b.length := by rw [← hbl]; exact List.length_pos_iff.mpr hb.ne
    rw [lenS_ok (by omega)]
    simp only [M.ok_bind]
    refine M.sat_bind (M.sat_fold (fun i (s : List PySem.Str) => s.length = i ∧ ∀ n ∈ s, NC 8 n) ⟨rfl, fun n hn => nomatch hn⟩ fun i x s hx ⟨h1, h2⟩ => ?_) fun s ⟨h1, h2⟩ => M.sat_ok ⟨by rw [rngL_len] at h1; exact h1, h2⟩
    obtain ⟨hi, _⟩ := rngL_get hx
    have h4 := pick_range (d := d) (k := 9 + x) (m := 4) (by decide)
    obtain ⟨c, hc, ec⟩ := ixS_mem (z := ("abyz" : PySem.Str)) (i := pick d (9 + x) 4) (by decide) h4.1 h4.2
    have hok : okC c = true := (by decide : ∀ c ∈ ("abyz" : PySem.Str).cps.toList, okC c = true) c hc
    rw [ec]
    simp only [M.ok_bind]
    have hp := pick_range (d := e) (k := 1) (m := (b.length : Int)) (by omega)
    obtain ⟨p, hpe⟩ : ∃ p : Nat, pick e 1 (b.length : Int) = p := ⟨(pick e 1 (b.length : Int)).toNat, by omega⟩
    rw [hpe] at hp ⊢
    rw [← st_of b, sl_lo p (by omega), show ((p : Int) + 1) = ((p + 1 : Nat) : Int) by omega, sl_hi (p + 1) (by omega)]
    simp only [M.ok_bind]
    rw [catT (by rw [List.length_take]; simp; omega)]
    simp only [M.ok_bind]
    rw [catT (by simp only [List.length_append, List.length_take, List.length_drop, List.length_singleton]; omega), M.push_small (by omega)]
    refine ⟨_, rfl, by simp; omega, fun n hn => ?_⟩
    rcases List.mem_append.mp hn with hn | hn
    · exact h2 n hn
    · rw [List.mem_singleton] at hn
      subst hn
      refine ⟨fun z => ?_, fun c' hc' => ?_, ?_⟩
      · rw [st_list] at z
        simp at z
      · rw [st_list] at hc'
        rcases List.mem_append.mp hc' with hc' | hc'
        · rcases List.mem_append.mp hc' with hc' | hc'
          · exact hb.all c' (List.mem_of_mem_take hc')
          · rw [List.mem_singleton] at hc'
            exact hc' ▸ hok
        · exact hb.all c' (List.mem_of_mem_drop hc')
      · rw [st_len]
        simp only [List.length_append, List.length_take, List.length_drop, List.length_singleton]
        omega
theorem len1 {z : PySem.Str} (h : z.length = 1) : ∃ c, z = st [c] := by
  have : z.cps.toList.length = 1 := by rw [Array.length_toList]; exact h
  obtain ⟨c, hc⟩ := List.length_eq_one_iff.mp this
  exact ⟨c, by rw [← st_of z, hc]⟩
theorem spoilt_tx {l : List Nat} (e : List Int) (a : Int) {n k : Nat} (h : Tx n k l) (hn : n ≤ 990) : M.sat (l_spoilt_m e a (st l)) fun r => ∃ l', r = st l' ∧ Tx (n + 1) (k + 1) l' := by
  unfold l_spoilt_m
  simp only [pick_eq, M.ok_bind]
  have hl := h.len
  have hk := h.cnt
  have h12 := pick_range (d := e) (k := a + 1) (m := 12) (by decide)
  obtain ⟨y, hy, ey⟩ := M.ix_some (xs := ([("a" : PySem.Str), ("q" : PySem.Str), ("(" : PySem.Str), (")" : PySem.Str), (" " : PySem.Str), ("&" : PySem.Str), ("|" : PySem.Str), ("'" : PySem.Str), ("B" : PySem.Str), ("7" : PySem.Str), ("\n" : PySem.Str), ("~" : PySem.Str)] : List PySem.Str)) h12.1 h12.2
  have ha : ∀ z ∈ ([("a" : PySem.Str), ("q" : PySem.Str), ("(" : PySem.Str), (")" : PySem.Str), (" " : PySem.Str), ("&" : PySem.Str), ("|" : PySem.Str), ("'" : PySem.Str), ("B" : PySem.Str), ("7" : PySem.Str), ("\n" : PySem.Str), ("~" : PySem.Str)] : List PySem.Str), z.length = 1 := by decide
  obtain ⟨c, rfl⟩ := len1 (ha y (List.mem_of_getElem? hy))
  rw [ey]
  simp only [M.ok_bind]
  rw [lenT (by omega)]
  simp only [M.ok_bind]
  rw [M.asrt_pos (by omega)]
  simp only [M.ok_bind]
  have hp0 := Int.emod_nonneg (pick e (a + 2) 60 + 60 * pick e (a + 3) 12) (b := (l.length : Int) + 1) (by omega)
  have hp1 := Int.emod_lt_of_pos (pick e (a + 2) 60 + 60 * pick e (a + 3) 12) (b := (l.length : Int) + 1) (by omega)
  obtain ⟨p, hpe⟩ : ∃ p : Nat, (pick e (a + 2) 60 + 60 * pick e (a + 3) 12) % ((l.length : Int) + 1) = p := ⟨((pick e (a + 2) 60 + 60 * pick e (a + 3) 12) % ((l.length : Int) + 1)).toNat, by omega⟩
  rw [hpe] at hp1 ⊢
  rw [show ((p : Int) + 1) = ((p + 1 : Nat) : Int) by omega, sl_lo p (by omega), sl_hi p (by omega), sl_hi (p + 1) (by omega)]
  have hc1 : (l.take p).count 40 + (l.drop p).count 40 = l.count 40 := by rw [← List.count_append, List.take_append_drop]
  have hc2 : (l.drop (p + 1)).count 40 ≤ (l.drop p).count 40 := by
    rw [show p + 1 = p + 1 from rfl, ← List.drop_drop]
    exact (List.drop_sublist 1 _).count_le _
  have hcc : [c].count 40 ≤ 1 := List.count_le_length
  simp only [M.ok_bind]
  rw [catT (by rw [List.length_take, List.length_drop]; omega), catT (by rw [List.length_take]; simp; omega)]
  simp only [M.ok_bind]
  rw [catT (by simp only [List.length_append, List.length_take, List.length_drop, List.length_singleton]; omega), catT (by simp only [List.length_append, List.length_take, List.length_drop, List.length_singleton]; omega), catT (by simp; omega)]
  refine M.sat_if (fun _ => M.sat_ok ⟨_, rfl, ?_, ?_⟩) fun _ => M.sat_if (fun _ => M.sat_ok ⟨_, rfl, ?_, ?_⟩) fun _ => M.sat_if (fun _ => M.sat_ok ⟨_, rfl, ?_, ?_⟩) fun _ => M.sat_if (fun _ => M.sat_ok ⟨_, rfl, ?_, ?_⟩) fun _ => M.sat_ok ⟨_, rfl, ?_, ?_⟩
  all_goals first
    | (simp only [List.length_append, List.length_take, List.length_drop, List.length_singleton]; omega)
    | (simp only [List.count_append]; omega)
    | omega
theorem letters_made {ns : List PySem.Str} {bs : List Bool} {m : Nat} (hm : m ≤ 100) (h1 : ns.length = m) (h2 : bs.length = m) : ((M.range (m : Int)) >>= M.comp (fun _ => (M.ok true)) (fun x20 => (((M.ix ns x20) >>= fun t21 => (M.ok (UD.toU t21))) >>= fun t23 => (((M.ix bs x20) >>= fun t22 => (M.ok (UD.toU t22))) >>= fun t24 => (M.ok (PyData.tuple [(UD.toU ("letter" : PySem.Str)), t23, t24])))))) = .ok (((ns.zip bs).map fun p => Sh.letter p.1 p.2).map Sh.toD) := by
  rw [M.rangeN (by omega)]
  simp only [M.ok_bind]
  rw [M.comp_mapM (fun x => (Sh.letter (ns.getD x.toNat ("" : PySem.Str)) (bs.getD x.toNat false)).toD) fun x hx => by
    obtain ⟨a, b⟩ := mem_rngL.mp hx
    rw [M.ix_getD ("" : PySem.Str) (by omega) (by omega), M.ix_getD false (by omega) (by omega)]
    rfl]
  congr 1
  refine List.ext_getElem? fun i => ?_
  rw [List.getElem?_map, List.getElem?_map, List.getElem?_map]
  by_cases hi : i < m
  · have e1 : (rngL 0 m)[i]? = some (i : Int) := by
      rw [← rng_get]
      unfold rng
      rw [if_pos hi]
      simp
    rw [e1, List.getElem?_eq_getElem (l := ns.zip bs) (by rw [List.length_zip]; omega), List.getElem_zip]
    show some (Sh.letter (ns.getD i ("" : PySem.Str)) (bs.getD i false)).toD = some _
    rw [List.getD_eq_getElem?_getD, List.getD_eq_getElem?_getD, List.getElem?_eq_getElem (by omega), List.getElem?_eq_getElem (by omega)]
    rfl
  · rw [List.getElem?_eq_none (l := rngL 0 m) (by rw [rngL_len]; omega), List.getElem?_eq_none (l := ns.zip bs) (by rw [List.length_zip]; omega)]
    rfl
/-- the shape and its text -/
theorem text_made (d : List Int) {ns : List PySem.Str} {bs : List Bool} {m k : Nat} (hm : m ≤ 42) (hm1 : 1 ≤ m) (hk : k ≤ 17) (h1 : ns.length = m) (h2 : bs.length = m) (hn : ∀ n ∈ ns, NC k n) :
    ∃ s : Sh, (((M.range (m : Int)) >>= M.comp (fun _ => (M.ok true)) (fun x20 => (((M.ix ns x20) >>= fun t21 => (M.ok (UD.toU t21))) >>= fun t23 => (((M.ix bs x20) >>= fun t22 => (M.ok (UD.toU t22))) >>= fun t24 => (M.ok (PyData.tuple [(UD.toU ("letter" : PySem.Str)), t23, t24])))))) >>= fun t25 => (l_shape_m d (20 : Int) t25)) = .ok s.toD ∧ s.lets = ns.zip bs ∧ l_write_m 44 s.toD = .ok (st (wr s)) ∧ Nm s ∧ Tx 966 41 (wr s) := by
  obtain ⟨x, ex, s, rfl, hs⟩ := shape_sat d 20 (ss := (ns.zip bs).map fun p => Sh.letter p.1 p.2) (by rw [List.length_map, List.length_zip]; omega) (by rw [List.length_map, List.length_zip]; omega)
  rw [letters_map] at hs
  have hlen : s.lets.length = m := by rw [hs, List.length_zip]; omega
  have hN : ∀ x ∈ s.lets, NC k x.1 := fun x hx => by
    rw [hs] at hx
    obtain ⟨a, b⟩ := x
    exact hn a (List.of_mem_zip hx).1
  have hNm : Nm s := fun x hx => ⟨(hN x hx).ne, (hN x hx).all⟩
  have hw := wr_len (s := s) (m := k) fun x hx => (hN x hx).len
  have hw2 : (k + 6) * s.lets.length ≤ 23 * 42 := Nat.mul_le_mul (by omega) (by omega)
  have hc := wr_count hNm
  refine ⟨s, ?_, hs, lwrite_ok s 44 (Nat.le_trans s.hs_le (by omega)) (by omega), hNm, by omega, by omega⟩
  rw [letters_made (by omega) h1 h2]
  exact ex
theorem signs_made (d : List Int) {m : Nat} (hm : m ≤ 100) : M.sat ((M.range (m : Int)) >>= M.comp (fun _ => (M.ok true)) (fun x12 => ((l_pick_m d ((5 : Int) + x12) (2 : Int)) >>= fun t13 => (M.ok (decide (t13 = (1 : Int))))))) fun bs => bs.length = m := by
  rw [M.rangeN (by omega)]
  simp only [M.ok_bind, pick_eq]
  rw [M.comp_mapM (fun x => decide (pick d (5 + x) 2 = 1)) fun x hx => rfl]
  exact M.sat_ok (by rw [List.length_map, rngL_len])
theorem rest_ok (dr ex : List Int) {ns : List PySem.Str} {bs : List Bool} {m : Nat} {sh : Sh} (m2 : m ≤ 42) (m1 : 1 ≤ m) (n1 : ns.length = m) (b1 : bs.length = m) (n2 : ∀ n ∈ ns, NC 8 n) (htx : Tx 966 41 (wr sh)) : M.sat (
  (((l_pick_m ex (4 : Int) (6 : Int)) >>= fun t77 => (M.ok (decide (t77 = (1 : Int))))) >>= fun b121 => if b121 then
    (l_pick_m ex (5 : Int) (m : Int)) >>= fun place_78 =>
      M.setIx ns (M.ok place_78) (((M.ix ns place_78) >>= fun t79 => (M.catS t79 ("longernm" : PySem.Str))) >>= fun t81 => (((l_pick_m ex (6 : Int) (4 : Int)) >>= fun t80 => (M.ixS ("abcd" : PySem.Str) t80)) >>= fun t82 => (M.catS t81 t82))) >>= fun names_here_83 =>
      ((((M.range (m : Int)) >>= M.comp (fun _ => (M.ok true)) (fun x100 => (((M.ix names_here_83 x100) >>= fun t101 => (M.ok (UD.toU t101))) >>= fun t103 => (((M.ix bs x100) >>= fun t102 => (M.ok (UD.toU t102))) >>= fun t104 => (M.ok (PyData.tuple [(UD.toU ("letter" : PySem.Str)), t103, t104])))))) >>= fun t105 => (l_shape_m dr (20 : Int) t105)) >>= fun t106 => (l_write_m 44 t106)) >>= fun text_107 =>
      M.ok text_107
  else
    M.ok (st (wr sh))) >>= (fun s108 : PySem.Str =>
    (((l_pick_m ex (7 : Int) (3 : Int)) >>= fun t109 => (M.ok (decide ((0 : Int) < t109)))) >>= fun b120 => if b120 then
    (l_spoilt_m ex (8 : Int) s108) >>= fun text_110 =>
      ((l_pick_m ex (7 : Int) (6 : Int)) >>= fun t111 => (M.ok (decide (t111 = (4 : Int))))) >>= fun b113 => if b113 then
      (l_spoilt_m ex (14 : Int) text_110) >>= fun text_112 =>
        M.ok text_112
    else
      M.ok text_110
  else
    M.ok s108) >>= (fun s114 : PySem.Str =>
    (((l_told_m s114) >>= fun t115 => ((l_due_m s114) >>= fun t116 => (M.asrt (t115.depth ≤ 64 ∧ t116.depth ≤ 64) (.ok (PyData.eqv t115 t116))))) >>= fun b119 => (if b119 then ((l_told_m s114) >>= fun t117 => ((l_due_m s114) >>= fun t118 => (M.asrt (t117.depth ≤ 64 ∧ t118.depth ≤ 64) (.ok (PyData.eqv t117 t118))))) else .ok false))))) (fun x => x = true) := by
  simp only [pick_eq, M.ok_bind]
  have p5 := pick_range (d := ex) (k := 5) (m := (m : Int)) (by omega)
  refine M.sat_bind (R1 := fun t : PySem.Str => ∃ l, t = st l ∧ Tx 966 41 l) (M.sat_if (fun _ => ?_) fun _ => M.sat_ok ⟨_, rfl, htx⟩) ?_
  · obtain ⟨p, hp⟩ : ∃ p : Nat, pick ex 5 (m : Int) = p := ⟨(pick ex 5 (m : Int)).toNat, by omega⟩
    rw [hp] at p5 ⊢
    have p6 := pick_range (d := ex) (k := 6) (m := 4) (by decide)
    obtain ⟨c, hc, ec⟩ := ixS_mem (z := ("abcd" : PySem.Str)) (i := pick ex 6 4) (by decide) p6.1 p6.2
    have hok : okC c = true := (by decide : ∀ c ∈ ("abcd" : PySem.Str).cps.toList, okC c = true) c hc
    obtain ⟨n, hn, en⟩ := M.ix_some (xs := ns) (i := (p : Int)) (by omega) (by omega)
    have hnm : n ∈ ns := List.mem_of_getElem? hn
    have hN := n2 n hnm
    have hl9 : ("longernm" : PySem.Str).length = 8 := by decide
    have hNl := hN.len
    rw [en, ec]
    simp only [M.ok_bind]
    rw [catS_ok (by omega)]
    simp only [M.ok_bind]
    rw [catS_ok (by rw [app_len, st_len]; simp; omega), setIx_ok (j := p) rfl (by omega)]
    simp only [M.ok_bind]
    have hall : ∀ n' ∈ ns.set p (n ++ "longernm" ++ st [c]), NC 17 n' := fun n' hn' => by
      rcases List.mem_or_eq_of_mem_set hn' with hn' | rfl
      · have h := n2 n' hn'
        exact ⟨h.ne, h.all, by have := h.len; omega⟩
      · refine ⟨fun z => ?_, fun c' hc' => ?_, by rw [app_len, app_len, st_len]; simp; omega⟩
        · rw [mem_cat, mem_cat] at z
          simp at z
          exact hN.ne (by simp [z.1])
        · rw [mem_cat, mem_cat] at hc'
          rcases List.mem_append.mp hc' with hc' | hc'
          · rcases List.mem_append.mp hc' with hc' | hc'
            · exact hN.all c' hc'
            · exact (by decide : ∀ c ∈ ("longernm" : PySem.Str).cps.toList, okC c = true) c' hc'
          · have hc' : c' ∈ [c] := hc'
            rw [List.mem_singleton] at hc'
            exact hc' ▸ hok
    obtain ⟨s2, es, _, ew, _, ht⟩ := text_made dr (m := m) (k := 17) m2 m1 (by omega) (by rw [List.length_set]; exact n1) b1 hall
    rw [es]
    simp only [M.ok_bind]
    rw [ew]
    exact M.sat_ok ⟨_, rfl, ht⟩
  rintro _ ⟨l, rfl, hl⟩
  refine M.sat_bind (R1 := fun t : PySem.Str => ∃ l, t = st l ∧ Tx 968 43 l) (M.sat_if (fun _ => ?_) fun _ => M.sat_ok ⟨_, rfl, by have := hl.len; omega, by have := hl.cnt; omega⟩) ?_
  · refine M.sat_bind (spoilt_tx ex 8 hl (by omega)) ?_
    rintro _ ⟨l1, rfl, h1⟩
    refine M.sat_if (fun _ => ?_) fun _ => M.sat_ok ⟨_, rfl, by have := h1.len; omega, by have := h1.cnt; omega⟩
    refine M.sat_bind (spoilt_tx ex 14 h1 (by omega)) ?_
    rintro _ ⟨l2, rfl, h2⟩
    exact M.sat_ok ⟨_, rfl, by have := h2.len; omega, by have := h2.cnt; omega⟩
  rintro _ ⟨l2, rfl, h2⟩
  exact ⟨_, last_ok ⟨by have := h2.len; omega, by have := h2.cnt; omega⟩, rfl⟩
theorem law_plain (s : List Int) (hs : s.length ≤ 63) : law_m ⟨s⟩ = .ok true := by
  refine M.sat_val ?_
  obtain ⟨c0, e0⟩ := cell_ok ⟨s⟩ (k := 0) (by decide)
  obtain ⟨c1, e1⟩ := cell_ok ⟨s⟩ (k := 1) (by decide)
  obtain ⟨dr, f0⟩ := draws_ok c0 (m := 100) (by decide) (by decide)
  obtain ⟨ex, f1⟩ := draws_ok c1 (m := 40) (by decide) (by decide)
  unfold law_m
  rw [e0, e1]
  simp only [M.ok_bind]
  rw [f0, f1]
  simp only [M.ok_bind, pick_eq]
  have p2 := pick_range (d := ex) (k := 2) (m := 8) (by decide)
  have p24 := pick_range (d := ex) (k := 2) (m := 4) (by decide)
  refine M.sat_bind (R1 := fun z : Int => ∃ n : Nat, z = n ∧ 1 ≤ n ∧ n ≤ 42) (M.sat_if (fun _ => M.sat_ok ⟨(39 + pick ex 2 4).toNat, by omega, by omega, by omega⟩) fun _ => M.sat_ok ⟨(1 + pick ex 2 8).toNat, by omega, by omega, by omega⟩) ?_
  rintro _ ⟨m, rfl, m1, m2⟩
  refine M.sat_bind (names_nc dr ex (m := m) (by omega)) fun ns ⟨n1, n2⟩ => ?_
  have hsm := signs_made dr (m := m) (by omega)
  simp only [pick_eq] at hsm
  refine M.sat_bind hsm fun bs b1 => ?_
  obtain ⟨sh, es, hlets, ew, hNm, htx⟩ := text_made dr (m := m) (k := 8) m2 m1 (by omega) n1 b1 n2
  refine (M.sat_eq es ?_)
  rw [ew]
  simp only [M.ok_bind]
  have rest := rest_ok dr ex m2 m1 n1 b1 n2 htx
  simp only [pick_eq] at rest
  refine M.sat_if (fun h40 => ?_) fun _ => ?_
  · have h40 : m ≤ 40 := by have := of_decide_eq_true h40; omega
    have hlen : sh.lets.length = m := by rw [hlets, List.length_zip]; omega
    have hg : Gd sh := ⟨by omega, fun x hx => by
      rw [hlets] at hx
      obtain ⟨a, b⟩ := x
      have h := n2 a (List.of_mem_zip hx).1
      unfold okN
      have h3 : 0 < a.length := by
        show 0 < a.cps.size
        rw [← Array.length_toList]
        exact List.length_pos_iff.mpr h.ne
      rw [decide_eq_true h3, decide_eq_true h.len, List.all_eq_true.mpr h.all]
      rfl⟩
    have hh : sh.hs ≤ 44 := by have := hg.hs; omega
    have hT : Tx 1000 43 (wr sh) := ⟨by have := htx.len; omega, by have := htx.cnt; omega⟩
    have hV : Vd (wr sh) = kd sh := by
      unfold Vd
      have := rd_wr (s := sh) (f := 50) (r := []) hNm (by omega) (fun c l z => nomatch z)
      rw [List.append_nil] at this
      rw [this]
      show V1 sh = _
      unfold V1
      rw [if_neg (by omega), hg.find]
    rw [init_gd hg]
    simp only [M.ok_bind]
    rw [show p_format_kind_m ⟨sh.toD⟩ = .ok (st (wr sh)) from written_ok sh 44 hh hT.len]
    simp only [M.ok_bind]
    rw [told_ok hT, hV]
    simp only [M.ok_bind]
    have hd := kd_dep (s := sh) (by omega)
    rw [show (UD.toU (("kind" : PySem.Str), sh.toD)) = kd sh from rfl, M.asrt_pos ⟨hd, hd⟩, kd_eqv]
    refine M.sat_eq (x := false) ?_ ?_
    · simp
    rw [if_neg (by decide)]
    exact rest
  · exact rest
end K79

section
set_option maxHeartbeats 4000000
namespace K79
open PySem L2 G PM
/-! the text by places -/
def topS (i : Nat) : Stmt := PySem.Challenge.pw_comesapart_k79_written_kinds.main.body.getD i (.Pass ⟨0, 0, 0, 0⟩)
abbrev s_l_cell : Stmt := topS 22
abbrev N_l_cell : List Str := ["_law_script", "_law_k"]
theorem sc_l_cell : FnScope N_l_cell ["_law_script", "_law_k"] (defScope s_l_cell) := ⟨rfl, rfl, rfl, by decide +kernel, rfl, by decide +kernel, by decide +kernel⟩
abbrev s_l_draws : Stmt := topS 23
abbrev N_l_draws : List Str := ["_law_cell_here", "_law_many", "_law_rest", "_law_exact", "_law_mixed", "_law_draws_here", "_law_k"]
theorem sc_l_draws : FnScope N_l_draws ["_law_cell_here", "_law_many"] (defScope s_l_draws) := ⟨rfl, rfl, rfl, by decide +kernel, rfl, by decide +kernel, by decide +kernel⟩
abbrev s_l_pick : Stmt := topS 24
abbrev N_l_pick : List Str := ["_law_draws_here", "_law_k", "_law_many"]
theorem sc_l_pick : FnScope N_l_pick ["_law_draws_here", "_law_k", "_law_many"] (defScope s_l_pick) := ⟨rfl, rfl, rfl, by decide +kernel, rfl, by decide +kernel, by decide +kernel⟩
abbrev s_l_name : Stmt := topS 26
abbrev N_l_name : List Str := ["_law_draws_here", "_law_at", "_law_name_here", "_law_k"]
theorem sc_l_name : FnScope N_l_name ["_law_draws_here", "_law_at"] (defScope s_l_name) := ⟨rfl, rfl, rfl, by decide +kernel, rfl, by decide +kernel, by decide +kernel⟩
abbrev s_l_names : Stmt := topS 27
abbrev N_l_names : List Str := ["_law_draws_here", "_law_extra", "_law_many", "_law_base", "_law_k", "_law_place", "_law_names_here", "_law_sign"]
theorem sc_l_names : FnScope N_l_names ["_law_draws_here", "_law_extra", "_law_many"] (defScope s_l_names) := ⟨rfl, rfl, rfl, by decide +kernel, rfl, by decide +kernel, by decide +kernel⟩
abbrev s_l_shape : Stmt := topS 28
abbrev N_l_shape : List Str := ["_law_draws_here", "_law_at", "_law_letters_here", "_law_items", "_law_k", "_law_place", "_law_right", "_law_word"]
theorem sc_l_shape : FnScope N_l_shape ["_law_draws_here", "_law_at", "_law_letters_here"] (defScope s_l_shape) := ⟨rfl, rfl, rfl, by decide +kernel, rfl, by decide +kernel, by decide +kernel⟩
abbrev s_l_write : Stmt := topS 29
abbrev N_l_write : List Str := ["_law_shape_here"]
theorem sc_l_write : FnScope N_l_write ["_law_shape_here"] (defScope s_l_write) := ⟨rfl, rfl, rfl, by decide +kernel, rfl, by decide +kernel, by decide +kernel⟩
abbrev s_p_letters_in : Stmt := topS 8
abbrev N_p_letters_in : List Str := ["shape", "found", "waiting", "top"]
theorem sc_p_letters_in : FnScope N_p_letters_in ["shape"] (defScope s_p_letters_in) := ⟨rfl, rfl, rfl, by decide +kernel, rfl, by decide +kernel, by decide +kernel⟩
abbrev s_p_is_name : Stmt := topS 7
abbrev N_p_is_name : List Str := ["name", "char"]
theorem sc_p_is_name : FnScope N_p_is_name ["name"] (defScope s_p_is_name) := ⟨rfl, rfl, rfl, by decide +kernel, rfl, by decide +kernel, by decide +kernel⟩
abbrev s_m_KindX_initX : Stmt := (clsB (topS 10)).getD 1 (.Pass ⟨0, 0, 0, 0⟩)
abbrev N_m_KindX_initX : List Str := ["self", "shape", "found", "name", "_"]
theorem sc_m_KindX_initX : FnScope N_m_KindX_initX ["self", "shape"] (defScope s_m_KindX_initX) := ⟨rfl, rfl, rfl, by decide +kernel, rfl, by decide +kernel, by decide +kernel⟩
abbrev s_p_written_shape : Stmt := topS 19
abbrev N_p_written_shape : List Str := ["shape"]
theorem sc_p_written_shape : FnScope N_p_written_shape ["shape"] (defScope s_p_written_shape) := ⟨rfl, rfl, rfl, by decide +kernel, rfl, by decide +kernel, by decide +kernel⟩
abbrev s_p_format_kind : Stmt := topS 20
abbrev N_p_format_kind : List Str := ["kind"]
theorem sc_p_format_kind : FnScope N_p_format_kind ["kind"] (defScope s_p_format_kind) := ⟨rfl, rfl, rfl, by decide +kernel, rfl, by decide +kernel, by decide +kernel⟩
abbrev s_p_expect : Stmt := topS 15
abbrev N_p_expect : List Str := ["text", "at", "char"]
theorem sc_p_expect : FnScope N_p_expect ["text", "at", "char"] (defScope s_p_expect) := ⟨rfl, rfl, rfl, by decide +kernel, rfl, by decide +kernel, by decide +kernel⟩
abbrev s_p_name_end : Stmt := topS 16
abbrev N_p_name_end : List Str := ["text", "at", "end"]
theorem sc_p_name_end : FnScope N_p_name_end ["text", "at"] (defScope s_p_name_end) := ⟨rfl, rfl, rfl, by decide +kernel, rfl, by decide +kernel, by decide +kernel⟩
abbrev s_p_read_shape : Stmt := topS 17
abbrev N_p_read_shape : List Str := ["text", "at", "left", "word", "right", "end"]
theorem sc_p_read_shape : FnScope N_p_read_shape ["text", "at"] (defScope s_p_read_shape) := ⟨rfl, rfl, rfl, by decide +kernel, rfl, by decide +kernel, by decide +kernel⟩
abbrev s_p_parse_kind : Stmt := topS 18
abbrev N_p_parse_kind : List Str := ["text", "shape", "end"]
theorem sc_p_parse_kind : FnScope N_p_parse_kind ["text"] (defScope s_p_parse_kind) := ⟨rfl, rfl, rfl, by decide +kernel, rfl, by decide +kernel, by decide +kernel⟩
abbrev s_l_told : Stmt := topS 36
abbrev N_l_told : List Str := ["_law_text", "_law_kind", "e", "_law_found"]
theorem sc_l_told : FnScope N_l_told ["_law_text"] (defScope s_l_told) := ⟨rfl, rfl, rfl, by decide +kernel, rfl, by decide +kernel, by decide +kernel⟩
abbrev s_l_spoilt : Stmt := topS 30
abbrev N_l_spoilt : List Str := ["_law_extra", "_law_at", "_law_text", "_law_menu", "_law_sign", "_law_place", "_law_deed"]
theorem sc_l_spoilt : FnScope N_l_spoilt ["_law_extra", "_law_at", "_law_text"] (defScope s_l_spoilt) := ⟨rfl, rfl, rfl, by decide +kernel, rfl, by decide +kernel, by decide +kernel⟩
abbrev s_l_is_letter : Stmt := topS 31
abbrev N_l_is_letter : List Str := ["_law_sign"]
theorem sc_l_is_letter : FnScope N_l_is_letter ["_law_sign"] (defScope s_l_is_letter) := ⟨rfl, rfl, rfl, by decide +kernel, rfl, by decide +kernel, by decide +kernel⟩
abbrev s_l_next : Stmt := topS 32
abbrev N_l_next : List Str := ["_law_state", "_law_sign", "_law_stack"]
theorem sc_l_next : FnScope N_l_next ["_law_state", "_law_sign", "_law_stack"] (defScope s_l_next) := ⟨rfl, rfl, rfl, by decide +kernel, rfl, by decide +kernel, by decide +kernel⟩
abbrev s_l_bad_sign : Stmt := topS 33
abbrev N_l_bad_sign : List Str := ["_law_text", "_law_state", "_law_stack", "_law_at"]
theorem sc_l_bad_sign : FnScope N_l_bad_sign ["_law_text"] (defScope s_l_bad_sign) := ⟨rfl, rfl, rfl, by decide +kernel, rfl, by decide +kernel, by decide +kernel⟩
abbrev s_l_read : Stmt := topS 34
abbrev N_l_read : List Str := ["_law_text", "_law_at", "_law_left", "_law_end", "_law_word", "_law_right", "_law_last"]
theorem sc_l_read : FnScope N_l_read ["_law_text", "_law_at"] (defScope s_l_read) := ⟨rfl, rfl, rfl, by decide +kernel, rfl, by decide +kernel, by decide +kernel⟩
abbrev s_l_letters : Stmt := topS 25
abbrev N_l_letters : List Str := ["_law_shape_here"]
theorem sc_l_letters : FnScope N_l_letters ["_law_shape_here"] (defScope s_l_letters) := ⟨rfl, rfl, rfl, by decide +kernel, rfl, by decide +kernel, by decide +kernel⟩
abbrev s_l_due : Stmt := topS 35
abbrev N_l_due : List Str := ["_law_text", "_law_sign", "_law_shape_here", "_law_letters_here", "_law_name_here", "_law_positive"]
theorem sc_l_due : FnScope N_l_due ["_law_text"] (defScope s_l_due) := ⟨rfl, rfl, rfl, by decide +kernel, rfl, by decide +kernel, by decide +kernel⟩
abbrev s_law : Stmt := topS 37
abbrev N_law : List Str := ["_law_script", "_law_draws_here", "_law_extra", "_law_many", "_law_names_here", "_law_signs", "_law_shape_here", "_law_text", "_law_written", "_law_place", "_law_k"]
theorem sc_law : FnScope N_law ["_law_script"] (defScope s_law) := ⟨rfl, rfl, rfl, by decide +kernel, rfl, by decide +kernel, by decide +kernel⟩
/-- what the top has written -/
structure Txt (K : PySem.W.Frag) (mg : Str → Option Value) (w : World) where
  A : CA3
  b_ValueError : mg "ValueError" = none
  b_abs : mg "abs" = none
  b_all : mg "all" = none
  b_int : mg "int" = none
  b_isinstance : mg "isinstance" = none
  b_len : mg "len" = none
  b_list : mg "list" = none
  b_range : mg "range" = none
  b_str : mg "str" = none
  g_BadName : mg "BadName" = some (.ref (A.tx .BadName))
  g_BadSign : mg "BadSign" = some (.ref (A.tx .BadSign))
  g_ComesapartError : mg "ComesapartError" = some (.ref (A.tx .ComesapartError))
  g_Kind : mg "Kind" = some (.ref (A.ob .Kind))
  c_Kind : Cls K (A.ob .Kind)
  g_TooLarge : mg "TooLarge" = some (.ref (A.tx .TooLarge))
  n_Kind_shape : NoAttr K (A.ob .Kind) "shape"
  u_Kind_MOST_LETTERS : Value
  k_Kind_MOST_LETTERS : Con K (A.ob .Kind) "MOST_LETTERS" (.int 40) u_Kind_MOST_LETTERS
  u_ALPHABET : Value
  g_ALPHABET : mg "ALPHABET" = some u_ALPHABET
  ku_ALPHABET : ∃ t, u_ALPHABET = .str "abcdefghijklmnopqrstuvwxyz" t
  u_MOST_IN_NAME : Value
  g_MOST_IN_NAME : mg "MOST_IN_NAME" = some u_MOST_IN_NAME
  ku_MOST_IN_NAME : ∃ t, u_MOST_IN_NAME = .int (8) t
  at_SIGN_OF_WORD : Addr
  g_SIGN_OF_WORD : mg "SIGN_OF_WORD" = some (.ref at_SIGN_OF_WORD)
  kd_SIGN_OF_WORD : KDT K w at_SIGN_OF_WORD ([("both", " & "), ("together", " | ")] : List (PySem.Str × PySem.Str))
  at_WORD_OF_SIGN : Addr
  g_WORD_OF_SIGN : mg "WORD_OF_SIGN" = some (.ref at_WORD_OF_SIGN)
  kd_WORD_OF_SIGN : KDT K w at_WORD_OF_SIGN ([("&", "both"), ("|", "together")] : List (PySem.Str × PySem.Str))
  it_Kind : InsT K (A.ob .Kind)
  a_l_cell : Addr
  f_l_cell : FuncData
  F_l_cell : Fun K "_law_cell" "_law_cell" s_l_cell a_l_cell f_l_cell
  d_l_cell : Binds K f_l_cell ["_law_script", "_law_k"] []
  g_l_cell : mg "_law_cell" = some (.ref a_l_cell)
  a_l_draws : Addr
  f_l_draws : FuncData
  F_l_draws : Fun K "_law_draws" "_law_draws" s_l_draws a_l_draws f_l_draws
  d_l_draws : Binds K f_l_draws ["_law_cell_here", "_law_many"] []
  g_l_draws : mg "_law_draws" = some (.ref a_l_draws)
  a_l_pick : Addr
  f_l_pick : FuncData
  F_l_pick : Fun K "_law_pick" "_law_pick" s_l_pick a_l_pick f_l_pick
  d_l_pick : Binds K f_l_pick ["_law_draws_here", "_law_k", "_law_many"] []
  g_l_pick : mg "_law_pick" = some (.ref a_l_pick)
  a_l_name : Addr
  f_l_name : FuncData
  F_l_name : Fun K "_law_name" "_law_name" s_l_name a_l_name f_l_name
  d_l_name : Binds K f_l_name ["_law_draws_here", "_law_at"] []
  g_l_name : mg "_law_name" = some (.ref a_l_name)
  a_l_names : Addr
  f_l_names : FuncData
  F_l_names : Fun K "_law_names" "_law_names" s_l_names a_l_names f_l_names
  d_l_names : Binds K f_l_names ["_law_draws_here", "_law_extra", "_law_many"] []
  g_l_names : mg "_law_names" = some (.ref a_l_names)
  a_l_shape : Addr
  f_l_shape : FuncData
  F_l_shape : Fun K "_law_shape" "_law_shape" s_l_shape a_l_shape f_l_shape
  d_l_shape : Binds K f_l_shape ["_law_draws_here", "_law_at", "_law_letters_here"] []
  g_l_shape : mg "_law_shape" = some (.ref a_l_shape)
  a_l_write : Addr
  f_l_write : FuncData
  F_l_write : Fun K "_law_write" "_law_write" s_l_write a_l_write f_l_write
  d_l_write : Binds K f_l_write ["_law_shape_here"] []
  g_l_write : mg "_law_write" = some (.ref a_l_write)
  a_p_letters_in : Addr
  f_p_letters_in : FuncData
  F_p_letters_in : Fun K "letters_in" "letters_in" s_p_letters_in a_p_letters_in f_p_letters_in
  d_p_letters_in : Binds K f_p_letters_in ["shape"] []
  g_p_letters_in : mg "letters_in" = some (.ref a_p_letters_in)
  a_p_is_name : Addr
  f_p_is_name : FuncData
  F_p_is_name : Fun K "is_name" "is_name" s_p_is_name a_p_is_name f_p_is_name
  d_p_is_name : Binds K f_p_is_name ["name"] []
  g_p_is_name : mg "is_name" = some (.ref a_p_is_name)
  a_m_KindX_initX : Addr
  f_m_KindX_initX : FuncData
  F_m_KindX_initX : Fun K "__init__" "Kind.__init__" s_m_KindX_initX a_m_KindX_initX f_m_KindX_initX
  d_m_KindX_initX : Binds K f_m_KindX_initX ["self", "shape"] []
  mk_Kind : Mk K (A.ob .Kind) a_m_KindX_initX
  a_p_written_shape : Addr
  f_p_written_shape : FuncData
  F_p_written_shape : Fun K "written_shape" "written_shape" s_p_written_shape a_p_written_shape f_p_written_shape
  d_p_written_shape : Binds K f_p_written_shape ["shape"] []
  g_p_written_shape : mg "written_shape" = some (.ref a_p_written_shape)
  a_p_format_kind : Addr
  f_p_format_kind : FuncData
  F_p_format_kind : Fun K "format_kind" "format_kind" s_p_format_kind a_p_format_kind f_p_format_kind
  d_p_format_kind : Binds K f_p_format_kind ["kind"] []
  g_p_format_kind : mg "format_kind" = some (.ref a_p_format_kind)
  a_p_expect : Addr
  f_p_expect : FuncData
  F_p_expect : Fun K "expect" "expect" s_p_expect a_p_expect f_p_expect
  d_p_expect : Binds K f_p_expect ["text", "at", "char"] []
  g_p_expect : mg "expect" = some (.ref a_p_expect)
  a_p_name_end : Addr
  f_p_name_end : FuncData
  F_p_name_end : Fun K "name_end" "name_end" s_p_name_end a_p_name_end f_p_name_end
  d_p_name_end : Binds K f_p_name_end ["text", "at"] []
  g_p_name_end : mg "name_end" = some (.ref a_p_name_end)
  a_p_read_shape : Addr
  f_p_read_shape : FuncData
  F_p_read_shape : Fun K "read_shape" "read_shape" s_p_read_shape a_p_read_shape f_p_read_shape
  d_p_read_shape : Binds K f_p_read_shape ["text", "at"] []
  g_p_read_shape : mg "read_shape" = some (.ref a_p_read_shape)
  a_p_parse_kind : Addr
  f_p_parse_kind : FuncData
  F_p_parse_kind : Fun K "parse_kind" "parse_kind" s_p_parse_kind a_p_parse_kind f_p_parse_kind
  d_p_parse_kind : Binds K f_p_parse_kind ["text"] []
  g_p_parse_kind : mg "parse_kind" = some (.ref a_p_parse_kind)
  a_l_told : Addr
  f_l_told : FuncData
  F_l_told : Fun K "_law_told" "_law_told" s_l_told a_l_told f_l_told
  d_l_told : Binds K f_l_told ["_law_text"] []
  g_l_told : mg "_law_told" = some (.ref a_l_told)
  a_l_spoilt : Addr
  f_l_spoilt : FuncData
  F_l_spoilt : Fun K "_law_spoilt" "_law_spoilt" s_l_spoilt a_l_spoilt f_l_spoilt
  d_l_spoilt : Binds K f_l_spoilt ["_law_extra", "_law_at", "_law_text"] []
  g_l_spoilt : mg "_law_spoilt" = some (.ref a_l_spoilt)
  a_l_is_letter : Addr
  f_l_is_letter : FuncData
  F_l_is_letter : Fun K "_law_is_letter" "_law_is_letter" s_l_is_letter a_l_is_letter f_l_is_letter
  d_l_is_letter : Binds K f_l_is_letter ["_law_sign"] []
  g_l_is_letter : mg "_law_is_letter" = some (.ref a_l_is_letter)
  a_l_next : Addr
  f_l_next : FuncData
  F_l_next : Fun K "_law_next" "_law_next" s_l_next a_l_next f_l_next
  d_l_next : Binds K f_l_next ["_law_state", "_law_sign", "_law_stack"] []
  g_l_next : mg "_law_next" = some (.ref a_l_next)
  a_l_bad_sign : Addr
  f_l_bad_sign : FuncData
  F_l_bad_sign : Fun K "_law_bad_sign" "_law_bad_sign" s_l_bad_sign a_l_bad_sign f_l_bad_sign
  d_l_bad_sign : Binds K f_l_bad_sign ["_law_text"] []
  g_l_bad_sign : mg "_law_bad_sign" = some (.ref a_l_bad_sign)
  a_l_read : Addr
  f_l_read : FuncData
  F_l_read : Fun K "_law_read" "_law_read" s_l_read a_l_read f_l_read
  d_l_read : Binds K f_l_read ["_law_text", "_law_at"] []
  g_l_read : mg "_law_read" = some (.ref a_l_read)
  a_l_letters : Addr
  f_l_letters : FuncData
  F_l_letters : Fun K "_law_letters" "_law_letters" s_l_letters a_l_letters f_l_letters
  d_l_letters : Binds K f_l_letters ["_law_shape_here"] []
  g_l_letters : mg "_law_letters" = some (.ref a_l_letters)
  a_l_due : Addr
  f_l_due : FuncData
  F_l_due : Fun K "_law_due" "_law_due" s_l_due a_l_due f_l_due
  d_l_due : Binds K f_l_due ["_law_text"] []
  g_l_due : mg "_law_due" = some (.ref a_l_due)
  a_law : Addr
  f_law : FuncData
  F_law : Fun K "law" "law" s_law a_law f_law
  d_law : Binds K f_law ["_law_script"] []
  g_law : mg "law" = some (.ref a_law)
  i_BadName : Addr
  fx_BadName : FuncData
  x_BadName : XCls K (A.tx .BadName) i_BadName
  dx_BadName : Binds K fx_BadName ["self", "name"] []
  i_BadSign : Addr
  fx_BadSign : FuncData
  x_BadSign : XCls K (A.tx .BadSign) i_BadSign
  dx_BadSign : Binds K fx_BadSign ["self", "sign"] []
  i_TooLarge : Addr
  fx_TooLarge : FuncData
  x_TooLarge : XCls K (A.tx .TooLarge) i_TooLarge
  dx_TooLarge : Binds K fx_TooLarge ["self", "limit"] []
  no_BadName_name : PySem.W.findIn K (.ref (A.tx .BadName)) "name" = some none
  no_BadSign_sign : PySem.W.findIn K (.ref (A.tx .BadSign)) "sign" = some none
  no_TooLarge_limit : PySem.W.findIn K (.ref (A.tx .TooLarge)) "limit" = some none
  xf_BadName : XfC K (A.tx .BadName)
  xf_BadSign : XfC K (A.tx .BadSign)
  xf_TooLarge : XfC K (A.tx .TooLarge)
  exc : ∀ c, kn c = true → ExcC K (A.tx c)
  hx_ComesapartError : ∀ c, kn c = true → PySem.W.exmOne K (.ref (A.tx c)) (.ref (A.tx .ComesapartError)) = some (XC.isA c .ComesapartError)
  kx_BadName : ∀ c, kn c = true → PySem.W.kitOne K (.ref (A.tx c)) (.ref (A.tx .BadName)) = some (XC.isA c .BadName)
  kx_BadSign : ∀ c, kn c = true → PySem.W.kitOne K (.ref (A.tx c)) (.ref (A.tx .BadSign)) = some (XC.isA c .BadSign)
  kx_TooLarge : ∀ c, kn c = true → PySem.W.kitOne K (.ref (A.tx c)) (.ref (A.tx .TooLarge)) = some (XC.isA c .TooLarge)
  kx_ValueError : ∀ c, kn c = true → PySem.W.kitOne K (.ref (A.tx c)) (.type "ValueError") = some true
theorem hu64 {A : Around} {k : Nat} (hr : Room k A) : A.units + 64 < cLine := by have := hr.un; omega
def sp_l_cell (C : GCtx) (A : CA3) : Sp := fun vs H Q E => ∃ script : (Sq Int), ∃ k : Int, (l_cell_m script k).nb ∧ FnX C [.val (dSq (d := dInt)) script, .val dInt k] (fun c => ∃ r, c = .val dInt r ∧ (l_cell_m script k) = .ok r) (fun x => ∃ px, (l_cell_m script k) = .exc px ∧ x = px.x A.tx) vs H Q E
theorem sp_l_cell_len {C : GCtx} {A : CA3} {vs H Q E} (h : sp_l_cell C A vs H Q E) : vs.length = 2 := by obtain ⟨_, _, _, h⟩ := h; exact h.len
theorem hs_l_cell {C : GCtx} {A : CA3} : ∀ script k, (l_cell_m script k).nb → SpX C (sp_l_cell C A) [.val (dSq (d := dInt)) script, .val dInt k] (fun c => ∃ r, c = .val dInt r ∧ (l_cell_m script k) = .ok r) (fun x => ∃ px, (l_cell_m script k) = .exc px ∧ x = px.x A.tx) := fun script k nb vs H Q E h => ⟨script, k, nb, h⟩
def sp_l_draws (C : GCtx) (A : CA3) : Sp := fun vs H Q E => ∃ cell_here : Int, ∃ many : Int, (l_draws_m cell_here many).nb ∧ FnX C [.val dInt cell_here, .val dInt many] (fun c => ∃ r, c = .own (dList (d := dInt)) (oList (d := dInt)) none r ∧ (l_draws_m cell_here many) = .ok r) (fun x => ∃ px, (l_draws_m cell_here many) = .exc px ∧ x = px.x A.tx) vs H Q E
theorem sp_l_draws_len {C : GCtx} {A : CA3} {vs H Q E} (h : sp_l_draws C A vs H Q E) : vs.length = 2 := by obtain ⟨_, _, _, h⟩ := h; exact h.len
theorem hs_l_draws {C : GCtx} {A : CA3} : ∀ cell_here many, (l_draws_m cell_here many).nb → SpX C (sp_l_draws C A) [.val dInt cell_here, .val dInt many] (fun c => ∃ r, c = .own (dList (d := dInt)) (oList (d := dInt)) none r ∧ (l_draws_m cell_here many) = .ok r) (fun x => ∃ px, (l_draws_m cell_here many) = .exc px ∧ x = px.x A.tx) := fun cell_here many nb vs H Q E h => ⟨cell_here, many, nb, h⟩
def sp_l_pick (C : GCtx) (A : CA3) : Sp := fun vs H Q E => ∃ draws_here : (List Int), ∃ k : Int, ∃ many : Int, (l_pick_m draws_here k many).nb ∧ FnX C [.val (dList (d := dInt)) draws_here, .val dInt k, .val dInt many] (fun c => ∃ r, c = .val dInt r ∧ (l_pick_m draws_here k many) = .ok r) (fun x => ∃ px, (l_pick_m draws_here k many) = .exc px ∧ x = px.x A.tx) vs H Q E
theorem sp_l_pick_len {C : GCtx} {A : CA3} {vs H Q E} (h : sp_l_pick C A vs H Q E) : vs.length = 3 := by obtain ⟨_, _, _, _, h⟩ := h; exact h.len
theorem hs_l_pick {C : GCtx} {A : CA3} : ∀ draws_here k many, (l_pick_m draws_here k many).nb → SpX C (sp_l_pick C A) [.val (dList (d := dInt)) draws_here, .val dInt k, .val dInt many] (fun c => ∃ r, c = .val dInt r ∧ (l_pick_m draws_here k many) = .ok r) (fun x => ∃ px, (l_pick_m draws_here k many) = .exc px ∧ x = px.x A.tx) := fun draws_here k many nb vs H Q E h => ⟨draws_here, k, many, nb, h⟩
def sp_l_name (C : GCtx) (A : CA3) : Sp := fun vs H Q E => ∃ draws_here : (List Int), ∃ at_ : Int, (l_name_m draws_here at_).nb ∧ FnX C [.val (dList (d := dInt)) draws_here, .val dInt at_] (fun c => ∃ r, c = .val dStr r ∧ (l_name_m draws_here at_) = .ok r) (fun x => ∃ px, (l_name_m draws_here at_) = .exc px ∧ x = px.x A.tx) vs H Q E
theorem sp_l_name_len {C : GCtx} {A : CA3} {vs H Q E} (h : sp_l_name C A vs H Q E) : vs.length = 2 := by obtain ⟨_, _, _, h⟩ := h; exact h.len
theorem hs_l_name {C : GCtx} {A : CA3} : ∀ draws_here at_, (l_name_m draws_here at_).nb → SpX C (sp_l_name C A) [.val (dList (d := dInt)) draws_here, .val dInt at_] (fun c => ∃ r, c = .val dStr r ∧ (l_name_m draws_here at_) = .ok r) (fun x => ∃ px, (l_name_m draws_here at_) = .exc px ∧ x = px.x A.tx) := fun draws_here at_ nb vs H Q E h => ⟨draws_here, at_, nb, h⟩
def sp_l_names (C : GCtx) (A : CA3) : Sp := fun vs H Q E => ∃ draws_here : (List Int), ∃ extra : (List Int), ∃ many : Int, (l_names_m draws_here extra many).nb ∧ FnX C [.val (dList (d := dInt)) draws_here, .val (dList (d := dInt)) extra, .val dInt many] (fun c => ∃ r, c = .own (dList (d := dStr)) (oList (d := dStr)) none r ∧ (l_names_m draws_here extra many) = .ok r) (fun x => ∃ px, (l_names_m draws_here extra many) = .exc px ∧ x = px.x A.tx) vs H Q E
theorem sp_l_names_len {C : GCtx} {A : CA3} {vs H Q E} (h : sp_l_names C A vs H Q E) : vs.length = 3 := by obtain ⟨_, _, _, _, h⟩ := h; exact h.len
theorem hs_l_names {C : GCtx} {A : CA3} : ∀ draws_here extra many, (l_names_m draws_here extra many).nb → SpX C (sp_l_names C A) [.val (dList (d := dInt)) draws_here, .val (dList (d := dInt)) extra, .val dInt many] (fun c => ∃ r, c = .own (dList (d := dStr)) (oList (d := dStr)) none r ∧ (l_names_m draws_here extra many) = .ok r) (fun x => ∃ px, (l_names_m draws_here extra many) = .exc px ∧ x = px.x A.tx) := fun draws_here extra many nb vs H Q E h => ⟨draws_here, extra, many, nb, h⟩
def sp_l_shape (C : GCtx) (A : CA3) : Sp := fun vs H Q E => ∃ draws_here : (List Int), ∃ at_ : Int, ∃ letters_here : (List PyData), (l_shape_m draws_here at_ letters_here).nb ∧ FnX C [.val (dList (d := dInt)) draws_here, .val dInt at_, .val (dList (d := dUI)) letters_here] (fun c => ∃ r, c = .val dUI r ∧ (l_shape_m draws_here at_ letters_here) = .ok r) (fun x => ∃ px, (l_shape_m draws_here at_ letters_here) = .exc px ∧ x = px.x A.tx) vs H Q E
theorem sp_l_shape_len {C : GCtx} {A : CA3} {vs H Q E} (h : sp_l_shape C A vs H Q E) : vs.length = 3 := by obtain ⟨_, _, _, _, h⟩ := h; exact h.len
theorem hs_l_shape {C : GCtx} {A : CA3} : ∀ draws_here at_ letters_here, (l_shape_m draws_here at_ letters_here).nb → SpX C (sp_l_shape C A) [.val (dList (d := dInt)) draws_here, .val dInt at_, .val (dList (d := dUI)) letters_here] (fun c => ∃ r, c = .val dUI r ∧ (l_shape_m draws_here at_ letters_here) = .ok r) (fun x => ∃ px, (l_shape_m draws_here at_ letters_here) = .exc px ∧ x = px.x A.tx) := fun draws_here at_ letters_here nb vs H Q E h => ⟨draws_here, at_, letters_here, nb, h⟩
def sp_l_write (n : Nat) (C : GCtx) (A : CA3) : Sp := fun vs H Q E => ∃ shape_here : PyData, (l_write_m n shape_here).nb ∧ FnX C [.val dUI shape_here] (fun c => ∃ r, c = .val dStr r ∧ (l_write_m n shape_here) = .ok r) (fun x => ∃ px, (l_write_m n shape_here) = .exc px ∧ x = px.x A.tx) vs H Q E
theorem sp_l_write_len {n : Nat} {C : GCtx} {A : CA3} {vs H Q E} (h : sp_l_write n C A vs H Q E) : vs.length = 1 := by obtain ⟨_, _, h⟩ := h; exact h.len
theorem hs_l_write {n : Nat} {C : GCtx} {A : CA3} : ∀ shape_here, (l_write_m n shape_here).nb → SpX C (sp_l_write n C A) [.val dUI shape_here] (fun c => ∃ r, c = .val dStr r ∧ (l_write_m n shape_here) = .ok r) (fun x => ∃ px, (l_write_m n shape_here) = .exc px ∧ x = px.x A.tx) := fun shape_here nb vs H Q E h => ⟨shape_here, nb, h⟩
def sp_p_letters_in (C : GCtx) (A : CA3) : Sp := fun vs H Q E => ∃ shape : PyData, (p_letters_in_m shape).nb ∧ FnX C [.val dUI shape] (fun c => ∃ r, c = .own (dList (d := (dPair (d1 := dStr) (d2 := dBool)))) (oList (d := (dPair (d1 := dStr) (d2 := dBool)))) none r ∧ (p_letters_in_m shape) = .ok r) (fun x => ∃ px, (p_letters_in_m shape) = .exc px ∧ x = px.x A.tx) vs H Q E
theorem sp_p_letters_in_len {C : GCtx} {A : CA3} {vs H Q E} (h : sp_p_letters_in C A vs H Q E) : vs.length = 1 := by obtain ⟨_, _, h⟩ := h; exact h.len
theorem hs_p_letters_in {C : GCtx} {A : CA3} : ∀ shape, (p_letters_in_m shape).nb → SpX C (sp_p_letters_in C A) [.val dUI shape] (fun c => ∃ r, c = .own (dList (d := (dPair (d1 := dStr) (d2 := dBool)))) (oList (d := (dPair (d1 := dStr) (d2 := dBool)))) none r ∧ (p_letters_in_m shape) = .ok r) (fun x => ∃ px, (p_letters_in_m shape) = .exc px ∧ x = px.x A.tx) := fun shape nb vs H Q E h => ⟨shape, nb, h⟩
def sp_p_is_name (C : GCtx) (A : CA3) : Sp := fun vs H Q E => ∃ name : PySem.Str, (p_is_name_m name).nb ∧ FnX C [.val dStr name] (fun c => ∃ r, c = .val dBool r ∧ (p_is_name_m name) = .ok r) (fun x => ∃ px, (p_is_name_m name) = .exc px ∧ x = px.x A.tx) vs H Q E
theorem sp_p_is_name_len {C : GCtx} {A : CA3} {vs H Q E} (h : sp_p_is_name C A vs H Q E) : vs.length = 1 := by obtain ⟨_, _, h⟩ := h; exact h.len
theorem hs_p_is_name {C : GCtx} {A : CA3} : ∀ name, (p_is_name_m name).nb → SpX C (sp_p_is_name C A) [.val dStr name] (fun c => ∃ r, c = .val dBool r ∧ (p_is_name_m name) = .ok r) (fun x => ∃ px, (p_is_name_m name) = .exc px ∧ x = px.x A.tx) := fun name nb vs H Q E h => ⟨name, nb, h⟩
def sp_m_KindX_initX (C : GCtx) (A : CA3) : Sp := fun vs H Q E => ∃ shape : PyData, (m_KindX_initX_m shape).nb ∧ FnI C (oKind A) (A.ob .Kind) [.val dUI shape] (fun r => (m_KindX_initX_m shape) = .ok r) (fun x => ∃ px, (m_KindX_initX_m shape) = .exc px ∧ x = px.x A.tx) vs H Q E
theorem sp_m_KindX_initX_len {C : GCtx} {A : CA3} {vs H Q E} (h : sp_m_KindX_initX C A vs H Q E) : vs.length = 2 := by obtain ⟨_, _, h⟩ := h; exact h.len
theorem hs_m_KindX_initX {C : GCtx} {A : CA3} : ∀ shape, (m_KindX_initX_m shape).nb → SpI C (sp_m_KindX_initX C A) (oKind A) (A.ob .Kind) [.val dUI shape] (fun r => (m_KindX_initX_m shape) = .ok r) (fun x => ∃ px, (m_KindX_initX_m shape) = .exc px ∧ x = px.x A.tx) := fun shape nb vs H Q E h => ⟨shape, nb, h⟩
def sp_p_written_shape (n : Nat) (C : GCtx) (A : CA3) : Sp := fun vs H Q E => ∃ shape : PyData, (p_written_shape_m n shape).nb ∧ FnX C [.val dUI shape] (fun c => ∃ r, c = .val dStr r ∧ (p_written_shape_m n shape) = .ok r) (fun x => ∃ px, (p_written_shape_m n shape) = .exc px ∧ x = px.x A.tx) vs H Q E
theorem sp_p_written_shape_len {n : Nat} {C : GCtx} {A : CA3} {vs H Q E} (h : sp_p_written_shape n C A vs H Q E) : vs.length = 1 := by obtain ⟨_, _, h⟩ := h; exact h.len
theorem hs_p_written_shape {n : Nat} {C : GCtx} {A : CA3} : ∀ shape, (p_written_shape_m n shape).nb → SpX C (sp_p_written_shape n C A) [.val dUI shape] (fun c => ∃ r, c = .val dStr r ∧ (p_written_shape_m n shape) = .ok r) (fun x => ∃ px, (p_written_shape_m n shape) = .exc px ∧ x = px.x A.tx) := fun shape nb vs H Q E h => ⟨shape, nb, h⟩
def sp_p_format_kind (C : GCtx) (A : CA3) : Sp := fun vs H Q E => ∃ kind : KindM, (p_format_kind_m kind).nb ∧ FnX C [.val (dKind A) kind] (fun c => ∃ r, c = .val dStr r ∧ (p_format_kind_m kind) = .ok r) (fun x => ∃ px, (p_format_kind_m kind) = .exc px ∧ x = px.x A.tx) vs H Q E
theorem sp_p_format_kind_len {C : GCtx} {A : CA3} {vs H Q E} (h : sp_p_format_kind C A vs H Q E) : vs.length = 1 := by obtain ⟨_, _, h⟩ := h; exact h.len
theorem hs_p_format_kind {C : GCtx} {A : CA3} : ∀ kind, (p_format_kind_m kind).nb → SpX C (sp_p_format_kind C A) [.val (dKind A) kind] (fun c => ∃ r, c = .val dStr r ∧ (p_format_kind_m kind) = .ok r) (fun x => ∃ px, (p_format_kind_m kind) = .exc px ∧ x = px.x A.tx) := fun kind nb vs H Q E h => ⟨kind, nb, h⟩
def sp_p_expect (C : GCtx) (A : CA3) : Sp := fun vs H Q E => ∃ text : PySem.Str, ∃ at_ : Int, ∃ char : PySem.Str, (p_expect_m text at_ char).nb ∧ FnX C [.val dStr text, .val dInt at_, .val dStr char] (fun c => ∃ r, c = .val dInt r ∧ (p_expect_m text at_ char) = .ok r) (fun x => ∃ px, (p_expect_m text at_ char) = .exc px ∧ x = px.x A.tx) vs H Q E
theorem sp_p_expect_len {C : GCtx} {A : CA3} {vs H Q E} (h : sp_p_expect C A vs H Q E) : vs.length = 3 := by obtain ⟨_, _, _, _, h⟩ := h; exact h.len
theorem hs_p_expect {C : GCtx} {A : CA3} : ∀ text at_ char, (p_expect_m text at_ char).nb → SpX C (sp_p_expect C A) [.val dStr text, .val dInt at_, .val dStr char] (fun c => ∃ r, c = .val dInt r ∧ (p_expect_m text at_ char) = .ok r) (fun x => ∃ px, (p_expect_m text at_ char) = .exc px ∧ x = px.x A.tx) := fun text at_ char nb vs H Q E h => ⟨text, at_, char, nb, h⟩
def sp_p_name_end (C : GCtx) (A : CA3) : Sp := fun vs H Q E => ∃ text : PySem.Str, ∃ at_ : Int, (p_name_end_m text at_).nb ∧ FnX C [.val dStr text, .val dInt at_] (fun c => ∃ r, c = .val dInt r ∧ (p_name_end_m text at_) = .ok r) (fun x => ∃ px, (p_name_end_m text at_) = .exc px ∧ x = px.x A.tx) vs H Q E
theorem sp_p_name_end_len {C : GCtx} {A : CA3} {vs H Q E} (h : sp_p_name_end C A vs H Q E) : vs.length = 2 := by obtain ⟨_, _, _, h⟩ := h; exact h.len
theorem hs_p_name_end {C : GCtx} {A : CA3} : ∀ text at_, (p_name_end_m text at_).nb → SpX C (sp_p_name_end C A) [.val dStr text, .val dInt at_] (fun c => ∃ r, c = .val dInt r ∧ (p_name_end_m text at_) = .ok r) (fun x => ∃ px, (p_name_end_m text at_) = .exc px ∧ x = px.x A.tx) := fun text at_ nb vs H Q E h => ⟨text, at_, nb, h⟩
def sp_p_read_shape (n : Nat) (C : GCtx) (A : CA3) : Sp := fun vs H Q E => ∃ text : PySem.Str, ∃ at_ : Int, (p_read_shape_m n text at_).nb ∧ FnX C [.val dStr text, .val dInt at_] (fun c => ∃ r, c = .val (dPair (d1 := dUI) (d2 := dInt)) r ∧ (p_read_shape_m n text at_) = .ok r) (fun x => ∃ px, (p_read_shape_m n text at_) = .exc px ∧ x = px.x A.tx) vs H Q E
theorem sp_p_read_shape_len {n : Nat} {C : GCtx} {A : CA3} {vs H Q E} (h : sp_p_read_shape n C A vs H Q E) : vs.length = 2 := by obtain ⟨_, _, _, h⟩ := h; exact h.len
theorem hs_p_read_shape {n : Nat} {C : GCtx} {A : CA3} : ∀ text at_, (p_read_shape_m n text at_).nb → SpX C (sp_p_read_shape n C A) [.val dStr text, .val dInt at_] (fun c => ∃ r, c = .val (dPair (d1 := dUI) (d2 := dInt)) r ∧ (p_read_shape_m n text at_) = .ok r) (fun x => ∃ px, (p_read_shape_m n text at_) = .exc px ∧ x = px.x A.tx) := fun text at_ nb vs H Q E h => ⟨text, at_, nb, h⟩
def sp_p_parse_kind (C : GCtx) (A : CA3) : Sp := fun vs H Q E => ∃ text : PySem.Str, (p_parse_kind_m text).nb ∧ FnX C [.val dStr text] (fun c => ∃ r, c = .own (dKind A) (oKind A) none r ∧ (p_parse_kind_m text) = .ok r) (fun x => ∃ px, (p_parse_kind_m text) = .exc px ∧ x = px.x A.tx) vs H Q E
theorem sp_p_parse_kind_len {C : GCtx} {A : CA3} {vs H Q E} (h : sp_p_parse_kind C A vs H Q E) : vs.length = 1 := by obtain ⟨_, _, h⟩ := h; exact h.len
theorem hs_p_parse_kind {C : GCtx} {A : CA3} : ∀ text, (p_parse_kind_m text).nb → SpX C (sp_p_parse_kind C A) [.val dStr text] (fun c => ∃ r, c = .own (dKind A) (oKind A) none r ∧ (p_parse_kind_m text) = .ok r) (fun x => ∃ px, (p_parse_kind_m text) = .exc px ∧ x = px.x A.tx) := fun text nb vs H Q E h => ⟨text, nb, h⟩
def sp_l_told (C : GCtx) (A : CA3) : Sp := fun vs H Q E => ∃ text : PySem.Str, (l_told_m text).nb ∧ FnX C [.val dStr text] (fun c => ∃ r, c = .val dUI r ∧ (l_told_m text) = .ok r) (fun x => ∃ px, (l_told_m text) = .exc px ∧ x = px.x A.tx) vs H Q E
theorem sp_l_told_len {C : GCtx} {A : CA3} {vs H Q E} (h : sp_l_told C A vs H Q E) : vs.length = 1 := by obtain ⟨_, _, h⟩ := h; exact h.len
theorem hs_l_told {C : GCtx} {A : CA3} : ∀ text, (l_told_m text).nb → SpX C (sp_l_told C A) [.val dStr text] (fun c => ∃ r, c = .val dUI r ∧ (l_told_m text) = .ok r) (fun x => ∃ px, (l_told_m text) = .exc px ∧ x = px.x A.tx) := fun text nb vs H Q E h => ⟨text, nb, h⟩
def sp_l_spoilt (C : GCtx) (A : CA3) : Sp := fun vs H Q E => ∃ extra : (List Int), ∃ at_ : Int, ∃ text : PySem.Str, (l_spoilt_m extra at_ text).nb ∧ FnX C [.val (dList (d := dInt)) extra, .val dInt at_, .val dStr text] (fun c => ∃ r, c = .val dStr r ∧ (l_spoilt_m extra at_ text) = .ok r) (fun x => ∃ px, (l_spoilt_m extra at_ text) = .exc px ∧ x = px.x A.tx) vs H Q E
theorem sp_l_spoilt_len {C : GCtx} {A : CA3} {vs H Q E} (h : sp_l_spoilt C A vs H Q E) : vs.length = 3 := by obtain ⟨_, _, _, _, h⟩ := h; exact h.len
theorem hs_l_spoilt {C : GCtx} {A : CA3} : ∀ extra at_ text, (l_spoilt_m extra at_ text).nb → SpX C (sp_l_spoilt C A) [.val (dList (d := dInt)) extra, .val dInt at_, .val dStr text] (fun c => ∃ r, c = .val dStr r ∧ (l_spoilt_m extra at_ text) = .ok r) (fun x => ∃ px, (l_spoilt_m extra at_ text) = .exc px ∧ x = px.x A.tx) := fun extra at_ text nb vs H Q E h => ⟨extra, at_, text, nb, h⟩
def sp_l_is_letter (C : GCtx) (A : CA3) : Sp := fun vs H Q E => ∃ sign : PySem.Str, (l_is_letter_m sign).nb ∧ FnX C [.val dStr sign] (fun c => ∃ r, c = .val dBool r ∧ (l_is_letter_m sign) = .ok r) (fun x => ∃ px, (l_is_letter_m sign) = .exc px ∧ x = px.x A.tx) vs H Q E
theorem sp_l_is_letter_len {C : GCtx} {A : CA3} {vs H Q E} (h : sp_l_is_letter C A vs H Q E) : vs.length = 1 := by obtain ⟨_, _, h⟩ := h; exact h.len
theorem hs_l_is_letter {C : GCtx} {A : CA3} : ∀ sign, (l_is_letter_m sign).nb → SpX C (sp_l_is_letter C A) [.val dStr sign] (fun c => ∃ r, c = .val dBool r ∧ (l_is_letter_m sign) = .ok r) (fun x => ∃ px, (l_is_letter_m sign) = .exc px ∧ x = px.x A.tx) := fun sign nb vs H Q E h => ⟨sign, nb, h⟩
def sp_l_next (C : GCtx) (A : CA3) : Sp := fun vs H Q E => ∃ state : PySem.Str, ∃ sign : PySem.Str, ∃ stack : (List Int), (∃ y, (l_next_m state sign stack) = .ok y) ∧ FnM C dStr [.val dStr state, .val dStr sign, .own (dList (d := dInt)) (oList (d := dInt)) none stack] [2] (fun r Γm => ∃ x', (l_next_m state sign stack) = .ok (r, x') ∧ Γm = [.own (dList (d := dInt)) (oList (d := dInt)) none x']) vs H Q E
theorem sp_l_next_len {C : GCtx} {A : CA3} {vs H Q E} (h : sp_l_next C A vs H Q E) : vs.length = 3 := by obtain ⟨_, _, _, _, h⟩ := h; exact h.len
theorem hs_l_next {C : GCtx} {A : CA3} {state sign stack} (hy : ∃ y, (l_next_m state sign stack) = .ok y) : SpM C (sp_l_next C A) dStr [.val dStr state, .val dStr sign, .own (dList (d := dInt)) (oList (d := dInt)) none stack] [2] (fun r Γm => ∃ x', (l_next_m state sign stack) = .ok (r, x') ∧ Γm = [.own (dList (d := dInt)) (oList (d := dInt)) none x']) := fun vs H Q E h => ⟨state, sign, stack, hy, h⟩
def sp_l_bad_sign (C : GCtx) (A : CA3) : Sp := fun vs H Q E => ∃ text : PySem.Str, (l_bad_sign_m text).nb ∧ FnX C [.val dStr text] (fun c => ∃ r, c = .val (dOpt (d := dInt)) r ∧ (l_bad_sign_m text) = .ok r) (fun x => ∃ px, (l_bad_sign_m text) = .exc px ∧ x = px.x A.tx) vs H Q E
theorem sp_l_bad_sign_len {C : GCtx} {A : CA3} {vs H Q E} (h : sp_l_bad_sign C A vs H Q E) : vs.length = 1 := by obtain ⟨_, _, h⟩ := h; exact h.len
theorem hs_l_bad_sign {C : GCtx} {A : CA3} : ∀ text, (l_bad_sign_m text).nb → SpX C (sp_l_bad_sign C A) [.val dStr text] (fun c => ∃ r, c = .val (dOpt (d := dInt)) r ∧ (l_bad_sign_m text) = .ok r) (fun x => ∃ px, (l_bad_sign_m text) = .exc px ∧ x = px.x A.tx) := fun text nb vs H Q E h => ⟨text, nb, h⟩
def sp_l_read (n : Nat) (C : GCtx) (A : CA3) : Sp := fun vs H Q E => ∃ text : PySem.Str, ∃ at_ : Int, (l_read_m n text at_).nb ∧ FnX C [.val dStr text, .val dInt at_] (fun c => ∃ r, c = .own (dLP (d1 := dUI) (d2 := dInt)) (oLP (d1 := dUI) (d2 := dInt)) none r ∧ (l_read_m n text at_) = .ok r) (fun x => ∃ px, (l_read_m n text at_) = .exc px ∧ x = px.x A.tx) vs H Q E
theorem sp_l_read_len {n : Nat} {C : GCtx} {A : CA3} {vs H Q E} (h : sp_l_read n C A vs H Q E) : vs.length = 2 := by obtain ⟨_, _, _, h⟩ := h; exact h.len
theorem hs_l_read {n : Nat} {C : GCtx} {A : CA3} : ∀ text at_, (l_read_m n text at_).nb → SpX C (sp_l_read n C A) [.val dStr text, .val dInt at_] (fun c => ∃ r, c = .own (dLP (d1 := dUI) (d2 := dInt)) (oLP (d1 := dUI) (d2 := dInt)) none r ∧ (l_read_m n text at_) = .ok r) (fun x => ∃ px, (l_read_m n text at_) = .exc px ∧ x = px.x A.tx) := fun text at_ nb vs H Q E h => ⟨text, at_, nb, h⟩
def sp_l_letters (n : Nat) (C : GCtx) (A : CA3) : Sp := fun vs H Q E => ∃ shape_here : PyData, (l_letters_m n shape_here).nb ∧ FnX C [.val dUI shape_here] (fun c => ∃ r, c = .own (dList (d := (dPair (d1 := dStr) (d2 := dBool)))) (oList (d := (dPair (d1 := dStr) (d2 := dBool)))) none r ∧ (l_letters_m n shape_here) = .ok r) (fun x => ∃ px, (l_letters_m n shape_here) = .exc px ∧ x = px.x A.tx) vs H Q E
theorem sp_l_letters_len {n : Nat} {C : GCtx} {A : CA3} {vs H Q E} (h : sp_l_letters n C A vs H Q E) : vs.length = 1 := by obtain ⟨_, _, h⟩ := h; exact h.len
theorem hs_l_letters {n : Nat} {C : GCtx} {A : CA3} : ∀ shape_here, (l_letters_m n shape_here).nb → SpX C (sp_l_letters n C A) [.val dUI shape_here] (fun c => ∃ r, c = .own (dList (d := (dPair (d1 := dStr) (d2 := dBool)))) (oList (d := (dPair (d1 := dStr) (d2 := dBool)))) none r ∧ (l_letters_m n shape_here) = .ok r) (fun x => ∃ px, (l_letters_m n shape_here) = .exc px ∧ x = px.x A.tx) := fun shape_here nb vs H Q E h => ⟨shape_here, nb, h⟩
def sp_l_due (C : GCtx) (A : CA3) : Sp := fun vs H Q E => ∃ text : PySem.Str, (l_due_m text).nb ∧ FnX C [.val dStr text] (fun c => ∃ r, c = .val dUI r ∧ (l_due_m text) = .ok r) (fun x => ∃ px, (l_due_m text) = .exc px ∧ x = px.x A.tx) vs H Q E
theorem sp_l_due_len {C : GCtx} {A : CA3} {vs H Q E} (h : sp_l_due C A vs H Q E) : vs.length = 1 := by obtain ⟨_, _, h⟩ := h; exact h.len
theorem hs_l_due {C : GCtx} {A : CA3} : ∀ text, (l_due_m text).nb → SpX C (sp_l_due C A) [.val dStr text] (fun c => ∃ r, c = .val dUI r ∧ (l_due_m text) = .ok r) (fun x => ∃ px, (l_due_m text) = .exc px ∧ x = px.x A.tx) := fun text nb vs H Q E h => ⟨text, nb, h⟩
def sp_law (C : GCtx) : Sp := fun vs H Q _ => ∃ s : Sq Int, law_m s = .ok true ∧ Fn C [.val (dSq (d := dInt)) s] (fun c => c = .val dBool true) vs H Q
theorem sp_law_len {C : GCtx} {vs H Q E} (h : sp_law C vs H Q E) : vs.length = 1 := by obtain ⟨_, _, h⟩ := h; exact h.len
end K79
end

namespace K79
open PySem L2 G PM
set_option maxHeartbeats 4000000 in
theorem ok_l_cell {P : Program} {w : World} {K : PySem.W.Frag} {mg : Str → Option Value} {base : Heap} (T : Txt K mg w) : FnOk P w K mg base (L2.CX P w) 1 T.a_l_cell T.f_l_cell ["_law_script", "_law_k"] (sp_l_cell ⟨P, w, K⟩ T.A) := by
  have nd := sc_l_cell.nd
  refine T.F_l_cell.okX sc_l_cell (fun vs H Q E h => ?_) (fun cdv A outer s H vs Q E hr h => ?_)
  · exact sp_l_cell_len h
  have hu := hu_of hr
  refine ⟨_, (pss_cons (ps_if (pt_cmpR op_lt (pv 1) (pe_callB (len_K K) (by rfl) T.b_len (by decide +kernel) (pa_cons (pv 0) pa_nil)) (nomark _))
        (pss_one (ps_ret (pe_ix (ix_qK K) (pv 0) (pv 1) (fun _ _ => rfl))))
        pss_nil)
      (pss_one (ps_ret pe_int))), ?_⟩
  try dsimp only [cxOf]
  obtain ⟨script, k, nb, h⟩ := h
  refine Zm.body (js := [0, 1]) (m := l_cell_m script k) nb h ?_
  refine zm_to (Γ2 := [(.val (dSq (d := dInt)) script), (.val dInt k)]) rfl ?_
  delta l_cell_m
  refine zm_ifP (te_eq (te_test (we_lt (re_w (we_var rfl)) (re_w (we_lenQ (re_w (we_var rfl)))))) rfl) ?_ ?_
  · exact zm_ret (we_eq (we_ixQ (we_var rfl) (re_w (we_var rfl))) rfl)
  · refine zm_skip ?_
    refine zm_last ?_
    exact zm_ret (we_eq we_int rfl)
end K79

namespace K79
open PySem L2 G PM
set_option maxHeartbeats 4000000 in
theorem ok_l_draws {P : Program} {w : World} {K : PySem.W.Frag} {mg : Str → Option Value} {base : Heap} (T : Txt K mg w) : FnOk P w K mg base (L2.CX P w) 1 T.a_l_draws T.f_l_draws ["_law_cell_here", "_law_many"] (sp_l_draws ⟨P, w, K⟩ T.A) := by
  have nd := sc_l_draws.nd
  refine T.F_l_draws.okX sc_l_draws (fun vs H Q E h => ?_) (fun cdv A outer s H vs Q E hr h => ?_)
  · exact sp_l_draws_len h
  have hu := hu_of hr
  refine ⟨_, (pss_cons (ps_set (i := 2) nd rfl (Or.inl rfl) (pe_callB call_abs (by rfl) T.b_abs (by decide +kernel) (pa_cons (pe_callTy call_int1 (by rfl) T.b_int (by decide +kernel) (pa_cons (pv 0) pa_nil)) pa_nil)))
      (pss_cons (ps_set (i := 3) nd rfl (Or.inl rfl) (pe_cmpR op_ge (pv 2) (pe_op op_pow pe_int pe_int) (nomark _)))
      (pss_cons (ps_set (i := 4) nd rfl (Or.inl rfl) (pe_op op_add (pe_op op_mod (pe_callTy call_int1 (by rfl) T.b_int (by decide +kernel) (pa_cons (pv 2) pa_nil)) pe_int) pe_int))
      (pss_cons (ps_set (i := 5) nd rfl (Or.inl rfl) (pe_lst pa_nil))
      (pss_cons (ps_for (passes_of rfl) rfl (pi_range1 (by rfl) T.b_range (pa_cons (pv 1) pa_nil)) (pg_name (i := 6) nd rfl (Or.inl rfl))
        (pss_cons (ps_set (i := 4) nd rfl (Or.inl rfl) (pe_op op_mod (pe_callTy call_int1 (by rfl) T.b_int (by decide +kernel) (pa_cons (pe_op op_add (pe_op op_add (pe_op op_mul (pv 4) pe_int) (pe_op op_mul pe_int (pv 6))) pe_int) pa_nil)) pe_int))
      (pss_one (ps_if (PW.pt (pw_and (pt_val (pv 3)) (pw_and1 (pt_cmpR op_gt (pv 2) pe_int (nomark _)))))
        (pss_cons (ps_expr (bm_K K PySem.F.plainAttrs_list PySem.F.slot_list_append PySem.F.type_list_append mt_append (pv 5) (pa_cons (pe_op op_mod (pe_callTy call_int1 (by rfl) T.b_int (by decide +kernel) (pa_cons (pv 2) pa_nil)) pe_int) pa_nil)))
      (pss_one (ps_set (i := 2) nd rfl (Or.inl rfl) (pe_op op_fdiv (pv 2) pe_int))))
        (pss_one (ps_expr (bm_K K PySem.F.plainAttrs_list PySem.F.slot_list_append PySem.F.type_list_append mt_append (pv 5) (pa_cons (pe_op op_mod (pe_op op_fdiv (pv 4) pe_int) pe_int) pa_nil))))))))
      (pss_one (ps_ret (pv 5)))))))), ?_⟩
  try dsimp only [cxOf]
  obtain ⟨cell_here, many, nb, h⟩ := h
  refine Zm.body (js := [0, 1, 2, 3, 4, 5, 6]) (m := l_draws_m cell_here many) nb h ?_
  refine zm_to (Γ2 := [(.val dInt cell_here), (.val dInt many), .no, .no, .no, .no, .no]) rfl ?_
  delta l_draws_m
  refine zm_set (i := 2) rfl (by decide) (we_eq (we_abs (re_w (we_int1 (re_w (we_var rfl))))) rfl) fun rest_1 => ?_
  refine zm_set (i := 3) rfl (by decide) (we_eq (we_ge (re_w (we_var rfl)) (re_w (we_powC (c := 1000000000000000000) (re_w we_int) (re_w we_int) (by decide)))) rfl) fun exact_2 => ?_
  refine zm_set (i := 4) rfl (by decide) (we_eq (we_add (re_w (we_modC (re_w (we_int1 (re_w (we_var rfl)))) (re_w we_int))) (re_w we_int)) rfl) fun mixed_3 => ?_
  refine zm_setO (i := 5) rfl (by decide) (oe_eq (oe_lst0 (d := dInt)) rfl) fun draws_here_4 => ?_
  refine zm_for [6] (fun s5 => [(.val dInt cell_here), (.val dInt many), (.val dInt s5.1), (.val dBool exact_2), (.val dInt s5.2.1), (.own (dList (d := dInt)) (oList (d := dInt)) none s5.2.2), .no]) (rest_1, mixed_3, draws_here_4) (wlen 7 (by exact rfl) (by exact rfl) (by decide)) rfl (fun _ => (wlen 7 (by exact rfl) (by exact rfl) (by decide))) (ie_eq (ie_range (re_w (we_var rfl))) rfl) (fun s5 x6 => (a_name rfl ⟨(wlen 7 (by exact rfl) (by exact rfl) (by decide)), ?_⟩)) fun s11 => ?_
  · refine zm_set (i := 4) rfl (by decide) (we_eq (we_modC (re_w (we_int1 (re_w (we_add (re_w (we_add (re_w (we_mulCr (re_w (we_var rfl)) (re_w we_int))) (re_w (we_mulCl (re_w we_int) (re_w (we_var rfl)))))) (re_w we_int))))) (re_w we_int)) rfl) fun mixed_7 => ?_
    refine zm_last ?_
    refine zm_ifP (te_eq (te_andP (te_B (we_var rfl)) (te_test (we_gt (re_w (we_var rfl)) (re_w we_int)))) rfl) ?_ ?_
    · refine zm_assoc ?_
      refine zm_append (i := 5) rfl (by decide) (we_eq (we_modC (re_w (we_int1 (re_w (we_var rfl)))) (re_w we_int)) rfl) fun draws_here_8 => ?_
      refine zm_set (i := 2) rfl (by decide) (we_eq (we_fdivC (re_w (we_var rfl)) (re_w we_int)) rfl) fun rest_9 => ?_
      exact zm_nextL rfl
    · refine zm_append (i := 5) rfl (by decide) (we_eq (we_modC (re_w (we_fdivC (re_w (we_var rfl)) (re_w we_int))) (re_w we_int)) rfl) fun draws_here_10 => ?_
      exact zm_nextL rfl
  · refine zm_last ?_
    exact zm_retV rfl
end K79

namespace K79
open PySem L2 G PM
set_option maxHeartbeats 4000000 in
theorem ok_l_pick {P : Program} {w : World} {K : PySem.W.Frag} {mg : Str → Option Value} {base : Heap} (T : Txt K mg w) : FnOk P w K mg base (L2.CX P w) 1 T.a_l_pick T.f_l_pick ["_law_draws_here", "_law_k", "_law_many"] (sp_l_pick ⟨P, w, K⟩ T.A) := by
  have nd := sc_l_pick.nd
  refine T.F_l_pick.okX sc_l_pick (fun vs H Q E h => ?_) (fun cdv A outer s H vs Q E hr h => ?_)
  · exact sp_l_pick_len h
  have hu := hu_of hr
  refine ⟨_, (pss_cons (ps_if (PW.pt (pw_or (pt_cmpR op_lt (pv 2) pe_int (nomark _)) (pw_or1 (pt_cmpR op_eq (pe_callB (len_K K) (by rfl) T.b_len (by decide +kernel) (pa_cons (pv 0) pa_nil)) pe_int (nomark _)))))
        (pss_one (ps_ret pe_int))
        pss_nil)
      (pss_one (ps_ret (pe_op op_mod (pe_callTy call_int1 (by rfl) T.b_int (by decide +kernel) (pa_cons (pe_ix (ix_lK K) (pv 0) (pe_op op_mod (pe_callTy call_int1 (by rfl) T.b_int (by decide +kernel) (pa_cons (pv 1) pa_nil)) (pe_callB (len_K K) (by rfl) T.b_len (by decide +kernel) (pa_cons (pv 0) pa_nil))) (fun _ _ => rfl)) pa_nil)) (pv 2))))), ?_⟩
  try dsimp only [cxOf]
  obtain ⟨draws_here, k, many, nb, h⟩ := h
  refine Zm.body (js := [0, 1, 2]) (m := l_pick_m draws_here k many) nb h ?_
  refine zm_to (Γ2 := [(.val (dList (d := dInt)) draws_here), (.val dInt k), (.val dInt many)]) rfl ?_
  delta l_pick_m
  refine zm_ifP (te_eq (te_orP (te_test (we_lt (re_w (we_var rfl)) (re_w we_int))) (te_test (we_eqS (re_w (we_len (re_w (we_var rfl)))) (re_w we_int)))) rfl) ?_ ?_
  · exact zm_ret (we_eq we_int rfl)
  · refine zm_skip ?_
    refine zm_last ?_
    exact zm_ret (we_eq (we_mod (re_w (we_int1 (re_w (we_ix (we_var rfl) (re_w (we_mod (re_w (we_int1 (re_w (we_var rfl)))) (re_w (we_len (re_w (we_var rfl)))))))))) (re_w (we_var rfl))) rfl)
end K79

namespace K79
open PySem L2 G PM
set_option maxHeartbeats 4000000 in
theorem ok_l_name {P : Program} {w : World} {K : PySem.W.Frag} {mg : Str → Option Value} {base : Heap} (T : Txt K mg w) (G_l_pick : FnOk P w K mg base (L2.CX P w) 1 T.a_l_pick T.f_l_pick ["_law_draws_here", "_law_k", "_law_many"] (sp_l_pick ⟨P, w, K⟩ T.A)) : FnOk P w K mg base (L2.CX P w) 2 T.a_l_name T.f_l_name ["_law_draws_here", "_law_at"] (sp_l_name ⟨P, w, K⟩ T.A) := by
  have nd := sc_l_name.nd
  refine T.F_l_name.okX sc_l_name (fun vs H Q E h => ?_) (fun cdv A outer s H vs Q E hr h => ?_)
  · exact sp_l_name_len h
  have hu := hu_of hr
  refine ⟨_, (pss_cons (ps_set (i := 2) nd rfl (Or.inl rfl) pe_str)
      (pss_cons (ps_for (passes_of rfl) rfl (pi_range1 (by rfl) T.b_range (pa_cons (pe_op op_add pe_int (pe_callS G_l_pick (hr.mono (by decide)) (by rfl) T.g_l_pick T.F_l_pick.kp T.d_l_pick (fun σ => passAt (takes_of rfl rfl rfl rfl) σ) (pa_cons (pv 0) (pa_cons (pv 1) (pa_cons pe_int pa_nil))))) pa_nil)) (pg_name (i := 3) nd rfl (Or.inl rfl))
        (pss_one (ps_set (i := 2) nd rfl (Or.inl rfl) (pe_op op_catS (pv 2) (pe_ix ix_str pe_str (pe_callS G_l_pick (hr.mono (by decide)) (by rfl) T.g_l_pick T.F_l_pick.kp T.d_l_pick (fun σ => passAt (takes_of rfl rfl rfl rfl) σ) (pa_cons (pv 0) (pa_cons (pe_op op_add (pe_op op_add (pv 1) pe_int) (pv 3)) (pa_cons pe_int pa_nil)))) (fun _ _ => rfl))))))
      (pss_one (ps_ret (pv 2))))), ?_⟩
  try dsimp only [cxOf]
  obtain ⟨draws_here, at_, nb, h⟩ := h
  refine Zm.body (js := [0, 1, 2, 3]) (m := l_name_m draws_here at_) nb h ?_
  refine zm_to (Γ2 := [(.val (dList (d := dInt)) draws_here), (.val dInt at_), .no, .no]) rfl ?_
  delta l_name_m
  refine zm_set (i := 2) rfl (by decide) (we_eq we_str rfl) fun name_here_1 => ?_
  refine zm_for [3] (fun s2 => [(.val (dList (d := dInt)) draws_here), (.val dInt at_), (.val dStr s2), .no]) name_here_1 (wlen 4 (by exact rfl) (by exact rfl) (by decide)) rfl (fun _ => (wlen 4 (by exact rfl) (by exact rfl) (by decide))) (ie_eq (ie_range (re_w (we_add (re_w we_int) (re_w (we_call3 hs_l_pick rfl (we_var rfl) (we_var rfl) we_int))))) rfl) (fun s2 x5 => (a_name rfl ⟨(wlen 4 (by exact rfl) (by exact rfl) (by decide)), ?_⟩)) fun s9 => ?_
  · refine zm_last ?_
    refine zm_set (i := 2) rfl (by decide) (we_eq (we_catS (we_var rfl) (we_ixS we_str (we_call3 hs_l_pick rfl (we_var rfl) (we_add (re_w (we_add (re_w (we_var rfl)) (re_w we_int))) (re_w (we_var rfl))) we_int))) rfl) fun name_here_8 => ?_
    exact zm_nextL rfl
  · refine zm_last ?_
    exact zm_ret (we_eq (we_var rfl) rfl)
end K79

namespace K79
open PySem L2 G PM
set_option maxHeartbeats 4000000 in
theorem ok_l_names {P : Program} {w : World} {K : PySem.W.Frag} {mg : Str → Option Value} {base : Heap} (T : Txt K mg w) (G_l_name : FnOk P w K mg base (L2.CX P w) 2 T.a_l_name T.f_l_name ["_law_draws_here", "_law_at"] (sp_l_name ⟨P, w, K⟩ T.A)) (G_l_pick : FnOk P w K mg base (L2.CX P w) 1 T.a_l_pick T.f_l_pick ["_law_draws_here", "_law_k", "_law_many"] (sp_l_pick ⟨P, w, K⟩ T.A)) : FnOk P w K mg base (L2.CX P w) 3 T.a_l_names T.f_l_names ["_law_draws_here", "_law_extra", "_law_many"] (sp_l_names ⟨P, w, K⟩ T.A) := by
  have nd := sc_l_names.nd
  refine T.F_l_names.okX sc_l_names (fun vs H Q E h => ?_) (fun cdv A outer s H vs Q E hr h => ?_)
  · exact sp_l_names_len h
  have hu := hu_of hr
  refine ⟨_, (pss_cons (ps_set (i := 3) nd rfl (Or.inl rfl) (pe_callS G_l_name (hr.mono (by decide)) (by rfl) T.g_l_name T.F_l_name.kp T.d_l_name (fun σ => passAt (takes_of rfl rfl rfl rfl) σ) (pa_cons (pv 0) (pa_cons pe_int pa_nil))))
      (pss_cons (ps_if (pt_cmpR op_eq (pe_callS G_l_pick (hr.mono (by decide)) (by rfl) T.g_l_pick T.F_l_pick.kp T.d_l_pick (fun σ => passAt (takes_of rfl rfl rfl rfl) σ) (pa_cons (pv 1) (pa_cons pe_int (pa_cons pe_int pa_nil)))) pe_int (nomark _))
        (pss_one (ps_ret (pe_lc (own := [("_law_k", 4)]) (by rfl) nd (pi_range1 (by rfl) T.b_range (pa_cons (pv 2) pa_nil)) (blkOk_by (own := [("_law_k", 4)]) (N := N_l_names) (sc := defScope s_l_names) (by decide +kernel)) (fun _ _ _ _ _ => (pg_name (i := 4) nd rfl (Or.inl rfl))) (fun _ _ _ _ _ => pts_nil) (fun _ _ _ _ _ => (pe_callS G_l_name (hr.mono (by decide)) (by rfl) T.g_l_name T.F_l_name.kp T.d_l_name (fun σ => passFS σ) (pa_cons (pv 0) (pa_cons (pe_op op_mul pe_int (pv 4)) pa_nil)))))))
        pss_nil)
      (pss_cons (ps_set (i := 5) nd rfl (Or.inl rfl) (pe_callS G_l_pick (hr.mono (by decide)) (by rfl) T.g_l_pick T.F_l_pick.kp T.d_l_pick (fun σ => passAt (takes_of rfl rfl rfl rfl) σ) (pa_cons (pv 1) (pa_cons pe_int (pa_cons (pe_callB call_len_str (by rfl) T.b_len (by decide +kernel) (pa_cons (pv 3) pa_nil)) pa_nil)))))
      (pss_cons (ps_set (i := 6) nd rfl (Or.inl rfl) (pe_lst pa_nil))
      (pss_cons (ps_for (passes_of rfl) rfl (pi_range1 (by rfl) T.b_range (pa_cons (pv 2) pa_nil)) (pg_name (i := 4) nd rfl (Or.inl rfl))
        (pss_cons (ps_set (i := 7) nd rfl (Or.inl rfl) (pe_ix ix_str pe_str (pe_callS G_l_pick (hr.mono (by decide)) (by rfl) T.g_l_pick T.F_l_pick.kp T.d_l_pick (fun σ => passAt (takes_of rfl rfl rfl rfl) σ) (pa_cons (pv 0) (pa_cons (pe_op op_add pe_int (pv 4)) (pa_cons pe_int pa_nil)))) (fun _ _ => rfl)))
      (pss_one (ps_expr (bm_K K PySem.F.plainAttrs_list PySem.F.slot_list_append PySem.F.type_list_append mt_append (pv 6) (pa_cons (pe_op op_catS (pe_op op_catS (pe_slice sl_str (pv 3) po_none (po_some (pv 5))) (pv 7)) (pe_slice sl_str (pv 3) (po_some (pe_op op_add (pv 5) pe_int)) po_none)) pa_nil))))))
      (pss_one (ps_ret (pv 6)))))))), ?_⟩
  try dsimp only [cxOf]
  obtain ⟨draws_here, extra, many, nb, h⟩ := h
  refine Zm.body (js := [0, 1, 2, 3, 4, 5, 6, 7]) (m := l_names_m draws_here extra many) nb h ?_
  refine zm_to (Γ2 := [(.val (dList (d := dInt)) draws_here), (.val (dList (d := dInt)) extra), (.val dInt many), .no, .no, .no, .no, .no]) rfl ?_
  delta l_names_m
  refine zm_set (i := 3) rfl (by decide) (we_eq (we_call2 hs_l_name rfl (we_var rfl) we_int) rfl) fun base_1 => ?_
  refine zm_if (te_eq (te_test (we_eqS (re_w (we_call3 hs_l_pick rfl (we_var rfl) we_int we_int)) (re_w we_int))) rfl) ?_ ?_
  · exact zm_retO (oe_eq (oe_lc (tg_name' (by decide)) (ic_range (re_w (we_var rfl))) fun x3 => (a_name rfl ⟨te_yes, (we_call2 hs_l_name rfl (we_var rfl) (we_mulCl (re_w we_int) (re_w (we_var rfl))))⟩)) rfl)
  · refine zm_skip ?_
    refine zm_set (i := 5) rfl (by decide) (we_eq (we_call3 hs_l_pick rfl (we_var rfl) we_int (we_lenStr (re_w (we_var rfl)))) rfl) fun place_5 => ?_
    refine zm_setO (i := 6) rfl (by decide) (oe_eq (oe_lst0 (d := dStr)) rfl) fun names_here_6 => ?_
    refine zm_for [4, 7] (fun s7 => [(.val (dList (d := dInt)) draws_here), (.val (dList (d := dInt)) extra), (.val dInt many), (.val dStr base_1), .no, (.val dInt place_5), (.own (dList (d := dStr)) (oList (d := dStr)) none s7), .no]) names_here_6 (wlen 8 (by exact rfl) (by exact rfl) (by decide)) rfl (fun _ => (wlen 8 (by exact rfl) (by exact rfl) (by decide))) (ie_eq (ie_range (re_w (we_var rfl))) rfl) (fun s7 x8 => (a_name rfl ⟨(wlen 8 (by exact rfl) (by exact rfl) (by decide)), ?_⟩)) fun s15 => ?_
    · refine zm_set (i := 7) rfl (by decide) (we_eq (we_ixS we_str (we_call3 hs_l_pick rfl (we_var rfl) (we_add (re_w we_int) (re_w (we_var rfl))) we_int)) rfl) fun sign_10 => ?_
      refine zm_last ?_
      refine zm_append (i := 6) rfl (by decide) (we_eq (we_catS (we_catS (we_slS (we_var rfl) toe_none (toe_some (re_w (we_var rfl)))) (we_var rfl)) (we_slS (we_var rfl) (toe_some (re_w (we_add (re_w (we_var rfl)) (re_w we_int)))) toe_none)) rfl) fun names_here_14 => ?_
      exact zm_nextL rfl
    · refine zm_last ?_
      exact zm_retV rfl
end K79

namespace K79
open PySem L2 G PM
set_option maxHeartbeats 4000000 in
theorem ok_l_shape {P : Program} {w : World} {K : PySem.W.Frag} {mg : Str → Option Value} {base : Heap} (T : Txt K mg w) (G_l_pick : FnOk P w K mg base (L2.CX P w) 1 T.a_l_pick T.f_l_pick ["_law_draws_here", "_law_k", "_law_many"] (sp_l_pick ⟨P, w, K⟩ T.A)) : FnOk P w K mg base (L2.CX P w) 2 T.a_l_shape T.f_l_shape ["_law_draws_here", "_law_at", "_law_letters_here"] (sp_l_shape ⟨P, w, K⟩ T.A) := by
  have nd := sc_l_shape.nd
  refine T.F_l_shape.okX sc_l_shape (fun vs H Q E h => ?_) (fun cdv A outer s H vs Q E hr h => ?_)
  · exact sp_l_shape_len h
  have hu := hu_of hr
  refine ⟨_, (pss_cons (ps_set (i := 3) nd rfl (Or.inl rfl) (pe_callTy (list_K K) (by rfl) T.b_list (by decide +kernel) (pa_cons (pv 2) pa_nil)))
      (pss_cons (ps_for (passes_of rfl) rfl (pi_range1 (by rfl) T.b_range (pa_cons (pe_op op_sub (pe_callB (len_K K) (by rfl) T.b_len (by decide +kernel) (pa_cons (pv 2) pa_nil)) pe_int) pa_nil)) (pg_name (i := 4) nd rfl (Or.inl rfl))
        (pss_cons (ps_set (i := 5) nd rfl (Or.inl rfl) (pe_callS G_l_pick (hr.mono (by decide)) (by rfl) T.g_l_pick T.F_l_pick.kp T.d_l_pick (fun σ => passAt (takes_of rfl rfl rfl rfl) σ) (pa_cons (pv 0) (pa_cons (pe_op op_add (pv 1) (pe_op op_mul pe_int (pv 4))) (pa_cons (pe_op op_sub (pe_callB (len_K K) (by rfl) T.b_len (by decide +kernel) (pa_cons (pv 3) pa_nil)) pe_int) pa_nil)))))
      (pss_cons (ps_set (i := 6) nd rfl (Or.inl rfl) (bm_K K PySem.F.plainAttrs_list PySem.F.slot_list_pop PySem.F.type_list_pop mt_popAt (pv 3) (pa_cons (pe_op op_add (pv 5) pe_int) pa_nil)))
      (pss_cons (ps_set (i := 7) nd rfl (Or.inl rfl) pe_str)
      (pss_cons (ps_if (pt_cmpR op_eq (pe_callS G_l_pick (hr.mono (by decide)) (by rfl) T.g_l_pick T.F_l_pick.kp T.d_l_pick (fun σ => passAt (takes_of rfl rfl rfl rfl) σ) (pa_cons (pv 0) (pa_cons (pe_op op_add (pe_op op_add (pv 1) (pe_op op_mul pe_int (pv 4))) pe_int) (pa_cons pe_int pa_nil)))) pe_int (nomark _))
        (pss_one (ps_set (i := 7) nd rfl (Or.inl rfl) pe_str))
        pss_nil)
      (pss_one (ps_asg (pe_tup (pa_cons (pv 7) (pa_cons (pe_ix (ix_lK K) (pv 3) (pv 5) (fun _ _ => rfl)) (pa_cons (pv 6) pa_nil)))) (pg_sub (pv 3) (pv 5) set_list))))))))
      (pss_one (ps_ret (pe_ix (ix_lK K) (pv 3) pe_int (fun _ _ => rfl)))))), ?_⟩
  try dsimp only [cxOf]
  obtain ⟨draws_here, at_, letters_here, nb, h⟩ := h
  refine Zm.body (js := [0, 1, 2, 3, 4, 5, 6, 7]) (m := l_shape_m draws_here at_ letters_here) nb h ?_
  refine zm_to (Γ2 := [(.val (dList (d := dInt)) draws_here), (.val dInt at_), (.val (dList (d := dUI)) letters_here), .no, .no, .no, .no, .no]) rfl ?_
  delta l_shape_m
  refine zm_setO (i := 3) rfl (by decide) (oe_eq (oe_listOf (we_var rfl)) rfl) fun items_1 => ?_
  refine zm_for [4, 5, 6, 7] (fun s2 => [(.val (dList (d := dInt)) draws_here), (.val dInt at_), (.val (dList (d := dUI)) letters_here), (.own (dList (d := dUI)) (oList (d := dUI)) none s2), .no, .no, .no, .no]) items_1 (wlen 8 (by exact rfl) (by exact rfl) (by decide)) rfl (fun _ => (wlen 8 (by exact rfl) (by exact rfl) (by decide))) (ie_eq (ie_range (re_w (we_sub (re_w (we_len (re_w (we_var rfl)))) (re_w we_int)))) rfl) (fun s2 x3 => (a_name rfl ⟨(wlen 8 (by exact rfl) (by exact rfl) (by decide)), ?_⟩)) fun s13 => ?_
  · refine zm_set (i := 5) rfl (by decide) (we_eq (we_call3 hs_l_pick rfl (we_var rfl) (we_add (re_w (we_var rfl)) (re_w (we_mulCl (re_w we_int) (re_w (we_var rfl))))) (we_sub (re_w (we_len (re_varO rfl))) (re_w we_int))) rfl) fun place_4 => ?_
    refine zm_popAt (i := 3) (j := 6) rfl rfl rfl (by decide) (by decide) (re_eq (re_w (we_add (re_w (we_var rfl)) (re_w we_int))) rfl) fun p5 => ?_
    refine zm_set (i := 7) rfl (by decide) (we_eq we_str rfl) fun word_6 => ?_
    refine zm_join [] (fun s9 => [(.val (dList (d := dInt)) draws_here), (.val dInt at_), (.val (dList (d := dUI)) letters_here), (.own (dList (d := dUI)) (oList (d := dUI)) none p5.1), (.val dInt x3), (.val dInt place_4), (.val dUI p5.2), (.val dStr s9)]) (fun _ => (wlen 8 (by exact rfl) (by exact rfl) (by decide))) ?_ fun s9 => ?_
    · refine zm_last (zm_if (te_eq (te_test (we_eqS (re_w (we_call3 hs_l_pick rfl (we_var rfl) (we_add (re_w (we_add (re_w (we_var rfl)) (re_w (we_mulCl (re_w we_int) (re_w (we_var rfl)))))) (re_w we_int)) we_int)) (re_w we_int))) rfl) ?_ ?_)
      · refine zm_set (i := 7) rfl (by decide) (we_eq we_str rfl) fun word_8 => ?_
        exact zm_nextJ rfl
      · refine zm_skip ?_
        exact zm_nextJ rfl
    · refine zm_last ?_
      refine zm_setIx (i := 3) rfl (by decide) (we_eq (we_tupV3 (we_UI (we_var rfl)) (we_ixO rfl (re_w (we_var rfl))) (we_var rfl)) rfl) (re_eq (re_w (we_var rfl)) rfl) fun items_11 => ?_
      exact zm_nextL rfl
  · refine zm_last ?_
    exact zm_ret (we_eq (we_ixO rfl (re_w we_int)) rfl)
end K79

namespace K79
open PySem L2 G PM
set_option maxHeartbeats 4000000 in
theorem ok_l_write {P : Program} {w : World} {K : PySem.W.Frag} {mg : Str → Option Value} {base : Heap} (T : Txt K mg w) : ∀ n : Nat, FnOk P w K mg base (L2.CX P w) (n + 1) T.a_l_write T.f_l_write ["_law_shape_here"] (sp_l_write n ⟨P, w, K⟩ T.A) := by
  have nd := sc_l_write.nd
  intro n
  induction n with
  | zero =>
    refine T.F_l_write.okX sc_l_write (fun vs H Q E h => ?_) (fun cdv A outer s H vs Q E hr h => ?_)
    · exact sp_l_write_len h
    · obtain ⟨shape_here, nb, _⟩ := h; exact absurd rfl nb
  | succ fl G_l_write =>
    refine T.F_l_write.okX sc_l_write (fun vs H Q E h => ?_) (fun cdv A outer s H vs Q E hr h => ?_)
    · exact sp_l_write_len h
    have hu := hu_of hr
    refine ⟨_, (pss_cons (ps_if (PW.pt (pw_and (pt_cmpR op_eq (pe_ix (ix_qK K) (pv 0) pe_int (fun _ _ => rfl)) pe_str (nomark _)) (pw_and1 (pt_val (pe_ix (ix_qK K) (pv 0) pe_int (fun _ _ => rfl))))))
        (pss_one (ps_ret (pe_ix (ix_qK K) (pv 0) pe_int (fun _ _ => rfl))))
        pss_nil)
      (pss_cons (ps_if (pt_cmpR op_eq (pe_ix (ix_qK K) (pv 0) pe_int (fun _ _ => rfl)) pe_str (nomark _))
        (pss_one (ps_ret (pe_op op_catS (pe_ix (ix_qK K) (pv 0) pe_int (fun _ _ => rfl)) pe_str)))
        pss_nil)
      (pss_cons (ps_if (pt_cmpR op_eq (pe_ix (ix_qK K) (pv 0) pe_int (fun _ _ => rfl)) pe_str (nomark _))
        (pss_one (ps_ret (pe_op op_catS (pe_op op_catS (pe_op op_catS (pe_op op_catS pe_str (pe_callS G_l_write (hr.mono (by omega)) (by rfl) T.g_l_write T.F_l_write.kp T.d_l_write (fun σ => passAt (takes_of rfl rfl rfl rfl) σ) (pa_cons (pe_ix (ix_qK K) (pv 0) pe_int (fun _ _ => rfl)) pa_nil))) pe_str) (pe_callS G_l_write (hr.mono (by omega)) (by rfl) T.g_l_write T.F_l_write.kp T.d_l_write (fun σ => passAt (takes_of rfl rfl rfl rfl) σ) (pa_cons (pe_ix (ix_qK K) (pv 0) pe_int (fun _ _ => rfl)) pa_nil))) pe_str)))
        pss_nil)
      (pss_one (ps_ret (pe_op op_catS (pe_op op_catS (pe_op op_catS (pe_op op_catS pe_str (pe_callS G_l_write (hr.mono (by omega)) (by rfl) T.g_l_write T.F_l_write.kp T.d_l_write (fun σ => passAt (takes_of rfl rfl rfl rfl) σ) (pa_cons (pe_ix (ix_qK K) (pv 0) pe_int (fun _ _ => rfl)) pa_nil))) pe_str) (pe_callS G_l_write (hr.mono (by omega)) (by rfl) T.g_l_write T.F_l_write.kp T.d_l_write (fun σ => passAt (takes_of rfl rfl rfl rfl) σ) (pa_cons (pe_ix (ix_qK K) (pv 0) pe_int (fun _ _ => rfl)) pa_nil))) pe_str)))))), ?_⟩
    try dsimp only [cxOf]
    obtain ⟨shape_here, nb, h⟩ := h
    refine Zm.body (js := [0]) (m := l_write_m (fl + 1) shape_here) nb h ?_
    refine zm_to (Γ2 := [(.val dUI shape_here)]) rfl ?_
    show Zm _ _ _ _ _ _ (l_write_step (l_write_m fl) shape_here)
    delta l_write_step
    refine zm_if (te_eq (te_and (te_test (we_eqS (re_w (we_ofU (we_ixQ (we_sqU (we_ui2u (we_var rfl))) (re_w we_int)))) (re_w we_str))) (te_B (we_ofU (we_ixQ (we_sqU (we_ui2u (we_var rfl))) (re_w we_int))))) rfl) ?_ ?_
    · exact zm_ret (we_eq (we_ofU (we_ixQ (we_sqU (we_ui2u (we_var rfl))) (re_w we_int))) rfl)
    · refine zm_skip ?_
      refine zm_if (te_eq (te_test (we_eqS (re_w (we_ofU (we_ixQ (we_sqU (we_ui2u (we_var rfl))) (re_w we_int)))) (re_w we_str))) rfl) ?_ ?_
      · exact zm_ret (we_eq (we_catS (we_ofU (we_ixQ (we_sqU (we_ui2u (we_var rfl))) (re_w we_int))) we_str) rfl)
      · refine zm_skip ?_
        refine zm_if (te_eq (te_test (we_eqS (re_w (we_ofU (we_ixQ (we_sqU (we_ui2u (we_var rfl))) (re_w we_int)))) (re_w we_str))) rfl) ?_ ?_
        · exact zm_ret (we_eq (we_catS (we_catS (we_catS (we_catS we_str (we_call1 hs_l_write rfl (we_ofU (we_ixQ (we_sqU (we_ui2u (we_var rfl))) (re_w we_int))))) we_str) (we_call1 hs_l_write rfl (we_ofU (we_ixQ (we_sqU (we_ui2u (we_var rfl))) (re_w we_int))))) we_str) rfl)
        · refine zm_skip ?_
          refine zm_last ?_
          exact zm_ret (we_eq (we_catS (we_catS (we_catS (we_catS we_str (we_call1 hs_l_write rfl (we_ofU (we_ixQ (we_sqU (we_ui2u (we_var rfl))) (re_w we_int))))) we_str) (we_call1 hs_l_write rfl (we_ofU (we_ixQ (we_sqU (we_ui2u (we_var rfl))) (re_w we_int))))) we_str) rfl)
end K79

namespace K79
open PySem L2 G PM
set_option maxHeartbeats 4000000 in
theorem ok_p_letters_in {P : Program} {w : World} {K : PySem.W.Frag} {mg : Str → Option Value} {base : Heap} (T : Txt K mg w) : FnOk P w K mg base (L2.CX P w) 1 T.a_p_letters_in T.f_p_letters_in ["shape"] (sp_p_letters_in ⟨P, w, K⟩ T.A) := by
  have nd := sc_p_letters_in.nd
  refine T.F_p_letters_in.okX sc_p_letters_in (fun vs H Q E h => ?_) (fun cdv A outer s H vs Q E hr h => ?_)
  · exact sp_p_letters_in_len h
  have hu := hu_of hr
  refine ⟨_, (pss_cons (ps_set (i := 1) nd rfl (Or.inl rfl) (pe_lst pa_nil))
      (pss_cons (ps_set (i := 2) nd rfl (Or.inl rfl) (pe_lst (pa_cons (pv 0) pa_nil)))
      (pss_cons (ps_while (passes_of rfl) (truth_K K (pv 2) (by intro _; rfl))
        (pss_cons (ps_set (i := 3) nd rfl (Or.inl rfl) (bm0_K K PySem.F.plainAttrs_list PySem.F.slot_list_pop PySem.F.type_list_pop mt_pop (pv 2)))
      (pss_one (ps_if (pt_cmpR op_eq (pe_ix (ix_qK K) (pv 3) pe_int (fun _ _ => rfl)) pe_str (nomark _))
        (pss_one (ps_expr (bm_K K PySem.F.plainAttrs_list PySem.F.slot_list_append PySem.F.type_list_append mt_append (pv 1) (pa_cons (pe_tup (pa_cons (pe_ix (ix_qK K) (pv 3) pe_int (fun _ _ => rfl)) (pa_cons (pe_ix (ix_qK K) (pv 3) pe_int (fun _ _ => rfl)) pa_nil))) pa_nil))))
        (pss_cons (ps_expr (bm_K K PySem.F.plainAttrs_list PySem.F.slot_list_append PySem.F.type_list_append mt_append (pv 2) (pa_cons (pe_ix (ix_qK K) (pv 3) pe_int (fun _ _ => rfl)) pa_nil)))
      (pss_one (ps_expr (bm_K K PySem.F.plainAttrs_list PySem.F.slot_list_append PySem.F.type_list_append mt_append (pv 2) (pa_cons (pe_ix (ix_qK K) (pv 3) pe_int (fun _ _ => rfl)) pa_nil)))))))))
      (pss_one (ps_ret (pv 1)))))), ?_⟩
  try dsimp only [cxOf]
  obtain ⟨shape, nb, h⟩ := h
  refine Zm.body (js := [0, 1, 2, 3]) (m := p_letters_in_m shape) nb h ?_
  refine zm_to (Γ2 := [(.val dUI shape), .no, .no, .no]) rfl ?_
  delta p_letters_in_m
  refine zm_setO (i := 1) rfl (by decide) (oe_eq (oe_lst0 (d := (dPair (d1 := dStr) (d2 := dBool)))) rfl) fun found_1 => ?_
  refine zm_setO (i := 2) rfl (by decide) (oe_eq (oe_lstN (wle_cons (we_var rfl) wle_nil) (asLenS asLen0) (by decide)) rfl) fun waiting_2 => ?_
  refine zm_while [3] (fun s3 => [(.val dUI shape), (.own (dList (d := (dPair (d1 := dStr) (d2 := dBool)))) (oList (d := (dPair (d1 := dStr) (d2 := dBool)))) none s3.1), (.own (dList (d := dUI)) (oList (d := dUI)) none s3.2), .no]) (found_1, waiting_2) rfl (fun _ => (wlen 4 (by exact rfl) (by exact rfl) (by decide))) (fun s3 => te_eq (te_truL (re_varO rfl)) rfl) (fun s3 => ?_) fun s22 => ?_
  · refine zm_pop (i := 2) (j := 3) rfl rfl rfl (by decide) (by decide) fun p4 => ?_
    refine zm_last ?_
    refine zm_if (te_eq (te_test (we_eqS (re_w (we_ofU (we_ixQ (we_sqU (we_ui2u (we_var rfl))) (re_w we_int)))) (re_w we_str))) rfl) ?_ ?_
    · refine zm_append (i := 1) rfl (by decide) (we_eq (we_tup2 (we_ofU (we_ixQ (we_sqU (we_ui2u (we_var rfl))) (re_w we_int))) (we_ofU (we_ixQ (we_sqU (we_ui2u (we_var rfl))) (re_w we_int)))) rfl) fun found_14 => ?_
      exact zm_nextL rfl
    · refine zm_assoc ?_
      refine zm_append (i := 2) rfl (by decide) (we_eq (we_ofU (we_ixQ (we_sqU (we_ui2u (we_var rfl))) (re_w we_int))) rfl) fun waiting_17 => ?_
      refine zm_append (i := 2) rfl (by decide) (we_eq (we_ofU (we_ixQ (we_sqU (we_ui2u (we_var rfl))) (re_w we_int))) rfl) fun waiting_20 => ?_
      exact zm_nextL rfl
  · refine zm_last ?_
    exact zm_retV rfl
end K79

namespace K79
open PySem L2 G PM
set_option maxHeartbeats 4000000 in
theorem ok_p_is_name {P : Program} {w : World} {K : PySem.W.Frag} {mg : Str → Option Value} {base : Heap} (T : Txt K mg w) : FnOk P w K mg base (L2.CX P w) 1 T.a_p_is_name T.f_p_is_name ["name"] (sp_p_is_name ⟨P, w, K⟩ T.A) := by
  have nd := sc_p_is_name.nd
  refine T.F_p_is_name.okX sc_p_is_name (fun vs H Q E h => ?_) (fun cdv A outer s H vs Q E hr h => ?_)
  · exact sp_p_is_name_len h
  have hu := hu_of hr
  refine ⟨_, (pss_one (ps_ret (pe_and (pe_chain op_lt op_le pe_int (pe_callB call_len_str (by rfl) T.b_len (by decide +kernel) (pa_cons (pv 0) pa_nil)) (pe_glob (v := .int (8)) (by rfl) T.g_MOST_IN_NAME T.ku_MOST_IN_NAME)) (pe_one (pe_callB (all_K K rfl) (by rfl) T.b_all (by decide +kernel) (pa_cons (pe_lc (own := [("char", 1)]) (by rfl) nd (pi_str (pv 0)) (blkOk_by (own := [("char", 1)]) (N := N_p_is_name) (sc := defScope s_p_is_name) (by decide +kernel)) (fun _ _ _ _ _ => (pg_name (i := 1) nd rfl (Or.inl rfl))) (fun _ _ _ _ _ => pts_nil) (fun _ _ _ _ _ => (pe_cmpR op_inSg (pv 1) (pe_glob (v := .str "abcdefghijklmnopqrstuvwxyz") (by rfl) T.g_ALPHABET T.ku_ALPHABET) (by with_unfolding_all rfl)))) pa_nil)))))), ?_⟩
  try dsimp only [cxOf]
  obtain ⟨name, nb, h⟩ := h
  refine Zm.body (js := [0, 1]) (m := p_is_name_m name) nb h ?_
  refine zm_to (Γ2 := [(.val dStr name), .no]) rfl ?_
  delta p_is_name_m
  refine zm_last ?_
  exact zm_ret (we_eq (we_and (we_chain (re_w we_int) (re_w (we_lenStr (re_w (we_var rfl)))) (re_w we_int)) (we_all (re_w (we_o (oe_lc (tg_name' (by decide)) (ic_str (we_var rfl)) fun x2 => (a_name rfl ⟨te_yes, (we_inSg (we_var rfl) we_str)⟩)))))) rfl)
end K79

namespace K79
open PySem L2 G PM
set_option maxHeartbeats 4000000 in
theorem ok_m_KindX_initX {P : Program} {w : World} {K : PySem.W.Frag} {mg : Str → Option Value} {base : Heap} (T : Txt K mg w) (G_p_letters_in : FnOk P w K mg base (L2.CX P w) 1 T.a_p_letters_in T.f_p_letters_in ["shape"] (sp_p_letters_in ⟨P, w, K⟩ T.A)) (G_p_is_name : FnOk P w K mg base (L2.CX P w) 1 T.a_p_is_name T.f_p_is_name ["name"] (sp_p_is_name ⟨P, w, K⟩ T.A)) (G_x_BadName : FnOk P w K mg base (L2.CX P w) 1 T.i_BadName T.fx_BadName ["self", "name"] (spX1 (T.A.tx .BadName) "name")) (G_x_TooLarge : FnOk P w K mg base (L2.CX P w) 1 T.i_TooLarge T.fx_TooLarge ["self", "limit"] (spX1 (T.A.tx .TooLarge) "limit")) : FnOk P w K mg base (L2.CX P w) 3 T.a_m_KindX_initX T.f_m_KindX_initX ["self", "shape"] (sp_m_KindX_initX ⟨P, w, K⟩ T.A) := by
  have nd := sc_m_KindX_initX.nd
  refine T.F_m_KindX_initX.okX sc_m_KindX_initX (fun vs H Q E h => ?_) (fun cdv A outer s H vs Q E hr h => ?_)
  · exact sp_m_KindX_initX_len h
  have hu := hu_of hr
  refine ⟨_, (pss_cons (ps_set (i := 2) nd rfl (Or.inl rfl) (pe_callS G_p_letters_in (hr.mono (by decide)) (by rfl) T.g_p_letters_in T.F_p_letters_in.kp T.d_p_letters_in (fun σ => passAt (takes_of rfl rfl rfl rfl) σ) (pa_cons (pv 1) pa_nil)))
      (pss_cons (ps_if (pt_cmpR op_gt (pe_callB (len_K K) (by rfl) T.b_len (by decide +kernel) (pa_cons (pv 2) pa_nil)) (con_K K (pv 0) rfl) (nomark _))
        (pss_one (ps_raise rfl (takes_of rfl rfl rfl rfl) (pmk_oex T.x_TooLarge.T T.x_TooLarge.init T.x_TooLarge.fn G_x_TooLarge (hr.mono (by decide)) T.dx_TooLarge .nil passF (by rfl) T.g_TooLarge (pa_cons (con_K K (pv 0) rfl) pa_nil))))
        pss_nil)
      (pss_cons (ps_for (passes_of rfl) rfl (pi_lK K (pv 2)) (pg_tupK (n := 2) K (by rfl) (pgs_cons (pg_name (i := 3) nd rfl (Or.inl rfl)) (pgs_cons (pg_name (i := 4) nd rfl (Or.inl rfl)) pgs_nil)))
        (pss_one (ps_if (pt_not (pt_val (pe_callS G_p_is_name (hr.mono (by decide)) (by rfl) T.g_p_is_name T.F_p_is_name.kp T.d_p_is_name (fun σ => passAt (takes_of rfl rfl rfl rfl) σ) (pa_cons (pv 3) pa_nil))))
        (pss_one (ps_raise rfl (takes_of rfl rfl rfl rfl) (pmk_oex T.x_BadName.T T.x_BadName.init T.x_BadName.fn G_x_BadName (hr.mono (by decide)) T.dx_BadName .nil passF (by rfl) T.g_BadName (pa_cons (pv 3) pa_nil))))
        pss_nil)))
      (pss_one (ps_fld (pv 0) (pv 1) rfl))))), ?_⟩
  try dsimp only [cxOf]
  obtain ⟨shape, nb, h⟩ := h
  refine Zm.bodyI (js := [0, 1, 2, 3, 4]) (m := m_KindX_initX_m shape) nb h fun pp => ?_
  generalize (⟨()⟩ : Ob0) = x0
  refine zm_to (Γ2 := [(.own (dOb0 (T.A.ob .Kind)) (oOb0 (T.A.ob .Kind)) (some (.ref pp)) x0), (.val dUI shape), .no, .no, .no]) rfl ?_
  delta m_KindX_initX_m
  refine zm_set (i := 2) rfl (by decide) (we_eq (we_o (oe_call1 hs_p_letters_in rfl (we_var rfl))) rfl) fun found_1 => ?_
  refine zm_ifP (te_eq (te_test (we_gt (re_w (we_len (re_w (we_var rfl)))) (re_w (we_con isI0 T.c_Kind T.k_Kind_MOST_LETTERS (by decide) (re_varO rfl))))) rfl) ?_ ?_
  · exact zm_raise1 rfl rfl (re_eq (re_w (we_con isI0 T.c_Kind T.k_Kind_MOST_LETTERS (by decide) (re_varO rfl))) rfl)
  · refine zm_skip ?_
    refine zm_for [3, 4] (fun (_ : Unit) => [(.own (dOb0 (T.A.ob .Kind)) (oOb0 (T.A.ob .Kind)) (some (.ref pp)) x0), (.val dUI shape), (.val (dList (d := (dPair (d1 := dStr) (d2 := dBool)))) found_1), .no, .no]) () (wlen 5 (by exact rfl) (by exact rfl) (by decide)) rfl (fun _ => (wlen 5 (by exact rfl) (by exact rfl) (by decide))) (ie_eq (ie_list (we_var rfl)) rfl) (fun _ x3 => (a_pair rfl (a_name rfl (a_name rfl ⟨(wlen 5 (by exact rfl) (by exact rfl) (by decide)), ?_⟩)))) fun _ => ?_
    · refine zm_last ?_
      refine zm_if (te_eq (te_not (te_B (we_call1 hs_p_is_name rfl (we_var rfl)))) rfl) ?_ ?_
      · exact zm_raise1S rfl rfl (re_eq (re_w (we_var rfl)) rfl)
      · refine zm_skip ?_
        exact zm_nextL rfl
    · refine zm_last ?_
      refine zm_fld1 (i := 0) rfl (by decide) T.c_Kind T.n_Kind_shape (we_eq (we_var rfl) rfl) fun f_7 => ?_
      exact zm_endI rfl
end K79

namespace K79
open PySem L2 G PM
set_option maxHeartbeats 4000000 in
theorem ok_p_written_shape {P : Program} {w : World} {K : PySem.W.Frag} {mg : Str → Option Value} {base : Heap} (T : Txt K mg w) : ∀ n : Nat, FnOk P w K mg base (L2.CX P w) (n + 1) T.a_p_written_shape T.f_p_written_shape ["shape"] (sp_p_written_shape n ⟨P, w, K⟩ T.A) := by
  have nd := sc_p_written_shape.nd
  intro n
  induction n with
  | zero =>
    refine T.F_p_written_shape.okX sc_p_written_shape (fun vs H Q E h => ?_) (fun cdv A outer s H vs Q E hr h => ?_)
    · exact sp_p_written_shape_len h
    · obtain ⟨shape, nb, _⟩ := h; exact absurd rfl nb
  | succ fl G_p_written_shape =>
    refine T.F_p_written_shape.okX sc_p_written_shape (fun vs H Q E h => ?_) (fun cdv A outer s H vs Q E hr h => ?_)
    · exact sp_p_written_shape_len h
    have hu := hu_of hr
    refine ⟨_, (pss_cons (ps_if (pt_cmpR op_eq (pe_ix (ix_qK K) (pv 0) pe_int (fun _ _ => rfl)) pe_str (nomark _))
        (pss_cons (ps_if (pt_val (pe_ix (ix_qK K) (pv 0) pe_int (fun _ _ => rfl)))
        (pss_one (ps_ret (pe_ix (ix_qK K) (pv 0) pe_int (fun _ _ => rfl))))
        pss_nil)
      (pss_one (ps_ret (pe_op op_catS (pe_ix (ix_qK K) (pv 0) pe_int (fun _ _ => rfl)) pe_str))))
        pss_nil)
      (pss_one (ps_ret (pe_op op_catS (pe_op op_catS (pe_op op_catS (pe_op op_catS pe_str (pe_callS G_p_written_shape (hr.mono (by omega)) (by rfl) T.g_p_written_shape T.F_p_written_shape.kp T.d_p_written_shape (fun σ => passAt (takes_of rfl rfl rfl rfl) σ) (pa_cons (pe_ix (ix_qK K) (pv 0) pe_int (fun _ _ => rfl)) pa_nil))) (pe_ix (ix_kdS K w) (pe_glob (v := .ref T.at_SIGN_OF_WORD) (by rfl) T.g_SIGN_OF_WORD rfl) (pe_ix (ix_qK K) (pv 0) pe_int (fun _ _ => rfl)) (fun _ _ => rfl))) (pe_callS G_p_written_shape (hr.mono (by omega)) (by rfl) T.g_p_written_shape T.F_p_written_shape.kp T.d_p_written_shape (fun σ => passAt (takes_of rfl rfl rfl rfl) σ) (pa_cons (pe_ix (ix_qK K) (pv 0) pe_int (fun _ _ => rfl)) pa_nil))) pe_str)))), ?_⟩
    try dsimp only [cxOf]
    obtain ⟨shape, nb, h⟩ := h
    refine Zm.body (js := [0]) (m := p_written_shape_m (fl + 1) shape) nb h ?_
    refine zm_to (Γ2 := [(.val dUI shape)]) rfl ?_
    show Zm _ _ _ _ _ _ (p_written_shape_step (p_written_shape_m fl) shape)
    delta p_written_shape_step
    refine zm_if (te_eq (te_test (we_eqS (re_w (we_ofU (we_ixQ (we_sqU (we_ui2u (we_var rfl))) (re_w we_int)))) (re_w we_str))) rfl) ?_ ?_
    · refine zm_assoc ?_
      refine zm_if (te_eq (te_B (we_ofU (we_ixQ (we_sqU (we_ui2u (we_var rfl))) (re_w we_int)))) rfl) ?_ ?_
      · exact zm_ret (we_eq (we_ofU (we_ixQ (we_sqU (we_ui2u (we_var rfl))) (re_w we_int))) rfl)
      · refine zm_skip ?_
        exact zm_ret (we_eq (we_catS (we_ofU (we_ixQ (we_sqU (we_ui2u (we_var rfl))) (re_w we_int))) we_str) rfl)
    · refine zm_skip ?_
      refine zm_last ?_
      exact zm_ret (we_eq (we_catS (we_catS (we_catS (we_catS we_str (we_call1 hs_p_written_shape rfl (we_ofU (we_ixQ (we_sqU (we_ui2u (we_var rfl))) (re_w we_int))))) (we_kgetT T.kd_SIGN_OF_WORD (re_w (we_ofU (we_ixQ (we_sqU (we_ui2u (we_var rfl))) (re_w we_int)))))) (we_call1 hs_p_written_shape rfl (we_ofU (we_ixQ (we_sqU (we_ui2u (we_var rfl))) (re_w we_int))))) we_str) rfl)
end K79

namespace K79
open PySem L2 G PM
set_option maxHeartbeats 4000000 in
theorem ok_p_format_kind {P : Program} {w : World} {K : PySem.W.Frag} {mg : Str → Option Value} {base : Heap} (T : Txt K mg w) (G_p_written_shape : ∀ n : Nat, FnOk P w K mg base (L2.CX P w) (n + 1) T.a_p_written_shape T.f_p_written_shape ["shape"] (sp_p_written_shape n ⟨P, w, K⟩ T.A)) : FnOk P w K mg base (L2.CX P w) 46 T.a_p_format_kind T.f_p_format_kind ["kind"] (sp_p_format_kind ⟨P, w, K⟩ T.A) := by
  have nd := sc_p_format_kind.nd
  refine T.F_p_format_kind.okX sc_p_format_kind (fun vs H Q E h => ?_) (fun cdv A outer s H vs Q E hr h => ?_)
  · exact sp_p_format_kind_len h
  have hu := hu_of hr
  refine ⟨_, (pss_one (ps_ret (pe_callS (G_p_written_shape 44) (hr.mono (by decide)) (by rfl) T.g_p_written_shape T.F_p_written_shape.kp T.d_p_written_shape (fun σ => passAt (takes_of rfl rfl rfl rfl) σ) (pa_cons (fld_K K (pv 0) rfl) pa_nil)))), ?_⟩
  try dsimp only [cxOf]
  obtain ⟨kind, nb, h⟩ := h
  refine Zm.body (js := [0]) (m := p_format_kind_m kind) nb h ?_
  refine zm_to (Γ2 := [(.val (dKind T.A) kind)]) rfl ?_
  delta p_format_kind_m
  refine zm_last ?_
  exact zm_ret (we_eq (we_call1 hs_p_written_shape rfl (we_fld (isF_Kind_shape T.A) T.c_Kind T.n_Kind_shape (we_var rfl))) rfl)
end K79

namespace K79
open PySem L2 G PM
set_option maxHeartbeats 4000000 in
theorem ok_p_expect {P : Program} {w : World} {K : PySem.W.Frag} {mg : Str → Option Value} {base : Heap} (T : Txt K mg w) (G_x_BadSign : FnOk P w K mg base (L2.CX P w) 1 T.i_BadSign T.fx_BadSign ["self", "sign"] (spX1 (T.A.tx .BadSign) "sign")) : FnOk P w K mg base (L2.CX P w) 3 T.a_p_expect T.f_p_expect ["text", "at", "char"] (sp_p_expect ⟨P, w, K⟩ T.A) := by
  have nd := sc_p_expect.nd
  refine T.F_p_expect.okX sc_p_expect (fun vs H Q E h => ?_) (fun cdv A outer s H vs Q E hr h => ?_)
  · exact sp_p_expect_len h
  have hu := hu_of hr
  refine ⟨_, (pss_cons (ps_if (PW.pt (pw_or (pt_cmpR op_ge (pv 1) (pe_callB call_len_str (by rfl) T.b_len (by decide +kernel) (pa_cons (pv 0) pa_nil)) (nomark _)) (pw_or1 (pt_cmpR op_ne (pe_ix ix_str (pv 0) (pv 1) (fun _ _ => rfl)) (pv 2) (nomark _)))))
        (pss_one (ps_raise rfl (takes_of rfl rfl rfl rfl) (pmk_oex T.x_BadSign.T T.x_BadSign.init T.x_BadSign.fn G_x_BadSign (hr.mono (by decide)) T.dx_BadSign .nil passF (by rfl) T.g_BadSign (pa_cons (pv 1) pa_nil))))
        pss_nil)
      (pss_one (ps_ret (pe_op op_add (pv 1) pe_int)))), ?_⟩
  try dsimp only [cxOf]
  obtain ⟨text, at_, char, nb, h⟩ := h
  refine Zm.body (js := [0, 1, 2]) (m := p_expect_m text at_ char) nb h ?_
  refine zm_to (Γ2 := [(.val dStr text), (.val dInt at_), (.val dStr char)]) rfl ?_
  delta p_expect_m
  refine zm_if (te_eq (te_or (te_test (we_ge (re_w (we_var rfl)) (re_w (we_lenStr (re_w (we_var rfl)))))) (te_test (we_neS (re_w (we_ixS (we_var rfl) (we_var rfl))) (re_w (we_var rfl))))) rfl) ?_ ?_
  · exact zm_raise1 rfl rfl (re_eq (re_w (we_var rfl)) rfl)
  · refine zm_skip ?_
    refine zm_last ?_
    exact zm_ret (we_eq (we_add (re_w (we_var rfl)) (re_w we_int)) rfl)
end K79

namespace K79
open PySem L2 G PM
set_option maxHeartbeats 4000000 in
theorem ok_p_name_end {P : Program} {w : World} {K : PySem.W.Frag} {mg : Str → Option Value} {base : Heap} (T : Txt K mg w) (G_x_BadSign : FnOk P w K mg base (L2.CX P w) 1 T.i_BadSign T.fx_BadSign ["self", "sign"] (spX1 (T.A.tx .BadSign) "sign")) : FnOk P w K mg base (L2.CX P w) 3 T.a_p_name_end T.f_p_name_end ["text", "at"] (sp_p_name_end ⟨P, w, K⟩ T.A) := by
  have nd := sc_p_name_end.nd
  refine T.F_p_name_end.okX sc_p_name_end (fun vs H Q E h => ?_) (fun cdv A outer s H vs Q E hr h => ?_)
  · exact sp_p_name_end_len h
  have hu := hu_of hr
  refine ⟨_, (pss_cons (ps_set (i := 2) nd rfl (Or.inl rfl) (pv 1))
      (pss_cons (ps_while (passes_of rfl) (PW.pt (pw_and (pt_cmpR op_lt (pv 2) (pe_callB call_len_str (by rfl) T.b_len (by decide +kernel) (pa_cons (pv 0) pa_nil)) (nomark _)) (pw_and1 (pt_cmpR op_inSg (pe_ix ix_str (pv 0) (pv 2) (fun _ _ => rfl)) (pe_glob (v := .str "abcdefghijklmnopqrstuvwxyz") (by rfl) T.g_ALPHABET T.ku_ALPHABET) (by with_unfolding_all rfl)))))
        (pss_one (ps_aug (i := 2) nd rfl (Or.inl rfl) pe_int ip_add)))
      (pss_cons (ps_if (pt_cmpR op_eq (pv 2) (pv 1) (nomark _))
        (pss_one (ps_raise rfl (takes_of rfl rfl rfl rfl) (pmk_oex T.x_BadSign.T T.x_BadSign.init T.x_BadSign.fn G_x_BadSign (hr.mono (by decide)) T.dx_BadSign .nil passF (by rfl) T.g_BadSign (pa_cons (pv 1) pa_nil))))
        pss_nil)
      (pss_one (ps_ret (pv 2)))))), ?_⟩
  try dsimp only [cxOf]
  obtain ⟨text, at_, nb, h⟩ := h
  refine Zm.body (js := [0, 1, 2]) (m := p_name_end_m text at_) nb h ?_
  refine zm_to (Γ2 := [(.val dStr text), (.val dInt at_), .no]) rfl ?_
  delta p_name_end_m
  refine zm_set (i := 2) rfl (by decide) (we_eq (we_var rfl) rfl) fun end__1 => ?_
  refine zm_while [] (fun s2 => [(.val dStr text), (.val dInt at_), (.val dInt s2)]) end__1 rfl (fun _ => rfl) (fun s2 => te_eq (te_and (te_test (we_lt (re_w (we_var rfl)) (re_w (we_lenStr (re_w (we_var rfl)))))) (te_test (we_inSg (we_ixS (we_var rfl) (we_var rfl)) we_str))) rfl) (fun s2 => ?_) fun s7 => ?_
  · refine zm_last ?_
    refine zm_aug (i := 2) rfl (by decide) (re_eq (re_w we_int) rfl) fun end__6 => ?_
    exact zm_nextL rfl
  · refine zm_ifP (te_eq (te_test (we_eqS (re_w (we_var rfl)) (re_w (we_var rfl)))) rfl) ?_ ?_
    · exact zm_raise1 rfl rfl (re_eq (re_w (we_var rfl)) rfl)
    · refine zm_skip ?_
      refine zm_last ?_
      exact zm_ret (we_eq (we_var rfl) rfl)
end K79

namespace K79
open PySem L2 G PM
set_option maxHeartbeats 4000000 in
theorem ok_p_read_shape {P : Program} {w : World} {K : PySem.W.Frag} {mg : Str → Option Value} {base : Heap} (T : Txt K mg w) (G_p_expect : FnOk P w K mg base (L2.CX P w) 3 T.a_p_expect T.f_p_expect ["text", "at", "char"] (sp_p_expect ⟨P, w, K⟩ T.A)) (G_p_name_end : FnOk P w K mg base (L2.CX P w) 3 T.a_p_name_end T.f_p_name_end ["text", "at"] (sp_p_name_end ⟨P, w, K⟩ T.A)) (G_x_BadSign : FnOk P w K mg base (L2.CX P w) 1 T.i_BadSign T.fx_BadSign ["self", "sign"] (spX1 (T.A.tx .BadSign) "sign")) : ∀ n : Nat, FnOk P w K mg base (L2.CX P w) (n + 4) T.a_p_read_shape T.f_p_read_shape ["text", "at"] (sp_p_read_shape n ⟨P, w, K⟩ T.A) := by
  have nd := sc_p_read_shape.nd
  intro n
  induction n with
  | zero =>
    refine T.F_p_read_shape.okX sc_p_read_shape (fun vs H Q E h => ?_) (fun cdv A outer s H vs Q E hr h => ?_)
    · exact sp_p_read_shape_len h
    · obtain ⟨text, at_, nb, _⟩ := h; exact absurd rfl nb
  | succ fl G_p_read_shape =>
    refine T.F_p_read_shape.okX sc_p_read_shape (fun vs H Q E h => ?_) (fun cdv A outer s H vs Q E hr h => ?_)
    · exact sp_p_read_shape_len h
    have hu := hu_of hr
    refine ⟨_, (pss_cons (ps_if (PW.pt (pw_and (pt_cmpR op_lt (pv 1) (pe_callB call_len_str (by rfl) T.b_len (by decide +kernel) (pa_cons (pv 0) pa_nil)) (nomark _)) (pw_and1 (pt_cmpR op_eq (pe_ix ix_str (pv 0) (pv 1) (fun _ _ => rfl)) pe_str (nomark _)))))
        (pss_cons (ps_asg (pe_callS G_p_read_shape (hr.mono (by omega)) (by rfl) T.g_p_read_shape T.F_p_read_shape.kp T.d_p_read_shape (fun σ => passAt (takes_of rfl rfl rfl rfl) σ) (pa_cons (pv 0) (pa_cons (pe_op op_add (pv 1) pe_int) pa_nil))) (pg_tupK (n := 2) K (by rfl) (pgs_cons (pg_name (i := 2) nd rfl (Or.inl rfl)) (pgs_cons (pg_name (i := 1) nd rfl (Or.inl rfl)) pgs_nil))))
      (pss_cons (ps_set (i := 1) nd rfl (Or.inl rfl) (pe_callS G_p_expect (hr.mono (by omega)) (by rfl) T.g_p_expect T.F_p_expect.kp T.d_p_expect (fun σ => passAt (takes_of rfl rfl rfl rfl) σ) (pa_cons (pv 0) (pa_cons (pv 1) (pa_cons pe_str pa_nil)))))
      (pss_cons (ps_if (PW.pt (pw_or (pt_cmpR op_ge (pv 1) (pe_callB call_len_str (by rfl) T.b_len (by decide +kernel) (pa_cons (pv 0) pa_nil)) (nomark _)) (pw_or1 (pt_cmpR (op_niKT K w T.kd_WORD_OF_SIGN) (pe_ix ix_str (pv 0) (pv 1) (fun _ _ => rfl)) (pe_glob (v := .ref T.at_WORD_OF_SIGN) (by rfl) T.g_WORD_OF_SIGN rfl) (by with_unfolding_all rfl)))))
        (pss_one (ps_raise rfl (takes_of rfl rfl rfl rfl) (pmk_oex T.x_BadSign.T T.x_BadSign.init T.x_BadSign.fn G_x_BadSign (hr.mono (by omega)) T.dx_BadSign .nil passF (by rfl) T.g_BadSign (pa_cons (pv 1) pa_nil))))
        pss_nil)
      (pss_cons (ps_set (i := 3) nd rfl (Or.inl rfl) (pe_ix (ix_kdS K w) (pe_glob (v := .ref T.at_WORD_OF_SIGN) (by rfl) T.g_WORD_OF_SIGN rfl) (pe_ix ix_str (pv 0) (pv 1) (fun _ _ => rfl)) (fun _ _ => rfl)))
      (pss_cons (ps_asg (pe_callS G_p_read_shape (hr.mono (by omega)) (by rfl) T.g_p_read_shape T.F_p_read_shape.kp T.d_p_read_shape (fun σ => passAt (takes_of rfl rfl rfl rfl) σ) (pa_cons (pv 0) (pa_cons (pe_callS G_p_expect (hr.mono (by omega)) (by rfl) T.g_p_expect T.F_p_expect.kp T.d_p_expect (fun σ => passAt (takes_of rfl rfl rfl rfl) σ) (pa_cons (pv 0) (pa_cons (pe_op op_add (pv 1) pe_int) (pa_cons pe_str pa_nil)))) pa_nil))) (pg_tupK (n := 2) K (by rfl) (pgs_cons (pg_name (i := 4) nd rfl (Or.inl rfl)) (pgs_cons (pg_name (i := 1) nd rfl (Or.inl rfl)) pgs_nil))))
      (pss_one (ps_ret (pe_tup (pa_cons (pe_tup (pa_cons (pv 3) (pa_cons (pv 2) (pa_cons (pv 4) pa_nil)))) (pa_cons (pe_callS G_p_expect (hr.mono (by omega)) (by rfl) T.g_p_expect T.F_p_expect.kp T.d_p_expect (fun σ => passAt (takes_of rfl rfl rfl rfl) σ) (pa_cons (pv 0) (pa_cons (pv 1) (pa_cons pe_str pa_nil)))) pa_nil))))))))))
        pss_nil)
      (pss_cons (ps_set (i := 5) nd rfl (Or.inl rfl) (pe_callS G_p_name_end (hr.mono (by omega)) (by rfl) T.g_p_name_end T.F_p_name_end.kp T.d_p_name_end (fun σ => passAt (takes_of rfl rfl rfl rfl) σ) (pa_cons (pv 0) (pa_cons (pv 1) pa_nil))))
      (pss_cons (ps_if (PW.pt (pw_and (pt_cmpR op_lt (pv 5) (pe_callB call_len_str (by rfl) T.b_len (by decide +kernel) (pa_cons (pv 0) pa_nil)) (nomark _)) (pw_and1 (pt_cmpR op_eq (pe_ix ix_str (pv 0) (pv 5) (fun _ _ => rfl)) pe_str (nomark _)))))
        (pss_one (ps_ret (pe_tup (pa_cons (pe_tup (pa_cons pe_str (pa_cons (pe_slice sl_str (pv 0) (po_some (pv 1)) (po_some (pv 5))) (pa_cons pe_bl pa_nil)))) (pa_cons (pe_op op_add (pv 5) pe_int) pa_nil)))))
        pss_nil)
      (pss_one (ps_ret (pe_tup (pa_cons (pe_tup (pa_cons pe_str (pa_cons (pe_slice sl_str (pv 0) (po_some (pv 1)) (po_some (pv 5))) (pa_cons pe_bl pa_nil)))) (pa_cons (pv 5) pa_nil)))))))), ?_⟩
    try dsimp only [cxOf]
    obtain ⟨text, at_, nb, h⟩ := h
    refine Zm.body (js := [0, 1, 2, 3, 4, 5]) (m := p_read_shape_m (fl + 1) text at_) nb h ?_
    refine zm_to (Γ2 := [(.val dStr text), (.val dInt at_), .no, .no, .no, .no]) rfl ?_
    show Zm _ _ _ _ _ _ (p_read_shape_step (p_read_shape_m fl) text at_)
    delta p_read_shape_step
    refine zm_if (te_eq (te_and (te_test (we_lt (re_w (we_var rfl)) (re_w (we_lenStr (re_w (we_var rfl)))))) (te_test (we_eqS (re_w (we_ixS (we_var rfl) (we_var rfl))) (re_w we_str)))) rfl) ?_ ?_
    · refine zm_assoc ?_
      refine zm_setG (we_eq (we_call2 hs_p_read_shape rfl (we_var rfl) (we_add (re_w (we_var rfl)) (re_w we_int))) rfl) fun t4 => (a_pair rfl (a_name rfl (a_name rfl ⟨rfl, ?_⟩)))
      refine zm_assoc ?_
      refine zm_set (i := 1) rfl (by decide) (we_eq (we_call3 hs_p_expect rfl (we_var rfl) (we_var rfl) we_str) rfl) fun at__5 => ?_
      refine zm_assoc ?_
      refine zm_if (te_eq (te_or (te_test (we_ge (re_w (we_var rfl)) (re_w (we_lenStr (re_w (we_var rfl)))))) (te_test (we_niKT T.kd_WORD_OF_SIGN (re_w (we_ixS (we_var rfl) (we_var rfl)))))) rfl) ?_ ?_
      · exact zm_raise1 rfl rfl (re_eq (re_w (we_var rfl)) rfl)
      · refine zm_skip ?_
        refine zm_assoc ?_
        refine zm_set (i := 3) rfl (by decide) (we_eq (we_kgetT T.kd_WORD_OF_SIGN (re_w (we_ixS (we_var rfl) (we_var rfl)))) rfl) fun word_10 => ?_
        refine zm_assoc ?_
        refine zm_setG (we_eq (we_call2 hs_p_read_shape rfl (we_var rfl) (we_call3 hs_p_expect rfl (we_var rfl) (we_add (re_w (we_var rfl)) (re_w we_int)) we_str)) rfl) fun t12 => (a_pair rfl (a_name rfl (a_name rfl ⟨rfl, ?_⟩)))
        exact zm_ret (we_eq (we_tup2 (we_tupV3 (we_UI (we_var rfl)) (we_var rfl) (we_var rfl)) (we_call3 hs_p_expect rfl (we_var rfl) (we_var rfl) we_str)) rfl)
    · refine zm_skip ?_
      refine zm_set (i := 5) rfl (by decide) (we_eq (we_call2 hs_p_name_end rfl (we_var rfl) (we_var rfl)) rfl) fun end__15 => ?_
      refine zm_if (te_eq (te_and (te_test (we_lt (re_w (we_var rfl)) (re_w (we_lenStr (re_w (we_var rfl)))))) (te_test (we_eqS (re_w (we_ixS (we_var rfl) (we_var rfl))) (re_w we_str)))) rfl) ?_ ?_
      · exact zm_ret (we_eq (we_tup2 (we_tupV3 (we_UI we_str) (we_UI (we_slS (we_var rfl) (toe_some (re_w (we_var rfl))) (toe_some (re_w (we_var rfl))))) (we_UI we_bl)) (we_add (re_w (we_var rfl)) (re_w we_int))) rfl)
      · refine zm_skip ?_
        refine zm_last ?_
        exact zm_ret (we_eq (we_tup2 (we_tupV3 (we_UI we_str) (we_UI (we_slS (we_var rfl) (toe_some (re_w (we_var rfl))) (toe_some (re_w (we_var rfl))))) (we_UI we_bl)) (we_var rfl)) rfl)
end K79

namespace K79
open PySem L2 G PM
set_option maxHeartbeats 4000000 in
theorem ok_p_parse_kind {P : Program} {w : World} {K : PySem.W.Frag} {mg : Str → Option Value} {base : Heap} (T : Txt K mg w) (G_p_read_shape : ∀ n : Nat, FnOk P w K mg base (L2.CX P w) (n + 4) T.a_p_read_shape T.f_p_read_shape ["text", "at"] (sp_p_read_shape n ⟨P, w, K⟩ T.A)) (G_m_KindX_initX : FnOk P w K mg base (L2.CX P w) 3 T.a_m_KindX_initX T.f_m_KindX_initX ["self", "shape"] (sp_m_KindX_initX ⟨P, w, K⟩ T.A)) (G_x_BadSign : FnOk P w K mg base (L2.CX P w) 1 T.i_BadSign T.fx_BadSign ["self", "sign"] (spX1 (T.A.tx .BadSign) "sign")) : FnOk P w K mg base (L2.CX P w) 55 T.a_p_parse_kind T.f_p_parse_kind ["text"] (sp_p_parse_kind ⟨P, w, K⟩ T.A) := by
  have nd := sc_p_parse_kind.nd
  refine T.F_p_parse_kind.okX sc_p_parse_kind (fun vs H Q E h => ?_) (fun cdv A outer s H vs Q E hr h => ?_)
  · exact sp_p_parse_kind_len h
  have hu := hu_of hr
  refine ⟨_, (pss_cons (ps_asg (pe_callS (G_p_read_shape 50) (hr.mono (by decide)) (by rfl) T.g_p_read_shape T.F_p_read_shape.kp T.d_p_read_shape (fun σ => passAt (takes_of rfl rfl rfl rfl) σ) (pa_cons (pv 0) (pa_cons pe_int pa_nil))) (pg_tupK (n := 2) K (by rfl) (pgs_cons (pg_name (i := 1) nd rfl (Or.inl rfl)) (pgs_cons (pg_name (i := 2) nd rfl (Or.inl rfl)) pgs_nil))))
      (pss_cons (ps_if (pt_cmpR op_lt (pv 2) (pe_callB call_len_str (by rfl) T.b_len (by decide +kernel) (pa_cons (pv 0) pa_nil)) (nomark _))
        (pss_one (ps_raise rfl (takes_of rfl rfl rfl rfl) (pmk_oex T.x_BadSign.T T.x_BadSign.init T.x_BadSign.fn G_x_BadSign (hr.mono (by decide)) T.dx_BadSign .nil passF (by rfl) T.g_BadSign (pa_cons (pv 2) pa_nil))))
        pss_nil)
      (pss_one (ps_ret (pe_makeS T.mk_Kind G_m_KindX_initX (hr.mono (by decide)) (by rfl) T.g_Kind T.d_m_KindX_initX (fun σ => passAt (takes_of rfl rfl rfl rfl) σ) (pa_cons (pv 1) pa_nil)))))), ?_⟩
  try dsimp only [cxOf]
  obtain ⟨text, nb, h⟩ := h
  refine Zm.body (js := [0, 1, 2]) (m := p_parse_kind_m text) nb h ?_
  refine zm_to (Γ2 := [(.val dStr text), .no, .no]) rfl ?_
  delta p_parse_kind_m
  refine zm_setG (we_eq (we_call2 hs_p_read_shape rfl (we_var rfl) we_int) rfl) fun t1 => (a_pair rfl (a_name rfl (a_name rfl ⟨rfl, ?_⟩)))
  refine zm_if (te_eq (te_test (we_lt (re_w (we_var rfl)) (re_w (we_lenStr (re_w (we_var rfl)))))) rfl) ?_ ?_
  · exact zm_raise1 rfl rfl (re_eq (re_w (we_var rfl)) rfl)
  · refine zm_skip ?_
    refine zm_last ?_
    exact zm_retO (oe_eq (oe_make1 hs_m_KindX_initX rfl (we_var rfl)) rfl)
end K79

namespace K79
open PySem L2 G PM
set_option maxHeartbeats 4000000 in
theorem ok_l_told {P : Program} {w : World} {K : PySem.W.Frag} {mg : Str → Option Value} {base : Heap} (T : Txt K mg w) (G_p_parse_kind : FnOk P w K mg base (L2.CX P w) 55 T.a_p_parse_kind T.f_p_parse_kind ["text"] (sp_p_parse_kind ⟨P, w, K⟩ T.A)) (G_p_format_kind : FnOk P w K mg base (L2.CX P w) 46 T.a_p_format_kind T.f_p_format_kind ["kind"] (sp_p_format_kind ⟨P, w, K⟩ T.A)) : FnOk P w K mg base (L2.CX P w) 56 T.a_l_told T.f_l_told ["_law_text"] (sp_l_told ⟨P, w, K⟩ T.A) := by
  have nd := sc_l_told.nd
  refine T.F_l_told.okX sc_l_told (fun vs H Q E h => ?_) (fun cdv A outer s H vs Q E hr h => ?_)
  · exact sp_l_told_len h
  have hu := hu_of hr
  refine ⟨_, (pss_one (try_as K (i := 2) rfl rfl nd rfl rfl ⟨rfl, by decide, .inl T.g_ComesapartError⟩ (takes_of rfl rfl rfl rfl) (fun W pn xe tk po => (pss_cons (ps_set (i := 1) nd rfl (Or.inl rfl) (pe_callS G_p_parse_kind (hr.mono (by decide)) (by rfl) T.g_p_parse_kind T.F_p_parse_kind.kp T.d_p_parse_kind (fun σ => passAt tk σ) (pa_cons (pv 0) pa_nil)))
      (pss_cons (ps_if (PW.pt (pw_or (pt_not (pt_val (pe_callB (isi_K K) (by rfl) T.b_isinstance (by decide +kernel) (pa_cons (pv 1) (pa_cons (pe_glob (v := .ref (T.A.ob .Kind)) (by rfl) T.g_Kind rfl) pa_nil))))) (pw_or1 (pt_cmpR op_ne (pe_callS G_p_format_kind (hr.mono (by decide)) (by rfl) T.g_p_format_kind T.F_p_format_kind.kp T.d_p_format_kind (fun σ => passAt tk σ) (pa_cons (pv 1) pa_nil)) (pv 0) (nomark _)))))
        (pss_one (ps_ret (pe_tup (pa_cons pe_str pa_nil))))
        pss_nil)
      (pss_one (ps_ret (pe_tup (pa_cons pe_str (pa_cons (fld_K K (pv 1) rfl) pa_nil)))))))) (fun a oe cls d pn hz hf => (pss_cons (ps_set (i := 3) nd rfl (Or.inl rfl) (pe_lst pa_nil))
      (pss_cons (ps_if (pt_val (pe_callB (call_isX hz hf) (by rfl) T.b_isinstance (by decide +kernel) (pa_cons (pv 2) (pa_cons (pe_glob (v := .ref (T.A.tx .BadSign)) (by rfl) T.g_BadSign rfl) pa_nil))))
        (pss_one (ps_expr (bm_K K PySem.F.plainAttrs_list PySem.F.slot_list_append PySem.F.type_list_append mt_append (pv 3) (pa_cons (pe_tup (pa_cons pe_str (pa_cons (pe_xf T.xf_BadSign T.no_BadSign_sign hz hf (pv 2)) pa_nil))) pa_nil))))
        pss_nil)
      (pss_cons (ps_if (pt_val (pe_callB (call_isX hz hf) (by rfl) T.b_isinstance (by decide +kernel) (pa_cons (pv 2) (pa_cons (pe_glob (v := .ref (T.A.tx .TooLarge)) (by rfl) T.g_TooLarge rfl) pa_nil))))
        (pss_one (ps_expr (bm_K K PySem.F.plainAttrs_list PySem.F.slot_list_append PySem.F.type_list_append mt_append (pv 3) (pa_cons (pe_tup (pa_cons pe_str (pa_cons (pe_xf T.xf_TooLarge T.no_TooLarge_limit hz hf (pv 2)) pa_nil))) pa_nil))))
        pss_nil)
      (pss_cons (ps_if (pt_val (pe_callB (call_isX hz hf) (by rfl) T.b_isinstance (by decide +kernel) (pa_cons (pv 2) (pa_cons (pe_glob (v := .ref (T.A.tx .BadName)) (by rfl) T.g_BadName rfl) pa_nil))))
        (pss_one (ps_expr (bm_K K PySem.F.plainAttrs_list PySem.F.slot_list_append PySem.F.type_list_append mt_append (pv 3) (pa_cons (pe_tup (pa_cons pe_str (pa_cons (pe_xf T.xf_BadName T.no_BadName_name hz hf (pv 2)) pa_nil))) pa_nil))))
        pss_nil)
      (pss_cons (ps_if (PW.pt (pw_or (pt_cmpR op_ne (pe_callB (len_K K) (by rfl) T.b_len (by decide +kernel) (pa_cons (pv 3) pa_nil)) pe_int (nomark _)) (pw_or1 (pt_not (pt_val (pe_callB (call_isX hz hf) (by rfl) T.b_isinstance (by decide +kernel) (pa_cons (pv 2) (pa_cons (pe_bltn (v := .ty "ValueError") (by rfl) T.b_ValueError (by decide +kernel) rfl) pa_nil))))))))
        (pss_one (ps_ret (pe_tup (pa_cons pe_str pa_nil))))
        pss_nil)
      (pss_one (ps_ret (pe_ix (ix_lK K) (pv 3) pe_int (fun _ _ => rfl)))))))))))), ?_⟩
  try dsimp only [cxOf]
  obtain ⟨text, nb, h⟩ := h
  refine Zm.body (js := [0, 1, 2, 3]) (m := l_told_m text) nb h ?_
  refine zm_to (Γ2 := [(.val dStr text), .no, .no, .no]) rfl ?_
  delta l_told_m
  refine zm_last ?_
  refine zm_tryT (js := [0, 1, 2, 3]) [1] (i := 2) rfl ⟨_, rfl⟩ (by decide) (by decide) T.hx_ComesapartError (fun W kb => ?_) (fun px4 a dd hkn hp => ?_)
  · refine zm_set (i := 1) rfl (by decide) (we_eq (we_o (oe_call1 hs_p_parse_kind rfl (we_var rfl))) rfl) fun kind_1 => ?_
    refine zm_if (te_eq (te_or (te_not (te_B (we_isO (isI_Kind T.A) T.it_Kind (re_w (we_var rfl))))) (te_test (we_neS (re_w (we_call1 hs_p_format_kind rfl (we_var rfl))) (re_w (we_var rfl))))) rfl) ?_ ?_
    · exact zm_ret (we_eq (we_UI (we_tup1 we_str)) rfl)
    · refine zm_skip ?_
      refine zm_last ?_
      exact zm_ret (we_eq (we_tupV2 (we_UI we_str) (we_fld (isF_Kind_shape T.A) T.c_Kind T.n_Kind_shape (we_var rfl))) rfl)
  · refine zm_setO (i := 3) rfl (by decide) (oe_eq (oe_lst0 (d := dUI)) rfl) fun found_5 => ?_
    refine zm_join [] (fun s9 => [(.val dStr text), .no, (.val (dExn a dd) (px4.x T.A.tx)), (.own (dList (d := dUI)) (oList (d := dUI)) none s9)]) (fun _ => (wlen 4 (by exact rfl) (by exact rfl) (by decide))) ?_ fun s9 => ?_
    · refine zm_last (zm_ifP (te_eq (te_B (we_isX (b := fun c => XC.isA c .BadSign) rfl hkn T.exc (fun u e => by cases e; rfl) T.kx_BadSign)) rfl) ?_ ?_)
      · refine zm_append (i := 3) rfl (by decide) (we_eq (we_tupV2 (we_UI we_str) (we_UI (we_xf rfl rfl))) rfl) fun found_8 => ?_
        exact zm_nextJ rfl
      · refine zm_skip ?_
        exact zm_nextJ rfl
    · refine zm_join [] (fun s13 => [(.val dStr text), .no, (.val (dExn a dd) (px4.x T.A.tx)), (.own (dList (d := dUI)) (oList (d := dUI)) none s13)]) (fun _ => (wlen 4 (by exact rfl) (by exact rfl) (by decide))) ?_ fun s13 => ?_
      · refine zm_last (zm_ifP (te_eq (te_B (we_isX (b := fun c => XC.isA c .TooLarge) rfl hkn T.exc (fun u e => by cases e; rfl) T.kx_TooLarge)) rfl) ?_ ?_)
        · refine zm_append (i := 3) rfl (by decide) (we_eq (we_tupV2 (we_UI we_str) (we_UI (we_xf rfl rfl))) rfl) fun found_12 => ?_
          exact zm_nextJ rfl
        · refine zm_skip ?_
          exact zm_nextJ rfl
      · refine zm_join [] (fun s17 => [(.val dStr text), .no, (.val (dExn a dd) (px4.x T.A.tx)), (.own (dList (d := dUI)) (oList (d := dUI)) none s17)]) (fun _ => (wlen 4 (by exact rfl) (by exact rfl) (by decide))) ?_ fun s17 => ?_
        · refine zm_last (zm_ifP (te_eq (te_B (we_isX (b := fun c => XC.isA c .BadName) rfl hkn T.exc (fun u e => by cases e; rfl) T.kx_BadName)) rfl) ?_ ?_)
          · refine zm_append (i := 3) rfl (by decide) (we_eq (we_tupV2 (we_UI we_str) (we_UI (we_xfS rfl rfl))) rfl) fun found_16 => ?_
            exact zm_nextJ rfl
          · refine zm_skip ?_
            exact zm_nextJ rfl
        · refine zm_ifP (te_eq (te_orP (te_test (we_neS (re_w (we_len (re_varO rfl))) (re_w we_int))) (te_not (te_B (we_isX (b := fun _ => true) rfl hkn T.exc (fun u e => by cases e; rfl) T.kx_ValueError)))) rfl) ?_ ?_
          · exact zm_ret (we_eq (we_UI (we_tup1 we_str)) rfl)
          · refine zm_skip ?_
            refine zm_last ?_
            exact zm_ret (we_eq (we_ixO rfl (re_w we_int)) rfl)
end K79

namespace K79
open PySem L2 G PM
set_option maxHeartbeats 4000000 in
theorem ok_l_spoilt {P : Program} {w : World} {K : PySem.W.Frag} {mg : Str → Option Value} {base : Heap} (T : Txt K mg w) (G_l_pick : FnOk P w K mg base (L2.CX P w) 1 T.a_l_pick T.f_l_pick ["_law_draws_here", "_law_k", "_law_many"] (sp_l_pick ⟨P, w, K⟩ T.A)) : FnOk P w K mg base (L2.CX P w) 2 T.a_l_spoilt T.f_l_spoilt ["_law_extra", "_law_at", "_law_text"] (sp_l_spoilt ⟨P, w, K⟩ T.A) := by
  have nd := sc_l_spoilt.nd
  refine T.F_l_spoilt.okX sc_l_spoilt (fun vs H Q E h => ?_) (fun cdv A outer s H vs Q E hr h => ?_)
  · exact sp_l_spoilt_len h
  have hu := hu_of hr
  refine ⟨_, (pss_cons (ps_set (i := 3) nd rfl (Or.inl rfl) (pe_lst (pa_cons pe_str (pa_cons pe_str (pa_cons pe_str (pa_cons pe_str (pa_cons pe_str (pa_cons pe_str (pa_cons pe_str (pa_cons pe_str (pa_cons pe_str (pa_cons pe_str (pa_cons pe_str (pa_cons pe_str pa_nil))))))))))))))
      (pss_cons (ps_set (i := 4) nd rfl (Or.inl rfl) (pe_ix (ix_lK K) (pv 3) (pe_callS G_l_pick (hr.mono (by decide)) (by rfl) T.g_l_pick T.F_l_pick.kp T.d_l_pick (fun σ => passAt (takes_of rfl rfl rfl rfl) σ) (pa_cons (pv 0) (pa_cons (pe_op op_add (pv 1) pe_int) (pa_cons pe_int pa_nil)))) (fun _ _ => rfl)))
      (pss_cons (ps_set (i := 5) nd rfl (Or.inl rfl) (pe_op op_add (pe_callS G_l_pick (hr.mono (by decide)) (by rfl) T.g_l_pick T.F_l_pick.kp T.d_l_pick (fun σ => passAt (takes_of rfl rfl rfl rfl) σ) (pa_cons (pv 0) (pa_cons (pe_op op_add (pv 1) pe_int) (pa_cons pe_int pa_nil)))) (pe_op op_mul pe_int (pe_callS G_l_pick (hr.mono (by decide)) (by rfl) T.g_l_pick T.F_l_pick.kp T.d_l_pick (fun σ => passAt (takes_of rfl rfl rfl rfl) σ) (pa_cons (pv 0) (pa_cons (pe_op op_add (pv 1) pe_int) (pa_cons pe_int pa_nil)))))))
      (pss_cons (ps_set (i := 5) nd rfl (Or.inl rfl) (pe_op op_mod (pe_callTy call_int1 (by rfl) T.b_int (by decide +kernel) (pa_cons (pv 5) pa_nil)) (pe_op op_add (pe_callB call_len_str (by rfl) T.b_len (by decide +kernel) (pa_cons (pv 2) pa_nil)) pe_int)))
      (pss_cons (ps_set (i := 6) nd rfl (Or.inl rfl) (pe_callS G_l_pick (hr.mono (by decide)) (by rfl) T.g_l_pick T.F_l_pick.kp T.d_l_pick (fun σ => passAt (takes_of rfl rfl rfl rfl) σ) (pa_cons (pv 0) (pa_cons (pv 1) (pa_cons pe_int pa_nil)))))
      (pss_cons (ps_if (pt_cmpR op_eq (pv 6) pe_int (nomark _))
        (pss_one (ps_ret (pe_op op_catS (pe_slice sl_str (pv 2) po_none (po_some (pv 5))) (pe_slice sl_str (pv 2) (po_some (pe_op op_add (pv 5) pe_int)) po_none))))
        pss_nil)
      (pss_cons (ps_if (PW.pt (pw_or (pt_cmpR op_eq (pv 6) pe_int (nomark _)) (pw_or1 (pt_cmpR op_eq (pv 6) pe_int (nomark _)))))
        (pss_one (ps_ret (pe_op op_catS (pe_op op_catS (pe_slice sl_str (pv 2) po_none (po_some (pv 5))) (pv 4)) (pe_slice sl_str (pv 2) (po_some (pv 5)) po_none))))
        pss_nil)
      (pss_cons (ps_if (pt_cmpR op_eq (pv 6) pe_int (nomark _))
        (pss_one (ps_ret (pe_op op_catS (pe_op op_catS (pe_slice sl_str (pv 2) po_none (po_some (pv 5))) (pv 4)) (pe_slice sl_str (pv 2) (po_some (pe_op op_add (pv 5) pe_int)) po_none))))
        pss_nil)
      (pss_cons (ps_if (pt_cmpR op_eq (pv 6) pe_int (nomark _))
        (pss_one (ps_ret (pe_slice sl_str (pv 2) po_none (po_some (pv 5)))))
        pss_nil)
      (pss_one (ps_ret (pe_op op_catS (pv 2) (pv 4))))))))))))), ?_⟩
  try dsimp only [cxOf]
  obtain ⟨extra, at_, text, nb, h⟩ := h
  refine Zm.body (js := [0, 1, 2, 3, 4, 5, 6]) (m := l_spoilt_m extra at_ text) nb h ?_
  refine zm_to (Γ2 := [(.val (dList (d := dInt)) extra), (.val dInt at_), (.val dStr text), .no, .no, .no, .no]) rfl ?_
  delta l_spoilt_m
  refine zm_set (i := 3) rfl (by decide) (we_eq (we_o (oe_lstN (wle_cons we_str (wle_cons we_str (wle_cons we_str (wle_cons we_str (wle_cons we_str (wle_cons we_str (wle_cons we_str (wle_cons we_str (wle_cons we_str (wle_cons we_str (wle_cons we_str (wle_cons we_str wle_nil)))))))))))) (asLenS (asLenS (asLenS (asLenS (asLenS (asLenS (asLenS (asLenS (asLenS (asLenS (asLenS (asLenS asLen0)))))))))))) (by decide))) rfl) fun menu_1 => ?_
  refine zm_set (i := 4) rfl (by decide) (we_eq (we_ix (we_var rfl) (re_w (we_call3 hs_l_pick rfl (we_var rfl) (we_add (re_w (we_var rfl)) (re_w we_int)) we_int))) rfl) fun sign_3 => ?_
  refine zm_set (i := 5) rfl (by decide) (we_eq (we_add (re_w (we_call3 hs_l_pick rfl (we_var rfl) (we_add (re_w (we_var rfl)) (re_w we_int)) we_int)) (re_w (we_mulCl (re_w we_int) (re_w (we_call3 hs_l_pick rfl (we_var rfl) (we_add (re_w (we_var rfl)) (re_w we_int)) we_int))))) rfl) fun place_7 => ?_
  refine zm_set (i := 5) rfl (by decide) (we_eq (we_mod (re_w (we_int1 (re_w (we_var rfl)))) (re_w (we_add (re_w (we_lenStr (re_w (we_var rfl)))) (re_w we_int)))) rfl) fun place_10 => ?_
  refine zm_set (i := 6) rfl (by decide) (we_eq (we_call3 hs_l_pick rfl (we_var rfl) (we_var rfl) we_int) rfl) fun deed_11 => ?_
  refine zm_ifP (te_eq (te_test (we_eqS (re_w (we_var rfl)) (re_w we_int))) rfl) ?_ ?_
  · exact zm_ret (we_eq (we_catS (we_slS (we_var rfl) toe_none (toe_some (re_w (we_var rfl)))) (we_slS (we_var rfl) (toe_some (re_w (we_add (re_w (we_var rfl)) (re_w we_int)))) toe_none)) rfl)
  · refine zm_skip ?_
    refine zm_ifP (te_eq (te_orP (te_test (we_eqS (re_w (we_var rfl)) (re_w we_int))) (te_test (we_eqS (re_w (we_var rfl)) (re_w we_int)))) rfl) ?_ ?_
    · exact zm_ret (we_eq (we_catS (we_catS (we_slS (we_var rfl) toe_none (toe_some (re_w (we_var rfl)))) (we_var rfl)) (we_slS (we_var rfl) (toe_some (re_w (we_var rfl))) toe_none)) rfl)
    · refine zm_skip ?_
      refine zm_ifP (te_eq (te_test (we_eqS (re_w (we_var rfl)) (re_w we_int))) rfl) ?_ ?_
      · exact zm_ret (we_eq (we_catS (we_catS (we_slS (we_var rfl) toe_none (toe_some (re_w (we_var rfl)))) (we_var rfl)) (we_slS (we_var rfl) (toe_some (re_w (we_add (re_w (we_var rfl)) (re_w we_int)))) toe_none)) rfl)
      · refine zm_skip ?_
        refine zm_ifP (te_eq (te_test (we_eqS (re_w (we_var rfl)) (re_w we_int))) rfl) ?_ ?_
        · exact zm_ret (we_eq (we_slS (we_var rfl) toe_none (toe_some (re_w (we_var rfl)))) rfl)
        · refine zm_skip ?_
          refine zm_last ?_
          exact zm_ret (we_eq (we_catS (we_var rfl) (we_var rfl)) rfl)
end K79

namespace K79
open PySem L2 G PM
set_option maxHeartbeats 4000000 in
theorem ok_l_is_letter {P : Program} {w : World} {K : PySem.W.Frag} {mg : Str → Option Value} {base : Heap} (T : Txt K mg w) : FnOk P w K mg base (L2.CX P w) 1 T.a_l_is_letter T.f_l_is_letter ["_law_sign"] (sp_l_is_letter ⟨P, w, K⟩ T.A) := by
  have nd := sc_l_is_letter.nd
  refine T.F_l_is_letter.okX sc_l_is_letter (fun vs H Q E h => ?_) (fun cdv A outer s H vs Q E hr h => ?_)
  · exact sp_l_is_letter_len h
  have hu := hu_of hr
  refine ⟨_, (pss_one (ps_ret (pe_cmpR op_inSg (pv 0) pe_str (by with_unfolding_all rfl)))), ?_⟩
  try dsimp only [cxOf]
  obtain ⟨sign, nb, h⟩ := h
  refine Zm.body (js := [0]) (m := l_is_letter_m sign) nb h ?_
  refine zm_to (Γ2 := [(.val dStr sign)]) rfl ?_
  delta l_is_letter_m
  refine zm_last ?_
  exact zm_ret (we_eq (we_inSg (we_var rfl) we_str) rfl)
end K79

namespace K79
open PySem L2 G PM
set_option maxHeartbeats 4000000 in
theorem ok_l_next {P : Program} {w : World} {K : PySem.W.Frag} {mg : Str → Option Value} {base : Heap} (T : Txt K mg w) (G_l_is_letter : FnOk P w K mg base (L2.CX P w) 1 T.a_l_is_letter T.f_l_is_letter ["_law_sign"] (sp_l_is_letter ⟨P, w, K⟩ T.A)) : FnOk P w K mg base (L2.CX P w) 2 T.a_l_next T.f_l_next ["_law_state", "_law_sign", "_law_stack"] (sp_l_next ⟨P, w, K⟩ T.A) := by
  have nd := sc_l_next.nd
  refine T.F_l_next.okX sc_l_next (fun vs H Q E h => ?_) (fun cdv A outer s H vs Q E hr h => ?_)
  · exact sp_l_next_len h
  have hu := hu_of hr
  refine ⟨_, (pss_cons (ps_if (PW.pt (pw_and (pt_cmpR op_eq (pv 0) pe_str (nomark _)) (pw_and1 (pt_cmpR op_eq (pv 1) pe_str (nomark _)))))
        (pss_cons (ps_expr (bm_K K PySem.F.plainAttrs_list PySem.F.slot_list_append PySem.F.type_list_append mt_append (pv 2) (pa_cons pe_int pa_nil)))
      (pss_one (ps_ret pe_str)))
        pss_nil)
      (pss_cons (ps_if (PW.pt (pw_and (PW.pt (pw_or (pt_cmpR op_eq (pv 0) pe_str (nomark _)) (pw_or1 (pt_cmpR op_eq (pv 0) pe_str (nomark _))))) (pw_and1 (pt_val (pe_callS G_l_is_letter (hr.mono (by decide)) (by rfl) T.g_l_is_letter T.F_l_is_letter.kp T.d_l_is_letter (fun σ => passAt (takes_of rfl rfl rfl rfl) σ) (pa_cons (pv 1) pa_nil))))))
        (pss_one (ps_ret pe_str))
        pss_nil)
      (pss_cons (ps_if (PW.pt (pw_and (pt_cmpR op_eq (pv 0) pe_str (nomark _)) (pw_and1 (pt_cmpR op_eq (pv 1) pe_str (nomark _)))))
        (pss_one (ps_ret pe_str))
        pss_nil)
      (pss_cons (ps_if (PW.pt (pw_and (PW.pt (pw_or (pt_cmpR op_eq (pv 0) pe_str (nomark _)) (pw_or1 (pt_cmpR op_eq (pv 0) pe_str (nomark _))))) (pw_and1 (pt_cmpR op_gt (pe_callB (len_K K) (by rfl) T.b_len (by decide +kernel) (pa_cons (pv 2) pa_nil)) pe_int (nomark _)))))
        (pss_cons (ps_if (PW.pt (pw_and (pt_cmpR op_eq (pe_ix (ix_lK K) (pv 2) (pe_un un_neg pe_int) (fun _ _ => rfl)) pe_int (nomark _)) (pw_and1 (pt_cmpR op_eq (pv 1) pe_str (nomark _)))))
        (pss_one (ps_ret pe_str))
        pss_nil)
      (pss_one (ps_if (PW.pt (pw_and (pt_cmpR op_eq (pe_ix (ix_lK K) (pv 2) (pe_un un_neg pe_int) (fun _ _ => rfl)) pe_int (nomark _)) (pw_and1 (pt_cmpR op_eq (pv 1) pe_str (nomark _)))))
        (pss_cons (ps_expr (bm0_K K PySem.F.plainAttrs_list PySem.F.slot_list_pop PySem.F.type_list_pop mt_pop (pv 2)))
      (pss_one (ps_ret pe_str)))
        pss_nil)))
        pss_nil)
      (pss_cons (ps_if (PW.pt (pw_and (pt_cmpR op_eq (pv 0) pe_str (nomark _)) (pw_and1 (PW.pt (pw_or (pt_cmpR op_eq (pv 1) pe_str (nomark _)) (pw_or1 (pt_cmpR op_eq (pv 1) pe_str (nomark _))))))))
        (pss_one (ps_ret pe_str))
        pss_nil)
      (pss_cons (ps_if (PW.pt (pw_and (pt_cmpR op_eq (pv 0) pe_str (nomark _)) (pw_and1 (pt_cmpR op_eq (pv 1) pe_str (nomark _)))))
        (pss_cons (ps_asg pe_int (pg_sub (pv 2) (pe_un un_neg pe_int) set_list))
      (pss_one (ps_ret pe_str)))
        pss_nil)
      (pss_one (ps_ret pe_str)))))))), ?_⟩
  try dsimp only [cxOf]
  obtain ⟨state, sign, stack, hy, h⟩ := h
  refine Zm.bodyM1 (tx := T.A.tx) (js := [0, 1, 2]) (p := 2) (Γ' := fun u2 => [(.val dStr state), (.val dStr sign), (.own (dList (d := dInt)) (oList (d := dInt)) (some u2) stack)]) (m := l_next_m state sign stack) (by obtain ⟨y, e⟩ := hy; rw [e]; exact fun z => nomatch z) rfl h hy (fun _ => rfl) fun u2 => ?_
  delta l_next_m
  refine zm_ifP (te_eq (te_andP (te_test (we_eqS (re_w (we_var rfl)) (re_w we_str))) (te_test (we_eqS (re_w (we_var rfl)) (re_w we_str)))) rfl) ?_ ?_
  · refine zm_assoc ?_
    refine zm_append (i := 2) rfl (by decide) (we_eq we_int rfl) fun stack_1 => ?_
    exact zm_retM (we_eq we_str rfl) rfl
  · refine zm_skip ?_
    refine zm_if (te_eq (te_and (te_orP (te_test (we_eqS (re_w (we_var rfl)) (re_w we_str))) (te_test (we_eqS (re_w (we_var rfl)) (re_w we_str)))) (te_B (we_call1 hs_l_is_letter rfl (we_var rfl)))) rfl) ?_ ?_
    · exact zm_retM (we_eq we_str rfl) rfl
    · refine zm_skip ?_
      refine zm_ifP (te_eq (te_andP (te_test (we_eqS (re_w (we_var rfl)) (re_w we_str))) (te_test (we_eqS (re_w (we_var rfl)) (re_w we_str)))) rfl) ?_ ?_
      · exact zm_retM (we_eq we_str rfl) rfl
      · refine zm_skip ?_
        refine zm_ifP (te_eq (te_andP (te_orP (te_test (we_eqS (re_w (we_var rfl)) (re_w we_str))) (te_test (we_eqS (re_w (we_var rfl)) (re_w we_str)))) (te_test (we_gt (re_w (we_len (re_varO rfl))) (re_w we_int)))) rfl) ?_ ?_
        · refine zm_assoc ?_
          refine zm_if (te_eq (te_and (te_test (we_eqS (re_w (we_ixO rfl (re_w (we_neg (re_w we_int))))) (re_w we_int))) (te_test (we_eqS (re_w (we_var rfl)) (re_w we_str)))) rfl) ?_ ?_
          · exact zm_retM (we_eq we_str rfl) rfl
          · refine zm_skip ?_
            refine zm_if (te_eq (te_and (te_test (we_eqS (re_w (we_ixO rfl (re_w (we_neg (re_w we_int))))) (re_w we_int))) (te_test (we_eqS (re_w (we_var rfl)) (re_w we_str)))) rfl) ?_ ?_
            · refine zm_assoc ?_
              refine zm_popLDrop (i := 2) rfl (by decide) fun p6 => ?_
              exact zm_retM (we_eq we_str rfl) rfl
            · refine zm_skip ?_
              refine zm_ifP (te_eq (te_andP (te_test (we_eqS (re_w (we_var rfl)) (re_w we_str))) (te_orP (te_test (we_eqS (re_w (we_var rfl)) (re_w we_str))) (te_test (we_eqS (re_w (we_var rfl)) (re_w we_str))))) rfl) ?_ ?_
              · exact zm_retM (we_eq we_str rfl) rfl
              · refine zm_skip ?_
                refine zm_ifP (te_eq (te_andP (te_test (we_eqS (re_w (we_var rfl)) (re_w we_str))) (te_test (we_eqS (re_w (we_var rfl)) (re_w we_str)))) rfl) ?_ ?_
                · refine zm_assoc ?_
                  refine zm_setIx (i := 2) rfl (by decide) (we_eq we_int rfl) (re_eq (re_w (we_neg (re_w we_int))) rfl) fun stack_7 => ?_
                  exact zm_retM (we_eq we_str rfl) rfl
                · refine zm_skip ?_
                  refine zm_last ?_
                  exact zm_retM (we_eq we_str rfl) rfl
        · refine zm_skip ?_
          refine zm_ifP (te_eq (te_andP (te_test (we_eqS (re_w (we_var rfl)) (re_w we_str))) (te_orP (te_test (we_eqS (re_w (we_var rfl)) (re_w we_str))) (te_test (we_eqS (re_w (we_var rfl)) (re_w we_str))))) rfl) ?_ ?_
          · exact zm_retM (we_eq we_str rfl) rfl
          · refine zm_skip ?_
            refine zm_ifP (te_eq (te_andP (te_test (we_eqS (re_w (we_var rfl)) (re_w we_str))) (te_test (we_eqS (re_w (we_var rfl)) (re_w we_str)))) rfl) ?_ ?_
            · refine zm_assoc ?_
              refine zm_setIx (i := 2) rfl (by decide) (we_eq we_int rfl) (re_eq (re_w (we_neg (re_w we_int))) rfl) fun stack_10 => ?_
              exact zm_retM (we_eq we_str rfl) rfl
            · refine zm_skip ?_
              refine zm_last ?_
              exact zm_retM (we_eq we_str rfl) rfl
end K79

namespace K79
open PySem L2 G PM
set_option maxHeartbeats 4000000 in
theorem ok_l_bad_sign {P : Program} {w : World} {K : PySem.W.Frag} {mg : Str → Option Value} {base : Heap} (T : Txt K mg w) (G_l_next : FnOk P w K mg base (L2.CX P w) 2 T.a_l_next T.f_l_next ["_law_state", "_law_sign", "_law_stack"] (sp_l_next ⟨P, w, K⟩ T.A)) : FnOk P w K mg base (L2.CX P w) 3 T.a_l_bad_sign T.f_l_bad_sign ["_law_text"] (sp_l_bad_sign ⟨P, w, K⟩ T.A) := by
  have nd := sc_l_bad_sign.nd
  refine T.F_l_bad_sign.okX sc_l_bad_sign (fun vs H Q E h => ?_) (fun cdv A outer s H vs Q E hr h => ?_)
  · exact sp_l_bad_sign_len h
  have hu := hu_of hr
  refine ⟨_, (pss_cons (ps_set (i := 1) nd rfl (Or.inl rfl) pe_str)
      (pss_cons (ps_set (i := 2) nd rfl (Or.inl rfl) (pe_lst pa_nil))
      (pss_cons (ps_for (passes_of rfl) rfl (pi_range1 (by rfl) T.b_range (pa_cons (pe_callB call_len_str (by rfl) T.b_len (by decide +kernel) (pa_cons (pv 0) pa_nil)) pa_nil)) (pg_name (i := 3) nd rfl (Or.inl rfl))
        (pss_cons (ps_set (i := 1) nd rfl (Or.inl rfl) (pe_callS G_l_next (hr.mono (by decide)) (by rfl) T.g_l_next T.F_l_next.kp T.d_l_next (fun σ => passAt (takes_of rfl rfl rfl rfl) σ) (pa_cons (pv 1) (pa_cons (pe_ix ix_str (pv 0) (pv 3) (fun _ _ => rfl)) (pa_cons (pv 2) pa_nil)))))
      (pss_one (ps_if (pt_cmpR op_eq (pv 1) pe_str (nomark _))
        (pss_one (ps_ret (pv 3)))
        pss_nil))))
      (pss_cons (ps_if (PW.pt (pw_and (PW.pt (pw_or (pt_cmpR op_eq (pv 1) pe_str (nomark _)) (pw_or1 (pt_cmpR op_eq (pv 1) pe_str (nomark _))))) (pw_and1 (pt_cmpR op_eq (pe_callB (len_K K) (by rfl) T.b_len (by decide +kernel) (pa_cons (pv 2) pa_nil)) pe_int (nomark _)))))
        (pss_one (ps_ret pe_non))
        pss_nil)
      (pss_one (ps_ret (pe_callB call_len_str (by rfl) T.b_len (by decide +kernel) (pa_cons (pv 0) pa_nil)))))))), ?_⟩
  try dsimp only [cxOf]
  obtain ⟨text, nb, h⟩ := h
  refine Zm.body (js := [0, 1, 2, 3]) (m := l_bad_sign_m text) nb h ?_
  refine zm_to (Γ2 := [(.val dStr text), .no, .no, .no]) rfl ?_
  delta l_bad_sign_m
  refine zm_set (i := 1) rfl (by decide) (we_eq we_str rfl) fun state_1 => ?_
  refine zm_setO (i := 2) rfl (by decide) (oe_eq (oe_lst0 (d := dInt)) rfl) fun stack_2 => ?_
  refine zm_forC [3] (fun s3 => [(.val dStr text), (.val dStr s3.1), (.own (dList (d := dInt)) (oList (d := dInt)) none s3.2), .no]) (fun r => .val (dOpt (d := dInt)) r) (state_1, stack_2) (wlen 4 (by exact rfl) (by exact rfl) (by decide)) rfl (fun _ => (wlen 4 (by exact rfl) (by exact rfl) (by decide))) (ie_eq (ie_range (re_w (we_lenStr (re_w (we_var rfl))))) rfl) (fun s3 x5 => (a_name rfl ⟨(wlen 4 (by exact rfl) (by exact rfl) (by decide)), ?_⟩)) rt_KF fun s9 => ?_
  · refine zm_setM1 (i := 1) (j := 2) rfl rfl rfl (by decide) (by decide) (mm_cons (we_eq (we_var rfl) rfl) fun a6 => (mm_cons (we_eq (we_ixS (we_var rfl) (we_var rfl)) rfl) fun a7 => (mm_own rfl (mm_nil fun nb => ⟨[_, _], [], rfl, hs_l_next nb⟩)))) fun p8 => ?_
    refine zm_last ?_
    refine zm_ifP (te_eq (te_test (we_eqS (re_w (we_var rfl)) (re_w we_str))) rfl) ?_ ?_
    · exact zm_retC (we_eq (we_some (we_var rfl)) rfl)
    · refine zm_skip ?_
      exact zm_nextC rfl
  · refine zm_ifP (te_eq (te_andP (te_orP (te_test (we_eqS (re_w (we_var rfl)) (re_w we_str))) (te_test (we_eqS (re_w (we_var rfl)) (re_w we_str)))) (te_test (we_eqS (re_w (we_len (re_varO rfl))) (re_w we_int)))) rfl) ?_ ?_
    · exact zm_ret (we_eq (we_nonO (d := dInt)) rfl)
    · refine zm_skip ?_
      refine zm_last ?_
      exact zm_ret (we_eq (we_some (we_lenStr (re_w (we_var rfl)))) rfl)
end K79

namespace K79
open PySem L2 G PM
set_option maxHeartbeats 4000000 in
theorem ok_l_read {P : Program} {w : World} {K : PySem.W.Frag} {mg : Str → Option Value} {base : Heap} (T : Txt K mg w) (G_l_is_letter : FnOk P w K mg base (L2.CX P w) 1 T.a_l_is_letter T.f_l_is_letter ["_law_sign"] (sp_l_is_letter ⟨P, w, K⟩ T.A)) : ∀ n : Nat, FnOk P w K mg base (L2.CX P w) (n + 2) T.a_l_read T.f_l_read ["_law_text", "_law_at"] (sp_l_read n ⟨P, w, K⟩ T.A) := by
  have nd := sc_l_read.nd
  intro n
  induction n with
  | zero =>
    refine T.F_l_read.okX sc_l_read (fun vs H Q E h => ?_) (fun cdv A outer s H vs Q E hr h => ?_)
    · exact sp_l_read_len h
    · obtain ⟨text, at_, nb, _⟩ := h; exact absurd rfl nb
  | succ fl G_l_read =>
    refine T.F_l_read.okX sc_l_read (fun vs H Q E h => ?_) (fun cdv A outer s H vs Q E hr h => ?_)
    · exact sp_l_read_len h
    have hu := hu_of hr
    refine ⟨_, (pss_cons (ps_if (pt_cmpR op_eq (pe_ix ix_str (pv 0) (pv 1) (fun _ _ => rfl)) pe_str (nomark _))
        (pss_cons (ps_asg (pe_callS G_l_read (hr.mono (by omega)) (by rfl) T.g_l_read T.F_l_read.kp T.d_l_read (fun σ => passAt (takes_of rfl rfl rfl rfl) σ) (pa_cons (pv 0) (pa_cons (pe_op op_add (pv 1) pe_int) pa_nil))) (pg_unlK (n := 2) K (by rfl) (pgs_cons (pg_name (i := 2) nd rfl (Or.inl rfl)) (pgs_cons (pg_name (i := 3) nd rfl (Or.inl rfl)) pgs_nil))))
      (pss_cons (ps_set (i := 4) nd rfl (Or.inl rfl) pe_str)
      (pss_cons (ps_if (pt_cmpR op_eq (pe_ix ix_str (pv 0) (pe_op op_add (pv 3) pe_int) (fun _ _ => rfl)) pe_str (nomark _))
        (pss_one (ps_set (i := 4) nd rfl (Or.inl rfl) pe_str))
        pss_nil)
      (pss_cons (ps_asg (pe_callS G_l_read (hr.mono (by omega)) (by rfl) T.g_l_read T.F_l_read.kp T.d_l_read (fun σ => passAt (takes_of rfl rfl rfl rfl) σ) (pa_cons (pv 0) (pa_cons (pe_op op_add (pv 3) pe_int) pa_nil))) (pg_unlK (n := 2) K (by rfl) (pgs_cons (pg_name (i := 5) nd rfl (Or.inl rfl)) (pgs_cons (pg_name (i := 6) nd rfl (Or.inl rfl)) pgs_nil))))
      (pss_one (ps_ret (pe_lst (pa_cons (pe_tup (pa_cons (pv 4) (pa_cons (pv 2) (pa_cons (pv 5) pa_nil)))) (pa_cons (pe_op op_add (pv 6) pe_int) pa_nil)))))))))
        pss_nil)
      (pss_cons (ps_set (i := 3) nd rfl (Or.inl rfl) (pv 1))
      (pss_cons (ps_while (passes_of rfl) (PW.pt (pw_and (pt_cmpR op_lt (pv 3) (pe_callB call_len_str (by rfl) T.b_len (by decide +kernel) (pa_cons (pv 0) pa_nil)) (nomark _)) (pw_and1 (pt_val (pe_callS G_l_is_letter (hr.mono (by omega)) (by rfl) T.g_l_is_letter T.F_l_is_letter.kp T.d_l_is_letter (fun σ => passAt (takes_of rfl rfl rfl rfl) σ) (pa_cons (pe_ix ix_str (pv 0) (pv 3) (fun _ _ => rfl)) pa_nil))))))
        (pss_one (ps_set (i := 3) nd rfl (Or.inl rfl) (pe_op op_add (pv 3) pe_int))))
      (pss_cons (ps_if (PW.pt (pw_and (pt_cmpR op_lt (pv 3) (pe_callB call_len_str (by rfl) T.b_len (by decide +kernel) (pa_cons (pv 0) pa_nil)) (nomark _)) (pw_and1 (pt_cmpR op_eq (pe_ix ix_str (pv 0) (pv 3) (fun _ _ => rfl)) pe_str (nomark _)))))
        (pss_one (ps_ret (pe_lst (pa_cons (pe_tup (pa_cons pe_str (pa_cons (pe_slice sl_str (pv 0) (po_some (pv 1)) (po_some (pv 3))) (pa_cons pe_bl pa_nil)))) (pa_cons (pe_op op_add (pv 3) pe_int) pa_nil)))))
        pss_nil)
      (pss_one (ps_ret (pe_lst (pa_cons (pe_tup (pa_cons pe_str (pa_cons (pe_slice sl_str (pv 0) (po_some (pv 1)) (po_some (pv 3))) (pa_cons pe_bl pa_nil)))) (pa_cons (pv 3) pa_nil))))))))), ?_⟩
    try dsimp only [cxOf]
    obtain ⟨text, at_, nb, h⟩ := h
    refine Zm.body (js := [0, 1, 2, 3, 4, 5, 6]) (m := l_read_m (fl + 1) text at_) nb h ?_
    refine zm_to (Γ2 := [(.val dStr text), (.val dInt at_), .no, .no, .no, .no, .no]) rfl ?_
    show Zm _ _ _ _ _ _ (l_read_step (l_read_m fl) text at_)
    delta l_read_step
    refine zm_if (te_eq (te_test (we_eqS (re_w (we_ixS (we_var rfl) (we_var rfl))) (re_w we_str))) rfl) ?_ ?_
    · refine zm_assoc ?_
      refine zm_setG (we_eq (we_o (oe_call2 hs_l_read rfl (we_var rfl) (we_add (re_w (we_var rfl)) (re_w we_int)))) rfl) fun t2 => (a_lp rfl (a_name rfl (a_name rfl ⟨(wlen 7 (by exact rfl) (by exact rfl) (by decide)), ?_⟩)))
      refine zm_assoc ?_
      refine zm_set (i := 4) rfl (by decide) (we_eq we_str rfl) fun word_3 => ?_
      refine zm_assoc ?_
      refine zm_join [] (fun s6 => [(.val dStr text), (.val dInt at_), (.val dUI t2.a), (.val dInt t2.b), (.val dStr s6), .no, .no]) (fun _ => (wlen 7 (by exact rfl) (by exact rfl) (by decide))) ?_ fun s6 => ?_
      · refine zm_last (zm_if (te_eq (te_test (we_eqS (re_w (we_ixS (we_var rfl) (we_add (re_w (we_var rfl)) (re_w we_int)))) (re_w we_str))) rfl) ?_ ?_)
        · refine zm_set (i := 4) rfl (by decide) (we_eq we_str rfl) fun word_5 => ?_
          exact zm_nextJ rfl
        · refine zm_skip ?_
          exact zm_nextJ rfl
      · refine zm_assoc ?_
        refine zm_setG (we_eq (we_o (oe_call2 hs_l_read rfl (we_var rfl) (we_add (re_w (we_var rfl)) (re_w we_int)))) rfl) fun t7 => (a_lp rfl (a_name rfl (a_name rfl ⟨(wlen 7 (by exact rfl) (by exact rfl) (by decide)), ?_⟩)))
        exact zm_retO (oe_eq (oe_lp (we_tupV3 (we_UI (we_var rfl)) (we_var rfl) (we_var rfl)) (we_add (re_w (we_var rfl)) (re_w we_int))) rfl)
    · refine zm_skip ?_
      refine zm_set (i := 3) rfl (by decide) (we_eq (we_var rfl) rfl) fun end__9 => ?_
      refine zm_while [] (fun s10 => [(.val dStr text), (.val dInt at_), .no, (.val dInt s10), .no, .no, .no]) end__9 rfl (fun _ => (wlen 7 (by exact rfl) (by exact rfl) (by decide))) (fun s10 => te_eq (te_and (te_test (we_lt (re_w (we_var rfl)) (re_w (we_lenStr (re_w (we_var rfl)))))) (te_B (we_call1 hs_l_is_letter rfl (we_ixS (we_var rfl) (we_var rfl))))) rfl) (fun s10 => ?_) fun s15 => ?_
      · refine zm_last ?_
        refine zm_set (i := 3) rfl (by decide) (we_eq (we_add (re_w (we_var rfl)) (re_w we_int)) rfl) fun end__14 => ?_
        exact zm_nextL rfl
      · refine zm_if (te_eq (te_and (te_test (we_lt (re_w (we_var rfl)) (re_w (we_lenStr (re_w (we_var rfl)))))) (te_test (we_eqS (re_w (we_ixS (we_var rfl) (we_var rfl))) (re_w we_str)))) rfl) ?_ ?_
        · exact zm_retO (oe_eq (oe_lp (we_tupV3 (we_UI we_str) (we_UI (we_slS (we_var rfl) (toe_some (re_w (we_var rfl))) (toe_some (re_w (we_var rfl))))) (we_UI we_bl)) (we_add (re_w (we_var rfl)) (re_w we_int))) rfl)
        · refine zm_skip ?_
          refine zm_last ?_
          exact zm_retO (oe_eq (oe_lp (we_tupV3 (we_UI we_str) (we_UI (we_slS (we_var rfl) (toe_some (re_w (we_var rfl))) (toe_some (re_w (we_var rfl))))) (we_UI we_bl)) (we_var rfl)) rfl)
end K79

namespace K79
open PySem L2 G PM
set_option maxHeartbeats 4000000 in
theorem ok_l_letters {P : Program} {w : World} {K : PySem.W.Frag} {mg : Str → Option Value} {base : Heap} (T : Txt K mg w) : ∀ n : Nat, FnOk P w K mg base (L2.CX P w) (n + 1) T.a_l_letters T.f_l_letters ["_law_shape_here"] (sp_l_letters n ⟨P, w, K⟩ T.A) := by
  have nd := sc_l_letters.nd
  intro n
  induction n with
  | zero =>
    refine T.F_l_letters.okX sc_l_letters (fun vs H Q E h => ?_) (fun cdv A outer s H vs Q E hr h => ?_)
    · exact sp_l_letters_len h
    · obtain ⟨shape_here, nb, _⟩ := h; exact absurd rfl nb
  | succ fl G_l_letters =>
    refine T.F_l_letters.okX sc_l_letters (fun vs H Q E h => ?_) (fun cdv A outer s H vs Q E hr h => ?_)
    · exact sp_l_letters_len h
    have hu := hu_of hr
    refine ⟨_, (pss_cons (ps_if (pt_cmpR op_eq (pe_ix (ix_qK K) (pv 0) pe_int (fun _ _ => rfl)) pe_str (nomark _))
        (pss_one (ps_ret (pe_lst (pa_cons (pe_tup (pa_cons (pe_ix (ix_qK K) (pv 0) pe_int (fun _ _ => rfl)) (pa_cons (pe_ix (ix_qK K) (pv 0) pe_int (fun _ _ => rfl)) pa_nil))) pa_nil))))
        pss_nil)
      (pss_one (ps_ret (pe_op op_catR (pe_callS G_l_letters (hr.mono (by omega)) (by rfl) T.g_l_letters T.F_l_letters.kp T.d_l_letters (fun σ => passAt (takes_of rfl rfl rfl rfl) σ) (pa_cons (pe_ix (ix_qK K) (pv 0) pe_int (fun _ _ => rfl)) pa_nil)) (pe_callS G_l_letters (hr.mono (by omega)) (by rfl) T.g_l_letters T.F_l_letters.kp T.d_l_letters (fun σ => passAt (takes_of rfl rfl rfl rfl) σ) (pa_cons (pe_ix (ix_qK K) (pv 0) pe_int (fun _ _ => rfl)) pa_nil)))))), ?_⟩
    try dsimp only [cxOf]
    obtain ⟨shape_here, nb, h⟩ := h
    refine Zm.body (js := [0]) (m := l_letters_m (fl + 1) shape_here) nb h ?_
    refine zm_to (Γ2 := [(.val dUI shape_here)]) rfl ?_
    show Zm _ _ _ _ _ _ (l_letters_step (l_letters_m fl) shape_here)
    delta l_letters_step
    refine zm_if (te_eq (te_test (we_eqS (re_w (we_ofU (we_ixQ (we_sqU (we_ui2u (we_var rfl))) (re_w we_int)))) (re_w we_str))) rfl) ?_ ?_
    · exact zm_retO (oe_eq (oe_lstN (wle_cons (we_tup2 (we_ofU (we_ixQ (we_sqU (we_ui2u (we_var rfl))) (re_w we_int))) (we_ofU (we_ixQ (we_sqU (we_ui2u (we_var rfl))) (re_w we_int)))) wle_nil) (asLenS asLen0) (by decide)) rfl)
    · refine zm_skip ?_
      refine zm_last ?_
      exact zm_retO (oe_eq (oe_cat (we_o (oe_call1 hs_l_letters rfl (we_ofU (we_ixQ (we_sqU (we_ui2u (we_var rfl))) (re_w we_int))))) (we_o (oe_call1 hs_l_letters rfl (we_ofU (we_ixQ (we_sqU (we_ui2u (we_var rfl))) (re_w we_int)))))) rfl)
end K79

namespace K79
open PySem L2 G PM
set_option maxHeartbeats 4000000 in
theorem ok_l_due {P : Program} {w : World} {K : PySem.W.Frag} {mg : Str → Option Value} {base : Heap} (T : Txt K mg w) (G_l_bad_sign : FnOk P w K mg base (L2.CX P w) 3 T.a_l_bad_sign T.f_l_bad_sign ["_law_text"] (sp_l_bad_sign ⟨P, w, K⟩ T.A)) (G_l_read : ∀ n : Nat, FnOk P w K mg base (L2.CX P w) (n + 2) T.a_l_read T.f_l_read ["_law_text", "_law_at"] (sp_l_read n ⟨P, w, K⟩ T.A)) (G_l_letters : ∀ n : Nat, FnOk P w K mg base (L2.CX P w) (n + 1) T.a_l_letters T.f_l_letters ["_law_shape_here"] (sp_l_letters n ⟨P, w, K⟩ T.A)) : FnOk P w K mg base (L2.CX P w) 53 T.a_l_due T.f_l_due ["_law_text"] (sp_l_due ⟨P, w, K⟩ T.A) := by
  have nd := sc_l_due.nd
  refine T.F_l_due.okX sc_l_due (fun vs H Q E h => ?_) (fun cdv A outer s H vs Q E hr h => ?_)
  · exact sp_l_due_len h
  have hu := hu_of hr
  refine ⟨_, (pss_cons (ps_set (i := 1) nd rfl (Or.inl rfl) (pe_callS G_l_bad_sign (hr.mono (by decide)) (by rfl) T.g_l_bad_sign T.F_l_bad_sign.kp T.d_l_bad_sign (fun σ => passAt (takes_of rfl rfl rfl rfl) σ) (pa_cons (pv 0) pa_nil)))
      (pss_cons (ps_if (pt_cmpR op_notN (pv 1) pe_non (nomark _))
        (pss_one (ps_ret (pe_tup (pa_cons pe_str (pa_cons (pv 1) pa_nil)))))
        pss_nil)
      (pss_cons (ps_set (i := 2) nd rfl (Or.inl rfl) (pe_ix (ix_lK K) (pe_callS (G_l_read 50) (hr.mono (by decide)) (by rfl) T.g_l_read T.F_l_read.kp T.d_l_read (fun σ => passAt (takes_of rfl rfl rfl rfl) σ) (pa_cons (pv 0) (pa_cons pe_int pa_nil))) pe_int (fun _ _ => rfl)))
      (pss_cons (ps_set (i := 3) nd rfl (Or.inl rfl) (pe_callS (G_l_letters 44) (hr.mono (by decide)) (by rfl) T.g_l_letters T.F_l_letters.kp T.d_l_letters (fun σ => passAt (takes_of rfl rfl rfl rfl) σ) (pa_cons (pv 2) pa_nil)))
      (pss_cons (ps_if (pt_cmpR op_gt (pe_callB (len_K K) (by rfl) T.b_len (by decide +kernel) (pa_cons (pv 3) pa_nil)) pe_int (nomark _))
        (pss_one (ps_ret (pe_tup (pa_cons pe_str (pa_cons pe_int pa_nil)))))
        pss_nil)
      (pss_cons (ps_for (passes_of rfl) rfl (pi_lK K (pv 3)) (pg_tupK (n := 2) K (by rfl) (pgs_cons (pg_name (i := 4) nd rfl (Or.inl rfl)) (pgs_cons (pg_name (i := 5) nd rfl (Or.inl rfl)) pgs_nil)))
        (pss_one (ps_if (pt_cmpR op_gt (pe_callB call_len_str (by rfl) T.b_len (by decide +kernel) (pa_cons (pv 4) pa_nil)) pe_int (nomark _))
        (pss_one (ps_ret (pe_tup (pa_cons pe_str (pa_cons (pv 4) pa_nil)))))
        pss_nil)))
      (pss_one (ps_ret (pe_tup (pa_cons pe_str (pa_cons (pv 2) pa_nil))))))))))), ?_⟩
  try dsimp only [cxOf]
  obtain ⟨text, nb, h⟩ := h
  refine Zm.body (js := [0, 1, 2, 3, 4, 5]) (m := l_due_m text) nb h ?_
  refine zm_to (Γ2 := [(.val dStr text), .no, .no, .no, .no, .no]) rfl ?_
  delta l_due_m
  refine zm_set (i := 1) rfl (by decide) (we_eq (we_call1 hs_l_bad_sign rfl (we_var rfl)) rfl) fun sign_1 => ?_
  refine zm_ifP (te_eq (te_test (we_notN (re_w (we_var rfl)))) rfl) ?_ ?_
  · refine zm_narrow (i := 1) rfl (by decide) fun z2 => ?_
    exact zm_ret (we_eq (we_tupV2 (we_UI we_str) (we_UI (we_var rfl))) rfl)
  · refine zm_skip ?_
    refine zm_set (i := 2) rfl (by decide) (we_eq (we_lp0 (we_o (oe_call2 hs_l_read rfl (we_var rfl) we_int))) rfl) fun shape_here_4 => ?_
    refine zm_set (i := 3) rfl (by decide) (we_eq (we_o (oe_call1 hs_l_letters rfl (we_var rfl))) rfl) fun letters_here_5 => ?_
    refine zm_ifP (te_eq (te_test (we_gt (re_w (we_len (re_w (we_var rfl)))) (re_w we_int))) rfl) ?_ ?_
    · exact zm_ret (we_eq (we_tupV2 (we_UI we_str) (we_UI we_int)) rfl)
    · refine zm_skip ?_
      refine zm_forC [4, 5] (fun (_ : Unit) => [(.val dStr text), (.val (dOpt (d := dInt)) sign_1), (.val dUI shape_here_4), (.val (dList (d := (dPair (d1 := dStr) (d2 := dBool)))) letters_here_5), .no, .no]) (fun r => .val dUI r) () (wlen 6 (by exact rfl) (by exact rfl) (by decide)) rfl (fun _ => (wlen 6 (by exact rfl) (by exact rfl) (by decide))) (ie_eq (ie_list (we_var rfl)) rfl) (fun _ x7 => (a_pair rfl (a_name rfl (a_name rfl ⟨(wlen 6 (by exact rfl) (by exact rfl) (by decide)), ?_⟩)))) rt_KF fun _ => ?_
      · refine zm_last ?_
        refine zm_if (te_eq (te_test (we_gt (re_w (we_lenStr (re_w (we_var rfl)))) (re_w we_int))) rfl) ?_ ?_
        · exact zm_retC (we_eq (we_tupV2 (we_UI we_str) (we_UI (we_var rfl))) rfl)
        · refine zm_skip ?_
          exact zm_nextC rfl
      · refine zm_last ?_
        exact zm_ret (we_eq (we_tupV2 (we_UI we_str) (we_var rfl)) rfl)
end K79

namespace K79
open PySem L2 G PM
set_option maxHeartbeats 4000000 in
theorem ok_law {P : Program} {w : World} {K : PySem.W.Frag} {mg : Str → Option Value} {base : Heap} (T : Txt K mg w) (G_l_cell : FnOk P w K mg base (L2.CX P w) 1 T.a_l_cell T.f_l_cell ["_law_script", "_law_k"] (sp_l_cell ⟨P, w, K⟩ T.A)) (G_l_draws : FnOk P w K mg base (L2.CX P w) 1 T.a_l_draws T.f_l_draws ["_law_cell_here", "_law_many"] (sp_l_draws ⟨P, w, K⟩ T.A)) (G_l_pick : FnOk P w K mg base (L2.CX P w) 1 T.a_l_pick T.f_l_pick ["_law_draws_here", "_law_k", "_law_many"] (sp_l_pick ⟨P, w, K⟩ T.A)) (G_l_names : FnOk P w K mg base (L2.CX P w) 3 T.a_l_names T.f_l_names ["_law_draws_here", "_law_extra", "_law_many"] (sp_l_names ⟨P, w, K⟩ T.A)) (G_l_shape : FnOk P w K mg base (L2.CX P w) 2 T.a_l_shape T.f_l_shape ["_law_draws_here", "_law_at", "_law_letters_here"] (sp_l_shape ⟨P, w, K⟩ T.A)) (G_l_write : ∀ n : Nat, FnOk P w K mg base (L2.CX P w) (n + 1) T.a_l_write T.f_l_write ["_law_shape_here"] (sp_l_write n ⟨P, w, K⟩ T.A)) (G_m_KindX_initX : FnOk P w K mg base (L2.CX P w) 3 T.a_m_KindX_initX T.f_m_KindX_initX ["self", "shape"] (sp_m_KindX_initX ⟨P, w, K⟩ T.A)) (G_p_format_kind : FnOk P w K mg base (L2.CX P w) 46 T.a_p_format_kind T.f_p_format_kind ["kind"] (sp_p_format_kind ⟨P, w, K⟩ T.A)) (G_l_told : FnOk P w K mg base (L2.CX P w) 56 T.a_l_told T.f_l_told ["_law_text"] (sp_l_told ⟨P, w, K⟩ T.A)) (G_l_spoilt : FnOk P w K mg base (L2.CX P w) 2 T.a_l_spoilt T.f_l_spoilt ["_law_extra", "_law_at", "_law_text"] (sp_l_spoilt ⟨P, w, K⟩ T.A)) (G_l_due : FnOk P w K mg base (L2.CX P w) 53 T.a_l_due T.f_l_due ["_law_text"] (sp_l_due ⟨P, w, K⟩ T.A)) : FnOk P w K mg base CX0 57 T.a_law T.f_law ["_law_script"] (sp_law ⟨P, w, K⟩) := by
  have nd := sc_law.nd
  refine T.F_law.ok sc_law (fun vs H Q E h => ?_) (fun cdv A outer s H vs Q E hr h => ?_)
  · exact sp_law_len h
  have hu := hu_of hr
  refine ⟨_, (pss_cons (ps_set (i := 1) nd rfl (Or.inr rfl) (pe_callS G_l_draws (hr.mono (by decide)) (by rfl) T.g_l_draws T.F_l_draws.kp T.d_l_draws (fun σ => passFS σ) (pa_cons (pe_callS G_l_cell (hr.mono (by decide)) (by rfl) T.g_l_cell T.F_l_cell.kp T.d_l_cell (fun σ => passFS σ) (pa_cons (pv 0) (pa_cons pe_int pa_nil))) (pa_cons pe_int pa_nil))))
      (pss_cons (ps_set (i := 2) nd rfl (Or.inl rfl) (pe_callS G_l_draws (hr.mono (by decide)) (by rfl) T.g_l_draws T.F_l_draws.kp T.d_l_draws (fun σ => passFS σ) (pa_cons (pe_callS G_l_cell (hr.mono (by decide)) (by rfl) T.g_l_cell T.F_l_cell.kp T.d_l_cell (fun σ => passFS σ) (pa_cons (pv 0) (pa_cons pe_int pa_nil))) (pa_cons pe_int pa_nil))))
      (pss_cons (ps_set (i := 3) nd rfl (Or.inl rfl) (pe_op op_add pe_int (pe_callS G_l_pick (hr.mono (by decide)) (by rfl) T.g_l_pick T.F_l_pick.kp T.d_l_pick (fun σ => passFS σ) (pa_cons (pv 2) (pa_cons pe_int (pa_cons pe_int pa_nil))))))
      (pss_cons (ps_if (pt_cmpR op_eq (pe_callS G_l_pick (hr.mono (by decide)) (by rfl) T.g_l_pick T.F_l_pick.kp T.d_l_pick (fun σ => passFS σ) (pa_cons (pv 2) (pa_cons pe_int (pa_cons pe_int pa_nil)))) pe_int (nomark _))
        (pss_one (ps_set (i := 3) nd rfl (Or.inl rfl) (pe_op op_add pe_int (pe_callS G_l_pick (hr.mono (by decide)) (by rfl) T.g_l_pick T.F_l_pick.kp T.d_l_pick (fun σ => passFS σ) (pa_cons (pv 2) (pa_cons pe_int (pa_cons pe_int pa_nil)))))))
        pss_nil)
      (pss_cons (ps_set (i := 4) nd rfl (Or.inr rfl) (pe_callS G_l_names (hr.mono (by decide)) (by rfl) T.g_l_names T.F_l_names.kp T.d_l_names (fun σ => passFS σ) (pa_cons (pv 1) (pa_cons (pv 2) (pa_cons (pv 3) pa_nil)))))
      (pss_cons (ps_set (i := 5) nd rfl (Or.inr rfl) (pe_lc (own := [("_law_k", 10)]) (by rfl) nd (pi_range1 (by rfl) T.b_range (pa_cons (pv 3) pa_nil)) (blkOk_by (own := [("_law_k", 10)]) (N := N_law) (sc := defScope s_law) (by decide +kernel)) (fun _ _ _ _ _ => (pg_name (i := 10) nd rfl (Or.inl rfl))) (fun _ _ _ _ _ => pts_nil) (fun _ _ _ _ _ => (pe_cmpR op_eq (pe_callS G_l_pick (hr.mono (by decide)) (by rfl) T.g_l_pick T.F_l_pick.kp T.d_l_pick (fun σ => passFS σ) (pa_cons (pv 1) (pa_cons (pe_op op_add pe_int (pv 10)) (pa_cons pe_int pa_nil)))) pe_int (nomark _)))))
      (pss_cons (ps_set (i := 6) nd rfl (Or.inl rfl) (pe_callS G_l_shape (hr.mono (by decide)) (by rfl) T.g_l_shape T.F_l_shape.kp T.d_l_shape (fun σ => passFS σ) (pa_cons (pv 1) (pa_cons pe_int (pa_cons (pe_lc (own := [("_law_k", 10)]) (by rfl) nd (pi_range1 (by rfl) T.b_range (pa_cons (pv 3) pa_nil)) (blkOk_by (own := [("_law_k", 10)]) (N := N_law) (sc := defScope s_law) (by decide +kernel)) (fun _ _ _ _ _ => (pg_name (i := 10) nd rfl (Or.inl rfl))) (fun _ _ _ _ _ => pts_nil) (fun _ _ _ _ _ => (pe_tup (pa_cons pe_str (pa_cons (pe_ix (ix_lK K) (pv 4) (pv 10) (fun _ _ => rfl)) (pa_cons (pe_ix (ix_lK K) (pv 5) (pv 10) (fun _ _ => rfl)) pa_nil)))))) pa_nil)))))
      (pss_cons (ps_set (i := 7) nd rfl (Or.inl rfl) (pe_callS (G_l_write 44) (hr.mono (by decide)) (by rfl) T.g_l_write T.F_l_write.kp T.d_l_write (fun σ => passFS σ) (pa_cons (pv 6) pa_nil)))
      (pss_cons (ps_if (pt_cmpR op_le (pv 3) pe_int (nomark _))
        (pss_cons (ps_set (i := 8) nd rfl (Or.inl rfl) (pe_callS G_p_format_kind (hr.mono (by decide)) (by rfl) T.g_p_format_kind T.F_p_format_kind.kp T.d_p_format_kind (fun σ => passFS σ) (pa_cons (pe_makeS T.mk_Kind G_m_KindX_initX (hr.mono (by decide)) (by rfl) T.g_Kind T.d_m_KindX_initX (fun σ => passFS σ) (pa_cons (pv 6) pa_nil)) pa_nil)))
      (pss_one (ps_if (PW.pt (pw_or (pt_not (pt_val (pe_callB (isi_K K) (by rfl) T.b_isinstance (by decide +kernel) (pa_cons (pv 8) (pa_cons (pe_bltn (v := .ty "str") (by rfl) T.b_str (by decide +kernel) rfl) pa_nil))))) (pw_or (pt_cmpR op_ne (pv 8) (pv 7) (nomark _)) (pw_or1 (pt_cmpR (op_neDK K (hu64 hr)) (pe_callS G_l_told (hr.mono (by decide)) (by rfl) T.g_l_told T.F_l_told.kp T.d_l_told (fun σ => passFS σ) (pa_cons (pv 7) pa_nil)) (pe_tup (pa_cons pe_str (pa_cons (pv 6) pa_nil))) (nomark _))))))
        (pss_one (ps_ret pe_bl))
        pss_nil)))
        pss_nil)
      (pss_cons (ps_if (pt_cmpR op_eq (pe_callS G_l_pick (hr.mono (by decide)) (by rfl) T.g_l_pick T.F_l_pick.kp T.d_l_pick (fun σ => passFS σ) (pa_cons (pv 2) (pa_cons pe_int (pa_cons pe_int pa_nil)))) pe_int (nomark _))
        (pss_cons (ps_set (i := 9) nd rfl (Or.inl rfl) (pe_callS G_l_pick (hr.mono (by decide)) (by rfl) T.g_l_pick T.F_l_pick.kp T.d_l_pick (fun σ => passFS σ) (pa_cons (pv 2) (pa_cons pe_int (pa_cons (pv 3) pa_nil)))))
      (pss_cons (ps_asg (pe_op op_catS (pe_op op_catS (pe_ix (ix_lK K) (pv 4) (pv 9) (fun _ _ => rfl)) pe_str) (pe_ix ix_str pe_str (pe_callS G_l_pick (hr.mono (by decide)) (by rfl) T.g_l_pick T.F_l_pick.kp T.d_l_pick (fun σ => passFS σ) (pa_cons (pv 2) (pa_cons pe_int (pa_cons pe_int pa_nil)))) (fun _ _ => rfl))) (pg_sub (pv 4) (pv 9) set_list))
      (pss_one (ps_set (i := 7) nd rfl (Or.inl rfl) (pe_callS (G_l_write 44) (hr.mono (by decide)) (by rfl) T.g_l_write T.F_l_write.kp T.d_l_write (fun σ => passFS σ) (pa_cons (pe_callS G_l_shape (hr.mono (by decide)) (by rfl) T.g_l_shape T.F_l_shape.kp T.d_l_shape (fun σ => passFS σ) (pa_cons (pv 1) (pa_cons pe_int (pa_cons (pe_lc (own := [("_law_k", 10)]) (by rfl) nd (pi_range1 (by rfl) T.b_range (pa_cons (pv 3) pa_nil)) (blkOk_by (own := [("_law_k", 10)]) (N := N_law) (sc := defScope s_law) (by decide +kernel)) (fun _ _ _ _ _ => (pg_name (i := 10) nd rfl (Or.inl rfl))) (fun _ _ _ _ _ => pts_nil) (fun _ _ _ _ _ => (pe_tup (pa_cons pe_str (pa_cons (pe_ix (ix_lK K) (pv 4) (pv 10) (fun _ _ => rfl)) (pa_cons (pe_ix (ix_lK K) (pv 5) (pv 10) (fun _ _ => rfl)) pa_nil)))))) pa_nil)))) pa_nil))))))
        pss_nil)
      (pss_cons (ps_if (pt_cmpR op_gt (pe_callS G_l_pick (hr.mono (by decide)) (by rfl) T.g_l_pick T.F_l_pick.kp T.d_l_pick (fun σ => passFS σ) (pa_cons (pv 2) (pa_cons pe_int (pa_cons pe_int pa_nil)))) pe_int (nomark _))
        (pss_cons (ps_set (i := 7) nd rfl (Or.inl rfl) (pe_callS G_l_spoilt (hr.mono (by decide)) (by rfl) T.g_l_spoilt T.F_l_spoilt.kp T.d_l_spoilt (fun σ => passFS σ) (pa_cons (pv 2) (pa_cons pe_int (pa_cons (pv 7) pa_nil)))))
      (pss_one (ps_if (pt_cmpR op_eq (pe_callS G_l_pick (hr.mono (by decide)) (by rfl) T.g_l_pick T.F_l_pick.kp T.d_l_pick (fun σ => passFS σ) (pa_cons (pv 2) (pa_cons pe_int (pa_cons pe_int pa_nil)))) pe_int (nomark _))
        (pss_one (ps_set (i := 7) nd rfl (Or.inl rfl) (pe_callS G_l_spoilt (hr.mono (by decide)) (by rfl) T.g_l_spoilt T.F_l_spoilt.kp T.d_l_spoilt (fun σ => passFS σ) (pa_cons (pv 2) (pa_cons pe_int (pa_cons (pv 7) pa_nil))))))
        pss_nil)))
        pss_nil)
      (pss_one (ps_ret (pe_and (pe_cmpR (op_eqDK K (hu64 hr)) (pe_callS G_l_told (hr.mono (by decide)) (by rfl) T.g_l_told T.F_l_told.kp T.d_l_told (fun σ => passFS σ) (pa_cons (pv 7) pa_nil)) (pe_callS G_l_due (hr.mono (by decide)) (by rfl) T.g_l_due T.F_l_due.kp T.d_l_due (fun σ => passFS σ) (pa_cons (pv 7) pa_nil)) (nomark _)) (pe_one (pe_cmpR (op_eqDK K (hu64 hr)) (pe_callS G_l_told (hr.mono (by decide)) (by rfl) T.g_l_told T.F_l_told.kp T.d_l_told (fun σ => passFS σ) (pa_cons (pv 7) pa_nil)) (pe_callS G_l_due (hr.mono (by decide)) (by rfl) T.g_l_due T.F_l_due.kp T.d_l_due (fun σ => passFS σ) (pa_cons (pv 7) pa_nil)) (nomark _))))))))))))))))), ?_⟩
  try dsimp only [cxOf]
  obtain ⟨script, e, h⟩ := h
  refine Zm.body0 (tx := T.A.tx) (js := [0, 1, 2, 3, 4, 5, 6, 7, 8, 9, 10]) (m := law_m script) e h ?_
  refine zm_to (Γ2 := [(.val (dSq (d := dInt)) script), .no, .no, .no, .no, .no, .no, .no, .no, .no, .no]) rfl ?_
  delta law_m
  refine zm_set (i := 1) rfl (by decide) (we_eq (we_o (oe_call2 hs_l_draws rfl (we_call2 hs_l_cell rfl (we_var rfl) we_int) we_int)) rfl) fun draws_here_2 => ?_
  refine zm_set (i := 2) rfl (by decide) (we_eq (we_o (oe_call2 hs_l_draws rfl (we_call2 hs_l_cell rfl (we_var rfl) we_int) we_int)) rfl) fun extra_4 => ?_
  refine zm_set (i := 3) rfl (by decide) (we_eq (we_add (re_w we_int) (re_w (we_call3 hs_l_pick rfl (we_var rfl) we_int we_int))) rfl) fun many_6 => ?_
  refine zm_join [] (fun s10 => [(.val (dSq (d := dInt)) script), (.val (dList (d := dInt)) draws_here_2), (.val (dList (d := dInt)) extra_4), (.val dInt s10), .no, .no, .no, .no, .no, .no, .no]) (fun _ => (wlen 11 (by exact rfl) (by exact rfl) (by decide))) ?_ fun s10 => ?_
  · refine zm_last (zm_if (te_eq (te_test (we_eqS (re_w (we_call3 hs_l_pick rfl (we_var rfl) we_int we_int)) (re_w we_int))) rfl) ?_ ?_)
    · refine zm_set (i := 3) rfl (by decide) (we_eq (we_add (re_w we_int) (re_w (we_call3 hs_l_pick rfl (we_var rfl) we_int we_int))) rfl) fun many_9 => ?_
      exact zm_nextJ rfl
    · refine zm_skip ?_
      exact zm_nextJ rfl
  · refine zm_setO (i := 4) rfl (by decide) (oe_eq (oe_call3 hs_l_names rfl (we_var rfl) (we_var rfl) (we_var rfl)) rfl) fun names_here_11 => ?_
    refine zm_set (i := 5) rfl (by decide) (we_eq (we_o (oe_lc (tg_name' (by decide)) (ic_range (re_w (we_var rfl))) fun x12 => (a_name rfl ⟨te_yes, (we_eqS (re_w (we_call3 hs_l_pick rfl (we_var rfl) (we_add (re_w we_int) (re_w (we_var rfl))) we_int)) (re_w we_int))⟩))) rfl) fun signs_14 => ?_
    refine zm_set (i := 6) rfl (by decide) (we_eq (we_call3 hs_l_shape rfl (we_var rfl) we_int (we_o (oe_lc (tg_name' (by decide)) (ic_range (re_w (we_var rfl))) fun x20 => (a_name rfl ⟨te_yes, (we_tupV3 (we_UI we_str) (we_UI (we_ixO rfl (re_w (we_var rfl)))) (we_UI (we_ix (we_var rfl) (re_w (we_var rfl)))))⟩)))) rfl) fun shape_here_26 => ?_
    refine zm_set (i := 7) rfl (by decide) (we_eq (we_call1 hs_l_write rfl (we_var rfl)) rfl) fun text_27 => ?_
    refine zm_ifP (te_eq (te_test (we_le (re_w (we_var rfl)) (re_w we_int))) rfl) ?_ ?_
    · refine zm_assoc ?_
      refine zm_set (i := 8) rfl (by decide) (we_eq (we_call1 hs_p_format_kind rfl (we_o (oe_make1 hs_m_KindX_initX rfl (we_var rfl)))) rfl) fun written_29 => ?_
      refine zm_if (te_eq (te_or (te_not (te_B (we_isi (b := true) (kit_ty (by decide +kernel)) (re_w (we_var rfl))))) (te_or (te_test (we_neS (re_w (we_var rfl)) (re_w (we_var rfl)))) (te_test (we_neU (re_w (we_ui2u (we_call1 hs_l_told rfl (we_var rfl)))) (re_w (we_U (we_tup2 we_str (we_ui2u (we_var rfl))))))))) rfl) ?_ ?_
      · exact zm_ret (we_eq we_bl rfl)
      · refine zm_skip ?_
        refine zm_join [4, 9] (fun s62 => [(.val (dSq (d := dInt)) script), (.val (dList (d := dInt)) draws_here_2), (.val (dList (d := dInt)) extra_4), (.val dInt s10), .no, (.val (dList (d := dBool)) signs_14), (.val dUI shape_here_26), (.val dStr s62), (.val dStr written_29), .no, .no]) (fun _ => (wlen 11 (by exact rfl) (by exact rfl) (by decide))) ?_ fun s62 => ?_
        · refine zm_last (zm_if (te_eq (te_test (we_eqS (re_w (we_call3 hs_l_pick rfl (we_var rfl) we_int we_int)) (re_w we_int))) rfl) ?_ ?_)
          · refine zm_assoc ?_
            refine zm_set (i := 9) rfl (by decide) (we_eq (we_call3 hs_l_pick rfl (we_var rfl) we_int (we_var rfl)) rfl) fun place_32 => ?_
            refine zm_assoc ?_
            refine zm_setIx (i := 4) rfl (by decide) (we_eq (we_catS (we_catS (we_ixO rfl (re_w (we_var rfl))) we_str) (we_ixS we_str (we_call3 hs_l_pick rfl (we_var rfl) we_int we_int))) rfl) (re_eq (re_w (we_var rfl)) rfl) fun names_here_37 => ?_
            refine zm_set (i := 7) rfl (by decide) (we_eq (we_call1 hs_l_write rfl (we_call3 hs_l_shape rfl (we_var rfl) we_int (we_o (oe_lc (tg_name' (by decide)) (ic_range (re_w (we_var rfl))) fun x54 => (a_name rfl ⟨te_yes, (we_tupV3 (we_UI we_str) (we_UI (we_ixO rfl (re_w (we_var rfl)))) (we_UI (we_ix (we_var rfl) (re_w (we_var rfl)))))⟩))))) rfl) fun text_61 => ?_
            exact zm_nextJ rfl
          · refine zm_skip ?_
            exact zm_nextJ rfl
        · refine zm_join [] (fun s68 => [(.val (dSq (d := dInt)) script), (.val (dList (d := dInt)) draws_here_2), (.val (dList (d := dInt)) extra_4), (.val dInt s10), .no, (.val (dList (d := dBool)) signs_14), (.val dUI shape_here_26), (.val dStr s68), (.val dStr written_29), .no, .no]) (fun _ => (wlen 11 (by exact rfl) (by exact rfl) (by decide))) ?_ fun s68 => ?_
          · refine zm_last (zm_if (te_eq (te_test (we_gt (re_w (we_call3 hs_l_pick rfl (we_var rfl) we_int we_int)) (re_w we_int))) rfl) ?_ ?_)
            · refine zm_assoc ?_
              refine zm_set (i := 7) rfl (by decide) (we_eq (we_call3 hs_l_spoilt rfl (we_var rfl) we_int (we_var rfl)) rfl) fun text_64 => ?_
              refine zm_if (te_eq (te_test (we_eqS (re_w (we_call3 hs_l_pick rfl (we_var rfl) we_int we_int)) (re_w we_int))) rfl) ?_ ?_
              · refine zm_set (i := 7) rfl (by decide) (we_eq (we_call3 hs_l_spoilt rfl (we_var rfl) we_int (we_var rfl)) rfl) fun text_66 => ?_
                exact zm_nextJ rfl
              · refine zm_skip ?_
                exact zm_nextJ rfl
            · refine zm_skip ?_
              exact zm_nextJ rfl
          · refine zm_last ?_
            exact zm_ret (we_eq (we_and (we_eqU (re_w (we_ui2u (we_call1 hs_l_told rfl (we_var rfl)))) (re_w (we_ui2u (we_call1 hs_l_due rfl (we_var rfl))))) (we_eqU (re_w (we_ui2u (we_call1 hs_l_told rfl (we_var rfl)))) (re_w (we_ui2u (we_call1 hs_l_due rfl (we_var rfl)))))) rfl)
    · refine zm_skip ?_
      refine zm_join [4, 9] (fun s108 => [(.val (dSq (d := dInt)) script), (.val (dList (d := dInt)) draws_here_2), (.val (dList (d := dInt)) extra_4), (.val dInt s10), .no, (.val (dList (d := dBool)) signs_14), (.val dUI shape_here_26), (.val dStr s108), .no, .no, .no]) (fun _ => (wlen 11 (by exact rfl) (by exact rfl) (by decide))) ?_ fun s108 => ?_
      · refine zm_last (zm_if (te_eq (te_test (we_eqS (re_w (we_call3 hs_l_pick rfl (we_var rfl) we_int we_int)) (re_w we_int))) rfl) ?_ ?_)
        · refine zm_assoc ?_
          refine zm_set (i := 9) rfl (by decide) (we_eq (we_call3 hs_l_pick rfl (we_var rfl) we_int (we_var rfl)) rfl) fun place_78 => ?_
          refine zm_assoc ?_
          refine zm_setIx (i := 4) rfl (by decide) (we_eq (we_catS (we_catS (we_ixO rfl (re_w (we_var rfl))) we_str) (we_ixS we_str (we_call3 hs_l_pick rfl (we_var rfl) we_int we_int))) rfl) (re_eq (re_w (we_var rfl)) rfl) fun names_here_83 => ?_
          refine zm_set (i := 7) rfl (by decide) (we_eq (we_call1 hs_l_write rfl (we_call3 hs_l_shape rfl (we_var rfl) we_int (we_o (oe_lc (tg_name' (by decide)) (ic_range (re_w (we_var rfl))) fun x100 => (a_name rfl ⟨te_yes, (we_tupV3 (we_UI we_str) (we_UI (we_ixO rfl (re_w (we_var rfl)))) (we_UI (we_ix (we_var rfl) (re_w (we_var rfl)))))⟩))))) rfl) fun text_107 => ?_
          exact zm_nextJ rfl
        · refine zm_skip ?_
          exact zm_nextJ rfl
      · refine zm_join [] (fun s114 => [(.val (dSq (d := dInt)) script), (.val (dList (d := dInt)) draws_here_2), (.val (dList (d := dInt)) extra_4), (.val dInt s10), .no, (.val (dList (d := dBool)) signs_14), (.val dUI shape_here_26), (.val dStr s114), .no, .no, .no]) (fun _ => (wlen 11 (by exact rfl) (by exact rfl) (by decide))) ?_ fun s114 => ?_
        · refine zm_last (zm_if (te_eq (te_test (we_gt (re_w (we_call3 hs_l_pick rfl (we_var rfl) we_int we_int)) (re_w we_int))) rfl) ?_ ?_)
          · refine zm_assoc ?_
            refine zm_set (i := 7) rfl (by decide) (we_eq (we_call3 hs_l_spoilt rfl (we_var rfl) we_int (we_var rfl)) rfl) fun text_110 => ?_
            refine zm_if (te_eq (te_test (we_eqS (re_w (we_call3 hs_l_pick rfl (we_var rfl) we_int we_int)) (re_w we_int))) rfl) ?_ ?_
            · refine zm_set (i := 7) rfl (by decide) (we_eq (we_call3 hs_l_spoilt rfl (we_var rfl) we_int (we_var rfl)) rfl) fun text_112 => ?_
              exact zm_nextJ rfl
            · refine zm_skip ?_
              exact zm_nextJ rfl
          · refine zm_skip ?_
            exact zm_nextJ rfl
        · refine zm_last ?_
          exact zm_ret (we_eq (we_and (we_eqU (re_w (we_ui2u (we_call1 hs_l_told rfl (we_var rfl)))) (re_w (we_ui2u (we_call1 hs_l_due rfl (we_var rfl))))) (we_eqU (re_w (we_ui2u (we_call1 hs_l_told rfl (we_var rfl)))) (re_w (we_ui2u (we_call1 hs_l_due rfl (we_var rfl)))))) rfl)
end K79

namespace K79
open PySem L2 G PM
set_option maxHeartbeats 0 in
theorem all_mk {w : World} {K : PySem.W.Frag} {h : Heap} {mg : Str → Option Value} {fa : Addr} (X : K.In h) (G : h.Ns mainGlobals mg) (hfa : mg "law" = some (.ref fa))
    {C_Kind : Addr}
    {t_Kind_MOST_LETTERS : _}
    {D_BadName : Addr}
    {D_BadSign : Addr}
    {D_ComesapartError : Addr}
    {D_TooLarge : Addr}
    {tg_ALPHABET : _}
    {tg_MOST_IN_NAME : _}
    {KD_SIGN_OF_WORD : Addr} {kn_SIGN_OF_WORD : Nat} {kh_SIGN_OF_WORD_0 : Int} {kk_SIGN_OF_WORD_0 kv_SIGN_OF_WORD_0 : _} {kh_SIGN_OF_WORD_1 : Int} {kk_SIGN_OF_WORD_1 kv_SIGN_OF_WORD_1 : _}
    {KD_WORD_OF_SIGN : Addr} {kn_WORD_OF_SIGN : Nat} {kh_WORD_OF_SIGN_0 : Int} {kk_WORD_OF_SIGN_0 kv_WORD_OF_SIGN_0 : _} {kh_WORD_OF_SIGN_1 : Int} {kk_WORD_OF_SIGN_1 kv_WORD_OF_SIGN_1 : _}
    {od0 an0 : Option Addr} {sl0 : Array (Option Value)} {oc0 kV0 dc0 pm0 cd0 ct0 : Value} {f0 : Addr}
    {od1 an1 : Option Addr} {sl1 : Array (Option Value)} {oc1 kV1 dc1 pm1 cd1 ct1 : Value} {f1 : Addr}
    {od2 an2 : Option Addr} {sl2 : Array (Option Value)} {oc2 kV2 dc2 pm2 cd2 ct2 : Value} {f2 : Addr}
    {od3 an3 : Option Addr} {sl3 : Array (Option Value)} {oc3 kV3 dc3 pm3 cd3 ct3 : Value} {f3 : Addr}
    {od4 an4 : Option Addr} {sl4 : Array (Option Value)} {oc4 kV4 dc4 pm4 cd4 ct4 : Value} {f4 : Addr}
    {od5 an5 : Option Addr} {sl5 : Array (Option Value)} {oc5 kV5 dc5 pm5 cd5 ct5 : Value} {f5 : Addr}
    {od6 an6 : Option Addr} {sl6 : Array (Option Value)} {oc6 kV6 dc6 pm6 cd6 ct6 : Value} {f6 : Addr}
    {od7 an7 : Option Addr} {sl7 : Array (Option Value)} {oc7 kV7 dc7 pm7 cd7 ct7 : Value} {f7 : Addr}
    {od8 an8 : Option Addr} {sl8 : Array (Option Value)} {oc8 kV8 dc8 pm8 cd8 ct8 : Value} {f8 : Addr}
    {od9 an9 : Option Addr} {sl9 : Array (Option Value)} {oc9 kV9 dc9 pm9 cd9 ct9 : Value} {f9 : Addr}
    {od10 an10 : Option Addr} {sl10 : Array (Option Value)} {oc10 kV10 dc10 pm10 cd10 ct10 : Value} {f10 : Addr}
    {od11 an11 : Option Addr} {sl11 : Array (Option Value)} {oc11 kV11 dc11 pm11 cd11 ct11 : Value} {f11 : Addr}
    {od12 an12 : Option Addr} {sl12 : Array (Option Value)} {oc12 kV12 dc12 pm12 cd12 ct12 : Value} {f12 : Addr}
    {od13 an13 : Option Addr} {sl13 : Array (Option Value)} {oc13 kV13 dc13 pm13 cd13 ct13 : Value} {f13 : Addr}
    {od14 an14 : Option Addr} {sl14 : Array (Option Value)} {oc14 kV14 dc14 pm14 cd14 ct14 : Value} {f14 : Addr}
    {od15 an15 : Option Addr} {sl15 : Array (Option Value)} {oc15 kV15 dc15 pm15 cd15 ct15 : Value} {f15 : Addr}
    {od16 an16 : Option Addr} {sl16 : Array (Option Value)} {oc16 kV16 dc16 pm16 cd16 ct16 : Value} {f16 : Addr}
    {od17 an17 : Option Addr} {sl17 : Array (Option Value)} {oc17 kV17 dc17 pm17 cd17 ct17 : Value} {f17 : Addr}
    {od18 an18 : Option Addr} {sl18 : Array (Option Value)} {oc18 kV18 dc18 pm18 cd18 ct18 : Value} {f18 : Addr}
    {od19 an19 : Option Addr} {sl19 : Array (Option Value)} {oc19 kV19 dc19 pm19 cd19 ct19 : Value} {f19 : Addr}
    {od20 an20 : Option Addr} {sl20 : Array (Option Value)} {oc20 kV20 dc20 pm20 cd20 ct20 : Value} {f20 : Addr}
    {od21 an21 : Option Addr} {sl21 : Array (Option Value)} {oc21 kV21 dc21 pm21 cd21 ct21 : Value} {f21 : Addr}
    {od22 an22 : Option Addr} {sl22 : Array (Option Value)} {oc22 kV22 dc22 pm22 cd22 ct22 : Value} {f22 : Addr}
    {od23 an23 : Option Addr} {sl23 : Array (Option Value)} {oc23 kV23 dc23 pm23 cd23 ct23 : Value} {f23 : Addr}
    {od24 an24 : Option Addr} {sl24 : Array (Option Value)} {oc24 kV24 dc24 pm24 cd24 ct24 : Value} {f24 : Addr}
    {xo_BadName xd_BadName : Option Addr} {xs_BadName xt_BadName xu_BadName : Array (Option Value)} {xa_BadName xb_BadName xc_BadName xdc_BadName xpm_BadName xct_BadName : Value} {xf_BadName cc_BadName cda_BadName : Addr} {xe_BadName : Option Addr} {vs_BadName : Array Value} {cdx_BadName : ClassData}
    {nm_BadName q_BadName : Str} {N_BadName : Addr} {bs_BadName bm_BadName : List Value} {sn_BadName : _} {sub_BadName : _} {ab_BadName : _} {col_BadName : _} {dd_BadName : _} {k0_BadName : _} {k1_BadName : _} {k2_BadName : _} {k3_BadName : _} {k5_BadName : _}
    {fl_BadName : Str} {tf_BadName : _}
    {xo_BadSign xd_BadSign : Option Addr} {xs_BadSign xt_BadSign xu_BadSign : Array (Option Value)} {xa_BadSign xb_BadSign xc_BadSign xdc_BadSign xpm_BadSign xct_BadSign : Value} {xf_BadSign cc_BadSign cda_BadSign : Addr} {xe_BadSign : Option Addr} {vs_BadSign : Array Value} {cdx_BadSign : ClassData}
    {nm_BadSign q_BadSign : Str} {N_BadSign : Addr} {bs_BadSign bm_BadSign : List Value} {sn_BadSign : _} {sub_BadSign : _} {ab_BadSign : _} {col_BadSign : _} {dd_BadSign : _} {k0_BadSign : _} {k1_BadSign : _} {k2_BadSign : _} {k3_BadSign : _} {k5_BadSign : _}
    {fl_BadSign : Str} {tf_BadSign : _}
    {xo_TooLarge xd_TooLarge : Option Addr} {xs_TooLarge xt_TooLarge xu_TooLarge : Array (Option Value)} {xa_TooLarge xb_TooLarge xc_TooLarge xdc_TooLarge xpm_TooLarge xct_TooLarge : Value} {xf_TooLarge cc_TooLarge cda_TooLarge : Addr} {xe_TooLarge : Option Addr} {vs_TooLarge : Array Value} {cdx_TooLarge : ClassData}
    {nm_TooLarge q_TooLarge : Str} {N_TooLarge : Addr} {bs_TooLarge bm_TooLarge : List Value} {sn_TooLarge : _} {sub_TooLarge : _} {ab_TooLarge : _} {col_TooLarge : _} {dd_TooLarge : _} {k0_TooLarge : _} {k1_TooLarge : _} {k2_TooLarge : _} {k3_TooLarge : _} {k5_TooLarge : _}
    {fl_TooLarge : Str} {tf_TooLarge : _}
    {cdy_BadName : ClassData}
    {cdy_BadSign : ClassData}
    {cdy_ComesapartError : ClassData}
    {cdy_TooLarge : ClassData}
    (q0 : PySem.W.nsIn K mainGlobals "Kind" = some (some (.ref C_Kind)))
    (q1 : PySem.W.plainGet K C_Kind Str.empty = true)
    (q2 : PySem.W.hasDictIn K C_Kind = true)
    (q3 : PySem.W.plainOver K C_Kind = true)
    (q4 : PySem.W.findIn K (.ref C_Kind) "__setattr__" = some (some (.builtin "object.__setattr__")))
    (q5 : PySem.W.findIn K (.ref C_Kind) "shape" = some none)
    (q6 : PySem.W.findIn K (.ref C_Kind) "MOST_LETTERS" = some (some (.int 40 t_Kind_MOST_LETTERS)))
    (q7 : PySem.W.specialIn K (.int 40 t_Kind_MOST_LETTERS) "__get__" = some none)
    (q8 : PySem.W.nsIn K mainGlobals "BadName" = some (some (.ref D_BadName)))
    (q9 : PySem.W.nsIn K mainGlobals "BadSign" = some (some (.ref D_BadSign)))
    (q10 : PySem.W.nsIn K mainGlobals "ComesapartError" = some (some (.ref D_ComesapartError)))
    (q11 : PySem.W.nsIn K mainGlobals "TooLarge" = some (some (.ref D_TooLarge)))
    (q12 : PySem.W.nsIn K mainGlobals "ALPHABET" = some (some (.str "abcdefghijklmnopqrstuvwxyz" tg_ALPHABET)))
    (q13 : PySem.W.nsIn K mainGlobals "MOST_IN_NAME" = some (some (.int (8) tg_MOST_IN_NAME)))
    (q14 : PySem.W.nsIn K mainGlobals "SIGN_OF_WORD" = some (some (.ref KD_SIGN_OF_WORD)))
    (q15 : K.lookup KD_SIGN_OF_WORD = some ⟨.type "dict", none, .dict #[⟨kh_SIGN_OF_WORD_0, .str "both" kk_SIGN_OF_WORD_0, .str " & " kv_SIGN_OF_WORD_0⟩, ⟨kh_SIGN_OF_WORD_1, .str "together" kk_SIGN_OF_WORD_1, .str " | " kv_SIGN_OF_WORD_1⟩] kn_SIGN_OF_WORD, #[]⟩)
    (q16 : PySem.W.KeysLit w.params (#[⟨kh_SIGN_OF_WORD_0, .str "both" kk_SIGN_OF_WORD_0, .str " & " kv_SIGN_OF_WORD_0⟩, ⟨kh_SIGN_OF_WORD_1, .str "together" kk_SIGN_OF_WORD_1, .str " | " kv_SIGN_OF_WORD_1⟩] : Array DictEntry).toList)
    (q17 : (KD_SIGN_OF_WORD == sysModules) = false)
    (q18 : PySem.W.nsIn K mainGlobals "WORD_OF_SIGN" = some (some (.ref KD_WORD_OF_SIGN)))
    (q19 : K.lookup KD_WORD_OF_SIGN = some ⟨.type "dict", none, .dict #[⟨kh_WORD_OF_SIGN_0, .str "&" kk_WORD_OF_SIGN_0, .str "both" kv_WORD_OF_SIGN_0⟩, ⟨kh_WORD_OF_SIGN_1, .str "|" kk_WORD_OF_SIGN_1, .str "together" kv_WORD_OF_SIGN_1⟩] kn_WORD_OF_SIGN, #[]⟩)
    (q20 : PySem.W.KeysLit w.params (#[⟨kh_WORD_OF_SIGN_0, .str "&" kk_WORD_OF_SIGN_0, .str "both" kv_WORD_OF_SIGN_0⟩, ⟨kh_WORD_OF_SIGN_1, .str "|" kk_WORD_OF_SIGN_1, .str "together" kv_WORD_OF_SIGN_1⟩] : Array DictEntry).toList)
    (q21 : (KD_WORD_OF_SIGN == sysModules) = false)
    (q22 : PySem.W.specialIn K (.builtin "object.__class__") "__get__" = some (some (.builtin "getset_descriptor.__get__")))
    (q23 : PySem.W.takesIn K (.builtin "object.__class__") = some true)
    (q24 : PySem.W.findIn K (.ref C_Kind) "__class__" = some (some (.builtin "object.__class__")))
    (q25 : PySem.W.mroIn K C_Kind (.type "object") = some true)
    (q26 : PySem.W.nsIn K mainGlobals "_law_cell" = some (some (.ref f0)))
    (q27 : K.lookup f0 = some ⟨oc0, od0, .func (PySem.W.fnOf "_law_cell" "_law_cell" (defArgs s_l_cell) (defBody s_l_cell) (defScope s_l_cell) .none kV0 dc0 pm0 an0 cd0 ct0), sl0⟩)
    (q28 : PySem.W.codeIn K cd0 "_law_cell" = true)
    (q29 : PySem.W.keepIn K (.ref f0) = true)
    (q30 : PySem.W.nsIn K mainGlobals "_law_draws" = some (some (.ref f1)))
    (q31 : K.lookup f1 = some ⟨oc1, od1, .func (PySem.W.fnOf "_law_draws" "_law_draws" (defArgs s_l_draws) (defBody s_l_draws) (defScope s_l_draws) .none kV1 dc1 pm1 an1 cd1 ct1), sl1⟩)
    (q32 : PySem.W.codeIn K cd1 "_law_draws" = true)
    (q33 : PySem.W.keepIn K (.ref f1) = true)
    (q34 : PySem.W.nsIn K mainGlobals "_law_pick" = some (some (.ref f2)))
    (q35 : K.lookup f2 = some ⟨oc2, od2, .func (PySem.W.fnOf "_law_pick" "_law_pick" (defArgs s_l_pick) (defBody s_l_pick) (defScope s_l_pick) .none kV2 dc2 pm2 an2 cd2 ct2), sl2⟩)
    (q36 : PySem.W.codeIn K cd2 "_law_pick" = true)
    (q37 : PySem.W.keepIn K (.ref f2) = true)
    (q38 : PySem.W.nsIn K mainGlobals "_law_name" = some (some (.ref f3)))
    (q39 : K.lookup f3 = some ⟨oc3, od3, .func (PySem.W.fnOf "_law_name" "_law_name" (defArgs s_l_name) (defBody s_l_name) (defScope s_l_name) .none kV3 dc3 pm3 an3 cd3 ct3), sl3⟩)
    (q40 : PySem.W.codeIn K cd3 "_law_name" = true)
    (q41 : PySem.W.keepIn K (.ref f3) = true)
    (q42 : PySem.W.nsIn K mainGlobals "_law_names" = some (some (.ref f4)))
    (q43 : K.lookup f4 = some ⟨oc4, od4, .func (PySem.W.fnOf "_law_names" "_law_names" (defArgs s_l_names) (defBody s_l_names) (defScope s_l_names) .none kV4 dc4 pm4 an4 cd4 ct4), sl4⟩)
    (q44 : PySem.W.codeIn K cd4 "_law_names" = true)
    (q45 : PySem.W.keepIn K (.ref f4) = true)
    (q46 : PySem.W.nsIn K mainGlobals "_law_shape" = some (some (.ref f5)))
    (q47 : K.lookup f5 = some ⟨oc5, od5, .func (PySem.W.fnOf "_law_shape" "_law_shape" (defArgs s_l_shape) (defBody s_l_shape) (defScope s_l_shape) .none kV5 dc5 pm5 an5 cd5 ct5), sl5⟩)
    (q48 : PySem.W.codeIn K cd5 "_law_shape" = true)
    (q49 : PySem.W.keepIn K (.ref f5) = true)
    (q50 : PySem.W.nsIn K mainGlobals "_law_write" = some (some (.ref f6)))
    (q51 : K.lookup f6 = some ⟨oc6, od6, .func (PySem.W.fnOf "_law_write" "_law_write" (defArgs s_l_write) (defBody s_l_write) (defScope s_l_write) .none kV6 dc6 pm6 an6 cd6 ct6), sl6⟩)
    (q52 : PySem.W.codeIn K cd6 "_law_write" = true)
    (q53 : PySem.W.keepIn K (.ref f6) = true)
    (q54 : PySem.W.nsIn K mainGlobals "letters_in" = some (some (.ref f7)))
    (q55 : K.lookup f7 = some ⟨oc7, od7, .func (PySem.W.fnOf "letters_in" "letters_in" (defArgs s_p_letters_in) (defBody s_p_letters_in) (defScope s_p_letters_in) .none kV7 dc7 pm7 an7 cd7 ct7), sl7⟩)
    (q56 : PySem.W.codeIn K cd7 "letters_in" = true)
    (q57 : PySem.W.keepIn K (.ref f7) = true)
    (q58 : PySem.W.nsIn K mainGlobals "is_name" = some (some (.ref f8)))
    (q59 : K.lookup f8 = some ⟨oc8, od8, .func (PySem.W.fnOf "is_name" "is_name" (defArgs s_p_is_name) (defBody s_p_is_name) (defScope s_p_is_name) .none kV8 dc8 pm8 an8 cd8 ct8), sl8⟩)
    (q60 : PySem.W.codeIn K cd8 "is_name" = true)
    (q61 : PySem.W.keepIn K (.ref f8) = true)
    (q62 : PySem.W.findIn K (.ref C_Kind) "__init__" = some (some (.ref f9)))
    (q63 : PySem.W.isFn K (.ref f9) = true)
    (q64 : K.lookup f9 = some ⟨oc9, od9, .func (PySem.W.fnOf "__init__" "Kind.__init__" (defArgs s_m_KindX_initX) (defBody s_m_KindX_initX) (defScope s_m_KindX_initX) .none kV9 dc9 pm9 an9 cd9 ct9), sl9⟩)
    (q65 : PySem.W.codeIn K cd9 "Kind.__init__" = true)
    (q66 : PySem.W.keepIn K (.ref f9) = true)
    (q67 : PySem.W.makesIn K C_Kind = true)
    (q68 : PySem.W.keepIn K (.ref C_Kind) = true)
    (q69 : PySem.W.nsIn K mainGlobals "written_shape" = some (some (.ref f10)))
    (q70 : K.lookup f10 = some ⟨oc10, od10, .func (PySem.W.fnOf "written_shape" "written_shape" (defArgs s_p_written_shape) (defBody s_p_written_shape) (defScope s_p_written_shape) .none kV10 dc10 pm10 an10 cd10 ct10), sl10⟩)
    (q71 : PySem.W.codeIn K cd10 "written_shape" = true)
    (q72 : PySem.W.keepIn K (.ref f10) = true)
    (q73 : PySem.W.nsIn K mainGlobals "format_kind" = some (some (.ref f11)))
    (q74 : K.lookup f11 = some ⟨oc11, od11, .func (PySem.W.fnOf "format_kind" "format_kind" (defArgs s_p_format_kind) (defBody s_p_format_kind) (defScope s_p_format_kind) .none kV11 dc11 pm11 an11 cd11 ct11), sl11⟩)
    (q75 : PySem.W.codeIn K cd11 "format_kind" = true)
    (q76 : PySem.W.keepIn K (.ref f11) = true)
    (q77 : PySem.W.nsIn K mainGlobals "expect" = some (some (.ref f12)))
    (q78 : K.lookup f12 = some ⟨oc12, od12, .func (PySem.W.fnOf "expect" "expect" (defArgs s_p_expect) (defBody s_p_expect) (defScope s_p_expect) .none kV12 dc12 pm12 an12 cd12 ct12), sl12⟩)
    (q79 : PySem.W.codeIn K cd12 "expect" = true)
    (q80 : PySem.W.keepIn K (.ref f12) = true)
    (q81 : PySem.W.nsIn K mainGlobals "name_end" = some (some (.ref f13)))
    (q82 : K.lookup f13 = some ⟨oc13, od13, .func (PySem.W.fnOf "name_end" "name_end" (defArgs s_p_name_end) (defBody s_p_name_end) (defScope s_p_name_end) .none kV13 dc13 pm13 an13 cd13 ct13), sl13⟩)
    (q83 : PySem.W.codeIn K cd13 "name_end" = true)
    (q84 : PySem.W.keepIn K (.ref f13) = true)
    (q85 : PySem.W.nsIn K mainGlobals "read_shape" = some (some (.ref f14)))
    (q86 : K.lookup f14 = some ⟨oc14, od14, .func (PySem.W.fnOf "read_shape" "read_shape" (defArgs s_p_read_shape) (defBody s_p_read_shape) (defScope s_p_read_shape) .none kV14 dc14 pm14 an14 cd14 ct14), sl14⟩)
    (q87 : PySem.W.codeIn K cd14 "read_shape" = true)
    (q88 : PySem.W.keepIn K (.ref f14) = true)
    (q89 : PySem.W.nsIn K mainGlobals "parse_kind" = some (some (.ref f15)))
    (q90 : K.lookup f15 = some ⟨oc15, od15, .func (PySem.W.fnOf "parse_kind" "parse_kind" (defArgs s_p_parse_kind) (defBody s_p_parse_kind) (defScope s_p_parse_kind) .none kV15 dc15 pm15 an15 cd15 ct15), sl15⟩)
    (q91 : PySem.W.codeIn K cd15 "parse_kind" = true)
    (q92 : PySem.W.keepIn K (.ref f15) = true)
    (q93 : PySem.W.nsIn K mainGlobals "_law_told" = some (some (.ref f16)))
    (q94 : K.lookup f16 = some ⟨oc16, od16, .func (PySem.W.fnOf "_law_told" "_law_told" (defArgs s_l_told) (defBody s_l_told) (defScope s_l_told) .none kV16 dc16 pm16 an16 cd16 ct16), sl16⟩)
    (q95 : PySem.W.codeIn K cd16 "_law_told" = true)
    (q96 : PySem.W.keepIn K (.ref f16) = true)
    (q97 : PySem.W.nsIn K mainGlobals "_law_spoilt" = some (some (.ref f17)))
    (q98 : K.lookup f17 = some ⟨oc17, od17, .func (PySem.W.fnOf "_law_spoilt" "_law_spoilt" (defArgs s_l_spoilt) (defBody s_l_spoilt) (defScope s_l_spoilt) .none kV17 dc17 pm17 an17 cd17 ct17), sl17⟩)
    (q99 : PySem.W.codeIn K cd17 "_law_spoilt" = true)
    (q100 : PySem.W.keepIn K (.ref f17) = true)
    (q101 : PySem.W.nsIn K mainGlobals "_law_is_letter" = some (some (.ref f18)))
    (q102 : K.lookup f18 = some ⟨oc18, od18, .func (PySem.W.fnOf "_law_is_letter" "_law_is_letter" (defArgs s_l_is_letter) (defBody s_l_is_letter) (defScope s_l_is_letter) .none kV18 dc18 pm18 an18 cd18 ct18), sl18⟩)
    (q103 : PySem.W.codeIn K cd18 "_law_is_letter" = true)
    (q104 : PySem.W.keepIn K (.ref f18) = true)
    (q105 : PySem.W.nsIn K mainGlobals "_law_next" = some (some (.ref f19)))
    (q106 : K.lookup f19 = some ⟨oc19, od19, .func (PySem.W.fnOf "_law_next" "_law_next" (defArgs s_l_next) (defBody s_l_next) (defScope s_l_next) .none kV19 dc19 pm19 an19 cd19 ct19), sl19⟩)
    (q107 : PySem.W.codeIn K cd19 "_law_next" = true)
    (q108 : PySem.W.keepIn K (.ref f19) = true)
    (q109 : PySem.W.nsIn K mainGlobals "_law_bad_sign" = some (some (.ref f20)))
    (q110 : K.lookup f20 = some ⟨oc20, od20, .func (PySem.W.fnOf "_law_bad_sign" "_law_bad_sign" (defArgs s_l_bad_sign) (defBody s_l_bad_sign) (defScope s_l_bad_sign) .none kV20 dc20 pm20 an20 cd20 ct20), sl20⟩)
    (q111 : PySem.W.codeIn K cd20 "_law_bad_sign" = true)
    (q112 : PySem.W.keepIn K (.ref f20) = true)
    (q113 : PySem.W.nsIn K mainGlobals "_law_read" = some (some (.ref f21)))
    (q114 : K.lookup f21 = some ⟨oc21, od21, .func (PySem.W.fnOf "_law_read" "_law_read" (defArgs s_l_read) (defBody s_l_read) (defScope s_l_read) .none kV21 dc21 pm21 an21 cd21 ct21), sl21⟩)
    (q115 : PySem.W.codeIn K cd21 "_law_read" = true)
    (q116 : PySem.W.keepIn K (.ref f21) = true)
    (q117 : PySem.W.nsIn K mainGlobals "_law_letters" = some (some (.ref f22)))
    (q118 : K.lookup f22 = some ⟨oc22, od22, .func (PySem.W.fnOf "_law_letters" "_law_letters" (defArgs s_l_letters) (defBody s_l_letters) (defScope s_l_letters) .none kV22 dc22 pm22 an22 cd22 ct22), sl22⟩)
    (q119 : PySem.W.codeIn K cd22 "_law_letters" = true)
    (q120 : PySem.W.keepIn K (.ref f22) = true)
    (q121 : PySem.W.nsIn K mainGlobals "_law_due" = some (some (.ref f23)))
    (q122 : K.lookup f23 = some ⟨oc23, od23, .func (PySem.W.fnOf "_law_due" "_law_due" (defArgs s_l_due) (defBody s_l_due) (defScope s_l_due) .none kV23 dc23 pm23 an23 cd23 ct23), sl23⟩)
    (q123 : PySem.W.codeIn K cd23 "_law_due" = true)
    (q124 : PySem.W.keepIn K (.ref f23) = true)
    (q125 : PySem.W.nsIn K mainGlobals "law" = some (some (.ref f24)))
    (q126 : K.lookup f24 = some ⟨oc24, od24, .func (PySem.W.fnOf "law" "law" (defArgs s_law) (defBody s_law) (defScope s_law) .none kV24 dc24 pm24 an24 cd24 ct24), sl24⟩)
    (q127 : PySem.W.codeIn K cd24 "law" = true)
    (q128 : PySem.W.keepIn K (.ref f24) = true)
    (q129 : PySem.W.nsIn K mainGlobals "super" = some none)
    (q130 : PySem.W.nsIn K PySem.cStatics "thirdparty.any" = some none)
    (q131 : K.lookup D_BadName = some (excClassObj nm_BadName q_BadName D_BadName N_BadName bs_BadName bm_BadName true sn_BadName sub_BadName ab_BadName col_BadName dd_BadName k0_BadName k1_BadName k2_BadName k3_BadName k5_BadName "ValueError.__new__"))
    (q132 : PySem.HandSPX.refsVE bm_BadName = true)
    (q133 : PySem.W.findIn K (.ref D_BadName) "__setattr__" = some (some (.builtin "object.__setattr__")))
    (q134 : PySem.W.subIn K (.ref D_BadName) (.type "BaseException") = some true)
    (q135 : PySem.W.typeIn K (.ref D_BadName) = some (.type "type"))
    (q136 : PySem.W.keepIn K (.ref D_BadName) = true)
    (q137 : PySem.W.clsIn K D_BadName = some cdx_BadName)
    (q138 : PySem.W.mroIn K D_BadName (.ref D_BadName) = some true)
    (q139 : PySem.W.ks_superIn K D_BadName D_BadName "__init__" = some (some (.builtin "ValueError.__init__")))
    (q140 : PySem.W.subIn K (.ref D_BadName) (.type "ValueError") = some true)
    (q141 : PySem.W.findIn K (.ref D_BadName) "__init__" = some (some (.ref xf_BadName)))
    (q142 : PySem.W.typeIn K (.ref xf_BadName) = some (.type "function"))
    (q143 : K.lookup xf_BadName = some ⟨xa_BadName, xo_BadName, .func ((initNF "__init__" "BadName.__init__" ((clsB (topS 6)).getD 0 (.Pass ⟨0, 0, 0, 0⟩)) cc_BadName cda_BadName).fd xdc_BadName xpm_BadName xct_BadName), xs_BadName⟩)
    (q144 : K.lookup cc_BadName = some ⟨xb_BadName, xd_BadName, .cell (some (.ref D_BadName)), xt_BadName⟩)
    (q145 : K.lookup cda_BadName = some ⟨xc_BadName, xe_BadName, .fields vs_BadName, xu_BadName⟩)
    (q146 : PySem.W.codeIn K (.ref cda_BadName) "BadName.__init__" = true)
    (q147 : vs_BadName[2]? = some (.str fl_BadName tf_BadName))
    (q148 : ((PySem.Challenge.rw_comesapart_k79_written_kinds.prog.main.file : Str) == fl_BadName) = true)
    (q149 : PySem.W.findIn K (.ref D_BadName) "name" = some none)
    (q150 : K.lookup D_BadSign = some (excClassObj nm_BadSign q_BadSign D_BadSign N_BadSign bs_BadSign bm_BadSign true sn_BadSign sub_BadSign ab_BadSign col_BadSign dd_BadSign k0_BadSign k1_BadSign k2_BadSign k3_BadSign k5_BadSign "ValueError.__new__"))
    (q151 : PySem.HandSPX.refsVE bm_BadSign = true)
    (q152 : PySem.W.findIn K (.ref D_BadSign) "__setattr__" = some (some (.builtin "object.__setattr__")))
    (q153 : PySem.W.subIn K (.ref D_BadSign) (.type "BaseException") = some true)
    (q154 : PySem.W.typeIn K (.ref D_BadSign) = some (.type "type"))
    (q155 : PySem.W.keepIn K (.ref D_BadSign) = true)
    (q156 : PySem.W.clsIn K D_BadSign = some cdx_BadSign)
    (q157 : PySem.W.mroIn K D_BadSign (.ref D_BadSign) = some true)
    (q158 : PySem.W.ks_superIn K D_BadSign D_BadSign "__init__" = some (some (.builtin "ValueError.__init__")))
    (q159 : PySem.W.subIn K (.ref D_BadSign) (.type "ValueError") = some true)
    (q160 : PySem.W.findIn K (.ref D_BadSign) "__init__" = some (some (.ref xf_BadSign)))
    (q161 : PySem.W.typeIn K (.ref xf_BadSign) = some (.type "function"))
    (q162 : K.lookup xf_BadSign = some ⟨xa_BadSign, xo_BadSign, .func ((initNF "__init__" "BadSign.__init__" ((clsB (topS 14)).getD 0 (.Pass ⟨0, 0, 0, 0⟩)) cc_BadSign cda_BadSign).fd xdc_BadSign xpm_BadSign xct_BadSign), xs_BadSign⟩)
    (q163 : K.lookup cc_BadSign = some ⟨xb_BadSign, xd_BadSign, .cell (some (.ref D_BadSign)), xt_BadSign⟩)
    (q164 : K.lookup cda_BadSign = some ⟨xc_BadSign, xe_BadSign, .fields vs_BadSign, xu_BadSign⟩)
    (q165 : PySem.W.codeIn K (.ref cda_BadSign) "BadSign.__init__" = true)
    (q166 : vs_BadSign[2]? = some (.str fl_BadSign tf_BadSign))
    (q167 : ((PySem.Challenge.rw_comesapart_k79_written_kinds.prog.main.file : Str) == fl_BadSign) = true)
    (q168 : PySem.W.findIn K (.ref D_BadSign) "sign" = some none)
    (q169 : K.lookup D_TooLarge = some (excClassObj nm_TooLarge q_TooLarge D_TooLarge N_TooLarge bs_TooLarge bm_TooLarge true sn_TooLarge sub_TooLarge ab_TooLarge col_TooLarge dd_TooLarge k0_TooLarge k1_TooLarge k2_TooLarge k3_TooLarge k5_TooLarge "ValueError.__new__"))
    (q170 : PySem.HandSPX.refsVE bm_TooLarge = true)
    (q171 : PySem.W.findIn K (.ref D_TooLarge) "__setattr__" = some (some (.builtin "object.__setattr__")))
    (q172 : PySem.W.subIn K (.ref D_TooLarge) (.type "BaseException") = some true)
    (q173 : PySem.W.typeIn K (.ref D_TooLarge) = some (.type "type"))
    (q174 : PySem.W.keepIn K (.ref D_TooLarge) = true)
    (q175 : PySem.W.clsIn K D_TooLarge = some cdx_TooLarge)
    (q176 : PySem.W.mroIn K D_TooLarge (.ref D_TooLarge) = some true)
    (q177 : PySem.W.ks_superIn K D_TooLarge D_TooLarge "__init__" = some (some (.builtin "ValueError.__init__")))
    (q178 : PySem.W.subIn K (.ref D_TooLarge) (.type "ValueError") = some true)
    (q179 : PySem.W.findIn K (.ref D_TooLarge) "__init__" = some (some (.ref xf_TooLarge)))
    (q180 : PySem.W.typeIn K (.ref xf_TooLarge) = some (.type "function"))
    (q181 : K.lookup xf_TooLarge = some ⟨xa_TooLarge, xo_TooLarge, .func ((initNF "__init__" "TooLarge.__init__" ((clsB (topS 2)).getD 0 (.Pass ⟨0, 0, 0, 0⟩)) cc_TooLarge cda_TooLarge).fd xdc_TooLarge xpm_TooLarge xct_TooLarge), xs_TooLarge⟩)
    (q182 : K.lookup cc_TooLarge = some ⟨xb_TooLarge, xd_TooLarge, .cell (some (.ref D_TooLarge)), xt_TooLarge⟩)
    (q183 : K.lookup cda_TooLarge = some ⟨xc_TooLarge, xe_TooLarge, .fields vs_TooLarge, xu_TooLarge⟩)
    (q184 : PySem.W.codeIn K (.ref cda_TooLarge) "TooLarge.__init__" = true)
    (q185 : vs_TooLarge[2]? = some (.str fl_TooLarge tf_TooLarge))
    (q186 : ((PySem.Challenge.rw_comesapart_k79_written_kinds.prog.main.file : Str) == fl_TooLarge) = true)
    (q187 : PySem.W.findIn K (.ref D_TooLarge) "limit" = some none)
    (q188 : PySem.W.findIn K (.ref D_BadName) "name" = some none)
    (q189 : PySem.W.findIn K (.ref D_BadSign) "sign" = some none)
    (q190 : PySem.W.findIn K (.ref D_TooLarge) "limit" = some none)
    (q191 : PySem.W.findIn K (.ref D_BadName) "__getattribute__" = some (some (.builtin "BaseException.__getattribute__")))
    (q192 : PySem.W.findIn K (.ref D_BadName) "__getattr__" = some none)
    (q193 : PySem.W.subIn K (.ref D_BadName) (.type "BaseException") = some true)
    (q194 : PySem.W.hasDictIn K D_BadName = true)
    (q195 : PySem.W.findIn K (.ref D_BadSign) "__getattribute__" = some (some (.builtin "BaseException.__getattribute__")))
    (q196 : PySem.W.findIn K (.ref D_BadSign) "__getattr__" = some none)
    (q197 : PySem.W.subIn K (.ref D_BadSign) (.type "BaseException") = some true)
    (q198 : PySem.W.hasDictIn K D_BadSign = true)
    (q199 : PySem.W.findIn K (.ref D_TooLarge) "__getattribute__" = some (some (.builtin "BaseException.__getattribute__")))
    (q200 : PySem.W.findIn K (.ref D_TooLarge) "__getattr__" = some none)
    (q201 : PySem.W.subIn K (.ref D_TooLarge) (.type "BaseException") = some true)
    (q202 : PySem.W.hasDictIn K D_TooLarge = true)
    (q203 : PySem.W.specialIn K (.builtin "object.__class__") "__get__" = some (some (.builtin "getset_descriptor.__get__")))
    (q204 : PySem.W.takesIn K (.builtin "object.__class__") = some true)
    (q205 : PySem.W.findIn K (.ref D_BadName) "__getattribute__" = some (some (.builtin "BaseException.__getattribute__")))
    (q206 : PySem.W.findIn K (.ref D_BadName) "__getattr__" = some none)
    (q207 : PySem.W.subIn K (.ref D_BadName) (.type "BaseException") = some true)
    (q208 : PySem.W.hasDictIn K D_BadName = true)
    (q209 : PySem.W.findIn K (.ref D_BadName) "__class__" = some (some (.builtin "object.__class__")))
    (q210 : PySem.W.mroIn K D_BadName (.type "object") = some true)
    (q211 : PySem.W.findIn K (.ref D_BadSign) "__getattribute__" = some (some (.builtin "BaseException.__getattribute__")))
    (q212 : PySem.W.findIn K (.ref D_BadSign) "__getattr__" = some none)
    (q213 : PySem.W.subIn K (.ref D_BadSign) (.type "BaseException") = some true)
    (q214 : PySem.W.hasDictIn K D_BadSign = true)
    (q215 : PySem.W.findIn K (.ref D_BadSign) "__class__" = some (some (.builtin "object.__class__")))
    (q216 : PySem.W.mroIn K D_BadSign (.type "object") = some true)
    (q217 : PySem.W.findIn K (.ref D_TooLarge) "__getattribute__" = some (some (.builtin "BaseException.__getattribute__")))
    (q218 : PySem.W.findIn K (.ref D_TooLarge) "__getattr__" = some none)
    (q219 : PySem.W.subIn K (.ref D_TooLarge) (.type "BaseException") = some true)
    (q220 : PySem.W.hasDictIn K D_TooLarge = true)
    (q221 : PySem.W.findIn K (.ref D_TooLarge) "__class__" = some (some (.builtin "object.__class__")))
    (q222 : PySem.W.mroIn K D_TooLarge (.type "object") = some true)
    (q223 : PySem.W.clsIn K D_BadName = some cdy_BadName)
    (q224 : PySem.W.typeIn K (.ref D_BadName) = some (.type "type"))
    (q225 : PySem.W.clsIn K D_BadSign = some cdy_BadSign)
    (q226 : PySem.W.typeIn K (.ref D_BadSign) = some (.type "type"))
    (q227 : PySem.W.clsIn K D_ComesapartError = some cdy_ComesapartError)
    (q228 : PySem.W.typeIn K (.ref D_ComesapartError) = some (.type "type"))
    (q229 : PySem.W.clsIn K D_TooLarge = some cdy_TooLarge)
    (q230 : PySem.W.typeIn K (.ref D_TooLarge) = some (.type "type"))
    (q231 : PySem.W.subIn K (.ref D_BadName) (.ref D_BadName) = some true)
    (q232 : PySem.W.subIn K (.ref D_BadName) (.ref D_BadSign) = some false)
    (q233 : PySem.W.subIn K (.ref D_BadName) (.ref D_ComesapartError) = some true)
    (q234 : PySem.W.subIn K (.ref D_BadName) (.ref D_TooLarge) = some false)
    (q235 : PySem.W.subIn K (.ref D_BadSign) (.ref D_BadName) = some false)
    (q236 : PySem.W.subIn K (.ref D_BadSign) (.ref D_BadSign) = some true)
    (q237 : PySem.W.subIn K (.ref D_BadSign) (.ref D_ComesapartError) = some true)
    (q238 : PySem.W.subIn K (.ref D_BadSign) (.ref D_TooLarge) = some false)
    (q239 : PySem.W.subIn K (.ref D_TooLarge) (.ref D_BadName) = some false)
    (q240 : PySem.W.subIn K (.ref D_TooLarge) (.ref D_BadSign) = some false)
    (q241 : PySem.W.subIn K (.ref D_TooLarge) (.ref D_ComesapartError) = some true)
    (q242 : PySem.W.subIn K (.ref D_TooLarge) (.ref D_TooLarge) = some true)
    (q243 : PySem.W.subIn K (.ref D_ComesapartError) (.type "BaseException") = some true)
    (q244 : D_BadSign ≠ D_BadName)
    (q245 : D_TooLarge ≠ D_BadName)
    (q246 : D_BadName ≠ D_BadSign)
    (q247 : D_TooLarge ≠ D_BadSign)
    (q248 : D_BadName ≠ D_TooLarge)
    (q249 : D_BadSign ≠ D_TooLarge)
    (q250 : PySem.W.subIn K (.ref D_BadName) (.type "ValueError") = some true)
    (q251 : PySem.W.subIn K (.ref D_BadSign) (.type "ValueError") = some true)
    (q252 : PySem.W.subIn K (.ref D_TooLarge) (.type "ValueError") = some true)
    (q253 : PySem.W.nsIn K mainGlobals "ValueError" = some none)
    (q254 : PySem.W.nsIn K mainGlobals "abs" = some none)
    (q255 : PySem.W.nsIn K mainGlobals "all" = some none)
    (q256 : PySem.W.nsIn K mainGlobals "int" = some none)
    (q257 : PySem.W.nsIn K mainGlobals "isinstance" = some none)
    (q258 : PySem.W.nsIn K mainGlobals "len" = some none)
    (q259 : PySem.W.nsIn K mainGlobals "list" = some none)
    (q260 : PySem.W.nsIn K mainGlobals "range" = some none)
    (q261 : PySem.W.nsIn K mainGlobals "str" = some none)
    : ∃ fd : FuncData, (∀ (s : Shared) (v : Value), BindsTo s fd ⟨[v], []⟩ [("_law_script", v)]) ∧ ∀ base : Heap, K.In base → base.Ns mainGlobals mg → FnOk PySem.Challenge.rw_comesapart_k79_written_kinds.prog w K mg base CX0 57 fa fd ["_law_script"] (sp_law ⟨PySem.Challenge.rw_comesapart_k79_written_kinds.prog, w, K⟩) := by
  have e := hfa.symm.trans (PySem.W.mg_of X G q125)
  cases e
  have F0 := fun_mk (st := s_l_cell) q27 q28 q29
  have d0 := F0.binds (ps := ["_law_script", "_law_k"]) fun _ _ _ _ _ _ us hl => match us, hl with | [_, _], _ => rfl
  have F1 := fun_mk (st := s_l_draws) q31 q32 q33
  have d1 := F1.binds (ps := ["_law_cell_here", "_law_many"]) fun _ _ _ _ _ _ us hl => match us, hl with | [_, _], _ => rfl
  have F2 := fun_mk (st := s_l_pick) q35 q36 q37
  have d2 := F2.binds (ps := ["_law_draws_here", "_law_k", "_law_many"]) fun _ _ _ _ _ _ us hl => match us, hl with | [_, _, _], _ => rfl
  have F3 := fun_mk (st := s_l_name) q39 q40 q41
  have d3 := F3.binds (ps := ["_law_draws_here", "_law_at"]) fun _ _ _ _ _ _ us hl => match us, hl with | [_, _], _ => rfl
  have F4 := fun_mk (st := s_l_names) q43 q44 q45
  have d4 := F4.binds (ps := ["_law_draws_here", "_law_extra", "_law_many"]) fun _ _ _ _ _ _ us hl => match us, hl with | [_, _, _], _ => rfl
  have F5 := fun_mk (st := s_l_shape) q47 q48 q49
  have d5 := F5.binds (ps := ["_law_draws_here", "_law_at", "_law_letters_here"]) fun _ _ _ _ _ _ us hl => match us, hl with | [_, _, _], _ => rfl
  have F6 := fun_mk (st := s_l_write) q51 q52 q53
  have d6 := F6.binds (ps := ["_law_shape_here"]) fun _ _ _ _ _ _ us hl => match us, hl with | [_], _ => rfl
  have F7 := fun_mk (st := s_p_letters_in) q55 q56 q57
  have d7 := F7.binds (ps := ["shape"]) fun _ _ _ _ _ _ us hl => match us, hl with | [_], _ => rfl
  have F8 := fun_mk (st := s_p_is_name) q59 q60 q61
  have d8 := F8.binds (ps := ["name"]) fun _ _ _ _ _ _ us hl => match us, hl with | [_], _ => rfl
  have F9 := fun_mk (st := s_m_KindX_initX) q64 q65 q66
  have d9 := F9.binds (ps := ["self", "shape"]) fun _ _ _ _ _ _ us hl => match us, hl with | [_, _], _ => rfl
  have F10 := fun_mk (st := s_p_written_shape) q70 q71 q72
  have d10 := F10.binds (ps := ["shape"]) fun _ _ _ _ _ _ us hl => match us, hl with | [_], _ => rfl
  have F11 := fun_mk (st := s_p_format_kind) q74 q75 q76
  have d11 := F11.binds (ps := ["kind"]) fun _ _ _ _ _ _ us hl => match us, hl with | [_], _ => rfl
  have F12 := fun_mk (st := s_p_expect) q78 q79 q80
  have d12 := F12.binds (ps := ["text", "at", "char"]) fun _ _ _ _ _ _ us hl => match us, hl with | [_, _, _], _ => rfl
  have F13 := fun_mk (st := s_p_name_end) q82 q83 q84
  have d13 := F13.binds (ps := ["text", "at"]) fun _ _ _ _ _ _ us hl => match us, hl with | [_, _], _ => rfl
  have F14 := fun_mk (st := s_p_read_shape) q86 q87 q88
  have d14 := F14.binds (ps := ["text", "at"]) fun _ _ _ _ _ _ us hl => match us, hl with | [_, _], _ => rfl
  have F15 := fun_mk (st := s_p_parse_kind) q90 q91 q92
  have d15 := F15.binds (ps := ["text"]) fun _ _ _ _ _ _ us hl => match us, hl with | [_], _ => rfl
  have F16 := fun_mk (st := s_l_told) q94 q95 q96
  have d16 := F16.binds (ps := ["_law_text"]) fun _ _ _ _ _ _ us hl => match us, hl with | [_], _ => rfl
  have F17 := fun_mk (st := s_l_spoilt) q98 q99 q100
  have d17 := F17.binds (ps := ["_law_extra", "_law_at", "_law_text"]) fun _ _ _ _ _ _ us hl => match us, hl with | [_, _, _], _ => rfl
  have F18 := fun_mk (st := s_l_is_letter) q102 q103 q104
  have d18 := F18.binds (ps := ["_law_sign"]) fun _ _ _ _ _ _ us hl => match us, hl with | [_], _ => rfl
  have F19 := fun_mk (st := s_l_next) q106 q107 q108
  have d19 := F19.binds (ps := ["_law_state", "_law_sign", "_law_stack"]) fun _ _ _ _ _ _ us hl => match us, hl with | [_, _, _], _ => rfl
  have F20 := fun_mk (st := s_l_bad_sign) q110 q111 q112
  have d20 := F20.binds (ps := ["_law_text"]) fun _ _ _ _ _ _ us hl => match us, hl with | [_], _ => rfl
  have F21 := fun_mk (st := s_l_read) q114 q115 q116
  have d21 := F21.binds (ps := ["_law_text", "_law_at"]) fun _ _ _ _ _ _ us hl => match us, hl with | [_, _], _ => rfl
  have F22 := fun_mk (st := s_l_letters) q118 q119 q120
  have d22 := F22.binds (ps := ["_law_shape_here"]) fun _ _ _ _ _ _ us hl => match us, hl with | [_], _ => rfl
  have F23 := fun_mk (st := s_l_due) q122 q123 q124
  have d23 := F23.binds (ps := ["_law_text"]) fun _ _ _ _ _ _ us hl => match us, hl with | [_], _ => rfl
  have F24 := fun_mk (st := s_law) q126 q127 q128
  have d24 := F24.binds (ps := ["_law_script"]) fun _ _ _ _ _ _ us hl => match us, hl with | [_], _ => rfl
  let T : Txt K mg w := {
    A := ⟨fun c => match c with | .BadName => D_BadName | .BadSign => D_BadSign | .ComesapartError => D_ComesapartError | .TooLarge => D_TooLarge | _ => 0, fun c => match c with | .Kind => C_Kind | _ => 0⟩
    g_Kind := PySem.W.mg_of X G q0
    c_Kind := ⟨q1, q2, q3, q4⟩
    n_Kind_shape := q5
    u_Kind_MOST_LETTERS := _
    k_Kind_MOST_LETTERS := ⟨q6, ⟨_, rfl⟩, q7, by decide +kernel⟩
    g_BadName := PySem.W.mg_of X G q8
    g_BadSign := PySem.W.mg_of X G q9
    g_ComesapartError := PySem.W.mg_of X G q10
    g_TooLarge := PySem.W.mg_of X G q11
    u_ALPHABET := _
    g_ALPHABET := PySem.W.mg_of X G q12
    ku_ALPHABET := ⟨_, rfl⟩
    u_MOST_IN_NAME := _
    g_MOST_IN_NAME := PySem.W.mg_of X G q13
    ku_MOST_IN_NAME := ⟨_, rfl⟩
    at_SIGN_OF_WORD := KD_SIGN_OF_WORD
    g_SIGN_OF_WORD := PySem.W.mg_of X G q14
    kd_SIGN_OF_WORD := ⟨⟨_, _, q15, q16, q17, (.cons _ _ _ _ _ (.cons _ _ _ _ _ .nil))⟩⟩
    at_WORD_OF_SIGN := KD_WORD_OF_SIGN
    g_WORD_OF_SIGN := PySem.W.mg_of X G q18
    kd_WORD_OF_SIGN := ⟨⟨_, _, q19, q20, q21, (.cons _ _ _ _ _ (.cons _ _ _ _ _ .nil))⟩⟩
    it_Kind := ⟨⟨q1, q2, q3, q4⟩, q24, q22, q23, q25⟩
    g_l_cell := PySem.W.mg_of X G q26
    a_l_cell := _
    f_l_cell := _
    F_l_cell := F0
    d_l_cell := d0
    g_l_draws := PySem.W.mg_of X G q30
    a_l_draws := _
    f_l_draws := _
    F_l_draws := F1
    d_l_draws := d1
    g_l_pick := PySem.W.mg_of X G q34
    a_l_pick := _
    f_l_pick := _
    F_l_pick := F2
    d_l_pick := d2
    g_l_name := PySem.W.mg_of X G q38
    a_l_name := _
    f_l_name := _
    F_l_name := F3
    d_l_name := d3
    g_l_names := PySem.W.mg_of X G q42
    a_l_names := _
    f_l_names := _
    F_l_names := F4
    d_l_names := d4
    g_l_shape := PySem.W.mg_of X G q46
    a_l_shape := _
    f_l_shape := _
    F_l_shape := F5
    d_l_shape := d5
    g_l_write := PySem.W.mg_of X G q50
    a_l_write := _
    f_l_write := _
    F_l_write := F6
    d_l_write := d6
    g_p_letters_in := PySem.W.mg_of X G q54
    a_p_letters_in := _
    f_p_letters_in := _
    F_p_letters_in := F7
    d_p_letters_in := d7
    g_p_is_name := PySem.W.mg_of X G q58
    a_p_is_name := _
    f_p_is_name := _
    F_p_is_name := F8
    d_p_is_name := d8
    a_m_KindX_initX := _
    f_m_KindX_initX := _
    F_m_KindX_initX := F9
    d_m_KindX_initX := d9
    mk_Kind := ⟨q67, q62, q63, q68⟩
    g_p_written_shape := PySem.W.mg_of X G q69
    a_p_written_shape := _
    f_p_written_shape := _
    F_p_written_shape := F10
    d_p_written_shape := d10
    g_p_format_kind := PySem.W.mg_of X G q73
    a_p_format_kind := _
    f_p_format_kind := _
    F_p_format_kind := F11
    d_p_format_kind := d11
    g_p_expect := PySem.W.mg_of X G q77
    a_p_expect := _
    f_p_expect := _
    F_p_expect := F12
    d_p_expect := d12
    g_p_name_end := PySem.W.mg_of X G q81
    a_p_name_end := _
    f_p_name_end := _
    F_p_name_end := F13
    d_p_name_end := d13
    g_p_read_shape := PySem.W.mg_of X G q85
    a_p_read_shape := _
    f_p_read_shape := _
    F_p_read_shape := F14
    d_p_read_shape := d14
    g_p_parse_kind := PySem.W.mg_of X G q89
    a_p_parse_kind := _
    f_p_parse_kind := _
    F_p_parse_kind := F15
    d_p_parse_kind := d15
    g_l_told := PySem.W.mg_of X G q93
    a_l_told := _
    f_l_told := _
    F_l_told := F16
    d_l_told := d16
    g_l_spoilt := PySem.W.mg_of X G q97
    a_l_spoilt := _
    f_l_spoilt := _
    F_l_spoilt := F17
    d_l_spoilt := d17
    g_l_is_letter := PySem.W.mg_of X G q101
    a_l_is_letter := _
    f_l_is_letter := _
    F_l_is_letter := F18
    d_l_is_letter := d18
    g_l_next := PySem.W.mg_of X G q105
    a_l_next := _
    f_l_next := _
    F_l_next := F19
    d_l_next := d19
    g_l_bad_sign := PySem.W.mg_of X G q109
    a_l_bad_sign := _
    f_l_bad_sign := _
    F_l_bad_sign := F20
    d_l_bad_sign := d20
    g_l_read := PySem.W.mg_of X G q113
    a_l_read := _
    f_l_read := _
    F_l_read := F21
    d_l_read := d21
    g_l_letters := PySem.W.mg_of X G q117
    a_l_letters := _
    f_l_letters := _
    F_l_letters := F22
    d_l_letters := d22
    g_l_due := PySem.W.mg_of X G q121
    a_l_due := _
    f_l_due := _
    F_l_due := F23
    d_l_due := d23
    g_law := PySem.W.mg_of X G q125
    a_law := _
    f_law := _
    F_law := F24
    d_law := d24
    i_BadName := xf_BadName
    fx_BadName := (initNF "__init__" "BadName.__init__" ((clsB (topS 6)).getD 0 (.Pass ⟨0, 0, 0, 0⟩)) cc_BadName cda_BadName).fd xdc_BadName xpm_BadName xct_BadName
    x_BadName := ⟨⟨⟨_, _, _, _, _, _, _, _, _, _, _, _, _, _, _, q131, q132⟩, q133, q134, q135, q136⟩, ⟨_, q137⟩, q138, q139, q140, q141, q142⟩
    dx_BadName := fun s us _ hl => BindsTo.of_eq (match us, hl with | [_, _], _ => rfl)
    i_BadSign := xf_BadSign
    fx_BadSign := (initNF "__init__" "BadSign.__init__" ((clsB (topS 14)).getD 0 (.Pass ⟨0, 0, 0, 0⟩)) cc_BadSign cda_BadSign).fd xdc_BadSign xpm_BadSign xct_BadSign
    x_BadSign := ⟨⟨⟨_, _, _, _, _, _, _, _, _, _, _, _, _, _, _, q150, q151⟩, q152, q153, q154, q155⟩, ⟨_, q156⟩, q157, q158, q159, q160, q161⟩
    dx_BadSign := fun s us _ hl => BindsTo.of_eq (match us, hl with | [_, _], _ => rfl)
    i_TooLarge := xf_TooLarge
    fx_TooLarge := (initNF "__init__" "TooLarge.__init__" ((clsB (topS 2)).getD 0 (.Pass ⟨0, 0, 0, 0⟩)) cc_TooLarge cda_TooLarge).fd xdc_TooLarge xpm_TooLarge xct_TooLarge
    x_TooLarge := ⟨⟨⟨_, _, _, _, _, _, _, _, _, _, _, _, _, _, _, q169, q170⟩, q171, q172, q173, q174⟩, ⟨_, q175⟩, q176, q177, q178, q179, q180⟩
    dx_TooLarge := fun s us _ hl => BindsTo.of_eq (match us, hl with | [_, _], _ => rfl)
    no_BadName_name := q188
    no_BadSign_sign := q189
    no_TooLarge_limit := q190
    xf_BadName := ⟨q191, q192, q193, q194⟩
    xf_BadSign := ⟨q195, q196, q197, q198⟩
    xf_TooLarge := ⟨q199, q200, q201, q202⟩
    exc := fun c hc => by
      revert hc
      cases c with
      | NotAPairing => exact fun h => absurd h (by decide)
      | NothingToUndo => exact fun h => absurd h (by decide)
      | NothingToRedo => exact fun h => absurd h (by decide)
      | BadLabel => exact fun h => absurd h (by decide)
      | NameTaken => exact fun h => absurd h (by decide)
      | NoSuchName => exact fun h => absurd h (by decide)
      | StillTied => exact fun h => absurd h (by decide)
      | ComesapartError => exact fun h => absurd h (by decide)
      | TooLarge => exact fun _ => ⟨q217, q218, q219, q220, q221, q203, q204, q222⟩
      | BadLine => exact fun h => absurd h (by decide)
      | UnknownPlace => exact fun h => absurd h (by decide)
      | BadSides => exact fun h => absurd h (by decide)
      | UnknownSide => exact fun h => absurd h (by decide)
      | UnknownTie => exact fun h => absurd h (by decide)
      | BadStep => exact fun h => absurd h (by decide)
      | Repeated => exact fun h => absurd h (by decide)
      | NotATurningCycle => exact fun h => absurd h (by decide)
      | UnknownPoint => exact fun h => absurd h (by decide)
      | UnknownPair => exact fun h => absurd h (by decide)
      | SamePoint => exact fun h => absurd h (by decide)
      | NoLinks => exact fun h => absurd h (by decide)
      | BadLink => exact fun h => absurd h (by decide)
      | BadNode => exact fun h => absurd h (by decide)
      | UnknownTerm => exact fun h => absurd h (by decide)
      | NotSameSteps => exact fun h => absurd h (by decide)
      | NoFacing => exact fun h => absurd h (by decide)
      | NotARing => exact fun h => absurd h (by decide)
      | NotAJoint => exact fun h => absurd h (by decide)
      | NotShut => exact fun h => absurd h (by decide)
      | BadCut => exact fun h => absurd h (by decide)
      | NoSuchCut => exact fun h => absurd h (by decide)
      | Locked => exact fun h => absurd h (by decide)
      | Nothing => exact fun h => absurd h (by decide)
      | BadName => exact fun _ => ⟨q205, q206, q207, q208, q209, q203, q204, q210⟩
      | BadSign => exact fun _ => ⟨q211, q212, q213, q214, q215, q203, q204, q216⟩
      | BadMove => exact fun h => absurd h (by decide)
      | NoTerm => exact fun h => absurd h (by decide)
      | NeverOpened => exact fun h => absurd h (by decide)
      | BoundTwice => exact fun h => absurd h (by decide)
      | UnknownName => exact fun h => absurd h (by decide)
      | UsedTwice => exact fun h => absurd h (by decide)
      | NotUsed => exact fun h => absurd h (by decide)
      | NotARedex => exact fun h => absurd h (by decide)
      | NotBalanced => exact fun h => absurd h (by decide)
      | NotAnArrow => exact fun h => absurd h (by decide)
      | NotAPermutation => exact fun h => absurd h (by decide)
      | BadSetting => exact fun h => absurd h (by decide)
      | BadSigns => exact fun h => absurd h (by decide)
      | BadChoice => exact fun h => absurd h (by decide)
      | NotOuter => exact fun h => absurd h (by decide)
    hx_ComesapartError := fun c hc => by
      revert hc
      cases c with
      | NotAPairing => exact fun h => absurd h (by decide)
      | NothingToUndo => exact fun h => absurd h (by decide)
      | NothingToRedo => exact fun h => absurd h (by decide)
      | BadLabel => exact fun h => absurd h (by decide)
      | NameTaken => exact fun h => absurd h (by decide)
      | NoSuchName => exact fun h => absurd h (by decide)
      | StillTied => exact fun h => absurd h (by decide)
      | ComesapartError => exact fun h => absurd h (by decide)
      | TooLarge => exact fun _ => exm_ref q243 q227 q228 q241
      | BadLine => exact fun h => absurd h (by decide)
      | UnknownPlace => exact fun h => absurd h (by decide)
      | BadSides => exact fun h => absurd h (by decide)
      | UnknownSide => exact fun h => absurd h (by decide)
      | UnknownTie => exact fun h => absurd h (by decide)
      | BadStep => exact fun h => absurd h (by decide)
      | Repeated => exact fun h => absurd h (by decide)
      | NotATurningCycle => exact fun h => absurd h (by decide)
      | UnknownPoint => exact fun h => absurd h (by decide)
      | UnknownPair => exact fun h => absurd h (by decide)
      | SamePoint => exact fun h => absurd h (by decide)
      | NoLinks => exact fun h => absurd h (by decide)
      | BadLink => exact fun h => absurd h (by decide)
      | BadNode => exact fun h => absurd h (by decide)
      | UnknownTerm => exact fun h => absurd h (by decide)
      | NotSameSteps => exact fun h => absurd h (by decide)
      | NoFacing => exact fun h => absurd h (by decide)
      | NotARing => exact fun h => absurd h (by decide)
      | NotAJoint => exact fun h => absurd h (by decide)
      | NotShut => exact fun h => absurd h (by decide)
      | BadCut => exact fun h => absurd h (by decide)
      | NoSuchCut => exact fun h => absurd h (by decide)
      | Locked => exact fun h => absurd h (by decide)
      | Nothing => exact fun h => absurd h (by decide)
      | BadName => exact fun _ => exm_ref q243 q227 q228 q233
      | BadSign => exact fun _ => exm_ref q243 q227 q228 q237
      | BadMove => exact fun h => absurd h (by decide)
      | NoTerm => exact fun h => absurd h (by decide)
      | NeverOpened => exact fun h => absurd h (by decide)
      | BoundTwice => exact fun h => absurd h (by decide)
      | UnknownName => exact fun h => absurd h (by decide)
      | UsedTwice => exact fun h => absurd h (by decide)
      | NotUsed => exact fun h => absurd h (by decide)
      | NotARedex => exact fun h => absurd h (by decide)
      | NotBalanced => exact fun h => absurd h (by decide)
      | NotAnArrow => exact fun h => absurd h (by decide)
      | NotAPermutation => exact fun h => absurd h (by decide)
      | BadSetting => exact fun h => absurd h (by decide)
      | BadSigns => exact fun h => absurd h (by decide)
      | BadChoice => exact fun h => absurd h (by decide)
      | NotOuter => exact fun h => absurd h (by decide)
    kx_BadName := fun c hc => by
      revert hc
      cases c with
      | NotAPairing => exact fun h => absurd h (by decide)
      | NothingToUndo => exact fun h => absurd h (by decide)
      | NothingToRedo => exact fun h => absurd h (by decide)
      | BadLabel => exact fun h => absurd h (by decide)
      | NameTaken => exact fun h => absurd h (by decide)
      | NoSuchName => exact fun h => absurd h (by decide)
      | StillTied => exact fun h => absurd h (by decide)
      | ComesapartError => exact fun h => absurd h (by decide)
      | TooLarge => exact fun _ => kit_refF q245 q223 q224 q239
      | BadLine => exact fun h => absurd h (by decide)
      | UnknownPlace => exact fun h => absurd h (by decide)
      | BadSides => exact fun h => absurd h (by decide)
      | UnknownSide => exact fun h => absurd h (by decide)
      | UnknownTie => exact fun h => absurd h (by decide)
      | BadStep => exact fun h => absurd h (by decide)
      | Repeated => exact fun h => absurd h (by decide)
      | NotATurningCycle => exact fun h => absurd h (by decide)
      | UnknownPoint => exact fun h => absurd h (by decide)
      | UnknownPair => exact fun h => absurd h (by decide)
      | SamePoint => exact fun h => absurd h (by decide)
      | NoLinks => exact fun h => absurd h (by decide)
      | BadLink => exact fun h => absurd h (by decide)
      | BadNode => exact fun h => absurd h (by decide)
      | UnknownTerm => exact fun h => absurd h (by decide)
      | NotSameSteps => exact fun h => absurd h (by decide)
      | NoFacing => exact fun h => absurd h (by decide)
      | NotARing => exact fun h => absurd h (by decide)
      | NotAJoint => exact fun h => absurd h (by decide)
      | NotShut => exact fun h => absurd h (by decide)
      | BadCut => exact fun h => absurd h (by decide)
      | NoSuchCut => exact fun h => absurd h (by decide)
      | Locked => exact fun h => absurd h (by decide)
      | Nothing => exact fun h => absurd h (by decide)
      | BadName => exact fun _ => kit_refT q223 q224 q231
      | BadSign => exact fun _ => kit_refF q244 q223 q224 q235
      | BadMove => exact fun h => absurd h (by decide)
      | NoTerm => exact fun h => absurd h (by decide)
      | NeverOpened => exact fun h => absurd h (by decide)
      | BoundTwice => exact fun h => absurd h (by decide)
      | UnknownName => exact fun h => absurd h (by decide)
      | UsedTwice => exact fun h => absurd h (by decide)
      | NotUsed => exact fun h => absurd h (by decide)
      | NotARedex => exact fun h => absurd h (by decide)
      | NotBalanced => exact fun h => absurd h (by decide)
      | NotAnArrow => exact fun h => absurd h (by decide)
      | NotAPermutation => exact fun h => absurd h (by decide)
      | BadSetting => exact fun h => absurd h (by decide)
      | BadSigns => exact fun h => absurd h (by decide)
      | BadChoice => exact fun h => absurd h (by decide)
      | NotOuter => exact fun h => absurd h (by decide)
    kx_BadSign := fun c hc => by
      revert hc
      cases c with
      | NotAPairing => exact fun h => absurd h (by decide)
      | NothingToUndo => exact fun h => absurd h (by decide)
      | NothingToRedo => exact fun h => absurd h (by decide)
      | BadLabel => exact fun h => absurd h (by decide)
      | NameTaken => exact fun h => absurd h (by decide)
      | NoSuchName => exact fun h => absurd h (by decide)
      | StillTied => exact fun h => absurd h (by decide)
      | ComesapartError => exact fun h => absurd h (by decide)
      | TooLarge => exact fun _ => kit_refF q247 q225 q226 q240
      | BadLine => exact fun h => absurd h (by decide)
      | UnknownPlace => exact fun h => absurd h (by decide)
      | BadSides => exact fun h => absurd h (by decide)
      | UnknownSide => exact fun h => absurd h (by decide)
      | UnknownTie => exact fun h => absurd h (by decide)
      | BadStep => exact fun h => absurd h (by decide)
      | Repeated => exact fun h => absurd h (by decide)
      | NotATurningCycle => exact fun h => absurd h (by decide)
      | UnknownPoint => exact fun h => absurd h (by decide)
      | UnknownPair => exact fun h => absurd h (by decide)
      | SamePoint => exact fun h => absurd h (by decide)
      | NoLinks => exact fun h => absurd h (by decide)
      | BadLink => exact fun h => absurd h (by decide)
      | BadNode => exact fun h => absurd h (by decide)
      | UnknownTerm => exact fun h => absurd h (by decide)
      | NotSameSteps => exact fun h => absurd h (by decide)
      | NoFacing => exact fun h => absurd h (by decide)
      | NotARing => exact fun h => absurd h (by decide)
      | NotAJoint => exact fun h => absurd h (by decide)
      | NotShut => exact fun h => absurd h (by decide)
      | BadCut => exact fun h => absurd h (by decide)
      | NoSuchCut => exact fun h => absurd h (by decide)
      | Locked => exact fun h => absurd h (by decide)
      | Nothing => exact fun h => absurd h (by decide)
      | BadName => exact fun _ => kit_refF q246 q225 q226 q232
      | BadSign => exact fun _ => kit_refT q225 q226 q236
      | BadMove => exact fun h => absurd h (by decide)
      | NoTerm => exact fun h => absurd h (by decide)
      | NeverOpened => exact fun h => absurd h (by decide)
      | BoundTwice => exact fun h => absurd h (by decide)
      | UnknownName => exact fun h => absurd h (by decide)
      | UsedTwice => exact fun h => absurd h (by decide)
      | NotUsed => exact fun h => absurd h (by decide)
      | NotARedex => exact fun h => absurd h (by decide)
      | NotBalanced => exact fun h => absurd h (by decide)
      | NotAnArrow => exact fun h => absurd h (by decide)
      | NotAPermutation => exact fun h => absurd h (by decide)
      | BadSetting => exact fun h => absurd h (by decide)
      | BadSigns => exact fun h => absurd h (by decide)
      | BadChoice => exact fun h => absurd h (by decide)
      | NotOuter => exact fun h => absurd h (by decide)
    kx_TooLarge := fun c hc => by
      revert hc
      cases c with
      | NotAPairing => exact fun h => absurd h (by decide)
      | NothingToUndo => exact fun h => absurd h (by decide)
      | NothingToRedo => exact fun h => absurd h (by decide)
      | BadLabel => exact fun h => absurd h (by decide)
      | NameTaken => exact fun h => absurd h (by decide)
      | NoSuchName => exact fun h => absurd h (by decide)
      | StillTied => exact fun h => absurd h (by decide)
      | ComesapartError => exact fun h => absurd h (by decide)
      | TooLarge => exact fun _ => kit_refT q229 q230 q242
      | BadLine => exact fun h => absurd h (by decide)
      | UnknownPlace => exact fun h => absurd h (by decide)
      | BadSides => exact fun h => absurd h (by decide)
      | UnknownSide => exact fun h => absurd h (by decide)
      | UnknownTie => exact fun h => absurd h (by decide)
      | BadStep => exact fun h => absurd h (by decide)
      | Repeated => exact fun h => absurd h (by decide)
      | NotATurningCycle => exact fun h => absurd h (by decide)
      | UnknownPoint => exact fun h => absurd h (by decide)
      | UnknownPair => exact fun h => absurd h (by decide)
      | SamePoint => exact fun h => absurd h (by decide)
      | NoLinks => exact fun h => absurd h (by decide)
      | BadLink => exact fun h => absurd h (by decide)
      | BadNode => exact fun h => absurd h (by decide)
      | UnknownTerm => exact fun h => absurd h (by decide)
      | NotSameSteps => exact fun h => absurd h (by decide)
      | NoFacing => exact fun h => absurd h (by decide)
      | NotARing => exact fun h => absurd h (by decide)
      | NotAJoint => exact fun h => absurd h (by decide)
      | NotShut => exact fun h => absurd h (by decide)
      | BadCut => exact fun h => absurd h (by decide)
      | NoSuchCut => exact fun h => absurd h (by decide)
      | Locked => exact fun h => absurd h (by decide)
      | Nothing => exact fun h => absurd h (by decide)
      | BadName => exact fun _ => kit_refF q248 q229 q230 q234
      | BadSign => exact fun _ => kit_refF q249 q229 q230 q238
      | BadMove => exact fun h => absurd h (by decide)
      | NoTerm => exact fun h => absurd h (by decide)
      | NeverOpened => exact fun h => absurd h (by decide)
      | BoundTwice => exact fun h => absurd h (by decide)
      | UnknownName => exact fun h => absurd h (by decide)
      | UsedTwice => exact fun h => absurd h (by decide)
      | NotUsed => exact fun h => absurd h (by decide)
      | NotARedex => exact fun h => absurd h (by decide)
      | NotBalanced => exact fun h => absurd h (by decide)
      | NotAnArrow => exact fun h => absurd h (by decide)
      | NotAPermutation => exact fun h => absurd h (by decide)
      | BadSetting => exact fun h => absurd h (by decide)
      | BadSigns => exact fun h => absurd h (by decide)
      | BadChoice => exact fun h => absurd h (by decide)
      | NotOuter => exact fun h => absurd h (by decide)
    kx_ValueError := fun c hc => by
      revert hc
      cases c with
      | NotAPairing => exact fun h => absurd h (by decide)
      | NothingToUndo => exact fun h => absurd h (by decide)
      | NothingToRedo => exact fun h => absurd h (by decide)
      | BadLabel => exact fun h => absurd h (by decide)
      | NameTaken => exact fun h => absurd h (by decide)
      | NoSuchName => exact fun h => absurd h (by decide)
      | StillTied => exact fun h => absurd h (by decide)
      | ComesapartError => exact fun h => absurd h (by decide)
      | TooLarge => exact fun _ => kit_VE q252
      | BadLine => exact fun h => absurd h (by decide)
      | UnknownPlace => exact fun h => absurd h (by decide)
      | BadSides => exact fun h => absurd h (by decide)
      | UnknownSide => exact fun h => absurd h (by decide)
      | UnknownTie => exact fun h => absurd h (by decide)
      | BadStep => exact fun h => absurd h (by decide)
      | Repeated => exact fun h => absurd h (by decide)
      | NotATurningCycle => exact fun h => absurd h (by decide)
      | UnknownPoint => exact fun h => absurd h (by decide)
      | UnknownPair => exact fun h => absurd h (by decide)
      | SamePoint => exact fun h => absurd h (by decide)
      | NoLinks => exact fun h => absurd h (by decide)
      | BadLink => exact fun h => absurd h (by decide)
      | BadNode => exact fun h => absurd h (by decide)
      | UnknownTerm => exact fun h => absurd h (by decide)
      | NotSameSteps => exact fun h => absurd h (by decide)
      | NoFacing => exact fun h => absurd h (by decide)
      | NotARing => exact fun h => absurd h (by decide)
      | NotAJoint => exact fun h => absurd h (by decide)
      | NotShut => exact fun h => absurd h (by decide)
      | BadCut => exact fun h => absurd h (by decide)
      | NoSuchCut => exact fun h => absurd h (by decide)
      | Locked => exact fun h => absurd h (by decide)
      | Nothing => exact fun h => absurd h (by decide)
      | BadName => exact fun _ => kit_VE q250
      | BadSign => exact fun _ => kit_VE q251
      | BadMove => exact fun h => absurd h (by decide)
      | NoTerm => exact fun h => absurd h (by decide)
      | NeverOpened => exact fun h => absurd h (by decide)
      | BoundTwice => exact fun h => absurd h (by decide)
      | UnknownName => exact fun h => absurd h (by decide)
      | UsedTwice => exact fun h => absurd h (by decide)
      | NotUsed => exact fun h => absurd h (by decide)
      | NotARedex => exact fun h => absurd h (by decide)
      | NotBalanced => exact fun h => absurd h (by decide)
      | NotAnArrow => exact fun h => absurd h (by decide)
      | NotAPermutation => exact fun h => absurd h (by decide)
      | BadSetting => exact fun h => absurd h (by decide)
      | BadSigns => exact fun h => absurd h (by decide)
      | BadChoice => exact fun h => absurd h (by decide)
      | NotOuter => exact fun h => absurd h (by decide)
    b_ValueError := PySem.W.mg_none_of X G q253
    b_abs := PySem.W.mg_none_of X G q254
    b_all := PySem.W.mg_none_of X G q255
    b_int := PySem.W.mg_none_of X G q256
    b_isinstance := PySem.W.mg_none_of X G q257
    b_len := PySem.W.mg_none_of X G q258
    b_list := PySem.W.mg_none_of X G q259
    b_range := PySem.W.mg_none_of X G q260
    b_str := PySem.W.mg_none_of X G q261
  }
  have G_x_BadName : ∀ base : Heap, FnOk PySem.Challenge.rw_comesapart_k79_written_kinds.prog w K mg base (L2.CX PySem.Challenge.rw_comesapart_k79_written_kinds.prog w) 1 T.i_BadName T.fx_BadName ["self", "name"] (spX1 (T.A.tx .BadName) "name") := fun base => fok_exc1 (k := 0) (ar := ((defArgs ((clsB (topS 6)).getD 0 (.Pass ⟨0, 0, 0, 0⟩))).posonlyargs ++ (defArgs ((clsB (topS 6)).getD 0 (.Pass ⟨0, 0, 0, 0⟩))).args).headD ⟨"", none, ⟨0, 0, 0, 0⟩⟩) (F := initNF "__init__" "BadName.__init__" ((clsB (topS 6)).getD 0 (.Pass ⟨0, 0, 0, 0⟩)) cc_BadName cda_BadName) (D := D_BadName) (f := xf_BadName) (show NdefX.NScope ["self", "name", "__class__"] ["self", "name"] ["__class__"] (defScope ((clsB (topS 6)).getD 0 (.Pass ⟨0, 0, 0, 0⟩))) from NdefX.nscope_by (by decide +kernel)) rfl rfl (by decide +kernel) (by decide +kernel) (by decide) (by decide) (show (defScope ((clsB (topS 6)).getD 0 (.Pass ⟨0, 0, 0, 0⟩))).names.lookup ("super" : PySem.Str) = some NameKind.globalImplicit from by decide +kernel) q143 rfl q144 q145 q147 q146 q148 T.x_BadName q149 (PySem.W.mg_none_of X G q129) (by decide +kernel) q130 (by intro _; rfl)
  have G_x_BadSign : ∀ base : Heap, FnOk PySem.Challenge.rw_comesapart_k79_written_kinds.prog w K mg base (L2.CX PySem.Challenge.rw_comesapart_k79_written_kinds.prog w) 1 T.i_BadSign T.fx_BadSign ["self", "sign"] (spX1 (T.A.tx .BadSign) "sign") := fun base => fok_exc1 (k := 0) (ar := ((defArgs ((clsB (topS 14)).getD 0 (.Pass ⟨0, 0, 0, 0⟩))).posonlyargs ++ (defArgs ((clsB (topS 14)).getD 0 (.Pass ⟨0, 0, 0, 0⟩))).args).headD ⟨"", none, ⟨0, 0, 0, 0⟩⟩) (F := initNF "__init__" "BadSign.__init__" ((clsB (topS 14)).getD 0 (.Pass ⟨0, 0, 0, 0⟩)) cc_BadSign cda_BadSign) (D := D_BadSign) (f := xf_BadSign) (show NdefX.NScope ["self", "sign", "__class__"] ["self", "sign"] ["__class__"] (defScope ((clsB (topS 14)).getD 0 (.Pass ⟨0, 0, 0, 0⟩))) from NdefX.nscope_by (by decide +kernel)) rfl rfl (by decide +kernel) (by decide +kernel) (by decide) (by decide) (show (defScope ((clsB (topS 14)).getD 0 (.Pass ⟨0, 0, 0, 0⟩))).names.lookup ("super" : PySem.Str) = some NameKind.globalImplicit from by decide +kernel) q162 rfl q163 q164 q166 q165 q167 T.x_BadSign q168 (PySem.W.mg_none_of X G q129) (by decide +kernel) q130 (by intro _; rfl)
  have G_x_TooLarge : ∀ base : Heap, FnOk PySem.Challenge.rw_comesapart_k79_written_kinds.prog w K mg base (L2.CX PySem.Challenge.rw_comesapart_k79_written_kinds.prog w) 1 T.i_TooLarge T.fx_TooLarge ["self", "limit"] (spX1 (T.A.tx .TooLarge) "limit") := fun base => fok_exc1 (k := 0) (ar := ((defArgs ((clsB (topS 2)).getD 0 (.Pass ⟨0, 0, 0, 0⟩))).posonlyargs ++ (defArgs ((clsB (topS 2)).getD 0 (.Pass ⟨0, 0, 0, 0⟩))).args).headD ⟨"", none, ⟨0, 0, 0, 0⟩⟩) (F := initNF "__init__" "TooLarge.__init__" ((clsB (topS 2)).getD 0 (.Pass ⟨0, 0, 0, 0⟩)) cc_TooLarge cda_TooLarge) (D := D_TooLarge) (f := xf_TooLarge) (show NdefX.NScope ["self", "limit", "__class__"] ["self", "limit"] ["__class__"] (defScope ((clsB (topS 2)).getD 0 (.Pass ⟨0, 0, 0, 0⟩))) from NdefX.nscope_by (by decide +kernel)) rfl rfl (by decide +kernel) (by decide +kernel) (by decide) (by decide) (show (defScope ((clsB (topS 2)).getD 0 (.Pass ⟨0, 0, 0, 0⟩))).names.lookup ("super" : PySem.Str) = some NameKind.globalImplicit from by decide +kernel) q181 rfl q182 q183 q185 q184 q186 T.x_TooLarge q187 (PySem.W.mg_none_of X G q129) (by decide +kernel) q130 (by intro _; rfl)
  refine ⟨PySem.W.fnOf "law" "law" (defArgs s_law) (defBody s_law) (defScope s_law) .none kV24 dc24 pm24 an24 cd24 ct24, fun s v => .of_eq rfl, fun base _ _ => ?_⟩
  have G_l_cell := ok_l_cell (P := PySem.Challenge.rw_comesapart_k79_written_kinds.prog) (w := w) (base := base) T
  have G_l_draws := ok_l_draws (P := PySem.Challenge.rw_comesapart_k79_written_kinds.prog) (w := w) (base := base) T
  have G_l_pick := ok_l_pick (P := PySem.Challenge.rw_comesapart_k79_written_kinds.prog) (w := w) (base := base) T
  have G_l_name := ok_l_name (P := PySem.Challenge.rw_comesapart_k79_written_kinds.prog) (w := w) (base := base) T G_l_pick
  have G_l_names := ok_l_names (P := PySem.Challenge.rw_comesapart_k79_written_kinds.prog) (w := w) (base := base) T G_l_name G_l_pick
  have G_l_shape := ok_l_shape (P := PySem.Challenge.rw_comesapart_k79_written_kinds.prog) (w := w) (base := base) T G_l_pick
  have G_l_write := ok_l_write (P := PySem.Challenge.rw_comesapart_k79_written_kinds.prog) (w := w) (base := base) T
  have G_p_letters_in := ok_p_letters_in (P := PySem.Challenge.rw_comesapart_k79_written_kinds.prog) (w := w) (base := base) T
  have G_p_is_name := ok_p_is_name (P := PySem.Challenge.rw_comesapart_k79_written_kinds.prog) (w := w) (base := base) T
  have G_m_KindX_initX := ok_m_KindX_initX (P := PySem.Challenge.rw_comesapart_k79_written_kinds.prog) (w := w) (base := base) T G_p_letters_in G_p_is_name (G_x_BadName base) (G_x_TooLarge base)
  have G_p_written_shape := ok_p_written_shape (P := PySem.Challenge.rw_comesapart_k79_written_kinds.prog) (w := w) (base := base) T
  have G_p_format_kind := ok_p_format_kind (P := PySem.Challenge.rw_comesapart_k79_written_kinds.prog) (w := w) (base := base) T G_p_written_shape
  have G_p_expect := ok_p_expect (P := PySem.Challenge.rw_comesapart_k79_written_kinds.prog) (w := w) (base := base) T (G_x_BadSign base)
  have G_p_name_end := ok_p_name_end (P := PySem.Challenge.rw_comesapart_k79_written_kinds.prog) (w := w) (base := base) T (G_x_BadSign base)
  have G_p_read_shape := ok_p_read_shape (P := PySem.Challenge.rw_comesapart_k79_written_kinds.prog) (w := w) (base := base) T G_p_expect G_p_name_end (G_x_BadSign base)
  have G_p_parse_kind := ok_p_parse_kind (P := PySem.Challenge.rw_comesapart_k79_written_kinds.prog) (w := w) (base := base) T G_p_read_shape G_m_KindX_initX (G_x_BadSign base)
  have G_l_told := ok_l_told (P := PySem.Challenge.rw_comesapart_k79_written_kinds.prog) (w := w) (base := base) T G_p_parse_kind G_p_format_kind
  have G_l_spoilt := ok_l_spoilt (P := PySem.Challenge.rw_comesapart_k79_written_kinds.prog) (w := w) (base := base) T G_l_pick
  have G_l_is_letter := ok_l_is_letter (P := PySem.Challenge.rw_comesapart_k79_written_kinds.prog) (w := w) (base := base) T
  have G_l_next := ok_l_next (P := PySem.Challenge.rw_comesapart_k79_written_kinds.prog) (w := w) (base := base) T G_l_is_letter
  have G_l_bad_sign := ok_l_bad_sign (P := PySem.Challenge.rw_comesapart_k79_written_kinds.prog) (w := w) (base := base) T G_l_next
  have G_l_read := ok_l_read (P := PySem.Challenge.rw_comesapart_k79_written_kinds.prog) (w := w) (base := base) T G_l_is_letter
  have G_l_letters := ok_l_letters (P := PySem.Challenge.rw_comesapart_k79_written_kinds.prog) (w := w) (base := base) T
  have G_l_due := ok_l_due (P := PySem.Challenge.rw_comesapart_k79_written_kinds.prog) (w := w) (base := base) T G_l_bad_sign G_l_read G_l_letters
  have G_law := ok_law (P := PySem.Challenge.rw_comesapart_k79_written_kinds.prog) (w := w) (base := base) T G_l_cell G_l_draws G_l_pick G_l_names G_l_shape G_l_write G_m_KindX_initX G_p_format_kind G_l_told G_l_spoilt G_l_due
  exact G_law
end K79

open PySem PySem.W PyProof.Rows
set_option maxRecDepth 100000 in
set_option maxHeartbeats 0 in
theorem PySem.Challenge.cw_comesapart_k79_written_kinds_holds : PySem.Challenge.rw_comesapart_k79_written_kinds.Holds := by
  w_on; o_law; k_head; (case hw => w_witness2)
  k_fill
  refine L2.walk_of (l := PySem.Challenge.rw_comesapart_k79_written_kinds) (n := 63) (k := 57) (x := "_law_script") (CX := fun _ => L2.CX0) (sp := fun w => K79.sp_law ⟨PySem.Challenge.rw_comesapart_k79_written_kinds.prog, w, _⟩) rfl (by decide) rfl ⟨rfl, by decide, by decide⟩ (fun w h Y => PySem.W.kIn_of Y) ?F (fun w _ a ns hl _ hS => ⟨⟨ns⟩, K79.law_plain ns hl, G.Fn.script hS⟩) (fun _ _ _ _ _ h => h)
  case F =>
    intro w mg fa h KX G hmg
    refine' K79.all_mk KX G hmg ?q0 ?q1 ?q2 ?q3 ?q4 ?q5 ?q6 ?q7 ?q8 ?q9 ?q10 ?q11 ?q12 ?q13 ?q14 ?q15 ?q16 ?q17 ?q18 ?q19 ?q20 ?q21 ?q22 ?q23 ?q24 ?q25 ?q26 ?q27 ?q28 ?q29 ?q30 ?q31 ?q32 ?q33 ?q34 ?q35 ?q36 ?q37 ?q38 ?q39 ?q40 ?q41 ?q42 ?q43 ?q44 ?q45 ?q46 ?q47 ?q48 ?q49 ?q50 ?q51 ?q52 ?q53 ?q54 ?q55 ?q56 ?q57 ?q58 ?q59 ?q60 ?q61 ?q62 ?q63 ?q64 ?q65 ?q66 ?q67 ?q68 ?q69 ?q70 ?q71 ?q72 ?q73 ?q74 ?q75 ?q76 ?q77 ?q78 ?q79 ?q80 ?q81 ?q82 ?q83 ?q84 ?q85 ?q86 ?q87 ?q88 ?q89 ?q90 ?q91 ?q92 ?q93 ?q94 ?q95 ?q96 ?q97 ?q98 ?q99 ?q100 ?q101 ?q102 ?q103 ?q104 ?q105 ?q106 ?q107 ?q108 ?q109 ?q110 ?q111 ?q112 ?q113 ?q114 ?q115 ?q116 ?q117 ?q118 ?q119 ?q120 ?q121 ?q122 ?q123 ?q124 ?q125 ?q126 ?q127 ?q128 ?q129 ?q130 ?q131 ?q132 ?q133 ?q134 ?q135 ?q136 ?q137 ?q138 ?q139 ?q140 ?q141 ?q142 ?q143 ?q144 ?q145 ?q146 ?q147 ?q148 ?q149 ?q150 ?q151 ?q152 ?q153 ?q154 ?q155 ?q156 ?q157 ?q158 ?q159 ?q160 ?q161 ?q162 ?q163 ?q164 ?q165 ?q166 ?q167 ?q168 ?q169 ?q170 ?q171 ?q172 ?q173 ?q174 ?q175 ?q176 ?q177 ?q178 ?q179 ?q180 ?q181 ?q182 ?q183 ?q184 ?q185 ?q186 ?q187 ?q188 ?q189 ?q190 ?q191 ?q192 ?q193 ?q194 ?q195 ?q196 ?q197 ?q198 ?q199 ?q200 ?q201 ?q202 ?q203 ?q204 ?q205 ?q206 ?q207 ?q208 ?q209 ?q210 ?q211 ?q212 ?q213 ?q214 ?q215 ?q216 ?q217 ?q218 ?q219 ?q220 ?q221 ?q222 ?q223 ?q224 ?q225 ?q226 ?q227 ?q228 ?q229 ?q230 ?q231 ?q232 ?q233 ?q234 ?q235 ?q236 ?q237 ?q238 ?q239 ?q240 ?q241 ?q242 ?q243 ?q244 ?q245 ?q246 ?q247 ?q248 ?q249 ?q250 ?q251 ?q252 ?q253 ?q254 ?q255 ?q256 ?q257 ?q258 ?q259 ?q260 ?q261
    (case q0 => k_is)
    (case q1 => k_is)
    (case q2 => k_is)
    (case q3 => k_is)
    (case q4 => k_is)
    (case q5 => k_is)
    (case q6 => k_is)
    (case q7 => k_is)
    (case q8 => k_is)
    (case q9 => k_is)
    (case q10 => k_is)
    (case q11 => k_is)
    (case q12 => k_is)
    (case q13 => k_is)
    (case q14 => k_is)
    (case q15 => k_is)
    (case q16 => (exact ⟨⟨_, _, rfl, rfl⟩, ⟨_, _, rfl, rfl⟩, trivial⟩))
    (case q17 => decide +kernel)
    (case q18 => k_is)
    (case q19 => k_is)
    (case q20 => (exact ⟨⟨_, _, rfl, rfl⟩, ⟨_, _, rfl, rfl⟩, trivial⟩))
    (case q21 => decide +kernel)
    (case q22 => k_is)
    (case q23 => k_is)
    (case q24 => k_is)
    (case q25 => k_is)
    (case q26 => k_is)
    (case q27 => k_is)
    (case q28 => k_is)
    (case q29 => k_is)
    (case q30 => k_is)
    (case q31 => k_is)
    (case q32 => k_is)
    (case q33 => k_is)
    (case q34 => k_is)
    (case q35 => k_is)
    (case q36 => k_is)
    (case q37 => k_is)
    (case q38 => k_is)
    (case q39 => k_is)
    (case q40 => k_is)
    (case q41 => k_is)
    (case q42 => k_is)
    (case q43 => k_is)
    (case q44 => k_is)
    (case q45 => k_is)
    (case q46 => k_is)
    (case q47 => k_is)
    (case q48 => k_is)
    (case q49 => k_is)
    (case q50 => k_is)
    (case q51 => k_is)
    (case q52 => k_is)
    (case q53 => k_is)
    (case q54 => k_is)
    (case q55 => k_is)
    (case q56 => k_is)
    (case q57 => k_is)
    (case q58 => k_is)
    (case q59 => k_is)
    (case q60 => k_is)
    (case q61 => k_is)
    (case q62 => k_is)
    (case q63 => k_is)
    (case q64 => k_is)
    (case q65 => k_is)
    (case q66 => k_is)
    (case q67 => k_is)
    (case q68 => k_is)
    (case q69 => k_is)
    (case q70 => k_is)
    (case q71 => k_is)
    (case q72 => k_is)
    (case q73 => k_is)
    (case q74 => k_is)
    (case q75 => k_is)
    (case q76 => k_is)
    (case q77 => k_is)
    (case q78 => k_is)
    (case q79 => k_is)
    (case q80 => k_is)
    (case q81 => k_is)
    (case q82 => k_is)
    (case q83 => k_is)
    (case q84 => k_is)
    (case q85 => k_is)
    (case q86 => k_is)
    (case q87 => k_is)
    (case q88 => k_is)
    (case q89 => k_is)
    (case q90 => k_is)
    (case q91 => k_is)
    (case q92 => k_is)
    (case q93 => k_is)
    (case q94 => k_is)
    (case q95 => k_is)
    (case q96 => k_is)
    (case q97 => k_is)
    (case q98 => k_is)
    (case q99 => k_is)
    (case q100 => k_is)
    (case q101 => k_is)
    (case q102 => k_is)
    (case q103 => k_is)
    (case q104 => k_is)
    (case q105 => k_is)
    (case q106 => k_is)
    (case q107 => k_is)
    (case q108 => k_is)
    (case q109 => k_is)
    (case q110 => k_is)
    (case q111 => k_is)
    (case q112 => k_is)
    (case q113 => k_is)
    (case q114 => k_is)
    (case q115 => k_is)
    (case q116 => k_is)
    (case q117 => k_is)
    (case q118 => k_is)
    (case q119 => k_is)
    (case q120 => k_is)
    (case q121 => k_is)
    (case q122 => k_is)
    (case q123 => k_is)
    (case q124 => k_is)
    (case q125 => k_is)
    (case q126 => k_is)
    (case q127 => k_is)
    (case q128 => k_is)
    (case q129 => k_is)
    (case q130 => k_is)
    (case q131 => k_is)
    (case q132 => decide +kernel)
    (case q133 => k_is)
    (case q134 => k_is)
    (case q135 => k_is)
    (case q136 => k_is)
    (case q137 => k_is)
    (case q138 => k_is)
    (case q139 => ks_is)
    (case q140 => k_is)
    (case q141 => k_is)
    (case q142 => k_is)
    (case q143 => k_is)
    (case q144 => k_is)
    (case q145 => k_is)
    (case q146 => k_is)
    (case q147 => rfl)
    (case q148 => decide +kernel)
    (case q149 => k_is)
    (case q150 => k_is)
    (case q151 => decide +kernel)
    (case q152 => k_is)
    (case q153 => k_is)
    (case q154 => k_is)
    (case q155 => k_is)
    (case q156 => k_is)
    (case q157 => k_is)
    (case q158 => ks_is)
    (case q159 => k_is)
    (case q160 => k_is)
    (case q161 => k_is)
    (case q162 => k_is)
    (case q163 => k_is)
    (case q164 => k_is)
    (case q165 => k_is)
    (case q166 => rfl)
    (case q167 => decide +kernel)
    (case q168 => k_is)
    (case q169 => k_is)
    (case q170 => decide +kernel)
    (case q171 => k_is)
    (case q172 => k_is)
    (case q173 => k_is)
    (case q174 => k_is)
    (case q175 => k_is)
    (case q176 => k_is)
    (case q177 => ks_is)
    (case q178 => k_is)
    (case q179 => k_is)
    (case q180 => k_is)
    (case q181 => k_is)
    (case q182 => k_is)
    (case q183 => k_is)
    (case q184 => k_is)
    (case q185 => rfl)
    (case q186 => decide +kernel)
    (case q187 => k_is)
    (case q188 => k_is)
    (case q189 => k_is)
    (case q190 => k_is)
    (case q191 => k_is)
    (case q192 => k_is)
    (case q193 => k_is)
    (case q194 => k_is)
    (case q195 => k_is)
    (case q196 => k_is)
    (case q197 => k_is)
    (case q198 => k_is)
    (case q199 => k_is)
    (case q200 => k_is)
    (case q201 => k_is)
    (case q202 => k_is)
    (case q203 => k_is)
    (case q204 => k_is)
    (case q205 => k_is)
    (case q206 => k_is)
    (case q207 => k_is)
    (case q208 => k_is)
    (case q209 => k_is)
    (case q210 => k_is)
    (case q211 => k_is)
    (case q212 => k_is)
    (case q213 => k_is)
    (case q214 => k_is)
    (case q215 => k_is)
    (case q216 => k_is)
    (case q217 => k_is)
    (case q218 => k_is)
    (case q219 => k_is)
    (case q220 => k_is)
    (case q221 => k_is)
    (case q222 => k_is)
    (case q223 => k_is)
    (case q224 => k_is)
    (case q225 => k_is)
    (case q226 => k_is)
    (case q227 => k_is)
    (case q228 => k_is)
    (case q229 => k_is)
    (case q230 => k_is)
    (case q231 => k_is)
    (case q232 => k_is)
    (case q233 => k_is)
    (case q234 => k_is)
    (case q235 => k_is)
    (case q236 => k_is)
    (case q237 => k_is)
    (case q238 => k_is)
    (case q239 => k_is)
    (case q240 => k_is)
    (case q241 => k_is)
    (case q242 => k_is)
    (case q243 => k_is)
    (case q244 => decide)
    (case q245 => decide)
    (case q246 => decide)
    (case q247 => decide)
    (case q248 => decide)
    (case q249 => decide)
    (case q250 => k_is)
    (case q251 => k_is)
    (case q252 => k_is)
    (case q253 => k_is)
    (case q254 => k_is)
    (case q255 => k_is)
    (case q256 => k_is)
    (case q257 => k_is)
    (case q258 => k_is)
    (case q259 => k_is)
    (case q260 => k_is)
    (case q261 => k_is)

