import PyProof.Rows.All
import Wide.All
import OpenK.AllK
import Wide.FinOn
import HandS.ForMost
import HandS.DictComp
import HandS.Strs
import HandS.IsInst
import HandS.SortInts
import KE.DataEq
import HandS.Wide
import HandS.Conv
import HandS.ExcOwn
import HandS.ExcInit
import HandS.ExcField
import HandS.ExcIs
import HandS.ExcSuper
import HandS.TryOnly
import HandS.TryMany
import HandS.Property
import HandS.ClsMeth
import HandS.OwnEq
import KE.KExcSuper
import HandS.Nested
import HandS.WordsExc
import KE.KExcIs
import KE.GoesMore
import HandS.TupAny
import HandS.Deep
import HandS.More
import HandS.SetKeys
import HandS.Star
import HandS.SetBool
import HandS.Flow
import HandS.SetFor
import HandS.Style
import HandS.Walk
import PyProof.InstEq
import KE.KOwnIter
import HandS.IterVal
import HandS.HotCalls
import HandS.TupSets
import KE.KTryMore
import HandS.OwnIter
import KE.SortCalls
import KE.SortData
import KE.DataCmp
import KE.KRevSl
import HandS.SortKw
import KE.DataMinMax
import HandS.TupLen
import KE.KDictSum
import HandS.Defaults
import HandS.FStr
import PyProof.FString3
import PyProof.StrOps2
import PyProof.Rows.StrIntSpec
import PyProof.Rows.Range3
import HandS.Records
import PyProof.ListMulRoad
import PyProof.TwoTypes
import PyProof.Rows.MatchSeqLen
import KE.KDictList
import HandS.Sort
import KE.KDictDisplayH
import KE.RegKSuper
import PySem.Challenge.RW_comesapart_k10_reached_and_shortest_walk
set_option Elab.async false
set_option linter.all false
set_option maxRecDepth 100000
section
set_option maxHeartbeats 4000000
/-! G0: rules that the layer lacks: a name takes a dict comprehension. -/
namespace L2
open PySem PySem.Spec PyProof.Rows
section
variable {X : Cx}
/-! the same rules over a written part that bears a name (K, w): within a comprehension's block the context is another, K and w are not -/
section
variable (K : PySem.W.Frag) (w : World)
theorem ix_lK (h : X.K = K := by rfl) : IxR X (rIxL K) := h ▸ ix_list
theorem ix_tK (h : X.K = K := by rfl) : IxR X (rIxT K) := h ▸ ix_tup
theorem ix_qK (h : X.K = K := by rfl) : IxR X (rIx K) := h ▸ ix_seq
theorem len_K (h : X.K = K := by rfl) : CallR X (.builtin "len") (fun xs H Q => ∃ p ys, xs = [.ref p] ∧ (SqL K H p ys ∨ SqT K H p ys) ∧ Q (.int ys.length) H) := h ▸ call_len_seq
theorem list_K (h : X.K = K := by rfl) : CallR X (.type "list") (fun xs H Q => ∃ p ys, xs = [.ref p] ∧ (SqL K H p ys ∨ SqT K H p ys) ∧ ∀ l, H l = none → Q (.ref l) (upd H l (.lst ys))) := h ▸ call_list_of
theorem tuple_K (h : X.K = K := by rfl) : CallR X (.type "tuple") (fun xs H Q => ∃ p ys, xs = [.ref p] ∧ ((SqL K H p ys ∧ ∀ l, H l = none → Q (.ref l) (upd H l (.tup ys))) ∨ (SqT K H p ys ∧ Q (.ref p) H))) := h ▸ call_tuple_of
/-- data without dicts, not too deep -/
def shP (d : PyData) : Bool := d.plain && decide (d.depth ≤ 64)
def rEqP (K : PySem.W.Frag) : R2 := fun x y H Q => ∃ d e, Dp K H x d ∧ Dp K H y e ∧ shP d = true ∧ shP e = true ∧ Q (.bl (PyData.eqv d e)) H
def rNeP (K : PySem.W.Frag) : R2 := fun x y H Q => ∃ d e, Dp K H x d ∧ Dp K H y e ∧ shP d = true ∧ shP e = true ∧ Q (.bl (!PyData.eqv d e)) H
/-- x in a list or tuple of data -/
def rInP (K : PySem.W.Frag) (neg : Bool) : R2 := fun x y H Q => ∃ d ds, Dp K H x d ∧ (Dp K H y (.list ds) ∨ Dp K H y (.tuple ds)) ∧ shP d = true ∧ PyData.plainAll ds = true ∧ Q (.bl (if neg then !ds.any fun z => PyData.eqv z d else ds.any fun z => PyData.eqv z d)) H
theorem op_eqDK (hu : X.A.units + 64 < cLine) (h : X.K = K := by rfl) : OpR X (compareOp .Eq) (rEqP K) := by
  subst h
  intro pins s σ H x y v u Q I rx ry ⟨d, e, hd, he, sd, se, q⟩
  obtain ⟨as, r1⟩ := Dp.reads I d x v hd rx
  obtain ⟨bs, r2⟩ := Dp.reads I e y u he ry
  simp only [shP, Bool.and_eq_true, decide_eq_true_eq] at sd se
  exact SeqAt.eq_plain r1 r2 sd.1 se.1 (by omega) ⟨.bl _, H, I, rfl, q⟩
theorem op_neDK (hu : X.A.units + 64 < cLine) (h : X.K = K := by rfl) : OpR X (compareOp .NotEq) (rNeP K) := by
  subst h
  intro pins s σ H x y v u Q I rx ry ⟨d, e, hd, he, sd, se, q⟩
  obtain ⟨as, r1⟩ := Dp.reads I d x v hd rx
  obtain ⟨bs, r2⟩ := Dp.reads I e y u he ry
  simp only [shP, Bool.and_eq_true, decide_eq_true_eq] at sd se
  exact SeqAt.ne_plain r1 r2 sd.1 se.1 (by omega) ⟨.bl _, H, I, rfl, q⟩
theorem ind_K (hu : X.A.units + 65 < cLine) (h : X.K = K := by rfl) : OpR X (compareOp .In) (rInP K false) := by
  subst h
  intro pins s σ H x y v u Q I rx ry ⟨d, ds, hd, he, sd, se, q⟩
  obtain ⟨as, r1⟩ := Dp.reads I d x v hd rx
  simp only [shP, Bool.and_eq_true, decide_eq_true_eq] at sd
  rcases he with he | he
  · obtain ⟨bs, r2⟩ := Dp.reads I _ y u he ry
    exact SeqAt.in_list_data r2 r1 se sd.1 (by omega) ⟨.bl _, H, I, rfl, q⟩
  · obtain ⟨bs, r2⟩ := Dp.reads I _ y u he ry
    exact SeqAt.in_tuple_data r2 r1 se sd.1 (by omega) ⟨.bl _, H, I, rfl, q⟩
theorem nid_K (hu : X.A.units + 65 < cLine) (h : X.K = K := by rfl) : OpR X (compareOp .NotIn) (rInP K true) := by
  subst h
  intro pins s σ H x y v u Q I rx ry ⟨d, ds, hd, he, sd, se, q⟩
  obtain ⟨as, r1⟩ := Dp.reads I d x v hd rx
  simp only [shP, Bool.and_eq_true, decide_eq_true_eq] at sd
  rcases he with he | he
  · obtain ⟨bs, r2⟩ := Dp.reads I _ y u he ry
    exact SeqAt.notIn_list_data r2 r1 se sd.1 (by omega) ⟨.bl _, H, I, rfl, q⟩
  · obtain ⟨bs, r2⟩ := Dp.reads I _ y u he ry
    exact SeqAt.notIn_tuple_data r2 r1 se sd.1 (by omega) ⟨.bl _, H, I, rfl, q⟩
theorem isi_K (h : X.K = K := by rfl) : CallR X (.builtin "isinstance") (rIsi K) := h ▸ call_isi
theorem pi_lK {tg l : Expr} {tl : TE} (hl : PE X l tl) (h : X.K = K := by rfl) : PI X tg l (iList K tl) := h ▸ pi_list hl
theorem truth_K {a : Expr} {ta : TE} (ha : PE X a ta) (he : ∀ whole, isTrue a X.env whole = (do let v ← whole; standAt a.pos; holding [v] (truthy v))) (h : X.K = K := by rfl) :
    PT X a (fun σ H Q => ta σ H fun x H' => ∃ k, TruV K x H' k ∧ Q k H') := h ▸ pt_truth ha he
theorem bm0_K {o : Expr} {to : TE} {name : Str} {apos cpos : Pos} {T id : String} {r : V → List V → Hp → VK → Prop} (pa : PlainAttrs T) (slot : Slot T name id) (hty : typeOf (.builtin id) = pure (.type "method_descriptor")) (hm : MtR X id r) (ho : PE X o to)
    (hbase : attributeBase o name X.env (eval o X.env) = eval o X.env := by rfl) (hline : (apos.endLine == cpos.line) = true := by rfl) (h : X.K = K := by rfl) : PE X (.Call (.Attribute o name apos) [] [] cpos) (tBM0 K T r to) := h ▸ pe_bm0 pa slot hty hm ho hbase hline
theorem bm_K {o e : Expr} {es : List Expr} {to : TE} {t : TA} {name : Str} {apos cpos : Pos} {T id : String} {r : V → List V → Hp → VK → Prop} (pa : PlainAttrs T) (slot : Slot T name id) (hty : typeOf (.builtin id) = pure (.type "method_descriptor")) (hm : MtR X id r) (ho : PE X o to) (ha : PA X (e :: es) t)
    (hbase : attributeBase o name X.env (eval o X.env) = eval o X.env := by rfl)
    (hfew : ((backTo cpos (starEach (e :: es) X.env)).all (fun x => !x.1) && (backToKw cpos (keywordEach [] X.env)).all (fun x => x.1.isSome)
      && decide ((e :: es).length + ([] : List Keyword).length + (if ([] : List Keyword).isEmpty then 0 else 1) < 30)) = true := by rfl)
    (hline : (apos.endLine == cpos.line) = true := by rfl) (hs : starEach (e :: es) X.env = (false, eval e X.env) :: starEach es X.env := by rfl) (hplain : (backTo cpos (starEach es X.env)).any (·.1) = false := by rfl) (h : X.K = K := by rfl) :
    PE X (.Call (.Attribute o name apos) (e :: es) [] cpos) (tBM K T r to t) := h ▸ pe_bm pa slot hty hm ho ha hbase hfew hline hs hplain
end
end
end L2
end

/-! G1: value environments over the hand layer. F: the frozen view of the heap (read only from now on), L: what is owned (may still be written). -/
namespace G
open PySem L2

structure GCtx where
  P : Program
  w : World
  K : PySem.W.Frag

abbrev LO := List (Addr × HO)

structure En where
  F0 : Hp
  H0 : Hp
  M : List Addr

structure Wk (e : En) (F : Hp) (L : LO) (H : Hp) : Prop where
  ff : Same e.F0 F
  hh : ∀ a o, a ∉ e.M → e.H0 a = some o → H a = some o
  th : ∀ a, e.H0 a ≠ none → H a ≠ none
  fh : Same F H
  nw : ∀ a, e.H0 a ≠ none → e.F0 a = none → F a = none
  tp : ∀ a xs, H a = some (.tup xs) → F a = some (.tup xs)
  ow : ∀ p ∈ L, F p.1 = none ∧ H p.1 = some p.2 ∧ (e.H0 p.1 = none ∨ p.1 ∈ e.M)
  nd : (L.map Prod.fst).Nodup

/-- the heap has grown, nothing that stood has changed -/
abbrev Gr (F H F' H' : Hp) : Prop := Wk ⟨F, H, []⟩ F' [] H'

theorem ne_some {α : Type} {x : Option α} {y : α} (h : x = some y) : x ≠ none := fun z => by rw [z] at h; cases h

theorem Wk.base {e : En} {F : Hp} {L : LO} {H : Hp} (k : Wk e F L H) : Gr F H F H :=
  ⟨Same.refl _, fun _ _ _ h => h, fun _ h => h, k.fh, fun _ _ h => h, k.tp, fun _ h => (nomatch h), List.nodup_nil⟩

theorem Wk.trans {e : En} {F F' : Hp} {L L' : LO} {H H' : Hp} (a : Wk e F L H) (b : Wk ⟨F, H, []⟩ F' L' H') : Wk e F' (L' ++ L) H' where
  ff := a.ff.trans b.ff
  hh := fun x o hx h => b.hh x o (fun z => nomatch z) (a.hh x o hx h)
  th := fun x h => b.th x (a.th x h)
  fh := b.fh
  nw := fun x h h' => b.nw x (a.th x h) (a.nw x h h')
  tp := b.tp
  ow := fun p hp => by
    rcases List.mem_append.mp hp with hp | hp
    · obtain ⟨h1, h2, h3⟩ := b.ow p hp
      refine ⟨h1, h2, .inl ?_⟩
      rcases h3 with h3 | h3
      · cases q : e.H0 p.1 with
        | none => rfl
        | some o => exact absurd h3 (a.th p.1 (ne_some q))
      · exact nomatch h3
    · obtain ⟨h1, h2, h3⟩ := a.ow p hp
      exact ⟨b.nw p.1 (ne_some h2) h1, b.hh p.1 p.2 (fun z => nomatch z) h2, h3⟩
  nd := by
    rw [List.map_append]
    refine List.nodup_append.mpr ⟨b.nd, a.nd, fun x hx y hy z => ?_⟩
    obtain ⟨p, hp, rfl⟩ := List.mem_map.mp hx
    obtain ⟨q, hq, rfl⟩ := List.mem_map.mp hy
    obtain ⟨_, _, h3⟩ := b.ow p hp
    obtain ⟨_, h2, _⟩ := a.ow q hq
    rcases h3 with h3 | h3
    · have h4 : H q.1 = none := (show p.1 = q.1 from z) ▸ (show H p.1 = none from h3)
      rw [h2] at h4
      cases h4
    · exact nomatch h3

theorem Wk.trans0 {e : En} {F F' : Hp} {L : LO} {H H' : Hp} (a : Wk e F L H) (b : Gr F H F' H') : Wk e F' L H' := a.trans b

/-- a part of what is owned may be forgotten; the order is nothing -/
theorem Wk.sub {e : En} {F : Hp} {L L' : LO} {H : Hp} (a : Wk e F L H) (hs : ∀ p ∈ L', p ∈ L) (hn : (L'.map Prod.fst).Nodup) : Wk e F L' H :=
  ⟨a.ff, a.hh, a.th, a.fh, a.nw, a.tp, fun p hp => a.ow p (hs p hp), hn⟩

theorem nodup_part {L1 Li L2 : LO} (h : ((L1 ++ Li ++ L2).map Prod.fst).Nodup) : ((L1 ++ L2).map Prod.fst).Nodup := by
  simp only [List.map_append] at h ⊢
  have h1 := List.nodup_append.mp h
  have h2 := List.nodup_append.mp h1.1
  exact List.nodup_append.mpr ⟨h2.1, h1.2.1, fun x hx y hy => h1.2.2 x (List.mem_append_left _ hx) y hy⟩
theorem Wk.drop {e : En} {F : Hp} {L1 Li L2 : LO} {H : Hp} (a : Wk e F (L1 ++ Li ++ L2) H) : Wk e F (L1 ++ L2) H :=
  a.sub (fun p hp => by
    rcases List.mem_append.mp hp with h | h
    · exact List.mem_append_left _ (List.mem_append_left _ h)
    · exact List.mem_append_right _ h) (nodup_part a.nd)
theorem nodup_mid {L1 Li L2 : LO} (h : ((L1 ++ Li ++ L2).map Prod.fst).Nodup) : ((Li ++ (L1 ++ L2)).map Prod.fst).Nodup := by
  simp only [List.map_append] at h ⊢
  refine (List.Perm.nodup_iff ?_).mp h
  rw [← List.append_assoc]
  exact List.Perm.append_right _ List.perm_append_comm
theorem nodup_back {L1 Li L2 : LO} (h : ((Li ++ (L1 ++ L2)).map Prod.fst).Nodup) : ((L1 ++ Li ++ L2).map Prod.fst).Nodup := by
  simp only [List.map_append] at h ⊢
  refine (List.Perm.nodup_iff ?_).mp h
  rw [← List.append_assoc]
  exact List.Perm.append_right _ List.perm_append_comm
theorem Wk.front {e : En} {F : Hp} {L1 Li L2 : LO} {H : Hp} (a : Wk e F (L1 ++ Li ++ L2) H) : Wk e F (Li ++ (L1 ++ L2)) H :=
  a.sub (fun p hp => by simp only [List.mem_append] at hp ⊢; rcases hp with h | h | h <;> simp [h]) (nodup_mid a.nd)
theorem Wk.back {e : En} {F : Hp} {L1 Li L2 : LO} {H : Hp} (a : Wk e F (Li ++ (L1 ++ L2)) H) : Wk e F (L1 ++ Li ++ L2) H :=
  a.sub (fun p hp => by simp only [List.mem_append] at hp ⊢; rcases hp with (h | h) | h <;> simp [h]) (nodup_back a.nd)

/-- a new object, owned -/
theorem Wk.own {e : En} {F : Hp} {L : LO} {H : Hp} {p : Addr} {o : HO} (a : Wk e F L H) (hp : H p = none) (ht : ∀ xs, o ≠ .tup xs) : Wk e F ((p, o) :: L) (upd H p o) where
  ff := a.ff
  hh := fun x u hx h => by rw [upd_ne (ne_of_none (a.hh x u hx h) hp)]; exact a.hh x u hx h
  th := fun x h => by
    by_cases hx : x = p
    · subst hx; rw [upd_same]; exact fun z => nomatch z
    · rw [upd_ne hx]; exact a.th x h
  fh := fun x u h => by rw [upd_ne (ne_of_none (a.fh x u h) hp)]; exact a.fh x u h
  nw := a.nw
  tp := fun x xs h => by
    by_cases hx : x = p
    · subst hx; rw [upd_same] at h; exact absurd (Option.some.inj h) (ht xs)
    · rw [upd_ne hx] at h; exact a.tp x xs h
  ow := fun q hq => by
    rcases List.mem_cons.mp hq with rfl | hq
    · refine ⟨Same.free a.fh hp, upd_same, .inl ?_⟩
      cases z : e.H0 p with
      | none => rfl
      | some u => exact absurd hp (a.th p (ne_some z))
    · obtain ⟨h1, h2, h3⟩ := a.ow q hq
      exact ⟨h1, by rw [upd_ne (ne_of_none h2 hp)]; exact h2, h3⟩
  nd := by
    refine List.nodup_cons.mpr ⟨fun z => ?_, a.nd⟩
    obtain ⟨q, hq, e1⟩ := List.mem_map.mp z
    obtain ⟨_, h2, _⟩ := a.ow q hq
    rw [show q.1 = p from e1, hp] at h2
    cases h2

/-- what is owned is frozen -/
theorem Wk.freeze1 {e : En} {F : Hp} {L : LO} {H : Hp} {p : Addr} {o : HO} (a : Wk e F ((p, o) :: L) H) (hm : p ∉ e.M) : Wk e (upd F p o) L H where
  ff := fun x u h => by
    have h1 := (a.ow (p, o) List.mem_cons_self).1
    rw [upd_ne (ne_of_none (a.ff x u h) h1)]
    exact a.ff x u h
  hh := a.hh
  th := a.th
  fh := fun x u h => by
    by_cases hx : x = p
    · subst hx; rw [upd_same] at h; cases h
      exact (a.ow (x, o) List.mem_cons_self).2.1
    · rw [upd_ne hx] at h; exact a.fh x u h
  nw := fun x h h' => by
    have hx : x ≠ p := fun z => by
      subst z
      rcases (a.ow (x, o) List.mem_cons_self).2.2 with z | z
      · exact h z
      · exact hm z
    rw [upd_ne hx]; exact a.nw x h h'
  tp := fun x xs h => by
    by_cases hx : x = p
    · subst hx
      have h2 := (a.ow (x, o) List.mem_cons_self).2.1
      rw [upd_same, ← h2, h]
    · rw [upd_ne hx]; exact a.tp x xs h
  ow := fun q hq => by
    obtain ⟨h1, h2, h3⟩ := a.ow q (List.mem_cons_of_mem _ hq)
    have hx : q.1 ≠ p := fun z => (List.nodup_cons.mp a.nd).1 (List.mem_map.mpr ⟨q, hq, z⟩)
    exact ⟨by rw [upd_ne hx]; exact h1, h2, h3⟩
  nd := (List.nodup_cons.mp a.nd).2
/-- the owned L joins F -/
def plus (F : Hp) : LO → Hp
  | [] => F
  | p :: L => plus (upd F p.1 p.2) L
theorem Wk.freeze : ∀ {Li L : LO} {e : En} {F : Hp} {H : Hp}, Wk e F (Li ++ L) H → (∀ p ∈ Li, p.1 ∉ e.M) → Wk e (plus F Li) L H
  | [], _, _, _, _, a, _ => a
  | p :: Li, L, e, F, H, a, hm => Wk.freeze (Li := Li) (Wk.freeze1 (p := p.1) (o := p.2) a (hm p List.mem_cons_self)) fun q hq => hm q (List.mem_cons_of_mem _ hq)
theorem same_plus : ∀ {Li : LO} {F : Hp}, (∀ p ∈ Li, F p.1 = none) → (Li.map Prod.fst).Nodup → Same F (plus F Li)
  | [], F, _, _ => Same.refl F
  | p :: Li, F, h, hn => by
    have h1 : Same F (upd F p.1 p.2) := fun x u e => by rw [upd_ne (ne_of_none e (h p List.mem_cons_self))]; exact e
    refine h1.trans (same_plus (fun q hq => ?_) (List.nodup_cons.mp hn).2)
    have hx : q.1 ≠ p.1 := fun z => (List.nodup_cons.mp hn).1 (List.mem_map.mpr ⟨q, hq, z⟩)
    rw [upd_ne hx]
    exact h q (List.mem_cons_of_mem _ hq)
theorem plus_get : ∀ {Li : LO} {F : Hp}, (∀ p ∈ Li, F p.1 = none) → (Li.map Prod.fst).Nodup → ∀ p ∈ Li, plus F Li p.1 = some p.2
  | [], _, _, _, _, hq => nomatch hq
  | p :: Li, F, h, hn, q, hq => by
    have hb : ∀ r ∈ Li, upd F p.1 p.2 r.1 = none := fun r hr => by
      have hx : r.1 ≠ p.1 := fun z => (List.nodup_cons.mp hn).1 (List.mem_map.mpr ⟨r, hr, z⟩)
      rw [upd_ne hx]
      exact h r (List.mem_cons_of_mem _ hr)
    rcases List.mem_cons.mp hq with rfl | hq
    · exact same_plus hb (List.nodup_cons.mp hn).2 q.1 q.2 upd_same
    · exact plus_get (Li := Li) hb (List.nodup_cons.mp hn).2 q hq

/-- a new object, frozen at once -/
theorem Wk.lay {e : En} {F : Hp} {L : LO} {H : Hp} {p : Addr} {o : HO} (a : Wk e F L H) (hp : H p = none) : Wk e (upd F p o) L (upd H p o) where
  ff := fun x u h => by rw [upd_ne (ne_of_none (a.ff x u h) (Same.free a.fh hp))]; exact a.ff x u h
  hh := fun x u hx h => by rw [upd_ne (ne_of_none (a.hh x u hx h) hp)]; exact a.hh x u hx h
  th := fun x h => by
    by_cases hx : x = p
    · subst hx; rw [upd_same]; exact fun z => nomatch z
    · rw [upd_ne hx]; exact a.th x h
  fh := fun x u h => by
    by_cases hx : x = p
    · subst hx; rw [upd_same] at h ⊢; exact h
    · rw [upd_ne hx] at h ⊢; exact a.fh x u h
  nw := fun x h h' => by
    have hx : x ≠ p := fun z => by subst z; exact a.th x h hp
    rw [upd_ne hx]; exact a.nw x h h'
  tp := fun x xs h => by
    by_cases hx : x = p
    · subst hx; rw [upd_same] at h ⊢; exact h
    · rw [upd_ne hx] at h ⊢; exact a.tp x xs h
  ow := fun q hq => by
    obtain ⟨h1, h2, h3⟩ := a.ow q hq
    have hx : q.1 ≠ p := ne_of_none h2 hp
    exact ⟨by rw [upd_ne hx]; exact h1, by rw [upd_ne hx]; exact h2, h3⟩
  nd := a.nd
/-- an owned object is written -/
theorem Wk.put {e : En} {F : Hp} {L : LO} {H : Hp} {p : Addr} {o o' : HO} (a : Wk e F ((p, o) :: L) H) (ht : ∀ xs, o' ≠ .tup xs) : Wk e F ((p, o') :: L) (upd H p o') where
  ff := a.ff
  hh := fun x u hx h => by
    have hp : x ≠ p := fun z => by
      subst z
      rcases (a.ow (x, o) List.mem_cons_self).2.2 with z | z
      · rw [show e.H0 x = none from z] at h; cases h
      · exact hx z
    rw [upd_ne hp]; exact a.hh x u hx h
  th := fun x h => by
    by_cases hx : x = p
    · subst hx; rw [upd_same]; exact fun z => nomatch z
    · rw [upd_ne hx]; exact a.th x h
  fh := fun x u h => by
    rw [upd_ne (ne_of_none h (a.ow (p, o) List.mem_cons_self).1)]; exact a.fh x u h
  nw := a.nw
  tp := fun x xs h => by
    by_cases hx : x = p
    · subst hx; rw [upd_same] at h; exact absurd (Option.some.inj h) (ht xs)
    · rw [upd_ne hx] at h; exact a.tp x xs h
  ow := fun q hq => by
    rcases List.mem_cons.mp hq with rfl | hq
    · obtain ⟨h1, _, h3⟩ := a.ow (p, o) List.mem_cons_self
      exact ⟨h1, upd_same, h3⟩
    · obtain ⟨h1, h2, h3⟩ := a.ow q (List.mem_cons_of_mem _ hq)
      have hx : q.1 ≠ p := fun z => (List.nodup_cons.mp a.nd).1 (List.mem_map.mpr ⟨q, hq, z⟩)
      exact ⟨h1, by rw [upd_ne hx]; exact h2, h3⟩
  nd := by
    have h := a.nd
    exact h

/-! ### data -/
class Dat (α : Type) where
  rep : GCtx → Hp → V → α → Prop
  mono : ∀ {C : GCtx} {F F' : Hp} {v : V} {x : α}, Same F F' → rep C F v x → rep C F' v x
/-- data that may be owned: L is its footprint -/
class OD (α : Type) [d : Dat α] where
  orep : GCtx → Hp → V → α → LO → Prop
  omono : ∀ {C : GCtx} {F F' : Hp} {v : V} {x : α} {L : LO}, Same F F' → orep C F v x L → orep C F' v x L
  view : ∀ {C : GCtx} {F H : Hp} {v : V} {x : α} {L : LO}, orep C F v x L → Same F H → (∀ p ∈ L, H p.1 = some p.2) → d.rep C H v x
/-- data that no store can change -/
class Imm (α : Type) [d : Dat α] : Prop where
  imm : ∀ {C : GCtx} {F H : Hp} {v : V} {x : α}, (∀ a xs, H a = some (.tup xs) → F a = some (.tup xs)) → d.rep C H v x → d.rep C F v x

inductive Cell : Type 1 where
  | no : Cell
  | val {α : Type} (d : Dat α) (x : α) : Cell
  | own {α : Type} (d : Dat α) (od : OD α) (pin : Option V) (x : α) : Cell
abbrev cv {α : Type} [d : Dat α] (x : α) : Cell := .val d x
abbrev co {α : Type} [d : Dat α] [od : OD α] (x : α) : Cell := .own d od none x
def CellOk (C : GCtx) (F : Hp) (o : Option V) : Cell → LO → Prop
  | .no, L => L = []
  | .val d x, L => L = [] ∧ ∃ v, o = some v ∧ d.rep C F v x
  | .own _ od pin x, L => ∃ v, o = some v ∧ (∀ u, pin = some u → v = u) ∧ od.orep C F v x L
theorem CellOk.mono {C : GCtx} {F F' : Hp} {o : Option V} : ∀ {c : Cell} {L : LO}, Same F F' → CellOk C F o c L → CellOk C F' o c L
  | .no, _, _, h => h
  | .val d x, _, s, ⟨h, v, e, r⟩ => ⟨h, v, e, d.mono s r⟩
  | .own _ od pin x, _, s, ⟨v, e, p, r⟩ => ⟨v, e, p, od.omono s r⟩

inductive Slots (C : GCtx) (F : Hp) : St → List Cell → LO → Prop where
  | nil : Slots C F [] [] []
  | cons {o : Option V} {c : Cell} {L L' : LO} {σ : St} {Γ : List Cell} (h : CellOk C F o c L) (r : Slots C F σ Γ L') : Slots C F (o :: σ) (c :: Γ) (L ++ L')
theorem Slots.mono {C : GCtx} {F F' : Hp} {σ : St} {Γ : List Cell} {L : LO} (s : Same F F') (h : Slots C F σ Γ L) : Slots C F' σ Γ L := by
  induction h with
  | nil => exact .nil
  | cons h _ ih => exact .cons (h.mono s) ih
theorem Slots.len {C : GCtx} {F : Hp} {σ : St} {Γ : List Cell} {L : LO} (h : Slots C F σ Γ L) : σ.length = Γ.length := by
  induction h with
  | nil => rfl
  | cons h _ ih => simp [ih]
theorem Slots.get {C : GCtx} {F : Hp} {σ : St} {Γ : List Cell} {L : LO} (h : Slots C F σ Γ L) : ∀ {i : Nat} {c : Cell}, Γ[i]? = some c →
    ∃ o L1 Li L2, σ[i]? = some o ∧ L = L1 ++ Li ++ L2 ∧ CellOk C F o c Li ∧ ∀ F' o' c' Li', Same F F' → CellOk C F' o' c' Li' → Slots C F' (σ.set i o') (Γ.set i c') (L1 ++ Li' ++ L2) := by
  induction h with
  | nil => intro i c h; cases i <;> cases h
  | @cons o c0 L L' σ Γ h r ih =>
    intro i c hi
    cases i with
    | zero =>
      cases (Option.some.inj hi : c0 = c)
      exact ⟨o, [], L, L', rfl, rfl, h, fun F' o' c' Li' s h' => .cons h' (r.mono s)⟩
    | succ i =>
      obtain ⟨o1, L1, Li, L2, e1, e2, h1, f⟩ := ih (i := i) (c := c) hi
      refine ⟨o1, L ++ L1, Li, L2, e1, by rw [e2]; simp [List.append_assoc], h1, fun F' o' c' Li' s h' => ?_⟩
      have q := Slots.cons (h.mono s) (f F' o' c' Li' s h')
      simpa [List.append_assoc] using q
theorem Slots.take {C : GCtx} {F : Hp} {σ : St} {Γ : List Cell} {L : LO} (h : Slots C F σ Γ L) (n : Nat) : ∃ L1, Slots C F (σ.take n) (Γ.take n) L1 ∧ L1.Sublist L := by
  induction h generalizing n with
  | nil => exact ⟨[], by simpa using Slots.nil, List.Sublist.refl _⟩
  | @cons o c0 L L' σ Γ h r ih =>
    cases n with
    | zero => exact ⟨[], by simpa using Slots.nil, List.nil_sublist _⟩
    | succ n =>
      obtain ⟨L1, q, s⟩ := ih n
      exact ⟨L ++ L1, by simpa using Slots.cons h q, List.Sublist.append (List.Sublist.refl _) s⟩

/-- an exception: its class, its attributes -/
structure Exn where
  cls : Addr
  fs : Option (List (Str × V))
def Exn.at (x : Exn) (F : Hp) : Option Addr → Prop
  | none => x.fs = none
  | some dd => ∃ fs, x.fs = some fs ∧ F dd = some (.xd fs)
/-- where one stands: the def's world, what is wished of an exception that leaves, which ones may leave, and with what environment -/
structure YC where
  g : GCtx
  E : St → XK
  kx : Exn → List Cell → Prop
abbrev YC.K (Y : YC) : PySem.W.Frag := Y.g.K
abbrev YC.w (Y : YC) : World := Y.g.w
abbrev YC.P (Y : YC) : Program := Y.g.P
abbrev calm (C : GCtx) : YC := ⟨C, fun _ _ _ _ => False, fun _ _ => False⟩
def St0 (C : GCtx) (e : En) (F : Hp) (σ : St) (H : Hp) (Γ : List Cell) : Prop := ∃ L, Wk e F L H ∧ Slots C F σ Γ L
def XOk (Y : YC) (e : En) : Prop := ∀ (x : Exn) (d : Option Addr) (F : Hp) (σ : St) (H : Hp) (Γ : List Cell), Y.kx x Γ → St0 Y.g e F σ H Γ → x.at F d → Y.E σ (.ref x.cls) d H
/-- THE STATE: the slots hold what the environment says -/
def State (Y : YC) (e : En) (F : Hp) (σ : St) (H : Hp) (Γ : List Cell) : Prop := XOk Y e ∧ ∃ L, Wk e F L H ∧ Slots Y.g F σ Γ L
section
variable {C : GCtx} {Y : YC} {e : En} {F F' : Hp} {σ : St} {H H' : Hp} {Γ : List Cell}
theorem State.grow (s : State Y e F σ H Γ) (g : Gr F H F' H') : State Y e F' σ H' Γ := by
  obtain ⟨hx, L, k, sl⟩ := s
  exact ⟨hx, L, k.trans0 g, sl.mono g.ff⟩
theorem State.base (s : State Y e F σ H Γ) : Gr F H F H := let ⟨_, _, k, _⟩ := s; k.base
theorem State.fh (s : State Y e F σ H Γ) : Same F H := let ⟨_, _, k, _⟩ := s; k.fh
theorem State.val {α : Type} {d : Dat α} {x : α} {i : Nat} (s : State Y e F σ H Γ) (h : Γ[i]? = some (.val d x)) : ∃ v, σ[i]? = some (some v) ∧ d.rep Y.g F v x := by
  obtain ⟨hx, L, k, sl⟩ := s
  obtain ⟨o, L1, Li, L2, e1, _, ⟨_, v, rfl, r⟩, _⟩ := sl.get h
  exact ⟨v, e1, r⟩
theorem State.own {α : Type} {d : Dat α} {od : OD α} {x : α} {i : Nat} {pin : Option V} (s : State Y e F σ H Γ) (h : Γ[i]? = some (.own d od pin x)) : ∃ v, σ[i]? = some (some v) ∧ d.rep Y.g H v x := by
  obtain ⟨hx, L, k, sl⟩ := s
  obtain ⟨o, L1, Li, L2, e1, e2, ⟨v, rfl, _, r⟩, _⟩ := sl.get h
  exact ⟨v, e1, od.view r k.fh fun p hp => (k.ow p (by rw [e2]; exact List.mem_append_left _ (List.mem_append_right _ hp))).2.1⟩
/-- a slot is stored -/
theorem State.set {c c' : Cell} {i : Nat} {v : V} {L' : LO} (s : State Y e F σ H Γ) (h : Γ[i]? = some c) (g : Wk ⟨F, H, []⟩ F' L' H') (r : CellOk Y.g F' (some v) c' L') : State Y e F' (σ.set i (some v)) H' (Γ.set i c') := by
  obtain ⟨hx, L, k, sl⟩ := s
  obtain ⟨o, L1, Li, L2, e1, e2, _, f⟩ := sl.get h
  refine ⟨hx, L1 ++ L' ++ L2, ?_, f F' (some v) c' L' g.ff r⟩
  have q := k.trans g
  rw [e2] at q
  have q2 : Wk e F' ((L' ++ L1) ++ Li ++ L2) H' := by simpa [List.append_assoc] using q
  have q3 := q2.drop
  have q4 : Wk e F' (L' ++ (L1 ++ L2)) H' := by simpa [List.append_assoc] using q3
  exact q4.back
/-- a slot is forgotten -/
theorem State.forget {i : Nat} {c : Cell} {o : Option V} (s : State Y e F σ H Γ) (h : Γ[i]? = some c) : State Y e F (σ.set i o) H (Γ.set i .no) := by
  obtain ⟨hx, L, k, sl⟩ := s
  obtain ⟨o1, L1, Li, L2, e1, e2, _, f⟩ := sl.get h
  rw [e2] at k
  have q := f F o .no [] (Same.refl _) rfl
  rw [List.append_nil] at q
  exact ⟨hx, L1 ++ L2, k.drop, q⟩
theorem State.hide {i : Nat} {c : Cell} (s : State Y e F σ H Γ) (h : Γ[i]? = some c) : State Y e F σ H (Γ.set i .no) := by
  obtain ⟨hx, L, k, sl⟩ := s
  obtain ⟨o1, L1, Li, L2, e1, e2, _, f⟩ := sl.get h
  rw [e2] at k
  have q := f F o1 .no [] (Same.refl _) rfl
  rw [List.append_nil] at q
  have z : σ.set i o1 = σ := by
    apply List.ext_getElem?
    intro j
    by_cases hj : i = j
    · subst hj
      obtain ⟨hlt, hv⟩ := List.getElem?_eq_some_iff.mp e1
      rw [List.getElem?_set_self hlt, e1]
    · rw [List.getElem?_set_ne hj]
  rw [z] at q
  exact ⟨hx, L1 ++ L2, k.drop, q⟩
end
end G

/-! G2: data, judgements, the rules for expressions. -/
namespace G
open PySem L2

theorem Wk.hh0 {F H F' H' : Hp} {L : LO} (g : Wk ⟨F, H, []⟩ F' L H') : Same H H' := fun a o h => g.hh a o (fun z => nomatch z) h

/-! ### scalars -/
instance dInt : Dat Int := ⟨fun _ _ v x => v = .int x, fun _ h => h⟩
instance dBool : Dat Bool := ⟨fun _ _ v x => v = .bl x, fun _ h => h⟩
instance dStr : Dat Str := ⟨fun _ _ v x => v = .str x, fun _ h => h⟩
instance dUnit : Dat Unit := ⟨fun _ _ v _ => v = .non, fun _ h => h⟩
instance imInt : Imm Int := ⟨fun _ h => h⟩
instance imBool : Imm Bool := ⟨fun _ h => h⟩
instance imStr : Imm Str := ⟨fun _ h => h⟩
instance imUnit : Imm Unit := ⟨fun _ h => h⟩
/-- None or a value -/
inductive Opt (α : Type) where
  | none : Opt α
  | some (x : α) : Opt α
  deriving DecidableEq
instance dOpt {α : Type} [d : Dat α] : Dat (Opt α) := ⟨fun C F v x => match x with | .none => v = .non | .some y => d.rep C F v y, fun {C F F' v x} s h => match x, h with | .none, h => h | .some _, h => d.mono s h⟩
instance imOpt {α : Type} [d : Dat α] [i : Imm α] : Imm (Opt α) := ⟨fun {C F H v x} t h => match x, h with | .none, h => h | .some _, h => i.imm t h⟩

/-! ### lists -/
def Reps {α : Type} (d : Dat α) (C : GCtx) (F : Hp) : List V → List α → Prop
  | [], [] => True
  | v :: vs, x :: xs => d.rep C F v x ∧ Reps d C F vs xs
  | _, _ => False
section
variable {α : Type} {d : Dat α} {C : GCtx} {Y : YC} {F F' : Hp}
theorem Reps.mono (s : Same F F') : ∀ {vs : List V} {xs : List α}, Reps d C F vs xs → Reps d C F' vs xs
  | [], [], _ => trivial
  | _ :: _, _ :: _, h => ⟨d.mono s h.1, Reps.mono s h.2⟩
  | [], _ :: _, h => h.elim
  | _ :: _, [], h => h.elim
theorem Reps.len : ∀ {vs : List V} {xs : List α}, Reps d C F vs xs → vs.length = xs.length
  | [], [], _ => rfl
  | _ :: _, _ :: _, h => by simp [Reps.len h.2]
  | [], _ :: _, h => h.elim
  | _ :: _, [], h => h.elim
theorem Reps.get : ∀ {vs : List V} {xs : List α} {i : Nat} {x : α}, Reps d C F vs xs → xs[i]? = some x → ∃ v, vs[i]? = some v ∧ d.rep C F v x
  | [], [], i, x, _, h => by cases i <;> cases h
  | v :: vs, y :: xs, 0, x, h, e => by cases (Option.some.inj e : y = x); exact ⟨v, rfl, h.1⟩
  | v :: vs, y :: xs, i + 1, x, h, e => Reps.get (i := i) h.2 e
  | [], _ :: _, _, _, h, _ => h.elim
  | _ :: _, [], _, _, h, _ => h.elim
theorem Reps.getV : ∀ {vs : List V} {xs : List α} {i : Nat} {v : V}, Reps d C F vs xs → vs[i]? = some v → ∃ x, xs[i]? = some x ∧ d.rep C F v x
  | [], [], i, x, _, h => by cases i <;> cases h
  | v :: vs, y :: xs, 0, x, h, e => by cases (Option.some.inj e : v = x); exact ⟨y, rfl, h.1⟩
  | v :: vs, y :: xs, i + 1, x, h, e => Reps.getV (i := i) h.2 e
  | [], _ :: _, _, _, h, _ => h.elim
  | _ :: _, [], _, _, h, _ => h.elim
theorem Reps.append : ∀ {vs ws : List V} {xs ys : List α}, Reps d C F vs xs → Reps d C F ws ys → Reps d C F (vs ++ ws) (xs ++ ys)
  | [], _, [], _, _, h => h
  | _ :: _, _, _ :: _, _, h, g => ⟨h.1, Reps.append h.2 g⟩
  | [], _, _ :: _, _, h, _ => h.elim
  | _ :: _, _, [], _, h, _ => h.elim
theorem Reps.one {v : V} {x : α} (h : d.rep C F v x) : Reps d C F [v] [x] := ⟨h, trivial⟩
theorem Reps.take : ∀ {vs : List V} {xs : List α} (n : Nat), Reps d C F vs xs → Reps d C F (vs.take n) (xs.take n)
  | [], [], n, _ => by simp [Reps]
  | _ :: _, _ :: _, 0, _ => trivial
  | _ :: _, _ :: _, n + 1, h => ⟨h.1, Reps.take n h.2⟩
  | [], _ :: _, _, h => h.elim
  | _ :: _, [], _, h => h.elim
theorem Reps.drop : ∀ {vs : List V} {xs : List α} (n : Nat), Reps d C F vs xs → Reps d C F (vs.drop n) (xs.drop n)
  | [], [], n, _ => by simp [Reps]
  | _ :: _, _ :: _, 0, h => h
  | _ :: _, _ :: _, n + 1, h => Reps.drop n h.2
  | [], _ :: _, _, h => h.elim
  | _ :: _, [], _, h => h.elim
theorem Reps.set {v : V} {x : α} : ∀ {vs : List V} {xs : List α} (i : Nat), Reps d C F vs xs → d.rep C F v x → Reps d C F (vs.set i v) (xs.set i x)
  | [], [], _, _, _ => trivial
  | _ :: _, _ :: _, 0, h, g => ⟨g, h.2⟩
  | _ :: _, _ :: _, i + 1, h, g => ⟨h.1, Reps.set i h.2 g⟩
  | [], _ :: _, _, h, _ => h.elim
  | _ :: _, [], _, h, _ => h.elim
theorem Reps.ints : ∀ {vs : List V} {xs : List Int}, Reps dInt C F vs xs → vs = xs.map V.int
  | [], [], _ => rfl
  | _ :: _, _ :: _, h => by rw [Reps.ints h.2, show _ = V.int _ from h.1]; rfl
  | [], _ :: _, h => h.elim
  | _ :: _, [], h => h.elim
theorem Reps.ofInts : ∀ (xs : List Int), Reps dInt C F (xs.map V.int) xs
  | [] => trivial
  | _ :: xs => ⟨rfl, Reps.ofInts xs⟩
theorem Reps.bools : ∀ {vs : List V} {xs : List Bool}, Reps dBool C F vs xs → vs = xs.map V.bl
  | [], [], _ => rfl
  | _ :: _, _ :: _, h => by rw [Reps.bools h.2, show _ = V.bl _ from h.1]; rfl
  | [], _ :: _, h => h.elim
  | _ :: _, [], h => h.elim
theorem Reps.imm [i : @Imm α d] {H : Hp} (t : ∀ a xs, H a = some (.tup xs) → F a = some (.tup xs)) : ∀ {vs : List V} {xs : List α}, Reps d C H vs xs → Reps d C F vs xs
  | [], [], _ => trivial
  | _ :: _, _ :: _, h => ⟨i.imm t h.1, Reps.imm t h.2⟩
  | [], _ :: _, h => h.elim
  | _ :: _, [], h => h.elim
end
/-- a tuple that stands still: frozen, or of the written part -/
def TpA (K : PySem.W.Frag) (F : Hp) (a : Addr) (xs : List V) : Prop := F a = some (.tup xs) ∨ (SqT K (fun _ => none) a xs ∧ xs ≠ [] ∧ ∀ x ∈ xs, ∃ t, x = V.str t)
theorem TpA.mono {K : PySem.W.Frag} {F F' : Hp} {a : Addr} {xs : List V} (s : Same F F') (h : TpA K F a xs) : TpA K F' a xs := h.imp (s a _) id
theorem TpA.sq {K : PySem.W.Frag} {F : Hp} {a : Addr} {xs : List V} (h : TpA K F a xs) : SqT K F a xs := by
  rcases h with h | ⟨h, _⟩
  · exact .inl (.inl h)
  · rcases h with (h | ⟨_, h⟩) | h
    · cases h
    · cases h
    · exact .inr h
/-- a list that is tracked -/
theorem Same.rd {H H' : Hp} {a : Addr} {u : HO} (e : Same H H') (h : Rd H a u) : Rd H' a u := h.imp (e _ _) fun ⟨o, h⟩ => ⟨o, e _ _ h⟩
instance {K : PySem.W.Frag} {H : Hp} {a : Addr} {xs : List V} : Coe (Rd H a (.lst xs)) (SqL K H a xs) := ⟨.inl⟩
instance dList {α : Type} [d : Dat α] : Dat (List α) :=
  ⟨fun C F v xs => ∃ a vs, v = .ref a ∧ Rd F a (.lst vs) ∧ Reps d C F vs xs, fun s ⟨a, vs, e, h, r⟩ => ⟨a, vs, e, Same.rd s h, r.mono s⟩⟩
instance oList {α : Type} [d : Dat α] : OD (List α) where
  orep C F v xs L := ∃ a vs, v = .ref a ∧ L = [(a, .lst vs)] ∧ Reps d C F vs xs
  omono s := fun ⟨a, vs, e, h, r⟩ => ⟨a, vs, e, h, r.mono s⟩
  view := fun ⟨a, vs, e, h, r⟩ s k => ⟨a, vs, e, .inl (k (a, .lst vs) (by rw [h]; exact List.mem_cons_self)), r.mono s⟩
/-- a tuple of any length, its items alike -/
structure Tup (α : Type) where
  l : List α
  deriving DecidableEq
instance dTup {α : Type} [d : Dat α] : Dat (Tup α) :=
  ⟨fun C F v xs => ∃ a vs, v = .ref a ∧ TpA C.K F a vs ∧ Reps d C F vs xs.l, fun s ⟨a, vs, e, h, r⟩ => ⟨a, vs, e, h.mono s, r.mono s⟩⟩
instance imTup {α : Type} [d : Dat α] [i : Imm α] : Imm (Tup α) := ⟨fun t ⟨a, vs, e, h, r⟩ => ⟨a, vs, e, h.imp (t a _) id, r.imm t⟩⟩
instance dPair {α β : Type} [d1 : Dat α] [d2 : Dat β] : Dat (α × β) :=
  ⟨fun C F v x => ∃ a v1 v2, v = .ref a ∧ TpA C.K F a [v1, v2] ∧ d1.rep C F v1 x.1 ∧ d2.rep C F v2 x.2, fun s ⟨a, v1, v2, e, h, r1, r2⟩ => ⟨a, v1, v2, e, h.mono s, d1.mono s r1, d2.mono s r2⟩⟩
instance imPair {α β : Type} [d1 : Dat α] [d2 : Dat β] [i1 : Imm α] [i2 : Imm β] : Imm (α × β) := ⟨fun t ⟨a, v1, v2, e, h, r1, r2⟩ => ⟨a, v1, v2, e, h.imp (t a _) id, i1.imm t r1, i2.imm t r2⟩⟩
structure T3 (α β γ : Type) where
  a : α
  b : β
  c : γ
  deriving DecidableEq
structure T4 (α β γ δ : Type) where
  a : α
  b : β
  c : γ
  d : δ
  deriving DecidableEq
instance dT3 {α β γ : Type} [d1 : Dat α] [d2 : Dat β] [d3 : Dat γ] : Dat (T3 α β γ) :=
  ⟨fun C F v x => ∃ a v1 v2 v3, v = .ref a ∧ TpA C.K F a [v1, v2, v3] ∧ d1.rep C F v1 x.a ∧ d2.rep C F v2 x.b ∧ d3.rep C F v3 x.c,
    fun s ⟨a, v1, v2, v3, e, h, r1, r2, r3⟩ => ⟨a, v1, v2, v3, e, h.mono s, d1.mono s r1, d2.mono s r2, d3.mono s r3⟩⟩
instance imT3 {α β γ : Type} [d1 : Dat α] [d2 : Dat β] [d3 : Dat γ] [i1 : Imm α] [i2 : Imm β] [i3 : Imm γ] : Imm (T3 α β γ) :=
  ⟨fun t ⟨a, v1, v2, v3, e, h, r1, r2, r3⟩ => ⟨a, v1, v2, v3, e, h.imp (t a _) id, i1.imm t r1, i2.imm t r2, i3.imm t r3⟩⟩
instance dT4 {α β γ δ : Type} [d1 : Dat α] [d2 : Dat β] [d3 : Dat γ] [d4 : Dat δ] : Dat (T4 α β γ δ) :=
  ⟨fun C F v x => ∃ a v1 v2 v3 v4, v = .ref a ∧ TpA C.K F a [v1, v2, v3, v4] ∧ d1.rep C F v1 x.a ∧ d2.rep C F v2 x.b ∧ d3.rep C F v3 x.c ∧ d4.rep C F v4 x.d,
    fun s ⟨a, v1, v2, v3, v4, e, h, r1, r2, r3, r4⟩ => ⟨a, v1, v2, v3, v4, e, h.mono s, d1.mono s r1, d2.mono s r2, d3.mono s r3, d4.mono s r4⟩⟩
instance imT4 {α β γ δ : Type} [d1 : Dat α] [d2 : Dat β] [d3 : Dat γ] [d4 : Dat δ] [i1 : Imm α] [i2 : Imm β] [i3 : Imm γ] [i4 : Imm δ] : Imm (T4 α β γ δ) :=
  ⟨fun t ⟨a, v1, v2, v3, v4, e, h, r1, r2, r3, r4⟩ => ⟨a, v1, v2, v3, v4, e, h.imp (t a _) id, i1.imm t r1, i2.imm t r2, i3.imm t r3, i4.imm t r4⟩⟩

/-! ### judgements -/
/-- the term evaluates to a value that k is true of, frozen from now on -/
def W (Y : YC) (te : TE) (Γ : List Cell) {α : Type} (d : Dat α) (k : α → Prop) : Prop := ∀ (e : En) (F : Hp) (σ : St) (H : Hp), State Y e F σ H Γ → ∀ Q : VK, (∀ v F' H' x, k x → Gr F H F' H' → d.rep Y.g F' v x → Q v H') → te σ H Q
/-- .. that may be read until the next store -/
def R (Y : YC) (te : TE) (Γ : List Cell) {α : Type} (d : Dat α) (k : α → Prop) : Prop := ∀ (e : En) (F : Hp) (σ : St) (H : Hp), State Y e F σ H Γ → ∀ Q : VK, (∀ v F' H' x, k x → Gr F H F' H' → d.rep Y.g H' v x → Q v H') → te σ H Q
/-- .. that is new, and owned -/
def O (Y : YC) (te : TE) (Γ : List Cell) {α : Type} {d : Dat α} (od : OD α) (k : α → Prop) : Prop := ∀ (e : En) (F : Hp) (σ : St) (H : Hp), State Y e F σ H Γ → ∀ Q : VK, (∀ v F' H' L' x, k x → Wk ⟨F, H, []⟩ F' L' H' → od.orep Y.g F' v x L' → Q v H') → te σ H Q
def T (Y : YC) (t : TT) (Γ : List Cell) (k : Bool → Prop) : Prop := ∀ (e : En) (F : Hp) (σ : St) (H : Hp), State Y e F σ H Γ → ∀ Q : Bool → Hp → Prop, (∀ b F' H', k b → Gr F H F' H' → Q b H') → t σ H Q
def WA (Y : YC) (ta : TA) (Γ : List Cell) (k : List Cell → Prop) : Prop := ∀ (e : En) (F : Hp) (σ : St) (H : Hp), State Y e F σ H Γ → ∀ Q : List V → Hp → Prop, (∀ vs F' H' cs, k cs → Gr F H F' H' → Slots Y.g F' (vs.map some) cs [] → Q vs H') → ta σ H Q

section
variable {C : GCtx} {Y : YC} {Γ : List Cell} {te ta tb tc : TE} {t u : TT} {α β γ : Type} {d1 : Dat α} {d : Dat α} {d2 : Dat β} {d3 : Dat γ}

theorem r_of_w {k : α → Prop} (h : W Y te Γ d k) : R Y te Γ d k := fun e F σ H s Q q => h e F σ H s Q fun v F' H' x kx g r => q v F' H' x kx g (d.mono g.fh r)
theorem w_mono {k k' : α → Prop} (h : W Y te Γ d k) (m : ∀ x, k x → k' x) : W Y te Γ d k' := fun e F σ H s Q q => h e F σ H s Q fun v F' H' x kx g r => q v F' H' x (m x kx) g r
theorem t_mono {k k' : Bool → Prop} (h : T Y t Γ k) (m : ∀ x, k x → k' x) : T Y t Γ k' := fun e F σ H s Q q => h e F σ H s Q fun b F' H' kx g => q b F' H' (m b kx) g
/-- what is owned and new is frozen at once -/
theorem w_of_o {od : @OD α d} {k : α → Prop} (h : O Y te Γ od k) : W Y te Γ d k := fun e F σ H s Q q => h e F σ H s Q fun v F' H' L' x kx g r => by
  have g1 : Wk ⟨F, H, []⟩ F' (L' ++ []) H' := by rw [List.append_nil]; exact g
  have g2 : Gr F H (plus F' L') H' := g1.freeze fun p hp z => nomatch z
  refine q v _ H' x kx g2 (od.view r (same_plus (fun p hp => (g.ow p hp).1) g.nd) (plus_get (fun p hp => (g.ow p hp).1) g.nd))

/-! names and constants -/
theorem w_var {i : Nat} {x : α} {k : α → Prop} (h : Γ[i]? = some (.val d x)) (hk : k x) : W Y (tVar i) Γ d k := fun e F σ H s Q q => by
  obtain ⟨v, e1, r⟩ := s.val h
  exact ⟨v, e1, q v F H x hk s.base r⟩
theorem r_varO {od : @OD α d} {pin : Option V} {i : Nat} {x : α} {k : α → Prop} (h : Γ[i]? = some (.own d od pin x)) (hk : k x) : R Y (tVar i) Γ d k := fun e F σ H s Q q => by
  obtain ⟨v, e1, r⟩ := s.own h
  exact ⟨v, e1, q v F H x hk s.base r⟩
theorem w_int {n : Int} {k : Int → Prop} (hk : k n) : W Y (tC (.int n)) Γ dInt k := fun e F σ H s Q q => q _ F H n hk s.base rfl
theorem w_bl {n : Bool} {k : Bool → Prop} (hk : k n) : W Y (tC (.bl n)) Γ dBool k := fun e F σ H s Q q => q _ F H n hk s.base rfl
theorem w_str {n : Str} {k : Str → Prop} (hk : k n) : W Y (tC (.str n)) Γ dStr k := fun e F σ H s Q q => q _ F H n hk s.base rfl
theorem w_nonO {k : Opt α → Prop} (hk : k .none) : W Y (tC .non) Γ (dOpt (d := d)) k := fun e F σ H s Q q => q _ F H .none hk s.base rfl
theorem w_some {k : Opt α → Prop} (h : W Y te Γ d fun x => k (.some x)) : W Y te Γ (dOpt (d := d)) k := fun e F σ H s Q q => h e F σ H s Q fun v F' H' x kx g r => q v F' H' (.some x) kx g r

/-! two operands, a scalar back -/
theorem w_ii {r : R2} {f : Int → Int → γ} {P : Int → Int → Prop} {ec : γ → V} {k : γ → Prop} (hd : ∀ F z, d3.rep Y.g F (ec z) z) (hr : ∀ i j H (Q : VK), P i j → Q (ec (f i j)) H → r (.int i) (.int j) H Q)
    (h : R Y ta Γ dInt fun x => R Y tb Γ dInt fun y => P x y ∧ k (f x y)) : W Y (tOp r ta tb) Γ d3 k :=
  fun e F σ H s Q q => h e F σ H s _ fun v1 F1 H1 x h1 g1 r1 => h1 e F1 σ H1 (s.grow g1) _ fun v2 F2 H2 y ⟨p, kz⟩ g2 r2 => by
    cases (show v1 = .int x from r1)
    cases (show v2 = .int y from r2)
    exact hr x y H2 Q p (q _ F2 H2 _ kz (g1.trans0 g2) (hd F2 _))
theorem w_i0 {r : R2} {f : Int → Int → γ} {ec : γ → V} {k : γ → Prop} (hd : ∀ F z, d3.rep Y.g F (ec z) z) (hr : ∀ i j H (Q : VK), Q (ec (f i j)) H → r (.int i) (.int j) H Q)
    (h : R Y ta Γ dInt fun x => R Y tb Γ dInt fun y => k (f x y)) : W Y (tOp r ta tb) Γ d3 k :=
  fun e F σ H s Q q => h e F σ H s _ fun v1 F1 H1 x h1 g1 r1 => h1 e F1 σ H1 (s.grow g1) _ fun v2 F2 H2 y kz g2 r2 => by
    cases (show v1 = .int x from r1)
    cases (show v2 = .int y from r2)
    exact hr x y H2 Q (q _ F2 H2 _ kz (g1.trans0 g2) (hd F2 _))
section
variable {k : Int → Prop} {kb : Bool → Prop}
theorem w_add (h : R Y ta Γ dInt fun x => R Y tb Γ dInt fun y => k (x + y)) : W Y (tOp (rI0 fun i j => .int (i + j)) ta tb) Γ dInt k := w_i0 (ec := V.int) (fun _ _ => rfl) (fun i j H Q q => ⟨i, j, rfl, rfl, q⟩) h
theorem w_sub (h : R Y ta Γ dInt fun x => R Y tb Γ dInt fun y => k (x - y)) : W Y (tOp (rI0 fun i j => .int (i - j)) ta tb) Γ dInt k := w_i0 (ec := V.int) (fun _ _ => rfl) (fun i j H Q q => ⟨i, j, rfl, rfl, q⟩) h
theorem w_mul (h : R Y ta Γ dInt fun x => R Y tb Γ dInt fun y => CMul x y ∧ k (x * y)) : W Y (tOp (rI CMul fun i j => .int (i * j)) ta tb) Γ dInt k := w_ii (ec := V.int) (fun _ _ => rfl) (fun i j H Q p q => ⟨i, j, rfl, rfl, p, q⟩) h
theorem w_mod (h : R Y ta Γ dInt fun x => R Y tb Γ dInt fun y => 0 < y ∧ k (x % y)) : W Y (tOp (rI (fun _ j => 0 < j) fun i j => .int (i % j)) ta tb) Γ dInt k := w_ii (P := fun _ j => 0 < j) (ec := V.int) (fun _ _ => rfl) (fun i j H Q p q => ⟨i, j, rfl, rfl, p, q⟩) h
theorem w_fdiv (h : R Y ta Γ dInt fun x => R Y tb Γ dInt fun y => CDiv x y ∧ k (x / y)) : W Y (tOp (rI CDiv fun i j => .int (i / j)) ta tb) Γ dInt k := w_ii (ec := V.int) (fun _ _ => rfl) (fun i j H Q p q => ⟨i, j, rfl, rfl, p, q⟩) h
theorem w_pow (h : R Y ta Γ dInt fun x => R Y tb Γ dInt fun y => CPow x y ∧ k (x ^ y.toNat)) : W Y (tOp (rI CPow fun i j => .int (i ^ j.toNat)) ta tb) Γ dInt k := w_ii (ec := V.int) (fun _ _ => rfl) (fun i j H Q p q => ⟨i, j, rfl, rfl, p, q⟩) h
theorem w_lt (h : R Y ta Γ dInt fun x => R Y tb Γ dInt fun y => kb (decide (x < y))) : W Y (tOp (rI0 fun i j => .bl (decide (i < j))) ta tb) Γ dBool kb := w_i0 (f := fun i j => decide (i < j)) (ec := V.bl) (fun _ _ => rfl) (fun i j H Q q => ⟨i, j, rfl, rfl, q⟩) h
theorem w_gt (h : R Y ta Γ dInt fun x => R Y tb Γ dInt fun y => kb (decide (y < x))) : W Y (tOp (rI0 fun i j => .bl (decide (j < i))) ta tb) Γ dBool kb := w_i0 (f := fun i j => decide (j < i)) (ec := V.bl) (fun _ _ => rfl) (fun i j H Q q => ⟨i, j, rfl, rfl, q⟩) h
theorem w_ge (h : R Y ta Γ dInt fun x => R Y tb Γ dInt fun y => kb (decide (y ≤ x))) : W Y (tOp (rI0 fun i j => .bl (decide (j ≤ i))) ta tb) Γ dBool kb := w_i0 (f := fun i j => decide (j ≤ i)) (ec := V.bl) (fun _ _ => rfl) (fun i j H Q q => ⟨i, j, rfl, rfl, q⟩) h
theorem w_neg (h : R Y ta Γ dInt fun x => k (-x)) : W Y (tUn (rU fun i => .int (-i)) ta) Γ dInt k := fun e F σ H s Q q => h e F σ H s _ fun v F' H' x kx g r => by
  cases (show v = .int x from r)
  exact ⟨x, rfl, q _ F' H' _ kx g rfl⟩
end

/-! tests -/
theorem t_test {k : Bool → Prop} (h : R Y te Γ dBool k) : T Y (tTest te) Γ k := fun e F σ H s Q q => h e F σ H s _ fun v F' H' x kx g r => ⟨x, r, q x F' H' kx g⟩
theorem t_B {k : Bool → Prop} (h : R Y te Γ dBool k) : T Y (tB te) Γ k := fun e F σ H s Q q => h e F σ H s _ fun v F' H' x kx g r => ⟨x, r, q x F' H' kx g⟩
theorem t_not {k : Bool → Prop} (h : T Y t Γ fun b => k (!b)) : T Y (tNot t) Γ k := fun e F σ H s Q q => h e F σ H s _ fun b F' H' kx g => q (!b) F' H' kx g
theorem t_and {k : Bool → Prop} (h : T Y t Γ fun b => (b = true → T Y u Γ k) ∧ (b = false → k false)) : T Y (tAnd t u) Γ k := fun e F σ H s Q q => h e F σ H s _ fun b F' H' kx g => by
  cases b with
  | true => exact kx.1 rfl e F' σ H' (s.grow g) Q fun b F2 H2 kb g2 => q b F2 H2 kb (g.trans0 g2)
  | false => exact q false F' H' (kx.2 rfl) g
theorem t_or {k : Bool → Prop} (h : T Y t Γ fun b => (b = true → k true) ∧ (b = false → T Y u Γ k)) : T Y (tOr t u) Γ k := fun e F σ H s Q q => h e F σ H s _ fun b F' H' kx g => by
  cases b with
  | false => exact kx.2 rfl e F' σ H' (s.grow g) Q fun b F2 H2 kb g2 => q b F2 H2 kb (g.trans0 g2)
  | true => exact q true F' H' (kx.1 rfl) g
/-! values by tests -/
theorem w_andV {k : Bool → Prop} (h : R Y ta Γ dBool fun a => (a = true → W Y tb Γ dBool k) ∧ (a = false → k false)) : W Y (tAndV ta tb) Γ dBool k := fun e F σ H s Q q => h e F σ H s _ fun v F' H' x kx g r => ⟨x, r, by
  cases x with
  | true => exact kx.1 rfl e F' σ H' (s.grow g) Q fun v F2 H2 x kb g2 r => q v F2 H2 x kb (g.trans0 g2) r
  | false => exact q _ F' H' false (kx.2 rfl) g rfl⟩
theorem r_mono {k k' : α → Prop} (h : R Y te Γ d k) (m : ∀ x, k x → k' x) : R Y te Γ d k' := fun e F σ H s Q q => h e F σ H s Q fun v F' H' x kx g r => q v F' H' x (m x kx) g r
theorem w_notV {k : Bool → Prop} (h : R Y ta Γ dBool fun a => k (!a)) : W Y (tNotV ta) Γ dBool k := fun e F σ H s Q q => h e F σ H s _ fun v F' H' x kx g r => ⟨x, r, q _ F' H' (!x) kx g rfl⟩
/-! arguments -/
theorem wa_nil {k : List Cell → Prop} (hk : k []) : WA Y tNil Γ k := fun e F σ H s Q q => q [] F H [] hk s.base .nil
theorem wa_cons {tr : TA} {k : List Cell → Prop} (h : W Y te Γ d fun x => WA Y tr Γ fun cs => k (.val d x :: cs)) : WA Y (tCons te tr) Γ k := fun e F σ H s Q q => h e F σ H s _ fun v F1 H1 x h1 g1 r1 => h1 e F1 σ H1 (s.grow g1) _ fun vs F2 H2 cs kc g2 r2 =>
  q (v :: vs) F2 H2 (.val d x :: cs) kc (g1.trans0 g2) (Slots.cons (L := []) ⟨rfl, v, rfl, d.mono g2.ff r1⟩ r2)

/-! built-ins of numbers -/
theorem w_abs {k : Int → Prop} (h : R Y ta Γ dInt fun x => k (if x < 0 then -x else x)) : W Y (tCB (fun xs H Q => ∃ i, xs = [.int i] ∧ Q (.int (if i < 0 then -i else i)) H) (tCons ta tNil)) Γ dInt k := fun e F σ H s Q q => h e F σ H s _ fun v F' H' x kx g r => by
  cases (show v = .int x from r)
  exact ⟨x, rfl, q _ F' H' _ kx g rfl⟩
theorem w_int1 {k : Int → Prop} (h : R Y ta Γ dInt k) : W Y (tCB (fun xs H Q => (∃ i, xs = [.int i] ∧ Q (.int i) H) ∨ ∃ k, xs = [.bl k] ∧ Q (.int (if k then 1 else 0)) H) (tCons ta tNil)) Γ dInt k := fun e F σ H s Q q => h e F σ H s _ fun v F' H' x kx g r => by
  cases (show v = .int x from r)
  exact .inl ⟨x, rfl, q _ F' H' _ kx g rfl⟩
/-! lists and tuples that are read -/
theorem w_len {k : Int → Prop} (h : R Y ta Γ (dList (d := d)) fun xs => k (xs.length : Int)) : W Y (tCB (fun xs H Q => ∃ p ys, xs = [.ref p] ∧ (SqL Y.K H p ys ∨ SqT Y.K H p ys) ∧ Q (.int ys.length) H) (tCons ta tNil)) Γ dInt k := fun e F σ H s Q q => h e F σ H s _ fun v F' H' x kx g ⟨a, vs, e1, h1, r⟩ => by
  subst e1
  exact ⟨a, vs, rfl, .inl h1, q _ F' H' _ (by rw [r.len]; exact kx) g rfl⟩
theorem w_lenT {k : Int → Prop} (h : R Y ta Γ (dTup (d := d)) fun xs => k (xs.l.length : Int)) : W Y (tCB (fun xs H Q => ∃ p ys, xs = [.ref p] ∧ (SqL Y.K H p ys ∨ SqT Y.K H p ys) ∧ Q (.int ys.length) H) (tCons ta tNil)) Γ dInt k := fun e F σ H s Q q => h e F σ H s _ fun v F' H' x kx g ⟨a, vs, e1, h1, r⟩ => by
  subst e1
  exact ⟨a, vs, rfl, .inr h1.sq, q _ F' H' _ (by rw [r.len]; exact kx) g rfl⟩
theorem atI_rep {F : Hp} {vs : List V} {xs : List α} {i : Int} {x : α} (r : Reps d C F vs xs) (h : atI xs i = some x) : ∃ v, atI vs i = some v ∧ d.rep C F v x := by
  unfold atI at h ⊢
  rw [r.len]
  cases e : ixN xs.length i with
  | none => rw [e] at h; cases h
  | some j => rw [e] at h; exact r.get h
theorem w_ix {k : α → Prop} (h : W Y ta Γ (dList (d := d)) fun xs => R Y tb Γ dInt fun i => ∃ x, atI xs i = some x ∧ k x) : W Y (tOp (rIxL Y.K) ta tb) Γ d k := fun e F σ H s Q q => h e F σ H s _ fun v1 F1 H1 xs h1 g1 ⟨a, vs, e1, hs, r⟩ => h1 e F1 σ H1 (s.grow g1) _ fun v2 F2 H2 i ⟨x, hx, kx⟩ g2 r2 => by
  subst e1
  cases (show v2 = .int i from r2)
  obtain ⟨v, hv, rv⟩ := atI_rep r hx
  exact ⟨a, vs, i, v, rfl, rfl, (g1.fh.trans g2.hh0).seq hs, hv, q _ F2 H2 x kx (g1.trans0 g2) (d.mono g2.ff rv)⟩
theorem w_ixT {k : α → Prop} (h : W Y ta Γ (dTup (d := d)) fun xs => R Y tb Γ dInt fun i => ∃ x, atI xs.l i = some x ∧ k x) : W Y (tOp (rIxT Y.K) ta tb) Γ d k := fun e F σ H s Q q => h e F σ H s _ fun v1 F1 H1 xs h1 g1 ⟨a, vs, e1, hs, r⟩ => h1 e F1 σ H1 (s.grow g1) _ fun v2 F2 H2 i ⟨x, hx, kx⟩ g2 r2 => by
  subst e1
  cases (show v2 = .int i from r2)
  obtain ⟨v, hv, rv⟩ := atI_rep r hx
  exact ⟨a, vs, i, v, rfl, rfl, (hs.mono (g2.ff.trans g2.fh)).sq, hv, q _ F2 H2 x kx (g1.trans0 g2) (d.mono g2.ff rv)⟩
/-- an item of an owned list -/
theorem w_ixO {pin : Option V} {i : Nat} {xs : List α} {k : α → Prop} (h : Γ[i]? = some (.own (dList (d := d)) (oList (d := d)) pin xs)) (hk : R Y tb Γ dInt fun i => ∃ x, atI xs i = some x ∧ k x) : W Y (tOp (rIxL Y.K) (tVar i) tb) Γ d k := fun e F σ H s Q q => by
  obtain ⟨_, L, kw, sl⟩ := id s
  obtain ⟨o, L1, Li, L2, e1, e2, ⟨v, rfl, _, a, vs, rfl, e3, r⟩, _⟩ := sl.get h
  have ha : H a = some (.lst vs) := (kw.ow (a, .lst vs) (by rw [e2, e3]; simp)).2.1
  refine ⟨.ref a, e1, hk e F σ H s _ fun v2 F2 H2 j ⟨x, hx, kx⟩ g2 r2 => ?_⟩
  cases (show v2 = .int j from r2)
  obtain ⟨v, hv, rv⟩ := atI_rep r hx
  exact ⟨a, vs, j, v, rfl, rfl, .inl (.inl (g2.hh0 _ _ ha)), hv, q _ F2 H2 x kx g2 (d.mono g2.ff rv)⟩
/-! membership -/
class Flat (α : Type) [d : Dat α] where
  enc : α → V
  isEnc : ∀ {C : GCtx} {F : Hp} {v : V} {x : α}, d.rep C F v x → v = enc x
  flat : ∀ x, flatV (enc x) = true
  eqv : ∀ x y, eqV (enc x) (enc y) = true ↔ x = y
instance fInt : Flat Int := ⟨V.int, fun h => h, fun _ => rfl, fun x y => by simp [eqV]⟩
instance fStr : Flat Str := ⟨V.str, fun h => h, fun _ => rfl, fun x y => by simp [eqV]⟩
theorem Reps.enc [f : @Flat α d] {F : Hp} : ∀ {vs : List V} {xs : List α}, Reps d C F vs xs → vs = xs.map f.enc
  | [], [], _ => rfl
  | _ :: _, _ :: _, h => by rw [Reps.enc h.2, f.isEnc h.1]; rfl
  | [], _ :: _, h => h.elim
  | _ :: _, [], h => h.elim
/-! tuples, lists made -/
theorem Gr.lay {F H : Hp} {p : Addr} {o : HO} (g : Gr F H F H) (hp : H p = none) : Gr F H (upd F p o) (upd H p o) := Wk.lay g hp
theorem w_tup2 {k : α × β → Prop} (h : W Y ta Γ d1 fun x => W Y tb Γ d2 fun y => k (x, y)) : W Y (tTup (tCons ta (tCons tb tNil))) Γ (dPair (d1 := d1) (d2 := d2)) k := fun e F σ H s Q q => h e F σ H s _ fun v1 F1 H1 x h1 g1 r1 => h1 e F1 σ H1 (s.grow g1) _ fun v2 F2 H2 y ky g2 r2 =>
  ⟨show 2 ≤ PySem.sizeLine by decide, fun p hp => by
    have g3 := Gr.lay (o := .tup [v1, v2]) g2.base hp
    exact q _ _ _ (x, y) ky ((g1.trans0 g2).trans0 g3) ⟨p, v1, v2, rfl, .inl upd_same, d1.mono (g2.ff.trans g3.ff) r1, d2.mono g3.ff r2⟩⟩
theorem w_tup4 {δ : Type} {d4 : Dat δ} {td : TE} {k : T4 α β γ δ → Prop} (h : W Y ta Γ d1 fun x => W Y tb Γ d2 fun y => W Y tc Γ d3 fun z => W Y td Γ d4 fun u => k ⟨x, y, z, u⟩) : W Y (tTup (tCons ta (tCons tb (tCons tc (tCons td tNil))))) Γ (dT4 (d1 := d1) (d2 := d2) (d3 := d3) (d4 := d4)) k := fun e F σ H s Q q => h e F σ H s _ fun v1 F1 H1 x h1 g1 r1 => h1 e F1 σ H1 (s.grow g1) _ fun v2 F2 H2 y h2 g2 r2 =>
  h2 e F2 σ H2 ((s.grow g1).grow g2) _ fun v3 F3 H3 z h3 g3 r3 => h3 e F3 σ H3 (((s.grow g1).grow g2).grow g3) _ fun v4 F4 H4 u ku g4 r4 =>
  ⟨show 4 ≤ PySem.sizeLine by decide, fun p hp => by
    have g5 := Gr.lay (o := .tup [v1, v2, v3, v4]) g4.base hp
    exact q _ _ _ ⟨x, y, z, u⟩ ku ((((g1.trans0 g2).trans0 g3).trans0 g4).trans0 g5) ⟨p, v1, v2, v3, v4, rfl, .inl upd_same, d1.mono (((g2.ff.trans g3.ff).trans g4.ff).trans g5.ff) r1, d2.mono ((g3.ff.trans g4.ff).trans g5.ff) r2, d3.mono (g4.ff.trans g5.ff) r3, d4.mono g5.ff r4⟩⟩
/-- items that are alike, for a display -/
def WL (Y : YC) (ta : TA) (Γ : List Cell) {α : Type} (d : Dat α) (k : List α → Prop) : Prop := ∀ (e : En) (F : Hp) (σ : St) (H : Hp), State Y e F σ H Γ → ∀ Q : List V → Hp → Prop, (∀ vs F' H' xs, k xs → Gr F H F' H' → Reps d Y.g F' vs xs → Q vs H') → ta σ H Q
theorem wl_nil {k : List α → Prop} (hk : k []) : WL Y tNil Γ d k := fun e F σ H s Q q => q [] F H [] hk s.base trivial
theorem wl_cons {tr : TA} {k : List α → Prop} (h : W Y te Γ d fun x => WL Y tr Γ d fun xs => k (x :: xs)) : WL Y (tCons te tr) Γ d k := fun e F σ H s Q q => h e F σ H s _ fun v F1 H1 x h1 g1 r1 => h1 e F1 σ H1 (s.grow g1) _ fun vs F2 H2 xs kc g2 r2 =>
  q (v :: vs) F2 H2 (x :: xs) kc (g1.trans0 g2) ⟨d.mono g2.ff r1, r2⟩
theorem o_new {F H : Hp} {L : LO} (g : Wk ⟨F, H, []⟩ F [] H) {p : Addr} {vs : List V} {xs : List α} (hp : H p = none) (r : Reps d C F vs xs) : Wk ⟨F, H, []⟩ F [(p, .lst vs)] (upd H p (.lst vs)) ∧ (oList (d := d)).orep C F (.ref p) xs [(p, .lst vs)] :=
  ⟨g.own hp (fun _ z => by cases z), p, vs, rfl, rfl, r⟩
theorem o_lst {tl : TA} {k : List α → Prop} (h : WL Y tl Γ d fun xs => xs.length ≤ PySem.sizeLine ∧ k xs) : O Y (tLst tl) Γ (oList (d := d)) k := fun e F σ H s Q q => h e F σ H s _ fun vs F' H' xs ⟨hl, kx⟩ g r =>
  ⟨by rw [r.len]; exact hl, fun p hp => by
    obtain ⟨h1, h2⟩ := o_new (L := []) g.base hp r
    have h3 := g.trans h1
    exact q _ F' _ [(p, .lst vs)] xs kx (by simpa using h3) h2⟩
theorem o_nil {k : List α → Prop} (hk : k []) : O Y (tLst tNil) Γ (oList (d := d)) k := o_lst (wl_nil ⟨Nat.zero_le _, hk⟩)
/-- list(xs) -/
theorem o_listOf {k : List α → Prop} (h : W Y ta Γ (dList (d := d)) k) : O Y (tCB (fun xs H Q => ∃ p ys, xs = [.ref p] ∧ (SqL Y.K H p ys ∨ SqT Y.K H p ys) ∧ ∀ l, H l = none → Q (.ref l) (upd H l (.lst ys))) (tCons ta tNil)) Γ (oList (d := d)) k := fun e F σ H s Q q => h e F σ H s _ fun v F' H' xs kx g ⟨a, vs, e1, hs, r⟩ => by
  subst e1
  refine ⟨a, vs, rfl, .inl (g.fh.seq hs), fun l hl => ?_⟩
  obtain ⟨h1, h2⟩ := o_new (L := []) g.base hl r
  exact q _ F' _ _ xs kx (by simpa using g.trans h1) h2
theorem o_listOfT {k : List α → Prop} (h : W Y ta Γ (dTup (d := d)) fun xs => k xs.l) : O Y (tCB (fun xs H Q => ∃ p ys, xs = [.ref p] ∧ (SqL Y.K H p ys ∨ SqT Y.K H p ys) ∧ ∀ l, H l = none → Q (.ref l) (upd H l (.lst ys))) (tCons ta tNil)) Γ (oList (d := d)) k := fun e F σ H s Q q => h e F σ H s _ fun v F' H' xs kx g ⟨a, vs, e1, hs, r⟩ => by
  subst e1
  refine ⟨a, vs, rfl, .inr (hs.mono g.fh).sq, fun l hl => ?_⟩
  obtain ⟨h1, h2⟩ := o_new (L := []) g.base hl r
  exact q _ F' _ _ xs.l kx (by simpa using g.trans h1) h2
/-- tuple(xs) -/
theorem w_tupOf {k : Tup α → Prop} (h : W Y ta Γ (dList (d := d)) fun xs => k ⟨xs⟩) : W Y (tCB (fun xs H Q => ∃ p ys, xs = [.ref p] ∧ ((SqL Y.K H p ys ∧ ∀ l, H l = none → Q (.ref l) (upd H l (.tup ys))) ∨ (SqT Y.K H p ys ∧ Q (.ref p) H))) (tCons ta tNil)) Γ (dTup (d := d)) k := fun e F σ H s Q q => h e F σ H s _ fun v F' H' xs kx g ⟨a, vs, e1, hs, r⟩ => by
  subst e1
  refine ⟨a, vs, rfl, .inl ⟨g.fh.seq hs, fun l hl => ?_⟩⟩
  have g4 := Gr.lay (o := .tup vs) g.base hl
  exact q _ _ _ ⟨xs⟩ kx (g.trans0 g4) ⟨l, vs, rfl, .inl upd_same, r.mono g4.ff⟩
end
end G

/-! G3: statements, loops, calls, comprehensions. -/
namespace G
open PySem L2

/-! ### the state, more -/
section
variable {C : GCtx} {Y : YC} {e : En} {F F' : Hp} {σ : St} {H H' : Hp} {Γ : List Cell}
theorem State.mut {α : Type} {d : Dat α} {od : OD α} {x : α} {i : Nat} {pin : Option V} (s : State Y e F σ H Γ) (h : Γ[i]? = some (.own d od pin x)) : ∃ v Li rest, σ[i]? = some (some v) ∧ od.orep Y.g F v x Li ∧ Wk e F (Li ++ rest) H ∧
    ∀ F' H' Li' x', Same F F' → Wk e F' (Li' ++ rest) H' → od.orep Y.g F' v x' Li' → State Y e F' σ H' (Γ.set i (.own d od pin x')) := by
  obtain ⟨hx, L, k, sl⟩ := s
  obtain ⟨o, L1, Li, L2, e1, e2, ⟨v, rfl, hp, r⟩, f⟩ := sl.get h
  subst e2
  refine ⟨v, Li, L1 ++ L2, e1, r, k.front, fun F' H' Li' x' s' k' r' => ⟨hx, L1 ++ Li' ++ L2, k'.back, ?_⟩⟩
  have q := f F' (some v) (.own d od pin x') Li' s' ⟨v, rfl, hp, r'⟩
  have z : σ.set i (some v) = σ := by
    apply List.ext_getElem?
    intro j
    by_cases hj : i = j
    · subst hj
      obtain ⟨hlt, hv⟩ := List.getElem?_eq_some_iff.mp e1
      rw [List.getElem?_set_self hlt, e1]
    · rw [List.getElem?_set_ne hj]
  rw [z] at q
  exact q
/-- what is owned is frozen -/
theorem State.frz {α : Type} {d : Dat α} {od : OD α} {x : α} {i : Nat} (s : State Y e F σ H Γ) (hM : e.M = []) (h : Γ[i]? = some (.own d od none x)) : ∃ F', Same F F' ∧ State Y e F' σ H (Γ.set i (.val d x)) := by
  obtain ⟨hx, L, k, sl⟩ := s
  obtain ⟨o, L1, Li, L2, e1, e2, ⟨v, rfl, hp, r⟩, f⟩ := sl.get h
  subst e2
  have kf := k.front
  have ff : ∀ p ∈ Li, F p.1 = none := fun p hp => (kf.ow p (List.mem_append_left _ hp)).1
  have nd : (Li.map Prod.fst).Nodup := by
    have := kf.nd
    rw [List.map_append] at this
    exact (List.nodup_append.mp this).1
  have k2 := kf.freeze fun p _ z => by rw [hM] at z; cases z
  have sm := same_plus ff nd
  refine ⟨plus F Li, sm, hx, L1 ++ L2, k2, ?_⟩
  have q := f (plus F Li) (some v) (.val d x) [] sm ⟨rfl, v, rfl, od.view r sm (plus_get ff nd)⟩
  have z : σ.set i (some v) = σ := by
    apply List.ext_getElem?
    intro j
    by_cases hj : i = j
    · subst hj
      obtain ⟨hlt, hv⟩ := List.getElem?_eq_some_iff.mp e1
      rw [List.getElem?_set_self hlt, e1]
    · rw [List.getElem?_set_ne hj]
  rw [z, List.append_nil] at q
  exact q
end

/-! ### statements -/
structure Ks where
  nx : List Cell → Prop
  rt : Cell → List Cell → Prop
  bk : List Cell → Prop
  ct : List Cell → Prop
structure Cont (Y : YC) (e : En) (k : Ks) (D : Ends) : Prop where
  nx : ∀ F σ H Γ, k.nx Γ → State Y e F σ H Γ → D.nx σ H
  rt : ∀ F σ H Γ v c L L', k.rt c Γ → Wk e F (L ++ L') H → CellOk Y.g F (some v) c L → Slots Y.g F σ Γ L' → D.rt v H
  bk : ∀ F σ H Γ, k.bk Γ → State Y e F σ H Γ → D.bk σ H
  ct : ∀ F σ H Γ, k.ct Γ → State Y e F σ H Γ → D.ct σ H
def Z (Y : YC) (ts : TS) (Γ : List Cell) (k : Ks) : Prop := ∀ (e : En) (F : Hp) (σ : St) (H : Hp) (D : Ends), e.M = [] → State Y e F σ H Γ → Cont Y e k D → ts D σ H
/-- a target takes x -/
def A (Y : YC) (g : TG) (Γ : List Cell) {α : Type} (d : Dat α) (x : α) (k : List Cell → Prop) : Prop := ∀ (e : En) (F : Hp) (σ : St) (H : Hp) (v : V), State Y e F σ H Γ → d.rep Y.g F v x → ∀ Q : St → Hp → Prop, (∀ σ' Γ', k Γ' → State Y e F σ' H Γ' → Q σ' H) → g v σ H Q

section
variable {C : GCtx} {Y : YC} {Γ : List Cell} {te ta tb tc : TE} {t u : TT} {α β γ δ : Type} {d1 : Dat α} {d : Dat α} {d2 : Dat β} {d3 : Dat γ} {d4 : Dat δ} {k : Ks} {t1 t2 ts : TS} {g g1 g2 g3 g4 : TG}

theorem z_seq (h : Z Y t1 Γ { k with nx := fun Γ' => Z Y t2 Γ' k }) : Z Y (tSeq t1 t2) Γ k := fun e F σ H D hM s c =>
  h e F σ H { D with nx := t2 D } hM s ⟨fun F σ H Γ q s' => q e F σ H D hM s' c, c.rt, c.bk, c.ct⟩
theorem z_next (h : k.nx Γ) : Z Y tNext Γ k := fun e F σ H D hM s c => c.nx F σ H Γ h s
theorem z_break (h : k.bk Γ) : Z Y tBreak Γ k := fun e F σ H D hM s c => c.bk F σ H Γ h s
theorem z_mono {k' : Ks} (h : Z Y ts Γ k') (n : ∀ Γ, k'.nx Γ → k.nx Γ) (r : ∀ c Γ, k'.rt c Γ → k.rt c Γ) (b : ∀ Γ, k'.bk Γ → k.bk Γ) (c : ∀ Γ, k'.ct Γ → k.ct Γ) : Z Y ts Γ k := fun e F σ H D hM s cc =>
  h e F σ H D hM s ⟨fun F σ H Γ q => cc.nx F σ H Γ (n Γ q), fun F σ H Γ v x L L' q => cc.rt F σ H Γ v x L L' (r x Γ q), fun F σ H Γ q => cc.bk F σ H Γ (b Γ q), fun F σ H Γ q => cc.ct F σ H Γ (c Γ q)⟩
/-- what is owned may be frozen anywhere -/
theorem z_frz {od : @OD α d} {x : α} (i : Nat) (hi : Γ[i]? = some (.own d od none x)) (h : Z Y ts (Γ.set i (.val d x)) k) : Z Y ts Γ k := fun e F σ H D hM s c => by
  obtain ⟨F', sm, s'⟩ := s.frz hM hi
  exact h e F' σ H D hM s' c
theorem z_forget {c0 : Cell} (i : Nat) (hi : Γ[i]? = some c0) (h : Z Y ts (Γ.set i .no) k) : Z Y ts Γ k := fun e F σ H D hM s c => h e F σ H D hM (s.hide hi) c

/-! targets -/
theorem a_name {x : α} {i : Nat} {c0 : Cell} {kn : List Cell → Prop} (hi : Γ[i]? = some c0) (h : kn (Γ.set i (.val d x))) : A Y (gName i) Γ d x kn := fun e F σ H v s r Q q =>
  q (σ.set i (some v)) _ h (s.set (c' := .val d x) (L' := []) hi s.base ⟨rfl, v, rfl, r⟩)
theorem a_pair {x : α × β} {n : Nat} {kn : List Cell → Prop} (hn : n = 2) (h : A Y g1 Γ d1 x.1 fun Γ1 => A Y g2 Γ1 d2 x.2 kn) : A Y (gTup Y.K n (gCons g1 (gCons g2 gNil))) Γ (dPair (d1 := d1) (d2 := d2)) x kn := fun e F σ H v s ⟨a, v1, v2, e1, ht, r1, r2⟩ Q q => by
  subst e1 hn
  refine ⟨a, [v1, v2], rfl, (ht.mono s.fh).sq, rfl, v1, [v2], rfl, h e F σ H v1 s r1 _ fun σ1 Γ1 h1 st1 => ⟨v2, [], rfl, h1 e F σ1 H v2 st1 r2 _ fun σ2 Γ2 h2 st2 => ⟨rfl, q σ2 Γ2 h2 st2⟩⟩⟩
theorem a_T3 {x : T3 α β γ} {n : Nat} {kn : List Cell → Prop} (hn : n = 3) (h : A Y g1 Γ d1 x.a fun Γ1 => A Y g2 Γ1 d2 x.b fun Γ2 => A Y g3 Γ2 d3 x.c kn) : A Y (gTup Y.K n (gCons g1 (gCons g2 (gCons g3 gNil)))) Γ (dT3 (d1 := d1) (d2 := d2) (d3 := d3)) x kn := fun e F σ H v s ⟨a, v1, v2, v3, e1, ht, r1, r2, r3⟩ Q q => by
  subst e1 hn
  refine ⟨a, [v1, v2, v3], rfl, (ht.mono s.fh).sq, rfl, v1, [v2, v3], rfl, h e F σ H v1 s r1 _ fun σ1 Γ1 h1 st1 => ⟨v2, [v3], rfl, h1 e F σ1 H v2 st1 r2 _ fun σ2 Γ2 h2 st2 => ⟨v3, [], rfl, h2 e F σ2 H v3 st2 r3 _ fun σ3 Γ3 h3 st3 => ⟨rfl, q σ3 Γ3 h3 st3⟩⟩⟩⟩
theorem a_T4 {x : T4 α β γ δ} {n : Nat} {kn : List Cell → Prop} (hn : n = 4) (h : A Y g1 Γ d1 x.a fun Γ1 => A Y g2 Γ1 d2 x.b fun Γ2 => A Y g3 Γ2 d3 x.c fun Γ3 => A Y g4 Γ3 d4 x.d kn) : A Y (gTup Y.K n (gCons g1 (gCons g2 (gCons g3 (gCons g4 gNil))))) Γ (dT4 (d1 := d1) (d2 := d2) (d3 := d3) (d4 := d4)) x kn := fun e F σ H v s ⟨a, v1, v2, v3, v4, e1, ht, r1, r2, r3, r4⟩ Q q => by
  subst e1 hn
  refine ⟨a, [v1, v2, v3, v4], rfl, (ht.mono s.fh).sq, rfl, v1, [v2, v3, v4], rfl, h e F σ H v1 s r1 _ fun σ1 Γ1 h1 st1 => ⟨v2, [v3, v4], rfl, h1 e F σ1 H v2 st1 r2 _ fun σ2 Γ2 h2 st2 => ⟨v3, [v4], rfl, h2 e F σ2 H v3 st2 r3 _ fun σ3 Γ3 h3 st3 =>
    ⟨v4, [], rfl, h3 e F σ3 H v4 st3 r4 _ fun σ4 Γ4 h4 st4 => ⟨rfl, q σ4 Γ4 h4 st4⟩⟩⟩⟩⟩

/-! assignments -/
theorem z_set {i : Nat} {c0 : Cell} (hi : Γ[i]? = some c0) (h : W Y te Γ d fun x => k.nx (Γ.set i (.val d x))) : Z Y (tAsg te (gName i)) Γ k := fun e F σ H D hM s c => h e F σ H s _ fun v F' H' x kx g r =>
  c.nx F' _ H' _ kx (s.set (c' := .val d x) (L' := []) hi g ⟨rfl, v, rfl, r⟩)
theorem z_setG (h : W Y te Γ d fun x => A Y g Γ d x k.nx) : Z Y (tAsg te g) Γ k := fun e F σ H D hM s c => h e F σ H s _ fun v F' H' x kx gr r =>
  kx e F' σ H' v (s.grow gr) r _ fun σ2 Γ2 k2 s2 => c.nx F' σ2 H' Γ2 k2 s2
theorem z_setO {od : @OD α d} {i : Nat} {c0 : Cell} (hi : Γ[i]? = some c0) (h : O Y te Γ od fun x => k.nx (Γ.set i (.own d od none x))) : Z Y (tAsg te (gName i)) Γ k := fun e F σ H D hM s c => h e F σ H s _ fun v F' H' L' x kx g r =>
  c.nx F' _ H' _ kx (s.set (c' := .own d od none x) hi g ⟨v, rfl, fun _ z => (nomatch z), r⟩)
theorem z_drop {kt : α → Prop} (h : R Y te Γ d fun _ => k.nx Γ) : Z Y (tDrop te) Γ k := fun e F σ H D hM s c => h e F σ H s _ fun v F' H' x kx g r => c.nx F' σ H' Γ kx (s.grow g)
theorem z_if (h : T Y t Γ fun b => (b = true → Z Y t1 Γ k) ∧ (b = false → Z Y t2 Γ k)) : Z Y (tIfS t t1 t2) Γ k := fun e F σ H D hM s c => h e F σ H s _ fun b F' H' kb g => by
  cases b with
  | true => exact kb.1 rfl e F' σ H' D hM (s.grow g) c
  | false => exact kb.2 rfl e F' σ H' D hM (s.grow g) c
theorem z_ret (h : W Y te Γ d fun x => k.rt (.val d x) Γ) : Z Y (tRet te) Γ k := fun e F σ H D hM s c => h e F σ H s _ fun v F' H' x kx g r => by
  obtain ⟨_, L, kw, sl⟩ := s
  exact c.rt F' σ H' Γ v (.val d x) [] L kx (kw.trans0 g) ⟨rfl, v, rfl, r⟩ (sl.mono g.ff)
theorem z_retO {od : @OD α d} (h : O Y te Γ od fun x => k.rt (.own d od none x) Γ) : Z Y (tRet te) Γ k := fun e F σ H D hM s c => h e F σ H s _ fun v F' H' L' x kx g r => by
  obtain ⟨_, L, kw, sl⟩ := s
  exact c.rt F' σ H' Γ v (.own d od none x) L' L kx (kw.trans g) ⟨v, rfl, fun _ z => (nomatch z), r⟩ (sl.mono g.ff)
theorem z_retV {od : @OD α d} {i : Nat} {x : α} (hi : Γ[i]? = some (.own d od none x)) (h : k.rt (.own d od none x) (Γ.set i .no)) : Z Y (tRet (tVar i)) Γ k := fun e F σ H D hM s c => by
  obtain ⟨hx, L, k0, sl⟩ := s
  obtain ⟨o, L1, Li, L2, e1, e2, ⟨v, rfl, _, r⟩, f⟩ := sl.get hi
  subst e2
  refine ⟨v, e1, ?_⟩
  have sl2 := f F (some v) .no [] (Same.refl F) rfl
  rw [List.append_nil] at sl2
  exact c.rt F _ H _ v (.own d od none x) Li (L1 ++ L2) h k0.front ⟨v, rfl, fun _ z => (nomatch z), r⟩ sl2
/-! stores to what is owned -/
theorem z_append {pin : Option V} {i : Nat} {xs : List α} (hi : Γ[i]? = some (.own (dList (d := d)) (oList (d := d)) pin xs)) (h : W Y te Γ d fun y => xs.length < PySem.sizeLine ∧ k.nx (Γ.set i (.own (dList (d := d)) (oList (d := d)) pin (xs ++ [y])))) :
    Z Y (tDrop (tBM Y.K "list" rAppend (tVar i) (tCons te tNil))) Γ k := fun e F σ H D hM s c => by
  obtain ⟨v0, _, _, e1, ⟨a0, vs0, rfl, rfl, _⟩, kw0, _⟩ := s.mut hi
  have ha0 : H a0 = some (.lst vs0) := (kw0.ow (a0, .lst vs0) (by simp)).2.1
  refine ⟨.ref a0, e1, .inl ⟨rfl, vs0, .inl (.inl ha0)⟩, h e F σ H s _ fun w F' H' y ⟨hl, ky⟩ g rw' => ?_⟩
  obtain ⟨v, Li, rest, e2, ⟨a, vs, rfl, rfl, r⟩, kw, f⟩ := (s.grow g).mut hi
  rw [e1] at e2
  cases (Option.some.inj e2)
  have ha : H' a0 = some (.lst vs) := (kw.ow (a0, .lst vs) (by simp)).2.1
  refine ⟨a0, vs, w, rfl, rfl, ha, by rw [r.len]; exact hl, ?_⟩
  exact c.nx F' σ _ _ ky (f F' _ [(a0, .lst (vs ++ [w]))] (xs ++ [y]) (Same.refl F') (kw.put (fun _ z => by cases z)) ⟨a0, _, rfl, rfl, r.append (Reps.one rw')⟩)
/-- y = xs.pop() -/
theorem z_pop {pin : Option V} {i j : Nat} {xs : List α} {y : α} {c0 : Cell} (hi : Γ[i]? = some (.own (dList (d := d)) (oList (d := d)) pin (xs ++ [y]))) (hj : (Γ.set i (.own (dList (d := d)) (oList (d := d)) pin xs))[j]? = some c0)
    (h : k.nx ((Γ.set i (.own (dList (d := d)) (oList (d := d)) pin xs)).set j (.val d y))) : Z Y (tAsg (tBM0 Y.K "list" rPop (tVar i)) (gName j)) Γ k := fun e F σ H D hM s c => by
  obtain ⟨v, _, rest, e1, ⟨a, vs, rfl, rfl, r⟩, kw, f⟩ := s.mut hi
  have ha : H a = some (.lst vs) := (kw.ow (a, .lst vs) (by simp)).2.1
  have hl : vs.length = xs.length + 1 := by rw [r.len]; simp
  have hx : (xs ++ [y])[vs.length - 1]? = some y := by rw [hl]; simp
  obtain ⟨w, hw, rw'⟩ := r.get hx
  refine ⟨.ref a, e1, .inl ⟨rfl, vs, .inl (.inl ha)⟩, a, vs, w, rfl, rfl, ha, hw, ?_⟩
  have s2 := f F _ [(a, .lst vs.dropLast)] xs (Same.refl F) (kw.put (fun _ z => by cases z)) ⟨a, _, rfl, rfl, by
    have q := r.take xs.length
    rw [List.take_left] at q
    rw [List.dropLast_eq_take, hl]
    exact q⟩
  exact c.nx F _ _ _ h (s2.set (c' := .val d y) (L' := []) hj s2.base ⟨rfl, w, rfl, rw'⟩)
/-! loops -/
theorem Wk.out {e : En} {F1 F : Hp} {L1 L : LO} {H1 H : Hp} (a : Wk e F1 L1 H1) (b : Wk ⟨F1, e.H0, e.M⟩ F L H) : Wk e F L H :=
  ⟨a.ff.trans b.ff, b.hh, b.th, b.fh, fun x h h' => b.nw x h (a.nw x h h'), b.tp, b.ow, b.nd⟩
theorem Wk.into {e : En} {F : Hp} {L : LO} {H : Hp} (a : Wk e F L H) : Wk ⟨F, e.H0, e.M⟩ F L H :=
  ⟨Same.refl _, a.hh, a.th, a.fh, fun _ _ h => h, a.tp, a.ow, a.nd⟩
theorem XOk.into {e : En} {F1 : Hp} {L1 : LO} {H1 : Hp} (h : XOk Y e) (a : Wk e F1 L1 H1) : XOk Y ⟨F1, e.H0, e.M⟩ := fun x d F σ H Γ k ⟨L, kw, sl⟩ hd => h x d F σ H Γ k ⟨L, a.out kw, sl⟩ hd
theorem State.into {e : En} {F : Hp} {σ : St} {H : Hp} (s : State Y e F σ H Γ) : State Y ⟨F, e.H0, e.M⟩ F σ H Γ := let ⟨hx, L, k, sl⟩ := s; ⟨hx.into k, L, k.into, sl⟩
theorem State.out {e : En} {F1 F : Hp} {L1 : LO} {H1 : Hp} {σ : St} {H : Hp} (hx : XOk Y e) (a : Wk e F1 L1 H1) (s : State Y ⟨F1, e.H0, e.M⟩ F σ H Γ) : State Y e F σ H Γ := let ⟨_, L, k, sl⟩ := s; ⟨hx, L, a.out k, sl⟩
theorem State.ff {e : En} {F : Hp} {σ : St} {H : Hp} (s : State Y e F σ H Γ) : Same e.F0 F := let ⟨_, _, k, _⟩ := s; k.ff
theorem Cont.into {e : En} {F1 : Hp} {L1 : LO} {H1 : Hp} {D : Ends} (hx : XOk Y e) (a : Wk e F1 L1 H1) (c : Cont Y e k D) : Cont Y ⟨F1, e.H0, e.M⟩ k D :=
  ⟨fun F σ H Γ q s => c.nx F σ H Γ q (s.out hx a), fun F σ H Γ v x L L' q kw => c.rt F σ H Γ v x L L' q (a.out kw), fun F σ H Γ q s => c.bk F σ H Γ q (s.out hx a), fun F σ H Γ q s => c.ct F σ H Γ q (s.out hx a)⟩
/-- what a loop asks of its body -/
def Body (Y : YC) (g : TG) (ts : TS) {α : Type} (d : Dat α) (k : Ks) (get : Nat → Option α) (n : Nat) (Γ : List Cell) : Prop :=
  ∃ I : Nat → List Cell → Prop, I 0 Γ ∧ (∀ i x Γ', get i = some x → I i Γ' → A Y g Γ' d x fun Γ2 => Z Y ts Γ2 { nx := I (i + 1), ct := I (i + 1), bk := k.nx, rt := k.rt }) ∧ ∀ Γ', I n Γ' → k.nx Γ'
theorem z_for {tl : TE} (h : W Y tl Γ (dList (d := d)) fun xs => Body Y g ts d k (fun i => xs[i]?) xs.length Γ) : Z Y (tFor (iList Y.K tl) g ts) Γ k := fun e F σ H D hM s c => h e F σ H s _ fun v F1 H1 xs ⟨I, h0, hs, hd⟩ g1 ⟨a, vs, e1, hq, r⟩ => by
  subst e1
  have s1 := s.grow g1
  obtain ⟨hx1, L1, kw1, _⟩ := id s1
  have c1 := c.into hx1 kw1
  refine ⟨a, rfl, ⟨vs, g1.fh.seq hq⟩, for_list (K := Y.K) (a := a) (xs := vs) (fun i σ H => ∃ F' Γ', State Y ⟨F1, e.H0, e.M⟩ F' σ H Γ' ∧ I i Γ') ⟨F1, Γ, s1.into, h0⟩ (fun i σ H _ ⟨F', Γ', st, _⟩ => (st.ff.trans st.fh).seq hq) (fun i w σ H hw ⟨F', Γ', st, hi⟩ => ?_) fun σ H ⟨F', Γ', st, hi⟩ => ?_⟩
  · obtain ⟨x, hx, rx⟩ := r.getV hw
    refine hs i x Γ' hx hi _ F' σ H w st (d.mono st.ff rx) _ fun σ2 Γ2 h2 st2 => ?_
    exact h2 ⟨F1, e.H0, e.M⟩ F' σ2 H _ hM st2 ⟨fun F3 σ3 H3 Γ3 k3 st3 => ⟨F3, Γ3, st3, k3⟩, c1.rt, c1.nx, fun F3 σ3 H3 Γ3 k3 st3 => ⟨F3, Γ3, st3, k3⟩⟩
  · rw [r.len] at hi
    exact c1.nx F' σ H Γ' (hd Γ' hi) st
/-- lo, lo + 1, .. (n of them) -/
def rng (lo : Int) (n : Nat) (i : Nat) : Option Int := if i < n then some (lo + i) else none
theorem for_rng {lo : Int} {n : Nat} {e : En} {F : Hp} {σ : St} {H : Hp} {D : Ends} (hM : e.M = []) (s : State Y e F σ H Γ) (c : Cont Y e k D) (h : Body Y g ts dInt k (rng lo n) n Γ) : ∃ W : Nat → Nat → St → Hp → Prop, (∃ m, W 0 m σ H) ∧ ∀ i m σ H, W i m σ H →
      ((Itr lo n).stop i H ∧ D.nx σ H) ∨ ((Itr lo n).go i H ∧ ∃ N : St → Hp → Prop, (∀ σ' H', N σ' H' → ∃ m', m' < m ∧ W (i + 1) m' σ' H') ∧ ∀ x H', (Itr lo n).yld i H x H' → g x σ H' fun σ2 H2 => ts { D with nx := N, ct := N, bk := D.nx } σ2 H2) := by
  obtain ⟨I, h0, hs, hd⟩ := h
  refine for_range (lo := lo) (n := n) (fun i σ H => ∃ F' Γ', State Y e F' σ H Γ' ∧ I i Γ') ⟨F, Γ, s, h0⟩ (fun i σ H hw ⟨F', Γ', st, hi⟩ => ?_) fun σ H ⟨F', Γ', st, hi⟩ => c.nx F' σ H Γ' (hd Γ' hi) st
  refine hs i (lo + i) Γ' (by unfold rng; rw [if_pos hw]) hi _ F' σ H _ st rfl _ fun σ2 Γ2 h2 st2 => ?_
  exact h2 _ F' σ2 H _ hM st2 ⟨fun F3 σ3 H3 Γ3 k3 st3 => ⟨F3, Γ3, st3, k3⟩, c.rt, c.nx, fun F3 σ3 H3 Γ3 k3 st3 => ⟨F3, Γ3, st3, k3⟩⟩
theorem z_range (h : R Y ta Γ dInt fun n => -(2 ^ 62) ≤ n ∧ n < 2 ^ 62 ∧ Body Y g ts dInt k (rng 0 n.toNat) n.toNat Γ) : Z Y (tFor (iRng1 (tCons ta tNil)) g ts) Γ k := fun e F σ H D hM s c => h e F σ H s _ fun v F1 H1 n ⟨l1, l2, hb⟩ g1 r1 => by
  cases (show v = .int n from r1)
  exact ⟨n, rfl, l1, l2, for_rng hM (s.grow g1) c hb⟩
theorem z_while (I : Nat → List Cell → Prop) (h0 : ∃ m, I m Γ) (hs : ∀ m Γ', I m Γ' → T Y t Γ' fun b => (b = true → Z Y ts Γ' { nx := fun Γ2 => ∃ m', m' < m ∧ I m' Γ2, ct := fun Γ2 => ∃ m', m' < m ∧ I m' Γ2, bk := k.nx, rt := k.rt }) ∧ (b = false → k.nx Γ')) : Z Y (tWhile t ts) Γ k := fun e F σ H D hM s c => by
  obtain ⟨m0, h0⟩ := h0
  refine ⟨fun m σ H => ∃ F' Γ', State Y e F' σ H Γ' ∧ I m Γ', ⟨m0, F, Γ, s, h0⟩, fun m σ H ⟨F', Γ', st, hi⟩ => ?_⟩
  refine hs m Γ' hi e F' σ H st _ fun b F2 H2 kb g2 => ?_
  cases b with
  | false => exact c.nx F2 σ H2 Γ' (kb.2 rfl) (st.grow g2)
  | true =>
    refine ⟨fun σ3 H3 => ∃ F3 Γ3, State Y e F3 σ3 H3 Γ3 ∧ ∃ m', m' < m ∧ I m' Γ3, fun σ3 H3 ⟨F3, Γ3, st3, m', hm, q⟩ => ⟨m', hm, F3, Γ3, st3, q⟩, ?_⟩
    exact kb.1 rfl e F2 σ H2 _ hM (st.grow g2) ⟨fun F3 σ3 H3 Γ3 k3 st3 => ⟨F3, Γ3, st3, k3⟩, c.rt, c.nx, fun F3 σ3 H3 Γ3 k3 st3 => ⟨F3, Γ3, st3, k3⟩⟩
/-! truth of a list -/
theorem t_truL {kb : Bool → Prop} (h : R Y ta Γ (dList (d := d)) fun xs => kb (!xs.isEmpty)) : T Y (fun σ H Q => ta σ H fun x H' => ∃ k, TruV Y.K x H' k ∧ Q k H') Γ kb := fun e F σ H s Q q => h e F σ H s _ fun v F' H' xs kx g ⟨a, vs, e1, hs, r⟩ => by
  subst e1
  refine ⟨_, .inl ⟨vs, hs, rfl⟩, q _ F' H' ?_ g⟩
  have e : vs.isEmpty = xs.isEmpty := by
    have := r.len
    cases vs <;> cases xs <;> simp_all
  rw [e]
  exact kx

/-! ### calls -/
/-- a def over data that it leaves as they are -/
def Fn (C : GCtx) (Γ : List Cell) (post : Cell → Prop) (vs : List V) (H : Hp) (Q : VK) : Prop :=
  ∃ F, Gr F H F H ∧ Slots C F (vs.map some) Γ [] ∧ ∀ v F' H' c L, post c → Wk ⟨F, H, []⟩ F' L H' → CellOk C F' (some v) c L → Q v H'
theorem Fn.len {post : Cell → Prop} {vs : List V} {H : Hp} {Q : VK} (h : Fn C Γ post vs H Q) : vs.length = Γ.length := by
  obtain ⟨F, _, s, _⟩ := h
  simpa using s.len
theorem Fn.mono {post post' : Cell → Prop} {vs : List V} {H : Hp} {Q : VK} (h : Fn C Γ post vs H Q) (m : ∀ c, post' c → post c) : Fn C Γ post' vs H Q := by
  obtain ⟨F, g, s, q⟩ := h
  exact ⟨F, g, s, fun v F' H' c L p => q v F' H' c L (m c p)⟩
/-- sp serves the cells, and its answers are as post says -/
def SpW (C : GCtx) (sp : Sp) (cs : List Cell) (post : Cell → Prop) : Prop := ∀ vs H Q E, Fn C cs post vs H Q → sp vs H Q E
/-- what is new in H' joins F -/
def fresh (F H F' : Hp) : Hp := fun a => if (H a).isSome = true then F a else F' a
theorem fresh_gr {F F1 H F' H' : Hp} {L : LO} (b : Gr F H F H) (g : Wk ⟨F1, H, []⟩ F' L H') : Wk ⟨F, H, []⟩ (fresh F H F') L H' where
  ff := fun a o h => by
    have h2 : (H a).isSome = true := by rw [b.fh a o h]; rfl
    unfold fresh; rw [if_pos h2]; exact h
  hh := g.hh
  th := g.th
  fh := fun a o h => by
    unfold fresh at h
    split at h
    · exact g.hh a o (fun z => nomatch z) (b.fh a o h)
    · exact g.fh a o h
  nw := fun a h h' => by
    unfold fresh
    have h2 : (H a).isSome = true := by cases q : H a with | none => exact absurd q h | some o => rfl
    rw [if_pos h2]; exact h'
  tp := fun a xs h => by
    unfold fresh
    split
    · next h2 =>
      cases q : H a with
      | none => rw [q] at h2; cases h2
      | some o =>
        have := g.hh a o (fun z => nomatch z) q
        rw [h] at this
        cases (Option.some.inj this)
        exact b.tp a xs q
    · exact g.tp a xs h
  ow := fun p hp => by
    obtain ⟨h1, h2, h3⟩ := g.ow p hp
    have h4 : H p.1 = none := h3.resolve_right (fun z => nomatch z)
    refine ⟨?_, h2, .inl h4⟩
    unfold fresh
    rw [if_neg (by rw [h4]; exact fun z => nomatch z)]
    exact h1
  nd := g.nd
theorem Gr.all {F H : Hp} (b : Gr F H F H) : Gr H H H H := ⟨Same.refl _, fun _ _ _ h => h, fun _ h => h, Same.refl _, fun _ _ h => h, fun _ _ h => h, fun _ h => (nomatch h), List.nodup_nil⟩
/-- owned data that lean on nothing but what stands still -/
class OIm (α : Type) [d : Dat α] (od : OD α) : Prop where
  oimm : ∀ {C : GCtx} {F H : Hp} {v : V} {x : α} {L : LO}, (∀ a xs, H a = some (.tup xs) → F a = some (.tup xs)) → od.orep C H v x L → od.orep C F v x L
instance mList {α : Type} [d : Dat α] [i : Imm α] : OIm (List α) oList := ⟨fun t ⟨a, vs, e, h, r⟩ => ⟨a, vs, e, h, r.imm t⟩⟩
theorem slots_pad {C : GCtx} {F : Hp} : ∀ n, Slots C F (List.replicate n none) (List.replicate n .no) [] := by
  intro n
  induction n with
  | zero => exact .nil
  | succ n ih => exact .cons (L := []) rfl ih
theorem slots_app {C : GCtx} {F : Hp} {σ1 σ2 : St} {Γ1 Γ2 : List Cell} {L1 L2 : LO} (a : Slots C F σ1 Γ1 L1) (b : Slots C F σ2 Γ2 L2) : Slots C F (σ1 ++ σ2) (Γ1 ++ Γ2) (L1 ++ L2) := by
  induction a with
  | nil => exact b
  | cons h r ih => rw [List.append_assoc]; exact .cons h ih
/-- a def over data that it leaves as they are, which may let exceptions out -/
def FnX (C : GCtx) (Γ : List Cell) (post : Cell → Prop) (xp : Exn → Prop) (vs : List V) (H : Hp) (Q : VK) (E : XK) : Prop :=
  ∃ F, Gr F H F H ∧ Slots C F (vs.map some) Γ [] ∧ (∀ v F' H' c L, post c → Wk ⟨F, H, []⟩ F' L H' → CellOk C F' (some v) c L → Q v H') ∧
    ∀ x d F' H', xp x → Wk ⟨F, H, []⟩ F' [] H' → x.at F' d → E (.ref x.cls) d H'
theorem FnX.fn {post : Cell → Prop} {xp : Exn → Prop} {vs : List V} {H : Hp} {Q : VK} {E : XK} (h : FnX C Γ post xp vs H Q E) : Fn C Γ post vs H Q := let ⟨F, g, s, q, _⟩ := h; ⟨F, g, s, q⟩
theorem FnX.len {post : Cell → Prop} {xp : Exn → Prop} {vs : List V} {H : Hp} {Q : VK} {E : XK} (h : FnX C Γ post xp vs H Q E) : vs.length = Γ.length := h.fn.len
theorem FnX.mono {post post' : Cell → Prop} {xp xp' : Exn → Prop} {vs : List V} {H : Hp} {Q : VK} {E : XK} (h : FnX C Γ post xp vs H Q E) (m : ∀ c, post' c → post c) (mx : ∀ x, xp' x → xp x) : FnX C Γ post' xp' vs H Q E := by
  obtain ⟨F, g, s, q, qx⟩ := h
  exact ⟨F, g, s, fun v F' H' c L p => q v F' H' c L (m c p), fun x d F' H' p => qx x d F' H' (mx x p)⟩
theorem Fn.x {post : Cell → Prop} {vs : List V} {H : Hp} {Q : VK} {E : XK} (h : Fn C Γ post vs H Q) : FnX C Γ post (fun _ => False) vs H Q E := let ⟨F, g, s, q⟩ := h; ⟨F, g, s, q, fun _ _ _ _ z => z.elim⟩
def SpX (C : GCtx) (sp : Sp) (cs : List Cell) (post : Cell → Prop) (xp : Exn → Prop) : Prop := ∀ vs H Q E, FnX C cs post xp vs H Q E → sp vs H Q E
theorem SpX.w {sp : Sp} {cs : List Cell} {post : Cell → Prop} (h : SpX C sp cs post fun _ => False) : SpW C sp cs post := fun vs H Q E f => h vs H Q E f.x
theorem FnX.body {N : List Str} {post : Cell → Prop} {xp : Exn → Prop} {vs : List V} {H : Hp} {Q : VK} {E : XK} {t : TS} (h : FnX C Γ post xp vs H Q E)
    (hz : Z ⟨C, fun _ => E, fun x _ => xp x⟩ t (Γ ++ List.replicate (N.length - Γ.length) .no) { nx := fun _ => post (.val dUnit ()), rt := fun c _ => post c, bk := fun _ => False, ct := fun _ => False }) : t { nx := fun _ H' => Q .non H', rt := Q } (L2.start N vs) H := by
  have hl := h.len
  obtain ⟨F, g, s, q, qx⟩ := h
  have st : State ⟨C, fun _ => E, fun x _ => xp x⟩ ⟨F, H, []⟩ F (L2.start N vs) H (Γ ++ List.replicate (N.length - Γ.length) .no) := by
    refine ⟨fun x d F' σ' H' Γ' k ⟨L, kw, _⟩ hd => qx x d F' H' k (kw.sub (fun _ z => nomatch z) List.nodup_nil) hd, [], g, ?_⟩
    unfold L2.start
    rw [← hl]
    exact slots_app s (slots_pad _)
  refine hz ⟨F, H, []⟩ F (L2.start N vs) H _ rfl st ⟨fun F' σ' H' Γ' p s' => ?_, fun F' σ' H' Γ' v c L L' p kw rc sl => ?_, fun _ _ _ _ z => z.elim, fun _ _ _ _ z => z.elim⟩
  · obtain ⟨_, L, kw, _⟩ := s'
    refine q .non F' H' (.val dUnit ()) [] p (kw.sub (fun _ z => nomatch z) List.nodup_nil) ⟨rfl, .non, rfl, rfl⟩
  · have nd : (L.map Prod.fst).Nodup := by
      have := kw.nd
      rw [List.map_append] at this
      exact (List.nodup_append.mp this).1
    exact q v F' H' c L p (kw.sub (fun p hp => List.mem_append_left _ hp) nd) rc
/-- THE BODY of such a def -/
theorem Fn.body {N : List Str} {post : Cell → Prop} {vs : List V} {H : Hp} {Q : VK} {t : TS} (h : Fn C Γ post vs H Q)
    (hz : Z (calm C) t (Γ ++ List.replicate (N.length - Γ.length) .no) { nx := fun _ => post (.val dUnit ()), rt := fun c _ => post c, bk := fun _ => False, ct := fun _ => False }) : t { nx := fun _ H' => Q .non H', rt := Q } (L2.start N vs) H := FnX.body (E := fun _ _ _ => False) h.x hz
/-! calls that may raise -/
theorem w_callX {sp : Sp} {E : St → XK} {tl : TA} {kx : α → Prop} (hE : E = Y.E) (h : WA Y tl Γ fun cs => SpX Y.g sp cs (fun c => ∃ r, c = .val d r ∧ kx r) fun x => Y.kx x Γ) : W Y (tCallS sp E tl) Γ d kx := fun e F σ H s Q q => h e F σ H s _ fun vs F1 H1 cs hc g1 sl => by
  subst hE
  refine hc vs H1 Q _ ⟨F1, g1.base, sl, fun v F' H' c L ⟨r, ec, kr⟩ g2 rc => ?_, fun x d F' H' kx' g2 hd => ?_⟩
  · subst ec
    obtain ⟨e1, v', e2, rv⟩ := rc
    subst e1
    cases (Option.some.inj e2)
    exact q v F' H' r kr (g1.trans0 g2) rv
  · exact s.1 x d F' σ H' Γ kx' ((s.grow g1).grow g2).2 hd
theorem o_callX {sp : Sp} {E : St → XK} {tl : TA} {od : @OD α d} {kx : α → Prop} (hE : E = Y.E) (h : WA Y tl Γ fun cs => SpX Y.g sp cs (fun c => ∃ r, c = .own d od none r ∧ kx r) fun x => Y.kx x Γ) : O Y (tCallS sp E tl) Γ od kx := fun e F σ H s Q q => h e F σ H s _ fun vs F1 H1 cs hc g1 sl => by
  subst hE
  refine hc vs H1 Q _ ⟨F1, g1.base, sl, fun v F' H' c L ⟨r, ec, kr⟩ g2 rc => ?_, fun x d F' H' kx' g2 hd => ?_⟩
  · subst ec
    obtain ⟨v', e2, _, rv⟩ := rc
    cases (Option.some.inj e2)
    exact q v F' H' L r kr (by simpa using g1.trans g2) rv
  · exact s.1 x d F' σ H' Γ kx' ((s.grow g1).grow g2).2 hd
end
end G

/-! G4: comprehensions, sorted, isinstance, equality, sets and dicts. -/
namespace G
open PySem L2

/-! ### targets that touch but their own slots -/
def Tg (g : TG) (js : List Nat) : Prop := ∀ v σ H (Q : St → Hp → Prop), g v σ H Q → g v σ H fun σ' H' => wipe σ' js = wipe σ js ∧ Q σ' H'
def Tgs (g : TGs) (js : List Nat) : Prop := ∀ vs σ H (Q : St → Hp → Prop), g vs σ H Q → g vs σ H fun σ' H' => wipe σ' js = wipe σ js ∧ Q σ' H'
theorem set_comm {α : Type _} (l : List α) {i j : Nat} (a b : α) (h : i ≠ j) : (l.set i a).set j b = (l.set j b).set i a := by
  apply List.ext_getElem?
  intro m
  simp only [List.getElem?_set, List.length_set]
  by_cases h1 : j = m <;> by_cases h2 : i = m <;> simp_all
theorem wipe_at {σ : St} {i : Nat} {o : Option V} : ∀ {js : List Nat}, i ∈ js → wipe (σ.set i o) js = wipe σ js
  | [], h => nomatch h
  | j :: js, h => by
    unfold wipe
    by_cases hi : i ∈ js
    · rw [wipe_at hi]
    · have e : i = j := by
        rcases List.mem_cons.mp h with h | h
        · exact h
        · exact absurd h hi
      subst e
      have q : ∀ (js : List Nat), i ∉ js → wipe (σ.set i o) js = (wipe σ js).set i o := by
        intro js
        induction js with
        | nil => intro _; rfl
        | cons m js ih =>
          intro h
          unfold wipe
          rw [ih (fun z => h (List.mem_cons_of_mem _ z)), set_comm _ _ _ (fun z => h (by rw [z]; exact List.mem_cons_self))]
      rw [q js hi]
      exact List.set_set _
theorem tg_name {i : Nat} {js : List Nat} (h : i ∈ js) : Tg (gName i) js := fun v σ H Q q => ⟨wipe_at h, q⟩
theorem tgs_nil {js : List Nat} : Tgs gNil js := fun vs σ H Q ⟨e, q⟩ => ⟨e, rfl, q⟩
theorem tgs_cons {g : TG} {gs : TGs} {js : List Nat} (h : Tg g js) (hs : Tgs gs js) (m : ∀ v σ H (Q Q' : St → Hp → Prop), (∀ σ H, Q σ H → Q' σ H) → g v σ H Q → g v σ H Q') (ms : ∀ v σ H (Q Q' : St → Hp → Prop), (∀ σ H, Q σ H → Q' σ H) → gs v σ H Q → gs v σ H Q') : Tgs (gCons g gs) js := fun vs σ H Q ⟨v, r, e, q⟩ =>
  ⟨v, r, e, m _ _ _ _ _ (fun σ1 H1 ⟨e1, q1⟩ => ms _ _ _ _ _ (fun σ2 H2 ⟨e2, q2⟩ => ⟨e2.trans e1, q2⟩) (hs _ _ _ _ q1)) (h _ _ _ _ q)⟩
def MoG (g : TG) : Prop := ∀ v σ H (Q Q' : St → Hp → Prop), (∀ σ H, Q σ H → Q' σ H) → g v σ H Q → g v σ H Q'
def MoGs (g : TGs) : Prop := ∀ v σ H (Q Q' : St → Hp → Prop), (∀ σ H, Q σ H → Q' σ H) → g v σ H Q → g v σ H Q'
theorem mo_name {i : Nat} : MoG (gName i) := fun _ _ _ _ _ m q => m _ _ q
theorem mos_nil : MoGs gNil := fun _ _ _ _ _ m ⟨e, q⟩ => ⟨e, m _ _ q⟩
theorem mos_cons {g : TG} {gs : TGs} (h : MoG g) (hs : MoGs gs) : MoGs (gCons g gs) := fun _ _ _ _ _ m ⟨v, r, e, q⟩ => ⟨v, r, e, h _ _ _ _ _ (fun _ _ q => hs _ _ _ _ _ m q) q⟩
theorem mo_tup {K : PySem.W.Frag} {n : Nat} {gs : TGs} (h : MoGs gs) : MoG (gTup K n gs) := fun _ _ _ _ _ m ⟨a, xs, e, s, l, q⟩ => ⟨a, xs, e, s, l, h _ _ _ _ _ m q⟩
theorem tgs_cons' {g : TG} {gs : TGs} {js : List Nat} (h : Tg g js ∧ MoG g) (hs : Tgs gs js ∧ MoGs gs) : Tgs (gCons g gs) js ∧ MoGs (gCons g gs) := ⟨tgs_cons h.1 hs.1 h.2 hs.2, mos_cons h.2 hs.2⟩
theorem tgs_nil' {js : List Nat} : Tgs gNil js ∧ MoGs gNil := ⟨tgs_nil, mos_nil⟩
theorem tg_name' {i : Nat} {js : List Nat} (h : i ∈ js) : Tg (gName i) js ∧ MoG (gName i) := ⟨tg_name h, mo_name⟩
theorem tg_tup' {K : PySem.W.Frag} {n : Nat} {gs : TGs} {js : List Nat} (h : Tgs gs js ∧ MoGs gs) : Tg (gTup K n gs) js ∧ MoG (gTup K n gs) := ⟨fun _ _ _ _ ⟨a, xs, e, s, l, q⟩ => ⟨a, xs, e, s, l, h.1 _ _ _ _ q⟩, mo_tup h.2⟩

def wipeC (Γ : List Cell) : List Nat → List Cell
  | [] => Γ
  | v :: vs => (wipeC Γ vs).set v .no
section
variable {C : GCtx} {Y : YC} {e : En} {F F' : Hp} {σ : St} {H H' : Hp} {Γ : List Cell}
theorem State.len (s : State Y e F σ H Γ) : σ.length = Γ.length := let ⟨_, _, _, sl⟩ := s; sl.len
theorem State.wipe (s : State Y e F σ H Γ) : ∀ vs : List Nat, State Y e F (wipe σ vs) H (wipeC Γ vs)
  | [] => s
  | v :: vs => by
    have ih := State.wipe s vs
    unfold L2.wipe wipeC
    cases q : (wipeC Γ vs)[v]? with
    | some c => exact ih.forget q
    | none =>
      have h1 : (wipeC Γ vs).length ≤ v := List.getElem?_eq_none_iff.mp q
      have h2 : (L2.wipe σ vs).length ≤ v := by rw [ih.len]; exact h1
      rw [List.set_eq_of_length_le h1, List.set_eq_of_length_le h2]
      exact ih
theorem State.growL {L' : LO} (s : State Y e F σ H Γ) (g : Wk ⟨F, H, []⟩ F' L' H') : State Y e F' σ H' Γ := by
  obtain ⟨hx, L, k, sl⟩ := s
  have k2 := k.trans g
  have k3 : Wk e F' ([] ++ L' ++ L) H' := by simpa using k2
  exact ⟨hx, L, by simpa using k3.drop, sl.mono g.ff⟩
end

/-! ### comprehensions -/
section
variable {C : GCtx} {Y : YC} {Γ : List Cell} {te ta tb tc : TE} {t u tt : TT} {α β γ δ : Type} {d1 : Dat α} {d : Dat α} {d2 : Dat β} {k : Ks} {t1 t2 ts : TS} {g : TG}

def CompB (Y : YC) (g : TG) (tt : TT) (te : TE) {α β : Type} (d : Dat α) (d2 : Dat β) (kx : List β → Prop) (get : Nat → Option α) (n : Nat) (Γ : List Cell) : Prop :=
  ∃ I : Nat → List β → Prop, I 0 [] ∧ (∀ i x ys, get i = some x → I i ys → A Y g Γ d x fun Γ2 => T Y tt Γ2 fun b => (b = true → W Y te Γ2 d2 fun y => ys.length < PySem.sizeLine ∧ I (i + 1) (ys ++ [y])) ∧ (b = false → I (i + 1) ys)) ∧ ∀ ys, I n ys → kx ys
/-- one turn -/
theorem comp_turn {e : En} {F1 : Hp} {σ : St} {H1 : Hp} {vs : List Nat} {D : Addr} {x : α} {v : V} {I I' : List β → Prop} (s1 : State Y e F1 σ H1 Γ) (hT : Tg g vs)
    (hs : ∀ ys, I ys → A Y g (wipeC Γ vs) d x fun Γ2 => T Y tt Γ2 fun b => (b = true → W Y te Γ2 d2 fun y => ys.length < PySem.sizeLine ∧ I' (ys ++ [y])) ∧ (b = false → I' ys)) (rx : ∀ F', Same F1 F' → d.rep Y.g F' v x) {H : Hp}
    (h : ∃ F' acc ys, Wk ⟨F1, H1, []⟩ F' [(D, .lst acc)] H ∧ Reps d2 Y.g F' acc ys ∧ I ys) :
    g v (wipe σ vs) H fun σ2 H2 => wipe σ2 vs = wipe σ vs ∧ tt σ2 H2 fun b H3 =>
      if b = true then te σ2 H3 fun y H4 => ∃ acc, H4 D = some (.lst acc) ∧ acc.length < PySem.sizeLine ∧ (∃ F' acc' ys, Wk ⟨F1, H1, []⟩ F' [(D, .lst acc')] (upd H4 D (.lst (acc ++ [y]))) ∧ Reps d2 Y.g F' acc' ys ∧ I' ys) else (∃ F' acc ys, Wk ⟨F1, H1, []⟩ F' [(D, .lst acc)] H3 ∧ Reps d2 Y.g F' acc ys ∧ I' ys) := by
  obtain ⟨F', acc, ys, kw, r, hi⟩ := h
  have st := (s1.growL kw).wipe vs
  have ww : ∀ σ0 : St, wipe (wipe σ0 vs) vs = wipe σ0 vs := by
    intro σ0
    have : ∀ (l : List Nat) (σ1 : St), (∀ j ∈ l, (σ1[j]? = none ∨ σ1[j]? = some none)) → wipe σ1 l = σ1 := by
      intro l
      induction l with
      | nil => intro _ _; rfl
      | cons j l ih =>
        intro σ1 hj
        unfold wipe
        rw [ih σ1 fun m hm => hj m (List.mem_cons_of_mem _ hm)]
        apply List.ext_getElem?
        intro m
        rw [List.getElem?_set]
        by_cases hm : j = m
        · subst hm
          rcases hj j List.mem_cons_self with z | z
          · rw [z, if_pos rfl, if_neg (Nat.not_lt.mpr (List.getElem?_eq_none_iff.mp z))]
          · rw [z, if_pos rfl, if_pos (List.getElem?_eq_some_iff.mp z).1]
        · rw [if_neg hm]
    refine this vs _ fun j hj => ?_
    cases q : (wipe σ0 vs)[j]? with
    | none => exact .inl rfl
    | some o =>
      cases o with
      | none => exact .inr rfl
      | some y => exact absurd hj (wipe_some q).2
  have key := hs ys hi e F' _ H v st (rx F' kw.ff) (fun σ2 H2 => tt σ2 H2 fun b H3 =>
      if b = true then te σ2 H3 fun y H4 => ∃ acc, H4 D = some (.lst acc) ∧ acc.length < PySem.sizeLine ∧ (∃ F' acc' ys, Wk ⟨F1, H1, []⟩ F' [(D, .lst acc')] (upd H4 D (.lst (acc ++ [y]))) ∧ Reps d2 Y.g F' acc' ys ∧ I' ys) else (∃ F' acc ys, Wk ⟨F1, H1, []⟩ F' [(D, .lst acc)] H3 ∧ Reps d2 Y.g F' acc ys ∧ I' ys)) fun σ2 Γ2 h2 st2 => by
    refine h2 e F' σ2 H st2 _ fun b F3 H3 kb g3 => ?_
    have kw3 := kw.trans0 g3
    cases b with
    | false => exact ⟨F3, acc, ys, kw3, r.mono g3.ff, kb.2 rfl⟩
    | true =>
      refine kb.1 rfl e F3 σ2 H3 (st2.grow g3) _ fun y F4 H4 yv ⟨hl, ky⟩ g4 ry => ?_
      have kw4 := kw3.trans0 g4
      have hD : H4 D = some (.lst acc) := (kw4.ow (D, .lst acc) (by simp)).2.1
      exact ⟨acc, hD, by rw [r.len]; exact hl, F4, acc ++ [y], ys ++ [yv], kw4.put (fun _ z => by cases z), (r.mono (g3.ff.trans g4.ff)).append (Reps.one ry), ky⟩
  have key2 := hT v _ H _ key
  rw [ww] at key2
  exact key2
theorem o_lcR {vs : List Nat} {kx : List β → Prop} (hT : Tg g vs ∧ MoG g) (h : R Y ta Γ dInt fun n => -(2 ^ 62) ≤ n ∧ n < 2 ^ 62 ∧ CompB Y g tt te dInt d2 kx (rng 0 n.toNat) n.toNat (wipeC Γ vs)) : O Y (tLc (iRng1 (tCons ta tNil)) g tt te vs) Γ (oList (d := d2)) kx := fun e F σ H s Q q => h e F σ H s _ fun v F1 H1 n ⟨l1, l2, I, h0, hs, hd⟩ g1 r1 => by
  cases (show v = .int n from r1)
  refine ⟨n, rfl, l1, l2, fun D hD => ?_⟩
  have kw0 : Wk ⟨F1, H1, []⟩ F1 [(D, .lst [])] (upd H1 D (.lst [])) := g1.base.own hD (fun _ z => by cases z)
  refine lc_range (lo := 0) (n := n.toNat) (fun i H => ∃ F' acc ys, Wk ⟨F1, H1, []⟩ F' [(D, .lst acc)] H ∧ Reps d2 Y.g F' acc ys ∧ I i ys) ⟨F1, [], [], kw0, trivial, h0⟩ (fun i H hw p => ?_) fun H ⟨F', acc, ys, kw, ra, hi⟩ => ?_
  · exact comp_turn (d := dInt) (s.grow g1) hT.1 (hs i (0 + i) · (by unfold rng; rw [if_pos hw])) (fun F' sm => rfl) p
  · exact q _ F' H _ ys (hd ys hi) (by simpa using g1.trans kw) ⟨D, acc, rfl, rfl, ra⟩
/-- no test -/
theorem t_yes {kb : Bool → Prop} (h : kb true) : T Y tYes Γ kb := fun e F σ H s Q q => q true F H h s.base
def rngL (lo : Int) (n : Nat) : List Int := (List.range n).map fun i : Nat => lo + (i : Int)
theorem rng_get (lo : Int) (n i : Nat) : rng lo n i = (rngL lo n)[i]? := by
  unfold rng rngL
  rw [List.getElem?_map]
  by_cases h : i < n
  · rw [if_pos h, List.getElem?_range h]; rfl
  · rw [if_neg h, List.getElem?_eq_none (by simpa using h)]; rfl
theorem rngL_len (lo : Int) (n : Nat) : (rngL lo n).length = n := by simp [rngL]

/-! ### sorted -/
def isort (xs : List Int) : List Int := xs.mergeSort (fun a b => decide (a ≤ b))
theorem isort_perm (xs : List Int) : (isort xs).Perm xs := List.mergeSort_perm _ _
theorem isort_pw (xs : List Int) : (isort xs).Pairwise (· ≤ ·) := by
  have h := List.pairwise_mergeSort (le := fun a b : Int => decide (a ≤ b)) (by intro a b c; simp; omega) (by intro a b; simp; omega) xs
  exact h.imp (by simp)
theorem sorted_eq {xs ys : List Int} (p : xs.Perm ys) (h1 : xs.Pairwise (· ≤ ·)) (h2 : ys.Pairwise (· ≤ ·)) : xs = ys :=
  List.Perm.eq_of_pairwise (fun a b _ _ h h' => Int.le_antisymm h h') h1 h2 p
theorem isort_eq {xs ys : List Int} (p : ys.Perm xs) (h : ys.Pairwise (· ≤ ·)) : ys = isort xs := sorted_eq (p.trans (isort_perm xs).symm) h (isort_pw xs)
/-! ### isinstance -/
class Ty (α : Type) [d : Dat α] where
  tn : String
  ty : ∀ {C : GCtx} {H : Hp} {v : V} {x : α}, d.rep C H v x → TyX C.K H v (.type tn)
instance tyInt : Ty Int := ⟨"int", fun {C H v x} h => by cases (show v = .int x from h); exact .base (.int x)⟩
instance tyBool : Ty Bool := ⟨"bool", fun {C H v x} h => by cases (show v = .bl x from h); exact .base (.bl x)⟩
instance tyStr : Ty Str := ⟨"str", fun {C H v x} h => by cases (show v = .str x from h); exact .base (.str x)⟩
theorem ty_sql {K : PySem.W.Frag} {H : Hp} {a : Addr} {xs : List V} (h : SqL K H a xs) : TyX K H (.ref a) (.type "list") := by
  rcases h with (h | ⟨o, h⟩) | ⟨o, its, n, h, hc, _⟩
  · exact .base (.lst h)
  · exact .base (.frz h)
  · exact .kList h hc
theorem ty_tpa {K : PySem.W.Frag} {H : Hp} {a : Addr} {xs : List V} (h : TpA K H a xs) : TyX K H (.ref a) (.type "tuple") := by
  rcases h with h | (h | ⟨o, h⟩) | ⟨o, its, n, h, hc, _⟩
  · exact .base (.tup h)
  · cases h
  · cases h
  · exact .kTuple h hc
instance tyList {α : Type} [d : Dat α] : Ty (List α) := ⟨"list", fun ⟨a, vs, e, h, r⟩ => by subst e; exact ty_sql (.inl h)⟩
instance tyTup {α : Type} [d : Dat α] : Ty (Tup α) := ⟨"tuple", fun ⟨a, vs, e, h, r⟩ => by subst e; exact ty_tpa h⟩
instance tyPair {α β : Type} [d1 : Dat α] [d2 : Dat β] : Ty (α × β) := ⟨"tuple", fun ⟨a, _, _, e, h, _⟩ => by subst e; exact ty_tpa h⟩
instance tyT3 {α β γ : Type} [d1 : Dat α] [d2 : Dat β] [d3 : Dat γ] : Ty (T3 α β γ) := ⟨"tuple", fun ⟨a, _, _, _, e, h, _⟩ => by subst e; exact ty_tpa h⟩
instance tyT4 {α β γ δ : Type} [d1 : Dat α] [d2 : Dat β] [d3 : Dat γ] [d4 : Dat δ] : Ty (T4 α β γ δ) := ⟨"tuple", fun ⟨a, _, _, _, _, e, h, _⟩ => by subst e; exact ty_tpa h⟩
theorem w_isi [ty : @Ty α d] {c : String} {b : Bool} {kx : Bool → Prop} (hk : PySem.W.kitOne Y.K (.type ty.tn) (.type c) = some b) (h : R Y ta Γ d fun _ => kx b) : W Y (tCB (rIsi Y.K) (tCons ta (tCons (tC (.ty c)) tNil))) Γ dBool kx := fun e F σ H s Q q => h e F σ H s _ fun v F' H' x kx g r =>
  ⟨v, .ty c, .type ty.tn, .type c, b, rfl, .ty c, ty.ty r, hk, q _ F' H' b kx g rfl⟩

/-! ### equality of data -/
class DE (α : Type) [d : Dat α] where
  toD : α → PyData
  dep : Nat
  dp : ∀ {C : GCtx} {H : Hp} {v : V} {x : α}, d.rep C H v x → Dp C.K H v (toD x)
  lay : ∀ x, (toD x).plain = true
  deep : ∀ x, (toD x).depth ≤ dep
  eqv : ∀ x y, PyData.eqv (toD x) (toD y) = true ↔ x = y
instance deInt : DE Int := ⟨.int, 1, fun {C H v x} h => by cases (show v = .int x from h); exact .int x, fun _ => by simp [PyData.plain], fun _ => by simp [PyData.depth], fun x y => by simp [PyData.eqv]⟩
instance deStr : DE Str := ⟨.str, 1, fun {C H v x} h => by cases (show v = .str x from h); exact .str x, fun _ => by simp [PyData.plain], fun _ => by simp [PyData.depth], fun x y => by simp [PyData.eqv]⟩
instance deBool : DE Bool := ⟨.bool, 1, fun {C H v x} h => by cases (show v = .bl x from h); exact .bl x, fun _ => by simp [PyData.plain], fun _ => by simp [PyData.depth], fun x y => by simp [PyData.eqv]⟩
theorem dpAll_of [de : @DE α d] {H : Hp} : ∀ {vs : List V} {xs : List α}, Reps d C H vs xs → DpAll C.K H vs (xs.map de.toD)
  | [], [], _ => .nil
  | _ :: _, _ :: _, h => .cons (de.dp h.1) (dpAll_of h.2)
  | [], _ :: _, h => h.elim
  | _ :: _, [], h => h.elim
theorem eqvAll_of [de : @DE α d] : ∀ xs ys : List α, PyData.eqvAll (xs.map de.toD) (ys.map de.toD) = true ↔ xs = ys
  | [], [] => by simp [PyData.eqvAll]
  | x :: xs, y :: ys => by simp [PyData.eqvAll, de.eqv, eqvAll_of xs ys]
  | [], _ :: _ => by simp [PyData.eqvAll]
  | _ :: _, [] => by simp [PyData.eqvAll]
theorem layAll_of [de : @DE α d] : ∀ xs : List α, PyData.plainAll (xs.map de.toD) = true
  | [] => by simp [PyData.plainAll]
  | x :: xs => by simp [PyData.plainAll, de.lay, layAll_of xs]
theorem depAll_of [de : @DE α d] : ∀ xs : List α, PyData.depthAll (xs.map de.toD) ≤ de.dep
  | [] => by simp [PyData.depthAll]
  | x :: xs => by
    simp only [List.map_cons, PyData.depthAll]
    exact Nat.max_le.mpr ⟨de.deep x, depAll_of xs⟩
instance deList [de : @DE α d] : @DE (List α) dList :=
  ⟨fun xs => .list (xs.map de.toD), de.dep + 1, fun ⟨a, vs, e, h, r⟩ => by subst e; exact .lst h (dpAll_of r), fun xs => by simp [PyData.plain, layAll_of], fun xs => by simp [PyData.depth, depAll_of], fun xs ys => by simp [PyData.eqv, eqvAll_of]⟩
instance deTup [de : @DE α d] : @DE (Tup α) dTup :=
  ⟨fun xs => .tuple (xs.l.map de.toD), de.dep + 1, fun ⟨a, vs, e, h, r⟩ => by subst e; exact .tup h.sq (dpAll_of r), fun xs => by simp [PyData.plain, layAll_of], fun xs => by simp [PyData.depth, depAll_of], fun xs ys => by
    obtain ⟨xs⟩ := xs
    obtain ⟨ys⟩ := ys
    simp [PyData.eqv, eqvAll_of]⟩
instance dePair {α β : Type} {d1 : Dat α} {d2 : Dat β} [de1 : @DE α d1] [de2 : @DE β d2] : @DE (α × β) dPair :=
  ⟨fun x => .tuple [de1.toD x.1, de2.toD x.2], max de1.dep de2.dep + 1, fun ⟨a, v1, v2, e, h, r1, r2⟩ => by subst e; exact .tup h.sq (.cons (de1.dp r1) (.cons (de2.dp r2) .nil)), fun x => by simp [PyData.plain, PyData.plainAll, de1.lay, de2.lay],
    fun x => by have h1 := de1.deep x.1; have h2 := de2.deep x.2; simp [PyData.depth, PyData.depthAll]; omega, fun x y => by
    obtain ⟨x1, x2⟩ := x
    obtain ⟨y1, y2⟩ := y
    simp [PyData.eqv, PyData.eqvAll, de1.eqv, de2.eqv]⟩
instance deT3 {α β γ : Type} {d1 : Dat α} {d2 : Dat β} {d3 : Dat γ} [de1 : @DE α d1] [de2 : @DE β d2] [de3 : @DE γ d3] : @DE (T3 α β γ) dT3 :=
  ⟨fun x => .tuple [de1.toD x.a, de2.toD x.b, de3.toD x.c], max de1.dep (max de2.dep de3.dep) + 1, fun ⟨a, v1, v2, v3, e, h, r1, r2, r3⟩ => by subst e; exact .tup h.sq (.cons (de1.dp r1) (.cons (de2.dp r2) (.cons (de3.dp r3) .nil))), fun x => by simp [PyData.plain, PyData.plainAll, de1.lay, de2.lay, de3.lay],
    fun x => by have h1 := de1.deep x.a; have h2 := de2.deep x.b; have h3 := de3.deep x.c; simp [PyData.depth, PyData.depthAll]; omega, fun x y => by
    obtain ⟨x1, x2, x3⟩ := x
    obtain ⟨y1, y2, y3⟩ := y
    simp [PyData.eqv, PyData.eqvAll, de1.eqv, de2.eqv, de3.eqv]⟩
instance deT4 {α β γ δ : Type} {d1 : Dat α} {d2 : Dat β} {d3 : Dat γ} {d4 : Dat δ} [de1 : @DE α d1] [de2 : @DE β d2] [de3 : @DE γ d3] [de4 : @DE δ d4] : @DE (T4 α β γ δ) dT4 :=
  ⟨fun x => .tuple [de1.toD x.a, de2.toD x.b, de3.toD x.c, de4.toD x.d], max de1.dep (max de2.dep (max de3.dep de4.dep)) + 1, fun ⟨a, v1, v2, v3, v4, e, h, r1, r2, r3, r4⟩ => by subst e; exact .tup h.sq (.cons (de1.dp r1) (.cons (de2.dp r2) (.cons (de3.dp r3) (.cons (de4.dp r4) .nil)))), fun x => by simp [PyData.plain, PyData.plainAll, de1.lay, de2.lay, de3.lay, de4.lay],
    fun x => by have h1 := de1.deep x.a; have h2 := de2.deep x.b; have h3 := de3.deep x.c; have h4 := de4.deep x.d; simp [PyData.depth, PyData.depthAll]; omega, fun x y => by
    obtain ⟨x1, x2, x3, x4⟩ := x
    obtain ⟨y1, y2, y3, y4⟩ := y
    simp [PyData.eqv, PyData.eqvAll, de1.eqv, de2.eqv, de3.eqv, de4.eqv]⟩
theorem de_shaped [de : @DE α d] (hd : de.dep ≤ 64) (x : α) : shP (de.toD x) = true := by
  unfold shP
  rw [de.lay x, decide_eq_true (Nat.le_trans (de.deep x) hd)]
  rfl
theorem de_eqv [de : @DE α d] [DecidableEq α] (x y : α) : PyData.eqv (de.toD x) (de.toD y) = decide (x = y) := by
  by_cases h : x = y
  · rw [decide_eq_true h]; exact (de.eqv x y).mpr h
  · rw [decide_eq_false h]
    cases q : PyData.eqv (de.toD x) (de.toD y) with
    | false => rfl
    | true => exact absurd ((de.eqv x y).mp q) h
theorem w_eqD [de : @DE α d] [DecidableEq α] {kb : Bool → Prop} (hd : de.dep ≤ 64) (h : R Y ta Γ d fun x => R Y tb Γ d fun y => kb (decide (x = y))) : W Y (tOp (rEqP Y.K) ta tb) Γ dBool kb := fun e F σ H s Q q => h e F σ H s _ fun v1 F1 H1 x h1 g1 r1 => h1 e F1 σ H1 (s.grow g1) _ fun v2 F2 H2 y ky g2 r2 =>
  ⟨de.toD x, de.toD y, de.dp (d.mono g2.hh0 r1), de.dp r2, de_shaped hd x, de_shaped hd y, q _ F2 H2 _ ky (g1.trans0 g2) (by rw [de_eqv]; rfl)⟩
theorem w_neD [de : @DE α d] [DecidableEq α] {kb : Bool → Prop} (hd : de.dep ≤ 64) (h : R Y ta Γ d fun x => R Y tb Γ d fun y => kb (!decide (x = y))) : W Y (tOp (rNeP Y.K) ta tb) Γ dBool kb := fun e F σ H s Q q => h e F σ H s _ fun v1 F1 H1 x h1 g1 r1 => h1 e F1 σ H1 (s.grow g1) _ fun v2 F2 H2 y ky g2 r2 =>
  ⟨de.toD x, de.toD y, de.dp (d.mono g2.hh0 r1), de.dp r2, de_shaped hd x, de_shaped hd y, q _ F2 H2 _ ky (g1.trans0 g2) (by rw [de_eqv]; rfl)⟩

/-! ### sets of ints -/
structure IS where
  l : List Int
def isAdd (s : IS) (k : Int) : IS := if k ∈ s.l then s else ⟨s.l ++ [k]⟩
def SetOk (S : Int → Bool) (n : Nat) (s : IS) : Prop := (∀ k, S k = decide (k ∈ s.l)) ∧ n = s.l.length
instance dSet : Dat IS := ⟨fun C F v s => ∃ a S n, v = .ref a ∧ F a = some (SetO C.w a S n) ∧ SetOk S n s, fun m ⟨a, S, n, e, h, o⟩ => ⟨a, S, n, e, m _ _ h, o⟩⟩
instance oSet : OD IS where
  orep C F v s L := ∃ a S n, v = .ref a ∧ L = [(a, SetO C.w a S n)] ∧ SetOk S n s
  omono m := fun h => h
  view := fun ⟨a, S, n, e, h, o⟩ m k => ⟨a, S, n, e, k (a, SetO _ a S n) (by rw [h]; exact List.mem_cons_self), o⟩
/-! ### dicts by ints -/
structure DI (β : Type) where
  kv : List (Int × β)
def KReps {β : Type} (d : Dat β) (C : GCtx) (F : Hp) : List (Key × V) → List (Int × β) → Prop
  | [], [] => True
  | p :: ps, x :: xs => p.1 = Sum.inl x.1 ∧ d.rep C F p.2 x.2 ∧ KReps d C F ps xs
  | _, _ => False
section
variable {F F' : Hp}
theorem KReps.mono (s : Same F F') : ∀ {ps : List (Key × V)} {xs : List (Int × α)}, KReps d C F ps xs → KReps d C F' ps xs
  | [], [], _ => trivial
  | _ :: _, _ :: _, h => ⟨h.1, d.mono s h.2.1, KReps.mono s h.2.2⟩
  | [], _ :: _, h => h.elim
  | _ :: _, [], h => h.elim
theorem KReps.len : ∀ {ps : List (Key × V)} {xs : List (Int × α)}, KReps d C F ps xs → ps.length = xs.length
  | [], [], _ => rfl
  | _ :: _, _ :: _, h => by simp [KReps.len h.2.2]
  | [], _ :: _, h => h.elim
  | _ :: _, [], h => h.elim
theorem valV_cons {κ : Type} [DecidableEq κ] (p : κ × V) (ps : List (κ × V)) (k : κ) : valV (p :: ps) k = if p.1 = k then some p.2 else valV ps k := by
  unfold valV
  by_cases h : p.1 = k
  · rw [List.find?_cons_of_pos (by simp [h]), if_pos h]; rfl
  · rw [List.find?_cons_of_neg (by simp [h]), if_neg h]
theorem lookup_cons' {β : Type} (x : Int × β) (xs : List (Int × β)) (k : Int) : (x :: xs).lookup k = if x.1 = k then some x.2 else xs.lookup k := by
  obtain ⟨a, b⟩ := x
  rw [List.lookup_cons]
  by_cases h : a = k
  · subst h; simp
  · have : (k == a) = false := by simp; exact fun z => h z.symm
    rw [this]; simp [h]
theorem KReps.look : ∀ {ps : List (Key × V)} {xs : List (Int × α)} (k : Int), KReps d C F ps xs → (∀ x, xs.lookup k = some x → ∃ v, valV ps (Sum.inl k) = some v ∧ d.rep C F v x) ∧ (xs.lookup k = none → valV ps (Sum.inl k : Key) = none)
  | [], [], k, _ => ⟨fun _ h => (nomatch h), fun _ => rfl⟩
  | p :: ps, x :: xs, k, h => by
    rw [valV_cons, lookup_cons', h.1]
    by_cases hk : x.1 = k
    · rw [if_pos hk, if_pos (by rw [hk])]
      exact ⟨fun y e => ⟨p.2, rfl, by cases e; exact h.2.1⟩, fun z => (nomatch z)⟩
    · rw [if_neg hk, if_neg (fun z => hk (Sum.inl.inj z))]
      exact KReps.look k h.2.2
  | [], _ :: _, _, h => h.elim
  | _ :: _, [], _, h => h.elim
end
/-- d[k] = v on pairs -/
def putI {β : Type} (kv : List (Int × β)) (k : Int) (v : β) : List (Int × β) := if (kv.lookup k).isSome then kv.map (fun p => if p.1 = k then (k, v) else p) else kv ++ [(k, v)]
instance dDI {α : Type} [d : Dat α] : Dat (DI α) := ⟨fun C F v x => ∃ a ps, v = .ref a ∧ F a = some (.dK ps) ∧ KReps d C F ps x.kv, fun m ⟨a, ps, e, h, r⟩ => ⟨a, ps, e, m _ _ h, r.mono m⟩⟩
instance oDI {α : Type} [d : Dat α] : OD (DI α) where
  orep C F v x L := ∃ a ps, v = .ref a ∧ L = [(a, .dK ps)] ∧ KReps d C F ps x.kv
  omono m := fun ⟨a, ps, e, h, r⟩ => ⟨a, ps, e, h, r.mono m⟩
  view := fun ⟨a, ps, e, h, r⟩ m k => ⟨a, ps, e, k (a, .dK ps) (by rw [h]; exact List.mem_cons_self), r.mono m⟩
end
end G

section
set_option maxHeartbeats 2000000
/-! G5: lists or tuples; sorted of both; data owned within data. -/
namespace SrtO
open PySem PyProof.Rows Srt
section
variable {prog : Program} {w : World} {A : Around} {E : Value → Shared → Prop} {s : Shared}
end
end SrtO
namespace L2
open PySem PySem.Spec PyProof.Rows
section
variable {X : Cx}
/-- a new record that walks: the iterator's own object, just laid -/
theorem born {pins : List (Addr × Obj)} {σ : St} {H : Hp} {s : Shared} {R : It → Hp → Prop} {tg : Expr} {J : It} {tn : Nat → Heap → Prop} {ob : Obj} (I : Inv X pins σ H s) (T : Turn X.prog X.w X.K tg J [s.heap.objs.size] s.heap.objs.size tn) (t0 : tn 0 (s.heap.push ob)) (q : R J H) :
    PIE X pins σ tg R (.ref s.heap.objs.size) { s with heap := s.heap.push ob } :=
  ⟨_, _, _, _, H, rfl, I.kept (t' := s.toks) (fun _ _ z => Heap.get?_push_of_some _ z), T, t0, fun b hb => by
    cases List.mem_singleton.mp hb
    exact I.fpOk (Nat.le_refl _) (I.hok.fresh (Nat.le_refl _)), q⟩
end
end L2
namespace G
open PySem L2
/-! ### a list or a tuple, its items alike -/
structure Sq (α : Type) where
  l : List α
  deriving DecidableEq
instance dSq {α : Type} [d : Dat α] : Dat (Sq α) :=
  ⟨fun C F v xs => ∃ a vs, v = .ref a ∧ (SqL C.K F a vs ∨ TpA C.K F a vs) ∧ Reps d C F vs xs.l, fun s ⟨a, vs, e, h, r⟩ => ⟨a, vs, e, h.imp s.seq (·.mono s), r.mono s⟩⟩
section
variable {C : GCtx} {Y : YC} {Γ : List Cell} {te ta tb tc : TE} {t u tt : TT} {α β γ δ : Type} {d1 : Dat α} {d : Dat α} {d2 : Dat β} {k : Ks} {t1 t2 ts : TS} {g : TG}
theorem w_lenQ {k : Int → Prop} (h : R Y ta Γ (dSq (d := d)) fun xs => k (xs.l.length : Int)) : W Y (tCB (fun xs H Q => ∃ p ys, xs = [.ref p] ∧ (SqL Y.K H p ys ∨ SqT Y.K H p ys) ∧ Q (.int ys.length) H) (tCons ta tNil)) Γ dInt k := fun e F σ H s Q q => h e F σ H s _ fun v F' H' x kx g ⟨a, vs, e1, h1, r⟩ => by
  subst e1
  exact ⟨a, vs, rfl, h1.imp id (·.sq), q _ F' H' _ (by rw [r.len]; exact kx) g rfl⟩
/-! ### lists owned within lists, within dicts -/
/-- each item owned: their values, their footprints one behind the other -/
def OReps {α : Type} {d : Dat α} (od : OD α) (C : GCtx) (F : Hp) : List V → List α → LO → Prop
  | [], [], L => L = []
  | v :: vs, x :: xs, L => ∃ L1 L2, L = L1 ++ L2 ∧ od.orep C F v x L1 ∧ OReps od C F vs xs L2
  | _, _, _ => False
theorem OReps.mono {od : @OD α d} {F F' : Hp} (s : Same F F') : ∀ {vs : List V} {xs : List α} {L : LO}, OReps od C F vs xs L → OReps od C F' vs xs L
  | [], [], _, h => h
  | _ :: _, _ :: _, _, ⟨L1, L2, e, h1, h2⟩ => ⟨L1, L2, e, od.omono s h1, OReps.mono s h2⟩
  | [], _ :: _, _, h => h.elim
  | _ :: _, [], _, h => h.elim
theorem OReps.view {od : @OD α d} {F H : Hp} (s : Same F H) : ∀ {vs : List V} {xs : List α} {L : LO}, OReps od C F vs xs L → (∀ p ∈ L, H p.1 = some p.2) → Reps d C H vs xs
  | [], [], _, _, _ => trivial
  | _ :: _, _ :: _, _, ⟨L1, L2, e, h1, h2⟩, k => ⟨od.view h1 s fun p hp => k p (by rw [e]; exact List.mem_append_left _ hp), OReps.view s h2 fun p hp => k p (by rw [e]; exact List.mem_append_right _ hp)⟩
  | [], _ :: _, _, h, _ => h.elim
  | _ :: _, [], _, h, _ => h.elim
theorem OReps.len {od : @OD α d} {F : Hp} : ∀ {vs : List V} {xs : List α} {L : LO}, OReps od C F vs xs L → vs.length = xs.length
  | [], [], _, _ => rfl
  | _ :: _, _ :: _, _, ⟨_, _, _, _, h2⟩ => by simp [OReps.len h2]
  | [], _ :: _, _, h => h.elim
  | _ :: _, [], _, h => h.elim
theorem OReps.append {od : @OD α d} {F : Hp} {ws : List V} {ys : List α} {M : LO} : ∀ {vs : List V} {xs : List α} {L : LO}, OReps od C F vs xs L → OReps od C F ws ys M → OReps od C F (vs ++ ws) (xs ++ ys) (L ++ M)
  | [], [], _, h, g => by cases (show _ = [] from h); exact g
  | _ :: _, _ :: _, _, ⟨L1, L2, e, h1, h2⟩, g => ⟨L1, L2 ++ M, by rw [e, List.append_assoc], h1, OReps.append h2 g⟩
  | [], _ :: _, _, h, _ => h.elim
  | _ :: _, [], _, h, _ => h.elim
theorem OReps.one {od : @OD α d} {F : Hp} {v : V} {x : α} {L : LO} (h : od.orep C F v x L) : OReps od C F [v] [x] L := ⟨L, [], by simp, h, rfl⟩
theorem OReps.at {od : @OD α d} {F : Hp} : ∀ {vs : List V} {xs : List α} {L : LO} {i : Nat} {x : α}, OReps od C F vs xs L → xs[i]? = some x → ∃ v L1 Li L2, vs[i]? = some v ∧ L = L1 ++ Li ++ L2 ∧ od.orep C F v x Li ∧ ∀ x' Li', od.orep C F v x' Li' → OReps od C F vs (xs.set i x') (L1 ++ Li' ++ L2)
  | [], [], _, i, _, _, e => by cases i <;> cases e
  | v :: vs, y :: xs, L, 0, x, ⟨L1, L2, e, h1, h2⟩, hx => by
    cases (Option.some.inj hx : y = x)
    exact ⟨v, [], L1, L2, rfl, by simpa using e, h1, fun x' Li' h => ⟨Li', L2, by simp, h, h2⟩⟩
  | v :: vs, y :: xs, L, i + 1, x, ⟨L1, L2, e, h1, h2⟩, hx => by
    obtain ⟨w, M1, Mi, M2, e1, e2, h3, f⟩ := OReps.at (i := i) h2 hx
    exact ⟨w, L1 ++ M1, Mi, M2, e1, by rw [e, e2]; simp [List.append_assoc], h3, fun x' Li' h => ⟨L1, M1 ++ Li' ++ M2, by simp [List.append_assoc], h1, f x' Li' h⟩⟩
  | [], _ :: _, _, _, _, h, _ => h.elim
  | _ :: _, [], _, _, _, h, _ => h.elim
/-- a list that owns its items -/
@[reducible] def oDeep {α : Type} {d : Dat α} (od : OD α) : @OD (List α) dList where
  orep C F v xs L := ∃ a vs L', v = .ref a ∧ L = (a, .lst vs) :: L' ∧ OReps od C F vs xs L'
  omono s := fun ⟨a, vs, L', e, h, r⟩ => ⟨a, vs, L', e, h, r.mono s⟩
  view := fun ⟨a, vs, L', e, h, r⟩ s k => ⟨a, vs, e, .inl (k (a, .lst vs) (by rw [h]; exact List.mem_cons_self)), r.view s fun p hp => k p (by rw [h]; exact List.mem_cons_of_mem _ hp)⟩
instance mDeep {α : Type} [d : Dat α] {od : OD α} [i : OIm α od] : OIm (List α) (oDeep od) := ⟨fun {C F H v xs L} t ⟨a, vs, L', e, h, r⟩ => ⟨a, vs, L', e, h, by
  have go : ∀ {vs : List V} {xs : List α} {L : LO}, OReps od C H vs xs L → OReps od C F vs xs L := by
    intro vs xs L h
    induction vs generalizing xs L with
    | nil => cases xs with
      | nil => exact h
      | cons _ _ => exact h.elim
    | cons v vs ih => cases xs with
      | nil => exact h.elim
      | cons x xs => obtain ⟨L1, L2, e, h1, h2⟩ := h; exact ⟨L1, L2, e, i.oimm t h1, ih h2⟩
  exact go r⟩⟩
/-- each value owned -/
def OKReps {β : Type} {d : Dat β} (od : OD β) (C : GCtx) (F : Hp) : List (Key × V) → List (Int × β) → LO → Prop
  | [], [], L => L = []
  | p :: ps, x :: xs, L => ∃ L1 L2, L = L1 ++ L2 ∧ p.1 = Sum.inl x.1 ∧ od.orep C F p.2 x.2 L1 ∧ OKReps od C F ps xs L2
  | _, _, _ => False
theorem OKReps.mono {od : @OD α d} {F F' : Hp} (s : Same F F') : ∀ {ps : List (Key × V)} {xs : List (Int × α)} {L : LO}, OKReps od C F ps xs L → OKReps od C F' ps xs L
  | [], [], _, h => h
  | _ :: _, _ :: _, _, ⟨L1, L2, e, hk, h1, h2⟩ => ⟨L1, L2, e, hk, od.omono s h1, OKReps.mono s h2⟩
  | [], _ :: _, _, h => h.elim
  | _ :: _, [], _, h => h.elim
theorem OKReps.view {od : @OD α d} {F H : Hp} (s : Same F H) : ∀ {ps : List (Key × V)} {xs : List (Int × α)} {L : LO}, OKReps od C F ps xs L → (∀ p ∈ L, H p.1 = some p.2) → KReps d C H ps xs
  | [], [], _, _, _ => trivial
  | _ :: _, _ :: _, _, ⟨L1, L2, e, hk, h1, h2⟩, k => ⟨hk, od.view h1 s fun p hp => k p (by rw [e]; exact List.mem_append_left _ hp), OKReps.view s h2 fun p hp => k p (by rw [e]; exact List.mem_append_right _ hp)⟩
  | [], _ :: _, _, h, _ => h.elim
  | _ :: _, [], _, h, _ => h.elim
theorem OKReps.append {od : @OD α d} {F : Hp} {ws : List (Key × V)} {ys : List (Int × α)} {M : LO} : ∀ {vs : List (Key × V)} {xs : List (Int × α)} {L : LO}, OKReps od C F vs xs L → OKReps od C F ws ys M → OKReps od C F (vs ++ ws) (xs ++ ys) (L ++ M)
  | [], [], _, h, g => by cases (show _ = [] from h); exact g
  | _ :: _, _ :: _, _, ⟨L1, L2, e, hk, h1, h2⟩, g => ⟨L1, L2 ++ M, by rw [e, List.append_assoc], hk, h1, OKReps.append h2 g⟩
  | [], _ :: _, _, h, _ => h.elim
  | _ :: _, [], _, h, _ => h.elim
/-- xs at k becomes x' (the first pair with that key) -/
def setI {β : Type} : List (Int × β) → Int → β → List (Int × β)
  | [], _, _ => []
  | p :: ps, k, x => if p.1 = k then (p.1, x) :: ps else p :: setI ps k x
theorem OKReps.at {od : @OD α d} {F : Hp} : ∀ {ps : List (Key × V)} {xs : List (Int × α)} {L : LO} {i : Int} {x : α}, OKReps od C F ps xs L → xs.lookup i = some x → ∃ v L1 Li L2, valV ps (Sum.inl i) = some v ∧ L = L1 ++ Li ++ L2 ∧ od.orep C F v x Li ∧ ∀ x' Li', od.orep C F v x' Li' → OKReps od C F ps (setI xs i x') (L1 ++ Li' ++ L2)
  | [], [], _, i, _, _, e => by cases e
  | p :: vs, y :: xs, L, i, x, ⟨L1, L2, e, hk, h1, h2⟩, hx => by
    rw [lookup_cons'] at hx
    rw [valV_cons, hk]
    unfold setI
    by_cases hi : y.1 = i
    · rw [if_pos hi] at hx
      cases (Option.some.inj hx : y.2 = x)
      refine ⟨p.2, [], L1, L2, by rw [if_pos (by rw [hi])], by simpa using e, h1, fun x' Li' h => ?_⟩
      rw [if_pos hi]
      exact ⟨Li', L2, by simp, hk, h, h2⟩
    · rw [if_neg hi] at hx
      simp only [if_neg hi]
      obtain ⟨w, M1, Mi, M2, e1, e2, h3, f⟩ := OKReps.at (i := i) h2 hx
      exact ⟨w, L1 ++ M1, Mi, M2, by rw [if_neg (fun z => hi (Sum.inl.inj z)), e1], by rw [e, e2]; simp [List.append_assoc], h3, fun x' Li' h => ⟨L1, M1 ++ Li' ++ M2, by simp [List.append_assoc], hk, h1, f x' Li' h⟩⟩
  | [], _ :: _, _, _, _, h, _ => h.elim
  | _ :: _, [], _, _, _, h, _ => h.elim
/-- a dict that owns its values -/
@[reducible] def oDeepDI {β : Type} {d : Dat β} (od : OD β) : @OD (DI β) dDI where
  orep C F v x L := ∃ a ps L', v = .ref a ∧ L = (a, .dK ps) :: L' ∧ OKReps od C F ps x.kv L'
  omono s := fun ⟨a, vs, L', e, h, r⟩ => ⟨a, vs, L', e, h, r.mono s⟩
  view := fun ⟨a, ps, L', e, h, r⟩ s k => ⟨a, ps, e, k (a, .dK ps) (by rw [h]; exact List.mem_cons_self), r.view s fun p hp => k p (by rw [h]; exact List.mem_cons_of_mem _ hp)⟩
end
end G
end

/-! G6: small helps. -/
namespace G
open PySem L2
theorem atI_of {α : Type} {xs : List α} {i : Int} {x : α} (h0 : 0 ≤ i) (h : xs[i.toNat]? = some x) : atI xs i = some x := by
  obtain ⟨j, rfl⟩ : ∃ j : Nat, i = j := ⟨i.toNat, by omega⟩
  exact atI_nat h
theorem small1k {n : Nat} (h : n ≤ 100000) : n < PySem.sizeLine := Nat.lt_of_le_of_lt h (by decide)
theorem nodup_snoc {α : Type} {xs : List α} {x : α} (h : xs.Nodup) (hx : x ∉ xs) : (xs ++ [x]).Nodup :=
  List.nodup_append.mpr ⟨h, by simp, fun a ha b hb e => hx (by rw [List.mem_singleton] at hb; rw [← hb, ← e]; exact ha)⟩
theorem rng_some {lo : Int} {n i : Nat} {x : Int} (h : rng lo n i = some x) : i < n ∧ x = lo + i := by
  unfold rng at h
  split at h
  · next hi => exact ⟨hi, by cases h; rfl⟩
  · cases h

/-! ### dict comprehensions: new keys, owned values -/
section
variable {C : GCtx} {Y : YC} {Γ : List Cell} {te ta tb tc tk tv : TE} {t u tt : TT} {α β γ δ : Type} {d1 : Dat α} {d : Dat α} {d2 : Dat β} {k : Ks} {t1 t2 ts : TS} {g : TG}
theorem KReps_has {od : @OD β d2} {F : Hp} : ∀ {ps : List (Key × V)} {xs : List (Int × β)} {L : LO}, OKReps od C F ps xs L → ps.map (·.1) = xs.map fun p => (Sum.inl p.1 : Key)
  | [], [], _, _ => rfl
  | _ :: _, _ :: _, _, ⟨_, _, _, hk, _, h2⟩ => by simp [hk, KReps_has h2]
  | [], _ :: _, _, h => h.elim
  | _ :: _, [], _, h => h.elim
theorem OKReps.none {od : @OD β d2} {F : Hp} : ∀ {ps : List (Key × V)} {xs : List (Int × β)} {L : LO} {i : Int}, OKReps od C F ps xs L → xs.lookup i = none → valV ps (Sum.inl i : Key) = none
  | [], [], _, _, _, _ => rfl
  | p :: ps, x :: xs, _, i, ⟨_, _, _, hk, _, h2⟩, e => by
    rw [lookup_cons'] at e
    rw [valV_cons, hk]
    by_cases hi : x.1 = i
    · rw [if_pos hi] at e; cases e
    · rw [if_neg hi] at e
      rw [if_neg (fun z => hi (Sum.inl.inj z))]
      exact OKReps.none h2 e
  | [], _ :: _, _, _, h, _ => h.elim
  | _ :: _, [], _, _, h, _ => h.elim
theorem OKReps.len {od : @OD β d2} {F : Hp} {ps : List (Key × V)} {xs : List (Int × β)} {L : LO} (h : OKReps od C F ps xs L) : ps.length = xs.length := by
  have := congrArg List.length (KReps_has h)
  simpa using this
theorem wipe_wipe {vs : List Nat} (σ0 : St) : wipe (wipe σ0 vs) vs = wipe σ0 vs := by
  have : ∀ (l : List Nat) (σ1 : St), (∀ j ∈ l, (σ1[j]? = none ∨ σ1[j]? = some none)) → wipe σ1 l = σ1 := by
    intro l
    induction l with
    | nil => intro _ _; rfl
    | cons j l ih =>
      intro σ1 hj
      unfold wipe
      rw [ih σ1 fun m hm => hj m (List.mem_cons_of_mem _ hm)]
      apply List.ext_getElem?
      intro m
      rw [List.getElem?_set]
      by_cases hm : j = m
      · subst hm
        rcases hj j List.mem_cons_self with z | z
        · rw [z, if_pos rfl, if_neg (Nat.not_lt.mpr (List.getElem?_eq_none_iff.mp z))]
        · rw [z, if_pos rfl, if_pos (List.getElem?_eq_some_iff.mp z).1]
      · rw [if_neg hm]
  refine this vs _ fun j hj => ?_
  cases q : (wipe σ0 vs)[j]? with
  | none => exact .inl rfl
  | some o =>
    cases o with
    | none => exact .inr rfl
    | some y => exact absurd hj (wipe_some q).2
/-! ### lists that own lists -/
end
end G

/-! G7: what is owned, read as if it were frozen; comprehensions of owned items; the script. -/
namespace G
open PySem L2
section
variable {C : GCtx} {Y : YC} {Γ : List Cell} {te ta tb tc tk tv : TE} {t u tt : TT} {α β γ δ : Type} {d1 : Dat α} {d : Dat α} {d2 : Dat β} {k : Ks} {t1 t2 ts : TS} {g : TG}
theorem State.frzM {e : En} {F : Hp} {σ : St} {H : Hp} {od : @OD α d} {x : α} {i : Nat} {pin : Option V} (s : State Y e F σ H Γ) (h : Γ[i]? = some (.own d od pin x)) : ∃ e' F', Same F F' ∧ State (calm Y.g) e' F' σ H (Γ.set i (.val d x)) := by
  obtain ⟨_, L, k, sl⟩ := s
  obtain ⟨o, L1, Li, L2, e1, e2, ⟨v, rfl, hp, r⟩, f⟩ := sl.get h
  subst e2
  have kf := k.front
  have kb : Wk ⟨F, fun _ => none, []⟩ F (Li ++ (L1 ++ L2)) H := ⟨Same.refl _, fun _ _ _ z => (nomatch z), fun _ z => absurd rfl z, kf.fh, fun _ z _ => absurd rfl z, kf.tp, fun p hp => ⟨(kf.ow p hp).1, (kf.ow p hp).2.1, .inl rfl⟩, kf.nd⟩
  have ff : ∀ p ∈ Li, F p.1 = none := fun p hp => (kf.ow p (List.mem_append_left _ hp)).1
  have nd : (Li.map Prod.fst).Nodup := by
    have := kf.nd
    rw [List.map_append] at this
    exact (List.nodup_append.mp this).1
  have sm := same_plus ff nd
  have q := f (plus F Li) (some v) (.val d x) [] sm ⟨rfl, v, rfl, od.view r sm (plus_get ff nd)⟩
  have z : σ.set i (some v) = σ := by
    apply List.ext_getElem?
    intro j
    by_cases hj : i = j
    · subst hj
      obtain ⟨hlt, hv⟩ := List.getElem?_eq_some_iff.mp e1
      rw [List.getElem?_set_self hlt, e1]
    · rw [List.getElem?_set_ne hj]
  rw [z, List.append_nil] at q
  exact ⟨_, plus F Li, sm, fun _ _ _ _ _ _ z => z.elim, L1 ++ L2, kb.freeze fun p _ z => (nomatch z), q⟩
theorem w_borrow {od0 : @OD α d} {x : α} {pin : Option V} [m : @Imm β d2] {kx : β → Prop} (i : Nat) (hi : Γ[i]? = some (.own d od0 pin x)) (h : W (calm Y.g) te (Γ.set i (.val d x)) d2 kx) : W Y te Γ d2 kx := fun e F σ H s Q q => by
  obtain ⟨e', F1, sm, s1⟩ := s.frzM hi
  refine h e' F1 σ H s1 Q fun v F' H' y ky g r => ?_
  have g3 := fresh_gr s.base g
  exact q v _ H' y ky g3 (m.imm (fun a xs h => g3.tp a xs (g.fh _ _ h)) r)
/-- the script, as the law takes it -/
theorem Fn.script {K : PySem.W.Frag} {P : Program} {w : World} {H : Hp} {a : Addr} {ns : List Int} (hS : SqL K H a (ns.map V.int)) : Fn ⟨P, w, K⟩ [.val (dSq (d := dInt)) ⟨ns⟩] (fun c => c = cv true) [.ref a] H (fun v _ => v = .bl true) :=
  ⟨H, ⟨Same.refl _, fun _ _ _ h => h, fun _ h => h, Same.refl _, fun _ _ h => h, fun _ _ h => h, fun _ h => (nomatch h), List.nodup_nil⟩, Slots.cons (L := []) ⟨rfl, .ref a, rfl, a, _, rfl, .inl hS, Reps.ofInts ns⟩ .nil, fun v F' H' c L e _ ok => by
    subst e
    obtain ⟨_, v', e', r⟩ := ok
    cases (Option.some.inj e')
    exact r⟩
end
end G

/-! G8: stores into dicts, slices, items that change their list, lists picked out of owned lists. -/
namespace G
open PySem L2
section
variable {C : GCtx} {Y : YC} {Γ : List Cell} {te ta tb tc tk tv : TE} {t u tt : TT} {α β γ δ : Type} {d1 : Dat α} {d : Dat α} {d2 : Dat β} {k : Ks} {t1 t2 ts : TS} {g : TG}
/-! d[k] = v -/
theorem KReps.map_put {F : Hp} {v : V} {x : α} {n : Int} (hv : d.rep C F v x) : ∀ {ps : List (Key × V)} {xs : List (Int × α)}, KReps d C F ps xs → KReps d C F (ps.map fun kv => if kv.1 = Sum.inl n then (kv.1, v) else kv) (xs.map fun p => if p.1 = n then (n, x) else p)
  | [], [], _ => trivial
  | p :: ps, y :: ys, h => by
    rw [List.map_cons, List.map_cons]
    by_cases hn : y.1 = n
    · rw [if_pos hn, if_pos (by rw [h.1, hn])]
      exact ⟨by show p.1 = Sum.inl n; rw [h.1, hn], hv, KReps.map_put hv h.2.2⟩
    · rw [if_neg hn, if_neg (by rw [h.1]; exact fun z => hn (Sum.inl.inj z))]
      exact ⟨h.1, h.2.1, KReps.map_put hv h.2.2⟩
  | [], _ :: _, h => h.elim
  | _ :: _, [], h => h.elim
theorem KReps.snoc {F : Hp} {v : V} {x : α} {n : Int} (hv : d.rep C F v x) : ∀ {ps : List (Key × V)} {xs : List (Int × α)}, KReps d C F ps xs → KReps d C F (ps ++ [(Sum.inl n, v)]) (xs ++ [(n, x)])
  | [], [], _ => ⟨rfl, hv, trivial⟩
  | _ :: _, _ :: _, h => ⟨h.1, h.2.1, KReps.snoc hv h.2.2⟩
  | [], _ :: _, h => h.elim
  | _ :: _, [], h => h.elim
theorem KReps.put {F : Hp} {ps : List (Key × V)} {xs : List (Int × α)} {v : V} {x : α} {n : Int} (h : KReps d C F ps xs) (hv : d.rep C F v x) : KReps d C F (putK ps (Sum.inl n) v) (putI xs n x) := by
  unfold putK putI
  have l := h.look n
  rw [valV_any]
  cases q : xs.lookup n with
  | none =>
    rw [l.2 q, if_neg (fun z => (nomatch z)), if_neg (fun z => (nomatch z))]
    exact h.snoc hv
  | some y =>
    obtain ⟨w, hw, _⟩ := l.1 y q
    rw [hw]
    exact h.map_put hv
/-! slices -/
def cutL {α : Type} (xs : List α) (lo hi : Option Int) : List α := (xs.drop (HT.sIx xs.length 0 lo)).take (HT.sIx xs.length xs.length hi - HT.sIx xs.length 0 lo)
/-! xs.append(ys.pop(i)) -/
theorem Reps.erase {F : Hp} : ∀ {vs : List V} {xs : List α} (i : Nat), Reps d C F vs xs → Reps d C F (vs.eraseIdx i) (xs.eraseIdx i)
  | [], [], _, _ => by simp [Reps]
  | _ :: _, _ :: _, 0, h => h.2
  | _ :: _, _ :: _, i + 1, h => ⟨h.1, Reps.erase i h.2⟩
  | [], _ :: _, _, h => h.elim
  | _ :: _, [], _, h => h.elim
/-! parts of what is owned -/
theorem Wk.sublist {e : En} {F : Hp} {L L' : LO} {H : Hp} (a : Wk e F L H) (h : L'.Sublist L) : Wk e F L' H :=
  a.sub (fun p hp => h.subset hp) ((h.map Prod.fst).nodup a.nd)
theorem Slots.wipe {F : Hp} {σ : St} {L : LO} (h : Slots C F σ Γ L) : ∀ vs : List Nat, ∃ L', L'.Sublist L ∧ Slots C F (wipe σ vs) (wipeC Γ vs) L'
  | [] => ⟨L, List.Sublist.refl _, h⟩
  | v :: vs => by
    obtain ⟨L1, h1, h2⟩ := Slots.wipe h vs
    unfold L2.wipe wipeC
    cases q : (wipeC Γ vs)[v]? with
    | some c =>
      obtain ⟨o, M1, Mi, M2, e1, e2, _, f⟩ := h2.get q
      refine ⟨M1 ++ M2, ?_, by simpa using f F none .no [] (Same.refl F) rfl⟩
      refine List.Sublist.trans ?_ h1
      rw [e2, List.append_assoc]
      exact List.Sublist.append_left (List.sublist_append_right _ _) _
    | none =>
      have l1 : (wipeC Γ vs).length ≤ v := List.getElem?_eq_none_iff.mp q
      have l2 : (L2.wipe σ vs).length ≤ v := by rw [h2.len]; exact l1
      rw [List.set_eq_of_length_le l1, List.set_eq_of_length_le l2]
      exact ⟨L1, h1, h2⟩
/-! [x for x in OWNED if t]: the owned items that are picked -/
/-! for x in OWNED: x.append(n) -/
end
end G

/-! E1: super().__init__('..') within the __init__ of an own exception class. -/
namespace G
open PySem PySem.Spec PyProof.Rows L2 PySem.W
theorem super_init {X : Cx} {pins : List (Addr × Obj)} {σ : L2.St} {H : Hp} {s : Shared} {Q : Flow → Shared → Prop} {E : Value → Shared → Prop} {body : List Stmt} {f cc cda D a C : Addr} {fd : FuncData} {ar : Arg} {vs : Array Value} {file : Str} {tf : Tok}
    {oc ccl cl : Value} {od cdd cld : Option Addr} {osl ccs csl : Array (Option Value)} {cdD cdC : ClassData} {m : Str} {j : Nat} {p0 p1 p2 p3 p4 p5 : Pos} {pl : Sem Bool}
    (I : Inv X pins σ H s) (hfun : X.env.func = some f) (hcode : X.env.code = .ref cda) (hks : X.env.kindOf "super" = some .globalImplicit) (hkc : X.env.kindOf "__class__" = some .free) (hcl : X.env.cells.lookup ("__class__" : Str) = some cc)
    (kf : X.K.lookup f = some ⟨oc, od, .func fd, osl⟩) (hp : (fd.params.posonlyargs ++ fd.params.args).head? = some ar) (hN : X.N[0]? = some ar.arg) (hl : X.env.kindOf ar.arg = some .local) (h0 : σ[0]? = some (some (.ref a)))
    (kcell : X.K.lookup cc = some ⟨cl, cld, .cell (some (.ref D)), csl⟩) (kcode : X.K.lookup cda = some ⟨ccl, cdd, .fields vs, ccs⟩) (hvs : vs[2]? = some (.str file tf)) (hfile : ((X.prog.main.file : Str) == file) = true)
    (kD : clsIn X.K D = some cdD) (kC : clsIn X.K C = some cdC) (hsub : mroIn X.K C (.ref D) = some true) (hsup : X.mg "super" = none) (htop : (X.prog.main.scope.names.lookup ("super" : Str)).isSome = false)
    (hst : nsIn X.K cStatics "thirdparty.any" = some none) (hin : ks_superIn X.K C D "__init__" = some (some (.builtin "ValueError.__init__"))) (hB : subIn X.K (.ref C) (.type "ValueError") = some true)
    (T : OexC X.K C) (ea : H a = some (exo a C none)) (hq : ∀ s', Inv X pins σ H s' → Q .next s')
    (he : eval (.Call (.Attribute (.Call (.Name "super" p0) [] [] p1) "__init__" p2) [.Constant (.str m) j p3] [] p4) X.env = (do
      let ov ← attributeBase (.Call (.Name "super" p0) [] [] p1) "__init__" X.env (eval (.Call (.Name "super" p0) [] [] p1) X.env)
      standAt p2.atName
      let (f, first) ← holding [ov] (getMethod ov "__init__" pl)
      callWith p4 f first (backTo p4 (starEach [.Constant (.str m) j p3] X.env)) [])) :
    _root_.PySem.wpAt (model X.prog X.w) X.A (.func body X.env) (exec (.Expr (.Call (.Attribute (.Call (.Name "super" p0) [] [] p1) "__init__" p2) [.Constant (.str m) j p3] [] p4) p5) X.env) Q E s := by
  obtain ⟨nm, q, N, bs, bm, sn, sub, ab, col, dd, k0, k1, k2, k3, k5, hC, hbm⟩ := T.cls
  obtain ⟨t1, ho⟩ := exo_at I.hok ea
  refine ks_wpAt_Expr_any (hs := ?hs) ?hm I.quiet
  case hs => rfl
  refine ks_wpAt_MethodCall (he := he) ?_
  refine ks_wpAt_super_base hks hkc rfl hfun (I.kIn _ _ kf) rfl hp hcode (I.kIn _ _ kcode) rfl hvs hfile htop ?_
  obtain ⟨mb, b1, b2⟩ := I.mod.blt
  refine ks_loadName_global I.ok.kind hks (Calls.loadGlobal_builtin (by rw [I.ok.glob]; exact I.mod.glob.keeps I.bk) hsup (by rw [I.ok.blt]; exact b1.keeps I.bk) ((b2 _ (by decide)).trans (PyProof.Rows.Boot.«super»)) ⟨rfl, ?_⟩)
  refine wpAny_loadName_free I.ok.kind hkc hcl ⟨_, I.kIn _ _ kcell, rfl⟩ ?_
  obtain ⟨mm, hn, hlk⟩ := I.loc
  obtain ⟨u0, ru, lk⟩ := hlk 0 ar.arg (.ref a) hN h0 (.inl hl)
  obtain rfl : u0 = Value.ref a := ru
  have hm0 : mm ar.arg = some (.ref a) := by
    rcases lk with ⟨_, h⟩ | ⟨h, _⟩
    · exact h
    · rw [hl] at h; rcases h with h | h <;> cases h
  refine wpAny_loadName_local I.ok.kind hl hn hm0 ?_
  obtain ⟨oD, hD1, hD2⟩ : ∃ oD, s.heap.get? D = some oD ∧ oD.data = .cls cdD := by
    unfold clsIn at kD
    split at kD
    · rename_i c d cd' sl hoD
      cases kD
      exact ⟨_, I.kIn _ _ hoD, rfl⟩
    · cases kD
  refine ks_wpAny_isType_cls hD1 hD2 ⟨rfl, ?_⟩
  have hty : Looks (model X.prog X.w) s.heap (typeOf (.ref a)) (.ref C) := (InstAt.mk (ox := ({ cls := .ref C, dict := none, data := .fields #[.ref t1, .none, .none, .none, .bool false, .none] } : Obj)) (od := none) ho rfl rfl trivial).type
  obtain ⟨hh, g, d, t, os⟩ := s
  refine ks_wpAny_call_super hD1 hD2 ho rfl (fun c e => by cases e) (looks_mroIn I.kIn hsub) (fun h' e k => ?_)
  have I1 : Inv X pins σ H ⟨h', g, d, t, os⟩ := I.kept (t' := t) k
  have hI : Looks (model X.prog X.w) h' (isInstance (.ref a) (.type "ValueError")) true := (hty.keeps k).andThen (looks_subIn I1.kIn hB)
  have hne : a ≠ C := fun z => by
    have h1 := I.kIn _ _ hC
    rw [← z, show (Shared.heap ⟨hh, g, d, t, os⟩).get? a = _ from ho] at h1
    cases h1
  have hmr : Looks (model X.prog X.w) h' (mroOf (.ref C)) cdC.mro := fun A Q E s k q => wpAny_bind ((looks_clsIn I1.kIn kC) A _ E s k (wpAny_pure q))
  have hin' : alongIn X.K "__init__" ((cdC.mro.dropWhile (· != .ref D)).drop 1) = some (some (.builtin "ValueError.__init__")) := by
    unfold ks_superIn at hin
    rw [kC] at hin
    exact hin
  refine kxs_getMethod kxs_ValueError e (looks_opaque I1.kIn hst) (l₀ := cdC.mro) hmr rfl I1.kIn hin' hI hne rfl ?_
  have hu : (h'.push (kxs_mw "ValueError.__init__" a)).get? h'.objs.size = some (kxs_mw "ValueError.__init__" a) := Heap.get?_push_at rfl rfl
  have I2 : Inv X pins σ H ⟨h'.push (kxs_mw "ValueError.__init__" a), g, d, t + 1, os⟩ := I1.kept (t' := t + 1) fun b o e => Heap.get?_push_of_some _ e
  refine kxs_callWith (i := "ValueError.__init__") (x := a) rfl ?_
  show wpAny _ _ (evalArgs _ true ((false, eval (.Constant (.str m) j p3) X.env) :: []) []) _ _ _
  refine Calls.evalArgs_plain (Calls.spliced_cons (Calls.Constant_str (Calls.spliced_nil ⟨hu, ?_⟩)))
  have I3 : Inv X pins σ H ⟨h'.push (kxs_mw "ValueError.__init__" a), g, d, t + 1 + 1, os⟩ := I2.kept (t' := t + 1 + 1) fun b o e => e
  obtain ⟨t2, ho2⟩ := exo_at I3.hok ea
  show wpAny _ _ (call (.ref h'.objs.size) [.str m (t + 1)]) _ _ _
  refine wpAny_call (codeAny_of_tree ?_)
  show wpAny _ X.A.in1 (callAny (.ref h'.objs.size) ⟨[.str m (t + 1)], []⟩) _ _ _
  simp only [callAny]
  refine wpAny_bind (wpAny_load hu ?_)
  simp only [kxs_mw, show (Value.type "method-wrapper" == Value.type "method" || Value.type "method-wrapper" == Value.type "builtin_function_or_method" || Value.type "method-wrapper" == Value.type "method-wrapper") = true by decide, if_true]
  refine KFB.if_so (by decide) ?_
  refine wpAny_bind (check_bound_init F.excBase_ValueError.toExcCallFacts (I3.kIn _ _ hC) ho2 rfl ?_)
  refine wpAny_bind (wpAny_pure (wpAny_pure ?_))
  refine ⟨plainId_quiet F.excBase_ValueError.init.plain _, codeAny_builtin F.excBase_ValueError.initEntry ?_⟩
  refine exc_init_tree (cls := .ref C) (t0 := t2) (dv := none) (c2 := .none) (c3 := .none) (b4 := .bool false) ho2 (by show 1 ≤ sizeLine; rw [sizeLine_eq]; omega) fun h3 k3 e3 e4 => ?_
  have J := I3.write (t' := t + 1 + 1) (x := a) (e := a) (o := exo a C none) (by rw [ea]; exact True.intro) (.inl rfl) k3 ⟨_, e3⟩ (exo_ok e3)
  have eu : upd H a (exo a C none) = H := by
    funext b
    by_cases hb : b = a
    · rw [hb, upd_same, ea]
    · rw [upd_ne hb]
  rw [eu] at J
  exact hq _ J

/-- a class's __init__ that begins with super().__init__('..'): the rest of its body -/
theorem fok_super {P : Program} {w : World} {K : Frag} {mg : Str → Option Value} {base : Heap} {CXt : CXT} {k : Nat} {f cc D : Addr} {N ps : List Str} {F : NdefX.NF} {doc pm ctv : Value} {sp : Sp} {rest : List Stmt} {ar : Arg} {vs0 : Array Value} {file : Str} {tf : Tok}
    {oc ccl cl : Value} {od cdd cld : Option Addr} {osl ccs csl : Array (Option Value)} {cdD : ClassData} {m : Str} {j : Nat} {p0 p1 p2 p3 p4 p5 : Pos} {pl : Sem Bool}
    (S : NdefX.NScope N ps ["__class__"] F.scope) (hF : F.cl = [(("__class__" : Str), cc)]) (hb : F.body = .Expr (.Call (.Attribute (.Call (.Name "super" p0) [] [] p1) "__init__" p2) [.Constant (.str m) j p3] [] p4) p5 :: rest)
    (hks : F.scope.names.lookup ("super" : Str) = some .globalImplicit) (kf : K.lookup f = some ⟨oc, od, .func (F.fd doc pm ctv), osl⟩) (hp : (F.params.posonlyargs ++ F.params.args).head? = some ar) (hN : N[0]? = some ar.arg) (hl : F.scope.names.lookup ar.arg = some .local)
    (kcell : K.lookup cc = some ⟨cl, cld, .cell (some (.ref D)), csl⟩) (kcode : K.lookup F.c = some ⟨ccl, cdd, .fields vs0, ccs⟩) (hvs : vs0[2]? = some (.str file tf)) (hcd : codeIn K (.ref F.c) F.qual = true) (hfile : ((P.main.file : Str) == file) = true)
    (kD : clsIn K D = some cdD) (hsup : mg "super" = none) (htop : (P.main.scope.names.lookup ("super" : Str)).isSome = false) (hst : nsIn K cStatics "thirdparty.any" = some none)
    (he : ∀ env : Env, eval (.Call (.Attribute (.Call (.Name "super" p0) [] [] p1) "__init__" p2) [.Constant (.str m) j p3] [] p4) env = (do
      let ov ← attributeBase (.Call (.Name "super" p0) [] [] p1) "__init__" env (eval (.Call (.Name "super" p0) [] [] p1) env)
      standAt p2.atName
      let (f, first) ← holding [ov] (getMethod ov "__init__" pl)
      callWith p4 f first (backTo p4 (starEach [.Constant (.str m) j p3] env)) []))
    (len : ∀ vs H Q E, sp vs H Q E → vs.length = ps.length)
    (walk : ∀ (A : Around) (outer : List Env) (s : Shared) (H : Hp) (vs : List V) (Q : VK) (E : XK), Room k (A.deeper (NdefX.envF F f s.heap.objs.size)) → sp vs H Q E →
      ∃ a C cdC, vs[0]? = some (.ref a) ∧ H a = some (exo a C none) ∧ OexC K C ∧ clsIn K C = some cdC ∧ mroIn K C (.ref D) = some true ∧ ks_superIn K C D "__init__" = some (some (.builtin "ValueError.__init__")) ∧ subIn K (.ref C) (.type "ValueError") = some true ∧
        ∃ t, PSs (NdefX.ncx CXt P w K mg base N F f A outer s H E) rest t ∧ t { nx := fun _ H' => Q .non H', rt := Q } (NdefX.startF N vs [some (.ref D)]) H) :
    FnOk P w K mg base CXt (k + 1) f (F.fd doc pm ctv) ps sp := by
  refine ⟨len, fun A outer s H args us vs Q E hr e0 hbind r hsp => ?_⟩
  have hlen := len _ _ _ _ hsp
  have kin : K.In s.heap := fun a o e => (e0.bs a o (e0.mod.kin a o e)).1
  have lim : s.heap.NoLimit := e0.mod.nolimit.keeps fun b o e => (e0.bs b o e).1
  have hc0 : H cc = none := (e0.bs cc _ (e0.mod.kin _ _ kcell)).2
  have cls1 : ∀ y c, F.cl.lookup y = some c → y = ("__class__" : Str) ∧ c = cc := fun y c e => by
    rw [hF, List.lookup_cons] at e
    split at e
    · rename_i z
      cases e
      exact ⟨by simpa using z, rfl⟩
    · cases e
  have C0 : NdefX.CellsAt F.cl ["__class__"] [some (.ref D)] s.heap H := by
    refine ⟨rfl, fun y c e => ?_, fun x y c e1 e2 => ?_, fun i y e => ?_⟩
    · obtain ⟨_, rfl⟩ := cls1 y c e
      exact ⟨hc0, _, _, kin _ _ kcell, rfl⟩
    · rw [(cls1 x c e1).1, (cls1 y c e2).1]
    · cases i with
      | zero =>
        cases (Option.some.inj e)
        refine ⟨cc, by rw [hF]; rfl, fun v hv => ?_⟩
        cases hv
        exact ⟨.ref D, rfl, _, kin _ _ kcell, rfl⟩
      | succ i => cases e
  refine ks_codeAny_call_defAt (fd := F.fd doc pm ctv) hr.depth (kin _ _ kf) rfl lim (codeRec_of kin hcd) rfl hbind S.nocell (fun ⟨n, _⟩ hy => S.par n (List.of_mem_zip hy).1) (fun h₁ hns kp => ?_) S.co S.gen S.kind
  obtain ⟨a, C, cdC, v0, ea, T, kC, hsub, hin, hB, t, ht, hq⟩ := walk A outer s H vs Q E (hr.deeper _) hsp
  have I : Inv (NdefX.ncx CXt P w K mg base N F f A outer s H E) [] (NdefX.startF N vs [some (.ref D)]) H { s with heap := h₁, toks := s.toks + (ps.zip us).length } := NdefX.inv_startN S hr.hd e0 hlen r C0 hns kp
  have h0 : (NdefX.startF N vs [some (V.ref D)])[0]? = some (some (.ref a)) := by
    unfold NdefX.startF
    have : 0 < vs.length := (List.getElem?_eq_some_iff.mp v0).1
    rw [List.getElem?_append_left (by rw [List.length_map]; exact this), List.getElem?_map, v0]
    rfl
  show _root_.PySem.wpAt (model P w) (A.deeper (NdefX.envF F f s.heap.objs.size)) (.func F.body (NdefX.envF F f s.heap.objs.size)) (execs F.body (NdefX.envF F f s.heap.objs.size)) _ _ _
  have fin : ∀ {s' : Shared} {σ' : L2.St} {H' : Hp} {v : V} {u : Value}, Inv (NdefX.ncx CXt P w K mg base N F f A outer s H E) [] σ' H' s' → L2.RelV v u → Q v H' → CE outer P w H s Q u s' :=
    fun {s' σ' H' v u} J rv q => ⟨v, H', J.os, J.bare, J.base, J.hok, rv, q⟩
  rw [show execs F.body (NdefX.envF F f s.heap.objs.size) = execs (_ :: rest) (NdefX.envF F f s.heap.objs.size) from congrArg (fun b => execs b _) hb]
  refine ks_wpAt_execs_cons ?_
  refine super_init (X := NdefX.ncx CXt P w K mg base N F f A outer s H E) (a := a) (C := C) I rfl rfl hks (S.frk _ (by simp)) (by show F.cl.lookup _ = _; rw [hF]; rfl) kf hp hN hl h0 kcell kcode hvs hfile kD kC hsub hsup htop hst hin hB T ea (fun s' I' => ?_) (he _)
  refine _root_.PySem.wpAt_of_wpAny (wpAny_mono (ht.run [] _ _ H _ I' hq) (fun fl s' hs => ?_) fun e s' hs => hs)
  cases fl with
  | ret u =>
    obtain ⟨v, σ', H', J, rv, q⟩ := hs
    exact fin J rv q
  | next =>
    obtain ⟨σ', H', J, q⟩ := hs
    exact fin (v := V.non) (u := Value.none) J rfl q
  | brk =>
    obtain ⟨_, _, _, q⟩ := hs
    exact False.elim q
  | cont =>
    obtain ⟨_, _, _, q⟩ := hs
    exact False.elim q
end G

/-! E2: exceptions of one and of two attributes: their __init__, raising them. -/
namespace G
open PySem PySem.Spec PyProof.Rows L2 PySem.W
/-- what __init__ of one attribute promises -/
def spX1 (C : Addr) (f1 : Str) : Sp := fun vs H Q _ => ∃ a v, vs = [.ref a, v] ∧ H a = some (exo a C none) ∧ ∀ d, H d = none → d ≠ a → Q .non (upd (upd H d (exd d [(f1, v)])) a (exo a C (some d)))
def spX2 (C : Addr) (f1 f2 : Str) : Sp := fun vs H Q _ => ∃ a v1 v2, vs = [.ref a, v1, v2] ∧ H a = some (exo a C none) ∧ ∀ d, H d = none → d ≠ a → Q .non (upd (upd (upd H d (exd d [(f1, v1)])) a (exo a C (some d))) d (exd d [(f2, v2), (f1, v1)]))
/-- what the written part says of such a class -/
structure XCls (K : Frag) (D fI : Addr) : Prop where
  T : OexC K D
  cls : ∃ cd, clsIn K D = some cd
  self : mroIn K D (.ref D) = some true
  sup : ks_superIn K D D "__init__" = some (some (.builtin "ValueError.__init__"))
  ve : subIn K (.ref D) (.type "ValueError") = some true
  init : findIn K (.ref D) "__init__" = some (some (.ref fI))
  fn : typeIn K (.ref fI) = some (.type "function")
section
variable {P : Program} {w : World} {K : Frag} {mg : Str → Option Value} {base : Heap} {CXt : CXT} {k : Nat} {f cc D : Addr} {ps : List Str} {F : NdefX.NF} {doc pm ctv : Value} {ar : Arg} {vs0 : Array Value} {file : Str} {tf : Tok}
    {oc ccl cl : Value} {od cdd cld : Option Addr} {osl ccs csl : Array (Option Value)} {m : Str} {j : Nat} {p0 p1 p2 p3 p4 p5 q1 q2 q3 q4 r1 r2 r3 r4 : Pos} {pl : Sem Bool} {f1 f2 x1 x2 : Str}
theorem fok_exc1 (S : NdefX.NScope [ar.arg, x1, "__class__"] [ar.arg, x1] ["__class__"] F.scope) (hF : F.cl = [(("__class__" : Str), cc)])
    (hb : F.body = [.Expr (.Call (.Attribute (.Call (.Name "super" p0) [] [] p1) "__init__" p2) [.Constant (.str m) j p3] [] p4) p5, .Assign [.Attribute (.Name ar.arg q1) f1 q2] (.Name x1 q3) q4])
    (hd1 : (ar.arg == ("__debug__" : Str)) = false) (hc1 : (ar.arg == ("__classdict__" : Str)) = false) (hd2 : (x1 == ("__debug__" : Str)) = false) (hc2 : (x1 == ("__classdict__" : Str)) = false)
    (hks : F.scope.names.lookup ("super" : Str) = some .globalImplicit) (kf : K.lookup f = some ⟨oc, od, .func (F.fd doc pm ctv), osl⟩) (hp : (F.params.posonlyargs ++ F.params.args).head? = some ar)
    (kcell : K.lookup cc = some ⟨cl, cld, .cell (some (.ref D)), csl⟩) (kcode : K.lookup F.c = some ⟨ccl, cdd, .fields vs0, ccs⟩) (hvs : vs0[2]? = some (.str file tf)) (hcd : codeIn K (.ref F.c) F.qual = true) (hfile : ((P.main.file : Str) == file) = true)
    (X : XCls K D f) (hno : findIn K (.ref D) f1 = some none) (hsup : mg "super" = none) (htop : (P.main.scope.names.lookup ("super" : Str)).isSome = false) (hst : nsIn K cStatics "thirdparty.any" = some none)
    (he : ∀ env : Env, eval (.Call (.Attribute (.Call (.Name "super" p0) [] [] p1) "__init__" p2) [.Constant (.str m) j p3] [] p4) env = (do
      let ov ← attributeBase (.Call (.Name "super" p0) [] [] p1) "__init__" env (eval (.Call (.Name "super" p0) [] [] p1) env)
      standAt p2.atName
      let (f, first) ← holding [ov] (getMethod ov "__init__" pl)
      callWith p4 f first (backTo p4 (starEach [.Constant (.str m) j p3] env)) [])) :
    FnOk P w K mg base CXt (k + 1) f (F.fd doc pm ctv) [ar.arg, x1] (spX1 D f1) := by
  obtain ⟨cdD, kD⟩ := X.cls
  refine fok_super (N := [ar.arg, x1, "__class__"]) (rest := _) S hF hb hks kf hp rfl (S.par _ (by simp)) kcell kcode hvs hcd hfile kD hsup htop hst he (fun vs H Q E ⟨a, v, e, _⟩ => by rw [e]; rfl) (fun A outer s H vs Q E hr ⟨a, v, e, ea, q⟩ => ?_)
  subst e
  refine ⟨a, D, cdD, rfl, ea, X.T, kD, X.self, X.sup, X.ve, _, pss_one (ps_ost (pe_var (i := 0) rfl (.inl (S.par _ (by simp))) hd1 hc1) (pe_var (i := 1) rfl (.inl (S.par _ (by simp))) hd2 hc2) rfl), ?_⟩
  exact ⟨v, rfl, .ref a, rfl, a, D, rfl, X.T, hno, .inl ⟨ea, fun dx n ne => q dx n ne⟩⟩
theorem fok_exc2 (S : NdefX.NScope [ar.arg, x1, x2, "__class__"] [ar.arg, x1, x2] ["__class__"] F.scope) (hF : F.cl = [(("__class__" : Str), cc)])
    (hb : F.body = [.Expr (.Call (.Attribute (.Call (.Name "super" p0) [] [] p1) "__init__" p2) [.Constant (.str m) j p3] [] p4) p5, .Assign [.Attribute (.Name ar.arg q1) f1 q2] (.Name x1 q3) q4, .Assign [.Attribute (.Name ar.arg r1) f2 r2] (.Name x2 r3) r4])
    (hd1 : (ar.arg == ("__debug__" : Str)) = false) (hc1 : (ar.arg == ("__classdict__" : Str)) = false) (hd2 : (x1 == ("__debug__" : Str)) = false) (hc2 : (x1 == ("__classdict__" : Str)) = false) (hd3 : (x2 == ("__debug__" : Str)) = false) (hc3 : (x2 == ("__classdict__" : Str)) = false)
    (hks : F.scope.names.lookup ("super" : Str) = some .globalImplicit) (kf : K.lookup f = some ⟨oc, od, .func (F.fd doc pm ctv), osl⟩) (hp : (F.params.posonlyargs ++ F.params.args).head? = some ar)
    (kcell : K.lookup cc = some ⟨cl, cld, .cell (some (.ref D)), csl⟩) (kcode : K.lookup F.c = some ⟨ccl, cdd, .fields vs0, ccs⟩) (hvs : vs0[2]? = some (.str file tf)) (hcd : codeIn K (.ref F.c) F.qual = true) (hfile : ((P.main.file : Str) == file) = true)
    (X : XCls K D f) (hno : findIn K (.ref D) f1 = some none) (hno2 : findIn K (.ref D) f2 = some none) (hsup : mg "super" = none) (htop : (P.main.scope.names.lookup ("super" : Str)).isSome = false) (hst : nsIn K cStatics "thirdparty.any" = some none)
    (he : ∀ env : Env, eval (.Call (.Attribute (.Call (.Name "super" p0) [] [] p1) "__init__" p2) [.Constant (.str m) j p3] [] p4) env = (do
      let ov ← attributeBase (.Call (.Name "super" p0) [] [] p1) "__init__" env (eval (.Call (.Name "super" p0) [] [] p1) env)
      standAt p2.atName
      let (f, first) ← holding [ov] (getMethod ov "__init__" pl)
      callWith p4 f first (backTo p4 (starEach [.Constant (.str m) j p3] env)) [])) :
    FnOk P w K mg base CXt (k + 1) f (F.fd doc pm ctv) [ar.arg, x1, x2] (spX2 D f1 f2) := by
  obtain ⟨cdD, kD⟩ := X.cls
  refine fok_super (N := [ar.arg, x1, x2, "__class__"]) (rest := _) S hF hb hks kf hp rfl (S.par _ (by simp)) kcell kcode hvs hcd hfile kD hsup htop hst he (fun vs H Q E ⟨a, v1, v2, e, _⟩ => by rw [e]; rfl) (fun A outer s H vs Q E hr ⟨a, v1, v2, e, ea, q⟩ => ?_)
  subst e
  refine ⟨a, D, cdD, rfl, ea, X.T, kD, X.self, X.sup, X.ve, _, pss_cons (ps_ost (pe_var (i := 0) rfl (.inl (S.par _ (by simp))) hd1 hc1) (pe_var (i := 1) rfl (.inl (S.par _ (by simp))) hd2 hc2) rfl) (pss_one (ps_ost (pe_var (i := 0) rfl (.inl (S.par _ (by simp))) hd1 hc1) (pe_var (i := 2) rfl (.inl (S.par _ (by simp))) hd3 hc3) rfl)), ?_⟩
  refine ⟨v1, rfl, .ref a, rfl, a, D, rfl, X.T, hno, .inl ⟨ea, fun dx n ne => ?_⟩⟩
  refine ⟨v2, rfl, .ref a, rfl, a, D, rfl, X.T, hno2, .inr ⟨dx, [(f1, v1)], upd_same, ?_, by show 1 ≤ 900; omega, q dx n ne⟩⟩
  rw [upd_ne ne, upd_same]
end
/-! raising -/
section
variable {Y : YC} {Γ : List Cell} {k : Ks} {te t1 t2 : TE} {Cx : Addr} {f1 f2 : Str} {Wt : WX}
theorem z_raise1 (hE : Y.E = WE Wt) (h : R Y te Γ dInt fun n => Y.kx ⟨Cx, some [(f1, .int n)]⟩ Γ) : Z Y (fun _ σ H => tMkO Cx (spX1 Cx f1) [] (tCons te tNil) σ H fun cls d H' => Wt cls d σ H') Γ k := fun e F σ H D hM s c => h e F σ H s _ fun v F1 H1 n kn g r => by
  cases (show v = .int n from r)
  refine ⟨by show 1 ≤ 1000; omega, fun a ha => ⟨a, .int n, rfl, upd_same, fun d hd hda => ⟨rfl, d, [(f1, .int n)], upd_same, by rw [upd_ne hda, upd_same], ?_, ?_⟩⟩⟩
  · rw [upd_ne hda] at hd
    exact hd
  · rw [upd_ne hda] at hd
    have e1 : upd (del (upd (upd (upd H1 a (exo a Cx none)) d (exd d [(f1, .int n)])) a (exo a Cx (some d))) a) d (.xd [(f1, .int n)]) = upd H1 d (.xd [(f1, .int n)]) := by
      funext b
      by_cases hb : b = d
      · subst hb; rw [upd_same, upd_same]
      · rw [upd_ne hb, upd_ne hb]
        by_cases hb2 : b = a
        · subst hb2; rw [del_same, ha]
        · rw [del_ne hb2, upd_ne hb2, upd_ne hb, upd_ne hb2]
    rw [e1]
    have := s.1 ⟨Cx, some [(f1, .int n)]⟩ (some d) (upd F1 d (.xd [(f1, .int n)])) σ (upd H1 d (.xd [(f1, .int n)])) Γ kn ((s.grow g).grow (g.base.lay hd)).2 ⟨_, rfl, upd_same⟩
    rw [hE] at this
    exact this
theorem z_raise2 (hE : Y.E = WE Wt) (h : R Y t1 Γ dInt fun n1 => R Y t2 Γ dInt fun n2 => Y.kx ⟨Cx, some [(f2, .int n2), (f1, .int n1)]⟩ Γ) : Z Y (fun _ σ H => tMkO Cx (spX2 Cx f1 f2) [] (tCons t1 (tCons t2 tNil)) σ H fun cls d H' => Wt cls d σ H') Γ k := fun e F σ H D hM s c => h e F σ H s _ fun v F1 H1 n h2 g r => h2 e F1 σ H1 (s.grow g) _ fun v2 F2 H2 n2 kn g2 r2 => by
  cases (show v = .int n from r)
  cases (show v2 = .int n2 from r2)
  refine ⟨by show 2 ≤ 1000; omega, fun a ha => ⟨a, .int n, .int n2, rfl, upd_same, fun d hd hda => ⟨rfl, d, [(f2, .int n2), (f1, .int n)], ?_, upd_same, ?_, ?_⟩⟩⟩
  · rw [upd_ne (Ne.symm hda), upd_same]
  · rw [upd_ne hda] at hd
    exact hd
  · rw [upd_ne hda] at hd
    have e1 : upd (del (upd (upd (upd (upd H2 a (exo a Cx none)) d (exd d [(f1, .int n)])) a (exo a Cx (some d))) d (exd d [(f2, .int n2), (f1, .int n)])) a) d (.xd [(f2, .int n2), (f1, .int n)]) = upd H2 d (.xd [(f2, .int n2), (f1, .int n)]) := by
      funext b
      by_cases hb : b = d
      · subst hb; rw [upd_same, upd_same]
      · rw [upd_ne hb, upd_ne hb]
        by_cases hb2 : b = a
        · subst hb2; rw [del_same, ha]
        · rw [del_ne hb2, upd_ne hb, upd_ne hb2, upd_ne hb, upd_ne hb2]
    rw [e1]
    have := s.1 ⟨Cx, some [(f2, .int n2), (f1, .int n)]⟩ (some d) (upd F2 d (.xd [(f2, .int n2), (f1, .int n)])) σ (upd H2 d (.xd [(f2, .int n2), (f1, .int n)])) Γ kn (((s.grow g).grow g2).grow (g2.base.lay hd)).2 ⟨_, rfl, upd_same⟩
    rw [hE] at this
    exact this
end
end G

/-! E3: try .. except X as n; isinstance of what was caught; its attributes. -/
namespace G
open PySem PySem.Spec PyProof.Rows L2 PySem.W
/-- the caught exception at a, its dict d -/
@[reducible] def dExn (a : Addr) (d : Option Addr) : Dat Exn where
  rep _ F v x := v = .ref a ∧ x.at F d
  mono := fun {C F F' v x} s ⟨e, h⟩ => ⟨e, by
    cases d with
    | none => exact h
    | some dd => obtain ⟨fs, e1, e2⟩ := h; exact ⟨fs, e1, s _ _ e2⟩⟩
/-- isinstance(e, c), e the exception that the suite holds -/
def rIsX (K : Frag) (a : Addr) (cls : Value) (d : Option Addr) : List V → Hp → VK → Prop := fun xs H Q => ∃ (D : Addr) (c : V) (cv : Value) (b : Bool), cls = .ref D ∧ ExcC K D ∧ xs = [.ref a, c] ∧ (∀ u, RelV c u → u = cv) ∧ kitOne K (.ref D) cv = some b ∧
  (∀ dd, d = some dd → ∃ fs, H dd = some (.xd fs)) ∧ Q (.bl b) H
theorem call_isX {X : Cx} {a : Addr} {cls : Value} {d : Option Addr} {oe : Obj} {pn : List (Addr × Obj)} (hz : Zc cls d oe) (hf : ∃ vs, oe.data = .fields vs) : CallR (X.suite a ((a, oe) :: pn)) (.builtin "isinstance") (rIsX X.K a cls d) := by
  intro pins s σ H xs us Q I r h
  obtain ⟨D, c, cv, b, rfl, C, rfl, hcv, e, hd, q⟩ := h
  cases r with
  | cons rx rr =>
    cases rr with
    | cons rt rr =>
      cases rr
      cases rx
      have ec := hcv _ rt
      subst ec
      obtain ⟨hget, _⟩ := I.pin (a, oe) (List.mem_append.mpr (.inl List.mem_cons_self))
      obtain ⟨vs, hv⟩ := hf
      obtain ⟨od, J⟩ : ∃ od, InstAt s.heap a oe D od := by
        obtain ⟨oc, odt, oda, osl⟩ := oe
        obtain ⟨h1, h2⟩ := hz
        dsimp only at h1 h2 hv
        subst h1 h2 hv
        cases odt with
        | none => exact ⟨none, hget, rfl, rfl, trivial⟩
        | some dd =>
          obtain ⟨fs, hfs⟩ := hd dd rfl
          have ok : ObjOk X.prog X.w H s.heap dd (.xd fs) := I.hok dd _ hfs
          obtain ⟨mA, ⟨o, es, ep, ho, _⟩, _⟩ := ok
          exact ⟨some o, hget, rfl, rfl, ho⟩
      have hcl : (clsIn X.K D).isSome = true := by obtain ⟨cd, hc, _⟩ := any_some C.hd; rw [hc]; rfl
      exact kia_one (kitx_exc hcl C.hg C.hk C.hs C.ha C.hn C.ht C.hm) I.kIn J e (fun z => nomatch z) fun tk => ⟨.bl b, H, I.kept (t' := tk) fun _ _ z => z, rfl, q⟩
section
variable {Y : YC} {Γ : List Cell} {k : Ks} {te : TE} {a Cx : Addr} {d : Option Addr} {x : Exn} {i : Nat}
theorem w_isX {cls : Value} {c : V} {cv : Value} {b : Bool} {kx : Bool → Prop} (hi : Γ[i]? = some (.val (dExn a d) x)) (hc : cls = .ref x.cls) (C : ExcC Y.K x.cls) (hv : ∀ u, RelV c u → u = cv) (hk : kitOne Y.K (.ref x.cls) cv = some b) (h : kx b) :
    W Y (tCB (rIsX Y.K a cls d) (tCons (tVar i) (tCons (tC c) tNil))) Γ dBool kx := fun e F σ H s Q q => by
  obtain ⟨v, e1, e2, r⟩ := s.val hi
  subst e2
  refine ⟨.ref a, e1, x.cls, c, cv, b, hc, C, rfl, hv, hk, fun dd hd => ?_, q _ F H b h s.base rfl⟩
  subst hd
  obtain ⟨fs, _, e3⟩ := r
  exact ⟨fs, s.fh _ _ e3⟩
theorem w_xf {cls : Value} {f : Str} {n : Int} {fs : List (Str × V)} {kx : Int → Prop} (hi : Γ[i]? = some (.val (dExn a d) x)) (hc : cls = .ref x.cls) (hx : x.cls = Cx) (hf : x.fs = some fs) (hl : fs.lookup f = some (.int n)) (h : kx n) :
    W Y (tXf a cls d Cx f (tVar i)) Γ dInt kx := fun e F σ H s Q q => by
  obtain ⟨v, e1, e2, r⟩ := s.val hi
  subst e2
  refine ⟨.ref a, e1, rfl, by rw [hc, hx], ?_⟩
  cases d with
  | none => rw [show x.fs = none from r] at hf; cases hf
  | some dd =>
    obtain ⟨fs', e3, e4⟩ := r
    rw [hf] at e3
    cases e3
    exact ⟨dd, fs, .int n, rfl, s.fh _ _ e4, hl, q _ F H n h s.base rfl⟩
theorem State.noAt {e : En} {F : Hp} {σ : L2.St} {H : Hp} (s : State Y e F σ H Γ) (i : Nat) : State Y e F (σ.set i none) H (Γ.set i .no) := by
  cases q : Γ[i]? with
  | some c => exact s.forget q
  | none =>
    have h1 : Γ.length ≤ i := List.getElem?_eq_none_iff.mp q
    have h2 : σ.length ≤ i := by rw [s.len]; exact h1
    rw [List.set_eq_of_length_le h1, List.set_eq_of_length_le h2]
    exact s
theorem Cont.at {e : En} {D : Ends} {E : L2.St → XK} {kb : Exn → List Cell → Prop} (hx : XOk Y e) (c : Cont Y e k D) : Cont ⟨Y.g, E, kb⟩ e k D :=
  ⟨fun F σ H Γ q s => c.nx F σ H Γ q ⟨hx, s.2⟩, c.rt, fun F σ H Γ q s => c.bk F σ H Γ q ⟨hx, s.2⟩, fun F σ H Γ q s => c.ct F σ H Γ q ⟨hx, s.2⟩⟩
/-- try: body; except c as the name at i: suite -/
theorem z_tryAs {tb : WX → TS} {ts : Addr → Value → Option Addr → TS} {c : Value} {Wout : WX} (kb : Exn → List Cell → Prop) (hE : Y.E = WE Wout) (hb : ∀ W : WX, Z ⟨Y.g, WE W, kb⟩ (tb W) Γ k)
    (hx : ∀ x Γ', kb x Γ' → ∃ b, exmOne Y.K (.ref x.cls) c = some b ∧
      (b = true → (∃ c0, Γ'[i]? = some c0) ∧ ∀ a d, Z Y (ts a (.ref x.cls) d) (Γ'.set i (.val (dExn a d) x)) { nx := fun Γ2 => k.nx (Γ2.set i .no), rt := k.rt, bk := fun Γ2 => k.bk (Γ2.set i .no), ct := fun Γ2 => k.ct (Γ2.set i .no) }) ∧ (b = false → Y.kx x Γ')) :
    Z Y (fun D σ H => tb (wAs Y.K c i ts Wout D) D σ H) Γ k := fun e F σ H D hM s ct => by
  refine hb _ e F σ H D hM ⟨fun x d F' σ' H' Γ' kbx st hd => ?_, s.2⟩ (ct.at s.1)
  obtain ⟨b, hm, h1, h2⟩ := hx x Γ' kbx
  refine ⟨b, hm, fun hb1 a ha => ?_, fun hb0 => ?_⟩
  · obtain ⟨⟨c0, hi⟩, hz⟩ := h1 hb1
    have st1 : State Y e F' σ' H' Γ' := ⟨s.1, st⟩
    refine hz a d e F' _ H' _ hM (st1.set (c' := .val (dExn a d) x) (L' := []) hi st1.base ⟨rfl, _, rfl, rfl, hd⟩) ⟨fun F3 σ3 H3 Γ3 q s3 => ct.nx F3 _ H3 _ q (s3.noAt i), ct.rt, fun F3 σ3 H3 Γ3 q s3 => ct.bk F3 _ H3 _ q (s3.noAt i), fun F3 σ3 H3 Γ3 q s3 => ct.ct F3 _ H3 _ q (s3.noAt i)⟩
  · have := s.1 x d F' σ' H' Γ' (h2 hb0) st hd
    rw [hE] at this
    exact this
end
end G

/-! E4: instances of own classes. -/
namespace G
open PySem PySem.Spec PyProof.Rows L2 PySem.W
/-! calls that may raise, within a try -/
section
variable {X : Cx} {CXt : CXT} {k : Nat} {f C : Addr} {fd : FuncData} {ps : List Str} {sp : Sp} {E : L2.St → XK} {x m : Str} {p pos apos : Pos} {e o : Expr} {es : List Expr} {ta : TE} {t : TA}
def tMakeS (C : Addr) (sp : Sp) (E : L2.St → XK) (t : TA) : TE := fun σ H Q => t σ H fun vs H1 => ∀ x dx, H1 x = none → H1 dx = none → dx ≠ x → sp (.ref x :: vs) (upd (upd H1 dx (.own x)) x (.ins C dx [])) (fun v H2 => v = .non ∧ Q (.ref x) H2) (E σ)
theorem run_makeS {pins : List (Addr × Obj)} {σ : L2.St} {H : Hp} {s : Shared} {Q : VK} {us : List Value} {vs : List V} {E : XK} (M : Mk X.K C f) (F : FnOk X.prog X.w X.K X.mg X.base CXt k f fd ps sp) (hr : Room (k + 1) X.A) (hb : Binds X.K fd ps [])
    (hx : PassesAt CXt X σ E) (I : Inv X pins σ H s) (r : Vals vs us)
    (h : ∀ x dx, H x = none → H dx = none → dx ≠ x → sp (.ref x :: vs) (upd (upd H dx (.own x)) x (.ins C dx [])) (fun v H2 => v = .non ∧ Q (.ref x) H2) E) :
    wpAny (model X.prog X.w) X.A (call (.ref C) us) (EP X pins σ Q) X.xe s := by
  have hq := h (s.heap.objs.size + 1) s.heap.objs.size (I.hok.fresh (Nat.le_succ _)) (I.hok.fresh (Nat.le_refl _)) (Nat.ne_of_lt (Nat.lt_succ_self _))
  have I2 := Inv.made (C := C) I
  have r2 : Vals (V.ref (s.heap.objs.size + 1) :: vs) (Value.ref (s.heap.objs.size + 1) :: us) := .cons rfl r
  have hl : (Value.ref (s.heap.objs.size + 1) :: us).length = ps.length := by
    have e := r2.length
    rw [F.len _ _ _ _ hq] at e
    exact e.symm
  have hb2 := hb _ (Value.ref (s.heap.objs.size + 1) :: us) I2.kIn (by rw [List.append_nil]; exact hl)
  rw [List.append_nil] at hb2
  refine wpAny_call (make_map (f := f) I.kIn M.makes M.init (beq_iff_eq.mp M.fn) (codeAny_mono (F.run _ X.stack _ _ ⟨Value.ref (s.heap.objs.size + 1) :: us, []⟩ (Value.ref (s.heap.objs.size + 1) :: us) _ _ E (hr.make C us [])
    (I2.env0.make C us []) hb2 r2 hq) fun r s' hq' => ?_))
  cases r with
  | error e => exact hx pins _ _ e s' I2 hq'
  | ok fl =>
    cases fl with
    | ret u =>
      obtain ⟨v, H', J, rv, ev, q⟩ := I2.after hq'
      subst ev
      exact ⟨rv, .ref (s.heap.objs.size + 1), H', J, rfl, q⟩
    | next => exact False.elim hq'
    | brk => exact False.elim hq'
    | cont => exact False.elim hq'
theorem pe_makeS (M : Mk X.K C f) (F : FnOk X.prog X.w X.K X.mg X.base CXt k f fd ps sp) (hr : Room (k + 1) X.A) (hg : Gl X x) (hm : X.mg x = some (.ref C)) (hb : Binds X.K fd ps []) (hx : ∀ σ, PassesAt CXt X σ (E σ))
    (ha : PA X (e :: es) t) (hdb : (x == ("__debug__" : Str)) = false := by decide) (he : starEach (e :: es) X.env = (false, eval e X.env) :: starEach es X.env := by rfl) (hpl : (backTo pos (starEach es X.env)).any (·.1) = false := by rfl) :
    PE X (.Call (.Name x p) (e :: es) [] pos) (tMakeS C sp E t) := by
  refine ⟨fun pins s σ H Q I h => ?_⟩
  refine wpAny_Call_Name_kw (ld_glob I hg hm ?_ hdb)
  refine PySem.W.callWith_K (h₀ := X.base) I.ok.mod.kin M.kp (thn (ha.run pos pins s σ H _ I h) fun us s1 ⟨vs, H1, I1, r, q⟩ => ⟨I1.kIn, ?_⟩) he hpl
  exact run_makeS M F hr hb (hx σ) I1 r q
end
/-! data -/
structure Ob1 (α : Type) where
  a : α
  deriving DecidableEq
structure Ob2 (α β : Type) where
  a : α
  b : β
  deriving DecidableEq
section
variable {α β : Type} [d1 : Dat α] [d2 : Dat β] (C0 : Addr) (f1 f2 : Str)
@[reducible] def dOb1 : Dat (Ob1 α) := ⟨fun C F v x => ∃ p dx v1, v = .ref p ∧ F p = some (.ins C0 dx [(f1, v1)]) ∧ d1.rep C F v1 x.a, fun s ⟨p, dx, v1, e, h, r1⟩ => ⟨p, dx, v1, e, s _ _ h, d1.mono s r1⟩⟩
@[reducible] def dOb2 : Dat (Ob2 α β) := ⟨fun C F v x => ∃ p dx v1 v2, v = .ref p ∧ F p = some (.ins C0 dx [(f1, v1), (f2, v2)]) ∧ d1.rep C F v1 x.a ∧ d2.rep C F v2 x.b,
  fun s ⟨p, dx, v1, v2, e, h, r1, r2⟩ => ⟨p, dx, v1, v2, e, s _ _ h, d1.mono s r1, d2.mono s r2⟩⟩
@[reducible] def oOb1 : @OD (Ob1 α) (dOb1 C0 f1) := @OD.mk (Ob1 α) (dOb1 C0 f1)
  (fun C F v x L => ∃ p dx v1, v = .ref p ∧ L = [(p, .ins C0 dx [(f1, v1)])] ∧ d1.rep C F v1 x.a)
  (fun s ⟨p, dx, v1, e, h, r1⟩ => ⟨p, dx, v1, e, h, d1.mono s r1⟩)
  (fun ⟨p, dx, v1, e, h, r1⟩ s k => ⟨p, dx, v1, e, k (p, .ins C0 dx [(f1, v1)]) (by rw [h]; exact List.mem_cons_self), d1.mono s r1⟩)
@[reducible] def oOb2 : @OD (Ob2 α β) (dOb2 C0 f1 f2) := @OD.mk (Ob2 α β) (dOb2 C0 f1 f2)
  (fun C F v x L => ∃ p dx v1 v2, v = .ref p ∧ L = [(p, .ins C0 dx [(f1, v1), (f2, v2)])] ∧ d1.rep C F v1 x.a ∧ d2.rep C F v2 x.b)
  (fun s ⟨p, dx, v1, v2, e, h, r1, r2⟩ => ⟨p, dx, v1, v2, e, h, d1.mono s r1, d2.mono s r2⟩)
  (fun ⟨p, dx, v1, v2, e, h, r1, r2⟩ s k => ⟨p, dx, v1, v2, e, k (p, .ins C0 dx [(f1, v1), (f2, v2)]) (by rw [h]; exact List.mem_cons_self), d1.mono s r1, d2.mono s r2⟩)
end
/-- an instance without attributes yet -/
structure Ob0 where
  u : Unit
@[reducible] def dOb0 (C0 : Addr) : Dat Ob0 := ⟨fun _ F v _ => ∃ p dx, v = .ref p ∧ F p = some (.ins C0 dx []), fun s ⟨p, dx, e, h⟩ => ⟨p, dx, e, s _ _ h⟩⟩
@[reducible] def oOb0 (C0 : Addr) : @OD Ob0 (dOb0 C0) := @OD.mk Ob0 (dOb0 C0)
  (fun _ _ v _ L => ∃ p dx, v = .ref p ∧ L = [(p, .ins C0 dx [])])
  (fun _ h => h)
  (fun ⟨p, dx, e, h⟩ _ k => ⟨p, dx, e, k (p, .ins C0 dx []) (by rw [h]; exact List.mem_cons_self)⟩)
/-- data that are instances of the class at C0 with these attributes -/
structure IsI {α : Type} (d : Dat α) (C0 : Addr) (ns : List Str) : Prop where
  ins : ∀ {C : GCtx} {F : Hp} {v : V} {x : α}, d.rep C F v x → ∃ p dx fs, v = .ref p ∧ F p = some (.ins C0 dx fs) ∧ ∀ f, f ∉ ns → fs.lookup f = none
/-- its attribute f -/
structure IsF {α β : Type} (d : Dat α) (C0 : Addr) (f : Str) (d2 : Dat β) (g : α → β) : Prop where
  fld : ∀ {C : GCtx} {F : Hp} {v : V} {x : α}, d.rep C F v x → ∃ p dx fs v2, v = .ref p ∧ F p = some (.ins C0 dx fs) ∧ fs.lookup f = some v2 ∧ d2.rep C F v2 (g x)
theorem isI0 {C0 : Addr} : IsI (dOb0 C0) C0 [] := ⟨fun ⟨p, dx, e, h⟩ => ⟨p, dx, [], e, h, fun _ _ => rfl⟩⟩
section
variable {α β : Type} [d1 : Dat α] [d2 : Dat β] {C0 : Addr} {f1 f2 : Str}
theorem isI2 : IsI (dOb2 (α := α) (β := β) C0 f1 f2) C0 [f1, f2] := ⟨fun ⟨p, dx, v1, v2, e, h, _⟩ => ⟨p, dx, _, e, h, fun f hf => by
  rw [List.lookup_cons, beq_eq_false_iff_ne.mpr (fun z => hf (by rw [z]; simp)), List.lookup_cons, beq_eq_false_iff_ne.mpr (fun z => hf (by rw [z]; simp))]; rfl⟩⟩
theorem isF2a : IsF (dOb2 (α := α) (β := β) C0 f1 f2) C0 f1 d1 Ob2.a := ⟨fun ⟨p, dx, v1, v2, e, h, r, _⟩ => ⟨p, dx, _, v1, e, h, by rw [List.lookup_cons, beq_self_eq_true], r⟩⟩
theorem isF2b (hn : (f2 == f1) = false) : IsF (dOb2 (α := α) (β := β) C0 f1 f2) C0 f2 d2 Ob2.b := ⟨fun ⟨p, dx, v1, v2, e, h, _, r⟩ => ⟨p, dx, _, v2, e, h, by rw [List.lookup_cons, hn, List.lookup_cons, beq_self_eq_true], r⟩⟩
end
section
variable {Y : YC} {Γ : List Cell} {k : Ks} {te : TE} {tl : TA} {α β : Type} {d : Dat α} {d2 : Dat β} {C0 : Addr} {f : Str} {ns : List Str}
theorem w_fld {g : α → β} {kx : β → Prop} (hf : IsF d C0 f d2 g) (c : Cls Y.K C0) (n : NoAttr Y.K C0 f) (h : W Y te Γ d fun x => kx (g x)) : W Y (tFld Y.K te f) Γ d2 kx := fun e F σ H s Q q => h e F σ H s _ fun v F' H' x kx' gr r => by
  obtain ⟨p, dx, fs, v2, e1, e2, e3, r2⟩ := hf.fld r
  exact ⟨p, C0, dx, fs, v2, e1, gr.fh _ _ e2, c, n, e3, q v2 F' H' _ kx' gr r2⟩
theorem w_con {kx : Int → Prop} {n : Int} {u : Value} (hf : IsI d C0 ns) (c : Cls Y.K C0) (k0 : Con Y.K C0 f (.int n) u) (hn : f ∉ ns) (h : R Y te Γ d fun _ => kx n) : W Y (tCon Y.K te f) Γ dInt kx := fun e F σ H s Q q => h e F σ H s _ fun v F' H' x kx' gr r => by
  obtain ⟨p, dx, fs, e1, e2, e3⟩ := hf.ins r
  exact ⟨p, C0, dx, fs, .int n, u, e1, e2, c, k0, e3 f hn, q _ F' H' n kx' gr rfl⟩
/-! stores within __init__ -/
theorem z_fld1 {d1 : Dat β} {i : Nat} {pin : Option V} {x : Ob0} (hi : Γ[i]? = some (.own (dOb0 C0) (oOb0 C0) pin x)) (c : Cls Y.K C0) (n : NoAttr Y.K C0 f) (h : W Y te Γ d1 fun y => k.nx (Γ.set i (.own (dOb1 C0 f) (oOb1 C0 f) pin ⟨y⟩))) :
    Z Y (sFld Y.K (tVar i) te f) Γ k := fun e F σ H D hM s ct => h e F σ H s _ fun v F' H' y ky g r => by
  have st := s.grow g
  obtain ⟨L, kw, sl⟩ := st.2
  obtain ⟨o, L1, Li, L2, e1, e2, ⟨v0, rfl, hp, p, dx, rfl, rfl⟩, f2⟩ := sl.get hi
  subst e2
  have hH : H' p = some (.ins C0 dx []) := (kw.ow (p, .ins C0 dx []) (by simp)).2.1
  refine ⟨.ref p, e1, p, C0, dx, [], rfl, hH, c, n, by decide, ct.nx F' σ _ _ ky ⟨s.1, L1 ++ [(p, .ins C0 dx [(f, v)])] ++ L2, ?_, ?_⟩⟩
  · exact (kw.front.put (o' := .ins C0 dx [(f, v)]) (fun _ z => by cases z)).back (Li := [(p, .ins C0 dx [(f, v)])])
  · have q := f2 F' (some (.ref p)) (.own (dOb1 C0 f) (oOb1 C0 f) pin ⟨y⟩) [(p, .ins C0 dx [(f, v)])] (Same.refl _) ⟨.ref p, rfl, hp, p, dx, v, rfl, rfl, r⟩
    have z : σ.set i (some (.ref p)) = σ := by
      apply List.ext_getElem?
      intro j
      by_cases hj : i = j
      · subst hj
        obtain ⟨hlt, hv⟩ := List.getElem?_eq_some_iff.mp e1
        rw [List.getElem?_set_self hlt, e1]
      · rw [List.getElem?_set_ne hj]
    rw [z] at q
    exact q
theorem z_fld2 {α2 : Type} {d1 : Dat β} {dn : Dat α2} {i : Nat} {pin : Option V} {f1 : Str} {x : Ob1 β} (hi : Γ[i]? = some (.own (dOb1 C0 f1) (oOb1 C0 f1) pin x)) (hne : (f1 == f) = false) (c : Cls Y.K C0) (n : NoAttr Y.K C0 f) (h : W Y te Γ dn fun y => k.nx (Γ.set i (.own (dOb2 C0 f1 f) (oOb2 C0 f1 f) pin ⟨x.a, y⟩))) :
    Z Y (sFld Y.K (tVar i) te f) Γ k := fun e F σ H D hM s ct => h e F σ H s _ fun v F' H' y ky g r => by
  have st := s.grow g
  obtain ⟨L, kw, sl⟩ := st.2
  obtain ⟨o, L1, Li, L2, e1, e2, ⟨v0, rfl, hp, p, dx, v1, rfl, rfl, r1⟩, f2⟩ := sl.get hi
  subst e2
  have hH : H' p = some (.ins C0 dx [(f1, v1)]) := (kw.ow (p, .ins C0 dx [(f1, v1)]) (by simp)).2.1
  have hp2 : putF f v [(f1, v1)] = [(f1, v1), (f, v)] := by
    unfold putF
    rw [if_neg (beq_eq_false_iff_ne.mp hne)]
    rfl
  refine ⟨.ref p, e1, p, C0, dx, [(f1, v1)], rfl, hH, c, n, by show 1 < 1000; omega, ?_⟩
  rw [hp2]
  refine ct.nx F' σ _ _ ky ⟨s.1, L1 ++ [(p, .ins C0 dx [(f1, v1), (f, v)])] ++ L2, ?_, ?_⟩
  · exact (kw.front.put (o' := .ins C0 dx [(f1, v1), (f, v)]) (fun _ z => by cases z)).back (Li := [(p, .ins C0 dx [(f1, v1), (f, v)])])
  · have q := f2 F' (some (.ref p)) (.own (dOb2 C0 f1 f) (oOb2 C0 f1 f) pin ⟨x.a, y⟩) [(p, .ins C0 dx [(f1, v1), (f, v)])] (Same.refl _) ⟨.ref p, rfl, hp, p, dx, v1, v, rfl, rfl, r1, r⟩
    have z : σ.set i (some (.ref p)) = σ := by
      apply List.ext_getElem?
      intro j
      by_cases hj : i = j
      · subst hj
        obtain ⟨hlt, hv⟩ := List.getElem?_eq_some_iff.mp e1
        rw [List.getElem?_set_self hlt, e1]
      · rw [List.getElem?_set_ne hj]
    rw [z] at q
    exact q
end
end G

/-! E5: making an instance: __init__ and the call of the class. -/
namespace G
open PySem PySem.Spec PyProof.Rows L2 PySem.W
section
variable {C : GCtx} {Y : YC} {Γ : List Cell} {α : Type} {d : Dat α}
/-- __init__ of the class at C0 over the data Γ: it leaves an instance as post says, or lets an exception out -/
def FnI (C : GCtx) {α : Type} {d : Dat α} (od : OD α) (C0 : Addr) (Γ : List Cell) (post : α → Prop) (xp : Exn → Prop) (vs : List V) (H : Hp) (Q : VK) (E : XK) : Prop :=
  ∃ p dx ws F H1, vs = .ref p :: ws ∧ H1 p = none ∧ H1 dx = none ∧ dx ≠ p ∧ H = upd (upd H1 dx (.own p)) p (.ins C0 dx []) ∧ Gr F H1 F H1 ∧ Slots C F (ws.map some) Γ [] ∧
    (∀ x F' H' L, post x → Wk ⟨F, H1, []⟩ F' L H' → od.orep C F' (.ref p) x L → Q .non H') ∧
    ∀ x d F' H', xp x → Wk ⟨F, H1, []⟩ F' [] H' → x.at F' d → E (.ref x.cls) d H'
theorem FnI.len {od : @OD α d} {C0 : Addr} {post : α → Prop} {xp : Exn → Prop} {vs : List V} {H : Hp} {Q : VK} {E : XK} (h : FnI C od C0 Γ post xp vs H Q E) : vs.length = Γ.length + 1 := by
  obtain ⟨p, dx, ws, F, H1, e, _, _, _, _, _, sl, _⟩ := h
  rw [e, List.length_cons, ← sl.len, List.length_map]
theorem FnI.mono {od : @OD α d} {C0 : Addr} {post post' : α → Prop} {xp xp' : Exn → Prop} {vs : List V} {H : Hp} {Q : VK} {E : XK} (h : FnI C od C0 Γ post xp vs H Q E) (m : ∀ x, post' x → post x) (mx : ∀ x, xp' x → xp x) : FnI C od C0 Γ post' xp' vs H Q E := by
  obtain ⟨p, dx, ws, F, H1, e, a1, a2, a3, a4, a5, sl, q, qx⟩ := h
  exact ⟨p, dx, ws, F, H1, e, a1, a2, a3, a4, a5, sl, fun x F' H' L k => q x F' H' L (m x k), fun x d F' H' k => qx x d F' H' (mx x k)⟩
def SpI (C : GCtx) (sp : Sp) {α : Type} {d : Dat α} (od : OD α) (C0 : Addr) (cs : List Cell) (post : α → Prop) (xp : Exn → Prop) : Prop := ∀ vs H Q E, FnI C od C0 cs post xp vs H Q E → sp vs H Q E
/-- C(..) -/
theorem o_makeS {od : @OD α d} {C0 : Addr} {sp : Sp} {E : L2.St → XK} {tl : TA} {kx : α → Prop} (hE : E = Y.E) (h : WA Y tl Γ fun cs => SpI Y.g sp od C0 cs kx fun x => Y.kx x Γ) : O Y (tMakeS C0 sp E tl) Γ od kx := fun e F σ H s Q q => h e F σ H s _ fun vs F1 H1 cs hc g1 sl => fun p dx hp hdx hne => by
  subst hE
  refine hc _ _ _ _ ⟨p, dx, vs, F1, H1, rfl, hp, hdx, hne, rfl, g1.base, sl, fun x F' H' L kx' g2 r => ⟨rfl, ?_⟩, fun x d F' H' kx' g2 hd => ?_⟩
  · exact q _ F' H' L x kx' (by simpa using g1.trans g2) r
  · exact s.1 x d F' σ H' Γ kx' ((s.grow g1).grow g2).2 hd
/-- THE BODY of an __init__ -/
theorem FnI.body {od : @OD α d} {C0 : Addr} {N : List Str} {post : α → Prop} {xp : Exn → Prop} {vs : List V} {H : Hp} {Q : VK} {E : XK} {t : TS} (h : FnI C od C0 Γ post xp vs H Q E)
    (hz : ∀ p, Z ⟨C, fun _ => E, fun x _ => xp x⟩ t (.own (dOb0 C0) (oOb0 C0) (some (.ref p)) ⟨()⟩ :: (Γ ++ List.replicate (N.length - (Γ.length + 1)) .no)) { nx := fun Γ' => ∃ x, Γ'[0]? = some (.own d od (some (.ref p)) x) ∧ post x, rt := fun _ _ => False, bk := fun _ => False, ct := fun _ => False }) : t { nx := fun _ H' => Q .non H', rt := Q } (L2.start N vs) H := by
  have hl := h.len
  obtain ⟨p, dx, ws, F, H1, e, hp, hdx, hne, eH, g, sl, q, qx⟩ := h
  subst e eH
  have hl2 : ws.length = Γ.length := by simpa using hl
  have k0 : Wk ⟨F, H1, []⟩ (upd F dx (.own p)) [] (upd H1 dx (.own p)) := Wk.lay g hdx
  have k1 : Wk ⟨F, H1, []⟩ (upd F dx (.own p)) [(p, .ins C0 dx [])] (upd (upd H1 dx (.own p)) p (.ins C0 dx [])) := k0.own (by rw [upd_ne (Ne.symm hne)]; exact hp) (fun _ z => by cases z)
  have st : State ⟨C, fun _ => E, fun x _ => xp x⟩ ⟨F, H1, []⟩ (upd F dx (.own p)) (L2.start N (.ref p :: ws)) (upd (upd H1 dx (.own p)) p (.ins C0 dx [])) (.own (dOb0 C0) (oOb0 C0) (some (.ref p)) ⟨()⟩ :: (Γ ++ List.replicate (N.length - (Γ.length + 1)) .no)) := by
    refine ⟨fun x d F' σ' H' Γ' k ⟨L, kw, _⟩ hd => qx x d F' H' k (kw.sub (fun _ z => nomatch z) List.nodup_nil) hd, [(p, .ins C0 dx [])], k1, ?_⟩
    unfold L2.start
    rw [List.length_cons, hl2]
    exact .cons (L := [(p, .ins C0 dx [])]) (L' := []) ⟨.ref p, rfl, fun u z => by cases z; rfl, p, dx, rfl, rfl⟩ (slots_app (sl.mono k1.ff) (slots_pad _))
  refine hz p ⟨F, H1, []⟩ _ (L2.start N (.ref p :: ws)) _ _ rfl st ⟨fun F' σ' H' Γ' hn s' => ?_, fun F' σ' H' Γ' v c L L' z => z.elim, fun _ _ _ _ z => z.elim, fun _ _ _ _ z => z.elim⟩
  obtain ⟨x, hi, px⟩ := hn
  obtain ⟨_, L, kw, sl'⟩ := s'
  obtain ⟨o, L1, Li, L2, e1, e2, ⟨v, rfl, hpin, r⟩, _⟩ := sl'.get hi
  cases hpin _ rfl
  subst e2
  refine q x F' H' Li px (kw.sub (fun p hp => by simp [hp]) ?_) r
  have n1 := kw.front.nd
  rw [List.map_append] at n1
  exact (List.nodup_append.mp n1).1
end
end G

/-! E6: methods, static methods, x in o by an own __contains__. -/
namespace G
open PySem PySem.Spec PyProof.Rows L2 PySem.W
abbrev EF : XK := fun _ _ _ => False
theorem passF {X : Cx} {P : Program} {w : World} : Passes (L2.CX P w) X EF := fun _ _ _ _ _ _ _ c => by
  obtain ⟨_, _, _, _, _, _, _, _, _, _, _, _, h⟩ := c
  exact h.elim
theorem passFS {X : Cx} {P : Program} {w : World} (σ : L2.St) : PassesAt (L2.CX P w) X σ EF := fun _ _ _ _ _ _ c => by
  obtain ⟨_, _, _, _, _, _, _, _, _, _, _, _, h⟩ := c
  exact h.elim
section
variable {X : Cx} {CXt : CXT} {k : Nat} {f C g p : Addr} {mc : Value} {fd : FuncData} {ps : List Str} {sp : Sp} {E : L2.St → XK} {x m : Str} {apos pos : Pos} {e o : Expr} {es : List Expr} {ta : TE} {t : TA} {pl : Sem Bool}
/-- o.m(..) of an instance of the class at C; it may raise -/
def tMethE (C : Addr) (m : Str) (sp : Sp) (E : L2.St → XK) (ta : TE) (t : TA) : TE := fun σ H Q => ta σ H fun x H1 => ∃ a dx fs, x = .ref a ∧ H1 a = some (.ins C dx fs) ∧ fs.lookup m = none ∧ t σ H1 fun vs H2 => sp (x :: vs) H2 Q (E σ)
theorem pe_methE (he : PE X o ta) (c : Cls X.K C) (hm : Meth X.K C m f) (F : FnOk X.prog X.w X.K X.mg X.base CXt k f fd ps sp) (hr : Room k X.A) (hb : Binds X.K fd ps []) (hx : ∀ σ, PassesAt CXt X σ (E σ)) (ha : PA X (e :: es) t)
    (hst : starEach (e :: es) X.env = (false, eval e X.env) :: starEach es X.env := by rfl) (hpl : (backTo pos (starEach es X.env)).any (·.1) = false := by rfl)
    (ht : eval (.Call (.Attribute o m apos) (e :: es) [] pos) X.env = (do
      let ov ← eval o X.env
      standAt apos.atName
      let (f, first) ← holding [ov] (getMethod ov m pl)
      callWith pos f first (backTo pos (starEach (e :: es) X.env)) (backToKw pos (keywordEach [] X.env))) := by rfl) :
    PE X (.Call (.Attribute o m apos) (e :: es) [] pos) (tMethE C m sp E ta t) := by
  refine ⟨fun pins s σ H Q I h => ?_⟩
  refine PySem.W.methodCall_KW (pl := pl) (thn (he.run pins s σ H _ I h) fun u s1 ⟨x, H1, I1, rx, a, dx, fs, ex, ea, l, q⟩ => ?_) ht
  subst ex
  obtain rfl : u = Value.ref a := rx
  refine getmeth_ok I1 ea c hm l ?_
  refine PySem.W.callWith_K (first := [.ref a]) (h₀ := X.base) I.ok.mod.kin hm.kp (thn (ha.run pos pins s1 σ H1 _ I1 q) fun us s2 ⟨vs, H2, I2, r, q2⟩ => ⟨I2.kIn, ?_⟩) hst hpl
  exact run_fnS (us := .ref a :: us) (vs := .ref a :: vs) F hr hb (hx σ) I2 (.cons rfl r) q2
/-- C.m is a static method: its record at p, its def at g -/
structure SMet (K : Frag) (C : Addr) (mc : Value) (m : Str) (p g : Addr) : Prop where
  ty : typeIn K (.ref C) = some mc
  rd : readsIn K C mc = true
  ga : specialIn K (.ref C) "__getattribute__" = some (some (.builtin "type.__getattribute__"))
  at_ : findCls K (.ref C) mc m = some (.get (.builtin "staticmethod.__get__") (.ref p) .none (.ref C))
  rc : ∃ rest, recIn K p "staticmethod" = some (.ref g :: rest)
  kp : keepIn K (.ref g) = true
def tSMethE (C : Addr) (sp : Sp) (E : L2.St → XK) (ta : TE) (t : TA) : TE := fun σ H Q => ta σ H fun x H1 => x = .ref C ∧ t σ H1 fun vs H2 => sp vs H2 Q (E σ)
theorem pe_smethE (he : PE X o ta) (c : SMet X.K C mc m p g) (F : FnOk X.prog X.w X.K X.mg X.base CXt k g fd ps sp) (hr : Room k X.A) (hb : Binds X.K fd ps []) (hx : ∀ σ, PassesAt CXt X σ (E σ)) (ha : PA X (e :: es) t)
    (hst : starEach (e :: es) X.env = (false, eval e X.env) :: starEach es X.env := by rfl) (hpl : (backTo pos (starEach es X.env)).any (·.1) = false := by rfl)
    (ht : eval (.Call (.Attribute o m apos) (e :: es) [] pos) X.env = (do
      let ov ← eval o X.env
      standAt apos.atName
      let (f, first) ← holding [ov] (getMethod ov m pl)
      callWith pos f first (backTo pos (starEach (e :: es) X.env)) (backToKw pos (keywordEach [] X.env))) := by rfl) :
    PE X (.Call (.Attribute o m apos) (e :: es) [] pos) (tSMethE C sp E ta t) := by
  refine ⟨fun pins s σ H Q I h => ?_⟩
  refine PySem.W.methodCall_KW (pl := pl) (thn (he.run pins s σ H _ I h) fun u s1 ⟨x, H1, I1, rx, ex, q⟩ => ?_) ht
  subst ex
  obtain rfl : u = Value.ref C := rx
  obtain ⟨mm, fr⟩ := I1.fr
  obtain ⟨rest, hrec⟩ := c.rc
  refine method_of_cls fr I1.ok.mod.kin c.ga (cls_sm fr I1.ok.mod.kin c.ty c.rd c.at_ hrec rfl ?_)
  refine PySem.W.callWith_K (first := []) (h₀ := X.base) I.ok.mod.kin c.kp (thn (ha.run pos pins _ σ H1 _ (I1.tok _) q) fun us s2 ⟨vs, H2, I2, r, q2⟩ => ⟨I2.kIn, ?_⟩) hst hpl
  exact run_fnS F hr hb (hx σ) I2 r q2
/-- x in o by the class's own __contains__ (a def that raises nothing) -/
def rInO (C : Addr) (sp : Sp) (b0 : Bool) : R2 := fun v x H Q => ∃ a dx fs, x = .ref a ∧ H a = some (.ins C dx fs) ∧ sp [x, v] H (fun r H' => ∃ b, r = .bl b ∧ Q (.bl (if b0 then !b else b)) H') EF
theorem inst_of {pins : List (Addr × Obj)} {σ : L2.St} {H : Hp} {s : Shared} {a dx : Addr} {fs : List (Str × V)} (I : Inv X pins σ H s) (e : H a = some (.ins C dx fs)) : ∃ ox od, InstAt s.heap a ox C od := by
  obtain ⟨mA, O, _⟩ := ins_get I.hok e
  obtain ⟨od, J, _⟩ := O.look
  exact ⟨_, _, J⟩
theorem op_niO (c : Meth X.K C "__contains__" f) (F : FnOk X.prog X.w X.K X.mg X.base CXt k f fd ps sp) (hr : Room k X.A) (hb : Binds X.K fd ps []) (hx : ∀ σ, PassesAt CXt X σ EF) : OpR X (compareOp .NotIn) (rInO C sp true) := by
  intro pins s σ H x y v u Q I rx ry ⟨a, dx, fs, ey, ea, q⟩
  subst ey
  obtain rfl : u = Value.ref a := ry
  obtain ⟨ox, od, J⟩ := inst_of I ea
  obtain ⟨mm, fr⟩ := I.fr
  refine notIn_K fr I.ok.mod.kin J c.at_ c.fn (thn (run_fnS (E := fun _ => EF) (us := [.ref a, v]) (vs := [.ref a, x]) F hr hb (hx σ) I (.cons rfl (.cons rx .nil)) q) fun r s1 ⟨z, H1, I1, rz, b, ez, q1⟩ => ?_)
  subst ez
  obtain rfl : r = Value.bool b := rz
  exact wpAny_truthy_bool ⟨.bl (!b), H1, I1, rfl, q1⟩
end
/-! readings -/
section
variable {Y : YC} {Γ : List Cell} {ta tb : TE} {tl : TA} {α β : Type} {d : Dat α} {d2 : Dat β} {C0 : Addr} {m : Str} {ns : List Str} {sp : Sp} {E : L2.St → XK}
theorem meth_of (hI : IsI d C0 ns) (hm : m ∉ ns) {C : GCtx} {F : Hp} {v : V} {x : α} (r : d.rep C F v x) : ∃ a dx fs, v = .ref a ∧ F a = some (.ins C0 dx fs) ∧ fs.lookup m = none := by
  obtain ⟨p, dx, fs, e1, e2, e3⟩ := hI.ins r
  exact ⟨p, dx, fs, e1, e2, e3 m hm⟩
theorem w_methE {kx : β → Prop} (hE : E = Y.E) (hI : IsI d C0 ns) (hm : m ∉ ns) (h : W Y ta Γ d fun x => WA Y tl Γ fun cs => SpX Y.g sp (.val d x :: cs) (fun c => ∃ r, c = .val d2 r ∧ kx r) fun x => Y.kx x Γ) : W Y (tMethE C0 m sp E ta tl) Γ d2 kx := fun e F σ H s Q q => h e F σ H s _ fun v F1 H1 x h1 g1 r1 => by
  subst hE
  obtain ⟨a, dx, fs, e1, e2, e3⟩ := meth_of hI hm r1
  refine ⟨a, dx, fs, e1, g1.fh _ _ e2, e3, h1 e F1 σ H1 (s.grow g1) _ fun vs F2 H2 cs hc g2 sl => ?_⟩
  refine hc (v :: vs) H2 Q _ ⟨F2, g2.base, .cons (L := []) ⟨rfl, v, rfl, d.mono g2.ff r1⟩ sl, fun v' F' H' c L ⟨r, ec, kr⟩ g3 rc => ?_, fun x' d' F' H' kx' g3 hd => ?_⟩
  · subst ec
    obtain ⟨e4, v2, e5, rv⟩ := rc
    subst e4
    cases (Option.some.inj e5)
    exact q v' F' H' r kr ((g1.trans0 g2).trans0 g3) rv
  · exact s.1 x' d' F' σ H' Γ kx' (((s.grow g1).grow g2).grow g3).2 hd
theorem o_methE {od : @OD β d2} {kx : β → Prop} (hE : E = Y.E) (hI : IsI d C0 ns) (hm : m ∉ ns) (h : W Y ta Γ d fun x => WA Y tl Γ fun cs => SpX Y.g sp (.val d x :: cs) (fun c => ∃ r, c = .own d2 od none r ∧ kx r) fun x => Y.kx x Γ) : O Y (tMethE C0 m sp E ta tl) Γ od kx := fun e F σ H s Q q => h e F σ H s _ fun v F1 H1 x h1 g1 r1 => by
  subst hE
  obtain ⟨a, dx, fs, e1, e2, e3⟩ := meth_of hI hm r1
  refine ⟨a, dx, fs, e1, g1.fh _ _ e2, e3, h1 e F1 σ H1 (s.grow g1) _ fun vs F2 H2 cs hc g2 sl => ?_⟩
  refine hc (v :: vs) H2 Q _ ⟨F2, g2.base, .cons (L := []) ⟨rfl, v, rfl, d.mono g2.ff r1⟩ sl, fun v' F' H' c L ⟨r, ec, kr⟩ g3 rc => ?_, fun x' d' F' H' kx' g3 hd => ?_⟩
  · subst ec
    obtain ⟨v2, e5, _, rv⟩ := rc
    cases (Option.some.inj e5)
    exact q v' F' H' L r kr (by simpa using (g1.trans0 g2).trans g3) rv
  · exact s.1 x' d' F' σ H' Γ kx' (((s.grow g1).grow g2).grow g3).2 hd
theorem w_inO {b0 : Bool} {kb : Bool → Prop} (hI : IsI d2 C0 ns) (h : W Y ta Γ d fun x => W Y tb Γ d2 fun y => SpX Y.g sp [.val d2 y, .val d x] (fun c => ∃ b, c = .val dBool b ∧ kb (if b0 then !b else b)) fun _ => False) : W Y (tOp (rInO C0 sp b0) ta tb) Γ dBool kb := fun e F σ H s Q q => h e F σ H s _ fun v1 F1 H1 x h1 g1 r1 => h1 e F1 σ H1 (s.grow g1) _ fun v2 F2 H2 y hc g2 r2 => by
  obtain ⟨p, dx, fs, e1, e2, _⟩ := hI.ins r2
  refine ⟨p, dx, fs, e1, g2.fh _ _ e2, ?_⟩
  refine hc [v2, v1] H2 _ _ ⟨F2, g2.base, .cons (L := []) ⟨rfl, v2, rfl, r2⟩ (.cons (L := []) ⟨rfl, v1, rfl, d.mono g2.ff r1⟩ .nil), fun v' F' H' c L ⟨b, ec, kr⟩ g3 rc => ?_, fun _ _ _ _ z => z.elim⟩
  subst ec
  obtain ⟨e4, v3, e5, rv⟩ := rc
  subst e4
  cases (Option.some.inj e5)
  cases (show v' = .bl b from rv)
  exact ⟨b, rfl, q _ F' H' _ kr ((g1.trans0 g2).trans0 g3) rfl⟩
end
end G

/-! E7: the classes' addresses; what stands within a class. -/
namespace G
open PySem PySem.Spec PyProof.Rows L2 PySem.W
def clsB : Stmt → List Stmt
  | .ClassDef (body := b) .. => b
  | _ => []
/-- the exception's __init__ of the text: a function that captured its class -/
def initNF (name qual : Str) (st : Stmt) (cc c : Addr) : NdefX.NF := ⟨name, qual, defArgs st, defBody st, defScope st, [(("__class__" : Str), cc)], c⟩
end G

section
set_option maxHeartbeats 2000000
/-! E8: enumerate over a tuple. -/
namespace G
open PySem PySem.Spec PyProof.Rows L2 PySem.W
open AutoSeq1 (wpAny_loadPart')
theorem meets_enumT (l : Addr) (items : Array Value) (n : Nat) (dct : Option Addr) (sl : Array (Option Value)) :
    Meets (Builtin.«enumerate.__new__» ⟨[.type "enumerate", .ref l], []⟩) (fun _ R s => s.heap.get? l = some { cls := .type "tuple", dict := dct, data := .seq items n, slots := sl } ∧
      R (.ok (.ret (.ref (s.heap.push { cls := .type "tuple_iterator", data := .fields #[.ref l, .int 0 0] }).objs.size)))
        { s with heap := (s.heap.push { cls := .type "tuple_iterator", data := .fields #[.ref l, .int 0 0] }).push { cls := .type "enumerate", data := .fields #[.none, .bool false, .ref s.heap.objs.size, rawInt 0, .none, .none] } }) :=
  .of_wp fun prog w A R s h => by
    obtain ⟨hp, g, d, tk, os⟩ := s; obtain ⟨hl, h⟩ := h
    have hsub := sub_enumerate
    have hL : Heap.IsTuple (Shared.heap ⟨hp, g, d, tk, os⟩) l items := ⟨_, hl, rfl, n, rfl⟩
    wp_walk using wpAny_loadPart' hl
    refine wpAny_stack_any fun st => wpAny_pure ?_
    split
    · rename_i c _ _ _ _ _
      cases (c == Value.type "enumerate")
      · wp_walk using wpAny_loadPart' hl, wpAny_pyIter_tuple hL
        exact ⟨_, rfl, h⟩
      · wp_walk using wpAny_loadPart' hl, wpAny_pyIter_tuple hL
        exact ⟨_, rfl, h⟩
    · wp_walk using wpAny_loadPart' hl, wpAny_pyIter_tuple hL
      exact ⟨_, rfl, h⟩
section
variable {prog : Program} {w : World} {A : Around} {E : Value → Shared → Prop} {s : Shared}
theorem call_enumerate_tup {l : Addr} {items : Array Value} {Q : Value → Shared → Prop} (hL : s.heap.IsTuple l items)
    (h : ∀ h', IsEnum h' (s.heap.objs.size + 1) s.heap.objs.size 0 .none → h'.IsTupleIter s.heap.objs.size l 0 → h'.objs.size = s.heap.objs.size + 2 →
      (∀ b o, s.heap.get? b = some o → h'.get? b = some o) → Q (.ref (s.heap.objs.size + 1)) { s with heap := h' }) :
    wpAny (model prog w) A (call (.type "enumerate") [.ref l]) Q E s := by
  obtain ⟨⟨c, dct, dt, sl⟩, hl, hc, n, hd⟩ := hL
  replace hc : c = .type "tuple" := hc
  replace hd : dt = .seq items n := hd
  subst hc hd
  refine callType_new F.called_enumerate (by decide) (F.typeCall_enumerate_1 _) (F.newCall_enumerate_1 _) (fun obj => F.args_object_init_2 obj _) F.entry_enumerate_new
    (meets_enumT l items n dct sl) ⟨hl, ?_⟩
  have hz : (s.heap.push { cls := .type "tuple_iterator", data := .fields #[.ref l, .int 0 0] }).objs.size = s.heap.objs.size + 1 := Heap.size_push ..
  show _ ∧ _
  rw [hz]
  have he : IsEnum ((s.heap.push { cls := .type "tuple_iterator", data := .fields #[.ref l, .int 0 0] }).push
      { cls := .type "enumerate", data := .fields #[.none, .bool false, .ref s.heap.objs.size, rawInt 0, .none, .none] }) (s.heap.objs.size + 1) s.heap.objs.size 0 .none := by
    have := Heap.get?_push_size (s.heap.push { cls := .type "tuple_iterator", data := .fields #[.ref l, .int 0 0] })
      (o := { cls := .type "enumerate", data := .fields #[.none, .bool false, .ref s.heap.objs.size, rawInt 0, .none, .none] }) rfl
    rw [hz] at this; exact this
  refine ⟨⟨_, he, rfl⟩, h _ he ⟨_, Heap.get?_push_of_some _ (Heap.get?_push_size _ rfl), rfl, rfl⟩ (by rw [Heap.size_push, hz]) fun b o x => Heap.get?_push_of_some _ (Heap.get?_push_of_some _ x)⟩
end
/-- the tuple at a at each turn, each item in a new pair -/
def IteT (K : Frag) (a : Addr) : It :=
  ⟨fun i H => ∃ (xs : List V) (x : V), SqT K H a xs ∧ xs[i]? = some x, fun i H v H' => ∃ T x, v = .ref T ∧ H T = none ∧ H' = upd H T (.tup [.int (i : Nat), x]) ∧ ∀ xs, SqT K H a xs → xs[i]? = some x, fun i H => ∃ xs : List V, SqT K H a xs ∧ xs.length ≤ i⟩
theorem turn_enumT {P : Program} {w : World} {K : Frag} {elts : List Expr} {kk : Nat} {tpos : Pos} (a e it : Addr) :
    Turn P w K (.Tuple elts kk tpos) (IteT K a) [e, it] e (fun i h => (∃ old, IsEnum h e it ((i : Nat) : Int) old) ∧ h.IsTupleIter it a i ∧ e ≠ it) where
  mem := by simp
  obj := fun i h st b hb => by
    obtain ⟨⟨old, he⟩, ⟨o, ho, hc, hd⟩, _⟩ := st
    have e' : b = e ∨ b = it := by simpa using hb
    rcases e' with z | z
    · rw [z]; exact ⟨_, he, fun v q => nomatch q⟩
    · rw [z]; exact ⟨o, ho, fun v q => by rw [hd] at q; cases q⟩
  keep := fun i h h' st k => let ⟨⟨old, he⟩, hi, hne⟩ := st; ⟨⟨old, k e (by simp) _ he⟩, hi.at fun o q => k it (by simp) o q, hne⟩
  item := by
    intro X hP hw hK hc i pins s σ H E I hf st hg
    subst hP hw hK
    obtain ⟨⟨old, he⟩, hit, hne⟩ := st
    obtain ⟨xs, x, hq, hx⟩ := hg
    obtain ⟨its, rv, p, hz⟩ := I.tuple hq
    obtain ⟨u, hu, ru⟩ := rv.get hx
    have hel : e < s.heap.objs.size := Heap.lt_size he
    have hil : it < s.heap.objs.size := by obtain ⟨_, q, _⟩ := hit; exact Heap.lt_size q
    have pT : s.heap.IsTuple a its.toArray := p
    have ane : a ≠ it := fun z => by
      obtain ⟨o, q1, q2, _⟩ := hit
      obtain ⟨o2, q3, q4, _⟩ := pT
      rw [z, q1] at q3
      cases q3
      rw [q2] at q4
      exact absurd (Value.type.inj q4) (by decide)
    have ane2 : e ∉ [it, a] := fun z => by
      rcases List.mem_cons.mp z with z | z
      · exact hne z
      · rw [List.mem_singleton] at z
        obtain ⟨o2, q3, q4, _⟩ := pT
        rw [← z, show s.heap.get? e = _ from he] at q3
        cases q3
        exact absurd (Value.type.inj q4) (by decide)
    have hlt : i < its.toArray.size := by
      have := (List.getElem?_eq_some_iff.mp hu).1
      simpa using this
    have hh : X.A.in1.handled = none := I.ok.hd hc
    refine wpAny_pyNext_enum_itemD (Draws.tuple hh it a ane its.toArray) he ⟨hit, pT⟩ hlt hne ane2 fun y h' tk hy ho hst hT hsz hk => ?_
    have ey : y = u := by
      have h1 : its.toArray[i]? = some y := hy
      rw [List.getElem?_toArray, hu] at h1
      exact (Option.some.inj h1).symm
    subst ey
    refine ⟨_, rfl, wpAny_letOwnedTupleGo_enum (s := { s with heap := h', toks := tk + 1 }) ho fun h'' he' sb => ?_⟩
    have hT2 : h''.get? s.heap.objs.size = some { cls := .type "tuple", data := .seq #[.int i tk, y] } := (sb.2 _ (Nat.ne_of_gt hel)).trans hT
    have new : ObjOk X.prog X.w (upd H s.heap.objs.size (.tup [.int (i : Nat), x])) h'' s.heap.objs.size (.tup [.int (i : Nat), x]) :=
      ⟨by show 2 ≤ sizeLine; decide, [.int i tk, y], .cons ⟨_, rfl⟩ (.cons ru .nil), ⟨_, hT2, rfl, _, rfl⟩⟩
    have I1 : Inv X pins σ (upd H s.heap.objs.size (.tup [.int (i : Nat), x])) { s with heap := h'', toks := tk + 1 } :=
      I.turnedNew (ch := [e, it]) (fun b ob hb q => (sb.2 b (fun z => hb (by simp [z]))).trans (hk b ob (fun z => hb (by simp [z])) (fun z => hb (by simp [z])) q)) hf (Nat.le_refl _) new
    refine ⟨.ref s.heap.objs.size, _, I1, rfl, ⟨_, x, rfl, I.hok.fresh (Nat.le_refl _), rfl, fun ys hy => by rw [I.tuple_inj hy hq]; exact hx⟩, ⟨⟨y, ?_⟩, hst.1.at fun o q => (sb.2 it (Ne.symm hne)).trans q, hne⟩, fun b hb => ?_⟩
    · have e1 : ((i + 1 : Nat) : Int) = (i : Int) + 1 := by omega
      rw [e1]; exact he'
    · have hb' : b < s.heap.objs.size := by
        have e' : b = e ∨ b = it := by simpa using hb
        rcases e' with z | z
        · rw [z]; exact hel
        · rw [z]; exact hil
      rw [upd_ne (Nat.ne_of_lt hb')]
      exact (hf b hb).1
  done := by
    intro X hP hw hK hc i pins s σ H E I hf st hg
    subst hP hw hK
    obtain ⟨⟨old, he⟩, hit, hne⟩ := st
    obtain ⟨xs, hq, hx⟩ := hg
    obtain ⟨its, rv, p, hz⟩ := I.tuple hq
    obtain ⟨f0, f1, f2, f3, f4, f5⟩ := hf it (by simp)
    have hl := rv.length
    have pT : s.heap.IsTuple a its.toArray := p
    have ane : a ≠ it := fun z => by
      obtain ⟨o, q1, q2, _⟩ := hit
      obtain ⟨o2, q3, q4, _⟩ := pT
      rw [z, q1] at q3
      cases q3
      rw [q2] at q4
      exact absurd (Value.type.inj q4) (by decide)
    have hh : X.A.in1.handled = none := I.ok.hd hc
    have hTy : s.TypeIs (.ref e) "enumerate" := ⟨_, he, rfl⟩
    unfold pyNext
    refine wpAny_bind (wpAny_attempt (wpAny_callSpecial?_slot (name := Str.ofString "__next__") hTy F.slot_enumerate_next
      (wpAny_call_entry F.slot_enumerate_next hTy F.entry_enumerate_next ?_ (F.args_enumerate_next_1 _))))
    show wpAny _ _ (field (.ref e) 2 >>= _) _ _ _
    refine wpAny_bind (wpAny_field he rfl (x := .ref it) rfl ?_)
    refine wpAny_bind (wpAny_nextOf_tuple_end hh hit pT (by simp; omega) fun h' x he' hx' => ?_)
    obtain ⟨o, ho, hc2⟩ := hx'
    refine wpAny_bind (wpAny_isInstance (T := "StopIteration") (b := true) ⟨o, ho, hc2⟩ isSubtype_stop ?_)
    exact wpAny_pure ⟨rfl, I.turned (t' := s.toks) (fun b o hb q => he' b o hb q) f0 f1 f3 f4 f5⟩
  self := fun A i s Q E st h => let ⟨⟨_, he⟩, _⟩ := st; wpAny_pyIter_enum he h
def iEnumT (K : Frag) (ta : TA) : TI := fun σ H R => ta σ H fun vs H1 => ∃ a xs, vs = [.ref a] ∧ SqT K H1 a xs ∧ R (IteT K a) H1
theorem pi_enumT {X : Cx} {e : Expr} {ta : TA} {p pos tpos : Pos} {elts : List Expr} {kk : Nat} (hg : Gl X "enumerate") (hm : X.mg "enumerate" = none) (ha : PA X [e] ta) (hs : starEach [e] X.env = [(false, eval e X.env)] := by rfl) :
    PI X (.Tuple elts kk tpos) (.Call (.Name "enumerate" p) [e] [] pos) (iEnumT X.K ta) := by
  refine ⟨fun pins s σ H R I h => ?_⟩
  refine Call_ (ld_blt I hg hm boot_enumerate (PyProof.Rows.callWith_type1 (thn (ha.run pos pins s σ H _ I h) fun us s1 ⟨vs, H1, I1, r1, q1⟩ => ?_) hs rfl))
  obtain ⟨a, xs, ex, hq, q⟩ := q1
  subst ex
  cases r1 with
  | cons r rr =>
    cases rr
    cases r
    obtain ⟨its, rv, p', hz⟩ := I1.tuple hq
    refine call_enumerate_tup (show s1.heap.IsTuple a its.toArray from p') fun h' he hit hsz hk => wpAny_pyIter_enum he ?_
    have I2 : Inv X pins σ H1 { s1 with heap := h' } := I1.kept (t' := s1.toks) hk
    refine ⟨s1.heap.objs.size + 1, [s1.heap.objs.size + 1, s1.heap.objs.size], _, _, H1, rfl, I2, turn_enumT a (s1.heap.objs.size + 1) s1.heap.objs.size, ⟨⟨.none, he⟩, hit, Nat.succ_ne_self _⟩, fun b hb => ?_, q⟩
    have e' : b = s1.heap.objs.size + 1 ∨ b = s1.heap.objs.size := by simpa using hb
    have hle : s1.heap.objs.size ≤ b := by
      rcases e' with z | z
      · rw [z]; exact Nat.le_add_right _ _
      · rw [z]; exact Nat.le_refl _
    exact I1.fpOk hle (I1.hok.fresh hle)
end G
end

/-! E9: for i, x in enumerate(..): a statement's rule. -/
namespace G
open PySem PySem.Spec PyProof.Rows L2 PySem.W
section
variable {Y : YC} {Γ : List Cell} {te : TE} {α : Type} {d : Dat α} {k : Ks} {ts : TS} {g : TG}
def enumI {α : Type} (xs : List α) (i : Nat) : Option (Int × α) := xs[i]?.map fun x => ((i : Int), x)
theorem z_enumT (h : W Y te Γ (dTup (d := d)) fun xs => Body Y g ts (dPair (d1 := dInt) (d2 := d)) k (enumI xs.l) xs.l.length Γ) : Z Y (tFor (iEnumT Y.K (tCons te tNil)) g ts) Γ k := fun e F σ H D hM s c => h e F σ H s _ fun v F1 H1 xs ⟨I, h0, hs, hd⟩ g1 ⟨a, vs, e1, hq, r⟩ => by
  subst e1
  have s1 := s.grow g1
  obtain ⟨hx1, L1, kw1, _⟩ := id s1
  have c1 := c.into hx1 kw1
  have hqT : ∀ {H' : Hp} {F' : Hp}, Same F1 F' → Same F' H' → SqT Y.K H' a vs := fun s1 s2 => (hq.mono (s1.trans s2)).sq
  refine ⟨a, vs, rfl, hqT (Same.refl _) g1.fh, fun i m σ H => m = vs.length - i ∧ i ≤ vs.length ∧ ∃ F' Γ', State Y ⟨F1, e.H0, e.M⟩ F' σ H Γ' ∧ I i Γ', ⟨vs.length, rfl, Nat.zero_le _, F1, Γ, s1.into, h0⟩, fun i m σ H ⟨hm0, hi, F', Γ', st, hI⟩ => ?_⟩
  have hq' := hqT st.ff st.fh
  by_cases hlt : i < vs.length
  · right
    have hw : vs[i]? = some vs[i] := by simp [hlt]
    generalize vs[i] = w at hw
    obtain ⟨x, hx, rx⟩ := r.getV hw
    refine ⟨⟨vs, w, hq', hw⟩, fun σ' H' => ∃ F3 Γ3, State Y ⟨F1, e.H0, e.M⟩ F3 σ' H' Γ3 ∧ I (i + 1) Γ3, fun σ' H' ⟨F3, Γ3, s3, i3⟩ => ⟨vs.length - (i + 1), by omega, rfl, by omega, F3, Γ3, s3, i3⟩, fun x0 H' ⟨T, x', e2, hT, e3, hall⟩ => ?_⟩
    subst e2 e3
    have ex : x' = w := by
      have := hall vs hq'
      rw [hw] at this
      exact (Option.some.inj this).symm
    subst ex
    have gr : Gr F' H (upd F' T (.tup [.int (i : Nat), x'])) (upd H T (.tup [.int (i : Nat), x'])) := st.base.lay hT
    have st' := st.grow gr
    refine hs i ((i : Int), x) Γ' (by unfold enumI; rw [hx]; rfl) hI _ _ σ _ _ st' ⟨T, .int (i : Nat), x', rfl, .inl upd_same, rfl, d.mono (st.ff.trans gr.ff) rx⟩ _ fun σ2 Γ2 h2 st2 => ?_
    exact h2 ⟨F1, e.H0, e.M⟩ _ σ2 _ _ hM st2 ⟨fun F3 σ3 H3 Γ3 k3 st3 => ⟨F3, Γ3, st3, k3⟩, c1.rt, c1.nx, fun F3 σ3 H3 Γ3 k3 st3 => ⟨F3, Γ3, st3, k3⟩⟩
  · left
    have hi2 : i = xs.l.length := by rw [← r.len]; omega
    subst hi2
    exact ⟨⟨vs, hq', by rw [r.len]; exact Nat.le_refl _⟩, c1.nx F' σ H Γ' (hd Γ' hI) st⟩
theorem z_enum (h : W Y te Γ (dList (d := d)) fun xs => Body Y g ts (dPair (d1 := dInt) (d2 := d)) k (enumI xs) xs.length Γ) : Z Y (tFor (iEnum Y.K (tCons te tNil)) g ts) Γ k := fun e F σ H D hM s c => h e F σ H s _ fun v F1 H1 xs ⟨I, h0, hs, hd⟩ g1 ⟨a, vs, e1, hq, r⟩ => by
  subst e1
  have s1 := s.grow g1
  obtain ⟨hx1, L1, kw1, _⟩ := id s1
  have c1 := c.into hx1 kw1
  have hqT : ∀ {H' : Hp} {F' : Hp}, Same F1 F' → Same F' H' → SqL Y.K H' a vs := fun s1 s2 => (s1.trans s2).seq hq
  refine ⟨a, vs, rfl, hqT (Same.refl _) g1.fh, fun i m σ H => m = vs.length - i ∧ i ≤ vs.length ∧ ∃ F' Γ', State Y ⟨F1, e.H0, e.M⟩ F' σ H Γ' ∧ I i Γ', ⟨vs.length, rfl, Nat.zero_le _, F1, Γ, s1.into, h0⟩, fun i m σ H ⟨hm0, hi, F', Γ', st, hI⟩ => ?_⟩
  have hq' := hqT st.ff st.fh
  by_cases hlt : i < vs.length
  · right
    have hw : vs[i]? = some vs[i] := by simp [hlt]
    generalize vs[i] = w at hw
    obtain ⟨x, hx, rx⟩ := r.getV hw
    refine ⟨⟨vs, w, hq', hw⟩, fun σ' H' => ∃ F3 Γ3, State Y ⟨F1, e.H0, e.M⟩ F3 σ' H' Γ3 ∧ I (i + 1) Γ3, fun σ' H' ⟨F3, Γ3, s3, i3⟩ => ⟨vs.length - (i + 1), by omega, rfl, by omega, F3, Γ3, s3, i3⟩, fun x0 H' ⟨T, x', e2, hT, e3, hall⟩ => ?_⟩
    subst e2 e3
    have ex : x' = w := by
      have := hall vs hq'
      rw [hw] at this
      exact (Option.some.inj this).symm
    subst ex
    have gr : Gr F' H (upd F' T (.tup [.int (i : Nat), x'])) (upd H T (.tup [.int (i : Nat), x'])) := st.base.lay hT
    have st' := st.grow gr
    refine hs i ((i : Int), x) Γ' (by unfold enumI; rw [hx]; rfl) hI _ _ σ _ _ st' ⟨T, .int (i : Nat), x', rfl, .inl upd_same, rfl, d.mono (st.ff.trans gr.ff) rx⟩ _ fun σ2 Γ2 h2 st2 => ?_
    exact h2 ⟨F1, e.H0, e.M⟩ _ σ2 _ _ hM st2 ⟨fun F3 σ3 H3 Γ3 k3 st3 => ⟨F3, Γ3, st3, k3⟩, c1.rt, c1.nx, fun F3 σ3 H3 Γ3 k3 st3 => ⟨F3, Γ3, st3, k3⟩⟩
  · left
    have hi2 : i = xs.length := by rw [← r.len]; omega
    subst hi2
    exact ⟨⟨vs, hq', by rw [r.len]; exact Nat.le_refl _⟩, c1.nx F' σ H Γ' (hd Γ' hI) st⟩
end
end G

noncomputable section
/-! M0: the monad of the models, judgements that tie readings to models. -/
namespace G
open PySem L2

/-- the classes of the exceptions -/
inductive XC where
  | NotAPairing | NothingToUndo | NothingToRedo | BadLabel | NameTaken | NoSuchName | StillTied | ComesapartError | TooLarge | BadLine | UnknownPlace | BadSides | UnknownSide | UnknownTie | BadStep | Repeated | NotATurningCycle | UnknownPoint | UnknownPair | SamePoint | NoLinks | BadLink | BadNode | UnknownTerm | NotSameSteps | NoFacing | NotARing | NotAJoint | NotShut | BadCut | NoSuchCut | Locked | Nothing | BadName | BadSign | BadMove | NoTerm | NeverOpened | BoundTwice | UnknownName | UsedTwice | NotUsed | NotARedex | NotBalanced | NotAnArrow | NotAPermutation | BadSetting | BadSigns | BadChoice | NotOuter
  deriving DecidableEq
/-- an exception of a model: its class by name, its attributes -/
structure PX where
  cls : XC
  fs : Option (List (Str × V))
  deriving DecidableEq
/-- what a piece of a model gives: a value, an exception, or nothing that is spoken of -/
inductive M (α : Type) where
  | ok (x : α) : M α
  | exc (x : PX) : M α
  | bad : M α
instance : Monad M where
  pure := M.ok
  bind m f := match m with | .ok x => f x | .exc x => .exc x | .bad => .bad
namespace M
variable {α β γ : Type}
@[simp] theorem ok_bind (x : α) (f : α → M β) : (M.ok x >>= f) = f x := rfl
@[simp] theorem exc_bind (x : PX) (f : α → M β) : (M.exc x >>= f) = .exc x := rfl
@[simp] theorem bad_bind (f : α → M β) : ((M.bad : M α) >>= f) = .bad := rfl
@[simp] theorem pure_ok (x : α) : (pure x : M α) = .ok x := rfl
@[simp] theorem assoc (m : M α) (f : α → M β) (g : β → M γ) : ((m >>= f) >>= g) = (m >>= fun x => f x >>= g) := by cases m <;> rfl
@[simp] theorem bind_ok (m : M α) : (m >>= M.ok) = m := by cases m <;> rfl
def nb (m : M α) : Prop := m ≠ .bad
theorem nb1 {m : M α} {f : α → M β} (h : (m >>= f).nb) : m.nb := fun z => h (by rw [z]; rfl)
theorem nb2 {m : M α} {f : α → M β} {x : α} (h : (m >>= f).nb) (e : m = .ok x) : (f x).nb := fun z => h (by rw [e]; exact z)
/-- a guard: m where p holds (the choice is Classical: nothing is to be reckoned out) -/
def asrt (p : Prop) (m : M α) : M α := @ite _ p (Classical.propDecidable p) m .bad
theorem asrt_pos {p : Prop} {m : M α} (h : p) : asrt p m = m := @if_pos p (Classical.propDecidable p) h _ _ _
theorem asrt_nb {p : Prop} {m : M α} (h : (asrt p m).nb) : p := by
  unfold asrt at h
  split at h
  · assumption
  · exact absurd rfl h
def ofO : Option α → M α
  | some x => .ok x
  | none => .bad
@[simp] theorem ofO_some (x : α) : ofO (some x) = .ok x := rfl
/-- xs.append(y) -/
def push (xs : List α) (m : M α) : M (List α) := m >>= fun y => asrt (xs.length < PySem.sizeLine) (.ok (xs ++ [y]))
theorem push_ok {xs : List α} {y : α} (h : xs.length < PySem.sizeLine) : push xs (.ok y) = .ok (xs ++ [y]) := asrt_pos h
/-- xs[i] -/
def ix (xs : List α) (i : Int) : M α := ofO (atI xs i)
/-- range(n), range(a, b) -/
def range (n : Int) : M (List Int) := asrt (-(2 ^ 62) ≤ n ∧ n ≤ PySem.sizeLine) (.ok (rngL 0 n.toNat))
def range2 (a b : Int) : M (List Int) := asrt (-(2 ^ 62) ≤ a ∧ a < 2 ^ 62 ∧ -(2 ^ 62) ≤ b ∧ b < 2 ^ 62 ∧ b - a ≤ PySem.sizeLine) (.ok (rngL a (b - a).toNat))
/-- for x in xs, nothing leaves it early -/
def fold {σ : Type} (f : σ → α → M σ) : σ → List α → M σ
  | s, [] => .ok s
  | s, x :: xs => f s x >>= fun s' => fold f s' xs
theorem fold_snoc {σ : Type} (f : σ → α → M σ) (x : α) : ∀ (xs : List α) (s : σ), fold f s (xs ++ [x]) = (fold f s xs >>= fun s' => f s' x)
  | [], s => by simp [fold]
  | y :: xs, s => by simp only [List.cons_append, fold, assoc]; congr 1; funext s'; exact fold_snoc f x xs s'
end M
/-- the end of a turn -/
inductive Ct (σ ρ : Type) where
  | nx (s : σ) : Ct σ ρ
  | rt (r : ρ) : Ct σ ρ
  | bk (s : σ) : Ct σ ρ
/-- behind a loop -/
def Ct.go {σ ρ τ : Type} (c : Ct σ ρ) (r : ρ → M τ) (n : σ → M τ) : M τ := match c with | .nx s => n s | .rt x => r x | .bk s => n s
namespace M
variable {α β γ σ ρ : Type}
/-- for x in xs, with returns or breaks -/
def foldC (f : σ → α → M (Ct σ ρ)) : σ → List α → M (Ct σ ρ)
  | s, [] => .ok (.nx s)
  | s, x :: xs => f s x >>= fun c => match c with | .nx s' => foldC f s' xs | c => .ok c
/-- n turns of a while, at most -/
def loopN (c : σ → M Bool) (f : σ → M σ) : Nat → σ → M σ
  | 0, _ => .bad
  | n + 1, s => c s >>= fun b => if b then f s >>= loopN c f n else .ok s
open Classical in
noncomputable def loop (c : σ → M Bool) (f : σ → M σ) (s : σ) : M σ := if h : ∃ n, loopN c f n s ≠ .bad then loopN c f h.choose s else .bad
theorem loopN_mono (c : σ → M Bool) (f : σ → M σ) : ∀ (n m : Nat) (s : σ), n ≤ m → loopN c f n s ≠ .bad → loopN c f m s = loopN c f n s
  | 0, _, _, _, h => absurd rfl h
  | n + 1, 0, _, hm, _ => absurd hm (by omega)
  | n + 1, m + 1, s, hm, h => by
    unfold loopN at h ⊢
    cases hc : c s with
    | bad => rfl
    | exc x => rfl
    | ok b =>
      rw [hc] at h
      simp only [ok_bind] at h ⊢
      cases b with
      | false => rfl
      | true =>
        simp only [if_true] at h ⊢
        cases hf : f s with
        | bad => rfl
        | exc x => rfl
        | ok s' =>
          rw [hf] at h
          exact loopN_mono c f n m s' (by omega) h
theorem loop_of {c : σ → M Bool} {f : σ → M σ} {s : σ} {n : Nat} (h : loopN c f n s ≠ .bad) : loop c f s = loopN c f n s := by
  have hx : ∃ n, loopN c f n s ≠ .bad := ⟨n, h⟩
  unfold loop
  rw [dif_pos hx]
  rcases Nat.le_total n hx.choose with hl | hl
  · exact loopN_mono c f _ _ s hl h
  · exact (loopN_mono c f _ _ s hl hx.choose_spec).symm
theorem loop_nb {c : σ → M Bool} {f : σ → M σ} {s : σ} (h : (loop c f s).nb) : ∃ n, loopN c f n s ≠ .bad ∧ loop c f s = loopN c f n s := by
  by_cases hx : ∃ n, loopN c f n s ≠ .bad
  · obtain ⟨n, hn⟩ := hx
    exact ⟨n, hn, loop_of hn⟩
  · exact absurd (by unfold loop; rw [dif_neg hx]) h
/-- the turn of a while -/
theorem loop_eq (c : σ → M Bool) (f : σ → M σ) (s : σ) : loop c f s = (c s >>= fun b => if b then f s >>= loop c f else .ok s) := by
  by_cases hx : ∃ n, loopN c f n s ≠ .bad
  · obtain ⟨n, hn⟩ := hx
    rw [loop_of hn]
    cases n with
    | zero => exact absurd rfl hn
    | succ n =>
      unfold loopN at hn ⊢
      cases hc : c s with
      | bad => rfl
      | exc x => rfl
      | ok b =>
        rw [hc] at hn
        simp only [ok_bind] at hn ⊢
        cases b with
        | false => rfl
        | true =>
          simp only [if_true] at hn ⊢
          cases hf : f s with
          | bad => rfl
          | exc x => rfl
          | ok s' =>
            rw [hf] at hn
            simp only [ok_bind] at hn ⊢
            exact (loop_of hn).symm
  · have e1 : loop c f s = .bad := by unfold loop; rw [dif_neg hx]
    rw [e1]
    cases hc : c s with
    | bad => rfl
    | exc x => exact absurd ⟨1, by unfold loopN; rw [hc]; exact fun z => nomatch z⟩ hx
    | ok b =>
      simp only [ok_bind]
      cases b with
      | false => exact absurd ⟨1, by unfold loopN; rw [hc]; exact fun z => nomatch z⟩ hx
      | true =>
        simp only [if_true]
        cases hf : f s with
        | bad => rfl
        | exc x => exact absurd ⟨1, by unfold loopN; rw [hc]; simp only [ok_bind, if_true]; rw [hf]; exact fun z => nomatch z⟩ hx
        | ok s' =>
          simp only [ok_bind]
          by_cases hy : ∃ n, loopN c f n s' ≠ .bad
          · obtain ⟨n, hn⟩ := hy
            exact absurd ⟨n + 1, by unfold loopN; rw [hc]; simp only [ok_bind, if_true]; rw [hf]; exact hn⟩ hx
          · unfold loop; rw [dif_neg hy]
/-- no exception comes out of it -/
def calm : M α → M α
  | .exc _ => .bad
  | m => m
@[simp] theorem calm_of_ok (x : α) : calm (.ok x : M α) = .ok x := rfl
theorem calm_nb {m : M α} (h : (calm m).nb) : ∃ x, m = .ok x := by
  cases m with
  | ok x => exact ⟨x, rfl⟩
  | exc x => exact absurd rfl h
  | bad => exact absurd rfl h
/-- [f x for x in xs if p x] -/
def comp (p : α → M Bool) (f : α → M β) : List α → M (List β)
  | [] => .ok []
  | x :: xs => calm (p x) >>= fun b => if b then calm (f x) >>= fun y => comp p f xs >>= fun ys => .ok (y :: ys) else comp p f xs
theorem comp_app (p : α → M Bool) (f : α → M β) : ∀ (xs ys : List α), comp p f (xs ++ ys) = (comp p f xs >>= fun a => comp p f ys >>= fun b => .ok (a ++ b))
  | [], ys => by simp [comp]
  | x :: xs, ys => by
    simp only [List.cons_append, comp, assoc]
    cases calm (p x) with
    | bad => rfl
    | exc x => rfl
    | ok b =>
      simp only [ok_bind]
      cases b with
      | false => exact comp_app p f xs ys
      | true =>
        simp only [if_true, assoc]
        cases calm (f x) with
        | bad => rfl
        | exc x => rfl
        | ok y =>
          simp only [ok_bind]
          rw [comp_app p f xs ys]
          cases comp p f xs <;> cases comp p f ys <;> rfl
theorem comp_ok (p : α → Bool) (f : α → β) : ∀ xs : List α, comp (fun x => .ok (p x)) (fun x => .ok (f x)) xs = .ok ((xs.filter p).map f)
  | [] => rfl
  | x :: xs => by
    simp only [comp, calm_of_ok, ok_bind]
    cases h : p x with
    | true => rw [if_pos rfl, comp_ok p f xs, List.filter_cons_of_pos h]; rfl
    | false => rw [if_neg (by simp), comp_ok p f xs, List.filter_cons_of_neg (by simp [h])]
theorem comp_map (f : α → β) (xs : List α) : comp (fun _ => .ok true) (fun x => .ok (f x)) xs = .ok (xs.map f) := by
  rw [comp_ok (fun _ => true) f xs]
  congr 2
  exact List.filter_eq_self.mpr fun _ _ => rfl
/-- what each turn gives, told for the items -/
theorem comp_of {p : α → M Bool} {f : α → M β} (p' : α → Bool) (f' : α → β) : ∀ xs : List α, (∀ x ∈ xs, p x = .ok (p' x)) → (∀ x ∈ xs, p' x = true → f x = .ok (f' x)) → comp p f xs = .ok ((xs.filter p').map f')
  | [], _, _ => rfl
  | x :: xs, h1, h2 => by
    have ih := comp_of p' f' xs (fun y hy => h1 y (List.mem_cons_of_mem _ hy)) fun y hy => h2 y (List.mem_cons_of_mem _ hy)
    simp only [comp]
    rw [h1 x List.mem_cons_self]
    simp only [calm_of_ok, ok_bind]
    cases h : p' x with
    | true => rw [if_pos rfl, h2 x List.mem_cons_self h, ih, List.filter_cons_of_pos h]; rfl
    | false => rw [if_neg (by simp), ih, List.filter_cons_of_neg (by simp [h])]
theorem fold_app {σ : Type} (f : σ → α → M σ) : ∀ (xs ys : List α) (s : σ), fold f s (xs ++ ys) = (fold f s xs >>= fun s' => fold f s' ys)
  | [], ys, s => by simp [fold]
  | x :: xs, ys, s => by
    simp only [List.cons_append, fold, assoc]
    congr 1; funext s'; exact fold_app f xs ys s'
theorem foldC_app (f : σ → α → M (Ct σ ρ)) : ∀ (xs ys : List α) (s : σ), foldC f s (xs ++ ys) = (foldC f s xs >>= fun c => match c with | .nx s' => foldC f s' ys | c => .ok c)
  | [], ys, s => by simp [foldC]
  | x :: xs, ys, s => by
    simp only [List.cons_append, foldC, assoc]
    congr 1; funext c
    cases c with
    | nx s' => exact foldC_app f xs ys s'
    | rt r => rfl
    | bk s' => rfl
/-- no turn leaves -/
theorem foldC_unit {f : Unit → α → M (Ct Unit ρ)} : ∀ xs : List α, (∀ x ∈ xs, f () x = .ok (.nx ())) → foldC f () xs = .ok (.nx ())
  | [], _ => rfl
  | x :: xs, h => by
    simp only [foldC]
    rw [h x List.mem_cons_self]
    exact foldC_unit xs fun y hy => h y (List.mem_cons_of_mem _ hy)
/-- enumerate(xs) -/
def enumL (xs : List α) : List (Int × α) := xs.zipIdx.map fun p => ((p.2 : Int), p.1)
theorem enumL_get (xs : List α) (i : Nat) : enumI xs i = (enumL xs)[i]? := by
  unfold enumI enumL
  rw [List.getElem?_map, List.getElem?_zipIdx]
  cases xs[i]? <;> simp
theorem enumL_len (xs : List α) : (enumL xs).length = xs.length := by simp [enumL]
end M

/-! ### judgements -/
/-- a model's exception over the classes' places -/
def PX.x (tx : XC → Addr) (x : PX) : Exn := ⟨tx x.cls, x.fs⟩
section
variable (tx : XC → Addr) (Y : YC)
def XkM {α : Type} (Γ : List Cell) (m : M α) : Prop := ∀ x, m = .exc x → Y.kx (x.x tx) Γ
/-- the term evaluates to frozen data as the model says -/
def We (te : TE) (Γ : List Cell) {α : Type} (d : Dat α) (m : M α) : Prop := m.nb → XkM tx Y Γ m → W Y te Γ d (m = .ok ·)
def Re (te : TE) (Γ : List Cell) {α : Type} (d : Dat α) (m : M α) : Prop := m.nb → XkM tx Y Γ m → R Y te Γ d (m = .ok ·)
def Oe (te : TE) (Γ : List Cell) {α : Type} {d : Dat α} (od : OD α) (m : M α) : Prop := m.nb → XkM tx Y Γ m → O Y te Γ od (m = .ok ·)
def Te (t : TT) (Γ : List Cell) (m : M Bool) : Prop := m.nb → XkM tx Y Γ m → T Y t Γ (m = .ok ·)
end
section
variable {tx : XC → Addr} {Y : YC} {Γ : List Cell} {te ta tb tc td : TE} {t u : TT} {α β γ δ ε : Type} {d : Dat α} {d1 : Dat α} {d2 : Dat β} {d3 : Dat γ}
theorem XkM.l {m : M α} {f : α → M β} (h : XkM tx Y Γ (m >>= f)) : XkM tx Y Γ m := fun x e => h x (by rw [e]; rfl)
theorem XkM.r {m : M α} {f : α → M β} {x : α} (h : XkM tx Y Γ (m >>= f)) (e : m = .ok x) : XkM tx Y Γ (f x) := fun y e2 => h y (by rw [e]; exact e2)
theorem XkM.ok {x : α} : XkM tx Y Γ (M.ok x) := fun _ z => nomatch z
theorem we_eq {m m' : M α} (h : We tx Y te Γ d m) (e : m = m') : We tx Y te Γ d m' := e ▸ h
theorem re_eq {m m' : M α} (h : Re tx Y te Γ d m) (e : m = m') : Re tx Y te Γ d m' := e ▸ h
theorem oe_eq {od : @OD α d} {m m' : M α} (h : Oe tx Y te Γ od m) (e : m = m') : Oe tx Y te Γ od m' := e ▸ h
theorem te_eq {m m' : M Bool} (h : Te tx Y t Γ m) (e : m = m') : Te tx Y t Γ m' := e ▸ h
theorem o_mono {od : @OD α d} {k k' : α → Prop} (h : O Y te Γ od k) (m : ∀ x, k x → k' x) : O Y te Γ od k' := fun e F σ H s Q q => h e F σ H s Q fun v F' H' L x kx g r => q v F' H' L x (m x kx) g r
theorem re_w {m : M α} (h : We tx Y te Γ d m) : Re tx Y te Γ d m := fun nb xk => r_of_w (h nb xk)
theorem we_o {od : @OD α d} {m : M α} (h : Oe tx Y te Γ od m) : We tx Y te Γ d m := fun nb xk => w_of_o (h nb xk)
/-- one part read, then the rest -/
theorem Re.k {m : M α} {f : α → M β} {k : α → Prop} (h : Re tx Y te Γ d m) (nb : (m >>= f).nb) (xk : XkM tx Y Γ (m >>= f)) (g : ∀ x, m = .ok x → (f x).nb → XkM tx Y Γ (f x) → k x) : R Y te Γ d k :=
  r_mono (h (M.nb1 nb) xk.l) fun x e => g x e (M.nb2 nb e) (xk.r e)
theorem We.k {m : M α} {f : α → M β} {k : α → Prop} (h : We tx Y te Γ d m) (nb : (m >>= f).nb) (xk : XkM tx Y Γ (m >>= f)) (g : ∀ x, m = .ok x → (f x).nb → XkM tx Y Γ (f x) → k x) : W Y te Γ d k :=
  w_mono (h (M.nb1 nb) xk.l) fun x e => g x e (M.nb2 nb e) (xk.r e)
theorem Oe.k {od : @OD α d} {m : M α} {f : α → M β} {k : α → Prop} (h : Oe tx Y te Γ od m) (nb : (m >>= f).nb) (xk : XkM tx Y Γ (m >>= f)) (g : ∀ x, m = .ok x → (f x).nb → XkM tx Y Γ (f x) → k x) : O Y te Γ od k :=
  o_mono (h (M.nb1 nb) xk.l) fun x e => g x e (M.nb2 nb e) (xk.r e)
theorem Te.k {m : M Bool} {f : Bool → M β} {k : Bool → Prop} (h : Te tx Y t Γ m) (nb : (m >>= f).nb) (xk : XkM tx Y Γ (m >>= f)) (g : ∀ x, m = .ok x → (f x).nb → XkM tx Y Γ (f x) → k x) : T Y t Γ k :=
  t_mono (h (M.nb1 nb) xk.l) fun x e => g x e (M.nb2 nb e) (xk.r e)
/-! shapes of rules -/
theorem we_p1 {f : α → β} {m : M α} (rule : ∀ k : β → Prop, (R Y ta Γ d1 fun x => k (f x)) → W Y te Γ d2 k) (h : Re tx Y ta Γ d1 m) : We tx Y te Γ d2 (m >>= fun x => .ok (f x)) := fun nb xk =>
  rule _ (h.k nb xk fun x e _ _ => by rw [e]; rfl)
theorem we_p1w {f : α → β} {m : M α} (rule : ∀ k : β → Prop, (W Y ta Γ d1 fun x => k (f x)) → W Y te Γ d2 k) (h : We tx Y ta Γ d1 m) : We tx Y te Γ d2 (m >>= fun x => .ok (f x)) := fun nb xk =>
  rule _ (h.k nb xk fun x e _ _ => by rw [e]; rfl)
theorem oe_p1w {od : @OD β d2} {f : α → β} {m : M α} (rule : ∀ k : β → Prop, (W Y ta Γ d1 fun x => k (f x)) → O Y te Γ od k) (h : We tx Y ta Γ d1 m) : Oe tx Y te Γ od (m >>= fun x => .ok (f x)) := fun nb xk =>
  rule _ (h.k nb xk fun x e _ _ => by rw [e]; rfl)
theorem we_p2 {f : α → β → γ} {m : M α} {n : M β} (rule : ∀ k : γ → Prop, (R Y ta Γ d1 fun x => R Y tb Γ d2 fun y => k (f x y)) → W Y te Γ d3 k) (h : Re tx Y ta Γ d1 m) (h2 : Re tx Y tb Γ d2 n) : We tx Y te Γ d3 (m >>= fun x => n >>= fun y => .ok (f x y)) := fun nb xk =>
  rule _ (h.k nb xk fun x e nb xk => h2.k nb xk fun y e2 _ _ => by rw [e]; show (n >>= _) = _; rw [e2]; rfl)
/-- a guarded operator -/
theorem we_g2 {P : α → β → Prop} [∀ x y, Decidable (P x y)] {f : α → β → γ} {m : M α} {n : M β} (rule : ∀ k : γ → Prop, (R Y ta Γ d1 fun x => R Y tb Γ d2 fun y => P x y ∧ k (f x y)) → W Y te Γ d3 k) (h : Re tx Y ta Γ d1 m) (h2 : Re tx Y tb Γ d2 n) : We tx Y te Γ d3 (m >>= fun x => n >>= fun y => M.asrt (P x y) (.ok (f x y))) := fun nb xk =>
  rule _ (h.k nb xk fun x e nb xk => h2.k nb xk fun y e2 nb2 _ => ⟨M.asrt_nb nb2, by rw [e]; show (n >>= _) = _; rw [e2]; show M.asrt _ _ = _; rw [M.asrt_pos (M.asrt_nb nb2)]⟩)
/-- an item looked up -/
theorem we_l2 {f : α → β → Option γ} {m : M α} {n : M β} (rule : ∀ k : γ → Prop, (W Y ta Γ d1 fun x => R Y tb Γ d2 fun y => ∃ z, f x y = some z ∧ k z) → W Y te Γ d3 k) (h : We tx Y ta Γ d1 m) (h2 : Re tx Y tb Γ d2 n) : We tx Y te Γ d3 (m >>= fun x => n >>= fun y => M.ofO (f x y)) := fun nb xk =>
  rule _ (h.k nb xk fun x e nb xk => h2.k nb xk fun y e2 nb2 _ => by
    cases q : f x y with
    | none => rw [q] at nb2; exact absurd rfl nb2
    | some z => exact ⟨z, rfl, by rw [e]; show (n >>= _) = _; rw [e2]; show M.ofO _ = _; rw [q]; rfl⟩)
end
end G
end

noncomputable section
/-! M1: the rules of expressions, with models. (printed in part by genM1.py) -/
namespace G
open PySem PySem.Spec PyProof.Rows L2 PySem.W
instance (i j : Int) : Decidable (CDiv i j) := inferInstanceAs (Decidable (_ ∧ _))
instance (i j : Int) : Decidable (CMul i j) := inferInstanceAs (Decidable (_ ∨ _))
instance (i j : Int) : Decidable (CPow i j) := inferInstanceAs (Decidable (_ ∧ _ ∧ _))
instance : @Flat Bool dBool := ⟨V.bl, fun h => h, fun _ => rfl, fun x y => by cases x <;> cases y <;> simp [eqV]⟩
section
variable {tx : XC → Addr} {Y : YC} {Γ : List Cell} {te ta tb tc td : TE} {t u : TT} {α β γ δ ε : Type} {d : Dat α} {d1 : Dat α} {d2 : Dat β} {d3 : Dat γ} {d4 : Dat δ}
theorem w_calm {k : α → Prop} (h : W (calm Y.g) te Γ d k) : W Y te Γ d k := fun e F σ H s Q q => h e F σ H ⟨fun _ _ _ _ _ _ z => z.elim, s.2⟩ Q q
theorem t_calm {k : Bool → Prop} (h : T (calm Y.g) t Γ k) : T Y t Γ k := fun e F σ H s Q q => h e F σ H ⟨fun _ _ _ _ _ _ z => z.elim, s.2⟩ Q q
theorem we_calm {m : M α} (h : We tx (calm Y.g) te Γ d m) : We tx Y te Γ d (M.calm m) := fun nb xk => by
  obtain ⟨x, e⟩ := M.calm_nb nb
  subst e
  exact w_calm (h (fun z => nomatch z) XkM.ok)
/-- an owned name read as if it were frozen -/
theorem we_borrow {od0 : @OD α d1} {x : α} {pin : Option V} [i : @Imm β d2] {m : M β} (j : Nat) (hj : Γ[j]? = some (.own d1 od0 pin x)) (h : We tx (calm Y.g) te (Γ.set j (.val d1 x)) d2 m) : We tx Y te Γ d2 (M.calm m) := fun nb xk => by
  obtain ⟨y, e⟩ := M.calm_nb nb
  subst e
  exact w_borrow j hj (h (fun z => nomatch z) XkM.ok)
/-! names, constants -/
theorem we_var {i : Nat} {x : α} (h : Γ[i]? = some (.val d x)) : We tx Y (tVar i) Γ d (.ok x) := fun _ _ => w_var h rfl
theorem re_varO {od : @OD α d} {pin : Option V} {i : Nat} {x : α} (h : Γ[i]? = some (.own d od pin x)) : Re tx Y (tVar i) Γ d (.ok x) := fun _ _ => r_varO h rfl
theorem we_int {n : Int} : We tx Y (tC (.int n)) Γ dInt (.ok n) := fun _ _ => w_int rfl
theorem we_bl {n : Bool} : We tx Y (tC (.bl n)) Γ dBool (.ok n) := fun _ _ => w_bl rfl
theorem we_str {n : Str} : We tx Y (tC (.str n)) Γ dStr (.ok n) := fun _ _ => w_str rfl
theorem we_nonO : We tx Y (tC .non) Γ (dOpt (d := d)) (.ok .none) := fun _ _ => w_nonO rfl
theorem we_some {m : M α} (h : We tx Y te Γ d m) : We tx Y te Γ (dOpt (d := d)) (m >>= fun x => .ok (.some x)) := we_p1w (fun k h => w_some h) h
/-! operators -/
theorem we_add {m n : M Int} (h : Re tx Y ta Γ dInt m) (h2 : Re tx Y tb Γ dInt n) : We tx Y (tOp (rI0 fun i j => .int (i + j)) ta tb) Γ dInt (m >>= fun x => n >>= fun y => .ok (x + y)) := we_p2 (fun k h => w_add h) h h2
theorem we_sub {m n : M Int} (h : Re tx Y ta Γ dInt m) (h2 : Re tx Y tb Γ dInt n) : We tx Y (tOp (rI0 fun i j => .int (i - j)) ta tb) Γ dInt (m >>= fun x => n >>= fun y => .ok (x - y)) := we_p2 (fun k h => w_sub h) h h2
theorem we_mul {m n : M Int} (h : Re tx Y ta Γ dInt m) (h2 : Re tx Y tb Γ dInt n) : We tx Y (tOp (rI CMul fun i j => .int (i * j)) ta tb) Γ dInt (m >>= fun x => n >>= fun y => M.asrt (CMul x y) (.ok (x * y))) := we_g2 (fun k h => w_mul h) h h2
theorem we_mod {m n : M Int} (h : Re tx Y ta Γ dInt m) (h2 : Re tx Y tb Γ dInt n) : We tx Y (tOp (rI (fun _ j => 0 < j) fun i j => .int (i % j)) ta tb) Γ dInt (m >>= fun x => n >>= fun y => M.asrt (0 < y) (.ok (x % y))) := we_g2 (P := fun _ y => 0 < y) (fun k h => w_mod h) h h2
theorem we_fdiv {m n : M Int} (h : Re tx Y ta Γ dInt m) (h2 : Re tx Y tb Γ dInt n) : We tx Y (tOp (rI CDiv fun i j => .int (i / j)) ta tb) Γ dInt (m >>= fun x => n >>= fun y => M.asrt (CDiv x y) (.ok (x / y))) := we_g2 (fun k h => w_fdiv h) h h2
theorem we_pow {m n : M Int} (h : Re tx Y ta Γ dInt m) (h2 : Re tx Y tb Γ dInt n) : We tx Y (tOp (rI CPow fun i j => .int (i ^ j.toNat)) ta tb) Γ dInt (m >>= fun x => n >>= fun y => M.asrt (CPow x y) (.ok (x ^ y.toNat))) := we_g2 (fun k h => w_pow h) h h2
theorem we_powC {a b c : Int} (h : Re tx Y ta Γ dInt (.ok a)) (h2 : Re tx Y tb Γ dInt (.ok b)) (hc : CPow a b ∧ a ^ b.toNat = c) : We tx Y (tOp (rI CPow fun i j => .int (i ^ j.toNat)) ta tb) Γ dInt (.ok c) := we_eq (we_pow h h2) (by show M.asrt _ _ = _; rw [M.asrt_pos hc.1, hc.2])
theorem we_neg {m : M Int} (h : Re tx Y ta Γ dInt m) : We tx Y (tUn (rU fun i => .int (-i)) ta) Γ dInt (m >>= fun x => .ok (-x)) := we_p1 (fun k h => w_neg h) h
theorem we_lt {m n : M Int} (h : Re tx Y ta Γ dInt m) (h2 : Re tx Y tb Γ dInt n) : We tx Y (tOp (rI0 fun i j => .bl (decide (i < j))) ta tb) Γ dBool (m >>= fun x => n >>= fun y => .ok (decide (x < y))) := we_p2 (fun k h => w_lt h) h h2
theorem we_gt {m n : M Int} (h : Re tx Y ta Γ dInt m) (h2 : Re tx Y tb Γ dInt n) : We tx Y (tOp (rI0 fun i j => .bl (decide (j < i))) ta tb) Γ dBool (m >>= fun x => n >>= fun y => .ok (decide (y < x))) := we_p2 (fun k h => w_gt h) h h2
theorem we_ge {m n : M Int} (h : Re tx Y ta Γ dInt m) (h2 : Re tx Y tb Γ dInt n) : We tx Y (tOp (rI0 fun i j => .bl (decide (j ≤ i))) ta tb) Γ dBool (m >>= fun x => n >>= fun y => .ok (decide (y ≤ x))) := we_p2 (fun k h => w_ge h) h h2
/-- scalars of one kind, compared -/
class Sc (α : Type) [d : Dat α] where
  enc : α → V
  isEnc : ∀ {C : GCtx} {F : Hp} {v : V} {x : α}, d.rep C F v x → v = enc x
  scal : ∀ x y, L2.scal (enc x) (enc y) = true
  inj : ∀ x y, enc x = enc y → x = y
instance : Sc Int := ⟨V.int, fun h => h, fun _ _ => rfl, fun _ _ h => V.int.inj h⟩
instance : Sc Bool := ⟨V.bl, fun h => h, fun _ _ => rfl, fun _ _ h => V.bl.inj h⟩
instance : Sc Str := ⟨V.str, fun h => h, fun _ _ => rfl, fun _ _ h => V.str.inj h⟩
theorem w_eqS [s : @Sc α d] [DecidableEq α] {kb : Bool → Prop} (h : R Y ta Γ d fun x => R Y tb Γ d fun y => kb (decide (x = y))) : W Y (tOp rEq ta tb) Γ dBool kb := fun e F σ H st Q q => h e F σ H st _ fun v1 F1 H1 x h1 g1 r1 => h1 e F1 σ H1 (st.grow g1) _ fun v2 F2 H2 y ky g2 r2 => by
  cases s.isEnc r1
  cases s.isEnc r2
  exact ⟨s.scal x y, q _ F2 H2 _ ky (g1.trans0 g2) (by show V.bl _ = V.bl _; rw [decide_eq_decide.mpr ⟨s.inj x y, fun z => by rw [z]⟩])⟩
theorem w_neS [s : @Sc α d] [DecidableEq α] {kb : Bool → Prop} (h : R Y ta Γ d fun x => R Y tb Γ d fun y => kb (!decide (x = y))) : W Y (tOp rNe ta tb) Γ dBool kb := fun e F σ H st Q q => h e F σ H st _ fun v1 F1 H1 x h1 g1 r1 => h1 e F1 σ H1 (st.grow g1) _ fun v2 F2 H2 y ky g2 r2 => by
  cases s.isEnc r1
  cases s.isEnc r2
  exact ⟨s.scal x y, q _ F2 H2 _ ky (g1.trans0 g2) (by show V.bl _ = V.bl _; rw [decide_eq_decide.mpr ⟨s.inj x y, fun z => by rw [z]⟩])⟩
theorem we_eqS [s : @Sc α d] [DecidableEq α] {m n : M α} (h : Re tx Y ta Γ d m) (h2 : Re tx Y tb Γ d n) : We tx Y (tOp rEq ta tb) Γ dBool (m >>= fun x => n >>= fun y => .ok (decide (x = y))) := we_p2 (fun k h => w_eqS h) h h2
theorem we_neS [s : @Sc α d] [DecidableEq α] {m n : M α} (h : Re tx Y ta Γ d m) (h2 : Re tx Y tb Γ d n) : We tx Y (tOp rNe ta tb) Γ dBool (m >>= fun x => n >>= fun y => .ok (!decide (x = y))) := we_p2 (fun k h => w_neS h) h h2
theorem we_eqD [de : @DE α d] [DecidableEq α] {m n : M α} (hd : de.dep ≤ 64) (h : Re tx Y ta Γ d m) (h2 : Re tx Y tb Γ d n) : We tx Y (tOp (rEqP Y.K) ta tb) Γ dBool (m >>= fun x => n >>= fun y => .ok (decide (x = y))) := we_p2 (fun k h => w_eqD hd h) h h2
theorem we_neD [de : @DE α d] [DecidableEq α] {m n : M α} (hd : de.dep ≤ 64) (h : Re tx Y ta Γ d m) (h2 : Re tx Y tb Γ d n) : We tx Y (tOp (rNeP Y.K) ta tb) Γ dBool (m >>= fun x => n >>= fun y => .ok (!decide (x = y))) := we_p2 (fun k h => w_neD hd h) h h2
/-- a op b op' c, whole numbers -/
theorem we_chain {f f' : Int → Int → Bool} {m n o : M Int} (h : Re tx Y ta Γ dInt m) (h2 : Re tx Y tb Γ dInt n) (h3 : Re tx Y tc Γ dInt o) : We tx Y (tChain (rI0 fun i j => .bl (f i j)) (rI0 fun i j => .bl (f' i j)) ta tb tc) Γ dBool (m >>= fun x => n >>= fun y => if f x y then o >>= fun z => .ok (f' y z) else .ok false) := fun nb xk e F σ H s Q q =>
  (h.k nb xk (k := fun x => R Y tb Γ dInt fun y => (n = .ok y) ∧ ((if f x y = true then o >>= fun z => M.ok (f' y z) else .ok false) : M Bool).nb ∧ XkM tx Y Γ ((if f x y = true then o >>= fun z => M.ok (f' y z) else .ok false) : M Bool) ∧ m = .ok x) fun x e1 nb xk => h2.k nb xk fun y e2 nb xk => ⟨e2, nb, xk, e1⟩) e F σ H s _ fun v1 F1 H1 x hy g1 r1 => hy e F1 σ H1 (s.grow g1) _ fun v2 F2 H2 y ⟨e2, nb, xk, e1⟩ g2 r2 => by
    cases (show v1 = .int x from r1)
    cases (show v2 = .int y from r2)
    refine ⟨x, y, rfl, rfl, f x y, rfl, ?_⟩
    cases hf : f x y with
    | false => 
      rw [if_neg (by simp)]
      exact q _ F2 H2 false (by rw [e1]; show (n >>= _) = _; rw [e2]; show (if f x y = true then _ else _) = _; rw [hf]; rfl) (g1.trans0 g2) rfl
    | true =>
      rw [if_pos rfl]
      rw [hf, if_pos rfl] at nb xk
      refine h3.k nb xk (k := fun z => o = .ok z) (fun z e3 _ _ => e3) e F2 σ H2 ((s.grow g1).grow g2) _ fun v3 F3 H3 z e3 g3 r3 => ?_
      cases (show v3 = .int z from r3)
      exact ⟨y, z, rfl, rfl, q _ F3 H3 _ (by rw [e1]; show (n >>= _) = _; rw [e2]; show (if f x y = true then _ else _) = _; rw [hf, if_pos rfl, e3]; rfl) ((g1.trans0 g2).trans0 g3) rfl⟩
theorem we_chainP {f f' : Int → Int → Bool} {x y z : Int} (h : Re tx Y ta Γ dInt (.ok x)) (h2 : Re tx Y tb Γ dInt (.ok y)) (h3 : Re tx Y tc Γ dInt (.ok z)) : We tx Y (tChain (rI0 fun i j => .bl (f i j)) (rI0 fun i j => .bl (f' i j)) ta tb tc) Γ dBool (.ok (f x y && f' y z)) := we_eq (we_chain h h2 h3) (by
  show (if f x y = true then _ else _) = _
  cases hf : f x y <;> rfl)
/-! tests -/
theorem te_test {m : M Bool} (h : We tx Y te Γ dBool m) : Te tx Y (tTest te) Γ m := fun nb xk => t_test (r_of_w (h nb xk))
theorem te_B {m : M Bool} (h : We tx Y te Γ dBool m) : Te tx Y (tB te) Γ m := fun nb xk => t_B (r_of_w (h nb xk))
theorem te_not {m : M Bool} (h : Te tx Y t Γ m) : Te tx Y (tNot t) Γ (m >>= fun b => .ok (!b)) := fun nb xk => t_not (h.k nb xk fun b e _ _ => by rw [e]; rfl)
theorem te_and {m n : M Bool} (h : Te tx Y t Γ m) (h2 : Te tx Y u Γ n) : Te tx Y (tAnd t u) Γ (m >>= fun b => if b then n else .ok false) := fun nb xk => t_and (h.k nb xk fun b e nb xk => ⟨fun hb => by
  subst hb; exact t_mono (h2 nb xk) fun c ec => by rw [e]; exact ec, fun hb => by subst hb; rw [e]; rfl⟩)
theorem te_or {m n : M Bool} (h : Te tx Y t Γ m) (h2 : Te tx Y u Γ n) : Te tx Y (tOr t u) Γ (m >>= fun b => if b then .ok true else n) := fun nb xk => t_or (h.k nb xk fun b e nb xk => ⟨fun hb => by subst hb; rw [e]; rfl, fun hb => by
  subst hb; exact t_mono (h2 nb xk) fun c ec => by rw [e]; exact ec⟩)
theorem te_andP {a b : Bool} (h : Te tx Y t Γ (.ok a)) (h2 : Te tx Y u Γ (.ok b)) : Te tx Y (tAnd t u) Γ (.ok (a && b)) := te_eq (te_and h h2) (by cases a <;> rfl)
theorem te_orP {a b : Bool} (h : Te tx Y t Γ (.ok a)) (h2 : Te tx Y u Γ (.ok b)) : Te tx Y (tOr t u) Γ (.ok (a || b)) := te_eq (te_or h h2) (by cases a <;> rfl)
theorem we_and {m n : M Bool} (h : We tx Y ta Γ dBool m) (h2 : We tx Y tb Γ dBool n) : We tx Y (tAndV ta tb) Γ dBool (m >>= fun b => if b then n else .ok false) := fun nb xk => w_andV (r_of_w (h.k nb xk fun b e nb xk => ⟨fun hb => by
  subst hb; exact w_mono (h2 nb xk) fun c ec => by rw [e]; exact ec, fun hb => by subst hb; rw [e]; rfl⟩))
theorem we_andP {a b : Bool} (h : We tx Y ta Γ dBool (.ok a)) (h2 : We tx Y tb Γ dBool (.ok b)) : We tx Y (tAndV ta tb) Γ dBool (.ok (a && b)) := we_eq (we_and h h2) (by cases a <;> rfl)
theorem we_not {m : M Bool} (h : We tx Y ta Γ dBool m) : We tx Y (tNotV ta) Γ dBool (m >>= fun b => .ok (!b)) := fun nb xk => w_notV (r_of_w (h.k nb xk fun b e _ _ => by rw [e]; rfl))
theorem te_truL {m : M (List α)} (h : Re tx Y ta Γ (dList (d := d)) m) : Te tx Y (fun σ H Q => ta σ H fun x H' => ∃ k, TruV Y.K x H' k ∧ Q k H') Γ (m >>= fun xs => .ok (!xs.isEmpty)) := fun nb xk => t_truL (h.k nb xk fun x e _ _ => by rw [e]; rfl)
/-! built-ins -/
theorem we_abs {m : M Int} (h : Re tx Y ta Γ dInt m) : We tx Y (tCB (fun xs H Q => ∃ i, xs = [.int i] ∧ Q (.int (if i < 0 then -i else i)) H) (tCons ta tNil)) Γ dInt (m >>= fun x => .ok (if x < 0 then -x else x)) := we_p1 (fun k h => w_abs h) h
theorem we_int1 {m : M Int} (h : Re tx Y ta Γ dInt m) : We tx Y (tCB (fun xs H Q => (∃ i, xs = [.int i] ∧ Q (.int i) H) ∨ ∃ k, xs = [.bl k] ∧ Q (.int (if k then 1 else 0)) H) (tCons ta tNil)) Γ dInt m := we_eq (we_p1 (f := fun x : Int => x) (fun k h => w_int1 h) h) (M.bind_ok m)
theorem we_len {m : M (List α)} (h : Re tx Y ta Γ (dList (d := d)) m) : We tx Y (tCB (fun xs H Q => ∃ p ys, xs = [.ref p] ∧ (SqL Y.K H p ys ∨ SqT Y.K H p ys) ∧ Q (.int ys.length) H) (tCons ta tNil)) Γ dInt (m >>= fun xs => .ok (xs.length : Int)) := we_p1 (f := fun xs : List α => (xs.length : Int)) (fun k h => w_len h) h
theorem we_lenT {m : M (Tup α)} (h : Re tx Y ta Γ (dTup (d := d)) m) : We tx Y (tCB (fun xs H Q => ∃ p ys, xs = [.ref p] ∧ (SqL Y.K H p ys ∨ SqT Y.K H p ys) ∧ Q (.int ys.length) H) (tCons ta tNil)) Γ dInt (m >>= fun xs => .ok (xs.l.length : Int)) := we_p1 (f := fun xs : Tup α => (xs.l.length : Int)) (fun k h => w_lenT h) h
theorem we_lenQ {m : M (Sq α)} (h : Re tx Y ta Γ (dSq (d := d)) m) : We tx Y (tCB (fun xs H Q => ∃ p ys, xs = [.ref p] ∧ (SqL Y.K H p ys ∨ SqT Y.K H p ys) ∧ Q (.int ys.length) H) (tCons ta tNil)) Γ dInt (m >>= fun xs => .ok (xs.l.length : Int)) := we_p1 (f := fun xs : Sq α => (xs.l.length : Int)) (fun k h => w_lenQ h) h
/-! items -/
theorem we_ix {m : M (List α)} {n : M Int} (h : We tx Y ta Γ (dList (d := d)) m) (h2 : Re tx Y tb Γ dInt n) : We tx Y (tOp (rIxL Y.K) ta tb) Γ d (m >>= fun xs => n >>= fun i => M.ix xs i) := we_l2 (fun k h => w_ix h) h h2
theorem we_ixT {m : M (Tup α)} {n : M Int} (h : We tx Y ta Γ (dTup (d := d)) m) (h2 : Re tx Y tb Γ dInt n) : We tx Y (tOp (rIxT Y.K) ta tb) Γ d (m >>= fun xs => n >>= fun i => M.ix xs.l i) := we_l2 (f := fun (xs : Tup α) i => atI xs.l i) (fun k h => w_ixT h) h h2
/-- an item of an owned list -/
theorem we_ixO {pin : Option V} {i : Nat} {xs : List α} {n : M Int} (hi : Γ[i]? = some (.own (dList (d := d)) (oList (d := d)) pin xs)) (h2 : Re tx Y tb Γ dInt n) : We tx Y (tOp (rIxL Y.K) (tVar i) tb) Γ d (n >>= fun i => M.ix xs i) := fun nb xk => w_ixO hi (h2.k nb xk fun y e nb2 _ => by
  cases q : atI xs y with
  | none => unfold M.ix at nb2; rw [q] at nb2; exact absurd rfl nb2
  | some z => exact ⟨z, rfl, by rw [e]; show M.ix _ _ = _; unfold M.ix; rw [q]; rfl⟩)
/-- an item of a tuple of a known length, at a written place -/
theorem atI_c {K : Frag} {H : Hp} {a : Addr} {xs : List V} {F : Hp} (h : TpA K F a xs) (s : Same F H) : SqT K H a xs := (h.mono s).sq
theorem w_fst {k : α → Prop} (h : W Y te Γ (dPair (d1 := d) (d2 := d2)) fun x => k x.1) : W Y (tOp (rIxT Y.K) te (tC (.int 0))) Γ d k := fun e F σ H s Q q => h e F σ H s _ fun v F' H' x kx g ⟨a, v1, v2, ev, ht, r1, r2⟩ => by
  subst ev
  exact ⟨a, _, 0, v1, rfl, rfl, atI_c ht g.fh, rfl, q v1 F' H' _ kx g r1⟩
theorem w_snd {k : β → Prop} (h : W Y te Γ (dPair (d1 := d) (d2 := d2)) fun x => k x.2) : W Y (tOp (rIxT Y.K) te (tC (.int 1))) Γ d2 k := fun e F σ H s Q q => h e F σ H s _ fun v F' H' x kx g ⟨a, v1, v2, ev, ht, r1, r2⟩ => by
  subst ev
  exact ⟨a, _, 1, v2, rfl, rfl, atI_c ht g.fh, rfl, q v2 F' H' _ kx g r2⟩
theorem we_fst {m : M (α × β)} (h : We tx Y te Γ (dPair (d1 := d) (d2 := d2)) m) : We tx Y (tOp (rIxT Y.K) te (tC (.int 0))) Γ d (m >>= fun x => .ok x.1) := we_p1w (fun k h => w_fst h) h
theorem we_snd {m : M (α × β)} (h : We tx Y te Γ (dPair (d1 := d) (d2 := d2)) m) : We tx Y (tOp (rIxT Y.K) te (tC (.int 1))) Γ d2 (m >>= fun x => .ok x.2) := we_p1w (fun k h => w_snd h) h
/-- an item of a tuple of whole numbers, at a computed place -/
def T4.at4 (x : T4 α α α α) (i : Int) : Option α := atI [x.a, x.b, x.c, x.d] i
theorem w_ix4 {k : α → Prop} (h : W Y te Γ (dT4 (d1 := d) (d2 := d) (d3 := d) (d4 := d)) fun x => R Y tb Γ dInt fun i => ∃ y, x.at4 i = some y ∧ k y) : W Y (tOp (rIxT Y.K) te tb) Γ d k := fun e F σ H s Q q => h e F σ H s _ fun v F1 H1 x h1 g ⟨a, v1, v2, v3, v4, ev, ht, r1, r2, r3, r4⟩ => h1 e F1 σ H1 (s.grow g) _ fun w F2 H2 i ⟨y, hy, ky⟩ g2 rw' => by
  subst ev
  cases (show w = .int i from rw')
  obtain ⟨v, hv, rv⟩ := atI_rep (d := d) (C := Y.g) (F := F1) (vs := [v1, v2, v3, v4]) (xs := [x.a, x.b, x.c, x.d]) ⟨r1, r2, r3, r4, trivial⟩ hy
  exact ⟨a, _, i, v, rfl, rfl, atI_c ht (g2.ff.trans g2.fh), hv, q v F2 H2 y ky (g.trans0 g2) (d.mono g2.ff rv)⟩
theorem we_ix4 {m : M (T4 α α α α)} {n : M Int} (h : We tx Y te Γ (dT4 (d1 := d) (d2 := d) (d3 := d) (d4 := d)) m) (h2 : Re tx Y tb Γ dInt n) : We tx Y (tOp (rIxT Y.K) te tb) Γ d (m >>= fun x => n >>= fun i => M.ofO (x.at4 i)) := we_l2 (fun k h => w_ix4 h) h h2
/-! membership -/
/-- x in xs -/
def memB {α : Type} [DecidableEq α] (x : α) (xs : List α) : Bool := decide (x ∈ xs)
theorem memB_iff {α : Type} [DecidableEq α] {x : α} {xs : List α} : memB x xs = true ↔ x ∈ xs := decide_eq_true_iff
theorem w_inD [de : @DE α d] [DecidableEq α] {kb : Bool → Prop} (hd : de.dep + 1 ≤ 64) (h : R Y ta Γ d fun x => R Y tb Γ (dList (d := d)) fun xs => kb (decide (x ∈ xs))) : W Y (tOp (rInP Y.K false) ta tb) Γ dBool kb := fun e F σ H s Q q => h e F σ H s _ fun v1 F1 H1 x h1 g1 r1 => h1 e F1 σ H1 (s.grow g1) _ fun v2 F2 H2 xs ky g2 ⟨a, vs, e2, h2, r2⟩ => by
  subst e2
  refine ⟨de.toD x, xs.map de.toD, de.dp (d.mono g2.hh0 r1), .inl (.lst h2 (dpAll_of r2)), de_shaped (Nat.le_trans (Nat.le_succ _) hd) x, layAll_of xs, q _ F2 H2 _ ky (g1.trans0 g2) ?_⟩
  show V.bl _ = V.bl _
  congr 1
  rw [List.any_map]
  have : (fun z => PyData.eqv (de.toD z) (de.toD x)) = fun z => decide (z = x) := funext fun z => de_eqv z x
  show List.any xs (fun z => PyData.eqv (de.toD z) (de.toD x)) = _
  rw [this, Bool.eq_iff_iff]
  simp
theorem we_inD [de : @DE α d] [DecidableEq α] {m : M α} {n : M (List α)} (hd : de.dep + 1 ≤ 64) (h : Re tx Y ta Γ d m) (h2 : Re tx Y tb Γ (dList (d := d)) n) : We tx Y (tOp (rInP Y.K false) ta tb) Γ dBool (m >>= fun x => n >>= fun xs => .ok (memB x xs)) := we_p2 (f := fun (x : α) xs => memB x xs) (fun k h => w_inD hd h) h h2
theorem we_isi [ty : @Ty α d] {c : String} {b : Bool} {m : M α} (hk : PySem.W.kitOne Y.K (.type ty.tn) (.type c) = some b) (h : Re tx Y ta Γ d m) : We tx Y (tCB (rIsi Y.K) (tCons ta (tCons (tC (.ty c)) tNil))) Γ dBool (m >>= fun _ => .ok b) := we_p1 (f := fun _ : α => b) (fun k h => w_isi hk h) h
/-! tuples, lists -/
theorem we_tup2 {m : M α} {n : M β} (h : We tx Y ta Γ d m) (h2 : We tx Y tb Γ d2 n) : We tx Y (tTup (tCons ta (tCons tb tNil))) Γ (dPair (d1 := d) (d2 := d2)) (m >>= fun x => n >>= fun y => .ok (x, y)) := fun nb xk =>
  w_tup2 (h.k nb xk fun x e nb xk => h2.k nb xk fun y e2 nb xk => by rw [e]; show (n >>= _) = _; rw [e2]; rfl)
theorem we_tup4 {m : M α} {n : M β} {o : M γ} {p : M δ} (h : We tx Y ta Γ d m) (h2 : We tx Y tb Γ d2 n) (h3 : We tx Y tc Γ d3 o) (h4 : We tx Y td Γ d4 p) : We tx Y (tTup (tCons ta (tCons tb (tCons tc (tCons td tNil))))) Γ (dT4 (d1 := d) (d2 := d2) (d3 := d3) (d4 := d4)) (m >>= fun x => n >>= fun y => o >>= fun z => p >>= fun u => .ok ⟨x, y, z, u⟩) := fun nb xk =>
  w_tup4 (h.k nb xk fun x e nb xk => h2.k nb xk fun y e2 nb xk => h3.k nb xk fun z e3 nb xk => h4.k nb xk fun u e4 nb xk => by rw [e]; show (n >>= _) = _; rw [e2]; show (o >>= _) = _; rw [e3]; show (p >>= _) = _; rw [e4]; rfl)
def WLe (tx : XC → Addr) (Y : YC) (ta : TA) (Γ : List Cell) {α : Type} (d : Dat α) (m : M (List α)) : Prop := m.nb → XkM tx Y Γ m → WL Y ta Γ d (m = .ok ·)
theorem wl_mono {tl : TA} {k k' : List α → Prop} (h : WL Y tl Γ d k) (m : ∀ x, k x → k' x) : WL Y tl Γ d k' := fun e F σ H s Q q => h e F σ H s Q fun v F' H' x kx g r => q v F' H' x (m x kx) g r
theorem wle_nil : WLe tx Y tNil Γ d (.ok []) := fun _ _ => wl_nil rfl
theorem wle_cons {tr : TA} {m : M α} {n : M (List α)} (h : We tx Y te Γ d m) (h2 : WLe tx Y tr Γ d n) : WLe tx Y (tCons te tr) Γ d (m >>= fun x => n >>= fun xs => .ok (x :: xs)) := fun nb xk => wl_cons (h.k nb xk fun x e nb xk => wl_mono (h2 (M.nb1 nb) xk.l) fun xs e2 => by rw [e]; show (n >>= _) = _; rw [e2]; rfl)
theorem oe_lst {tl : TA} {m : M (List α)} (h : WLe tx Y tl Γ d m) (hl : ∀ xs, m = .ok xs → xs.length ≤ PySem.sizeLine) : Oe tx Y (tLst tl) Γ (oList (d := d)) m := fun nb xk => o_lst (wl_mono (h nb xk) fun xs e => ⟨hl xs e, e⟩)
theorem oe_lst0 : Oe tx Y (tLst tNil) Γ (oList (d := d)) (.ok []) := fun _ _ => o_nil rfl
def asLen (n : Nat) (m : M (List α)) : Prop := ∀ xs, m = .ok xs → xs.length = n
theorem asLen0 : asLen 0 (.ok ([] : List α)) := fun xs e => by cases e; rfl
theorem asLenS {n : Nat} {m : M α} {o : M (List α)} (h : asLen n o) : asLen (n + 1) (m >>= fun x => o >>= fun xs => .ok (x :: xs)) := fun xs e => by
  cases m with
  | bad => cases e
  | exc x => cases e
  | ok x => cases ho : o with
    | bad => rw [ho] at e; cases e
    | exc x => rw [ho] at e; cases e
    | ok ys => rw [ho] at e; cases e; simp [h ys ho]
theorem oe_lstN {n : Nat} {tl : TA} {m : M (List α)} (h : WLe tx Y tl Γ d m) (hl : asLen n m) (hn : n ≤ 1000) : Oe tx Y (tLst tl) Γ (oList (d := d)) m := oe_lst h fun xs e => by rw [hl xs e]; exact Nat.le_of_lt (small1k (by omega))
theorem oe_listOf {m : M (List α)} (h : We tx Y ta Γ (dList (d := d)) m) : Oe tx Y (tCB (fun xs H Q => ∃ p ys, xs = [.ref p] ∧ (SqL Y.K H p ys ∨ SqT Y.K H p ys) ∧ ∀ l, H l = none → Q (.ref l) (upd H l (.lst ys))) (tCons ta tNil)) Γ (oList (d := d)) m := oe_eq (oe_p1w (f := fun x : List α => x) (fun k h => o_listOf h) h) (M.bind_ok m)
theorem oe_listOfT {m : M (Tup α)} (h : We tx Y ta Γ (dTup (d := d)) m) : Oe tx Y (tCB (fun xs H Q => ∃ p ys, xs = [.ref p] ∧ (SqL Y.K H p ys ∨ SqT Y.K H p ys) ∧ ∀ l, H l = none → Q (.ref l) (upd H l (.lst ys))) (tCons ta tNil)) Γ (oList (d := d)) (m >>= fun xs => .ok xs.l) := oe_p1w (f := fun x : Tup α => x.l) (fun k h => o_listOfT h) h
theorem we_tupOf {m : M (List α)} (h : We tx Y ta Γ (dList (d := d)) m) : We tx Y (tCB (fun xs H Q => ∃ p ys, xs = [.ref p] ∧ ((SqL Y.K H p ys ∧ ∀ l, H l = none → Q (.ref l) (upd H l (.tup ys))) ∨ (SqT Y.K H p ys ∧ Q (.ref p) H))) (tCons ta tNil)) Γ (dTup (d := d)) (m >>= fun xs => .ok ⟨xs⟩) := we_p1w (f := fun x : List α => (⟨x⟩ : Tup α)) (fun k h => w_tupOf h) h
/-! slices -/
/-! fields -/
theorem we_fld {C0 : Addr} {f : Str} {g : α → β} {m : M α} (hf : IsF d C0 f d2 g) (c : Cls Y.K C0) (n : NoAttr Y.K C0 f) (h : We tx Y te Γ d m) : We tx Y (tFld Y.K te f) Γ d2 (m >>= fun x => .ok (g x)) := we_p1w (fun k h => w_fld hf c n h) h
theorem we_con {C0 : Addr} {f : Str} {ns : List Str} {n : Int} {u : Value} {m : M α} (hf : IsI d C0 ns) (c : Cls Y.K C0) (k0 : Con Y.K C0 f (.int n) u) (hn : f ∉ ns) (h : Re tx Y te Γ d m) : We tx Y (tCon Y.K te f) Γ dInt (m >>= fun _ => .ok n) := we_p1 (f := fun _ : α => n) (fun k h => w_con hf c k0 hn h) h
end
section
variable {tx : XC → Addr} {Y : YC} {Γ : List Cell} {β : Type} {d : Dat β} {t1 t2 t3 t4 t5 t6 t7 : TE} {sp : Sp} {E : L2.St → XK}
variable {α0 α1 α2 α3 α4 α5 α6 α7 : Type} {d0 : Dat α0} {d1 : Dat α1} {d2 : Dat α2} {d3 : Dat α3} {d4 : Dat α4} {d5 : Dat α5} {d6 : Dat α6} {d7 : Dat α7} {m0 : M α0} {m1 : M α1} {m2 : M α2} {m3 : M α3} {m4 : M α4} {m5 : M α5} {m6 : M α6} {m7 : M α7} {t0 : TE}
theorem we_call1 {f : α1 → M β} (hs : ∀ x1, (f x1).nb → SpX Y.g sp [.val d1 x1] (fun c => ∃ r, c = .val d r ∧ (f x1) = .ok r) fun x => ∃ px, (f x1) = .exc px ∧ x = px.x tx) (hE : E = Y.E) (h1 : We tx Y t1 Γ d1 m1) : We tx Y (tCallS sp E (tCons t1 tNil)) Γ d (m1 >>= fun x1 => f x1) := fun nb xk => w_callX hE (wa_cons (h1.k nb xk fun x1 e1 nb xk => wa_nil fun vs H Q E fx => hs x1 nb vs H Q E (fx.mono (fun c ⟨r, e, q⟩ => ⟨r, e, by rw [e1]; exact q⟩) fun x ⟨px, e, q⟩ => q ▸ xk px e)))
theorem we_call2 {f : α1 → α2 → M β} (hs : ∀ x1 x2, (f x1 x2).nb → SpX Y.g sp [.val d1 x1, .val d2 x2] (fun c => ∃ r, c = .val d r ∧ (f x1 x2) = .ok r) fun x => ∃ px, (f x1 x2) = .exc px ∧ x = px.x tx) (hE : E = Y.E) (h1 : We tx Y t1 Γ d1 m1) (h2 : We tx Y t2 Γ d2 m2) : We tx Y (tCallS sp E (tCons t1 (tCons t2 tNil))) Γ d (m1 >>= fun x1 => m2 >>= fun x2 => f x1 x2) := fun nb xk => w_callX hE (wa_cons (h1.k nb xk fun x1 e1 nb xk => wa_cons (h2.k nb xk fun x2 e2 nb xk => wa_nil fun vs H Q E fx => hs x1 x2 nb vs H Q E (fx.mono (fun c ⟨r, e, q⟩ => ⟨r, e, by rw [e1]; show (m2 >>= _) = _; rw [e2]; exact q⟩) fun x ⟨px, e, q⟩ => q ▸ xk px e))))
theorem we_call3 {f : α1 → α2 → α3 → M β} (hs : ∀ x1 x2 x3, (f x1 x2 x3).nb → SpX Y.g sp [.val d1 x1, .val d2 x2, .val d3 x3] (fun c => ∃ r, c = .val d r ∧ (f x1 x2 x3) = .ok r) fun x => ∃ px, (f x1 x2 x3) = .exc px ∧ x = px.x tx) (hE : E = Y.E) (h1 : We tx Y t1 Γ d1 m1) (h2 : We tx Y t2 Γ d2 m2) (h3 : We tx Y t3 Γ d3 m3) : We tx Y (tCallS sp E (tCons t1 (tCons t2 (tCons t3 tNil)))) Γ d (m1 >>= fun x1 => m2 >>= fun x2 => m3 >>= fun x3 => f x1 x2 x3) := fun nb xk => w_callX hE (wa_cons (h1.k nb xk fun x1 e1 nb xk => wa_cons (h2.k nb xk fun x2 e2 nb xk => wa_cons (h3.k nb xk fun x3 e3 nb xk => wa_nil fun vs H Q E fx => hs x1 x2 x3 nb vs H Q E (fx.mono (fun c ⟨r, e, q⟩ => ⟨r, e, by rw [e1]; show (m2 >>= _) = _; rw [e2]; show (m3 >>= _) = _; rw [e3]; exact q⟩) fun x ⟨px, e, q⟩ => q ▸ xk px e)))))
theorem we_call4 {f : α1 → α2 → α3 → α4 → M β} (hs : ∀ x1 x2 x3 x4, (f x1 x2 x3 x4).nb → SpX Y.g sp [.val d1 x1, .val d2 x2, .val d3 x3, .val d4 x4] (fun c => ∃ r, c = .val d r ∧ (f x1 x2 x3 x4) = .ok r) fun x => ∃ px, (f x1 x2 x3 x4) = .exc px ∧ x = px.x tx) (hE : E = Y.E) (h1 : We tx Y t1 Γ d1 m1) (h2 : We tx Y t2 Γ d2 m2) (h3 : We tx Y t3 Γ d3 m3) (h4 : We tx Y t4 Γ d4 m4) : We tx Y (tCallS sp E (tCons t1 (tCons t2 (tCons t3 (tCons t4 tNil))))) Γ d (m1 >>= fun x1 => m2 >>= fun x2 => m3 >>= fun x3 => m4 >>= fun x4 => f x1 x2 x3 x4) := fun nb xk => w_callX hE (wa_cons (h1.k nb xk fun x1 e1 nb xk => wa_cons (h2.k nb xk fun x2 e2 nb xk => wa_cons (h3.k nb xk fun x3 e3 nb xk => wa_cons (h4.k nb xk fun x4 e4 nb xk => wa_nil fun vs H Q E fx => hs x1 x2 x3 x4 nb vs H Q E (fx.mono (fun c ⟨r, e, q⟩ => ⟨r, e, by rw [e1]; show (m2 >>= _) = _; rw [e2]; show (m3 >>= _) = _; rw [e3]; show (m4 >>= _) = _; rw [e4]; exact q⟩) fun x ⟨px, e, q⟩ => q ▸ xk px e))))))
theorem we_call5 {f : α1 → α2 → α3 → α4 → α5 → M β} (hs : ∀ x1 x2 x3 x4 x5, (f x1 x2 x3 x4 x5).nb → SpX Y.g sp [.val d1 x1, .val d2 x2, .val d3 x3, .val d4 x4, .val d5 x5] (fun c => ∃ r, c = .val d r ∧ (f x1 x2 x3 x4 x5) = .ok r) fun x => ∃ px, (f x1 x2 x3 x4 x5) = .exc px ∧ x = px.x tx) (hE : E = Y.E) (h1 : We tx Y t1 Γ d1 m1) (h2 : We tx Y t2 Γ d2 m2) (h3 : We tx Y t3 Γ d3 m3) (h4 : We tx Y t4 Γ d4 m4) (h5 : We tx Y t5 Γ d5 m5) : We tx Y (tCallS sp E (tCons t1 (tCons t2 (tCons t3 (tCons t4 (tCons t5 tNil)))))) Γ d (m1 >>= fun x1 => m2 >>= fun x2 => m3 >>= fun x3 => m4 >>= fun x4 => m5 >>= fun x5 => f x1 x2 x3 x4 x5) := fun nb xk => w_callX hE (wa_cons (h1.k nb xk fun x1 e1 nb xk => wa_cons (h2.k nb xk fun x2 e2 nb xk => wa_cons (h3.k nb xk fun x3 e3 nb xk => wa_cons (h4.k nb xk fun x4 e4 nb xk => wa_cons (h5.k nb xk fun x5 e5 nb xk => wa_nil fun vs H Q E fx => hs x1 x2 x3 x4 x5 nb vs H Q E (fx.mono (fun c ⟨r, e, q⟩ => ⟨r, e, by rw [e1]; show (m2 >>= _) = _; rw [e2]; show (m3 >>= _) = _; rw [e3]; show (m4 >>= _) = _; rw [e4]; show (m5 >>= _) = _; rw [e5]; exact q⟩) fun x ⟨px, e, q⟩ => q ▸ xk px e)))))))
theorem we_meth1 {C0 : Addr} {mn : Str} {ns : List Str} {f : α0 → α1 → M β} (hs : ∀ x0 x1, (f x0 x1).nb → SpX Y.g sp [.val d0 x0, .val d1 x1] (fun c => ∃ r, c = .val d r ∧ (f x0 x1) = .ok r) fun x => ∃ px, (f x0 x1) = .exc px ∧ x = px.x tx) (hE : E = Y.E) (hI : IsI d0 C0 ns) (hm : mn ∉ ns) (h0 : We tx Y t0 Γ d0 m0) (h1 : We tx Y t1 Γ d1 m1) : We tx Y (tMethE C0 mn sp E t0 (tCons t1 tNil)) Γ d (m0 >>= fun x0 => m1 >>= fun x1 => f x0 x1) := fun nb xk => w_methE hE hI hm (h0.k nb xk fun x0 e0 nb xk => wa_cons (h1.k nb xk fun x1 e1 nb xk => wa_nil fun vs H Q E fx => hs x0 x1 nb vs H Q E (fx.mono (fun c ⟨r, e, q⟩ => ⟨r, e, by rw [e0]; show (m1 >>= _) = _; rw [e1]; exact q⟩) fun x ⟨px, e, q⟩ => q ▸ xk px e)))
theorem oe_call2 {od : @OD β d} {f : α1 → α2 → M β} (hs : ∀ x1 x2, (f x1 x2).nb → SpX Y.g sp [.val d1 x1, .val d2 x2] (fun c => ∃ r, c = .own d od none r ∧ (f x1 x2) = .ok r) fun x => ∃ px, (f x1 x2) = .exc px ∧ x = px.x tx) (hE : E = Y.E) (h1 : We tx Y t1 Γ d1 m1) (h2 : We tx Y t2 Γ d2 m2) : Oe tx Y (tCallS sp E (tCons t1 (tCons t2 tNil))) Γ od (m1 >>= fun x1 => m2 >>= fun x2 => f x1 x2) := fun nb xk => o_callX hE (wa_cons (h1.k nb xk fun x1 e1 nb xk => wa_cons (h2.k nb xk fun x2 e2 nb xk => wa_nil fun vs H Q E fx => hs x1 x2 nb vs H Q E (fx.mono (fun c ⟨r, e, q⟩ => ⟨r, e, by rw [e1]; show (m2 >>= _) = _; rw [e2]; exact q⟩) fun x ⟨px, e, q⟩ => q ▸ xk px e))))
theorem oe_call3 {od : @OD β d} {f : α1 → α2 → α3 → M β} (hs : ∀ x1 x2 x3, (f x1 x2 x3).nb → SpX Y.g sp [.val d1 x1, .val d2 x2, .val d3 x3] (fun c => ∃ r, c = .own d od none r ∧ (f x1 x2 x3) = .ok r) fun x => ∃ px, (f x1 x2 x3) = .exc px ∧ x = px.x tx) (hE : E = Y.E) (h1 : We tx Y t1 Γ d1 m1) (h2 : We tx Y t2 Γ d2 m2) (h3 : We tx Y t3 Γ d3 m3) : Oe tx Y (tCallS sp E (tCons t1 (tCons t2 (tCons t3 tNil)))) Γ od (m1 >>= fun x1 => m2 >>= fun x2 => m3 >>= fun x3 => f x1 x2 x3) := fun nb xk => o_callX hE (wa_cons (h1.k nb xk fun x1 e1 nb xk => wa_cons (h2.k nb xk fun x2 e2 nb xk => wa_cons (h3.k nb xk fun x3 e3 nb xk => wa_nil fun vs H Q E fx => hs x1 x2 x3 nb vs H Q E (fx.mono (fun c ⟨r, e, q⟩ => ⟨r, e, by rw [e1]; show (m2 >>= _) = _; rw [e2]; show (m3 >>= _) = _; rw [e3]; exact q⟩) fun x ⟨px, e, q⟩ => q ▸ xk px e)))))
theorem oe_call4 {od : @OD β d} {f : α1 → α2 → α3 → α4 → M β} (hs : ∀ x1 x2 x3 x4, (f x1 x2 x3 x4).nb → SpX Y.g sp [.val d1 x1, .val d2 x2, .val d3 x3, .val d4 x4] (fun c => ∃ r, c = .own d od none r ∧ (f x1 x2 x3 x4) = .ok r) fun x => ∃ px, (f x1 x2 x3 x4) = .exc px ∧ x = px.x tx) (hE : E = Y.E) (h1 : We tx Y t1 Γ d1 m1) (h2 : We tx Y t2 Γ d2 m2) (h3 : We tx Y t3 Γ d3 m3) (h4 : We tx Y t4 Γ d4 m4) : Oe tx Y (tCallS sp E (tCons t1 (tCons t2 (tCons t3 (tCons t4 tNil))))) Γ od (m1 >>= fun x1 => m2 >>= fun x2 => m3 >>= fun x3 => m4 >>= fun x4 => f x1 x2 x3 x4) := fun nb xk => o_callX hE (wa_cons (h1.k nb xk fun x1 e1 nb xk => wa_cons (h2.k nb xk fun x2 e2 nb xk => wa_cons (h3.k nb xk fun x3 e3 nb xk => wa_cons (h4.k nb xk fun x4 e4 nb xk => wa_nil fun vs H Q E fx => hs x1 x2 x3 x4 nb vs H Q E (fx.mono (fun c ⟨r, e, q⟩ => ⟨r, e, by rw [e1]; show (m2 >>= _) = _; rw [e2]; show (m3 >>= _) = _; rw [e3]; show (m4 >>= _) = _; rw [e4]; exact q⟩) fun x ⟨px, e, q⟩ => q ▸ xk px e))))))
theorem oe_meth1 {od : @OD β d} {C0 : Addr} {mn : Str} {ns : List Str} {f : α0 → α1 → M β} (hs : ∀ x0 x1, (f x0 x1).nb → SpX Y.g sp [.val d0 x0, .val d1 x1] (fun c => ∃ r, c = .own d od none r ∧ (f x0 x1) = .ok r) fun x => ∃ px, (f x0 x1) = .exc px ∧ x = px.x tx) (hE : E = Y.E) (hI : IsI d0 C0 ns) (hm : mn ∉ ns) (h0 : We tx Y t0 Γ d0 m0) (h1 : We tx Y t1 Γ d1 m1) : Oe tx Y (tMethE C0 mn sp E t0 (tCons t1 tNil)) Γ od (m0 >>= fun x0 => m1 >>= fun x1 => f x0 x1) := fun nb xk => o_methE hE hI hm (h0.k nb xk fun x0 e0 nb xk => wa_cons (h1.k nb xk fun x1 e1 nb xk => wa_nil fun vs H Q E fx => hs x0 x1 nb vs H Q E (fx.mono (fun c ⟨r, e, q⟩ => ⟨r, e, by rw [e0]; show (m1 >>= _) = _; rw [e1]; exact q⟩) fun x ⟨px, e, q⟩ => q ▸ xk px e)))
theorem oe_make2 {od : @OD β d} {C0 : Addr} {f : α1 → α2 → M β} (hs : ∀ x1 x2, (f x1 x2).nb → SpI Y.g sp od C0 [.val d1 x1, .val d2 x2] (fun r => (f x1 x2) = .ok r) fun x => ∃ px, (f x1 x2) = .exc px ∧ x = px.x tx) (hE : E = Y.E) (h1 : We tx Y t1 Γ d1 m1) (h2 : We tx Y t2 Γ d2 m2) : Oe tx Y (tMakeS C0 sp E (tCons t1 (tCons t2 tNil))) Γ od (m1 >>= fun x1 => m2 >>= fun x2 => f x1 x2) := fun nb xk => o_makeS hE (wa_cons (h1.k nb xk fun x1 e1 nb xk => wa_cons (h2.k nb xk fun x2 e2 nb xk => wa_nil fun vs H Q E fx => hs x1 x2 nb vs H Q E (fx.mono (fun r q => by rw [e1]; show (m2 >>= _) = _; rw [e2]; exact q) fun x ⟨px, e, q⟩ => q ▸ xk px e))))
/-- a static method by its class -/
theorem we_sm {C0 : Addr} {tl : TA} {m : M β} (h : We tx Y (tCallS sp E tl) Γ d m) : We tx Y (tSMethE C0 sp E (tC (.ref C0)) tl) Γ d m := fun nb xk e F σ H s Q q => ⟨rfl, h nb xk e F σ H s Q q⟩
/-- x in o, by its own __contains__ -/
theorem we_inO {C0 : Addr} {ns : List Str} {b0 : Bool} {f : α2 → α1 → M Bool} (hs : ∀ y x, (f y x).nb → SpX Y.g sp [.val d2 y, .val d1 x] (fun c => ∃ r, c = .val dBool r ∧ f y x = .ok r) fun x' => ∃ px, f y x = .exc px ∧ x' = px.x tx) (hI : IsI d2 C0 ns) (h1 : We tx Y t1 Γ d1 m1) (h2 : We tx Y t2 Γ d2 m2) :
    We tx Y (tOp (rInO C0 sp b0) t1 t2) Γ dBool (m1 >>= fun x => m2 >>= fun y => M.calm (f y x) >>= fun b => .ok (if b0 then !b else b)) := fun nb xk => w_inO hI (h1.k nb xk fun x e1 nb xk => h2.k nb xk fun y e2 nb xk => fun vs H Q E fx => by
  obtain ⟨b, eb⟩ := M.calm_nb (M.nb1 nb)
  refine hs y x (by rw [eb]; exact fun z => nomatch z) vs H Q E (fx.mono (fun c ⟨r, e, q⟩ => ⟨r, e, ?_⟩) fun x' ⟨px, e, q⟩ => by rw [eb] at e; cases e)
  rw [eb] at q
  cases q
  rw [e1]; show (m2 >>= _) = _; rw [e2]; show (M.calm (f y x) >>= _) = _; rw [eb]; rfl)
end
end G
end

noncomputable section
/-! M2: what is walked, comprehensions, statements: with models. -/
namespace L2
open PySem PySem.Spec PyProof.Rows
section
variable {X : Cx}
/-- what is walked is no longer than a line -/
def iListB (K : PySem.W.Frag) (tl : TE) : TI := fun σ H R => tl σ H fun x H1 => ∃ a xs, x = .ref a ∧ SqL K H1 a xs ∧ (xs.length ≤ sizeLine → R (Itl K a) H1)
theorem pi_listB {tg l : Expr} {tl : TE} (hl : PE X l tl) : PI X tg l (iListB X.K tl) := ⟨fun pins s σ H R I h => thn (hl.run pins s σ H _ I h) fun v s1 ⟨x, H1, I1, r1, a, xs, e, hq, q⟩ => by
  subst e
  cases r1
  obtain ⟨its, rv, p, hz⟩ := I1.list hq
  exact wpAny_pyIter_list p.isList (born I1 (turn_list a _) ⟨_, Heap.get?_push_size _ rfl, rfl, rfl⟩ (q hz))⟩
theorem pi_lB (K : PySem.W.Frag) {tg l : Expr} {tl : TE} (hl : PE X l tl) (h : X.K = K := by rfl) : PI X tg l (iListB K tl) := h ▸ pi_listB hl
end
end L2
namespace G
open PySem PySem.Spec PyProof.Rows L2 PySem.W
section
variable {tx : XC → Addr} {Y : YC} {Γ : List Cell} {te ta tb tc td tl : TE} {t u tt : TT} {α β γ δ ε σ τ ρ : Type} {d : Dat α} {d1 : Dat α} {d2 : Dat β} {d3 : Dat γ} {g : TG} {ts t1 t2 rest : TS} {js js' vs : List Nat}
/-! ### what a for walks -/
def Ie (tx : XC → Addr) (Y : YC) (ti : TI) (Γ : List Cell) {α : Type} (d : Dat α) (m : M (List α)) : Prop := m.nb → XkM tx Y Γ m → ∀ (g : TG) (ts : TS) (k : Ks), (∀ xs, m = .ok xs → Body Y g ts d k (fun i => xs[i]?) xs.length Γ) → Z Y (tFor ti g ts) Γ k
theorem ie_eq {ti : TI} {m m' : M (List α)} (h : Ie tx Y ti Γ d m) (e : m = m') : Ie tx Y ti Γ d m' := e ▸ h
theorem ie_list {m : M (List α)} (h : We tx Y tl Γ (dList (d := d)) m) : Ie tx Y (iList Y.K tl) Γ d m := fun nb xk g ts k hb => z_for (w_mono (h nb xk) fun xs e => hb xs e)
theorem ie_range {m : M Int} (h : Re tx Y ta Γ dInt m) : Ie tx Y (iRng1 (tCons ta tNil)) Γ dInt (m >>= M.range) := fun nb xk g ts k hb => z_range (h.k nb xk fun n e nb2 _ => by
  have hp := M.asrt_nb nb2
  refine ⟨hp.1, Int.lt_of_le_of_lt hp.2 (by decide), ?_⟩
  have := hb (rngL 0 n.toNat) (by rw [e]; exact M.asrt_pos hp)
  rw [rngL_len] at this
  rw [show rng 0 n.toNat = fun i => (rngL 0 n.toNat)[i]? from funext fun i => rng_get 0 n.toNat i]
  exact this)
theorem ie_enum {m : M (List α)} (h : We tx Y te Γ (dList (d := d)) m) : Ie tx Y (iEnum Y.K (tCons te tNil)) Γ (dPair (d1 := dInt) (d2 := d)) (m >>= fun xs => .ok (M.enumL xs)) := fun nb xk g ts k hb => z_enum (h.k nb xk fun xs e _ _ => by
  have := hb (M.enumL xs) (by rw [e]; rfl)
  rw [M.enumL_len] at this
  rw [show enumI xs = fun i => (M.enumL xs)[i]? from funext fun i => M.enumL_get xs i]
  exact this)
theorem ie_enumT {m : M (Tup α)} (h : We tx Y te Γ (dTup (d := d)) m) : Ie tx Y (iEnumT Y.K (tCons te tNil)) Γ (dPair (d1 := dInt) (d2 := d)) (m >>= fun xs => .ok (M.enumL xs.l)) := fun nb xk g ts k hb => z_enumT (h.k nb xk fun xs e _ _ => by
  have := hb (M.enumL xs.l) (by rw [e]; rfl)
  rw [M.enumL_len] at this
  rw [show enumI xs.l = fun i => (M.enumL xs.l)[i]? from funext fun i => M.enumL_get xs.l i]
  exact this)
/-! ### comprehensions -/
def Ic (tx : XC → Addr) (Y : YC) (ti : TI) (Γ : List Cell) {α : Type} (d : Dat α) (m : M (List α)) : Prop := m.nb → XkM tx Y Γ m → ∀ {β : Type} (d2 : Dat β) (g : TG) (tt : TT) (te : TE) (vs : List Nat) (kx : List β → Prop), (Tg g vs ∧ MoG g) →
  (∀ xs, m = .ok xs → xs.length ≤ PySem.sizeLine → CompB Y g tt te d d2 kx (fun i => xs[i]?) xs.length (wipeC Γ vs)) → O Y (tLc ti g tt te vs) Γ (oList (d := d2)) kx
theorem ic_list {m : M (List α)} (h : We tx Y tl Γ (dList (d := d)) m) : Ic tx Y (iListB Y.K tl) Γ d m := fun nb xk β d2 g tt te vs kx hT hb e F σ H s Q q => h nb xk e F σ H s _ fun v F1 H1 xs hm g1 ⟨a, us, e1, hq, r⟩ => by
  subst e1
  refine ⟨a, us, rfl, g1.fh.seq hq, fun hz D hD => ?_⟩
  obtain ⟨I, h0, hs, hd⟩ := hb xs hm (by rw [← r.len]; exact hz)
  have kw0 : Wk ⟨F1, H1, []⟩ F1 [(D, .lst [])] (upd H1 D (.lst [])) := g1.base.own hD (fun _ z => by cases z)
  refine lc_list (K := Y.K) (a := a) (xs := us) (fun i H => ∃ F' acc ys, Wk ⟨F1, H1, []⟩ F' [(D, .lst acc)] H ∧ Reps d2 Y.g F' acc ys ∧ I i ys) ⟨F1, [], [], kw0, trivial, h0⟩ (fun i H _ ⟨F', acc, ys, kw, _⟩ => (kw.ff.trans kw.fh).seq hq) (fun i w H hw p => ?_) fun H ⟨F', acc, ys, kw, ra, hi⟩ => ?_
  · obtain ⟨x, hx, rx⟩ := r.getV hw
    exact comp_turn (s.grow g1) hT.1 (hs i x · hx) (fun F' sm => d.mono sm rx) p
  · rw [r.len] at hi
    exact q _ F' H _ ys (hd ys hi) (by simpa using g1.trans kw) ⟨D, acc, rfl, rfl, ra⟩
theorem ic_range {m : M Int} (h : Re tx Y ta Γ dInt m) : Ic tx Y (iRng1 (tCons ta tNil)) Γ dInt (m >>= M.range) := fun nb xk β d2 g tt te vs kx hT hb => o_lcR hT (h.k nb xk fun n e nb2 _ => by
  have hp := M.asrt_nb nb2
  refine ⟨hp.1, Int.lt_of_le_of_lt hp.2 (by decide), ?_⟩
  have := hb (rngL 0 n.toNat) (by rw [e]; exact M.asrt_pos hp) (by rw [rngL_len]; have := hp.2; omega)
  rw [rngL_len] at this
  rw [show rng 0 n.toNat = fun i => (rngL 0 n.toNat)[i]? from funext fun i => rng_get 0 n.toNat i]
  exact this)
theorem te_yes : Te tx Y tYes Γ (.ok true) := fun _ _ => t_yes rfl
theorem oe_lc {ti : TI} {m0 : M (List α)} {p : α → M Bool} {f : α → M β} (hT : Tg g vs ∧ MoG g) (h : Ic tx Y ti Γ d m0) (hb : ∀ x, A Y g (wipeC Γ vs) d x fun Γ2 => Te tx (calm Y.g) tt Γ2 (p x) ∧ We tx (calm Y.g) te Γ2 d2 (f x)) :
    Oe tx Y (tLc ti g tt te vs) Γ (oList (d := d2)) (m0 >>= M.comp p f) := fun nb xk => h (M.nb1 nb) xk.l d2 g tt te vs _ hT fun xs e hz => by
  have nb2 : (M.comp p f xs).nb := M.nb2 nb e
  refine ⟨fun i ys => M.comp p f (xs.take i) = .ok ys ∧ ys.length ≤ i, ⟨rfl, Nat.le_refl _⟩, fun i x ys hx ⟨hi, hl⟩ => ?_, fun ys ⟨hi, _⟩ => ?_⟩
  · have hx' : xs[i]? = some x := hx
    have hlt : i < xs.length := (List.getElem?_eq_some_iff.mp hx').1
    have htk : xs.take (i + 1) = xs.take i ++ [x] := by rw [List.take_add_one, hx']; rfl
    have e1 : M.comp p f (xs.take (i + 1)) = (M.comp p f [x] >>= fun b => .ok (ys ++ b)) := by rw [htk, M.comp_app, hi]; rfl
    have nb3 : (M.comp p f [x]).nb := fun z => nb2 (by
      have : xs = xs.take (i + 1) ++ xs.drop (i + 1) := (List.take_append_drop _ _).symm
      rw [this, M.comp_app, e1, z]; rfl)
    intro e0 F σ0 H v s r Q q
    refine hb x e0 F σ0 H v s r Q fun σ' Γ' ⟨ht, hw⟩ s' => q σ' Γ' ?_ s'
    simp only [M.comp] at nb3 e1
    obtain ⟨b, hb1⟩ := M.calm_nb (M.nb1 nb3)
    rw [hb1] at nb3 e1
    simp only [M.calm_of_ok, M.ok_bind] at nb3 e1
    refine t_mono (t_calm (ht (by rw [hb1]; exact fun z => nomatch z) (by rw [hb1]; exact XkM.ok))) fun b' eb => ⟨fun z => ?_, fun z => ?_⟩
    · rw [hb1] at eb
      cases eb
      subst z
      rw [if_pos rfl] at nb3 e1
      obtain ⟨y, hy⟩ := M.calm_nb (M.nb1 nb3)
      rw [hy] at e1
      refine w_mono (w_calm (hw (by rw [hy]; exact fun z => nomatch z) (by rw [hy]; exact XkM.ok))) fun y' ey => ?_
      rw [hy] at ey
      cases ey
      exact ⟨by omega, e1, by simp; omega⟩
    · rw [hb1] at eb
      cases eb
      subst z
      rw [if_neg (by simp)] at e1
      exact ⟨by rw [e1]; simp, by omega⟩
  · rw [List.take_length] at hi
    rw [e]
    exact hi
/-! ### statements -/
theorem wipeC_len (Γ : List Cell) : ∀ js, (wipeC Γ js).length = Γ.length
  | [] => rfl
  | j :: js => by unfold wipeC; rw [List.length_set, wipeC_len Γ js]
theorem wipeC_set {Γ : List Cell} {i : Nat} {c : Cell} : ∀ {js : List Nat}, i ∈ js → wipeC (Γ.set i c) js = wipeC Γ js
  | [], h => nomatch h
  | j :: js, h => by
    unfold wipeC
    by_cases hi : i ∈ js
    · rw [wipeC_set hi]
    · have e : i = j := by
        rcases List.mem_cons.mp h with h | h
        · exact h
        · exact absurd h hi
      subst e
      have q : ∀ (js : List Nat), i ∉ js → wipeC (Γ.set i c) js = (wipeC Γ js).set i c := by
        intro js
        induction js with
        | nil => intro _; rfl
        | cons m js ih =>
          intro h
          unfold wipeC
          rw [ih (fun z => h (List.mem_cons_of_mem _ z)), set_comm _ _ _ (fun z => h (by rw [z]; exact List.mem_cons_self))]
      rw [q js hi]
      exact List.set_set _
theorem z_wipe {k : Ks} : ∀ (js : List Nat) {Γ : List Cell}, Z Y ts (wipeC Γ js) k → Z Y ts Γ k
  | [], _, h => h
  | j :: js, Γ, h => by
    refine z_wipe js ?_
    unfold wipeC at h
    cases q : (wipeC Γ js)[j]? with
    | some c => exact z_forget j q h
    | none =>
      rw [List.set_eq_of_length_le (List.getElem?_eq_none_iff.mp q)] at h
      exact h
structure Kt (τ : Type) where
  nx : τ → List Cell → Prop
  rt : τ → Cell → List Cell → Prop
  bk : τ → List Cell → Prop
  ct : τ → List Cell → Prop
def Kt.ks {τ : Type} (K : Kt τ) (m : M τ) : Ks := ⟨fun Γ => ∃ t, m = .ok t ∧ K.nx t Γ, fun c Γ => ∃ t, m = .ok t ∧ K.rt t c Γ, fun Γ => ∃ t, m = .ok t ∧ K.bk t Γ, fun Γ => ∃ t, m = .ok t ∧ K.ct t Γ⟩
/-- a def's end -/
def KF {ρ : Type} (cell : ρ → Cell) : Kt ρ := ⟨fun t _ => .val dUnit () = cell t, fun t c _ => c = cell t, fun _ _ => False, fun _ _ => False⟩
/-- a turn's end -/
def KL {σ : Type} (js' : List Nat) (cells : σ → List Cell) : Kt σ := ⟨fun s Γ => wipeC Γ js' = cells s, fun _ _ _ => False, fun _ _ => False, fun s Γ => wipeC Γ js' = cells s⟩
/-- a turn's end, where a turn may leave -/
def KC {σ ρ : Type} (js' : List Nat) (cells : σ → List Cell) (cell : ρ → Cell) : Kt (Ct σ ρ) := ⟨fun t Γ => ∃ s, t = .nx s ∧ wipeC Γ js' = cells s, fun t c _ => ∃ r, t = .rt r ∧ c = cell r, fun t Γ => ∃ s, t = .bk s ∧ wipeC Γ js' = cells s, fun t Γ => ∃ s, t = .nx s ∧ wipeC Γ js' = cells s⟩
def Xk (tx : XC → Addr) (Y : YC) (js : List Nat) (Γ : List Cell) {τ : Type} (m : M τ) : Prop := ∀ x, m = .exc x → ∀ Γ', wipeC Γ' js = wipeC Γ js → Y.kx (x.x tx) Γ'
theorem Xk.here {m : M τ} (h : Xk tx Y js Γ m) : XkM tx Y Γ m := fun x e => h x e Γ rfl
theorem Xk.r {Γ2 : List Cell} {m : M σ} {f : σ → M τ} {x : σ} (h : Xk tx Y js Γ (m >>= f)) (e : m = .ok x) (hw : wipeC Γ2 js = wipeC Γ js) : Xk tx Y js Γ2 (f x) := fun y e2 Γ' e3 => h y (by rw [e]; exact e2) Γ' (e3.trans hw)
theorem Xk.l {m : M σ} {f : σ → M τ} (h : Xk tx Y js Γ (m >>= f)) : Xk tx Y js Γ m := fun y e2 Γ' e3 => h y (by rw [e2]; rfl) Γ' e3
theorem Xk.w {Γ2 : List Cell} {m : M τ} (h : Xk tx Y js Γ m) (hw : wipeC Γ2 js = wipeC Γ js) : Xk tx Y js Γ2 m := fun y e2 Γ' e3 => h y e2 Γ' (e3.trans hw)
/-- the statement does as the model says -/
def Zm (tx : XC → Addr) (Y : YC) (js : List Nat) (ts : TS) (Γ : List Cell) {τ : Type} (K : Kt τ) (m : M τ) : Prop := m.nb → Xk tx Y js Γ m → Z Y ts Γ (K.ks m)
variable {K : Kt τ}
theorem Zm.go {Γ2 : List Cell} {m1 : M σ} {f : σ → M τ} {x : σ} (h : Zm tx Y js rest Γ2 K (f x)) (nb : (m1 >>= f).nb) (xk : Xk tx Y js Γ (m1 >>= f)) (e : m1 = .ok x) (hw : wipeC Γ2 js = wipeC Γ js) : Z Y rest Γ2 (K.ks (m1 >>= f)) := by
  have := h (M.nb2 nb e) (xk.r e hw)
  rw [e]
  exact this
theorem zm_last {m : M τ} (h : Zm tx Y js (tSeq ts tNext) Γ K m) : Zm tx Y js ts Γ K m := h
theorem zm_assoc {m : M τ} (h : Zm tx Y js (tSeq t1 (tSeq t2 rest)) Γ K m) : Zm tx Y js (tSeq (tSeq t1 t2) rest) Γ K m := h
theorem zm_skip {m : M τ} (h : Zm tx Y js rest Γ K m) : Zm tx Y js (tSeq tNext rest) Γ K m := h
theorem zm_set {i : Nat} {c0 : Cell} {m1 : M α} {m2 : α → M τ} (hi : Γ[i]? = some c0) (hj : i ∈ js) (h : We tx Y te Γ d m1) (h2 : ∀ x, Zm tx Y js rest (Γ.set i (.val d x)) K (m2 x)) : Zm tx Y js (tSeq (tAsg te (gName i)) rest) Γ K (m1 >>= m2) := fun nb xk =>
  z_seq (z_set hi (w_mono (h (M.nb1 nb) xk.l.here) fun x e => (h2 x).go nb xk e (wipeC_set hj)))
theorem zm_setO {od : @OD α d} {i : Nat} {c0 : Cell} {m1 : M α} {m2 : α → M τ} (hi : Γ[i]? = some c0) (hj : i ∈ js) (h : Oe tx Y te Γ od m1) (h2 : ∀ x, Zm tx Y js rest (Γ.set i (.own d od none x)) K (m2 x)) : Zm tx Y js (tSeq (tAsg te (gName i)) rest) Γ K (m1 >>= m2) := fun nb xk =>
  z_seq (z_setO hi (o_mono (h (M.nb1 nb) xk.l.here) fun x e => (h2 x).go nb xk e (wipeC_set hj)))
theorem a_mono {x : α} {k k' : List Cell → Prop} (h : A Y g Γ d x k) (m : ∀ Γ, k Γ → k' Γ) : A Y g Γ d x k' := fun e F σ H v s r Q q => h e F σ H v s r Q fun σ' Γ' kx s' => q σ' Γ' (m Γ' kx) s'
theorem zm_setG {m1 : M α} {m2 : α → M τ} (h : We tx Y te Γ d m1) (h2 : ∀ x, A Y g Γ d x fun Γ2 => wipeC Γ2 js = wipeC Γ js ∧ Zm tx Y js rest Γ2 K (m2 x)) : Zm tx Y js (tSeq (tAsg te g) rest) Γ K (m1 >>= m2) := fun nb xk =>
  z_seq (z_setG (w_mono (h (M.nb1 nb) xk.l.here) fun x e => a_mono (h2 x) fun Γ2 ⟨hw, hz⟩ => hz.go nb xk e hw))
theorem zm_drop {m1 : M α} {m2 : M τ} (h : Re tx Y te Γ d m1) (h2 : Zm tx Y js rest Γ K m2) : Zm tx Y js (tSeq (tDrop te) rest) Γ K (m1 >>= fun _ => m2) := fun nb xk =>
  z_seq (z_drop (kt := fun _ => True) (r_mono (h (M.nb1 nb) xk.l.here) fun x e => Zm.go (f := fun _ => m2) (x := x) h2 nb xk e rfl))
theorem zm_frz {od : @OD α d} {x : α} {m : M τ} (i : Nat) (hi : Γ[i]? = some (.own d od none x)) (hj : i ∈ js) (h : Zm tx Y js ts (Γ.set i (.val d x)) K m) : Zm tx Y js ts Γ K m := fun nb xk => z_frz i hi (h nb (xk.w (wipeC_set hj)))
theorem zm_to {Γ2 : List Cell} {m : M τ} (e : Γ = Γ2) (h : Zm tx Y js ts Γ2 K m) : Zm tx Y js ts Γ K m := e ▸ h
/-! stores into what is owned -/
theorem zm_append {pin : Option V} {i : Nat} {xs : List α} {m1 : M α} {m2 : List α → M τ} (hi : Γ[i]? = some (.own (dList (d := d)) (oList (d := d)) pin xs)) (hj : i ∈ js) (h : We tx Y te Γ d m1) (h2 : ∀ ys, Zm tx Y js rest (Γ.set i (.own (dList (d := d)) (oList (d := d)) pin ys)) K (m2 ys)) :
    Zm tx Y js (tSeq (tDrop (tBM Y.K "list" rAppend (tVar i) (tCons te tNil))) rest) Γ K (M.push xs m1 >>= m2) := fun nb xk =>
  z_seq (z_append hi (w_mono (h (M.nb1 (M.nb1 nb)) fun x e => xk.here x (by unfold M.push; rw [e]; rfl)) fun y e => by
    have nb1 : (M.push xs m1).nb := M.nb1 nb
    unfold M.push at nb1
    rw [e] at nb1
    have hl := M.asrt_nb nb1
    exact ⟨hl, (h2 (xs ++ [y])).go nb xk (by rw [e]; exact M.push_ok hl) (wipeC_set hj)⟩))
def M.popL {α : Type} (xs : List α) : M (List α × α) := match xs.getLast? with | some y => .ok (xs.dropLast, y) | none => .bad
theorem zm_pop {pin : Option V} {i j : Nat} {xs : List α} {c0 : Cell} {m2 : List α × α → M τ} (hi : Γ[i]? = some (.own (dList (d := d)) (oList (d := d)) pin xs)) (hij : (i == j) = false) (hj' : Γ[j]? = some c0) (hj : i ∈ js) (hjj : j ∈ js) (h2 : ∀ p, Zm tx Y js rest ((Γ.set i (.own (dList (d := d)) (oList (d := d)) pin p.1)).set j (.val d p.2)) K (m2 p)) :
    Zm tx Y js (tSeq (tAsg (tBM0 Y.K "list" rPop (tVar i)) (gName j)) rest) Γ K (M.popL xs >>= m2) := fun nb xk => by
  have nb1 : (M.popL xs).nb := M.nb1 nb
  cases q : xs.getLast? with
  | none => unfold M.popL at nb1; rw [q] at nb1; exact absurd rfl nb1
  | some y =>
    have e : M.popL xs = .ok (xs.dropLast, y) := by unfold M.popL; rw [q]
    have ex : xs = xs.dropLast ++ [y] := by
      obtain ⟨ys, rfl⟩ := List.getLast?_eq_some_iff.mp q
      simp
    have hne : i ≠ j := by simpa using hij
    refine z_seq (z_pop (xs := xs.dropLast) (y := y) (c0 := c0) (by rw [← ex]; exact hi) ?_ ((h2 (xs.dropLast, y)).go nb xk e ?_))
    · rw [List.getElem?_set_ne hne]; exact hj'
    · rw [wipeC_set hjj, wipeC_set hj]
/-! ways -/
theorem zm_if {mb : M Bool} {m1 m2 : M τ} (hb : Te tx Y t Γ mb) (h1 : Zm tx Y js (tSeq t1 rest) Γ K m1) (h2 : Zm tx Y js (tSeq t2 rest) Γ K m2) : Zm tx Y js (tSeq (tIfS t t1 t2) rest) Γ K (mb >>= fun b => if b then m1 else m2) := fun nb xk => by
  have : Z Y (tIfS t (tSeq t1 rest) (tSeq t2 rest)) Γ (K.ks (mb >>= fun b => if b then m1 else m2)) := z_if (t_mono (hb (M.nb1 nb) xk.l.here) fun b e => ⟨fun z => by
    subst z
    exact Zm.go (f := fun b => if b = true then m1 else m2) (x := true) h1 nb xk e rfl, fun z => by
    subst z
    exact Zm.go (f := fun b => if b = true then m1 else m2) (x := false) h2 nb xk e rfl⟩)
  intro e F σ H D hM s c
  have q := this e F σ H D hM s c
  refine Eq.mp ?_ q
  unfold tIfS tSeq
  rfl
theorem zm_ifP {b : Bool} {m1 m2 : M τ} (hb : Te tx Y t Γ (.ok b)) (h1 : Zm tx Y js (tSeq t1 rest) Γ K m1) (h2 : Zm tx Y js (tSeq t2 rest) Γ K m2) : Zm tx Y js (tSeq (tIfS t t1 t2) rest) Γ K (if b then m1 else m2) := zm_if hb h1 h2
theorem zm_ret {cell : τ → Cell} {d : Dat τ} {m : M τ} (h : We tx Y te Γ d m) (hc : cell = fun r => .val d r := by rfl) : Zm tx Y js (tSeq (tRet te) rest) Γ (KF cell) m := fun nb xk => by
  subst hc
  exact z_ret (te := te) (k := (KF fun r => Cell.val d r).ks m) (w_mono (h nb xk.here) fun x e => ⟨x, e, rfl⟩)
theorem zm_retO {cell : τ → Cell} {d : Dat τ} {od : OD τ} {m : M τ} (h : Oe tx Y te Γ od m) (hc : cell = fun r => .own d od none r := by rfl) : Zm tx Y js (tSeq (tRet te) rest) Γ (KF cell) m := fun nb xk => by
  subst hc
  exact z_retO (te := te) (k := (KF fun r => Cell.own d od none r).ks m) (o_mono (h nb xk.here) fun x e => ⟨x, e, rfl⟩)
theorem zm_retV {cell : τ → Cell} {d : Dat τ} {od : OD τ} {i : Nat} {x : τ} (hi : Γ[i]? = some (.own d od none x)) (hc : cell = fun r => .own d od none r := by rfl) : Zm tx Y js (tSeq (tRet (tVar i)) rest) Γ (KF cell) (.ok x) := fun nb xk => by
  subst hc
  exact z_retV (k := (KF fun r => Cell.own d od none r).ks (M.ok x)) hi ⟨x, rfl, rfl⟩
theorem zm_end {cell : Unit → Cell} (hc : cell = fun r => .val dUnit r := by rfl) : Zm tx Y js tNext Γ (KF cell) (.ok ()) := fun nb xk => by
  subst hc
  exact z_next (k := (KF fun r => Cell.val dUnit r).ks (M.ok ())) ⟨(), rfl, rfl⟩
variable {cells : σ → List Cell} {cell : ρ → Cell} {s : σ}
theorem zm_retC {d : Dat ρ} {m : M ρ} (h : We tx Y te Γ d m) (hc : cell = fun r => .val d r := by rfl) : Zm tx Y js (tSeq (tRet te) rest) Γ (KC js' cells cell) (m >>= fun r => .ok (.rt r)) := fun nb xk => by
  subst hc
  exact z_ret (te := te) (k := (KC js' cells fun r => Cell.val d r).ks (m >>= fun r => .ok (.rt r))) (w_mono (h (M.nb1 nb) xk.l.here) fun x e => ⟨.rt x, by rw [e]; rfl, x, rfl, rfl⟩)
theorem zm_nextL (h : wipeC Γ js' = cells s) : Zm tx Y js tNext Γ (KL js' cells) (.ok s) := fun nb xk => z_next (k := (KL js' cells).ks (M.ok s)) ⟨s, rfl, h⟩
theorem zm_nextC (h : wipeC Γ js' = cells s) : Zm tx Y js tNext Γ (KC js' cells cell) (.ok (.nx s)) := fun nb xk => z_next (k := (KC js' cells cell).ks (M.ok (.nx s))) ⟨.nx s, rfl, s, rfl, h⟩
theorem zm_breakC (h : wipeC Γ js' = cells s) : Zm tx Y js (tSeq tBreak rest) Γ (KC js' cells cell) (.ok (.bk s)) := fun nb xk => z_break (k := (KC js' cells cell).ks (M.ok (.bk s))) ⟨.bk s, rfl, s, rfl, h⟩
/-- ways that meet: no turn ends here -/
def KJ {σ : Type} (js' : List Nat) (cells : σ → List Cell) : Kt σ := ⟨fun s Γ => wipeC Γ js' = cells s, fun _ _ _ => False, fun _ _ => False, fun _ _ => False⟩
theorem zm_nextJ (h : wipeC Γ js' = cells s) : Zm tx Y js tNext Γ (KJ js' cells) (.ok s) := fun nb xk => z_next (k := (KJ js' cells).ks (M.ok s)) ⟨s, rfl, h⟩
theorem zm_join (js' : List Nat) (cells : σ → List Cell) {m1 : M σ} {m2 : σ → M τ} (hw : ∀ s, wipeC (cells s) js = wipeC Γ js) (h1 : Zm tx Y js t1 Γ (KJ js' cells) m1) (h2 : ∀ s, Zm tx Y js rest (cells s) K (m2 s)) : Zm tx Y js (tSeq t1 rest) Γ K (m1 >>= m2) := fun nb xk =>
  z_seq (z_mono (h1 (M.nb1 nb) xk.l) (fun Γ' ⟨s, e, hs⟩ => z_wipe js' (by rw [show wipeC Γ' js' = cells s from hs]; exact (h2 s).go nb xk e (hw s))) (fun _ _ ⟨_, _, z⟩ => z.elim) (fun _ ⟨_, _, z⟩ => z.elim) fun Γ' ⟨s, e, z⟩ => z.elim)
/-! loops -/
theorem zm_for {ti : TI} (js' : List Nat) (cells : σ → List Cell) (s0 : σ) {m0 : M (List α)} {f : σ → α → M σ} {m2 : σ → M τ} (hw0 : wipeC (wipeC Γ js') js = wipeC Γ js) (h0 : wipeC Γ js' = cells s0) (hw : ∀ s, wipeC (cells s) js = wipeC Γ js) (h : Ie tx Y ti (cells s0) d m0)
    (hb : ∀ s x, A Y g (cells s) d x fun Γ2 => wipeC Γ2 js = wipeC Γ js ∧ Zm tx Y js ts Γ2 (KL js' cells) (f s x)) (h2 : ∀ s, Zm tx Y js rest (cells s) K (m2 s)) : Zm tx Y js (tSeq (tFor ti g ts) rest) Γ K (m0 >>= fun xs => M.fold f s0 xs >>= m2) := fun nb xk => by
  refine z_wipe js' (by
    rw [h0]
    refine z_seq (h (M.nb1 nb) ((xk.w (hw s0)).l.here) g ts _ fun xs e => ?_)
    have nb1 : (M.fold f s0 xs >>= m2).nb := M.nb2 (f := fun xs => M.fold f s0 xs >>= m2) nb e
    have nb2 : (M.fold f s0 xs).nb := M.nb1 nb1
    refine ⟨fun i Γ' => ∃ s, M.fold f s0 (xs.take i) = .ok s ∧ wipeC Γ' js' = cells s, ⟨s0, rfl, ?_⟩, fun i x Γ' hx ⟨s, es, hΓ⟩ => ?_, fun Γ' ⟨s, es, hΓ⟩ => ?_⟩
    · rw [← h0]
      have : ∀ js : List Nat, wipeC (wipeC Γ js) js = wipeC Γ js := by
        intro l
        suffices ∀ (l m : List Nat), (∀ j ∈ m, j ∈ l) → wipeC (wipeC Γ l) m = wipeC Γ l from this l l fun _ h => h
        intro l m hm
        induction m with
        | nil => rfl
        | cons j m ih =>
          show (wipeC (wipeC Γ l) m).set j .no = _
          rw [ih fun k hk => hm k (List.mem_cons_of_mem _ hk)]
          have : ∀ l : List Nat, j ∈ l → (wipeC Γ l).set j .no = wipeC Γ l := by
            intro l hl
            induction l with
            | nil => exact nomatch hl
            | cons k l ih2 =>
              show ((wipeC Γ l).set k .no).set j .no = (wipeC Γ l).set k .no
              by_cases hk : j = k
              · subst hk; exact List.set_set _
              · rw [set_comm _ _ _ (fun z => hk z.symm), ih2 ((List.mem_cons.mp hl).resolve_left hk)]
          exact this l (hm j List.mem_cons_self)
      exact this js'
    · have htk : xs.take (i + 1) = xs.take i ++ [x] := by rw [List.take_add_one, show xs[i]? = some x from hx]; rfl
      have hs1 : M.fold f s0 (xs.take (i + 1)) = f s x := by rw [htk, M.fold_app, es]; show M.fold f s [x] = _; simp [M.fold]
      have hall : M.fold f s0 xs = (f s x >>= fun s' => M.fold f s' (xs.drop (i + 1))) := by
        have : xs = xs.take (i + 1) ++ xs.drop (i + 1) := (List.take_append_drop _ _).symm
        rw [this, M.fold_app, hs1, ← this]
      have nb3 : (f s x).nb := fun z => nb2 (by rw [hall, z]; rfl)
      have xk3 : ∀ {Γ2 : List Cell}, wipeC Γ2 js = wipeC Γ js → Xk tx Y js Γ2 (f s x) := fun {Γ2} hΓ2 y ey Γ' e3 => xk y (by rw [e]; show (M.fold f s0 xs >>= m2) = _; rw [hall, ey]; rfl) Γ' (e3.trans hΓ2)
      refine fun e0 F σ0 H v st r Q q => ?_
      have st2 : State Y e0 F σ0 H Γ' := st
      refine (show A Y g Γ' d x _ from ?_) e0 F σ0 H v st r Q q
      have hA := hb s x
      rw [← hΓ] at hA
      have lift : ∀ (js' : List Nat) (Γ' : List Cell) (k : List Cell → Prop), A Y g (wipeC Γ' js') d x k → A Y g Γ' d x k := by
        intro l
        induction l with
        | nil => intro _ _ h; exact h
        | cons j l ih =>
          intro Γ' k h
          refine ih Γ' k ?_
          unfold wipeC at h
          cases q : (wipeC Γ' l)[j]? with
          | some c => exact fun e F σ H v s r Q q' => h e F σ H v (s.hide q) r Q q'
          | none =>
            rw [List.set_eq_of_length_le (List.getElem?_eq_none_iff.mp q)] at h
            exact h
      refine lift js' Γ' _ (a_mono hA fun Γ2 ⟨hΓ2, hz⟩ => ?_)
      exact z_mono (hz nb3 (xk3 hΓ2)) (fun Γ3 ⟨s', e', h'⟩ => ⟨s', by rw [hs1]; exact e', h'⟩) (fun _ _ ⟨_, _, z⟩ => z.elim) (fun _ ⟨_, _, z⟩ => z.elim) fun Γ3 ⟨s', e', h'⟩ => ⟨s', by rw [hs1]; exact e', h'⟩
    · rw [List.take_length] at es
      refine z_wipe js' ?_
      rw [hΓ]
      have hz := Zm.go (f := m2) (x := s) (m1 := M.fold f s0 xs) (Γ := Γ) (h2 s) nb1 (Xk.r (f := fun xs => M.fold f s0 xs >>= m2) xk e rfl) es (hw s)
      rw [e]
      exact hz)
theorem wipeC_idem (Γ : List Cell) (js : List Nat) : wipeC (wipeC Γ js) js = wipeC Γ js := by
  suffices ∀ (l m : List Nat), (∀ j ∈ m, j ∈ l) → wipeC (wipeC Γ l) m = wipeC Γ l from this js js fun _ h => h
  intro l m hm
  induction m with
  | nil => rfl
  | cons j m ih =>
    show (wipeC (wipeC Γ l) m).set j .no = _
    rw [ih fun k hk => hm k (List.mem_cons_of_mem _ hk)]
    have : ∀ l : List Nat, j ∈ l → (wipeC Γ l).set j .no = wipeC Γ l := by
      intro l hl
      induction l with
      | nil => exact nomatch hl
      | cons k l ih2 =>
        show ((wipeC Γ l).set k .no).set j .no = (wipeC Γ l).set k .no
        by_cases hk : j = k
        · subst hk; exact List.set_set _
        · rw [set_comm _ _ _ (fun z => hk z.symm), ih2 ((List.mem_cons.mp hl).resolve_left hk)]
    exact this l (hm j List.mem_cons_self)
theorem a_wipe {x : α} : ∀ (js' : List Nat) {Γ' : List Cell} {k : List Cell → Prop}, A Y g (wipeC Γ' js') d x k → A Y g Γ' d x k
  | [], _, _, h => h
  | j :: l, Γ', k, h => by
    refine a_wipe l ?_
    unfold wipeC at h
    cases q : (wipeC Γ' l)[j]? with
    | some c => exact fun e F σ H v s r Q q' => h e F σ H v (s.hide q) r Q q'
    | none =>
      rw [List.set_eq_of_length_le (List.getElem?_eq_none_iff.mp q)] at h
      exact h
theorem t_wipe {k : Bool → Prop} : ∀ (js' : List Nat) {Γ' : List Cell}, T Y t (wipeC Γ' js') k → T Y t Γ' k
  | [], _, h => h
  | j :: l, Γ', h => by
    refine t_wipe l ?_
    unfold wipeC at h
    cases q : (wipeC Γ' l)[j]? with
    | some c => exact fun e F σ H s Q q' => h e F σ H (s.hide q) Q q'
    | none =>
      rw [List.set_eq_of_length_le (List.getElem?_eq_none_iff.mp q)] at h
      exact h
/-- a for whose turns may leave -/
theorem zm_forC {ti : TI} (js' : List Nat) (cells : σ → List Cell) (cell : ρ → Cell) (s0 : σ) {m0 : M (List α)} {f : σ → α → M (Ct σ ρ)} {mr : ρ → M τ} {m2 : σ → M τ} (hw0 : wipeC (wipeC Γ js') js = wipeC Γ js) (h0 : wipeC Γ js' = cells s0) (hw : ∀ s, wipeC (cells s) js = wipeC Γ js) (h : Ie tx Y ti (cells s0) d m0)
    (hb : ∀ s x, A Y g (cells s) d x fun Γ2 => wipeC Γ2 js = wipeC Γ js ∧ Zm tx Y js ts Γ2 (KC js' cells cell) (f s x)) (hr : ∀ r Γ', ∃ t, mr r = .ok t ∧ K.rt t (cell r) Γ') (h2 : ∀ s, Zm tx Y js rest (cells s) K (m2 s)) : Zm tx Y js (tSeq (tFor ti g ts) rest) Γ K (m0 >>= fun xs => M.foldC f s0 xs >>= fun c => c.go mr m2) := fun nb xk => by
  refine z_wipe js' (by
    rw [h0]
    refine z_seq (h (M.nb1 nb) ((xk.w (hw s0)).l.here) g ts _ fun xs e => ?_)
    have nb1 : (M.foldC f s0 xs >>= fun c => c.go mr m2).nb := M.nb2 (f := fun xs => M.foldC f s0 xs >>= fun c => c.go mr m2) nb e
    have nb2 : (M.foldC f s0 xs).nb := M.nb1 nb1
    -- behind the loop
    have fin : ∀ (s : σ) (c : Ct σ ρ) (Γ' : List Cell), M.foldC f s0 xs = .ok c → (c = .nx s ∨ c = .bk s) → wipeC Γ' js' = cells s → Z Y rest Γ' (K.ks (m0 >>= fun xs => M.foldC f s0 xs >>= fun c => c.go mr m2)) := fun s c Γ' es hc hΓ => by
      refine z_wipe js' ?_
      rw [hΓ]
      have hg : c.go mr m2 = m2 s := by rcases hc with z | z <;> (subst z; rfl)
      have hz := Zm.go (f := fun c : Ct σ ρ => c.go mr m2) (x := c) (show Zm tx Y js rest (cells s) K (c.go mr m2) from by rw [hg]; exact h2 s) (m1 := M.foldC f s0 xs) (Γ := Γ) nb1 (Xk.r (f := fun xs => M.foldC f s0 xs >>= fun c => c.go mr m2) xk e rfl) es (hw s)
      rw [e]
      exact hz
    refine ⟨fun i Γ' => ∃ s, M.foldC f s0 (xs.take i) = .ok (.nx s) ∧ wipeC Γ' js' = cells s, ⟨s0, rfl, by rw [← h0]; exact wipeC_idem Γ js'⟩, fun i x Γ' hx ⟨s, es, hΓ⟩ => ?_, fun Γ' ⟨s, es, hΓ⟩ => ?_⟩
    · have htk : xs.take (i + 1) = xs.take i ++ [x] := by rw [List.take_add_one, show xs[i]? = some x from hx]; rfl
      have hs1 : M.foldC f s0 (xs.take (i + 1)) = f s x := by
        rw [htk, M.foldC_app, es]; show M.foldC f s [x] = _
        simp only [M.foldC]
        cases f s x with
        | bad => rfl
        | exc x => rfl
        | ok c => cases c <;> rfl
      have hall : M.foldC f s0 xs = (f s x >>= fun c => match c with | .nx s' => M.foldC f s' (xs.drop (i + 1)) | c => .ok c) := by
        have : xs = xs.take (i + 1) ++ xs.drop (i + 1) := (List.take_append_drop _ _).symm
        rw [this, M.foldC_app, hs1, ← this]
        all_goals (cases f s x with
        | bad => rfl
        | exc x => rfl
        | ok c => cases c <;> rfl)
      have nb3 : (f s x).nb := fun z => nb2 (by rw [hall, z]; rfl)
      have xk3 : ∀ {Γ2 : List Cell}, wipeC Γ2 js = wipeC Γ js → Xk tx Y js Γ2 (f s x) := fun {Γ2} hΓ2 y ey Γ' e3 => xk y (by rw [e]; show (M.foldC f s0 xs >>= _) = _; rw [hall, ey]; rfl) Γ' (e3.trans hΓ2)
      have hA := hb s x
      rw [← hΓ] at hA
      refine a_wipe js' (a_mono hA fun Γ2 ⟨hΓ2, hz⟩ => ?_)
      refine z_mono (hz nb3 (xk3 hΓ2)) (fun Γ3 ⟨c, e', s', ec, h'⟩ => ⟨s', by rw [hs1, e', ec], h'⟩) (fun c Γ3 ⟨t, e', r, er, hc⟩ => ?_) (fun Γ3 ⟨c, e', s', ec, h'⟩ => ?_) fun Γ3 ⟨c, e', s', ec, h'⟩ => ⟨s', by rw [hs1, e', ec], h'⟩
      · subst er hc
        obtain ⟨t2, e2, hk⟩ := hr r Γ3
        exact ⟨t2, by rw [e]; show (M.foldC f s0 xs >>= _) = _; rw [hall, e']; exact e2, hk⟩
      · subst ec
        exact fin s' (.bk s') Γ3 (by rw [hall, e']; rfl) (.inr rfl) h'
    · rw [List.take_length] at es
      exact fin s (.nx s) Γ' es (.inl rfl) hΓ)
theorem zm_while (js' : List Nat) (cells : σ → List Cell) (s0 : σ) {c : σ → M Bool} {f : σ → M σ} {m2 : σ → M τ} (h0 : wipeC Γ js' = cells s0) (hw : ∀ s, wipeC (cells s) js = wipeC Γ js)
    (hc : ∀ s, Te tx Y t (cells s) (c s)) (hb : ∀ s, Zm tx Y js ts (cells s) (KL js' cells) (f s)) (h2 : ∀ s, Zm tx Y js rest (cells s) K (m2 s)) : Zm tx Y js (tSeq (tWhile t ts) rest) Γ K (M.loop c f s0 >>= m2) := fun nb xk => by
  obtain ⟨n, hn, hl⟩ := M.loop_nb (M.nb1 nb)
  refine z_wipe js' ?_
  rw [h0]
  refine z_seq (z_while (fun m Γ' => ∃ s, wipeC Γ' js' = cells s ∧ M.loopN c f m s = M.loop c f s0 ∧ M.loopN c f m s ≠ .bad) ⟨n, s0, by rw [← h0]; exact wipeC_idem Γ js', hl.symm, hn⟩ fun m Γ' ⟨s, hΓ, hm, hnb⟩ => ?_)
  cases m with
  | zero => exact absurd rfl hnb
  | succ m =>
    unfold M.loopN at hm hnb
    have nbc : (c s).nb := fun z => hnb (by rw [z]; rfl)
    have xkc : XkM tx Y (cells s) (c s) := fun y ey => (xk.w (hw s)).here y (by rw [← hm, ey]; rfl)
    refine t_wipe js' ?_
    rw [hΓ]
    refine t_mono (hc s nbc xkc) fun b eb => ⟨fun z => ?_, fun z => ?_⟩
    · subst z
      rw [eb] at hm hnb
      simp only [M.ok_bind, if_true] at hm hnb
      refine z_wipe js' ?_
      rw [hΓ]
      have nbf : (f s).nb := fun z => hnb (by rw [z]; rfl)
      have fin : ∀ (s' : σ) (Γ3 : List Cell), f s = .ok s' → wipeC Γ3 js' = cells s' → ∃ m', m' < m + 1 ∧ ∃ s, wipeC Γ3 js' = cells s ∧ M.loopN c f m' s = M.loop c f s0 ∧ M.loopN c f m' s ≠ .bad := fun s' Γ3 e' h' => by
        rw [e'] at hm hnb
        exact ⟨m, Nat.lt_succ_self m, s', h', hm, hnb⟩
      exact z_mono (hb s nbf fun y ey Γ2 e3 => xk y (by rw [← hm, ey]; rfl) Γ2 (e3.trans (hw s))) (fun Γ3 ⟨s', e', h'⟩ => fin s' Γ3 e' h') (fun _ _ ⟨_, _, z⟩ => z.elim) (fun _ ⟨_, _, z⟩ => z.elim) fun Γ3 ⟨s', e', h'⟩ => fin s' Γ3 e' h'
    · subst z
      rw [eb] at hm
      refine z_wipe js' ?_
      rw [hΓ]
      exact (h2 s).go nb xk (by rw [← hm]; rfl) (hw s)
/-- returns through, of defs and of turns -/
theorem rt_KF {cell : τ → Cell} : ∀ (r : τ) (Γ' : List Cell), ∃ t, (M.ok r : M τ) = .ok t ∧ (KF cell).rt t (cell r) Γ' := fun r _ => ⟨r, rfl, rfl⟩
theorem rt_KC : ∀ (r : ρ) (Γ' : List Cell), ∃ t, (M.ok (Ct.rt r) : M (Ct σ ρ)) = .ok t ∧ (KC js' cells cell).rt t (cell r) Γ' := fun r _ => ⟨.rt r, rfl, r, rfl, rfl⟩
/-! ### the body of a def -/
theorem Zm.body {C : GCtx} {N : List Str} {cell : τ → Cell} {m : M τ} {vs : List V} {H : Hp} {Q : VK} {E : XK} (nb : m.nb) (h : FnX C Γ (fun c => ∃ r, c = cell r ∧ m = .ok r) (fun x => ∃ px, m = .exc px ∧ x = px.x tx) vs H Q E)
    (hz : Zm tx ⟨C, fun _ => E, fun x _ => ∃ px, m = .exc px ∧ x = px.x tx⟩ js ts (Γ ++ List.replicate (N.length - Γ.length) .no) (KF cell) m) : ts { nx := fun _ H' => Q .non H', rt := Q } (L2.start N vs) H :=
  h.body (z_mono (hz nb fun x e Γ' _ => ⟨x, e, rfl⟩) (fun Γ' ⟨t, e, q⟩ => ⟨t, q, e⟩) (fun c Γ' ⟨t, e, q⟩ => ⟨t, q, e⟩) (fun _ ⟨_, _, z⟩ => z) fun _ ⟨_, _, z⟩ => z)
/-- .. of a def that lets nothing out -/
theorem Zm.body0 {C : GCtx} {N : List Str} {cell : τ → Cell} {m : M τ} {x : τ} {vs : List V} {H : Hp} {Q : VK} (e : m = .ok x) (h : Fn C Γ (fun c => c = cell x) vs H Q)
    (hz : Zm tx (calm C) js ts (Γ ++ List.replicate (N.length - Γ.length) .no) (KF cell) m) : ts { nx := fun _ H' => Q .non H', rt := Q } (L2.start N vs) H := by
  subst e
  exact h.body (z_mono (hz (fun z => nomatch z) fun x e => nomatch e) (fun Γ' ⟨t, e, q⟩ => by cases e; exact q) (fun c Γ' ⟨t, e, q⟩ => by cases e; exact q) (fun _ ⟨_, _, z⟩ => z) fun _ ⟨_, _, z⟩ => z)
end
end G
end

noncomputable section
/-! M3: exceptions and instances, with models. -/
namespace G
open PySem PySem.Spec PyProof.Rows L2 PySem.W
/-- c is k, or k is a base of c -/
def XC.isA (c k : XC) : Bool := decide (k = .ComesapartError) || decide (c = k)
def M.raise1 {α : Type} (c : XC) (f : Str) (m : M Int) : M α := m >>= fun n => .exc ⟨c, some [(f, .int n)]⟩
def M.raise2 {α : Type} (c : XC) (f1 f2 : Str) (m1 m2 : M Int) : M α := m1 >>= fun n => m2 >>= fun n2 => .exc ⟨c, some [(f2, .int n2), (f1, .int n)]⟩
/-- try: m; except: h, for the classes that p tells; kn: the classes that are known -/
def M.tryK {α : Type} (kn p : XC → Bool) (m : M α) (h : PX → M α) : M α := match m with | .exc x => if kn x.cls then (if p x.cls then h x else .exc x) else .bad | m => m
/-- e.f where e is of the class c -/
def PX.fld (x : PX) (c : XC) (f : Str) : M Int := if x.cls = c then (match x.fs with | some fs => (match fs.lookup f with | some (.int n) => .ok n | _ => .bad) | none => .bad) else .bad
section
variable {tx : XC → Addr} {Y : YC} {Γ : List Cell} {te ta tb tc td tl t1 t2 : TE} {α β γ τ : Type} {d : Dat α} {d1 : Dat α} {d2 : Dat β} {ts rest : TS} {js : List Nat} {K : Kt τ} {Cx : Addr} {f1 f2 : Str} {Wt : WX}
theorem zm_raise1 {c : XC} {m : M Int} (hE : Y.E = WE Wt) (hc : tx c = Cx) (h : Re tx Y te Γ dInt m) : Zm tx Y js (tSeq (fun _ σ H => tMkO Cx (spX1 Cx f1) [] (tCons te tNil) σ H fun cls d H' => Wt cls d σ H') rest) Γ K (M.raise1 c f1 m) := fun nb xk => by
  subst hc
  exact z_raise1 (k := K.ks (M.raise1 c f1 m)) hE (r_mono (h (M.nb1 nb) xk.l.here) fun n e => xk ⟨c, some [(f1, .int n)]⟩ (by unfold M.raise1; rw [e]; rfl) Γ rfl)
theorem zm_raise2 {c : XC} {m n : M Int} (hE : Y.E = WE Wt) (hc : tx c = Cx) (h : Re tx Y t1 Γ dInt m) (h2 : Re tx Y t2 Γ dInt n) : Zm tx Y js (tSeq (fun _ σ H => tMkO Cx (spX2 Cx f1 f2) [] (tCons t1 (tCons t2 tNil)) σ H fun cls d H' => Wt cls d σ H') rest) Γ K (M.raise2 c f1 f2 m n) := fun nb xk => by
  subst hc
  refine z_raise2 (k := K.ks (M.raise2 c f1 f2 m n)) hE (h.k nb xk.here fun x e nb3 xk3 => r_mono (h2 (M.nb1 nb3) xk3.l) fun y e2 => xk ⟨c, some [(f2, .int y), (f1, .int x)]⟩ ?_ Γ rfl)
  unfold M.raise2; rw [e]; show (n >>= _) = _; rw [e2]; rfl
theorem z_wipeSet {k : Ks} {i : Nat} {c : Cell} : ∀ (js : List Nat) {Γ : List Cell}, Z Y ts ((wipeC Γ js).set i c) k → Z Y ts (Γ.set i c) k
  | [], _, h => h
  | j :: js, Γ, h => by
    refine z_wipeSet js ?_
    unfold wipeC at h
    by_cases hj : j = i
    · subst hj
      rw [List.set_set] at h
      exact h
    · rw [set_comm _ _ _ hj] at h
      exact z_wipe [j] h
/-- try: body; except c as the name at i: suite; a def's last statement -/
theorem zm_try {ρ : Type} {cell : ρ → Cell} (jt : List Nat) {tb : WX → TS} {tsu : Addr → Value → Option Addr → TS} {i : Nat} {cv : Value} {Wout : WX} {kn p : XC → Bool} {m : M ρ} {h : PX → M ρ} (hE : Y.E = WE Wout) (hi : ∃ c0, Γ[i]? = some c0) (hj : ∀ j ∈ jt, j ∈ js) (hij : i ∈ js)
    (hex : ∀ c, kn c = true → exmOne Y.K (.ref (tx c)) cv = some (p c))
    (hb : ∀ (W : WX) (kb : Exn → List Cell → Prop), Zm tx ⟨Y.g, WE W, kb⟩ jt (tb W) Γ (KF cell) m)
    (hs : ∀ px a d, kn px.cls = true → p px.cls = true → Zm tx Y js (tsu a (.ref (tx px.cls)) d) ((wipeC Γ jt).set i (.val (dExn a d) (px.x tx))) (KF cell) (h px)) :
    Zm tx Y js (tSeq (fun D σ H => tb (wAs Y.K cv i tsu Wout D) D σ H) tNext) Γ (KF cell) (M.tryK kn p m h) := fun nb xk => by
  have wj : ∀ {Γ' : List Cell}, wipeC Γ' jt = wipeC Γ jt → wipeC Γ' js = wipeC Γ js := by
    intro Γ' e
    have key : ∀ (G : List Cell) (l : List Nat), (∀ j ∈ l, j ∈ js) → wipeC (wipeC G l) js = wipeC G js := by
      intro G l
      induction l with
      | nil => intro _; rfl
      | cons j l ih => intro hl; show wipeC ((wipeC G l).set j .no) js = _; rw [wipeC_set (hl j List.mem_cons_self)]; exact ih fun k hk => hl k (List.mem_cons_of_mem _ hk)
    rw [← key Γ' jt hj, e, key Γ jt hj]
  have nbm : m.nb := fun z => nb (by unfold M.tryK; rw [z])
  have hz : Z Y (fun D σ H => tb (wAs Y.K cv i tsu Wout D) D σ H) Γ ((KF cell).ks (M.tryK kn p m h)) := by
    refine z_tryAs (fun x Γ' => ∃ px, m = .exc px ∧ x = px.x tx ∧ wipeC Γ' jt = wipeC Γ jt) hE (fun W => ?_) fun x Γ' ⟨px, em, ex, hΓ⟩ => ?_
    · refine z_mono (hb W _ nbm fun x e Γ' hΓ => ⟨x, e, rfl, hΓ⟩) (fun Γ' ⟨t, e, q⟩ => ⟨t, by unfold M.tryK; rw [e], q⟩) (fun c Γ' ⟨t, e, q⟩ => ⟨t, by unfold M.tryK; rw [e], q⟩) (fun _ ⟨_, _, z⟩ => z.elim) fun _ ⟨_, _, z⟩ => z.elim
    · subst ex
      have hkn : kn px.cls = true := by
        cases hk : kn px.cls with
        | true => rfl
        | false => exact absurd (by unfold M.tryK; rw [em]; show (if kn px.cls = true then _ else _) = _; rw [hk]; rfl) nb
      refine ⟨p px.cls, hex _ hkn, fun hp => ⟨?_, fun a d => ?_⟩, fun hp => ?_⟩
      · obtain ⟨c0, hc0⟩ := hi
        have hl : i < Γ'.length := by
          have e1 : Γ'.length = Γ.length := by rw [← wipeC_len Γ' jt, hΓ, wipeC_len]
          rw [e1]; exact (List.getElem?_eq_some_iff.mp hc0).1
        exact ⟨_, List.getElem?_eq_getElem hl⟩
      · have et : M.tryK kn p m h = h px := by unfold M.tryK; rw [em]; show (if kn px.cls = true then (if p px.cls = true then _ else _) else _) = _; rw [hkn, hp]; rfl
        refine z_wipeSet jt ?_
        rw [hΓ]
        have hw2 : wipeC ((wipeC Γ jt).set i (.val (dExn a d) (px.x tx))) js = wipeC Γ js := by
          rw [wipeC_set hij]; exact wj (wipeC_idem Γ jt)
        have q := hs px a d hkn hp (by rw [← et]; exact nb) (fun y ey Γ2 e2 => xk y (by rw [et]; exact ey) Γ2 (e2.trans hw2))
        refine z_mono q (fun Γ2 ⟨t, e, q⟩ => ⟨t, by rw [et]; exact e, q⟩) (fun c Γ2 ⟨t, e, q⟩ => ⟨t, by rw [et]; exact e, q⟩) (fun _ ⟨_, _, z⟩ => z.elim) fun _ ⟨_, _, z⟩ => z.elim
      · exact xk px (by unfold M.tryK; rw [em]; show (if kn px.cls = true then (if p px.cls = true then _ else _) else _) = _; rw [hkn, hp]; rfl) Γ' (wj hΓ)
  exact hz
/-- isinstance of the caught -/
theorem we_isX {a : Addr} {dd : Option Addr} {px : PX} {i : Nat} {c : V} {cv : Value} {kn : XC → Bool} {b : XC → Bool} (hi : Γ[i]? = some (.val (dExn a dd) (px.x tx))) (hkn : kn px.cls = true) (C : ∀ c, kn c = true → ExcC Y.K (tx c)) (hv : ∀ u, RelV c u → u = cv) (hk : ∀ c, kn c = true → kitOne Y.K (.ref (tx c)) cv = some (b c)) :
    We tx Y (tCB (rIsX Y.K a (.ref (tx px.cls)) dd) (tCons (tVar i) (tCons (tC c) tNil))) Γ dBool (.ok (b px.cls)) := fun nb xk => w_isX (x := px.x tx) hi rfl (C px.cls hkn) hv (hk px.cls hkn) rfl
theorem we_xf {a : Addr} {dd : Option Addr} {px : PX} {i : Nat} {c : XC} {f : Str} (hi : Γ[i]? = some (.val (dExn a dd) (px.x tx))) (hc : tx c = Cx) : We tx Y (tXf a (.ref (tx px.cls)) dd Cx f (tVar i)) Γ dInt (px.fld c f) := fun nb xk => by
  subst hc
  unfold PX.fld at nb ⊢
  split at nb
  · next hcls =>
    cases hfs : px.fs with
    | none => rw [hfs] at nb; exact absurd rfl nb
    | some fs =>
      rw [hfs] at nb
      cases hl : fs.lookup f with
      | none => simp only [hl] at nb; exact absurd rfl nb
      | some v =>
        cases v with
        | int n =>
          rw [if_pos hcls]
          exact w_xf (x := px.x tx) (n := n) (fs := fs) hi rfl (by show tx px.cls = _; rw [hcls]) hfs hl (by simp only [hl])
        | _ => simp only [hl] at nb; exact absurd rfl nb
  · exact absurd rfl nb
/-! making an instance -/
/-- the end of an __init__ -/
def KI {α : Type} {d : Dat α} (od : OD α) (p : Addr) : Kt α := ⟨fun t Γ => Γ[0]? = some (.own d od (some (.ref p)) t), fun _ _ _ => False, fun _ _ => False, fun _ _ => False⟩
theorem zm_endI {od : @OD α d} {p : Addr} {x : α} (h : Γ[0]? = some (.own d od (some (.ref p)) x)) : Zm tx Y js tNext Γ (KI od p) (.ok x) := fun nb xk => z_next (k := (KI od p).ks (M.ok x)) ⟨x, rfl, h⟩
theorem zm_fld1 {C0 : Addr} {f : Str} {i : Nat} {pin : Option V} {x : Ob0} {m1 : M β} {m2 : β → M τ} (hi : Γ[i]? = some (.own (dOb0 C0) (oOb0 C0) pin x)) (hj : i ∈ js) (c : Cls Y.K C0) (n : NoAttr Y.K C0 f) (h : We tx Y te Γ d2 m1) (h2 : ∀ y, Zm tx Y js rest (Γ.set i (.own (dOb1 C0 f) (oOb1 C0 f) pin ⟨y⟩)) K (m2 y)) :
    Zm tx Y js (tSeq (sFld Y.K (tVar i) te f) rest) Γ K (m1 >>= m2) := fun nb xk => z_seq (z_fld1 hi c n (w_mono (h (M.nb1 nb) xk.l.here) fun y e => (h2 y).go nb xk e (wipeC_set hj)))
theorem zm_fld2 {C0 : Addr} {f f0 : Str} {i : Nat} {pin : Option V} {x : Ob1 α} {m1 : M β} {m2 : β → M τ} (hi : Γ[i]? = some (.own (dOb1 (d1 := d) C0 f0) (oOb1 (d1 := d) C0 f0) pin x)) (hj : i ∈ js) (hne : (f0 == f) = false) (c : Cls Y.K C0) (n : NoAttr Y.K C0 f) (h : We tx Y te Γ d2 m1) (h2 : ∀ y, Zm tx Y js rest (Γ.set i (.own (dOb2 (d1 := d) (d2 := d2) C0 f0 f) (oOb2 (d1 := d) (d2 := d2) C0 f0 f) pin ⟨x.a, y⟩)) K (m2 y)) :
    Zm tx Y js (tSeq (sFld Y.K (tVar i) te f) rest) Γ K (m1 >>= m2) := fun nb xk => z_seq (z_fld2 hi hne c n (w_mono (h (M.nb1 nb) xk.l.here) fun y e => (h2 y).go nb xk e (wipeC_set hj)))
theorem Zm.bodyI {C : GCtx} {N : List Str} {C0 : Addr} {od : @OD α d} {m : M α} {vs : List V} {H : Hp} {Q : VK} {E : XK} (nb : m.nb) (h : FnI C od C0 Γ (fun r => m = .ok r) (fun x => ∃ px, m = .exc px ∧ x = px.x tx) vs H Q E)
    (hz : ∀ p, Zm tx ⟨C, fun _ => E, fun x _ => ∃ px, m = .exc px ∧ x = px.x tx⟩ js ts (.own (dOb0 C0) (oOb0 C0) (some (.ref p)) ⟨()⟩ :: (Γ ++ List.replicate (N.length - (Γ.length + 1)) .no)) (KI od p) m) : ts { nx := fun _ H' => Q .non H', rt := Q } (L2.start N vs) H :=
  h.body fun p => z_mono (hz p nb fun x e Γ' _ => ⟨x, e, rfl⟩) (fun Γ' ⟨t, e, q⟩ => ⟨t, q, e⟩) (fun _ _ ⟨_, _, z⟩ => z.elim) (fun _ ⟨_, _, z⟩ => z) fun _ ⟨_, _, z⟩ => z
end
end G
end

noncomputable section
/-! M4: the program's classes; more rules. -/
namespace G
open PySem PySem.Spec PyProof.Rows L2 PySem.W
theorem kitCls_ref {K : Frag} {t : Value} {C : Addr} {cd : ClassData} {b : Bool} (h1 : clsIn K C = some cd) (h2 : typeIn K (.ref C) = some (.type "type")) (h3 : subIn K t (.ref C) = some b) : kitCls K t (.ref C) = some b := by
  show (if ((clsIn K C).isSome && typeIn K (.ref C) == some (.type "type")) = true then subIn K t (.ref C) else none) = _
  rw [h1, h2, h3]
  exact if_pos (by simp)
theorem kit_refT {K : Frag} {t : Value} {C : Addr} {cd : ClassData} (h1 : clsIn K C = some cd) (h2 : typeIn K (.ref C) = some (.type "type")) (h3 : subIn K t (.ref C) = some true) : kitOne K t (.ref C) = some true := by
  unfold kitOne
  rw [kitCls_ref h1 h2 h3]
  split <;> rfl
theorem kit_refF {K : Frag} {D C : Addr} {cd : ClassData} (hne : D ≠ C) (h1 : clsIn K C = some cd) (h2 : typeIn K (.ref C) = some (.type "type")) (h3 : subIn K (.ref D) (.ref C) = some false) : kitOne K (.ref D) (.ref C) = some false := by
  unfold kitOne
  rw [kitCls_ref h1 h2 h3]
  exact if_neg (fun z => hne (Value.ref.inj (beq_iff_eq.mp z)))
theorem exm_ref {K : Frag} {t : Value} {C : Addr} {cd : ClassData} {b : Bool} (h0 : subIn K (.ref C) (.type "BaseException") = some true) (h1 : clsIn K C = some cd) (h2 : typeIn K (.ref C) = some (.type "type")) (h3 : subIn K t (.ref C) = some b) : exmOne K t (.ref C) = some b := by
  unfold exmOne
  rw [h0, kitCls_ref h1 h2 h3]
  rfl
theorem kit_VE {K : Frag} {D : Addr} (h : subIn K (.ref D) (.type "ValueError") = some true) : kitOne K (.ref D) (.type "ValueError") = some true := by
  unfold kitOne kitCls
  rw [if_neg (by simp)]
  show (if kitMeta "ValueError" = true then subIn K (.ref D) (.type "ValueError") else none) = _
  rw [if_pos (by decide +kernel), h]
/-- the program's classes of objects -/
inductive OC where
  | Web | PairedWeb | Wiring | Sum | Kind | Desk | Likeness | Batch
  deriving DecidableEq
/-- where the classes stand -/
structure CA3 where
  tx : XC → Addr
  ob : OC → Addr
abbrev T4I := T4 Int Int Int Int
abbrev WebM := Ob2 (Tup Int) (Tup (T4 Int Int Int Int))
abbrev PairedWebM := Ob2 Int (Tup (Int × Int))
abbrev LikenessM := Ob2 Int (Tup (Int × Int))
abbrev SumM := Ob1 (Tup (Int × Tup Int))
section
variable (A : CA3)
@[reducible] def dWeb : Dat WebM := dOb2 (d1 := (dTup (d := dInt))) (d2 := (dTup (d := (dT4 (d1 := dInt) (d2 := dInt) (d3 := dInt) (d4 := dInt))))) (A.ob .Web) "sides" "ties"
@[reducible] def oWeb : @OD WebM (dWeb A) := oOb2 (d1 := (dTup (d := dInt))) (d2 := (dTup (d := (dT4 (d1 := dInt) (d2 := dInt) (d3 := dInt) (d4 := dInt))))) (A.ob .Web) "sides" "ties"
theorem isI_Web : IsI (dWeb A) (A.ob .Web) ["sides", "ties"] := isI2
theorem isF_Web_sides : IsF (dWeb A) (A.ob .Web) "sides" (dTup (d := dInt)) Ob2.a := isF2a
theorem isF_Web_ties : IsF (dWeb A) (A.ob .Web) "ties" (dTup (d := (dT4 (d1 := dInt) (d2 := dInt) (d3 := dInt) (d4 := dInt)))) Ob2.b := isF2b (by decide)
@[reducible] def dPairedWeb : Dat PairedWebM := dOb2 (d1 := dInt) (d2 := (dTup (d := (dPair (d1 := dInt) (d2 := dInt))))) (A.ob .PairedWeb) "pairs" "free"
@[reducible] def oPairedWeb : @OD PairedWebM (dPairedWeb A) := oOb2 (d1 := dInt) (d2 := (dTup (d := (dPair (d1 := dInt) (d2 := dInt))))) (A.ob .PairedWeb) "pairs" "free"
@[reducible] def dLikeness : Dat LikenessM := dOb2 (d1 := dInt) (d2 := (dTup (d := (dPair (d1 := dInt) (d2 := dInt))))) (A.ob .Likeness) "size" "_like"
@[reducible] def oLikeness : @OD LikenessM (dLikeness A) := oOb2 (d1 := dInt) (d2 := (dTup (d := (dPair (d1 := dInt) (d2 := dInt))))) (A.ob .Likeness) "size" "_like"
@[reducible] def dSum : Dat SumM := dOb1 (d1 := (dTup (d := (dPair (d1 := dInt) (d2 := (dTup (d := dInt))))))) (A.ob .Sum) "_rows"
@[reducible] def oSum : @OD SumM (dSum A) := oOb1 (d1 := (dTup (d := (dPair (d1 := dInt) (d2 := (dTup (d := dInt))))))) (A.ob .Sum) "_rows"
end
section
variable {tx : XC → Addr} {Y : YC} {Γ : List Cell} {te ta tb tc td tl t1 t2 : TE} {α β γ δ τ : Type} {d : Dat α} {d1 : Dat α} {d2 : Dat β} {d3 : Dat γ} {d4 : Dat δ}
/-! operators with written numbers -/
theorem we_modC {m : M Int} {j : Int} (h : Re tx Y ta Γ dInt m) (h2 : Re tx Y tb Γ dInt (.ok j)) (hj : 0 < j := by decide) : We tx Y (tOp (rI (fun _ j => 0 < j) fun i j => .int (i % j)) ta tb) Γ dInt (m >>= fun x => .ok (x % j)) := we_eq (we_mod h h2) (by cases m <;> first | rfl | exact M.asrt_pos hj)
theorem we_fdivC {m : M Int} {j : Int} (h : Re tx Y ta Γ dInt m) (h2 : Re tx Y tb Γ dInt (.ok j)) (hj : CDiv 0 j := by decide) : We tx Y (tOp (rI CDiv fun i j => .int (i / j)) ta tb) Γ dInt (m >>= fun x => .ok (x / j)) := we_eq (we_fdiv h h2) (by cases m <;> first | rfl | exact M.asrt_pos hj)
theorem we_mulCr {m : M Int} {j : Int} (h : Re tx Y ta Γ dInt m) (h2 : Re tx Y tb Γ dInt (.ok j)) (hj : -(2 ^ 64) < j ∧ j < 2 ^ 64 := by decide) : We tx Y (tOp (rI CMul fun i j => .int (i * j)) ta tb) Γ dInt (m >>= fun x => .ok (x * j)) := we_eq (we_mul h h2) (by cases m <;> first | rfl | exact M.asrt_pos (.inr hj))
theorem we_mulCl {m : M Int} {j : Int} (h : Re tx Y ta Γ dInt (.ok j)) (h2 : Re tx Y tb Γ dInt m) (hj : -(2 ^ 64) < j ∧ j < 2 ^ 64 := by decide) : We tx Y (tOp (rI CMul fun i j => .int (i * j)) ta tb) Γ dInt (m >>= fun x => .ok (j * x)) := we_eq (we_mul h h2) (by cases m <;> first | rfl | exact M.asrt_pos (.inl hj))
/-! lists joined -/
def M.cat {α : Type} (xs ys : List α) : M (List α) := M.asrt (xs.length + ys.length ≤ PySem.sizeLine) (.ok (xs ++ ys))
/-! sets, dicts -/
end
end G
namespace L2
open PySem PySem.Spec PyProof.Rows
section
variable {X : Cx} (K : PySem.W.Frag)
theorem pg_tupK {es : List Expr} {k n : Nat} {t : TGs} {pos : Pos} (hc : X.calm = true) (h : PGs X es t) (hn : (assignEach es X.env).length = n := by rfl) (hst : (assignEach es X.env).findIdx? (·.1) = none := by rfl) (hK : X.K = K := by rfl) : PG X (.Tuple es k pos) (gTup K n t) := hK ▸ pg_tup hc h hn hst
theorem fld_K {e : Expr} {te : TE} {f : Str} {pos : Pos} (he : PE X e te) (hb : attributeBase e f X.env (eval e X.env) = eval e X.env) (hK : X.K = K := by rfl) : PE X (.Attribute e f pos) (tFld K te f) := hK ▸ pe_fld he hb
theorem con_K {e : Expr} {te : TE} {f : Str} {pos : Pos} (he : PE X e te) (hb : attributeBase e f X.env (eval e X.env) = eval e X.env) (hK : X.K = K := by rfl) : PE X (.Attribute e f pos) (tCon K te f) := hK ▸ pe_con he hb
end
/-- try: body; except c as the name at i: suite -/
def tTry (K : PySem.W.Frag) (c : Value) (i : Nat) (tb : WX → TS) (ts : Addr → Value → Option Addr → TS) (Wout : WX) : TS := fun D σ H => tb (wAs K c i ts Wout D) D σ H
section
variable {X : Cx} {x n : Str} {c : Value} {i : Nat} {body suite : List Stmt} {b₀ : Stmt} {np pos pos' : Pos} {tb : WX → TS} {ts : Addr → Value → Option Addr → TS} {Wout : WX}
theorem try_as (K : PySem.W.Frag) (hs : X.stack = X.env :: X.outer) (hf : X.env.frame = some X.env.locals) (hN : X.N.Nodup) (hi : X.N[i]? = some n) (hln : X.env.kindOf n = some .local) (hc : Names X x c) (tk : Takes X Wout)
    (hb : ∀ (W : WX) (pn : List (Addr × Obj)) (xe : Value → Shared → Prop), Takes (X.tr pn xe) W → PassesOwn (model X.prog X.w) X.A X.env xe → PSs (X.tr pn xe) body (tb W))
    (hsu : ∀ (a : Addr) (oe : Obj) (cls : Value) (d : Option Addr) (pn : List (Addr × Obj)), Zc cls d oe → (∃ vs, oe.data = .fields vs) → PSs (X.suite a ((a, oe) :: pn)) (b₀ :: suite) (ts a cls d)) (hK : X.K = K := by rfl) :
    PS X (.Try body [.ExceptHandler (some (.Name x np)) (some n) (b₀ :: suite) pos'] [] [] pos) (tTry K c i tb ts Wout) := hK ▸ ps_try_as hs hf hN hi hln hc tk hb hsu
end
end L2
namespace G
open PySem PySem.Spec PyProof.Rows L2 PySem.W
theorem zm_tryT {tx : XC → Addr} {Y : YC} {Γ : List Cell} {js : List Nat} {ρ : Type} {cell : ρ → Cell} (jt : List Nat) {tb : WX → TS} {tsu : Addr → Value → Option Addr → TS} {i : Nat} {cv : Value} {Wout : WX} {kn p : XC → Bool} {m : M ρ} {h : PX → M ρ} (hE : Y.E = WE Wout) (hi : ∃ c0, Γ[i]? = some c0) (hj : ∀ j ∈ jt, j ∈ js) (hij : i ∈ js)
    (hex : ∀ c, kn c = true → exmOne Y.K (.ref (tx c)) cv = some (p c))
    (hb : ∀ (W : WX) (kb : Exn → List Cell → Prop), Zm tx ⟨Y.g, WE W, kb⟩ jt (tb W) Γ (KF cell) m)
    (hs : ∀ px a d, kn px.cls = true → p px.cls = true → Zm tx Y js (tsu a (.ref (tx px.cls)) d) ((wipeC Γ jt).set i (.val (dExn a d) (px.x tx))) (KF cell) (h px)) :
    Zm tx Y js (tSeq (tTry Y.K cv i tb tsu Wout) tNext) Γ (KF cell) (M.tryK kn p m h) := zm_try jt hE hi hj hij hex hb hs
end G
end

noncomputable section
/-! M5: more rules: lists joined and repeated, list(range), pop(i), insert, sum, None. -/
namespace L2
open PySem PySem.Spec PyProof.Rows
section
variable {X : Cx}
end
end L2
namespace G
open PySem PySem.Spec PyProof.Rows L2 PySem.W
theorem Reps.rep {α : Type} {d : Dat α} {C : GCtx} {F : Hp} {vs : List V} {xs : List α} (r : Reps d C F vs xs) : ∀ n, Reps d C F (List.replicate n vs).flatten (List.replicate n xs).flatten
  | 0 => trivial
  | n + 1 => by
    simp only [List.replicate_succ, List.flatten_cons]
    exact r.append (Reps.rep r n)
section
variable {tx : XC → Addr} {Y : YC} {Γ : List Cell} {te ta tb tc td tl t1 t2 : TE} {α β γ δ τ : Type} {d : Dat α} {d1 : Dat α} {d2 : Dat β} {d3 : Dat γ} {ts rest : TS} {js : List Nat} {K : Kt τ}
theorem w_ixQ {k : α → Prop} (h : W Y ta Γ (dSq (d := d)) fun xs => R Y tb Γ dInt fun i => ∃ x, atI xs.l i = some x ∧ k x) : W Y (tOp (rIx Y.K) ta tb) Γ d k := fun e F σ H s Q q => h e F σ H s _ fun v1 F1 H1 xs h1 g1 ⟨a, vs, e1, hs, r⟩ => h1 e F1 σ H1 (s.grow g1) _ fun v2 F2 H2 i ⟨x, hx, kx⟩ g2 r2 => by
  subst e1
  cases (show v2 = .int i from r2)
  obtain ⟨v, hv, rv⟩ := atI_rep r hx
  rcases hs with hs | hs
  · exact .inl ⟨a, vs, i, v, rfl, rfl, (g1.fh.trans g2.hh0).seq hs, hv, q _ F2 H2 x kx (g1.trans0 g2) (d.mono g2.ff rv)⟩
  · exact .inr (.inl ⟨a, vs, i, v, rfl, rfl, (hs.mono (g2.ff.trans g2.fh)).sq, hv, q _ F2 H2 x kx (g1.trans0 g2) (d.mono g2.ff rv)⟩)
theorem we_ixQ {m : M (Sq α)} {n : M Int} (h : We tx Y ta Γ (dSq (d := d)) m) (h2 : Re tx Y tb Γ dInt n) : We tx Y (tOp (rIx Y.K) ta tb) Γ d (m >>= fun xs => n >>= fun i => M.ix xs.l i) := we_l2 (f := fun (xs : Sq α) i => atI xs.l i) (fun k h => w_ixQ h) h h2
/-! lists joined, repeated -/
def M.rep {α : Type} (xs : List α) (k : Int) : M (List α) := M.asrt (-(2 ^ 63) ≤ k ∧ k < 2 ^ 63 ∧ xs.length * k.toNat ≤ PySem.sizeLine) (.ok (List.replicate k.toNat xs).flatten)
/-! list(range(..)) -/
/-! sum, all, min, max -/
def minL (xs : List Int) : Int := xs.foldl (fun a b => if b < a then b else a) (xs.headD 0)
def M.minM (xs : List Int) : M Int := M.asrt (0 < xs.length) (.ok (minL xs))
theorem foldmin (xs : List Int) : ∀ a : Int, (xs.foldl (fun a b => if b < a then b else a) a = a ∨ xs.foldl (fun a b => if b < a then b else a) a ∈ xs) ∧ xs.foldl (fun a b => if b < a then b else a) a ≤ a ∧ ∀ y ∈ xs, xs.foldl (fun a b => if b < a then b else a) a ≤ y := by
  induction xs with
  | nil => intro a; exact ⟨.inl rfl, Int.le_refl a, fun y hy => nomatch hy⟩
  | cons x xs ih =>
    intro a
    obtain ⟨h1, h2, h3⟩ := ih (if x < a then x else a)
    simp only [List.foldl_cons, List.mem_cons]
    refine ⟨?_, ?_, ?_⟩
    · rcases h1 with h1 | h1
      · rw [h1]; split <;> simp
      · exact .inr (.inr h1)
    · exact Int.le_trans h2 (by split <;> omega)
    · rintro y (rfl | hy)
      · exact Int.le_trans h2 (by split <;> omega)
      · exact h3 y hy
theorem minL_spec {xs : List Int} (h : 0 < xs.length) : minL xs ∈ xs ∧ ∀ y ∈ xs, minL xs ≤ y := by
  cases xs with
  | nil => cases h
  | cons x xs =>
    obtain ⟨h1, h2, h3⟩ := foldmin (x :: xs) x
    unfold minL
    exact ⟨h1.elim (fun z => by rw [show (x :: xs).headD 0 = x from rfl, z]; simp) id, h3⟩
/-! None -/
class NN (α : Type) [d : Dat α] : Prop where
  nn : ∀ {C : GCtx} {F : Hp} {v : V} {x : α}, d.rep C F v x → v ≠ .non
instance : NN Int := ⟨fun {C F v x} h z => by subst z; cases (show V.non = .int x from h)⟩
instance : NN Bool := ⟨fun {C F v x} h z => by subst z; cases (show V.non = .bl x from h)⟩
instance : NN Str := ⟨fun {C F v x} h z => by subst z; cases (show V.non = .str x from h)⟩
instance {α : Type} [d : Dat α] : NN (List α) := ⟨fun ⟨a, vs, e, _⟩ z => by subst z; cases e⟩
instance {α : Type} [d : Dat α] : NN (Tup α) := ⟨fun ⟨a, vs, e, _⟩ z => by subst z; cases e⟩
instance {α β : Type} [d : Dat α] [d2 : Dat β] : NN (α × β) := ⟨fun ⟨a, v1, v2, e, _⟩ z => by subst z; cases e⟩
instance {α β γ : Type} [d : Dat α] [d2 : Dat β] [d3 : Dat γ] : NN (T3 α β γ) := ⟨fun ⟨a, v1, v2, v3, e, _⟩ z => by subst z; cases e⟩
instance {α β γ δ : Type} [d : Dat α] [d2 : Dat β] [d3 : Dat γ] [d4 : Dat δ] : NN (T4 α β γ δ) := ⟨fun ⟨a, v1, v2, v3, v4, e, _⟩ z => by subst z; cases e⟩
def Opt.isNone {α : Type} : Opt α → Bool
  | .none => true
  | .some _ => false
theorem w_notN [nn : @NN α d] {k : Bool → Prop} (h : R Y ta Γ (dOpt (d := d)) fun x => k (!x.isNone)) : W Y (tOp (fun x y H Q => y = .non ∧ Q (.bl (!decide (x = .non))) H) ta (tC .non)) Γ dBool k := fun e F σ H s Q q => h e F σ H s _ fun v F' H' x kx g r => ⟨rfl, q _ F' H' _ kx g (by
  cases x with
  | none => cases (show v = .non from r); rfl
  | some y => show V.bl _ = V.bl _; rw [decide_eq_false (nn.nn (show d.rep _ _ v y from r))]; rfl)⟩
theorem we_notN [nn : @NN α d] {m : M (Opt α)} (h : Re tx Y ta Γ (dOpt (d := d)) m) : We tx Y (tOp (fun x y H Q => y = .non ∧ Q (.bl (!decide (x = .non))) H) ta (tC .non)) Γ dBool (m >>= fun x => .ok (!x.isNone)) := we_p1 (f := fun x : Opt α => !x.isNone) (fun k h => w_notN h) h
/-! pop(i), insert -/
def M.popAt {α : Type} (xs : List α) (mi : M Int) : M (List α × α) := mi >>= fun n => M.asrt (-(2 ^ 63) ≤ n ∧ n < 2 ^ 63) (match seqIndex? n xs.length with | some k => (match xs[k]? with | some y => .ok (xs.eraseIdx k, y) | none => .bad) | none => .bad)
theorem M.popAt_at {α : Type} {xs : List α} {n : Int} {y : α} (h0 : 0 ≤ n) (h1 : n < 100000000) (hy : xs[n.toNat]? = some y) : M.popAt xs (.ok n) = .ok (xs.eraseIdx n.toNat, y) := by
  have hl : n.toNat < xs.length := (List.getElem?_eq_some_iff.mp hy).1
  have e : seqIndex? n xs.length = some n.toNat := by
    unfold seqIndex?
    have hneg : ¬ (n < 0) := by omega
    simp only [if_neg hneg]
    rw [if_pos (by rw [Bool.and_eq_true]; exact ⟨decide_eq_true h0, decide_eq_true (by omega)⟩)]
  show M.asrt _ _ = _
  rw [M.asrt_pos ⟨by omega, by omega⟩, e]
  show (match xs[n.toNat]? with | some y => _ | none => _) = _
  rw [hy]
theorem M.popAt_nb {α : Type} {xs : List α} {n : Int} (h : (M.asrt (-(2 ^ 63) ≤ n ∧ n < 2 ^ 63) (match seqIndex? n xs.length with | some k => (match xs[k]? with | some y => M.ok (xs.eraseIdx k, y) | none => .bad) | none => .bad)).nb) : (-(2 ^ 63) ≤ n ∧ n < 2 ^ 63) ∧ ∃ k y, seqIndex? n xs.length = some k ∧ xs[k]? = some y := by
  have hb := M.asrt_nb h
  refine ⟨hb, ?_⟩
  rw [M.asrt_pos hb] at h
  cases q : seqIndex? n xs.length with
  | none => rw [q] at h; exact absurd rfl h
  | some k =>
    rw [q] at h
    cases q2 : xs[k]? with
    | none => simp only [q2] at h; exact absurd rfl h
    | some y => exact ⟨k, y, rfl, q2⟩
theorem z_popAt {pin : Option V} {i j : Nat} {xs : List α} {c0 : Cell} {k : Ks} (hij : i ≠ j) (hi : Γ[i]? = some (.own (dList (d := d)) (oList (d := d)) pin xs)) (hj : Γ[j]? = some c0)
    (h : R Y ta Γ dInt fun n => ∃ m y, (-(2 ^ 63) ≤ n ∧ n < 2 ^ 63 ∧ seqIndex? n xs.length = some m ∧ xs[m]? = some y) ∧ k.nx ((Γ.set i (.own (dList (d := d)) (oList (d := d)) pin (xs.eraseIdx m))).set j (.val d y))) :
    Z Y (tAsg (tBM Y.K "list" rPopAt (tVar i) (tCons ta tNil)) (gName j)) Γ k := fun e F σ H D hM s c => by
  obtain ⟨v0, _, _, e1, ⟨a0, vs0, rfl, rfl, _⟩, kw0, _⟩ := s.mut hi
  have ha0 : H a0 = some (.lst vs0) := (kw0.ow (a0, .lst vs0) (by simp)).2.1
  refine ⟨.ref a0, e1, .inl ⟨rfl, vs0, .inl (.inl ha0)⟩, h e F σ H s _ fun v F1 H1 n ⟨m, y, ⟨h0, h63, hm, hy⟩, kn⟩ g r => ?_⟩
  cases (show v = .int n from r)
  obtain ⟨w1, L1, rest1, e3, ⟨b1, us1, rfl, rfl, r1⟩, kv1, f1⟩ := (s.grow g).mut hi
  rw [e1] at e3
  cases (Option.some.inj e3)
  have hb1 : H1 a0 = some (.lst us1) := (kv1.ow (a0, .lst us1) (by simp)).2.1
  obtain ⟨wv, hwv, rwv⟩ := r1.get hy
  refine ⟨a0, us1, n, m, wv, rfl, rfl, hb1, h0, h63, by rw [r1.len]; exact hm, hwv, ?_⟩
  have s2 := f1 F1 _ [(a0, .lst (us1.eraseIdx m))] (xs.eraseIdx m) (Same.refl F1) (kv1.put (fun _ z => by cases z)) ⟨a0, _, rfl, rfl, r1.erase m⟩
  have hj2 : (Γ.set i (.own (dList (d := d)) (oList (d := d)) pin (xs.eraseIdx m)))[j]? = some c0 := by rw [List.getElem?_set_ne hij]; exact hj
  exact c.nx F1 _ _ _ kn (s2.set (c' := .val d y) (L' := []) hj2 s2.base ⟨rfl, wv, rfl, rwv⟩)
theorem zm_popAt {pin : Option V} {i j : Nat} {xs : List α} {c0 : Cell} {mi : M Int} {m2 : List α × α → M τ} (hi : Γ[i]? = some (.own (dList (d := d)) (oList (d := d)) pin xs)) (hij : (i == j) = false) (hj' : Γ[j]? = some c0) (hj : i ∈ js) (hjj : j ∈ js) (hx : Re tx Y ta Γ dInt mi)
    (h2 : ∀ p, Zm tx Y js rest ((Γ.set i (.own (dList (d := d)) (oList (d := d)) pin p.1)).set j (.val d p.2)) K (m2 p)) : Zm tx Y js (tSeq (tAsg (tBM Y.K "list" rPopAt (tVar i) (tCons ta tNil)) (gName j)) rest) Γ K (M.popAt xs mi >>= m2) := fun nb xk =>
  z_seq (z_popAt (by simpa using hij) hi hj' (hx.k (M.nb1 nb) xk.l.here fun n e nb2 _ => by
    obtain ⟨hb, k, y, h1, h3⟩ := M.popAt_nb nb2
    refine ⟨k, y, ⟨hb.1, hb.2, h1, h3⟩, (h2 (xs.eraseIdx k, y)).go nb xk ?_ ?_⟩
    · unfold M.popAt
      rw [e]
      show M.asrt _ _ = _
      rw [M.asrt_pos hb, h1]
      show (match xs[k]? with | some y => _ | none => _) = _
      rw [h3]
    · rw [wipeC_set hjj, wipeC_set hj]))
abbrev rInsert : V → List V → Hp → VK → Prop := fun x vs H Q => ∃ (l : Addr) (xs : List V) (i : Int) (y : V), x = .ref l ∧ vs = [.int i, y] ∧ H l = some (.lst xs) ∧ xs.length < PySem.sizeLine ∧ 0 ≤ i ∧ i < 2 ^ 63 ∧
    Q .non (upd H l (.lst (xs.take i.toNat ++ [y] ++ xs.drop i.toNat)))
def M.insert {α : Type} (xs : List α) (mi : M Int) (m : M α) : M (List α) := mi >>= fun n => m >>= fun y => M.asrt (xs.length < PySem.sizeLine ∧ 0 ≤ n ∧ n < 2 ^ 63) (.ok (xs.take n.toNat ++ [y] ++ xs.drop n.toNat))
theorem z_insert {pin : Option V} {i : Nat} {xs : List α} {k : Ks} (hi : Γ[i]? = some (.own (dList (d := d)) (oList (d := d)) pin xs))
    (h : R Y ta Γ dInt fun n => W Y te Γ d fun y => (xs.length < PySem.sizeLine ∧ 0 ≤ n ∧ n < 2 ^ 63) ∧ k.nx (Γ.set i (.own (dList (d := d)) (oList (d := d)) pin (xs.take n.toNat ++ [y] ++ xs.drop n.toNat)))) :
    Z Y (tDrop (tBM Y.K "list" rInsert (tVar i) (tCons ta (tCons te tNil)))) Γ k := fun e F σ H D hM s c => by
  obtain ⟨v0, _, _, e1, ⟨a0, vs0, rfl, rfl, _⟩, kw0, _⟩ := s.mut hi
  have ha0 : H a0 = some (.lst vs0) := (kw0.ow (a0, .lst vs0) (by simp)).2.1
  refine ⟨.ref a0, e1, .inl ⟨rfl, vs0, .inl (.inl ha0)⟩, h e F σ H s _ fun v F1 H1 n h1 g r => h1 e F1 σ H1 (s.grow g) _ fun w F2 H2 y ⟨⟨hl, h0, h63⟩, kn⟩ g2 rw' => ?_⟩
  cases (show v = .int n from r)
  obtain ⟨w1, L1, rest1, e3, ⟨b1, us1, rfl, rfl, r1⟩, kv1, f1⟩ := ((s.grow g).grow g2).mut hi
  rw [e1] at e3
  cases (Option.some.inj e3)
  have hb1 : H2 a0 = some (.lst us1) := (kv1.ow (a0, .lst us1) (by simp)).2.1
  refine ⟨a0, us1, n, w, rfl, rfl, hb1, by rw [r1.len]; exact hl, h0, h63, ?_⟩
  exact c.nx F2 σ _ _ kn (f1 F2 _ [(a0, .lst (us1.take n.toNat ++ [w] ++ us1.drop n.toNat))] _ (Same.refl F2) (kv1.put (fun _ z => by cases z)) ⟨a0, _, rfl, rfl, ((r1.take _).append (Reps.one rw')).append (r1.drop _)⟩)
theorem zm_insert {pin : Option V} {i : Nat} {xs : List α} {mi : M Int} {m1 : M α} {m2 : List α → M τ} (hi : Γ[i]? = some (.own (dList (d := d)) (oList (d := d)) pin xs)) (hj : i ∈ js) (hx : Re tx Y ta Γ dInt mi) (h : We tx Y te Γ d m1) (h2 : ∀ ys, Zm tx Y js rest (Γ.set i (.own (dList (d := d)) (oList (d := d)) pin ys)) K (m2 ys)) :
    Zm tx Y js (tSeq (tDrop (tBM Y.K "list" rInsert (tVar i) (tCons ta (tCons te tNil)))) rest) Γ K (M.insert xs mi m1 >>= m2) := fun nb xk =>
  z_seq (z_insert hi (hx.k (M.nb1 nb) xk.l.here fun n e nb3 xk3 => h.k nb3 xk3 fun y e2 nb4 _ => by
    have hb := M.asrt_nb nb4
    refine ⟨hb, (h2 _).go nb xk ?_ (wipeC_set hj)⟩
    unfold M.insert
    rw [e]; show (m1 >>= _) = _; rw [e2]; exact M.asrt_pos hb))
/-! a, b = x, y -/
end
end G
end

noncomputable section
/-! M6: instances whose later attributes are dicts (filled within __init__), tuples of the top. -/
namespace G
open PySem PySem.Spec PyProof.Rows L2 PySem.W
structure Ob3 (α β γ : Type) where
  a : α
  b : β
  c : γ
  deriving DecidableEq
structure Ob4 (α β γ δ : Type) where
  a : α
  b : β
  c : γ
  d : δ
  deriving DecidableEq
theorem Wk.perm {e : En} {F : Hp} {L L' : LO} {H : Hp} (a : Wk e F L H) (p : L.Perm L') : Wk e F L' H :=
  a.sub (fun x hx => p.mem_iff.mpr hx) ((List.Perm.nodup_iff (p.map _)).mp a.nd)
section
variable {α β γ δ : Type} [d1 : Dat α] [d2 : Dat β] [d3 : Dat γ] [d4 : Dat δ] (C0 : Addr) (f1 f2 f3 f4 : Str)
@[reducible] def dOb3 : Dat (Ob3 α β γ) := ⟨fun C F v x => ∃ p dx v1 v2 v3, v = .ref p ∧ F p = some (.ins C0 dx [(f1, v1), (f2, v2), (f3, v3)]) ∧ d1.rep C F v1 x.a ∧ d2.rep C F v2 x.b ∧ d3.rep C F v3 x.c,
  fun s ⟨p, dx, v1, v2, v3, e, h, r1, r2, r3⟩ => ⟨p, dx, v1, v2, v3, e, s _ _ h, d1.mono s r1, d2.mono s r2, d3.mono s r3⟩⟩
@[reducible] def dOb4 : Dat (Ob4 α β γ δ) := ⟨fun C F v x => ∃ p dx v1 v2 v3 v4, v = .ref p ∧ F p = some (.ins C0 dx [(f1, v1), (f2, v2), (f3, v3), (f4, v4)]) ∧ d1.rep C F v1 x.a ∧ d2.rep C F v2 x.b ∧ d3.rep C F v3 x.c ∧ d4.rep C F v4 x.d,
  fun s ⟨p, dx, v1, v2, v3, v4, e, h, r1, r2, r3, r4⟩ => ⟨p, dx, v1, v2, v3, v4, e, s _ _ h, d1.mono s r1, d2.mono s r2, d3.mono s r3, d4.mono s r4⟩⟩
@[reducible] def oOb3 (od3 : @OD γ d3) : @OD (Ob3 α β γ) (dOb3 C0 f1 f2 f3) := @OD.mk (Ob3 α β γ) (dOb3 C0 f1 f2 f3)
  (fun C F v x L => ∃ p dx v1 v2 v3 L3, v = .ref p ∧ L = (p, .ins C0 dx [(f1, v1), (f2, v2), (f3, v3)]) :: L3 ∧ d1.rep C F v1 x.a ∧ d2.rep C F v2 x.b ∧ od3.orep C F v3 x.c L3)
  (fun s ⟨p, dx, v1, v2, v3, L3, e, h, r1, r2, r3⟩ => ⟨p, dx, v1, v2, v3, L3, e, h, d1.mono s r1, d2.mono s r2, od3.omono s r3⟩)
  (fun ⟨p, dx, v1, v2, v3, L3, e, h, r1, r2, r3⟩ s k => ⟨p, dx, v1, v2, v3, e, k (p, .ins C0 dx [(f1, v1), (f2, v2), (f3, v3)]) (by rw [h]; exact List.mem_cons_self), d1.mono s r1, d2.mono s r2, od3.view r3 s fun q hq => k q (by rw [h]; exact List.mem_cons_of_mem _ hq)⟩)
@[reducible] def oOb4 (od3 : @OD γ d3) (od4 : @OD δ d4) : @OD (Ob4 α β γ δ) (dOb4 C0 f1 f2 f3 f4) := @OD.mk (Ob4 α β γ δ) (dOb4 C0 f1 f2 f3 f4)
  (fun C F v x L => ∃ p dx v1 v2 v3 v4 L3 L4, v = .ref p ∧ L = (p, .ins C0 dx [(f1, v1), (f2, v2), (f3, v3), (f4, v4)]) :: (L3 ++ L4) ∧ d1.rep C F v1 x.a ∧ d2.rep C F v2 x.b ∧ od3.orep C F v3 x.c L3 ∧ od4.orep C F v4 x.d L4)
  (fun s ⟨p, dx, v1, v2, v3, v4, L3, L4, e, h, r1, r2, r3, r4⟩ => ⟨p, dx, v1, v2, v3, v4, L3, L4, e, h, d1.mono s r1, d2.mono s r2, od3.omono s r3, od4.omono s r4⟩)
  (fun ⟨p, dx, v1, v2, v3, v4, L3, L4, e, h, r1, r2, r3, r4⟩ s k => ⟨p, dx, v1, v2, v3, v4, e, k (p, .ins C0 dx [(f1, v1), (f2, v2), (f3, v3), (f4, v4)]) (by rw [h]; exact List.mem_cons_self), d1.mono s r1, d2.mono s r2,
    od3.view r3 s fun q hq => k q (by rw [h]; exact List.mem_cons_of_mem _ (List.mem_append_left _ hq)), od4.view r4 s fun q hq => k q (by rw [h]; exact List.mem_cons_of_mem _ (List.mem_append_right _ hq))⟩)
end
section
variable {α β γ δ : Type} [d1 : Dat α] [d2 : Dat β] [d3 : Dat γ] [d4 : Dat δ] {C0 : Addr} {f1 f2 f3 f4 : Str}
end
theorem set_same {σ : L2.St} {i : Nat} {v : V} (e1 : σ[i]? = some (some v)) : σ.set i (some v) = σ := by
  apply List.ext_getElem?
  intro j
  by_cases hj : i = j
  · subst hj
    obtain ⟨hlt, hv⟩ := List.getElem?_eq_some_iff.mp e1
    rw [List.getElem?_set_self hlt, e1]
  · rw [List.getElem?_set_ne hj]
section
variable {Y : YC} {Γ : List Cell} {k : Ks} {te tk tv : TE} {α β γ δ ε : Type} {d1 : Dat α} {d2 : Dat β} {d3 : Dat γ} {d4 : Dat δ} {dv : Dat ε} {C0 : Addr} {f f1 f2 f3 : Str}
end
section
variable {tx : XC → Addr} {Y : YC} {Γ : List Cell} {te tk tv : TE} {α β γ δ ε τ : Type} {d1 : Dat α} {d2 : Dat β} {d3 : Dat γ} {d4 : Dat δ} {dv : Dat ε} {rest : TS} {js : List Nat} {K : Kt τ} {C0 : Addr} {f f1 f2 f3 : Str}
end
/-! the class Wiring -/
abbrev WiringM := Ob4 (Tup (Int × Int)) (Tup (T3 Str Int Int)) (DI Int) (DI Int)
section
variable (A : CA3)
@[reducible] def dLinks : Dat (Tup (Int × Int)) := dTup (d := dPair (d1 := dInt) (d2 := dInt))
@[reducible] def dNodes : Dat (Tup (T3 Str Int Int)) := dTup (d := dT3 (d1 := dStr) (d2 := dInt) (d3 := dInt))
@[reducible] def dWiring : Dat WiringM := dOb4 (d1 := dTup (d := dPair (d1 := dInt) (d2 := dInt))) (d2 := dTup (d := dT3 (d1 := dStr) (d2 := dInt) (d3 := dInt))) (d3 := dDI (d := dInt)) (d4 := dDI (d := dInt)) (A.ob .Wiring) "links" "nodes" "_parents" "_owners"
@[reducible] def oWiring : @OD WiringM (dWiring A) := oOb4 (d1 := dTup (d := dPair (d1 := dInt) (d2 := dInt))) (d2 := dTup (d := dT3 (d1 := dStr) (d2 := dInt) (d3 := dInt))) (d3 := dDI (d := dInt)) (d4 := dDI (d := dInt)) (A.ob .Wiring) "links" "nodes" "_parents" "_owners" (oDI (d := dInt)) (oDI (d := dInt))
end
/-! tuples of the top -/
section
variable {tx : XC → Addr} {Y : YC} {Γ : List Cell} {te ta tb : TE} {α β : Type} {d : Dat α}
theorem any_eqv [de : @DE α d] [DecidableEq α] (x : α) (xs : List α) : ((xs.map de.toD).any fun z => PyData.eqv z (de.toD x)) = memB x xs := by
  rw [List.any_map]
  have : (fun z => PyData.eqv (de.toD z) (de.toD x)) = fun z => decide (z = x) := funext fun z => de_eqv z x
  show List.any xs (fun z => PyData.eqv (de.toD z) (de.toD x)) = _
  rw [this]
  unfold memB
  rw [Bool.eq_iff_iff]
  simp
theorem w_notinD [de : @DE α d] [DecidableEq α] {kb : Bool → Prop} (hd : de.dep ≤ 64) (h : R Y ta Γ d fun x => R Y tb Γ (dList (d := d)) fun xs => kb (!memB x xs)) : W Y (tOp (rInP Y.K true) ta tb) Γ dBool kb := fun e F σ H s Q q => h e F σ H s _ fun v1 F1 H1 x h1 g1 r1 => h1 e F1 σ H1 (s.grow g1) _ fun v2 F2 H2 xs ky g2 ⟨a, vs, e2, h2, r2⟩ => by
  subst e2
  exact ⟨de.toD x, xs.map de.toD, de.dp (d.mono g2.hh0 r1), .inl (.lst h2 (dpAll_of r2)), de_shaped hd x, layAll_of xs, q _ F2 H2 _ ky (g1.trans0 g2) (by show V.bl _ = V.bl _; rw [if_pos rfl]; exact congrArg (fun b => V.bl (!b)) (any_eqv x xs))⟩
theorem we_notinD [de : @DE α d] [DecidableEq α] {m : M α} {n : M (List α)} (hd : de.dep ≤ 64) (h : Re tx Y ta Γ d m) (h2 : Re tx Y tb Γ (dList (d := d)) n) : We tx Y (tOp (rInP Y.K true) ta tb) Γ dBool (m >>= fun x => n >>= fun xs => .ok (!memB x xs)) := we_p2 (f := fun (x : α) xs => !memB x xs) (fun k h => w_notinD hd h) h h2
end
end G
end

noncomputable section
/-! M7: properties, pairs joined. -/
namespace L2
open PySem PySem.Spec PyProof.Rows
end L2
namespace G
open PySem PySem.Spec PyProof.Rows L2 PySem.W
section
variable {tx : XC → Addr} {Y : YC} {Γ : List Cell} {ta tb : TE} {α β γ δ : Type} {d : Dat α} {d1 : Dat α} {d2 : Dat β} {d3 : Dat γ} {d4 : Dat δ} {sp : Sp} {C0 : Addr} {ns : List Str}
end
end G
end

noncomputable section
/-! M8: setdefault, d[k].append(y), dict comprehensions. -/
namespace G
open PySem PySem.Spec PyProof.Rows L2 PySem.W
section
variable {Y : YC} {Γ : List Cell} {k : Ks} {ta tk tv te : TE} {α β : Type} {d : Dat α}
end
section
variable {tx : XC → Addr} {Y : YC} {Γ : List Cell} {ta tk tv te tl : TE} {tt : TT} {g : TG} {α β τ : Type} {d : Dat α} {d2 : Dat β} {rest : TS} {js vs : List Nat} {K : Kt τ}
end
end G
end

noncomputable section
/-! M9: plain data of any shape. -/
namespace G
open PySem PySem.Spec PyProof.Rows L2 PySem.W
mutual
def DU (C : GCtx) (F : Hp) : PyData → V → Prop
  | .none, v => v = .non
  | .bool b, v => v = .bl b
  | .int i, v => v = .int i
  | .str s, v => v = .str s
  | .list ds, v => ∃ a vs, v = .ref a ∧ Rd F a (.lst vs) ∧ DUs C F ds vs
  | .tuple ds, v => ∃ a vs, v = .ref a ∧ TpA C.K F a vs ∧ DUs C F ds vs
  | .dict _, _ => False
def DUs (C : GCtx) (F : Hp) : List PyData → List V → Prop
  | [], [] => True
  | d :: ds, v :: vs => DU C F d v ∧ DUs C F ds vs
  | [], _ :: _ => False
  | _ :: _, [] => False
end
mutual
theorem DU.mono {C : GCtx} {F F' : Hp} (s : Same F F') : ∀ (x : PyData) (v : V), DU C F x v → DU C F' x v
  | .none, _, h => h
  | .bool _, _, h => h
  | .int _, _, h => h
  | .str _, _, h => h
  | .list ds, _, ⟨a, vs, e, h, r⟩ => ⟨a, vs, e, h.imp (s a _) fun ⟨o, e⟩ => ⟨o, s a _ e⟩, DUs.mono s ds vs r⟩
  | .tuple ds, _, ⟨a, vs, e, h, r⟩ => ⟨a, vs, e, h.mono s, DUs.mono s ds vs r⟩
  | .dict _, _, h => h.elim
theorem DUs.mono {C : GCtx} {F F' : Hp} (s : Same F F') : ∀ (xs : List PyData) (vs : List V), DUs C F xs vs → DUs C F' xs vs
  | [], [], h => h
  | d :: ds, v :: vs, h => ⟨DU.mono s d v h.1, DUs.mono s ds vs h.2⟩
  | [], _ :: _, h => h.elim
  | _ :: _, [], h => h.elim
end
mutual
theorem DU.dp {C : GCtx} {F : Hp} : ∀ (x : PyData) (v : V), DU C F x v → Dp C.K F v x
  | .none, _, h => by cases (show _ = _ from h); exact .non
  | .bool _, _, h => by cases (show _ = _ from h); exact .bl _
  | .int _, _, h => by cases (show _ = _ from h); exact .int _
  | .str _, _, h => by cases (show _ = _ from h); exact .str _
  | .list ds, _, ⟨a, vs, e, h, r⟩ => by subst e; exact .lst (.inl h) (DUs.dp ds vs r)
  | .tuple ds, _, ⟨a, vs, e, h, r⟩ => by subst e; exact .tup h.sq (DUs.dp ds vs r)
  | .dict _, _, h => h.elim
theorem DUs.dp {C : GCtx} {F : Hp} : ∀ (xs : List PyData) (vs : List V), DUs C F xs vs → DpAll C.K F vs xs
  | [], [], _ => .nil
  | d :: ds, v :: vs, h => .cons (DU.dp d v h.1) (DUs.dp ds vs h.2)
  | [], _ :: _, h => h.elim
  | _ :: _, [], h => h.elim
end
mutual
theorem DU.pl {C : GCtx} {F : Hp} : ∀ (x : PyData) (v : V), DU C F x v → x.plain = true
  | .none, _, _ => rfl
  | .bool _, _, _ => rfl
  | .int _, _, _ => rfl
  | .str _, _, _ => rfl
  | .list ds, _, ⟨a, vs, e, h, r⟩ => by simp only [PyData.plain]; exact DUs.pl ds vs r
  | .tuple ds, _, ⟨a, vs, e, h, r⟩ => by simp only [PyData.plain]; exact DUs.pl ds vs r
  | .dict _, _, h => h.elim
theorem DUs.pl {C : GCtx} {F : Hp} : ∀ (xs : List PyData) (vs : List V), DUs C F xs vs → PyData.plainAll xs = true
  | [], _, _ => rfl
  | d :: ds, v :: vs, h => by simp only [PyData.plainAll, DU.pl d v h.1, DUs.pl ds vs h.2, Bool.and_self]
  | _ :: _, [], h => h.elim
end
abbrev U := PyData
@[reducible] def dU : Dat U := ⟨fun C F v x => DU C F x v, fun s h => DU.mono s _ _ h⟩
/-- data that are plain data -/
class UD (α : Type) [d : Dat α] where
  toU : α → U
  du : ∀ {C : GCtx} {F : Hp} {v : V} {x : α}, d.rep C F v x → DU C F (toU x) v
instance udInt : UD Int := ⟨.int, fun h => h⟩
instance udBool : UD Bool := ⟨.bool, fun h => h⟩
instance udStr : UD Str := ⟨.str, fun h => h⟩
instance udUnit : UD Unit := ⟨fun _ => .none, fun h => h⟩
theorem dus_of {α : Type} {d : Dat α} [u : @UD α d] {C : GCtx} {F : Hp} : ∀ {vs : List V} {xs : List α}, Reps d C F vs xs → DUs C F (xs.map u.toU) vs
  | [], [], _ => trivial
  | _ :: _, _ :: _, h => ⟨u.du h.1, dus_of h.2⟩
  | [], _ :: _, h => h.elim
  | _ :: _, [], h => h.elim
instance udList {α : Type} {d : Dat α} [u : @UD α d] : @UD (List α) dList := ⟨fun xs => .list (xs.map u.toU), fun ⟨a, vs, e, h, r⟩ => ⟨a, vs, e, h, dus_of r⟩⟩
instance udTup {α : Type} {d : Dat α} [u : @UD α d] : @UD (Tup α) dTup := ⟨fun xs => .tuple (xs.l.map u.toU), fun ⟨a, vs, e, h, r⟩ => ⟨a, vs, e, h, dus_of r⟩⟩
instance udPair {α β : Type} {d1 : Dat α} {d2 : Dat β} [u1 : @UD α d1] [u2 : @UD β d2] : @UD (α × β) dPair := ⟨fun x => .tuple [u1.toU x.1, u2.toU x.2], fun ⟨a, v1, v2, e, h, r1, r2⟩ => ⟨a, _, e, h, u1.du r1, u2.du r2, trivial⟩⟩
instance udT3 {α β γ : Type} {d1 : Dat α} {d2 : Dat β} {d3 : Dat γ} [u1 : @UD α d1] [u2 : @UD β d2] [u3 : @UD γ d3] : @UD (T3 α β γ) dT3 := ⟨fun x => .tuple [u1.toU x.a, u2.toU x.b, u3.toU x.c], fun ⟨a, v1, v2, v3, e, h, r1, r2, r3⟩ => ⟨a, _, e, h, u1.du r1, u2.du r2, u3.du r3, trivial⟩⟩
instance udT4 {α β γ δ : Type} {d1 : Dat α} {d2 : Dat β} {d3 : Dat γ} {d4 : Dat δ} [u1 : @UD α d1] [u2 : @UD β d2] [u3 : @UD γ d3] [u4 : @UD δ d4] : @UD (T4 α β γ δ) dT4 := ⟨fun x => .tuple [u1.toU x.a, u2.toU x.b, u3.toU x.c, u4.toU x.d], fun ⟨a, v1, v2, v3, v4, e, h, r1, r2, r3, r4⟩ => ⟨a, _, e, h, u1.du r1, u2.du r2, u3.du r3, u4.du r4, trivial⟩⟩
def tyU : U → String
  | .none => "NoneType" | .bool _ => "bool" | .int _ => "int" | .str _ => "str" | .list _ => "list" | .tuple _ => "tuple" | .dict _ => "dict"
/-- isinstance(x, c), c written -/
def isTy (c t : String) : Bool := c == t || (t == "bool" && c == "int")
def isU (c : String) (x : U) : Bool := isTy c (tyU x)
theorem kitU {K : Frag} {c : String} (hc : c ∈ ["bool", "int", "str", "list", "tuple"]) {x : U} (hp : x.plain = true) : kitOne K (.type (tyU x)) (.type c) = some (isU c x) := by
  refine kit_ty ?_
  simp only [List.mem_cons, List.not_mem_nil, or_false] at hc
  cases x with
  | dict _ => cases hp
  | none => rcases hc with rfl | rfl | rfl | rfl | rfl <;> (show kitB "NoneType" _ = some (isTy _ "NoneType"); decide +kernel)
  | bool _ => rcases hc with rfl | rfl | rfl | rfl | rfl <;> (show kitB "bool" _ = some (isTy _ "bool"); decide +kernel)
  | int _ => rcases hc with rfl | rfl | rfl | rfl | rfl <;> (show kitB "int" _ = some (isTy _ "int"); decide +kernel)
  | str _ => rcases hc with rfl | rfl | rfl | rfl | rfl <;> (show kitB "str" _ = some (isTy _ "str"); decide +kernel)
  | list _ => rcases hc with rfl | rfl | rfl | rfl | rfl <;> (show kitB "list" _ = some (isTy _ "list"); decide +kernel)
  | tuple _ => rcases hc with rfl | rfl | rfl | rfl | rfl <;> (show kitB "tuple" _ = some (isTy _ "tuple"); decide +kernel)
theorem DU.ty {C : GCtx} {F : Hp} {v : V} : ∀ {x : U}, DU C F x v → TyX C.K F v (.type (tyU x))
  | .none, h => by cases (show v = _ from h); exact .base .non
  | .bool _, h => by cases (show v = _ from h); exact .base (.bl _)
  | .int _, h => by cases (show v = _ from h); exact .base (.int _)
  | .str _, h => by cases (show v = _ from h); exact .base (.str _)
  | .list _, ⟨a, vs, e, h, _⟩ => by subst e; exact ty_sql (.inl h)
  | .tuple _, ⟨a, vs, e, h, _⟩ => by subst e; exact ty_tpa h
  | .dict _, h => h.elim
def isNoneU : U → Bool
  | .none => true
  | _ => false
theorem DU.non {C : GCtx} {F : Hp} {v : V} : ∀ {x : U}, DU C F x v → decide (v = .non) = isNoneU x
  | .none, h => by cases (show v = _ from h); rfl
  | .bool _, h => by cases (show v = _ from h); rfl
  | .int _, h => by cases (show v = _ from h); rfl
  | .str _, h => by cases (show v = _ from h); rfl
  | .list _, ⟨a, vs, e, h, _⟩ => by subst e; rfl
  | .tuple _, ⟨a, vs, e, h, _⟩ => by subst e; rfl
  | .dict _, h => h.elim
theorem DUs.reps {C : GCtx} {F : Hp} : ∀ {ds : List U} {vs : List V}, DUs C F ds vs → Reps dU C F vs ds
  | [], [], _ => trivial
  | _ :: _, _ :: _, h => ⟨h.1, DUs.reps h.2⟩
  | [], _ :: _, h => h.elim
  | _ :: _, [], h => h.elim
/-- the items of a list or tuple -/
def itemsU : U → Option (List U)
  | .list ds => some ds
  | .tuple ds => some ds
  | _ => none
section
variable {tx : XC → Addr} {Y : YC} {Γ : List Cell} {te ta tb : TE} {α : Type} {d : Dat α}
theorem w_U [u : @UD α d] {k : U → Prop} (h : W Y te Γ d fun x => k (u.toU x)) : W Y te Γ dU k := fun e F σ H s Q q => h e F σ H s Q fun v F' H' x kx g r => q v F' H' _ kx g (u.du r)
theorem we_U [u : @UD α d] {m : M α} (h : We tx Y te Γ d m) : We tx Y te Γ dU (m >>= fun x => .ok (u.toU x)) := we_p1w (f := u.toU) (fun k h => w_U h) h
theorem w_eqU {k : Bool → Prop} (h : R Y ta Γ dU fun x => R Y tb Γ dU fun y => (x.depth ≤ 64 ∧ y.depth ≤ 64) ∧ k (PyData.eqv x y)) : W Y (tOp (rEqP Y.K) ta tb) Γ dBool k := fun e F σ H s Q q => h e F σ H s _ fun v1 F1 H1 x h1 g1 r1 => h1 e F1 σ H1 (s.grow g1) _ fun v2 F2 H2 y ⟨hd, ky⟩ g2 r2 => by
  have q1 : DU Y.g H2 x v1 := DU.mono g2.hh0 _ _ r1
  have q2 : DU Y.g H2 y v2 := r2
  exact ⟨x, y, DU.dp _ _ q1, DU.dp _ _ q2, by unfold shP; rw [DU.pl _ _ q1, decide_eq_true hd.1]; rfl, by unfold shP; rw [DU.pl _ _ q2, decide_eq_true hd.2]; rfl, q _ F2 H2 _ ky (g1.trans0 g2) rfl⟩
theorem we_eqU {m n : M U} (h : Re tx Y ta Γ dU m) (h2 : Re tx Y tb Γ dU n) : We tx Y (tOp (rEqP Y.K) ta tb) Γ dBool (m >>= fun x => n >>= fun y => M.asrt (x.depth ≤ 64 ∧ y.depth ≤ 64) (.ok (PyData.eqv x y))) := we_g2 (P := fun x y : U => x.depth ≤ 64 ∧ y.depth ≤ 64) (f := fun x y : U => PyData.eqv x y) (fun k h => w_eqU h) h h2
theorem w_isNU {k : Bool → Prop} (h : R Y ta Γ dU fun x => k (isNoneU x)) : W Y (tOp (fun x y H Q => y = .non ∧ Q (.bl (decide (x = .non))) H) ta (tC .non)) Γ dBool k := fun e F σ H s Q q => h e F σ H s _ fun v F' H' x kx g r => ⟨rfl, q _ F' H' _ kx g (by show V.bl _ = V.bl _; rw [DU.non r])⟩
theorem we_isNU {m : M U} (h : Re tx Y ta Γ dU m) : We tx Y (tOp (fun x y H Q => y = .non ∧ Q (.bl (decide (x = .non))) H) ta (tC .non)) Γ dBool (m >>= fun x => .ok (isNoneU x)) := we_p1 (f := isNoneU) (fun k h => w_isNU h) h
theorem w_isU {c : String} {k : Bool → Prop} (hc : c ∈ ["bool", "int", "str", "list", "tuple"]) (h : R Y ta Γ dU fun x => k (isU c x)) : W Y (tCB (rIsi Y.K) (tCons ta (tCons (tC (.ty c)) tNil))) Γ dBool k := fun e F σ H s Q q => h e F σ H s _ fun v F' H' x kx g r =>
  ⟨v, .ty c, .type (tyU x), .type c, isU c x, rfl, .ty c, DU.ty r, kitU hc (DU.pl _ _ r), q _ F' H' _ kx g rfl⟩
theorem we_isU {c : String} {m : M U} (hc : c ∈ ["bool", "int", "str", "list", "tuple"]) (h : Re tx Y ta Γ dU m) : We tx Y (tCB (rIsi Y.K) (tCons ta (tCons (tC (.ty c)) tNil))) Γ dBool (m >>= fun x => .ok (isU c x)) := we_p1 (f := isU c) (fun k h => w_isU hc h) h
/-- as a list or tuple -/
theorem w_sqU {k : Sq U → Prop} (h : W Y te Γ dU fun x => ∃ ds, itemsU x = some ds ∧ k ⟨ds⟩) : W Y te Γ (dSq (d := dU)) k := fun e F σ H s Q q => h e F σ H s Q fun v F' H' x ⟨ds, hi, kx⟩ g r => q v F' H' _ kx g (by
  cases x with
  | list xs => cases hi; obtain ⟨a, vs, e1, h1, r1⟩ := r; exact ⟨a, vs, e1, .inl (.inl h1), r1.reps⟩
  | tuple xs => cases hi; obtain ⟨a, vs, e1, h1, r1⟩ := r; exact ⟨a, vs, e1, .inr h1, r1.reps⟩
  | _ => cases hi)
theorem we_sqU {m : M U} (h : We tx Y te Γ dU m) : We tx Y te Γ (dSq (d := dU)) (m >>= fun x => M.ofO (itemsU x) >>= fun ds => .ok ⟨ds⟩) := fun nb xk => w_sqU (h.k nb xk fun x e nb2 _ => by
  cases hx : itemsU x with
  | none => rw [hx] at nb2; exact absurd rfl nb2
  | some ds => exact ⟨ds, rfl, by rw [e]; show (M.ofO (itemsU x) >>= _) = _; rw [hx]; rfl⟩)
end
end G
end

noncomputable section
/-! M10: pairs that own their parts. -/
namespace G
open PySem PySem.Spec PyProof.Rows L2 PySem.W
@[reducible] def oPair {α β : Type} {d1 : Dat α} {d2 : Dat β} (od1 : @OD α d1) (od2 : @OD β d2) : @OD (α × β) (dPair (d1 := d1) (d2 := d2)) := @OD.mk (α × β) (dPair (d1 := d1) (d2 := d2))
  (fun C F v x L => ∃ a v1 v2 L1 L2, v = .ref a ∧ L = L1 ++ L2 ∧ TpA C.K F a [v1, v2] ∧ od1.orep C F v1 x.1 L1 ∧ od2.orep C F v2 x.2 L2)
  (fun s ⟨a, v1, v2, L1, L2, e, h, t, r1, r2⟩ => ⟨a, v1, v2, L1, L2, e, h, t.mono s, od1.omono s r1, od2.omono s r2⟩)
  (fun ⟨a, v1, v2, L1, L2, e, h, t, r1, r2⟩ s k => ⟨a, v1, v2, e, t.mono s, od1.view r1 s fun p hp => k p (by rw [h]; exact List.mem_append_left _ hp), od2.view r2 s fun p hp => k p (by rw [h]; exact List.mem_append_right _ hp)⟩)
theorem permR {α : Type} {L1 Li L2 M1 Mi M2 : List α} (e : L1 ++ [] ++ L2 = M1 ++ Mi ++ M2) : (L1 ++ Li ++ L2).Perm ((Li ++ Mi) ++ (M1 ++ [] ++ M2)) := by
  have e' : L1 ++ L2 = M1 ++ Mi ++ M2 := by simpa using e
  have h1 : (L1 ++ Li ++ L2).Perm (Li ++ (L1 ++ L2)) := by
    rw [List.append_assoc]
    have := (List.perm_append_comm (l₁ := L1) (l₂ := Li)).append_right L2
    simpa [List.append_assoc] using this
  refine h1.trans ?_
  rw [e']
  have h2 : (M1 ++ Mi ++ M2).Perm (Mi ++ (M1 ++ M2)) := by
    have := (List.perm_append_comm (l₁ := M1) (l₂ := Mi)).append_right M2
    simpa [List.append_assoc] using this
  simpa [List.append_assoc] using h2.append_left Li
section
variable {Y : YC} {Γ : List Cell} {k : Ks} {te : TE} {α β : Type} {d1 : Dat α} {d2 : Dat β}
theorem z_retP {od1 : @OD α d1} {od2 : @OD β d2} {i j : Nat} {x : α} {y : β} (hij : i ≠ j) (hi : Γ[i]? = some (.own d1 od1 none x)) (hj : Γ[j]? = some (.own d2 od2 none y))
    (h : k.rt (.own (dPair (d1 := d1) (d2 := d2)) (oPair od1 od2) none (x, y)) ((Γ.set i .no).set j .no)) : Z Y (tRet (tTup (tCons (tVar i) (tCons (tVar j) tNil)))) Γ k := fun e F σ H D hM s c => by
  obtain ⟨hx, L, k0, sl⟩ := id s
  obtain ⟨o, L1, Li, L2, e1, e2, ⟨v, rfl, _, r⟩, f⟩ := sl.get hi
  subst e2
  have sl2 := f F (some v) .no [] (Same.refl F) rfl
  obtain ⟨o', M1, Mi, M2, e3, e4, ⟨w, rfl, _, r2⟩, f2⟩ := sl2.get (i := j) (by rw [List.getElem?_set_ne hij]; exact hj)
  have sl3 := f2 F (some w) .no [] (Same.refl F) rfl
  rw [List.getElem?_set_ne hij] at e3
  refine ⟨v, e1, w, e3, show (2 : Nat) ≤ PySem.sizeLine by decide, fun p hp => ?_⟩
  have g := Gr.lay (o := .tup [v, w]) s.base hp
  have kw := k0.trans g
  exact c.rt _ _ _ _ (.ref p) _ (Li ++ Mi) (M1 ++ [] ++ M2) h (by
    rw [List.nil_append] at kw
    exact kw.perm (permR e4)) ⟨.ref p, rfl, fun _ z => (nomatch z), p, v, w, Li, Mi, rfl, rfl, .inl upd_same, od1.omono g.ff r, od2.omono g.ff r2⟩ (sl3.mono g.ff)
end
section
variable {tx : XC → Addr} {Y : YC} {Γ : List Cell} {te : TE} {α β τ : Type} {d1 : Dat α} {d2 : Dat β} {rest : TS} {js : List Nat} {K : Kt τ}
theorem zm_retP {od1 : @OD α d1} {od2 : @OD β d2} {cell : α × β → Cell} {i j : Nat} {x : α} {y : β} (hij : (i == j) = false) (hi : Γ[i]? = some (.own d1 od1 none x)) (hj : Γ[j]? = some (.own d2 od2 none y)) (hc : cell = fun r => .own (dPair (d1 := d1) (d2 := d2)) (oPair od1 od2) none r := by rfl) :
    Zm tx Y js (tSeq (tRet (tTup (tCons (tVar i) (tCons (tVar j) tNil)))) rest) Γ (KF cell) (.ok (x, y)) := fun nb xk => by
  subst hc
  exact z_retP (k := (KF fun r => Cell.own (dPair (d1 := d1) (d2 := d2)) (oPair od1 od2) none r).ks (M.ok (x, y))) (by simpa using hij) hi hj ⟨(x, y), rfl, rfl⟩
end
end G
end

noncomputable section
/-! M11: constants by their class, [*xs, y]. -/
namespace L2
open PySem PySem.Spec PyProof.Rows ClX StX
section
variable {X : Cx} (K : PySem.W.Frag)
end
end L2
namespace G
open PySem PySem.Spec PyProof.Rows L2 PySem.W ClX StX
section
variable {tx : XC → Addr} {Y : YC} {Γ : List Cell} {te ta : TE} {α : Type} {d : Dat α}
end
section
variable {tx : XC → Addr} {Y : YC} {Γ : List Cell} {ta tb : TE} {α : Type} {d : Dat α}
theorem w_tup1 {k : Tup α → Prop} (h : W Y ta Γ d fun x => k ⟨[x]⟩) : W Y (tTup (tCons ta tNil)) Γ (dTup (d := d)) k := fun e F σ H s Q q => h e F σ H s _ fun v1 F1 H1 x kx g1 r1 => ⟨show (1 : Nat) ≤ PySem.sizeLine by decide, fun p hp => by
  have g2 := Gr.lay (o := .tup [v1]) g1.base hp
  exact q _ _ _ ⟨[x]⟩ kx (g1.trans0 g2) ⟨p, [v1], rfl, .inl upd_same, d.mono g2.ff r1, trivial⟩⟩
theorem we_tup1 {m : M α} (h : We tx Y ta Γ d m) : We tx Y (tTup (tCons ta tNil)) Γ (dTup (d := d)) (m >>= fun x => .ok ⟨[x]⟩) := we_p1w (f := fun x : α => (⟨[x]⟩ : Tup α)) (fun k h => w_tup1 h) h
end
end G
end

noncomputable section
/-! M12: enumerate within comprehensions. -/
namespace G
open PySem PySem.Spec PyProof.Rows L2 PySem.W
section
variable {tx : XC → Addr} {Y : YC} {Γ : List Cell} {te ta tb tl : TE} {t u tt : TT} {α β : Type} {d : Dat α} {d2 : Dat β} {g : TG}
end
theorem wipeC_get (Γ : List Cell) : ∀ (js : List Nat) (i : Nat), i < Γ.length → i ∈ js → (wipeC Γ js)[i]? = some .no
  | [], _, _, h => nomatch h
  | j :: js, i, hl, h => by
    unfold wipeC
    by_cases e : j = i
    · subst e
      rw [List.getElem?_set_self (by rw [wipeC_len]; exact hl)]
    · rw [List.getElem?_set_ne e]
      exact wipeC_get Γ js i hl ((List.mem_cons.mp h).resolve_left fun z => e z.symm)
/-- where all slots are wiped nothing is left to compare -/
theorem wlen (n : Nat) {Γ Γ' : List Cell} {js : List Nat} (h1 : Γ.length = n) (h2 : Γ'.length = n) (hj : (List.range n).all (fun i => js.contains i) = true) : wipeC Γ js = wipeC Γ' js := by
  apply List.ext_getElem?
  intro i
  by_cases hi : i < n
  · have hm : i ∈ js := by
      have := List.all_eq_true.mp hj i (List.mem_range.mpr hi)
      simpa using this
    rw [wipeC_get Γ js i (by omega) hm, wipeC_get Γ' js i (by omega) hm]
  · rw [List.getElem?_eq_none (by rw [wipeC_len]; omega), List.getElem?_eq_none (by rw [wipeC_len]; omega)]
end G
end

noncomputable section
/-! M13: defs that change what is passed to them. -/
namespace G
open PySem PySem.Spec PyProof.Rows L2 PySem.W
/-- a def that changes the arguments at the places ms -/
def FnM (C : GCtx) {α : Type} (dr : Dat α) (Γ : List Cell) (ms : List Nat) (post : α → List Cell → Prop) (vs : List V) (H : Hp) (Q : VK) (E : XK) : Prop :=
  ∃ F L H0, Wk ⟨F, H0, []⟩ F L H ∧ Slots C F (vs.map some) Γ L ∧ ∀ v F' H' r Γm L2, post r Γm → Wk ⟨F, H0, []⟩ F' L2 H' → dr.rep C F' v r → Slots C F' (ms.map fun j => vs[j]?) Γm L2 → Q v H'
theorem FnM.len {C : GCtx} {α : Type} {dr : Dat α} {Γ : List Cell} {ms : List Nat} {post : α → List Cell → Prop} {vs : List V} {H : Hp} {Q : VK} {E : XK} (h : FnM C dr Γ ms post vs H Q E) : vs.length = Γ.length := by
  obtain ⟨F, L, H0, _, s, _⟩ := h
  simpa using s.len
/-! arguments of which some are lent: (slot, cell) -/
abbrev AC := Cell ⊕ (Nat × Cell)
def AC.cell : AC → Cell
  | .inl c => c
  | .inr p => p.2
def MArgs (C : GCtx) (F : Hp) (σ : _root_.L2.St) : List V → List AC → Prop
  | [], [] => True
  | v :: vs, .inl c :: as => CellOk C F (some v) c [] ∧ MArgs C F σ vs as
  | v :: vs, .inr p :: as => σ[p.1]? = some (some v) ∧ MArgs C F σ vs as
  | [], _ :: _ => False
  | _ :: _, [] => False
theorem MArgs.mono {C : GCtx} {F F' : Hp} {σ : _root_.L2.St} (s : Same F F') : ∀ {vs : List V} {as : List AC}, MArgs C F σ vs as → MArgs C F' σ vs as
  | [], [], h => h
  | _ :: _, .inl _ :: _, h => ⟨h.1.mono s, h.2.mono s⟩
  | _ :: _, .inr _ :: _, h => ⟨h.1, h.2.mono s⟩
  | [], _ :: _, h => h.elim
  | _ :: _, [], h => h.elim
theorem MArgs.slots {C : GCtx} {F : Hp} {σ : _root_.L2.St} : ∀ {vs : List V} {cs : List Cell}, MArgs C F σ vs (cs.map .inl) → Slots C F (vs.map some) cs []
  | [], [], _ => .nil
  | _ :: _, _ :: _, h => .cons (L := []) (L' := []) h.1 h.2.slots
  | [], _ :: _, h => h.elim
  | _ :: _, [], h => h.elim
theorem MArgs.at {C : GCtx} {F : Hp} {σ : _root_.L2.St} {j : Nat} {c : Cell} {post : List AC} : ∀ {pre : List Cell} {vs : List V}, MArgs C F σ vs (pre.map .inl ++ .inr (j, c) :: post) →
    ∃ vs1 v vs2, vs = vs1 ++ v :: vs2 ∧ vs1.length = pre.length ∧ σ[j]? = some (some v) ∧ Slots C F (vs1.map some) pre [] ∧ MArgs C F σ vs2 post
  | [], v :: vs, h => ⟨[], v, vs, rfl, rfl, h.1, .nil, h.2⟩
  | c0 :: pre, v :: vs, h => by
    obtain ⟨vs1, u, vs2, e, hl, hj, sl, hr⟩ := MArgs.at (pre := pre) h.2
    exact ⟨v :: vs1, u, vs2, by rw [e]; rfl, by simp [hl], hj, .cons (L := []) (L' := []) h.1 sl, hr⟩
  | [], [], h => h.elim
  | _ :: _, [], h => h.elim
section
variable {tx : XC → Addr} {Y : YC} {Γ : List Cell} {te : TE} {tr tl : TA} {α β τ σ : Type} {d : Dat α} {rest : TS} {js : List Nat} {K : Kt τ}
/-! ### the body of such a def -/
end
theorem KReps.imm {α : Type} {d : Dat α} [i : @Imm α d] {C : GCtx} {F H : Hp} (t : ∀ a xs, H a = some (.tup xs) → F a = some (.tup xs)) : ∀ {ps : List (Key × V)} {xs : List (Int × α)}, KReps d C H ps xs → KReps d C F ps xs
  | [], [], _ => trivial
  | _ :: _, _ :: _, h => ⟨h.1, i.imm t h.2.1, KReps.imm t h.2.2⟩
  | [], _ :: _, h => h.elim
  | _ :: _, [], h => h.elim
instance mDI {α : Type} [d : Dat α] [i : Imm α] : OIm (DI α) oDI := ⟨fun t ⟨a, ps, e, h, r⟩ => ⟨a, ps, e, h, r.imm t⟩⟩
/-! lent, and others borrowed meanwhile -/
section
variable {tx : XC → Addr} {Y : YC} {Γ : List Cell} {te : TE} {tr tl : TA} {α β τ σ : Type} {d : Dat α} {rest : TS} {js : List Nat} {K : Kt τ} {j0 : Nat}
end
end G
end

section
set_option maxHeartbeats 2000000
noncomputable section
/-! M14: set comprehensions of ints, sorted. -/
namespace L2
open PySem PySem.Spec PyProof.Rows
section
variable {X : Cx}
end
end L2
namespace G
open PySem PySem.Spec PyProof.Rows L2 PySem.W
section
variable {tx : XC → Addr} {Y : YC} {Γ : List Cell} {ta te tl : TE} {tt : TT} {g : TG} {α τ : Type} {d : Dat α} {vs : List Nat}
end
end G
end
end

noncomputable section
/-! M15: a == b == c. -/
namespace G
open PySem PySem.Spec PyProof.Rows L2 PySem.W
section
variable {tx : XC → Addr} {Y : YC} {Γ : List Cell} {ta tb tc : TE}
end
section
variable {tx : XC → Addr} {Y : YC} {Γ : List Cell} {ta tb te : TE} {α τ : Type} {d : Dat α} {rest : TS} {js : List Nat} {K : Kt τ}
end
end G
end

noncomputable section
/-! M16: while with a walrus, None or a value narrowed, list.remove. -/
namespace G
open PySem PySem.Spec PyProof.Rows L2 PySem.W
section
variable {tx : XC → Addr} {Y : YC} {Γ : List Cell} {ta tb te : TE} {α β τ σ : Type} {d : Dat α} {ts rest : TS} {js js' : List Nat} {K : Kt τ} {i : Nat}
/-- None or a value, known to be one -/
def M.ofOpt {α : Type} : Opt α → M α
  | .some x => .ok x
  | .none => .bad
/-- xs.remove(k) -/
def M.remove (xs : List Int) (m : M Int) : M (List Int) := m >>= fun k => M.asrt (k ∈ xs) (.ok (xs.erase k))
end
end G
end

noncomputable section
/-! M17: for over a list that is owned and changed later. -/
namespace G
open PySem PySem.Spec PyProof.Rows L2 PySem.W
section
variable {tx : XC → Addr} {Y : YC} {Γ : List Cell} {te ta tb tc td tl : TE} {t u tt : TT} {α β γ δ ε σ τ ρ : Type} {d : Dat α} {d1 : Dat α} {d2 : Dat β} {d3 : Dat γ} {g : TG} {ts t1 t2 rest : TS} {js js' vs : List Nat} {K : Kt τ}
/-- what a for asks, P: what its turns keep -/
def BodyP (Y : YC) (g : TG) (ts : TS) {α : Type} (d : Dat α) (k : Ks) (get : Nat → Option α) (n : Nat) (Γ : List Cell) (P : List Cell → Prop) : Prop :=
  ∃ I : Nat → List Cell → Prop, I 0 Γ ∧ (∀ n Γ', I n Γ' → P Γ') ∧ (∀ i x Γ', get i = some x → I i Γ' → A Y g Γ' d x fun Γ2 => Z Y ts Γ2 { nx := I (i + 1), ct := I (i + 1), bk := k.nx, rt := k.rt }) ∧ ∀ Γ', I n Γ' → k.nx Γ'
theorem BodyP.body {k : Ks} {get : Nat → Option α} {n : Nat} {P : List Cell → Prop} (h : BodyP Y g ts d k get n Γ P) : Body Y g ts d k get n Γ := let ⟨I, h0, _, hs, hd⟩ := h; ⟨I, h0, hs, hd⟩
end
end G
end

noncomputable section
/-! M18: None or plain data, as plain data. -/
namespace G
open PySem PySem.Spec PyProof.Rows L2 PySem.W
def optU {α : Type} (f : α → PyData) : Opt α → PyData
  | .none => .none
  | .some x => f x
instance udOpt {α : Type} {d : Dat α} [u : @UD α d] : @UD (Opt α) (dOpt (d := d)) := ⟨optU u.toU, fun {C F v x} h => match x, h with
  | .none, h => h
  | .some _, h => u.du h⟩
end G
end

noncomputable section
/-! M19: plain data read as data of a known shape. -/
namespace G
open PySem PySem.Spec PyProof.Rows L2 PySem.W
/-- what plain data are, seen as of a shape -/
class OU (α : Type) [d : Dat α] where
  ofU : PyData → Option α
  snd : ∀ {C : GCtx} {F : Hp} {v : V} {x : PyData} {y : α}, ofU x = some y → DU C F x v → d.rep C F v y
def ofInt : PyData → Option Int | .int i => some i | _ => none
def ofBool : PyData → Option Bool | .bool i => some i | _ => none
def ofStr : PyData → Option Str | .str i => some i | _ => none
instance ouInt : OU Int := ⟨ofInt, fun {C F v x y} h r => by cases x <;> cases h; exact r⟩
instance ouBool : OU Bool := ⟨ofBool, fun {C F v x y} h r => by cases x <;> cases h; exact r⟩
instance ouStr : OU Str := ⟨ofStr, fun {C F v x y} h r => by cases x <;> cases h; exact r⟩
def ofAll {α : Type} (f : PyData → Option α) : List PyData → Option (List α)
  | [] => some []
  | x :: xs => match f x, ofAll f xs with | some y, some ys => some (y :: ys) | _, _ => none
theorem ofAll_reps {α : Type} {d : Dat α} [o : @OU α d] {C : GCtx} {F : Hp} : ∀ {ds : List PyData} {ys : List α} {vs : List V}, ofAll o.ofU ds = some ys → DUs C F ds vs → Reps d C F vs ys
  | [], ys, [], h, _ => by cases h; trivial
  | x :: xs, ys, v :: vs, h, r => by
    unfold ofAll at h
    cases h1 : o.ofU x with
    | none => rw [h1] at h; cases h
    | some y =>
      cases h2 : ofAll o.ofU xs with
      | none => rw [h1, h2] at h; cases h
      | some zs =>
        rw [h1, h2] at h
        cases h
        exact ⟨o.snd h1 r.1, ofAll_reps h2 r.2⟩
  | [], _, _ :: _, _, r => r.elim
  | _ :: _, _, [], _, r => r.elim
def ofList {α : Type} (f : PyData → Option α) : PyData → Option (List α)
  | .list ds => ofAll f ds
  | _ => none
def ofTup {α : Type} (f : PyData → Option α) : PyData → Option (Tup α)
  | .tuple ds => (ofAll f ds).map fun xs => ⟨xs⟩
  | _ => none
instance ouList {α : Type} {d : Dat α} [o : @OU α d] : @OU (List α) dList := ⟨ofList o.ofU, fun {C F v x y} h r => by
  cases x with
  | list ds =>
    obtain ⟨a, vs, e, h1, r1⟩ := r
    exact ⟨a, vs, e, h1, ofAll_reps h r1⟩
  | _ => cases h⟩
instance ouTup {α : Type} {d : Dat α} [o : @OU α d] : @OU (Tup α) dTup := ⟨ofTup o.ofU, fun {C F v x y} h r => by
  cases x with
  | tuple ds =>
    obtain ⟨a, vs, e, h1, r1⟩ := r
    have h : (ofAll o.ofU ds).map (fun xs => (⟨xs⟩ : Tup α)) = some y := h
    cases h2 : ofAll o.ofU ds with
    | none => rw [h2] at h; cases h
    | some xs =>
      rw [h2] at h
      cases h
      exact ⟨a, vs, e, h1, ofAll_reps h2 r1⟩
  | _ => cases h⟩
def ofPair {α β : Type} (f : PyData → Option α) (g : PyData → Option β) : PyData → Option (α × β)
  | .tuple [x, y] => match f x, g y with | some a, some b => some (a, b) | _, _ => none
  | _ => none
instance ouPair {α β : Type} {d1 : Dat α} {d2 : Dat β} [o1 : @OU α d1] [o2 : @OU β d2] : @OU (α × β) dPair := ⟨ofPair o1.ofU o2.ofU, fun {C F v x y} h r => by
  unfold ofPair at h
  split at h
  · rename_i x1 x2
    cases h1 : o1.ofU x1 with
    | none => rw [h1] at h; cases h
    | some a =>
      cases h2 : o2.ofU x2 with
      | none => rw [h1, h2] at h; cases h
      | some b =>
        rw [h1, h2] at h
        cases h
        obtain ⟨p, vs, e, ht, r1⟩ := r
        match vs, r1 with
        | [v1, v2], r1 => exact ⟨p, v1, v2, e, ht, o1.snd h1 r1.1, o2.snd h2 r1.2.1⟩
  · cases h⟩
def ofT4 {α β γ δ : Type} (f : PyData → Option α) (g : PyData → Option β) (h : PyData → Option γ) (i : PyData → Option δ) : PyData → Option (T4 α β γ δ)
  | .tuple [x, y, z, w] => match f x, g y, h z, i w with | some a, some b, some c, some d => some ⟨a, b, c, d⟩ | _, _, _, _ => none
  | _ => none
instance ouT4 {α β γ δ : Type} {d1 : Dat α} {d2 : Dat β} {d3 : Dat γ} {d4 : Dat δ} [o1 : @OU α d1] [o2 : @OU β d2] [o3 : @OU γ d3] [o4 : @OU δ d4] : @OU (T4 α β γ δ) dT4 := ⟨ofT4 o1.ofU o2.ofU o3.ofU o4.ofU, fun {C F v x y} h r => by
  unfold ofT4 at h
  split at h
  · rename_i x1 x2 x3 x4
    cases h1 : o1.ofU x1 with
    | none => rw [h1] at h; cases h
    | some a =>
      cases h2 : o2.ofU x2 with
      | none => rw [h1, h2] at h; cases h
      | some b =>
        cases h3 : o3.ofU x3 with
        | none => rw [h1, h2, h3] at h; cases h
        | some c =>
          cases h4 : o4.ofU x4 with
          | none => rw [h1, h2, h3, h4] at h; cases h
          | some d =>
            rw [h1, h2, h3, h4] at h
            cases h
            obtain ⟨p, vs, e, ht, r1⟩ := r
            match vs, r1 with
            | [v1, v2, v3, v4], r1 => exact ⟨p, v1, v2, v3, v4, e, ht, o1.snd h1 r1.1, o2.snd h2 r1.2.1, o3.snd h3 r1.2.2.1, o4.snd h4 r1.2.2.2.1⟩
  · cases h⟩
section
variable {tx : XC → Addr} {Y : YC} {Γ : List Cell} {te : TE} {α : Type} {d : Dat α}
end
end G
end

noncomputable section
/-! M20: xs[::-1]. -/
namespace G
open PySem PySem.Spec PyProof.Rows L2 PySem.W
theorem Reps.rev {α : Type} {d : Dat α} {C : GCtx} {F : Hp} : ∀ {vs : List V} {xs : List α}, Reps d C F vs xs → Reps d C F vs.reverse xs.reverse
  | [], [], h => h
  | v :: vs, x :: xs, h => by
    rw [List.reverse_cons, List.reverse_cons]
    exact Reps.append (Reps.rev h.2) (Reps.one h.1)
  | [], _ :: _, h => h.elim
  | _ :: _, [], h => h.elim
section
variable {tx : XC → Addr} {Y : YC} {Γ : List Cell} {te : TE} {α : Type} {d : Dat α}
theorem o_revL {kx : List α → Prop} (h : W Y te Γ (dList (d := d)) fun xs => kx xs.reverse) : O Y (tRevL Y.K te) Γ (oList (d := d)) kx := fun e F σ H s Q q => h e F σ H s _ fun v F1 H1 xs k1 g1 ⟨a, vs, e1, hq, r⟩ => by
  subst e1
  refine ⟨a, vs, rfl, g1.fh.seq hq, fun p hp => ?_⟩
  obtain ⟨h4, h5⟩ := o_new (L := []) g1.base hp (Reps.rev r)
  exact q _ F1 _ _ _ k1 (by simpa using g1.trans h4) h5
theorem oe_revL {m : M (List α)} (h : We tx Y te Γ (dList (d := d)) m) : Oe tx Y (tRevL Y.K te) Γ (oList (d := d)) (m >>= fun xs => .ok xs.reverse) := oe_p1w (f := fun xs : List α => xs.reverse) (fun k h => o_revL h) h
end
end G
end

noncomputable section
/-! M21: pairs that own one part. -/
namespace G
open PySem PySem.Spec PyProof.Rows L2 PySem.W
/-- frozen data, as a part of what is owned -/
@[reducible] def oFz {α : Type} {d : Dat α} : @OD α d := @OD.mk α d (fun C F v x L => L = [] ∧ d.rep C F v x) (fun s ⟨e, r⟩ => ⟨e, d.mono s r⟩) (fun ⟨_, r⟩ s _ => d.mono s r)
section
variable {tx : XC → Addr} {Y : YC} {Γ : List Cell} {α τ : Type} {d : Dat α} {ts : TS} {js : List Nat} {K : Kt τ} {m : M τ} {x : α}
end
end G
end

noncomputable section
/-! M22: comprehensions with two fors. -/
namespace G
open PySem PySem.Spec PyProof.Rows L2 PySem.W
section
variable {tx : XC → Addr} {Y : YC} {Γ : List Cell} {α : Type} {d : Dat α}
end
/-- the state, begun anew: what is owned now may change -/
theorem State.anew {C : GCtx} {e : En} {F : Hp} {σ : L2.St} {H : Hp} {Γ : List Cell} {D : Addr} (hD : e.H0 D = none → True) (s : State (calm C) e F σ H Γ) (h : ∀ L, Wk e F L H → ∀ p ∈ L, p.1 ≠ D) : ∃ M, D ∉ M ∧ State (calm C) ⟨F, H, M⟩ F σ H Γ := by
  obtain ⟨_, L, k, sl⟩ := s
  refine ⟨L.map Prod.fst, fun z => ?_, fun _ _ _ _ _ _ hk _ _ => hk, L, ⟨Same.refl _, fun _ _ _ h => h, fun _ h => h, k.fh, fun _ _ h => h, k.tp, fun p hp => ⟨(k.ow p hp).1, (k.ow p hp).2.1, .inr (List.mem_map.mpr ⟨p, hp, rfl⟩)⟩, k.nd⟩, sl⟩
  obtain ⟨p, hp, e2⟩ := List.mem_map.mp z
  exact h L k p hp e2
section
variable {Y : YC} {Γ : List Cell} {α β γ : Type} {d : Dat α} {d1 : Dat γ} {d2 : Dat β} {g g1 : TG} {tt tt1 : TT} {te : TE} {ti ti1 : TI} {vs vs1 : List Nat}
end
namespace M
variable {α β γ : Type}
/-- what one item of the first for gives -/
def part (p : α → M Bool) (m1 : α → M (List γ)) (p1 : α → γ → M Bool) (f : α → γ → M β) (x : α) : M (List β) := calm (p x) >>= fun b => if b then calm (m1 x) >>= fun zs => comp (p1 x) (f x) zs else .ok []
end M
section
variable {tx : XC → Addr} {Y : YC} {Γ : List Cell} {α β γ : Type} {d : Dat α} {d1 : Dat γ} {d2 : Dat β} {g g1 : TG} {tt tt1 : TT} {te : TE} {ti ti1 : TI} {vs vs1 : List Nat}
end
end G
end

/-! M23: == and != by an own __eq__. -/
namespace G
open PySem PySem.Spec PyProof.Rows L2 PySem.W
section
variable {X : Cx} {CXt : CXT} {k : Nat} {f C : Addr} {fd : FuncData} {ps : List Str} {sp : Sp}
/-- what stands at the right: an instance of the same class or a tuple -/
def EqArg (K : Frag) (C : Addr) (y : V) (H : Hp) : Prop := ∃ b, y = .ref b ∧ ((∃ dy gs, H b = some (.ins C dy gs)) ∨ (notFirst K C (.type "tuple") = true ∧ ∃ ys, TpA K H b ys))
theorem EqArg.mono {K : Frag} {C : Addr} {y : V} {F H : Hp} (h : EqArg K C y F) (s : Same F H) : EqArg K C y H := let ⟨b, e, h⟩ := h; ⟨b, e, h.imp (fun ⟨dy, gs, h⟩ => ⟨dy, gs, s _ _ h⟩) fun ⟨n, ys, h⟩ => ⟨n, ys, h.mono s⟩⟩
end
section
variable {X : Cx} {CXt : CXT} {k : Nat} {f C : Addr} {fd : FuncData} {ps : List Str} {sp : Sp}
end
section
variable {Y : YC} {Γ : List Cell} {ta tb : TE} {α β : Type} {d : Dat α} {d2 : Dat β} {C0 : Addr} {ns : List Str} {sp : Sp}
end
section
variable {tx : XC → Addr} {Y : YC} {Γ : List Cell} {t1 t2 : TE} {α1 α2 : Type} {d1 : Dat α1} {d2 : Dat α2} {m1 : M α1} {m2 : M α2} {C0 : Addr} {ns : List Str} {sp : Sp}
end
end G

/-! M24: an instance walked by its own __iter__ (iter of a tuple it holds). -/
namespace G
open PySem PySem.Spec PyProof.Rows L2 PySem.W
section
variable {X : Cx}
end
section
variable {X : Cx} {CXt : CXT} {k : Nat} {g C : Addr} {fd : FuncData} {ps : List Str} {f : Str} {e tg : Expr} {te : TE}
end
section
variable {Y : YC} {Γ : List Cell} {te : TE} {α β : Type} {d : Dat α} {d2 : Dat β} {C0 : Addr} {f : Str}
variable {tx : XC → Addr}
end
end G

noncomputable section
/-! M25: mixed data: an instance or plain data; tuples of them. -/
namespace G
open PySem PySem.Spec PyProof.Rows L2 PySem.W
@[reducible] def Mix (β : Type) := Sum β PyData
@[reducible] def dMix {β : Type} (d : Dat β) : Dat (Mix β) := ⟨fun C F v x => match x with
  | .inl y => d.rep C F v y
  | .inr u => DU C F u v, fun {C F F' v x} s h => match x, h with
  | .inl _, h => d.mono s h
  | .inr _, h => DU.mono s _ _ h⟩
section
variable {α β γ α2 β2 : Type} {d : Dat α} {d2 : Dat β} {d3 : Dat γ} {e1 : Dat α2} {e2 : Dat β2}
end
section
variable {tx : XC → Addr} {Y : YC} {Γ : List Cell} {te : TE} {α β : Type} {d : Dat α} {d2 : Dat β}
end
end G
end

noncomputable section
/-! M26: xs += ys (lists), xs.reverse(). -/
namespace G
open PySem PySem.Spec PyProof.Rows L2 PySem.W
section
variable {Y : YC} {Γ : List Cell} {te : TE} {α : Type} {d : Dat α} {k : Ks}
end
section
variable {tx : XC → Addr} {Y : YC} {Γ : List Cell} {te : TE} {α τ : Type} {d : Dat α} {K : Kt τ} {rest : TS} {js : List Nat}
def M.ext {α : Type} (xs : List α) (m : M (List α)) : M (List α) := m >>= fun ys => M.asrt (xs.length + ys.length ≤ PySem.sizeLine) (.ok (xs ++ ys))
end
end G
end

noncomputable section
/-! M27: xs.count(b) of bools. -/
namespace G
open PySem PySem.Spec PyProof.Rows L2 PySem.W
section
variable {X : Cx}
end
section
variable {tx : XC → Addr} {Y : YC} {Γ : List Cell} {ta tb : TE}
end
section
variable {α β γ δ : Type} {d : Dat α} {d2 : Dat β} {d3 : Dat γ} {d4 : Dat δ}
end
section
variable {tx : XC → Addr} {Y : YC} {Γ : List Cell} {ta : TE}
end
end G
end

noncomputable section
/-! M28: defs that change two of their arguments. -/
namespace G
open PySem PySem.Spec PyProof.Rows L2 PySem.W
theorem Wk.perm2 {e : En} {F H : Hp} {L L' : LO} (a : Wk e F L H) (p : L.Perm L') : Wk e F L' H :=
  a.sub (fun _ h => p.mem_iff.mpr h) ((p.map Prod.fst).nodup_iff.mp a.nd)
section
variable {tx : XC → Addr} {Y : YC} {Γ : List Cell} {te : TE} {tr tl : TA} {α1 α2 β τ σ : Type} {d1 : Dat α1} {d2 : Dat α2} {rest : TS} {js : List Nat} {K : Kt τ}
theorem set_set_ne {γ : Type _} {xs : List γ} {i j : Nat} {a b : γ} (h : i ≠ j) : (xs.set i a).set j b = (xs.set j b).set i a := List.set_comm _ _ h
/-! ### the body of such a def -/
end
end G
end

noncomputable section
/-! M29: class methods: C.m(..) and cls(..) within. -/
namespace G
open PySem PySem.Spec PyProof.Rows L2 PySem.W ClX
section
variable {X : Cx} {CXt : CXT} {k i : Nat} {C p g f : Addr} {mc : Value} {fd : FuncData} {ps : List Str} {sp : Sp} {E : L2.St → XK} {o e : Expr} {es : List Expr} {m x : Str} {pos apos np : Pos} {ta : TE} {t : TA} {pl : Sem Bool}
end
/-- the class itself, in a name -/
@[reducible] def dCls (C0 : Addr) : Dat Unit := ⟨fun _ _ v _ => v = .ref C0, fun _ h => h⟩
section
variable {tx : XC → Addr} {Y : YC} {Γ : List Cell} {te : TE} {tl : TA} {α β : Type} {d : Dat β} {sp : Sp} {E : _root_.L2.St → XK} {C0 : Addr}
end
end G
end

noncomputable section
/-! M30: plain data without lists (what a call may give while names are borrowed); calls within an except suite of defs that raise nothing. -/
namespace G
open PySem PySem.Spec PyProof.Rows L2 PySem.W
instance oimOb2 {α β : Type} {d1 : Dat α} {d2 : Dat β} [i1 : @Imm α d1] [i2 : @Imm β d2] {C0 : Addr} {f1 f2 : Str} : @OIm (Ob2 α β) (dOb2 (d1 := d1) (d2 := d2) C0 f1 f2) (oOb2 (d1 := d1) (d2 := d2) C0 f1 f2) :=
  @OIm.mk _ (dOb2 (d1 := d1) (d2 := d2) C0 f1 f2) (oOb2 (d1 := d1) (d2 := d2) C0 f1 f2) (fun t ⟨p, dx, v1, v2, e, h, r1, r2⟩ => ⟨p, dx, v1, v2, e, h, i1.imm t r1, i2.imm t r2⟩)
instance oimOb1 {α : Type} {d1 : Dat α} [i1 : @Imm α d1] {C0 : Addr} {f1 : Str} : @OIm (Ob1 α) (dOb1 (d1 := d1) C0 f1) (oOb1 (d1 := d1) C0 f1) :=
  @OIm.mk _ (dOb1 (d1 := d1) C0 f1) (oOb1 (d1 := d1) C0 f1) (fun t ⟨p, dx, v1, e, h, r1⟩ => ⟨p, dx, v1, e, h, i1.imm t r1⟩)
/-! ### without lists -/
mutual
def noL : PyData → Bool
  | .list _ => false
  | .tuple ds => noLs ds
  | .dict _ => false
  | _ => true
def noLs : List PyData → Bool
  | [] => true
  | d :: ds => noL d && noLs ds
end
mutual
theorem DU.imm {C : GCtx} {F H : Hp} (t : ∀ a xs, H a = some (.tup xs) → F a = some (.tup xs)) : ∀ (x : PyData) (v : V), noL x = true → DU C H x v → DU C F x v
  | .none, _, _, h => h
  | .bool _, _, _, h => h
  | .int _, _, _, h => h
  | .str _, _, _, h => h
  | .list _, _, n, _ => by cases n
  | .tuple ds, v, n, ⟨a, vs, e, h, r⟩ => ⟨a, vs, e, h.imp (t a _) id, DUs.imm t ds vs n r⟩
  | .dict _, _, _, h => h.elim
theorem DUs.imm {C : GCtx} {F H : Hp} (t : ∀ a xs, H a = some (.tup xs) → F a = some (.tup xs)) : ∀ (xs : List PyData) (vs : List V), noLs xs = true → DUs C H xs vs → DUs C F xs vs
  | [], [], _, h => h
  | d :: ds, v :: vs, n, h => by
    have n2 : (noL d && noLs ds) = true := n
    rw [Bool.and_eq_true] at n2
    exact ⟨DU.imm t d v n2.1 h.1, DUs.imm t ds vs n2.2 h.2⟩
  | [], _ :: _, _, h => h.elim
  | _ :: _, [], _, h => h.elim
end
@[reducible] def dUI : Dat PyData := ⟨fun C F v x => noL x = true ∧ DU C F x v, fun s ⟨n, h⟩ => ⟨n, DU.mono s _ _ h⟩⟩
instance imUI : @Imm PyData dUI := @Imm.mk PyData dUI fun t ⟨n, h⟩ => ⟨n, DU.imm t _ _ n h⟩
class UI (α : Type) [d : Dat α] [u : UD α] : Prop where
  no : ∀ x : α, noL (u.toU x) = true
instance uiInt : UI Int := ⟨fun _ => rfl⟩
instance uiBool : UI Bool := ⟨fun _ => rfl⟩
instance uiStr : UI Str := ⟨fun _ => rfl⟩
instance uiUnit : UI Unit := ⟨fun _ => rfl⟩
theorem noLs_map {α : Type} {d : Dat α} [u : @UD α d] [n : @UI α d u] : ∀ xs : List α, noLs (xs.map u.toU) = true
  | [] => rfl
  | x :: xs => by show (noL _ && noLs _) = true; rw [n.no x, noLs_map xs]; rfl
instance uiTup {α : Type} {d : Dat α} [u : @UD α d] [n : @UI α d u] : @UI (Tup α) dTup udTup := @UI.mk _ dTup udTup fun x => noLs_map x.l
instance uiPair {α β : Type} {d1 : Dat α} {d2 : Dat β} [u1 : @UD α d1] [u2 : @UD β d2] [n1 : @UI α d1 u1] [n2 : @UI β d2 u2] : @UI (α × β) dPair udPair := @UI.mk _ dPair udPair fun x => by
  show (noL _ && (noL _ && true)) = true
  rw [n1.no, n2.no]; rfl
instance uiT3 {α β γ : Type} {d1 : Dat α} {d2 : Dat β} {d3 : Dat γ} [u1 : @UD α d1] [u2 : @UD β d2] [u3 : @UD γ d3] [n1 : @UI α d1 u1] [n2 : @UI β d2 u2] [n3 : @UI γ d3 u3] : @UI (T3 α β γ) dT3 udT3 := @UI.mk _ dT3 udT3 fun x => by
  show (noL _ && (noL _ && (noL _ && true))) = true
  rw [n1.no, n2.no, n3.no]; rfl
instance uiT4 {α β γ δ : Type} {d1 : Dat α} {d2 : Dat β} {d3 : Dat γ} {d4 : Dat δ} [u1 : @UD α d1] [u2 : @UD β d2] [u3 : @UD γ d3] [u4 : @UD δ d4] [n1 : @UI α d1 u1] [n2 : @UI β d2 u2] [n3 : @UI γ d3 u3] [n4 : @UI δ d4 u4] : @UI (T4 α β γ δ) dT4 udT4 := @UI.mk _ dT4 udT4 fun x => by
  show (noL _ && (noL _ && (noL _ && (noL _ && true)))) = true
  rw [n1.no, n2.no, n3.no, n4.no]; rfl
section
variable {tx : XC → Addr} {Y : YC} {Γ : List Cell} {te : TE} {α : Type} {d : Dat α}
theorem w_UI [u : @UD α d] [n : @UI α d u] {k : PyData → Prop} (h : W Y te Γ d fun x => k (u.toU x)) : W Y te Γ dUI k := fun e F σ H s Q q => h e F σ H s Q fun v F' H' x kx g r => q v F' H' _ kx g ⟨n.no x, u.du r⟩
theorem we_UI [u : @UD α d] [n : @UI α d u] {m : M α} (h : We tx Y te Γ d m) : We tx Y te Γ dUI (m >>= fun x => .ok (u.toU x)) := we_p1w (f := u.toU) (fun k h => w_UI h) h
end
end G
namespace L2
open PySem PySem.Spec PyProof.Rows
/-! ### calls in a suite -/
structure FnC (P : Program) (w : World) (K : PySem.W.Frag) (mg : Str → Option Value) (base : Heap) (CX : CXT) (k : Nat) (f : Addr) (fd : FuncData) (ps : List Str) (sp : Sp) : Prop where
  len : ∀ vs H Q E, sp vs H Q E → vs.length = ps.length
  run : ∀ (A : Around) (outer : List Env) (s : Shared) (H : Hp) (args : Args) (us : List Value) (vs : List V) (Q : VK) (E : XK), L2H.RoomH k A → Env0 P w K mg base A outer s H → BindsTo s fd args (ps.zip us) → Vals vs us → sp vs H Q E →
    codeAny (model P w) A (.call (.ref f) args) (CR CX outer P w H s Q E) s
def cxC (CX : CXT) (P : Program) (w : World) (K : PySem.W.Frag) (mg : Str → Option Value) (base : Heap) (N : List Str) (qual : Str) (scope : Scope) (f : Addr) (cd : Value) (A : Around) (outer : List Env) (s : Shared) (H : Hp) (E : XK) : Cx :=
  { cxOf CX P w K mg base N qual scope f cd A outer s H E with calm := false }
theorem inv_startC {CX : CXT} {P : Program} {w : World} {K : PySem.W.Frag} {mg : Str → Option Value} {base : Heap} {N ps : List Str} {qual : Str} {scope : Scope} {f : Addr} {cd : Value} {A : Around} {outer : List Env} {s s1 : Shared} {H : Hp} {E : XK} {us : List Value} {vs : List V}
    (S : FnScope N ps scope) (e0 : Env0 P w K mg base A outer s H) (hl : vs.length = ps.length) (r : Vals vs us)
    (x : InCallC s s.heap.objs.size (bindL (envOfC qual scope s.heap.objs.size f cd).kindOf (ps.zip us) fun _ => none) (cellsFrom (s.heap.objs.size + 1) scope.names []) (bindC (envOfC qual scope s.heap.objs.size f cd).kindOf (ps.zip us) fun _ => none) s1) :
    Inv (cxC CX P w K mg base N qual scope f cd A outer s H E) [] (L2.start N vs) H s1 := by
  have hpl : ps.length ≤ N.length := by have := congrArg List.length S.pre; rw [List.length_take] at this; omega
  obtain ⟨h1, tk, rfl, hk⟩ := x.done
  have noA : ∀ b : Addr, b ∉ (cxC CX P w K mg base N qual scope f cd A outer s H E).ex := fun b z => absurd (show b ∈ ([] : List Addr) from z) (by simp)
  refine ⟨⟨e0.mod, S.kind, rfl, rfl, Nat.le_refl _, fun y z c h1 h2 => ?_, fun y hy => ?_, fun y c _ h => ?_, (fun z => Bool.noConfusion (show false = true from z)), Around.frames_deeper e0.frames, .inr ⟨rfl, rfl⟩, fun b z => absurd z (noA b), e0.bs, e0.bsz, fun b _ _ => noA b, fun b z => absurd z (noA b), e0.funs, e0.frf⟩,
    rfl, e0.bare, Un.kept hk, ⟨_, x.toInCall.ns, fun i y v h1 h2 h3 => ?_⟩, fun y c h => ⟨_, x.cell y c h⟩, e0.hok.fresh (Nat.le_refl _), fun y c h => ?_, fun p hp => absurd (show p ∈ ([] : List (Addr × Obj)) from hp) (by simp), e0.hok.kept hk, ?_⟩
  · exact name_of_addr x.apart (PySem.mem_of_lookup h1) (PySem.mem_of_lookup h2)
  · have hy : scope.names.lookup y = some .cell ∨ scope.names.lookup y = some .free := hy
    rcases hy with hy | hy
    · exact cell_has hy
    · exact absurd rfl (S.nofree _ (PySem.mem_of_lookup hy))
  · exact Nat.le_of_lt (x.above y c (PySem.mem_of_lookup h))
  · have hi : i < vs.length := by
      unfold L2.start at h2
      by_cases hi : i < vs.length
      · exact hi
      · rw [List.getElem?_append_right (by simpa using hi)] at h2
        rw [List.getElem?_replicate] at h2
        split at h2 <;> cases h2
    have ha : vs[i]? = some v := by
      unfold L2.start at h2
      rw [List.getElem?_append_left (by simpa using hi), List.getElem?_map] at h2
      cases e : vs[i]? with
      | none => rw [e] at h2; cases h2
      | some a => rw [e] at h2; cases h2; rfl
    obtain ⟨u, hu, rv⟩ := r.get ha
    have hp : ps[i]? = some y := by
      rw [← S.pre, List.getElem?_take_of_lt (by omega)]; exact h1
    have ndP : ps.Nodup := by rw [← S.pre]; exact S.nd.sublist (List.take_sublist _ _)
    refine ⟨u, rv, ?_⟩
    rcases S.par y (List.mem_of_getElem? hp) with k | k
    · exact .inl ⟨k, bindL_get ndP hp hu k⟩
    · obtain ⟨c, e⟩ := cell_has (n := s.heap.objs.size + 1) k
      refine .inr ⟨.inl k, c, e, ?_⟩
      have q := x.cell y c e
      rw [bindC_get ndP hp hu (by show scope.names.lookup y ≠ _; rw [k]; decide)] at q
      exact q
  · exact e0.hok.fresh (Nat.le_of_lt (x.above y c (PySem.mem_of_lookup h)))
  · unfold L2.start
    show _ = N.length
    rw [List.length_append, List.length_map, List.length_replicate]
    omega
theorem Fun.okC {P : Program} {w : World} {K : PySem.W.Frag} {mg : Str → Option Value} {base : Heap} {name qual : Str} {st : Stmt} {f : Addr} {fd : FuncData} {N ps : List Str} {k : Nat} {sp : Sp} (F : Fun K name qual st f fd) (S : FnScope N ps (defScope st)) (len : ∀ vs H Q E, sp vs H Q E → vs.length = ps.length)
    (hbody : ∀ (cdv : Value) (A : Around) (outer : List Env) (s : Shared) (H : Hp) (vs : List V) (Q : VK) (E : XK), L2H.RoomH k (A.deeper (envOfC qual (defScope st) s.heap.objs.size f cdv)) → sp vs H Q E →
      ∃ t, PSs (cxC (L2.CX P w) P w K mg base N qual (defScope st) f cdv A outer s H E) (defBody st) t ∧ t { nx := fun _ H' => Q .non H', rt := Q } (L2.start N vs) H) : FnC P w K mg base (L2.CX P w) (k + 1) f fd ps sp := by
  obtain ⟨oc, od, kV, doc, pm, an, cdv, ct, osl, rfl, lk, hcd⟩ := F.ex
  refine ⟨len, fun A outer s H args us vs Q E hr e0 hb r hsp => ?_⟩
  have hl := len _ _ _ _ hsp
  have KX : K.In s.heap := e0.mod.kin.keeps fun b o e => (e0.bs b o e).1
  have lim : s.heap.NoLimit := e0.mod.nolimit.keeps fun b o e => (e0.bs b o e).1
  have hkind : ∀ y ∈ ps.zip us, (defScope st).names.lookup y.1 = some .local ∨ ((defScope st).names.lookup y.1 = some .cell ∧ ((cellsFrom (s.heap.objs.size + 1) (defScope st).names []).lookup y.1).isSome = true) := fun ⟨n, v⟩ hy => by
    rcases S.par n (List.of_mem_zip hy).1 with q | q
    · exact .inl q
    · exact .inr ⟨q, PySem.W.cellsFrom_some _ _ _ (.inl q)⟩
  refine codeAny_call_function hr.depth (KX _ _ lk) rfl S.co S.gen rfl (PySem.W.codeRec_of KX hcd) (hb _ _ _ _ ?_)
  refine wpAny_newFunctionEnv_cells S.kind hkind fun env he s1 x => ?_
  subst he
  refine ⟨lim.keeps x.toInCall.keep, codeAny_func ?_⟩
  obtain ⟨t, ht, hq⟩ := hbody cdv A outer s H vs Q E (hr.deeper _) hsp
  have I : Inv (cxC (L2.CX P w) P w K mg base N qual (defScope st) f cdv A outer s H E) [] (L2.start N vs) H s1 := inv_startC S e0 hl r x
  refine wpAny_mono (ht.run [] s1 (L2.start N vs) H _ I hq) (fun fl s' hs => ?_) fun e s' hs => hs
  have fin : ∀ {σ' : L2.St} {H' : Hp} {v : V} {u : Value}, Inv (cxC (L2.CX P w) P w K mg base N qual (defScope st) f cdv A outer s H E) [] σ' H' s' → RelV v u → Q v H' → CE outer P w H s Q u s' :=
    fun {σ' H' v u} J rv q => ⟨v, H', J.os, J.bare, J.base, J.hok, rv, q⟩
  cases fl with
  | ret u =>
    obtain ⟨v, σ', H', J, rv, q⟩ := hs
    exact fin J rv q
  | next =>
    obtain ⟨σ', H', J, q⟩ := hs
    exact fin (v := V.non) (u := Value.none) J rfl q
  | brk =>
    obtain ⟨_, _, _, q⟩ := hs
    exact False.elim q
  | cont =>
    obtain ⟨_, _, _, q⟩ := hs
    exact False.elim q
section
variable {X : Cx} {CXt : CXT} {k : Nat} {f : Addr} {fd : FuncData} {ps : List Str} {sp : Sp} {E : L2.St → XK} {x : Str} {q pos : Pos} {e : Expr} {es : List Expr} {t : TA}
theorem run_fnC {pins : List (Addr × Obj)} {σ : L2.St} {H : Hp} {s : Shared} {Q : VK} {us : List Value} {vs : List V} (F : FnC X.prog X.w X.K X.mg X.base CXt k f fd ps sp) (hr : L2H.RoomH k X.A) (hb : Binds X.K fd ps []) (hx : PassesAt CXt X σ (E σ))
    (I : Inv X pins σ H s) (r : Vals vs us) (h : sp vs H Q (E σ)) : wpAny (model X.prog X.w) X.A (call (.ref f) us) (EP X pins σ Q) X.xe s := by
  have hl : us.length = ps.length := by rw [← r.length]; exact F.len _ _ _ _ h
  have b := hb s us I.kIn (by rw [List.append_nil]; exact hl)
  rw [List.append_nil] at b
  refine wpAny_call (codeAny_mono (F.run X.A X.stack s H ⟨us, []⟩ us vs Q (E σ) hr I.env0 b r h) fun r s' hq => ?_)
  cases r with
  | error e => exact hx pins H s e s' I hq
  | ok fl =>
    cases fl with
    | ret u => exact I.after hq
    | next => exact False.elim hq
    | brk => exact False.elim hq
    | cont => exact False.elim hq
theorem pe_callC (F : FnC X.prog X.w X.K X.mg X.base CXt k f fd ps sp) (hr : L2H.RoomH k X.A) (hg : Gl X x) (hm : X.mg x = some (.ref f)) (hk : PySem.W.keepIn X.K (.ref f) = true) (hb : Binds X.K fd ps []) (hx : ∀ σ, PassesAt CXt X σ (E σ))
    (ha : PA X (e :: es) t) (hdb : (x == ("__debug__" : Str)) = false := by decide) (he : starEach (e :: es) X.env = (false, eval e X.env) :: starEach es X.env := by rfl) (hpl : (backTo pos (starEach es X.env)).any (·.1) = false := by rfl) :
    PE X (.Call (.Name x q) (e :: es) [] pos) (tCallS sp E t) := by
  refine ⟨fun pins s σ H Q I h => ?_⟩
  refine wpAny_Call_Name_kw (ld_glob I hg hm ?_ hdb)
  refine PySem.W.callWith_K (h₀ := X.base) I.ok.mod.kin hk (thn (ha.run pos pins s σ H _ I h) fun us s1 ⟨vs, H1, I1, r, q⟩ => ⟨I1.kIn, ?_⟩) he hpl
  exact run_fnC F hr hb (hx σ) I1 r q
theorem roomC {k : Nat} {A : Around} {h : Option Value} (r : Room k A) : L2H.RoomH k (A.mark h) := ⟨r.dp, r.un⟩
theorem hu_ofC {A : Around} {k : Nat} (hr : L2H.RoomH k A) : A.units + 1 < cLine := by have := hr.un; omega
end
end L2
end

noncomputable section
/-! M31: results that hold instances, while lists are borrowed. -/
namespace G
open PySem PySem.Spec PyProof.Rows L2 PySem.W
def TI (o : HO) : Prop := (∃ xs, o = .tup xs) ∨ ∃ C dx fs, o = .ins C dx fs
class ImmI (α : Type) [d : Dat α] : Prop where
  immI : ∀ {C : GCtx} {F H : Hp} {v : V} {x : α}, (∀ a o, H a = some o → TI o → F a = some o) → d.rep C H v x → d.rep C F v x
theorem Reps.immI {α : Type} {d : Dat α} [i : @ImmI α d] {C : GCtx} {F H : Hp} (t : ∀ a o, H a = some o → TI o → F a = some o) : ∀ {vs : List V} {xs : List α}, Reps d C H vs xs → Reps d C F vs xs
  | [], [], _ => trivial
  | _ :: _, _ :: _, h => ⟨i.immI t h.1, Reps.immI t h.2⟩
  | [], _ :: _, h => h.elim
  | _ :: _, [], h => h.elim
instance (priority := low) immI_of {α : Type} {d : Dat α} [i : @Imm α d] : @ImmI α d := @ImmI.mk α d fun t r => i.imm (fun a xs h => t a _ h (.inl ⟨xs, rfl⟩)) r
instance immITup {α : Type} {d : Dat α} [i : @ImmI α d] : @ImmI (Tup α) (dTup (d := d)) := @ImmI.mk _ (dTup (d := d)) fun t ⟨a, vs, e, h, r⟩ => ⟨a, vs, e, h.imp (fun h => t a _ h (.inl ⟨vs, rfl⟩)) id, Reps.immI t r⟩
instance immIPair {α β : Type} {d1 : Dat α} {d2 : Dat β} [i1 : @ImmI α d1] [i2 : @ImmI β d2] : @ImmI (α × β) (dPair (d1 := d1) (d2 := d2)) := @ImmI.mk _ (dPair (d1 := d1) (d2 := d2)) fun t ⟨a, v1, v2, e, h, r1, r2⟩ => ⟨a, v1, v2, e, h.imp (fun h => t a _ h (.inl ⟨_, rfl⟩)) id, i1.immI t r1, i2.immI t r2⟩
instance immIOb2 {α β : Type} {d1 : Dat α} {d2 : Dat β} [i1 : @ImmI α d1] [i2 : @ImmI β d2] {C0 : Addr} {f1 f2 : Str} : @ImmI (Ob2 α β) (dOb2 (d1 := d1) (d2 := d2) C0 f1 f2) :=
  @ImmI.mk _ (dOb2 (d1 := d1) (d2 := d2) C0 f1 f2) fun t ⟨p, dx, v1, v2, e, h, r1, r2⟩ => ⟨p, dx, v1, v2, e, t p _ h (.inr ⟨_, _, _, rfl⟩), i1.immI t r1, i2.immI t r2⟩
/-- mixed data without lists -/
@[reducible] def dMixI {β : Type} (d : Dat β) : Dat (Mix β) := ⟨fun C F v x => match x with
  | .inl y => d.rep C F v y
  | .inr u => noL u = true ∧ DU C F u v, fun {C F F' v x} s h => match x, h with
  | .inl _, h => d.mono s h
  | .inr _, h => ⟨h.1, DU.mono s _ _ h.2⟩⟩
instance immIMix {β : Type} {d : Dat β} [i : @ImmI β d] : @ImmI (Mix β) (dMixI d) := @ImmI.mk _ (dMixI d) fun {C F H v x} t r => match x, r with
  | .inl _, r => i.immI t r
  | .inr u, r => ⟨r.1, DU.imm (fun a xs h => t a _ h (.inl ⟨xs, rfl⟩)) u v r.1 r.2⟩
section
variable {α β γ : Type} {d : Dat α} {d2 : Dat β}
end
/-- what is owned holds no instance -/
class NoIns {α : Type} {d : Dat α} (od : OD α) : Prop where
  no : ∀ {C : GCtx} {F : Hp} {v : V} {x : α} {L : LO}, od.orep C F v x L → ∀ p ∈ L, ¬ ∃ C dx fs, p.2 = .ins C dx fs
instance noList {α : Type} {d : Dat α} : NoIns (oList (d := d)) := ⟨fun ⟨a, vs, e, h, r⟩ p hp => by
  subst h
  rw [List.mem_singleton] at hp
  subst hp
  rintro ⟨_, _, _, z⟩
  cases z⟩
section
variable {tx : XC → Addr} {Y : YC} {Γ : List Cell} {te : TE} {α β : Type} {d : Dat α} {d2 : Dat β}
end
end G
end

noncomputable section
/-! M32: a dict of the top, int keys, texts. -/
namespace L2
open PySem PySem.Spec PyProof.Rows
/-- what stands in such a dict -/
inductive KEnt : List DictEntry → List (Int × Str) → Prop where
  | nil : KEnt [] []
  | cons {es : List DictEntry} {kvs : List (Int × Str)} (k : Int) (z : Str) (t t2 : Tok) (h : Int) (hh : h = hashInt k) (r : KEnt es kvs) : KEnt (⟨h, .int k t, .str z t2⟩ :: es) ((k, z) :: kvs)
theorem KEnt.keys {P : Program} {w : World} : ∀ {es : List DictEntry} {kvs : List (Int × Str)}, KEnt es kvs → ∀ e ∈ es, ∃ k, (intKind P w).is k e.key = true ∧ e.hash = (intKind P w).hash k
  | _, _, .nil => fun e he => by cases he
  | _, _, .cons k z t t2 h hh r => fun e he => by
    rcases List.mem_cons.mp he with rfl | he
    · exact ⟨k, by show Value.isInt k (.int k t) = true; exact beq_self_eq_true k, hh⟩
    · exact r.keys e he
theorem KEnt.find {P : Program} {w : World} : ∀ {es : List DictEntry} {kvs : List (Int × Str)} {k : Int} {z : Str}, KEnt es kvs → kvs.lookup k = some z → ∃ t, (es.find? fun e => (intKind P w).is k e.key).map (·.val) = some (.str z t)
  | _, _, _, _, .nil, h => by cases h
  | _, _, k0, z0, .cons k z t t2 h hh r, hl => by
    rw [List.lookup_cons] at hl
    rw [List.find?_cons]
    have e : (intKind P w).is k0 (.int k t) = (k0 == k) := by
      show Value.isInt k0 (.int k t) = _
      show (k == k0) = (k0 == k)
      exact BEq.comm
    rw [e]
    cases hk : (k0 == k) with
    | true =>
      rw [hk] at hl
      cases hl
      exact ⟨t2, rfl⟩
    | false =>
      rw [hk] at hl
      exact r.find hl
section
variable {X : Cx}
end
end L2
namespace G
open PySem PySem.Spec PyProof.Rows L2 PySem.W
section
variable {tx : XC → Addr} {Y : YC} {Γ : List Cell} {tb : TE}
end
end G
end

noncomputable section
/-! M33: slices of tuples, list(t) of a tuple of unlike data. -/
namespace G
open PySem PySem.Spec PyProof.Rows L2 PySem.W
section
variable {tx : XC → Addr} {Y : YC} {Γ : List Cell} {te : TE} {α β γ : Type} {d1 : Dat α} {d2 : Dat β} {d3 : Dat γ}
/-! d.get(k, ..) -/
variable {d : Dat α} {ta tb tc : TE}
/-! walks over computed tuples -/
end
instance oimOb4 {α β γ δ : Type} {d1 : Dat α} {d2 : Dat β} {d3 : Dat γ} {d4 : Dat δ} [i1 : @Imm α d1] [i2 : @Imm β d2] {o3 : @OD γ d3} {o4 : @OD δ d4} [i3 : @OIm γ d3 o3] [i4 : @OIm δ d4 o4] {C0 : Addr} {f1 f2 f3 f4 : Str} :
    @OIm (Ob4 α β γ δ) (dOb4 (d1 := d1) (d2 := d2) (d3 := d3) (d4 := d4) C0 f1 f2 f3 f4) (oOb4 (d1 := d1) (d2 := d2) (d3 := d3) (d4 := d4) C0 f1 f2 f3 f4 o3 o4) :=
  @OIm.mk _ (dOb4 (d1 := d1) (d2 := d2) (d3 := d3) (d4 := d4) C0 f1 f2 f3 f4) (oOb4 (d1 := d1) (d2 := d2) (d3 := d3) (d4 := d4) C0 f1 f2 f3 f4 o3 o4) (fun t ⟨p, dx, v1, v2, v3, v4, L3, L4, e, h, r1, r2, r3, r4⟩ => ⟨p, dx, v1, v2, v3, v4, L3, L4, e, h, i1.imm t r1, i2.imm t r2, i3.oimm t r3, i4.oimm t r4⟩)
end G
end

set_option maxRecDepth 40000
noncomputable section
/-! M34: plain data whose lists are owned; xs.pop(i) as a statement; xs.count(n); len(set(xs)). -/
namespace G
open PySem PySem.Spec PyProof.Rows L2 PySem.W
mutual
def OUr (C : GCtx) (F : Hp) : PyData → V → LO → Prop
  | .none, v, L => v = .non ∧ L = []
  | .bool b, v, L => v = .bl b ∧ L = []
  | .int i, v, L => v = .int i ∧ L = []
  | .str s, v, L => v = .str s ∧ L = []
  | .list ds, v, L => ∃ a vs L', v = .ref a ∧ L = (a, .lst vs) :: L' ∧ OUrs C F ds vs L'
  | .tuple ds, v, L => ∃ a vs, v = .ref a ∧ TpA C.K F a vs ∧ OUrs C F ds vs L
  | .dict _, _, _ => False
def OUrs (C : GCtx) (F : Hp) : List PyData → List V → LO → Prop
  | [], [], L => L = []
  | d :: ds, v :: vs, L => ∃ L1 L2, L = L1 ++ L2 ∧ OUr C F d v L1 ∧ OUrs C F ds vs L2
  | [], _ :: _, _ => False
  | _ :: _, [], _ => False
end
mutual
theorem OUr.mono {C : GCtx} {F F' : Hp} (s : Same F F') : ∀ (x : PyData) (v : V) (L : LO), OUr C F x v L → OUr C F' x v L
  | .none, _, _, h => h
  | .bool _, _, _, h => h
  | .int _, _, _, h => h
  | .str _, _, _, h => h
  | .list ds, _, _, ⟨a, vs, L', e, e2, r⟩ => ⟨a, vs, L', e, e2, OUrs.mono s ds vs L' r⟩
  | .tuple ds, _, L, ⟨a, vs, e, h, r⟩ => ⟨a, vs, e, h.mono s, OUrs.mono s ds vs L r⟩
  | .dict _, _, _, h => h.elim
theorem OUrs.mono {C : GCtx} {F F' : Hp} (s : Same F F') : ∀ (xs : List PyData) (vs : List V) (L : LO), OUrs C F xs vs L → OUrs C F' xs vs L
  | [], [], _, h => h
  | d :: ds, v :: vs, _, ⟨L1, L2, e, h1, h2⟩ => ⟨L1, L2, e, OUr.mono s d v L1 h1, OUrs.mono s ds vs L2 h2⟩
  | [], _ :: _, _, h => h.elim
  | _ :: _, [], _, h => h.elim
end
mutual
theorem OUr.view {C : GCtx} {F H : Hp} (s : Same F H) : ∀ (x : PyData) (v : V) (L : LO), OUr C F x v L → (∀ p ∈ L, H p.1 = some p.2) → DU C H x v
  | .none, _, _, h, _ => h.1
  | .bool _, _, _, h, _ => h.1
  | .int _, _, _, h, _ => h.1
  | .str _, _, _, h, _ => h.1
  | .list ds, _, _, ⟨a, vs, L', e, e2, r⟩, k => ⟨a, vs, e, .inl (k (a, .lst vs) (by rw [e2]; exact List.mem_cons_self)), OUrs.view s ds vs L' r fun p hp => k p (by rw [e2]; exact List.mem_cons_of_mem _ hp)⟩
  | .tuple ds, _, L, ⟨a, vs, e, h, r⟩, k => ⟨a, vs, e, h.mono s, OUrs.view s ds vs L r k⟩
  | .dict _, _, _, h, _ => h.elim
theorem OUrs.view {C : GCtx} {F H : Hp} (s : Same F H) : ∀ (xs : List PyData) (vs : List V) (L : LO), OUrs C F xs vs L → (∀ p ∈ L, H p.1 = some p.2) → DUs C H xs vs
  | [], [], _, _, _ => trivial
  | d :: ds, v :: vs, _, ⟨L1, L2, e, h1, h2⟩, k => ⟨OUr.view s d v L1 h1 fun p hp => k p (by rw [e]; exact List.mem_append_left _ hp), OUrs.view s ds vs L2 h2 fun p hp => k p (by rw [e]; exact List.mem_append_right _ hp)⟩
  | [], _ :: _, _, h, _ => h.elim
  | _ :: _, [], _, h, _ => h.elim
end
mutual
theorem OUr.noL {C : GCtx} {F : Hp} : ∀ (x : PyData) (v : V), G.noL x = true → DU C F x v → OUr C F x v []
  | .none, _, _, h => ⟨h, rfl⟩
  | .bool _, _, _, h => ⟨h, rfl⟩
  | .int _, _, _, h => ⟨h, rfl⟩
  | .str _, _, _, h => ⟨h, rfl⟩
  | .list _, _, n, _ => by cases n
  | .tuple ds, v, n, ⟨a, vs, e, h, r⟩ => ⟨a, vs, e, h, OUrs.noL ds vs n r⟩
  | .dict _, _, _, h => h.elim
theorem OUrs.noL {C : GCtx} {F : Hp} : ∀ (xs : List PyData) (vs : List V), noLs xs = true → DUs C F xs vs → OUrs C F xs vs []
  | [], [], _, _ => rfl
  | d :: ds, v :: vs, n, h => by
    have n2 : (G.noL d && noLs ds) = true := n
    rw [Bool.and_eq_true] at n2
    exact ⟨[], [], rfl, OUr.noL d v n2.1 h.1, OUrs.noL ds vs n2.2 h.2⟩
  | [], _ :: _, _, h => h.elim
  | _ :: _, [], _, h => h.elim
end
theorem OUrs.at {C : GCtx} {F : Hp} : ∀ {xs : List PyData} {vs : List V} {L : LO} {i : Nat} {x : PyData}, OUrs C F xs vs L → xs[i]? = some x → ∃ v L1 Li L2, vs[i]? = some v ∧ L = L1 ++ Li ++ L2 ∧ OUr C F x v Li ∧ ∀ F' x' Li', Same F F' → OUr C F' x' v Li' → OUrs C F' (xs.set i x') vs (L1 ++ Li' ++ L2)
  | [], [], _, i, _, _, e => by cases i <;> cases e
  | y :: xs, v :: vs, L, 0, x, ⟨L1, L2, e, h1, h2⟩, hx => by
    cases (Option.some.inj hx : y = x)
    exact ⟨v, [], L1, L2, rfl, by simpa using e, h1, fun F' x' Li' s h => ⟨Li', L2, by simp, h, OUrs.mono s _ _ _ h2⟩⟩
  | y :: xs, v :: vs, L, i + 1, x, ⟨L1, L2, e, h1, h2⟩, hx => by
    obtain ⟨w, M1, Mi, M2, e1, e2, h3, f⟩ := OUrs.at (i := i) h2 hx
    exact ⟨w, L1 ++ M1, Mi, M2, e1, by rw [e, e2]; simp [List.append_assoc], h3, fun F' x' Li' s h => ⟨L1, M1 ++ Li' ++ M2, by simp [List.append_assoc], OUr.mono s _ _ _ h1, f F' x' Li' s h⟩⟩
  | [], _ :: _, _, _, _, h, _ => h.elim
  | _ :: _, [], _, _, _, h, _ => h.elim
theorem OUrs.len {C : GCtx} {F : Hp} : ∀ {xs : List PyData} {vs : List V} {L : LO}, OUrs C F xs vs L → vs.length = xs.length
  | [], [], _, _ => rfl
  | _ :: _, _ :: _, _, ⟨_, _, _, _, h2⟩ => by simp [OUrs.len h2]
  | [], _ :: _, _, h => h.elim
  | _ :: _, [], _, h => h.elim
theorem OUrs.append {C : GCtx} {F : Hp} {y : PyData} {w : V} {M : LO} (g : OUr C F y w M) : ∀ {xs : List PyData} {vs : List V} {L : LO}, OUrs C F xs vs L → OUrs C F (xs ++ [y]) (vs ++ [w]) (L ++ M)
  | [], [], _, h => by
    cases (show _ = [] from h)
    exact ⟨M, [], by simp, g, rfl⟩
  | _ :: _, _ :: _, _, ⟨L1, L2, e, h1, h2⟩ => ⟨L1, L2 ++ M, by rw [e, List.append_assoc], h1, OUrs.append g h2⟩
  | [], _ :: _, _, h => h.elim
  | _ :: _, [], _, h => h.elim
/-- plain data, its lists owned -/
@[reducible] def oU : @OD PyData dU := @OD.mk PyData dU (fun C F v x L => OUr C F x v L) (fun s h => OUr.mono s _ _ _ h) (fun h s k => OUr.view s _ _ _ h k)
section
variable {tx : XC → Addr} {Y : YC} {Γ : List Cell} {te ta tb : TE} {α τ : Type} {d : Dat α} {rest : TS} {js : List Nat} {K : Kt τ}
theorem o_UIU {k : PyData → Prop} (h : W Y te Γ dUI k) : O Y te Γ oU k := fun e F σ H s Q q => h e F σ H s Q fun v F' H' x kx g r => q v F' H' [] x kx g (OUr.noL _ _ r.1 r.2)
theorem oe_UIU {m : M PyData} (h : We tx Y te Γ dUI m) : Oe tx Y te Γ oU m := fun nb xk => o_UIU (h nb xk)
theorem OUrs.of_reps [u : @UD α d] [n : @UI α d u] {C : GCtx} {F : Hp} : ∀ {vs : List V} {xs : List α}, Reps d C F vs xs → OUrs C F (xs.map u.toU) vs []
  | [], [], _ => rfl
  | _ :: _, _ :: _, h => ⟨[], [], rfl, OUr.noL _ _ (n.no _) (u.du h.1), OUrs.of_reps h.2⟩
  | [], _ :: _, h => h.elim
  | _ :: _, [], h => h.elim
theorem o_LU [u : @UD α d] [n : @UI α d u] {k : PyData → Prop} (h : O Y te Γ (oList (d := d)) fun xs => k (.list (xs.map u.toU))) : O Y te Γ oU k := fun e F σ H s Q q => h e F σ H s Q fun v F' H' L xs kx g ⟨a, vs, e1, e2, r⟩ => q v F' H' L _ kx g ⟨a, vs, [], e1, e2, OUrs.of_reps r⟩
theorem oe_LU [u : @UD α d] [n : @UI α d u] {m : M (List α)} (h : Oe tx Y te Γ (oList (d := d)) m) : Oe tx Y te Γ oU (m >>= fun xs => .ok (.list (xs.map u.toU))) := fun nb xk => o_LU (fun e F σ H s Q q => by
  cases em : m with
  | ok xs =>
    refine h (by rw [em]; exact fun z => nomatch z) (by rw [em]; exact XkM.ok) e F σ H s Q fun v F' H' L ys ky g r => q v F' H' L ys ?_ g r
    rw [em] at ky
    cases ky
    rw [em]; rfl
  | exc x =>
    refine h (by rw [em]; exact fun z => nomatch z) (by rw [em] at xk ⊢; exact fun px e2 => xk px (by cases e2; rfl)) e F σ H s Q fun v F' H' L ys ky g r => ?_
    rw [em] at ky
    cases ky
  | bad => rw [em] at nb; exact absurd rfl nb)
theorem o_p2U {k : PyData → Prop} (h : W Y ta Γ dUI fun a => O Y te Γ oU fun b => k (.tuple [a, b])) : O Y (tTup (tCons ta (tCons te tNil))) Γ oU k := fun e F σ H s Q q => h e F σ H s _ fun v1 F1 H1 a h1 g1 r1 => h1 e F1 σ H1 (s.grow g1) _ fun v2 F2 H2 L b kb g2 r2 => ⟨show (2 : Nat) ≤ PySem.sizeLine by decide, fun p hp => by
  have g3 := g1.trans g2
  rw [List.append_nil] at g3
  have g4 := g3.lay (o := .tup [v1, v2]) hp
  have sm : Same F2 (upd F2 p (.tup [v1, v2])) := (Gr.lay (o := .tup [v1, v2]) g3.base hp).ff
  exact q _ _ _ L _ kb g4 ⟨p, [v1, v2], rfl, .inl upd_same, [], L, rfl, OUr.noL _ _ r1.1 (DU.mono (g2.ff.trans sm) _ _ r1.2), L, [], by simp, OUr.mono sm _ _ _ r2, rfl⟩⟩
theorem oe_p2U {m : M PyData} {n : M PyData} (h : We tx Y ta Γ dUI m) (h2 : Oe tx Y te Γ oU n) : Oe tx Y (tTup (tCons ta (tCons te tNil))) Γ oU (m >>= fun a => n >>= fun b => .ok (.tuple [a, b])) := fun nb xk =>
  o_p2U (h.k nb xk fun a e nb xk e1 F σ H s Q q => by
    cases en : n with
    | ok b =>
      refine h2 (by rw [en]; exact fun z => nomatch z) (by rw [en]; exact XkM.ok) e1 F σ H s Q fun v F' H' L ys ky g r => q v F' H' L ys ?_ g r
      rw [en] at ky
      cases ky
      rw [e, en]; rfl
    | exc x =>
      refine h2 (by rw [en]; exact fun z => nomatch z) (by rw [en] at xk ⊢; exact fun px e2 => xk px (by cases e2; rfl)) e1 F σ H s Q fun v F' H' L ys ky g r => ?_
      rw [en] at ky
      cases ky
    | bad => rw [en] at nb; exact absurd rfl nb)
/-! x[k].append(y), x such data -/
def appAt (x : PyData) (n : Int) : Option (List PyData × Nat × List PyData) := match x with
  | .tuple us => (ixN us.length n).bind fun j => match us[j]? with
    | some (.list ds) => some (us, j, ds)
    | _ => none
  | _ => none
theorem appAt_some {x : PyData} {n : Int} {t : List PyData × Nat × List PyData} (h : appAt x n = some t) : x = .tuple t.1 ∧ ixN t.1.length n = some t.2.1 ∧ t.1[t.2.1]? = some (.list t.2.2) := by
  unfold appAt at h
  split at h
  · next us =>
    cases hq : ixN us.length n with
    | none => rw [hq] at h; cases h
    | some j =>
      rw [hq] at h
      have h : (match us[j]? with | some (.list ds) => some (us, j, ds) | _ => none) = some t := h
      split at h
      · next ds e =>
        cases h
        exact ⟨rfl, hq, e⟩
      · cases h
  · cases h
def M.appU (x : PyData) (mi : M Int) (my : M PyData) : M PyData := mi >>= fun n => M.ofO (appAt x n) >>= fun t => my >>= fun y => M.asrt (t.2.2.length < PySem.sizeLine) (.ok (.tuple (t.1.set t.2.1 (.list (t.2.2 ++ [y])))))
theorem z_appU {pin : Option V} {i : Nat} {x : PyData} {k : Ks} (hi : Γ[i]? = some (.own dU oU pin x)) (h : R Y ta Γ dInt fun n => ∃ t, appAt x n = some t ∧ W Y te Γ dUI fun y => t.2.2.length < PySem.sizeLine ∧ k.nx (Γ.set i (.own dU oU pin (.tuple (t.1.set t.2.1 (.list (t.2.2 ++ [y]))))))) :
    Z Y (tDrop (tBM Y.K "list" rAppend (tOp (rIxT Y.K) (tVar i) ta) (tCons te tNil))) Γ k := fun e F σ H D hM s c => by
  obtain ⟨v0, e1, r0⟩ := s.own hi
  refine ⟨v0, e1, h e F σ H s _ fun v1 F1 H1 n ⟨⟨us, j, ds⟩, ht, hw⟩ g1 r1 => ?_⟩
  cases (show v1 = .int n from r1)
  obtain ⟨rfl, hj, hx⟩ := appAt_some ht
  simp only at hj hx hw
  have st1 := s.grow g1
  obtain ⟨v, Li, rest, e2, ⟨a, vs, rfl, hq, r⟩, kw, f⟩ := st1.mut hi
  rw [e1] at e2
  cases (Option.some.inj e2)
  obtain ⟨w, M1, Mi, M2, e3, e4, ⟨b, ws, L', rfl, rfl, ru⟩, f2⟩ := r.at hx
  subst e4
  have hb : H1 b = some (.lst ws) := (kw.ow (b, .lst ws) (by simp)).2.1
  refine ⟨a, vs, n, .ref b, rfl, rfl, (hq.mono kw.fh).sq, by unfold atI; rw [r.len, hj]; exact e3, .inl ⟨rfl, ws, .inl (.inl hb)⟩, hw e F1 σ H1 st1 _ fun y F2 H2 yv ⟨hl, ky⟩ g2 ry => ?_⟩
  have hb2 : H2 b = some (.lst ws) := g2.hh0 _ _ hb
  refine ⟨b, ws, y, rfl, rfl, hb2, by rw [ru.len]; exact hl, ?_⟩
  have kw2 := kw.trans0 g2
  have k1 : Wk e F2 ((b, .lst ws) :: (M1 ++ (L' ++ (M2 ++ rest)))) H2 := kw2.perm2 (by
    have := List.perm_middle (a := ((b, .lst ws) : Addr × HO)) (l₁ := M1) (l₂ := L' ++ (M2 ++ rest))
    simpa [List.append_assoc] using this)
  have k2 := k1.put (o' := .lst (ws ++ [y])) (fun _ z => by cases z)
  have k3 : Wk e F2 ((M1 ++ ((b, .lst (ws ++ [y])) :: L') ++ M2) ++ rest) (upd H2 b (.lst (ws ++ [y]))) := k2.perm2 (by
    have := (List.perm_middle (a := ((b, .lst (ws ++ [y])) : Addr × HO)) (l₁ := M1) (l₂ := L' ++ (M2 ++ rest))).symm
    simpa [List.append_assoc] using this)
  refine c.nx F2 σ _ _ ky (f F2 _ (M1 ++ ((b, .lst (ws ++ [y])) :: L') ++ M2) _ g2.ff k3 ⟨a, vs, rfl, hq.mono g2.ff, f2 F2 _ _ g2.ff ⟨b, ws ++ [y], L', rfl, rfl, ?_⟩⟩)
  have := OUrs.append (OUr.noL _ _ ry.1 ry.2) (OUrs.mono g2.ff _ _ _ ru)
  simpa using this
theorem zm_appU {pin : Option V} {i : Nat} {x : PyData} {mi : M Int} {my : M PyData} {m2 : PyData → M τ} (hi : Γ[i]? = some (.own dU oU pin x)) (hj : i ∈ js) (hx : Re tx Y ta Γ dInt mi) (hv : We tx Y te Γ dUI my)
    (h2 : ∀ y, Zm tx Y js rest (Γ.set i (.own dU oU pin y)) K (m2 y)) : Zm tx Y js (tSeq (tDrop (tBM Y.K "list" rAppend (tOp (rIxT Y.K) (tVar i) ta) (tCons te tNil))) rest) Γ K (M.appU x mi my >>= m2) := fun nb xk =>
  z_seq (z_appU hi (hx.k (M.nb1 nb) xk.l.here fun n e nb3 xk3 => by
    cases hz : appAt x n with
    | none => rw [hz] at nb3; exact absurd rfl nb3
    | some t =>
      rw [hz] at nb3 xk3
      have nb4 : (my >>= fun y => M.asrt (t.2.2.length < PySem.sizeLine) (M.ok (PyData.tuple (t.1.set t.2.1 (.list (t.2.2 ++ [y]))) : PyData))).nb := nb3
      have xk4 : XkM tx Y Γ (my >>= fun y => M.asrt (t.2.2.length < PySem.sizeLine) (M.ok (PyData.tuple (t.1.set t.2.1 (.list (t.2.2 ++ [y])))))) := xk3
      exact ⟨t, rfl, hv.k nb4 xk4 fun y e2 nb5 _ => ⟨M.asrt_nb nb5, (h2 _).go nb xk (by
        unfold M.appU
        rw [e]
        show (M.ofO (appAt x n) >>= _) = _
        rw [hz]
        show (my >>= _) = _
        rw [e2]
        exact M.asrt_pos (M.asrt_nb nb5)) (wipeC_set hj)⟩⟩))
/-! xs.pop(i), its answer dropped -/
/-! xs.count(n) of ints -/
end
/-! len(set(xs)) -/
end G
namespace L2
open PySem PySem.Spec PyProof.Rows
section
variable {X : Cx}
end
end L2
namespace G
open PySem PySem.Spec PyProof.Rows L2 PySem.W
section
variable {tx : XC → Addr} {Y : YC} {Γ : List Cell} {ta : TE}
end
end G
end
namespace G
open PySem L2
/-! plain data within pairs -/
instance datU : Dat PyData := dU
instance udU : @UD PyData dU := ⟨fun x => x, fun h => h⟩
end G

/-! M35: try .. except (A, B): suite; try .. except A: suite (without a name). -/
noncomputable section
namespace L2
open PySem PySem.Spec PyProof.Rows
section
variable {X : Cx} {x1 x2 : Str} {c1 c2 : Value} {body suite : List Stmt} {b₀ : Stmt} {np1 np2 tpos pos pos' : Pos} {tb : WX → TS} {ts : Addr → Value → Option Addr → TS} {Wout : WX}
end
end L2
namespace L2
open PySem PySem.Spec PyProof.Rows
section
variable {X : Cx} {x x1 x2 : Str} {c c1 c2 : Value} {body suite : List Stmt} {b₀ : Stmt} {np np1 np2 tpos pos pos' : Pos} {tb : WX → TS} {ts : Addr → Value → Option Addr → TS} {Wout : WX}
end
end L2
namespace G
open PySem PySem.Spec PyProof.Rows L2 PySem.W
section
variable {Y : YC} {Γ : List Cell} {k : Ks}
end
end G
end

/-! M36: xs.index(y) for data. -/
noncomputable section
namespace G
open PySem PySem.Spec PyProof.Rows L2 PySem.W
/-- the data's equality needs no text -/
class DL (α : Type) {d : Dat α} [de : @DE α d] : Prop where
  lay0 : ∀ x, (de.toD x).canLay0 = true
instance dlInt : @DL Int dInt deInt := @DL.mk _ _ deInt fun _ => by simp [DE.toD, PyData.canLay0]
instance dlBool : @DL Bool dBool deBool := @DL.mk _ _ deBool fun _ => by simp [DE.toD, PyData.canLay0]
theorem dlAll {α : Type} {d : Dat α} [de : @DE α d] [dl : @DL α d de] : ∀ xs : List α, PyData.canLayAll0 (xs.map de.toD) = true
  | [] => by simp [PyData.canLayAll0]
  | x :: xs => by simp [PyData.canLayAll0, dl.lay0, dlAll xs]
instance dlList {α : Type} {d : Dat α} [de : @DE α d] [dl : @DL α d de] : @DL (List α) dList deList := @DL.mk _ _ deList fun x => by
  show PyData.canLay0 (.list (x.map de.toD)) = true
  simp [PyData.canLay0, dlAll x]
instance dlPair {α β : Type} {d1 : Dat α} {d2 : Dat β} [de1 : @DE α d1] [de2 : @DE β d2] [dl1 : @DL α d1 de1] [dl2 : @DL β d2 de2] : @DL (α × β) dPair dePair := @DL.mk _ _ dePair fun x => by
  show PyData.canLay0 (.tuple [de1.toD x.1, de2.toD x.2]) = true
  simp [PyData.canLay0, PyData.canLayAll0, dl1.lay0, dl2.lay0]
instance dlT4 {α β γ δ : Type} {d1 : Dat α} {d2 : Dat β} {d3 : Dat γ} {d4 : Dat δ} [de1 : @DE α d1] [de2 : @DE β d2] [de3 : @DE γ d3] [de4 : @DE δ d4] [dl1 : @DL α d1 de1] [dl2 : @DL β d2 de2] [dl3 : @DL γ d3 de3] [dl4 : @DL δ d4 de4] : @DL (T4 α β γ δ) dT4 deT4 := @DL.mk _ _ deT4 fun x => by
  show PyData.canLay0 (.tuple [de1.toD x.a, de2.toD x.b, de3.toD x.c, de4.toD x.d]) = true
  simp [PyData.canLay0, PyData.canLayAll0, dl1.lay0, dl2.lay0, dl3.lay0, dl4.lay0]
/-- the first place of an equal one -/
def M.idx {α : Type} [DecidableEq α] (xs : List α) (y : α) : M Int := M.ofO ((xs.findIdx? fun z => decide (z = y)).map fun j => (j : Int))
section
variable {tx : XC → Addr} {Y : YC} {Γ : List Cell} {ta tb : TE} {α : Type} {d : Dat α}
end
/-! a slice of an owned list -/
section
variable {tx : XC → Addr} {Y : YC} {Γ : List Cell} {te : TE} {α : Type} {d : Dat α}
end
end G
namespace L2
open PySem PySem.Spec PyProof.Rows
section
variable {X : Cx}
end
end L2
end

/-! M37: own operators: a + b of two instances of one class, ~a, -a, and the call of an instance. -/
namespace G
open PySem PySem.Spec PyProof.Rows L2 PySem.W
section
variable {prog : Program} {w : World} {A : Around} {E : Value → Shared → Prop} {s : Shared} {K : Frag} {x y C L f : Addr} {h₀ : Heap} {m : Str → Option Value} {ox oy : Obj} {od od2 : Option Obj}
end
theorem relV_back {v : V} {u : Value} {Q : Value → Shared → Prop} {s : Shared} (r : RelV v u) (q : Q u s) : PySem.W.CmpBack Q u s := by
  unfold PySem.W.CmpBack
  cases v with
  | non => obtain rfl := (show u = Value.none from r); exact q
  | bl b => obtain rfl := (show u = Value.bool b from r); exact q
  | int i => obtain ⟨t, rfl⟩ := r; exact q
  | str x => obtain ⟨t, rfl⟩ := r; exact q
  | byt b => obtain ⟨t, rfl⟩ := r; exact q
  | flt b => obtain ⟨t, rfl⟩ := r; exact q
  | ref a => obtain rfl := (show u = Value.ref a from r); exact q
  | ty n => obtain rfl := (show u = Value.type n from r); exact q
section
variable {X : Cx} {CXt : CXT} {k : Nat} {f C : Addr} {fd : FuncData} {ps : List Str} {sp : Sp} {E : L2.St → XK} {pos : Pos} {e o fe a b : Expr} {es : List Expr} {ta tb : TE} {t : TA}
end
/-! readings -/
section
variable {Y : YC} {Γ : List Cell} {ta tb : TE} {tl : TA} {α β γ : Type} {d : Dat α} {d2 : Dat β} {d1 : Dat γ} {C0 : Addr} {ns ns2 : List Str} {sp : Sp} {E : L2.St → XK} {BA : List V → Hp → Prop}
end
section
variable {tx : XC → Addr} {Y : YC} {Γ : List Cell} {β : Type} {d : Dat β} {t0 t1 t2 t3 : TE} {sp : Sp} {E : L2.St → XK}
variable {α0 α1 α2 α3 : Type} {d0 : Dat α0} {d1 : Dat α1} {d2 : Dat α2} {d3 : Dat α3} {m0 : M α0} {m1 : M α1} {m2 : M α2} {m3 : M α3} {C0 : Addr} {ns ns2 : List Str}
end
section
variable {tx : XC → Addr} {Y : YC} {Γ : List Cell} {t : TT} {τ : Type} {t1 t2 rest : TS} {js : List Nat} {K : Kt τ}
end
end G

noncomputable section
/-! M38: for x in xs: x.append(n). -/
namespace G
open PySem PySem.Spec PyProof.Rows L2 PySem.W
section
variable {tx : XC → Addr} {Y : YC} {Γ : List Cell} {te : TE} {τ : Type} {rest : TS} {js : List Nat} {K : Kt τ} {k : Ks}
end
end G
end

noncomputable section
/-! M39: {key: value for ..} with values that are not owned, over lists, tuples and enumerate. -/
namespace G
open PySem PySem.Spec PyProof.Rows L2 PySem.W
section
variable {tx : XC → Addr} {Y : YC} {Γ : List Cell} {te ta tb tl tk tv : TE} {t u tt : TT} {α β : Type} {d : Dat α} {d2 : Dat β} {g : TG}
end
end G
end

noncomputable section
/-! M40: list(o), o an instance whose __iter__ gives an iterator over a tuple that it holds. -/
namespace G
open PySem PySem.Spec PyProof.Rows L2 PySem.W
section
variable {X : Cx} {pins : List (Addr × Obj)} {σ : L2.St} {A1 : Around}
end
section
variable {X : Cx} {CXt : CXT} {k : Nat} {g C : Addr} {fd : FuncData} {ps : List Str} {f : Str}
end
section
variable {tx : XC → Addr} {Y : YC} {Γ : List Cell} {te : TE} {α β : Type} {d : Dat α} {d2 : Dat β} {C0 : Addr} {f : Str}
end
end G
end

noncomputable section
/-! M41: sorted(xs) for data: whole numbers, pairs, lists of these. -/
namespace G
open PySem PySem.Spec PyProof.Rows L2 PySem.W
/-- data that stand in one order -/
class DO (α : Type) {d : Dat α} [de : @DE α d] : Prop where
  alk : ∀ x y, alike (de.toD x) (de.toD y) = true
/-- what sorted asks of the items -/
class DSo (α : Type) {d : Dat α} [de : @DE α d] : Prop where
  so : (∀ x, ∃ y r, de.toD x = .tuple (y :: r)) ∨ ∀ x, de.toD x ≠ .none ∧ ∀ xs, de.toD x ≠ .tuple xs
instance doInt : @DO Int dInt deInt := @DO.mk _ _ deInt fun x y => rfl
theorem alk_all {α : Type} {d : Dat α} [de : @DE α d] [o : @DO α d de] : ∀ xs ys : List α, alikeAll (xs.map de.toD) (ys.map de.toD) = true
  | [], [] => by simp [alikeAll]
  | [], _ :: _ => by simp [alikeAll]
  | _ :: _, [] => by simp [alikeAll]
  | x :: xs, y :: ys => by
    simp only [List.map_cons, alikeAll, Bool.and_eq_true]
    exact ⟨o.alk x y, alk_all xs ys⟩
instance doList {α : Type} {d : Dat α} [de : @DE α d] [o : @DO α d de] : @DO (List α) dList deList := @DO.mk _ _ deList fun x y => by
  show alike (.list (x.map de.toD)) (.list (y.map de.toD)) = true
  rw [alike]
  exact alk_all x y
instance doPair {α β : Type} {d1 : Dat α} {d2 : Dat β} [de1 : @DE α d1] [de2 : @DE β d2] [o1 : @DO α d1 de1] [o2 : @DO β d2 de2] : @DO (α × β) dPair dePair := @DO.mk _ _ dePair fun x y => by
  show alike (.tuple [de1.toD x.1, de2.toD x.2]) (.tuple [de1.toD y.1, de2.toD y.2]) = true
  rw [alike]
  simp [alikeAll, o1.alk, o2.alk]
instance soList {α : Type} {d : Dat α} [de : @DE α d] : @DSo (List α) dList deList := @DSo.mk _ _ deList (.inr fun x => And.intro (fun z => nomatch (show PyData.list (x.map de.toD) = .none from z)) fun xs z => nomatch (show PyData.list (x.map de.toD) = .tuple xs from z))
instance soPair {α β : Type} {d1 : Dat α} {d2 : Dat β} [de1 : @DE α d1] [de2 : @DE β d2] : @DSo (α × β) dPair dePair := @DSo.mk _ _ dePair (.inl fun x => ⟨_, _, rfl⟩)
/-- x before y -/
class OLt (α : Type) where
  lt : α → α → Bool
instance ltInt : OLt Int := ⟨fun a b => decide (a < b)⟩
instance ltPair {α β : Type} [DecidableEq α] [OLt α] [OLt β] : OLt (α × β) := ⟨fun x y => if x.1 = y.1 then OLt.lt x.2 y.2 else OLt.lt x.1 y.1⟩
def ltL {α : Type} [DecidableEq α] [OLt α] : List α → List α → Bool
  | _, [] => false
  | [], _ :: _ => true
  | x :: xs, y :: ys => if x = y then ltL xs ys else OLt.lt x y
instance ltList {α : Type} [DecidableEq α] [OLt α] : OLt (List α) := ⟨ltL⟩
class DLt (α : Type) {d : Dat α} [de : @DE α d] [OLt α] : Prop where
  is : ∀ x y, dataLt (de.toD x) (de.toD y) = OLt.lt x y
instance dltInt : @DLt Int dInt deInt _ := @DLt.mk _ _ deInt _ fun x y => dataLt_int x y
theorem dataLt_self (d : PyData) : dataLt d d = false := by
  unfold dataLt
  exact lex_irrefl _
instance dltPair {α β : Type} [DecidableEq α] [OLt α] [OLt β] {d1 : Dat α} {d2 : Dat β} [de1 : @DE α d1] [de2 : @DE β d2] [o1 : @DO α d1 de1] [o2 : @DO β d2 de2] [l1 : @DLt α d1 de1 _] [l2 : @DLt β d2 de2 _] : @DLt (α × β) dPair dePair _ := @DLt.mk _ _ dePair _ fun x y => by
  show dataLt (.tuple [de1.toD x.1, de2.toD x.2]) (.tuple [de1.toD y.1, de2.toD y.2]) = if x.1 = y.1 then OLt.lt x.2 y.2 else OLt.lt x.1 y.1
  rw [dataLt_pair (o1.alk _ _) (o2.alk _ _)]
  by_cases h1 : x.1 = y.1
  · rw [if_pos ((de1.eqv _ _).mpr h1), if_pos h1]
    by_cases h2 : x.2 = y.2
    · rw [if_pos ((de2.eqv _ _).mpr h2), ← l2.is, h2, dataLt_self]
    · rw [if_neg (fun z => h2 ((de2.eqv _ _).mp z)), l2.is]
  · rw [if_neg (fun z => h1 ((de1.eqv _ _).mp z)), if_neg h1, l1.is]
theorem dlt_all {α : Type} [DecidableEq α] [OLt α] {d : Dat α} [de : @DE α d] [o : @DO α d de] [l : @DLt α d de _] : ∀ xs ys : List α, PyProof.Rows.lexLt itemOrd (keyToksAll (xs.map de.toD)) (keyToksAll (ys.map de.toD)) = ltL xs ys
  | [], [] => by
    simp only [List.map_nil, keyToksAll, ltL]
    rfl
  | [], y :: ys => by
    simp only [List.map_nil, List.map_cons, keyToksAll, ltL]
    rw [lex_diff (O := itemOrd) (fun z => by cases z)]
    rfl
  | x :: xs, [] => by
    simp only [List.map_nil, List.map_cons, keyToksAll, ltL]
    rw [lex_diff (O := itemOrd) (fun z => by cases z)]
    rfl
  | x :: xs, y :: ys => by
    rw [List.map_cons, List.map_cons, dataLt_cons (o.alk x y), ltL]
    by_cases h : x = y
    · rw [if_pos ((de.eqv _ _).mpr h), if_pos h]
      exact dlt_all xs ys
    · rw [if_neg (fun z => h ((de.eqv _ _).mp z)), if_neg h, l.is]
instance dltList {α : Type} [DecidableEq α] [OLt α] {d : Dat α} [de : @DE α d] [o : @DO α d de] [l : @DLt α d de _] : @DLt (List α) dList deList _ := @DLt.mk _ _ deList _ fun x y => by
  show dataLt (.list (x.map de.toD)) (.list (y.map de.toD)) = ltL x y
  rw [dataLt_list]
  exact dlt_all x y
def M.sortD {α : Type} [OLt α] (xs : List α) : M (List α) := .ok (xs.mergeSort fun x y => !OLt.lt y x)
/-- sorted(xs), the items read as ds -/
def rSortedD (K : Frag) : List V → Hp → VK → Prop := fun vs H Q => ∃ (a : Addr) (ps : List (V × PyData)), vs = [V.ref a] ∧ SqL K H a (ps.map Prod.fst) ∧ (∀ p ∈ ps, Dp K H p.1 p.2) ∧ AllAlike (ps.map Prod.snd) ∧ Sortable (ps.map Prod.snd) ∧ (∀ p ∈ ps, p.2.depth ≤ 60) ∧
  ∀ q, H q = none → Q (.ref q) (upd H q (.lst ((ps.mergeSort fun x y => !dataLt y.2 x.2).map Prod.fst)))
section
variable {X : Cx}
theorem each_vals {R : Value → V × PyData → Prop} (hR : ∀ v p, R v p → RelV p.1 v) : ∀ {us : List Value} {ps : List (V × PyData)}, EachIs R us ps → Vals (ps.map Prod.fst) us
  | [], [], .nil => .nil
  | _ :: _, _ :: _, .cons r rs => .cons (hR _ _ r) (each_vals hR rs)
theorem vals_each : ∀ {us : List Value} {ps : List (V × PyData)}, Vals (ps.map Prod.fst) us → EachIs (fun v (p : V × PyData) => RelV p.1 v) us ps
  | [], [], _ => .nil
  | [], _ :: _, h => by cases h
  | _ :: _, [], h => by cases h
  | u :: us, p :: ps, h => by
    cases h with
    | cons r rs => exact .cons r (vals_each rs)
theorem each_and {α β : Type} {R : α → β → Prop} {P : β → Prop} : ∀ {as : List α} {bs : List β}, EachIs R as bs → (∀ b ∈ bs, P b) → EachIs (fun a b => R a b ∧ P b) as bs
  | [], [], _, _ => .nil
  | _ :: _, _ :: _, .cons r rs, h => .cons ⟨r, h _ List.mem_cons_self⟩ (each_and rs fun b hb => h b (List.mem_cons_of_mem _ hb))
theorem each_map {α β γ : Type} {R : α → β → Prop} {S : α → γ → Prop} {f : β → γ} (hh : ∀ a b, R a b → S a (f b)) : ∀ {as : List α} {bs : List β}, EachIs R as bs → EachIs S as (bs.map f)
  | [], [], .nil => .nil
  | _ :: _, _ :: _, .cons r rs => .cons (hh _ _ r) (each_map hh rs)
theorem each_imp {α β : Type} {R S : α → β → Prop} (hh : ∀ a b, R a b → S a b) : ∀ {as : List α} {bs : List β}, EachIs R as bs → EachIs S as bs
  | [], [], .nil => .nil
  | _ :: _, _ :: _, .cons r rs => .cons (hh _ _ r) (each_imp hh rs)
theorem cr_sortedD (hu : X.A.units + 64 < cLine) : CallR X (.builtin "sorted") (rSortedD X.K) := by
  intro pins s σ H vs us Q I r h
  obtain ⟨a, ps, rfl, hs, hd, hal, hso, hdep, q⟩ := h
  obtain ⟨u, rfl, ru⟩ := r.one
  cases ru
  obtain ⟨its, rv, hl, hz⟩ := I.list hs
  have e0 := vals_each rv
  have hL : its.length ≤ sizeLine := by rw [← rv.length]; exact hz
  have e1 : EachIs (fun v (p : V × PyData) => RelV p.1 v ∧ p ∈ ps) its ps := each_and e0 fun b hb => hb
  have rd : ∀ (h' : Heap), (∀ b o, s.heap.get? b = some o → h'.get? b = some o) → EachIs (fun v (p : V × PyData) => (RelV p.1 v ∧ p ∈ ps) ∧ ∃ as, Reads h' v p.2 as) its ps := fun h' keep => each_imp (fun v p ⟨r, hp⟩ => by
    obtain ⟨as, ra⟩ := Dp.reads I p.2 p.1 v (hd p hp) r
    exact ⟨⟨r, hp⟩, as, PyProof.Rows.Reads.keeps keep ra⟩) e1
  have keep1 : ∀ b o, s.heap.get? b = some o → (sortingHeap (copyHeap s.heap its) (s.heap.objs.size + 1) its).get? b = some o := fun b o e => sorting_copy_old e
  have e2 := rd _ keep1
  have hS : SortsAt X.prog X.w X.A.in1.in1 { s with heap := sortingHeap (copyHeap s.heap its) (s.heap.objs.size + 1) its } (dataKind (sortingHeap (copyHeap s.heap its) (s.heap.objs.size + 1) its) (ps.map Prod.snd)) its :=
    SortsAt.data (s := { s with heap := sortingHeap (copyHeap s.heap its) (s.heap.objs.size + 1) its }) (each_map (f := Prod.snd) (fun _ _ h => h.2) e2) hal hso fun d hd0 => by
      obtain ⟨p, hp, rfl⟩ := List.mem_map.mp hd0
      have := hdep p hp
      show X.A.units + 1 + 1 + p.2.depth < cLine
      omega
  refine sorted_vals hl.isList hS hL ?_
  have e3 := sortVals_each (κ := dataKind (sortingHeap (copyHeap s.heap its) (s.heap.objs.size + 1) its) (ps.map Prod.snd)) (rev := false) (R := fun v (p : V × PyData) => RelV p.1 v) (fun p => keyToks p.2) e0
    (each_imp (fun v p ⟨⟨_, hp⟩, as, ra⟩ => dataKind_some hal (List.mem_map.mpr ⟨p, hp, rfl⟩) ra) e2)
  have hv : Vals ((ps.mergeSort fun x y => !dataLt y.2 x.2).map Prod.fst) (sortVals (dataKind (sortingHeap (copyHeap s.heap its) (s.heap.objs.size + 1) its) (ps.map Prod.snd)) false its its) := each_vals (R := fun v (p : V × PyData) => RelV p.1 v) (fun _ _ h => h) e3
  generalize sortVals (dataKind (sortingHeap (copyHeap s.heap its) (s.heap.objs.size + 1) its) (ps.map Prod.snd)) false its its = out at hv
  have hlen : ((ps.mergeSort fun x y => !dataLt y.2 x.2).map Prod.fst).length ≤ sizeLine := by
    rw [List.length_map, List.length_mergeSort, ← List.length_map (f := Prod.fst)]
    exact hz
  obtain ⟨ep, he'⟩ := PyProof.Rows.sortedAll_at s.heap its out.toArray
  refine ⟨.ref _, upd H (s.heap.objs.size + 1) (.lst ((ps.mergeSort fun x y => !dataLt y.2 x.2).map Prod.fst)), I.laid (t' := s.toks) (fun _ _ => PyProof.Rows.sortedAll_old) (Nat.le_succ _) ⟨hlen, out, ep, hv, he'⟩, rfl, q _ (I.hok.fresh (Nat.le_succ _))⟩
theorem sortedD_K (K : Frag) (hu : X.A.units + 64 < cLine) (h : X.K = K := by rfl) : CallR X (.builtin "sorted") (rSortedD K) := h ▸ cr_sortedD hu
end
section
variable {tx : XC → Addr} {Y : YC} {Γ : List Cell} {te : TE} {α : Type} {d : Dat α}
theorem reps_zip [de : @DE α d] {C : GCtx} {F : Hp} : ∀ {vs : List V} {xs : List α}, Reps d C F vs xs → (vs.zip (xs.map de.toD)).map Prod.fst = vs ∧ (vs.zip (xs.map de.toD)).map Prod.snd = xs.map de.toD ∧ EachIs (fun (p : V × PyData) x => d.rep C F p.1 x ∧ p.2 = de.toD x) (vs.zip (xs.map de.toD)) xs
  | [], [], _ => ⟨rfl, rfl, .nil⟩
  | v :: vs, x :: xs, h => by
    obtain ⟨h1, h2, h3⟩ := reps_zip h.2
    simp only [List.map_cons, List.zip_cons_cons]
    exact ⟨by rw [h1], by rw [h2], .cons ⟨h.1, rfl⟩ h3⟩
  | [], _ :: _, h => h.elim
  | _ :: _, [], h => h.elim
theorem each_reps [de : @DE α d] {C : GCtx} {F : Hp} : ∀ {ps : List (V × PyData)} {xs : List α}, EachIs (fun (p : V × PyData) x => d.rep C F p.1 x ∧ p.2 = de.toD x) ps xs → Reps d C F (ps.map Prod.fst) xs
  | [], [], _ => trivial
  | _ :: _, _ :: _, .cons r rs => ⟨r.1, each_reps rs⟩
theorem each_mem_r {α β : Type} {R : α → β → Prop} : ∀ {as : List α} {bs : List β}, EachIs R as bs → ∀ a ∈ as, ∃ b ∈ bs, R a b
  | _ :: _, _ :: _, .cons r rs, a, h => by
    rcases List.mem_cons.mp h with rfl | h
    · exact ⟨_, List.mem_cons_self, r⟩
    · obtain ⟨b, hb, r⟩ := each_mem_r rs a h
      exact ⟨b, List.mem_cons_of_mem _ hb, r⟩
theorem sort_core [de : @DE α d] [o : @DO α d de] [so : @DSo α d de] [OLt α] [l : @DLt α d de _] {C : GCtx} {F H : Hp} {a : Addr} {vs : List V} {xs : List α} {Q : VK} (hd : de.dep ≤ 60) (hs : SqL C.K H a vs) (r : Reps d C F vs xs) (fh : Same F H)
    (q : ∀ p ws, H p = none → Reps d C F ws (xs.mergeSort fun x y => !OLt.lt y x) → Q (.ref p) (upd H p (.lst ws))) : rSortedD C.K [V.ref a] H Q := by
  obtain ⟨h1, h2, h3⟩ := reps_zip r
  refine ⟨a, vs.zip (xs.map de.toD), rfl, by rw [h1]; exact hs, fun p hp => ?_, ?_, ?_, fun p hp => ?_, fun p hp => q p _ hp (each_reps (sort_each h3 fun p hp q hq => ?_))⟩
  · obtain ⟨x, _, rx, e⟩ := each_mem_r h3 p hp
    rw [e]
    exact de.dp (d.mono fh rx)
  · rw [h2]
    intro x hx y hy
    obtain ⟨x', _, rfl⟩ := List.mem_map.mp hx
    obtain ⟨y', _, rfl⟩ := List.mem_map.mp hy
    exact o.alk x' y'
  · rw [h2]
    rcases so.so with h | h
    · refine .inl fun x hx => ?_
      obtain ⟨x', _, rfl⟩ := List.mem_map.mp hx
      exact h x'
    · refine .inr fun x hx => ?_
      obtain ⟨x', _, rfl⟩ := List.mem_map.mp hx
      exact h x'
  · obtain ⟨x, _, rx, e⟩ := each_mem_r h3 p hp
    rw [e]
    exact Nat.le_trans (de.deep x) hd
  · have z1 := h3.zip p hp
    have z2 := h3.zip q hq
    rw [z1.2, z2.2, l.is]
theorem o_sortDI [im : @Imm α d] [de : @DE α d] [o : @DO α d de] [so : @DSo α d de] [OLt α] [l : @DLt α d de _] {k : List α → Prop} (hd : de.dep ≤ 60) (h : R Y te Γ (dList (d := d)) fun xs => k (xs.mergeSort fun x y => !OLt.lt y x)) : O Y (tCB (rSortedD Y.K) (tCons te tNil)) Γ (oList (d := d)) k := fun e F σ H s Q q => h e F σ H s _ fun v F' H' xs kx g ⟨a, vs, e1, hs, r⟩ => by
  subst e1
  refine sort_core hd hs (r.imm g.tp) g.fh fun p ws hp rw' => ?_
  obtain ⟨h1, h2⟩ := o_new (L := []) g.base hp rw'
  exact q _ F' _ _ _ kx (by simpa using g.trans h1) h2
theorem oe_sortDI [im : @Imm α d] [de : @DE α d] [o : @DO α d de] [so : @DSo α d de] [OLt α] [l : @DLt α d de _] {m : M (List α)} (hd : de.dep ≤ 60) (h : Re tx Y te Γ (dList (d := d)) m) : Oe tx Y (tCB (rSortedD Y.K) (tCons te tNil)) Γ (oList (d := d)) (m >>= M.sortD) := fun nb xk => o_sortDI hd (h.k nb xk fun x e _ _ => by rw [e]; rfl)
end
end G
end

noncomputable section
/-! M42: a, b = xs.pop(), a, b = xs.pop(i). -/
namespace G
open PySem PySem.Spec PyProof.Rows L2 PySem.W
section
variable {tx : XC → Addr} {Y : YC} {Γ : List Cell} {ta te : TE} {α τ : Type} {d : Dat α} {g : TG} {rest : TS} {js : List Nat} {K : Kt τ} {k : Ks}
end
end G
end

noncomputable section
/-! M43: a static method by an instance. -/
namespace G
open PySem PySem.Spec PyProof.Rows L2 PySem.W
section
variable {X : Cx} {CXt : CXT} {k : Nat} {C g p : Addr} {fd : FuncData} {ps : List Str} {sp : Sp} {E : L2.St → XK} {m : Str} {apos pos : Pos} {e o : Expr} {es : List Expr} {ta : TE} {t : TA} {pl : Sem Bool}
end
section
variable {Y : YC} {Γ : List Cell} {ta : TE} {tl : TA} {α β : Type} {d : Dat α} {d2 : Dat β} {C0 : Addr} {m : Str} {ns : List Str} {sp : Sp} {E : L2.St → XK}
end
section
variable {tx : XC → Addr} {Y : YC} {Γ : List Cell} {β : Type} {d : Dat β} {t0 t1 t2 : TE} {sp : Sp} {E : L2.St → XK}
variable {α0 α1 α2 : Type} {d0 : Dat α0} {d1 : Dat α1} {d2 : Dat α2} {m0 : M α0} {m1 : M α1} {m2 : M α2} {C0 : Addr} {mn : Str} {ns : List Str}
end
end G
end

noncomputable section
/-! M44: xs += (a, b) (a list and a pair of its items' type). -/
namespace G
open PySem PySem.Spec PyProof.Rows L2 PySem.W PySem.AutoSeq1
section
variable {Y : YC} {Γ : List Cell} {te : TE} {α : Type} {d : Dat α} {k : Ks}
end
section
variable {tx : XC → Addr} {Y : YC} {Γ : List Cell} {te : TE} {α τ : Type} {d : Dat α} {K : Kt τ} {rest : TS} {js : List Nat}
end
end G

noncomputable section
/-! M45: return sorted(xs) of a name whose list owns its parts. -/
namespace G
open PySem PySem.Spec PyProof.Rows L2 PySem.W
section
variable {α : Type} {d : Dat α}
variable {Y : YC} {Γ : List Cell} {k : Ks}
end
section
variable {tx : XC → Addr} {Y : YC} {Γ : List Cell} {α : Type} {d : Dat α} {rest : TS} {js : List Nat}
end
end G

noncomputable section
/-! M46: triples that own their parts; str + str. -/
namespace G
open PySem PySem.Spec PyProof.Rows L2 PySem.W
@[reducible] def oT3 {α β γ : Type} {d1 : Dat α} {d2 : Dat β} {d3 : Dat γ} (od1 : @OD α d1) (od2 : @OD β d2) (od3 : @OD γ d3) : @OD (T3 α β γ) (dT3 (d1 := d1) (d2 := d2) (d3 := d3)) := @OD.mk (T3 α β γ) (dT3 (d1 := d1) (d2 := d2) (d3 := d3))
  (fun C F v x L => ∃ a v1 v2 v3 L1 L2 L3, v = .ref a ∧ L = L1 ++ (L2 ++ L3) ∧ TpA C.K F a [v1, v2, v3] ∧ od1.orep C F v1 x.a L1 ∧ od2.orep C F v2 x.b L2 ∧ od3.orep C F v3 x.c L3)
  (fun s ⟨a, v1, v2, v3, L1, L2, L3, e, h, t, r1, r2, r3⟩ => ⟨a, v1, v2, v3, L1, L2, L3, e, h, t.mono s, od1.omono s r1, od2.omono s r2, od3.omono s r3⟩)
  (fun ⟨a, v1, v2, v3, L1, L2, L3, e, h, t, r1, r2, r3⟩ s k => ⟨a, v1, v2, v3, e, t.mono s, od1.view r1 s fun p hp => k p (by rw [h]; simp [hp]), od2.view r2 s fun p hp => k p (by rw [h]; simp [hp]), od3.view r3 s fun p hp => k p (by rw [h]; simp [hp])⟩)
section
variable {Y : YC} {Γ : List Cell} {k : Ks} {te : TE} {α β γ : Type} {d1 : Dat α} {d2 : Dat β} {d3 : Dat γ}
end
section
variable {tx : XC → Addr} {Y : YC} {Γ : List Cell} {te ta tb : TE} {α β γ τ : Type} {d1 : Dat α} {d2 : Dat β} {d3 : Dat γ} {rest : TS} {js : List Nat} {K : Kt τ}
/-! texts -/
end
section
variable {tx : XC → Addr} {Y : YC} {Γ : List Cell} {ta : TE}
end
section
variable {tx : XC → Addr} {Y : YC} {Γ : List Cell} {tl : TA} {g : TG} {α β τ : Type} {d : Dat α} {K : Kt τ} {rest : TS} {js : List Nat}
end
end G

noncomputable section
/-! M47: [*xs, y, z]; tuple(xs) as a pair. -/
namespace G
open PySem PySem.Spec PyProof.Rows L2 PySem.W ClX StX
section
variable {tx : XC → Addr} {Y : YC} {Γ : List Cell} {te ta tb : TE} {α : Type} {d : Dat α}
end
end G

noncomputable section
/-! M48: while (x := ..) != y; t3[:2]. -/
namespace G
open PySem PySem.Spec PyProof.Rows L2 PySem.W
section
variable {tx : XC → Addr} {Y : YC} {Γ : List Cell} {te : TE} {i j : Nat} {α β γ : Type} {d1 : Dat α} {d2 : Dat β} {d3 : Dat γ}
variable {d : Dat α} {τ : Type} {rest : TS} {js : List Nat} {K : Kt τ} {k : Ks}
end
end G
end

noncomputable section
/-! M49: None or owned data; return (a, xs) as plain data, xs owned; list(x) of plain data. -/
namespace G
open PySem PySem.Spec PyProof.Rows L2 PySem.W
/-- None, or what is owned -/
@[reducible] def oOpt {α : Type} {d : Dat α} (od : @OD α d) : @OD (Opt α) (dOpt (d := d)) := @OD.mk (Opt α) (dOpt (d := d))
  (fun C F v x L => match x with | .none => v = .non ∧ L = [] | .some y => od.orep C F v y L)
  (fun {C F F' v x L} s h => match x, h with | .none, h => h | .some _, h => od.omono s h)
  (fun {C F H v x L} h s k => match x, h with | .none, h => h.1 | .some _, h => od.view h s k)
section
variable {tx : XC → Addr} {Y : YC} {Γ : List Cell} {te ta : TE} {i : Nat} {α β τ : Type} {d : Dat α} {od : @OD α d} {ts rest : TS} {js : List Nat} {K : Kt τ}
theorem oe_nonO : Oe tx Y (tC .non) Γ (oOpt od) (.ok .none) := fun nb xk e F σ H s Q q => q _ F H [] .none rfl s.base ⟨rfl, rfl⟩
theorem oe_some {m : M α} (h : Oe tx Y te Γ od m) : Oe tx Y te Γ (oOpt od) (m >>= fun x => .ok (.some x)) := fun nb xk e F σ H s Q q =>
  h (M.nb1 nb) xk.l e F σ H s Q fun v F' H' L x kx g r => q v F' H' L (.some x) (by rw [kx]; rfl) g r
end
/-! plain data without lists, plain data whose lists are owned -/
mutual
theorem OUr.imm {C : GCtx} {F H : Hp} (t : ∀ a xs, H a = some (.tup xs) → F a = some (.tup xs)) : ∀ (x : PyData) (v : V) (L : LO), OUr C H x v L → OUr C F x v L
  | .none, _, _, h => h
  | .bool _, _, _, h => h
  | .int _, _, _, h => h
  | .str _, _, _, h => h
  | .list ds, _, _, ⟨a, vs, L', e, e2, r⟩ => ⟨a, vs, L', e, e2, OUrs.imm t ds vs L' r⟩
  | .tuple ds, _, L, ⟨a, vs, e, h, r⟩ => ⟨a, vs, e, h.imp (t a vs) id, OUrs.imm t ds vs L r⟩
  | .dict _, _, _, h => h.elim
theorem OUrs.imm {C : GCtx} {F H : Hp} (t : ∀ a xs, H a = some (.tup xs) → F a = some (.tup xs)) : ∀ (xs : List PyData) (vs : List V) (L : LO), OUrs C H xs vs L → OUrs C F xs vs L
  | [], [], _, h => h
  | d :: ds, v :: vs, _, ⟨L1, L2, e, h1, h2⟩ => ⟨L1, L2, e, OUr.imm t d v L1 h1, OUrs.imm t ds vs L2 h2⟩
  | [], _ :: _, _, h => h.elim
  | _ :: _, [], _, h => h.elim
end
instance oimU : @OIm PyData dU oU := @OIm.mk PyData dU oU fun t h => OUr.imm t _ _ _ h
instance udUI : @UD PyData dUI := @UD.mk PyData dUI (fun x => x) fun h => h.2
instance ouUI : @OU PyData dUI := @OU.mk PyData dUI (fun x => if noL x then some x else none) fun {C F v x y} h r => by
  split at h
  · cases h
    exact ⟨by assumption, r⟩
  · cases h
section
variable {tx : XC → Addr} {Y : YC} {Γ : List Cell} {te : TE}
end
end G
end

noncomputable section
/-! M50: xs < ys of data in one order. -/
namespace G
open PySem PySem.Spec PyProof.Rows L2 PySem.W
section
variable {X : Cx} {K : PySem.W.Frag}
end
section
variable {tx : XC → Addr} {Y : YC} {Γ : List Cell} {ta tb : TE} {α : Type} {d : Dat α}
end
end G
end

noncomputable section
/-! M51: None or data, read as the data. -/
namespace G
open PySem PySem.Spec PyProof.Rows L2 PySem.W
section
variable {tx : XC → Addr} {Y : YC} {Γ : List Cell} {te : TE} {α : Type} {d : Dat α}
end
end G
end

noncomputable section
/-! M52: list(xs) of an owned name whose items are frozen. -/
namespace G
open PySem PySem.Spec PyProof.Rows L2 PySem.W
section
variable {tx : XC → Addr} {Y : YC} {Γ : List Cell} {i : Nat} {α : Type} {d : Dat α}
end
end G
end

noncomputable section
/-! M53: xs.clear(). -/
namespace G
open PySem PySem.Spec PyProof.Rows L2 PySem.W
end G
end

noncomputable section
/-! M54: dicts keyed by tuples of ints. -/
namespace G
open PySem PySem.Spec PyProof.Rows L2 PySem.W
/-- what may be a key: tuples of ints -/
class KeyD (κ : Type) (d : Dat κ) where
  key : κ → List L2.Key
  inj : ∀ {a b : κ}, key a = key b → a = b
  rd : ∀ {C : GCtx} {F : Hp} {v : V} {k : κ}, d.rep C F v k → ∃ a, v = .ref a ∧ F a = some (.tup ((key k).map kV))
theorem tpa_int {K : Frag} {F : Hp} {a : Addr} {xs : List V} (h : TpA K F a xs) (n : xs = [] ∨ ∃ i, V.int i ∈ xs) : F a = some (.tup xs) := by
  rcases h with h | ⟨_, h1, h2⟩
  · exact h
  · rcases n with n | ⟨i, n⟩
    · exact absurd n h1
    · obtain ⟨t, z⟩ := h2 _ n
      cases z
instance kyPair : KeyD (Int × Int) (dPair (d1 := dInt) (d2 := dInt)) where
  key p := [Sum.inl p.1, Sum.inl p.2]
  inj := by
    intro a b h
    simp only [List.cons.injEq, Sum.inl.injEq, and_true] at h
    exact Prod.ext h.1 h.2
  rd := fun ⟨a, v1, v2, e, h, r1, r2⟩ => by
    cases (show v1 = .int _ from r1)
    cases (show v2 = .int _ from r2)
    exact ⟨a, e, tpa_int h (.inr ⟨_, List.mem_cons_self⟩)⟩
instance kyTup : KeyD (Tup Int) (dTup (d := dInt)) where
  key t := t.l.map Sum.inl
  inj := by
    intro a b h
    obtain ⟨a⟩ := a
    obtain ⟨b⟩ := b
    have inj : ∀ {a b : List Int}, a.map (Sum.inl : Int → L2.Key) = b.map Sum.inl → a = b := by
      intro a
      induction a with
      | nil => intro b h; cases b with | nil => rfl | cons => cases h
      | cons x a ih =>
        intro b h
        cases b with
        | nil => cases h
        | cons y b =>
          rw [List.map_cons, List.map_cons, List.cons.injEq] at h
          rw [Sum.inl.inj h.1, ih h.2]
    have e : a = b := inj h
    subst e
    rfl
  rd := fun {C F v k} ⟨a, vs, e, h, r⟩ => by
    have e2 := r.ints
    subst e2
    refine ⟨a, e, ?_⟩
    have : ((k.l.map Sum.inl : List L2.Key)).map kV = k.l.map V.int := by rw [List.map_map]; rfl
    rw [this]
    refine tpa_int h ?_
    cases k.l with
    | nil => exact .inl rfl
    | cons i l => exact .inr ⟨i, by simp⟩
structure DK (κ α : Type) where
  kv : List (κ × α)
def lkD {κ α : Type} [DecidableEq κ] : List (κ × α) → κ → Option α
  | [], _ => none
  | p :: r, k => if p.1 = k then some p.2 else lkD r k
def putD {κ α : Type} [DecidableEq κ] (kv : List (κ × α)) (k : κ) (v : α) : List (κ × α) := if (lkD kv k).isSome then kv.map (fun p => if p.1 = k then (p.1, v) else p) else kv ++ [(k, v)]
def TReps {κ β : Type} {dk : Dat κ} (ky : KeyD κ dk) (d : Dat β) (C : GCtx) (F : Hp) : List (List L2.Key × V) → List (κ × β) → Prop
  | [], [] => True
  | p :: ps, x :: xs => p.1 = ky.key x.1 ∧ d.rep C F p.2 x.2 ∧ TReps ky d C F ps xs
  | _, _ => False
section
variable {κ α : Type} [DecidableEq κ] {dk : Dat κ} {ky : KeyD κ dk} {d : Dat α} {C : GCtx} {F F' : Hp}
theorem TReps.mono (s : Same F F') : ∀ {ps : List (List L2.Key × V)} {xs : List (κ × α)}, TReps ky d C F ps xs → TReps ky d C F' ps xs
  | [], [], _ => trivial
  | _ :: _, _ :: _, h => ⟨h.1, d.mono s h.2.1, TReps.mono s h.2.2⟩
  | [], _ :: _, h => h.elim
  | _ :: _, [], h => h.elim
theorem TReps.len : ∀ {ps : List (List L2.Key × V)} {xs : List (κ × α)}, TReps ky d C F ps xs → ps.length = xs.length
  | [], [], _ => rfl
  | _ :: _, _ :: _, h => by simp [TReps.len h.2.2]
  | [], _ :: _, h => h.elim
  | _ :: _, [], h => h.elim
theorem TReps.look : ∀ {ps : List (List L2.Key × V)} {xs : List (κ × α)} (k : κ), TReps ky d C F ps xs → (∀ x, lkD xs k = some x → ∃ v, valV ps (ky.key k) = some v ∧ d.rep C F v x) ∧ (lkD xs k = none → valV ps (ky.key k) = none)
  | [], [], k, _ => ⟨fun _ h => (nomatch h), fun _ => rfl⟩
  | p :: ps, x :: xs, k, h => by
    rw [valV_cons, h.1]
    unfold lkD
    by_cases hk : x.1 = k
    · rw [if_pos hk, if_pos (by rw [hk])]
      exact ⟨fun y e => ⟨p.2, rfl, by cases e; exact h.2.1⟩, fun z => (nomatch z)⟩
    · rw [if_neg hk, if_neg (fun z => hk (ky.inj z))]
      exact TReps.look k h.2.2
  | [], _ :: _, _, h => h.elim
  | _ :: _, [], _, h => h.elim
theorem TReps.snoc {v : V} {x : α} {k : κ} : ∀ {ps : List (List L2.Key × V)} {xs : List (κ × α)}, TReps ky d C F ps xs → d.rep C F v x → TReps ky d C F (ps ++ [(ky.key k, v)]) (xs ++ [(k, x)])
  | [], [], _, h => ⟨rfl, h, trivial⟩
  | _ :: _, _ :: _, h, h2 => ⟨h.1, h.2.1, TReps.snoc h.2.2 h2⟩
  | [], _ :: _, h, _ => h.elim
  | _ :: _, [], h, _ => h.elim
theorem TReps.map_put {v : V} {x : α} {k : κ} : ∀ {ps : List (List L2.Key × V)} {xs : List (κ × α)}, TReps ky d C F ps xs → d.rep C F v x → TReps ky d C F (ps.map fun kv => if kv.1 = ky.key k then (kv.1, v) else kv) (xs.map fun p => if p.1 = k then (p.1, x) else p)
  | [], [], _, _ => trivial
  | p :: ps, y :: ys, h, h2 => by
    rw [List.map_cons, List.map_cons]
    refine ⟨?_, ?_, TReps.map_put h.2.2 h2⟩
    · by_cases e : y.1 = k
      · rw [if_pos e, if_pos (by rw [h.1, e])]; exact h.1
      · rw [if_neg e, if_neg (fun z => e (ky.inj (h.1.symm.trans z)))]; exact h.1
    · by_cases e : y.1 = k
      · rw [if_pos e, if_pos (by rw [h.1, e])]; exact h2
      · rw [if_neg e, if_neg (fun z => e (ky.inj (h.1.symm.trans z)))]; exact h.2.1
  | [], _ :: _, h, _ => h.elim
  | _ :: _, [], h, _ => h.elim
theorem TReps.put {ps : List (List L2.Key × V)} {xs : List (κ × α)} {v : V} {x : α} {k : κ} (h : TReps ky d C F ps xs) (hv : d.rep C F v x) : TReps ky d C F (putK ps (ky.key k) v) (putD xs k x) := by
  unfold putK putD
  have l := h.look k
  rw [valV_any]
  cases q : lkD xs k with
  | none =>
    rw [l.2 q, if_neg (fun z => (nomatch z)), if_neg (fun z => (nomatch z))]
    exact h.snoc hv
  | some y =>
    obtain ⟨w, hw, _⟩ := l.1 y q
    rw [hw]
    exact h.map_put hv
end
@[reducible] def dDK {κ α : Type} {dk : Dat κ} {ky : KeyD κ dk} {d : Dat α} : Dat (DK κ α) := ⟨fun C F v x => ∃ a ps, v = .ref a ∧ Rd F a (.dT ps) ∧ TReps ky d C F ps x.kv, fun {C F F' v x} m ⟨a, ps, e, h, r⟩ => ⟨a, ps, e, Same.rd m h, by
  have mono : ∀ {ps : List (List L2.Key × V)} {xs : List (κ × α)}, TReps ky d C F ps xs → TReps ky d C F' ps xs := by
    intro ps
    induction ps with
    | nil => intro xs h; cases xs with | nil => trivial | cons => exact h.elim
    | cons p ps ih => intro xs h; cases xs with | nil => exact h.elim | cons x xs => exact ⟨h.1, d.mono m h.2.1, ih h.2.2⟩
  exact mono r⟩⟩
theorem TReps.mono' {κ α : Type} {dk : Dat κ} {ky : KeyD κ dk} {d : Dat α} {C : GCtx} {F F' : Hp} (m : Same F F') : ∀ {ps : List (List L2.Key × V)} {xs : List (κ × α)}, TReps ky d C F ps xs → TReps ky d C F' ps xs
  | [], [], _ => trivial
  | _ :: _, _ :: _, h => ⟨h.1, d.mono m h.2.1, TReps.mono' m h.2.2⟩
  | [], _ :: _, h => h.elim
  | _ :: _, [], h => h.elim
@[reducible] def oDK {κ α : Type} {dk : Dat κ} {ky : KeyD κ dk} {d : Dat α} : @OD (DK κ α) (dDK (ky := ky) (d := d)) := @OD.mk (DK κ α) (dDK (ky := ky) (d := d))
  (fun C F v x L => ∃ a ps, v = .ref a ∧ L = [(a, .dT ps)] ∧ TReps ky d C F ps x.kv)
  (fun m ⟨a, ps, e, h, r⟩ => ⟨a, ps, e, h, TReps.mono' m r⟩)
  (fun ⟨a, ps, e, h, r⟩ m k => ⟨a, ps, e, .inl (k (a, .dT ps) (by rw [h]; exact List.mem_cons_self)), TReps.mono' m r⟩)
theorem dgetT {H : Hp} {a b : Addr} {kvs : List (List L2.Key × V)} {k : List L2.Key} (e : Rd H a (.dT kvs)) (eb : H b = some (.tup (k.map kV))) : DGet H a (.ref b) (valV kvs k) := .inr ⟨kvs, k, b, e, rfl, eb, rfl⟩
section
variable {tx : XC → Addr} {Y : YC} {Γ : List Cell} {te ta tb tc tk tv : TE} {κ α τ : Type} [DecidableEq κ] {dk : Dat κ} {ky : KeyD κ dk} {d : Dat α} {js : List Nat} {rest : TS} {K : Kt τ}
theorem w_inDK {kb : Bool → Prop} (h : R Y ta Γ dk fun x => R Y tb Γ (dDK (ky := ky) (d := d)) fun s => kb (lkD s.kv x).isSome) : W Y (tDIn ta tb) Γ dBool kb := fun e F σ H s Q q => h e F σ H s _ fun v1 F1 H1 x h1 g1 r1 => h1 e F1 σ H1 (s.grow g1) _ fun v2 F2 H2 s kk g2 ⟨a, ps, e2, ha, r⟩ => by
  obtain ⟨b, rfl, hb⟩ := ky.rd r1
  subst e2
  refine ⟨a, _, rfl, dgetT (k := ky.key x) ha (g2.hh0 _ _ hb), q _ F2 H2 _ kk (g1.trans0 g2) ?_⟩
  have l := r.look x
  cases hq : lkD s.kv x with
  | none => rw [l.2 hq]; rfl
  | some y => obtain ⟨v, hv, _⟩ := l.1 y hq; rw [hv]; rfl
theorem w_notinDK {kb : Bool → Prop} (h : R Y ta Γ dk fun x => R Y tb Γ (dDK (ky := ky) (d := d)) fun s => kb (!(lkD s.kv x).isSome)) : W Y (tDNotIn ta tb) Γ dBool kb := fun e F σ H s Q q => h e F σ H s _ fun v1 F1 H1 x h1 g1 r1 => h1 e F1 σ H1 (s.grow g1) _ fun v2 F2 H2 s kk g2 ⟨a, ps, e2, ha, r⟩ => by
  obtain ⟨b, rfl, hb⟩ := ky.rd r1
  subst e2
  refine ⟨a, _, rfl, dgetT (k := ky.key x) ha (g2.hh0 _ _ hb), q _ F2 H2 _ kk (g1.trans0 g2) ?_⟩
  have l := r.look x
  cases hq : lkD s.kv x with
  | none => rw [l.2 hq]; rfl
  | some y => obtain ⟨v, hv, _⟩ := l.1 y hq; rw [hv]; rfl
theorem w_dgetK {kx : α → Prop} (h : W Y ta Γ (dDK (ky := ky) (d := d)) fun s => R Y tb Γ dk fun x => ∃ y, lkD s.kv x = some y ∧ kx y) : W Y (tDGet ta tb) Γ d kx := fun e F σ H s Q q => h e F σ H s _ fun v1 F1 H1 s1 h1 g1 ⟨a, ps, e2, ha, r⟩ => h1 e F1 σ H1 (s.grow g1) _ fun v2 F2 H2 x ⟨y, hy, kk⟩ g2 r2 => by
  obtain ⟨b, rfl, hb⟩ := ky.rd r2
  subst e2
  obtain ⟨v, hv, rv⟩ := (r.look x).1 y hy
  refine ⟨a, v, rfl, ?_, q _ F2 H2 _ kk (g1.trans0 g2) (d.mono g2.ff rv)⟩
  have := dgetT (k := ky.key x) (Same.rd g2.fh (Same.rd g2.ff ha)) hb
  rw [hv] at this
  exact this
/-- .. of an owned dict: the value is frozen -/
theorem w_dgetKO {pin : Option V} {i : Nat} {x : DK κ α} {kx : α → Prop} (hi : Γ[i]? = some (.own (dDK (ky := ky) (d := d)) (oDK (ky := ky) (d := d)) pin x)) (h : R Y tb Γ dk fun k => ∃ y, lkD x.kv k = some y ∧ kx y) : W Y (tDGet (tVar i) tb) Γ d kx := fun e F σ H s Q q => by
  obtain ⟨_, L, kw, sl⟩ := id s
  obtain ⟨o, L1, Li, L2, e1, e2, ⟨v, rfl, _, a, ps, rfl, e3, r⟩, _⟩ := sl.get hi
  have ha : H a = some (.dT ps) := (kw.ow (a, .dT ps) (by rw [e2, e3]; simp)).2.1
  refine ⟨.ref a, e1, h e F σ H s _ fun v2 F2 H2 k ⟨y, hy, kk⟩ g2 r2 => ?_⟩
  obtain ⟨b, rfl, hb⟩ := ky.rd r2
  obtain ⟨v, hv, rv⟩ := (r.look k).1 y hy
  refine ⟨a, v, rfl, ?_, q _ F2 H2 _ kk g2 (d.mono g2.ff rv)⟩
  have := dgetT (k := ky.key k) (.inl (g2.hh0 _ _ ha)) hb
  rw [hv] at this
  exact this
theorem o_dictT0 {kx : DK κ α → Prop} (h : kx ⟨[]⟩) : O Y tDNewT Γ (oDK (ky := ky) (d := d)) kx := fun e F σ H s Q q => fun p hp =>
  q _ F _ _ _ h (s.base.own hp (fun _ z => by cases z)) ⟨p, [], rfl, rfl, trivial⟩
theorem z_dputK {k : Ks} {pin : Option V} {i : Nat} {x : DK κ α} (hi : Γ[i]? = some (.own (dDK (ky := ky) (d := d)) (oDK (ky := ky) (d := d)) pin x)) (h : W Y tv Γ d fun y => R Y tk Γ dk fun n => x.kv.length < PySem.sizeLine ∧ k.nx (Γ.set i (.own (dDK (ky := ky) (d := d)) (oDK (ky := ky) (d := d)) pin ⟨putD x.kv n y⟩))) :
    Z Y (sDPut (tVar i) tk tv) Γ k := fun e F σ H D hM s c => h e F σ H s _ fun w F1 H1 y hy g1 r1 => by
  obtain ⟨v0, e1, r0⟩ := (s.grow g1).own hi
  refine ⟨v0, e1, hy e F1 σ H1 (s.grow g1) _ fun v2 F2 H2 n ⟨hl, kn⟩ g2 r2 => ?_⟩
  obtain ⟨b, rfl, hb⟩ := ky.rd r2
  obtain ⟨v, Li, rest, e2, ⟨a, ps, rfl, rfl, r⟩, kw, f⟩ := ((s.grow g1).grow g2).mut hi
  rw [e1] at e2
  cases (Option.some.inj e2)
  have ha : H2 a = some (.dT ps) := (kw.ow (a, .dT ps) (by simp)).2.1
  refine ⟨a, _, rfl, DPut.t (k := ky.key n) ha hb (by rw [r.len]; exact hl), ?_⟩
  exact c.nx F2 σ _ _ kn (f F2 _ [(a, .dT (putK ps (ky.key n) w))] ⟨putD x.kv n y⟩ (Same.refl F2) (kw.put (fun _ z => by cases z)) ⟨a, _, rfl, rfl, r.put (d.mono g2.ff r1)⟩)
theorem oe_dictT0 : Oe tx Y tDNewT Γ (oDK (ky := ky) (d := d)) (.ok ⟨[]⟩) := fun _ _ => o_dictT0 rfl
theorem we_inDK {m : M κ} {n : M (DK κ α)} (h : Re tx Y ta Γ dk m) (h2 : Re tx Y tb Γ (dDK (ky := ky) (d := d)) n) : We tx Y (tDIn ta tb) Γ dBool (m >>= fun x => n >>= fun s => .ok (lkD s.kv x).isSome) := we_p2 (f := fun (x : κ) (s : DK κ α) => (lkD s.kv x).isSome) (fun k h => w_inDK h) h h2
theorem we_notinDK {m : M κ} {n : M (DK κ α)} (h : Re tx Y ta Γ dk m) (h2 : Re tx Y tb Γ (dDK (ky := ky) (d := d)) n) : We tx Y (tDNotIn ta tb) Γ dBool (m >>= fun x => n >>= fun s => .ok (!(lkD s.kv x).isSome)) := we_p2 (f := fun (x : κ) (s : DK κ α) => !(lkD s.kv x).isSome) (fun k h => w_notinDK h) h h2
theorem we_dgetK {m : M (DK κ α)} {n : M κ} (h : We tx Y ta Γ (dDK (ky := ky) (d := d)) m) (h2 : Re tx Y tb Γ dk n) : We tx Y (tDGet ta tb) Γ d (m >>= fun s => n >>= fun x => M.ofO (lkD s.kv x)) := we_l2 (f := fun (s : DK κ α) (x : κ) => lkD s.kv x) (fun k h => w_dgetK h) h h2
theorem we_dgetKO {pin : Option V} {i : Nat} {x : DK κ α} {n : M κ} (hi : Γ[i]? = some (.own (dDK (ky := ky) (d := d)) (oDK (ky := ky) (d := d)) pin x)) (h2 : Re tx Y tb Γ dk n) : We tx Y (tDGet (tVar i) tb) Γ d (n >>= fun k => M.ofO (lkD x.kv k)) := fun nb xk => w_dgetKO hi (h2.k nb xk fun k e nb2 _ => by
  cases q : lkD x.kv k with
  | none => rw [q] at nb2; exact absurd rfl nb2
  | some y => exact ⟨y, rfl, by rw [e]; show M.ofO _ = _; rw [q]; rfl⟩)
def M.dputK (x : DK κ α) (mk : M κ) (mv : M α) : M (DK κ α) := mv >>= fun y => mk >>= fun n => M.asrt (x.kv.length < PySem.sizeLine) (.ok ⟨putD x.kv n y⟩)
theorem zm_dputK {i : Nat} {pin : Option V} {x : DK κ α} {mk : M κ} {mv : M α} {m2 : DK κ α → M τ} (hi : Γ[i]? = some (.own (dDK (ky := ky) (d := d)) (oDK (ky := ky) (d := d)) pin x)) (hj : i ∈ js) (hv : We tx Y tv Γ d mv) (hk : Re tx Y tk Γ dk mk) (h2 : ∀ y, Zm tx Y js rest (Γ.set i (.own (dDK (ky := ky) (d := d)) (oDK (ky := ky) (d := d)) pin y)) K (m2 y)) :
    Zm tx Y js (tSeq (sDPut (tVar i) tk tv) rest) Γ K (M.dputK x mk mv >>= m2) := fun nb xk =>
  z_seq (z_dputK hi (hv.k (M.nb1 nb) xk.l.here fun y e nb3 xk3 => hk.k nb3 xk3 fun n e2 nb4 _ => ⟨M.asrt_nb nb4, (h2 ⟨putD x.kv n y⟩).go nb xk (by unfold M.dputK; rw [e]; show (mk >>= _) = _; rw [e2]; exact M.asrt_pos (M.asrt_nb nb4)) (wipeC_set hj)⟩))
end
end G
end

noncomputable section
/-! M55: lists of owned lists: comprehensions that make them, pop, +=; an item that has been handed in and is still read. -/
namespace G
open PySem PySem.Spec PyProof.Rows L2 PySem.W
section
variable {α β τ : Type} {d : Dat α} {d2 : Dat β} {tx : XC → Addr} {Y : YC} {Γ : List Cell} {ti : _root_.L2.TI} {tt : TT} {te ta tl : TE} {g : TG} {vs : List Nat} {rest ts : TS} {js : List Nat} {K : Kt τ} {k : Ks}
/-! comprehensions -/
/-! two slots at once -/
theorem set_sameO {γ : Type} {σ : List γ} {i : Nat} {o : γ} (e1 : σ[i]? = some o) : σ.set i o = σ := by
  obtain ⟨hlt, hv⟩ := List.getElem?_eq_some_iff.mp e1
  subst hv
  exact List.set_getElem_self hlt
theorem State.two {α1 : Type} {d1 : Dat α1} {e : En} {F : Hp} {σ : _root_.L2.St} {H : Hp} {od1 : @OD α1 d1} {x1 : α1} {c2 : Cell} {j1 j2 : Nat} {p1 : Option V} (s : State Y e F σ H Γ) (hn : j1 ≠ j2) (h1 : Γ[j1]? = some (.own d1 od1 p1 x1)) (h2 : Γ[j2]? = some c2) :
    ∃ v1 o2 L1 L2 rest, σ[j1]? = some (some v1) ∧ σ[j2]? = some o2 ∧ (∀ u, p1 = some u → v1 = u) ∧ od1.orep Y.g F v1 x1 L1 ∧ CellOk Y.g F o2 c2 L2 ∧ Wk e F ((L1 ++ L2) ++ rest) H ∧
    ∀ F' H' o2' c1' c2' L1' L2', Same F F' → Wk e F' ((L1' ++ L2') ++ rest) H' → CellOk Y.g F' (some v1) c1' L1' → CellOk Y.g F' o2' c2' L2' → State Y e F' (σ.set j2 o2') H' ((Γ.set j1 c1').set j2 c2') := by
  obtain ⟨hx, L, k, sl⟩ := s
  obtain ⟨o, A1, Li1, A2, e1, e2, ⟨v1, rfl, hp1, r1⟩, f⟩ := sl.get h1
  subst e2
  have sl1 := f F (some v1) .no [] (Same.refl _) rfl
  rw [set_same e1] at sl1
  have h2' : (Γ.set j1 .no)[j2]? = some c2 := by rw [List.getElem?_set_ne hn]; exact h2
  obtain ⟨o2, B1, Li2, B2, e3, e4, r2, g⟩ := sl1.get h2'
  have e4' : A1 ++ A2 = B1 ++ Li2 ++ B2 := by simpa using e4
  have pm : (A1 ++ Li1 ++ A2).Perm ((Li1 ++ Li2) ++ (B1 ++ B2)) := by
    have q1 : (A1 ++ Li1 ++ A2).Perm (Li1 ++ (A1 ++ A2)) := by
      have := (List.perm_append_comm (l₁ := A1) (l₂ := Li1)).append_right A2
      simpa [List.append_assoc] using this
    have q2 : (B1 ++ Li2 ++ B2).Perm (Li2 ++ (B1 ++ B2)) := by
      have := (List.perm_append_comm (l₁ := B1) (l₂ := Li2)).append_right B2
      simpa [List.append_assoc] using this
    rw [e4'] at q1
    have q3 := q1.trans (q2.append_left Li1)
    simpa [List.append_assoc] using q3
  refine ⟨v1, o2, Li1, Li2, B1 ++ B2, e1, e3, hp1, r1, r2, k.perm2 pm, fun F' H' o2' c1' c2' L1' L2' s' k' r1' r2' => ?_⟩
  have sl2 := g F' o2' c2' L2' s' r2'
  have hlt : j1 < Γ.length := (List.getElem?_eq_some_iff.mp h1).1
  have h3 : ((Γ.set j1 .no).set j2 c2')[j1]? = some .no := by
    rw [List.getElem?_set_ne (Ne.symm hn), List.getElem?_set_self hlt]
  obtain ⟨o3, C1, Lz, C2, e5, e6, hz, q⟩ := sl2.get h3
  have hz : Lz = [] := hz
  subst hz
  have sl3 := q F' (some v1) c1' L1' (Same.refl _) r1'
  rw [set_same (by rw [List.getElem?_set_ne (Ne.symm hn)]; exact e1)] at sl3
  have eΓ : ((Γ.set j1 .no).set j2 c2').set j1 c1' = (Γ.set j1 c1').set j2 c2' := by
    rw [set_set_ne hn, List.set_set, set_set_ne (Ne.symm hn)]
  rw [eΓ] at sl3
  refine ⟨hx, C1 ++ L1' ++ C2, k'.perm2 ?_, sl3⟩
  have e6' : B1 ++ L2' ++ B2 = C1 ++ C2 := by simpa using e6
  have q2' : (L2' ++ (B1 ++ B2)).Perm (B1 ++ L2' ++ B2) := by
    have := (List.perm_append_comm (l₁ := B1) (l₂ := L2')).append_right B2
    simpa [List.append_assoc] using this.symm
  rw [e6'] at q2'
  have q3 : (L1' ++ (C1 ++ C2)).Perm (C1 ++ L1' ++ C2) := by
    have := (List.perm_append_comm (l₁ := C1) (l₂ := L1')).append_right C2
    simpa [List.append_assoc] using this.symm
  have := (q2'.append_left L1').trans q3
  simpa [List.append_assoc] using this
/-! an item handed in and still read: the list with its item v0, which stands for y -/
@[reducible] def dRaw (v0 : V) : Dat Unit := ⟨fun _ _ v _ => v = v0, fun _ h => h⟩
@[reducible] def dAl (v0 : V) (y : α) : Dat (List α) := ⟨fun C F v xs => (dList (d := d)).rep C F v xs ∧ d.rep C F v0 y, fun s h => ⟨(dList (d := d)).mono s h.1, d.mono s h.2⟩⟩
theorem Reps.zipV {C : GCtx} {F : Hp} {v : V} {y : α} : ∀ {vs : List V} {xs : List α}, Reps d C F vs xs → (v, y) ∈ vs.zip xs → d.rep C F v y
  | [], [], _, h => nomatch h
  | u :: us, x :: xs, r, h => by
    rw [List.zip_cons_cons] at h
    rcases List.mem_cons.mp h with e | h
    · cases e; exact r.1
    · exact Reps.zipV r.2 h
  | [], _ :: _, r, _ => r.elim
  | _ :: _, [], r, _ => r.elim
@[reducible] def oAl (v0 : V) (y : α) (od : @OD α d) : @OD (List α) (dAl (d := d) v0 y) := @OD.mk (List α) (dAl (d := d) v0 y)
  (fun C F v xs L => ∃ a vs L', v = .ref a ∧ L = (a, .lst vs) :: L' ∧ OReps od C F vs xs L' ∧ (v0, y) ∈ vs.zip xs)
  (fun m ⟨a, vs, L', e, h, r, z⟩ => ⟨a, vs, L', e, h, r.mono m, z⟩)
  (fun ⟨a, vs, L', e, h, r, z⟩ m k => by
    have r2 := r.view m fun p hp => k p (by rw [h]; exact List.mem_cons_of_mem _ hp)
    exact ⟨(oDeep od).view ⟨a, vs, L', e, h, r⟩ m k, Reps.zipV r2 z⟩)
end
end G
end

noncomputable section
/-! M56: defs that change one of their arguments and hand it back within their result: frozen for the caller from then on. -/
namespace G
open PySem PySem.Spec PyProof.Rows L2 PySem.W
@[reducible] def dPin {α : Type} (u : V) (d : Dat α) : Dat α := ⟨fun C F v x => v = u ∧ d.rep C F v x, fun s h => ⟨h.1, d.mono s h.2⟩⟩
section
variable {tx : XC → Addr} {Y : YC} {Γ : List Cell} {te : TE} {tl : TA} {α β τ σ : Type} {d : Dat α} {rest ts : TS} {js : List Nat} {K : Kt τ} {k : Ks}
theorem State.mutC {e : En} {F : Hp} {σ : _root_.L2.St} {H : Hp} {od : @OD α d} {x : α} {i : Nat} {pin : Option V} (s : State Y e F σ H Γ) (h : Γ[i]? = some (.own d od pin x)) : ∃ v Li rest, σ[i]? = some (some v) ∧ (∀ u, pin = some u → v = u) ∧ od.orep Y.g F v x Li ∧ Wk e F (Li ++ rest) H ∧
    ∀ F' H' Li' c', Same F F' → Wk e F' (Li' ++ rest) H' → CellOk Y.g F' (some v) c' Li' → State Y e F' σ H' (Γ.set i c') := by
  obtain ⟨hx, L, k, sl⟩ := s
  obtain ⟨o, L1, Li, L2, e1, e2, ⟨v, rfl, hp, r⟩, f⟩ := sl.get h
  subst e2
  refine ⟨v, Li, L1 ++ L2, e1, hp, r, k.front, fun F' H' Li' c' s' k' r' => ⟨hx, L1 ++ Li' ++ L2, k'.back, ?_⟩⟩
  have q := f F' (some v) c' Li' s' r'
  rw [set_sameO e1] at q
  exact q
end
end G
end

noncomputable section
/-! M57: pairs of owned things hold nothing that is frozen for a borrowing alone. -/
namespace G
open PySem PySem.Spec PyProof.Rows L2 PySem.W
instance mPair {α β : Type} {d1 : Dat α} {d2 : Dat β} {od1 : @OD α d1} {od2 : @OD β d2} [i1 : @OIm α d1 od1] [i2 : @OIm β d2 od2] : @OIm (α × β) (dPair (d1 := d1) (d2 := d2)) (oPair od1 od2) :=
  @OIm.mk (α × β) (dPair (d1 := d1) (d2 := d2)) (oPair od1 od2) fun t ⟨a, v1, v2, L1, L2, e, h, tp, r1, r2⟩ => ⟨a, v1, v2, L1, L2, e, h, tp.imp (t a _) id, i1.oimm t r1, i2.oimm t r2⟩
end G
end

noncomputable section
/-! M58: {key: value for ..} with keys tuples of ints (the walk follows the library's own for other keys, the store's step is the tuples' one). -/
namespace G
open PySem PySem.Spec PyProof.Rows L2 PySem.W
section
variable {X : Cx}
end
section
variable {tx : XC → Addr} {Y : YC} {Γ : List Cell} {te ta tb tl tk tv : TE} {t u tt : TT} {α β κ : Type} [DecidableEq κ] {dk : Dat κ} {ky : KeyD κ dk} {d : Dat α} {d2 : Dat β} {g : TG}
end
end G
end

noncomputable section
/-! M59: an owned dict keyed by tuples is locked for good (nothing writes it any more); walks over its keys. -/
namespace G
open PySem PySem.Spec PyProof.Rows L2 PySem.W
def tLockP (t : TS) : TS := fun D σ H => ∃ d kvs, H d = some (.dT kvs) ∧ ∀ od, t D σ (upd H d (.frz od (.dT kvs)))
theorem ps_lockP {X : Cx} {st : Stmt} {t : TS} (h : PS X st t) : PS X st (tLockP t) := by
  refine ⟨fun pins s σ H D I hw => ?_⟩
  obtain ⟨d, kvs, hd, hw⟩ := hw
  obtain ⟨od, I1⟩ := I.lock hd True.intro
  exact h.run pins s σ _ _ I1 (hw od)
class KeyB (κ : Type) (dk : Dat κ) (ky : KeyD κ dk) where
  bk : ∀ {C : GCtx} {F : Hp} {q : Addr} {k : κ}, F q = some (.tup ((ky.key k).map kV)) → dk.rep C F (.ref q) k
instance kbPair : KeyB (Int × Int) (dPair (d1 := dInt) (d2 := dInt)) kyPair where
  bk := fun {C F q k} h => ⟨q, .int k.1, .int k.2, rfl, .inl h, rfl, rfl⟩
theorem TReps.getV {κ β : Type} {dk : Dat κ} {ky : KeyD κ dk} {d : Dat β} {C : GCtx} {F : Hp} {k : List L2.Key} {v : V} : ∀ {ps : List (List L2.Key × V)} {xs : List (κ × β)} {i : Nat}, TReps ky d C F ps xs → ps[i]? = some (k, v) → ∃ x, xs[i]? = some x ∧ k = ky.key x.1 ∧ d.rep C F v x.2
  | [], [], i, _, e => by simp at e
  | p :: ps, x :: xs, 0, h, e => ⟨x, rfl, by cases (Option.some.inj e); exact h.1, by cases (Option.some.inj e); exact h.2.1⟩
  | p :: ps, x :: xs, i + 1, h, e => TReps.getV (i := i) h.2.2 e
  | [], _ :: _, _, h, _ => h.elim
  | _ :: _, [], _, h, _ => h.elim
theorem TReps.len' {κ β : Type} {dk : Dat κ} {ky : KeyD κ dk} {d : Dat β} {C : GCtx} {F : Hp} : ∀ {ps : List (List L2.Key × V)} {xs : List (κ × β)}, TReps ky d C F ps xs → ps.length = xs.length
  | [], [], _ => rfl
  | _ :: _, _ :: _, h => by simp [TReps.len' h.2.2]
  | [], _ :: _, h => h.elim
  | _ :: _, [], h => h.elim
/-- a locked dict -/
@[reducible] def dKL {κ α : Type} {dk : Dat κ} {ky : KeyD κ dk} {d : Dat α} : Dat (DK κ α) := ⟨fun C F v x => ∃ a o ps, v = .ref a ∧ F a = some (.frz o (.dT ps)) ∧ TReps ky d C F ps x.kv, fun m ⟨a, o, ps, e, h, r⟩ => ⟨a, o, ps, e, m _ _ h, TReps.mono' m r⟩⟩
@[reducible] def oKL {κ α : Type} {dk : Dat κ} {ky : KeyD κ dk} {d : Dat α} : @OD (DK κ α) (dKL (ky := ky) (d := d)) := @OD.mk (DK κ α) (dKL (ky := ky) (d := d))
  (fun C F v x L => ∃ a o ps, v = .ref a ∧ L = [(a, .frz o (.dT ps))] ∧ TReps ky d C F ps x.kv)
  (fun m ⟨a, o, ps, e, h, r⟩ => ⟨a, o, ps, e, h, TReps.mono' m r⟩)
  (fun ⟨a, o, ps, e, h, r⟩ m k => ⟨a, o, ps, e, k (a, .frz o (.dT ps)) (by rw [h]; exact List.mem_cons_self), TReps.mono' m r⟩)
section
variable {tx : XC → Addr} {Y : YC} {Γ : List Cell} {te ta tb tl tk tv : TE} {t : TS} {κ α τ : Type} {dk : Dat κ} {ky : KeyD κ dk} {d : Dat α} {js : List Nat} {rest : TS} {K : Kt τ}
theorem we_hH {m : M (DK κ α)} (h : We tx Y te Γ (dKL (ky := ky) (d := d)) m) : We tx Y te Γ (dDK (ky := ky) (d := d)) m := fun nb xk e F σ H s Q q => h nb xk e F σ H s Q fun v F' H' x hx g ⟨a, o, ps, e1, ha, r⟩ => q v F' H' x hx g ⟨a, ps, e1, .inr ⟨o, ha⟩, r⟩
theorem z_lock {k : Ks} {pin : Option V} {i : Nat} {x : DK κ α} (hi : Γ[i]? = some (.own (dDK (ky := ky) (d := d)) (oDK (ky := ky) (d := d)) pin x)) (h : Z Y t (Γ.set i (.val (dKL (ky := ky) (d := d)) x)) k) : Z Y (tLockP t) Γ k := fun e F σ H D hM s c => by
  obtain ⟨v, Li, rest, e1, _, ⟨a, ps, rfl, rfl, r⟩, kw, f⟩ := s.mutC hi
  refine ⟨a, ps, (kw.ow (a, .dT ps) (by simp)).2.1, fun od => ?_⟩
  have s1 := f F _ [(a, .frz od (.dT ps))] (.own (dKL (ky := ky) (d := d)) (oKL (ky := ky) (d := d)) none x) (Same.refl F) (kw.put (fun _ z => by cases z)) ⟨.ref a, rfl, (fun _ z => by cases z), a, od, ps, rfl, rfl, r⟩
  have hi2 : (Γ.set i (.own (dKL (ky := ky) (d := d)) (oKL (ky := ky) (d := d)) none x))[i]? = some (.own (dKL (ky := ky) (d := d)) (oKL (ky := ky) (d := d)) none x) := by
    rw [List.getElem?_set_self (List.getElem?_eq_some_iff.mp hi).1]
  obtain ⟨F', sm, s2⟩ := s1.frz hM hi2
  rw [List.set_set] at s2
  exact h e F' σ _ D hM s2 c
theorem zm_lock {m : M τ} {x : DK κ α} {pin : Option V} (i : Nat) (hi : Γ[i]? = some (.own (dDK (ky := ky) (d := d)) (oDK (ky := ky) (d := d)) pin x)) (hj : i ∈ js) (h : Zm tx Y js (tSeq t rest) (Γ.set i (.val (dKL (ky := ky) (d := d)) x)) K m) :
    Zm tx Y js (tSeq (tLockP t) rest) Γ K m := fun nb xk => by
  have z : Z Y (tLockP (tSeq t rest)) Γ (K.ks m) := z_lock hi (h nb (xk.w (wipeC_set hj)))
  exact z
variable [kb : KeyB κ dk ky]
theorem z_forKT {g : TG} {ts : TS} {k : Ks} {tl : TE} (h : W Y tl Γ (dKL (ky := ky) (d := d)) fun s => Body Y g ts dk k (fun i => (s.kv.map Prod.fst)[i]?) (s.kv.map Prod.fst).length Γ) : Z Y (tFor (iKeys tl) g ts) Γ k := fun e F σ H D hM s c => h e F σ H s _ fun v F1 H1 s0 ⟨I, h0, hs, hd⟩ g1 ⟨a, o, ps, e1, ha, r⟩ => by
  subst e1
  have s1 := s.grow g1
  obtain ⟨hx1, L1, kw1, _⟩ := id s1
  have c1 := c.into hx1 kw1
  refine ⟨a, o, rfl, .inr ⟨ps, g1.fh _ _ ha, for_it walk_keysT (fun i σ H => ∃ F' Γ', State Y ⟨F1, e.H0, e.M⟩ F' σ H Γ' ∧ I i Γ') ⟨F1, Γ, s1.into, h0⟩ (fun i σ H _ ⟨F', Γ', st, _⟩ => (st.ff.trans st.fh) _ _ ha) (fun i x σ H H' hi ⟨F', Γ', st, hI⟩ ⟨eH, k', v', q, hk, ex, hq⟩ => ?_) fun σ H ⟨F', Γ', st, hI⟩ => ?_⟩⟩
  · subst eH ex
    obtain ⟨y, hy, ek, _⟩ := r.getV hk
    subst ek
    obtain ⟨_, _, kw, _⟩ := id st
    refine hs i y.1 Γ' (by show (s0.kv.map Prod.fst)[i]? = _; rw [List.getElem?_map, hy]; rfl) hI _ F' σ H' (.ref q) st (kb.bk (kw.tp _ _ hq)) _ fun σ2 Γ2 h2 st2 => ?_
    exact h2 ⟨F1, e.H0, e.M⟩ F' σ2 H' _ hM st2 ⟨fun F3 σ3 H3 Γ3 k3 st3 => ⟨F3, Γ3, st3, k3⟩, c1.rt, c1.nx, fun F3 σ3 H3 Γ3 k3 st3 => ⟨F3, Γ3, st3, k3⟩⟩
  · rw [r.len', ← List.length_map (f := Prod.fst)] at hI
    exact c1.nx F' σ H Γ' (hd Γ' hI) st
theorem ie_keysT {m : M (DK κ α)} (h : We tx Y tl Γ (dKL (ky := ky) (d := d)) m) : Ie tx Y (iKeys tl) Γ dk (m >>= fun s => .ok (s.kv.map Prod.fst)) := fun nb xk g ts k hb => z_forKT (h.k nb xk fun s e _ _ => hb (s.kv.map Prod.fst) (by rw [e]; rfl))
end
end G
end

noncomputable section
/-! M60: a return of three owned locals. -/
namespace G
open PySem PySem.Spec PyProof.Rows L2 PySem.W
theorem permV {α : Type} {L1 Li L2 M1 Mi M2 N1 Ni N2 : List α} (e4 : L1 ++ [] ++ L2 = M1 ++ Mi ++ M2) (e6 : M1 ++ [] ++ M2 = N1 ++ Ni ++ N2) : (L1 ++ Li ++ L2).Perm ((Li ++ (Mi ++ Ni)) ++ (N1 ++ [] ++ N2)) := by
  classical
  rw [List.perm_iff_count]
  intro a
  have h1 := congrArg (List.count a) e4
  have h2 := congrArg (List.count a) e6
  simp only [List.count_append, List.count_nil] at h1 h2 ⊢
  omega
section
variable {Y : YC} {Γ : List Cell} {k : Ks} {α β γ : Type} {d1 : Dat α} {d2 : Dat β} {d3 : Dat γ}
theorem z_retT3V {od1 : @OD α d1} {od2 : @OD β d2} {od3 : @OD γ d3} {i j m : Nat} {x : α} {y : β} {z : γ} (hij : i ≠ j) (him : i ≠ m) (hjm : j ≠ m) (hi : Γ[i]? = some (.own d1 od1 none x)) (hj : Γ[j]? = some (.own d2 od2 none y)) (hm : Γ[m]? = some (.own d3 od3 none z))
    (h : k.rt (.own (dT3 (d1 := d1) (d2 := d2) (d3 := d3)) (oT3 od1 od2 od3) none ⟨x, y, z⟩) (((Γ.set i .no).set j .no).set m .no)) : Z Y (tRet (tTup (tCons (tVar i) (tCons (tVar j) (tCons (tVar m) tNil))))) Γ k := fun e F σ H D hM s c => by
  obtain ⟨hx, L, k0, sl⟩ := id s
  obtain ⟨o, L1, Li, L2, e1, e2, ⟨u, rfl, _, r⟩, f⟩ := sl.get hi
  subst e2
  have sl2 := f F (some u) .no [] (Same.refl F) rfl
  obtain ⟨o', M1, Mi, M2, e3, e4, ⟨v, rfl, _, r2⟩, f2⟩ := sl2.get (i := j) (by rw [List.getElem?_set_ne hij]; exact hj)
  have sl3 := f2 F (some v) .no [] (Same.refl F) rfl
  obtain ⟨o'', N1, Ni, N2, e5, e6, ⟨w, rfl, _, r3⟩, f3⟩ := sl3.get (i := m) (by rw [List.getElem?_set_ne hjm, List.getElem?_set_ne him]; exact hm)
  have sl4 := f3 F (some w) .no [] (Same.refl F) rfl
  rw [List.getElem?_set_ne hij] at e3
  rw [List.getElem?_set_ne hjm, List.getElem?_set_ne him] at e5
  refine ⟨u, e1, v, e3, w, e5, show (3 : Nat) ≤ PySem.sizeLine by decide, fun p hp => ?_⟩
  have g := Gr.lay (o := .tup [u, v, w]) s.base hp
  have kw := k0.trans0 g
  exact c.rt _ _ _ _ (.ref p) _ (Li ++ (Mi ++ Ni)) (N1 ++ [] ++ N2) h (kw.perm (permV e4 e6)) ⟨.ref p, rfl, fun _ z => (nomatch z), p, u, v, w, Li, Mi, Ni, rfl, rfl, .inl upd_same, od1.omono g.ff r, od2.omono g.ff r2, od3.omono g.ff r3⟩ (sl4.mono g.ff)
end
section
variable {tx : XC → Addr} {Y : YC} {Γ : List Cell} {α β γ : Type} {d1 : Dat α} {d2 : Dat β} {d3 : Dat γ} {rest : TS} {js : List Nat}
theorem zm_retT3V {od1 : @OD α d1} {od2 : @OD β d2} {od3 : @OD γ d3} {cell : T3 α β γ → Cell} {i j m : Nat} {x : α} {y : β} {z : γ} (hij : (i == j) = false) (him : (i == m) = false) (hjm : (j == m) = false) (hi : Γ[i]? = some (.own d1 od1 none x)) (hj : Γ[j]? = some (.own d2 od2 none y)) (hm : Γ[m]? = some (.own d3 od3 none z)) (hc : cell = fun r => .own (dT3 (d1 := d1) (d2 := d2) (d3 := d3)) (oT3 od1 od2 od3) none r := by rfl) :
    Zm tx Y js (tSeq (tRet (tTup (tCons (tVar i) (tCons (tVar j) (tCons (tVar m) tNil))))) rest) Γ (KF cell) (.ok ⟨x, y, z⟩) := fun nb xk => by
  subst hc
  exact z_retT3V (k := (KF fun r => Cell.own (dT3 (d1 := d1) (d2 := d2) (d3 := d3)) (oT3 od1 od2 od3) none r).ks (M.ok ⟨x, y, z⟩)) (by simpa using hij) (by simpa using him) (by simpa using hjm) hi hj hm ⟨⟨x, y, z⟩, rfl, rfl⟩
end
/-! if not f(.., xs, ..) -/
section
variable {tx : XC → Addr} {Y : YC} {Γ : List Cell} {tl : TA} {α τ : Type} {d : Dat α} {K : Kt τ} {rest t1 t2 : TS} {js : List Nat}
end
end G
end

noncomputable section
/-! M61: loops left by a return in defs that change an argument. -/
namespace G
open PySem PySem.Spec PyProof.Rows L2 PySem.W
section
variable {tx : XC → Addr} {Y : YC} {Γ : List Cell} {js : List Nat} {rest ts : TS} {g : TG} {te : TE} {α β τ σ ρ μ : Type} {d : Dat α} {K : Kt τ}
section
variable {js' : List Nat} {cells : σ → List Cell} {s : σ} {rt : ρ → Cell → List Cell → Prop}
end
end
end G
end

noncomputable section
/-! M62: sorted(set(xs)), xs a list of pairs of ints below 64. -/
namespace L2
open PySem PySem.Spec PyProof.Rows
section
variable {X : Cx}
end
end L2
namespace G
open PySem PySem.Spec PyProof.Rows L2 PySem.W
def codeP (p : Int × Int) : Int := p.1 * 64 + p.2
def decP (c : Int) : Int × Int := (c / 64, c % 64)
def BdP (p : Int × Int) : Prop := (0 ≤ p.1 ∧ p.1 < 64) ∧ (0 ≤ p.2 ∧ p.2 < 64)
theorem decP_code {p : Int × Int} (h : BdP p) : decP (codeP p) = p := by
  obtain ⟨⟨a, b⟩, c, d⟩ := h
  unfold decP codeP
  refine Prod.ext ?_ ?_
  · show (p.1 * 64 + p.2) / 64 = p.1
    omega
  · show (p.1 * 64 + p.2) % 64 = p.2
    omega
def nub : List Int → List Int
  | [] => []
  | x :: r => if x ∈ nub r then nub r else x :: nub r
theorem mem_nub {y : Int} : ∀ {xs : List Int}, y ∈ nub xs ↔ y ∈ xs
  | [] => Iff.rfl
  | x :: r => by
    unfold nub
    by_cases h : x ∈ nub r
    · rw [if_pos h, mem_nub, List.mem_cons]
      exact ⟨.inr, fun z => z.elim (fun e => e ▸ mem_nub.mp h) id⟩
    · rw [if_neg h, List.mem_cons, List.mem_cons, mem_nub]
theorem nub_nodup : ∀ (xs : List Int), (nub xs).Nodup
  | [] => List.nodup_nil
  | x :: r => by
    unfold nub
    by_cases h : x ∈ nub r
    · rw [if_pos h]; exact nub_nodup r
    · rw [if_neg h]; exact List.nodup_cons.mpr ⟨h, nub_nodup r⟩
/-- each pair once, ascending -/
def psort (xs : List (Int × Int)) : List (Int × Int) := (isort (nub (xs.map codeP))).map decP
theorem psort_of {xs L : List (Int × Int)} (hb : ∀ p ∈ xs, BdP p) (h1 : ∀ p ∈ L, p ∈ xs) (h2 : ∀ p ∈ xs, p ∈ L) (hn : L.Nodup) (hs : L.Pairwise fun p q => codeP p ≤ codeP q) : L = psort xs := by
  have inj : ∀ {p q : Int × Int}, p ∈ L → q ∈ L → codeP p = codeP q → p = q := fun {p q} hp hq e => by
    rw [← decP_code (hb p (h1 p hp)), ← decP_code (hb q (h1 q hq)), e]
  have nd : (L.map codeP).Nodup := by
    refine List.pairwise_map.mpr ?_
    refine List.Pairwise.imp_of_mem (fun {p q} hp hq ne e => ne (inj hp hq e)) hn
  have pm : (L.map codeP).Perm (nub (xs.map codeP)) := (List.perm_ext_iff_of_nodup nd (nub_nodup _)).mpr fun c => by
    rw [mem_nub, List.mem_map, List.mem_map]
    exact ⟨fun ⟨p, hp, e⟩ => ⟨p, h1 p hp, e⟩, fun ⟨p, hp, e⟩ => ⟨p, h2 p hp, e⟩⟩
  have e := isort_eq pm (List.pairwise_map.mpr hs)
  unfold psort
  rw [← e, List.map_map]
  exact ((List.map_congr_left (g := fun p => p) fun p hp => decP_code (hb p (h1 p hp))).trans (List.map_id' L)).symm
def toP (q : Addr × List Int) : Int × Int := (q.2.getD 0 0, q.2.getD 1 0)
def OkQ (C : GCtx) (F : Hp) (q : Addr × List Int) : Prop := q.2 = [(toP q).1, (toP q).2] ∧ TpA C.K F q.1 [V.int (toP q).1, V.int (toP q).2]
theorem pairs_reps {C : GCtx} {F : Hp} : ∀ {ks : List (Addr × List Int)}, (∀ q ∈ ks, OkQ C F q) → Reps (dPair (d1 := dInt) (d2 := dInt)) C F (ks.map fun q => V.ref q.1) (ks.map toP)
  | [], _ => trivial
  | q :: ks, h => ⟨⟨q.1, _, _, rfl, (h q List.mem_cons_self).2, rfl, rfl⟩, pairs_reps fun z hz => h z (List.mem_cons_of_mem _ hz)⟩
section
variable {tx : XC → Addr} {Y : YC} {Γ : List Cell} {ta : TE}
end
end G
end

noncomputable section
/-! M63: xs[:0:-1]. -/
namespace L2
open PySem PySem.Spec PyProof.Rows
section
variable {X : Cx}
end
end L2
namespace G
open PySem PySem.Spec PyProof.Rows L2 PySem.W
section
variable {tx : XC → Addr} {Y : YC} {Γ : List Cell} {te : TE} {α : Type} {d : Dat α}
end
end G
end

noncomputable section
/-! M64: a return of a new thing and an owned local. -/
namespace G
open PySem PySem.Spec PyProof.Rows L2 PySem.W
section
variable {Y : YC} {Γ : List Cell} {k : Ks} {te : TE} {α β : Type} {d1 : Dat α} {d2 : Dat β}
end
section
variable {tx : XC → Addr} {Y : YC} {Γ : List Cell} {te : TE} {α β : Type} {d1 : Dat α} {d2 : Dat β} {rest : TS} {js : List Nat}
end
end G
end

noncomputable section
/-! M65: max(xs, default=d); len(set(pairs)); d[k] op= v for dicts keyed by tuples; an own dict keyed by tuples read and walked within a comprehension. -/
namespace L2
open PySem PySem.Spec PyProof.Rows
section
variable {prog : Program} {w : World} {A : Around} {E : Value → Shared → Prop} {s : Shared} {l : Addr} {its : List Value} {ns : List Int} {Q : Value → Shared → Prop}
end
section
variable {X : Cx}
end
end L2
namespace G
open PySem PySem.Spec PyProof.Rows L2 PySem.W
/-! ### max with a default -/
section
variable {tx : XC → Addr} {Y : YC} {Γ : List Cell} {ta tb te : TE} {α β τ κ : Type} {d : Dat α} {d2 : Dat β}
/-! ### len(set(pairs)) -/
end
end G
end

noncomputable section
/-! M66: d[k] op= v for dicts keyed by tuples; an own dict keyed by tuples, read and walked within a comprehension (locked meanwhile). -/
namespace L2
open PySem PySem.Spec PyProof.Rows
def rLenTR : List V → Hp → VK → Prop := fun xs H Q => ∃ (p : Addr) (kvs : List (List Key × V)), xs = [.ref p] ∧ Rd H p (.dT kvs) ∧ Q (.int ((kvs.length : Nat) : Int)) H
theorem call_len_dTR {X : Cx} : CallR X (.builtin "len") rLenTR := by
  intro pins s σ H xs us Q I r h
  obtain ⟨p, kvs, rfl, hp, q⟩ := h
  obtain ⟨u, rfl, rx⟩ := vals1 r
  obtain rfl : u = .ref p := rx
  obtain ⟨z, hd, ys, rel, dd⟩ := dt_rd I.hok hp
  have hl : kvs.length = ys.length := Paired.length rel
  refine call_len_dictH hd dd (by rw [← hl]; rw [sizeLine_eq] at z; omega) ?_
  rw [← hl]
  exact ⟨.int ((kvs.length : Nat) : Int), H, I.tok _, ⟨_, rfl⟩, q⟩
end L2
namespace G
open PySem PySem.Spec PyProof.Rows L2 PySem.W
section
variable {tx : XC → Addr} {Y : YC} {Γ : List Cell} {ta tb tl te tk tv : TE} {α β τ κ : Type} [DecidableEq κ] {dk : Dat κ} {ky : KeyD κ dk} {d : Dat α} {d2 : Dat β} {js vs : List Nat} {rest : TS} {K : Kt τ}
/-! ### locked for one expression -/
/-! ### a comprehension over the keys -/
theorem comp_turnT {g : TG} {tt : TT} {d : Dat α} {e : En} {F1 : Hp} {σ : _root_.L2.St} {H1 : Hp} {vs : List Nat} {D : Addr} {x : α} {v : V} {I I' : List β → Prop} (s1 : State Y e F1 σ H1 Γ) (hT : Tg g vs)
    (hs : ∀ ys, I ys → A Y g (wipeC Γ vs) d x fun Γ2 => T Y tt Γ2 fun b => (b = true → W Y te Γ2 d2 fun y => ys.length < PySem.sizeLine ∧ I' (ys ++ [y])) ∧ (b = false → I' ys)) {H : Hp} (rx : ∀ F', Same F1 F' → (∀ a xs, H a = some (.tup xs) → F' a = some (.tup xs)) → d.rep Y.g F' v x)
    (h : ∃ F' acc ys, Wk ⟨F1, H1, []⟩ F' [(D, .lst acc)] H ∧ Reps d2 Y.g F' acc ys ∧ I ys) :
    g v (wipe σ vs) H fun σ2 H2 => wipe σ2 vs = wipe σ vs ∧ tt σ2 H2 fun b H3 =>
      if b = true then te σ2 H3 fun y H4 => ∃ acc, H4 D = some (.lst acc) ∧ acc.length < PySem.sizeLine ∧ (∃ F' acc' ys, Wk ⟨F1, H1, []⟩ F' [(D, .lst acc')] (upd H4 D (.lst (acc ++ [y]))) ∧ Reps d2 Y.g F' acc' ys ∧ I' ys) else (∃ F' acc ys, Wk ⟨F1, H1, []⟩ F' [(D, .lst acc)] H3 ∧ Reps d2 Y.g F' acc ys ∧ I' ys) := by
  obtain ⟨F', acc, ys, kw, r, hi⟩ := h
  have st := (s1.growL kw).wipe vs
  have key := hs ys hi e F' _ H v st (rx F' kw.ff kw.tp) (fun σ2 H2 => tt σ2 H2 fun b H3 =>
      if b = true then te σ2 H3 fun y H4 => ∃ acc, H4 D = some (.lst acc) ∧ acc.length < PySem.sizeLine ∧ (∃ F' acc' ys, Wk ⟨F1, H1, []⟩ F' [(D, .lst acc')] (upd H4 D (.lst (acc ++ [y]))) ∧ Reps d2 Y.g F' acc' ys ∧ I' ys) else (∃ F' acc ys, Wk ⟨F1, H1, []⟩ F' [(D, .lst acc)] H3 ∧ Reps d2 Y.g F' acc ys ∧ I' ys)) fun σ2 Γ2 h2 st2 => by
    refine h2 e F' σ2 H st2 _ fun b F3 H3 kb g3 => ?_
    have kw3 := kw.trans0 g3
    cases b with
    | false => exact ⟨F3, acc, ys, kw3, r.mono g3.ff, kb.2 rfl⟩
    | true =>
      refine kb.1 rfl e F3 σ2 H3 (st2.grow g3) _ fun y F4 H4 yv ⟨hl, ky⟩ g4 ry => ?_
      have kw4 := kw3.trans0 g4
      have hD : H4 D = some (.lst acc) := (kw4.ow (D, .lst acc) (by simp)).2.1
      exact ⟨acc, hD, by rw [r.len]; exact hl, F4, acc ++ [y], ys ++ [yv], kw4.put (fun _ z => by cases z), (r.mono (g3.ff.trans g4.ff)).append (Reps.one ry), ky⟩
  have key2 := hT v _ H _ key
  rw [wipe_wipe] at key2
  exact key2
variable [kb : KeyB κ dk ky]
theorem ic_keysT {m : M (DK κ α)} (h : We tx Y tl Γ (dKL (ky := ky) (d := d)) m) : Ic tx Y (iKeys tl) Γ dk (m >>= fun s => M.asrt (s.kv.length ≤ PySem.sizeLine) (.ok (s.kv.map Prod.fst))) := fun nb xk β d2 g tt te vs kx hT hb e F σ H s Q q => h.k nb xk (k := fun s => m = .ok s ∧ s.kv.length ≤ PySem.sizeLine) (fun s e nb2 _ => ⟨e, M.asrt_nb nb2⟩) e F σ H s _ fun v F1 H1 s0 ⟨hm, hz⟩ g1 ⟨a, o, ps, e1, ha, r⟩ => by
  subst e1
  obtain ⟨I, h0, hs, hd⟩ := hb (s0.kv.map Prod.fst) (by rw [hm]; exact M.asrt_pos hz) (by rw [List.length_map]; exact hz)
  refine ⟨a, o, rfl, .inr ⟨ps, g1.fh _ _ ha, fun D hD => ?_⟩⟩
  have kw0 : Wk ⟨F1, H1, []⟩ F1 [(D, .lst [])] (upd H1 D (.lst [])) := g1.base.own hD (fun _ z => by cases z)
  refine lc_it walk_keysT (fun i H => ∃ F' acc ys, Wk ⟨F1, H1, []⟩ F' [(D, .lst acc)] H ∧ Reps d2 Y.g F' acc ys ∧ I i ys) ⟨F1, [], [], kw0, trivial, h0⟩ (fun i H _ ⟨F', acc, ys, kw, _⟩ => (kw.ff.trans kw.fh) _ _ ha) (fun i x H H' hi p ⟨eH, k', v', q', hk, ex, hq⟩ => ?_) fun H ⟨F', acc, ys, kw, ra, hi⟩ => ?_
  · subst eH ex
    obtain ⟨y, hy, ek, _⟩ := r.getV hk
    subst ek
    exact comp_turnT (s.grow g1) hT.1 (hs i y.1 · (by show (s0.kv.map Prod.fst)[i]? = _; rw [List.getElem?_map, hy]; rfl)) (fun F' _ ht => kb.bk (ht _ _ hq)) p
  · rw [r.len', ← List.length_map (f := Prod.fst)] at hi
    exact q _ F' H _ ys (hd ys hi) (by simpa using g1.trans kw) ⟨D, acc, rfl, rfl, ra⟩
/-! len of an own dict keyed by tuples -/
omit kb in
theorem w_lenDK {k : Int → Prop} (h : R Y ta Γ (dDK (ky := ky) (d := d)) fun x => k (x.kv.length : Int)) : W Y (tCB rLenTR (tCons ta tNil)) Γ dInt k := fun e F σ H s Q q => h e F σ H s _ fun v F' H' x hk g ⟨a, ps, e1, ha, r⟩ => by
  subst e1
  exact ⟨a, ps, rfl, ha, q _ F' H' _ hk g (by rw [r.len]; rfl)⟩
omit kb in
theorem we_lenDK {m : M (DK κ α)} (h : Re tx Y ta Γ (dDK (ky := ky) (d := d)) m) : We tx Y (tCB rLenTR (tCons ta tNil)) Γ dInt (m >>= fun x => .ok (x.kv.length : Int)) := fun nb xk => w_lenDK (h.k nb xk fun x e _ _ => by rw [e]; rfl)
end
end G
end

noncomputable section
/-! M67: a return of new, owned local, new; for over a list within owned plain data that are changed later. -/
namespace G
open PySem PySem.Spec PyProof.Rows L2 PySem.W
section
variable {Y : YC} {Γ : List Cell} {k : Ks} {te te3 : TE} {α β γ : Type} {d1 : Dat α} {d2 : Dat β} {d3 : Dat γ}
end
section
variable {tx : XC → Addr} {Y : YC} {Γ : List Cell} {te te3 : TE} {α β γ : Type} {d1 : Dat α} {d2 : Dat β} {d3 : Dat γ} {rest : TS} {js : List Nat}
end
mutual
theorem OUr.frz {C : GCtx} {F : Hp} : ∀ (x : PyData) (v : V) (L : LO), G.noL x = true → OUr C F x v L → DU C F x v
  | .none, _, _, _, h => h.1
  | .bool _, _, _, _, h => h.1
  | .int _, _, _, _, h => h.1
  | .str _, _, _, _, h => h.1
  | .list _, _, _, n, _ => by cases n
  | .tuple ds, v, L, n, ⟨a, vs, e, h, r⟩ => ⟨a, vs, e, h, OUrs.frz ds vs L n r⟩
  | .dict _, _, _, _, h => h.elim
theorem OUrs.frz {C : GCtx} {F : Hp} : ∀ (xs : List PyData) (vs : List V) (L : LO), noLs xs = true → OUrs C F xs vs L → DUs C F xs vs
  | [], [], _, _, _ => trivial
  | d :: ds, v :: vs, _, n, ⟨L1, L2, _, h1, h2⟩ => by
    have n2 : (G.noL d && noLs ds) = true := n
    rw [Bool.and_eq_true] at n2
    exact ⟨OUr.frz d v L1 n2.1 h1, OUrs.frz ds vs L2 n2.2 h2⟩
  | [], _ :: _, _, _, h => h.elim
  | _ :: _, [], _, _, h => h.elim
end
section
variable {tx : XC → Addr} {Y : YC} {Γ : List Cell} {α : Type} {d : Dat α} {g : TG} {ts : TS}
end
end G
end

noncomputable section
/-! M68: comprehensions over range(a, b). -/
namespace G
open PySem PySem.Spec PyProof.Rows L2 PySem.W
section
variable {Y : YC} {Γ : List Cell} {β : Type} {d2 : Dat β} {ta tb te : TE} {tt : TT} {g : TG}
end
section
variable {tx : XC → Addr} {Y : YC} {Γ : List Cell} {ta tb : TE}
end
end G

noncomputable section
/-! M69: sorted(d) of a locked dict keyed by tuples; d.get(k, x) of dicts keyed by tuples. -/
namespace L2
open PySem PySem.Spec PyProof.Rows PySem.W
section
variable {X : Cx}
end
end L2
namespace G
open PySem PySem.Spec PyProof.Rows L2 PySem.W
instance kbTup : KeyB (Tup Int) (dTup (d := dInt)) kyTup where
  bk := fun {C F q k} h => ⟨q, k.l.map V.int, rfl, .inl (by
    have : ((KeyD.key (dTup (d := dInt)) k : List L2.Key)).map kV = k.l.map V.int := by
      show (k.l.map Sum.inl).map kV = _
      rw [List.map_map]
      rfl
    rw [this] at h
    exact h), by
      have : ∀ l : List Int, Reps dInt C F (l.map V.int) l := fun l => by
        induction l with
        | nil => trivial
        | cons x l ih => exact ⟨rfl, ih⟩
      exact this k.l⟩
instance ltTup {α : Type} [DecidableEq α] [OLt α] : OLt (Tup α) := ⟨fun x y => ltL x.l y.l⟩
instance doTup {α : Type} {d : Dat α} [de : @DE α d] [o : @DO α d de] : @DO (Tup α) dTup deTup := @DO.mk _ _ deTup fun x y => by
  show alike (.tuple (x.l.map de.toD)) (.tuple (y.l.map de.toD)) = true
  rw [alike]
  exact alk_all x.l y.l
instance dltTup {α : Type} [DecidableEq α] [OLt α] {d : Dat α} [de : @DE α d] [o : @DO α d de] [l : @DLt α d de _] : @DLt (Tup α) dTup deTup _ := @DLt.mk _ _ deTup _ fun x y => by
  show dataLt (.tuple (x.l.map de.toD)) (.tuple (y.l.map de.toD)) = ltL x.l y.l
  rw [dataLt_tuple]
  exact dlt_all x.l y.l
/-- keys that are not empty -/
class KNe (κ : Type) {dk : Dat κ} [de : @DE κ dk] where
  ne : κ → Bool
  is : ∀ k, ne k = true → ∃ y r, de.toD k = .tuple (y :: r)
instance kneTup : @KNe (Tup Int) (dTup (d := dInt)) deTup := @KNe.mk _ _ deTup (fun t => !t.l.isEmpty) fun k h => by
  obtain ⟨l⟩ := k
  cases l with
  | nil => cases h
  | cons x l => exact ⟨_, _, rfl⟩
instance knePair : @KNe (Int × Int) (dPair (d1 := dInt) (d2 := dInt)) dePair := @KNe.mk _ _ dePair (fun _ => true) fun k _ => ⟨_, _, rfl⟩
section
variable {tx : XC → Addr} {Y : YC} {Γ : List Cell} {te ta tb tc : TE} {κ α : Type} [DecidableEq κ] {dk : Dat κ} {ky : KeyD κ dk} {d : Dat α}
/-! d.get(k, x) -/
end
end G
end

noncomputable section
/-! M70: a < b < c < d of whole numbers, as a test. -/
namespace L2
open PySem PySem.Spec PyProof.Rows
section
variable {X : Cx} {a b c d : Expr} {ta tb tc td : TE} {pos : Pos}
end
end L2
namespace G
open PySem PySem.Spec PyProof.Rows L2 PySem.W
section
variable {tx : XC → Addr} {Y : YC} {Γ : List Cell} {ta tb tc td : TE}
end
section
variable {tx : XC → Addr} {Y : YC} {Γ : List Cell} {ta tb tc : TE} {κ α : Type} [DecidableEq κ] {dk : Dat κ} {ky : KeyD κ dk} {d : Dat α}
end
end G
end

noncomputable section
/-! M71: calls with keyword-only arguments f(a, x = .., y = ..) of defs that may raise. -/
namespace L2
open PySem PySem.Spec PyProof.Rows
def tCallNS (n m : Nat) (sp : Sp) (gV : List V → List V → List V) (E : St → XK) (t tk : TA) : TE := fun σ H Q => t σ H fun vs H1 => tk σ H1 fun zs H2 => vs.length = n ∧ zs.length = m ∧ sp (gV vs zs) H2 Q (E σ)
section
variable {X : Cx} {CX : CXT} {k n : Nat} {f : Addr} {fd : FuncData} {ps ks : List Str} {sp : Sp} {E : St → XK} {x : Str} {p pos : Pos} {e : Expr} {es : List Expr} {kws : List Keyword} {t tk : TA} {ta tb tc : TE} {g : List Value → List Value → List Value} {gV : List V → List V → List V}
theorem kw1 : tCallNS 1 1 sp (fun vs zs => vs ++ zs ++ [.non]) E (tCons ta tNil) (tCons tb tNil) = tCallS sp E (tCons ta (tCons tb (tCons (tC .non) tNil))) := by
  funext σ H Q
  simp [tCallNS, tCallS, tCons, tNil, tC]
theorem kw2 : tCallNS 1 1 sp (fun vs zs => vs ++ [.non] ++ zs) E (tCons ta tNil) (tCons tc tNil) = tCallS sp E (tCons ta (tCons (tC .non) (tCons tc tNil))) := by
  funext σ H Q
  simp [tCallNS, tCallS, tCons, tNil, tC]
end
section
variable {K : PySem.W.Frag} {x qual : Str} {st : Stmt} {f : Addr} {fd : FuncData} {ps : List Str}
theorem Fun.kb (F : Fun K x qual st f fd) {D : Addr} (hD : fd.kwdefaults = .ref D) (n : Nat) (ks : List Str) (ms : List (Str × V)) (g : {α : Type} → List α → List α → List α → List α) (hq : ∀ q ∈ ms, ∃ u, PySem.W.nsIn K D q.1 = some (some u) ∧ RelV q.2 u)
    (hrel : ∀ {vs mz zs : List V} {us mv ws : List Value}, Vals vs us → Vals mz mv → Vals zs ws → Vals (g vs mz zs) (g us mv ws))
    (h : ∀ (doc pm : Value) (an : Option Addr) (cdv ct : Value) (us mv ws : List Value), us.length = n → mv.length = ms.length → ws.length = ks.length →
      KwChain D ((ms.map (·.1)).zip mv) (bindArgs (PySem.W.fnOf x qual (defArgs st) (defBody st) (defScope st) .none (.ref D) doc pm an cdv ct) ⟨us, ks.zip ws⟩) (ps.zip (g us mv ws))) :
    ∃ g', KBn K fd ps n ks g' (fun vs zs => g vs (ms.map (·.2)) zs) := by
  obtain ⟨oc, od, kV, doc, pm, an, cdv, ct, osl, rfl, lk, hcd⟩ := F.ex
  have e : kV = .ref D := hD
  subst e
  obtain ⟨mv, hl, rk, hks⟩ := kwd_vals hq
  refine ⟨fun us ws => g us mv ws, ⟨fun s us ws X l1 l2 => ?_, fun r1 r2 => hrel r1 rk r2⟩⟩
  exact BindsTo.of_looks fun M => KwChain.looks X hks (h doc pm an cdv ct us mv ws l1 hl l2)
end
end L2
end

noncomputable section
/-! M72: a triple whose third part may be None, from one where it is not. -/
namespace G
open PySem PySem.Spec PyProof.Rows L2 PySem.W
section
variable {tx : XC → Addr} {Y : YC} {Γ : List Cell} {te : TE} {α β γ : Type} {d1 : Dat α} {d2 : Dat β} {d3 : Dat γ}
end
end G

noncomputable section
/-! M73: xs[i][j] = e and xs[i][j] += e of lists that own lists; f'{i:spec}', str(i), s * n, s.join(xs), len(s). -/
namespace L2
open PySem PySem.Spec PyProof.Rows
section
variable {X : Cx}
end
end L2
namespace G
open PySem PySem.Spec PyProof.Rows L2 PySem.W
section
variable {Y : YC} {Γ : List Cell} {k : Ks} {ta tb te : TE} {α : Type} {d : Dat α}
end
section
variable {tx : XC → Addr} {Y : YC} {Γ : List Cell} {ta tb te : TE} {α τ : Type} {d : Dat α} {rest : TS} {js : List Nat} {K : Kt τ}
/-! texts -/
def M.join (a : Str) (ys : List Str) : M Str := M.asrt ((ys.map (·.length)).sum + ys.length * a.length ≤ 16777216) (.ok (Txt.join a ys))
end
section
variable {α β : Type} {d : Dat α} {tx : XC → Addr} {Y : YC} {Γ : List Cell} {tl : TE}
end
end G
end

noncomputable section
/-! M74: lists whose items are owned or only read (a mark tells which); for r in xs: if r is not None: r.reverse(); r.append(n). -/
namespace G
open PySem PySem.Spec PyProof.Rows L2 PySem.W
/-- an item, and whether it is owned -/
structure Fl (α : Type) where
  x : α
  o : Bool
@[reducible] def dFl {α : Type} (d : Dat α) : Dat (Fl α) := ⟨fun C F v y => d.rep C F v y.x, fun s h => d.mono s h⟩
@[reducible] def oFl {α : Type} {d : Dat α} (od : @OD α d) : @OD (Fl α) (dFl d) := @OD.mk (Fl α) (dFl d)
  (fun C F v y L => (y.o = true ∧ od.orep C F v y.x L) ∨ (y.o = false ∧ L = [] ∧ d.rep C F v y.x))
  (fun s h => h.imp (fun ⟨a, b⟩ => ⟨a, od.omono s b⟩) fun ⟨a, b, c⟩ => ⟨a, b, d.mono s c⟩)
  (fun h s k => h.elim (fun ⟨_, b⟩ => od.view b s k) fun ⟨_, _, c⟩ => d.mono s c)
section
variable {Y : YC} {Γ : List Cell} {k : Ks} {te tb : TE} {α : Type} {d : Dat α}
/-- what the loop makes of an item -/
def Fl.turn (n : Int) (y : Fl (Opt (List Int))) : Fl (Opt (List Int)) := match y.x with
  | .none => y
  | .some xs => ⟨.some (xs.reverse ++ [n]), y.o⟩
end
instance noDeep {α : Type} {d : Dat α} {od : @OD α d} [n : NoIns od] : NoIns (oDeep od) := ⟨fun {C F v x L} ⟨a, vs, L2, h1, h2, r⟩ p hp => by
  subst h2
  rcases List.mem_cons.mp hp with rfl | hp
  · rintro ⟨_, _, _, z⟩
    cases z
  · have go : ∀ (xs : List α) (vs : List V) (L : LO), OReps od C F vs xs L → ∀ p ∈ L, ¬ ∃ C dx fs, p.2 = .ins C dx fs := by
      intro xs
      induction xs with
      | nil =>
        intro vs L r p hp
        cases vs with
        | nil => rw [show L = [] from r] at hp; cases hp
        | cons => exact r.elim
      | cons x xs ih =>
        intro vs L r p hp
        cases vs with
        | nil => exact r.elim
        | cons v vs =>
          obtain ⟨L1, L2, e, h1, h2⟩ := r
          subst e
          rcases List.mem_append.mp hp with hp | hp
          · exact n.no h1 p hp
          · exact ih vs L2 h2 p hp
    exact go _ _ _ r p hp⟩
instance noOpt {α : Type} {d : Dat α} {od : @OD α d} [n : NoIns od] : NoIns (oOpt od) := ⟨fun {C F v x L} h p hp => by
  cases x with
  | none => rw [show L = [] from h.2] at hp; cases hp
  | some y => exact n.no (show od.orep C F v y L from h) p hp⟩
instance noFl {α : Type} {d : Dat α} {od : @OD α d} [n : NoIns od] : NoIns (oFl od) := ⟨fun {C F v x L} h p hp => by
  rcases h with ⟨_, h⟩ | ⟨_, h, _⟩
  · exact n.no h p hp
  · subst h; cases hp⟩
section
variable {tx : XC → Addr} {Y : YC} {Γ : List Cell} {te tb : TE} {α τ : Type} {d : Dat α} {rest : TS} {js : List Nat} {K : Kt τ}
end
end G
end

noncomputable section
/-! M75: a call f(a) of a def with two keyword-only arguments, neither given; x is None for data that is never None. -/
namespace L2
open PySem PySem.Spec PyProof.Rows
section
variable {X : Cx} {CX : CXT} {k : Nat} {f : Addr} {fd : FuncData} {ps : List Str} {sp : Sp} {E : St → XK} {x : Str} {p pos : Pos} {ta : TE}
theorem kw0 : tCallNS 1 0 sp (fun vs zs => vs ++ [.non, .non] ++ zs) E (tCons ta tNil) tNil = tCallS sp E (tCons ta (tCons (tC .non) (tCons (tC .non) tNil))) := by
  funext σ H Q
  simp [tCallNS, tCallS, tCons, tNil, tC]
end
end L2
end

noncomputable section
/-! M76: the truth of an instance by an own __bool__, as a test and by bool(o); bool(t), t a tuple. -/
namespace G
open PySem PySem.Spec PyProof.Rows L2 PySem.W
section
variable {prog : Program} {w : World} {M : Model} {A : Around} {E : Value → Shared → Prop} {s : Shared} {K : Frag} {x C L f : Addr} {h₀ : Heap} {m : Str → Option Value} {ox : Obj} {od : Option Obj}
theorem truthy_fn {Q : Bool → Shared → Prop} (F : Fr h₀ L s.heap m) (X₀ : K.In h₀) (I : InstAt s.heap x ox C od) (hs : findIn K (.ref C) "__bool__" = some (some (.ref f))) (hf : isFn K (.ref f) = true)
    (h : wpAny M A (call (.ref f) [.ref x]) (fun r s' => ∃ b, r = .bool b ∧ Q b s') E s) : wpAny M A (truthy (.ref x)) Q E s := by
  unfold truthy
  first
    | refine wpAny_bind (special_fn (X₀.keeps F.keep) I hs (beq_iff_eq.mp hf) (wpAny_mono h (fun r s' ⟨b, e, q⟩ => ?_) fun _ _ z => z))
    | refine wpAny_bind (wpAny_pure (wpAny_bind (special_fn (X₀.keeps F.keep) I hs (beq_iff_eq.mp hf) (wpAny_mono h (fun r s' ⟨b, e, q⟩ => ?_) fun _ _ z => z))))
  subst e
  exact wpAny_pure q
theorem meets_bool {y : Value} : MeetsIn prog w (Builtin.«bool.__new__» ⟨[.type "bool", y], []⟩) (fun A R s => wpAny (model prog w) A.in1 (truthy y) (fun b s' => R (.ok (.ret (.bool b))) s') (fun e s' => R (.error e) s') s) := fun A R s hs => by
  have f1 := PySem.F.conv_sub_bool
  obtain ⟨hp, g, d, tk, os⟩ := s
  have key : ∀ {Q : Bool → Shared → Prop}, (∀ b s', R (.ok (.ret (.bool b))) s' → Q b s') → wpAny (model prog w) A.in1 (truthy y) Q (fun e s' => R (.error e) s') ⟨hp, g, d, tk, os⟩ := fun hq => wpAny_mono hs hq fun _ _ z => z
  wp_walk using (key fun b s' hr => ?_)
  exact hr
theorem call_bool_t {y : Value} {Q : Value → Shared → Prop} (h : wpAny (model prog w) A.in1.in1 (truthy y) (fun b s' => Q (.bool b) s') E s) : wpAny (model prog w) A (call (.type "bool") [y]) Q E s :=
  callType_newIn PySem.F.called_bool PySem.F.newNe_bool (PySem.F.typeCall_bool_1 y) (PySem.F.newCall_bool_1 y) (fun obj => PySem.F.args_object_init_2 obj y) PySem.F.entry_bool_new meets_bool (wpAny_mono h (fun b s' q => ⟨rfl, q⟩) fun _ _ z => z)
end
end G
namespace L2
open PySem PySem.Spec PyProof.Rows
open G (EF inst_of truthy_fn call_bool_t)
section
variable {X : Cx} {CXt : CXT} {k : Nat} {f C : Addr} {fd : FuncData} {ps : List Str} {sp : Sp} {ta : TE} {e : Expr}
end
end L2
namespace G
open PySem PySem.Spec PyProof.Rows L2 PySem.W
section
variable {tx : XC → Addr} {Y : YC} {Γ : List Cell} {ta : TE} {α β : Type} {d : Dat α} {d2 : Dat β} {C0 : Addr} {ns : List Str} {sp : Sp}
end
end G
end

noncomputable section
/-! M77: n * o, n a whole number, o an instance whose class has __rmul__. -/
namespace G
open PySem PySem.Spec PyProof.Rows L2 PySem.W
theorem mul_ins (a : Int) (t : Tok) (l C dx : Addr) :
    Meets (Builtin.«int.__mul__» ⟨[.int a t, .ref l], []⟩) (fun _ R s => s.heap.get? l = some (instObj C dx) ∧ R (.ok (.ret Value.notImplemented)) s) :=
  .of_wp fun prog w A R s h => by
    obtain ⟨hp, g, d, tk, os⟩ := s
    obtain ⟨hl, h⟩ := h
    unfold instObj at hl
    wp_walk
    exact ⟨_, rfl, h⟩
section
variable {prog : Program} {w : World} {A : Around} {E : Value → Shared → Prop} {s : Shared} {K : Frag} {x y C dx L f g0 : Addr} {h₀ : Heap} {m : Str → Option Value} {od : Option Obj}
theorem mul_call {n : Int} {t : Tok} {Q2 : Option Value → Shared → Prop} (hy : s.heap.get? y = some (instObj C dx)) (q : Q2 none s) : wpAny (model prog w) A (call (.builtin "int.__mul__") [.int n t, .ref y]) (fun v s' => v = .notImplemented ∧ Q2 none s') E s := by
  refine call_meets (S := fun _ R s => s.heap.get? y = some (instObj C dx) ∧ R (.ok (.ret Value.notImplemented)) s) PySem.F.slot_int_mul (typeIs_int s n t) PySem.F.entry_int_mul (PySem.F.args_int_mul_2 _ _) (mul_ins n t y C dx) ?_
  exact ⟨hy, rfl, q⟩
theorem own_rmul {n : Int} {t : Tok} {Q : Value → Shared → Prop} (F : Fr h₀ L s.heap m) (X₀ : K.In h₀) (I : InstAt s.heap y (instObj C dx) C od) (hc : selfFirst K C = true)
    (hs : findIn K (.ref C) (PySem.dunder "mul") = some (some (.ref g0))) (hr : findIn K (.ref C) (dunderR "mul") = some (some (.ref f))) (hf : isFn K (.ref f) = true) (hsub : subIn K (.ref C) (.type "int") = some false)
    (h : wpAny (model prog w) A (call (.ref f) [.ref y, .int n t]) (PySem.W.CmpBack Q) E s) : wpAny (model prog w) A (binaryOp .Mult (.int n t) (.ref y)) Q E s := by
  have hK := X₀.keeps F.keep
  obtain ⟨cd, rest, hcd, hm⟩ := ksp_first hc
  have one := ksp_try hK I hr hf h
  have ht : s.TypeIs (.int n t) "int" := typeIs_int s n t
  have decl : ∀ {Q2 : Option Value → Shared → Prop}, Q2 none s → wpAny (model prog w) A (tryMethod (.int n t) (PySem.dunder "mul") (.ref y)) Q2 E s := fun {Q2} q => by
    refine wpAny_tryMethod_declines (M := model prog w) (T := "int") (id := "int.__mul__") (name := PySem.dunder "mul") (Q := Q2) ?_ ?_ ?_
    · exact ht
    · exact PySem.F.slot_int_mul
    · exact mul_call (dx := dx) (C := C) I.at_ q
  obtain ⟨hh, g, d, tt, os⟩ := s
  have L1 : Looks (model prog w) hh (typeOf (.int n t)) (.type "int") := Looks.of_pure rfl
  have L2 : Looks (model prog w) hh (typeOf (.ref y)) (.ref C) := I.type
  have L3 : fillsNumberSlot (.type "int") "mul" = pure true := PySem.F.fills_int_mul
  have L4 : Looks (model prog w) hh (fillsNumberSlot (.ref C) "mul") true := fills_K hK hcd hm hs
  have L5 : Looks (model prog w) hh (isSubtype (.ref C) (.type "int")) false := looks_subIn hK hsub
  have hne : (Value.type "int" == Value.ref C) = false := rfl
  have L7 : numberSlotInPython (.type "int") "mul" = pure false := rfl
  simp only [binaryOp, show Operator.Mult.info = ("*", "mul") from rfl]
  refine wpAny_holding (wpAny_bind ?_)
  unfold binaryOp1
  refine wpAny_bind (L1.at (wpAny_bind (L2.at (wpAny_bind (wpAny_of_eq L3 ?_)))))
  simp only [hne, Bool.false_eq_true, if_false]
  refine wpAny_bind (L4.at ?_)
  simp only [Bool.and_self, if_true]
  refine wpAny_bind (L5.at ?_)
  simp only [Bool.false_eq_true, if_false, pure_bind, Bool.not_false, Bool.and_self, if_true, L7]
  refine wpAny_bind (decl ?_)
  refine wpAny_bind (wpAny_mono one (fun r s' hr' => ?_) fun _ _ e => e)
  obtain ⟨v, rfl, hq⟩ := hr'
  ksp_lk
  exact hq
end
end G
namespace L2
open PySem PySem.Spec PyProof.Rows
open G (EF inst_of own_rmul relV_back)
section
variable {X : Cx} {CXt : CXT} {k : Nat} {f g0 C : Addr} {fd : FuncData} {ps : List Str} {sp : Sp} {E : L2.St → XK} {pos : Pos} {a b : Expr} {ta tb : TE}
end
end L2
namespace G
open PySem PySem.Spec PyProof.Rows L2 PySem.W
section
variable {tx : XC → Addr} {Y : YC} {Γ : List Cell} {ta tb : TE} {α β : Type} {d : Dat α} {d2 : Dat β} {C0 : Addr} {ns : List Str} {sp : Sp} {E : L2.St → XK}
end
end G
end

noncomputable section
/-! M78: slices of tuples (not the whole). -/
namespace G
open PySem PySem.Spec PyProof.Rows L2 PySem.W
section
variable {tx : XC → Addr} {Y : YC} {Γ : List Cell} {te : TE} {α : Type} {d : Dat α}
end
end G
end

noncomputable section
/-! M79: sorted(d) of a dict keyed by tuples whose one key may be the empty tuple. -/
namespace L2
open PySem PySem.Spec PyProof.Rows PySem.W
section
variable {prog : Program} {w : World} {A : Around} {s : Shared}
end
section
variable {X : Cx}
end
end L2
namespace G
open PySem PySem.Spec PyProof.Rows L2 PySem.W
section
variable {tx : XC → Addr} {Y : YC} {Γ : List Cell} {te ta tb tc : TE} {κ α : Type} [DecidableEq κ] {dk : Dat κ} {ky : KeyD κ dk} {d : Dat α}
end
end G
end

/-! M80: y = x, where x is not read any more: y owns what x owned. -/
namespace G
open PySem L2
section
variable {tx : XC → Addr} {Y : YC} {Γ : List Cell} {α τ : Type} {d : Dat α} {rest : TS} {js : List Nat} {K : Kt τ}
end
end G

noncomputable section
/-! M81: row = xs[a]; row[b] = row[c] op e, xs a list of owned lists of ints: the row is not read any more. -/
namespace G
open PySem PySem.Spec PyProof.Rows L2 PySem.W
section
variable {Y : YC} {Γ : List Cell} {k : Ks} {ta tb tb2 te : TE} {ts : TS}
end
section
variable {tx : XC → Addr} {Y : YC} {Γ : List Cell} {ta tb tb2 te : TE} {τ : Type} {rest : TS} {js : List Nat} {K : Kt τ}
end
end G

section
set_option maxHeartbeats 2000000
noncomputable section
/-! M82: set comprehensions of ints with two fors. -/
namespace L2
open PySem PySem.Spec PyProof.Rows
section
variable {prog : Program} {w : World} {A : Around} {R : Result → Shared → Prop} {s : Shared} {elt t0 i0 t1 i1 : Expr} {ifs0 ifs1 : List Expr} {scope : Scope} {pos : Pos} {it acc : Value} {env : Env}
end
section
variable {X : Cx}
end
end L2
namespace G
open PySem PySem.Spec PyProof.Rows L2 PySem.W
section
variable {Y : YC} {Γ : List Cell} {α γ : Type} {d : Dat α} {d1 : Dat γ} {g g1 : TG} {tt tt1 : TT} {te : TE} {ti ti1 : L2.TI} {vs vs1 : List Nat}
end
section
variable {tx : XC → Addr} {Y : YC} {Γ : List Cell} {α γ : Type} {d : Dat α} {d1 : Dat γ} {g g1 : TG} {tt tt1 : TT} {te : TE} {ti ti1 : L2.TI} {vs vs1 : List Nat}
end
end G
end

noncomputable section
/-! M83: sorted(xs), xs a list of tuples of ints, none of them empty or the empty one alone; xs.count(y) of data. -/
namespace G
open PySem PySem.Spec PyProof.Rows L2 PySem.W
section
variable {X : Cx}
end
end G
namespace L2
open PySem PySem.Spec PyProof.Rows PySem.W
section
variable {X : Cx}
end
end L2
namespace G
open PySem PySem.Spec PyProof.Rows L2 PySem.W
section
variable {tx : XC → Addr} {Y : YC} {Γ : List Cell} {ta tb te : TE} {α : Type} {d : Dat α}
/-! xs.count(y) -/
instance dlTup {α : Type} {d : Dat α} [de : @DE α d] [dl : @DL α d de] : @DL (Tup α) dTup deTup := @DL.mk _ _ deTup fun x => by
  show PyData.canLay0 (.tuple (x.l.map de.toD)) = true
  simp [PyData.canLay0, dlAll x.l]
end
end G

noncomputable section
/-! M84: tuples of a word and numbers behind it: ("link", 0), ("beside", 0, 1), .. -/
namespace G
open PySem PySem.Spec PyProof.Rows L2 PySem.W
structure Wt where
  w : Str
  l : List Int
  deriving DecidableEq
instance dWt : Dat Wt := ⟨fun C F v x => ∃ a vs, v = .ref a ∧ TpA C.K F a (.str x.w :: vs) ∧ Reps dInt C F vs x.l, fun s ⟨a, vs, e, h, r⟩ => ⟨a, vs, e, h.mono s, r.mono s⟩⟩
instance imWt : Imm Wt := ⟨fun t ⟨a, vs, e, h, r⟩ => ⟨a, vs, e, h.imp (t a _) id, r.imm t⟩⟩
instance udWt : UD Wt := ⟨fun x => .tuple (.str x.w :: x.l.map .int), fun ⟨a, vs, e, h, r⟩ => ⟨a, _, e, h, rfl, dus_of (u := udInt) r⟩⟩
section
variable {tx : XC → Addr} {Y : YC} {Γ : List Cell} {te ta tb : TE}
/-! displays -/
/-! parts -/
theorem atI_nat {α : Type} {xs : List α} {n : Nat} {y : α} (h : xs[n]? = some y) : atI xs (n : Int) = some y := by
  have hl : n < xs.length := (List.getElem?_eq_some_iff.mp h).1
  unfold atI ixN
  rw [if_pos (by omega), if_pos (by omega)]
  exact h
/-! parts of the tuple -/
/-! numbers put behind -/
end
end G
end

noncomputable section
/-! M85: match over tuples: cases [a, b], .. of names alone, and `case _`. -/
namespace L2
open PySem PySem.Spec PyProof.Rows PySem.W
/-- cases, the subject told -/
abbrev TMc := V → TS
section
variable {X : Cx} {pos : Pos} {te : TE} {t : TMc} {e : Expr} {cs : List MatchCase}
inductive Caps : List Pattern → List Str → Prop
  | nil : Caps [] []
  | cons {n : Str} {p : Pos} {ps : List Pattern} {ns : List Str} (h : Caps ps ns) : Caps (.MatchAs none (some n) p :: ps) (n :: ns)
theorem Caps.len {ps : List Pattern} {ns : List Str} (h : Caps ps ns) : ps.length = ns.length := by
  induction h with
  | nil => rfl
  | cons _ ih => rw [List.length_cons, List.length_cons, ih]
theorem Caps.each {M : Model} {A : Around} {E : Value → Shared → Prop} {s : Shared} {env : Env} {ps : List Pattern} {ns : List Str} (h : Caps ps ns) : ∀ {us : List Value} {Q : Option (List (Str × Value)) → Shared → Prop}, us.length = ns.length → Q (some (ns.zip us)) s → wpAny M A (matchEach ps env us) Q E s := by
  induction h with
  | nil =>
    intro us Q hl hq
    cases us with
    | nil => exact wpAny_matchEach_nil hq
    | cons _ _ => cases hl
  | cons _ ih =>
    intro us Q hl hq
    cases us with
    | nil => cases hl
    | cons u us =>
      refine wpAny_matchEach_cons (wpAny_matchPattern_Capture ?_)
      exact ih (Nat.succ.inj hl) hq
end
end L2
end

noncomputable section
/-! M86: match over a tuple of a word and numbers, read as models. -/
namespace G
open PySem PySem.Spec PyProof.Rows L2 PySem.W
section
variable {tx : XC → Addr} {Y : YC} {Γ : List Cell} {te : TE} {js : List Nat} {τ : Type} {K : Kt τ} {rest tb : TS} {t tr : TMc}
end
end G
namespace L2
open PySem PySem.Spec PyProof.Rows PySem.W
section
variable {X : Cx}
end
end L2
end

noncomputable section
/-! M87: len(d) and dict(d) of dicts keyed by ints. -/
namespace L2
open PySem PySem.Spec PyProof.Rows
end L2
namespace G
open PySem PySem.Spec PyProof.Rows L2 PySem.W
section
variable {tx : XC → Addr} {Y : YC} {Γ : List Cell} {ta te : TE} {α : Type} {d : Dat α}
end
end G
end

noncomputable section
/-! M88: rows.append((word, pool.pop(i))). -/
namespace G
open PySem PySem.Spec PyProof.Rows L2 PySem.W
section
variable {tx : XC → Addr} {Y : YC} {Γ : List Cell} {ta te : TE} {js : List Nat} {rest : TS} {τ : Type} {K : Kt τ}
end
end G
end

noncomputable section
/-! M89: an owned dict keyed by ints is locked for good; in, not in, [], len, dict() and walks over its keys. -/
namespace G
open PySem PySem.Spec PyProof.Rows L2 PySem.W
theorem KReps.getV {β : Type} {d : Dat β} {C : GCtx} {F : Hp} {k : L2.Key} {v : V} : ∀ {ps : List (L2.Key × V)} {xs : List (Int × β)} {i : Nat}, KReps d C F ps xs → ps[i]? = some (k, v) → ∃ x, xs[i]? = some x ∧ k = Sum.inl x.1 ∧ d.rep C F v x.2
  | [], [], i, _, e => by simp at e
  | p :: ps, x :: xs, 0, h, e => ⟨x, rfl, by cases (Option.some.inj e); exact h.1, by cases (Option.some.inj e); exact h.2.1⟩
  | p :: ps, x :: xs, i + 1, h, e => KReps.getV (i := i) h.2.2 e
  | [], _ :: _, _, h, _ => h.elim
  | _ :: _, [], _, h, _ => h.elim
/-- a locked dict -/
@[reducible] def dIL {α : Type} {d : Dat α} : Dat (DI α) := ⟨fun C F v x => ∃ a o ps, v = .ref a ∧ F a = some (.frz o (.dK ps)) ∧ KReps d C F ps x.kv, fun m ⟨a, o, ps, e, h, r⟩ => ⟨a, o, ps, e, m _ _ h, r.mono m⟩⟩
@[reducible] def oIL {α : Type} {d : Dat α} : @OD (DI α) (dIL (d := d)) := @OD.mk (DI α) (dIL (d := d))
  (fun C F v x L => ∃ a o ps, v = .ref a ∧ L = [(a, .frz o (.dK ps))] ∧ KReps d C F ps x.kv)
  (fun m ⟨a, o, ps, e, h, r⟩ => ⟨a, o, ps, e, h, r.mono m⟩)
  (fun ⟨a, o, ps, e, h, r⟩ m k => ⟨a, o, ps, e, k (a, .frz o (.dK ps)) (by rw [h]; exact List.mem_cons_self), r.mono m⟩)
section
variable {tx : XC → Addr} {Y : YC} {Γ : List Cell} {te ta tb tl tk tv : TE} {t : TS} {α τ : Type} {d : Dat α} {js : List Nat} {rest : TS} {K : Kt τ}
/-! reading -/
end
end G
end

noncomputable section
/-! M90: list(d.values()) of a dict keyed by ints. -/
namespace L2
open PySem PySem.Spec PyProof.Rows PySem.W
section
variable {X : Cx} {o : Expr} {p pos apos mpos : Pos} {td : TE}
end
end L2
namespace G
open PySem PySem.Spec PyProof.Rows L2 PySem.W
section
variable {tx : XC → Addr} {Y : YC} {Γ : List Cell} {te : TE} {α : Type} {d : Dat α}
end
end G
end

noncomputable section
/-! M91: a, b = xs.pop(i), xs a list of pairs of owned things. -/
namespace G
open PySem PySem.Spec PyProof.Rows L2 PySem.W
section
variable {tx : XC → Addr} {Y : YC} {Γ : List Cell} {ta : TE} {α β τ : Type} {d1 : Dat α} {d2 : Dat β} {js : List Nat} {rest : TS} {K : Kt τ}
/-! a pair of new owned things -/
end
end G
end

noncomputable section
/-! M92: xs.append((a, b)), a and b own and given away. -/
namespace G
open PySem PySem.Spec PyProof.Rows L2 PySem.W
section
variable {tx : XC → Addr} {Y : YC} {Γ : List Cell} {ta : TE} {α β τ : Type} {d1 : Dat α} {d2 : Dat β} {js : List Nat} {rest : TS} {K : Kt τ}
end
end G
end

noncomputable section
/-! M93: return f(.., xs, ..) and return a and f(.., xs, ..) of a def that changes xs, within a def that changes it. -/
namespace G
open PySem PySem.Spec PyProof.Rows L2 PySem.W
section
variable {tx : XC → Addr} {Y : YC} {Γ : List Cell} {te ta : TE} {tl : TA} {α β : Type} {d : Dat α} {rest : TS} {js : List Nat}
end
end G
end

noncomputable section
/-! M94: list(d) of a dict keyed by ints. -/
namespace L2
open PySem PySem.Spec PyProof.Rows
end L2
namespace G
open PySem PySem.Spec PyProof.Rows L2 PySem.W
section
variable {tx : XC → Addr} {Y : YC} {Γ : List Cell} {ta te : TE} {α : Type} {d : Dat α}
end
end G
end

noncomputable section
/-! M95: xs.append(xs.pop(i)). -/
namespace G
open PySem PySem.Spec PyProof.Rows L2 PySem.W
section
variable {tx : XC → Addr} {Y : YC} {Γ : List Cell} {ta : TE} {α τ : Type} {d : Dat α} {rest : TS} {js : List Nat} {K : Kt τ}
end
/-! dicts are not None -/
instance nnDI {α : Type} {d : Dat α} : @NN (DI α) (dDI (d := d)) := ⟨fun ⟨a, ps, e, _⟩ z => by subst z; cases e⟩
instance nnIL {α : Type} {d : Dat α} : @NN (DI α) (dIL (d := d)) := @NN.mk (DI α) (dIL (d := d)) fun ⟨a, o, ps, e, _⟩ z => by subst z; cases e
end G
end

section
set_option maxHeartbeats 2000000
noncomputable section
/-! M96: set comprehensions of pairs of ints, sorted. -/
namespace L2
open PySem PySem.Spec PyProof.Rows
section
variable {X : Cx}
theorem add_tup {pins : List (Addr × Obj)} {σ : St} {H : Hp} {s : Shared} {E : Value → Shared → Prop} {D b : Addr} {L : List (Addr × List Int)} {k : List Int} {Q : Value → Shared → Prop} (I : Inv X pins σ H s) (hD : H D = some (SetTO X.prog X.w D L))
    (hL : ∀ p ∈ L, SqT X.K H p.1 (p.2.map V.int)) (hb : SqT X.K H b (k.map V.int)) (room : L.length + 1 < 64) (hu : X.A.units + 64 < cLine)
    (h : ∀ s2 L', (k ∈ L.map (·.2) → L' = L) → (k ∉ L.map (·.2) → L'.Perm ((b, k) :: L)) → Inv X pins σ (upd H D (SetTO X.prog X.w D L')) s2 → Q .none s2) : wpAny (model X.prog X.w) X.A (call (.builtin "set.add") [.ref D, .ref b]) Q E s := by
  have R0 : SetT0 X.prog X.w s.heap D L := (I.hok D _ hD).1
  obtain ⟨es, ep, t, R⟩ := R0.full fun p hp => I.isT (hL p hp)
  have hx : IsT X.prog X.w s.heap k b := I.isT hb
  obtain ⟨o, ho, hex, hd⟩ := R.ob
  refine wpAny_call_entry F.slot_set_add ⟨o, ho, hex.1⟩ F.entry_set_add ?_ (F.args_set_add_2 _ _)
  unfold Builtin.«set.add» Builtin.Frozenset.oneOther
  simp only [List.isEmpty_nil, bind_assoc]
  unfold Builtin.Frozenset.addrOf setAdd
  refine wpAny_bind (wpAny_pure ?_)
  try dsimp only
  refine wpAny_bind (wpAny_pure ?_)
  try dsimp only
  refine wpAny_bind ?_
  refine wpAny_holding ?_
  refine wpAny_bind (wpAny_pyHash_tuple (by first | omega | (show X.A.units + 1 < cLine; omega)) hx ?_)
  have R' : SetTR X.prog X.w ({ s with toks := s.toks + (k.length + 1) } : Shared).heap D L es ep t := R
  refine add_at (s := { s with toks := s.toks + (k.length + 1) }) R' hx (by first | omega | (show X.A.units + 1 < cLine; omega)) room fun b' h' L' es' ep' t' hsb hS2 c1 c2 => ?_
  show wpAny _ _ (ret Value.none) _ _ _
  refine wpAny_pure ⟨_, rfl, ?_⟩
  have ex : ∃ u, h'.get? D = some u := by
    obtain ⟨o, ho, _⟩ := hS2.ob
    exact ⟨o, ho⟩
  exact h _ L' c1 c2 (I.write (e := D) (t' := s.toks + (k.length + 1)) (by rw [hD]; trivial) (.inl rfl) (fun b u hb hu => (hsb.2 b hb).trans hu) ex (setTO_new hS2.t0))
theorem sortedT_K (K : PySem.W.Frag) (P : Program) (w : World) (hc : X.calm = true) (hK : X.K = K := by rfl) (hP : X.prog = P := by rfl) (hw : X.w = w := by rfl) : CallR X (.builtin "sorted") (rSortedT K P w) := hK ▸ hP ▸ hw ▸ cr_sortedT hc
end
end L2
namespace G
open PySem PySem.Spec PyProof.Rows L2 PySem.W
/-- a set of pairs, in some order -/
structure PS where
  l : List (Int × Int)
theorem OkQ.mono {C : GCtx} {F F' : Hp} {q : Addr × List Int} (h : OkQ C F q) (s : Same F F') : OkQ C F' q := ⟨h.1, h.2.mono s⟩
instance dPS : Dat PS := ⟨fun C F v s => ∃ a L, v = .ref a ∧ F a = some (SetTO C.P C.w a L) ∧ (∀ q ∈ L, OkQ C F q) ∧ (L.map toP).Perm s.l, fun m ⟨a, L, e, h, o, p⟩ => ⟨a, L, e, m _ _ h, fun q hq => (o q hq).mono m, p⟩⟩
instance oPS : OD PS where
  orep C F v s Ls := ∃ a L, v = .ref a ∧ Ls = [(a, SetTO C.P C.w a L)] ∧ (∀ q ∈ L, OkQ C F q) ∧ (L.map toP).Perm s.l
  omono m := fun ⟨a, L, e, h, o, p⟩ => ⟨a, L, e, h, fun q hq => (o q hq).mono m, p⟩
  view := fun ⟨a, L, e, h, o, p⟩ m k => ⟨a, L, e, k (a, SetTO _ _ a L) (by rw [h]; exact List.mem_cons_self), fun q hq => (o q hq).mono m, p⟩
def padd (s : PS) (x : Int × Int) : PS := if x ∈ s.l then s else ⟨s.l ++ [x]⟩
/-- a new one put in -/
theorem pset_put {C : GCtx} {F : Hp} {L L' : List (Addr × List Int)} {s : PS} {y : Int × Int} {c : Addr} (ho : ∀ q ∈ L, OkQ C F q) (hp : (L.map toP).Perm s.l) (hy : TpA C.K F c [V.int y.1, V.int y.2])
    (c1 : [y.1, y.2] ∈ L.map (·.2) → L' = L) (c2 : [y.1, y.2] ∉ L.map (·.2) → L'.Perm ((c, [y.1, y.2]) :: L)) : (∀ q ∈ L', OkQ C F q) ∧ (L'.map toP).Perm (padd s y).l := by
  have hiff : [y.1, y.2] ∈ L.map (·.2) ↔ y ∈ s.l := by
    rw [← hp.mem_iff, List.mem_map, List.mem_map]
    constructor
    · rintro ⟨q, hq, e⟩
      exact ⟨q, hq, by unfold toP; rw [e]; rfl⟩
    · rintro ⟨q, hq, e⟩
      refine ⟨q, hq, ?_⟩
      have e2 : q.2 = [(toP q).1, (toP q).2] := (ho q hq).1
      rw [e2, e]
  by_cases h : y ∈ s.l
  · rw [c1 (hiff.mpr h)]
    unfold padd
    rw [if_pos h]
    exact ⟨ho, hp⟩
  · have pm := c2 fun z => h (hiff.mp z)
    unfold padd
    rw [if_neg h]
    refine ⟨fun q hq => ?_, ?_⟩
    · rcases List.mem_cons.mp (pm.mem_iff.mp hq) with e | hq
      · rw [e]; exact ⟨rfl, hy⟩
      · exact ho q hq
    · refine (pm.map toP).trans ?_
      rw [List.map_cons]
      exact (hp.cons _).trans (List.perm_append_comm (l₁ := [_]) (l₂ := s.l))
section
variable {tx : XC → Addr} {Y : YC} {Γ : List Cell} {tl te ta : TE} {g : TG} {tt : TT} {vs : List Nat} {α : Type} {d : Dat α}
abbrev dPr : Dat (Int × Int) := dPair (d1 := dInt) (d2 := dInt)
/-- sorted(s) of a set of pairs -/
def M.sortP (s : PS) : M (List (Int × Int)) := M.asrt (∀ p ∈ s.l, BdP p) (.ok (psort s.l))
theorem oe_sortP {m : M PS} (h : We tx Y ta Γ dPS m) : Oe tx Y (tCB (rSortedT Y.K Y.P Y.w) (tCons ta tNil)) Γ (oList (d := dPr)) (m >>= M.sortP) := fun nb xk e F σ H s Q q => h.k nb xk (k := fun xs => m = .ok xs ∧ (M.sortP xs).nb) (fun xs e nb2 _ => ⟨e, nb2⟩) e F σ H s _ fun v F' H' xs ⟨hm, nb2⟩ g ⟨a, L, e1, hs, o, pm⟩ => by
  subst e1
  have hb := M.asrt_nb nb2
  have sec : ∀ q ∈ L, q.2 = [(toP q).1, (toP q).2] := fun q hq => (o q hq).1
  refine ⟨a, L, 2, 64, rfl, g.fh _ _ hs, fun p hp => ?_, by decide, fun p hp => ⟨by rw [sec p hp]; rfl, ?_⟩, fun L' p pm2 nd hl pw hn => ?_⟩
  · rw [sec p hp]
    exact ((o p hp).2.mono g.fh).sq
  · have b := hb (toP p) (pm.mem_iff.mp (List.mem_map.mpr ⟨p, hp, rfl⟩))
    rw [sec p hp]
    intro x hx
    simp at hx
    rcases hx with rfl | rfl
    · exact b.1
    · exact b.2
  · have es : L'.map toP = psort xs.l := by
      refine psort_of hb (fun p hp => ?_) (fun p hp => ?_) ?_ ?_
      · exact pm.mem_iff.mp ((pm2.map toP).mem_iff.mp hp)
      · exact (pm2.map toP).mem_iff.mpr (pm.mem_iff.mpr hp)
      · rw [List.Nodup, List.pairwise_map] at nd ⊢
        refine List.Pairwise.imp_of_mem (fun {x y} hx hy ne z => ne ?_) nd
        rw [sec x (pm2.mem_iff.mp hx), sec y (pm2.mem_iff.mp hy), z]
      · rw [List.pairwise_map]
        refine List.Pairwise.imp_of_mem (fun {x y} hx hy z => ?_) pw
        rw [sec x (pm2.mem_iff.mp hx), sec y (pm2.mem_iff.mp hy), code_pair, code_pair] at z
        exact z
    obtain ⟨h3, h4⟩ := o_new (d := dPr) (L := []) g.base hn (pairs_reps fun q hq => o q (pm2.mem_iff.mp hq))
    refine q _ F' _ _ (L'.map toP) ?_ (by simpa using g.trans h3) h4
    rw [hm]
    show M.sortP xs = _
    unfold M.sortP
    rw [M.asrt_pos hb, es]
end
end G
end
end

section
set_option maxHeartbeats 2000000
noncomputable section
/-! M97: a def that is handed the exception that a suite has caught (FnE: its promise speaks of the exception's place; Fun.okE, pe_callE, we_callE, oe_callE). -/
namespace L2
open PySem PySem.Spec PyProof.Rows
structure FnE (P : Program) (w : World) (K : PySem.W.Frag) (mg : Str → Option Value) (base : Heap) (CX : CXT) (k : Nat) (f : Addr) (fd : FuncData) (ps : List Str) (sp : Addr → Value → Option Addr → Sp) : Prop where
  len : ∀ a cls d vs H Q E, sp a cls d vs H Q E → vs.length = ps.length
  run : ∀ (a : Addr) (oe : Obj) (cls : Value) (d : Option Addr), Zc cls d oe → (∃ vs, oe.data = .fields vs) → ∀ (A : Around) (outer : List Env) (s : Shared) (H : Hp) (args : Args) (us : List Value) (vs : List V) (Q : VK) (E : XK), A.handled = some (.ref a) → L2H.RoomH k A → L2H.PinOk outer H s (a, oe) → Env0 P w K mg base A outer s H → BindsTo s fd args (ps.zip us) → Vals vs us → sp a cls d vs H Q E →
    codeAny (model P w) A (.call (.ref f) args) (CR CX outer P w H s Q E) s
theorem Fun.okE {P : Program} {w : World} {K : PySem.W.Frag} {mg : Str → Option Value} {base : Heap} {name qual : Str} {st : Stmt} {f : Addr} {fd : FuncData} {N ps : List Str} {k : Nat} {sp : Addr → Value → Option Addr → Sp} (F : Fun K name qual st f fd) (S : FnScope N ps (defScope st)) (len : ∀ a cls d vs H Q E, sp a cls d vs H Q E → vs.length = ps.length)
    (hbody : ∀ (a : Addr) (oe : Obj) (cls : Value) (d : Option Addr) (hz : Zc cls d oe) (hf : ∃ vs, oe.data = .fields vs) (cdv : Value) (A : Around) (outer : List Env) (s : Shared) (H : Hp) (vs : List V) (Q : VK) (E : XK), L2H.RoomH k (A.deeper (envOfC qual (defScope st) s.heap.objs.size f cdv)) → sp a cls d vs H Q E →
      ∃ t, PSs ((cxC (L2.CX P w) P w K mg base N qual (defScope st) f cdv A outer s H E).suite a ((a, oe) :: [])) (defBody st) t ∧ t { nx := fun _ H' => Q .non H', rt := Q } (L2.start N vs) H) : FnE P w K mg base (L2.CX P w) (k + 1) f fd ps sp := by
  obtain ⟨oc, od, kV, doc, pm, an, cdv, ct, osl, rfl, lk, hcd⟩ := F.ex
  refine ⟨len, fun a oe cls d hz hf A outer s H args us vs Q E hh hr hpin e0 hb r hsp => ?_⟩
  have hl := len _ _ _ _ _ _ _ hsp
  have KX : K.In s.heap := e0.mod.kin.keeps fun b o e => (e0.bs b o e).1
  have lim : s.heap.NoLimit := e0.mod.nolimit.keeps fun b o e => (e0.bs b o e).1
  have hkind : ∀ y ∈ ps.zip us, (defScope st).names.lookup y.1 = some .local ∨ ((defScope st).names.lookup y.1 = some .cell ∧ ((cellsFrom (s.heap.objs.size + 1) (defScope st).names []).lookup y.1).isSome = true) := fun ⟨n, v⟩ hy => by
    rcases S.par n (List.of_mem_zip hy).1 with q | q
    · exact .inl q
    · exact .inr ⟨q, PySem.W.cellsFrom_some _ _ _ (.inl q)⟩
  refine codeAny_call_function hr.depth (KX _ _ lk) rfl S.co S.gen rfl (PySem.W.codeRec_of KX hcd) (hb _ _ _ _ ?_)
  refine wpAny_newFunctionEnv_cells S.kind hkind fun env he s1 x => ?_
  subst he
  refine ⟨lim.keeps x.toInCall.keep, codeAny_func ?_⟩
  obtain ⟨t, ht, hq⟩ := hbody a oe cls d hz hf cdv A outer s H vs Q E (hr.deeper _) hsp
  have I0 := L2H.inv_startH (CX := L2.CX P w) (qual := qual) (f := f) (cd := cdv) (A := A) (E := E) S hpin e0 hl r x
  have eA : (A.deeper (envOfC qual (defScope st) s.heap.objs.size f cdv)).mark (some (.ref a)) = A.deeper (envOfC qual (defScope st) s.heap.objs.size f cdv) := by
    cases A with
    | mk h dp fr gd un => cases hh; rfl
  have I : Inv ((cxC (L2.CX P w) P w K mg base N qual (defScope st) f cdv A outer s H E).suite a ((a, oe) :: [])) [] (L2.start N vs) H s1 :=
    ⟨⟨I0.ok.mod, I0.ok.kind, I0.ok.glob, I0.ok.blt, I0.ok.above, I0.ok.inj, I0.ok.has, I0.ok.cab, fun z => Bool.noConfusion (show false = true from z), I0.ok.frames, I0.ok.stk, I0.ok.exf, I0.ok.bs, I0.ok.bsz, I0.ok.noex, I0.ok.exfs, I0.ok.funs, I0.ok.frf⟩,
      I0.os, I0.bare, I0.base, I0.loc, I0.cell, I0.free, I0.freeC, I0.pin, I0.hok, I0.len⟩
  have run := ht.run [] s1 (L2.start N vs) H _ I hq
  rw [show ((cxC (L2.CX P w) P w K mg base N qual (defScope st) f cdv A outer s H E).suite a ((a, oe) :: [])).A = A.deeper (envOfC qual (defScope st) s.heap.objs.size f cdv) from eA] at run
  refine wpAny_mono run (fun fl s' hs => ?_) fun e s' hs => absurd (show False from hs) id
  have fin : ∀ {σ' : L2.St} {H' : Hp} {v : V} {u : Value}, Inv ((cxC (L2.CX P w) P w K mg base N qual (defScope st) f cdv A outer s H E).suite a ((a, oe) :: [])) [] σ' H' s' → RelV v u → Q v H' → CE outer P w H s Q u s' :=
    fun {σ' H' v u} J rv q => ⟨v, H', J.os, J.bare, J.base, J.hok, rv, q⟩
  cases fl with
  | ret u =>
    obtain ⟨v, σ', H', J, rv, q⟩ := hs
    exact fin J rv q
  | next =>
    obtain ⟨σ', H', J, q⟩ := hs
    exact fin (v := V.non) (u := Value.none) J rfl q
  | brk =>
    obtain ⟨_, _, _, q⟩ := hs
    exact False.elim q
  | cont =>
    obtain ⟨_, _, _, q⟩ := hs
    exact False.elim q
section
variable {X : Cx} {CXt : CXT} {k : Nat} {f a : Addr} {oe : Obj} {cls : Value} {d : Option Addr} {pn : List (Addr × Obj)} {fd : FuncData} {ps : List Str} {sp : Addr → Value → Option Addr → Sp} {E : L2.St → XK} {x : Str} {q pos : Pos} {e : Expr} {es : List Expr} {t : TA}
theorem run_fnE {pins : List (Addr × Obj)} {σ : L2.St} {H : Hp} {s : Shared} {Q : VK} {us : List Value} {vs : List V} (hz : Zc cls d oe) (hf : ∃ vs, oe.data = .fields vs) (F : FnE X.prog X.w X.K X.mg X.base CXt k f fd ps sp) (hr : L2H.RoomH k (X.suite a ((a, oe) :: pn)).A) (hb : Binds X.K fd ps []) (hx : PassesAt CXt (X.suite a ((a, oe) :: pn)) σ (E σ))
    (I : Inv (X.suite a ((a, oe) :: pn)) pins σ H s) (r : Vals vs us) (h : sp a cls d vs H Q (E σ)) : wpAny (model X.prog X.w) (X.suite a ((a, oe) :: pn)).A (call (.ref f) us) (EP (X.suite a ((a, oe) :: pn)) pins σ Q) (X.suite a ((a, oe) :: pn)).xe s := by
  have hl : us.length = ps.length := by rw [← r.length]; exact F.len _ _ _ _ _ _ _ h
  have b := hb s us I.kIn (by rw [List.append_nil]; exact hl)
  rw [List.append_nil] at b
  have hp := I.pin (a, oe) (List.mem_append_left _ List.mem_cons_self)
  have pin : L2H.PinOk (X.suite a ((a, oe) :: pn)).stack H s (a, oe) := ⟨hp.1, hp.2.1, fun z => (List.mem_cons.mp (I.stkSub _ z)).elim hp.2.2.1 hp.2.2.2.1, hp.2.2.2.2⟩
  refine wpAny_call (codeAny_mono (F.run a oe cls d hz hf (X.suite a ((a, oe) :: pn)).A (X.suite a ((a, oe) :: pn)).stack s H ⟨us, []⟩ us vs Q (E σ) rfl hr pin I.env0 b r h) fun r s' hq => ?_)
  cases r with
  | error e => exact hx pins H s e s' I hq
  | ok fl =>
    cases fl with
    | ret u => exact I.after hq
    | next => exact False.elim hq
    | brk => exact False.elim hq
    | cont => exact False.elim hq
theorem pe_callE (hz : Zc cls d oe) (hf : ∃ vs, oe.data = .fields vs) (F : FnE X.prog X.w X.K X.mg X.base CXt k f fd ps sp) (hr : L2H.RoomH k (X.suite a ((a, oe) :: pn)).A) (hg : Gl (X.suite a ((a, oe) :: pn)) x) (hm : X.mg x = some (.ref f)) (hk : PySem.W.keepIn X.K (.ref f) = true) (hb : Binds X.K fd ps []) (hx : ∀ σ, PassesAt CXt (X.suite a ((a, oe) :: pn)) σ (E σ))
    (ha : PA (X.suite a ((a, oe) :: pn)) (e :: es) t) (hdb : (x == ("__debug__" : Str)) = false := by decide) (he : starEach (e :: es) X.env = (false, eval e X.env) :: starEach es X.env := by rfl) (hpl : (backTo pos (starEach es X.env)).any (·.1) = false := by rfl) :
    PE (X.suite a ((a, oe) :: pn)) (.Call (.Name x q) (e :: es) [] pos) (tCallS (sp a cls d) E t) := by
  refine ⟨fun pins s σ H Q I h => ?_⟩
  refine wpAny_Call_Name_kw (ld_glob I hg hm ?_ hdb)
  refine PySem.W.callWith_K (h₀ := X.base) I.ok.mod.kin hk (thn (ha.run pos pins s σ H _ I h) fun us s1 ⟨vs, H1, I1, r, q⟩ => ⟨I1.kIn, ?_⟩) he hpl
  exact run_fnE hz hf F hr hb (hx σ) I1 r q
end
end L2
namespace G
open PySem PySem.Spec PyProof.Rows L2 PySem.W
section
variable {tx : XC → Addr} {Y : YC} {Γ : List Cell} {β : Type} {d : Dat β}
theorem we_callE {a : Addr} {dd : Option Addr} {px : PX} {i : Nat} {sp : Sp} {E : L2.St → XK} {m : M β} (hi : Γ[i]? = some (.val (dExn a dd) (px.x tx))) (hs : m.nb → SpX Y.g sp [.val (dExn a dd) (px.x tx)] (fun c => ∃ r, c = .val d r ∧ m = .ok r) fun x => ∃ px', m = .exc px' ∧ x = px'.x tx) (hE : E = Y.E) :
    We tx Y (tCallS sp E (tCons (tVar i) tNil)) Γ d m := fun nb xk => w_callX hE (wa_cons (w_var hi (wa_nil fun vs H Q E fx => hs nb vs H Q E (fx.mono (fun c ⟨r, e, q⟩ => ⟨r, e, q⟩) fun x ⟨px, e, q⟩ => q ▸ xk px e))))
theorem oe_callE {od : @OD β d} {a : Addr} {dd : Option Addr} {px : PX} {i : Nat} {sp : Sp} {E : L2.St → XK} {m : M β} (hi : Γ[i]? = some (.val (dExn a dd) (px.x tx))) (hs : m.nb → SpX Y.g sp [.val (dExn a dd) (px.x tx)] (fun c => ∃ r, c = .own d od none r ∧ m = .ok r) fun x => ∃ px', m = .exc px' ∧ x = px'.x tx) (hE : E = Y.E) :
    Oe tx Y (tCallS sp E (tCons (tVar i) tNil)) Γ od m := fun nb xk => o_callX hE (wa_cons (w_var hi (wa_nil fun vs H Q E fx => hs nb vs H Q E (fx.mono (fun c ⟨r, e, q⟩ => ⟨r, e, q⟩) fun x ⟨px, e, q⟩ => q ▸ xk px e))))
end
end G
end
end

section
set_option maxHeartbeats 2000000
noncomputable section
/-! M98: {k: c}, k a name of a tuple, c a constant (pe_dispT, oe_dispT); an expression of an optional type that is not None where it stands (we_unopt). -/
namespace L2
open PySem PySem.Spec PyProof.Rows
/-- {k: v}, k a tuple -/
def tDispT (tk tv : TE) : TE := fun σ H Q => ∀ p, H p = none → tk σ (upd H p (.dT [])) fun x H1 => tv σ H1 fun y H2 => H2 p = some (.dT []) ∧ ∃ b ks, x = .ref b ∧ H2 b = some (.tup (ks.map kV)) ∧ Q (.ref p) (upd H2 p (.dT [(ks, y)]))
section
variable {X : Cx}
theorem wpAny_Dict_pairsF {prog : Program} {w : World} {K : Type} [DecidableEq K] {knd : HeapKind prog w K} {A : Around} {E : Value → Shared → Prop} {s : Shared} {env : Env} {keys : List (Option Expr)} {values : List Expr} {pos : Pos} {pairs : List (Sem Value × Sem Value)} {Q : Value → Shared → Prop} (hu : knd.room A)
    (hshape : (evalEachOpt keys env).zip ((evalEach values env).map fun v => do let x ← v; standAt pos; pure x) = pairs.map fun p => (some p.1, p.2)) (h0 : pairs ≠ []) (hlen : pairs.length ≤ 15)
    (h : wpAny (model prog w) A (evalPairs pairs) (fun vs s₁ => ∃ ps, CarriesH knd s₁.heap vs ps ∧ s₁.heap.DictOfH knd s.heap.objs.size [] ∧
      ∀ h' tk, h'.DictOfH knd s.heap.objs.size (storedAllH [] ps) → Heap.SameBut s.heap.objs.size s₁.heap h' → Q (.ref s.heap.objs.size) { s₁ with heap := h', toks := tk }) E
      { s with heap := s.heap.push { cls := .type "dict", data := .dict #[] } }) :
    wpAny (model prog w) A (eval (.Dict keys values pos) env) Q E s := by
  rw [arm_eval_Dict, hshape, dictDisplay_pairs pairs h0 (by omega)]
  exact wpAny_bind (wpAny_standAt (wpAny_bind (wpAny_subDictH (knd := knd) (Q := fun d s' => wpAny (model prog w) A (pure (Value.ref d)) Q E s') hu hlen
    (wpAny_mono h (fun vs s₁ h₁ => by obtain ⟨ps, hc, hm, hq⟩ := h₁; exact ⟨ps, hc, hm, fun h' tk a b => wpAny_pure (hq h' tk a b)⟩) fun _ _ e => e))))
theorem pe_dispT {k v : Expr} {pos : Pos} {tk tv : TE} (hu : X.A.units + 1 < cLine) (hk : PE X k tk) (hv : PE X v tv) : PE X (.Dict [some k] [v] pos) (tDispT tk tv) := by
  refine ⟨fun pins s σ H Q I q => ?_⟩
  have hn := I.hok.fresh (Nat.le_refl s.heap.objs.size)
  have I1 := I.laid (a := s.heap.objs.size) (o := .dT []) (h' := s.heap.push { cls := .type "dict", data := .dict #[] }) (t' := s.toks) (fun _ _ q => Heap.get?_push_of_some _ q) (Nat.le_refl _) (dt_empty s.heap I.big)
  have hp : PPs X pos [some k] [v] [(tk, tv)] := pps_cons hk hv pps_nil
  have hpl : (pairTrees [some k] [v] X.env pos).length = 1 := pairTrees_length [some k] [v] X.env pos rfl rfl
  refine wpAny_Dict_pairsF (knd := tupleKind (mixKind X.prog X.w)) (show X.A.units < cLine by omega) (zip_pairTrees [some k] [v] X.env pos rfl rfl) (fun z => by rw [z] at hpl; cases hpl) (by rw [hpl]; decide) (thn (hp.run pins _ σ _ (fun ps H2 => match ps with
    | [(x, y)] => H2 s.heap.objs.size = some (.dT []) ∧ ∃ b ks, x = .ref b ∧ H2 b = some (.tup (ks.map kV)) ∧ Q (.ref s.heap.objs.size) (upd H2 s.heap.objs.size (.dT [(ks, y)]))
    | _ => False) I1 (q _ hn)) fun ws s2 ⟨ps, H2, I2, rel, hq⟩ => ?_)
  match ps, hq with
  | [(x, y)], ⟨e, b, ks, ex, eb, q2⟩ =>
    subst ex
    cases rel with
    | @cons p1 p2 l1 l2 h t =>
      cases t
      obtain ⟨u, r⟩ := p2
      obtain ⟨h1, h2⟩ := h
      cases (show u = Value.ref b from h1)
      obtain ⟨z, hd, xs, rk, dd⟩ := dt_of I2.hok e
      cases rk
      refine ⟨[(ks, b, r)], ⟨rfl, rfl, key_of I2.hok eb, trivial⟩, dd, fun h' tk dd' hs => ⟨.ref s.heap.objs.size, _, ?_, rfl, q2⟩⟩
      obtain ⟨q, es, ep, hq, h2', h3, h4, _, h5⟩ := dd'
      have kt : KT H2 [(ks, y)] [(ks, b, r)] := KT.put (kvs := []) (xs := []) .nil ks eb h2
      refine d_write I2 (by rw [e]; exact True.intro) hs ⟨q, hq⟩ ⟨Nat.le_trans (show [(ks, y)].length ≤ 1 from Nat.le_refl 1) (by decide), hd, _, kt.keeps fun c ys ec => ?_, q, es, ep, hq, h2', h3, h4, h5⟩
      rw [upd_ne (ne_of ec e (fun z => nomatch z))]
      exact ec
end
end L2
namespace G
open PySem PySem.Spec PyProof.Rows L2 PySem.W
section
variable {tx : XC → Addr} {Y : YC} {Γ : List Cell} {te : TE} {κ α : Type} [DecidableEq κ] {dk : Dat κ} {ky : KeyD κ dk} {d : Dat α}
/-- {k: c} -/
theorem oe_dispT {i : Nat} {k : κ} {c : V} {y : α} (hi : Γ[i]? = some (.val dk k)) (hc : ∀ C F, d.rep C F c y) : Oe tx Y (tDispT (tVar i) (tC c)) Γ (oDK (ky := ky) (d := d)) (.ok ⟨[(k, y)]⟩) := fun nb xk e F σ H s Q q p hp => by
  obtain ⟨v, e1, r⟩ := s.val hi
  obtain ⟨b, rfl, hb⟩ := ky.rd r
  have hne : b ≠ p := fun z => by
    have := s.fh _ _ hb
    rw [z, hp] at this
    cases this
  refine ⟨.ref b, e1, ?_⟩
  refine ⟨upd_same, b, _, rfl, by rw [upd_ne hne]; exact s.fh _ _ hb, ?_⟩
  rw [upd_upd]
  exact q _ F _ _ _ rfl (s.base.own hp (fun _ z => by cases z)) ⟨p, _, rfl, rfl, rfl, hc _ _, trivial⟩
/-- not None where it stands -/
theorem we_unopt {m : M (Opt α)} [nn : @NN α d] (h : We tx Y te Γ (dOpt (d := d)) m) : We tx Y te Γ d (m >>= M.ofOpt) := fun nb xk e F σ H s Q q => h.k nb xk (k := fun o => m = .ok o ∧ (M.ofOpt o).nb) (fun o e nb2 _ => ⟨e, nb2⟩) e F σ H s _ fun v F' H' o ⟨hm, nb2⟩ g r => by
  cases o with
  | none => exact absurd rfl nb2
  | some x => exact q v F' H' x (by rw [hm]; rfl) g r
end
end G
end
end

noncomputable section
/-! M99: range(a, b) as the inner walk of a comprehension with two fors. -/
namespace G
open PySem PySem.Spec PyProof.Rows L2 PySem.W
section
variable {tx : XC → Addr} {Y : YC} {Γ : List Cell} {ta tb : TE}
end
end G
end

section
set_option maxHeartbeats 2000000
noncomputable section
/-! M100: sets of pairs of ints: set(), in, not in, s.add(p). -/
namespace L2
open PySem PySem.Spec PyProof.Rows
section
variable {P : Program} {w : World} {A : Around} {E : Value → Shared → Prop} {s : Shared} {a : Addr} {L : List (Addr × List Int)} {es : Array (Int × Value)} {ep : Nat} {t : SetTable}
/-- the c-th place of a key's way -/
abbrev wayP (t : SetTable) (h : Int) (c : Nat) : SetTable.Probe := nth t.mask (runAt t.mask (SetTable.bits h % (t.mask + 1)) (SetTable.bits h)) c
theorem wayP_dummy (t : SetTable) (h : Int) (c : Nat) : (wayP t h c).dummy = none := by
  have key : ∀ (n : Nat) (p : SetTable.Probe), p.dummy = none → (nth t.mask p n).dummy = none := by
    intro n
    induction n with
    | zero => intro p h; exact h
    | succ n ih =>
      intro p h
      refine ih (adv t.mask p) ?_
      unfold adv
      split <;> exact h
  exact key c _ rfl
theorem wayP_add (t : SetTable) (h : Int) (c q : Nat) : nth t.mask (wayP t h c) q = wayP t h (c + q) := (nth_add t.mask c _ q).symm
/-- the walk of a search that only asks -/
theorem find_walk (R : SetTR P w s.heap a L es ep t) {x : Addr} {k : List Int} (hx : IsT P w s.heap k x) (hu : A.units < cLine) {K : Nat} (hKf : K < 10 * SetTable.turns t.mask)
    (hK : way t.mask (thash P w k) K ∉ t.place.toList) (hKb : ∀ c, c < K → way t.mask (thash P w k) c ∈ t.place.toList) {Q : SetFound → Shared → Prop}
    (hin : ∀ i, k ∈ L.map (·.2) → Q (.there (some i)) s) (hout : k ∉ L.map (·.2) → Q (.free (way t.mask (thash P w k) K) false) s) :
    ∀ (f c : Nat) (stand : Option SetTable.Probe), stand.getD (t.probeStart (thash P w k)) = wayP t (thash P w k) c → c ≤ K → K - c < f →
      (∀ (i : Nat) p, L[i]? = some p → p.2 = k → ∃ c', c ≤ c' ∧ c' < K ∧ t.place.toList[i]? = some (way t.mask (thash P w k) c')) →
      wpAny (model P w) A (setSearchFrom a (.ref x) (thash P w k) false f stand) Q E s := by
  intro f
  induction f with
  | zero => intro c stand _ _ hf _; exact absurd hf (Nat.not_lt_zero _)
  | succ f ih =>
    intro c stand hst hc hf hre
    obtain ⟨o, ho, hex, hd⟩ := R.ob
    have ej : ∀ q, (nth t.mask (wayP t (thash P w k) c) q).j = way t.mask (thash P w k) (c + q) := fun q => congrArg SetTable.Probe.j (wayP_add t _ c q)
    have hashAt : ∀ (i : Nat) p, L[i]? = some p → (fun i => (es[i]?.map (·.1)).getD 0) i = thash P w p.2 := fun i p hp => by
      show (es[i]?.map (·.1)).getD 0 = _
      rw [R.entry hp] <;> rfl
    have spec := go_spec t R.tab.ris R.tab.dm (fun i => (es[i]?.map (·.1)).getD 0) (thash P w k) (10 * SetTable.turns t.mask) (K - c) _ (wayP_dummy t (thash P w k) c) (by omega)
      (fun q hq => by rw [ej]; exact hKb (c + q) (by omega)) (by rw [ej, show c + (K - c) = K by omega]; exact hK)
    rw [setSearchFrom_succ]
    refine wpAny_bind (wpAny_setState_of ho hd R.fits ?_)
    dsimp only
    refine wp_if_neg R.gw ?_
    try refine wpAny_bind (wpAny_pure ?_)
    rcases spec with ⟨q, i, hq, hi, hh, hno, hpr⟩ | ⟨hno, hpr⟩
    · have hpr' : t.probe (fun i => (es[i]?.map (·.1)).getD 0) (thash P w k) (stand.getD (t.probeStart (thash P w k))) = some (.candidate (way t.mask (thash P w k) (c + q)) i (wayP t (thash P w k) (c + (q + 1)))) := by
        rw [hst, ← ej, ← wayP_add]
        exact hpr
      rw [hpr']
      dsimp only
      rw [ej] at hi
      have hil : i < L.length := by
        have h1 : i < t.place.toList.length := (List.getElem?_eq_some_iff.mp hi).1
        have h2 := R.tab.sz
        rw [List.length_map] at h2
        rw [Array.length_toList] at h1
        omega
      have hp : L[i]? = some L[i] := List.getElem?_eq_getElem hil
      generalize L[i] = p at hp
      have hmem : p ∈ L := List.mem_of_getElem? hp
      have hsl : t.slot (way t.mask (thash P w k) (c + q)) = .live i := slot_live R.tab.ris hi
      have rest : wpAny (model P w) A (searchRest a (.ref x) (thash P w k) false f es t (way t.mask (thash P w k) (c + q)) i (wayP t (thash P w k) (c + (q + 1)))) Q E s := by
        unfold searchRest
        rw [R.entry hp]
        dsimp only
        refine wpAny_bind (wpAny_holding (wpAny_eqBool_tuple hu (R.tup p hmem) hx ?_))
        refine wpAny_bind (wpAny_setState_of ho hd R.fits ?_)
        dsimp only
        refine wp_if_neg (by simp) ?_
        try refine wpAny_bind (wpAny_pure ?_)
        rw [sameMem]
        dsimp only
        simp only [if_true, hsl, R.entry hp]
        refine wpAny_bind (wpAny_isSame_ref_self (wpAny_bind (wpAny_pure ?_)))
        simp only [if_true]
        by_cases hkk : p.2 = k
        · refine wp_if_pos (by simp [hkk]) ?_
          exact wpAny_pure (hin i (List.mem_map.mpr ⟨p, hmem, hkk⟩))
        · refine wp_if_neg (by simp [hkk]) ?_
          refine ih (c + (q + 1)) _ rfl (by omega) (by omega) fun i0 p0 h0 hk0 => ?_
          obtain ⟨c', a1, a2, a3⟩ := hre i0 p0 h0 hk0
          refine ⟨c', ?_, a2, a3⟩
          rcases Nat.lt_trichotomy c' (c + q) with z | z | z
          · exact absurd ((hashAt i0 p0 h0).trans (congrArg (thash P w) hk0)) (hno (c' - c) i0 (by omega) (by rw [ej, show c + (c' - c) = c' by omega]; exact a3))
          · rw [z] at a3
            have s0 := slot_live R.tab.ris a3
            rw [hsl] at s0
            injection s0 with s0
            rw [← s0, hp] at h0
            exact absurd ((congrArg Prod.snd (Option.some.inj h0)).trans hk0) hkk
          · omega
      by_cases hl : t.led = true
      · refine wp_if_neg (by simp [hl]) ?_
        try refine wpAny_bind (wpAny_pure ?_)
        exact rest
      · refine wp_if_pos (by simp [hl]) ?_
        refine wpAny_bind (seen_tup hx (fun y hy => ?_) ?_)
        · obtain ⟨e, he, ee⟩ := List.mem_map.mp hy
          have he1 : e ∈ es ∧ e.1 = thash P w k := by simpa using he
          have he2 : e ∈ es.toList := by simpa using he1.1
          rw [R.rows] at he2
          obtain ⟨p2, hp2, e2⟩ := List.mem_map.mp he2
          exact ⟨p2.2, p2.1, by rw [← ee, ← e2], R.tup p2 hp2⟩
        · refine wp_if_neg (by decide) ?_
          try refine wpAny_bind (wpAny_pure ?_)
          exact rest
    · have hpr' : t.probe (fun i => (es[i]?.map (·.1)).getD 0) (thash P w k) (stand.getD (t.probeStart (thash P w k))) = some (.empty (way t.mask (thash P w k) K) none) := by
        have e2 : way t.mask (thash P w k) K = (nth t.mask (wayP t (thash P w k) c) (K - c)).j := by
          rw [ej, show c + (K - c) = K by omega]
        rw [hst, e2]
        exact hpr
      rw [hpr']
      dsimp only
      refine wpAny_pure (hout fun hm => ?_)
      obtain ⟨p0, h0, hk0⟩ := List.mem_map.mp hm
      obtain ⟨i0, hi0, e0⟩ := List.getElem_of_mem h0
      have h00 : L[i0]? = some p0 := by rw [List.getElem?_eq_getElem hi0, e0]
      obtain ⟨c', a1, a2, a3⟩ := hre i0 p0 h00 hk0
      exact absurd ((hashAt i0 p0 h00).trans (congrArg (thash P w) hk0)) (hno (c' - c) i0 (by omega) (by rw [ej, show c + (c' - c) = c' by omega]; exact a3))
/-- is the key there -/
theorem find_tup (R : SetTR P w s.heap a L es ep t) {x : Addr} {k : List Int} (hx : IsT P w s.heap k x) (hu : A.units < cLine) {Q : Option Nat → Shared → Prop} (h : ∀ r : Option Nat, r.isSome = decide (k ∈ L.map (·.2)) → Q r s) :
    wpAny (model P w) A (setFind a (.ref x) (thash P w k)) Q E s := by
  have hroom := R.room
  obtain ⟨K, hKf, hK, hKb⟩ := R.tab.first (by rw [List.length_map]; omega) (thash P w k)
  have hbig : K < 100000 := by
    have : 10 * SetTable.turns t.mask ≤ 1420 := by
      unfold SetTable.turns
      rcases R.tab.mok with e | e | e <;> omega
    omega
  obtain ⟨o, ho, hex, hd⟩ := R.ob
  unfold setFind
  show wpAny _ _ (do
    let (es, _, _) ← setState a
    if byScan (.ref x) es then
      rule "set.find.by-scan"
      match ← setScan a (.ref x) (thash P w k) false es with
      | .found i => return some i
      | .absent => return none
      | .anew => return ← setFindIn a (.ref x) (thash P w k) 99999
    match ← setSearch a (.ref x) (thash P w k) with
    | .there i => return i
    | .free .. => return none) _ _ _
  refine wpAny_bind (wpAny_setState_of ho hd R.fits ?_)
  dsimp only
  refine wp_if_neg (by rw [show byScan (.ref x) es = false from rfl]; decide) ?_
  try refine wpAny_bind (wpAny_pure ?_)
  refine wpAny_bind ?_
  unfold setSearch
  refine find_walk R hx hu hKf hK hKb (fun i hi => ?_) (fun hn => ?_) 100000 0 none rfl (Nat.zero_le _) (by omega) fun i p hp hk => ?_
  · exact wpAny_pure (h _ (by rw [decide_eq_true hi]; rfl))
  · exact wpAny_pure (h _ (by rw [decide_eq_false hn]; rfl))
  · have hi : (L.map fun p => thash P w p.2)[i]? = some (thash P w k) := by rw [List.getElem?_map, hp, ← hk] <;> rfl
    have hil : i < t.place.toList.length := by
      have h1 : i < L.length := (List.getElem?_eq_some_iff.mp hp).1
      have h2 := R.tab.sz
      rw [List.length_map] at h2
      rw [Array.length_toList]
      omega
    have hj := List.getElem?_eq_getElem hil
    obtain ⟨c, hc, e⟩ := R.tab.before hK hi hj
    exact ⟨c, Nat.zero_le _, hc, by rw [hj, e]⟩
theorem SetTR.typeIs (R : SetTR P w s.heap a L es ep t) : s.TypeIs (.ref a) "set" := let ⟨o, ho, hc, _⟩ := R.ob; ⟨o, ho, hc.1⟩
theorem has_tup (R : SetTR P w s.heap a L es ep t) {x : Addr} {k : List Int} (hx : IsT P w s.heap k x) (hu : A.units + 1 < cLine) {Q : Bool → Shared → Prop} (h : ∀ tk, Q (decide (k ∈ L.map (·.2))) { s with toks := tk }) :
    wpAny (model P w) A (contains (.ref a) (.ref x)) Q E s := by
  unfold contains
  try with_reducible refine wpAny_holding ?_
  refine wpAny_bind (wpAny_specialOf R.typeIs F.slot_set_contains.lookup ?_)
  show wpAny _ _ (if (some (Value.builtin "set.__contains__") == some Value.none) = true then _ else _) _ E s
  rw [if_neg (by rw [beq_builtin_none]; exact Bool.false_ne_true)]
  refine wpAny_bind (wpAny_callSpecialUnlessNone?_slot (name := Str.ofString "__contains__") R.typeIs F.slot_set_contains
    (wpAny_call_entry F.slot_set_contains R.typeIs entry_set_contains ?_ (F.args_set_contains_2 _ _)))
  unfold Builtin.«frozenset.__contains__» Builtin.Frozenset.oneOther
  simp only [List.isEmpty_nil, bind_assoc]
  unfold Builtin.Frozenset.addrOf Builtin.Frozenset.withSetAsKey setContains
  refine wpAny_bind (wpAny_pure ?_)
  try dsimp only
  refine wpAny_bind (wpAny_pure ?_)
  try dsimp only
  refine wpAny_bind (wpAny_tryCatch ?_)
  refine wpAny_holding ?_
  refine wpAny_bind (wpAny_pyHash_tuple (by first | omega | (show A.units + 1 < cLine; omega)) hx ?_)
  have R' : SetTR P w ({ s with toks := s.toks + (k.length + 1) } : Shared).heap a L es ep t := R
  refine wpAny_bind (find_tup R' hx (by first | omega | (show A.units + 1 < cLine; omega)) fun r hr => ?_)
  refine wpAny_pure ?_
  show wpAny _ _ (ret (Value.bool r.isSome)) _ _ _
  rw [hr]
  exact wpAny_pure ⟨_, rfl, wpAny_truthy_bool (h _)⟩
end
end L2
namespace L2
open PySem PySem.Spec PyProof.Rows
section
variable {X : Cx}
theorem setTO_at {pins : List (Addr × Obj)} {σ : St} {H : Hp} {s : Shared} {D : Addr} {L : List (Addr × List Int)} (I : Inv X pins σ H s) (hD : H D = some (SetTO X.prog X.w D L)) (hL : ∀ p ∈ L, SqT X.K H p.1 (p.2.map V.int)) : ∃ es ep t, SetTR X.prog X.w s.heap D L es ep t :=
  (show SetT0 X.prog X.w s.heap D L from (I.hok D _ hD).1).full fun p hp => I.isT (hL p hp)
def rTNotIn (K : PySem.W.Frag) (P : Program) (w : World) : V → V → Hp → VK → Prop := fun x y H Q => ∃ (b : Addr) (k : List Int) (D : Addr) (L : List (Addr × List Int)), x = V.ref b ∧ y = V.ref D ∧ H D = some (SetTO P w D L) ∧ (∀ p ∈ L, SqT K H p.1 (p.2.map V.int)) ∧ SqT K H b (k.map V.int) ∧ Q (.bl (!decide (k ∈ L.map (·.2)))) H
theorem or_tnotin (hu : X.A.units + 64 < cLine) : OpR X (compareOp .NotIn) (rTNotIn X.K X.prog X.w) := by
  intro pins s σ H x y v u Q I rx ry h
  obtain ⟨b, k, D, L, rfl, rfl, hD, hL, hb, q⟩ := h
  cases rx
  cases ry
  obtain ⟨es, ep, t, R⟩ := setTO_at I hD hL
  show wpAny _ _ (do return Value.bool (!(← contains (.ref D) (.ref b)))) _ _ s
  exact wpAny_bind (has_tup R (I.isT hb) (by omega) fun tk => wpAny_pure ⟨.bl _, H, I.tok _, rfl, q⟩)
/-- set() -/
def rSetT0 (P : Program) (w : World) : List V → Hp → VK → Prop := fun xs H Q => xs = [] ∧ ∀ p, H p = none → Q (.ref p) (upd H p (SetTO P w p []))
theorem cr_setT0 : CallR X (.type "set") (rSetT0 X.prog X.w) := by
  intro pins s σ H xs us Q I r h
  obtain ⟨rfl, q⟩ := h
  cases r
  refine setR_new fun _ => ?_
  exact ⟨.ref _, upd H s.heap.objs.size (SetTO X.prog X.w s.heap.objs.size []), I.laid (t' := s.toks) (fun b u e => Heap.get?_push_of_some _ e) (Nat.le_refl _) (setTO_new (setTR_fresh (Heap.get?_push_size _ rfl)).t0), rfl, q _ (I.hok.fresh (Nat.le_refl _))⟩
/-- s.add(k) -/
def rTAdd (K : PySem.W.Frag) (P : Program) (w : World) : V → List V → Hp → VK → Prop := fun x xs H Q => ∃ (D b : Addr) (k : List Int) (L : List (Addr × List Int)), x = V.ref D ∧ xs = [V.ref b] ∧ H D = some (SetTO P w D L) ∧ (∀ p ∈ L, SqT K H p.1 (p.2.map V.int)) ∧ SqT K H b (k.map V.int) ∧ L.length + 1 < 64 ∧
  ∀ L', (k ∈ L.map (·.2) → L' = L) → (k ∉ L.map (·.2) → L'.Perm ((b, k) :: L)) → Q .non (upd H D (SetTO P w D L'))
def tTAdd (K : PySem.W.Frag) (P : Program) (w : World) (to : TE) (t : TA) : TE := fun σ H Q => to σ H fun x H1 => (∃ D L, x = V.ref D ∧ H1 D = some (SetTO P w D L)) ∧ t σ H1 fun xs H2 => rTAdd K P w x xs H2 Q
variable {o e : Expr} {es : List Expr} {to : TE} {t : TA} {apos cpos : Pos}
theorem pe_tadd (hu : X.A.units + 64 < cLine) (ho : PE X o to) (ha : PA X (e :: es) t)
    (hbase : attributeBase o "add" X.env (eval o X.env) = eval o X.env)
    (hfew : ((backTo cpos (starEach (e :: es) X.env)).all (fun x => !x.1) && (backToKw cpos (keywordEach [] X.env)).all (fun x => x.1.isSome)
      && decide ((e :: es).length + ([] : List Keyword).length + (if ([] : List Keyword).isEmpty then 0 else 1) < 30)) = true)
    (hline : (apos.endLine == cpos.line) = true) (hs : starEach (e :: es) X.env = (false, eval e X.env) :: starEach es X.env) (hplain : (backTo cpos (starEach es X.env)).any (·.1) = false) :
    PE X (.Call (.Attribute o "add" apos) (e :: es) [] cpos) (tTAdd X.K X.prog X.w to t) := by
  refine ⟨fun pins s σ H Q I h => ?_⟩
  refine wpAny_Call_method_late hbase hfew hline rfl (thn (ho.run pins s σ H _ I h) fun v s1 ⟨x, H1, I1, r1, ty, q1⟩ => ?_)
  obtain ⟨D, L0, rfl, hka⟩ := ty
  cases r1
  have hob : ∃ ob, s1.heap.get? D = some ob ∧ ob.ExactSet := by
    have R : SetT0 X.prog X.w s1.heap D L0 := (I1.hok D _ hka).1
    obtain ⟨es, ep, t, hob, _⟩ := R.ex
    obtain ⟨o, ho, hc, _⟩ := hob
    exact ⟨o, ho, hc⟩
  obtain ⟨ob, hob1, hob2⟩ := hob
  refine ⟨"set", "set.add", F.plainAttrs_set, F.slot_set_add, F.type_set_add, ⟨ob, hob1, hob2.1⟩, fun b e => by injection e with e; subst e; exact ⟨ob, hob1, hob2.2.1⟩, ?_⟩
  have hA := ha.run cpos pins s1 σ H1 _ I1 q1
  rw [hs] at hA ⊢
  refine Calls.callWith_builtin (by show (false || (backTo cpos (starEach es X.env)).any (·.1)) = false; rw [hplain] <;> rfl) (Calls.evalArgs_plain ?_)
  refine thn hA fun us s2 ⟨vs, H2, I2, r2, q2⟩ => ?_
  obtain ⟨D', b, k, L, ex, rfl, hD, hL, hb, room, q3⟩ := q2
  cases ex
  cases r2 with
  | cons ry rt =>
    cases rt
    cases ry
    exact add_tup I2 hD hL hb room hu fun s3 L' c1 c2 I3 => ⟨.non, _, I3, rfl, q3 L' c1 c2⟩
theorem tadd_K (K : PySem.W.Frag) (P : Program) (w : World) (hu : X.A.units + 64 < cLine) (ho : PE X o to) (ha : PA X (e :: es) t)
    (hbase : attributeBase o "add" X.env (eval o X.env) = eval o X.env := by rfl)
    (hfew : ((backTo cpos (starEach (e :: es) X.env)).all (fun x => !x.1) && (backToKw cpos (keywordEach [] X.env)).all (fun x => x.1.isSome)
      && decide ((e :: es).length + ([] : List Keyword).length + (if ([] : List Keyword).isEmpty then 0 else 1) < 30)) = true := by rfl)
    (hline : (apos.endLine == cpos.line) = true := by rfl) (hs : starEach (e :: es) X.env = (false, eval e X.env) :: starEach es X.env := by rfl) (hplain : (backTo cpos (starEach es X.env)).any (·.1) = false := by rfl)
    (hK : X.K = K := by rfl) (hP : X.prog = P := by rfl) (hw : X.w = w := by rfl) :
    PE X (.Call (.Attribute o "add" apos) (e :: es) [] cpos) (tTAdd K P w to t) := hK ▸ hP ▸ hw ▸ pe_tadd hu ho ha hbase hfew hline hs hplain
theorem tnotin_K (K : PySem.W.Frag) (P : Program) (w : World) (hu : X.A.units + 64 < cLine) (hK : X.K = K := by rfl) (hP : X.prog = P := by rfl) (hw : X.w = w := by rfl) : OpR X (compareOp .NotIn) (rTNotIn K P w) := hK ▸ hP ▸ hw ▸ or_tnotin hu
theorem setT0_K (P : Program) (w : World) (hP : X.prog = P := by rfl) (hw : X.w = w := by rfl) : CallR X (.type "set") (rSetT0 P w) := hP ▸ hw ▸ cr_setT0
end
end L2
namespace G
open PySem PySem.Spec PyProof.Rows L2 PySem.W
section
variable {tx : XC → Addr} {Y : YC} {Γ : List Cell} {te ta tb : TE} {τ : Type} {js : List Nat} {rest : TS} {K : Kt τ} {k : Ks}
theorem oe_setT0 : Oe tx Y (tCB (rSetT0 Y.P Y.w) tNil) Γ oPS (.ok ⟨[]⟩) := fun _ _ e F σ H s Q q => ⟨rfl, fun p hp =>
  q _ F _ _ _ rfl (s.base.own hp (fun _ z => by cases z)) ⟨p, [], rfl, rfl, fun _ z => (nomatch z), .nil⟩⟩
theorem ps_has {C : GCtx} {F : Hp} {L : List (Addr × List Int)} {s : PS} {y : Int × Int} (ho : ∀ q ∈ L, OkQ C F q) (hp : (L.map toP).Perm s.l) : decide ([y.1, y.2] ∈ L.map (·.2)) = memB y s.l := by
  have hiff : [y.1, y.2] ∈ L.map (·.2) ↔ y ∈ s.l := by
    rw [← hp.mem_iff, List.mem_map, List.mem_map]
    constructor
    · rintro ⟨q, hq, e⟩
      exact ⟨q, hq, by unfold toP; rw [e]; rfl⟩
    · rintro ⟨q, hq, e⟩
      refine ⟨q, hq, ?_⟩
      have e2 : q.2 = [(toP q).1, (toP q).2] := (ho q hq).1
      rw [e2, e]
  unfold memB
  by_cases h : y ∈ s.l
  · rw [decide_eq_true (hiff.mpr h)]; simp [h]
  · rw [decide_eq_false fun z => h (hiff.mp z)]; simp [h]
theorem w_notinPS {kb : Bool → Prop} (h : R Y ta Γ dPr fun x => R Y tb Γ dPS fun s => kb (!memB x s.l)) : W Y (tOp (rTNotIn Y.K Y.P Y.w) ta tb) Γ dBool kb := fun e F σ H s Q q => h e F σ H s _ fun v1 F1 H1 x h1 g1 r1 => h1 e F1 σ H1 (s.grow g1) _ fun v2 F2 H2 s2 ky g2 ⟨a, L, e2, ha, ho, hp⟩ => by
  obtain ⟨c, w1, w2, e1, htp, r1, r2⟩ := r1
  subst e1 e2
  cases (show w1 = .int x.1 from r1)
  cases (show w2 = .int x.2 from r2)
  refine ⟨c, [x.1, x.2], a, L, rfl, rfl, ha, fun p hp => ?_, (htp.mono g2.hh0).sq, q _ F2 H2 _ ky (g1.trans0 g2) ?_⟩
  · rw [(ho p hp).1]; exact (ho p hp).2.sq
  · rw [ps_has ho hp]; rfl
theorem we_notinPS {m : M (Int × Int)} {n : M PS} (h : Re tx Y ta Γ dPr m) (h2 : Re tx Y tb Γ dPS n) : We tx Y (tOp (rTNotIn Y.K Y.P Y.w) ta tb) Γ dBool (m >>= fun x => n >>= fun s => .ok (!memB x s.l)) := we_p2 (f := fun (x : Int × Int) (s : PS) => !memB x s.l) (fun k h => w_notinPS h) h h2
theorem z_taddP {i : Nat} {pin : Option V} {x : PS} (hi : Γ[i]? = some (.own dPS oPS pin x)) (h : W Y te Γ dPr fun y => x.l.length + 1 < 64 ∧ k.nx (Γ.set i (.own dPS oPS pin (padd x y)))) : Z Y (tDrop (tTAdd Y.K Y.P Y.w (tVar i) (tCons te tNil))) Γ k := fun e F σ H D hM s c => by
  obtain ⟨v0, _, _, e1, ⟨a0, L0, rfl, rfl, _⟩, kw0, _⟩ := s.mut hi
  have ha0 : H a0 = some (SetTO Y.P Y.w a0 L0) := (kw0.ow (a0, SetTO Y.P Y.w a0 L0) (by simp)).2.1
  refine ⟨.ref a0, e1, ⟨a0, L0, rfl, ha0⟩, h e F σ H s _ fun w F' H' y ⟨hl, ky⟩ g rw' => ?_⟩
  obtain ⟨b, w1, w2, ew, htp, r1, r2⟩ := rw'
  subst ew
  cases (show w1 = .int y.1 from r1)
  cases (show w2 = .int y.2 from r2)
  obtain ⟨v, Li, rest, e2, ⟨a, L, rfl, rfl, o1, o2⟩, kw, f⟩ := (s.grow g).mut hi
  rw [e1] at e2
  cases (Option.some.inj e2)
  have ha : H' a0 = some (SetTO Y.P Y.w a0 L) := (kw.ow (a0, SetTO Y.P Y.w a0 L) (by simp)).2.1
  have ll : L.length = x.l.length := by rw [← o2.length_eq, List.length_map]
  refine ⟨a0, b, [y.1, y.2], L, rfl, rfl, ha, fun p hp => ?_, (htp.mono kw.fh).sq, by omega, fun L' c1 c2 => ?_⟩
  · rw [(o1 p hp).1]; exact ((o1 p hp).2.mono kw.fh).sq
  · obtain ⟨p1, p2⟩ := pset_put o1 o2 htp c1 c2
    exact c.nx F' σ _ _ ky (f F' _ [(a0, _)] (padd x y) (Same.refl F') (kw.put (fun _ z => by cases z)) ⟨a0, L', rfl, rfl, p1, p2⟩)
def M.paddM (s : PS) (m : M (Int × Int)) : M PS := m >>= fun y => M.asrt (s.l.length + 1 < 64) (.ok (padd s y))
theorem zm_taddP {i : Nat} {pin : Option V} {x : PS} {m1 : M (Int × Int)} {m2 : PS → M τ} (hi : Γ[i]? = some (.own dPS oPS pin x)) (hj : i ∈ js) (h : We tx Y te Γ dPr m1) (h2 : ∀ y, Zm tx Y js rest (Γ.set i (.own dPS oPS pin y)) K (m2 y)) :
    Zm tx Y js (tSeq (tDrop (tTAdd Y.K Y.P Y.w (tVar i) (tCons te tNil))) rest) Γ K (M.paddM x m1 >>= m2) := fun nb xk =>
  z_seq (z_taddP hi (h.k (M.nb1 nb) xk.l.here fun y e nb2 _ => ⟨M.asrt_nb nb2, (h2 (padd x y)).go nb xk (by unfold M.paddM; rw [e]; exact M.asrt_pos (M.asrt_nb nb2)) (wipeC_set hj)⟩))
end
end G
end
end

noncomputable section
/-! M101: an owned list or None as owned data. -/
namespace G
open PySem PySem.Spec PyProof.Rows L2 PySem.W
section
variable {tx : XC → Addr} {Y : YC} {Γ : List Cell} {te : TE} {α : Type} {d : Dat α}
theorem o_OLU [u : @UD α d] [n : @UI α d u] {k : PyData → Prop} (h : O Y te Γ (oOpt (oList (d := d))) fun o => k (optU (fun xs : List α => PyData.list (xs.map u.toU)) o)) : O Y te Γ oU k := fun e F σ H s Q q => h e F σ H s Q fun v F' H' L o kx g r => by
  cases o with
  | none =>
    obtain ⟨rfl, rfl⟩ := r
    exact q _ F' H' [] _ kx g (OUr.noL .none .non rfl rfl)
  | some xs =>
    obtain ⟨a, vs, e1, e2, r⟩ := r
    exact q v F' H' L _ kx g ⟨a, vs, [], e1, e2, OUrs.of_reps r⟩
theorem oe_OLU [u : @UD α d] [n : @UI α d u] {m : M (Opt (List α))} (h : Oe tx Y te Γ (oOpt (oList (d := d))) m) : Oe tx Y te Γ oU (m >>= fun o => .ok (optU (fun xs : List α => PyData.list (xs.map u.toU)) o)) := fun nb xk => o_OLU (fun e F σ H s Q q => by
  cases em : m with
  | ok xs =>
    refine h (by rw [em]; exact fun z => nomatch z) (by rw [em]; exact XkM.ok) e F σ H s Q fun v F' H' L ys ky g r => q v F' H' L ys ?_ g r
    rw [em] at ky
    cases ky
    rw [em]; rfl
  | exc x =>
    refine h (by rw [em]; exact fun z => nomatch z) (by rw [em] at xk ⊢; exact fun px e2 => xk px (by cases e2; rfl)) e F σ H s Q fun v F' H' L ys ky g r => ?_
    rw [em] at ky
    cases ky
  | bad => rw [em] at nb; exact absurd rfl nb)
end
end G
end

/-! GM: groups of a graph, in plain Lean. -/
namespace G
def Adj (pts : List Int) (ties : List (Int × Int)) (a b : Int) : Prop := a ∈ pts ∧ b ∈ pts ∧ ((a, b) ∈ ties ∨ (b, a) ∈ ties)
theorem Adj.symm {pts : List Int} {ties : List (Int × Int)} {a b : Int} (h : Adj pts ties a b) : Adj pts ties b a := ⟨h.2.1, h.1, h.2.2.symm⟩
inductive Reach (pts : List Int) (ties : List (Int × Int)) : Int → Int → Prop where
  | refl (x : Int) : Reach pts ties x x
  | tail {x y z : Int} (h : Reach pts ties x y) (a : Adj pts ties y z) : Reach pts ties x z
section
variable {pts : List Int} {ties : List (Int × Int)}
theorem Reach.trans {x y z : Int} (h : Reach pts ties x y) (g : Reach pts ties y z) : Reach pts ties x z := by
  induction g with
  | refl => exact h
  | tail _ a ih => exact .tail ih a
theorem Reach.symm {x y : Int} (h : Reach pts ties x y) : Reach pts ties y x := by
  induction h with
  | refl => exact .refl _
  | tail _ a ih => exact (Reach.tail (.refl _) a.symm).trans ih
theorem Reach.mem {x y : Int} (h : Reach pts ties x y) (hx : x ∈ pts) : y ∈ pts := by
  cases h with
  | refl => exact hx
  | tail _ a => exact a.2.1
noncomputable instance decReach {pts : List Int} {ties : List (Int × Int)} {x y : Int} : Decidable (Reach pts ties x y) := Classical.propDecidable _
def IsMin (pts : List Int) (ties : List (Int × Int)) (p : Int) : Prop := ∀ q ∈ pts, Reach pts ties p q → p ≤ q
noncomputable instance decMin {pts : List Int} {ties : List (Int × Int)} {x : Int} : Decidable (IsMin pts ties x) := Classical.propDecidable _
/-! near -/
/-! the search -/
/-- what holds while the group of p is searched: s0 is what was seen ahead of it -/
structure Dfs (pts : List Int) (ties : List (Int × Int)) (s0 : List Int) (p : Int) (seen group waiting : List Int) : Prop where
  nd : (group ++ waiting).Nodup
  sn : seen.Nodup
  mem : ∀ x, x ∈ seen ↔ x ∈ s0 ∨ x ∈ group ++ waiting
  re : ∀ x ∈ group ++ waiting, Reach pts ties p x ∧ x ∈ pts
  clo : ∀ x ∈ group, ∀ z, Adj pts ties x z → z ∈ seen
  st : p ∈ group ++ waiting
  /-- what is seen is of the points -/
  sub : ∀ x ∈ seen, x ∈ pts
theorem len_le {α : Type} [DecidableEq α] : ∀ {xs pts : List α}, xs.Nodup → (∀ x ∈ xs, x ∈ pts) → xs.length ≤ pts.length
  | [], _, _, _ => Nat.zero_le _
  | x :: xs, pts, h, hs => by
    have hx := hs x List.mem_cons_self
    have h1 := List.nodup_cons.mp h
    have ih := len_le (xs := xs) (pts := pts.erase x) h1.2 fun y hy => (List.mem_erase_of_ne (fun z => h1.1 (by rw [← z]; exact hy))).mpr (hs y (List.mem_cons_of_mem _ hy))
    have hl := List.length_erase_of_mem hx
    have hp := List.length_pos_of_mem hx
    simp only [List.length_cons]
    omega
/-- one neighbour more -/
theorem Dfs.push {s0 seen group waiting : List Int} {p m z : Int} (h : Dfs pts ties s0 p seen group waiting) (hm : m ∈ group) (a : Adj pts ties m z) (hz : z ∉ seen) :
    Dfs pts ties s0 p (seen ++ [z]) group (waiting ++ [z]) := by
  have h1 : z ∉ s0 := fun q => hz ((h.mem z).mpr (.inl q))
  have h2 : z ∉ group ++ waiting := fun q => hz ((h.mem z).mpr (.inr q))
  have hr := h.re m (List.mem_append_left _ hm)
  refine ⟨?_, ?_, fun x => ?_, fun x hx => ?_, fun x hx y ay => ?_, ?_, fun x hx => ?_⟩
  · rw [← List.append_assoc]
    refine List.nodup_append.mpr ⟨h.nd, by simp, fun x hx y hy e => ?_⟩
    rw [List.mem_singleton] at hy
    subst e hy
    exact h2 hx
  · refine List.nodup_append.mpr ⟨h.sn, by simp, fun x hx y hy e => ?_⟩
    rw [List.mem_singleton] at hy
    subst e hy
    exact hz hx
  · rw [← List.append_assoc, List.mem_append, List.mem_append, h.mem x, or_assoc]
  · rw [← List.append_assoc, List.mem_append, List.mem_singleton] at hx
    rcases hx with hx | rfl
    · exact h.re x hx
    · exact ⟨.tail hr.1 a, a.2.1⟩
  · exact List.mem_append_left _ (h.clo x hx y ay)
  · rw [← List.append_assoc]; exact List.mem_append_left _ h.st
  · rcases List.mem_append.mp hx with hx | hx
    · exact h.sub x hx
    · rw [List.mem_singleton] at hx; subst hx; exact a.2.1
/-- .. in the midst of the neighbours of m, which the group holds: done are those that were looked at -/
structure Dfs2 (pts : List Int) (ties : List (Int × Int)) (s0 : List Int) (p : Int) (seen group waiting : List Int) (m : Int) (done : List Int) : Prop where
  nd : (group ++ waiting).Nodup
  sn : seen.Nodup
  mem : ∀ x, x ∈ seen ↔ x ∈ s0 ∨ x ∈ group ++ waiting
  re : ∀ x ∈ group ++ waiting, Reach pts ties p x ∧ x ∈ pts
  clo : ∀ x ∈ group, x ≠ m → ∀ z, Adj pts ties x z → z ∈ seen
  st : p ∈ group ++ waiting
  sub : ∀ x ∈ seen, x ∈ pts
  hm : m ∈ group
  dn : ∀ z ∈ done, z ∈ seen
theorem Dfs.take {s0 seen group ws : List Int} {p m : Int} (h : Dfs pts ties s0 p seen group (ws ++ [m])) : Dfs2 pts ties s0 p seen (group ++ [m]) ws m [] := by
  have hp : ((group ++ [m]) ++ ws).Perm (group ++ (ws ++ [m])) := by
    rw [List.append_assoc]
    exact List.Perm.append_left _ List.perm_append_comm
  refine ⟨hp.nodup_iff.mpr h.nd, h.sn, fun x => by rw [h.mem x, hp.mem_iff], fun x hx => h.re x (hp.mem_iff.mp hx), fun x hx hne z a => ?_, hp.mem_iff.mpr h.st, h.sub, by simp, fun z hz => (nomatch hz)⟩
  rcases List.mem_append.mp hx with hx | hx
  · exact h.clo x hx z a
  · exact absurd (List.mem_singleton.mp hx) hne
theorem Dfs2.push {s0 seen group waiting dn : List Int} {p m z : Int} (h : Dfs2 pts ties s0 p seen group waiting m dn) (a : Adj pts ties m z) (hz : z ∉ seen) : Dfs2 pts ties s0 p (seen ++ [z]) group (waiting ++ [z]) m (dn ++ [z]) := by
  have h2 : z ∉ group ++ waiting := fun q => hz ((h.mem z).mpr (.inr q))
  refine ⟨?_, nodup_snoc h.sn hz, fun x => ?_, fun x hx => ?_, fun x hx hne y ay => List.mem_append_left _ (h.clo x hx hne y ay), ?_, fun x hx => ?_, h.hm, fun x hx => ?_⟩
  · rw [← List.append_assoc]; exact nodup_snoc h.nd h2
  · rw [← List.append_assoc, List.mem_append, List.mem_append, h.mem x, or_assoc]
  · rw [← List.append_assoc, List.mem_append, List.mem_singleton] at hx
    rcases hx with hx | rfl
    · exact h.re x hx
    · exact ⟨.tail (h.re m (List.mem_append_left _ h.hm)).1 a, a.2.1⟩
  · rw [← List.append_assoc]; exact List.mem_append_left _ h.st
  · rcases List.mem_append.mp hx with hx | hx
    · exact h.sub x hx
    · rw [List.mem_singleton] at hx; subst hx; exact a.2.1
  · rcases List.mem_append.mp hx with hx | hx
    · exact List.mem_append_left _ (h.dn x hx)
    · exact List.mem_append_right _ hx
theorem Dfs2.skip {s0 seen group waiting dn : List Int} {p m z : Int} (h : Dfs2 pts ties s0 p seen group waiting m dn) (hz : z ∈ seen) : Dfs2 pts ties s0 p seen group waiting m (dn ++ [z]) :=
  ⟨h.nd, h.sn, h.mem, h.re, h.clo, h.st, h.sub, h.hm, fun x hx => by
    rcases List.mem_append.mp hx with hx | hx
    · exact h.dn x hx
    · rw [List.mem_singleton] at hx; subst hx; exact hz⟩
theorem Dfs2.back {s0 seen group waiting dn : List Int} {p m : Int} (h : Dfs2 pts ties s0 p seen group waiting m dn) (hd : ∀ z, Adj pts ties m z → z ∈ dn) : Dfs pts ties s0 p seen group waiting :=
  ⟨h.nd, h.sn, h.mem, h.re, fun x hx z a => by
    by_cases e : x = m
    · subst e; exact h.dn z (hd z a)
    · exact h.clo x hx e z a, h.st, h.sub⟩
/-- the search is over -/
theorem Dfs.done {s0 seen group : List Int} {p : Int} (h : Dfs pts ties s0 p seen group []) (h0 : ∀ x y, x ∈ s0 → Reach pts ties x y → y ∈ s0) (hp : p ∉ s0) (x : Int) : x ∈ group ↔ x ∈ pts ∧ Reach pts ties p x := by
  have hg : ∀ y, y ∈ group ++ [] ↔ y ∈ group := fun y => by simp
  constructor
  · intro hx
    have := h.re x ((hg x).mpr hx)
    exact ⟨this.2, this.1⟩
  · rintro ⟨hx, hr⟩
    clear hx
    induction hr with
    | refl => exact (hg p).mp h.st
    | @tail y z hy a ih =>
      have := (h.mem z).mp (h.clo y ih z a)
      rcases this with q | q
      · exact absurd (h0 z p q (Reach.tail hy a).symm) hp
      · exact (hg z).mp q
/-- what has been seen behind the points xs -/
structure Seen (pts : List Int) (ties : List (Int × Int)) (xs seen : List Int) : Prop where
  nd : seen.Nodup
  mem : ∀ x, x ∈ seen ↔ x ∈ pts ∧ ∃ q ∈ xs, Reach pts ties q x
theorem Seen.clo {xs seen : List Int} (h : Seen pts ties xs seen) (x y : Int) (hx : x ∈ seen) (hr : Reach pts ties x y) : y ∈ seen := by
  obtain ⟨h1, q, hq, h2⟩ := (h.mem x).mp hx
  exact (h.mem y).mpr ⟨hr.mem h1, q, hq, h2.trans hr⟩
theorem Seen.start {xs seen : List Int} {p : Int} (h : Seen pts ties xs seen) (hp : p ∈ pts) (hn : p ∉ seen) : Dfs pts ties seen p (seen ++ [p]) [] [p] := by
  refine ⟨by simp, ?_, fun x => by simp, fun x hx => ?_, fun x hx => (nomatch hx), by simp, fun x hx => ?_⟩
  · refine List.nodup_append.mpr ⟨h.nd, by simp, fun x hx y hy e => ?_⟩
    rw [List.mem_singleton] at hy
    subst e hy
    exact hn hx
  · have e : x = p := by simpa using hx
    subst e
    exact ⟨.refl _, hp⟩
  · rcases List.mem_append.mp hx with hx | hx
    · exact ((h.mem x).mp hx).1
    · rw [List.mem_singleton] at hx; subst hx; exact hp
theorem Seen.next {xs seen seen' group : List Int} {p : Int} (h : Seen pts ties xs seen) (hn : p ∉ seen) (hd : Dfs pts ties seen p seen' group []) : Seen pts ties (xs ++ [p]) seen' := by
  refine ⟨hd.sn, fun x => ?_⟩
  have q := hd.done (fun a b => h.clo a b) hn x
  rw [hd.mem x, List.append_nil, q, h.mem x]
  constructor
  · rintro (⟨h1, y, hy, h2⟩ | ⟨h1, h2⟩)
    · exact ⟨h1, y, List.mem_append_left _ hy, h2⟩
    · exact ⟨h1, p, by simp, h2⟩
  · rintro ⟨h1, y, hy, h2⟩
    rcases List.mem_append.mp hy with hy | hy
    · exact .inl ⟨h1, y, hy, h2⟩
    · rw [List.mem_singleton] at hy; subst hy; exact .inr ⟨h1, h2⟩
theorem Seen.skip {xs seen : List Int} {p : Int} (h : Seen pts ties xs seen) (hp : p ∈ seen) : Seen pts ties (xs ++ [p]) seen := by
  refine ⟨h.nd, fun x => ?_⟩
  rw [h.mem x]
  constructor
  · rintro ⟨h1, y, hy, h2⟩
    exact ⟨h1, y, List.mem_append_left _ hy, h2⟩
  · rintro ⟨h1, y, hy, h2⟩
    rcases List.mem_append.mp hy with hy | hy
    · exact ⟨h1, y, hy, h2⟩
    · rw [List.mem_singleton] at hy
      subst hy
      obtain ⟨_, q, hq, h3⟩ := (h.mem y).mp hp
      exact ⟨h1, q, hq, h3.trans h2⟩
/-! groups hang together -/
/-- each point is in one group, the group of one lowest point -/
theorem exists_min (hn : pts.Nodup) {x : Int} (hx : x ∈ pts) : ∃ p ∈ pts, IsMin pts ties p ∧ Reach pts ties p x := by
  have key : ∀ (n : Nat) (y : Int), y ∈ pts → Reach pts ties y x → (pts.filter fun z => decide (z < y)).length ≤ n → ∃ p ∈ pts, IsMin pts ties p ∧ Reach pts ties p x := by
    intro n
    induction n with
    | zero =>
      intro y hy hr hl
      refine ⟨y, hy, fun q hq hrq => ?_, hr⟩
      by_cases hlt : q < y
      · have : q ∈ pts.filter fun z => decide (z < y) := List.mem_filter.mpr ⟨hq, by simpa using hlt⟩
        have := List.length_pos_of_mem this
        omega
      · omega
    | succ n ih =>
      intro y hy hr hl
      by_cases hm : IsMin pts ties y
      · exact ⟨y, hy, hm, hr⟩
      · have : ∃ q ∈ pts, Reach pts ties y q ∧ q < y := by
          apply Classical.byContradiction
          intro z
          refine hm fun q hq hrq => ?_
          by_cases hlt : q < y
          · exact absurd ⟨q, hq, hrq, hlt⟩ z
          · omega
        obtain ⟨q, hq, hrq, hlt⟩ := this
        refine ih q hq (hrq.symm.trans hr) ?_
        have h1 : (pts.filter fun z => decide (z < q)).length < (pts.filter fun z => decide (z < y)).length := by
          have hsub : ∀ z ∈ q :: pts.filter (fun z => decide (z < q)), z ∈ pts.filter fun z => decide (z < y) := by
            intro z hz
            rcases List.mem_cons.mp hz with e | hz
            · subst e; exact List.mem_filter.mpr ⟨hq, by simpa using hlt⟩
            · obtain ⟨h1, h2⟩ := List.mem_filter.mp hz
              have h3 : z < q := by simpa using h2
              exact List.mem_filter.mpr ⟨h1, by simp; omega⟩
          have hnd : (q :: pts.filter (fun z => decide (z < q))).Nodup := List.nodup_cons.mpr ⟨fun z => by simpa using (List.mem_filter.mp z).2, List.Sublist.nodup List.filter_sublist hn⟩
          have := len_le hnd hsub
          simp only [List.length_cons] at this
          omega
        omega
  exact key _ x hx (.refl _) (Nat.le_refl _)
end
end G

/-! GN: groups by labels, in plain Lean. -/
namespace G
section
variable {pts : List Int} {ties : List (Int × Int)}
def Cor (pts : List Int) (ts : List (Int × Int)) (kv : List (Int × Int)) (x : Int) : Prop := ∃ y, kv.lookup x = some y ∧ IsMin pts ts y
noncomputable instance decCor {pts : List Int} {ts : List (Int × Int)} {kv : List (Int × Int)} {x : Int} : Decidable (Cor pts ts kv x) := Classical.propDecidable _
end
end G

/-! PM: models of the helpers that the laws share, and of the program (printed by gen3.py). -/
namespace PM
open PySem L2 G
/-- _law_cell -/
noncomputable def l_cell_m (script : (Sq Int)) (k : Int) : M Int :=
  if (decide (k < (script.l.length : Int))) then
  (M.ix script.l k)
else
  (M.ok (0 : Int))
/-- _law_draws -/
noncomputable def l_draws_m (cell_here : Int) (many : Int) : M (List Int) :=
  (M.ok (if cell_here < 0 then -cell_here else cell_here)) >>= fun rest_1 =>
  (M.ok (decide ((1000000000000000000 : Int) ≤ rest_1))) >>= fun exact_2 =>
  (M.ok ((rest_1 % (2147483629 : Int)) + (17 : Int))) >>= fun mixed_3 =>
  (M.ok ([] : (List Int))) >>= fun draws_here_4 =>
  (M.range many) >>= fun l12 =>
  M.fold (fun (s5 : (Int × Int × (List Int))) x6 =>
    (M.ok ((((s5.2.1 * (48271 : Int)) + ((9973 : Int) * x6)) + (11 : Int)) % (2147483647 : Int))) >>= fun mixed_7 =>
      if (exact_2 && (decide ((0 : Int) < s5.1))) then
      M.push s5.2.2 (M.ok (s5.1 % (60 : Int))) >>= fun draws_here_8 =>
        (M.ok (s5.1 / (60 : Int))) >>= fun rest_9 =>
        M.ok (rest_9, mixed_7, draws_here_8)
    else
      M.push s5.2.2 (M.ok ((mixed_7 / (13 : Int)) % (60 : Int))) >>= fun draws_here_10 =>
        M.ok (s5.1, mixed_7, draws_here_10)) (rest_1, mixed_3, draws_here_4) l12 >>= fun (s11 : (Int × Int × (List Int))) =>
  M.ok s11.2.2
/-- _law_pick -/
noncomputable def l_pick_m (draws_here : (List Int)) (k : Int) (many : Int) : M Int :=
  if ((decide (many < (2 : Int))) || (decide ((draws_here.length : Int) = (0 : Int)))) then
  (M.ok (0 : Int))
else
  (((M.asrt (0 < (draws_here.length : Int)) (.ok (k % (draws_here.length : Int)))) >>= fun t1 => (M.ix draws_here t1)) >>= fun t2 => (M.asrt (0 < many) (.ok (t2 % many))))
/-- _law_web -/
noncomputable def l_web_m (draws_here : (List Int)) (most_places : Int) (most_ties : Int) : M ((List Int) × (List (T4 Int Int Int Int))) :=
  (M.ok [(2 : Int), (2 : Int), (3 : Int), (2 : Int), (1 : Int), (4 : Int)]) >>= fun menu_1 =>
  (l_pick_m draws_here (0 : Int) (most_places + (1 : Int))) >>= fun many_2 =>
  ((M.range many_2) >>= M.comp (fun _ => (M.ok true)) (fun x3 => ((l_pick_m draws_here ((2 : Int) + x3) (6 : Int)) >>= fun t4 => (M.ix menu_1 t4)))) >>= fun sides_5 =>
  (M.ok ([] : (List (T4 Int Int Int Int)))) >>= fun ties_6 =>
  ((l_pick_m draws_here (1 : Int) (most_ties + (1 : Int))) >>= fun t8 => (M.range t8)) >>= fun l19 =>
  M.fold (fun (s7 : (List (T4 Int Int Int Int))) x9 =>
    if (decide ((0 : Int) < many_2)) then
      (M.ok (((2 : Int) + many_2) + ((4 : Int) * x9))) >>= fun at__10 =>
        (l_pick_m draws_here at__10 many_2) >>= fun one_11 =>
        (l_pick_m draws_here (at__10 + (2 : Int)) many_2) >>= fun other_12 =>
        ((M.ix sides_5 one_11) >>= fun t13 => (l_pick_m draws_here (at__10 + (1 : Int)) t13)) >>= fun side_14 =>
        M.push s7 (((M.ix sides_5 other_12) >>= fun t15 => (l_pick_m draws_here (at__10 + (3 : Int)) t15)) >>= fun t16 => (M.ok ⟨one_11, side_14, other_12, t16⟩)) >>= fun ties_17 =>
        M.ok ties_17
    else
      M.ok s7) ties_6 l19 >>= fun (s18 : (List (T4 Int Int Int Int))) =>
  (M.ok (sides_5, s18))
/-- check_end -/
noncomputable def p_check_end_m (sides : (List Int)) (place : Int) (side : Int) : M Unit :=
  if ((decide (place < (0 : Int))) || (decide ((sides.length : Int) ≤ place))) then
  M.raise1 .UnknownPlace "place" (M.ok place)
else
  (if (decide (side < (0 : Int))) then .ok true else ((M.ix sides place) >>= fun t1 => (M.ok (decide (t1 ≤ side))))) >>= fun b2 => if b2 then
    M.raise2 .UnknownSide "place" "side" (M.ok place) (M.ok side)
  else
    M.ok ()
/-- Web.__init__ -/
noncomputable def m_WebX_initX_m (sides : (List Int)) (ties : (List (T4 Int Int Int Int))) : M WebM :=
  if (decide ((200 : Int) < (sides.length : Int))) then
  M.raise1 .TooLarge "limit" (M.ok (200 : Int))
else
  if (decide ((300 : Int) < (ties.length : Int))) then
    M.raise1 .TooLarge "limit" (M.ok (300 : Int))
  else
    (M.ok (M.enumL sides)) >>= fun l12 =>
      M.fold (fun (_ : Unit) x2 =>
        if ((decide (x2.2 < (1 : Int))) || (decide ((4 : Int) < x2.2))) then
          M.raise1 .BadSides "place" (M.ok x2.1)
        else
          M.ok ()) () l12 >>= fun (_ : Unit) =>
      (M.ok ties) >>= fun l11 =>
      M.fold (fun (_ : Unit) x5 =>
        (p_check_end_m sides x5.a x5.b) >>= fun _ =>
          (p_check_end_m sides x5.c x5.d) >>= fun _ =>
          M.ok ()) () l11 >>= fun (_ : Unit) =>
      (M.ok ⟨sides⟩) >>= fun f_7 =>
      ((M.comp (fun _ => (M.ok true)) (fun x8 => (M.ok ⟨x8.a, x8.b, x8.c, x8.d⟩)) ties) >>= fun t9 => (M.ok ⟨t9⟩)) >>= fun f_10 =>
      M.ok ⟨f_7, f_10⟩
/-- Web.back -/
noncomputable def m_Web_back_m (step : (Int × Int)) : M (Int × Int) :=
  (M.ok (step.1, ((1 : Int) - step.2)))
/-- Web.tail -/
noncomputable def m_Web_tail_m (self : WebM) (step : (Int × Int)) : M (Int × Int) :=
  (M.ok step) >>= fun t1 =>
  if ((decide (t1.1 < (0 : Int))) || (decide ((self.b.l.length : Int) ≤ t1.1))) then
  M.raise1 .UnknownTie "tie" (M.ok t1.1)
else
  (M.ix self.b.l t1.1) >>= fun t2 =>
    if (decide (t1.2 = (0 : Int))) then
    (M.ok (t2.a, t2.b))
  else
    (M.ok (t2.c, t2.d))
/-- Web.head -/
noncomputable def m_Web_head_m (self : WebM) (step : (Int × Int)) : M (Int × Int) :=
  ((m_Web_back_m step) >>= fun t1 => (m_Web_tail_m self t1))
/-- Web.__contains__ -/
noncomputable def m_WebX_containsX_m (self : WebM) (place : Int) : M Bool :=
  (M.ok ((decide ((0 : Int) ≤ place)) && (decide (place < (self.a.l.length : Int)))))
/-- Web.steps_from -/
noncomputable def m_Web_steps_from_m (self : WebM) (place : Int) : M (List (Int × Int)) :=
  (M.calm (m_WebX_containsX_m self place) >>= fun b1 => .ok (!b1)) >>= fun b10 => if b10 then
  M.raise1 .UnknownPlace "place" (M.ok place)
else
  (M.ok ([] : (List (Int × Int)))) >>= fun found_2 =>
    (M.ok (M.enumL self.b.l)) >>= fun l9 =>
    M.fold (fun (s3 : (List (Int × Int))) x4 =>
      (if (decide (x4.2.a = place)) then
        M.push s3 (M.ok (x4.1, (0 : Int))) >>= fun found_5 =>
          M.ok found_5
      else
        M.ok s3) >>= (fun s6 : (List (Int × Int)) =>
        if (decide (x4.2.c = place)) then
        M.push s6 (M.ok (x4.1, (1 : Int))) >>= fun found_7 =>
          M.ok found_7
      else
        M.ok s6)) found_2 l9 >>= fun (s8 : (List (Int × Int))) =>
    M.ok s8
/-- followers -/
noncomputable def p_followers_m (web : WebM) (step : (Int × Int)) : M (List (Int × Int)) :=
  (m_Web_head_m web step) >>= fun t1 =>
  ((m_Web_steps_from_m web t1.1) >>= M.comp (fun x2 => (((m_Web_tail_m web x2) >>= fun t3 => (M.ok t3.2)) >>= fun t4 => (M.ok (!decide (t4 = t1.2))))) (fun x2 => (M.ok x2)))
/-- _law_is_number -/
noncomputable def l_is_number_m (told : Int) : M Bool :=
  (M.ok (true && (!false)))
/-- _law_same -/
noncomputable def l_same_step (rec_ : PyData → PyData → M Bool) (told : PyData) (due_here : PyData) : M Bool :=
  if (isNoneU due_here) then
  (M.ok (isNoneU told))
else
  if (isU "bool" due_here) then
    (if (isU "bool" told) then (M.asrt (told.depth ≤ 64 ∧ due_here.depth ≤ 64) (.ok (PyData.eqv told due_here))) else .ok false)
  else
    if (isU "int" due_here) then
      (if (isU "int" told) then (if (!(isU "bool" told)) then (M.asrt (told.depth ≤ 64 ∧ due_here.depth ≤ 64) (.ok (PyData.eqv told due_here))) else .ok false) else .ok false)
    else
      if (isU "str" due_here) then
        (if (isU "str" told) then (M.asrt (told.depth ≤ 64 ∧ due_here.depth ≤ 64) (.ok (PyData.eqv told due_here))) else .ok false)
      else
        if ((isU "list" due_here) && (!(isU "list" told))) then
          (M.ok false)
        else
          if ((isU "tuple" due_here) && (!(isU "tuple" told))) then
            (M.ok false)
          else
            (((M.ofO (itemsU told) >>= fun ds => M.ok (⟨ds⟩ : Sq PyData)) >>= fun t1 => (M.ok (t1.l.length : Int))) >>= fun t3 => (((M.ofO (itemsU due_here) >>= fun ds => M.ok (⟨ds⟩ : Sq PyData)) >>= fun t2 => (M.ok (t2.l.length : Int))) >>= fun t4 => (M.ok (!decide (t3 = t4))))) >>= fun b18 => if b18 then
              (M.ok false)
            else
              (((M.ofO (itemsU due_here) >>= fun ds => M.ok (⟨ds⟩ : Sq PyData)) >>= fun t6 => (M.ok (t6.l.length : Int))) >>= fun t7 => (M.range t7)) >>= fun l17 =>
                M.foldC (fun (_ : Unit) x8 =>
                  ((((M.ofO (itemsU told) >>= fun ds => M.ok (⟨ds⟩ : Sq PyData)) >>= fun t9 => (M.ix t9.l x8)) >>= fun t11 => (((M.ofO (itemsU due_here) >>= fun ds => M.ok (⟨ds⟩ : Sq PyData)) >>= fun t10 => (M.ix t10.l x8)) >>= fun t12 => (rec_ t11 t12))) >>= fun t13 => (M.ok (!t13))) >>= fun b14 => if b14 then
                    (M.ok false) >>= fun r => .ok (.rt r)
                  else
                    M.ok (.nx ())) () l17 >>= fun c16 => Ct.go c16 M.ok fun (_ : Unit) =>
                (M.ok true)
noncomputable def l_same_m : Nat → PyData → PyData → M Bool
  | 0 => fun _ _ => .bad
  | fl + 1 => l_same_step (l_same_m fl)
/-- reversed_steps -/
noncomputable def p_reversed_steps_m (steps : (List (Int × Int))) : M (List (Int × Int)) :=
  (M.comp (fun _ => (M.ok true)) (fun x1 => (m_Web_back_m x1)) steps.reverse)
/-- normal_cycle -/
noncomputable def p_normal_cycle_m (steps : (List (Int × Int))) : M (List (Int × Int)) :=
  ((M.comp (fun _ => (M.ok true)) (fun x1 => (M.ok x1.1)) steps) >>= fun t2 => (M.minM t2)) >>= fun low_3 =>
  (M.ok steps) >>= fun walked_4 =>
  (if (!memB (low_3, (0 : Int)) walked_4) then
  (p_reversed_steps_m walked_4) >>= fun walked_5 =>
    M.ok walked_5
else
  M.ok walked_4) >>= (fun s6 : (List (Int × Int)) =>
  (M.idx s6 (low_3, (0 : Int))) >>= fun first_7 =>
  (M.cat (cutL s6 (some first_7) none) (cutL s6 none (some first_7))))
end PM

/-! PB: plain lemmas over the monad. -/
namespace G
open PySem L2
namespace M
variable {α β γ σ ρ : Type}
theorem fold_ok {f : σ → α → M σ} {xs : List α} {s0 : σ} (P : Nat → σ → Prop) (h0 : P 0 s0) (hs : ∀ i x s, xs[i]? = some x → P i s → ∃ s', f s x = .ok s' ∧ P (i + 1) s') : ∃ s, fold f s0 xs = .ok s ∧ P xs.length s := by
  have key : ∀ n, n ≤ xs.length → ∃ s, fold f s0 (xs.take n) = .ok s ∧ P n s := by
    intro n
    induction n with
    | zero => intro _; exact ⟨s0, rfl, h0⟩
    | succ n ih =>
      intro hn
      obtain ⟨s, e, p⟩ := ih (by omega)
      have hx : xs[n]? = some xs[n] := by simp [show n < xs.length by omega]
      obtain ⟨s', e', p'⟩ := hs n xs[n] s hx p
      refine ⟨s', ?_, p'⟩
      rw [List.take_add_one, hx]
      show fold f s0 (xs.take n ++ [xs[n]]) = _
      rw [fold_snoc, e]
      exact e'
  have := key xs.length (Nat.le_refl _)
  rwa [List.take_length] at this
/-- the state behind i turns is told -/
theorem fold_eq {f : σ → α → M σ} {xs : List α} (s0 : σ) (g : Nat → σ) (h0 : g 0 = s0) (hs : ∀ i x, xs[i]? = some x → f (g i) x = .ok (g (i + 1))) : fold f s0 xs = .ok (g xs.length) := by
  obtain ⟨s, e, p⟩ := fold_ok (f := f) (xs := xs) (s0 := s0) (fun i s => s = g i) h0.symm fun i x s hx e => ⟨g (i + 1), by rw [e]; exact hs i x hx, rfl⟩
  rw [e, p]
/-- turns that keep the state -/
theorem fold_unit {f : Unit → α → M Unit} {xs : List α} (h : ∀ x ∈ xs, f () x = .ok ()) : fold f () xs = .ok () :=
  fold_eq () (fun _ => ()) rfl fun i x hx => h x (List.mem_of_getElem? hx)
theorem range_ok {n : Int} (h0 : 0 ≤ n) (h1 : n ≤ 100000) : range n = .ok (rngL 0 n.toNat) := asrt_pos ⟨by omega, Int.le_trans h1 (by decide)⟩
theorem rangeN {n : Nat} (h1 : n ≤ 100000) : range (n : Int) = .ok (rngL 0 n) := by rw [range_ok (by omega) (by omega)]; simp
theorem push_small {xs : List α} {y : α} (h : xs.length ≤ 100000) : push xs (.ok y) = .ok (xs ++ [y]) := push_ok (small1k h)
theorem ix_at {xs : List α} {i : Int} {x : α} (h0 : 0 ≤ i) (h : xs[i.toNat]? = some x) : ix xs i = .ok x := by unfold ix; rw [atI_of h0 h]; rfl
theorem ix_some {xs : List α} {i : Int} (h0 : 0 ≤ i) (h1 : i < xs.length) : ∃ x, xs[i.toNat]? = some x ∧ ix xs i = .ok x := by
  have hlt : i.toNat < xs.length := by omega
  exact ⟨xs[i.toNat], by simp [hlt], ix_at h0 (by simp [hlt])⟩
theorem ix_getD {xs : List α} {i : Int} (d : α) (h0 : 0 ≤ i) (h1 : i < xs.length) : ix xs i = .ok (xs.getD i.toNat d) := by
  obtain ⟨x, hx, e⟩ := ix_some h0 h1
  rw [e, List.getD_eq_getElem?_getD, hx]; rfl
theorem comp_filter {p : α → M Bool} (p' : α → Bool) {xs : List α} (h1 : ∀ x ∈ xs, p x = .ok (p' x)) : comp p (fun x => .ok x) xs = .ok (xs.filter p') := by
  rw [comp_of p' (fun x => x) xs h1 fun _ _ _ => rfl, List.map_id']
theorem comp_mapM {f : α → M β} (f' : α → β) {xs : List α} (h : ∀ x ∈ xs, f x = .ok (f' x)) : comp (fun _ => .ok true) f xs = .ok (xs.map f') := by
  rw [comp_of (fun _ => true) f' xs (fun _ _ => rfl) fun x hx _ => h x hx, List.filter_eq_self.mpr fun _ _ => rfl]
theorem tryK_exc {kn p : XC → Bool} {x : PX} {h : PX → M α} (h1 : kn x.cls = true) (h2 : p x.cls = true) : tryK kn p (.exc x) h = h x := by
  show (if kn x.cls = true then (if p x.cls = true then h x else .exc x) else .bad) = _
  rw [if_pos h1, if_pos h2]
@[simp] theorem tryK_ok {kn p : XC → Bool} {x : α} {h : PX → M α} : tryK kn p (.ok x) h = .ok x := rfl
/-- m ends well, with a value as R says -/
def sat (m : M α) (R : α → Prop) : Prop := ∃ r, m = .ok r ∧ R r
theorem sat_ok {x : α} {R : α → Prop} (h : R x) : sat (.ok x) R := ⟨x, rfl, h⟩
theorem sat_bind {m : M α} {f : α → M β} {R1 : α → Prop} {R : β → Prop} (h : sat m R1) (h2 : ∀ x, R1 x → sat (f x) R) : sat (m >>= f) R := by
  obtain ⟨x, rfl, hx⟩ := h
  exact h2 x hx
theorem sat_if {b : Bool} {m n : M α} {R : α → Prop} (h : b = true → sat m R) (h2 : b = false → sat n R) : sat (if b then m else n) R := by
  cases b with
  | true => exact h rfl
  | false => exact h2 rfl
theorem sat_fold {f : σ → α → M σ} {xs : List α} {s0 : σ} (P : Nat → σ → Prop) (h0 : P 0 s0) (hs : ∀ i x s, xs[i]? = some x → P i s → sat (f s x) (P (i + 1))) : sat (fold f s0 xs) (P xs.length) := fold_ok P h0 hs
theorem sat_push {xs : List α} {m : M α} {R : List α → Prop} (hl : xs.length ≤ 100000) (h : sat m fun y => R (xs ++ [y])) : sat (push xs m) R := by
  obtain ⟨y, rfl, hy⟩ := h
  exact ⟨_, push_ok (small1k hl), hy⟩
end M
theorem rngL_get {lo : Int} {n i : Nat} {x : Int} (h : (rngL lo n)[i]? = some x) : i < n ∧ x = lo + i := by
  rw [← rng_get] at h
  exact rng_some h
theorem mem_rngL {lo : Int} {n : Nat} {x : Int} : x ∈ rngL lo n ↔ lo ≤ x ∧ x < lo + n := by
  unfold rngL
  rw [List.mem_map]
  constructor
  · rintro ⟨i, hi, rfl⟩
    rw [List.mem_range] at hi
    omega
  · intro ⟨h1, h2⟩
    exact ⟨(x - lo).toNat, List.mem_range.mpr (by omega), by omega⟩
end G

/-! PL: what the shared helpers compute. -/
namespace PM
open PySem L2 G
theorem cell_ok (s : Sq Int) {k : Int} (hk : 0 ≤ k) : ∃ x, l_cell_m s k = .ok x := by
  unfold l_cell_m
  split
  · next h =>
    simp at h
    obtain ⟨x, _, e⟩ := M.ix_some hk h
    exact ⟨x, e⟩
  · exact ⟨_, rfl⟩
theorem draws_ok (c : Int) {m : Int} (h0 : 0 ≤ m) (h1 : m ≤ 1000) : ∃ ds, l_draws_m c m = .ok ds := by
  suffices M.sat (l_draws_m c m) fun _ => True from let ⟨d, e, _⟩ := this; ⟨d, e⟩
  unfold l_draws_m
  simp only [M.ok_bind]
  rw [M.range_ok h0 (by omega)]
  simp only [M.ok_bind]
  refine M.sat_bind (M.sat_fold (fun i s => s.2.2.length ≤ i) (Nat.le_refl 0) fun i x s hx hs => ?_) fun s _ => M.sat_ok trivial
  have hi := (rngL_get hx).1
  refine M.sat_if (fun _ => ?_) fun _ => ?_
  · exact M.sat_bind (M.sat_push (R := fun y => y.length ≤ i + 1) (by omega) (M.sat_ok (by simp; omega))) fun y hy => M.sat_ok hy
  · exact M.sat_bind (M.sat_push (R := fun y => y.length ≤ i + 1) (by omega) (M.sat_ok (by simp; omega))) fun y hy => M.sat_ok hy
def pick (d : List Int) (k m : Int) : Int := if m < 2 ∨ d = [] then 0 else d.getD (k % d.length).toNat 0 % m
theorem pick_eq (d : List Int) (k m : Int) : l_pick_m d k m = .ok (pick d k m) := by
  unfold l_pick_m pick
  by_cases h : m < 2 ∨ d = []
  · rw [if_pos h, if_pos]
    simp; exact h
  · rw [if_neg h, if_neg (by simp; exact ⟨by omega, fun z => h (.inr z)⟩)]
    have hd : d ≠ [] := fun z => h (.inr z)
    have hl : 0 < d.length := List.length_pos_iff.mpr hd
    have h1 : 0 ≤ k % (d.length : Int) := Int.emod_nonneg _ (by omega)
    have h2 : k % (d.length : Int) < d.length := Int.emod_lt_of_pos _ (by omega)
    rw [M.asrt_pos (by omega)]
    simp only [M.ok_bind]
    rw [M.ix_getD 0 h1 h2]
    simp only [M.ok_bind]
    rw [M.asrt_pos (by omega)]
theorem pick_range {d : List Int} {k m : Int} (h : 1 ≤ m) : 0 ≤ pick d k m ∧ pick d k m < m := by
  unfold pick
  split
  · omega
  · exact ⟨Int.emod_nonneg _ (by omega), Int.emod_lt_of_pos _ (by omega)⟩
/-- sides and ties that make a web -/
structure Good (sides : List Int) (ties : List T4I) : Prop where
  sd : ∀ s ∈ sides, 1 ≤ s ∧ s ≤ 4
  ti : ∀ x ∈ ties, 0 ≤ x.a ∧ x.a < sides.length ∧ 0 ≤ x.b ∧ x.b < sides.getD x.a.toNat 0 ∧ 0 ≤ x.c ∧ x.c < sides.length ∧ 0 ≤ x.d ∧ x.d < sides.getD x.c.toNat 0
theorem getD_mem {xs : List Int} {i : Int} (h0 : 0 ≤ i) (h1 : i < xs.length) : xs.getD i.toNat 0 ∈ xs := by
  have hlt : i.toNat < xs.length := by omega
  rw [List.getD_eq_getElem?_getD, List.getElem?_eq_getElem hlt]
  exact List.getElem_mem hlt
theorem web_sat (d : List Int) {p t : Int} (hp0 : 0 ≤ p) (hp1 : p ≤ 1000) (ht0 : 0 ≤ t) (ht1 : t ≤ 1000) : M.sat (l_web_m d p t) fun r => Good r.1 r.2 ∧ r.1.length ≤ p.toNat ∧ r.2.length ≤ t.toNat := by
  unfold l_web_m
  simp only [M.ok_bind, pick_eq]
  have hm := pick_range (d := d) (k := 0) (m := p + 1) (by omega)
  generalize pick d 0 (p + 1) = many at hm
  rw [M.range_ok hm.1 (by omega)]
  simp only [M.ok_bind]
  have menu : ∀ k : Int, ∃ x, M.ix ([2, 2, 3, 2, 1, 4] : List Int) (pick d k 6) = .ok x ∧ 1 ≤ x ∧ x ≤ 4 := fun k => by
    have hr := pick_range (d := d) (k := k) (m := 6) (by omega)
    generalize pick d k 6 = j at hr
    obtain ⟨x, hx, e⟩ := M.ix_some (xs := ([2, 2, 3, 2, 1, 4] : List Int)) hr.1 (by simpa using hr.2)
    refine ⟨x, e, ?_⟩
    have hmem := List.mem_of_getElem? hx
    simp at hmem
    omega
  have comp : ∃ sides : List Int, M.comp (fun _ => (M.ok true)) (fun x3 => M.ix ([2, 2, 3, 2, 1, 4] : List Int) (pick d (2 + x3) 6)) (rngL 0 many.toNat) = .ok sides ∧ sides.length = many.toNat ∧ ∀ s ∈ sides, 1 ≤ s ∧ s ≤ 4 := by
    refine ⟨_, M.comp_of (fun _ => true) (fun x3 => (menu (2 + x3)).choose) _ (fun _ _ => rfl) (fun x _ _ => (menu (2 + x)).choose_spec.1), ?_, ?_⟩
    · rw [List.length_map, List.filter_eq_self.mpr fun _ _ => rfl, rngL_len]
    · intro s hs
      rw [List.mem_map] at hs
      obtain ⟨x, _, rfl⟩ := hs
      exact (menu (2 + x)).choose_spec.2
  obtain ⟨sides, es, hl, hsd⟩ := comp
  rw [es]
  simp only [M.ok_bind]
  have hk := pick_range (d := d) (k := 1) (m := t + 1) (by omega)
  generalize pick d 1 (t + 1) = kk at hk
  rw [M.range_ok hk.1 (by omega)]
  simp only [M.ok_bind]
  have hlen : (sides.length : Int) = many := by omega
  refine M.sat_bind (M.sat_fold (fun i (s : List T4I) => Good sides s ∧ s.length ≤ i) ⟨⟨hsd, fun x hx => (nomatch hx)⟩, Nat.le_refl 0⟩ fun i x s hx ⟨hs, hsl⟩ => ?_) fun s ⟨h1, h2⟩ => M.sat_ok ⟨h1, by show sides.length ≤ _; omega, by rw [rngL_len] at h2; show s.length ≤ _; omega⟩
  have hi := (rngL_get hx).1
  refine M.sat_if (fun hb => ?_) fun _ => M.sat_ok ⟨hs, by omega⟩
  have h0 : 0 < many := by simpa using hb
  generalize ((2 : Int) + many) + ((4 : Int) * x) = at_
  have r1 := pick_range (d := d) (k := at_) (m := many) (by omega)
  have r2 := pick_range (d := d) (k := at_ + 2) (m := many) (by omega)
  generalize pick d at_ many = one at r1
  generalize pick d (at_ + 2) many = other at r2
  rw [M.ix_getD 0 r1.1 (by omega), M.ix_getD 0 r2.1 (by omega)]
  simp only [M.ok_bind]
  have g1 := hsd _ (getD_mem (xs := sides) r1.1 (by omega))
  have g2 := hsd _ (getD_mem (xs := sides) r2.1 (by omega))
  have r3 := pick_range (d := d) (k := at_ + 1) (m := sides.getD one.toNat 0) (by omega)
  have r4 := pick_range (d := d) (k := at_ + 3) (m := sides.getD other.toNat 0) (by omega)
  rw [M.push_small (by omega)]
  refine ⟨_, rfl, ⟨hsd, fun y hy => ?_⟩, by simp; omega⟩
  rcases List.mem_append.mp hy with hy | hy
  · exact hs.ti y hy
  · rw [List.mem_singleton] at hy
    subst hy
    exact ⟨r1.1, by show one < (sides.length : Int); omega, r3.1, r3.2, r2.1, by show other < (sides.length : Int); omega, r4.1, r4.2⟩
theorem check_ok {sides : List Int} {p s : Int} (h1 : 0 ≤ p) (h2 : p < sides.length) (h3 : 0 ≤ s) (h4 : s < sides.getD p.toNat 0) : p_check_end_m sides p s = .ok () := by
  unfold p_check_end_m
  rw [if_neg (by simp; omega), if_neg (by simp; omega), M.ix_getD 0 h1 h2]
  simp only [M.ok_bind]
  rw [if_neg (by simp only [decide_eq_true_eq]; omega)]
theorem init_ok {sides : List Int} {ties : List T4I} (h : Good sides ties) (hs : sides.length ≤ 200) (ht : ties.length ≤ 300) : m_WebX_initX_m sides ties = .ok ⟨⟨sides⟩, ⟨ties⟩⟩ := by
  unfold m_WebX_initX_m
  rw [if_neg (by simp; omega), if_neg (by simp; omega)]
  simp only [M.ok_bind]
  rw [M.fold_unit fun x hx => ?_]
  simp only [M.ok_bind]
  rw [M.fold_unit fun x hx => ?_]
  simp only [M.ok_bind]
  · rw [M.comp_map]
    simp only [M.ok_bind]
    have : (ties.map fun x8 : T4I => (⟨x8.a, x8.b, x8.c, x8.d⟩ : T4I)) = ties := by
      refine (List.map_congr_left fun x _ => ?_).trans (List.map_id ties)
      cases x; rfl
    rw [this]
  · obtain ⟨a, b, c, d, e, f, g, i⟩ := h.ti x hx
    rw [check_ok a b c d, check_ok e f g i]; rfl
  · unfold M.enumL at hx
    rw [List.mem_map] at hx
    obtain ⟨p, hp, rfl⟩ := hx
    have hm : p.1 ∈ sides := by
      have := List.mem_zipIdx hp
      rw [this.2.2]
      exact List.getElem_mem _
    have := h.sd _ hm
    rw [if_neg (by simp; omega)]
/-! steps -/
def tl (ties : List T4I) (s : Int × Int) : Int × Int := let x := ties.getD s.1.toNat ⟨0, 0, 0, 0⟩; if s.2 = 0 then (x.a, x.b) else (x.c, x.d)
def bk (s : Int × Int) : Int × Int := (s.1, 1 - s.2)
/-- the step walks a tie -/
def IsStep (ties : List T4I) (s : Int × Int) : Prop := 0 ≤ s.1 ∧ s.1 < ties.length ∧ (s.2 = 0 ∨ s.2 = 1)
theorem IsStep.bk {ties : List T4I} {s : Int × Int} (h : IsStep ties s) : IsStep ties (bk s) := ⟨h.1, h.2.1, by rcases h.2.2 with e | e <;> simp [PM.bk, e]⟩
theorem back_eq (s : Int × Int) : m_Web_back_m s = .ok (bk s) := rfl
theorem tail_eq {w : WebM} {s : Int × Int} (h0 : 0 ≤ s.1) (h1 : s.1 < w.b.l.length) : m_Web_tail_m w s = .ok (tl w.b.l s) := by
  unfold m_Web_tail_m tl
  simp only [M.ok_bind]
  rw [if_neg (by simp; omega), M.ix_getD ⟨0, 0, 0, 0⟩ h0 h1]
  simp only [M.ok_bind]
  by_cases h : s.2 = 0
  · rw [if_pos (by simpa using h), if_pos h]
  · rw [if_neg (by simpa using h), if_neg h]
theorem tail_bad {w : WebM} {s : Int × Int} (h : s.1 < 0 ∨ (w.b.l.length : Int) ≤ s.1) : m_Web_tail_m w s = .exc ⟨.UnknownTie, some [("tie", .int s.1)]⟩ := by
  unfold m_Web_tail_m
  simp only [M.ok_bind]
  rw [if_pos (by simp; omega)]
  rfl
theorem head_eq {w : WebM} {s : Int × Int} (h0 : 0 ≤ s.1) (h1 : s.1 < w.b.l.length) : m_Web_head_m w s = .ok (tl w.b.l (bk s)) := by
  unfold m_Web_head_m
  rw [back_eq]
  simp only [M.ok_bind]
  exact tail_eq (s := bk s) h0 h1
theorem head_bad {w : WebM} {s : Int × Int} (h : s.1 < 0 ∨ (w.b.l.length : Int) ≤ s.1) : m_Web_head_m w s = .exc ⟨.UnknownTie, some [("tie", .int s.1)]⟩ := by
  unfold m_Web_head_m
  rw [back_eq]
  simp only [M.ok_bind]
  exact tail_bad (s := bk s) h
theorem has_eq (w : WebM) (p : Int) : m_WebX_containsX_m w p = .ok (decide (0 ≤ p) && decide (p < w.a.l.length)) := rfl
/-- all steps, ascending -/
def allSteps : Nat → List (Int × Int)
  | 0 => []
  | n + 1 => allSteps n ++ [((n : Int), 0), ((n : Int), 1)]
theorem mem_allSteps {n : Nat} {s : Int × Int} : s ∈ allSteps n ↔ 0 ≤ s.1 ∧ s.1 < n ∧ (s.2 = 0 ∨ s.2 = 1) := by
  induction n with
  | zero => simp [allSteps]; omega
  | succ n ih =>
    obtain ⟨t, d⟩ := s
    simp only [allSteps, List.mem_append, ih, List.mem_cons, Prod.mk.injEq, List.not_mem_nil, or_false]
    omega
theorem allSteps_len (n : Nat) : (allSteps n).length = 2 * n := by
  induction n with
  | zero => rfl
  | succ n ih => simp [allSteps, ih]; omega
theorem steps_from_eq {w : WebM} {p : Int} (h0 : 0 ≤ p) (h1 : p < w.a.l.length) (hn : w.b.l.length ≤ 10000) : m_Web_steps_from_m w p = .ok ((allSteps w.b.l.length).filter fun s => decide ((tl w.b.l s).1 = p)) := by
  unfold m_Web_steps_from_m
  rw [has_eq, decide_eq_true h0, decide_eq_true h1]
  simp only [Bool.and_self, M.calm_of_ok, M.ok_bind, Bool.not_true]
  rw [if_neg (by simp)]
  rw [M.fold_eq [] (fun i => (allSteps i).filter fun s => decide ((tl w.b.l s).1 = p)) rfl fun i x hx => ?_]
  · rw [M.enumL_len]; rfl
  · rw [← M.enumL_get] at hx
    unfold enumI at hx
    obtain ⟨y, hy, rfl⟩ := Option.map_eq_some_iff.mp hx
    have hi : i < w.b.l.length := (List.getElem?_eq_some_iff.mp hy).1
    have e0 : w.b.l.getD i ⟨0, 0, 0, 0⟩ = y := by rw [List.getD_eq_getElem?_getD, hy]; rfl
    have e1 : tl w.b.l ((i : Int), 0) = (y.a, y.b) := by unfold tl; simp only [Int.toNat_natCast, e0, if_true]
    have e2 : tl w.b.l ((i : Int), 1) = (y.c, y.d) := by unfold tl; simp only [Int.toNat_natCast, e0]; rw [if_neg (by decide)]
    have hl : ((allSteps i).filter fun s => decide ((tl w.b.l s).1 = p)).length ≤ 2 * i := by rw [← allSteps_len i]; exact List.length_filter_le _ _
    show _ = M.ok ((allSteps i ++ [((i : Int), 0), ((i : Int), 1)]).filter _)
    rw [List.filter_append]
    simp only [List.filter_cons, e1, e2, List.filter_nil]
    by_cases ha : y.a = p
    · rw [if_pos (by simpa using ha), M.push_small (by omega)]
      simp only [M.ok_bind]
      by_cases hc : y.c = p
      · rw [if_pos (by simpa using hc), M.push_small (by simp; omega)]
        simp [ha, hc]
      · rw [if_neg (by simpa using hc)]
        simp [ha, hc]
    · rw [if_neg (by simpa using ha)]
      simp only [M.ok_bind]
      by_cases hc : y.c = p
      · rw [if_pos (by simpa using hc), M.push_small (by omega)]
        simp [ha, hc]
      · rw [if_neg (by simpa using hc)]
        simp [ha, hc]
/-- the followers of a step -/
def fols (ties : List T4I) (s : Int × Int) : List (Int × Int) := (allSteps ties.length).filter fun f => decide ((tl ties f).1 = (tl ties (bk s)).1) && !decide ((tl ties f).2 = (tl ties (bk s)).2)
theorem tl_place {sides : List Int} {ties : List T4I} (g : Good sides ties) {s : Int × Int} (h : IsStep ties s) : 0 ≤ (tl ties s).1 ∧ (tl ties s).1 < sides.length := by
  have hlt : s.1.toNat < ties.length := by have := h.1; have := h.2.1; omega
  have hm : ties.getD s.1.toNat ⟨0, 0, 0, 0⟩ ∈ ties := by rw [List.getD_eq_getElem?_getD, List.getElem?_eq_getElem hlt]; exact List.getElem_mem hlt
  obtain ⟨a, b, c, d, e, f, g, i⟩ := g.ti _ hm
  unfold tl
  by_cases hz : s.2 = 0
  · rw [if_pos hz]; exact ⟨a, b⟩
  · rw [if_neg hz]; exact ⟨e, f⟩
theorem followers_eq {sides : List Int} {ties : List T4I} (g : Good sides ties) (hn : ties.length ≤ 10000) {s : Int × Int} (h : IsStep ties s) : p_followers_m ⟨⟨sides⟩, ⟨ties⟩⟩ s = .ok (fols ties s) := by
  have hp := tl_place g h.bk
  unfold p_followers_m fols
  rw [head_eq (w := ⟨⟨sides⟩, ⟨ties⟩⟩) h.1 h.2.1]
  simp only [M.ok_bind]
  rw [steps_from_eq (w := ⟨⟨sides⟩, ⟨ties⟩⟩) hp.1 hp.2 hn]
  simp only [M.ok_bind]
  rw [M.comp_filter (fun f => !decide ((tl ties f).2 = (tl ties (bk s)).2)) fun x hx => ?_]
  · rw [List.filter_filter]
    congr 2
    funext f
    rw [Bool.and_comm]
  · have hm := mem_allSteps.mp (List.mem_filter.mp hx).1
    rw [tail_eq (w := ⟨⟨sides⟩, ⟨ties⟩⟩) hm.1 hm.2.1]; rfl
end PM

/-! PG: loops with an invariant; what grouped computes; paired webs. -/
namespace G
open PySem L2
namespace M
variable {α β γ σ ρ : Type}
theorem sat_loop {c : σ → M Bool} {f : σ → M σ} {s0 : σ} {R : σ → Prop} (I : σ → Prop) (mu : σ → Nat) (h0 : I s0) (hc : ∀ s, I s → ∃ b, c s = .ok b ∧ (b = true → sat (f s) fun s' => I s' ∧ mu s' < mu s) ∧ (b = false → R s)) : sat (loop c f s0) R := by
  suffices ∀ n s, mu s ≤ n → I s → sat (loop c f s) R from this _ s0 (Nat.le_refl _) h0
  intro n
  induction n with
  | zero =>
    intro s hn hs
    obtain ⟨b, e, h1, h2⟩ := hc s hs
    rw [loop_eq, e]
    cases b with
    | true => obtain ⟨s', _, _, hl⟩ := h1 rfl; omega
    | false => exact ⟨s, rfl, h2 rfl⟩
  | succ n ih =>
    intro s hn hs
    obtain ⟨b, e, h1, h2⟩ := hc s hs
    rw [loop_eq, e]
    cases b with
    | true =>
      obtain ⟨s', e', hi, hl⟩ := h1 rfl
      simp only [ok_bind, if_true]
      rw [e']
      exact ih s' (by omega) hi
    | false => exact ⟨s, rfl, h2 rfl⟩
theorem sat_val {m : M α} {x : α} (h : sat m (· = x)) : m = .ok x := by obtain ⟨y, e, rfl⟩ := h; exact e
theorem popL_snoc {xs : List α} {x : α} : M.popL (xs ++ [x]) = .ok (xs, x) := by
  unfold M.popL
  rw [List.getLast?_concat]
  simp
end M
end G
namespace PM
open PySem L2 G
end PM
namespace G
open PySem L2
namespace M
variable {α β γ σ ρ : Type}
theorem foldC_find {f : Unit → α → M (Ct Unit ρ)} (p : α → Bool) (g : α → ρ) (h : ∀ x, f () x = if p x then .ok (.rt (g x)) else .ok (.nx ())) : ∀ xs : List α, foldC f () xs = .ok (match xs.find? p with | some x => .rt (g x) | none => .nx ())
  | [] => rfl
  | x :: xs => by
    simp only [foldC]
    rw [h x]
    cases hp : p x with
    | true => rw [if_pos rfl, List.find?_cons_of_pos hp]; rfl
    | false => rw [if_neg (by simp), List.find?_cons_of_neg (by simp [hp])]; exact foldC_find p g h xs
end M
end G
namespace PM
open PySem L2 G
theorem rngL_nodup' (lo : Int) (n : Nat) : (rngL lo n).Nodup := by
  unfold rngL
  exact List.pairwise_map.mpr (List.Pairwise.imp (fun h z => h (by omega)) List.nodup_range)
end PM
namespace PM
open PySem L2 G
end PM

/-! PW: wirings: what the shared makers make, and that Wiring takes it. -/
namespace PM
open PySem L2 G
theorem rngL_nodup (lo : Int) (n : Nat) : (rngL lo n).Nodup := by
  unfold rngL
  exact List.pairwise_map.mpr (List.Pairwise.imp (fun h z => h (by omega)) List.nodup_range)
/-- the leaves of links, in their order -/
def flat (L : List (Int × Int)) : List Int := L.flatMap fun x => [x.1, x.2]
def parts (N : List (T3 Str Int Int)) : List Int := N.flatMap fun x => [x.b, x.c]
theorem flat_app (a b : List (Int × Int)) : flat (a ++ b) = flat a ++ flat b := List.flatMap_append
structure GoodL (L : List (Int × Int)) : Prop where
  pos : 0 < L.length
  most : L.length ≤ 40
  pm : (flat L).Perm (rngL 0 (2 * L.length))
theorem flat_split {L : List (Int × Int)} {i : Nat} {x : Int × Int} (h : L[i]? = some x) : flat L = flat (L.take i) ++ (x.1 :: x.2 :: flat (L.drop (i + 1))) := by
  obtain ⟨hl, e⟩ := List.getElem?_eq_some_iff.mp h
  have : L = L.take i ++ ([x] ++ L.drop (i + 1)) := by
    conv => lhs; rw [← List.take_append_drop i L]
    rw [List.drop_eq_getElem_cons hl, e]; rfl
  conv => lhs; rw [this]
  rw [flat_app, flat_app]; rfl
theorem GoodL.mem {L : List (Int × Int)} (g : GoodL L) {i : Nat} {x : Int × Int} (h : L[i]? = some x) : (0 ≤ x.1 ∧ x.1 < 2 * L.length) ∧ (0 ≤ x.2 ∧ x.2 < 2 * L.length) := by
  have m1 : x.1 ∈ flat L := by rw [flat_split h]; simp
  have m2 : x.2 ∈ flat L := by rw [flat_split h]; simp
  have q1 := mem_rngL.mp (g.pm.mem_iff.mp m1)
  have q2 := mem_rngL.mp (g.pm.mem_iff.mp m2)
  omega
theorem GoodL.nd {L : List (Int × Int)} (g : GoodL L) : (flat L).Nodup := (List.Perm.nodup_iff g.pm).mpr (rngL_nodup _ _)
end PM

/-! PS: _law_same of a thing and itself. -/
namespace PM
open PySem L2 G
/-- plain data of this depth, no list or tuple long -/
inductive OkU : Nat → PyData → Prop
  | none {n : Nat} : OkU (n + 1) .none
  | bool {n : Nat} (b : Bool) : OkU (n + 1) (.bool b)
  | int {n : Nat} (i : Int) : OkU (n + 1) (.int i)
  | str {n : Nat} (s : Str) : OkU (n + 1) (.str s)
  | list {n : Nat} {ds : List PyData} (hl : ds.length ≤ 100000) (h : ∀ d ∈ ds, OkU n d) : OkU (n + 1) (.list ds)
  | tuple {n : Nat} {ds : List PyData} (hl : ds.length ≤ 100000) (h : ∀ d ∈ ds, OkU n d) : OkU (n + 1) (.tuple ds)
theorem OkU.up {n : Nat} {e : PyData} (h : OkU n e) : OkU (n + 1) e := by
  induction h with
  | none => exact .none
  | bool b => exact .bool b
  | int i => exact .int i
  | str s => exact .str s
  | list hl _ ih => exact .list hl ih
  | tuple hl _ ih => exact .tuple hl ih
theorem same_items {ds : List PyData} {rec_ : PyData → PyData → M Bool} (hl : ds.length ≤ 100000) (h : ∀ d ∈ ds, rec_ d d = .ok true) :
    (M.range (ds.length : Int) >>= fun l17 => M.foldC (fun (_ : Unit) x8 => ((M.ix ds x8 >>= fun t11 => M.ix ds x8 >>= fun t12 => rec_ t11 t12) >>= fun t13 => M.ok (!t13)) >>= fun b14 => if b14 then (M.ok false >>= fun r => .ok (.rt r)) else M.ok (.nx ())) () l17 >>= fun c16 => Ct.go c16 M.ok fun (_ : Unit) => M.ok true) = .ok true := by
  rw [M.rangeN hl, M.ok_bind, M.foldC_unit _ fun z hz => ?_]
  · rfl
  · obtain ⟨h0, h1⟩ := mem_rngL.mp hz
    obtain ⟨d, hd, e⟩ := M.ix_some (xs := ds) (i := z) h0 (by omega)
    rw [e]
    simp only [M.ok_bind]
    rw [h d (List.mem_of_getElem? hd)]
    rfl
theorem same_refl {n : Nat} {e : PyData} (h : OkU n e) : l_same_m n e e = .ok true := by
  induction h with
  | none => rfl
  | @bool n b =>
    show l_same_step _ _ _ = _
    unfold l_same_step
    simp only [isNoneU, isU, tyU, isTy]
    rw [M.asrt_pos (by simp [PyData.depth])]
    simp [PyData.eqv]
  | @int n i =>
    show l_same_step _ _ _ = _
    unfold l_same_step
    simp only [isNoneU, isU, tyU, isTy]
    rw [M.asrt_pos (by simp [PyData.depth])]
    simp [PyData.eqv]
  | @str n s =>
    show l_same_step _ _ _ = _
    unfold l_same_step
    simp only [isNoneU, isU, tyU, isTy]
    rw [M.asrt_pos (by simp [PyData.depth])]
    simp [PyData.eqv]
  | @list n ds hl _ ih =>
    show l_same_step (l_same_m n) _ _ = _
    have := same_items hl ih
    unfold l_same_step
    simp only [isNoneU, isU, tyU, isTy, itemsU]
    simpa using this
  | @tuple n ds hl _ ih =>
    show l_same_step (l_same_m n) _ _ = _
    have := same_items hl ih
    unfold l_same_step
    simp only [isNoneU, isU, tyU, isTy, itemsU]
    simpa using this
end PM

/-! PT: rows of steps: roam, steps_changed; loops over indexes; _law_same as a rewrite. -/
namespace PM
open PySem L2 G
/-! rows with their numbers -/
theorem fold_cons' {σ α : Type} {f : σ → α → M σ} {s : σ} {x : α} {xs : List α} : M.fold f s (x :: xs) = (f s x >>= fun s' => M.fold f s' xs) := rfl
/-! ties by their index -/
variable {ties : List T4I} {s : Int × Int}
theorem bk_bk (s : Int × Int) : bk (bk s) = s := by
  unfold bk
  obtain ⟨a, b⟩ := s
  simp only [Prod.mk.injEq, true_and]
  omega
/-! roam -/
/-! steps_changed -/
/-! steps -/
instance decIsStep {ties : List T4I} {s : Int × Int} : Decidable (IsStep ties s) := by unfold IsStep; infer_instance
theorem reversed_eq (steps : List (Int × Int)) : p_reversed_steps_m steps = .ok (steps.reverse.map bk) := by
  unfold p_reversed_steps_m
  exact M.comp_mapM bk fun x _ => rfl
/-! the law's equality, where the two are the same -/
/-! indexes from the end -/
theorem ix_last {α : Type} (xs : List α) (y : α) : M.ix (xs ++ [y]) (-(1 : Int)) = .ok y := by
  unfold M.ix
  have : atI (xs ++ [y]) (-(1 : Int)) = some y := by
    unfold atI ixN
    have h1 : (1 : Int) ≤ (xs.length : Int) + 1 := by omega
    simp only [List.length_append, List.length_singleton]
    have h2 : ((-(1 : Int)) + ((xs.length + 1 : Nat) : Int)).toNat = xs.length := by omega
    simp [h1]
    rw [show (-1 + ((xs.length : Int) + 1)).toNat = xs.length by omega]
    simp
  rw [this]
  rfl
/-! walks -/
def hd1 (ties : List T4I) (s : Int × Int) : Int := (tl ties (bk s)).1
def endW (ties : List T4I) : Int → List (Int × Int) → Int
  | p, [] => p
  | _, s :: ss => endW ties (hd1 ties s) ss
def IsWk (ties : List T4I) : Int → List (Int × Int) → Prop
  | _, [] => True
  | p, s :: ss => (IsStep ties s ∧ (tl ties s).1 = p) ∧ IsWk ties (hd1 ties s) ss
/-- the first step that is none, or that leaves another place -/
def scanW (ties : List T4I) : Nat → Int → List (Int × Int) → Option Nat
  | _, _, [] => none
  | i, p, s :: ss => if IsStep ties s ∧ (tl ties s).1 = p then scanW ties (i + 1) (hd1 ties s) ss else some i
theorem scanW_none {ties : List T4I} : ∀ {ss : List (Int × Int)} {i : Nat} {p : Int}, scanW ties i p ss = none ↔ IsWk ties p ss
  | [], _, _ => ⟨fun _ => trivial, fun _ => rfl⟩
  | s :: ss, i, p => by
    unfold scanW IsWk
    by_cases h : IsStep ties s ∧ (tl ties s).1 = p
    · rw [if_pos h, scanW_none]
      exact Iff.intro (fun z => ⟨h, z⟩) (fun z => z.2)
    · rw [if_neg h]
      constructor
      · intro z; cases z
      · intro z; exact (h z.1).elim
theorem IsWk.mem {ties : List T4I} : ∀ {ss : List (Int × Int)} {p : Int}, IsWk ties p ss → ∀ s ∈ ss, IsStep ties s
  | [], _, _, _, h => nomatch h
  | s :: ss, p, h, x, hx => by
    rcases List.mem_cons.mp hx with rfl | hx
    · exact h.1.1
    · exact h.2.mem x hx
theorem isWk_snoc {ties : List T4I} {s : Int × Int} : ∀ {ss : List (Int × Int)} {p : Int}, IsWk ties p (ss ++ [s]) ↔ IsWk ties p ss ∧ IsStep ties s ∧ (tl ties s).1 = endW ties p ss
  | [], p => by simp [IsWk, endW]
  | x :: ss, p => by
    simp only [List.cons_append, IsWk, endW]
    rw [isWk_snoc]
    exact ⟨fun ⟨a, b, c⟩ => ⟨⟨a, b⟩, c⟩, fun ⟨⟨a, b⟩, c⟩ => ⟨a, b, c⟩⟩
theorem endW_snoc {ties : List T4I} {s : Int × Int} : ∀ {ss : List (Int × Int)} {p : Int}, endW ties p (ss ++ [s]) = hd1 ties s
  | [], _ => rfl
  | x :: ss, _ => endW_snoc (ss := ss) (p := hd1 ties x)
/-- a walk backward -/
theorem IsWk.back {ties : List T4I} : ∀ {ss : List (Int × Int)} {p : Int}, IsWk ties p ss → IsWk ties (endW ties p ss) (ss.reverse.map bk) ∧ endW ties p ss :: (ss.reverse.map bk).map (hd1 ties) = (p :: ss.map (hd1 ties)).reverse ∧ endW ties (endW ties p ss) (ss.reverse.map bk) = p
  | [], p, _ => ⟨trivial, rfl, rfl⟩
  | s :: ss, p, h => by
    obtain ⟨h1, h2, h3⟩ := h.2.back
    have e0 : endW ties p (s :: ss) = endW ties (hd1 ties s) ss := rfl
    have e1 : (s :: ss).reverse.map bk = ss.reverse.map bk ++ [bk s] := by simp
    have e2 : hd1 ties (bk s) = p := by unfold hd1; rw [bk_bk]; exact h.1.2
    rw [e0, e1]
    refine ⟨isWk_snoc.mpr ⟨h1, h.1.1.bk, by rw [h3]; rfl⟩, ?_, by rw [endW_snoc, e2]⟩
    rw [List.map_append, ← List.cons_append, h2, List.map_cons, List.reverse_cons (a := p)]
    simp [e2]
end PM

/-! PC: rings, cycles, normal forms. -/
namespace PM
open PySem L2 G
theorem cutD {α : Type} (xs : List α) (k : Nat) : cutL xs (some (k : Int)) none = xs.drop k := by
  unfold cutL
  rw [HT.sIx_nat, HT.sIx_none]
  by_cases h : k ≤ xs.length
  · rw [Nat.min_eq_left h, List.take_of_length_le (by simp)]
  · rw [Nat.min_eq_right (by omega), List.drop_eq_nil_of_le (Nat.le_refl _), List.drop_eq_nil_of_le (by omega)]
    simp
theorem cutT {α : Type} (xs : List α) (k : Nat) : cutL xs none (some (k : Int)) = xs.take k := by
  unfold cutL
  rw [HT.sIx_nat, HT.sIx_none, List.drop_zero, Nat.sub_zero]
  by_cases h : k ≤ xs.length
  · rw [Nat.min_eq_left h]
  · rw [Nat.min_eq_right (by omega), List.take_of_length_le (Nat.le_refl _), List.take_of_length_le (by omega)]
/-! rings -/
/-! cycles -/
inductive OutC where
  | step (k : Nat)
  | again (k : Nat)
  | places (ps : List Int)
def rep (ties : List T4I) : Nat → List Int → List Int → List (Int × Int) → Option Nat
  | _, _, _, [] => none
  | i, ps, ts, s :: ss => if (tl ties s).1 ∈ ps ∨ s.1 ∈ ts then some i else rep ties (i + 1) (ps ++ [(tl ties s).1]) (ts ++ [s.1]) ss
/-- how the judging of a cycle ends -/
def outC (ties : List T4I) : List (Int × Int) → OutC
  | [] => .step 0
  | s0 :: ss => match scanW ties 0 (tl ties s0).1 (s0 :: ss) with
    | some k => .step k
    | none => if endW ties (tl ties s0).1 (s0 :: ss) = (tl ties s0).1 then (match rep ties 0 [] [] (s0 :: ss) with | some k => .again k | none => .places ((s0 :: ss).map fun s => (tl ties s).1)) else .step (s0 :: ss).length
theorem outC_cons (ties : List T4I) (s0 : Int × Int) (ss : List (Int × Int)) : outC ties (s0 :: ss) = match scanW ties 0 (tl ties s0).1 (s0 :: ss) with
    | some k => .step k
    | none => if endW ties (tl ties s0).1 (s0 :: ss) = (tl ties s0).1 then (match rep ties 0 [] [] (s0 :: ss) with | some k => .again k | none => .places ((s0 :: ss).map fun s => (tl ties s).1)) else .step (s0 :: ss).length := rfl
def OutC.px : OutC → PX
  | .step k => ⟨.BadStep, some [("step", .int (k : Int))]⟩
  | .again k => ⟨.Repeated, some [("step", .int (k : Int))]⟩
  | .places _ => ⟨.BadStep, none⟩
def OutC.run {α : Type} (f : List Int → α) : OutC → M α
  | .places ps => .ok (f ps)
  | o => .exc o.px
/-- steps that make a cycle -/
structure Cyc (ties : List T4I) (p : Int) (ss : List (Int × Int)) : Prop where
  ne : ss ≠ []
  wk : IsWk ties p ss
  en : endW ties p ss = p
  np : (ss.map fun s => (tl ties s).1).Nodup
  nt : (ss.map Prod.fst).Nodup
section
variable {sides : List Int} {ties : List T4I}
theorem rep_none : ∀ {ss : List (Int × Int)} {i : Nat} {ps ts : List Int}, ps.Nodup → ts.Nodup → (rep ties i ps ts ss = none ↔ (ps ++ ss.map fun s => (tl ties s).1).Nodup ∧ (ts ++ ss.map Prod.fst).Nodup)
  | [], i, ps, ts, h1, h2 => by simp [rep, h1, h2]
  | s :: ss, i, ps, ts, h1, h2 => by
    unfold rep
    by_cases h : (tl ties s).1 ∈ ps ∨ s.1 ∈ ts
    · rw [if_pos h]
      constructor
      · intro z; cases z
      · intro ⟨a, b⟩
        rw [List.nodup_append] at a b
        rcases h with h | h
        · exact absurd rfl (a.2.2 _ h _ (by simp))
        · exact absurd rfl (b.2.2 _ h _ (by simp))
    · rw [if_neg h]
      have n1 : (ps ++ [(tl ties s).1]).Nodup := List.nodup_append.mpr ⟨h1, by simp, fun a ha b hb e => by
        rw [List.mem_singleton] at hb
        subst e hb
        exact h (.inl ha)⟩
      have n2 : (ts ++ [s.1]).Nodup := List.nodup_append.mpr ⟨h2, by simp, fun a ha b hb e => by
        rw [List.mem_singleton] at hb
        subst e hb
        exact h (.inr ha)⟩
      rw [rep_none n1 n2]
      simp only [List.map_cons, List.append_assoc, List.singleton_append]
theorem Cyc.out {p : Int} {ss : List (Int × Int)} (c : Cyc ties p ss) : outC ties ss = .places (ss.map fun s => (tl ties s).1) := by
  cases ss with
  | nil => exact absurd rfl c.ne
  | cons s0 ss =>
    have hp : (tl ties s0).1 = p := c.wk.1.2
    rw [outC_cons, hp, scanW_none.mpr c.wk]
    simp only
    rw [if_pos c.en, (rep_none (ps := []) (ts := []) List.nodup_nil List.nodup_nil).mpr ⟨by simpa using c.np, by simpa using c.nt⟩]
theorem nodup_rev {α : Type} {xs : List α} : xs.reverse.Nodup ↔ xs.Nodup := (List.reverse_perm xs).nodup_iff
/-! indexes round a cycle, cusps -/
def stp (steps : List (Int × Int)) (k : Int) : Int × Int := steps.getD k.toNat (0, 0)
def pv (steps : List (Int × Int)) (k : Int) : Int × Int := if k = 0 then steps.getD (steps.length - 1) (0, 0) else stp steps (k - 1)
theorem heads_tails : ∀ {ss : List (Int × Int)} {p : Int}, IsWk ties p ss → p :: ss.map (hd1 ties) = (ss.map fun s => (tl ties s).1) ++ [endW ties p ss]
  | [], _, _ => rfl
  | s :: ss, p, h => by
    rw [List.map_cons, heads_tails h.2, List.map_cons, h.1.2]
    rfl
theorem Cyc.back {p : Int} {ss : List (Int × Int)} (c : Cyc ties p ss) : Cyc ties p (ss.reverse.map bk) := by
  obtain ⟨b1, b2, b3⟩ := c.wk.back
  rw [c.en] at b1 b3
  refine ⟨?_, b1, b3, ?_, ?_⟩
  · intro z
    rw [List.map_eq_nil_iff, List.reverse_eq_nil_iff] at z
    exact c.ne z
  · have e : ((ss.reverse.map bk).map fun s => (tl ties s).1) = (ss.map (hd1 ties)).reverse := by
      rw [List.map_map, ← List.map_reverse]
      rfl
    rw [e, nodup_rev]
    have h := heads_tails c.wk
    rw [c.en] at h
    have hp : (p :: ss.map (hd1 ties)).Perm (p :: ss.map fun s => (tl ties s).1) := by
      rw [h]
      exact List.perm_append_comm
    exact (hp.cons_inv).nodup_iff.mpr c.np
  · have e : ((ss.reverse.map bk).map Prod.fst) = (ss.map Prod.fst).reverse := by
      rw [List.map_map, ← List.map_reverse]
      rfl
    rw [e, nodup_rev]
    exact c.nt
/-! normal forms -/
/-- r is the normal form of the cycle's steps -/
def NF (steps r : List (Int × Int)) : Prop := ∃ low h t, (steps.map Prod.fst).Nodup ∧ (∀ s ∈ steps, low ≤ s.1) ∧ (steps = h ++ (low, 0) :: t ∨ ((low, (0 : Int)) ∉ steps ∧ steps.reverse.map bk = h ++ (low, 0) :: t)) ∧ r = (low, 0) :: (t ++ h)
theorem bk_rev (ss : List (Int × Int)) : (ss.reverse.map bk).reverse.map bk = ss := by
  rw [← List.map_reverse, List.reverse_reverse, List.map_map]
  refine (List.map_congr_left fun x _ => ?_).trans (List.map_id ss)
  exact bk_bk x
theorem fst_rev (ss : List (Int × Int)) : (ss.reverse.map bk).map Prod.fst = (ss.map Prod.fst).reverse := by
  rw [List.map_map, ← List.map_reverse]; rfl
theorem nd_fst {ss : List (Int × Int)} (h : (ss.map Prod.fst).Nodup) {a b : Int × Int} (ha : a ∈ ss) (hb : b ∈ ss) (e : a.1 = b.1) : a = b := by
  induction ss with
  | nil => nomatch ha
  | cons x ss ih =>
    rw [List.map_cons, List.nodup_cons] at h
    rcases List.mem_cons.mp ha with ha' | ha' <;> rcases List.mem_cons.mp hb with hb' | hb'
    · rw [ha', hb']
    · subst ha'
      exact absurd (List.mem_map.mpr ⟨b, hb', e.symm⟩) h.1
    · subst hb'
      exact absurd (List.mem_map.mpr ⟨a, ha', e⟩) h.1
    · exact ih h.2 ha' hb'
theorem NF.back {ss r : List (Int × Int)} (n : NF ss r) : NF (ss.reverse.map bk) r := by
  obtain ⟨low, h, t, n1, n2, n3, rfl⟩ := n
  have hn : ((ss.reverse.map bk).map Prod.fst).Nodup := by rw [fst_rev, nodup_rev]; exact n1
  have hm : ∀ s ∈ ss.reverse.map bk, low ≤ s.1 := fun s hs => by
    obtain ⟨x, hx, rfl⟩ := List.mem_map.mp hs
    exact n2 x (List.mem_reverse.mp hx)
  rcases n3 with e | ⟨e0, e⟩
  · refine ⟨low, h, t, hn, hm, .inr ⟨fun z => ?_, by rw [bk_rev]; exact e⟩, rfl⟩
    obtain ⟨x, hx, ex⟩ := List.mem_map.mp z
    have hx' := List.mem_reverse.mp hx
    have h0 : (low, (0 : Int)) ∈ ss := by rw [e]; simp
    have e1 : x.1 = low := congrArg Prod.fst ex
    have e2 : (1 : Int) - x.2 = 0 := congrArg Prod.snd ex
    have := nd_fst n1 hx' h0 e1
    rw [this] at e2
    simp at e2
  · exact ⟨low, h, t, hn, hm, .inl e, rfl⟩
theorem NF.ex {ss : List (Int × Int)} (h0 : ss ≠ []) (h1 : ∀ s ∈ ss, s.2 = 0 ∨ s.2 = 1) (h2 : (ss.map Prod.fst).Nodup) : ∃ r, NF ss r := by
  obtain ⟨m1, m2⟩ := minL_spec (xs := ss.map Prod.fst) (by rw [List.length_map]; exact List.length_pos_iff.mpr h0)
  generalize minL (ss.map Prod.fst) = low at m1 m2
  have hl : ∀ s ∈ ss, low ≤ s.1 := fun s hs => m2 _ (List.mem_map.mpr ⟨s, hs, rfl⟩)
  by_cases hm : (low, (0 : Int)) ∈ ss
  · obtain ⟨h, t, e⟩ := List.append_of_mem hm
    exact ⟨_, low, h, t, h2, hl, .inl e, rfl⟩
  · obtain ⟨s, hs, es⟩ := List.mem_map.mp m1
    have hs2 : s.2 = 1 := by
      rcases h1 s hs with z | z
      · exact absurd (show (low, (0 : Int)) ∈ ss by rw [← es, ← z]; exact hs) hm
      · exact z
    have hb : (low, (0 : Int)) ∈ ss.reverse.map bk := List.mem_map.mpr ⟨s, List.mem_reverse.mpr hs, by unfold bk; rw [es, hs2]; rfl⟩
    obtain ⟨h, t, e⟩ := List.append_of_mem hb
    exact ⟨_, low, h, t, h2, hl, .inr ⟨hm, e⟩, rfl⟩
theorem idx_at {row h t : List (Int × Int)} {x : Int × Int} (e : row = h ++ x :: t) (hn : (row.map Prod.fst).Nodup) : M.idx row x = .ok (h.length : Int) := by
  have hno : ∀ y ∈ h, y ≠ x := fun y hy z => by
    subst z
    rw [e, List.map_append, List.nodup_append] at hn
    exact hn.2.2 _ (List.mem_map.mpr ⟨y, hy, rfl⟩) _ (List.mem_map.mpr ⟨y, List.mem_cons_self, rfl⟩) rfl
  have : row.findIdx? (fun z => decide (z = x)) = some h.length := by
    rw [List.findIdx?_eq_some_iff_getElem]
    refine ⟨by rw [e]; simp, by simp [e], fun j hj => ?_⟩
    simp only [e, List.getElem_append_left hj, decide_eq_true_eq]
    exact hno _ (List.getElem_mem hj)
  unfold M.idx
  rw [this]
  rfl
theorem cat_small {α : Type} {xs ys : List α} (h : xs.length + ys.length ≤ 100000) : M.cat xs ys = .ok (xs ++ ys) := M.asrt_pos (Nat.le_trans h (by decide))
theorem NF.eval {ss r : List (Int × Int)} (n : NF ss r) (hl : ss.length ≤ 1000) : p_normal_cycle_m ss = .ok r := by
  obtain ⟨low, h, t, n1, n2, n3, rfl⟩ := n
  have hmem : ∃ s ∈ ss, s.1 = low := by
    rcases n3 with e | ⟨_, e⟩
    · exact ⟨(low, 0), by rw [e]; simp, rfl⟩
    · have : (low, (0 : Int)) ∈ ss.reverse.map bk := by rw [e]; simp
      obtain ⟨x, hx, ex⟩ := List.mem_map.mp this
      exact ⟨x, List.mem_reverse.mp hx, congrArg Prod.fst ex⟩
  obtain ⟨s, hs, es⟩ := hmem
  have hpos : 0 < (ss.map Prod.fst).length := by rw [List.length_map]; exact List.length_pos_iff.mpr (List.ne_nil_of_mem hs)
  obtain ⟨m1, m2⟩ := minL_spec hpos
  have hlow : minL (ss.map Prod.fst) = low := by
    obtain ⟨y, hy, ey⟩ := List.mem_map.mp m1
    have a := n2 y hy
    have b := m2 _ (List.mem_map.mpr ⟨s, hs, es⟩)
    omega
  unfold p_normal_cycle_m
  rw [show M.comp (fun _ => (M.ok true)) (fun x1 : Int × Int => (M.ok x1.1)) ss = .ok (ss.map Prod.fst) from M.comp_map _ _]
  simp only [M.ok_bind]
  unfold M.minM
  rw [M.asrt_pos hpos]
  simp only [M.ok_bind]
  rw [hlow]
  have fin : ∀ row : List (Int × Int), row = h ++ (low, 0) :: t → (row.map Prod.fst).Nodup → row.length ≤ 1000 → (M.idx row (low, (0 : Int)) >>= fun first_7 => M.cat (cutL row (some first_7) none) (cutL row none (some first_7))) = .ok ((low, 0) :: (t ++ h)) := fun row e hn hr => by
    rw [idx_at e hn]
    simp only [M.ok_bind]
    rw [cutD, cutT, cat_small (by rw [List.length_drop, List.length_take]; omega), e]
    simp
  rcases n3 with e | ⟨e0, e⟩
  · rw [show memB (low, (0 : Int)) ss = true from memB_iff.mpr (by rw [e]; simp)]
    simp only [Bool.not_true, if_neg Bool.false_ne_true, M.ok_bind]
    exact fin ss e n1 hl
  · rw [show memB (low, (0 : Int)) ss = false by rw [← Bool.not_eq_true]; exact fun z => e0 (memB_iff.mp z)]
    simp only [Bool.not_false, if_true]
    rw [reversed_eq]
    simp only [M.ok_bind]
    exact fin _ e (by rw [fst_rev, nodup_rev]; exact n1) (by simp; omega)
theorem NF.len {ss r : List (Int × Int)} (n : NF ss r) : r.length = ss.length := by
  obtain ⟨low, h, t, n1, n2, n3, rfl⟩ := n
  rcases n3 with e | ⟨e0, e⟩
  · rw [e]; simp; omega
  · have : ss.length = (ss.reverse.map bk).length := by simp
    rw [this, e]; simp; omega
end
end PM

/-! PH: joints, groups by labels, touched sides, hinges: what the laws and the program compute of them. -/
namespace PM
open PySem L2 G
/-! groups by labels -/
/-! touched sides -/
def tStep (group : List Int) (place : Int) (s : IS) (x : T4I) : IS :=
  let s1 := if x.a = place ∧ x.c ∈ group then isAdd s x.b else s
  if x.c = place ∧ x.a ∈ group then isAdd s1 x.d else s1
theorem isAdd_nd {s : IS} {x : Int} (h : s.l.Nodup) : (isAdd s x).l.Nodup := by
  unfold isAdd
  split
  · exact h
  · next hx => exact nodup_snoc h hx
theorem isAdd_mem {s : IS} {x y : Int} : y ∈ (isAdd s x).l ↔ y ∈ s.l ∨ y = x := by
  unfold isAdd
  split
  · next hx =>
    constructor
    · exact .inl
    · rintro (h | rfl)
      · exact h
      · exact hx
  · simp
structure Few (s : IS) : Prop where
  nd : s.l.Nodup
  rg : ∀ y ∈ s.l, 0 ≤ y ∧ y < 4
theorem Few.add {s : IS} {x : Int} (h : Few s) (h0 : 0 ≤ x ∧ x < 4) : Few (isAdd s x) := ⟨isAdd_nd h.nd, fun y hy => (isAdd_mem.mp hy).elim (h.rg y) fun e => by rw [e]; exact h0⟩
theorem Few.len {s : IS} (h : Few s) : s.l.length ≤ 4 := by
  have := len_le (pts := rngL 0 4) h.nd fun y hy => mem_rngL.mpr (by have := h.rg y hy; omega)
  rw [rngL_len] at this
  exact this
theorem Few.step {s : IS} {group : List Int} {place : Int} {x : T4I} (h : Few s) (hx : (0 ≤ x.b ∧ x.b < 4) ∧ (0 ≤ x.d ∧ x.d < 4)) : Few (tStep group place s x) := by
  unfold tStep
  by_cases h1 : x.a = place ∧ x.c ∈ group
  · rw [if_pos h1]
    simp only
    split
    · exact (h.add hx.1).add hx.2
    · exact h.add hx.1
  · rw [if_neg h1]
    simp only
    split
    · exact h.add hx.2
    · exact h
/-! hinges -/
/-! joints -/
def memU (ties : List T4I) (p v : Int) : Prop := ∃ x ∈ ties, (x.a = p ∧ x.b = v) ∨ (x.c = p ∧ x.d = v)
def IsJoint (ties : List T4I) (p : Int) : Prop := ∃ v w, v ≠ w ∧ memU ties p v ∧ memU ties p w
noncomputable instance decJoint {ties : List T4I} {p : Int} : Decidable (IsJoint ties p) := Classical.propDecidable _
/-! makers -/
theorem insert_at {α : Type} {xs : List α} {n : Int} {y : α} (h0 : 0 ≤ n) (h1 : n ≤ 100000) (hl : xs.length ≤ 100000) : M.insert xs (.ok n) (.ok y) = .ok (xs.take n.toNat ++ [y] ++ xs.drop n.toNat) := by
  unfold M.insert
  simp only [M.ok_bind]
  rw [M.asrt_pos ⟨small1k hl, h0, by omega⟩]
end PM

/-! QS: facings in plain Lean: a direction for each tie that all followers keep; they are none, or one choice for each group of ties. -/
namespace QS
open PySem L2 G PM
section
variable {ties : List T4I}
/-- steps and their followers -/
def EE (ties : List T4I) : List ((Int × Int) × (Int × Int)) := (allSteps ties.length).flatMap fun s => (fols ties s).map fun a => (s, a)
/-- the ties that steps and followers join -/
def JJ (ties : List T4I) : List (Int × Int) := (EE ties).map fun p => (p.1.1, p.2.1)
abbrev PTS (ties : List T4I) : List Int := rngL 0 ties.length
theorem mem_PTS {t : Int} : t ∈ PTS ties ↔ 0 ≤ t ∧ t < ties.length := by rw [mem_rngL]; omega
/-- the directions f are kept -/
def Keep (ties : List T4I) (f : Int → Int) : Prop := ∀ s a, (s, a) ∈ EE ties → (f s.1 = s.2 ↔ f a.1 = a.2)
def B01 (ties : List T4I) (f : Int → Int) : Prop := ∀ t ∈ PTS ties, f t = 0 ∨ f t = 1
/-- the lowest tie of the group -/
noncomputable def rt (ties : List T4I) (t : Int) : Int := if h : t ∈ PTS ties then Classical.choose (exists_min (ties := JJ ties) (rngL_nodup' 0 ties.length) h) else t
end
/-! rows -/
def gd (r : List Int) (t : Int) : Int := r.getD t.toNat 0
section
variable {ties : List T4I}
/-- a facing -/
def Fac (ties : List T4I) (r : List Int) : Prop := r.length = ties.length ∧ (∀ x ∈ r, x = 0 ∨ x = 1) ∧ Keep ties (gd r)
noncomputable instance decFac {r : List Int} : Decidable (Fac ties r) := Classical.propDecidable _
theorem gd_mem {r : List Int} {t : Int} (h0 : 0 ≤ t) (h1 : t < r.length) : gd r t ∈ r := getD_mem h0 h1
theorem Fac.b {r : List Int} (h : Fac ties r) : B01 ties (gd r) := fun t ht => h.2.1 _ (gd_mem (mem_PTS.mp ht).1 (by rw [h.1]; exact (mem_PTS.mp ht).2))
end
/-! all rows, and how many of them are facings -/
/-- r agrees with F as its lowest one does, for the first m -/
def Agr (F L : Int → Int) (m : Nat) (r : List Int) : Prop := ∀ t : Int, 0 ≤ t → t < m → (F t = gd r t ↔ F (L t) = gd r (L t))
noncomputable instance decAgr {F L : Int → Int} {m : Nat} {r : List Int} : Decidable (Agr F L m r) := Classical.propDecidable _
section
variable {ties : List T4I}
end
end QS

/-! BF: search breadth first on a graph of steps, plain: forward with parents (Tr), backward with distances (Fa); the lowest shortest walk. -/
namespace PM
open PySem L2 G
abbrev Stp := Int × Int
def cd (s : Stp) : Int := 2 * s.1 + s.2
theorem get_inj {xs : List Stp} (h : xs.Nodup) {i j : Nat} {x : Stp} (h1 : xs[i]? = some x) (h2 : xs[j]? = some x) : i = j := by
  obtain ⟨a, e1⟩ := List.getElem?_eq_some_iff.mp h1
  obtain ⟨b, e2⟩ := List.getElem?_eq_some_iff.mp h2
  have pw := List.pairwise_iff_getElem.mp h
  rcases Nat.lt_trichotomy i j with l | l | l
  · exact absurd (e1.trans e2.symm) (pw i j a b l)
  · exact l
  · exact absurd (e2.trans e1.symm) (pw j i b a l)
/-! ### forward, with parents -/
structure Tr (F : Stp → List Stp) (first : Stp) (p : Nat) (kv : List (Stp × Opt Stp)) (ks : List Stp) (pi : Nat → Nat) : Prop where
  eq : ks = kv.map Prod.fst
  nd : ks.Nodup
  hd : ks[0]? = some first
  par : ∀ j x, 0 < j → ks[j]? = some x → pi j < j ∧ pi j < p ∧ ∃ y, ks[pi j]? = some y ∧ kv[j]? = some (x, .some y) ∧ x ∈ F y ∧ ∀ i z, i < pi j → ks[i]? = some z → x ∉ F z
  mono : ∀ i j x y, 0 < i → i < j → ks[i]? = some x → ks[j]? = some y → pi i ≤ pi j ∧ (pi i = pi j → cd x < cd y)
  clo : ∀ i x z, i < p → ks[i]? = some z → x ∈ F z → x ∈ ks
theorem Tr.start {F : Stp → List Stp} {first : Stp} : Tr F first 0 [(first, .none)] [first] (fun _ => 0) where
  eq := rfl
  nd := by simp
  hd := rfl
  par := fun j x h0 h => by
    obtain ⟨a, _⟩ := List.getElem?_eq_some_iff.mp h
    rw [List.length_singleton] at a
    omega
  mono := fun i j x y h0 h1 h2 h3 => by
    obtain ⟨a, _⟩ := List.getElem?_eq_some_iff.mp h3
    rw [List.length_singleton] at a
    omega
  clo := fun i x z h => absurd h (Nat.not_lt_zero _)
def grow (F : Stp → List Stp) (ks : List Stp) (y : Stp) : List Stp := (F y).filter fun x => !memB x ks
theorem mem_grow {F : Stp → List Stp} {ks : List Stp} {y x : Stp} : x ∈ grow F ks y ↔ x ∈ F y ∧ x ∉ ks := by
  unfold grow
  rw [List.mem_filter, Bool.not_eq_true', ← Bool.not_eq_true, memB_iff]
section
variable {F : Stp → List Stp} {first last : Stp} {p : Nat} {kv : List (Stp × Opt Stp)} {ks : List Stp} {pi : Nat → Nat}
theorem Tr.len (T : Tr F first p kv ks pi) : ks.length = kv.length := by rw [T.eq, List.length_map]
theorem app_get {α : Type} {xs ys : List α} {j : Nat} {x : α} (h : (xs ++ ys)[j]? = some x) : (j < xs.length ∧ xs[j]? = some x) ∨ (xs.length ≤ j ∧ ys[j - xs.length]? = some x) := by
  by_cases hj : j < xs.length
  · rw [List.getElem?_append_left hj] at h; exact .inl ⟨hj, h⟩
  · rw [List.getElem?_append_right (by omega)] at h; exact .inr ⟨by omega, h⟩
theorem Tr.step (T : Tr F first p kv ks pi) (hF : ∀ x, (F x).Pairwise fun a b => cd a < cd b) {y : Stp} (hy : ks[p]? = some y) :
    Tr F first (p + 1) (kv ++ (grow F ks y).map fun x => (x, Opt.some y)) (ks ++ grow F ks y) (fun j => if j < ks.length then pi j else p) := by
  have hp : p < ks.length := (List.getElem?_eq_some_iff.mp hy).1
  have gp : (grow F ks y).Pairwise fun a b => cd a < cd b := List.Pairwise.sublist List.filter_sublist (hF y)
  have old : ∀ {j : Nat} {x : Stp}, ks[j]? = some x → j < ks.length := fun h => (List.getElem?_eq_some_iff.mp h).1
  have keep : ∀ {j : Nat} {x : Stp}, ks[j]? = some x → (ks ++ grow F ks y)[j]? = some x := fun h => by rw [List.getElem?_append_left (old h)]; exact h
  refine ⟨?_, ?_, ?_, ?_, ?_, ?_⟩
  · rw [List.map_append, ← T.eq, List.map_map]
    congr 1
    exact (List.map_id _).symm
  · rw [List.nodup_append]
    refine ⟨T.nd, List.Pairwise.imp (fun h z => by rw [z] at h; omega) gp, fun a ha b hb z => ?_⟩
    rw [← z] at hb
    exact (mem_grow.mp hb).2 ha
  · exact keep T.hd
  · intro j x h0 h
    rcases app_get h with ⟨hj, h⟩ | ⟨hj, h⟩
    · obtain ⟨a, b, z, hz, hk, hx, hn⟩ := T.par j x h0 h
      simp only [if_pos hj]
      refine ⟨a, by omega, z, keep hz, ?_, hx, fun i w hi hw => ?_⟩
      · rw [List.getElem?_append_left (by rw [← T.len]; exact hj)]; exact hk
      · rw [List.getElem?_append_left (by omega)] at hw
        exact hn i w hi hw
    · have nj : ¬ j < ks.length := by omega
      simp only [if_neg nj]
      have hx := List.mem_of_getElem? h
      refine ⟨by omega, by omega, y, keep hy, ?_, (mem_grow.mp hx).1, fun i w hi hw hm => ?_⟩
      · rw [List.getElem?_append_right (by rw [← T.len]; omega), ← T.len, List.getElem?_map, h]; rfl
      · rw [List.getElem?_append_left (by omega)] at hw
        exact (mem_grow.mp hx).2 (T.clo i x w hi hw hm)
  · intro i j x z h0 hij hi hj
    rcases app_get hi with ⟨li, hi⟩ | ⟨li, hi⟩ <;> rcases app_get hj with ⟨lj, hj⟩ | ⟨lj, hj⟩
    · simp only [if_pos li, if_pos lj]
      exact T.mono i j x z h0 hij hi hj
    · simp only [if_pos li, if_neg (show ¬ j < ks.length by omega)]
      obtain ⟨_, b, _⟩ := T.par i x h0 hi
      exact ⟨by omega, by omega⟩
    · omega
    · simp only [if_neg (show ¬ j < ks.length by omega), if_neg (show ¬ i < ks.length by omega)]
      refine ⟨Nat.le_refl _, fun _ => ?_⟩
      obtain ⟨a, ea⟩ := List.getElem?_eq_some_iff.mp hi
      obtain ⟨b, eb⟩ := List.getElem?_eq_some_iff.mp hj
      have := (List.pairwise_iff_getElem.mp gp) (i - ks.length) (j - ks.length) a b (by omega)
      rw [ea, eb] at this
      exact this
  · intro i x z hi hz hx
    rcases Nat.lt_or_ge i p with h | h
    · rw [List.getElem?_append_left (by omega)] at hz
      exact List.mem_append_left _ (T.clo i x z h hz hx)
    · have : i = p := by omega
      subst this
      rw [List.getElem?_append_left hp, hy] at hz
      cases hz
      by_cases hm : x ∈ ks
      · exact List.mem_append_left _ hm
      · exact List.mem_append_right _ (mem_grow.mpr ⟨hx, hm⟩)
/-- the depth -/
def dep (pi : Nat → Nat) : Nat → Nat → Nat
  | 0, _ => 0
  | f + 1, j => if j = 0 then 0 else dep pi f (pi j) + 1
theorem Tr.dep_fuel (T : Tr F first p kv ks pi) : ∀ (f g j : Nat), j < ks.length → j ≤ f → j ≤ g → dep pi f j = dep pi g j
  | 0, 0, _, _, _, _ => rfl
  | 0, g + 1, j, _, h, _ => by
    have : j = 0 := by omega
    subst this
    rfl
  | f + 1, 0, j, _, _, h => by
    have : j = 0 := by omega
    subst this
    rfl
  | f + 1, g + 1, j, hl, h1, h2 => by
    unfold dep
    by_cases h : j = 0
    · rw [if_pos h, if_pos h]
    · rw [if_neg h, if_neg h]
      obtain ⟨a, _⟩ := T.par j _ (by omega) (List.getElem?_eq_getElem hl)
      rw [T.dep_fuel f g (pi j) (by omega) (by omega) (by omega)]
def Tr.E (_ : Tr F first p kv ks pi) (j : Nat) : Nat := dep pi j j
theorem Tr.E_zero (T : Tr F first p kv ks pi) : T.E 0 = 0 := rfl
theorem Tr.E_succ (T : Tr F first p kv ks pi) {j : Nat} (h0 : 0 < j) (h : j < ks.length) : T.E j = T.E (pi j) + 1 := by
  obtain ⟨k, rfl⟩ : ∃ k, j = k + 1 := ⟨j - 1, by omega⟩
  obtain ⟨a, _⟩ := T.par (k + 1) _ (by omega) (List.getElem?_eq_getElem h)
  show dep pi (k + 1) (k + 1) = _
  unfold dep
  rw [if_neg (by omega), T.dep_fuel k (pi (k + 1)) _ (by omega) (by omega) (Nat.le_refl _)]
  rfl
theorem Tr.E_mono (T : Tr F first p kv ks pi) : ∀ (n i j : Nat), j ≤ n → i ≤ j → j < ks.length → T.E i ≤ T.E j
  | 0, i, j, hn, hij, _ => by
    have : j = 0 := by omega
    subst this
    have : i = 0 := by omega
    subst this
    exact Nat.le_refl _
  | n + 1, i, j, hn, hij, hl => by
    by_cases hi : i = 0
    · subst hi; rw [T.E_zero]; exact Nat.zero_le _
    · by_cases he : i = j
      · rw [he]; exact Nat.le_refl _
      · rw [T.E_succ (j := i) (by omega) (by omega), T.E_succ (j := j) (by omega) hl]
        obtain ⟨a, _⟩ := T.par j _ (by omega) (List.getElem?_eq_getElem hl)
        have m := (T.mono i j _ _ (by omega) (by omega) (List.getElem?_eq_getElem (by omega)) (List.getElem?_eq_getElem hl)).1
        have := T.E_mono n (pi i) (pi j) (by omega) m (by omega)
        omega
/-- behind a processed key, the followers lie at most one deeper; their parent does not lie behind it -/
theorem Tr.next (T : Tr F first p kv ks pi) {i : Nat} {z x : Stp} (hi : i < p) (hz : ks[i]? = some z) (hx : x ∈ F z) : ∃ j, ks[j]? = some x ∧ T.E j ≤ T.E i + 1 ∧ (0 < j → pi j ≤ i) := by
  obtain ⟨j, hj, e⟩ := List.getElem_of_mem (T.clo i x z hi hz hx)
  have ej : ks[j]? = some x := by rw [List.getElem?_eq_getElem hj, e]
  by_cases h0 : j = 0
  · subst h0
    exact ⟨0, ej, by rw [T.E_zero]; omega, fun h => absurd h (Nat.lt_irrefl _)⟩
  · obtain ⟨a, b, y, hy, _, hxy, hn⟩ := T.par j x (by omega) ej
    have hle : pi j ≤ i := by
      by_cases h : pi j ≤ i
      · exact h
      · exact absurd hx (hn i z (by omega) hz)
    have hil : i < ks.length := (List.getElem?_eq_some_iff.mp hz).1
    refine ⟨j, ej, ?_, fun _ => hle⟩
    rw [T.E_succ (by omega) hj]
    have := T.E_mono i (pi j) i (Nat.le_refl _) hle hil
    omega
end
/-! ### backward, with distances -/
structure Fa (F : Stp → List Stp) (S : List Stp) (last : Stp) (k : Nat) (kv : List (Stp × Int)) : Prop where
  nd : (kv.map Prod.fst).Nodup
  sub : ∀ x a, (x, a) ∈ kv → x ∈ S
  hd : kv[0]? = some (last, 0)
  mon : ∀ (i j : Nat) (x : Stp) (a : Int) (y : Stp) (b : Int), i ≤ j → kv[i]? = some (x, a) → kv[j]? = some (y, b) → a ≤ b
  top : ∀ (y : Stp) (d : Int) (j : Nat) (x : Stp) (a : Int), kv[k]? = some (y, d) → kv[j]? = some (x, a) → a ≤ d + 1
  par : ∀ (j : Nat) (x : Stp) (a : Int), 0 < j → kv[j]? = some (x, a) → 1 ≤ a ∧ ∃ y, y ∈ F x ∧ (y, a - 1) ∈ kv
  done : ∀ (i : Nat) (y : Stp) (d : Int) (x : Stp), i < k → kv[i]? = some (y, d) → x ∈ S → y ∈ F x → ∃ a, (x, a) ∈ kv ∧ a ≤ d + 1
section
variable {F : Stp → List Stp} {S : List Stp} {first last : Stp} {k : Nat} {kv : List (Stp × Int)}
theorem Fa.start (h : last ∈ S) : Fa F S last 0 [(last, 0)] where
  nd := by simp
  sub := fun x a hx => by rw [List.mem_singleton] at hx; cases hx; exact h
  hd := rfl
  mon := fun i j x a y b hij h1 h2 => by
    have e1 := List.mem_of_getElem? h1
    have e2 := List.mem_of_getElem? h2
    rw [List.mem_singleton] at e1 e2
    cases e1; cases e2
    exact Int.le_refl _
  top := fun y d j x a h1 h2 => by
    have e1 := List.mem_of_getElem? h1
    have e2 := List.mem_of_getElem? h2
    rw [List.mem_singleton] at e1 e2
    cases e1; cases e2
    omega
  par := fun j x a h0 h => by
    obtain ⟨b, _⟩ := List.getElem?_eq_some_iff.mp h
    rw [List.length_singleton] at b
    omega
  done := fun i y d x h => absurd h (Nat.not_lt_zero _)
/-- who newly leads to y -/
def lead (F : Stp → List Stp) (S : List Stp) (kv : List (Stp × Int)) (y : Stp) : List Stp := S.filter fun x => memB y (F x) && !memB x (kv.map Prod.fst)
theorem mem_lead {x y : Stp} : x ∈ lead F S kv y ↔ x ∈ S ∧ y ∈ F x ∧ x ∉ kv.map Prod.fst := by
  unfold lead
  rw [List.mem_filter, Bool.and_eq_true, memB_iff, Bool.not_eq_true', ← Bool.not_eq_true, memB_iff]
theorem Fa.step (T : Fa F S last k kv) (hS : S.Nodup) {y : Stp} {d : Int} (hy : kv[k]? = some (y, d)) : Fa F S last (k + 1) (kv ++ (lead F S kv y).map fun x => (x, d + 1)) := by
  have hk : k < kv.length := (List.getElem?_eq_some_iff.mp hy).1
  have keep : ∀ {j : Nat} {x : Stp × Int}, kv[j]? = some x → (kv ++ (lead F S kv y).map fun x => (x, d + 1))[j]? = some x := fun h => by
    rw [List.getElem?_append_left (List.getElem?_eq_some_iff.mp h).1]; exact h
  have cs : ∀ {j : Nat} {x : Stp} {a : Int}, (kv ++ (lead F S kv y).map fun x => (x, d + 1))[j]? = some (x, a) → (j < kv.length ∧ kv[j]? = some (x, a)) ∨ (kv.length ≤ j ∧ a = d + 1 ∧ x ∈ lead F S kv y) := fun {j x a} h => by
    rcases app_get h with h | ⟨hj, h⟩
    · exact .inl h
    · obtain ⟨z, hz, e⟩ := List.mem_map.mp (List.mem_of_getElem? h)
      cases e
      exact .inr ⟨hj, rfl, hz⟩
  have all : ∀ {j : Nat} {x : Stp} {a : Int}, kv[j]? = some (x, a) → a ≤ d + 1 := fun h => T.top y d _ _ _ hy h
  refine ⟨?_, ?_, keep T.hd, ?_, ?_, ?_, ?_⟩
  · rw [List.map_append, List.map_map, show (lead F S kv y).map (Prod.fst ∘ fun x => (x, d + 1)) = lead F S kv y from List.map_id _, List.nodup_append]
    exact ⟨T.nd, List.Pairwise.sublist List.filter_sublist hS, fun a ha b hb z => (mem_lead.mp hb).2.2 (z ▸ ha)⟩
  · intro x a hx
    rcases List.mem_append.mp hx with hx | hx
    · exact T.sub x a hx
    · obtain ⟨z, hz, e⟩ := List.mem_map.mp hx
      cases e
      exact (mem_lead.mp hz).1
  · intro i j x a z b hij hi hj
    rcases cs hi with ⟨li, hi⟩ | ⟨li, rfl, hi⟩ <;> rcases cs hj with ⟨lj, hj⟩ | ⟨lj, rfl, hj⟩
    · exact T.mon i j x a z b hij hi hj
    · exact all hi
    · omega
    · exact Int.le_refl _
  · intro z e j x a hz hj
    have hde : d ≤ e := by
      rcases cs hz with ⟨lz, hz⟩ | ⟨lz, rfl, _⟩
      · exact T.mon k (k + 1) y d z e (by omega) hy hz
      · omega
    rcases cs hj with ⟨lj, hj⟩ | ⟨lj, rfl, hj⟩
    · have := all hj; omega
    · omega
  · intro j x a h0 hj
    rcases cs hj with ⟨lj, hj⟩ | ⟨lj, rfl, hl⟩
    · obtain ⟨h1, z, hz, hm⟩ := T.par j x a h0 hj
      exact ⟨h1, z, hz, List.mem_append_left _ hm⟩
    · have d0 : 0 ≤ d := T.mon 0 k last 0 y d (Nat.zero_le _) T.hd hy
      refine ⟨by omega, y, (mem_lead.mp hl).2.1, List.mem_append_left _ ?_⟩
      rw [show d + 1 - 1 = d by omega]
      exact List.mem_of_getElem? hy
  · intro i z e x hi hz hx hm
    rcases Nat.lt_or_ge i k with h | h
    · rcases cs hz with ⟨lz, hz⟩ | ⟨lz, _, _⟩
      · obtain ⟨a, ha, l⟩ := T.done i z e x h hz hx hm
        exact ⟨a, List.mem_append_left _ ha, l⟩
      · omega
    · have : i = k := by omega
      subst this
      rcases cs hz with ⟨lz, hz⟩ | ⟨lz, _, _⟩
      · rw [hy] at hz
        cases hz
        by_cases hin : x ∈ kv.map Prod.fst
        · obtain ⟨⟨x', a⟩, ha, e⟩ := List.mem_map.mp hin
          cases e
          obtain ⟨j, hj, ej⟩ := List.getElem_of_mem ha
          exact ⟨a, List.mem_append_left _ ha, all (j := j) (by rw [List.getElem?_eq_getElem hj, ej])⟩
        · exact ⟨_, List.mem_append_right _ (List.mem_map.mpr ⟨x, mem_lead.mpr ⟨hx, hm, hin⟩, rfl⟩), Int.le_refl _⟩
      · omega
/-- nothing more to process -/
theorem Fa.skip (T : Fa F S last k kv) (h : kv.length ≤ k) : Fa F S last (k + 1) kv := ⟨T.nd, T.sub, T.hd, T.mon, fun y d j x a hy => by
  obtain ⟨b, _⟩ := List.getElem?_eq_some_iff.mp hy
  omega, T.par, fun i y d x hi hy => T.done i y d x (by
    obtain ⟨b, _⟩ := List.getElem?_eq_some_iff.mp hy
    omega) hy⟩
theorem lk_mem {β : Type} : ∀ {kv : List (Stp × β)} {x : Stp} {a : β}, (kv.map Prod.fst).Nodup → (lkD kv x = some a ↔ (x, a) ∈ kv)
  | [], x, a, _ => by simp [lkD]
  | p :: kv, x, a, h => by
    rw [List.map_cons, List.nodup_cons] at h
    unfold lkD
    by_cases e : p.1 = x
    · rw [if_pos e]
      constructor
      · intro z
        cases z
        rw [← e]
        exact List.mem_cons_self
      · intro z
        rcases List.mem_cons.mp z with z | z
        · rw [← z]
        · exact absurd (List.mem_map.mpr ⟨_, z, e.symm⟩) h.1
    · rw [if_neg e, lk_mem h.2]
      exact ⟨List.mem_cons_of_mem _, fun z => (List.mem_cons.mp z).resolve_left fun z => e (by rw [← z])⟩
/-- distances, when all is processed -/
structure Dist (F : Stp → List Stp) (S : List Stp) (last : Stp) (D : Stp → Option Int) : Prop where
  lst : D last = some 0
  zero : ∀ x, D x = some 0 → x = last
  nn : ∀ x a, D x = some a → 0 ≤ a
  down : ∀ x a, D x = some a → a ≠ 0 → ∃ y, y ∈ F x ∧ D y = some (a - 1)
  near : ∀ x y d, D y = some d → x ∈ S → y ∈ F x → ∃ a, D x = some a ∧ a ≤ d + 1
theorem Fa.dist (T : Fa F S last k kv) (h : kv.length ≤ k) : Dist F S last fun x => lkD kv x := by
  have idx : ∀ {x : Stp} {a : Int}, lkD kv x = some a → ∃ j, kv[j]? = some (x, a) := fun e => by
    obtain ⟨j, hj, e⟩ := List.getElem_of_mem ((lk_mem T.nd).mp e)
    exact ⟨j, by rw [List.getElem?_eq_getElem hj, e]⟩
  refine ⟨(lk_mem T.nd).mpr (List.mem_of_getElem? T.hd), fun x e => ?_, fun x a e => ?_, fun x a e h0 => ?_, fun x y d e hx hy => ?_⟩
  · obtain ⟨j, hj⟩ := idx e
    by_cases h0 : j = 0
    · subst h0
      rw [T.hd] at hj
      cases hj
      rfl
    · have := (T.par j x 0 (by omega) hj).1
      omega
  · obtain ⟨j, hj⟩ := idx e
    exact T.mon 0 j _ _ _ _ (Nat.zero_le _) T.hd hj
  · obtain ⟨j, hj⟩ := idx e
    by_cases hj0 : j = 0
    · subst hj0
      rw [T.hd] at hj
      cases hj
      exact absurd rfl h0
    · obtain ⟨_, y, hy, hm⟩ := T.par j x a (by omega) hj
      exact ⟨y, hy, (lk_mem T.nd).mpr hm⟩
  · obtain ⟨j, hj⟩ := idx e
    have hl := (List.getElem?_eq_some_iff.mp hj).1
    obtain ⟨a, ha, l⟩ := T.done j y d x (by omega) hj hx hy
    exact ⟨a, (lk_mem T.nd).mpr ha, l⟩
end
/-! ### the lowest shortest walk -/
/-- w goes down to last, lowest step first; i of its steps made -/
structure Lw (F : Stp → List Stp) (D : Stp → Option Int) (first : Stp) (d : Nat) (i : Nat) (w : List Stp) : Prop where
  len : w.length = i + 1
  hd : w[0]? = some first
  dist : ∀ (j : Nat) (x : Stp), w[j]? = some x → D x = some ((d : Int) - j)
  st : ∀ (j : Nat) (x y : Stp), w[j]? = some x → w[j + 1]? = some y → y ∈ F x ∧ ∀ z, z ∈ F x → D z = some ((d : Int) - (j + 1)) → cd y ≤ cd z
section
variable {F : Stp → List Stp} {S : List Stp} {first last : Stp} {p : Nat} {kv : List (Stp × Opt Stp)} {ks : List Stp} {pi : Nat → Nat} {D : Stp → Option Int} {d : Nat} {w y : List Stp}
/-- y goes back from last by parents, then turned -/
structure Bk (ks : List Stp) (pi : Nat → Nat) (first last : Stp) (y : List Stp) : Prop where
  hd : y[0]? = some first
  lst : y[y.length - 1]? = some last
  st : ∀ (i : Nat) (u v : Stp), y[i]? = some u → y[i + 1]? = some v → ∃ a, 0 < a ∧ ks[a]? = some v ∧ ks[pi a]? = some u
theorem same_walk (T : Tr F first p kv ks pi) (hF : ∀ x, (F x).Pairwise fun a b => cd a < cd b) (hS : ∀ x ∈ ks, x ∈ S) (Di : Dist F S last D) {jl : Nat} (hjl : ks[jl]? = some last) (hp : 0 < jl → pi jl + 1 = p)
    (W : Lw F D first d d w) (B : Bk ks pi first last y) : y = w := by
  have ins : ∀ {a : Nat} {x : Stp}, ks[a]? = some x → x ∈ S := fun h => hS _ (List.mem_of_getElem? h)
  have cdi : ∀ {u a b : Stp}, a ∈ F u → b ∈ F u → cd a = cd b → a = b := fun {u a b} ha hb e => by
    obtain ⟨i, hi, ei⟩ := List.getElem_of_mem ha
    obtain ⟨j, hj, ej⟩ := List.getElem_of_mem hb
    have pw := List.pairwise_iff_getElem.mp (hF u)
    rcases Nat.lt_trichotomy i j with l | l | l
    · have := pw i j hi hj l; rw [ei, ej] at this; omega
    · subst l; rw [← ei, ← ej]
    · have := pw j i hj hi l; rw [ei, ej] at this; omega
  have y0 := (List.getElem?_eq_some_iff.mp B.hd).1
  obtain ⟨m, hm⟩ : ∃ m, y.length = m + 1 := ⟨y.length - 1, by omega⟩
  have yl : y[m]? = some last := by have := B.lst; rwa [hm] at this
  have yget : ∀ {i : Nat}, i ≤ m → ∃ u, y[i]? = some u := fun {i} hi => ⟨_, List.getElem?_eq_getElem (by omega)⟩
  have wget : ∀ {i : Nat}, i ≤ d → ∃ u, w[i]? = some u := fun {i} hi => ⟨_, List.getElem?_eq_getElem (by rw [W.len]; omega)⟩
  -- the keys along y
  have ky : ∀ (i : Nat) (u : Stp), y[i]? = some u → ∃ a, ks[a]? = some u ∧ T.E a = i := by
    intro i
    induction i with
    | zero => intro u hu; rw [B.hd] at hu; cases hu; exact ⟨0, T.hd, T.E_zero⟩
    | succ i ih =>
      intro u hu
      have hl := (List.getElem?_eq_some_iff.mp hu).1
      obtain ⟨v, hv⟩ := yget (i := i) (by omega)
      obtain ⟨a, a0, ha, hpa⟩ := B.st i v u hv hu
      obtain ⟨a', ha', ea⟩ := ih v hv
      have := get_inj T.nd hpa ha'
      refine ⟨a, ha, ?_⟩
      rw [T.E_succ a0 (List.getElem?_eq_some_iff.mp ha).1, this, ea]
  have Ejl : T.E jl = m := by
    obtain ⟨a, ha, e⟩ := ky m last yl
    rw [get_inj T.nd hjl ha, e]
  have jlen := (List.getElem?_eq_some_iff.mp hjl).1
  -- shallow keys are processed
  have proc : ∀ {a : Nat}, a < ks.length → T.E a + 2 ≤ m → a < p := fun {a} ha hE => by
    have j0 : 0 < jl := Nat.pos_of_ne_zero fun z => by rw [z, T.E_zero] at Ejl; omega
    have e1 := T.E_succ j0 jlen
    have e2 := hp j0
    by_cases h : a < p
    · exact h
    · have pl := (T.par jl last j0 hjl).1
      have := T.E_mono a (pi jl) a (Nat.le_refl _) (by omega) ha
      omega
  have Dfirst : D first = some (d : Int) := by have := W.dist 0 first W.hd; simpa using this
  have wl : w[d]? = some last := by
    obtain ⟨u, hu⟩ := wget (i := d) (Nat.le_refl _)
    have := W.dist d u hu
    rw [Int.sub_self] at this
    rw [hu, Di.zero u this]
  have stepF : ∀ {i : Nat} {u v : Stp}, y[i]? = some u → y[i + 1]? = some v → v ∈ F u ∧ u ∈ S := fun {i u v} hu hv => by
    obtain ⟨a, a0, ha, hpa⟩ := B.st i u v hu hv
    obtain ⟨_, _, z, hz, _, hm, _⟩ := T.par a v a0 ha
    rw [hpa] at hz
    cases hz
    exact ⟨hm, ins hpa⟩
  have up : ∀ (j : Nat), j ≤ m → ∀ u, y[m - j]? = some u → ∃ a, D u = some a ∧ a ≤ j := by
    intro j
    induction j with
    | zero => intro _ u hu; rw [Nat.sub_zero, yl] at hu; cases hu; exact ⟨0, Di.lst, Int.le_refl _⟩
    | succ j ih =>
      intro hj u hu
      obtain ⟨v, hv⟩ := yget (i := m - (j + 1) + 1) (by omega)
      obtain ⟨h1, h2⟩ := stepF hu hv
      rw [show m - (j + 1) + 1 = m - j by omega] at hv
      obtain ⟨a, ea, la⟩ := ih (by omega) v hv
      obtain ⟨b, eb, lb⟩ := Di.near u v a ea h2 h1
      exact ⟨b, eb, by omega⟩
  have lo : ∀ (i : Nat) (u : Stp), y[i]? = some u → ∀ a, D u = some a → (d : Int) - i ≤ a := by
    intro i
    induction i with
    | zero =>
      intro u hu a ea
      rw [B.hd] at hu
      cases hu
      rw [Dfirst] at ea
      cases ea
      omega
    | succ i ih =>
      intro v hv a ea
      have hl := (List.getElem?_eq_some_iff.mp hv).1
      obtain ⟨u, hu⟩ := yget (i := i) (by omega)
      obtain ⟨h1, h2⟩ := stepF hu hv
      obtain ⟨b, eb, lb⟩ := Di.near u v a ea h2 h1
      have := ih u hu b eb
      omega
  have dm : d ≤ m := by
    obtain ⟨a, ea, la⟩ := up m (Nat.le_refl _) first (by rw [Nat.sub_self]; exact B.hd)
    rw [Dfirst] at ea
    cases ea
    omega
  have kw : ∀ (i : Nat), i ≤ d → i + 1 ≤ m → ∀ u, w[i]? = some u → ∃ b, ks[b]? = some u ∧ T.E b ≤ i := by
    intro i
    induction i with
    | zero => intro _ _ u hu; rw [W.hd] at hu; cases hu; exact ⟨0, T.hd, by rw [T.E_zero]; exact Nat.le_refl _⟩
    | succ i ih =>
      intro hi hm1 v hv
      obtain ⟨u, hu⟩ := wget (i := i) (by omega)
      obtain ⟨b, hb, eb⟩ := ih (by omega) (by omega) u hu
      obtain ⟨b', hb', eb', _⟩ := T.next (proc (List.getElem?_eq_some_iff.mp hb).1 (by omega)) hb (W.st i u v hu hv).1
      exact ⟨b', hb', by omega⟩
  have md : m = d := by
    rcases Nat.lt_or_ge d m with h | h
    · obtain ⟨b, hb, eb⟩ := kw d (Nat.le_refl _) (by omega) last wl
      rw [get_inj T.nd hb hjl, Ejl] at eb
      omega
    · omega
  subst md
  have yD : ∀ {i : Nat} {u : Stp}, y[i]? = some u → D u = some ((m : Int) - i) := fun {i u} hu => by
    have hl := (List.getElem?_eq_some_iff.mp hu).1
    obtain ⟨a, ea, la⟩ := up (m - i) (by omega) u (by rw [show m - (m - i) = i by omega]; exact hu)
    have := lo i u hu a ea
    rw [ea, show a = (m : Int) - i by omega]
  -- the same, step by step
  have same : ∀ (i : Nat), i ≤ m → y[i]? = w[i]? := by
    intro i
    induction i with
    | zero => intro _; rw [B.hd, W.hd]
    | succ j ih =>
      intro hj
      have e := ih (by omega)
      obtain ⟨u, hu⟩ := yget (i := j) (by omega)
      obtain ⟨yv, hyv⟩ := yget (i := j + 1) hj
      obtain ⟨wv, hwv⟩ := wget (i := j + 1) hj
      have hu' : w[j]? = some u := e ▸ hu
      by_cases hlast : j + 1 = m
      · rw [hlast, yl, wl]
      by_cases heq : yv = wv
      · rw [hyv, hwv, heq]
      exfalso
      have s1 := (stepF hu hyv).1
      obtain ⟨s2, s3⟩ := W.st j u wv hu' hwv
      have le := s3 yv s1 (by rw [yD hyv]; congr 1)
      have lt : cd wv < cd yv := by
        have : cd wv ≠ cd yv := fun z => heq (cdi s2 s1 z).symm
        omega
      have chain : ∀ (k : Nat), j + 1 + k + 1 ≤ m → ∀ (u1 v1 : Stp), w[j + 1 + k]? = some u1 → y[j + 1 + k]? = some v1 → ∃ (b a : Nat), ks[b]? = some u1 ∧ ks[a]? = some v1 ∧ b < a := by
        intro k
        induction k with
        | zero =>
          intro _ u1 v1 h1 h2
          rw [Nat.add_zero] at h1 h2
          rw [hwv] at h1
          rw [hyv] at h2
          cases h1
          cases h2
          obtain ⟨a, a0, ha, hpa⟩ := B.st j u yv hu hyv
          obtain ⟨_, pp, _⟩ := T.par a yv a0 ha
          obtain ⟨b, hb, _, hle⟩ := T.next pp hpa s2
          refine ⟨b, a, hb, ha, ?_⟩
          rcases Nat.lt_trichotomy b a with l | l | l
          · exact l
          · subst l
            rw [hb] at ha
            cases ha
            exact absurd rfl heq
          · obtain ⟨m1, m2⟩ := T.mono a b yv wv a0 l ha hb
            have := m2 (by have := hle (by omega); omega)
            omega
        | succ k ihk =>
          intro hk u1 v1 h1 h2
          obtain ⟨u0, hu0⟩ := wget (i := j + 1 + k) (by omega)
          obtain ⟨v0, hv0⟩ := yget (i := j + 1 + k) (by omega)
          obtain ⟨b, a, hb, ha, hba⟩ := ihk (by omega) u0 v0 hu0 hv0
          obtain ⟨a', a0, ha', hpa⟩ := B.st (j + 1 + k) v0 v1 hv0 h2
          have ea := get_inj T.nd hpa ha
          obtain ⟨_, pp, _⟩ := T.par a' v1 a0 ha'
          obtain ⟨b', hb', _, hle⟩ := T.next (i := b) (by omega) hb (W.st _ u0 u1 hu0 h1).1
          refine ⟨b', a', hb', ha', ?_⟩
          by_cases b0 : 0 < b'
          · have := hle b0
            rcases Nat.lt_trichotomy b' a' with l | l | l
            · exact l
            · subst l; omega
            · have := (T.mono a' b' v1 u1 a0 l ha' hb').1
              omega
          · omega
      obtain ⟨u1, hu1⟩ := wget (i := m - 1) (by omega)
      obtain ⟨v1, hv1⟩ := yget (i := m - 1) (by omega)
      obtain ⟨b, a, hb, ha, hba⟩ := chain (m - 1 - (j + 1)) (by omega) u1 v1 (by rw [show j + 1 + (m - 1 - (j + 1)) = m - 1 by omega]; exact hu1) (by rw [show j + 1 + (m - 1 - (j + 1)) = m - 1 by omega]; exact hv1)
      obtain ⟨a', a0, ha', hpa⟩ := B.st (m - 1) v1 last hv1 (by rw [show m - 1 + 1 = m by omega]; exact yl)
      have ea := get_inj T.nd hpa ha
      obtain ⟨_, _, _, _, _, _, hn⟩ := T.par a' last a0 ha'
      exact hn b u1 (by omega) hb (W.st (m - 1) u1 last hu1 (by rw [show m - 1 + 1 = m by omega]; exact wl)).1
  refine List.ext_getElem? fun i => ?_
  by_cases hi : i ≤ m
  · exact same i hi
  · rw [List.getElem?_eq_none (by omega), List.getElem?_eq_none (by rw [W.len]; omega)]
end
end PM

namespace K10
open PySem L2 G PM
/-- the exceptions that may come up -/
def kn : XC → Bool := fun c => decide (c ∈ ([.BadSides, .TooLarge, .UnknownPlace, .UnknownSide, .UnknownTie] : List XC))
/-- _law_faced -/
noncomputable def l_faced_m (draws_here : (List Int)) (most_places : Int) (most_ties : Int) : M (T3 (List Int) (List (T4 Int Int Int Int)) (List Int)) :=
  (M.ok [(2 : Int), (2 : Int), (3 : Int), (2 : Int), (1 : Int), (4 : Int)]) >>= fun menu_1 =>
  ((l_pick_m draws_here (0 : Int) most_places) >>= fun t2 => (M.ok ((1 : Int) + t2))) >>= fun many_3 =>
  (M.ok ([] : (List Int))) >>= fun sides_4 =>
  (M.ok ([] : (List (Int × Int)))) >>= fun gates_5 =>
  (M.range many_3) >>= fun l41 =>
  M.fold (fun (s6 : ((List Int) × (List (Int × Int)))) x7 =>
    ((l_pick_m draws_here ((2 : Int) + ((3 : Int) * x7)) (6 : Int)) >>= fun t8 => (M.ix menu_1 t8)) >>= fun count_9 =>
      (l_pick_m draws_here ((3 : Int) + ((3 : Int) * x7)) count_9) >>= fun out_10 =>
      M.push s6.1 (M.ok count_9) >>= fun sides_11 =>
      M.push s6.2 ((((l_pick_m draws_here ((4 : Int) + ((3 : Int) * x7)) (count_9 - (1 : Int))) >>= fun t12 => (M.ok ((out_10 + (1 : Int)) + t12))) >>= fun t13 => (M.asrt (0 < count_9) (.ok (t13 % count_9)))) >>= fun t14 => (M.ok (out_10, t14))) >>= fun gates_15 =>
      M.ok (sides_11, gates_15)) (sides_4, gates_5) l41 >>= fun (s16 : ((List Int) × (List (Int × Int)))) =>
  (M.ok ([] : (List (T4 Int Int Int Int)))) >>= fun ties_17 =>
  (M.ok ([] : (List Int))) >>= fun directions_18 =>
  ((l_pick_m draws_here (1 : Int) (most_ties + (1 : Int))) >>= fun t20 => (M.range t20)) >>= fun l40 =>
  M.fold (fun (s19 : ((List (T4 Int Int Int Int)) × (List Int))) x21 =>
    (M.ok (((2 : Int) + ((3 : Int) * many_3)) + ((3 : Int) * x21))) >>= fun at__22 =>
      (l_pick_m draws_here at__22 many_3) >>= fun one_23 =>
      (l_pick_m draws_here (at__22 + (1 : Int)) many_3) >>= fun other_24 =>
      ((l_pick_m draws_here (at__22 + (2 : Int)) (2 : Int)) >>= fun t25 => (M.ok (decide (t25 = (0 : Int))))) >>= fun b38 => if b38 then
      M.push s19.1 (((M.ix s16.2 one_23) >>= fun t26 => (M.ok t26.1)) >>= fun t28 => (((M.ix s16.2 other_24) >>= fun t27 => (M.ok t27.2)) >>= fun t29 => (M.ok ⟨one_23, t28, other_24, t29⟩))) >>= fun ties_30 =>
        M.push s19.2 (M.ok (0 : Int)) >>= fun directions_31 =>
        M.ok (ties_30, directions_31)
    else
      M.push s19.1 (((M.ix s16.2 other_24) >>= fun t32 => (M.ok t32.2)) >>= fun t34 => (((M.ix s16.2 one_23) >>= fun t33 => (M.ok t33.1)) >>= fun t35 => (M.ok ⟨other_24, t34, one_23, t35⟩))) >>= fun ties_36 =>
        M.push s19.2 (M.ok (1 : Int)) >>= fun directions_37 =>
        M.ok (ties_36, directions_37)) (ties_17, directions_18) l40 >>= fun (s39 : ((List (T4 Int Int Int Int)) × (List Int))) =>
  M.ok ⟨s16.1, s39.1, s39.2⟩
/-- _law_lane -/
noncomputable def l_lane_m (draws_here : (List Int)) : M ((List Int) × (List (T4 Int Int Int Int))) :=
  ((l_pick_m draws_here (0 : Int) (5 : Int)) >>= fun t1 => (M.ok ((8 : Int) + t1))) >>= fun many_2 =>
  (M.ok ([] : (List (T4 Int Int Int Int)))) >>= fun ties_3 =>
  (M.range many_2) >>= fun l25 =>
  M.fold (fun (s4 : (List (T4 Int Int Int Int))) x5 =>
    (M.ok (x5 + (1 : Int))) >>= fun far_here_6 =>
      (if (decide (far_here_6 = many_2)) then
      (l_pick_m draws_here (1 : Int) many_2) >>= fun far_here_7 =>
        M.ok far_here_7
    else
      M.ok far_here_6) >>= (fun s8 : Int =>
      (((l_pick_m draws_here ((2 : Int) + x5) (2 : Int)) >>= fun t10 => (M.ok ((1 : Int) + t10))) >>= fun t11 => (M.range t11)) >>= fun l19 =>
      M.fold (fun (s9 : (List (T4 Int Int Int Int))) x12 =>
        (l_pick_m draws_here (((20 : Int) + ((2 : Int) * x5)) + x12) ((s9.length : Int) + (1 : Int))) >>= fun at__13 =>
          ((l_pick_m draws_here (((21 : Int) + x5) + ((3 : Int) * x12)) (2 : Int)) >>= fun t14 => (M.ok (decide (t14 = (0 : Int))))) >>= fun b17 => if b17 then
          M.insert s9 (M.ok at__13) (M.ok ⟨x5, (1 : Int), s8, (0 : Int)⟩) >>= fun ties_15 =>
            M.ok ties_15
        else
          M.insert s9 (M.ok at__13) (M.ok ⟨s8, (0 : Int), x5, (1 : Int)⟩) >>= fun ties_16 =>
            M.ok ties_16) s4 l19 >>= fun (s18 : (List (T4 Int Int Int Int))) =>
      M.ok s18)) ties_3 l25 >>= fun (s20 : (List (T4 Int Int Int Int))) =>
  (((M.range many_2) >>= M.comp (fun _ => (M.ok true)) (fun x23 => (M.ok (2 : Int)))) >>= fun t24 => (M.ok (t24, s20)))
/-- _law_table -/
noncomputable def l_table_m (ties : (List (T4 Int Int Int Int))) : M (DK (Int × Int) (List (Int × Int))) :=
  (M.ok (⟨[]⟩ : (DK (Int × Int) (List (Int × Int))))) >>= fun table_here_1 =>
  (M.range (ties.length : Int)) >>= fun l30 =>
  M.fold (fun (s2 : (DK (Int × Int) (List (Int × Int)))) x3 =>
    (M.range (2 : Int)) >>= fun l28 =>
      M.fold (fun (s4 : (DK (Int × Int) (List (Int × Int)))) x5 =>
        ((M.ix ties x3) >>= fun t6 => (M.ofO (T4.at4 t6 ((2 : Int) - ((2 : Int) * x5))))) >>= fun place_7 =>
          ((M.ix ties x3) >>= fun t8 => (M.ofO (T4.at4 t8 ((3 : Int) - ((2 : Int) * x5))))) >>= fun side_9 =>
          (M.ok ([] : (List (Int × Int)))) >>= fun found_10 =>
          (M.range (ties.length : Int)) >>= fun l26 =>
          M.fold (fun (s11 : (List (Int × Int))) x12 =>
            (M.range (2 : Int)) >>= fun l23 =>
              M.fold (fun (s13 : (List (Int × Int))) x14 =>
                ((((M.ix ties x12) >>= fun t15 => (M.ofO (T4.at4 t15 ((2 : Int) * x14)))) >>= fun t16 => (M.ok (decide (t16 = place_7)))) >>= fun b19 => (if b19 then (((M.ix ties x12) >>= fun t17 => (M.ofO (T4.at4 t17 (((2 : Int) * x14) + (1 : Int))))) >>= fun t18 => (M.ok (!decide (t18 = side_9)))) else .ok false)) >>= fun b21 => if b21 then
                  M.push s13 (M.ok (x12, x14)) >>= fun found_20 =>
                    M.ok found_20
                else
                  M.ok s13) s11 l23 >>= fun (s22 : (List (Int × Int))) =>
              M.ok s22) found_10 l26 >>= fun (s24 : (List (Int × Int))) =>
          M.dputK s4 (M.ok (x3, x5)) (M.ok s24) >>= fun table_here_25 =>
          M.ok table_here_25) s2 l28 >>= fun (s27 : (DK (Int × Int) (List (Int × Int)))) =>
      M.ok s27) table_here_1 l30 >>= fun (s29 : (DK (Int × Int) (List (Int × Int)))) =>
  (M.ok s29)
/-- _law_reached -/
noncomputable def l_reached_m (table_here : (DK (Int × Int) (List (Int × Int)))) (first : (Int × Int)) : M (List (Int × Int)) :=
  (M.ok ([] : (List (Int × Int)))) >>= fun found_1 =>
  (M.ok [first]) >>= fun row_2 =>
  (M.range ((table_here.kv.length : Int) + (1 : Int))) >>= fun l13 =>
  M.fold (fun (s3 : ((List (Int × Int)) × (List (Int × Int)))) x4 =>
    if (decide (x4 < (s3.2.length : Int))) then
      ((M.ix s3.2 x4) >>= fun t6 => (M.ofO (lkD table_here.kv t6))) >>= fun l11 =>
        M.fold (fun (s5 : ((List (Int × Int)) × (List (Int × Int)))) x7 =>
          if (!memB x7 s5.1) then
            M.push s5.1 (M.ok x7) >>= fun found_8 =>
              if (!decide (x7 = first)) then
              M.push s5.2 (M.ok x7) >>= fun row_9 =>
                M.ok (found_8, row_9)
            else
              M.ok (found_8, s5.2)
          else
            M.ok (s5.1, s5.2)) (s3.1, s3.2) l11 >>= fun (s10 : ((List (Int × Int)) × (List (Int × Int)))) =>
        M.ok (s10.1, s10.2)
    else
      M.ok (s3.1, s3.2)) (found_1, row_2) l13 >>= fun (s12 : ((List (Int × Int)) × (List (Int × Int)))) =>
  (M.sortD s12.1)
/-- reached -/
noncomputable def p_reached_m (web : WebM) (first : (Int × Int)) : M (List (Int × Int)) :=
  (M.ok (⟨[]⟩ : PS)) >>= fun found_1 =>
  (M.ok [first]) >>= fun waiting_2 =>
  M.loop (fun (s3 : (PS × (List (Int × Int)))) => (M.ok (!s3.2.isEmpty))) (fun (s3 : (PS × (List (Int × Int)))) =>
    (M.popL s3.2) >>= fun p4 =>
      (p_followers_m web p4.2) >>= fun l10 =>
      M.fold (fun (s5 : (PS × (List (Int × Int)))) x6 =>
        if (!memB x6 s5.1.l) then
          M.paddM s5.1 (M.ok x6) >>= fun found_7 =>
            M.push s5.2 (M.ok x6) >>= fun waiting_8 =>
            M.ok (found_7, waiting_8)
        else
          M.ok (s5.1, s5.2)) (s3.1, p4.1) l10 >>= fun (s9 : (PS × (List (Int × Int)))) =>
      M.ok (s9.1, s9.2)) (found_1, waiting_2) >>= fun (s11 : (PS × (List (Int × Int)))) =>
  (M.sortP s11.1)
/-- shortest_walk -/
noncomputable def p_shortest_walk_m (web : WebM) (first : (Int × Int)) (last : (Int × Int)) : M (Opt (List (Int × Int))) :=
  (m_Web_tail_m web first) >>= fun _ =>
  (m_Web_tail_m web last) >>= fun _ =>
  (M.ok (⟨[(first, .none)]⟩ : (DK (Int × Int) (Opt (Int × Int))))) >>= fun before_1 =>
  (M.ok [first]) >>= fun waiting_2 =>
  M.loop (fun (s3 : ((DK (Int × Int) (Opt (Int × Int))) × (List (Int × Int)))) => (M.ok ((!s3.2.isEmpty) && (!(lkD s3.1.kv last).isSome)))) (fun (s3 : ((DK (Int × Int) (Opt (Int × Int))) × (List (Int × Int)))) =>
    (M.popAt s3.2 (M.ok (0 : Int))) >>= fun p4 =>
      (p_followers_m web p4.2) >>= fun l10 =>
      M.fold (fun (s5 : ((DK (Int × Int) (Opt (Int × Int))) × (List (Int × Int)))) x6 =>
        if (!(lkD s5.1.kv x6).isSome) then
          M.dputK s5.1 (M.ok x6) (M.ok (.some p4.2)) >>= fun before_7 =>
            M.push s5.2 (M.ok x6) >>= fun waiting_8 =>
            M.ok (before_7, waiting_8)
        else
          M.ok (s5.1, s5.2)) (s3.1, p4.1) l10 >>= fun (s9 : ((DK (Int × Int) (Opt (Int × Int))) × (List (Int × Int)))) =>
      M.ok (s9.1, s9.2)) (before_1, waiting_2) >>= fun (s11 : ((DK (Int × Int) (Opt (Int × Int))) × (List (Int × Int)))) =>
  if (!(lkD s11.1.kv last).isSome) then
  M.ok .none
else
  (M.ok [last]) >>= fun walk_12 =>
    M.loop (fun (s13 : (List (Int × Int))) => ((M.ix s13 (-(1 : Int))) >>= fun t14 => (M.ok (!decide (t14 = first))))) (fun (s13 : (List (Int × Int))) =>
      M.push s13 (((M.ix s13 (-(1 : Int))) >>= fun t15 => (M.ofO (lkD s11.1.kv t15))) >>= M.ofOpt) >>= fun walk_16 =>
        M.ok walk_16) walk_12 >>= fun (s17 : (List (Int × Int))) =>
    (M.ok (.some s17.reverse))
/-- _law_told -/
noncomputable def l_told_m (web_here : WebM) (first : (Int × Int)) (last : (Int × Int)) (which : Int) : M PyData :=
  M.tryK kn (fun c => XC.isA c .ComesapartError) (if (decide (which = (0 : Int))) then
  (((p_reached_m web_here first) >>= fun t1 => (M.ok (PyData.list (t1.map UD.toU)))) >>= fun t2 => (M.ok (PyData.tuple [(UD.toU ("told" : PySem.Str)), t2])))
else
  (((p_shortest_walk_m web_here first last) >>= fun t3 => (M.ok (optU (fun xs : (List (Int × Int)) => PyData.list (xs.map UD.toU)) t3))) >>= fun t4 => (M.ok (PyData.tuple [(UD.toU ("told" : PySem.Str)), t4]))))
  fun px5 => (if (XC.isA px5.cls .UnknownTie) then (if true then (M.calm ((px5.fld .UnknownTie "tie") >>= fun t6 => (l_is_number_m t6))) else .ok false) else .ok false) >>= fun b9 => if b9 then
    (((px5.fld .UnknownTie "tie") >>= fun t7 => (M.ok (("tie" : PySem.Str), t7))) >>= fun t8 => (M.ok (UD.toU t8)))
  else
    (M.ok (UD.toU (⟨[("other" : PySem.Str)]⟩ : Tup PySem.Str)))
/-- _law_right_first -/
noncomputable def l_right_first_m (web_here : WebM) (table_here : (DK (Int × Int) (List (Int × Int)))) (first : (Int × Int)) : M Bool :=
  ((l_reached_m table_here first) >>= fun t1 => (M.ok (("told" : PySem.Str), t1))) >>= fun due_2 =>
  (l_told_m web_here first first (0 : Int)) >>= fun told_here_3 =>
  ((M.calm (l_same_m 9 told_here_3 (UD.toU due_2))) >>= fun t4 => (M.ok (!t4))) >>= fun b7 => if b7 then
  (M.ok false)
else
  M.appU told_here_3 (M.ok (1 : Int)) (M.ok (UD.toU ((0 : Int), (0 : Int)))) >>= fun told_here_5 =>
    ((l_told_m web_here first first (0 : Int)) >>= fun t6 => (l_same_m 9 t6 (UD.toU due_2)))
/-- _law_far -/
noncomputable def l_far_m (table_here : (DK (Int × Int) (List (Int × Int)))) (last : (Int × Int)) : M (DK (Int × Int) Int) :=
  (M.ok (⟨[(last, (0 : Int))]⟩ : (DK (Int × Int) Int))) >>= fun far_here_1 =>
  (M.ok [last]) >>= fun row_2 =>
  (M.range (table_here.kv.length : Int)) >>= fun l18 =>
  M.fold (fun (s3 : ((DK (Int × Int) Int) × (List (Int × Int)))) x4 =>
    if (decide (x4 < (s3.2.length : Int))) then
      (M.ok (table_here.kv.map Prod.fst)) >>= fun l16 =>
        M.fold (fun (s5 : ((DK (Int × Int) Int) × (List (Int × Int)))) x6 =>
          (((M.ix s5.2 x4) >>= fun t7 => ((M.ofO (lkD table_here.kv x6)) >>= fun t8 => (M.ok (memB t7 t8)))) >>= fun b9 => (if b9 then (M.ok (!(lkD s5.1.kv x6).isSome)) else .ok false)) >>= fun b14 => if b14 then
            M.dputK s5.1 (M.ok x6) (((M.ix s5.2 x4) >>= fun t10 => (M.ofO (lkD s5.1.kv t10))) >>= fun t11 => (M.ok (t11 + (1 : Int)))) >>= fun far_here_12 =>
              M.push s5.2 (M.ok x6) >>= fun row_13 =>
              M.ok (far_here_12, row_13)
          else
            M.ok (s5.1, s5.2)) (s3.1, s3.2) l16 >>= fun (s15 : ((DK (Int × Int) Int) × (List (Int × Int)))) =>
        M.ok (s15.1, s15.2)
    else
      M.ok (s3.1, s3.2)) (far_here_1, row_2) l18 >>= fun (s17 : ((DK (Int × Int) Int) × (List (Int × Int)))) =>
  (M.ok s17.1)
/-- _law_lowest -/
noncomputable def l_lowest_m (table_here : (DK (Int × Int) (List (Int × Int)))) (far_here : (DK (Int × Int) Int)) (first : (Int × Int)) : M (Opt (List (Int × Int))) :=
  if (!(lkD far_here.kv first).isSome) then
  (M.ok .none)
else
  (M.ok [first]) >>= fun walk_1 =>
    ((M.ofO (lkD far_here.kv first)) >>= fun t3 => (M.range t3)) >>= fun l18 =>
    M.fold (fun (s2 : (List (Int × Int))) x4 =>
      ((M.ix s2 (-(1 : Int))) >>= fun t6 => (M.ofO (lkD table_here.kv t6))) >>= fun l16 =>
        M.foldC (fun (s5 : (List (Int × Int))) x7 =>
          (if ((lkD far_here.kv x7).isSome) then ((M.ofO (lkD far_here.kv x7)) >>= fun t10 => ((((M.ix s5 (-(1 : Int))) >>= fun t8 => (M.ofO (lkD far_here.kv t8))) >>= fun t9 => (M.ok (t9 - (1 : Int)))) >>= fun t11 => (M.ok (decide (t10 = t11))))) else .ok false) >>= fun b13 => if b13 then
            M.push s5 (M.ok x7) >>= fun walk_12 =>
              M.ok (.bk walk_12)
          else
            M.ok (.nx s5)) s2 l16 >>= fun c15 => Ct.go c15 (fun (r : Empty) => nomatch r) fun (s14 : (List (Int × Int))) =>
        M.ok s14) walk_1 l18 >>= fun (s17 : (List (Int × Int))) =>
    (M.ok (.some s17))
/-- _law_right_last -/
noncomputable def l_right_last_m (web_here : WebM) (table_here : (DK (Int × Int) (List (Int × Int)))) (first : (Int × Int)) (last : (Int × Int)) : M Bool :=
  ((l_far_m table_here last) >>= fun t1 => (l_lowest_m table_here t1 first)) >>= fun due_2 =>
  (l_told_m web_here first last (1 : Int)) >>= fun told_here_3 =>
  ((M.calm (l_same_m 9 told_here_3 (UD.toU (("told" : PySem.Str), due_2)))) >>= fun t4 => (M.ok (!t4))) >>= fun b8 => if b8 then
  (M.ok false)
else
  (if (!due_2.isNone) then
    M.appU told_here_3 (M.ok (1 : Int)) (M.ok (UD.toU ((0 : Int), (0 : Int)))) >>= fun told_here_5 =>
      M.ok ()
  else
    M.ok ()) >>= (fun s6 : Unit =>
    ((l_told_m web_here first last (1 : Int)) >>= fun t7 => (l_same_m 9 t7 (UD.toU (("told" : PySem.Str), due_2)))))
/-- _law_right_steps -/
noncomputable def l_right_steps_m (web_here : WebM) (ties : (List (T4 Int Int Int Int))) (draws_here : (List Int)) (at_ : Int) (many : Int) : M Bool :=
  if (decide ((ties.length : Int) = (0 : Int))) then
  (M.ok true)
else
  (l_table_m ties) >>= fun table_here_1 =>
    ((l_pick_m draws_here at_ (ties.length : Int)) >>= fun t2 => ((l_pick_m draws_here (at_ + (1 : Int)) (2 : Int)) >>= fun t3 => (M.ok (t2, t3)))) >>= fun first_4 =>
    (M.ok (first_4.1, ((1 : Int) - first_4.2))) >>= fun back_5 =>
    (((l_right_first_m web_here table_here_1 first_4) >>= fun t6 => (M.ok (!t6))) >>= fun b8 => (if b8 then .ok true else ((l_right_first_m web_here table_here_1 back_5) >>= fun t7 => (M.ok (!t7))))) >>= fun b27 => if b27 then
    (M.ok false)
  else
    (M.ok [first_4, back_5]) >>= fun lasts_9 =>
      (M.range many) >>= fun l26 =>
      M.fold (fun (s10 : (List (Int × Int))) x11 =>
        M.push s10 ((l_pick_m draws_here ((at_ + (2 : Int)) + ((2 : Int) * x11)) (ties.length : Int)) >>= fun t12 => ((l_pick_m draws_here ((at_ + (3 : Int)) + ((2 : Int) * x11)) (2 : Int)) >>= fun t13 => (M.ok (t12, t13)))) >>= fun lasts_14 =>
          M.ok lasts_14) lasts_9 l26 >>= fun (s15 : (List (Int × Int))) =>
      (if ((decide (many = (4 : Int))) && (decide ((table_here_1.kv.length : Int) < (19 : Int)))) then
      ((M.asrt (table_here_1.kv.length ≤ PySem.sizeLine) (.ok (table_here_1.kv.map Prod.fst))) >>= M.comp (fun _ => (M.ok true)) (fun x16 => (M.ok x16))) >>= fun lasts_17 =>
        M.ok lasts_17
    else
      M.ok s15) >>= (fun s18 : (List (Int × Int)) =>
      (M.ok s18) >>= fun l25 =>
      M.foldC (fun (_ : Unit) x20 =>
        ((l_right_last_m web_here table_here_1 first_4 x20) >>= fun t21 => (M.ok (!t21))) >>= fun b22 => if b22 then
          (M.ok false) >>= fun r => .ok (.rt r)
        else
          M.ok (.nx ())) () l25 >>= fun c24 => Ct.go c24 M.ok fun (_ : Unit) =>
      (M.ok true))
/-- _law_right_refusals -/
noncomputable def l_right_refusals_m (web_here : WebM) (ties : (List (T4 Int Int Int Int))) (draws_here : (List Int)) : M Bool :=
  (M.ok [(-(1 : Int)), (ties.length : Int), ((ties.length : Int) + (5 : Int))]) >>= fun l35 =>
  M.foldC (fun (_ : Unit) x2 =>
    (M.range (2 : Int)) >>= fun l32 =>
      M.foldC (fun (_ : Unit) x4 =>
        (M.ok (x2, x4)) >>= fun bad_5 =>
          (((l_pick_m draws_here ((50 : Int) + x4) (3 : Int)) >>= fun t6 => (M.ix [(-(1 : Int)), (ties.length : Int), ((ties.length : Int) + (3 : Int))] t6)) >>= fun t7 => (M.ok (t7, ((1 : Int) - x4)))) >>= fun worse_8 =>
          (((l_told_m web_here bad_5 bad_5 (0 : Int)) >>= fun t9 => (l_same_m 9 t9 (UD.toU (("tie" : PySem.Str), x2)))) >>= fun t10 => (M.ok (!t10))) >>= fun b29 => if b29 then
          (M.ok false) >>= fun r => .ok (.rt r)
        else
          (((l_told_m web_here bad_5 worse_8 (1 : Int)) >>= fun t11 => (l_same_m 9 t11 (UD.toU (("tie" : PySem.Str), x2)))) >>= fun t12 => (M.ok (!t12))) >>= fun b28 => if b28 then
            (M.ok false) >>= fun r => .ok (.rt r)
          else
            if (decide ((0 : Int) < (ties.length : Int))) then
              ((l_pick_m draws_here (52 : Int) (ties.length : Int)) >>= fun t13 => ((l_pick_m draws_here (53 : Int) (2 : Int)) >>= fun t14 => (M.ok (t13, t14)))) >>= fun good_15 =>
                (M.ok [[bad_5, good_15], [good_15, bad_5]]) >>= fun l27 =>
                M.foldC (fun (_ : Unit) x17 =>
                  ((((M.ix x17 (0 : Int)) >>= fun t20 => ((M.ix x17 (1 : Int)) >>= fun t21 => (l_told_m web_here t20 t21 (1 : Int)))) >>= fun t22 => (l_same_m 9 t22 (UD.toU (("tie" : PySem.Str), x2)))) >>= fun t23 => (M.ok (!t23))) >>= fun b24 => if b24 then
                    (M.ok false) >>= fun r => .ok (.rt r)
                  else
                    M.ok (.nx ())) () l27 >>= fun c26 => Ct.go c26 (fun r => M.ok (.rt r)) fun (_ : Unit) =>
                M.ok (.nx ())
            else
              M.ok (.nx ())) () l32 >>= fun c31 => Ct.go c31 (fun r => M.ok (.rt r)) fun (_ : Unit) =>
      M.ok (.nx ())) () l35 >>= fun c34 => Ct.go c34 M.ok fun (_ : Unit) =>
  (M.ok true)
/-- law -/
noncomputable def law_m (script : (Sq Int)) : M Bool :=
  ((l_cell_m script (0 : Int)) >>= fun t1 => (l_draws_m t1 (60 : Int))) >>= fun draws_here_2 =>
  ((l_cell_m script (1 : Int)) >>= fun t3 => (l_draws_m t3 (60 : Int))) >>= fun extra_4 =>
  (l_pick_m extra_4 (0 : Int) (8 : Int)) >>= fun shape_5 =>
  (l_web_m draws_here_2 (6 : Int) (9 : Int)) >>= fun t6 =>
  (if (decide ((3 : Int) < shape_5)) then
  (l_faced_m draws_here_2 (6 : Int) (9 : Int)) >>= fun t7 =>
    M.ok (t7.a, t7.b)
else
  M.ok (t6.1, t6.2)) >>= (fun s8 : ((List Int) × (List (T4 Int Int Int Int))) =>
  (if (decide (shape_5 = (7 : Int))) then
  (l_lane_m draws_here_2) >>= fun t9 =>
    M.ok (t9.1, t9.2)
else
  M.ok (s8.1, s8.2)) >>= (fun s10 : ((List Int) × (List (T4 Int Int Int Int))) =>
  ((l_cell_m script (2 : Int)) >>= fun t11 => (l_draws_m t11 (60 : Int))) >>= fun more_12 =>
  (((l_cell_m script (3 : Int)) >>= fun t14 => (l_draws_m t14 (60 : Int))) >>= fun t15 => (l_web_m t15 (3 : Int) (6 : Int))) >>= fun t16 =>
  (m_WebX_initX_m s10.1 s10.2) >>= fun web_here_17 =>
  (m_WebX_initX_m t16.1 t16.2) >>= fun other_18 =>
  (((l_right_steps_m web_here_17 s10.2 extra_4 (1 : Int) (4 : Int)) >>= fun t19 => (M.ok (!t19))) >>= fun b21 => (if b21 then .ok true else ((l_right_steps_m other_18 t16.2 more_12 (0 : Int) (2 : Int)) >>= fun t20 => (M.ok (!t20))))) >>= fun b26 => if b26 then
  (M.ok false)
else
  (((l_right_refusals_m web_here_17 s10.2 extra_4) >>= fun t22 => (M.ok (!t22))) >>= fun b24 => (if b24 then .ok true else ((l_right_steps_m web_here_17 s10.2 extra_4 (1 : Int) (1 : Int)) >>= fun t23 => (M.ok (!t23))))) >>= fun b25 => if b25 then
    (M.ok false)
  else
    (M.ok ((decide (web_here_17.a.l = s10.1)) && ((decide (web_here_17.b.l = s10.2)) && (decide (other_18.b.l = t16.2)))))))
end K10

/-! K10p: the plain law. -/
namespace K10
open PySem L2 G PM
/-! dicts keyed by tuples -/
section
variable {κ α : Type} [DecidableEq κ]
theorem lkD_app (k j : κ) (v : α) : ∀ kv : List (κ × α), lkD (kv ++ [(k, v)]) j = match lkD kv j with | some x => some x | none => if k = j then some v else none
  | [] => by simp [lkD]
  | p :: r => by
    rw [List.cons_append]
    unfold lkD
    by_cases h : p.1 = j
    · rw [if_pos h, if_pos h]
    · rw [if_neg h, if_neg h]; exact lkD_app k j v r
theorem lkD_none {k : κ} : ∀ {kv : List (κ × α)}, (∀ p ∈ kv, p.1 ≠ k) → lkD kv k = none
  | [], _ => rfl
  | p :: r, h => by
    unfold lkD
    rw [if_neg (h p List.mem_cons_self)]
    exact lkD_none fun q hq => h q (List.mem_cons_of_mem _ hq)
theorem lkD_map {f : κ → α} {k : κ} : ∀ {ks : List κ}, k ∈ ks → lkD (ks.map fun s => (s, f s)) k = some (f k)
  | s :: r, h => by
    rw [List.map_cons]
    unfold lkD
    by_cases e : s = k
    · subst e; rw [if_pos rfl]
    · rw [if_neg e]
      rcases List.mem_cons.mp h with z | z
      · exact absurd z.symm e
      · exact lkD_map z
theorem dputK_new {x : DK κ α} {k : κ} {v : α} (h : x.kv.length ≤ 100000) (hn : lkD x.kv k = none) : M.dputK x (.ok k) (.ok v) = .ok ⟨x.kv ++ [(k, v)]⟩ := by
  unfold M.dputK
  simp only [M.ok_bind]
  rw [M.asrt_pos (small1k h)]
  unfold putD
  rw [hn, if_neg (by simp)]
end
section
variable {ties : List T4I}
def TB (ties : List T4I) : DK (Int × Int) (List (Int × Int)) := ⟨(allSteps ties.length).map fun s => (s, fols ties s)⟩
theorem lk_TB {s : Int × Int} (h : IsStep ties s) : lkD (TB ties).kv s = some (fols ties s) := lkD_map (mem_allSteps.mpr h)
theorem keys_TB : (TB ties).kv.map Prod.fst = allSteps ties.length := by
  unfold TB
  rw [List.map_map]
  show (allSteps ties.length).map (fun s => s) = _
  rw [List.map_id']
theorem fold_two {σ : Type} {f : σ → Int → M σ} {s : σ} : (M.fold f s [0, 1] >>= fun s27 => M.ok s27) = (f s 0 >>= fun s' => f s' 1) := by
  simp only [M.fold]
  cases f s 0 with
  | ok x => simp only [M.ok_bind]; cases f x 1 <;> rfl
  | bad => rfl
  | exc x => rfl
theorem range2 : M.range (2 : Int) = .ok [0, 1] := by rw [M.range_ok (by decide) (by decide)]; rfl
theorem at_tl {i d : Int} (h0 : 0 ≤ i) (h1 : i < ties.length) (hd : d = 0 ∨ d = 1) : ((M.ix ties i) >>= fun t => (M.ofO (T4.at4 t ((2 : Int) * d)))) = .ok (tl ties (i, d)).1 ∧ ((M.ix ties i) >>= fun t => (M.ofO (T4.at4 t (((2 : Int) * d) + (1 : Int))))) = .ok (tl ties (i, d)).2 := by
  rw [M.ix_getD ⟨0, 0, 0, 0⟩ h0 h1]
  unfold tl
  rcases hd with rfl | rfl <;> exact ⟨rfl, rfl⟩
theorem at_hd {i d : Int} (h0 : 0 ≤ i) (h1 : i < ties.length) (hd : d = 0 ∨ d = 1) : ((M.ix ties i) >>= fun t => (M.ofO (T4.at4 t ((2 : Int) - ((2 : Int) * d))))) = .ok (tl ties (bk (i, d))).1 ∧ ((M.ix ties i) >>= fun t => (M.ofO (T4.at4 t ((3 : Int) - ((2 : Int) * d))))) = .ok (tl ties (bk (i, d))).2 := by
  rw [M.ix_getD ⟨0, 0, 0, 0⟩ h0 h1]
  unfold tl bk
  rcases hd with rfl | rfl <;> exact ⟨rfl, rfl⟩
theorem found_eq (hn : ties.length ≤ 10000) {s : Int × Int} (h : IsStep ties s) : ((M.ok ([] : (List (Int × Int)))) >>= fun found_10 =>
          (M.ok (rngL 0 ties.length)) >>= fun l26 =>
          M.fold (fun (s11 : (List (Int × Int))) x12 =>
            (M.ok [(0 : Int), 1]) >>= fun l23 =>
              M.fold (fun (s13 : (List (Int × Int))) x14 =>
                ((((M.ix ties x12) >>= fun t15 => (M.ofO (T4.at4 t15 ((2 : Int) * x14)))) >>= fun t16 => (M.ok (decide (t16 = (tl ties (bk s)).1)))) >>= fun b19 => (if b19 then (((M.ix ties x12) >>= fun t17 => (M.ofO (T4.at4 t17 (((2 : Int) * x14) + (1 : Int))))) >>= fun t18 => (M.ok (!decide (t18 = (tl ties (bk s)).2)))) else .ok false)) >>= fun b21 => if b21 then
                  M.push s13 (M.ok (x12, x14)) >>= fun found_20 =>
                    M.ok found_20
                else
                  M.ok s13) s11 l23 >>= fun (s22 : (List (Int × Int))) =>
              M.ok s22) found_10 l26) = .ok (fols ties s) := by
  rw [M.ok_bind, M.ok_bind]
  rw [M.fold_eq [] (fun i => (allSteps i).filter fun f => decide ((tl ties f).1 = (tl ties (bk s)).1) && !decide ((tl ties f).2 = (tl ties (bk s)).2)) rfl fun i x hx => ?_]
  · rw [rngL_len]; rfl
  obtain ⟨hi, rfl⟩ := rngL_get hx
  rw [Int.zero_add]
  have hl : ((allSteps i).filter fun f => decide ((tl ties f).1 = (tl ties (bk s)).1) && !decide ((tl ties f).2 = (tl ties (bk s)).2)).length ≤ 2 * i := by rw [← allSteps_len i]; exact List.length_filter_le _ _
  generalize hp : (fun f : Int × Int => decide ((tl ties f).1 = (tl ties (bk s)).1) && !decide ((tl ties f).2 = (tl ties (bk s)).2)) = p at hl
  simp only [M.ok_bind, M.fold]
  have a0 := at_tl (ties := ties) (i := (i : Int)) (d := 0) (by omega) (by omega) (.inl rfl)
  have a1 := at_tl (ties := ties) (i := (i : Int)) (d := 1) (by omega) (by omega) (.inr rfl)
  rw [a0.1, a0.2, a1.1, a1.2]
  simp only [M.ok_bind]
  have q : ∀ f : Int × Int, (if decide ((tl ties f).1 = (tl ties (bk s)).1) = true then (M.ok (!decide ((tl ties f).2 = (tl ties (bk s)).2)) : M Bool) else .ok false) = .ok (p f) := fun f => by
    rw [← hp]
    by_cases e : (tl ties f).1 = (tl ties (bk s)).1 <;> simp [e]
  rw [q, q]
  simp only [M.ok_bind]
  show _ = M.ok ((allSteps i ++ [((i : Int), 0), ((i : Int), 1)]).filter p)
  rw [List.filter_append]
  simp only [List.filter_cons, List.filter_nil]
  cases h0 : p ((i : Int), 0) <;> cases h1 : p ((i : Int), 1) <;> simp only [Bool.false_eq_true, if_true, if_false, M.ok_bind, List.append_nil]
  · rw [M.push_small (by omega)]; rfl
  · rw [M.push_small (by omega)]; rfl
  · rw [M.push_small (by omega)]
    simp only [M.ok_bind]
    rw [M.push_small (by simp; omega)]
    simp
theorem table_eq (hn : ties.length ≤ 1000) : l_table_m ties = .ok (TB ties) := by
  unfold l_table_m
  rw [M.ok_bind, M.rangeN (by omega), M.ok_bind]
  rw [M.fold_eq (⟨[]⟩ : DK (Int × Int) (List (Int × Int))) (fun i => ⟨(allSteps i).map fun s => (s, fols ties s)⟩) rfl fun i x hx => ?_]
  · rw [rngL_len]; rfl
  obtain ⟨hi, rfl⟩ := rngL_get hx
  rw [Int.zero_add, range2, M.ok_bind]
  have hl : (allSteps i).length = 2 * i := allSteps_len i
  have one : ∀ (d : Int) (hd : d = 0 ∨ d = 1) (kv : List ((Int × Int) × List (Int × Int))), kv.length ≤ 100000 → (∀ p ∈ kv, p.1 ≠ ((i : Int), d)) →
      (((M.ix ties (i : Int)) >>= fun t6 => (M.ofO (T4.at4 t6 ((2 : Int) - ((2 : Int) * d))))) >>= fun place_7 =>
          ((M.ix ties (i : Int)) >>= fun t8 => (M.ofO (T4.at4 t8 ((3 : Int) - ((2 : Int) * d))))) >>= fun side_9 =>
          (M.ok ([] : (List (Int × Int)))) >>= fun found_10 =>
          (M.ok (rngL 0 ties.length)) >>= fun l26 =>
          M.fold (fun (s11 : (List (Int × Int))) x12 =>
            (M.ok [(0 : Int), 1]) >>= fun l23 =>
              M.fold (fun (s13 : (List (Int × Int))) x14 =>
                ((((M.ix ties x12) >>= fun t15 => (M.ofO (T4.at4 t15 ((2 : Int) * x14)))) >>= fun t16 => (M.ok (decide (t16 = place_7)))) >>= fun b19 => (if b19 then (((M.ix ties x12) >>= fun t17 => (M.ofO (T4.at4 t17 (((2 : Int) * x14) + (1 : Int))))) >>= fun t18 => (M.ok (!decide (t18 = side_9)))) else .ok false)) >>= fun b21 => if b21 then
                  M.push s13 (M.ok (x12, x14)) >>= fun found_20 =>
                    M.ok found_20
                else
                  M.ok s13) s11 l23 >>= fun (s22 : (List (Int × Int))) =>
              M.ok s22) found_10 l26 >>= fun (s24 : (List (Int × Int))) =>
          M.dputK (⟨kv⟩ : DK (Int × Int) (List (Int × Int))) (M.ok ((i : Int), d)) (M.ok s24) >>= fun table_here_25 =>
          M.ok table_here_25) = .ok ⟨kv ++ [(((i : Int), d), fols ties ((i : Int), d))]⟩ := fun d hd kv hk hne => by
    have hs : IsStep ties ((i : Int), d) := ⟨by simp, by simpa using hi, hd⟩
    have a := at_hd (ties := ties) (i := (i : Int)) (d := d) (by omega) (by omega) hd
    have f := found_eq (by omega) hs
    rw [a.1, M.ok_bind, a.2, M.ok_bind]
    rw [M.ok_bind, M.ok_bind] at f ⊢
    rw [f, M.ok_bind, dputK_new hk (lkD_none hne), M.ok_bind]
  rw [fold_two]
  rw [one 0 (.inl rfl) _ (by rw [List.length_map]; omega) fun p hp e => ?_, M.ok_bind, one 1 (.inr rfl) _ (by simp; omega) fun p hp e => ?_]
  · show _ = M.ok (⟨(allSteps i ++ [((i : Int), 0), ((i : Int), 1)]).map fun s => (s, fols ties s)⟩ : DK (Int × Int) (List (Int × Int)))
    simp
  · rcases List.mem_append.mp hp with hp | hp
    · obtain ⟨s, hs, rfl⟩ := List.mem_map.mp hp
      have := (mem_allSteps.mp hs).2.1
      have z : s.1 = (i : Int) := congrArg Prod.fst e
      omega
    · simp at hp
      subst hp
      simp at e
  · obtain ⟨s, hs, rfl⟩ := List.mem_map.mp hp
    have := (mem_allSteps.mp hs).2.1
    have z : s.1 = (i : Int) := congrArg Prod.fst e
    omega
end
theorem faced_sat (d : List Int) {p t : Int} (hp0 : 1 ≤ p) (hp1 : p ≤ 100) (ht0 : 0 ≤ t) (ht1 : t ≤ 100) : M.sat (l_faced_m d p t) fun r => Good r.a r.b ∧ 1 ≤ r.a.length ∧ r.a.length ≤ p.toNat ∧ r.b.length ≤ t.toNat := by
  unfold l_faced_m
  simp only [M.ok_bind, pick_eq]
  have hm := pick_range (d := d) (k := 0) (m := p) (by omega)
  generalize pick d 0 p = many at hm
  rw [M.range_ok (by omega) (by omega), M.ok_bind]
  have menu : ∀ k : Int, ∃ x, M.ix ([2, 2, 3, 2, 1, 4] : List Int) (pick d k 6) = .ok x ∧ 1 ≤ x ∧ x ≤ 4 := fun k => by
    have hr := pick_range (d := d) (k := k) (m := 6) (by omega)
    generalize pick d k 6 = j at hr
    obtain ⟨x, hx, e⟩ := M.ix_some (xs := ([2, 2, 3, 2, 1, 4] : List Int)) hr.1 (by simpa using hr.2)
    refine ⟨x, e, ?_⟩
    have hmem := List.mem_of_getElem? hx
    simp at hmem
    omega
  refine M.sat_bind (M.sat_fold (fun i (s : List Int × List (Int × Int)) => s.1.length = i ∧ s.2.length = i ∧ (∀ x ∈ s.1, 1 ≤ x ∧ x ≤ 4) ∧ ∀ (j : Nat) c q, s.1[j]? = some c → s.2[j]? = some q → (0 ≤ q.1 ∧ q.1 < c) ∧ (0 ≤ q.2 ∧ q.2 < c)) ⟨rfl, rfl, fun x hx => (nomatch hx), fun j c q h => by simp at h⟩ fun i x s hx ⟨h1, h2, h3, h4⟩ => ?_) fun s ⟨h1, h2, h3, h4⟩ => ?_
  · obtain ⟨hi, rfl⟩ := rngL_get hx
    obtain ⟨c, ec, hc⟩ := menu ((2 : Int) + ((3 : Int) * (0 + (i : Int))))
    have r1 := pick_range (d := d) (k := (3 : Int) + ((3 : Int) * (0 + (i : Int)))) (m := c) (by omega)
    rw [ec, M.ok_bind, M.push_small (by omega), M.ok_bind, M.asrt_pos (by omega), M.ok_bind, M.push_small (by omega), M.ok_bind]
    refine M.sat_ok ⟨by simp [h1], by simp [h2], fun x hx => ?_, fun j c' q hj hq => ?_⟩
    · rcases List.mem_append.mp hx with k | k
      · exact h3 x k
      · simp at k; omega
    · by_cases hlt : j < i
      · rw [List.getElem?_append_left (by omega)] at hj hq
        exact h4 j c' q hj hq
      · have hle : j < (s.1 ++ [c]).length := (List.getElem?_eq_some_iff.mp hj).1
        simp at hle
        have e : j = i := by omega
        subst e
        have a1 : (s.1 ++ [c])[j]? = some c := by rw [List.getElem?_append_right (by omega), h1]; simp
        rw [a1] at hj
        cases hj
        have a2 : ∀ q' : Int × Int, (s.2 ++ [q'])[j]? = some q' := fun q' => by rw [List.getElem?_append_right (by omega), h2]; simp
        rw [a2] at hq
        cases hq
        exact ⟨r1, Int.emod_nonneg _ (by omega), Int.emod_lt_of_pos _ (by omega)⟩
  · rw [rngL_len] at h1 h2
    have hk := pick_range (d := d) (k := 1) (m := t + 1) (by omega)
    generalize pick d 1 (t + 1) = kk at hk
    rw [M.range_ok hk.1 (by omega), M.ok_bind]
    have hlen : (s.1.length : Int) = 1 + many := by omega
    have gate : ∀ j : Int, 0 ≤ j → j < 1 + many → ∃ q, M.ix s.2 j = .ok q ∧ (0 ≤ q.1 ∧ q.1 < s.1.getD j.toNat 0) ∧ (0 ≤ q.2 ∧ q.2 < s.1.getD j.toNat 0) := fun j h0 h1' => by
      obtain ⟨q, hq, eq⟩ := M.ix_some (xs := s.2) h0 (by omega)
      have hs : s.1[j.toNat]? = some (s.1.getD j.toNat 0) := by rw [List.getD_eq_getElem?_getD, List.getElem?_eq_getElem (by omega)]; rfl
      exact ⟨q, eq, h4 _ _ _ hs hq⟩
    refine M.sat_bind (M.sat_fold (fun i (r : List T4I × List Int) => Good s.1 r.1 ∧ r.1.length = i ∧ r.2.length = i) ⟨⟨h3, fun x hx => (nomatch hx)⟩, rfl, rfl⟩ fun i x r hx ⟨g, l1, l2⟩ => ?_) fun r ⟨g, l1, l2⟩ => M.sat_ok ⟨g, by show 1 ≤ s.1.length; omega, by show s.1.length ≤ _; omega, by show r.1.length ≤ _; rw [l1, rngL_len]; omega⟩
    have hi := (rngL_get hx).1
    generalize (((2 : Int) + ((3 : Int) * ((1 : Int) + many))) + ((3 : Int) * x)) = at_
    have r1 := pick_range (d := d) (k := at_) (m := 1 + many) (by omega)
    have r2 := pick_range (d := d) (k := at_ + 1) (m := 1 + many) (by omega)
    generalize pick d at_ (1 + many) = one at r1
    generalize pick d (at_ + 1) (1 + many) = other at r2
    obtain ⟨q1, e1, g1⟩ := gate one r1.1 r1.2
    obtain ⟨q2, e2, g2⟩ := gate other r2.1 r2.2
    rw [e1, e2]
    simp only [M.ok_bind]
    have sn : ∀ y : T4I, (0 ≤ y.a ∧ y.a < s.1.length ∧ 0 ≤ y.b ∧ y.b < s.1.getD y.a.toNat 0 ∧ 0 ≤ y.c ∧ y.c < s.1.length ∧ 0 ≤ y.d ∧ y.d < s.1.getD y.c.toNat 0) → Good s.1 (r.1 ++ [y]) := fun y hy => ⟨h3, fun z hz => by
      rcases List.mem_append.mp hz with k | k
      · exact g.ti z k
      · rw [List.mem_singleton] at k; subst k; exact hy⟩
    refine M.sat_if (fun _ => ?_) fun _ => ?_
    · rw [M.push_small (by omega), M.ok_bind, M.push_small (by omega), M.ok_bind]
      exact M.sat_ok ⟨sn _ ⟨r1.1, by show one < _; omega, g1.1.1, g1.1.2, r2.1, by show other < _; omega, g2.2.1, g2.2.2⟩, by simp; omega, by simp; omega⟩
    · rw [M.push_small (by omega), M.ok_bind, M.push_small (by omega), M.ok_bind]
      exact M.sat_ok ⟨sn _ ⟨r2.1, by show other < _; omega, g2.2.1, g2.2.2, r1.1, by show one < _; omega, g1.1.1, g1.1.2⟩, by simp; omega, by simp; omega⟩
theorem nodup_len {α : Type} [DecidableEq α] : ∀ {xs ys : List α}, xs.Nodup → (∀ x ∈ xs, x ∈ ys) → xs.length ≤ ys.length
  | [], _, _, _ => Nat.zero_le _
  | x :: xs, ys, hn, hs => by
    obtain ⟨h1, h2⟩ := List.nodup_cons.mp hn
    have p := List.perm_cons_erase (hs x List.mem_cons_self)
    have := nodup_len (xs := xs) (ys := ys.erase x) h2 fun y hy => by
      have := p.mem_iff.mp (hs y (List.mem_cons_of_mem _ hy))
      rcases List.mem_cons.mp this with rfl | h
      · exact absurd hy h1
      · exact h
    have e := p.length_eq
    simp at e ⊢
    omega
theorem le_pair (p q : Int × Int) : (!OLt.lt q p) = true ↔ p.1 < q.1 ∨ (p.1 = q.1 ∧ p.2 ≤ q.2) := by
  show (!(if q.1 = p.1 then decide (q.2 < p.2) else decide (q.1 < p.1))) = true ↔ _
  by_cases e : q.1 = p.1
  · rw [if_pos e]; simp; omega
  · rw [if_neg e]; simp; omega
theorem sortD_psort {xs ys : List (Int × Int)} (hn : ys.Nodup) (hm : ∀ p, p ∈ ys ↔ p ∈ xs) (hb : ∀ p ∈ xs, BdP p) : (ys.mergeSort fun x y => !OLt.lt y x) = psort xs := by
  have pm : (ys.mergeSort fun x y : Int × Int => !OLt.lt y x).Perm ys := List.mergeSort_perm _ _
  have pw : (ys.mergeSort fun x y : Int × Int => !OLt.lt y x).Pairwise fun x y => (!OLt.lt y x) = true := List.pairwise_mergeSort (fun a b c h1 h2 => by rw [le_pair] at *; omega) (fun a b => by
    rw [Bool.or_eq_true, le_pair, le_pair]
    omega) ys
  refine psort_of hb (fun p hp => (hm p).mp (pm.mem_iff.mp hp)) (fun p hp => pm.mem_iff.mpr ((hm p).mpr hp)) (pm.nodup_iff.mpr hn) (List.Pairwise.imp_of_mem (fun {a b} ha hb' h => ?_) pw)
  have b1 := hb a ((hm a).mp (pm.mem_iff.mp ha))
  have b2 := hb b ((hm b).mp (pm.mem_iff.mp hb'))
  unfold BdP at b1 b2
  rw [le_pair] at h
  unfold codeP
  omega
/-! ### followers -/
theorem all_cd : ∀ n : Nat, (allSteps n).Pairwise fun a b => cd a < cd b
  | 0 => .nil
  | n + 1 => by
    show (allSteps n ++ [((n : Int), (0 : Int)), ((n : Int), 1)]).Pairwise _
    rw [List.pairwise_append]
    refine ⟨all_cd n, List.Pairwise.cons (fun b hb => by rw [List.mem_singleton] at hb; subst hb; unfold cd; simp only; omega) (List.pairwise_singleton _ _), fun a ha b hb => ?_⟩
    have := mem_allSteps.mp ha
    unfold cd
    rcases List.mem_cons.mp hb with rfl | hb
    · simp only; omega
    · rw [List.mem_singleton] at hb; subst hb; simp only; omega
theorem all_nd (n : Nat) : (allSteps n).Nodup := List.Pairwise.imp (fun h z => by rw [z] at h; omega) (all_cd n)
section
variable {sides : List Int} {ties : List T4I}
theorem fols_cd (s : Stp) : (fols ties s).Pairwise fun a b => cd a < cd b := List.Pairwise.sublist List.filter_sublist (all_cd _)
theorem fols_nd (s : Stp) : (fols ties s).Nodup := List.Pairwise.imp (fun h z => by rw [z] at h; omega) (fols_cd s)
theorem fols_in {s x : Stp} (h : x ∈ fols ties s) : x ∈ allSteps ties.length := (List.mem_filter.mp h).1
theorem step_in {s : Stp} : s ∈ allSteps ties.length ↔ IsStep ties s := mem_allSteps
theorem few {xs : List Stp} (hn : ties.length ≤ 24) (nd : xs.Nodup) (hs : ∀ x ∈ xs, x ∈ allSteps ties.length) : xs.length ≤ 48 := by
  have := nodup_len nd hs
  rw [allSteps_len] at this
  omega
theorem bd_step (hn : ties.length ≤ 24) {s : Stp} (h : s ∈ allSteps ties.length) : BdP s := by
  have := mem_allSteps.mp h
  exact ⟨⟨this.1, by omega⟩, by omega, by omega⟩
/-! ### all that is reached -/
inductive Rc (ties : List T4I) (first : Stp) : Stp → Prop
  | one {x : Stp} : x ∈ fols ties first → Rc ties first x
  | more {y x : Stp} : Rc ties first y → x ∈ fols ties y → Rc ties first x
theorem Rc.isin {first x : Stp} (h : Rc ties first x) : x ∈ allSteps ties.length := by cases h with
  | one h => exact fols_in h
  | more _ h => exact fols_in h
/-- the new ones of ys -/
def nw (f ys : List Stp) : List Stp := ys.filter fun x => !memB x f
theorem mem_nw {f ys : List Stp} {x : Stp} : x ∈ nw f ys ↔ x ∈ ys ∧ x ∉ f := by
  unfold nw
  rw [List.mem_filter, Bool.not_eq_true', ← Bool.not_eq_true, memB_iff]
theorem nw_snoc {f ys : List Stp} {x : Stp} (h : x ∉ ys) : nw (f ++ [x]) ys = nw f ys := List.filter_congr fun y hy => by
  have hne : y ≠ x := fun z => h (z ▸ hy)
  have : memB y (f ++ [x]) = memB y f := by
    unfold memB
    simp [hne]
  rw [this]
theorem nw_cons {f ys : List Stp} {x : Stp} (h : x ∉ ys) (hx : x ∉ f) : nw f (x :: ys) = x :: nw (f ++ [x]) ys := by
  rw [nw_snoc h]
  unfold nw
  rw [List.filter_cons, if_pos (by rw [Bool.not_eq_true', ← Bool.not_eq_true, memB_iff]; exact hx)]
theorem nw_skip {f ys : List Stp} {x : Stp} (hx : x ∈ f) : nw f (x :: ys) = nw f ys := by
  unfold nw
  rw [List.filter_cons, if_neg (by rw [Bool.not_eq_true', ← Bool.not_eq_true, memB_iff]; exact fun z => z hx)]
theorem nw_nd {f ys : List Stp} (h1 : f.Nodup) (h2 : ys.Nodup) : (f ++ nw f ys).Nodup := by
  rw [List.nodup_append]
  exact ⟨h1, List.Pairwise.sublist List.filter_sublist h2, fun a ha b hb z => (mem_nw.mp hb).2 (z ▸ ha)⟩
theorem add_new : ∀ (ys f w : List Stp), ys.Nodup → (f ++ nw f ys).length < 64 → w.length + ys.length ≤ 1000 →
    M.fold (fun (s5 : (PS × (List (Int × Int)))) x6 => if (!memB x6 s5.1.l) then
          M.paddM s5.1 (M.ok x6) >>= fun found_7 =>
            M.push s5.2 (M.ok x6) >>= fun waiting_8 =>
            M.ok (found_7, waiting_8)
        else
          M.ok (s5.1, s5.2)) (⟨f⟩, w) ys = .ok (⟨f ++ nw f ys⟩, w ++ nw f ys)
  | [], f, w, _, _, _ => by simp [M.fold, nw]
  | x :: ys, f, w, nd, hl, hw => by
    obtain ⟨h1, h2⟩ := List.nodup_cons.mp nd
    rw [List.length_cons] at hw
    rw [fold_cons']
    by_cases hx : x ∈ f
    · rw [if_neg (by rw [Bool.not_eq_true', ← Bool.not_eq_true, memB_iff]; exact fun z => z hx), M.ok_bind, nw_skip hx]
      rw [nw_skip hx] at hl
      exact add_new ys f w h2 hl (by omega)
    · rw [nw_cons h1 hx] at hl ⊢
      have hf : f.length + 1 < 64 := by
        rw [List.length_append, List.length_cons] at hl
        omega
      have ep : M.paddM ⟨f⟩ (M.ok x) = .ok ⟨f ++ [x]⟩ := by
        unfold M.paddM
        simp only [M.ok_bind]
        rw [M.asrt_pos hf]
        unfold padd
        rw [if_neg hx]
      rw [if_pos (by rw [Bool.not_eq_true', ← Bool.not_eq_true, memB_iff]; exact hx)]
      dsimp only
      rw [ep, M.push_small (by omega)]
      simp only [M.ok_bind]
      rw [add_new ys (f ++ [x]) (w ++ [x]) h2 (by rw [List.append_assoc]; exact hl) (by rw [List.length_append, List.length_singleton]; omega)]
      simp
theorem preached (g : Good sides ties) (hn : ties.length ≤ 24) {first : Stp} (hf : IsStep ties first) : ∃ xs : List Stp, xs.Nodup ∧ (∀ x, x ∈ xs ↔ Rc ties first x) ∧ p_reached_m ⟨⟨sides⟩, ⟨ties⟩⟩ first = .ok (psort xs) := by
  suffices M.sat (p_reached_m ⟨⟨sides⟩, ⟨ties⟩⟩ first) fun r => ∃ xs : List Stp, xs.Nodup ∧ (∀ x, x ∈ xs ↔ Rc ties first x) ∧ r = psort xs by
    obtain ⟨r, e, xs, h1, h2, rfl⟩ := this
    exact ⟨xs, h1, h2, e⟩
  unfold p_reached_m
  simp only [M.ok_bind]
  refine M.sat_bind (M.sat_loop (fun s : PS × List Stp => s.1.l.Nodup ∧ (∀ x ∈ s.1.l, Rc ties first x) ∧ (∀ x ∈ s.2, x = first ∨ x ∈ s.1.l) ∧ (∀ y, y = first ∨ y ∈ s.1.l → y ∈ s.2 ∨ ∀ x ∈ fols ties y, x ∈ s.1.l) ∧ s.2.length ≤ s.1.l.length + 1)
    (fun s => 2 * (100 - s.1.l.length) + s.2.length) (R := fun s : PS × List Stp => s.1.l.Nodup ∧ ∀ x, x ∈ s.1.l ↔ Rc ties first x) ⟨List.nodup_nil, fun x hx => (nomatch hx), fun x hx => .inl (List.mem_singleton.mp hx), fun y hy => .inl (by rcases hy with rfl | hy; exact List.mem_singleton.mpr rfl; exact nomatch hy), Nat.le_refl 1⟩ fun s ⟨i1, i2, i3, i4, i5⟩ => ?_) fun s ⟨h1, h2⟩ => ?_
  · refine ⟨_, rfl, fun hb => ?_, fun hb => ?_⟩
    · obtain ⟨⟨f⟩, w⟩ := s
      simp only at i1 i2 i3 i4 i5 hb ⊢
      have hw : w ≠ [] := fun z => by rw [z] at hb; cases hb
      obtain ⟨ws, y, rfl⟩ : ∃ ws y, w = ws ++ [y] := ⟨_, _, (List.dropLast_concat_getLast hw).symm⟩
      have hfl := few hn i1 fun x hx => (i2 x hx).isin
      have hy : IsStep ties y := by
        rcases i3 y (by simp) with rfl | h
        · exact hf
        · exact step_in.mp (i2 y h).isin
      have nd := nw_nd i1 (fols_nd (ties := ties) y)
      have rc : ∀ x ∈ fols ties y, Rc ties first x := fun x hx => by
        rcases i3 y (by simp) with rfl | h
        · exact .one hx
        · exact .more (i2 y h) hx
      have rcn : ∀ x ∈ f ++ nw f (fols ties y), Rc ties first x := fun x hx => by
        rcases List.mem_append.mp hx with hx | hx
        · exact i2 x hx
        · exact rc x (mem_nw.mp hx).1
      have hnl := few hn nd fun x hx => (rcn x hx).isin
      have hyl := few hn (fols_nd (ties := ties) y) fun x hx => fols_in hx
      rw [M.popL_snoc]
      simp only [M.ok_bind]
      rw [followers_eq g (by omega) hy]
      simp only [M.ok_bind]
      rw [List.length_append, List.length_singleton] at i5
      rw [add_new _ f ws (fols_nd y) (by omega) (by omega)]
      simp only [M.ok_bind]
      refine M.sat_ok ⟨⟨nd, rcn, fun x hx => ?_, fun z hz => ?_, ?_⟩, ?_⟩
      · rcases List.mem_append.mp hx with hx | hx
        · rcases i3 x (List.mem_append_left _ hx) with h | h
          · exact .inl h
          · exact .inr (List.mem_append_left _ h)
        · exact .inr (List.mem_append_right _ hx)
      · have all : ∀ x ∈ fols ties y, x ∈ f ++ nw f (fols ties y) := fun x hx => by
          by_cases h : x ∈ f
          · exact List.mem_append_left _ h
          · exact List.mem_append_right _ (mem_nw.mpr ⟨hx, h⟩)
        have old : (z = first ∨ z ∈ f) → z ∈ ws ++ nw f (fols ties y) ∨ ∀ x ∈ fols ties z, x ∈ f ++ nw f (fols ties y) := fun h => by
          rcases i4 z h with h | h
          · rcases List.mem_append.mp h with h | h
            · exact .inl (List.mem_append_left _ h)
            · rw [List.mem_singleton] at h
              subst h
              exact .inr all
          · exact .inr fun x hx => List.mem_append_left _ (h x hx)
        rcases hz with h | h
        · exact old (.inl h)
        · rcases List.mem_append.mp h with h | h
          · exact old (.inr h)
          · exact .inl (List.mem_append_right _ h)
      · show (ws ++ nw f (fols ties y)).length ≤ (f ++ nw f (fols ties y)).length + 1
        rw [List.length_append, List.length_append]
        omega
      · show 2 * (100 - (f ++ nw f (fols ties y)).length) + (ws ++ nw f (fols ties y)).length < 2 * (100 - f.length) + (ws ++ [y]).length
        rw [List.length_append] at hnl
        rw [List.length_append, List.length_append, List.length_append, List.length_singleton]
        omega
    · have hw : s.2 = [] := by
        cases h : s.2 with
        | nil => rfl
        | cons a b => rw [h] at hb; cases hb
      refine ⟨i1, fun x => ⟨i2 x, fun h => ?_⟩⟩
      have cl : ∀ y, y = first ∨ y ∈ s.1.l → ∀ x ∈ fols ties y, x ∈ s.1.l := fun y hy => (i4 y hy).resolve_left (by rw [hw]; exact fun z => nomatch z)
      induction h with
      | one h => exact cl first (.inl rfl) _ h
      | more _ h ih => exact cl _ (.inr ih) _ h
  · exact (show M.sat (M.sortP s.1) _ from ⟨_, M.asrt_pos fun p hp => bd_step hn ((h2 p).mp hp).isin, s.1.l, h1, h2, rfl⟩)
theorem ix_at' {xs : List Stp} {k : Nat} {y : Stp} (h : xs[k]? = some y) : M.ix xs (k : Int) = .ok y := M.ix_at (by omega) (by simpa using h)
/-- the law's loop -/
theorem add_row (first : Stp) : ∀ (ys f w : List Stp), ys.Nodup → (f ++ nw f ys).length ≤ 1000 → w.length + ys.length ≤ 1000 →
    M.fold (fun (s5 : ((List (Int × Int)) × (List (Int × Int)))) x7 =>
          if (!memB x7 s5.1) then
            M.push s5.1 (M.ok x7) >>= fun found_8 =>
              if (!decide (x7 = first)) then
              M.push s5.2 (M.ok x7) >>= fun row_9 =>
                M.ok (found_8, row_9)
            else
              M.ok (found_8, s5.2)
          else
            M.ok (s5.1, s5.2)) (f, w) ys = .ok (f ++ nw f ys, w ++ (nw f ys).filter fun x => !decide (x = first))
  | [], f, w, _, _, _ => by simp [M.fold, nw]
  | x :: ys, f, w, nd, hl, hw => by
    obtain ⟨h1, h2⟩ := List.nodup_cons.mp nd
    rw [List.length_cons] at hw
    rw [fold_cons']
    by_cases hx : x ∈ f
    · rw [if_neg (by rw [Bool.not_eq_true', ← Bool.not_eq_true, memB_iff]; exact fun z => z hx), M.ok_bind, nw_skip hx]
      rw [nw_skip hx] at hl
      exact add_row first ys f w h2 hl (by omega)
    · rw [nw_cons h1 hx] at hl ⊢
      have hf : f.length + 1 ≤ 1000 := by
        rw [List.length_append, List.length_cons] at hl
        omega
      rw [if_pos (by rw [Bool.not_eq_true', ← Bool.not_eq_true, memB_iff]; exact hx)]
      dsimp only
      rw [M.push_small (by omega)]
      simp only [M.ok_bind]
      have hl' : (f ++ [x] ++ nw (f ++ [x]) ys).length ≤ 1000 := by rw [List.append_assoc]; exact hl
      by_cases he : x = first
      · rw [if_neg (by simp [he])]
        simp only [M.ok_bind]
        rw [add_row first ys (f ++ [x]) w h2 hl' (by omega), List.filter_cons, if_neg (by simp [he])]
        simp
      · rw [if_pos (by simp [he]), M.push_small (by omega)]
        simp only [M.ok_bind]
        rw [add_row first ys (f ++ [x]) (w ++ [x]) h2 hl' (by rw [List.length_append, List.length_singleton]; omega), List.filter_cons, if_pos (by simp [he])]
        simp
theorem lreached (hn : ties.length ≤ 24) {first : Stp} (hf : IsStep ties first) : ∃ xs : List Stp, xs.Nodup ∧ (∀ x, x ∈ xs ↔ Rc ties first x) ∧ l_reached_m (TB ties) first = .ok (psort xs) := by
  suffices M.sat (l_reached_m (TB ties) first) fun r => ∃ xs : List Stp, xs.Nodup ∧ (∀ x, x ∈ xs ↔ Rc ties first x) ∧ r = psort xs by
    obtain ⟨r, e, xs, h1, h2, rfl⟩ := this
    exact ⟨xs, h1, h2, e⟩
  unfold l_reached_m
  simp only [M.ok_bind]
  have kl : (TB ties).kv.length = 2 * ties.length := by unfold TB; rw [List.length_map, allSteps_len]
  rw [kl, show (((2 * ties.length : Nat) : Int) + 1) = ((2 * ties.length + 1 : Nat) : Int) by omega, M.rangeN (by omega)]
  simp only [M.ok_bind]
  refine M.sat_bind (M.sat_fold (fun k (s : List Stp × List Stp) => s.1.Nodup ∧ (∀ x ∈ s.1, Rc ties first x) ∧ s.2 = first :: s.1.filter (fun x => !decide (x = first)) ∧ ∀ (j : Nat) (y : Stp), j < k → s.2[j]? = some y → ∀ x ∈ fols ties y, x ∈ s.1)
    ⟨List.nodup_nil, fun x hx => (nomatch hx), rfl, fun j y hj => absurd hj (Nat.not_lt_zero _)⟩ fun k x s hx ⟨i1, i2, i3, i4⟩ => ?_) fun s ⟨h1, h2, h3, h4⟩ => ?_
  · obtain ⟨hk, rfl⟩ := rngL_get hx
    rw [Int.zero_add]
    obtain ⟨f, w⟩ := s
    simp only at i1 i2 i3 i4 ⊢
    have hfl := few hn i1 fun x hx => (i2 x hx).isin
    have hwl : w.length ≤ 49 := by
      rw [i3, List.length_cons]
      have := List.length_filter_le (fun x => !decide (x = first)) f
      omega
    by_cases hlt : k < w.length
    · rw [if_pos (by rw [decide_eq_true_eq]; omega)]
      have hy : w[k]? = some w[k] := List.getElem?_eq_getElem hlt
      generalize w[k] = y at hy
      rw [ix_at' hy]
      simp only [M.ok_bind]
      have hyc : y = first ∨ y ∈ f := by
        have := List.mem_of_getElem? hy
        rw [i3] at this
        rcases List.mem_cons.mp this with h | h
        · exact .inl h
        · exact .inr (List.mem_filter.mp h).1
      have hys : IsStep ties y := by
        rcases hyc with rfl | h
        · exact hf
        · exact step_in.mp (i2 y h).isin
      rw [lk_TB hys]
      simp only [M.ofO_some, M.ok_bind]
      have nd := nw_nd i1 (fols_nd (ties := ties) y)
      have rcn : ∀ x ∈ f ++ nw f (fols ties y), Rc ties first x := fun x hx => by
        rcases List.mem_append.mp hx with hx | hx
        · exact i2 x hx
        · rcases hyc with rfl | h
          · exact .one (mem_nw.mp hx).1
          · exact .more (i2 y h) (mem_nw.mp hx).1
      have hnl := few hn nd fun x hx => (rcn x hx).isin
      have hyl := few hn (fols_nd (ties := ties) y) fun x hx => fols_in hx
      rw [add_row first _ f w (fols_nd y) (by omega) (by omega)]
      simp only [M.ok_bind]
      refine M.sat_ok ⟨nd, rcn, ?_, fun j z hj hz x hx => ?_⟩
      · show w ++ _ = _
        rw [i3, List.filter_append, List.cons_append]
      · have hz' : w[j]? = some z := by
          rw [List.getElem?_append_left (by omega)] at hz
          exact hz
        rcases Nat.lt_or_ge j k with h | h
        · exact List.mem_append_left _ (i4 j z h hz' x hx)
        · have : j = k := by omega
          subst this
          rw [hy] at hz'
          cases hz'
          by_cases h : x ∈ f
          · exact List.mem_append_left _ h
          · exact List.mem_append_right _ (mem_nw.mpr ⟨hx, h⟩)
    · rw [if_neg (by rw [decide_eq_true_eq]; omega)]
      refine M.sat_ok ⟨i1, i2, i3, fun j z hj hz => i4 j z ?_ hz⟩
      have := (List.getElem?_eq_some_iff.mp hz).1
      show j < k
      have : j < w.length := this
      omega
  · rw [rngL_len] at h4
    have hm : ∀ x, x ∈ s.1 ↔ Rc ties first x := fun x => ⟨h2 x, fun h => by
      have rl : s.2.length ≤ 2 * ties.length := by
        rw [← allSteps_len]
        refine nodup_len ?_ fun z hz => ?_
        · rw [h3, List.nodup_cons]
          exact ⟨fun z => by simp at z, List.Pairwise.sublist List.filter_sublist h1⟩
        · rw [h3] at hz
          rcases List.mem_cons.mp hz with rfl | hz
          · exact step_in.mpr hf
          · exact (h2 z (List.mem_filter.mp hz).1).isin
      have cl : ∀ y, y = first ∨ y ∈ s.1 → ∀ x ∈ fols ties y, x ∈ s.1 := fun y hy => by
        have : y ∈ s.2 := by
          rw [h3]
          by_cases e : y = first
          · rw [e]; exact List.mem_cons_self
          · exact List.mem_cons_of_mem _ (List.mem_filter.mpr ⟨hy.resolve_left e, by simp [e]⟩)
        obtain ⟨j, hj, e⟩ := List.getElem_of_mem this
        exact h4 j y (by omega) (by rw [List.getElem?_eq_getElem hj, e])
      induction h with
      | one h => exact cl first (.inl rfl) _ h
      | more _ h ih => exact cl _ (.inr ih) _ h⟩
    exact ⟨_, rfl, s.1, h1, hm, sortD_psort h1 (fun p => Iff.rfl) fun p hp => bd_step hn (h2 p hp).isin⟩
theorem psort_same {xs ys : List Stp} (h1 : xs.Nodup) (h : ∀ x, x ∈ xs ↔ x ∈ ys) (hb : ∀ x ∈ ys, BdP x) : psort xs = psort ys :=
  (sortD_psort h1 (fun _ => Iff.rfl) fun p hp => hb p ((h p).mp hp)).symm.trans (sortD_psort h1 h hb)
/-- both tell the same -/
theorem reached_same (g : Good sides ties) (hn : ties.length ≤ 24) {first : Stp} (hf : IsStep ties first) : ∃ R : List Stp, R.length ≤ 48 ∧ p_reached_m ⟨⟨sides⟩, ⟨ties⟩⟩ first = .ok R ∧ l_reached_m (TB ties) first = .ok R := by
  obtain ⟨xs, n1, m1, e1⟩ := preached g hn hf
  obtain ⟨ys, n2, m2, e2⟩ := lreached hn hf
  have e := psort_same n1 (fun x => (m1 x).trans (m2 x).symm) fun x hx => bd_step hn ((m2 x).mp hx).isin
  refine ⟨psort ys, ?_, e ▸ e1, e2⟩
  have := sortD_psort n2 (fun _ => Iff.rfl) fun p hp => bd_step hn ((m2 p).mp hp).isin
  rw [← this, (List.mergeSort_perm _ _).length_eq]
  exact few hn n2 fun x hx => ((m2 x).mp hx).isin
end
/-! ### distances -/
theorem lk_none {β : Type} {x : Stp} : ∀ {kv : List (Stp × β)}, (lkD kv x).isSome = memB x (kv.map Prod.fst)
  | [] => rfl
  | p :: kv => by
    unfold lkD
    have ih := lk_none (x := x) (kv := kv)
    by_cases e : p.1 = x
    · rw [if_pos e]
      have : memB x ((p :: kv).map Prod.fst) = true := memB_iff.mpr (by rw [List.map_cons, e]; exact List.mem_cons_self)
      rw [this]; rfl
    · rw [if_neg e, ih]
      unfold memB
      have : (x = p.1) = False := eq_false fun z => e z.symm
      simp [this]
theorem lead_cons {F : Stp → List Stp} {ys : List Stp} {x y : Stp} {kv : List (Stp × Int)} {d : Int} (hx : x ∉ ys) (h : y ∈ F x) (hk : x ∉ kv.map Prod.fst) : lead F (x :: ys) kv y = x :: lead F ys (kv ++ [(x, d)]) y := by
  have hs : lead F ys (kv ++ [(x, d)]) y = lead F ys kv y := List.filter_congr fun z hz => by
    have hne : z ≠ x := fun e => hx (e ▸ hz)
    have : memB z ((kv ++ [(x, d)]).map Prod.fst) = memB z (kv.map Prod.fst) := by
      unfold memB
      simp [hne]
    rw [this]
  rw [hs]
  unfold lead
  rw [List.filter_cons, if_pos (by rw [Bool.and_eq_true, memB_iff, Bool.not_eq_true', ← Bool.not_eq_true, memB_iff]; exact ⟨h, hk⟩)]
theorem lead_skip {F : Stp → List Stp} {ys : List Stp} {x y : Stp} {kv : List (Stp × Int)} (h : ¬ (y ∈ F x ∧ x ∉ kv.map Prod.fst)) : lead F (x :: ys) kv y = lead F ys kv y := by
  unfold lead
  rw [List.filter_cons, if_neg (by rw [Bool.and_eq_true, memB_iff, Bool.not_eq_true', ← Bool.not_eq_true, memB_iff]; exact h)]
theorem far_in {y : Stp} {d : Int} {k : Nat} : ∀ (ys : List Stp) (kv : List (Stp × Int)) (row : List Stp), ys.Nodup → row = kv.map Prod.fst → kv.length + ys.length ≤ 1000 → row[k]? = some y → lkD kv y = some d → (∀ x ∈ ys, IsStep ties x) →
    M.fold (fun (s5 : ((DK (Int × Int) Int) × (List (Int × Int)))) x6 =>
          (((M.ix s5.2 (k : Int)) >>= fun t7 => ((M.ofO (lkD (TB ties).kv x6)) >>= fun t8 => (M.ok (memB t7 t8)))) >>= fun b9 => (if b9 then (M.ok (!(lkD s5.1.kv x6).isSome)) else .ok false)) >>= fun b14 => if b14 then
            M.dputK s5.1 (M.ok x6) (((M.ix s5.2 (k : Int)) >>= fun t10 => (M.ofO (lkD s5.1.kv t10))) >>= fun t11 => (M.ok (t11 + (1 : Int)))) >>= fun far_here_12 =>
              M.push s5.2 (M.ok x6) >>= fun row_13 =>
              M.ok (far_here_12, row_13)
          else
            M.ok (s5.1, s5.2)) (⟨kv⟩, row) ys = .ok (⟨kv ++ (lead (fols ties) ys kv y).map fun x => (x, d + 1)⟩, row ++ lead (fols ties) ys kv y)
  | [], kv, row, _, _, _, _, _, _ => by simp [M.fold, lead]
  | x :: ys, kv, row, nd, hr, hl, hk, hd, hs => by
    obtain ⟨h1, h2⟩ := List.nodup_cons.mp nd
    rw [List.length_cons] at hl
    have hrl : row.length = kv.length := by rw [hr, List.length_map]
    rw [fold_cons']
    dsimp only
    rw [ix_at' hk]
    simp only [M.ok_bind]
    rw [lk_TB (hs x List.mem_cons_self), hd, lk_none]
    simp only [M.ofO_some, M.ok_bind]
    by_cases hc : y ∈ fols ties x ∧ x ∉ kv.map Prod.fst
    · rw [if_pos (memB_iff.mpr hc.1)]
      simp only [M.ok_bind]
      rw [if_pos (by rw [Bool.not_eq_true', ← Bool.not_eq_true, memB_iff]; exact hc.2), dputK_new (by show kv.length ≤ _; omega) (by
        cases e : lkD kv x with
        | none => rfl
        | some a =>
          have := lk_none (x := x) (kv := kv)
          rw [e] at this
          exact absurd (memB_iff.mp this.symm) hc.2)]
      simp only [M.ok_bind]
      rw [M.push_small (by omega)]
      simp only [M.ok_bind]
      rw [far_in ys (kv ++ [(x, d + 1)]) (row ++ [x]) h2 (by rw [hr, List.map_append]; rfl) (by rw [List.length_append, List.length_singleton]; omega) (by rw [List.getElem?_append_left (List.getElem?_eq_some_iff.mp hk).1]; exact hk) (by rw [lkD_app, hd]) fun z hz => hs z (List.mem_cons_of_mem _ hz), lead_cons (d := d + 1) h1 hc.1 hc.2]
      simp
    · have hb : (if memB y (fols ties x) = true then M.ok (!memB x (kv.map Prod.fst)) else M.ok false) = (.ok false : M Bool) := by
        by_cases ha : y ∈ fols ties x
        · rw [if_pos (memB_iff.mpr ha), show memB x (kv.map Prod.fst) = true from memB_iff.mpr (Classical.byContradiction fun z => hc ⟨ha, z⟩)]
          rfl
        · rw [if_neg (fun z => ha (memB_iff.mp z))]
      rw [hb]
      simp only [M.ok_bind]
      rw [if_neg (by decide), M.ok_bind, far_in ys kv row h2 hr (by omega) hk hd fun z hz => hs z (List.mem_cons_of_mem _ hz), lead_skip hc]
theorem far_ok (hn : ties.length ≤ 24) {last : Stp} (hl : IsStep ties last) : ∃ kv : List (Stp × Int), l_far_m (TB ties) last = .ok ⟨kv⟩ ∧ Dist (fols ties) (allSteps ties.length) last (fun x => lkD kv x) ∧ ∀ x a, lkD kv x = some a → a ≤ 48 := by
  suffices M.sat (l_far_m (TB ties) last) fun r => Dist (fols ties) (allSteps ties.length) last (fun x => lkD r.kv x) ∧ ∀ x a, lkD r.kv x = some a → a ≤ 48 by
    obtain ⟨⟨kv⟩, e, h1, h2⟩ := this
    exact ⟨kv, e, h1, h2⟩
  unfold l_far_m
  simp only [M.ok_bind]
  have kl : (TB ties).kv.length = 2 * ties.length := by unfold TB; rw [List.length_map, allSteps_len]
  rw [kl, M.rangeN (by omega), keys_TB]
  simp only [M.ok_bind]
  have lenk : ∀ {k : Nat} {kv : List (Stp × Int)}, Fa (fols ties) (allSteps ties.length) last k kv → kv.length ≤ 2 * ties.length := fun {k kv} T => by
    have := nodup_len T.nd (ys := allSteps ties.length) fun x hx => by
      obtain ⟨⟨x', a⟩, ha, rfl⟩ := List.mem_map.mp hx
      exact T.sub _ _ ha
    rw [List.length_map, allSteps_len] at this
    exact this
  refine M.sat_bind (M.sat_fold (fun k (s : DK (Int × Int) Int × List Stp) => Fa (fols ties) (allSteps ties.length) last k s.1.kv ∧ s.2 = s.1.kv.map Prod.fst ∧ ∀ (j : Nat) (x : Stp) (a : Int), s.1.kv[j]? = some (x, a) → a ≤ j)
    ⟨Fa.start (step_in.mpr hl), rfl, fun j x a h => by
      have := List.mem_of_getElem? h
      rw [List.mem_singleton] at this
      cases this
      omega⟩ fun k x s hx ⟨T, i2, i3⟩ => ?_) fun s ⟨T, h2, h3⟩ => ?_
  · obtain ⟨hk, rfl⟩ := rngL_get hx
    rw [Int.zero_add]
    obtain ⟨⟨kv⟩, row⟩ := s
    simp only at T i2 i3 ⊢
    have lk := lenk T
    have rl : row.length = kv.length := by rw [i2, List.length_map]
    by_cases hlt : k < row.length
    · rw [if_pos (by rw [decide_eq_true_eq]; omega)]
      obtain ⟨y, d, hy⟩ : ∃ y d, kv[k]? = some (y, d) := ⟨_, _, List.getElem?_eq_getElem (by omega)⟩
      have hr : row[k]? = some y := by rw [i2, List.getElem?_map, hy]; rfl
      have hd : lkD kv y = some d := (lk_mem T.nd).mpr (List.mem_of_getElem? hy)
      rw [far_in (d := d) _ kv row (all_nd _) i2 (by rw [allSteps_len]; omega) hr hd fun x hx => step_in.mp hx]
      simp only [M.ok_bind]
      refine M.sat_ok ⟨T.step (all_nd _) hy, ?_, fun j x a hj => ?_⟩
      · show row ++ _ = _
        rw [i2, List.map_append, List.map_map]
        congr 1
        exact (List.map_id _).symm
      · rcases app_get hj with ⟨lj, hj⟩ | ⟨lj, hj⟩
        · exact i3 j x a hj
        · obtain ⟨z, _, e⟩ := List.mem_map.mp (List.mem_of_getElem? hj)
          cases e
          have := i3 k y d hy
          omega
    · rw [if_neg (by rw [decide_eq_true_eq]; omega)]
      exact M.sat_ok ⟨T.skip (by omega), i2, i3⟩
  · rw [rngL_len] at T
    have lk := lenk T
    refine M.sat_ok ⟨T.dist lk, fun x a e => ?_⟩
    obtain ⟨j, hj, ej⟩ := List.getElem_of_mem ((lk_mem T.nd).mp e)
    have := h3 j x a (by rw [List.getElem?_eq_getElem hj, ej])
    omega
theorem foldC_find {σ α : Type} {f : σ → α → M (Ct σ Empty)} {s : σ} (p : α → Bool) (g : α → σ) : ∀ xs : List α, (∀ x ∈ xs, f s x = if p x then .ok (.bk (g x)) else .ok (.nx s)) → M.foldC f s xs = match xs.find? p with | some y => .ok (.bk (g y)) | none => .ok (.nx s)
  | [], _ => rfl
  | x :: xs, h => by
    simp only [M.foldC, List.find?_cons]
    rw [h x List.mem_cons_self]
    cases p x with
    | true => rfl
    | false => exact foldC_find p g xs fun y hy => h y (List.mem_cons_of_mem _ hy)
theorem lowest_ok (hn : ties.length ≤ 24) {first last : Stp} (hf : IsStep ties first) {kv : List (Stp × Int)} (Di : Dist (fols ties) (allSteps ties.length) last fun x => lkD kv x) {d : Nat} (hd : lkD kv first = some (d : Int)) (h48 : d ≤ 48) :
    ∃ w, l_lowest_m (TB ties) ⟨kv⟩ first = .ok (.some w) ∧ Lw (fols ties) (fun x => lkD kv x) first d d w := by
  suffices M.sat (l_lowest_m (TB ties) ⟨kv⟩ first) fun r => ∃ w, r = .some w ∧ Lw (fols ties) (fun x => lkD kv x) first d d w by
    obtain ⟨_, e, w, rfl, h⟩ := this
    exact ⟨w, e, h⟩
  unfold l_lowest_m
  simp only
  rw [hd, if_neg (by simp)]
  simp only [M.ok_bind, M.ofO_some]
  rw [M.rangeN (by omega)]
  simp only [M.ok_bind]
  refine M.sat_bind (M.sat_fold (fun i (w : List Stp) => Lw (fols ties) (fun x => lkD kv x) first d i w ∧ ∀ x ∈ w, x ∈ allSteps ties.length) ⟨⟨rfl, rfl, fun j x hx => ?_, fun j x y hx hy => ?_⟩, fun x hx => ?_⟩ fun i x w hx ⟨W, ws⟩ => ?_) fun w ⟨W, _⟩ => M.sat_ok ⟨w, rfl, by rw [rngL_len] at W; exact W⟩
  · have := (List.getElem?_eq_some_iff.mp hx).1
    rw [List.length_singleton] at this
    have e : j = 0 := by omega
    subst e
    cases hx
    simpa using hd
  · have := (List.getElem?_eq_some_iff.mp hy).1
    rw [List.length_singleton] at this
    omega
  · rw [List.mem_singleton] at hx; subst hx; exact step_in.mpr hf
  · obtain ⟨hi, rfl⟩ := rngL_get hx
    have hw : w ≠ [] := fun z => by have := W.len; rw [z] at this; cases this
    obtain ⟨v, u, rfl⟩ : ∃ v u, w = v ++ [u] := ⟨_, _, (List.dropLast_concat_getLast hw).symm⟩
    have vl : v.length = i := by have := W.len; rw [List.length_append, List.length_singleton] at this; omega
    have hu : (v ++ [u])[i]? = some u := by rw [← vl, List.getElem?_append_right (Nat.le_refl _)]; simp
    have hus : IsStep ties u := step_in.mp (ws u (by simp))
    have Du : lkD kv u = some ((d : Int) - i) := W.dist i u hu
    rw [ix_last]
    simp only [M.ok_bind]
    rw [lk_TB hus]
    simp only [M.ofO_some, M.ok_bind]
    rw [foldC_find (fun y => decide (lkD kv y = some ((d : Int) - i - 1))) (fun y => (v ++ [u]) ++ [y]) _ fun y hy => by
      rw [ix_last]
      simp only [M.ok_bind]
      rw [Du]
      simp only [M.ofO_some, M.ok_bind]
      cases e : lkD kv y with
      | none => rfl
      | some b =>
        simp only [Option.isSome, if_true, M.ofO_some, M.ok_bind]
        by_cases hb : b = (d : Int) - i - 1
        · rw [if_pos (by simpa using hb), M.push_small (by rw [List.length_append, List.length_singleton]; omega)]
          simp only [M.ok_bind]
          rw [if_pos (by simpa using hb)]
        · rw [if_neg (by simpa using hb), if_neg (by simpa using hb)]]
    obtain ⟨y0, hy0, ey0⟩ := Di.down u _ Du (by omega)
    have hfi : ∃ y, (fols ties u).find? (fun y => decide (lkD kv y = some ((d : Int) - i - 1))) = some y := by
      cases e : (fols ties u).find? (fun y => decide (lkD kv y = some ((d : Int) - i - 1))) with
      | some y => exact ⟨y, rfl⟩
      | none =>
        have := List.find?_eq_none.mp e y0 hy0
        rw [decide_eq_true_eq] at this
        exact absurd ey0 this
    obtain ⟨y, ey⟩ := hfi
    obtain ⟨py, as, bs, es, hno⟩ := List.find?_eq_some_iff_append.mp ey
    rw [decide_eq_true_eq] at py
    rw [ey]
    simp only [M.ok_bind, Ct.go]
    have hyF : y ∈ fols ties u := List.mem_of_find?_eq_some ey
    refine M.sat_ok ⟨⟨by rw [List.length_append, W.len]; rfl, ?_, fun j x hx => ?_, fun j x z hxj hz => ?_⟩, fun x hx => ?_⟩
    · rw [List.getElem?_append_left (by rw [W.len]; omega)]; exact W.hd
    · rcases app_get hx with ⟨lj, hj⟩ | ⟨lj, hj⟩
      · exact W.dist j x hj
      · have h0 := (List.getElem?_eq_some_iff.mp hj).1
        rw [List.length_singleton, W.len] at h0
        rw [W.len] at lj hj
        have e : j = i + 1 := by omega
        subst e
        rw [Nat.sub_self] at hj
        cases hj
        show lkD kv y = _
        rw [py]
        congr 1
        omega
    · rcases app_get hz with ⟨lj, hz⟩ | ⟨lj, hz⟩
      · rw [List.getElem?_append_left (by omega)] at hxj
        exact W.st j x z hxj hz
      · have h0 := (List.getElem?_eq_some_iff.mp hz).1
        rw [List.length_singleton, W.len] at h0
        rw [W.len] at lj hz
        have e : j = i := by omega
        subst e
        rw [Nat.sub_self] at hz
        cases hz
        rw [List.getElem?_append_left (by rw [W.len]; omega), hu] at hxj
        cases hxj
        refine ⟨hyF, fun c hc ec => ?_⟩
        have pw := fols_cd (ties := ties) u
        rw [es] at hc pw
        rw [List.pairwise_append] at pw
        rcases List.mem_append.mp hc with hc | hc
        · have := hno c hc
          rw [Bool.not_eq_true', decide_eq_false_iff_not] at this
          exact absurd (show lkD kv c = _ by rw [show lkD kv c = _ from ec]; congr 1; omega) this
        · rcases List.mem_cons.mp hc with rfl | hc
          · exact Int.le_refl _
          · exact Int.le_of_lt ((List.pairwise_cons.mp pw.2.1).1 c hc)
    · rcases List.mem_append.mp hx with hx | hx
      · exact ws x hx
      · rw [List.mem_singleton] at hx; subst hx; exact fols_in hyF
theorem lowest_none {first : Stp} {kv : List (Stp × Int)} (h : lkD kv first = none) : l_lowest_m (TB ties) ⟨kv⟩ first = .ok .none := by
  unfold l_lowest_m
  simp only
  rw [h, if_pos (by decide)]
/-! ### the shortest walk -/
theorem add_keys (p : Stp) : ∀ (ys : List Stp) (kv : List (Stp × Opt Stp)) (w : List Stp), ys.Nodup → kv.length + ys.length ≤ 1000 → w.length + ys.length ≤ 1000 →
    M.fold (fun (s5 : ((DK (Int × Int) (Opt (Int × Int))) × (List (Int × Int)))) x6 =>
        if (!(lkD s5.1.kv x6).isSome) then
          M.dputK s5.1 (M.ok x6) (M.ok (.some p)) >>= fun before_7 =>
            M.push s5.2 (M.ok x6) >>= fun waiting_8 =>
            M.ok (before_7, waiting_8)
        else
          M.ok (s5.1, s5.2)) (⟨kv⟩, w) ys = .ok (⟨kv ++ (nw (kv.map Prod.fst) ys).map fun x => (x, Opt.some p)⟩, w ++ nw (kv.map Prod.fst) ys)
  | [], kv, w, _, _, _ => by simp [M.fold, nw]
  | x :: ys, kv, w, nd, hl, hw => by
    obtain ⟨h1, h2⟩ := List.nodup_cons.mp nd
    rw [List.length_cons] at hw hl
    rw [fold_cons']
    dsimp only
    rw [lk_none]
    by_cases hx : x ∈ kv.map Prod.fst
    · rw [if_neg (by rw [Bool.not_eq_true', ← Bool.not_eq_true, memB_iff]; exact fun z => z hx), M.ok_bind, nw_skip hx]
      exact add_keys p ys kv w h2 (by omega) (by omega)
    · rw [if_pos (by rw [Bool.not_eq_true', ← Bool.not_eq_true, memB_iff]; exact hx), dputK_new (by show kv.length ≤ _; omega) (by
        cases e : lkD kv x with
        | none => rfl
        | some a =>
          have := lk_none (x := x) (kv := kv)
          rw [e] at this
          exact absurd (memB_iff.mp this.symm) hx)]
      simp only [M.ok_bind]
      rw [M.push_small (by omega)]
      simp only [M.ok_bind]
      rw [add_keys p ys (kv ++ [(x, Opt.some p)]) (w ++ [x]) h2 (by rw [List.length_append, List.length_singleton]; omega) (by rw [List.length_append, List.length_singleton]; omega), nw_cons h1 hx]
      simp
/-- the search's state -/
structure Sr (ties : List T4I) (first last : Stp) (kv : List (Stp × Opt Stp)) (w : List Stp) (p : Nat) (ks : List Stp) (pi : Nat → Nat) : Prop where
  T : Tr (fols ties) first p kv ks pi
  wt : w = ks.drop p
  ple : p ≤ ks.length
  sub : ∀ x ∈ ks, x ∈ allSteps ties.length
  lst : ∀ j, ks[j]? = some last → 0 < j → pi j + 1 = p
theorem search_ok (g : Good sides ties) (hn : ties.length ≤ 24) {first last : Stp} (hf : IsStep ties first) :
    M.sat (M.loop (fun (s3 : ((DK (Int × Int) (Opt (Int × Int))) × (List (Int × Int)))) => (M.ok ((!s3.2.isEmpty) && (!(lkD s3.1.kv last).isSome)))) (fun (s3 : ((DK (Int × Int) (Opt (Int × Int))) × (List (Int × Int)))) =>
    (M.popAt s3.2 (M.ok (0 : Int))) >>= fun p4 =>
      (p_followers_m ⟨⟨sides⟩, ⟨ties⟩⟩ p4.2) >>= fun l10 =>
      M.fold (fun (s5 : ((DK (Int × Int) (Opt (Int × Int))) × (List (Int × Int)))) x6 =>
        if (!(lkD s5.1.kv x6).isSome) then
          M.dputK s5.1 (M.ok x6) (M.ok (.some p4.2)) >>= fun before_7 =>
            M.push s5.2 (M.ok x6) >>= fun waiting_8 =>
            M.ok (before_7, waiting_8)
        else
          M.ok (s5.1, s5.2)) (s3.1, p4.1) l10 >>= fun (s9 : ((DK (Int × Int) (Opt (Int × Int))) × (List (Int × Int)))) =>
      M.ok (s9.1, s9.2)) (⟨[(first, .none)]⟩, [first])) fun s => ∃ p ks pi, Sr ties first last s.1.kv s.2 p ks pi ∧ (last ∈ ks ∨ ks.length ≤ p) := by
  have full : ∀ {kv : List (Stp × Opt Stp)} {w : List Stp} {p : Nat} {ks : List Stp} {pi : Nat → Nat}, Sr ties first last kv w p ks pi → ks.length ≤ 48 := fun S => few hn S.T.nd S.sub
  refine M.sat_loop (fun s => ∃ p ks pi, Sr ties first last s.1.kv s.2 p ks pi) (fun s => 100 - s.1.kv.length + s.2.length) ?_ fun s ⟨p, ks, pi, S⟩ => ?_
  · refine ⟨0, [first], fun _ => 0, Tr.start, rfl, Nat.zero_le _, fun x hx => ?_, fun j hj h0 => ?_⟩
    · rw [List.mem_singleton] at hx; subst hx; exact step_in.mpr hf
    · have := (List.getElem?_eq_some_iff.mp hj).1
      rw [List.length_singleton] at this
      omega
  · obtain ⟨⟨kv⟩, w⟩ := s
    simp only at S ⊢
    have hks := full S
    have hkl := S.T.len
    have emp : w.isEmpty = decide (ks.length ≤ p) := by
      rw [S.wt]
      by_cases h : ks.length ≤ p
      · rw [List.drop_of_length_le h]; simp [h]
      · cases e : ks.drop p with
        | nil =>
          have := congrArg List.length e
          rw [List.length_drop, List.length_nil] at this
          omega
        | cons a b => simp [h]
    have hlk : (lkD kv last).isSome = memB last ks := by rw [lk_none, S.T.eq]
    refine ⟨_, rfl, fun hb => ?_, fun hb => ?_⟩
    · rw [emp, hlk, Bool.and_eq_true, Bool.not_eq_true', Bool.not_eq_true', decide_eq_false_iff_not, ← Bool.not_eq_true, memB_iff] at hb
      obtain ⟨hp, hnl⟩ := hb
      have hy : ks[p]? = some ks[p] := List.getElem?_eq_getElem (by omega)
      generalize ks[p]'(by omega) = y at hy
      have hys : IsStep ties y := step_in.mp (S.sub y (List.mem_of_getElem? hy))
      have hw0 : w[0]? = some y := by rw [S.wt, List.getElem?_drop, Nat.add_zero]; exact hy
      have hwe : w.eraseIdx 0 = ks.drop (p + 1) := by
        rw [S.wt]
        cases e : ks.drop p with
        | nil => rw [S.wt, e] at hw0; cases hw0
        | cons a b =>
          have := congrArg List.tail e
          rw [List.tail_drop] at this
          simpa using this.symm
      have hwl : w.length ≤ 48 := by rw [S.wt, List.length_drop]; omega
      have hfl := few hn (fols_nd (ties := ties) y) fun x hx => fols_in hx
      have S2 : Tr (fols ties) first (p + 1) (kv ++ (grow (fols ties) ks y).map fun x => (x, Opt.some y)) (ks ++ grow (fols ties) ks y) _ := S.T.step (fun x => fols_cd x) hy
      rw [M.popAt_at (y := y) (by decide) (by decide) hw0]
      simp only [M.ok_bind]
      rw [followers_eq g (by omega) hys]
      simp only [M.ok_bind]
      rw [show w.eraseIdx (0 : Int).toNat = ks.drop (p + 1) from hwe, add_keys y _ kv _ (fols_nd y) (by omega) (by rw [List.length_drop]; omega), ← S.T.eq]
      simp only [M.ok_bind]
      have sub2 : ∀ x ∈ ks ++ grow (fols ties) ks y, x ∈ allSteps ties.length := fun x hx => by
        rcases List.mem_append.mp hx with hx | hx
        · exact S.sub x hx
        · exact fols_in (mem_grow.mp hx).1
      have l2 := few hn S2.nd sub2
      rw [List.length_append] at l2
      refine M.sat_ok ⟨⟨p + 1, _, _, S2, ?_, by rw [List.length_append]; omega, sub2, fun j hj h0 => ?_⟩, ?_⟩
      · show ks.drop (p + 1) ++ _ = _
        rw [List.drop_append_of_le_length (by omega)]
        rfl
      · rcases app_get hj with ⟨lj, hj⟩ | ⟨lj, hj⟩
        · exact absurd (List.mem_of_getElem? hj) hnl
        · simp only [if_neg (show ¬ j < ks.length by omega)]
      · show 100 - (kv ++ (nw ks (fols ties y)).map fun x => (x, Opt.some y)).length + (ks.drop (p + 1) ++ nw ks (fols ties y)).length < 100 - kv.length + w.length
        have e1 : (grow (fols ties) ks y).length = (nw ks (fols ties y)).length := rfl
        rw [S.wt, List.length_append, List.length_append, List.length_map, List.length_drop, List.length_drop]
        omega
    · refine ⟨p, ks, pi, S, ?_⟩
      rw [emp, hlk] at hb
      by_cases h : last ∈ ks
      · exact .inl h
      · refine .inr ?_
        have : memB last ks = false := by rw [← Bool.not_eq_true, memB_iff]; exact h
        rw [this] at hb
        simpa using hb
/-- going back by parents -/
theorem back_ok {first last : Stp} {kv : List (Stp × Opt Stp)} {p : Nat} {ks : List Stp} {pi : Nat → Nat} (T : Tr (fols ties) first p kv ks pi) (h48 : ks.length ≤ 48) {jl : Nat} (hjl : ks[jl]? = some last) :
    M.sat (M.loop (fun (s13 : (List (Int × Int))) => ((M.ix s13 (-(1 : Int))) >>= fun t14 => (M.ok (!decide (t14 = first))))) (fun (s13 : (List (Int × Int))) =>
      M.push s13 (((M.ix s13 (-(1 : Int))) >>= fun t15 => (M.ofO (lkD kv t15))) >>= M.ofOpt) >>= fun walk_16 =>
        M.ok walk_16) [last]) fun v => Bk ks pi first last v.reverse := by
  refine M.sat_loop (fun v => ∃ v0 u j, v = v0 ++ [u] ∧ v[0]? = some last ∧ (∀ (i : Nat) (a b : Stp), v[i]? = some a → v[i + 1]? = some b → ∃ c, 0 < c ∧ ks[c]? = some a ∧ ks[pi c]? = some b) ∧ ks[j]? = some u ∧ v.length + j ≤ 100) (fun v => 100 - v.length) ⟨[], last, jl, rfl, rfl, fun i a b _ hb => ?_, hjl, ?_⟩ fun v ⟨v0, u, j, ev, i1, i2, i3, i4⟩ => ?_
  · have := (List.getElem?_eq_some_iff.mp hb).1
    rw [List.length_singleton] at this
    omega
  · have := (List.getElem?_eq_some_iff.mp hjl).1
    rw [List.length_singleton]
    omega
  · subst ev
    rw [ix_last]
    refine ⟨_, rfl, fun hb => ?_, fun hb => ?_⟩
    · have hne : u ≠ first := by simpa using hb
      have j0 : 0 < j := Nat.pos_of_ne_zero fun z => by
        rw [z, T.hd] at i3
        cases i3
        exact hne rfl
      obtain ⟨a1, _, y, hy, hk, _⟩ := T.par j u j0 i3
      have hl : lkD kv u = some (.some y) := (lk_mem (by rw [← T.eq]; exact T.nd)).mpr (List.mem_of_getElem? hk)
      simp only [M.ok_bind]
      rw [hl]
      rw [List.length_append, List.length_singleton] at i4
      rw [show (M.ofO (some (Opt.some y)) >>= M.ofOpt) = M.ok y from rfl, M.push_small (by rw [List.length_append, List.length_singleton]; omega)]
      simp only [M.ok_bind]
      refine M.sat_ok ⟨⟨v0 ++ [u], y, pi j, rfl, ?_, fun i a b ha hb => ?_, hy, ?_⟩, ?_⟩
      · rw [List.getElem?_append_left (by rw [List.length_append, List.length_singleton]; omega)]; exact i1
      · rcases app_get hb with ⟨lb, hb⟩ | ⟨lb, hb⟩
        · rw [List.getElem?_append_left (by omega)] at ha
          exact i2 i a b ha hb
        · have h0 := (List.getElem?_eq_some_iff.mp hb).1
          rw [List.length_singleton, List.length_append, List.length_singleton] at h0
          rw [List.length_append, List.length_singleton] at lb hb
          have e : i = v0.length := by omega
          subst e
          rw [Nat.sub_self] at hb
          cases hb
          rw [List.getElem?_append_left (by rw [List.length_append, List.length_singleton]; omega), List.getElem?_append_right (Nat.le_refl _), Nat.sub_self] at ha
          cases ha
          exact ⟨j, j0, i3, hy⟩
      · rw [List.length_append, List.length_append, List.length_singleton, List.length_singleton]; omega
      · rw [List.length_append, List.length_append, List.length_singleton, List.length_singleton]; omega
    · have he : u = first := by simpa using hb
      subst he
      have len : (v0 ++ [u]).length = v0.length + 1 := by rw [List.length_append, List.length_singleton]
      refine ⟨?_, ?_, fun i a b ha hb => ?_⟩
      · rw [List.reverse_append]; rfl
      · rw [List.length_reverse, List.getElem?_reverse (by omega), show (v0 ++ [u]).length - 1 - ((v0 ++ [u]).length - 1) = 0 by omega]; exact i1
      · have hbl := (List.getElem?_eq_some_iff.mp hb).1
        rw [List.length_reverse] at hbl
        rw [List.getElem?_reverse (by omega)] at ha hb
        refine i2 ((v0 ++ [u]).length - 1 - (i + 1)) b a hb ?_
        rw [show (v0 ++ [u]).length - 1 - (i + 1) + 1 = (v0 ++ [u]).length - 1 - i by omega]
        exact ha
/-- both tell the same -/
theorem walk_same (g : Good sides ties) (hn : ties.length ≤ 24) {first last : Stp} (hf : IsStep ties first) (hl : IsStep ties last) : ∃ o : Opt (List Stp), (∀ w, o = .some w → w.length ≤ 100) ∧ p_shortest_walk_m ⟨⟨sides⟩, ⟨ties⟩⟩ first last = .ok o ∧ (l_far_m (TB ties) last >>= fun t1 => l_lowest_m (TB ties) t1 first) = .ok o := by
  obtain ⟨kv, ef, Di, h48⟩ := far_ok hn hl
  rw [ef]
  simp only [M.ok_bind]
  unfold p_shortest_walk_m
  rw [tail_eq hf.1 hf.2.1, tail_eq hl.1 hl.2.1]
  simp only [M.ok_bind]
  obtain ⟨⟨⟨bv⟩, w⟩, es, p, ks, pi, S, hex⟩ := search_ok g hn hf (last := last)
  simp only at S
  rw [es]
  simp only [M.ok_bind]
  have hlk : (lkD bv last).isSome = memB last ks := by rw [lk_none, S.T.eq]
  have hks := few hn S.T.nd S.sub
  rw [hlk]
  by_cases hin : last ∈ ks
  · obtain ⟨jl, hj, ej⟩ := List.getElem_of_mem hin
    have hjl : ks[jl]? = some last := by rw [List.getElem?_eq_getElem hj, ej]
    have up : ∀ (n j : Nat) (u : Stp) (a : Int), j ≤ n → ks[j]? = some u → lkD kv u = some a → ∃ b, lkD kv first = some b := by
      intro n
      induction n with
      | zero =>
        intro j u a hjn hu ha
        have : j = 0 := by omega
        subst this
        rw [S.T.hd] at hu
        cases hu
        exact ⟨a, ha⟩
      | succ n ih =>
        intro j u a hjn hu ha
        by_cases h0 : j = 0
        · subst h0
          rw [S.T.hd] at hu
          cases hu
          exact ⟨a, ha⟩
        · obtain ⟨l1, _, y, hy, _, hm, _⟩ := S.T.par j u (by omega) hu
          obtain ⟨b, eb, _⟩ := Di.near y u a ha (S.sub y (List.mem_of_getElem? hy)) hm
          exact ih (pi j) y b (by omega) hy eb
    obtain ⟨b, eb⟩ := up jl jl last 0 (Nat.le_refl _) hjl Di.lst
    have b0 := Di.nn first b eb
    obtain ⟨d, rfl⟩ : ∃ d : Nat, b = d := ⟨b.toNat, by omega⟩
    have hd48 := h48 first _ eb
    obtain ⟨lw, el, W⟩ := lowest_ok hn hf Di eb (by omega)
    rw [if_neg (by rw [memB_iff.mpr hin]; decide)]
    obtain ⟨v, ev, B⟩ := back_ok S.T hks hjl
    rw [ev]
    simp only [M.ok_bind]
    refine ⟨.some lw, fun w e => by cases e; rw [W.len]; omega, ?_, el⟩
    rw [same_walk S.T (fun x => fols_cd x) S.sub Di hjl (S.lst jl hjl) W B]
  · rw [if_pos (by rw [Bool.not_eq_true', ← Bool.not_eq_true, memB_iff]; exact hin)]
    have hp : ks.length ≤ p := hex.resolve_left hin
    have none_ : lkD kv first = none := by
      cases e : lkD kv first with
      | none => rfl
      | some a =>
        exfalso
        have down : ∀ (n : Nat) (x : Stp) (a : Int), a.toNat ≤ n → x ∈ ks → lkD kv x = some a → last ∈ ks := by
          intro n
          induction n with
          | zero =>
            intro x a ha hx ex
            have := Di.nn x a ex
            have : a = 0 := by omega
            subst this
            rw [← Di.zero x ex]
            exact hx
          | succ n ih =>
            intro x a ha hx ex
            by_cases h0 : a = 0
            · subst h0
              rw [← Di.zero x ex]
              exact hx
            · have := Di.nn x a ex
              obtain ⟨y, hy, ey⟩ := Di.down x a ex h0
              obtain ⟨i, hi, ei⟩ := List.getElem_of_mem hx
              exact ih y (a - 1) (by omega) (S.T.clo i y x (by omega) (by rw [List.getElem?_eq_getElem hi, ei]) hy) ey
        exact hin (down a.toNat first a (Nat.le_refl _) (List.mem_of_getElem? S.T.hd) e)
    exact ⟨.none, (fun w e => nomatch e), rfl, lowest_none none_⟩
/-! ### what is told -/
abbrev uT (n : Int) : PyData := UD.toU (("tie" : PySem.Str), n)
theorem ok_steps {R : List Stp} (h : R.length ≤ 100) : OkU 9 (PyData.tuple [UD.toU ("told" : PySem.Str), PyData.list (R.map UD.toU)]) := by
  refine OkU.tuple (by simp) fun d hd => ?_
  rcases List.mem_cons.mp hd with rfl | hd
  · exact .str _
  · rw [List.mem_singleton] at hd
    subst hd
    refine OkU.list (by rw [List.length_map]; omega) fun d hd => ?_
    obtain ⟨x, _, rfl⟩ := List.mem_map.mp hd
    refine OkU.tuple (by simp) fun d hd => ?_
    rcases List.mem_cons.mp hd with rfl | hd
    · exact .int _
    · rw [List.mem_singleton] at hd
      subst hd
      exact .int _
theorem ok_tie (n : Int) : OkU 9 (uT n) := by
  refine OkU.tuple (by simp) fun d hd => ?_
  rcases List.mem_cons.mp hd with rfl | hd
  · exact .str _
  · rw [List.mem_singleton] at hd
    subst hd
    exact .int _
theorem ok_none : OkU 9 (PyData.tuple [UD.toU ("told" : PySem.Str), PyData.none]) := by
  refine OkU.tuple (by simp) fun d hd => ?_
  rcases List.mem_cons.mp hd with rfl | hd
  · exact .str _
  · rw [List.mem_singleton] at hd
    subst hd
    exact .none
theorem appU_ok {a : PyData} {ds : List PyData} {y : PyData} (h : ds.length ≤ 100000) : M.appU (.tuple [a, .list ds]) (.ok 1) (.ok y) = .ok (.tuple [a, .list (ds ++ [y])]) := by
  unfold M.appU
  simp only [M.ok_bind]
  rw [show appAt (.tuple [a, .list ds]) 1 = some ([a, .list ds], 1, ds) from rfl]
  simp only [M.ofO_some, M.ok_bind]
  rw [M.asrt_pos (small1k h)]
  rfl
def tR (R : List Stp) : PyData := PyData.tuple [UD.toU ("told" : PySem.Str), PyData.list (R.map UD.toU)]
def tO (o : Opt (List Stp)) : PyData := PyData.tuple [UD.toU ("told" : PySem.Str), optU (fun xs : List Stp => PyData.list (xs.map UD.toU)) o]
theorem told0 {R : List Stp} {w : WebM} {first last : Stp} (h : p_reached_m w first = .ok R) : l_told_m w first last 0 = .ok (tR R) := by
  unfold l_told_m
  rw [if_pos (by decide), h]
  rfl
theorem told1 {o : Opt (List Stp)} {w : WebM} {first last : Stp} (h : p_shortest_walk_m w first last = .ok o) : l_told_m w first last 1 = .ok (tO o) := by
  unfold l_told_m
  rw [if_neg (by decide), h]
  rfl
def tx_ (n : Int) : PX := ⟨.UnknownTie, some [("tie", .int n)]⟩
theorem told_bad {w : WebM} {first last : Stp} {which n : Int} (h : (if (decide (which = (0 : Int))) then
  (((p_reached_m w first) >>= fun t1 => (M.ok (PyData.list (t1.map UD.toU)))) >>= fun t2 => (M.ok (PyData.tuple [(UD.toU ("told" : PySem.Str)), t2])))
else
  (((p_shortest_walk_m w first last) >>= fun t3 => (M.ok (optU (fun xs : (List (Int × Int)) => PyData.list (xs.map UD.toU)) t3))) >>= fun t4 => (M.ok (PyData.tuple [(UD.toU ("told" : PySem.Str)), t4])))) = .exc (tx_ n)) : l_told_m w first last which = .ok (uT n) := by
  unfold l_told_m
  rw [h, M.tryK_exc (by exact (by decide : kn XC.UnknownTie = true)) (by exact (by decide : XC.isA XC.UnknownTie XC.ComesapartError = true))]
  rw [if_pos (by exact (by decide : XC.isA XC.UnknownTie XC.UnknownTie = true)), if_pos rfl, show (tx_ n).fld .UnknownTie "tie" = .ok n from rfl]
  rfl
theorem followers_bad {w : WebM} {s : Stp} (h : s.1 < 0 ∨ (w.b.l.length : Int) ≤ s.1) : p_followers_m w s = .exc (tx_ s.1) := by
  unfold p_followers_m
  rw [head_bad h]
  rfl
theorem reached_bad {w : WebM} {s : Stp} (h : s.1 < 0 ∨ (w.b.l.length : Int) ≤ s.1) : p_reached_m w s = .exc (tx_ s.1) := by
  unfold p_reached_m
  simp only [M.ok_bind]
  rw [M.loop_eq]
  simp only [M.ok_bind]
  rw [if_pos (by rfl), show [s] = [] ++ [s] from rfl, M.popL_snoc]
  simp only [M.ok_bind]
  rw [followers_bad h]
  rfl
theorem shortest_bad {w : WebM} {s t : Stp} (h : s.1 < 0 ∨ (w.b.l.length : Int) ≤ s.1) : p_shortest_walk_m w s t = .exc (tx_ s.1) := by
  unfold p_shortest_walk_m
  rw [tail_bad h]
  rfl
theorem shortest_bad2 {w : WebM} {s t : Stp} (h0 : 0 ≤ s.1) (h1 : s.1 < w.b.l.length) (h : t.1 < 0 ∨ (w.b.l.length : Int) ≤ t.1) : p_shortest_walk_m w s t = .exc (tx_ t.1) := by
  unfold p_shortest_walk_m
  rw [tail_eq h0 h1]
  simp only [M.ok_bind]
  rw [tail_bad h]
  rfl
theorem same_tie (n : Int) : l_same_m 9 (uT n) (UD.toU (("tie" : PySem.Str), n)) = .ok true := same_refl (ok_tie n)
/-! ### the law's parts -/
theorem right_first (g : Good sides ties) (hn : ties.length ≤ 24) {first : Stp} (hf : IsStep ties first) : l_right_first_m ⟨⟨sides⟩, ⟨ties⟩⟩ (TB ties) first = .ok true := by
  obtain ⟨R, hR, e1, e2⟩ := reached_same g hn hf
  have ok := ok_steps (R := R) (by omega)
  unfold l_right_first_m
  rw [e2]
  simp only [M.ok_bind]
  rw [told0 e1]
  simp only [M.ok_bind]
  rw [show (UD.toU ((("told" : PySem.Str), R) : PySem.Str × List Stp) : PyData) = tR R from rfl]
  rw [show l_same_m 9 (tR R) (tR R) = .ok true from same_refl ok]
  simp only [M.calm_of_ok, M.ok_bind, Bool.not_true, Bool.false_eq_true, if_false]
  unfold tR
  rw [appU_ok (by rw [List.length_map]; omega)]
  simp only [M.ok_bind]
theorem right_last (g : Good sides ties) (hn : ties.length ≤ 24) {first last : Stp} (hf : IsStep ties first) (hl : IsStep ties last) : l_right_last_m ⟨⟨sides⟩, ⟨ties⟩⟩ (TB ties) first last = .ok true := by
  obtain ⟨o, ho, e1, e2⟩ := walk_same g hn hf hl
  unfold l_right_last_m
  rw [e2]
  simp only [M.ok_bind]
  rw [told1 e1]
  simp only [M.ok_bind]
  rw [show (UD.toU ((("told" : PySem.Str), o) : PySem.Str × Opt (List Stp)) : PyData) = tO o by cases o <;> rfl]
  cases o with
  | none =>
    rw [show l_same_m 9 (tO .none) (tO .none) = .ok true from same_refl ok_none]
    rfl
  | some w =>
    have hw := ho w rfl
    have ok := ok_steps (R := w) (by omega)
    rw [show l_same_m 9 (tO (.some w)) (tO (.some w)) = .ok true from same_refl ok]
    simp only [M.calm_of_ok, M.ok_bind, Bool.not_true, Bool.false_eq_true, if_false, Opt.isNone, Bool.not_false, if_true]
    rw [show tO (.some w) = PyData.tuple [UD.toU ("told" : PySem.Str), PyData.list (w.map UD.toU)] from rfl, appU_ok (by rw [List.length_map]; omega)]
    rfl
theorem right_steps (g : Good sides ties) (hn : ties.length ≤ 24) (d : List Int) (at_ : Int) {many : Int} (h0 : 0 ≤ many) (h1 : many ≤ 10) : l_right_steps_m ⟨⟨sides⟩, ⟨ties⟩⟩ ties d at_ many = .ok true := by
  suffices M.sat (l_right_steps_m ⟨⟨sides⟩, ⟨ties⟩⟩ ties d at_ many) (· = true) from M.sat_val this
  unfold l_right_steps_m
  refine M.sat_if (fun _ => M.sat_ok rfl) fun q => ?_
  have hp : 0 < ties.length := by
    rw [decide_eq_false_iff_not] at q
    omega
  rw [table_eq (by omega)]
  simp only [M.ok_bind, pick_eq]
  have mk : ∀ (k l : Int), IsStep ties (pick d k (ties.length : Int), pick d l 2) := fun k l => by
    have a := pick_range (d := d) (k := k) (m := (ties.length : Int)) (by omega)
    have b := pick_range (d := d) (k := l) (m := 2) (by decide)
    exact ⟨a.1, a.2, by show _ = (0 : Int) ∨ _ = (1 : Int); omega⟩
  have hf := mk at_ (at_ + 1)
  generalize pick d at_ (ties.length : Int) = a at hf
  generalize pick d (at_ + 1) 2 = b at hf
  have hb : IsStep ties (a, 1 - b) := hf.bk
  rw [right_first g hn hf, right_first g hn hb]
  simp only [M.ok_bind, Bool.not_true, Bool.false_eq_true, if_false]
  rw [M.range_ok h0 (by omega)]
  simp only [M.ok_bind]
  refine M.sat_bind (M.sat_fold (fun i (s : List Stp) => s.length = 2 + i ∧ ∀ x ∈ s, IsStep ties x) ⟨rfl, fun x hx => ?_⟩ fun i x s hx ⟨i1, i2⟩ => ?_) fun s ⟨_, h2⟩ => ?_
  · rcases List.mem_cons.mp hx with rfl | hx
    · exact hf
    · rw [List.mem_singleton] at hx; subst hx; exact hb
  · obtain ⟨hi, _⟩ := rngL_get hx
    rw [M.push_small (by omega)]
    simp only [M.ok_bind]
    refine M.sat_ok ⟨by rw [List.length_append, i1]; rfl, fun z hz => ?_⟩
    rcases List.mem_append.mp hz with hz | hz
    · exact i2 z hz
    · rw [List.mem_singleton] at hz; subst hz; exact mk _ _
  · refine M.sat_bind (R1 := fun s : List Stp => ∀ x ∈ s, IsStep ties x) (M.sat_if (fun _ => ?_) fun _ => M.sat_ok h2) fun s h3 => ?_
    · have kl : (TB ties).kv.length = 2 * ties.length := by unfold TB; rw [List.length_map, allSteps_len]
      rw [M.asrt_pos (Nat.le_trans (show (TB ties).kv.length ≤ 100000 by omega) (by decide)), keys_TB]
      simp only [M.ok_bind]
      rw [M.comp_mapM (fun x : Stp => x) fun x _ => rfl, List.map_id']
      exact M.sat_ok fun x hx => step_in.mp hx
    · rw [M.foldC_unit _ fun x hx => by
        rw [right_last g hn hf (h3 x hx)]
        rfl]
      exact M.sat_ok rfl
theorem right_refusals (hn : ties.length ≤ 24) (d : List Int) : l_right_refusals_m ⟨⟨sides⟩, ⟨ties⟩⟩ ties d = .ok true := by
  unfold l_right_refusals_m
  simp only [M.ok_bind, pick_eq]
  have key : ∀ x ∈ [(-(1 : Int)), (ties.length : Int), ((ties.length : Int) + (5 : Int))], x < 0 ∨ (ties.length : Int) ≤ x := fun x hx => by
    simp only [List.mem_cons, List.not_mem_nil, or_false] at hx
    omega
  rw [M.foldC_unit _ fun x hx => ?_]
  · rfl
  · have hb := key x hx
    rw [range2]
    simp only [M.ok_bind]
    rw [M.foldC_unit _ fun y hy => ?_]
    · rfl
    · have hr := pick_range (d := d) (k := 50 + y) (m := 3) (by decide)
      obtain ⟨z, _, ez⟩ := M.ix_some (xs := [(-(1 : Int)), (ties.length : Int), ((ties.length : Int) + (3 : Int))]) hr.1 (by simpa using hr.2)
      rw [ez]
      simp only [M.ok_bind]
      have b0 : ∀ l : Stp, l_told_m ⟨⟨sides⟩, ⟨ties⟩⟩ (x, y) l 0 = .ok (uT x) := fun l => told_bad (n := x) (by
        rw [if_pos (by decide), reached_bad (s := (x, y)) hb]
        rfl)
      have b1 : ∀ l : Stp, l_told_m ⟨⟨sides⟩, ⟨ties⟩⟩ (x, y) l 1 = .ok (uT x) := fun l => told_bad (n := x) (by
        rw [if_neg (by decide), shortest_bad (s := (x, y)) hb]
        rfl)
      rw [b0, b1]
      simp only [M.ok_bind]
      rw [same_tie]
      simp only [M.ok_bind, Bool.not_true, Bool.false_eq_true, if_false]
      by_cases hp : 0 < ties.length
      · rw [if_pos (by rw [decide_eq_true_eq]; omega)]
        have a := pick_range (d := d) (k := 52) (m := (ties.length : Int)) (by omega)
        have b2 : l_told_m ⟨⟨sides⟩, ⟨ties⟩⟩ (pick d 52 (ties.length : Int), pick d 53 2) (x, y) 1 = .ok (uT x) := told_bad (n := x) (by
          rw [if_neg (by decide), shortest_bad2 (s := (pick d 52 (ties.length : Int), pick d 53 2)) (t := (x, y)) a.1 a.2 hb]
          rfl)
        rw [M.foldC_unit _ fun r hr => ?_]
        · rfl
        · simp only [List.mem_cons, List.not_mem_nil, or_false] at hr
          rcases hr with rfl | rfl
          · rw [M.ix_at (x := (x, y)) (by decide) rfl, M.ix_at (x := (pick d 52 (ties.length : Int), pick d 53 2)) (by decide) rfl]
            simp only [M.ok_bind]
            rw [b1]
            simp only [M.ok_bind]
            rw [same_tie]
            rfl
          · rw [M.ix_at (x := (pick d 52 (ties.length : Int), pick d 53 2)) (by decide) rfl, M.ix_at (x := (x, y)) (by decide) rfl]
            simp only [M.ok_bind]
            rw [b2]
            simp only [M.ok_bind]
            rw [same_tie]
            rfl
      · rw [if_neg (by rw [decide_eq_true_eq]; omega)]
/-! ### the lane -/
def LnT (many : Int) (x : T4I) : Prop := 0 ≤ x.a ∧ x.a < many ∧ 0 ≤ x.c ∧ x.c < many ∧ ((x.b = 1 ∧ x.d = 0) ∨ (x.b = 0 ∧ x.d = 1))
theorem lane_sat (d : List Int) : M.sat (l_lane_m d) fun r => Good r.1 r.2 ∧ r.1.length ≤ 24 ∧ r.2.length ≤ 24 := by
  unfold l_lane_m
  simp only [M.ok_bind, pick_eq]
  have hm := pick_range (d := d) (k := 0) (m := 5) (by omega)
  generalize hmm : 8 + pick d 0 5 = many
  have h1 : 8 ≤ many ∧ many ≤ 12 := by omega
  have hp := pick_range (d := d) (k := 1) (m := many) (by omega)
  generalize pick d 1 many = fr at hp
  rw [M.range_ok (by omega) (by omega)]
  simp only [M.ok_bind]
  refine M.sat_bind (M.sat_fold (fun i (s : List T4I) => (∀ x ∈ s, LnT many x) ∧ s.length ≤ 2 * i) ⟨(fun _ z => nomatch z), Nat.le_refl 0⟩ fun i k s hx ⟨h2, h3⟩ => ?_) fun s ⟨h2, h3⟩ => ?_
  · obtain ⟨hi, hk⟩ := rngL_get hx
    have hkm : 0 ≤ k ∧ k < many := by omega
    refine M.sat_bind (R1 := fun far : Int => 0 ≤ far ∧ far < many) (M.sat_if (fun _ => M.sat_ok hp) fun hb => M.sat_ok ?_) fun far hf => ?_
    · have : ¬ k + 1 = many := by simpa using hb
      omega
    · have h4 := pick_range (d := d) (k := 2 + k) (m := 2) (by decide)
      rw [M.range_ok (by omega) (by omega)]
      simp only [M.ok_bind]
      refine M.sat_bind (M.sat_fold (fun j (t : List T4I) => (∀ x ∈ t, LnT many x) ∧ t.length = s.length + j) ⟨h2, rfl⟩ fun j z t hz ⟨q1, q2⟩ => ?_) fun t ⟨q1, q2⟩ => M.sat_ok ⟨q1, by rw [rngL_len] at q2; omega⟩
      obtain ⟨hj, _⟩ := rngL_get hz
      have h5 := pick_range (d := d) (k := 20 + 2 * k + z) (m := (t.length : Int) + 1) (by omega)
      have ins : ∀ {y : T4I}, LnT many y → M.sat (M.insert t (M.ok (pick d (20 + 2 * k + z) ((t.length : Int) + 1))) (M.ok y) >>= fun r => M.ok r) fun t' => (∀ x ∈ t', LnT many x) ∧ t'.length = s.length + (j + 1) := fun {y} hy => by
        rw [insert_at h5.1 (by omega) (by omega)]
        refine M.sat_ok ⟨fun x hx => ?_, ?_⟩
        · rcases List.mem_append.mp hx with hx | hx
          · rcases List.mem_append.mp hx with hx | hx
            · exact q1 x (List.mem_of_mem_take hx)
            · rw [List.mem_singleton] at hx; subst hx; exact hy
          · exact q1 x (List.mem_of_mem_drop hx)
        · rw [List.length_append, List.length_append, List.length_take, List.length_drop, List.length_singleton]
          omega
      refine M.sat_if (fun _ => ins ⟨hkm.1, hkm.2, hf.1, hf.2, .inl ⟨rfl, rfl⟩⟩) fun _ => ins ⟨hf.1, hf.2, hkm.1, hkm.2, .inr ⟨rfl, rfl⟩⟩
  · rw [show M.comp (fun _ => (M.ok true)) (fun _ => (M.ok (2 : Int))) (rngL 0 many.toNat) = .ok ((rngL 0 many.toNat).map fun _ => (2 : Int)) from M.comp_map _ _]
    simp only [M.ok_bind]
    rw [rngL_len] at h3
    have hl : ((rngL 0 many.toNat).map fun _ => (2 : Int)).length = many.toNat := by rw [List.length_map, rngL_len]
    have h2' : ∀ x ∈ ((rngL 0 many.toNat).map fun _ => (2 : Int)), x = 2 := fun x hx => by
      obtain ⟨_, _, rfl⟩ := List.mem_map.mp hx
      rfl
    have hg : ∀ p : Int, 0 ≤ p → p < many → ((rngL 0 many.toNat).map fun _ => (2 : Int)).getD p.toNat 0 = 2 := fun p a b => h2' _ (getD_mem a (by rw [hl]; omega))
    refine M.sat_ok ⟨⟨fun x hx => by rw [h2' x hx]; decide, fun x hx => ?_⟩, by show ((rngL 0 many.toNat).map fun _ => (2 : Int)).length ≤ 24; omega, by show s.length ≤ 24; omega⟩
    obtain ⟨a, b, c, d', e⟩ := h2 x hx
    simp only
    rw [hg _ a b, hg _ c d', hl]
    omega
theorem law_plain (s : List Int) (hs : s.length ≤ 63) : law_m ⟨s⟩ = .ok true := by
  refine M.sat_val ?_
  unfold law_m
  obtain ⟨c0, e0⟩ := cell_ok ⟨s⟩ (k := 0) (by decide)
  obtain ⟨c1, e1⟩ := cell_ok ⟨s⟩ (k := 1) (by decide)
  obtain ⟨c2, e2⟩ := cell_ok ⟨s⟩ (k := 2) (by decide)
  obtain ⟨c3, e3⟩ := cell_ok ⟨s⟩ (k := 3) (by decide)
  obtain ⟨d0, f0⟩ := draws_ok c0 (m := 60) (by decide) (by decide)
  obtain ⟨d1, f1⟩ := draws_ok c1 (m := 60) (by decide) (by decide)
  obtain ⟨d2, f2⟩ := draws_ok c2 (m := 60) (by decide) (by decide)
  obtain ⟨d3, f3⟩ := draws_ok c3 (m := 60) (by decide) (by decide)
  rw [e0, e1, e2, e3]
  simp only [M.ok_bind]
  rw [f0, f1, f2, f3]
  simp only [M.ok_bind, pick_eq]
  generalize pick d1 0 8 = shape
  refine M.sat_bind (web_sat d0 (p := 6) (t := 9) (by decide) (by decide) (by decide) (by decide)) fun w0 ⟨g0, p0, t0⟩ => ?_
  refine M.sat_bind (R1 := fun r : List Int × List T4I => Good r.1 r.2 ∧ r.1.length ≤ 24 ∧ r.2.length ≤ 24) (M.sat_if (fun _ => M.sat_bind (faced_sat d0 (p := 6) (t := 9) (by decide) (by decide) (by decide) (by decide)) fun r ⟨g, _, p, t⟩ => M.sat_ok ⟨g, Nat.le_trans p (by decide), Nat.le_trans t (by decide)⟩) fun _ => M.sat_ok ⟨g0, Nat.le_trans p0 (by decide), Nat.le_trans t0 (by decide)⟩) fun w1 ⟨g1, p1, t1⟩ => ?_
  refine M.sat_bind (R1 := fun r : List Int × List T4I => Good r.1 r.2 ∧ r.1.length ≤ 24 ∧ r.2.length ≤ 24) (M.sat_if (fun _ => M.sat_bind (lane_sat d0) fun r h => M.sat_ok h) fun _ => M.sat_ok ⟨g1, p1, t1⟩) fun ⟨sides, ties⟩ ⟨g, p, t⟩ => ?_
  refine M.sat_bind (web_sat d3 (p := 3) (t := 6) (by decide) (by decide) (by decide) (by decide)) fun ⟨fs, ft⟩ ⟨gf, pf, tf⟩ => ?_
  simp only at g p t gf pf tf ⊢
  have t3 : (3 : Int).toNat = 3 := rfl
  have t6 : (6 : Int).toNat = 6 := rfl
  rw [init_ok g (by omega) (by omega), init_ok gf (by omega) (by omega)]
  simp only [M.ok_bind]
  rw [right_steps g t d1 1 (many := 4) (by decide) (by decide), right_steps gf (by omega) d2 0 (many := 2) (by decide) (by decide), right_refusals t d1, right_steps g t d1 1 (many := 1) (by decide) (by decide)]
  exact M.sat_ok (by simp)
end K10

section
set_option maxHeartbeats 4000000
namespace K10
open PySem L2 G PM
/-! the text by places -/
def topS (i : Nat) : Stmt := PySem.Challenge.pw_comesapart_k10_reached_and_shortest_walk.main.body.getD i (.Pass ⟨0, 0, 0, 0⟩)
abbrev s_l_cell : Stmt := topS 16
abbrev N_l_cell : List Str := ["_law_script", "_law_k"]
theorem sc_l_cell : FnScope N_l_cell ["_law_script", "_law_k"] (defScope s_l_cell) := ⟨rfl, rfl, rfl, by decide +kernel, rfl, by decide +kernel, by decide +kernel⟩
abbrev s_l_draws : Stmt := topS 17
abbrev N_l_draws : List Str := ["_law_cell_here", "_law_many", "_law_rest", "_law_exact", "_law_mixed", "_law_draws_here", "_law_k"]
theorem sc_l_draws : FnScope N_l_draws ["_law_cell_here", "_law_many"] (defScope s_l_draws) := ⟨rfl, rfl, rfl, by decide +kernel, rfl, by decide +kernel, by decide +kernel⟩
abbrev s_l_pick : Stmt := topS 18
abbrev N_l_pick : List Str := ["_law_draws_here", "_law_k", "_law_many"]
theorem sc_l_pick : FnScope N_l_pick ["_law_draws_here", "_law_k", "_law_many"] (defScope s_l_pick) := ⟨rfl, rfl, rfl, by decide +kernel, rfl, by decide +kernel, by decide +kernel⟩
abbrev s_l_web : Stmt := topS 21
abbrev N_l_web : List Str := ["_law_draws_here", "_law_most_places", "_law_most_ties", "_law_menu", "_law_many", "_law_k", "_law_sides", "_law_ties", "_law_at", "_law_one", "_law_other", "_law_side"]
theorem sc_l_web : FnScope N_l_web ["_law_draws_here", "_law_most_places", "_law_most_ties"] (defScope s_l_web) := ⟨rfl, rfl, rfl, by decide +kernel, rfl, by decide +kernel, by decide +kernel⟩
abbrev s_l_faced : Stmt := topS 22
abbrev N_l_faced : List Str := ["_law_draws_here", "_law_most_places", "_law_most_ties", "_law_menu", "_law_many", "_law_sides", "_law_gates", "_law_k", "_law_count", "_law_out", "_law_ties", "_law_directions", "_law_at", "_law_one", "_law_other"]
theorem sc_l_faced : FnScope N_l_faced ["_law_draws_here", "_law_most_places", "_law_most_ties"] (defScope s_l_faced) := ⟨rfl, rfl, rfl, by decide +kernel, rfl, by decide +kernel, by decide +kernel⟩
abbrev s_l_lane : Stmt := topS 23
abbrev N_l_lane : List Str := ["_law_draws_here", "_law_many", "_law_ties", "_law_k", "_law_far_here", "_law_again", "_law_at"]
theorem sc_l_lane : FnScope N_l_lane ["_law_draws_here"] (defScope s_l_lane) := ⟨rfl, rfl, rfl, by decide +kernel, rfl, by decide +kernel, by decide +kernel⟩
abbrev s_p_check_end : Stmt := topS 13
abbrev N_p_check_end : List Str := ["sides", "place", "side"]
theorem sc_p_check_end : FnScope N_p_check_end ["sides", "place", "side"] (defScope s_p_check_end) := ⟨rfl, rfl, rfl, by decide +kernel, rfl, by decide +kernel, by decide +kernel⟩
abbrev s_m_WebX_initX : Stmt := (clsB (topS 14)).getD 3 (.Pass ⟨0, 0, 0, 0⟩)
abbrev N_m_WebX_initX : List Str := ["self", "sides", "ties", "place", "many", "one", "side", "other", "far_side"]
theorem sc_m_WebX_initX : FnScope N_m_WebX_initX ["self", "sides", "ties"] (defScope s_m_WebX_initX) := ⟨rfl, rfl, rfl, by decide +kernel, rfl, by decide +kernel, by decide +kernel⟩
abbrev s_l_table : Stmt := topS 24
abbrev N_l_table : List Str := ["_law_ties", "_law_table_here", "_law_tie", "_law_direction", "_law_place", "_law_side", "_law_found", "_law_near", "_law_back"]
theorem sc_l_table : FnScope N_l_table ["_law_ties"] (defScope s_l_table) := ⟨rfl, rfl, rfl, by decide +kernel, rfl, by decide +kernel, by decide +kernel⟩
abbrev s_l_reached : Stmt := topS 27
abbrev N_l_reached : List Str := ["_law_table_here", "_law_first", "_law_found", "_law_row", "_law_k", "_law_step"]
theorem sc_l_reached : FnScope N_l_reached ["_law_table_here", "_law_first"] (defScope s_l_reached) := ⟨rfl, rfl, rfl, by decide +kernel, rfl, by decide +kernel, by decide +kernel⟩
abbrev s_m_Web_back : Stmt := (clsB (topS 14)).getD 5 (.Pass ⟨0, 0, 0, 0⟩)
abbrev N_m_Web_back : List Str := ["step"]
theorem sc_m_Web_back : FnScope N_m_Web_back ["step"] (defScope s_m_Web_back) := ⟨rfl, rfl, rfl, by decide +kernel, rfl, by decide +kernel, by decide +kernel⟩
abbrev s_m_Web_tail : Stmt := (clsB (topS 14)).getD 7 (.Pass ⟨0, 0, 0, 0⟩)
abbrev N_m_Web_tail : List Str := ["self", "step", "tie", "direction", "one", "side", "other", "far_side"]
theorem sc_m_Web_tail : FnScope N_m_Web_tail ["self", "step"] (defScope s_m_Web_tail) := ⟨rfl, rfl, rfl, by decide +kernel, rfl, by decide +kernel, by decide +kernel⟩
abbrev s_m_Web_head : Stmt := (clsB (topS 14)).getD 8 (.Pass ⟨0, 0, 0, 0⟩)
abbrev N_m_Web_head : List Str := ["self", "step"]
theorem sc_m_Web_head : FnScope N_m_Web_head ["self", "step"] (defScope s_m_Web_head) := ⟨rfl, rfl, rfl, by decide +kernel, rfl, by decide +kernel, by decide +kernel⟩
abbrev s_m_WebX_containsX : Stmt := (clsB (topS 14)).getD 11 (.Pass ⟨0, 0, 0, 0⟩)
abbrev N_m_WebX_containsX : List Str := ["self", "place"]
theorem sc_m_WebX_containsX : FnScope N_m_WebX_containsX ["self", "place"] (defScope s_m_WebX_containsX) := ⟨rfl, rfl, rfl, by decide +kernel, rfl, by decide +kernel, by decide +kernel⟩
abbrev s_m_Web_steps_from : Stmt := (clsB (topS 14)).getD 9 (.Pass ⟨0, 0, 0, 0⟩)
abbrev N_m_Web_steps_from : List Str := ["self", "place", "found", "tie", "one", "_", "other"]
theorem sc_m_Web_steps_from : FnScope N_m_Web_steps_from ["self", "place"] (defScope s_m_Web_steps_from) := ⟨rfl, rfl, rfl, by decide +kernel, rfl, by decide +kernel, by decide +kernel⟩
abbrev s_p_followers : Stmt := topS 2
abbrev N_p_followers : List Str := ["web", "step", "place", "side", "after"]
theorem sc_p_followers : FnScope N_p_followers ["web", "step"] (defScope s_p_followers) := ⟨rfl, rfl, rfl, by decide +kernel, rfl, by decide +kernel, by decide +kernel⟩
abbrev s_p_reached : Stmt := topS 3
abbrev N_p_reached : List Str := ["web", "first", "found", "waiting", "step", "after"]
theorem sc_p_reached : FnScope N_p_reached ["web", "first"] (defScope s_p_reached) := ⟨rfl, rfl, rfl, by decide +kernel, rfl, by decide +kernel, by decide +kernel⟩
abbrev s_p_shortest_walk : Stmt := topS 4
abbrev N_p_shortest_walk : List Str := ["web", "first", "last", "before", "waiting", "step", "after", "walk"]
theorem sc_p_shortest_walk : FnScope N_p_shortest_walk ["web", "first", "last"] (defScope s_p_shortest_walk) := ⟨rfl, rfl, rfl, by decide +kernel, rfl, by decide +kernel, by decide +kernel⟩
abbrev s_l_is_number : Stmt := topS 19
abbrev N_l_is_number : List Str := ["_law_told_here"]
theorem sc_l_is_number : FnScope N_l_is_number ["_law_told_here"] (defScope s_l_is_number) := ⟨rfl, rfl, rfl, by decide +kernel, rfl, by decide +kernel, by decide +kernel⟩
abbrev s_l_told : Stmt := topS 28
abbrev N_l_told : List Str := ["_law_web_here", "_law_first", "_law_last", "_law_which", "e"]
theorem sc_l_told : FnScope N_l_told ["_law_web_here", "_law_first", "_law_last", "_law_which"] (defScope s_l_told) := ⟨rfl, rfl, rfl, by decide +kernel, rfl, by decide +kernel, by decide +kernel⟩
abbrev s_l_same : Stmt := topS 20
abbrev N_l_same : List Str := ["_law_told_here", "_law_due", "_law_k"]
theorem sc_l_same : FnScope N_l_same ["_law_told_here", "_law_due"] (defScope s_l_same) := ⟨rfl, rfl, rfl, by decide +kernel, rfl, by decide +kernel, by decide +kernel⟩
abbrev s_l_right_first : Stmt := topS 30
abbrev N_l_right_first : List Str := ["_law_web_here", "_law_table_here", "_law_first", "_law_due", "_law_told_here"]
theorem sc_l_right_first : FnScope N_l_right_first ["_law_web_here", "_law_table_here", "_law_first"] (defScope s_l_right_first) := ⟨rfl, rfl, rfl, by decide +kernel, rfl, by decide +kernel, by decide +kernel⟩
abbrev s_l_far : Stmt := topS 25
abbrev N_l_far : List Str := ["_law_table_here", "_law_last", "_law_far_here", "_law_row", "_law_k", "_law_step"]
theorem sc_l_far : FnScope N_l_far ["_law_table_here", "_law_last"] (defScope s_l_far) := ⟨rfl, rfl, rfl, by decide +kernel, rfl, by decide +kernel, by decide +kernel⟩
abbrev s_l_lowest : Stmt := topS 26
abbrev N_l_lowest : List Str := ["_law_table_here", "_law_far_here", "_law_first", "_law_walk", "_law_k", "_law_step"]
theorem sc_l_lowest : FnScope N_l_lowest ["_law_table_here", "_law_far_here", "_law_first"] (defScope s_l_lowest) := ⟨rfl, rfl, rfl, by decide +kernel, rfl, by decide +kernel, by decide +kernel⟩
abbrev s_l_right_last : Stmt := topS 29
abbrev N_l_right_last : List Str := ["_law_web_here", "_law_table_here", "_law_first", "_law_last", "_law_due", "_law_told_here"]
theorem sc_l_right_last : FnScope N_l_right_last ["_law_web_here", "_law_table_here", "_law_first", "_law_last"] (defScope s_l_right_last) := ⟨rfl, rfl, rfl, by decide +kernel, rfl, by decide +kernel, by decide +kernel⟩
abbrev s_l_right_steps : Stmt := topS 31
abbrev N_l_right_steps : List Str := ["_law_web_here", "_law_ties", "_law_draws_here", "_law_at", "_law_many", "_law_table_here", "_law_first", "_law_back", "_law_lasts", "_law_k", "_law_last", "_law_step"]
theorem sc_l_right_steps : FnScope N_l_right_steps ["_law_web_here", "_law_ties", "_law_draws_here", "_law_at", "_law_many"] (defScope s_l_right_steps) := ⟨rfl, rfl, rfl, by decide +kernel, rfl, by decide +kernel, by decide +kernel⟩
abbrev s_l_right_refusals : Stmt := topS 32
abbrev N_l_right_refusals : List Str := ["_law_web_here", "_law_ties", "_law_draws_here", "_law_number", "_law_direction", "_law_bad", "_law_worse", "_law_good", "_law_row"]
theorem sc_l_right_refusals : FnScope N_l_right_refusals ["_law_web_here", "_law_ties", "_law_draws_here"] (defScope s_l_right_refusals) := ⟨rfl, rfl, rfl, by decide +kernel, rfl, by decide +kernel, by decide +kernel⟩
abbrev s_law : Stmt := topS 33
abbrev N_law : List Str := ["_law_script", "_law_draws_here", "_law_extra", "_law_shape", "_law_sides", "_law_ties", "_law_directions", "_law_more", "_law_far_sides", "_law_far_ties", "_law_web_here", "_law_other"]
theorem sc_law : FnScope N_law ["_law_script"] (defScope s_law) := ⟨rfl, rfl, rfl, by decide +kernel, rfl, by decide +kernel, by decide +kernel⟩
/-- what the top has written -/
structure Txt (K : PySem.W.Frag) (mg : Str → Option Value) where
  A : CA3
  b_ValueError : mg "ValueError" = none
  b_abs : mg "abs" = none
  b_bool : mg "bool" = none
  b_enumerate : mg "enumerate" = none
  b_int : mg "int" = none
  b_isinstance : mg "isinstance" = none
  b_len : mg "len" = none
  b_list : mg "list" = none
  b_range : mg "range" = none
  b_set : mg "set" = none
  b_sorted : mg "sorted" = none
  b_str : mg "str" = none
  b_tuple : mg "tuple" = none
  g_BadSides : mg "BadSides" = some (.ref (A.tx .BadSides))
  g_ComesapartError : mg "ComesapartError" = some (.ref (A.tx .ComesapartError))
  g_TooLarge : mg "TooLarge" = some (.ref (A.tx .TooLarge))
  g_UnknownPlace : mg "UnknownPlace" = some (.ref (A.tx .UnknownPlace))
  g_UnknownSide : mg "UnknownSide" = some (.ref (A.tx .UnknownSide))
  g_UnknownTie : mg "UnknownTie" = some (.ref (A.tx .UnknownTie))
  g_Web : mg "Web" = some (.ref (A.ob .Web))
  c_Web : Cls K (A.ob .Web)
  n_Web_sides : NoAttr K (A.ob .Web) "sides"
  n_Web_ties : NoAttr K (A.ob .Web) "ties"
  u_Web_MOST_PLACES : Value
  k_Web_MOST_PLACES : Con K (A.ob .Web) "MOST_PLACES" (.int 200) u_Web_MOST_PLACES
  u_Web_MOST_SIDES : Value
  k_Web_MOST_SIDES : Con K (A.ob .Web) "MOST_SIDES" (.int 4) u_Web_MOST_SIDES
  u_Web_MOST_TIES : Value
  k_Web_MOST_TIES : Con K (A.ob .Web) "MOST_TIES" (.int 300) u_Web_MOST_TIES
  a_l_cell : Addr
  f_l_cell : FuncData
  F_l_cell : Fun K "_law_cell" "_law_cell" s_l_cell a_l_cell f_l_cell
  d_l_cell : Binds K f_l_cell ["_law_script", "_law_k"] []
  g_l_cell : mg "_law_cell" = some (.ref a_l_cell)
  a_l_draws : Addr
  f_l_draws : FuncData
  F_l_draws : Fun K "_law_draws" "_law_draws" s_l_draws a_l_draws f_l_draws
  d_l_draws : Binds K f_l_draws ["_law_cell_here", "_law_many"] []
  g_l_draws : mg "_law_draws" = some (.ref a_l_draws)
  a_l_pick : Addr
  f_l_pick : FuncData
  F_l_pick : Fun K "_law_pick" "_law_pick" s_l_pick a_l_pick f_l_pick
  d_l_pick : Binds K f_l_pick ["_law_draws_here", "_law_k", "_law_many"] []
  g_l_pick : mg "_law_pick" = some (.ref a_l_pick)
  a_l_web : Addr
  f_l_web : FuncData
  F_l_web : Fun K "_law_web" "_law_web" s_l_web a_l_web f_l_web
  d_l_web : Binds K f_l_web ["_law_draws_here", "_law_most_places", "_law_most_ties"] []
  g_l_web : mg "_law_web" = some (.ref a_l_web)
  a_l_faced : Addr
  f_l_faced : FuncData
  F_l_faced : Fun K "_law_faced" "_law_faced" s_l_faced a_l_faced f_l_faced
  d_l_faced : Binds K f_l_faced ["_law_draws_here", "_law_most_places", "_law_most_ties"] []
  g_l_faced : mg "_law_faced" = some (.ref a_l_faced)
  a_l_lane : Addr
  f_l_lane : FuncData
  F_l_lane : Fun K "_law_lane" "_law_lane" s_l_lane a_l_lane f_l_lane
  d_l_lane : Binds K f_l_lane ["_law_draws_here"] []
  g_l_lane : mg "_law_lane" = some (.ref a_l_lane)
  a_p_check_end : Addr
  f_p_check_end : FuncData
  F_p_check_end : Fun K "check_end" "check_end" s_p_check_end a_p_check_end f_p_check_end
  d_p_check_end : Binds K f_p_check_end ["sides", "place", "side"] []
  g_p_check_end : mg "check_end" = some (.ref a_p_check_end)
  a_m_WebX_initX : Addr
  f_m_WebX_initX : FuncData
  F_m_WebX_initX : Fun K "__init__" "Web.__init__" s_m_WebX_initX a_m_WebX_initX f_m_WebX_initX
  d_m_WebX_initX : Binds K f_m_WebX_initX ["self", "sides", "ties"] []
  mk_Web : Mk K (A.ob .Web) a_m_WebX_initX
  a_l_table : Addr
  f_l_table : FuncData
  F_l_table : Fun K "_law_table" "_law_table" s_l_table a_l_table f_l_table
  d_l_table : Binds K f_l_table ["_law_ties"] []
  g_l_table : mg "_law_table" = some (.ref a_l_table)
  a_l_reached : Addr
  f_l_reached : FuncData
  F_l_reached : Fun K "_law_reached" "_law_reached" s_l_reached a_l_reached f_l_reached
  d_l_reached : Binds K f_l_reached ["_law_table_here", "_law_first"] []
  g_l_reached : mg "_law_reached" = some (.ref a_l_reached)
  a_m_Web_back : Addr
  f_m_Web_back : FuncData
  F_m_Web_back : Fun K "back" "Web.back" s_m_Web_back a_m_Web_back f_m_Web_back
  d_m_Web_back : Binds K f_m_Web_back ["step"] []
  mc_Web : Value
  q_m_Web_back : Addr
  sm_m_Web_back : SMet K (A.ob .Web) mc_Web "back" q_m_Web_back a_m_Web_back
  a_m_Web_tail : Addr
  f_m_Web_tail : FuncData
  F_m_Web_tail : Fun K "tail" "Web.tail" s_m_Web_tail a_m_Web_tail f_m_Web_tail
  d_m_Web_tail : Binds K f_m_Web_tail ["self", "step"] []
  me_m_Web_tail : Meth K (A.ob .Web) "tail" a_m_Web_tail
  a_m_Web_head : Addr
  f_m_Web_head : FuncData
  F_m_Web_head : Fun K "head" "Web.head" s_m_Web_head a_m_Web_head f_m_Web_head
  d_m_Web_head : Binds K f_m_Web_head ["self", "step"] []
  me_m_Web_head : Meth K (A.ob .Web) "head" a_m_Web_head
  a_m_WebX_containsX : Addr
  f_m_WebX_containsX : FuncData
  F_m_WebX_containsX : Fun K "__contains__" "Web.__contains__" s_m_WebX_containsX a_m_WebX_containsX f_m_WebX_containsX
  d_m_WebX_containsX : Binds K f_m_WebX_containsX ["self", "place"] []
  me_m_WebX_containsX : Meth K (A.ob .Web) "__contains__" a_m_WebX_containsX
  a_m_Web_steps_from : Addr
  f_m_Web_steps_from : FuncData
  F_m_Web_steps_from : Fun K "steps_from" "Web.steps_from" s_m_Web_steps_from a_m_Web_steps_from f_m_Web_steps_from
  d_m_Web_steps_from : Binds K f_m_Web_steps_from ["self", "place"] []
  me_m_Web_steps_from : Meth K (A.ob .Web) "steps_from" a_m_Web_steps_from
  a_p_followers : Addr
  f_p_followers : FuncData
  F_p_followers : Fun K "followers" "followers" s_p_followers a_p_followers f_p_followers
  d_p_followers : Binds K f_p_followers ["web", "step"] []
  g_p_followers : mg "followers" = some (.ref a_p_followers)
  a_p_reached : Addr
  f_p_reached : FuncData
  F_p_reached : Fun K "reached" "reached" s_p_reached a_p_reached f_p_reached
  d_p_reached : Binds K f_p_reached ["web", "first"] []
  g_p_reached : mg "reached" = some (.ref a_p_reached)
  a_p_shortest_walk : Addr
  f_p_shortest_walk : FuncData
  F_p_shortest_walk : Fun K "shortest_walk" "shortest_walk" s_p_shortest_walk a_p_shortest_walk f_p_shortest_walk
  d_p_shortest_walk : Binds K f_p_shortest_walk ["web", "first", "last"] []
  g_p_shortest_walk : mg "shortest_walk" = some (.ref a_p_shortest_walk)
  a_l_is_number : Addr
  f_l_is_number : FuncData
  F_l_is_number : Fun K "_law_is_number" "_law_is_number" s_l_is_number a_l_is_number f_l_is_number
  d_l_is_number : Binds K f_l_is_number ["_law_told_here"] []
  g_l_is_number : mg "_law_is_number" = some (.ref a_l_is_number)
  a_l_told : Addr
  f_l_told : FuncData
  F_l_told : Fun K "_law_told" "_law_told" s_l_told a_l_told f_l_told
  d_l_told : Binds K f_l_told ["_law_web_here", "_law_first", "_law_last", "_law_which"] []
  g_l_told : mg "_law_told" = some (.ref a_l_told)
  a_l_same : Addr
  f_l_same : FuncData
  F_l_same : Fun K "_law_same" "_law_same" s_l_same a_l_same f_l_same
  d_l_same : Binds K f_l_same ["_law_told_here", "_law_due"] []
  g_l_same : mg "_law_same" = some (.ref a_l_same)
  a_l_right_first : Addr
  f_l_right_first : FuncData
  F_l_right_first : Fun K "_law_right_first" "_law_right_first" s_l_right_first a_l_right_first f_l_right_first
  d_l_right_first : Binds K f_l_right_first ["_law_web_here", "_law_table_here", "_law_first"] []
  g_l_right_first : mg "_law_right_first" = some (.ref a_l_right_first)
  a_l_far : Addr
  f_l_far : FuncData
  F_l_far : Fun K "_law_far" "_law_far" s_l_far a_l_far f_l_far
  d_l_far : Binds K f_l_far ["_law_table_here", "_law_last"] []
  g_l_far : mg "_law_far" = some (.ref a_l_far)
  a_l_lowest : Addr
  f_l_lowest : FuncData
  F_l_lowest : Fun K "_law_lowest" "_law_lowest" s_l_lowest a_l_lowest f_l_lowest
  d_l_lowest : Binds K f_l_lowest ["_law_table_here", "_law_far_here", "_law_first"] []
  g_l_lowest : mg "_law_lowest" = some (.ref a_l_lowest)
  a_l_right_last : Addr
  f_l_right_last : FuncData
  F_l_right_last : Fun K "_law_right_last" "_law_right_last" s_l_right_last a_l_right_last f_l_right_last
  d_l_right_last : Binds K f_l_right_last ["_law_web_here", "_law_table_here", "_law_first", "_law_last"] []
  g_l_right_last : mg "_law_right_last" = some (.ref a_l_right_last)
  a_l_right_steps : Addr
  f_l_right_steps : FuncData
  F_l_right_steps : Fun K "_law_right_steps" "_law_right_steps" s_l_right_steps a_l_right_steps f_l_right_steps
  d_l_right_steps : Binds K f_l_right_steps ["_law_web_here", "_law_ties", "_law_draws_here", "_law_at", "_law_many"] []
  g_l_right_steps : mg "_law_right_steps" = some (.ref a_l_right_steps)
  a_l_right_refusals : Addr
  f_l_right_refusals : FuncData
  F_l_right_refusals : Fun K "_law_right_refusals" "_law_right_refusals" s_l_right_refusals a_l_right_refusals f_l_right_refusals
  d_l_right_refusals : Binds K f_l_right_refusals ["_law_web_here", "_law_ties", "_law_draws_here"] []
  g_l_right_refusals : mg "_law_right_refusals" = some (.ref a_l_right_refusals)
  a_law : Addr
  f_law : FuncData
  F_law : Fun K "law" "law" s_law a_law f_law
  d_law : Binds K f_law ["_law_script"] []
  g_law : mg "law" = some (.ref a_law)
  i_BadSides : Addr
  fx_BadSides : FuncData
  x_BadSides : XCls K (A.tx .BadSides) i_BadSides
  dx_BadSides : Binds K fx_BadSides ["self", "place"] []
  i_TooLarge : Addr
  fx_TooLarge : FuncData
  x_TooLarge : XCls K (A.tx .TooLarge) i_TooLarge
  dx_TooLarge : Binds K fx_TooLarge ["self", "limit"] []
  i_UnknownPlace : Addr
  fx_UnknownPlace : FuncData
  x_UnknownPlace : XCls K (A.tx .UnknownPlace) i_UnknownPlace
  dx_UnknownPlace : Binds K fx_UnknownPlace ["self", "place"] []
  i_UnknownSide : Addr
  fx_UnknownSide : FuncData
  x_UnknownSide : XCls K (A.tx .UnknownSide) i_UnknownSide
  dx_UnknownSide : Binds K fx_UnknownSide ["self", "place", "side"] []
  i_UnknownTie : Addr
  fx_UnknownTie : FuncData
  x_UnknownTie : XCls K (A.tx .UnknownTie) i_UnknownTie
  dx_UnknownTie : Binds K fx_UnknownTie ["self", "tie"] []
  no_UnknownTie_tie : PySem.W.findIn K (.ref (A.tx .UnknownTie)) "tie" = some none
  xf_UnknownTie : XfC K (A.tx .UnknownTie)
  exc : ∀ c, kn c = true → ExcC K (A.tx c)
  hx_ComesapartError : ∀ c, kn c = true → PySem.W.exmOne K (.ref (A.tx c)) (.ref (A.tx .ComesapartError)) = some (XC.isA c .ComesapartError)
  kx_UnknownTie : ∀ c, kn c = true → PySem.W.kitOne K (.ref (A.tx c)) (.ref (A.tx .UnknownTie)) = some (XC.isA c .UnknownTie)
  kx_ValueError : ∀ c, kn c = true → PySem.W.kitOne K (.ref (A.tx c)) (.type "ValueError") = some true
theorem hu64 {A : Around} {k : Nat} (hr : Room k A) : A.units + 64 < cLine := by have := hr.un; omega
theorem hu65 {A : Around} {k : Nat} (hr : Room k A) : A.units + 65 < cLine := by have := hr.un; omega
def sp_l_cell (C : GCtx) (A : CA3) : Sp := fun vs H Q E => ∃ script : (Sq Int), ∃ k : Int, (l_cell_m script k).nb ∧ FnX C [.val (dSq (d := dInt)) script, .val dInt k] (fun c => ∃ r, c = .val dInt r ∧ (l_cell_m script k) = .ok r) (fun x => ∃ px, (l_cell_m script k) = .exc px ∧ x = px.x A.tx) vs H Q E
theorem sp_l_cell_len {C : GCtx} {A : CA3} {vs H Q E} (h : sp_l_cell C A vs H Q E) : vs.length = 2 := by obtain ⟨_, _, _, h⟩ := h; exact h.len
theorem hs_l_cell {C : GCtx} {A : CA3} : ∀ script k, (l_cell_m script k).nb → SpX C (sp_l_cell C A) [.val (dSq (d := dInt)) script, .val dInt k] (fun c => ∃ r, c = .val dInt r ∧ (l_cell_m script k) = .ok r) (fun x => ∃ px, (l_cell_m script k) = .exc px ∧ x = px.x A.tx) := fun script k nb vs H Q E h => ⟨script, k, nb, h⟩
def sp_l_draws (C : GCtx) (A : CA3) : Sp := fun vs H Q E => ∃ cell_here : Int, ∃ many : Int, (l_draws_m cell_here many).nb ∧ FnX C [.val dInt cell_here, .val dInt many] (fun c => ∃ r, c = .own (dList (d := dInt)) (oList (d := dInt)) none r ∧ (l_draws_m cell_here many) = .ok r) (fun x => ∃ px, (l_draws_m cell_here many) = .exc px ∧ x = px.x A.tx) vs H Q E
theorem sp_l_draws_len {C : GCtx} {A : CA3} {vs H Q E} (h : sp_l_draws C A vs H Q E) : vs.length = 2 := by obtain ⟨_, _, _, h⟩ := h; exact h.len
theorem hs_l_draws {C : GCtx} {A : CA3} : ∀ cell_here many, (l_draws_m cell_here many).nb → SpX C (sp_l_draws C A) [.val dInt cell_here, .val dInt many] (fun c => ∃ r, c = .own (dList (d := dInt)) (oList (d := dInt)) none r ∧ (l_draws_m cell_here many) = .ok r) (fun x => ∃ px, (l_draws_m cell_here many) = .exc px ∧ x = px.x A.tx) := fun cell_here many nb vs H Q E h => ⟨cell_here, many, nb, h⟩
def sp_l_pick (C : GCtx) (A : CA3) : Sp := fun vs H Q E => ∃ draws_here : (List Int), ∃ k : Int, ∃ many : Int, (l_pick_m draws_here k many).nb ∧ FnX C [.val (dList (d := dInt)) draws_here, .val dInt k, .val dInt many] (fun c => ∃ r, c = .val dInt r ∧ (l_pick_m draws_here k many) = .ok r) (fun x => ∃ px, (l_pick_m draws_here k many) = .exc px ∧ x = px.x A.tx) vs H Q E
theorem sp_l_pick_len {C : GCtx} {A : CA3} {vs H Q E} (h : sp_l_pick C A vs H Q E) : vs.length = 3 := by obtain ⟨_, _, _, _, h⟩ := h; exact h.len
theorem hs_l_pick {C : GCtx} {A : CA3} : ∀ draws_here k many, (l_pick_m draws_here k many).nb → SpX C (sp_l_pick C A) [.val (dList (d := dInt)) draws_here, .val dInt k, .val dInt many] (fun c => ∃ r, c = .val dInt r ∧ (l_pick_m draws_here k many) = .ok r) (fun x => ∃ px, (l_pick_m draws_here k many) = .exc px ∧ x = px.x A.tx) := fun draws_here k many nb vs H Q E h => ⟨draws_here, k, many, nb, h⟩
def sp_l_web (C : GCtx) (A : CA3) : Sp := fun vs H Q E => ∃ draws_here : (List Int), ∃ most_places : Int, ∃ most_ties : Int, (l_web_m draws_here most_places most_ties).nb ∧ FnX C [.val (dList (d := dInt)) draws_here, .val dInt most_places, .val dInt most_ties] (fun c => ∃ r, c = .own (dPair (d1 := (dList (d := dInt))) (d2 := (dList (d := (dT4 (d1 := dInt) (d2 := dInt) (d3 := dInt) (d4 := dInt)))))) (oPair (oList (d := dInt)) (oList (d := (dT4 (d1 := dInt) (d2 := dInt) (d3 := dInt) (d4 := dInt))))) none r ∧ (l_web_m draws_here most_places most_ties) = .ok r) (fun x => ∃ px, (l_web_m draws_here most_places most_ties) = .exc px ∧ x = px.x A.tx) vs H Q E
theorem sp_l_web_len {C : GCtx} {A : CA3} {vs H Q E} (h : sp_l_web C A vs H Q E) : vs.length = 3 := by obtain ⟨_, _, _, _, h⟩ := h; exact h.len
theorem hs_l_web {C : GCtx} {A : CA3} : ∀ draws_here most_places most_ties, (l_web_m draws_here most_places most_ties).nb → SpX C (sp_l_web C A) [.val (dList (d := dInt)) draws_here, .val dInt most_places, .val dInt most_ties] (fun c => ∃ r, c = .own (dPair (d1 := (dList (d := dInt))) (d2 := (dList (d := (dT4 (d1 := dInt) (d2 := dInt) (d3 := dInt) (d4 := dInt)))))) (oPair (oList (d := dInt)) (oList (d := (dT4 (d1 := dInt) (d2 := dInt) (d3 := dInt) (d4 := dInt))))) none r ∧ (l_web_m draws_here most_places most_ties) = .ok r) (fun x => ∃ px, (l_web_m draws_here most_places most_ties) = .exc px ∧ x = px.x A.tx) := fun draws_here most_places most_ties nb vs H Q E h => ⟨draws_here, most_places, most_ties, nb, h⟩
def sp_l_faced (C : GCtx) (A : CA3) : Sp := fun vs H Q E => ∃ draws_here : (List Int), ∃ most_places : Int, ∃ most_ties : Int, (l_faced_m draws_here most_places most_ties).nb ∧ FnX C [.val (dList (d := dInt)) draws_here, .val dInt most_places, .val dInt most_ties] (fun c => ∃ r, c = .own (dT3 (d1 := (dList (d := dInt))) (d2 := (dList (d := (dT4 (d1 := dInt) (d2 := dInt) (d3 := dInt) (d4 := dInt))))) (d3 := (dList (d := dInt)))) (oT3 (oList (d := dInt)) (oList (d := (dT4 (d1 := dInt) (d2 := dInt) (d3 := dInt) (d4 := dInt)))) (oList (d := dInt))) none r ∧ (l_faced_m draws_here most_places most_ties) = .ok r) (fun x => ∃ px, (l_faced_m draws_here most_places most_ties) = .exc px ∧ x = px.x A.tx) vs H Q E
theorem sp_l_faced_len {C : GCtx} {A : CA3} {vs H Q E} (h : sp_l_faced C A vs H Q E) : vs.length = 3 := by obtain ⟨_, _, _, _, h⟩ := h; exact h.len
theorem hs_l_faced {C : GCtx} {A : CA3} : ∀ draws_here most_places most_ties, (l_faced_m draws_here most_places most_ties).nb → SpX C (sp_l_faced C A) [.val (dList (d := dInt)) draws_here, .val dInt most_places, .val dInt most_ties] (fun c => ∃ r, c = .own (dT3 (d1 := (dList (d := dInt))) (d2 := (dList (d := (dT4 (d1 := dInt) (d2 := dInt) (d3 := dInt) (d4 := dInt))))) (d3 := (dList (d := dInt)))) (oT3 (oList (d := dInt)) (oList (d := (dT4 (d1 := dInt) (d2 := dInt) (d3 := dInt) (d4 := dInt)))) (oList (d := dInt))) none r ∧ (l_faced_m draws_here most_places most_ties) = .ok r) (fun x => ∃ px, (l_faced_m draws_here most_places most_ties) = .exc px ∧ x = px.x A.tx) := fun draws_here most_places most_ties nb vs H Q E h => ⟨draws_here, most_places, most_ties, nb, h⟩
def sp_l_lane (C : GCtx) (A : CA3) : Sp := fun vs H Q E => ∃ draws_here : (List Int), (l_lane_m draws_here).nb ∧ FnX C [.val (dList (d := dInt)) draws_here] (fun c => ∃ r, c = .val (dPair (d1 := (dList (d := dInt))) (d2 := (dList (d := (dT4 (d1 := dInt) (d2 := dInt) (d3 := dInt) (d4 := dInt)))))) r ∧ (l_lane_m draws_here) = .ok r) (fun x => ∃ px, (l_lane_m draws_here) = .exc px ∧ x = px.x A.tx) vs H Q E
theorem sp_l_lane_len {C : GCtx} {A : CA3} {vs H Q E} (h : sp_l_lane C A vs H Q E) : vs.length = 1 := by obtain ⟨_, _, h⟩ := h; exact h.len
theorem hs_l_lane {C : GCtx} {A : CA3} : ∀ draws_here, (l_lane_m draws_here).nb → SpX C (sp_l_lane C A) [.val (dList (d := dInt)) draws_here] (fun c => ∃ r, c = .val (dPair (d1 := (dList (d := dInt))) (d2 := (dList (d := (dT4 (d1 := dInt) (d2 := dInt) (d3 := dInt) (d4 := dInt)))))) r ∧ (l_lane_m draws_here) = .ok r) (fun x => ∃ px, (l_lane_m draws_here) = .exc px ∧ x = px.x A.tx) := fun draws_here nb vs H Q E h => ⟨draws_here, nb, h⟩
def sp_p_check_end (C : GCtx) (A : CA3) : Sp := fun vs H Q E => ∃ sides : (List Int), ∃ place : Int, ∃ side : Int, (p_check_end_m sides place side).nb ∧ FnX C [.val (dList (d := dInt)) sides, .val dInt place, .val dInt side] (fun c => ∃ r, c = .val dUnit r ∧ (p_check_end_m sides place side) = .ok r) (fun x => ∃ px, (p_check_end_m sides place side) = .exc px ∧ x = px.x A.tx) vs H Q E
theorem sp_p_check_end_len {C : GCtx} {A : CA3} {vs H Q E} (h : sp_p_check_end C A vs H Q E) : vs.length = 3 := by obtain ⟨_, _, _, _, h⟩ := h; exact h.len
theorem hs_p_check_end {C : GCtx} {A : CA3} : ∀ sides place side, (p_check_end_m sides place side).nb → SpX C (sp_p_check_end C A) [.val (dList (d := dInt)) sides, .val dInt place, .val dInt side] (fun c => ∃ r, c = .val dUnit r ∧ (p_check_end_m sides place side) = .ok r) (fun x => ∃ px, (p_check_end_m sides place side) = .exc px ∧ x = px.x A.tx) := fun sides place side nb vs H Q E h => ⟨sides, place, side, nb, h⟩
def sp_m_WebX_initX (C : GCtx) (A : CA3) : Sp := fun vs H Q E => ∃ sides : (List Int), ∃ ties : (List (T4 Int Int Int Int)), (m_WebX_initX_m sides ties).nb ∧ FnI C (oWeb A) (A.ob .Web) [.val (dList (d := dInt)) sides, .val (dList (d := (dT4 (d1 := dInt) (d2 := dInt) (d3 := dInt) (d4 := dInt)))) ties] (fun r => (m_WebX_initX_m sides ties) = .ok r) (fun x => ∃ px, (m_WebX_initX_m sides ties) = .exc px ∧ x = px.x A.tx) vs H Q E
theorem sp_m_WebX_initX_len {C : GCtx} {A : CA3} {vs H Q E} (h : sp_m_WebX_initX C A vs H Q E) : vs.length = 3 := by obtain ⟨_, _, _, h⟩ := h; exact h.len
theorem hs_m_WebX_initX {C : GCtx} {A : CA3} : ∀ sides ties, (m_WebX_initX_m sides ties).nb → SpI C (sp_m_WebX_initX C A) (oWeb A) (A.ob .Web) [.val (dList (d := dInt)) sides, .val (dList (d := (dT4 (d1 := dInt) (d2 := dInt) (d3 := dInt) (d4 := dInt)))) ties] (fun r => (m_WebX_initX_m sides ties) = .ok r) (fun x => ∃ px, (m_WebX_initX_m sides ties) = .exc px ∧ x = px.x A.tx) := fun sides ties nb vs H Q E h => ⟨sides, ties, nb, h⟩
def sp_l_table (C : GCtx) (A : CA3) : Sp := fun vs H Q E => ∃ ties : (List (T4 Int Int Int Int)), (l_table_m ties).nb ∧ FnX C [.val (dList (d := (dT4 (d1 := dInt) (d2 := dInt) (d3 := dInt) (d4 := dInt)))) ties] (fun c => ∃ r, c = .val (dKL (ky := kyPair) (d := (dList (d := (dPair (d1 := dInt) (d2 := dInt)))))) r ∧ (l_table_m ties) = .ok r) (fun x => ∃ px, (l_table_m ties) = .exc px ∧ x = px.x A.tx) vs H Q E
theorem sp_l_table_len {C : GCtx} {A : CA3} {vs H Q E} (h : sp_l_table C A vs H Q E) : vs.length = 1 := by obtain ⟨_, _, h⟩ := h; exact h.len
theorem hs_l_table {C : GCtx} {A : CA3} : ∀ ties, (l_table_m ties).nb → SpX C (sp_l_table C A) [.val (dList (d := (dT4 (d1 := dInt) (d2 := dInt) (d3 := dInt) (d4 := dInt)))) ties] (fun c => ∃ r, c = .val (dKL (ky := kyPair) (d := (dList (d := (dPair (d1 := dInt) (d2 := dInt)))))) r ∧ (l_table_m ties) = .ok r) (fun x => ∃ px, (l_table_m ties) = .exc px ∧ x = px.x A.tx) := fun ties nb vs H Q E h => ⟨ties, nb, h⟩
def sp_l_reached (C : GCtx) (A : CA3) : Sp := fun vs H Q E => ∃ table_here : (DK (Int × Int) (List (Int × Int))), ∃ first : (Int × Int), (l_reached_m table_here first).nb ∧ FnX C [.val (dKL (ky := kyPair) (d := (dList (d := (dPair (d1 := dInt) (d2 := dInt)))))) table_here, .val (dPair (d1 := dInt) (d2 := dInt)) first] (fun c => ∃ r, c = .own (dList (d := (dPair (d1 := dInt) (d2 := dInt)))) (oList (d := (dPair (d1 := dInt) (d2 := dInt)))) none r ∧ (l_reached_m table_here first) = .ok r) (fun x => ∃ px, (l_reached_m table_here first) = .exc px ∧ x = px.x A.tx) vs H Q E
theorem sp_l_reached_len {C : GCtx} {A : CA3} {vs H Q E} (h : sp_l_reached C A vs H Q E) : vs.length = 2 := by obtain ⟨_, _, _, h⟩ := h; exact h.len
theorem hs_l_reached {C : GCtx} {A : CA3} : ∀ table_here first, (l_reached_m table_here first).nb → SpX C (sp_l_reached C A) [.val (dKL (ky := kyPair) (d := (dList (d := (dPair (d1 := dInt) (d2 := dInt)))))) table_here, .val (dPair (d1 := dInt) (d2 := dInt)) first] (fun c => ∃ r, c = .own (dList (d := (dPair (d1 := dInt) (d2 := dInt)))) (oList (d := (dPair (d1 := dInt) (d2 := dInt)))) none r ∧ (l_reached_m table_here first) = .ok r) (fun x => ∃ px, (l_reached_m table_here first) = .exc px ∧ x = px.x A.tx) := fun table_here first nb vs H Q E h => ⟨table_here, first, nb, h⟩
def sp_m_Web_back (C : GCtx) (A : CA3) : Sp := fun vs H Q E => ∃ step : (Int × Int), (m_Web_back_m step).nb ∧ FnX C [.val (dPair (d1 := dInt) (d2 := dInt)) step] (fun c => ∃ r, c = .val (dPair (d1 := dInt) (d2 := dInt)) r ∧ (m_Web_back_m step) = .ok r) (fun x => ∃ px, (m_Web_back_m step) = .exc px ∧ x = px.x A.tx) vs H Q E
theorem sp_m_Web_back_len {C : GCtx} {A : CA3} {vs H Q E} (h : sp_m_Web_back C A vs H Q E) : vs.length = 1 := by obtain ⟨_, _, h⟩ := h; exact h.len
theorem hs_m_Web_back {C : GCtx} {A : CA3} : ∀ step, (m_Web_back_m step).nb → SpX C (sp_m_Web_back C A) [.val (dPair (d1 := dInt) (d2 := dInt)) step] (fun c => ∃ r, c = .val (dPair (d1 := dInt) (d2 := dInt)) r ∧ (m_Web_back_m step) = .ok r) (fun x => ∃ px, (m_Web_back_m step) = .exc px ∧ x = px.x A.tx) := fun step nb vs H Q E h => ⟨step, nb, h⟩
def sp_m_Web_tail (C : GCtx) (A : CA3) : Sp := fun vs H Q E => ∃ self : WebM, ∃ step : (Int × Int), (m_Web_tail_m self step).nb ∧ FnX C [.val (dWeb A) self, .val (dPair (d1 := dInt) (d2 := dInt)) step] (fun c => ∃ r, c = .val (dPair (d1 := dInt) (d2 := dInt)) r ∧ (m_Web_tail_m self step) = .ok r) (fun x => ∃ px, (m_Web_tail_m self step) = .exc px ∧ x = px.x A.tx) vs H Q E
theorem sp_m_Web_tail_len {C : GCtx} {A : CA3} {vs H Q E} (h : sp_m_Web_tail C A vs H Q E) : vs.length = 2 := by obtain ⟨_, _, _, h⟩ := h; exact h.len
theorem hs_m_Web_tail {C : GCtx} {A : CA3} : ∀ self step, (m_Web_tail_m self step).nb → SpX C (sp_m_Web_tail C A) [.val (dWeb A) self, .val (dPair (d1 := dInt) (d2 := dInt)) step] (fun c => ∃ r, c = .val (dPair (d1 := dInt) (d2 := dInt)) r ∧ (m_Web_tail_m self step) = .ok r) (fun x => ∃ px, (m_Web_tail_m self step) = .exc px ∧ x = px.x A.tx) := fun self step nb vs H Q E h => ⟨self, step, nb, h⟩
def sp_m_Web_head (C : GCtx) (A : CA3) : Sp := fun vs H Q E => ∃ self : WebM, ∃ step : (Int × Int), (m_Web_head_m self step).nb ∧ FnX C [.val (dWeb A) self, .val (dPair (d1 := dInt) (d2 := dInt)) step] (fun c => ∃ r, c = .val (dPair (d1 := dInt) (d2 := dInt)) r ∧ (m_Web_head_m self step) = .ok r) (fun x => ∃ px, (m_Web_head_m self step) = .exc px ∧ x = px.x A.tx) vs H Q E
theorem sp_m_Web_head_len {C : GCtx} {A : CA3} {vs H Q E} (h : sp_m_Web_head C A vs H Q E) : vs.length = 2 := by obtain ⟨_, _, _, h⟩ := h; exact h.len
theorem hs_m_Web_head {C : GCtx} {A : CA3} : ∀ self step, (m_Web_head_m self step).nb → SpX C (sp_m_Web_head C A) [.val (dWeb A) self, .val (dPair (d1 := dInt) (d2 := dInt)) step] (fun c => ∃ r, c = .val (dPair (d1 := dInt) (d2 := dInt)) r ∧ (m_Web_head_m self step) = .ok r) (fun x => ∃ px, (m_Web_head_m self step) = .exc px ∧ x = px.x A.tx) := fun self step nb vs H Q E h => ⟨self, step, nb, h⟩
def sp_m_WebX_containsX (C : GCtx) (A : CA3) : Sp := fun vs H Q E => ∃ self : WebM, ∃ place : Int, (m_WebX_containsX_m self place).nb ∧ FnX C [.val (dWeb A) self, .val dInt place] (fun c => ∃ r, c = .val dBool r ∧ (m_WebX_containsX_m self place) = .ok r) (fun x => ∃ px, (m_WebX_containsX_m self place) = .exc px ∧ x = px.x A.tx) vs H Q E
theorem sp_m_WebX_containsX_len {C : GCtx} {A : CA3} {vs H Q E} (h : sp_m_WebX_containsX C A vs H Q E) : vs.length = 2 := by obtain ⟨_, _, _, h⟩ := h; exact h.len
theorem hs_m_WebX_containsX {C : GCtx} {A : CA3} : ∀ self place, (m_WebX_containsX_m self place).nb → SpX C (sp_m_WebX_containsX C A) [.val (dWeb A) self, .val dInt place] (fun c => ∃ r, c = .val dBool r ∧ (m_WebX_containsX_m self place) = .ok r) (fun x => ∃ px, (m_WebX_containsX_m self place) = .exc px ∧ x = px.x A.tx) := fun self place nb vs H Q E h => ⟨self, place, nb, h⟩
def sp_m_Web_steps_from (C : GCtx) (A : CA3) : Sp := fun vs H Q E => ∃ self : WebM, ∃ place : Int, (m_Web_steps_from_m self place).nb ∧ FnX C [.val (dWeb A) self, .val dInt place] (fun c => ∃ r, c = .own (dList (d := (dPair (d1 := dInt) (d2 := dInt)))) (oList (d := (dPair (d1 := dInt) (d2 := dInt)))) none r ∧ (m_Web_steps_from_m self place) = .ok r) (fun x => ∃ px, (m_Web_steps_from_m self place) = .exc px ∧ x = px.x A.tx) vs H Q E
theorem sp_m_Web_steps_from_len {C : GCtx} {A : CA3} {vs H Q E} (h : sp_m_Web_steps_from C A vs H Q E) : vs.length = 2 := by obtain ⟨_, _, _, h⟩ := h; exact h.len
theorem hs_m_Web_steps_from {C : GCtx} {A : CA3} : ∀ self place, (m_Web_steps_from_m self place).nb → SpX C (sp_m_Web_steps_from C A) [.val (dWeb A) self, .val dInt place] (fun c => ∃ r, c = .own (dList (d := (dPair (d1 := dInt) (d2 := dInt)))) (oList (d := (dPair (d1 := dInt) (d2 := dInt)))) none r ∧ (m_Web_steps_from_m self place) = .ok r) (fun x => ∃ px, (m_Web_steps_from_m self place) = .exc px ∧ x = px.x A.tx) := fun self place nb vs H Q E h => ⟨self, place, nb, h⟩
def sp_p_followers (C : GCtx) (A : CA3) : Sp := fun vs H Q E => ∃ web : WebM, ∃ step : (Int × Int), (p_followers_m web step).nb ∧ FnX C [.val (dWeb A) web, .val (dPair (d1 := dInt) (d2 := dInt)) step] (fun c => ∃ r, c = .own (dList (d := (dPair (d1 := dInt) (d2 := dInt)))) (oList (d := (dPair (d1 := dInt) (d2 := dInt)))) none r ∧ (p_followers_m web step) = .ok r) (fun x => ∃ px, (p_followers_m web step) = .exc px ∧ x = px.x A.tx) vs H Q E
theorem sp_p_followers_len {C : GCtx} {A : CA3} {vs H Q E} (h : sp_p_followers C A vs H Q E) : vs.length = 2 := by obtain ⟨_, _, _, h⟩ := h; exact h.len
theorem hs_p_followers {C : GCtx} {A : CA3} : ∀ web step, (p_followers_m web step).nb → SpX C (sp_p_followers C A) [.val (dWeb A) web, .val (dPair (d1 := dInt) (d2 := dInt)) step] (fun c => ∃ r, c = .own (dList (d := (dPair (d1 := dInt) (d2 := dInt)))) (oList (d := (dPair (d1 := dInt) (d2 := dInt)))) none r ∧ (p_followers_m web step) = .ok r) (fun x => ∃ px, (p_followers_m web step) = .exc px ∧ x = px.x A.tx) := fun web step nb vs H Q E h => ⟨web, step, nb, h⟩
def sp_p_reached (C : GCtx) (A : CA3) : Sp := fun vs H Q E => ∃ web : WebM, ∃ first : (Int × Int), (p_reached_m web first).nb ∧ FnX C [.val (dWeb A) web, .val (dPair (d1 := dInt) (d2 := dInt)) first] (fun c => ∃ r, c = .own (dList (d := (dPair (d1 := dInt) (d2 := dInt)))) (oList (d := (dPair (d1 := dInt) (d2 := dInt)))) none r ∧ (p_reached_m web first) = .ok r) (fun x => ∃ px, (p_reached_m web first) = .exc px ∧ x = px.x A.tx) vs H Q E
theorem sp_p_reached_len {C : GCtx} {A : CA3} {vs H Q E} (h : sp_p_reached C A vs H Q E) : vs.length = 2 := by obtain ⟨_, _, _, h⟩ := h; exact h.len
theorem hs_p_reached {C : GCtx} {A : CA3} : ∀ web first, (p_reached_m web first).nb → SpX C (sp_p_reached C A) [.val (dWeb A) web, .val (dPair (d1 := dInt) (d2 := dInt)) first] (fun c => ∃ r, c = .own (dList (d := (dPair (d1 := dInt) (d2 := dInt)))) (oList (d := (dPair (d1 := dInt) (d2 := dInt)))) none r ∧ (p_reached_m web first) = .ok r) (fun x => ∃ px, (p_reached_m web first) = .exc px ∧ x = px.x A.tx) := fun web first nb vs H Q E h => ⟨web, first, nb, h⟩
def sp_p_shortest_walk (C : GCtx) (A : CA3) : Sp := fun vs H Q E => ∃ web : WebM, ∃ first : (Int × Int), ∃ last : (Int × Int), (p_shortest_walk_m web first last).nb ∧ FnX C [.val (dWeb A) web, .val (dPair (d1 := dInt) (d2 := dInt)) first, .val (dPair (d1 := dInt) (d2 := dInt)) last] (fun c => ∃ r, c = .own (dOpt (d := (dList (d := (dPair (d1 := dInt) (d2 := dInt)))))) (oOpt (oList (d := (dPair (d1 := dInt) (d2 := dInt))))) none r ∧ (p_shortest_walk_m web first last) = .ok r) (fun x => ∃ px, (p_shortest_walk_m web first last) = .exc px ∧ x = px.x A.tx) vs H Q E
theorem sp_p_shortest_walk_len {C : GCtx} {A : CA3} {vs H Q E} (h : sp_p_shortest_walk C A vs H Q E) : vs.length = 3 := by obtain ⟨_, _, _, _, h⟩ := h; exact h.len
theorem hs_p_shortest_walk {C : GCtx} {A : CA3} : ∀ web first last, (p_shortest_walk_m web first last).nb → SpX C (sp_p_shortest_walk C A) [.val (dWeb A) web, .val (dPair (d1 := dInt) (d2 := dInt)) first, .val (dPair (d1 := dInt) (d2 := dInt)) last] (fun c => ∃ r, c = .own (dOpt (d := (dList (d := (dPair (d1 := dInt) (d2 := dInt)))))) (oOpt (oList (d := (dPair (d1 := dInt) (d2 := dInt))))) none r ∧ (p_shortest_walk_m web first last) = .ok r) (fun x => ∃ px, (p_shortest_walk_m web first last) = .exc px ∧ x = px.x A.tx) := fun web first last nb vs H Q E h => ⟨web, first, last, nb, h⟩
def sp_l_is_number (C : GCtx) (A : CA3) : Sp := fun vs H Q E => ∃ told_here : Int, (l_is_number_m told_here).nb ∧ FnX C [.val dInt told_here] (fun c => ∃ r, c = .val dBool r ∧ (l_is_number_m told_here) = .ok r) (fun x => ∃ px, (l_is_number_m told_here) = .exc px ∧ x = px.x A.tx) vs H Q E
theorem sp_l_is_number_len {C : GCtx} {A : CA3} {vs H Q E} (h : sp_l_is_number C A vs H Q E) : vs.length = 1 := by obtain ⟨_, _, h⟩ := h; exact h.len
theorem hs_l_is_number {C : GCtx} {A : CA3} : ∀ told_here, (l_is_number_m told_here).nb → SpX C (sp_l_is_number C A) [.val dInt told_here] (fun c => ∃ r, c = .val dBool r ∧ (l_is_number_m told_here) = .ok r) (fun x => ∃ px, (l_is_number_m told_here) = .exc px ∧ x = px.x A.tx) := fun told_here nb vs H Q E h => ⟨told_here, nb, h⟩
def sp_l_told (C : GCtx) (A : CA3) : Sp := fun vs H Q E => ∃ web_here : WebM, ∃ first : (Int × Int), ∃ last : (Int × Int), ∃ which : Int, (l_told_m web_here first last which).nb ∧ FnX C [.val (dWeb A) web_here, .val (dPair (d1 := dInt) (d2 := dInt)) first, .val (dPair (d1 := dInt) (d2 := dInt)) last, .val dInt which] (fun c => ∃ r, c = .own dU oU none r ∧ (l_told_m web_here first last which) = .ok r) (fun x => ∃ px, (l_told_m web_here first last which) = .exc px ∧ x = px.x A.tx) vs H Q E
theorem sp_l_told_len {C : GCtx} {A : CA3} {vs H Q E} (h : sp_l_told C A vs H Q E) : vs.length = 4 := by obtain ⟨_, _, _, _, _, h⟩ := h; exact h.len
theorem hs_l_told {C : GCtx} {A : CA3} : ∀ web_here first last which, (l_told_m web_here first last which).nb → SpX C (sp_l_told C A) [.val (dWeb A) web_here, .val (dPair (d1 := dInt) (d2 := dInt)) first, .val (dPair (d1 := dInt) (d2 := dInt)) last, .val dInt which] (fun c => ∃ r, c = .own dU oU none r ∧ (l_told_m web_here first last which) = .ok r) (fun x => ∃ px, (l_told_m web_here first last which) = .exc px ∧ x = px.x A.tx) := fun web_here first last which nb vs H Q E h => ⟨web_here, first, last, which, nb, h⟩
def sp_l_same (n : Nat) (C : GCtx) (A : CA3) : Sp := fun vs H Q E => ∃ told_here : PyData, ∃ due : PyData, (l_same_m n told_here due).nb ∧ FnX C [.val dU told_here, .val dU due] (fun c => ∃ r, c = .val dBool r ∧ (l_same_m n told_here due) = .ok r) (fun x => ∃ px, (l_same_m n told_here due) = .exc px ∧ x = px.x A.tx) vs H Q E
theorem sp_l_same_len {n : Nat} {C : GCtx} {A : CA3} {vs H Q E} (h : sp_l_same n C A vs H Q E) : vs.length = 2 := by obtain ⟨_, _, _, h⟩ := h; exact h.len
theorem hs_l_same {n : Nat} {C : GCtx} {A : CA3} : ∀ told_here due, (l_same_m n told_here due).nb → SpX C (sp_l_same n C A) [.val dU told_here, .val dU due] (fun c => ∃ r, c = .val dBool r ∧ (l_same_m n told_here due) = .ok r) (fun x => ∃ px, (l_same_m n told_here due) = .exc px ∧ x = px.x A.tx) := fun told_here due nb vs H Q E h => ⟨told_here, due, nb, h⟩
def sp_l_right_first (C : GCtx) (A : CA3) : Sp := fun vs H Q E => ∃ web_here : WebM, ∃ table_here : (DK (Int × Int) (List (Int × Int))), ∃ first : (Int × Int), (l_right_first_m web_here table_here first).nb ∧ FnX C [.val (dWeb A) web_here, .val (dKL (ky := kyPair) (d := (dList (d := (dPair (d1 := dInt) (d2 := dInt)))))) table_here, .val (dPair (d1 := dInt) (d2 := dInt)) first] (fun c => ∃ r, c = .val dBool r ∧ (l_right_first_m web_here table_here first) = .ok r) (fun x => ∃ px, (l_right_first_m web_here table_here first) = .exc px ∧ x = px.x A.tx) vs H Q E
theorem sp_l_right_first_len {C : GCtx} {A : CA3} {vs H Q E} (h : sp_l_right_first C A vs H Q E) : vs.length = 3 := by obtain ⟨_, _, _, _, h⟩ := h; exact h.len
theorem hs_l_right_first {C : GCtx} {A : CA3} : ∀ web_here table_here first, (l_right_first_m web_here table_here first).nb → SpX C (sp_l_right_first C A) [.val (dWeb A) web_here, .val (dKL (ky := kyPair) (d := (dList (d := (dPair (d1 := dInt) (d2 := dInt)))))) table_here, .val (dPair (d1 := dInt) (d2 := dInt)) first] (fun c => ∃ r, c = .val dBool r ∧ (l_right_first_m web_here table_here first) = .ok r) (fun x => ∃ px, (l_right_first_m web_here table_here first) = .exc px ∧ x = px.x A.tx) := fun web_here table_here first nb vs H Q E h => ⟨web_here, table_here, first, nb, h⟩
def sp_l_far (C : GCtx) (A : CA3) : Sp := fun vs H Q E => ∃ table_here : (DK (Int × Int) (List (Int × Int))), ∃ last : (Int × Int), (l_far_m table_here last).nb ∧ FnX C [.val (dKL (ky := kyPair) (d := (dList (d := (dPair (d1 := dInt) (d2 := dInt)))))) table_here, .val (dPair (d1 := dInt) (d2 := dInt)) last] (fun c => ∃ r, c = .val (dKL (ky := kyPair) (d := dInt)) r ∧ (l_far_m table_here last) = .ok r) (fun x => ∃ px, (l_far_m table_here last) = .exc px ∧ x = px.x A.tx) vs H Q E
theorem sp_l_far_len {C : GCtx} {A : CA3} {vs H Q E} (h : sp_l_far C A vs H Q E) : vs.length = 2 := by obtain ⟨_, _, _, h⟩ := h; exact h.len
theorem hs_l_far {C : GCtx} {A : CA3} : ∀ table_here last, (l_far_m table_here last).nb → SpX C (sp_l_far C A) [.val (dKL (ky := kyPair) (d := (dList (d := (dPair (d1 := dInt) (d2 := dInt)))))) table_here, .val (dPair (d1 := dInt) (d2 := dInt)) last] (fun c => ∃ r, c = .val (dKL (ky := kyPair) (d := dInt)) r ∧ (l_far_m table_here last) = .ok r) (fun x => ∃ px, (l_far_m table_here last) = .exc px ∧ x = px.x A.tx) := fun table_here last nb vs H Q E h => ⟨table_here, last, nb, h⟩
def sp_l_lowest (C : GCtx) (A : CA3) : Sp := fun vs H Q E => ∃ table_here : (DK (Int × Int) (List (Int × Int))), ∃ far_here : (DK (Int × Int) Int), ∃ first : (Int × Int), (l_lowest_m table_here far_here first).nb ∧ FnX C [.val (dKL (ky := kyPair) (d := (dList (d := (dPair (d1 := dInt) (d2 := dInt)))))) table_here, .val (dKL (ky := kyPair) (d := dInt)) far_here, .val (dPair (d1 := dInt) (d2 := dInt)) first] (fun c => ∃ r, c = .val (dOpt (d := (dList (d := (dPair (d1 := dInt) (d2 := dInt)))))) r ∧ (l_lowest_m table_here far_here first) = .ok r) (fun x => ∃ px, (l_lowest_m table_here far_here first) = .exc px ∧ x = px.x A.tx) vs H Q E
theorem sp_l_lowest_len {C : GCtx} {A : CA3} {vs H Q E} (h : sp_l_lowest C A vs H Q E) : vs.length = 3 := by obtain ⟨_, _, _, _, h⟩ := h; exact h.len
theorem hs_l_lowest {C : GCtx} {A : CA3} : ∀ table_here far_here first, (l_lowest_m table_here far_here first).nb → SpX C (sp_l_lowest C A) [.val (dKL (ky := kyPair) (d := (dList (d := (dPair (d1 := dInt) (d2 := dInt)))))) table_here, .val (dKL (ky := kyPair) (d := dInt)) far_here, .val (dPair (d1 := dInt) (d2 := dInt)) first] (fun c => ∃ r, c = .val (dOpt (d := (dList (d := (dPair (d1 := dInt) (d2 := dInt)))))) r ∧ (l_lowest_m table_here far_here first) = .ok r) (fun x => ∃ px, (l_lowest_m table_here far_here first) = .exc px ∧ x = px.x A.tx) := fun table_here far_here first nb vs H Q E h => ⟨table_here, far_here, first, nb, h⟩
def sp_l_right_last (C : GCtx) (A : CA3) : Sp := fun vs H Q E => ∃ web_here : WebM, ∃ table_here : (DK (Int × Int) (List (Int × Int))), ∃ first : (Int × Int), ∃ last : (Int × Int), (l_right_last_m web_here table_here first last).nb ∧ FnX C [.val (dWeb A) web_here, .val (dKL (ky := kyPair) (d := (dList (d := (dPair (d1 := dInt) (d2 := dInt)))))) table_here, .val (dPair (d1 := dInt) (d2 := dInt)) first, .val (dPair (d1 := dInt) (d2 := dInt)) last] (fun c => ∃ r, c = .val dBool r ∧ (l_right_last_m web_here table_here first last) = .ok r) (fun x => ∃ px, (l_right_last_m web_here table_here first last) = .exc px ∧ x = px.x A.tx) vs H Q E
theorem sp_l_right_last_len {C : GCtx} {A : CA3} {vs H Q E} (h : sp_l_right_last C A vs H Q E) : vs.length = 4 := by obtain ⟨_, _, _, _, _, h⟩ := h; exact h.len
theorem hs_l_right_last {C : GCtx} {A : CA3} : ∀ web_here table_here first last, (l_right_last_m web_here table_here first last).nb → SpX C (sp_l_right_last C A) [.val (dWeb A) web_here, .val (dKL (ky := kyPair) (d := (dList (d := (dPair (d1 := dInt) (d2 := dInt)))))) table_here, .val (dPair (d1 := dInt) (d2 := dInt)) first, .val (dPair (d1 := dInt) (d2 := dInt)) last] (fun c => ∃ r, c = .val dBool r ∧ (l_right_last_m web_here table_here first last) = .ok r) (fun x => ∃ px, (l_right_last_m web_here table_here first last) = .exc px ∧ x = px.x A.tx) := fun web_here table_here first last nb vs H Q E h => ⟨web_here, table_here, first, last, nb, h⟩
def sp_l_right_steps (C : GCtx) (A : CA3) : Sp := fun vs H Q E => ∃ web_here : WebM, ∃ ties : (List (T4 Int Int Int Int)), ∃ draws_here : (List Int), ∃ at_ : Int, ∃ many : Int, (l_right_steps_m web_here ties draws_here at_ many).nb ∧ FnX C [.val (dWeb A) web_here, .val (dList (d := (dT4 (d1 := dInt) (d2 := dInt) (d3 := dInt) (d4 := dInt)))) ties, .val (dList (d := dInt)) draws_here, .val dInt at_, .val dInt many] (fun c => ∃ r, c = .val dBool r ∧ (l_right_steps_m web_here ties draws_here at_ many) = .ok r) (fun x => ∃ px, (l_right_steps_m web_here ties draws_here at_ many) = .exc px ∧ x = px.x A.tx) vs H Q E
theorem sp_l_right_steps_len {C : GCtx} {A : CA3} {vs H Q E} (h : sp_l_right_steps C A vs H Q E) : vs.length = 5 := by obtain ⟨_, _, _, _, _, _, h⟩ := h; exact h.len
theorem hs_l_right_steps {C : GCtx} {A : CA3} : ∀ web_here ties draws_here at_ many, (l_right_steps_m web_here ties draws_here at_ many).nb → SpX C (sp_l_right_steps C A) [.val (dWeb A) web_here, .val (dList (d := (dT4 (d1 := dInt) (d2 := dInt) (d3 := dInt) (d4 := dInt)))) ties, .val (dList (d := dInt)) draws_here, .val dInt at_, .val dInt many] (fun c => ∃ r, c = .val dBool r ∧ (l_right_steps_m web_here ties draws_here at_ many) = .ok r) (fun x => ∃ px, (l_right_steps_m web_here ties draws_here at_ many) = .exc px ∧ x = px.x A.tx) := fun web_here ties draws_here at_ many nb vs H Q E h => ⟨web_here, ties, draws_here, at_, many, nb, h⟩
def sp_l_right_refusals (C : GCtx) (A : CA3) : Sp := fun vs H Q E => ∃ web_here : WebM, ∃ ties : (List (T4 Int Int Int Int)), ∃ draws_here : (List Int), (l_right_refusals_m web_here ties draws_here).nb ∧ FnX C [.val (dWeb A) web_here, .val (dList (d := (dT4 (d1 := dInt) (d2 := dInt) (d3 := dInt) (d4 := dInt)))) ties, .val (dList (d := dInt)) draws_here] (fun c => ∃ r, c = .val dBool r ∧ (l_right_refusals_m web_here ties draws_here) = .ok r) (fun x => ∃ px, (l_right_refusals_m web_here ties draws_here) = .exc px ∧ x = px.x A.tx) vs H Q E
theorem sp_l_right_refusals_len {C : GCtx} {A : CA3} {vs H Q E} (h : sp_l_right_refusals C A vs H Q E) : vs.length = 3 := by obtain ⟨_, _, _, _, h⟩ := h; exact h.len
theorem hs_l_right_refusals {C : GCtx} {A : CA3} : ∀ web_here ties draws_here, (l_right_refusals_m web_here ties draws_here).nb → SpX C (sp_l_right_refusals C A) [.val (dWeb A) web_here, .val (dList (d := (dT4 (d1 := dInt) (d2 := dInt) (d3 := dInt) (d4 := dInt)))) ties, .val (dList (d := dInt)) draws_here] (fun c => ∃ r, c = .val dBool r ∧ (l_right_refusals_m web_here ties draws_here) = .ok r) (fun x => ∃ px, (l_right_refusals_m web_here ties draws_here) = .exc px ∧ x = px.x A.tx) := fun web_here ties draws_here nb vs H Q E h => ⟨web_here, ties, draws_here, nb, h⟩
def sp_law (C : GCtx) : Sp := fun vs H Q _ => ∃ s : Sq Int, law_m s = .ok true ∧ Fn C [.val (dSq (d := dInt)) s] (fun c => c = .val dBool true) vs H Q
theorem sp_law_len {C : GCtx} {vs H Q E} (h : sp_law C vs H Q E) : vs.length = 1 := by obtain ⟨_, _, h⟩ := h; exact h.len
end K10
end

namespace K10
open PySem L2 G PM
set_option maxHeartbeats 4000000 in
theorem ok_l_cell {P : Program} {w : World} {K : PySem.W.Frag} {mg : Str → Option Value} {base : Heap} (T : Txt K mg) : FnOk P w K mg base (L2.CX P w) 1 T.a_l_cell T.f_l_cell ["_law_script", "_law_k"] (sp_l_cell ⟨P, w, K⟩ T.A) := by
  have nd := sc_l_cell.nd
  refine T.F_l_cell.okX sc_l_cell (fun vs H Q E h => ?_) (fun cdv A outer s H vs Q E hr h => ?_)
  · exact sp_l_cell_len h
  have hu := hu_of hr
  refine ⟨_, (pss_cons (ps_if (pt_cmpR op_lt (pv 1) (pe_callB (len_K K) (by rfl) T.b_len (by decide +kernel) (pa_cons (pv 0) pa_nil)) (nomark _))
        (pss_one (ps_ret (pe_ix (ix_qK K) (pv 0) (pv 1) (fun _ _ => rfl))))
        pss_nil)
      (pss_one (ps_ret pe_int))), ?_⟩
  try dsimp only [cxOf]
  obtain ⟨script, k, nb, h⟩ := h
  refine Zm.body (js := [0, 1]) (m := l_cell_m script k) nb h ?_
  refine zm_to (Γ2 := [(.val (dSq (d := dInt)) script), (.val dInt k)]) rfl ?_
  delta l_cell_m
  refine zm_ifP (te_eq (te_test (we_lt (re_w (we_var rfl)) (re_w (we_lenQ (re_w (we_var rfl)))))) rfl) ?_ ?_
  · exact zm_ret (we_eq (we_ixQ (we_var rfl) (re_w (we_var rfl))) rfl)
  · refine zm_skip ?_
    refine zm_last ?_
    exact zm_ret (we_eq we_int rfl)
end K10

namespace K10
open PySem L2 G PM
set_option maxHeartbeats 4000000 in
theorem ok_l_draws {P : Program} {w : World} {K : PySem.W.Frag} {mg : Str → Option Value} {base : Heap} (T : Txt K mg) : FnOk P w K mg base (L2.CX P w) 1 T.a_l_draws T.f_l_draws ["_law_cell_here", "_law_many"] (sp_l_draws ⟨P, w, K⟩ T.A) := by
  have nd := sc_l_draws.nd
  refine T.F_l_draws.okX sc_l_draws (fun vs H Q E h => ?_) (fun cdv A outer s H vs Q E hr h => ?_)
  · exact sp_l_draws_len h
  have hu := hu_of hr
  refine ⟨_, (pss_cons (ps_set (i := 2) nd rfl (Or.inl rfl) (pe_callB call_abs (by rfl) T.b_abs (by decide +kernel) (pa_cons (pe_callTy call_int1 (by rfl) T.b_int (by decide +kernel) (pa_cons (pv 0) pa_nil)) pa_nil)))
      (pss_cons (ps_set (i := 3) nd rfl (Or.inl rfl) (pe_cmpR op_ge (pv 2) (pe_op op_pow pe_int pe_int) (nomark _)))
      (pss_cons (ps_set (i := 4) nd rfl (Or.inl rfl) (pe_op op_add (pe_op op_mod (pe_callTy call_int1 (by rfl) T.b_int (by decide +kernel) (pa_cons (pv 2) pa_nil)) pe_int) pe_int))
      (pss_cons (ps_set (i := 5) nd rfl (Or.inl rfl) (pe_lst pa_nil))
      (pss_cons (ps_for (passes_of rfl) rfl (pi_range1 (by rfl) T.b_range (pa_cons (pv 1) pa_nil)) (pg_name (i := 6) nd rfl (Or.inl rfl))
        (pss_cons (ps_set (i := 4) nd rfl (Or.inl rfl) (pe_op op_mod (pe_callTy call_int1 (by rfl) T.b_int (by decide +kernel) (pa_cons (pe_op op_add (pe_op op_add (pe_op op_mul (pv 4) pe_int) (pe_op op_mul pe_int (pv 6))) pe_int) pa_nil)) pe_int))
      (pss_one (ps_if (PW.pt (pw_and (pt_val (pv 3)) (pw_and1 (pt_cmpR op_gt (pv 2) pe_int (nomark _)))))
        (pss_cons (ps_expr (bm_K K PySem.F.plainAttrs_list PySem.F.slot_list_append PySem.F.type_list_append mt_append (pv 5) (pa_cons (pe_op op_mod (pe_callTy call_int1 (by rfl) T.b_int (by decide +kernel) (pa_cons (pv 2) pa_nil)) pe_int) pa_nil)))
      (pss_one (ps_set (i := 2) nd rfl (Or.inl rfl) (pe_op op_fdiv (pv 2) pe_int))))
        (pss_one (ps_expr (bm_K K PySem.F.plainAttrs_list PySem.F.slot_list_append PySem.F.type_list_append mt_append (pv 5) (pa_cons (pe_op op_mod (pe_op op_fdiv (pv 4) pe_int) pe_int) pa_nil))))))))
      (pss_one (ps_ret (pv 5)))))))), ?_⟩
  try dsimp only [cxOf]
  obtain ⟨cell_here, many, nb, h⟩ := h
  refine Zm.body (js := [0, 1, 2, 3, 4, 5, 6]) (m := l_draws_m cell_here many) nb h ?_
  refine zm_to (Γ2 := [(.val dInt cell_here), (.val dInt many), .no, .no, .no, .no, .no]) rfl ?_
  delta l_draws_m
  refine zm_set (i := 2) rfl (by decide) (we_eq (we_abs (re_w (we_int1 (re_w (we_var rfl))))) rfl) fun rest_1 => ?_
  refine zm_set (i := 3) rfl (by decide) (we_eq (we_ge (re_w (we_var rfl)) (re_w (we_powC (c := 1000000000000000000) (re_w we_int) (re_w we_int) (by decide)))) rfl) fun exact_2 => ?_
  refine zm_set (i := 4) rfl (by decide) (we_eq (we_add (re_w (we_modC (re_w (we_int1 (re_w (we_var rfl)))) (re_w we_int))) (re_w we_int)) rfl) fun mixed_3 => ?_
  refine zm_setO (i := 5) rfl (by decide) (oe_eq (oe_lst0 (d := dInt)) rfl) fun draws_here_4 => ?_
  refine zm_for [6] (fun s5 => [(.val dInt cell_here), (.val dInt many), (.val dInt s5.1), (.val dBool exact_2), (.val dInt s5.2.1), (.own (dList (d := dInt)) (oList (d := dInt)) none s5.2.2), .no]) (rest_1, mixed_3, draws_here_4) (wlen 7 (by exact rfl) (by exact rfl) (by decide)) rfl (fun _ => (wlen 7 (by exact rfl) (by exact rfl) (by decide))) (ie_eq (ie_range (re_w (we_var rfl))) rfl) (fun s5 x6 => (a_name rfl ⟨(wlen 7 (by exact rfl) (by exact rfl) (by decide)), ?_⟩)) fun s11 => ?_
  · refine zm_set (i := 4) rfl (by decide) (we_eq (we_modC (re_w (we_int1 (re_w (we_add (re_w (we_add (re_w (we_mulCr (re_w (we_var rfl)) (re_w we_int))) (re_w (we_mulCl (re_w we_int) (re_w (we_var rfl)))))) (re_w we_int))))) (re_w we_int)) rfl) fun mixed_7 => ?_
    refine zm_last ?_
    refine zm_ifP (te_eq (te_andP (te_B (we_var rfl)) (te_test (we_gt (re_w (we_var rfl)) (re_w we_int)))) rfl) ?_ ?_
    · refine zm_assoc ?_
      refine zm_append (i := 5) rfl (by decide) (we_eq (we_modC (re_w (we_int1 (re_w (we_var rfl)))) (re_w we_int)) rfl) fun draws_here_8 => ?_
      refine zm_set (i := 2) rfl (by decide) (we_eq (we_fdivC (re_w (we_var rfl)) (re_w we_int)) rfl) fun rest_9 => ?_
      exact zm_nextL rfl
    · refine zm_append (i := 5) rfl (by decide) (we_eq (we_modC (re_w (we_fdivC (re_w (we_var rfl)) (re_w we_int))) (re_w we_int)) rfl) fun draws_here_10 => ?_
      exact zm_nextL rfl
  · refine zm_last ?_
    exact zm_retV rfl
end K10

namespace K10
open PySem L2 G PM
set_option maxHeartbeats 4000000 in
theorem ok_l_pick {P : Program} {w : World} {K : PySem.W.Frag} {mg : Str → Option Value} {base : Heap} (T : Txt K mg) : FnOk P w K mg base (L2.CX P w) 1 T.a_l_pick T.f_l_pick ["_law_draws_here", "_law_k", "_law_many"] (sp_l_pick ⟨P, w, K⟩ T.A) := by
  have nd := sc_l_pick.nd
  refine T.F_l_pick.okX sc_l_pick (fun vs H Q E h => ?_) (fun cdv A outer s H vs Q E hr h => ?_)
  · exact sp_l_pick_len h
  have hu := hu_of hr
  refine ⟨_, (pss_cons (ps_if (PW.pt (pw_or (pt_cmpR op_lt (pv 2) pe_int (nomark _)) (pw_or1 (pt_cmpR op_eq (pe_callB (len_K K) (by rfl) T.b_len (by decide +kernel) (pa_cons (pv 0) pa_nil)) pe_int (nomark _)))))
        (pss_one (ps_ret pe_int))
        pss_nil)
      (pss_one (ps_ret (pe_op op_mod (pe_callTy call_int1 (by rfl) T.b_int (by decide +kernel) (pa_cons (pe_ix (ix_lK K) (pv 0) (pe_op op_mod (pe_callTy call_int1 (by rfl) T.b_int (by decide +kernel) (pa_cons (pv 1) pa_nil)) (pe_callB (len_K K) (by rfl) T.b_len (by decide +kernel) (pa_cons (pv 0) pa_nil))) (fun _ _ => rfl)) pa_nil)) (pv 2))))), ?_⟩
  try dsimp only [cxOf]
  obtain ⟨draws_here, k, many, nb, h⟩ := h
  refine Zm.body (js := [0, 1, 2]) (m := l_pick_m draws_here k many) nb h ?_
  refine zm_to (Γ2 := [(.val (dList (d := dInt)) draws_here), (.val dInt k), (.val dInt many)]) rfl ?_
  delta l_pick_m
  refine zm_ifP (te_eq (te_orP (te_test (we_lt (re_w (we_var rfl)) (re_w we_int))) (te_test (we_eqS (re_w (we_len (re_w (we_var rfl)))) (re_w we_int)))) rfl) ?_ ?_
  · exact zm_ret (we_eq we_int rfl)
  · refine zm_skip ?_
    refine zm_last ?_
    exact zm_ret (we_eq (we_mod (re_w (we_int1 (re_w (we_ix (we_var rfl) (re_w (we_mod (re_w (we_int1 (re_w (we_var rfl)))) (re_w (we_len (re_w (we_var rfl)))))))))) (re_w (we_var rfl))) rfl)
end K10

namespace K10
open PySem L2 G PM
set_option maxHeartbeats 4000000 in
theorem ok_l_web {P : Program} {w : World} {K : PySem.W.Frag} {mg : Str → Option Value} {base : Heap} (T : Txt K mg) (G_l_pick : FnOk P w K mg base (L2.CX P w) 1 T.a_l_pick T.f_l_pick ["_law_draws_here", "_law_k", "_law_many"] (sp_l_pick ⟨P, w, K⟩ T.A)) : FnOk P w K mg base (L2.CX P w) 2 T.a_l_web T.f_l_web ["_law_draws_here", "_law_most_places", "_law_most_ties"] (sp_l_web ⟨P, w, K⟩ T.A) := by
  have nd := sc_l_web.nd
  refine T.F_l_web.okX sc_l_web (fun vs H Q E h => ?_) (fun cdv A outer s H vs Q E hr h => ?_)
  · exact sp_l_web_len h
  have hu := hu_of hr
  refine ⟨_, (pss_cons (ps_set (i := 3) nd rfl (Or.inr rfl) (pe_lst (pa_cons pe_int (pa_cons pe_int (pa_cons pe_int (pa_cons pe_int (pa_cons pe_int (pa_cons pe_int pa_nil))))))))
      (pss_cons (ps_set (i := 4) nd rfl (Or.inl rfl) (pe_callS G_l_pick (hr.mono (by decide)) (by rfl) T.g_l_pick T.F_l_pick.kp T.d_l_pick (fun σ => passAt (takes_of rfl rfl rfl rfl) σ) (pa_cons (pv 0) (pa_cons pe_int (pa_cons (pe_op op_add (pv 1) pe_int) pa_nil)))))
      (pss_cons (ps_setLc (i := 6) (own := [("_law_k", 5)]) (by rfl) nd rfl rfl (sw_true rfl rfl rfl (by decide +kernel)) (pi_range1 (by rfl) T.b_range (pa_cons (pv 4) pa_nil)) (blkOk_by (own := [("_law_k", 5)]) (N := N_l_web) (sc := defScope s_l_web) (by decide +kernel)) (fun _ _ _ _ _ => (pg_name (i := 5) nd rfl (Or.inl rfl))) (fun _ _ _ _ _ => pts_nil) (fun _ _ _ _ _ => (pe_ix (ix_lK K) (pv 3) (pe_callS G_l_pick (hr.mono (by decide)) (by rfl) T.g_l_pick T.F_l_pick.kp T.d_l_pick (fun σ => passFS σ) (pa_cons (pv 0) (pa_cons (pe_op op_add pe_int (pv 5)) (pa_cons pe_int pa_nil)))) (fun _ _ => rfl))))
      (pss_cons (ps_set (i := 7) nd rfl (Or.inl rfl) (pe_lst pa_nil))
      (pss_cons (ps_for (passes_of rfl) rfl (pi_range1 (by rfl) T.b_range (pa_cons (pe_callS G_l_pick (hr.mono (by decide)) (by rfl) T.g_l_pick T.F_l_pick.kp T.d_l_pick (fun σ => passAt (takes_of rfl rfl rfl rfl) σ) (pa_cons (pv 0) (pa_cons pe_int (pa_cons (pe_op op_add (pv 2) pe_int) pa_nil)))) pa_nil)) (pg_name (i := 5) nd rfl (Or.inl rfl))
        (pss_one (ps_if (pt_cmpR op_gt (pv 4) pe_int (nomark _))
        (pss_cons (ps_set (i := 8) nd rfl (Or.inl rfl) (pe_op op_add (pe_op op_add pe_int (pv 4)) (pe_op op_mul pe_int (pv 5))))
      (pss_cons (ps_set (i := 9) nd rfl (Or.inl rfl) (pe_callS G_l_pick (hr.mono (by decide)) (by rfl) T.g_l_pick T.F_l_pick.kp T.d_l_pick (fun σ => passAt (takes_of rfl rfl rfl rfl) σ) (pa_cons (pv 0) (pa_cons (pv 8) (pa_cons (pv 4) pa_nil)))))
      (pss_cons (ps_set (i := 10) nd rfl (Or.inl rfl) (pe_callS G_l_pick (hr.mono (by decide)) (by rfl) T.g_l_pick T.F_l_pick.kp T.d_l_pick (fun σ => passAt (takes_of rfl rfl rfl rfl) σ) (pa_cons (pv 0) (pa_cons (pe_op op_add (pv 8) pe_int) (pa_cons (pv 4) pa_nil)))))
      (pss_cons (ps_set (i := 11) nd rfl (Or.inl rfl) (pe_callS G_l_pick (hr.mono (by decide)) (by rfl) T.g_l_pick T.F_l_pick.kp T.d_l_pick (fun σ => passAt (takes_of rfl rfl rfl rfl) σ) (pa_cons (pv 0) (pa_cons (pe_op op_add (pv 8) pe_int) (pa_cons (pe_ix (ix_lK K) (pv 6) (pv 9) (fun _ _ => rfl)) pa_nil)))))
      (pss_one (ps_expr (bm_K K PySem.F.plainAttrs_list PySem.F.slot_list_append PySem.F.type_list_append mt_append (pv 7) (pa_cons (pe_tup (pa_cons (pv 9) (pa_cons (pv 11) (pa_cons (pv 10) (pa_cons (pe_callS G_l_pick (hr.mono (by decide)) (by rfl) T.g_l_pick T.F_l_pick.kp T.d_l_pick (fun σ => passAt (takes_of rfl rfl rfl rfl) σ) (pa_cons (pv 0) (pa_cons (pe_op op_add (pv 8) pe_int) (pa_cons (pe_ix (ix_lK K) (pv 6) (pv 10) (fun _ _ => rfl)) pa_nil)))) pa_nil))))) pa_nil))))))))
        pss_nil)))
      (pss_one (ps_ret (pe_tup (pa_cons (pv 6) (pa_cons (pv 7) pa_nil)))))))))), ?_⟩
  try dsimp only [cxOf]
  obtain ⟨draws_here, most_places, most_ties, nb, h⟩ := h
  refine Zm.body (js := [0, 1, 2, 3, 4, 5, 6, 7, 8, 9, 10, 11]) (m := l_web_m draws_here most_places most_ties) nb h ?_
  refine zm_to (Γ2 := [(.val (dList (d := dInt)) draws_here), (.val dInt most_places), (.val dInt most_ties), .no, .no, .no, .no, .no, .no, .no, .no, .no]) rfl ?_
  delta l_web_m
  refine zm_set (i := 3) rfl (by decide) (we_eq (we_o (oe_lstN (wle_cons we_int (wle_cons we_int (wle_cons we_int (wle_cons we_int (wle_cons we_int (wle_cons we_int wle_nil)))))) (asLenS (asLenS (asLenS (asLenS (asLenS (asLenS asLen0)))))) (by decide))) rfl) fun menu_1 => ?_
  refine zm_set (i := 4) rfl (by decide) (we_eq (we_call3 hs_l_pick rfl (we_var rfl) we_int (we_add (re_w (we_var rfl)) (re_w we_int))) rfl) fun many_2 => ?_
  refine zm_setO (i := 6) rfl (by decide) (oe_eq (oe_lc (tg_name' (by decide)) (ic_range (re_w (we_var rfl))) fun x3 => (a_name rfl ⟨te_yes, (we_ix (we_var rfl) (re_w (we_call3 hs_l_pick rfl (we_var rfl) (we_add (re_w we_int) (re_w (we_var rfl))) we_int)))⟩)) rfl) fun sides_5 => ?_
  refine zm_setO (i := 7) rfl (by decide) (oe_eq (oe_lst0 (d := (dT4 (d1 := dInt) (d2 := dInt) (d3 := dInt) (d4 := dInt)))) rfl) fun ties_6 => ?_
  refine zm_for [5, 8, 9, 10, 11] (fun s7 => [(.val (dList (d := dInt)) draws_here), (.val dInt most_places), (.val dInt most_ties), (.val (dList (d := dInt)) menu_1), (.val dInt many_2), .no, (.own (dList (d := dInt)) (oList (d := dInt)) none sides_5), (.own (dList (d := (dT4 (d1 := dInt) (d2 := dInt) (d3 := dInt) (d4 := dInt)))) (oList (d := (dT4 (d1 := dInt) (d2 := dInt) (d3 := dInt) (d4 := dInt)))) none s7), .no, .no, .no, .no]) ties_6 (wlen 12 (by exact rfl) (by exact rfl) (by decide)) rfl (fun _ => (wlen 12 (by exact rfl) (by exact rfl) (by decide))) (ie_eq (ie_range (re_w (we_call3 hs_l_pick rfl (we_var rfl) we_int (we_add (re_w (we_var rfl)) (re_w we_int))))) rfl) (fun s7 x9 => (a_name rfl ⟨(wlen 12 (by exact rfl) (by exact rfl) (by decide)), ?_⟩)) fun s18 => ?_
  · refine zm_last ?_
    refine zm_ifP (te_eq (te_test (we_gt (re_w (we_var rfl)) (re_w we_int))) rfl) ?_ ?_
    · refine zm_assoc ?_
      refine zm_set (i := 8) rfl (by decide) (we_eq (we_add (re_w (we_add (re_w we_int) (re_w (we_var rfl)))) (re_w (we_mulCl (re_w we_int) (re_w (we_var rfl))))) rfl) fun at__10 => ?_
      refine zm_assoc ?_
      refine zm_set (i := 9) rfl (by decide) (we_eq (we_call3 hs_l_pick rfl (we_var rfl) (we_var rfl) (we_var rfl)) rfl) fun one_11 => ?_
      refine zm_assoc ?_
      refine zm_set (i := 10) rfl (by decide) (we_eq (we_call3 hs_l_pick rfl (we_var rfl) (we_add (re_w (we_var rfl)) (re_w we_int)) (we_var rfl)) rfl) fun other_12 => ?_
      refine zm_assoc ?_
      refine zm_set (i := 11) rfl (by decide) (we_eq (we_call3 hs_l_pick rfl (we_var rfl) (we_add (re_w (we_var rfl)) (re_w we_int)) (we_ixO rfl (re_w (we_var rfl)))) rfl) fun side_14 => ?_
      refine zm_append (i := 7) rfl (by decide) (we_eq (we_tup4 (we_var rfl) (we_var rfl) (we_var rfl) (we_call3 hs_l_pick rfl (we_var rfl) (we_add (re_w (we_var rfl)) (re_w we_int)) (we_ixO rfl (re_w (we_var rfl))))) rfl) fun ties_17 => ?_
      exact zm_nextL rfl
    · refine zm_skip ?_
      exact zm_nextL rfl
  · refine zm_last ?_
    exact zm_retP (i := 6) (j := 7) rfl rfl rfl
end K10

namespace K10
open PySem L2 G PM
set_option maxHeartbeats 4000000 in
theorem ok_l_faced {P : Program} {w : World} {K : PySem.W.Frag} {mg : Str → Option Value} {base : Heap} (T : Txt K mg) (G_l_pick : FnOk P w K mg base (L2.CX P w) 1 T.a_l_pick T.f_l_pick ["_law_draws_here", "_law_k", "_law_many"] (sp_l_pick ⟨P, w, K⟩ T.A)) : FnOk P w K mg base (L2.CX P w) 2 T.a_l_faced T.f_l_faced ["_law_draws_here", "_law_most_places", "_law_most_ties"] (sp_l_faced ⟨P, w, K⟩ T.A) := by
  have nd := sc_l_faced.nd
  refine T.F_l_faced.okX sc_l_faced (fun vs H Q E h => ?_) (fun cdv A outer s H vs Q E hr h => ?_)
  · exact sp_l_faced_len h
  have hu := hu_of hr
  refine ⟨_, (pss_cons (ps_set (i := 3) nd rfl (Or.inl rfl) (pe_lst (pa_cons pe_int (pa_cons pe_int (pa_cons pe_int (pa_cons pe_int (pa_cons pe_int (pa_cons pe_int pa_nil))))))))
      (pss_cons (ps_set (i := 4) nd rfl (Or.inl rfl) (pe_op op_add pe_int (pe_callS G_l_pick (hr.mono (by decide)) (by rfl) T.g_l_pick T.F_l_pick.kp T.d_l_pick (fun σ => passAt (takes_of rfl rfl rfl rfl) σ) (pa_cons (pv 0) (pa_cons pe_int (pa_cons (pv 1) pa_nil))))))
      (pss_cons (ps_set (i := 5) nd rfl (Or.inl rfl) (pe_lst pa_nil))
      (pss_cons (ps_set (i := 6) nd rfl (Or.inl rfl) (pe_lst pa_nil))
      (pss_cons (ps_for (passes_of rfl) rfl (pi_range1 (by rfl) T.b_range (pa_cons (pv 4) pa_nil)) (pg_name (i := 7) nd rfl (Or.inl rfl))
        (pss_cons (ps_set (i := 8) nd rfl (Or.inl rfl) (pe_ix (ix_lK K) (pv 3) (pe_callS G_l_pick (hr.mono (by decide)) (by rfl) T.g_l_pick T.F_l_pick.kp T.d_l_pick (fun σ => passAt (takes_of rfl rfl rfl rfl) σ) (pa_cons (pv 0) (pa_cons (pe_op op_add pe_int (pe_op op_mul pe_int (pv 7))) (pa_cons pe_int pa_nil)))) (fun _ _ => rfl)))
      (pss_cons (ps_set (i := 9) nd rfl (Or.inl rfl) (pe_callS G_l_pick (hr.mono (by decide)) (by rfl) T.g_l_pick T.F_l_pick.kp T.d_l_pick (fun σ => passAt (takes_of rfl rfl rfl rfl) σ) (pa_cons (pv 0) (pa_cons (pe_op op_add pe_int (pe_op op_mul pe_int (pv 7))) (pa_cons (pv 8) pa_nil)))))
      (pss_cons (ps_expr (bm_K K PySem.F.plainAttrs_list PySem.F.slot_list_append PySem.F.type_list_append mt_append (pv 5) (pa_cons (pv 8) pa_nil)))
      (pss_one (ps_expr (bm_K K PySem.F.plainAttrs_list PySem.F.slot_list_append PySem.F.type_list_append mt_append (pv 6) (pa_cons (pe_tup (pa_cons (pv 9) (pa_cons (pe_op op_mod (pe_callTy call_int1 (by rfl) T.b_int (by decide +kernel) (pa_cons (pe_op op_add (pe_op op_add (pv 9) pe_int) (pe_callS G_l_pick (hr.mono (by decide)) (by rfl) T.g_l_pick T.F_l_pick.kp T.d_l_pick (fun σ => passAt (takes_of rfl rfl rfl rfl) σ) (pa_cons (pv 0) (pa_cons (pe_op op_add pe_int (pe_op op_mul pe_int (pv 7))) (pa_cons (pe_op op_sub (pv 8) pe_int) pa_nil))))) pa_nil)) (pv 8)) pa_nil))) pa_nil))))))))
      (pss_cons (ps_set (i := 10) nd rfl (Or.inl rfl) (pe_lst pa_nil))
      (pss_cons (ps_set (i := 11) nd rfl (Or.inl rfl) (pe_lst pa_nil))
      (pss_cons (ps_for (passes_of rfl) rfl (pi_range1 (by rfl) T.b_range (pa_cons (pe_callS G_l_pick (hr.mono (by decide)) (by rfl) T.g_l_pick T.F_l_pick.kp T.d_l_pick (fun σ => passAt (takes_of rfl rfl rfl rfl) σ) (pa_cons (pv 0) (pa_cons pe_int (pa_cons (pe_op op_add (pv 2) pe_int) pa_nil)))) pa_nil)) (pg_name (i := 7) nd rfl (Or.inl rfl))
        (pss_cons (ps_set (i := 12) nd rfl (Or.inl rfl) (pe_op op_add (pe_op op_add pe_int (pe_op op_mul pe_int (pv 4))) (pe_op op_mul pe_int (pv 7))))
      (pss_cons (ps_set (i := 13) nd rfl (Or.inl rfl) (pe_callS G_l_pick (hr.mono (by decide)) (by rfl) T.g_l_pick T.F_l_pick.kp T.d_l_pick (fun σ => passAt (takes_of rfl rfl rfl rfl) σ) (pa_cons (pv 0) (pa_cons (pv 12) (pa_cons (pv 4) pa_nil)))))
      (pss_cons (ps_set (i := 14) nd rfl (Or.inl rfl) (pe_callS G_l_pick (hr.mono (by decide)) (by rfl) T.g_l_pick T.F_l_pick.kp T.d_l_pick (fun σ => passAt (takes_of rfl rfl rfl rfl) σ) (pa_cons (pv 0) (pa_cons (pe_op op_add (pv 12) pe_int) (pa_cons (pv 4) pa_nil)))))
      (pss_one (ps_if (pt_cmpR op_eq (pe_callS G_l_pick (hr.mono (by decide)) (by rfl) T.g_l_pick T.F_l_pick.kp T.d_l_pick (fun σ => passAt (takes_of rfl rfl rfl rfl) σ) (pa_cons (pv 0) (pa_cons (pe_op op_add (pv 12) pe_int) (pa_cons pe_int pa_nil)))) pe_int (nomark _))
        (pss_cons (ps_expr (bm_K K PySem.F.plainAttrs_list PySem.F.slot_list_append PySem.F.type_list_append mt_append (pv 10) (pa_cons (pe_tup (pa_cons (pv 13) (pa_cons (pe_ix (ix_tK K) (pe_ix (ix_lK K) (pv 6) (pv 13) (fun _ _ => rfl)) pe_int (fun _ _ => rfl)) (pa_cons (pv 14) (pa_cons (pe_ix (ix_tK K) (pe_ix (ix_lK K) (pv 6) (pv 14) (fun _ _ => rfl)) pe_int (fun _ _ => rfl)) pa_nil))))) pa_nil)))
      (pss_one (ps_expr (bm_K K PySem.F.plainAttrs_list PySem.F.slot_list_append PySem.F.type_list_append mt_append (pv 11) (pa_cons pe_int pa_nil)))))
        (pss_cons (ps_expr (bm_K K PySem.F.plainAttrs_list PySem.F.slot_list_append PySem.F.type_list_append mt_append (pv 10) (pa_cons (pe_tup (pa_cons (pv 14) (pa_cons (pe_ix (ix_tK K) (pe_ix (ix_lK K) (pv 6) (pv 14) (fun _ _ => rfl)) pe_int (fun _ _ => rfl)) (pa_cons (pv 13) (pa_cons (pe_ix (ix_tK K) (pe_ix (ix_lK K) (pv 6) (pv 13) (fun _ _ => rfl)) pe_int (fun _ _ => rfl)) pa_nil))))) pa_nil)))
      (pss_one (ps_expr (bm_K K PySem.F.plainAttrs_list PySem.F.slot_list_append PySem.F.type_list_append mt_append (pv 11) (pa_cons pe_int pa_nil)))))))))))
      (pss_one (ps_ret (pe_tup (pa_cons (pv 5) (pa_cons (pv 10) (pa_cons (pv 11) pa_nil)))))))))))))), ?_⟩
  try dsimp only [cxOf]
  obtain ⟨draws_here, most_places, most_ties, nb, h⟩ := h
  refine Zm.body (js := [0, 1, 2, 3, 4, 5, 6, 7, 8, 9, 10, 11, 12, 13, 14]) (m := l_faced_m draws_here most_places most_ties) nb h ?_
  refine zm_to (Γ2 := [(.val (dList (d := dInt)) draws_here), (.val dInt most_places), (.val dInt most_ties), .no, .no, .no, .no, .no, .no, .no, .no, .no, .no, .no, .no]) rfl ?_
  delta l_faced_m
  refine zm_set (i := 3) rfl (by decide) (we_eq (we_o (oe_lstN (wle_cons we_int (wle_cons we_int (wle_cons we_int (wle_cons we_int (wle_cons we_int (wle_cons we_int wle_nil)))))) (asLenS (asLenS (asLenS (asLenS (asLenS (asLenS asLen0)))))) (by decide))) rfl) fun menu_1 => ?_
  refine zm_set (i := 4) rfl (by decide) (we_eq (we_add (re_w we_int) (re_w (we_call3 hs_l_pick rfl (we_var rfl) we_int (we_var rfl)))) rfl) fun many_3 => ?_
  refine zm_setO (i := 5) rfl (by decide) (oe_eq (oe_lst0 (d := dInt)) rfl) fun sides_4 => ?_
  refine zm_setO (i := 6) rfl (by decide) (oe_eq (oe_lst0 (d := (dPair (d1 := dInt) (d2 := dInt)))) rfl) fun gates_5 => ?_
  refine zm_for [7, 8, 9] (fun s6 => [(.val (dList (d := dInt)) draws_here), (.val dInt most_places), (.val dInt most_ties), (.val (dList (d := dInt)) menu_1), (.val dInt many_3), (.own (dList (d := dInt)) (oList (d := dInt)) none s6.1), (.own (dList (d := (dPair (d1 := dInt) (d2 := dInt)))) (oList (d := (dPair (d1 := dInt) (d2 := dInt)))) none s6.2), .no, .no, .no, .no, .no, .no, .no, .no]) (sides_4, gates_5) (wlen 15 (by exact rfl) (by exact rfl) (by decide)) rfl (fun _ => (wlen 15 (by exact rfl) (by exact rfl) (by decide))) (ie_eq (ie_range (re_w (we_var rfl))) rfl) (fun s6 x7 => (a_name rfl ⟨(wlen 15 (by exact rfl) (by exact rfl) (by decide)), ?_⟩)) fun s16 => ?_
  · refine zm_set (i := 8) rfl (by decide) (we_eq (we_ix (we_var rfl) (re_w (we_call3 hs_l_pick rfl (we_var rfl) (we_add (re_w we_int) (re_w (we_mulCl (re_w we_int) (re_w (we_var rfl))))) we_int))) rfl) fun count_9 => ?_
    refine zm_set (i := 9) rfl (by decide) (we_eq (we_call3 hs_l_pick rfl (we_var rfl) (we_add (re_w we_int) (re_w (we_mulCl (re_w we_int) (re_w (we_var rfl))))) (we_var rfl)) rfl) fun out_10 => ?_
    refine zm_append (i := 5) rfl (by decide) (we_eq (we_var rfl) rfl) fun sides_11 => ?_
    refine zm_last ?_
    refine zm_append (i := 6) rfl (by decide) (we_eq (we_tup2 (we_var rfl) (we_mod (re_w (we_int1 (re_w (we_add (re_w (we_add (re_w (we_var rfl)) (re_w we_int))) (re_w (we_call3 hs_l_pick rfl (we_var rfl) (we_add (re_w we_int) (re_w (we_mulCl (re_w we_int) (re_w (we_var rfl))))) (we_sub (re_w (we_var rfl)) (re_w we_int)))))))) (re_w (we_var rfl)))) rfl) fun gates_15 => ?_
    exact zm_nextL rfl
  · refine zm_setO (i := 10) rfl (by decide) (oe_eq (oe_lst0 (d := (dT4 (d1 := dInt) (d2 := dInt) (d3 := dInt) (d4 := dInt)))) rfl) fun ties_17 => ?_
    refine zm_setO (i := 11) rfl (by decide) (oe_eq (oe_lst0 (d := dInt)) rfl) fun directions_18 => ?_
    refine zm_for [7, 12, 13, 14] (fun s19 => [(.val (dList (d := dInt)) draws_here), (.val dInt most_places), (.val dInt most_ties), (.val (dList (d := dInt)) menu_1), (.val dInt many_3), (.own (dList (d := dInt)) (oList (d := dInt)) none s16.1), (.own (dList (d := (dPair (d1 := dInt) (d2 := dInt)))) (oList (d := (dPair (d1 := dInt) (d2 := dInt)))) none s16.2), .no, .no, .no, (.own (dList (d := (dT4 (d1 := dInt) (d2 := dInt) (d3 := dInt) (d4 := dInt)))) (oList (d := (dT4 (d1 := dInt) (d2 := dInt) (d3 := dInt) (d4 := dInt)))) none s19.1), (.own (dList (d := dInt)) (oList (d := dInt)) none s19.2), .no, .no, .no]) (ties_17, directions_18) (wlen 15 (by exact rfl) (by exact rfl) (by decide)) rfl (fun _ => (wlen 15 (by exact rfl) (by exact rfl) (by decide))) (ie_eq (ie_range (re_w (we_call3 hs_l_pick rfl (we_var rfl) we_int (we_add (re_w (we_var rfl)) (re_w we_int))))) rfl) (fun s19 x21 => (a_name rfl ⟨(wlen 15 (by exact rfl) (by exact rfl) (by decide)), ?_⟩)) fun s39 => ?_
    · refine zm_set (i := 12) rfl (by decide) (we_eq (we_add (re_w (we_add (re_w we_int) (re_w (we_mulCl (re_w we_int) (re_w (we_var rfl)))))) (re_w (we_mulCl (re_w we_int) (re_w (we_var rfl))))) rfl) fun at__22 => ?_
      refine zm_set (i := 13) rfl (by decide) (we_eq (we_call3 hs_l_pick rfl (we_var rfl) (we_var rfl) (we_var rfl)) rfl) fun one_23 => ?_
      refine zm_set (i := 14) rfl (by decide) (we_eq (we_call3 hs_l_pick rfl (we_var rfl) (we_add (re_w (we_var rfl)) (re_w we_int)) (we_var rfl)) rfl) fun other_24 => ?_
      refine zm_last ?_
      refine zm_if (te_eq (te_test (we_eqS (re_w (we_call3 hs_l_pick rfl (we_var rfl) (we_add (re_w (we_var rfl)) (re_w we_int)) we_int)) (re_w we_int))) rfl) ?_ ?_
      · refine zm_assoc ?_
        refine zm_append (i := 10) rfl (by decide) (we_eq (we_tup4 (we_var rfl) (we_fst (we_ixO rfl (re_w (we_var rfl)))) (we_var rfl) (we_snd (we_ixO rfl (re_w (we_var rfl))))) rfl) fun ties_30 => ?_
        refine zm_append (i := 11) rfl (by decide) (we_eq we_int rfl) fun directions_31 => ?_
        exact zm_nextL rfl
      · refine zm_assoc ?_
        refine zm_append (i := 10) rfl (by decide) (we_eq (we_tup4 (we_var rfl) (we_snd (we_ixO rfl (re_w (we_var rfl)))) (we_var rfl) (we_fst (we_ixO rfl (re_w (we_var rfl))))) rfl) fun ties_36 => ?_
        refine zm_append (i := 11) rfl (by decide) (we_eq we_int rfl) fun directions_37 => ?_
        exact zm_nextL rfl
    · refine zm_last ?_
      exact zm_retT3V (i := 5) (j := 10) (m := 11) rfl rfl rfl rfl rfl rfl
end K10

namespace K10
open PySem L2 G PM
set_option maxHeartbeats 4000000 in
theorem ok_l_lane {P : Program} {w : World} {K : PySem.W.Frag} {mg : Str → Option Value} {base : Heap} (T : Txt K mg) (G_l_pick : FnOk P w K mg base (L2.CX P w) 1 T.a_l_pick T.f_l_pick ["_law_draws_here", "_law_k", "_law_many"] (sp_l_pick ⟨P, w, K⟩ T.A)) : FnOk P w K mg base (L2.CX P w) 2 T.a_l_lane T.f_l_lane ["_law_draws_here"] (sp_l_lane ⟨P, w, K⟩ T.A) := by
  have nd := sc_l_lane.nd
  refine T.F_l_lane.okX sc_l_lane (fun vs H Q E h => ?_) (fun cdv A outer s H vs Q E hr h => ?_)
  · exact sp_l_lane_len h
  have hu := hu_of hr
  refine ⟨_, (pss_cons (ps_set (i := 1) nd rfl (Or.inl rfl) (pe_op op_add pe_int (pe_callS G_l_pick (hr.mono (by decide)) (by rfl) T.g_l_pick T.F_l_pick.kp T.d_l_pick (fun σ => passAt (takes_of rfl rfl rfl rfl) σ) (pa_cons (pv 0) (pa_cons pe_int (pa_cons pe_int pa_nil))))))
      (pss_cons (ps_set (i := 2) nd rfl (Or.inl rfl) (pe_lst pa_nil))
      (pss_cons (ps_for (passes_of rfl) rfl (pi_range1 (by rfl) T.b_range (pa_cons (pv 1) pa_nil)) (pg_name (i := 3) nd rfl (Or.inl rfl))
        (pss_cons (ps_set (i := 4) nd rfl (Or.inl rfl) (pe_op op_add (pv 3) pe_int))
      (pss_cons (ps_if (pt_cmpR op_eq (pv 4) (pv 1) (nomark _))
        (pss_one (ps_set (i := 4) nd rfl (Or.inl rfl) (pe_callS G_l_pick (hr.mono (by decide)) (by rfl) T.g_l_pick T.F_l_pick.kp T.d_l_pick (fun σ => passAt (takes_of rfl rfl rfl rfl) σ) (pa_cons (pv 0) (pa_cons pe_int (pa_cons (pv 1) pa_nil))))))
        pss_nil)
      (pss_one (ps_for (passes_of rfl) rfl (pi_range1 (by rfl) T.b_range (pa_cons (pe_op op_add pe_int (pe_callS G_l_pick (hr.mono (by decide)) (by rfl) T.g_l_pick T.F_l_pick.kp T.d_l_pick (fun σ => passAt (takes_of rfl rfl rfl rfl) σ) (pa_cons (pv 0) (pa_cons (pe_op op_add pe_int (pv 3)) (pa_cons pe_int pa_nil))))) pa_nil)) (pg_name (i := 5) nd rfl (Or.inl rfl))
        (pss_cons (ps_set (i := 6) nd rfl (Or.inl rfl) (pe_callS G_l_pick (hr.mono (by decide)) (by rfl) T.g_l_pick T.F_l_pick.kp T.d_l_pick (fun σ => passAt (takes_of rfl rfl rfl rfl) σ) (pa_cons (pv 0) (pa_cons (pe_op op_add (pe_op op_add pe_int (pe_op op_mul pe_int (pv 3))) (pv 5)) (pa_cons (pe_op op_add (pe_callB (len_K K) (by rfl) T.b_len (by decide +kernel) (pa_cons (pv 2) pa_nil)) pe_int) pa_nil)))))
      (pss_one (ps_if (pt_cmpR op_eq (pe_callS G_l_pick (hr.mono (by decide)) (by rfl) T.g_l_pick T.F_l_pick.kp T.d_l_pick (fun σ => passAt (takes_of rfl rfl rfl rfl) σ) (pa_cons (pv 0) (pa_cons (pe_op op_add (pe_op op_add pe_int (pv 3)) (pe_op op_mul pe_int (pv 5))) (pa_cons pe_int pa_nil)))) pe_int (nomark _))
        (pss_one (ps_expr (bm_K K PySem.F.plainAttrs_list PySem.F.slot_list_insert PySem.F.type_list_insert mt_insert (pv 2) (pa_cons (pv 6) (pa_cons (pe_tup (pa_cons (pv 3) (pa_cons pe_int (pa_cons (pv 4) (pa_cons pe_int pa_nil))))) pa_nil)))))
        (pss_one (ps_expr (bm_K K PySem.F.plainAttrs_list PySem.F.slot_list_insert PySem.F.type_list_insert mt_insert (pv 2) (pa_cons (pv 6) (pa_cons (pe_tup (pa_cons (pv 4) (pa_cons pe_int (pa_cons (pv 3) (pa_cons pe_int pa_nil))))) pa_nil)))))))))))))
      (pss_one (ps_ret (pe_tup (pa_cons (pe_lc (own := [("_law_k", 3)]) (by rfl) nd (pi_range1 (by rfl) T.b_range (pa_cons (pv 1) pa_nil)) (blkOk_by (own := [("_law_k", 3)]) (N := N_l_lane) (sc := defScope s_l_lane) (by decide +kernel)) (fun _ _ _ _ _ => (pg_name (i := 3) nd rfl (Or.inl rfl))) (fun _ _ _ _ _ => pts_nil) (fun _ _ _ _ _ => pe_int)) (pa_cons (pv 2) pa_nil)))))))), ?_⟩
  try dsimp only [cxOf]
  obtain ⟨draws_here, nb, h⟩ := h
  refine Zm.body (js := [0, 1, 2, 3, 4, 5, 6]) (m := l_lane_m draws_here) nb h ?_
  refine zm_to (Γ2 := [(.val (dList (d := dInt)) draws_here), .no, .no, .no, .no, .no, .no]) rfl ?_
  delta l_lane_m
  refine zm_set (i := 1) rfl (by decide) (we_eq (we_add (re_w we_int) (re_w (we_call3 hs_l_pick rfl (we_var rfl) we_int we_int))) rfl) fun many_2 => ?_
  refine zm_setO (i := 2) rfl (by decide) (oe_eq (oe_lst0 (d := (dT4 (d1 := dInt) (d2 := dInt) (d3 := dInt) (d4 := dInt)))) rfl) fun ties_3 => ?_
  refine zm_for [3, 4, 5, 6] (fun s4 => [(.val (dList (d := dInt)) draws_here), (.val dInt many_2), (.own (dList (d := (dT4 (d1 := dInt) (d2 := dInt) (d3 := dInt) (d4 := dInt)))) (oList (d := (dT4 (d1 := dInt) (d2 := dInt) (d3 := dInt) (d4 := dInt)))) none s4), .no, .no, .no, .no]) ties_3 (wlen 7 (by exact rfl) (by exact rfl) (by decide)) rfl (fun _ => (wlen 7 (by exact rfl) (by exact rfl) (by decide))) (ie_eq (ie_range (re_w (we_var rfl))) rfl) (fun s4 x5 => (a_name rfl ⟨(wlen 7 (by exact rfl) (by exact rfl) (by decide)), ?_⟩)) fun s20 => ?_
  · refine zm_set (i := 4) rfl (by decide) (we_eq (we_add (re_w (we_var rfl)) (re_w we_int)) rfl) fun far_here_6 => ?_
    refine zm_join [] (fun s8 => [(.val (dList (d := dInt)) draws_here), (.val dInt many_2), (.own (dList (d := (dT4 (d1 := dInt) (d2 := dInt) (d3 := dInt) (d4 := dInt)))) (oList (d := (dT4 (d1 := dInt) (d2 := dInt) (d3 := dInt) (d4 := dInt)))) none s4), (.val dInt x5), (.val dInt s8), .no, .no]) (fun _ => (wlen 7 (by exact rfl) (by exact rfl) (by decide))) ?_ fun s8 => ?_
    · refine zm_last (zm_ifP (te_eq (te_test (we_eqS (re_w (we_var rfl)) (re_w (we_var rfl)))) rfl) ?_ ?_)
      · refine zm_set (i := 4) rfl (by decide) (we_eq (we_call3 hs_l_pick rfl (we_var rfl) we_int (we_var rfl)) rfl) fun far_here_7 => ?_
        exact zm_nextJ rfl
      · refine zm_skip ?_
        exact zm_nextJ rfl
    · refine zm_last ?_
      refine zm_for [5, 6] (fun s9 => [(.val (dList (d := dInt)) draws_here), (.val dInt many_2), (.own (dList (d := (dT4 (d1 := dInt) (d2 := dInt) (d3 := dInt) (d4 := dInt)))) (oList (d := (dT4 (d1 := dInt) (d2 := dInt) (d3 := dInt) (d4 := dInt)))) none s9), (.val dInt x5), (.val dInt s8), .no, .no]) s4 (wlen 7 (by exact rfl) (by exact rfl) (by decide)) rfl (fun _ => (wlen 7 (by exact rfl) (by exact rfl) (by decide))) (ie_eq (ie_range (re_w (we_add (re_w we_int) (re_w (we_call3 hs_l_pick rfl (we_var rfl) (we_add (re_w we_int) (re_w (we_var rfl))) we_int))))) rfl) (fun s9 x12 => (a_name rfl ⟨(wlen 7 (by exact rfl) (by exact rfl) (by decide)), ?_⟩)) fun s18 => ?_
      · refine zm_set (i := 6) rfl (by decide) (we_eq (we_call3 hs_l_pick rfl (we_var rfl) (we_add (re_w (we_add (re_w we_int) (re_w (we_mulCl (re_w we_int) (re_w (we_var rfl)))))) (re_w (we_var rfl))) (we_add (re_w (we_len (re_varO rfl))) (re_w we_int))) rfl) fun at__13 => ?_
        refine zm_last ?_
        refine zm_if (te_eq (te_test (we_eqS (re_w (we_call3 hs_l_pick rfl (we_var rfl) (we_add (re_w (we_add (re_w we_int) (re_w (we_var rfl)))) (re_w (we_mulCl (re_w we_int) (re_w (we_var rfl))))) we_int)) (re_w we_int))) rfl) ?_ ?_
        · refine zm_insert (i := 2) rfl (by decide) (re_eq (re_w (we_var rfl)) rfl) (we_eq (we_tup4 (we_var rfl) we_int (we_var rfl) we_int) rfl) fun ties_15 => ?_
          exact zm_nextL rfl
        · refine zm_insert (i := 2) rfl (by decide) (re_eq (re_w (we_var rfl)) rfl) (we_eq (we_tup4 (we_var rfl) we_int (we_var rfl) we_int) rfl) fun ties_16 => ?_
          exact zm_nextL rfl
      · exact zm_nextL rfl
  · refine zm_last ?_
    refine zm_frz 2 rfl (by decide) ?_
    exact zm_ret (we_eq (we_tup2 (we_o (oe_lc (tg_name' (by decide)) (ic_range (re_w (we_var rfl))) fun x23 => (a_name rfl ⟨te_yes, we_int⟩))) (we_var rfl)) rfl)
end K10

namespace K10
open PySem L2 G PM
set_option maxHeartbeats 4000000 in
theorem ok_p_check_end {P : Program} {w : World} {K : PySem.W.Frag} {mg : Str → Option Value} {base : Heap} (T : Txt K mg) (G_x_UnknownPlace : FnOk P w K mg base (L2.CX P w) 1 T.i_UnknownPlace T.fx_UnknownPlace ["self", "place"] (spX1 (T.A.tx .UnknownPlace) "place")) (G_x_UnknownSide : FnOk P w K mg base (L2.CX P w) 1 T.i_UnknownSide T.fx_UnknownSide ["self", "place", "side"] (spX2 (T.A.tx .UnknownSide) "place" "side")) : FnOk P w K mg base (L2.CX P w) 3 T.a_p_check_end T.f_p_check_end ["sides", "place", "side"] (sp_p_check_end ⟨P, w, K⟩ T.A) := by
  have nd := sc_p_check_end.nd
  refine T.F_p_check_end.okX sc_p_check_end (fun vs H Q E h => ?_) (fun cdv A outer s H vs Q E hr h => ?_)
  · exact sp_p_check_end_len h
  have hu := hu_of hr
  refine ⟨_, (pss_cons (ps_if (PW.pt (pw_or (pt_cmpR op_lt (pv 1) pe_int (nomark _)) (pw_or1 (pt_cmpR op_ge (pv 1) (pe_callB (len_K K) (by rfl) T.b_len (by decide +kernel) (pa_cons (pv 0) pa_nil)) (nomark _)))))
        (pss_one (ps_raise rfl (takes_of rfl rfl rfl rfl) (pmk_oex T.x_UnknownPlace.T T.x_UnknownPlace.init T.x_UnknownPlace.fn G_x_UnknownPlace (hr.mono (by decide)) T.dx_UnknownPlace .nil passF (by rfl) T.g_UnknownPlace (pa_cons (pv 1) pa_nil))))
        pss_nil)
      (pss_one (ps_if (PW.pt (pw_or (pt_cmpR op_lt (pv 2) pe_int (nomark _)) (pw_or1 (pt_cmpR op_ge (pv 2) (pe_ix (ix_lK K) (pv 0) (pv 1) (fun _ _ => rfl)) (nomark _)))))
        (pss_one (ps_raise rfl (takes_of rfl rfl rfl rfl) (pmk_oex T.x_UnknownSide.T T.x_UnknownSide.init T.x_UnknownSide.fn G_x_UnknownSide (hr.mono (by decide)) T.dx_UnknownSide .nil passF (by rfl) T.g_UnknownSide (pa_cons (pv 1) (pa_cons (pv 2) pa_nil)))))
        pss_nil))), ?_⟩
  try dsimp only [cxOf]
  obtain ⟨sides, place, side, nb, h⟩ := h
  refine Zm.body (js := [0, 1, 2]) (m := p_check_end_m sides place side) nb h ?_
  refine zm_to (Γ2 := [(.val (dList (d := dInt)) sides), (.val dInt place), (.val dInt side)]) rfl ?_
  delta p_check_end_m
  refine zm_ifP (te_eq (te_orP (te_test (we_lt (re_w (we_var rfl)) (re_w we_int))) (te_test (we_ge (re_w (we_var rfl)) (re_w (we_len (re_w (we_var rfl))))))) rfl) ?_ ?_
  · exact zm_raise1 rfl rfl (re_eq (re_w (we_var rfl)) rfl)
  · refine zm_skip ?_
    refine zm_last ?_
    refine zm_if (te_eq (te_or (te_test (we_lt (re_w (we_var rfl)) (re_w we_int))) (te_test (we_ge (re_w (we_var rfl)) (re_w (we_ix (we_var rfl) (re_w (we_var rfl))))))) rfl) ?_ ?_
    · exact zm_raise2 rfl rfl (re_eq (re_w (we_var rfl)) rfl) (re_eq (re_w (we_var rfl)) rfl)
    · refine zm_skip ?_
      exact zm_end
end K10

namespace K10
open PySem L2 G PM
set_option maxHeartbeats 4000000 in
theorem ok_m_WebX_initX {P : Program} {w : World} {K : PySem.W.Frag} {mg : Str → Option Value} {base : Heap} (T : Txt K mg) (G_p_check_end : FnOk P w K mg base (L2.CX P w) 3 T.a_p_check_end T.f_p_check_end ["sides", "place", "side"] (sp_p_check_end ⟨P, w, K⟩ T.A)) (G_x_BadSides : FnOk P w K mg base (L2.CX P w) 1 T.i_BadSides T.fx_BadSides ["self", "place"] (spX1 (T.A.tx .BadSides) "place")) (G_x_TooLarge : FnOk P w K mg base (L2.CX P w) 1 T.i_TooLarge T.fx_TooLarge ["self", "limit"] (spX1 (T.A.tx .TooLarge) "limit")) : FnOk P w K mg base (L2.CX P w) 4 T.a_m_WebX_initX T.f_m_WebX_initX ["self", "sides", "ties"] (sp_m_WebX_initX ⟨P, w, K⟩ T.A) := by
  have nd := sc_m_WebX_initX.nd
  refine T.F_m_WebX_initX.okX sc_m_WebX_initX (fun vs H Q E h => ?_) (fun cdv A outer s H vs Q E hr h => ?_)
  · exact sp_m_WebX_initX_len h
  have hu := hu_of hr
  refine ⟨_, (pss_cons (ps_if (pt_cmpR op_gt (pe_callB (len_K K) (by rfl) T.b_len (by decide +kernel) (pa_cons (pv 1) pa_nil)) (con_K K (pv 0) rfl) (nomark _))
        (pss_one (ps_raise rfl (takes_of rfl rfl rfl rfl) (pmk_oex T.x_TooLarge.T T.x_TooLarge.init T.x_TooLarge.fn G_x_TooLarge (hr.mono (by decide)) T.dx_TooLarge .nil passF (by rfl) T.g_TooLarge (pa_cons (con_K K (pv 0) rfl) pa_nil))))
        pss_nil)
      (pss_cons (ps_if (pt_cmpR op_gt (pe_callB (len_K K) (by rfl) T.b_len (by decide +kernel) (pa_cons (pv 2) pa_nil)) (con_K K (pv 0) rfl) (nomark _))
        (pss_one (ps_raise rfl (takes_of rfl rfl rfl rfl) (pmk_oex T.x_TooLarge.T T.x_TooLarge.init T.x_TooLarge.fn G_x_TooLarge (hr.mono (by decide)) T.dx_TooLarge .nil passF (by rfl) T.g_TooLarge (pa_cons (con_K K (pv 0) rfl) pa_nil))))
        pss_nil)
      (pss_cons (ps_for (passes_of rfl) rfl (pi_enum (by rfl) T.b_enumerate (pa_cons (pv 1) pa_nil)) (pg_tupK (n := 2) K (by rfl) (pgs_cons (pg_name (i := 3) nd rfl (Or.inl rfl)) (pgs_cons (pg_name (i := 4) nd rfl (Or.inl rfl)) pgs_nil)))
        (pss_one (ps_if (PW.pt (pw_or (pt_cmpR op_lt (pv 4) pe_int (nomark _)) (pw_or1 (pt_cmpR op_gt (pv 4) (con_K K (pv 0) rfl) (nomark _)))))
        (pss_one (ps_raise rfl (takes_of rfl rfl rfl rfl) (pmk_oex T.x_BadSides.T T.x_BadSides.init T.x_BadSides.fn G_x_BadSides (hr.mono (by decide)) T.dx_BadSides .nil passF (by rfl) T.g_BadSides (pa_cons (pv 3) pa_nil))))
        pss_nil)))
      (pss_cons (ps_for (passes_of rfl) rfl (pi_lK K (pv 2)) (pg_tupK (n := 4) K (by rfl) (pgs_cons (pg_name (i := 5) nd rfl (Or.inl rfl)) (pgs_cons (pg_name (i := 6) nd rfl (Or.inl rfl)) (pgs_cons (pg_name (i := 7) nd rfl (Or.inl rfl)) (pgs_cons (pg_name (i := 8) nd rfl (Or.inl rfl)) pgs_nil)))))
        (pss_cons (ps_expr (pe_callS G_p_check_end (hr.mono (by decide)) (by rfl) T.g_p_check_end T.F_p_check_end.kp T.d_p_check_end (fun σ => passAt (takes_of rfl rfl rfl rfl) σ) (pa_cons (pv 1) (pa_cons (pv 5) (pa_cons (pv 6) pa_nil)))))
      (pss_one (ps_expr (pe_callS G_p_check_end (hr.mono (by decide)) (by rfl) T.g_p_check_end T.F_p_check_end.kp T.d_p_check_end (fun σ => passAt (takes_of rfl rfl rfl rfl) σ) (pa_cons (pv 1) (pa_cons (pv 7) (pa_cons (pv 8) pa_nil))))))))
      (pss_cons (ps_fld (pv 0) (pe_callTy (tuple_K K) (by rfl) T.b_tuple (by decide +kernel) (pa_cons (pv 1) pa_nil)) rfl)
      (pss_one (ps_fld (pv 0) (pe_callTy (tuple_K K) (by rfl) T.b_tuple (by decide +kernel) (pa_cons (pe_lc (own := [("one", 5), ("side", 6), ("other", 7), ("far_side", 8)]) (by rfl) nd (pi_lB K (pv 2)) (blkOk_by (own := [("one", 5), ("side", 6), ("other", 7), ("far_side", 8)]) (N := N_m_WebX_initX) (sc := defScope s_m_WebX_initX) (by decide +kernel)) (fun _ _ _ _ _ => (pg_tupK (n := 4) K (by rfl) (pgs_cons (pg_name (i := 5) nd rfl (Or.inl rfl)) (pgs_cons (pg_name (i := 6) nd rfl (Or.inl rfl)) (pgs_cons (pg_name (i := 7) nd rfl (Or.inl rfl)) (pgs_cons (pg_name (i := 8) nd rfl (Or.inl rfl)) pgs_nil)))))) (fun _ _ _ _ _ => pts_nil) (fun _ _ _ _ _ => (pe_tup (pa_cons (pv 5) (pa_cons (pv 6) (pa_cons (pv 7) (pa_cons (pv 8) pa_nil))))))) pa_nil)) rfl))))))), ?_⟩
  try dsimp only [cxOf]
  obtain ⟨sides, ties, nb, h⟩ := h
  refine Zm.bodyI (js := [0, 1, 2, 3, 4, 5, 6, 7, 8]) (m := m_WebX_initX_m sides ties) nb h fun pp => ?_
  generalize (⟨()⟩ : Ob0) = x0
  refine zm_to (Γ2 := [(.own (dOb0 (T.A.ob .Web)) (oOb0 (T.A.ob .Web)) (some (.ref pp)) x0), (.val (dList (d := dInt)) sides), (.val (dList (d := (dT4 (d1 := dInt) (d2 := dInt) (d3 := dInt) (d4 := dInt)))) ties), .no, .no, .no, .no, .no, .no]) rfl ?_
  delta m_WebX_initX_m
  refine zm_ifP (te_eq (te_test (we_gt (re_w (we_len (re_w (we_var rfl)))) (re_w (we_con isI0 T.c_Web T.k_Web_MOST_PLACES (by decide) (re_varO rfl))))) rfl) ?_ ?_
  · exact zm_raise1 rfl rfl (re_eq (re_w (we_con isI0 T.c_Web T.k_Web_MOST_PLACES (by decide) (re_varO rfl))) rfl)
  · refine zm_skip ?_
    refine zm_ifP (te_eq (te_test (we_gt (re_w (we_len (re_w (we_var rfl)))) (re_w (we_con isI0 T.c_Web T.k_Web_MOST_TIES (by decide) (re_varO rfl))))) rfl) ?_ ?_
    · exact zm_raise1 rfl rfl (re_eq (re_w (we_con isI0 T.c_Web T.k_Web_MOST_TIES (by decide) (re_varO rfl))) rfl)
    · refine zm_skip ?_
      refine zm_for [3, 4] (fun (_ : Unit) => [(.own (dOb0 (T.A.ob .Web)) (oOb0 (T.A.ob .Web)) (some (.ref pp)) x0), (.val (dList (d := dInt)) sides), (.val (dList (d := (dT4 (d1 := dInt) (d2 := dInt) (d3 := dInt) (d4 := dInt)))) ties), .no, .no, .no, .no, .no, .no]) () (wlen 9 (by exact rfl) (by exact rfl) (by decide)) rfl (fun _ => (wlen 9 (by exact rfl) (by exact rfl) (by decide))) (ie_eq (ie_enum (we_var rfl)) rfl) (fun _ x2 => (a_pair rfl (a_name rfl (a_name rfl ⟨(wlen 9 (by exact rfl) (by exact rfl) (by decide)), ?_⟩)))) fun _ => ?_
      · refine zm_last ?_
        refine zm_ifP (te_eq (te_orP (te_test (we_lt (re_w (we_var rfl)) (re_w we_int))) (te_test (we_gt (re_w (we_var rfl)) (re_w (we_con isI0 T.c_Web T.k_Web_MOST_SIDES (by decide) (re_varO rfl)))))) rfl) ?_ ?_
        · exact zm_raise1 rfl rfl (re_eq (re_w (we_var rfl)) rfl)
        · refine zm_skip ?_
          exact zm_nextL rfl
      · refine zm_for [5, 6, 7, 8] (fun (_ : Unit) => [(.own (dOb0 (T.A.ob .Web)) (oOb0 (T.A.ob .Web)) (some (.ref pp)) x0), (.val (dList (d := dInt)) sides), (.val (dList (d := (dT4 (d1 := dInt) (d2 := dInt) (d3 := dInt) (d4 := dInt)))) ties), .no, .no, .no, .no, .no, .no]) () (wlen 9 (by exact rfl) (by exact rfl) (by decide)) rfl (fun _ => (wlen 9 (by exact rfl) (by exact rfl) (by decide))) (ie_eq (ie_list (we_var rfl)) rfl) (fun _ x5 => (a_T4 rfl (a_name rfl (a_name rfl (a_name rfl (a_name rfl ⟨(wlen 9 (by exact rfl) (by exact rfl) (by decide)), ?_⟩)))))) fun _ => ?_
        · refine zm_drop (re_eq (re_w (we_call3 hs_p_check_end rfl (we_var rfl) (we_var rfl) (we_var rfl))) rfl) ?_
          refine zm_last ?_
          refine zm_drop (re_eq (re_w (we_call3 hs_p_check_end rfl (we_var rfl) (we_var rfl) (we_var rfl))) rfl) ?_
          exact zm_nextL rfl
        · refine zm_fld1 (i := 0) rfl (by decide) T.c_Web T.n_Web_sides (we_eq (we_tupOf (we_var rfl)) rfl) fun f_7 => ?_
          refine zm_last ?_
          refine zm_fld2 (i := 0) rfl (by decide) rfl T.c_Web T.n_Web_ties (we_eq (we_tupOf (we_o (oe_lc (tg_tup' (tgs_cons' (tg_name' (by decide)) (tgs_cons' (tg_name' (by decide)) (tgs_cons' (tg_name' (by decide)) (tgs_cons' (tg_name' (by decide)) tgs_nil'))))) (ic_list (we_var rfl)) fun x8 => (a_T4 rfl (a_name rfl (a_name rfl (a_name rfl (a_name rfl ⟨te_yes, (we_tup4 (we_var rfl) (we_var rfl) (we_var rfl) (we_var rfl))⟩)))))))) rfl) fun f_10 => ?_
          exact zm_endI rfl
end K10

namespace K10
open PySem L2 G PM
set_option maxHeartbeats 4000000 in
theorem ok_l_table {P : Program} {w : World} {K : PySem.W.Frag} {mg : Str → Option Value} {base : Heap} (T : Txt K mg) : FnOk P w K mg base (L2.CX P w) 1 T.a_l_table T.f_l_table ["_law_ties"] (sp_l_table ⟨P, w, K⟩ T.A) := by
  have nd := sc_l_table.nd
  refine T.F_l_table.okX sc_l_table (fun vs H Q E h => ?_) (fun cdv A outer s H vs Q E hr h => ?_)
  · exact sp_l_table_len h
  have hu := hu_of hr
  refine ⟨_, (pss_cons (ps_set (i := 1) nd rfl (Or.inl rfl) pe_dnewT)
      (pss_cons (ps_for (passes_of rfl) rfl (pi_range1 (by rfl) T.b_range (pa_cons (pe_callB (len_K K) (by rfl) T.b_len (by decide +kernel) (pa_cons (pv 0) pa_nil)) pa_nil)) (pg_name (i := 2) nd rfl (Or.inl rfl))
        (pss_one (ps_for (passes_of rfl) rfl (pi_range1 (by rfl) T.b_range (pa_cons pe_int pa_nil)) (pg_name (i := 3) nd rfl (Or.inl rfl))
        (pss_cons (ps_set (i := 4) nd rfl (Or.inl rfl) (pe_ix (ix_tK K) (pe_ix (ix_lK K) (pv 0) (pv 2) (fun _ _ => rfl)) (pe_op op_sub pe_int (pe_op op_mul pe_int (pv 3))) (fun _ _ => rfl)))
      (pss_cons (ps_set (i := 5) nd rfl (Or.inl rfl) (pe_ix (ix_tK K) (pe_ix (ix_lK K) (pv 0) (pv 2) (fun _ _ => rfl)) (pe_op op_sub pe_int (pe_op op_mul pe_int (pv 3))) (fun _ _ => rfl)))
      (pss_cons (ps_set (i := 6) nd rfl (Or.inl rfl) (pe_lst pa_nil))
      (pss_cons (ps_for (passes_of rfl) rfl (pi_range1 (by rfl) T.b_range (pa_cons (pe_callB (len_K K) (by rfl) T.b_len (by decide +kernel) (pa_cons (pv 0) pa_nil)) pa_nil)) (pg_name (i := 7) nd rfl (Or.inl rfl))
        (pss_one (ps_for (passes_of rfl) rfl (pi_range1 (by rfl) T.b_range (pa_cons pe_int pa_nil)) (pg_name (i := 8) nd rfl (Or.inl rfl))
        (pss_one (ps_if (PW.pt (pw_and (pt_cmpR op_eq (pe_ix (ix_tK K) (pe_ix (ix_lK K) (pv 0) (pv 7) (fun _ _ => rfl)) (pe_op op_mul pe_int (pv 8)) (fun _ _ => rfl)) (pv 4) (nomark _)) (pw_and1 (pt_cmpR op_ne (pe_ix (ix_tK K) (pe_ix (ix_lK K) (pv 0) (pv 7) (fun _ _ => rfl)) (pe_op op_add (pe_op op_mul pe_int (pv 8)) pe_int) (fun _ _ => rfl)) (pv 5) (nomark _)))))
        (pss_one (ps_expr (bm_K K PySem.F.plainAttrs_list PySem.F.slot_list_append PySem.F.type_list_append mt_append (pv 6) (pa_cons (pe_tup (pa_cons (pv 7) (pa_cons (pv 8) pa_nil))) pa_nil))))
        pss_nil)))))
      (pss_one (ps_dput hu (pv 1) (pe_tup (pa_cons (pv 2) (pa_cons (pv 3) pa_nil))) (pv 6) rfl)))))))))
      (pss_one (ps_lockP (ps_ret (pv 1)))))), ?_⟩
  try dsimp only [cxOf]
  obtain ⟨ties, nb, h⟩ := h
  refine Zm.body (js := [0, 1, 2, 3, 4, 5, 6, 7, 8]) (m := l_table_m ties) nb h ?_
  refine zm_to (Γ2 := [(.val (dList (d := (dT4 (d1 := dInt) (d2 := dInt) (d3 := dInt) (d4 := dInt)))) ties), .no, .no, .no, .no, .no, .no, .no, .no]) rfl ?_
  delta l_table_m
  refine zm_setO (i := 1) rfl (by decide) (oe_eq (oe_dictT0 (ky := kyPair) (d := (dList (d := (dPair (d1 := dInt) (d2 := dInt)))))) rfl) fun table_here_1 => ?_
  refine zm_for [2, 3, 4, 5, 6, 7, 8] (fun s2 => [(.val (dList (d := (dT4 (d1 := dInt) (d2 := dInt) (d3 := dInt) (d4 := dInt)))) ties), (.own (dDK (ky := kyPair) (d := (dList (d := (dPair (d1 := dInt) (d2 := dInt)))))) (oDK (ky := kyPair) (d := (dList (d := (dPair (d1 := dInt) (d2 := dInt)))))) none s2), .no, .no, .no, .no, .no, .no, .no]) table_here_1 (wlen 9 (by exact rfl) (by exact rfl) (by decide)) rfl (fun _ => (wlen 9 (by exact rfl) (by exact rfl) (by decide))) (ie_eq (ie_range (re_w (we_len (re_w (we_var rfl))))) rfl) (fun s2 x3 => (a_name rfl ⟨(wlen 9 (by exact rfl) (by exact rfl) (by decide)), ?_⟩)) fun s29 => ?_
  · refine zm_last ?_
    refine zm_for [3, 4, 5, 6, 7, 8] (fun s4 => [(.val (dList (d := (dT4 (d1 := dInt) (d2 := dInt) (d3 := dInt) (d4 := dInt)))) ties), (.own (dDK (ky := kyPair) (d := (dList (d := (dPair (d1 := dInt) (d2 := dInt)))))) (oDK (ky := kyPair) (d := (dList (d := (dPair (d1 := dInt) (d2 := dInt)))))) none s4), (.val dInt x3), .no, .no, .no, .no, .no, .no]) s2 (wlen 9 (by exact rfl) (by exact rfl) (by decide)) rfl (fun _ => (wlen 9 (by exact rfl) (by exact rfl) (by decide))) (ie_eq (ie_range (re_w we_int)) rfl) (fun s4 x5 => (a_name rfl ⟨(wlen 9 (by exact rfl) (by exact rfl) (by decide)), ?_⟩)) fun s27 => ?_
    · refine zm_set (i := 4) rfl (by decide) (we_eq (we_ix4 (we_ix (we_var rfl) (re_w (we_var rfl))) (re_w (we_sub (re_w we_int) (re_w (we_mulCl (re_w we_int) (re_w (we_var rfl))))))) rfl) fun place_7 => ?_
      refine zm_set (i := 5) rfl (by decide) (we_eq (we_ix4 (we_ix (we_var rfl) (re_w (we_var rfl))) (re_w (we_sub (re_w we_int) (re_w (we_mulCl (re_w we_int) (re_w (we_var rfl))))))) rfl) fun side_9 => ?_
      refine zm_setO (i := 6) rfl (by decide) (oe_eq (oe_lst0 (d := (dPair (d1 := dInt) (d2 := dInt)))) rfl) fun found_10 => ?_
      refine zm_for [7, 8] (fun s11 => [(.val (dList (d := (dT4 (d1 := dInt) (d2 := dInt) (d3 := dInt) (d4 := dInt)))) ties), (.own (dDK (ky := kyPair) (d := (dList (d := (dPair (d1 := dInt) (d2 := dInt)))))) (oDK (ky := kyPair) (d := (dList (d := (dPair (d1 := dInt) (d2 := dInt)))))) none s4), (.val dInt x3), (.val dInt x5), (.val dInt place_7), (.val dInt side_9), (.own (dList (d := (dPair (d1 := dInt) (d2 := dInt)))) (oList (d := (dPair (d1 := dInt) (d2 := dInt)))) none s11), .no, .no]) found_10 (wlen 9 (by exact rfl) (by exact rfl) (by decide)) rfl (fun _ => (wlen 9 (by exact rfl) (by exact rfl) (by decide))) (ie_eq (ie_range (re_w (we_len (re_w (we_var rfl))))) rfl) (fun s11 x12 => (a_name rfl ⟨(wlen 9 (by exact rfl) (by exact rfl) (by decide)), ?_⟩)) fun s24 => ?_
      · refine zm_last ?_
        refine zm_for [8] (fun s13 => [(.val (dList (d := (dT4 (d1 := dInt) (d2 := dInt) (d3 := dInt) (d4 := dInt)))) ties), (.own (dDK (ky := kyPair) (d := (dList (d := (dPair (d1 := dInt) (d2 := dInt)))))) (oDK (ky := kyPair) (d := (dList (d := (dPair (d1 := dInt) (d2 := dInt)))))) none s4), (.val dInt x3), (.val dInt x5), (.val dInt place_7), (.val dInt side_9), (.own (dList (d := (dPair (d1 := dInt) (d2 := dInt)))) (oList (d := (dPair (d1 := dInt) (d2 := dInt)))) none s13), (.val dInt x12), .no]) s11 (wlen 9 (by exact rfl) (by exact rfl) (by decide)) rfl (fun _ => (wlen 9 (by exact rfl) (by exact rfl) (by decide))) (ie_eq (ie_range (re_w we_int)) rfl) (fun s13 x14 => (a_name rfl ⟨(wlen 9 (by exact rfl) (by exact rfl) (by decide)), ?_⟩)) fun s22 => ?_
        · refine zm_last ?_
          refine zm_if (te_eq (te_and (te_test (we_eqS (re_w (we_ix4 (we_ix (we_var rfl) (re_w (we_var rfl))) (re_w (we_mulCl (re_w we_int) (re_w (we_var rfl)))))) (re_w (we_var rfl)))) (te_test (we_neS (re_w (we_ix4 (we_ix (we_var rfl) (re_w (we_var rfl))) (re_w (we_add (re_w (we_mulCl (re_w we_int) (re_w (we_var rfl)))) (re_w we_int))))) (re_w (we_var rfl))))) rfl) ?_ ?_
          · refine zm_append (i := 6) rfl (by decide) (we_eq (we_tup2 (we_var rfl) (we_var rfl)) rfl) fun found_20 => ?_
            exact zm_nextL rfl
          · refine zm_skip ?_
            exact zm_nextL rfl
        · exact zm_nextL rfl
      · refine zm_last ?_
        refine zm_frz 6 rfl (by decide) ?_
        refine zm_dputK (i := 1) rfl (by decide) (we_eq (we_var rfl) rfl) (re_eq (re_w (we_tup2 (we_var rfl) (we_var rfl))) rfl) fun table_here_25 => ?_
        exact zm_nextL rfl
    · exact zm_nextL rfl
  · refine zm_last ?_
    refine zm_lock 1 rfl (by decide) ?_
    exact zm_ret (we_eq (we_var rfl) rfl)
end K10

namespace K10
open PySem L2 G PM
set_option maxHeartbeats 4000000 in
theorem ok_l_reached {P : Program} {w : World} {K : PySem.W.Frag} {mg : Str → Option Value} {base : Heap} (T : Txt K mg) : FnOk P w K mg base (L2.CX P w) 1 T.a_l_reached T.f_l_reached ["_law_table_here", "_law_first"] (sp_l_reached ⟨P, w, K⟩ T.A) := by
  have nd := sc_l_reached.nd
  refine T.F_l_reached.okX sc_l_reached (fun vs H Q E h => ?_) (fun cdv A outer s H vs Q E hr h => ?_)
  · exact sp_l_reached_len h
  have hu := hu_of hr
  refine ⟨_, (pss_cons (ps_set (i := 2) nd rfl (Or.inl rfl) (pe_lst pa_nil))
      (pss_cons (ps_set (i := 3) nd rfl (Or.inl rfl) (pe_lst (pa_cons (pv 1) pa_nil)))
      (pss_cons (ps_for (passes_of rfl) rfl (pi_range1 (by rfl) T.b_range (pa_cons (pe_op op_add (pe_callB call_len_dTR (by rfl) T.b_len (by decide +kernel) (pa_cons (pv 0) pa_nil)) pe_int) pa_nil)) (pg_name (i := 4) nd rfl (Or.inl rfl))
        (pss_one (ps_if (pt_cmpR op_lt (pv 4) (pe_callB (len_K K) (by rfl) T.b_len (by decide +kernel) (pa_cons (pv 3) pa_nil)) (nomark _))
        (pss_one (ps_for (passes_of rfl) rfl (pi_lK K (pe_dget hu (pv 0) (pe_ix (ix_lK K) (pv 3) (pv 4) (fun _ _ => rfl)) (fun _ _ => rfl))) (pg_name (i := 5) nd rfl (Or.inl rfl))
        (pss_one (ps_if (pt_cmpR (nid_K K (hu65 hr)) (pv 5) (pv 2) (by with_unfolding_all rfl))
        (pss_cons (ps_expr (bm_K K PySem.F.plainAttrs_list PySem.F.slot_list_append PySem.F.type_list_append mt_append (pv 2) (pa_cons (pv 5) pa_nil)))
      (pss_one (ps_if (pt_cmpR (op_neDK K (hu64 hr)) (pv 5) (pv 1) (nomark _))
        (pss_one (ps_expr (bm_K K PySem.F.plainAttrs_list PySem.F.slot_list_append PySem.F.type_list_append mt_append (pv 3) (pa_cons (pv 5) pa_nil))))
        pss_nil)))
        pss_nil))))
        pss_nil)))
      (pss_one (ps_ret (pe_callB (sortedD_K K (hu64 hr)) (by rfl) T.b_sorted (by decide +kernel) (pa_cons (pv 2) pa_nil))))))), ?_⟩
  try dsimp only [cxOf]
  obtain ⟨table_here, first, nb, h⟩ := h
  refine Zm.body (js := [0, 1, 2, 3, 4, 5]) (m := l_reached_m table_here first) nb h ?_
  refine zm_to (Γ2 := [(.val (dKL (ky := kyPair) (d := (dList (d := (dPair (d1 := dInt) (d2 := dInt)))))) table_here), (.val (dPair (d1 := dInt) (d2 := dInt)) first), .no, .no, .no, .no]) rfl ?_
  delta l_reached_m
  refine zm_setO (i := 2) rfl (by decide) (oe_eq (oe_lst0 (d := (dPair (d1 := dInt) (d2 := dInt)))) rfl) fun found_1 => ?_
  refine zm_setO (i := 3) rfl (by decide) (oe_eq (oe_lstN (wle_cons (we_var rfl) wle_nil) (asLenS asLen0) (by decide)) rfl) fun row_2 => ?_
  refine zm_for [4, 5] (fun s3 => [(.val (dKL (ky := kyPair) (d := (dList (d := (dPair (d1 := dInt) (d2 := dInt)))))) table_here), (.val (dPair (d1 := dInt) (d2 := dInt)) first), (.own (dList (d := (dPair (d1 := dInt) (d2 := dInt)))) (oList (d := (dPair (d1 := dInt) (d2 := dInt)))) none s3.1), (.own (dList (d := (dPair (d1 := dInt) (d2 := dInt)))) (oList (d := (dPair (d1 := dInt) (d2 := dInt)))) none s3.2), .no, .no]) (found_1, row_2) (wlen 6 (by exact rfl) (by exact rfl) (by decide)) rfl (fun _ => (wlen 6 (by exact rfl) (by exact rfl) (by decide))) (ie_eq (ie_range (re_w (we_add (re_w (we_lenDK (re_w (we_hH (we_var rfl))))) (re_w we_int)))) rfl) (fun s3 x4 => (a_name rfl ⟨(wlen 6 (by exact rfl) (by exact rfl) (by decide)), ?_⟩)) fun s12 => ?_
  · refine zm_last ?_
    refine zm_ifP (te_eq (te_test (we_lt (re_w (we_var rfl)) (re_w (we_len (re_varO rfl))))) rfl) ?_ ?_
    · refine zm_for [5] (fun s5 => [(.val (dKL (ky := kyPair) (d := (dList (d := (dPair (d1 := dInt) (d2 := dInt)))))) table_here), (.val (dPair (d1 := dInt) (d2 := dInt)) first), (.own (dList (d := (dPair (d1 := dInt) (d2 := dInt)))) (oList (d := (dPair (d1 := dInt) (d2 := dInt)))) none s5.1), (.own (dList (d := (dPair (d1 := dInt) (d2 := dInt)))) (oList (d := (dPair (d1 := dInt) (d2 := dInt)))) none s5.2), (.val dInt x4), .no]) (s3.1, s3.2) (wlen 6 (by exact rfl) (by exact rfl) (by decide)) rfl (fun _ => (wlen 6 (by exact rfl) (by exact rfl) (by decide))) (ie_eq (ie_list (we_dgetK (we_hH (we_var rfl)) (re_w (we_ixO rfl (re_w (we_var rfl)))))) rfl) (fun s5 x7 => (a_name rfl ⟨(wlen 6 (by exact rfl) (by exact rfl) (by decide)), ?_⟩)) fun s10 => ?_
      · refine zm_last ?_
        refine zm_ifP (te_eq (te_test (we_notinD (by decide) (re_w (we_var rfl)) (re_varO rfl))) rfl) ?_ ?_
        · refine zm_assoc ?_
          refine zm_append (i := 2) rfl (by decide) (we_eq (we_var rfl) rfl) fun found_8 => ?_
          refine zm_ifP (te_eq (te_test (we_neD (by decide) (re_w (we_var rfl)) (re_w (we_var rfl)))) rfl) ?_ ?_
          · refine zm_append (i := 3) rfl (by decide) (we_eq (we_var rfl) rfl) fun row_9 => ?_
            exact zm_nextL rfl
          · refine zm_skip ?_
            exact zm_nextL rfl
        · refine zm_skip ?_
          exact zm_nextL rfl
      · exact zm_nextL rfl
    · refine zm_skip ?_
      exact zm_nextL rfl
  · refine zm_last ?_
    exact zm_retO (oe_eq (oe_sortDI (by decide) (re_varO rfl)) rfl)
end K10

namespace K10
open PySem L2 G PM
set_option maxHeartbeats 4000000 in
theorem ok_m_Web_back {P : Program} {w : World} {K : PySem.W.Frag} {mg : Str → Option Value} {base : Heap} (T : Txt K mg) : FnOk P w K mg base (L2.CX P w) 1 T.a_m_Web_back T.f_m_Web_back ["step"] (sp_m_Web_back ⟨P, w, K⟩ T.A) := by
  have nd := sc_m_Web_back.nd
  refine T.F_m_Web_back.okX sc_m_Web_back (fun vs H Q E h => ?_) (fun cdv A outer s H vs Q E hr h => ?_)
  · exact sp_m_Web_back_len h
  have hu := hu_of hr
  refine ⟨_, (pss_one (ps_ret (pe_tup (pa_cons (pe_ix (ix_tK K) (pv 0) pe_int (fun _ _ => rfl)) (pa_cons (pe_op op_sub pe_int (pe_ix (ix_tK K) (pv 0) pe_int (fun _ _ => rfl))) pa_nil))))), ?_⟩
  try dsimp only [cxOf]
  obtain ⟨step, nb, h⟩ := h
  refine Zm.body (js := [0]) (m := m_Web_back_m step) nb h ?_
  refine zm_to (Γ2 := [(.val (dPair (d1 := dInt) (d2 := dInt)) step)]) rfl ?_
  delta m_Web_back_m
  refine zm_last ?_
  exact zm_ret (we_eq (we_tup2 (we_fst (we_var rfl)) (we_sub (re_w we_int) (re_w (we_snd (we_var rfl))))) rfl)
end K10

namespace K10
open PySem L2 G PM
set_option maxHeartbeats 4000000 in
theorem ok_m_Web_tail {P : Program} {w : World} {K : PySem.W.Frag} {mg : Str → Option Value} {base : Heap} (T : Txt K mg) (G_x_UnknownTie : FnOk P w K mg base (L2.CX P w) 1 T.i_UnknownTie T.fx_UnknownTie ["self", "tie"] (spX1 (T.A.tx .UnknownTie) "tie")) : FnOk P w K mg base (L2.CX P w) 3 T.a_m_Web_tail T.f_m_Web_tail ["self", "step"] (sp_m_Web_tail ⟨P, w, K⟩ T.A) := by
  have nd := sc_m_Web_tail.nd
  refine T.F_m_Web_tail.okX sc_m_Web_tail (fun vs H Q E h => ?_) (fun cdv A outer s H vs Q E hr h => ?_)
  · exact sp_m_Web_tail_len h
  have hu := hu_of hr
  refine ⟨_, (pss_cons (ps_asg (pv 1) (pg_tupK (n := 2) K (by rfl) (pgs_cons (pg_name (i := 2) nd rfl (Or.inl rfl)) (pgs_cons (pg_name (i := 3) nd rfl (Or.inl rfl)) pgs_nil))))
      (pss_cons (ps_if (PW.pt (pw_or (pt_cmpR op_lt (pv 2) pe_int (nomark _)) (pw_or1 (pt_cmpR op_ge (pv 2) (pe_callB (len_K K) (by rfl) T.b_len (by decide +kernel) (pa_cons (fld_K K (pv 0) rfl) pa_nil)) (nomark _)))))
        (pss_one (ps_raise rfl (takes_of rfl rfl rfl rfl) (pmk_oex T.x_UnknownTie.T T.x_UnknownTie.init T.x_UnknownTie.fn G_x_UnknownTie (hr.mono (by decide)) T.dx_UnknownTie .nil passF (by rfl) T.g_UnknownTie (pa_cons (pv 2) pa_nil))))
        pss_nil)
      (pss_cons (ps_asg (pe_ix (ix_tK K) (fld_K K (pv 0) rfl) (pv 2) (fun _ _ => rfl)) (pg_tupK (n := 4) K (by rfl) (pgs_cons (pg_name (i := 4) nd rfl (Or.inl rfl)) (pgs_cons (pg_name (i := 5) nd rfl (Or.inl rfl)) (pgs_cons (pg_name (i := 6) nd rfl (Or.inl rfl)) (pgs_cons (pg_name (i := 7) nd rfl (Or.inl rfl)) pgs_nil))))))
      (pss_cons (ps_if (pt_cmpR op_eq (pv 3) pe_int (nomark _))
        (pss_one (ps_ret (pe_tup (pa_cons (pv 4) (pa_cons (pv 5) pa_nil)))))
        pss_nil)
      (pss_one (ps_ret (pe_tup (pa_cons (pv 6) (pa_cons (pv 7) pa_nil))))))))), ?_⟩
  try dsimp only [cxOf]
  obtain ⟨self, step, nb, h⟩ := h
  refine Zm.body (js := [0, 1, 2, 3, 4, 5, 6, 7]) (m := m_Web_tail_m self step) nb h ?_
  refine zm_to (Γ2 := [(.val (dWeb T.A) self), (.val (dPair (d1 := dInt) (d2 := dInt)) step), .no, .no, .no, .no, .no, .no]) rfl ?_
  delta m_Web_tail_m
  refine zm_setG (we_eq (we_var rfl) rfl) fun t1 => (a_pair rfl (a_name rfl (a_name rfl ⟨rfl, ?_⟩)))
  refine zm_ifP (te_eq (te_orP (te_test (we_lt (re_w (we_var rfl)) (re_w we_int))) (te_test (we_ge (re_w (we_var rfl)) (re_w (we_lenT (re_w (we_fld (isF_Web_ties T.A) T.c_Web T.n_Web_ties (we_var rfl)))))))) rfl) ?_ ?_
  · exact zm_raise1 rfl rfl (re_eq (re_w (we_var rfl)) rfl)
  · refine zm_skip ?_
    refine zm_setG (we_eq (we_ixT (we_fld (isF_Web_ties T.A) T.c_Web T.n_Web_ties (we_var rfl)) (re_w (we_var rfl))) rfl) fun t2 => (a_T4 rfl (a_name rfl (a_name rfl (a_name rfl (a_name rfl ⟨rfl, ?_⟩)))))
    refine zm_ifP (te_eq (te_test (we_eqS (re_w (we_var rfl)) (re_w we_int))) rfl) ?_ ?_
    · exact zm_ret (we_eq (we_tup2 (we_var rfl) (we_var rfl)) rfl)
    · refine zm_skip ?_
      refine zm_last ?_
      exact zm_ret (we_eq (we_tup2 (we_var rfl) (we_var rfl)) rfl)
end K10

namespace K10
open PySem L2 G PM
set_option maxHeartbeats 4000000 in
theorem ok_m_Web_head {P : Program} {w : World} {K : PySem.W.Frag} {mg : Str → Option Value} {base : Heap} (T : Txt K mg) (G_m_Web_back : FnOk P w K mg base (L2.CX P w) 1 T.a_m_Web_back T.f_m_Web_back ["step"] (sp_m_Web_back ⟨P, w, K⟩ T.A)) (G_m_Web_tail : FnOk P w K mg base (L2.CX P w) 3 T.a_m_Web_tail T.f_m_Web_tail ["self", "step"] (sp_m_Web_tail ⟨P, w, K⟩ T.A)) : FnOk P w K mg base (L2.CX P w) 4 T.a_m_Web_head T.f_m_Web_head ["self", "step"] (sp_m_Web_head ⟨P, w, K⟩ T.A) := by
  have nd := sc_m_Web_head.nd
  refine T.F_m_Web_head.okX sc_m_Web_head (fun vs H Q E h => ?_) (fun cdv A outer s H vs Q E hr h => ?_)
  · exact sp_m_Web_head_len h
  have hu := hu_of hr
  refine ⟨_, (pss_one (ps_ret (pe_methE (pv 0) T.c_Web T.me_m_Web_tail G_m_Web_tail (hr.mono (by decide)) T.d_m_Web_tail (fun σ => passAt (takes_of rfl rfl rfl rfl) σ) (pa_cons (pe_smethE (pe_glob (v := .ref (T.A.ob .Web)) (by rfl) T.g_Web rfl) T.sm_m_Web_back G_m_Web_back (hr.mono (by decide)) T.d_m_Web_back (fun σ => passAt (takes_of rfl rfl rfl rfl) σ) (pa_cons (pv 1) pa_nil)) pa_nil)))), ?_⟩
  try dsimp only [cxOf]
  obtain ⟨self, step, nb, h⟩ := h
  refine Zm.body (js := [0, 1]) (m := m_Web_head_m self step) nb h ?_
  refine zm_to (Γ2 := [(.val (dWeb T.A) self), (.val (dPair (d1 := dInt) (d2 := dInt)) step)]) rfl ?_
  delta m_Web_head_m
  refine zm_last ?_
  exact zm_ret (we_eq (we_meth1 hs_m_Web_tail rfl (isI_Web T.A) (by decide) (we_var rfl) (we_sm (we_call1 hs_m_Web_back rfl (we_var rfl)))) rfl)
end K10

namespace K10
open PySem L2 G PM
set_option maxHeartbeats 4000000 in
theorem ok_m_WebX_containsX {P : Program} {w : World} {K : PySem.W.Frag} {mg : Str → Option Value} {base : Heap} (T : Txt K mg) : FnOk P w K mg base (L2.CX P w) 1 T.a_m_WebX_containsX T.f_m_WebX_containsX ["self", "place"] (sp_m_WebX_containsX ⟨P, w, K⟩ T.A) := by
  have nd := sc_m_WebX_containsX.nd
  refine T.F_m_WebX_containsX.okX sc_m_WebX_containsX (fun vs H Q E h => ?_) (fun cdv A outer s H vs Q E hr h => ?_)
  · exact sp_m_WebX_containsX_len h
  have hu := hu_of hr
  refine ⟨_, (pss_one (ps_ret (pe_chain op_le op_lt pe_int (pv 1) (pe_callB (len_K K) (by rfl) T.b_len (by decide +kernel) (pa_cons (fld_K K (pv 0) rfl) pa_nil))))), ?_⟩
  try dsimp only [cxOf]
  obtain ⟨self, place, nb, h⟩ := h
  refine Zm.body (js := [0, 1]) (m := m_WebX_containsX_m self place) nb h ?_
  refine zm_to (Γ2 := [(.val (dWeb T.A) self), (.val dInt place)]) rfl ?_
  delta m_WebX_containsX_m
  refine zm_last ?_
  exact zm_ret (we_eq (we_chainP (re_w we_int) (re_w (we_var rfl)) (re_w (we_lenT (re_w (we_fld (isF_Web_sides T.A) T.c_Web T.n_Web_sides (we_var rfl)))))) rfl)
end K10

namespace K10
open PySem L2 G PM
set_option maxHeartbeats 4000000 in
theorem ok_m_Web_steps_from {P : Program} {w : World} {K : PySem.W.Frag} {mg : Str → Option Value} {base : Heap} (T : Txt K mg) (G_m_WebX_containsX : FnOk P w K mg base (L2.CX P w) 1 T.a_m_WebX_containsX T.f_m_WebX_containsX ["self", "place"] (sp_m_WebX_containsX ⟨P, w, K⟩ T.A)) (G_x_UnknownPlace : FnOk P w K mg base (L2.CX P w) 1 T.i_UnknownPlace T.fx_UnknownPlace ["self", "place"] (spX1 (T.A.tx .UnknownPlace) "place")) : FnOk P w K mg base (L2.CX P w) 3 T.a_m_Web_steps_from T.f_m_Web_steps_from ["self", "place"] (sp_m_Web_steps_from ⟨P, w, K⟩ T.A) := by
  have nd := sc_m_Web_steps_from.nd
  refine T.F_m_Web_steps_from.okX sc_m_Web_steps_from (fun vs H Q E h => ?_) (fun cdv A outer s H vs Q E hr h => ?_)
  · exact sp_m_Web_steps_from_len h
  have hu := hu_of hr
  refine ⟨_, (pss_cons (ps_if (pt_cmpR (op_niO T.me_m_WebX_containsX G_m_WebX_containsX (hr.mono (by decide)) T.d_m_WebX_containsX (fun σ => passFS σ)) (pv 1) (pv 0) (by with_unfolding_all rfl))
        (pss_one (ps_raise rfl (takes_of rfl rfl rfl rfl) (pmk_oex T.x_UnknownPlace.T T.x_UnknownPlace.init T.x_UnknownPlace.fn G_x_UnknownPlace (hr.mono (by decide)) T.dx_UnknownPlace .nil passF (by rfl) T.g_UnknownPlace (pa_cons (pv 1) pa_nil))))
        pss_nil)
      (pss_cons (ps_set (i := 2) nd rfl (Or.inl rfl) (pe_lst pa_nil))
      (pss_cons (ps_for (passes_of rfl) rfl (pi_enumT (by rfl) T.b_enumerate (pa_cons (fld_K K (pv 0) rfl) pa_nil)) (pg_tupK (n := 2) K (by rfl) (pgs_cons (pg_name (i := 3) nd rfl (Or.inl rfl)) (pgs_cons (pg_tupK (n := 4) K (by rfl) (pgs_cons (pg_name (i := 4) nd rfl (Or.inl rfl)) (pgs_cons (pg_name (i := 5) nd rfl (Or.inl rfl)) (pgs_cons (pg_name (i := 6) nd rfl (Or.inl rfl)) (pgs_cons (pg_name (i := 5) nd rfl (Or.inl rfl)) pgs_nil))))) pgs_nil)))
        (pss_cons (ps_if (pt_cmpR op_eq (pv 4) (pv 1) (nomark _))
        (pss_one (ps_expr (bm_K K PySem.F.plainAttrs_list PySem.F.slot_list_append PySem.F.type_list_append mt_append (pv 2) (pa_cons (pe_tup (pa_cons (pv 3) (pa_cons pe_int pa_nil))) pa_nil))))
        pss_nil)
      (pss_one (ps_if (pt_cmpR op_eq (pv 6) (pv 1) (nomark _))
        (pss_one (ps_expr (bm_K K PySem.F.plainAttrs_list PySem.F.slot_list_append PySem.F.type_list_append mt_append (pv 2) (pa_cons (pe_tup (pa_cons (pv 3) (pa_cons pe_int pa_nil))) pa_nil))))
        pss_nil))))
      (pss_one (ps_ret (pv 2)))))), ?_⟩
  try dsimp only [cxOf]
  obtain ⟨self, place, nb, h⟩ := h
  refine Zm.body (js := [0, 1, 2, 3, 4, 5, 6]) (m := m_Web_steps_from_m self place) nb h ?_
  refine zm_to (Γ2 := [(.val (dWeb T.A) self), (.val dInt place), .no, .no, .no, .no, .no]) rfl ?_
  delta m_Web_steps_from_m
  refine zm_if (te_eq (te_test (we_inO hs_m_WebX_containsX (isI_Web T.A) (we_var rfl) (we_var rfl))) rfl) ?_ ?_
  · exact zm_raise1 rfl rfl (re_eq (re_w (we_var rfl)) rfl)
  · refine zm_skip ?_
    refine zm_setO (i := 2) rfl (by decide) (oe_eq (oe_lst0 (d := (dPair (d1 := dInt) (d2 := dInt)))) rfl) fun found_2 => ?_
    refine zm_for [3, 4, 5, 6] (fun s3 => [(.val (dWeb T.A) self), (.val dInt place), (.own (dList (d := (dPair (d1 := dInt) (d2 := dInt)))) (oList (d := (dPair (d1 := dInt) (d2 := dInt)))) none s3), .no, .no, .no, .no]) found_2 rfl rfl (fun _ => rfl) (ie_eq (ie_enumT (we_fld (isF_Web_ties T.A) T.c_Web T.n_Web_ties (we_var rfl))) rfl) (fun s3 x4 => (a_pair rfl (a_name rfl (a_T4 rfl (a_name rfl (a_name rfl (a_name rfl (a_name rfl ⟨rfl, ?_⟩)))))))) fun s8 => ?_
    · refine zm_join [] (fun s6 => [(.val (dWeb T.A) self), (.val dInt place), (.own (dList (d := (dPair (d1 := dInt) (d2 := dInt)))) (oList (d := (dPair (d1 := dInt) (d2 := dInt)))) none s6), (.val dInt x4.1), (.val dInt x4.2.a), (.val dInt x4.2.d), (.val dInt x4.2.c)]) (fun _ => rfl) ?_ fun s6 => ?_
      · refine zm_last (zm_ifP (te_eq (te_test (we_eqS (re_w (we_var rfl)) (re_w (we_var rfl)))) rfl) ?_ ?_)
        · refine zm_append (i := 2) rfl (by decide) (we_eq (we_tup2 (we_var rfl) we_int) rfl) fun found_5 => ?_
          exact zm_nextJ rfl
        · refine zm_skip ?_
          exact zm_nextJ rfl
      · refine zm_last ?_
        refine zm_ifP (te_eq (te_test (we_eqS (re_w (we_var rfl)) (re_w (we_var rfl)))) rfl) ?_ ?_
        · refine zm_append (i := 2) rfl (by decide) (we_eq (we_tup2 (we_var rfl) we_int) rfl) fun found_7 => ?_
          exact zm_nextL rfl
        · refine zm_skip ?_
          exact zm_nextL rfl
    · refine zm_last ?_
      exact zm_retV rfl
end K10

namespace K10
open PySem L2 G PM
set_option maxHeartbeats 4000000 in
theorem ok_p_followers {P : Program} {w : World} {K : PySem.W.Frag} {mg : Str → Option Value} {base : Heap} (T : Txt K mg) (G_m_Web_head : FnOk P w K mg base (L2.CX P w) 4 T.a_m_Web_head T.f_m_Web_head ["self", "step"] (sp_m_Web_head ⟨P, w, K⟩ T.A)) (G_m_Web_steps_from : FnOk P w K mg base (L2.CX P w) 3 T.a_m_Web_steps_from T.f_m_Web_steps_from ["self", "place"] (sp_m_Web_steps_from ⟨P, w, K⟩ T.A)) (G_m_Web_tail : FnOk P w K mg base (L2.CX P w) 3 T.a_m_Web_tail T.f_m_Web_tail ["self", "step"] (sp_m_Web_tail ⟨P, w, K⟩ T.A)) : FnOk P w K mg base (L2.CX P w) 5 T.a_p_followers T.f_p_followers ["web", "step"] (sp_p_followers ⟨P, w, K⟩ T.A) := by
  have nd := sc_p_followers.nd
  refine T.F_p_followers.okX sc_p_followers (fun vs H Q E h => ?_) (fun cdv A outer s H vs Q E hr h => ?_)
  · exact sp_p_followers_len h
  have hu := hu_of hr
  refine ⟨_, (pss_cons (ps_asg (pe_methE (pv 0) T.c_Web T.me_m_Web_head G_m_Web_head (hr.mono (by decide)) T.d_m_Web_head (fun σ => passAt (takes_of rfl rfl rfl rfl) σ) (pa_cons (pv 1) pa_nil)) (pg_tupK (n := 2) K (by rfl) (pgs_cons (pg_name (i := 2) nd rfl (Or.inl rfl)) (pgs_cons (pg_name (i := 3) nd rfl (Or.inr rfl)) pgs_nil))))
      (pss_one (ps_ret (pe_lc (own := [("after", 4)]) (by rfl) nd (pi_lB K (pe_methE (pv 0) T.c_Web T.me_m_Web_steps_from G_m_Web_steps_from (hr.mono (by decide)) T.d_m_Web_steps_from (fun σ => passAt (takes_of rfl rfl rfl rfl) σ) (pa_cons (pv 2) pa_nil))) (blkOk_by (own := [("after", 4)]) (N := N_p_followers) (sc := defScope s_p_followers) (by decide +kernel)) (fun _ _ _ _ _ => (pg_name (i := 4) nd rfl (Or.inl rfl))) (fun _ _ _ _ _ => (pts_one (pt_cmpR op_ne (pe_ix (ix_tK K) (pe_methE (pv 0) T.c_Web T.me_m_Web_tail G_m_Web_tail (hr.mono (by decide)) T.d_m_Web_tail (fun σ => passFS σ) (pa_cons (pv 4) pa_nil)) pe_int (fun _ _ => rfl)) (pv 3) (nomark _)))) (fun _ _ _ _ _ => (pv 4)))))), ?_⟩
  try dsimp only [cxOf]
  obtain ⟨web, step, nb, h⟩ := h
  refine Zm.body (js := [0, 1, 2, 3, 4]) (m := p_followers_m web step) nb h ?_
  refine zm_to (Γ2 := [(.val (dWeb T.A) web), (.val (dPair (d1 := dInt) (d2 := dInt)) step), .no, .no, .no]) rfl ?_
  delta p_followers_m
  refine zm_setG (we_eq (we_meth1 hs_m_Web_head rfl (isI_Web T.A) (by decide) (we_var rfl) (we_var rfl)) rfl) fun t1 => (a_pair rfl (a_name rfl (a_name rfl ⟨rfl, ?_⟩)))
  refine zm_last ?_
  exact zm_retO (oe_eq (oe_lc (tg_name' (by decide)) (ic_list (we_o (oe_meth1 hs_m_Web_steps_from rfl (isI_Web T.A) (by decide) (we_var rfl) (we_var rfl)))) fun x2 => (a_name rfl ⟨(te_test (we_neS (re_w (we_snd (we_meth1 hs_m_Web_tail rfl (isI_Web T.A) (by decide) (we_var rfl) (we_var rfl)))) (re_w (we_var rfl)))), (we_var rfl)⟩)) rfl)
end K10

namespace K10
open PySem L2 G PM
set_option maxHeartbeats 4000000 in
theorem ok_p_reached {P : Program} {w : World} {K : PySem.W.Frag} {mg : Str → Option Value} {base : Heap} (T : Txt K mg) (G_p_followers : FnOk P w K mg base (L2.CX P w) 5 T.a_p_followers T.f_p_followers ["web", "step"] (sp_p_followers ⟨P, w, K⟩ T.A)) : FnOk P w K mg base (L2.CX P w) 6 T.a_p_reached T.f_p_reached ["web", "first"] (sp_p_reached ⟨P, w, K⟩ T.A) := by
  have nd := sc_p_reached.nd
  refine T.F_p_reached.okX sc_p_reached (fun vs H Q E h => ?_) (fun cdv A outer s H vs Q E hr h => ?_)
  · exact sp_p_reached_len h
  have hu := hu_of hr
  refine ⟨_, (pss_cons (ps_set (i := 2) nd rfl (Or.inl rfl) (pe_callTy0 (setT0_K P w) (by rfl) T.b_set (by decide +kernel)))
      (pss_cons (ps_set (i := 3) nd rfl (Or.inl rfl) (pe_lst (pa_cons (pv 1) pa_nil)))
      (pss_cons (ps_while (passes_of rfl) (truth_K K (pv 3) (by intro _; rfl))
        (pss_cons (ps_set (i := 4) nd rfl (Or.inl rfl) (bm0_K K PySem.F.plainAttrs_list PySem.F.slot_list_pop PySem.F.type_list_pop mt_pop (pv 3)))
      (pss_one (ps_for (passes_of rfl) rfl (pi_lK K (pe_callS G_p_followers (hr.mono (by decide)) (by rfl) T.g_p_followers T.F_p_followers.kp T.d_p_followers (fun σ => passAt (takes_of rfl rfl rfl rfl) σ) (pa_cons (pv 0) (pa_cons (pv 4) pa_nil)))) (pg_name (i := 5) nd rfl (Or.inl rfl))
        (pss_one (ps_if (pt_cmpR (tnotin_K K P w (hu64 hr)) (pv 5) (pv 2) (by with_unfolding_all rfl))
        (pss_cons (ps_expr (tadd_K K P w (hu64 hr) (pv 2) (pa_cons (pv 5) pa_nil)))
      (pss_one (ps_expr (bm_K K PySem.F.plainAttrs_list PySem.F.slot_list_append PySem.F.type_list_append mt_append (pv 3) (pa_cons (pv 5) pa_nil)))))
        pss_nil))))))
      (pss_one (ps_ret (pe_callB (sortedT_K K P w rfl) (by rfl) T.b_sorted (by decide +kernel) (pa_cons (pv 2) pa_nil))))))), ?_⟩
  try dsimp only [cxOf]
  obtain ⟨web, first, nb, h⟩ := h
  refine Zm.body (js := [0, 1, 2, 3, 4, 5]) (m := p_reached_m web first) nb h ?_
  refine zm_to (Γ2 := [(.val (dWeb T.A) web), (.val (dPair (d1 := dInt) (d2 := dInt)) first), .no, .no, .no, .no]) rfl ?_
  delta p_reached_m
  refine zm_setO (i := 2) rfl (by decide) (oe_eq oe_setT0 rfl) fun found_1 => ?_
  refine zm_setO (i := 3) rfl (by decide) (oe_eq (oe_lstN (wle_cons (we_var rfl) wle_nil) (asLenS asLen0) (by decide)) rfl) fun waiting_2 => ?_
  refine zm_while [4, 5] (fun s3 => [(.val (dWeb T.A) web), (.val (dPair (d1 := dInt) (d2 := dInt)) first), (.own dPS oPS none s3.1), (.own (dList (d := (dPair (d1 := dInt) (d2 := dInt)))) (oList (d := (dPair (d1 := dInt) (d2 := dInt)))) none s3.2), .no, .no]) (found_1, waiting_2) rfl (fun _ => rfl) (fun s3 => te_eq (te_truL (re_varO rfl)) rfl) (fun s3 => ?_) fun s11 => ?_
  · refine zm_pop (i := 3) (j := 4) rfl rfl rfl (by decide) (by decide) fun p4 => ?_
    refine zm_last ?_
    refine zm_for [5] (fun s5 => [(.val (dWeb T.A) web), (.val (dPair (d1 := dInt) (d2 := dInt)) first), (.own dPS oPS none s5.1), (.own (dList (d := (dPair (d1 := dInt) (d2 := dInt)))) (oList (d := (dPair (d1 := dInt) (d2 := dInt)))) none s5.2), (.val (dPair (d1 := dInt) (d2 := dInt)) p4.2), .no]) (s3.1, p4.1) rfl rfl (fun _ => rfl) (ie_eq (ie_list (we_o (oe_call2 hs_p_followers rfl (we_var rfl) (we_var rfl)))) rfl) (fun s5 x6 => (a_name rfl ⟨rfl, ?_⟩)) fun s9 => ?_
    · refine zm_last ?_
      refine zm_ifP (te_eq (te_test (we_notinPS (re_w (we_var rfl)) (re_varO rfl))) rfl) ?_ ?_
      · refine zm_assoc ?_
        refine zm_taddP (i := 2) rfl (by decide) (we_eq (we_var rfl) rfl) fun found_7 => ?_
        refine zm_append (i := 3) rfl (by decide) (we_eq (we_var rfl) rfl) fun waiting_8 => ?_
        exact zm_nextL rfl
      · refine zm_skip ?_
        exact zm_nextL rfl
    · exact zm_nextL rfl
  · refine zm_last ?_
    refine zm_frz 2 rfl (by decide) ?_
    exact zm_retO (oe_eq (oe_sortP (we_var rfl)) rfl)
end K10

namespace K10
open PySem L2 G PM
set_option maxHeartbeats 4000000 in
theorem ok_p_shortest_walk {P : Program} {w : World} {K : PySem.W.Frag} {mg : Str → Option Value} {base : Heap} (T : Txt K mg) (G_m_Web_tail : FnOk P w K mg base (L2.CX P w) 3 T.a_m_Web_tail T.f_m_Web_tail ["self", "step"] (sp_m_Web_tail ⟨P, w, K⟩ T.A)) (G_p_followers : FnOk P w K mg base (L2.CX P w) 5 T.a_p_followers T.f_p_followers ["web", "step"] (sp_p_followers ⟨P, w, K⟩ T.A)) : FnOk P w K mg base (L2.CX P w) 6 T.a_p_shortest_walk T.f_p_shortest_walk ["web", "first", "last"] (sp_p_shortest_walk ⟨P, w, K⟩ T.A) := by
  have nd := sc_p_shortest_walk.nd
  refine T.F_p_shortest_walk.okX sc_p_shortest_walk (fun vs H Q E h => ?_) (fun cdv A outer s H vs Q E hr h => ?_)
  · exact sp_p_shortest_walk_len h
  have hu := hu_of hr
  refine ⟨_, (pss_cons (ps_expr (pe_methE (pv 0) T.c_Web T.me_m_Web_tail G_m_Web_tail (hr.mono (by decide)) T.d_m_Web_tail (fun σ => passAt (takes_of rfl rfl rfl rfl) σ) (pa_cons (pv 1) pa_nil)))
      (pss_cons (ps_expr (pe_methE (pv 0) T.c_Web T.me_m_Web_tail G_m_Web_tail (hr.mono (by decide)) T.d_m_Web_tail (fun σ => passAt (takes_of rfl rfl rfl rfl) σ) (pa_cons (pv 2) pa_nil)))
      (pss_cons (ps_set (i := 3) nd rfl (Or.inl rfl) (pe_dispT hu (pv 1) pe_non))
      (pss_cons (ps_set (i := 4) nd rfl (Or.inl rfl) (pe_lst (pa_cons (pv 1) pa_nil)))
      (pss_cons (ps_while (passes_of rfl) (PW.pt (pw_and (truth_K K (pv 4) (by intro _; rfl)) (pw_and1 (pt_cmp (pc_dnotin hu (pv 2) (pv 3))))))
        (pss_cons (ps_set (i := 5) nd rfl (Or.inl rfl) (bm_K K PySem.F.plainAttrs_list PySem.F.slot_list_pop PySem.F.type_list_pop mt_popAt (pv 4) (pa_cons pe_int pa_nil)))
      (pss_one (ps_for (passes_of rfl) rfl (pi_lK K (pe_callS G_p_followers (hr.mono (by decide)) (by rfl) T.g_p_followers T.F_p_followers.kp T.d_p_followers (fun σ => passAt (takes_of rfl rfl rfl rfl) σ) (pa_cons (pv 0) (pa_cons (pv 5) pa_nil)))) (pg_name (i := 6) nd rfl (Or.inl rfl))
        (pss_one (ps_if (pt_cmp (pc_dnotin hu (pv 6) (pv 3)))
        (pss_cons (ps_dput hu (pv 3) (pv 6) (pv 5) rfl)
      (pss_one (ps_expr (bm_K K PySem.F.plainAttrs_list PySem.F.slot_list_append PySem.F.type_list_append mt_append (pv 4) (pa_cons (pv 6) pa_nil)))))
        pss_nil))))))
      (pss_cons (ps_if (pt_cmp (pc_dnotin hu (pv 2) (pv 3)))
        (pss_one (ps_ret pe_non))
        pss_nil)
      (pss_cons (ps_set (i := 7) nd rfl (Or.inl rfl) (pe_lst (pa_cons (pv 2) pa_nil)))
      (pss_cons (ps_while (passes_of rfl) (pt_cmpR (op_neDK K (hu64 hr)) (pe_ix (ix_lK K) (pv 7) (pe_un un_neg pe_int) (fun _ _ => rfl)) (pv 1) (nomark _))
        (pss_one (ps_expr (bm_K K PySem.F.plainAttrs_list PySem.F.slot_list_append PySem.F.type_list_append mt_append (pv 7) (pa_cons (pe_dget hu (pv 3) (pe_ix (ix_lK K) (pv 7) (pe_un un_neg pe_int) (fun _ _ => rfl)) (fun _ _ => rfl)) pa_nil)))))
      (pss_one (ps_ret (pe_revL (pv 7)))))))))))), ?_⟩
  try dsimp only [cxOf]
  obtain ⟨web, first, last, nb, h⟩ := h
  refine Zm.body (js := [0, 1, 2, 3, 4, 5, 6, 7]) (m := p_shortest_walk_m web first last) nb h ?_
  refine zm_to (Γ2 := [(.val (dWeb T.A) web), (.val (dPair (d1 := dInt) (d2 := dInt)) first), (.val (dPair (d1 := dInt) (d2 := dInt)) last), .no, .no, .no, .no, .no]) rfl ?_
  delta p_shortest_walk_m
  refine zm_drop (re_eq (re_w (we_meth1 hs_m_Web_tail rfl (isI_Web T.A) (by decide) (we_var rfl) (we_var rfl))) rfl) ?_
  refine zm_drop (re_eq (re_w (we_meth1 hs_m_Web_tail rfl (isI_Web T.A) (by decide) (we_var rfl) (we_var rfl))) rfl) ?_
  refine zm_setO (i := 3) rfl (by decide) (oe_eq (oe_dispT (ky := kyPair) (d := (dOpt (d := (dPair (d1 := dInt) (d2 := dInt))))) rfl fun _ _ => rfl) rfl) fun before_1 => ?_
  refine zm_setO (i := 4) rfl (by decide) (oe_eq (oe_lstN (wle_cons (we_var rfl) wle_nil) (asLenS asLen0) (by decide)) rfl) fun waiting_2 => ?_
  refine zm_while [5, 6] (fun s3 => [(.val (dWeb T.A) web), (.val (dPair (d1 := dInt) (d2 := dInt)) first), (.val (dPair (d1 := dInt) (d2 := dInt)) last), (.own (dDK (ky := kyPair) (d := (dOpt (d := (dPair (d1 := dInt) (d2 := dInt)))))) (oDK (ky := kyPair) (d := (dOpt (d := (dPair (d1 := dInt) (d2 := dInt)))))) none s3.1), (.own (dList (d := (dPair (d1 := dInt) (d2 := dInt)))) (oList (d := (dPair (d1 := dInt) (d2 := dInt)))) none s3.2), .no, .no, .no]) (before_1, waiting_2) rfl (fun _ => rfl) (fun s3 => te_eq (te_andP (te_truL (re_varO rfl)) (te_B (we_notinDK (re_w (we_var rfl)) (re_varO rfl)))) rfl) (fun s3 => ?_) fun s11 => ?_
  · refine zm_popAt (i := 4) (j := 5) rfl rfl rfl (by decide) (by decide) (re_eq (re_w we_int) rfl) fun p4 => ?_
    refine zm_last ?_
    refine zm_for [6] (fun s5 => [(.val (dWeb T.A) web), (.val (dPair (d1 := dInt) (d2 := dInt)) first), (.val (dPair (d1 := dInt) (d2 := dInt)) last), (.own (dDK (ky := kyPair) (d := (dOpt (d := (dPair (d1 := dInt) (d2 := dInt)))))) (oDK (ky := kyPair) (d := (dOpt (d := (dPair (d1 := dInt) (d2 := dInt)))))) none s5.1), (.own (dList (d := (dPair (d1 := dInt) (d2 := dInt)))) (oList (d := (dPair (d1 := dInt) (d2 := dInt)))) none s5.2), (.val (dPair (d1 := dInt) (d2 := dInt)) p4.2), .no, .no]) (s3.1, p4.1) rfl rfl (fun _ => rfl) (ie_eq (ie_list (we_o (oe_call2 hs_p_followers rfl (we_var rfl) (we_var rfl)))) rfl) (fun s5 x6 => (a_name rfl ⟨rfl, ?_⟩)) fun s9 => ?_
    · refine zm_last ?_
      refine zm_ifP (te_eq (te_B (we_notinDK (re_w (we_var rfl)) (re_varO rfl))) rfl) ?_ ?_
      · refine zm_assoc ?_
        refine zm_dputK (i := 3) rfl (by decide) (we_eq (we_some (we_var rfl)) rfl) (re_eq (re_w (we_var rfl)) rfl) fun before_7 => ?_
        refine zm_append (i := 4) rfl (by decide) (we_eq (we_var rfl) rfl) fun waiting_8 => ?_
        exact zm_nextL rfl
      · refine zm_skip ?_
        exact zm_nextL rfl
    · exact zm_nextL rfl
  · refine zm_ifP (te_eq (te_B (we_notinDK (re_w (we_var rfl)) (re_varO rfl))) rfl) ?_ ?_
    · exact zm_retO (oe_eq oe_nonO rfl)
    · refine zm_skip ?_
      refine zm_setO (i := 7) rfl (by decide) (oe_eq (oe_lstN (wle_cons (we_var rfl) wle_nil) (asLenS asLen0) (by decide)) rfl) fun walk_12 => ?_
      refine zm_while [] (fun s13 => [(.val (dWeb T.A) web), (.val (dPair (d1 := dInt) (d2 := dInt)) first), (.val (dPair (d1 := dInt) (d2 := dInt)) last), (.own (dDK (ky := kyPair) (d := (dOpt (d := (dPair (d1 := dInt) (d2 := dInt)))))) (oDK (ky := kyPair) (d := (dOpt (d := (dPair (d1 := dInt) (d2 := dInt)))))) none s11.1), (.own (dList (d := (dPair (d1 := dInt) (d2 := dInt)))) (oList (d := (dPair (d1 := dInt) (d2 := dInt)))) none s11.2), .no, .no, (.own (dList (d := (dPair (d1 := dInt) (d2 := dInt)))) (oList (d := (dPair (d1 := dInt) (d2 := dInt)))) none s13)]) walk_12 rfl (fun _ => rfl) (fun s13 => te_eq (te_test (we_neD (by decide) (re_w (we_ixO rfl (re_w (we_neg (re_w we_int))))) (re_w (we_var rfl)))) rfl) (fun s13 => ?_) fun s17 => ?_
      · refine zm_last ?_
        refine zm_append (i := 7) rfl (by decide) (we_eq (we_unopt (we_dgetKO rfl (re_w (we_ixO rfl (re_w (we_neg (re_w we_int))))))) rfl) fun walk_16 => ?_
        exact zm_nextL rfl
      · refine zm_last ?_
        refine zm_frz 7 rfl (by decide) ?_
        exact zm_retO (oe_eq (oe_some (oe_revL (we_var rfl))) rfl)
end K10

namespace K10
open PySem L2 G PM
set_option maxHeartbeats 4000000 in
theorem ok_l_is_number {P : Program} {w : World} {K : PySem.W.Frag} {mg : Str → Option Value} {base : Heap} (T : Txt K mg) : FnOk P w K mg base (L2.CX P w) 1 T.a_l_is_number T.f_l_is_number ["_law_told_here"] (sp_l_is_number ⟨P, w, K⟩ T.A) := by
  have nd := sc_l_is_number.nd
  refine T.F_l_is_number.okX sc_l_is_number (fun vs H Q E h => ?_) (fun cdv A outer s H vs Q E hr h => ?_)
  · exact sp_l_is_number_len h
  have hu := hu_of hr
  refine ⟨_, (pss_one (ps_ret (pe_and (pe_callB (isi_K K) (by rfl) T.b_isinstance (by decide +kernel) (pa_cons (pv 0) (pa_cons (pe_bltn (v := .ty "int") (by rfl) T.b_int (by decide +kernel) rfl) pa_nil))) (pe_one (pe_not (pe_callB (isi_K K) (by rfl) T.b_isinstance (by decide +kernel) (pa_cons (pv 0) (pa_cons (pe_bltn (v := .ty "bool") (by rfl) T.b_bool (by decide +kernel) rfl) pa_nil)))))))), ?_⟩
  try dsimp only [cxOf]
  obtain ⟨told_here, nb, h⟩ := h
  refine Zm.body (js := [0]) (m := l_is_number_m told_here) nb h ?_
  refine zm_to (Γ2 := [(.val dInt told_here)]) rfl ?_
  delta l_is_number_m
  refine zm_last ?_
  exact zm_ret (we_eq (we_andP (we_isi (b := true) (kit_ty (by decide +kernel)) (re_w (we_var rfl))) (we_not (we_isi (b := false) (kit_ty (by decide +kernel)) (re_w (we_var rfl))))) rfl)
set_option maxHeartbeats 4000000 in
theorem okc_l_is_number {P : Program} {w : World} {K : PySem.W.Frag} {mg : Str → Option Value} {base : Heap} (T : Txt K mg) : FnC P w K mg base (L2.CX P w) 1 T.a_l_is_number T.f_l_is_number ["_law_told_here"] (sp_l_is_number ⟨P, w, K⟩ T.A) := by
  have nd := sc_l_is_number.nd
  refine T.F_l_is_number.okC sc_l_is_number (fun vs H Q E h => ?_) (fun cdv A outer s H vs Q E hr h => ?_)
  · exact sp_l_is_number_len h
  have hu := hu_ofC hr
  refine ⟨_, (pss_one (ps_ret (pe_and (pe_callB (isi_K K) (by rfl) T.b_isinstance (by decide +kernel) (pa_cons (pv 0) (pa_cons (pe_bltn (v := .ty "int") (by rfl) T.b_int (by decide +kernel) rfl) pa_nil))) (pe_one (pe_not (pe_callB (isi_K K) (by rfl) T.b_isinstance (by decide +kernel) (pa_cons (pv 0) (pa_cons (pe_bltn (v := .ty "bool") (by rfl) T.b_bool (by decide +kernel) rfl) pa_nil)))))))), ?_⟩
  try dsimp only [cxC, cxOf]
  obtain ⟨told_here, nb, h⟩ := h
  refine Zm.body (js := [0]) (m := l_is_number_m told_here) nb h ?_
  refine zm_to (Γ2 := [(.val dInt told_here)]) rfl ?_
  delta l_is_number_m
  refine zm_last ?_
  exact zm_ret (we_eq (we_andP (we_isi (b := true) (kit_ty (by decide +kernel)) (re_w (we_var rfl))) (we_not (we_isi (b := false) (kit_ty (by decide +kernel)) (re_w (we_var rfl))))) rfl)
end K10

namespace K10
open PySem L2 G PM
set_option maxHeartbeats 4000000 in
theorem ok_l_told {P : Program} {w : World} {K : PySem.W.Frag} {mg : Str → Option Value} {base : Heap} (T : Txt K mg) (G_p_reached : FnOk P w K mg base (L2.CX P w) 6 T.a_p_reached T.f_p_reached ["web", "first"] (sp_p_reached ⟨P, w, K⟩ T.A)) (G_p_shortest_walk : FnOk P w K mg base (L2.CX P w) 6 T.a_p_shortest_walk T.f_p_shortest_walk ["web", "first", "last"] (sp_p_shortest_walk ⟨P, w, K⟩ T.A)) (G_l_is_number : FnOk P w K mg base (L2.CX P w) 1 T.a_l_is_number T.f_l_is_number ["_law_told_here"] (sp_l_is_number ⟨P, w, K⟩ T.A)) (GC_l_is_number : FnC P w K mg base (L2.CX P w) 1 T.a_l_is_number T.f_l_is_number ["_law_told_here"] (sp_l_is_number ⟨P, w, K⟩ T.A)) : FnOk P w K mg base (L2.CX P w) 7 T.a_l_told T.f_l_told ["_law_web_here", "_law_first", "_law_last", "_law_which"] (sp_l_told ⟨P, w, K⟩ T.A) := by
  have nd := sc_l_told.nd
  refine T.F_l_told.okX sc_l_told (fun vs H Q E h => ?_) (fun cdv A outer s H vs Q E hr h => ?_)
  · exact sp_l_told_len h
  have hu := hu_of hr
  refine ⟨_, (pss_one (try_as K (i := 4) rfl rfl nd rfl rfl ⟨rfl, by decide, .inl T.g_ComesapartError⟩ (takes_of rfl rfl rfl rfl) (fun W pn xe tk po => (pss_cons (ps_if (pt_cmpR op_eq (pv 3) pe_int (nomark _))
        (pss_one (ps_ret (pe_tup (pa_cons pe_str (pa_cons (pe_callS G_p_reached (hr.mono (by decide)) (by rfl) T.g_p_reached T.F_p_reached.kp T.d_p_reached (fun σ => passAt tk σ) (pa_cons (pv 0) (pa_cons (pv 1) pa_nil))) pa_nil)))))
        pss_nil)
      (pss_one (ps_ret (pe_tup (pa_cons pe_str (pa_cons (pe_callS G_p_shortest_walk (hr.mono (by decide)) (by rfl) T.g_p_shortest_walk T.F_p_shortest_walk.kp T.d_p_shortest_walk (fun σ => passAt tk σ) (pa_cons (pv 0) (pa_cons (pv 1) (pa_cons (pv 2) pa_nil)))) pa_nil))))))) (fun a oe cls d pn hz hf => (pss_cons (ps_if (PW.pt (pw_and (pt_val (pe_callB (call_isX hz hf) (by rfl) T.b_isinstance (by decide +kernel) (pa_cons (pv 4) (pa_cons (pe_glob (v := .ref (T.A.tx .UnknownTie)) (by rfl) T.g_UnknownTie rfl) pa_nil)))) (pw_and (pt_val (pe_callB (call_isX hz hf) (by rfl) T.b_isinstance (by decide +kernel) (pa_cons (pv 4) (pa_cons (pe_bltn (v := .ty "ValueError") (by rfl) T.b_ValueError (by decide +kernel) rfl) pa_nil)))) (pw_and1 (pt_val (pe_callC GC_l_is_number (roomC (hr.mono (by decide))) (by rfl) T.g_l_is_number T.F_l_is_number.kp T.d_l_is_number (fun σ => passFS σ) (pa_cons (pe_xf T.xf_UnknownTie T.no_UnknownTie_tie hz hf (pv 4)) pa_nil)))))))
        (pss_one (ps_ret (pe_tup (pa_cons pe_str (pa_cons (pe_xf T.xf_UnknownTie T.no_UnknownTie_tie hz hf (pv 4)) pa_nil)))))
        pss_nil)
      (pss_one (ps_ret (pe_tup (pa_cons pe_str pa_nil)))))))), ?_⟩
  try dsimp only [cxOf]
  obtain ⟨web_here, first, last, which, nb, h⟩ := h
  refine Zm.body (js := [0, 1, 2, 3, 4]) (m := l_told_m web_here first last which) nb h ?_
  refine zm_to (Γ2 := [(.val (dWeb T.A) web_here), (.val (dPair (d1 := dInt) (d2 := dInt)) first), (.val (dPair (d1 := dInt) (d2 := dInt)) last), (.val dInt which), .no]) rfl ?_
  delta l_told_m
  refine zm_last ?_
  refine zm_tryT (js := [0, 1, 2, 3, 4]) [] (i := 4) rfl ⟨_, rfl⟩ (by decide) (by decide) T.hx_ComesapartError (fun W kb => ?_) (fun px5 a dd hkn hp => ?_)
  · refine zm_ifP (te_eq (te_test (we_eqS (re_w (we_var rfl)) (re_w we_int))) rfl) ?_ ?_
    · exact zm_retO (oe_eq (oe_p2U (we_UI we_str) (oe_LU (oe_call2 hs_p_reached rfl (we_var rfl) (we_var rfl)))) rfl)
    · refine zm_skip ?_
      refine zm_last ?_
      exact zm_retO (oe_eq (oe_p2U (we_UI we_str) (oe_OLU (oe_call3 hs_p_shortest_walk rfl (we_var rfl) (we_var rfl) (we_var rfl)))) rfl)
  · refine zm_if (te_eq (te_and (te_B (we_isX (b := fun c => XC.isA c .UnknownTie) rfl hkn T.exc (fun u e => by cases e; rfl) T.kx_UnknownTie)) (te_and (te_B (we_isX (b := fun _ => true) rfl hkn T.exc (fun u e => by cases e; rfl) T.kx_ValueError)) (te_B (we_calm (we_call1 hs_l_is_number rfl (we_xf rfl rfl)))))) rfl) ?_ ?_
    · exact zm_retO (oe_eq (oe_UIU (we_UI (we_tup2 we_str (we_xf rfl rfl)))) rfl)
    · refine zm_skip ?_
      refine zm_last ?_
      exact zm_retO (oe_eq (oe_UIU (we_UI (we_tup1 we_str))) rfl)
end K10

namespace K10
open PySem L2 G PM
set_option maxHeartbeats 4000000 in
theorem ok_l_same {P : Program} {w : World} {K : PySem.W.Frag} {mg : Str → Option Value} {base : Heap} (T : Txt K mg) : ∀ n : Nat, FnOk P w K mg base (L2.CX P w) (n + 1) T.a_l_same T.f_l_same ["_law_told_here", "_law_due"] (sp_l_same n ⟨P, w, K⟩ T.A) := by
  have nd := sc_l_same.nd
  intro n
  induction n with
  | zero =>
    refine T.F_l_same.okX sc_l_same (fun vs H Q E h => ?_) (fun cdv A outer s H vs Q E hr h => ?_)
    · exact sp_l_same_len h
    · obtain ⟨told_here, due, nb, _⟩ := h; exact absurd rfl nb
  | succ fl G_l_same =>
    refine T.F_l_same.okX sc_l_same (fun vs H Q E h => ?_) (fun cdv A outer s H vs Q E hr h => ?_)
    · exact sp_l_same_len h
    have hu := hu_of hr
    refine ⟨_, (pss_cons (ps_if (pt_cmpR op_isN (pv 1) pe_non (nomark _))
        (pss_one (ps_ret (pe_cmpR op_isN (pv 0) pe_non (nomark _))))
        pss_nil)
      (pss_cons (ps_if (pt_val (pe_callB (isi_K K) (by rfl) T.b_isinstance (by decide +kernel) (pa_cons (pv 1) (pa_cons (pe_bltn (v := .ty "bool") (by rfl) T.b_bool (by decide +kernel) rfl) pa_nil))))
        (pss_one (ps_ret (pe_and (pe_callB (isi_K K) (by rfl) T.b_isinstance (by decide +kernel) (pa_cons (pv 0) (pa_cons (pe_bltn (v := .ty "bool") (by rfl) T.b_bool (by decide +kernel) rfl) pa_nil))) (pe_one (pe_cmpR (op_eqDK K (hu64 hr)) (pv 0) (pv 1) (nomark _))))))
        pss_nil)
      (pss_cons (ps_if (pt_val (pe_callB (isi_K K) (by rfl) T.b_isinstance (by decide +kernel) (pa_cons (pv 1) (pa_cons (pe_bltn (v := .ty "int") (by rfl) T.b_int (by decide +kernel) rfl) pa_nil))))
        (pss_one (ps_ret (pe_and (pe_callB (isi_K K) (by rfl) T.b_isinstance (by decide +kernel) (pa_cons (pv 0) (pa_cons (pe_bltn (v := .ty "int") (by rfl) T.b_int (by decide +kernel) rfl) pa_nil))) (pe_and (pe_not (pe_callB (isi_K K) (by rfl) T.b_isinstance (by decide +kernel) (pa_cons (pv 0) (pa_cons (pe_bltn (v := .ty "bool") (by rfl) T.b_bool (by decide +kernel) rfl) pa_nil)))) (pe_one (pe_cmpR (op_eqDK K (hu64 hr)) (pv 0) (pv 1) (nomark _)))))))
        pss_nil)
      (pss_cons (ps_if (pt_val (pe_callB (isi_K K) (by rfl) T.b_isinstance (by decide +kernel) (pa_cons (pv 1) (pa_cons (pe_bltn (v := .ty "str") (by rfl) T.b_str (by decide +kernel) rfl) pa_nil))))
        (pss_one (ps_ret (pe_and (pe_callB (isi_K K) (by rfl) T.b_isinstance (by decide +kernel) (pa_cons (pv 0) (pa_cons (pe_bltn (v := .ty "str") (by rfl) T.b_str (by decide +kernel) rfl) pa_nil))) (pe_one (pe_cmpR (op_eqDK K (hu64 hr)) (pv 0) (pv 1) (nomark _))))))
        pss_nil)
      (pss_cons (ps_if (PW.pt (pw_and (pt_val (pe_callB (isi_K K) (by rfl) T.b_isinstance (by decide +kernel) (pa_cons (pv 1) (pa_cons (pe_bltn (v := .ty "list") (by rfl) T.b_list (by decide +kernel) rfl) pa_nil)))) (pw_and1 (pt_not (pt_val (pe_callB (isi_K K) (by rfl) T.b_isinstance (by decide +kernel) (pa_cons (pv 0) (pa_cons (pe_bltn (v := .ty "list") (by rfl) T.b_list (by decide +kernel) rfl) pa_nil))))))))
        (pss_one (ps_ret pe_bl))
        pss_nil)
      (pss_cons (ps_if (PW.pt (pw_and (pt_val (pe_callB (isi_K K) (by rfl) T.b_isinstance (by decide +kernel) (pa_cons (pv 1) (pa_cons (pe_bltn (v := .ty "tuple") (by rfl) T.b_tuple (by decide +kernel) rfl) pa_nil)))) (pw_and1 (pt_not (pt_val (pe_callB (isi_K K) (by rfl) T.b_isinstance (by decide +kernel) (pa_cons (pv 0) (pa_cons (pe_bltn (v := .ty "tuple") (by rfl) T.b_tuple (by decide +kernel) rfl) pa_nil))))))))
        (pss_one (ps_ret pe_bl))
        pss_nil)
      (pss_cons (ps_if (pt_cmpR op_ne (pe_callB (len_K K) (by rfl) T.b_len (by decide +kernel) (pa_cons (pv 0) pa_nil)) (pe_callB (len_K K) (by rfl) T.b_len (by decide +kernel) (pa_cons (pv 1) pa_nil)) (nomark _))
        (pss_one (ps_ret pe_bl))
        pss_nil)
      (pss_cons (ps_for (passes_of rfl) rfl (pi_range1 (by rfl) T.b_range (pa_cons (pe_callB (len_K K) (by rfl) T.b_len (by decide +kernel) (pa_cons (pv 1) pa_nil)) pa_nil)) (pg_name (i := 2) nd rfl (Or.inl rfl))
        (pss_one (ps_if (pt_not (pt_val (pe_callS G_l_same (hr.mono (by omega)) (by rfl) T.g_l_same T.F_l_same.kp T.d_l_same (fun σ => passAt (takes_of rfl rfl rfl rfl) σ) (pa_cons (pe_ix (ix_qK K) (pv 0) (pv 2) (fun _ _ => rfl)) (pa_cons (pe_ix (ix_qK K) (pv 1) (pv 2) (fun _ _ => rfl)) pa_nil)))))
        (pss_one (ps_ret pe_bl))
        pss_nil)))
      (pss_one (ps_ret pe_bl)))))))))), ?_⟩
    try dsimp only [cxOf]
    obtain ⟨told_here, due, nb, h⟩ := h
    refine Zm.body (js := [0, 1, 2]) (m := l_same_m (fl + 1) told_here due) nb h ?_
    refine zm_to (Γ2 := [(.val dU told_here), (.val dU due), .no]) rfl ?_
    show Zm _ _ _ _ _ _ (l_same_step (l_same_m fl) told_here due)
    delta l_same_step
    refine zm_ifP (te_eq (te_test (we_isNU (re_w (we_var rfl)))) rfl) ?_ ?_
    · exact zm_ret (we_eq (we_isNU (re_w (we_var rfl))) rfl)
    · refine zm_skip ?_
      refine zm_ifP (te_eq (te_B (we_isU (by decide) (re_w (we_var rfl)))) rfl) ?_ ?_
      · exact zm_ret (we_eq (we_and (we_isU (by decide) (re_w (we_var rfl))) (we_eqU (re_w (we_var rfl)) (re_w (we_var rfl)))) rfl)
      · refine zm_skip ?_
        refine zm_ifP (te_eq (te_B (we_isU (by decide) (re_w (we_var rfl)))) rfl) ?_ ?_
        · exact zm_ret (we_eq (we_and (we_isU (by decide) (re_w (we_var rfl))) (we_and (we_not (we_isU (by decide) (re_w (we_var rfl)))) (we_eqU (re_w (we_var rfl)) (re_w (we_var rfl))))) rfl)
        · refine zm_skip ?_
          refine zm_ifP (te_eq (te_B (we_isU (by decide) (re_w (we_var rfl)))) rfl) ?_ ?_
          · exact zm_ret (we_eq (we_and (we_isU (by decide) (re_w (we_var rfl))) (we_eqU (re_w (we_var rfl)) (re_w (we_var rfl)))) rfl)
          · refine zm_skip ?_
            refine zm_ifP (te_eq (te_andP (te_B (we_isU (by decide) (re_w (we_var rfl)))) (te_not (te_B (we_isU (by decide) (re_w (we_var rfl)))))) rfl) ?_ ?_
            · exact zm_ret (we_eq we_bl rfl)
            · refine zm_skip ?_
              refine zm_ifP (te_eq (te_andP (te_B (we_isU (by decide) (re_w (we_var rfl)))) (te_not (te_B (we_isU (by decide) (re_w (we_var rfl)))))) rfl) ?_ ?_
              · exact zm_ret (we_eq we_bl rfl)
              · refine zm_skip ?_
                refine zm_if (te_eq (te_test (we_neS (re_w (we_lenQ (re_w (we_sqU (we_var rfl))))) (re_w (we_lenQ (re_w (we_sqU (we_var rfl))))))) rfl) ?_ ?_
                · exact zm_ret (we_eq we_bl rfl)
                · refine zm_skip ?_
                  refine zm_forC [2] (fun (_ : Unit) => [(.val dU told_here), (.val dU due), .no]) (fun r => .val dBool r) () (wlen 3 (by exact rfl) (by exact rfl) (by decide)) rfl (fun _ => (wlen 3 (by exact rfl) (by exact rfl) (by decide))) (ie_eq (ie_range (re_w (we_lenQ (re_w (we_sqU (we_var rfl)))))) rfl) (fun _ x8 => (a_name rfl ⟨(wlen 3 (by exact rfl) (by exact rfl) (by decide)), ?_⟩)) rt_KF fun _ => ?_
                  · refine zm_last ?_
                    refine zm_if (te_eq (te_not (te_B (we_call2 hs_l_same rfl (we_ixQ (we_sqU (we_var rfl)) (re_w (we_var rfl))) (we_ixQ (we_sqU (we_var rfl)) (re_w (we_var rfl)))))) rfl) ?_ ?_
                    · exact zm_retC (we_eq we_bl rfl)
                    · refine zm_skip ?_
                      exact zm_nextC rfl
                  · refine zm_last ?_
                    exact zm_ret (we_eq we_bl rfl)
end K10

namespace K10
open PySem L2 G PM
set_option maxHeartbeats 4000000 in
theorem ok_l_right_first {P : Program} {w : World} {K : PySem.W.Frag} {mg : Str → Option Value} {base : Heap} (T : Txt K mg) (G_l_reached : FnOk P w K mg base (L2.CX P w) 1 T.a_l_reached T.f_l_reached ["_law_table_here", "_law_first"] (sp_l_reached ⟨P, w, K⟩ T.A)) (G_l_told : FnOk P w K mg base (L2.CX P w) 7 T.a_l_told T.f_l_told ["_law_web_here", "_law_first", "_law_last", "_law_which"] (sp_l_told ⟨P, w, K⟩ T.A)) (G_l_same : ∀ n : Nat, FnOk P w K mg base (L2.CX P w) (n + 1) T.a_l_same T.f_l_same ["_law_told_here", "_law_due"] (sp_l_same n ⟨P, w, K⟩ T.A)) : FnOk P w K mg base (L2.CX P w) 11 T.a_l_right_first T.f_l_right_first ["_law_web_here", "_law_table_here", "_law_first"] (sp_l_right_first ⟨P, w, K⟩ T.A) := by
  have nd := sc_l_right_first.nd
  refine T.F_l_right_first.okX sc_l_right_first (fun vs H Q E h => ?_) (fun cdv A outer s H vs Q E hr h => ?_)
  · exact sp_l_right_first_len h
  have hu := hu_of hr
  refine ⟨_, (pss_cons (ps_set (i := 3) nd rfl (Or.inl rfl) (pe_tup (pa_cons pe_str (pa_cons (pe_callS G_l_reached (hr.mono (by decide)) (by rfl) T.g_l_reached T.F_l_reached.kp T.d_l_reached (fun σ => passAt (takes_of rfl rfl rfl rfl) σ) (pa_cons (pv 1) (pa_cons (pv 2) pa_nil))) pa_nil))))
      (pss_cons (ps_set (i := 4) nd rfl (Or.inl rfl) (pe_callS G_l_told (hr.mono (by decide)) (by rfl) T.g_l_told T.F_l_told.kp T.d_l_told (fun σ => passAt (takes_of rfl rfl rfl rfl) σ) (pa_cons (pv 0) (pa_cons (pv 2) (pa_cons (pv 2) (pa_cons pe_int pa_nil))))))
      (pss_cons (ps_if (pt_not (pt_val (pe_callS (G_l_same 9) (hr.mono (by decide)) (by rfl) T.g_l_same T.F_l_same.kp T.d_l_same (fun σ => passFS σ) (pa_cons (pv 4) (pa_cons (pv 3) pa_nil)))))
        (pss_one (ps_ret pe_bl))
        pss_nil)
      (pss_cons (ps_expr (bm_K K PySem.F.plainAttrs_list PySem.F.slot_list_append PySem.F.type_list_append mt_append (pe_ix (ix_tK K) (pv 4) pe_int (fun _ _ => rfl)) (pa_cons (pe_tup (pa_cons pe_int (pa_cons pe_int pa_nil))) pa_nil)))
      (pss_one (ps_ret (pe_callS (G_l_same 9) (hr.mono (by decide)) (by rfl) T.g_l_same T.F_l_same.kp T.d_l_same (fun σ => passAt (takes_of rfl rfl rfl rfl) σ) (pa_cons (pe_callS G_l_told (hr.mono (by decide)) (by rfl) T.g_l_told T.F_l_told.kp T.d_l_told (fun σ => passAt (takes_of rfl rfl rfl rfl) σ) (pa_cons (pv 0) (pa_cons (pv 2) (pa_cons (pv 2) (pa_cons pe_int pa_nil))))) (pa_cons (pv 3) pa_nil))))))))), ?_⟩
  try dsimp only [cxOf]
  obtain ⟨web_here, table_here, first, nb, h⟩ := h
  refine Zm.body (js := [0, 1, 2, 3, 4]) (m := l_right_first_m web_here table_here first) nb h ?_
  refine zm_to (Γ2 := [(.val (dWeb T.A) web_here), (.val (dKL (ky := kyPair) (d := (dList (d := (dPair (d1 := dInt) (d2 := dInt)))))) table_here), (.val (dPair (d1 := dInt) (d2 := dInt)) first), .no, .no]) rfl ?_
  delta l_right_first_m
  refine zm_set (i := 3) rfl (by decide) (we_eq (we_tup2 we_str (we_o (oe_call2 hs_l_reached rfl (we_var rfl) (we_var rfl)))) rfl) fun due_2 => ?_
  refine zm_setO (i := 4) rfl (by decide) (oe_eq (oe_call4 hs_l_told rfl (we_var rfl) (we_var rfl) (we_var rfl) we_int) rfl) fun told_here_3 => ?_
  refine zm_if (te_eq (te_not (te_B (we_borrow 4 rfl (we_call2 hs_l_same rfl (we_var rfl) (we_U (we_var rfl)))))) rfl) ?_ ?_
  · exact zm_ret (we_eq we_bl rfl)
  · refine zm_skip ?_
    refine zm_appU (i := 4) rfl (by decide) (re_eq (re_w we_int) rfl) (we_eq (we_UI (we_tup2 we_int we_int)) rfl) fun told_here_5 => ?_
    refine zm_last ?_
    exact zm_ret (we_eq (we_call2 hs_l_same rfl (we_o (oe_call4 hs_l_told rfl (we_var rfl) (we_var rfl) (we_var rfl) we_int)) (we_U (we_var rfl))) rfl)
end K10

namespace K10
open PySem L2 G PM
set_option maxHeartbeats 4000000 in
theorem ok_l_far {P : Program} {w : World} {K : PySem.W.Frag} {mg : Str → Option Value} {base : Heap} (T : Txt K mg) : FnOk P w K mg base (L2.CX P w) 1 T.a_l_far T.f_l_far ["_law_table_here", "_law_last"] (sp_l_far ⟨P, w, K⟩ T.A) := by
  have nd := sc_l_far.nd
  refine T.F_l_far.okX sc_l_far (fun vs H Q E h => ?_) (fun cdv A outer s H vs Q E hr h => ?_)
  · exact sp_l_far_len h
  have hu := hu_of hr
  refine ⟨_, (pss_cons (ps_set (i := 2) nd rfl (Or.inl rfl) (pe_dispT hu (pv 1) pe_int))
      (pss_cons (ps_set (i := 3) nd rfl (Or.inl rfl) (pe_lst (pa_cons (pv 1) pa_nil)))
      (pss_cons (ps_for (passes_of rfl) rfl (pi_range1 (by rfl) T.b_range (pa_cons (pe_callB call_len_dTR (by rfl) T.b_len (by decide +kernel) (pa_cons (pv 0) pa_nil)) pa_nil)) (pg_name (i := 4) nd rfl (Or.inl rfl))
        (pss_one (ps_if (pt_cmpR op_lt (pv 4) (pe_callB (len_K K) (by rfl) T.b_len (by decide +kernel) (pa_cons (pv 3) pa_nil)) (nomark _))
        (pss_one (ps_for (passes_of rfl) rfl (pi_keys (pv 0)) (pg_name (i := 5) nd rfl (Or.inl rfl))
        (pss_one (ps_if (PW.pt (pw_and (pt_cmpR (ind_K K (hu65 hr)) (pe_ix (ix_lK K) (pv 3) (pv 4) (fun _ _ => rfl)) (pe_dget hu (pv 0) (pv 5) (fun _ _ => rfl)) (by with_unfolding_all rfl)) (pw_and1 (pt_cmp (pc_dnotin hu (pv 5) (pv 2))))))
        (pss_cons (ps_dput hu (pv 2) (pv 5) (pe_op op_add (pe_dget hu (pv 2) (pe_ix (ix_lK K) (pv 3) (pv 4) (fun _ _ => rfl)) (fun _ _ => rfl)) pe_int) rfl)
      (pss_one (ps_expr (bm_K K PySem.F.plainAttrs_list PySem.F.slot_list_append PySem.F.type_list_append mt_append (pv 3) (pa_cons (pv 5) pa_nil)))))
        pss_nil))))
        pss_nil)))
      (pss_one (ps_lockP (ps_ret (pv 2))))))), ?_⟩
  try dsimp only [cxOf]
  obtain ⟨table_here, last, nb, h⟩ := h
  refine Zm.body (js := [0, 1, 2, 3, 4, 5]) (m := l_far_m table_here last) nb h ?_
  refine zm_to (Γ2 := [(.val (dKL (ky := kyPair) (d := (dList (d := (dPair (d1 := dInt) (d2 := dInt)))))) table_here), (.val (dPair (d1 := dInt) (d2 := dInt)) last), .no, .no, .no, .no]) rfl ?_
  delta l_far_m
  refine zm_setO (i := 2) rfl (by decide) (oe_eq (oe_dispT (ky := kyPair) (d := dInt) rfl fun _ _ => rfl) rfl) fun far_here_1 => ?_
  refine zm_setO (i := 3) rfl (by decide) (oe_eq (oe_lstN (wle_cons (we_var rfl) wle_nil) (asLenS asLen0) (by decide)) rfl) fun row_2 => ?_
  refine zm_for [4, 5] (fun s3 => [(.val (dKL (ky := kyPair) (d := (dList (d := (dPair (d1 := dInt) (d2 := dInt)))))) table_here), (.val (dPair (d1 := dInt) (d2 := dInt)) last), (.own (dDK (ky := kyPair) (d := dInt)) (oDK (ky := kyPair) (d := dInt)) none s3.1), (.own (dList (d := (dPair (d1 := dInt) (d2 := dInt)))) (oList (d := (dPair (d1 := dInt) (d2 := dInt)))) none s3.2), .no, .no]) (far_here_1, row_2) (wlen 6 (by exact rfl) (by exact rfl) (by decide)) rfl (fun _ => (wlen 6 (by exact rfl) (by exact rfl) (by decide))) (ie_eq (ie_range (re_w (we_lenDK (re_w (we_hH (we_var rfl)))))) rfl) (fun s3 x4 => (a_name rfl ⟨(wlen 6 (by exact rfl) (by exact rfl) (by decide)), ?_⟩)) fun s17 => ?_
  · refine zm_last ?_
    refine zm_ifP (te_eq (te_test (we_lt (re_w (we_var rfl)) (re_w (we_len (re_varO rfl))))) rfl) ?_ ?_
    · refine zm_for [5] (fun s5 => [(.val (dKL (ky := kyPair) (d := (dList (d := (dPair (d1 := dInt) (d2 := dInt)))))) table_here), (.val (dPair (d1 := dInt) (d2 := dInt)) last), (.own (dDK (ky := kyPair) (d := dInt)) (oDK (ky := kyPair) (d := dInt)) none s5.1), (.own (dList (d := (dPair (d1 := dInt) (d2 := dInt)))) (oList (d := (dPair (d1 := dInt) (d2 := dInt)))) none s5.2), (.val dInt x4), .no]) (s3.1, s3.2) (wlen 6 (by exact rfl) (by exact rfl) (by decide)) rfl (fun _ => (wlen 6 (by exact rfl) (by exact rfl) (by decide))) (ie_eq (ie_keysT (we_var rfl)) rfl) (fun s5 x6 => (a_name rfl ⟨(wlen 6 (by exact rfl) (by exact rfl) (by decide)), ?_⟩)) fun s15 => ?_
      · refine zm_last ?_
        refine zm_if (te_eq (te_and (te_test (we_inD (by decide) (re_w (we_ixO rfl (re_w (we_var rfl)))) (re_w (we_dgetK (we_hH (we_var rfl)) (re_w (we_var rfl)))))) (te_B (we_notinDK (re_w (we_var rfl)) (re_varO rfl)))) rfl) ?_ ?_
        · refine zm_assoc ?_
          refine zm_dputK (i := 2) rfl (by decide) (we_eq (we_add (re_w (we_dgetKO rfl (re_w (we_ixO rfl (re_w (we_var rfl)))))) (re_w we_int)) rfl) (re_eq (re_w (we_var rfl)) rfl) fun far_here_12 => ?_
          refine zm_append (i := 3) rfl (by decide) (we_eq (we_var rfl) rfl) fun row_13 => ?_
          exact zm_nextL rfl
        · refine zm_skip ?_
          exact zm_nextL rfl
      · exact zm_nextL rfl
    · refine zm_skip ?_
      exact zm_nextL rfl
  · refine zm_last ?_
    refine zm_lock 2 rfl (by decide) ?_
    exact zm_ret (we_eq (we_var rfl) rfl)
end K10

namespace K10
open PySem L2 G PM
set_option maxHeartbeats 4000000 in
theorem ok_l_lowest {P : Program} {w : World} {K : PySem.W.Frag} {mg : Str → Option Value} {base : Heap} (T : Txt K mg) : FnOk P w K mg base (L2.CX P w) 1 T.a_l_lowest T.f_l_lowest ["_law_table_here", "_law_far_here", "_law_first"] (sp_l_lowest ⟨P, w, K⟩ T.A) := by
  have nd := sc_l_lowest.nd
  refine T.F_l_lowest.okX sc_l_lowest (fun vs H Q E h => ?_) (fun cdv A outer s H vs Q E hr h => ?_)
  · exact sp_l_lowest_len h
  have hu := hu_of hr
  refine ⟨_, (pss_cons (ps_if (pt_cmp (pc_dnotin hu (pv 2) (pv 1)))
        (pss_one (ps_ret pe_non))
        pss_nil)
      (pss_cons (ps_set (i := 3) nd rfl (Or.inl rfl) (pe_lst (pa_cons (pv 2) pa_nil)))
      (pss_cons (ps_for (passes_of rfl) rfl (pi_range1 (by rfl) T.b_range (pa_cons (pe_dget hu (pv 1) (pv 2) (fun _ _ => rfl)) pa_nil)) (pg_name (i := 4) nd rfl (Or.inl rfl))
        (pss_one (ps_for (passes_of rfl) rfl (pi_lK K (pe_dget hu (pv 0) (pe_ix (ix_lK K) (pv 3) (pe_un un_neg pe_int) (fun _ _ => rfl)) (fun _ _ => rfl))) (pg_name (i := 5) nd rfl (Or.inl rfl))
        (pss_one (ps_if (PW.pt (pw_and (pt_cmp (pc_din hu (pv 5) (pv 1))) (pw_and1 (pt_cmpR op_eq (pe_dget hu (pv 1) (pv 5) (fun _ _ => rfl)) (pe_op op_sub (pe_dget hu (pv 1) (pe_ix (ix_lK K) (pv 3) (pe_un un_neg pe_int) (fun _ _ => rfl)) (fun _ _ => rfl)) pe_int) (nomark _)))))
        (pss_cons (ps_expr (bm_K K PySem.F.plainAttrs_list PySem.F.slot_list_append PySem.F.type_list_append mt_append (pv 3) (pa_cons (pv 5) pa_nil)))
      (pss_one ps_break))
        pss_nil)))))
      (pss_one (ps_ret (pv 3)))))), ?_⟩
  try dsimp only [cxOf]
  obtain ⟨table_here, far_here, first, nb, h⟩ := h
  refine Zm.body (js := [0, 1, 2, 3, 4, 5]) (m := l_lowest_m table_here far_here first) nb h ?_
  refine zm_to (Γ2 := [(.val (dKL (ky := kyPair) (d := (dList (d := (dPair (d1 := dInt) (d2 := dInt)))))) table_here), (.val (dKL (ky := kyPair) (d := dInt)) far_here), (.val (dPair (d1 := dInt) (d2 := dInt)) first), .no, .no, .no]) rfl ?_
  delta l_lowest_m
  refine zm_ifP (te_eq (te_B (we_notinDK (re_w (we_var rfl)) (re_w (we_hH (we_var rfl))))) rfl) ?_ ?_
  · exact zm_ret (we_eq (we_nonO (d := (dList (d := (dPair (d1 := dInt) (d2 := dInt)))))) rfl)
  · refine zm_skip ?_
    refine zm_setO (i := 3) rfl (by decide) (oe_eq (oe_lstN (wle_cons (we_var rfl) wle_nil) (asLenS asLen0) (by decide)) rfl) fun walk_1 => ?_
    refine zm_for [4, 5] (fun s2 => [(.val (dKL (ky := kyPair) (d := (dList (d := (dPair (d1 := dInt) (d2 := dInt)))))) table_here), (.val (dKL (ky := kyPair) (d := dInt)) far_here), (.val (dPair (d1 := dInt) (d2 := dInt)) first), (.own (dList (d := (dPair (d1 := dInt) (d2 := dInt)))) (oList (d := (dPair (d1 := dInt) (d2 := dInt)))) none s2), .no, .no]) walk_1 (wlen 6 (by exact rfl) (by exact rfl) (by decide)) rfl (fun _ => (wlen 6 (by exact rfl) (by exact rfl) (by decide))) (ie_eq (ie_range (re_w (we_dgetK (we_hH (we_var rfl)) (re_w (we_var rfl))))) rfl) (fun s2 x4 => (a_name rfl ⟨(wlen 6 (by exact rfl) (by exact rfl) (by decide)), ?_⟩)) fun s17 => ?_
    · refine zm_last ?_
      refine zm_forC [5] (fun s5 => [(.val (dKL (ky := kyPair) (d := (dList (d := (dPair (d1 := dInt) (d2 := dInt)))))) table_here), (.val (dKL (ky := kyPair) (d := dInt)) far_here), (.val (dPair (d1 := dInt) (d2 := dInt)) first), (.own (dList (d := (dPair (d1 := dInt) (d2 := dInt)))) (oList (d := (dPair (d1 := dInt) (d2 := dInt)))) none s5), (.val dInt x4), .no]) (fun (r : Empty) => nomatch r) s2 (wlen 6 (by exact rfl) (by exact rfl) (by decide)) rfl (fun _ => (wlen 6 (by exact rfl) (by exact rfl) (by decide))) (ie_eq (ie_list (we_dgetK (we_hH (we_var rfl)) (re_w (we_ixO rfl (re_w (we_neg (re_w we_int))))))) rfl) (fun s5 x7 => (a_name rfl ⟨(wlen 6 (by exact rfl) (by exact rfl) (by decide)), ?_⟩)) (fun r => nomatch r) fun s14 => ?_
      · refine zm_last ?_
        refine zm_if (te_eq (te_and (te_B (we_inDK (re_w (we_var rfl)) (re_w (we_hH (we_var rfl))))) (te_test (we_eqS (re_w (we_dgetK (we_hH (we_var rfl)) (re_w (we_var rfl)))) (re_w (we_sub (re_w (we_dgetK (we_hH (we_var rfl)) (re_w (we_ixO rfl (re_w (we_neg (re_w we_int))))))) (re_w we_int)))))) rfl) ?_ ?_
        · refine zm_assoc ?_
          refine zm_append (i := 3) rfl (by decide) (we_eq (we_var rfl) rfl) fun walk_12 => ?_
          exact zm_breakC rfl
        · refine zm_skip ?_
          exact zm_nextC rfl
      · exact zm_nextL rfl
    · refine zm_last ?_
      refine zm_frz 3 rfl (by decide) ?_
      exact zm_ret (we_eq (we_some (we_var rfl)) rfl)
end K10

namespace K10
open PySem L2 G PM
set_option maxHeartbeats 4000000 in
theorem ok_l_right_last {P : Program} {w : World} {K : PySem.W.Frag} {mg : Str → Option Value} {base : Heap} (T : Txt K mg) (G_l_far : FnOk P w K mg base (L2.CX P w) 1 T.a_l_far T.f_l_far ["_law_table_here", "_law_last"] (sp_l_far ⟨P, w, K⟩ T.A)) (G_l_lowest : FnOk P w K mg base (L2.CX P w) 1 T.a_l_lowest T.f_l_lowest ["_law_table_here", "_law_far_here", "_law_first"] (sp_l_lowest ⟨P, w, K⟩ T.A)) (G_l_told : FnOk P w K mg base (L2.CX P w) 7 T.a_l_told T.f_l_told ["_law_web_here", "_law_first", "_law_last", "_law_which"] (sp_l_told ⟨P, w, K⟩ T.A)) (G_l_same : ∀ n : Nat, FnOk P w K mg base (L2.CX P w) (n + 1) T.a_l_same T.f_l_same ["_law_told_here", "_law_due"] (sp_l_same n ⟨P, w, K⟩ T.A)) : FnOk P w K mg base (L2.CX P w) 11 T.a_l_right_last T.f_l_right_last ["_law_web_here", "_law_table_here", "_law_first", "_law_last"] (sp_l_right_last ⟨P, w, K⟩ T.A) := by
  have nd := sc_l_right_last.nd
  refine T.F_l_right_last.okX sc_l_right_last (fun vs H Q E h => ?_) (fun cdv A outer s H vs Q E hr h => ?_)
  · exact sp_l_right_last_len h
  have hu := hu_of hr
  refine ⟨_, (pss_cons (ps_set (i := 4) nd rfl (Or.inl rfl) (pe_callS G_l_lowest (hr.mono (by decide)) (by rfl) T.g_l_lowest T.F_l_lowest.kp T.d_l_lowest (fun σ => passAt (takes_of rfl rfl rfl rfl) σ) (pa_cons (pv 1) (pa_cons (pe_callS G_l_far (hr.mono (by decide)) (by rfl) T.g_l_far T.F_l_far.kp T.d_l_far (fun σ => passAt (takes_of rfl rfl rfl rfl) σ) (pa_cons (pv 1) (pa_cons (pv 3) pa_nil))) (pa_cons (pv 2) pa_nil)))))
      (pss_cons (ps_set (i := 5) nd rfl (Or.inl rfl) (pe_callS G_l_told (hr.mono (by decide)) (by rfl) T.g_l_told T.F_l_told.kp T.d_l_told (fun σ => passAt (takes_of rfl rfl rfl rfl) σ) (pa_cons (pv 0) (pa_cons (pv 2) (pa_cons (pv 3) (pa_cons pe_int pa_nil))))))
      (pss_cons (ps_if (pt_not (pt_val (pe_callS (G_l_same 9) (hr.mono (by decide)) (by rfl) T.g_l_same T.F_l_same.kp T.d_l_same (fun σ => passFS σ) (pa_cons (pv 5) (pa_cons (pe_tup (pa_cons pe_str (pa_cons (pv 4) pa_nil))) pa_nil)))))
        (pss_one (ps_ret pe_bl))
        pss_nil)
      (pss_cons (ps_if (pt_cmpR op_notN (pv 4) pe_non (nomark _))
        (pss_one (ps_expr (bm_K K PySem.F.plainAttrs_list PySem.F.slot_list_append PySem.F.type_list_append mt_append (pe_ix (ix_tK K) (pv 5) pe_int (fun _ _ => rfl)) (pa_cons (pe_tup (pa_cons pe_int (pa_cons pe_int pa_nil))) pa_nil))))
        pss_nil)
      (pss_one (ps_ret (pe_callS (G_l_same 9) (hr.mono (by decide)) (by rfl) T.g_l_same T.F_l_same.kp T.d_l_same (fun σ => passAt (takes_of rfl rfl rfl rfl) σ) (pa_cons (pe_callS G_l_told (hr.mono (by decide)) (by rfl) T.g_l_told T.F_l_told.kp T.d_l_told (fun σ => passAt (takes_of rfl rfl rfl rfl) σ) (pa_cons (pv 0) (pa_cons (pv 2) (pa_cons (pv 3) (pa_cons pe_int pa_nil))))) (pa_cons (pe_tup (pa_cons pe_str (pa_cons (pv 4) pa_nil))) pa_nil))))))))), ?_⟩
  try dsimp only [cxOf]
  obtain ⟨web_here, table_here, first, last, nb, h⟩ := h
  refine Zm.body (js := [0, 1, 2, 3, 4, 5]) (m := l_right_last_m web_here table_here first last) nb h ?_
  refine zm_to (Γ2 := [(.val (dWeb T.A) web_here), (.val (dKL (ky := kyPair) (d := (dList (d := (dPair (d1 := dInt) (d2 := dInt)))))) table_here), (.val (dPair (d1 := dInt) (d2 := dInt)) first), (.val (dPair (d1 := dInt) (d2 := dInt)) last), .no, .no]) rfl ?_
  delta l_right_last_m
  refine zm_set (i := 4) rfl (by decide) (we_eq (we_call3 hs_l_lowest rfl (we_var rfl) (we_call2 hs_l_far rfl (we_var rfl) (we_var rfl)) (we_var rfl)) rfl) fun due_2 => ?_
  refine zm_setO (i := 5) rfl (by decide) (oe_eq (oe_call4 hs_l_told rfl (we_var rfl) (we_var rfl) (we_var rfl) we_int) rfl) fun told_here_3 => ?_
  refine zm_if (te_eq (te_not (te_B (we_borrow 5 rfl (we_call2 hs_l_same rfl (we_var rfl) (we_U (we_tup2 we_str (we_var rfl))))))) rfl) ?_ ?_
  · exact zm_ret (we_eq we_bl rfl)
  · refine zm_skip ?_
    refine zm_join [5] (fun s6 => [(.val (dWeb T.A) web_here), (.val (dKL (ky := kyPair) (d := (dList (d := (dPair (d1 := dInt) (d2 := dInt)))))) table_here), (.val (dPair (d1 := dInt) (d2 := dInt)) first), (.val (dPair (d1 := dInt) (d2 := dInt)) last), (.val (dOpt (d := (dList (d := (dPair (d1 := dInt) (d2 := dInt)))))) due_2), .no]) (fun _ => (wlen 6 (by exact rfl) (by exact rfl) (by decide))) ?_ fun s6 => ?_
    · refine zm_last (zm_ifP (te_eq (te_test (we_notN (re_w (we_var rfl)))) rfl) ?_ ?_)
      · refine zm_appU (i := 5) rfl (by decide) (re_eq (re_w we_int) rfl) (we_eq (we_UI (we_tup2 we_int we_int)) rfl) fun told_here_5 => ?_
        exact zm_nextJ rfl
      · refine zm_skip ?_
        exact zm_nextJ rfl
    · refine zm_last ?_
      exact zm_ret (we_eq (we_call2 hs_l_same rfl (we_o (oe_call4 hs_l_told rfl (we_var rfl) (we_var rfl) (we_var rfl) we_int)) (we_U (we_tup2 we_str (we_var rfl)))) rfl)
end K10

namespace K10
open PySem L2 G PM
set_option maxHeartbeats 4000000 in
theorem ok_l_right_steps {P : Program} {w : World} {K : PySem.W.Frag} {mg : Str → Option Value} {base : Heap} (T : Txt K mg) (G_l_table : FnOk P w K mg base (L2.CX P w) 1 T.a_l_table T.f_l_table ["_law_ties"] (sp_l_table ⟨P, w, K⟩ T.A)) (G_l_pick : FnOk P w K mg base (L2.CX P w) 1 T.a_l_pick T.f_l_pick ["_law_draws_here", "_law_k", "_law_many"] (sp_l_pick ⟨P, w, K⟩ T.A)) (G_l_right_first : FnOk P w K mg base (L2.CX P w) 11 T.a_l_right_first T.f_l_right_first ["_law_web_here", "_law_table_here", "_law_first"] (sp_l_right_first ⟨P, w, K⟩ T.A)) (G_l_right_last : FnOk P w K mg base (L2.CX P w) 11 T.a_l_right_last T.f_l_right_last ["_law_web_here", "_law_table_here", "_law_first", "_law_last"] (sp_l_right_last ⟨P, w, K⟩ T.A)) : FnOk P w K mg base (L2.CX P w) 12 T.a_l_right_steps T.f_l_right_steps ["_law_web_here", "_law_ties", "_law_draws_here", "_law_at", "_law_many"] (sp_l_right_steps ⟨P, w, K⟩ T.A) := by
  have nd := sc_l_right_steps.nd
  refine T.F_l_right_steps.okX sc_l_right_steps (fun vs H Q E h => ?_) (fun cdv A outer s H vs Q E hr h => ?_)
  · exact sp_l_right_steps_len h
  have hu := hu_of hr
  refine ⟨_, (pss_cons (ps_if (pt_cmpR op_eq (pe_callB (len_K K) (by rfl) T.b_len (by decide +kernel) (pa_cons (pv 1) pa_nil)) pe_int (nomark _))
        (pss_one (ps_ret pe_bl))
        pss_nil)
      (pss_cons (ps_set (i := 5) nd rfl (Or.inl rfl) (pe_callS G_l_table (hr.mono (by decide)) (by rfl) T.g_l_table T.F_l_table.kp T.d_l_table (fun σ => passAt (takes_of rfl rfl rfl rfl) σ) (pa_cons (pv 1) pa_nil)))
      (pss_cons (ps_set (i := 6) nd rfl (Or.inl rfl) (pe_tup (pa_cons (pe_callS G_l_pick (hr.mono (by decide)) (by rfl) T.g_l_pick T.F_l_pick.kp T.d_l_pick (fun σ => passAt (takes_of rfl rfl rfl rfl) σ) (pa_cons (pv 2) (pa_cons (pv 3) (pa_cons (pe_callB (len_K K) (by rfl) T.b_len (by decide +kernel) (pa_cons (pv 1) pa_nil)) pa_nil)))) (pa_cons (pe_callS G_l_pick (hr.mono (by decide)) (by rfl) T.g_l_pick T.F_l_pick.kp T.d_l_pick (fun σ => passAt (takes_of rfl rfl rfl rfl) σ) (pa_cons (pv 2) (pa_cons (pe_op op_add (pv 3) pe_int) (pa_cons pe_int pa_nil)))) pa_nil))))
      (pss_cons (ps_set (i := 7) nd rfl (Or.inl rfl) (pe_tup (pa_cons (pe_ix (ix_tK K) (pv 6) pe_int (fun _ _ => rfl)) (pa_cons (pe_op op_sub pe_int (pe_ix (ix_tK K) (pv 6) pe_int (fun _ _ => rfl))) pa_nil))))
      (pss_cons (ps_if (PW.pt (pw_or (pt_not (pt_val (pe_callS G_l_right_first (hr.mono (by decide)) (by rfl) T.g_l_right_first T.F_l_right_first.kp T.d_l_right_first (fun σ => passAt (takes_of rfl rfl rfl rfl) σ) (pa_cons (pv 0) (pa_cons (pv 5) (pa_cons (pv 6) pa_nil)))))) (pw_or1 (pt_not (pt_val (pe_callS G_l_right_first (hr.mono (by decide)) (by rfl) T.g_l_right_first T.F_l_right_first.kp T.d_l_right_first (fun σ => passAt (takes_of rfl rfl rfl rfl) σ) (pa_cons (pv 0) (pa_cons (pv 5) (pa_cons (pv 7) pa_nil)))))))))
        (pss_one (ps_ret pe_bl))
        pss_nil)
      (pss_cons (ps_set (i := 8) nd rfl (Or.inl rfl) (pe_lst (pa_cons (pv 6) (pa_cons (pv 7) pa_nil))))
      (pss_cons (ps_for (passes_of rfl) rfl (pi_range1 (by rfl) T.b_range (pa_cons (pv 4) pa_nil)) (pg_name (i := 9) nd rfl (Or.inl rfl))
        (pss_one (ps_expr (bm_K K PySem.F.plainAttrs_list PySem.F.slot_list_append PySem.F.type_list_append mt_append (pv 8) (pa_cons (pe_tup (pa_cons (pe_callS G_l_pick (hr.mono (by decide)) (by rfl) T.g_l_pick T.F_l_pick.kp T.d_l_pick (fun σ => passAt (takes_of rfl rfl rfl rfl) σ) (pa_cons (pv 2) (pa_cons (pe_op op_add (pe_op op_add (pv 3) pe_int) (pe_op op_mul pe_int (pv 9))) (pa_cons (pe_callB (len_K K) (by rfl) T.b_len (by decide +kernel) (pa_cons (pv 1) pa_nil)) pa_nil)))) (pa_cons (pe_callS G_l_pick (hr.mono (by decide)) (by rfl) T.g_l_pick T.F_l_pick.kp T.d_l_pick (fun σ => passAt (takes_of rfl rfl rfl rfl) σ) (pa_cons (pv 2) (pa_cons (pe_op op_add (pe_op op_add (pv 3) pe_int) (pe_op op_mul pe_int (pv 9))) (pa_cons pe_int pa_nil)))) pa_nil))) pa_nil)))))
      (pss_cons (ps_if (PW.pt (pw_and (pt_cmpR op_eq (pv 4) pe_int (nomark _)) (pw_and1 (pt_cmpR op_lt (pe_callB call_len_dTR (by rfl) T.b_len (by decide +kernel) (pa_cons (pv 5) pa_nil)) pe_int (nomark _)))))
        (pss_one (ps_setLc (i := 8) (own := [("_law_step", 11)]) (by rfl) nd rfl rfl (sw_true rfl rfl rfl (by decide +kernel)) (pi_keys (pv 5)) (blkOk_by (own := [("_law_step", 11)]) (N := N_l_right_steps) (sc := defScope s_l_right_steps) (by decide +kernel)) (fun _ _ _ _ _ => (pg_name (i := 11) nd rfl (Or.inl rfl))) (fun _ _ _ _ _ => pts_nil) (fun _ _ _ _ _ => (pv 11))))
        pss_nil)
      (pss_cons (ps_for (passes_of rfl) rfl (pi_lK K (pv 8)) (pg_name (i := 10) nd rfl (Or.inl rfl))
        (pss_one (ps_if (pt_not (pt_val (pe_callS G_l_right_last (hr.mono (by decide)) (by rfl) T.g_l_right_last T.F_l_right_last.kp T.d_l_right_last (fun σ => passAt (takes_of rfl rfl rfl rfl) σ) (pa_cons (pv 0) (pa_cons (pv 5) (pa_cons (pv 6) (pa_cons (pv 10) pa_nil)))))))
        (pss_one (ps_ret pe_bl))
        pss_nil)))
      (pss_one (ps_ret pe_bl))))))))))), ?_⟩
  try dsimp only [cxOf]
  obtain ⟨web_here, ties, draws_here, at_, many, nb, h⟩ := h
  refine Zm.body (js := [0, 1, 2, 3, 4, 5, 6, 7, 8, 9, 10, 11]) (m := l_right_steps_m web_here ties draws_here at_ many) nb h ?_
  refine zm_to (Γ2 := [(.val (dWeb T.A) web_here), (.val (dList (d := (dT4 (d1 := dInt) (d2 := dInt) (d3 := dInt) (d4 := dInt)))) ties), (.val (dList (d := dInt)) draws_here), (.val dInt at_), (.val dInt many), .no, .no, .no, .no, .no, .no, .no]) rfl ?_
  delta l_right_steps_m
  refine zm_ifP (te_eq (te_test (we_eqS (re_w (we_len (re_w (we_var rfl)))) (re_w we_int))) rfl) ?_ ?_
  · exact zm_ret (we_eq we_bl rfl)
  · refine zm_skip ?_
    refine zm_set (i := 5) rfl (by decide) (we_eq (we_call1 hs_l_table rfl (we_var rfl)) rfl) fun table_here_1 => ?_
    refine zm_set (i := 6) rfl (by decide) (we_eq (we_tup2 (we_call3 hs_l_pick rfl (we_var rfl) (we_var rfl) (we_len (re_w (we_var rfl)))) (we_call3 hs_l_pick rfl (we_var rfl) (we_add (re_w (we_var rfl)) (re_w we_int)) we_int)) rfl) fun first_4 => ?_
    refine zm_set (i := 7) rfl (by decide) (we_eq (we_tup2 (we_fst (we_var rfl)) (we_sub (re_w we_int) (re_w (we_snd (we_var rfl))))) rfl) fun back_5 => ?_
    refine zm_if (te_eq (te_or (te_not (te_B (we_call3 hs_l_right_first rfl (we_var rfl) (we_var rfl) (we_var rfl)))) (te_not (te_B (we_call3 hs_l_right_first rfl (we_var rfl) (we_var rfl) (we_var rfl))))) rfl) ?_ ?_
    · exact zm_ret (we_eq we_bl rfl)
    · refine zm_skip ?_
      refine zm_setO (i := 8) rfl (by decide) (oe_eq (oe_lstN (wle_cons (we_var rfl) (wle_cons (we_var rfl) wle_nil)) (asLenS (asLenS asLen0)) (by decide)) rfl) fun lasts_9 => ?_
      refine zm_for [9] (fun s10 => [(.val (dWeb T.A) web_here), (.val (dList (d := (dT4 (d1 := dInt) (d2 := dInt) (d3 := dInt) (d4 := dInt)))) ties), (.val (dList (d := dInt)) draws_here), (.val dInt at_), (.val dInt many), (.val (dKL (ky := kyPair) (d := (dList (d := (dPair (d1 := dInt) (d2 := dInt)))))) table_here_1), (.val (dPair (d1 := dInt) (d2 := dInt)) first_4), (.val (dPair (d1 := dInt) (d2 := dInt)) back_5), (.own (dList (d := (dPair (d1 := dInt) (d2 := dInt)))) (oList (d := (dPair (d1 := dInt) (d2 := dInt)))) none s10), .no, .no, .no]) lasts_9 (wlen 12 (by exact rfl) (by exact rfl) (by decide)) rfl (fun _ => (wlen 12 (by exact rfl) (by exact rfl) (by decide))) (ie_eq (ie_range (re_w (we_var rfl))) rfl) (fun s10 x11 => (a_name rfl ⟨(wlen 12 (by exact rfl) (by exact rfl) (by decide)), ?_⟩)) fun s15 => ?_
      · refine zm_last ?_
        refine zm_append (i := 8) rfl (by decide) (we_eq (we_tup2 (we_call3 hs_l_pick rfl (we_var rfl) (we_add (re_w (we_add (re_w (we_var rfl)) (re_w we_int))) (re_w (we_mulCl (re_w we_int) (re_w (we_var rfl))))) (we_len (re_w (we_var rfl)))) (we_call3 hs_l_pick rfl (we_var rfl) (we_add (re_w (we_add (re_w (we_var rfl)) (re_w we_int))) (re_w (we_mulCl (re_w we_int) (re_w (we_var rfl))))) we_int)) rfl) fun lasts_14 => ?_
        exact zm_nextL rfl
      · refine zm_join [] (fun s18 => [(.val (dWeb T.A) web_here), (.val (dList (d := (dT4 (d1 := dInt) (d2 := dInt) (d3 := dInt) (d4 := dInt)))) ties), (.val (dList (d := dInt)) draws_here), (.val dInt at_), (.val dInt many), (.val (dKL (ky := kyPair) (d := (dList (d := (dPair (d1 := dInt) (d2 := dInt)))))) table_here_1), (.val (dPair (d1 := dInt) (d2 := dInt)) first_4), (.val (dPair (d1 := dInt) (d2 := dInt)) back_5), (.own (dList (d := (dPair (d1 := dInt) (d2 := dInt)))) (oList (d := (dPair (d1 := dInt) (d2 := dInt)))) none s18), .no, .no, .no]) (fun _ => (wlen 12 (by exact rfl) (by exact rfl) (by decide))) ?_ fun s18 => ?_
        · refine zm_last (zm_ifP (te_eq (te_andP (te_test (we_eqS (re_w (we_var rfl)) (re_w we_int))) (te_test (we_lt (re_w (we_lenDK (re_w (we_hH (we_var rfl))))) (re_w we_int)))) rfl) ?_ ?_)
          · refine zm_setO (i := 8) rfl (by decide) (oe_eq (oe_lc (tg_name' (by decide)) (ic_keysT (we_var rfl)) fun x16 => (a_name rfl ⟨te_yes, (we_var rfl)⟩)) rfl) fun lasts_17 => ?_
            exact zm_nextJ rfl
          · refine zm_skip ?_
            exact zm_nextJ rfl
        · refine zm_frz 8 rfl (by decide) ?_
          refine zm_forC [10] (fun (_ : Unit) => [(.val (dWeb T.A) web_here), (.val (dList (d := (dT4 (d1 := dInt) (d2 := dInt) (d3 := dInt) (d4 := dInt)))) ties), (.val (dList (d := dInt)) draws_here), (.val dInt at_), (.val dInt many), (.val (dKL (ky := kyPair) (d := (dList (d := (dPair (d1 := dInt) (d2 := dInt)))))) table_here_1), (.val (dPair (d1 := dInt) (d2 := dInt)) first_4), (.val (dPair (d1 := dInt) (d2 := dInt)) back_5), (.val (dList (d := (dPair (d1 := dInt) (d2 := dInt)))) s18), .no, .no, .no]) (fun r => .val dBool r) () (wlen 12 (by exact rfl) (by exact rfl) (by decide)) rfl (fun _ => (wlen 12 (by exact rfl) (by exact rfl) (by decide))) (ie_eq (ie_list (we_var rfl)) rfl) (fun _ x20 => (a_name rfl ⟨(wlen 12 (by exact rfl) (by exact rfl) (by decide)), ?_⟩)) rt_KF fun _ => ?_
          · refine zm_last ?_
            refine zm_if (te_eq (te_not (te_B (we_call4 hs_l_right_last rfl (we_var rfl) (we_var rfl) (we_var rfl) (we_var rfl)))) rfl) ?_ ?_
            · exact zm_retC (we_eq we_bl rfl)
            · refine zm_skip ?_
              exact zm_nextC rfl
          · refine zm_last ?_
            exact zm_ret (we_eq we_bl rfl)
end K10

namespace K10
open PySem L2 G PM
set_option maxHeartbeats 4000000 in
theorem ok_l_right_refusals {P : Program} {w : World} {K : PySem.W.Frag} {mg : Str → Option Value} {base : Heap} (T : Txt K mg) (G_l_pick : FnOk P w K mg base (L2.CX P w) 1 T.a_l_pick T.f_l_pick ["_law_draws_here", "_law_k", "_law_many"] (sp_l_pick ⟨P, w, K⟩ T.A)) (G_l_told : FnOk P w K mg base (L2.CX P w) 7 T.a_l_told T.f_l_told ["_law_web_here", "_law_first", "_law_last", "_law_which"] (sp_l_told ⟨P, w, K⟩ T.A)) (G_l_same : ∀ n : Nat, FnOk P w K mg base (L2.CX P w) (n + 1) T.a_l_same T.f_l_same ["_law_told_here", "_law_due"] (sp_l_same n ⟨P, w, K⟩ T.A)) : FnOk P w K mg base (L2.CX P w) 11 T.a_l_right_refusals T.f_l_right_refusals ["_law_web_here", "_law_ties", "_law_draws_here"] (sp_l_right_refusals ⟨P, w, K⟩ T.A) := by
  have nd := sc_l_right_refusals.nd
  refine T.F_l_right_refusals.okX sc_l_right_refusals (fun vs H Q E h => ?_) (fun cdv A outer s H vs Q E hr h => ?_)
  · exact sp_l_right_refusals_len h
  have hu := hu_of hr
  refine ⟨_, (pss_cons (ps_for (passes_of rfl) rfl (pi_lK K (pe_lst (pa_cons (pe_un un_neg pe_int) (pa_cons (pe_callB (len_K K) (by rfl) T.b_len (by decide +kernel) (pa_cons (pv 1) pa_nil)) (pa_cons (pe_op op_add (pe_callB (len_K K) (by rfl) T.b_len (by decide +kernel) (pa_cons (pv 1) pa_nil)) pe_int) pa_nil))))) (pg_name (i := 3) nd rfl (Or.inl rfl))
        (pss_one (ps_for (passes_of rfl) rfl (pi_range1 (by rfl) T.b_range (pa_cons pe_int pa_nil)) (pg_name (i := 4) nd rfl (Or.inl rfl))
        (pss_cons (ps_set (i := 5) nd rfl (Or.inl rfl) (pe_tup (pa_cons (pv 3) (pa_cons (pv 4) pa_nil))))
      (pss_cons (ps_set (i := 6) nd rfl (Or.inl rfl) (pe_tup (pa_cons (pe_ix (ix_lK K) (pe_lst (pa_cons (pe_un un_neg pe_int) (pa_cons (pe_callB (len_K K) (by rfl) T.b_len (by decide +kernel) (pa_cons (pv 1) pa_nil)) (pa_cons (pe_op op_add (pe_callB (len_K K) (by rfl) T.b_len (by decide +kernel) (pa_cons (pv 1) pa_nil)) pe_int) pa_nil)))) (pe_callS G_l_pick (hr.mono (by decide)) (by rfl) T.g_l_pick T.F_l_pick.kp T.d_l_pick (fun σ => passAt (takes_of rfl rfl rfl rfl) σ) (pa_cons (pv 2) (pa_cons (pe_op op_add pe_int (pv 4)) (pa_cons pe_int pa_nil)))) (fun _ _ => rfl)) (pa_cons (pe_op op_sub pe_int (pv 4)) pa_nil))))
      (pss_cons (ps_if (pt_not (pt_val (pe_callS (G_l_same 9) (hr.mono (by decide)) (by rfl) T.g_l_same T.F_l_same.kp T.d_l_same (fun σ => passAt (takes_of rfl rfl rfl rfl) σ) (pa_cons (pe_callS G_l_told (hr.mono (by decide)) (by rfl) T.g_l_told T.F_l_told.kp T.d_l_told (fun σ => passAt (takes_of rfl rfl rfl rfl) σ) (pa_cons (pv 0) (pa_cons (pv 5) (pa_cons (pv 5) (pa_cons pe_int pa_nil))))) (pa_cons (pe_tup (pa_cons pe_str (pa_cons (pv 3) pa_nil))) pa_nil)))))
        (pss_one (ps_ret pe_bl))
        pss_nil)
      (pss_cons (ps_if (pt_not (pt_val (pe_callS (G_l_same 9) (hr.mono (by decide)) (by rfl) T.g_l_same T.F_l_same.kp T.d_l_same (fun σ => passAt (takes_of rfl rfl rfl rfl) σ) (pa_cons (pe_callS G_l_told (hr.mono (by decide)) (by rfl) T.g_l_told T.F_l_told.kp T.d_l_told (fun σ => passAt (takes_of rfl rfl rfl rfl) σ) (pa_cons (pv 0) (pa_cons (pv 5) (pa_cons (pv 6) (pa_cons pe_int pa_nil))))) (pa_cons (pe_tup (pa_cons pe_str (pa_cons (pv 3) pa_nil))) pa_nil)))))
        (pss_one (ps_ret pe_bl))
        pss_nil)
      (pss_one (ps_if (pt_cmpR op_gt (pe_callB (len_K K) (by rfl) T.b_len (by decide +kernel) (pa_cons (pv 1) pa_nil)) pe_int (nomark _))
        (pss_cons (ps_set (i := 7) nd rfl (Or.inl rfl) (pe_tup (pa_cons (pe_callS G_l_pick (hr.mono (by decide)) (by rfl) T.g_l_pick T.F_l_pick.kp T.d_l_pick (fun σ => passAt (takes_of rfl rfl rfl rfl) σ) (pa_cons (pv 2) (pa_cons pe_int (pa_cons (pe_callB (len_K K) (by rfl) T.b_len (by decide +kernel) (pa_cons (pv 1) pa_nil)) pa_nil)))) (pa_cons (pe_callS G_l_pick (hr.mono (by decide)) (by rfl) T.g_l_pick T.F_l_pick.kp T.d_l_pick (fun σ => passAt (takes_of rfl rfl rfl rfl) σ) (pa_cons (pv 2) (pa_cons pe_int (pa_cons pe_int pa_nil)))) pa_nil))))
      (pss_one (ps_for (passes_of rfl) rfl (pi_lK K (pe_lst (pa_cons (pe_lst (pa_cons (pv 5) (pa_cons (pv 7) pa_nil))) (pa_cons (pe_lst (pa_cons (pv 7) (pa_cons (pv 5) pa_nil))) pa_nil)))) (pg_name (i := 8) nd rfl (Or.inl rfl))
        (pss_one (ps_if (pt_not (pt_val (pe_callS (G_l_same 9) (hr.mono (by decide)) (by rfl) T.g_l_same T.F_l_same.kp T.d_l_same (fun σ => passAt (takes_of rfl rfl rfl rfl) σ) (pa_cons (pe_callS G_l_told (hr.mono (by decide)) (by rfl) T.g_l_told T.F_l_told.kp T.d_l_told (fun σ => passAt (takes_of rfl rfl rfl rfl) σ) (pa_cons (pv 0) (pa_cons (pe_ix (ix_lK K) (pv 8) pe_int (fun _ _ => rfl)) (pa_cons (pe_ix (ix_lK K) (pv 8) pe_int (fun _ _ => rfl)) (pa_cons pe_int pa_nil))))) (pa_cons (pe_tup (pa_cons pe_str (pa_cons (pv 3) pa_nil))) pa_nil)))))
        (pss_one (ps_ret pe_bl))
        pss_nil)))))
        pss_nil)))))))))
      (pss_one (ps_ret pe_bl))), ?_⟩
  try dsimp only [cxOf]
  obtain ⟨web_here, ties, draws_here, nb, h⟩ := h
  refine Zm.body (js := [0, 1, 2, 3, 4, 5, 6, 7, 8]) (m := l_right_refusals_m web_here ties draws_here) nb h ?_
  refine zm_to (Γ2 := [(.val (dWeb T.A) web_here), (.val (dList (d := (dT4 (d1 := dInt) (d2 := dInt) (d3 := dInt) (d4 := dInt)))) ties), (.val (dList (d := dInt)) draws_here), .no, .no, .no, .no, .no, .no]) rfl ?_
  delta l_right_refusals_m
  refine zm_forC [3, 4, 5, 6, 7, 8] (fun (_ : Unit) => [(.val (dWeb T.A) web_here), (.val (dList (d := (dT4 (d1 := dInt) (d2 := dInt) (d3 := dInt) (d4 := dInt)))) ties), (.val (dList (d := dInt)) draws_here), .no, .no, .no, .no, .no, .no]) (fun r => .val dBool r) () (wlen 9 (by exact rfl) (by exact rfl) (by decide)) rfl (fun _ => (wlen 9 (by exact rfl) (by exact rfl) (by decide))) (ie_eq (ie_list (we_o (oe_lstN (wle_cons (we_neg (re_w we_int)) (wle_cons (we_len (re_w (we_var rfl))) (wle_cons (we_add (re_w (we_len (re_w (we_var rfl)))) (re_w we_int)) wle_nil))) (asLenS (asLenS (asLenS asLen0))) (by decide)))) rfl) (fun _ x2 => (a_name rfl ⟨(wlen 9 (by exact rfl) (by exact rfl) (by decide)), ?_⟩)) rt_KF fun _ => ?_
  · refine zm_last ?_
    refine zm_forC [4, 5, 6, 7, 8] (fun (_ : Unit) => [(.val (dWeb T.A) web_here), (.val (dList (d := (dT4 (d1 := dInt) (d2 := dInt) (d3 := dInt) (d4 := dInt)))) ties), (.val (dList (d := dInt)) draws_here), (.val dInt x2), .no, .no, .no, .no, .no]) (fun r => .val dBool r) () (wlen 9 (by exact rfl) (by exact rfl) (by decide)) rfl (fun _ => (wlen 9 (by exact rfl) (by exact rfl) (by decide))) (ie_eq (ie_range (re_w we_int)) rfl) (fun _ x4 => (a_name rfl ⟨(wlen 9 (by exact rfl) (by exact rfl) (by decide)), ?_⟩)) rt_KC fun _ => ?_
    · refine zm_set (i := 5) rfl (by decide) (we_eq (we_tup2 (we_var rfl) (we_var rfl)) rfl) fun bad_5 => ?_
      refine zm_set (i := 6) rfl (by decide) (we_eq (we_tup2 (we_ix (we_o (oe_lstN (wle_cons (we_neg (re_w we_int)) (wle_cons (we_len (re_w (we_var rfl))) (wle_cons (we_add (re_w (we_len (re_w (we_var rfl)))) (re_w we_int)) wle_nil))) (asLenS (asLenS (asLenS asLen0))) (by decide))) (re_w (we_call3 hs_l_pick rfl (we_var rfl) (we_add (re_w we_int) (re_w (we_var rfl))) we_int))) (we_sub (re_w we_int) (re_w (we_var rfl)))) rfl) fun worse_8 => ?_
      refine zm_if (te_eq (te_not (te_B (we_call2 hs_l_same rfl (we_o (oe_call4 hs_l_told rfl (we_var rfl) (we_var rfl) (we_var rfl) we_int)) (we_U (we_tup2 we_str (we_var rfl)))))) rfl) ?_ ?_
      · exact zm_retC (we_eq we_bl rfl)
      · refine zm_skip ?_
        refine zm_if (te_eq (te_not (te_B (we_call2 hs_l_same rfl (we_o (oe_call4 hs_l_told rfl (we_var rfl) (we_var rfl) (we_var rfl) we_int)) (we_U (we_tup2 we_str (we_var rfl)))))) rfl) ?_ ?_
        · exact zm_retC (we_eq we_bl rfl)
        · refine zm_skip ?_
          refine zm_last ?_
          refine zm_ifP (te_eq (te_test (we_gt (re_w (we_len (re_w (we_var rfl)))) (re_w we_int))) rfl) ?_ ?_
          · refine zm_assoc ?_
            refine zm_set (i := 7) rfl (by decide) (we_eq (we_tup2 (we_call3 hs_l_pick rfl (we_var rfl) we_int (we_len (re_w (we_var rfl)))) (we_call3 hs_l_pick rfl (we_var rfl) we_int we_int)) rfl) fun good_15 => ?_
            refine zm_forC [8] (fun (_ : Unit) => [(.val (dWeb T.A) web_here), (.val (dList (d := (dT4 (d1 := dInt) (d2 := dInt) (d3 := dInt) (d4 := dInt)))) ties), (.val (dList (d := dInt)) draws_here), (.val dInt x2), (.val dInt x4), (.val (dPair (d1 := dInt) (d2 := dInt)) bad_5), (.val (dPair (d1 := dInt) (d2 := dInt)) worse_8), (.val (dPair (d1 := dInt) (d2 := dInt)) good_15), .no]) (fun r => .val dBool r) () (wlen 9 (by exact rfl) (by exact rfl) (by decide)) rfl (fun _ => (wlen 9 (by exact rfl) (by exact rfl) (by decide))) (ie_eq (ie_list (we_o (oe_lstN (wle_cons (we_o (oe_lstN (wle_cons (we_var rfl) (wle_cons (we_var rfl) wle_nil)) (asLenS (asLenS asLen0)) (by decide))) (wle_cons (we_o (oe_lstN (wle_cons (we_var rfl) (wle_cons (we_var rfl) wle_nil)) (asLenS (asLenS asLen0)) (by decide))) wle_nil)) (asLenS (asLenS asLen0)) (by decide)))) rfl) (fun _ x17 => (a_name rfl ⟨(wlen 9 (by exact rfl) (by exact rfl) (by decide)), ?_⟩)) rt_KC fun _ => ?_
            · refine zm_last ?_
              refine zm_if (te_eq (te_not (te_B (we_call2 hs_l_same rfl (we_o (oe_call4 hs_l_told rfl (we_var rfl) (we_ix (we_var rfl) (re_w we_int)) (we_ix (we_var rfl) (re_w we_int)) we_int)) (we_U (we_tup2 we_str (we_var rfl)))))) rfl) ?_ ?_
              · exact zm_retC (we_eq we_bl rfl)
              · refine zm_skip ?_
                exact zm_nextC rfl
            · exact zm_nextC rfl
          · refine zm_skip ?_
            exact zm_nextC rfl
    · exact zm_nextC rfl
  · refine zm_last ?_
    exact zm_ret (we_eq we_bl rfl)
end K10

namespace K10
open PySem L2 G PM
set_option maxHeartbeats 4000000 in
theorem ok_law {P : Program} {w : World} {K : PySem.W.Frag} {mg : Str → Option Value} {base : Heap} (T : Txt K mg) (G_l_cell : FnOk P w K mg base (L2.CX P w) 1 T.a_l_cell T.f_l_cell ["_law_script", "_law_k"] (sp_l_cell ⟨P, w, K⟩ T.A)) (G_l_draws : FnOk P w K mg base (L2.CX P w) 1 T.a_l_draws T.f_l_draws ["_law_cell_here", "_law_many"] (sp_l_draws ⟨P, w, K⟩ T.A)) (G_l_pick : FnOk P w K mg base (L2.CX P w) 1 T.a_l_pick T.f_l_pick ["_law_draws_here", "_law_k", "_law_many"] (sp_l_pick ⟨P, w, K⟩ T.A)) (G_l_web : FnOk P w K mg base (L2.CX P w) 2 T.a_l_web T.f_l_web ["_law_draws_here", "_law_most_places", "_law_most_ties"] (sp_l_web ⟨P, w, K⟩ T.A)) (G_l_faced : FnOk P w K mg base (L2.CX P w) 2 T.a_l_faced T.f_l_faced ["_law_draws_here", "_law_most_places", "_law_most_ties"] (sp_l_faced ⟨P, w, K⟩ T.A)) (G_l_lane : FnOk P w K mg base (L2.CX P w) 2 T.a_l_lane T.f_l_lane ["_law_draws_here"] (sp_l_lane ⟨P, w, K⟩ T.A)) (G_m_WebX_initX : FnOk P w K mg base (L2.CX P w) 4 T.a_m_WebX_initX T.f_m_WebX_initX ["self", "sides", "ties"] (sp_m_WebX_initX ⟨P, w, K⟩ T.A)) (G_l_right_steps : FnOk P w K mg base (L2.CX P w) 12 T.a_l_right_steps T.f_l_right_steps ["_law_web_here", "_law_ties", "_law_draws_here", "_law_at", "_law_many"] (sp_l_right_steps ⟨P, w, K⟩ T.A)) (G_l_right_refusals : FnOk P w K mg base (L2.CX P w) 11 T.a_l_right_refusals T.f_l_right_refusals ["_law_web_here", "_law_ties", "_law_draws_here"] (sp_l_right_refusals ⟨P, w, K⟩ T.A)) : FnOk P w K mg base CX0 13 T.a_law T.f_law ["_law_script"] (sp_law ⟨P, w, K⟩) := by
  have nd := sc_law.nd
  refine T.F_law.ok sc_law (fun vs H Q E h => ?_) (fun cdv A outer s H vs Q E hr h => ?_)
  · exact sp_law_len h
  have hu := hu_of hr
  refine ⟨_, (pss_cons (ps_set (i := 1) nd rfl (Or.inl rfl) (pe_callS G_l_draws (hr.mono (by decide)) (by rfl) T.g_l_draws T.F_l_draws.kp T.d_l_draws (fun σ => passFS σ) (pa_cons (pe_callS G_l_cell (hr.mono (by decide)) (by rfl) T.g_l_cell T.F_l_cell.kp T.d_l_cell (fun σ => passFS σ) (pa_cons (pv 0) (pa_cons pe_int pa_nil))) (pa_cons pe_int pa_nil))))
      (pss_cons (ps_set (i := 2) nd rfl (Or.inl rfl) (pe_callS G_l_draws (hr.mono (by decide)) (by rfl) T.g_l_draws T.F_l_draws.kp T.d_l_draws (fun σ => passFS σ) (pa_cons (pe_callS G_l_cell (hr.mono (by decide)) (by rfl) T.g_l_cell T.F_l_cell.kp T.d_l_cell (fun σ => passFS σ) (pa_cons (pv 0) (pa_cons pe_int pa_nil))) (pa_cons pe_int pa_nil))))
      (pss_cons (ps_set (i := 3) nd rfl (Or.inl rfl) (pe_callS G_l_pick (hr.mono (by decide)) (by rfl) T.g_l_pick T.F_l_pick.kp T.d_l_pick (fun σ => passFS σ) (pa_cons (pv 2) (pa_cons pe_int (pa_cons pe_int pa_nil)))))
      (pss_cons (ps_asg (pe_callS G_l_web (hr.mono (by decide)) (by rfl) T.g_l_web T.F_l_web.kp T.d_l_web (fun σ => passFS σ) (pa_cons (pv 1) (pa_cons pe_int (pa_cons pe_int pa_nil)))) (pg_tupK (n := 2) K (by rfl) (pgs_cons (pg_name (i := 4) nd rfl (Or.inl rfl)) (pgs_cons (pg_name (i := 5) nd rfl (Or.inl rfl)) pgs_nil))))
      (pss_cons (ps_if (pt_cmpR op_gt (pv 3) pe_int (nomark _))
        (pss_one (ps_asg (pe_callS G_l_faced (hr.mono (by decide)) (by rfl) T.g_l_faced T.F_l_faced.kp T.d_l_faced (fun σ => passFS σ) (pa_cons (pv 1) (pa_cons pe_int (pa_cons pe_int pa_nil)))) (pg_tupK (n := 3) K (by rfl) (pgs_cons (pg_name (i := 4) nd rfl (Or.inl rfl)) (pgs_cons (pg_name (i := 5) nd rfl (Or.inl rfl)) (pgs_cons (pg_name (i := 6) nd rfl (Or.inl rfl)) pgs_nil))))))
        pss_nil)
      (pss_cons (ps_if (pt_cmpR op_eq (pv 3) pe_int (nomark _))
        (pss_one (ps_asg (pe_callS G_l_lane (hr.mono (by decide)) (by rfl) T.g_l_lane T.F_l_lane.kp T.d_l_lane (fun σ => passFS σ) (pa_cons (pv 1) pa_nil)) (pg_tupK (n := 2) K (by rfl) (pgs_cons (pg_name (i := 4) nd rfl (Or.inl rfl)) (pgs_cons (pg_name (i := 5) nd rfl (Or.inl rfl)) pgs_nil)))))
        pss_nil)
      (pss_cons (ps_set (i := 7) nd rfl (Or.inl rfl) (pe_callS G_l_draws (hr.mono (by decide)) (by rfl) T.g_l_draws T.F_l_draws.kp T.d_l_draws (fun σ => passFS σ) (pa_cons (pe_callS G_l_cell (hr.mono (by decide)) (by rfl) T.g_l_cell T.F_l_cell.kp T.d_l_cell (fun σ => passFS σ) (pa_cons (pv 0) (pa_cons pe_int pa_nil))) (pa_cons pe_int pa_nil))))
      (pss_cons (ps_asg (pe_callS G_l_web (hr.mono (by decide)) (by rfl) T.g_l_web T.F_l_web.kp T.d_l_web (fun σ => passFS σ) (pa_cons (pe_callS G_l_draws (hr.mono (by decide)) (by rfl) T.g_l_draws T.F_l_draws.kp T.d_l_draws (fun σ => passFS σ) (pa_cons (pe_callS G_l_cell (hr.mono (by decide)) (by rfl) T.g_l_cell T.F_l_cell.kp T.d_l_cell (fun σ => passFS σ) (pa_cons (pv 0) (pa_cons pe_int pa_nil))) (pa_cons pe_int pa_nil))) (pa_cons pe_int (pa_cons pe_int pa_nil)))) (pg_tupK (n := 2) K (by rfl) (pgs_cons (pg_name (i := 8) nd rfl (Or.inl rfl)) (pgs_cons (pg_name (i := 9) nd rfl (Or.inl rfl)) pgs_nil))))
      (pss_cons (ps_set (i := 10) nd rfl (Or.inl rfl) (pe_makeS T.mk_Web G_m_WebX_initX (hr.mono (by decide)) (by rfl) T.g_Web T.d_m_WebX_initX (fun σ => passFS σ) (pa_cons (pe_callTy (list_K K) (by rfl) T.b_list (by decide +kernel) (pa_cons (pv 4) pa_nil)) (pa_cons (pe_callTy (list_K K) (by rfl) T.b_list (by decide +kernel) (pa_cons (pv 5) pa_nil)) pa_nil))))
      (pss_cons (ps_set (i := 11) nd rfl (Or.inl rfl) (pe_makeS T.mk_Web G_m_WebX_initX (hr.mono (by decide)) (by rfl) T.g_Web T.d_m_WebX_initX (fun σ => passFS σ) (pa_cons (pe_callTy (list_K K) (by rfl) T.b_list (by decide +kernel) (pa_cons (pv 8) pa_nil)) (pa_cons (pe_callTy (list_K K) (by rfl) T.b_list (by decide +kernel) (pa_cons (pv 9) pa_nil)) pa_nil))))
      (pss_cons (ps_if (PW.pt (pw_or (pt_not (pt_val (pe_callS G_l_right_steps (hr.mono (by decide)) (by rfl) T.g_l_right_steps T.F_l_right_steps.kp T.d_l_right_steps (fun σ => passFS σ) (pa_cons (pv 10) (pa_cons (pv 5) (pa_cons (pv 2) (pa_cons pe_int (pa_cons pe_int pa_nil)))))))) (pw_or1 (pt_not (pt_val (pe_callS G_l_right_steps (hr.mono (by decide)) (by rfl) T.g_l_right_steps T.F_l_right_steps.kp T.d_l_right_steps (fun σ => passFS σ) (pa_cons (pv 11) (pa_cons (pv 9) (pa_cons (pv 7) (pa_cons pe_int (pa_cons pe_int pa_nil)))))))))))
        (pss_one (ps_ret pe_bl))
        pss_nil)
      (pss_cons (ps_if (PW.pt (pw_or (pt_not (pt_val (pe_callS G_l_right_refusals (hr.mono (by decide)) (by rfl) T.g_l_right_refusals T.F_l_right_refusals.kp T.d_l_right_refusals (fun σ => passFS σ) (pa_cons (pv 10) (pa_cons (pv 5) (pa_cons (pv 2) pa_nil)))))) (pw_or1 (pt_not (pt_val (pe_callS G_l_right_steps (hr.mono (by decide)) (by rfl) T.g_l_right_steps T.F_l_right_steps.kp T.d_l_right_steps (fun σ => passFS σ) (pa_cons (pv 10) (pa_cons (pv 5) (pa_cons (pv 2) (pa_cons pe_int (pa_cons pe_int pa_nil)))))))))))
        (pss_one (ps_ret pe_bl))
        pss_nil)
      (pss_one (ps_ret (pe_and (pe_cmpR (op_eqDK K (hu64 hr)) (pe_callTy (list_K K) (by rfl) T.b_list (by decide +kernel) (pa_cons (fld_K K (pv 10) rfl) pa_nil)) (pv 4) (nomark _)) (pe_and (pe_cmpR (op_eqDK K (hu64 hr)) (pe_callTy (list_K K) (by rfl) T.b_list (by decide +kernel) (pa_cons (fld_K K (pv 10) rfl) pa_nil)) (pv 5) (nomark _)) (pe_one (pe_cmpR (op_eqDK K (hu64 hr)) (pe_callTy (list_K K) (by rfl) T.b_list (by decide +kernel) (pa_cons (fld_K K (pv 11) rfl) pa_nil)) (pv 9) (nomark _))))))))))))))))))), ?_⟩
  try dsimp only [cxOf]
  obtain ⟨script, e, h⟩ := h
  refine Zm.body0 (tx := T.A.tx) (js := [0, 1, 2, 3, 4, 5, 6, 7, 8, 9, 10, 11]) (m := law_m script) e h ?_
  refine zm_to (Γ2 := [(.val (dSq (d := dInt)) script), .no, .no, .no, .no, .no, .no, .no, .no, .no, .no, .no]) rfl ?_
  delta law_m
  refine zm_set (i := 1) rfl (by decide) (we_eq (we_o (oe_call2 hs_l_draws rfl (we_call2 hs_l_cell rfl (we_var rfl) we_int) we_int)) rfl) fun draws_here_2 => ?_
  refine zm_set (i := 2) rfl (by decide) (we_eq (we_o (oe_call2 hs_l_draws rfl (we_call2 hs_l_cell rfl (we_var rfl) we_int) we_int)) rfl) fun extra_4 => ?_
  refine zm_set (i := 3) rfl (by decide) (we_eq (we_call3 hs_l_pick rfl (we_var rfl) we_int we_int) rfl) fun shape_5 => ?_
  refine zm_setG (we_eq (we_o (oe_call3 hs_l_web rfl (we_var rfl) we_int we_int)) rfl) fun t6 => (a_pair rfl (a_name rfl (a_name rfl ⟨(wlen 12 (by exact rfl) (by exact rfl) (by decide)), ?_⟩)))
  refine zm_join [6] (fun s8 => [(.val (dSq (d := dInt)) script), (.val (dList (d := dInt)) draws_here_2), (.val (dList (d := dInt)) extra_4), (.val dInt shape_5), (.val (dList (d := dInt)) s8.1), (.val (dList (d := (dT4 (d1 := dInt) (d2 := dInt) (d3 := dInt) (d4 := dInt)))) s8.2), .no, .no, .no, .no, .no, .no]) (fun _ => (wlen 12 (by exact rfl) (by exact rfl) (by decide))) ?_ fun s8 => ?_
  · refine zm_last (zm_ifP (te_eq (te_test (we_gt (re_w (we_var rfl)) (re_w we_int))) rfl) ?_ ?_)
    · refine zm_setG (we_eq (we_o (oe_call3 hs_l_faced rfl (we_var rfl) we_int we_int)) rfl) fun t7 => (a_T3 rfl (a_name rfl (a_name rfl (a_name rfl ⟨(wlen 12 (by exact rfl) (by exact rfl) (by decide)), ?_⟩))))
      exact zm_nextJ rfl
    · refine zm_skip ?_
      exact zm_nextJ rfl
  · refine zm_join [] (fun s10 => [(.val (dSq (d := dInt)) script), (.val (dList (d := dInt)) draws_here_2), (.val (dList (d := dInt)) extra_4), (.val dInt shape_5), (.val (dList (d := dInt)) s10.1), (.val (dList (d := (dT4 (d1 := dInt) (d2 := dInt) (d3 := dInt) (d4 := dInt)))) s10.2), .no, .no, .no, .no, .no, .no]) (fun _ => (wlen 12 (by exact rfl) (by exact rfl) (by decide))) ?_ fun s10 => ?_
    · refine zm_last (zm_ifP (te_eq (te_test (we_eqS (re_w (we_var rfl)) (re_w we_int))) rfl) ?_ ?_)
      · refine zm_setG (we_eq (we_call1 hs_l_lane rfl (we_var rfl)) rfl) fun t9 => (a_pair rfl (a_name rfl (a_name rfl ⟨(wlen 12 (by exact rfl) (by exact rfl) (by decide)), ?_⟩)))
        exact zm_nextJ rfl
      · refine zm_skip ?_
        exact zm_nextJ rfl
    · refine zm_set (i := 7) rfl (by decide) (we_eq (we_o (oe_call2 hs_l_draws rfl (we_call2 hs_l_cell rfl (we_var rfl) we_int) we_int)) rfl) fun more_12 => ?_
      refine zm_setG (we_eq (we_o (oe_call3 hs_l_web rfl (we_o (oe_call2 hs_l_draws rfl (we_call2 hs_l_cell rfl (we_var rfl) we_int) we_int)) we_int we_int)) rfl) fun t16 => (a_pair rfl (a_name rfl (a_name rfl ⟨(wlen 12 (by exact rfl) (by exact rfl) (by decide)), ?_⟩)))
      refine zm_set (i := 10) rfl (by decide) (we_eq (we_o (oe_make2 hs_m_WebX_initX rfl (we_o (oe_listOf (we_var rfl))) (we_o (oe_listOf (we_var rfl))))) rfl) fun web_here_17 => ?_
      refine zm_set (i := 11) rfl (by decide) (we_eq (we_o (oe_make2 hs_m_WebX_initX rfl (we_o (oe_listOf (we_var rfl))) (we_o (oe_listOf (we_var rfl))))) rfl) fun other_18 => ?_
      refine zm_if (te_eq (te_or (te_not (te_B (we_call5 hs_l_right_steps rfl (we_var rfl) (we_var rfl) (we_var rfl) we_int we_int))) (te_not (te_B (we_call5 hs_l_right_steps rfl (we_var rfl) (we_var rfl) (we_var rfl) we_int we_int)))) rfl) ?_ ?_
      · exact zm_ret (we_eq we_bl rfl)
      · refine zm_skip ?_
        refine zm_if (te_eq (te_or (te_not (te_B (we_call3 hs_l_right_refusals rfl (we_var rfl) (we_var rfl) (we_var rfl)))) (te_not (te_B (we_call5 hs_l_right_steps rfl (we_var rfl) (we_var rfl) (we_var rfl) we_int we_int)))) rfl) ?_ ?_
        · exact zm_ret (we_eq we_bl rfl)
        · refine zm_skip ?_
          refine zm_last ?_
          exact zm_ret (we_eq (we_andP (we_eqD (by decide) (re_w (we_o (oe_listOfT (we_fld (isF_Web_sides T.A) T.c_Web T.n_Web_sides (we_var rfl))))) (re_w (we_var rfl))) (we_andP (we_eqD (by decide) (re_w (we_o (oe_listOfT (we_fld (isF_Web_ties T.A) T.c_Web T.n_Web_ties (we_var rfl))))) (re_w (we_var rfl))) (we_eqD (by decide) (re_w (we_o (oe_listOfT (we_fld (isF_Web_ties T.A) T.c_Web T.n_Web_ties (we_var rfl))))) (re_w (we_var rfl))))) rfl)
end K10

namespace K10
open PySem L2 G PM
set_option maxHeartbeats 0 in
theorem all_mk {w : World} {K : PySem.W.Frag} {h : Heap} {mg : Str → Option Value} {fa : Addr} (X : K.In h) (G : h.Ns mainGlobals mg) (hfa : mg "law" = some (.ref fa))
    {C_Web : Addr}
    {t_Web_MOST_PLACES : _}
    {t_Web_MOST_SIDES : _}
    {t_Web_MOST_TIES : _}
    {D_BadSides : Addr}
    {D_ComesapartError : Addr}
    {D_TooLarge : Addr}
    {D_UnknownPlace : Addr}
    {D_UnknownSide : Addr}
    {D_UnknownTie : Addr}
    {od0 an0 : Option Addr} {sl0 : Array (Option Value)} {oc0 kV0 dc0 pm0 cd0 ct0 : Value} {f0 : Addr}
    {od1 an1 : Option Addr} {sl1 : Array (Option Value)} {oc1 kV1 dc1 pm1 cd1 ct1 : Value} {f1 : Addr}
    {od2 an2 : Option Addr} {sl2 : Array (Option Value)} {oc2 kV2 dc2 pm2 cd2 ct2 : Value} {f2 : Addr}
    {od3 an3 : Option Addr} {sl3 : Array (Option Value)} {oc3 kV3 dc3 pm3 cd3 ct3 : Value} {f3 : Addr}
    {od4 an4 : Option Addr} {sl4 : Array (Option Value)} {oc4 kV4 dc4 pm4 cd4 ct4 : Value} {f4 : Addr}
    {od5 an5 : Option Addr} {sl5 : Array (Option Value)} {oc5 kV5 dc5 pm5 cd5 ct5 : Value} {f5 : Addr}
    {od6 an6 : Option Addr} {sl6 : Array (Option Value)} {oc6 kV6 dc6 pm6 cd6 ct6 : Value} {f6 : Addr}
    {od7 an7 : Option Addr} {sl7 : Array (Option Value)} {oc7 kV7 dc7 pm7 cd7 ct7 : Value} {f7 : Addr}
    {od8 an8 : Option Addr} {sl8 : Array (Option Value)} {oc8 kV8 dc8 pm8 cd8 ct8 : Value} {f8 : Addr}
    {od9 an9 : Option Addr} {sl9 : Array (Option Value)} {oc9 kV9 dc9 pm9 cd9 ct9 : Value} {f9 : Addr}
    {od10 an10 : Option Addr} {sl10 : Array (Option Value)} {oc10 kV10 dc10 pm10 cd10 ct10 : Value} {f10 : Addr}
    {mc_Web : Value}
    {r10 : Addr} {rest10 : List Value}
    {od11 an11 : Option Addr} {sl11 : Array (Option Value)} {oc11 kV11 dc11 pm11 cd11 ct11 : Value} {f11 : Addr}
    {od12 an12 : Option Addr} {sl12 : Array (Option Value)} {oc12 kV12 dc12 pm12 cd12 ct12 : Value} {f12 : Addr}
    {od13 an13 : Option Addr} {sl13 : Array (Option Value)} {oc13 kV13 dc13 pm13 cd13 ct13 : Value} {f13 : Addr}
    {od14 an14 : Option Addr} {sl14 : Array (Option Value)} {oc14 kV14 dc14 pm14 cd14 ct14 : Value} {f14 : Addr}
    {od15 an15 : Option Addr} {sl15 : Array (Option Value)} {oc15 kV15 dc15 pm15 cd15 ct15 : Value} {f15 : Addr}
    {od16 an16 : Option Addr} {sl16 : Array (Option Value)} {oc16 kV16 dc16 pm16 cd16 ct16 : Value} {f16 : Addr}
    {od17 an17 : Option Addr} {sl17 : Array (Option Value)} {oc17 kV17 dc17 pm17 cd17 ct17 : Value} {f17 : Addr}
    {od18 an18 : Option Addr} {sl18 : Array (Option Value)} {oc18 kV18 dc18 pm18 cd18 ct18 : Value} {f18 : Addr}
    {od19 an19 : Option Addr} {sl19 : Array (Option Value)} {oc19 kV19 dc19 pm19 cd19 ct19 : Value} {f19 : Addr}
    {od20 an20 : Option Addr} {sl20 : Array (Option Value)} {oc20 kV20 dc20 pm20 cd20 ct20 : Value} {f20 : Addr}
    {od21 an21 : Option Addr} {sl21 : Array (Option Value)} {oc21 kV21 dc21 pm21 cd21 ct21 : Value} {f21 : Addr}
    {od22 an22 : Option Addr} {sl22 : Array (Option Value)} {oc22 kV22 dc22 pm22 cd22 ct22 : Value} {f22 : Addr}
    {od23 an23 : Option Addr} {sl23 : Array (Option Value)} {oc23 kV23 dc23 pm23 cd23 ct23 : Value} {f23 : Addr}
    {od24 an24 : Option Addr} {sl24 : Array (Option Value)} {oc24 kV24 dc24 pm24 cd24 ct24 : Value} {f24 : Addr}
    {od25 an25 : Option Addr} {sl25 : Array (Option Value)} {oc25 kV25 dc25 pm25 cd25 ct25 : Value} {f25 : Addr}
    {od26 an26 : Option Addr} {sl26 : Array (Option Value)} {oc26 kV26 dc26 pm26 cd26 ct26 : Value} {f26 : Addr}
    {od27 an27 : Option Addr} {sl27 : Array (Option Value)} {oc27 kV27 dc27 pm27 cd27 ct27 : Value} {f27 : Addr}
    {xo_BadSides xd_BadSides : Option Addr} {xs_BadSides xt_BadSides xu_BadSides : Array (Option Value)} {xa_BadSides xb_BadSides xc_BadSides xdc_BadSides xpm_BadSides xct_BadSides : Value} {xf_BadSides cc_BadSides cda_BadSides : Addr} {xe_BadSides : Option Addr} {vs_BadSides : Array Value} {cdx_BadSides : ClassData}
    {nm_BadSides q_BadSides : Str} {N_BadSides : Addr} {bs_BadSides bm_BadSides : List Value} {sn_BadSides : _} {sub_BadSides : _} {ab_BadSides : _} {col_BadSides : _} {dd_BadSides : _} {k0_BadSides : _} {k1_BadSides : _} {k2_BadSides : _} {k3_BadSides : _} {k5_BadSides : _}
    {fl_BadSides : Str} {tf_BadSides : _}
    {xo_TooLarge xd_TooLarge : Option Addr} {xs_TooLarge xt_TooLarge xu_TooLarge : Array (Option Value)} {xa_TooLarge xb_TooLarge xc_TooLarge xdc_TooLarge xpm_TooLarge xct_TooLarge : Value} {xf_TooLarge cc_TooLarge cda_TooLarge : Addr} {xe_TooLarge : Option Addr} {vs_TooLarge : Array Value} {cdx_TooLarge : ClassData}
    {nm_TooLarge q_TooLarge : Str} {N_TooLarge : Addr} {bs_TooLarge bm_TooLarge : List Value} {sn_TooLarge : _} {sub_TooLarge : _} {ab_TooLarge : _} {col_TooLarge : _} {dd_TooLarge : _} {k0_TooLarge : _} {k1_TooLarge : _} {k2_TooLarge : _} {k3_TooLarge : _} {k5_TooLarge : _}
    {fl_TooLarge : Str} {tf_TooLarge : _}
    {xo_UnknownPlace xd_UnknownPlace : Option Addr} {xs_UnknownPlace xt_UnknownPlace xu_UnknownPlace : Array (Option Value)} {xa_UnknownPlace xb_UnknownPlace xc_UnknownPlace xdc_UnknownPlace xpm_UnknownPlace xct_UnknownPlace : Value} {xf_UnknownPlace cc_UnknownPlace cda_UnknownPlace : Addr} {xe_UnknownPlace : Option Addr} {vs_UnknownPlace : Array Value} {cdx_UnknownPlace : ClassData}
    {nm_UnknownPlace q_UnknownPlace : Str} {N_UnknownPlace : Addr} {bs_UnknownPlace bm_UnknownPlace : List Value} {sn_UnknownPlace : _} {sub_UnknownPlace : _} {ab_UnknownPlace : _} {col_UnknownPlace : _} {dd_UnknownPlace : _} {k0_UnknownPlace : _} {k1_UnknownPlace : _} {k2_UnknownPlace : _} {k3_UnknownPlace : _} {k5_UnknownPlace : _}
    {fl_UnknownPlace : Str} {tf_UnknownPlace : _}
    {xo_UnknownSide xd_UnknownSide : Option Addr} {xs_UnknownSide xt_UnknownSide xu_UnknownSide : Array (Option Value)} {xa_UnknownSide xb_UnknownSide xc_UnknownSide xdc_UnknownSide xpm_UnknownSide xct_UnknownSide : Value} {xf_UnknownSide cc_UnknownSide cda_UnknownSide : Addr} {xe_UnknownSide : Option Addr} {vs_UnknownSide : Array Value} {cdx_UnknownSide : ClassData}
    {nm_UnknownSide q_UnknownSide : Str} {N_UnknownSide : Addr} {bs_UnknownSide bm_UnknownSide : List Value} {sn_UnknownSide : _} {sub_UnknownSide : _} {ab_UnknownSide : _} {col_UnknownSide : _} {dd_UnknownSide : _} {k0_UnknownSide : _} {k1_UnknownSide : _} {k2_UnknownSide : _} {k3_UnknownSide : _} {k5_UnknownSide : _}
    {fl_UnknownSide : Str} {tf_UnknownSide : _}
    {xo_UnknownTie xd_UnknownTie : Option Addr} {xs_UnknownTie xt_UnknownTie xu_UnknownTie : Array (Option Value)} {xa_UnknownTie xb_UnknownTie xc_UnknownTie xdc_UnknownTie xpm_UnknownTie xct_UnknownTie : Value} {xf_UnknownTie cc_UnknownTie cda_UnknownTie : Addr} {xe_UnknownTie : Option Addr} {vs_UnknownTie : Array Value} {cdx_UnknownTie : ClassData}
    {nm_UnknownTie q_UnknownTie : Str} {N_UnknownTie : Addr} {bs_UnknownTie bm_UnknownTie : List Value} {sn_UnknownTie : _} {sub_UnknownTie : _} {ab_UnknownTie : _} {col_UnknownTie : _} {dd_UnknownTie : _} {k0_UnknownTie : _} {k1_UnknownTie : _} {k2_UnknownTie : _} {k3_UnknownTie : _} {k5_UnknownTie : _}
    {fl_UnknownTie : Str} {tf_UnknownTie : _}
    {cdy_ComesapartError : ClassData}
    {cdy_UnknownTie : ClassData}
    (q0 : PySem.W.nsIn K mainGlobals "Web" = some (some (.ref C_Web)))
    (q1 : PySem.W.plainGet K C_Web Str.empty = true)
    (q2 : PySem.W.hasDictIn K C_Web = true)
    (q3 : PySem.W.plainOver K C_Web = true)
    (q4 : PySem.W.findIn K (.ref C_Web) "__setattr__" = some (some (.builtin "object.__setattr__")))
    (q5 : PySem.W.findIn K (.ref C_Web) "sides" = some none)
    (q6 : PySem.W.findIn K (.ref C_Web) "ties" = some none)
    (q7 : PySem.W.findIn K (.ref C_Web) "MOST_PLACES" = some (some (.int 200 t_Web_MOST_PLACES)))
    (q8 : PySem.W.specialIn K (.int 200 t_Web_MOST_PLACES) "__get__" = some none)
    (q9 : PySem.W.findIn K (.ref C_Web) "MOST_SIDES" = some (some (.int 4 t_Web_MOST_SIDES)))
    (q10 : PySem.W.specialIn K (.int 4 t_Web_MOST_SIDES) "__get__" = some none)
    (q11 : PySem.W.findIn K (.ref C_Web) "MOST_TIES" = some (some (.int 300 t_Web_MOST_TIES)))
    (q12 : PySem.W.specialIn K (.int 300 t_Web_MOST_TIES) "__get__" = some none)
    (q13 : PySem.W.nsIn K mainGlobals "BadSides" = some (some (.ref D_BadSides)))
    (q14 : PySem.W.nsIn K mainGlobals "ComesapartError" = some (some (.ref D_ComesapartError)))
    (q15 : PySem.W.nsIn K mainGlobals "TooLarge" = some (some (.ref D_TooLarge)))
    (q16 : PySem.W.nsIn K mainGlobals "UnknownPlace" = some (some (.ref D_UnknownPlace)))
    (q17 : PySem.W.nsIn K mainGlobals "UnknownSide" = some (some (.ref D_UnknownSide)))
    (q18 : PySem.W.nsIn K mainGlobals "UnknownTie" = some (some (.ref D_UnknownTie)))
    (q19 : PySem.W.nsIn K mainGlobals "_law_cell" = some (some (.ref f0)))
    (q20 : K.lookup f0 = some ⟨oc0, od0, .func (PySem.W.fnOf "_law_cell" "_law_cell" (defArgs s_l_cell) (defBody s_l_cell) (defScope s_l_cell) .none kV0 dc0 pm0 an0 cd0 ct0), sl0⟩)
    (q21 : PySem.W.codeIn K cd0 "_law_cell" = true)
    (q22 : PySem.W.keepIn K (.ref f0) = true)
    (q23 : PySem.W.nsIn K mainGlobals "_law_draws" = some (some (.ref f1)))
    (q24 : K.lookup f1 = some ⟨oc1, od1, .func (PySem.W.fnOf "_law_draws" "_law_draws" (defArgs s_l_draws) (defBody s_l_draws) (defScope s_l_draws) .none kV1 dc1 pm1 an1 cd1 ct1), sl1⟩)
    (q25 : PySem.W.codeIn K cd1 "_law_draws" = true)
    (q26 : PySem.W.keepIn K (.ref f1) = true)
    (q27 : PySem.W.nsIn K mainGlobals "_law_pick" = some (some (.ref f2)))
    (q28 : K.lookup f2 = some ⟨oc2, od2, .func (PySem.W.fnOf "_law_pick" "_law_pick" (defArgs s_l_pick) (defBody s_l_pick) (defScope s_l_pick) .none kV2 dc2 pm2 an2 cd2 ct2), sl2⟩)
    (q29 : PySem.W.codeIn K cd2 "_law_pick" = true)
    (q30 : PySem.W.keepIn K (.ref f2) = true)
    (q31 : PySem.W.nsIn K mainGlobals "_law_web" = some (some (.ref f3)))
    (q32 : K.lookup f3 = some ⟨oc3, od3, .func (PySem.W.fnOf "_law_web" "_law_web" (defArgs s_l_web) (defBody s_l_web) (defScope s_l_web) .none kV3 dc3 pm3 an3 cd3 ct3), sl3⟩)
    (q33 : PySem.W.codeIn K cd3 "_law_web" = true)
    (q34 : PySem.W.keepIn K (.ref f3) = true)
    (q35 : PySem.W.nsIn K mainGlobals "_law_faced" = some (some (.ref f4)))
    (q36 : K.lookup f4 = some ⟨oc4, od4, .func (PySem.W.fnOf "_law_faced" "_law_faced" (defArgs s_l_faced) (defBody s_l_faced) (defScope s_l_faced) .none kV4 dc4 pm4 an4 cd4 ct4), sl4⟩)
    (q37 : PySem.W.codeIn K cd4 "_law_faced" = true)
    (q38 : PySem.W.keepIn K (.ref f4) = true)
    (q39 : PySem.W.nsIn K mainGlobals "_law_lane" = some (some (.ref f5)))
    (q40 : K.lookup f5 = some ⟨oc5, od5, .func (PySem.W.fnOf "_law_lane" "_law_lane" (defArgs s_l_lane) (defBody s_l_lane) (defScope s_l_lane) .none kV5 dc5 pm5 an5 cd5 ct5), sl5⟩)
    (q41 : PySem.W.codeIn K cd5 "_law_lane" = true)
    (q42 : PySem.W.keepIn K (.ref f5) = true)
    (q43 : PySem.W.nsIn K mainGlobals "check_end" = some (some (.ref f6)))
    (q44 : K.lookup f6 = some ⟨oc6, od6, .func (PySem.W.fnOf "check_end" "check_end" (defArgs s_p_check_end) (defBody s_p_check_end) (defScope s_p_check_end) .none kV6 dc6 pm6 an6 cd6 ct6), sl6⟩)
    (q45 : PySem.W.codeIn K cd6 "check_end" = true)
    (q46 : PySem.W.keepIn K (.ref f6) = true)
    (q47 : PySem.W.findIn K (.ref C_Web) "__init__" = some (some (.ref f7)))
    (q48 : PySem.W.isFn K (.ref f7) = true)
    (q49 : K.lookup f7 = some ⟨oc7, od7, .func (PySem.W.fnOf "__init__" "Web.__init__" (defArgs s_m_WebX_initX) (defBody s_m_WebX_initX) (defScope s_m_WebX_initX) .none kV7 dc7 pm7 an7 cd7 ct7), sl7⟩)
    (q50 : PySem.W.codeIn K cd7 "Web.__init__" = true)
    (q51 : PySem.W.keepIn K (.ref f7) = true)
    (q52 : PySem.W.makesIn K C_Web = true)
    (q53 : PySem.W.keepIn K (.ref C_Web) = true)
    (q54 : PySem.W.nsIn K mainGlobals "_law_table" = some (some (.ref f8)))
    (q55 : K.lookup f8 = some ⟨oc8, od8, .func (PySem.W.fnOf "_law_table" "_law_table" (defArgs s_l_table) (defBody s_l_table) (defScope s_l_table) .none kV8 dc8 pm8 an8 cd8 ct8), sl8⟩)
    (q56 : PySem.W.codeIn K cd8 "_law_table" = true)
    (q57 : PySem.W.keepIn K (.ref f8) = true)
    (q58 : PySem.W.nsIn K mainGlobals "_law_reached" = some (some (.ref f9)))
    (q59 : K.lookup f9 = some ⟨oc9, od9, .func (PySem.W.fnOf "_law_reached" "_law_reached" (defArgs s_l_reached) (defBody s_l_reached) (defScope s_l_reached) .none kV9 dc9 pm9 an9 cd9 ct9), sl9⟩)
    (q60 : PySem.W.codeIn K cd9 "_law_reached" = true)
    (q61 : PySem.W.keepIn K (.ref f9) = true)
    (q62 : PySem.W.typeIn K (.ref C_Web) = some mc_Web)
    (q63 : PySem.W.readsIn K C_Web mc_Web = true)
    (q64 : PySem.W.specialIn K (.ref C_Web) "__getattribute__" = some (some (.builtin "type.__getattribute__")))
    (q65 : PySem.W.findCls K (.ref C_Web) mc_Web "back" = some (.get (.builtin "staticmethod.__get__") (.ref r10) .none (.ref C_Web)))
    (q66 : PySem.W.recIn K r10 "staticmethod" = some (.ref f10 :: rest10))
    (q67 : K.lookup f10 = some ⟨oc10, od10, .func (PySem.W.fnOf "back" "Web.back" (defArgs s_m_Web_back) (defBody s_m_Web_back) (defScope s_m_Web_back) .none kV10 dc10 pm10 an10 cd10 ct10), sl10⟩)
    (q68 : PySem.W.codeIn K cd10 "Web.back" = true)
    (q69 : PySem.W.keepIn K (.ref f10) = true)
    (q70 : PySem.W.findIn K (.ref C_Web) "tail" = some (some (.ref f11)))
    (q71 : PySem.W.isFn K (.ref f11) = true)
    (q72 : K.lookup f11 = some ⟨oc11, od11, .func (PySem.W.fnOf "tail" "Web.tail" (defArgs s_m_Web_tail) (defBody s_m_Web_tail) (defScope s_m_Web_tail) .none kV11 dc11 pm11 an11 cd11 ct11), sl11⟩)
    (q73 : PySem.W.codeIn K cd11 "Web.tail" = true)
    (q74 : PySem.W.keepIn K (.ref f11) = true)
    (q75 : PySem.W.findIn K (.ref C_Web) "head" = some (some (.ref f12)))
    (q76 : PySem.W.isFn K (.ref f12) = true)
    (q77 : K.lookup f12 = some ⟨oc12, od12, .func (PySem.W.fnOf "head" "Web.head" (defArgs s_m_Web_head) (defBody s_m_Web_head) (defScope s_m_Web_head) .none kV12 dc12 pm12 an12 cd12 ct12), sl12⟩)
    (q78 : PySem.W.codeIn K cd12 "Web.head" = true)
    (q79 : PySem.W.keepIn K (.ref f12) = true)
    (q80 : PySem.W.findIn K (.ref C_Web) "__contains__" = some (some (.ref f13)))
    (q81 : PySem.W.isFn K (.ref f13) = true)
    (q82 : K.lookup f13 = some ⟨oc13, od13, .func (PySem.W.fnOf "__contains__" "Web.__contains__" (defArgs s_m_WebX_containsX) (defBody s_m_WebX_containsX) (defScope s_m_WebX_containsX) .none kV13 dc13 pm13 an13 cd13 ct13), sl13⟩)
    (q83 : PySem.W.codeIn K cd13 "Web.__contains__" = true)
    (q84 : PySem.W.keepIn K (.ref f13) = true)
    (q85 : PySem.W.findIn K (.ref C_Web) "steps_from" = some (some (.ref f14)))
    (q86 : PySem.W.isFn K (.ref f14) = true)
    (q87 : K.lookup f14 = some ⟨oc14, od14, .func (PySem.W.fnOf "steps_from" "Web.steps_from" (defArgs s_m_Web_steps_from) (defBody s_m_Web_steps_from) (defScope s_m_Web_steps_from) .none kV14 dc14 pm14 an14 cd14 ct14), sl14⟩)
    (q88 : PySem.W.codeIn K cd14 "Web.steps_from" = true)
    (q89 : PySem.W.keepIn K (.ref f14) = true)
    (q90 : PySem.W.nsIn K mainGlobals "followers" = some (some (.ref f15)))
    (q91 : K.lookup f15 = some ⟨oc15, od15, .func (PySem.W.fnOf "followers" "followers" (defArgs s_p_followers) (defBody s_p_followers) (defScope s_p_followers) .none kV15 dc15 pm15 an15 cd15 ct15), sl15⟩)
    (q92 : PySem.W.codeIn K cd15 "followers" = true)
    (q93 : PySem.W.keepIn K (.ref f15) = true)
    (q94 : PySem.W.nsIn K mainGlobals "reached" = some (some (.ref f16)))
    (q95 : K.lookup f16 = some ⟨oc16, od16, .func (PySem.W.fnOf "reached" "reached" (defArgs s_p_reached) (defBody s_p_reached) (defScope s_p_reached) .none kV16 dc16 pm16 an16 cd16 ct16), sl16⟩)
    (q96 : PySem.W.codeIn K cd16 "reached" = true)
    (q97 : PySem.W.keepIn K (.ref f16) = true)
    (q98 : PySem.W.nsIn K mainGlobals "shortest_walk" = some (some (.ref f17)))
    (q99 : K.lookup f17 = some ⟨oc17, od17, .func (PySem.W.fnOf "shortest_walk" "shortest_walk" (defArgs s_p_shortest_walk) (defBody s_p_shortest_walk) (defScope s_p_shortest_walk) .none kV17 dc17 pm17 an17 cd17 ct17), sl17⟩)
    (q100 : PySem.W.codeIn K cd17 "shortest_walk" = true)
    (q101 : PySem.W.keepIn K (.ref f17) = true)
    (q102 : PySem.W.nsIn K mainGlobals "_law_is_number" = some (some (.ref f18)))
    (q103 : K.lookup f18 = some ⟨oc18, od18, .func (PySem.W.fnOf "_law_is_number" "_law_is_number" (defArgs s_l_is_number) (defBody s_l_is_number) (defScope s_l_is_number) .none kV18 dc18 pm18 an18 cd18 ct18), sl18⟩)
    (q104 : PySem.W.codeIn K cd18 "_law_is_number" = true)
    (q105 : PySem.W.keepIn K (.ref f18) = true)
    (q106 : PySem.W.nsIn K mainGlobals "_law_told" = some (some (.ref f19)))
    (q107 : K.lookup f19 = some ⟨oc19, od19, .func (PySem.W.fnOf "_law_told" "_law_told" (defArgs s_l_told) (defBody s_l_told) (defScope s_l_told) .none kV19 dc19 pm19 an19 cd19 ct19), sl19⟩)
    (q108 : PySem.W.codeIn K cd19 "_law_told" = true)
    (q109 : PySem.W.keepIn K (.ref f19) = true)
    (q110 : PySem.W.nsIn K mainGlobals "_law_same" = some (some (.ref f20)))
    (q111 : K.lookup f20 = some ⟨oc20, od20, .func (PySem.W.fnOf "_law_same" "_law_same" (defArgs s_l_same) (defBody s_l_same) (defScope s_l_same) .none kV20 dc20 pm20 an20 cd20 ct20), sl20⟩)
    (q112 : PySem.W.codeIn K cd20 "_law_same" = true)
    (q113 : PySem.W.keepIn K (.ref f20) = true)
    (q114 : PySem.W.nsIn K mainGlobals "_law_right_first" = some (some (.ref f21)))
    (q115 : K.lookup f21 = some ⟨oc21, od21, .func (PySem.W.fnOf "_law_right_first" "_law_right_first" (defArgs s_l_right_first) (defBody s_l_right_first) (defScope s_l_right_first) .none kV21 dc21 pm21 an21 cd21 ct21), sl21⟩)
    (q116 : PySem.W.codeIn K cd21 "_law_right_first" = true)
    (q117 : PySem.W.keepIn K (.ref f21) = true)
    (q118 : PySem.W.nsIn K mainGlobals "_law_far" = some (some (.ref f22)))
    (q119 : K.lookup f22 = some ⟨oc22, od22, .func (PySem.W.fnOf "_law_far" "_law_far" (defArgs s_l_far) (defBody s_l_far) (defScope s_l_far) .none kV22 dc22 pm22 an22 cd22 ct22), sl22⟩)
    (q120 : PySem.W.codeIn K cd22 "_law_far" = true)
    (q121 : PySem.W.keepIn K (.ref f22) = true)
    (q122 : PySem.W.nsIn K mainGlobals "_law_lowest" = some (some (.ref f23)))
    (q123 : K.lookup f23 = some ⟨oc23, od23, .func (PySem.W.fnOf "_law_lowest" "_law_lowest" (defArgs s_l_lowest) (defBody s_l_lowest) (defScope s_l_lowest) .none kV23 dc23 pm23 an23 cd23 ct23), sl23⟩)
    (q124 : PySem.W.codeIn K cd23 "_law_lowest" = true)
    (q125 : PySem.W.keepIn K (.ref f23) = true)
    (q126 : PySem.W.nsIn K mainGlobals "_law_right_last" = some (some (.ref f24)))
    (q127 : K.lookup f24 = some ⟨oc24, od24, .func (PySem.W.fnOf "_law_right_last" "_law_right_last" (defArgs s_l_right_last) (defBody s_l_right_last) (defScope s_l_right_last) .none kV24 dc24 pm24 an24 cd24 ct24), sl24⟩)
    (q128 : PySem.W.codeIn K cd24 "_law_right_last" = true)
    (q129 : PySem.W.keepIn K (.ref f24) = true)
    (q130 : PySem.W.nsIn K mainGlobals "_law_right_steps" = some (some (.ref f25)))
    (q131 : K.lookup f25 = some ⟨oc25, od25, .func (PySem.W.fnOf "_law_right_steps" "_law_right_steps" (defArgs s_l_right_steps) (defBody s_l_right_steps) (defScope s_l_right_steps) .none kV25 dc25 pm25 an25 cd25 ct25), sl25⟩)
    (q132 : PySem.W.codeIn K cd25 "_law_right_steps" = true)
    (q133 : PySem.W.keepIn K (.ref f25) = true)
    (q134 : PySem.W.nsIn K mainGlobals "_law_right_refusals" = some (some (.ref f26)))
    (q135 : K.lookup f26 = some ⟨oc26, od26, .func (PySem.W.fnOf "_law_right_refusals" "_law_right_refusals" (defArgs s_l_right_refusals) (defBody s_l_right_refusals) (defScope s_l_right_refusals) .none kV26 dc26 pm26 an26 cd26 ct26), sl26⟩)
    (q136 : PySem.W.codeIn K cd26 "_law_right_refusals" = true)
    (q137 : PySem.W.keepIn K (.ref f26) = true)
    (q138 : PySem.W.nsIn K mainGlobals "law" = some (some (.ref f27)))
    (q139 : K.lookup f27 = some ⟨oc27, od27, .func (PySem.W.fnOf "law" "law" (defArgs s_law) (defBody s_law) (defScope s_law) .none kV27 dc27 pm27 an27 cd27 ct27), sl27⟩)
    (q140 : PySem.W.codeIn K cd27 "law" = true)
    (q141 : PySem.W.keepIn K (.ref f27) = true)
    (q142 : PySem.W.nsIn K mainGlobals "super" = some none)
    (q143 : PySem.W.nsIn K PySem.cStatics "thirdparty.any" = some none)
    (q144 : K.lookup D_BadSides = some (excClassObj nm_BadSides q_BadSides D_BadSides N_BadSides bs_BadSides bm_BadSides true sn_BadSides sub_BadSides ab_BadSides col_BadSides dd_BadSides k0_BadSides k1_BadSides k2_BadSides k3_BadSides k5_BadSides "ValueError.__new__"))
    (q145 : PySem.HandSPX.refsVE bm_BadSides = true)
    (q146 : PySem.W.findIn K (.ref D_BadSides) "__setattr__" = some (some (.builtin "object.__setattr__")))
    (q147 : PySem.W.subIn K (.ref D_BadSides) (.type "BaseException") = some true)
    (q148 : PySem.W.typeIn K (.ref D_BadSides) = some (.type "type"))
    (q149 : PySem.W.keepIn K (.ref D_BadSides) = true)
    (q150 : PySem.W.clsIn K D_BadSides = some cdx_BadSides)
    (q151 : PySem.W.mroIn K D_BadSides (.ref D_BadSides) = some true)
    (q152 : PySem.W.ks_superIn K D_BadSides D_BadSides "__init__" = some (some (.builtin "ValueError.__init__")))
    (q153 : PySem.W.subIn K (.ref D_BadSides) (.type "ValueError") = some true)
    (q154 : PySem.W.findIn K (.ref D_BadSides) "__init__" = some (some (.ref xf_BadSides)))
    (q155 : PySem.W.typeIn K (.ref xf_BadSides) = some (.type "function"))
    (q156 : K.lookup xf_BadSides = some ⟨xa_BadSides, xo_BadSides, .func ((initNF "__init__" "BadSides.__init__" ((clsB (topS 9)).getD 0 (.Pass ⟨0, 0, 0, 0⟩)) cc_BadSides cda_BadSides).fd xdc_BadSides xpm_BadSides xct_BadSides), xs_BadSides⟩)
    (q157 : K.lookup cc_BadSides = some ⟨xb_BadSides, xd_BadSides, .cell (some (.ref D_BadSides)), xt_BadSides⟩)
    (q158 : K.lookup cda_BadSides = some ⟨xc_BadSides, xe_BadSides, .fields vs_BadSides, xu_BadSides⟩)
    (q159 : PySem.W.codeIn K (.ref cda_BadSides) "BadSides.__init__" = true)
    (q160 : vs_BadSides[2]? = some (.str fl_BadSides tf_BadSides))
    (q161 : ((PySem.Challenge.rw_comesapart_k10_reached_and_shortest_walk.prog.main.file : Str) == fl_BadSides) = true)
    (q162 : PySem.W.findIn K (.ref D_BadSides) "place" = some none)
    (q163 : K.lookup D_TooLarge = some (excClassObj nm_TooLarge q_TooLarge D_TooLarge N_TooLarge bs_TooLarge bm_TooLarge true sn_TooLarge sub_TooLarge ab_TooLarge col_TooLarge dd_TooLarge k0_TooLarge k1_TooLarge k2_TooLarge k3_TooLarge k5_TooLarge "ValueError.__new__"))
    (q164 : PySem.HandSPX.refsVE bm_TooLarge = true)
    (q165 : PySem.W.findIn K (.ref D_TooLarge) "__setattr__" = some (some (.builtin "object.__setattr__")))
    (q166 : PySem.W.subIn K (.ref D_TooLarge) (.type "BaseException") = some true)
    (q167 : PySem.W.typeIn K (.ref D_TooLarge) = some (.type "type"))
    (q168 : PySem.W.keepIn K (.ref D_TooLarge) = true)
    (q169 : PySem.W.clsIn K D_TooLarge = some cdx_TooLarge)
    (q170 : PySem.W.mroIn K D_TooLarge (.ref D_TooLarge) = some true)
    (q171 : PySem.W.ks_superIn K D_TooLarge D_TooLarge "__init__" = some (some (.builtin "ValueError.__init__")))
    (q172 : PySem.W.subIn K (.ref D_TooLarge) (.type "ValueError") = some true)
    (q173 : PySem.W.findIn K (.ref D_TooLarge) "__init__" = some (some (.ref xf_TooLarge)))
    (q174 : PySem.W.typeIn K (.ref xf_TooLarge) = some (.type "function"))
    (q175 : K.lookup xf_TooLarge = some ⟨xa_TooLarge, xo_TooLarge, .func ((initNF "__init__" "TooLarge.__init__" ((clsB (topS 7)).getD 0 (.Pass ⟨0, 0, 0, 0⟩)) cc_TooLarge cda_TooLarge).fd xdc_TooLarge xpm_TooLarge xct_TooLarge), xs_TooLarge⟩)
    (q176 : K.lookup cc_TooLarge = some ⟨xb_TooLarge, xd_TooLarge, .cell (some (.ref D_TooLarge)), xt_TooLarge⟩)
    (q177 : K.lookup cda_TooLarge = some ⟨xc_TooLarge, xe_TooLarge, .fields vs_TooLarge, xu_TooLarge⟩)
    (q178 : PySem.W.codeIn K (.ref cda_TooLarge) "TooLarge.__init__" = true)
    (q179 : vs_TooLarge[2]? = some (.str fl_TooLarge tf_TooLarge))
    (q180 : ((PySem.Challenge.rw_comesapart_k10_reached_and_shortest_walk.prog.main.file : Str) == fl_TooLarge) = true)
    (q181 : PySem.W.findIn K (.ref D_TooLarge) "limit" = some none)
    (q182 : K.lookup D_UnknownPlace = some (excClassObj nm_UnknownPlace q_UnknownPlace D_UnknownPlace N_UnknownPlace bs_UnknownPlace bm_UnknownPlace true sn_UnknownPlace sub_UnknownPlace ab_UnknownPlace col_UnknownPlace dd_UnknownPlace k0_UnknownPlace k1_UnknownPlace k2_UnknownPlace k3_UnknownPlace k5_UnknownPlace "ValueError.__new__"))
    (q183 : PySem.HandSPX.refsVE bm_UnknownPlace = true)
    (q184 : PySem.W.findIn K (.ref D_UnknownPlace) "__setattr__" = some (some (.builtin "object.__setattr__")))
    (q185 : PySem.W.subIn K (.ref D_UnknownPlace) (.type "BaseException") = some true)
    (q186 : PySem.W.typeIn K (.ref D_UnknownPlace) = some (.type "type"))
    (q187 : PySem.W.keepIn K (.ref D_UnknownPlace) = true)
    (q188 : PySem.W.clsIn K D_UnknownPlace = some cdx_UnknownPlace)
    (q189 : PySem.W.mroIn K D_UnknownPlace (.ref D_UnknownPlace) = some true)
    (q190 : PySem.W.ks_superIn K D_UnknownPlace D_UnknownPlace "__init__" = some (some (.builtin "ValueError.__init__")))
    (q191 : PySem.W.subIn K (.ref D_UnknownPlace) (.type "ValueError") = some true)
    (q192 : PySem.W.findIn K (.ref D_UnknownPlace) "__init__" = some (some (.ref xf_UnknownPlace)))
    (q193 : PySem.W.typeIn K (.ref xf_UnknownPlace) = some (.type "function"))
    (q194 : K.lookup xf_UnknownPlace = some ⟨xa_UnknownPlace, xo_UnknownPlace, .func ((initNF "__init__" "UnknownPlace.__init__" ((clsB (topS 8)).getD 0 (.Pass ⟨0, 0, 0, 0⟩)) cc_UnknownPlace cda_UnknownPlace).fd xdc_UnknownPlace xpm_UnknownPlace xct_UnknownPlace), xs_UnknownPlace⟩)
    (q195 : K.lookup cc_UnknownPlace = some ⟨xb_UnknownPlace, xd_UnknownPlace, .cell (some (.ref D_UnknownPlace)), xt_UnknownPlace⟩)
    (q196 : K.lookup cda_UnknownPlace = some ⟨xc_UnknownPlace, xe_UnknownPlace, .fields vs_UnknownPlace, xu_UnknownPlace⟩)
    (q197 : PySem.W.codeIn K (.ref cda_UnknownPlace) "UnknownPlace.__init__" = true)
    (q198 : vs_UnknownPlace[2]? = some (.str fl_UnknownPlace tf_UnknownPlace))
    (q199 : ((PySem.Challenge.rw_comesapart_k10_reached_and_shortest_walk.prog.main.file : Str) == fl_UnknownPlace) = true)
    (q200 : PySem.W.findIn K (.ref D_UnknownPlace) "place" = some none)
    (q201 : K.lookup D_UnknownSide = some (excClassObj nm_UnknownSide q_UnknownSide D_UnknownSide N_UnknownSide bs_UnknownSide bm_UnknownSide true sn_UnknownSide sub_UnknownSide ab_UnknownSide col_UnknownSide dd_UnknownSide k0_UnknownSide k1_UnknownSide k2_UnknownSide k3_UnknownSide k5_UnknownSide "ValueError.__new__"))
    (q202 : PySem.HandSPX.refsVE bm_UnknownSide = true)
    (q203 : PySem.W.findIn K (.ref D_UnknownSide) "__setattr__" = some (some (.builtin "object.__setattr__")))
    (q204 : PySem.W.subIn K (.ref D_UnknownSide) (.type "BaseException") = some true)
    (q205 : PySem.W.typeIn K (.ref D_UnknownSide) = some (.type "type"))
    (q206 : PySem.W.keepIn K (.ref D_UnknownSide) = true)
    (q207 : PySem.W.clsIn K D_UnknownSide = some cdx_UnknownSide)
    (q208 : PySem.W.mroIn K D_UnknownSide (.ref D_UnknownSide) = some true)
    (q209 : PySem.W.ks_superIn K D_UnknownSide D_UnknownSide "__init__" = some (some (.builtin "ValueError.__init__")))
    (q210 : PySem.W.subIn K (.ref D_UnknownSide) (.type "ValueError") = some true)
    (q211 : PySem.W.findIn K (.ref D_UnknownSide) "__init__" = some (some (.ref xf_UnknownSide)))
    (q212 : PySem.W.typeIn K (.ref xf_UnknownSide) = some (.type "function"))
    (q213 : K.lookup xf_UnknownSide = some ⟨xa_UnknownSide, xo_UnknownSide, .func ((initNF "__init__" "UnknownSide.__init__" ((clsB (topS 10)).getD 0 (.Pass ⟨0, 0, 0, 0⟩)) cc_UnknownSide cda_UnknownSide).fd xdc_UnknownSide xpm_UnknownSide xct_UnknownSide), xs_UnknownSide⟩)
    (q214 : K.lookup cc_UnknownSide = some ⟨xb_UnknownSide, xd_UnknownSide, .cell (some (.ref D_UnknownSide)), xt_UnknownSide⟩)
    (q215 : K.lookup cda_UnknownSide = some ⟨xc_UnknownSide, xe_UnknownSide, .fields vs_UnknownSide, xu_UnknownSide⟩)
    (q216 : PySem.W.codeIn K (.ref cda_UnknownSide) "UnknownSide.__init__" = true)
    (q217 : vs_UnknownSide[2]? = some (.str fl_UnknownSide tf_UnknownSide))
    (q218 : ((PySem.Challenge.rw_comesapart_k10_reached_and_shortest_walk.prog.main.file : Str) == fl_UnknownSide) = true)
    (q219 : PySem.W.findIn K (.ref D_UnknownSide) "place" = some none)
    (q220 : PySem.W.findIn K (.ref D_UnknownSide) "side" = some none)
    (q221 : K.lookup D_UnknownTie = some (excClassObj nm_UnknownTie q_UnknownTie D_UnknownTie N_UnknownTie bs_UnknownTie bm_UnknownTie true sn_UnknownTie sub_UnknownTie ab_UnknownTie col_UnknownTie dd_UnknownTie k0_UnknownTie k1_UnknownTie k2_UnknownTie k3_UnknownTie k5_UnknownTie "ValueError.__new__"))
    (q222 : PySem.HandSPX.refsVE bm_UnknownTie = true)
    (q223 : PySem.W.findIn K (.ref D_UnknownTie) "__setattr__" = some (some (.builtin "object.__setattr__")))
    (q224 : PySem.W.subIn K (.ref D_UnknownTie) (.type "BaseException") = some true)
    (q225 : PySem.W.typeIn K (.ref D_UnknownTie) = some (.type "type"))
    (q226 : PySem.W.keepIn K (.ref D_UnknownTie) = true)
    (q227 : PySem.W.clsIn K D_UnknownTie = some cdx_UnknownTie)
    (q228 : PySem.W.mroIn K D_UnknownTie (.ref D_UnknownTie) = some true)
    (q229 : PySem.W.ks_superIn K D_UnknownTie D_UnknownTie "__init__" = some (some (.builtin "ValueError.__init__")))
    (q230 : PySem.W.subIn K (.ref D_UnknownTie) (.type "ValueError") = some true)
    (q231 : PySem.W.findIn K (.ref D_UnknownTie) "__init__" = some (some (.ref xf_UnknownTie)))
    (q232 : PySem.W.typeIn K (.ref xf_UnknownTie) = some (.type "function"))
    (q233 : K.lookup xf_UnknownTie = some ⟨xa_UnknownTie, xo_UnknownTie, .func ((initNF "__init__" "UnknownTie.__init__" ((clsB (topS 11)).getD 0 (.Pass ⟨0, 0, 0, 0⟩)) cc_UnknownTie cda_UnknownTie).fd xdc_UnknownTie xpm_UnknownTie xct_UnknownTie), xs_UnknownTie⟩)
    (q234 : K.lookup cc_UnknownTie = some ⟨xb_UnknownTie, xd_UnknownTie, .cell (some (.ref D_UnknownTie)), xt_UnknownTie⟩)
    (q235 : K.lookup cda_UnknownTie = some ⟨xc_UnknownTie, xe_UnknownTie, .fields vs_UnknownTie, xu_UnknownTie⟩)
    (q236 : PySem.W.codeIn K (.ref cda_UnknownTie) "UnknownTie.__init__" = true)
    (q237 : vs_UnknownTie[2]? = some (.str fl_UnknownTie tf_UnknownTie))
    (q238 : ((PySem.Challenge.rw_comesapart_k10_reached_and_shortest_walk.prog.main.file : Str) == fl_UnknownTie) = true)
    (q239 : PySem.W.findIn K (.ref D_UnknownTie) "tie" = some none)
    (q240 : PySem.W.findIn K (.ref D_UnknownTie) "tie" = some none)
    (q241 : PySem.W.findIn K (.ref D_UnknownTie) "__getattribute__" = some (some (.builtin "BaseException.__getattribute__")))
    (q242 : PySem.W.findIn K (.ref D_UnknownTie) "__getattr__" = some none)
    (q243 : PySem.W.subIn K (.ref D_UnknownTie) (.type "BaseException") = some true)
    (q244 : PySem.W.hasDictIn K D_UnknownTie = true)
    (q245 : PySem.W.specialIn K (.builtin "object.__class__") "__get__" = some (some (.builtin "getset_descriptor.__get__")))
    (q246 : PySem.W.takesIn K (.builtin "object.__class__") = some true)
    (q247 : PySem.W.findIn K (.ref D_BadSides) "__getattribute__" = some (some (.builtin "BaseException.__getattribute__")))
    (q248 : PySem.W.findIn K (.ref D_BadSides) "__getattr__" = some none)
    (q249 : PySem.W.subIn K (.ref D_BadSides) (.type "BaseException") = some true)
    (q250 : PySem.W.hasDictIn K D_BadSides = true)
    (q251 : PySem.W.findIn K (.ref D_BadSides) "__class__" = some (some (.builtin "object.__class__")))
    (q252 : PySem.W.mroIn K D_BadSides (.type "object") = some true)
    (q253 : PySem.W.findIn K (.ref D_TooLarge) "__getattribute__" = some (some (.builtin "BaseException.__getattribute__")))
    (q254 : PySem.W.findIn K (.ref D_TooLarge) "__getattr__" = some none)
    (q255 : PySem.W.subIn K (.ref D_TooLarge) (.type "BaseException") = some true)
    (q256 : PySem.W.hasDictIn K D_TooLarge = true)
    (q257 : PySem.W.findIn K (.ref D_TooLarge) "__class__" = some (some (.builtin "object.__class__")))
    (q258 : PySem.W.mroIn K D_TooLarge (.type "object") = some true)
    (q259 : PySem.W.findIn K (.ref D_UnknownPlace) "__getattribute__" = some (some (.builtin "BaseException.__getattribute__")))
    (q260 : PySem.W.findIn K (.ref D_UnknownPlace) "__getattr__" = some none)
    (q261 : PySem.W.subIn K (.ref D_UnknownPlace) (.type "BaseException") = some true)
    (q262 : PySem.W.hasDictIn K D_UnknownPlace = true)
    (q263 : PySem.W.findIn K (.ref D_UnknownPlace) "__class__" = some (some (.builtin "object.__class__")))
    (q264 : PySem.W.mroIn K D_UnknownPlace (.type "object") = some true)
    (q265 : PySem.W.findIn K (.ref D_UnknownSide) "__getattribute__" = some (some (.builtin "BaseException.__getattribute__")))
    (q266 : PySem.W.findIn K (.ref D_UnknownSide) "__getattr__" = some none)
    (q267 : PySem.W.subIn K (.ref D_UnknownSide) (.type "BaseException") = some true)
    (q268 : PySem.W.hasDictIn K D_UnknownSide = true)
    (q269 : PySem.W.findIn K (.ref D_UnknownSide) "__class__" = some (some (.builtin "object.__class__")))
    (q270 : PySem.W.mroIn K D_UnknownSide (.type "object") = some true)
    (q271 : PySem.W.findIn K (.ref D_UnknownTie) "__getattribute__" = some (some (.builtin "BaseException.__getattribute__")))
    (q272 : PySem.W.findIn K (.ref D_UnknownTie) "__getattr__" = some none)
    (q273 : PySem.W.subIn K (.ref D_UnknownTie) (.type "BaseException") = some true)
    (q274 : PySem.W.hasDictIn K D_UnknownTie = true)
    (q275 : PySem.W.findIn K (.ref D_UnknownTie) "__class__" = some (some (.builtin "object.__class__")))
    (q276 : PySem.W.mroIn K D_UnknownTie (.type "object") = some true)
    (q277 : PySem.W.clsIn K D_ComesapartError = some cdy_ComesapartError)
    (q278 : PySem.W.typeIn K (.ref D_ComesapartError) = some (.type "type"))
    (q279 : PySem.W.clsIn K D_UnknownTie = some cdy_UnknownTie)
    (q280 : PySem.W.typeIn K (.ref D_UnknownTie) = some (.type "type"))
    (q281 : PySem.W.subIn K (.ref D_BadSides) (.ref D_ComesapartError) = some true)
    (q282 : PySem.W.subIn K (.ref D_BadSides) (.ref D_UnknownTie) = some false)
    (q283 : PySem.W.subIn K (.ref D_TooLarge) (.ref D_ComesapartError) = some true)
    (q284 : PySem.W.subIn K (.ref D_TooLarge) (.ref D_UnknownTie) = some false)
    (q285 : PySem.W.subIn K (.ref D_UnknownPlace) (.ref D_ComesapartError) = some true)
    (q286 : PySem.W.subIn K (.ref D_UnknownPlace) (.ref D_UnknownTie) = some false)
    (q287 : PySem.W.subIn K (.ref D_UnknownSide) (.ref D_ComesapartError) = some true)
    (q288 : PySem.W.subIn K (.ref D_UnknownSide) (.ref D_UnknownTie) = some false)
    (q289 : PySem.W.subIn K (.ref D_UnknownTie) (.ref D_ComesapartError) = some true)
    (q290 : PySem.W.subIn K (.ref D_UnknownTie) (.ref D_UnknownTie) = some true)
    (q291 : PySem.W.subIn K (.ref D_ComesapartError) (.type "BaseException") = some true)
    (q292 : D_BadSides ≠ D_UnknownTie)
    (q293 : D_TooLarge ≠ D_UnknownTie)
    (q294 : D_UnknownPlace ≠ D_UnknownTie)
    (q295 : D_UnknownSide ≠ D_UnknownTie)
    (q296 : PySem.W.subIn K (.ref D_BadSides) (.type "ValueError") = some true)
    (q297 : PySem.W.subIn K (.ref D_TooLarge) (.type "ValueError") = some true)
    (q298 : PySem.W.subIn K (.ref D_UnknownPlace) (.type "ValueError") = some true)
    (q299 : PySem.W.subIn K (.ref D_UnknownSide) (.type "ValueError") = some true)
    (q300 : PySem.W.subIn K (.ref D_UnknownTie) (.type "ValueError") = some true)
    (q301 : PySem.W.nsIn K mainGlobals "ValueError" = some none)
    (q302 : PySem.W.nsIn K mainGlobals "abs" = some none)
    (q303 : PySem.W.nsIn K mainGlobals "bool" = some none)
    (q304 : PySem.W.nsIn K mainGlobals "enumerate" = some none)
    (q305 : PySem.W.nsIn K mainGlobals "int" = some none)
    (q306 : PySem.W.nsIn K mainGlobals "isinstance" = some none)
    (q307 : PySem.W.nsIn K mainGlobals "len" = some none)
    (q308 : PySem.W.nsIn K mainGlobals "list" = some none)
    (q309 : PySem.W.nsIn K mainGlobals "range" = some none)
    (q310 : PySem.W.nsIn K mainGlobals "set" = some none)
    (q311 : PySem.W.nsIn K mainGlobals "sorted" = some none)
    (q312 : PySem.W.nsIn K mainGlobals "str" = some none)
    (q313 : PySem.W.nsIn K mainGlobals "tuple" = some none)
    : ∃ fd : FuncData, (∀ (s : Shared) (v : Value), BindsTo s fd ⟨[v], []⟩ [("_law_script", v)]) ∧ ∀ base : Heap, K.In base → base.Ns mainGlobals mg → FnOk PySem.Challenge.rw_comesapart_k10_reached_and_shortest_walk.prog w K mg base CX0 13 fa fd ["_law_script"] (sp_law ⟨PySem.Challenge.rw_comesapart_k10_reached_and_shortest_walk.prog, w, K⟩) := by
  have e := hfa.symm.trans (PySem.W.mg_of X G q138)
  cases e
  have F0 := fun_mk (st := s_l_cell) q20 q21 q22
  have d0 := F0.binds (ps := ["_law_script", "_law_k"]) fun _ _ _ _ _ _ us hl => match us, hl with | [_, _], _ => rfl
  have F1 := fun_mk (st := s_l_draws) q24 q25 q26
  have d1 := F1.binds (ps := ["_law_cell_here", "_law_many"]) fun _ _ _ _ _ _ us hl => match us, hl with | [_, _], _ => rfl
  have F2 := fun_mk (st := s_l_pick) q28 q29 q30
  have d2 := F2.binds (ps := ["_law_draws_here", "_law_k", "_law_many"]) fun _ _ _ _ _ _ us hl => match us, hl with | [_, _, _], _ => rfl
  have F3 := fun_mk (st := s_l_web) q32 q33 q34
  have d3 := F3.binds (ps := ["_law_draws_here", "_law_most_places", "_law_most_ties"]) fun _ _ _ _ _ _ us hl => match us, hl with | [_, _, _], _ => rfl
  have F4 := fun_mk (st := s_l_faced) q36 q37 q38
  have d4 := F4.binds (ps := ["_law_draws_here", "_law_most_places", "_law_most_ties"]) fun _ _ _ _ _ _ us hl => match us, hl with | [_, _, _], _ => rfl
  have F5 := fun_mk (st := s_l_lane) q40 q41 q42
  have d5 := F5.binds (ps := ["_law_draws_here"]) fun _ _ _ _ _ _ us hl => match us, hl with | [_], _ => rfl
  have F6 := fun_mk (st := s_p_check_end) q44 q45 q46
  have d6 := F6.binds (ps := ["sides", "place", "side"]) fun _ _ _ _ _ _ us hl => match us, hl with | [_, _, _], _ => rfl
  have F7 := fun_mk (st := s_m_WebX_initX) q49 q50 q51
  have d7 := F7.binds (ps := ["self", "sides", "ties"]) fun _ _ _ _ _ _ us hl => match us, hl with | [_, _, _], _ => rfl
  have F8 := fun_mk (st := s_l_table) q55 q56 q57
  have d8 := F8.binds (ps := ["_law_ties"]) fun _ _ _ _ _ _ us hl => match us, hl with | [_], _ => rfl
  have F9 := fun_mk (st := s_l_reached) q59 q60 q61
  have d9 := F9.binds (ps := ["_law_table_here", "_law_first"]) fun _ _ _ _ _ _ us hl => match us, hl with | [_, _], _ => rfl
  have F10 := fun_mk (st := s_m_Web_back) q67 q68 q69
  have d10 := F10.binds (ps := ["step"]) fun _ _ _ _ _ _ us hl => match us, hl with | [_], _ => rfl
  have F11 := fun_mk (st := s_m_Web_tail) q72 q73 q74
  have d11 := F11.binds (ps := ["self", "step"]) fun _ _ _ _ _ _ us hl => match us, hl with | [_, _], _ => rfl
  have F12 := fun_mk (st := s_m_Web_head) q77 q78 q79
  have d12 := F12.binds (ps := ["self", "step"]) fun _ _ _ _ _ _ us hl => match us, hl with | [_, _], _ => rfl
  have F13 := fun_mk (st := s_m_WebX_containsX) q82 q83 q84
  have d13 := F13.binds (ps := ["self", "place"]) fun _ _ _ _ _ _ us hl => match us, hl with | [_, _], _ => rfl
  have F14 := fun_mk (st := s_m_Web_steps_from) q87 q88 q89
  have d14 := F14.binds (ps := ["self", "place"]) fun _ _ _ _ _ _ us hl => match us, hl with | [_, _], _ => rfl
  have F15 := fun_mk (st := s_p_followers) q91 q92 q93
  have d15 := F15.binds (ps := ["web", "step"]) fun _ _ _ _ _ _ us hl => match us, hl with | [_, _], _ => rfl
  have F16 := fun_mk (st := s_p_reached) q95 q96 q97
  have d16 := F16.binds (ps := ["web", "first"]) fun _ _ _ _ _ _ us hl => match us, hl with | [_, _], _ => rfl
  have F17 := fun_mk (st := s_p_shortest_walk) q99 q100 q101
  have d17 := F17.binds (ps := ["web", "first", "last"]) fun _ _ _ _ _ _ us hl => match us, hl with | [_, _, _], _ => rfl
  have F18 := fun_mk (st := s_l_is_number) q103 q104 q105
  have d18 := F18.binds (ps := ["_law_told_here"]) fun _ _ _ _ _ _ us hl => match us, hl with | [_], _ => rfl
  have F19 := fun_mk (st := s_l_told) q107 q108 q109
  have d19 := F19.binds (ps := ["_law_web_here", "_law_first", "_law_last", "_law_which"]) fun _ _ _ _ _ _ us hl => match us, hl with | [_, _, _, _], _ => rfl
  have F20 := fun_mk (st := s_l_same) q111 q112 q113
  have d20 := F20.binds (ps := ["_law_told_here", "_law_due"]) fun _ _ _ _ _ _ us hl => match us, hl with | [_, _], _ => rfl
  have F21 := fun_mk (st := s_l_right_first) q115 q116 q117
  have d21 := F21.binds (ps := ["_law_web_here", "_law_table_here", "_law_first"]) fun _ _ _ _ _ _ us hl => match us, hl with | [_, _, _], _ => rfl
  have F22 := fun_mk (st := s_l_far) q119 q120 q121
  have d22 := F22.binds (ps := ["_law_table_here", "_law_last"]) fun _ _ _ _ _ _ us hl => match us, hl with | [_, _], _ => rfl
  have F23 := fun_mk (st := s_l_lowest) q123 q124 q125
  have d23 := F23.binds (ps := ["_law_table_here", "_law_far_here", "_law_first"]) fun _ _ _ _ _ _ us hl => match us, hl with | [_, _, _], _ => rfl
  have F24 := fun_mk (st := s_l_right_last) q127 q128 q129
  have d24 := F24.binds (ps := ["_law_web_here", "_law_table_here", "_law_first", "_law_last"]) fun _ _ _ _ _ _ us hl => match us, hl with | [_, _, _, _], _ => rfl
  have F25 := fun_mk (st := s_l_right_steps) q131 q132 q133
  have d25 := F25.binds (ps := ["_law_web_here", "_law_ties", "_law_draws_here", "_law_at", "_law_many"]) fun _ _ _ _ _ _ us hl => match us, hl with | [_, _, _, _, _], _ => rfl
  have F26 := fun_mk (st := s_l_right_refusals) q135 q136 q137
  have d26 := F26.binds (ps := ["_law_web_here", "_law_ties", "_law_draws_here"]) fun _ _ _ _ _ _ us hl => match us, hl with | [_, _, _], _ => rfl
  have F27 := fun_mk (st := s_law) q139 q140 q141
  have d27 := F27.binds (ps := ["_law_script"]) fun _ _ _ _ _ _ us hl => match us, hl with | [_], _ => rfl
  let T : Txt K mg := {
    A := ⟨fun c => match c with | .BadSides => D_BadSides | .ComesapartError => D_ComesapartError | .TooLarge => D_TooLarge | .UnknownPlace => D_UnknownPlace | .UnknownSide => D_UnknownSide | .UnknownTie => D_UnknownTie | _ => 0, fun c => match c with | .Web => C_Web | _ => 0⟩
    g_Web := PySem.W.mg_of X G q0
    c_Web := ⟨q1, q2, q3, q4⟩
    n_Web_sides := q5
    n_Web_ties := q6
    u_Web_MOST_PLACES := _
    k_Web_MOST_PLACES := ⟨q7, ⟨_, rfl⟩, q8, by decide +kernel⟩
    u_Web_MOST_SIDES := _
    k_Web_MOST_SIDES := ⟨q9, ⟨_, rfl⟩, q10, by decide +kernel⟩
    u_Web_MOST_TIES := _
    k_Web_MOST_TIES := ⟨q11, ⟨_, rfl⟩, q12, by decide +kernel⟩
    g_BadSides := PySem.W.mg_of X G q13
    g_ComesapartError := PySem.W.mg_of X G q14
    g_TooLarge := PySem.W.mg_of X G q15
    g_UnknownPlace := PySem.W.mg_of X G q16
    g_UnknownSide := PySem.W.mg_of X G q17
    g_UnknownTie := PySem.W.mg_of X G q18
    g_l_cell := PySem.W.mg_of X G q19
    a_l_cell := _
    f_l_cell := _
    F_l_cell := F0
    d_l_cell := d0
    g_l_draws := PySem.W.mg_of X G q23
    a_l_draws := _
    f_l_draws := _
    F_l_draws := F1
    d_l_draws := d1
    g_l_pick := PySem.W.mg_of X G q27
    a_l_pick := _
    f_l_pick := _
    F_l_pick := F2
    d_l_pick := d2
    g_l_web := PySem.W.mg_of X G q31
    a_l_web := _
    f_l_web := _
    F_l_web := F3
    d_l_web := d3
    g_l_faced := PySem.W.mg_of X G q35
    a_l_faced := _
    f_l_faced := _
    F_l_faced := F4
    d_l_faced := d4
    g_l_lane := PySem.W.mg_of X G q39
    a_l_lane := _
    f_l_lane := _
    F_l_lane := F5
    d_l_lane := d5
    g_p_check_end := PySem.W.mg_of X G q43
    a_p_check_end := _
    f_p_check_end := _
    F_p_check_end := F6
    d_p_check_end := d6
    a_m_WebX_initX := _
    f_m_WebX_initX := _
    F_m_WebX_initX := F7
    d_m_WebX_initX := d7
    mk_Web := ⟨q52, q47, q48, q53⟩
    g_l_table := PySem.W.mg_of X G q54
    a_l_table := _
    f_l_table := _
    F_l_table := F8
    d_l_table := d8
    g_l_reached := PySem.W.mg_of X G q58
    a_l_reached := _
    f_l_reached := _
    F_l_reached := F9
    d_l_reached := d9
    mc_Web := mc_Web
    a_m_Web_back := _
    f_m_Web_back := _
    F_m_Web_back := F10
    d_m_Web_back := d10
    q_m_Web_back := _
    sm_m_Web_back := ⟨q62, q63, q64, q65, ⟨_, q66⟩, q69⟩
    a_m_Web_tail := _
    f_m_Web_tail := _
    F_m_Web_tail := F11
    d_m_Web_tail := d11
    me_m_Web_tail := ⟨q70, q71, q74⟩
    a_m_Web_head := _
    f_m_Web_head := _
    F_m_Web_head := F12
    d_m_Web_head := d12
    me_m_Web_head := ⟨q75, q76, q79⟩
    a_m_WebX_containsX := _
    f_m_WebX_containsX := _
    F_m_WebX_containsX := F13
    d_m_WebX_containsX := d13
    me_m_WebX_containsX := ⟨q80, q81, q84⟩
    a_m_Web_steps_from := _
    f_m_Web_steps_from := _
    F_m_Web_steps_from := F14
    d_m_Web_steps_from := d14
    me_m_Web_steps_from := ⟨q85, q86, q89⟩
    g_p_followers := PySem.W.mg_of X G q90
    a_p_followers := _
    f_p_followers := _
    F_p_followers := F15
    d_p_followers := d15
    g_p_reached := PySem.W.mg_of X G q94
    a_p_reached := _
    f_p_reached := _
    F_p_reached := F16
    d_p_reached := d16
    g_p_shortest_walk := PySem.W.mg_of X G q98
    a_p_shortest_walk := _
    f_p_shortest_walk := _
    F_p_shortest_walk := F17
    d_p_shortest_walk := d17
    g_l_is_number := PySem.W.mg_of X G q102
    a_l_is_number := _
    f_l_is_number := _
    F_l_is_number := F18
    d_l_is_number := d18
    g_l_told := PySem.W.mg_of X G q106
    a_l_told := _
    f_l_told := _
    F_l_told := F19
    d_l_told := d19
    g_l_same := PySem.W.mg_of X G q110
    a_l_same := _
    f_l_same := _
    F_l_same := F20
    d_l_same := d20
    g_l_right_first := PySem.W.mg_of X G q114
    a_l_right_first := _
    f_l_right_first := _
    F_l_right_first := F21
    d_l_right_first := d21
    g_l_far := PySem.W.mg_of X G q118
    a_l_far := _
    f_l_far := _
    F_l_far := F22
    d_l_far := d22
    g_l_lowest := PySem.W.mg_of X G q122
    a_l_lowest := _
    f_l_lowest := _
    F_l_lowest := F23
    d_l_lowest := d23
    g_l_right_last := PySem.W.mg_of X G q126
    a_l_right_last := _
    f_l_right_last := _
    F_l_right_last := F24
    d_l_right_last := d24
    g_l_right_steps := PySem.W.mg_of X G q130
    a_l_right_steps := _
    f_l_right_steps := _
    F_l_right_steps := F25
    d_l_right_steps := d25
    g_l_right_refusals := PySem.W.mg_of X G q134
    a_l_right_refusals := _
    f_l_right_refusals := _
    F_l_right_refusals := F26
    d_l_right_refusals := d26
    g_law := PySem.W.mg_of X G q138
    a_law := _
    f_law := _
    F_law := F27
    d_law := d27
    i_BadSides := xf_BadSides
    fx_BadSides := (initNF "__init__" "BadSides.__init__" ((clsB (topS 9)).getD 0 (.Pass ⟨0, 0, 0, 0⟩)) cc_BadSides cda_BadSides).fd xdc_BadSides xpm_BadSides xct_BadSides
    x_BadSides := ⟨⟨⟨_, _, _, _, _, _, _, _, _, _, _, _, _, _, _, q144, q145⟩, q146, q147, q148, q149⟩, ⟨_, q150⟩, q151, q152, q153, q154, q155⟩
    dx_BadSides := fun s us _ hl => BindsTo.of_eq (match us, hl with | [_, _], _ => rfl)
    i_TooLarge := xf_TooLarge
    fx_TooLarge := (initNF "__init__" "TooLarge.__init__" ((clsB (topS 7)).getD 0 (.Pass ⟨0, 0, 0, 0⟩)) cc_TooLarge cda_TooLarge).fd xdc_TooLarge xpm_TooLarge xct_TooLarge
    x_TooLarge := ⟨⟨⟨_, _, _, _, _, _, _, _, _, _, _, _, _, _, _, q163, q164⟩, q165, q166, q167, q168⟩, ⟨_, q169⟩, q170, q171, q172, q173, q174⟩
    dx_TooLarge := fun s us _ hl => BindsTo.of_eq (match us, hl with | [_, _], _ => rfl)
    i_UnknownPlace := xf_UnknownPlace
    fx_UnknownPlace := (initNF "__init__" "UnknownPlace.__init__" ((clsB (topS 8)).getD 0 (.Pass ⟨0, 0, 0, 0⟩)) cc_UnknownPlace cda_UnknownPlace).fd xdc_UnknownPlace xpm_UnknownPlace xct_UnknownPlace
    x_UnknownPlace := ⟨⟨⟨_, _, _, _, _, _, _, _, _, _, _, _, _, _, _, q182, q183⟩, q184, q185, q186, q187⟩, ⟨_, q188⟩, q189, q190, q191, q192, q193⟩
    dx_UnknownPlace := fun s us _ hl => BindsTo.of_eq (match us, hl with | [_, _], _ => rfl)
    i_UnknownSide := xf_UnknownSide
    fx_UnknownSide := (initNF "__init__" "UnknownSide.__init__" ((clsB (topS 10)).getD 0 (.Pass ⟨0, 0, 0, 0⟩)) cc_UnknownSide cda_UnknownSide).fd xdc_UnknownSide xpm_UnknownSide xct_UnknownSide
    x_UnknownSide := ⟨⟨⟨_, _, _, _, _, _, _, _, _, _, _, _, _, _, _, q201, q202⟩, q203, q204, q205, q206⟩, ⟨_, q207⟩, q208, q209, q210, q211, q212⟩
    dx_UnknownSide := fun s us _ hl => BindsTo.of_eq (match us, hl with | [_, _, _], _ => rfl)
    i_UnknownTie := xf_UnknownTie
    fx_UnknownTie := (initNF "__init__" "UnknownTie.__init__" ((clsB (topS 11)).getD 0 (.Pass ⟨0, 0, 0, 0⟩)) cc_UnknownTie cda_UnknownTie).fd xdc_UnknownTie xpm_UnknownTie xct_UnknownTie
    x_UnknownTie := ⟨⟨⟨_, _, _, _, _, _, _, _, _, _, _, _, _, _, _, q221, q222⟩, q223, q224, q225, q226⟩, ⟨_, q227⟩, q228, q229, q230, q231, q232⟩
    dx_UnknownTie := fun s us _ hl => BindsTo.of_eq (match us, hl with | [_, _], _ => rfl)
    no_UnknownTie_tie := q240
    xf_UnknownTie := ⟨q241, q242, q243, q244⟩
    exc := fun c hc => by
      revert hc
      cases c with
      | NotAPairing => exact fun h => absurd h (by decide)
      | NothingToUndo => exact fun h => absurd h (by decide)
      | NothingToRedo => exact fun h => absurd h (by decide)
      | BadLabel => exact fun h => absurd h (by decide)
      | NameTaken => exact fun h => absurd h (by decide)
      | NoSuchName => exact fun h => absurd h (by decide)
      | StillTied => exact fun h => absurd h (by decide)
      | ComesapartError => exact fun h => absurd h (by decide)
      | TooLarge => exact fun _ => ⟨q253, q254, q255, q256, q257, q245, q246, q258⟩
      | BadLine => exact fun h => absurd h (by decide)
      | UnknownPlace => exact fun _ => ⟨q259, q260, q261, q262, q263, q245, q246, q264⟩
      | BadSides => exact fun _ => ⟨q247, q248, q249, q250, q251, q245, q246, q252⟩
      | UnknownSide => exact fun _ => ⟨q265, q266, q267, q268, q269, q245, q246, q270⟩
      | UnknownTie => exact fun _ => ⟨q271, q272, q273, q274, q275, q245, q246, q276⟩
      | BadStep => exact fun h => absurd h (by decide)
      | Repeated => exact fun h => absurd h (by decide)
      | NotATurningCycle => exact fun h => absurd h (by decide)
      | UnknownPoint => exact fun h => absurd h (by decide)
      | UnknownPair => exact fun h => absurd h (by decide)
      | SamePoint => exact fun h => absurd h (by decide)
      | NoLinks => exact fun h => absurd h (by decide)
      | BadLink => exact fun h => absurd h (by decide)
      | BadNode => exact fun h => absurd h (by decide)
      | UnknownTerm => exact fun h => absurd h (by decide)
      | NotSameSteps => exact fun h => absurd h (by decide)
      | NoFacing => exact fun h => absurd h (by decide)
      | NotARing => exact fun h => absurd h (by decide)
      | NotAJoint => exact fun h => absurd h (by decide)
      | NotShut => exact fun h => absurd h (by decide)
      | BadCut => exact fun h => absurd h (by decide)
      | NoSuchCut => exact fun h => absurd h (by decide)
      | Locked => exact fun h => absurd h (by decide)
      | Nothing => exact fun h => absurd h (by decide)
      | BadName => exact fun h => absurd h (by decide)
      | BadSign => exact fun h => absurd h (by decide)
      | BadMove => exact fun h => absurd h (by decide)
      | NoTerm => exact fun h => absurd h (by decide)
      | NeverOpened => exact fun h => absurd h (by decide)
      | BoundTwice => exact fun h => absurd h (by decide)
      | UnknownName => exact fun h => absurd h (by decide)
      | UsedTwice => exact fun h => absurd h (by decide)
      | NotUsed => exact fun h => absurd h (by decide)
      | NotARedex => exact fun h => absurd h (by decide)
      | NotBalanced => exact fun h => absurd h (by decide)
      | NotAnArrow => exact fun h => absurd h (by decide)
      | NotAPermutation => exact fun h => absurd h (by decide)
      | BadSetting => exact fun h => absurd h (by decide)
      | BadSigns => exact fun h => absurd h (by decide)
      | BadChoice => exact fun h => absurd h (by decide)
      | NotOuter => exact fun h => absurd h (by decide)
    hx_ComesapartError := fun c hc => by
      revert hc
      cases c with
      | NotAPairing => exact fun h => absurd h (by decide)
      | NothingToUndo => exact fun h => absurd h (by decide)
      | NothingToRedo => exact fun h => absurd h (by decide)
      | BadLabel => exact fun h => absurd h (by decide)
      | NameTaken => exact fun h => absurd h (by decide)
      | NoSuchName => exact fun h => absurd h (by decide)
      | StillTied => exact fun h => absurd h (by decide)
      | ComesapartError => exact fun h => absurd h (by decide)
      | TooLarge => exact fun _ => exm_ref q291 q277 q278 q283
      | BadLine => exact fun h => absurd h (by decide)
      | UnknownPlace => exact fun _ => exm_ref q291 q277 q278 q285
      | BadSides => exact fun _ => exm_ref q291 q277 q278 q281
      | UnknownSide => exact fun _ => exm_ref q291 q277 q278 q287
      | UnknownTie => exact fun _ => exm_ref q291 q277 q278 q289
      | BadStep => exact fun h => absurd h (by decide)
      | Repeated => exact fun h => absurd h (by decide)
      | NotATurningCycle => exact fun h => absurd h (by decide)
      | UnknownPoint => exact fun h => absurd h (by decide)
      | UnknownPair => exact fun h => absurd h (by decide)
      | SamePoint => exact fun h => absurd h (by decide)
      | NoLinks => exact fun h => absurd h (by decide)
      | BadLink => exact fun h => absurd h (by decide)
      | BadNode => exact fun h => absurd h (by decide)
      | UnknownTerm => exact fun h => absurd h (by decide)
      | NotSameSteps => exact fun h => absurd h (by decide)
      | NoFacing => exact fun h => absurd h (by decide)
      | NotARing => exact fun h => absurd h (by decide)
      | NotAJoint => exact fun h => absurd h (by decide)
      | NotShut => exact fun h => absurd h (by decide)
      | BadCut => exact fun h => absurd h (by decide)
      | NoSuchCut => exact fun h => absurd h (by decide)
      | Locked => exact fun h => absurd h (by decide)
      | Nothing => exact fun h => absurd h (by decide)
      | BadName => exact fun h => absurd h (by decide)
      | BadSign => exact fun h => absurd h (by decide)
      | BadMove => exact fun h => absurd h (by decide)
      | NoTerm => exact fun h => absurd h (by decide)
      | NeverOpened => exact fun h => absurd h (by decide)
      | BoundTwice => exact fun h => absurd h (by decide)
      | UnknownName => exact fun h => absurd h (by decide)
      | UsedTwice => exact fun h => absurd h (by decide)
      | NotUsed => exact fun h => absurd h (by decide)
      | NotARedex => exact fun h => absurd h (by decide)
      | NotBalanced => exact fun h => absurd h (by decide)
      | NotAnArrow => exact fun h => absurd h (by decide)
      | NotAPermutation => exact fun h => absurd h (by decide)
      | BadSetting => exact fun h => absurd h (by decide)
      | BadSigns => exact fun h => absurd h (by decide)
      | BadChoice => exact fun h => absurd h (by decide)
      | NotOuter => exact fun h => absurd h (by decide)
    kx_UnknownTie := fun c hc => by
      revert hc
      cases c with
      | NotAPairing => exact fun h => absurd h (by decide)
      | NothingToUndo => exact fun h => absurd h (by decide)
      | NothingToRedo => exact fun h => absurd h (by decide)
      | BadLabel => exact fun h => absurd h (by decide)
      | NameTaken => exact fun h => absurd h (by decide)
      | NoSuchName => exact fun h => absurd h (by decide)
      | StillTied => exact fun h => absurd h (by decide)
      | ComesapartError => exact fun h => absurd h (by decide)
      | TooLarge => exact fun _ => kit_refF q293 q279 q280 q284
      | BadLine => exact fun h => absurd h (by decide)
      | UnknownPlace => exact fun _ => kit_refF q294 q279 q280 q286
      | BadSides => exact fun _ => kit_refF q292 q279 q280 q282
      | UnknownSide => exact fun _ => kit_refF q295 q279 q280 q288
      | UnknownTie => exact fun _ => kit_refT q279 q280 q290
      | BadStep => exact fun h => absurd h (by decide)
      | Repeated => exact fun h => absurd h (by decide)
      | NotATurningCycle => exact fun h => absurd h (by decide)
      | UnknownPoint => exact fun h => absurd h (by decide)
      | UnknownPair => exact fun h => absurd h (by decide)
      | SamePoint => exact fun h => absurd h (by decide)
      | NoLinks => exact fun h => absurd h (by decide)
      | BadLink => exact fun h => absurd h (by decide)
      | BadNode => exact fun h => absurd h (by decide)
      | UnknownTerm => exact fun h => absurd h (by decide)
      | NotSameSteps => exact fun h => absurd h (by decide)
      | NoFacing => exact fun h => absurd h (by decide)
      | NotARing => exact fun h => absurd h (by decide)
      | NotAJoint => exact fun h => absurd h (by decide)
      | NotShut => exact fun h => absurd h (by decide)
      | BadCut => exact fun h => absurd h (by decide)
      | NoSuchCut => exact fun h => absurd h (by decide)
      | Locked => exact fun h => absurd h (by decide)
      | Nothing => exact fun h => absurd h (by decide)
      | BadName => exact fun h => absurd h (by decide)
      | BadSign => exact fun h => absurd h (by decide)
      | BadMove => exact fun h => absurd h (by decide)
      | NoTerm => exact fun h => absurd h (by decide)
      | NeverOpened => exact fun h => absurd h (by decide)
      | BoundTwice => exact fun h => absurd h (by decide)
      | UnknownName => exact fun h => absurd h (by decide)
      | UsedTwice => exact fun h => absurd h (by decide)
      | NotUsed => exact fun h => absurd h (by decide)
      | NotARedex => exact fun h => absurd h (by decide)
      | NotBalanced => exact fun h => absurd h (by decide)
      | NotAnArrow => exact fun h => absurd h (by decide)
      | NotAPermutation => exact fun h => absurd h (by decide)
      | BadSetting => exact fun h => absurd h (by decide)
      | BadSigns => exact fun h => absurd h (by decide)
      | BadChoice => exact fun h => absurd h (by decide)
      | NotOuter => exact fun h => absurd h (by decide)
    kx_ValueError := fun c hc => by
      revert hc
      cases c with
      | NotAPairing => exact fun h => absurd h (by decide)
      | NothingToUndo => exact fun h => absurd h (by decide)
      | NothingToRedo => exact fun h => absurd h (by decide)
      | BadLabel => exact fun h => absurd h (by decide)
      | NameTaken => exact fun h => absurd h (by decide)
      | NoSuchName => exact fun h => absurd h (by decide)
      | StillTied => exact fun h => absurd h (by decide)
      | ComesapartError => exact fun h => absurd h (by decide)
      | TooLarge => exact fun _ => kit_VE q297
      | BadLine => exact fun h => absurd h (by decide)
      | UnknownPlace => exact fun _ => kit_VE q298
      | BadSides => exact fun _ => kit_VE q296
      | UnknownSide => exact fun _ => kit_VE q299
      | UnknownTie => exact fun _ => kit_VE q300
      | BadStep => exact fun h => absurd h (by decide)
      | Repeated => exact fun h => absurd h (by decide)
      | NotATurningCycle => exact fun h => absurd h (by decide)
      | UnknownPoint => exact fun h => absurd h (by decide)
      | UnknownPair => exact fun h => absurd h (by decide)
      | SamePoint => exact fun h => absurd h (by decide)
      | NoLinks => exact fun h => absurd h (by decide)
      | BadLink => exact fun h => absurd h (by decide)
      | BadNode => exact fun h => absurd h (by decide)
      | UnknownTerm => exact fun h => absurd h (by decide)
      | NotSameSteps => exact fun h => absurd h (by decide)
      | NoFacing => exact fun h => absurd h (by decide)
      | NotARing => exact fun h => absurd h (by decide)
      | NotAJoint => exact fun h => absurd h (by decide)
      | NotShut => exact fun h => absurd h (by decide)
      | BadCut => exact fun h => absurd h (by decide)
      | NoSuchCut => exact fun h => absurd h (by decide)
      | Locked => exact fun h => absurd h (by decide)
      | Nothing => exact fun h => absurd h (by decide)
      | BadName => exact fun h => absurd h (by decide)
      | BadSign => exact fun h => absurd h (by decide)
      | BadMove => exact fun h => absurd h (by decide)
      | NoTerm => exact fun h => absurd h (by decide)
      | NeverOpened => exact fun h => absurd h (by decide)
      | BoundTwice => exact fun h => absurd h (by decide)
      | UnknownName => exact fun h => absurd h (by decide)
      | UsedTwice => exact fun h => absurd h (by decide)
      | NotUsed => exact fun h => absurd h (by decide)
      | NotARedex => exact fun h => absurd h (by decide)
      | NotBalanced => exact fun h => absurd h (by decide)
      | NotAnArrow => exact fun h => absurd h (by decide)
      | NotAPermutation => exact fun h => absurd h (by decide)
      | BadSetting => exact fun h => absurd h (by decide)
      | BadSigns => exact fun h => absurd h (by decide)
      | BadChoice => exact fun h => absurd h (by decide)
      | NotOuter => exact fun h => absurd h (by decide)
    b_ValueError := PySem.W.mg_none_of X G q301
    b_abs := PySem.W.mg_none_of X G q302
    b_bool := PySem.W.mg_none_of X G q303
    b_enumerate := PySem.W.mg_none_of X G q304
    b_int := PySem.W.mg_none_of X G q305
    b_isinstance := PySem.W.mg_none_of X G q306
    b_len := PySem.W.mg_none_of X G q307
    b_list := PySem.W.mg_none_of X G q308
    b_range := PySem.W.mg_none_of X G q309
    b_set := PySem.W.mg_none_of X G q310
    b_sorted := PySem.W.mg_none_of X G q311
    b_str := PySem.W.mg_none_of X G q312
    b_tuple := PySem.W.mg_none_of X G q313
  }
  have G_x_BadSides : ∀ base : Heap, FnOk PySem.Challenge.rw_comesapart_k10_reached_and_shortest_walk.prog w K mg base (L2.CX PySem.Challenge.rw_comesapart_k10_reached_and_shortest_walk.prog w) 1 T.i_BadSides T.fx_BadSides ["self", "place"] (spX1 (T.A.tx .BadSides) "place") := fun base => fok_exc1 (k := 0) (ar := ((defArgs ((clsB (topS 9)).getD 0 (.Pass ⟨0, 0, 0, 0⟩))).posonlyargs ++ (defArgs ((clsB (topS 9)).getD 0 (.Pass ⟨0, 0, 0, 0⟩))).args).headD ⟨"", none, ⟨0, 0, 0, 0⟩⟩) (F := initNF "__init__" "BadSides.__init__" ((clsB (topS 9)).getD 0 (.Pass ⟨0, 0, 0, 0⟩)) cc_BadSides cda_BadSides) (D := D_BadSides) (f := xf_BadSides) (show NdefX.NScope ["self", "place", "__class__"] ["self", "place"] ["__class__"] (defScope ((clsB (topS 9)).getD 0 (.Pass ⟨0, 0, 0, 0⟩))) from NdefX.nscope_by (by decide +kernel)) rfl rfl (by decide +kernel) (by decide +kernel) (by decide) (by decide) (show (defScope ((clsB (topS 9)).getD 0 (.Pass ⟨0, 0, 0, 0⟩))).names.lookup ("super" : PySem.Str) = some NameKind.globalImplicit from by decide +kernel) q156 rfl q157 q158 q160 q159 q161 T.x_BadSides q162 (PySem.W.mg_none_of X G q142) (by decide +kernel) q143 (by intro _; rfl)
  have G_x_TooLarge : ∀ base : Heap, FnOk PySem.Challenge.rw_comesapart_k10_reached_and_shortest_walk.prog w K mg base (L2.CX PySem.Challenge.rw_comesapart_k10_reached_and_shortest_walk.prog w) 1 T.i_TooLarge T.fx_TooLarge ["self", "limit"] (spX1 (T.A.tx .TooLarge) "limit") := fun base => fok_exc1 (k := 0) (ar := ((defArgs ((clsB (topS 7)).getD 0 (.Pass ⟨0, 0, 0, 0⟩))).posonlyargs ++ (defArgs ((clsB (topS 7)).getD 0 (.Pass ⟨0, 0, 0, 0⟩))).args).headD ⟨"", none, ⟨0, 0, 0, 0⟩⟩) (F := initNF "__init__" "TooLarge.__init__" ((clsB (topS 7)).getD 0 (.Pass ⟨0, 0, 0, 0⟩)) cc_TooLarge cda_TooLarge) (D := D_TooLarge) (f := xf_TooLarge) (show NdefX.NScope ["self", "limit", "__class__"] ["self", "limit"] ["__class__"] (defScope ((clsB (topS 7)).getD 0 (.Pass ⟨0, 0, 0, 0⟩))) from NdefX.nscope_by (by decide +kernel)) rfl rfl (by decide +kernel) (by decide +kernel) (by decide) (by decide) (show (defScope ((clsB (topS 7)).getD 0 (.Pass ⟨0, 0, 0, 0⟩))).names.lookup ("super" : PySem.Str) = some NameKind.globalImplicit from by decide +kernel) q175 rfl q176 q177 q179 q178 q180 T.x_TooLarge q181 (PySem.W.mg_none_of X G q142) (by decide +kernel) q143 (by intro _; rfl)
  have G_x_UnknownPlace : ∀ base : Heap, FnOk PySem.Challenge.rw_comesapart_k10_reached_and_shortest_walk.prog w K mg base (L2.CX PySem.Challenge.rw_comesapart_k10_reached_and_shortest_walk.prog w) 1 T.i_UnknownPlace T.fx_UnknownPlace ["self", "place"] (spX1 (T.A.tx .UnknownPlace) "place") := fun base => fok_exc1 (k := 0) (ar := ((defArgs ((clsB (topS 8)).getD 0 (.Pass ⟨0, 0, 0, 0⟩))).posonlyargs ++ (defArgs ((clsB (topS 8)).getD 0 (.Pass ⟨0, 0, 0, 0⟩))).args).headD ⟨"", none, ⟨0, 0, 0, 0⟩⟩) (F := initNF "__init__" "UnknownPlace.__init__" ((clsB (topS 8)).getD 0 (.Pass ⟨0, 0, 0, 0⟩)) cc_UnknownPlace cda_UnknownPlace) (D := D_UnknownPlace) (f := xf_UnknownPlace) (show NdefX.NScope ["self", "place", "__class__"] ["self", "place"] ["__class__"] (defScope ((clsB (topS 8)).getD 0 (.Pass ⟨0, 0, 0, 0⟩))) from NdefX.nscope_by (by decide +kernel)) rfl rfl (by decide +kernel) (by decide +kernel) (by decide) (by decide) (show (defScope ((clsB (topS 8)).getD 0 (.Pass ⟨0, 0, 0, 0⟩))).names.lookup ("super" : PySem.Str) = some NameKind.globalImplicit from by decide +kernel) q194 rfl q195 q196 q198 q197 q199 T.x_UnknownPlace q200 (PySem.W.mg_none_of X G q142) (by decide +kernel) q143 (by intro _; rfl)
  have G_x_UnknownSide : ∀ base : Heap, FnOk PySem.Challenge.rw_comesapart_k10_reached_and_shortest_walk.prog w K mg base (L2.CX PySem.Challenge.rw_comesapart_k10_reached_and_shortest_walk.prog w) 1 T.i_UnknownSide T.fx_UnknownSide ["self", "place", "side"] (spX2 (T.A.tx .UnknownSide) "place" "side") := fun base => fok_exc2 (k := 0) (ar := ((defArgs ((clsB (topS 10)).getD 0 (.Pass ⟨0, 0, 0, 0⟩))).posonlyargs ++ (defArgs ((clsB (topS 10)).getD 0 (.Pass ⟨0, 0, 0, 0⟩))).args).headD ⟨"", none, ⟨0, 0, 0, 0⟩⟩) (F := initNF "__init__" "UnknownSide.__init__" ((clsB (topS 10)).getD 0 (.Pass ⟨0, 0, 0, 0⟩)) cc_UnknownSide cda_UnknownSide) (D := D_UnknownSide) (f := xf_UnknownSide) (show NdefX.NScope ["self", "place", "side", "__class__"] ["self", "place", "side"] ["__class__"] (defScope ((clsB (topS 10)).getD 0 (.Pass ⟨0, 0, 0, 0⟩))) from NdefX.nscope_by (by decide +kernel)) rfl rfl (by decide +kernel) (by decide +kernel) (by decide) (by decide) (by decide) (by decide) (show (defScope ((clsB (topS 10)).getD 0 (.Pass ⟨0, 0, 0, 0⟩))).names.lookup ("super" : PySem.Str) = some NameKind.globalImplicit from by decide +kernel) q213 rfl q214 q215 q217 q216 q218 T.x_UnknownSide q219 q220 (PySem.W.mg_none_of X G q142) (by decide +kernel) q143 (by intro _; rfl)
  have G_x_UnknownTie : ∀ base : Heap, FnOk PySem.Challenge.rw_comesapart_k10_reached_and_shortest_walk.prog w K mg base (L2.CX PySem.Challenge.rw_comesapart_k10_reached_and_shortest_walk.prog w) 1 T.i_UnknownTie T.fx_UnknownTie ["self", "tie"] (spX1 (T.A.tx .UnknownTie) "tie") := fun base => fok_exc1 (k := 0) (ar := ((defArgs ((clsB (topS 11)).getD 0 (.Pass ⟨0, 0, 0, 0⟩))).posonlyargs ++ (defArgs ((clsB (topS 11)).getD 0 (.Pass ⟨0, 0, 0, 0⟩))).args).headD ⟨"", none, ⟨0, 0, 0, 0⟩⟩) (F := initNF "__init__" "UnknownTie.__init__" ((clsB (topS 11)).getD 0 (.Pass ⟨0, 0, 0, 0⟩)) cc_UnknownTie cda_UnknownTie) (D := D_UnknownTie) (f := xf_UnknownTie) (show NdefX.NScope ["self", "tie", "__class__"] ["self", "tie"] ["__class__"] (defScope ((clsB (topS 11)).getD 0 (.Pass ⟨0, 0, 0, 0⟩))) from NdefX.nscope_by (by decide +kernel)) rfl rfl (by decide +kernel) (by decide +kernel) (by decide) (by decide) (show (defScope ((clsB (topS 11)).getD 0 (.Pass ⟨0, 0, 0, 0⟩))).names.lookup ("super" : PySem.Str) = some NameKind.globalImplicit from by decide +kernel) q233 rfl q234 q235 q237 q236 q238 T.x_UnknownTie q239 (PySem.W.mg_none_of X G q142) (by decide +kernel) q143 (by intro _; rfl)
  refine ⟨PySem.W.fnOf "law" "law" (defArgs s_law) (defBody s_law) (defScope s_law) .none kV27 dc27 pm27 an27 cd27 ct27, fun s v => .of_eq rfl, fun base _ _ => ?_⟩
  have G_l_cell := ok_l_cell (P := PySem.Challenge.rw_comesapart_k10_reached_and_shortest_walk.prog) (w := w) (base := base) T
  have G_l_draws := ok_l_draws (P := PySem.Challenge.rw_comesapart_k10_reached_and_shortest_walk.prog) (w := w) (base := base) T
  have G_l_pick := ok_l_pick (P := PySem.Challenge.rw_comesapart_k10_reached_and_shortest_walk.prog) (w := w) (base := base) T
  have G_l_web := ok_l_web (P := PySem.Challenge.rw_comesapart_k10_reached_and_shortest_walk.prog) (w := w) (base := base) T G_l_pick
  have G_l_faced := ok_l_faced (P := PySem.Challenge.rw_comesapart_k10_reached_and_shortest_walk.prog) (w := w) (base := base) T G_l_pick
  have G_l_lane := ok_l_lane (P := PySem.Challenge.rw_comesapart_k10_reached_and_shortest_walk.prog) (w := w) (base := base) T G_l_pick
  have G_p_check_end := ok_p_check_end (P := PySem.Challenge.rw_comesapart_k10_reached_and_shortest_walk.prog) (w := w) (base := base) T (G_x_UnknownPlace base) (G_x_UnknownSide base)
  have G_m_WebX_initX := ok_m_WebX_initX (P := PySem.Challenge.rw_comesapart_k10_reached_and_shortest_walk.prog) (w := w) (base := base) T G_p_check_end (G_x_BadSides base) (G_x_TooLarge base)
  have G_l_table := ok_l_table (P := PySem.Challenge.rw_comesapart_k10_reached_and_shortest_walk.prog) (w := w) (base := base) T
  have G_l_reached := ok_l_reached (P := PySem.Challenge.rw_comesapart_k10_reached_and_shortest_walk.prog) (w := w) (base := base) T
  have G_m_Web_back := ok_m_Web_back (P := PySem.Challenge.rw_comesapart_k10_reached_and_shortest_walk.prog) (w := w) (base := base) T
  have G_m_Web_tail := ok_m_Web_tail (P := PySem.Challenge.rw_comesapart_k10_reached_and_shortest_walk.prog) (w := w) (base := base) T (G_x_UnknownTie base)
  have G_m_Web_head := ok_m_Web_head (P := PySem.Challenge.rw_comesapart_k10_reached_and_shortest_walk.prog) (w := w) (base := base) T G_m_Web_back G_m_Web_tail
  have G_m_WebX_containsX := ok_m_WebX_containsX (P := PySem.Challenge.rw_comesapart_k10_reached_and_shortest_walk.prog) (w := w) (base := base) T
  have G_m_Web_steps_from := ok_m_Web_steps_from (P := PySem.Challenge.rw_comesapart_k10_reached_and_shortest_walk.prog) (w := w) (base := base) T G_m_WebX_containsX (G_x_UnknownPlace base)
  have G_p_followers := ok_p_followers (P := PySem.Challenge.rw_comesapart_k10_reached_and_shortest_walk.prog) (w := w) (base := base) T G_m_Web_head G_m_Web_steps_from G_m_Web_tail
  have G_p_reached := ok_p_reached (P := PySem.Challenge.rw_comesapart_k10_reached_and_shortest_walk.prog) (w := w) (base := base) T G_p_followers
  have G_p_shortest_walk := ok_p_shortest_walk (P := PySem.Challenge.rw_comesapart_k10_reached_and_shortest_walk.prog) (w := w) (base := base) T G_m_Web_tail G_p_followers
  have G_l_is_number := ok_l_is_number (P := PySem.Challenge.rw_comesapart_k10_reached_and_shortest_walk.prog) (w := w) (base := base) T
  have GC_l_is_number := okc_l_is_number (P := PySem.Challenge.rw_comesapart_k10_reached_and_shortest_walk.prog) (w := w) (base := base) T
  have G_l_told := ok_l_told (P := PySem.Challenge.rw_comesapart_k10_reached_and_shortest_walk.prog) (w := w) (base := base) T G_p_reached G_p_shortest_walk G_l_is_number GC_l_is_number
  have G_l_same := ok_l_same (P := PySem.Challenge.rw_comesapart_k10_reached_and_shortest_walk.prog) (w := w) (base := base) T
  have G_l_right_first := ok_l_right_first (P := PySem.Challenge.rw_comesapart_k10_reached_and_shortest_walk.prog) (w := w) (base := base) T G_l_reached G_l_told G_l_same
  have G_l_far := ok_l_far (P := PySem.Challenge.rw_comesapart_k10_reached_and_shortest_walk.prog) (w := w) (base := base) T
  have G_l_lowest := ok_l_lowest (P := PySem.Challenge.rw_comesapart_k10_reached_and_shortest_walk.prog) (w := w) (base := base) T
  have G_l_right_last := ok_l_right_last (P := PySem.Challenge.rw_comesapart_k10_reached_and_shortest_walk.prog) (w := w) (base := base) T G_l_far G_l_lowest G_l_told G_l_same
  have G_l_right_steps := ok_l_right_steps (P := PySem.Challenge.rw_comesapart_k10_reached_and_shortest_walk.prog) (w := w) (base := base) T G_l_table G_l_pick G_l_right_first G_l_right_last
  have G_l_right_refusals := ok_l_right_refusals (P := PySem.Challenge.rw_comesapart_k10_reached_and_shortest_walk.prog) (w := w) (base := base) T G_l_pick G_l_told G_l_same
  have G_law := ok_law (P := PySem.Challenge.rw_comesapart_k10_reached_and_shortest_walk.prog) (w := w) (base := base) T G_l_cell G_l_draws G_l_pick G_l_web G_l_faced G_l_lane G_m_WebX_initX G_l_right_steps G_l_right_refusals
  exact G_law
end K10

open PySem PySem.W PyProof.Rows
set_option maxRecDepth 100000 in
set_option maxHeartbeats 0 in
theorem PySem.Challenge.cw_comesapart_k10_reached_and_shortest_walk_holds : PySem.Challenge.rw_comesapart_k10_reached_and_shortest_walk.Holds := by
  w_on; o_law; k_head; (case hw => w_witness2)
  k_fill
  refine L2.walk_of (l := PySem.Challenge.rw_comesapart_k10_reached_and_shortest_walk) (n := 63) (k := 13) (x := "_law_script") (CX := fun _ => L2.CX0) (sp := fun w => K10.sp_law ⟨PySem.Challenge.rw_comesapart_k10_reached_and_shortest_walk.prog, w, _⟩) rfl (by decide) rfl ⟨rfl, by decide, by decide⟩ (fun w h Y => PySem.W.kIn_of Y) ?F (fun w _ a ns hl _ hS => ⟨⟨ns⟩, K10.law_plain ns hl, G.Fn.script hS⟩) (fun _ _ _ _ _ h => h)
  case F =>
    intro w mg fa h KX G hmg
    refine' K10.all_mk KX G hmg ?q0 ?q1 ?q2 ?q3 ?q4 ?q5 ?q6 ?q7 ?q8 ?q9 ?q10 ?q11 ?q12 ?q13 ?q14 ?q15 ?q16 ?q17 ?q18 ?q19 ?q20 ?q21 ?q22 ?q23 ?q24 ?q25 ?q26 ?q27 ?q28 ?q29 ?q30 ?q31 ?q32 ?q33 ?q34 ?q35 ?q36 ?q37 ?q38 ?q39 ?q40 ?q41 ?q42 ?q43 ?q44 ?q45 ?q46 ?q47 ?q48 ?q49 ?q50 ?q51 ?q52 ?q53 ?q54 ?q55 ?q56 ?q57 ?q58 ?q59 ?q60 ?q61 ?q62 ?q63 ?q64 ?q65 ?q66 ?q67 ?q68 ?q69 ?q70 ?q71 ?q72 ?q73 ?q74 ?q75 ?q76 ?q77 ?q78 ?q79 ?q80 ?q81 ?q82 ?q83 ?q84 ?q85 ?q86 ?q87 ?q88 ?q89 ?q90 ?q91 ?q92 ?q93 ?q94 ?q95 ?q96 ?q97 ?q98 ?q99 ?q100 ?q101 ?q102 ?q103 ?q104 ?q105 ?q106 ?q107 ?q108 ?q109 ?q110 ?q111 ?q112 ?q113 ?q114 ?q115 ?q116 ?q117 ?q118 ?q119 ?q120 ?q121 ?q122 ?q123 ?q124 ?q125 ?q126 ?q127 ?q128 ?q129 ?q130 ?q131 ?q132 ?q133 ?q134 ?q135 ?q136 ?q137 ?q138 ?q139 ?q140 ?q141 ?q142 ?q143 ?q144 ?q145 ?q146 ?q147 ?q148 ?q149 ?q150 ?q151 ?q152 ?q153 ?q154 ?q155 ?q156 ?q157 ?q158 ?q159 ?q160 ?q161 ?q162 ?q163 ?q164 ?q165 ?q166 ?q167 ?q168 ?q169 ?q170 ?q171 ?q172 ?q173 ?q174 ?q175 ?q176 ?q177 ?q178 ?q179 ?q180 ?q181 ?q182 ?q183 ?q184 ?q185 ?q186 ?q187 ?q188 ?q189 ?q190 ?q191 ?q192 ?q193 ?q194 ?q195 ?q196 ?q197 ?q198 ?q199 ?q200 ?q201 ?q202 ?q203 ?q204 ?q205 ?q206 ?q207 ?q208 ?q209 ?q210 ?q211 ?q212 ?q213 ?q214 ?q215 ?q216 ?q217 ?q218 ?q219 ?q220 ?q221 ?q222 ?q223 ?q224 ?q225 ?q226 ?q227 ?q228 ?q229 ?q230 ?q231 ?q232 ?q233 ?q234 ?q235 ?q236 ?q237 ?q238 ?q239 ?q240 ?q241 ?q242 ?q243 ?q244 ?q245 ?q246 ?q247 ?q248 ?q249 ?q250 ?q251 ?q252 ?q253 ?q254 ?q255 ?q256 ?q257 ?q258 ?q259 ?q260 ?q261 ?q262 ?q263 ?q264 ?q265 ?q266 ?q267 ?q268 ?q269 ?q270 ?q271 ?q272 ?q273 ?q274 ?q275 ?q276 ?q277 ?q278 ?q279 ?q280 ?q281 ?q282 ?q283 ?q284 ?q285 ?q286 ?q287 ?q288 ?q289 ?q290 ?q291 ?q292 ?q293 ?q294 ?q295 ?q296 ?q297 ?q298 ?q299 ?q300 ?q301 ?q302 ?q303 ?q304 ?q305 ?q306 ?q307 ?q308 ?q309 ?q310 ?q311 ?q312 ?q313
    (case q0 => k_is)
    (case q1 => k_is)
    (case q2 => k_is)
    (case q3 => k_is)
    (case q4 => k_is)
    (case q5 => k_is)
    (case q6 => k_is)
    (case q7 => k_is)
    (case q8 => k_is)
    (case q9 => k_is)
    (case q10 => k_is)
    (case q11 => k_is)
    (case q12 => k_is)
    (case q13 => k_is)
    (case q14 => k_is)
    (case q15 => k_is)
    (case q16 => k_is)
    (case q17 => k_is)
    (case q18 => k_is)
    (case q19 => k_is)
    (case q20 => k_is)
    (case q21 => k_is)
    (case q22 => k_is)
    (case q23 => k_is)
    (case q24 => k_is)
    (case q25 => k_is)
    (case q26 => k_is)
    (case q27 => k_is)
    (case q28 => k_is)
    (case q29 => k_is)
    (case q30 => k_is)
    (case q31 => k_is)
    (case q32 => k_is)
    (case q33 => k_is)
    (case q34 => k_is)
    (case q35 => k_is)
    (case q36 => k_is)
    (case q37 => k_is)
    (case q38 => k_is)
    (case q39 => k_is)
    (case q40 => k_is)
    (case q41 => k_is)
    (case q42 => k_is)
    (case q43 => k_is)
    (case q44 => k_is)
    (case q45 => k_is)
    (case q46 => k_is)
    (case q47 => k_is)
    (case q48 => k_is)
    (case q49 => k_is)
    (case q50 => k_is)
    (case q51 => k_is)
    (case q52 => k_is)
    (case q53 => k_is)
    (case q54 => k_is)
    (case q55 => k_is)
    (case q56 => k_is)
    (case q57 => k_is)
    (case q58 => k_is)
    (case q59 => k_is)
    (case q60 => k_is)
    (case q61 => k_is)
    (case q62 => k_is)
    (case q63 => k_is)
    (case q64 => k_is)
    (case q65 => k_is)
    (case q66 => k_is)
    (case q67 => k_is)
    (case q68 => k_is)
    (case q69 => k_is)
    (case q70 => k_is)
    (case q71 => k_is)
    (case q72 => k_is)
    (case q73 => k_is)
    (case q74 => k_is)
    (case q75 => k_is)
    (case q76 => k_is)
    (case q77 => k_is)
    (case q78 => k_is)
    (case q79 => k_is)
    (case q80 => k_is)
    (case q81 => k_is)
    (case q82 => k_is)
    (case q83 => k_is)
    (case q84 => k_is)
    (case q85 => k_is)
    (case q86 => k_is)
    (case q87 => k_is)
    (case q88 => k_is)
    (case q89 => k_is)
    (case q90 => k_is)
    (case q91 => k_is)
    (case q92 => k_is)
    (case q93 => k_is)
    (case q94 => k_is)
    (case q95 => k_is)
    (case q96 => k_is)
    (case q97 => k_is)
    (case q98 => k_is)
    (case q99 => k_is)
    (case q100 => k_is)
    (case q101 => k_is)
    (case q102 => k_is)
    (case q103 => k_is)
    (case q104 => k_is)
    (case q105 => k_is)
    (case q106 => k_is)
    (case q107 => k_is)
    (case q108 => k_is)
    (case q109 => k_is)
    (case q110 => k_is)
    (case q111 => k_is)
    (case q112 => k_is)
    (case q113 => k_is)
    (case q114 => k_is)
    (case q115 => k_is)
    (case q116 => k_is)
    (case q117 => k_is)
    (case q118 => k_is)
    (case q119 => k_is)
    (case q120 => k_is)
    (case q121 => k_is)
    (case q122 => k_is)
    (case q123 => k_is)
    (case q124 => k_is)
    (case q125 => k_is)
    (case q126 => k_is)
    (case q127 => k_is)
    (case q128 => k_is)
    (case q129 => k_is)
    (case q130 => k_is)
    (case q131 => k_is)
    (case q132 => k_is)
    (case q133 => k_is)
    (case q134 => k_is)
    (case q135 => k_is)
    (case q136 => k_is)
    (case q137 => k_is)
    (case q138 => k_is)
    (case q139 => k_is)
    (case q140 => k_is)
    (case q141 => k_is)
    (case q142 => k_is)
    (case q143 => k_is)
    (case q144 => k_is)
    (case q145 => decide +kernel)
    (case q146 => k_is)
    (case q147 => k_is)
    (case q148 => k_is)
    (case q149 => k_is)
    (case q150 => k_is)
    (case q151 => k_is)
    (case q152 => ks_is)
    (case q153 => k_is)
    (case q154 => k_is)
    (case q155 => k_is)
    (case q156 => k_is)
    (case q157 => k_is)
    (case q158 => k_is)
    (case q159 => k_is)
    (case q160 => rfl)
    (case q161 => decide +kernel)
    (case q162 => k_is)
    (case q163 => k_is)
    (case q164 => decide +kernel)
    (case q165 => k_is)
    (case q166 => k_is)
    (case q167 => k_is)
    (case q168 => k_is)
    (case q169 => k_is)
    (case q170 => k_is)
    (case q171 => ks_is)
    (case q172 => k_is)
    (case q173 => k_is)
    (case q174 => k_is)
    (case q175 => k_is)
    (case q176 => k_is)
    (case q177 => k_is)
    (case q178 => k_is)
    (case q179 => rfl)
    (case q180 => decide +kernel)
    (case q181 => k_is)
    (case q182 => k_is)
    (case q183 => decide +kernel)
    (case q184 => k_is)
    (case q185 => k_is)
    (case q186 => k_is)
    (case q187 => k_is)
    (case q188 => k_is)
    (case q189 => k_is)
    (case q190 => ks_is)
    (case q191 => k_is)
    (case q192 => k_is)
    (case q193 => k_is)
    (case q194 => k_is)
    (case q195 => k_is)
    (case q196 => k_is)
    (case q197 => k_is)
    (case q198 => rfl)
    (case q199 => decide +kernel)
    (case q200 => k_is)
    (case q201 => k_is)
    (case q202 => decide +kernel)
    (case q203 => k_is)
    (case q204 => k_is)
    (case q205 => k_is)
    (case q206 => k_is)
    (case q207 => k_is)
    (case q208 => k_is)
    (case q209 => ks_is)
    (case q210 => k_is)
    (case q211 => k_is)
    (case q212 => k_is)
    (case q213 => k_is)
    (case q214 => k_is)
    (case q215 => k_is)
    (case q216 => k_is)
    (case q217 => rfl)
    (case q218 => decide +kernel)
    (case q219 => k_is)
    (case q220 => k_is)
    (case q221 => k_is)
    (case q222 => decide +kernel)
    (case q223 => k_is)
    (case q224 => k_is)
    (case q225 => k_is)
    (case q226 => k_is)
    (case q227 => k_is)
    (case q228 => k_is)
    (case q229 => ks_is)
    (case q230 => k_is)
    (case q231 => k_is)
    (case q232 => k_is)
    (case q233 => k_is)
    (case q234 => k_is)
    (case q235 => k_is)
    (case q236 => k_is)
    (case q237 => rfl)
    (case q238 => decide +kernel)
    (case q239 => k_is)
    (case q240 => k_is)
    (case q241 => k_is)
    (case q242 => k_is)
    (case q243 => k_is)
    (case q244 => k_is)
    (case q245 => k_is)
    (case q246 => k_is)
    (case q247 => k_is)
    (case q248 => k_is)
    (case q249 => k_is)
    (case q250 => k_is)
    (case q251 => k_is)
    (case q252 => k_is)
    (case q253 => k_is)
    (case q254 => k_is)
    (case q255 => k_is)
    (case q256 => k_is)
    (case q257 => k_is)
    (case q258 => k_is)
    (case q259 => k_is)
    (case q260 => k_is)
    (case q261 => k_is)
    (case q262 => k_is)
    (case q263 => k_is)
    (case q264 => k_is)
    (case q265 => k_is)
    (case q266 => k_is)
    (case q267 => k_is)
    (case q268 => k_is)
    (case q269 => k_is)
    (case q270 => k_is)
    (case q271 => k_is)
    (case q272 => k_is)
    (case q273 => k_is)
    (case q274 => k_is)
    (case q275 => k_is)
    (case q276 => k_is)
    (case q277 => k_is)
    (case q278 => k_is)
    (case q279 => k_is)
    (case q280 => k_is)
    (case q281 => k_is)
    (case q282 => k_is)
    (case q283 => k_is)
    (case q284 => k_is)
    (case q285 => k_is)
    (case q286 => k_is)
    (case q287 => k_is)
    (case q288 => k_is)
    (case q289 => k_is)
    (case q290 => k_is)
    (case q291 => k_is)
    (case q292 => decide)
    (case q293 => decide)
    (case q294 => decide)
    (case q295 => decide)
    (case q296 => k_is)
    (case q297 => k_is)
    (case q298 => k_is)
    (case q299 => k_is)
    (case q300 => k_is)
    (case q301 => k_is)
    (case q302 => k_is)
    (case q303 => k_is)
    (case q304 => k_is)
    (case q305 => k_is)
    (case q306 => k_is)
    (case q307 => k_is)
    (case q308 => k_is)
    (case q309 => k_is)
    (case q310 => k_is)
    (case q311 => k_is)
    (case q312 => k_is)
    (case q313 => k_is)

