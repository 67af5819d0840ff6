import PyProof.Rows.All
import Wide.All
import OpenK.AllK
import Wide.FinOn
import HandS.ForMost
import HandS.DictComp
import HandS.Strs
import HandS.IsInst
import HandS.SortInts
import KE.DataEq
import HandS.Wide
import HandS.Conv
import HandS.ExcOwn
import HandS.ExcInit
import HandS.ExcField
import HandS.ExcIs
import HandS.ExcSuper
import HandS.TryOnly
import HandS.TryMany
import HandS.Property
import HandS.ClsMeth
import HandS.OwnEq
import KE.KExcSuper
import HandS.Nested
import HandS.WordsExc
import KE.KExcIs
import KE.GoesMore
import HandS.TupAny
import HandS.Deep
import HandS.More
import HandS.SetKeys
import HandS.Star
import HandS.SetBool
import HandS.Flow
import HandS.SetFor
import HandS.Style
import HandS.Walk
import PyProof.InstEq
import KE.KOwnIter
import HandS.IterVal
import HandS.HotCalls
import HandS.TupSets
import KE.KTryMore
import HandS.OwnIter
import KE.SortCalls
import KE.SortData
import KE.DataCmp
import KE.KRevSl
import HandS.SortKw
import KE.DataMinMax
import HandS.TupLen
import KE.KDictSum
import HandS.Defaults
import HandS.FStr
import PyProof.FString3
import PyProof.StrOps2
import PyProof.Rows.StrIntSpec
import PyProof.Rows.Range3
import HandS.Records
import PyProof.ListMulRoad
import PyProof.TwoTypes
import PyProof.Rows.MatchSeqLen
import KE.KDictList
import HandS.Sort
import KE.KDictDisplayH
import HandS.Zip
import HandS.Text
import HandS.Iter
import HandS.NoneIn
import KE.RegKSuper
import PySem.Challenge.RW_comesapart_k41_graphs_of_places_and_ties
set_option Elab.async false
set_option linter.all false
set_option maxRecDepth 100000
section
set_option maxHeartbeats 4000000
/-! G0: rules that the layer lacks: a name takes a dict comprehension. -/
namespace L2
open PySem PySem.Spec PyProof.Rows
section
variable {X : Cx}
/-! the same rules over a written part that bears a name (K, w): within a comprehension's block the context is another, K and w are not -/
section
variable (K : PySem.W.Frag) (w : World)
theorem op_niK (h : X.K = K := by rfl) : OpR X (compareOp .NotIn) (rIn K true) := h ▸ op_notIn_seq
theorem ix_lK (h : X.K = K := by rfl) : IxR X (rIxL K) := h ▸ ix_list
theorem ix_tK (h : X.K = K := by rfl) : IxR X (rIxT K) := h ▸ ix_tup
theorem ix_qK (h : X.K = K := by rfl) : IxR X (rIx K) := h ▸ ix_seq
theorem sl_lK (h : X.K = K := by rfl) : SlR X (rSlL K) := h ▸ sl_list
theorem len_K (h : X.K = K := by rfl) : CallR X (.builtin "len") (fun xs H Q => ∃ p ys, xs = [.ref p] ∧ (SqL K H p ys ∨ SqT K H p ys) ∧ Q (.int ys.length) H) := h ▸ call_len_seq
theorem list_K (h : X.K = K := by rfl) : CallR X (.type "list") (fun xs H Q => ∃ p ys, xs = [.ref p] ∧ (SqL K H p ys ∨ SqT K H p ys) ∧ ∀ l, H l = none → Q (.ref l) (upd H l (.lst ys))) := h ▸ call_list_of
theorem tuple_K (h : X.K = K := by rfl) : CallR X (.type "tuple") (fun xs H Q => ∃ p ys, xs = [.ref p] ∧ ((SqL K H p ys ∧ ∀ l, H l = none → Q (.ref l) (upd H l (.tup ys))) ∨ (SqT K H p ys ∧ Q (.ref p) H))) := h ▸ call_tuple_of
theorem sum_K (hc : X.calm = true) (h : X.K = K := by rfl) : CallR X (.builtin "sum") (rSum K) := h ▸ cr_sum hc
/-- data without dicts, not too deep -/
def shP (d : PyData) : Bool := d.plain && decide (d.depth ≤ 64)
def rEqP (K : PySem.W.Frag) : R2 := fun x y H Q => ∃ d e, Dp K H x d ∧ Dp K H y e ∧ shP d = true ∧ shP e = true ∧ Q (.bl (PyData.eqv d e)) H
theorem op_eqDK (hu : X.A.units + 64 < cLine) (h : X.K = K := by rfl) : OpR X (compareOp .Eq) (rEqP K) := by
  subst h
  intro pins s σ H x y v u Q I rx ry ⟨d, e, hd, he, sd, se, q⟩
  obtain ⟨as, r1⟩ := Dp.reads I d x v hd rx
  obtain ⟨bs, r2⟩ := Dp.reads I e y u he ry
  simp only [shP, Bool.and_eq_true, decide_eq_true_eq] at sd se
  exact SeqAt.eq_plain r1 r2 sd.1 se.1 (by omega) ⟨.bl _, H, I, rfl, q⟩
theorem isi_K (h : X.K = K := by rfl) : CallR X (.builtin "isinstance") (rIsi K) := h ▸ call_isi
theorem pi_lK {tg l : Expr} {tl : TE} (hl : PE X l tl) (h : X.K = K := by rfl) : PI X tg l (iList K tl) := h ▸ pi_list hl
theorem pi_tK {tg l : Expr} {tl : TE} (hl : PE X l tl) (h : X.K = K := by rfl) : PI X tg l (iTup K tl) := h ▸ pi_tup hl
theorem bm_K {o e : Expr} {es : List Expr} {to : TE} {t : TA} {name : Str} {apos cpos : Pos} {T id : String} {r : V → List V → Hp → VK → Prop} (pa : PlainAttrs T) (slot : Slot T name id) (hty : typeOf (.builtin id) = pure (.type "method_descriptor")) (hm : MtR X id r) (ho : PE X o to) (ha : PA X (e :: es) t)
    (hbase : attributeBase o name X.env (eval o X.env) = eval o X.env := by rfl)
    (hfew : ((backTo cpos (starEach (e :: es) X.env)).all (fun x => !x.1) && (backToKw cpos (keywordEach [] X.env)).all (fun x => x.1.isSome)
      && decide ((e :: es).length + ([] : List Keyword).length + (if ([] : List Keyword).isEmpty then 0 else 1) < 30)) = true := by rfl)
    (hline : (apos.endLine == cpos.line) = true := by rfl) (hs : starEach (e :: es) X.env = (false, eval e X.env) :: starEach es X.env := by rfl) (hplain : (backTo cpos (starEach es X.env)).any (·.1) = false := by rfl) (h : X.K = K := by rfl) :
    PE X (.Call (.Attribute o name apos) (e :: es) [] cpos) (tBM K T r to t) := h ▸ pe_bm pa slot hty hm ho ha hbase hfew hline hs hplain
end
end
end L2
end

/-! G1: value environments over the hand layer. F: the frozen view of the heap (read only from now on), L: what is owned (may still be written). -/
namespace G
open PySem L2

structure GCtx where
  P : Program
  w : World
  K : PySem.W.Frag

abbrev LO := List (Addr × HO)

structure En where
  F0 : Hp
  H0 : Hp
  M : List Addr

structure Wk (e : En) (F : Hp) (L : LO) (H : Hp) : Prop where
  ff : Same e.F0 F
  hh : ∀ a o, a ∉ e.M → e.H0 a = some o → H a = some o
  th : ∀ a, e.H0 a ≠ none → H a ≠ none
  fh : Same F H
  nw : ∀ a, e.H0 a ≠ none → e.F0 a = none → F a = none
  tp : ∀ a xs, H a = some (.tup xs) → F a = some (.tup xs)
  ow : ∀ p ∈ L, F p.1 = none ∧ H p.1 = some p.2 ∧ (e.H0 p.1 = none ∨ p.1 ∈ e.M)
  nd : (L.map Prod.fst).Nodup

/-- the heap has grown, nothing that stood has changed -/
abbrev Gr (F H F' H' : Hp) : Prop := Wk ⟨F, H, []⟩ F' [] H'

theorem ne_some {α : Type} {x : Option α} {y : α} (h : x = some y) : x ≠ none := fun z => by rw [z] at h; cases h

theorem Wk.base {e : En} {F : Hp} {L : LO} {H : Hp} (k : Wk e F L H) : Gr F H F H :=
  ⟨Same.refl _, fun _ _ _ h => h, fun _ h => h, k.fh, fun _ _ h => h, k.tp, fun _ h => (nomatch h), List.nodup_nil⟩

theorem Wk.trans {e : En} {F F' : Hp} {L L' : LO} {H H' : Hp} (a : Wk e F L H) (b : Wk ⟨F, H, []⟩ F' L' H') : Wk e F' (L' ++ L) H' where
  ff := a.ff.trans b.ff
  hh := fun x o hx h => b.hh x o (fun z => nomatch z) (a.hh x o hx h)
  th := fun x h => b.th x (a.th x h)
  fh := b.fh
  nw := fun x h h' => b.nw x (a.th x h) (a.nw x h h')
  tp := b.tp
  ow := fun p hp => by
    rcases List.mem_append.mp hp with hp | hp
    · obtain ⟨h1, h2, h3⟩ := b.ow p hp
      refine ⟨h1, h2, .inl ?_⟩
      rcases h3 with h3 | h3
      · cases q : e.H0 p.1 with
        | none => rfl
        | some o => exact absurd h3 (a.th p.1 (ne_some q))
      · exact nomatch h3
    · obtain ⟨h1, h2, h3⟩ := a.ow p hp
      exact ⟨b.nw p.1 (ne_some h2) h1, b.hh p.1 p.2 (fun z => nomatch z) h2, h3⟩
  nd := by
    rw [List.map_append]
    refine List.nodup_append.mpr ⟨b.nd, a.nd, fun x hx y hy z => ?_⟩
    obtain ⟨p, hp, rfl⟩ := List.mem_map.mp hx
    obtain ⟨q, hq, rfl⟩ := List.mem_map.mp hy
    obtain ⟨_, _, h3⟩ := b.ow p hp
    obtain ⟨_, h2, _⟩ := a.ow q hq
    rcases h3 with h3 | h3
    · have h4 : H q.1 = none := (show p.1 = q.1 from z) ▸ (show H p.1 = none from h3)
      rw [h2] at h4
      cases h4
    · exact nomatch h3

theorem Wk.trans0 {e : En} {F F' : Hp} {L : LO} {H H' : Hp} (a : Wk e F L H) (b : Gr F H F' H') : Wk e F' L H' := a.trans b

/-- a part of what is owned may be forgotten; the order is nothing -/
theorem Wk.sub {e : En} {F : Hp} {L L' : LO} {H : Hp} (a : Wk e F L H) (hs : ∀ p ∈ L', p ∈ L) (hn : (L'.map Prod.fst).Nodup) : Wk e F L' H :=
  ⟨a.ff, a.hh, a.th, a.fh, a.nw, a.tp, fun p hp => a.ow p (hs p hp), hn⟩

theorem nodup_part {L1 Li L2 : LO} (h : ((L1 ++ Li ++ L2).map Prod.fst).Nodup) : ((L1 ++ L2).map Prod.fst).Nodup := by
  simp only [List.map_append] at h ⊢
  have h1 := List.nodup_append.mp h
  have h2 := List.nodup_append.mp h1.1
  exact List.nodup_append.mpr ⟨h2.1, h1.2.1, fun x hx y hy => h1.2.2 x (List.mem_append_left _ hx) y hy⟩
theorem Wk.drop {e : En} {F : Hp} {L1 Li L2 : LO} {H : Hp} (a : Wk e F (L1 ++ Li ++ L2) H) : Wk e F (L1 ++ L2) H :=
  a.sub (fun p hp => by
    rcases List.mem_append.mp hp with h | h
    · exact List.mem_append_left _ (List.mem_append_left _ h)
    · exact List.mem_append_right _ h) (nodup_part a.nd)
theorem nodup_mid {L1 Li L2 : LO} (h : ((L1 ++ Li ++ L2).map Prod.fst).Nodup) : ((Li ++ (L1 ++ L2)).map Prod.fst).Nodup := by
  simp only [List.map_append] at h ⊢
  refine (List.Perm.nodup_iff ?_).mp h
  rw [← List.append_assoc]
  exact List.Perm.append_right _ List.perm_append_comm
theorem nodup_back {L1 Li L2 : LO} (h : ((Li ++ (L1 ++ L2)).map Prod.fst).Nodup) : ((L1 ++ Li ++ L2).map Prod.fst).Nodup := by
  simp only [List.map_append] at h ⊢
  refine (List.Perm.nodup_iff ?_).mp h
  rw [← List.append_assoc]
  exact List.Perm.append_right _ List.perm_append_comm
theorem Wk.front {e : En} {F : Hp} {L1 Li L2 : LO} {H : Hp} (a : Wk e F (L1 ++ Li ++ L2) H) : Wk e F (Li ++ (L1 ++ L2)) H :=
  a.sub (fun p hp => by simp only [List.mem_append] at hp ⊢; rcases hp with h | h | h <;> simp [h]) (nodup_mid a.nd)
theorem Wk.back {e : En} {F : Hp} {L1 Li L2 : LO} {H : Hp} (a : Wk e F (Li ++ (L1 ++ L2)) H) : Wk e F (L1 ++ Li ++ L2) H :=
  a.sub (fun p hp => by simp only [List.mem_append] at hp ⊢; rcases hp with (h | h) | h <;> simp [h]) (nodup_back a.nd)

/-- a new object, owned -/
theorem Wk.own {e : En} {F : Hp} {L : LO} {H : Hp} {p : Addr} {o : HO} (a : Wk e F L H) (hp : H p = none) (ht : ∀ xs, o ≠ .tup xs) : Wk e F ((p, o) :: L) (upd H p o) where
  ff := a.ff
  hh := fun x u hx h => by rw [upd_ne (ne_of_none (a.hh x u hx h) hp)]; exact a.hh x u hx h
  th := fun x h => by
    by_cases hx : x = p
    · subst hx; rw [upd_same]; exact fun z => nomatch z
    · rw [upd_ne hx]; exact a.th x h
  fh := fun x u h => by rw [upd_ne (ne_of_none (a.fh x u h) hp)]; exact a.fh x u h
  nw := a.nw
  tp := fun x xs h => by
    by_cases hx : x = p
    · subst hx; rw [upd_same] at h; exact absurd (Option.some.inj h) (ht xs)
    · rw [upd_ne hx] at h; exact a.tp x xs h
  ow := fun q hq => by
    rcases List.mem_cons.mp hq with rfl | hq
    · refine ⟨Same.free a.fh hp, upd_same, .inl ?_⟩
      cases z : e.H0 p with
      | none => rfl
      | some u => exact absurd hp (a.th p (ne_some z))
    · obtain ⟨h1, h2, h3⟩ := a.ow q hq
      exact ⟨h1, by rw [upd_ne (ne_of_none h2 hp)]; exact h2, h3⟩
  nd := by
    refine List.nodup_cons.mpr ⟨fun z => ?_, a.nd⟩
    obtain ⟨q, hq, e1⟩ := List.mem_map.mp z
    obtain ⟨_, h2, _⟩ := a.ow q hq
    rw [show q.1 = p from e1, hp] at h2
    cases h2

/-- what is owned is frozen -/
theorem Wk.freeze1 {e : En} {F : Hp} {L : LO} {H : Hp} {p : Addr} {o : HO} (a : Wk e F ((p, o) :: L) H) (hm : p ∉ e.M) : Wk e (upd F p o) L H where
  ff := fun x u h => by
    have h1 := (a.ow (p, o) List.mem_cons_self).1
    rw [upd_ne (ne_of_none (a.ff x u h) h1)]
    exact a.ff x u h
  hh := a.hh
  th := a.th
  fh := fun x u h => by
    by_cases hx : x = p
    · subst hx; rw [upd_same] at h; cases h
      exact (a.ow (x, o) List.mem_cons_self).2.1
    · rw [upd_ne hx] at h; exact a.fh x u h
  nw := fun x h h' => by
    have hx : x ≠ p := fun z => by
      subst z
      rcases (a.ow (x, o) List.mem_cons_self).2.2 with z | z
      · exact h z
      · exact hm z
    rw [upd_ne hx]; exact a.nw x h h'
  tp := fun x xs h => by
    by_cases hx : x = p
    · subst hx
      have h2 := (a.ow (x, o) List.mem_cons_self).2.1
      rw [upd_same, ← h2, h]
    · rw [upd_ne hx]; exact a.tp x xs h
  ow := fun q hq => by
    obtain ⟨h1, h2, h3⟩ := a.ow q (List.mem_cons_of_mem _ hq)
    have hx : q.1 ≠ p := fun z => (List.nodup_cons.mp a.nd).1 (List.mem_map.mpr ⟨q, hq, z⟩)
    exact ⟨by rw [upd_ne hx]; exact h1, h2, h3⟩
  nd := (List.nodup_cons.mp a.nd).2
/-- the owned L joins F -/
def plus (F : Hp) : LO → Hp
  | [] => F
  | p :: L => plus (upd F p.1 p.2) L
theorem Wk.freeze : ∀ {Li L : LO} {e : En} {F : Hp} {H : Hp}, Wk e F (Li ++ L) H → (∀ p ∈ Li, p.1 ∉ e.M) → Wk e (plus F Li) L H
  | [], _, _, _, _, a, _ => a
  | p :: Li, L, e, F, H, a, hm => Wk.freeze (Li := Li) (Wk.freeze1 (p := p.1) (o := p.2) a (hm p List.mem_cons_self)) fun q hq => hm q (List.mem_cons_of_mem _ hq)
theorem same_plus : ∀ {Li : LO} {F : Hp}, (∀ p ∈ Li, F p.1 = none) → (Li.map Prod.fst).Nodup → Same F (plus F Li)
  | [], F, _, _ => Same.refl F
  | p :: Li, F, h, hn => by
    have h1 : Same F (upd F p.1 p.2) := fun x u e => by rw [upd_ne (ne_of_none e (h p List.mem_cons_self))]; exact e
    refine h1.trans (same_plus (fun q hq => ?_) (List.nodup_cons.mp hn).2)
    have hx : q.1 ≠ p.1 := fun z => (List.nodup_cons.mp hn).1 (List.mem_map.mpr ⟨q, hq, z⟩)
    rw [upd_ne hx]
    exact h q (List.mem_cons_of_mem _ hq)
theorem plus_get : ∀ {Li : LO} {F : Hp}, (∀ p ∈ Li, F p.1 = none) → (Li.map Prod.fst).Nodup → ∀ p ∈ Li, plus F Li p.1 = some p.2
  | [], _, _, _, _, hq => nomatch hq
  | p :: Li, F, h, hn, q, hq => by
    have hb : ∀ r ∈ Li, upd F p.1 p.2 r.1 = none := fun r hr => by
      have hx : r.1 ≠ p.1 := fun z => (List.nodup_cons.mp hn).1 (List.mem_map.mpr ⟨r, hr, z⟩)
      rw [upd_ne hx]
      exact h r (List.mem_cons_of_mem _ hr)
    rcases List.mem_cons.mp hq with rfl | hq
    · exact same_plus hb (List.nodup_cons.mp hn).2 q.1 q.2 upd_same
    · exact plus_get (Li := Li) hb (List.nodup_cons.mp hn).2 q hq

/-- a new object, frozen at once -/
theorem Wk.lay {e : En} {F : Hp} {L : LO} {H : Hp} {p : Addr} {o : HO} (a : Wk e F L H) (hp : H p = none) : Wk e (upd F p o) L (upd H p o) where
  ff := fun x u h => by rw [upd_ne (ne_of_none (a.ff x u h) (Same.free a.fh hp))]; exact a.ff x u h
  hh := fun x u hx h => by rw [upd_ne (ne_of_none (a.hh x u hx h) hp)]; exact a.hh x u hx h
  th := fun x h => by
    by_cases hx : x = p
    · subst hx; rw [upd_same]; exact fun z => nomatch z
    · rw [upd_ne hx]; exact a.th x h
  fh := fun x u h => by
    by_cases hx : x = p
    · subst hx; rw [upd_same] at h ⊢; exact h
    · rw [upd_ne hx] at h ⊢; exact a.fh x u h
  nw := fun x h h' => by
    have hx : x ≠ p := fun z => by subst z; exact a.th x h hp
    rw [upd_ne hx]; exact a.nw x h h'
  tp := fun x xs h => by
    by_cases hx : x = p
    · subst hx; rw [upd_same] at h ⊢; exact h
    · rw [upd_ne hx] at h ⊢; exact a.tp x xs h
  ow := fun q hq => by
    obtain ⟨h1, h2, h3⟩ := a.ow q hq
    have hx : q.1 ≠ p := ne_of_none h2 hp
    exact ⟨by rw [upd_ne hx]; exact h1, by rw [upd_ne hx]; exact h2, h3⟩
  nd := a.nd
/-- an owned object is written -/
theorem Wk.put {e : En} {F : Hp} {L : LO} {H : Hp} {p : Addr} {o o' : HO} (a : Wk e F ((p, o) :: L) H) (ht : ∀ xs, o' ≠ .tup xs) : Wk e F ((p, o') :: L) (upd H p o') where
  ff := a.ff
  hh := fun x u hx h => by
    have hp : x ≠ p := fun z => by
      subst z
      rcases (a.ow (x, o) List.mem_cons_self).2.2 with z | z
      · rw [show e.H0 x = none from z] at h; cases h
      · exact hx z
    rw [upd_ne hp]; exact a.hh x u hx h
  th := fun x h => by
    by_cases hx : x = p
    · subst hx; rw [upd_same]; exact fun z => nomatch z
    · rw [upd_ne hx]; exact a.th x h
  fh := fun x u h => by
    rw [upd_ne (ne_of_none h (a.ow (p, o) List.mem_cons_self).1)]; exact a.fh x u h
  nw := a.nw
  tp := fun x xs h => by
    by_cases hx : x = p
    · subst hx; rw [upd_same] at h; exact absurd (Option.some.inj h) (ht xs)
    · rw [upd_ne hx] at h; exact a.tp x xs h
  ow := fun q hq => by
    rcases List.mem_cons.mp hq with rfl | hq
    · obtain ⟨h1, _, h3⟩ := a.ow (p, o) List.mem_cons_self
      exact ⟨h1, upd_same, h3⟩
    · obtain ⟨h1, h2, h3⟩ := a.ow q (List.mem_cons_of_mem _ hq)
      have hx : q.1 ≠ p := fun z => (List.nodup_cons.mp a.nd).1 (List.mem_map.mpr ⟨q, hq, z⟩)
      exact ⟨h1, by rw [upd_ne hx]; exact h2, h3⟩
  nd := by
    have h := a.nd
    exact h

/-! ### data -/
class Dat (α : Type) where
  rep : GCtx → Hp → V → α → Prop
  mono : ∀ {C : GCtx} {F F' : Hp} {v : V} {x : α}, Same F F' → rep C F v x → rep C F' v x
/-- data that may be owned: L is its footprint -/
class OD (α : Type) [d : Dat α] where
  orep : GCtx → Hp → V → α → LO → Prop
  omono : ∀ {C : GCtx} {F F' : Hp} {v : V} {x : α} {L : LO}, Same F F' → orep C F v x L → orep C F' v x L
  view : ∀ {C : GCtx} {F H : Hp} {v : V} {x : α} {L : LO}, orep C F v x L → Same F H → (∀ p ∈ L, H p.1 = some p.2) → d.rep C H v x
/-- data that no store can change -/
class Imm (α : Type) [d : Dat α] : Prop where
  imm : ∀ {C : GCtx} {F H : Hp} {v : V} {x : α}, (∀ a xs, H a = some (.tup xs) → F a = some (.tup xs)) → d.rep C H v x → d.rep C F v x

inductive Cell : Type 1 where
  | no : Cell
  | val {α : Type} (d : Dat α) (x : α) : Cell
  | own {α : Type} (d : Dat α) (od : OD α) (pin : Option V) (x : α) : Cell
abbrev cv {α : Type} [d : Dat α] (x : α) : Cell := .val d x
abbrev co {α : Type} [d : Dat α] [od : OD α] (x : α) : Cell := .own d od none x
def CellOk (C : GCtx) (F : Hp) (o : Option V) : Cell → LO → Prop
  | .no, L => L = []
  | .val d x, L => L = [] ∧ ∃ v, o = some v ∧ d.rep C F v x
  | .own _ od pin x, L => ∃ v, o = some v ∧ (∀ u, pin = some u → v = u) ∧ od.orep C F v x L
theorem CellOk.mono {C : GCtx} {F F' : Hp} {o : Option V} : ∀ {c : Cell} {L : LO}, Same F F' → CellOk C F o c L → CellOk C F' o c L
  | .no, _, _, h => h
  | .val d x, _, s, ⟨h, v, e, r⟩ => ⟨h, v, e, d.mono s r⟩
  | .own _ od pin x, _, s, ⟨v, e, p, r⟩ => ⟨v, e, p, od.omono s r⟩

inductive Slots (C : GCtx) (F : Hp) : St → List Cell → LO → Prop where
  | nil : Slots C F [] [] []
  | cons {o : Option V} {c : Cell} {L L' : LO} {σ : St} {Γ : List Cell} (h : CellOk C F o c L) (r : Slots C F σ Γ L') : Slots C F (o :: σ) (c :: Γ) (L ++ L')
theorem Slots.mono {C : GCtx} {F F' : Hp} {σ : St} {Γ : List Cell} {L : LO} (s : Same F F') (h : Slots C F σ Γ L) : Slots C F' σ Γ L := by
  induction h with
  | nil => exact .nil
  | cons h _ ih => exact .cons (h.mono s) ih
theorem Slots.len {C : GCtx} {F : Hp} {σ : St} {Γ : List Cell} {L : LO} (h : Slots C F σ Γ L) : σ.length = Γ.length := by
  induction h with
  | nil => rfl
  | cons h _ ih => simp [ih]
theorem Slots.get {C : GCtx} {F : Hp} {σ : St} {Γ : List Cell} {L : LO} (h : Slots C F σ Γ L) : ∀ {i : Nat} {c : Cell}, Γ[i]? = some c →
    ∃ o L1 Li L2, σ[i]? = some o ∧ L = L1 ++ Li ++ L2 ∧ CellOk C F o c Li ∧ ∀ F' o' c' Li', Same F F' → CellOk C F' o' c' Li' → Slots C F' (σ.set i o') (Γ.set i c') (L1 ++ Li' ++ L2) := by
  induction h with
  | nil => intro i c h; cases i <;> cases h
  | @cons o c0 L L' σ Γ h r ih =>
    intro i c hi
    cases i with
    | zero =>
      cases (Option.some.inj hi : c0 = c)
      exact ⟨o, [], L, L', rfl, rfl, h, fun F' o' c' Li' s h' => .cons h' (r.mono s)⟩
    | succ i =>
      obtain ⟨o1, L1, Li, L2, e1, e2, h1, f⟩ := ih (i := i) (c := c) hi
      refine ⟨o1, L ++ L1, Li, L2, e1, by rw [e2]; simp [List.append_assoc], h1, fun F' o' c' Li' s h' => ?_⟩
      have q := Slots.cons (h.mono s) (f F' o' c' Li' s h')
      simpa [List.append_assoc] using q
theorem Slots.take {C : GCtx} {F : Hp} {σ : St} {Γ : List Cell} {L : LO} (h : Slots C F σ Γ L) (n : Nat) : ∃ L1, Slots C F (σ.take n) (Γ.take n) L1 ∧ L1.Sublist L := by
  induction h generalizing n with
  | nil => exact ⟨[], by simpa using Slots.nil, List.Sublist.refl _⟩
  | @cons o c0 L L' σ Γ h r ih =>
    cases n with
    | zero => exact ⟨[], by simpa using Slots.nil, List.nil_sublist _⟩
    | succ n =>
      obtain ⟨L1, q, s⟩ := ih n
      exact ⟨L ++ L1, by simpa using Slots.cons h q, List.Sublist.append (List.Sublist.refl _) s⟩

/-- an exception: its class, its attributes -/
inductive XV where
  | int (n : Int)
  | str (s : Str)
  | pair (i j : Int)
  deriving DecidableEq
structure Exn where
  cls : Addr
  fs : Option (List (Str × XV))
def XR (F : Hp) : XV → V → Prop
  | .int n, v => v = .int n
  | .str s, v => v = .str s
  | .pair i j, v => ∃ a, v = .ref a ∧ F a = some (.tup [.int i, .int j])
def XRs (F : Hp) : List (Str × XV) → List (Str × V) → Prop
  | [], [] => True
  | (k, x) :: xs, (k', v) :: vs => k = k' ∧ XR F x v ∧ XRs F xs vs
  | _, _ => False
theorem XR.mono {F F' : Hp} (s : Same F F') : ∀ {x : XV} {v : V}, XR F x v → XR F' x v
  | .int _, _, h => h
  | .str _, _, h => h
  | .pair _ _, _, ⟨a, e, h⟩ => ⟨a, e, s _ _ h⟩
theorem XRs.mono {F F' : Hp} (s : Same F F') : ∀ {xs : List (Str × XV)} {vs : List (Str × V)}, XRs F xs vs → XRs F' xs vs
  | [], [], _ => trivial
  | _ :: _, _ :: _, ⟨e, h, r⟩ => ⟨e, h.mono s, XRs.mono s r⟩
  | [], _ :: _, h => h.elim
  | _ :: _, [], h => h.elim
theorem XRs.look {F : Hp} {f : Str} {x : XV} : ∀ {xs : List (Str × XV)} {vs : List (Str × V)}, XRs F xs vs → xs.lookup f = some x → ∃ v, vs.lookup f = some v ∧ XR F x v
  | [], [], _, h => nomatch h
  | (k, y) :: xs, (k', v) :: vs, ⟨e, h, r⟩, hl => by
    subst e
    rw [List.lookup_cons] at hl ⊢
    cases hk : f == k with
    | true => rw [hk] at hl; cases hl; exact ⟨v, rfl, h⟩
    | false => rw [hk] at hl; exact XRs.look r hl
  | [], _ :: _, h, _ => h.elim
  | _ :: _, [], h, _ => h.elim
def Exn.at (x : Exn) (F : Hp) : Option Addr → Prop
  | none => x.fs = none
  | some dd => ∃ fs fs', x.fs = some fs ∧ F dd = some (.xd fs') ∧ XRs F fs fs'
/-- where one stands: the def's world, what is wished of an exception that leaves, which ones may leave, and with what environment -/
structure YC where
  g : GCtx
  E : St → XK
  kx : Exn → List Cell → Prop
abbrev YC.K (Y : YC) : PySem.W.Frag := Y.g.K
abbrev YC.w (Y : YC) : World := Y.g.w
abbrev YC.P (Y : YC) : Program := Y.g.P
abbrev calm (C : GCtx) : YC := ⟨C, fun _ _ _ _ => False, fun _ _ => False⟩
def St0 (C : GCtx) (e : En) (F : Hp) (σ : St) (H : Hp) (Γ : List Cell) : Prop := ∃ L, Wk e F L H ∧ Slots C F σ Γ L
def XOk (Y : YC) (e : En) : Prop := ∀ (x : Exn) (d : Option Addr) (F : Hp) (σ : St) (H : Hp) (Γ : List Cell), Y.kx x Γ → St0 Y.g e F σ H Γ → x.at F d → Y.E σ (.ref x.cls) d H
/-- THE STATE: the slots hold what the environment says -/
def State (Y : YC) (e : En) (F : Hp) (σ : St) (H : Hp) (Γ : List Cell) : Prop := XOk Y e ∧ ∃ L, Wk e F L H ∧ Slots Y.g F σ Γ L
section
variable {C : GCtx} {Y : YC} {e : En} {F F' : Hp} {σ : St} {H H' : Hp} {Γ : List Cell}
theorem State.grow (s : State Y e F σ H Γ) (g : Gr F H F' H') : State Y e F' σ H' Γ := by
  obtain ⟨hx, L, k, sl⟩ := s
  exact ⟨hx, L, k.trans0 g, sl.mono g.ff⟩
theorem State.base (s : State Y e F σ H Γ) : Gr F H F H := let ⟨_, _, k, _⟩ := s; k.base
theorem State.fh (s : State Y e F σ H Γ) : Same F H := let ⟨_, _, k, _⟩ := s; k.fh
theorem State.val {α : Type} {d : Dat α} {x : α} {i : Nat} (s : State Y e F σ H Γ) (h : Γ[i]? = some (.val d x)) : ∃ v, σ[i]? = some (some v) ∧ d.rep Y.g F v x := by
  obtain ⟨hx, L, k, sl⟩ := s
  obtain ⟨o, L1, Li, L2, e1, _, ⟨_, v, rfl, r⟩, _⟩ := sl.get h
  exact ⟨v, e1, r⟩
theorem State.own {α : Type} {d : Dat α} {od : OD α} {x : α} {i : Nat} {pin : Option V} (s : State Y e F σ H Γ) (h : Γ[i]? = some (.own d od pin x)) : ∃ v, σ[i]? = some (some v) ∧ d.rep Y.g H v x := by
  obtain ⟨hx, L, k, sl⟩ := s
  obtain ⟨o, L1, Li, L2, e1, e2, ⟨v, rfl, _, r⟩, _⟩ := sl.get h
  exact ⟨v, e1, od.view r k.fh fun p hp => (k.ow p (by rw [e2]; exact List.mem_append_left _ (List.mem_append_right _ hp))).2.1⟩
/-- a slot is stored -/
theorem State.set {c c' : Cell} {i : Nat} {v : V} {L' : LO} (s : State Y e F σ H Γ) (h : Γ[i]? = some c) (g : Wk ⟨F, H, []⟩ F' L' H') (r : CellOk Y.g F' (some v) c' L') : State Y e F' (σ.set i (some v)) H' (Γ.set i c') := by
  obtain ⟨hx, L, k, sl⟩ := s
  obtain ⟨o, L1, Li, L2, e1, e2, _, f⟩ := sl.get h
  refine ⟨hx, L1 ++ L' ++ L2, ?_, f F' (some v) c' L' g.ff r⟩
  have q := k.trans g
  rw [e2] at q
  have q2 : Wk e F' ((L' ++ L1) ++ Li ++ L2) H' := by simpa [List.append_assoc] using q
  have q3 := q2.drop
  have q4 : Wk e F' (L' ++ (L1 ++ L2)) H' := by simpa [List.append_assoc] using q3
  exact q4.back
/-- a slot is forgotten -/
theorem State.forget {i : Nat} {c : Cell} {o : Option V} (s : State Y e F σ H Γ) (h : Γ[i]? = some c) : State Y e F (σ.set i o) H (Γ.set i .no) := by
  obtain ⟨hx, L, k, sl⟩ := s
  obtain ⟨o1, L1, Li, L2, e1, e2, _, f⟩ := sl.get h
  rw [e2] at k
  have q := f F o .no [] (Same.refl _) rfl
  rw [List.append_nil] at q
  exact ⟨hx, L1 ++ L2, k.drop, q⟩
theorem State.hide {i : Nat} {c : Cell} (s : State Y e F σ H Γ) (h : Γ[i]? = some c) : State Y e F σ H (Γ.set i .no) := by
  obtain ⟨hx, L, k, sl⟩ := s
  obtain ⟨o1, L1, Li, L2, e1, e2, _, f⟩ := sl.get h
  rw [e2] at k
  have q := f F o1 .no [] (Same.refl _) rfl
  rw [List.append_nil] at q
  have z : σ.set i o1 = σ := by
    apply List.ext_getElem?
    intro j
    by_cases hj : i = j
    · subst hj
      obtain ⟨hlt, hv⟩ := List.getElem?_eq_some_iff.mp e1
      rw [List.getElem?_set_self hlt, e1]
    · rw [List.getElem?_set_ne hj]
  rw [z] at q
  exact ⟨hx, L1 ++ L2, k.drop, q⟩
end
end G

/-! G2: data, judgements, the rules for expressions. -/
namespace G
open PySem L2

theorem Wk.hh0 {F H F' H' : Hp} {L : LO} (g : Wk ⟨F, H, []⟩ F' L H') : Same H H' := fun a o h => g.hh a o (fun z => nomatch z) h

/-! ### scalars -/
instance dInt : Dat Int := ⟨fun _ _ v x => v = .int x, fun _ h => h⟩
instance dBool : Dat Bool := ⟨fun _ _ v x => v = .bl x, fun _ h => h⟩
instance dStr : Dat Str := ⟨fun _ _ v x => v = .str x, fun _ h => h⟩
instance dUnit : Dat Unit := ⟨fun _ _ v _ => v = .non, fun _ h => h⟩
instance imInt : Imm Int := ⟨fun _ h => h⟩
instance imBool : Imm Bool := ⟨fun _ h => h⟩
instance imStr : Imm Str := ⟨fun _ h => h⟩
instance imUnit : Imm Unit := ⟨fun _ h => h⟩
/-- None or a value -/
inductive Opt (α : Type) where
  | none : Opt α
  | some (x : α) : Opt α
  deriving DecidableEq
instance dOpt {α : Type} [d : Dat α] : Dat (Opt α) := ⟨fun C F v x => match x with | .none => v = .non | .some y => d.rep C F v y, fun {C F F' v x} s h => match x, h with | .none, h => h | .some _, h => d.mono s h⟩
instance imOpt {α : Type} [d : Dat α] [i : Imm α] : Imm (Opt α) := ⟨fun {C F H v x} t h => match x, h with | .none, h => h | .some _, h => i.imm t h⟩

/-! ### lists -/
def Reps {α : Type} (d : Dat α) (C : GCtx) (F : Hp) : List V → List α → Prop
  | [], [] => True
  | v :: vs, x :: xs => d.rep C F v x ∧ Reps d C F vs xs
  | _, _ => False
section
variable {α : Type} {d : Dat α} {C : GCtx} {Y : YC} {F F' : Hp}
theorem Reps.mono (s : Same F F') : ∀ {vs : List V} {xs : List α}, Reps d C F vs xs → Reps d C F' vs xs
  | [], [], _ => trivial
  | _ :: _, _ :: _, h => ⟨d.mono s h.1, Reps.mono s h.2⟩
  | [], _ :: _, h => h.elim
  | _ :: _, [], h => h.elim
theorem Reps.len : ∀ {vs : List V} {xs : List α}, Reps d C F vs xs → vs.length = xs.length
  | [], [], _ => rfl
  | _ :: _, _ :: _, h => by simp [Reps.len h.2]
  | [], _ :: _, h => h.elim
  | _ :: _, [], h => h.elim
theorem Reps.get : ∀ {vs : List V} {xs : List α} {i : Nat} {x : α}, Reps d C F vs xs → xs[i]? = some x → ∃ v, vs[i]? = some v ∧ d.rep C F v x
  | [], [], i, x, _, h => by cases i <;> cases h
  | v :: vs, y :: xs, 0, x, h, e => by cases (Option.some.inj e : y = x); exact ⟨v, rfl, h.1⟩
  | v :: vs, y :: xs, i + 1, x, h, e => Reps.get (i := i) h.2 e
  | [], _ :: _, _, _, h, _ => h.elim
  | _ :: _, [], _, _, h, _ => h.elim
theorem Reps.getV : ∀ {vs : List V} {xs : List α} {i : Nat} {v : V}, Reps d C F vs xs → vs[i]? = some v → ∃ x, xs[i]? = some x ∧ d.rep C F v x
  | [], [], i, x, _, h => by cases i <;> cases h
  | v :: vs, y :: xs, 0, x, h, e => by cases (Option.some.inj e : v = x); exact ⟨y, rfl, h.1⟩
  | v :: vs, y :: xs, i + 1, x, h, e => Reps.getV (i := i) h.2 e
  | [], _ :: _, _, _, h, _ => h.elim
  | _ :: _, [], _, _, h, _ => h.elim
theorem Reps.append : ∀ {vs ws : List V} {xs ys : List α}, Reps d C F vs xs → Reps d C F ws ys → Reps d C F (vs ++ ws) (xs ++ ys)
  | [], _, [], _, _, h => h
  | _ :: _, _, _ :: _, _, h, g => ⟨h.1, Reps.append h.2 g⟩
  | [], _, _ :: _, _, h, _ => h.elim
  | _ :: _, _, [], _, h, _ => h.elim
theorem Reps.one {v : V} {x : α} (h : d.rep C F v x) : Reps d C F [v] [x] := ⟨h, trivial⟩
theorem Reps.take : ∀ {vs : List V} {xs : List α} (n : Nat), Reps d C F vs xs → Reps d C F (vs.take n) (xs.take n)
  | [], [], n, _ => by simp [Reps]
  | _ :: _, _ :: _, 0, _ => trivial
  | _ :: _, _ :: _, n + 1, h => ⟨h.1, Reps.take n h.2⟩
  | [], _ :: _, _, h => h.elim
  | _ :: _, [], _, h => h.elim
theorem Reps.drop : ∀ {vs : List V} {xs : List α} (n : Nat), Reps d C F vs xs → Reps d C F (vs.drop n) (xs.drop n)
  | [], [], n, _ => by simp [Reps]
  | _ :: _, _ :: _, 0, h => h
  | _ :: _, _ :: _, n + 1, h => Reps.drop n h.2
  | [], _ :: _, _, h => h.elim
  | _ :: _, [], _, h => h.elim
theorem Reps.set {v : V} {x : α} : ∀ {vs : List V} {xs : List α} (i : Nat), Reps d C F vs xs → d.rep C F v x → Reps d C F (vs.set i v) (xs.set i x)
  | [], [], _, _, _ => trivial
  | _ :: _, _ :: _, 0, h, g => ⟨g, h.2⟩
  | _ :: _, _ :: _, i + 1, h, g => ⟨h.1, Reps.set i h.2 g⟩
  | [], _ :: _, _, h, _ => h.elim
  | _ :: _, [], _, h, _ => h.elim
theorem Reps.ints : ∀ {vs : List V} {xs : List Int}, Reps dInt C F vs xs → vs = xs.map V.int
  | [], [], _ => rfl
  | _ :: _, _ :: _, h => by rw [Reps.ints h.2, show _ = V.int _ from h.1]; rfl
  | [], _ :: _, h => h.elim
  | _ :: _, [], h => h.elim
theorem Reps.ofInts : ∀ (xs : List Int), Reps dInt C F (xs.map V.int) xs
  | [] => trivial
  | _ :: xs => ⟨rfl, Reps.ofInts xs⟩
theorem Reps.bools : ∀ {vs : List V} {xs : List Bool}, Reps dBool C F vs xs → vs = xs.map V.bl
  | [], [], _ => rfl
  | _ :: _, _ :: _, h => by rw [Reps.bools h.2, show _ = V.bl _ from h.1]; rfl
  | [], _ :: _, h => h.elim
  | _ :: _, [], h => h.elim
theorem Reps.imm [i : @Imm α d] {H : Hp} (t : ∀ a xs, H a = some (.tup xs) → F a = some (.tup xs)) : ∀ {vs : List V} {xs : List α}, Reps d C H vs xs → Reps d C F vs xs
  | [], [], _ => trivial
  | _ :: _, _ :: _, h => ⟨i.imm t h.1, Reps.imm t h.2⟩
  | [], _ :: _, h => h.elim
  | _ :: _, [], h => h.elim
end
/-- a tuple that stands still: frozen, or of the written part -/
def TpA (K : PySem.W.Frag) (F : Hp) (a : Addr) (xs : List V) : Prop := F a = some (.tup xs) ∨ (SqT K (fun _ => none) a xs ∧ xs ≠ [] ∧ ∀ x ∈ xs, ∃ t, x = V.str t)
theorem TpA.mono {K : PySem.W.Frag} {F F' : Hp} {a : Addr} {xs : List V} (s : Same F F') (h : TpA K F a xs) : TpA K F' a xs := h.imp (s a _) id
theorem TpA.sq {K : PySem.W.Frag} {F : Hp} {a : Addr} {xs : List V} (h : TpA K F a xs) : SqT K F a xs := by
  rcases h with h | ⟨h, _⟩
  · exact .inl (.inl h)
  · rcases h with (h | ⟨_, h⟩) | h
    · cases h
    · cases h
    · exact .inr h
/-- a list that is tracked -/
theorem Same.rd {H H' : Hp} {a : Addr} {u : HO} (e : Same H H') (h : Rd H a u) : Rd H' a u := h.imp (e _ _) fun ⟨o, h⟩ => ⟨o, e _ _ h⟩
instance {K : PySem.W.Frag} {H : Hp} {a : Addr} {xs : List V} : Coe (Rd H a (.lst xs)) (SqL K H a xs) := ⟨.inl⟩
instance dList {α : Type} [d : Dat α] : Dat (List α) :=
  ⟨fun C F v xs => ∃ a vs, v = .ref a ∧ Rd F a (.lst vs) ∧ Reps d C F vs xs, fun s ⟨a, vs, e, h, r⟩ => ⟨a, vs, e, Same.rd s h, r.mono s⟩⟩
instance oList {α : Type} [d : Dat α] : OD (List α) where
  orep C F v xs L := ∃ a vs, v = .ref a ∧ L = [(a, .lst vs)] ∧ Reps d C F vs xs
  omono s := fun ⟨a, vs, e, h, r⟩ => ⟨a, vs, e, h, r.mono s⟩
  view := fun ⟨a, vs, e, h, r⟩ s k => ⟨a, vs, e, .inl (k (a, .lst vs) (by rw [h]; exact List.mem_cons_self)), r.mono s⟩
/-- a tuple of any length, its items alike -/
structure Tup (α : Type) where
  l : List α
  deriving DecidableEq
instance dTup {α : Type} [d : Dat α] : Dat (Tup α) :=
  ⟨fun C F v xs => ∃ a vs, v = .ref a ∧ TpA C.K F a vs ∧ Reps d C F vs xs.l, fun s ⟨a, vs, e, h, r⟩ => ⟨a, vs, e, h.mono s, r.mono s⟩⟩
instance imTup {α : Type} [d : Dat α] [i : Imm α] : Imm (Tup α) := ⟨fun t ⟨a, vs, e, h, r⟩ => ⟨a, vs, e, h.imp (t a _) id, r.imm t⟩⟩
instance dPair {α β : Type} [d1 : Dat α] [d2 : Dat β] : Dat (α × β) :=
  ⟨fun C F v x => ∃ a v1 v2, v = .ref a ∧ TpA C.K F a [v1, v2] ∧ d1.rep C F v1 x.1 ∧ d2.rep C F v2 x.2, fun s ⟨a, v1, v2, e, h, r1, r2⟩ => ⟨a, v1, v2, e, h.mono s, d1.mono s r1, d2.mono s r2⟩⟩
instance imPair {α β : Type} [d1 : Dat α] [d2 : Dat β] [i1 : Imm α] [i2 : Imm β] : Imm (α × β) := ⟨fun t ⟨a, v1, v2, e, h, r1, r2⟩ => ⟨a, v1, v2, e, h.imp (t a _) id, i1.imm t r1, i2.imm t r2⟩⟩
structure T3 (α β γ : Type) where
  a : α
  b : β
  c : γ
  deriving DecidableEq
structure T4 (α β γ δ : Type) where
  a : α
  b : β
  c : γ
  d : δ
  deriving DecidableEq
instance dT3 {α β γ : Type} [d1 : Dat α] [d2 : Dat β] [d3 : Dat γ] : Dat (T3 α β γ) :=
  ⟨fun C F v x => ∃ a v1 v2 v3, v = .ref a ∧ TpA C.K F a [v1, v2, v3] ∧ d1.rep C F v1 x.a ∧ d2.rep C F v2 x.b ∧ d3.rep C F v3 x.c,
    fun s ⟨a, v1, v2, v3, e, h, r1, r2, r3⟩ => ⟨a, v1, v2, v3, e, h.mono s, d1.mono s r1, d2.mono s r2, d3.mono s r3⟩⟩
instance imT3 {α β γ : Type} [d1 : Dat α] [d2 : Dat β] [d3 : Dat γ] [i1 : Imm α] [i2 : Imm β] [i3 : Imm γ] : Imm (T3 α β γ) :=
  ⟨fun t ⟨a, v1, v2, v3, e, h, r1, r2, r3⟩ => ⟨a, v1, v2, v3, e, h.imp (t a _) id, i1.imm t r1, i2.imm t r2, i3.imm t r3⟩⟩
instance dT4 {α β γ δ : Type} [d1 : Dat α] [d2 : Dat β] [d3 : Dat γ] [d4 : Dat δ] : Dat (T4 α β γ δ) :=
  ⟨fun C F v x => ∃ a v1 v2 v3 v4, v = .ref a ∧ TpA C.K F a [v1, v2, v3, v4] ∧ d1.rep C F v1 x.a ∧ d2.rep C F v2 x.b ∧ d3.rep C F v3 x.c ∧ d4.rep C F v4 x.d,
    fun s ⟨a, v1, v2, v3, v4, e, h, r1, r2, r3, r4⟩ => ⟨a, v1, v2, v3, v4, e, h.mono s, d1.mono s r1, d2.mono s r2, d3.mono s r3, d4.mono s r4⟩⟩
instance imT4 {α β γ δ : Type} [d1 : Dat α] [d2 : Dat β] [d3 : Dat γ] [d4 : Dat δ] [i1 : Imm α] [i2 : Imm β] [i3 : Imm γ] [i4 : Imm δ] : Imm (T4 α β γ δ) :=
  ⟨fun t ⟨a, v1, v2, v3, v4, e, h, r1, r2, r3, r4⟩ => ⟨a, v1, v2, v3, v4, e, h.imp (t a _) id, i1.imm t r1, i2.imm t r2, i3.imm t r3, i4.imm t r4⟩⟩

/-! ### judgements -/
/-- the term evaluates to a value that k is true of, frozen from now on -/
def W (Y : YC) (te : TE) (Γ : List Cell) {α : Type} (d : Dat α) (k : α → Prop) : Prop := ∀ (e : En) (F : Hp) (σ : St) (H : Hp), State Y e F σ H Γ → ∀ Q : VK, (∀ v F' H' x, k x → Gr F H F' H' → d.rep Y.g F' v x → Q v H') → te σ H Q
/-- .. that may be read until the next store -/
def R (Y : YC) (te : TE) (Γ : List Cell) {α : Type} (d : Dat α) (k : α → Prop) : Prop := ∀ (e : En) (F : Hp) (σ : St) (H : Hp), State Y e F σ H Γ → ∀ Q : VK, (∀ v F' H' x, k x → Gr F H F' H' → d.rep Y.g H' v x → Q v H') → te σ H Q
/-- .. that is new, and owned -/
def O (Y : YC) (te : TE) (Γ : List Cell) {α : Type} {d : Dat α} (od : OD α) (k : α → Prop) : Prop := ∀ (e : En) (F : Hp) (σ : St) (H : Hp), State Y e F σ H Γ → ∀ Q : VK, (∀ v F' H' L' x, k x → Wk ⟨F, H, []⟩ F' L' H' → od.orep Y.g F' v x L' → Q v H') → te σ H Q
def T (Y : YC) (t : TT) (Γ : List Cell) (k : Bool → Prop) : Prop := ∀ (e : En) (F : Hp) (σ : St) (H : Hp), State Y e F σ H Γ → ∀ Q : Bool → Hp → Prop, (∀ b F' H', k b → Gr F H F' H' → Q b H') → t σ H Q
def WA (Y : YC) (ta : TA) (Γ : List Cell) (k : List Cell → Prop) : Prop := ∀ (e : En) (F : Hp) (σ : St) (H : Hp), State Y e F σ H Γ → ∀ Q : List V → Hp → Prop, (∀ vs F' H' cs, k cs → Gr F H F' H' → Slots Y.g F' (vs.map some) cs [] → Q vs H') → ta σ H Q

section
variable {C : GCtx} {Y : YC} {Γ : List Cell} {te ta tb tc : TE} {t u : TT} {α β γ : Type} {d1 : Dat α} {d : Dat α} {d2 : Dat β} {d3 : Dat γ}

theorem r_of_w {k : α → Prop} (h : W Y te Γ d k) : R Y te Γ d k := fun e F σ H s Q q => h e F σ H s Q fun v F' H' x kx g r => q v F' H' x kx g (d.mono g.fh r)
theorem w_mono {k k' : α → Prop} (h : W Y te Γ d k) (m : ∀ x, k x → k' x) : W Y te Γ d k' := fun e F σ H s Q q => h e F σ H s Q fun v F' H' x kx g r => q v F' H' x (m x kx) g r
theorem t_mono {k k' : Bool → Prop} (h : T Y t Γ k) (m : ∀ x, k x → k' x) : T Y t Γ k' := fun e F σ H s Q q => h e F σ H s Q fun b F' H' kx g => q b F' H' (m b kx) g
/-- what is owned and new is frozen at once -/
theorem w_of_o {od : @OD α d} {k : α → Prop} (h : O Y te Γ od k) : W Y te Γ d k := fun e F σ H s Q q => h e F σ H s Q fun v F' H' L' x kx g r => by
  have g1 : Wk ⟨F, H, []⟩ F' (L' ++ []) H' := by rw [List.append_nil]; exact g
  have g2 : Gr F H (plus F' L') H' := g1.freeze fun p hp z => nomatch z
  refine q v _ H' x kx g2 (od.view r (same_plus (fun p hp => (g.ow p hp).1) g.nd) (plus_get (fun p hp => (g.ow p hp).1) g.nd))

/-! names and constants -/
theorem w_var {i : Nat} {x : α} {k : α → Prop} (h : Γ[i]? = some (.val d x)) (hk : k x) : W Y (tVar i) Γ d k := fun e F σ H s Q q => by
  obtain ⟨v, e1, r⟩ := s.val h
  exact ⟨v, e1, q v F H x hk s.base r⟩
theorem r_varO {od : @OD α d} {pin : Option V} {i : Nat} {x : α} {k : α → Prop} (h : Γ[i]? = some (.own d od pin x)) (hk : k x) : R Y (tVar i) Γ d k := fun e F σ H s Q q => by
  obtain ⟨v, e1, r⟩ := s.own h
  exact ⟨v, e1, q v F H x hk s.base r⟩
theorem w_int {n : Int} {k : Int → Prop} (hk : k n) : W Y (tC (.int n)) Γ dInt k := fun e F σ H s Q q => q _ F H n hk s.base rfl
theorem w_bl {n : Bool} {k : Bool → Prop} (hk : k n) : W Y (tC (.bl n)) Γ dBool k := fun e F σ H s Q q => q _ F H n hk s.base rfl
theorem w_str {n : Str} {k : Str → Prop} (hk : k n) : W Y (tC (.str n)) Γ dStr k := fun e F σ H s Q q => q _ F H n hk s.base rfl
/-! two operands, a scalar back -/
theorem w_ii {r : R2} {f : Int → Int → γ} {P : Int → Int → Prop} {ec : γ → V} {k : γ → Prop} (hd : ∀ F z, d3.rep Y.g F (ec z) z) (hr : ∀ i j H (Q : VK), P i j → Q (ec (f i j)) H → r (.int i) (.int j) H Q)
    (h : R Y ta Γ dInt fun x => R Y tb Γ dInt fun y => P x y ∧ k (f x y)) : W Y (tOp r ta tb) Γ d3 k :=
  fun e F σ H s Q q => h e F σ H s _ fun v1 F1 H1 x h1 g1 r1 => h1 e F1 σ H1 (s.grow g1) _ fun v2 F2 H2 y ⟨p, kz⟩ g2 r2 => by
    cases (show v1 = .int x from r1)
    cases (show v2 = .int y from r2)
    exact hr x y H2 Q p (q _ F2 H2 _ kz (g1.trans0 g2) (hd F2 _))
theorem w_i0 {r : R2} {f : Int → Int → γ} {ec : γ → V} {k : γ → Prop} (hd : ∀ F z, d3.rep Y.g F (ec z) z) (hr : ∀ i j H (Q : VK), Q (ec (f i j)) H → r (.int i) (.int j) H Q)
    (h : R Y ta Γ dInt fun x => R Y tb Γ dInt fun y => k (f x y)) : W Y (tOp r ta tb) Γ d3 k :=
  fun e F σ H s Q q => h e F σ H s _ fun v1 F1 H1 x h1 g1 r1 => h1 e F1 σ H1 (s.grow g1) _ fun v2 F2 H2 y kz g2 r2 => by
    cases (show v1 = .int x from r1)
    cases (show v2 = .int y from r2)
    exact hr x y H2 Q (q _ F2 H2 _ kz (g1.trans0 g2) (hd F2 _))
section
variable {k : Int → Prop} {kb : Bool → Prop}
theorem w_add (h : R Y ta Γ dInt fun x => R Y tb Γ dInt fun y => k (x + y)) : W Y (tOp (rI0 fun i j => .int (i + j)) ta tb) Γ dInt k := w_i0 (ec := V.int) (fun _ _ => rfl) (fun i j H Q q => ⟨i, j, rfl, rfl, q⟩) h
theorem w_sub (h : R Y ta Γ dInt fun x => R Y tb Γ dInt fun y => k (x - y)) : W Y (tOp (rI0 fun i j => .int (i - j)) ta tb) Γ dInt k := w_i0 (ec := V.int) (fun _ _ => rfl) (fun i j H Q q => ⟨i, j, rfl, rfl, q⟩) h
theorem w_mul (h : R Y ta Γ dInt fun x => R Y tb Γ dInt fun y => CMul x y ∧ k (x * y)) : W Y (tOp (rI CMul fun i j => .int (i * j)) ta tb) Γ dInt k := w_ii (ec := V.int) (fun _ _ => rfl) (fun i j H Q p q => ⟨i, j, rfl, rfl, p, q⟩) h
theorem w_mod (h : R Y ta Γ dInt fun x => R Y tb Γ dInt fun y => 0 < y ∧ k (x % y)) : W Y (tOp (rI (fun _ j => 0 < j) fun i j => .int (i % j)) ta tb) Γ dInt k := w_ii (P := fun _ j => 0 < j) (ec := V.int) (fun _ _ => rfl) (fun i j H Q p q => ⟨i, j, rfl, rfl, p, q⟩) h
theorem w_fdiv (h : R Y ta Γ dInt fun x => R Y tb Γ dInt fun y => CDiv x y ∧ k (x / y)) : W Y (tOp (rI CDiv fun i j => .int (i / j)) ta tb) Γ dInt k := w_ii (ec := V.int) (fun _ _ => rfl) (fun i j H Q p q => ⟨i, j, rfl, rfl, p, q⟩) h
theorem w_pow (h : R Y ta Γ dInt fun x => R Y tb Γ dInt fun y => CPow x y ∧ k (x ^ y.toNat)) : W Y (tOp (rI CPow fun i j => .int (i ^ j.toNat)) ta tb) Γ dInt k := w_ii (ec := V.int) (fun _ _ => rfl) (fun i j H Q p q => ⟨i, j, rfl, rfl, p, q⟩) h
theorem w_lt (h : R Y ta Γ dInt fun x => R Y tb Γ dInt fun y => kb (decide (x < y))) : W Y (tOp (rI0 fun i j => .bl (decide (i < j))) ta tb) Γ dBool kb := w_i0 (f := fun i j => decide (i < j)) (ec := V.bl) (fun _ _ => rfl) (fun i j H Q q => ⟨i, j, rfl, rfl, q⟩) h
theorem w_gt (h : R Y ta Γ dInt fun x => R Y tb Γ dInt fun y => kb (decide (y < x))) : W Y (tOp (rI0 fun i j => .bl (decide (j < i))) ta tb) Γ dBool kb := w_i0 (f := fun i j => decide (j < i)) (ec := V.bl) (fun _ _ => rfl) (fun i j H Q q => ⟨i, j, rfl, rfl, q⟩) h
theorem w_ge (h : R Y ta Γ dInt fun x => R Y tb Γ dInt fun y => kb (decide (y ≤ x))) : W Y (tOp (rI0 fun i j => .bl (decide (j ≤ i))) ta tb) Γ dBool kb := w_i0 (f := fun i j => decide (j ≤ i)) (ec := V.bl) (fun _ _ => rfl) (fun i j H Q q => ⟨i, j, rfl, rfl, q⟩) h
theorem w_neg (h : R Y ta Γ dInt fun x => k (-x)) : W Y (tUn (rU fun i => .int (-i)) ta) Γ dInt k := fun e F σ H s Q q => h e F σ H s _ fun v F' H' x kx g r => by
  cases (show v = .int x from r)
  exact ⟨x, rfl, q _ F' H' _ kx g rfl⟩
end

/-! tests -/
theorem t_test {k : Bool → Prop} (h : R Y te Γ dBool k) : T Y (tTest te) Γ k := fun e F σ H s Q q => h e F σ H s _ fun v F' H' x kx g r => ⟨x, r, q x F' H' kx g⟩
theorem t_B {k : Bool → Prop} (h : R Y te Γ dBool k) : T Y (tB te) Γ k := fun e F σ H s Q q => h e F σ H s _ fun v F' H' x kx g r => ⟨x, r, q x F' H' kx g⟩
theorem t_not {k : Bool → Prop} (h : T Y t Γ fun b => k (!b)) : T Y (tNot t) Γ k := fun e F σ H s Q q => h e F σ H s _ fun b F' H' kx g => q (!b) F' H' kx g
theorem t_and {k : Bool → Prop} (h : T Y t Γ fun b => (b = true → T Y u Γ k) ∧ (b = false → k false)) : T Y (tAnd t u) Γ k := fun e F σ H s Q q => h e F σ H s _ fun b F' H' kx g => by
  cases b with
  | true => exact kx.1 rfl e F' σ H' (s.grow g) Q fun b F2 H2 kb g2 => q b F2 H2 kb (g.trans0 g2)
  | false => exact q false F' H' (kx.2 rfl) g
theorem t_or {k : Bool → Prop} (h : T Y t Γ fun b => (b = true → k true) ∧ (b = false → T Y u Γ k)) : T Y (tOr t u) Γ k := fun e F σ H s Q q => h e F σ H s _ fun b F' H' kx g => by
  cases b with
  | false => exact kx.2 rfl e F' σ H' (s.grow g) Q fun b F2 H2 kb g2 => q b F2 H2 kb (g.trans0 g2)
  | true => exact q true F' H' (kx.1 rfl) g
/-! values by tests -/
theorem w_andV {k : Bool → Prop} (h : R Y ta Γ dBool fun a => (a = true → W Y tb Γ dBool k) ∧ (a = false → k false)) : W Y (tAndV ta tb) Γ dBool k := fun e F σ H s Q q => h e F σ H s _ fun v F' H' x kx g r => ⟨x, r, by
  cases x with
  | true => exact kx.1 rfl e F' σ H' (s.grow g) Q fun v F2 H2 x kb g2 r => q v F2 H2 x kb (g.trans0 g2) r
  | false => exact q _ F' H' false (kx.2 rfl) g rfl⟩
theorem r_mono {k k' : α → Prop} (h : R Y te Γ d k) (m : ∀ x, k x → k' x) : R Y te Γ d k' := fun e F σ H s Q q => h e F σ H s Q fun v F' H' x kx g r => q v F' H' x (m x kx) g r
theorem w_notV {k : Bool → Prop} (h : R Y ta Γ dBool fun a => k (!a)) : W Y (tNotV ta) Γ dBool k := fun e F σ H s Q q => h e F σ H s _ fun v F' H' x kx g r => ⟨x, r, q _ F' H' (!x) kx g rfl⟩
theorem w_if {k : α → Prop} (h : T Y t Γ fun b => (b = true → W Y ta Γ d k) ∧ (b = false → W Y tb Γ d k)) : W Y (tIf t ta tb) Γ d k := fun e F σ H s Q q => h e F σ H s _ fun b F' H' kx g => by
  cases b with
  | true => exact kx.1 rfl e F' σ H' (s.grow g) Q fun v F2 H2 x kb g2 r => q v F2 H2 x kb (g.trans0 g2) r
  | false => exact kx.2 rfl e F' σ H' (s.grow g) Q fun v F2 H2 x kb g2 r => q v F2 H2 x kb (g.trans0 g2) r

/-! arguments -/
theorem wa_nil {k : List Cell → Prop} (hk : k []) : WA Y tNil Γ k := fun e F σ H s Q q => q [] F H [] hk s.base .nil
theorem wa_cons {tr : TA} {k : List Cell → Prop} (h : W Y te Γ d fun x => WA Y tr Γ fun cs => k (.val d x :: cs)) : WA Y (tCons te tr) Γ k := fun e F σ H s Q q => h e F σ H s _ fun v F1 H1 x h1 g1 r1 => h1 e F1 σ H1 (s.grow g1) _ fun vs F2 H2 cs kc g2 r2 =>
  q (v :: vs) F2 H2 (.val d x :: cs) kc (g1.trans0 g2) (Slots.cons (L := []) ⟨rfl, v, rfl, d.mono g2.ff r1⟩ r2)

/-! built-ins of numbers -/
theorem w_abs {k : Int → Prop} (h : R Y ta Γ dInt fun x => k (if x < 0 then -x else x)) : W Y (tCB (fun xs H Q => ∃ i, xs = [.int i] ∧ Q (.int (if i < 0 then -i else i)) H) (tCons ta tNil)) Γ dInt k := fun e F σ H s Q q => h e F σ H s _ fun v F' H' x kx g r => by
  cases (show v = .int x from r)
  exact ⟨x, rfl, q _ F' H' _ kx g rfl⟩
theorem w_int1 {k : Int → Prop} (h : R Y ta Γ dInt k) : W Y (tCB (fun xs H Q => (∃ i, xs = [.int i] ∧ Q (.int i) H) ∨ ∃ k, xs = [.bl k] ∧ Q (.int (if k then 1 else 0)) H) (tCons ta tNil)) Γ dInt k := fun e F σ H s Q q => h e F σ H s _ fun v F' H' x kx g r => by
  cases (show v = .int x from r)
  exact .inl ⟨x, rfl, q _ F' H' _ kx g rfl⟩
theorem w_max2 {k : Int → Prop} (h : R Y ta Γ dInt fun x => R Y tb Γ dInt fun y => k (if y > x then y else x)) : W Y (tCB (fun xs H Q => ∃ i j, xs = [.int i, .int j] ∧ Q (.int (if j > i then j else i)) H) (tCons ta (tCons tb tNil))) Γ dInt k := fun e F σ H s Q q => h e F σ H s _ fun v1 F1 H1 x h1 g1 r1 => h1 e F1 σ H1 (s.grow g1) _ fun v2 F2 H2 y ky g2 r2 => by
  cases (show v1 = .int x from r1)
  cases (show v2 = .int y from r2)
  exact ⟨x, y, rfl, q _ F2 H2 _ ky (g1.trans0 g2) rfl⟩

/-! lists and tuples that are read -/
theorem w_len {k : Int → Prop} (h : R Y ta Γ (dList (d := d)) fun xs => k (xs.length : Int)) : W Y (tCB (fun xs H Q => ∃ p ys, xs = [.ref p] ∧ (SqL Y.K H p ys ∨ SqT Y.K H p ys) ∧ Q (.int ys.length) H) (tCons ta tNil)) Γ dInt k := fun e F σ H s Q q => h e F σ H s _ fun v F' H' x kx g ⟨a, vs, e1, h1, r⟩ => by
  subst e1
  exact ⟨a, vs, rfl, .inl h1, q _ F' H' _ (by rw [r.len]; exact kx) g rfl⟩
theorem w_lenT {k : Int → Prop} (h : R Y ta Γ (dTup (d := d)) fun xs => k (xs.l.length : Int)) : W Y (tCB (fun xs H Q => ∃ p ys, xs = [.ref p] ∧ (SqL Y.K H p ys ∨ SqT Y.K H p ys) ∧ Q (.int ys.length) H) (tCons ta tNil)) Γ dInt k := fun e F σ H s Q q => h e F σ H s _ fun v F' H' x kx g ⟨a, vs, e1, h1, r⟩ => by
  subst e1
  exact ⟨a, vs, rfl, .inr h1.sq, q _ F' H' _ (by rw [r.len]; exact kx) g rfl⟩
theorem atI_rep {F : Hp} {vs : List V} {xs : List α} {i : Int} {x : α} (r : Reps d C F vs xs) (h : atI xs i = some x) : ∃ v, atI vs i = some v ∧ d.rep C F v x := by
  unfold atI at h ⊢
  rw [r.len]
  cases e : ixN xs.length i with
  | none => rw [e] at h; cases h
  | some j => rw [e] at h; exact r.get h
theorem w_ix {k : α → Prop} (h : W Y ta Γ (dList (d := d)) fun xs => R Y tb Γ dInt fun i => ∃ x, atI xs i = some x ∧ k x) : W Y (tOp (rIxL Y.K) ta tb) Γ d k := fun e F σ H s Q q => h e F σ H s _ fun v1 F1 H1 xs h1 g1 ⟨a, vs, e1, hs, r⟩ => h1 e F1 σ H1 (s.grow g1) _ fun v2 F2 H2 i ⟨x, hx, kx⟩ g2 r2 => by
  subst e1
  cases (show v2 = .int i from r2)
  obtain ⟨v, hv, rv⟩ := atI_rep r hx
  exact ⟨a, vs, i, v, rfl, rfl, (g1.fh.trans g2.hh0).seq hs, hv, q _ F2 H2 x kx (g1.trans0 g2) (d.mono g2.ff rv)⟩
theorem w_ixT {k : α → Prop} (h : W Y ta Γ (dTup (d := d)) fun xs => R Y tb Γ dInt fun i => ∃ x, atI xs.l i = some x ∧ k x) : W Y (tOp (rIxT Y.K) ta tb) Γ d k := fun e F σ H s Q q => h e F σ H s _ fun v1 F1 H1 xs h1 g1 ⟨a, vs, e1, hs, r⟩ => h1 e F1 σ H1 (s.grow g1) _ fun v2 F2 H2 i ⟨x, hx, kx⟩ g2 r2 => by
  subst e1
  cases (show v2 = .int i from r2)
  obtain ⟨v, hv, rv⟩ := atI_rep r hx
  exact ⟨a, vs, i, v, rfl, rfl, (hs.mono (g2.ff.trans g2.fh)).sq, hv, q _ F2 H2 x kx (g1.trans0 g2) (d.mono g2.ff rv)⟩
/-- an item of an owned list -/
theorem w_ixO {pin : Option V} {i : Nat} {xs : List α} {k : α → Prop} (h : Γ[i]? = some (.own (dList (d := d)) (oList (d := d)) pin xs)) (hk : R Y tb Γ dInt fun i => ∃ x, atI xs i = some x ∧ k x) : W Y (tOp (rIxL Y.K) (tVar i) tb) Γ d k := fun e F σ H s Q q => by
  obtain ⟨_, L, kw, sl⟩ := id s
  obtain ⟨o, L1, Li, L2, e1, e2, ⟨v, rfl, _, a, vs, rfl, e3, r⟩, _⟩ := sl.get h
  have ha : H a = some (.lst vs) := (kw.ow (a, .lst vs) (by rw [e2, e3]; simp)).2.1
  refine ⟨.ref a, e1, hk e F σ H s _ fun v2 F2 H2 j ⟨x, hx, kx⟩ g2 r2 => ?_⟩
  cases (show v2 = .int j from r2)
  obtain ⟨v, hv, rv⟩ := atI_rep r hx
  exact ⟨a, vs, j, v, rfl, rfl, .inl (.inl (g2.hh0 _ _ ha)), hv, q _ F2 H2 x kx g2 (d.mono g2.ff rv)⟩
/-! membership -/
class Flat (α : Type) [d : Dat α] where
  enc : α → V
  isEnc : ∀ {C : GCtx} {F : Hp} {v : V} {x : α}, d.rep C F v x → v = enc x
  flat : ∀ x, flatV (enc x) = true
  eqv : ∀ x y, eqV (enc x) (enc y) = true ↔ x = y
instance fInt : Flat Int := ⟨V.int, fun h => h, fun _ => rfl, fun x y => by simp [eqV]⟩
instance fStr : Flat Str := ⟨V.str, fun h => h, fun _ => rfl, fun x y => by simp [eqV]⟩
theorem Reps.enc [f : @Flat α d] {F : Hp} : ∀ {vs : List V} {xs : List α}, Reps d C F vs xs → vs = xs.map f.enc
  | [], [], _ => rfl
  | _ :: _, _ :: _, h => by rw [Reps.enc h.2, f.isEnc h.1]; rfl
  | [], _ :: _, h => h.elim
  | _ :: _, [], h => h.elim
theorem flat_all [f : @Flat α d] (xs : List α) : (xs.map f.enc).all flatV = true := by
  rw [List.all_map, List.all_eq_true]
  exact fun x _ => f.flat x
theorem inV_flat [f : @Flat α d] [DecidableEq α] (x : α) (xs : List α) : inV (f.enc x) (xs.map f.enc) = decide (x ∈ xs) := by
  unfold inV
  rw [List.any_map]
  by_cases h : x ∈ xs
  · rw [decide_eq_true h, List.any_eq_true]
    exact ⟨x, h, (f.eqv x x).mpr rfl⟩
  · rw [decide_eq_false h, List.any_eq_false]
    intro y hy z
    have e := (f.eqv y x).mp z
    subst e
    exact h hy
theorem w_notinT [f : @Flat α d] [DecidableEq α] {k : Bool → Prop} (h : R Y ta Γ d fun x => R Y tb Γ (dTup (d := d)) fun xs => k (!decide (x ∈ xs.l))) : W Y (tOp (rIn Y.K true) ta tb) Γ dBool k := fun e F σ H s Q q => h e F σ H s _ fun v1 F1 H1 x h1 g1 r1 => h1 e F1 σ H1 (s.grow g1) _ fun v2 F2 H2 xs kx g2 ⟨a, vs, e1, hs, r⟩ => by
  subst e1
  cases f.isEnc r1
  cases r.enc
  exact ⟨a, _, rfl, .inr hs.sq, f.flat x, flat_all xs.l, q _ F2 H2 _ kx (g1.trans0 g2) (by rw [inV_flat x xs.l]; rfl)⟩

/-! tuples, lists made -/
theorem Gr.lay {F H : Hp} {p : Addr} {o : HO} (g : Gr F H F H) (hp : H p = none) : Gr F H (upd F p o) (upd H p o) := Wk.lay g hp
theorem w_tup2 {k : α × β → Prop} (h : W Y ta Γ d1 fun x => W Y tb Γ d2 fun y => k (x, y)) : W Y (tTup (tCons ta (tCons tb tNil))) Γ (dPair (d1 := d1) (d2 := d2)) k := fun e F σ H s Q q => h e F σ H s _ fun v1 F1 H1 x h1 g1 r1 => h1 e F1 σ H1 (s.grow g1) _ fun v2 F2 H2 y ky g2 r2 =>
  ⟨show 2 ≤ PySem.sizeLine by decide, fun p hp => by
    have g3 := Gr.lay (o := .tup [v1, v2]) g2.base hp
    exact q _ _ _ (x, y) ky ((g1.trans0 g2).trans0 g3) ⟨p, v1, v2, rfl, .inl upd_same, d1.mono (g2.ff.trans g3.ff) r1, d2.mono g3.ff r2⟩⟩
theorem w_tup3 {k : T3 α β γ → Prop} (h : W Y ta Γ d1 fun x => W Y tb Γ d2 fun y => W Y tc Γ d3 fun z => k ⟨x, y, z⟩) : W Y (tTup (tCons ta (tCons tb (tCons tc tNil)))) Γ (dT3 (d1 := d1) (d2 := d2) (d3 := d3)) k := fun e F σ H s Q q => h e F σ H s _ fun v1 F1 H1 x h1 g1 r1 => h1 e F1 σ H1 (s.grow g1) _ fun v2 F2 H2 y h2 g2 r2 =>
  h2 e F2 σ H2 ((s.grow g1).grow g2) _ fun v3 F3 H3 z kz g3 r3 =>
  ⟨show 3 ≤ PySem.sizeLine by decide, fun p hp => by
    have g4 := Gr.lay (o := .tup [v1, v2, v3]) g3.base hp
    exact q _ _ _ ⟨x, y, z⟩ kz (((g1.trans0 g2).trans0 g3).trans0 g4) ⟨p, v1, v2, v3, rfl, .inl upd_same, d1.mono ((g2.ff.trans g3.ff).trans g4.ff) r1, d2.mono (g3.ff.trans g4.ff) r2, d3.mono g4.ff r3⟩⟩
theorem w_tup4 {δ : Type} {d4 : Dat δ} {td : TE} {k : T4 α β γ δ → Prop} (h : W Y ta Γ d1 fun x => W Y tb Γ d2 fun y => W Y tc Γ d3 fun z => W Y td Γ d4 fun u => k ⟨x, y, z, u⟩) : W Y (tTup (tCons ta (tCons tb (tCons tc (tCons td tNil))))) Γ (dT4 (d1 := d1) (d2 := d2) (d3 := d3) (d4 := d4)) k := fun e F σ H s Q q => h e F σ H s _ fun v1 F1 H1 x h1 g1 r1 => h1 e F1 σ H1 (s.grow g1) _ fun v2 F2 H2 y h2 g2 r2 =>
  h2 e F2 σ H2 ((s.grow g1).grow g2) _ fun v3 F3 H3 z h3 g3 r3 => h3 e F3 σ H3 (((s.grow g1).grow g2).grow g3) _ fun v4 F4 H4 u ku g4 r4 =>
  ⟨show 4 ≤ PySem.sizeLine by decide, fun p hp => by
    have g5 := Gr.lay (o := .tup [v1, v2, v3, v4]) g4.base hp
    exact q _ _ _ ⟨x, y, z, u⟩ ku ((((g1.trans0 g2).trans0 g3).trans0 g4).trans0 g5) ⟨p, v1, v2, v3, v4, rfl, .inl upd_same, d1.mono (((g2.ff.trans g3.ff).trans g4.ff).trans g5.ff) r1, d2.mono ((g3.ff.trans g4.ff).trans g5.ff) r2, d3.mono (g4.ff.trans g5.ff) r3, d4.mono g5.ff r4⟩⟩
/-- items that are alike, for a display -/
def WL (Y : YC) (ta : TA) (Γ : List Cell) {α : Type} (d : Dat α) (k : List α → Prop) : Prop := ∀ (e : En) (F : Hp) (σ : St) (H : Hp), State Y e F σ H Γ → ∀ Q : List V → Hp → Prop, (∀ vs F' H' xs, k xs → Gr F H F' H' → Reps d Y.g F' vs xs → Q vs H') → ta σ H Q
theorem wl_nil {k : List α → Prop} (hk : k []) : WL Y tNil Γ d k := fun e F σ H s Q q => q [] F H [] hk s.base trivial
theorem wl_cons {tr : TA} {k : List α → Prop} (h : W Y te Γ d fun x => WL Y tr Γ d fun xs => k (x :: xs)) : WL Y (tCons te tr) Γ d k := fun e F σ H s Q q => h e F σ H s _ fun v F1 H1 x h1 g1 r1 => h1 e F1 σ H1 (s.grow g1) _ fun vs F2 H2 xs kc g2 r2 =>
  q (v :: vs) F2 H2 (x :: xs) kc (g1.trans0 g2) ⟨d.mono g2.ff r1, r2⟩
theorem o_new {F H : Hp} {L : LO} (g : Wk ⟨F, H, []⟩ F [] H) {p : Addr} {vs : List V} {xs : List α} (hp : H p = none) (r : Reps d C F vs xs) : Wk ⟨F, H, []⟩ F [(p, .lst vs)] (upd H p (.lst vs)) ∧ (oList (d := d)).orep C F (.ref p) xs [(p, .lst vs)] :=
  ⟨g.own hp (fun _ z => by cases z), p, vs, rfl, rfl, r⟩
theorem o_lst {tl : TA} {k : List α → Prop} (h : WL Y tl Γ d fun xs => xs.length ≤ PySem.sizeLine ∧ k xs) : O Y (tLst tl) Γ (oList (d := d)) k := fun e F σ H s Q q => h e F σ H s _ fun vs F' H' xs ⟨hl, kx⟩ g r =>
  ⟨by rw [r.len]; exact hl, fun p hp => by
    obtain ⟨h1, h2⟩ := o_new (L := []) g.base hp r
    have h3 := g.trans h1
    exact q _ F' _ [(p, .lst vs)] xs kx (by simpa using h3) h2⟩
theorem o_nil {k : List α → Prop} (hk : k []) : O Y (tLst tNil) Γ (oList (d := d)) k := o_lst (wl_nil ⟨Nat.zero_le _, hk⟩)
theorem o_listOfT {k : List α → Prop} (h : W Y ta Γ (dTup (d := d)) fun xs => k xs.l) : O Y (tCB (fun xs H Q => ∃ p ys, xs = [.ref p] ∧ (SqL Y.K H p ys ∨ SqT Y.K H p ys) ∧ ∀ l, H l = none → Q (.ref l) (upd H l (.lst ys))) (tCons ta tNil)) Γ (oList (d := d)) k := fun e F σ H s Q q => h e F σ H s _ fun v F' H' xs kx g ⟨a, vs, e1, hs, r⟩ => by
  subst e1
  refine ⟨a, vs, rfl, .inr (hs.mono g.fh).sq, fun l hl => ?_⟩
  obtain ⟨h1, h2⟩ := o_new (L := []) g.base hl r
  exact q _ F' _ _ xs.l kx (by simpa using g.trans h1) h2
/-- tuple(xs) -/
theorem w_tupOf {k : Tup α → Prop} (h : W Y ta Γ (dList (d := d)) fun xs => k ⟨xs⟩) : W Y (tCB (fun xs H Q => ∃ p ys, xs = [.ref p] ∧ ((SqL Y.K H p ys ∧ ∀ l, H l = none → Q (.ref l) (upd H l (.tup ys))) ∨ (SqT Y.K H p ys ∧ Q (.ref p) H))) (tCons ta tNil)) Γ (dTup (d := d)) k := fun e F σ H s Q q => h e F σ H s _ fun v F' H' xs kx g ⟨a, vs, e1, hs, r⟩ => by
  subst e1
  refine ⟨a, vs, rfl, .inl ⟨g.fh.seq hs, fun l hl => ?_⟩⟩
  have g4 := Gr.lay (o := .tup vs) g.base hl
  exact q _ _ _ ⟨xs⟩ kx (g.trans0 g4) ⟨l, vs, rfl, .inl upd_same, r.mono g4.ff⟩
end
end G

/-! G3: statements, loops, calls, comprehensions. -/
namespace G
open PySem L2

/-! ### the state, more -/
section
variable {C : GCtx} {Y : YC} {e : En} {F F' : Hp} {σ : St} {H H' : Hp} {Γ : List Cell}
theorem State.mut {α : Type} {d : Dat α} {od : OD α} {x : α} {i : Nat} {pin : Option V} (s : State Y e F σ H Γ) (h : Γ[i]? = some (.own d od pin x)) : ∃ v Li rest, σ[i]? = some (some v) ∧ od.orep Y.g F v x Li ∧ Wk e F (Li ++ rest) H ∧
    ∀ F' H' Li' x', Same F F' → Wk e F' (Li' ++ rest) H' → od.orep Y.g F' v x' Li' → State Y e F' σ H' (Γ.set i (.own d od pin x')) := by
  obtain ⟨hx, L, k, sl⟩ := s
  obtain ⟨o, L1, Li, L2, e1, e2, ⟨v, rfl, hp, r⟩, f⟩ := sl.get h
  subst e2
  refine ⟨v, Li, L1 ++ L2, e1, r, k.front, fun F' H' Li' x' s' k' r' => ⟨hx, L1 ++ Li' ++ L2, k'.back, ?_⟩⟩
  have q := f F' (some v) (.own d od pin x') Li' s' ⟨v, rfl, hp, r'⟩
  have z : σ.set i (some v) = σ := by
    apply List.ext_getElem?
    intro j
    by_cases hj : i = j
    · subst hj
      obtain ⟨hlt, hv⟩ := List.getElem?_eq_some_iff.mp e1
      rw [List.getElem?_set_self hlt, e1]
    · rw [List.getElem?_set_ne hj]
  rw [z] at q
  exact q
/-- what is owned is frozen -/
theorem State.frz {α : Type} {d : Dat α} {od : OD α} {x : α} {i : Nat} (s : State Y e F σ H Γ) (hM : e.M = []) (h : Γ[i]? = some (.own d od none x)) : ∃ F', Same F F' ∧ State Y e F' σ H (Γ.set i (.val d x)) := by
  obtain ⟨hx, L, k, sl⟩ := s
  obtain ⟨o, L1, Li, L2, e1, e2, ⟨v, rfl, hp, r⟩, f⟩ := sl.get h
  subst e2
  have kf := k.front
  have ff : ∀ p ∈ Li, F p.1 = none := fun p hp => (kf.ow p (List.mem_append_left _ hp)).1
  have nd : (Li.map Prod.fst).Nodup := by
    have := kf.nd
    rw [List.map_append] at this
    exact (List.nodup_append.mp this).1
  have k2 := kf.freeze fun p _ z => by rw [hM] at z; cases z
  have sm := same_plus ff nd
  refine ⟨plus F Li, sm, hx, L1 ++ L2, k2, ?_⟩
  have q := f (plus F Li) (some v) (.val d x) [] sm ⟨rfl, v, rfl, od.view r sm (plus_get ff nd)⟩
  have z : σ.set i (some v) = σ := by
    apply List.ext_getElem?
    intro j
    by_cases hj : i = j
    · subst hj
      obtain ⟨hlt, hv⟩ := List.getElem?_eq_some_iff.mp e1
      rw [List.getElem?_set_self hlt, e1]
    · rw [List.getElem?_set_ne hj]
  rw [z, List.append_nil] at q
  exact q
end

/-! ### statements -/
structure Ks where
  nx : List Cell → Prop
  rt : Cell → List Cell → Prop
  bk : List Cell → Prop
  ct : List Cell → Prop
structure Cont (Y : YC) (e : En) (k : Ks) (D : Ends) : Prop where
  nx : ∀ F σ H Γ, k.nx Γ → State Y e F σ H Γ → D.nx σ H
  rt : ∀ F σ H Γ v c L L', k.rt c Γ → Wk e F (L ++ L') H → CellOk Y.g F (some v) c L → Slots Y.g F σ Γ L' → D.rt v H
  bk : ∀ F σ H Γ, k.bk Γ → State Y e F σ H Γ → D.bk σ H
  ct : ∀ F σ H Γ, k.ct Γ → State Y e F σ H Γ → D.ct σ H
def Z (Y : YC) (ts : TS) (Γ : List Cell) (k : Ks) : Prop := ∀ (e : En) (F : Hp) (σ : St) (H : Hp) (D : Ends), e.M = [] → State Y e F σ H Γ → Cont Y e k D → ts D σ H
/-- a target takes x -/
def A (Y : YC) (g : TG) (Γ : List Cell) {α : Type} (d : Dat α) (x : α) (k : List Cell → Prop) : Prop := ∀ (e : En) (F : Hp) (σ : St) (H : Hp) (v : V), State Y e F σ H Γ → d.rep Y.g F v x → ∀ Q : St → Hp → Prop, (∀ σ' Γ', k Γ' → State Y e F σ' H Γ' → Q σ' H) → g v σ H Q

section
variable {C : GCtx} {Y : YC} {Γ : List Cell} {te ta tb tc : TE} {t u : TT} {α β γ δ : Type} {d1 : Dat α} {d : Dat α} {d2 : Dat β} {d3 : Dat γ} {d4 : Dat δ} {k : Ks} {t1 t2 ts : TS} {g g1 g2 g3 g4 : TG}

theorem z_seq (h : Z Y t1 Γ { k with nx := fun Γ' => Z Y t2 Γ' k }) : Z Y (tSeq t1 t2) Γ k := fun e F σ H D hM s c =>
  h e F σ H { D with nx := t2 D } hM s ⟨fun F σ H Γ q s' => q e F σ H D hM s' c, c.rt, c.bk, c.ct⟩
theorem z_next (h : k.nx Γ) : Z Y tNext Γ k := fun e F σ H D hM s c => c.nx F σ H Γ h s
theorem z_mono {k' : Ks} (h : Z Y ts Γ k') (n : ∀ Γ, k'.nx Γ → k.nx Γ) (r : ∀ c Γ, k'.rt c Γ → k.rt c Γ) (b : ∀ Γ, k'.bk Γ → k.bk Γ) (c : ∀ Γ, k'.ct Γ → k.ct Γ) : Z Y ts Γ k := fun e F σ H D hM s cc =>
  h e F σ H D hM s ⟨fun F σ H Γ q => cc.nx F σ H Γ (n Γ q), fun F σ H Γ v x L L' q => cc.rt F σ H Γ v x L L' (r x Γ q), fun F σ H Γ q => cc.bk F σ H Γ (b Γ q), fun F σ H Γ q => cc.ct F σ H Γ (c Γ q)⟩
/-- what is owned may be frozen anywhere -/
theorem z_frz {od : @OD α d} {x : α} (i : Nat) (hi : Γ[i]? = some (.own d od none x)) (h : Z Y ts (Γ.set i (.val d x)) k) : Z Y ts Γ k := fun e F σ H D hM s c => by
  obtain ⟨F', sm, s'⟩ := s.frz hM hi
  exact h e F' σ H D hM s' c
theorem z_forget {c0 : Cell} (i : Nat) (hi : Γ[i]? = some c0) (h : Z Y ts (Γ.set i .no) k) : Z Y ts Γ k := fun e F σ H D hM s c => h e F σ H D hM (s.hide hi) c

/-! targets -/
theorem a_name {x : α} {i : Nat} {c0 : Cell} {kn : List Cell → Prop} (hi : Γ[i]? = some c0) (h : kn (Γ.set i (.val d x))) : A Y (gName i) Γ d x kn := fun e F σ H v s r Q q =>
  q (σ.set i (some v)) _ h (s.set (c' := .val d x) (L' := []) hi s.base ⟨rfl, v, rfl, r⟩)
theorem a_pair {x : α × β} {n : Nat} {kn : List Cell → Prop} (hn : n = 2) (h : A Y g1 Γ d1 x.1 fun Γ1 => A Y g2 Γ1 d2 x.2 kn) : A Y (gTup Y.K n (gCons g1 (gCons g2 gNil))) Γ (dPair (d1 := d1) (d2 := d2)) x kn := fun e F σ H v s ⟨a, v1, v2, e1, ht, r1, r2⟩ Q q => by
  subst e1 hn
  refine ⟨a, [v1, v2], rfl, (ht.mono s.fh).sq, rfl, v1, [v2], rfl, h e F σ H v1 s r1 _ fun σ1 Γ1 h1 st1 => ⟨v2, [], rfl, h1 e F σ1 H v2 st1 r2 _ fun σ2 Γ2 h2 st2 => ⟨rfl, q σ2 Γ2 h2 st2⟩⟩⟩
theorem a_T4 {x : T4 α β γ δ} {n : Nat} {kn : List Cell → Prop} (hn : n = 4) (h : A Y g1 Γ d1 x.a fun Γ1 => A Y g2 Γ1 d2 x.b fun Γ2 => A Y g3 Γ2 d3 x.c fun Γ3 => A Y g4 Γ3 d4 x.d kn) : A Y (gTup Y.K n (gCons g1 (gCons g2 (gCons g3 (gCons g4 gNil))))) Γ (dT4 (d1 := d1) (d2 := d2) (d3 := d3) (d4 := d4)) x kn := fun e F σ H v s ⟨a, v1, v2, v3, v4, e1, ht, r1, r2, r3, r4⟩ Q q => by
  subst e1 hn
  refine ⟨a, [v1, v2, v3, v4], rfl, (ht.mono s.fh).sq, rfl, v1, [v2, v3, v4], rfl, h e F σ H v1 s r1 _ fun σ1 Γ1 h1 st1 => ⟨v2, [v3, v4], rfl, h1 e F σ1 H v2 st1 r2 _ fun σ2 Γ2 h2 st2 => ⟨v3, [v4], rfl, h2 e F σ2 H v3 st2 r3 _ fun σ3 Γ3 h3 st3 =>
    ⟨v4, [], rfl, h3 e F σ3 H v4 st3 r4 _ fun σ4 Γ4 h4 st4 => ⟨rfl, q σ4 Γ4 h4 st4⟩⟩⟩⟩⟩

/-! assignments -/
theorem z_set {i : Nat} {c0 : Cell} (hi : Γ[i]? = some c0) (h : W Y te Γ d fun x => k.nx (Γ.set i (.val d x))) : Z Y (tAsg te (gName i)) Γ k := fun e F σ H D hM s c => h e F σ H s _ fun v F' H' x kx g r =>
  c.nx F' _ H' _ kx (s.set (c' := .val d x) (L' := []) hi g ⟨rfl, v, rfl, r⟩)
theorem z_setG (h : W Y te Γ d fun x => A Y g Γ d x k.nx) : Z Y (tAsg te g) Γ k := fun e F σ H D hM s c => h e F σ H s _ fun v F' H' x kx gr r =>
  kx e F' σ H' v (s.grow gr) r _ fun σ2 Γ2 k2 s2 => c.nx F' σ2 H' Γ2 k2 s2
theorem z_setO {od : @OD α d} {i : Nat} {c0 : Cell} (hi : Γ[i]? = some c0) (h : O Y te Γ od fun x => k.nx (Γ.set i (.own d od none x))) : Z Y (tAsg te (gName i)) Γ k := fun e F σ H D hM s c => h e F σ H s _ fun v F' H' L' x kx g r =>
  c.nx F' _ H' _ kx (s.set (c' := .own d od none x) hi g ⟨v, rfl, fun _ z => (nomatch z), r⟩)
theorem z_drop {kt : α → Prop} (h : R Y te Γ d fun _ => k.nx Γ) : Z Y (tDrop te) Γ k := fun e F σ H D hM s c => h e F σ H s _ fun v F' H' x kx g r => c.nx F' σ H' Γ kx (s.grow g)
theorem z_if (h : T Y t Γ fun b => (b = true → Z Y t1 Γ k) ∧ (b = false → Z Y t2 Γ k)) : Z Y (tIfS t t1 t2) Γ k := fun e F σ H D hM s c => h e F σ H s _ fun b F' H' kb g => by
  cases b with
  | true => exact kb.1 rfl e F' σ H' D hM (s.grow g) c
  | false => exact kb.2 rfl e F' σ H' D hM (s.grow g) c
theorem z_ret (h : W Y te Γ d fun x => k.rt (.val d x) Γ) : Z Y (tRet te) Γ k := fun e F σ H D hM s c => h e F σ H s _ fun v F' H' x kx g r => by
  obtain ⟨_, L, kw, sl⟩ := s
  exact c.rt F' σ H' Γ v (.val d x) [] L kx (kw.trans0 g) ⟨rfl, v, rfl, r⟩ (sl.mono g.ff)
theorem z_retO {od : @OD α d} (h : O Y te Γ od fun x => k.rt (.own d od none x) Γ) : Z Y (tRet te) Γ k := fun e F σ H D hM s c => h e F σ H s _ fun v F' H' L' x kx g r => by
  obtain ⟨_, L, kw, sl⟩ := s
  exact c.rt F' σ H' Γ v (.own d od none x) L' L kx (kw.trans g) ⟨v, rfl, fun _ z => (nomatch z), r⟩ (sl.mono g.ff)
theorem z_retV {od : @OD α d} {i : Nat} {x : α} (hi : Γ[i]? = some (.own d od none x)) (h : k.rt (.own d od none x) (Γ.set i .no)) : Z Y (tRet (tVar i)) Γ k := fun e F σ H D hM s c => by
  obtain ⟨hx, L, k0, sl⟩ := s
  obtain ⟨o, L1, Li, L2, e1, e2, ⟨v, rfl, _, r⟩, f⟩ := sl.get hi
  subst e2
  refine ⟨v, e1, ?_⟩
  have sl2 := f F (some v) .no [] (Same.refl F) rfl
  rw [List.append_nil] at sl2
  exact c.rt F _ H _ v (.own d od none x) Li (L1 ++ L2) h k0.front ⟨v, rfl, fun _ z => (nomatch z), r⟩ sl2
/-! stores to what is owned -/
theorem z_append {pin : Option V} {i : Nat} {xs : List α} (hi : Γ[i]? = some (.own (dList (d := d)) (oList (d := d)) pin xs)) (h : W Y te Γ d fun y => xs.length < PySem.sizeLine ∧ k.nx (Γ.set i (.own (dList (d := d)) (oList (d := d)) pin (xs ++ [y])))) :
    Z Y (tDrop (tBM Y.K "list" rAppend (tVar i) (tCons te tNil))) Γ k := fun e F σ H D hM s c => by
  obtain ⟨v0, _, _, e1, ⟨a0, vs0, rfl, rfl, _⟩, kw0, _⟩ := s.mut hi
  have ha0 : H a0 = some (.lst vs0) := (kw0.ow (a0, .lst vs0) (by simp)).2.1
  refine ⟨.ref a0, e1, .inl ⟨rfl, vs0, .inl (.inl ha0)⟩, h e F σ H s _ fun w F' H' y ⟨hl, ky⟩ g rw' => ?_⟩
  obtain ⟨v, Li, rest, e2, ⟨a, vs, rfl, rfl, r⟩, kw, f⟩ := (s.grow g).mut hi
  rw [e1] at e2
  cases (Option.some.inj e2)
  have ha : H' a0 = some (.lst vs) := (kw.ow (a0, .lst vs) (by simp)).2.1
  refine ⟨a0, vs, w, rfl, rfl, ha, by rw [r.len]; exact hl, ?_⟩
  exact c.nx F' σ _ _ ky (f F' _ [(a0, .lst (vs ++ [w]))] (xs ++ [y]) (Same.refl F') (kw.put (fun _ z => by cases z)) ⟨a0, _, rfl, rfl, r.append (Reps.one rw')⟩)
/-- xs[i] = e -/
theorem z_setIx {pin : Option V} {i : Nat} {xs : List α} (hi : Γ[i]? = some (.own (dList (d := d)) (oList (d := d)) pin xs)) (h : W Y te Γ d fun y => R Y tb Γ dInt fun n => ∃ j, ixN xs.length n = some j ∧ k.nx (Γ.set i (.own (dList (d := d)) (oList (d := d)) pin (xs.set j y)))) :
    Z Y (tAsg te (gSub (tVar i) tb rSetL)) Γ k := fun e F σ H D hM s c => h e F σ H s _ fun w F1 H1 y hy g1 rw1 => by
  obtain ⟨v0, _, _, e1, ⟨a0, vs0, rfl, rfl, _⟩, kw0, _⟩ := (s.grow g1).mut hi
  refine ⟨.ref a0, e1, hy e F1 σ H1 (s.grow g1) _ fun v2 F2 H2 n ⟨j, hj, kj⟩ g2 r2 => ?_⟩
  cases (show v2 = .int n from r2)
  obtain ⟨v, Li, rest, e2, ⟨a, vs, rfl, rfl, r⟩, kw, f⟩ := ((s.grow g1).grow g2).mut hi
  rw [e1] at e2
  cases (Option.some.inj e2)
  have ha : H2 a0 = some (.lst vs) := (kw.ow (a0, .lst vs) (by simp)).2.1
  refine ⟨a0, vs, n, j, rfl, rfl, ha, by rw [r.len]; exact hj, ?_⟩
  exact c.nx F2 σ _ _ kj (f F2 _ [(a0, .lst (vs.set j w))] (xs.set j y) (Same.refl F2) (kw.put (fun _ z => by cases z)) ⟨a0, _, rfl, rfl, r.set j (d.mono g2.ff rw1)⟩)

/-! loops -/
theorem Wk.out {e : En} {F1 F : Hp} {L1 L : LO} {H1 H : Hp} (a : Wk e F1 L1 H1) (b : Wk ⟨F1, e.H0, e.M⟩ F L H) : Wk e F L H :=
  ⟨a.ff.trans b.ff, b.hh, b.th, b.fh, fun x h h' => b.nw x h (a.nw x h h'), b.tp, b.ow, b.nd⟩
theorem Wk.into {e : En} {F : Hp} {L : LO} {H : Hp} (a : Wk e F L H) : Wk ⟨F, e.H0, e.M⟩ F L H :=
  ⟨Same.refl _, a.hh, a.th, a.fh, fun _ _ h => h, a.tp, a.ow, a.nd⟩
theorem XOk.into {e : En} {F1 : Hp} {L1 : LO} {H1 : Hp} (h : XOk Y e) (a : Wk e F1 L1 H1) : XOk Y ⟨F1, e.H0, e.M⟩ := fun x d F σ H Γ k ⟨L, kw, sl⟩ hd => h x d F σ H Γ k ⟨L, a.out kw, sl⟩ hd
theorem State.into {e : En} {F : Hp} {σ : St} {H : Hp} (s : State Y e F σ H Γ) : State Y ⟨F, e.H0, e.M⟩ F σ H Γ := let ⟨hx, L, k, sl⟩ := s; ⟨hx.into k, L, k.into, sl⟩
theorem State.out {e : En} {F1 F : Hp} {L1 : LO} {H1 : Hp} {σ : St} {H : Hp} (hx : XOk Y e) (a : Wk e F1 L1 H1) (s : State Y ⟨F1, e.H0, e.M⟩ F σ H Γ) : State Y e F σ H Γ := let ⟨_, L, k, sl⟩ := s; ⟨hx, L, a.out k, sl⟩
theorem State.ff {e : En} {F : Hp} {σ : St} {H : Hp} (s : State Y e F σ H Γ) : Same e.F0 F := let ⟨_, _, k, _⟩ := s; k.ff
theorem Cont.into {e : En} {F1 : Hp} {L1 : LO} {H1 : Hp} {D : Ends} (hx : XOk Y e) (a : Wk e F1 L1 H1) (c : Cont Y e k D) : Cont Y ⟨F1, e.H0, e.M⟩ k D :=
  ⟨fun F σ H Γ q s => c.nx F σ H Γ q (s.out hx a), fun F σ H Γ v x L L' q kw => c.rt F σ H Γ v x L L' q (a.out kw), fun F σ H Γ q s => c.bk F σ H Γ q (s.out hx a), fun F σ H Γ q s => c.ct F σ H Γ q (s.out hx a)⟩
/-- what a loop asks of its body -/
def Body (Y : YC) (g : TG) (ts : TS) {α : Type} (d : Dat α) (k : Ks) (get : Nat → Option α) (n : Nat) (Γ : List Cell) : Prop :=
  ∃ I : Nat → List Cell → Prop, I 0 Γ ∧ (∀ i x Γ', get i = some x → I i Γ' → A Y g Γ' d x fun Γ2 => Z Y ts Γ2 { nx := I (i + 1), ct := I (i + 1), bk := k.nx, rt := k.rt }) ∧ ∀ Γ', I n Γ' → k.nx Γ'
theorem z_for {tl : TE} (h : W Y tl Γ (dList (d := d)) fun xs => Body Y g ts d k (fun i => xs[i]?) xs.length Γ) : Z Y (tFor (iList Y.K tl) g ts) Γ k := fun e F σ H D hM s c => h e F σ H s _ fun v F1 H1 xs ⟨I, h0, hs, hd⟩ g1 ⟨a, vs, e1, hq, r⟩ => by
  subst e1
  have s1 := s.grow g1
  obtain ⟨hx1, L1, kw1, _⟩ := id s1
  have c1 := c.into hx1 kw1
  refine ⟨a, rfl, ⟨vs, g1.fh.seq hq⟩, for_list (K := Y.K) (a := a) (xs := vs) (fun i σ H => ∃ F' Γ', State Y ⟨F1, e.H0, e.M⟩ F' σ H Γ' ∧ I i Γ') ⟨F1, Γ, s1.into, h0⟩ (fun i σ H _ ⟨F', Γ', st, _⟩ => (st.ff.trans st.fh).seq hq) (fun i w σ H hw ⟨F', Γ', st, hi⟩ => ?_) fun σ H ⟨F', Γ', st, hi⟩ => ?_⟩
  · obtain ⟨x, hx, rx⟩ := r.getV hw
    refine hs i x Γ' hx hi _ F' σ H w st (d.mono st.ff rx) _ fun σ2 Γ2 h2 st2 => ?_
    exact h2 ⟨F1, e.H0, e.M⟩ F' σ2 H _ hM st2 ⟨fun F3 σ3 H3 Γ3 k3 st3 => ⟨F3, Γ3, st3, k3⟩, c1.rt, c1.nx, fun F3 σ3 H3 Γ3 k3 st3 => ⟨F3, Γ3, st3, k3⟩⟩
  · rw [r.len] at hi
    exact c1.nx F' σ H Γ' (hd Γ' hi) st
theorem z_forT {tl : TE} (h : W Y tl Γ (dTup (d := d)) fun xs => Body Y g ts d k (fun i => xs.l[i]?) xs.l.length Γ) : Z Y (tFor (iTup Y.K tl) g ts) Γ k := fun e F σ H D hM s c => h e F σ H s _ fun v F1 H1 xs ⟨I, h0, hs, hd⟩ g1 ⟨a, vs, e1, hq, r⟩ => by
  subst e1
  have s1 := s.grow g1
  obtain ⟨hx1, L1, kw1, _⟩ := id s1
  have c1 := c.into hx1 kw1
  refine ⟨a, rfl, ⟨vs, (hq.mono g1.fh).sq⟩, for_tup (K := Y.K) (a := a) (xs := vs) (fun i σ H => ∃ F' Γ', State Y ⟨F1, e.H0, e.M⟩ F' σ H Γ' ∧ I i Γ') ⟨F1, Γ, s1.into, h0⟩ (fun i σ H _ ⟨F', Γ', st, _⟩ => (hq.mono (st.ff.trans st.fh)).sq) (fun i w σ H hw ⟨F', Γ', st, hi⟩ => ?_) fun σ H ⟨F', Γ', st, hi⟩ => ?_⟩
  · obtain ⟨x, hx, rx⟩ := r.getV hw
    refine hs i x Γ' hx hi _ F' σ H w st (d.mono st.ff rx) _ fun σ2 Γ2 h2 st2 => ?_
    exact h2 ⟨F1, e.H0, e.M⟩ F' σ2 H _ hM st2 ⟨fun F3 σ3 H3 Γ3 k3 st3 => ⟨F3, Γ3, st3, k3⟩, c1.rt, c1.nx, fun F3 σ3 H3 Γ3 k3 st3 => ⟨F3, Γ3, st3, k3⟩⟩
  · rw [r.len] at hi
    exact c1.nx F' σ H Γ' (hd Γ' hi) st
/-- lo, lo + 1, .. (n of them) -/
def rng (lo : Int) (n : Nat) (i : Nat) : Option Int := if i < n then some (lo + i) else none
theorem for_rng {lo : Int} {n : Nat} {e : En} {F : Hp} {σ : St} {H : Hp} {D : Ends} (hM : e.M = []) (s : State Y e F σ H Γ) (c : Cont Y e k D) (h : Body Y g ts dInt k (rng lo n) n Γ) : ∃ W : Nat → Nat → St → Hp → Prop, (∃ m, W 0 m σ H) ∧ ∀ i m σ H, W i m σ H →
      ((Itr lo n).stop i H ∧ D.nx σ H) ∨ ((Itr lo n).go i H ∧ ∃ N : St → Hp → Prop, (∀ σ' H', N σ' H' → ∃ m', m' < m ∧ W (i + 1) m' σ' H') ∧ ∀ x H', (Itr lo n).yld i H x H' → g x σ H' fun σ2 H2 => ts { D with nx := N, ct := N, bk := D.nx } σ2 H2) := by
  obtain ⟨I, h0, hs, hd⟩ := h
  refine for_range (lo := lo) (n := n) (fun i σ H => ∃ F' Γ', State Y e F' σ H Γ' ∧ I i Γ') ⟨F, Γ, s, h0⟩ (fun i σ H hw ⟨F', Γ', st, hi⟩ => ?_) fun σ H ⟨F', Γ', st, hi⟩ => c.nx F' σ H Γ' (hd Γ' hi) st
  refine hs i (lo + i) Γ' (by unfold rng; rw [if_pos hw]) hi _ F' σ H _ st rfl _ fun σ2 Γ2 h2 st2 => ?_
  exact h2 _ F' σ2 H _ hM st2 ⟨fun F3 σ3 H3 Γ3 k3 st3 => ⟨F3, Γ3, st3, k3⟩, c.rt, c.nx, fun F3 σ3 H3 Γ3 k3 st3 => ⟨F3, Γ3, st3, k3⟩⟩
theorem z_range (h : R Y ta Γ dInt fun n => -(2 ^ 62) ≤ n ∧ n < 2 ^ 62 ∧ Body Y g ts dInt k (rng 0 n.toNat) n.toNat Γ) : Z Y (tFor (iRng1 (tCons ta tNil)) g ts) Γ k := fun e F σ H D hM s c => h e F σ H s _ fun v F1 H1 n ⟨l1, l2, hb⟩ g1 r1 => by
  cases (show v = .int n from r1)
  exact ⟨n, rfl, l1, l2, for_rng hM (s.grow g1) c hb⟩
/-! truth of a list -/
/-! ### calls -/
/-- a def over data that it leaves as they are -/
def Fn (C : GCtx) (Γ : List Cell) (post : Cell → Prop) (vs : List V) (H : Hp) (Q : VK) : Prop :=
  ∃ F, Gr F H F H ∧ Slots C F (vs.map some) Γ [] ∧ ∀ v F' H' c L, post c → Wk ⟨F, H, []⟩ F' L H' → CellOk C F' (some v) c L → Q v H'
theorem Fn.len {post : Cell → Prop} {vs : List V} {H : Hp} {Q : VK} (h : Fn C Γ post vs H Q) : vs.length = Γ.length := by
  obtain ⟨F, _, s, _⟩ := h
  simpa using s.len
theorem Fn.mono {post post' : Cell → Prop} {vs : List V} {H : Hp} {Q : VK} (h : Fn C Γ post vs H Q) (m : ∀ c, post' c → post c) : Fn C Γ post' vs H Q := by
  obtain ⟨F, g, s, q⟩ := h
  exact ⟨F, g, s, fun v F' H' c L p => q v F' H' c L (m c p)⟩
/-- sp serves the cells, and its answers are as post says -/
def SpW (C : GCtx) (sp : Sp) (cs : List Cell) (post : Cell → Prop) : Prop := ∀ vs H Q E, Fn C cs post vs H Q → sp vs H Q E
/-- what is new in H' joins F -/
def fresh (F H F' : Hp) : Hp := fun a => if (H a).isSome = true then F a else F' a
theorem fresh_gr {F F1 H F' H' : Hp} {L : LO} (b : Gr F H F H) (g : Wk ⟨F1, H, []⟩ F' L H') : Wk ⟨F, H, []⟩ (fresh F H F') L H' where
  ff := fun a o h => by
    have h2 : (H a).isSome = true := by rw [b.fh a o h]; rfl
    unfold fresh; rw [if_pos h2]; exact h
  hh := g.hh
  th := g.th
  fh := fun a o h => by
    unfold fresh at h
    split at h
    · exact g.hh a o (fun z => nomatch z) (b.fh a o h)
    · exact g.fh a o h
  nw := fun a h h' => by
    unfold fresh
    have h2 : (H a).isSome = true := by cases q : H a with | none => exact absurd q h | some o => rfl
    rw [if_pos h2]; exact h'
  tp := fun a xs h => by
    unfold fresh
    split
    · next h2 =>
      cases q : H a with
      | none => rw [q] at h2; cases h2
      | some o =>
        have := g.hh a o (fun z => nomatch z) q
        rw [h] at this
        cases (Option.some.inj this)
        exact b.tp a xs q
    · exact g.tp a xs h
  ow := fun p hp => by
    obtain ⟨h1, h2, h3⟩ := g.ow p hp
    have h4 : H p.1 = none := h3.resolve_right (fun z => nomatch z)
    refine ⟨?_, h2, .inl h4⟩
    unfold fresh
    rw [if_neg (by rw [h4]; exact fun z => nomatch z)]
    exact h1
  nd := g.nd
theorem Gr.all {F H : Hp} (b : Gr F H F H) : Gr H H H H := ⟨Same.refl _, fun _ _ _ h => h, fun _ h => h, Same.refl _, fun _ _ h => h, fun _ _ h => h, fun _ h => (nomatch h), List.nodup_nil⟩
/-- owned data that lean on nothing but what stands still -/
class OIm (α : Type) [d : Dat α] (od : OD α) : Prop where
  oimm : ∀ {C : GCtx} {F H : Hp} {v : V} {x : α} {L : LO}, (∀ a xs, H a = some (.tup xs) → F a = some (.tup xs)) → od.orep C H v x L → od.orep C F v x L
instance mList {α : Type} [d : Dat α] [i : Imm α] : OIm (List α) oList := ⟨fun t ⟨a, vs, e, h, r⟩ => ⟨a, vs, e, h, r.imm t⟩⟩
theorem slots_pad {C : GCtx} {F : Hp} : ∀ n, Slots C F (List.replicate n none) (List.replicate n .no) [] := by
  intro n
  induction n with
  | zero => exact .nil
  | succ n ih => exact .cons (L := []) rfl ih
theorem slots_app {C : GCtx} {F : Hp} {σ1 σ2 : St} {Γ1 Γ2 : List Cell} {L1 L2 : LO} (a : Slots C F σ1 Γ1 L1) (b : Slots C F σ2 Γ2 L2) : Slots C F (σ1 ++ σ2) (Γ1 ++ Γ2) (L1 ++ L2) := by
  induction a with
  | nil => exact b
  | cons h r ih => rw [List.append_assoc]; exact .cons h ih
/-- a def over data that it leaves as they are, which may let exceptions out -/
def FnX (C : GCtx) (Γ : List Cell) (post : Cell → Prop) (xp : Exn → Prop) (vs : List V) (H : Hp) (Q : VK) (E : XK) : Prop :=
  ∃ F, Gr F H F H ∧ Slots C F (vs.map some) Γ [] ∧ (∀ v F' H' c L, post c → Wk ⟨F, H, []⟩ F' L H' → CellOk C F' (some v) c L → Q v H') ∧
    ∀ x d F' H', xp x → Wk ⟨F, H, []⟩ F' [] H' → x.at F' d → E (.ref x.cls) d H'
theorem FnX.fn {post : Cell → Prop} {xp : Exn → Prop} {vs : List V} {H : Hp} {Q : VK} {E : XK} (h : FnX C Γ post xp vs H Q E) : Fn C Γ post vs H Q := let ⟨F, g, s, q, _⟩ := h; ⟨F, g, s, q⟩
theorem FnX.len {post : Cell → Prop} {xp : Exn → Prop} {vs : List V} {H : Hp} {Q : VK} {E : XK} (h : FnX C Γ post xp vs H Q E) : vs.length = Γ.length := h.fn.len
theorem FnX.mono {post post' : Cell → Prop} {xp xp' : Exn → Prop} {vs : List V} {H : Hp} {Q : VK} {E : XK} (h : FnX C Γ post xp vs H Q E) (m : ∀ c, post' c → post c) (mx : ∀ x, xp' x → xp x) : FnX C Γ post' xp' vs H Q E := by
  obtain ⟨F, g, s, q, qx⟩ := h
  exact ⟨F, g, s, fun v F' H' c L p => q v F' H' c L (m c p), fun x d F' H' p => qx x d F' H' (mx x p)⟩
theorem Fn.x {post : Cell → Prop} {vs : List V} {H : Hp} {Q : VK} {E : XK} (h : Fn C Γ post vs H Q) : FnX C Γ post (fun _ => False) vs H Q E := let ⟨F, g, s, q⟩ := h; ⟨F, g, s, q, fun _ _ _ _ z => z.elim⟩
def SpX (C : GCtx) (sp : Sp) (cs : List Cell) (post : Cell → Prop) (xp : Exn → Prop) : Prop := ∀ vs H Q E, FnX C cs post xp vs H Q E → sp vs H Q E
theorem SpX.w {sp : Sp} {cs : List Cell} {post : Cell → Prop} (h : SpX C sp cs post fun _ => False) : SpW C sp cs post := fun vs H Q E f => h vs H Q E f.x
theorem FnX.body {N : List Str} {post : Cell → Prop} {xp : Exn → Prop} {vs : List V} {H : Hp} {Q : VK} {E : XK} {t : TS} (h : FnX C Γ post xp vs H Q E)
    (hz : Z ⟨C, fun _ => E, fun x _ => xp x⟩ t (Γ ++ List.replicate (N.length - Γ.length) .no) { nx := fun _ => post (.val dUnit ()), rt := fun c _ => post c, bk := fun _ => False, ct := fun _ => False }) : t { nx := fun _ H' => Q .non H', rt := Q } (L2.start N vs) H := by
  have hl := h.len
  obtain ⟨F, g, s, q, qx⟩ := h
  have st : State ⟨C, fun _ => E, fun x _ => xp x⟩ ⟨F, H, []⟩ F (L2.start N vs) H (Γ ++ List.replicate (N.length - Γ.length) .no) := by
    refine ⟨fun x d F' σ' H' Γ' k ⟨L, kw, _⟩ hd => qx x d F' H' k (kw.sub (fun _ z => nomatch z) List.nodup_nil) hd, [], g, ?_⟩
    unfold L2.start
    rw [← hl]
    exact slots_app s (slots_pad _)
  refine hz ⟨F, H, []⟩ F (L2.start N vs) H _ rfl st ⟨fun F' σ' H' Γ' p s' => ?_, fun F' σ' H' Γ' v c L L' p kw rc sl => ?_, fun _ _ _ _ z => z.elim, fun _ _ _ _ z => z.elim⟩
  · obtain ⟨_, L, kw, _⟩ := s'
    refine q .non F' H' (.val dUnit ()) [] p (kw.sub (fun _ z => nomatch z) List.nodup_nil) ⟨rfl, .non, rfl, rfl⟩
  · have nd : (L.map Prod.fst).Nodup := by
      have := kw.nd
      rw [List.map_append] at this
      exact (List.nodup_append.mp this).1
    exact q v F' H' c L p (kw.sub (fun p hp => List.mem_append_left _ hp) nd) rc
/-- THE BODY of such a def -/
theorem Fn.body {N : List Str} {post : Cell → Prop} {vs : List V} {H : Hp} {Q : VK} {t : TS} (h : Fn C Γ post vs H Q)
    (hz : Z (calm C) t (Γ ++ List.replicate (N.length - Γ.length) .no) { nx := fun _ => post (.val dUnit ()), rt := fun c _ => post c, bk := fun _ => False, ct := fun _ => False }) : t { nx := fun _ H' => Q .non H', rt := Q } (L2.start N vs) H := FnX.body (E := fun _ _ _ => False) h.x hz
/-! calls that may raise -/
theorem w_callX {sp : Sp} {E : St → XK} {tl : TA} {kx : α → Prop} (hE : E = Y.E) (h : WA Y tl Γ fun cs => SpX Y.g sp cs (fun c => ∃ r, c = .val d r ∧ kx r) fun x => Y.kx x Γ) : W Y (tCallS sp E tl) Γ d kx := fun e F σ H s Q q => h e F σ H s _ fun vs F1 H1 cs hc g1 sl => by
  subst hE
  refine hc vs H1 Q _ ⟨F1, g1.base, sl, fun v F' H' c L ⟨r, ec, kr⟩ g2 rc => ?_, fun x d F' H' kx' g2 hd => ?_⟩
  · subst ec
    obtain ⟨e1, v', e2, rv⟩ := rc
    subst e1
    cases (Option.some.inj e2)
    exact q v F' H' r kr (g1.trans0 g2) rv
  · exact s.1 x d F' σ H' Γ kx' ((s.grow g1).grow g2).2 hd
theorem o_callX {sp : Sp} {E : St → XK} {tl : TA} {od : @OD α d} {kx : α → Prop} (hE : E = Y.E) (h : WA Y tl Γ fun cs => SpX Y.g sp cs (fun c => ∃ r, c = .own d od none r ∧ kx r) fun x => Y.kx x Γ) : O Y (tCallS sp E tl) Γ od kx := fun e F σ H s Q q => h e F σ H s _ fun vs F1 H1 cs hc g1 sl => by
  subst hE
  refine hc vs H1 Q _ ⟨F1, g1.base, sl, fun v F' H' c L ⟨r, ec, kr⟩ g2 rc => ?_, fun x d F' H' kx' g2 hd => ?_⟩
  · subst ec
    obtain ⟨v', e2, _, rv⟩ := rc
    cases (Option.some.inj e2)
    exact q v F' H' L r kr (by simpa using g1.trans g2) rv
  · exact s.1 x d F' σ H' Γ kx' ((s.grow g1).grow g2).2 hd
end
end G

/-! G4: comprehensions, sorted, isinstance, equality, sets and dicts. -/
namespace G
open PySem L2

/-! ### targets that touch but their own slots -/
def Tg (g : TG) (js : List Nat) : Prop := ∀ v σ H (Q : St → Hp → Prop), g v σ H Q → g v σ H fun σ' H' => wipe σ' js = wipe σ js ∧ Q σ' H'
def Tgs (g : TGs) (js : List Nat) : Prop := ∀ vs σ H (Q : St → Hp → Prop), g vs σ H Q → g vs σ H fun σ' H' => wipe σ' js = wipe σ js ∧ Q σ' H'
theorem set_comm {α : Type _} (l : List α) {i j : Nat} (a b : α) (h : i ≠ j) : (l.set i a).set j b = (l.set j b).set i a := by
  apply List.ext_getElem?
  intro m
  simp only [List.getElem?_set, List.length_set]
  by_cases h1 : j = m <;> by_cases h2 : i = m <;> simp_all
theorem wipe_at {σ : St} {i : Nat} {o : Option V} : ∀ {js : List Nat}, i ∈ js → wipe (σ.set i o) js = wipe σ js
  | [], h => nomatch h
  | j :: js, h => by
    unfold wipe
    by_cases hi : i ∈ js
    · rw [wipe_at hi]
    · have e : i = j := by
        rcases List.mem_cons.mp h with h | h
        · exact h
        · exact absurd h hi
      subst e
      have q : ∀ (js : List Nat), i ∉ js → wipe (σ.set i o) js = (wipe σ js).set i o := by
        intro js
        induction js with
        | nil => intro _; rfl
        | cons m js ih =>
          intro h
          unfold wipe
          rw [ih (fun z => h (List.mem_cons_of_mem _ z)), set_comm _ _ _ (fun z => h (by rw [z]; exact List.mem_cons_self))]
      rw [q js hi]
      exact List.set_set _
theorem tg_name {i : Nat} {js : List Nat} (h : i ∈ js) : Tg (gName i) js := fun v σ H Q q => ⟨wipe_at h, q⟩
theorem tgs_nil {js : List Nat} : Tgs gNil js := fun vs σ H Q ⟨e, q⟩ => ⟨e, rfl, q⟩
theorem tgs_cons {g : TG} {gs : TGs} {js : List Nat} (h : Tg g js) (hs : Tgs gs js) (m : ∀ v σ H (Q Q' : St → Hp → Prop), (∀ σ H, Q σ H → Q' σ H) → g v σ H Q → g v σ H Q') (ms : ∀ v σ H (Q Q' : St → Hp → Prop), (∀ σ H, Q σ H → Q' σ H) → gs v σ H Q → gs v σ H Q') : Tgs (gCons g gs) js := fun vs σ H Q ⟨v, r, e, q⟩ =>
  ⟨v, r, e, m _ _ _ _ _ (fun σ1 H1 ⟨e1, q1⟩ => ms _ _ _ _ _ (fun σ2 H2 ⟨e2, q2⟩ => ⟨e2.trans e1, q2⟩) (hs _ _ _ _ q1)) (h _ _ _ _ q)⟩
def MoG (g : TG) : Prop := ∀ v σ H (Q Q' : St → Hp → Prop), (∀ σ H, Q σ H → Q' σ H) → g v σ H Q → g v σ H Q'
def MoGs (g : TGs) : Prop := ∀ v σ H (Q Q' : St → Hp → Prop), (∀ σ H, Q σ H → Q' σ H) → g v σ H Q → g v σ H Q'
theorem mo_name {i : Nat} : MoG (gName i) := fun _ _ _ _ _ m q => m _ _ q
theorem mos_nil : MoGs gNil := fun _ _ _ _ _ m ⟨e, q⟩ => ⟨e, m _ _ q⟩
theorem mos_cons {g : TG} {gs : TGs} (h : MoG g) (hs : MoGs gs) : MoGs (gCons g gs) := fun _ _ _ _ _ m ⟨v, r, e, q⟩ => ⟨v, r, e, h _ _ _ _ _ (fun _ _ q => hs _ _ _ _ _ m q) q⟩
theorem mo_tup {K : PySem.W.Frag} {n : Nat} {gs : TGs} (h : MoGs gs) : MoG (gTup K n gs) := fun _ _ _ _ _ m ⟨a, xs, e, s, l, q⟩ => ⟨a, xs, e, s, l, h _ _ _ _ _ m q⟩
theorem tgs_cons' {g : TG} {gs : TGs} {js : List Nat} (h : Tg g js ∧ MoG g) (hs : Tgs gs js ∧ MoGs gs) : Tgs (gCons g gs) js ∧ MoGs (gCons g gs) := ⟨tgs_cons h.1 hs.1 h.2 hs.2, mos_cons h.2 hs.2⟩
theorem tgs_nil' {js : List Nat} : Tgs gNil js ∧ MoGs gNil := ⟨tgs_nil, mos_nil⟩
theorem tg_name' {i : Nat} {js : List Nat} (h : i ∈ js) : Tg (gName i) js ∧ MoG (gName i) := ⟨tg_name h, mo_name⟩
theorem tg_tup' {K : PySem.W.Frag} {n : Nat} {gs : TGs} {js : List Nat} (h : Tgs gs js ∧ MoGs gs) : Tg (gTup K n gs) js ∧ MoG (gTup K n gs) := ⟨fun _ _ _ _ ⟨a, xs, e, s, l, q⟩ => ⟨a, xs, e, s, l, h.1 _ _ _ _ q⟩, mo_tup h.2⟩

def wipeC (Γ : List Cell) : List Nat → List Cell
  | [] => Γ
  | v :: vs => (wipeC Γ vs).set v .no
section
variable {C : GCtx} {Y : YC} {e : En} {F F' : Hp} {σ : St} {H H' : Hp} {Γ : List Cell}
theorem State.len (s : State Y e F σ H Γ) : σ.length = Γ.length := let ⟨_, _, _, sl⟩ := s; sl.len
theorem State.wipe (s : State Y e F σ H Γ) : ∀ vs : List Nat, State Y e F (wipe σ vs) H (wipeC Γ vs)
  | [] => s
  | v :: vs => by
    have ih := State.wipe s vs
    unfold L2.wipe wipeC
    cases q : (wipeC Γ vs)[v]? with
    | some c => exact ih.forget q
    | none =>
      have h1 : (wipeC Γ vs).length ≤ v := List.getElem?_eq_none_iff.mp q
      have h2 : (L2.wipe σ vs).length ≤ v := by rw [ih.len]; exact h1
      rw [List.set_eq_of_length_le h1, List.set_eq_of_length_le h2]
      exact ih
theorem State.growL {L' : LO} (s : State Y e F σ H Γ) (g : Wk ⟨F, H, []⟩ F' L' H') : State Y e F' σ H' Γ := by
  obtain ⟨hx, L, k, sl⟩ := s
  have k2 := k.trans g
  have k3 : Wk e F' ([] ++ L' ++ L) H' := by simpa using k2
  exact ⟨hx, L, by simpa using k3.drop, sl.mono g.ff⟩
end

/-! ### comprehensions -/
section
variable {C : GCtx} {Y : YC} {Γ : List Cell} {te ta tb tc : TE} {t u tt : TT} {α β γ δ : Type} {d1 : Dat α} {d : Dat α} {d2 : Dat β} {k : Ks} {t1 t2 ts : TS} {g : TG}

def CompB (Y : YC) (g : TG) (tt : TT) (te : TE) {α β : Type} (d : Dat α) (d2 : Dat β) (kx : List β → Prop) (get : Nat → Option α) (n : Nat) (Γ : List Cell) : Prop :=
  ∃ I : Nat → List β → Prop, I 0 [] ∧ (∀ i x ys, get i = some x → I i ys → A Y g Γ d x fun Γ2 => T Y tt Γ2 fun b => (b = true → W Y te Γ2 d2 fun y => ys.length < PySem.sizeLine ∧ I (i + 1) (ys ++ [y])) ∧ (b = false → I (i + 1) ys)) ∧ ∀ ys, I n ys → kx ys
/-- one turn -/
theorem comp_turn {e : En} {F1 : Hp} {σ : St} {H1 : Hp} {vs : List Nat} {D : Addr} {x : α} {v : V} {I I' : List β → Prop} (s1 : State Y e F1 σ H1 Γ) (hT : Tg g vs)
    (hs : ∀ ys, I ys → A Y g (wipeC Γ vs) d x fun Γ2 => T Y tt Γ2 fun b => (b = true → W Y te Γ2 d2 fun y => ys.length < PySem.sizeLine ∧ I' (ys ++ [y])) ∧ (b = false → I' ys)) (rx : ∀ F', Same F1 F' → d.rep Y.g F' v x) {H : Hp}
    (h : ∃ F' acc ys, Wk ⟨F1, H1, []⟩ F' [(D, .lst acc)] H ∧ Reps d2 Y.g F' acc ys ∧ I ys) :
    g v (wipe σ vs) H fun σ2 H2 => wipe σ2 vs = wipe σ vs ∧ tt σ2 H2 fun b H3 =>
      if b = true then te σ2 H3 fun y H4 => ∃ acc, H4 D = some (.lst acc) ∧ acc.length < PySem.sizeLine ∧ (∃ F' acc' ys, Wk ⟨F1, H1, []⟩ F' [(D, .lst acc')] (upd H4 D (.lst (acc ++ [y]))) ∧ Reps d2 Y.g F' acc' ys ∧ I' ys) else (∃ F' acc ys, Wk ⟨F1, H1, []⟩ F' [(D, .lst acc)] H3 ∧ Reps d2 Y.g F' acc ys ∧ I' ys) := by
  obtain ⟨F', acc, ys, kw, r, hi⟩ := h
  have st := (s1.growL kw).wipe vs
  have ww : ∀ σ0 : St, wipe (wipe σ0 vs) vs = wipe σ0 vs := by
    intro σ0
    have : ∀ (l : List Nat) (σ1 : St), (∀ j ∈ l, (σ1[j]? = none ∨ σ1[j]? = some none)) → wipe σ1 l = σ1 := by
      intro l
      induction l with
      | nil => intro _ _; rfl
      | cons j l ih =>
        intro σ1 hj
        unfold wipe
        rw [ih σ1 fun m hm => hj m (List.mem_cons_of_mem _ hm)]
        apply List.ext_getElem?
        intro m
        rw [List.getElem?_set]
        by_cases hm : j = m
        · subst hm
          rcases hj j List.mem_cons_self with z | z
          · rw [z, if_pos rfl, if_neg (Nat.not_lt.mpr (List.getElem?_eq_none_iff.mp z))]
          · rw [z, if_pos rfl, if_pos (List.getElem?_eq_some_iff.mp z).1]
        · rw [if_neg hm]
    refine this vs _ fun j hj => ?_
    cases q : (wipe σ0 vs)[j]? with
    | none => exact .inl rfl
    | some o =>
      cases o with
      | none => exact .inr rfl
      | some y => exact absurd hj (wipe_some q).2
  have key := hs ys hi e F' _ H v st (rx F' kw.ff) (fun σ2 H2 => tt σ2 H2 fun b H3 =>
      if b = true then te σ2 H3 fun y H4 => ∃ acc, H4 D = some (.lst acc) ∧ acc.length < PySem.sizeLine ∧ (∃ F' acc' ys, Wk ⟨F1, H1, []⟩ F' [(D, .lst acc')] (upd H4 D (.lst (acc ++ [y]))) ∧ Reps d2 Y.g F' acc' ys ∧ I' ys) else (∃ F' acc ys, Wk ⟨F1, H1, []⟩ F' [(D, .lst acc)] H3 ∧ Reps d2 Y.g F' acc ys ∧ I' ys)) fun σ2 Γ2 h2 st2 => by
    refine h2 e F' σ2 H st2 _ fun b F3 H3 kb g3 => ?_
    have kw3 := kw.trans0 g3
    cases b with
    | false => exact ⟨F3, acc, ys, kw3, r.mono g3.ff, kb.2 rfl⟩
    | true =>
      refine kb.1 rfl e F3 σ2 H3 (st2.grow g3) _ fun y F4 H4 yv ⟨hl, ky⟩ g4 ry => ?_
      have kw4 := kw3.trans0 g4
      have hD : H4 D = some (.lst acc) := (kw4.ow (D, .lst acc) (by simp)).2.1
      exact ⟨acc, hD, by rw [r.len]; exact hl, F4, acc ++ [y], ys ++ [yv], kw4.put (fun _ z => by cases z), (r.mono (g3.ff.trans g4.ff)).append (Reps.one ry), ky⟩
  have key2 := hT v _ H _ key
  rw [ww] at key2
  exact key2
theorem o_lcR {vs : List Nat} {kx : List β → Prop} (hT : Tg g vs ∧ MoG g) (h : R Y ta Γ dInt fun n => -(2 ^ 62) ≤ n ∧ n < 2 ^ 62 ∧ CompB Y g tt te dInt d2 kx (rng 0 n.toNat) n.toNat (wipeC Γ vs)) : O Y (tLc (iRng1 (tCons ta tNil)) g tt te vs) Γ (oList (d := d2)) kx := fun e F σ H s Q q => h e F σ H s _ fun v F1 H1 n ⟨l1, l2, I, h0, hs, hd⟩ g1 r1 => by
  cases (show v = .int n from r1)
  refine ⟨n, rfl, l1, l2, fun D hD => ?_⟩
  have kw0 : Wk ⟨F1, H1, []⟩ F1 [(D, .lst [])] (upd H1 D (.lst [])) := g1.base.own hD (fun _ z => by cases z)
  refine lc_range (lo := 0) (n := n.toNat) (fun i H => ∃ F' acc ys, Wk ⟨F1, H1, []⟩ F' [(D, .lst acc)] H ∧ Reps d2 Y.g F' acc ys ∧ I i ys) ⟨F1, [], [], kw0, trivial, h0⟩ (fun i H hw p => ?_) fun H ⟨F', acc, ys, kw, ra, hi⟩ => ?_
  · exact comp_turn (d := dInt) (s.grow g1) hT.1 (hs i (0 + i) · (by unfold rng; rw [if_pos hw])) (fun F' sm => rfl) p
  · exact q _ F' H _ ys (hd ys hi) (by simpa using g1.trans kw) ⟨D, acc, rfl, rfl, ra⟩
/-- no test -/
theorem t_yes {kb : Bool → Prop} (h : kb true) : T Y tYes Γ kb := fun e F σ H s Q q => q true F H h s.base
theorem getElem?_filterTake {α : Type} (p : α → Bool) (xs : List α) {i : Nat} {x : α} (h : xs[i]? = some x) : (xs.take (i + 1)).filter p = (xs.take i).filter p ++ (if p x then [x] else []) := by
  rw [List.take_add_one, h, List.filter_append]
  congr 1
  cases hp : p x <;> simp [hp]
def rngL (lo : Int) (n : Nat) : List Int := (List.range n).map fun i : Nat => lo + (i : Int)
theorem rng_get (lo : Int) (n i : Nat) : rng lo n i = (rngL lo n)[i]? := by
  unfold rng rngL
  rw [List.getElem?_map]
  by_cases h : i < n
  · rw [if_pos h, List.getElem?_range h]; rfl
  · rw [if_neg h, List.getElem?_eq_none (by simpa using h)]; rfl
theorem rngL_len (lo : Int) (n : Nat) : (rngL lo n).length = n := by simp [rngL]

/-! ### sorted -/
/-! ### isinstance -/
class Ty (α : Type) [d : Dat α] where
  tn : String
  ty : ∀ {C : GCtx} {H : Hp} {v : V} {x : α}, d.rep C H v x → TyX C.K H v (.type tn)
instance tyInt : Ty Int := ⟨"int", fun {C H v x} h => by cases (show v = .int x from h); exact .base (.int x)⟩
instance tyBool : Ty Bool := ⟨"bool", fun {C H v x} h => by cases (show v = .bl x from h); exact .base (.bl x)⟩
instance tyStr : Ty Str := ⟨"str", fun {C H v x} h => by cases (show v = .str x from h); exact .base (.str x)⟩
theorem ty_sql {K : PySem.W.Frag} {H : Hp} {a : Addr} {xs : List V} (h : SqL K H a xs) : TyX K H (.ref a) (.type "list") := by
  rcases h with (h | ⟨o, h⟩) | ⟨o, its, n, h, hc, _⟩
  · exact .base (.lst h)
  · exact .base (.frz h)
  · exact .kList h hc
theorem ty_tpa {K : PySem.W.Frag} {H : Hp} {a : Addr} {xs : List V} (h : TpA K H a xs) : TyX K H (.ref a) (.type "tuple") := by
  rcases h with h | (h | ⟨o, h⟩) | ⟨o, its, n, h, hc, _⟩
  · exact .base (.tup h)
  · cases h
  · cases h
  · exact .kTuple h hc
instance tyList {α : Type} [d : Dat α] : Ty (List α) := ⟨"list", fun ⟨a, vs, e, h, r⟩ => by subst e; exact ty_sql (.inl h)⟩
instance tyTup {α : Type} [d : Dat α] : Ty (Tup α) := ⟨"tuple", fun ⟨a, vs, e, h, r⟩ => by subst e; exact ty_tpa h⟩
instance tyPair {α β : Type} [d1 : Dat α] [d2 : Dat β] : Ty (α × β) := ⟨"tuple", fun ⟨a, _, _, e, h, _⟩ => by subst e; exact ty_tpa h⟩
instance tyT3 {α β γ : Type} [d1 : Dat α] [d2 : Dat β] [d3 : Dat γ] : Ty (T3 α β γ) := ⟨"tuple", fun ⟨a, _, _, _, e, h, _⟩ => by subst e; exact ty_tpa h⟩
instance tyT4 {α β γ δ : Type} [d1 : Dat α] [d2 : Dat β] [d3 : Dat γ] [d4 : Dat δ] : Ty (T4 α β γ δ) := ⟨"tuple", fun ⟨a, _, _, _, _, e, h, _⟩ => by subst e; exact ty_tpa h⟩
/-! ### equality of data -/
class DE (α : Type) [d : Dat α] where
  toD : α → PyData
  dep : Nat
  dp : ∀ {C : GCtx} {H : Hp} {v : V} {x : α}, d.rep C H v x → Dp C.K H v (toD x)
  lay : ∀ x, (toD x).plain = true
  deep : ∀ x, (toD x).depth ≤ dep
  eqv : ∀ x y, PyData.eqv (toD x) (toD y) = true ↔ x = y
instance deInt : DE Int := ⟨.int, 1, fun {C H v x} h => by cases (show v = .int x from h); exact .int x, fun _ => by simp [PyData.plain], fun _ => by simp [PyData.depth], fun x y => by simp [PyData.eqv]⟩
instance deStr : DE Str := ⟨.str, 1, fun {C H v x} h => by cases (show v = .str x from h); exact .str x, fun _ => by simp [PyData.plain], fun _ => by simp [PyData.depth], fun x y => by simp [PyData.eqv]⟩
instance deBool : DE Bool := ⟨.bool, 1, fun {C H v x} h => by cases (show v = .bl x from h); exact .bl x, fun _ => by simp [PyData.plain], fun _ => by simp [PyData.depth], fun x y => by simp [PyData.eqv]⟩
theorem dpAll_of [de : @DE α d] {H : Hp} : ∀ {vs : List V} {xs : List α}, Reps d C H vs xs → DpAll C.K H vs (xs.map de.toD)
  | [], [], _ => .nil
  | _ :: _, _ :: _, h => .cons (de.dp h.1) (dpAll_of h.2)
  | [], _ :: _, h => h.elim
  | _ :: _, [], h => h.elim
theorem eqvAll_of [de : @DE α d] : ∀ xs ys : List α, PyData.eqvAll (xs.map de.toD) (ys.map de.toD) = true ↔ xs = ys
  | [], [] => by simp [PyData.eqvAll]
  | x :: xs, y :: ys => by simp [PyData.eqvAll, de.eqv, eqvAll_of xs ys]
  | [], _ :: _ => by simp [PyData.eqvAll]
  | _ :: _, [] => by simp [PyData.eqvAll]
theorem layAll_of [de : @DE α d] : ∀ xs : List α, PyData.plainAll (xs.map de.toD) = true
  | [] => by simp [PyData.plainAll]
  | x :: xs => by simp [PyData.plainAll, de.lay, layAll_of xs]
theorem depAll_of [de : @DE α d] : ∀ xs : List α, PyData.depthAll (xs.map de.toD) ≤ de.dep
  | [] => by simp [PyData.depthAll]
  | x :: xs => by
    simp only [List.map_cons, PyData.depthAll]
    exact Nat.max_le.mpr ⟨de.deep x, depAll_of xs⟩
instance deList [de : @DE α d] : @DE (List α) dList :=
  ⟨fun xs => .list (xs.map de.toD), de.dep + 1, fun ⟨a, vs, e, h, r⟩ => by subst e; exact .lst h (dpAll_of r), fun xs => by simp [PyData.plain, layAll_of], fun xs => by simp [PyData.depth, depAll_of], fun xs ys => by simp [PyData.eqv, eqvAll_of]⟩
instance deTup [de : @DE α d] : @DE (Tup α) dTup :=
  ⟨fun xs => .tuple (xs.l.map de.toD), de.dep + 1, fun ⟨a, vs, e, h, r⟩ => by subst e; exact .tup h.sq (dpAll_of r), fun xs => by simp [PyData.plain, layAll_of], fun xs => by simp [PyData.depth, depAll_of], fun xs ys => by
    obtain ⟨xs⟩ := xs
    obtain ⟨ys⟩ := ys
    simp [PyData.eqv, eqvAll_of]⟩
instance dePair {α β : Type} {d1 : Dat α} {d2 : Dat β} [de1 : @DE α d1] [de2 : @DE β d2] : @DE (α × β) dPair :=
  ⟨fun x => .tuple [de1.toD x.1, de2.toD x.2], max de1.dep de2.dep + 1, fun ⟨a, v1, v2, e, h, r1, r2⟩ => by subst e; exact .tup h.sq (.cons (de1.dp r1) (.cons (de2.dp r2) .nil)), fun x => by simp [PyData.plain, PyData.plainAll, de1.lay, de2.lay],
    fun x => by have h1 := de1.deep x.1; have h2 := de2.deep x.2; simp [PyData.depth, PyData.depthAll]; omega, fun x y => by
    obtain ⟨x1, x2⟩ := x
    obtain ⟨y1, y2⟩ := y
    simp [PyData.eqv, PyData.eqvAll, de1.eqv, de2.eqv]⟩
instance deT3 {α β γ : Type} {d1 : Dat α} {d2 : Dat β} {d3 : Dat γ} [de1 : @DE α d1] [de2 : @DE β d2] [de3 : @DE γ d3] : @DE (T3 α β γ) dT3 :=
  ⟨fun x => .tuple [de1.toD x.a, de2.toD x.b, de3.toD x.c], max de1.dep (max de2.dep de3.dep) + 1, fun ⟨a, v1, v2, v3, e, h, r1, r2, r3⟩ => by subst e; exact .tup h.sq (.cons (de1.dp r1) (.cons (de2.dp r2) (.cons (de3.dp r3) .nil))), fun x => by simp [PyData.plain, PyData.plainAll, de1.lay, de2.lay, de3.lay],
    fun x => by have h1 := de1.deep x.a; have h2 := de2.deep x.b; have h3 := de3.deep x.c; simp [PyData.depth, PyData.depthAll]; omega, fun x y => by
    obtain ⟨x1, x2, x3⟩ := x
    obtain ⟨y1, y2, y3⟩ := y
    simp [PyData.eqv, PyData.eqvAll, de1.eqv, de2.eqv, de3.eqv]⟩
instance deT4 {α β γ δ : Type} {d1 : Dat α} {d2 : Dat β} {d3 : Dat γ} {d4 : Dat δ} [de1 : @DE α d1] [de2 : @DE β d2] [de3 : @DE γ d3] [de4 : @DE δ d4] : @DE (T4 α β γ δ) dT4 :=
  ⟨fun x => .tuple [de1.toD x.a, de2.toD x.b, de3.toD x.c, de4.toD x.d], max de1.dep (max de2.dep (max de3.dep de4.dep)) + 1, fun ⟨a, v1, v2, v3, v4, e, h, r1, r2, r3, r4⟩ => by subst e; exact .tup h.sq (.cons (de1.dp r1) (.cons (de2.dp r2) (.cons (de3.dp r3) (.cons (de4.dp r4) .nil)))), fun x => by simp [PyData.plain, PyData.plainAll, de1.lay, de2.lay, de3.lay, de4.lay],
    fun x => by have h1 := de1.deep x.a; have h2 := de2.deep x.b; have h3 := de3.deep x.c; have h4 := de4.deep x.d; simp [PyData.depth, PyData.depthAll]; omega, fun x y => by
    obtain ⟨x1, x2, x3, x4⟩ := x
    obtain ⟨y1, y2, y3, y4⟩ := y
    simp [PyData.eqv, PyData.eqvAll, de1.eqv, de2.eqv, de3.eqv, de4.eqv]⟩
/-! ### sets of ints -/
structure IS where
  l : List Int
def SetOk (S : Int → Bool) (n : Nat) (s : IS) : Prop := (∀ k, S k = decide (k ∈ s.l)) ∧ n = s.l.length
instance dSet : Dat IS := ⟨fun C F v s => ∃ a S n, v = .ref a ∧ F a = some (SetO C.w a S n) ∧ SetOk S n s, fun m ⟨a, S, n, e, h, o⟩ => ⟨a, S, n, e, m _ _ h, o⟩⟩
instance oSet : OD IS where
  orep C F v s L := ∃ a S n, v = .ref a ∧ L = [(a, SetO C.w a S n)] ∧ SetOk S n s
  omono m := fun h => h
  view := fun ⟨a, S, n, e, h, o⟩ m k => ⟨a, S, n, e, k (a, SetO _ a S n) (by rw [h]; exact List.mem_cons_self), o⟩
/-! ### dicts by ints -/
structure DI (β : Type) where
  kv : List (Int × β)
def KReps {β : Type} (d : Dat β) (C : GCtx) (F : Hp) : List (Key × V) → List (Int × β) → Prop
  | [], [] => True
  | p :: ps, x :: xs => p.1 = Sum.inl x.1 ∧ d.rep C F p.2 x.2 ∧ KReps d C F ps xs
  | _, _ => False
section
variable {F F' : Hp}
theorem KReps.mono (s : Same F F') : ∀ {ps : List (Key × V)} {xs : List (Int × α)}, KReps d C F ps xs → KReps d C F' ps xs
  | [], [], _ => trivial
  | _ :: _, _ :: _, h => ⟨h.1, d.mono s h.2.1, KReps.mono s h.2.2⟩
  | [], _ :: _, h => h.elim
  | _ :: _, [], h => h.elim
theorem KReps.len : ∀ {ps : List (Key × V)} {xs : List (Int × α)}, KReps d C F ps xs → ps.length = xs.length
  | [], [], _ => rfl
  | _ :: _, _ :: _, h => by simp [KReps.len h.2.2]
  | [], _ :: _, h => h.elim
  | _ :: _, [], h => h.elim
theorem valV_cons {κ : Type} [DecidableEq κ] (p : κ × V) (ps : List (κ × V)) (k : κ) : valV (p :: ps) k = if p.1 = k then some p.2 else valV ps k := by
  unfold valV
  by_cases h : p.1 = k
  · rw [List.find?_cons_of_pos (by simp [h]), if_pos h]; rfl
  · rw [List.find?_cons_of_neg (by simp [h]), if_neg h]
theorem lookup_cons' {β : Type} (x : Int × β) (xs : List (Int × β)) (k : Int) : (x :: xs).lookup k = if x.1 = k then some x.2 else xs.lookup k := by
  obtain ⟨a, b⟩ := x
  rw [List.lookup_cons]
  by_cases h : a = k
  · subst h; simp
  · have : (k == a) = false := by simp; exact fun z => h z.symm
    rw [this]; simp [h]
theorem KReps.look : ∀ {ps : List (Key × V)} {xs : List (Int × α)} (k : Int), KReps d C F ps xs → (∀ x, xs.lookup k = some x → ∃ v, valV ps (Sum.inl k) = some v ∧ d.rep C F v x) ∧ (xs.lookup k = none → valV ps (Sum.inl k : Key) = none)
  | [], [], k, _ => ⟨fun _ h => (nomatch h), fun _ => rfl⟩
  | p :: ps, x :: xs, k, h => by
    rw [valV_cons, lookup_cons', h.1]
    by_cases hk : x.1 = k
    · rw [if_pos hk, if_pos (by rw [hk])]
      exact ⟨fun y e => ⟨p.2, rfl, by cases e; exact h.2.1⟩, fun z => (nomatch z)⟩
    · rw [if_neg hk, if_neg (fun z => hk (Sum.inl.inj z))]
      exact KReps.look k h.2.2
  | [], _ :: _, _, h => h.elim
  | _ :: _, [], _, h => h.elim
end
/-- d[k] = v on pairs -/
def putI {β : Type} (kv : List (Int × β)) (k : Int) (v : β) : List (Int × β) := if (kv.lookup k).isSome then kv.map (fun p => if p.1 = k then (k, v) else p) else kv ++ [(k, v)]
instance dDI {α : Type} [d : Dat α] : Dat (DI α) := ⟨fun C F v x => ∃ a ps, v = .ref a ∧ F a = some (.dK ps) ∧ KReps d C F ps x.kv, fun m ⟨a, ps, e, h, r⟩ => ⟨a, ps, e, m _ _ h, r.mono m⟩⟩
instance oDI {α : Type} [d : Dat α] : OD (DI α) where
  orep C F v x L := ∃ a ps, v = .ref a ∧ L = [(a, .dK ps)] ∧ KReps d C F ps x.kv
  omono m := fun ⟨a, ps, e, h, r⟩ => ⟨a, ps, e, h, r.mono m⟩
  view := fun ⟨a, ps, e, h, r⟩ m k => ⟨a, ps, e, k (a, .dK ps) (by rw [h]; exact List.mem_cons_self), r.mono m⟩
end
end G

section
set_option maxHeartbeats 2000000
/-! G5: lists or tuples; sorted of both; data owned within data. -/
namespace SrtO
open PySem PyProof.Rows Srt
section
variable {prog : Program} {w : World} {A : Around} {E : Value → Shared → Prop} {s : Shared}
end
end SrtO
namespace L2
open PySem PySem.Spec PyProof.Rows
section
variable {X : Cx}
/-- a new record that walks: the iterator's own object, just laid -/
theorem born {pins : List (Addr × Obj)} {σ : St} {H : Hp} {s : Shared} {R : It → Hp → Prop} {tg : Expr} {J : It} {tn : Nat → Heap → Prop} {ob : Obj} (I : Inv X pins σ H s) (T : Turn X.prog X.w X.K tg J [s.heap.objs.size] s.heap.objs.size tn) (t0 : tn 0 (s.heap.push ob)) (q : R J H) :
    PIE X pins σ tg R (.ref s.heap.objs.size) { s with heap := s.heap.push ob } :=
  ⟨_, _, _, _, H, rfl, I.kept (t' := s.toks) (fun _ _ z => Heap.get?_push_of_some _ z), T, t0, fun b hb => by
    cases List.mem_singleton.mp hb
    exact I.fpOk (Nat.le_refl _) (I.hok.fresh (Nat.le_refl _)), q⟩
end
end L2
namespace G
open PySem L2
/-! ### a list or a tuple, its items alike -/
structure Sq (α : Type) where
  l : List α
  deriving DecidableEq
instance dSq {α : Type} [d : Dat α] : Dat (Sq α) :=
  ⟨fun C F v xs => ∃ a vs, v = .ref a ∧ (SqL C.K F a vs ∨ TpA C.K F a vs) ∧ Reps d C F vs xs.l, fun s ⟨a, vs, e, h, r⟩ => ⟨a, vs, e, h.imp s.seq (·.mono s), r.mono s⟩⟩
section
variable {C : GCtx} {Y : YC} {Γ : List Cell} {te ta tb tc : TE} {t u tt : TT} {α β γ δ : Type} {d1 : Dat α} {d : Dat α} {d2 : Dat β} {k : Ks} {t1 t2 ts : TS} {g : TG}
theorem w_lenQ {k : Int → Prop} (h : R Y ta Γ (dSq (d := d)) fun xs => k (xs.l.length : Int)) : W Y (tCB (fun xs H Q => ∃ p ys, xs = [.ref p] ∧ (SqL Y.K H p ys ∨ SqT Y.K H p ys) ∧ Q (.int ys.length) H) (tCons ta tNil)) Γ dInt k := fun e F σ H s Q q => h e F σ H s _ fun v F' H' x kx g ⟨a, vs, e1, h1, r⟩ => by
  subst e1
  exact ⟨a, vs, rfl, h1.imp id (·.sq), q _ F' H' _ (by rw [r.len]; exact kx) g rfl⟩
/-! ### lists owned within lists, within dicts -/
/-- each item owned: their values, their footprints one behind the other -/
def OReps {α : Type} {d : Dat α} (od : OD α) (C : GCtx) (F : Hp) : List V → List α → LO → Prop
  | [], [], L => L = []
  | v :: vs, x :: xs, L => ∃ L1 L2, L = L1 ++ L2 ∧ od.orep C F v x L1 ∧ OReps od C F vs xs L2
  | _, _, _ => False
theorem OReps.mono {od : @OD α d} {F F' : Hp} (s : Same F F') : ∀ {vs : List V} {xs : List α} {L : LO}, OReps od C F vs xs L → OReps od C F' vs xs L
  | [], [], _, h => h
  | _ :: _, _ :: _, _, ⟨L1, L2, e, h1, h2⟩ => ⟨L1, L2, e, od.omono s h1, OReps.mono s h2⟩
  | [], _ :: _, _, h => h.elim
  | _ :: _, [], _, h => h.elim
theorem OReps.view {od : @OD α d} {F H : Hp} (s : Same F H) : ∀ {vs : List V} {xs : List α} {L : LO}, OReps od C F vs xs L → (∀ p ∈ L, H p.1 = some p.2) → Reps d C H vs xs
  | [], [], _, _, _ => trivial
  | _ :: _, _ :: _, _, ⟨L1, L2, e, h1, h2⟩, k => ⟨od.view h1 s fun p hp => k p (by rw [e]; exact List.mem_append_left _ hp), OReps.view s h2 fun p hp => k p (by rw [e]; exact List.mem_append_right _ hp)⟩
  | [], _ :: _, _, h, _ => h.elim
  | _ :: _, [], _, h, _ => h.elim
theorem OReps.len {od : @OD α d} {F : Hp} : ∀ {vs : List V} {xs : List α} {L : LO}, OReps od C F vs xs L → vs.length = xs.length
  | [], [], _, _ => rfl
  | _ :: _, _ :: _, _, ⟨_, _, _, _, h2⟩ => by simp [OReps.len h2]
  | [], _ :: _, _, h => h.elim
  | _ :: _, [], _, h => h.elim
theorem OReps.append {od : @OD α d} {F : Hp} {ws : List V} {ys : List α} {M : LO} : ∀ {vs : List V} {xs : List α} {L : LO}, OReps od C F vs xs L → OReps od C F ws ys M → OReps od C F (vs ++ ws) (xs ++ ys) (L ++ M)
  | [], [], _, h, g => by cases (show _ = [] from h); exact g
  | _ :: _, _ :: _, _, ⟨L1, L2, e, h1, h2⟩, g => ⟨L1, L2 ++ M, by rw [e, List.append_assoc], h1, OReps.append h2 g⟩
  | [], _ :: _, _, h, _ => h.elim
  | _ :: _, [], _, h, _ => h.elim
theorem OReps.one {od : @OD α d} {F : Hp} {v : V} {x : α} {L : LO} (h : od.orep C F v x L) : OReps od C F [v] [x] L := ⟨L, [], by simp, h, rfl⟩
theorem OReps.at {od : @OD α d} {F : Hp} : ∀ {vs : List V} {xs : List α} {L : LO} {i : Nat} {x : α}, OReps od C F vs xs L → xs[i]? = some x → ∃ v L1 Li L2, vs[i]? = some v ∧ L = L1 ++ Li ++ L2 ∧ od.orep C F v x Li ∧ ∀ x' Li', od.orep C F v x' Li' → OReps od C F vs (xs.set i x') (L1 ++ Li' ++ L2)
  | [], [], _, i, _, _, e => by cases i <;> cases e
  | v :: vs, y :: xs, L, 0, x, ⟨L1, L2, e, h1, h2⟩, hx => by
    cases (Option.some.inj hx : y = x)
    exact ⟨v, [], L1, L2, rfl, by simpa using e, h1, fun x' Li' h => ⟨Li', L2, by simp, h, h2⟩⟩
  | v :: vs, y :: xs, L, i + 1, x, ⟨L1, L2, e, h1, h2⟩, hx => by
    obtain ⟨w, M1, Mi, M2, e1, e2, h3, f⟩ := OReps.at (i := i) h2 hx
    exact ⟨w, L1 ++ M1, Mi, M2, e1, by rw [e, e2]; simp [List.append_assoc], h3, fun x' Li' h => ⟨L1, M1 ++ Li' ++ M2, by simp [List.append_assoc], h1, f x' Li' h⟩⟩
  | [], _ :: _, _, _, _, h, _ => h.elim
  | _ :: _, [], _, _, _, h, _ => h.elim
/-- a list that owns its items -/
@[reducible] def oDeep {α : Type} {d : Dat α} (od : OD α) : @OD (List α) dList where
  orep C F v xs L := ∃ a vs L', v = .ref a ∧ L = (a, .lst vs) :: L' ∧ OReps od C F vs xs L'
  omono s := fun ⟨a, vs, L', e, h, r⟩ => ⟨a, vs, L', e, h, r.mono s⟩
  view := fun ⟨a, vs, L', e, h, r⟩ s k => ⟨a, vs, e, .inl (k (a, .lst vs) (by rw [h]; exact List.mem_cons_self)), r.view s fun p hp => k p (by rw [h]; exact List.mem_cons_of_mem _ hp)⟩
instance mDeep {α : Type} [d : Dat α] {od : OD α} [i : OIm α od] : OIm (List α) (oDeep od) := ⟨fun {C F H v xs L} t ⟨a, vs, L', e, h, r⟩ => ⟨a, vs, L', e, h, by
  have go : ∀ {vs : List V} {xs : List α} {L : LO}, OReps od C H vs xs L → OReps od C F vs xs L := by
    intro vs xs L h
    induction vs generalizing xs L with
    | nil => cases xs with
      | nil => exact h
      | cons _ _ => exact h.elim
    | cons v vs ih => cases xs with
      | nil => exact h.elim
      | cons x xs => obtain ⟨L1, L2, e, h1, h2⟩ := h; exact ⟨L1, L2, e, i.oimm t h1, ih h2⟩
  exact go r⟩⟩
/-- each value owned -/
def OKReps {β : Type} {d : Dat β} (od : OD β) (C : GCtx) (F : Hp) : List (Key × V) → List (Int × β) → LO → Prop
  | [], [], L => L = []
  | p :: ps, x :: xs, L => ∃ L1 L2, L = L1 ++ L2 ∧ p.1 = Sum.inl x.1 ∧ od.orep C F p.2 x.2 L1 ∧ OKReps od C F ps xs L2
  | _, _, _ => False
theorem OKReps.mono {od : @OD α d} {F F' : Hp} (s : Same F F') : ∀ {ps : List (Key × V)} {xs : List (Int × α)} {L : LO}, OKReps od C F ps xs L → OKReps od C F' ps xs L
  | [], [], _, h => h
  | _ :: _, _ :: _, _, ⟨L1, L2, e, hk, h1, h2⟩ => ⟨L1, L2, e, hk, od.omono s h1, OKReps.mono s h2⟩
  | [], _ :: _, _, h => h.elim
  | _ :: _, [], _, h => h.elim
theorem OKReps.view {od : @OD α d} {F H : Hp} (s : Same F H) : ∀ {ps : List (Key × V)} {xs : List (Int × α)} {L : LO}, OKReps od C F ps xs L → (∀ p ∈ L, H p.1 = some p.2) → KReps d C H ps xs
  | [], [], _, _, _ => trivial
  | _ :: _, _ :: _, _, ⟨L1, L2, e, hk, h1, h2⟩, k => ⟨hk, od.view h1 s fun p hp => k p (by rw [e]; exact List.mem_append_left _ hp), OKReps.view s h2 fun p hp => k p (by rw [e]; exact List.mem_append_right _ hp)⟩
  | [], _ :: _, _, h, _ => h.elim
  | _ :: _, [], _, h, _ => h.elim
theorem OKReps.append {od : @OD α d} {F : Hp} {ws : List (Key × V)} {ys : List (Int × α)} {M : LO} : ∀ {vs : List (Key × V)} {xs : List (Int × α)} {L : LO}, OKReps od C F vs xs L → OKReps od C F ws ys M → OKReps od C F (vs ++ ws) (xs ++ ys) (L ++ M)
  | [], [], _, h, g => by cases (show _ = [] from h); exact g
  | _ :: _, _ :: _, _, ⟨L1, L2, e, hk, h1, h2⟩, g => ⟨L1, L2 ++ M, by rw [e, List.append_assoc], hk, h1, OKReps.append h2 g⟩
  | [], _ :: _, _, h, _ => h.elim
  | _ :: _, [], _, h, _ => h.elim
/-- xs at k becomes x' (the first pair with that key) -/
def setI {β : Type} : List (Int × β) → Int → β → List (Int × β)
  | [], _, _ => []
  | p :: ps, k, x => if p.1 = k then (p.1, x) :: ps else p :: setI ps k x
theorem OKReps.at {od : @OD α d} {F : Hp} : ∀ {ps : List (Key × V)} {xs : List (Int × α)} {L : LO} {i : Int} {x : α}, OKReps od C F ps xs L → xs.lookup i = some x → ∃ v L1 Li L2, valV ps (Sum.inl i) = some v ∧ L = L1 ++ Li ++ L2 ∧ od.orep C F v x Li ∧ ∀ x' Li', od.orep C F v x' Li' → OKReps od C F ps (setI xs i x') (L1 ++ Li' ++ L2)
  | [], [], _, i, _, _, e => by cases e
  | p :: vs, y :: xs, L, i, x, ⟨L1, L2, e, hk, h1, h2⟩, hx => by
    rw [lookup_cons'] at hx
    rw [valV_cons, hk]
    unfold setI
    by_cases hi : y.1 = i
    · rw [if_pos hi] at hx
      cases (Option.some.inj hx : y.2 = x)
      refine ⟨p.2, [], L1, L2, by rw [if_pos (by rw [hi])], by simpa using e, h1, fun x' Li' h => ?_⟩
      rw [if_pos hi]
      exact ⟨Li', L2, by simp, hk, h, h2⟩
    · rw [if_neg hi] at hx
      simp only [if_neg hi]
      obtain ⟨w, M1, Mi, M2, e1, e2, h3, f⟩ := OKReps.at (i := i) h2 hx
      exact ⟨w, L1 ++ M1, Mi, M2, by rw [if_neg (fun z => hi (Sum.inl.inj z)), e1], by rw [e, e2]; simp [List.append_assoc], h3, fun x' Li' h => ⟨L1, M1 ++ Li' ++ M2, by simp [List.append_assoc], hk, h1, f x' Li' h⟩⟩
  | [], _ :: _, _, _, _, h, _ => h.elim
  | _ :: _, [], _, _, _, h, _ => h.elim
/-- a dict that owns its values -/
@[reducible] def oDeepDI {β : Type} {d : Dat β} (od : OD β) : @OD (DI β) dDI where
  orep C F v x L := ∃ a ps L', v = .ref a ∧ L = (a, .dK ps) :: L' ∧ OKReps od C F ps x.kv L'
  omono s := fun ⟨a, vs, L', e, h, r⟩ => ⟨a, vs, L', e, h, r.mono s⟩
  view := fun ⟨a, ps, L', e, h, r⟩ s k => ⟨a, ps, e, k (a, .dK ps) (by rw [h]; exact List.mem_cons_self), r.view s fun p hp => k p (by rw [h]; exact List.mem_cons_of_mem _ hp)⟩
end
end G
end

/-! G6: small helps. -/
namespace G
open PySem L2
theorem atI_of {α : Type} {xs : List α} {i : Int} {x : α} (h0 : 0 ≤ i) (h : xs[i.toNat]? = some x) : atI xs i = some x := by
  obtain ⟨j, rfl⟩ : ∃ j : Nat, i = j := ⟨i.toNat, by omega⟩
  exact atI_nat h
theorem small1k {n : Nat} (h : n ≤ 100000) : n < PySem.sizeLine := Nat.lt_of_le_of_lt h (by decide)
theorem nodup_snoc {α : Type} {xs : List α} {x : α} (h : xs.Nodup) (hx : x ∉ xs) : (xs ++ [x]).Nodup :=
  List.nodup_append.mpr ⟨h, by simp, fun a ha b hb e => hx (by rw [List.mem_singleton] at hb; rw [← hb, ← e]; exact ha)⟩
theorem rng_some {lo : Int} {n i : Nat} {x : Int} (h : rng lo n i = some x) : i < n ∧ x = lo + i := by
  unfold rng at h
  split at h
  · next hi => exact ⟨hi, by cases h; rfl⟩
  · cases h

/-! ### dict comprehensions: new keys, owned values -/
section
variable {C : GCtx} {Y : YC} {Γ : List Cell} {te ta tb tc tk tv : TE} {t u tt : TT} {α β γ δ : Type} {d1 : Dat α} {d : Dat α} {d2 : Dat β} {k : Ks} {t1 t2 ts : TS} {g : TG}
theorem KReps_has {od : @OD β d2} {F : Hp} : ∀ {ps : List (Key × V)} {xs : List (Int × β)} {L : LO}, OKReps od C F ps xs L → ps.map (·.1) = xs.map fun p => (Sum.inl p.1 : Key)
  | [], [], _, _ => rfl
  | _ :: _, _ :: _, _, ⟨_, _, _, hk, _, h2⟩ => by simp [hk, KReps_has h2]
  | [], _ :: _, _, h => h.elim
  | _ :: _, [], _, h => h.elim
theorem OKReps.none {od : @OD β d2} {F : Hp} : ∀ {ps : List (Key × V)} {xs : List (Int × β)} {L : LO} {i : Int}, OKReps od C F ps xs L → xs.lookup i = none → valV ps (Sum.inl i : Key) = none
  | [], [], _, _, _, _ => rfl
  | p :: ps, x :: xs, _, i, ⟨_, _, _, hk, _, h2⟩, e => by
    rw [lookup_cons'] at e
    rw [valV_cons, hk]
    by_cases hi : x.1 = i
    · rw [if_pos hi] at e; cases e
    · rw [if_neg hi] at e
      rw [if_neg (fun z => hi (Sum.inl.inj z))]
      exact OKReps.none h2 e
  | [], _ :: _, _, _, h, _ => h.elim
  | _ :: _, [], _, _, h, _ => h.elim
theorem OKReps.len {od : @OD β d2} {F : Hp} {ps : List (Key × V)} {xs : List (Int × β)} {L : LO} (h : OKReps od C F ps xs L) : ps.length = xs.length := by
  have := congrArg List.length (KReps_has h)
  simpa using this
theorem wipe_wipe {vs : List Nat} (σ0 : St) : wipe (wipe σ0 vs) vs = wipe σ0 vs := by
  have : ∀ (l : List Nat) (σ1 : St), (∀ j ∈ l, (σ1[j]? = none ∨ σ1[j]? = some none)) → wipe σ1 l = σ1 := by
    intro l
    induction l with
    | nil => intro _ _; rfl
    | cons j l ih =>
      intro σ1 hj
      unfold wipe
      rw [ih σ1 fun m hm => hj m (List.mem_cons_of_mem _ hm)]
      apply List.ext_getElem?
      intro m
      rw [List.getElem?_set]
      by_cases hm : j = m
      · subst hm
        rcases hj j List.mem_cons_self with z | z
        · rw [z, if_pos rfl, if_neg (Nat.not_lt.mpr (List.getElem?_eq_none_iff.mp z))]
        · rw [z, if_pos rfl, if_pos (List.getElem?_eq_some_iff.mp z).1]
      · rw [if_neg hm]
  refine this vs _ fun j hj => ?_
  cases q : (wipe σ0 vs)[j]? with
  | none => exact .inl rfl
  | some o =>
    cases o with
    | none => exact .inr rfl
    | some y => exact absurd hj (wipe_some q).2
/-! ### lists that own lists -/
end
end G

/-! G7: what is owned, read as if it were frozen; comprehensions of owned items; the script. -/
namespace G
open PySem L2
section
variable {C : GCtx} {Y : YC} {Γ : List Cell} {te ta tb tc tk tv : TE} {t u tt : TT} {α β γ δ : Type} {d1 : Dat α} {d : Dat α} {d2 : Dat β} {k : Ks} {t1 t2 ts : TS} {g : TG}
theorem State.frzM {e : En} {F : Hp} {σ : St} {H : Hp} {od : @OD α d} {x : α} {i : Nat} {pin : Option V} (s : State Y e F σ H Γ) (h : Γ[i]? = some (.own d od pin x)) : ∃ e' F', Same F F' ∧ State (calm Y.g) e' F' σ H (Γ.set i (.val d x)) := by
  obtain ⟨_, L, k, sl⟩ := s
  obtain ⟨o, L1, Li, L2, e1, e2, ⟨v, rfl, hp, r⟩, f⟩ := sl.get h
  subst e2
  have kf := k.front
  have kb : Wk ⟨F, fun _ => none, []⟩ F (Li ++ (L1 ++ L2)) H := ⟨Same.refl _, fun _ _ _ z => (nomatch z), fun _ z => absurd rfl z, kf.fh, fun _ z _ => absurd rfl z, kf.tp, fun p hp => ⟨(kf.ow p hp).1, (kf.ow p hp).2.1, .inl rfl⟩, kf.nd⟩
  have ff : ∀ p ∈ Li, F p.1 = none := fun p hp => (kf.ow p (List.mem_append_left _ hp)).1
  have nd : (Li.map Prod.fst).Nodup := by
    have := kf.nd
    rw [List.map_append] at this
    exact (List.nodup_append.mp this).1
  have sm := same_plus ff nd
  have q := f (plus F Li) (some v) (.val d x) [] sm ⟨rfl, v, rfl, od.view r sm (plus_get ff nd)⟩
  have z : σ.set i (some v) = σ := by
    apply List.ext_getElem?
    intro j
    by_cases hj : i = j
    · subst hj
      obtain ⟨hlt, hv⟩ := List.getElem?_eq_some_iff.mp e1
      rw [List.getElem?_set_self hlt, e1]
    · rw [List.getElem?_set_ne hj]
  rw [z, List.append_nil] at q
  exact ⟨_, plus F Li, sm, fun _ _ _ _ _ _ z => z.elim, L1 ++ L2, kb.freeze fun p _ z => (nomatch z), q⟩
theorem w_borrow {od0 : @OD α d} {x : α} {pin : Option V} [m : @Imm β d2] {kx : β → Prop} (i : Nat) (hi : Γ[i]? = some (.own d od0 pin x)) (h : W (calm Y.g) te (Γ.set i (.val d x)) d2 kx) : W Y te Γ d2 kx := fun e F σ H s Q q => by
  obtain ⟨e', F1, sm, s1⟩ := s.frzM hi
  refine h e' F1 σ H s1 Q fun v F' H' y ky g r => ?_
  have g3 := fresh_gr s.base g
  exact q v _ H' y ky g3 (m.imm (fun a xs h => g3.tp a xs (g.fh _ _ h)) r)
theorem compO_turn {od : @OD β d2} {e : En} {F1 : Hp} {σ : St} {H1 : Hp} {vs : List Nat} {D : Addr} {x : α} {v : V} {I I' : List β → Prop} (s1 : State Y e F1 σ H1 Γ) (hT : Tg g vs)
    (hs : ∀ ys, I ys → A Y g (wipeC Γ vs) d x fun Γ2 => T Y tt Γ2 fun b => (b = true → O Y te Γ2 od fun y => ys.length < PySem.sizeLine ∧ I' (ys ++ [y])) ∧ (b = false → I' ys)) (rx : ∀ F', Same F1 F' → d.rep Y.g F' v x) {H : Hp}
    (h : ∃ F' acc ys L, Wk ⟨F1, H1, []⟩ F' ((D, .lst acc) :: L) H ∧ OReps od Y.g F' acc ys L ∧ I ys) :
    g v (wipe σ vs) H fun σ2 H2 => wipe σ2 vs = wipe σ vs ∧ tt σ2 H2 fun b H3 =>
      if b = true then te σ2 H3 fun y H4 => ∃ acc, H4 D = some (.lst acc) ∧ acc.length < PySem.sizeLine ∧ (∃ F' acc' ys L, Wk ⟨F1, H1, []⟩ F' ((D, .lst acc') :: L) (upd H4 D (.lst (acc ++ [y]))) ∧ OReps od Y.g F' acc' ys L ∧ I' ys) else (∃ F' acc ys L, Wk ⟨F1, H1, []⟩ F' ((D, .lst acc) :: L) H3 ∧ OReps od Y.g F' acc ys L ∧ I' ys) := by
  obtain ⟨F', acc, ys, L, kw, r, hi⟩ := h
  have st := (s1.growL kw).wipe vs
  have key := hs ys hi e F' _ H v st (rx F' kw.ff) (fun σ2 H2 => tt σ2 H2 fun b H3 =>
      if b = true then te σ2 H3 fun y H4 => ∃ acc, H4 D = some (.lst acc) ∧ acc.length < PySem.sizeLine ∧ (∃ F' acc' ys L, Wk ⟨F1, H1, []⟩ F' ((D, .lst acc') :: L) (upd H4 D (.lst (acc ++ [y]))) ∧ OReps od Y.g F' acc' ys L ∧ I' ys) else (∃ F' acc ys L, Wk ⟨F1, H1, []⟩ F' ((D, .lst acc) :: L) H3 ∧ OReps od Y.g F' acc ys L ∧ I' ys)) fun σ2 Γ2 h2 st2 => by
    refine h2 e F' σ2 H st2 _ fun b F3 H3 kb g3 => ?_
    have kw3 := kw.trans0 g3
    cases b with
    | false => exact ⟨F3, acc, ys, L, kw3, r.mono g3.ff, kb.2 rfl⟩
    | true =>
      refine kb.1 rfl e F3 σ2 H3 (st2.grow g3) _ fun y F4 H4 Ly yv ⟨hl, ky⟩ g4 ry => ?_
      have kw4 := kw3.trans g4
      have r4 := r.mono (g3.ff.trans g4.ff)
      have hD : H4 D = some (.lst acc) := (kw4.ow (D, .lst acc) (by simp)).2.1
      refine ⟨acc, hD, by rw [r.len]; exact hl, F4, acc ++ [y], ys ++ [yv], L ++ Ly, ?_, r4.append (OReps.one ry), ky⟩
      have k6 : Wk ⟨F1, H1, []⟩ F4 (Ly ++ [(D, .lst acc)] ++ L) H4 := by simpa [List.append_assoc] using kw4
      have k7 : Wk ⟨F1, H1, []⟩ F4 ((D, .lst (acc ++ [y])) :: (Ly ++ L)) _ := k6.front.put (o' := .lst (acc ++ [y])) (fun _ z => by cases z)
      refine k7.sub (fun p hp => ?_) ?_
      · simp only [List.mem_cons, List.mem_append] at hp ⊢
        rcases hp with h | h | h <;> simp [h]
      · exact (List.Perm.nodup_iff (List.Perm.map _ (List.Perm.cons _ List.perm_append_comm))).mp k7.nd
  have key2 := hT v _ H _ key
  rw [wipe_wipe] at key2
  exact key2
/-- the script, as the law takes it -/
theorem Fn.script {K : PySem.W.Frag} {P : Program} {w : World} {H : Hp} {a : Addr} {ns : List Int} (hS : SqL K H a (ns.map V.int)) : Fn ⟨P, w, K⟩ [.val (dSq (d := dInt)) ⟨ns⟩] (fun c => c = cv true) [.ref a] H (fun v _ => v = .bl true) :=
  ⟨H, ⟨Same.refl _, fun _ _ _ h => h, fun _ h => h, Same.refl _, fun _ _ h => h, fun _ _ h => h, fun _ h => (nomatch h), List.nodup_nil⟩, Slots.cons (L := []) ⟨rfl, .ref a, rfl, a, _, rfl, .inl hS, Reps.ofInts ns⟩ .nil, fun v F' H' c L e _ ok => by
    subst e
    obtain ⟨_, v', e', r⟩ := ok
    cases (Option.some.inj e')
    exact r⟩
end
end G

/-! G8: stores into dicts, slices, items that change their list, lists picked out of owned lists. -/
namespace G
open PySem L2
section
variable {C : GCtx} {Y : YC} {Γ : List Cell} {te ta tb tc tk tv : TE} {t u tt : TT} {α β γ δ : Type} {d1 : Dat α} {d : Dat α} {d2 : Dat β} {k : Ks} {t1 t2 ts : TS} {g : TG}
/-! d[k] = v -/
theorem KReps.map_put {F : Hp} {v : V} {x : α} {n : Int} (hv : d.rep C F v x) : ∀ {ps : List (Key × V)} {xs : List (Int × α)}, KReps d C F ps xs → KReps d C F (ps.map fun kv => if kv.1 = Sum.inl n then (kv.1, v) else kv) (xs.map fun p => if p.1 = n then (n, x) else p)
  | [], [], _ => trivial
  | p :: ps, y :: ys, h => by
    rw [List.map_cons, List.map_cons]
    by_cases hn : y.1 = n
    · rw [if_pos hn, if_pos (by rw [h.1, hn])]
      exact ⟨by show p.1 = Sum.inl n; rw [h.1, hn], hv, KReps.map_put hv h.2.2⟩
    · rw [if_neg hn, if_neg (by rw [h.1]; exact fun z => hn (Sum.inl.inj z))]
      exact ⟨h.1, h.2.1, KReps.map_put hv h.2.2⟩
  | [], _ :: _, h => h.elim
  | _ :: _, [], h => h.elim
theorem KReps.snoc {F : Hp} {v : V} {x : α} {n : Int} (hv : d.rep C F v x) : ∀ {ps : List (Key × V)} {xs : List (Int × α)}, KReps d C F ps xs → KReps d C F (ps ++ [(Sum.inl n, v)]) (xs ++ [(n, x)])
  | [], [], _ => ⟨rfl, hv, trivial⟩
  | _ :: _, _ :: _, h => ⟨h.1, h.2.1, KReps.snoc hv h.2.2⟩
  | [], _ :: _, h => h.elim
  | _ :: _, [], h => h.elim
theorem KReps.put {F : Hp} {ps : List (Key × V)} {xs : List (Int × α)} {v : V} {x : α} {n : Int} (h : KReps d C F ps xs) (hv : d.rep C F v x) : KReps d C F (putK ps (Sum.inl n) v) (putI xs n x) := by
  unfold putK putI
  have l := h.look n
  rw [valV_any]
  cases q : xs.lookup n with
  | none =>
    rw [l.2 q, if_neg (fun z => (nomatch z)), if_neg (fun z => (nomatch z))]
    exact h.snoc hv
  | some y =>
    obtain ⟨w, hw, _⟩ := l.1 y q
    rw [hw]
    exact h.map_put hv
/-! slices -/
def cutL {α : Type} (xs : List α) (lo hi : Option Int) : List α := (xs.drop (HT.sIx xs.length 0 lo)).take (HT.sIx xs.length xs.length hi - HT.sIx xs.length 0 lo)
theorem cut_rep {F : Hp} {vs : List V} {xs : List α} (r : Reps d C F vs xs) (lo hi : Option Int) : Reps d C F (cutV vs lo hi) (cutL xs lo hi) := by
  unfold cutV cutL
  rw [r.len]
  exact (r.drop _).take _
/-- a part of a slice -/
def TOk (Y : YC) (to : TO) (Γ : List Cell) (k : Option Int → Prop) : Prop := ∀ (e : En) (F : Hp) (σ : St) (H : Hp), State Y e F σ H Γ → ∀ Q : Option Int → Hp → Prop, (∀ o F' H', k o → Gr F H F' H' → Q o H') → to σ H Q
theorem to_none {kx : Option Int → Prop} (h : kx none) : TOk Y tNoPart Γ kx := fun e F σ H s Q q => q none F H h s.base
theorem to_some {kx : Option Int → Prop} (h : R Y te Γ dInt fun n => kx (some n)) : TOk Y (tPart te) Γ kx := fun e F σ H s Q q => h e F σ H s _ fun v F' H' n kn g r => ⟨n, r, q (some n) F' H' kn g⟩
theorem o_sl {tl th : TO} {kx : List α → Prop} (h : W Y te Γ (dList (d := d)) fun xs => TOk Y tl Γ fun lo => TOk Y th Γ fun hi => kx (cutL xs lo hi)) : O Y (tSl (rSlL Y.K) te tl th) Γ (oList (d := d)) kx := fun e F σ H s Q q => h e F σ H s _ fun v F1 H1 xs h1 g1 ⟨a, vs, e1, hq, r⟩ => by
  subst e1
  refine h1 e F1 σ H1 (s.grow g1) _ fun lo F2 H2 h2 g2 => h2 e F2 σ H2 ((s.grow g1).grow g2) _ fun hi F3 H3 h3 g3 => ⟨a, vs, rfl, ?_, fun p hp => ?_⟩
  · exact (g1.fh.trans (g2.hh0.trans g3.hh0)).seq hq
  · obtain ⟨h4, h5⟩ := o_new (L := []) g3.base hp (cut_rep (r.mono (g2.ff.trans g3.ff)) lo hi)
    have g4 := ((g1.trans0 g2).trans0 g3).trans h4
    exact q _ F3 _ _ _ h3 (by simpa using g4) h5

/-! xs.append(ys.pop(i)) -/
theorem Reps.erase {F : Hp} : ∀ {vs : List V} {xs : List α} (i : Nat), Reps d C F vs xs → Reps d C F (vs.eraseIdx i) (xs.eraseIdx i)
  | [], [], _, _ => by simp [Reps]
  | _ :: _, _ :: _, 0, h => h.2
  | _ :: _, _ :: _, i + 1, h => ⟨h.1, Reps.erase i h.2⟩
  | [], _ :: _, _, h => h.elim
  | _ :: _, [], _, h => h.elim
/-! parts of what is owned -/
theorem Wk.sublist {e : En} {F : Hp} {L L' : LO} {H : Hp} (a : Wk e F L H) (h : L'.Sublist L) : Wk e F L' H :=
  a.sub (fun p hp => h.subset hp) ((h.map Prod.fst).nodup a.nd)
theorem Wk.blank {e : En} {F : Hp} {L : LO} {H : Hp} (a : Wk e F L H) : Wk ⟨F, fun _ => none, []⟩ F L H :=
  ⟨Same.refl _, fun _ _ _ z => (nomatch z), fun _ z => absurd rfl z, a.fh, fun _ z _ => absurd rfl z, a.tp, fun p hp => ⟨(a.ow p hp).1, (a.ow p hp).2.1, .inl rfl⟩, a.nd⟩
theorem Slots.wipe {F : Hp} {σ : St} {L : LO} (h : Slots C F σ Γ L) : ∀ vs : List Nat, ∃ L', L'.Sublist L ∧ Slots C F (wipe σ vs) (wipeC Γ vs) L'
  | [] => ⟨L, List.Sublist.refl _, h⟩
  | v :: vs => by
    obtain ⟨L1, h1, h2⟩ := Slots.wipe h vs
    unfold L2.wipe wipeC
    cases q : (wipeC Γ vs)[v]? with
    | some c =>
      obtain ⟨o, M1, Mi, M2, e1, e2, _, f⟩ := h2.get q
      refine ⟨M1 ++ M2, ?_, by simpa using f F none .no [] (Same.refl F) rfl⟩
      refine List.Sublist.trans ?_ h1
      rw [e2, List.append_assoc]
      exact List.Sublist.append_left (List.sublist_append_right _ _) _
    | none =>
      have l1 : (wipeC Γ vs).length ≤ v := List.getElem?_eq_none_iff.mp q
      have l2 : (L2.wipe σ vs).length ≤ v := by rw [h2.len]; exact l1
      rw [List.set_eq_of_length_le l1, List.set_eq_of_length_le l2]
      exact ⟨L1, h1, h2⟩
/-! [x for x in OWNED if t]: the owned items that are picked -/
/-! for x in OWNED: x.append(n) -/
end
end G

/-! E1: super().__init__('..') within the __init__ of an own exception class. -/
namespace G
open PySem PySem.Spec PyProof.Rows L2 PySem.W
theorem super_init {X : Cx} {pins : List (Addr × Obj)} {σ : L2.St} {H : Hp} {s : Shared} {Q : Flow → Shared → Prop} {E : Value → Shared → Prop} {body : List Stmt} {f cc cda D a C : Addr} {fd : FuncData} {ar : Arg} {vs : Array Value} {file : Str} {tf : Tok}
    {oc ccl cl : Value} {od cdd cld : Option Addr} {osl ccs csl : Array (Option Value)} {cdD cdC : ClassData} {m : Str} {j : Nat} {p0 p1 p2 p3 p4 p5 : Pos} {pl : Sem Bool}
    (I : Inv X pins σ H s) (hfun : X.env.func = some f) (hcode : X.env.code = .ref cda) (hks : X.env.kindOf "super" = some .globalImplicit) (hkc : X.env.kindOf "__class__" = some .free) (hcl : X.env.cells.lookup ("__class__" : Str) = some cc)
    (kf : X.K.lookup f = some ⟨oc, od, .func fd, osl⟩) (hp : (fd.params.posonlyargs ++ fd.params.args).head? = some ar) (hN : X.N[0]? = some ar.arg) (hl : X.env.kindOf ar.arg = some .local) (h0 : σ[0]? = some (some (.ref a)))
    (kcell : X.K.lookup cc = some ⟨cl, cld, .cell (some (.ref D)), csl⟩) (kcode : X.K.lookup cda = some ⟨ccl, cdd, .fields vs, ccs⟩) (hvs : vs[2]? = some (.str file tf)) (hfile : ((X.prog.main.file : Str) == file) = true)
    (kD : clsIn X.K D = some cdD) (kC : clsIn X.K C = some cdC) (hsub : mroIn X.K C (.ref D) = some true) (hsup : X.mg "super" = none) (htop : (X.prog.main.scope.names.lookup ("super" : Str)).isSome = false)
    (hst : nsIn X.K cStatics "thirdparty.any" = some none) (hin : ks_superIn X.K C D "__init__" = some (some (.builtin "ValueError.__init__"))) (hB : subIn X.K (.ref C) (.type "ValueError") = some true)
    (T : OexC X.K C) (ea : H a = some (exo a C none)) (hq : ∀ s', Inv X pins σ H s' → Q .next s')
    (he : eval (.Call (.Attribute (.Call (.Name "super" p0) [] [] p1) "__init__" p2) [.Constant (.str m) j p3] [] p4) X.env = (do
      let ov ← attributeBase (.Call (.Name "super" p0) [] [] p1) "__init__" X.env (eval (.Call (.Name "super" p0) [] [] p1) X.env)
      standAt p2.atName
      let (f, first) ← holding [ov] (getMethod ov "__init__" pl)
      callWith p4 f first (backTo p4 (starEach [.Constant (.str m) j p3] X.env)) [])) :
    _root_.PySem.wpAt (model X.prog X.w) X.A (.func body X.env) (exec (.Expr (.Call (.Attribute (.Call (.Name "super" p0) [] [] p1) "__init__" p2) [.Constant (.str m) j p3] [] p4) p5) X.env) Q E s := by
  obtain ⟨nm, q, N, bs, bm, sn, sub, ab, col, dd, k0, k1, k2, k3, k5, hC, hbm⟩ := T.cls
  obtain ⟨t1, ho⟩ := exo_at I.hok ea
  refine ks_wpAt_Expr_any (hs := ?hs) ?hm I.quiet
  case hs => rfl
  refine ks_wpAt_MethodCall (he := he) ?_
  refine ks_wpAt_super_base hks hkc rfl hfun (I.kIn _ _ kf) rfl hp hcode (I.kIn _ _ kcode) rfl hvs hfile htop ?_
  obtain ⟨mb, b1, b2⟩ := I.mod.blt
  refine ks_loadName_global I.ok.kind hks (Calls.loadGlobal_builtin (by rw [I.ok.glob]; exact I.mod.glob.keeps I.bk) hsup (by rw [I.ok.blt]; exact b1.keeps I.bk) ((b2 _ (by decide)).trans (PyProof.Rows.Boot.«super»)) ⟨rfl, ?_⟩)
  refine wpAny_loadName_free I.ok.kind hkc hcl ⟨_, I.kIn _ _ kcell, rfl⟩ ?_
  obtain ⟨mm, hn, hlk⟩ := I.loc
  obtain ⟨u0, ru, lk⟩ := hlk 0 ar.arg (.ref a) hN h0 (.inl hl)
  obtain rfl : u0 = Value.ref a := ru
  have hm0 : mm ar.arg = some (.ref a) := by
    rcases lk with ⟨_, h⟩ | ⟨h, _⟩
    · exact h
    · rw [hl] at h; rcases h with h | h <;> cases h
  refine wpAny_loadName_local I.ok.kind hl hn hm0 ?_
  obtain ⟨oD, hD1, hD2⟩ : ∃ oD, s.heap.get? D = some oD ∧ oD.data = .cls cdD := by
    unfold clsIn at kD
    split at kD
    · rename_i c d cd' sl hoD
      cases kD
      exact ⟨_, I.kIn _ _ hoD, rfl⟩
    · cases kD
  refine ks_wpAny_isType_cls hD1 hD2 ⟨rfl, ?_⟩
  have hty : Looks (model X.prog X.w) s.heap (typeOf (.ref a)) (.ref C) := (InstAt.mk (ox := ({ cls := .ref C, dict := none, data := .fields #[.ref t1, .none, .none, .none, .bool false, .none] } : Obj)) (od := none) ho rfl rfl trivial).type
  obtain ⟨hh, g, d, t, os⟩ := s
  refine ks_wpAny_call_super hD1 hD2 ho rfl (fun c e => by cases e) (looks_mroIn I.kIn hsub) (fun h' e k => ?_)
  have I1 : Inv X pins σ H ⟨h', g, d, t, os⟩ := I.kept (t' := t) k
  have hI : Looks (model X.prog X.w) h' (isInstance (.ref a) (.type "ValueError")) true := (hty.keeps k).andThen (looks_subIn I1.kIn hB)
  have hne : a ≠ C := fun z => by
    have h1 := I.kIn _ _ hC
    rw [← z, show (Shared.heap ⟨hh, g, d, t, os⟩).get? a = _ from ho] at h1
    cases h1
  have hmr : Looks (model X.prog X.w) h' (mroOf (.ref C)) cdC.mro := fun A Q E s k q => wpAny_bind ((looks_clsIn I1.kIn kC) A _ E s k (wpAny_pure q))
  have hin' : alongIn X.K "__init__" ((cdC.mro.dropWhile (· != .ref D)).drop 1) = some (some (.builtin "ValueError.__init__")) := by
    unfold ks_superIn at hin
    rw [kC] at hin
    exact hin
  refine kxs_getMethod kxs_ValueError e (looks_opaque I1.kIn hst) (l₀ := cdC.mro) hmr rfl I1.kIn hin' hI hne rfl ?_
  have hu : (h'.push (kxs_mw "ValueError.__init__" a)).get? h'.objs.size = some (kxs_mw "ValueError.__init__" a) := Heap.get?_push_at rfl rfl
  have I2 : Inv X pins σ H ⟨h'.push (kxs_mw "ValueError.__init__" a), g, d, t + 1, os⟩ := I1.kept (t' := t + 1) fun b o e => Heap.get?_push_of_some _ e
  refine kxs_callWith (i := "ValueError.__init__") (x := a) rfl ?_
  show wpAny _ _ (evalArgs _ true ((false, eval (.Constant (.str m) j p3) X.env) :: []) []) _ _ _
  refine Calls.evalArgs_plain (Calls.spliced_cons (Calls.Constant_str (Calls.spliced_nil ⟨hu, ?_⟩)))
  have I3 : Inv X pins σ H ⟨h'.push (kxs_mw "ValueError.__init__" a), g, d, t + 1 + 1, os⟩ := I2.kept (t' := t + 1 + 1) fun b o e => e
  obtain ⟨t2, ho2⟩ := exo_at I3.hok ea
  show wpAny _ _ (call (.ref h'.objs.size) [.str m (t + 1)]) _ _ _
  refine wpAny_call (codeAny_of_tree ?_)
  show wpAny _ X.A.in1 (callAny (.ref h'.objs.size) ⟨[.str m (t + 1)], []⟩) _ _ _
  simp only [callAny]
  refine wpAny_bind (wpAny_load hu ?_)
  simp only [kxs_mw, show (Value.type "method-wrapper" == Value.type "method" || Value.type "method-wrapper" == Value.type "builtin_function_or_method" || Value.type "method-wrapper" == Value.type "method-wrapper") = true by decide, if_true]
  refine KFB.if_so (by decide) ?_
  refine wpAny_bind (check_bound_init F.excBase_ValueError.toExcCallFacts (I3.kIn _ _ hC) ho2 rfl ?_)
  refine wpAny_bind (wpAny_pure (wpAny_pure ?_))
  refine ⟨plainId_quiet F.excBase_ValueError.init.plain _, codeAny_builtin F.excBase_ValueError.initEntry ?_⟩
  refine exc_init_tree (cls := .ref C) (t0 := t2) (dv := none) (c2 := .none) (c3 := .none) (b4 := .bool false) ho2 (by show 1 ≤ sizeLine; rw [sizeLine_eq]; omega) fun h3 k3 e3 e4 => ?_
  have J := I3.write (t' := t + 1 + 1) (x := a) (e := a) (o := exo a C none) (by rw [ea]; exact True.intro) (.inl rfl) k3 ⟨_, e3⟩ (exo_ok e3)
  have eu : upd H a (exo a C none) = H := by
    funext b
    by_cases hb : b = a
    · rw [hb, upd_same, ea]
    · rw [upd_ne hb]
  rw [eu] at J
  exact hq _ J

/-- a class's __init__ that begins with super().__init__('..'): the rest of its body -/
theorem fok_super {P : Program} {w : World} {K : Frag} {mg : Str → Option Value} {base : Heap} {CXt : CXT} {k : Nat} {f cc D : Addr} {N ps : List Str} {F : NdefX.NF} {doc pm ctv : Value} {sp : Sp} {rest : List Stmt} {ar : Arg} {vs0 : Array Value} {file : Str} {tf : Tok}
    {oc ccl cl : Value} {od cdd cld : Option Addr} {osl ccs csl : Array (Option Value)} {cdD : ClassData} {m : Str} {j : Nat} {p0 p1 p2 p3 p4 p5 : Pos} {pl : Sem Bool}
    (S : NdefX.NScope N ps ["__class__"] F.scope) (hF : F.cl = [(("__class__" : Str), cc)]) (hb : F.body = .Expr (.Call (.Attribute (.Call (.Name "super" p0) [] [] p1) "__init__" p2) [.Constant (.str m) j p3] [] p4) p5 :: rest)
    (hks : F.scope.names.lookup ("super" : Str) = some .globalImplicit) (kf : K.lookup f = some ⟨oc, od, .func (F.fd doc pm ctv), osl⟩) (hp : (F.params.posonlyargs ++ F.params.args).head? = some ar) (hN : N[0]? = some ar.arg) (hl : F.scope.names.lookup ar.arg = some .local)
    (kcell : K.lookup cc = some ⟨cl, cld, .cell (some (.ref D)), csl⟩) (kcode : K.lookup F.c = some ⟨ccl, cdd, .fields vs0, ccs⟩) (hvs : vs0[2]? = some (.str file tf)) (hcd : codeIn K (.ref F.c) F.qual = true) (hfile : ((P.main.file : Str) == file) = true)
    (kD : clsIn K D = some cdD) (hsup : mg "super" = none) (htop : (P.main.scope.names.lookup ("super" : Str)).isSome = false) (hst : nsIn K cStatics "thirdparty.any" = some none)
    (he : ∀ env : Env, eval (.Call (.Attribute (.Call (.Name "super" p0) [] [] p1) "__init__" p2) [.Constant (.str m) j p3] [] p4) env = (do
      let ov ← attributeBase (.Call (.Name "super" p0) [] [] p1) "__init__" env (eval (.Call (.Name "super" p0) [] [] p1) env)
      standAt p2.atName
      let (f, first) ← holding [ov] (getMethod ov "__init__" pl)
      callWith p4 f first (backTo p4 (starEach [.Constant (.str m) j p3] env)) []))
    (len : ∀ vs H Q E, sp vs H Q E → vs.length = ps.length)
    (walk : ∀ (A : Around) (outer : List Env) (s : Shared) (H : Hp) (vs : List V) (Q : VK) (E : XK), Room k (A.deeper (NdefX.envF F f s.heap.objs.size)) → sp vs H Q E →
      ∃ a C cdC, vs[0]? = some (.ref a) ∧ H a = some (exo a C none) ∧ OexC K C ∧ clsIn K C = some cdC ∧ mroIn K C (.ref D) = some true ∧ ks_superIn K C D "__init__" = some (some (.builtin "ValueError.__init__")) ∧ subIn K (.ref C) (.type "ValueError") = some true ∧
        ∃ t, PSs (NdefX.ncx CXt P w K mg base N F f A outer s H E) rest t ∧ t { nx := fun _ H' => Q .non H', rt := Q } (NdefX.startF N vs [some (.ref D)]) H) :
    FnOk P w K mg base CXt (k + 1) f (F.fd doc pm ctv) ps sp := by
  refine ⟨len, fun A outer s H args us vs Q E hr e0 hbind r hsp => ?_⟩
  have hlen := len _ _ _ _ hsp
  have kin : K.In s.heap := fun a o e => (e0.bs a o (e0.mod.kin a o e)).1
  have lim : s.heap.NoLimit := e0.mod.nolimit.keeps fun b o e => (e0.bs b o e).1
  have hc0 : H cc = none := (e0.bs cc _ (e0.mod.kin _ _ kcell)).2
  have cls1 : ∀ y c, F.cl.lookup y = some c → y = ("__class__" : Str) ∧ c = cc := fun y c e => by
    rw [hF, List.lookup_cons] at e
    split at e
    · rename_i z
      cases e
      exact ⟨by simpa using z, rfl⟩
    · cases e
  have C0 : NdefX.CellsAt F.cl ["__class__"] [some (.ref D)] s.heap H := by
    refine ⟨rfl, fun y c e => ?_, fun x y c e1 e2 => ?_, fun i y e => ?_⟩
    · obtain ⟨_, rfl⟩ := cls1 y c e
      exact ⟨hc0, _, _, kin _ _ kcell, rfl⟩
    · rw [(cls1 x c e1).1, (cls1 y c e2).1]
    · cases i with
      | zero =>
        cases (Option.some.inj e)
        refine ⟨cc, by rw [hF]; rfl, fun v hv => ?_⟩
        cases hv
        exact ⟨.ref D, rfl, _, kin _ _ kcell, rfl⟩
      | succ i => cases e
  refine ks_codeAny_call_defAt (fd := F.fd doc pm ctv) hr.depth (kin _ _ kf) rfl lim (codeRec_of kin hcd) rfl hbind S.nocell (fun ⟨n, _⟩ hy => S.par n (List.of_mem_zip hy).1) (fun h₁ hns kp => ?_) S.co S.gen S.kind
  obtain ⟨a, C, cdC, v0, ea, T, kC, hsub, hin, hB, t, ht, hq⟩ := walk A outer s H vs Q E (hr.deeper _) hsp
  have I : Inv (NdefX.ncx CXt P w K mg base N F f A outer s H E) [] (NdefX.startF N vs [some (.ref D)]) H { s with heap := h₁, toks := s.toks + (ps.zip us).length } := NdefX.inv_startN S hr.hd e0 hlen r C0 hns kp
  have h0 : (NdefX.startF N vs [some (V.ref D)])[0]? = some (some (.ref a)) := by
    unfold NdefX.startF
    have : 0 < vs.length := (List.getElem?_eq_some_iff.mp v0).1
    rw [List.getElem?_append_left (by rw [List.length_map]; exact this), List.getElem?_map, v0]
    rfl
  show _root_.PySem.wpAt (model P w) (A.deeper (NdefX.envF F f s.heap.objs.size)) (.func F.body (NdefX.envF F f s.heap.objs.size)) (execs F.body (NdefX.envF F f s.heap.objs.size)) _ _ _
  have fin : ∀ {s' : Shared} {σ' : L2.St} {H' : Hp} {v : V} {u : Value}, Inv (NdefX.ncx CXt P w K mg base N F f A outer s H E) [] σ' H' s' → L2.RelV v u → Q v H' → CE outer P w H s Q u s' :=
    fun {s' σ' H' v u} J rv q => ⟨v, H', J.os, J.bare, J.base, J.hok, rv, q⟩
  rw [show execs F.body (NdefX.envF F f s.heap.objs.size) = execs (_ :: rest) (NdefX.envF F f s.heap.objs.size) from congrArg (fun b => execs b _) hb]
  refine ks_wpAt_execs_cons ?_
  refine super_init (X := NdefX.ncx CXt P w K mg base N F f A outer s H E) (a := a) (C := C) I rfl rfl hks (S.frk _ (by simp)) (by show F.cl.lookup _ = _; rw [hF]; rfl) kf hp hN hl h0 kcell kcode hvs hfile kD kC hsub hsup htop hst hin hB T ea (fun s' I' => ?_) (he _)
  refine _root_.PySem.wpAt_of_wpAny (wpAny_mono (ht.run [] _ _ H _ I' hq) (fun fl s' hs => ?_) fun e s' hs => hs)
  cases fl with
  | ret u =>
    obtain ⟨v, σ', H', J, rv, q⟩ := hs
    exact fin J rv q
  | next =>
    obtain ⟨σ', H', J, q⟩ := hs
    exact fin (v := V.non) (u := Value.none) J rfl q
  | brk =>
    obtain ⟨_, _, _, q⟩ := hs
    exact False.elim q
  | cont =>
    obtain ⟨_, _, _, q⟩ := hs
    exact False.elim q
end G

/-! E2: exceptions of one and of two attributes: their __init__, raising them. -/
namespace G
open PySem PySem.Spec PyProof.Rows L2 PySem.W
/-- what __init__ of one attribute promises -/
def spX1 (C : Addr) (f1 : Str) : Sp := fun vs H Q _ => ∃ a v, vs = [.ref a, v] ∧ H a = some (exo a C none) ∧ ∀ d, H d = none → d ≠ a → Q .non (upd (upd H d (exd d [(f1, v)])) a (exo a C (some d)))
def spX2 (C : Addr) (f1 f2 : Str) : Sp := fun vs H Q _ => ∃ a v1 v2, vs = [.ref a, v1, v2] ∧ H a = some (exo a C none) ∧ ∀ d, H d = none → d ≠ a → Q .non (upd (upd (upd H d (exd d [(f1, v1)])) a (exo a C (some d))) d (exd d [(f2, v2), (f1, v1)]))
/-- what the written part says of such a class -/
structure XCls (K : Frag) (D fI : Addr) : Prop where
  T : OexC K D
  cls : ∃ cd, clsIn K D = some cd
  self : mroIn K D (.ref D) = some true
  sup : ks_superIn K D D "__init__" = some (some (.builtin "ValueError.__init__"))
  ve : subIn K (.ref D) (.type "ValueError") = some true
  init : findIn K (.ref D) "__init__" = some (some (.ref fI))
  fn : typeIn K (.ref fI) = some (.type "function")
section
variable {P : Program} {w : World} {K : Frag} {mg : Str → Option Value} {base : Heap} {CXt : CXT} {k : Nat} {f cc D : Addr} {ps : List Str} {F : NdefX.NF} {doc pm ctv : Value} {ar : Arg} {vs0 : Array Value} {file : Str} {tf : Tok}
    {oc ccl cl : Value} {od cdd cld : Option Addr} {osl ccs csl : Array (Option Value)} {m : Str} {j : Nat} {p0 p1 p2 p3 p4 p5 q1 q2 q3 q4 r1 r2 r3 r4 : Pos} {pl : Sem Bool} {f1 f2 x1 x2 : Str}
theorem fok_exc1 (S : NdefX.NScope [ar.arg, x1, "__class__"] [ar.arg, x1] ["__class__"] F.scope) (hF : F.cl = [(("__class__" : Str), cc)])
    (hb : F.body = [.Expr (.Call (.Attribute (.Call (.Name "super" p0) [] [] p1) "__init__" p2) [.Constant (.str m) j p3] [] p4) p5, .Assign [.Attribute (.Name ar.arg q1) f1 q2] (.Name x1 q3) q4])
    (hd1 : (ar.arg == ("__debug__" : Str)) = false) (hc1 : (ar.arg == ("__classdict__" : Str)) = false) (hd2 : (x1 == ("__debug__" : Str)) = false) (hc2 : (x1 == ("__classdict__" : Str)) = false)
    (hks : F.scope.names.lookup ("super" : Str) = some .globalImplicit) (kf : K.lookup f = some ⟨oc, od, .func (F.fd doc pm ctv), osl⟩) (hp : (F.params.posonlyargs ++ F.params.args).head? = some ar)
    (kcell : K.lookup cc = some ⟨cl, cld, .cell (some (.ref D)), csl⟩) (kcode : K.lookup F.c = some ⟨ccl, cdd, .fields vs0, ccs⟩) (hvs : vs0[2]? = some (.str file tf)) (hcd : codeIn K (.ref F.c) F.qual = true) (hfile : ((P.main.file : Str) == file) = true)
    (X : XCls K D f) (hno : findIn K (.ref D) f1 = some none) (hsup : mg "super" = none) (htop : (P.main.scope.names.lookup ("super" : Str)).isSome = false) (hst : nsIn K cStatics "thirdparty.any" = some none)
    (he : ∀ env : Env, eval (.Call (.Attribute (.Call (.Name "super" p0) [] [] p1) "__init__" p2) [.Constant (.str m) j p3] [] p4) env = (do
      let ov ← attributeBase (.Call (.Name "super" p0) [] [] p1) "__init__" env (eval (.Call (.Name "super" p0) [] [] p1) env)
      standAt p2.atName
      let (f, first) ← holding [ov] (getMethod ov "__init__" pl)
      callWith p4 f first (backTo p4 (starEach [.Constant (.str m) j p3] env)) [])) :
    FnOk P w K mg base CXt (k + 1) f (F.fd doc pm ctv) [ar.arg, x1] (spX1 D f1) := by
  obtain ⟨cdD, kD⟩ := X.cls
  refine fok_super (N := [ar.arg, x1, "__class__"]) (rest := _) S hF hb hks kf hp rfl (S.par _ (by simp)) kcell kcode hvs hcd hfile kD hsup htop hst he (fun vs H Q E ⟨a, v, e, _⟩ => by rw [e]; rfl) (fun A outer s H vs Q E hr ⟨a, v, e, ea, q⟩ => ?_)
  subst e
  refine ⟨a, D, cdD, rfl, ea, X.T, kD, X.self, X.sup, X.ve, _, pss_one (ps_ost (pe_var (i := 0) rfl (.inl (S.par _ (by simp))) hd1 hc1) (pe_var (i := 1) rfl (.inl (S.par _ (by simp))) hd2 hc2) rfl), ?_⟩
  exact ⟨v, rfl, .ref a, rfl, a, D, rfl, X.T, hno, .inl ⟨ea, fun dx n ne => q dx n ne⟩⟩
theorem fok_exc2 (S : NdefX.NScope [ar.arg, x1, x2, "__class__"] [ar.arg, x1, x2] ["__class__"] F.scope) (hF : F.cl = [(("__class__" : Str), cc)])
    (hb : F.body = [.Expr (.Call (.Attribute (.Call (.Name "super" p0) [] [] p1) "__init__" p2) [.Constant (.str m) j p3] [] p4) p5, .Assign [.Attribute (.Name ar.arg q1) f1 q2] (.Name x1 q3) q4, .Assign [.Attribute (.Name ar.arg r1) f2 r2] (.Name x2 r3) r4])
    (hd1 : (ar.arg == ("__debug__" : Str)) = false) (hc1 : (ar.arg == ("__classdict__" : Str)) = false) (hd2 : (x1 == ("__debug__" : Str)) = false) (hc2 : (x1 == ("__classdict__" : Str)) = false) (hd3 : (x2 == ("__debug__" : Str)) = false) (hc3 : (x2 == ("__classdict__" : Str)) = false)
    (hks : F.scope.names.lookup ("super" : Str) = some .globalImplicit) (kf : K.lookup f = some ⟨oc, od, .func (F.fd doc pm ctv), osl⟩) (hp : (F.params.posonlyargs ++ F.params.args).head? = some ar)
    (kcell : K.lookup cc = some ⟨cl, cld, .cell (some (.ref D)), csl⟩) (kcode : K.lookup F.c = some ⟨ccl, cdd, .fields vs0, ccs⟩) (hvs : vs0[2]? = some (.str file tf)) (hcd : codeIn K (.ref F.c) F.qual = true) (hfile : ((P.main.file : Str) == file) = true)
    (X : XCls K D f) (hno : findIn K (.ref D) f1 = some none) (hno2 : findIn K (.ref D) f2 = some none) (hsup : mg "super" = none) (htop : (P.main.scope.names.lookup ("super" : Str)).isSome = false) (hst : nsIn K cStatics "thirdparty.any" = some none)
    (he : ∀ env : Env, eval (.Call (.Attribute (.Call (.Name "super" p0) [] [] p1) "__init__" p2) [.Constant (.str m) j p3] [] p4) env = (do
      let ov ← attributeBase (.Call (.Name "super" p0) [] [] p1) "__init__" env (eval (.Call (.Name "super" p0) [] [] p1) env)
      standAt p2.atName
      let (f, first) ← holding [ov] (getMethod ov "__init__" pl)
      callWith p4 f first (backTo p4 (starEach [.Constant (.str m) j p3] env)) [])) :
    FnOk P w K mg base CXt (k + 1) f (F.fd doc pm ctv) [ar.arg, x1, x2] (spX2 D f1 f2) := by
  obtain ⟨cdD, kD⟩ := X.cls
  refine fok_super (N := [ar.arg, x1, x2, "__class__"]) (rest := _) S hF hb hks kf hp rfl (S.par _ (by simp)) kcell kcode hvs hcd hfile kD hsup htop hst he (fun vs H Q E ⟨a, v1, v2, e, _⟩ => by rw [e]; rfl) (fun A outer s H vs Q E hr ⟨a, v1, v2, e, ea, q⟩ => ?_)
  subst e
  refine ⟨a, D, cdD, rfl, ea, X.T, kD, X.self, X.sup, X.ve, _, pss_cons (ps_ost (pe_var (i := 0) rfl (.inl (S.par _ (by simp))) hd1 hc1) (pe_var (i := 1) rfl (.inl (S.par _ (by simp))) hd2 hc2) rfl) (pss_one (ps_ost (pe_var (i := 0) rfl (.inl (S.par _ (by simp))) hd1 hc1) (pe_var (i := 2) rfl (.inl (S.par _ (by simp))) hd3 hc3) rfl)), ?_⟩
  refine ⟨v1, rfl, .ref a, rfl, a, D, rfl, X.T, hno, .inl ⟨ea, fun dx n ne => ?_⟩⟩
  refine ⟨v2, rfl, .ref a, rfl, a, D, rfl, X.T, hno2, .inr ⟨dx, [(f1, v1)], upd_same, ?_, by show 1 ≤ 900; omega, q dx n ne⟩⟩
  rw [upd_ne ne, upd_same]
end
/-! raising -/
section
variable {Y : YC} {Γ : List Cell} {k : Ks} {te t1 t2 : TE} {Cx : Addr} {f1 f2 : Str} {Wt : WX}
theorem z_raise1 (hE : Y.E = WE Wt) (h : R Y te Γ dInt fun n => Y.kx ⟨Cx, some [(f1, .int n)]⟩ Γ) : Z Y (fun _ σ H => tMkO Cx (spX1 Cx f1) [] (tCons te tNil) σ H fun cls d H' => Wt cls d σ H') Γ k := fun e F σ H D hM s c => h e F σ H s _ fun v F1 H1 n kn g r => by
  cases (show v = .int n from r)
  refine ⟨by show 1 ≤ 1000; omega, fun a ha => ⟨a, .int n, rfl, upd_same, fun d hd hda => ⟨rfl, d, [(f1, .int n)], upd_same, by rw [upd_ne hda, upd_same], ?_, ?_⟩⟩⟩
  · rw [upd_ne hda] at hd
    exact hd
  · rw [upd_ne hda] at hd
    have e1 : upd (del (upd (upd (upd H1 a (exo a Cx none)) d (exd d [(f1, .int n)])) a (exo a Cx (some d))) a) d (.xd [(f1, .int n)]) = upd H1 d (.xd [(f1, .int n)]) := by
      funext b
      by_cases hb : b = d
      · subst hb; rw [upd_same, upd_same]
      · rw [upd_ne hb, upd_ne hb]
        by_cases hb2 : b = a
        · subst hb2; rw [del_same, ha]
        · rw [del_ne hb2, upd_ne hb2, upd_ne hb, upd_ne hb2]
    rw [e1]
    have := s.1 ⟨Cx, some [(f1, .int n)]⟩ (some d) (upd F1 d (.xd [(f1, .int n)])) σ (upd H1 d (.xd [(f1, .int n)])) Γ kn ((s.grow g).grow (g.base.lay hd)).2 ⟨_, _, rfl, upd_same, rfl, rfl, trivial⟩
    rw [hE] at this
    exact this
theorem z_raise2 (hE : Y.E = WE Wt) (h : R Y t1 Γ dInt fun n1 => R Y t2 Γ dInt fun n2 => Y.kx ⟨Cx, some [(f2, .int n2), (f1, .int n1)]⟩ Γ) : Z Y (fun _ σ H => tMkO Cx (spX2 Cx f1 f2) [] (tCons t1 (tCons t2 tNil)) σ H fun cls d H' => Wt cls d σ H') Γ k := fun e F σ H D hM s c => h e F σ H s _ fun v F1 H1 n h2 g r => h2 e F1 σ H1 (s.grow g) _ fun v2 F2 H2 n2 kn g2 r2 => by
  cases (show v = .int n from r)
  cases (show v2 = .int n2 from r2)
  refine ⟨by show 2 ≤ 1000; omega, fun a ha => ⟨a, .int n, .int n2, rfl, upd_same, fun d hd hda => ⟨rfl, d, [(f2, .int n2), (f1, .int n)], ?_, upd_same, ?_, ?_⟩⟩⟩
  · rw [upd_ne (Ne.symm hda), upd_same]
  · rw [upd_ne hda] at hd
    exact hd
  · rw [upd_ne hda] at hd
    have e1 : upd (del (upd (upd (upd (upd H2 a (exo a Cx none)) d (exd d [(f1, .int n)])) a (exo a Cx (some d))) d (exd d [(f2, .int n2), (f1, .int n)])) a) d (.xd [(f2, .int n2), (f1, .int n)]) = upd H2 d (.xd [(f2, .int n2), (f1, .int n)]) := by
      funext b
      by_cases hb : b = d
      · subst hb; rw [upd_same, upd_same]
      · rw [upd_ne hb, upd_ne hb]
        by_cases hb2 : b = a
        · subst hb2; rw [del_same, ha]
        · rw [del_ne hb2, upd_ne hb, upd_ne hb2, upd_ne hb, upd_ne hb2]
    rw [e1]
    have := s.1 ⟨Cx, some [(f2, .int n2), (f1, .int n)]⟩ (some d) (upd F2 d (.xd [(f2, .int n2), (f1, .int n)])) σ (upd H2 d (.xd [(f2, .int n2), (f1, .int n)])) Γ kn (((s.grow g).grow g2).grow (g2.base.lay hd)).2 ⟨_, _, rfl, upd_same, rfl, rfl, rfl, rfl, trivial⟩
    rw [hE] at this
    exact this
end
end G

/-! E3: try .. except X as n; isinstance of what was caught; its attributes. -/
namespace G
open PySem PySem.Spec PyProof.Rows L2 PySem.W
/-- the caught exception at a, its dict d -/
@[reducible] def dExn (a : Addr) (d : Option Addr) : Dat Exn where
  rep _ F v x := v = .ref a ∧ x.at F d
  mono := fun {C F F' v x} s ⟨e, h⟩ => ⟨e, by
    cases d with
    | none => exact h
    | some dd => obtain ⟨fs, fs', e1, e2, r⟩ := h; exact ⟨fs, fs', e1, s _ _ e2, r.mono s⟩⟩
/-- isinstance(e, c), e the exception that the suite holds -/
def rIsX (K : Frag) (a : Addr) (cls : Value) (d : Option Addr) : List V → Hp → VK → Prop := fun xs H Q => ∃ (D : Addr) (c : V) (cv : Value) (b : Bool), cls = .ref D ∧ ExcC K D ∧ xs = [.ref a, c] ∧ (∀ u, RelV c u → u = cv) ∧ kitOne K (.ref D) cv = some b ∧
  (∀ dd, d = some dd → ∃ fs, H dd = some (.xd fs)) ∧ Q (.bl b) H
theorem call_isX {X : Cx} {a : Addr} {cls : Value} {d : Option Addr} {oe : Obj} {pn : List (Addr × Obj)} (hz : Zc cls d oe) (hf : ∃ vs, oe.data = .fields vs) : CallR (X.suite a ((a, oe) :: pn)) (.builtin "isinstance") (rIsX X.K a cls d) := by
  intro pins s σ H xs us Q I r h
  obtain ⟨D, c, cv, b, rfl, C, rfl, hcv, e, hd, q⟩ := h
  cases r with
  | cons rx rr =>
    cases rr with
    | cons rt rr =>
      cases rr
      cases rx
      have ec := hcv _ rt
      subst ec
      obtain ⟨hget, _⟩ := I.pin (a, oe) (List.mem_append.mpr (.inl List.mem_cons_self))
      obtain ⟨vs, hv⟩ := hf
      obtain ⟨od, J⟩ : ∃ od, InstAt s.heap a oe D od := by
        obtain ⟨oc, odt, oda, osl⟩ := oe
        obtain ⟨h1, h2⟩ := hz
        dsimp only at h1 h2 hv
        subst h1 h2 hv
        cases odt with
        | none => exact ⟨none, hget, rfl, rfl, trivial⟩
        | some dd =>
          obtain ⟨fs, hfs⟩ := hd dd rfl
          have ok : ObjOk X.prog X.w H s.heap dd (.xd fs) := I.hok dd _ hfs
          obtain ⟨mA, ⟨o, es, ep, ho, _⟩, _⟩ := ok
          exact ⟨some o, hget, rfl, rfl, ho⟩
      have hcl : (clsIn X.K D).isSome = true := by obtain ⟨cd, hc, _⟩ := any_some C.hd; rw [hc]; rfl
      exact kia_one (kitx_exc hcl C.hg C.hk C.hs C.ha C.hn C.ht C.hm) I.kIn J e (fun z => nomatch z) fun tk => ⟨.bl b, H, I.kept (t' := tk) fun _ _ z => z, rfl, q⟩
section
variable {Y : YC} {Γ : List Cell} {k : Ks} {te : TE} {a Cx : Addr} {d : Option Addr} {x : Exn} {i : Nat}
theorem w_isX {cls : Value} {c : V} {cv : Value} {b : Bool} {kx : Bool → Prop} (hi : Γ[i]? = some (.val (dExn a d) x)) (hc : cls = .ref x.cls) (C : ExcC Y.K x.cls) (hv : ∀ u, RelV c u → u = cv) (hk : kitOne Y.K (.ref x.cls) cv = some b) (h : kx b) :
    W Y (tCB (rIsX Y.K a cls d) (tCons (tVar i) (tCons (tC c) tNil))) Γ dBool kx := fun e F σ H s Q q => by
  obtain ⟨v, e1, e2, r⟩ := s.val hi
  subst e2
  refine ⟨.ref a, e1, x.cls, c, cv, b, hc, C, rfl, hv, hk, fun dd hd => ?_, q _ F H b h s.base rfl⟩
  subst hd
  obtain ⟨_, fs, _, e3, _⟩ := r
  exact ⟨fs, s.fh _ _ e3⟩
theorem w_xf {cls : Value} {f : Str} {n : Int} {fs : List (Str × XV)} {kx : Int → Prop} (hi : Γ[i]? = some (.val (dExn a d) x)) (hc : cls = .ref x.cls) (hx : x.cls = Cx) (hf : x.fs = some fs) (hl : fs.lookup f = some (.int n)) (h : kx n) :
    W Y (tXf a cls d Cx f (tVar i)) Γ dInt kx := fun e F σ H s Q q => by
  obtain ⟨v, e1, e2, r⟩ := s.val hi
  subst e2
  refine ⟨.ref a, e1, rfl, by rw [hc, hx], ?_⟩
  cases d with
  | none => rw [show x.fs = none from r] at hf; cases hf
  | some dd =>
    obtain ⟨fs1, fs', e3, e4, e5⟩ := r
    rw [hf] at e3
    cases e3
    obtain ⟨v', e6, e7⟩ := e5.look hl
    cases (show v' = .int n from e7)
    exact ⟨dd, fs', .int n, rfl, s.fh _ _ e4, e6, q _ F H n h s.base rfl⟩
theorem State.noAt {e : En} {F : Hp} {σ : L2.St} {H : Hp} (s : State Y e F σ H Γ) (i : Nat) : State Y e F (σ.set i none) H (Γ.set i .no) := by
  cases q : Γ[i]? with
  | some c => exact s.forget q
  | none =>
    have h1 : Γ.length ≤ i := List.getElem?_eq_none_iff.mp q
    have h2 : σ.length ≤ i := by rw [s.len]; exact h1
    rw [List.set_eq_of_length_le h1, List.set_eq_of_length_le h2]
    exact s
theorem Cont.at {e : En} {D : Ends} {E : L2.St → XK} {kb : Exn → List Cell → Prop} (hx : XOk Y e) (c : Cont Y e k D) : Cont ⟨Y.g, E, kb⟩ e k D :=
  ⟨fun F σ H Γ q s => c.nx F σ H Γ q ⟨hx, s.2⟩, c.rt, fun F σ H Γ q s => c.bk F σ H Γ q ⟨hx, s.2⟩, fun F σ H Γ q s => c.ct F σ H Γ q ⟨hx, s.2⟩⟩
/-- try: body; except c as the name at i: suite -/
theorem z_tryAs {tb : WX → TS} {ts : Addr → Value → Option Addr → TS} {c : Value} {Wout : WX} (kb : Exn → List Cell → Prop) (hE : Y.E = WE Wout) (hb : ∀ W : WX, Z ⟨Y.g, WE W, kb⟩ (tb W) Γ k)
    (hx : ∀ x Γ', kb x Γ' → ∃ b, exmOne Y.K (.ref x.cls) c = some b ∧
      (b = true → (∃ c0, Γ'[i]? = some c0) ∧ ∀ a d, Z Y (ts a (.ref x.cls) d) (Γ'.set i (.val (dExn a d) x)) { nx := fun Γ2 => k.nx (Γ2.set i .no), rt := k.rt, bk := fun Γ2 => k.bk (Γ2.set i .no), ct := fun Γ2 => k.ct (Γ2.set i .no) }) ∧ (b = false → Y.kx x Γ')) :
    Z Y (fun D σ H => tb (wAs Y.K c i ts Wout D) D σ H) Γ k := fun e F σ H D hM s ct => by
  refine hb _ e F σ H D hM ⟨fun x d F' σ' H' Γ' kbx st hd => ?_, s.2⟩ (ct.at s.1)
  obtain ⟨b, hm, h1, h2⟩ := hx x Γ' kbx
  refine ⟨b, hm, fun hb1 a ha => ?_, fun hb0 => ?_⟩
  · obtain ⟨⟨c0, hi⟩, hz⟩ := h1 hb1
    have st1 : State Y e F' σ' H' Γ' := ⟨s.1, st⟩
    refine hz a d e F' _ H' _ hM (st1.set (c' := .val (dExn a d) x) (L' := []) hi st1.base ⟨rfl, _, rfl, rfl, hd⟩) ⟨fun F3 σ3 H3 Γ3 q s3 => ct.nx F3 _ H3 _ q (s3.noAt i), ct.rt, fun F3 σ3 H3 Γ3 q s3 => ct.bk F3 _ H3 _ q (s3.noAt i), fun F3 σ3 H3 Γ3 q s3 => ct.ct F3 _ H3 _ q (s3.noAt i)⟩
  · have := s.1 x d F' σ' H' Γ' (h2 hb0) st hd
    rw [hE] at this
    exact this
end
end G

/-! E4: instances of own classes. -/
namespace G
open PySem PySem.Spec PyProof.Rows L2 PySem.W
/-! calls that may raise, within a try -/
section
variable {X : Cx} {CXt : CXT} {k : Nat} {f C : Addr} {fd : FuncData} {ps : List Str} {sp : Sp} {E : L2.St → XK} {x m : Str} {p pos apos : Pos} {e o : Expr} {es : List Expr} {ta : TE} {t : TA}
def tMakeS (C : Addr) (sp : Sp) (E : L2.St → XK) (t : TA) : TE := fun σ H Q => t σ H fun vs H1 => ∀ x dx, H1 x = none → H1 dx = none → dx ≠ x → sp (.ref x :: vs) (upd (upd H1 dx (.own x)) x (.ins C dx [])) (fun v H2 => v = .non ∧ Q (.ref x) H2) (E σ)
theorem run_makeS {pins : List (Addr × Obj)} {σ : L2.St} {H : Hp} {s : Shared} {Q : VK} {us : List Value} {vs : List V} {E : XK} (M : Mk X.K C f) (F : FnOk X.prog X.w X.K X.mg X.base CXt k f fd ps sp) (hr : Room (k + 1) X.A) (hb : Binds X.K fd ps [])
    (hx : PassesAt CXt X σ E) (I : Inv X pins σ H s) (r : Vals vs us)
    (h : ∀ x dx, H x = none → H dx = none → dx ≠ x → sp (.ref x :: vs) (upd (upd H dx (.own x)) x (.ins C dx [])) (fun v H2 => v = .non ∧ Q (.ref x) H2) E) :
    wpAny (model X.prog X.w) X.A (call (.ref C) us) (EP X pins σ Q) X.xe s := by
  have hq := h (s.heap.objs.size + 1) s.heap.objs.size (I.hok.fresh (Nat.le_succ _)) (I.hok.fresh (Nat.le_refl _)) (Nat.ne_of_lt (Nat.lt_succ_self _))
  have I2 := Inv.made (C := C) I
  have r2 : Vals (V.ref (s.heap.objs.size + 1) :: vs) (Value.ref (s.heap.objs.size + 1) :: us) := .cons rfl r
  have hl : (Value.ref (s.heap.objs.size + 1) :: us).length = ps.length := by
    have e := r2.length
    rw [F.len _ _ _ _ hq] at e
    exact e.symm
  have hb2 := hb _ (Value.ref (s.heap.objs.size + 1) :: us) I2.kIn (by rw [List.append_nil]; exact hl)
  rw [List.append_nil] at hb2
  refine wpAny_call (make_map (f := f) I.kIn M.makes M.init (beq_iff_eq.mp M.fn) (codeAny_mono (F.run _ X.stack _ _ ⟨Value.ref (s.heap.objs.size + 1) :: us, []⟩ (Value.ref (s.heap.objs.size + 1) :: us) _ _ E (hr.make C us [])
    (I2.env0.make C us []) hb2 r2 hq) fun r s' hq' => ?_))
  cases r with
  | error e => exact hx pins _ _ e s' I2 hq'
  | ok fl =>
    cases fl with
    | ret u =>
      obtain ⟨v, H', J, rv, ev, q⟩ := I2.after hq'
      subst ev
      exact ⟨rv, .ref (s.heap.objs.size + 1), H', J, rfl, q⟩
    | next => exact False.elim hq'
    | brk => exact False.elim hq'
    | cont => exact False.elim hq'
theorem pe_makeS (M : Mk X.K C f) (F : FnOk X.prog X.w X.K X.mg X.base CXt k f fd ps sp) (hr : Room (k + 1) X.A) (hg : Gl X x) (hm : X.mg x = some (.ref C)) (hb : Binds X.K fd ps []) (hx : ∀ σ, PassesAt CXt X σ (E σ))
    (ha : PA X (e :: es) t) (hdb : (x == ("__debug__" : Str)) = false := by decide) (he : starEach (e :: es) X.env = (false, eval e X.env) :: starEach es X.env := by rfl) (hpl : (backTo pos (starEach es X.env)).any (·.1) = false := by rfl) :
    PE X (.Call (.Name x p) (e :: es) [] pos) (tMakeS C sp E t) := by
  refine ⟨fun pins s σ H Q I h => ?_⟩
  refine wpAny_Call_Name_kw (ld_glob I hg hm ?_ hdb)
  refine PySem.W.callWith_K (h₀ := X.base) I.ok.mod.kin M.kp (thn (ha.run pos pins s σ H _ I h) fun us s1 ⟨vs, H1, I1, r, q⟩ => ⟨I1.kIn, ?_⟩) he hpl
  exact run_makeS M F hr hb (hx σ) I1 r q
end
/-! data -/
structure Ob1 (α : Type) where
  a : α
  deriving DecidableEq
structure Ob2 (α β : Type) where
  a : α
  b : β
  deriving DecidableEq
section
variable {α β : Type} [d1 : Dat α] [d2 : Dat β] (C0 : Addr) (f1 f2 : Str)
@[reducible] def dOb1 : Dat (Ob1 α) := ⟨fun C F v x => ∃ p dx v1, v = .ref p ∧ F p = some (.ins C0 dx [(f1, v1)]) ∧ d1.rep C F v1 x.a, fun s ⟨p, dx, v1, e, h, r1⟩ => ⟨p, dx, v1, e, s _ _ h, d1.mono s r1⟩⟩
@[reducible] def dOb2 : Dat (Ob2 α β) := ⟨fun C F v x => ∃ p dx v1 v2, v = .ref p ∧ F p = some (.ins C0 dx [(f1, v1), (f2, v2)]) ∧ d1.rep C F v1 x.a ∧ d2.rep C F v2 x.b,
  fun s ⟨p, dx, v1, v2, e, h, r1, r2⟩ => ⟨p, dx, v1, v2, e, s _ _ h, d1.mono s r1, d2.mono s r2⟩⟩
@[reducible] def oOb1 : @OD (Ob1 α) (dOb1 C0 f1) := @OD.mk (Ob1 α) (dOb1 C0 f1)
  (fun C F v x L => ∃ p dx v1, v = .ref p ∧ L = [(p, .ins C0 dx [(f1, v1)])] ∧ d1.rep C F v1 x.a)
  (fun s ⟨p, dx, v1, e, h, r1⟩ => ⟨p, dx, v1, e, h, d1.mono s r1⟩)
  (fun ⟨p, dx, v1, e, h, r1⟩ s k => ⟨p, dx, v1, e, k (p, .ins C0 dx [(f1, v1)]) (by rw [h]; exact List.mem_cons_self), d1.mono s r1⟩)
@[reducible] def oOb2 : @OD (Ob2 α β) (dOb2 C0 f1 f2) := @OD.mk (Ob2 α β) (dOb2 C0 f1 f2)
  (fun C F v x L => ∃ p dx v1 v2, v = .ref p ∧ L = [(p, .ins C0 dx [(f1, v1), (f2, v2)])] ∧ d1.rep C F v1 x.a ∧ d2.rep C F v2 x.b)
  (fun s ⟨p, dx, v1, v2, e, h, r1, r2⟩ => ⟨p, dx, v1, v2, e, h, d1.mono s r1, d2.mono s r2⟩)
  (fun ⟨p, dx, v1, v2, e, h, r1, r2⟩ s k => ⟨p, dx, v1, v2, e, k (p, .ins C0 dx [(f1, v1), (f2, v2)]) (by rw [h]; exact List.mem_cons_self), d1.mono s r1, d2.mono s r2⟩)
end
/-- an instance without attributes yet -/
structure Ob0 where
  u : Unit
@[reducible] def dOb0 (C0 : Addr) : Dat Ob0 := ⟨fun _ F v _ => ∃ p dx, v = .ref p ∧ F p = some (.ins C0 dx []), fun s ⟨p, dx, e, h⟩ => ⟨p, dx, e, s _ _ h⟩⟩
@[reducible] def oOb0 (C0 : Addr) : @OD Ob0 (dOb0 C0) := @OD.mk Ob0 (dOb0 C0)
  (fun _ _ v _ L => ∃ p dx, v = .ref p ∧ L = [(p, .ins C0 dx [])])
  (fun _ h => h)
  (fun ⟨p, dx, e, h⟩ _ k => ⟨p, dx, e, k (p, .ins C0 dx []) (by rw [h]; exact List.mem_cons_self)⟩)
/-- data that are instances of the class at C0 with these attributes -/
structure IsI {α : Type} (d : Dat α) (C0 : Addr) (ns : List Str) : Prop where
  ins : ∀ {C : GCtx} {F : Hp} {v : V} {x : α}, d.rep C F v x → ∃ p dx fs, v = .ref p ∧ F p = some (.ins C0 dx fs) ∧ ∀ f, f ∉ ns → fs.lookup f = none
/-- its attribute f -/
structure IsF {α β : Type} (d : Dat α) (C0 : Addr) (f : Str) (d2 : Dat β) (g : α → β) : Prop where
  fld : ∀ {C : GCtx} {F : Hp} {v : V} {x : α}, d.rep C F v x → ∃ p dx fs v2, v = .ref p ∧ F p = some (.ins C0 dx fs) ∧ fs.lookup f = some v2 ∧ d2.rep C F v2 (g x)
theorem isI0 {C0 : Addr} : IsI (dOb0 C0) C0 [] := ⟨fun ⟨p, dx, e, h⟩ => ⟨p, dx, [], e, h, fun _ _ => rfl⟩⟩
section
variable {α β : Type} [d1 : Dat α] [d2 : Dat β] {C0 : Addr} {f1 f2 : Str}
theorem isI2 : IsI (dOb2 (α := α) (β := β) C0 f1 f2) C0 [f1, f2] := ⟨fun ⟨p, dx, v1, v2, e, h, _⟩ => ⟨p, dx, _, e, h, fun f hf => by
  rw [List.lookup_cons, beq_eq_false_iff_ne.mpr (fun z => hf (by rw [z]; simp)), List.lookup_cons, beq_eq_false_iff_ne.mpr (fun z => hf (by rw [z]; simp))]; rfl⟩⟩
theorem isF2a : IsF (dOb2 (α := α) (β := β) C0 f1 f2) C0 f1 d1 Ob2.a := ⟨fun ⟨p, dx, v1, v2, e, h, r, _⟩ => ⟨p, dx, _, v1, e, h, by rw [List.lookup_cons, beq_self_eq_true], r⟩⟩
theorem isF2b (hn : (f2 == f1) = false) : IsF (dOb2 (α := α) (β := β) C0 f1 f2) C0 f2 d2 Ob2.b := ⟨fun ⟨p, dx, v1, v2, e, h, _, r⟩ => ⟨p, dx, _, v2, e, h, by rw [List.lookup_cons, hn, List.lookup_cons, beq_self_eq_true], r⟩⟩
end
section
variable {Y : YC} {Γ : List Cell} {k : Ks} {te : TE} {tl : TA} {α β : Type} {d : Dat α} {d2 : Dat β} {C0 : Addr} {f : Str} {ns : List Str}
theorem w_fld {g : α → β} {kx : β → Prop} (hf : IsF d C0 f d2 g) (c : Cls Y.K C0) (n : NoAttr Y.K C0 f) (h : W Y te Γ d fun x => kx (g x)) : W Y (tFld Y.K te f) Γ d2 kx := fun e F σ H s Q q => h e F σ H s _ fun v F' H' x kx' gr r => by
  obtain ⟨p, dx, fs, v2, e1, e2, e3, r2⟩ := hf.fld r
  exact ⟨p, C0, dx, fs, v2, e1, gr.fh _ _ e2, c, n, e3, q v2 F' H' _ kx' gr r2⟩
theorem w_con {kx : Int → Prop} {n : Int} {u : Value} (hf : IsI d C0 ns) (c : Cls Y.K C0) (k0 : Con Y.K C0 f (.int n) u) (hn : f ∉ ns) (h : R Y te Γ d fun _ => kx n) : W Y (tCon Y.K te f) Γ dInt kx := fun e F σ H s Q q => h e F σ H s _ fun v F' H' x kx' gr r => by
  obtain ⟨p, dx, fs, e1, e2, e3⟩ := hf.ins r
  exact ⟨p, C0, dx, fs, .int n, u, e1, e2, c, k0, e3 f hn, q _ F' H' n kx' gr rfl⟩
/-! stores within __init__ -/
theorem z_fld1 {d1 : Dat β} {i : Nat} {pin : Option V} {x : Ob0} (hi : Γ[i]? = some (.own (dOb0 C0) (oOb0 C0) pin x)) (c : Cls Y.K C0) (n : NoAttr Y.K C0 f) (h : W Y te Γ d1 fun y => k.nx (Γ.set i (.own (dOb1 C0 f) (oOb1 C0 f) pin ⟨y⟩))) :
    Z Y (sFld Y.K (tVar i) te f) Γ k := fun e F σ H D hM s ct => h e F σ H s _ fun v F' H' y ky g r => by
  have st := s.grow g
  obtain ⟨L, kw, sl⟩ := st.2
  obtain ⟨o, L1, Li, L2, e1, e2, ⟨v0, rfl, hp, p, dx, rfl, rfl⟩, f2⟩ := sl.get hi
  subst e2
  have hH : H' p = some (.ins C0 dx []) := (kw.ow (p, .ins C0 dx []) (by simp)).2.1
  refine ⟨.ref p, e1, p, C0, dx, [], rfl, hH, c, n, by decide, ct.nx F' σ _ _ ky ⟨s.1, L1 ++ [(p, .ins C0 dx [(f, v)])] ++ L2, ?_, ?_⟩⟩
  · exact (kw.front.put (o' := .ins C0 dx [(f, v)]) (fun _ z => by cases z)).back (Li := [(p, .ins C0 dx [(f, v)])])
  · have q := f2 F' (some (.ref p)) (.own (dOb1 C0 f) (oOb1 C0 f) pin ⟨y⟩) [(p, .ins C0 dx [(f, v)])] (Same.refl _) ⟨.ref p, rfl, hp, p, dx, v, rfl, rfl, r⟩
    have z : σ.set i (some (.ref p)) = σ := by
      apply List.ext_getElem?
      intro j
      by_cases hj : i = j
      · subst hj
        obtain ⟨hlt, hv⟩ := List.getElem?_eq_some_iff.mp e1
        rw [List.getElem?_set_self hlt, e1]
      · rw [List.getElem?_set_ne hj]
    rw [z] at q
    exact q
theorem z_fld2 {α2 : Type} {d1 : Dat β} {dn : Dat α2} {i : Nat} {pin : Option V} {f1 : Str} {x : Ob1 β} (hi : Γ[i]? = some (.own (dOb1 C0 f1) (oOb1 C0 f1) pin x)) (hne : (f1 == f) = false) (c : Cls Y.K C0) (n : NoAttr Y.K C0 f) (h : W Y te Γ dn fun y => k.nx (Γ.set i (.own (dOb2 C0 f1 f) (oOb2 C0 f1 f) pin ⟨x.a, y⟩))) :
    Z Y (sFld Y.K (tVar i) te f) Γ k := fun e F σ H D hM s ct => h e F σ H s _ fun v F' H' y ky g r => by
  have st := s.grow g
  obtain ⟨L, kw, sl⟩ := st.2
  obtain ⟨o, L1, Li, L2, e1, e2, ⟨v0, rfl, hp, p, dx, v1, rfl, rfl, r1⟩, f2⟩ := sl.get hi
  subst e2
  have hH : H' p = some (.ins C0 dx [(f1, v1)]) := (kw.ow (p, .ins C0 dx [(f1, v1)]) (by simp)).2.1
  have hp2 : putF f v [(f1, v1)] = [(f1, v1), (f, v)] := by
    unfold putF
    rw [if_neg (beq_eq_false_iff_ne.mp hne)]
    rfl
  refine ⟨.ref p, e1, p, C0, dx, [(f1, v1)], rfl, hH, c, n, by show 1 < 1000; omega, ?_⟩
  rw [hp2]
  refine ct.nx F' σ _ _ ky ⟨s.1, L1 ++ [(p, .ins C0 dx [(f1, v1), (f, v)])] ++ L2, ?_, ?_⟩
  · exact (kw.front.put (o' := .ins C0 dx [(f1, v1), (f, v)]) (fun _ z => by cases z)).back (Li := [(p, .ins C0 dx [(f1, v1), (f, v)])])
  · have q := f2 F' (some (.ref p)) (.own (dOb2 C0 f1 f) (oOb2 C0 f1 f) pin ⟨x.a, y⟩) [(p, .ins C0 dx [(f1, v1), (f, v)])] (Same.refl _) ⟨.ref p, rfl, hp, p, dx, v1, v, rfl, rfl, r1, r⟩
    have z : σ.set i (some (.ref p)) = σ := by
      apply List.ext_getElem?
      intro j
      by_cases hj : i = j
      · subst hj
        obtain ⟨hlt, hv⟩ := List.getElem?_eq_some_iff.mp e1
        rw [List.getElem?_set_self hlt, e1]
      · rw [List.getElem?_set_ne hj]
    rw [z] at q
    exact q
end
end G

/-! E5: making an instance: __init__ and the call of the class. -/
namespace G
open PySem PySem.Spec PyProof.Rows L2 PySem.W
section
variable {C : GCtx} {Y : YC} {Γ : List Cell} {α : Type} {d : Dat α}
/-- __init__ of the class at C0 over the data Γ: it leaves an instance as post says, or lets an exception out -/
def FnI (C : GCtx) {α : Type} {d : Dat α} (od : OD α) (C0 : Addr) (Γ : List Cell) (post : α → Prop) (xp : Exn → Prop) (vs : List V) (H : Hp) (Q : VK) (E : XK) : Prop :=
  ∃ p dx ws F H1, vs = .ref p :: ws ∧ H1 p = none ∧ H1 dx = none ∧ dx ≠ p ∧ H = upd (upd H1 dx (.own p)) p (.ins C0 dx []) ∧ Gr F H1 F H1 ∧ Slots C F (ws.map some) Γ [] ∧
    (∀ x F' H' L, post x → Wk ⟨F, H1, []⟩ F' L H' → od.orep C F' (.ref p) x L → Q .non H') ∧
    ∀ x d F' H', xp x → Wk ⟨F, H1, []⟩ F' [] H' → x.at F' d → E (.ref x.cls) d H'
theorem FnI.len {od : @OD α d} {C0 : Addr} {post : α → Prop} {xp : Exn → Prop} {vs : List V} {H : Hp} {Q : VK} {E : XK} (h : FnI C od C0 Γ post xp vs H Q E) : vs.length = Γ.length + 1 := by
  obtain ⟨p, dx, ws, F, H1, e, _, _, _, _, _, sl, _⟩ := h
  rw [e, List.length_cons, ← sl.len, List.length_map]
theorem FnI.mono {od : @OD α d} {C0 : Addr} {post post' : α → Prop} {xp xp' : Exn → Prop} {vs : List V} {H : Hp} {Q : VK} {E : XK} (h : FnI C od C0 Γ post xp vs H Q E) (m : ∀ x, post' x → post x) (mx : ∀ x, xp' x → xp x) : FnI C od C0 Γ post' xp' vs H Q E := by
  obtain ⟨p, dx, ws, F, H1, e, a1, a2, a3, a4, a5, sl, q, qx⟩ := h
  exact ⟨p, dx, ws, F, H1, e, a1, a2, a3, a4, a5, sl, fun x F' H' L k => q x F' H' L (m x k), fun x d F' H' k => qx x d F' H' (mx x k)⟩
def SpI (C : GCtx) (sp : Sp) {α : Type} {d : Dat α} (od : OD α) (C0 : Addr) (cs : List Cell) (post : α → Prop) (xp : Exn → Prop) : Prop := ∀ vs H Q E, FnI C od C0 cs post xp vs H Q E → sp vs H Q E
/-- C(..) -/
theorem o_makeS {od : @OD α d} {C0 : Addr} {sp : Sp} {E : L2.St → XK} {tl : TA} {kx : α → Prop} (hE : E = Y.E) (h : WA Y tl Γ fun cs => SpI Y.g sp od C0 cs kx fun x => Y.kx x Γ) : O Y (tMakeS C0 sp E tl) Γ od kx := fun e F σ H s Q q => h e F σ H s _ fun vs F1 H1 cs hc g1 sl => fun p dx hp hdx hne => by
  subst hE
  refine hc _ _ _ _ ⟨p, dx, vs, F1, H1, rfl, hp, hdx, hne, rfl, g1.base, sl, fun x F' H' L kx' g2 r => ⟨rfl, ?_⟩, fun x d F' H' kx' g2 hd => ?_⟩
  · exact q _ F' H' L x kx' (by simpa using g1.trans g2) r
  · exact s.1 x d F' σ H' Γ kx' ((s.grow g1).grow g2).2 hd
/-- THE BODY of an __init__ -/
theorem FnI.body {od : @OD α d} {C0 : Addr} {N : List Str} {post : α → Prop} {xp : Exn → Prop} {vs : List V} {H : Hp} {Q : VK} {E : XK} {t : TS} (h : FnI C od C0 Γ post xp vs H Q E)
    (hz : ∀ p, Z ⟨C, fun _ => E, fun x _ => xp x⟩ t (.own (dOb0 C0) (oOb0 C0) (some (.ref p)) ⟨()⟩ :: (Γ ++ List.replicate (N.length - (Γ.length + 1)) .no)) { nx := fun Γ' => ∃ x, Γ'[0]? = some (.own d od (some (.ref p)) x) ∧ post x, rt := fun _ _ => False, bk := fun _ => False, ct := fun _ => False }) : t { nx := fun _ H' => Q .non H', rt := Q } (L2.start N vs) H := by
  have hl := h.len
  obtain ⟨p, dx, ws, F, H1, e, hp, hdx, hne, eH, g, sl, q, qx⟩ := h
  subst e eH
  have hl2 : ws.length = Γ.length := by simpa using hl
  have k0 : Wk ⟨F, H1, []⟩ (upd F dx (.own p)) [] (upd H1 dx (.own p)) := Wk.lay g hdx
  have k1 : Wk ⟨F, H1, []⟩ (upd F dx (.own p)) [(p, .ins C0 dx [])] (upd (upd H1 dx (.own p)) p (.ins C0 dx [])) := k0.own (by rw [upd_ne (Ne.symm hne)]; exact hp) (fun _ z => by cases z)
  have st : State ⟨C, fun _ => E, fun x _ => xp x⟩ ⟨F, H1, []⟩ (upd F dx (.own p)) (L2.start N (.ref p :: ws)) (upd (upd H1 dx (.own p)) p (.ins C0 dx [])) (.own (dOb0 C0) (oOb0 C0) (some (.ref p)) ⟨()⟩ :: (Γ ++ List.replicate (N.length - (Γ.length + 1)) .no)) := by
    refine ⟨fun x d F' σ' H' Γ' k ⟨L, kw, _⟩ hd => qx x d F' H' k (kw.sub (fun _ z => nomatch z) List.nodup_nil) hd, [(p, .ins C0 dx [])], k1, ?_⟩
    unfold L2.start
    rw [List.length_cons, hl2]
    exact .cons (L := [(p, .ins C0 dx [])]) (L' := []) ⟨.ref p, rfl, fun u z => by cases z; rfl, p, dx, rfl, rfl⟩ (slots_app (sl.mono k1.ff) (slots_pad _))
  refine hz p ⟨F, H1, []⟩ _ (L2.start N (.ref p :: ws)) _ _ rfl st ⟨fun F' σ' H' Γ' hn s' => ?_, fun F' σ' H' Γ' v c L L' z => z.elim, fun _ _ _ _ z => z.elim, fun _ _ _ _ z => z.elim⟩
  obtain ⟨x, hi, px⟩ := hn
  obtain ⟨_, L, kw, sl'⟩ := s'
  obtain ⟨o, L1, Li, L2, e1, e2, ⟨v, rfl, hpin, r⟩, _⟩ := sl'.get hi
  cases hpin _ rfl
  subst e2
  refine q x F' H' Li px (kw.sub (fun p hp => by simp [hp]) ?_) r
  have n1 := kw.front.nd
  rw [List.map_append] at n1
  exact (List.nodup_append.mp n1).1
end
end G

/-! E6: methods, static methods, x in o by an own __contains__. -/
namespace G
open PySem PySem.Spec PyProof.Rows L2 PySem.W
abbrev EF : XK := fun _ _ _ => False
theorem passF {X : Cx} {P : Program} {w : World} : Passes (L2.CX P w) X EF := fun _ _ _ _ _ _ _ c => by
  obtain ⟨_, _, _, _, _, _, _, _, _, _, _, _, h⟩ := c
  exact h.elim
theorem passFS {X : Cx} {P : Program} {w : World} (σ : L2.St) : PassesAt (L2.CX P w) X σ EF := fun _ _ _ _ _ _ c => by
  obtain ⟨_, _, _, _, _, _, _, _, _, _, _, _, h⟩ := c
  exact h.elim
section
variable {X : Cx} {CXt : CXT} {k : Nat} {f C g p : Addr} {mc : Value} {fd : FuncData} {ps : List Str} {sp : Sp} {E : L2.St → XK} {x m : Str} {apos pos : Pos} {e o : Expr} {es : List Expr} {ta : TE} {t : TA} {pl : Sem Bool}
/-- x in o by the class's own __contains__ (a def that raises nothing) -/
def rInO (C : Addr) (sp : Sp) (b0 : Bool) : R2 := fun v x H Q => ∃ a dx fs, x = .ref a ∧ H a = some (.ins C dx fs) ∧ sp [x, v] H (fun r H' => ∃ b, r = .bl b ∧ Q (.bl (if b0 then !b else b)) H') EF
theorem inst_of {pins : List (Addr × Obj)} {σ : L2.St} {H : Hp} {s : Shared} {a dx : Addr} {fs : List (Str × V)} (I : Inv X pins σ H s) (e : H a = some (.ins C dx fs)) : ∃ ox od, InstAt s.heap a ox C od := by
  obtain ⟨mA, O, _⟩ := ins_get I.hok e
  obtain ⟨od, J, _⟩ := O.look
  exact ⟨_, _, J⟩
theorem op_niO (c : Meth X.K C "__contains__" f) (F : FnOk X.prog X.w X.K X.mg X.base CXt k f fd ps sp) (hr : Room k X.A) (hb : Binds X.K fd ps []) (hx : ∀ σ, PassesAt CXt X σ EF) : OpR X (compareOp .NotIn) (rInO C sp true) := by
  intro pins s σ H x y v u Q I rx ry ⟨a, dx, fs, ey, ea, q⟩
  subst ey
  obtain rfl : u = Value.ref a := ry
  obtain ⟨ox, od, J⟩ := inst_of I ea
  obtain ⟨mm, fr⟩ := I.fr
  refine notIn_K fr I.ok.mod.kin J c.at_ c.fn (thn (run_fnS (E := fun _ => EF) (us := [.ref a, v]) (vs := [.ref a, x]) F hr hb (hx σ) I (.cons rfl (.cons rx .nil)) q) fun r s1 ⟨z, H1, I1, rz, b, ez, q1⟩ => ?_)
  subst ez
  obtain rfl : r = Value.bool b := rz
  exact wpAny_truthy_bool ⟨.bl (!b), H1, I1, rfl, q1⟩
end
/-! readings -/
section
variable {Y : YC} {Γ : List Cell} {ta tb : TE} {tl : TA} {α β : Type} {d : Dat α} {d2 : Dat β} {C0 : Addr} {m : Str} {ns : List Str} {sp : Sp} {E : L2.St → XK}
theorem w_inO {b0 : Bool} {kb : Bool → Prop} (hI : IsI d2 C0 ns) (h : W Y ta Γ d fun x => W Y tb Γ d2 fun y => SpX Y.g sp [.val d2 y, .val d x] (fun c => ∃ b, c = .val dBool b ∧ kb (if b0 then !b else b)) fun _ => False) : W Y (tOp (rInO C0 sp b0) ta tb) Γ dBool kb := fun e F σ H s Q q => h e F σ H s _ fun v1 F1 H1 x h1 g1 r1 => h1 e F1 σ H1 (s.grow g1) _ fun v2 F2 H2 y hc g2 r2 => by
  obtain ⟨p, dx, fs, e1, e2, _⟩ := hI.ins r2
  refine ⟨p, dx, fs, e1, g2.fh _ _ e2, ?_⟩
  refine hc [v2, v1] H2 _ _ ⟨F2, g2.base, .cons (L := []) ⟨rfl, v2, rfl, r2⟩ (.cons (L := []) ⟨rfl, v1, rfl, d.mono g2.ff r1⟩ .nil), fun v' F' H' c L ⟨b, ec, kr⟩ g3 rc => ?_, fun _ _ _ _ z => z.elim⟩
  subst ec
  obtain ⟨e4, v3, e5, rv⟩ := rc
  subst e4
  cases (Option.some.inj e5)
  cases (show v' = .bl b from rv)
  exact ⟨b, rfl, q _ F' H' _ kr ((g1.trans0 g2).trans0 g3) rfl⟩
end
end G

/-! E7: the classes' addresses; what stands within a class. -/
namespace G
open PySem PySem.Spec PyProof.Rows L2 PySem.W
def clsB : Stmt → List Stmt
  | .ClassDef (body := b) .. => b
  | _ => []
/-- the exception's __init__ of the text: a function that captured its class -/
def initNF (name qual : Str) (st : Stmt) (cc c : Addr) : NdefX.NF := ⟨name, qual, defArgs st, defBody st, defScope st, [(("__class__" : Str), cc)], c⟩
end G

section
set_option maxHeartbeats 2000000
/-! E8: enumerate over a tuple. -/
namespace G
open PySem PySem.Spec PyProof.Rows L2 PySem.W
open AutoSeq1 (wpAny_loadPart')
theorem meets_enumT (l : Addr) (items : Array Value) (n : Nat) (dct : Option Addr) (sl : Array (Option Value)) :
    Meets (Builtin.«enumerate.__new__» ⟨[.type "enumerate", .ref l], []⟩) (fun _ R s => s.heap.get? l = some { cls := .type "tuple", dict := dct, data := .seq items n, slots := sl } ∧
      R (.ok (.ret (.ref (s.heap.push { cls := .type "tuple_iterator", data := .fields #[.ref l, .int 0 0] }).objs.size)))
        { s with heap := (s.heap.push { cls := .type "tuple_iterator", data := .fields #[.ref l, .int 0 0] }).push { cls := .type "enumerate", data := .fields #[.none, .bool false, .ref s.heap.objs.size, rawInt 0, .none, .none] } }) :=
  .of_wp fun prog w A R s h => by
    obtain ⟨hp, g, d, tk, os⟩ := s; obtain ⟨hl, h⟩ := h
    have hsub := sub_enumerate
    have hL : Heap.IsTuple (Shared.heap ⟨hp, g, d, tk, os⟩) l items := ⟨_, hl, rfl, n, rfl⟩
    wp_walk using wpAny_loadPart' hl
    refine wpAny_stack_any fun st => wpAny_pure ?_
    split
    · rename_i c _ _ _ _ _
      cases (c == Value.type "enumerate")
      · wp_walk using wpAny_loadPart' hl, wpAny_pyIter_tuple hL
        exact ⟨_, rfl, h⟩
      · wp_walk using wpAny_loadPart' hl, wpAny_pyIter_tuple hL
        exact ⟨_, rfl, h⟩
    · wp_walk using wpAny_loadPart' hl, wpAny_pyIter_tuple hL
      exact ⟨_, rfl, h⟩
section
variable {prog : Program} {w : World} {A : Around} {E : Value → Shared → Prop} {s : Shared}
theorem call_enumerate_tup {l : Addr} {items : Array Value} {Q : Value → Shared → Prop} (hL : s.heap.IsTuple l items)
    (h : ∀ h', IsEnum h' (s.heap.objs.size + 1) s.heap.objs.size 0 .none → h'.IsTupleIter s.heap.objs.size l 0 → h'.objs.size = s.heap.objs.size + 2 →
      (∀ b o, s.heap.get? b = some o → h'.get? b = some o) → Q (.ref (s.heap.objs.size + 1)) { s with heap := h' }) :
    wpAny (model prog w) A (call (.type "enumerate") [.ref l]) Q E s := by
  obtain ⟨⟨c, dct, dt, sl⟩, hl, hc, n, hd⟩ := hL
  replace hc : c = .type "tuple" := hc
  replace hd : dt = .seq items n := hd
  subst hc hd
  refine callType_new F.called_enumerate (by decide) (F.typeCall_enumerate_1 _) (F.newCall_enumerate_1 _) (fun obj => F.args_object_init_2 obj _) F.entry_enumerate_new
    (meets_enumT l items n dct sl) ⟨hl, ?_⟩
  have hz : (s.heap.push { cls := .type "tuple_iterator", data := .fields #[.ref l, .int 0 0] }).objs.size = s.heap.objs.size + 1 := Heap.size_push ..
  show _ ∧ _
  rw [hz]
  have he : IsEnum ((s.heap.push { cls := .type "tuple_iterator", data := .fields #[.ref l, .int 0 0] }).push
      { cls := .type "enumerate", data := .fields #[.none, .bool false, .ref s.heap.objs.size, rawInt 0, .none, .none] }) (s.heap.objs.size + 1) s.heap.objs.size 0 .none := by
    have := Heap.get?_push_size (s.heap.push { cls := .type "tuple_iterator", data := .fields #[.ref l, .int 0 0] })
      (o := { cls := .type "enumerate", data := .fields #[.none, .bool false, .ref s.heap.objs.size, rawInt 0, .none, .none] }) rfl
    rw [hz] at this; exact this
  refine ⟨⟨_, he, rfl⟩, h _ he ⟨_, Heap.get?_push_of_some _ (Heap.get?_push_size _ rfl), rfl, rfl⟩ (by rw [Heap.size_push, hz]) fun b o x => Heap.get?_push_of_some _ (Heap.get?_push_of_some _ x)⟩
end
/-- the tuple at a at each turn, each item in a new pair -/
def IteT (K : Frag) (a : Addr) : It :=
  ⟨fun i H => ∃ (xs : List V) (x : V), SqT K H a xs ∧ xs[i]? = some x, fun i H v H' => ∃ T x, v = .ref T ∧ H T = none ∧ H' = upd H T (.tup [.int (i : Nat), x]) ∧ ∀ xs, SqT K H a xs → xs[i]? = some x, fun i H => ∃ xs : List V, SqT K H a xs ∧ xs.length ≤ i⟩
theorem turn_enumT {P : Program} {w : World} {K : Frag} {elts : List Expr} {kk : Nat} {tpos : Pos} (a e it : Addr) :
    Turn P w K (.Tuple elts kk tpos) (IteT K a) [e, it] e (fun i h => (∃ old, IsEnum h e it ((i : Nat) : Int) old) ∧ h.IsTupleIter it a i ∧ e ≠ it) where
  mem := by simp
  obj := fun i h st b hb => by
    obtain ⟨⟨old, he⟩, ⟨o, ho, hc, hd⟩, _⟩ := st
    have e' : b = e ∨ b = it := by simpa using hb
    rcases e' with z | z
    · rw [z]; exact ⟨_, he, fun v q => nomatch q⟩
    · rw [z]; exact ⟨o, ho, fun v q => by rw [hd] at q; cases q⟩
  keep := fun i h h' st k => let ⟨⟨old, he⟩, hi, hne⟩ := st; ⟨⟨old, k e (by simp) _ he⟩, hi.at fun o q => k it (by simp) o q, hne⟩
  item := by
    intro X hP hw hK hc i pins s σ H E I hf st hg
    subst hP hw hK
    obtain ⟨⟨old, he⟩, hit, hne⟩ := st
    obtain ⟨xs, x, hq, hx⟩ := hg
    obtain ⟨its, rv, p, hz⟩ := I.tuple hq
    obtain ⟨u, hu, ru⟩ := rv.get hx
    have hel : e < s.heap.objs.size := Heap.lt_size he
    have hil : it < s.heap.objs.size := by obtain ⟨_, q, _⟩ := hit; exact Heap.lt_size q
    have pT : s.heap.IsTuple a its.toArray := p
    have ane : a ≠ it := fun z => by
      obtain ⟨o, q1, q2, _⟩ := hit
      obtain ⟨o2, q3, q4, _⟩ := pT
      rw [z, q1] at q3
      cases q3
      rw [q2] at q4
      exact absurd (Value.type.inj q4) (by decide)
    have ane2 : e ∉ [it, a] := fun z => by
      rcases List.mem_cons.mp z with z | z
      · exact hne z
      · rw [List.mem_singleton] at z
        obtain ⟨o2, q3, q4, _⟩ := pT
        rw [← z, show s.heap.get? e = _ from he] at q3
        cases q3
        exact absurd (Value.type.inj q4) (by decide)
    have hlt : i < its.toArray.size := by
      have := (List.getElem?_eq_some_iff.mp hu).1
      simpa using this
    have hh : X.A.in1.handled = none := I.ok.hd hc
    refine wpAny_pyNext_enum_itemD (Draws.tuple hh it a ane its.toArray) he ⟨hit, pT⟩ hlt hne ane2 fun y h' tk hy ho hst hT hsz hk => ?_
    have ey : y = u := by
      have h1 : its.toArray[i]? = some y := hy
      rw [List.getElem?_toArray, hu] at h1
      exact (Option.some.inj h1).symm
    subst ey
    refine ⟨_, rfl, wpAny_letOwnedTupleGo_enum (s := { s with heap := h', toks := tk + 1 }) ho fun h'' he' sb => ?_⟩
    have hT2 : h''.get? s.heap.objs.size = some { cls := .type "tuple", data := .seq #[.int i tk, y] } := (sb.2 _ (Nat.ne_of_gt hel)).trans hT
    have new : ObjOk X.prog X.w (upd H s.heap.objs.size (.tup [.int (i : Nat), x])) h'' s.heap.objs.size (.tup [.int (i : Nat), x]) :=
      ⟨by show 2 ≤ sizeLine; decide, [.int i tk, y], .cons ⟨_, rfl⟩ (.cons ru .nil), ⟨_, hT2, rfl, _, rfl⟩⟩
    have I1 : Inv X pins σ (upd H s.heap.objs.size (.tup [.int (i : Nat), x])) { s with heap := h'', toks := tk + 1 } :=
      I.turnedNew (ch := [e, it]) (fun b ob hb q => (sb.2 b (fun z => hb (by simp [z]))).trans (hk b ob (fun z => hb (by simp [z])) (fun z => hb (by simp [z])) q)) hf (Nat.le_refl _) new
    refine ⟨.ref s.heap.objs.size, _, I1, rfl, ⟨_, x, rfl, I.hok.fresh (Nat.le_refl _), rfl, fun ys hy => by rw [I.tuple_inj hy hq]; exact hx⟩, ⟨⟨y, ?_⟩, hst.1.at fun o q => (sb.2 it (Ne.symm hne)).trans q, hne⟩, fun b hb => ?_⟩
    · have e1 : ((i + 1 : Nat) : Int) = (i : Int) + 1 := by omega
      rw [e1]; exact he'
    · have hb' : b < s.heap.objs.size := by
        have e' : b = e ∨ b = it := by simpa using hb
        rcases e' with z | z
        · rw [z]; exact hel
        · rw [z]; exact hil
      rw [upd_ne (Nat.ne_of_lt hb')]
      exact (hf b hb).1
  done := by
    intro X hP hw hK hc i pins s σ H E I hf st hg
    subst hP hw hK
    obtain ⟨⟨old, he⟩, hit, hne⟩ := st
    obtain ⟨xs, hq, hx⟩ := hg
    obtain ⟨its, rv, p, hz⟩ := I.tuple hq
    obtain ⟨f0, f1, f2, f3, f4, f5⟩ := hf it (by simp)
    have hl := rv.length
    have pT : s.heap.IsTuple a its.toArray := p
    have ane : a ≠ it := fun z => by
      obtain ⟨o, q1, q2, _⟩ := hit
      obtain ⟨o2, q3, q4, _⟩ := pT
      rw [z, q1] at q3
      cases q3
      rw [q2] at q4
      exact absurd (Value.type.inj q4) (by decide)
    have hh : X.A.in1.handled = none := I.ok.hd hc
    have hTy : s.TypeIs (.ref e) "enumerate" := ⟨_, he, rfl⟩
    unfold pyNext
    refine wpAny_bind (wpAny_attempt (wpAny_callSpecial?_slot (name := Str.ofString "__next__") hTy F.slot_enumerate_next
      (wpAny_call_entry F.slot_enumerate_next hTy F.entry_enumerate_next ?_ (F.args_enumerate_next_1 _))))
    show wpAny _ _ (field (.ref e) 2 >>= _) _ _ _
    refine wpAny_bind (wpAny_field he rfl (x := .ref it) rfl ?_)
    refine wpAny_bind (wpAny_nextOf_tuple_end hh hit pT (by simp; omega) fun h' x he' hx' => ?_)
    obtain ⟨o, ho, hc2⟩ := hx'
    refine wpAny_bind (wpAny_isInstance (T := "StopIteration") (b := true) ⟨o, ho, hc2⟩ isSubtype_stop ?_)
    exact wpAny_pure ⟨rfl, I.turned (t' := s.toks) (fun b o hb q => he' b o hb q) f0 f1 f3 f4 f5⟩
  self := fun A i s Q E st h => let ⟨⟨_, he⟩, _⟩ := st; wpAny_pyIter_enum he h
def iEnumT (K : Frag) (ta : TA) : TI := fun σ H R => ta σ H fun vs H1 => ∃ a xs, vs = [.ref a] ∧ SqT K H1 a xs ∧ R (IteT K a) H1
theorem pi_enumT {X : Cx} {e : Expr} {ta : TA} {p pos tpos : Pos} {elts : List Expr} {kk : Nat} (hg : Gl X "enumerate") (hm : X.mg "enumerate" = none) (ha : PA X [e] ta) (hs : starEach [e] X.env = [(false, eval e X.env)] := by rfl) :
    PI X (.Tuple elts kk tpos) (.Call (.Name "enumerate" p) [e] [] pos) (iEnumT X.K ta) := by
  refine ⟨fun pins s σ H R I h => ?_⟩
  refine Call_ (ld_blt I hg hm boot_enumerate (PyProof.Rows.callWith_type1 (thn (ha.run pos pins s σ H _ I h) fun us s1 ⟨vs, H1, I1, r1, q1⟩ => ?_) hs rfl))
  obtain ⟨a, xs, ex, hq, q⟩ := q1
  subst ex
  cases r1 with
  | cons r rr =>
    cases rr
    cases r
    obtain ⟨its, rv, p', hz⟩ := I1.tuple hq
    refine call_enumerate_tup (show s1.heap.IsTuple a its.toArray from p') fun h' he hit hsz hk => wpAny_pyIter_enum he ?_
    have I2 : Inv X pins σ H1 { s1 with heap := h' } := I1.kept (t' := s1.toks) hk
    refine ⟨s1.heap.objs.size + 1, [s1.heap.objs.size + 1, s1.heap.objs.size], _, _, H1, rfl, I2, turn_enumT a (s1.heap.objs.size + 1) s1.heap.objs.size, ⟨⟨.none, he⟩, hit, Nat.succ_ne_self _⟩, fun b hb => ?_, q⟩
    have e' : b = s1.heap.objs.size + 1 ∨ b = s1.heap.objs.size := by simpa using hb
    have hle : s1.heap.objs.size ≤ b := by
      rcases e' with z | z
      · rw [z]; exact Nat.le_add_right _ _
      · rw [z]; exact Nat.le_refl _
    exact I1.fpOk hle (I1.hok.fresh hle)
end G
end

/-! E9: for i, x in enumerate(..): a statement's rule. -/
namespace G
open PySem PySem.Spec PyProof.Rows L2 PySem.W
section
variable {Y : YC} {Γ : List Cell} {te : TE} {α : Type} {d : Dat α} {k : Ks} {ts : TS} {g : TG}
def enumI {α : Type} (xs : List α) (i : Nat) : Option (Int × α) := xs[i]?.map fun x => ((i : Int), x)
theorem z_enumT (h : W Y te Γ (dTup (d := d)) fun xs => Body Y g ts (dPair (d1 := dInt) (d2 := d)) k (enumI xs.l) xs.l.length Γ) : Z Y (tFor (iEnumT Y.K (tCons te tNil)) g ts) Γ k := fun e F σ H D hM s c => h e F σ H s _ fun v F1 H1 xs ⟨I, h0, hs, hd⟩ g1 ⟨a, vs, e1, hq, r⟩ => by
  subst e1
  have s1 := s.grow g1
  obtain ⟨hx1, L1, kw1, _⟩ := id s1
  have c1 := c.into hx1 kw1
  have hqT : ∀ {H' : Hp} {F' : Hp}, Same F1 F' → Same F' H' → SqT Y.K H' a vs := fun s1 s2 => (hq.mono (s1.trans s2)).sq
  refine ⟨a, vs, rfl, hqT (Same.refl _) g1.fh, fun i m σ H => m = vs.length - i ∧ i ≤ vs.length ∧ ∃ F' Γ', State Y ⟨F1, e.H0, e.M⟩ F' σ H Γ' ∧ I i Γ', ⟨vs.length, rfl, Nat.zero_le _, F1, Γ, s1.into, h0⟩, fun i m σ H ⟨hm0, hi, F', Γ', st, hI⟩ => ?_⟩
  have hq' := hqT st.ff st.fh
  by_cases hlt : i < vs.length
  · right
    have hw : vs[i]? = some vs[i] := by simp [hlt]
    generalize vs[i] = w at hw
    obtain ⟨x, hx, rx⟩ := r.getV hw
    refine ⟨⟨vs, w, hq', hw⟩, fun σ' H' => ∃ F3 Γ3, State Y ⟨F1, e.H0, e.M⟩ F3 σ' H' Γ3 ∧ I (i + 1) Γ3, fun σ' H' ⟨F3, Γ3, s3, i3⟩ => ⟨vs.length - (i + 1), by omega, rfl, by omega, F3, Γ3, s3, i3⟩, fun x0 H' ⟨T, x', e2, hT, e3, hall⟩ => ?_⟩
    subst e2 e3
    have ex : x' = w := by
      have := hall vs hq'
      rw [hw] at this
      exact (Option.some.inj this).symm
    subst ex
    have gr : Gr F' H (upd F' T (.tup [.int (i : Nat), x'])) (upd H T (.tup [.int (i : Nat), x'])) := st.base.lay hT
    have st' := st.grow gr
    refine hs i ((i : Int), x) Γ' (by unfold enumI; rw [hx]; rfl) hI _ _ σ _ _ st' ⟨T, .int (i : Nat), x', rfl, .inl upd_same, rfl, d.mono (st.ff.trans gr.ff) rx⟩ _ fun σ2 Γ2 h2 st2 => ?_
    exact h2 ⟨F1, e.H0, e.M⟩ _ σ2 _ _ hM st2 ⟨fun F3 σ3 H3 Γ3 k3 st3 => ⟨F3, Γ3, st3, k3⟩, c1.rt, c1.nx, fun F3 σ3 H3 Γ3 k3 st3 => ⟨F3, Γ3, st3, k3⟩⟩
  · left
    have hi2 : i = xs.l.length := by rw [← r.len]; omega
    subst hi2
    exact ⟨⟨vs, hq', by rw [r.len]; exact Nat.le_refl _⟩, c1.nx F' σ H Γ' (hd Γ' hI) st⟩
theorem z_enum (h : W Y te Γ (dList (d := d)) fun xs => Body Y g ts (dPair (d1 := dInt) (d2 := d)) k (enumI xs) xs.length Γ) : Z Y (tFor (iEnum Y.K (tCons te tNil)) g ts) Γ k := fun e F σ H D hM s c => h e F σ H s _ fun v F1 H1 xs ⟨I, h0, hs, hd⟩ g1 ⟨a, vs, e1, hq, r⟩ => by
  subst e1
  have s1 := s.grow g1
  obtain ⟨hx1, L1, kw1, _⟩ := id s1
  have c1 := c.into hx1 kw1
  have hqT : ∀ {H' : Hp} {F' : Hp}, Same F1 F' → Same F' H' → SqL Y.K H' a vs := fun s1 s2 => (s1.trans s2).seq hq
  refine ⟨a, vs, rfl, hqT (Same.refl _) g1.fh, fun i m σ H => m = vs.length - i ∧ i ≤ vs.length ∧ ∃ F' Γ', State Y ⟨F1, e.H0, e.M⟩ F' σ H Γ' ∧ I i Γ', ⟨vs.length, rfl, Nat.zero_le _, F1, Γ, s1.into, h0⟩, fun i m σ H ⟨hm0, hi, F', Γ', st, hI⟩ => ?_⟩
  have hq' := hqT st.ff st.fh
  by_cases hlt : i < vs.length
  · right
    have hw : vs[i]? = some vs[i] := by simp [hlt]
    generalize vs[i] = w at hw
    obtain ⟨x, hx, rx⟩ := r.getV hw
    refine ⟨⟨vs, w, hq', hw⟩, fun σ' H' => ∃ F3 Γ3, State Y ⟨F1, e.H0, e.M⟩ F3 σ' H' Γ3 ∧ I (i + 1) Γ3, fun σ' H' ⟨F3, Γ3, s3, i3⟩ => ⟨vs.length - (i + 1), by omega, rfl, by omega, F3, Γ3, s3, i3⟩, fun x0 H' ⟨T, x', e2, hT, e3, hall⟩ => ?_⟩
    subst e2 e3
    have ex : x' = w := by
      have := hall vs hq'
      rw [hw] at this
      exact (Option.some.inj this).symm
    subst ex
    have gr : Gr F' H (upd F' T (.tup [.int (i : Nat), x'])) (upd H T (.tup [.int (i : Nat), x'])) := st.base.lay hT
    have st' := st.grow gr
    refine hs i ((i : Int), x) Γ' (by unfold enumI; rw [hx]; rfl) hI _ _ σ _ _ st' ⟨T, .int (i : Nat), x', rfl, .inl upd_same, rfl, d.mono (st.ff.trans gr.ff) rx⟩ _ fun σ2 Γ2 h2 st2 => ?_
    exact h2 ⟨F1, e.H0, e.M⟩ _ σ2 _ _ hM st2 ⟨fun F3 σ3 H3 Γ3 k3 st3 => ⟨F3, Γ3, st3, k3⟩, c1.rt, c1.nx, fun F3 σ3 H3 Γ3 k3 st3 => ⟨F3, Γ3, st3, k3⟩⟩
  · left
    have hi2 : i = xs.length := by rw [← r.len]; omega
    subst hi2
    exact ⟨⟨vs, hq', by rw [r.len]; exact Nat.le_refl _⟩, c1.nx F' σ H Γ' (hd Γ' hI) st⟩
end
end G

noncomputable section
/-! M0: the monad of the models, judgements that tie readings to models. -/
namespace G
open PySem L2

/-- the classes of the exceptions -/
inductive XC where
  | NotAPairing | NothingToUndo | NothingToRedo | BadLabel | NameTaken | NoSuchName | StillTied | ComesapartError | TooLarge | BadLine | UnknownPlace | BadSides | UnknownSide | UnknownTie | BadStep | Repeated | NotATurningCycle | UnknownPoint | UnknownPair | SamePoint | NoLinks | BadLink | BadNode | UnknownTerm | NotSameSteps | NoFacing | NotARing | NotAJoint | NotShut | BadCut | NoSuchCut | Locked | Nothing | BadName | BadSign | BadMove | NoTerm | NeverOpened | BoundTwice | UnknownName | UsedTwice | NotUsed | NotARedex | NotBalanced | NotAnArrow | NotAPermutation | BadSetting | BadSigns | BadChoice | NotOuter
  deriving DecidableEq
/-- an exception of a model: its class by name, its attributes -/
structure PX where
  cls : XC
  fs : Option (List (Str × XV))
  deriving DecidableEq
/-- what a piece of a model gives: a value, an exception, or nothing that is spoken of -/
inductive M (α : Type) where
  | ok (x : α) : M α
  | exc (x : PX) : M α
  | bad : M α
instance : Monad M where
  pure := M.ok
  bind m f := match m with | .ok x => f x | .exc x => .exc x | .bad => .bad
namespace M
variable {α β γ : Type}
@[simp] theorem ok_bind (x : α) (f : α → M β) : (M.ok x >>= f) = f x := rfl
@[simp] theorem exc_bind (x : PX) (f : α → M β) : (M.exc x >>= f) = .exc x := rfl
@[simp] theorem bad_bind (f : α → M β) : ((M.bad : M α) >>= f) = .bad := rfl
@[simp] theorem pure_ok (x : α) : (pure x : M α) = .ok x := rfl
@[simp] theorem assoc (m : M α) (f : α → M β) (g : β → M γ) : ((m >>= f) >>= g) = (m >>= fun x => f x >>= g) := by cases m <;> rfl
@[simp] theorem bind_ok (m : M α) : (m >>= M.ok) = m := by cases m <;> rfl
def nb (m : M α) : Prop := m ≠ .bad
theorem nb1 {m : M α} {f : α → M β} (h : (m >>= f).nb) : m.nb := fun z => h (by rw [z]; rfl)
theorem nb2 {m : M α} {f : α → M β} {x : α} (h : (m >>= f).nb) (e : m = .ok x) : (f x).nb := fun z => h (by rw [e]; exact z)
/-- a guard: m where p holds (the choice is Classical: nothing is to be reckoned out) -/
def asrt (p : Prop) (m : M α) : M α := @ite _ p (Classical.propDecidable p) m .bad
theorem asrt_pos {p : Prop} {m : M α} (h : p) : asrt p m = m := @if_pos p (Classical.propDecidable p) h _ _ _
theorem asrt_nb {p : Prop} {m : M α} (h : (asrt p m).nb) : p := by
  unfold asrt at h
  split at h
  · assumption
  · exact absurd rfl h
def ofO : Option α → M α
  | some x => .ok x
  | none => .bad
@[simp] theorem ofO_some (x : α) : ofO (some x) = .ok x := rfl
/-- xs.append(y) -/
def push (xs : List α) (m : M α) : M (List α) := m >>= fun y => asrt (xs.length < PySem.sizeLine) (.ok (xs ++ [y]))
theorem push_ok {xs : List α} {y : α} (h : xs.length < PySem.sizeLine) : push xs (.ok y) = .ok (xs ++ [y]) := asrt_pos h
/-- xs[i] -/
def ix (xs : List α) (i : Int) : M α := ofO (atI xs i)
/-- range(n), range(a, b) -/
def range (n : Int) : M (List Int) := asrt (-(2 ^ 62) ≤ n ∧ n ≤ PySem.sizeLine) (.ok (rngL 0 n.toNat))
/-- for x in xs, nothing leaves it early -/
def fold {σ : Type} (f : σ → α → M σ) : σ → List α → M σ
  | s, [] => .ok s
  | s, x :: xs => f s x >>= fun s' => fold f s' xs
theorem fold_snoc {σ : Type} (f : σ → α → M σ) (x : α) : ∀ (xs : List α) (s : σ), fold f s (xs ++ [x]) = (fold f s xs >>= fun s' => f s' x)
  | [], s => by simp [fold]
  | y :: xs, s => by simp only [List.cons_append, fold, assoc]; congr 1; funext s'; exact fold_snoc f x xs s'
end M
/-- the end of a turn -/
inductive Ct (σ ρ : Type) where
  | nx (s : σ) : Ct σ ρ
  | rt (r : ρ) : Ct σ ρ
  | bk (s : σ) : Ct σ ρ
/-- behind a loop -/
def Ct.go {σ ρ τ : Type} (c : Ct σ ρ) (r : ρ → M τ) (n : σ → M τ) : M τ := match c with | .nx s => n s | .rt x => r x | .bk s => n s
namespace M
variable {α β γ σ ρ : Type}
/-- for x in xs, with returns or breaks -/
def foldC (f : σ → α → M (Ct σ ρ)) : σ → List α → M (Ct σ ρ)
  | s, [] => .ok (.nx s)
  | s, x :: xs => f s x >>= fun c => match c with | .nx s' => foldC f s' xs | c => .ok c
/-- n turns of a while, at most -/
def loopN (c : σ → M Bool) (f : σ → M σ) : Nat → σ → M σ
  | 0, _ => .bad
  | n + 1, s => c s >>= fun b => if b then f s >>= loopN c f n else .ok s
open Classical in
noncomputable def loop (c : σ → M Bool) (f : σ → M σ) (s : σ) : M σ := if h : ∃ n, loopN c f n s ≠ .bad then loopN c f h.choose s else .bad
/-- no exception comes out of it -/
def calm : M α → M α
  | .exc _ => .bad
  | m => m
@[simp] theorem calm_of_ok (x : α) : calm (.ok x : M α) = .ok x := rfl
theorem calm_nb {m : M α} (h : (calm m).nb) : ∃ x, m = .ok x := by
  cases m with
  | ok x => exact ⟨x, rfl⟩
  | exc x => exact absurd rfl h
  | bad => exact absurd rfl h
/-- [f x for x in xs if p x] -/
def comp (p : α → M Bool) (f : α → M β) : List α → M (List β)
  | [] => .ok []
  | x :: xs => calm (p x) >>= fun b => if b then calm (f x) >>= fun y => comp p f xs >>= fun ys => .ok (y :: ys) else comp p f xs
theorem comp_app (p : α → M Bool) (f : α → M β) : ∀ (xs ys : List α), comp p f (xs ++ ys) = (comp p f xs >>= fun a => comp p f ys >>= fun b => .ok (a ++ b))
  | [], ys => by simp [comp]
  | x :: xs, ys => by
    simp only [List.cons_append, comp, assoc]
    cases calm (p x) with
    | bad => rfl
    | exc x => rfl
    | ok b =>
      simp only [ok_bind]
      cases b with
      | false => exact comp_app p f xs ys
      | true =>
        simp only [if_true, assoc]
        cases calm (f x) with
        | bad => rfl
        | exc x => rfl
        | ok y =>
          simp only [ok_bind]
          rw [comp_app p f xs ys]
          cases comp p f xs <;> cases comp p f ys <;> rfl
theorem comp_ok (p : α → Bool) (f : α → β) : ∀ xs : List α, comp (fun x => .ok (p x)) (fun x => .ok (f x)) xs = .ok ((xs.filter p).map f)
  | [] => rfl
  | x :: xs => by
    simp only [comp, calm_of_ok, ok_bind]
    cases h : p x with
    | true => rw [if_pos rfl, comp_ok p f xs, List.filter_cons_of_pos h]; rfl
    | false => rw [if_neg (by simp), comp_ok p f xs, List.filter_cons_of_neg (by simp [h])]
theorem comp_map (f : α → β) (xs : List α) : comp (fun _ => .ok true) (fun x => .ok (f x)) xs = .ok (xs.map f) := by
  rw [comp_ok (fun _ => true) f xs]
  congr 2
  exact List.filter_eq_self.mpr fun _ _ => rfl
/-- what each turn gives, told for the items -/
theorem comp_of {p : α → M Bool} {f : α → M β} (p' : α → Bool) (f' : α → β) : ∀ xs : List α, (∀ x ∈ xs, p x = .ok (p' x)) → (∀ x ∈ xs, p' x = true → f x = .ok (f' x)) → comp p f xs = .ok ((xs.filter p').map f')
  | [], _, _ => rfl
  | x :: xs, h1, h2 => by
    have ih := comp_of p' f' xs (fun y hy => h1 y (List.mem_cons_of_mem _ hy)) fun y hy => h2 y (List.mem_cons_of_mem _ hy)
    simp only [comp]
    rw [h1 x List.mem_cons_self]
    simp only [calm_of_ok, ok_bind]
    cases h : p' x with
    | true => rw [if_pos rfl, h2 x List.mem_cons_self h, ih, List.filter_cons_of_pos h]; rfl
    | false => rw [if_neg (by simp), ih, List.filter_cons_of_neg (by simp [h])]
theorem fold_app {σ : Type} (f : σ → α → M σ) : ∀ (xs ys : List α) (s : σ), fold f s (xs ++ ys) = (fold f s xs >>= fun s' => fold f s' ys)
  | [], ys, s => by simp [fold]
  | x :: xs, ys, s => by
    simp only [List.cons_append, fold, assoc]
    congr 1; funext s'; exact fold_app f xs ys s'
theorem foldC_app (f : σ → α → M (Ct σ ρ)) : ∀ (xs ys : List α) (s : σ), foldC f s (xs ++ ys) = (foldC f s xs >>= fun c => match c with | .nx s' => foldC f s' ys | c => .ok c)
  | [], ys, s => by simp [foldC]
  | x :: xs, ys, s => by
    simp only [List.cons_append, foldC, assoc]
    congr 1; funext c
    cases c with
    | nx s' => exact foldC_app f xs ys s'
    | rt r => rfl
    | bk s' => rfl
/-- no turn leaves -/
theorem foldC_unit {f : Unit → α → M (Ct Unit ρ)} : ∀ xs : List α, (∀ x ∈ xs, f () x = .ok (.nx ())) → foldC f () xs = .ok (.nx ())
  | [], _ => rfl
  | x :: xs, h => by
    simp only [foldC]
    rw [h x List.mem_cons_self]
    exact foldC_unit xs fun y hy => h y (List.mem_cons_of_mem _ hy)
/-- enumerate(xs) -/
def enumL (xs : List α) : List (Int × α) := xs.zipIdx.map fun p => ((p.2 : Int), p.1)
theorem enumL_get (xs : List α) (i : Nat) : enumI xs i = (enumL xs)[i]? := by
  unfold enumI enumL
  rw [List.getElem?_map, List.getElem?_zipIdx]
  cases xs[i]? <;> simp
theorem enumL_len (xs : List α) : (enumL xs).length = xs.length := by simp [enumL]
end M

/-! ### judgements -/
/-- a model's exception over the classes' places -/
def PX.x (tx : XC → Addr) (x : PX) : Exn := ⟨tx x.cls, x.fs⟩
section
variable (tx : XC → Addr) (Y : YC)
def XkM {α : Type} (Γ : List Cell) (m : M α) : Prop := ∀ x, m = .exc x → Y.kx (x.x tx) Γ
/-- the term evaluates to frozen data as the model says -/
def We (te : TE) (Γ : List Cell) {α : Type} (d : Dat α) (m : M α) : Prop := m.nb → XkM tx Y Γ m → W Y te Γ d (m = .ok ·)
def Re (te : TE) (Γ : List Cell) {α : Type} (d : Dat α) (m : M α) : Prop := m.nb → XkM tx Y Γ m → R Y te Γ d (m = .ok ·)
def Oe (te : TE) (Γ : List Cell) {α : Type} {d : Dat α} (od : OD α) (m : M α) : Prop := m.nb → XkM tx Y Γ m → O Y te Γ od (m = .ok ·)
def Te (t : TT) (Γ : List Cell) (m : M Bool) : Prop := m.nb → XkM tx Y Γ m → T Y t Γ (m = .ok ·)
end
section
variable {tx : XC → Addr} {Y : YC} {Γ : List Cell} {te ta tb tc td : TE} {t u : TT} {α β γ δ ε : Type} {d : Dat α} {d1 : Dat α} {d2 : Dat β} {d3 : Dat γ}
theorem XkM.l {m : M α} {f : α → M β} (h : XkM tx Y Γ (m >>= f)) : XkM tx Y Γ m := fun x e => h x (by rw [e]; rfl)
theorem XkM.r {m : M α} {f : α → M β} {x : α} (h : XkM tx Y Γ (m >>= f)) (e : m = .ok x) : XkM tx Y Γ (f x) := fun y e2 => h y (by rw [e]; exact e2)
theorem XkM.ok {x : α} : XkM tx Y Γ (M.ok x) := fun _ z => nomatch z
theorem we_eq {m m' : M α} (h : We tx Y te Γ d m) (e : m = m') : We tx Y te Γ d m' := e ▸ h
theorem re_eq {m m' : M α} (h : Re tx Y te Γ d m) (e : m = m') : Re tx Y te Γ d m' := e ▸ h
theorem oe_eq {od : @OD α d} {m m' : M α} (h : Oe tx Y te Γ od m) (e : m = m') : Oe tx Y te Γ od m' := e ▸ h
theorem te_eq {m m' : M Bool} (h : Te tx Y t Γ m) (e : m = m') : Te tx Y t Γ m' := e ▸ h
theorem o_mono {od : @OD α d} {k k' : α → Prop} (h : O Y te Γ od k) (m : ∀ x, k x → k' x) : O Y te Γ od k' := fun e F σ H s Q q => h e F σ H s Q fun v F' H' L x kx g r => q v F' H' L x (m x kx) g r
theorem re_w {m : M α} (h : We tx Y te Γ d m) : Re tx Y te Γ d m := fun nb xk => r_of_w (h nb xk)
theorem we_o {od : @OD α d} {m : M α} (h : Oe tx Y te Γ od m) : We tx Y te Γ d m := fun nb xk => w_of_o (h nb xk)
/-- one part read, then the rest -/
theorem Re.k {m : M α} {f : α → M β} {k : α → Prop} (h : Re tx Y te Γ d m) (nb : (m >>= f).nb) (xk : XkM tx Y Γ (m >>= f)) (g : ∀ x, m = .ok x → (f x).nb → XkM tx Y Γ (f x) → k x) : R Y te Γ d k :=
  r_mono (h (M.nb1 nb) xk.l) fun x e => g x e (M.nb2 nb e) (xk.r e)
theorem We.k {m : M α} {f : α → M β} {k : α → Prop} (h : We tx Y te Γ d m) (nb : (m >>= f).nb) (xk : XkM tx Y Γ (m >>= f)) (g : ∀ x, m = .ok x → (f x).nb → XkM tx Y Γ (f x) → k x) : W Y te Γ d k :=
  w_mono (h (M.nb1 nb) xk.l) fun x e => g x e (M.nb2 nb e) (xk.r e)
theorem Oe.k {od : @OD α d} {m : M α} {f : α → M β} {k : α → Prop} (h : Oe tx Y te Γ od m) (nb : (m >>= f).nb) (xk : XkM tx Y Γ (m >>= f)) (g : ∀ x, m = .ok x → (f x).nb → XkM tx Y Γ (f x) → k x) : O Y te Γ od k :=
  o_mono (h (M.nb1 nb) xk.l) fun x e => g x e (M.nb2 nb e) (xk.r e)
theorem Te.k {m : M Bool} {f : Bool → M β} {k : Bool → Prop} (h : Te tx Y t Γ m) (nb : (m >>= f).nb) (xk : XkM tx Y Γ (m >>= f)) (g : ∀ x, m = .ok x → (f x).nb → XkM tx Y Γ (f x) → k x) : T Y t Γ k :=
  t_mono (h (M.nb1 nb) xk.l) fun x e => g x e (M.nb2 nb e) (xk.r e)
/-! shapes of rules -/
theorem we_p1 {f : α → β} {m : M α} (rule : ∀ k : β → Prop, (R Y ta Γ d1 fun x => k (f x)) → W Y te Γ d2 k) (h : Re tx Y ta Γ d1 m) : We tx Y te Γ d2 (m >>= fun x => .ok (f x)) := fun nb xk =>
  rule _ (h.k nb xk fun x e _ _ => by rw [e]; rfl)
theorem we_p1w {f : α → β} {m : M α} (rule : ∀ k : β → Prop, (W Y ta Γ d1 fun x => k (f x)) → W Y te Γ d2 k) (h : We tx Y ta Γ d1 m) : We tx Y te Γ d2 (m >>= fun x => .ok (f x)) := fun nb xk =>
  rule _ (h.k nb xk fun x e _ _ => by rw [e]; rfl)
theorem oe_p1w {od : @OD β d2} {f : α → β} {m : M α} (rule : ∀ k : β → Prop, (W Y ta Γ d1 fun x => k (f x)) → O Y te Γ od k) (h : We tx Y ta Γ d1 m) : Oe tx Y te Γ od (m >>= fun x => .ok (f x)) := fun nb xk =>
  rule _ (h.k nb xk fun x e _ _ => by rw [e]; rfl)
theorem we_p2 {f : α → β → γ} {m : M α} {n : M β} (rule : ∀ k : γ → Prop, (R Y ta Γ d1 fun x => R Y tb Γ d2 fun y => k (f x y)) → W Y te Γ d3 k) (h : Re tx Y ta Γ d1 m) (h2 : Re tx Y tb Γ d2 n) : We tx Y te Γ d3 (m >>= fun x => n >>= fun y => .ok (f x y)) := fun nb xk =>
  rule _ (h.k nb xk fun x e nb xk => h2.k nb xk fun y e2 _ _ => by rw [e]; show (n >>= _) = _; rw [e2]; rfl)
/-- a guarded operator -/
theorem we_g2 {P : α → β → Prop} [∀ x y, Decidable (P x y)] {f : α → β → γ} {m : M α} {n : M β} (rule : ∀ k : γ → Prop, (R Y ta Γ d1 fun x => R Y tb Γ d2 fun y => P x y ∧ k (f x y)) → W Y te Γ d3 k) (h : Re tx Y ta Γ d1 m) (h2 : Re tx Y tb Γ d2 n) : We tx Y te Γ d3 (m >>= fun x => n >>= fun y => M.asrt (P x y) (.ok (f x y))) := fun nb xk =>
  rule _ (h.k nb xk fun x e nb xk => h2.k nb xk fun y e2 nb2 _ => ⟨M.asrt_nb nb2, by rw [e]; show (n >>= _) = _; rw [e2]; show M.asrt _ _ = _; rw [M.asrt_pos (M.asrt_nb nb2)]⟩)
/-- an item looked up -/
theorem we_l2 {f : α → β → Option γ} {m : M α} {n : M β} (rule : ∀ k : γ → Prop, (W Y ta Γ d1 fun x => R Y tb Γ d2 fun y => ∃ z, f x y = some z ∧ k z) → W Y te Γ d3 k) (h : We tx Y ta Γ d1 m) (h2 : Re tx Y tb Γ d2 n) : We tx Y te Γ d3 (m >>= fun x => n >>= fun y => M.ofO (f x y)) := fun nb xk =>
  rule _ (h.k nb xk fun x e nb xk => h2.k nb xk fun y e2 nb2 _ => by
    cases q : f x y with
    | none => rw [q] at nb2; exact absurd rfl nb2
    | some z => exact ⟨z, rfl, by rw [e]; show (n >>= _) = _; rw [e2]; show M.ofO _ = _; rw [q]; rfl⟩)
end
end G
end

noncomputable section
/-! M1: the rules of expressions, with models. (printed in part by genM1.py) -/
namespace G
open PySem PySem.Spec PyProof.Rows L2 PySem.W
instance (i j : Int) : Decidable (CDiv i j) := inferInstanceAs (Decidable (_ ∧ _))
instance (i j : Int) : Decidable (CMul i j) := inferInstanceAs (Decidable (_ ∨ _))
instance (i j : Int) : Decidable (CPow i j) := inferInstanceAs (Decidable (_ ∧ _ ∧ _))
instance : @Flat Bool dBool := ⟨V.bl, fun h => h, fun _ => rfl, fun x y => by cases x <;> cases y <;> simp [eqV]⟩
section
variable {tx : XC → Addr} {Y : YC} {Γ : List Cell} {te ta tb tc td : TE} {t u : TT} {α β γ δ ε : Type} {d : Dat α} {d1 : Dat α} {d2 : Dat β} {d3 : Dat γ} {d4 : Dat δ}
theorem w_calm {k : α → Prop} (h : W (calm Y.g) te Γ d k) : W Y te Γ d k := fun e F σ H s Q q => h e F σ H ⟨fun _ _ _ _ _ _ z => z.elim, s.2⟩ Q q
theorem t_calm {k : Bool → Prop} (h : T (calm Y.g) t Γ k) : T Y t Γ k := fun e F σ H s Q q => h e F σ H ⟨fun _ _ _ _ _ _ z => z.elim, s.2⟩ Q q
/-- an owned name read as if it were frozen -/
theorem we_borrow {od0 : @OD α d1} {x : α} {pin : Option V} [i : @Imm β d2] {m : M β} (j : Nat) (hj : Γ[j]? = some (.own d1 od0 pin x)) (h : We tx (calm Y.g) te (Γ.set j (.val d1 x)) d2 m) : We tx Y te Γ d2 (M.calm m) := fun nb xk => by
  obtain ⟨y, e⟩ := M.calm_nb nb
  subst e
  exact w_borrow j hj (h (fun z => nomatch z) XkM.ok)
/-! names, constants -/
theorem we_var {i : Nat} {x : α} (h : Γ[i]? = some (.val d x)) : We tx Y (tVar i) Γ d (.ok x) := fun _ _ => w_var h rfl
theorem re_varO {od : @OD α d} {pin : Option V} {i : Nat} {x : α} (h : Γ[i]? = some (.own d od pin x)) : Re tx Y (tVar i) Γ d (.ok x) := fun _ _ => r_varO h rfl
theorem we_int {n : Int} : We tx Y (tC (.int n)) Γ dInt (.ok n) := fun _ _ => w_int rfl
theorem we_bl {n : Bool} : We tx Y (tC (.bl n)) Γ dBool (.ok n) := fun _ _ => w_bl rfl
theorem we_str {n : Str} : We tx Y (tC (.str n)) Γ dStr (.ok n) := fun _ _ => w_str rfl
/-! operators -/
theorem we_add {m n : M Int} (h : Re tx Y ta Γ dInt m) (h2 : Re tx Y tb Γ dInt n) : We tx Y (tOp (rI0 fun i j => .int (i + j)) ta tb) Γ dInt (m >>= fun x => n >>= fun y => .ok (x + y)) := we_p2 (fun k h => w_add h) h h2
theorem we_sub {m n : M Int} (h : Re tx Y ta Γ dInt m) (h2 : Re tx Y tb Γ dInt n) : We tx Y (tOp (rI0 fun i j => .int (i - j)) ta tb) Γ dInt (m >>= fun x => n >>= fun y => .ok (x - y)) := we_p2 (fun k h => w_sub h) h h2
theorem we_mul {m n : M Int} (h : Re tx Y ta Γ dInt m) (h2 : Re tx Y tb Γ dInt n) : We tx Y (tOp (rI CMul fun i j => .int (i * j)) ta tb) Γ dInt (m >>= fun x => n >>= fun y => M.asrt (CMul x y) (.ok (x * y))) := we_g2 (fun k h => w_mul h) h h2
theorem we_mod {m n : M Int} (h : Re tx Y ta Γ dInt m) (h2 : Re tx Y tb Γ dInt n) : We tx Y (tOp (rI (fun _ j => 0 < j) fun i j => .int (i % j)) ta tb) Γ dInt (m >>= fun x => n >>= fun y => M.asrt (0 < y) (.ok (x % y))) := we_g2 (P := fun _ y => 0 < y) (fun k h => w_mod h) h h2
theorem we_fdiv {m n : M Int} (h : Re tx Y ta Γ dInt m) (h2 : Re tx Y tb Γ dInt n) : We tx Y (tOp (rI CDiv fun i j => .int (i / j)) ta tb) Γ dInt (m >>= fun x => n >>= fun y => M.asrt (CDiv x y) (.ok (x / y))) := we_g2 (fun k h => w_fdiv h) h h2
theorem we_pow {m n : M Int} (h : Re tx Y ta Γ dInt m) (h2 : Re tx Y tb Γ dInt n) : We tx Y (tOp (rI CPow fun i j => .int (i ^ j.toNat)) ta tb) Γ dInt (m >>= fun x => n >>= fun y => M.asrt (CPow x y) (.ok (x ^ y.toNat))) := we_g2 (fun k h => w_pow h) h h2
theorem we_powC {a b c : Int} (h : Re tx Y ta Γ dInt (.ok a)) (h2 : Re tx Y tb Γ dInt (.ok b)) (hc : CPow a b ∧ a ^ b.toNat = c) : We tx Y (tOp (rI CPow fun i j => .int (i ^ j.toNat)) ta tb) Γ dInt (.ok c) := we_eq (we_pow h h2) (by show M.asrt _ _ = _; rw [M.asrt_pos hc.1, hc.2])
theorem we_neg {m : M Int} (h : Re tx Y ta Γ dInt m) : We tx Y (tUn (rU fun i => .int (-i)) ta) Γ dInt (m >>= fun x => .ok (-x)) := we_p1 (fun k h => w_neg h) h
theorem we_lt {m n : M Int} (h : Re tx Y ta Γ dInt m) (h2 : Re tx Y tb Γ dInt n) : We tx Y (tOp (rI0 fun i j => .bl (decide (i < j))) ta tb) Γ dBool (m >>= fun x => n >>= fun y => .ok (decide (x < y))) := we_p2 (fun k h => w_lt h) h h2
theorem we_gt {m n : M Int} (h : Re tx Y ta Γ dInt m) (h2 : Re tx Y tb Γ dInt n) : We tx Y (tOp (rI0 fun i j => .bl (decide (j < i))) ta tb) Γ dBool (m >>= fun x => n >>= fun y => .ok (decide (y < x))) := we_p2 (fun k h => w_gt h) h h2
theorem we_ge {m n : M Int} (h : Re tx Y ta Γ dInt m) (h2 : Re tx Y tb Γ dInt n) : We tx Y (tOp (rI0 fun i j => .bl (decide (j ≤ i))) ta tb) Γ dBool (m >>= fun x => n >>= fun y => .ok (decide (y ≤ x))) := we_p2 (fun k h => w_ge h) h h2
/-- scalars of one kind, compared -/
class Sc (α : Type) [d : Dat α] where
  enc : α → V
  isEnc : ∀ {C : GCtx} {F : Hp} {v : V} {x : α}, d.rep C F v x → v = enc x
  scal : ∀ x y, L2.scal (enc x) (enc y) = true
  inj : ∀ x y, enc x = enc y → x = y
instance : Sc Int := ⟨V.int, fun h => h, fun _ _ => rfl, fun _ _ h => V.int.inj h⟩
instance : Sc Bool := ⟨V.bl, fun h => h, fun _ _ => rfl, fun _ _ h => V.bl.inj h⟩
instance : Sc Str := ⟨V.str, fun h => h, fun _ _ => rfl, fun _ _ h => V.str.inj h⟩
theorem w_eqS [s : @Sc α d] [DecidableEq α] {kb : Bool → Prop} (h : R Y ta Γ d fun x => R Y tb Γ d fun y => kb (decide (x = y))) : W Y (tOp rEq ta tb) Γ dBool kb := fun e F σ H st Q q => h e F σ H st _ fun v1 F1 H1 x h1 g1 r1 => h1 e F1 σ H1 (st.grow g1) _ fun v2 F2 H2 y ky g2 r2 => by
  cases s.isEnc r1
  cases s.isEnc r2
  exact ⟨s.scal x y, q _ F2 H2 _ ky (g1.trans0 g2) (by show V.bl _ = V.bl _; rw [decide_eq_decide.mpr ⟨s.inj x y, fun z => by rw [z]⟩])⟩
theorem w_neS [s : @Sc α d] [DecidableEq α] {kb : Bool → Prop} (h : R Y ta Γ d fun x => R Y tb Γ d fun y => kb (!decide (x = y))) : W Y (tOp rNe ta tb) Γ dBool kb := fun e F σ H st Q q => h e F σ H st _ fun v1 F1 H1 x h1 g1 r1 => h1 e F1 σ H1 (st.grow g1) _ fun v2 F2 H2 y ky g2 r2 => by
  cases s.isEnc r1
  cases s.isEnc r2
  exact ⟨s.scal x y, q _ F2 H2 _ ky (g1.trans0 g2) (by show V.bl _ = V.bl _; rw [decide_eq_decide.mpr ⟨s.inj x y, fun z => by rw [z]⟩])⟩
theorem we_eqS [s : @Sc α d] [DecidableEq α] {m n : M α} (h : Re tx Y ta Γ d m) (h2 : Re tx Y tb Γ d n) : We tx Y (tOp rEq ta tb) Γ dBool (m >>= fun x => n >>= fun y => .ok (decide (x = y))) := we_p2 (fun k h => w_eqS h) h h2
theorem we_neS [s : @Sc α d] [DecidableEq α] {m n : M α} (h : Re tx Y ta Γ d m) (h2 : Re tx Y tb Γ d n) : We tx Y (tOp rNe ta tb) Γ dBool (m >>= fun x => n >>= fun y => .ok (!decide (x = y))) := we_p2 (fun k h => w_neS h) h h2
/-- a op b op' c, whole numbers -/
theorem we_chain {f f' : Int → Int → Bool} {m n o : M Int} (h : Re tx Y ta Γ dInt m) (h2 : Re tx Y tb Γ dInt n) (h3 : Re tx Y tc Γ dInt o) : We tx Y (tChain (rI0 fun i j => .bl (f i j)) (rI0 fun i j => .bl (f' i j)) ta tb tc) Γ dBool (m >>= fun x => n >>= fun y => if f x y then o >>= fun z => .ok (f' y z) else .ok false) := fun nb xk e F σ H s Q q =>
  (h.k nb xk (k := fun x => R Y tb Γ dInt fun y => (n = .ok y) ∧ ((if f x y = true then o >>= fun z => M.ok (f' y z) else .ok false) : M Bool).nb ∧ XkM tx Y Γ ((if f x y = true then o >>= fun z => M.ok (f' y z) else .ok false) : M Bool) ∧ m = .ok x) fun x e1 nb xk => h2.k nb xk fun y e2 nb xk => ⟨e2, nb, xk, e1⟩) e F σ H s _ fun v1 F1 H1 x hy g1 r1 => hy e F1 σ H1 (s.grow g1) _ fun v2 F2 H2 y ⟨e2, nb, xk, e1⟩ g2 r2 => by
    cases (show v1 = .int x from r1)
    cases (show v2 = .int y from r2)
    refine ⟨x, y, rfl, rfl, f x y, rfl, ?_⟩
    cases hf : f x y with
    | false => 
      rw [if_neg (by simp)]
      exact q _ F2 H2 false (by rw [e1]; show (n >>= _) = _; rw [e2]; show (if f x y = true then _ else _) = _; rw [hf]; rfl) (g1.trans0 g2) rfl
    | true =>
      rw [if_pos rfl]
      rw [hf, if_pos rfl] at nb xk
      refine h3.k nb xk (k := fun z => o = .ok z) (fun z e3 _ _ => e3) e F2 σ H2 ((s.grow g1).grow g2) _ fun v3 F3 H3 z e3 g3 r3 => ?_
      cases (show v3 = .int z from r3)
      exact ⟨y, z, rfl, rfl, q _ F3 H3 _ (by rw [e1]; show (n >>= _) = _; rw [e2]; show (if f x y = true then _ else _) = _; rw [hf, if_pos rfl, e3]; rfl) ((g1.trans0 g2).trans0 g3) rfl⟩
theorem we_chainP {f f' : Int → Int → Bool} {x y z : Int} (h : Re tx Y ta Γ dInt (.ok x)) (h2 : Re tx Y tb Γ dInt (.ok y)) (h3 : Re tx Y tc Γ dInt (.ok z)) : We tx Y (tChain (rI0 fun i j => .bl (f i j)) (rI0 fun i j => .bl (f' i j)) ta tb tc) Γ dBool (.ok (f x y && f' y z)) := we_eq (we_chain h h2 h3) (by
  show (if f x y = true then _ else _) = _
  cases hf : f x y <;> rfl)
/-! tests -/
theorem te_test {m : M Bool} (h : We tx Y te Γ dBool m) : Te tx Y (tTest te) Γ m := fun nb xk => t_test (r_of_w (h nb xk))
theorem te_B {m : M Bool} (h : We tx Y te Γ dBool m) : Te tx Y (tB te) Γ m := fun nb xk => t_B (r_of_w (h nb xk))
theorem te_not {m : M Bool} (h : Te tx Y t Γ m) : Te tx Y (tNot t) Γ (m >>= fun b => .ok (!b)) := fun nb xk => t_not (h.k nb xk fun b e _ _ => by rw [e]; rfl)
theorem te_and {m n : M Bool} (h : Te tx Y t Γ m) (h2 : Te tx Y u Γ n) : Te tx Y (tAnd t u) Γ (m >>= fun b => if b then n else .ok false) := fun nb xk => t_and (h.k nb xk fun b e nb xk => ⟨fun hb => by
  subst hb; exact t_mono (h2 nb xk) fun c ec => by rw [e]; exact ec, fun hb => by subst hb; rw [e]; rfl⟩)
theorem te_or {m n : M Bool} (h : Te tx Y t Γ m) (h2 : Te tx Y u Γ n) : Te tx Y (tOr t u) Γ (m >>= fun b => if b then .ok true else n) := fun nb xk => t_or (h.k nb xk fun b e nb xk => ⟨fun hb => by subst hb; rw [e]; rfl, fun hb => by
  subst hb; exact t_mono (h2 nb xk) fun c ec => by rw [e]; exact ec⟩)
theorem te_andP {a b : Bool} (h : Te tx Y t Γ (.ok a)) (h2 : Te tx Y u Γ (.ok b)) : Te tx Y (tAnd t u) Γ (.ok (a && b)) := te_eq (te_and h h2) (by cases a <;> rfl)
theorem te_orP {a b : Bool} (h : Te tx Y t Γ (.ok a)) (h2 : Te tx Y u Γ (.ok b)) : Te tx Y (tOr t u) Γ (.ok (a || b)) := te_eq (te_or h h2) (by cases a <;> rfl)
theorem we_and {m n : M Bool} (h : We tx Y ta Γ dBool m) (h2 : We tx Y tb Γ dBool n) : We tx Y (tAndV ta tb) Γ dBool (m >>= fun b => if b then n else .ok false) := fun nb xk => w_andV (r_of_w (h.k nb xk fun b e nb xk => ⟨fun hb => by
  subst hb; exact w_mono (h2 nb xk) fun c ec => by rw [e]; exact ec, fun hb => by subst hb; rw [e]; rfl⟩))
theorem we_not {m : M Bool} (h : We tx Y ta Γ dBool m) : We tx Y (tNotV ta) Γ dBool (m >>= fun b => .ok (!b)) := fun nb xk => w_notV (r_of_w (h.k nb xk fun b e _ _ => by rw [e]; rfl))
theorem we_if {m : M Bool} {n o : M α} (h : Te tx Y t Γ m) (h2 : We tx Y ta Γ d n) (h3 : We tx Y tb Γ d o) : We tx Y (tIf t ta tb) Γ d (m >>= fun b => if b then n else o) := fun nb xk => w_if (h.k nb xk fun b e nb xk => ⟨fun hb => by
  subst hb; exact w_mono (h2 nb xk) fun c ec => by rw [e]; exact ec, fun hb => by subst hb; exact w_mono (h3 nb xk) fun c ec => by rw [e]; exact ec⟩)
theorem we_ifP {b : Bool} {n o : M α} (h : Te tx Y t Γ (.ok b)) (h2 : We tx Y ta Γ d n) (h3 : We tx Y tb Γ d o) : We tx Y (tIf t ta tb) Γ d (if b then n else o) := we_if h h2 h3
/-! built-ins -/
theorem we_abs {m : M Int} (h : Re tx Y ta Γ dInt m) : We tx Y (tCB (fun xs H Q => ∃ i, xs = [.int i] ∧ Q (.int (if i < 0 then -i else i)) H) (tCons ta tNil)) Γ dInt (m >>= fun x => .ok (if x < 0 then -x else x)) := we_p1 (fun k h => w_abs h) h
theorem we_int1 {m : M Int} (h : Re tx Y ta Γ dInt m) : We tx Y (tCB (fun xs H Q => (∃ i, xs = [.int i] ∧ Q (.int i) H) ∨ ∃ k, xs = [.bl k] ∧ Q (.int (if k then 1 else 0)) H) (tCons ta tNil)) Γ dInt m := we_eq (we_p1 (f := fun x : Int => x) (fun k h => w_int1 h) h) (M.bind_ok m)
theorem we_max2 {m n : M Int} (h : Re tx Y ta Γ dInt m) (h2 : Re tx Y tb Γ dInt n) : We tx Y (tCB (fun xs H Q => ∃ i j, xs = [.int i, .int j] ∧ Q (.int (if j > i then j else i)) H) (tCons ta (tCons tb tNil))) Γ dInt (m >>= fun x => n >>= fun y => .ok (if y > x then y else x)) := we_p2 (fun k h => w_max2 h) h h2
theorem we_len {m : M (List α)} (h : Re tx Y ta Γ (dList (d := d)) m) : We tx Y (tCB (fun xs H Q => ∃ p ys, xs = [.ref p] ∧ (SqL Y.K H p ys ∨ SqT Y.K H p ys) ∧ Q (.int ys.length) H) (tCons ta tNil)) Γ dInt (m >>= fun xs => .ok (xs.length : Int)) := we_p1 (f := fun xs : List α => (xs.length : Int)) (fun k h => w_len h) h
theorem we_lenT {m : M (Tup α)} (h : Re tx Y ta Γ (dTup (d := d)) m) : We tx Y (tCB (fun xs H Q => ∃ p ys, xs = [.ref p] ∧ (SqL Y.K H p ys ∨ SqT Y.K H p ys) ∧ Q (.int ys.length) H) (tCons ta tNil)) Γ dInt (m >>= fun xs => .ok (xs.l.length : Int)) := we_p1 (f := fun xs : Tup α => (xs.l.length : Int)) (fun k h => w_lenT h) h
theorem we_lenQ {m : M (Sq α)} (h : Re tx Y ta Γ (dSq (d := d)) m) : We tx Y (tCB (fun xs H Q => ∃ p ys, xs = [.ref p] ∧ (SqL Y.K H p ys ∨ SqT Y.K H p ys) ∧ Q (.int ys.length) H) (tCons ta tNil)) Γ dInt (m >>= fun xs => .ok (xs.l.length : Int)) := we_p1 (f := fun xs : Sq α => (xs.l.length : Int)) (fun k h => w_lenQ h) h
/-! items -/
theorem we_ix {m : M (List α)} {n : M Int} (h : We tx Y ta Γ (dList (d := d)) m) (h2 : Re tx Y tb Γ dInt n) : We tx Y (tOp (rIxL Y.K) ta tb) Γ d (m >>= fun xs => n >>= fun i => M.ix xs i) := we_l2 (fun k h => w_ix h) h h2
theorem we_ixT {m : M (Tup α)} {n : M Int} (h : We tx Y ta Γ (dTup (d := d)) m) (h2 : Re tx Y tb Γ dInt n) : We tx Y (tOp (rIxT Y.K) ta tb) Γ d (m >>= fun xs => n >>= fun i => M.ix xs.l i) := we_l2 (f := fun (xs : Tup α) i => atI xs.l i) (fun k h => w_ixT h) h h2
/-- an item of an owned list -/
theorem we_ixO {pin : Option V} {i : Nat} {xs : List α} {n : M Int} (hi : Γ[i]? = some (.own (dList (d := d)) (oList (d := d)) pin xs)) (h2 : Re tx Y tb Γ dInt n) : We tx Y (tOp (rIxL Y.K) (tVar i) tb) Γ d (n >>= fun i => M.ix xs i) := fun nb xk => w_ixO hi (h2.k nb xk fun y e nb2 _ => by
  cases q : atI xs y with
  | none => unfold M.ix at nb2; rw [q] at nb2; exact absurd rfl nb2
  | some z => exact ⟨z, rfl, by rw [e]; show M.ix _ _ = _; unfold M.ix; rw [q]; rfl⟩)
/-- an item of a tuple of a known length, at a written place -/
theorem atI_c {K : Frag} {H : Hp} {a : Addr} {xs : List V} {F : Hp} (h : TpA K F a xs) (s : Same F H) : SqT K H a xs := (h.mono s).sq
theorem w_fst {k : α → Prop} (h : W Y te Γ (dPair (d1 := d) (d2 := d2)) fun x => k x.1) : W Y (tOp (rIxT Y.K) te (tC (.int 0))) Γ d k := fun e F σ H s Q q => h e F σ H s _ fun v F' H' x kx g ⟨a, v1, v2, ev, ht, r1, r2⟩ => by
  subst ev
  exact ⟨a, _, 0, v1, rfl, rfl, atI_c ht g.fh, rfl, q v1 F' H' _ kx g r1⟩
theorem w_snd {k : β → Prop} (h : W Y te Γ (dPair (d1 := d) (d2 := d2)) fun x => k x.2) : W Y (tOp (rIxT Y.K) te (tC (.int 1))) Γ d2 k := fun e F σ H s Q q => h e F σ H s _ fun v F' H' x kx g ⟨a, v1, v2, ev, ht, r1, r2⟩ => by
  subst ev
  exact ⟨a, _, 1, v2, rfl, rfl, atI_c ht g.fh, rfl, q v2 F' H' _ kx g r2⟩
theorem we_fst {m : M (α × β)} (h : We tx Y te Γ (dPair (d1 := d) (d2 := d2)) m) : We tx Y (tOp (rIxT Y.K) te (tC (.int 0))) Γ d (m >>= fun x => .ok x.1) := we_p1w (fun k h => w_fst h) h
theorem we_snd {m : M (α × β)} (h : We tx Y te Γ (dPair (d1 := d) (d2 := d2)) m) : We tx Y (tOp (rIxT Y.K) te (tC (.int 1))) Γ d2 (m >>= fun x => .ok x.2) := we_p1w (fun k h => w_snd h) h
/-! membership -/
/-- x in xs -/
def memB {α : Type} [DecidableEq α] (x : α) (xs : List α) : Bool := decide (x ∈ xs)
theorem we_notinT [f : @Flat α d] [DecidableEq α] {m : M α} {n : M (Tup α)} (h : Re tx Y ta Γ d m) (h2 : Re tx Y tb Γ (dTup (d := d)) n) : We tx Y (tOp (rIn Y.K true) ta tb) Γ dBool (m >>= fun x => n >>= fun xs => .ok (!memB x xs.l)) := we_p2 (f := fun (x : α) (xs : Tup α) => !memB x xs.l) (fun k h => w_notinT h) h h2
/-! tuples, lists -/
theorem we_tup2 {m : M α} {n : M β} (h : We tx Y ta Γ d m) (h2 : We tx Y tb Γ d2 n) : We tx Y (tTup (tCons ta (tCons tb tNil))) Γ (dPair (d1 := d) (d2 := d2)) (m >>= fun x => n >>= fun y => .ok (x, y)) := fun nb xk =>
  w_tup2 (h.k nb xk fun x e nb xk => h2.k nb xk fun y e2 nb xk => by rw [e]; show (n >>= _) = _; rw [e2]; rfl)
theorem we_tup4 {m : M α} {n : M β} {o : M γ} {p : M δ} (h : We tx Y ta Γ d m) (h2 : We tx Y tb Γ d2 n) (h3 : We tx Y tc Γ d3 o) (h4 : We tx Y td Γ d4 p) : We tx Y (tTup (tCons ta (tCons tb (tCons tc (tCons td tNil))))) Γ (dT4 (d1 := d) (d2 := d2) (d3 := d3) (d4 := d4)) (m >>= fun x => n >>= fun y => o >>= fun z => p >>= fun u => .ok ⟨x, y, z, u⟩) := fun nb xk =>
  w_tup4 (h.k nb xk fun x e nb xk => h2.k nb xk fun y e2 nb xk => h3.k nb xk fun z e3 nb xk => h4.k nb xk fun u e4 nb xk => by rw [e]; show (n >>= _) = _; rw [e2]; show (o >>= _) = _; rw [e3]; show (p >>= _) = _; rw [e4]; rfl)
def WLe (tx : XC → Addr) (Y : YC) (ta : TA) (Γ : List Cell) {α : Type} (d : Dat α) (m : M (List α)) : Prop := m.nb → XkM tx Y Γ m → WL Y ta Γ d (m = .ok ·)
theorem wl_mono {tl : TA} {k k' : List α → Prop} (h : WL Y tl Γ d k) (m : ∀ x, k x → k' x) : WL Y tl Γ d k' := fun e F σ H s Q q => h e F σ H s Q fun v F' H' x kx g r => q v F' H' x (m x kx) g r
theorem wle_nil : WLe tx Y tNil Γ d (.ok []) := fun _ _ => wl_nil rfl
theorem wle_cons {tr : TA} {m : M α} {n : M (List α)} (h : We tx Y te Γ d m) (h2 : WLe tx Y tr Γ d n) : WLe tx Y (tCons te tr) Γ d (m >>= fun x => n >>= fun xs => .ok (x :: xs)) := fun nb xk => wl_cons (h.k nb xk fun x e nb xk => wl_mono (h2 (M.nb1 nb) xk.l) fun xs e2 => by rw [e]; show (n >>= _) = _; rw [e2]; rfl)
theorem oe_lst {tl : TA} {m : M (List α)} (h : WLe tx Y tl Γ d m) (hl : ∀ xs, m = .ok xs → xs.length ≤ PySem.sizeLine) : Oe tx Y (tLst tl) Γ (oList (d := d)) m := fun nb xk => o_lst (wl_mono (h nb xk) fun xs e => ⟨hl xs e, e⟩)
theorem oe_lst0 : Oe tx Y (tLst tNil) Γ (oList (d := d)) (.ok []) := fun _ _ => o_nil rfl
def asLen (n : Nat) (m : M (List α)) : Prop := ∀ xs, m = .ok xs → xs.length = n
theorem asLen0 : asLen 0 (.ok ([] : List α)) := fun xs e => by cases e; rfl
theorem asLenS {n : Nat} {m : M α} {o : M (List α)} (h : asLen n o) : asLen (n + 1) (m >>= fun x => o >>= fun xs => .ok (x :: xs)) := fun xs e => by
  cases m with
  | bad => cases e
  | exc x => cases e
  | ok x => cases ho : o with
    | bad => rw [ho] at e; cases e
    | exc x => rw [ho] at e; cases e
    | ok ys => rw [ho] at e; cases e; simp [h ys ho]
theorem oe_lstN {n : Nat} {tl : TA} {m : M (List α)} (h : WLe tx Y tl Γ d m) (hl : asLen n m) (hn : n ≤ 1000) : Oe tx Y (tLst tl) Γ (oList (d := d)) m := oe_lst h fun xs e => by rw [hl xs e]; exact Nat.le_of_lt (small1k (by omega))
theorem oe_listOfT {m : M (Tup α)} (h : We tx Y ta Γ (dTup (d := d)) m) : Oe tx Y (tCB (fun xs H Q => ∃ p ys, xs = [.ref p] ∧ (SqL Y.K H p ys ∨ SqT Y.K H p ys) ∧ ∀ l, H l = none → Q (.ref l) (upd H l (.lst ys))) (tCons ta tNil)) Γ (oList (d := d)) (m >>= fun xs => .ok xs.l) := oe_p1w (f := fun x : Tup α => x.l) (fun k h => o_listOfT h) h
theorem we_tupOf {m : M (List α)} (h : We tx Y ta Γ (dList (d := d)) m) : We tx Y (tCB (fun xs H Q => ∃ p ys, xs = [.ref p] ∧ ((SqL Y.K H p ys ∧ ∀ l, H l = none → Q (.ref l) (upd H l (.tup ys))) ∨ (SqT Y.K H p ys ∧ Q (.ref p) H))) (tCons ta tNil)) Γ (dTup (d := d)) (m >>= fun xs => .ok ⟨xs⟩) := we_p1w (f := fun x : List α => (⟨x⟩ : Tup α)) (fun k h => w_tupOf h) h
/-! slices -/
def TOe (tx : XC → Addr) (Y : YC) (to : TO) (Γ : List Cell) (m : M (Option Int)) : Prop := m.nb → XkM tx Y Γ m → TOk Y to Γ (m = .ok ·)
theorem toe_none : TOe tx Y tNoPart Γ (.ok none) := fun _ _ => to_none rfl
theorem toe_some {m : M Int} (h : Re tx Y te Γ dInt m) : TOe tx Y (tPart te) Γ (m >>= fun n => .ok (some n)) := fun nb xk => to_some (h.k nb xk fun n e _ _ => by rw [e]; rfl)
theorem to_mono {to : TO} {k k' : Option Int → Prop} (h : TOk Y to Γ k) (m : ∀ x, k x → k' x) : TOk Y to Γ k' := fun e F σ H s Q q => h e F σ H s Q fun v F' H' kx g => q v F' H' (m v kx) g
theorem oe_sl {tl th : TO} {m : M (List α)} {n o : M (Option Int)} (h : We tx Y te Γ (dList (d := d)) m) (h2 : TOe tx Y tl Γ n) (h3 : TOe tx Y th Γ o) : Oe tx Y (tSl (rSlL Y.K) te tl th) Γ (oList (d := d)) (m >>= fun xs => n >>= fun lo => o >>= fun hi => .ok (cutL xs lo hi)) := fun nb xk =>
  o_sl (h.k nb xk fun xs e nb xk => to_mono (h2 (M.nb1 nb) xk.l) fun lo e2 => to_mono (h3 (M.nb1 (f := fun hi => .ok (cutL xs lo hi)) (M.nb2 (f := fun lo => o >>= fun hi => .ok (cutL xs lo hi)) nb e2)) (XkM.l (f := fun hi => .ok (cutL xs lo hi)) (XkM.r (f := fun lo => o >>= fun hi => .ok (cutL xs lo hi)) xk e2))) fun hi e3 => by rw [e]; show (n >>= _) = _; rw [e2]; show (o >>= _) = _; rw [e3]; rfl)
/-! fields -/
theorem we_fld {C0 : Addr} {f : Str} {g : α → β} {m : M α} (hf : IsF d C0 f d2 g) (c : Cls Y.K C0) (n : NoAttr Y.K C0 f) (h : We tx Y te Γ d m) : We tx Y (tFld Y.K te f) Γ d2 (m >>= fun x => .ok (g x)) := we_p1w (fun k h => w_fld hf c n h) h
theorem we_con {C0 : Addr} {f : Str} {ns : List Str} {n : Int} {u : Value} {m : M α} (hf : IsI d C0 ns) (c : Cls Y.K C0) (k0 : Con Y.K C0 f (.int n) u) (hn : f ∉ ns) (h : Re tx Y te Γ d m) : We tx Y (tCon Y.K te f) Γ dInt (m >>= fun _ => .ok n) := we_p1 (f := fun _ : α => n) (fun k h => w_con hf c k0 hn h) h
end
section
variable {tx : XC → Addr} {Y : YC} {Γ : List Cell} {β : Type} {d : Dat β} {t1 t2 t3 t4 t5 t6 t7 : TE} {sp : Sp} {E : L2.St → XK}
variable {α0 α1 α2 α3 α4 α5 α6 α7 : Type} {d0 : Dat α0} {d1 : Dat α1} {d2 : Dat α2} {d3 : Dat α3} {d4 : Dat α4} {d5 : Dat α5} {d6 : Dat α6} {d7 : Dat α7} {m0 : M α0} {m1 : M α1} {m2 : M α2} {m3 : M α3} {m4 : M α4} {m5 : M α5} {m6 : M α6} {m7 : M α7} {t0 : TE}
theorem we_call1 {f : α1 → M β} (hs : ∀ x1, (f x1).nb → SpX Y.g sp [.val d1 x1] (fun c => ∃ r, c = .val d r ∧ (f x1) = .ok r) fun x => ∃ px, (f x1) = .exc px ∧ x = px.x tx) (hE : E = Y.E) (h1 : We tx Y t1 Γ d1 m1) : We tx Y (tCallS sp E (tCons t1 tNil)) Γ d (m1 >>= fun x1 => f x1) := fun nb xk => w_callX hE (wa_cons (h1.k nb xk fun x1 e1 nb xk => wa_nil fun vs H Q E fx => hs x1 nb vs H Q E (fx.mono (fun c ⟨r, e, q⟩ => ⟨r, e, by rw [e1]; exact q⟩) fun x ⟨px, e, q⟩ => q ▸ xk px e)))
theorem we_call2 {f : α1 → α2 → M β} (hs : ∀ x1 x2, (f x1 x2).nb → SpX Y.g sp [.val d1 x1, .val d2 x2] (fun c => ∃ r, c = .val d r ∧ (f x1 x2) = .ok r) fun x => ∃ px, (f x1 x2) = .exc px ∧ x = px.x tx) (hE : E = Y.E) (h1 : We tx Y t1 Γ d1 m1) (h2 : We tx Y t2 Γ d2 m2) : We tx Y (tCallS sp E (tCons t1 (tCons t2 tNil))) Γ d (m1 >>= fun x1 => m2 >>= fun x2 => f x1 x2) := fun nb xk => w_callX hE (wa_cons (h1.k nb xk fun x1 e1 nb xk => wa_cons (h2.k nb xk fun x2 e2 nb xk => wa_nil fun vs H Q E fx => hs x1 x2 nb vs H Q E (fx.mono (fun c ⟨r, e, q⟩ => ⟨r, e, by rw [e1]; show (m2 >>= _) = _; rw [e2]; exact q⟩) fun x ⟨px, e, q⟩ => q ▸ xk px e))))
theorem we_call3 {f : α1 → α2 → α3 → M β} (hs : ∀ x1 x2 x3, (f x1 x2 x3).nb → SpX Y.g sp [.val d1 x1, .val d2 x2, .val d3 x3] (fun c => ∃ r, c = .val d r ∧ (f x1 x2 x3) = .ok r) fun x => ∃ px, (f x1 x2 x3) = .exc px ∧ x = px.x tx) (hE : E = Y.E) (h1 : We tx Y t1 Γ d1 m1) (h2 : We tx Y t2 Γ d2 m2) (h3 : We tx Y t3 Γ d3 m3) : We tx Y (tCallS sp E (tCons t1 (tCons t2 (tCons t3 tNil)))) Γ d (m1 >>= fun x1 => m2 >>= fun x2 => m3 >>= fun x3 => f x1 x2 x3) := fun nb xk => w_callX hE (wa_cons (h1.k nb xk fun x1 e1 nb xk => wa_cons (h2.k nb xk fun x2 e2 nb xk => wa_cons (h3.k nb xk fun x3 e3 nb xk => wa_nil fun vs H Q E fx => hs x1 x2 x3 nb vs H Q E (fx.mono (fun c ⟨r, e, q⟩ => ⟨r, e, by rw [e1]; show (m2 >>= _) = _; rw [e2]; show (m3 >>= _) = _; rw [e3]; exact q⟩) fun x ⟨px, e, q⟩ => q ▸ xk px e)))))
theorem we_call4 {f : α1 → α2 → α3 → α4 → M β} (hs : ∀ x1 x2 x3 x4, (f x1 x2 x3 x4).nb → SpX Y.g sp [.val d1 x1, .val d2 x2, .val d3 x3, .val d4 x4] (fun c => ∃ r, c = .val d r ∧ (f x1 x2 x3 x4) = .ok r) fun x => ∃ px, (f x1 x2 x3 x4) = .exc px ∧ x = px.x tx) (hE : E = Y.E) (h1 : We tx Y t1 Γ d1 m1) (h2 : We tx Y t2 Γ d2 m2) (h3 : We tx Y t3 Γ d3 m3) (h4 : We tx Y t4 Γ d4 m4) : We tx Y (tCallS sp E (tCons t1 (tCons t2 (tCons t3 (tCons t4 tNil))))) Γ d (m1 >>= fun x1 => m2 >>= fun x2 => m3 >>= fun x3 => m4 >>= fun x4 => f x1 x2 x3 x4) := fun nb xk => w_callX hE (wa_cons (h1.k nb xk fun x1 e1 nb xk => wa_cons (h2.k nb xk fun x2 e2 nb xk => wa_cons (h3.k nb xk fun x3 e3 nb xk => wa_cons (h4.k nb xk fun x4 e4 nb xk => wa_nil fun vs H Q E fx => hs x1 x2 x3 x4 nb vs H Q E (fx.mono (fun c ⟨r, e, q⟩ => ⟨r, e, by rw [e1]; show (m2 >>= _) = _; rw [e2]; show (m3 >>= _) = _; rw [e3]; show (m4 >>= _) = _; rw [e4]; exact q⟩) fun x ⟨px, e, q⟩ => q ▸ xk px e))))))
theorem we_call5 {f : α1 → α2 → α3 → α4 → α5 → M β} (hs : ∀ x1 x2 x3 x4 x5, (f x1 x2 x3 x4 x5).nb → SpX Y.g sp [.val d1 x1, .val d2 x2, .val d3 x3, .val d4 x4, .val d5 x5] (fun c => ∃ r, c = .val d r ∧ (f x1 x2 x3 x4 x5) = .ok r) fun x => ∃ px, (f x1 x2 x3 x4 x5) = .exc px ∧ x = px.x tx) (hE : E = Y.E) (h1 : We tx Y t1 Γ d1 m1) (h2 : We tx Y t2 Γ d2 m2) (h3 : We tx Y t3 Γ d3 m3) (h4 : We tx Y t4 Γ d4 m4) (h5 : We tx Y t5 Γ d5 m5) : We tx Y (tCallS sp E (tCons t1 (tCons t2 (tCons t3 (tCons t4 (tCons t5 tNil)))))) Γ d (m1 >>= fun x1 => m2 >>= fun x2 => m3 >>= fun x3 => m4 >>= fun x4 => m5 >>= fun x5 => f x1 x2 x3 x4 x5) := fun nb xk => w_callX hE (wa_cons (h1.k nb xk fun x1 e1 nb xk => wa_cons (h2.k nb xk fun x2 e2 nb xk => wa_cons (h3.k nb xk fun x3 e3 nb xk => wa_cons (h4.k nb xk fun x4 e4 nb xk => wa_cons (h5.k nb xk fun x5 e5 nb xk => wa_nil fun vs H Q E fx => hs x1 x2 x3 x4 x5 nb vs H Q E (fx.mono (fun c ⟨r, e, q⟩ => ⟨r, e, by rw [e1]; show (m2 >>= _) = _; rw [e2]; show (m3 >>= _) = _; rw [e3]; show (m4 >>= _) = _; rw [e4]; show (m5 >>= _) = _; rw [e5]; exact q⟩) fun x ⟨px, e, q⟩ => q ▸ xk px e)))))))
theorem oe_call1 {od : @OD β d} {f : α1 → M β} (hs : ∀ x1, (f x1).nb → SpX Y.g sp [.val d1 x1] (fun c => ∃ r, c = .own d od none r ∧ (f x1) = .ok r) fun x => ∃ px, (f x1) = .exc px ∧ x = px.x tx) (hE : E = Y.E) (h1 : We tx Y t1 Γ d1 m1) : Oe tx Y (tCallS sp E (tCons t1 tNil)) Γ od (m1 >>= fun x1 => f x1) := fun nb xk => o_callX hE (wa_cons (h1.k nb xk fun x1 e1 nb xk => wa_nil fun vs H Q E fx => hs x1 nb vs H Q E (fx.mono (fun c ⟨r, e, q⟩ => ⟨r, e, by rw [e1]; exact q⟩) fun x ⟨px, e, q⟩ => q ▸ xk px e)))
theorem oe_call2 {od : @OD β d} {f : α1 → α2 → M β} (hs : ∀ x1 x2, (f x1 x2).nb → SpX Y.g sp [.val d1 x1, .val d2 x2] (fun c => ∃ r, c = .own d od none r ∧ (f x1 x2) = .ok r) fun x => ∃ px, (f x1 x2) = .exc px ∧ x = px.x tx) (hE : E = Y.E) (h1 : We tx Y t1 Γ d1 m1) (h2 : We tx Y t2 Γ d2 m2) : Oe tx Y (tCallS sp E (tCons t1 (tCons t2 tNil))) Γ od (m1 >>= fun x1 => m2 >>= fun x2 => f x1 x2) := fun nb xk => o_callX hE (wa_cons (h1.k nb xk fun x1 e1 nb xk => wa_cons (h2.k nb xk fun x2 e2 nb xk => wa_nil fun vs H Q E fx => hs x1 x2 nb vs H Q E (fx.mono (fun c ⟨r, e, q⟩ => ⟨r, e, by rw [e1]; show (m2 >>= _) = _; rw [e2]; exact q⟩) fun x ⟨px, e, q⟩ => q ▸ xk px e))))
theorem oe_call3 {od : @OD β d} {f : α1 → α2 → α3 → M β} (hs : ∀ x1 x2 x3, (f x1 x2 x3).nb → SpX Y.g sp [.val d1 x1, .val d2 x2, .val d3 x3] (fun c => ∃ r, c = .own d od none r ∧ (f x1 x2 x3) = .ok r) fun x => ∃ px, (f x1 x2 x3) = .exc px ∧ x = px.x tx) (hE : E = Y.E) (h1 : We tx Y t1 Γ d1 m1) (h2 : We tx Y t2 Γ d2 m2) (h3 : We tx Y t3 Γ d3 m3) : Oe tx Y (tCallS sp E (tCons t1 (tCons t2 (tCons t3 tNil)))) Γ od (m1 >>= fun x1 => m2 >>= fun x2 => m3 >>= fun x3 => f x1 x2 x3) := fun nb xk => o_callX hE (wa_cons (h1.k nb xk fun x1 e1 nb xk => wa_cons (h2.k nb xk fun x2 e2 nb xk => wa_cons (h3.k nb xk fun x3 e3 nb xk => wa_nil fun vs H Q E fx => hs x1 x2 x3 nb vs H Q E (fx.mono (fun c ⟨r, e, q⟩ => ⟨r, e, by rw [e1]; show (m2 >>= _) = _; rw [e2]; show (m3 >>= _) = _; rw [e3]; exact q⟩) fun x ⟨px, e, q⟩ => q ▸ xk px e)))))
theorem oe_make2 {od : @OD β d} {C0 : Addr} {f : α1 → α2 → M β} (hs : ∀ x1 x2, (f x1 x2).nb → SpI Y.g sp od C0 [.val d1 x1, .val d2 x2] (fun r => (f x1 x2) = .ok r) fun x => ∃ px, (f x1 x2) = .exc px ∧ x = px.x tx) (hE : E = Y.E) (h1 : We tx Y t1 Γ d1 m1) (h2 : We tx Y t2 Γ d2 m2) : Oe tx Y (tMakeS C0 sp E (tCons t1 (tCons t2 tNil))) Γ od (m1 >>= fun x1 => m2 >>= fun x2 => f x1 x2) := fun nb xk => o_makeS hE (wa_cons (h1.k nb xk fun x1 e1 nb xk => wa_cons (h2.k nb xk fun x2 e2 nb xk => wa_nil fun vs H Q E fx => hs x1 x2 nb vs H Q E (fx.mono (fun r q => by rw [e1]; show (m2 >>= _) = _; rw [e2]; exact q) fun x ⟨px, e, q⟩ => q ▸ xk px e))))
/-- x in o, by its own __contains__ -/
theorem we_inO {C0 : Addr} {ns : List Str} {b0 : Bool} {f : α2 → α1 → M Bool} (hs : ∀ y x, (f y x).nb → SpX Y.g sp [.val d2 y, .val d1 x] (fun c => ∃ r, c = .val dBool r ∧ f y x = .ok r) fun x' => ∃ px, f y x = .exc px ∧ x' = px.x tx) (hI : IsI d2 C0 ns) (h1 : We tx Y t1 Γ d1 m1) (h2 : We tx Y t2 Γ d2 m2) :
    We tx Y (tOp (rInO C0 sp b0) t1 t2) Γ dBool (m1 >>= fun x => m2 >>= fun y => M.calm (f y x) >>= fun b => .ok (if b0 then !b else b)) := fun nb xk => w_inO hI (h1.k nb xk fun x e1 nb xk => h2.k nb xk fun y e2 nb xk => fun vs H Q E fx => by
  obtain ⟨b, eb⟩ := M.calm_nb (M.nb1 nb)
  refine hs y x (by rw [eb]; exact fun z => nomatch z) vs H Q E (fx.mono (fun c ⟨r, e, q⟩ => ⟨r, e, ?_⟩) fun x' ⟨px, e, q⟩ => by rw [eb] at e; cases e)
  rw [eb] at q
  cases q
  rw [e1]; show (m2 >>= _) = _; rw [e2]; show (M.calm (f y x) >>= _) = _; rw [eb]; rfl)
end
end G
end

noncomputable section
/-! M2: what is walked, comprehensions, statements: with models. -/
namespace L2
open PySem PySem.Spec PyProof.Rows
section
variable {X : Cx}
/-- what is walked is no longer than a line -/
def iListB (K : PySem.W.Frag) (tl : TE) : TI := fun σ H R => tl σ H fun x H1 => ∃ a xs, x = .ref a ∧ SqL K H1 a xs ∧ (xs.length ≤ sizeLine → R (Itl K a) H1)
def iTupB (K : PySem.W.Frag) (tl : TE) : TI := fun σ H R => tl σ H fun x H1 => ∃ a xs, x = .ref a ∧ SqT K H1 a xs ∧ (xs.length ≤ sizeLine → R (Itt K a) H1)
theorem pi_listB {tg l : Expr} {tl : TE} (hl : PE X l tl) : PI X tg l (iListB X.K tl) := ⟨fun pins s σ H R I h => thn (hl.run pins s σ H _ I h) fun v s1 ⟨x, H1, I1, r1, a, xs, e, hq, q⟩ => by
  subst e
  cases r1
  obtain ⟨its, rv, p, hz⟩ := I1.list hq
  exact wpAny_pyIter_list p.isList (born I1 (turn_list a _) ⟨_, Heap.get?_push_size _ rfl, rfl, rfl⟩ (q hz))⟩
theorem pi_tupB {tg l : Expr} {tl : TE} (hl : PE X l tl) : PI X tg l (iTupB X.K tl) := ⟨fun pins s σ H R I h => thn (hl.run pins s σ H _ I h) fun v s1 ⟨x, H1, I1, r1, a, xs, e, hq, q⟩ => by
  subst e
  cases r1
  obtain ⟨its, rv, p, hz⟩ := I1.tuple hq
  exact wpAny_pyIter_tuple (show s1.heap.IsTuple a its.toArray from p) (born I1 (turn_tuple a _) ⟨_, Heap.get?_push_size _ rfl, rfl, rfl⟩ (q hz))⟩
theorem pi_lB (K : PySem.W.Frag) {tg l : Expr} {tl : TE} (hl : PE X l tl) (h : X.K = K := by rfl) : PI X tg l (iListB K tl) := h ▸ pi_listB hl
theorem pi_tB (K : PySem.W.Frag) {tg l : Expr} {tl : TE} (hl : PE X l tl) (h : X.K = K := by rfl) : PI X tg l (iTupB K tl) := h ▸ pi_tupB hl
end
end L2
namespace G
open PySem PySem.Spec PyProof.Rows L2 PySem.W
section
variable {tx : XC → Addr} {Y : YC} {Γ : List Cell} {te ta tb tc td tl : TE} {t u tt : TT} {α β γ δ ε σ τ ρ : Type} {d : Dat α} {d1 : Dat α} {d2 : Dat β} {d3 : Dat γ} {g : TG} {ts t1 t2 rest : TS} {js js' vs : List Nat}
/-! ### what a for walks -/
def Ie (tx : XC → Addr) (Y : YC) (ti : TI) (Γ : List Cell) {α : Type} (d : Dat α) (m : M (List α)) : Prop := m.nb → XkM tx Y Γ m → ∀ (g : TG) (ts : TS) (k : Ks), (∀ xs, m = .ok xs → Body Y g ts d k (fun i => xs[i]?) xs.length Γ) → Z Y (tFor ti g ts) Γ k
theorem ie_eq {ti : TI} {m m' : M (List α)} (h : Ie tx Y ti Γ d m) (e : m = m') : Ie tx Y ti Γ d m' := e ▸ h
theorem ie_list {m : M (List α)} (h : We tx Y tl Γ (dList (d := d)) m) : Ie tx Y (iList Y.K tl) Γ d m := fun nb xk g ts k hb => z_for (w_mono (h nb xk) fun xs e => hb xs e)
theorem ie_tup {m : M (Tup α)} (h : We tx Y tl Γ (dTup (d := d)) m) : Ie tx Y (iTup Y.K tl) Γ d (m >>= fun xs => .ok xs.l) := fun nb xk g ts k hb => z_forT (h.k nb xk fun xs e _ _ => hb xs.l (by rw [e]; rfl))
theorem ie_range {m : M Int} (h : Re tx Y ta Γ dInt m) : Ie tx Y (iRng1 (tCons ta tNil)) Γ dInt (m >>= M.range) := fun nb xk g ts k hb => z_range (h.k nb xk fun n e nb2 _ => by
  have hp := M.asrt_nb nb2
  refine ⟨hp.1, Int.lt_of_le_of_lt hp.2 (by decide), ?_⟩
  have := hb (rngL 0 n.toNat) (by rw [e]; exact M.asrt_pos hp)
  rw [rngL_len] at this
  rw [show rng 0 n.toNat = fun i => (rngL 0 n.toNat)[i]? from funext fun i => rng_get 0 n.toNat i]
  exact this)
theorem ie_enum {m : M (List α)} (h : We tx Y te Γ (dList (d := d)) m) : Ie tx Y (iEnum Y.K (tCons te tNil)) Γ (dPair (d1 := dInt) (d2 := d)) (m >>= fun xs => .ok (M.enumL xs)) := fun nb xk g ts k hb => z_enum (h.k nb xk fun xs e _ _ => by
  have := hb (M.enumL xs) (by rw [e]; rfl)
  rw [M.enumL_len] at this
  rw [show enumI xs = fun i => (M.enumL xs)[i]? from funext fun i => M.enumL_get xs i]
  exact this)
theorem ie_enumT {m : M (Tup α)} (h : We tx Y te Γ (dTup (d := d)) m) : Ie tx Y (iEnumT Y.K (tCons te tNil)) Γ (dPair (d1 := dInt) (d2 := d)) (m >>= fun xs => .ok (M.enumL xs.l)) := fun nb xk g ts k hb => z_enumT (h.k nb xk fun xs e _ _ => by
  have := hb (M.enumL xs.l) (by rw [e]; rfl)
  rw [M.enumL_len] at this
  rw [show enumI xs.l = fun i => (M.enumL xs.l)[i]? from funext fun i => M.enumL_get xs.l i]
  exact this)
/-- a written pair is walked -/
theorem w_pairL {k : Tup α → Prop} (h : W Y te Γ (dPair (d1 := d) (d2 := d)) fun x => k ⟨[x.1, x.2]⟩) : W Y te Γ (dTup (d := d)) k := fun e F σ H s Q q => h e F σ H s Q fun v F' H' x kx g ⟨a, v1, v2, e1, ht, r1, r2⟩ => q v F' H' _ kx g ⟨a, _, e1, ht, r1, r2, trivial⟩
theorem we_pairL {m : M (α × α)} (h : We tx Y te Γ (dPair (d1 := d) (d2 := d)) m) : We tx Y te Γ (dTup (d := d)) (m >>= fun x => .ok ⟨[x.1, x.2]⟩) := we_p1w (f := fun x : α × α => (⟨[x.1, x.2]⟩ : Tup α)) (fun k h => w_pairL h) h
/-! ### comprehensions -/
def Ic (tx : XC → Addr) (Y : YC) (ti : TI) (Γ : List Cell) {α : Type} (d : Dat α) (m : M (List α)) : Prop := m.nb → XkM tx Y Γ m → ∀ {β : Type} (d2 : Dat β) (g : TG) (tt : TT) (te : TE) (vs : List Nat) (kx : List β → Prop), (Tg g vs ∧ MoG g) →
  (∀ xs, m = .ok xs → xs.length ≤ PySem.sizeLine → CompB Y g tt te d d2 kx (fun i => xs[i]?) xs.length (wipeC Γ vs)) → O Y (tLc ti g tt te vs) Γ (oList (d := d2)) kx
theorem ic_list {m : M (List α)} (h : We tx Y tl Γ (dList (d := d)) m) : Ic tx Y (iListB Y.K tl) Γ d m := fun nb xk β d2 g tt te vs kx hT hb e F σ H s Q q => h nb xk e F σ H s _ fun v F1 H1 xs hm g1 ⟨a, us, e1, hq, r⟩ => by
  subst e1
  refine ⟨a, us, rfl, g1.fh.seq hq, fun hz D hD => ?_⟩
  obtain ⟨I, h0, hs, hd⟩ := hb xs hm (by rw [← r.len]; exact hz)
  have kw0 : Wk ⟨F1, H1, []⟩ F1 [(D, .lst [])] (upd H1 D (.lst [])) := g1.base.own hD (fun _ z => by cases z)
  refine lc_list (K := Y.K) (a := a) (xs := us) (fun i H => ∃ F' acc ys, Wk ⟨F1, H1, []⟩ F' [(D, .lst acc)] H ∧ Reps d2 Y.g F' acc ys ∧ I i ys) ⟨F1, [], [], kw0, trivial, h0⟩ (fun i H _ ⟨F', acc, ys, kw, _⟩ => (kw.ff.trans kw.fh).seq hq) (fun i w H hw p => ?_) fun H ⟨F', acc, ys, kw, ra, hi⟩ => ?_
  · obtain ⟨x, hx, rx⟩ := r.getV hw
    exact comp_turn (s.grow g1) hT.1 (hs i x · hx) (fun F' sm => d.mono sm rx) p
  · rw [r.len] at hi
    exact q _ F' H _ ys (hd ys hi) (by simpa using g1.trans kw) ⟨D, acc, rfl, rfl, ra⟩
theorem ic_range {m : M Int} (h : Re tx Y ta Γ dInt m) : Ic tx Y (iRng1 (tCons ta tNil)) Γ dInt (m >>= M.range) := fun nb xk β d2 g tt te vs kx hT hb => o_lcR hT (h.k nb xk fun n e nb2 _ => by
  have hp := M.asrt_nb nb2
  refine ⟨hp.1, Int.lt_of_le_of_lt hp.2 (by decide), ?_⟩
  have := hb (rngL 0 n.toNat) (by rw [e]; exact M.asrt_pos hp) (by rw [rngL_len]; have := hp.2; omega)
  rw [rngL_len] at this
  rw [show rng 0 n.toNat = fun i => (rngL 0 n.toNat)[i]? from funext fun i => rng_get 0 n.toNat i]
  exact this)
theorem te_yes : Te tx Y tYes Γ (.ok true) := fun _ _ => t_yes rfl
theorem oe_lc {ti : TI} {m0 : M (List α)} {p : α → M Bool} {f : α → M β} (hT : Tg g vs ∧ MoG g) (h : Ic tx Y ti Γ d m0) (hb : ∀ x, A Y g (wipeC Γ vs) d x fun Γ2 => Te tx (calm Y.g) tt Γ2 (p x) ∧ We tx (calm Y.g) te Γ2 d2 (f x)) :
    Oe tx Y (tLc ti g tt te vs) Γ (oList (d := d2)) (m0 >>= M.comp p f) := fun nb xk => h (M.nb1 nb) xk.l d2 g tt te vs _ hT fun xs e hz => by
  have nb2 : (M.comp p f xs).nb := M.nb2 nb e
  refine ⟨fun i ys => M.comp p f (xs.take i) = .ok ys ∧ ys.length ≤ i, ⟨rfl, Nat.le_refl _⟩, fun i x ys hx ⟨hi, hl⟩ => ?_, fun ys ⟨hi, _⟩ => ?_⟩
  · have hx' : xs[i]? = some x := hx
    have hlt : i < xs.length := (List.getElem?_eq_some_iff.mp hx').1
    have htk : xs.take (i + 1) = xs.take i ++ [x] := by rw [List.take_add_one, hx']; rfl
    have e1 : M.comp p f (xs.take (i + 1)) = (M.comp p f [x] >>= fun b => .ok (ys ++ b)) := by rw [htk, M.comp_app, hi]; rfl
    have nb3 : (M.comp p f [x]).nb := fun z => nb2 (by
      have : xs = xs.take (i + 1) ++ xs.drop (i + 1) := (List.take_append_drop _ _).symm
      rw [this, M.comp_app, e1, z]; rfl)
    intro e0 F σ0 H v s r Q q
    refine hb x e0 F σ0 H v s r Q fun σ' Γ' ⟨ht, hw⟩ s' => q σ' Γ' ?_ s'
    simp only [M.comp] at nb3 e1
    obtain ⟨b, hb1⟩ := M.calm_nb (M.nb1 nb3)
    rw [hb1] at nb3 e1
    simp only [M.calm_of_ok, M.ok_bind] at nb3 e1
    refine t_mono (t_calm (ht (by rw [hb1]; exact fun z => nomatch z) (by rw [hb1]; exact XkM.ok))) fun b' eb => ⟨fun z => ?_, fun z => ?_⟩
    · rw [hb1] at eb
      cases eb
      subst z
      rw [if_pos rfl] at nb3 e1
      obtain ⟨y, hy⟩ := M.calm_nb (M.nb1 nb3)
      rw [hy] at e1
      refine w_mono (w_calm (hw (by rw [hy]; exact fun z => nomatch z) (by rw [hy]; exact XkM.ok))) fun y' ey => ?_
      rw [hy] at ey
      cases ey
      exact ⟨by omega, e1, by simp; omega⟩
    · rw [hb1] at eb
      cases eb
      subst z
      rw [if_neg (by simp)] at e1
      exact ⟨by rw [e1]; simp, by omega⟩
  · rw [List.take_length] at hi
    rw [e]
    exact hi
/-! ### statements -/
theorem wipeC_len (Γ : List Cell) : ∀ js, (wipeC Γ js).length = Γ.length
  | [] => rfl
  | j :: js => by unfold wipeC; rw [List.length_set, wipeC_len Γ js]
theorem wipeC_set {Γ : List Cell} {i : Nat} {c : Cell} : ∀ {js : List Nat}, i ∈ js → wipeC (Γ.set i c) js = wipeC Γ js
  | [], h => nomatch h
  | j :: js, h => by
    unfold wipeC
    by_cases hi : i ∈ js
    · rw [wipeC_set hi]
    · have e : i = j := by
        rcases List.mem_cons.mp h with h | h
        · exact h
        · exact absurd h hi
      subst e
      have q : ∀ (js : List Nat), i ∉ js → wipeC (Γ.set i c) js = (wipeC Γ js).set i c := by
        intro js
        induction js with
        | nil => intro _; rfl
        | cons m js ih =>
          intro h
          unfold wipeC
          rw [ih (fun z => h (List.mem_cons_of_mem _ z)), set_comm _ _ _ (fun z => h (by rw [z]; exact List.mem_cons_self))]
      rw [q js hi]
      exact List.set_set _
theorem z_wipe {k : Ks} : ∀ (js : List Nat) {Γ : List Cell}, Z Y ts (wipeC Γ js) k → Z Y ts Γ k
  | [], _, h => h
  | j :: js, Γ, h => by
    refine z_wipe js ?_
    unfold wipeC at h
    cases q : (wipeC Γ js)[j]? with
    | some c => exact z_forget j q h
    | none =>
      rw [List.set_eq_of_length_le (List.getElem?_eq_none_iff.mp q)] at h
      exact h
structure Kt (τ : Type) where
  nx : τ → List Cell → Prop
  rt : τ → Cell → List Cell → Prop
  bk : τ → List Cell → Prop
  ct : τ → List Cell → Prop
def Kt.ks {τ : Type} (K : Kt τ) (m : M τ) : Ks := ⟨fun Γ => ∃ t, m = .ok t ∧ K.nx t Γ, fun c Γ => ∃ t, m = .ok t ∧ K.rt t c Γ, fun Γ => ∃ t, m = .ok t ∧ K.bk t Γ, fun Γ => ∃ t, m = .ok t ∧ K.ct t Γ⟩
/-- a def's end -/
def KF {ρ : Type} (cell : ρ → Cell) : Kt ρ := ⟨fun t _ => .val dUnit () = cell t, fun t c _ => c = cell t, fun _ _ => False, fun _ _ => False⟩
/-- a turn's end -/
def KL {σ : Type} (js' : List Nat) (cells : σ → List Cell) : Kt σ := ⟨fun s Γ => wipeC Γ js' = cells s, fun _ _ _ => False, fun _ _ => False, fun s Γ => wipeC Γ js' = cells s⟩
/-- a turn's end, where a turn may leave -/
def KC {σ ρ : Type} (js' : List Nat) (cells : σ → List Cell) (cell : ρ → Cell) : Kt (Ct σ ρ) := ⟨fun t Γ => ∃ s, t = .nx s ∧ wipeC Γ js' = cells s, fun t c _ => ∃ r, t = .rt r ∧ c = cell r, fun t Γ => ∃ s, t = .bk s ∧ wipeC Γ js' = cells s, fun t Γ => ∃ s, t = .nx s ∧ wipeC Γ js' = cells s⟩
def Xk (tx : XC → Addr) (Y : YC) (js : List Nat) (Γ : List Cell) {τ : Type} (m : M τ) : Prop := ∀ x, m = .exc x → ∀ Γ', wipeC Γ' js = wipeC Γ js → Y.kx (x.x tx) Γ'
theorem Xk.here {m : M τ} (h : Xk tx Y js Γ m) : XkM tx Y Γ m := fun x e => h x e Γ rfl
theorem Xk.r {Γ2 : List Cell} {m : M σ} {f : σ → M τ} {x : σ} (h : Xk tx Y js Γ (m >>= f)) (e : m = .ok x) (hw : wipeC Γ2 js = wipeC Γ js) : Xk tx Y js Γ2 (f x) := fun y e2 Γ' e3 => h y (by rw [e]; exact e2) Γ' (e3.trans hw)
theorem Xk.l {m : M σ} {f : σ → M τ} (h : Xk tx Y js Γ (m >>= f)) : Xk tx Y js Γ m := fun y e2 Γ' e3 => h y (by rw [e2]; rfl) Γ' e3
theorem Xk.w {Γ2 : List Cell} {m : M τ} (h : Xk tx Y js Γ m) (hw : wipeC Γ2 js = wipeC Γ js) : Xk tx Y js Γ2 m := fun y e2 Γ' e3 => h y e2 Γ' (e3.trans hw)
/-- the statement does as the model says -/
def Zm (tx : XC → Addr) (Y : YC) (js : List Nat) (ts : TS) (Γ : List Cell) {τ : Type} (K : Kt τ) (m : M τ) : Prop := m.nb → Xk tx Y js Γ m → Z Y ts Γ (K.ks m)
variable {K : Kt τ}
theorem Zm.go {Γ2 : List Cell} {m1 : M σ} {f : σ → M τ} {x : σ} (h : Zm tx Y js rest Γ2 K (f x)) (nb : (m1 >>= f).nb) (xk : Xk tx Y js Γ (m1 >>= f)) (e : m1 = .ok x) (hw : wipeC Γ2 js = wipeC Γ js) : Z Y rest Γ2 (K.ks (m1 >>= f)) := by
  have := h (M.nb2 nb e) (xk.r e hw)
  rw [e]
  exact this
theorem zm_last {m : M τ} (h : Zm tx Y js (tSeq ts tNext) Γ K m) : Zm tx Y js ts Γ K m := h
theorem zm_assoc {m : M τ} (h : Zm tx Y js (tSeq t1 (tSeq t2 rest)) Γ K m) : Zm tx Y js (tSeq (tSeq t1 t2) rest) Γ K m := h
theorem zm_skip {m : M τ} (h : Zm tx Y js rest Γ K m) : Zm tx Y js (tSeq tNext rest) Γ K m := h
theorem zm_set {i : Nat} {c0 : Cell} {m1 : M α} {m2 : α → M τ} (hi : Γ[i]? = some c0) (hj : i ∈ js) (h : We tx Y te Γ d m1) (h2 : ∀ x, Zm tx Y js rest (Γ.set i (.val d x)) K (m2 x)) : Zm tx Y js (tSeq (tAsg te (gName i)) rest) Γ K (m1 >>= m2) := fun nb xk =>
  z_seq (z_set hi (w_mono (h (M.nb1 nb) xk.l.here) fun x e => (h2 x).go nb xk e (wipeC_set hj)))
theorem zm_setO {od : @OD α d} {i : Nat} {c0 : Cell} {m1 : M α} {m2 : α → M τ} (hi : Γ[i]? = some c0) (hj : i ∈ js) (h : Oe tx Y te Γ od m1) (h2 : ∀ x, Zm tx Y js rest (Γ.set i (.own d od none x)) K (m2 x)) : Zm tx Y js (tSeq (tAsg te (gName i)) rest) Γ K (m1 >>= m2) := fun nb xk =>
  z_seq (z_setO hi (o_mono (h (M.nb1 nb) xk.l.here) fun x e => (h2 x).go nb xk e (wipeC_set hj)))
theorem a_mono {x : α} {k k' : List Cell → Prop} (h : A Y g Γ d x k) (m : ∀ Γ, k Γ → k' Γ) : A Y g Γ d x k' := fun e F σ H v s r Q q => h e F σ H v s r Q fun σ' Γ' kx s' => q σ' Γ' (m Γ' kx) s'
theorem zm_setG {m1 : M α} {m2 : α → M τ} (h : We tx Y te Γ d m1) (h2 : ∀ x, A Y g Γ d x fun Γ2 => wipeC Γ2 js = wipeC Γ js ∧ Zm tx Y js rest Γ2 K (m2 x)) : Zm tx Y js (tSeq (tAsg te g) rest) Γ K (m1 >>= m2) := fun nb xk =>
  z_seq (z_setG (w_mono (h (M.nb1 nb) xk.l.here) fun x e => a_mono (h2 x) fun Γ2 ⟨hw, hz⟩ => hz.go nb xk e hw))
theorem zm_drop {m1 : M α} {m2 : M τ} (h : Re tx Y te Γ d m1) (h2 : Zm tx Y js rest Γ K m2) : Zm tx Y js (tSeq (tDrop te) rest) Γ K (m1 >>= fun _ => m2) := fun nb xk =>
  z_seq (z_drop (kt := fun _ => True) (r_mono (h (M.nb1 nb) xk.l.here) fun x e => Zm.go (f := fun _ => m2) (x := x) h2 nb xk e rfl))
theorem zm_frz {od : @OD α d} {x : α} {m : M τ} (i : Nat) (hi : Γ[i]? = some (.own d od none x)) (hj : i ∈ js) (h : Zm tx Y js ts (Γ.set i (.val d x)) K m) : Zm tx Y js ts Γ K m := fun nb xk => z_frz i hi (h nb (xk.w (wipeC_set hj)))
theorem zm_to {Γ2 : List Cell} {m : M τ} (e : Γ = Γ2) (h : Zm tx Y js ts Γ2 K m) : Zm tx Y js ts Γ K m := e ▸ h
/-! stores into what is owned -/
theorem zm_append {pin : Option V} {i : Nat} {xs : List α} {m1 : M α} {m2 : List α → M τ} (hi : Γ[i]? = some (.own (dList (d := d)) (oList (d := d)) pin xs)) (hj : i ∈ js) (h : We tx Y te Γ d m1) (h2 : ∀ ys, Zm tx Y js rest (Γ.set i (.own (dList (d := d)) (oList (d := d)) pin ys)) K (m2 ys)) :
    Zm tx Y js (tSeq (tDrop (tBM Y.K "list" rAppend (tVar i) (tCons te tNil))) rest) Γ K (M.push xs m1 >>= m2) := fun nb xk =>
  z_seq (z_append hi (w_mono (h (M.nb1 (M.nb1 nb)) fun x e => xk.here x (by unfold M.push; rw [e]; rfl)) fun y e => by
    have nb1 : (M.push xs m1).nb := M.nb1 nb
    unfold M.push at nb1
    rw [e] at nb1
    have hl := M.asrt_nb nb1
    exact ⟨hl, (h2 (xs ++ [y])).go nb xk (by rw [e]; exact M.push_ok hl) (wipeC_set hj)⟩))
/-- xs[i] = e -/
def M.setIx {α : Type} (xs : List α) (mi : M Int) (me : M α) : M (List α) := me >>= fun y => mi >>= fun n => match ixN xs.length n with | some j => .ok (xs.set j y) | none => .bad
theorem zm_setIx {pin : Option V} {i : Nat} {xs : List α} {mi : M Int} {m1 : M α} {m2 : List α → M τ} (hi : Γ[i]? = some (.own (dList (d := d)) (oList (d := d)) pin xs)) (hj : i ∈ js) (h : We tx Y te Γ d m1) (hx : Re tx Y tb Γ dInt mi) (h2 : ∀ ys, Zm tx Y js rest (Γ.set i (.own (dList (d := d)) (oList (d := d)) pin ys)) K (m2 ys)) :
    Zm tx Y js (tSeq (tAsg te (gSub (tVar i) tb rSetL)) rest) Γ K (M.setIx xs mi m1 >>= m2) := fun nb xk =>
  z_seq (z_setIx hi (h.k (M.nb1 nb) xk.l.here fun y e nb3 xk3 => hx.k nb3 xk3 fun n e2 nb4 _ => by
    cases q : ixN xs.length n with
    | none => simp only [q] at nb4; exact absurd rfl nb4
    | some j => exact ⟨j, rfl, (h2 (xs.set j y)).go nb xk (by unfold M.setIx; rw [e]; show (mi >>= _) = _; rw [e2]; show (match ixN xs.length n with | some j => _ | none => _) = _; rw [q]) (wipeC_set hj)⟩))
def M.popL {α : Type} (xs : List α) : M (List α × α) := match xs.getLast? with | some y => .ok (xs.dropLast, y) | none => .bad
/-! ways -/
theorem zm_if {mb : M Bool} {m1 m2 : M τ} (hb : Te tx Y t Γ mb) (h1 : Zm tx Y js (tSeq t1 rest) Γ K m1) (h2 : Zm tx Y js (tSeq t2 rest) Γ K m2) : Zm tx Y js (tSeq (tIfS t t1 t2) rest) Γ K (mb >>= fun b => if b then m1 else m2) := fun nb xk => by
  have : Z Y (tIfS t (tSeq t1 rest) (tSeq t2 rest)) Γ (K.ks (mb >>= fun b => if b then m1 else m2)) := z_if (t_mono (hb (M.nb1 nb) xk.l.here) fun b e => ⟨fun z => by
    subst z
    exact Zm.go (f := fun b => if b = true then m1 else m2) (x := true) h1 nb xk e rfl, fun z => by
    subst z
    exact Zm.go (f := fun b => if b = true then m1 else m2) (x := false) h2 nb xk e rfl⟩)
  intro e F σ H D hM s c
  have q := this e F σ H D hM s c
  refine Eq.mp ?_ q
  unfold tIfS tSeq
  rfl
theorem zm_ifP {b : Bool} {m1 m2 : M τ} (hb : Te tx Y t Γ (.ok b)) (h1 : Zm tx Y js (tSeq t1 rest) Γ K m1) (h2 : Zm tx Y js (tSeq t2 rest) Γ K m2) : Zm tx Y js (tSeq (tIfS t t1 t2) rest) Γ K (if b then m1 else m2) := zm_if hb h1 h2
theorem zm_ret {cell : τ → Cell} {d : Dat τ} {m : M τ} (h : We tx Y te Γ d m) (hc : cell = fun r => .val d r := by rfl) : Zm tx Y js (tSeq (tRet te) rest) Γ (KF cell) m := fun nb xk => by
  subst hc
  exact z_ret (te := te) (k := (KF fun r => Cell.val d r).ks m) (w_mono (h nb xk.here) fun x e => ⟨x, e, rfl⟩)
theorem zm_retO {cell : τ → Cell} {d : Dat τ} {od : OD τ} {m : M τ} (h : Oe tx Y te Γ od m) (hc : cell = fun r => .own d od none r := by rfl) : Zm tx Y js (tSeq (tRet te) rest) Γ (KF cell) m := fun nb xk => by
  subst hc
  exact z_retO (te := te) (k := (KF fun r => Cell.own d od none r).ks m) (o_mono (h nb xk.here) fun x e => ⟨x, e, rfl⟩)
theorem zm_retV {cell : τ → Cell} {d : Dat τ} {od : OD τ} {i : Nat} {x : τ} (hi : Γ[i]? = some (.own d od none x)) (hc : cell = fun r => .own d od none r := by rfl) : Zm tx Y js (tSeq (tRet (tVar i)) rest) Γ (KF cell) (.ok x) := fun nb xk => by
  subst hc
  exact z_retV (k := (KF fun r => Cell.own d od none r).ks (M.ok x)) hi ⟨x, rfl, rfl⟩
theorem zm_end {cell : Unit → Cell} (hc : cell = fun r => .val dUnit r := by rfl) : Zm tx Y js tNext Γ (KF cell) (.ok ()) := fun nb xk => by
  subst hc
  exact z_next (k := (KF fun r => Cell.val dUnit r).ks (M.ok ())) ⟨(), rfl, rfl⟩
variable {cells : σ → List Cell} {cell : ρ → Cell} {s : σ}
theorem zm_retC {d : Dat ρ} {m : M ρ} (h : We tx Y te Γ d m) (hc : cell = fun r => .val d r := by rfl) : Zm tx Y js (tSeq (tRet te) rest) Γ (KC js' cells cell) (m >>= fun r => .ok (.rt r)) := fun nb xk => by
  subst hc
  exact z_ret (te := te) (k := (KC js' cells fun r => Cell.val d r).ks (m >>= fun r => .ok (.rt r))) (w_mono (h (M.nb1 nb) xk.l.here) fun x e => ⟨.rt x, by rw [e]; rfl, x, rfl, rfl⟩)
theorem zm_nextL (h : wipeC Γ js' = cells s) : Zm tx Y js tNext Γ (KL js' cells) (.ok s) := fun nb xk => z_next (k := (KL js' cells).ks (M.ok s)) ⟨s, rfl, h⟩
theorem zm_nextC (h : wipeC Γ js' = cells s) : Zm tx Y js tNext Γ (KC js' cells cell) (.ok (.nx s)) := fun nb xk => z_next (k := (KC js' cells cell).ks (M.ok (.nx s))) ⟨.nx s, rfl, s, rfl, h⟩
/-- ways that meet: no turn ends here -/
def KJ {σ : Type} (js' : List Nat) (cells : σ → List Cell) : Kt σ := ⟨fun s Γ => wipeC Γ js' = cells s, fun _ _ _ => False, fun _ _ => False, fun _ _ => False⟩
theorem zm_nextJ (h : wipeC Γ js' = cells s) : Zm tx Y js tNext Γ (KJ js' cells) (.ok s) := fun nb xk => z_next (k := (KJ js' cells).ks (M.ok s)) ⟨s, rfl, h⟩
theorem zm_join (js' : List Nat) (cells : σ → List Cell) {m1 : M σ} {m2 : σ → M τ} (hw : ∀ s, wipeC (cells s) js = wipeC Γ js) (h1 : Zm tx Y js t1 Γ (KJ js' cells) m1) (h2 : ∀ s, Zm tx Y js rest (cells s) K (m2 s)) : Zm tx Y js (tSeq t1 rest) Γ K (m1 >>= m2) := fun nb xk =>
  z_seq (z_mono (h1 (M.nb1 nb) xk.l) (fun Γ' ⟨s, e, hs⟩ => z_wipe js' (by rw [show wipeC Γ' js' = cells s from hs]; exact (h2 s).go nb xk e (hw s))) (fun _ _ ⟨_, _, z⟩ => z.elim) (fun _ ⟨_, _, z⟩ => z.elim) fun Γ' ⟨s, e, z⟩ => z.elim)
/-! loops -/
theorem zm_for {ti : TI} (js' : List Nat) (cells : σ → List Cell) (s0 : σ) {m0 : M (List α)} {f : σ → α → M σ} {m2 : σ → M τ} (hw0 : wipeC (wipeC Γ js') js = wipeC Γ js) (h0 : wipeC Γ js' = cells s0) (hw : ∀ s, wipeC (cells s) js = wipeC Γ js) (h : Ie tx Y ti (cells s0) d m0)
    (hb : ∀ s x, A Y g (cells s) d x fun Γ2 => wipeC Γ2 js = wipeC Γ js ∧ Zm tx Y js ts Γ2 (KL js' cells) (f s x)) (h2 : ∀ s, Zm tx Y js rest (cells s) K (m2 s)) : Zm tx Y js (tSeq (tFor ti g ts) rest) Γ K (m0 >>= fun xs => M.fold f s0 xs >>= m2) := fun nb xk => by
  refine z_wipe js' (by
    rw [h0]
    refine z_seq (h (M.nb1 nb) ((xk.w (hw s0)).l.here) g ts _ fun xs e => ?_)
    have nb1 : (M.fold f s0 xs >>= m2).nb := M.nb2 (f := fun xs => M.fold f s0 xs >>= m2) nb e
    have nb2 : (M.fold f s0 xs).nb := M.nb1 nb1
    refine ⟨fun i Γ' => ∃ s, M.fold f s0 (xs.take i) = .ok s ∧ wipeC Γ' js' = cells s, ⟨s0, rfl, ?_⟩, fun i x Γ' hx ⟨s, es, hΓ⟩ => ?_, fun Γ' ⟨s, es, hΓ⟩ => ?_⟩
    · rw [← h0]
      have : ∀ js : List Nat, wipeC (wipeC Γ js) js = wipeC Γ js := by
        intro l
        suffices ∀ (l m : List Nat), (∀ j ∈ m, j ∈ l) → wipeC (wipeC Γ l) m = wipeC Γ l from this l l fun _ h => h
        intro l m hm
        induction m with
        | nil => rfl
        | cons j m ih =>
          show (wipeC (wipeC Γ l) m).set j .no = _
          rw [ih fun k hk => hm k (List.mem_cons_of_mem _ hk)]
          have : ∀ l : List Nat, j ∈ l → (wipeC Γ l).set j .no = wipeC Γ l := by
            intro l hl
            induction l with
            | nil => exact nomatch hl
            | cons k l ih2 =>
              show ((wipeC Γ l).set k .no).set j .no = (wipeC Γ l).set k .no
              by_cases hk : j = k
              · subst hk; exact List.set_set _
              · rw [set_comm _ _ _ (fun z => hk z.symm), ih2 ((List.mem_cons.mp hl).resolve_left hk)]
          exact this l (hm j List.mem_cons_self)
      exact this js'
    · have htk : xs.take (i + 1) = xs.take i ++ [x] := by rw [List.take_add_one, show xs[i]? = some x from hx]; rfl
      have hs1 : M.fold f s0 (xs.take (i + 1)) = f s x := by rw [htk, M.fold_app, es]; show M.fold f s [x] = _; simp [M.fold]
      have hall : M.fold f s0 xs = (f s x >>= fun s' => M.fold f s' (xs.drop (i + 1))) := by
        have : xs = xs.take (i + 1) ++ xs.drop (i + 1) := (List.take_append_drop _ _).symm
        rw [this, M.fold_app, hs1, ← this]
      have nb3 : (f s x).nb := fun z => nb2 (by rw [hall, z]; rfl)
      have xk3 : ∀ {Γ2 : List Cell}, wipeC Γ2 js = wipeC Γ js → Xk tx Y js Γ2 (f s x) := fun {Γ2} hΓ2 y ey Γ' e3 => xk y (by rw [e]; show (M.fold f s0 xs >>= m2) = _; rw [hall, ey]; rfl) Γ' (e3.trans hΓ2)
      refine fun e0 F σ0 H v st r Q q => ?_
      have st2 : State Y e0 F σ0 H Γ' := st
      refine (show A Y g Γ' d x _ from ?_) e0 F σ0 H v st r Q q
      have hA := hb s x
      rw [← hΓ] at hA
      have lift : ∀ (js' : List Nat) (Γ' : List Cell) (k : List Cell → Prop), A Y g (wipeC Γ' js') d x k → A Y g Γ' d x k := by
        intro l
        induction l with
        | nil => intro _ _ h; exact h
        | cons j l ih =>
          intro Γ' k h
          refine ih Γ' k ?_
          unfold wipeC at h
          cases q : (wipeC Γ' l)[j]? with
          | some c => exact fun e F σ H v s r Q q' => h e F σ H v (s.hide q) r Q q'
          | none =>
            rw [List.set_eq_of_length_le (List.getElem?_eq_none_iff.mp q)] at h
            exact h
      refine lift js' Γ' _ (a_mono hA fun Γ2 ⟨hΓ2, hz⟩ => ?_)
      exact z_mono (hz nb3 (xk3 hΓ2)) (fun Γ3 ⟨s', e', h'⟩ => ⟨s', by rw [hs1]; exact e', h'⟩) (fun _ _ ⟨_, _, z⟩ => z.elim) (fun _ ⟨_, _, z⟩ => z.elim) fun Γ3 ⟨s', e', h'⟩ => ⟨s', by rw [hs1]; exact e', h'⟩
    · rw [List.take_length] at es
      refine z_wipe js' ?_
      rw [hΓ]
      have hz := Zm.go (f := m2) (x := s) (m1 := M.fold f s0 xs) (Γ := Γ) (h2 s) nb1 (Xk.r (f := fun xs => M.fold f s0 xs >>= m2) xk e rfl) es (hw s)
      rw [e]
      exact hz)
theorem wipeC_idem (Γ : List Cell) (js : List Nat) : wipeC (wipeC Γ js) js = wipeC Γ js := by
  suffices ∀ (l m : List Nat), (∀ j ∈ m, j ∈ l) → wipeC (wipeC Γ l) m = wipeC Γ l from this js js fun _ h => h
  intro l m hm
  induction m with
  | nil => rfl
  | cons j m ih =>
    show (wipeC (wipeC Γ l) m).set j .no = _
    rw [ih fun k hk => hm k (List.mem_cons_of_mem _ hk)]
    have : ∀ l : List Nat, j ∈ l → (wipeC Γ l).set j .no = wipeC Γ l := by
      intro l hl
      induction l with
      | nil => exact nomatch hl
      | cons k l ih2 =>
        show ((wipeC Γ l).set k .no).set j .no = (wipeC Γ l).set k .no
        by_cases hk : j = k
        · subst hk; exact List.set_set _
        · rw [set_comm _ _ _ (fun z => hk z.symm), ih2 ((List.mem_cons.mp hl).resolve_left hk)]
    exact this l (hm j List.mem_cons_self)
theorem a_wipe {x : α} : ∀ (js' : List Nat) {Γ' : List Cell} {k : List Cell → Prop}, A Y g (wipeC Γ' js') d x k → A Y g Γ' d x k
  | [], _, _, h => h
  | j :: l, Γ', k, h => by
    refine a_wipe l ?_
    unfold wipeC at h
    cases q : (wipeC Γ' l)[j]? with
    | some c => exact fun e F σ H v s r Q q' => h e F σ H v (s.hide q) r Q q'
    | none =>
      rw [List.set_eq_of_length_le (List.getElem?_eq_none_iff.mp q)] at h
      exact h
/-- a for whose turns may leave -/
theorem zm_forC {ti : TI} (js' : List Nat) (cells : σ → List Cell) (cell : ρ → Cell) (s0 : σ) {m0 : M (List α)} {f : σ → α → M (Ct σ ρ)} {mr : ρ → M τ} {m2 : σ → M τ} (hw0 : wipeC (wipeC Γ js') js = wipeC Γ js) (h0 : wipeC Γ js' = cells s0) (hw : ∀ s, wipeC (cells s) js = wipeC Γ js) (h : Ie tx Y ti (cells s0) d m0)
    (hb : ∀ s x, A Y g (cells s) d x fun Γ2 => wipeC Γ2 js = wipeC Γ js ∧ Zm tx Y js ts Γ2 (KC js' cells cell) (f s x)) (hr : ∀ r Γ', ∃ t, mr r = .ok t ∧ K.rt t (cell r) Γ') (h2 : ∀ s, Zm tx Y js rest (cells s) K (m2 s)) : Zm tx Y js (tSeq (tFor ti g ts) rest) Γ K (m0 >>= fun xs => M.foldC f s0 xs >>= fun c => c.go mr m2) := fun nb xk => by
  refine z_wipe js' (by
    rw [h0]
    refine z_seq (h (M.nb1 nb) ((xk.w (hw s0)).l.here) g ts _ fun xs e => ?_)
    have nb1 : (M.foldC f s0 xs >>= fun c => c.go mr m2).nb := M.nb2 (f := fun xs => M.foldC f s0 xs >>= fun c => c.go mr m2) nb e
    have nb2 : (M.foldC f s0 xs).nb := M.nb1 nb1
    -- behind the loop
    have fin : ∀ (s : σ) (c : Ct σ ρ) (Γ' : List Cell), M.foldC f s0 xs = .ok c → (c = .nx s ∨ c = .bk s) → wipeC Γ' js' = cells s → Z Y rest Γ' (K.ks (m0 >>= fun xs => M.foldC f s0 xs >>= fun c => c.go mr m2)) := fun s c Γ' es hc hΓ => by
      refine z_wipe js' ?_
      rw [hΓ]
      have hg : c.go mr m2 = m2 s := by rcases hc with z | z <;> (subst z; rfl)
      have hz := Zm.go (f := fun c : Ct σ ρ => c.go mr m2) (x := c) (show Zm tx Y js rest (cells s) K (c.go mr m2) from by rw [hg]; exact h2 s) (m1 := M.foldC f s0 xs) (Γ := Γ) nb1 (Xk.r (f := fun xs => M.foldC f s0 xs >>= fun c => c.go mr m2) xk e rfl) es (hw s)
      rw [e]
      exact hz
    refine ⟨fun i Γ' => ∃ s, M.foldC f s0 (xs.take i) = .ok (.nx s) ∧ wipeC Γ' js' = cells s, ⟨s0, rfl, by rw [← h0]; exact wipeC_idem Γ js'⟩, fun i x Γ' hx ⟨s, es, hΓ⟩ => ?_, fun Γ' ⟨s, es, hΓ⟩ => ?_⟩
    · have htk : xs.take (i + 1) = xs.take i ++ [x] := by rw [List.take_add_one, show xs[i]? = some x from hx]; rfl
      have hs1 : M.foldC f s0 (xs.take (i + 1)) = f s x := by
        rw [htk, M.foldC_app, es]; show M.foldC f s [x] = _
        simp only [M.foldC]
        cases f s x with
        | bad => rfl
        | exc x => rfl
        | ok c => cases c <;> rfl
      have hall : M.foldC f s0 xs = (f s x >>= fun c => match c with | .nx s' => M.foldC f s' (xs.drop (i + 1)) | c => .ok c) := by
        have : xs = xs.take (i + 1) ++ xs.drop (i + 1) := (List.take_append_drop _ _).symm
        rw [this, M.foldC_app, hs1, ← this]
        all_goals (cases f s x with
        | bad => rfl
        | exc x => rfl
        | ok c => cases c <;> rfl)
      have nb3 : (f s x).nb := fun z => nb2 (by rw [hall, z]; rfl)
      have xk3 : ∀ {Γ2 : List Cell}, wipeC Γ2 js = wipeC Γ js → Xk tx Y js Γ2 (f s x) := fun {Γ2} hΓ2 y ey Γ' e3 => xk y (by rw [e]; show (M.foldC f s0 xs >>= _) = _; rw [hall, ey]; rfl) Γ' (e3.trans hΓ2)
      have hA := hb s x
      rw [← hΓ] at hA
      refine a_wipe js' (a_mono hA fun Γ2 ⟨hΓ2, hz⟩ => ?_)
      refine z_mono (hz nb3 (xk3 hΓ2)) (fun Γ3 ⟨c, e', s', ec, h'⟩ => ⟨s', by rw [hs1, e', ec], h'⟩) (fun c Γ3 ⟨t, e', r, er, hc⟩ => ?_) (fun Γ3 ⟨c, e', s', ec, h'⟩ => ?_) fun Γ3 ⟨c, e', s', ec, h'⟩ => ⟨s', by rw [hs1, e', ec], h'⟩
      · subst er hc
        obtain ⟨t2, e2, hk⟩ := hr r Γ3
        exact ⟨t2, by rw [e]; show (M.foldC f s0 xs >>= _) = _; rw [hall, e']; exact e2, hk⟩
      · subst ec
        exact fin s' (.bk s') Γ3 (by rw [hall, e']; rfl) (.inr rfl) h'
    · rw [List.take_length] at es
      exact fin s (.nx s) Γ' es (.inl rfl) hΓ)
/-- returns through, of defs and of turns -/
theorem rt_KF {cell : τ → Cell} : ∀ (r : τ) (Γ' : List Cell), ∃ t, (M.ok r : M τ) = .ok t ∧ (KF cell).rt t (cell r) Γ' := fun r _ => ⟨r, rfl, rfl⟩
theorem rt_KC : ∀ (r : ρ) (Γ' : List Cell), ∃ t, (M.ok (Ct.rt r) : M (Ct σ ρ)) = .ok t ∧ (KC js' cells cell).rt t (cell r) Γ' := fun r _ => ⟨.rt r, rfl, r, rfl, rfl⟩
/-! ### the body of a def -/
theorem Zm.body {C : GCtx} {N : List Str} {cell : τ → Cell} {m : M τ} {vs : List V} {H : Hp} {Q : VK} {E : XK} (nb : m.nb) (h : FnX C Γ (fun c => ∃ r, c = cell r ∧ m = .ok r) (fun x => ∃ px, m = .exc px ∧ x = px.x tx) vs H Q E)
    (hz : Zm tx ⟨C, fun _ => E, fun x _ => ∃ px, m = .exc px ∧ x = px.x tx⟩ js ts (Γ ++ List.replicate (N.length - Γ.length) .no) (KF cell) m) : ts { nx := fun _ H' => Q .non H', rt := Q } (L2.start N vs) H :=
  h.body (z_mono (hz nb fun x e Γ' _ => ⟨x, e, rfl⟩) (fun Γ' ⟨t, e, q⟩ => ⟨t, q, e⟩) (fun c Γ' ⟨t, e, q⟩ => ⟨t, q, e⟩) (fun _ ⟨_, _, z⟩ => z) fun _ ⟨_, _, z⟩ => z)
/-- .. of a def that lets nothing out -/
theorem Zm.body0 {C : GCtx} {N : List Str} {cell : τ → Cell} {m : M τ} {x : τ} {vs : List V} {H : Hp} {Q : VK} (e : m = .ok x) (h : Fn C Γ (fun c => c = cell x) vs H Q)
    (hz : Zm tx (calm C) js ts (Γ ++ List.replicate (N.length - Γ.length) .no) (KF cell) m) : ts { nx := fun _ H' => Q .non H', rt := Q } (L2.start N vs) H := by
  subst e
  exact h.body (z_mono (hz (fun z => nomatch z) fun x e => nomatch e) (fun Γ' ⟨t, e, q⟩ => by cases e; exact q) (fun c Γ' ⟨t, e, q⟩ => by cases e; exact q) (fun _ ⟨_, _, z⟩ => z) fun _ ⟨_, _, z⟩ => z)
end
end G
end

noncomputable section
/-! M3: exceptions and instances, with models. -/
namespace G
open PySem PySem.Spec PyProof.Rows L2 PySem.W
/-- c is k, or k is a base of c -/
def XC.isA (c k : XC) : Bool := decide (k = .ComesapartError) || decide (c = k)
def M.raise1 {α : Type} (c : XC) (f : Str) (m : M Int) : M α := m >>= fun n => .exc ⟨c, some [(f, .int n)]⟩
def M.raise2 {α : Type} (c : XC) (f1 f2 : Str) (m1 m2 : M Int) : M α := m1 >>= fun n => m2 >>= fun n2 => .exc ⟨c, some [(f2, .int n2), (f1, .int n)]⟩
/-- try: m; except: h, for the classes that p tells; kn: the classes that are known -/
def M.tryK {α : Type} (kn p : XC → Bool) (m : M α) (h : PX → M α) : M α := match m with | .exc x => if kn x.cls then (if p x.cls then h x else .exc x) else .bad | m => m
/-- e.f where e is of the class c -/
def PX.fld (x : PX) (c : XC) (f : Str) : M Int := if x.cls = c then (match x.fs with | some fs => (match fs.lookup f with | some (.int n) => .ok n | _ => .bad) | none => .bad) else .bad
section
variable {tx : XC → Addr} {Y : YC} {Γ : List Cell} {te ta tb tc td tl t1 t2 : TE} {α β γ τ : Type} {d : Dat α} {d1 : Dat α} {d2 : Dat β} {ts rest : TS} {js : List Nat} {K : Kt τ} {Cx : Addr} {f1 f2 : Str} {Wt : WX}
theorem zm_raise1 {c : XC} {m : M Int} (hE : Y.E = WE Wt) (hc : tx c = Cx) (h : Re tx Y te Γ dInt m) : Zm tx Y js (tSeq (fun _ σ H => tMkO Cx (spX1 Cx f1) [] (tCons te tNil) σ H fun cls d H' => Wt cls d σ H') rest) Γ K (M.raise1 c f1 m) := fun nb xk => by
  subst hc
  exact z_raise1 (k := K.ks (M.raise1 c f1 m)) hE (r_mono (h (M.nb1 nb) xk.l.here) fun n e => xk ⟨c, some [(f1, .int n)]⟩ (by unfold M.raise1; rw [e]; rfl) Γ rfl)
theorem zm_raise2 {c : XC} {m n : M Int} (hE : Y.E = WE Wt) (hc : tx c = Cx) (h : Re tx Y t1 Γ dInt m) (h2 : Re tx Y t2 Γ dInt n) : Zm tx Y js (tSeq (fun _ σ H => tMkO Cx (spX2 Cx f1 f2) [] (tCons t1 (tCons t2 tNil)) σ H fun cls d H' => Wt cls d σ H') rest) Γ K (M.raise2 c f1 f2 m n) := fun nb xk => by
  subst hc
  refine z_raise2 (k := K.ks (M.raise2 c f1 f2 m n)) hE (h.k nb xk.here fun x e nb3 xk3 => r_mono (h2 (M.nb1 nb3) xk3.l) fun y e2 => xk ⟨c, some [(f2, .int y), (f1, .int x)]⟩ ?_ Γ rfl)
  unfold M.raise2; rw [e]; show (n >>= _) = _; rw [e2]; rfl
theorem z_wipeSet {k : Ks} {i : Nat} {c : Cell} : ∀ (js : List Nat) {Γ : List Cell}, Z Y ts ((wipeC Γ js).set i c) k → Z Y ts (Γ.set i c) k
  | [], _, h => h
  | j :: js, Γ, h => by
    refine z_wipeSet js ?_
    unfold wipeC at h
    by_cases hj : j = i
    · subst hj
      rw [List.set_set] at h
      exact h
    · rw [set_comm _ _ _ hj] at h
      exact z_wipe [j] h
/-- try: body; except c as the name at i: suite; a def's last statement -/
theorem zm_try {ρ : Type} {cell : ρ → Cell} (jt : List Nat) {tb : WX → TS} {tsu : Addr → Value → Option Addr → TS} {i : Nat} {cv : Value} {Wout : WX} {kn p : XC → Bool} {m : M ρ} {h : PX → M ρ} (hE : Y.E = WE Wout) (hi : ∃ c0, Γ[i]? = some c0) (hj : ∀ j ∈ jt, j ∈ js) (hij : i ∈ js)
    (hex : ∀ c, kn c = true → exmOne Y.K (.ref (tx c)) cv = some (p c))
    (hb : ∀ (W : WX) (kb : Exn → List Cell → Prop), Zm tx ⟨Y.g, WE W, kb⟩ jt (tb W) Γ (KF cell) m)
    (hs : ∀ px a d, kn px.cls = true → p px.cls = true → Zm tx Y js (tsu a (.ref (tx px.cls)) d) ((wipeC Γ jt).set i (.val (dExn a d) (px.x tx))) (KF cell) (h px)) :
    Zm tx Y js (tSeq (fun D σ H => tb (wAs Y.K cv i tsu Wout D) D σ H) tNext) Γ (KF cell) (M.tryK kn p m h) := fun nb xk => by
  have wj : ∀ {Γ' : List Cell}, wipeC Γ' jt = wipeC Γ jt → wipeC Γ' js = wipeC Γ js := by
    intro Γ' e
    have key : ∀ (G : List Cell) (l : List Nat), (∀ j ∈ l, j ∈ js) → wipeC (wipeC G l) js = wipeC G js := by
      intro G l
      induction l with
      | nil => intro _; rfl
      | cons j l ih => intro hl; show wipeC ((wipeC G l).set j .no) js = _; rw [wipeC_set (hl j List.mem_cons_self)]; exact ih fun k hk => hl k (List.mem_cons_of_mem _ hk)
    rw [← key Γ' jt hj, e, key Γ jt hj]
  have nbm : m.nb := fun z => nb (by unfold M.tryK; rw [z])
  have hz : Z Y (fun D σ H => tb (wAs Y.K cv i tsu Wout D) D σ H) Γ ((KF cell).ks (M.tryK kn p m h)) := by
    refine z_tryAs (fun x Γ' => ∃ px, m = .exc px ∧ x = px.x tx ∧ wipeC Γ' jt = wipeC Γ jt) hE (fun W => ?_) fun x Γ' ⟨px, em, ex, hΓ⟩ => ?_
    · refine z_mono (hb W _ nbm fun x e Γ' hΓ => ⟨x, e, rfl, hΓ⟩) (fun Γ' ⟨t, e, q⟩ => ⟨t, by unfold M.tryK; rw [e], q⟩) (fun c Γ' ⟨t, e, q⟩ => ⟨t, by unfold M.tryK; rw [e], q⟩) (fun _ ⟨_, _, z⟩ => z.elim) fun _ ⟨_, _, z⟩ => z.elim
    · subst ex
      have hkn : kn px.cls = true := by
        cases hk : kn px.cls with
        | true => rfl
        | false => exact absurd (by unfold M.tryK; rw [em]; show (if kn px.cls = true then _ else _) = _; rw [hk]; rfl) nb
      refine ⟨p px.cls, hex _ hkn, fun hp => ⟨?_, fun a d => ?_⟩, fun hp => ?_⟩
      · obtain ⟨c0, hc0⟩ := hi
        have hl : i < Γ'.length := by
          have e1 : Γ'.length = Γ.length := by rw [← wipeC_len Γ' jt, hΓ, wipeC_len]
          rw [e1]; exact (List.getElem?_eq_some_iff.mp hc0).1
        exact ⟨_, List.getElem?_eq_getElem hl⟩
      · have et : M.tryK kn p m h = h px := by unfold M.tryK; rw [em]; show (if kn px.cls = true then (if p px.cls = true then _ else _) else _) = _; rw [hkn, hp]; rfl
        refine z_wipeSet jt ?_
        rw [hΓ]
        have hw2 : wipeC ((wipeC Γ jt).set i (.val (dExn a d) (px.x tx))) js = wipeC Γ js := by
          rw [wipeC_set hij]; exact wj (wipeC_idem Γ jt)
        have q := hs px a d hkn hp (by rw [← et]; exact nb) (fun y ey Γ2 e2 => xk y (by rw [et]; exact ey) Γ2 (e2.trans hw2))
        refine z_mono q (fun Γ2 ⟨t, e, q⟩ => ⟨t, by rw [et]; exact e, q⟩) (fun c Γ2 ⟨t, e, q⟩ => ⟨t, by rw [et]; exact e, q⟩) (fun _ ⟨_, _, z⟩ => z.elim) fun _ ⟨_, _, z⟩ => z.elim
      · exact xk px (by unfold M.tryK; rw [em]; show (if kn px.cls = true then (if p px.cls = true then _ else _) else _) = _; rw [hkn, hp]; rfl) Γ' (wj hΓ)
  exact hz
/-- isinstance of the caught -/
theorem we_isX {a : Addr} {dd : Option Addr} {px : PX} {i : Nat} {c : V} {cv : Value} {kn : XC → Bool} {b : XC → Bool} (hi : Γ[i]? = some (.val (dExn a dd) (px.x tx))) (hkn : kn px.cls = true) (C : ∀ c, kn c = true → ExcC Y.K (tx c)) (hv : ∀ u, RelV c u → u = cv) (hk : ∀ c, kn c = true → kitOne Y.K (.ref (tx c)) cv = some (b c)) :
    We tx Y (tCB (rIsX Y.K a (.ref (tx px.cls)) dd) (tCons (tVar i) (tCons (tC c) tNil))) Γ dBool (.ok (b px.cls)) := fun nb xk => w_isX (x := px.x tx) hi rfl (C px.cls hkn) hv (hk px.cls hkn) rfl
theorem we_xf {a : Addr} {dd : Option Addr} {px : PX} {i : Nat} {c : XC} {f : Str} (hi : Γ[i]? = some (.val (dExn a dd) (px.x tx))) (hc : tx c = Cx) : We tx Y (tXf a (.ref (tx px.cls)) dd Cx f (tVar i)) Γ dInt (px.fld c f) := fun nb xk => by
  subst hc
  unfold PX.fld at nb ⊢
  split at nb
  · next hcls =>
    cases hfs : px.fs with
    | none => rw [hfs] at nb; exact absurd rfl nb
    | some fs =>
      rw [hfs] at nb
      cases hl : fs.lookup f with
      | none => simp only [hl] at nb; exact absurd rfl nb
      | some v =>
        cases v with
        | int n =>
          rw [if_pos hcls]
          exact w_xf (x := px.x tx) (n := n) (fs := fs) hi rfl (by show tx px.cls = _; rw [hcls]) hfs hl (by simp only [hl])
        | _ => simp only [hl] at nb; exact absurd rfl nb
  · exact absurd rfl nb
/-! making an instance -/
/-- the end of an __init__ -/
def KI {α : Type} {d : Dat α} (od : OD α) (p : Addr) : Kt α := ⟨fun t Γ => Γ[0]? = some (.own d od (some (.ref p)) t), fun _ _ _ => False, fun _ _ => False, fun _ _ => False⟩
theorem zm_endI {od : @OD α d} {p : Addr} {x : α} (h : Γ[0]? = some (.own d od (some (.ref p)) x)) : Zm tx Y js tNext Γ (KI od p) (.ok x) := fun nb xk => z_next (k := (KI od p).ks (M.ok x)) ⟨x, rfl, h⟩
theorem zm_fld1 {C0 : Addr} {f : Str} {i : Nat} {pin : Option V} {x : Ob0} {m1 : M β} {m2 : β → M τ} (hi : Γ[i]? = some (.own (dOb0 C0) (oOb0 C0) pin x)) (hj : i ∈ js) (c : Cls Y.K C0) (n : NoAttr Y.K C0 f) (h : We tx Y te Γ d2 m1) (h2 : ∀ y, Zm tx Y js rest (Γ.set i (.own (dOb1 C0 f) (oOb1 C0 f) pin ⟨y⟩)) K (m2 y)) :
    Zm tx Y js (tSeq (sFld Y.K (tVar i) te f) rest) Γ K (m1 >>= m2) := fun nb xk => z_seq (z_fld1 hi c n (w_mono (h (M.nb1 nb) xk.l.here) fun y e => (h2 y).go nb xk e (wipeC_set hj)))
theorem zm_fld2 {C0 : Addr} {f f0 : Str} {i : Nat} {pin : Option V} {x : Ob1 α} {m1 : M β} {m2 : β → M τ} (hi : Γ[i]? = some (.own (dOb1 (d1 := d) C0 f0) (oOb1 (d1 := d) C0 f0) pin x)) (hj : i ∈ js) (hne : (f0 == f) = false) (c : Cls Y.K C0) (n : NoAttr Y.K C0 f) (h : We tx Y te Γ d2 m1) (h2 : ∀ y, Zm tx Y js rest (Γ.set i (.own (dOb2 (d1 := d) (d2 := d2) C0 f0 f) (oOb2 (d1 := d) (d2 := d2) C0 f0 f) pin ⟨x.a, y⟩)) K (m2 y)) :
    Zm tx Y js (tSeq (sFld Y.K (tVar i) te f) rest) Γ K (m1 >>= m2) := fun nb xk => z_seq (z_fld2 hi hne c n (w_mono (h (M.nb1 nb) xk.l.here) fun y e => (h2 y).go nb xk e (wipeC_set hj)))
theorem Zm.bodyI {C : GCtx} {N : List Str} {C0 : Addr} {od : @OD α d} {m : M α} {vs : List V} {H : Hp} {Q : VK} {E : XK} (nb : m.nb) (h : FnI C od C0 Γ (fun r => m = .ok r) (fun x => ∃ px, m = .exc px ∧ x = px.x tx) vs H Q E)
    (hz : ∀ p, Zm tx ⟨C, fun _ => E, fun x _ => ∃ px, m = .exc px ∧ x = px.x tx⟩ js ts (.own (dOb0 C0) (oOb0 C0) (some (.ref p)) ⟨()⟩ :: (Γ ++ List.replicate (N.length - (Γ.length + 1)) .no)) (KI od p) m) : ts { nx := fun _ H' => Q .non H', rt := Q } (L2.start N vs) H :=
  h.body fun p => z_mono (hz p nb fun x e Γ' _ => ⟨x, e, rfl⟩) (fun Γ' ⟨t, e, q⟩ => ⟨t, q, e⟩) (fun _ _ ⟨_, _, z⟩ => z.elim) (fun _ ⟨_, _, z⟩ => z) fun _ ⟨_, _, z⟩ => z
end
end G
end

noncomputable section
/-! M4: the program's classes; more rules. -/
namespace G
open PySem PySem.Spec PyProof.Rows L2 PySem.W
theorem kitCls_ref {K : Frag} {t : Value} {C : Addr} {cd : ClassData} {b : Bool} (h1 : clsIn K C = some cd) (h2 : typeIn K (.ref C) = some (.type "type")) (h3 : subIn K t (.ref C) = some b) : kitCls K t (.ref C) = some b := by
  show (if ((clsIn K C).isSome && typeIn K (.ref C) == some (.type "type")) = true then subIn K t (.ref C) else none) = _
  rw [h1, h2, h3]
  exact if_pos (by simp)
theorem kit_refT {K : Frag} {t : Value} {C : Addr} {cd : ClassData} (h1 : clsIn K C = some cd) (h2 : typeIn K (.ref C) = some (.type "type")) (h3 : subIn K t (.ref C) = some true) : kitOne K t (.ref C) = some true := by
  unfold kitOne
  rw [kitCls_ref h1 h2 h3]
  split <;> rfl
theorem kit_refF {K : Frag} {D C : Addr} {cd : ClassData} (hne : D ≠ C) (h1 : clsIn K C = some cd) (h2 : typeIn K (.ref C) = some (.type "type")) (h3 : subIn K (.ref D) (.ref C) = some false) : kitOne K (.ref D) (.ref C) = some false := by
  unfold kitOne
  rw [kitCls_ref h1 h2 h3]
  exact if_neg (fun z => hne (Value.ref.inj (beq_iff_eq.mp z)))
theorem exm_ref {K : Frag} {t : Value} {C : Addr} {cd : ClassData} {b : Bool} (h0 : subIn K (.ref C) (.type "BaseException") = some true) (h1 : clsIn K C = some cd) (h2 : typeIn K (.ref C) = some (.type "type")) (h3 : subIn K t (.ref C) = some b) : exmOne K t (.ref C) = some b := by
  unfold exmOne
  rw [h0, kitCls_ref h1 h2 h3]
  rfl
theorem kit_VE {K : Frag} {D : Addr} (h : subIn K (.ref D) (.type "ValueError") = some true) : kitOne K (.ref D) (.type "ValueError") = some true := by
  unfold kitOne kitCls
  rw [if_neg (by simp)]
  show (if kitMeta "ValueError" = true then subIn K (.ref D) (.type "ValueError") else none) = _
  rw [if_pos (by decide +kernel), h]
/-- the program's classes of objects -/
inductive OC where
  | Web | PairedWeb | Wiring | Sum | Kind | Desk | Likeness | Batch
  deriving DecidableEq
/-- where the classes stand -/
structure CA3 where
  tx : XC → Addr
  ob : OC → Addr
abbrev T4I := T4 Int Int Int Int
abbrev WebM := Ob2 (Tup Int) (Tup (T4 Int Int Int Int))
abbrev PairedWebM := Ob2 Int (Tup (Int × Int))
abbrev LikenessM := Ob2 Int (Tup (Int × Int))
abbrev SumM := Ob1 (Tup (Int × Tup Int))
section
variable (A : CA3)
@[reducible] def dWeb : Dat WebM := dOb2 (d1 := (dTup (d := dInt))) (d2 := (dTup (d := (dT4 (d1 := dInt) (d2 := dInt) (d3 := dInt) (d4 := dInt))))) (A.ob .Web) "sides" "ties"
@[reducible] def oWeb : @OD WebM (dWeb A) := oOb2 (d1 := (dTup (d := dInt))) (d2 := (dTup (d := (dT4 (d1 := dInt) (d2 := dInt) (d3 := dInt) (d4 := dInt))))) (A.ob .Web) "sides" "ties"
theorem isI_Web : IsI (dWeb A) (A.ob .Web) ["sides", "ties"] := isI2
theorem isF_Web_sides : IsF (dWeb A) (A.ob .Web) "sides" (dTup (d := dInt)) Ob2.a := isF2a
theorem isF_Web_ties : IsF (dWeb A) (A.ob .Web) "ties" (dTup (d := (dT4 (d1 := dInt) (d2 := dInt) (d3 := dInt) (d4 := dInt)))) Ob2.b := isF2b (by decide)
@[reducible] def dPairedWeb : Dat PairedWebM := dOb2 (d1 := dInt) (d2 := (dTup (d := (dPair (d1 := dInt) (d2 := dInt))))) (A.ob .PairedWeb) "pairs" "free"
@[reducible] def oPairedWeb : @OD PairedWebM (dPairedWeb A) := oOb2 (d1 := dInt) (d2 := (dTup (d := (dPair (d1 := dInt) (d2 := dInt))))) (A.ob .PairedWeb) "pairs" "free"
theorem isI_PairedWeb : IsI (dPairedWeb A) (A.ob .PairedWeb) ["pairs", "free"] := isI2
theorem isF_PairedWeb_pairs : IsF (dPairedWeb A) (A.ob .PairedWeb) "pairs" dInt Ob2.a := isF2a
theorem isF_PairedWeb_free : IsF (dPairedWeb A) (A.ob .PairedWeb) "free" (dTup (d := (dPair (d1 := dInt) (d2 := dInt)))) Ob2.b := isF2b (by decide)
@[reducible] def dLikeness : Dat LikenessM := dOb2 (d1 := dInt) (d2 := (dTup (d := (dPair (d1 := dInt) (d2 := dInt))))) (A.ob .Likeness) "size" "_like"
@[reducible] def oLikeness : @OD LikenessM (dLikeness A) := oOb2 (d1 := dInt) (d2 := (dTup (d := (dPair (d1 := dInt) (d2 := dInt))))) (A.ob .Likeness) "size" "_like"
@[reducible] def dSum : Dat SumM := dOb1 (d1 := (dTup (d := (dPair (d1 := dInt) (d2 := (dTup (d := dInt))))))) (A.ob .Sum) "_rows"
@[reducible] def oSum : @OD SumM (dSum A) := oOb1 (d1 := (dTup (d := (dPair (d1 := dInt) (d2 := (dTup (d := dInt))))))) (A.ob .Sum) "_rows"
end
section
variable {tx : XC → Addr} {Y : YC} {Γ : List Cell} {te ta tb tc td tl t1 t2 : TE} {α β γ δ τ : Type} {d : Dat α} {d1 : Dat α} {d2 : Dat β} {d3 : Dat γ} {d4 : Dat δ}
/-! operators with written numbers -/
theorem we_modC {m : M Int} {j : Int} (h : Re tx Y ta Γ dInt m) (h2 : Re tx Y tb Γ dInt (.ok j)) (hj : 0 < j := by decide) : We tx Y (tOp (rI (fun _ j => 0 < j) fun i j => .int (i % j)) ta tb) Γ dInt (m >>= fun x => .ok (x % j)) := we_eq (we_mod h h2) (by cases m <;> first | rfl | exact M.asrt_pos hj)
theorem we_fdivC {m : M Int} {j : Int} (h : Re tx Y ta Γ dInt m) (h2 : Re tx Y tb Γ dInt (.ok j)) (hj : CDiv 0 j := by decide) : We tx Y (tOp (rI CDiv fun i j => .int (i / j)) ta tb) Γ dInt (m >>= fun x => .ok (x / j)) := we_eq (we_fdiv h h2) (by cases m <;> first | rfl | exact M.asrt_pos hj)
theorem we_mulCr {m : M Int} {j : Int} (h : Re tx Y ta Γ dInt m) (h2 : Re tx Y tb Γ dInt (.ok j)) (hj : -(2 ^ 64) < j ∧ j < 2 ^ 64 := by decide) : We tx Y (tOp (rI CMul fun i j => .int (i * j)) ta tb) Γ dInt (m >>= fun x => .ok (x * j)) := we_eq (we_mul h h2) (by cases m <;> first | rfl | exact M.asrt_pos (.inr hj))
theorem we_mulCl {m : M Int} {j : Int} (h : Re tx Y ta Γ dInt (.ok j)) (h2 : Re tx Y tb Γ dInt m) (hj : -(2 ^ 64) < j ∧ j < 2 ^ 64 := by decide) : We tx Y (tOp (rI CMul fun i j => .int (i * j)) ta tb) Γ dInt (m >>= fun x => .ok (j * x)) := we_eq (we_mul h h2) (by cases m <;> first | rfl | exact M.asrt_pos (.inl hj))
/-! lists joined -/
def M.cat {α : Type} (xs ys : List α) : M (List α) := M.asrt (xs.length + ys.length ≤ PySem.sizeLine) (.ok (xs ++ ys))
/-! sets, dicts -/
end
end G
namespace L2
open PySem PySem.Spec PyProof.Rows
section
variable {X : Cx} (K : PySem.W.Frag)
theorem pg_tupK {es : List Expr} {k n : Nat} {t : TGs} {pos : Pos} (hc : X.calm = true) (h : PGs X es t) (hn : (assignEach es X.env).length = n := by rfl) (hst : (assignEach es X.env).findIdx? (·.1) = none := by rfl) (hK : X.K = K := by rfl) : PG X (.Tuple es k pos) (gTup K n t) := hK ▸ pg_tup hc h hn hst
theorem fld_K {e : Expr} {te : TE} {f : Str} {pos : Pos} (he : PE X e te) (hb : attributeBase e f X.env (eval e X.env) = eval e X.env) (hK : X.K = K := by rfl) : PE X (.Attribute e f pos) (tFld K te f) := hK ▸ pe_fld he hb
theorem con_K {e : Expr} {te : TE} {f : Str} {pos : Pos} (he : PE X e te) (hb : attributeBase e f X.env (eval e X.env) = eval e X.env) (hK : X.K = K := by rfl) : PE X (.Attribute e f pos) (tCon K te f) := hK ▸ pe_con he hb
end
/-- try: body; except c as the name at i: suite -/
def tTry (K : PySem.W.Frag) (c : Value) (i : Nat) (tb : WX → TS) (ts : Addr → Value → Option Addr → TS) (Wout : WX) : TS := fun D σ H => tb (wAs K c i ts Wout D) D σ H
section
variable {X : Cx} {x n : Str} {c : Value} {i : Nat} {body suite : List Stmt} {b₀ : Stmt} {np pos pos' : Pos} {tb : WX → TS} {ts : Addr → Value → Option Addr → TS} {Wout : WX}
theorem try_as (K : PySem.W.Frag) (hs : X.stack = X.env :: X.outer) (hf : X.env.frame = some X.env.locals) (hN : X.N.Nodup) (hi : X.N[i]? = some n) (hln : X.env.kindOf n = some .local) (hc : Names X x c) (tk : Takes X Wout)
    (hb : ∀ (W : WX) (pn : List (Addr × Obj)) (xe : Value → Shared → Prop), Takes (X.tr pn xe) W → PassesOwn (model X.prog X.w) X.A X.env xe → PSs (X.tr pn xe) body (tb W))
    (hsu : ∀ (a : Addr) (oe : Obj) (cls : Value) (d : Option Addr) (pn : List (Addr × Obj)), Zc cls d oe → (∃ vs, oe.data = .fields vs) → PSs (X.suite a ((a, oe) :: pn)) (b₀ :: suite) (ts a cls d)) (hK : X.K = K := by rfl) :
    PS X (.Try body [.ExceptHandler (some (.Name x np)) (some n) (b₀ :: suite) pos'] [] [] pos) (tTry K c i tb ts Wout) := hK ▸ ps_try_as hs hf hN hi hln hc tk hb hsu
end
end L2
namespace G
open PySem PySem.Spec PyProof.Rows L2 PySem.W
theorem zm_tryT {tx : XC → Addr} {Y : YC} {Γ : List Cell} {js : List Nat} {ρ : Type} {cell : ρ → Cell} (jt : List Nat) {tb : WX → TS} {tsu : Addr → Value → Option Addr → TS} {i : Nat} {cv : Value} {Wout : WX} {kn p : XC → Bool} {m : M ρ} {h : PX → M ρ} (hE : Y.E = WE Wout) (hi : ∃ c0, Γ[i]? = some c0) (hj : ∀ j ∈ jt, j ∈ js) (hij : i ∈ js)
    (hex : ∀ c, kn c = true → exmOne Y.K (.ref (tx c)) cv = some (p c))
    (hb : ∀ (W : WX) (kb : Exn → List Cell → Prop), Zm tx ⟨Y.g, WE W, kb⟩ jt (tb W) Γ (KF cell) m)
    (hs : ∀ px a d, kn px.cls = true → p px.cls = true → Zm tx Y js (tsu a (.ref (tx px.cls)) d) ((wipeC Γ jt).set i (.val (dExn a d) (px.x tx))) (KF cell) (h px)) :
    Zm tx Y js (tSeq (tTry Y.K cv i tb tsu Wout) tNext) Γ (KF cell) (M.tryK kn p m h) := zm_try jt hE hi hj hij hex hb hs
end G
end

noncomputable section
/-! M5: more rules: lists joined and repeated, list(range), pop(i), insert, sum, None. -/
namespace L2
open PySem PySem.Spec PyProof.Rows
section
variable {X : Cx}
/-- xs + ys, lists that are read -/
def rCatR : R2 := fun x y H Q => ∃ l b xs zs, x = .ref l ∧ y = .ref b ∧ Rd H l (.lst xs) ∧ Rd H b (.lst zs) ∧ xs.length + zs.length ≤ sizeLine ∧ ∀ p, H p = none → Q (.ref p) (upd H p (.lst (xs ++ zs)))
theorem op_catR : OpR X (binaryOp .Add) rCatR := by
  intro pins s σ H x y v u Q I rx ry h
  obtain ⟨l, b, xs, zs, rfl, rfl, hH, hB, hz, q⟩ := h
  cases rx
  cases ry
  obtain ⟨z, its, n, r, e⟩ := hH.ok I.hok
  obtain ⟨z2, its2, n2, r2, e2⟩ := hB.ok I.hok
  have hl := r.length
  have hl2 := r2.length
  refine PySem.P.add_list e e2 ?_ (by rw [List.size_toArray, List.size_toArray]; omega)
  have ea : its.toArray ++ its2.toArray = (its ++ its2).toArray := by simp
  rw [ea]
  exact ⟨.ref _, _, I.lnew (t' := s.toks) (r.append r2) (by rw [List.length_append]; omega), rfl, q _ I.fresh⟩
end
end L2
namespace G
open PySem PySem.Spec PyProof.Rows L2 PySem.W
theorem Reps.rep {α : Type} {d : Dat α} {C : GCtx} {F : Hp} {vs : List V} {xs : List α} (r : Reps d C F vs xs) : ∀ n, Reps d C F (List.replicate n vs).flatten (List.replicate n xs).flatten
  | 0 => trivial
  | n + 1 => by
    simp only [List.replicate_succ, List.flatten_cons]
    exact r.append (Reps.rep r n)
section
variable {tx : XC → Addr} {Y : YC} {Γ : List Cell} {te ta tb tc td tl t1 t2 : TE} {α β γ δ τ : Type} {d : Dat α} {d1 : Dat α} {d2 : Dat β} {d3 : Dat γ} {ts rest : TS} {js : List Nat} {K : Kt τ}
theorem w_ixQ {k : α → Prop} (h : W Y ta Γ (dSq (d := d)) fun xs => R Y tb Γ dInt fun i => ∃ x, atI xs.l i = some x ∧ k x) : W Y (tOp (rIx Y.K) ta tb) Γ d k := fun e F σ H s Q q => h e F σ H s _ fun v1 F1 H1 xs h1 g1 ⟨a, vs, e1, hs, r⟩ => h1 e F1 σ H1 (s.grow g1) _ fun v2 F2 H2 i ⟨x, hx, kx⟩ g2 r2 => by
  subst e1
  cases (show v2 = .int i from r2)
  obtain ⟨v, hv, rv⟩ := atI_rep r hx
  rcases hs with hs | hs
  · exact .inl ⟨a, vs, i, v, rfl, rfl, (g1.fh.trans g2.hh0).seq hs, hv, q _ F2 H2 x kx (g1.trans0 g2) (d.mono g2.ff rv)⟩
  · exact .inr (.inl ⟨a, vs, i, v, rfl, rfl, (hs.mono (g2.ff.trans g2.fh)).sq, hv, q _ F2 H2 x kx (g1.trans0 g2) (d.mono g2.ff rv)⟩)
theorem we_ixQ {m : M (Sq α)} {n : M Int} (h : We tx Y ta Γ (dSq (d := d)) m) (h2 : Re tx Y tb Γ dInt n) : We tx Y (tOp (rIx Y.K) ta tb) Γ d (m >>= fun xs => n >>= fun i => M.ix xs.l i) := we_l2 (f := fun (xs : Sq α) i => atI xs.l i) (fun k h => w_ixQ h) h h2
/-! lists joined, repeated -/
theorem o_cat {k : List α → Prop} (h : W Y ta Γ (dList (d := d)) fun xs => W Y tb Γ (dList (d := d)) fun ys => xs.length + ys.length ≤ PySem.sizeLine ∧ k (xs ++ ys)) : O Y (tOp rCatR ta tb) Γ (oList (d := d)) k := fun e F σ H s Q q => h e F σ H s _ fun v1 F1 H1 xs h1 g1 ⟨a, vs, e1, hs, r⟩ => h1 e F1 σ H1 (s.grow g1) _ fun v2 F2 H2 ys ⟨hl, ky⟩ g2 ⟨b, ws, e2, hs2, r2⟩ => by
  subst e1 e2
  refine ⟨a, b, vs, ws, rfl, rfl, Same.rd (g2.ff.trans g2.fh) hs, Same.rd g2.fh hs2, by rw [r.len, r2.len]; exact hl, fun p hp => ?_⟩
  obtain ⟨h3, h4⟩ := o_new (L := []) g2.base hp ((r.mono g2.ff).append r2)
  exact q _ F2 _ _ _ ky (by simpa using (g1.trans0 g2).trans h3) h4
theorem oe_cat {m n : M (List α)} (h : We tx Y ta Γ (dList (d := d)) m) (h2 : We tx Y tb Γ (dList (d := d)) n) : Oe tx Y (tOp rCatR ta tb) Γ (oList (d := d)) (m >>= fun xs => n >>= fun ys => M.cat xs ys) := fun nb xk =>
  o_cat (h.k nb xk fun xs e nb xk => h2.k nb xk fun ys e2 nb2 _ => ⟨M.asrt_nb nb2, by rw [e]; show (n >>= _) = _; rw [e2]; exact M.asrt_pos (M.asrt_nb nb2)⟩)
def M.rep {α : Type} (xs : List α) (k : Int) : M (List α) := M.asrt (-(2 ^ 63) ≤ k ∧ k < 2 ^ 63 ∧ xs.length * k.toNat ≤ PySem.sizeLine) (.ok (List.replicate k.toNat xs).flatten)
/-! list(range(..)) -/
def M.rangeL (a b : Int) : M (List Int) := M.asrt (-(2 ^ 62) ≤ a ∧ a < 2 ^ 62 ∧ -(2 ^ 62) ≤ b ∧ b < 2 ^ 62 ∧ (b - a).toNat ≤ 2 ^ 24) (.ok (rngL a (b - a).toNat))
theorem rgV_L (a b : Int) : rgV a b = (rngL a (b - a).toNat).map V.int := by
  unfold rgV rngL
  rw [List.map_map]; rfl
theorem o_listRg1 {k : List Int → Prop} (h : R Y ta Γ dInt fun n => (-(2 ^ 62) ≤ (0 : Int) ∧ (0 : Int) < 2 ^ 62 ∧ -(2 ^ 62) ≤ n ∧ n < 2 ^ 62 ∧ (n - 0).toNat ≤ 2 ^ 24) ∧ k (rngL 0 (n - 0).toNat)) : O Y (tLstRg (tRg1 ta)) Γ (oList (d := dInt)) k := fun e F σ H s Q q => h e F σ H s _ fun v F1 H1 n ⟨hb, kn⟩ g r => by
  cases (show v = .int n from r)
  refine ⟨n, rfl, hb, fun p hp => ?_⟩
  rw [rgV_L]
  obtain ⟨h3, h4⟩ := o_new (d := dInt) (L := []) g.base hp (Reps.ofInts (rngL 0 (n - 0).toNat))
  exact q _ F1 _ _ _ kn (by simpa using g.trans h3) h4
theorem oe_listRg1 {m : M Int} (h : Re tx Y ta Γ dInt m) : Oe tx Y (tLstRg (tRg1 ta)) Γ (oList (d := dInt)) (m >>= fun n => M.rangeL 0 n) := fun nb xk =>
  o_listRg1 (h.k nb xk fun n e nb2 _ => ⟨M.asrt_nb nb2, by rw [e]; exact M.asrt_pos (M.asrt_nb nb2)⟩)
/-! sum, all, min, max -/
theorem w_sum {k : Int → Prop} (h : R Y ta Γ (dList (d := dInt)) fun xs => k xs.sum) : W Y (tCB (rSum Y.K) (tCons ta tNil)) Γ dInt k := fun e F σ H s Q q => h e F σ H s _ fun v F' H' xs kx g ⟨a, vs, e1, hs, r⟩ => by
  subst e1
  cases r.ints
  exact ⟨a, xs, rfl, .inl hs, q _ F' H' _ kx g rfl⟩
theorem we_sum {m : M (List Int)} (h : Re tx Y ta Γ (dList (d := dInt)) m) : We tx Y (tCB (rSum Y.K) (tCons ta tNil)) Γ dInt (m >>= fun xs => .ok xs.sum) := we_p1 (f := List.sum) (fun k h => w_sum h) h
/-! None -/
class NN (α : Type) [d : Dat α] : Prop where
  nn : ∀ {C : GCtx} {F : Hp} {v : V} {x : α}, d.rep C F v x → v ≠ .non
instance : NN Int := ⟨fun {C F v x} h z => by subst z; cases (show V.non = .int x from h)⟩
instance : NN Bool := ⟨fun {C F v x} h z => by subst z; cases (show V.non = .bl x from h)⟩
instance : NN Str := ⟨fun {C F v x} h z => by subst z; cases (show V.non = .str x from h)⟩
instance {α : Type} [d : Dat α] : NN (List α) := ⟨fun ⟨a, vs, e, _⟩ z => by subst z; cases e⟩
instance {α : Type} [d : Dat α] : NN (Tup α) := ⟨fun ⟨a, vs, e, _⟩ z => by subst z; cases e⟩
instance {α β : Type} [d : Dat α] [d2 : Dat β] : NN (α × β) := ⟨fun ⟨a, v1, v2, e, _⟩ z => by subst z; cases e⟩
instance {α β γ : Type} [d : Dat α] [d2 : Dat β] [d3 : Dat γ] : NN (T3 α β γ) := ⟨fun ⟨a, v1, v2, v3, e, _⟩ z => by subst z; cases e⟩
instance {α β γ δ : Type} [d : Dat α] [d2 : Dat β] [d3 : Dat γ] [d4 : Dat δ] : NN (T4 α β γ δ) := ⟨fun ⟨a, v1, v2, v3, v4, e, _⟩ z => by subst z; cases e⟩
/-! pop(i), insert -/
def M.popAt {α : Type} (xs : List α) (mi : M Int) : M (List α × α) := mi >>= fun n => M.asrt (-(2 ^ 63) ≤ n ∧ n < 2 ^ 63) (match seqIndex? n xs.length with | some k => (match xs[k]? with | some y => .ok (xs.eraseIdx k, y) | none => .bad) | none => .bad)
/-- xs.append(ys.pop(i)) -/
def M.appendPop {α : Type} (xs ys : List α) (mi : M Int) : M (List α × List α) := mi >>= fun n => M.asrt (0 ≤ n) (M.popAt ys (.ok n)) >>= fun q => M.push xs (.ok q.2) >>= fun xs' => .ok (xs', q.1)
def M.insert {α : Type} (xs : List α) (mi : M Int) (m : M α) : M (List α) := mi >>= fun n => m >>= fun y => M.asrt (xs.length < PySem.sizeLine ∧ 0 ≤ n ∧ n < 2 ^ 63) (.ok (xs.take n.toNat ++ [y] ++ xs.drop n.toNat))
/-! a, b = x, y -/
end
end G
end

noncomputable section
/-! M6: instances whose later attributes are dicts (filled within __init__), tuples of the top. -/
namespace G
open PySem PySem.Spec PyProof.Rows L2 PySem.W
structure Ob3 (α β γ : Type) where
  a : α
  b : β
  c : γ
  deriving DecidableEq
structure Ob4 (α β γ δ : Type) where
  a : α
  b : β
  c : γ
  d : δ
  deriving DecidableEq
theorem Wk.perm {e : En} {F : Hp} {L L' : LO} {H : Hp} (a : Wk e F L H) (p : L.Perm L') : Wk e F L' H :=
  a.sub (fun x hx => p.mem_iff.mpr hx) ((List.Perm.nodup_iff (p.map _)).mp a.nd)
section
variable {α β γ δ : Type} [d1 : Dat α] [d2 : Dat β] [d3 : Dat γ] [d4 : Dat δ] (C0 : Addr) (f1 f2 f3 f4 : Str)
@[reducible] def dOb3 : Dat (Ob3 α β γ) := ⟨fun C F v x => ∃ p dx v1 v2 v3, v = .ref p ∧ F p = some (.ins C0 dx [(f1, v1), (f2, v2), (f3, v3)]) ∧ d1.rep C F v1 x.a ∧ d2.rep C F v2 x.b ∧ d3.rep C F v3 x.c,
  fun s ⟨p, dx, v1, v2, v3, e, h, r1, r2, r3⟩ => ⟨p, dx, v1, v2, v3, e, s _ _ h, d1.mono s r1, d2.mono s r2, d3.mono s r3⟩⟩
@[reducible] def dOb4 : Dat (Ob4 α β γ δ) := ⟨fun C F v x => ∃ p dx v1 v2 v3 v4, v = .ref p ∧ F p = some (.ins C0 dx [(f1, v1), (f2, v2), (f3, v3), (f4, v4)]) ∧ d1.rep C F v1 x.a ∧ d2.rep C F v2 x.b ∧ d3.rep C F v3 x.c ∧ d4.rep C F v4 x.d,
  fun s ⟨p, dx, v1, v2, v3, v4, e, h, r1, r2, r3, r4⟩ => ⟨p, dx, v1, v2, v3, v4, e, s _ _ h, d1.mono s r1, d2.mono s r2, d3.mono s r3, d4.mono s r4⟩⟩
@[reducible] def oOb3 (od3 : @OD γ d3) : @OD (Ob3 α β γ) (dOb3 C0 f1 f2 f3) := @OD.mk (Ob3 α β γ) (dOb3 C0 f1 f2 f3)
  (fun C F v x L => ∃ p dx v1 v2 v3 L3, v = .ref p ∧ L = (p, .ins C0 dx [(f1, v1), (f2, v2), (f3, v3)]) :: L3 ∧ d1.rep C F v1 x.a ∧ d2.rep C F v2 x.b ∧ od3.orep C F v3 x.c L3)
  (fun s ⟨p, dx, v1, v2, v3, L3, e, h, r1, r2, r3⟩ => ⟨p, dx, v1, v2, v3, L3, e, h, d1.mono s r1, d2.mono s r2, od3.omono s r3⟩)
  (fun ⟨p, dx, v1, v2, v3, L3, e, h, r1, r2, r3⟩ s k => ⟨p, dx, v1, v2, v3, e, k (p, .ins C0 dx [(f1, v1), (f2, v2), (f3, v3)]) (by rw [h]; exact List.mem_cons_self), d1.mono s r1, d2.mono s r2, od3.view r3 s fun q hq => k q (by rw [h]; exact List.mem_cons_of_mem _ hq)⟩)
@[reducible] def oOb4 (od3 : @OD γ d3) (od4 : @OD δ d4) : @OD (Ob4 α β γ δ) (dOb4 C0 f1 f2 f3 f4) := @OD.mk (Ob4 α β γ δ) (dOb4 C0 f1 f2 f3 f4)
  (fun C F v x L => ∃ p dx v1 v2 v3 v4 L3 L4, v = .ref p ∧ L = (p, .ins C0 dx [(f1, v1), (f2, v2), (f3, v3), (f4, v4)]) :: (L3 ++ L4) ∧ d1.rep C F v1 x.a ∧ d2.rep C F v2 x.b ∧ od3.orep C F v3 x.c L3 ∧ od4.orep C F v4 x.d L4)
  (fun s ⟨p, dx, v1, v2, v3, v4, L3, L4, e, h, r1, r2, r3, r4⟩ => ⟨p, dx, v1, v2, v3, v4, L3, L4, e, h, d1.mono s r1, d2.mono s r2, od3.omono s r3, od4.omono s r4⟩)
  (fun ⟨p, dx, v1, v2, v3, v4, L3, L4, e, h, r1, r2, r3, r4⟩ s k => ⟨p, dx, v1, v2, v3, v4, e, k (p, .ins C0 dx [(f1, v1), (f2, v2), (f3, v3), (f4, v4)]) (by rw [h]; exact List.mem_cons_self), d1.mono s r1, d2.mono s r2,
    od3.view r3 s fun q hq => k q (by rw [h]; exact List.mem_cons_of_mem _ (List.mem_append_left _ hq)), od4.view r4 s fun q hq => k q (by rw [h]; exact List.mem_cons_of_mem _ (List.mem_append_right _ hq))⟩)
end
section
variable {α β γ δ : Type} [d1 : Dat α] [d2 : Dat β] [d3 : Dat γ] [d4 : Dat δ] {C0 : Addr} {f1 f2 f3 f4 : Str}
end
theorem set_same {σ : L2.St} {i : Nat} {v : V} (e1 : σ[i]? = some (some v)) : σ.set i (some v) = σ := by
  apply List.ext_getElem?
  intro j
  by_cases hj : i = j
  · subst hj
    obtain ⟨hlt, hv⟩ := List.getElem?_eq_some_iff.mp e1
    rw [List.getElem?_set_self hlt, e1]
  · rw [List.getElem?_set_ne hj]
section
variable {Y : YC} {Γ : List Cell} {k : Ks} {te tk tv : TE} {α β γ δ ε : Type} {d1 : Dat α} {d2 : Dat β} {d3 : Dat γ} {d4 : Dat δ} {dv : Dat ε} {C0 : Addr} {f f1 f2 f3 : Str}
end
section
variable {tx : XC → Addr} {Y : YC} {Γ : List Cell} {te tk tv : TE} {α β γ δ ε τ : Type} {d1 : Dat α} {d2 : Dat β} {d3 : Dat γ} {d4 : Dat δ} {dv : Dat ε} {rest : TS} {js : List Nat} {K : Kt τ} {C0 : Addr} {f f1 f2 f3 : Str}
end
/-! the class Wiring -/
abbrev WiringM := Ob4 (Tup (Int × Int)) (Tup (T3 Str Int Int)) (DI Int) (DI Int)
section
variable (A : CA3)
@[reducible] def dLinks : Dat (Tup (Int × Int)) := dTup (d := dPair (d1 := dInt) (d2 := dInt))
@[reducible] def dNodes : Dat (Tup (T3 Str Int Int)) := dTup (d := dT3 (d1 := dStr) (d2 := dInt) (d3 := dInt))
@[reducible] def dWiring : Dat WiringM := dOb4 (d1 := dTup (d := dPair (d1 := dInt) (d2 := dInt))) (d2 := dTup (d := dT3 (d1 := dStr) (d2 := dInt) (d3 := dInt))) (d3 := dDI (d := dInt)) (d4 := dDI (d := dInt)) (A.ob .Wiring) "links" "nodes" "_parents" "_owners"
@[reducible] def oWiring : @OD WiringM (dWiring A) := oOb4 (d1 := dTup (d := dPair (d1 := dInt) (d2 := dInt))) (d2 := dTup (d := dT3 (d1 := dStr) (d2 := dInt) (d3 := dInt))) (d3 := dDI (d := dInt)) (d4 := dDI (d := dInt)) (A.ob .Wiring) "links" "nodes" "_parents" "_owners" (oDI (d := dInt)) (oDI (d := dInt))
end
/-! tuples of the top -/
section
variable {tx : XC → Addr} {Y : YC} {Γ : List Cell} {te ta tb : TE} {α β : Type} {d : Dat α}
end
end G
end

noncomputable section
/-! M7: properties, pairs joined. -/
namespace L2
open PySem PySem.Spec PyProof.Rows
theorem catT_K {X : Cx} (K : PySem.W.Frag) (h : X.K = K := by rfl) : OpR X (binaryOp .Add) (rCatA K) := h ▸ op_catA
end L2
namespace G
open PySem PySem.Spec PyProof.Rows L2 PySem.W
section
variable {tx : XC → Addr} {Y : YC} {Γ : List Cell} {ta tb : TE} {α β γ δ : Type} {d : Dat α} {d1 : Dat α} {d2 : Dat β} {d3 : Dat γ} {d4 : Dat δ} {sp : Sp} {C0 : Addr} {ns : List Str}
theorem w_prop {kx : β → Prop} (hI : IsI d C0 ns) (h : W Y ta Γ d fun x => SpX Y.g sp [.val d x] (fun c => ∃ r, c = .val d2 r ∧ kx r) fun _ => False) : W Y (tProp C0 sp [] EF ta) Γ d2 kx := fun e F σ H s Q q => h e F σ H s _ fun v F1 H1 x h1 g1 r1 => by
  obtain ⟨p, dx, fs, e1, e2, _⟩ := hI.ins r1
  subst e1
  refine ⟨p, dx, fs, rfl, g1.fh _ _ e2, h1 [.ref p] H1 Q _ ⟨F1, g1.base, .cons (L := []) ⟨rfl, _, rfl, r1⟩ .nil, fun v' F' H' c L ⟨r, ec, kr⟩ g3 rc => ?_, fun _ _ _ _ z => z.elim⟩⟩
  subst ec
  obtain ⟨e4, v3, e5, rv⟩ := rc
  subst e4
  cases (Option.some.inj e5)
  exact q v' F' H' r kr (g1.trans0 g3) rv
theorem we_prop {f : α → M β} {m : M α} (hs : ∀ x, (f x).nb → SpX Y.g sp [.val d x] (fun c => ∃ r, c = .val d2 r ∧ f x = .ok r) fun x' => ∃ px, f x = .exc px ∧ x' = px.x tx) (hI : IsI d C0 ns) (h : We tx Y ta Γ d m) : We tx Y (tProp C0 sp [] EF ta) Γ d2 (m >>= fun x => M.calm (f x)) := fun nb xk =>
  w_prop hI (h.k nb xk fun x e1 nb xk => fun vs H Q E fx => by
    obtain ⟨b, eb⟩ := M.calm_nb nb
    refine hs x (by rw [eb]; exact fun z => nomatch z) vs H Q E (fx.mono (fun c ⟨r, e, q⟩ => ⟨r, e, ?_⟩) fun x' ⟨px, e, q⟩ => by rw [eb] at e; cases e)
    rw [eb] at q
    cases q
    rw [e1]; show M.calm (f x) = _; rw [eb]; rfl)
end
end G
end

noncomputable section
/-! M8: setdefault, d[k].append(y), dict comprehensions. -/
namespace G
open PySem PySem.Spec PyProof.Rows L2 PySem.W
section
variable {Y : YC} {Γ : List Cell} {k : Ks} {ta tk tv te : TE} {α β : Type} {d : Dat α}
end
section
variable {tx : XC → Addr} {Y : YC} {Γ : List Cell} {ta tk tv te tl : TE} {tt : TT} {g : TG} {α β τ : Type} {d : Dat α} {d2 : Dat β} {rest : TS} {js vs : List Nat} {K : Kt τ}
end
end G
end

noncomputable section
/-! M9: plain data of any shape. -/
namespace G
open PySem PySem.Spec PyProof.Rows L2 PySem.W
mutual
def DU (C : GCtx) (F : Hp) : PyData → V → Prop
  | .none, v => v = .non
  | .bool b, v => v = .bl b
  | .int i, v => v = .int i
  | .str s, v => v = .str s
  | .list ds, v => ∃ a vs, v = .ref a ∧ Rd F a (.lst vs) ∧ DUs C F ds vs
  | .tuple ds, v => ∃ a vs, v = .ref a ∧ TpA C.K F a vs ∧ DUs C F ds vs
  | .dict _, _ => False
def DUs (C : GCtx) (F : Hp) : List PyData → List V → Prop
  | [], [] => True
  | d :: ds, v :: vs => DU C F d v ∧ DUs C F ds vs
  | [], _ :: _ => False
  | _ :: _, [] => False
end
mutual
theorem DU.mono {C : GCtx} {F F' : Hp} (s : Same F F') : ∀ (x : PyData) (v : V), DU C F x v → DU C F' x v
  | .none, _, h => h
  | .bool _, _, h => h
  | .int _, _, h => h
  | .str _, _, h => h
  | .list ds, _, ⟨a, vs, e, h, r⟩ => ⟨a, vs, e, h.imp (s a _) fun ⟨o, e⟩ => ⟨o, s a _ e⟩, DUs.mono s ds vs r⟩
  | .tuple ds, _, ⟨a, vs, e, h, r⟩ => ⟨a, vs, e, h.mono s, DUs.mono s ds vs r⟩
  | .dict _, _, h => h.elim
theorem DUs.mono {C : GCtx} {F F' : Hp} (s : Same F F') : ∀ (xs : List PyData) (vs : List V), DUs C F xs vs → DUs C F' xs vs
  | [], [], h => h
  | d :: ds, v :: vs, h => ⟨DU.mono s d v h.1, DUs.mono s ds vs h.2⟩
  | [], _ :: _, h => h.elim
  | _ :: _, [], h => h.elim
end
mutual
theorem DU.dp {C : GCtx} {F : Hp} : ∀ (x : PyData) (v : V), DU C F x v → Dp C.K F v x
  | .none, _, h => by cases (show _ = _ from h); exact .non
  | .bool _, _, h => by cases (show _ = _ from h); exact .bl _
  | .int _, _, h => by cases (show _ = _ from h); exact .int _
  | .str _, _, h => by cases (show _ = _ from h); exact .str _
  | .list ds, _, ⟨a, vs, e, h, r⟩ => by subst e; exact .lst (.inl h) (DUs.dp ds vs r)
  | .tuple ds, _, ⟨a, vs, e, h, r⟩ => by subst e; exact .tup h.sq (DUs.dp ds vs r)
  | .dict _, _, h => h.elim
theorem DUs.dp {C : GCtx} {F : Hp} : ∀ (xs : List PyData) (vs : List V), DUs C F xs vs → DpAll C.K F vs xs
  | [], [], _ => .nil
  | d :: ds, v :: vs, h => .cons (DU.dp d v h.1) (DUs.dp ds vs h.2)
  | [], _ :: _, h => h.elim
  | _ :: _, [], h => h.elim
end
mutual
theorem DU.pl {C : GCtx} {F : Hp} : ∀ (x : PyData) (v : V), DU C F x v → x.plain = true
  | .none, _, _ => rfl
  | .bool _, _, _ => rfl
  | .int _, _, _ => rfl
  | .str _, _, _ => rfl
  | .list ds, _, ⟨a, vs, e, h, r⟩ => by simp only [PyData.plain]; exact DUs.pl ds vs r
  | .tuple ds, _, ⟨a, vs, e, h, r⟩ => by simp only [PyData.plain]; exact DUs.pl ds vs r
  | .dict _, _, h => h.elim
theorem DUs.pl {C : GCtx} {F : Hp} : ∀ (xs : List PyData) (vs : List V), DUs C F xs vs → PyData.plainAll xs = true
  | [], _, _ => rfl
  | d :: ds, v :: vs, h => by simp only [PyData.plainAll, DU.pl d v h.1, DUs.pl ds vs h.2, Bool.and_self]
  | _ :: _, [], h => h.elim
end
abbrev U := PyData
@[reducible] def dU : Dat U := ⟨fun C F v x => DU C F x v, fun s h => DU.mono s _ _ h⟩
/-- data that are plain data -/
class UD (α : Type) [d : Dat α] where
  toU : α → U
  du : ∀ {C : GCtx} {F : Hp} {v : V} {x : α}, d.rep C F v x → DU C F (toU x) v
instance udInt : UD Int := ⟨.int, fun h => h⟩
instance udBool : UD Bool := ⟨.bool, fun h => h⟩
instance udStr : UD Str := ⟨.str, fun h => h⟩
instance udUnit : UD Unit := ⟨fun _ => .none, fun h => h⟩
theorem dus_of {α : Type} {d : Dat α} [u : @UD α d] {C : GCtx} {F : Hp} : ∀ {vs : List V} {xs : List α}, Reps d C F vs xs → DUs C F (xs.map u.toU) vs
  | [], [], _ => trivial
  | _ :: _, _ :: _, h => ⟨u.du h.1, dus_of h.2⟩
  | [], _ :: _, h => h.elim
  | _ :: _, [], h => h.elim
instance udList {α : Type} {d : Dat α} [u : @UD α d] : @UD (List α) dList := ⟨fun xs => .list (xs.map u.toU), fun ⟨a, vs, e, h, r⟩ => ⟨a, vs, e, h, dus_of r⟩⟩
instance udTup {α : Type} {d : Dat α} [u : @UD α d] : @UD (Tup α) dTup := ⟨fun xs => .tuple (xs.l.map u.toU), fun ⟨a, vs, e, h, r⟩ => ⟨a, vs, e, h, dus_of r⟩⟩
instance udPair {α β : Type} {d1 : Dat α} {d2 : Dat β} [u1 : @UD α d1] [u2 : @UD β d2] : @UD (α × β) dPair := ⟨fun x => .tuple [u1.toU x.1, u2.toU x.2], fun ⟨a, v1, v2, e, h, r1, r2⟩ => ⟨a, _, e, h, u1.du r1, u2.du r2, trivial⟩⟩
instance udT3 {α β γ : Type} {d1 : Dat α} {d2 : Dat β} {d3 : Dat γ} [u1 : @UD α d1] [u2 : @UD β d2] [u3 : @UD γ d3] : @UD (T3 α β γ) dT3 := ⟨fun x => .tuple [u1.toU x.a, u2.toU x.b, u3.toU x.c], fun ⟨a, v1, v2, v3, e, h, r1, r2, r3⟩ => ⟨a, _, e, h, u1.du r1, u2.du r2, u3.du r3, trivial⟩⟩
instance udT4 {α β γ δ : Type} {d1 : Dat α} {d2 : Dat β} {d3 : Dat γ} {d4 : Dat δ} [u1 : @UD α d1] [u2 : @UD β d2] [u3 : @UD γ d3] [u4 : @UD δ d4] : @UD (T4 α β γ δ) dT4 := ⟨fun x => .tuple [u1.toU x.a, u2.toU x.b, u3.toU x.c, u4.toU x.d], fun ⟨a, v1, v2, v3, v4, e, h, r1, r2, r3, r4⟩ => ⟨a, _, e, h, u1.du r1, u2.du r2, u3.du r3, u4.du r4, trivial⟩⟩
def tyU : U → String
  | .none => "NoneType" | .bool _ => "bool" | .int _ => "int" | .str _ => "str" | .list _ => "list" | .tuple _ => "tuple" | .dict _ => "dict"
/-- isinstance(x, c), c written -/
def isTy (c t : String) : Bool := c == t || (t == "bool" && c == "int")
def isU (c : String) (x : U) : Bool := isTy c (tyU x)
theorem kitU {K : Frag} {c : String} (hc : c ∈ ["bool", "int", "str", "list", "tuple"]) {x : U} (hp : x.plain = true) : kitOne K (.type (tyU x)) (.type c) = some (isU c x) := by
  refine kit_ty ?_
  simp only [List.mem_cons, List.not_mem_nil, or_false] at hc
  cases x with
  | dict _ => cases hp
  | none => rcases hc with rfl | rfl | rfl | rfl | rfl <;> (show kitB "NoneType" _ = some (isTy _ "NoneType"); decide +kernel)
  | bool _ => rcases hc with rfl | rfl | rfl | rfl | rfl <;> (show kitB "bool" _ = some (isTy _ "bool"); decide +kernel)
  | int _ => rcases hc with rfl | rfl | rfl | rfl | rfl <;> (show kitB "int" _ = some (isTy _ "int"); decide +kernel)
  | str _ => rcases hc with rfl | rfl | rfl | rfl | rfl <;> (show kitB "str" _ = some (isTy _ "str"); decide +kernel)
  | list _ => rcases hc with rfl | rfl | rfl | rfl | rfl <;> (show kitB "list" _ = some (isTy _ "list"); decide +kernel)
  | tuple _ => rcases hc with rfl | rfl | rfl | rfl | rfl <;> (show kitB "tuple" _ = some (isTy _ "tuple"); decide +kernel)
theorem DU.ty {C : GCtx} {F : Hp} {v : V} : ∀ {x : U}, DU C F x v → TyX C.K F v (.type (tyU x))
  | .none, h => by cases (show v = _ from h); exact .base .non
  | .bool _, h => by cases (show v = _ from h); exact .base (.bl _)
  | .int _, h => by cases (show v = _ from h); exact .base (.int _)
  | .str _, h => by cases (show v = _ from h); exact .base (.str _)
  | .list _, ⟨a, vs, e, h, _⟩ => by subst e; exact ty_sql (.inl h)
  | .tuple _, ⟨a, vs, e, h, _⟩ => by subst e; exact ty_tpa h
  | .dict _, h => h.elim
def isNoneU : U → Bool
  | .none => true
  | _ => false
theorem DU.non {C : GCtx} {F : Hp} {v : V} : ∀ {x : U}, DU C F x v → decide (v = .non) = isNoneU x
  | .none, h => by cases (show v = _ from h); rfl
  | .bool _, h => by cases (show v = _ from h); rfl
  | .int _, h => by cases (show v = _ from h); rfl
  | .str _, h => by cases (show v = _ from h); rfl
  | .list _, ⟨a, vs, e, h, _⟩ => by subst e; rfl
  | .tuple _, ⟨a, vs, e, h, _⟩ => by subst e; rfl
  | .dict _, h => h.elim
theorem DUs.reps {C : GCtx} {F : Hp} : ∀ {ds : List U} {vs : List V}, DUs C F ds vs → Reps dU C F vs ds
  | [], [], _ => trivial
  | _ :: _, _ :: _, h => ⟨h.1, DUs.reps h.2⟩
  | [], _ :: _, h => h.elim
  | _ :: _, [], h => h.elim
/-- the items of a list or tuple -/
def itemsU : U → Option (List U)
  | .list ds => some ds
  | .tuple ds => some ds
  | _ => none
section
variable {tx : XC → Addr} {Y : YC} {Γ : List Cell} {te ta tb : TE} {α : Type} {d : Dat α}
theorem w_U [u : @UD α d] {k : U → Prop} (h : W Y te Γ d fun x => k (u.toU x)) : W Y te Γ dU k := fun e F σ H s Q q => h e F σ H s Q fun v F' H' x kx g r => q v F' H' _ kx g (u.du r)
theorem we_U [u : @UD α d] {m : M α} (h : We tx Y te Γ d m) : We tx Y te Γ dU (m >>= fun x => .ok (u.toU x)) := we_p1w (f := u.toU) (fun k h => w_U h) h
theorem w_eqU {k : Bool → Prop} (h : R Y ta Γ dU fun x => R Y tb Γ dU fun y => (x.depth ≤ 64 ∧ y.depth ≤ 64) ∧ k (PyData.eqv x y)) : W Y (tOp (rEqP Y.K) ta tb) Γ dBool k := fun e F σ H s Q q => h e F σ H s _ fun v1 F1 H1 x h1 g1 r1 => h1 e F1 σ H1 (s.grow g1) _ fun v2 F2 H2 y ⟨hd, ky⟩ g2 r2 => by
  have q1 : DU Y.g H2 x v1 := DU.mono g2.hh0 _ _ r1
  have q2 : DU Y.g H2 y v2 := r2
  exact ⟨x, y, DU.dp _ _ q1, DU.dp _ _ q2, by unfold shP; rw [DU.pl _ _ q1, decide_eq_true hd.1]; rfl, by unfold shP; rw [DU.pl _ _ q2, decide_eq_true hd.2]; rfl, q _ F2 H2 _ ky (g1.trans0 g2) rfl⟩
theorem we_eqU {m n : M U} (h : Re tx Y ta Γ dU m) (h2 : Re tx Y tb Γ dU n) : We tx Y (tOp (rEqP Y.K) ta tb) Γ dBool (m >>= fun x => n >>= fun y => M.asrt (x.depth ≤ 64 ∧ y.depth ≤ 64) (.ok (PyData.eqv x y))) := we_g2 (P := fun x y : U => x.depth ≤ 64 ∧ y.depth ≤ 64) (f := fun x y : U => PyData.eqv x y) (fun k h => w_eqU h) h h2
theorem w_isNU {k : Bool → Prop} (h : R Y ta Γ dU fun x => k (isNoneU x)) : W Y (tOp (fun x y H Q => y = .non ∧ Q (.bl (decide (x = .non))) H) ta (tC .non)) Γ dBool k := fun e F σ H s Q q => h e F σ H s _ fun v F' H' x kx g r => ⟨rfl, q _ F' H' _ kx g (by show V.bl _ = V.bl _; rw [DU.non r])⟩
theorem we_isNU {m : M U} (h : Re tx Y ta Γ dU m) : We tx Y (tOp (fun x y H Q => y = .non ∧ Q (.bl (decide (x = .non))) H) ta (tC .non)) Γ dBool (m >>= fun x => .ok (isNoneU x)) := we_p1 (f := isNoneU) (fun k h => w_isNU h) h
theorem w_isU {c : String} {k : Bool → Prop} (hc : c ∈ ["bool", "int", "str", "list", "tuple"]) (h : R Y ta Γ dU fun x => k (isU c x)) : W Y (tCB (rIsi Y.K) (tCons ta (tCons (tC (.ty c)) tNil))) Γ dBool k := fun e F σ H s Q q => h e F σ H s _ fun v F' H' x kx g r =>
  ⟨v, .ty c, .type (tyU x), .type c, isU c x, rfl, .ty c, DU.ty r, kitU hc (DU.pl _ _ r), q _ F' H' _ kx g rfl⟩
theorem we_isU {c : String} {m : M U} (hc : c ∈ ["bool", "int", "str", "list", "tuple"]) (h : Re tx Y ta Γ dU m) : We tx Y (tCB (rIsi Y.K) (tCons ta (tCons (tC (.ty c)) tNil))) Γ dBool (m >>= fun x => .ok (isU c x)) := we_p1 (f := isU c) (fun k h => w_isU hc h) h
/-- as a list or tuple -/
theorem w_sqU {k : Sq U → Prop} (h : W Y te Γ dU fun x => ∃ ds, itemsU x = some ds ∧ k ⟨ds⟩) : W Y te Γ (dSq (d := dU)) k := fun e F σ H s Q q => h e F σ H s Q fun v F' H' x ⟨ds, hi, kx⟩ g r => q v F' H' _ kx g (by
  cases x with
  | list xs => cases hi; obtain ⟨a, vs, e1, h1, r1⟩ := r; exact ⟨a, vs, e1, .inl (.inl h1), r1.reps⟩
  | tuple xs => cases hi; obtain ⟨a, vs, e1, h1, r1⟩ := r; exact ⟨a, vs, e1, .inr h1, r1.reps⟩
  | _ => cases hi)
theorem we_sqU {m : M U} (h : We tx Y te Γ dU m) : We tx Y te Γ (dSq (d := dU)) (m >>= fun x => M.ofO (itemsU x) >>= fun ds => .ok ⟨ds⟩) := fun nb xk => w_sqU (h.k nb xk fun x e nb2 _ => by
  cases hx : itemsU x with
  | none => rw [hx] at nb2; exact absurd rfl nb2
  | some ds => exact ⟨ds, rfl, by rw [e]; show (M.ofO (itemsU x) >>= _) = _; rw [hx]; rfl⟩)
end
end G
end

noncomputable section
/-! M10: pairs that own their parts. -/
namespace G
open PySem PySem.Spec PyProof.Rows L2 PySem.W
@[reducible] def oPair {α β : Type} {d1 : Dat α} {d2 : Dat β} (od1 : @OD α d1) (od2 : @OD β d2) : @OD (α × β) (dPair (d1 := d1) (d2 := d2)) := @OD.mk (α × β) (dPair (d1 := d1) (d2 := d2))
  (fun C F v x L => ∃ a v1 v2 L1 L2, v = .ref a ∧ L = L1 ++ L2 ∧ TpA C.K F a [v1, v2] ∧ od1.orep C F v1 x.1 L1 ∧ od2.orep C F v2 x.2 L2)
  (fun s ⟨a, v1, v2, L1, L2, e, h, t, r1, r2⟩ => ⟨a, v1, v2, L1, L2, e, h, t.mono s, od1.omono s r1, od2.omono s r2⟩)
  (fun ⟨a, v1, v2, L1, L2, e, h, t, r1, r2⟩ s k => ⟨a, v1, v2, e, t.mono s, od1.view r1 s fun p hp => k p (by rw [h]; exact List.mem_append_left _ hp), od2.view r2 s fun p hp => k p (by rw [h]; exact List.mem_append_right _ hp)⟩)
theorem Wk.subl {e : En} {F : Hp} {L L' : LO} {H : Hp} (a : Wk e F L H) (h : L'.Sublist L) : Wk e F L' H := a.sub (fun _ hp => h.subset hp) (List.Nodup.sublist (h.map _) a.nd)
theorem permR {α : Type} {L1 Li L2 M1 Mi M2 : List α} (e : L1 ++ [] ++ L2 = M1 ++ Mi ++ M2) : (L1 ++ Li ++ L2).Perm ((Li ++ Mi) ++ (M1 ++ [] ++ M2)) := by
  have e' : L1 ++ L2 = M1 ++ Mi ++ M2 := by simpa using e
  have h1 : (L1 ++ Li ++ L2).Perm (Li ++ (L1 ++ L2)) := by
    rw [List.append_assoc]
    have := (List.perm_append_comm (l₁ := L1) (l₂ := Li)).append_right L2
    simpa [List.append_assoc] using this
  refine h1.trans ?_
  rw [e']
  have h2 : (M1 ++ Mi ++ M2).Perm (Mi ++ (M1 ++ M2)) := by
    have := (List.perm_append_comm (l₁ := M1) (l₂ := Mi)).append_right M2
    simpa [List.append_assoc] using this
  simpa [List.append_assoc] using h2.append_left Li
section
variable {Y : YC} {Γ : List Cell} {k : Ks} {te : TE} {α β : Type} {d1 : Dat α} {d2 : Dat β}
theorem z_retP {od1 : @OD α d1} {od2 : @OD β d2} {i j : Nat} {x : α} {y : β} (hij : i ≠ j) (hi : Γ[i]? = some (.own d1 od1 none x)) (hj : Γ[j]? = some (.own d2 od2 none y))
    (h : k.rt (.own (dPair (d1 := d1) (d2 := d2)) (oPair od1 od2) none (x, y)) ((Γ.set i .no).set j .no)) : Z Y (tRet (tTup (tCons (tVar i) (tCons (tVar j) tNil)))) Γ k := fun e F σ H D hM s c => by
  obtain ⟨hx, L, k0, sl⟩ := id s
  obtain ⟨o, L1, Li, L2, e1, e2, ⟨v, rfl, _, r⟩, f⟩ := sl.get hi
  subst e2
  have sl2 := f F (some v) .no [] (Same.refl F) rfl
  obtain ⟨o', M1, Mi, M2, e3, e4, ⟨w, rfl, _, r2⟩, f2⟩ := sl2.get (i := j) (by rw [List.getElem?_set_ne hij]; exact hj)
  have sl3 := f2 F (some w) .no [] (Same.refl F) rfl
  rw [List.getElem?_set_ne hij] at e3
  refine ⟨v, e1, w, e3, show (2 : Nat) ≤ PySem.sizeLine by decide, fun p hp => ?_⟩
  have g := Gr.lay (o := .tup [v, w]) s.base hp
  have kw := k0.trans g
  exact c.rt _ _ _ _ (.ref p) _ (Li ++ Mi) (M1 ++ [] ++ M2) h (by
    rw [List.nil_append] at kw
    exact kw.perm (permR e4)) ⟨.ref p, rfl, fun _ z => (nomatch z), p, v, w, Li, Mi, rfl, rfl, .inl upd_same, od1.omono g.ff r, od2.omono g.ff r2⟩ (sl3.mono g.ff)
theorem permS1 {α : Type} {M1 M2 L1 Li L2 : List α} : ((M1 ++ M2) ++ (L1 ++ Li ++ L2)).Perm ((M2 ++ (L1 ++ M1 ++ L2)) ++ Li) := by
  classical
  rw [List.perm_iff_count]
  intro a
  simp only [List.count_append]
  omega
theorem permS2 {α : Type} {M2 N1 Nj N2 : List α} : (M2 ++ (N1 ++ Nj ++ N2)).Perm ((N1 ++ M2 ++ N2) ++ Nj) := by
  classical
  rw [List.perm_iff_count]
  intro a
  simp only [List.count_append]
  omega
theorem z_setP {od1 : @OD α d1} {od2 : @OD β d2} {i j n : Nat} {c1 c2 : Cell} (hn : n = 2) (hij : i ≠ j) (hi : Γ[i]? = some c1) (hj : Γ[j]? = some c2)
    (h : O Y te Γ (oPair od1 od2) fun x => k.nx ((Γ.set i (.own d1 od1 none x.1)).set j (.own d2 od2 none x.2))) : Z Y (tAsg te (gTup Y.K n (gCons (gName i) (gCons (gName j) gNil)))) Γ k := fun e F σ H D hM s c => h e F σ H s _ fun v F' H' L' x kx g ⟨a, v1, v2, M1, M2, e1, e2, ht, r1, r2⟩ => by
  subst e1 e2 hn
  refine ⟨a, [v1, v2], rfl, (ht.mono g.fh).sq, rfl, v1, [v2], rfl, v2, [], rfl, rfl, ?_⟩
  obtain ⟨hx, L, k0, sl⟩ := id s
  obtain ⟨o, L1, Li, L2, e3, e4, _, f⟩ := sl.get hi
  subst e4
  have sl2 := f F' (some v1) (.own d1 od1 none x.1) M1 g.ff ⟨v1, rfl, fun _ z => (nomatch z), r1⟩
  obtain ⟨o', N1, Nj, N2, e5, e6, _, f2⟩ := sl2.get (i := j) (by rw [List.getElem?_set_ne hij]; exact hj)
  have sl3 := f2 F' (some v2) (.own d2 od2 none x.2) M2 (Same.refl F') ⟨v2, rfl, fun _ z => (nomatch z), r2⟩
  refine c.nx F' _ H' _ kx ⟨hx, _, ?_, sl3⟩
  have kw := k0.trans g
  have k2 : Wk e F' (M2 ++ (L1 ++ M1 ++ L2)) H' := (kw.perm permS1).subl (List.sublist_append_left _ _)
  rw [e6] at k2
  exact (k2.perm permS2).subl (List.sublist_append_left _ _)
end
section
variable {tx : XC → Addr} {Y : YC} {Γ : List Cell} {te : TE} {α β τ : Type} {d1 : Dat α} {d2 : Dat β} {rest : TS} {js : List Nat} {K : Kt τ}
theorem zm_retP {od1 : @OD α d1} {od2 : @OD β d2} {cell : α × β → Cell} {i j : Nat} {x : α} {y : β} (hij : (i == j) = false) (hi : Γ[i]? = some (.own d1 od1 none x)) (hj : Γ[j]? = some (.own d2 od2 none y)) (hc : cell = fun r => .own (dPair (d1 := d1) (d2 := d2)) (oPair od1 od2) none r := by rfl) :
    Zm tx Y js (tSeq (tRet (tTup (tCons (tVar i) (tCons (tVar j) tNil)))) rest) Γ (KF cell) (.ok (x, y)) := fun nb xk => by
  subst hc
  exact z_retP (k := (KF fun r => Cell.own (dPair (d1 := d1) (d2 := d2)) (oPair od1 od2) none r).ks (M.ok (x, y))) (by simpa using hij) hi hj ⟨(x, y), rfl, rfl⟩
theorem zm_setP {od1 : @OD α d1} {od2 : @OD β d2} {i j n : Nat} {c1 c2 : Cell} {m1 : M (α × β)} {m2 : α × β → M τ} (hn : n = 2) (hij : (i == j) = false) (hi : Γ[i]? = some c1) (hj : Γ[j]? = some c2) (hji : i ∈ js) (hjj : j ∈ js) (h : Oe tx Y te Γ (oPair od1 od2) m1)
    (h2 : ∀ x, Zm tx Y js rest ((Γ.set i (.own d1 od1 none x.1)).set j (.own d2 od2 none x.2)) K (m2 x)) : Zm tx Y js (tSeq (tAsg te (gTup Y.K n (gCons (gName i) (gCons (gName j) gNil)))) rest) Γ K (m1 >>= m2) := fun nb xk =>
  z_seq (z_setP hn (by simpa using hij) hi hj (o_mono (h (M.nb1 nb) xk.l.here) fun x e => (h2 x).go nb xk e (by rw [wipeC_set hjj, wipeC_set hji])))
end
end G
end

noncomputable section
/-! M11: constants by their class, [*xs, y]. -/
namespace L2
open PySem PySem.Spec PyProof.Rows ClX StX
section
variable {X : Cx} (K : PySem.W.Frag)
end
end L2
namespace G
open PySem PySem.Spec PyProof.Rows L2 PySem.W ClX StX
section
variable {tx : XC → Addr} {Y : YC} {Γ : List Cell} {te ta : TE} {α : Type} {d : Dat α}
end
section
variable {tx : XC → Addr} {Y : YC} {Γ : List Cell} {ta tb : TE} {α : Type} {d : Dat α}
def M.catT {α : Type} (xs ys : Tup α) : M (Tup α) := M.asrt (xs.l.length + ys.l.length ≤ PySem.sizeLine) (.ok ⟨xs.l ++ ys.l⟩)
theorem w_catT {k : Tup α → Prop} (h : W Y ta Γ (dTup (d := d)) fun xs => W Y tb Γ (dTup (d := d)) fun ys => xs.l.length + ys.l.length ≤ PySem.sizeLine ∧ k ⟨xs.l ++ ys.l⟩) : W Y (tOp (rCatA Y.K) ta tb) Γ (dTup (d := d)) k := fun e F σ H s Q q => h e F σ H s _ fun v1 F1 H1 xs h1 g1 ⟨a, us, e1, ht, r1⟩ => h1 e F1 σ H1 (s.grow g1) _ fun v2 F2 H2 ys ⟨hl, ky⟩ g2 ⟨b, ws, e2, ht2, r2⟩ => by
  subst e1 e2
  obtain ⟨xs⟩ := xs
  obtain ⟨ys⟩ := ys
  refine ⟨a, b, us, ws, rfl, rfl, (ht.mono (g2.ff.trans g2.fh)).sq, (ht2.mono g2.fh).sq, by rw [r1.len, r2.len]; exact hl, fun z => ?_, fun _ z => ?_, fun _ _ p hp => ?_⟩
  · subst z
    cases xs with
    | nil => exact q _ F2 H2 _ ky (g1.trans0 g2) ⟨b, ws, rfl, ht2, r2⟩
    | cons x xs => exact (show False from r1).elim
  · subst z
    cases ys with
    | nil => exact q _ F2 H2 _ ky (g1.trans0 g2) ⟨a, us, rfl, ht.mono g2.ff, by rw [List.append_nil]; exact r1.mono g2.ff⟩
    | cons y ys => exact (show False from r2).elim
  · have g3 := Gr.lay (o := .tup (us ++ ws)) g2.base hp
    exact q _ _ _ _ ky ((g1.trans0 g2).trans0 g3) ⟨p, us ++ ws, rfl, .inl upd_same, (r1.mono (g2.ff.trans g3.ff)).append (r2.mono g3.ff)⟩
theorem we_catT {m n : M (Tup α)} (h : We tx Y ta Γ (dTup (d := d)) m) (h2 : We tx Y tb Γ (dTup (d := d)) n) : We tx Y (tOp (rCatA Y.K) ta tb) Γ (dTup (d := d)) (m >>= fun xs => n >>= fun ys => M.catT xs ys) := fun nb xk =>
  w_catT (h.k nb xk fun x e nb xk => h2.k nb xk fun y e2 nb2 _ => ⟨M.asrt_nb nb2, by rw [e]; show (n >>= _) = _; rw [e2]; exact M.asrt_pos (M.asrt_nb nb2)⟩)
theorem w_tup1 {k : Tup α → Prop} (h : W Y ta Γ d fun x => k ⟨[x]⟩) : W Y (tTup (tCons ta tNil)) Γ (dTup (d := d)) k := fun e F σ H s Q q => h e F σ H s _ fun v1 F1 H1 x kx g1 r1 => ⟨show (1 : Nat) ≤ PySem.sizeLine by decide, fun p hp => by
  have g2 := Gr.lay (o := .tup [v1]) g1.base hp
  exact q _ _ _ ⟨[x]⟩ kx (g1.trans0 g2) ⟨p, [v1], rfl, .inl upd_same, d.mono g2.ff r1, trivial⟩⟩
theorem we_tup1 {m : M α} (h : We tx Y ta Γ d m) : We tx Y (tTup (tCons ta tNil)) Γ (dTup (d := d)) (m >>= fun x => .ok ⟨[x]⟩) := we_p1w (f := fun x : α => (⟨[x]⟩ : Tup α)) (fun k h => w_tup1 h) h
end
end G
end

noncomputable section
/-! M12: enumerate within comprehensions. -/
namespace G
open PySem PySem.Spec PyProof.Rows L2 PySem.W
def iEnumTB (K : Frag) (ta : TA) : TI := fun σ H R => ta σ H fun vs H1 => ∃ a xs, vs = [.ref a] ∧ SqT K H1 a xs ∧ (xs.length ≤ sizeLine → R (IteT K a) H1)
theorem pi_enumTB {X : Cx} {e : Expr} {ta : TA} {p pos tpos : Pos} {elts : List Expr} {kk : Nat} (hg : Gl X "enumerate") (hm : X.mg "enumerate" = none) (ha : PA X [e] ta) (hs : starEach [e] X.env = [(false, eval e X.env)] := by rfl) :
    PI X (.Tuple elts kk tpos) (.Call (.Name "enumerate" p) [e] [] pos) (iEnumTB X.K ta) := by
  refine ⟨fun pins s σ H R I h => ?_⟩
  refine Call_ (ld_blt I hg hm boot_enumerate (PyProof.Rows.callWith_type1 (thn (ha.run pos pins s σ H _ I h) fun us s1 ⟨vs, H1, I1, r1, q1⟩ => ?_) hs rfl))
  obtain ⟨a, xs, ex, hq, q⟩ := q1
  subst ex
  cases r1 with
  | cons r rr =>
    cases rr
    cases r
    obtain ⟨its, rv, p', hz⟩ := I1.tuple hq
    refine call_enumerate_tup (show s1.heap.IsTuple a its.toArray from p') fun h' he hit hsz hk => wpAny_pyIter_enum he ?_
    have I2 : Inv X pins σ H1 { s1 with heap := h' } := I1.kept (t' := s1.toks) hk
    refine ⟨s1.heap.objs.size + 1, [s1.heap.objs.size + 1, s1.heap.objs.size], _, _, H1, rfl, I2, turn_enumT a (s1.heap.objs.size + 1) s1.heap.objs.size, ⟨⟨.none, he⟩, hit, Nat.succ_ne_self _⟩, fun b hb => ?_, q hz⟩
    have e' : b = s1.heap.objs.size + 1 ∨ b = s1.heap.objs.size := by simpa using hb
    have hle : s1.heap.objs.size ≤ b := by
      rcases e' with z | z
      · rw [z]; exact Nat.le_add_right _ _
      · rw [z]; exact Nat.le_refl _
    exact I1.fpOk hle (I1.hok.fresh hle)
theorem pi_enTB (K : PySem.W.Frag) {X : Cx} {e : Expr} {ta : TA} {p pos tpos : Pos} {elts : List Expr} {kk : Nat} (hg : Gl X "enumerate") (hm : X.mg "enumerate" = none) (ha : PA X [e] ta) (hs : starEach [e] X.env = [(false, eval e X.env)] := by rfl) (h : X.K = K := by rfl) :
    PI X (.Tuple elts kk tpos) (.Call (.Name "enumerate" p) [e] [] pos) (iEnumTB K ta) := h ▸ pi_enumTB hg hm ha hs
section
variable {tx : XC → Addr} {Y : YC} {Γ : List Cell} {te ta tb tl : TE} {t u tt : TT} {α β : Type} {d : Dat α} {d2 : Dat β} {g : TG}
theorem comp_turn0 {e : En} {F1 : Hp} {σ : L2.St} {H1 : Hp} {vs : List Nat} {D : Addr} {x : α} {v : V} {I I' : List β → Prop} (s1 : State Y e F1 σ H1 Γ) (hT : Tg g vs)
    (hs : ∀ ys, I ys → A Y g (wipeC Γ vs) d x fun Γ2 => T Y tt Γ2 fun b => (b = true → W Y te Γ2 d2 fun y => ys.length < PySem.sizeLine ∧ I' (ys ++ [y])) ∧ (b = false → I' ys)) {H F' : Hp} {acc : List V} {ys : List β}
    (kw : Wk ⟨F1, H1, []⟩ F' [(D, .lst acc)] H) (r : Reps d2 Y.g F' acc ys) (hi : I ys) (rx : d.rep Y.g F' v x) :
    g v (wipe σ vs) H fun σ2 H2 => wipe σ2 vs = wipe σ vs ∧ tt σ2 H2 fun b H3 =>
      if b = true then te σ2 H3 fun y H4 => ∃ acc, H4 D = some (.lst acc) ∧ acc.length < PySem.sizeLine ∧ (∃ F' acc' ys, Wk ⟨F1, H1, []⟩ F' [(D, .lst acc')] (upd H4 D (.lst (acc ++ [y]))) ∧ Reps d2 Y.g F' acc' ys ∧ I' ys) else (∃ F' acc ys, Wk ⟨F1, H1, []⟩ F' [(D, .lst acc)] H3 ∧ Reps d2 Y.g F' acc ys ∧ I' ys) := by
  have st := (s1.growL kw).wipe vs
  have ww : ∀ σ0 : L2.St, wipe (wipe σ0 vs) vs = wipe σ0 vs := by
    intro σ0
    have : ∀ (l : List Nat) (σ1 : L2.St), (∀ j ∈ l, (σ1[j]? = none ∨ σ1[j]? = some none)) → wipe σ1 l = σ1 := by
      intro l
      induction l with
      | nil => intro _ _; rfl
      | cons j l ih =>
        intro σ1 hj
        unfold wipe
        rw [ih σ1 fun m hm => hj m (List.mem_cons_of_mem _ hm)]
        apply List.ext_getElem?
        intro m
        rw [List.getElem?_set]
        by_cases hm : j = m
        · subst hm
          rcases hj j List.mem_cons_self with z | z
          · rw [z, if_pos rfl, if_neg (Nat.not_lt.mpr (List.getElem?_eq_none_iff.mp z))]
          · rw [z, if_pos rfl, if_pos (List.getElem?_eq_some_iff.mp z).1]
        · rw [if_neg hm]
    refine this vs _ fun j hj => ?_
    cases q : (wipe σ0 vs)[j]? with
    | none => exact .inl rfl
    | some o =>
      cases o with
      | none => exact .inr rfl
      | some y => exact absurd hj (wipe_some q).2
  have key := hs ys hi e F' _ H v st rx (fun σ2 H2 => tt σ2 H2 fun b H3 =>
      if b = true then te σ2 H3 fun y H4 => ∃ acc, H4 D = some (.lst acc) ∧ acc.length < PySem.sizeLine ∧ (∃ F' acc' ys, Wk ⟨F1, H1, []⟩ F' [(D, .lst acc')] (upd H4 D (.lst (acc ++ [y]))) ∧ Reps d2 Y.g F' acc' ys ∧ I' ys) else (∃ F' acc ys, Wk ⟨F1, H1, []⟩ F' [(D, .lst acc)] H3 ∧ Reps d2 Y.g F' acc ys ∧ I' ys)) fun σ2 Γ2 h2 st2 => by
    refine h2 e F' σ2 H st2 _ fun b F3 H3 kb g3 => ?_
    have kw3 := kw.trans0 g3
    cases b with
    | false => exact ⟨F3, acc, ys, kw3, r.mono g3.ff, kb.2 rfl⟩
    | true =>
      refine kb.1 rfl e F3 σ2 H3 (st2.grow g3) _ fun y F4 H4 yv ⟨hl, ky⟩ g4 ry => ?_
      have kw4 := kw3.trans0 g4
      have hD : H4 D = some (.lst acc) := (kw4.ow (D, .lst acc) (by simp)).2.1
      exact ⟨acc, hD, by rw [r.len]; exact hl, F4, acc ++ [y], ys ++ [yv], kw4.put (fun _ z => by cases z), (r.mono (g3.ff.trans g4.ff)).append (Reps.one ry), ky⟩
  have key2 := hT v _ H _ key
  rw [ww] at key2
  exact key2
theorem ic_enumT {m : M (Tup α)} (h : We tx Y tl Γ (dTup (d := d)) m) : Ic tx Y (iEnumTB Y.K (tCons tl tNil)) Γ (dPair (d1 := dInt) (d2 := d)) (m >>= fun xs => .ok (M.enumL xs.l)) := fun nb xk β d2 g tt te vs kx hT hb e F σ H s Q q => h.k nb xk (k := fun xs => m = .ok xs) (fun xs e _ _ => e) e F σ H s _ fun v F1 H1 xs hm g1 ⟨a, us, e1, hq, r⟩ => by
  subst e1
  refine ⟨a, us, rfl, (hq.mono g1.fh).sq, fun hz D hD => ?_⟩
  obtain ⟨I, h0, hs, hd⟩ := hb (M.enumL xs.l) (by rw [hm]; rfl) (by rw [M.enumL_len, ← r.len]; exact hz)
  have kw0 : Wk ⟨F1, H1, []⟩ F1 [(D, .lst [])] (upd H1 D (.lst [])) := g1.base.own hD (fun _ z => by cases z)
  have hqT : ∀ {H' : Hp} {F' : Hp}, Same F1 F' → Same F' H' → SqT Y.K H' a us := fun s1 s2 => (hq.mono (s1.trans s2)).sq
  refine ⟨fun i m H => m = us.length - i ∧ i ≤ us.length ∧ ∃ F' acc ys, Wk ⟨F1, H1, []⟩ F' [(D, .lst acc)] H ∧ Reps d2 Y.g F' acc ys ∧ I i ys, ⟨us.length, by simp, Nat.zero_le _, F1, [], [], kw0, trivial, h0⟩, ?_⟩
  rintro i m H ⟨rfl, hi, F', acc, ys, kw, ra, hI⟩
  have hq' := hqT kw.ff kw.fh
  by_cases hlt : i < us.length
  · have hw : us[i]? = some us[i] := by simp [hlt]
    generalize us[i] = w at hw
    obtain ⟨x, hx, rx⟩ := r.getV hw
    refine .inr ⟨⟨us, w, hq', hw⟩, fun H => ∃ F' acc ys, Wk ⟨F1, H1, []⟩ F' [(D, .lst acc)] H ∧ Reps d2 Y.g F' acc ys ∧ I (i + 1) ys, fun H' p' => ⟨us.length - (i + 1), by omega, rfl, hlt, p'⟩, fun x0 H' ⟨T, x', e2, hT0, e3, hall⟩ => ?_⟩
    subst e2 e3
    have ex : x' = w := by
      have := hall us hq'
      rw [hw] at this
      exact (Option.some.inj this).symm
    subst ex
    have kw2 := kw.lay (o := .tup [.int (i : Nat), x']) hT0
    have sm : Same F' (upd F' T (.tup [.int (i : Nat), x'])) := (kw.base.lay (o := .tup [.int (i : Nat), x']) hT0).ff
    exact comp_turn0 (d := dPair (d1 := dInt) (d2 := d)) (x := ((i : Int), x)) (s.grow g1) hT.1 (hs i ((i : Int), x) · (by show (M.enumL _)[i]? = _; rw [← M.enumL_get]; unfold enumI; rw [hx]; rfl)) kw2 (ra.mono sm) hI ⟨T, .int (i : Nat), x', rfl, .inl upd_same, rfl, d.mono (kw.ff.trans sm) rx⟩
  · have hi2 : i = (M.enumL xs.l).length := by rw [M.enumL_len, ← r.len]; omega
    subst hi2
    exact .inl ⟨⟨us, hq', by rw [M.enumL_len, r.len]; exact Nat.le_refl _⟩, q _ F' H _ ys (hd ys hI) (by simpa using g1.trans kw) ⟨D, acc, rfl, rfl, ra⟩⟩
end
theorem wipeC_get (Γ : List Cell) : ∀ (js : List Nat) (i : Nat), i < Γ.length → i ∈ js → (wipeC Γ js)[i]? = some .no
  | [], _, _, h => nomatch h
  | j :: js, i, hl, h => by
    unfold wipeC
    by_cases e : j = i
    · subst e
      rw [List.getElem?_set_self (by rw [wipeC_len]; exact hl)]
    · rw [List.getElem?_set_ne e]
      exact wipeC_get Γ js i hl ((List.mem_cons.mp h).resolve_left fun z => e z.symm)
/-- where all slots are wiped nothing is left to compare -/
theorem wlen (n : Nat) {Γ Γ' : List Cell} {js : List Nat} (h1 : Γ.length = n) (h2 : Γ'.length = n) (hj : (List.range n).all (fun i => js.contains i) = true) : wipeC Γ js = wipeC Γ' js := by
  apply List.ext_getElem?
  intro i
  by_cases hi : i < n
  · have hm : i ∈ js := by
      have := List.all_eq_true.mp hj i (List.mem_range.mpr hi)
      simpa using this
    rw [wipeC_get Γ js i (by omega) hm, wipeC_get Γ' js i (by omega) hm]
  · rw [List.getElem?_eq_none (by rw [wipeC_len]; omega), List.getElem?_eq_none (by rw [wipeC_len]; omega)]
end G
end

noncomputable section
/-! M13: defs that change what is passed to them. -/
namespace G
open PySem PySem.Spec PyProof.Rows L2 PySem.W
/-- a def that changes the arguments at the places ms -/
def FnM (C : GCtx) {α : Type} (dr : Dat α) (Γ : List Cell) (ms : List Nat) (post : α → List Cell → Prop) (vs : List V) (H : Hp) (Q : VK) (E : XK) : Prop :=
  ∃ F L H0, Wk ⟨F, H0, []⟩ F L H ∧ Slots C F (vs.map some) Γ L ∧ ∀ v F' H' r Γm L2, post r Γm → Wk ⟨F, H0, []⟩ F' L2 H' → dr.rep C F' v r → Slots C F' (ms.map fun j => vs[j]?) Γm L2 → Q v H'
theorem FnM.len {C : GCtx} {α : Type} {dr : Dat α} {Γ : List Cell} {ms : List Nat} {post : α → List Cell → Prop} {vs : List V} {H : Hp} {Q : VK} {E : XK} (h : FnM C dr Γ ms post vs H Q E) : vs.length = Γ.length := by
  obtain ⟨F, L, H0, _, s, _⟩ := h
  simpa using s.len
/-! arguments of which some are lent: (slot, cell) -/
abbrev AC := Cell ⊕ (Nat × Cell)
def AC.cell : AC → Cell
  | .inl c => c
  | .inr p => p.2
def MArgs (C : GCtx) (F : Hp) (σ : _root_.L2.St) : List V → List AC → Prop
  | [], [] => True
  | v :: vs, .inl c :: as => CellOk C F (some v) c [] ∧ MArgs C F σ vs as
  | v :: vs, .inr p :: as => σ[p.1]? = some (some v) ∧ MArgs C F σ vs as
  | [], _ :: _ => False
  | _ :: _, [] => False
theorem MArgs.mono {C : GCtx} {F F' : Hp} {σ : _root_.L2.St} (s : Same F F') : ∀ {vs : List V} {as : List AC}, MArgs C F σ vs as → MArgs C F' σ vs as
  | [], [], h => h
  | _ :: _, .inl _ :: _, h => ⟨h.1.mono s, h.2.mono s⟩
  | _ :: _, .inr _ :: _, h => ⟨h.1, h.2.mono s⟩
  | [], _ :: _, h => h.elim
  | _ :: _, [], h => h.elim
theorem MArgs.slots {C : GCtx} {F : Hp} {σ : _root_.L2.St} : ∀ {vs : List V} {cs : List Cell}, MArgs C F σ vs (cs.map .inl) → Slots C F (vs.map some) cs []
  | [], [], _ => .nil
  | _ :: _, _ :: _, h => .cons (L := []) (L' := []) h.1 h.2.slots
  | [], _ :: _, h => h.elim
  | _ :: _, [], h => h.elim
theorem MArgs.at {C : GCtx} {F : Hp} {σ : _root_.L2.St} {j : Nat} {c : Cell} {post : List AC} : ∀ {pre : List Cell} {vs : List V}, MArgs C F σ vs (pre.map .inl ++ .inr (j, c) :: post) →
    ∃ vs1 v vs2, vs = vs1 ++ v :: vs2 ∧ vs1.length = pre.length ∧ σ[j]? = some (some v) ∧ Slots C F (vs1.map some) pre [] ∧ MArgs C F σ vs2 post
  | [], v :: vs, h => ⟨[], v, vs, rfl, rfl, h.1, .nil, h.2⟩
  | c0 :: pre, v :: vs, h => by
    obtain ⟨vs1, u, vs2, e, hl, hj, sl, hr⟩ := MArgs.at (pre := pre) h.2
    exact ⟨v :: vs1, u, vs2, by rw [e]; rfl, by simp [hl], hj, .cons (L := []) (L' := []) h.1 sl, hr⟩
  | [], [], h => h.elim
  | _ :: _, [], h => h.elim
section
variable {tx : XC → Addr} {Y : YC} {Γ : List Cell} {te : TE} {tr tl : TA} {α β τ σ : Type} {d : Dat α} {rest : TS} {js : List Nat} {K : Kt τ}
/-! ### the body of such a def -/
end
theorem KReps.imm {α : Type} {d : Dat α} [i : @Imm α d] {C : GCtx} {F H : Hp} (t : ∀ a xs, H a = some (.tup xs) → F a = some (.tup xs)) : ∀ {ps : List (Key × V)} {xs : List (Int × α)}, KReps d C H ps xs → KReps d C F ps xs
  | [], [], _ => trivial
  | _ :: _, _ :: _, h => ⟨h.1, i.imm t h.2.1, KReps.imm t h.2.2⟩
  | [], _ :: _, h => h.elim
  | _ :: _, [], h => h.elim
instance mDI {α : Type} [d : Dat α] [i : Imm α] : OIm (DI α) oDI := ⟨fun t ⟨a, ps, e, h, r⟩ => ⟨a, ps, e, h, r.imm t⟩⟩
/-! lent, and others borrowed meanwhile -/
section
variable {tx : XC → Addr} {Y : YC} {Γ : List Cell} {te : TE} {tr tl : TA} {α β τ σ : Type} {d : Dat α} {rest : TS} {js : List Nat} {K : Kt τ} {j0 : Nat}
end
end G
end

section
set_option maxHeartbeats 2000000
noncomputable section
/-! M14: set comprehensions of ints, sorted. -/
namespace L2
open PySem PySem.Spec PyProof.Rows
section
variable {X : Cx}
end
end L2
namespace G
open PySem PySem.Spec PyProof.Rows L2 PySem.W
section
variable {tx : XC → Addr} {Y : YC} {Γ : List Cell} {ta te tl : TE} {tt : TT} {g : TG} {α τ : Type} {d : Dat α} {vs : List Nat}
end
end G
end
end

noncomputable section
/-! M15: a == b == c. -/
namespace G
open PySem PySem.Spec PyProof.Rows L2 PySem.W
section
variable {tx : XC → Addr} {Y : YC} {Γ : List Cell} {ta tb tc : TE}
end
section
variable {tx : XC → Addr} {Y : YC} {Γ : List Cell} {ta tb te : TE} {α τ : Type} {d : Dat α} {rest : TS} {js : List Nat} {K : Kt τ}
end
end G
end

noncomputable section
/-! M16: while with a walrus, None or a value narrowed, list.remove. -/
namespace G
open PySem PySem.Spec PyProof.Rows L2 PySem.W
section
variable {tx : XC → Addr} {Y : YC} {Γ : List Cell} {ta tb te : TE} {α β τ σ : Type} {d : Dat α} {ts rest : TS} {js js' : List Nat} {K : Kt τ} {i : Nat}
/-- None or a value, known to be one -/
def M.ofOpt {α : Type} : Opt α → M α
  | .some x => .ok x
  | .none => .bad
theorem z_recell {c c' : Cell} {k : Ks} (hi : Γ[i]? = some c) (h : ∀ (C : GCtx) (F : Hp) (o : Option V) (L : LO), CellOk C F o c L → CellOk C F o c' L) (hz : Z Y ts (Γ.set i c') k) : Z Y ts Γ k := fun e F σ0 H D hM s ct => by
  obtain ⟨hx, L, kw, sl⟩ := id s
  obtain ⟨o, L1, Li, L2, e1, e2, hc, f⟩ := sl.get hi
  have q := f F o c' Li (Same.refl _) (h _ _ _ _ hc)
  have z : σ0.set i o = σ0 := by
    apply List.ext_getElem?
    intro j
    by_cases hj : i = j
    · subst hj
      obtain ⟨hlt, hv⟩ := List.getElem?_eq_some_iff.mp e1
      rw [List.getElem?_set_self hlt, e1]
    · rw [List.getElem?_set_ne hj]
  rw [z, ← e2] at q
  exact hz e F σ0 H D hM ⟨hx, L, kw, q⟩ ct
/-- xs.remove(k) -/
def M.remove (xs : List Int) (m : M Int) : M (List Int) := m >>= fun k => M.asrt (k ∈ xs) (.ok (xs.erase k))
end
end G
end

noncomputable section
/-! M17: for over a list that is owned and changed later. -/
namespace G
open PySem PySem.Spec PyProof.Rows L2 PySem.W
section
variable {tx : XC → Addr} {Y : YC} {Γ : List Cell} {te ta tb tc td tl : TE} {t u tt : TT} {α β γ δ ε σ τ ρ : Type} {d : Dat α} {d1 : Dat α} {d2 : Dat β} {d3 : Dat γ} {g : TG} {ts t1 t2 rest : TS} {js js' vs : List Nat} {K : Kt τ}
/-- what a for asks, P: what its turns keep -/
def BodyP (Y : YC) (g : TG) (ts : TS) {α : Type} (d : Dat α) (k : Ks) (get : Nat → Option α) (n : Nat) (Γ : List Cell) (P : List Cell → Prop) : Prop :=
  ∃ I : Nat → List Cell → Prop, I 0 Γ ∧ (∀ n Γ', I n Γ' → P Γ') ∧ (∀ i x Γ', get i = some x → I i Γ' → A Y g Γ' d x fun Γ2 => Z Y ts Γ2 { nx := I (i + 1), ct := I (i + 1), bk := k.nx, rt := k.rt }) ∧ ∀ Γ', I n Γ' → k.nx Γ'
theorem BodyP.body {k : Ks} {get : Nat → Option α} {n : Nat} {P : List Cell → Prop} (h : BodyP Y g ts d k get n Γ P) : Body Y g ts d k get n Γ := let ⟨I, h0, _, hs, hd⟩ := h; ⟨I, h0, hs, hd⟩
end
end G
end

noncomputable section
/-! M18: None or plain data, as plain data. -/
namespace G
open PySem PySem.Spec PyProof.Rows L2 PySem.W
def optU {α : Type} (f : α → PyData) : Opt α → PyData
  | .none => .none
  | .some x => f x
instance udOpt {α : Type} {d : Dat α} [u : @UD α d] : @UD (Opt α) (dOpt (d := d)) := ⟨optU u.toU, fun {C F v x} h => match x, h with
  | .none, h => h
  | .some _, h => u.du h⟩
end G
end

noncomputable section
/-! M19: plain data read as data of a known shape. -/
namespace G
open PySem PySem.Spec PyProof.Rows L2 PySem.W
/-- what plain data are, seen as of a shape -/
class OU (α : Type) [d : Dat α] where
  ofU : PyData → Option α
  snd : ∀ {C : GCtx} {F : Hp} {v : V} {x : PyData} {y : α}, ofU x = some y → DU C F x v → d.rep C F v y
def ofInt : PyData → Option Int | .int i => some i | _ => none
def ofBool : PyData → Option Bool | .bool i => some i | _ => none
def ofStr : PyData → Option Str | .str i => some i | _ => none
instance ouInt : OU Int := ⟨ofInt, fun {C F v x y} h r => by cases x <;> cases h; exact r⟩
instance ouBool : OU Bool := ⟨ofBool, fun {C F v x y} h r => by cases x <;> cases h; exact r⟩
instance ouStr : OU Str := ⟨ofStr, fun {C F v x y} h r => by cases x <;> cases h; exact r⟩
def ofAll {α : Type} (f : PyData → Option α) : List PyData → Option (List α)
  | [] => some []
  | x :: xs => match f x, ofAll f xs with | some y, some ys => some (y :: ys) | _, _ => none
theorem ofAll_reps {α : Type} {d : Dat α} [o : @OU α d] {C : GCtx} {F : Hp} : ∀ {ds : List PyData} {ys : List α} {vs : List V}, ofAll o.ofU ds = some ys → DUs C F ds vs → Reps d C F vs ys
  | [], ys, [], h, _ => by cases h; trivial
  | x :: xs, ys, v :: vs, h, r => by
    unfold ofAll at h
    cases h1 : o.ofU x with
    | none => rw [h1] at h; cases h
    | some y =>
      cases h2 : ofAll o.ofU xs with
      | none => rw [h1, h2] at h; cases h
      | some zs =>
        rw [h1, h2] at h
        cases h
        exact ⟨o.snd h1 r.1, ofAll_reps h2 r.2⟩
  | [], _, _ :: _, _, r => r.elim
  | _ :: _, _, [], _, r => r.elim
def ofList {α : Type} (f : PyData → Option α) : PyData → Option (List α)
  | .list ds => ofAll f ds
  | _ => none
def ofTup {α : Type} (f : PyData → Option α) : PyData → Option (Tup α)
  | .tuple ds => (ofAll f ds).map fun xs => ⟨xs⟩
  | _ => none
instance ouList {α : Type} {d : Dat α} [o : @OU α d] : @OU (List α) dList := ⟨ofList o.ofU, fun {C F v x y} h r => by
  cases x with
  | list ds =>
    obtain ⟨a, vs, e, h1, r1⟩ := r
    exact ⟨a, vs, e, h1, ofAll_reps h r1⟩
  | _ => cases h⟩
instance ouTup {α : Type} {d : Dat α} [o : @OU α d] : @OU (Tup α) dTup := ⟨ofTup o.ofU, fun {C F v x y} h r => by
  cases x with
  | tuple ds =>
    obtain ⟨a, vs, e, h1, r1⟩ := r
    have h : (ofAll o.ofU ds).map (fun xs => (⟨xs⟩ : Tup α)) = some y := h
    cases h2 : ofAll o.ofU ds with
    | none => rw [h2] at h; cases h
    | some xs =>
      rw [h2] at h
      cases h
      exact ⟨a, vs, e, h1, ofAll_reps h2 r1⟩
  | _ => cases h⟩
def ofPair {α β : Type} (f : PyData → Option α) (g : PyData → Option β) : PyData → Option (α × β)
  | .tuple [x, y] => match f x, g y with | some a, some b => some (a, b) | _, _ => none
  | _ => none
instance ouPair {α β : Type} {d1 : Dat α} {d2 : Dat β} [o1 : @OU α d1] [o2 : @OU β d2] : @OU (α × β) dPair := ⟨ofPair o1.ofU o2.ofU, fun {C F v x y} h r => by
  unfold ofPair at h
  split at h
  · rename_i x1 x2
    cases h1 : o1.ofU x1 with
    | none => rw [h1] at h; cases h
    | some a =>
      cases h2 : o2.ofU x2 with
      | none => rw [h1, h2] at h; cases h
      | some b =>
        rw [h1, h2] at h
        cases h
        obtain ⟨p, vs, e, ht, r1⟩ := r
        match vs, r1 with
        | [v1, v2], r1 => exact ⟨p, v1, v2, e, ht, o1.snd h1 r1.1, o2.snd h2 r1.2.1⟩
  · cases h⟩
def ofT4 {α β γ δ : Type} (f : PyData → Option α) (g : PyData → Option β) (h : PyData → Option γ) (i : PyData → Option δ) : PyData → Option (T4 α β γ δ)
  | .tuple [x, y, z, w] => match f x, g y, h z, i w with | some a, some b, some c, some d => some ⟨a, b, c, d⟩ | _, _, _, _ => none
  | _ => none
instance ouT4 {α β γ δ : Type} {d1 : Dat α} {d2 : Dat β} {d3 : Dat γ} {d4 : Dat δ} [o1 : @OU α d1] [o2 : @OU β d2] [o3 : @OU γ d3] [o4 : @OU δ d4] : @OU (T4 α β γ δ) dT4 := ⟨ofT4 o1.ofU o2.ofU o3.ofU o4.ofU, fun {C F v x y} h r => by
  unfold ofT4 at h
  split at h
  · rename_i x1 x2 x3 x4
    cases h1 : o1.ofU x1 with
    | none => rw [h1] at h; cases h
    | some a =>
      cases h2 : o2.ofU x2 with
      | none => rw [h1, h2] at h; cases h
      | some b =>
        cases h3 : o3.ofU x3 with
        | none => rw [h1, h2, h3] at h; cases h
        | some c =>
          cases h4 : o4.ofU x4 with
          | none => rw [h1, h2, h3, h4] at h; cases h
          | some d =>
            rw [h1, h2, h3, h4] at h
            cases h
            obtain ⟨p, vs, e, ht, r1⟩ := r
            match vs, r1 with
            | [v1, v2, v3, v4], r1 => exact ⟨p, v1, v2, v3, v4, e, ht, o1.snd h1 r1.1, o2.snd h2 r1.2.1, o3.snd h3 r1.2.2.1, o4.snd h4 r1.2.2.2.1⟩
  · cases h⟩
section
variable {tx : XC → Addr} {Y : YC} {Γ : List Cell} {te : TE} {α : Type} {d : Dat α}
end
end G
end

noncomputable section
/-! M20: xs[::-1]. -/
namespace G
open PySem PySem.Spec PyProof.Rows L2 PySem.W
section
variable {tx : XC → Addr} {Y : YC} {Γ : List Cell} {te : TE} {α : Type} {d : Dat α}
end
end G
end

noncomputable section
/-! M21: pairs that own one part. -/
namespace G
open PySem PySem.Spec PyProof.Rows L2 PySem.W
/-- frozen data, as a part of what is owned -/
@[reducible] def oFz {α : Type} {d : Dat α} : @OD α d := @OD.mk α d (fun C F v x L => L = [] ∧ d.rep C F v x) (fun s ⟨e, r⟩ => ⟨e, d.mono s r⟩) (fun ⟨_, r⟩ s _ => d.mono s r)
section
variable {tx : XC → Addr} {Y : YC} {Γ : List Cell} {α τ : Type} {d : Dat α} {ts : TS} {js : List Nat} {K : Kt τ} {m : M τ} {x : α}
theorem zm_own (i : Nat) (hi : Γ[i]? = some (.val d x)) (hj : i ∈ js) (h : Zm tx Y js ts (Γ.set i (.own d oFz none x)) K m) : Zm tx Y js ts Γ K m := fun nb xk =>
  z_recell (c' := .own d oFz none x) hi (fun C F o L ⟨e, v, eo, r⟩ => ⟨v, eo, (fun _ z => nomatch z), e, r⟩) (h nb (xk.w (wipeC_set hj)))
end
end G
end

noncomputable section
/-! M22: comprehensions with two fors. -/
namespace G
open PySem PySem.Spec PyProof.Rows L2 PySem.W
section
variable {tx : XC → Addr} {Y : YC} {Γ : List Cell} {α : Type} {d : Dat α}
/-- what is walked -/
def Iw (tx : XC → Addr) (Y : YC) (ti : TI) (Γ : List Cell) {α : Type} (d : Dat α) (m : M (List α)) : Prop := m.nb → XkM tx Y Γ m → ∀ (e : En) (F : Hp) (σ : L2.St) (H : Hp), State Y e F σ H Γ → ∀ R : It → Hp → Prop,
  (∀ J F1 H1 us xs (Gd : Hp → Prop), m = .ok xs → xs.length ≤ PySem.sizeLine → Gr F H F1 H1 → (∀ H', Same F1 H' → Gd H') → Walk J us.length Gd (YAt us) → Reps d Y.g F1 us xs → R J H1) → ti σ H R
theorem iw_tup {tl : TE} {m : M (Tup α)} (h : We tx Y tl Γ (dTup (d := d)) m) : Iw tx Y (iTupB Y.K tl) Γ d (m >>= fun xs => .ok xs.l) := fun nb xk e F σ H s R q => h.k nb xk (k := fun xs => m = .ok xs) (fun xs e _ _ => e) e F σ H s _ fun v F1 H1 xs hm g1 ⟨a, us, e1, hq, r⟩ => by
  subst e1
  exact ⟨a, us, rfl, (hq.mono g1.fh).sq, fun hz => q _ F1 H1 us xs.l (fun H' => SqT Y.K H' a us) (by rw [hm]; rfl) (by rw [← r.len]; exact hz) g1 (fun H' sm => (hq.mono sm).sq) walk_tup r⟩
end
/-- the heap without an object -/
def less (H : Hp) (D : Addr) : Hp := fun a => if a = D then none else H a
theorem less_at (H : Hp) (D : Addr) : less H D D = none := if_pos rfl
theorem less_ne {H : Hp} {D a : Addr} (h : a ≠ D) : less H D a = H a := if_neg h
/-- the state without an object that is not the environment's -/
theorem State.less {C : GCtx} {e : En} {F : Hp} {σ : L2.St} {H : Hp} {Γ : List Cell} {D : Addr} (s : State (calm C) e F σ H Γ) (h0 : e.H0 D ≠ none) (hm : D ∉ e.M) (hf : F D = none) (ht : ∀ xs, H D ≠ some (.tup xs)) : ∃ M, State (calm C) ⟨F, G.less H D, M⟩ F σ (G.less H D) Γ := by
  obtain ⟨_, L, k, sl⟩ := s
  have hne : ∀ p ∈ L, p.1 ≠ D := fun p hp e1 => by
    rcases (k.ow p hp).2.2 with z | z
    · exact h0 (by rw [← e1]; exact z)
    · exact hm (by rw [← e1]; exact z)
  refine ⟨L.map Prod.fst, fun _ _ _ _ _ _ hk _ _ => hk, L, ⟨Same.refl _, fun _ _ _ h => h, fun _ h => h, fun a o h => ?_, fun _ _ h => h, fun a xs h => ?_, fun p hp => ⟨(k.ow p hp).1, ?_, .inr (List.mem_map.mpr ⟨p, hp, rfl⟩)⟩, k.nd⟩, sl⟩
  · have hne2 : a ≠ D := fun e1 => by rw [e1, hf] at h; cases h
    rw [less_ne hne2]
    exact k.fh a o h
  · by_cases e1 : a = D
    · rw [e1, less_at] at h; cases h
    · rw [less_ne e1] at h
      exact k.tp a xs h
  · rw [less_ne (hne p hp)]
    exact (k.ow p hp).2.1
theorem wipe_wipeB (σ0 : L2.St) (vs : List Nat) : wipe (wipe σ0 vs) vs = wipe σ0 vs := by
  have : ∀ (l : List Nat) (σ1 : L2.St), (∀ j ∈ l, (σ1[j]? = none ∨ σ1[j]? = some none)) → wipe σ1 l = σ1 := by
    intro l
    induction l with
    | nil => intro _ _; rfl
    | cons j l ih =>
      intro σ1 hj
      unfold wipe
      rw [ih σ1 fun m hm => hj m (List.mem_cons_of_mem _ hm)]
      apply List.ext_getElem?
      intro m
      rw [List.getElem?_set]
      by_cases hm : j = m
      · subst hm
        rcases hj j List.mem_cons_self with z | z
        · rw [z, if_pos rfl, if_neg (Nat.not_lt.mpr (List.getElem?_eq_none_iff.mp z))]
        · rw [z, if_pos rfl, if_pos (List.getElem?_eq_some_iff.mp z).1]
      · rw [if_neg hm]
  refine this vs _ fun j hj => ?_
  cases q : (wipe σ0 vs)[j]? with
  | none => exact .inl rfl
  | some o =>
    cases o with
    | none => exact .inr rfl
    | some y => exact absurd hj (wipe_some q).2
section
variable {Y : YC} {Γ : List Cell} {α β γ : Type} {d : Dat α} {d1 : Dat γ} {d2 : Dat β} {g g1 : TG} {tt tt1 : TT} {te : TE} {ti ti1 : TI} {vs vs1 : List Nat}
def Iwk (Y : YC) (ti : TI) (Γ : List Cell) {α : Type} (d : Dat α) (k : List α → Prop) : Prop := ∀ (e : En) (F : Hp) (σ : L2.St) (H : Hp), State Y e F σ H Γ → ∀ R : It → Hp → Prop,
  (∀ J F1 H1 us xs (Gd : Hp → Prop), k xs → xs.length ≤ PySem.sizeLine → Gr F H F1 H1 → (∀ H', Same F1 H' → Gd H') → Walk J us.length Gd (YAt us) → Reps d Y.g F1 us xs → R J H1) → ti σ H R
/-- what a comprehension with two fors asks -/
def CompB2 (Y : YC) (g : TG) (tt : TT) (ti1 : TI) (g1 : TG) (tt1 : TT) (te : TE) (vs1 : List Nat) {α β γ : Type} (d : Dat α) (d1 : Dat γ) (d2 : Dat β) (kx : List β → Prop) (xs : List α) (Γ : List Cell) : Prop :=
  ∃ I : Nat → List β → Prop, I 0 [] ∧ (∀ i x ys, xs[i]? = some x → I i ys → A Y g Γ d x fun Γ2 => T Y tt Γ2 fun b => (b = true → Iwk Y ti1 Γ2 d1 fun zs => ∃ I1 : Nat → List β → Prop, I1 0 ys ∧
    (∀ j z ws, zs[j]? = some z → I1 j ws → A Y g1 (wipeC Γ2 vs1) d1 z fun Γ3 => T Y tt1 Γ3 fun b => (b = true → W Y te Γ3 d2 fun w => ws.length < PySem.sizeLine ∧ I1 (j + 1) (ws ++ [w])) ∧ (b = false → I1 (j + 1) ws)) ∧ ∀ ws, I1 zs.length ws → I (i + 1) ws) ∧ (b = false → I (i + 1) ys)) ∧ ∀ ys, I xs.length ys → kx ys
theorem comp_turn2 {e : En} {F1 : Hp} {σ : L2.St} {H1 : Hp} {D : Addr} {x : α} {v : V} {i : Nat} {I : Nat → List β → Prop} (s1 : State Y e F1 σ H1 Γ) (hD : H1 D = none) (hT : Tg g vs) (hT1 : Tg g1 vs1)
    (hs : ∀ ys, I i ys → A (calm Y.g) g (wipeC Γ vs) d x fun Γ2 => T (calm Y.g) tt Γ2 fun b => (b = true → Iwk (calm Y.g) ti1 Γ2 d1 fun zs => ∃ I1 : Nat → List β → Prop, I1 0 ys ∧
      (∀ j z ws, zs[j]? = some z → I1 j ws → A (calm Y.g) g1 (wipeC Γ2 vs1) d1 z fun Γ3 => T (calm Y.g) tt1 Γ3 fun b => (b = true → W (calm Y.g) te Γ3 d2 fun w => ws.length < PySem.sizeLine ∧ I1 (j + 1) (ws ++ [w])) ∧ (b = false → I1 (j + 1) ws)) ∧ ∀ ws, I1 zs.length ws → I (i + 1) ws) ∧ (b = false → I (i + 1) ys))
    (rx : ∀ F', Same F1 F' → d.rep Y.g F' v x) {H : Hp} (h : ∃ F' acc ys, Wk ⟨F1, H1, []⟩ F' [(D, .lst acc)] H ∧ Reps d2 Y.g F' acc ys ∧ I i ys) :
    g v (wipe σ vs) H fun σ2 H2 => wipe σ2 vs = wipe σ vs ∧ tt σ2 H2 fun b H3 =>
      if b = true then ti1 σ2 H3 fun J1 H4 => ∃ W1 : Nat → Nat → Hp → Prop, (∃ m, W1 0 m H4) ∧ ∀ j k H, W1 j k H →
        (J1.stop j H ∧ ∃ F' acc ys, Wk ⟨F1, H1, []⟩ F' [(D, .lst acc)] H ∧ Reps d2 Y.g F' acc ys ∧ I (i + 1) ys) ∨ (J1.go j H ∧ ∃ Nx1 : Hp → Prop, (∀ H', Nx1 H' → ∃ k', k' < k ∧ W1 (j + 1) k' H') ∧ ∀ x H', J1.yld j H x H' → g1 x (wipe σ2 vs1) H' fun σ3 H5 => wipe σ3 vs1 = wipe σ2 vs1 ∧ tt1 σ3 H5 fun b H6 =>
          if b = true then te σ3 H6 fun y H7 => ∃ acc, H7 D = some (.lst acc) ∧ acc.length < PySem.sizeLine ∧ Nx1 (upd H7 D (.lst (acc ++ [y]))) else Nx1 H6)
      else ∃ F' acc ys, Wk ⟨F1, H1, []⟩ F' [(D, .lst acc)] H3 ∧ Reps d2 Y.g F' acc ys ∧ I (i + 1) ys := by
  obtain ⟨F', acc, ys, kw, r, hi⟩ := h
  obtain ⟨_, L1, k1, sl1⟩ := s1
  have hDL : ∀ p ∈ L1, p.1 ≠ D := fun p hp e1 => by
    have := (k1.ow p hp).2.1
    rw [e1, hD] at this
    cases this
  have k2 := k1.trans kw
  have k3 : Wk e F' L1 H := k2.sub (fun p hp => List.mem_append_right _ hp) k1.nd
  have hM : D ∉ L1.map Prod.fst := fun z => by
    obtain ⟨p, hp, e2⟩ := List.mem_map.mp z
    exact hDL p hp e2
  have st : State (calm Y.g) ⟨F', H, L1.map Prod.fst⟩ F' σ H Γ := ⟨fun _ _ _ _ _ _ hk _ _ => hk, L1, ⟨Same.refl _, fun _ _ _ h => h, fun _ h => h, k3.fh, fun _ _ h => h, k3.tp, fun p hp => ⟨(k3.ow p hp).1, (k3.ow p hp).2.1, .inr (List.mem_map.mpr ⟨p, hp, rfl⟩)⟩, k3.nd⟩, sl1.mono kw.ff⟩
  have hHD : H D = some (.lst acc) := (kw.ow (D, .lst acc) (by simp)).2.1
  have key := hs ys hi _ F' _ H v (st.wipe vs) (rx F' kw.ff) (fun σ2 H2 => tt σ2 H2 fun b H3 =>
      if b = true then ti1 σ2 H3 fun J1 H4 => ∃ W1 : Nat → Nat → Hp → Prop, (∃ m, W1 0 m H4) ∧ ∀ j k H, W1 j k H →
        (J1.stop j H ∧ ∃ F' acc ys, Wk ⟨F1, H1, []⟩ F' [(D, .lst acc)] H ∧ Reps d2 Y.g F' acc ys ∧ I (i + 1) ys) ∨ (J1.go j H ∧ ∃ Nx1 : Hp → Prop, (∀ H', Nx1 H' → ∃ k', k' < k ∧ W1 (j + 1) k' H') ∧ ∀ x H', J1.yld j H x H' → g1 x (wipe σ2 vs1) H' fun σ3 H5 => wipe σ3 vs1 = wipe σ2 vs1 ∧ tt1 σ3 H5 fun b H6 =>
          if b = true then te σ3 H6 fun y H7 => ∃ acc, H7 D = some (.lst acc) ∧ acc.length < PySem.sizeLine ∧ Nx1 (upd H7 D (.lst (acc ++ [y]))) else Nx1 H6)
      else ∃ F' acc ys, Wk ⟨F1, H1, []⟩ F' [(D, .lst acc)] H3 ∧ Reps d2 Y.g F' acc ys ∧ I (i + 1) ys) fun σ2 Γ2 h2 st2 => by
    refine h2 _ F' σ2 H st2 _ fun b F3 H3 kb g3 => ?_
    cases b with
    | false => exact ⟨F3, acc, ys, kw.trans0 g3, r.mono g3.ff, kb.2 rfl⟩
    | true =>
      refine kb.1 rfl _ F3 σ2 H3 (st2.grow g3) _ fun J1 F4 H4 us1 zs Gd1 ⟨I1, h10, h1s, h1d⟩ hz1 g4 hGd1 w1 r1 => ?_
      have st4 := (st2.grow g3).grow g4
      have kw4 := (kw.trans0 g3).trans0 g4
      have hF4 : F4 D = none := (kw4.ow (D, .lst acc) (by simp)).1
      have hH4 : H4 D = some (.lst acc) := (kw4.ow (D, .lst acc) (by simp)).2.1
      obtain ⟨M5, st5⟩ := st4.less (D := D) (by show H D ≠ none; rw [hHD]; exact fun z => nomatch z) hM hF4 (fun xs z => by rw [hH4] at z; cases z)
      have kwA : Wk ⟨F4, G.less H4 D, []⟩ F4 [(D, .lst acc)] H4 := ⟨Same.refl _, fun a o _ h => by
        have h : G.less H4 D a = some o := h
        by_cases e1 : a = D
        · rw [e1, less_at] at h; cases h
        · rwa [less_ne e1] at h, fun a h => by
        have h : G.less H4 D a ≠ none := h
        by_cases e1 : a = D
        · rw [e1, hH4]; exact fun z => nomatch z
        · rwa [less_ne e1] at h, kw4.fh, fun _ _ h => h, kw4.tp, fun p hp => by
        rw [List.mem_singleton] at hp
        subst hp
        exact ⟨hF4, hH4, .inl (less_at H4 D)⟩, by simp⟩
      have kwB : Wk ⟨F1, H1, []⟩ F4 [] (G.less H4 D) := ⟨kw4.ff, fun a o hm h => by
        have h1 : H1 a = some o := h
        have e1 : a ≠ D := fun z => by rw [z, hD] at h1; cases h1
        rw [less_ne e1]
        exact kw4.hh a o hm h, fun a h => by
        have e1 : a ≠ D := fun z => h (by rw [z]; exact hD)
        rw [less_ne e1]
        exact kw4.th a h, fun a o h => by
        have e1 : a ≠ D := fun z => by rw [z, hF4] at h; cases h
        rw [less_ne e1]
        exact kw4.fh a o h, kw4.nw, fun a xs h => by
        have e1 : a ≠ D := fun z => by rw [z, less_at] at h; cases h
        rw [less_ne e1] at h
        exact kw4.tp a xs h, fun p hp => (nomatch hp), List.nodup_nil⟩
      refine ⟨fun j k H => k = us1.length - j ∧ j ≤ us1.length ∧ ∃ F' acc ys, Wk ⟨F4, G.less H4 D, []⟩ F' [(D, .lst acc)] H ∧ Reps d2 Y.g F' acc ys ∧ I1 j ys, ⟨us1.length, by simp, Nat.zero_le _, F4, acc, ys, kwA, r.mono (g3.ff.trans g4.ff), h10⟩, ?_⟩
      rintro j k H5 ⟨rfl, hj, p1⟩
      have hG1 : Gd1 H5 := by
        obtain ⟨F5, acc5, ys5, kw5, _⟩ := id p1
        exact hGd1 H5 (kw5.ff.trans kw5.fh)
      by_cases hlt : j < us1.length
      · refine .inr ⟨w1.goes j H5 hlt hG1, fun H => ∃ F' acc ys, Wk ⟨F4, G.less H4 D, []⟩ F' [(D, .lst acc)] H ∧ Reps d2 Y.g F' acc ys ∧ I1 (j + 1) ys, fun H' p' => ⟨us1.length - (j + 1), by omega, rfl, hlt, p'⟩, fun z H' y => ?_⟩
        obtain ⟨e1, hz⟩ := w1.yields j H5 z H' hlt hG1 y
        subst e1
        obtain ⟨z', hz', rz⟩ := r1.getV hz
        exact comp_turn (Y := calm Y.g) st5 hT1 (h1s j z' · hz') (fun F' sm => d1.mono sm rz) p1
      · have ej : j = us1.length := by omega
        subst ej
        refine .inl ⟨w1.stops H5 hG1, ?_⟩
        obtain ⟨F5, acc5, ys5, kw5, r5, h5⟩ := p1
        rw [r1.len] at h5
        exact ⟨F5, acc5, ys5, by simpa using kwB.trans kw5, r5, h1d ys5 h5⟩
  have key2 := hT v _ H _ key
  rw [wipe_wipeB] at key2
  exact key2
theorem o_lc2 {kx : List β → Prop} (hT : Tg g vs) (hT1 : Tg g1 vs1) (h : Iwk Y ti Γ d fun xs => CompB2 (calm Y.g) g tt ti1 g1 tt1 te vs1 d d1 d2 kx xs (wipeC Γ vs)) : O Y (tLc2 ti g tt ti1 g1 tt1 te vs vs1) Γ (oList (d := d2)) kx := fun e F σ H s Q q => h e F σ H s _ fun J F1 H1 us xs Gd ⟨I, h0, hs, hd⟩ hz gg hGd w r D hD => by
  have kw0 : Wk ⟨F1, H1, []⟩ F1 [(D, .lst [])] (upd H1 D (.lst [])) := gg.base.own hD (fun _ z => by cases z)
  refine ⟨fun i m H => m = us.length - i ∧ i ≤ us.length ∧ ∃ F' acc ys, Wk ⟨F1, H1, []⟩ F' [(D, .lst acc)] H ∧ Reps d2 Y.g F' acc ys ∧ I i ys, ⟨us.length, by simp, Nat.zero_le _, F1, [], [], kw0, trivial, h0⟩, ?_⟩
  rintro i m H' ⟨rfl, hi, p⟩
  have hG : Gd H' := by
    obtain ⟨F', acc, ys, kw, _⟩ := id p
    exact hGd H' (kw.ff.trans kw.fh)
  by_cases hlt : i < us.length
  · refine .inr ⟨w.goes i H' hlt hG, fun H => ∃ F' acc ys, Wk ⟨F1, H1, []⟩ F' [(D, .lst acc)] H ∧ Reps d2 Y.g F' acc ys ∧ I (i + 1) ys, fun H'' p' => ⟨us.length - (i + 1), by omega, rfl, hlt, p'⟩, fun v H'' y => ?_⟩
    obtain ⟨e1, hv⟩ := w.yields i H' v H'' hlt hG y
    subst e1
    obtain ⟨x, hx, rx⟩ := r.getV hv
    exact comp_turn2 (s.grow gg) hD hT hT1 (hs i x · hx) (fun F' sm => d.mono sm rx) p
  · have ei : i = us.length := by omega
    subst ei
    refine .inl ⟨w.stops H' hG, ?_⟩
    obtain ⟨F', acc, ys, kw, ra, hI⟩ := p
    rw [r.len] at hI
    exact q _ F' H' _ ys (hd ys hI) (by simpa using gg.trans kw) ⟨D, acc, rfl, rfl, ra⟩
end
namespace M
variable {α β γ : Type}
/-- [f x z for x in xs if p x for z in m1 x if p1 x z] -/
def comp2 (p : α → M Bool) (m1 : α → M (List γ)) (p1 : α → γ → M Bool) (f : α → γ → M β) : List α → M (List β)
  | [] => .ok []
  | x :: xs => (calm (p x) >>= fun b => if b then calm (m1 x) >>= fun zs => comp (p1 x) (f x) zs else .ok []) >>= fun ys => comp2 p m1 p1 f xs >>= fun zs => .ok (ys ++ zs)
def lc2 (p : α → M Bool) (m1 : α → M (List γ)) (p1 : α → γ → M Bool) (f : α → γ → M β) (xs : List α) : M (List β) := comp2 p m1 p1 f xs >>= fun ys => asrt (ys.length ≤ PySem.sizeLine) (.ok ys)
theorem comp_tot (p : α → M Bool) (f : α → M β) : ∀ xs : List α, (comp p f xs).nb → ∃ ys, comp p f xs = .ok ys
  | [], _ => ⟨[], rfl⟩
  | x :: xs, h => by
    simp only [comp] at h ⊢
    obtain ⟨b, hb⟩ := calm_nb (nb1 h)
    rw [hb] at h ⊢
    simp only [calm_of_ok, ok_bind] at h ⊢
    cases b with
    | true =>
      rw [if_pos rfl] at h ⊢
      obtain ⟨y, hy⟩ := calm_nb (nb1 h)
      rw [hy] at h ⊢
      simp only [calm_of_ok, ok_bind] at h ⊢
      obtain ⟨ys, e⟩ := comp_tot p f xs (nb1 h)
      rw [e]
      exact ⟨_, rfl⟩
    | false =>
      rw [if_neg (by simp)] at h ⊢
      exact comp_tot p f xs h
/-- what one item of the first for gives -/
def part (p : α → M Bool) (m1 : α → M (List γ)) (p1 : α → γ → M Bool) (f : α → γ → M β) (x : α) : M (List β) := calm (p x) >>= fun b => if b then calm (m1 x) >>= fun zs => comp (p1 x) (f x) zs else .ok []
theorem part_tot (p : α → M Bool) (m1 : α → M (List γ)) (p1 : α → γ → M Bool) (f : α → γ → M β) (x : α) (h : (part p m1 p1 f x).nb) : (p x = .ok false ∧ part p m1 p1 f x = .ok []) ∨ ∃ zs ys, p x = .ok true ∧ m1 x = .ok zs ∧ comp (p1 x) (f x) zs = .ok ys ∧ part p m1 p1 f x = .ok ys := by
  unfold part at h ⊢
  obtain ⟨b, hb⟩ := calm_nb (nb1 h)
  rw [hb] at h ⊢
  simp only [calm_of_ok, ok_bind] at h ⊢
  cases b with
  | false => exact .inl ⟨by first | rfl | trivial, rfl⟩
  | true =>
    rw [if_pos rfl] at h ⊢
    obtain ⟨zs, hz⟩ := calm_nb (nb1 h)
    rw [hz] at h ⊢
    simp only [calm_of_ok, ok_bind] at h ⊢
    obtain ⟨ys, e⟩ := comp_tot _ _ zs h
    exact .inr ⟨zs, ys, by first | rfl | trivial, by first | rfl | trivial, e, e⟩
theorem comp2_cons (p : α → M Bool) (m1 : α → M (List γ)) (p1 : α → γ → M Bool) (f : α → γ → M β) (x : α) (xs : List α) : comp2 p m1 p1 f (x :: xs) = (part p m1 p1 f x >>= fun ys => comp2 p m1 p1 f xs >>= fun zs => .ok (ys ++ zs)) := rfl
theorem comp2_tot (p : α → M Bool) (m1 : α → M (List γ)) (p1 : α → γ → M Bool) (f : α → γ → M β) : ∀ xs : List α, (comp2 p m1 p1 f xs).nb → ∃ ys, comp2 p m1 p1 f xs = .ok ys
  | [], _ => ⟨[], rfl⟩
  | x :: xs, h => by
    rw [comp2_cons] at h ⊢
    rcases part_tot p m1 p1 f x (nb1 h) with ⟨_, e⟩ | ⟨_, _, _, _, _, e⟩ <;>
    · rw [e] at h ⊢
      simp only [ok_bind] at h ⊢
      obtain ⟨ys, e2⟩ := comp2_tot p m1 p1 f xs (nb1 h)
      rw [e2]
      exact ⟨_, rfl⟩
theorem comp2_app (p : α → M Bool) (m1 : α → M (List γ)) (p1 : α → γ → M Bool) (f : α → γ → M β) : ∀ xs ys : List α, comp2 p m1 p1 f (xs ++ ys) = (comp2 p m1 p1 f xs >>= fun a => comp2 p m1 p1 f ys >>= fun b => .ok (a ++ b))
  | [], ys => by
    show _ = (M.ok [] >>= _)
    simp only [ok_bind, List.nil_append]
    cases comp2 p m1 p1 f ys <;> rfl
  | x :: xs, ys => by
    rw [List.cons_append]
    simp only [comp2, comp2_app p m1 p1 f xs ys, assoc, ok_bind, List.append_assoc]
end M
section
variable {tx : XC → Addr} {Y : YC} {Γ : List Cell} {α β γ : Type} {d : Dat α} {d1 : Dat γ} {d2 : Dat β} {g g1 : TG} {tt tt1 : TT} {te : TE} {ti ti1 : TI} {vs vs1 : List Nat}
theorem oe_lc2 {m0 : M (List α)} {p : α → M Bool} {m1 : α → M (List γ)} {p1 : α → γ → M Bool} {f : α → γ → M β} (hT : Tg g vs ∧ MoG g) (hT1 : Tg g1 vs1 ∧ MoG g1) (h : Iw tx Y ti Γ d m0)
    (hb : ∀ x, A (calm Y.g) g (wipeC Γ vs) d x fun Γ2 => Te tx (calm Y.g) tt Γ2 (p x) ∧ Iw tx (calm Y.g) ti1 Γ2 d1 (m1 x) ∧ ∀ z, A (calm Y.g) g1 (wipeC Γ2 vs1) d1 z fun Γ3 => Te tx (calm Y.g) tt1 Γ3 (p1 x z) ∧ We tx (calm Y.g) te Γ3 d2 (f x z)) :
    Oe tx Y (tLc2 ti g tt ti1 g1 tt1 te vs vs1) Γ (oList (d := d2)) (m0 >>= M.lc2 p m1 p1 f) := fun nb xk => o_lc2 (d1 := d1) hT.1 hT1.1 fun e F σ H s R q => h (M.nb1 nb) xk.l e F σ H s R fun J F1 H1 us xs Gd em hz gg hG w r => q J F1 H1 us xs Gd (by
  have nb2 : (M.lc2 p m1 p1 f xs).nb := M.nb2 nb em
  obtain ⟨tot, et⟩ := M.comp2_tot p m1 p1 f xs (M.nb1 nb2)
  have htl : tot.length ≤ PySem.sizeLine := by
    unfold M.lc2 at nb2
    rw [et] at nb2
    exact M.asrt_nb nb2
  have efin : (m0 >>= M.lc2 p m1 p1 f) = .ok tot := by
    rw [em]
    show M.lc2 p m1 p1 f xs = _
    unfold M.lc2
    rw [et]
    exact M.asrt_pos htl
  refine ⟨fun i ys => M.comp2 p m1 p1 f (xs.take i) = .ok ys, rfl, fun i x ys hx hi => ?_, fun ys hi => ?_⟩
  · have hlt : i < xs.length := (List.getElem?_eq_some_iff.mp hx).1
    have htk : xs.take (i + 1) = xs.take i ++ [x] := by rw [List.take_add_one, hx]; rfl
    have hdr : xs = xs.take i ++ (x :: xs.drop (i + 1)) := by
      have h1 : xs = xs.take (i + 1) ++ xs.drop (i + 1) := (List.take_append_drop _ _).symm
      rw [htk, List.append_assoc] at h1
      exact h1
    have e0 : M.comp2 p m1 p1 f xs = (M.part p m1 p1 f x >>= fun a => M.comp2 p m1 p1 f (xs.drop (i + 1)) >>= fun b => .ok (ys ++ (a ++ b))) := by
      conv => lhs; rw [hdr]
      rw [M.comp2_app, hi, M.comp2_cons]
      simp only [M.assoc, M.ok_bind]
    have e1 : M.comp2 p m1 p1 f (xs.take (i + 1)) = (M.part p m1 p1 f x >>= fun a => .ok (ys ++ a)) := by
      rw [htk, M.comp2_app, hi, M.comp2_cons]
      simp only [M.assoc, M.ok_bind, M.comp2, List.append_nil]
    have nbp : (M.part p m1 p1 f x).nb := fun z => by rw [z] at e0; rw [e0] at et; cases et
    have hpt := M.part_tot p m1 p1 f x nbp
    intro e2 F2 σ2 H2 v s2 r2 Q q2
    refine hb x e2 F2 σ2 H2 v s2 r2 Q fun σ' Γ' ⟨ht, hw, ha⟩ s' => q2 σ' Γ' ?_ s'
    have hpb : ∃ b, p x = .ok b := by
      rcases hpt with ⟨e3, _⟩ | ⟨_, _, e3, _⟩ <;> exact ⟨_, e3⟩
    obtain ⟨b, hb1⟩ := hpb
    refine t_mono (ht (by rw [hb1]; exact fun z => nomatch z) (by rw [hb1]; exact XkM.ok)) fun b' eb => ⟨fun z => ?_, fun z => ?_⟩
    · rw [hb1] at eb
      cases eb
      subst z
      rcases hpt with ⟨e3, _⟩ | ⟨zs, as, _, e4, e5, e6⟩
      · rw [hb1] at e3; cases e3
      rw [e6] at e0 e1
      simp only [M.ok_bind] at e0 e1
      have hpre : ∃ rest, tot = ys ++ (as ++ rest) := by
        rw [et] at e0
        cases hc : M.comp2 p m1 p1 f (xs.drop (i + 1)) with
        | ok rest => rw [hc] at e0; cases e0; exact ⟨rest, rfl⟩
        | bad => rw [hc] at e0; cases e0
        | exc z => rw [hc] at e0; cases e0
      intro e3 F3 σ3 H3 s3 R3 q3
      refine hw (by rw [e4]; exact fun z => nomatch z) (by rw [e4]; exact XkM.ok) e3 F3 σ3 H3 s3 R3 fun J1 F4 H4 us1 zs' Gd1 ez hz1 g4 hG1 w1 r1 => ?_
      rw [e4] at ez
      cases ez
      refine q3 J1 F4 H4 us1 zs Gd1 ⟨fun j ws => ∃ a, M.comp (p1 x) (f x) (zs.take j) = .ok a ∧ ws = ys ++ a, ⟨[], rfl, (List.append_nil _).symm⟩, fun j z ws hzj ⟨a, ea, ew⟩ => ?_, fun ws ⟨a, ea, ew⟩ => ?_⟩ hz1 g4 hG1 w1 r1
      · have hj : j < zs.length := (List.getElem?_eq_some_iff.mp hzj).1
        have hztk : zs.take (j + 1) = zs.take j ++ [z] := by rw [List.take_add_one, hzj]; rfl
        have e7 : M.comp (p1 x) (f x) (zs.take (j + 1)) = (M.comp (p1 x) (f x) [z] >>= fun b => .ok (a ++ b)) := by rw [hztk, M.comp_app, ea]; rfl
        have e8 : (M.comp (p1 x) (f x) [z] >>= fun b => M.comp (p1 x) (f x) (zs.drop (j + 1)) >>= fun c => .ok ((a ++ b) ++ c)) = .ok as := by
          rw [← e5]
          conv => rhs; rw [show zs = zs.take (j + 1) ++ zs.drop (j + 1) from (List.take_append_drop _ _).symm]
          rw [M.comp_app, e7]
          simp only [M.assoc, M.ok_bind]
        have nb3 : (M.comp (p1 x) (f x) [z]).nb := fun q => by rw [q] at e8; cases e8
        have hlen : ∀ bz, M.comp (p1 x) (f x) [z] = .ok bz → ys.length + a.length + bz.length ≤ PySem.sizeLine := fun bz ebz => by
          rw [ebz] at e8
          simp only [M.ok_bind] at e8
          obtain ⟨rest, er⟩ := hpre
          cases hc : M.comp (p1 x) (f x) (zs.drop (j + 1)) with
          | ok c =>
            rw [hc] at e8
            cases e8
            rw [er] at htl
            simp only [List.length_append] at htl
            omega
          | bad => rw [hc] at e8; cases e8
          | exc w => rw [hc] at e8; cases e8
        intro e9 F9 σ9 H9 v9 s9 r9 Q9 q9
        refine ha z e9 F9 σ9 H9 v9 s9 r9 Q9 fun σ10 Γ3 ⟨ht3, hw3⟩ s10 => q9 σ10 Γ3 ?_ s10
        simp only [M.comp] at nb3 e7 hlen
        obtain ⟨b2, hb2⟩ := M.calm_nb (M.nb1 nb3)
        rw [hb2] at nb3 e7 hlen
        simp only [M.calm_of_ok, M.ok_bind] at nb3 e7 hlen
        refine t_mono (ht3 (by rw [hb2]; exact fun z => nomatch z) (by rw [hb2]; exact XkM.ok)) fun b' eb => ⟨fun zz => ?_, fun zz => ?_⟩
        · rw [hb2] at eb
          cases eb
          subst zz
          rw [if_pos rfl] at nb3 e7 hlen
          obtain ⟨y, hy⟩ := M.calm_nb (M.nb1 nb3)
          rw [hy] at e7 hlen
          simp only [M.calm_of_ok, M.ok_bind] at e7 hlen
          refine w_mono (hw3 (by rw [hy]; exact fun z => nomatch z) (by rw [hy]; exact XkM.ok)) fun y' ey => ?_
          rw [hy] at ey
          cases ey
          have hl2 := hlen [y] rfl
          refine ⟨?_, a ++ [y], e7, by rw [ew, List.append_assoc]⟩
          rw [ew, List.length_append]
          simp only [List.length_singleton] at hl2
          omega
        · rw [hb2] at eb
          cases eb
          subst zz
          rw [if_neg (by simp)] at e7
          exact ⟨a, by rw [e7]; simp, ew⟩
      · rw [List.take_length, e5] at ea
        cases ea
        rw [e1, ew]
    · rw [hb1] at eb
      cases eb
      subst z
      rcases hpt with ⟨_, e6⟩ | ⟨_, _, e3, _⟩
      · rw [e1, e6]
        simp
      · rw [hb1] at e3; cases e3
  · have hi : M.comp2 p m1 p1 f (xs.take xs.length) = .ok ys := hi
    rw [List.take_length, et] at hi
    cases hi
    exact efin) hz gg hG w r
end
end G
end

/-! M23: == and != by an own __eq__. -/
namespace G
open PySem PySem.Spec PyProof.Rows L2 PySem.W
section
variable {X : Cx} {CXt : CXT} {k : Nat} {f C : Addr} {fd : FuncData} {ps : List Str} {sp : Sp}
/-- what stands at the right: an instance of the same class or a tuple -/
def EqArg (K : Frag) (C : Addr) (y : V) (H : Hp) : Prop := ∃ b, y = .ref b ∧ ((∃ dy gs, H b = some (.ins C dy gs)) ∨ (notFirst K C (.type "tuple") = true ∧ ∃ ys, TpA K H b ys))
theorem EqArg.mono {K : Frag} {C : Addr} {y : V} {F H : Hp} (h : EqArg K C y F) (s : Same F H) : EqArg K C y H := let ⟨b, e, h⟩ := h; ⟨b, e, h.imp (fun ⟨dy, gs, h⟩ => ⟨dy, gs, s _ _ h⟩) fun ⟨n, ys, h⟩ => ⟨n, ys, h.mono s⟩⟩
end
section
variable {X : Cx} {CXt : CXT} {k : Nat} {f C : Addr} {fd : FuncData} {ps : List Str} {sp : Sp}
end
section
variable {Y : YC} {Γ : List Cell} {ta tb : TE} {α β : Type} {d : Dat α} {d2 : Dat β} {C0 : Addr} {ns : List Str} {sp : Sp}
end
section
variable {tx : XC → Addr} {Y : YC} {Γ : List Cell} {t1 t2 : TE} {α1 α2 : Type} {d1 : Dat α1} {d2 : Dat α2} {m1 : M α1} {m2 : M α2} {C0 : Addr} {ns : List Str} {sp : Sp}
end
end G

/-! M24: an instance walked by its own __iter__ (iter of a tuple it holds). -/
namespace G
open PySem PySem.Spec PyProof.Rows L2 PySem.W
/-- a tuple's iterator, new -/
def ItTO (t it : Addr) : HO := .ext fun h => h.IsTupleIter it t 0
theorem itTO_ok {P : Program} {w : World} {H : Hp} {h : Heap} {t it : Addr} (e : h.IsTupleIter it t 0) : ObjOk P w H h it (ItTO t it) :=
  ⟨e, (let ⟨o, q, _⟩ := e; ⟨o, q⟩), fun _ _ p k => p.at fun o q => k o q⟩
def rIterT (n : Nat) (K : Frag) : List V → Hp → VK → Prop := fun xs H Q => ∃ (t : Addr) (zs : List V), xs = [.ref t] ∧ SqT K H t zs ∧ ∀ it, n ≤ it → H it = Option.none → Q (.ref it) (upd H it (ItTO t it))
/-- what an __iter__ promises: an iterator over the tuple at f, not older than n -/
def spIter (n : Nat) (K : Frag) (C : Addr) (f : Str) : Sp := fun vs H Q _ => ∃ (a dx : Addr) (fs : List (Str × V)) (t : Addr) (zs : List V), vs = [.ref a] ∧ H a = some (.ins C dx fs) ∧ fs.lookup f = some (.ref t) ∧ SqT K H t zs ∧ ∀ it, n ≤ it → H it = Option.none → Q (.ref it) (upd H it (ItTO t it))
theorem spIter_len {n : Nat} {K : Frag} {C : Addr} {f : Str} {vs H Q E} (h : spIter n K C f vs H Q E) : vs.length = 1 := by
  obtain ⟨_, _, _, _, _, rfl, _⟩ := h
  rfl
section
variable {X : Cx}
theorem call_iter_tup {prog : Program} {w : World} {A : Around} {E : Value → Shared → Prop} {s : Shared} {l : Addr} {items : Array Value} {Q : Value → Shared → Prop} (hl : s.heap.IsTuple l items)
    (h : Q (.ref s.heap.objs.size) { s with heap := s.heap.push { cls := .type "tuple_iterator", data := .fields #[.ref l, .int 0 0] } }) : wpAny (model prog w) A (call (.builtin "iter") [.ref l]) Q E s := by
  refine Calls.call_function_entry (by decide +kernel) (by decide +kernel) PySem.W.kdk_entry_iter (PySem.W.kdk_args_iter _) ?_
  unfold Builtin.«iter»
  refine wpAny_bind (m := someArgs "iter" 1 2 _) (wpAny_of_eq (a := [Value.ref l]) (by first | rfl | kernel_rfl!) ?_)
  show wpAny _ _ (pyIter (.ref l) >>= _) _ _ _
  refine wpAny_bind (wpAny_pyIter_tuple hl ?_)
  exact wpAny_pure ⟨_, rfl, h⟩
theorem iter_tK {K : Frag} (h : X.K = K := by rfl) : CallR X (.builtin "iter") (rIterT X.s_0.heap.objs.size K) := by
  subst h
  intro pins s σ H xs us Q I r h
  obtain ⟨t, zs, rfl, hq, q⟩ := h
  obtain ⟨u, rfl, ru⟩ := r.one
  cases ru
  obtain ⟨its, rv, pl, hz⟩ := I.tuple hq
  refine call_iter_tup (show s.heap.IsTuple t its.toArray from pl) ?_
  exact ⟨.ref s.heap.objs.size, _, I.laid (t' := s.toks) (fun b u e => Heap.get?_push_of_some _ e) (Nat.le_refl _) (itTO_ok ⟨_, Heap.get?_push_size _ rfl, rfl, rfl⟩), rfl, q _ I.sz (I.hok.fresh (Nat.le_refl _))⟩
end
/-- a def whose promise may name the place where the heap ended as it was called -/
structure FnN (P : Program) (w : World) (K : Frag) (mg : Str → Option Value) (base : Heap) (CX : CXT) (k : Nat) (f : Addr) (fd : FuncData) (ps : List Str) (sp : Nat → Sp) : Prop where
  len : ∀ n vs H Q E, sp n vs H Q E → vs.length = ps.length
  run : ∀ (A : Around) (out : List Env) (s : Shared) (H : Hp) (args : Args) (us : List Value) (vs : List V) (Q : VK) (E : XK), Room k A → Env0 P w K mg base A out s H → BindsTo s fd args (ps.zip us) → Vals vs us → sp s.heap.objs.size vs H Q E →
    codeAny (model P w) A (.call (.ref f) args) (CR CX out P w H s Q E) s
theorem fnN {P : Program} {w : World} {K : Frag} {mg : Str → Option Value} {base : Heap} {x qual : Str} {st : Stmt} {f : Addr} {fd : FuncData} {N ps : List Str} {k : Nat} {sp : Nat → Sp} (F : L2.Fun K x qual st f fd) (S : FnScope N ps (defScope st)) (len : ∀ n vs H Q E, sp n vs H Q E → vs.length = ps.length)
    (body : ∀ (cdv : Value) (A : Around) (out : List Env) (s : Shared) (H : Hp) (vs : List V) (Q : VK) (E : XK), Room k (A.deeper (envOfC qual (defScope st) s.heap.objs.size f cdv)) → sp s.heap.objs.size vs H Q E →
      ∃ t, PSs (cxOf (L2.CX P w) P w K mg base N qual (defScope st) f cdv A out s H E) (defBody st) t ∧ t { nx := fun _ H' => Q .non H', rt := Q } (L2.start N vs) H) : FnN P w K mg base (L2.CX P w) (k + 1) f fd ps sp := by
  obtain ⟨oc, od, kV, doc, pm, an, cdv, ct, osl, e, lk, hcd⟩ := F.ex
  subst e
  constructor
  · exact len
  · intro A out s H args us vs Q E hr e0 hb r hsp
    have hlen := len _ _ _ _ _ hsp
    have inK : K.In s.heap := e0.mod.kin.keeps fun b o z => (e0.bs b o z).1
    have nol : s.heap.NoLimit := e0.mod.nolimit.keeps fun b o z => (e0.bs b o z).1
    have kinds : ∀ y ∈ ps.zip us, (defScope st).names.lookup y.1 = some .local ∨ ((defScope st).names.lookup y.1 = some .cell ∧ ((cellsFrom (s.heap.objs.size + 1) (defScope st).names []).lookup y.1).isSome = true) := by
      rintro ⟨n, v⟩ hy
      exact (S.par n (List.of_mem_zip hy).1).imp id fun q => ⟨q, PySem.W.cellsFrom_some _ _ _ (.inl q)⟩
    obtain ⟨t, ht, ht2⟩ := body cdv A out s H vs Q E (hr.deeper _) hsp
    refine codeAny_call_function hr.depth (inK _ _ lk) rfl S.co S.gen rfl (PySem.W.codeRec_of inK hcd) (hb _ _ _ _ (wpAny_newFunctionEnv_cells S.kind kinds fun env he s1 q => ?_))
    cases he
    refine ⟨nol.keeps q.toInCall.keep, codeAny_func (wpAny_mono (ht.run [] s1 (L2.start N vs) H _ (inv_start S hr.hd e0 hlen r q) ht2) (fun fl s2 z => ?_) fun _ _ z => z)⟩
    match fl, z with
    | .ret u, ⟨v, σ2, H2, J, rv, z⟩ => exact ⟨v, H2, J.os, J.bare, J.base, J.hok, rv, z⟩
    | .next, ⟨σ2, H2, J, z⟩ => exact ⟨.non, H2, J.os, J.bare, J.base, J.hok, rfl, z⟩
    | .brk, ⟨_, _, _, z⟩ => exact False.elim z
    | .cont, ⟨_, _, _, z⟩ => exact False.elim z
section
variable {X : Cx} {CXt : CXT} {k : Nat} {g C : Addr} {fd : FuncData} {ps : List Str} {f : Str} {e tg : Expr} {te : TE}
def tFldC (C : Addr) (te : TE) (f : Str) : TE := fun σ H Q => te σ H fun x H1 => ∃ a dx fs v, x = .ref a ∧ H1 a = some (.ins C dx fs) ∧ fs.lookup f = some v ∧ Q v H1
theorem pi_own (he : PE X e te) (c : Meth X.K C "__iter__" g) (F : FnN X.prog X.w X.K X.mg X.base CXt k g fd ps (fun n => spIter n X.K C f)) (hr : Room k X.A) (hb : Binds X.K fd ps []) (hx : ∀ σ, PassesAt CXt X σ EF) : PI X tg e (iTup X.K (tFldC C te f)) := by
  refine ⟨fun pins s σ H R I h => ?_⟩
  refine thn (he.run pins s σ H _ I h) fun v s1 ⟨x, H1, I1, r1, q1⟩ => ?_
  obtain ⟨a, dx, fs, y, ex, ea, el, t, ey, ⟨zs, hq⟩, q⟩ := q1
  subst ex
  subst ey
  obtain rfl : v = Value.ref a := r1
  obtain ⟨ox, od, J⟩ := inst_of I1 ea
  obtain ⟨mm, fr⟩ := I1.fr
  refine owit_iter fr I.ok.mod.kin J c.at_ c.fn ?_
  have hsp : spIter s1.heap.objs.size X.K C f [.ref a] H1 (fun r H2 => ∃ it, s1.heap.objs.size ≤ it ∧ H1 it = Option.none ∧ r = .ref it ∧ H2 = upd H1 it (ItTO t it)) EF := ⟨a, dx, fs, t, zs, rfl, ea, el, hq, fun it hy hn => ⟨it, hy, hn, rfl, rfl⟩⟩
  have r2 : Vals [V.ref a] [Value.ref a] := .cons rfl .nil
  have hl2 : [Value.ref a].length = ps.length := by simpa using F.len _ _ _ _ _ hsp
  refine wpAny_call (codeAny_mono (F.run X.A X.stack s1 H1 ⟨[.ref a], []⟩ [.ref a] [.ref a] _ EF hr I1.env0 (hb s1 _ I1.kIn hl2) r2 hsp) fun r s2 hq2 => ?_)
  cases r with
  | error e => exact hx σ pins H1 s1 e s2 I1 hq2
  | ok fl =>
    cases fl with
    | ret u =>
      obtain ⟨z, H', os, bare, un, hok, rv, it, young, hn, ez, eH⟩ := hq2
      subst ez
      subst eH
      obtain rfl : u = Value.ref it := rv
      obtain ⟨hh, g', d', t', os'⟩ := s2
      obtain rfl : os' = s1.os := os
      have I2 : Inv X pins σ (upd H1 it (ItTO t it)) ⟨hh, g', d', t', s1.os⟩ := I1.call (h' := hh) (g' := g') (d' := d') (t' := t') (ch := []) un hok bare (fun b z => absurd z (by simp))
      have φ : hh.IsTupleIter it t 0 := (I2.hok it _ upd_same).1
      have hT : Shared.TypeIs ⟨hh, g', d', t', s1.os⟩ (.ref it) "tuple_iterator" := φ.typeIs
      unfold OwitIt
      refine wpAny_specialOf (name := Str.ofString "__next__") hT PySem.F.slot_tuple_iterator_next.lookup ?_
      have I3 := ItX.inv_drop I2 upd_same
      rw [ItX.dropH_upd hn] at I3
      have fp := ItX.inv_fp I2 upd_same (Nat.le_trans I1.sz young)
      rw [ItX.dropH_upd hn] at fp
      refine ⟨it, [it], _, _, H1, rfl, I3, turn_tuple t it, φ, fun b hb => ?_, q⟩
      have eb : b = it := by simpa using hb
      subst eb
      exact fp
    | next => exact False.elim hq2
    | brk => exact False.elim hq2
    | cont => exact False.elim hq2
end
section
variable {Y : YC} {Γ : List Cell} {te : TE} {α β : Type} {d : Dat α} {d2 : Dat β} {C0 : Addr} {f : Str}
theorem w_fldC {g : α → β} {kx : β → Prop} (hf : IsF d C0 f d2 g) (h : W Y te Γ d fun x => kx (g x)) : W Y (tFldC C0 te f) Γ d2 kx := fun e F σ H s Q q => h e F σ H s _ fun v F' H' x kx' gr r => by
  obtain ⟨p, dx, fs, v2, e1, e2, e3, r2⟩ := hf.fld r
  exact ⟨p, dx, fs, v2, e1, gr.fh _ _ e2, e3, q v2 F' H' _ kx' gr r2⟩
variable {tx : XC → Addr}
theorem we_fldC {g : α → β} {m : M α} (hf : IsF d C0 f d2 g) (h : We tx Y te Γ d m) : We tx Y (tFldC C0 te f) Γ d2 (m >>= fun x => .ok (g x)) := we_p1w (f := g) (fun k h => w_fldC hf h) h
end
/-- the body of an __iter__ -/
theorem iter_body {n : Nat} {K : Frag} {C : Addr} {f : Str} {N : List Str} {vs : List V} {H : Hp} {Q : VK} {E : XK} (c : Cls K C) (na : NoAttr K C f) (hN : N.length = 1) (h : spIter n K C f vs H Q E) : tRet (tCB (rIterT n K) (tCons (tFld K (tVar 0) f) tNil)) { nx := fun _ H' => Q .non H', rt := Q } (L2.start N vs) H := by
  obtain ⟨a, dx, fs, t, zs, rfl, ea, el, hq, q⟩ := h
  refine ⟨.ref a, by rfl, a, C, dx, fs, .ref t, rfl, ea, c, na, el, ?_⟩
  exact ⟨t, zs, rfl, hq, q⟩
end G

noncomputable section
/-! M25: mixed data: an instance or plain data; tuples of them. -/
namespace G
open PySem PySem.Spec PyProof.Rows L2 PySem.W
@[reducible] def Mix (β : Type) := Sum β PyData
@[reducible] def dMix {β : Type} (d : Dat β) : Dat (Mix β) := ⟨fun C F v x => match x with
  | .inl y => d.rep C F v y
  | .inr u => DU C F u v, fun {C F F' v x} s h => match x, h with
  | .inl _, h => d.mono s h
  | .inr _, h => DU.mono s _ _ h⟩
section
variable {α β γ α2 β2 : Type} {d : Dat α} {d2 : Dat β} {d3 : Dat γ} {e1 : Dat α2} {e2 : Dat β2}
end
section
variable {tx : XC → Addr} {Y : YC} {Γ : List Cell} {te : TE} {α β : Type} {d : Dat α} {d2 : Dat β}
end
end G
end

noncomputable section
/-! M26: xs += ys (lists), xs.reverse(). -/
namespace G
open PySem PySem.Spec PyProof.Rows L2 PySem.W
section
variable {Y : YC} {Γ : List Cell} {te : TE} {α : Type} {d : Dat α} {k : Ks}
theorem ip_ext {X : Cx} : PIp X .Add rExt2 := iop_ext
theorem z_extO {pin : Option V} {i : Nat} {xs : List α} (hi : Γ[i]? = some (.own (dList (d := d)) (oList (d := d)) pin xs)) (h : O Y te Γ (oList (d := d)) fun ys => xs.length + ys.length ≤ PySem.sizeLine ∧ k.nx (Γ.set i (.own (dList (d := d)) (oList (d := d)) pin (xs ++ ys)))) :
    Z Y (tAug i te rExt2) Γ k := fun e F σ H D hM s c => by
  obtain ⟨v0, _, _, e1, ⟨a0, vs0, rfl, rfl, _⟩, kw0, _⟩ := s.mut hi
  refine ⟨.ref a0, e1, h e F σ H s _ fun w F' H' L' ys ⟨hl, ky⟩ g ⟨b, zs, ew, eL, rw'⟩ => ?_⟩
  subst ew
  subst eL
  obtain ⟨hx, L, k0, sl0⟩ := id s
  obtain ⟨o0, P1, Pi, P2, f1, f2, ⟨u0, rfl, hp0, a, vs, rfl, rfl, r⟩, f4⟩ := sl0.get hi
  rw [e1] at f1
  cases (Option.some.inj f1)
  subst f2
  have k1 := k0.trans g
  have ha : H' a0 = some (.lst vs) := (k1.ow (a0, .lst vs) (by simp)).2.1
  have hb : H' b = some (.lst zs) := (k1.ow (b, .lst zs) (by simp)).2.1
  refine ⟨a0, b, vs, zs, rfl, rfl, ha, hb, by rw [r.len, rw'.len]; exact hl, ?_⟩
  have q6 := f4 F' (some (.ref a0)) (.own (dList (d := d)) (oList (d := d)) pin (xs ++ ys)) [(a0, .lst (vs ++ zs))] g.ff ⟨.ref a0, rfl, hp0, a0, _, rfl, rfl, (r.mono g.ff).append rw'⟩
  refine c.nx F' _ _ _ ky ⟨hx, _, ?_, q6⟩
  have k2 : Wk e F' (([(b, .lst zs)] ++ P1) ++ [(a0, .lst vs)] ++ P2) H' := by simpa [List.append_assoc] using k1
  have k3 := k2.front.put (o' := .lst (vs ++ zs)) (fun _ z => by cases z)
  refine k3.sub (fun p hp => ?_) ?_
  · simp only [List.mem_cons, List.mem_append, List.not_mem_nil, or_false] at hp ⊢
    rcases hp with (h | h) | h <;> simp [h]
  · have n3 := k3.nd
    have n4 : (a0 ∉ (b :: (P1.map Prod.fst ++ P2.map Prod.fst))) ∧ b ∉ (P1.map Prod.fst ++ P2.map Prod.fst) ∧ (P1.map Prod.fst ++ P2.map Prod.fst).Nodup := by simpa using n3
    have n5 : (P1.map Prod.fst ++ a0 :: P2.map Prod.fst).Nodup := (List.Perm.nodup_iff List.perm_middle).mpr (List.nodup_cons.mpr ⟨fun z => n4.1 (List.mem_cons_of_mem _ z), n4.2.2⟩)
    simpa using n5
end
section
variable {tx : XC → Addr} {Y : YC} {Γ : List Cell} {te : TE} {α τ : Type} {d : Dat α} {K : Kt τ} {rest : TS} {js : List Nat}
def M.ext {α : Type} (xs : List α) (m : M (List α)) : M (List α) := m >>= fun ys => M.asrt (xs.length + ys.length ≤ PySem.sizeLine) (.ok (xs ++ ys))
theorem zm_extO {pin : Option V} {i : Nat} {xs : List α} {m1 : M (List α)} {m2 : List α → M τ} (hi : Γ[i]? = some (.own (dList (d := d)) (oList (d := d)) pin xs)) (hj : i ∈ js) (h : Oe tx Y te Γ (oList (d := d)) m1) (h2 : ∀ ys, Zm tx Y js rest (Γ.set i (.own (dList (d := d)) (oList (d := d)) pin ys)) K (m2 ys)) :
    Zm tx Y js (tSeq (tAug i te rExt2) rest) Γ K (M.ext xs m1 >>= m2) := fun nb xk =>
  z_seq (z_extO hi (o_mono (h (M.nb1 (M.nb1 nb)) fun x e => xk.here x (by unfold M.ext; rw [e]; rfl)) fun y e => by
    have nb1 : (M.ext xs m1).nb := M.nb1 nb
    unfold M.ext at nb1
    rw [e] at nb1
    have hl := M.asrt_nb nb1
    exact ⟨hl, (h2 (xs ++ y)).go nb xk (by unfold M.ext; rw [e]; exact M.asrt_pos hl) (wipeC_set hj)⟩))
end
end G
end

noncomputable section
/-! M27: xs.count(b) of bools. -/
namespace G
open PySem PySem.Spec PyProof.Rows L2 PySem.W
def eqb (k : Bool) (v : Value) : Bool := match v with
  | .bool b => b == k
  | _ => false
def rCntB (K : Frag) : V → List V → Hp → VK → Prop := fun x xs H Q => ∃ (p : Addr) (bs : List Bool) (k : Bool), x = .ref p ∧ xs = [.bl k] ∧ SqL K H p (bs.map V.bl) ∧ Q (.int (bs.count k : Nat)) H
theorem bools_of : ∀ {bs : List Bool} {us : List Value}, Vals (bs.map V.bl) us → us = bs.map Value.bool
  | [], _, .nil => rfl
  | b :: bs, _, .cons r rr => by
    rw [bools_of rr]
    obtain rfl : _ = Value.bool b := r
    rfl
section
variable {X : Cx}
theorem mt_lcountB : MtR X "list.count" (rCntB X.K) := by
  intro pins s σ H x xs v us Q I rx rxs h
  obtain ⟨p, bs, k, rfl, rfl, hs, q⟩ := h
  cases rx
  obtain ⟨u, rfl, ru⟩ := rxs.one
  obtain rfl : u = Value.bool k := ru
  obtain ⟨its, rv, ⟨⟨cls, dd, data, sl⟩, n, ho, hc, hdn, hd⟩, hlen⟩ := I.list hs
  simp only at hc hd
  subst hc hd
  have hi := bools_of rv
  subst hi
  refine call_meets PySem.F.slot_list_count ⟨_, ho, rfl⟩ PySem.F.entry_list_count (PySem.F.args_list_count_2 _ _)
    (SeqAt.list_countAt p _ n dd sl (.bool k) (eqb k)) ⟨ho, fun y hy => ?_, ?_⟩
  · obtain ⟨b, hb, rfl⟩ := List.mem_map.mp (by simpa using hy : y ∈ bs.map Value.bool)
    exact eqAt_V (y := .bl b) (x := .bl k) rfl rfl rfl rfl
  have ec : ∀ bs : List Bool, (bs.map Value.bool).countP (eqb k) = bs.count k := by
    intro bs
    induction bs with
    | nil => rfl
    | cons b bs ih => rw [List.map_cons, List.countP_cons, List.count_cons, ih]; rfl
  refine ⟨.int (bs.count k : Nat), H, I.tok _, ⟨s.toks, ?_⟩, q⟩
  show Value.int ((List.countP (eqb k) (bs.map Value.bool).toArray.toList : Nat) : Int) s.toks = _
  rw [show (bs.map Value.bool).toArray.toList = bs.map Value.bool by simp, ec]
theorem lcountB_K (K : Frag) (h : X.K = K := by rfl) : MtR X "list.count" (rCntB K) := h ▸ mt_lcountB
end
section
variable {tx : XC → Addr} {Y : YC} {Γ : List Cell} {ta tb : TE}
theorem reps_bl {C : GCtx} {F : Hp} : ∀ {vs : List V} {bs : List Bool}, Reps dBool C F vs bs → vs = bs.map V.bl
  | [], [], _ => rfl
  | v :: vs, b :: bs, h => by
    rw [reps_bl h.2]
    obtain rfl : v = V.bl b := h.1
    rfl
  | [], _ :: _, h => h.elim
  | _ :: _, [], h => h.elim
theorem w_countB {k : Int → Prop} (h : W Y ta Γ (dList (d := dBool)) fun bs => W Y tb Γ dBool fun b => k (bs.count b : Nat)) : W Y (tBM Y.K "list" (rCntB Y.K) ta (tCons tb tNil)) Γ dInt k := fun e F σ H s Q q => h e F σ H s _ fun v1 F1 H1 bs h1 g1 ⟨a, vs, e1, hs, r⟩ => by
  subst e1
  refine ⟨.inl ⟨rfl, vs, g1.fh.seq hs⟩, h1 e F1 σ H1 (s.grow g1) _ fun v2 F2 H2 b hk g2 r2 => ?_⟩
  cases (show v2 = .bl b from r2)
  have hv := reps_bl r
  exact ⟨a, bs, b, rfl, rfl, hv ▸ (g1.fh.trans g2.hh0).seq hs, q _ F2 H2 _ hk (g1.trans0 g2) rfl⟩
theorem we_countB {m : M (List Bool)} {n : M Bool} (h : We tx Y ta Γ (dList (d := dBool)) m) (h2 : We tx Y tb Γ dBool n) : We tx Y (tBM Y.K "list" (rCntB Y.K) ta (tCons tb tNil)) Γ dInt (m >>= fun bs => n >>= fun b => .ok (bs.count b : Int)) := fun nb xk =>
  w_countB (h.k nb xk fun x e nb xk => h2.k nb xk fun y e2 nb xk => by rw [e]; show (n >>= _) = _; rw [e2]; rfl)
end
section
variable {α β γ δ : Type} {d : Dat α} {d2 : Dat β} {d3 : Dat γ} {d4 : Dat δ}
end
section
variable {tx : XC → Addr} {Y : YC} {Γ : List Cell} {ta : TE}
theorem reps_int {C : GCtx} {F : Hp} : ∀ xs : List Int, Reps dInt C F (xs.map V.int) xs
  | [] => trivial
  | x :: xs => ⟨rfl, reps_int xs⟩
theorem iw_range {m : M Int} (h : Re tx Y ta Γ dInt m) : Iw tx Y (iRng1 (tCons ta tNil)) Γ dInt (m >>= M.range) := fun nb xk e F σ H s R q =>
  (h.k nb xk (k := fun n => m = .ok n ∧ (-(2 ^ 62) ≤ n ∧ n ≤ PySem.sizeLine)) fun n en nb2 _ => ⟨en, M.asrt_nb nb2⟩) e F σ H s _ fun v F1 H1 n ⟨en, hp⟩ g1 r1 => by
    cases (show v = .int n from r1)
    refine ⟨n, rfl, hp.1, Int.lt_of_le_of_lt hp.2 (by decide), ?_⟩
    refine q _ F1 H1 ((rngL 0 n.toNat).map V.int) (rngL 0 n.toNat) (fun _ => True) (by rw [en]; exact M.asrt_pos hp) (by rw [rngL_len]; have := hp.2; omega) g1 (fun _ _ => trivial) ?_ (reps_int _)
    rw [List.length_map, rngL_len]
    refine ⟨fun _ _ hi _ => hi, fun _ _ => Nat.le_refl _, fun i H x H' hi _ y => ⟨y.1, ?_⟩⟩
    have hx : x = .int (0 + i) := y.2
    rw [hx, List.getElem?_map, ← rng_get 0 n.toNat i]
    unfold rng
    rw [if_pos hi]
    rfl
end
end G
end

noncomputable section
/-! M28: defs that change two of their arguments. -/
namespace G
open PySem PySem.Spec PyProof.Rows L2 PySem.W
theorem Wk.perm2 {e : En} {F H : Hp} {L L' : LO} (a : Wk e F L H) (p : L.Perm L') : Wk e F L' H :=
  a.sub (fun _ h => p.mem_iff.mpr h) ((p.map Prod.fst).nodup_iff.mp a.nd)
section
variable {tx : XC → Addr} {Y : YC} {Γ : List Cell} {te : TE} {tr tl : TA} {α1 α2 β τ σ : Type} {d1 : Dat α1} {d2 : Dat α2} {rest : TS} {js : List Nat} {K : Kt τ}
theorem set_set_ne {γ : Type _} {xs : List γ} {i j : Nat} {a b : γ} (h : i ≠ j) : (xs.set i a).set j b = (xs.set j b).set i a := List.set_comm _ _ h
/-! ### the body of such a def -/
end
end G
end

noncomputable section
/-! M29: class methods: C.m(..) and cls(..) within. -/
namespace G
open PySem PySem.Spec PyProof.Rows L2 PySem.W ClX
section
variable {X : Cx} {CXt : CXT} {k i : Nat} {C p g f : Addr} {mc : Value} {fd : FuncData} {ps : List Str} {sp : Sp} {E : L2.St → XK} {o e : Expr} {es : List Expr} {m x : Str} {pos apos np : Pos} {ta : TE} {t : TA} {pl : Sem Bool}
end
/-- the class itself, in a name -/
@[reducible] def dCls (C0 : Addr) : Dat Unit := ⟨fun _ _ v _ => v = .ref C0, fun _ h => h⟩
section
variable {tx : XC → Addr} {Y : YC} {Γ : List Cell} {te : TE} {tl : TA} {α β : Type} {d : Dat β} {sp : Sp} {E : _root_.L2.St → XK} {C0 : Addr}
end
end G
end

noncomputable section
/-! M30: plain data without lists (what a call may give while names are borrowed); calls within an except suite of defs that raise nothing. -/
namespace G
open PySem PySem.Spec PyProof.Rows L2 PySem.W
instance oimOb2 {α β : Type} {d1 : Dat α} {d2 : Dat β} [i1 : @Imm α d1] [i2 : @Imm β d2] {C0 : Addr} {f1 f2 : Str} : @OIm (Ob2 α β) (dOb2 (d1 := d1) (d2 := d2) C0 f1 f2) (oOb2 (d1 := d1) (d2 := d2) C0 f1 f2) :=
  @OIm.mk _ (dOb2 (d1 := d1) (d2 := d2) C0 f1 f2) (oOb2 (d1 := d1) (d2 := d2) C0 f1 f2) (fun t ⟨p, dx, v1, v2, e, h, r1, r2⟩ => ⟨p, dx, v1, v2, e, h, i1.imm t r1, i2.imm t r2⟩)
instance oimOb1 {α : Type} {d1 : Dat α} [i1 : @Imm α d1] {C0 : Addr} {f1 : Str} : @OIm (Ob1 α) (dOb1 (d1 := d1) C0 f1) (oOb1 (d1 := d1) C0 f1) :=
  @OIm.mk _ (dOb1 (d1 := d1) C0 f1) (oOb1 (d1 := d1) C0 f1) (fun t ⟨p, dx, v1, e, h, r1⟩ => ⟨p, dx, v1, e, h, i1.imm t r1⟩)
/-! ### without lists -/
mutual
def noL : PyData → Bool
  | .list _ => false
  | .tuple ds => noLs ds
  | .dict _ => false
  | _ => true
def noLs : List PyData → Bool
  | [] => true
  | d :: ds => noL d && noLs ds
end
mutual
theorem DU.imm {C : GCtx} {F H : Hp} (t : ∀ a xs, H a = some (.tup xs) → F a = some (.tup xs)) : ∀ (x : PyData) (v : V), noL x = true → DU C H x v → DU C F x v
  | .none, _, _, h => h
  | .bool _, _, _, h => h
  | .int _, _, _, h => h
  | .str _, _, _, h => h
  | .list _, _, n, _ => by cases n
  | .tuple ds, v, n, ⟨a, vs, e, h, r⟩ => ⟨a, vs, e, h.imp (t a _) id, DUs.imm t ds vs n r⟩
  | .dict _, _, _, h => h.elim
theorem DUs.imm {C : GCtx} {F H : Hp} (t : ∀ a xs, H a = some (.tup xs) → F a = some (.tup xs)) : ∀ (xs : List PyData) (vs : List V), noLs xs = true → DUs C H xs vs → DUs C F xs vs
  | [], [], _, h => h
  | d :: ds, v :: vs, n, h => by
    have n2 : (noL d && noLs ds) = true := n
    rw [Bool.and_eq_true] at n2
    exact ⟨DU.imm t d v n2.1 h.1, DUs.imm t ds vs n2.2 h.2⟩
  | [], _ :: _, _, h => h.elim
  | _ :: _, [], _, h => h.elim
end
@[reducible] def dUI : Dat PyData := ⟨fun C F v x => noL x = true ∧ DU C F x v, fun s ⟨n, h⟩ => ⟨n, DU.mono s _ _ h⟩⟩
instance imUI : @Imm PyData dUI := @Imm.mk PyData dUI fun t ⟨n, h⟩ => ⟨n, DU.imm t _ _ n h⟩
class UI (α : Type) [d : Dat α] [u : UD α] : Prop where
  no : ∀ x : α, noL (u.toU x) = true
instance uiInt : UI Int := ⟨fun _ => rfl⟩
instance uiBool : UI Bool := ⟨fun _ => rfl⟩
instance uiStr : UI Str := ⟨fun _ => rfl⟩
instance uiUnit : UI Unit := ⟨fun _ => rfl⟩
theorem noLs_map {α : Type} {d : Dat α} [u : @UD α d] [n : @UI α d u] : ∀ xs : List α, noLs (xs.map u.toU) = true
  | [] => rfl
  | x :: xs => by show (noL _ && noLs _) = true; rw [n.no x, noLs_map xs]; rfl
instance uiTup {α : Type} {d : Dat α} [u : @UD α d] [n : @UI α d u] : @UI (Tup α) dTup udTup := @UI.mk _ dTup udTup fun x => noLs_map x.l
instance uiPair {α β : Type} {d1 : Dat α} {d2 : Dat β} [u1 : @UD α d1] [u2 : @UD β d2] [n1 : @UI α d1 u1] [n2 : @UI β d2 u2] : @UI (α × β) dPair udPair := @UI.mk _ dPair udPair fun x => by
  show (noL _ && (noL _ && true)) = true
  rw [n1.no, n2.no]; rfl
instance uiT3 {α β γ : Type} {d1 : Dat α} {d2 : Dat β} {d3 : Dat γ} [u1 : @UD α d1] [u2 : @UD β d2] [u3 : @UD γ d3] [n1 : @UI α d1 u1] [n2 : @UI β d2 u2] [n3 : @UI γ d3 u3] : @UI (T3 α β γ) dT3 udT3 := @UI.mk _ dT3 udT3 fun x => by
  show (noL _ && (noL _ && (noL _ && true))) = true
  rw [n1.no, n2.no, n3.no]; rfl
instance uiT4 {α β γ δ : Type} {d1 : Dat α} {d2 : Dat β} {d3 : Dat γ} {d4 : Dat δ} [u1 : @UD α d1] [u2 : @UD β d2] [u3 : @UD γ d3] [u4 : @UD δ d4] [n1 : @UI α d1 u1] [n2 : @UI β d2 u2] [n3 : @UI γ d3 u3] [n4 : @UI δ d4 u4] : @UI (T4 α β γ δ) dT4 udT4 := @UI.mk _ dT4 udT4 fun x => by
  show (noL _ && (noL _ && (noL _ && (noL _ && true)))) = true
  rw [n1.no, n2.no, n3.no, n4.no]; rfl
section
variable {tx : XC → Addr} {Y : YC} {Γ : List Cell} {te : TE} {α : Type} {d : Dat α}
theorem w_UI [u : @UD α d] [n : @UI α d u] {k : PyData → Prop} (h : W Y te Γ d fun x => k (u.toU x)) : W Y te Γ dUI k := fun e F σ H s Q q => h e F σ H s Q fun v F' H' x kx g r => q v F' H' _ kx g ⟨n.no x, u.du r⟩
theorem we_UI [u : @UD α d] [n : @UI α d u] {m : M α} (h : We tx Y te Γ d m) : We tx Y te Γ dUI (m >>= fun x => .ok (u.toU x)) := we_p1w (f := u.toU) (fun k h => w_UI h) h
end
end G
namespace L2
open PySem PySem.Spec PyProof.Rows
/-! ### calls in a suite -/
def cxC (CX : CXT) (P : Program) (w : World) (K : PySem.W.Frag) (mg : Str → Option Value) (base : Heap) (N : List Str) (qual : Str) (scope : Scope) (f : Addr) (cd : Value) (A : Around) (outer : List Env) (s : Shared) (H : Hp) (E : XK) : Cx :=
  { cxOf CX P w K mg base N qual scope f cd A outer s H E with calm := false }
section
variable {X : Cx} {CXt : CXT} {k : Nat} {f : Addr} {fd : FuncData} {ps : List Str} {sp : Sp} {E : L2.St → XK} {x : Str} {q pos : Pos} {e : Expr} {es : List Expr} {t : TA}
end
end L2
end

noncomputable section
/-! M31: results that hold instances, while lists are borrowed. -/
namespace G
open PySem PySem.Spec PyProof.Rows L2 PySem.W
def TI (o : HO) : Prop := (∃ xs, o = .tup xs) ∨ ∃ C dx fs, o = .ins C dx fs
class ImmI (α : Type) [d : Dat α] : Prop where
  immI : ∀ {C : GCtx} {F H : Hp} {v : V} {x : α}, (∀ a o, H a = some o → TI o → F a = some o) → d.rep C H v x → d.rep C F v x
theorem Reps.immI {α : Type} {d : Dat α} [i : @ImmI α d] {C : GCtx} {F H : Hp} (t : ∀ a o, H a = some o → TI o → F a = some o) : ∀ {vs : List V} {xs : List α}, Reps d C H vs xs → Reps d C F vs xs
  | [], [], _ => trivial
  | _ :: _, _ :: _, h => ⟨i.immI t h.1, Reps.immI t h.2⟩
  | [], _ :: _, h => h.elim
  | _ :: _, [], h => h.elim
instance (priority := low) immI_of {α : Type} {d : Dat α} [i : @Imm α d] : @ImmI α d := @ImmI.mk α d fun t r => i.imm (fun a xs h => t a _ h (.inl ⟨xs, rfl⟩)) r
instance immITup {α : Type} {d : Dat α} [i : @ImmI α d] : @ImmI (Tup α) (dTup (d := d)) := @ImmI.mk _ (dTup (d := d)) fun t ⟨a, vs, e, h, r⟩ => ⟨a, vs, e, h.imp (fun h => t a _ h (.inl ⟨vs, rfl⟩)) id, Reps.immI t r⟩
instance immIPair {α β : Type} {d1 : Dat α} {d2 : Dat β} [i1 : @ImmI α d1] [i2 : @ImmI β d2] : @ImmI (α × β) (dPair (d1 := d1) (d2 := d2)) := @ImmI.mk _ (dPair (d1 := d1) (d2 := d2)) fun t ⟨a, v1, v2, e, h, r1, r2⟩ => ⟨a, v1, v2, e, h.imp (fun h => t a _ h (.inl ⟨_, rfl⟩)) id, i1.immI t r1, i2.immI t r2⟩
instance immIOb2 {α β : Type} {d1 : Dat α} {d2 : Dat β} [i1 : @ImmI α d1] [i2 : @ImmI β d2] {C0 : Addr} {f1 f2 : Str} : @ImmI (Ob2 α β) (dOb2 (d1 := d1) (d2 := d2) C0 f1 f2) :=
  @ImmI.mk _ (dOb2 (d1 := d1) (d2 := d2) C0 f1 f2) fun t ⟨p, dx, v1, v2, e, h, r1, r2⟩ => ⟨p, dx, v1, v2, e, t p _ h (.inr ⟨_, _, _, rfl⟩), i1.immI t r1, i2.immI t r2⟩
/-- mixed data without lists -/
@[reducible] def dMixI {β : Type} (d : Dat β) : Dat (Mix β) := ⟨fun C F v x => match x with
  | .inl y => d.rep C F v y
  | .inr u => noL u = true ∧ DU C F u v, fun {C F F' v x} s h => match x, h with
  | .inl _, h => d.mono s h
  | .inr _, h => ⟨h.1, DU.mono s _ _ h.2⟩⟩
instance immIMix {β : Type} {d : Dat β} [i : @ImmI β d] : @ImmI (Mix β) (dMixI d) := @ImmI.mk _ (dMixI d) fun {C F H v x} t r => match x, r with
  | .inl _, r => i.immI t r
  | .inr u, r => ⟨r.1, DU.imm (fun a xs h => t a _ h (.inl ⟨xs, rfl⟩)) u v r.1 r.2⟩
section
variable {α β γ : Type} {d : Dat α} {d2 : Dat β}
end
/-- what is owned holds no instance -/
class NoIns {α : Type} {d : Dat α} (od : OD α) : Prop where
  no : ∀ {C : GCtx} {F : Hp} {v : V} {x : α} {L : LO}, od.orep C F v x L → ∀ p ∈ L, ¬ ∃ C dx fs, p.2 = .ins C dx fs
instance noList {α : Type} {d : Dat α} : NoIns (oList (d := d)) := ⟨fun ⟨a, vs, e, h, r⟩ p hp => by
  subst h
  rw [List.mem_singleton] at hp
  subst hp
  rintro ⟨_, _, _, z⟩
  cases z⟩
section
variable {tx : XC → Addr} {Y : YC} {Γ : List Cell} {te : TE} {α β : Type} {d : Dat α} {d2 : Dat β}
end
end G
end

noncomputable section
/-! M32: a dict of the top, int keys, texts. -/
namespace L2
open PySem PySem.Spec PyProof.Rows
/-- what stands in such a dict -/
inductive KEnt : List DictEntry → List (Int × Str) → Prop where
  | nil : KEnt [] []
  | cons {es : List DictEntry} {kvs : List (Int × Str)} (k : Int) (z : Str) (t t2 : Tok) (h : Int) (hh : h = hashInt k) (r : KEnt es kvs) : KEnt (⟨h, .int k t, .str z t2⟩ :: es) ((k, z) :: kvs)
theorem KEnt.keys {P : Program} {w : World} : ∀ {es : List DictEntry} {kvs : List (Int × Str)}, KEnt es kvs → ∀ e ∈ es, ∃ k, (intKind P w).is k e.key = true ∧ e.hash = (intKind P w).hash k
  | _, _, .nil => fun e he => by cases he
  | _, _, .cons k z t t2 h hh r => fun e he => by
    rcases List.mem_cons.mp he with rfl | he
    · exact ⟨k, by show Value.isInt k (.int k t) = true; exact beq_self_eq_true k, hh⟩
    · exact r.keys e he
theorem KEnt.find {P : Program} {w : World} : ∀ {es : List DictEntry} {kvs : List (Int × Str)} {k : Int} {z : Str}, KEnt es kvs → kvs.lookup k = some z → ∃ t, (es.find? fun e => (intKind P w).is k e.key).map (·.val) = some (.str z t)
  | _, _, _, _, .nil, h => by cases h
  | _, _, k0, z0, .cons k z t t2 h hh r, hl => by
    rw [List.lookup_cons] at hl
    rw [List.find?_cons]
    have e : (intKind P w).is k0 (.int k t) = (k0 == k) := by
      show Value.isInt k0 (.int k t) = _
      show (k == k0) = (k0 == k)
      exact BEq.comm
    rw [e]
    cases hk : (k0 == k) with
    | true =>
      rw [hk] at hl
      cases hl
      exact ⟨t2, rfl⟩
    | false =>
      rw [hk] at hl
      exact r.find hl
section
variable {X : Cx}
end
end L2
namespace G
open PySem PySem.Spec PyProof.Rows L2 PySem.W
section
variable {tx : XC → Addr} {Y : YC} {Γ : List Cell} {tb : TE}
end
end G
end

noncomputable section
/-! M33: slices of tuples, list(t) of a tuple of unlike data. -/
namespace G
open PySem PySem.Spec PyProof.Rows L2 PySem.W
section
variable {tx : XC → Addr} {Y : YC} {Γ : List Cell} {te : TE} {α β γ : Type} {d1 : Dat α} {d2 : Dat β} {d3 : Dat γ}
/-! d.get(k, ..) -/
variable {d : Dat α} {ta tb tc : TE}
theorem we_notinP2 [f : @Flat α d] [DecidableEq α] {m : M α} {n : M (α × α)} (h : Re tx Y ta Γ d m) (h2 : We tx Y tb Γ (dPair (d1 := d) (d2 := d)) n) : We tx Y (tOp (rIn Y.K true) ta tb) Γ dBool (m >>= fun x => n >>= fun t => .ok (!memB x [t.1, t.2])) := we_eq (we_notinT h (re_w (we_pairL h2))) (by cases m <;> (try rfl) <;> cases n <;> rfl)
/-! walks over computed tuples -/
end
instance oimOb4 {α β γ δ : Type} {d1 : Dat α} {d2 : Dat β} {d3 : Dat γ} {d4 : Dat δ} [i1 : @Imm α d1] [i2 : @Imm β d2] {o3 : @OD γ d3} {o4 : @OD δ d4} [i3 : @OIm γ d3 o3] [i4 : @OIm δ d4 o4] {C0 : Addr} {f1 f2 f3 f4 : Str} :
    @OIm (Ob4 α β γ δ) (dOb4 (d1 := d1) (d2 := d2) (d3 := d3) (d4 := d4) C0 f1 f2 f3 f4) (oOb4 (d1 := d1) (d2 := d2) (d3 := d3) (d4 := d4) C0 f1 f2 f3 f4 o3 o4) :=
  @OIm.mk _ (dOb4 (d1 := d1) (d2 := d2) (d3 := d3) (d4 := d4) C0 f1 f2 f3 f4) (oOb4 (d1 := d1) (d2 := d2) (d3 := d3) (d4 := d4) C0 f1 f2 f3 f4 o3 o4) (fun t ⟨p, dx, v1, v2, v3, v4, L3, L4, e, h, r1, r2, r3, r4⟩ => ⟨p, dx, v1, v2, v3, v4, L3, L4, e, h, i1.imm t r1, i2.imm t r2, i3.oimm t r3, i4.oimm t r4⟩)
end G
end

set_option maxRecDepth 40000
noncomputable section
/-! M34: plain data whose lists are owned; xs.pop(i) as a statement; xs.count(n); len(set(xs)). -/
namespace G
open PySem PySem.Spec PyProof.Rows L2 PySem.W
mutual
def OUr (C : GCtx) (F : Hp) : PyData → V → LO → Prop
  | .none, v, L => v = .non ∧ L = []
  | .bool b, v, L => v = .bl b ∧ L = []
  | .int i, v, L => v = .int i ∧ L = []
  | .str s, v, L => v = .str s ∧ L = []
  | .list ds, v, L => ∃ a vs L', v = .ref a ∧ L = (a, .lst vs) :: L' ∧ OUrs C F ds vs L'
  | .tuple ds, v, L => ∃ a vs, v = .ref a ∧ TpA C.K F a vs ∧ OUrs C F ds vs L
  | .dict _, _, _ => False
def OUrs (C : GCtx) (F : Hp) : List PyData → List V → LO → Prop
  | [], [], L => L = []
  | d :: ds, v :: vs, L => ∃ L1 L2, L = L1 ++ L2 ∧ OUr C F d v L1 ∧ OUrs C F ds vs L2
  | [], _ :: _, _ => False
  | _ :: _, [], _ => False
end
mutual
theorem OUr.mono {C : GCtx} {F F' : Hp} (s : Same F F') : ∀ (x : PyData) (v : V) (L : LO), OUr C F x v L → OUr C F' x v L
  | .none, _, _, h => h
  | .bool _, _, _, h => h
  | .int _, _, _, h => h
  | .str _, _, _, h => h
  | .list ds, _, _, ⟨a, vs, L', e, e2, r⟩ => ⟨a, vs, L', e, e2, OUrs.mono s ds vs L' r⟩
  | .tuple ds, _, L, ⟨a, vs, e, h, r⟩ => ⟨a, vs, e, h.mono s, OUrs.mono s ds vs L r⟩
  | .dict _, _, _, h => h.elim
theorem OUrs.mono {C : GCtx} {F F' : Hp} (s : Same F F') : ∀ (xs : List PyData) (vs : List V) (L : LO), OUrs C F xs vs L → OUrs C F' xs vs L
  | [], [], _, h => h
  | d :: ds, v :: vs, _, ⟨L1, L2, e, h1, h2⟩ => ⟨L1, L2, e, OUr.mono s d v L1 h1, OUrs.mono s ds vs L2 h2⟩
  | [], _ :: _, _, h => h.elim
  | _ :: _, [], _, h => h.elim
end
mutual
theorem OUr.view {C : GCtx} {F H : Hp} (s : Same F H) : ∀ (x : PyData) (v : V) (L : LO), OUr C F x v L → (∀ p ∈ L, H p.1 = some p.2) → DU C H x v
  | .none, _, _, h, _ => h.1
  | .bool _, _, _, h, _ => h.1
  | .int _, _, _, h, _ => h.1
  | .str _, _, _, h, _ => h.1
  | .list ds, _, _, ⟨a, vs, L', e, e2, r⟩, k => ⟨a, vs, e, .inl (k (a, .lst vs) (by rw [e2]; exact List.mem_cons_self)), OUrs.view s ds vs L' r fun p hp => k p (by rw [e2]; exact List.mem_cons_of_mem _ hp)⟩
  | .tuple ds, _, L, ⟨a, vs, e, h, r⟩, k => ⟨a, vs, e, h.mono s, OUrs.view s ds vs L r k⟩
  | .dict _, _, _, h, _ => h.elim
theorem OUrs.view {C : GCtx} {F H : Hp} (s : Same F H) : ∀ (xs : List PyData) (vs : List V) (L : LO), OUrs C F xs vs L → (∀ p ∈ L, H p.1 = some p.2) → DUs C H xs vs
  | [], [], _, _, _ => trivial
  | d :: ds, v :: vs, _, ⟨L1, L2, e, h1, h2⟩, k => ⟨OUr.view s d v L1 h1 fun p hp => k p (by rw [e]; exact List.mem_append_left _ hp), OUrs.view s ds vs L2 h2 fun p hp => k p (by rw [e]; exact List.mem_append_right _ hp)⟩
  | [], _ :: _, _, h, _ => h.elim
  | _ :: _, [], _, h, _ => h.elim
end
mutual
theorem OUr.noL {C : GCtx} {F : Hp} : ∀ (x : PyData) (v : V), G.noL x = true → DU C F x v → OUr C F x v []
  | .none, _, _, h => ⟨h, rfl⟩
  | .bool _, _, _, h => ⟨h, rfl⟩
  | .int _, _, _, h => ⟨h, rfl⟩
  | .str _, _, _, h => ⟨h, rfl⟩
  | .list _, _, n, _ => by cases n
  | .tuple ds, v, n, ⟨a, vs, e, h, r⟩ => ⟨a, vs, e, h, OUrs.noL ds vs n r⟩
  | .dict _, _, _, h => h.elim
theorem OUrs.noL {C : GCtx} {F : Hp} : ∀ (xs : List PyData) (vs : List V), noLs xs = true → DUs C F xs vs → OUrs C F xs vs []
  | [], [], _, _ => rfl
  | d :: ds, v :: vs, n, h => by
    have n2 : (G.noL d && noLs ds) = true := n
    rw [Bool.and_eq_true] at n2
    exact ⟨[], [], rfl, OUr.noL d v n2.1 h.1, OUrs.noL ds vs n2.2 h.2⟩
  | [], _ :: _, _, h => h.elim
  | _ :: _, [], _, h => h.elim
end
theorem OUrs.at {C : GCtx} {F : Hp} : ∀ {xs : List PyData} {vs : List V} {L : LO} {i : Nat} {x : PyData}, OUrs C F xs vs L → xs[i]? = some x → ∃ v L1 Li L2, vs[i]? = some v ∧ L = L1 ++ Li ++ L2 ∧ OUr C F x v Li ∧ ∀ F' x' Li', Same F F' → OUr C F' x' v Li' → OUrs C F' (xs.set i x') vs (L1 ++ Li' ++ L2)
  | [], [], _, i, _, _, e => by cases i <;> cases e
  | y :: xs, v :: vs, L, 0, x, ⟨L1, L2, e, h1, h2⟩, hx => by
    cases (Option.some.inj hx : y = x)
    exact ⟨v, [], L1, L2, rfl, by simpa using e, h1, fun F' x' Li' s h => ⟨Li', L2, by simp, h, OUrs.mono s _ _ _ h2⟩⟩
  | y :: xs, v :: vs, L, i + 1, x, ⟨L1, L2, e, h1, h2⟩, hx => by
    obtain ⟨w, M1, Mi, M2, e1, e2, h3, f⟩ := OUrs.at (i := i) h2 hx
    exact ⟨w, L1 ++ M1, Mi, M2, e1, by rw [e, e2]; simp [List.append_assoc], h3, fun F' x' Li' s h => ⟨L1, M1 ++ Li' ++ M2, by simp [List.append_assoc], OUr.mono s _ _ _ h1, f F' x' Li' s h⟩⟩
  | [], _ :: _, _, _, _, h, _ => h.elim
  | _ :: _, [], _, _, _, h, _ => h.elim
theorem OUrs.len {C : GCtx} {F : Hp} : ∀ {xs : List PyData} {vs : List V} {L : LO}, OUrs C F xs vs L → vs.length = xs.length
  | [], [], _, _ => rfl
  | _ :: _, _ :: _, _, ⟨_, _, _, _, h2⟩ => by simp [OUrs.len h2]
  | [], _ :: _, _, h => h.elim
  | _ :: _, [], _, h => h.elim
theorem OUrs.append {C : GCtx} {F : Hp} {y : PyData} {w : V} {M : LO} (g : OUr C F y w M) : ∀ {xs : List PyData} {vs : List V} {L : LO}, OUrs C F xs vs L → OUrs C F (xs ++ [y]) (vs ++ [w]) (L ++ M)
  | [], [], _, h => by
    cases (show _ = [] from h)
    exact ⟨M, [], by simp, g, rfl⟩
  | _ :: _, _ :: _, _, ⟨L1, L2, e, h1, h2⟩ => ⟨L1, L2 ++ M, by rw [e, List.append_assoc], h1, OUrs.append g h2⟩
  | [], _ :: _, _, h => h.elim
  | _ :: _, [], _, h => h.elim
/-- plain data, its lists owned -/
@[reducible] def oU : @OD PyData dU := @OD.mk PyData dU (fun C F v x L => OUr C F x v L) (fun s h => OUr.mono s _ _ _ h) (fun h s k => OUr.view s _ _ _ h k)
section
variable {tx : XC → Addr} {Y : YC} {Γ : List Cell} {te ta tb : TE} {α τ : Type} {d : Dat α} {rest : TS} {js : List Nat} {K : Kt τ}
theorem o_UIU {k : PyData → Prop} (h : W Y te Γ dUI k) : O Y te Γ oU k := fun e F σ H s Q q => h e F σ H s Q fun v F' H' x kx g r => q v F' H' [] x kx g (OUr.noL _ _ r.1 r.2)
theorem oe_UIU {m : M PyData} (h : We tx Y te Γ dUI m) : Oe tx Y te Γ oU m := fun nb xk => o_UIU (h nb xk)
theorem OUrs.of_reps [u : @UD α d] [n : @UI α d u] {C : GCtx} {F : Hp} : ∀ {vs : List V} {xs : List α}, Reps d C F vs xs → OUrs C F (xs.map u.toU) vs []
  | [], [], _ => rfl
  | _ :: _, _ :: _, h => ⟨[], [], rfl, OUr.noL _ _ (n.no _) (u.du h.1), OUrs.of_reps h.2⟩
  | [], _ :: _, h => h.elim
  | _ :: _, [], h => h.elim
theorem o_p2U {k : PyData → Prop} (h : W Y ta Γ dUI fun a => O Y te Γ oU fun b => k (.tuple [a, b])) : O Y (tTup (tCons ta (tCons te tNil))) Γ oU k := fun e F σ H s Q q => h e F σ H s _ fun v1 F1 H1 a h1 g1 r1 => h1 e F1 σ H1 (s.grow g1) _ fun v2 F2 H2 L b kb g2 r2 => ⟨show (2 : Nat) ≤ PySem.sizeLine by decide, fun p hp => by
  have g3 := g1.trans g2
  rw [List.append_nil] at g3
  have g4 := g3.lay (o := .tup [v1, v2]) hp
  have sm : Same F2 (upd F2 p (.tup [v1, v2])) := (Gr.lay (o := .tup [v1, v2]) g3.base hp).ff
  exact q _ _ _ L _ kb g4 ⟨p, [v1, v2], rfl, .inl upd_same, [], L, rfl, OUr.noL _ _ r1.1 (DU.mono (g2.ff.trans sm) _ _ r1.2), L, [], by simp, OUr.mono sm _ _ _ r2, rfl⟩⟩
theorem oe_p2U {m : M PyData} {n : M PyData} (h : We tx Y ta Γ dUI m) (h2 : Oe tx Y te Γ oU n) : Oe tx Y (tTup (tCons ta (tCons te tNil))) Γ oU (m >>= fun a => n >>= fun b => .ok (.tuple [a, b])) := fun nb xk =>
  o_p2U (h.k nb xk fun a e nb xk e1 F σ H s Q q => by
    cases en : n with
    | ok b =>
      refine h2 (by rw [en]; exact fun z => nomatch z) (by rw [en]; exact XkM.ok) e1 F σ H s Q fun v F' H' L ys ky g r => q v F' H' L ys ?_ g r
      rw [en] at ky
      cases ky
      rw [e, en]; rfl
    | exc x =>
      refine h2 (by rw [en]; exact fun z => nomatch z) (by rw [en] at xk ⊢; exact fun px e2 => xk px (by cases e2; rfl)) e1 F σ H s Q fun v F' H' L ys ky g r => ?_
      rw [en] at ky
      cases ky
    | bad => rw [en] at nb; exact absurd rfl nb)
/-! x[k].append(y), x such data -/
/-! xs.pop(i), its answer dropped -/
/-! xs.count(n) of ints -/
end
/-! len(set(xs)) -/
end G
namespace L2
open PySem PySem.Spec PyProof.Rows
section
variable {X : Cx}
end
end L2
namespace G
open PySem PySem.Spec PyProof.Rows L2 PySem.W
section
variable {tx : XC → Addr} {Y : YC} {Γ : List Cell} {ta : TE}
end
end G
end
namespace G
open PySem L2
/-! plain data within pairs -/
instance datU : Dat PyData := dU
instance udU : @UD PyData dU := ⟨fun x => x, fun h => h⟩
end G

/-! M35: try .. except (A, B): suite; try .. except A: suite (without a name). -/
noncomputable section
namespace L2
open PySem PySem.Spec PyProof.Rows
section
variable {X : Cx} {x1 x2 : Str} {c1 c2 : Value} {body suite : List Stmt} {b₀ : Stmt} {np1 np2 tpos pos pos' : Pos} {tb : WX → TS} {ts : Addr → Value → Option Addr → TS} {Wout : WX}
end
end L2
namespace L2
open PySem PySem.Spec PyProof.Rows
section
variable {X : Cx} {x x1 x2 : Str} {c c1 c2 : Value} {body suite : List Stmt} {b₀ : Stmt} {np np1 np2 tpos pos pos' : Pos} {tb : WX → TS} {ts : Addr → Value → Option Addr → TS} {Wout : WX}
end
end L2
namespace G
open PySem PySem.Spec PyProof.Rows L2 PySem.W
section
variable {Y : YC} {Γ : List Cell} {k : Ks}
end
end G
end

/-! M36: xs.index(y) for data. -/
noncomputable section
namespace G
open PySem PySem.Spec PyProof.Rows L2 PySem.W
/-- the data's equality needs no text -/
class DL (α : Type) {d : Dat α} [de : @DE α d] : Prop where
  lay0 : ∀ x, (de.toD x).canLay0 = true
instance dlInt : @DL Int dInt deInt := @DL.mk _ _ deInt fun _ => by simp [DE.toD, PyData.canLay0]
instance dlBool : @DL Bool dBool deBool := @DL.mk _ _ deBool fun _ => by simp [DE.toD, PyData.canLay0]
theorem dlAll {α : Type} {d : Dat α} [de : @DE α d] [dl : @DL α d de] : ∀ xs : List α, PyData.canLayAll0 (xs.map de.toD) = true
  | [] => by simp [PyData.canLayAll0]
  | x :: xs => by simp [PyData.canLayAll0, dl.lay0, dlAll xs]
instance dlList {α : Type} {d : Dat α} [de : @DE α d] [dl : @DL α d de] : @DL (List α) dList deList := @DL.mk _ _ deList fun x => by
  show PyData.canLay0 (.list (x.map de.toD)) = true
  simp [PyData.canLay0, dlAll x]
instance dlPair {α β : Type} {d1 : Dat α} {d2 : Dat β} [de1 : @DE α d1] [de2 : @DE β d2] [dl1 : @DL α d1 de1] [dl2 : @DL β d2 de2] : @DL (α × β) dPair dePair := @DL.mk _ _ dePair fun x => by
  show PyData.canLay0 (.tuple [de1.toD x.1, de2.toD x.2]) = true
  simp [PyData.canLay0, PyData.canLayAll0, dl1.lay0, dl2.lay0]
instance dlT4 {α β γ δ : Type} {d1 : Dat α} {d2 : Dat β} {d3 : Dat γ} {d4 : Dat δ} [de1 : @DE α d1] [de2 : @DE β d2] [de3 : @DE γ d3] [de4 : @DE δ d4] [dl1 : @DL α d1 de1] [dl2 : @DL β d2 de2] [dl3 : @DL γ d3 de3] [dl4 : @DL δ d4 de4] : @DL (T4 α β γ δ) dT4 deT4 := @DL.mk _ _ deT4 fun x => by
  show PyData.canLay0 (.tuple [de1.toD x.a, de2.toD x.b, de3.toD x.c, de4.toD x.d]) = true
  simp [PyData.canLay0, PyData.canLayAll0, dl1.lay0, dl2.lay0, dl3.lay0, dl4.lay0]
/-- the first place of an equal one -/
def M.idx {α : Type} [DecidableEq α] (xs : List α) (y : α) : M Int := M.ofO ((xs.findIdx? fun z => decide (z = y)).map fun j => (j : Int))
section
variable {tx : XC → Addr} {Y : YC} {Γ : List Cell} {ta tb : TE} {α : Type} {d : Dat α}
end
/-! a slice of an owned list -/
section
variable {tx : XC → Addr} {Y : YC} {Γ : List Cell} {te : TE} {α : Type} {d : Dat α}
end
end G
namespace L2
open PySem PySem.Spec PyProof.Rows
section
variable {X : Cx}
end
end L2
end

/-! M37: own operators: a + b of two instances of one class, ~a, -a, and the call of an instance. -/
namespace G
open PySem PySem.Spec PyProof.Rows L2 PySem.W
section
variable {prog : Program} {w : World} {A : Around} {E : Value → Shared → Prop} {s : Shared} {K : Frag} {x y C L f : Addr} {h₀ : Heap} {m : Str → Option Value} {ox oy : Obj} {od od2 : Option Obj}
end
theorem relV_back {v : V} {u : Value} {Q : Value → Shared → Prop} {s : Shared} (r : RelV v u) (q : Q u s) : PySem.W.CmpBack Q u s := by
  unfold PySem.W.CmpBack
  cases v with
  | non => obtain rfl := (show u = Value.none from r); exact q
  | bl b => obtain rfl := (show u = Value.bool b from r); exact q
  | int i => obtain ⟨t, rfl⟩ := r; exact q
  | str x => obtain ⟨t, rfl⟩ := r; exact q
  | byt b => obtain ⟨t, rfl⟩ := r; exact q
  | flt b => obtain ⟨t, rfl⟩ := r; exact q
  | ref a => obtain rfl := (show u = Value.ref a from r); exact q
  | ty n => obtain rfl := (show u = Value.type n from r); exact q
section
variable {X : Cx} {CXt : CXT} {k : Nat} {f C : Addr} {fd : FuncData} {ps : List Str} {sp : Sp} {E : L2.St → XK} {pos : Pos} {e o fe a b : Expr} {es : List Expr} {ta tb : TE} {t : TA}
end
/-! readings -/
section
variable {Y : YC} {Γ : List Cell} {ta tb : TE} {tl : TA} {α β γ : Type} {d : Dat α} {d2 : Dat β} {d1 : Dat γ} {C0 : Addr} {ns ns2 : List Str} {sp : Sp} {E : L2.St → XK} {BA : List V → Hp → Prop}
end
section
variable {tx : XC → Addr} {Y : YC} {Γ : List Cell} {β : Type} {d : Dat β} {t0 t1 t2 t3 : TE} {sp : Sp} {E : L2.St → XK}
variable {α0 α1 α2 α3 : Type} {d0 : Dat α0} {d1 : Dat α1} {d2 : Dat α2} {d3 : Dat α3} {m0 : M α0} {m1 : M α1} {m2 : M α2} {m3 : M α3} {C0 : Addr} {ns ns2 : List Str}
end
section
variable {tx : XC → Addr} {Y : YC} {Γ : List Cell} {t : TT} {τ : Type} {t1 t2 rest : TS} {js : List Nat} {K : Kt τ}
end
end G

noncomputable section
/-! M38: for x in xs: x.append(n). -/
namespace G
open PySem PySem.Spec PyProof.Rows L2 PySem.W
section
variable {tx : XC → Addr} {Y : YC} {Γ : List Cell} {te : TE} {τ : Type} {rest : TS} {js : List Nat} {K : Kt τ} {k : Ks}
end
end G
end

noncomputable section
/-! M39: {key: value for ..} with values that are not owned, over lists, tuples and enumerate. -/
namespace G
open PySem PySem.Spec PyProof.Rows L2 PySem.W
section
variable {tx : XC → Addr} {Y : YC} {Γ : List Cell} {te ta tb tl tk tv : TE} {t u tt : TT} {α β : Type} {d : Dat α} {d2 : Dat β} {g : TG}
end
end G
end

noncomputable section
/-! M40: list(o), o an instance whose __iter__ gives an iterator over a tuple that it holds. -/
namespace G
open PySem PySem.Spec PyProof.Rows L2 PySem.W
section
variable {X : Cx} {pins : List (Addr × Obj)} {σ : L2.St} {A1 : Around}
end
section
variable {X : Cx} {CXt : CXT} {k : Nat} {g C : Addr} {fd : FuncData} {ps : List Str} {f : Str}
end
section
variable {tx : XC → Addr} {Y : YC} {Γ : List Cell} {te : TE} {α β : Type} {d : Dat α} {d2 : Dat β} {C0 : Addr} {f : Str}
end
end G
end

noncomputable section
/-! M41: sorted(xs) for data: whole numbers, pairs, lists of these. -/
namespace G
open PySem PySem.Spec PyProof.Rows L2 PySem.W
/-- data that stand in one order -/
class DO (α : Type) {d : Dat α} [de : @DE α d] : Prop where
  alk : ∀ x y, alike (de.toD x) (de.toD y) = true
/-- what sorted asks of the items -/
class DSo (α : Type) {d : Dat α} [de : @DE α d] : Prop where
  so : (∀ x, ∃ y r, de.toD x = .tuple (y :: r)) ∨ ∀ x, de.toD x ≠ .none ∧ ∀ xs, de.toD x ≠ .tuple xs
instance doInt : @DO Int dInt deInt := @DO.mk _ _ deInt fun x y => rfl
theorem alk_all {α : Type} {d : Dat α} [de : @DE α d] [o : @DO α d de] : ∀ xs ys : List α, alikeAll (xs.map de.toD) (ys.map de.toD) = true
  | [], [] => by simp [alikeAll]
  | [], _ :: _ => by simp [alikeAll]
  | _ :: _, [] => by simp [alikeAll]
  | x :: xs, y :: ys => by
    simp only [List.map_cons, alikeAll, Bool.and_eq_true]
    exact ⟨o.alk x y, alk_all xs ys⟩
instance doList {α : Type} {d : Dat α} [de : @DE α d] [o : @DO α d de] : @DO (List α) dList deList := @DO.mk _ _ deList fun x y => by
  show alike (.list (x.map de.toD)) (.list (y.map de.toD)) = true
  rw [alike]
  exact alk_all x y
instance doPair {α β : Type} {d1 : Dat α} {d2 : Dat β} [de1 : @DE α d1] [de2 : @DE β d2] [o1 : @DO α d1 de1] [o2 : @DO β d2 de2] : @DO (α × β) dPair dePair := @DO.mk _ _ dePair fun x y => by
  show alike (.tuple [de1.toD x.1, de2.toD x.2]) (.tuple [de1.toD y.1, de2.toD y.2]) = true
  rw [alike]
  simp [alikeAll, o1.alk, o2.alk]
instance soList {α : Type} {d : Dat α} [de : @DE α d] : @DSo (List α) dList deList := @DSo.mk _ _ deList (.inr fun x => And.intro (fun z => nomatch (show PyData.list (x.map de.toD) = .none from z)) fun xs z => nomatch (show PyData.list (x.map de.toD) = .tuple xs from z))
instance soPair {α β : Type} {d1 : Dat α} {d2 : Dat β} [de1 : @DE α d1] [de2 : @DE β d2] : @DSo (α × β) dPair dePair := @DSo.mk _ _ dePair (.inl fun x => ⟨_, _, rfl⟩)
/-- x before y -/
class OLt (α : Type) where
  lt : α → α → Bool
instance ltInt : OLt Int := ⟨fun a b => decide (a < b)⟩
instance ltPair {α β : Type} [DecidableEq α] [OLt α] [OLt β] : OLt (α × β) := ⟨fun x y => if x.1 = y.1 then OLt.lt x.2 y.2 else OLt.lt x.1 y.1⟩
def ltL {α : Type} [DecidableEq α] [OLt α] : List α → List α → Bool
  | _, [] => false
  | [], _ :: _ => true
  | x :: xs, y :: ys => if x = y then ltL xs ys else OLt.lt x y
instance ltList {α : Type} [DecidableEq α] [OLt α] : OLt (List α) := ⟨ltL⟩
class DLt (α : Type) {d : Dat α} [de : @DE α d] [OLt α] : Prop where
  is : ∀ x y, dataLt (de.toD x) (de.toD y) = OLt.lt x y
instance dltInt : @DLt Int dInt deInt _ := @DLt.mk _ _ deInt _ fun x y => dataLt_int x y
theorem dataLt_self (d : PyData) : dataLt d d = false := by
  unfold dataLt
  exact lex_irrefl _
instance dltPair {α β : Type} [DecidableEq α] [OLt α] [OLt β] {d1 : Dat α} {d2 : Dat β} [de1 : @DE α d1] [de2 : @DE β d2] [o1 : @DO α d1 de1] [o2 : @DO β d2 de2] [l1 : @DLt α d1 de1 _] [l2 : @DLt β d2 de2 _] : @DLt (α × β) dPair dePair _ := @DLt.mk _ _ dePair _ fun x y => by
  show dataLt (.tuple [de1.toD x.1, de2.toD x.2]) (.tuple [de1.toD y.1, de2.toD y.2]) = if x.1 = y.1 then OLt.lt x.2 y.2 else OLt.lt x.1 y.1
  rw [dataLt_pair (o1.alk _ _) (o2.alk _ _)]
  by_cases h1 : x.1 = y.1
  · rw [if_pos ((de1.eqv _ _).mpr h1), if_pos h1]
    by_cases h2 : x.2 = y.2
    · rw [if_pos ((de2.eqv _ _).mpr h2), ← l2.is, h2, dataLt_self]
    · rw [if_neg (fun z => h2 ((de2.eqv _ _).mp z)), l2.is]
  · rw [if_neg (fun z => h1 ((de1.eqv _ _).mp z)), if_neg h1, l1.is]
theorem dlt_all {α : Type} [DecidableEq α] [OLt α] {d : Dat α} [de : @DE α d] [o : @DO α d de] [l : @DLt α d de _] : ∀ xs ys : List α, PyProof.Rows.lexLt itemOrd (keyToksAll (xs.map de.toD)) (keyToksAll (ys.map de.toD)) = ltL xs ys
  | [], [] => by
    simp only [List.map_nil, keyToksAll, ltL]
    rfl
  | [], y :: ys => by
    simp only [List.map_nil, List.map_cons, keyToksAll, ltL]
    rw [lex_diff (O := itemOrd) (fun z => by cases z)]
    rfl
  | x :: xs, [] => by
    simp only [List.map_nil, List.map_cons, keyToksAll, ltL]
    rw [lex_diff (O := itemOrd) (fun z => by cases z)]
    rfl
  | x :: xs, y :: ys => by
    rw [List.map_cons, List.map_cons, dataLt_cons (o.alk x y), ltL]
    by_cases h : x = y
    · rw [if_pos ((de.eqv _ _).mpr h), if_pos h]
      exact dlt_all xs ys
    · rw [if_neg (fun z => h ((de.eqv _ _).mp z)), if_neg h, l.is]
instance dltList {α : Type} [DecidableEq α] [OLt α] {d : Dat α} [de : @DE α d] [o : @DO α d de] [l : @DLt α d de _] : @DLt (List α) dList deList _ := @DLt.mk _ _ deList _ fun x y => by
  show dataLt (.list (x.map de.toD)) (.list (y.map de.toD)) = ltL x y
  rw [dataLt_list]
  exact dlt_all x y
section
variable {X : Cx}
end
section
variable {tx : XC → Addr} {Y : YC} {Γ : List Cell} {te : TE} {α : Type} {d : Dat α}
end
end G
end

noncomputable section
/-! M42: a, b = xs.pop(), a, b = xs.pop(i). -/
namespace G
open PySem PySem.Spec PyProof.Rows L2 PySem.W
section
variable {tx : XC → Addr} {Y : YC} {Γ : List Cell} {ta te : TE} {α τ : Type} {d : Dat α} {g : TG} {rest : TS} {js : List Nat} {K : Kt τ} {k : Ks}
end
end G
end

noncomputable section
/-! M43: a static method by an instance. -/
namespace G
open PySem PySem.Spec PyProof.Rows L2 PySem.W
section
variable {X : Cx} {CXt : CXT} {k : Nat} {C g p : Addr} {fd : FuncData} {ps : List Str} {sp : Sp} {E : L2.St → XK} {m : Str} {apos pos : Pos} {e o : Expr} {es : List Expr} {ta : TE} {t : TA} {pl : Sem Bool}
end
section
variable {Y : YC} {Γ : List Cell} {ta : TE} {tl : TA} {α β : Type} {d : Dat α} {d2 : Dat β} {C0 : Addr} {m : Str} {ns : List Str} {sp : Sp} {E : L2.St → XK}
end
section
variable {tx : XC → Addr} {Y : YC} {Γ : List Cell} {β : Type} {d : Dat β} {t0 t1 t2 : TE} {sp : Sp} {E : L2.St → XK}
variable {α0 α1 α2 : Type} {d0 : Dat α0} {d1 : Dat α1} {d2 : Dat α2} {m0 : M α0} {m1 : M α1} {m2 : M α2} {C0 : Addr} {mn : Str} {ns : List Str}
end
end G
end

noncomputable section
/-! M44: xs += (a, b) (a list and a pair of its items' type). -/
namespace G
open PySem PySem.Spec PyProof.Rows L2 PySem.W PySem.AutoSeq1
section
variable {Y : YC} {Γ : List Cell} {te : TE} {α : Type} {d : Dat α} {k : Ks}
end
section
variable {tx : XC → Addr} {Y : YC} {Γ : List Cell} {te : TE} {α τ : Type} {d : Dat α} {K : Kt τ} {rest : TS} {js : List Nat}
end
end G

noncomputable section
/-! M45: return sorted(xs) of a name whose list owns its parts. -/
namespace G
open PySem PySem.Spec PyProof.Rows L2 PySem.W
section
variable {α : Type} {d : Dat α}
variable {Y : YC} {Γ : List Cell} {k : Ks}
end
section
variable {tx : XC → Addr} {Y : YC} {Γ : List Cell} {α : Type} {d : Dat α} {rest : TS} {js : List Nat}
end
end G

noncomputable section
/-! M46: triples that own their parts; str + str. -/
namespace G
open PySem PySem.Spec PyProof.Rows L2 PySem.W
@[reducible] def oT3 {α β γ : Type} {d1 : Dat α} {d2 : Dat β} {d3 : Dat γ} (od1 : @OD α d1) (od2 : @OD β d2) (od3 : @OD γ d3) : @OD (T3 α β γ) (dT3 (d1 := d1) (d2 := d2) (d3 := d3)) := @OD.mk (T3 α β γ) (dT3 (d1 := d1) (d2 := d2) (d3 := d3))
  (fun C F v x L => ∃ a v1 v2 v3 L1 L2 L3, v = .ref a ∧ L = L1 ++ (L2 ++ L3) ∧ TpA C.K F a [v1, v2, v3] ∧ od1.orep C F v1 x.a L1 ∧ od2.orep C F v2 x.b L2 ∧ od3.orep C F v3 x.c L3)
  (fun s ⟨a, v1, v2, v3, L1, L2, L3, e, h, t, r1, r2, r3⟩ => ⟨a, v1, v2, v3, L1, L2, L3, e, h, t.mono s, od1.omono s r1, od2.omono s r2, od3.omono s r3⟩)
  (fun ⟨a, v1, v2, v3, L1, L2, L3, e, h, t, r1, r2, r3⟩ s k => ⟨a, v1, v2, v3, e, t.mono s, od1.view r1 s fun p hp => k p (by rw [h]; simp [hp]), od2.view r2 s fun p hp => k p (by rw [h]; simp [hp]), od3.view r3 s fun p hp => k p (by rw [h]; simp [hp])⟩)
section
variable {Y : YC} {Γ : List Cell} {k : Ks} {te : TE} {α β γ : Type} {d1 : Dat α} {d2 : Dat β} {d3 : Dat γ}
end
section
variable {tx : XC → Addr} {Y : YC} {Γ : List Cell} {te ta tb : TE} {α β γ τ : Type} {d1 : Dat α} {d2 : Dat β} {d3 : Dat γ} {rest : TS} {js : List Nat} {K : Kt τ}
/-! texts -/
end
section
variable {tx : XC → Addr} {Y : YC} {Γ : List Cell} {ta : TE}
end
section
variable {tx : XC → Addr} {Y : YC} {Γ : List Cell} {tl : TA} {g : TG} {α β τ : Type} {d : Dat α} {K : Kt τ} {rest : TS} {js : List Nat}
end
end G

noncomputable section
/-! M47: [*xs, y, z]; tuple(xs) as a pair. -/
namespace G
open PySem PySem.Spec PyProof.Rows L2 PySem.W ClX StX
section
variable {tx : XC → Addr} {Y : YC} {Γ : List Cell} {te ta tb : TE} {α : Type} {d : Dat α}
/-- tuple(xs) of a list of two -/
def M.pairOf {α : Type} (xs : List α) : M (α × α) := match xs with | [a, b] => .ok (a, b) | _ => .bad
end
end G

noncomputable section
/-! M48: while (x := ..) != y; t3[:2]. -/
namespace G
open PySem PySem.Spec PyProof.Rows L2 PySem.W
section
variable {tx : XC → Addr} {Y : YC} {Γ : List Cell} {te : TE} {i j : Nat} {α β γ : Type} {d1 : Dat α} {d2 : Dat β} {d3 : Dat γ}
variable {d : Dat α} {τ : Type} {rest : TS} {js : List Nat} {K : Kt τ} {k : Ks}
end
end G
end

noncomputable section
/-! M49: None or owned data; return (a, xs) as plain data, xs owned; list(x) of plain data. -/
namespace G
open PySem PySem.Spec PyProof.Rows L2 PySem.W
/-- None, or what is owned -/
@[reducible] def oOpt {α : Type} {d : Dat α} (od : @OD α d) : @OD (Opt α) (dOpt (d := d)) := @OD.mk (Opt α) (dOpt (d := d))
  (fun C F v x L => match x with | .none => v = .non ∧ L = [] | .some y => od.orep C F v y L)
  (fun {C F F' v x L} s h => match x, h with | .none, h => h | .some _, h => od.omono s h)
  (fun {C F H v x L} h s k => match x, h with | .none, h => h.1 | .some _, h => od.view h s k)
section
variable {tx : XC → Addr} {Y : YC} {Γ : List Cell} {te ta : TE} {i : Nat} {α β τ : Type} {d : Dat α} {od : @OD α d} {ts rest : TS} {js : List Nat} {K : Kt τ}
end
/-! plain data without lists, plain data whose lists are owned -/
mutual
theorem OUr.imm {C : GCtx} {F H : Hp} (t : ∀ a xs, H a = some (.tup xs) → F a = some (.tup xs)) : ∀ (x : PyData) (v : V) (L : LO), OUr C H x v L → OUr C F x v L
  | .none, _, _, h => h
  | .bool _, _, _, h => h
  | .int _, _, _, h => h
  | .str _, _, _, h => h
  | .list ds, _, _, ⟨a, vs, L', e, e2, r⟩ => ⟨a, vs, L', e, e2, OUrs.imm t ds vs L' r⟩
  | .tuple ds, _, L, ⟨a, vs, e, h, r⟩ => ⟨a, vs, e, h.imp (t a vs) id, OUrs.imm t ds vs L r⟩
  | .dict _, _, _, h => h.elim
theorem OUrs.imm {C : GCtx} {F H : Hp} (t : ∀ a xs, H a = some (.tup xs) → F a = some (.tup xs)) : ∀ (xs : List PyData) (vs : List V) (L : LO), OUrs C H xs vs L → OUrs C F xs vs L
  | [], [], _, h => h
  | d :: ds, v :: vs, _, ⟨L1, L2, e, h1, h2⟩ => ⟨L1, L2, e, OUr.imm t d v L1 h1, OUrs.imm t ds vs L2 h2⟩
  | [], _ :: _, _, h => h.elim
  | _ :: _, [], _, h => h.elim
end
instance oimU : @OIm PyData dU oU := @OIm.mk PyData dU oU fun t h => OUr.imm t _ _ _ h
instance udUI : @UD PyData dUI := @UD.mk PyData dUI (fun x => x) fun h => h.2
instance ouUI : @OU PyData dUI := @OU.mk PyData dUI (fun x => if noL x then some x else none) fun {C F v x y} h r => by
  split at h
  · cases h
    exact ⟨by assumption, r⟩
  · cases h
section
variable {tx : XC → Addr} {Y : YC} {Γ : List Cell} {te : TE}
end
end G
end

noncomputable section
/-! M50: xs < ys of data in one order. -/
namespace G
open PySem PySem.Spec PyProof.Rows L2 PySem.W
section
variable {X : Cx} {K : PySem.W.Frag}
end
section
variable {tx : XC → Addr} {Y : YC} {Γ : List Cell} {ta tb : TE} {α : Type} {d : Dat α}
end
end G
end

noncomputable section
/-! M51: None or data, read as the data. -/
namespace G
open PySem PySem.Spec PyProof.Rows L2 PySem.W
section
variable {tx : XC → Addr} {Y : YC} {Γ : List Cell} {te : TE} {α : Type} {d : Dat α}
end
end G
end

noncomputable section
/-! M52: list(xs) of an owned name whose items are frozen. -/
namespace G
open PySem PySem.Spec PyProof.Rows L2 PySem.W
section
variable {tx : XC → Addr} {Y : YC} {Γ : List Cell} {i : Nat} {α : Type} {d : Dat α}
end
end G
end

noncomputable section
/-! M53: xs.clear(). -/
namespace G
open PySem PySem.Spec PyProof.Rows L2 PySem.W
end G
end

noncomputable section
/-! M54: dicts keyed by tuples of ints. -/
namespace G
open PySem PySem.Spec PyProof.Rows L2 PySem.W
/-- what may be a key: tuples of ints -/
class KeyD (κ : Type) (d : Dat κ) where
  key : κ → List L2.Key
  inj : ∀ {a b : κ}, key a = key b → a = b
  rd : ∀ {C : GCtx} {F : Hp} {v : V} {k : κ}, d.rep C F v k → ∃ a, v = .ref a ∧ F a = some (.tup ((key k).map kV))
theorem tpa_int {K : Frag} {F : Hp} {a : Addr} {xs : List V} (h : TpA K F a xs) (n : xs = [] ∨ ∃ i, V.int i ∈ xs) : F a = some (.tup xs) := by
  rcases h with h | ⟨_, h1, h2⟩
  · exact h
  · rcases n with n | ⟨i, n⟩
    · exact absurd n h1
    · obtain ⟨t, z⟩ := h2 _ n
      cases z
instance kyPair : KeyD (Int × Int) (dPair (d1 := dInt) (d2 := dInt)) where
  key p := [Sum.inl p.1, Sum.inl p.2]
  inj := by
    intro a b h
    simp only [List.cons.injEq, Sum.inl.injEq, and_true] at h
    exact Prod.ext h.1 h.2
  rd := fun ⟨a, v1, v2, e, h, r1, r2⟩ => by
    cases (show v1 = .int _ from r1)
    cases (show v2 = .int _ from r2)
    exact ⟨a, e, tpa_int h (.inr ⟨_, List.mem_cons_self⟩)⟩
instance kyTup : KeyD (Tup Int) (dTup (d := dInt)) where
  key t := t.l.map Sum.inl
  inj := by
    intro a b h
    obtain ⟨a⟩ := a
    obtain ⟨b⟩ := b
    have inj : ∀ {a b : List Int}, a.map (Sum.inl : Int → L2.Key) = b.map Sum.inl → a = b := by
      intro a
      induction a with
      | nil => intro b h; cases b with | nil => rfl | cons => cases h
      | cons x a ih =>
        intro b h
        cases b with
        | nil => cases h
        | cons y b =>
          rw [List.map_cons, List.map_cons, List.cons.injEq] at h
          rw [Sum.inl.inj h.1, ih h.2]
    have e : a = b := inj h
    subst e
    rfl
  rd := fun {C F v k} ⟨a, vs, e, h, r⟩ => by
    have e2 := r.ints
    subst e2
    refine ⟨a, e, ?_⟩
    have : ((k.l.map Sum.inl : List L2.Key)).map kV = k.l.map V.int := by rw [List.map_map]; rfl
    rw [this]
    refine tpa_int h ?_
    cases k.l with
    | nil => exact .inl rfl
    | cons i l => exact .inr ⟨i, by simp⟩
structure DK (κ α : Type) where
  kv : List (κ × α)
def lkD {κ α : Type} [DecidableEq κ] : List (κ × α) → κ → Option α
  | [], _ => none
  | p :: r, k => if p.1 = k then some p.2 else lkD r k
def putD {κ α : Type} [DecidableEq κ] (kv : List (κ × α)) (k : κ) (v : α) : List (κ × α) := if (lkD kv k).isSome then kv.map (fun p => if p.1 = k then (p.1, v) else p) else kv ++ [(k, v)]
def TReps {κ β : Type} {dk : Dat κ} (ky : KeyD κ dk) (d : Dat β) (C : GCtx) (F : Hp) : List (List L2.Key × V) → List (κ × β) → Prop
  | [], [] => True
  | p :: ps, x :: xs => p.1 = ky.key x.1 ∧ d.rep C F p.2 x.2 ∧ TReps ky d C F ps xs
  | _, _ => False
section
variable {κ α : Type} [DecidableEq κ] {dk : Dat κ} {ky : KeyD κ dk} {d : Dat α} {C : GCtx} {F F' : Hp}
theorem TReps.mono (s : Same F F') : ∀ {ps : List (List L2.Key × V)} {xs : List (κ × α)}, TReps ky d C F ps xs → TReps ky d C F' ps xs
  | [], [], _ => trivial
  | _ :: _, _ :: _, h => ⟨h.1, d.mono s h.2.1, TReps.mono s h.2.2⟩
  | [], _ :: _, h => h.elim
  | _ :: _, [], h => h.elim
theorem TReps.len : ∀ {ps : List (List L2.Key × V)} {xs : List (κ × α)}, TReps ky d C F ps xs → ps.length = xs.length
  | [], [], _ => rfl
  | _ :: _, _ :: _, h => by simp [TReps.len h.2.2]
  | [], _ :: _, h => h.elim
  | _ :: _, [], h => h.elim
theorem TReps.look : ∀ {ps : List (List L2.Key × V)} {xs : List (κ × α)} (k : κ), TReps ky d C F ps xs → (∀ x, lkD xs k = some x → ∃ v, valV ps (ky.key k) = some v ∧ d.rep C F v x) ∧ (lkD xs k = none → valV ps (ky.key k) = none)
  | [], [], k, _ => ⟨fun _ h => (nomatch h), fun _ => rfl⟩
  | p :: ps, x :: xs, k, h => by
    rw [valV_cons, h.1]
    unfold lkD
    by_cases hk : x.1 = k
    · rw [if_pos hk, if_pos (by rw [hk])]
      exact ⟨fun y e => ⟨p.2, rfl, by cases e; exact h.2.1⟩, fun z => (nomatch z)⟩
    · rw [if_neg hk, if_neg (fun z => hk (ky.inj z))]
      exact TReps.look k h.2.2
  | [], _ :: _, _, h => h.elim
  | _ :: _, [], _, h => h.elim
theorem TReps.snoc {v : V} {x : α} {k : κ} : ∀ {ps : List (List L2.Key × V)} {xs : List (κ × α)}, TReps ky d C F ps xs → d.rep C F v x → TReps ky d C F (ps ++ [(ky.key k, v)]) (xs ++ [(k, x)])
  | [], [], _, h => ⟨rfl, h, trivial⟩
  | _ :: _, _ :: _, h, h2 => ⟨h.1, h.2.1, TReps.snoc h.2.2 h2⟩
  | [], _ :: _, h, _ => h.elim
  | _ :: _, [], h, _ => h.elim
theorem TReps.map_put {v : V} {x : α} {k : κ} : ∀ {ps : List (List L2.Key × V)} {xs : List (κ × α)}, TReps ky d C F ps xs → d.rep C F v x → TReps ky d C F (ps.map fun kv => if kv.1 = ky.key k then (kv.1, v) else kv) (xs.map fun p => if p.1 = k then (p.1, x) else p)
  | [], [], _, _ => trivial
  | p :: ps, y :: ys, h, h2 => by
    rw [List.map_cons, List.map_cons]
    refine ⟨?_, ?_, TReps.map_put h.2.2 h2⟩
    · by_cases e : y.1 = k
      · rw [if_pos e, if_pos (by rw [h.1, e])]; exact h.1
      · rw [if_neg e, if_neg (fun z => e (ky.inj (h.1.symm.trans z)))]; exact h.1
    · by_cases e : y.1 = k
      · rw [if_pos e, if_pos (by rw [h.1, e])]; exact h2
      · rw [if_neg e, if_neg (fun z => e (ky.inj (h.1.symm.trans z)))]; exact h.2.1
  | [], _ :: _, h, _ => h.elim
  | _ :: _, [], h, _ => h.elim
theorem TReps.put {ps : List (List L2.Key × V)} {xs : List (κ × α)} {v : V} {x : α} {k : κ} (h : TReps ky d C F ps xs) (hv : d.rep C F v x) : TReps ky d C F (putK ps (ky.key k) v) (putD xs k x) := by
  unfold putK putD
  have l := h.look k
  rw [valV_any]
  cases q : lkD xs k with
  | none =>
    rw [l.2 q, if_neg (fun z => (nomatch z)), if_neg (fun z => (nomatch z))]
    exact h.snoc hv
  | some y =>
    obtain ⟨w, hw, _⟩ := l.1 y q
    rw [hw]
    exact h.map_put hv
end
@[reducible] def dDK {κ α : Type} {dk : Dat κ} {ky : KeyD κ dk} {d : Dat α} : Dat (DK κ α) := ⟨fun C F v x => ∃ a ps, v = .ref a ∧ Rd F a (.dT ps) ∧ TReps ky d C F ps x.kv, fun {C F F' v x} m ⟨a, ps, e, h, r⟩ => ⟨a, ps, e, Same.rd m h, by
  have mono : ∀ {ps : List (List L2.Key × V)} {xs : List (κ × α)}, TReps ky d C F ps xs → TReps ky d C F' ps xs := by
    intro ps
    induction ps with
    | nil => intro xs h; cases xs with | nil => trivial | cons => exact h.elim
    | cons p ps ih => intro xs h; cases xs with | nil => exact h.elim | cons x xs => exact ⟨h.1, d.mono m h.2.1, ih h.2.2⟩
  exact mono r⟩⟩
theorem TReps.mono' {κ α : Type} {dk : Dat κ} {ky : KeyD κ dk} {d : Dat α} {C : GCtx} {F F' : Hp} (m : Same F F') : ∀ {ps : List (List L2.Key × V)} {xs : List (κ × α)}, TReps ky d C F ps xs → TReps ky d C F' ps xs
  | [], [], _ => trivial
  | _ :: _, _ :: _, h => ⟨h.1, d.mono m h.2.1, TReps.mono' m h.2.2⟩
  | [], _ :: _, h => h.elim
  | _ :: _, [], h => h.elim
@[reducible] def oDK {κ α : Type} {dk : Dat κ} {ky : KeyD κ dk} {d : Dat α} : @OD (DK κ α) (dDK (ky := ky) (d := d)) := @OD.mk (DK κ α) (dDK (ky := ky) (d := d))
  (fun C F v x L => ∃ a ps, v = .ref a ∧ L = [(a, .dT ps)] ∧ TReps ky d C F ps x.kv)
  (fun m ⟨a, ps, e, h, r⟩ => ⟨a, ps, e, h, TReps.mono' m r⟩)
  (fun ⟨a, ps, e, h, r⟩ m k => ⟨a, ps, e, .inl (k (a, .dT ps) (by rw [h]; exact List.mem_cons_self)), TReps.mono' m r⟩)
section
variable {tx : XC → Addr} {Y : YC} {Γ : List Cell} {te ta tb tc tk tv : TE} {κ α τ : Type} [DecidableEq κ] {dk : Dat κ} {ky : KeyD κ dk} {d : Dat α} {js : List Nat} {rest : TS} {K : Kt τ}
end
end G
end

noncomputable section
/-! M55: lists of owned lists: comprehensions that make them, pop, +=; an item that has been handed in and is still read. -/
namespace G
open PySem PySem.Spec PyProof.Rows L2 PySem.W
section
variable {α β τ : Type} {d : Dat α} {d2 : Dat β} {tx : XC → Addr} {Y : YC} {Γ : List Cell} {ti : _root_.L2.TI} {tt : TT} {te ta tl : TE} {g : TG} {vs : List Nat} {rest ts : TS} {js : List Nat} {K : Kt τ} {k : Ks}
/-! comprehensions -/
/-! two slots at once -/
theorem State.two {α1 : Type} {d1 : Dat α1} {e : En} {F : Hp} {σ : _root_.L2.St} {H : Hp} {od1 : @OD α1 d1} {x1 : α1} {c2 : Cell} {j1 j2 : Nat} {p1 : Option V} (s : State Y e F σ H Γ) (hn : j1 ≠ j2) (h1 : Γ[j1]? = some (.own d1 od1 p1 x1)) (h2 : Γ[j2]? = some c2) :
    ∃ v1 o2 L1 L2 rest, σ[j1]? = some (some v1) ∧ σ[j2]? = some o2 ∧ (∀ u, p1 = some u → v1 = u) ∧ od1.orep Y.g F v1 x1 L1 ∧ CellOk Y.g F o2 c2 L2 ∧ Wk e F ((L1 ++ L2) ++ rest) H ∧
    ∀ F' H' o2' c1' c2' L1' L2', Same F F' → Wk e F' ((L1' ++ L2') ++ rest) H' → CellOk Y.g F' (some v1) c1' L1' → CellOk Y.g F' o2' c2' L2' → State Y e F' (σ.set j2 o2') H' ((Γ.set j1 c1').set j2 c2') := by
  obtain ⟨hx, L, k, sl⟩ := s
  obtain ⟨o, A1, Li1, A2, e1, e2, ⟨v1, rfl, hp1, r1⟩, f⟩ := sl.get h1
  subst e2
  have sl1 := f F (some v1) .no [] (Same.refl _) rfl
  rw [set_same e1] at sl1
  have h2' : (Γ.set j1 .no)[j2]? = some c2 := by rw [List.getElem?_set_ne hn]; exact h2
  obtain ⟨o2, B1, Li2, B2, e3, e4, r2, g⟩ := sl1.get h2'
  have e4' : A1 ++ A2 = B1 ++ Li2 ++ B2 := by simpa using e4
  have pm : (A1 ++ Li1 ++ A2).Perm ((Li1 ++ Li2) ++ (B1 ++ B2)) := by
    have q1 : (A1 ++ Li1 ++ A2).Perm (Li1 ++ (A1 ++ A2)) := by
      have := (List.perm_append_comm (l₁ := A1) (l₂ := Li1)).append_right A2
      simpa [List.append_assoc] using this
    have q2 : (B1 ++ Li2 ++ B2).Perm (Li2 ++ (B1 ++ B2)) := by
      have := (List.perm_append_comm (l₁ := B1) (l₂ := Li2)).append_right B2
      simpa [List.append_assoc] using this
    rw [e4'] at q1
    have q3 := q1.trans (q2.append_left Li1)
    simpa [List.append_assoc] using q3
  refine ⟨v1, o2, Li1, Li2, B1 ++ B2, e1, e3, hp1, r1, r2, k.perm2 pm, fun F' H' o2' c1' c2' L1' L2' s' k' r1' r2' => ?_⟩
  have sl2 := g F' o2' c2' L2' s' r2'
  have hlt : j1 < Γ.length := (List.getElem?_eq_some_iff.mp h1).1
  have h3 : ((Γ.set j1 .no).set j2 c2')[j1]? = some .no := by
    rw [List.getElem?_set_ne (Ne.symm hn), List.getElem?_set_self hlt]
  obtain ⟨o3, C1, Lz, C2, e5, e6, hz, q⟩ := sl2.get h3
  have hz : Lz = [] := hz
  subst hz
  have sl3 := q F' (some v1) c1' L1' (Same.refl _) r1'
  rw [set_same (by rw [List.getElem?_set_ne (Ne.symm hn)]; exact e1)] at sl3
  have eΓ : ((Γ.set j1 .no).set j2 c2').set j1 c1' = (Γ.set j1 c1').set j2 c2' := by
    rw [set_set_ne hn, List.set_set, set_set_ne (Ne.symm hn)]
  rw [eΓ] at sl3
  refine ⟨hx, C1 ++ L1' ++ C2, k'.perm2 ?_, sl3⟩
  have e6' : B1 ++ L2' ++ B2 = C1 ++ C2 := by simpa using e6
  have q2' : (L2' ++ (B1 ++ B2)).Perm (B1 ++ L2' ++ B2) := by
    have := (List.perm_append_comm (l₁ := B1) (l₂ := L2')).append_right B2
    simpa [List.append_assoc] using this.symm
  rw [e6'] at q2'
  have q3 : (L1' ++ (C1 ++ C2)).Perm (C1 ++ L1' ++ C2) := by
    have := (List.perm_append_comm (l₁ := C1) (l₂ := L1')).append_right C2
    simpa [List.append_assoc] using this.symm
  have := (q2'.append_left L1').trans q3
  simpa [List.append_assoc] using this
/-! an item handed in and still read: the list with its item v0, which stands for y -/
@[reducible] def dRaw (v0 : V) : Dat Unit := ⟨fun _ _ v _ => v = v0, fun _ h => h⟩
@[reducible] def dAl (v0 : V) (y : α) : Dat (List α) := ⟨fun C F v xs => (dList (d := d)).rep C F v xs ∧ d.rep C F v0 y, fun s h => ⟨(dList (d := d)).mono s h.1, d.mono s h.2⟩⟩
theorem Reps.zipV {C : GCtx} {F : Hp} {v : V} {y : α} : ∀ {vs : List V} {xs : List α}, Reps d C F vs xs → (v, y) ∈ vs.zip xs → d.rep C F v y
  | [], [], _, h => nomatch h
  | u :: us, x :: xs, r, h => by
    rw [List.zip_cons_cons] at h
    rcases List.mem_cons.mp h with e | h
    · cases e; exact r.1
    · exact Reps.zipV r.2 h
  | [], _ :: _, r, _ => r.elim
  | _ :: _, [], r, _ => r.elim
@[reducible] def oAl (v0 : V) (y : α) (od : @OD α d) : @OD (List α) (dAl (d := d) v0 y) := @OD.mk (List α) (dAl (d := d) v0 y)
  (fun C F v xs L => ∃ a vs L', v = .ref a ∧ L = (a, .lst vs) :: L' ∧ OReps od C F vs xs L' ∧ (v0, y) ∈ vs.zip xs)
  (fun m ⟨a, vs, L', e, h, r, z⟩ => ⟨a, vs, L', e, h, r.mono m, z⟩)
  (fun ⟨a, vs, L', e, h, r, z⟩ m k => by
    have r2 := r.view m fun p hp => k p (by rw [h]; exact List.mem_cons_of_mem _ hp)
    exact ⟨(oDeep od).view ⟨a, vs, L', e, h, r⟩ m k, Reps.zipV r2 z⟩)
end
end G
end

noncomputable section
/-! M56: defs that change one of their arguments and hand it back within their result: frozen for the caller from then on. -/
namespace G
open PySem PySem.Spec PyProof.Rows L2 PySem.W
@[reducible] def dPin {α : Type} (u : V) (d : Dat α) : Dat α := ⟨fun C F v x => v = u ∧ d.rep C F v x, fun s h => ⟨h.1, d.mono s h.2⟩⟩
section
variable {tx : XC → Addr} {Y : YC} {Γ : List Cell} {te : TE} {tl : TA} {α β τ σ : Type} {d : Dat α} {rest ts : TS} {js : List Nat} {K : Kt τ} {k : Ks}
end
end G
end

noncomputable section
/-! M57: pairs of owned things hold nothing that is frozen for a borrowing alone. -/
namespace G
open PySem PySem.Spec PyProof.Rows L2 PySem.W
instance mPair {α β : Type} {d1 : Dat α} {d2 : Dat β} {od1 : @OD α d1} {od2 : @OD β d2} [i1 : @OIm α d1 od1] [i2 : @OIm β d2 od2] : @OIm (α × β) (dPair (d1 := d1) (d2 := d2)) (oPair od1 od2) :=
  @OIm.mk (α × β) (dPair (d1 := d1) (d2 := d2)) (oPair od1 od2) fun t ⟨a, v1, v2, L1, L2, e, h, tp, r1, r2⟩ => ⟨a, v1, v2, L1, L2, e, h, tp.imp (t a _) id, i1.oimm t r1, i2.oimm t r2⟩
end G
end

noncomputable section
/-! M58: {key: value for ..} with keys tuples of ints (the walk follows the library's own for other keys, the store's step is the tuples' one). -/
namespace G
open PySem PySem.Spec PyProof.Rows L2 PySem.W
section
variable {X : Cx}
end
section
variable {tx : XC → Addr} {Y : YC} {Γ : List Cell} {te ta tb tl tk tv : TE} {t u tt : TT} {α β κ : Type} [DecidableEq κ] {dk : Dat κ} {ky : KeyD κ dk} {d : Dat α} {d2 : Dat β} {g : TG}
end
end G
end

noncomputable section
/-! M59: an owned dict keyed by tuples is locked for good (nothing writes it any more); walks over its keys. -/
namespace G
open PySem PySem.Spec PyProof.Rows L2 PySem.W
class KeyB (κ : Type) (dk : Dat κ) (ky : KeyD κ dk) where
  bk : ∀ {C : GCtx} {F : Hp} {q : Addr} {k : κ}, F q = some (.tup ((ky.key k).map kV)) → dk.rep C F (.ref q) k
instance kbPair : KeyB (Int × Int) (dPair (d1 := dInt) (d2 := dInt)) kyPair where
  bk := fun {C F q k} h => ⟨q, .int k.1, .int k.2, rfl, .inl h, rfl, rfl⟩
theorem TReps.getV {κ β : Type} {dk : Dat κ} {ky : KeyD κ dk} {d : Dat β} {C : GCtx} {F : Hp} {k : List L2.Key} {v : V} : ∀ {ps : List (List L2.Key × V)} {xs : List (κ × β)} {i : Nat}, TReps ky d C F ps xs → ps[i]? = some (k, v) → ∃ x, xs[i]? = some x ∧ k = ky.key x.1 ∧ d.rep C F v x.2
  | [], [], i, _, e => by simp at e
  | p :: ps, x :: xs, 0, h, e => ⟨x, rfl, by cases (Option.some.inj e); exact h.1, by cases (Option.some.inj e); exact h.2.1⟩
  | p :: ps, x :: xs, i + 1, h, e => TReps.getV (i := i) h.2.2 e
  | [], _ :: _, _, h, _ => h.elim
  | _ :: _, [], _, h, _ => h.elim
/-- a locked dict -/
@[reducible] def dKL {κ α : Type} {dk : Dat κ} {ky : KeyD κ dk} {d : Dat α} : Dat (DK κ α) := ⟨fun C F v x => ∃ a o ps, v = .ref a ∧ F a = some (.frz o (.dT ps)) ∧ TReps ky d C F ps x.kv, fun m ⟨a, o, ps, e, h, r⟩ => ⟨a, o, ps, e, m _ _ h, TReps.mono' m r⟩⟩
@[reducible] def oKL {κ α : Type} {dk : Dat κ} {ky : KeyD κ dk} {d : Dat α} : @OD (DK κ α) (dKL (ky := ky) (d := d)) := @OD.mk (DK κ α) (dKL (ky := ky) (d := d))
  (fun C F v x L => ∃ a o ps, v = .ref a ∧ L = [(a, .frz o (.dT ps))] ∧ TReps ky d C F ps x.kv)
  (fun m ⟨a, o, ps, e, h, r⟩ => ⟨a, o, ps, e, h, TReps.mono' m r⟩)
  (fun ⟨a, o, ps, e, h, r⟩ m k => ⟨a, o, ps, e, k (a, .frz o (.dT ps)) (by rw [h]; exact List.mem_cons_self), TReps.mono' m r⟩)
section
variable {tx : XC → Addr} {Y : YC} {Γ : List Cell} {te ta tb tl tk tv : TE} {t : TS} {κ α τ : Type} {dk : Dat κ} {ky : KeyD κ dk} {d : Dat α} {js : List Nat} {rest : TS} {K : Kt τ}
variable [kb : KeyB κ dk ky]
end
end G
end

noncomputable section
/-! M60: a return of three owned locals. -/
namespace G
open PySem PySem.Spec PyProof.Rows L2 PySem.W
section
variable {Y : YC} {Γ : List Cell} {k : Ks} {α β γ : Type} {d1 : Dat α} {d2 : Dat β} {d3 : Dat γ}
end
section
variable {tx : XC → Addr} {Y : YC} {Γ : List Cell} {α β γ : Type} {d1 : Dat α} {d2 : Dat β} {d3 : Dat γ} {rest : TS} {js : List Nat}
end
/-! if not f(.., xs, ..) -/
section
variable {tx : XC → Addr} {Y : YC} {Γ : List Cell} {tl : TA} {α τ : Type} {d : Dat α} {K : Kt τ} {rest t1 t2 : TS} {js : List Nat}
end
end G
end

noncomputable section
/-! M61: loops left by a return in defs that change an argument. -/
namespace G
open PySem PySem.Spec PyProof.Rows L2 PySem.W
section
variable {tx : XC → Addr} {Y : YC} {Γ : List Cell} {js : List Nat} {rest ts : TS} {g : TG} {te : TE} {α β τ σ ρ μ : Type} {d : Dat α} {K : Kt τ}
section
variable {js' : List Nat} {cells : σ → List Cell} {s : σ} {rt : ρ → Cell → List Cell → Prop}
end
end
end G
end

noncomputable section
/-! M62: sorted(set(xs)), xs a list of pairs of ints below 64. -/
namespace L2
open PySem PySem.Spec PyProof.Rows
section
variable {X : Cx}
end
end L2
namespace G
open PySem PySem.Spec PyProof.Rows L2 PySem.W
def toP (q : Addr × List Int) : Int × Int := (q.2.getD 0 0, q.2.getD 1 0)
def OkQ (C : GCtx) (F : Hp) (q : Addr × List Int) : Prop := q.2 = [(toP q).1, (toP q).2] ∧ TpA C.K F q.1 [V.int (toP q).1, V.int (toP q).2]
section
variable {tx : XC → Addr} {Y : YC} {Γ : List Cell} {ta : TE}
end
end G
end

noncomputable section
/-! M63: xs[:0:-1]. -/
namespace L2
open PySem PySem.Spec PyProof.Rows
section
variable {X : Cx}
end
end L2
namespace G
open PySem PySem.Spec PyProof.Rows L2 PySem.W
section
variable {tx : XC → Addr} {Y : YC} {Γ : List Cell} {te : TE} {α : Type} {d : Dat α}
end
end G
end

noncomputable section
/-! M64: a return of a new thing and an owned local. -/
namespace G
open PySem PySem.Spec PyProof.Rows L2 PySem.W
section
variable {Y : YC} {Γ : List Cell} {k : Ks} {te : TE} {α β : Type} {d1 : Dat α} {d2 : Dat β}
end
section
variable {tx : XC → Addr} {Y : YC} {Γ : List Cell} {te : TE} {α β : Type} {d1 : Dat α} {d2 : Dat β} {rest : TS} {js : List Nat}
end
end G
end

noncomputable section
/-! M65: max(xs, default=d); len(set(pairs)); d[k] op= v for dicts keyed by tuples; an own dict keyed by tuples read and walked within a comprehension. -/
namespace L2
open PySem PySem.Spec PyProof.Rows
section
variable {prog : Program} {w : World} {A : Around} {E : Value → Shared → Prop} {s : Shared} {l : Addr} {its : List Value} {ns : List Int} {Q : Value → Shared → Prop}
end
section
variable {X : Cx}
end
end L2
namespace G
open PySem PySem.Spec PyProof.Rows L2 PySem.W
/-! ### max with a default -/
section
variable {tx : XC → Addr} {Y : YC} {Γ : List Cell} {ta tb te : TE} {α β τ κ : Type} {d : Dat α} {d2 : Dat β}
/-! ### len(set(pairs)) -/
end
end G
end

noncomputable section
/-! M66: d[k] op= v for dicts keyed by tuples; an own dict keyed by tuples, read and walked within a comprehension (locked meanwhile). -/
namespace L2
open PySem PySem.Spec PyProof.Rows
end L2
namespace G
open PySem PySem.Spec PyProof.Rows L2 PySem.W
section
variable {tx : XC → Addr} {Y : YC} {Γ : List Cell} {ta tb tl te tk tv : TE} {α β τ κ : Type} [DecidableEq κ] {dk : Dat κ} {ky : KeyD κ dk} {d : Dat α} {d2 : Dat β} {js vs : List Nat} {rest : TS} {K : Kt τ}
/-! ### locked for one expression -/
/-! ### a comprehension over the keys -/
theorem comp_turnT {g : TG} {tt : TT} {d : Dat α} {e : En} {F1 : Hp} {σ : _root_.L2.St} {H1 : Hp} {vs : List Nat} {D : Addr} {x : α} {v : V} {I I' : List β → Prop} (s1 : State Y e F1 σ H1 Γ) (hT : Tg g vs)
    (hs : ∀ ys, I ys → A Y g (wipeC Γ vs) d x fun Γ2 => T Y tt Γ2 fun b => (b = true → W Y te Γ2 d2 fun y => ys.length < PySem.sizeLine ∧ I' (ys ++ [y])) ∧ (b = false → I' ys)) {H : Hp} (rx : ∀ F', Same F1 F' → (∀ a xs, H a = some (.tup xs) → F' a = some (.tup xs)) → d.rep Y.g F' v x)
    (h : ∃ F' acc ys, Wk ⟨F1, H1, []⟩ F' [(D, .lst acc)] H ∧ Reps d2 Y.g F' acc ys ∧ I ys) :
    g v (wipe σ vs) H fun σ2 H2 => wipe σ2 vs = wipe σ vs ∧ tt σ2 H2 fun b H3 =>
      if b = true then te σ2 H3 fun y H4 => ∃ acc, H4 D = some (.lst acc) ∧ acc.length < PySem.sizeLine ∧ (∃ F' acc' ys, Wk ⟨F1, H1, []⟩ F' [(D, .lst acc')] (upd H4 D (.lst (acc ++ [y]))) ∧ Reps d2 Y.g F' acc' ys ∧ I' ys) else (∃ F' acc ys, Wk ⟨F1, H1, []⟩ F' [(D, .lst acc)] H3 ∧ Reps d2 Y.g F' acc ys ∧ I' ys) := by
  obtain ⟨F', acc, ys, kw, r, hi⟩ := h
  have st := (s1.growL kw).wipe vs
  have key := hs ys hi e F' _ H v st (rx F' kw.ff kw.tp) (fun σ2 H2 => tt σ2 H2 fun b H3 =>
      if b = true then te σ2 H3 fun y H4 => ∃ acc, H4 D = some (.lst acc) ∧ acc.length < PySem.sizeLine ∧ (∃ F' acc' ys, Wk ⟨F1, H1, []⟩ F' [(D, .lst acc')] (upd H4 D (.lst (acc ++ [y]))) ∧ Reps d2 Y.g F' acc' ys ∧ I' ys) else (∃ F' acc ys, Wk ⟨F1, H1, []⟩ F' [(D, .lst acc)] H3 ∧ Reps d2 Y.g F' acc ys ∧ I' ys)) fun σ2 Γ2 h2 st2 => by
    refine h2 e F' σ2 H st2 _ fun b F3 H3 kb g3 => ?_
    have kw3 := kw.trans0 g3
    cases b with
    | false => exact ⟨F3, acc, ys, kw3, r.mono g3.ff, kb.2 rfl⟩
    | true =>
      refine kb.1 rfl e F3 σ2 H3 (st2.grow g3) _ fun y F4 H4 yv ⟨hl, ky⟩ g4 ry => ?_
      have kw4 := kw3.trans0 g4
      have hD : H4 D = some (.lst acc) := (kw4.ow (D, .lst acc) (by simp)).2.1
      exact ⟨acc, hD, by rw [r.len]; exact hl, F4, acc ++ [y], ys ++ [yv], kw4.put (fun _ z => by cases z), (r.mono (g3.ff.trans g4.ff)).append (Reps.one ry), ky⟩
  have key2 := hT v _ H _ key
  rw [wipe_wipe] at key2
  exact key2
variable [kb : KeyB κ dk ky]
/-! len of an own dict keyed by tuples -/
end
end G
end

noncomputable section
/-! M67: a return of new, owned local, new; for over a list within owned plain data that are changed later. -/
namespace G
open PySem PySem.Spec PyProof.Rows L2 PySem.W
section
variable {Y : YC} {Γ : List Cell} {k : Ks} {te te3 : TE} {α β γ : Type} {d1 : Dat α} {d2 : Dat β} {d3 : Dat γ}
end
section
variable {tx : XC → Addr} {Y : YC} {Γ : List Cell} {te te3 : TE} {α β γ : Type} {d1 : Dat α} {d2 : Dat β} {d3 : Dat γ} {rest : TS} {js : List Nat}
end
mutual
theorem OUr.frz {C : GCtx} {F : Hp} : ∀ (x : PyData) (v : V) (L : LO), G.noL x = true → OUr C F x v L → DU C F x v
  | .none, _, _, _, h => h.1
  | .bool _, _, _, _, h => h.1
  | .int _, _, _, _, h => h.1
  | .str _, _, _, _, h => h.1
  | .list _, _, _, n, _ => by cases n
  | .tuple ds, v, L, n, ⟨a, vs, e, h, r⟩ => ⟨a, vs, e, h, OUrs.frz ds vs L n r⟩
  | .dict _, _, _, _, h => h.elim
theorem OUrs.frz {C : GCtx} {F : Hp} : ∀ (xs : List PyData) (vs : List V) (L : LO), noLs xs = true → OUrs C F xs vs L → DUs C F xs vs
  | [], [], _, _, _ => trivial
  | d :: ds, v :: vs, _, n, ⟨L1, L2, _, h1, h2⟩ => by
    have n2 : (G.noL d && noLs ds) = true := n
    rw [Bool.and_eq_true] at n2
    exact ⟨OUr.frz d v L1 n2.1 h1, OUrs.frz ds vs L2 n2.2 h2⟩
  | [], _ :: _, _, _, h => h.elim
  | _ :: _, [], _, _, h => h.elim
end
section
variable {tx : XC → Addr} {Y : YC} {Γ : List Cell} {α : Type} {d : Dat α} {g : TG} {ts : TS}
end
end G
end

noncomputable section
/-! M68: comprehensions over range(a, b). -/
namespace G
open PySem PySem.Spec PyProof.Rows L2 PySem.W
section
variable {Y : YC} {Γ : List Cell} {β : Type} {d2 : Dat β} {ta tb te : TE} {tt : TT} {g : TG}
end
section
variable {tx : XC → Addr} {Y : YC} {Γ : List Cell} {ta tb : TE}
end
end G

noncomputable section
/-! M69: sorted(d) of a locked dict keyed by tuples; d.get(k, x) of dicts keyed by tuples. -/
namespace L2
open PySem PySem.Spec PyProof.Rows PySem.W
section
variable {X : Cx}
end
end L2
namespace G
open PySem PySem.Spec PyProof.Rows L2 PySem.W
instance kbTup : KeyB (Tup Int) (dTup (d := dInt)) kyTup where
  bk := fun {C F q k} h => ⟨q, k.l.map V.int, rfl, .inl (by
    have : ((KeyD.key (dTup (d := dInt)) k : List L2.Key)).map kV = k.l.map V.int := by
      show (k.l.map Sum.inl).map kV = _
      rw [List.map_map]
      rfl
    rw [this] at h
    exact h), by
      have : ∀ l : List Int, Reps dInt C F (l.map V.int) l := fun l => by
        induction l with
        | nil => trivial
        | cons x l ih => exact ⟨rfl, ih⟩
      exact this k.l⟩
instance ltTup {α : Type} [DecidableEq α] [OLt α] : OLt (Tup α) := ⟨fun x y => ltL x.l y.l⟩
instance doTup {α : Type} {d : Dat α} [de : @DE α d] [o : @DO α d de] : @DO (Tup α) dTup deTup := @DO.mk _ _ deTup fun x y => by
  show alike (.tuple (x.l.map de.toD)) (.tuple (y.l.map de.toD)) = true
  rw [alike]
  exact alk_all x.l y.l
instance dltTup {α : Type} [DecidableEq α] [OLt α] {d : Dat α} [de : @DE α d] [o : @DO α d de] [l : @DLt α d de _] : @DLt (Tup α) dTup deTup _ := @DLt.mk _ _ deTup _ fun x y => by
  show dataLt (.tuple (x.l.map de.toD)) (.tuple (y.l.map de.toD)) = ltL x.l y.l
  rw [dataLt_tuple]
  exact dlt_all x.l y.l
/-- keys that are not empty -/
class KNe (κ : Type) {dk : Dat κ} [de : @DE κ dk] where
  ne : κ → Bool
  is : ∀ k, ne k = true → ∃ y r, de.toD k = .tuple (y :: r)
instance kneTup : @KNe (Tup Int) (dTup (d := dInt)) deTup := @KNe.mk _ _ deTup (fun t => !t.l.isEmpty) fun k h => by
  obtain ⟨l⟩ := k
  cases l with
  | nil => cases h
  | cons x l => exact ⟨_, _, rfl⟩
instance knePair : @KNe (Int × Int) (dPair (d1 := dInt) (d2 := dInt)) dePair := @KNe.mk _ _ dePair (fun _ => true) fun k _ => ⟨_, _, rfl⟩
section
variable {tx : XC → Addr} {Y : YC} {Γ : List Cell} {te ta tb tc : TE} {κ α : Type} [DecidableEq κ] {dk : Dat κ} {ky : KeyD κ dk} {d : Dat α}
/-! d.get(k, x) -/
end
end G
end

noncomputable section
/-! M70: a < b < c < d of whole numbers, as a test. -/
namespace L2
open PySem PySem.Spec PyProof.Rows
section
variable {X : Cx} {a b c d : Expr} {ta tb tc td : TE} {pos : Pos}
end
end L2
namespace G
open PySem PySem.Spec PyProof.Rows L2 PySem.W
section
variable {tx : XC → Addr} {Y : YC} {Γ : List Cell} {ta tb tc td : TE}
end
section
variable {tx : XC → Addr} {Y : YC} {Γ : List Cell} {ta tb tc : TE} {κ α : Type} [DecidableEq κ] {dk : Dat κ} {ky : KeyD κ dk} {d : Dat α}
end
end G
end

noncomputable section
/-! M71: calls with keyword-only arguments f(a, x = .., y = ..) of defs that may raise. -/
namespace L2
open PySem PySem.Spec PyProof.Rows
def tCallNS (n m : Nat) (sp : Sp) (gV : List V → List V → List V) (E : St → XK) (t tk : TA) : TE := fun σ H Q => t σ H fun vs H1 => tk σ H1 fun zs H2 => vs.length = n ∧ zs.length = m ∧ sp (gV vs zs) H2 Q (E σ)
section
variable {X : Cx} {CX : CXT} {k n : Nat} {f : Addr} {fd : FuncData} {ps ks : List Str} {sp : Sp} {E : St → XK} {x : Str} {p pos : Pos} {e : Expr} {es : List Expr} {kws : List Keyword} {t tk : TA} {ta tb tc : TE} {g : List Value → List Value → List Value} {gV : List V → List V → List V}
theorem kw1 : tCallNS 1 1 sp (fun vs zs => vs ++ zs ++ [.non]) E (tCons ta tNil) (tCons tb tNil) = tCallS sp E (tCons ta (tCons tb (tCons (tC .non) tNil))) := by
  funext σ H Q
  simp [tCallNS, tCallS, tCons, tNil, tC]
theorem kw2 : tCallNS 1 1 sp (fun vs zs => vs ++ [.non] ++ zs) E (tCons ta tNil) (tCons tc tNil) = tCallS sp E (tCons ta (tCons (tC .non) (tCons tc tNil))) := by
  funext σ H Q
  simp [tCallNS, tCallS, tCons, tNil, tC]
end
section
variable {K : PySem.W.Frag} {x qual : Str} {st : Stmt} {f : Addr} {fd : FuncData} {ps : List Str}
theorem Fun.kb (F : Fun K x qual st f fd) {D : Addr} (hD : fd.kwdefaults = .ref D) (n : Nat) (ks : List Str) (ms : List (Str × V)) (g : {α : Type} → List α → List α → List α → List α) (hq : ∀ q ∈ ms, ∃ u, PySem.W.nsIn K D q.1 = some (some u) ∧ RelV q.2 u)
    (hrel : ∀ {vs mz zs : List V} {us mv ws : List Value}, Vals vs us → Vals mz mv → Vals zs ws → Vals (g vs mz zs) (g us mv ws))
    (h : ∀ (doc pm : Value) (an : Option Addr) (cdv ct : Value) (us mv ws : List Value), us.length = n → mv.length = ms.length → ws.length = ks.length →
      KwChain D ((ms.map (·.1)).zip mv) (bindArgs (PySem.W.fnOf x qual (defArgs st) (defBody st) (defScope st) .none (.ref D) doc pm an cdv ct) ⟨us, ks.zip ws⟩) (ps.zip (g us mv ws))) :
    ∃ g', KBn K fd ps n ks g' (fun vs zs => g vs (ms.map (·.2)) zs) := by
  obtain ⟨oc, od, kV, doc, pm, an, cdv, ct, osl, rfl, lk, hcd⟩ := F.ex
  have e : kV = .ref D := hD
  subst e
  obtain ⟨mv, hl, rk, hks⟩ := kwd_vals hq
  refine ⟨fun us ws => g us mv ws, ⟨fun s us ws X l1 l2 => ?_, fun r1 r2 => hrel r1 rk r2⟩⟩
  exact BindsTo.of_looks fun M => KwChain.looks X hks (h doc pm an cdv ct us mv ws l1 hl l2)
end
end L2
end

noncomputable section
/-! M72: a triple whose third part may be None, from one where it is not. -/
namespace G
open PySem PySem.Spec PyProof.Rows L2 PySem.W
section
variable {tx : XC → Addr} {Y : YC} {Γ : List Cell} {te : TE} {α β γ : Type} {d1 : Dat α} {d2 : Dat β} {d3 : Dat γ}
end
end G

noncomputable section
/-! M73: xs[i][j] = e and xs[i][j] += e of lists that own lists; f'{i:spec}', str(i), s * n, s.join(xs), len(s). -/
namespace L2
open PySem PySem.Spec PyProof.Rows
section
variable {X : Cx}
end
end L2
namespace G
open PySem PySem.Spec PyProof.Rows L2 PySem.W
section
variable {Y : YC} {Γ : List Cell} {k : Ks} {ta tb te : TE} {α : Type} {d : Dat α}
end
section
variable {tx : XC → Addr} {Y : YC} {Γ : List Cell} {ta tb te : TE} {α τ : Type} {d : Dat α} {rest : TS} {js : List Nat} {K : Kt τ}
/-! texts -/
theorem Reps.strs {C : GCtx} {F : Hp} : ∀ {vs : List V} {xs : List Str}, Reps dStr C F vs xs → vs = xs.map V.str
  | [], [], _ => rfl
  | v :: vs, x :: xs, h => by
    cases (show v = V.str x from h.1)
    rw [Reps.strs h.2]
    rfl
  | [], _ :: _, h => h.elim
  | _ :: _, [], h => h.elim
def M.join (a : Str) (ys : List Str) : M Str := M.asrt ((ys.map (·.length)).sum + ys.length * a.length ≤ 16777216) (.ok (Txt.join a ys))
end
section
variable {α β : Type} {d : Dat α} {tx : XC → Addr} {Y : YC} {Γ : List Cell} {tl : TE}
end
end G
end

noncomputable section
/-! M74: lists whose items are owned or only read (a mark tells which); for r in xs: if r is not None: r.reverse(); r.append(n). -/
namespace G
open PySem PySem.Spec PyProof.Rows L2 PySem.W
/-- an item, and whether it is owned -/
structure Fl (α : Type) where
  x : α
  o : Bool
@[reducible] def dFl {α : Type} (d : Dat α) : Dat (Fl α) := ⟨fun C F v y => d.rep C F v y.x, fun s h => d.mono s h⟩
@[reducible] def oFl {α : Type} {d : Dat α} (od : @OD α d) : @OD (Fl α) (dFl d) := @OD.mk (Fl α) (dFl d)
  (fun C F v y L => (y.o = true ∧ od.orep C F v y.x L) ∨ (y.o = false ∧ L = [] ∧ d.rep C F v y.x))
  (fun s h => h.imp (fun ⟨a, b⟩ => ⟨a, od.omono s b⟩) fun ⟨a, b, c⟩ => ⟨a, b, d.mono s c⟩)
  (fun h s k => h.elim (fun ⟨_, b⟩ => od.view b s k) fun ⟨_, _, c⟩ => d.mono s c)
section
variable {Y : YC} {Γ : List Cell} {k : Ks} {te tb : TE} {α : Type} {d : Dat α}
/-- what the loop makes of an item -/
def Fl.turn (n : Int) (y : Fl (Opt (List Int))) : Fl (Opt (List Int)) := match y.x with
  | .none => y
  | .some xs => ⟨.some (xs.reverse ++ [n]), y.o⟩
end
instance noDeep {α : Type} {d : Dat α} {od : @OD α d} [n : NoIns od] : NoIns (oDeep od) := ⟨fun {C F v x L} ⟨a, vs, L2, h1, h2, r⟩ p hp => by
  subst h2
  rcases List.mem_cons.mp hp with rfl | hp
  · rintro ⟨_, _, _, z⟩
    cases z
  · have go : ∀ (xs : List α) (vs : List V) (L : LO), OReps od C F vs xs L → ∀ p ∈ L, ¬ ∃ C dx fs, p.2 = .ins C dx fs := by
      intro xs
      induction xs with
      | nil =>
        intro vs L r p hp
        cases vs with
        | nil => rw [show L = [] from r] at hp; cases hp
        | cons => exact r.elim
      | cons x xs ih =>
        intro vs L r p hp
        cases vs with
        | nil => exact r.elim
        | cons v vs =>
          obtain ⟨L1, L2, e, h1, h2⟩ := r
          subst e
          rcases List.mem_append.mp hp with hp | hp
          · exact n.no h1 p hp
          · exact ih vs L2 h2 p hp
    exact go _ _ _ r p hp⟩
instance noOpt {α : Type} {d : Dat α} {od : @OD α d} [n : NoIns od] : NoIns (oOpt od) := ⟨fun {C F v x L} h p hp => by
  cases x with
  | none => rw [show L = [] from h.2] at hp; cases hp
  | some y => exact n.no (show od.orep C F v y L from h) p hp⟩
instance noFl {α : Type} {d : Dat α} {od : @OD α d} [n : NoIns od] : NoIns (oFl od) := ⟨fun {C F v x L} h p hp => by
  rcases h with ⟨_, h⟩ | ⟨_, h, _⟩
  · exact n.no h p hp
  · subst h; cases hp⟩
section
variable {tx : XC → Addr} {Y : YC} {Γ : List Cell} {te tb : TE} {α τ : Type} {d : Dat α} {rest : TS} {js : List Nat} {K : Kt τ}
end
end G
end

noncomputable section
/-! M75: a call f(a) of a def with two keyword-only arguments, neither given; x is None for data that is never None. -/
namespace L2
open PySem PySem.Spec PyProof.Rows
section
variable {X : Cx} {CX : CXT} {k : Nat} {f : Addr} {fd : FuncData} {ps : List Str} {sp : Sp} {E : St → XK} {x : Str} {p pos : Pos} {ta : TE}
theorem kw0 : tCallNS 1 0 sp (fun vs zs => vs ++ [.non, .non] ++ zs) E (tCons ta tNil) tNil = tCallS sp E (tCons ta (tCons (tC .non) (tCons (tC .non) tNil))) := by
  funext σ H Q
  simp [tCallNS, tCallS, tCons, tNil, tC]
end
end L2
end

noncomputable section
/-! M76: the truth of an instance by an own __bool__, as a test and by bool(o); bool(t), t a tuple. -/
namespace G
open PySem PySem.Spec PyProof.Rows L2 PySem.W
section
variable {prog : Program} {w : World} {M : Model} {A : Around} {E : Value → Shared → Prop} {s : Shared} {K : Frag} {x C L f : Addr} {h₀ : Heap} {m : Str → Option Value} {ox : Obj} {od : Option Obj}
theorem truthy_fn {Q : Bool → Shared → Prop} (F : Fr h₀ L s.heap m) (X₀ : K.In h₀) (I : InstAt s.heap x ox C od) (hs : findIn K (.ref C) "__bool__" = some (some (.ref f))) (hf : isFn K (.ref f) = true)
    (h : wpAny M A (call (.ref f) [.ref x]) (fun r s' => ∃ b, r = .bool b ∧ Q b s') E s) : wpAny M A (truthy (.ref x)) Q E s := by
  unfold truthy
  first
    | refine wpAny_bind (special_fn (X₀.keeps F.keep) I hs (beq_iff_eq.mp hf) (wpAny_mono h (fun r s' ⟨b, e, q⟩ => ?_) fun _ _ z => z))
    | refine wpAny_bind (wpAny_pure (wpAny_bind (special_fn (X₀.keeps F.keep) I hs (beq_iff_eq.mp hf) (wpAny_mono h (fun r s' ⟨b, e, q⟩ => ?_) fun _ _ z => z))))
  subst e
  exact wpAny_pure q
theorem meets_bool {y : Value} : MeetsIn prog w (Builtin.«bool.__new__» ⟨[.type "bool", y], []⟩) (fun A R s => wpAny (model prog w) A.in1 (truthy y) (fun b s' => R (.ok (.ret (.bool b))) s') (fun e s' => R (.error e) s') s) := fun A R s hs => by
  have f1 := PySem.F.conv_sub_bool
  obtain ⟨hp, g, d, tk, os⟩ := s
  have key : ∀ {Q : Bool → Shared → Prop}, (∀ b s', R (.ok (.ret (.bool b))) s' → Q b s') → wpAny (model prog w) A.in1 (truthy y) Q (fun e s' => R (.error e) s') ⟨hp, g, d, tk, os⟩ := fun hq => wpAny_mono hs hq fun _ _ z => z
  wp_walk using (key fun b s' hr => ?_)
  exact hr
theorem call_bool_t {y : Value} {Q : Value → Shared → Prop} (h : wpAny (model prog w) A.in1.in1 (truthy y) (fun b s' => Q (.bool b) s') E s) : wpAny (model prog w) A (call (.type "bool") [y]) Q E s :=
  callType_newIn PySem.F.called_bool PySem.F.newNe_bool (PySem.F.typeCall_bool_1 y) (PySem.F.newCall_bool_1 y) (fun obj => PySem.F.args_object_init_2 obj y) PySem.F.entry_bool_new meets_bool (wpAny_mono h (fun b s' q => ⟨rfl, q⟩) fun _ _ z => z)
end
end G
namespace L2
open PySem PySem.Spec PyProof.Rows
open G (EF inst_of truthy_fn call_bool_t)
section
variable {X : Cx} {CXt : CXT} {k : Nat} {f C : Addr} {fd : FuncData} {ps : List Str} {sp : Sp} {ta : TE} {e : Expr}
end
end L2
namespace G
open PySem PySem.Spec PyProof.Rows L2 PySem.W
section
variable {tx : XC → Addr} {Y : YC} {Γ : List Cell} {ta : TE} {α β : Type} {d : Dat α} {d2 : Dat β} {C0 : Addr} {ns : List Str} {sp : Sp}
end
end G
end

noncomputable section
/-! M77: n * o, n a whole number, o an instance whose class has __rmul__. -/
namespace G
open PySem PySem.Spec PyProof.Rows L2 PySem.W
theorem mul_ins (a : Int) (t : Tok) (l C dx : Addr) :
    Meets (Builtin.«int.__mul__» ⟨[.int a t, .ref l], []⟩) (fun _ R s => s.heap.get? l = some (instObj C dx) ∧ R (.ok (.ret Value.notImplemented)) s) :=
  .of_wp fun prog w A R s h => by
    obtain ⟨hp, g, d, tk, os⟩ := s
    obtain ⟨hl, h⟩ := h
    unfold instObj at hl
    wp_walk
    exact ⟨_, rfl, h⟩
section
variable {prog : Program} {w : World} {A : Around} {E : Value → Shared → Prop} {s : Shared} {K : Frag} {x y C dx L f g0 : Addr} {h₀ : Heap} {m : Str → Option Value} {od : Option Obj}
theorem mul_call {n : Int} {t : Tok} {Q2 : Option Value → Shared → Prop} (hy : s.heap.get? y = some (instObj C dx)) (q : Q2 none s) : wpAny (model prog w) A (call (.builtin "int.__mul__") [.int n t, .ref y]) (fun v s' => v = .notImplemented ∧ Q2 none s') E s := by
  refine call_meets (S := fun _ R s => s.heap.get? y = some (instObj C dx) ∧ R (.ok (.ret Value.notImplemented)) s) PySem.F.slot_int_mul (typeIs_int s n t) PySem.F.entry_int_mul (PySem.F.args_int_mul_2 _ _) (mul_ins n t y C dx) ?_
  exact ⟨hy, rfl, q⟩
theorem own_rmul {n : Int} {t : Tok} {Q : Value → Shared → Prop} (F : Fr h₀ L s.heap m) (X₀ : K.In h₀) (I : InstAt s.heap y (instObj C dx) C od) (hc : selfFirst K C = true)
    (hs : findIn K (.ref C) (PySem.dunder "mul") = some (some (.ref g0))) (hr : findIn K (.ref C) (dunderR "mul") = some (some (.ref f))) (hf : isFn K (.ref f) = true) (hsub : subIn K (.ref C) (.type "int") = some false)
    (h : wpAny (model prog w) A (call (.ref f) [.ref y, .int n t]) (PySem.W.CmpBack Q) E s) : wpAny (model prog w) A (binaryOp .Mult (.int n t) (.ref y)) Q E s := by
  have hK := X₀.keeps F.keep
  obtain ⟨cd, rest, hcd, hm⟩ := ksp_first hc
  have one := ksp_try hK I hr hf h
  have ht : s.TypeIs (.int n t) "int" := typeIs_int s n t
  have decl : ∀ {Q2 : Option Value → Shared → Prop}, Q2 none s → wpAny (model prog w) A (tryMethod (.int n t) (PySem.dunder "mul") (.ref y)) Q2 E s := fun {Q2} q => by
    refine wpAny_tryMethod_declines (M := model prog w) (T := "int") (id := "int.__mul__") (name := PySem.dunder "mul") (Q := Q2) ?_ ?_ ?_
    · exact ht
    · exact PySem.F.slot_int_mul
    · exact mul_call (dx := dx) (C := C) I.at_ q
  obtain ⟨hh, g, d, tt, os⟩ := s
  have L1 : Looks (model prog w) hh (typeOf (.int n t)) (.type "int") := Looks.of_pure rfl
  have L2 : Looks (model prog w) hh (typeOf (.ref y)) (.ref C) := I.type
  have L3 : fillsNumberSlot (.type "int") "mul" = pure true := PySem.F.fills_int_mul
  have L4 : Looks (model prog w) hh (fillsNumberSlot (.ref C) "mul") true := fills_K hK hcd hm hs
  have L5 : Looks (model prog w) hh (isSubtype (.ref C) (.type "int")) false := looks_subIn hK hsub
  have hne : (Value.type "int" == Value.ref C) = false := rfl
  have L7 : numberSlotInPython (.type "int") "mul" = pure false := rfl
  simp only [binaryOp, show Operator.Mult.info = ("*", "mul") from rfl]
  refine wpAny_holding (wpAny_bind ?_)
  unfold binaryOp1
  refine wpAny_bind (L1.at (wpAny_bind (L2.at (wpAny_bind (wpAny_of_eq L3 ?_)))))
  simp only [hne, Bool.false_eq_true, if_false]
  refine wpAny_bind (L4.at ?_)
  simp only [Bool.and_self, if_true]
  refine wpAny_bind (L5.at ?_)
  simp only [Bool.false_eq_true, if_false, pure_bind, Bool.not_false, Bool.and_self, if_true, L7]
  refine wpAny_bind (decl ?_)
  refine wpAny_bind (wpAny_mono one (fun r s' hr' => ?_) fun _ _ e => e)
  obtain ⟨v, rfl, hq⟩ := hr'
  ksp_lk
  exact hq
end
end G
namespace L2
open PySem PySem.Spec PyProof.Rows
open G (EF inst_of own_rmul relV_back)
section
variable {X : Cx} {CXt : CXT} {k : Nat} {f g0 C : Addr} {fd : FuncData} {ps : List Str} {sp : Sp} {E : L2.St → XK} {pos : Pos} {a b : Expr} {ta tb : TE}
end
end L2
namespace G
open PySem PySem.Spec PyProof.Rows L2 PySem.W
section
variable {tx : XC → Addr} {Y : YC} {Γ : List Cell} {ta tb : TE} {α β : Type} {d : Dat α} {d2 : Dat β} {C0 : Addr} {ns : List Str} {sp : Sp} {E : L2.St → XK}
end
end G
end

noncomputable section
/-! M78: slices of tuples (not the whole). -/
namespace G
open PySem PySem.Spec PyProof.Rows L2 PySem.W
section
variable {tx : XC → Addr} {Y : YC} {Γ : List Cell} {te : TE} {α : Type} {d : Dat α}
end
end G
end

noncomputable section
/-! M79: sorted(d) of a dict keyed by tuples whose one key may be the empty tuple. -/
namespace L2
open PySem PySem.Spec PyProof.Rows PySem.W
section
variable {prog : Program} {w : World} {A : Around} {s : Shared}
end
section
variable {X : Cx}
end
end L2
namespace G
open PySem PySem.Spec PyProof.Rows L2 PySem.W
section
variable {tx : XC → Addr} {Y : YC} {Γ : List Cell} {te ta tb tc : TE} {κ α : Type} [DecidableEq κ] {dk : Dat κ} {ky : KeyD κ dk} {d : Dat α}
end
end G
end

/-! M80: y = x, where x is not read any more: y owns what x owned. -/
namespace G
open PySem L2
section
variable {tx : XC → Addr} {Y : YC} {Γ : List Cell} {α τ : Type} {d : Dat α} {rest : TS} {js : List Nat} {K : Kt τ}
end
end G

noncomputable section
/-! M81: row = xs[a]; row[b] = row[c] op e, xs a list of owned lists of ints: the row is not read any more. -/
namespace G
open PySem PySem.Spec PyProof.Rows L2 PySem.W
section
variable {Y : YC} {Γ : List Cell} {k : Ks} {ta tb tb2 te : TE} {ts : TS}
end
section
variable {tx : XC → Addr} {Y : YC} {Γ : List Cell} {ta tb tb2 te : TE} {τ : Type} {rest : TS} {js : List Nat} {K : Kt τ}
end
end G

section
set_option maxHeartbeats 2000000
noncomputable section
/-! M82: set comprehensions of ints with two fors. -/
namespace L2
open PySem PySem.Spec PyProof.Rows
section
variable {prog : Program} {w : World} {A : Around} {R : Result → Shared → Prop} {s : Shared} {elt t0 i0 t1 i1 : Expr} {ifs0 ifs1 : List Expr} {scope : Scope} {pos : Pos} {it acc : Value} {env : Env}
end
section
variable {X : Cx}
end
end L2
namespace G
open PySem PySem.Spec PyProof.Rows L2 PySem.W
section
variable {Y : YC} {Γ : List Cell} {α γ : Type} {d : Dat α} {d1 : Dat γ} {g g1 : TG} {tt tt1 : TT} {te : TE} {ti ti1 : L2.TI} {vs vs1 : List Nat}
end
section
variable {tx : XC → Addr} {Y : YC} {Γ : List Cell} {α γ : Type} {d : Dat α} {d1 : Dat γ} {g g1 : TG} {tt tt1 : TT} {te : TE} {ti ti1 : L2.TI} {vs vs1 : List Nat}
end
end G
end

noncomputable section
/-! M83: sorted(xs), xs a list of tuples of ints, none of them empty or the empty one alone; xs.count(y) of data. -/
namespace G
open PySem PySem.Spec PyProof.Rows L2 PySem.W
section
variable {X : Cx}
end
end G
namespace L2
open PySem PySem.Spec PyProof.Rows PySem.W
section
variable {X : Cx}
end
end L2
namespace G
open PySem PySem.Spec PyProof.Rows L2 PySem.W
section
variable {tx : XC → Addr} {Y : YC} {Γ : List Cell} {ta tb te : TE} {α : Type} {d : Dat α}
/-! xs.count(y) -/
instance dlTup {α : Type} {d : Dat α} [de : @DE α d] [dl : @DL α d de] : @DL (Tup α) dTup deTup := @DL.mk _ _ deTup fun x => by
  show PyData.canLay0 (.tuple (x.l.map de.toD)) = true
  simp [PyData.canLay0, dlAll x.l]
end
end G

noncomputable section
/-! M84: tuples of a word and numbers behind it: ("link", 0), ("beside", 0, 1), .. -/
namespace G
open PySem PySem.Spec PyProof.Rows L2 PySem.W
structure Wt where
  w : Str
  l : List Int
  deriving DecidableEq
instance dWt : Dat Wt := ⟨fun C F v x => ∃ a vs, v = .ref a ∧ TpA C.K F a (.str x.w :: vs) ∧ Reps dInt C F vs x.l, fun s ⟨a, vs, e, h, r⟩ => ⟨a, vs, e, h.mono s, r.mono s⟩⟩
instance imWt : Imm Wt := ⟨fun t ⟨a, vs, e, h, r⟩ => ⟨a, vs, e, h.imp (t a _) id, r.imm t⟩⟩
instance udWt : UD Wt := ⟨fun x => .tuple (.str x.w :: x.l.map .int), fun ⟨a, vs, e, h, r⟩ => ⟨a, _, e, h, rfl, dus_of (u := udInt) r⟩⟩
section
variable {tx : XC → Addr} {Y : YC} {Γ : List Cell} {te ta tb : TE}
/-! displays -/
/-! parts -/
theorem atI_nat {α : Type} {xs : List α} {n : Nat} {y : α} (h : xs[n]? = some y) : atI xs (n : Int) = some y := by
  have hl : n < xs.length := (List.getElem?_eq_some_iff.mp h).1
  unfold atI ixN
  rw [if_pos (by omega), if_pos (by omega)]
  exact h
/-! parts of the tuple -/
/-! numbers put behind -/
end
end G
end

noncomputable section
/-! M85: match over tuples: cases [a, b], .. of names alone, and `case _`. -/
namespace L2
open PySem PySem.Spec PyProof.Rows PySem.W
/-- cases, the subject told -/
abbrev TMc := V → TS
section
variable {X : Cx} {pos : Pos} {te : TE} {t : TMc} {e : Expr} {cs : List MatchCase}
inductive Caps : List Pattern → List Str → Prop
  | nil : Caps [] []
  | cons {n : Str} {p : Pos} {ps : List Pattern} {ns : List Str} (h : Caps ps ns) : Caps (.MatchAs none (some n) p :: ps) (n :: ns)
theorem Caps.len {ps : List Pattern} {ns : List Str} (h : Caps ps ns) : ps.length = ns.length := by
  induction h with
  | nil => rfl
  | cons _ ih => rw [List.length_cons, List.length_cons, ih]
theorem Caps.each {M : Model} {A : Around} {E : Value → Shared → Prop} {s : Shared} {env : Env} {ps : List Pattern} {ns : List Str} (h : Caps ps ns) : ∀ {us : List Value} {Q : Option (List (Str × Value)) → Shared → Prop}, us.length = ns.length → Q (some (ns.zip us)) s → wpAny M A (matchEach ps env us) Q E s := by
  induction h with
  | nil =>
    intro us Q hl hq
    cases us with
    | nil => exact wpAny_matchEach_nil hq
    | cons _ _ => cases hl
  | cons _ ih =>
    intro us Q hl hq
    cases us with
    | nil => cases hl
    | cons u us =>
      refine wpAny_matchEach_cons (wpAny_matchPattern_Capture ?_)
      exact ih (Nat.succ.inj hl) hq
end
end L2
end

noncomputable section
/-! M86: match over a tuple of a word and numbers, read as models. -/
namespace G
open PySem PySem.Spec PyProof.Rows L2 PySem.W
section
variable {tx : XC → Addr} {Y : YC} {Γ : List Cell} {te : TE} {js : List Nat} {τ : Type} {K : Kt τ} {rest tb : TS} {t tr : TMc}
end
end G
namespace L2
open PySem PySem.Spec PyProof.Rows PySem.W
section
variable {X : Cx}
end
end L2
end

noncomputable section
/-! M87: len(d) and dict(d) of dicts keyed by ints. -/
namespace L2
open PySem PySem.Spec PyProof.Rows
end L2
namespace G
open PySem PySem.Spec PyProof.Rows L2 PySem.W
section
variable {tx : XC → Addr} {Y : YC} {Γ : List Cell} {ta te : TE} {α : Type} {d : Dat α}
end
end G
end

noncomputable section
/-! M88: rows.append((word, pool.pop(i))). -/
namespace G
open PySem PySem.Spec PyProof.Rows L2 PySem.W
section
variable {tx : XC → Addr} {Y : YC} {Γ : List Cell} {ta te : TE} {js : List Nat} {rest : TS} {τ : Type} {K : Kt τ}
end
end G
end

noncomputable section
/-! M89: an owned dict keyed by ints is locked for good; in, not in, [], len, dict() and walks over its keys. -/
namespace G
open PySem PySem.Spec PyProof.Rows L2 PySem.W
theorem KReps.getV {β : Type} {d : Dat β} {C : GCtx} {F : Hp} {k : L2.Key} {v : V} : ∀ {ps : List (L2.Key × V)} {xs : List (Int × β)} {i : Nat}, KReps d C F ps xs → ps[i]? = some (k, v) → ∃ x, xs[i]? = some x ∧ k = Sum.inl x.1 ∧ d.rep C F v x.2
  | [], [], i, _, e => by simp at e
  | p :: ps, x :: xs, 0, h, e => ⟨x, rfl, by cases (Option.some.inj e); exact h.1, by cases (Option.some.inj e); exact h.2.1⟩
  | p :: ps, x :: xs, i + 1, h, e => KReps.getV (i := i) h.2.2 e
  | [], _ :: _, _, h, _ => h.elim
  | _ :: _, [], _, h, _ => h.elim
/-- a locked dict -/
@[reducible] def dIL {α : Type} {d : Dat α} : Dat (DI α) := ⟨fun C F v x => ∃ a o ps, v = .ref a ∧ F a = some (.frz o (.dK ps)) ∧ KReps d C F ps x.kv, fun m ⟨a, o, ps, e, h, r⟩ => ⟨a, o, ps, e, m _ _ h, r.mono m⟩⟩
@[reducible] def oIL {α : Type} {d : Dat α} : @OD (DI α) (dIL (d := d)) := @OD.mk (DI α) (dIL (d := d))
  (fun C F v x L => ∃ a o ps, v = .ref a ∧ L = [(a, .frz o (.dK ps))] ∧ KReps d C F ps x.kv)
  (fun m ⟨a, o, ps, e, h, r⟩ => ⟨a, o, ps, e, h, r.mono m⟩)
  (fun ⟨a, o, ps, e, h, r⟩ m k => ⟨a, o, ps, e, k (a, .frz o (.dK ps)) (by rw [h]; exact List.mem_cons_self), r.mono m⟩)
section
variable {tx : XC → Addr} {Y : YC} {Γ : List Cell} {te ta tb tl tk tv : TE} {t : TS} {α τ : Type} {d : Dat α} {js : List Nat} {rest : TS} {K : Kt τ}
/-! reading -/
end
end G
end

noncomputable section
/-! M90: list(d.values()) of a dict keyed by ints. -/
namespace L2
open PySem PySem.Spec PyProof.Rows PySem.W
section
variable {X : Cx} {o : Expr} {p pos apos mpos : Pos} {td : TE}
end
end L2
namespace G
open PySem PySem.Spec PyProof.Rows L2 PySem.W
section
variable {tx : XC → Addr} {Y : YC} {Γ : List Cell} {te : TE} {α : Type} {d : Dat α}
end
end G
end

noncomputable section
/-! M91: a, b = xs.pop(i), xs a list of pairs of owned things. -/
namespace G
open PySem PySem.Spec PyProof.Rows L2 PySem.W
theorem permU3 {α : Type} {N1 Nj N2 B1 B2 : List α} : (B1 ++ B2 ++ (N1 ++ Nj ++ N2)).Perm ((B2 ++ (N1 ++ B1 ++ N2)) ++ Nj) := by
  classical
  rw [List.perm_iff_count]
  intro a
  simp only [List.count_append]
  omega
section
variable {tx : XC → Addr} {Y : YC} {Γ : List Cell} {ta : TE} {α β τ : Type} {d1 : Dat α} {d2 : Dat β} {js : List Nat} {rest : TS} {K : Kt τ}
/-! a pair of new owned things -/
theorem o_pairO {tb : TE} {od1 : @OD α d1} {od2 : @OD β d2} {k : α × β → Prop} (h : O Y ta Γ od1 fun x => O Y tb Γ od2 fun y => k (x, y)) : O Y (tTup (tCons ta (tCons tb tNil))) Γ (oPair od1 od2) k := fun e F σ H s Q q => h e F σ H s _ fun v1 F1 H1 L1 x hx w1 r1 => hx e F1 σ H1 (s.growL w1) _ fun v2 F2 H2 L2 y ky w2 r2 => ⟨show (2 : Nat) ≤ PySem.sizeLine by decide, fun p hp => by
  have g3 := Gr.lay (o := .tup [v1, v2]) ((s.growL w1).growL w2).base hp
  have kw := (w1.trans w2).trans g3
  rw [List.nil_append] at kw
  exact q (.ref p) _ _ (L1 ++ L2) (x, y) ky (kw.perm List.perm_append_comm) ⟨p, v1, v2, L1, L2, rfl, rfl, .inl upd_same, od1.omono (w2.ff.trans g3.ff) r1, od2.omono g3.ff r2⟩⟩
theorem oe_pairO {tb : TE} {od1 : @OD α d1} {od2 : @OD β d2} {m : M α} {n : M β} (h : Oe tx Y ta Γ od1 m) (h2 : Oe tx Y tb Γ od2 n) : Oe tx Y (tTup (tCons ta (tCons tb tNil))) Γ (oPair od1 od2) (m >>= fun x => n >>= fun y => .ok (x, y)) := fun nb xk =>
  o_pairO (h.k nb xk fun x e nb xk => h2.k nb xk fun y e2 nb2 _ => by rw [e]; show (n >>= _) = _; rw [e2]; rfl)
end
end G
end

noncomputable section
/-! M92: xs.append((a, b)), a and b own and given away. -/
namespace G
open PySem PySem.Spec PyProof.Rows L2 PySem.W
section
variable {tx : XC → Addr} {Y : YC} {Γ : List Cell} {ta : TE} {α β τ : Type} {d1 : Dat α} {d2 : Dat β} {js : List Nat} {rest : TS} {K : Kt τ}
end
end G
end

noncomputable section
/-! M93: return f(.., xs, ..) and return a and f(.., xs, ..) of a def that changes xs, within a def that changes it. -/
namespace G
open PySem PySem.Spec PyProof.Rows L2 PySem.W
section
variable {tx : XC → Addr} {Y : YC} {Γ : List Cell} {te ta : TE} {tl : TA} {α β : Type} {d : Dat α} {rest : TS} {js : List Nat}
end
end G
end

noncomputable section
/-! M94: list(d) of a dict keyed by ints. -/
namespace L2
open PySem PySem.Spec PyProof.Rows
end L2
namespace G
open PySem PySem.Spec PyProof.Rows L2 PySem.W
section
variable {tx : XC → Addr} {Y : YC} {Γ : List Cell} {ta te : TE} {α : Type} {d : Dat α}
end
end G
end

noncomputable section
/-! M95: xs.append(xs.pop(i)). -/
namespace G
open PySem PySem.Spec PyProof.Rows L2 PySem.W
section
variable {tx : XC → Addr} {Y : YC} {Γ : List Cell} {ta : TE} {α τ : Type} {d : Dat α} {rest : TS} {js : List Nat} {K : Kt τ}
end
/-! dicts are not None -/
instance nnDI {α : Type} {d : Dat α} : @NN (DI α) (dDI (d := d)) := ⟨fun ⟨a, ps, e, _⟩ z => by subst z; cases e⟩
instance nnIL {α : Type} {d : Dat α} : @NN (DI α) (dIL (d := d)) := @NN.mk (DI α) (dIL (d := d)) fun ⟨a, o, ps, e, _⟩ z => by subst z; cases e
end G
end

section
set_option maxHeartbeats 2000000
noncomputable section
/-! M96: set comprehensions of pairs of ints, sorted. -/
namespace L2
open PySem PySem.Spec PyProof.Rows
section
variable {X : Cx}
end
end L2
namespace G
open PySem PySem.Spec PyProof.Rows L2 PySem.W
/-- a set of pairs, in some order -/
structure PS where
  l : List (Int × Int)
theorem OkQ.mono {C : GCtx} {F F' : Hp} {q : Addr × List Int} (h : OkQ C F q) (s : Same F F') : OkQ C F' q := ⟨h.1, h.2.mono s⟩
instance dPS : Dat PS := ⟨fun C F v s => ∃ a L, v = .ref a ∧ F a = some (SetTO C.P C.w a L) ∧ (∀ q ∈ L, OkQ C F q) ∧ (L.map toP).Perm s.l, fun m ⟨a, L, e, h, o, p⟩ => ⟨a, L, e, m _ _ h, fun q hq => (o q hq).mono m, p⟩⟩
instance oPS : OD PS where
  orep C F v s Ls := ∃ a L, v = .ref a ∧ Ls = [(a, SetTO C.P C.w a L)] ∧ (∀ q ∈ L, OkQ C F q) ∧ (L.map toP).Perm s.l
  omono m := fun ⟨a, L, e, h, o, p⟩ => ⟨a, L, e, h, fun q hq => (o q hq).mono m, p⟩
  view := fun ⟨a, L, e, h, o, p⟩ m k => ⟨a, L, e, k (a, SetTO _ _ a L) (by rw [h]; exact List.mem_cons_self), fun q hq => (o q hq).mono m, p⟩
section
variable {tx : XC → Addr} {Y : YC} {Γ : List Cell} {tl te ta : TE} {g : TG} {tt : TT} {vs : List Nat} {α : Type} {d : Dat α}
end
end G
end
end

section
set_option maxHeartbeats 2000000
noncomputable section
/-! M97: a def that is handed the exception that a suite has caught (FnE: its promise speaks of the exception's place; Fun.okE, pe_callE, we_callE, oe_callE). -/
namespace L2
open PySem PySem.Spec PyProof.Rows
structure FnE (P : Program) (w : World) (K : PySem.W.Frag) (mg : Str → Option Value) (base : Heap) (CX : CXT) (k : Nat) (f : Addr) (fd : FuncData) (ps : List Str) (sp : Addr → Value → Option Addr → Sp) : Prop where
  len : ∀ a cls d vs H Q E, sp a cls d vs H Q E → vs.length = ps.length
  run : ∀ (a : Addr) (oe : Obj) (cls : Value) (d : Option Addr), Zc cls d oe → (∃ vs, oe.data = .fields vs) → ∀ (A : Around) (outer : List Env) (s : Shared) (H : Hp) (args : Args) (us : List Value) (vs : List V) (Q : VK) (E : XK), A.handled = some (.ref a) → L2H.RoomH k A → L2H.PinOk outer H s (a, oe) → Env0 P w K mg base A outer s H → BindsTo s fd args (ps.zip us) → Vals vs us → sp a cls d vs H Q E →
    codeAny (model P w) A (.call (.ref f) args) (CR CX outer P w H s Q E) s
theorem Fun.okE {P : Program} {w : World} {K : PySem.W.Frag} {mg : Str → Option Value} {base : Heap} {name qual : Str} {st : Stmt} {f : Addr} {fd : FuncData} {N ps : List Str} {k : Nat} {sp : Addr → Value → Option Addr → Sp} (F : Fun K name qual st f fd) (S : FnScope N ps (defScope st)) (len : ∀ a cls d vs H Q E, sp a cls d vs H Q E → vs.length = ps.length)
    (hbody : ∀ (a : Addr) (oe : Obj) (cls : Value) (d : Option Addr) (hz : Zc cls d oe) (hf : ∃ vs, oe.data = .fields vs) (cdv : Value) (A : Around) (outer : List Env) (s : Shared) (H : Hp) (vs : List V) (Q : VK) (E : XK), L2H.RoomH k (A.deeper (envOfC qual (defScope st) s.heap.objs.size f cdv)) → sp a cls d vs H Q E →
      ∃ t, PSs ((cxC (L2.CX P w) P w K mg base N qual (defScope st) f cdv A outer s H E).suite a ((a, oe) :: [])) (defBody st) t ∧ t { nx := fun _ H' => Q .non H', rt := Q } (L2.start N vs) H) : FnE P w K mg base (L2.CX P w) (k + 1) f fd ps sp := by
  obtain ⟨oc, od, kV, doc, pm, an, cdv, ct, osl, rfl, lk, hcd⟩ := F.ex
  refine ⟨len, fun a oe cls d hz hf A outer s H args us vs Q E hh hr hpin e0 hb r hsp => ?_⟩
  have hl := len _ _ _ _ _ _ _ hsp
  have KX : K.In s.heap := e0.mod.kin.keeps fun b o e => (e0.bs b o e).1
  have lim : s.heap.NoLimit := e0.mod.nolimit.keeps fun b o e => (e0.bs b o e).1
  have hkind : ∀ y ∈ ps.zip us, (defScope st).names.lookup y.1 = some .local ∨ ((defScope st).names.lookup y.1 = some .cell ∧ ((cellsFrom (s.heap.objs.size + 1) (defScope st).names []).lookup y.1).isSome = true) := fun ⟨n, v⟩ hy => by
    rcases S.par n (List.of_mem_zip hy).1 with q | q
    · exact .inl q
    · exact .inr ⟨q, PySem.W.cellsFrom_some _ _ _ (.inl q)⟩
  refine codeAny_call_function hr.depth (KX _ _ lk) rfl S.co S.gen rfl (PySem.W.codeRec_of KX hcd) (hb _ _ _ _ ?_)
  refine wpAny_newFunctionEnv_cells S.kind hkind fun env he s1 x => ?_
  subst he
  refine ⟨lim.keeps x.toInCall.keep, codeAny_func ?_⟩
  obtain ⟨t, ht, hq⟩ := hbody a oe cls d hz hf cdv A outer s H vs Q E (hr.deeper _) hsp
  have I0 := L2H.inv_startH (CX := L2.CX P w) (qual := qual) (f := f) (cd := cdv) (A := A) (E := E) S hpin e0 hl r x
  have eA : (A.deeper (envOfC qual (defScope st) s.heap.objs.size f cdv)).mark (some (.ref a)) = A.deeper (envOfC qual (defScope st) s.heap.objs.size f cdv) := by
    cases A with
    | mk h dp fr gd un => cases hh; rfl
  have I : Inv ((cxC (L2.CX P w) P w K mg base N qual (defScope st) f cdv A outer s H E).suite a ((a, oe) :: [])) [] (L2.start N vs) H s1 :=
    ⟨⟨I0.ok.mod, I0.ok.kind, I0.ok.glob, I0.ok.blt, I0.ok.above, I0.ok.inj, I0.ok.has, I0.ok.cab, fun z => Bool.noConfusion (show false = true from z), I0.ok.frames, I0.ok.stk, I0.ok.exf, I0.ok.bs, I0.ok.bsz, I0.ok.noex, I0.ok.exfs, I0.ok.funs, I0.ok.frf⟩,
      I0.os, I0.bare, I0.base, I0.loc, I0.cell, I0.free, I0.freeC, I0.pin, I0.hok, I0.len⟩
  have run := ht.run [] s1 (L2.start N vs) H _ I hq
  rw [show ((cxC (L2.CX P w) P w K mg base N qual (defScope st) f cdv A outer s H E).suite a ((a, oe) :: [])).A = A.deeper (envOfC qual (defScope st) s.heap.objs.size f cdv) from eA] at run
  refine wpAny_mono run (fun fl s' hs => ?_) fun e s' hs => absurd (show False from hs) id
  have fin : ∀ {σ' : L2.St} {H' : Hp} {v : V} {u : Value}, Inv ((cxC (L2.CX P w) P w K mg base N qual (defScope st) f cdv A outer s H E).suite a ((a, oe) :: [])) [] σ' H' s' → RelV v u → Q v H' → CE outer P w H s Q u s' :=
    fun {σ' H' v u} J rv q => ⟨v, H', J.os, J.bare, J.base, J.hok, rv, q⟩
  cases fl with
  | ret u =>
    obtain ⟨v, σ', H', J, rv, q⟩ := hs
    exact fin J rv q
  | next =>
    obtain ⟨σ', H', J, q⟩ := hs
    exact fin (v := V.non) (u := Value.none) J rfl q
  | brk =>
    obtain ⟨_, _, _, q⟩ := hs
    exact False.elim q
  | cont =>
    obtain ⟨_, _, _, q⟩ := hs
    exact False.elim q
section
variable {X : Cx} {CXt : CXT} {k : Nat} {f a : Addr} {oe : Obj} {cls : Value} {d : Option Addr} {pn : List (Addr × Obj)} {fd : FuncData} {ps : List Str} {sp : Addr → Value → Option Addr → Sp} {E : L2.St → XK} {x : Str} {q pos : Pos} {e : Expr} {es : List Expr} {t : TA}
theorem run_fnE {pins : List (Addr × Obj)} {σ : L2.St} {H : Hp} {s : Shared} {Q : VK} {us : List Value} {vs : List V} (hz : Zc cls d oe) (hf : ∃ vs, oe.data = .fields vs) (F : FnE X.prog X.w X.K X.mg X.base CXt k f fd ps sp) (hr : L2H.RoomH k (X.suite a ((a, oe) :: pn)).A) (hb : Binds X.K fd ps []) (hx : PassesAt CXt (X.suite a ((a, oe) :: pn)) σ (E σ))
    (I : Inv (X.suite a ((a, oe) :: pn)) pins σ H s) (r : Vals vs us) (h : sp a cls d vs H Q (E σ)) : wpAny (model X.prog X.w) (X.suite a ((a, oe) :: pn)).A (call (.ref f) us) (EP (X.suite a ((a, oe) :: pn)) pins σ Q) (X.suite a ((a, oe) :: pn)).xe s := by
  have hl : us.length = ps.length := by rw [← r.length]; exact F.len _ _ _ _ _ _ _ h
  have b := hb s us I.kIn (by rw [List.append_nil]; exact hl)
  rw [List.append_nil] at b
  have hp := I.pin (a, oe) (List.mem_append_left _ List.mem_cons_self)
  have pin : L2H.PinOk (X.suite a ((a, oe) :: pn)).stack H s (a, oe) := ⟨hp.1, hp.2.1, fun z => (List.mem_cons.mp (I.stkSub _ z)).elim hp.2.2.1 hp.2.2.2.1, hp.2.2.2.2⟩
  refine wpAny_call (codeAny_mono (F.run a oe cls d hz hf (X.suite a ((a, oe) :: pn)).A (X.suite a ((a, oe) :: pn)).stack s H ⟨us, []⟩ us vs Q (E σ) rfl hr pin I.env0 b r h) fun r s' hq => ?_)
  cases r with
  | error e => exact hx pins H s e s' I hq
  | ok fl =>
    cases fl with
    | ret u => exact I.after hq
    | next => exact False.elim hq
    | brk => exact False.elim hq
    | cont => exact False.elim hq
theorem pe_callE (hz : Zc cls d oe) (hf : ∃ vs, oe.data = .fields vs) (F : FnE X.prog X.w X.K X.mg X.base CXt k f fd ps sp) (hr : L2H.RoomH k (X.suite a ((a, oe) :: pn)).A) (hg : Gl (X.suite a ((a, oe) :: pn)) x) (hm : X.mg x = some (.ref f)) (hk : PySem.W.keepIn X.K (.ref f) = true) (hb : Binds X.K fd ps []) (hx : ∀ σ, PassesAt CXt (X.suite a ((a, oe) :: pn)) σ (E σ))
    (ha : PA (X.suite a ((a, oe) :: pn)) (e :: es) t) (hdb : (x == ("__debug__" : Str)) = false := by decide) (he : starEach (e :: es) X.env = (false, eval e X.env) :: starEach es X.env := by rfl) (hpl : (backTo pos (starEach es X.env)).any (·.1) = false := by rfl) :
    PE (X.suite a ((a, oe) :: pn)) (.Call (.Name x q) (e :: es) [] pos) (tCallS (sp a cls d) E t) := by
  refine ⟨fun pins s σ H Q I h => ?_⟩
  refine wpAny_Call_Name_kw (ld_glob I hg hm ?_ hdb)
  refine PySem.W.callWith_K (h₀ := X.base) I.ok.mod.kin hk (thn (ha.run pos pins s σ H _ I h) fun us s1 ⟨vs, H1, I1, r, q⟩ => ⟨I1.kIn, ?_⟩) he hpl
  exact run_fnE hz hf F hr hb (hx σ) I1 r q
end
end L2
namespace G
open PySem PySem.Spec PyProof.Rows L2 PySem.W
section
variable {tx : XC → Addr} {Y : YC} {Γ : List Cell} {β : Type} {d : Dat β}
theorem we_callE {a : Addr} {dd : Option Addr} {px : PX} {i : Nat} {sp : Sp} {E : L2.St → XK} {m : M β} (hi : Γ[i]? = some (.val (dExn a dd) (px.x tx))) (hs : m.nb → SpX Y.g sp [.val (dExn a dd) (px.x tx)] (fun c => ∃ r, c = .val d r ∧ m = .ok r) fun x => ∃ px', m = .exc px' ∧ x = px'.x tx) (hE : E = Y.E) :
    We tx Y (tCallS sp E (tCons (tVar i) tNil)) Γ d m := fun nb xk => w_callX hE (wa_cons (w_var hi (wa_nil fun vs H Q E fx => hs nb vs H Q E (fx.mono (fun c ⟨r, e, q⟩ => ⟨r, e, q⟩) fun x ⟨px, e, q⟩ => q ▸ xk px e))))
theorem oe_callE {od : @OD β d} {a : Addr} {dd : Option Addr} {px : PX} {i : Nat} {sp : Sp} {E : L2.St → XK} {m : M β} (hi : Γ[i]? = some (.val (dExn a dd) (px.x tx))) (hs : m.nb → SpX Y.g sp [.val (dExn a dd) (px.x tx)] (fun c => ∃ r, c = .own d od none r ∧ m = .ok r) fun x => ∃ px', m = .exc px' ∧ x = px'.x tx) (hE : E = Y.E) :
    Oe tx Y (tCallS sp E (tCons (tVar i) tNil)) Γ od m := fun nb xk => o_callX hE (wa_cons (w_var hi (wa_nil fun vs H Q E fx => hs nb vs H Q E (fx.mono (fun c ⟨r, e, q⟩ => ⟨r, e, q⟩) fun x ⟨px, e, q⟩ => q ▸ xk px e))))
end
end G
end
end

section
set_option maxHeartbeats 2000000
noncomputable section
/-! M98: {k: c}, k a name of a tuple, c a constant (pe_dispT, oe_dispT); an expression of an optional type that is not None where it stands (we_unopt). -/
namespace L2
open PySem PySem.Spec PyProof.Rows
/-- {k: v}, k a tuple -/
def tDispT (tk tv : TE) : TE := fun σ H Q => ∀ p, H p = none → tk σ (upd H p (.dT [])) fun x H1 => tv σ H1 fun y H2 => H2 p = some (.dT []) ∧ ∃ b ks, x = .ref b ∧ H2 b = some (.tup (ks.map kV)) ∧ Q (.ref p) (upd H2 p (.dT [(ks, y)]))
section
variable {X : Cx}
theorem wpAny_Dict_pairsF {prog : Program} {w : World} {K : Type} [DecidableEq K] {knd : HeapKind prog w K} {A : Around} {E : Value → Shared → Prop} {s : Shared} {env : Env} {keys : List (Option Expr)} {values : List Expr} {pos : Pos} {pairs : List (Sem Value × Sem Value)} {Q : Value → Shared → Prop} (hu : knd.room A)
    (hshape : (evalEachOpt keys env).zip ((evalEach values env).map fun v => do let x ← v; standAt pos; pure x) = pairs.map fun p => (some p.1, p.2)) (h0 : pairs ≠ []) (hlen : pairs.length ≤ 15)
    (h : wpAny (model prog w) A (evalPairs pairs) (fun vs s₁ => ∃ ps, CarriesH knd s₁.heap vs ps ∧ s₁.heap.DictOfH knd s.heap.objs.size [] ∧
      ∀ h' tk, h'.DictOfH knd s.heap.objs.size (storedAllH [] ps) → Heap.SameBut s.heap.objs.size s₁.heap h' → Q (.ref s.heap.objs.size) { s₁ with heap := h', toks := tk }) E
      { s with heap := s.heap.push { cls := .type "dict", data := .dict #[] } }) :
    wpAny (model prog w) A (eval (.Dict keys values pos) env) Q E s := by
  rw [arm_eval_Dict, hshape, dictDisplay_pairs pairs h0 (by omega)]
  exact wpAny_bind (wpAny_standAt (wpAny_bind (wpAny_subDictH (knd := knd) (Q := fun d s' => wpAny (model prog w) A (pure (Value.ref d)) Q E s') hu hlen
    (wpAny_mono h (fun vs s₁ h₁ => by obtain ⟨ps, hc, hm, hq⟩ := h₁; exact ⟨ps, hc, hm, fun h' tk a b => wpAny_pure (hq h' tk a b)⟩) fun _ _ e => e))))
theorem pe_dispT {k v : Expr} {pos : Pos} {tk tv : TE} (hu : X.A.units + 1 < cLine) (hk : PE X k tk) (hv : PE X v tv) : PE X (.Dict [some k] [v] pos) (tDispT tk tv) := by
  refine ⟨fun pins s σ H Q I q => ?_⟩
  have hn := I.hok.fresh (Nat.le_refl s.heap.objs.size)
  have I1 := I.laid (a := s.heap.objs.size) (o := .dT []) (h' := s.heap.push { cls := .type "dict", data := .dict #[] }) (t' := s.toks) (fun _ _ q => Heap.get?_push_of_some _ q) (Nat.le_refl _) (dt_empty s.heap I.big)
  have hp : PPs X pos [some k] [v] [(tk, tv)] := pps_cons hk hv pps_nil
  have hpl : (pairTrees [some k] [v] X.env pos).length = 1 := pairTrees_length [some k] [v] X.env pos rfl rfl
  refine wpAny_Dict_pairsF (knd := tupleKind (mixKind X.prog X.w)) (show X.A.units < cLine by omega) (zip_pairTrees [some k] [v] X.env pos rfl rfl) (fun z => by rw [z] at hpl; cases hpl) (by rw [hpl]; decide) (thn (hp.run pins _ σ _ (fun ps H2 => match ps with
    | [(x, y)] => H2 s.heap.objs.size = some (.dT []) ∧ ∃ b ks, x = .ref b ∧ H2 b = some (.tup (ks.map kV)) ∧ Q (.ref s.heap.objs.size) (upd H2 s.heap.objs.size (.dT [(ks, y)]))
    | _ => False) I1 (q _ hn)) fun ws s2 ⟨ps, H2, I2, rel, hq⟩ => ?_)
  match ps, hq with
  | [(x, y)], ⟨e, b, ks, ex, eb, q2⟩ =>
    subst ex
    cases rel with
    | @cons p1 p2 l1 l2 h t =>
      cases t
      obtain ⟨u, r⟩ := p2
      obtain ⟨h1, h2⟩ := h
      cases (show u = Value.ref b from h1)
      obtain ⟨z, hd, xs, rk, dd⟩ := dt_of I2.hok e
      cases rk
      refine ⟨[(ks, b, r)], ⟨rfl, rfl, key_of I2.hok eb, trivial⟩, dd, fun h' tk dd' hs => ⟨.ref s.heap.objs.size, _, ?_, rfl, q2⟩⟩
      obtain ⟨q, es, ep, hq, h2', h3, h4, _, h5⟩ := dd'
      have kt : KT H2 [(ks, y)] [(ks, b, r)] := KT.put (kvs := []) (xs := []) .nil ks eb h2
      refine d_write I2 (by rw [e]; exact True.intro) hs ⟨q, hq⟩ ⟨Nat.le_trans (show [(ks, y)].length ≤ 1 from Nat.le_refl 1) (by decide), hd, _, kt.keeps fun c ys ec => ?_, q, es, ep, hq, h2', h3, h4, h5⟩
      rw [upd_ne (ne_of ec e (fun z => nomatch z))]
      exact ec
end
end L2
namespace G
open PySem PySem.Spec PyProof.Rows L2 PySem.W
section
variable {tx : XC → Addr} {Y : YC} {Γ : List Cell} {te : TE} {κ α : Type} [DecidableEq κ] {dk : Dat κ} {ky : KeyD κ dk} {d : Dat α}
/-- {k: c} -/
theorem oe_dispT {i : Nat} {k : κ} {c : V} {y : α} (hi : Γ[i]? = some (.val dk k)) (hc : ∀ C F, d.rep C F c y) : Oe tx Y (tDispT (tVar i) (tC c)) Γ (oDK (ky := ky) (d := d)) (.ok ⟨[(k, y)]⟩) := fun nb xk e F σ H s Q q p hp => by
  obtain ⟨v, e1, r⟩ := s.val hi
  obtain ⟨b, rfl, hb⟩ := ky.rd r
  have hne : b ≠ p := fun z => by
    have := s.fh _ _ hb
    rw [z, hp] at this
    cases this
  refine ⟨.ref b, e1, ?_⟩
  refine ⟨upd_same, b, _, rfl, by rw [upd_ne hne]; exact s.fh _ _ hb, ?_⟩
  rw [upd_upd]
  exact q _ F _ _ _ rfl (s.base.own hp (fun _ z => by cases z)) ⟨p, _, rfl, rfl, rfl, hc _ _, trivial⟩
/-- not None where it stands -/
theorem we_unopt {m : M (Opt α)} [nn : @NN α d] (h : We tx Y te Γ (dOpt (d := d)) m) : We tx Y te Γ d (m >>= M.ofOpt) := fun nb xk e F σ H s Q q => h.k nb xk (k := fun o => m = .ok o ∧ (M.ofOpt o).nb) (fun o e nb2 _ => ⟨e, nb2⟩) e F σ H s _ fun v F' H' o ⟨hm, nb2⟩ g r => by
  cases o with
  | none => exact absurd rfl nb2
  | some x => exact q v F' H' x (by rw [hm]; rfl) g r
end
end G
end
end

noncomputable section
/-! M99: range(a, b) as the inner walk of a comprehension with two fors. -/
namespace G
open PySem PySem.Spec PyProof.Rows L2 PySem.W
section
variable {tx : XC → Addr} {Y : YC} {Γ : List Cell} {ta tb : TE}
end
end G
end

section
set_option maxHeartbeats 2000000
noncomputable section
/-! M100: sets of pairs of ints: set(), in, not in, s.add(p). -/
namespace L2
open PySem PySem.Spec PyProof.Rows
section
variable {P : Program} {w : World} {A : Around} {E : Value → Shared → Prop} {s : Shared} {a : Addr} {L : List (Addr × List Int)} {es : Array (Int × Value)} {ep : Nat} {t : SetTable}
theorem SetTR.typeIs (R : SetTR P w s.heap a L es ep t) : s.TypeIs (.ref a) "set" := let ⟨o, ho, hc, _⟩ := R.ob; ⟨o, ho, hc.1⟩
end
end L2
namespace L2
open PySem PySem.Spec PyProof.Rows
section
variable {X : Cx}
variable {o e : Expr} {es : List Expr} {to : TE} {t : TA} {apos cpos : Pos}
end
end L2
namespace G
open PySem PySem.Spec PyProof.Rows L2 PySem.W
section
variable {tx : XC → Addr} {Y : YC} {Γ : List Cell} {te ta tb : TE} {τ : Type} {js : List Nat} {rest : TS} {K : Kt τ} {k : Ks}
end
end G
end
end

noncomputable section
/-! M101: an owned list or None as owned data. -/
namespace G
open PySem PySem.Spec PyProof.Rows L2 PySem.W
section
variable {tx : XC → Addr} {Y : YC} {Γ : List Cell} {te : TE} {α : Type} {d : Dat α}
end
end G
end

noncomputable section
/-! M102: comprehensions over zip(xs, ys), of lists and of tuples. -/
namespace G
open PySem PySem.Spec PyProof.Rows L2 PySem.W
def M.zip {α γ : Type} (xs : List α) (ys : List γ) : M (List (α × γ)) := M.asrt ((xs.zip ys).length ≤ PySem.sizeLine) (.ok (xs.zip ys))
section
variable {tx : XC → Addr} {Y : YC} {Γ : List Cell} {te ta tb tl : TE} {t u tt : TT} {α β γ : Type} {d : Dat α} {d1 : Dat γ} {d2 : Dat β} {g : TG}
end
end G
end

noncomputable section
/-! M103: {k: v, ..} with written int keys (oe_disp). -/
namespace L2
open PySem PySem.Spec PyProof.Rows
theorem putK_app {kvs : List (Key × V)} {k : Key} {v : V} (h : k ∉ kvs.map (·.1)) : putK kvs k v = kvs ++ [(k, v)] := by
  unfold putK
  rw [if_neg]
  intro z
  obtain ⟨p, hp, e⟩ := List.any_eq_true.mp z
  exact h (List.mem_map.mpr ⟨p, hp, of_decide_eq_true e⟩)
theorem mergeK_app : ∀ (more acc : List (Key × V)), (acc.map (·.1) ++ more.map (·.1)).Nodup → mergeK acc more = acc ++ more
  | [], acc, _ => by simp [mergeK]
  | p :: more, acc, h => by
    have hp : p.1 ∉ acc.map (·.1) := fun z => by
      rw [List.map_cons, List.nodup_append] at h
      exact h.2.2 _ z _ List.mem_cons_self rfl
    show mergeK (putK acc p.1 p.2) more = _
    rw [putK_app hp, mergeK_app more _ (by rw [List.map_append, List.append_assoc]; exact h)]
    simp
end L2
namespace G
open PySem PySem.Spec PyProof.Rows L2 PySem.W
section
variable {tx : XC → Addr} {Y : YC} {Γ : List Cell} {te : TE} {α : Type} {d : Dat α}
/-- the written pairs -/
def DPs (Y : YC) (Γ : List Cell) (d : Dat α) : List (TE × TE) → List (Int × α) → Prop
  | [], [] => True
  | t :: ts, x :: xs => W Y t.1 Γ dInt (· = x.1) ∧ W Y t.2 Γ d (· = x.2) ∧ DPs Y Γ d ts xs
  | _, _ => False
def DReps (d : Dat α) (C : GCtx) (F : Hp) : List (V × V) → List (Int × α) → Prop
  | [], [] => True
  | p :: ps, x :: xs => p.1 = .int x.1 ∧ d.rep C F p.2 x.2 ∧ DReps d C F ps xs
  | _, _ => False
theorem DReps.keys {C : GCtx} {F : Hp} : ∀ {ps : List (V × V)} {xs : List (Int × α)}, DReps d C F ps xs → ∃ kvs : List (Key × V), ps = kvs.map (fun kv => (kV kv.1, kv.2)) ∧ kvs.map (·.1) = xs.map (fun x => Sum.inl x.1) ∧ KReps d C F kvs xs
  | [], [], _ => ⟨[], rfl, rfl, trivial⟩
  | p :: ps, x :: xs, h => by
    obtain ⟨kvs, e1, e2, r⟩ := DReps.keys h.2.2
    obtain ⟨p1, p2⟩ := p
    obtain ⟨h1, h2, _⟩ := h
    refine ⟨(Sum.inl x.1, p2) :: kvs, ?_, ?_, rfl, h2, r⟩
    · rw [List.map_cons, ← e1, show p1 = .int x.1 from h1]; rfl
    · rw [List.map_cons, List.map_cons, e2]
  | [], _ :: _, h => h.elim
  | _ :: _, [], h => h.elim
theorem disp_run {e : En} {F1 : Hp} {σ : _root_.L2.St} {H1 : Hp} {p : Addr} (s1 : State Y e F1 σ H1 Γ) : ∀ (trs : List (TE × TE)) (kvs : List (Int × α)), DPs Y Γ d trs kvs → ∀ (F H : Hp) (kw : Wk ⟨F1, H1, []⟩ F [(p, .dK [])] H) (Q : List (V × V) → Hp → Prop),
    (∀ F' H' ps, Wk ⟨F1, H1, []⟩ F' [(p, .dK [])] H' → DReps d Y.g F' ps kvs → Same F F' → Q ps H') → tPairs trs σ H Q
  | [], [], _, F, H, kw, Q, q => q F H [] kw trivial (Same.refl F)
  | t :: ts, x :: xs, h, F, H, kw, Q, q => by
    refine h.1 e F σ H (s1.growL kw) _ fun v2 F2 H2 k hk g2 r2 => ?_
    have kw2 := kw.trans0 g2
    refine h.2.1 e F2 σ H2 (s1.growL kw2) _ fun v3 F3 H3 y hy g3 r3 => ?_
    have kw3 := kw2.trans0 g3
    subst hk
    subst hy
    refine disp_run s1 ts xs h.2.2 F3 H3 kw3 _ fun F' H' ps kw' r' sm => ?_
    exact q F' H' ((v2, v3) :: ps) kw' ⟨r2, d.mono sm r3, r'⟩ (g2.ff.trans (g3.ff.trans sm))
  | [], _ :: _, h, _, _, _, _, _ => h.elim
  | _ :: _, [], h, _, _, _, _, _ => h.elim
theorem oe_disp {trs : List (TE × TE)} {kvs : List (Int × α)} (h : DPs Y Γ d trs kvs) (nd : (kvs.map fun x => x.1).Nodup) (hl : kvs.length ≤ 15) : Oe tx Y (tDisp trs) Γ (oDI (d := d)) (.ok ⟨kvs⟩) := fun nb xk e F σ H s Q q p hp => by
  have kw0 : Wk ⟨F, H, []⟩ F [(p, .dK [])] (upd H p (.dK [])) := s.base.own hp (fun _ z => by cases z)
  refine disp_run s trs kvs h F _ kw0 _ fun F' H' ps kw r _ => ?_
  obtain ⟨ks, e1, e2, kr⟩ := r.keys
  have hks : ks.length = kvs.length := kr.len
  have hm : mergeK [] ks = ks := by
    have := mergeK_app ks [] (by
      rw [List.map_nil, List.nil_append, e2]
      rw [show (kvs.map fun x => (Sum.inl x.1 : Key)) = (kvs.map fun x => x.1).map Sum.inl by rw [List.map_map]; rfl]
      exact List.Pairwise.map _ (fun a b z y => z (Sum.inl.inj y)) nd)
    simpa using this
  refine ⟨(kw.ow (p, .dK []) (by simp)).2.1, ks, e1, by omega, ?_⟩
  rw [hm]
  exact q _ F' _ _ _ rfl (kw.put (fun _ z => by cases z)) ⟨p, ks, rfl, rfl, kr⟩
end
end G
end

noncomputable section
/-! M104: comprehensions over the keys of a locked int dict (ic_keysI); a dict of the top with text keys and ints (KDS, we_kgetS). -/
namespace L2
open PySem PySem.Spec PyProof.Rows
/-- what stands in a dict of the top with text keys -/
structure KDS (K : PySem.W.Frag) (w : World) (a : Addr) (kvs : List (Str × Int)) : Prop where
  at_ : ∀ k z, kvs.lookup k = some z → KDct K w a k (.int z)
theorem KDS.nil {K : PySem.W.Frag} {w : World} {a : Addr} : KDS K w a [] := ⟨fun k z h => by cases h⟩
theorem KDS.cons {K : PySem.W.Frag} {w : World} {a : Addr} {kvs : List (Str × Int)} {k : Str} {z : Int} (h : KDct K w a k (.int z)) (r : KDS K w a kvs) : KDS K w a ((k, z) :: kvs) := ⟨fun k' z' e => by
  rw [List.lookup_cons] at e
  cases hk : (k' == k) with
  | true =>
    rw [hk] at e
    cases e
    rw [eq_of_beq hk]
    exact h
  | false =>
    rw [hk] at e
    exact r.at_ k' z' e⟩
end L2
namespace G
open PySem PySem.Spec PyProof.Rows L2 PySem.W
section
variable {tx : XC → Addr} {Y : YC} {Γ : List Cell} {tb tl te : TE} {α β : Type} {d : Dat α}
theorem w_kgetS {D : Addr} {kvs : List (Str × Int)} {k : Int → Prop} (hD : KDS Y.K Y.w D kvs) (h : R Y tb Γ dStr fun n => ∃ z, kvs.lookup n = some z ∧ k z) : W Y (tOp (rIxD Y.K Y.w) (tC (.ref D)) tb) Γ dInt k := fun e F σ H s Q q => h e F σ H s _ fun v F' H' n ⟨z, hz, kz⟩ g r => by
  cases (show v = .str n from r)
  exact ⟨D, n, .int z, rfl, rfl, hD.at_ n z hz, q _ _ _ z kz g rfl⟩
theorem we_kgetS {D : Addr} {kvs : List (Str × Int)} {m : M Str} (hD : KDS Y.K Y.w D kvs) (h : Re tx Y tb Γ dStr m) : We tx Y (tOp (rIxD Y.K Y.w) (tC (.ref D)) tb) Γ dInt (m >>= fun n => M.ofO (kvs.lookup n)) := fun nb xk =>
  w_kgetS hD (h.k nb xk fun n e nb2 _ => by
    cases hz : kvs.lookup n with
    | none => rw [hz] at nb2; exact absurd rfl nb2
    | some z => exact ⟨z, rfl, by rw [e]; show M.ofO (kvs.lookup n) = _; rw [hz]; rfl⟩)
theorem ic_keysI {m : M (DI α)} (h : We tx Y tl Γ (dIL (d := d)) m) : Ic tx Y (iKeys tl) Γ dInt (m >>= fun s => M.asrt (s.kv.length ≤ PySem.sizeLine) (.ok (s.kv.map Prod.fst))) := fun nb xk β d2 g tt te vs kx hT hb e F σ H s Q q => h.k nb xk (k := fun s => m = .ok s ∧ s.kv.length ≤ PySem.sizeLine) (fun s e nb2 _ => ⟨e, M.asrt_nb nb2⟩) e F σ H s _ fun v F1 H1 s0 ⟨hm, hz⟩ g1 ⟨a, o, ps, e1, ha, r⟩ => by
  subst e1
  obtain ⟨I, h0, hs, hd⟩ := hb (s0.kv.map Prod.fst) (by rw [hm]; exact M.asrt_pos hz) (by rw [List.length_map]; exact hz)
  refine ⟨a, o, rfl, .inl ⟨ps, g1.fh _ _ ha, fun D hD => ?_⟩⟩
  have kw0 : Wk ⟨F1, H1, []⟩ F1 [(D, .lst [])] (upd H1 D (.lst [])) := g1.base.own hD (fun _ z => by cases z)
  refine lc_it walk_keys (fun i H => ∃ F' acc ys, Wk ⟨F1, H1, []⟩ F' [(D, .lst acc)] H ∧ Reps d2 Y.g F' acc ys ∧ I i ys) ⟨F1, [], [], kw0, trivial, h0⟩ (fun i H _ ⟨F', acc, ys, kw, _⟩ => (kw.ff.trans kw.fh) _ _ ha) (fun i x H H' hi p ⟨eH, k', v', hk, ex⟩ => ?_) fun H ⟨F', acc, ys, kw, ra, hi⟩ => ?_
  · subst eH ex
    obtain ⟨y, hy, ek, _⟩ := r.getV hk
    subst ek
    exact comp_turnT (s.grow g1) hT.1 (hs i y.1 · (by show (s0.kv.map Prod.fst)[i]? = _; rw [List.getElem?_map, hy]; rfl)) (fun F' _ _ => rfl) p
  · rw [KReps.len r, ← List.length_map (f := Prod.fst)] at hi
    exact q _ F' H _ ys (hd ys hi) (by simpa using g1.trans kw) ⟨D, acc, rfl, rfl, ra⟩
end
end G
end

noncomputable section
/-! M105: comprehensions with two fors whose items are new lists, owned (oe_lc2O). -/
namespace G
open PySem PySem.Spec PyProof.Rows L2 PySem.W
/-- the heap without some objects -/
def lessS (H : Hp) (S : List Addr) : Hp := fun a => if a ∈ S then none else H a
theorem lessS_in {H : Hp} {S : List Addr} {a : Addr} (h : a ∈ S) : lessS H S a = none := if_pos h
theorem lessS_out {H : Hp} {S : List Addr} {a : Addr} (h : a ∉ S) : lessS H S a = H a := if_neg h
theorem lessS_some {H : Hp} {S : List Addr} {a : Addr} {o : HO} (h : lessS H S a = some o) : H a = some o := by
  unfold lessS at h
  split at h
  · cases h
  · exact h
theorem State.lessS {C : GCtx} {e : En} {F : Hp} {σ : L2.St} {H : Hp} {Γ : List Cell} {S : List Addr} (s : State (calm C) e F σ H Γ) (h0 : ∀ a, a ∈ S → e.H0 a ≠ none) (hm : ∀ a, a ∈ S → a ∉ e.M) (hf : ∀ a, a ∈ S → F a = none) : ∃ M, State (calm C) ⟨F, G.lessS H S, M⟩ F σ (G.lessS H S) Γ := by
  obtain ⟨_, L, k, sl⟩ := s
  have hne : ∀ p ∈ L, p.1 ∉ S := fun p hp e1 => by
    rcases (k.ow p hp).2.2 with z | z
    · exact h0 _ e1 z
    · exact hm _ e1 z
  refine ⟨L.map Prod.fst, fun _ _ _ _ _ _ hk _ _ => hk, L, ⟨Same.refl _, fun _ _ _ h => h, fun _ h => h, fun a o h => ?_, fun _ _ h => h, fun a xs h => k.tp a xs (lessS_some h), fun p hp => ⟨(k.ow p hp).1, ?_, .inr (List.mem_map.mpr ⟨p, hp, rfl⟩)⟩, k.nd⟩, sl⟩
  · rw [lessS_out fun e1 => by rw [hf a e1] at h; cases h]
    exact k.fh a o h
  · rw [lessS_out (hne p hp)]
    exact (k.ow p hp).2.1
section
variable {Y : YC} {Γ : List Cell} {α β γ : Type} {d : Dat α} {d1 : Dat γ} {d2 : Dat β} {g g1 : TG} {tt tt1 : TT} {te : TE} {ti ti1 : L2.TI} {vs vs1 : List Nat}
/-- what a comprehension with two fors asks -/
def CompO2 (Y : YC) (g : TG) (tt : TT) (ti1 : L2.TI) (g1 : TG) (tt1 : TT) (te : TE) (vs1 : List Nat) {α β γ : Type} (d : Dat α) (d1 : Dat γ) {d2 : Dat β} (od : OD β) (kx : List β → Prop) (xs : List α) (Γ : List Cell) : Prop :=
  ∃ I : Nat → List β → Prop, I 0 [] ∧ (∀ i x ys, xs[i]? = some x → I i ys → A Y g Γ d x fun Γ2 => T Y tt Γ2 fun b => (b = true → Iwk Y ti1 Γ2 d1 fun zs => ∃ I1 : Nat → List β → Prop, I1 0 ys ∧
    (∀ j z ws, zs[j]? = some z → I1 j ws → A Y g1 (wipeC Γ2 vs1) d1 z fun Γ3 => T Y tt1 Γ3 fun b => (b = true → O Y te Γ3 od fun w => ws.length < PySem.sizeLine ∧ I1 (j + 1) (ws ++ [w])) ∧ (b = false → I1 (j + 1) ws)) ∧ ∀ ws, I1 zs.length ws → I (i + 1) ws) ∧ (b = false → I (i + 1) ys)) ∧ ∀ ys, I xs.length ys → kx ys
theorem comp_turn2O {od : @OD β d2} {e : En} {F1 : Hp} {σ : L2.St} {H1 : Hp} {D : Addr} {x : α} {v : V} {i : Nat} {I : Nat → List β → Prop} (s1 : State Y e F1 σ H1 Γ) (hD : H1 D = none) (hT : Tg g vs) (hT1 : Tg g1 vs1)
    (hs : ∀ ys, I i ys → A (calm Y.g) g (wipeC Γ vs) d x fun Γ2 => T (calm Y.g) tt Γ2 fun b => (b = true → Iwk (calm Y.g) ti1 Γ2 d1 fun zs => ∃ I1 : Nat → List β → Prop, I1 0 ys ∧
      (∀ j z ws, zs[j]? = some z → I1 j ws → A (calm Y.g) g1 (wipeC Γ2 vs1) d1 z fun Γ3 => T (calm Y.g) tt1 Γ3 fun b => (b = true → O (calm Y.g) te Γ3 od fun w => ws.length < PySem.sizeLine ∧ I1 (j + 1) (ws ++ [w])) ∧ (b = false → I1 (j + 1) ws)) ∧ ∀ ws, I1 zs.length ws → I (i + 1) ws) ∧ (b = false → I (i + 1) ys))
    (rx : ∀ F', Same F1 F' → d.rep Y.g F' v x) {H : Hp} (h : ∃ F' acc ys L, Wk ⟨F1, H1, []⟩ F' ((D, .lst acc) :: L) H ∧ OReps od Y.g F' acc ys L ∧ I i ys) :
    g v (wipe σ vs) H fun σ2 H2 => wipe σ2 vs = wipe σ vs ∧ tt σ2 H2 fun b H3 =>
      if b = true then ti1 σ2 H3 fun J1 H4 => ∃ W1 : Nat → Nat → Hp → Prop, (∃ m, W1 0 m H4) ∧ ∀ j k H, W1 j k H →
        (J1.stop j H ∧ ∃ F' acc ys L, Wk ⟨F1, H1, []⟩ F' ((D, .lst acc) :: L) H ∧ OReps od Y.g F' acc ys L ∧ I (i + 1) ys) ∨ (J1.go j H ∧ ∃ Nx1 : Hp → Prop, (∀ H', Nx1 H' → ∃ k', k' < k ∧ W1 (j + 1) k' H') ∧ ∀ x H', J1.yld j H x H' → g1 x (wipe σ2 vs1) H' fun σ3 H5 => wipe σ3 vs1 = wipe σ2 vs1 ∧ tt1 σ3 H5 fun b H6 =>
          if b = true then te σ3 H6 fun y H7 => ∃ acc, H7 D = some (.lst acc) ∧ acc.length < PySem.sizeLine ∧ Nx1 (upd H7 D (.lst (acc ++ [y]))) else Nx1 H6)
      else ∃ F' acc ys L, Wk ⟨F1, H1, []⟩ F' ((D, .lst acc) :: L) H3 ∧ OReps od Y.g F' acc ys L ∧ I (i + 1) ys := by
  obtain ⟨F', acc, ys, L, kw, r, hi⟩ := h
  obtain ⟨_, L1, k1, sl1⟩ := s1
  have k2 := k1.trans kw
  have hdis : ∀ a, a ∈ ((D, (.lst acc : HO)) :: L).map Prod.fst → a ∉ L1.map Prod.fst := fun a ha hb => by
    have := k2.nd
    rw [List.map_append, List.nodup_append] at this
    exact this.2.2 a ha a hb rfl
  have k3 : Wk e F' L1 H := k2.sub (fun p hp => List.mem_append_right _ hp) k1.nd
  have st : State (calm Y.g) ⟨F', H, L1.map Prod.fst⟩ F' σ H Γ := ⟨fun _ _ _ _ _ _ hk _ _ => hk, L1, ⟨Same.refl _, fun _ _ _ h => h, fun _ h => h, k3.fh, fun _ _ h => h, k3.tp, fun p hp => ⟨(k3.ow p hp).1, (k3.ow p hp).2.1, .inr (List.mem_map.mpr ⟨p, hp, rfl⟩)⟩, k3.nd⟩, sl1.mono kw.ff⟩
  have hHS : ∀ a, a ∈ ((D, (.lst acc : HO)) :: L).map Prod.fst → H a ≠ none := fun a ha => by
    obtain ⟨p, hp, rfl⟩ := List.mem_map.mp ha
    rw [(kw.ow p hp).2.1]
    exact fun z => nomatch z
  have hH1 : ∀ a, a ∈ ((D, (.lst acc : HO)) :: L).map Prod.fst → H1 a = none := fun a ha => by
    obtain ⟨p, hp, rfl⟩ := List.mem_map.mp ha
    rcases (kw.ow p hp).2.2 with z | z
    · exact z
    · cases z
  have key := hs ys hi _ F' _ H v (st.wipe vs) (rx F' kw.ff) (fun σ2 H2 => tt σ2 H2 fun b H3 =>
      if b = true then ti1 σ2 H3 fun J1 H4 => ∃ W1 : Nat → Nat → Hp → Prop, (∃ m, W1 0 m H4) ∧ ∀ j k H, W1 j k H →
        (J1.stop j H ∧ ∃ F' acc ys L, Wk ⟨F1, H1, []⟩ F' ((D, .lst acc) :: L) H ∧ OReps od Y.g F' acc ys L ∧ I (i + 1) ys) ∨ (J1.go j H ∧ ∃ Nx1 : Hp → Prop, (∀ H', Nx1 H' → ∃ k', k' < k ∧ W1 (j + 1) k' H') ∧ ∀ x H', J1.yld j H x H' → g1 x (wipe σ2 vs1) H' fun σ3 H5 => wipe σ3 vs1 = wipe σ2 vs1 ∧ tt1 σ3 H5 fun b H6 =>
          if b = true then te σ3 H6 fun y H7 => ∃ acc, H7 D = some (.lst acc) ∧ acc.length < PySem.sizeLine ∧ Nx1 (upd H7 D (.lst (acc ++ [y]))) else Nx1 H6)
      else ∃ F' acc ys L, Wk ⟨F1, H1, []⟩ F' ((D, .lst acc) :: L) H3 ∧ OReps od Y.g F' acc ys L ∧ I (i + 1) ys) fun σ2 Γ2 h2 st2 => by
    refine h2 _ F' σ2 H st2 _ fun b F3 H3 kb g3 => ?_
    cases b with
    | false => exact ⟨F3, acc, ys, L, kw.trans0 g3, r.mono g3.ff, kb.2 rfl⟩
    | true =>
      refine kb.1 rfl _ F3 σ2 H3 (st2.grow g3) _ fun J1 F4 H4 us1 zs Gd1 ⟨I1, h10, h1s, h1d⟩ hz1 g4 hGd1 w1 r1 => ?_
      have st4 := (st2.grow g3).grow g4
      have kw4 := (kw.trans0 g3).trans0 g4
      have hF4 : ∀ a, a ∈ ((D, (.lst acc : HO)) :: L).map Prod.fst → F4 a = none := fun a ha => by
        obtain ⟨p, hp, rfl⟩ := List.mem_map.mp ha
        exact (kw4.ow p hp).1
      obtain ⟨M5, st5⟩ := st4.lessS (S := ((D, (.lst acc : HO)) :: L).map Prod.fst) hHS hdis hF4
      have kwA : Wk ⟨F4, G.lessS H4 (((D, (.lst acc : HO)) :: L).map Prod.fst), []⟩ F4 ((D, .lst acc) :: L) H4 := ⟨Same.refl _, fun a o _ h => lessS_some h, fun a h => by
        have h : G.lessS H4 (((D, (.lst acc : HO)) :: L).map Prod.fst) a ≠ none := h
        intro z
        refine h ?_
        unfold G.lessS
        split
        · rfl
        · exact z, kw4.fh, fun _ _ h => h, kw4.tp, fun p hp => ⟨(kw4.ow p hp).1, (kw4.ow p hp).2.1, .inl (lessS_in (List.mem_map.mpr ⟨p, hp, rfl⟩))⟩, kw4.nd⟩
      have kwB : Wk ⟨F1, H1, []⟩ F4 [] (G.lessS H4 (((D, (.lst acc : HO)) :: L).map Prod.fst)) := ⟨kw4.ff, fun a o hm h => by
        have h1 : H1 a = some o := h
        rw [lessS_out fun z => by rw [hH1 a z] at h1; cases h1]
        exact kw4.hh a o hm h, fun a h => by
        have h : H1 a ≠ none := h
        rw [lessS_out fun z => h (hH1 a z)]
        exact kw4.th a h, fun a o h => by
        rw [lessS_out fun z => by rw [hF4 a z] at h; cases h]
        exact kw4.fh a o h, kw4.nw, fun a xs h => kw4.tp a xs (lessS_some h), fun p hp => (nomatch hp), List.nodup_nil⟩
      refine ⟨fun j k H => k = us1.length - j ∧ j ≤ us1.length ∧ ∃ F' acc' ys L', Wk ⟨F4, G.lessS H4 (((D, (.lst acc : HO)) :: L).map Prod.fst), []⟩ F' ((D, .lst acc') :: L') H ∧ OReps od Y.g F' acc' ys L' ∧ I1 j ys, ⟨us1.length, by simp, Nat.zero_le _, F4, acc, ys, L, kwA, r.mono (g3.ff.trans g4.ff), h10⟩, ?_⟩
      rintro j k H5 ⟨rfl, hj, p1⟩
      have hG1 : Gd1 H5 := by
        obtain ⟨F5, acc5, ys5, L5, kw5, _⟩ := id p1
        exact hGd1 H5 (kw5.ff.trans kw5.fh)
      by_cases hlt : j < us1.length
      · refine .inr ⟨w1.goes j H5 hlt hG1, fun H => ∃ F' acc' ys L', Wk ⟨F4, G.lessS H4 (((D, (.lst acc : HO)) :: L).map Prod.fst), []⟩ F' ((D, .lst acc') :: L') H ∧ OReps od Y.g F' acc' ys L' ∧ I1 (j + 1) ys, fun H' p' => ⟨us1.length - (j + 1), by omega, rfl, hlt, p'⟩, fun z H' y => ?_⟩
        obtain ⟨e1, hz⟩ := w1.yields j H5 z H' hlt hG1 y
        subst e1
        obtain ⟨z', hz', rz⟩ := r1.getV hz
        exact compO_turn (Y := calm Y.g) st5 hT1 (h1s j z' · hz') (fun F' sm => d1.mono sm rz) p1
      · have ej : j = us1.length := by omega
        subst ej
        refine .inl ⟨w1.stops H5 hG1, ?_⟩
        obtain ⟨F5, acc5, ys5, L5, kw5, r5, h5⟩ := p1
        rw [r1.len] at h5
        exact ⟨F5, acc5, ys5, L5, by simpa using kwB.trans kw5, r5, h1d ys5 h5⟩
  have key2 := hT v _ H _ key
  rw [wipe_wipeB] at key2
  exact key2
theorem o_lc2O {od : @OD β d2} {kx : List β → Prop} (hT : Tg g vs) (hT1 : Tg g1 vs1) (h : Iwk Y ti Γ d fun xs => CompO2 (calm Y.g) g tt ti1 g1 tt1 te vs1 d d1 od kx xs (wipeC Γ vs)) : O Y (tLc2 ti g tt ti1 g1 tt1 te vs vs1) Γ (oDeep od) kx := fun e F σ H s Q q => h e F σ H s _ fun J F1 H1 us xs Gd ⟨I, h0, hs, hd⟩ hz gg hGd w r D hD => by
  have kw0 : Wk ⟨F1, H1, []⟩ F1 [(D, .lst [])] (upd H1 D (.lst [])) := gg.base.own hD (fun _ z => by cases z)
  refine ⟨fun i m H => m = us.length - i ∧ i ≤ us.length ∧ ∃ F' acc ys L, Wk ⟨F1, H1, []⟩ F' ((D, .lst acc) :: L) H ∧ OReps od Y.g F' acc ys L ∧ I i ys, ⟨us.length, by simp, Nat.zero_le _, F1, [], [], [], kw0, rfl, h0⟩, ?_⟩
  rintro i m H' ⟨rfl, hi, p⟩
  have hG : Gd H' := by
    obtain ⟨F', acc, ys, L, kw, _⟩ := id p
    exact hGd H' (kw.ff.trans kw.fh)
  by_cases hlt : i < us.length
  · refine .inr ⟨w.goes i H' hlt hG, fun H => ∃ F' acc ys L, Wk ⟨F1, H1, []⟩ F' ((D, .lst acc) :: L) H ∧ OReps od Y.g F' acc ys L ∧ I (i + 1) ys, fun H'' p' => ⟨us.length - (i + 1), by omega, rfl, hlt, p'⟩, fun v H'' y => ?_⟩
    obtain ⟨e1, hv⟩ := w.yields i H' v H'' hlt hG y
    subst e1
    obtain ⟨x, hx, rx⟩ := r.getV hv
    exact comp_turn2O (s.grow gg) hD hT hT1 (hs i x · hx) (fun F' sm => d.mono sm rx) p
  · have ei : i = us.length := by omega
    subst ei
    refine .inl ⟨w.stops H' hG, ?_⟩
    obtain ⟨F', acc, ys, L, kw, ra, hI⟩ := p
    rw [r.len] at hI
    exact q _ F' H' _ ys (hd ys hI) (by simpa using gg.trans kw) ⟨D, acc, L, rfl, rfl, ra⟩
end
section
variable {tx : XC → Addr} {Y : YC} {Γ : List Cell} {α β γ : Type} {d : Dat α} {d1 : Dat γ} {d2 : Dat β} {g g1 : TG} {tt tt1 : TT} {te : TE} {ti ti1 : L2.TI} {vs vs1 : List Nat}
theorem oe_lc2O {od : @OD β d2} {m0 : M (List α)} {p : α → M Bool} {m1 : α → M (List γ)} {p1 : α → γ → M Bool} {f : α → γ → M β} (hT : Tg g vs ∧ MoG g) (hT1 : Tg g1 vs1 ∧ MoG g1) (h : Iw tx Y ti Γ d m0)
    (hb : ∀ x, A (calm Y.g) g (wipeC Γ vs) d x fun Γ2 => Te tx (calm Y.g) tt Γ2 (p x) ∧ Iw tx (calm Y.g) ti1 Γ2 d1 (m1 x) ∧ ∀ z, A (calm Y.g) g1 (wipeC Γ2 vs1) d1 z fun Γ3 => Te tx (calm Y.g) tt1 Γ3 (p1 x z) ∧ Oe tx (calm Y.g) te Γ3 od (f x z)) :
    Oe tx Y (tLc2 ti g tt ti1 g1 tt1 te vs vs1) Γ (oDeep od) (m0 >>= M.lc2 p m1 p1 f) := fun nb xk => o_lc2O (d1 := d1) hT.1 hT1.1 fun e F σ H s R q => h (M.nb1 nb) xk.l e F σ H s R fun J F1 H1 us xs Gd em hz gg hG w r => q J F1 H1 us xs Gd (by
  have nb2 : (M.lc2 p m1 p1 f xs).nb := M.nb2 nb em
  obtain ⟨tot, et⟩ := M.comp2_tot p m1 p1 f xs (M.nb1 nb2)
  have htl : tot.length ≤ PySem.sizeLine := by
    unfold M.lc2 at nb2
    rw [et] at nb2
    exact M.asrt_nb nb2
  have efin : (m0 >>= M.lc2 p m1 p1 f) = .ok tot := by
    rw [em]
    show M.lc2 p m1 p1 f xs = _
    unfold M.lc2
    rw [et]
    exact M.asrt_pos htl
  refine ⟨fun i ys => M.comp2 p m1 p1 f (xs.take i) = .ok ys, rfl, fun i x ys hx hi => ?_, fun ys hi => ?_⟩
  · have hlt : i < xs.length := (List.getElem?_eq_some_iff.mp hx).1
    have htk : xs.take (i + 1) = xs.take i ++ [x] := by rw [List.take_add_one, hx]; rfl
    have hdr : xs = xs.take i ++ (x :: xs.drop (i + 1)) := by
      have h1 : xs = xs.take (i + 1) ++ xs.drop (i + 1) := (List.take_append_drop _ _).symm
      rw [htk, List.append_assoc] at h1
      exact h1
    have e0 : M.comp2 p m1 p1 f xs = (M.part p m1 p1 f x >>= fun a => M.comp2 p m1 p1 f (xs.drop (i + 1)) >>= fun b => .ok (ys ++ (a ++ b))) := by
      conv => lhs; rw [hdr]
      rw [M.comp2_app, hi, M.comp2_cons]
      simp only [M.assoc, M.ok_bind]
    have e1 : M.comp2 p m1 p1 f (xs.take (i + 1)) = (M.part p m1 p1 f x >>= fun a => .ok (ys ++ a)) := by
      rw [htk, M.comp2_app, hi, M.comp2_cons]
      simp only [M.assoc, M.ok_bind, M.comp2, List.append_nil]
    have nbp : (M.part p m1 p1 f x).nb := fun z => by rw [z] at e0; rw [e0] at et; cases et
    have hpt := M.part_tot p m1 p1 f x nbp
    intro e2 F2 σ2 H2 v s2 r2 Q q2
    refine hb x e2 F2 σ2 H2 v s2 r2 Q fun σ' Γ' ⟨ht, hw, ha⟩ s' => q2 σ' Γ' ?_ s'
    have hpb : ∃ b, p x = .ok b := by
      rcases hpt with ⟨e3, _⟩ | ⟨_, _, e3, _⟩ <;> exact ⟨_, e3⟩
    obtain ⟨b, hb1⟩ := hpb
    refine t_mono (ht (by rw [hb1]; exact fun z => nomatch z) (by rw [hb1]; exact XkM.ok)) fun b' eb => ⟨fun z => ?_, fun z => ?_⟩
    · rw [hb1] at eb
      cases eb
      subst z
      rcases hpt with ⟨e3, _⟩ | ⟨zs, as, _, e4, e5, e6⟩
      · rw [hb1] at e3; cases e3
      rw [e6] at e0 e1
      simp only [M.ok_bind] at e0 e1
      have hpre : ∃ rest, tot = ys ++ (as ++ rest) := by
        rw [et] at e0
        cases hc : M.comp2 p m1 p1 f (xs.drop (i + 1)) with
        | ok rest => rw [hc] at e0; cases e0; exact ⟨rest, rfl⟩
        | bad => rw [hc] at e0; cases e0
        | exc z => rw [hc] at e0; cases e0
      intro e3 F3 σ3 H3 s3 R3 q3
      refine hw (by rw [e4]; exact fun z => nomatch z) (by rw [e4]; exact XkM.ok) e3 F3 σ3 H3 s3 R3 fun J1 F4 H4 us1 zs' Gd1 ez hz1 g4 hG1 w1 r1 => ?_
      rw [e4] at ez
      cases ez
      refine q3 J1 F4 H4 us1 zs Gd1 ⟨fun j ws => ∃ a, M.comp (p1 x) (f x) (zs.take j) = .ok a ∧ ws = ys ++ a, ⟨[], rfl, (List.append_nil _).symm⟩, fun j z ws hzj ⟨a, ea, ew⟩ => ?_, fun ws ⟨a, ea, ew⟩ => ?_⟩ hz1 g4 hG1 w1 r1
      · have hj : j < zs.length := (List.getElem?_eq_some_iff.mp hzj).1
        have hztk : zs.take (j + 1) = zs.take j ++ [z] := by rw [List.take_add_one, hzj]; rfl
        have e7 : M.comp (p1 x) (f x) (zs.take (j + 1)) = (M.comp (p1 x) (f x) [z] >>= fun b => .ok (a ++ b)) := by rw [hztk, M.comp_app, ea]; rfl
        have e8 : (M.comp (p1 x) (f x) [z] >>= fun b => M.comp (p1 x) (f x) (zs.drop (j + 1)) >>= fun c => .ok ((a ++ b) ++ c)) = .ok as := by
          rw [← e5]
          conv => rhs; rw [show zs = zs.take (j + 1) ++ zs.drop (j + 1) from (List.take_append_drop _ _).symm]
          rw [M.comp_app, e7]
          simp only [M.assoc, M.ok_bind]
        have nb3 : (M.comp (p1 x) (f x) [z]).nb := fun q => by rw [q] at e8; cases e8
        have hlen : ∀ bz, M.comp (p1 x) (f x) [z] = .ok bz → ys.length + a.length + bz.length ≤ PySem.sizeLine := fun bz ebz => by
          rw [ebz] at e8
          simp only [M.ok_bind] at e8
          obtain ⟨rest, er⟩ := hpre
          cases hc : M.comp (p1 x) (f x) (zs.drop (j + 1)) with
          | ok c =>
            rw [hc] at e8
            cases e8
            rw [er] at htl
            simp only [List.length_append] at htl
            omega
          | bad => rw [hc] at e8; cases e8
          | exc w => rw [hc] at e8; cases e8
        intro e9 F9 σ9 H9 v9 s9 r9 Q9 q9
        refine ha z e9 F9 σ9 H9 v9 s9 r9 Q9 fun σ10 Γ3 ⟨ht3, hw3⟩ s10 => q9 σ10 Γ3 ?_ s10
        simp only [M.comp] at nb3 e7 hlen
        obtain ⟨b2, hb2⟩ := M.calm_nb (M.nb1 nb3)
        rw [hb2] at nb3 e7 hlen
        simp only [M.calm_of_ok, M.ok_bind] at nb3 e7 hlen
        refine t_mono (ht3 (by rw [hb2]; exact fun z => nomatch z) (by rw [hb2]; exact XkM.ok)) fun b' eb => ⟨fun zz => ?_, fun zz => ?_⟩
        · rw [hb2] at eb
          cases eb
          subst zz
          rw [if_pos rfl] at nb3 e7 hlen
          obtain ⟨y, hy⟩ := M.calm_nb (M.nb1 nb3)
          rw [hy] at e7 hlen
          simp only [M.calm_of_ok, M.ok_bind] at e7 hlen
          refine o_mono (hw3 (by rw [hy]; exact fun z => nomatch z) (by rw [hy]; exact XkM.ok)) fun y' ey => ?_
          rw [hy] at ey
          cases ey
          have hl2 := hlen [y] rfl
          refine ⟨?_, a ++ [y], e7, by rw [ew, List.append_assoc]⟩
          rw [ew, List.length_append]
          simp only [List.length_singleton] at hl2
          omega
        · rw [hb2] at eb
          cases eb
          subst zz
          rw [if_neg (by simp)] at e7
          exact ⟨a, by rw [e7]; simp, ew⟩
      · rw [List.take_length, e5] at ea
        cases ea
        rw [e1, ew]
    · rw [hb1] at eb
      cases eb
      subst z
      rcases hpt with ⟨_, e6⟩ | ⟨_, _, e3, _⟩
      · rw [e1, e6]
        simp
      · rw [hb1] at e3; cases e3
  · have hi : M.comp2 p m1 p1 f (xs.take xs.length) = .ok ys := hi
    rw [List.take_length, et] at hi
    cases hi
    exact efin) hz gg hG w r
end
end G
end

noncomputable section
/-! M106: return [x for x in xs if t], xs an own list whose items are owned: the picked items are given (zm_retPick). -/
namespace G
open PySem PySem.Spec PyProof.Rows L2 PySem.W
section
variable {tx : XC → Addr} {Y : YC} {Γ : List Cell} {tt : TT} {α τ : Type} {d : Dat α} {js : List Nat} {rest : TS}
/-- picking owned items out of the list at a, wherever it comes from -/
theorem lcPick_at {e : En} {F : Hp} {σ : _root_.L2.St} {H : Hp} {od : @OD α d} {vs : List Nat} {j : Nat} {c0 : Cell} {kx : List α → Prop} (hj : j ∈ vs) (hc : (wipeC Γ vs)[j]? = some c0) (p : α → Bool) (s : State Y e F σ H Γ) {F1 H1 : Hp} {a : Addr} {us : List V} {L2 : LO} {xs : List α} (g1 : Wk ⟨F, H, []⟩ F1 ((a, .lst us) :: L2) H1) (r : OReps od Y.g F1 us xs L2)
    (hsz : xs.length ≤ PySem.sizeLine) (ht : ∀ x ∈ xs, T (calm Y.g) tt ((wipeC Γ vs).set j (.val d x)) (· = p x)) (hk : kx (xs.filter p)) {Q : VK} (q : ∀ v F' H' L' (x : List α), kx x → Wk ⟨F, H, []⟩ F' L' H' → (oDeep od).orep Y.g F' v x L' → Q v H') :
    tLc (iList Y.K (fun _ _ Q => Q (V.ref a) H1)) (gName j) tt (tVar j) vs σ H Q := by
  have s1 := s.growL g1
  have ha : H1 a = some (.lst us) := (g1.ow (a, .lst us) (by simp)).2.1
  refine ⟨a, rfl, ⟨us, .inl (.inl ha)⟩, fun D hD => ?_⟩
  have hDa : a ≠ D := ne_of_none ha hD
  have kw0 : Wk ⟨F, H, []⟩ F1 ((D, .lst []) :: ((a, .lst us) :: L2)) (upd H1 D (.lst [])) := g1.own hD (fun _ z => by cases z)
  refine lc_list (K := Y.K) (a := a) (xs := us) (fun i H' => ∃ F' acc La Lb, Wk ⟨F, H, []⟩ F' ((D, .lst acc) :: (a, .lst us) :: (La ++ Lb)) H' ∧ OReps od Y.g F' acc ((xs.take i).filter p) La ∧ OReps od Y.g F' (us.drop i) (xs.drop i) Lb ∧ Same F1 F') ⟨F1, [], [], L2, kw0, rfl, r, Same.refl _⟩ (fun i H' _ ⟨F', acc, La, Lb, kw, _⟩ => .inl (.inl (kw.ow (a, .lst us) (by simp)).2.1)) (fun i w H' hw ⟨F', acc, La, Lb, kw, ra, rb, sm⟩ => ?_) fun H' ⟨F', acc, La, Lb, kw, ra, rb, sm⟩ => ?_
  · -- one turn
    have hlt : i < us.length := (List.getElem?_eq_some_iff.mp hw).1
    have hlx : i < xs.length := by rw [← r.len]; exact hlt
    have hx : xs[i]? = some xs[i] := by simp [hlx]
    generalize xs[i] = x at hx
    have hxm : x ∈ xs := List.mem_of_getElem? hx
    have du : us.drop i = w :: us.drop (i + 1) := by rw [← List.getElem_cons_drop hlt]; congr 1; exact (List.getElem?_eq_some_iff.mp hw).2
    have dx : xs.drop i = x :: xs.drop (i + 1) := by rw [← List.getElem_cons_drop hlx]; congr 1; exact (List.getElem?_eq_some_iff.mp hx).2
    rw [du, dx] at rb
    obtain ⟨Lx, Lb', eL, rx, rb'⟩ := rb
    subst eL
    -- the item, as if it were frozen
    obtain ⟨_, L0, k0, sl0⟩ := id s
    have kall := k0.trans kw
    obtain ⟨Lw, hLw, slw⟩ := (sl0.mono kw.ff).wipe vs
    obtain ⟨o1, M1, Mi, M2, f1, f2, f3, f4⟩ := slw.get hc
    have kx1 : Wk ⟨F', fun _ => none, []⟩ F' (Lx ++ (M1 ++ M2)) H' := by
      refine kall.blank.sublist ?_
      refine List.Sublist.append ?_ (List.Sublist.trans ?_ hLw)
      · refine .cons _ (.cons _ ?_)
        exact List.Sublist.trans (List.sublist_append_left _ _) (List.sublist_append_right _ _)
      · rw [f2, List.append_assoc]
        exact List.Sublist.append_left (List.sublist_append_right _ _) _
    have fx : ∀ q ∈ Lx, F' q.1 = none := fun q hq => (kx1.ow q (List.mem_append_left _ hq)).1
    have nx : (Lx.map Prod.fst).Nodup := by
      have n := kx1.nd
      rw [List.map_append] at n
      exact (List.nodup_append.mp n).1
    have kf := kx1.freeze fun _ _ z => (nomatch z)
    have smx := same_plus fx nx
    have repx : d.rep Y.g (plus F' Lx) w x := od.view rx smx (plus_get fx nx)
    have st2 : State (calm Y.g) ⟨F', fun _ => none, []⟩ (plus F' Lx) ((wipe σ vs).set j (some w)) H' ((wipeC Γ vs).set j (.val d x)) :=
      ⟨fun _ _ _ _ _ _ z => z.elim, M1 ++ M2, kf, by simpa using f4 (plus F' Lx) (some w) (.val d x) [] smx ⟨rfl, w, rfl, repx⟩⟩
    have hwj : ((wipe σ vs).set j (some w))[j]? = some (some w) := by
      rw [List.getElem?_set_self]
      rw [slw.len]
      exact (List.getElem?_eq_some_iff.mp hc).1
    have tk : ((xs.take (i + 1)).filter p) = (xs.take i).filter p ++ (if p x then [x] else []) := getElem?_filterTake p xs hx
    refine ⟨by rw [wipe_at hj, wipe_wipe], ht x hxm _ _ _ _ st2 _ fun b F2 H2 hb g2 => ?_⟩
    subst hb
    have g3 := fresh_gr kw.base g2
    have kw3 := kw.trans0 g3
    have ra3 := ra.mono g3.ff
    have rb3 := rb'.mono g3.ff
    cases hp : p x with
    | true =>
      rw [hp, if_pos rfl] at tk
      refine ⟨w, hwj, acc, (kw3.ow (D, .lst acc) (by simp)).2.1, ?_, fresh F' H' F2, acc ++ [w], La ++ Lx, Lb', ?_, ?_, rb3, sm.trans g3.ff⟩
      · rw [ra3.len]
        have h1 := List.length_filter_le p (xs.take i)
        rw [List.length_take] at h1
        omega
      · have k4 : Wk ⟨F, H, []⟩ (fresh F' H' F2) ((D, .lst (acc ++ [w])) :: (a, .lst us) :: (La ++ (Lx ++ Lb'))) _ := kw3.put (o' := .lst (acc ++ [w])) (fun _ z => by cases z)
        rw [List.append_assoc]
        exact k4
      · rw [tk]
        exact ra3.append (OReps.one (od.omono g3.ff rx))
    | false =>
      rw [hp, if_neg (fun z => (nomatch z)), List.append_nil] at tk
      refine ⟨fresh F' H' F2, acc, La, Lb', kw3.sublist ?_, by rw [tk]; exact ra3, rb3, sm.trans g3.ff⟩
      exact .cons₂ _ (.cons₂ _ (List.Sublist.append_left (List.sublist_append_right _ _) _))
  · rw [r.len, List.take_length] at ra
    exact q _ F' H' ((D, .lst acc) :: La) _ hk (kw.sublist (.cons₂ _ (.cons _ (List.sublist_append_left _ _)))) ⟨D, acc, La, rfl, rfl, ra⟩
theorem z_retPick {k : Ks} {od : @OD α d} {i j : Nat} {pin : Option V} {c0 : Cell} {xs : List α} (hi : Γ[i]? = some (.own (dList (d := d)) (oDeep od) pin xs)) (hc : (wipeC (Γ.set i .no) [j])[j]? = some c0) (p : α → Bool) (hsz : xs.length ≤ PySem.sizeLine)
    (ht : ∀ x ∈ xs, T (calm Y.g) tt ((wipeC (Γ.set i .no) [j]).set j (.val d x)) (· = p x)) (hk : k.rt (.own (dList (d := d)) (oDeep od) none (xs.filter p)) (Γ.set i .no)) : Z Y (tRet (tLc (iList Y.K (tVar i)) (gName j) tt (tVar j) [j])) Γ k := fun e F σ H D hM s c => by
  obtain ⟨hx, L, k0, sl⟩ := s
  obtain ⟨o, L1, Li, Lr, e1, e2, ⟨v, rfl, _, a, us, L2, rfl, rfl, r⟩, f⟩ := sl.get hi
  subst e2
  have sl2 := f F (some (V.ref a)) .no [] (Same.refl F) rfl
  rw [List.append_nil] at sl2
  have hset : σ.set i (some (V.ref a)) = σ := by
    apply List.ext_getElem?
    intro m
    by_cases hm : i = m
    · subst hm
      rw [List.getElem?_set_self (List.getElem?_eq_some_iff.mp e1).1, e1]
    · rw [List.getElem?_set_ne hm]
  rw [hset] at sl2
  have knd := k0.nd
  rw [List.map_append, List.map_append, List.nodup_append, List.nodup_append] at knd
  obtain ⟨⟨n1, n2, n12⟩, n3, n123⟩ := knd
  have hdis : ∀ b, b ∈ ((a, (.lst us : HO)) :: L2).map Prod.fst → b ∉ (L1 ++ Lr).map Prod.fst := fun b hb hc => by
    rw [List.map_append] at hc
    rcases List.mem_append.mp hc with hc | hc
    · exact n12 b hc b hb rfl
    · exact n123 b (List.mem_append_right _ hb) b hc rfl
  have inS : ∀ b, b ∈ ((a, (.lst us : HO)) :: L2).map Prod.fst → ∃ p ∈ ((a, (.lst us : HO)) :: L2), p.1 = b ∧ F b = none ∧ H b = some p.2 ∧ e.H0 b = none := fun b hb => by
    obtain ⟨p, hp, rfl⟩ := List.mem_map.mp hb
    have ow := k0.ow p (List.mem_append_left _ (List.mem_append_right _ hp))
    refine ⟨p, hp, rfl, ow.1, ow.2.1, ?_⟩
    rcases ow.2.2 with z | z
    · exact z
    · rw [hM] at z; cases z
  have kr : Wk e F (L1 ++ Lr) H := k0.sub (fun p hp => by
    rcases List.mem_append.mp hp with hp | hp
    · exact List.mem_append_left _ (List.mem_append_left _ hp)
    · exact List.mem_append_right _ hp) (by
    rw [List.map_append, List.nodup_append]
    exact ⟨n1, n3, fun x hx y hy => n123 x (List.mem_append_left _ hx) y hy⟩)
  have st : State (calm Y.g) ⟨F, H, (L1 ++ Lr).map Prod.fst⟩ F σ H (Γ.set i .no) := ⟨fun _ _ _ _ _ _ hk _ _ => hk, L1 ++ Lr, ⟨Same.refl _, fun _ _ _ h => h, fun _ h => h, kr.fh, fun _ _ h => h, kr.tp, fun p hp => ⟨(kr.ow p hp).1, (kr.ow p hp).2.1, .inr (List.mem_map.mpr ⟨p, hp, rfl⟩)⟩, kr.nd⟩, sl2⟩
  obtain ⟨M5, st5⟩ := st.lessS (S := ((a, (.lst us : HO)) :: L2).map Prod.fst) (fun b hb => by
    obtain ⟨p, _, _, _, h, _⟩ := inS b hb
    show H b ≠ none
    rw [h]
    exact fun z => nomatch z) hdis (fun b hb => let ⟨_, _, _, h, _, _⟩ := inS b hb; h)
  have g1 : Wk ⟨F, G.lessS H (((a, (.lst us : HO)) :: L2).map Prod.fst), []⟩ F ((a, .lst us) :: L2) H := ⟨Same.refl _, fun a o _ h => lessS_some h, fun b h => by
    have h : G.lessS H (((a, (.lst us : HO)) :: L2).map Prod.fst) b ≠ none := h
    intro z
    refine h ?_
    unfold G.lessS
    split
    · rfl
    · exact z, kr.fh, fun _ _ h => h, kr.tp, fun p hp => by
    obtain ⟨p', hp', e3, h1, h2, _⟩ := inS p.1 (List.mem_map.mpr ⟨p, hp, rfl⟩)
    have ow := k0.ow p (List.mem_append_left _ (List.mem_append_right _ hp))
    exact ⟨ow.1, ow.2.1, .inl (lessS_in (List.mem_map.mpr ⟨p, hp, rfl⟩))⟩, n2⟩
  have kb : Wk e F (L1 ++ Lr) (G.lessS H (((a, (.lst us : HO)) :: L2).map Prod.fst)) := ⟨kr.ff, fun b o hm h => by
    rw [lessS_out fun z => by obtain ⟨_, _, _, _, _, h0⟩ := inS b z; rw [h0] at h; cases h]
    exact kr.hh b o hm h, fun b h => by
    rw [lessS_out fun z => by obtain ⟨_, _, _, _, _, h0⟩ := inS b z; exact h h0]
    exact kr.th b h, fun b o h => by
    rw [lessS_out fun z => by obtain ⟨_, _, _, h0, _, _⟩ := inS b z; rw [h0] at h; cases h]
    exact kr.fh b o h, kr.nw, fun b xs h => kr.tp b xs (lessS_some h), fun p hp => ⟨(kr.ow p hp).1, by
    rw [lessS_out fun z => hdis p.1 z (List.mem_map.mpr ⟨p, hp, rfl⟩)]
    exact (kr.ow p hp).2.1, (kr.ow p hp).2.2⟩, kr.nd⟩
  refine ⟨V.ref a, e1, ?_⟩
  have key := lcPick_at (Y := calm Y.g) (kx := fun zs => zs = xs.filter p) List.mem_cons_self hc p st5 g1 r hsz ht rfl (Q := D.rt) fun v F' H' L' x hx g rr => by
    subst hx
    exact c.rt F' σ H' (Γ.set i .no) v (.own (dList (d := d)) (oDeep od) none (xs.filter p)) L' (L1 ++ Lr) hk (kb.trans g) ⟨v, rfl, fun _ z => (nomatch z), rr⟩ (sl2.mono g.ff)
  exact key
theorem zm_retPick {cell : List α → Cell} {od : @OD α d} {i j : Nat} {pin : Option V} {c0 : Cell} {xs : List α} {pm : α → M Bool} (hi : Γ[i]? = some (.own (dList (d := d)) (oDeep od) pin xs)) (hc : (wipeC (Γ.set i .no) [j])[j]? = some c0)
    (ht : ∀ x, Te tx (calm Y.g) tt ((wipeC (Γ.set i .no) [j]).set j (.val d x)) (pm x)) (he : cell = fun r => .own (dList (d := d)) (oDeep od) none r := by rfl) :
    Zm tx Y js (tSeq (tRet (tLc (iList Y.K (tVar i)) (gName j) tt (tVar j) [j])) rest) Γ (KF cell) (M.asrt (xs.length ≤ PySem.sizeLine) (M.comp pm (fun x => .ok x) xs)) := fun nb xk => by
  subst he
  have hsz := M.asrt_nb nb
  have nb2 : (M.comp pm (fun x => .ok x) xs).nb := by rwa [M.asrt_pos hsz] at nb
  have hp : ∀ x ∈ xs, ∃ b, pm x = .ok b := by
    have gen : ∀ xs : List α, (M.comp pm (fun x => .ok x) xs).nb → ∀ x ∈ xs, ∃ b, pm x = .ok b := by
      intro xs
      induction xs with
      | nil => intro _ x hx; cases hx
      | cons y ys ih =>
        intro nb x hx
        have e : M.comp pm (fun x => .ok x) (y :: ys) = (M.comp pm (fun x => .ok x) [y] >>= fun a => M.comp pm (fun x => .ok x) ys >>= fun b => .ok (a ++ b)) := M.comp_app pm _ [y] ys
        rw [e] at nb
        have n1 : (M.comp pm (fun x => .ok x) [y]).nb := M.nb1 nb
        rcases List.mem_cons.mp hx with rfl | hx
        · simp only [M.comp] at n1
          exact M.calm_nb (M.nb1 n1)
        · refine ih ?_ x hx
          obtain ⟨a, ea⟩ := M.comp_tot pm (fun x => .ok x) [y] n1
          rw [ea] at nb
          exact M.nb1 nb
    exact gen xs nb2
  have hch : ∃ p : α → Bool, ∀ x ∈ xs, pm x = .ok (p x) := by
    refine ⟨fun x => match pm x with | .ok b => b | _ => false, fun x hx => ?_⟩
    obtain ⟨b, e⟩ := hp x hx
    simp only [e]
  obtain ⟨p, hp2⟩ := hch
  have ev : M.asrt (xs.length ≤ PySem.sizeLine) (M.comp pm (fun x => .ok x) xs) = .ok (xs.filter p) := by
    rw [M.asrt_pos hsz, M.comp_of p (fun x => x) xs hp2 fun _ _ _ => rfl, List.map_id']
  exact z_retPick (k := (KF fun r => Cell.own (dList (d := d)) (oDeep od) none r).ks _) hi hc p hsz (fun x hx => t_mono (ht x (by rw [hp2 x hx]; exact fun z => nomatch z) (by rw [hp2 x hx]; exact XkM.ok)) fun b eb => by rw [hp2 x hx] at eb; cases eb; rfl) ⟨_, ev, rfl⟩
end
end G
end

noncomputable section
/-! M107: [e], e a new list that is owned from here on. -/
namespace G
open PySem PySem.Spec PyProof.Rows L2 PySem.W
section
variable {tx : XC → Addr} {Y : YC} {Γ : List Cell} {te : TE} {α : Type} {d : Dat α}
end
end G
end

noncomputable section
/-! M108: xs.index(y) for texts (we_indexS). -/
namespace G
open PySem PySem.Spec PyProof.Rows L2 PySem.W
section
variable {tx : XC → Addr} {Y : YC} {Γ : List Cell} {ta tb : TE}
theorem w_indexS {k : Int → Prop} (h : W Y ta Γ (dList (d := dStr)) fun xs => W Y tb Γ dStr fun y => ∃ j : Nat, (xs.findIdx? fun z => decide (z = y)) = some j ∧ k j) :
    W Y (tBM Y.K "list" (rIndex Y.K) ta (tCons tb tNil)) Γ dInt k := fun e F σ H s Q q => h e F σ H s _ fun v1 F1 H1 xs h1 g1 ⟨a, vs, e1, hs, r⟩ => by
  subst e1
  refine ⟨.inl ⟨rfl, vs, g1.fh.seq hs⟩, h1 e F1 σ H1 (s.grow g1) _ fun v2 F2 H2 y ⟨j, hj, hk⟩ g2 r2 => ?_⟩
  rw [List.findIdx?_eq_some_iff_getElem] at hj
  obtain ⟨hlt, hp, hno⟩ := hj
  cases (show v2 = .str y from r2)
  have hv := r.strs
  subst hv
  refine ⟨a, xs.map V.str, .str y, j, .str xs[j], rfl, rfl, (g1.fh.trans g2.hh0).seq hs, rfl, ?_, ?_, ?_, fun m z' hm hz => ?_, q _ F2 H2 _ hk (g1.trans0 g2) rfl⟩
  · rw [List.all_map, List.all_eq_true]
    exact fun _ _ => rfl
  · rw [List.getElem?_map, List.getElem?_eq_getElem hlt]; rfl
  · show (xs[j] == y) = true
    rw [decide_eq_true_eq] at hp
    rw [hp]
    exact beq_self_eq_true y
  · rw [List.getElem?_map, List.getElem?_eq_getElem (by omega)] at hz
    cases hz
    have := hno m hm
    show (xs[m] == y) = false
    simpa using this
theorem we_indexS {m : M (List Str)} {n : M Str} (h : We tx Y ta Γ (dList (d := dStr)) m) (h2 : We tx Y tb Γ dStr n) : We tx Y (tBM Y.K "list" (rIndex Y.K) ta (tCons tb tNil)) Γ dInt (m >>= fun xs => n >>= fun y => M.idx xs y) := fun nb xk =>
  w_indexS (h.k nb xk fun x e nb xk => h2.k nb xk fun y e2 nb xk => by
    unfold M.idx at nb
    cases hf : x.findIdx? (fun z => decide (z = y)) with
    | none => rw [hf] at nb; exact absurd rfl nb
    | some j => exact ⟨j, rfl, by rw [e]; show (n >>= _) = _; rw [e2]; show M.idx x y = _; unfold M.idx; rw [hf]; rfl⟩)
end
end G
namespace L2
open PySem PySem.Spec PyProof.Rows
end L2

noncomputable section
/-! M109: zm_retPick where the list is asked for its bound (iListB). -/
namespace G
open PySem PySem.Spec PyProof.Rows L2 PySem.W
section
variable {tx : XC → Addr} {Y : YC} {js : List Nat} {Γ : List Cell} {tt : TT} {rest : TS} {α : Type} {d : Dat α}
end
end G

noncomputable section
/-! M110: texts: s[k] (we_ixS), s[a:b] (we_slS), one sign in a text (we_inSg, we_niSg), walks over a text's signs (ie_str, ic_str). -/
namespace G
open PySem PySem.Spec PyProof.Rows L2 PySem.W
def rInSg : R2 := fun x y H Q => ∃ (c : Nat) (z : Str), x = .str ⟨#[c]⟩ ∧ y = .str z ∧ Q (.bl (decide (c ∈ z.cps.toList))) H
def rNiSg : R2 := fun x y H Q => ∃ (c : Nat) (z : Str), x = .str ⟨#[c]⟩ ∧ y = .str z ∧ Q (.bl (!decide (c ∈ z.cps.toList))) H
def signs (z : Str) : List Str := z.cps.toList.map fun c => (⟨#[c]⟩ : Str)
def M.signs (z : Str) : M (List Str) := M.asrt (z.cps.size ≤ PySem.sizeLine) (.ok (G.signs z))
def M.ixS (z : Str) (i : Int) : M Str := M.asrt (z.length ≤ PySem.sizeLine) (M.ofO ((atI z.cps.toList i).map fun c => (⟨#[c]⟩ : Str)))
def M.slS (z : Str) (lo hi : Option Int) : M Str := M.asrt (z.length ≤ PySem.sizeLine) (.ok (cutS z lo hi))
def M.inSg (x z : Str) : M Bool := match x.cps.toList with | [c] => .ok (decide (c ∈ z.cps.toList)) | _ => .bad
def M.niSg (x z : Str) : M Bool := match x.cps.toList with | [c] => .ok (!decide (c ∈ z.cps.toList)) | _ => .bad
theorem str_one {x : Str} {c : Nat} (h : x.cps.toList = [c]) : x = ⟨#[c]⟩ := by
  obtain ⟨a⟩ := x
  congr 1
  exact Array.toList_inj.mp h
section
variable {tx : XC → Addr} {Y : YC} {Γ : List Cell} {te ta tb : TE} {β : Type} {d2 : Dat β} {g : TG} {ts : TS} {k : Ks}
theorem we_ixS {m1 : M Str} {m2 : M Int} (h : We tx Y ta Γ dStr m1) (h2 : We tx Y tb Γ dInt m2) : We tx Y (tOp rIxS ta tb) Γ dStr (m1 >>= fun x => m2 >>= fun n => M.ixS x n) := fun nb xk e F σ H s Q q =>
  h.k nb xk (k := fun x => W Y tb Γ dInt fun n => ∃ c, atI x.cps.toList n = some c ∧ x.length ≤ PySem.sizeLine ∧ (m1 >>= fun x => m2 >>= fun n => M.ixS x n) = .ok (⟨#[c]⟩ : Str)) (fun x ex nb2 xk2 => h2.k nb2 xk2 fun n en nb3 xk3 => by
    have hz := M.asrt_nb nb3
    have e4 : M.ixS x n = M.ofO ((atI x.cps.toList n).map fun c => (⟨#[c]⟩ : Str)) := M.asrt_pos hz
    rw [e4] at nb3
    cases hc : atI x.cps.toList n with
    | none => rw [hc] at nb3; exact absurd rfl nb3
    | some c => exact ⟨c, rfl, hz, by rw [ex]; show (m2 >>= _) = _; rw [en]; show M.ixS x n = _; rw [e4, hc]; rfl⟩) e F σ H s _ fun v1 F1 H1 x hx g1 r1 => hx e F1 σ H1 (s.grow g1) _ fun v2 F2 H2 n ⟨c, hc, hz, hm⟩ g2 r2 => by
    cases (show v1 = .str x from r1)
    cases (show v2 = .int n from r2)
    exact ⟨x, n, c, rfl, rfl, hz, hc, q _ F2 H2 _ hm (g1.trans g2) rfl⟩
theorem we_inSg {m1 m2 : M Str} (h : We tx Y ta Γ dStr m1) (h2 : We tx Y tb Γ dStr m2) : We tx Y (tOp rInSg ta tb) Γ dBool (m1 >>= fun x => m2 >>= fun n => M.inSg x n) := fun nb xk e F σ H s Q q =>
  h.k nb xk (k := fun x => W Y tb Γ dStr fun n => ∃ c, x = ⟨#[c]⟩ ∧ (m1 >>= fun x => m2 >>= fun n => M.inSg x n) = .ok (decide (c ∈ n.cps.toList))) (fun x ex nb2 xk2 => h2.k nb2 xk2 fun n en nb3 xk3 => by
    cases hc : x.cps.toList with
    | nil => unfold M.inSg at nb3; rw [hc] at nb3; exact absurd rfl nb3
    | cons c l => cases l with
      | cons _ _ => unfold M.inSg at nb3; rw [hc] at nb3; exact absurd rfl nb3
      | nil => exact ⟨c, str_one hc, by rw [ex]; show (m2 >>= _) = _; rw [en]; show M.inSg x n = _; unfold M.inSg; rw [hc]⟩) e F σ H s _ fun v1 F1 H1 x hx g1 r1 => hx e F1 σ H1 (s.grow g1) _ fun v2 F2 H2 n ⟨c, hc, hm⟩ g2 r2 => by
    subst hc
    cases (show v1 = .str _ from r1)
    cases (show v2 = .str n from r2)
    exact ⟨c, n, rfl, rfl, q _ F2 H2 _ hm (g1.trans g2) rfl⟩
theorem we_niSg {m1 m2 : M Str} (h : We tx Y ta Γ dStr m1) (h2 : We tx Y tb Γ dStr m2) : We tx Y (tOp rNiSg ta tb) Γ dBool (m1 >>= fun x => m2 >>= fun n => M.niSg x n) := fun nb xk e F σ H s Q q =>
  h.k nb xk (k := fun x => W Y tb Γ dStr fun n => ∃ c, x = ⟨#[c]⟩ ∧ (m1 >>= fun x => m2 >>= fun n => M.niSg x n) = .ok (!decide (c ∈ n.cps.toList))) (fun x ex nb2 xk2 => h2.k nb2 xk2 fun n en nb3 xk3 => by
    cases hc : x.cps.toList with
    | nil => unfold M.niSg at nb3; rw [hc] at nb3; exact absurd rfl nb3
    | cons c l => cases l with
      | cons _ _ => unfold M.niSg at nb3; rw [hc] at nb3; exact absurd rfl nb3
      | nil => exact ⟨c, str_one hc, by rw [ex]; show (m2 >>= _) = _; rw [en]; show M.niSg x n = _; unfold M.niSg; rw [hc]⟩) e F σ H s _ fun v1 F1 H1 x hx g1 r1 => hx e F1 σ H1 (s.grow g1) _ fun v2 F2 H2 n ⟨c, hc, hm⟩ g2 r2 => by
    subst hc
    cases (show v1 = .str _ from r1)
    cases (show v2 = .str n from r2)
    exact ⟨c, n, rfl, rfl, q _ F2 H2 _ hm (g1.trans g2) rfl⟩
theorem w_slS {tl th : TO} {kx : Str → Prop} (h : W Y te Γ dStr fun z => TOk Y tl Γ fun lo => TOk Y th Γ fun hi => z.length ≤ PySem.sizeLine ∧ kx (cutS z lo hi)) : W Y (tSl rSlS te tl th) Γ dStr kx := fun e F σ H s Q q => h e F σ H s _ fun v F1 H1 z h1 g1 r1 => by
  cases (show v = .str z from r1)
  refine h1 e F1 σ H1 (s.grow g1) _ fun lo F2 H2 h2 g2 => h2 e F2 σ H2 ((s.grow g1).grow g2) _ fun hi F3 H3 h3 g3 => ⟨z, rfl, h3.1, ?_⟩
  exact q _ _ _ _ h3.2 ((g1.trans0 g2).trans g3) rfl
theorem we_slS {tl th : TO} {m : M Str} {n o : M (Option Int)} (h : We tx Y te Γ dStr m) (h2 : TOe tx Y tl Γ n) (h3 : TOe tx Y th Γ o) : We tx Y (tSl rSlS te tl th) Γ dStr (m >>= fun xs => n >>= fun lo => o >>= fun hi => M.slS xs lo hi) := fun nb xk =>
  w_slS (h.k nb xk fun xs e nb xk => to_mono (h2 (M.nb1 nb) xk.l) fun lo e2 => to_mono (h3 (M.nb1 (f := fun hi => M.slS xs lo hi) (M.nb2 (f := fun lo => o >>= fun hi => M.slS xs lo hi) nb e2)) (XkM.l (f := fun hi => M.slS xs lo hi) (XkM.r (f := fun lo => o >>= fun hi => M.slS xs lo hi) xk e2))) fun hi e3 => by
    have hp : xs.length ≤ PySem.sizeLine := M.asrt_nb (M.nb2 (f := fun hi => M.slS xs lo hi) (M.nb2 (f := fun lo => o >>= fun hi => M.slS xs lo hi) nb e2) e3)
    refine ⟨hp, ?_⟩
    rw [e]
    show (n >>= _) = _
    rw [e2]
    show (o >>= _) = _
    rw [e3]
    exact M.asrt_pos hp)
theorem signs_get {z : Str} {i : Nat} {c : Nat} (h : z.cps[i]? = some c) : (signs z)[i]? = some (⟨#[c]⟩ : Str) := by
  unfold signs
  rw [List.getElem?_map, Array.getElem?_toList, h]
  rfl
theorem signs_len (z : Str) : (signs z).length = z.cps.size := by
  unfold signs
  rw [List.length_map, Array.length_toList]
theorem z_forS {kt : Ks} (h : W Y te Γ dStr fun z => Body Y g ts dStr kt (fun i => (signs z)[i]?) (signs z).length Γ) : Z Y (tFor (iStr te) g ts) Γ kt := fun e F σ H D hM s c => h e F σ H s _ fun v F1 H1 z ⟨I, h0, hs, hd⟩ g1 r1 => by
  cases (show v = .str z from r1)
  have s1 := s.grow g1
  refine ⟨z, rfl, fun i m σ H => m = z.cps.size - i ∧ i ≤ z.cps.size ∧ ∃ F' Γ', State Y e F' σ H Γ' ∧ I i Γ', ⟨z.cps.size, by simp, Nat.zero_le _, F1, Γ, s1, h0⟩, ?_⟩
  rintro i m σ H ⟨rfl, hi, F', Γ', st, hI⟩
  by_cases hlt : i < z.cps.size
  · refine .inr ⟨hlt, fun σ' H' => ∃ F' Γ', State Y e F' σ' H' Γ' ∧ I (i + 1) Γ', fun σ' H' p => ⟨z.cps.size - (i + 1), by omega, rfl, hlt, p⟩, ?_⟩
    rintro x H' ⟨rfl, c', hc, rfl⟩
    refine hs i _ Γ' (signs_get hc) hI _ F' σ H' _ st rfl _ fun σ2 Γ2 h2 st2 => ?_
    exact h2 _ F' σ2 H' _ hM st2 ⟨fun F3 σ3 H3 Γ3 k3 st3 => ⟨F3, Γ3, st3, k3⟩, c.rt, c.nx, fun F3 σ3 H3 Γ3 k3 st3 => ⟨F3, Γ3, st3, k3⟩⟩
  · have hi2 : i = z.cps.size := by omega
    subst hi2
    rw [signs_len] at hd
    exact .inl ⟨Nat.le_refl _, c.nx F' σ H Γ' (hd Γ' hI) st⟩
theorem ie_str {m : M Str} (h : We tx Y te Γ dStr m) : Ie tx Y (iStr te) Γ dStr (m >>= fun z => .ok (signs z)) := fun nb xk g ts kt hb => z_forS (h.k nb xk fun z e _ _ => hb (signs z) (by rw [e]; rfl))
theorem ic_str {m : M Str} (h : We tx Y te Γ dStr m) : Ic tx Y (iStr te) Γ dStr (m >>= M.signs) := fun nb xk β d2 g tt te2 vs kx hT hb e F σ H s Q q => h.k nb xk (k := fun z => m = .ok z ∧ z.cps.size ≤ PySem.sizeLine) (fun z e nb2 _ => ⟨e, M.asrt_nb nb2⟩) e F σ H s _ fun v F1 H1 z ⟨hm, hz⟩ g1 r1 => by
  cases (show v = .str z from r1)
  refine ⟨z, rfl, fun D hD => ?_⟩
  obtain ⟨I, h0, hs, hd⟩ := hb (signs z) (by rw [hm]; exact M.asrt_pos hz) (by rw [signs_len]; exact hz)
  have kw0 : Wk ⟨F1, H1, []⟩ F1 [(D, .lst [])] (upd H1 D (.lst [])) := g1.base.own hD (fun _ z => by cases z)
  refine ⟨fun i m H => m = z.cps.size - i ∧ i ≤ z.cps.size ∧ ∃ F' acc ys, Wk ⟨F1, H1, []⟩ F' [(D, .lst acc)] H ∧ Reps d2 Y.g F' acc ys ∧ I i ys, ⟨z.cps.size, by simp, Nat.zero_le _, F1, [], [], kw0, trivial, h0⟩, ?_⟩
  rintro i m H ⟨rfl, hi, F', acc, zs, kw, ra, hI⟩
  by_cases hlt : i < z.cps.size
  · refine .inr ⟨hlt, fun H => ∃ F' acc ys, Wk ⟨F1, H1, []⟩ F' [(D, .lst acc)] H ∧ Reps d2 Y.g F' acc ys ∧ I (i + 1) ys, fun H' p' => ⟨z.cps.size - (i + 1), by omega, rfl, hlt, p'⟩, ?_⟩
    rintro x H' ⟨rfl, c', hc, rfl⟩
    exact comp_turn0 (d := dStr) (x := (⟨#[c']⟩ : Str)) (s.grow g1) hT.1 (hs i _ · (signs_get hc)) kw ra hI rfl
  · have hi2 : i = z.cps.size := by omega
    subst hi2
    rw [signs_len] at hd
    exact .inl ⟨Nat.le_refl _, q _ F' H _ zs (hd zs hI) (by simpa using g1.trans kw) ⟨D, acc, rfl, rfl, ra⟩⟩
end
end G
end

noncomputable section
/-! M111: tuple displays of plain data without lists (we_tupV2, we_tupV3). -/
namespace G
open PySem PySem.Spec PyProof.Rows L2 PySem.W
section
variable {tx : XC → Addr} {Y : YC} {Γ : List Cell} {ta tb tc : TE}
theorem w_tupV2 {k : PyData → Prop} (h : W Y ta Γ dUI fun x => W Y tb Γ dUI fun y => k (.tuple [x, y])) : W Y (tTup (tCons ta (tCons tb tNil))) Γ dUI k := fun e F σ H s Q q =>
  w_tup2 (d1 := dUI) (d2 := dUI) (k := fun p : PyData × PyData => k (.tuple [p.1, p.2])) h e F σ H s Q fun v F' H' p kp g ⟨a, v1, v2, e1, ht, r1, r2⟩ => q v F' H' _ kp g ⟨by show (noL _ && (noL _ && true)) = true; rw [r1.1, r2.1]; rfl, a, _, e1, ht, r1.2, r2.2, trivial⟩
theorem w_tupV3 {k : PyData → Prop} (h : W Y ta Γ dUI fun x => W Y tb Γ dUI fun y => W Y tc Γ dUI fun z => k (.tuple [x, y, z])) : W Y (tTup (tCons ta (tCons tb (tCons tc tNil)))) Γ dUI k := fun e F σ H s Q q =>
  w_tup3 (d1 := dUI) (d2 := dUI) (d3 := dUI) (k := fun p : T3 PyData PyData PyData => k (.tuple [p.a, p.b, p.c])) h e F σ H s Q fun v F' H' p kp g ⟨a, v1, v2, v3, e1, ht, r1, r2, r3⟩ => q v F' H' _ kp g ⟨by show (noL _ && (noL _ && (noL _ && true))) = true; rw [r1.1, r2.1, r3.1]; rfl, a, _, e1, ht, r1.2, r2.2, r3.2, trivial⟩
theorem we_tupV2 {m n : M PyData} (h : We tx Y ta Γ dUI m) (h2 : We tx Y tb Γ dUI n) : We tx Y (tTup (tCons ta (tCons tb tNil))) Γ dUI (m >>= fun x => n >>= fun y => .ok (PyData.tuple [x, y])) := fun nb xk =>
  w_tupV2 (h.k nb xk fun x e nb2 xk2 => h2.k nb2 xk2 fun y e2 _ _ => by rw [e]; show (n >>= _) = _; rw [e2]; rfl)
theorem we_tupV3 {m n o : M PyData} (h : We tx Y ta Γ dUI m) (h2 : We tx Y tb Γ dUI n) (h3 : We tx Y tc Γ dUI o) : We tx Y (tTup (tCons ta (tCons tb (tCons tc tNil)))) Γ dUI (m >>= fun x => n >>= fun y => o >>= fun z => .ok (PyData.tuple [x, y, z])) := fun nb xk =>
  w_tupV3 (h.k nb xk fun x e nb2 xk2 => h2.k nb2 xk2 fun y e2 nb3 xk3 => h3.k nb3 xk3 fun z e3 _ _ => by rw [e]; show (n >>= _) = _; rw [e2]; show (o >>= _) = _; rw [e3]; rfl)
end
end G
end

noncomputable section
/-! M112: kinds (instances of one attribute: plain data without lists). -/
namespace G
open PySem PySem.Spec PyProof.Rows L2 PySem.W
abbrev KindM := Ob1 PyData
section
variable (A : CA3)
@[reducible] def dKind : Dat KindM := dOb1 (d1 := dUI) (A.ob .Kind) "shape"
@[reducible] def oKind : @OD KindM (dKind A) := oOb1 (d1 := dUI) (A.ob .Kind) "shape"
end
end G
end

noncomputable section
/-! M113: exceptions whose one attribute is a text (zm_raise1S, we_xfS). -/
namespace G
open PySem PySem.Spec PyProof.Rows L2 PySem.W
section
variable {Y : YC} {Γ : List Cell} {k : Ks} {te t1 t2 : TE} {Cx : Addr} {f1 f2 : Str} {Wt : WX}
theorem z_raise1S (hE : Y.E = WE Wt) (h : R Y te Γ dStr fun n => Y.kx ⟨Cx, some [(f1, .str n)]⟩ Γ) : Z Y (fun _ σ H => tMkO Cx (spX1 Cx f1) [] (tCons te tNil) σ H fun cls d H' => Wt cls d σ H') Γ k := fun e F σ H D hM s c => h e F σ H s _ fun v F1 H1 n kn g r => by
  cases (show v = .str n from r)
  refine ⟨by show 1 ≤ 1000; omega, fun a ha => ⟨a, .str n, rfl, upd_same, fun d hd hda => ⟨rfl, d, [(f1, .str n)], upd_same, by rw [upd_ne hda, upd_same], ?_, ?_⟩⟩⟩
  · rw [upd_ne hda] at hd
    exact hd
  · rw [upd_ne hda] at hd
    have e1 : upd (del (upd (upd (upd H1 a (exo a Cx none)) d (exd d [(f1, .str n)])) a (exo a Cx (some d))) a) d (.xd [(f1, .str n)]) = upd H1 d (.xd [(f1, .str n)]) := by
      funext b
      by_cases hb : b = d
      · subst hb; rw [upd_same, upd_same]
      · rw [upd_ne hb, upd_ne hb]
        by_cases hb2 : b = a
        · subst hb2; rw [del_same, ha]
        · rw [del_ne hb2, upd_ne hb2, upd_ne hb, upd_ne hb2]
    rw [e1]
    have := s.1 ⟨Cx, some [(f1, .str n)]⟩ (some d) (upd F1 d (.xd [(f1, .str n)])) σ (upd H1 d (.xd [(f1, .str n)])) Γ kn ((s.grow g).grow (g.base.lay hd)).2 ⟨_, _, rfl, upd_same, rfl, rfl, trivial⟩
    rw [hE] at this
    exact this
end
section
variable {Y : YC} {Γ : List Cell} {k : Ks} {te : TE} {a Cx : Addr} {d : Option Addr} {x : Exn} {i : Nat}
theorem w_xfS {cls : Value} {f : Str} {n : Str} {fs : List (Str × XV)} {kx : Str → Prop} (hi : Γ[i]? = some (.val (dExn a d) x)) (hc : cls = .ref x.cls) (hx : x.cls = Cx) (hf : x.fs = some fs) (hl : fs.lookup f = some (.str n)) (h : kx n) :
    W Y (tXf a cls d Cx f (tVar i)) Γ dStr kx := fun e F σ H s Q q => by
  obtain ⟨v, e1, e2, r⟩ := s.val hi
  subst e2
  refine ⟨.ref a, e1, rfl, by rw [hc, hx], ?_⟩
  cases d with
  | none => rw [show x.fs = none from r] at hf; cases hf
  | some dd =>
    obtain ⟨fs1, fs', e3, e4, e5⟩ := r
    rw [hf] at e3
    cases e3
    obtain ⟨v', e6, e7⟩ := e5.look hl
    cases (show v' = .str n from e7)
    exact ⟨dd, fs', .str n, rfl, s.fh _ _ e4, e6, q _ F H n h s.base rfl⟩
end
def M.raise1S {α : Type} (c : XC) (f : Str) (m : M Str) : M α := m >>= fun n => .exc ⟨c, some [(f, .str n)]⟩
def PX.fldS (x : PX) (c : XC) (f : Str) : M Str := if x.cls = c then (match x.fs with | some fs => (match fs.lookup f with | some (.str n) => .ok n | _ => .bad) | none => .bad) else .bad
section
variable {tx : XC → Addr} {Y : YC} {Γ : List Cell} {te : TE} {rest : TS} {js : List Nat} {τ : Type} {K : Kt τ} {Cx : Addr} {f1 f2 : Str} {Wt : WX}
theorem zm_raise1S {c : XC} {m : M Str} (hE : Y.E = WE Wt) (hc : tx c = Cx) (h : Re tx Y te Γ dStr m) : Zm tx Y js (tSeq (fun _ σ H => tMkO Cx (spX1 Cx f1) [] (tCons te tNil) σ H fun cls d H' => Wt cls d σ H') rest) Γ K (M.raise1S c f1 m) := fun nb xk => by
  subst hc
  exact z_raise1S (k := K.ks (M.raise1S c f1 m)) hE (r_mono (h (M.nb1 nb) xk.l.here) fun n e => xk ⟨c, some [(f1, .str n)]⟩ (by unfold M.raise1S; rw [e]; rfl) Γ rfl)
theorem we_xfS {a : Addr} {dd : Option Addr} {px : PX} {i : Nat} {c : XC} {f : Str} (hi : Γ[i]? = some (.val (dExn a dd) (px.x tx))) (hc : tx c = Cx) : We tx Y (tXf a (.ref (tx px.cls)) dd Cx f (tVar i)) Γ dStr (px.fldS c f) := fun nb xk => by
  subst hc
  unfold PX.fldS at nb ⊢
  split at nb
  · next hcls =>
    cases hfs : px.fs with
    | none => rw [hfs] at nb; exact absurd rfl nb
    | some fs =>
      rw [hfs] at nb
      cases hl : fs.lookup f with
      | none => simp only [hl] at nb; exact absurd rfl nb
      | some v =>
        cases v with
        | str n =>
          rw [if_pos hcls]
          exact w_xfS (x := px.x tx) (n := n) (fs := fs) hi rfl (by show tx px.cls = _; rw [hcls]) hfs hl (by simp only [hl])
        | _ => simp only [hl] at nb; exact absurd rfl nb
  · exact absurd rfl nb
end
end G
end

noncomputable section
/-! M114: dicts of the top with text keys and texts (KDT): d[k] (we_kgetT), k in d, k not in d (we_inKT, we_niKT). -/
namespace L2
open PySem PySem.Spec PyProof.Rows
inductive TEnt : List DictEntry → List (Str × Str) → Prop where
  | nil : TEnt [] []
  | cons {es : List DictEntry} {kvs : List (Str × Str)} (k z : Str) (t t2 : Tok) (h : Int) (r : TEnt es kvs) : TEnt (⟨h, .str k t, .str z t2⟩ :: es) ((k, z) :: kvs)
structure KDT (K : PySem.W.Frag) (w : World) (a : Addr) (kvs : List (Str × Str)) : Prop where
  at_ : ∃ es n, K.lookup a = some ⟨.type "dict", none, .dict es n, #[]⟩ ∧ PySem.W.KeysLit w.params es.toList ∧ (a == sysModules) = false ∧ TEnt es.toList kvs
theorem TEnt.ref : ∀ {es : List DictEntry} {kvs : List (Str × Str)}, TEnt es kvs → es.any (·.refKey) = false
  | _, _, .nil => rfl
  | _, _, .cons k z t t2 h r => by
    rw [List.any_cons, r.ref]
    rfl
theorem TEnt.find : ∀ {es : List DictEntry} {kvs : List (Str × Str)} (x : Str), TEnt es kvs → ((es.find? (·.key.isStr x)).map (·.val) = none ∧ kvs.lookup x = none) ∨ ∃ z t, (es.find? (·.key.isStr x)).map (·.val) = some (.str z t) ∧ kvs.lookup x = some z
  | _, _, x, .nil => .inl ⟨rfl, rfl⟩
  | _, _, x, .cons k z t t2 h r => by
    rw [List.find?_cons, List.lookup_cons]
    have e : (Value.str k t).isStr x = (x == k) := by
      show (k == x) = (x == k)
      exact BEq.comm
    rw [e]
    cases hk : (x == k) with
    | true => exact .inr ⟨z, t2, rfl, rfl⟩
    | false => exact r.find x
theorem KDT.ns {K : PySem.W.Frag} {w : World} {a : Addr} {kvs : List (Str × Str)} (h : KDT K w a kvs) (x : Str) : (PySem.W.nsIn K a x = some none ∧ kvs.lookup x = none) ∨ ∃ z t, PySem.W.nsIn K a x = some (some (.str z t)) ∧ kvs.lookup x = some z := by
  obtain ⟨es, n, e1, _, _, te⟩ := h.at_
  have hr := te.ref
  unfold PySem.W.nsIn
  rw [e1]
  simp only
  rcases te.find x with ⟨e2, e3⟩ | ⟨z, t, e2, e3⟩
  · left
    refine ⟨?_, e3⟩
    cases q : es.toList.find? (·.key.isStr x) with
    | none => simp only [hr]; rfl
    | some y => rw [q] at e2; cases e2
  · right
    refine ⟨z, t, ?_, e3⟩
    cases q : es.toList.find? (·.key.isStr x) with
    | none => rw [q] at e2; cases e2
    | some y =>
      rw [q] at e2
      simp only [Option.map_some, Option.some.injEq] at e2
      simp only [e2]
theorem KDT.get {K : PySem.W.Frag} {w : World} {a : Addr} {kvs : List (Str × Str)} {k z : Str} (h : KDT K w a kvs) (e : kvs.lookup k = some z) : KDct K w a k (.str z) := by
  obtain ⟨es, n, e1, e2, _, te⟩ := h.at_
  rcases h.ns k with ⟨_, q⟩ | ⟨z', t, q1, q2⟩
  · rw [e] at q; cases q
  · rw [e] at q2
    cases q2
    exact ⟨es, n, _, e1, e2, q1, ⟨t, rfl⟩⟩
def rInKT (K : PySem.W.Frag) (w : World) (D : Addr) (kvs : List (Str × Str)) : R2 := fun x y H Q => ∃ z : Str, x = .str z ∧ y = .ref D ∧ KDT K w D kvs ∧ Q (.bl (kvs.lookup z).isSome) H
def rNiKT (K : PySem.W.Frag) (w : World) (D : Addr) (kvs : List (Str × Str)) : R2 := fun x y H Q => ∃ z : Str, x = .str z ∧ y = .ref D ∧ KDT K w D kvs ∧ Q (.bl (!(kvs.lookup z).isSome)) H
end L2
namespace G
open PySem PySem.Spec PyProof.Rows L2 PySem.W
section
variable {tx : XC → Addr} {Y : YC} {Γ : List Cell} {ta tb : TE}
theorem w_kgetT {D : Addr} {kvs : List (Str × Str)} {k : Str → Prop} (hD : KDT Y.K Y.w D kvs) (h : R Y tb Γ dStr fun n => ∃ z, kvs.lookup n = some z ∧ k z) : W Y (tOp (rIxD Y.K Y.w) (tC (.ref D)) tb) Γ dStr k := fun e F σ H s Q q => h e F σ H s _ fun v F' H' n ⟨z, hz, kz⟩ g r => by
  cases (show v = .str n from r)
  exact ⟨D, n, .str z, rfl, rfl, hD.get hz, q _ _ _ z kz g rfl⟩
theorem we_kgetT {D : Addr} {kvs : List (Str × Str)} {m : M Str} (hD : KDT Y.K Y.w D kvs) (h : Re tx Y tb Γ dStr m) : We tx Y (tOp (rIxD Y.K Y.w) (tC (.ref D)) tb) Γ dStr (m >>= fun n => M.ofO (kvs.lookup n)) := fun nb xk =>
  w_kgetT hD (h.k nb xk fun n e nb2 _ => by
    cases hz : kvs.lookup n with
    | none => rw [hz] at nb2; exact absurd rfl nb2
    | some z => exact ⟨z, rfl, by rw [e]; show M.ofO (kvs.lookup n) = _; rw [hz]; rfl⟩)
theorem we_inKT {D : Addr} {kvs : List (Str × Str)} {m : M Str} (hD : KDT Y.K Y.w D kvs) (h : Re tx Y ta Γ dStr m) : We tx Y (tOp (rInKT Y.K Y.w D kvs) ta (tC (.ref D))) Γ dBool (m >>= fun n => .ok (kvs.lookup n).isSome) := fun nb xk e F σ H s Q q => h.k nb xk (k := fun n => m = .ok n) (fun n e _ _ => e) e F σ H s _ fun v F' H' n hm g r => by
  cases (show v = .str n from r)
  exact ⟨n, rfl, rfl, hD, q _ _ _ _ (by rw [hm]; rfl) g rfl⟩
theorem we_niKT {D : Addr} {kvs : List (Str × Str)} {m : M Str} (hD : KDT Y.K Y.w D kvs) (h : Re tx Y ta Γ dStr m) : We tx Y (tOp (rNiKT Y.K Y.w D kvs) ta (tC (.ref D))) Γ dBool (m >>= fun n => .ok (!(kvs.lookup n).isSome)) := fun nb xk e F σ H s Q q => h.k nb xk (k := fun n => m = .ok n) (fun n e _ _ => e) e F σ H s _ fun v F' H' n hm g r => by
  cases (show v = .str n from r)
  exact ⟨n, rfl, rfl, hD, q _ _ _ _ (by rw [hm]; rfl) g rfl⟩
end
end G
end

noncomputable section
/-! M115: xs.pop(), its answer dropped (zm_popLDrop). -/
namespace G
open PySem PySem.Spec PyProof.Rows L2 PySem.W
section
variable {tx : XC → Addr} {Y : YC} {Γ : List Cell} {rest : TS} {js : List Nat} {α τ : Type} {d : Dat α} {K : Kt τ}
theorem z_popLDrop {pin : Option V} {i : Nat} {xs : List α} {y : α} {k : Ks} (hi : Γ[i]? = some (.own (dList (d := d)) (oList (d := d)) pin (xs ++ [y]))) (h : k.nx (Γ.set i (.own (dList (d := d)) (oList (d := d)) pin xs))) :
    Z Y (tDrop (tBM0 Y.K "list" rPop (tVar i))) Γ k := fun e F σ H D hM s c => by
  obtain ⟨v, _, rest, e1, ⟨a, vs, rfl, rfl, r⟩, kw, f⟩ := s.mut hi
  have ha : H a = some (.lst vs) := (kw.ow (a, .lst vs) (by simp)).2.1
  have hl : vs.length = xs.length + 1 := by rw [r.len]; simp
  have hx : (xs ++ [y])[vs.length - 1]? = some y := by rw [hl]; simp
  obtain ⟨w, hw, rw'⟩ := r.get hx
  refine ⟨.ref a, e1, .inl ⟨rfl, vs, .inl (.inl ha)⟩, a, vs, w, rfl, rfl, ha, hw, ?_⟩
  have s2 := f F _ [(a, .lst vs.dropLast)] xs (Same.refl F) (kw.put (fun _ z => by cases z)) ⟨a, _, rfl, rfl, by
    have q := r.take xs.length
    rw [List.take_left] at q
    rw [List.dropLast_eq_take, hl]
    exact q⟩
  exact c.nx F _ _ _ h s2
theorem zm_popLDrop {pin : Option V} {i : Nat} {xs : List α} {m2 : List α × α → M τ} (hi : Γ[i]? = some (.own (dList (d := d)) (oList (d := d)) pin xs)) (hj : i ∈ js) (h2 : ∀ p, Zm tx Y js rest (Γ.set i (.own (dList (d := d)) (oList (d := d)) pin p.1)) K (m2 p)) :
    Zm tx Y js (tSeq (tDrop (tBM0 Y.K "list" rPop (tVar i))) rest) Γ K (M.popL xs >>= m2) := fun nb xk => by
  have nb1 : (M.popL xs).nb := M.nb1 nb
  cases q : xs.getLast? with
  | none => unfold M.popL at nb1; rw [q] at nb1; exact absurd rfl nb1
  | some y =>
    have e : M.popL xs = .ok (xs.dropLast, y) := by unfold M.popL; rw [q]
    have ex : xs = xs.dropLast ++ [y] := by
      obtain ⟨ys, rfl⟩ := List.getLast?_eq_some_iff.mp q
      simp
    exact z_seq (z_popLDrop (xs := xs.dropLast) (y := y) (by rw [← ex]; exact hi) ((h2 (xs.dropLast, y)).go nb xk e (wipeC_set hj)))
end
end G
end

noncomputable section
/-! M116: a list of two things that are unlike ([shape, end]): LP, its display, taken apart, its two items. -/
namespace G
open PySem PySem.Spec PyProof.Rows L2 PySem.W
structure LP (α β : Type) where
  a : α
  b : β
  deriving DecidableEq
instance dLP {α β : Type} [d1 : Dat α] [d2 : Dat β] : Dat (LP α β) :=
  ⟨fun C F v x => ∃ p v1 v2, v = .ref p ∧ Rd F p (.lst [v1, v2]) ∧ d1.rep C F v1 x.a ∧ d2.rep C F v2 x.b, fun s ⟨p, v1, v2, e, h, r1, r2⟩ => ⟨p, v1, v2, e, Same.rd s h, d1.mono s r1, d2.mono s r2⟩⟩
instance oLP {α β : Type} [d1 : Dat α] [d2 : Dat β] : OD (LP α β) where
  orep C F v x L := ∃ p v1 v2, v = .ref p ∧ L = [(p, .lst [v1, v2])] ∧ d1.rep C F v1 x.a ∧ d2.rep C F v2 x.b
  omono s := fun ⟨p, v1, v2, e, h, r1, r2⟩ => ⟨p, v1, v2, e, h, d1.mono s r1, d2.mono s r2⟩
  view := fun ⟨p, v1, v2, e, h, r1, r2⟩ s k => ⟨p, v1, v2, e, .inl (k (p, .lst [v1, v2]) (by rw [h]; exact List.mem_cons_self)), d1.mono s r1, d2.mono s r2⟩
section
variable {tx : XC → Addr} {Y : YC} {Γ : List Cell} {ta tb te : TE} {α β : Type} {d1 : Dat α} {d2 : Dat β}
end
end G
namespace L2
open PySem PySem.Spec PyProof.Rows
section
variable {X : Cx} (K : PySem.W.Frag)
end
end L2
end

noncomputable section
/-! M117: exceptions whose one attribute is a pair of ints (zm_raise1P, we_xfP). -/
namespace G
open PySem PySem.Spec PyProof.Rows L2 PySem.W
section
variable {Y : YC} {Γ : List Cell} {k : Ks} {te t1 t2 : TE} {Cx : Addr} {f1 f2 : Str} {Wt : WX}
theorem z_raise1P (hE : Y.E = WE Wt) (h : W Y te Γ (dPair (d1 := dInt) (d2 := dInt)) fun n => Y.kx ⟨Cx, some [(f1, .pair n.1 n.2)]⟩ Γ) : Z Y (fun _ σ H => tMkO Cx (spX1 Cx f1) [] (tCons te tNil) σ H fun cls d H' => Wt cls d σ H') Γ k := fun e F σ H D hM s c => h e F σ H s _ fun v F1 H1 n kn g r => by
  obtain ⟨ta, v1, v2, e0, ht, r1, r2⟩ := r
  subst e0
  cases (show v1 = .int n.1 from r1)
  cases (show v2 = .int n.2 from r2)
  have ht : F1 ta = some (.tup [.int n.1, .int n.2]) := by
    rcases ht with ht | ⟨_, _, ht⟩
    · exact ht
    · obtain ⟨t, z⟩ := ht _ List.mem_cons_self
      cases z
  refine ⟨by show 1 ≤ 1000; omega, fun a ha => ⟨a, .ref ta, rfl, upd_same, fun d hd hda => ⟨rfl, d, [(f1, .ref ta)], upd_same, by rw [upd_ne hda, upd_same], ?_, ?_⟩⟩⟩
  · rw [upd_ne hda] at hd
    exact hd
  · rw [upd_ne hda] at hd
    have e1 : upd (del (upd (upd (upd H1 a (exo a Cx none)) d (exd d [(f1, .ref ta)])) a (exo a Cx (some d))) a) d (.xd [(f1, .ref ta)]) = upd H1 d (.xd [(f1, .ref ta)]) := by
      funext b
      by_cases hb : b = d
      · subst hb; rw [upd_same, upd_same]
      · rw [upd_ne hb, upd_ne hb]
        by_cases hb2 : b = a
        · subst hb2; rw [del_same, ha]
        · rw [del_ne hb2, upd_ne hb2, upd_ne hb, upd_ne hb2]
    rw [e1]
    have gl := g.base.lay (o := .xd [(f1, .ref ta)]) hd
    have := s.1 ⟨Cx, some [(f1, .pair n.1 n.2)]⟩ (some d) (upd F1 d (.xd [(f1, .ref ta)])) σ (upd H1 d (.xd [(f1, .ref ta)])) Γ kn ((s.grow g).grow gl).2 ⟨_, _, rfl, upd_same, rfl, ⟨ta, rfl, gl.ff _ _ ht⟩, trivial⟩
    rw [hE] at this
    exact this
end
section
variable {Y : YC} {Γ : List Cell} {k : Ks} {te : TE} {a Cx : Addr} {d : Option Addr} {x : Exn} {i : Nat}
theorem w_xfP {cls : Value} {f : Str} {n : Int × Int} {fs : List (Str × XV)} {kx : Int × Int → Prop} (hi : Γ[i]? = some (.val (dExn a d) x)) (hc : cls = .ref x.cls) (hx : x.cls = Cx) (hf : x.fs = some fs) (hl : fs.lookup f = some (.pair n.1 n.2)) (h : kx n) :
    W Y (tXf a cls d Cx f (tVar i)) Γ (dPair (d1 := dInt) (d2 := dInt)) kx := fun e F σ H s Q q => by
  obtain ⟨v, e1, e2, r⟩ := s.val hi
  subst e2
  refine ⟨.ref a, e1, rfl, by rw [hc, hx], ?_⟩
  cases d with
  | none => rw [show x.fs = none from r] at hf; cases hf
  | some dd =>
    obtain ⟨fs1, fs', e3, e4, e5⟩ := r
    rw [hf] at e3
    cases e3
    obtain ⟨v', e6, ta, e7, ht⟩ := e5.look hl
    subst e7
    exact ⟨dd, fs', .ref ta, rfl, s.fh _ _ e4, e6, q _ F H n h s.base ⟨ta, _, _, rfl, .inl ht, rfl, rfl⟩⟩
end
def M.raise1P {α : Type} (c : XC) (f : Str) (m : M (Int × Int)) : M α := m >>= fun n => .exc ⟨c, some [(f, .pair n.1 n.2)]⟩
def PX.fldP (x : PX) (c : XC) (f : Str) : M (Int × Int) := if x.cls = c then (match x.fs with | some fs => (match fs.lookup f with | some (.pair i j) => .ok (i, j) | _ => .bad) | none => .bad) else .bad
section
variable {tx : XC → Addr} {Y : YC} {Γ : List Cell} {te : TE} {rest : TS} {js : List Nat} {τ : Type} {K : Kt τ} {Cx : Addr} {f1 f2 : Str} {Wt : WX}
theorem zm_raise1P {c : XC} {m : M (Int × Int)} (hE : Y.E = WE Wt) (hc : tx c = Cx) (h : We tx Y te Γ (dPair (d1 := dInt) (d2 := dInt)) m) : Zm tx Y js (tSeq (fun _ σ H => tMkO Cx (spX1 Cx f1) [] (tCons te tNil) σ H fun cls d H' => Wt cls d σ H') rest) Γ K (M.raise1P c f1 m) := fun nb xk => by
  subst hc
  exact z_raise1P (k := K.ks (M.raise1P c f1 m)) hE (w_mono (h (M.nb1 nb) xk.l.here) fun n e => xk ⟨c, some [(f1, .pair n.1 n.2)]⟩ (by unfold M.raise1P; rw [e]; rfl) Γ rfl)
theorem we_xfP {a : Addr} {dd : Option Addr} {px : PX} {i : Nat} {c : XC} {f : Str} (hi : Γ[i]? = some (.val (dExn a dd) (px.x tx))) (hc : tx c = Cx) : We tx Y (tXf a (.ref (tx px.cls)) dd Cx f (tVar i)) Γ (dPair (d1 := dInt) (d2 := dInt)) (px.fldP c f) := fun nb xk => by
  subst hc
  unfold PX.fldP at nb ⊢
  split at nb
  · next hcls =>
    cases hfs : px.fs with
    | none => rw [hfs] at nb; exact absurd rfl nb
    | some fs =>
      rw [hfs] at nb
      cases hl : fs.lookup f with
      | none => simp only [hl] at nb; exact absurd rfl nb
      | some v =>
        cases v with
        | pair i j =>
          rw [if_pos hcls]
          exact w_xfP (x := px.x tx) (n := (i, j)) (fs := fs) hi rfl (by show tx px.cls = _; rw [hcls]) hfs hl (by simp only [hl])
        | _ => simp only [hl] at nb; exact absurd rfl nb
  · exact absurd rfl nb
end
end G
end

noncomputable section
/-! M118: y = xs.pop(i), xs a list of owned things: y owns it from here on. -/
namespace G
open PySem PySem.Spec PyProof.Rows L2 PySem.W
section
variable {tx : XC → Addr} {Y : YC} {Γ : List Cell} {ta : TE} {α τ : Type} {d : Dat α} {js : List Nat} {rest : TS} {K : Kt τ}
end
end G
end

noncomputable section
/-! M119: while (x := ..) != []. -/
namespace G
open PySem PySem.Spec PyProof.Rows L2 PySem.W
section
variable {tx : XC → Addr} {Y : YC} {Γ : List Cell} {te : TE} {i : Nat} {α : Type} {d : Dat α}
end
end G
end

noncomputable section
/-! M120: d[k] = xs.pop(i); a list of two unlike things as plain data. -/
namespace G
open PySem PySem.Spec PyProof.Rows L2 PySem.W
instance udLP {α β : Type} {d1 : Dat α} {d2 : Dat β} [u1 : @UD α d1] [u2 : @UD β d2] : @UD (LP α β) dLP := ⟨fun x => .list [u1.toU x.a, u2.toU x.b], fun ⟨a, v1, v2, e, h, r1, r2⟩ => ⟨a, _, e, h, u1.du r1, u2.du r2, trivial⟩⟩
section
variable {tx : XC → Addr} {Y : YC} {Γ : List Cell} {ta tk : TE} {α τ : Type} {d : Dat α} {js : List Nat} {rest : TS} {K : Kt τ}
end
end G
end

noncomputable section
/-! M121: xs.append(f(.., ys, ..)) and xs.append((n, f(.., ys, ..))), f changes ys. -/
namespace G
open PySem PySem.Spec PyProof.Rows L2 PySem.W
section
variable {tx : XC → Addr} {Y : YC} {Γ : List Cell} {tl : TA} {ta : TE} {α β τ : Type} {d : Dat α} {K : Kt τ} {rest : TS} {js : List Nat}
end
end G
end

noncomputable section
/-! M122: xs.append(ys), ys own and given away. -/
namespace G
open PySem PySem.Spec PyProof.Rows L2 PySem.W
section
variable {tx : XC → Addr} {Y : YC} {Γ : List Cell} {α τ : Type} {d : Dat α} {js : List Nat} {rest : TS} {K : Kt τ}
end
end G
end

noncomputable section
/-! M123: xs.extend((a, b)): a list of plain things grows by a pair. -/
namespace G
open PySem PySem.Spec PyProof.Rows L2 PySem.W
section
variable {tx : XC → Addr} {Y : YC} {Γ : List Cell} {te : TE} {α τ : Type} {d : Dat α} {js : List Nat} {rest : TS} {K : Kt τ}
end
end G
end

noncomputable section
/-! M124: a, b, c = x, y, z. -/
namespace G
open PySem PySem.Spec PyProof.Rows L2 PySem.W
section
variable {tx : XC → Addr} {Y : YC} {Γ : List Cell} {ta tb tc : TE} {α β γ τ : Type} {d : Dat α} {d2 : Dat β} {d3 : Dat γ} {js : List Nat} {rest : TS} {K : Kt τ}
end
end G
end

noncomputable section
/-! M125: for x in xs: x.append(n), n a number that stands in a name. -/
namespace G
open PySem PySem.Spec PyProof.Rows L2 PySem.W
section
variable {tx : XC → Addr} {Y : YC} {Γ : List Cell} {τ : Type} {rest : TS} {js : List Nat} {K : Kt τ} {k : Ks}
end
end G
end

noncomputable section
/-! M126: sorted(xs), xs a new list of own things: the answer owns them. -/
namespace G
open PySem PySem.Spec PyProof.Rows L2 PySem.W
section
variable {tx : XC → Addr} {Y : YC} {Γ : List Cell} {te : TE} {α : Type} {d : Dat α}
end
end G
end

noncomputable section
/-! M127: a def that is cut: what stands behind a statement is never reached; pairs of lists as plain data with owned lists; a, b = x[k] of such data; a.append(y) on it. -/
namespace L2
open PySem
theorem pss_no {X : Cx} {ss : List Stmt} : PSs X ss (fun _ _ _ => False) := ⟨fun _ _ _ _ _ _ h => h.elim⟩
end L2
namespace G
open PySem PySem.Spec PyProof.Rows L2 PySem.W
section
variable {tx : XC → Addr} {Y : YC} {Γ : List Cell} {ta te : TE} {α β τ : Type} {d1 : Dat α} {d2 : Dat β} {js : List Nat} {ts rest : TS} {K : Kt τ}
theorem zm_no : Zm tx Y js ts Γ K (.bad : M τ) := fun nb _ => absurd rfl nb
theorem o_PU [u1 : @UD α d1] [n1 : @UI α d1 u1] [u2 : @UD β d2] [n2 : @UI β d2 u2] {k : PyData → Prop} (h : O Y te Γ (oPair (oList (d := d1)) (oList (d := d2))) fun p => k (.tuple [.list (p.1.map u1.toU), .list (p.2.map u2.toU)])) : O Y te Γ oU k := fun e F σ H s Q q =>
  h e F σ H s Q fun v F' H' L p kx g ⟨a, v1, v2, M1, M2, e1, e2, ht, ⟨a1, vs1, f1, f2, r1⟩, ⟨a2, vs2, f3, f4, r2⟩⟩ =>
    q v F' H' L _ kx g ⟨a, [v1, v2], e1, ht, M1, M2, e2, ⟨a1, vs1, [], f1, f2, OUrs.of_reps r1⟩, M2, [], by simp, ⟨a2, vs2, [], f3, f4, OUrs.of_reps r2⟩, rfl⟩
theorem oe_PU [u1 : @UD α d1] [n1 : @UI α d1 u1] [u2 : @UD β d2] [n2 : @UI β d2 u2] {m : M (List α × List β)} (h : Oe tx Y te Γ (oPair (oList (d := d1)) (oList (d := d2))) m) : Oe tx Y te Γ oU (m >>= fun p => .ok (.tuple [.list (p.1.map u1.toU), .list (p.2.map u2.toU)])) := fun nb xk => o_PU (fun e F σ H s Q q => by
  cases em : m with
  | ok xs =>
    refine h (by rw [em]; exact fun z => nomatch z) (by rw [em]; exact XkM.ok) e F σ H s Q fun v F' H' L ys ky g r => q v F' H' L ys ?_ g r
    rw [em] at ky
    cases ky
    rw [em]; rfl
  | exc x =>
    refine h (by rw [em]; exact fun z => nomatch z) (by rw [em] at xk ⊢; exact fun px e2 => xk px (by cases e2; rfl)) e F σ H s Q fun v F' H' L ys ky g r => ?_
    rw [em] at ky
    cases ky
  | bad => rw [em] at nb; exact absurd rfl nb)
/-! a, b = x[k] -/
def pairAt (x : PyData) (n : Int) : Option (PyData × PyData) := match x with
  | .tuple us => (ixN us.length n).bind fun j => match us[j]? with
    | some (.tuple [a, b]) => some (a, b)
    | _ => none
  | _ => none
theorem pairAt_some {x : PyData} {n : Int} {p : PyData × PyData} (h : pairAt x n = some p) : ∃ us j, x = .tuple us ∧ ixN us.length n = some j ∧ us[j]? = some (.tuple [p.1, p.2]) := by
  unfold pairAt at h
  split at h
  · next us =>
    cases hq : ixN us.length n with
    | none => rw [hq] at h; cases h
    | some j =>
      rw [hq] at h
      have h : (match us[j]? with | some (.tuple [a, b]) => some (a, b) | _ => none) = some p := h
      split at h
      · next a b e =>
        cases h
        exact ⟨us, j, rfl, hq, e⟩
      · cases h
  · cases h
def M.takeU2 (x : PyData) (mi : M Int) : M (PyData × PyData) := mi >>= fun n => M.ofO (pairAt x n)
theorem permTk1 {α : Type} {A1 A2 M1 M2 B1 B2 : List α} : (A1 ++ (M1 ++ (B1 ++ (B2 ++ [])) ++ M2) ++ A2).Perm ((B1 ++ B2 ++ (A1 ++ [] ++ A2)) ++ (M1 ++ M2)) := by
  classical
  rw [List.perm_iff_count]
  intro a
  simp only [List.count_append, List.count_nil]
  omega
theorem z_takeU2 {i j1 j2 n : Nat} {x : PyData} {c1 c2 : Cell} {k : Ks} (hn : n = 2) (h1 : i ≠ j1) (h2 : i ≠ j2) (h12 : j1 ≠ j2) (hi : Γ[i]? = some (.own dU oU none x)) (hj1 : Γ[j1]? = some c1) (hj2 : Γ[j2]? = some c2)
    (h : R Y ta Γ dInt fun nn => ∃ p, pairAt x nn = some p ∧ k.nx (((Γ.set i .no).set j1 (.own dU oU none p.1)).set j2 (.own dU oU none p.2))) :
    Z Y (tAsg (tOp (rIxT Y.K) (tVar i) ta) (gTup Y.K n (gCons (gName j1) (gCons (gName j2) gNil)))) Γ k := fun e F σ H D hM s c => by
  subst hn
  obtain ⟨v0, e1, r0⟩ := s.own hi
  refine ⟨v0, e1, h e F σ H s _ fun v1 F1 H1 nn ⟨p, hp, kn⟩ g1 r1 => ?_⟩
  cases (show v1 = .int nn from r1)
  obtain ⟨us, j, rfl, hj, hx⟩ := pairAt_some hp
  have st1 := s.grow g1
  obtain ⟨hX, L, k0, sl⟩ := id st1
  obtain ⟨o, A1, Li, A2, e3, e4, ⟨v, rfl, hpin, a, vs, rfl, hq, r⟩, f⟩ := sl.get hi
  subst e4
  rw [e1] at e3
  cases (Option.some.inj (Option.some.inj e3))
  obtain ⟨w, M1, Mi, M2, ew, e5, ⟨b, ws, rfl, hq2, ru⟩, _⟩ := r.at hx
  subst e5
  rcases ws with _ | ⟨w1, _ | ⟨w2, _ | ⟨w3, ws⟩⟩⟩
  · exact ru.elim
  · obtain ⟨_, _, _, _, ru⟩ := ru
    exact ru.elim
  · obtain ⟨B1, B', eB, ra, B2, B'', eB', rb, eB''⟩ := ru
    cases (show B'' = [] from eB'')
    subst eB'
    subst eB
    refine ⟨a, vs, nn, .ref b, rfl, rfl, (hq.mono k0.fh).sq, by unfold atI; rw [r.len, hj]; exact ew, b, [w1, w2], rfl, (hq2.mono k0.fh).sq, rfl, w1, [w2], rfl, w2, [], rfl, rfl, ?_⟩
    have sl2 := f F1 (some (.ref a)) .no [] (Same.refl F1) rfl
    rw [set_same e1] at sl2
    obtain ⟨o1, N1, Nj, N2, e5, e6, _, f1⟩ := sl2.get (i := j1) (by rw [List.getElem?_set_ne h1]; exact hj1)
    have sl3 := f1 F1 (some w1) (.own dU oU none p.1) B1 (Same.refl F1) ⟨w1, rfl, fun _ z => (nomatch z), ra⟩
    obtain ⟨o2, P1, Pj, P2, e7, e8, _, f2⟩ := sl3.get (i := j2) (by rw [List.getElem?_set_ne h12, List.getElem?_set_ne h2]; exact hj2)
    have sl4 := f2 F1 (some w2) (.own dU oU none p.2) B2 (Same.refl F1) ⟨w2, rfl, fun _ z => (nomatch z), rb⟩
    refine c.nx F1 _ _ _ kn ⟨hX, _, ?_, sl4⟩
    have k2 := (k0.perm permTk1).subl (List.sublist_append_left _ _)
    rw [e6] at k2
    have k3 : Wk e F1 (B2 ++ (N1 ++ B1 ++ N2)) _ := (k2.perm permU3).subl (List.sublist_append_left _ _)
    rw [e8] at k3
    exact (k3.perm permS2).subl (List.sublist_append_left _ _)
  · obtain ⟨_, _, _, _, _, _, _, _, ru⟩ := ru
    exact ru.elim
theorem zm_takeU2 {i j1 j2 n : Nat} {x : PyData} {c1 c2 : Cell} {mi : M Int} {m2 : PyData × PyData → M τ} (hn : n = 2) (h1 : (i == j1) = false) (h2 : (i == j2) = false) (h12 : (j1 == j2) = false) (hi : Γ[i]? = some (.own dU oU none x)) (hj1 : Γ[j1]? = some c1) (hj2 : Γ[j2]? = some c2) (hii : i ∈ js) (hjj1 : j1 ∈ js) (hjj2 : j2 ∈ js) (hx : Re tx Y ta Γ dInt mi)
    (h : ∀ p, Zm tx Y js rest (((Γ.set i .no).set j1 (.own dU oU none p.1)).set j2 (.own dU oU none p.2)) K (m2 p)) :
    Zm tx Y js (tSeq (tAsg (tOp (rIxT Y.K) (tVar i) ta) (gTup Y.K n (gCons (gName j1) (gCons (gName j2) gNil)))) rest) Γ K (M.takeU2 x mi >>= m2) := fun nb xk =>
  z_seq (z_takeU2 hn (by simpa using h1) (by simpa using h2) (by simpa using h12) hi hj1 hj2 (hx.k (M.nb1 nb) xk.l.here fun nn e nb2 _ => by
    cases hz : pairAt x nn with
    | none => rw [hz] at nb2; exact absurd rfl nb2
    | some p =>
      refine ⟨p, rfl, (h p).go nb xk ?_ (by rw [wipeC_set hjj2, wipeC_set hjj1, wipeC_set hii])⟩
      unfold M.takeU2
      rw [e]
      show M.ofO (pairAt x nn) = _
      rw [hz]
      rfl))
/-! a.append(y) -/
def listU : PyData → Option (List PyData)
  | .list ds => some ds
  | _ => none
def M.appUU (x : PyData) (my : M PyData) : M PyData := M.ofO (listU x) >>= fun ds => my >>= fun y => M.asrt (ds.length < PySem.sizeLine) (.ok (.list (ds ++ [y])))
theorem z_appUU {pin : Option V} {i : Nat} {ds : List PyData} {k : Ks} (hi : Γ[i]? = some (.own dU oU pin (.list ds))) (h : W Y te Γ dUI fun y => ds.length < PySem.sizeLine ∧ k.nx (Γ.set i (.own dU oU pin (.list (ds ++ [y]))))) :
    Z Y (tDrop (tBM Y.K "list" rAppend (tVar i) (tCons te tNil))) Γ k := fun e F σ H D hM s c => by
  obtain ⟨v0, _, _, e1, ⟨a0, vs0, L0, rfl, rfl, _⟩, kw0, _⟩ := s.mut hi
  have ha0 : H a0 = some (.lst vs0) := (kw0.ow (a0, .lst vs0) (by simp)).2.1
  refine ⟨.ref a0, e1, .inl ⟨rfl, vs0, .inl (.inl ha0)⟩, h e F σ H s _ fun y F1 H1 yv ⟨hl, ky⟩ g ry => ?_⟩
  have st1 := s.grow g
  obtain ⟨v, Li, rest, e2, ⟨b, ws, L', rfl, rfl, ru⟩, kw, f⟩ := st1.mut hi
  rw [e1] at e2
  cases (Option.some.inj (Option.some.inj e2))
  have hb2 : H1 a0 = some (.lst ws) := (kw.ow (a0, .lst ws) (by simp)).2.1
  refine ⟨a0, ws, y, rfl, rfl, hb2, by rw [ru.len]; exact hl, ?_⟩
  have k2 := kw.put (o' := .lst (ws ++ [y])) (fun _ z => by cases z)
  refine c.nx F1 σ _ _ ky (f F1 _ ((a0, .lst (ws ++ [y])) :: L') _ (Same.refl F1) k2 ⟨a0, ws ++ [y], L', rfl, rfl, ?_⟩)
  have := OUrs.append (OUr.noL _ _ ry.1 ry.2) ru
  simpa using this
theorem zm_appUU {pin : Option V} {i : Nat} {x : PyData} {my : M PyData} {m2 : PyData → M τ} (hi : Γ[i]? = some (.own dU oU pin x)) (hj : i ∈ js) (hv : We tx Y te Γ dUI my)
    (h2 : ∀ y, Zm tx Y js rest (Γ.set i (.own dU oU pin y)) K (m2 y)) : Zm tx Y js (tSeq (tDrop (tBM Y.K "list" rAppend (tVar i) (tCons te tNil))) rest) Γ K (M.appUU x my >>= m2) := fun nb xk => by
  cases hz : listU x with
  | none => unfold M.appUU at nb; rw [hz] at nb; exact absurd rfl nb
  | some ds =>
    have ex : x = .list ds := by
      cases x <;> simp [listU] at hz
      rw [hz]
    subst ex
    have em : (M.appUU (.list ds) my >>= m2) = ((my >>= fun y => M.asrt (ds.length < PySem.sizeLine) (.ok (.list (ds ++ [y])))) >>= m2) := rfl
    rw [em] at nb xk ⊢
    exact z_seq (z_appUU hi (hv.k (M.nb1 nb) xk.l.here fun y e nb2 _ => ⟨M.asrt_nb nb2, (h2 _).go nb xk (by
      rw [e]
      exact M.asrt_pos (M.asrt_nb nb2)) (wipeC_set hj)⟩))
end
end G
end

/-! GM: groups of a graph, in plain Lean. -/
namespace G
def Adj (pts : List Int) (ties : List (Int × Int)) (a b : Int) : Prop := a ∈ pts ∧ b ∈ pts ∧ ((a, b) ∈ ties ∨ (b, a) ∈ ties)
theorem Adj.symm {pts : List Int} {ties : List (Int × Int)} {a b : Int} (h : Adj pts ties a b) : Adj pts ties b a := ⟨h.2.1, h.1, h.2.2.symm⟩
inductive Reach (pts : List Int) (ties : List (Int × Int)) : Int → Int → Prop where
  | refl (x : Int) : Reach pts ties x x
  | tail {x y z : Int} (h : Reach pts ties x y) (a : Adj pts ties y z) : Reach pts ties x z
section
variable {pts : List Int} {ties : List (Int × Int)}
theorem Reach.trans {x y z : Int} (h : Reach pts ties x y) (g : Reach pts ties y z) : Reach pts ties x z := by
  induction g with
  | refl => exact h
  | tail _ a ih => exact .tail ih a
theorem Reach.symm {x y : Int} (h : Reach pts ties x y) : Reach pts ties y x := by
  induction h with
  | refl => exact .refl _
  | tail _ a ih => exact (Reach.tail (.refl _) a.symm).trans ih
theorem Reach.mem {x y : Int} (h : Reach pts ties x y) (hx : x ∈ pts) : y ∈ pts := by
  cases h with
  | refl => exact hx
  | tail _ a => exact a.2.1
noncomputable instance decReach {pts : List Int} {ties : List (Int × Int)} {x y : Int} : Decidable (Reach pts ties x y) := Classical.propDecidable _
def IsMin (pts : List Int) (ties : List (Int × Int)) (p : Int) : Prop := ∀ q ∈ pts, Reach pts ties p q → p ≤ q
noncomputable instance decMin {pts : List Int} {ties : List (Int × Int)} {x : Int} : Decidable (IsMin pts ties x) := Classical.propDecidable _
noncomputable def firsts (pts : List Int) (ties : List (Int × Int)) (xs : List Int) : List Int := xs.filter fun p => decide (IsMin pts ties p)
/-! near -/
/-! the search -/
/-- what holds while the group of p is searched: s0 is what was seen ahead of it -/
structure Dfs (pts : List Int) (ties : List (Int × Int)) (s0 : List Int) (p : Int) (seen group waiting : List Int) : Prop where
  nd : (group ++ waiting).Nodup
  sn : seen.Nodup
  mem : ∀ x, x ∈ seen ↔ x ∈ s0 ∨ x ∈ group ++ waiting
  re : ∀ x ∈ group ++ waiting, Reach pts ties p x ∧ x ∈ pts
  clo : ∀ x ∈ group, ∀ z, Adj pts ties x z → z ∈ seen
  st : p ∈ group ++ waiting
  /-- what is seen is of the points -/
  sub : ∀ x ∈ seen, x ∈ pts
/-- one neighbour more -/
theorem Dfs.push {s0 seen group waiting : List Int} {p m z : Int} (h : Dfs pts ties s0 p seen group waiting) (hm : m ∈ group) (a : Adj pts ties m z) (hz : z ∉ seen) :
    Dfs pts ties s0 p (seen ++ [z]) group (waiting ++ [z]) := by
  have h1 : z ∉ s0 := fun q => hz ((h.mem z).mpr (.inl q))
  have h2 : z ∉ group ++ waiting := fun q => hz ((h.mem z).mpr (.inr q))
  have hr := h.re m (List.mem_append_left _ hm)
  refine ⟨?_, ?_, fun x => ?_, fun x hx => ?_, fun x hx y ay => ?_, ?_, fun x hx => ?_⟩
  · rw [← List.append_assoc]
    refine List.nodup_append.mpr ⟨h.nd, by simp, fun x hx y hy e => ?_⟩
    rw [List.mem_singleton] at hy
    subst e hy
    exact h2 hx
  · refine List.nodup_append.mpr ⟨h.sn, by simp, fun x hx y hy e => ?_⟩
    rw [List.mem_singleton] at hy
    subst e hy
    exact hz hx
  · rw [← List.append_assoc, List.mem_append, List.mem_append, h.mem x, or_assoc]
  · rw [← List.append_assoc, List.mem_append, List.mem_singleton] at hx
    rcases hx with hx | rfl
    · exact h.re x hx
    · exact ⟨.tail hr.1 a, a.2.1⟩
  · exact List.mem_append_left _ (h.clo x hx y ay)
  · rw [← List.append_assoc]; exact List.mem_append_left _ h.st
  · rcases List.mem_append.mp hx with hx | hx
    · exact h.sub x hx
    · rw [List.mem_singleton] at hx; subst hx; exact a.2.1
/-- .. in the midst of the neighbours of m, which the group holds: done are those that were looked at -/
structure Dfs2 (pts : List Int) (ties : List (Int × Int)) (s0 : List Int) (p : Int) (seen group waiting : List Int) (m : Int) (done : List Int) : Prop where
  nd : (group ++ waiting).Nodup
  sn : seen.Nodup
  mem : ∀ x, x ∈ seen ↔ x ∈ s0 ∨ x ∈ group ++ waiting
  re : ∀ x ∈ group ++ waiting, Reach pts ties p x ∧ x ∈ pts
  clo : ∀ x ∈ group, x ≠ m → ∀ z, Adj pts ties x z → z ∈ seen
  st : p ∈ group ++ waiting
  sub : ∀ x ∈ seen, x ∈ pts
  hm : m ∈ group
  dn : ∀ z ∈ done, z ∈ seen
theorem Dfs.take {s0 seen group ws : List Int} {p m : Int} (h : Dfs pts ties s0 p seen group (ws ++ [m])) : Dfs2 pts ties s0 p seen (group ++ [m]) ws m [] := by
  have hp : ((group ++ [m]) ++ ws).Perm (group ++ (ws ++ [m])) := by
    rw [List.append_assoc]
    exact List.Perm.append_left _ List.perm_append_comm
  refine ⟨hp.nodup_iff.mpr h.nd, h.sn, fun x => by rw [h.mem x, hp.mem_iff], fun x hx => h.re x (hp.mem_iff.mp hx), fun x hx hne z a => ?_, hp.mem_iff.mpr h.st, h.sub, by simp, fun z hz => (nomatch hz)⟩
  rcases List.mem_append.mp hx with hx | hx
  · exact h.clo x hx z a
  · exact absurd (List.mem_singleton.mp hx) hne
theorem Dfs2.push {s0 seen group waiting dn : List Int} {p m z : Int} (h : Dfs2 pts ties s0 p seen group waiting m dn) (a : Adj pts ties m z) (hz : z ∉ seen) : Dfs2 pts ties s0 p (seen ++ [z]) group (waiting ++ [z]) m (dn ++ [z]) := by
  have h2 : z ∉ group ++ waiting := fun q => hz ((h.mem z).mpr (.inr q))
  refine ⟨?_, nodup_snoc h.sn hz, fun x => ?_, fun x hx => ?_, fun x hx hne y ay => List.mem_append_left _ (h.clo x hx hne y ay), ?_, fun x hx => ?_, h.hm, fun x hx => ?_⟩
  · rw [← List.append_assoc]; exact nodup_snoc h.nd h2
  · rw [← List.append_assoc, List.mem_append, List.mem_append, h.mem x, or_assoc]
  · rw [← List.append_assoc, List.mem_append, List.mem_singleton] at hx
    rcases hx with hx | rfl
    · exact h.re x hx
    · exact ⟨.tail (h.re m (List.mem_append_left _ h.hm)).1 a, a.2.1⟩
  · rw [← List.append_assoc]; exact List.mem_append_left _ h.st
  · rcases List.mem_append.mp hx with hx | hx
    · exact h.sub x hx
    · rw [List.mem_singleton] at hx; subst hx; exact a.2.1
  · rcases List.mem_append.mp hx with hx | hx
    · exact List.mem_append_left _ (h.dn x hx)
    · exact List.mem_append_right _ hx
theorem Dfs2.back {s0 seen group waiting dn : List Int} {p m : Int} (h : Dfs2 pts ties s0 p seen group waiting m dn) (hd : ∀ z, Adj pts ties m z → z ∈ dn) : Dfs pts ties s0 p seen group waiting :=
  ⟨h.nd, h.sn, h.mem, h.re, fun x hx z a => by
    by_cases e : x = m
    · subst e; exact h.dn z (hd z a)
    · exact h.clo x hx e z a, h.st, h.sub⟩
/-- the search is over -/
theorem Dfs.done {s0 seen group : List Int} {p : Int} (h : Dfs pts ties s0 p seen group []) (h0 : ∀ x y, x ∈ s0 → Reach pts ties x y → y ∈ s0) (hp : p ∉ s0) (x : Int) : x ∈ group ↔ x ∈ pts ∧ Reach pts ties p x := by
  have hg : ∀ y, y ∈ group ++ [] ↔ y ∈ group := fun y => by simp
  constructor
  · intro hx
    have := h.re x ((hg x).mpr hx)
    exact ⟨this.2, this.1⟩
  · rintro ⟨hx, hr⟩
    clear hx
    induction hr with
    | refl => exact (hg p).mp h.st
    | @tail y z hy a ih =>
      have := (h.mem z).mp (h.clo y ih z a)
      rcases this with q | q
      · exact absurd (h0 z p q (Reach.tail hy a).symm) hp
      · exact (hg z).mp q
/-- what has been seen behind the points xs -/
structure Seen (pts : List Int) (ties : List (Int × Int)) (xs seen : List Int) : Prop where
  nd : seen.Nodup
  mem : ∀ x, x ∈ seen ↔ x ∈ pts ∧ ∃ q ∈ xs, Reach pts ties q x
theorem Seen.clo {xs seen : List Int} (h : Seen pts ties xs seen) (x y : Int) (hx : x ∈ seen) (hr : Reach pts ties x y) : y ∈ seen := by
  obtain ⟨h1, q, hq, h2⟩ := (h.mem x).mp hx
  exact (h.mem y).mpr ⟨hr.mem h1, q, hq, h2.trans hr⟩
theorem Seen.start {xs seen : List Int} {p : Int} (h : Seen pts ties xs seen) (hp : p ∈ pts) (hn : p ∉ seen) : Dfs pts ties seen p (seen ++ [p]) [] [p] := by
  refine ⟨by simp, ?_, fun x => by simp, fun x hx => ?_, fun x hx => (nomatch hx), by simp, fun x hx => ?_⟩
  · refine List.nodup_append.mpr ⟨h.nd, by simp, fun x hx y hy e => ?_⟩
    rw [List.mem_singleton] at hy
    subst e hy
    exact hn hx
  · have e : x = p := by simpa using hx
    subst e
    exact ⟨.refl _, hp⟩
  · rcases List.mem_append.mp hx with hx | hx
    · exact ((h.mem x).mp hx).1
    · rw [List.mem_singleton] at hx; subst hx; exact hp
theorem Seen.next {xs seen seen' group : List Int} {p : Int} (h : Seen pts ties xs seen) (hn : p ∉ seen) (hd : Dfs pts ties seen p seen' group []) : Seen pts ties (xs ++ [p]) seen' := by
  refine ⟨hd.sn, fun x => ?_⟩
  have q := hd.done (fun a b => h.clo a b) hn x
  rw [hd.mem x, List.append_nil, q, h.mem x]
  constructor
  · rintro (⟨h1, y, hy, h2⟩ | ⟨h1, h2⟩)
    · exact ⟨h1, y, List.mem_append_left _ hy, h2⟩
    · exact ⟨h1, p, by simp, h2⟩
  · rintro ⟨h1, y, hy, h2⟩
    rcases List.mem_append.mp hy with hy | hy
    · exact .inl ⟨h1, y, hy, h2⟩
    · rw [List.mem_singleton] at hy; subst hy; exact .inr ⟨h1, h2⟩
/-! groups hang together -/
end
end G

/-! PM: models of the helpers that the laws share, and of the program (printed by gen3.py). -/
namespace PM
open PySem L2 G
/-- _law_draws -/
noncomputable def l_draws_m (cell_here : Int) (many : Int) : M (List Int) :=
  (M.ok (if cell_here < 0 then -cell_here else cell_here)) >>= fun rest_1 =>
  (M.ok (decide ((1000000000000000000 : Int) ≤ rest_1))) >>= fun exact_2 =>
  (M.ok ((rest_1 % (2147483629 : Int)) + (17 : Int))) >>= fun mixed_3 =>
  (M.ok ([] : (List Int))) >>= fun draws_here_4 =>
  (M.range many) >>= fun l12 =>
  M.fold (fun (s5 : (Int × Int × (List Int))) x6 =>
    (M.ok ((((s5.2.1 * (48271 : Int)) + ((9973 : Int) * x6)) + (11 : Int)) % (2147483647 : Int))) >>= fun mixed_7 =>
      if (exact_2 && (decide ((0 : Int) < s5.1))) then
      M.push s5.2.2 (M.ok (s5.1 % (60 : Int))) >>= fun draws_here_8 =>
        (M.ok (s5.1 / (60 : Int))) >>= fun rest_9 =>
        M.ok (rest_9, mixed_7, draws_here_8)
    else
      M.push s5.2.2 (M.ok ((mixed_7 / (13 : Int)) % (60 : Int))) >>= fun draws_here_10 =>
        M.ok (s5.1, mixed_7, draws_here_10)) (rest_1, mixed_3, draws_here_4) l12 >>= fun (s11 : (Int × Int × (List Int))) =>
  M.ok s11.2.2
/-- _law_pick -/
noncomputable def l_pick_m (draws_here : (List Int)) (k : Int) (many : Int) : M Int :=
  if ((decide (many < (2 : Int))) || (decide ((draws_here.length : Int) = (0 : Int)))) then
  (M.ok (0 : Int))
else
  (((M.asrt (0 < (draws_here.length : Int)) (.ok (k % (draws_here.length : Int)))) >>= fun t1 => (M.ix draws_here t1)) >>= fun t2 => (M.asrt (0 < many) (.ok (t2 % many))))
/-- _law_web -/
noncomputable def l_web_m (draws_here : (List Int)) (most_places : Int) (most_ties : Int) : M ((List Int) × (List (T4 Int Int Int Int))) :=
  (M.ok [(2 : Int), (2 : Int), (3 : Int), (2 : Int), (1 : Int), (4 : Int)]) >>= fun menu_1 =>
  (l_pick_m draws_here (0 : Int) (most_places + (1 : Int))) >>= fun many_2 =>
  ((M.range many_2) >>= M.comp (fun _ => (M.ok true)) (fun x3 => ((l_pick_m draws_here ((2 : Int) + x3) (6 : Int)) >>= fun t4 => (M.ix menu_1 t4)))) >>= fun sides_5 =>
  (M.ok ([] : (List (T4 Int Int Int Int)))) >>= fun ties_6 =>
  ((l_pick_m draws_here (1 : Int) (most_ties + (1 : Int))) >>= fun t8 => (M.range t8)) >>= fun l19 =>
  M.fold (fun (s7 : (List (T4 Int Int Int Int))) x9 =>
    if (decide ((0 : Int) < many_2)) then
      (M.ok (((2 : Int) + many_2) + ((4 : Int) * x9))) >>= fun at__10 =>
        (l_pick_m draws_here at__10 many_2) >>= fun one_11 =>
        (l_pick_m draws_here (at__10 + (2 : Int)) many_2) >>= fun other_12 =>
        ((M.ix sides_5 one_11) >>= fun t13 => (l_pick_m draws_here (at__10 + (1 : Int)) t13)) >>= fun side_14 =>
        M.push s7 (((M.ix sides_5 other_12) >>= fun t15 => (l_pick_m draws_here (at__10 + (3 : Int)) t15)) >>= fun t16 => (M.ok ⟨one_11, side_14, other_12, t16⟩)) >>= fun ties_17 =>
        M.ok ties_17
    else
      M.ok s7) ties_6 l19 >>= fun (s18 : (List (T4 Int Int Int Int))) =>
  (M.ok (sides_5, s18))
/-- check_end -/
noncomputable def p_check_end_m (sides : (List Int)) (place : Int) (side : Int) : M Unit :=
  if ((decide (place < (0 : Int))) || (decide ((sides.length : Int) ≤ place))) then
  M.raise1 .UnknownPlace "place" (M.ok place)
else
  (if (decide (side < (0 : Int))) then .ok true else ((M.ix sides place) >>= fun t1 => (M.ok (decide (t1 ≤ side))))) >>= fun b2 => if b2 then
    M.raise2 .UnknownSide "place" "side" (M.ok place) (M.ok side)
  else
    M.ok ()
/-- Web.__init__ -/
noncomputable def m_WebX_initX_m (sides : (List Int)) (ties : (List (T4 Int Int Int Int))) : M WebM :=
  if (decide ((200 : Int) < (sides.length : Int))) then
  M.raise1 .TooLarge "limit" (M.ok (200 : Int))
else
  if (decide ((300 : Int) < (ties.length : Int))) then
    M.raise1 .TooLarge "limit" (M.ok (300 : Int))
  else
    (M.ok (M.enumL sides)) >>= fun l12 =>
      M.fold (fun (_ : Unit) x2 =>
        if ((decide (x2.2 < (1 : Int))) || (decide ((4 : Int) < x2.2))) then
          M.raise1 .BadSides "place" (M.ok x2.1)
        else
          M.ok ()) () l12 >>= fun (_ : Unit) =>
      (M.ok ties) >>= fun l11 =>
      M.fold (fun (_ : Unit) x5 =>
        (p_check_end_m sides x5.a x5.b) >>= fun _ =>
          (p_check_end_m sides x5.c x5.d) >>= fun _ =>
          M.ok ()) () l11 >>= fun (_ : Unit) =>
      (M.ok ⟨sides⟩) >>= fun f_7 =>
      ((M.comp (fun _ => (M.ok true)) (fun x8 => (M.ok ⟨x8.a, x8.b, x8.c, x8.d⟩)) ties) >>= fun t9 => (M.ok ⟨t9⟩)) >>= fun f_10 =>
      M.ok ⟨f_7, f_10⟩
/-- Web.__contains__ -/
noncomputable def m_WebX_containsX_m (self : WebM) (place : Int) : M Bool :=
  (M.ok ((decide ((0 : Int) ≤ place)) && (decide (place < (self.a.l.length : Int)))))
/-- _law_same -/
noncomputable def l_same_step (rec_ : PyData → PyData → M Bool) (told : PyData) (due_here : PyData) : M Bool :=
  if (isNoneU due_here) then
  (M.ok (isNoneU told))
else
  if (isU "bool" due_here) then
    (if (isU "bool" told) then (M.asrt (told.depth ≤ 64 ∧ due_here.depth ≤ 64) (.ok (PyData.eqv told due_here))) else .ok false)
  else
    if (isU "int" due_here) then
      (if (isU "int" told) then (if (!(isU "bool" told)) then (M.asrt (told.depth ≤ 64 ∧ due_here.depth ≤ 64) (.ok (PyData.eqv told due_here))) else .ok false) else .ok false)
    else
      if (isU "str" due_here) then
        (if (isU "str" told) then (M.asrt (told.depth ≤ 64 ∧ due_here.depth ≤ 64) (.ok (PyData.eqv told due_here))) else .ok false)
      else
        if ((isU "list" due_here) && (!(isU "list" told))) then
          (M.ok false)
        else
          if ((isU "tuple" due_here) && (!(isU "tuple" told))) then
            (M.ok false)
          else
            (((M.ofO (itemsU told) >>= fun ds => M.ok (⟨ds⟩ : Sq PyData)) >>= fun t1 => (M.ok (t1.l.length : Int))) >>= fun t3 => (((M.ofO (itemsU due_here) >>= fun ds => M.ok (⟨ds⟩ : Sq PyData)) >>= fun t2 => (M.ok (t2.l.length : Int))) >>= fun t4 => (M.ok (!decide (t3 = t4))))) >>= fun b18 => if b18 then
              (M.ok false)
            else
              (((M.ofO (itemsU due_here) >>= fun ds => M.ok (⟨ds⟩ : Sq PyData)) >>= fun t6 => (M.ok (t6.l.length : Int))) >>= fun t7 => (M.range t7)) >>= fun l17 =>
                M.foldC (fun (_ : Unit) x8 =>
                  ((((M.ofO (itemsU told) >>= fun ds => M.ok (⟨ds⟩ : Sq PyData)) >>= fun t9 => (M.ix t9.l x8)) >>= fun t11 => (((M.ofO (itemsU due_here) >>= fun ds => M.ok (⟨ds⟩ : Sq PyData)) >>= fun t10 => (M.ix t10.l x8)) >>= fun t12 => (rec_ t11 t12))) >>= fun t13 => (M.ok (!t13))) >>= fun b14 => if b14 then
                    (M.ok false) >>= fun r => .ok (.rt r)
                  else
                    M.ok (.nx ())) () l17 >>= fun c16 => Ct.go c16 M.ok fun (_ : Unit) =>
                (M.ok true)
noncomputable def l_same_m : Nat → PyData → PyData → M Bool
  | 0 => fun _ _ => .bad
  | fl + 1 => l_same_step (l_same_m fl)
/-- PairedWeb.__init__ -/
noncomputable def m_PairedWebX_initX_m (pairs : Int) (free : (List (Int × Int))) : M PairedWebM :=
  if (decide ((100 : Int) < pairs)) then
  M.raise1 .TooLarge "limit" (M.ok (100 : Int))
else
  if (decide ((200 : Int) < (free.length : Int))) then
    M.raise1 .TooLarge "limit" (M.ok (200 : Int))
  else
    (M.ok free) >>= fun l12 =>
      M.fold (fun (_ : Unit) x2 =>
        (M.ok [x2.1, x2.2]) >>= fun l6 =>
          M.fold (fun (_ : Unit) x4 =>
            if ((decide (x4 < (0 : Int))) || (decide (((2 : Int) * pairs) ≤ x4))) then
              M.raise1 .UnknownPoint "point" (M.ok x4)
            else
              M.ok ()) () l6 >>= fun (_ : Unit) =>
          M.ok ()) () l12 >>= fun (_ : Unit) =>
      (M.ok pairs) >>= fun f_8 =>
      ((M.comp (fun _ => (M.ok true)) (fun x9 => (M.ok (x9.1, x9.2))) free) >>= fun t10 => (M.ok ⟨t10⟩)) >>= fun f_11 =>
      M.ok ⟨f_8, f_11⟩
/-- PairedWeb.points -/
noncomputable def m_PairedWeb_points_m (self : PairedWebM) : M Int :=
  (M.ok ((2 : Int) * self.a))
/-- PairedWeb.all_ties -/
noncomputable def m_PairedWeb_all_ties_m (self : PairedWebM) : M (Tup (Int × Int)) :=
  ((((M.range self.a) >>= M.comp (fun _ => (M.ok true)) (fun x1 => (M.ok (((2 : Int) * x1), (((2 : Int) * x1) + (1 : Int)))))) >>= fun t2 => (M.ok ⟨t2⟩)) >>= fun t3 => (M.catT t3 self.b))
/-- _law_seed -/
noncomputable def l_seed_m (script : (Sq Int)) (k : Int) : M Int :=
  if (decide (k < (script.l.length : Int))) then
  (M.ix script.l k)
else
  if (decide ((script.l.length : Int) = (0 : Int))) then
    (M.ok ((104729 : Int) * k))
  else
    ((((M.ix script.l (0 : Int)) >>= fun t1 => (M.ok (if t1 < 0 then -t1 else t1))) >>= fun t2 => (M.asrt (0 < (1000000000000000 : Int)) (.ok (t2 % (1000000000000000 : Int))))) >>= fun t3 => (M.ok (t3 + ((104729 : Int) * k))))
/-- _law_rich -/
noncomputable def l_rich_m (draws_here : (List Int)) (more : (List Int)) (many : Int) (count : Int) : M (List Int) :=
  ((l_pick_m more (59 : Int) (5 : Int)) >>= fun t1 => (M.ok (decide (t1 = (0 : Int))))) >>= fun b2 => if b2 then
  (M.ok draws_here)
else
  (M.cat [many, count] (cutL draws_here (some (2 : Int)) none))
/-- _law_leaves -/
noncomputable def l_leaves_m (draws_here : (List Int)) (many : Int) : M (List Int) :=
  (M.rangeL 0 ((2 : Int) * many)) >>= fun pool_1 =>
  (M.ok ([] : (List Int))) >>= fun row_2 =>
  (M.range ((2 : Int) * many)) >>= fun l7 =>
  M.fold (fun (s3 : ((List Int) × (List Int))) x4 =>
    M.appendPop s3.2 s3.1 (l_pick_m draws_here ((1 : Int) + x4) (s3.1.length : Int)) >>= fun p5 =>
      M.ok (p5.2, p5.1)) (pool_1, row_2) l7 >>= fun (s6 : ((List Int) × (List Int))) =>
  M.ok s6.2
/-- _law_opposites -/
noncomputable def l_opposites_m (draws_here : (List Int)) (at_ : Int) (many : Int) (leaves_here : (List Int)) (nodes : (List (T3 PySem.Str Int Int))) : M ((Int × Int) × (List (T3 PySem.Str Int Int))) :=
  ((M.range ((leaves_here.length : Int) / (2 : Int))) >>= M.comp (fun _ => (M.ok true)) (fun x1 => ((M.ix leaves_here ((2 : Int) * x1)) >>= fun t2 => ((M.ix leaves_here (((2 : Int) * x1) + (1 : Int))) >>= fun t3 => (M.ok (t2, t3)))))) >>= fun pairs_4 =>
  (M.range ((pairs_4.length : Int) - (1 : Int))) >>= fun l16 =>
  M.fold (fun (s5 : ((List (T3 PySem.Str Int Int)) × (List (Int × Int)))) x6 =>
    (M.popAt s5.2 (l_pick_m draws_here (at_ + ((3 : Int) * x6)) (s5.2.length : Int))) >>= fun p7 =>
      (M.popAt p7.1 (l_pick_m draws_here ((at_ + ((3 : Int) * x6)) + (1 : Int)) (p7.1.length : Int))) >>= fun p8 =>
      (l_pick_m draws_here ((at_ + ((3 : Int) * x6)) + (2 : Int)) (2 : Int)) >>= fun turn_9 =>
      M.push s5.1 ((M.ix [("both" : PySem.Str), ("together" : PySem.Str)] turn_9) >>= fun t10 => (M.ok ⟨t10, p7.2.1, p8.2.1⟩)) >>= fun nodes_11 =>
      M.push nodes_11 ((M.ix [("together" : PySem.Str), ("both" : PySem.Str)] turn_9) >>= fun t12 => (M.ok ⟨t12, p7.2.2, p8.2.2⟩)) >>= fun nodes_13 =>
      M.push p8.1 (M.ok (((many + (nodes_13.length : Int)) - (2 : Int)), ((many + (nodes_13.length : Int)) - (1 : Int)))) >>= fun pairs_14 =>
      M.ok (nodes_13, pairs_14)) (nodes, pairs_4) l16 >>= fun (s15 : ((List (T3 PySem.Str Int Int)) × (List (Int × Int)))) =>
  (M.ix s15.2 (0 : Int)) >>= fun r => M.ok (r, s15.1)
/-- _law_world -/
noncomputable def l_world_m (draws_here : (List Int)) (extra : (List Int)) : M (T3 (List (Int × Int)) (List (T3 PySem.Str Int Int)) (List (Int × Int))) :=
  ((l_pick_m draws_here (0 : Int) (5 : Int)) >>= fun t1 => (M.ok ((2 : Int) + t1))) >>= fun links_2 =>
  (l_leaves_m draws_here links_2) >>= fun row_3 =>
  (l_leaves_m extra links_2) >>= fun pool_4 =>
  (M.ok ([] : (List (T3 PySem.Str Int Int)))) >>= fun nodes_5 =>
  (M.ok ([] : (List (Int × Int)))) >>= fun cuts_6 =>
  (((l_pick_m extra (0 : Int) (2 : Int)) >>= fun t8 => (M.ok ((1 : Int) + t8))) >>= fun t9 => (M.range t9)) >>= fun l41 =>
  M.fold (fun (s7 : ((List Int) × (List (T3 PySem.Str Int Int)) × (List (Int × Int)))) x10 =>
    (((l_pick_m extra ((20 : Int) + ((12 : Int) * x10)) (3 : Int)) >>= fun t11 => (M.ok ((2 : Int) * t11))) >>= fun t12 => (M.ok ((2 : Int) + t12))) >>= fun many_13 =>
      if (decide (many_13 ≤ (s7.1.length : Int))) then
      (M.calm ((M.ok extra) >>= fun a14 => ((M.ok ((21 : Int) + ((12 : Int) * x10))) >>= fun a15 => ((M.ok ((2 : Int) * links_2)) >>= fun a16 => ((M.ok (cutL s7.1 none (some many_13))) >>= fun a17 => (l_opposites_m a14 a15 a16 a17 s7.2.1)))))) >>= fun p18 =>
        (M.ok (cutL s7.1 (some many_13) none)) >>= fun pool_19 =>
        (((l_pick_m extra ((30 : Int) + ((12 : Int) * x10)) (2 : Int)) >>= fun t20 => (M.ok (decide (t20 = (1 : Int))))) >>= fun b25 => if b25 then
        (M.ok p18.1.2) >>= fun one_21 => (M.ok p18.1.1) >>= fun other_22 =>
          M.ok (one_21, other_22)
      else
        M.ok (p18.1.1, p18.1.2)) >>= (fun s23 : (Int × Int) =>
        M.push s7.2.2 (M.ok (s23.1, s23.2)) >>= fun cuts_24 =>
        M.ok (pool_19, p18.2, cuts_24))
    else
      M.ok (s7.1, s7.2.1, s7.2.2)) (pool_4, nodes_5, cuts_6) l41 >>= fun (s26 : ((List Int) × (List (T3 PySem.Str Int Int)) × (List (Int × Int)))) =>
  ((l_pick_m extra (45 : Int) (4 : Int)) >>= fun t28 => (M.range t28)) >>= fun l40 =>
  M.fold (fun (s27 : ((List Int) × (List (T3 PySem.Str Int Int)))) x29 =>
    if (decide ((1 : Int) < (s27.1.length : Int))) then
      ((l_pick_m extra ((46 : Int) + x29) (2 : Int)) >>= fun t30 => (M.ix [("both" : PySem.Str), ("together" : PySem.Str)] t30)) >>= fun kind_31 =>
        M.push s27.2 ((M.ix s27.1 (0 : Int)) >>= fun t32 => ((M.ix s27.1 (1 : Int)) >>= fun t33 => (M.ok ⟨kind_31, t32, t33⟩))) >>= fun nodes_34 =>
        (M.cat (cutL s27.1 (some (2 : Int)) none) [((((2 : Int) * links_2) + (nodes_34.length : Int)) - (1 : Int))]) >>= fun pool_35 =>
        M.ok (pool_35, nodes_34)
    else
      M.ok (s27.1, s27.2)) (s26.1, s26.2.1) l40 >>= fun (s36 : ((List Int) × (List (T3 PySem.Str Int Int)))) =>
  ((M.range links_2) >>= M.comp (fun _ => (M.ok true)) (fun x37 => ((M.ix row_3 ((2 : Int) * x37)) >>= fun t38 => ((M.ix row_3 (((2 : Int) * x37) + (1 : Int))) >>= fun t39 => (M.ok (t38, t39)))))) >>= fun r => .ok ⟨r, s36.2, s26.2.2⟩
end PM

/-! PB: plain lemmas over the monad. -/
namespace G
open PySem L2
namespace M
variable {α β γ σ ρ : Type}
theorem fold_ok {f : σ → α → M σ} {xs : List α} {s0 : σ} (P : Nat → σ → Prop) (h0 : P 0 s0) (hs : ∀ i x s, xs[i]? = some x → P i s → ∃ s', f s x = .ok s' ∧ P (i + 1) s') : ∃ s, fold f s0 xs = .ok s ∧ P xs.length s := by
  have key : ∀ n, n ≤ xs.length → ∃ s, fold f s0 (xs.take n) = .ok s ∧ P n s := by
    intro n
    induction n with
    | zero => intro _; exact ⟨s0, rfl, h0⟩
    | succ n ih =>
      intro hn
      obtain ⟨s, e, p⟩ := ih (by omega)
      have hx : xs[n]? = some xs[n] := by simp [show n < xs.length by omega]
      obtain ⟨s', e', p'⟩ := hs n xs[n] s hx p
      refine ⟨s', ?_, p'⟩
      rw [List.take_add_one, hx]
      show fold f s0 (xs.take n ++ [xs[n]]) = _
      rw [fold_snoc, e]
      exact e'
  have := key xs.length (Nat.le_refl _)
  rwa [List.take_length] at this
/-- the state behind i turns is told -/
theorem fold_eq {f : σ → α → M σ} {xs : List α} (s0 : σ) (g : Nat → σ) (h0 : g 0 = s0) (hs : ∀ i x, xs[i]? = some x → f (g i) x = .ok (g (i + 1))) : fold f s0 xs = .ok (g xs.length) := by
  obtain ⟨s, e, p⟩ := fold_ok (f := f) (xs := xs) (s0 := s0) (fun i s => s = g i) h0.symm fun i x s hx e => ⟨g (i + 1), by rw [e]; exact hs i x hx, rfl⟩
  rw [e, p]
/-- turns that keep the state -/
theorem fold_unit {f : Unit → α → M Unit} {xs : List α} (h : ∀ x ∈ xs, f () x = .ok ()) : fold f () xs = .ok () :=
  fold_eq () (fun _ => ()) rfl fun i x hx => h x (List.mem_of_getElem? hx)
theorem range_ok {n : Int} (h0 : 0 ≤ n) (h1 : n ≤ 100000) : range n = .ok (rngL 0 n.toNat) := asrt_pos ⟨by omega, Int.le_trans h1 (by decide)⟩
theorem rangeN {n : Nat} (h1 : n ≤ 100000) : range (n : Int) = .ok (rngL 0 n) := by rw [range_ok (by omega) (by omega)]; simp
theorem push_small {xs : List α} {y : α} (h : xs.length ≤ 100000) : push xs (.ok y) = .ok (xs ++ [y]) := push_ok (small1k h)
theorem ix_at {xs : List α} {i : Int} {x : α} (h0 : 0 ≤ i) (h : xs[i.toNat]? = some x) : ix xs i = .ok x := by unfold ix; rw [atI_of h0 h]; rfl
theorem ix_some {xs : List α} {i : Int} (h0 : 0 ≤ i) (h1 : i < xs.length) : ∃ x, xs[i.toNat]? = some x ∧ ix xs i = .ok x := by
  have hlt : i.toNat < xs.length := by omega
  exact ⟨xs[i.toNat], by simp [hlt], ix_at h0 (by simp [hlt])⟩
theorem ix_getD {xs : List α} {i : Int} (d : α) (h0 : 0 ≤ i) (h1 : i < xs.length) : ix xs i = .ok (xs.getD i.toNat d) := by
  obtain ⟨x, hx, e⟩ := ix_some h0 h1
  rw [e, List.getD_eq_getElem?_getD, hx]; rfl
theorem comp_filter {p : α → M Bool} (p' : α → Bool) {xs : List α} (h1 : ∀ x ∈ xs, p x = .ok (p' x)) : comp p (fun x => .ok x) xs = .ok (xs.filter p') := by
  rw [comp_of p' (fun x => x) xs h1 fun _ _ _ => rfl, List.map_id']
theorem comp_mapM {f : α → M β} (f' : α → β) {xs : List α} (h : ∀ x ∈ xs, f x = .ok (f' x)) : comp (fun _ => .ok true) f xs = .ok (xs.map f') := by
  rw [comp_of (fun _ => true) f' xs (fun _ _ => rfl) fun x hx _ => h x hx, List.filter_eq_self.mpr fun _ _ => rfl]
theorem tryK_exc {kn p : XC → Bool} {x : PX} {h : PX → M α} (h1 : kn x.cls = true) (h2 : p x.cls = true) : tryK kn p (.exc x) h = h x := by
  show (if kn x.cls = true then (if p x.cls = true then h x else .exc x) else .bad) = _
  rw [if_pos h1, if_pos h2]
@[simp] theorem tryK_ok {kn p : XC → Bool} {x : α} {h : PX → M α} : tryK kn p (.ok x) h = .ok x := rfl
/-- m ends well, with a value as R says -/
def sat (m : M α) (R : α → Prop) : Prop := ∃ r, m = .ok r ∧ R r
theorem sat_ok {x : α} {R : α → Prop} (h : R x) : sat (.ok x) R := ⟨x, rfl, h⟩
theorem sat_bind {m : M α} {f : α → M β} {R1 : α → Prop} {R : β → Prop} (h : sat m R1) (h2 : ∀ x, R1 x → sat (f x) R) : sat (m >>= f) R := by
  obtain ⟨x, rfl, hx⟩ := h
  exact h2 x hx
theorem sat_mono {m : M α} {R R' : α → Prop} (h : sat m R) (h2 : ∀ x, R x → R' x) : sat m R' := let ⟨x, e, hx⟩ := h; ⟨x, e, h2 x hx⟩
theorem sat_if {b : Bool} {m n : M α} {R : α → Prop} (h : b = true → sat m R) (h2 : b = false → sat n R) : sat (if b then m else n) R := by
  cases b with
  | true => exact h rfl
  | false => exact h2 rfl
theorem sat_fold {f : σ → α → M σ} {xs : List α} {s0 : σ} (P : Nat → σ → Prop) (h0 : P 0 s0) (hs : ∀ i x s, xs[i]? = some x → P i s → sat (f s x) (P (i + 1))) : sat (fold f s0 xs) (P xs.length) := fold_ok P h0 hs
theorem sat_push {xs : List α} {m : M α} {R : List α → Prop} (hl : xs.length ≤ 100000) (h : sat m fun y => R (xs ++ [y])) : sat (push xs m) R := by
  obtain ⟨y, rfl, hy⟩ := h
  exact ⟨_, push_ok (small1k hl), hy⟩
end M
theorem rngL_get {lo : Int} {n i : Nat} {x : Int} (h : (rngL lo n)[i]? = some x) : i < n ∧ x = lo + i := by
  rw [← rng_get] at h
  exact rng_some h
theorem mem_rngL {lo : Int} {n : Nat} {x : Int} : x ∈ rngL lo n ↔ lo ≤ x ∧ x < lo + n := by
  unfold rngL
  rw [List.mem_map]
  constructor
  · rintro ⟨i, hi, rfl⟩
    rw [List.mem_range] at hi
    omega
  · intro ⟨h1, h2⟩
    exact ⟨(x - lo).toNat, List.mem_range.mpr (by omega), by omega⟩
theorem rngL_succ (lo : Int) (n : Nat) : rngL lo (n + 1) = rngL lo n ++ [lo + n] := by
  unfold rngL
  rw [List.range_succ, List.map_append]; rfl
end G

/-! PL: what the shared helpers compute. -/
namespace PM
open PySem L2 G
def pick (d : List Int) (k m : Int) : Int := if m < 2 ∨ d = [] then 0 else d.getD (k % d.length).toNat 0 % m
theorem pick_eq (d : List Int) (k m : Int) : l_pick_m d k m = .ok (pick d k m) := by
  unfold l_pick_m pick
  by_cases h : m < 2 ∨ d = []
  · rw [if_pos h, if_pos]
    simp; exact h
  · rw [if_neg h, if_neg (by simp; exact ⟨by omega, fun z => h (.inr z)⟩)]
    have hd : d ≠ [] := fun z => h (.inr z)
    have hl : 0 < d.length := List.length_pos_iff.mpr hd
    have h1 : 0 ≤ k % (d.length : Int) := Int.emod_nonneg _ (by omega)
    have h2 : k % (d.length : Int) < d.length := Int.emod_lt_of_pos _ (by omega)
    rw [M.asrt_pos (by omega)]
    simp only [M.ok_bind]
    rw [M.ix_getD 0 h1 h2]
    simp only [M.ok_bind]
    rw [M.asrt_pos (by omega)]
theorem pick_range {d : List Int} {k m : Int} (h : 1 ≤ m) : 0 ≤ pick d k m ∧ pick d k m < m := by
  unfold pick
  split
  · omega
  · exact ⟨Int.emod_nonneg _ (by omega), Int.emod_lt_of_pos _ (by omega)⟩
/-- sides and ties that make a web -/
structure Good (sides : List Int) (ties : List T4I) : Prop where
  sd : ∀ s ∈ sides, 1 ≤ s ∧ s ≤ 4
  ti : ∀ x ∈ ties, 0 ≤ x.a ∧ x.a < sides.length ∧ 0 ≤ x.b ∧ x.b < sides.getD x.a.toNat 0 ∧ 0 ≤ x.c ∧ x.c < sides.length ∧ 0 ≤ x.d ∧ x.d < sides.getD x.c.toNat 0
theorem getD_mem {xs : List Int} {i : Int} (h0 : 0 ≤ i) (h1 : i < xs.length) : xs.getD i.toNat 0 ∈ xs := by
  have hlt : i.toNat < xs.length := by omega
  rw [List.getD_eq_getElem?_getD, List.getElem?_eq_getElem hlt]
  exact List.getElem_mem hlt
theorem web_sat (d : List Int) {p t : Int} (hp0 : 0 ≤ p) (hp1 : p ≤ 1000) (ht0 : 0 ≤ t) (ht1 : t ≤ 1000) : M.sat (l_web_m d p t) fun r => Good r.1 r.2 ∧ r.1.length ≤ p.toNat ∧ r.2.length ≤ t.toNat := by
  unfold l_web_m
  simp only [M.ok_bind, pick_eq]
  have hm := pick_range (d := d) (k := 0) (m := p + 1) (by omega)
  generalize pick d 0 (p + 1) = many at hm
  rw [M.range_ok hm.1 (by omega)]
  simp only [M.ok_bind]
  have menu : ∀ k : Int, ∃ x, M.ix ([2, 2, 3, 2, 1, 4] : List Int) (pick d k 6) = .ok x ∧ 1 ≤ x ∧ x ≤ 4 := fun k => by
    have hr := pick_range (d := d) (k := k) (m := 6) (by omega)
    generalize pick d k 6 = j at hr
    obtain ⟨x, hx, e⟩ := M.ix_some (xs := ([2, 2, 3, 2, 1, 4] : List Int)) hr.1 (by simpa using hr.2)
    refine ⟨x, e, ?_⟩
    have hmem := List.mem_of_getElem? hx
    simp at hmem
    omega
  have comp : ∃ sides : List Int, M.comp (fun _ => (M.ok true)) (fun x3 => M.ix ([2, 2, 3, 2, 1, 4] : List Int) (pick d (2 + x3) 6)) (rngL 0 many.toNat) = .ok sides ∧ sides.length = many.toNat ∧ ∀ s ∈ sides, 1 ≤ s ∧ s ≤ 4 := by
    refine ⟨_, M.comp_of (fun _ => true) (fun x3 => (menu (2 + x3)).choose) _ (fun _ _ => rfl) (fun x _ _ => (menu (2 + x)).choose_spec.1), ?_, ?_⟩
    · rw [List.length_map, List.filter_eq_self.mpr fun _ _ => rfl, rngL_len]
    · intro s hs
      rw [List.mem_map] at hs
      obtain ⟨x, _, rfl⟩ := hs
      exact (menu (2 + x)).choose_spec.2
  obtain ⟨sides, es, hl, hsd⟩ := comp
  rw [es]
  simp only [M.ok_bind]
  have hk := pick_range (d := d) (k := 1) (m := t + 1) (by omega)
  generalize pick d 1 (t + 1) = kk at hk
  rw [M.range_ok hk.1 (by omega)]
  simp only [M.ok_bind]
  have hlen : (sides.length : Int) = many := by omega
  refine M.sat_bind (M.sat_fold (fun i (s : List T4I) => Good sides s ∧ s.length ≤ i) ⟨⟨hsd, fun x hx => (nomatch hx)⟩, Nat.le_refl 0⟩ fun i x s hx ⟨hs, hsl⟩ => ?_) fun s ⟨h1, h2⟩ => M.sat_ok ⟨h1, by show sides.length ≤ _; omega, by rw [rngL_len] at h2; show s.length ≤ _; omega⟩
  have hi := (rngL_get hx).1
  refine M.sat_if (fun hb => ?_) fun _ => M.sat_ok ⟨hs, by omega⟩
  have h0 : 0 < many := by simpa using hb
  generalize ((2 : Int) + many) + ((4 : Int) * x) = at_
  have r1 := pick_range (d := d) (k := at_) (m := many) (by omega)
  have r2 := pick_range (d := d) (k := at_ + 2) (m := many) (by omega)
  generalize pick d at_ many = one at r1
  generalize pick d (at_ + 2) many = other at r2
  rw [M.ix_getD 0 r1.1 (by omega), M.ix_getD 0 r2.1 (by omega)]
  simp only [M.ok_bind]
  have g1 := hsd _ (getD_mem (xs := sides) r1.1 (by omega))
  have g2 := hsd _ (getD_mem (xs := sides) r2.1 (by omega))
  have r3 := pick_range (d := d) (k := at_ + 1) (m := sides.getD one.toNat 0) (by omega)
  have r4 := pick_range (d := d) (k := at_ + 3) (m := sides.getD other.toNat 0) (by omega)
  rw [M.push_small (by omega)]
  refine ⟨_, rfl, ⟨hsd, fun y hy => ?_⟩, by simp; omega⟩
  rcases List.mem_append.mp hy with hy | hy
  · exact hs.ti y hy
  · rw [List.mem_singleton] at hy
    subst hy
    exact ⟨r1.1, by show one < (sides.length : Int); omega, r3.1, r3.2, r2.1, by show other < (sides.length : Int); omega, r4.1, r4.2⟩
theorem check_ok {sides : List Int} {p s : Int} (h1 : 0 ≤ p) (h2 : p < sides.length) (h3 : 0 ≤ s) (h4 : s < sides.getD p.toNat 0) : p_check_end_m sides p s = .ok () := by
  unfold p_check_end_m
  rw [if_neg (by simp; omega), if_neg (by simp; omega), M.ix_getD 0 h1 h2]
  simp only [M.ok_bind]
  rw [if_neg (by simp only [decide_eq_true_eq]; omega)]
theorem init_ok {sides : List Int} {ties : List T4I} (h : Good sides ties) (hs : sides.length ≤ 200) (ht : ties.length ≤ 300) : m_WebX_initX_m sides ties = .ok ⟨⟨sides⟩, ⟨ties⟩⟩ := by
  unfold m_WebX_initX_m
  rw [if_neg (by simp; omega), if_neg (by simp; omega)]
  simp only [M.ok_bind]
  rw [M.fold_unit fun x hx => ?_]
  simp only [M.ok_bind]
  rw [M.fold_unit fun x hx => ?_]
  simp only [M.ok_bind]
  · rw [M.comp_map]
    simp only [M.ok_bind]
    have : (ties.map fun x8 : T4I => (⟨x8.a, x8.b, x8.c, x8.d⟩ : T4I)) = ties := by
      refine (List.map_congr_left fun x _ => ?_).trans (List.map_id ties)
      cases x; rfl
    rw [this]
  · obtain ⟨a, b, c, d, e, f, g, i⟩ := h.ti x hx
    rw [check_ok a b c d, check_ok e f g i]; rfl
  · unfold M.enumL at hx
    rw [List.mem_map] at hx
    obtain ⟨p, hp, rfl⟩ := hx
    have hm : p.1 ∈ sides := by
      have := List.mem_zipIdx hp
      rw [this.2.2]
      exact List.getElem_mem _
    have := h.sd _ hm
    rw [if_neg (by simp; omega)]
/-! steps -/
def tl (ties : List T4I) (s : Int × Int) : Int × Int := let x := ties.getD s.1.toNat ⟨0, 0, 0, 0⟩; if s.2 = 0 then (x.a, x.b) else (x.c, x.d)
def bk (s : Int × Int) : Int × Int := (s.1, 1 - s.2)
/-- the step walks a tie -/
def IsStep (ties : List T4I) (s : Int × Int) : Prop := 0 ≤ s.1 ∧ s.1 < ties.length ∧ (s.2 = 0 ∨ s.2 = 1)
theorem IsStep.bk {ties : List T4I} {s : Int × Int} (h : IsStep ties s) : IsStep ties (bk s) := ⟨h.1, h.2.1, by rcases h.2.2 with e | e <;> simp [PM.bk, e]⟩
theorem has_eq (w : WebM) (p : Int) : m_WebX_containsX_m w p = .ok (decide (0 ≤ p) && decide (p < w.a.l.length)) := rfl
end PM

/-! PG: loops with an invariant; what grouped computes; paired webs. -/
namespace G
open PySem L2
namespace M
variable {α β γ σ ρ : Type}
theorem sat_val {m : M α} {x : α} (h : sat m (· = x)) : m = .ok x := by obtain ⟨y, e, rfl⟩ := h; exact e
end M
end G
namespace PM
open PySem L2 G
end PM
namespace G
open PySem L2
namespace M
variable {α β γ σ ρ : Type}
end M
end G
namespace PM
open PySem L2 G
structure GoodP (many : Int) (free : List (Int × Int)) : Prop where
  n0 : 0 ≤ many
  fr : ∀ x ∈ free, 0 ≤ x.1 ∧ x.1 < 2 * many ∧ 0 ≤ x.2 ∧ x.2 < 2 * many
theorem paired_ok {many : Int} {free : List (Int × Int)} (g : GoodP many free) (h1 : many ≤ 100) (hl : free.length ≤ 200) : m_PairedWebX_initX_m many free = .ok ⟨many, ⟨free⟩⟩ := by
  unfold m_PairedWebX_initX_m
  rw [if_neg (by simp; omega), if_neg (by simp; omega)]
  simp only [M.ok_bind]
  rw [M.fold_unit fun x hx => ?_]
  · simp only [M.ok_bind]
    rw [M.comp_map]
    simp only [M.ok_bind]
    have : (free.map fun x9 : Int × Int => (x9.1, x9.2)) = free := List.map_id free
    rw [this]
  · obtain ⟨a, b, c, d⟩ := g.fr x hx
    simp only [M.fold]
    rw [if_neg (by simp; omega), M.ok_bind, if_neg (by simp; omega)]
    rfl
def pairTies (n : Nat) : List (Int × Int) := (rngL 0 n).map fun k => (2 * k, 2 * k + 1)
theorem all_ties_eq {n : Nat} {free : List (Int × Int)} (hn : n ≤ 1000) (hl : free.length ≤ 1000) : m_PairedWeb_all_ties_m ⟨(n : Int), ⟨free⟩⟩ = .ok ⟨pairTies n ++ free⟩ := by
  unfold m_PairedWeb_all_ties_m
  rw [M.rangeN (by omega)]
  simp only [M.ok_bind]
  rw [M.comp_map]
  simp only [M.ok_bind]
  unfold M.catT
  rw [M.asrt_pos ?_]
  · rfl
  · simp only [List.length_map, rngL_len]
    exact Nat.le_of_lt (small1k (by omega))
end PM
namespace PM
open PySem L2 G
theorem setIx_ok {α : Type} {xs : List α} {i : Int} {j : Nat} {y : α} (hi : i = j) (hj : j < xs.length) : M.setIx xs (.ok i) (.ok y) = .ok (xs.set j y) := by
  unfold M.setIx
  simp only [M.ok_bind]
  have : ixN xs.length i = some j := by
    subst hi
    unfold ixN
    rw [if_pos (by omega), if_pos (by omega)]
    simp
  rw [this]
theorem draws_len (c : Int) {m : Int} (h0 : 0 ≤ m) (h1 : m ≤ 1000) : ∃ ds, l_draws_m c m = .ok ds ∧ ds.length ≤ 1000 := by
  suffices M.sat (l_draws_m c m) fun ds => ds.length ≤ 1000 from this
  unfold l_draws_m
  simp only [M.ok_bind]
  rw [M.range_ok h0 (by omega)]
  simp only [M.ok_bind]
  refine M.sat_bind (M.sat_fold (fun i s => s.2.2.length ≤ i) (Nat.le_refl 0) fun i x s hx hs => ?_) fun s hs => M.sat_ok (by rw [rngL_len] at hs; omega)
  have hi := (rngL_get hx).1
  refine M.sat_if (fun _ => ?_) fun _ => ?_
  · exact M.sat_bind (M.sat_push (R := fun y => y.length ≤ i + 1) (by omega) (M.sat_ok (by simp; omega))) fun y hy => M.sat_ok hy
  · exact M.sat_bind (M.sat_push (R := fun y => y.length ≤ i + 1) (by omega) (M.sat_ok (by simp; omega))) fun y hy => M.sat_ok hy
end PM

/-! PW: wirings: what the shared makers make, and that Wiring takes it. -/
namespace PM
open PySem L2 G
theorem rngL_nodup (lo : Int) (n : Nat) : (rngL lo n).Nodup := by
  unfold rngL
  exact List.pairwise_map.mpr (List.Pairwise.imp (fun h z => h (by omega)) List.nodup_range)
/-- the leaves of links, in their order -/
def flat (L : List (Int × Int)) : List Int := L.flatMap fun x => [x.1, x.2]
def parts (N : List (T3 Str Int Int)) : List Int := N.flatMap fun x => [x.b, x.c]
theorem flat_app (a b : List (Int × Int)) : flat (a ++ b) = flat a ++ flat b := List.flatMap_append
structure GoodL (L : List (Int × Int)) : Prop where
  pos : 0 < L.length
  most : L.length ≤ 40
  pm : (flat L).Perm (rngL 0 (2 * L.length))
theorem flat_split {L : List (Int × Int)} {i : Nat} {x : Int × Int} (h : L[i]? = some x) : flat L = flat (L.take i) ++ (x.1 :: x.2 :: flat (L.drop (i + 1))) := by
  obtain ⟨hl, e⟩ := List.getElem?_eq_some_iff.mp h
  have : L = L.take i ++ ([x] ++ L.drop (i + 1)) := by
    conv => lhs; rw [← List.take_append_drop i L]
    rw [List.drop_eq_getElem_cons hl, e]; rfl
  conv => lhs; rw [this]
  rw [flat_app, flat_app]; rfl
theorem GoodL.mem {L : List (Int × Int)} (g : GoodL L) {i : Nat} {x : Int × Int} (h : L[i]? = some x) : (0 ≤ x.1 ∧ x.1 < 2 * L.length) ∧ (0 ≤ x.2 ∧ x.2 < 2 * L.length) := by
  have m1 : x.1 ∈ flat L := by rw [flat_split h]; simp
  have m2 : x.2 ∈ flat L := by rw [flat_split h]; simp
  have q1 := mem_rngL.mp (g.pm.mem_iff.mp m1)
  have q2 := mem_rngL.mp (g.pm.mem_iff.mp m2)
  omega
theorem GoodL.nd {L : List (Int × Int)} (g : GoodL L) : (flat L).Nodup := (List.Perm.nodup_iff g.pm).mpr (rngL_nodup _ _)
end PM

/-! PS: _law_same of a thing and itself. -/
namespace PM
open PySem L2 G
/-- plain data of this depth, no list or tuple long -/
inductive OkU : Nat → PyData → Prop
  | none {n : Nat} : OkU (n + 1) .none
  | bool {n : Nat} (b : Bool) : OkU (n + 1) (.bool b)
  | int {n : Nat} (i : Int) : OkU (n + 1) (.int i)
  | str {n : Nat} (s : Str) : OkU (n + 1) (.str s)
  | list {n : Nat} {ds : List PyData} (hl : ds.length ≤ 100000) (h : ∀ d ∈ ds, OkU n d) : OkU (n + 1) (.list ds)
  | tuple {n : Nat} {ds : List PyData} (hl : ds.length ≤ 100000) (h : ∀ d ∈ ds, OkU n d) : OkU (n + 1) (.tuple ds)
theorem OkU.up {n : Nat} {e : PyData} (h : OkU n e) : OkU (n + 1) e := by
  induction h with
  | none => exact .none
  | bool b => exact .bool b
  | int i => exact .int i
  | str s => exact .str s
  | list hl _ ih => exact .list hl ih
  | tuple hl _ ih => exact .tuple hl ih
theorem same_items {ds : List PyData} {rec_ : PyData → PyData → M Bool} (hl : ds.length ≤ 100000) (h : ∀ d ∈ ds, rec_ d d = .ok true) :
    (M.range (ds.length : Int) >>= fun l17 => M.foldC (fun (_ : Unit) x8 => ((M.ix ds x8 >>= fun t11 => M.ix ds x8 >>= fun t12 => rec_ t11 t12) >>= fun t13 => M.ok (!t13)) >>= fun b14 => if b14 then (M.ok false >>= fun r => .ok (.rt r)) else M.ok (.nx ())) () l17 >>= fun c16 => Ct.go c16 M.ok fun (_ : Unit) => M.ok true) = .ok true := by
  rw [M.rangeN hl, M.ok_bind, M.foldC_unit _ fun z hz => ?_]
  · rfl
  · obtain ⟨h0, h1⟩ := mem_rngL.mp hz
    obtain ⟨d, hd, e⟩ := M.ix_some (xs := ds) (i := z) h0 (by omega)
    rw [e]
    simp only [M.ok_bind]
    rw [h d (List.mem_of_getElem? hd)]
    rfl
theorem same_refl {n : Nat} {e : PyData} (h : OkU n e) : l_same_m n e e = .ok true := by
  induction h with
  | none => rfl
  | @bool n b =>
    show l_same_step _ _ _ = _
    unfold l_same_step
    simp only [isNoneU, isU, tyU, isTy]
    rw [M.asrt_pos (by simp [PyData.depth])]
    simp [PyData.eqv]
  | @int n i =>
    show l_same_step _ _ _ = _
    unfold l_same_step
    simp only [isNoneU, isU, tyU, isTy]
    rw [M.asrt_pos (by simp [PyData.depth])]
    simp [PyData.eqv]
  | @str n s =>
    show l_same_step _ _ _ = _
    unfold l_same_step
    simp only [isNoneU, isU, tyU, isTy]
    rw [M.asrt_pos (by simp [PyData.depth])]
    simp [PyData.eqv]
  | @list n ds hl _ ih =>
    show l_same_step (l_same_m n) _ _ = _
    have := same_items hl ih
    unfold l_same_step
    simp only [isNoneU, isU, tyU, isTy, itemsU]
    simpa using this
  | @tuple n ds hl _ ih =>
    show l_same_step (l_same_m n) _ _ = _
    have := same_items hl ih
    unfold l_same_step
    simp only [isNoneU, isU, tyU, isTy, itemsU]
    simpa using this
end PM

namespace K41
open PySem L2 G PM
/-- the exceptions that may come up -/
def kn : XC → Bool := fun c => decide (c ∈ ([.BadSides, .TooLarge, .UnknownPlace, .UnknownPoint, .UnknownSide, .UnknownTie] : List XC))
/-- _law_crowd -/
noncomputable def l_crowd_m (draws_here : (List Int)) (extra : (List Int)) : M ((List Int) × (List (T4 Int Int Int Int))) :=
  (((l_pick_m draws_here (0 : Int) (22 : Int)) >>= fun t1 => (M.range t1)) >>= M.comp (fun _ => (M.ok true)) (fun x2 => ((l_pick_m draws_here ((1 : Int) + x2) (2 : Int)) >>= fun t3 => (M.ok ((3 : Int) + t3))))) >>= fun large_here_4 =>
  (((l_pick_m extra (1 : Int) (5 : Int)) >>= fun t5 => (M.ok ((98 : Int) + t5))) >>= fun t8 => (((M.comp (fun _ => (M.ok true)) (fun x6 => (M.ok (x6 + (1 : Int)))) large_here_4) >>= fun t7 => (M.ok t7.sum)) >>= fun t9 => (M.ok (t8 - t9)))) >>= fun lacking_10 =>
  ((M.range (if lacking_10 > (0 : Int) then lacking_10 else (0 : Int))) >>= M.comp (fun _ => (M.ok true)) (fun x11 => (((((M.asrt (CMul x11 x11) (.ok (x11 * x11))) >>= fun t14 => (M.ok (t14 % (7 : Int)))) >>= fun t15 => (M.ok ((2 : Int) + t15))) >>= fun t16 => (l_pick_m extra t16 (2 : Int))) >>= fun t17 => (M.ok ((1 : Int) + t17))))) >>= fun small_18 =>
  (M.cat small_18 large_here_4) >>= fun sides_19 =>
  (((l_pick_m extra (9 : Int) (2 : Int)) >>= fun t20 => (M.ok (decide (t20 = (1 : Int))))) >>= fun b51 => if b51 then
  (M.cat large_here_4 small_18) >>= fun sides_21 =>
    M.ok sides_21
else
  M.ok sides_19) >>= (fun s22 : (List Int) =>
  (M.ok ([] : (List (T4 Int Int Int Int)))) >>= fun ties_23 =>
  (((((l_pick_m extra (10 : Int) (5 : Int)) >>= fun t25 => (M.ok ((198 : Int) + t25))) >>= fun t28 => (((M.comp (fun _ => (M.ok true)) (fun x26 => (M.ok ((2 : Int) * x26))) large_here_4) >>= fun t27 => (M.ok t27.sum)) >>= fun t29 => (M.ok (t28 - t29)))) >>= fun t30 => (M.ok (if t30 > (0 : Int) then t30 else (0 : Int)))) >>= fun t31 => (M.range t31)) >>= fun l50 =>
  M.fold (fun (s24 : (List (T4 Int Int Int Int))) x32 =>
    (((l_pick_m extra (11 : Int) (60 : Int)) >>= fun t33 => (M.ok (((7 : Int) * x32) + t33))) >>= fun t34 => (M.asrt (0 < (s22.length : Int)) (.ok (t34 % (s22.length : Int))))) >>= fun one_35 =>
      (((M.asrt (CMul x32 x32) (.ok (x32 * x32))) >>= fun t36 => ((l_pick_m extra (12 : Int) (60 : Int)) >>= fun t37 => (M.ok (t36 + t37)))) >>= fun t38 => (M.asrt (0 < (s22.length : Int)) (.ok (t38 % (s22.length : Int))))) >>= fun other_39 =>
      (((l_pick_m extra (13 : Int) (60 : Int)) >>= fun t40 => (M.ok (x32 + t40))) >>= fun t41 => ((M.ix s22 one_35) >>= fun t42 => (M.asrt (0 < t42) (.ok (t41 % t42))))) >>= fun side_43 =>
      M.push s24 ((((l_pick_m extra (14 : Int) (60 : Int)) >>= fun t44 => (M.ok (((5 : Int) * x32) + t44))) >>= fun t45 => ((M.ix s22 other_39) >>= fun t46 => (M.asrt (0 < t46) (.ok (t45 % t46))))) >>= fun t47 => (M.ok ⟨one_35, side_43, other_39, t47⟩)) >>= fun ties_48 =>
      M.ok ties_48) ties_23 l50 >>= fun (s49 : (List (T4 Int Int Int Int))) =>
  M.ok (s22, s49))
/-- _law_world -/
noncomputable def l_world_m (draws_here : (List Int)) (extra : (List Int)) : M ((List Int) × (List (T4 Int Int Int Int))) :=
  ((l_pick_m extra (0 : Int) (4 : Int)) >>= fun t1 => (M.ok (decide (t1 = (3 : Int))))) >>= fun b21 => if b21 then
  (l_crowd_m draws_here extra)
else
  (((l_pick_m extra (57 : Int) (5 : Int)) >>= fun t4 => (M.ok ((2 : Int) + t4))) >>= fun t6 => (((l_pick_m extra (58 : Int) (7 : Int)) >>= fun t5 => (M.ok ((3 : Int) + t5))) >>= fun t7 => (l_rich_m draws_here extra t6 t7))) >>= fun draws_here_8 =>
    (l_web_m draws_here_8 (6 : Int) (9 : Int)) >>= fun t9 =>
    ((l_pick_m extra (1 : Int) (3 : Int)) >>= fun t11 => (M.range t11)) >>= fun l20 =>
    M.fold (fun (s10 : (List (T4 Int Int Int Int))) x12 =>
      if (decide ((0 : Int) < (s10.length : Int))) then
        (l_pick_m extra ((2 : Int) + ((4 : Int) * x12)) (t9.1.length : Int)) >>= fun place_13 =>
          ((M.ix t9.1 place_13) >>= fun t14 => (l_pick_m extra ((3 : Int) + ((4 : Int) * x12)) t14)) >>= fun side_15 =>
          ((M.ix t9.1 place_13) >>= fun t16 => (l_pick_m extra ((4 : Int) + ((4 : Int) * x12)) t16)) >>= fun far_17 =>
          M.setIx s10 (l_pick_m extra ((5 : Int) + ((4 : Int) * x12)) (s10.length : Int)) (M.ok ⟨place_13, side_15, place_13, far_17⟩) >>= fun ties_18 =>
          M.ok ties_18
      else
        M.ok s10) t9.2 l20 >>= fun (s19 : (List (T4 Int Int Int Int))) =>
    M.ok (t9.1, s19)
/-- _law_firsts -/
noncomputable def l_firsts_m (sides : (List Int)) : M ((List Int) × Int) :=
  (M.ok ([] : (List Int))) >>= fun firsts_here_1 =>
  (M.ok (0 : Int)) >>= fun many_2 =>
  (M.ok sides) >>= fun l9 =>
  M.fold (fun (s3 : ((List Int) × Int)) x4 =>
    M.push s3.1 (M.ok s3.2) >>= fun firsts_here_5 =>
      (M.ok (s3.2 + (1 : Int))) >>= fun many_6 =>
      if (decide ((2 : Int) < x4)) then
      (M.ok (many_6 + x4)) >>= fun many_7 =>
        M.ok (firsts_here_5, many_7)
    else
      M.ok (firsts_here_5, many_6)) (firsts_here_1, many_2) l9 >>= fun (s8 : ((List Int) × Int)) =>
  M.ok (s8.1, s8.2)
/-- check_place -/
noncomputable def p_check_place_m (web : WebM) (place : Int) : M Unit :=
  (M.calm (m_WebX_containsX_m web place) >>= fun b1 => .ok (!b1)) >>= fun b2 => if b2 then
  M.raise1 .UnknownPlace "place" (M.ok place)
else
  M.ok ()
/-- first_pairs -/
noncomputable def p_first_pairs_m (web : WebM) : M (List Int) :=
  (M.ok [(0 : Int)]) >>= fun firsts_1 =>
  (M.ok web.a.l) >>= fun l8 =>
  M.fold (fun (s2 : (List Int)) x3 =>
    M.push s2 ((M.ix s2 (-(1 : Int))) >>= fun t4 => ((if (decide (x3 < (3 : Int))) then (M.ok (1 : Int)) else (M.ok (x3 + (1 : Int)))) >>= fun t5 => (M.ok (t4 + t5)))) >>= fun firsts_6 =>
      M.ok firsts_6) firsts_1 l8 >>= fun (s7 : (List Int)) =>
  M.ok s7
/-- seat -/
noncomputable def p_seat_m (web : WebM) (first : Int) (place : Int) (side : Int) : M Int :=
  ((M.ix web.a.l place) >>= fun t1 => (M.ok (decide (t1 < (3 : Int))))) >>= fun b2 => if b2 then
  (M.ok (((2 : Int) * first) + side))
else
  (M.ok ((2 : Int) * (first + side)))
/-- inner_ties -/
noncomputable def p_inner_ties_m (first : Int) (many : Int) : M (List (Int × Int)) :=
  (M.ok ((2 : Int) * (first + many))) >>= fun middle_1 =>
  ((M.range many) >>= M.lc2 (fun _ => (M.ok true)) (fun x2 => (M.ok [middle_1, (middle_1 + (1 : Int))])) (fun x2 x3 => (M.ok true)) (fun x2 x3 => (M.ok ((((2 : Int) * (first + x2)) + (1 : Int)), x3))))
/-- paired_of_web -/
noncomputable def p_paired_of_web_m (web : WebM) : M PairedWebM :=
  (p_first_pairs_m web) >>= fun firsts_1 =>
  (M.ok ([] : (List (Int × Int)))) >>= fun free_2 =>
  (M.ok web.b.l) >>= fun l19 =>
  M.fold (fun (s3 : (List (Int × Int))) x4 =>
    M.push s3 (((M.ix firsts_1 x4.a) >>= fun t5 => (p_seat_m web t5 x4.a x4.b)) >>= fun t7 => (((M.ix firsts_1 x4.c) >>= fun t6 => (p_seat_m web t6 x4.c x4.d)) >>= fun t8 => (M.ok (t7, t8)))) >>= fun free_9 =>
      M.ok free_9) free_2 l19 >>= fun (s10 : (List (Int × Int))) =>
  (M.ok (M.enumL web.a.l)) >>= fun l18 =>
  M.fold (fun (s11 : (List (Int × Int))) x12 =>
    if (decide ((2 : Int) < x12.2)) then
      M.ext s11 ((M.ix firsts_1 x12.1) >>= fun t13 => (p_inner_ties_m t13 x12.2)) >>= fun free_14 =>
        M.ok free_14
    else
      M.ok s11) s10 l18 >>= fun (s15 : (List (Int × Int))) =>
  ((M.ix firsts_1 (-(1 : Int))) >>= fun t17 => (m_PairedWebX_initX_m t17 s15))
/-- pair_at -/
noncomputable def p_pair_at_m (web : WebM) (place : Int) : M Int :=
  (M.calm (m_WebX_containsX_m web place) >>= fun b1 => .ok (!b1)) >>= fun b7 => if b7 then
  M.raise1 .UnknownPlace "place" (M.ok place)
else
  ((p_first_pairs_m web) >>= fun t2 => (M.ix t2 place)) >>= fun first_3 =>
    ((M.ix web.a.l place) >>= fun t4 => (M.ok (decide (t4 < (3 : Int))))) >>= fun b6 => if b6 then
    (M.ok first_3)
  else
    ((M.ix web.a.l place) >>= fun t5 => (M.ok (first_3 + t5)))
/-- place_graph -/
noncomputable def p_place_graph_m (web : WebM) (place : Int) : M ((List Int) × (List (Int × Int))) :=
  (p_check_place_m web place) >>= fun _ =>
  (p_paired_of_web_m web) >>= fun paired_1 =>
  (p_pair_at_m web place) >>= fun pair_2 =>
  (((M.calm (m_PairedWeb_points_m paired_1)) >>= fun t3 => (M.rangeL 0 t3)) >>= fun t6 => ((((M.calm (m_PairedWeb_all_ties_m paired_1)) >>= fun t4 => (M.ok (M.enumL t4.l))) >>= M.comp (fun x5 => (M.ok (!decide (x5.1 = pair_2)))) (fun x5 => (M.ok x5.2))) >>= fun t7 => (M.ok (t6, t7))))
/-- check_tie -/
noncomputable def p_check_tie_m (web : WebM) (tie : Int) : M Unit :=
  if ((decide (tie < (0 : Int))) || (decide ((web.b.l.length : Int) ≤ tie))) then
  M.raise1 .UnknownTie "tie" (M.ok tie)
else
  M.ok ()
/-- tie_graph -/
noncomputable def p_tie_graph_m (web : WebM) (tie : Int) : M ((List Int) × (List (Int × Int))) :=
  (p_check_tie_m web tie) >>= fun _ =>
  (p_paired_of_web_m web) >>= fun paired_1 =>
  ((((M.calm (m_PairedWeb_points_m paired_1)) >>= fun t2 => (M.range t2)) >>= M.comp (fun x3 => ((M.ix paired_1.b.l tie) >>= fun t4 => (M.ok (!memB x3 [t4.1, t4.2])))) (fun x3 => (M.ok x3))) >>= fun t6 => (((M.calm (m_PairedWeb_all_ties_m paired_1)) >>= fun t5 => (M.ok t5.l)) >>= fun t7 => (M.ok (t6, t7))))
/-- cycle_through_place -/
noncomputable def p_cycle_through_place_m (web : WebM) (place : Int) : M Unit :=
  (p_check_place_m web place) >>= fun _ =>
  (p_paired_of_web_m web) >>= fun paired_1 =>
  M.bad
/-- tie_answer -/
noncomputable def p_tie_answer_m (web : WebM) (paired : PairedWebM) (tie : Int) : M Unit :=
  (M.ix paired.b.l tie) >>= fun t1 =>
  M.bad
/-- cycle_through_tie -/
noncomputable def p_cycle_through_tie_m (web : WebM) (tie : Int) : M Unit :=
  (p_check_tie_m web tie) >>= fun _ =>
  ((p_paired_of_web_m web) >>= fun t1 => (p_tie_answer_m web t1 tie))
/-- on_cycles -/
noncomputable def p_on_cycles_m (web : WebM) : M Unit :=
  (p_paired_of_web_m web) >>= fun paired_1 =>
  M.bad
/-- _law_told -/
noncomputable def l_told_m (deed : Int) (web_here : WebM) (number : Int) : M PyData :=
  M.tryK kn (fun c => XC.isA c .ComesapartError) (if (decide (deed = (0 : Int))) then
  (((p_place_graph_m web_here number) >>= fun t1 => (M.ok (PyData.tuple [PyData.list (t1.1.map UD.toU), PyData.list (t1.2.map UD.toU)]))) >>= fun t2 => (M.ok (PyData.tuple [(UD.toU ("graph" : PySem.Str)), t2])))
else
  if (decide (deed = (1 : Int))) then
    (((p_tie_graph_m web_here number) >>= fun t3 => (M.ok (PyData.tuple [PyData.list (t3.1.map UD.toU), PyData.list (t3.2.map UD.toU)]))) >>= fun t4 => (M.ok (PyData.tuple [(UD.toU ("graph" : PySem.Str)), t4])))
  else
    if (decide (deed = (2 : Int))) then
      (((p_cycle_through_place_m web_here number) >>= fun t5 => (M.ok (UD.toU t5))) >>= fun t6 => (M.ok (PyData.tuple [(UD.toU ("answer" : PySem.Str)), t6])))
    else
      if (decide (deed = (3 : Int))) then
        (((p_cycle_through_tie_m web_here number) >>= fun t7 => (M.ok (UD.toU t7))) >>= fun t8 => (M.ok (PyData.tuple [(UD.toU ("answer" : PySem.Str)), t8])))
      else
        (((p_on_cycles_m web_here) >>= fun t9 => (M.ok (UD.toU t9))) >>= fun t10 => (M.ok (PyData.tuple [(UD.toU ("answer" : PySem.Str)), t10]))))
  fun px11 => (M.ok [(XC.isA px11.cls .TooLarge), (XC.isA px11.cls .UnknownPlace), (XC.isA px11.cls .UnknownTie)]) >>= fun classes_12 =>
    if ((!true) || (!decide ((classes_12.count true : Int) = (1 : Int)))) then
    (M.ok (UD.toU (⟨[("other" : PySem.Str)]⟩ : Tup PySem.Str)))
  else
    (M.ix classes_12 (0 : Int)) >>= fun b20 => if b20 then
      (((px11.fld .TooLarge "limit") >>= fun t13 => (M.ok (UD.toU t13))) >>= fun t14 => (M.ok (PyData.tuple [(UD.toU ("large" : PySem.Str)), t14])))
    else
      (M.ix classes_12 (1 : Int)) >>= fun b19 => if b19 then
        (((px11.fld .UnknownPlace "place") >>= fun t15 => (M.ok (UD.toU t15))) >>= fun t16 => (M.ok (PyData.tuple [(UD.toU ("place" : PySem.Str)), t16])))
      else
        (((px11.fld .UnknownTie "tie") >>= fun t17 => (M.ok (UD.toU t17))) >>= fun t18 => (M.ok (PyData.tuple [(UD.toU ("tie" : PySem.Str)), t18])))
/-- _law_refused -/
noncomputable def l_refused_m (web_here : WebM) (sides : (List Int)) (ties : (List (T4 Int Int Int Int))) (draws_here : (List Int)) (at_ : Int) : M Bool :=
  (M.range (3 : Int)) >>= fun l33 =>
  M.foldC (fun (_ : Unit) x2 =>
    ((l_pick_m draws_here (at_ + x2) (3 : Int)) >>= fun t3 => (M.ix [(-(1 : Int)), (-(3 : Int)), ((1000000000000000000000000000000 : Int) + x2)] t3)) >>= fun number_4 =>
      (M.ok [number_4, (sides.length : Int)]) >>= fun l30 =>
      M.foldC (fun (_ : Unit) x6 =>
        (M.ok [(0 : Int), (2 : Int)]) >>= fun l14 =>
          M.foldC (fun (_ : Unit) x8 =>
            (((l_told_m x8 web_here x6) >>= fun t9 => (l_same_m 9 t9 (UD.toU (("place" : PySem.Str), x6)))) >>= fun t10 => (M.ok (!t10))) >>= fun b11 => if b11 then
              (M.ok false) >>= fun r => .ok (.rt r)
            else
              M.ok (.nx ())) () l14 >>= fun c13 => Ct.go c13 (fun r => M.ok (.rt r)) fun (_ : Unit) =>
          M.ok (.nx ())) () l30 >>= fun c29 => Ct.go c29 (fun r => M.ok (.rt r)) fun (_ : Unit) =>
      (M.ok [number_4, (ties.length : Int)]) >>= fun l28 =>
      M.foldC (fun (_ : Unit) x17 =>
        (M.ok [(1 : Int), (3 : Int)]) >>= fun l25 =>
          M.foldC (fun (_ : Unit) x19 =>
            (((l_told_m x19 web_here x17) >>= fun t20 => (l_same_m 9 t20 (UD.toU (("tie" : PySem.Str), x17)))) >>= fun t21 => (M.ok (!t21))) >>= fun b22 => if b22 then
              (M.ok false) >>= fun r => .ok (.rt r)
            else
              M.ok (.nx ())) () l25 >>= fun c24 => Ct.go c24 (fun r => M.ok (.rt r)) fun (_ : Unit) =>
          M.ok (.nx ())) () l28 >>= fun c27 => Ct.go c27 (fun r => M.ok (.rt r)) fun (_ : Unit) =>
      M.ok (.nx ())) () l33 >>= fun c32 => Ct.go c32 M.ok fun (_ : Unit) =>
  (M.ok true)
/-- _law_large -/
noncomputable def l_large_m (web_here : WebM) (sides : (List Int)) (ties : (List (T4 Int Int Int Int))) (limit : Int) : M Bool :=
  (((l_told_m (4 : Int) web_here (0 : Int)) >>= fun t1 => (l_same_m 9 t1 (UD.toU (("large" : PySem.Str), limit)))) >>= fun t2 => (M.ok (!t2))) >>= fun b14 => if b14 then
  (M.ok false)
else
  (M.range (4 : Int)) >>= fun l13 =>
    M.foldC (fun (_ : Unit) x4 =>
      (M.ok ((sides.length : Int) - (1 : Int))) >>= fun number_5 =>
        (if ((decide (x4 = (1 : Int))) || (decide (x4 = (3 : Int)))) then
        (M.ok ((ties.length : Int) - (1 : Int))) >>= fun number_6 =>
          M.ok number_6
      else
        M.ok number_5) >>= (fun s7 : Int =>
        (((l_told_m x4 web_here s7) >>= fun t8 => (l_same_m 9 t8 (UD.toU (("large" : PySem.Str), limit)))) >>= fun t9 => (M.ok (!t9))) >>= fun b10 => if b10 then
        (M.ok false) >>= fun r => .ok (.rt r)
      else
        M.ok (.nx ()))) () l13 >>= fun c12 => Ct.go c12 M.ok fun (_ : Unit) =>
    (M.ok true)
/-- _law_point -/
noncomputable def l_point_m (sides : (List Int)) (firsts_here : (List Int)) (place : Int) (side : Int) : M Int :=
  ((M.ix sides place) >>= fun t1 => (M.ok (decide ((2 : Int) < t1)))) >>= fun b6 => if b6 then
  (((M.ix firsts_here place) >>= fun t2 => (M.ok (t2 + side))) >>= fun t3 => (M.ok ((2 : Int) * t3)))
else
  (((M.ix firsts_here place) >>= fun t4 => (M.ok ((2 : Int) * t4))) >>= fun t5 => (M.ok (t5 + side)))
/-- _law_free -/
noncomputable def l_free_m (sides : (List Int)) (ties : (List (T4 Int Int Int Int))) : M (List (Int × Int)) :=
  ((l_firsts_m sides) >>= fun t1 => (M.ok t1.1)) >>= fun firsts_here_2 =>
  (M.ok ([] : (List (Int × Int)))) >>= fun free_here_3 =>
  (M.ok ties) >>= fun l29 =>
  M.fold (fun (s4 : (List (Int × Int))) x5 =>
    M.push s4 ((l_point_m sides firsts_here_2 x5.a x5.b) >>= fun t6 => ((l_point_m sides firsts_here_2 x5.c x5.d) >>= fun t7 => (M.ok (t6, t7)))) >>= fun free_here_8 =>
      M.ok free_here_8) free_here_3 l29 >>= fun (s9 : (List (Int × Int))) =>
  (M.range (sides.length : Int)) >>= fun l28 =>
  M.fold (fun (s10 : (List (Int × Int))) x11 =>
    ((M.ix sides x11) >>= fun t12 => (M.ok (decide ((2 : Int) < t12)))) >>= fun b26 => if b26 then
      (((M.ix firsts_here_2 x11) >>= fun t13 => ((M.ix sides x11) >>= fun t14 => (M.ok (t13 + t14)))) >>= fun t15 => (M.ok ((2 : Int) * t15))) >>= fun middle_16 =>
        ((M.ix sides x11) >>= fun t18 => (M.range t18)) >>= fun l25 =>
        M.fold (fun (s17 : (List (Int × Int))) x19 =>
          ((l_point_m sides firsts_here_2 x11 x19) >>= fun t20 => (M.ok (t20 + (1 : Int)))) >>= fun inner_21 =>
            M.push s17 (M.ok (inner_21, middle_16)) >>= fun free_here_22 =>
            M.push free_here_22 (M.ok (inner_21, (middle_16 + (1 : Int)))) >>= fun free_here_23 =>
            M.ok free_here_23) s10 l25 >>= fun (s24 : (List (Int × Int))) =>
        M.ok s24
    else
      M.ok s10) s9 l28 >>= fun (s27 : (List (Int × Int))) =>
  M.ok s27
/-- _law_due -/
noncomputable def l_due_m (deed : Int) (sides : (List Int)) (ties : (List (T4 Int Int Int Int))) (number : Int) : M (PySem.Str × ((List Int) × (List (Int × Int)))) :=
  (l_firsts_m sides) >>= fun t1 =>
  (l_free_m sides ties) >>= fun free_here_2 =>
  if (decide (deed = (1 : Int))) then
  ((M.range ((2 : Int) * t1.2)) >>= M.comp (fun x3 => ((M.ix free_here_2 number) >>= fun t4 => (M.ok (!memB x3 [t4.1, t4.2])))) (fun x3 => (M.ok x3))) >>= fun points_5 =>
    (((((M.range t1.2) >>= M.comp (fun _ => (M.ok true)) (fun x6 => (M.ok (((2 : Int) * x6), (((2 : Int) * x6) + (1 : Int)))))) >>= fun t7 => (M.cat t7 free_here_2)) >>= fun t8 => (M.ok (points_5, t8))) >>= fun t9 => (M.ok (("graph" : PySem.Str), t9)))
else
  (M.ix t1.1 number) >>= fun left_out_10 =>
    (((M.ix sides number) >>= fun t11 => (M.ok (decide ((2 : Int) < t11)))) >>= fun b20 => if b20 then
    ((M.ix sides number) >>= fun t12 => (M.ok (left_out_10 + t12))) >>= fun left_out_13 =>
      M.ok left_out_13
  else
    M.ok left_out_10) >>= (fun s14 : Int =>
    ((M.range t1.2) >>= M.comp (fun x15 => (M.ok (!decide (x15 = s14)))) (fun x15 => (M.ok (((2 : Int) * x15), (((2 : Int) * x15) + (1 : Int)))))) >>= fun pairs_16 =>
    (((M.rangeL 0 ((2 : Int) * t1.2)) >>= fun t17 => ((M.cat pairs_16 free_here_2) >>= fun t18 => (M.ok (t17, t18)))) >>= fun t19 => (M.ok (("graph" : PySem.Str), t19))))
/-- _law_graphs_right -/
noncomputable def l_graphs_right_m (web_here : WebM) (sides : (List Int)) (ties : (List (T4 Int Int Int Int))) : M Bool :=
  (M.range (2 : Int)) >>= fun l26 =>
  M.foldC (fun (_ : Unit) x2 =>
    (M.ix [(sides.length : Int), (ties.length : Int)] x2) >>= fun size_3 =>
      (M.ok size_3) >>= fun count_4 =>
      (if (decide ((10 : Int) < size_3)) then
      (M.ok (3 : Int)) >>= fun count_5 =>
        M.ok count_5
    else
      M.ok count_4) >>= (fun s6 : Int =>
      (M.range s6) >>= fun l23 =>
      M.foldC (fun (_ : Unit) x8 =>
        ((M.asrt (CMul (size_3 - (1 : Int)) x8) (.ok ((size_3 - (1 : Int)) * x8))) >>= fun t9 => (M.asrt (CDiv t9 (if (s6 - (1 : Int)) > (1 : Int) then (s6 - (1 : Int)) else (1 : Int))) (.ok (t9 / (if (s6 - (1 : Int)) > (1 : Int) then (s6 - (1 : Int)) else (1 : Int)))))) >>= fun number_10 =>
          (l_told_m x2 web_here number_10) >>= fun told_here_11 =>
          (l_due_m x2 sides ties number_10) >>= fun due_here_12 =>
          ((M.calm (l_same_m 9 told_here_11 (UD.toU due_here_12))) >>= fun t13 => (M.ok (!t13))) >>= fun b20 => if b20 then
          (M.ok false) >>= fun r => .ok (.rt r)
        else
          M.takeU2 told_here_11 (M.ok (1 : Int)) >>= fun p14 =>
            M.appUU p14.1 (M.ok (UD.toU (-(1 : Int)))) >>= fun points_15 =>
            M.appUU p14.2 (M.ok (PyData.tuple [(UD.toU (-(1 : Int))), (UD.toU (-(1 : Int)))])) >>= fun rest_16 =>
            (if (decide (x8 < (2 : Int))) then (((l_told_m x2 web_here number_10) >>= fun t17 => (l_same_m 9 t17 (UD.toU due_here_12))) >>= fun t18 => (M.ok (!t18))) else .ok false) >>= fun b19 => if b19 then
            (M.ok false) >>= fun r => .ok (.rt r)
          else
            M.ok (.nx ())) () l23 >>= fun c22 => Ct.go c22 (fun r => M.ok (.rt r)) fun (_ : Unit) =>
      M.ok (.nx ()))) () l26 >>= fun c25 => Ct.go c25 M.ok fun (_ : Unit) =>
  (M.ok true)
/-- law -/
noncomputable def law_m (script : (Sq Int)) : M Bool :=
  ((l_seed_m script (0 : Int)) >>= fun t1 => (l_draws_m t1 (60 : Int))) >>= fun draws_here_2 =>
  ((l_seed_m script (1 : Int)) >>= fun t3 => (l_draws_m t3 (60 : Int))) >>= fun extra_4 =>
  (l_world_m draws_here_2 extra_4) >>= fun t5 =>
  (m_WebX_initX_m t5.1 t5.2) >>= fun web_here_6 =>
  ((l_firsts_m t5.1) >>= fun t7 => (M.ok t7.2)) >>= fun many_8 =>
  ((l_refused_m web_here_6 t5.1 t5.2 extra_4 (20 : Int)) >>= fun t9 => (M.ok (!t9))) >>= fun b23 => if b23 then
  (M.ok false)
else
  if (decide ((100 : Int) < many_8)) then
    (l_large_m web_here_6 t5.1 t5.2 (100 : Int))
  else
    (((l_free_m t5.1 t5.2) >>= fun t10 => (M.ok (t10.length : Int))) >>= fun t11 => (M.ok (decide ((200 : Int) < t11)))) >>= fun b22 => if b22 then
      (l_large_m web_here_6 t5.1 t5.2 (200 : Int))
    else
      ((l_graphs_right_m web_here_6 t5.1 t5.2) >>= fun t12 => (M.ok (!t12))) >>= fun b21 => if b21 then
        (M.ok false)
      else
        (((l_seed_m script (2 : Int)) >>= fun t14 => (l_draws_m t14 (60 : Int))) >>= fun t15 => (l_web_m t15 (4 : Int) (6 : Int))) >>= fun t16 =>
          (m_WebX_initX_m t16.1 t16.2) >>= fun other_17 =>
          ((l_graphs_right_m other_17 t16.1 t16.2) >>= fun t18 => (M.ok (!t18))) >>= fun b20 => if b20 then
          (M.ok false)
        else
          ((l_graphs_right_m web_here_6 t5.1 t5.2) >>= fun b19 => (if b19 then (l_refused_m web_here_6 t5.1 t5.2 extra_4 (30 : Int)) else .ok false))
end K41

namespace K41
open PySem L2 G PM
theorem cut_len {α : Type} (xs : List α) (a b : Option Int) : (cutL xs a b).length ≤ xs.length := by
  unfold cutL
  rw [List.length_take, List.length_drop]
  omega
theorem cat_ok {α : Type} {xs ys : List α} (h : xs.length ≤ 5000) (h2 : ys.length ≤ 5000) : M.cat xs ys = .ok (xs ++ ys) := by
  unfold M.cat
  exact M.asrt_pos (Nat.le_of_lt (small1k (by omega)))
theorem seed_ok (s : Sq Int) {k : Int} (hk : 0 ≤ k) : ∃ x, l_seed_m s k = .ok x := by
  unfold l_seed_m
  by_cases h : k < s.l.length
  · rw [if_pos (by simpa using h)]
    obtain ⟨x, _, e⟩ := M.ix_some (xs := s.l) hk h
    exact ⟨x, e⟩
  · rw [if_neg (by simpa using h)]
    by_cases h2 : (s.l.length : Int) = 0
    · rw [if_pos (by simpa using h2)]
      exact ⟨_, rfl⟩
    · rw [if_neg (by simpa using h2)]
      obtain ⟨x, _, e⟩ := M.ix_some (xs := s.l) (i := 0) (by omega) (by omega)
      rw [e]
      simp only [M.ok_bind]
      rw [M.asrt_pos (by decide)]
      exact ⟨_, rfl⟩
theorem rich_ok (d more : List Int) (a b : Int) (hd : d.length ≤ 5000) : ∃ r, l_rich_m d more a b = .ok r := by
  unfold l_rich_m
  simp only [pick_eq, M.ok_bind]
  have := cut_len d (some 2) none
  rw [cat_ok (by simp) (by omega)]
  split
  · exact ⟨_, rfl⟩
  · exact ⟨_, rfl⟩
/-! making of pairs, plainly -/
def lim (n : Int) : PX := ⟨.TooLarge, some [("limit", .int n)]⟩
theorem init_bad1 {many : Int} {free : List (Int × Int)} (h : 100 < many) : m_PairedWebX_initX_m many free = .exc (lim 100) := by
  unfold m_PairedWebX_initX_m
  rw [if_pos (by simpa using h)]
  rfl
theorem init_bad2 {many : Int} {free : List (Int × Int)} (h : ¬ 100 < many) (h2 : 200 < (free.length : Int)) : m_PairedWebX_initX_m many free = .exc (lim 200) := by
  unfold m_PairedWebX_initX_m
  rw [if_neg (by simpa using h), if_pos (by simpa using h2)]
  rfl
/-! the pairs of places -/
def wt (m : Int) : Int := if m < 3 then 1 else m + 1
def pre : Int → List Int → List Int
  | _, [] => []
  | a, m :: r => a :: pre (a + wt m) r
def tot : Int → List Int → Int
  | a, [] => a
  | a, m :: r => tot (a + wt m) r
theorem pre_len : ∀ (a : Int) (xs : List Int), (pre a xs).length = xs.length
  | _, [] => rfl
  | a, m :: r => by show (pre _ r).length + 1 = r.length + 1; rw [pre_len]
theorem pre_snoc : ∀ (a : Int) (xs : List Int) (m : Int), pre a (xs ++ [m]) = pre a xs ++ [tot a xs]
  | _, [], _ => rfl
  | a, x :: r, m => by show a :: pre _ (r ++ [m]) = a :: (pre _ r ++ [tot _ r]); rw [pre_snoc]
theorem tot_snoc : ∀ (a : Int) (xs : List Int) (m : Int), tot a (xs ++ [m]) = tot a xs + wt m
  | _, [], _ => rfl
  | a, x :: r, m => tot_snoc _ r m
theorem tot_ge : ∀ (a : Int) (xs : List Int), (∀ s ∈ xs, 1 ≤ s) → a ≤ tot a xs
  | a, [], _ => Int.le_refl a
  | a, x :: r, h => by
    have := tot_ge (a + wt x) r fun s hs => h s (List.mem_cons_of_mem _ hs)
    have hx := h x List.mem_cons_self
    have : 0 ≤ wt x := by unfold wt; split <;> omega
    show a ≤ tot (a + wt x) r
    omega
/-- the first pair of a place -/
def fp (sides : List Int) (p : Nat) : Int := (pre 0 sides).getD p 0
def sd (sides : List Int) (p : Nat) : Int := sides.getD p 0
theorem fp_bound : ∀ (xs : List Int) (a : Int) (p : Nat), (∀ s ∈ xs, 1 ≤ s) → p < xs.length → a ≤ (pre a xs).getD p 0 ∧ (pre a xs).getD p 0 + wt (xs.getD p 0) ≤ tot a xs
  | [], _, p, _, h => absurd h (Nat.not_lt_zero _)
  | x :: r, a, 0, h, _ => by
    have h1 := tot_ge (a + wt x) r fun s hs => h s (List.mem_cons_of_mem _ hs)
    exact ⟨Int.le_refl a, h1⟩
  | x :: r, a, p + 1, h, hp => by
    have h1 := fp_bound r (a + wt x) p (fun s hs => h s (List.mem_cons_of_mem _ hs)) (Nat.lt_of_succ_lt_succ hp)
    have hx := h x List.mem_cons_self
    have : 0 ≤ wt x := by unfold wt; split <;> omega
    have h2 : a + wt x ≤ (pre (a + wt x) r).getD p 0 := h1.1
    exact ⟨show a ≤ (pre (a + wt x) r).getD p 0 by omega, h1.2⟩
def pt (sides : List Int) (p : Nat) (s : Int) : Int := if sd sides p < 3 then 2 * fp sides p + s else 2 * (fp sides p + s)
def inner (f m : Int) : List (Int × Int) := (rngL 0 m.toNat).flatMap fun s => [(2 * (f + s) + 1, 2 * (f + m)), (2 * (f + s) + 1, 2 * (f + m) + 1)]
def innerAt (sides : List Int) (p : Nat) : List (Int × Int) := if 2 < sd sides p then inner (fp sides p) (sd sides p) else []
def freeT (sides : List Int) (ties : List T4I) : List (Int × Int) := ties.map fun x => (pt sides x.a.toNat x.b, pt sides x.c.toNat x.d)
def freeP (sides : List Int) (n : Nat) : List (Int × Int) := (List.range n).flatMap (innerAt sides)
def freeOf (sides : List Int) (ties : List T4I) : List (Int × Int) := freeT sides ties ++ freeP sides sides.length
theorem inner_len (f m : Int) : (inner f m).length = 2 * m.toNat := by
  have go : ∀ xs : List Int, (xs.flatMap fun s => [(2 * (f + s) + 1, 2 * (f + m)), (2 * (f + s) + 1, 2 * (f + m) + 1)]).length = 2 * xs.length := by
    intro xs
    induction xs with
    | nil => rfl
    | cons x r ih => rw [List.flatMap_cons, List.length_append, ih]; simp; omega
  unfold inner
  rw [go, rngL_len]
section
variable {sides : List Int} {ties : List T4I}
theorem sd_mem (g : Good sides ties) {p : Nat} (h : p < sides.length) : 1 ≤ sd sides p ∧ sd sides p ≤ 4 := by
  unfold sd
  rw [List.getD_eq_getElem?_getD, List.getElem?_eq_getElem h]
  exact g.sd _ (List.getElem_mem h)
theorem innerAt_len (g : Good sides ties) {p : Nat} (h : p < sides.length) : (innerAt sides p).length ≤ 8 := by
  have := sd_mem g h
  unfold innerAt
  split
  · rw [inner_len]; omega
  · exact Nat.zero_le _
theorem freeP_succ (n : Nat) : freeP sides (n + 1) = freeP sides n ++ innerAt sides n := by
  unfold freeP
  rw [List.range_succ, List.flatMap_append]
  simp
theorem freeP_len (g : Good sides ties) : ∀ n : Nat, n ≤ sides.length → (freeP sides n).length ≤ 8 * n
  | 0, _ => Nat.le_refl 0
  | n + 1, h => by
    rw [freeP_succ, List.length_append]
    have h1 := freeP_len g n (by omega)
    have h2 := innerAt_len g (p := n) (by omega)
    omega
theorem sides1 (g : Good sides ties) : ∀ s ∈ sides, 1 ≤ s := fun s hs => (g.sd s hs).1
theorem fp_ok (g : Good sides ties) {p : Nat} (h : p < sides.length) : 0 ≤ fp sides p ∧ fp sides p + wt (sd sides p) ≤ tot 0 sides := fp_bound sides 0 p (sides1 g) h
theorem pt_ok (g : Good sides ties) {p : Nat} (h : p < sides.length) {s : Int} (h0 : 0 ≤ s) (h1 : s < sd sides p) : 0 ≤ pt sides p s ∧ pt sides p s < 2 * tot 0 sides := by
  obtain ⟨a, b⟩ := fp_ok g h
  unfold pt
  unfold wt at b
  split
  · rw [if_pos (by assumption)] at b; omega
  · rw [if_neg (by assumption)] at b; omega
theorem free_good (g : Good sides ties) : GoodP (tot 0 sides) (freeOf sides ties) := by
  refine ⟨tot_ge 0 sides (sides1 g), fun x hx => ?_⟩
  rcases List.mem_append.mp hx with hx | hx
  · obtain ⟨y, hy, rfl⟩ := List.mem_map.mp hx
    obtain ⟨a1, a2, a3, a4, b1, b2, b3, b4⟩ := g.ti y hy
    have p1 := pt_ok g (p := y.a.toNat) (by omega) a3 a4
    have p2 := pt_ok g (p := y.c.toNat) (by omega) b3 b4
    exact ⟨p1.1, p1.2, p2.1, p2.2⟩
  · obtain ⟨p, hp, hx⟩ := List.mem_flatMap.mp hx
    have hp := List.mem_range.mp hp
    obtain ⟨a, b⟩ := fp_ok g hp
    unfold innerAt at hx
    split at hx
    · next h2 =>
      unfold wt at b
      rw [if_neg (by omega)] at b
      obtain ⟨s, hs, hx⟩ := List.mem_flatMap.mp hx
      have hs := mem_rngL.mp hs
      simp only [List.mem_cons, List.not_mem_nil, or_false] at hx
      rcases hx with rfl | rfl <;> simp only <;> omega
    · cases hx
/-! the models -/
theorem firsts_eq (hl : sides.length ≤ 1000) : l_firsts_m sides = .ok (pre 0 sides, tot 0 sides) := by
  unfold l_firsts_m
  simp only [M.ok_bind]
  refine M.sat_val (M.sat_bind (M.sat_fold (fun i (s : List Int × Int) => s = (pre 0 (sides.take i), tot 0 (sides.take i))) rfl fun i x s hx hs => ?_) fun s hs => ?_)
  · have hi := (List.getElem?_eq_some_iff.mp hx).1
    have htk : sides.take (i + 1) = sides.take i ++ [x] := by rw [List.take_add_one, hx]; rfl
    subst hs
    rw [htk, pre_snoc, tot_snoc, M.push_small (by rw [pre_len, List.length_take]; omega)]
    simp only [M.ok_bind]
    unfold wt
    by_cases h : 2 < x
    · rw [if_pos (by simpa using h), if_neg (by omega)]
      exact ⟨_, rfl, by rw [show tot 0 (sides.take i) + 1 + x = tot 0 (sides.take i) + (x + 1) by omega]⟩
    · rw [if_neg (by simpa using h), if_pos (by omega)]
      exact ⟨_, rfl, rfl⟩
  · rw [List.take_length] at hs
    subst hs
    exact ⟨_, rfl, rfl⟩
theorem last_ix {α : Type} (xs : List α) (y : α) : M.ix (xs ++ [y]) (-(1 : Int)) = .ok y := by
  unfold M.ix
  have : atI (xs ++ [y]) (-(1 : Int)) = some y := by
    unfold atI ixN
    have h1 : (1 : Int) ≤ (xs.length : Int) + 1 := by omega
    simp only [List.length_append, List.length_singleton]
    have h2 : ((-(1 : Int)) + ((xs.length + 1 : Nat) : Int)).toNat = xs.length := by omega
    simp [h1]
    rw [show (-1 + ((xs.length : Int) + 1)).toNat = xs.length by omega]
    simp
  rw [this]
  rfl
theorem pairs_eq (hl : sides.length ≤ 1000) : p_first_pairs_m ⟨⟨sides⟩, ⟨ties⟩⟩ = .ok (pre 0 sides ++ [tot 0 sides]) := by
  unfold p_first_pairs_m
  simp only [M.ok_bind]
  refine M.sat_val (M.sat_bind (M.sat_fold (fun i (s : List Int) => s = pre 0 (sides.take i) ++ [tot 0 (sides.take i)]) rfl fun i x s hx hs => ?_) fun s hs => ?_)
  · have hi := (List.getElem?_eq_some_iff.mp hx).1
    have htk : sides.take (i + 1) = sides.take i ++ [x] := by rw [List.take_add_one, hx]; rfl
    subst hs
    rw [htk, pre_snoc, tot_snoc, last_ix]
    simp only [M.ok_bind]
    have e : (if decide (x < (3 : Int)) = true then (M.ok (1 : Int)) else (M.ok (x + (1 : Int)))) = M.ok (wt x) := by
      unfold wt
      by_cases h : x < 3
      · rw [if_pos (by simpa using h), if_pos h]
      · rw [if_neg (by simpa using h), if_neg h]
    rw [e]
    simp only [M.ok_bind]
    rw [M.push_small (by rw [List.length_append, pre_len, List.length_take]; simp; omega)]
    exact ⟨_, rfl, rfl⟩
  · rw [List.take_length] at hs
    subst hs
    exact ⟨_, rfl, rfl⟩
theorem ix_pre {p : Nat} (h : p < sides.length) : M.ix (pre 0 sides) (p : Int) = .ok (fp sides p) := by
  have := M.ix_getD (xs := pre 0 sides) (i := (p : Int)) 0 (by omega) (by rw [pre_len]; omega)
  rwa [Int.toNat_natCast] at this
theorem ix_pre2 {p : Nat} (h : p < sides.length) : M.ix (pre 0 sides ++ [tot 0 sides]) (p : Int) = .ok (fp sides p) := by
  have := M.ix_getD (xs := pre 0 sides ++ [tot 0 sides]) (i := (p : Int)) 0 (by omega) (by rw [List.length_append, pre_len]; simp; omega)
  rw [Int.toNat_natCast] at this
  rw [this]
  unfold fp
  rw [List.getD_eq_getElem?_getD, List.getD_eq_getElem?_getD, List.getElem?_append_left (by rw [pre_len]; exact h)]
theorem ix_sd {p : Nat} (h : p < sides.length) : M.ix sides (p : Int) = .ok (sd sides p) := by
  have := M.ix_getD (xs := sides) (i := (p : Int)) 0 (by omega) (by omega)
  rwa [Int.toNat_natCast] at this
theorem point_eq {p : Nat} (h : p < sides.length) (s : Int) : l_point_m sides (pre 0 sides) (p : Int) s = .ok (pt sides p s) := by
  unfold l_point_m
  rw [ix_sd h, ix_pre h]
  simp only [M.ok_bind]
  unfold pt
  by_cases h2 : 2 < sd sides p
  · rw [if_pos (by simpa using h2), if_neg (by omega)]
  · rw [if_neg (by simpa using h2), if_pos (by omega)]
theorem seat_eq {p : Nat} (h : p < sides.length) (s : Int) : p_seat_m ⟨⟨sides⟩, ⟨ties⟩⟩ (fp sides p) (p : Int) s = .ok (pt sides p s) := by
  unfold p_seat_m
  rw [ix_sd h]
  simp only [M.ok_bind]
  unfold pt
  by_cases h2 : sd sides p < 3
  · rw [if_pos (by simpa using h2), if_pos h2]
  · rw [if_neg (by simpa using h2), if_neg h2]
theorem nat_of {x : Int} (h : 0 ≤ x) : x = ((x.toNat : Nat) : Int) := by omega
theorem freeT_step {i : Nat} {x : T4I} (hx : ties[i]? = some x) : freeT sides (ties.take (i + 1)) = freeT sides (ties.take i) ++ [(pt sides x.a.toNat x.b, pt sides x.c.toNat x.d)] := by
  unfold freeT
  rw [List.take_add_one, hx, List.map_append]
  rfl
theorem inner_fold {f m : Int} (k : Nat) (hk : k ≤ 100) (pts : Int → Int) (hp : ∀ s, pts s = 2 * (f + s)) (q : Int → M Int) (hq : ∀ s : Int, 0 ≤ s → s < k → q s = .ok (pts s)) (s0 : List (Int × Int)) (hs : s0.length ≤ 5000) :
    M.fold (fun (s17 : (List (Int × Int))) x19 =>
          (q x19 >>= fun t20 => (M.ok (t20 + (1 : Int)))) >>= fun inner_21 =>
            M.push s17 (M.ok (inner_21, 2 * (f + m))) >>= fun free_here_22 =>
            M.push free_here_22 (M.ok (inner_21, (2 * (f + m) + (1 : Int)))) >>= fun free_here_23 =>
            M.ok free_here_23) s0 (rngL 0 k) = .ok (s0 ++ (rngL 0 k).flatMap fun s => [(2 * (f + s) + 1, 2 * (f + m)), (2 * (f + s) + 1, 2 * (f + m) + 1)]) := by
  refine M.sat_val (M.sat_mono (M.sat_fold (fun i (s : List (Int × Int)) => s = s0 ++ (rngL 0 i).flatMap (fun s => [(2 * (f + s) + 1, 2 * (f + m)), (2 * (f + s) + 1, 2 * (f + m) + 1)]) ∧ s.length = s0.length + 2 * i) ⟨by simp [rngL], rfl⟩ fun i x s hx ⟨h1, h2⟩ => ?_) fun s ⟨h1, _⟩ => by rw [rngL_len] at h1; exact h1)
  obtain ⟨hi, hxi⟩ := rngL_get hx
  rw [hq x (by omega) (by omega), hp]
  simp only [M.ok_bind]
  rw [M.push_small (by omega)]
  simp only [M.ok_bind]
  rw [M.push_small (by rw [List.length_append]; simp; omega)]
  refine ⟨_, rfl, ?_, by show (s ++ [_] ++ [_]).length = _; simp; omega⟩
  rw [h1, rngL_succ, List.flatMap_append]
  simp [hxi]
theorem free_eq (g : Good sides ties) (hl : sides.length ≤ 200) (ht : ties.length ≤ 300) : l_free_m sides ties = .ok (freeOf sides ties) := by
  unfold l_free_m
  rw [firsts_eq (by omega)]
  simp only [M.ok_bind]
  refine M.sat_val (M.sat_bind (M.sat_fold (fun i (s : List (Int × Int)) => s = freeT sides (ties.take i)) rfl fun i x s hx hs => ?_) fun s hs => ?_)
  · have hi := (List.getElem?_eq_some_iff.mp hx).1
    obtain ⟨a1, a2, a3, a4, b1, b2, b3, b4⟩ := g.ti x (List.mem_of_getElem? hx)
    subst hs
    rw [nat_of a1, nat_of b1, point_eq (by omega), point_eq (by omega)]
    simp only [M.ok_bind]
    rw [M.push_small (by unfold freeT; rw [List.length_map, List.length_take]; omega)]
    exact ⟨_, rfl, (freeT_step hx).symm⟩
  · rw [List.take_length] at hs
    subst hs
    have htl : (freeT sides ties).length ≤ 300 := by unfold freeT; rw [List.length_map]; exact ht
    rw [M.rangeN (by omega)]
    simp only [M.ok_bind]
    refine M.sat_bind (M.sat_fold (fun i (s : List (Int × Int)) => s = freeT sides ties ++ freeP sides i) (by simp [freeP]) fun i x s hx hs => ?_) fun s hs => ?_
    · obtain ⟨hi, hxi⟩ := rngL_get hx
      obtain rfl : x = (i : Int) := by omega
      subst hs
      have hfl := freeP_len g i (by omega)
      have hsd := sd_mem g hi
      rw [ix_sd hi, ix_pre hi, freeP_succ]
      simp only [M.ok_bind]
      unfold innerAt
      by_cases h2 : 2 < sd sides i
      · rw [if_pos (by simpa using h2), if_pos h2, M.range_ok (by omega) (by omega)]
        simp only [M.ok_bind]
        have := inner_fold (f := fp sides i) (m := sd sides i) (sd sides i).toNat (by omega) (pt sides i) (fun s => by unfold pt; rw [if_neg (by omega)]) (fun s => l_point_m sides (pre 0 sides) (i : Int) s) (fun s _ _ => point_eq hi s) (freeT sides ties ++ freeP sides i) (by rw [List.length_append]; omega)
        rw [this]
        exact ⟨_, rfl, by rw [List.append_assoc]; rfl⟩
      · rw [if_neg (by simpa using h2), if_neg h2]
        exact ⟨_, rfl, by simp⟩
    · rw [rngL_len] at hs
      exact ⟨_, rfl, hs⟩
theorem comp2_all {α β γ : Type} (m1 : α → List γ) (p1 : α → γ → Bool) (f : α → γ → β) : ∀ xs : List α, M.comp2 (fun _ => .ok true) (fun x => .ok (m1 x)) (fun x z => .ok (p1 x z)) (fun x z => .ok (f x z)) xs = .ok (xs.flatMap fun x => ((m1 x).filter (p1 x)).map (f x))
  | [] => rfl
  | x :: xs => by
    rw [M.comp2_cons, comp2_all m1 p1 f xs]
    unfold M.part
    simp only [M.calm_of_ok, M.ok_bind, if_true]
    rw [M.comp_ok]
    simp only [M.ok_bind]
    rfl
theorem inner_eq {f m : Int} (h0 : 0 ≤ m) (h1 : m ≤ 100) : p_inner_ties_m f m = .ok (inner f m) := by
  unfold p_inner_ties_m
  simp only [M.ok_bind]
  rw [M.range_ok h0 (by omega)]
  simp only [M.ok_bind]
  unfold M.lc2
  rw [comp2_all]
  simp only [M.ok_bind]
  have e : ((rngL 0 m.toNat).flatMap fun x => (List.filter (fun _ => true) [2 * (f + m), 2 * (f + m) + 1]).map fun z => (2 * (f + x) + 1, z)) = inner f m := by
    unfold inner
    congr 1
  rw [e, M.asrt_pos (Nat.le_of_lt (small1k (by rw [inner_len]; omega)))]
theorem paired_eq (g : Good sides ties) (hl : sides.length ≤ 200) (ht : ties.length ≤ 300) : p_paired_of_web_m ⟨⟨sides⟩, ⟨ties⟩⟩ = m_PairedWebX_initX_m (tot 0 sides) (freeOf sides ties) := by
  unfold p_paired_of_web_m
  rw [pairs_eq (by omega)]
  simp only [M.ok_bind]
  have loop1 : M.fold (fun (s3 : (List (Int × Int))) (x4 : T4I) =>
    M.push s3 (((M.ix (pre 0 sides ++ [tot 0 sides]) x4.a) >>= fun t5 => (p_seat_m ⟨⟨sides⟩, ⟨ties⟩⟩ t5 x4.a x4.b)) >>= fun t7 => (((M.ix (pre 0 sides ++ [tot 0 sides]) x4.c) >>= fun t6 => (p_seat_m ⟨⟨sides⟩, ⟨ties⟩⟩ t6 x4.c x4.d)) >>= fun t8 => (M.ok (t7, t8)))) >>= fun free_9 =>
      M.ok free_9) [] ties = .ok (freeT sides ties) := by
    refine M.sat_val (M.sat_mono (M.sat_fold (fun i (s : List (Int × Int)) => s = freeT sides (ties.take i)) rfl fun i x s hx hs => ?_) fun s hs => by rw [List.take_length] at hs; exact hs)
    have hi := (List.getElem?_eq_some_iff.mp hx).1
    obtain ⟨a1, a2, a3, a4, b1, b2, b3, b4⟩ := g.ti x (List.mem_of_getElem? hx)
    subst hs
    rw [nat_of a1, nat_of b1, ix_pre2 (by omega), ix_pre2 (by omega)]
    simp only [M.ok_bind]
    rw [seat_eq (by omega), seat_eq (by omega)]
    simp only [M.ok_bind]
    rw [M.push_small (by unfold freeT; rw [List.length_map, List.length_take]; omega)]
    exact ⟨_, rfl, (freeT_step hx).symm⟩
  rw [loop1]
  simp only [M.ok_bind]
  have htl : (freeT sides ties).length ≤ 300 := by unfold freeT; rw [List.length_map]; exact ht
  have loop2 : M.fold (fun (s11 : (List (Int × Int))) (x12 : Int × Int) =>
    if (decide ((2 : Int) < x12.2)) then
      M.ext s11 ((M.ix (pre 0 sides ++ [tot 0 sides]) x12.1) >>= fun t13 => (p_inner_ties_m t13 x12.2)) >>= fun free_14 =>
        M.ok free_14
    else
      M.ok s11) (freeT sides ties) (M.enumL sides) = .ok (freeOf sides ties) := by
    refine M.sat_val (M.sat_mono (M.sat_fold (fun i (s : List (Int × Int)) => s = freeT sides ties ++ freeP sides i) (by simp [freeP]) fun i x s hx hs => ?_) fun s hs => by
      have : (M.enumL sides).length = sides.length := by unfold M.enumL; simp
      rw [this] at hs
      exact hs)
    have hi : i < sides.length := by
      have := (List.getElem?_eq_some_iff.mp hx).1
      unfold M.enumL at this
      simpa using this
    have hxe : x = ((i : Int), sd sides i) := by
      rw [← M.enumL_get] at hx
      unfold enumI at hx
      rw [List.getElem?_eq_getElem hi] at hx
      have := Option.some.inj hx
      rw [← this]
      unfold sd
      rw [List.getD_eq_getElem?_getD, List.getElem?_eq_getElem hi]
      rfl
    subst hxe
    subst hs
    have hfl := freeP_len g i (by omega)
    have hsd := sd_mem g hi
    rw [ix_pre2 hi, freeP_succ]
    simp only [M.ok_bind]
    unfold innerAt
    by_cases h2 : 2 < sd sides i
    · rw [if_pos (by simpa using h2), if_pos h2, inner_eq (by omega) (by omega)]
      unfold M.ext
      simp only [M.ok_bind]
      rw [M.asrt_pos (Nat.le_of_lt (small1k (by rw [inner_len, List.length_append]; omega)))]
      exact ⟨_, rfl, by rw [List.append_assoc]⟩
    · rw [if_neg (by simpa using h2), if_neg h2]
      exact ⟨_, rfl, by simp⟩
  rw [loop2]
  simp only [M.ok_bind]
  rw [last_ix]
  rfl
theorem same2 (w : PySem.Str) (n : Int) : l_same_m 9 (UD.toU (w, n)) (UD.toU (w, n)) = .ok true := same_refl (.tuple (by simp) fun y hy => by
  simp only [List.mem_cons, List.not_mem_nil, or_false] at hy
  rcases hy with rfl | rfl
  · exact .str _
  · exact .int _)
end
/-! numbered lists -/
theorem enumL_append {α : Type} (xs ys : List α) : M.enumL (xs ++ ys) = M.enumL xs ++ (ys.zipIdx xs.length).map fun p => ((p.2 : Int), p.1) := by
  unfold M.enumL
  rw [List.zipIdx_append, List.map_append]
  simp
theorem enumL_rng {β : Type} (f : Int → β) (n : Nat) : M.enumL ((rngL 0 n).map f) = (rngL 0 n).map fun x => (x, f x) := by
  induction n with
  | zero => rfl
  | succ n ih =>
    rw [rngL_succ, List.map_append, List.map_append, enumL_append, ih, List.length_map, rngL_len]
    simp [List.zipIdx]
theorem tail_keep {β : Type} (l : Int) : ∀ (ys : List β) (k : Nat), l < (k : Int) → (((ys.zipIdx k).map fun p => ((p.2 : Int), p.1)).filter fun x => !decide (x.1 = l)).map (fun x => x.2) = ys
  | [], _, _ => rfl
  | y :: r, k, h => by
    rw [List.zipIdx_cons, List.map_cons, List.filter_cons, if_pos (by simp; omega), List.map_cons, tail_keep l r (k + 1) (by omega)]
theorem drop_one (n : Nat) (free : List (Int × Int)) {l : Int} (h : l < n) : ((M.enumL (pairTies n ++ free)).filter fun x => !decide (x.1 = l)).map (fun x => x.2) = ((rngL 0 n).filter fun x => !decide (x = l)).map (fun x => (2 * x, 2 * x + 1)) ++ free := by
  rw [enumL_append, List.filter_append, List.map_append, tail_keep l free _ (by unfold pairTies; rw [List.length_map, rngL_len]; exact h)]
  congr 1
  unfold pairTies
  rw [enumL_rng, List.filter_map, List.map_map]
  rfl
/-! what is told -/
abbrev toldX (w : PySem.Str) (n : Int) : PyData := UD.toU (w, n)
section
variable {sides : List Int} {ties : List T4I}
theorem place_no {p : Int} (h : p < 0 ∨ (sides.length : Int) ≤ p) : p_check_place_m ⟨⟨sides⟩, ⟨ties⟩⟩ p = .exc ⟨.UnknownPlace, some [("place", .int p)]⟩ := by
  unfold p_check_place_m
  rw [has_eq]
  simp only [M.calm_of_ok, M.ok_bind]
  rw [if_pos (by simp; omega)]
  rfl
theorem place_yes {p : Int} (h0 : 0 ≤ p) (h1 : p < (sides.length : Int)) : p_check_place_m ⟨⟨sides⟩, ⟨ties⟩⟩ p = .ok () := by
  unfold p_check_place_m
  rw [has_eq]
  simp only [M.calm_of_ok, M.ok_bind]
  rw [if_neg (by simp; omega)]
theorem tie_no {p : Int} (h : p < 0 ∨ (ties.length : Int) ≤ p) : p_check_tie_m ⟨⟨sides⟩, ⟨ties⟩⟩ p = .exc ⟨.UnknownTie, some [("tie", .int p)]⟩ := by
  unfold p_check_tie_m
  rw [if_pos (by simpa using h)]
  rfl
theorem tie_yes {p : Int} (h0 : 0 ≤ p) (h1 : p < (ties.length : Int)) : p_check_tie_m ⟨⟨sides⟩, ⟨ties⟩⟩ p = .ok () := by
  unfold p_check_tie_m
  rw [if_neg (by simp; omega)]
theorem told_place {d p : Int} (hd : d = 0 ∨ d = 2) (h : p < 0 ∨ (sides.length : Int) ≤ p) : l_told_m d ⟨⟨sides⟩, ⟨ties⟩⟩ p = .ok (toldX "place" p) := by
  unfold l_told_m
  rcases hd with rfl | rfl
  · rw [if_pos (by rfl)]
    unfold p_place_graph_m
    rw [place_no h, M.exc_bind, M.exc_bind, M.exc_bind, M.tryK_exc (by rfl) (by rfl)]
    rfl
  · rw [if_neg (by decide), if_neg (by decide), if_pos (by rfl)]
    unfold p_cycle_through_place_m
    rw [place_no h, M.exc_bind, M.exc_bind, M.exc_bind, M.tryK_exc (by rfl) (by rfl)]
    rfl
theorem told_tie {d p : Int} (hd : d = 1 ∨ d = 3) (h : p < 0 ∨ (ties.length : Int) ≤ p) : l_told_m d ⟨⟨sides⟩, ⟨ties⟩⟩ p = .ok (toldX "tie" p) := by
  unfold l_told_m
  rcases hd with rfl | rfl
  · rw [if_neg (by decide), if_pos (by rfl)]
    unfold p_tie_graph_m
    rw [tie_no h, M.exc_bind, M.exc_bind, M.exc_bind, M.tryK_exc (by rfl) (by rfl)]
    rfl
  · rw [if_neg (by decide), if_neg (by decide), if_neg (by decide), if_pos (by rfl)]
    unfold p_cycle_through_tie_m
    rw [tie_no h, M.exc_bind, M.exc_bind, M.exc_bind, M.tryK_exc (by rfl) (by rfl)]
    rfl
theorem told_large {n : Int} (h : p_paired_of_web_m ⟨⟨sides⟩, ⟨ties⟩⟩ = .exc (lim n)) {d p : Int} (hp : ((d = 0 ∨ d = 2) ∧ 0 ≤ p ∧ p < (sides.length : Int)) ∨ ((d = 1 ∨ d = 3) ∧ 0 ≤ p ∧ p < (ties.length : Int)) ∨ d = 4) : l_told_m d ⟨⟨sides⟩, ⟨ties⟩⟩ p = .ok (toldX "large" n) := by
  unfold l_told_m
  rcases hp with ⟨rfl | rfl, h0, h1⟩ | ⟨rfl | rfl, h0, h1⟩ | rfl
  · rw [if_pos (by rfl)]
    unfold p_place_graph_m
    rw [place_yes h0 h1, M.ok_bind, h, M.exc_bind, M.exc_bind, M.exc_bind, M.tryK_exc (by rfl) (by rfl)]
    rfl
  · rw [if_neg (by decide), if_neg (by decide), if_pos (by rfl)]
    unfold p_cycle_through_place_m
    rw [place_yes h0 h1, M.ok_bind, h, M.exc_bind, M.exc_bind, M.exc_bind, M.tryK_exc (by rfl) (by rfl)]
    rfl
  · rw [if_neg (by decide), if_pos (by rfl)]
    unfold p_tie_graph_m
    rw [tie_yes h0 h1, M.ok_bind, h, M.exc_bind, M.exc_bind, M.exc_bind, M.tryK_exc (by rfl) (by rfl)]
    rfl
  · rw [if_neg (by decide), if_neg (by decide), if_neg (by decide), if_pos (by rfl)]
    unfold p_cycle_through_tie_m
    rw [tie_yes h0 h1, M.ok_bind, h, M.exc_bind, M.exc_bind, M.exc_bind, M.tryK_exc (by rfl) (by rfl)]
    rfl
  · rw [if_neg (by decide), if_neg (by decide), if_neg (by decide), if_neg (by decide)]
    unfold p_on_cycles_m
    rw [h, M.exc_bind, M.exc_bind, M.exc_bind, M.tryK_exc (by rfl) (by rfl)]
    rfl
/-- the pair of a place -/
def pairOf (sides : List Int) (p : Nat) : Int := if 2 < sd sides p then fp sides p + sd sides p else fp sides p
theorem pair_eq (hl : sides.length ≤ 1000) {p : Nat} (h : p < sides.length) : p_pair_at_m ⟨⟨sides⟩, ⟨ties⟩⟩ (p : Int) = .ok (pairOf sides p) := by
  unfold p_pair_at_m pairOf
  rw [has_eq]
  simp only [M.calm_of_ok, M.ok_bind]
  rw [if_neg (by simp; omega), pairs_eq hl]
  simp only [M.ok_bind]
  rw [ix_pre2 h, ix_sd h]
  simp only [M.ok_bind]
  by_cases h2 : 2 < sd sides p
  · rw [if_neg (by simp; omega), if_pos h2]
  · rw [if_pos (by simp; omega), if_neg h2]
theorem rangeL_n (n : Nat) (h : n ≤ 100000) : M.rangeL 0 (n : Int) = .ok (rngL 0 n) := by
  unfold M.rangeL
  rw [M.asrt_pos (by omega)]
  simp
/-- the graphs, plainly -/
def gP (sides : List Int) (ties : List T4I) (n p : Nat) : List Int × List (Int × Int) := (rngL 0 (2 * n), ((rngL 0 n).filter fun x => !decide (x = pairOf sides p)).map (fun x => (2 * x, 2 * x + 1)) ++ freeOf sides ties)
def gT (sides : List Int) (ties : List T4I) (n t : Nat) : List Int × List (Int × Int) := ((rngL 0 (2 * n)).filter fun x => !memB x [((freeOf sides ties).getD t (0, 0)).1, ((freeOf sides ties).getD t (0, 0)).2], pairTies n ++ freeOf sides ties)
theorem free_ix {t : Nat} (h : t < ties.length) : M.ix (freeOf sides ties) (t : Int) = .ok ((freeOf sides ties).getD t (0, 0)) := by
  have := M.ix_getD (xs := freeOf sides ties) (i := (t : Int)) (0, 0) (by omega) (by unfold freeOf freeT; rw [List.length_append, List.length_map]; omega)
  rwa [Int.toNat_natCast] at this
theorem place_graph_eq (g : Good sides ties) (hl : sides.length ≤ 200) (ht : ties.length ≤ 300) {n : Nat} (hn : tot 0 sides = n) (h1 : n ≤ 100) (h2 : (freeOf sides ties).length ≤ 200) {p : Nat} (h : p < sides.length) :
    p_place_graph_m ⟨⟨sides⟩, ⟨ties⟩⟩ (p : Int) = .ok (gP sides ties n p) := by
  unfold p_place_graph_m
  rw [place_yes (by omega) (by omega), M.ok_bind, paired_eq g hl ht, paired_ok (free_good g) (by omega) h2, M.ok_bind, pair_eq (by omega) h, M.ok_bind, hn, all_ties_eq (by omega) (by omega)]
  unfold m_PairedWeb_points_m
  simp only [M.calm_of_ok, M.ok_bind]
  rw [show (2 : Int) * (n : Int) = ((2 * n : Nat) : Int) by omega, rangeL_n _ (by omega)]
  simp only [M.ok_bind]
  rw [M.comp_ok]
  simp only [M.ok_bind]
  have hb := (fp_ok g h).2
  have hs := sd_mem g h
  rw [drop_one n _ (l := pairOf sides p) (by unfold pairOf; unfold wt at hb; split <;> (split at hb <;> omega))]
  rfl
theorem tie_graph_eq (g : Good sides ties) (hl : sides.length ≤ 200) (ht : ties.length ≤ 300) {n : Nat} (hn : tot 0 sides = n) (h1 : n ≤ 100) (h2 : (freeOf sides ties).length ≤ 200) {t : Nat} (h : t < ties.length) :
    p_tie_graph_m ⟨⟨sides⟩, ⟨ties⟩⟩ (t : Int) = .ok (gT sides ties n t) := by
  unfold p_tie_graph_m
  rw [tie_yes (by omega) (by omega), M.ok_bind, paired_eq g hl ht, paired_ok (free_good g) (by omega) h2, M.ok_bind, hn, all_ties_eq (by omega) (by omega)]
  unfold m_PairedWeb_points_m
  simp only [M.calm_of_ok, M.ok_bind]
  rw [show (2 : Int) * (n : Int) = ((2 * n : Nat) : Int) by omega, M.rangeN (by omega), free_ix h]
  simp only [M.ok_bind]
  rw [M.comp_filter _ fun x _ => rfl]
  rfl
theorem due_place (g : Good sides ties) (hl : sides.length ≤ 200) (ht : ties.length ≤ 300) {n : Nat} (hn : tot 0 sides = n) (h1 : n ≤ 100) (h2 : (freeOf sides ties).length ≤ 200) {p : Nat} (h : p < sides.length) :
    l_due_m 0 sides ties (p : Int) = .ok ("graph", gP sides ties n p) := by
  unfold l_due_m
  rw [firsts_eq (by omega), free_eq g hl ht]
  simp only [M.ok_bind]
  rw [if_neg (by decide), ix_pre h, ix_sd h, hn]
  simp only [M.ok_bind]
  have e : (if decide (2 < sd sides p) = true then M.ok (fp sides p + sd sides p) else M.ok (fp sides p)) = M.ok (pairOf sides p) := by
    unfold pairOf
    by_cases h2 : 2 < sd sides p
    · rw [if_pos (by simpa using h2), if_pos h2]
    · rw [if_neg (by simpa using h2), if_neg h2]
  rw [e, M.ok_bind, M.rangeN (by omega), M.ok_bind, M.comp_ok, M.ok_bind, show (2 : Int) * (n : Int) = ((2 * n : Nat) : Int) by omega, rangeL_n _ (by omega), M.ok_bind,
    cat_ok (by rw [List.length_map]; have := List.length_filter_le (fun x => !decide (x = pairOf sides p)) (rngL 0 n); rw [rngL_len] at this; omega) (by omega)]
  rfl
theorem due_tie (g : Good sides ties) (hl : sides.length ≤ 200) (ht : ties.length ≤ 300) {n : Nat} (hn : tot 0 sides = n) (h1 : n ≤ 100) (h2 : (freeOf sides ties).length ≤ 200) {t : Nat} (h : t < ties.length) :
    l_due_m 1 sides ties (t : Int) = .ok ("graph", gT sides ties n t) := by
  unfold l_due_m
  rw [firsts_eq (by omega), free_eq g hl ht]
  simp only [M.ok_bind]
  rw [if_pos (by rfl), hn, show (2 : Int) * (n : Int) = ((2 * n : Nat) : Int) by omega, M.rangeN (by omega), free_ix h]
  simp only [M.ok_bind]
  rw [M.comp_filter _ fun x _ => rfl]
  simp only [M.ok_bind]
  rw [M.rangeN (by omega)]
  simp only [M.ok_bind]
  rw [M.comp_map]
  simp only [M.ok_bind]
  rw [cat_ok (by rw [List.length_map, rngL_len]; omega) (by omega)]
  rfl
theorem told_graphP (g : Good sides ties) (hl : sides.length ≤ 200) (ht : ties.length ≤ 300) {n : Nat} (hn : tot 0 sides = n) (h1 : n ≤ 100) (h2 : (freeOf sides ties).length ≤ 200) {p : Nat} (h : p < sides.length) :
    l_told_m 0 ⟨⟨sides⟩, ⟨ties⟩⟩ (p : Int) = .ok (UD.toU (("graph" : PySem.Str), gP sides ties n p)) := by
  unfold l_told_m
  rw [if_pos (by rfl), place_graph_eq g hl ht hn h1 h2 h]
  rfl
theorem told_graphT (g : Good sides ties) (hl : sides.length ≤ 200) (ht : ties.length ≤ 300) {n : Nat} (hn : tot 0 sides = n) (h1 : n ≤ 100) (h2 : (freeOf sides ties).length ≤ 200) {t : Nat} (h : t < ties.length) :
    l_told_m 1 ⟨⟨sides⟩, ⟨ties⟩⟩ (t : Int) = .ok (UD.toU (("graph" : PySem.Str), gT sides ties n t)) := by
  unfold l_told_m
  rw [if_neg (by decide), if_pos (by rfl), tie_graph_eq g hl ht hn h1 h2 h]
  rfl
theorem same_graph {q : List Int × List (Int × Int)} (h1 : q.1.length ≤ 100000) (h2 : q.2.length ≤ 100000) : l_same_m 9 (UD.toU (("graph" : PySem.Str), q)) (UD.toU (("graph" : PySem.Str), q)) = .ok true := same_refl (.tuple (by simp) fun y hy => by
  simp only [List.mem_cons, List.not_mem_nil, or_false] at hy
  rcases hy with rfl | rfl
  · exact .str _
  · refine .tuple (by simp) fun y hy => ?_
    simp only [List.mem_cons, List.not_mem_nil, or_false] at hy
    rcases hy with rfl | rfl
    · exact .list (by rw [List.length_map]; exact h1) fun d hd => by
        obtain ⟨x, _, rfl⟩ := List.mem_map.mp hd
        exact .int x
    · exact .list (by rw [List.length_map]; exact h2) fun d hd => by
        obtain ⟨x, _, rfl⟩ := List.mem_map.mp hd
        refine .tuple (by simp) fun y hy => ?_
        simp only [List.mem_cons, List.not_mem_nil, or_false] at hy
        rcases hy with rfl | rfl <;> exact .int _)
theorem appUU_ok {a : List PyData} {y : PyData} (h : a.length ≤ 100000) : M.appUU (.list a) (.ok y) = .ok (.list (a ++ [y])) := by
  unfold M.appUU
  show M.asrt _ _ = _
  exact M.asrt_pos (small1k h)
theorem take_ok (q : List Int × List (Int × Int)) : M.takeU2 (UD.toU (("graph" : PySem.Str), q)) (M.ok (1 : Int)) = .ok (.list (q.1.map UD.toU), .list (q.2.map UD.toU)) := rfl
theorem gP_len {n p : Nat} (h1 : n ≤ 100) (h2 : (freeOf sides ties).length ≤ 200) : (gP sides ties n p).1.length ≤ 1000 ∧ (gP sides ties n p).2.length ≤ 1000 := by
  unfold gP
  simp only
  rw [rngL_len, List.length_append, List.length_map]
  have := List.length_filter_le (fun x => !decide (x = pairOf sides p)) (rngL 0 n)
  rw [rngL_len] at this
  omega
theorem gT_len {n p : Nat} (h1 : n ≤ 100) (h2 : (freeOf sides ties).length ≤ 200) : (gT sides ties n p).1.length ≤ 1000 ∧ (gT sides ties n p).2.length ≤ 1000 := by
  unfold gT pairTies
  simp only
  rw [List.length_append, List.length_map, rngL_len]
  have := List.length_filter_le (fun x => !memB x [((freeOf sides ties).getD p (0, 0)).1, ((freeOf sides ties).getD p (0, 0)).2]) (rngL 0 (2 * n))
  rw [rngL_len] at this
  omega
theorem graphs_right (g : Good sides ties) (hl : sides.length ≤ 200) (ht : ties.length ≤ 300) (h1 : tot 0 sides ≤ 100) (h2 : ((freeOf sides ties).length : Int) ≤ 200) : l_graphs_right_m ⟨⟨sides⟩, ⟨ties⟩⟩ sides ties = .ok true := by
  obtain ⟨n, hn⟩ : ∃ n : Nat, tot 0 sides = n := ⟨(tot 0 sides).toNat, by have := (free_good g).n0; omega⟩
  have hn1 : n ≤ 100 := by omega
  have hf : (freeOf sides ties).length ≤ 200 := by omega
  unfold l_graphs_right_m
  rw [show (2 : Int) = ((2 : Nat) : Int) from rfl, M.rangeN (by decide)]
  simp only [M.ok_bind]
  rw [M.foldC_unit _ fun x hx => by
    obtain ⟨size, es, ask⟩ : ∃ size : Nat, M.ix [(sides.length : Int), (ties.length : Int)] x = .ok (size : Int) ∧ size ≤ 300 ∧ ∀ k : Nat, k < size → ∃ q : List Int × List (Int × Int), l_told_m x ⟨⟨sides⟩, ⟨ties⟩⟩ (k : Int) = .ok (UD.toU (("graph" : PySem.Str), q)) ∧ l_due_m x sides ties (k : Int) = .ok ("graph", q) ∧ q.1.length ≤ 1000 ∧ q.2.length ≤ 1000 := by
      have hx2 := mem_rngL.mp hx
      obtain rfl | rfl : x = 0 ∨ x = 1 := by omega
      · exact ⟨sides.length, rfl, by omega, fun k hk => ⟨_, told_graphP g hl ht hn hn1 hf hk, due_place g hl ht hn hn1 hf hk, gP_len hn1 hf⟩⟩
      · exact ⟨ties.length, rfl, by omega, fun k hk => ⟨_, told_graphT g hl ht hn hn1 hf hk, due_tie g hl ht hn hn1 hf hk, gT_len hn1 hf⟩⟩
    obtain ⟨hs3, ask⟩ := ask
    rw [es]
    simp only [M.ok_bind]
    obtain ⟨cnt, ec, hc⟩ : ∃ cnt : Nat, (if decide ((10 : Int) < (size : Int)) = true then M.ok (3 : Int) else M.ok (size : Int)) = M.ok (cnt : Int) ∧ cnt ≤ size := by
      by_cases h : (10 : Int) < size
      · exact ⟨3, by rw [if_pos (by simpa using h)]; rfl, by omega⟩
      · exact ⟨size, by rw [if_neg (by simpa using h)], Nat.le_refl _⟩
    rw [ec]
    simp only [M.ok_bind]
    rw [M.rangeN (by omega)]
    simp only [M.ok_bind]
    rw [M.foldC_unit _ fun k hk => by
      have hk2 := mem_rngL.mp hk
      obtain ⟨m, em, hm1, hm2⟩ : ∃ m : Int, (if (cnt : Int) - 1 > (1 : Int) then (cnt : Int) - 1 else (1 : Int)) = m ∧ 1 ≤ m ∧ (m = 1 ∨ m = cnt - 1) := by
        split
        · exact ⟨_, rfl, by omega, .inr rfl⟩
        · exact ⟨1, rfl, by omega, .inl rfl⟩
      have hkm : k ≤ m := by omega
      rw [em, M.asrt_pos (show CMul ((size : Int) - 1) k from .inl ⟨by omega, by omega⟩)]
      simp only [M.ok_bind]
      rw [M.asrt_pos (show CDiv _ m from ⟨by omega, by omega⟩)]
      simp only [M.ok_bind]
      have d0 : 0 ≤ ((size : Int) - 1) * k / m := Int.ediv_nonneg (Int.mul_nonneg (by omega) hk2.1) (by omega)
      have d1 : ((size : Int) - 1) * k / m ≤ (size : Int) - 1 := Int.ediv_le_of_le_mul (by omega) (Int.mul_le_mul_of_nonneg_left hkm (by omega))
      obtain ⟨j, ej⟩ : ∃ j : Nat, ((size : Int) - 1) * k / m = j := ⟨(((size : Int) - 1) * k / m).toNat, by omega⟩
      rw [ej] at d1 ⊢
      obtain ⟨q, t1, t2, q1, q2⟩ := ask j (by omega)
      rw [t1, t2]
      simp only [M.ok_bind]
      rw [same_graph (by omega) (by omega), take_ok]
      simp only [M.calm_of_ok, M.ok_bind]
      rw [appUU_ok (by rw [List.length_map]; omega), appUU_ok (by rw [List.length_map]; omega)]
      simp only [M.ok_bind]
      rw [if_neg (by simp)]
      by_cases hk : k < ((2 : Nat) : Int)
      · rw [if_pos (by simpa using hk)]
        simp only [M.ok_bind]
        rw [if_neg (by simp)]
      · rw [if_neg (by simpa using hk)]
        simp only [M.ok_bind]
        rw [if_neg (by simp)]]
    rfl]
  rfl
theorem refused_ok (hl : sides.length ≤ 200) (ht : ties.length ≤ 300) (d : List Int) (at_ : Int) : l_refused_m ⟨⟨sides⟩, ⟨ties⟩⟩ sides ties d at_ = .ok true := by
  unfold l_refused_m
  simp only [pick_eq, M.ok_bind]
  rw [show (3 : Int) = ((3 : Nat) : Int) from rfl, M.rangeN (by decide)]
  simp only [M.ok_bind]
  rw [M.foldC_unit _ fun x hx => by
    have hx2 := mem_rngL.mp hx
    have r := pick_range (d := d) (k := at_ + x) (m := ((3 : Nat) : Int)) (by decide)
    obtain ⟨y, hy, ey⟩ := M.ix_some (xs := [-(1 : Int), -((3 : Nat) : Int), (1000000000000000000000000000000 : Int) + x]) r.1 r.2
    rw [ey]
    simp only [M.ok_bind]
    have hbad : y < 0 ∨ 1000 ≤ y := by
      have := List.mem_of_getElem? hy
      simp only [List.mem_cons, List.not_mem_nil, or_false] at this
      rcases this with rfl | rfl | rfl <;> omega
    rw [M.foldC_unit _ fun p hp => by
      have hb : p < 0 ∨ (sides.length : Int) ≤ p := by
        simp only [List.mem_cons, List.not_mem_nil, or_false] at hp
        rcases hp with rfl | rfl <;> omega
      rw [M.foldC_unit _ fun e he => by
        rw [told_place (by simpa using he) hb]
        simp only [M.ok_bind]
        rw [same2]
        simp only [M.ok_bind]
        rw [if_neg (by simp)]]
      rfl]
    simp only [M.ok_bind, Ct.go]
    rw [M.foldC_unit _ fun p hp => by
      have hb : p < 0 ∨ (ties.length : Int) ≤ p := by
        simp only [List.mem_cons, List.not_mem_nil, or_false] at hp
        rcases hp with rfl | rfl <;> omega
      rw [M.foldC_unit _ fun e he => by
        rw [told_tie (by simpa using he) hb]
        simp only [M.ok_bind]
        rw [same2]
        simp only [M.ok_bind]
        rw [if_neg (by simp)]]
      rfl]
    rfl]
  rfl
theorem large_ok {n : Int} (h : p_paired_of_web_m ⟨⟨sides⟩, ⟨ties⟩⟩ = .exc (lim n)) (hs : 0 < sides.length) (ht : 0 < ties.length) : l_large_m ⟨⟨sides⟩, ⟨ties⟩⟩ sides ties n = .ok true := by
  unfold l_large_m
  rw [told_large h (.inr (.inr rfl))]
  simp only [M.ok_bind]
  rw [same2]
  simp only [M.ok_bind]
  rw [if_neg (by simp), show (4 : Int) = ((4 : Nat) : Int) from rfl, M.rangeN (by decide)]
  simp only [M.ok_bind]
  rw [M.foldC_unit _ fun x hx => by
    have hx2 := mem_rngL.mp hx
    by_cases h1 : x = 1 ∨ x = 3
    · rw [if_pos (by simpa using h1)]
      simp only [M.ok_bind]
      rw [told_large h (.inr (.inl ⟨h1, by omega, by omega⟩))]
      simp only [M.ok_bind]
      rw [same2]
      simp only [M.ok_bind]
      rw [if_neg (by simp)]
    · rw [if_neg (by simpa using h1)]
      simp only [M.ok_bind]
      rw [told_large h (.inl ⟨by omega, by omega, by omega⟩)]
      simp only [M.ok_bind]
      rw [same2]
      simp only [M.ok_bind]
      rw [if_neg (by simp)]]
  rfl
theorem tot_le : ∀ (a : Int) (xs : List Int), (∀ s ∈ xs, s ≤ 4) → tot a xs ≤ a + 5 * xs.length
  | a, [], _ => by show a ≤ _; simp
  | a, x :: r, h => by
    have := tot_le (a + wt x) r fun s hs => h s (List.mem_cons_of_mem _ hs)
    have hx := h x List.mem_cons_self
    have : wt x ≤ 5 := by unfold wt; split <;> omega
    show tot (a + wt x) r ≤ _
    rw [List.length_cons]
    omega
theorem free_le (g : Good sides ties) : (freeOf sides ties).length ≤ ties.length + 8 * sides.length := by
  unfold freeOf freeT
  rw [List.length_append, List.length_map]
  have := freeP_len g sides.length (Nat.le_refl _)
  omega
end
theorem sum_bound {xs : List Int} {k : Int} (h : ∀ x ∈ xs, k ≤ x) : k * xs.length ≤ xs.sum := by
  induction xs with
  | nil => simp
  | cons x r ih =>
    have h1 := ih fun y hy => h y (List.mem_cons_of_mem _ hy)
    have h2 := h x List.mem_cons_self
    rw [List.sum_cons, List.length_cons]
    have : k * ((r.length + 1 : Nat) : Int) = k * r.length + k := by rw [Int.natCast_add, Int.mul_add]; simp
    omega
theorem sum_top {xs : List Int} {k : Int} (h : ∀ x ∈ xs, x ≤ k) : xs.sum ≤ k * xs.length := by
  induction xs with
  | nil => simp
  | cons x r ih =>
    have h1 := ih fun y hy => h y (List.mem_cons_of_mem _ hy)
    have h2 := h x List.mem_cons_self
    rw [List.sum_cons, List.length_cons]
    have : k * ((r.length + 1 : Nat) : Int) = k * r.length + k := by rw [Int.natCast_add, Int.mul_add]; simp
    omega
theorem cmul_small {x : Int} (h0 : 0 ≤ x) (h1 : x < 1000) : CMul x x := .inl ⟨by omega, by omega⟩
theorem crowd_sat (d extra : List Int) : M.sat (l_crowd_m d extra) fun r => Good r.1 r.2 ∧ r.1.length ≤ 200 ∧ r.2.length ≤ 300 ∧ 0 < r.2.length := by
  unfold l_crowd_m
  simp only [pick_eq, M.ok_bind]
  have r0 := pick_range (d := d) (k := 0) (m := 22) (by decide)
  rw [M.range_ok r0.1 (by omega)]
  simp only [M.ok_bind]
  rw [M.comp_map]
  simp only [M.ok_bind]
  have hL : ∀ x ∈ (rngL 0 (pick d 0 22).toNat).map fun x2 => 3 + pick d (1 + x2) 2, 3 ≤ x ∧ x ≤ 4 := fun x hx => by
    obtain ⟨y, _, rfl⟩ := List.mem_map.mp hx
    have := pick_range (d := d) (k := 1 + y) (m := 2) (by decide)
    omega
  have hLl : ((rngL 0 (pick d 0 22).toNat).map fun x2 => 3 + pick d (1 + x2) 2).length ≤ 21 := by rw [List.length_map, rngL_len]; omega
  generalize ((rngL 0 (pick d 0 22).toNat).map fun x2 => 3 + pick d (1 + x2) 2) = large at hL hLl
  rw [M.comp_map]
  simp only [M.ok_bind]
  have r1 := pick_range (d := extra) (k := 1) (m := 5) (by decide)
  have hs1 : 4 * (large.length : Int) ≤ (large.map fun x6 => x6 + 1).sum := by
    have := sum_bound (xs := large.map fun x6 => x6 + 1) (k := 4) fun x hx => by
      obtain ⟨y, hy, rfl⟩ := List.mem_map.mp hx
      have := hL y hy
      omega
    rwa [List.length_map] at this
  have hnil : large = [] → (large.map fun x6 => x6 + 1).sum = 0 := fun e => by rw [e]; rfl
  generalize hlk : 98 + pick extra 1 5 - (large.map fun x6 => x6 + 1).sum = lacking
  obtain ⟨k, hk, hk1, hk2⟩ : ∃ k : Nat, (if lacking > (0 : Int) then lacking else (0 : Int)) = k ∧ k ≤ 102 ∧ (large = [] → 0 < k) := by
    split
    · exact ⟨lacking.toNat, by omega, by omega, fun _ => by omega⟩
    · exact ⟨0, rfl, by omega, fun e => by have := hnil e; omega⟩
  rw [hk, M.rangeN (by omega)]
  simp only [M.ok_bind]
  rw [M.comp_mapM (fun x11 : Int => 1 + pick extra (2 + x11 * x11 % 7) 2) fun x hx => by
    have hx2 := mem_rngL.mp hx
    rw [M.asrt_pos (cmul_small (by omega) (by omega))]
    rfl]
  simp only [M.ok_bind]
  have hS : ∀ x ∈ (rngL 0 k).map fun x11 => 1 + pick extra (2 + x11 * x11 % 7) 2, 1 ≤ x ∧ x ≤ 2 := fun x hx => by
    obtain ⟨y, _, rfl⟩ := List.mem_map.mp hx
    have := pick_range (d := extra) (k := 2 + y * y % 7) (m := 2) (by decide)
    omega
  have hSl : ((rngL 0 k).map fun x11 => 1 + pick extra (2 + x11 * x11 % 7) 2).length = k := by rw [List.length_map, rngL_len]
  generalize ((rngL 0 k).map fun x11 => 1 + pick extra (2 + x11 * x11 % 7) 2) = small at hS hSl
  rw [cat_ok (by omega) (by omega), cat_ok (by omega) (by omega)]
  simp only [M.ok_bind]
  refine M.sat_bind (R1 := fun sides : List Int => (∀ s ∈ sides, 1 ≤ s ∧ s ≤ 4) ∧ 0 < sides.length ∧ sides.length ≤ 200) (M.sat_if (fun _ => M.sat_ok ⟨fun s hs => ?_, ?_, ?_⟩) fun _ => M.sat_ok ⟨fun s hs => ?_, ?_, ?_⟩) fun sides ⟨hsd, hs0, hsl⟩ => ?_
  · rcases List.mem_append.mp hs with hs | hs
    · have := hL s hs; omega
    · have := hS s hs; omega
  · rw [List.length_append]
    cases large with
    | nil => have := hk2 rfl; omega
    | cons => simp; omega
  · rw [List.length_append]; omega
  · rcases List.mem_append.mp hs with hs | hs
    · have := hS s hs; omega
    · have := hL s hs; omega
  · rw [List.length_append]
    cases large with
    | nil => have := hk2 rfl; omega
    | cons => simp; omega
  · rw [List.length_append]; omega
  rw [M.comp_map]
  simp only [M.ok_bind]
  have r10 := pick_range (d := extra) (k := 10) (m := 5) (by decide)
  have hs2 : 0 * ((large.map fun x26 => 2 * x26).length : Int) ≤ (large.map fun x26 => 2 * x26).sum := sum_bound fun x hx => by
    obtain ⟨y, hy, rfl⟩ := List.mem_map.mp hx
    have := hL y hy
    omega
  have hs3 : (large.map fun x26 => 2 * x26).sum ≤ 8 * ((large.map fun x26 => 2 * x26).length : Int) := sum_top fun x hx => by
    obtain ⟨y, hy, rfl⟩ := List.mem_map.mp hx
    have := hL y hy
    omega
  rw [List.length_map] at hs3
  generalize (large.map fun x26 => 2 * x26).sum = sm at hs2 hs3
  obtain ⟨c, hc, hc1, hc0⟩ : ∃ c : Nat, (if 198 + pick extra 10 5 - sm > (0 : Int) then 198 + pick extra 10 5 - sm else (0 : Int)) = c ∧ c ≤ 202 ∧ 0 < c := by
    split
    · exact ⟨(198 + pick extra 10 5 - sm).toNat, by omega, by omega, by omega⟩
    · exact ⟨0, rfl, by omega, by omega⟩
  rw [hc, M.rangeN (by omega)]
  simp only [M.ok_bind]
  refine M.sat_bind (M.sat_fold (fun i (s : List T4I) => Good sides s ∧ s.length = i) ⟨⟨hsd, fun x hx => nomatch hx⟩, rfl⟩ fun i x s hx ⟨hg, hsl2⟩ => ?_) fun s ⟨h1, h2⟩ => M.sat_ok ⟨h1, hsl, by rw [rngL_len] at h2; show s.length ≤ 300; omega, by rw [rngL_len] at h2; show 0 < s.length; omega⟩
  obtain ⟨hi, hxi⟩ := rngL_get hx
  rw [M.asrt_pos (by omega), M.asrt_pos (cmul_small (by omega) (by omega))]
  simp only [M.ok_bind]
  rw [M.asrt_pos (by omega)]
  simp only [M.ok_bind]
  have a0 : 0 ≤ (7 * x + pick extra 11 60) % (sides.length : Int) := Int.emod_nonneg _ (by omega)
  have a1 : (7 * x + pick extra 11 60) % (sides.length : Int) < sides.length := Int.emod_lt_of_pos _ (by omega)
  have b0 : 0 ≤ (x * x + pick extra 12 60) % (sides.length : Int) := Int.emod_nonneg _ (by omega)
  have b1 : (x * x + pick extra 12 60) % (sides.length : Int) < sides.length := Int.emod_lt_of_pos _ (by omega)
  generalize (7 * x + pick extra 11 60) % (sides.length : Int) = one at a0 a1
  generalize (x * x + pick extra 12 60) % (sides.length : Int) = other at b0 b1
  rw [M.ix_getD 0 a0 a1, M.ix_getD 0 b0 b1]
  simp only [M.ok_bind]
  have ha := hsd _ (getD_mem a0 a1)
  have hb := hsd _ (getD_mem b0 b1)
  rw [M.asrt_pos (by omega), M.asrt_pos (by omega)]
  simp only [M.ok_bind]
  rw [M.push_small (by omega)]
  refine ⟨_, rfl, ⟨hsd, fun y hy => ?_⟩, by show (s ++ [_]).length = _; simp; omega⟩
  rcases List.mem_append.mp hy with hy | hy
  · exact hg.ti y hy
  · rw [List.mem_singleton] at hy
    subst hy
    exact ⟨a0, a1, Int.emod_nonneg _ (by omega), Int.emod_lt_of_pos _ (by omega), b0, b1, Int.emod_nonneg _ (by omega), Int.emod_lt_of_pos _ (by omega)⟩
theorem world_sat (d extra : List Int) (hd : d.length ≤ 5000) : M.sat (l_world_m d extra) fun r => Good r.1 r.2 ∧ r.1.length ≤ 200 ∧ r.2.length ≤ 300 ∧ (0 < r.2.length ∨ (tot 0 r.1 ≤ 100 ∧ (freeOf r.1 r.2).length ≤ 200)) := by
  unfold l_world_m
  simp only [pick_eq, M.ok_bind]
  refine M.sat_if (fun _ => ?_) fun _ => ?_
  · exact M.sat_mono (crowd_sat d extra) fun r ⟨a, b, c, e⟩ => ⟨a, b, c, .inl e⟩
  obtain ⟨dd, ed⟩ := rich_ok d extra (2 + pick extra 57 5) (3 + pick extra 58 7) hd
  rw [ed]
  simp only [M.ok_bind]
  refine M.sat_bind (web_sat dd (p := 6) (t := 9) (by decide) (by decide) (by decide) (by decide)) fun r ⟨h1, h2, h3⟩ => ?_
  obtain ⟨sides, ties⟩ := r
  simp at h1 h2 h3
  have rr := pick_range (d := extra) (k := 1) (m := 3) (by decide)
  rw [M.range_ok rr.1 (by omega)]
  simp only [M.ok_bind]
  refine M.sat_bind (M.sat_fold (fun i (s : List T4I) => Good sides s ∧ s.length = ties.length) ⟨h1, rfl⟩ fun i x s hx ⟨hg, hsl⟩ => ?_) fun s ⟨hg, hsl⟩ => M.sat_ok ⟨hg, by show sides.length ≤ 200; omega, by show s.length ≤ 300; omega, .inr ⟨?_, ?_⟩⟩
  · refine M.sat_if (fun hb => ?_) fun _ => M.sat_ok ⟨hg, hsl⟩
    have hpos : 0 < s.length := by simpa using hb
    have hs0 : 0 < sides.length := by
      have := hg.ti _ (List.getElem_mem hpos)
      omega
    have rp := pick_range (d := extra) (k := 2 + 4 * x) (m := (sides.length : Int)) (by omega)
    generalize pick extra (2 + 4 * x) (sides.length : Int) = pl at rp
    rw [M.ix_getD 0 rp.1 rp.2]
    simp only [M.ok_bind]
    have hsd := hg.sd _ (getD_mem rp.1 rp.2)
    have ra := pick_range (d := extra) (k := 3 + 4 * x) (m := sides.getD pl.toNat 0) (by omega)
    have rb := pick_range (d := extra) (k := 4 + 4 * x) (m := sides.getD pl.toNat 0) (by omega)
    have rc := pick_range (d := extra) (k := 5 + 4 * x) (m := (s.length : Int)) (by omega)
    generalize pick extra (5 + 4 * x) (s.length : Int) = at_ at rc
    rw [setIx_ok (j := at_.toNat) (by omega) (by omega)]
    simp only [M.ok_bind]
    refine M.sat_ok ⟨⟨hg.sd, fun y hy => ?_⟩, by rw [List.length_set]; exact hsl⟩
    rcases List.mem_or_eq_of_mem_set hy with hy | rfl
    · exact hg.ti y hy
    · exact ⟨rp.1, rp.2, ra.1, ra.2, rp.1, rp.2, rb.1, rb.2⟩
  · have := tot_le 0 sides fun s hs => (hg.sd s hs).2
    show tot 0 sides ≤ 100
    omega
  · have := free_le hg
    show (freeOf sides s).length ≤ 200
    omega
theorem law_plain (s : List Int) (hs : s.length ≤ 63) : law_m ⟨s⟩ = .ok true := by
  unfold law_m
  obtain ⟨c0, e0⟩ := seed_ok ⟨s⟩ (k := 0) (by decide)
  obtain ⟨c1, e1⟩ := seed_ok ⟨s⟩ (k := 1) (by decide)
  obtain ⟨c2, e2⟩ := seed_ok ⟨s⟩ (k := 2) (by decide)
  obtain ⟨d0, f0, l0⟩ := draws_len c0 (m := 60) (by decide) (by decide)
  obtain ⟨d1, f1, l1⟩ := draws_len c1 (m := 60) (by decide) (by decide)
  obtain ⟨d2, f2, l2⟩ := draws_len c2 (m := 60) (by decide) (by decide)
  rw [e0, e1, e2]
  simp only [M.ok_bind, f0, f1, f2]
  refine M.sat_val (M.sat_bind (world_sat d0 d1 (by omega)) fun r ⟨g, hl, ht, hbig⟩ => ?_)
  obtain ⟨sides, ties⟩ := r
  simp only at g hl ht hbig ⊢
  rw [init_ok g hl ht]
  simp only [M.ok_bind]
  rw [firsts_eq (by omega), refused_ok hl ht, refused_ok hl ht]
  simp only [M.ok_bind]
  rw [if_neg (by simp)]
  have hp := paired_eq g hl ht
  have hs0 : 100 < tot 0 sides → 0 < sides.length := fun h => by
    cases sides with
    | nil => exact absurd h (by show ¬ (100 : Int) < 0; decide)
    | cons => simp
  by_cases h1 : 100 < tot 0 sides
  · rw [if_pos (by simpa using h1), large_ok (hp.trans (init_bad1 h1)) (hs0 h1) (by rcases hbig with h | h; exact h; omega)]
    exact ⟨true, rfl, rfl⟩
  rw [if_neg (by simpa using h1), free_eq g hl ht]
  simp only [M.ok_bind]
  by_cases h2 : 200 < ((freeOf sides ties).length : Int)
  · have ht0 : 0 < ties.length := by rcases hbig with h | h; exact h; omega
    have := (g.ti _ (List.getElem_mem ht0))
    rw [if_pos (by simpa using h2), large_ok (hp.trans (init_bad2 h1 h2)) (by omega) ht0]
    exact ⟨true, rfl, rfl⟩
  rw [if_neg (by simpa using h2), graphs_right g hl ht (by omega) (by omega)]
  simp only [M.ok_bind]
  rw [if_neg (by simp)]
  obtain ⟨q, eq, k1, k2, k3⟩ := web_sat d2 (p := 4) (t := 6) (by decide) (by decide) (by decide) (by decide)
  obtain ⟨sides2, ties2⟩ := q
  simp at k1 k2 k3
  rw [eq]
  simp only [M.ok_bind]
  rw [init_ok k1 (by omega) (by omega)]
  simp only [M.ok_bind]
  rw [graphs_right k1 (by omega) (by omega) (by have := tot_le 0 sides2 fun s hs => (k1.sd s hs).2; omega) (by have := free_le k1; omega)]
  simp only [M.ok_bind]
  rw [if_neg (by simp)]
  exact ⟨true, rfl, rfl⟩
end K41

section
set_option maxHeartbeats 4000000
namespace K41
open PySem L2 G PM
/-! the text by places -/
def topS (i : Nat) : Stmt := PySem.Challenge.pw_comesapart_k41_graphs_of_places_and_ties.main.body.getD i (.Pass ⟨0, 0, 0, 0⟩)
abbrev s_l_seed : Stmt := topS 50
abbrev N_l_seed : List Str := ["_law_script", "_law_k"]
theorem sc_l_seed : FnScope N_l_seed ["_law_script", "_law_k"] (defScope s_l_seed) := ⟨rfl, rfl, rfl, by decide +kernel, rfl, by decide +kernel, by decide +kernel⟩
abbrev s_l_draws : Stmt := topS 51
abbrev N_l_draws : List Str := ["_law_cell", "_law_many", "_law_rest", "_law_exact", "_law_mixed", "_law_draws_here", "_law_k"]
theorem sc_l_draws : FnScope N_l_draws ["_law_cell", "_law_many"] (defScope s_l_draws) := ⟨rfl, rfl, rfl, by decide +kernel, rfl, by decide +kernel, by decide +kernel⟩
abbrev s_l_pick : Stmt := topS 52
abbrev N_l_pick : List Str := ["_law_draws_here", "_law_k", "_law_many"]
theorem sc_l_pick : FnScope N_l_pick ["_law_draws_here", "_law_k", "_law_many"] (defScope s_l_pick) := ⟨rfl, rfl, rfl, by decide +kernel, rfl, by decide +kernel, by decide +kernel⟩
abbrev s_l_crowd : Stmt := topS 55
abbrev N_l_crowd : List Str := ["_law_draws_here", "_law_extra", "_law_k", "_law_large_here", "_law_lacking", "_law_small", "_law_sides", "_law_ties", "_law_one", "_law_other", "_law_side", "_law_many"]
theorem sc_l_crowd : FnScope N_l_crowd ["_law_draws_here", "_law_extra"] (defScope s_l_crowd) := ⟨rfl, rfl, rfl, by decide +kernel, rfl, by decide +kernel, by decide +kernel⟩
abbrev s_l_rich : Stmt := topS 53
abbrev N_l_rich : List Str := ["_law_draws_here", "_law_more", "_law_many", "_law_count"]
theorem sc_l_rich : FnScope N_l_rich ["_law_draws_here", "_law_more", "_law_many", "_law_count"] (defScope s_l_rich) := ⟨rfl, rfl, rfl, by decide +kernel, rfl, by decide +kernel, by decide +kernel⟩
abbrev s_l_web : Stmt := topS 54
abbrev N_l_web : List Str := ["_law_draws_here", "_law_most_places", "_law_most_ties", "_law_menu", "_law_many", "_law_k", "_law_sides", "_law_ties", "_law_at", "_law_one", "_law_other", "_law_side"]
theorem sc_l_web : FnScope N_l_web ["_law_draws_here", "_law_most_places", "_law_most_ties"] (defScope s_l_web) := ⟨rfl, rfl, rfl, by decide +kernel, rfl, by decide +kernel, by decide +kernel⟩
abbrev s_l_world : Stmt := topS 56
abbrev N_l_world : List Str := ["_law_draws_here", "_law_extra", "_law_sides", "_law_ties", "_law_k", "_law_place", "_law_side", "_law_far"]
theorem sc_l_world : FnScope N_l_world ["_law_draws_here", "_law_extra"] (defScope s_l_world) := ⟨rfl, rfl, rfl, by decide +kernel, rfl, by decide +kernel, by decide +kernel⟩
abbrev s_p_check_end : Stmt := topS 11
abbrev N_p_check_end : List Str := ["sides", "place", "side"]
theorem sc_p_check_end : FnScope N_p_check_end ["sides", "place", "side"] (defScope s_p_check_end) := ⟨rfl, rfl, rfl, by decide +kernel, rfl, by decide +kernel, by decide +kernel⟩
abbrev s_m_WebX_initX : Stmt := (clsB (topS 12)).getD 3 (.Pass ⟨0, 0, 0, 0⟩)
abbrev N_m_WebX_initX : List Str := ["self", "sides", "ties", "place", "many", "one", "side", "other", "far_side"]
theorem sc_m_WebX_initX : FnScope N_m_WebX_initX ["self", "sides", "ties"] (defScope s_m_WebX_initX) := ⟨rfl, rfl, rfl, by decide +kernel, rfl, by decide +kernel, by decide +kernel⟩
abbrev s_l_firsts : Stmt := topS 58
abbrev N_l_firsts : List Str := ["_law_sides", "_law_firsts_here", "_law_many", "_law_count"]
theorem sc_l_firsts : FnScope N_l_firsts ["_law_sides"] (defScope s_l_firsts) := ⟨rfl, rfl, rfl, by decide +kernel, rfl, by decide +kernel, by decide +kernel⟩
abbrev s_m_WebX_containsX : Stmt := (clsB (topS 12)).getD 11 (.Pass ⟨0, 0, 0, 0⟩)
abbrev N_m_WebX_containsX : List Str := ["self", "place"]
theorem sc_m_WebX_containsX : FnScope N_m_WebX_containsX ["self", "place"] (defScope s_m_WebX_containsX) := ⟨rfl, rfl, rfl, by decide +kernel, rfl, by decide +kernel, by decide +kernel⟩
abbrev s_p_check_place : Stmt := topS 40
abbrev N_p_check_place : List Str := ["web", "place"]
theorem sc_p_check_place : FnScope N_p_check_place ["web", "place"] (defScope s_p_check_place) := ⟨rfl, rfl, rfl, by decide +kernel, rfl, by decide +kernel, by decide +kernel⟩
abbrev s_p_first_pairs : Stmt := topS 33
abbrev N_p_first_pairs : List Str := ["web", "firsts", "many"]
theorem sc_p_first_pairs : FnScope N_p_first_pairs ["web"] (defScope s_p_first_pairs) := ⟨rfl, rfl, rfl, by decide +kernel, rfl, by decide +kernel, by decide +kernel⟩
abbrev s_m_WebX_iterX : Stmt := (clsB (topS 12)).getD 12 (.Pass ⟨0, 0, 0, 0⟩)
abbrev N_m_WebX_iterX : List Str := ["self"]
theorem sc_m_WebX_iterX : FnScope N_m_WebX_iterX ["self"] (defScope s_m_WebX_iterX) := ⟨rfl, rfl, rfl, by decide +kernel, rfl, by decide +kernel, by decide +kernel⟩
abbrev s_p_seat : Stmt := topS 34
abbrev N_p_seat : List Str := ["web", "first", "place", "side"]
theorem sc_p_seat : FnScope N_p_seat ["web", "first", "place", "side"] (defScope s_p_seat) := ⟨rfl, rfl, rfl, by decide +kernel, rfl, by decide +kernel, by decide +kernel⟩
abbrev s_p_inner_ties : Stmt := topS 36
abbrev N_p_inner_ties : List Str := ["first", "many", "middle", "side", "end"]
theorem sc_p_inner_ties : FnScope N_p_inner_ties ["first", "many"] (defScope s_p_inner_ties) := ⟨rfl, rfl, rfl, by decide +kernel, rfl, by decide +kernel, by decide +kernel⟩
abbrev s_m_PairedWebX_initX : Stmt := (clsB (topS 31)).getD 2 (.Pass ⟨0, 0, 0, 0⟩)
abbrev N_m_PairedWebX_initX : List Str := ["self", "pairs", "free", "tie", "point", "one", "other"]
theorem sc_m_PairedWebX_initX : FnScope N_m_PairedWebX_initX ["self", "pairs", "free"] (defScope s_m_PairedWebX_initX) := ⟨rfl, rfl, rfl, by decide +kernel, rfl, by decide +kernel, by decide +kernel⟩
abbrev s_p_paired_of_web : Stmt := topS 37
abbrev N_p_paired_of_web : List Str := ["web", "firsts", "free", "one", "side", "other", "far_side", "place", "many"]
theorem sc_p_paired_of_web : FnScope N_p_paired_of_web ["web"] (defScope s_p_paired_of_web) := ⟨rfl, rfl, rfl, by decide +kernel, rfl, by decide +kernel, by decide +kernel⟩
abbrev s_p_pair_at : Stmt := topS 35
abbrev N_p_pair_at : List Str := ["web", "place", "first"]
theorem sc_p_pair_at : FnScope N_p_pair_at ["web", "place"] (defScope s_p_pair_at) := ⟨rfl, rfl, rfl, by decide +kernel, rfl, by decide +kernel, by decide +kernel⟩
abbrev s_m_PairedWeb_points : Stmt := (clsB (topS 31)).getD 4 (.Pass ⟨0, 0, 0, 0⟩)
abbrev N_m_PairedWeb_points : List Str := ["self"]
theorem sc_m_PairedWeb_points : FnScope N_m_PairedWeb_points ["self"] (defScope s_m_PairedWeb_points) := ⟨rfl, rfl, rfl, by decide +kernel, rfl, by decide +kernel, by decide +kernel⟩
abbrev s_m_PairedWeb_all_ties : Stmt := (clsB (topS 31)).getD 5 (.Pass ⟨0, 0, 0, 0⟩)
abbrev N_m_PairedWeb_all_ties : List Str := ["self", "pair"]
theorem sc_m_PairedWeb_all_ties : FnScope N_m_PairedWeb_all_ties ["self"] (defScope s_m_PairedWeb_all_ties) := ⟨rfl, rfl, rfl, by decide +kernel, rfl, by decide +kernel, by decide +kernel⟩
abbrev s_p_place_graph : Stmt := topS 42
abbrev N_p_place_graph : List Str := ["web", "place", "paired", "pair", "number", "tie"]
theorem sc_p_place_graph : FnScope N_p_place_graph ["web", "place"] (defScope s_p_place_graph) := ⟨rfl, rfl, rfl, by decide +kernel, rfl, by decide +kernel, by decide +kernel⟩
abbrev s_p_check_tie : Stmt := topS 41
abbrev N_p_check_tie : List Str := ["web", "tie"]
theorem sc_p_check_tie : FnScope N_p_check_tie ["web", "tie"] (defScope s_p_check_tie) := ⟨rfl, rfl, rfl, by decide +kernel, rfl, by decide +kernel, by decide +kernel⟩
abbrev s_p_tie_graph : Stmt := topS 43
abbrev N_p_tie_graph : List Str := ["web", "tie", "paired", "point"]
theorem sc_p_tie_graph : FnScope N_p_tie_graph ["web", "tie"] (defScope s_p_tie_graph) := ⟨rfl, rfl, rfl, by decide +kernel, rfl, by decide +kernel, by decide +kernel⟩
abbrev s_p_cycle_through_place : Stmt := topS 45
abbrev N_p_cycle_through_place : List Str := ["web", "place", "paired", "pair", "ties", "one", "other", "points", "mates", "odd", "chosen", "tie", "path", "point", "number"]
theorem sc_p_cycle_through_place : FnScope N_p_cycle_through_place ["web", "place"] (defScope s_p_cycle_through_place) := ⟨rfl, rfl, rfl, by decide +kernel, rfl, by decide +kernel, by decide +kernel⟩
abbrev s_p_tie_answer : Stmt := topS 46
abbrev N_p_tie_answer : List Str := ["web", "paired", "tie", "one", "other", "word", "paper"]
theorem sc_p_tie_answer : FnScope N_p_tie_answer ["web", "paired", "tie"] (defScope s_p_tie_answer) := ⟨rfl, rfl, rfl, by decide +kernel, rfl, by decide +kernel, by decide +kernel⟩
abbrev s_p_cycle_through_tie : Stmt := topS 47
abbrev N_p_cycle_through_tie : List Str := ["web", "tie"]
theorem sc_p_cycle_through_tie : FnScope N_p_cycle_through_tie ["web", "tie"] (defScope s_p_cycle_through_tie) := ⟨rfl, rfl, rfl, by decide +kernel, rfl, by decide +kernel, by decide +kernel⟩
abbrev s_p_on_cycles : Stmt := topS 48
abbrev N_p_on_cycles : List Str := ["web", "paired", "ties", "tie", "word", "steps", "places", "at", "step"]
theorem sc_p_on_cycles : FnScope N_p_on_cycles ["web"] (defScope s_p_on_cycles) := ⟨rfl, rfl, rfl, by decide +kernel, rfl, by decide +kernel, by decide +kernel⟩
abbrev s_l_told : Stmt := topS 61
abbrev N_l_told : List Str := ["_law_deed", "_law_web_here", "_law_number", "e", "_law_classes"]
theorem sc_l_told : FnScope N_l_told ["_law_deed", "_law_web_here", "_law_number"] (defScope s_l_told) := ⟨rfl, rfl, rfl, by decide +kernel, rfl, by decide +kernel, by decide +kernel⟩
abbrev s_l_same : Stmt := topS 57
abbrev N_l_same : List Str := ["_law_told_here", "_law_due_here", "_law_k"]
theorem sc_l_same : FnScope N_l_same ["_law_told_here", "_law_due_here"] (defScope s_l_same) := ⟨rfl, rfl, rfl, by decide +kernel, rfl, by decide +kernel, by decide +kernel⟩
abbrev s_l_refused : Stmt := topS 62
abbrev N_l_refused : List Str := ["_law_web_here", "_law_sides", "_law_ties", "_law_draws_here", "_law_at", "_law_k", "_law_number", "_law_place", "_law_deed", "_law_tie"]
theorem sc_l_refused : FnScope N_l_refused ["_law_web_here", "_law_sides", "_law_ties", "_law_draws_here", "_law_at"] (defScope s_l_refused) := ⟨rfl, rfl, rfl, by decide +kernel, rfl, by decide +kernel, by decide +kernel⟩
abbrev s_l_large : Stmt := topS 63
abbrev N_l_large : List Str := ["_law_web_here", "_law_sides", "_law_ties", "_law_limit", "_law_deed", "_law_number"]
theorem sc_l_large : FnScope N_l_large ["_law_web_here", "_law_sides", "_law_ties", "_law_limit"] (defScope s_l_large) := ⟨rfl, rfl, rfl, by decide +kernel, rfl, by decide +kernel, by decide +kernel⟩
abbrev s_l_point : Stmt := topS 59
abbrev N_l_point : List Str := ["_law_sides", "_law_firsts_here", "_law_place", "_law_side"]
theorem sc_l_point : FnScope N_l_point ["_law_sides", "_law_firsts_here", "_law_place", "_law_side"] (defScope s_l_point) := ⟨rfl, rfl, rfl, by decide +kernel, rfl, by decide +kernel, by decide +kernel⟩
abbrev s_l_free : Stmt := topS 60
abbrev N_l_free : List Str := ["_law_sides", "_law_ties", "_law_firsts_here", "_law_free_here", "_law_one", "_law_side", "_law_other", "_law_far", "_law_place", "_law_middle", "_law_inner"]
theorem sc_l_free : FnScope N_l_free ["_law_sides", "_law_ties"] (defScope s_l_free) := ⟨rfl, rfl, rfl, by decide +kernel, rfl, by decide +kernel, by decide +kernel⟩
abbrev s_l_due : Stmt := topS 64
abbrev N_l_due : List Str := ["_law_deed", "_law_sides", "_law_ties", "_law_number", "_law_firsts_here", "_law_many", "_law_free_here", "_law_points", "_law_left_out", "_law_pairs", "_law_pair", "_law_point_here"]
theorem sc_l_due : FnScope N_l_due ["_law_deed", "_law_sides", "_law_ties", "_law_number"] (defScope s_l_due) := ⟨rfl, rfl, rfl, by decide +kernel, rfl, by decide +kernel, by decide +kernel⟩
abbrev s_l_graphs_right : Stmt := topS 65
abbrev N_l_graphs_right : List Str := ["_law_web_here", "_law_sides", "_law_ties", "_law_deed", "_law_size", "_law_count", "_law_k", "_law_number", "_law_told_here", "_law_due_here", "_law_points", "_law_rest"]
theorem sc_l_graphs_right : FnScope N_l_graphs_right ["_law_web_here", "_law_sides", "_law_ties"] (defScope s_l_graphs_right) := ⟨rfl, rfl, rfl, by decide +kernel, rfl, by decide +kernel, by decide +kernel⟩
abbrev s_law : Stmt := topS 66
abbrev N_law : List Str := ["_law_script", "_law_draws_here", "_law_extra", "_law_sides", "_law_ties", "_law_web_here", "_law_many", "_law_other_sides", "_law_other_ties", "_law_other"]
theorem sc_law : FnScope N_law ["_law_script"] (defScope s_law) := ⟨rfl, rfl, rfl, by decide +kernel, rfl, by decide +kernel, by decide +kernel⟩
/-- what the top has written -/
structure Txt (K : PySem.W.Frag) (mg : Str → Option Value) where
  A : CA3
  b_ValueError : mg "ValueError" = none
  b_abs : mg "abs" = none
  b_bool : mg "bool" = none
  b_enumerate : mg "enumerate" = none
  b_int : mg "int" = none
  b_isinstance : mg "isinstance" = none
  b_iter : mg "iter" = none
  b_len : mg "len" = none
  b_list : mg "list" = none
  b_max : mg "max" = none
  b_range : mg "range" = none
  b_str : mg "str" = none
  b_sum : mg "sum" = none
  b_tuple : mg "tuple" = none
  g_BadSides : mg "BadSides" = some (.ref (A.tx .BadSides))
  g_ComesapartError : mg "ComesapartError" = some (.ref (A.tx .ComesapartError))
  g_PairedWeb : mg "PairedWeb" = some (.ref (A.ob .PairedWeb))
  c_PairedWeb : Cls K (A.ob .PairedWeb)
  g_TooLarge : mg "TooLarge" = some (.ref (A.tx .TooLarge))
  g_UnknownPlace : mg "UnknownPlace" = some (.ref (A.tx .UnknownPlace))
  g_UnknownPoint : mg "UnknownPoint" = some (.ref (A.tx .UnknownPoint))
  g_UnknownSide : mg "UnknownSide" = some (.ref (A.tx .UnknownSide))
  g_UnknownTie : mg "UnknownTie" = some (.ref (A.tx .UnknownTie))
  g_Web : mg "Web" = some (.ref (A.ob .Web))
  c_Web : Cls K (A.ob .Web)
  n_PairedWeb_free : NoAttr K (A.ob .PairedWeb) "free"
  n_PairedWeb_pairs : NoAttr K (A.ob .PairedWeb) "pairs"
  n_Web_sides : NoAttr K (A.ob .Web) "sides"
  n_Web_ties : NoAttr K (A.ob .Web) "ties"
  u_PairedWeb_MOST_FREE : Value
  k_PairedWeb_MOST_FREE : Con K (A.ob .PairedWeb) "MOST_FREE" (.int 200) u_PairedWeb_MOST_FREE
  u_PairedWeb_MOST_PAIRS : Value
  k_PairedWeb_MOST_PAIRS : Con K (A.ob .PairedWeb) "MOST_PAIRS" (.int 100) u_PairedWeb_MOST_PAIRS
  u_Web_MOST_PLACES : Value
  k_Web_MOST_PLACES : Con K (A.ob .Web) "MOST_PLACES" (.int 200) u_Web_MOST_PLACES
  u_Web_MOST_SIDES : Value
  k_Web_MOST_SIDES : Con K (A.ob .Web) "MOST_SIDES" (.int 4) u_Web_MOST_SIDES
  u_Web_MOST_TIES : Value
  k_Web_MOST_TIES : Con K (A.ob .Web) "MOST_TIES" (.int 300) u_Web_MOST_TIES
  a_l_seed : Addr
  f_l_seed : FuncData
  F_l_seed : Fun K "_law_seed" "_law_seed" s_l_seed a_l_seed f_l_seed
  d_l_seed : Binds K f_l_seed ["_law_script", "_law_k"] []
  g_l_seed : mg "_law_seed" = some (.ref a_l_seed)
  a_l_draws : Addr
  f_l_draws : FuncData
  F_l_draws : Fun K "_law_draws" "_law_draws" s_l_draws a_l_draws f_l_draws
  d_l_draws : Binds K f_l_draws ["_law_cell", "_law_many"] []
  g_l_draws : mg "_law_draws" = some (.ref a_l_draws)
  a_l_pick : Addr
  f_l_pick : FuncData
  F_l_pick : Fun K "_law_pick" "_law_pick" s_l_pick a_l_pick f_l_pick
  d_l_pick : Binds K f_l_pick ["_law_draws_here", "_law_k", "_law_many"] []
  g_l_pick : mg "_law_pick" = some (.ref a_l_pick)
  a_l_crowd : Addr
  f_l_crowd : FuncData
  F_l_crowd : Fun K "_law_crowd" "_law_crowd" s_l_crowd a_l_crowd f_l_crowd
  d_l_crowd : Binds K f_l_crowd ["_law_draws_here", "_law_extra"] []
  g_l_crowd : mg "_law_crowd" = some (.ref a_l_crowd)
  a_l_rich : Addr
  f_l_rich : FuncData
  F_l_rich : Fun K "_law_rich" "_law_rich" s_l_rich a_l_rich f_l_rich
  d_l_rich : Binds K f_l_rich ["_law_draws_here", "_law_more", "_law_many", "_law_count"] []
  g_l_rich : mg "_law_rich" = some (.ref a_l_rich)
  a_l_web : Addr
  f_l_web : FuncData
  F_l_web : Fun K "_law_web" "_law_web" s_l_web a_l_web f_l_web
  d_l_web : Binds K f_l_web ["_law_draws_here", "_law_most_places", "_law_most_ties"] []
  g_l_web : mg "_law_web" = some (.ref a_l_web)
  a_l_world : Addr
  f_l_world : FuncData
  F_l_world : Fun K "_law_world" "_law_world" s_l_world a_l_world f_l_world
  d_l_world : Binds K f_l_world ["_law_draws_here", "_law_extra"] []
  g_l_world : mg "_law_world" = some (.ref a_l_world)
  a_p_check_end : Addr
  f_p_check_end : FuncData
  F_p_check_end : Fun K "check_end" "check_end" s_p_check_end a_p_check_end f_p_check_end
  d_p_check_end : Binds K f_p_check_end ["sides", "place", "side"] []
  g_p_check_end : mg "check_end" = some (.ref a_p_check_end)
  a_m_WebX_initX : Addr
  f_m_WebX_initX : FuncData
  F_m_WebX_initX : Fun K "__init__" "Web.__init__" s_m_WebX_initX a_m_WebX_initX f_m_WebX_initX
  d_m_WebX_initX : Binds K f_m_WebX_initX ["self", "sides", "ties"] []
  mk_Web : Mk K (A.ob .Web) a_m_WebX_initX
  a_l_firsts : Addr
  f_l_firsts : FuncData
  F_l_firsts : Fun K "_law_firsts" "_law_firsts" s_l_firsts a_l_firsts f_l_firsts
  d_l_firsts : Binds K f_l_firsts ["_law_sides"] []
  g_l_firsts : mg "_law_firsts" = some (.ref a_l_firsts)
  a_m_WebX_containsX : Addr
  f_m_WebX_containsX : FuncData
  F_m_WebX_containsX : Fun K "__contains__" "Web.__contains__" s_m_WebX_containsX a_m_WebX_containsX f_m_WebX_containsX
  d_m_WebX_containsX : Binds K f_m_WebX_containsX ["self", "place"] []
  me_m_WebX_containsX : Meth K (A.ob .Web) "__contains__" a_m_WebX_containsX
  a_p_check_place : Addr
  f_p_check_place : FuncData
  F_p_check_place : Fun K "check_place" "check_place" s_p_check_place a_p_check_place f_p_check_place
  d_p_check_place : Binds K f_p_check_place ["web", "place"] []
  g_p_check_place : mg "check_place" = some (.ref a_p_check_place)
  a_p_first_pairs : Addr
  f_p_first_pairs : FuncData
  F_p_first_pairs : Fun K "first_pairs" "first_pairs" s_p_first_pairs a_p_first_pairs f_p_first_pairs
  d_p_first_pairs : Binds K f_p_first_pairs ["web"] []
  g_p_first_pairs : mg "first_pairs" = some (.ref a_p_first_pairs)
  a_m_WebX_iterX : Addr
  f_m_WebX_iterX : FuncData
  F_m_WebX_iterX : Fun K "__iter__" "Web.__iter__" s_m_WebX_iterX a_m_WebX_iterX f_m_WebX_iterX
  d_m_WebX_iterX : Binds K f_m_WebX_iterX ["self"] []
  me_m_WebX_iterX : Meth K (A.ob .Web) "__iter__" a_m_WebX_iterX
  a_p_seat : Addr
  f_p_seat : FuncData
  F_p_seat : Fun K "seat" "seat" s_p_seat a_p_seat f_p_seat
  d_p_seat : Binds K f_p_seat ["web", "first", "place", "side"] []
  g_p_seat : mg "seat" = some (.ref a_p_seat)
  a_p_inner_ties : Addr
  f_p_inner_ties : FuncData
  F_p_inner_ties : Fun K "inner_ties" "inner_ties" s_p_inner_ties a_p_inner_ties f_p_inner_ties
  d_p_inner_ties : Binds K f_p_inner_ties ["first", "many"] []
  g_p_inner_ties : mg "inner_ties" = some (.ref a_p_inner_ties)
  a_m_PairedWebX_initX : Addr
  f_m_PairedWebX_initX : FuncData
  F_m_PairedWebX_initX : Fun K "__init__" "PairedWeb.__init__" s_m_PairedWebX_initX a_m_PairedWebX_initX f_m_PairedWebX_initX
  d_m_PairedWebX_initX : Binds K f_m_PairedWebX_initX ["self", "pairs", "free"] []
  mk_PairedWeb : Mk K (A.ob .PairedWeb) a_m_PairedWebX_initX
  a_p_paired_of_web : Addr
  f_p_paired_of_web : FuncData
  F_p_paired_of_web : Fun K "paired_of_web" "paired_of_web" s_p_paired_of_web a_p_paired_of_web f_p_paired_of_web
  d_p_paired_of_web : Binds K f_p_paired_of_web ["web"] []
  g_p_paired_of_web : mg "paired_of_web" = some (.ref a_p_paired_of_web)
  a_p_pair_at : Addr
  f_p_pair_at : FuncData
  F_p_pair_at : Fun K "pair_at" "pair_at" s_p_pair_at a_p_pair_at f_p_pair_at
  d_p_pair_at : Binds K f_p_pair_at ["web", "place"] []
  g_p_pair_at : mg "pair_at" = some (.ref a_p_pair_at)
  a_m_PairedWeb_points : Addr
  f_m_PairedWeb_points : FuncData
  F_m_PairedWeb_points : Fun K "points" "PairedWeb.points" s_m_PairedWeb_points a_m_PairedWeb_points f_m_PairedWeb_points
  d_m_PairedWeb_points : Binds K f_m_PairedWeb_points ["self"] []
  q_m_PairedWeb_points : Addr
  p_m_PairedWeb_points : PropOf K (A.ob .PairedWeb) "points" q_m_PairedWeb_points a_m_PairedWeb_points
  a_m_PairedWeb_all_ties : Addr
  f_m_PairedWeb_all_ties : FuncData
  F_m_PairedWeb_all_ties : Fun K "all_ties" "PairedWeb.all_ties" s_m_PairedWeb_all_ties a_m_PairedWeb_all_ties f_m_PairedWeb_all_ties
  d_m_PairedWeb_all_ties : Binds K f_m_PairedWeb_all_ties ["self"] []
  q_m_PairedWeb_all_ties : Addr
  p_m_PairedWeb_all_ties : PropOf K (A.ob .PairedWeb) "all_ties" q_m_PairedWeb_all_ties a_m_PairedWeb_all_ties
  a_p_place_graph : Addr
  f_p_place_graph : FuncData
  F_p_place_graph : Fun K "place_graph" "place_graph" s_p_place_graph a_p_place_graph f_p_place_graph
  d_p_place_graph : Binds K f_p_place_graph ["web", "place"] []
  g_p_place_graph : mg "place_graph" = some (.ref a_p_place_graph)
  a_p_check_tie : Addr
  f_p_check_tie : FuncData
  F_p_check_tie : Fun K "check_tie" "check_tie" s_p_check_tie a_p_check_tie f_p_check_tie
  d_p_check_tie : Binds K f_p_check_tie ["web", "tie"] []
  g_p_check_tie : mg "check_tie" = some (.ref a_p_check_tie)
  a_p_tie_graph : Addr
  f_p_tie_graph : FuncData
  F_p_tie_graph : Fun K "tie_graph" "tie_graph" s_p_tie_graph a_p_tie_graph f_p_tie_graph
  d_p_tie_graph : Binds K f_p_tie_graph ["web", "tie"] []
  g_p_tie_graph : mg "tie_graph" = some (.ref a_p_tie_graph)
  a_p_cycle_through_place : Addr
  f_p_cycle_through_place : FuncData
  F_p_cycle_through_place : Fun K "cycle_through_place" "cycle_through_place" s_p_cycle_through_place a_p_cycle_through_place f_p_cycle_through_place
  d_p_cycle_through_place : Binds K f_p_cycle_through_place ["web", "place"] []
  g_p_cycle_through_place : mg "cycle_through_place" = some (.ref a_p_cycle_through_place)
  a_p_tie_answer : Addr
  f_p_tie_answer : FuncData
  F_p_tie_answer : Fun K "tie_answer" "tie_answer" s_p_tie_answer a_p_tie_answer f_p_tie_answer
  d_p_tie_answer : Binds K f_p_tie_answer ["web", "paired", "tie"] []
  g_p_tie_answer : mg "tie_answer" = some (.ref a_p_tie_answer)
  a_p_cycle_through_tie : Addr
  f_p_cycle_through_tie : FuncData
  F_p_cycle_through_tie : Fun K "cycle_through_tie" "cycle_through_tie" s_p_cycle_through_tie a_p_cycle_through_tie f_p_cycle_through_tie
  d_p_cycle_through_tie : Binds K f_p_cycle_through_tie ["web", "tie"] []
  g_p_cycle_through_tie : mg "cycle_through_tie" = some (.ref a_p_cycle_through_tie)
  a_p_on_cycles : Addr
  f_p_on_cycles : FuncData
  F_p_on_cycles : Fun K "on_cycles" "on_cycles" s_p_on_cycles a_p_on_cycles f_p_on_cycles
  d_p_on_cycles : Binds K f_p_on_cycles ["web"] []
  g_p_on_cycles : mg "on_cycles" = some (.ref a_p_on_cycles)
  a_l_told : Addr
  f_l_told : FuncData
  F_l_told : Fun K "_law_told" "_law_told" s_l_told a_l_told f_l_told
  d_l_told : Binds K f_l_told ["_law_deed", "_law_web_here", "_law_number"] []
  g_l_told : mg "_law_told" = some (.ref a_l_told)
  a_l_same : Addr
  f_l_same : FuncData
  F_l_same : Fun K "_law_same" "_law_same" s_l_same a_l_same f_l_same
  d_l_same : Binds K f_l_same ["_law_told_here", "_law_due_here"] []
  g_l_same : mg "_law_same" = some (.ref a_l_same)
  a_l_refused : Addr
  f_l_refused : FuncData
  F_l_refused : Fun K "_law_refused" "_law_refused" s_l_refused a_l_refused f_l_refused
  d_l_refused : Binds K f_l_refused ["_law_web_here", "_law_sides", "_law_ties", "_law_draws_here", "_law_at"] []
  g_l_refused : mg "_law_refused" = some (.ref a_l_refused)
  a_l_large : Addr
  f_l_large : FuncData
  F_l_large : Fun K "_law_large" "_law_large" s_l_large a_l_large f_l_large
  d_l_large : Binds K f_l_large ["_law_web_here", "_law_sides", "_law_ties", "_law_limit"] []
  g_l_large : mg "_law_large" = some (.ref a_l_large)
  a_l_point : Addr
  f_l_point : FuncData
  F_l_point : Fun K "_law_point" "_law_point" s_l_point a_l_point f_l_point
  d_l_point : Binds K f_l_point ["_law_sides", "_law_firsts_here", "_law_place", "_law_side"] []
  g_l_point : mg "_law_point" = some (.ref a_l_point)
  a_l_free : Addr
  f_l_free : FuncData
  F_l_free : Fun K "_law_free" "_law_free" s_l_free a_l_free f_l_free
  d_l_free : Binds K f_l_free ["_law_sides", "_law_ties"] []
  g_l_free : mg "_law_free" = some (.ref a_l_free)
  a_l_due : Addr
  f_l_due : FuncData
  F_l_due : Fun K "_law_due" "_law_due" s_l_due a_l_due f_l_due
  d_l_due : Binds K f_l_due ["_law_deed", "_law_sides", "_law_ties", "_law_number"] []
  g_l_due : mg "_law_due" = some (.ref a_l_due)
  a_l_graphs_right : Addr
  f_l_graphs_right : FuncData
  F_l_graphs_right : Fun K "_law_graphs_right" "_law_graphs_right" s_l_graphs_right a_l_graphs_right f_l_graphs_right
  d_l_graphs_right : Binds K f_l_graphs_right ["_law_web_here", "_law_sides", "_law_ties"] []
  g_l_graphs_right : mg "_law_graphs_right" = some (.ref a_l_graphs_right)
  a_law : Addr
  f_law : FuncData
  F_law : Fun K "law" "law" s_law a_law f_law
  d_law : Binds K f_law ["_law_script"] []
  g_law : mg "law" = some (.ref a_law)
  i_BadSides : Addr
  fx_BadSides : FuncData
  x_BadSides : XCls K (A.tx .BadSides) i_BadSides
  dx_BadSides : Binds K fx_BadSides ["self", "place"] []
  i_TooLarge : Addr
  fx_TooLarge : FuncData
  x_TooLarge : XCls K (A.tx .TooLarge) i_TooLarge
  dx_TooLarge : Binds K fx_TooLarge ["self", "limit"] []
  i_UnknownPlace : Addr
  fx_UnknownPlace : FuncData
  x_UnknownPlace : XCls K (A.tx .UnknownPlace) i_UnknownPlace
  dx_UnknownPlace : Binds K fx_UnknownPlace ["self", "place"] []
  i_UnknownPoint : Addr
  fx_UnknownPoint : FuncData
  x_UnknownPoint : XCls K (A.tx .UnknownPoint) i_UnknownPoint
  dx_UnknownPoint : Binds K fx_UnknownPoint ["self", "point"] []
  i_UnknownSide : Addr
  fx_UnknownSide : FuncData
  x_UnknownSide : XCls K (A.tx .UnknownSide) i_UnknownSide
  dx_UnknownSide : Binds K fx_UnknownSide ["self", "place", "side"] []
  i_UnknownTie : Addr
  fx_UnknownTie : FuncData
  x_UnknownTie : XCls K (A.tx .UnknownTie) i_UnknownTie
  dx_UnknownTie : Binds K fx_UnknownTie ["self", "tie"] []
  no_TooLarge_limit : PySem.W.findIn K (.ref (A.tx .TooLarge)) "limit" = some none
  no_UnknownPlace_place : PySem.W.findIn K (.ref (A.tx .UnknownPlace)) "place" = some none
  no_UnknownTie_tie : PySem.W.findIn K (.ref (A.tx .UnknownTie)) "tie" = some none
  xf_TooLarge : XfC K (A.tx .TooLarge)
  xf_UnknownPlace : XfC K (A.tx .UnknownPlace)
  xf_UnknownTie : XfC K (A.tx .UnknownTie)
  exc : ∀ c, kn c = true → ExcC K (A.tx c)
  hx_ComesapartError : ∀ c, kn c = true → PySem.W.exmOne K (.ref (A.tx c)) (.ref (A.tx .ComesapartError)) = some (XC.isA c .ComesapartError)
  kx_TooLarge : ∀ c, kn c = true → PySem.W.kitOne K (.ref (A.tx c)) (.ref (A.tx .TooLarge)) = some (XC.isA c .TooLarge)
  kx_UnknownPlace : ∀ c, kn c = true → PySem.W.kitOne K (.ref (A.tx c)) (.ref (A.tx .UnknownPlace)) = some (XC.isA c .UnknownPlace)
  kx_UnknownTie : ∀ c, kn c = true → PySem.W.kitOne K (.ref (A.tx c)) (.ref (A.tx .UnknownTie)) = some (XC.isA c .UnknownTie)
  kx_ValueError : ∀ c, kn c = true → PySem.W.kitOne K (.ref (A.tx c)) (.type "ValueError") = some true
theorem hu64 {A : Around} {k : Nat} (hr : Room k A) : A.units + 64 < cLine := by have := hr.un; omega
def sp_l_seed (C : GCtx) (A : CA3) : Sp := fun vs H Q E => ∃ script : (Sq Int), ∃ k : Int, (l_seed_m script k).nb ∧ FnX C [.val (dSq (d := dInt)) script, .val dInt k] (fun c => ∃ r, c = .val dInt r ∧ (l_seed_m script k) = .ok r) (fun x => ∃ px, (l_seed_m script k) = .exc px ∧ x = px.x A.tx) vs H Q E
theorem sp_l_seed_len {C : GCtx} {A : CA3} {vs H Q E} (h : sp_l_seed C A vs H Q E) : vs.length = 2 := by obtain ⟨_, _, _, h⟩ := h; exact h.len
theorem hs_l_seed {C : GCtx} {A : CA3} : ∀ script k, (l_seed_m script k).nb → SpX C (sp_l_seed C A) [.val (dSq (d := dInt)) script, .val dInt k] (fun c => ∃ r, c = .val dInt r ∧ (l_seed_m script k) = .ok r) (fun x => ∃ px, (l_seed_m script k) = .exc px ∧ x = px.x A.tx) := fun script k nb vs H Q E h => ⟨script, k, nb, h⟩
def sp_l_draws (C : GCtx) (A : CA3) : Sp := fun vs H Q E => ∃ cell : Int, ∃ many : Int, (l_draws_m cell many).nb ∧ FnX C [.val dInt cell, .val dInt many] (fun c => ∃ r, c = .own (dList (d := dInt)) (oList (d := dInt)) none r ∧ (l_draws_m cell many) = .ok r) (fun x => ∃ px, (l_draws_m cell many) = .exc px ∧ x = px.x A.tx) vs H Q E
theorem sp_l_draws_len {C : GCtx} {A : CA3} {vs H Q E} (h : sp_l_draws C A vs H Q E) : vs.length = 2 := by obtain ⟨_, _, _, h⟩ := h; exact h.len
theorem hs_l_draws {C : GCtx} {A : CA3} : ∀ cell many, (l_draws_m cell many).nb → SpX C (sp_l_draws C A) [.val dInt cell, .val dInt many] (fun c => ∃ r, c = .own (dList (d := dInt)) (oList (d := dInt)) none r ∧ (l_draws_m cell many) = .ok r) (fun x => ∃ px, (l_draws_m cell many) = .exc px ∧ x = px.x A.tx) := fun cell many nb vs H Q E h => ⟨cell, many, nb, h⟩
def sp_l_pick (C : GCtx) (A : CA3) : Sp := fun vs H Q E => ∃ draws_here : (List Int), ∃ k : Int, ∃ many : Int, (l_pick_m draws_here k many).nb ∧ FnX C [.val (dList (d := dInt)) draws_here, .val dInt k, .val dInt many] (fun c => ∃ r, c = .val dInt r ∧ (l_pick_m draws_here k many) = .ok r) (fun x => ∃ px, (l_pick_m draws_here k many) = .exc px ∧ x = px.x A.tx) vs H Q E
theorem sp_l_pick_len {C : GCtx} {A : CA3} {vs H Q E} (h : sp_l_pick C A vs H Q E) : vs.length = 3 := by obtain ⟨_, _, _, _, h⟩ := h; exact h.len
theorem hs_l_pick {C : GCtx} {A : CA3} : ∀ draws_here k many, (l_pick_m draws_here k many).nb → SpX C (sp_l_pick C A) [.val (dList (d := dInt)) draws_here, .val dInt k, .val dInt many] (fun c => ∃ r, c = .val dInt r ∧ (l_pick_m draws_here k many) = .ok r) (fun x => ∃ px, (l_pick_m draws_here k many) = .exc px ∧ x = px.x A.tx) := fun draws_here k many nb vs H Q E h => ⟨draws_here, k, many, nb, h⟩
def sp_l_crowd (C : GCtx) (A : CA3) : Sp := fun vs H Q E => ∃ draws_here : (List Int), ∃ extra : (List Int), (l_crowd_m draws_here extra).nb ∧ FnX C [.val (dList (d := dInt)) draws_here, .val (dList (d := dInt)) extra] (fun c => ∃ r, c = .own (dPair (d1 := (dList (d := dInt))) (d2 := (dList (d := (dT4 (d1 := dInt) (d2 := dInt) (d3 := dInt) (d4 := dInt)))))) (oPair (oList (d := dInt)) (oList (d := (dT4 (d1 := dInt) (d2 := dInt) (d3 := dInt) (d4 := dInt))))) none r ∧ (l_crowd_m draws_here extra) = .ok r) (fun x => ∃ px, (l_crowd_m draws_here extra) = .exc px ∧ x = px.x A.tx) vs H Q E
theorem sp_l_crowd_len {C : GCtx} {A : CA3} {vs H Q E} (h : sp_l_crowd C A vs H Q E) : vs.length = 2 := by obtain ⟨_, _, _, h⟩ := h; exact h.len
theorem hs_l_crowd {C : GCtx} {A : CA3} : ∀ draws_here extra, (l_crowd_m draws_here extra).nb → SpX C (sp_l_crowd C A) [.val (dList (d := dInt)) draws_here, .val (dList (d := dInt)) extra] (fun c => ∃ r, c = .own (dPair (d1 := (dList (d := dInt))) (d2 := (dList (d := (dT4 (d1 := dInt) (d2 := dInt) (d3 := dInt) (d4 := dInt)))))) (oPair (oList (d := dInt)) (oList (d := (dT4 (d1 := dInt) (d2 := dInt) (d3 := dInt) (d4 := dInt))))) none r ∧ (l_crowd_m draws_here extra) = .ok r) (fun x => ∃ px, (l_crowd_m draws_here extra) = .exc px ∧ x = px.x A.tx) := fun draws_here extra nb vs H Q E h => ⟨draws_here, extra, nb, h⟩
def sp_l_rich (C : GCtx) (A : CA3) : Sp := fun vs H Q E => ∃ draws_here : (List Int), ∃ more : (List Int), ∃ many : Int, ∃ count : Int, (l_rich_m draws_here more many count).nb ∧ FnX C [.val (dList (d := dInt)) draws_here, .val (dList (d := dInt)) more, .val dInt many, .val dInt count] (fun c => ∃ r, c = .val (dList (d := dInt)) r ∧ (l_rich_m draws_here more many count) = .ok r) (fun x => ∃ px, (l_rich_m draws_here more many count) = .exc px ∧ x = px.x A.tx) vs H Q E
theorem sp_l_rich_len {C : GCtx} {A : CA3} {vs H Q E} (h : sp_l_rich C A vs H Q E) : vs.length = 4 := by obtain ⟨_, _, _, _, _, h⟩ := h; exact h.len
theorem hs_l_rich {C : GCtx} {A : CA3} : ∀ draws_here more many count, (l_rich_m draws_here more many count).nb → SpX C (sp_l_rich C A) [.val (dList (d := dInt)) draws_here, .val (dList (d := dInt)) more, .val dInt many, .val dInt count] (fun c => ∃ r, c = .val (dList (d := dInt)) r ∧ (l_rich_m draws_here more many count) = .ok r) (fun x => ∃ px, (l_rich_m draws_here more many count) = .exc px ∧ x = px.x A.tx) := fun draws_here more many count nb vs H Q E h => ⟨draws_here, more, many, count, nb, h⟩
def sp_l_web (C : GCtx) (A : CA3) : Sp := fun vs H Q E => ∃ draws_here : (List Int), ∃ most_places : Int, ∃ most_ties : Int, (l_web_m draws_here most_places most_ties).nb ∧ FnX C [.val (dList (d := dInt)) draws_here, .val dInt most_places, .val dInt most_ties] (fun c => ∃ r, c = .own (dPair (d1 := (dList (d := dInt))) (d2 := (dList (d := (dT4 (d1 := dInt) (d2 := dInt) (d3 := dInt) (d4 := dInt)))))) (oPair (oList (d := dInt)) (oList (d := (dT4 (d1 := dInt) (d2 := dInt) (d3 := dInt) (d4 := dInt))))) none r ∧ (l_web_m draws_here most_places most_ties) = .ok r) (fun x => ∃ px, (l_web_m draws_here most_places most_ties) = .exc px ∧ x = px.x A.tx) vs H Q E
theorem sp_l_web_len {C : GCtx} {A : CA3} {vs H Q E} (h : sp_l_web C A vs H Q E) : vs.length = 3 := by obtain ⟨_, _, _, _, h⟩ := h; exact h.len
theorem hs_l_web {C : GCtx} {A : CA3} : ∀ draws_here most_places most_ties, (l_web_m draws_here most_places most_ties).nb → SpX C (sp_l_web C A) [.val (dList (d := dInt)) draws_here, .val dInt most_places, .val dInt most_ties] (fun c => ∃ r, c = .own (dPair (d1 := (dList (d := dInt))) (d2 := (dList (d := (dT4 (d1 := dInt) (d2 := dInt) (d3 := dInt) (d4 := dInt)))))) (oPair (oList (d := dInt)) (oList (d := (dT4 (d1 := dInt) (d2 := dInt) (d3 := dInt) (d4 := dInt))))) none r ∧ (l_web_m draws_here most_places most_ties) = .ok r) (fun x => ∃ px, (l_web_m draws_here most_places most_ties) = .exc px ∧ x = px.x A.tx) := fun draws_here most_places most_ties nb vs H Q E h => ⟨draws_here, most_places, most_ties, nb, h⟩
def sp_l_world (C : GCtx) (A : CA3) : Sp := fun vs H Q E => ∃ draws_here : (List Int), ∃ extra : (List Int), (l_world_m draws_here extra).nb ∧ FnX C [.val (dList (d := dInt)) draws_here, .val (dList (d := dInt)) extra] (fun c => ∃ r, c = .own (dPair (d1 := (dList (d := dInt))) (d2 := (dList (d := (dT4 (d1 := dInt) (d2 := dInt) (d3 := dInt) (d4 := dInt)))))) (oPair (oList (d := dInt)) (oList (d := (dT4 (d1 := dInt) (d2 := dInt) (d3 := dInt) (d4 := dInt))))) none r ∧ (l_world_m draws_here extra) = .ok r) (fun x => ∃ px, (l_world_m draws_here extra) = .exc px ∧ x = px.x A.tx) vs H Q E
theorem sp_l_world_len {C : GCtx} {A : CA3} {vs H Q E} (h : sp_l_world C A vs H Q E) : vs.length = 2 := by obtain ⟨_, _, _, h⟩ := h; exact h.len
theorem hs_l_world {C : GCtx} {A : CA3} : ∀ draws_here extra, (l_world_m draws_here extra).nb → SpX C (sp_l_world C A) [.val (dList (d := dInt)) draws_here, .val (dList (d := dInt)) extra] (fun c => ∃ r, c = .own (dPair (d1 := (dList (d := dInt))) (d2 := (dList (d := (dT4 (d1 := dInt) (d2 := dInt) (d3 := dInt) (d4 := dInt)))))) (oPair (oList (d := dInt)) (oList (d := (dT4 (d1 := dInt) (d2 := dInt) (d3 := dInt) (d4 := dInt))))) none r ∧ (l_world_m draws_here extra) = .ok r) (fun x => ∃ px, (l_world_m draws_here extra) = .exc px ∧ x = px.x A.tx) := fun draws_here extra nb vs H Q E h => ⟨draws_here, extra, nb, h⟩
def sp_p_check_end (C : GCtx) (A : CA3) : Sp := fun vs H Q E => ∃ sides : (List Int), ∃ place : Int, ∃ side : Int, (p_check_end_m sides place side).nb ∧ FnX C [.val (dList (d := dInt)) sides, .val dInt place, .val dInt side] (fun c => ∃ r, c = .val dUnit r ∧ (p_check_end_m sides place side) = .ok r) (fun x => ∃ px, (p_check_end_m sides place side) = .exc px ∧ x = px.x A.tx) vs H Q E
theorem sp_p_check_end_len {C : GCtx} {A : CA3} {vs H Q E} (h : sp_p_check_end C A vs H Q E) : vs.length = 3 := by obtain ⟨_, _, _, _, h⟩ := h; exact h.len
theorem hs_p_check_end {C : GCtx} {A : CA3} : ∀ sides place side, (p_check_end_m sides place side).nb → SpX C (sp_p_check_end C A) [.val (dList (d := dInt)) sides, .val dInt place, .val dInt side] (fun c => ∃ r, c = .val dUnit r ∧ (p_check_end_m sides place side) = .ok r) (fun x => ∃ px, (p_check_end_m sides place side) = .exc px ∧ x = px.x A.tx) := fun sides place side nb vs H Q E h => ⟨sides, place, side, nb, h⟩
def sp_m_WebX_initX (C : GCtx) (A : CA3) : Sp := fun vs H Q E => ∃ sides : (List Int), ∃ ties : (List (T4 Int Int Int Int)), (m_WebX_initX_m sides ties).nb ∧ FnI C (oWeb A) (A.ob .Web) [.val (dList (d := dInt)) sides, .val (dList (d := (dT4 (d1 := dInt) (d2 := dInt) (d3 := dInt) (d4 := dInt)))) ties] (fun r => (m_WebX_initX_m sides ties) = .ok r) (fun x => ∃ px, (m_WebX_initX_m sides ties) = .exc px ∧ x = px.x A.tx) vs H Q E
theorem sp_m_WebX_initX_len {C : GCtx} {A : CA3} {vs H Q E} (h : sp_m_WebX_initX C A vs H Q E) : vs.length = 3 := by obtain ⟨_, _, _, h⟩ := h; exact h.len
theorem hs_m_WebX_initX {C : GCtx} {A : CA3} : ∀ sides ties, (m_WebX_initX_m sides ties).nb → SpI C (sp_m_WebX_initX C A) (oWeb A) (A.ob .Web) [.val (dList (d := dInt)) sides, .val (dList (d := (dT4 (d1 := dInt) (d2 := dInt) (d3 := dInt) (d4 := dInt)))) ties] (fun r => (m_WebX_initX_m sides ties) = .ok r) (fun x => ∃ px, (m_WebX_initX_m sides ties) = .exc px ∧ x = px.x A.tx) := fun sides ties nb vs H Q E h => ⟨sides, ties, nb, h⟩
def sp_l_firsts (C : GCtx) (A : CA3) : Sp := fun vs H Q E => ∃ sides : (List Int), (l_firsts_m sides).nb ∧ FnX C [.val (dList (d := dInt)) sides] (fun c => ∃ r, c = .own (dPair (d1 := (dList (d := dInt))) (d2 := dInt)) (oPair (oList (d := dInt)) (oFz (d := dInt))) none r ∧ (l_firsts_m sides) = .ok r) (fun x => ∃ px, (l_firsts_m sides) = .exc px ∧ x = px.x A.tx) vs H Q E
theorem sp_l_firsts_len {C : GCtx} {A : CA3} {vs H Q E} (h : sp_l_firsts C A vs H Q E) : vs.length = 1 := by obtain ⟨_, _, h⟩ := h; exact h.len
theorem hs_l_firsts {C : GCtx} {A : CA3} : ∀ sides, (l_firsts_m sides).nb → SpX C (sp_l_firsts C A) [.val (dList (d := dInt)) sides] (fun c => ∃ r, c = .own (dPair (d1 := (dList (d := dInt))) (d2 := dInt)) (oPair (oList (d := dInt)) (oFz (d := dInt))) none r ∧ (l_firsts_m sides) = .ok r) (fun x => ∃ px, (l_firsts_m sides) = .exc px ∧ x = px.x A.tx) := fun sides nb vs H Q E h => ⟨sides, nb, h⟩
def sp_m_WebX_containsX (C : GCtx) (A : CA3) : Sp := fun vs H Q E => ∃ self : WebM, ∃ place : Int, (m_WebX_containsX_m self place).nb ∧ FnX C [.val (dWeb A) self, .val dInt place] (fun c => ∃ r, c = .val dBool r ∧ (m_WebX_containsX_m self place) = .ok r) (fun x => ∃ px, (m_WebX_containsX_m self place) = .exc px ∧ x = px.x A.tx) vs H Q E
theorem sp_m_WebX_containsX_len {C : GCtx} {A : CA3} {vs H Q E} (h : sp_m_WebX_containsX C A vs H Q E) : vs.length = 2 := by obtain ⟨_, _, _, h⟩ := h; exact h.len
theorem hs_m_WebX_containsX {C : GCtx} {A : CA3} : ∀ self place, (m_WebX_containsX_m self place).nb → SpX C (sp_m_WebX_containsX C A) [.val (dWeb A) self, .val dInt place] (fun c => ∃ r, c = .val dBool r ∧ (m_WebX_containsX_m self place) = .ok r) (fun x => ∃ px, (m_WebX_containsX_m self place) = .exc px ∧ x = px.x A.tx) := fun self place nb vs H Q E h => ⟨self, place, nb, h⟩
def sp_p_check_place (C : GCtx) (A : CA3) : Sp := fun vs H Q E => ∃ web : WebM, ∃ place : Int, (p_check_place_m web place).nb ∧ FnX C [.val (dWeb A) web, .val dInt place] (fun c => ∃ r, c = .val dUnit r ∧ (p_check_place_m web place) = .ok r) (fun x => ∃ px, (p_check_place_m web place) = .exc px ∧ x = px.x A.tx) vs H Q E
theorem sp_p_check_place_len {C : GCtx} {A : CA3} {vs H Q E} (h : sp_p_check_place C A vs H Q E) : vs.length = 2 := by obtain ⟨_, _, _, h⟩ := h; exact h.len
theorem hs_p_check_place {C : GCtx} {A : CA3} : ∀ web place, (p_check_place_m web place).nb → SpX C (sp_p_check_place C A) [.val (dWeb A) web, .val dInt place] (fun c => ∃ r, c = .val dUnit r ∧ (p_check_place_m web place) = .ok r) (fun x => ∃ px, (p_check_place_m web place) = .exc px ∧ x = px.x A.tx) := fun web place nb vs H Q E h => ⟨web, place, nb, h⟩
def sp_p_first_pairs (C : GCtx) (A : CA3) : Sp := fun vs H Q E => ∃ web : WebM, (p_first_pairs_m web).nb ∧ FnX C [.val (dWeb A) web] (fun c => ∃ r, c = .own (dList (d := dInt)) (oList (d := dInt)) none r ∧ (p_first_pairs_m web) = .ok r) (fun x => ∃ px, (p_first_pairs_m web) = .exc px ∧ x = px.x A.tx) vs H Q E
theorem sp_p_first_pairs_len {C : GCtx} {A : CA3} {vs H Q E} (h : sp_p_first_pairs C A vs H Q E) : vs.length = 1 := by obtain ⟨_, _, h⟩ := h; exact h.len
theorem hs_p_first_pairs {C : GCtx} {A : CA3} : ∀ web, (p_first_pairs_m web).nb → SpX C (sp_p_first_pairs C A) [.val (dWeb A) web] (fun c => ∃ r, c = .own (dList (d := dInt)) (oList (d := dInt)) none r ∧ (p_first_pairs_m web) = .ok r) (fun x => ∃ px, (p_first_pairs_m web) = .exc px ∧ x = px.x A.tx) := fun web nb vs H Q E h => ⟨web, nb, h⟩
def sp_p_seat (C : GCtx) (A : CA3) : Sp := fun vs H Q E => ∃ web : WebM, ∃ first : Int, ∃ place : Int, ∃ side : Int, (p_seat_m web first place side).nb ∧ FnX C [.val (dWeb A) web, .val dInt first, .val dInt place, .val dInt side] (fun c => ∃ r, c = .val dInt r ∧ (p_seat_m web first place side) = .ok r) (fun x => ∃ px, (p_seat_m web first place side) = .exc px ∧ x = px.x A.tx) vs H Q E
theorem sp_p_seat_len {C : GCtx} {A : CA3} {vs H Q E} (h : sp_p_seat C A vs H Q E) : vs.length = 4 := by obtain ⟨_, _, _, _, _, h⟩ := h; exact h.len
theorem hs_p_seat {C : GCtx} {A : CA3} : ∀ web first place side, (p_seat_m web first place side).nb → SpX C (sp_p_seat C A) [.val (dWeb A) web, .val dInt first, .val dInt place, .val dInt side] (fun c => ∃ r, c = .val dInt r ∧ (p_seat_m web first place side) = .ok r) (fun x => ∃ px, (p_seat_m web first place side) = .exc px ∧ x = px.x A.tx) := fun web first place side nb vs H Q E h => ⟨web, first, place, side, nb, h⟩
def sp_p_inner_ties (C : GCtx) (A : CA3) : Sp := fun vs H Q E => ∃ first : Int, ∃ many : Int, (p_inner_ties_m first many).nb ∧ FnX C [.val dInt first, .val dInt many] (fun c => ∃ r, c = .own (dList (d := (dPair (d1 := dInt) (d2 := dInt)))) (oList (d := (dPair (d1 := dInt) (d2 := dInt)))) none r ∧ (p_inner_ties_m first many) = .ok r) (fun x => ∃ px, (p_inner_ties_m first many) = .exc px ∧ x = px.x A.tx) vs H Q E
theorem sp_p_inner_ties_len {C : GCtx} {A : CA3} {vs H Q E} (h : sp_p_inner_ties C A vs H Q E) : vs.length = 2 := by obtain ⟨_, _, _, h⟩ := h; exact h.len
theorem hs_p_inner_ties {C : GCtx} {A : CA3} : ∀ first many, (p_inner_ties_m first many).nb → SpX C (sp_p_inner_ties C A) [.val dInt first, .val dInt many] (fun c => ∃ r, c = .own (dList (d := (dPair (d1 := dInt) (d2 := dInt)))) (oList (d := (dPair (d1 := dInt) (d2 := dInt)))) none r ∧ (p_inner_ties_m first many) = .ok r) (fun x => ∃ px, (p_inner_ties_m first many) = .exc px ∧ x = px.x A.tx) := fun first many nb vs H Q E h => ⟨first, many, nb, h⟩
def sp_m_PairedWebX_initX (C : GCtx) (A : CA3) : Sp := fun vs H Q E => ∃ pairs : Int, ∃ free : (List (Int × Int)), (m_PairedWebX_initX_m pairs free).nb ∧ FnI C (oPairedWeb A) (A.ob .PairedWeb) [.val dInt pairs, .val (dList (d := (dPair (d1 := dInt) (d2 := dInt)))) free] (fun r => (m_PairedWebX_initX_m pairs free) = .ok r) (fun x => ∃ px, (m_PairedWebX_initX_m pairs free) = .exc px ∧ x = px.x A.tx) vs H Q E
theorem sp_m_PairedWebX_initX_len {C : GCtx} {A : CA3} {vs H Q E} (h : sp_m_PairedWebX_initX C A vs H Q E) : vs.length = 3 := by obtain ⟨_, _, _, h⟩ := h; exact h.len
theorem hs_m_PairedWebX_initX {C : GCtx} {A : CA3} : ∀ pairs free, (m_PairedWebX_initX_m pairs free).nb → SpI C (sp_m_PairedWebX_initX C A) (oPairedWeb A) (A.ob .PairedWeb) [.val dInt pairs, .val (dList (d := (dPair (d1 := dInt) (d2 := dInt)))) free] (fun r => (m_PairedWebX_initX_m pairs free) = .ok r) (fun x => ∃ px, (m_PairedWebX_initX_m pairs free) = .exc px ∧ x = px.x A.tx) := fun pairs free nb vs H Q E h => ⟨pairs, free, nb, h⟩
def sp_p_paired_of_web (C : GCtx) (A : CA3) : Sp := fun vs H Q E => ∃ web : WebM, (p_paired_of_web_m web).nb ∧ FnX C [.val (dWeb A) web] (fun c => ∃ r, c = .own (dPairedWeb A) (oPairedWeb A) none r ∧ (p_paired_of_web_m web) = .ok r) (fun x => ∃ px, (p_paired_of_web_m web) = .exc px ∧ x = px.x A.tx) vs H Q E
theorem sp_p_paired_of_web_len {C : GCtx} {A : CA3} {vs H Q E} (h : sp_p_paired_of_web C A vs H Q E) : vs.length = 1 := by obtain ⟨_, _, h⟩ := h; exact h.len
theorem hs_p_paired_of_web {C : GCtx} {A : CA3} : ∀ web, (p_paired_of_web_m web).nb → SpX C (sp_p_paired_of_web C A) [.val (dWeb A) web] (fun c => ∃ r, c = .own (dPairedWeb A) (oPairedWeb A) none r ∧ (p_paired_of_web_m web) = .ok r) (fun x => ∃ px, (p_paired_of_web_m web) = .exc px ∧ x = px.x A.tx) := fun web nb vs H Q E h => ⟨web, nb, h⟩
def sp_p_pair_at (C : GCtx) (A : CA3) : Sp := fun vs H Q E => ∃ web : WebM, ∃ place : Int, (p_pair_at_m web place).nb ∧ FnX C [.val (dWeb A) web, .val dInt place] (fun c => ∃ r, c = .val dInt r ∧ (p_pair_at_m web place) = .ok r) (fun x => ∃ px, (p_pair_at_m web place) = .exc px ∧ x = px.x A.tx) vs H Q E
theorem sp_p_pair_at_len {C : GCtx} {A : CA3} {vs H Q E} (h : sp_p_pair_at C A vs H Q E) : vs.length = 2 := by obtain ⟨_, _, _, h⟩ := h; exact h.len
theorem hs_p_pair_at {C : GCtx} {A : CA3} : ∀ web place, (p_pair_at_m web place).nb → SpX C (sp_p_pair_at C A) [.val (dWeb A) web, .val dInt place] (fun c => ∃ r, c = .val dInt r ∧ (p_pair_at_m web place) = .ok r) (fun x => ∃ px, (p_pair_at_m web place) = .exc px ∧ x = px.x A.tx) := fun web place nb vs H Q E h => ⟨web, place, nb, h⟩
def sp_m_PairedWeb_points (C : GCtx) (A : CA3) : Sp := fun vs H Q E => ∃ self : PairedWebM, (m_PairedWeb_points_m self).nb ∧ FnX C [.val (dPairedWeb A) self] (fun c => ∃ r, c = .val dInt r ∧ (m_PairedWeb_points_m self) = .ok r) (fun x => ∃ px, (m_PairedWeb_points_m self) = .exc px ∧ x = px.x A.tx) vs H Q E
theorem sp_m_PairedWeb_points_len {C : GCtx} {A : CA3} {vs H Q E} (h : sp_m_PairedWeb_points C A vs H Q E) : vs.length = 1 := by obtain ⟨_, _, h⟩ := h; exact h.len
theorem hs_m_PairedWeb_points {C : GCtx} {A : CA3} : ∀ self, (m_PairedWeb_points_m self).nb → SpX C (sp_m_PairedWeb_points C A) [.val (dPairedWeb A) self] (fun c => ∃ r, c = .val dInt r ∧ (m_PairedWeb_points_m self) = .ok r) (fun x => ∃ px, (m_PairedWeb_points_m self) = .exc px ∧ x = px.x A.tx) := fun self nb vs H Q E h => ⟨self, nb, h⟩
def sp_m_PairedWeb_all_ties (C : GCtx) (A : CA3) : Sp := fun vs H Q E => ∃ self : PairedWebM, (m_PairedWeb_all_ties_m self).nb ∧ FnX C [.val (dPairedWeb A) self] (fun c => ∃ r, c = .val (dTup (d := (dPair (d1 := dInt) (d2 := dInt)))) r ∧ (m_PairedWeb_all_ties_m self) = .ok r) (fun x => ∃ px, (m_PairedWeb_all_ties_m self) = .exc px ∧ x = px.x A.tx) vs H Q E
theorem sp_m_PairedWeb_all_ties_len {C : GCtx} {A : CA3} {vs H Q E} (h : sp_m_PairedWeb_all_ties C A vs H Q E) : vs.length = 1 := by obtain ⟨_, _, h⟩ := h; exact h.len
theorem hs_m_PairedWeb_all_ties {C : GCtx} {A : CA3} : ∀ self, (m_PairedWeb_all_ties_m self).nb → SpX C (sp_m_PairedWeb_all_ties C A) [.val (dPairedWeb A) self] (fun c => ∃ r, c = .val (dTup (d := (dPair (d1 := dInt) (d2 := dInt)))) r ∧ (m_PairedWeb_all_ties_m self) = .ok r) (fun x => ∃ px, (m_PairedWeb_all_ties_m self) = .exc px ∧ x = px.x A.tx) := fun self nb vs H Q E h => ⟨self, nb, h⟩
def sp_p_place_graph (C : GCtx) (A : CA3) : Sp := fun vs H Q E => ∃ web : WebM, ∃ place : Int, (p_place_graph_m web place).nb ∧ FnX C [.val (dWeb A) web, .val dInt place] (fun c => ∃ r, c = .own (dPair (d1 := (dList (d := dInt))) (d2 := (dList (d := (dPair (d1 := dInt) (d2 := dInt)))))) (oPair (oList (d := dInt)) (oList (d := (dPair (d1 := dInt) (d2 := dInt))))) none r ∧ (p_place_graph_m web place) = .ok r) (fun x => ∃ px, (p_place_graph_m web place) = .exc px ∧ x = px.x A.tx) vs H Q E
theorem sp_p_place_graph_len {C : GCtx} {A : CA3} {vs H Q E} (h : sp_p_place_graph C A vs H Q E) : vs.length = 2 := by obtain ⟨_, _, _, h⟩ := h; exact h.len
theorem hs_p_place_graph {C : GCtx} {A : CA3} : ∀ web place, (p_place_graph_m web place).nb → SpX C (sp_p_place_graph C A) [.val (dWeb A) web, .val dInt place] (fun c => ∃ r, c = .own (dPair (d1 := (dList (d := dInt))) (d2 := (dList (d := (dPair (d1 := dInt) (d2 := dInt)))))) (oPair (oList (d := dInt)) (oList (d := (dPair (d1 := dInt) (d2 := dInt))))) none r ∧ (p_place_graph_m web place) = .ok r) (fun x => ∃ px, (p_place_graph_m web place) = .exc px ∧ x = px.x A.tx) := fun web place nb vs H Q E h => ⟨web, place, nb, h⟩
def sp_p_check_tie (C : GCtx) (A : CA3) : Sp := fun vs H Q E => ∃ web : WebM, ∃ tie : Int, (p_check_tie_m web tie).nb ∧ FnX C [.val (dWeb A) web, .val dInt tie] (fun c => ∃ r, c = .val dUnit r ∧ (p_check_tie_m web tie) = .ok r) (fun x => ∃ px, (p_check_tie_m web tie) = .exc px ∧ x = px.x A.tx) vs H Q E
theorem sp_p_check_tie_len {C : GCtx} {A : CA3} {vs H Q E} (h : sp_p_check_tie C A vs H Q E) : vs.length = 2 := by obtain ⟨_, _, _, h⟩ := h; exact h.len
theorem hs_p_check_tie {C : GCtx} {A : CA3} : ∀ web tie, (p_check_tie_m web tie).nb → SpX C (sp_p_check_tie C A) [.val (dWeb A) web, .val dInt tie] (fun c => ∃ r, c = .val dUnit r ∧ (p_check_tie_m web tie) = .ok r) (fun x => ∃ px, (p_check_tie_m web tie) = .exc px ∧ x = px.x A.tx) := fun web tie nb vs H Q E h => ⟨web, tie, nb, h⟩
def sp_p_tie_graph (C : GCtx) (A : CA3) : Sp := fun vs H Q E => ∃ web : WebM, ∃ tie : Int, (p_tie_graph_m web tie).nb ∧ FnX C [.val (dWeb A) web, .val dInt tie] (fun c => ∃ r, c = .own (dPair (d1 := (dList (d := dInt))) (d2 := (dList (d := (dPair (d1 := dInt) (d2 := dInt)))))) (oPair (oList (d := dInt)) (oList (d := (dPair (d1 := dInt) (d2 := dInt))))) none r ∧ (p_tie_graph_m web tie) = .ok r) (fun x => ∃ px, (p_tie_graph_m web tie) = .exc px ∧ x = px.x A.tx) vs H Q E
theorem sp_p_tie_graph_len {C : GCtx} {A : CA3} {vs H Q E} (h : sp_p_tie_graph C A vs H Q E) : vs.length = 2 := by obtain ⟨_, _, _, h⟩ := h; exact h.len
theorem hs_p_tie_graph {C : GCtx} {A : CA3} : ∀ web tie, (p_tie_graph_m web tie).nb → SpX C (sp_p_tie_graph C A) [.val (dWeb A) web, .val dInt tie] (fun c => ∃ r, c = .own (dPair (d1 := (dList (d := dInt))) (d2 := (dList (d := (dPair (d1 := dInt) (d2 := dInt)))))) (oPair (oList (d := dInt)) (oList (d := (dPair (d1 := dInt) (d2 := dInt))))) none r ∧ (p_tie_graph_m web tie) = .ok r) (fun x => ∃ px, (p_tie_graph_m web tie) = .exc px ∧ x = px.x A.tx) := fun web tie nb vs H Q E h => ⟨web, tie, nb, h⟩
def sp_p_cycle_through_place (C : GCtx) (A : CA3) : Sp := fun vs H Q E => ∃ web : WebM, ∃ place : Int, (p_cycle_through_place_m web place).nb ∧ FnX C [.val (dWeb A) web, .val dInt place] (fun c => ∃ r, c = .val dUnit r ∧ (p_cycle_through_place_m web place) = .ok r) (fun x => ∃ px, (p_cycle_through_place_m web place) = .exc px ∧ x = px.x A.tx) vs H Q E
theorem sp_p_cycle_through_place_len {C : GCtx} {A : CA3} {vs H Q E} (h : sp_p_cycle_through_place C A vs H Q E) : vs.length = 2 := by obtain ⟨_, _, _, h⟩ := h; exact h.len
theorem hs_p_cycle_through_place {C : GCtx} {A : CA3} : ∀ web place, (p_cycle_through_place_m web place).nb → SpX C (sp_p_cycle_through_place C A) [.val (dWeb A) web, .val dInt place] (fun c => ∃ r, c = .val dUnit r ∧ (p_cycle_through_place_m web place) = .ok r) (fun x => ∃ px, (p_cycle_through_place_m web place) = .exc px ∧ x = px.x A.tx) := fun web place nb vs H Q E h => ⟨web, place, nb, h⟩
def sp_p_tie_answer (C : GCtx) (A : CA3) : Sp := fun vs H Q E => ∃ web : WebM, ∃ paired : PairedWebM, ∃ tie : Int, (p_tie_answer_m web paired tie).nb ∧ FnX C [.val (dWeb A) web, .val (dPairedWeb A) paired, .val dInt tie] (fun c => ∃ r, c = .val dUnit r ∧ (p_tie_answer_m web paired tie) = .ok r) (fun x => ∃ px, (p_tie_answer_m web paired tie) = .exc px ∧ x = px.x A.tx) vs H Q E
theorem sp_p_tie_answer_len {C : GCtx} {A : CA3} {vs H Q E} (h : sp_p_tie_answer C A vs H Q E) : vs.length = 3 := by obtain ⟨_, _, _, _, h⟩ := h; exact h.len
theorem hs_p_tie_answer {C : GCtx} {A : CA3} : ∀ web paired tie, (p_tie_answer_m web paired tie).nb → SpX C (sp_p_tie_answer C A) [.val (dWeb A) web, .val (dPairedWeb A) paired, .val dInt tie] (fun c => ∃ r, c = .val dUnit r ∧ (p_tie_answer_m web paired tie) = .ok r) (fun x => ∃ px, (p_tie_answer_m web paired tie) = .exc px ∧ x = px.x A.tx) := fun web paired tie nb vs H Q E h => ⟨web, paired, tie, nb, h⟩
def sp_p_cycle_through_tie (C : GCtx) (A : CA3) : Sp := fun vs H Q E => ∃ web : WebM, ∃ tie : Int, (p_cycle_through_tie_m web tie).nb ∧ FnX C [.val (dWeb A) web, .val dInt tie] (fun c => ∃ r, c = .val dUnit r ∧ (p_cycle_through_tie_m web tie) = .ok r) (fun x => ∃ px, (p_cycle_through_tie_m web tie) = .exc px ∧ x = px.x A.tx) vs H Q E
theorem sp_p_cycle_through_tie_len {C : GCtx} {A : CA3} {vs H Q E} (h : sp_p_cycle_through_tie C A vs H Q E) : vs.length = 2 := by obtain ⟨_, _, _, h⟩ := h; exact h.len
theorem hs_p_cycle_through_tie {C : GCtx} {A : CA3} : ∀ web tie, (p_cycle_through_tie_m web tie).nb → SpX C (sp_p_cycle_through_tie C A) [.val (dWeb A) web, .val dInt tie] (fun c => ∃ r, c = .val dUnit r ∧ (p_cycle_through_tie_m web tie) = .ok r) (fun x => ∃ px, (p_cycle_through_tie_m web tie) = .exc px ∧ x = px.x A.tx) := fun web tie nb vs H Q E h => ⟨web, tie, nb, h⟩
def sp_p_on_cycles (C : GCtx) (A : CA3) : Sp := fun vs H Q E => ∃ web : WebM, (p_on_cycles_m web).nb ∧ FnX C [.val (dWeb A) web] (fun c => ∃ r, c = .val dUnit r ∧ (p_on_cycles_m web) = .ok r) (fun x => ∃ px, (p_on_cycles_m web) = .exc px ∧ x = px.x A.tx) vs H Q E
theorem sp_p_on_cycles_len {C : GCtx} {A : CA3} {vs H Q E} (h : sp_p_on_cycles C A vs H Q E) : vs.length = 1 := by obtain ⟨_, _, h⟩ := h; exact h.len
theorem hs_p_on_cycles {C : GCtx} {A : CA3} : ∀ web, (p_on_cycles_m web).nb → SpX C (sp_p_on_cycles C A) [.val (dWeb A) web] (fun c => ∃ r, c = .val dUnit r ∧ (p_on_cycles_m web) = .ok r) (fun x => ∃ px, (p_on_cycles_m web) = .exc px ∧ x = px.x A.tx) := fun web nb vs H Q E h => ⟨web, nb, h⟩
def sp_l_told (C : GCtx) (A : CA3) : Sp := fun vs H Q E => ∃ deed : Int, ∃ web_here : WebM, ∃ number : Int, (l_told_m deed web_here number).nb ∧ FnX C [.val dInt deed, .val (dWeb A) web_here, .val dInt number] (fun c => ∃ r, c = .own dU oU none r ∧ (l_told_m deed web_here number) = .ok r) (fun x => ∃ px, (l_told_m deed web_here number) = .exc px ∧ x = px.x A.tx) vs H Q E
theorem sp_l_told_len {C : GCtx} {A : CA3} {vs H Q E} (h : sp_l_told C A vs H Q E) : vs.length = 3 := by obtain ⟨_, _, _, _, h⟩ := h; exact h.len
theorem hs_l_told {C : GCtx} {A : CA3} : ∀ deed web_here number, (l_told_m deed web_here number).nb → SpX C (sp_l_told C A) [.val dInt deed, .val (dWeb A) web_here, .val dInt number] (fun c => ∃ r, c = .own dU oU none r ∧ (l_told_m deed web_here number) = .ok r) (fun x => ∃ px, (l_told_m deed web_here number) = .exc px ∧ x = px.x A.tx) := fun deed web_here number nb vs H Q E h => ⟨deed, web_here, number, nb, h⟩
def sp_l_same (n : Nat) (C : GCtx) (A : CA3) : Sp := fun vs H Q E => ∃ told_here : PyData, ∃ due_here : PyData, (l_same_m n told_here due_here).nb ∧ FnX C [.val dU told_here, .val dU due_here] (fun c => ∃ r, c = .val dBool r ∧ (l_same_m n told_here due_here) = .ok r) (fun x => ∃ px, (l_same_m n told_here due_here) = .exc px ∧ x = px.x A.tx) vs H Q E
theorem sp_l_same_len {n : Nat} {C : GCtx} {A : CA3} {vs H Q E} (h : sp_l_same n C A vs H Q E) : vs.length = 2 := by obtain ⟨_, _, _, h⟩ := h; exact h.len
theorem hs_l_same {n : Nat} {C : GCtx} {A : CA3} : ∀ told_here due_here, (l_same_m n told_here due_here).nb → SpX C (sp_l_same n C A) [.val dU told_here, .val dU due_here] (fun c => ∃ r, c = .val dBool r ∧ (l_same_m n told_here due_here) = .ok r) (fun x => ∃ px, (l_same_m n told_here due_here) = .exc px ∧ x = px.x A.tx) := fun told_here due_here nb vs H Q E h => ⟨told_here, due_here, nb, h⟩
def sp_l_refused (C : GCtx) (A : CA3) : Sp := fun vs H Q E => ∃ web_here : WebM, ∃ sides : (List Int), ∃ ties : (List (T4 Int Int Int Int)), ∃ draws_here : (List Int), ∃ at_ : Int, (l_refused_m web_here sides ties draws_here at_).nb ∧ FnX C [.val (dWeb A) web_here, .val (dList (d := dInt)) sides, .val (dList (d := (dT4 (d1 := dInt) (d2 := dInt) (d3 := dInt) (d4 := dInt)))) ties, .val (dList (d := dInt)) draws_here, .val dInt at_] (fun c => ∃ r, c = .val dBool r ∧ (l_refused_m web_here sides ties draws_here at_) = .ok r) (fun x => ∃ px, (l_refused_m web_here sides ties draws_here at_) = .exc px ∧ x = px.x A.tx) vs H Q E
theorem sp_l_refused_len {C : GCtx} {A : CA3} {vs H Q E} (h : sp_l_refused C A vs H Q E) : vs.length = 5 := by obtain ⟨_, _, _, _, _, _, h⟩ := h; exact h.len
theorem hs_l_refused {C : GCtx} {A : CA3} : ∀ web_here sides ties draws_here at_, (l_refused_m web_here sides ties draws_here at_).nb → SpX C (sp_l_refused C A) [.val (dWeb A) web_here, .val (dList (d := dInt)) sides, .val (dList (d := (dT4 (d1 := dInt) (d2 := dInt) (d3 := dInt) (d4 := dInt)))) ties, .val (dList (d := dInt)) draws_here, .val dInt at_] (fun c => ∃ r, c = .val dBool r ∧ (l_refused_m web_here sides ties draws_here at_) = .ok r) (fun x => ∃ px, (l_refused_m web_here sides ties draws_here at_) = .exc px ∧ x = px.x A.tx) := fun web_here sides ties draws_here at_ nb vs H Q E h => ⟨web_here, sides, ties, draws_here, at_, nb, h⟩
def sp_l_large (C : GCtx) (A : CA3) : Sp := fun vs H Q E => ∃ web_here : WebM, ∃ sides : (List Int), ∃ ties : (List (T4 Int Int Int Int)), ∃ limit : Int, (l_large_m web_here sides ties limit).nb ∧ FnX C [.val (dWeb A) web_here, .val (dList (d := dInt)) sides, .val (dList (d := (dT4 (d1 := dInt) (d2 := dInt) (d3 := dInt) (d4 := dInt)))) ties, .val dInt limit] (fun c => ∃ r, c = .val dBool r ∧ (l_large_m web_here sides ties limit) = .ok r) (fun x => ∃ px, (l_large_m web_here sides ties limit) = .exc px ∧ x = px.x A.tx) vs H Q E
theorem sp_l_large_len {C : GCtx} {A : CA3} {vs H Q E} (h : sp_l_large C A vs H Q E) : vs.length = 4 := by obtain ⟨_, _, _, _, _, h⟩ := h; exact h.len
theorem hs_l_large {C : GCtx} {A : CA3} : ∀ web_here sides ties limit, (l_large_m web_here sides ties limit).nb → SpX C (sp_l_large C A) [.val (dWeb A) web_here, .val (dList (d := dInt)) sides, .val (dList (d := (dT4 (d1 := dInt) (d2 := dInt) (d3 := dInt) (d4 := dInt)))) ties, .val dInt limit] (fun c => ∃ r, c = .val dBool r ∧ (l_large_m web_here sides ties limit) = .ok r) (fun x => ∃ px, (l_large_m web_here sides ties limit) = .exc px ∧ x = px.x A.tx) := fun web_here sides ties limit nb vs H Q E h => ⟨web_here, sides, ties, limit, nb, h⟩
def sp_l_point (C : GCtx) (A : CA3) : Sp := fun vs H Q E => ∃ sides : (List Int), ∃ firsts_here : (List Int), ∃ place : Int, ∃ side : Int, (l_point_m sides firsts_here place side).nb ∧ FnX C [.val (dList (d := dInt)) sides, .val (dList (d := dInt)) firsts_here, .val dInt place, .val dInt side] (fun c => ∃ r, c = .val dInt r ∧ (l_point_m sides firsts_here place side) = .ok r) (fun x => ∃ px, (l_point_m sides firsts_here place side) = .exc px ∧ x = px.x A.tx) vs H Q E
theorem sp_l_point_len {C : GCtx} {A : CA3} {vs H Q E} (h : sp_l_point C A vs H Q E) : vs.length = 4 := by obtain ⟨_, _, _, _, _, h⟩ := h; exact h.len
theorem hs_l_point {C : GCtx} {A : CA3} : ∀ sides firsts_here place side, (l_point_m sides firsts_here place side).nb → SpX C (sp_l_point C A) [.val (dList (d := dInt)) sides, .val (dList (d := dInt)) firsts_here, .val dInt place, .val dInt side] (fun c => ∃ r, c = .val dInt r ∧ (l_point_m sides firsts_here place side) = .ok r) (fun x => ∃ px, (l_point_m sides firsts_here place side) = .exc px ∧ x = px.x A.tx) := fun sides firsts_here place side nb vs H Q E h => ⟨sides, firsts_here, place, side, nb, h⟩
def sp_l_free (C : GCtx) (A : CA3) : Sp := fun vs H Q E => ∃ sides : (List Int), ∃ ties : (List (T4 Int Int Int Int)), (l_free_m sides ties).nb ∧ FnX C [.val (dList (d := dInt)) sides, .val (dList (d := (dT4 (d1 := dInt) (d2 := dInt) (d3 := dInt) (d4 := dInt)))) ties] (fun c => ∃ r, c = .own (dList (d := (dPair (d1 := dInt) (d2 := dInt)))) (oList (d := (dPair (d1 := dInt) (d2 := dInt)))) none r ∧ (l_free_m sides ties) = .ok r) (fun x => ∃ px, (l_free_m sides ties) = .exc px ∧ x = px.x A.tx) vs H Q E
theorem sp_l_free_len {C : GCtx} {A : CA3} {vs H Q E} (h : sp_l_free C A vs H Q E) : vs.length = 2 := by obtain ⟨_, _, _, h⟩ := h; exact h.len
theorem hs_l_free {C : GCtx} {A : CA3} : ∀ sides ties, (l_free_m sides ties).nb → SpX C (sp_l_free C A) [.val (dList (d := dInt)) sides, .val (dList (d := (dT4 (d1 := dInt) (d2 := dInt) (d3 := dInt) (d4 := dInt)))) ties] (fun c => ∃ r, c = .own (dList (d := (dPair (d1 := dInt) (d2 := dInt)))) (oList (d := (dPair (d1 := dInt) (d2 := dInt)))) none r ∧ (l_free_m sides ties) = .ok r) (fun x => ∃ px, (l_free_m sides ties) = .exc px ∧ x = px.x A.tx) := fun sides ties nb vs H Q E h => ⟨sides, ties, nb, h⟩
def sp_l_due (C : GCtx) (A : CA3) : Sp := fun vs H Q E => ∃ deed : Int, ∃ sides : (List Int), ∃ ties : (List (T4 Int Int Int Int)), ∃ number : Int, (l_due_m deed sides ties number).nb ∧ FnX C [.val dInt deed, .val (dList (d := dInt)) sides, .val (dList (d := (dT4 (d1 := dInt) (d2 := dInt) (d3 := dInt) (d4 := dInt)))) ties, .val dInt number] (fun c => ∃ r, c = .val (dPair (d1 := dStr) (d2 := (dPair (d1 := (dList (d := dInt))) (d2 := (dList (d := (dPair (d1 := dInt) (d2 := dInt)))))))) r ∧ (l_due_m deed sides ties number) = .ok r) (fun x => ∃ px, (l_due_m deed sides ties number) = .exc px ∧ x = px.x A.tx) vs H Q E
theorem sp_l_due_len {C : GCtx} {A : CA3} {vs H Q E} (h : sp_l_due C A vs H Q E) : vs.length = 4 := by obtain ⟨_, _, _, _, _, h⟩ := h; exact h.len
theorem hs_l_due {C : GCtx} {A : CA3} : ∀ deed sides ties number, (l_due_m deed sides ties number).nb → SpX C (sp_l_due C A) [.val dInt deed, .val (dList (d := dInt)) sides, .val (dList (d := (dT4 (d1 := dInt) (d2 := dInt) (d3 := dInt) (d4 := dInt)))) ties, .val dInt number] (fun c => ∃ r, c = .val (dPair (d1 := dStr) (d2 := (dPair (d1 := (dList (d := dInt))) (d2 := (dList (d := (dPair (d1 := dInt) (d2 := dInt)))))))) r ∧ (l_due_m deed sides ties number) = .ok r) (fun x => ∃ px, (l_due_m deed sides ties number) = .exc px ∧ x = px.x A.tx) := fun deed sides ties number nb vs H Q E h => ⟨deed, sides, ties, number, nb, h⟩
def sp_l_graphs_right (C : GCtx) (A : CA3) : Sp := fun vs H Q E => ∃ web_here : WebM, ∃ sides : (List Int), ∃ ties : (List (T4 Int Int Int Int)), (l_graphs_right_m web_here sides ties).nb ∧ FnX C [.val (dWeb A) web_here, .val (dList (d := dInt)) sides, .val (dList (d := (dT4 (d1 := dInt) (d2 := dInt) (d3 := dInt) (d4 := dInt)))) ties] (fun c => ∃ r, c = .val dBool r ∧ (l_graphs_right_m web_here sides ties) = .ok r) (fun x => ∃ px, (l_graphs_right_m web_here sides ties) = .exc px ∧ x = px.x A.tx) vs H Q E
theorem sp_l_graphs_right_len {C : GCtx} {A : CA3} {vs H Q E} (h : sp_l_graphs_right C A vs H Q E) : vs.length = 3 := by obtain ⟨_, _, _, _, h⟩ := h; exact h.len
theorem hs_l_graphs_right {C : GCtx} {A : CA3} : ∀ web_here sides ties, (l_graphs_right_m web_here sides ties).nb → SpX C (sp_l_graphs_right C A) [.val (dWeb A) web_here, .val (dList (d := dInt)) sides, .val (dList (d := (dT4 (d1 := dInt) (d2 := dInt) (d3 := dInt) (d4 := dInt)))) ties] (fun c => ∃ r, c = .val dBool r ∧ (l_graphs_right_m web_here sides ties) = .ok r) (fun x => ∃ px, (l_graphs_right_m web_here sides ties) = .exc px ∧ x = px.x A.tx) := fun web_here sides ties nb vs H Q E h => ⟨web_here, sides, ties, nb, h⟩
def sp_law (C : GCtx) : Sp := fun vs H Q _ => ∃ s : Sq Int, law_m s = .ok true ∧ Fn C [.val (dSq (d := dInt)) s] (fun c => c = .val dBool true) vs H Q
theorem sp_law_len {C : GCtx} {vs H Q E} (h : sp_law C vs H Q E) : vs.length = 1 := by obtain ⟨_, _, h⟩ := h; exact h.len
end K41
end

namespace K41
open PySem L2 G PM
set_option maxHeartbeats 4000000 in
theorem ok_l_seed {P : Program} {w : World} {K : PySem.W.Frag} {mg : Str → Option Value} {base : Heap} (T : Txt K mg) : FnOk P w K mg base (L2.CX P w) 1 T.a_l_seed T.f_l_seed ["_law_script", "_law_k"] (sp_l_seed ⟨P, w, K⟩ T.A) := by
  have nd := sc_l_seed.nd
  refine T.F_l_seed.okX sc_l_seed (fun vs H Q E h => ?_) (fun cdv A outer s H vs Q E hr h => ?_)
  · exact sp_l_seed_len h
  have hu := hu_of hr
  refine ⟨_, (pss_cons (ps_if (pt_cmpR op_lt (pv 1) (pe_callB (len_K K) (by rfl) T.b_len (by decide +kernel) (pa_cons (pv 0) pa_nil)) (nomark _))
        (pss_one (ps_ret (pe_ix (ix_qK K) (pv 0) (pv 1) (fun _ _ => rfl))))
        pss_nil)
      (pss_cons (ps_if (pt_cmpR op_eq (pe_callB (len_K K) (by rfl) T.b_len (by decide +kernel) (pa_cons (pv 0) pa_nil)) pe_int (nomark _))
        (pss_one (ps_ret (pe_op op_mul pe_int (pv 1))))
        pss_nil)
      (pss_one (ps_ret (pe_op op_add (pe_op op_mod (pe_callB call_abs (by rfl) T.b_abs (by decide +kernel) (pa_cons (pe_callTy call_int1 (by rfl) T.b_int (by decide +kernel) (pa_cons (pe_ix (ix_qK K) (pv 0) pe_int (fun _ _ => rfl)) pa_nil)) pa_nil)) (pe_op op_pow pe_int pe_int)) (pe_op op_mul pe_int (pv 1))))))), ?_⟩
  try dsimp only [cxOf]
  obtain ⟨script, k, nb, h⟩ := h
  refine Zm.body (js := [0, 1]) (m := l_seed_m script k) nb h ?_
  refine zm_to (Γ2 := [(.val (dSq (d := dInt)) script), (.val dInt k)]) rfl ?_
  delta l_seed_m
  refine zm_ifP (te_eq (te_test (we_lt (re_w (we_var rfl)) (re_w (we_lenQ (re_w (we_var rfl)))))) rfl) ?_ ?_
  · exact zm_ret (we_eq (we_ixQ (we_var rfl) (re_w (we_var rfl))) rfl)
  · refine zm_skip ?_
    refine zm_ifP (te_eq (te_test (we_eqS (re_w (we_lenQ (re_w (we_var rfl)))) (re_w we_int))) rfl) ?_ ?_
    · exact zm_ret (we_eq (we_mulCl (re_w we_int) (re_w (we_var rfl))) rfl)
    · refine zm_skip ?_
      refine zm_last ?_
      exact zm_ret (we_eq (we_add (re_w (we_mod (re_w (we_abs (re_w (we_int1 (re_w (we_ixQ (we_var rfl) (re_w we_int))))))) (re_w (we_powC (c := 1000000000000000) (re_w we_int) (re_w we_int) (by decide))))) (re_w (we_mulCl (re_w we_int) (re_w (we_var rfl))))) rfl)
end K41

namespace K41
open PySem L2 G PM
set_option maxHeartbeats 4000000 in
theorem ok_l_draws {P : Program} {w : World} {K : PySem.W.Frag} {mg : Str → Option Value} {base : Heap} (T : Txt K mg) : FnOk P w K mg base (L2.CX P w) 1 T.a_l_draws T.f_l_draws ["_law_cell", "_law_many"] (sp_l_draws ⟨P, w, K⟩ T.A) := by
  have nd := sc_l_draws.nd
  refine T.F_l_draws.okX sc_l_draws (fun vs H Q E h => ?_) (fun cdv A outer s H vs Q E hr h => ?_)
  · exact sp_l_draws_len h
  have hu := hu_of hr
  refine ⟨_, (pss_cons (ps_set (i := 2) nd rfl (Or.inl rfl) (pe_callB call_abs (by rfl) T.b_abs (by decide +kernel) (pa_cons (pe_callTy call_int1 (by rfl) T.b_int (by decide +kernel) (pa_cons (pv 0) pa_nil)) pa_nil)))
      (pss_cons (ps_set (i := 3) nd rfl (Or.inl rfl) (pe_cmpR op_ge (pv 2) (pe_op op_pow pe_int pe_int) (nomark _)))
      (pss_cons (ps_set (i := 4) nd rfl (Or.inl rfl) (pe_op op_add (pe_op op_mod (pe_callTy call_int1 (by rfl) T.b_int (by decide +kernel) (pa_cons (pv 2) pa_nil)) pe_int) pe_int))
      (pss_cons (ps_set (i := 5) nd rfl (Or.inl rfl) (pe_lst pa_nil))
      (pss_cons (ps_for (passes_of rfl) rfl (pi_range1 (by rfl) T.b_range (pa_cons (pv 1) pa_nil)) (pg_name (i := 6) nd rfl (Or.inl rfl))
        (pss_cons (ps_set (i := 4) nd rfl (Or.inl rfl) (pe_op op_mod (pe_callTy call_int1 (by rfl) T.b_int (by decide +kernel) (pa_cons (pe_op op_add (pe_op op_add (pe_op op_mul (pv 4) pe_int) (pe_op op_mul pe_int (pv 6))) pe_int) pa_nil)) pe_int))
      (pss_one (ps_if (PW.pt (pw_and (pt_val (pv 3)) (pw_and1 (pt_cmpR op_gt (pv 2) pe_int (nomark _)))))
        (pss_cons (ps_expr (bm_K K PySem.F.plainAttrs_list PySem.F.slot_list_append PySem.F.type_list_append mt_append (pv 5) (pa_cons (pe_op op_mod (pe_callTy call_int1 (by rfl) T.b_int (by decide +kernel) (pa_cons (pv 2) pa_nil)) pe_int) pa_nil)))
      (pss_one (ps_set (i := 2) nd rfl (Or.inl rfl) (pe_op op_fdiv (pv 2) pe_int))))
        (pss_one (ps_expr (bm_K K PySem.F.plainAttrs_list PySem.F.slot_list_append PySem.F.type_list_append mt_append (pv 5) (pa_cons (pe_op op_mod (pe_op op_fdiv (pv 4) pe_int) pe_int) pa_nil))))))))
      (pss_one (ps_ret (pv 5)))))))), ?_⟩
  try dsimp only [cxOf]
  obtain ⟨cell, many, nb, h⟩ := h
  refine Zm.body (js := [0, 1, 2, 3, 4, 5, 6]) (m := l_draws_m cell many) nb h ?_
  refine zm_to (Γ2 := [(.val dInt cell), (.val dInt many), .no, .no, .no, .no, .no]) rfl ?_
  delta l_draws_m
  refine zm_set (i := 2) rfl (by decide) (we_eq (we_abs (re_w (we_int1 (re_w (we_var rfl))))) rfl) fun rest_1 => ?_
  refine zm_set (i := 3) rfl (by decide) (we_eq (we_ge (re_w (we_var rfl)) (re_w (we_powC (c := 1000000000000000000) (re_w we_int) (re_w we_int) (by decide)))) rfl) fun exact_2 => ?_
  refine zm_set (i := 4) rfl (by decide) (we_eq (we_add (re_w (we_modC (re_w (we_int1 (re_w (we_var rfl)))) (re_w we_int))) (re_w we_int)) rfl) fun mixed_3 => ?_
  refine zm_setO (i := 5) rfl (by decide) (oe_eq (oe_lst0 (d := dInt)) rfl) fun draws_here_4 => ?_
  refine zm_for [6] (fun s5 => [(.val dInt cell), (.val dInt many), (.val dInt s5.1), (.val dBool exact_2), (.val dInt s5.2.1), (.own (dList (d := dInt)) (oList (d := dInt)) none s5.2.2), .no]) (rest_1, mixed_3, draws_here_4) (wlen 7 (by exact rfl) (by exact rfl) (by decide)) rfl (fun _ => (wlen 7 (by exact rfl) (by exact rfl) (by decide))) (ie_eq (ie_range (re_w (we_var rfl))) rfl) (fun s5 x6 => (a_name rfl ⟨(wlen 7 (by exact rfl) (by exact rfl) (by decide)), ?_⟩)) fun s11 => ?_
  · refine zm_set (i := 4) rfl (by decide) (we_eq (we_modC (re_w (we_int1 (re_w (we_add (re_w (we_add (re_w (we_mulCr (re_w (we_var rfl)) (re_w we_int))) (re_w (we_mulCl (re_w we_int) (re_w (we_var rfl)))))) (re_w we_int))))) (re_w we_int)) rfl) fun mixed_7 => ?_
    refine zm_last ?_
    refine zm_ifP (te_eq (te_andP (te_B (we_var rfl)) (te_test (we_gt (re_w (we_var rfl)) (re_w we_int)))) rfl) ?_ ?_
    · refine zm_assoc ?_
      refine zm_append (i := 5) rfl (by decide) (we_eq (we_modC (re_w (we_int1 (re_w (we_var rfl)))) (re_w we_int)) rfl) fun draws_here_8 => ?_
      refine zm_set (i := 2) rfl (by decide) (we_eq (we_fdivC (re_w (we_var rfl)) (re_w we_int)) rfl) fun rest_9 => ?_
      exact zm_nextL rfl
    · refine zm_append (i := 5) rfl (by decide) (we_eq (we_modC (re_w (we_fdivC (re_w (we_var rfl)) (re_w we_int))) (re_w we_int)) rfl) fun draws_here_10 => ?_
      exact zm_nextL rfl
  · refine zm_last ?_
    exact zm_retV rfl
end K41

namespace K41
open PySem L2 G PM
set_option maxHeartbeats 4000000 in
theorem ok_l_pick {P : Program} {w : World} {K : PySem.W.Frag} {mg : Str → Option Value} {base : Heap} (T : Txt K mg) : FnOk P w K mg base (L2.CX P w) 1 T.a_l_pick T.f_l_pick ["_law_draws_here", "_law_k", "_law_many"] (sp_l_pick ⟨P, w, K⟩ T.A) := by
  have nd := sc_l_pick.nd
  refine T.F_l_pick.okX sc_l_pick (fun vs H Q E h => ?_) (fun cdv A outer s H vs Q E hr h => ?_)
  · exact sp_l_pick_len h
  have hu := hu_of hr
  refine ⟨_, (pss_cons (ps_if (PW.pt (pw_or (pt_cmpR op_lt (pv 2) pe_int (nomark _)) (pw_or1 (pt_cmpR op_eq (pe_callB (len_K K) (by rfl) T.b_len (by decide +kernel) (pa_cons (pv 0) pa_nil)) pe_int (nomark _)))))
        (pss_one (ps_ret pe_int))
        pss_nil)
      (pss_one (ps_ret (pe_op op_mod (pe_callTy call_int1 (by rfl) T.b_int (by decide +kernel) (pa_cons (pe_ix (ix_lK K) (pv 0) (pe_op op_mod (pe_callTy call_int1 (by rfl) T.b_int (by decide +kernel) (pa_cons (pv 1) pa_nil)) (pe_callB (len_K K) (by rfl) T.b_len (by decide +kernel) (pa_cons (pv 0) pa_nil))) (fun _ _ => rfl)) pa_nil)) (pv 2))))), ?_⟩
  try dsimp only [cxOf]
  obtain ⟨draws_here, k, many, nb, h⟩ := h
  refine Zm.body (js := [0, 1, 2]) (m := l_pick_m draws_here k many) nb h ?_
  refine zm_to (Γ2 := [(.val (dList (d := dInt)) draws_here), (.val dInt k), (.val dInt many)]) rfl ?_
  delta l_pick_m
  refine zm_ifP (te_eq (te_orP (te_test (we_lt (re_w (we_var rfl)) (re_w we_int))) (te_test (we_eqS (re_w (we_len (re_w (we_var rfl)))) (re_w we_int)))) rfl) ?_ ?_
  · exact zm_ret (we_eq we_int rfl)
  · refine zm_skip ?_
    refine zm_last ?_
    exact zm_ret (we_eq (we_mod (re_w (we_int1 (re_w (we_ix (we_var rfl) (re_w (we_mod (re_w (we_int1 (re_w (we_var rfl)))) (re_w (we_len (re_w (we_var rfl)))))))))) (re_w (we_var rfl))) rfl)
end K41

namespace K41
open PySem L2 G PM
set_option maxHeartbeats 4000000 in
theorem ok_l_crowd {P : Program} {w : World} {K : PySem.W.Frag} {mg : Str → Option Value} {base : Heap} (T : Txt K mg) (G_l_pick : FnOk P w K mg base (L2.CX P w) 1 T.a_l_pick T.f_l_pick ["_law_draws_here", "_law_k", "_law_many"] (sp_l_pick ⟨P, w, K⟩ T.A)) : FnOk P w K mg base (L2.CX P w) 2 T.a_l_crowd T.f_l_crowd ["_law_draws_here", "_law_extra"] (sp_l_crowd ⟨P, w, K⟩ T.A) := by
  have nd := sc_l_crowd.nd
  refine T.F_l_crowd.okX sc_l_crowd (fun vs H Q E h => ?_) (fun cdv A outer s H vs Q E hr h => ?_)
  · exact sp_l_crowd_len h
  have hu := hu_of hr
  refine ⟨_, (pss_cons (ps_setLc (i := 3) (own := [("_law_k", 2)]) (by rfl) nd rfl rfl (sw_true rfl rfl rfl (by decide +kernel)) (pi_range1 (by rfl) T.b_range (pa_cons (pe_callS G_l_pick (hr.mono (by decide)) (by rfl) T.g_l_pick T.F_l_pick.kp T.d_l_pick (fun σ => passAt (takes_of rfl rfl rfl rfl) σ) (pa_cons (pv 0) (pa_cons pe_int (pa_cons pe_int pa_nil)))) pa_nil)) (blkOk_by (own := [("_law_k", 2)]) (N := N_l_crowd) (sc := defScope s_l_crowd) (by decide +kernel)) (fun _ _ _ _ _ => (pg_name (i := 2) nd rfl (Or.inl rfl))) (fun _ _ _ _ _ => pts_nil) (fun _ _ _ _ _ => (pe_op op_add pe_int (pe_callS G_l_pick (hr.mono (by decide)) (by rfl) T.g_l_pick T.F_l_pick.kp T.d_l_pick (fun σ => passFS σ) (pa_cons (pv 0) (pa_cons (pe_op op_add pe_int (pv 2)) (pa_cons pe_int pa_nil)))))))
      (pss_cons (ps_set (i := 4) nd rfl (Or.inl rfl) (pe_op op_sub (pe_op op_add pe_int (pe_callS G_l_pick (hr.mono (by decide)) (by rfl) T.g_l_pick T.F_l_pick.kp T.d_l_pick (fun σ => passAt (takes_of rfl rfl rfl rfl) σ) (pa_cons (pv 1) (pa_cons pe_int (pa_cons pe_int pa_nil))))) (pe_callB (sum_K K rfl) (by rfl) T.b_sum (by decide +kernel) (pa_cons (pe_lc (own := [("_law_many", 11)]) (by rfl) nd (pi_lB K (pv 3)) (blkOk_by (own := [("_law_many", 11)]) (N := N_l_crowd) (sc := defScope s_l_crowd) (by decide +kernel)) (fun _ _ _ _ _ => (pg_name (i := 11) nd rfl (Or.inl rfl))) (fun _ _ _ _ _ => pts_nil) (fun _ _ _ _ _ => (pe_op op_add (pv 11) pe_int))) pa_nil))))
      (pss_cons (ps_setLc (i := 5) (own := [("_law_k", 2)]) (by rfl) nd rfl rfl (sw_true rfl rfl rfl (by decide +kernel)) (pi_range1 (by rfl) T.b_range (pa_cons (pe_callB (call_max2 rfl) (by rfl) T.b_max (by decide +kernel) (pa_cons pe_int (pa_cons (pv 4) pa_nil))) pa_nil)) (blkOk_by (own := [("_law_k", 2)]) (N := N_l_crowd) (sc := defScope s_l_crowd) (by decide +kernel)) (fun _ _ _ _ _ => (pg_name (i := 2) nd rfl (Or.inl rfl))) (fun _ _ _ _ _ => pts_nil) (fun _ _ _ _ _ => (pe_op op_add pe_int (pe_callS G_l_pick (hr.mono (by decide)) (by rfl) T.g_l_pick T.F_l_pick.kp T.d_l_pick (fun σ => passFS σ) (pa_cons (pv 1) (pa_cons (pe_op op_add pe_int (pe_op op_mod (pe_callTy call_int1 (by rfl) T.b_int (by decide +kernel) (pa_cons (pe_op op_mul (pv 2) (pv 2)) pa_nil)) pe_int)) (pa_cons pe_int pa_nil)))))))
      (pss_cons (ps_set (i := 6) nd rfl (Or.inl rfl) (pe_op op_catR (pv 5) (pv 3)))
      (pss_cons (ps_if (pt_cmpR op_eq (pe_callS G_l_pick (hr.mono (by decide)) (by rfl) T.g_l_pick T.F_l_pick.kp T.d_l_pick (fun σ => passAt (takes_of rfl rfl rfl rfl) σ) (pa_cons (pv 1) (pa_cons pe_int (pa_cons pe_int pa_nil)))) pe_int (nomark _))
        (pss_one (ps_set (i := 6) nd rfl (Or.inl rfl) (pe_op op_catR (pv 3) (pv 5))))
        pss_nil)
      (pss_cons (ps_set (i := 7) nd rfl (Or.inl rfl) (pe_lst pa_nil))
      (pss_cons (ps_for (passes_of rfl) rfl (pi_range1 (by rfl) T.b_range (pa_cons (pe_callB (call_max2 rfl) (by rfl) T.b_max (by decide +kernel) (pa_cons pe_int (pa_cons (pe_op op_sub (pe_op op_add pe_int (pe_callS G_l_pick (hr.mono (by decide)) (by rfl) T.g_l_pick T.F_l_pick.kp T.d_l_pick (fun σ => passAt (takes_of rfl rfl rfl rfl) σ) (pa_cons (pv 1) (pa_cons pe_int (pa_cons pe_int pa_nil))))) (pe_callB (sum_K K rfl) (by rfl) T.b_sum (by decide +kernel) (pa_cons (pe_lc (own := [("_law_many", 11)]) (by rfl) nd (pi_lB K (pv 3)) (blkOk_by (own := [("_law_many", 11)]) (N := N_l_crowd) (sc := defScope s_l_crowd) (by decide +kernel)) (fun _ _ _ _ _ => (pg_name (i := 11) nd rfl (Or.inl rfl))) (fun _ _ _ _ _ => pts_nil) (fun _ _ _ _ _ => (pe_op op_mul pe_int (pv 11)))) pa_nil))) pa_nil))) pa_nil)) (pg_name (i := 2) nd rfl (Or.inl rfl))
        (pss_cons (ps_set (i := 8) nd rfl (Or.inl rfl) (pe_op op_mod (pe_callTy call_int1 (by rfl) T.b_int (by decide +kernel) (pa_cons (pe_op op_add (pe_op op_mul pe_int (pv 2)) (pe_callS G_l_pick (hr.mono (by decide)) (by rfl) T.g_l_pick T.F_l_pick.kp T.d_l_pick (fun σ => passAt (takes_of rfl rfl rfl rfl) σ) (pa_cons (pv 1) (pa_cons pe_int (pa_cons pe_int pa_nil))))) pa_nil)) (pe_callB (len_K K) (by rfl) T.b_len (by decide +kernel) (pa_cons (pv 6) pa_nil))))
      (pss_cons (ps_set (i := 9) nd rfl (Or.inl rfl) (pe_op op_mod (pe_callTy call_int1 (by rfl) T.b_int (by decide +kernel) (pa_cons (pe_op op_add (pe_op op_mul (pv 2) (pv 2)) (pe_callS G_l_pick (hr.mono (by decide)) (by rfl) T.g_l_pick T.F_l_pick.kp T.d_l_pick (fun σ => passAt (takes_of rfl rfl rfl rfl) σ) (pa_cons (pv 1) (pa_cons pe_int (pa_cons pe_int pa_nil))))) pa_nil)) (pe_callB (len_K K) (by rfl) T.b_len (by decide +kernel) (pa_cons (pv 6) pa_nil))))
      (pss_cons (ps_set (i := 10) nd rfl (Or.inl rfl) (pe_op op_mod (pe_callTy call_int1 (by rfl) T.b_int (by decide +kernel) (pa_cons (pe_op op_add (pv 2) (pe_callS G_l_pick (hr.mono (by decide)) (by rfl) T.g_l_pick T.F_l_pick.kp T.d_l_pick (fun σ => passAt (takes_of rfl rfl rfl rfl) σ) (pa_cons (pv 1) (pa_cons pe_int (pa_cons pe_int pa_nil))))) pa_nil)) (pe_ix (ix_lK K) (pv 6) (pv 8) (fun _ _ => rfl))))
      (pss_one (ps_expr (bm_K K PySem.F.plainAttrs_list PySem.F.slot_list_append PySem.F.type_list_append mt_append (pv 7) (pa_cons (pe_tup (pa_cons (pv 8) (pa_cons (pv 10) (pa_cons (pv 9) (pa_cons (pe_op op_mod (pe_callTy call_int1 (by rfl) T.b_int (by decide +kernel) (pa_cons (pe_op op_add (pe_op op_mul pe_int (pv 2)) (pe_callS G_l_pick (hr.mono (by decide)) (by rfl) T.g_l_pick T.F_l_pick.kp T.d_l_pick (fun σ => passAt (takes_of rfl rfl rfl rfl) σ) (pa_cons (pv 1) (pa_cons pe_int (pa_cons pe_int pa_nil))))) pa_nil)) (pe_ix (ix_lK K) (pv 6) (pv 9) (fun _ _ => rfl))) pa_nil))))) pa_nil))))))))
      (pss_one (ps_ret (pe_tup (pa_cons (pv 6) (pa_cons (pv 7) pa_nil)))))))))))), ?_⟩
  try dsimp only [cxOf]
  obtain ⟨draws_here, extra, nb, h⟩ := h
  refine Zm.body (js := [0, 1, 2, 3, 4, 5, 6, 7, 8, 9, 10, 11]) (m := l_crowd_m draws_here extra) nb h ?_
  refine zm_to (Γ2 := [(.val (dList (d := dInt)) draws_here), (.val (dList (d := dInt)) extra), .no, .no, .no, .no, .no, .no, .no, .no, .no, .no]) rfl ?_
  delta l_crowd_m
  refine zm_set (i := 3) rfl (by decide) (we_eq (we_o (oe_lc (tg_name' (by decide)) (ic_range (re_w (we_call3 hs_l_pick rfl (we_var rfl) we_int we_int))) fun x2 => (a_name rfl ⟨te_yes, (we_add (re_w we_int) (re_w (we_call3 hs_l_pick rfl (we_var rfl) (we_add (re_w we_int) (re_w (we_var rfl))) we_int)))⟩))) rfl) fun large_here_4 => ?_
  refine zm_set (i := 4) rfl (by decide) (we_eq (we_sub (re_w (we_add (re_w we_int) (re_w (we_call3 hs_l_pick rfl (we_var rfl) we_int we_int)))) (re_w (we_sum (re_w (we_o (oe_lc (tg_name' (by decide)) (ic_list (we_var rfl)) fun x6 => (a_name rfl ⟨te_yes, (we_add (re_w (we_var rfl)) (re_w we_int))⟩))))))) rfl) fun lacking_10 => ?_
  refine zm_set (i := 5) rfl (by decide) (we_eq (we_o (oe_lc (tg_name' (by decide)) (ic_range (re_w (we_max2 (re_w we_int) (re_w (we_var rfl))))) fun x11 => (a_name rfl ⟨te_yes, (we_add (re_w we_int) (re_w (we_call3 hs_l_pick rfl (we_var rfl) (we_add (re_w we_int) (re_w (we_modC (re_w (we_int1 (re_w (we_mul (re_w (we_var rfl)) (re_w (we_var rfl)))))) (re_w we_int)))) we_int)))⟩))) rfl) fun small_18 => ?_
  refine zm_setO (i := 6) rfl (by decide) (oe_eq (oe_cat (we_var rfl) (we_var rfl)) rfl) fun sides_19 => ?_
  refine zm_join [] (fun s22 => [(.val (dList (d := dInt)) draws_here), (.val (dList (d := dInt)) extra), .no, (.val (dList (d := dInt)) large_here_4), (.val dInt lacking_10), (.val (dList (d := dInt)) small_18), (.own (dList (d := dInt)) (oList (d := dInt)) none s22), .no, .no, .no, .no, .no]) (fun _ => (wlen 12 (by exact rfl) (by exact rfl) (by decide))) ?_ fun s22 => ?_
  · refine zm_last (zm_if (te_eq (te_test (we_eqS (re_w (we_call3 hs_l_pick rfl (we_var rfl) we_int we_int)) (re_w we_int))) rfl) ?_ ?_)
    · refine zm_setO (i := 6) rfl (by decide) (oe_eq (oe_cat (we_var rfl) (we_var rfl)) rfl) fun sides_21 => ?_
      exact zm_nextJ rfl
    · refine zm_skip ?_
      exact zm_nextJ rfl
  · refine zm_setO (i := 7) rfl (by decide) (oe_eq (oe_lst0 (d := (dT4 (d1 := dInt) (d2 := dInt) (d3 := dInt) (d4 := dInt)))) rfl) fun ties_23 => ?_
    refine zm_for [2, 8, 9, 10] (fun s24 => [(.val (dList (d := dInt)) draws_here), (.val (dList (d := dInt)) extra), .no, (.val (dList (d := dInt)) large_here_4), (.val dInt lacking_10), (.val (dList (d := dInt)) small_18), (.own (dList (d := dInt)) (oList (d := dInt)) none s22), (.own (dList (d := (dT4 (d1 := dInt) (d2 := dInt) (d3 := dInt) (d4 := dInt)))) (oList (d := (dT4 (d1 := dInt) (d2 := dInt) (d3 := dInt) (d4 := dInt)))) none s24), .no, .no, .no, .no]) ties_23 (wlen 12 (by exact rfl) (by exact rfl) (by decide)) rfl (fun _ => (wlen 12 (by exact rfl) (by exact rfl) (by decide))) (ie_eq (ie_range (re_w (we_max2 (re_w we_int) (re_w (we_sub (re_w (we_add (re_w we_int) (re_w (we_call3 hs_l_pick rfl (we_var rfl) we_int we_int)))) (re_w (we_sum (re_w (we_o (oe_lc (tg_name' (by decide)) (ic_list (we_var rfl)) fun x26 => (a_name rfl ⟨te_yes, (we_mulCl (re_w we_int) (re_w (we_var rfl)))⟩))))))))))) rfl) (fun s24 x32 => (a_name rfl ⟨(wlen 12 (by exact rfl) (by exact rfl) (by decide)), ?_⟩)) fun s49 => ?_
    · refine zm_set (i := 8) rfl (by decide) (we_eq (we_mod (re_w (we_int1 (re_w (we_add (re_w (we_mulCl (re_w we_int) (re_w (we_var rfl)))) (re_w (we_call3 hs_l_pick rfl (we_var rfl) we_int we_int)))))) (re_w (we_len (re_varO rfl)))) rfl) fun one_35 => ?_
      refine zm_set (i := 9) rfl (by decide) (we_eq (we_mod (re_w (we_int1 (re_w (we_add (re_w (we_mul (re_w (we_var rfl)) (re_w (we_var rfl)))) (re_w (we_call3 hs_l_pick rfl (we_var rfl) we_int we_int)))))) (re_w (we_len (re_varO rfl)))) rfl) fun other_39 => ?_
      refine zm_set (i := 10) rfl (by decide) (we_eq (we_mod (re_w (we_int1 (re_w (we_add (re_w (we_var rfl)) (re_w (we_call3 hs_l_pick rfl (we_var rfl) we_int we_int)))))) (re_w (we_ixO rfl (re_w (we_var rfl))))) rfl) fun side_43 => ?_
      refine zm_last ?_
      refine zm_append (i := 7) rfl (by decide) (we_eq (we_tup4 (we_var rfl) (we_var rfl) (we_var rfl) (we_mod (re_w (we_int1 (re_w (we_add (re_w (we_mulCl (re_w we_int) (re_w (we_var rfl)))) (re_w (we_call3 hs_l_pick rfl (we_var rfl) we_int we_int)))))) (re_w (we_ixO rfl (re_w (we_var rfl)))))) rfl) fun ties_48 => ?_
      exact zm_nextL rfl
    · refine zm_last ?_
      exact zm_retP (i := 6) (j := 7) rfl rfl rfl
end K41

namespace K41
open PySem L2 G PM
set_option maxHeartbeats 4000000 in
theorem ok_l_rich {P : Program} {w : World} {K : PySem.W.Frag} {mg : Str → Option Value} {base : Heap} (T : Txt K mg) (G_l_pick : FnOk P w K mg base (L2.CX P w) 1 T.a_l_pick T.f_l_pick ["_law_draws_here", "_law_k", "_law_many"] (sp_l_pick ⟨P, w, K⟩ T.A)) : FnOk P w K mg base (L2.CX P w) 2 T.a_l_rich T.f_l_rich ["_law_draws_here", "_law_more", "_law_many", "_law_count"] (sp_l_rich ⟨P, w, K⟩ T.A) := by
  have nd := sc_l_rich.nd
  refine T.F_l_rich.okX sc_l_rich (fun vs H Q E h => ?_) (fun cdv A outer s H vs Q E hr h => ?_)
  · exact sp_l_rich_len h
  have hu := hu_of hr
  refine ⟨_, (pss_cons (ps_if (pt_cmpR op_eq (pe_callS G_l_pick (hr.mono (by decide)) (by rfl) T.g_l_pick T.F_l_pick.kp T.d_l_pick (fun σ => passAt (takes_of rfl rfl rfl rfl) σ) (pa_cons (pv 1) (pa_cons pe_int (pa_cons pe_int pa_nil)))) pe_int (nomark _))
        (pss_one (ps_ret (pv 0)))
        pss_nil)
      (pss_one (ps_ret (pe_op op_catR (pe_lst (pa_cons (pv 2) (pa_cons (pv 3) pa_nil))) (pe_slice (sl_lK K) (pv 0) (po_some pe_int) po_none))))), ?_⟩
  try dsimp only [cxOf]
  obtain ⟨draws_here, more, many, count, nb, h⟩ := h
  refine Zm.body (js := [0, 1, 2, 3]) (m := l_rich_m draws_here more many count) nb h ?_
  refine zm_to (Γ2 := [(.val (dList (d := dInt)) draws_here), (.val (dList (d := dInt)) more), (.val dInt many), (.val dInt count)]) rfl ?_
  delta l_rich_m
  refine zm_if (te_eq (te_test (we_eqS (re_w (we_call3 hs_l_pick rfl (we_var rfl) we_int we_int)) (re_w we_int))) rfl) ?_ ?_
  · exact zm_ret (we_eq (we_var rfl) rfl)
  · refine zm_skip ?_
    refine zm_last ?_
    exact zm_ret (we_eq (we_o (oe_cat (we_o (oe_lstN (wle_cons (we_var rfl) (wle_cons (we_var rfl) wle_nil)) (asLenS (asLenS asLen0)) (by decide))) (we_o (oe_sl (we_var rfl) (toe_some (re_w we_int)) toe_none)))) rfl)
end K41

namespace K41
open PySem L2 G PM
set_option maxHeartbeats 4000000 in
theorem ok_l_web {P : Program} {w : World} {K : PySem.W.Frag} {mg : Str → Option Value} {base : Heap} (T : Txt K mg) (G_l_pick : FnOk P w K mg base (L2.CX P w) 1 T.a_l_pick T.f_l_pick ["_law_draws_here", "_law_k", "_law_many"] (sp_l_pick ⟨P, w, K⟩ T.A)) : FnOk P w K mg base (L2.CX P w) 2 T.a_l_web T.f_l_web ["_law_draws_here", "_law_most_places", "_law_most_ties"] (sp_l_web ⟨P, w, K⟩ T.A) := by
  have nd := sc_l_web.nd
  refine T.F_l_web.okX sc_l_web (fun vs H Q E h => ?_) (fun cdv A outer s H vs Q E hr h => ?_)
  · exact sp_l_web_len h
  have hu := hu_of hr
  refine ⟨_, (pss_cons (ps_set (i := 3) nd rfl (Or.inr rfl) (pe_lst (pa_cons pe_int (pa_cons pe_int (pa_cons pe_int (pa_cons pe_int (pa_cons pe_int (pa_cons pe_int pa_nil))))))))
      (pss_cons (ps_set (i := 4) nd rfl (Or.inl rfl) (pe_callS G_l_pick (hr.mono (by decide)) (by rfl) T.g_l_pick T.F_l_pick.kp T.d_l_pick (fun σ => passAt (takes_of rfl rfl rfl rfl) σ) (pa_cons (pv 0) (pa_cons pe_int (pa_cons (pe_op op_add (pv 1) pe_int) pa_nil)))))
      (pss_cons (ps_setLc (i := 6) (own := [("_law_k", 5)]) (by rfl) nd rfl rfl (sw_true rfl rfl rfl (by decide +kernel)) (pi_range1 (by rfl) T.b_range (pa_cons (pv 4) pa_nil)) (blkOk_by (own := [("_law_k", 5)]) (N := N_l_web) (sc := defScope s_l_web) (by decide +kernel)) (fun _ _ _ _ _ => (pg_name (i := 5) nd rfl (Or.inl rfl))) (fun _ _ _ _ _ => pts_nil) (fun _ _ _ _ _ => (pe_ix (ix_lK K) (pv 3) (pe_callS G_l_pick (hr.mono (by decide)) (by rfl) T.g_l_pick T.F_l_pick.kp T.d_l_pick (fun σ => passFS σ) (pa_cons (pv 0) (pa_cons (pe_op op_add pe_int (pv 5)) (pa_cons pe_int pa_nil)))) (fun _ _ => rfl))))
      (pss_cons (ps_set (i := 7) nd rfl (Or.inl rfl) (pe_lst pa_nil))
      (pss_cons (ps_for (passes_of rfl) rfl (pi_range1 (by rfl) T.b_range (pa_cons (pe_callS G_l_pick (hr.mono (by decide)) (by rfl) T.g_l_pick T.F_l_pick.kp T.d_l_pick (fun σ => passAt (takes_of rfl rfl rfl rfl) σ) (pa_cons (pv 0) (pa_cons pe_int (pa_cons (pe_op op_add (pv 2) pe_int) pa_nil)))) pa_nil)) (pg_name (i := 5) nd rfl (Or.inl rfl))
        (pss_one (ps_if (pt_cmpR op_gt (pv 4) pe_int (nomark _))
        (pss_cons (ps_set (i := 8) nd rfl (Or.inl rfl) (pe_op op_add (pe_op op_add pe_int (pv 4)) (pe_op op_mul pe_int (pv 5))))
      (pss_cons (ps_set (i := 9) nd rfl (Or.inl rfl) (pe_callS G_l_pick (hr.mono (by decide)) (by rfl) T.g_l_pick T.F_l_pick.kp T.d_l_pick (fun σ => passAt (takes_of rfl rfl rfl rfl) σ) (pa_cons (pv 0) (pa_cons (pv 8) (pa_cons (pv 4) pa_nil)))))
      (pss_cons (ps_set (i := 10) nd rfl (Or.inl rfl) (pe_callS G_l_pick (hr.mono (by decide)) (by rfl) T.g_l_pick T.F_l_pick.kp T.d_l_pick (fun σ => passAt (takes_of rfl rfl rfl rfl) σ) (pa_cons (pv 0) (pa_cons (pe_op op_add (pv 8) pe_int) (pa_cons (pv 4) pa_nil)))))
      (pss_cons (ps_set (i := 11) nd rfl (Or.inl rfl) (pe_callS G_l_pick (hr.mono (by decide)) (by rfl) T.g_l_pick T.F_l_pick.kp T.d_l_pick (fun σ => passAt (takes_of rfl rfl rfl rfl) σ) (pa_cons (pv 0) (pa_cons (pe_op op_add (pv 8) pe_int) (pa_cons (pe_ix (ix_lK K) (pv 6) (pv 9) (fun _ _ => rfl)) pa_nil)))))
      (pss_one (ps_expr (bm_K K PySem.F.plainAttrs_list PySem.F.slot_list_append PySem.F.type_list_append mt_append (pv 7) (pa_cons (pe_tup (pa_cons (pv 9) (pa_cons (pv 11) (pa_cons (pv 10) (pa_cons (pe_callS G_l_pick (hr.mono (by decide)) (by rfl) T.g_l_pick T.F_l_pick.kp T.d_l_pick (fun σ => passAt (takes_of rfl rfl rfl rfl) σ) (pa_cons (pv 0) (pa_cons (pe_op op_add (pv 8) pe_int) (pa_cons (pe_ix (ix_lK K) (pv 6) (pv 10) (fun _ _ => rfl)) pa_nil)))) pa_nil))))) pa_nil))))))))
        pss_nil)))
      (pss_one (ps_ret (pe_tup (pa_cons (pv 6) (pa_cons (pv 7) pa_nil)))))))))), ?_⟩
  try dsimp only [cxOf]
  obtain ⟨draws_here, most_places, most_ties, nb, h⟩ := h
  refine Zm.body (js := [0, 1, 2, 3, 4, 5, 6, 7, 8, 9, 10, 11]) (m := l_web_m draws_here most_places most_ties) nb h ?_
  refine zm_to (Γ2 := [(.val (dList (d := dInt)) draws_here), (.val dInt most_places), (.val dInt most_ties), .no, .no, .no, .no, .no, .no, .no, .no, .no]) rfl ?_
  delta l_web_m
  refine zm_set (i := 3) rfl (by decide) (we_eq (we_o (oe_lstN (wle_cons we_int (wle_cons we_int (wle_cons we_int (wle_cons we_int (wle_cons we_int (wle_cons we_int wle_nil)))))) (asLenS (asLenS (asLenS (asLenS (asLenS (asLenS asLen0)))))) (by decide))) rfl) fun menu_1 => ?_
  refine zm_set (i := 4) rfl (by decide) (we_eq (we_call3 hs_l_pick rfl (we_var rfl) we_int (we_add (re_w (we_var rfl)) (re_w we_int))) rfl) fun many_2 => ?_
  refine zm_setO (i := 6) rfl (by decide) (oe_eq (oe_lc (tg_name' (by decide)) (ic_range (re_w (we_var rfl))) fun x3 => (a_name rfl ⟨te_yes, (we_ix (we_var rfl) (re_w (we_call3 hs_l_pick rfl (we_var rfl) (we_add (re_w we_int) (re_w (we_var rfl))) we_int)))⟩)) rfl) fun sides_5 => ?_
  refine zm_setO (i := 7) rfl (by decide) (oe_eq (oe_lst0 (d := (dT4 (d1 := dInt) (d2 := dInt) (d3 := dInt) (d4 := dInt)))) rfl) fun ties_6 => ?_
  refine zm_for [5, 8, 9, 10, 11] (fun s7 => [(.val (dList (d := dInt)) draws_here), (.val dInt most_places), (.val dInt most_ties), (.val (dList (d := dInt)) menu_1), (.val dInt many_2), .no, (.own (dList (d := dInt)) (oList (d := dInt)) none sides_5), (.own (dList (d := (dT4 (d1 := dInt) (d2 := dInt) (d3 := dInt) (d4 := dInt)))) (oList (d := (dT4 (d1 := dInt) (d2 := dInt) (d3 := dInt) (d4 := dInt)))) none s7), .no, .no, .no, .no]) ties_6 (wlen 12 (by exact rfl) (by exact rfl) (by decide)) rfl (fun _ => (wlen 12 (by exact rfl) (by exact rfl) (by decide))) (ie_eq (ie_range (re_w (we_call3 hs_l_pick rfl (we_var rfl) we_int (we_add (re_w (we_var rfl)) (re_w we_int))))) rfl) (fun s7 x9 => (a_name rfl ⟨(wlen 12 (by exact rfl) (by exact rfl) (by decide)), ?_⟩)) fun s18 => ?_
  · refine zm_last ?_
    refine zm_ifP (te_eq (te_test (we_gt (re_w (we_var rfl)) (re_w we_int))) rfl) ?_ ?_
    · refine zm_assoc ?_
      refine zm_set (i := 8) rfl (by decide) (we_eq (we_add (re_w (we_add (re_w we_int) (re_w (we_var rfl)))) (re_w (we_mulCl (re_w we_int) (re_w (we_var rfl))))) rfl) fun at__10 => ?_
      refine zm_assoc ?_
      refine zm_set (i := 9) rfl (by decide) (we_eq (we_call3 hs_l_pick rfl (we_var rfl) (we_var rfl) (we_var rfl)) rfl) fun one_11 => ?_
      refine zm_assoc ?_
      refine zm_set (i := 10) rfl (by decide) (we_eq (we_call3 hs_l_pick rfl (we_var rfl) (we_add (re_w (we_var rfl)) (re_w we_int)) (we_var rfl)) rfl) fun other_12 => ?_
      refine zm_assoc ?_
      refine zm_set (i := 11) rfl (by decide) (we_eq (we_call3 hs_l_pick rfl (we_var rfl) (we_add (re_w (we_var rfl)) (re_w we_int)) (we_ixO rfl (re_w (we_var rfl)))) rfl) fun side_14 => ?_
      refine zm_append (i := 7) rfl (by decide) (we_eq (we_tup4 (we_var rfl) (we_var rfl) (we_var rfl) (we_call3 hs_l_pick rfl (we_var rfl) (we_add (re_w (we_var rfl)) (re_w we_int)) (we_ixO rfl (re_w (we_var rfl))))) rfl) fun ties_17 => ?_
      exact zm_nextL rfl
    · refine zm_skip ?_
      exact zm_nextL rfl
  · refine zm_last ?_
    exact zm_retP (i := 6) (j := 7) rfl rfl rfl
end K41

namespace K41
open PySem L2 G PM
set_option maxHeartbeats 4000000 in
theorem ok_l_world {P : Program} {w : World} {K : PySem.W.Frag} {mg : Str → Option Value} {base : Heap} (T : Txt K mg) (G_l_pick : FnOk P w K mg base (L2.CX P w) 1 T.a_l_pick T.f_l_pick ["_law_draws_here", "_law_k", "_law_many"] (sp_l_pick ⟨P, w, K⟩ T.A)) (G_l_crowd : FnOk P w K mg base (L2.CX P w) 2 T.a_l_crowd T.f_l_crowd ["_law_draws_here", "_law_extra"] (sp_l_crowd ⟨P, w, K⟩ T.A)) (G_l_rich : FnOk P w K mg base (L2.CX P w) 2 T.a_l_rich T.f_l_rich ["_law_draws_here", "_law_more", "_law_many", "_law_count"] (sp_l_rich ⟨P, w, K⟩ T.A)) (G_l_web : FnOk P w K mg base (L2.CX P w) 2 T.a_l_web T.f_l_web ["_law_draws_here", "_law_most_places", "_law_most_ties"] (sp_l_web ⟨P, w, K⟩ T.A)) : FnOk P w K mg base (L2.CX P w) 3 T.a_l_world T.f_l_world ["_law_draws_here", "_law_extra"] (sp_l_world ⟨P, w, K⟩ T.A) := by
  have nd := sc_l_world.nd
  refine T.F_l_world.okX sc_l_world (fun vs H Q E h => ?_) (fun cdv A outer s H vs Q E hr h => ?_)
  · exact sp_l_world_len h
  have hu := hu_of hr
  refine ⟨_, (pss_cons (ps_if (pt_cmpR op_eq (pe_callS G_l_pick (hr.mono (by decide)) (by rfl) T.g_l_pick T.F_l_pick.kp T.d_l_pick (fun σ => passAt (takes_of rfl rfl rfl rfl) σ) (pa_cons (pv 1) (pa_cons pe_int (pa_cons pe_int pa_nil)))) pe_int (nomark _))
        (pss_one (ps_ret (pe_callS G_l_crowd (hr.mono (by decide)) (by rfl) T.g_l_crowd T.F_l_crowd.kp T.d_l_crowd (fun σ => passAt (takes_of rfl rfl rfl rfl) σ) (pa_cons (pv 0) (pa_cons (pv 1) pa_nil)))))
        pss_nil)
      (pss_cons (ps_set (i := 0) nd rfl (Or.inl rfl) (pe_callS G_l_rich (hr.mono (by decide)) (by rfl) T.g_l_rich T.F_l_rich.kp T.d_l_rich (fun σ => passAt (takes_of rfl rfl rfl rfl) σ) (pa_cons (pv 0) (pa_cons (pv 1) (pa_cons (pe_op op_add pe_int (pe_callS G_l_pick (hr.mono (by decide)) (by rfl) T.g_l_pick T.F_l_pick.kp T.d_l_pick (fun σ => passAt (takes_of rfl rfl rfl rfl) σ) (pa_cons (pv 1) (pa_cons pe_int (pa_cons pe_int pa_nil))))) (pa_cons (pe_op op_add pe_int (pe_callS G_l_pick (hr.mono (by decide)) (by rfl) T.g_l_pick T.F_l_pick.kp T.d_l_pick (fun σ => passAt (takes_of rfl rfl rfl rfl) σ) (pa_cons (pv 1) (pa_cons pe_int (pa_cons pe_int pa_nil))))) pa_nil))))))
      (pss_cons (ps_asg (pe_callS G_l_web (hr.mono (by decide)) (by rfl) T.g_l_web T.F_l_web.kp T.d_l_web (fun σ => passAt (takes_of rfl rfl rfl rfl) σ) (pa_cons (pv 0) (pa_cons pe_int (pa_cons pe_int pa_nil)))) (pg_tupK (n := 2) K (by rfl) (pgs_cons (pg_name (i := 2) nd rfl (Or.inl rfl)) (pgs_cons (pg_name (i := 3) nd rfl (Or.inl rfl)) pgs_nil))))
      (pss_cons (ps_for (passes_of rfl) rfl (pi_range1 (by rfl) T.b_range (pa_cons (pe_callS G_l_pick (hr.mono (by decide)) (by rfl) T.g_l_pick T.F_l_pick.kp T.d_l_pick (fun σ => passAt (takes_of rfl rfl rfl rfl) σ) (pa_cons (pv 1) (pa_cons pe_int (pa_cons pe_int pa_nil)))) pa_nil)) (pg_name (i := 4) nd rfl (Or.inl rfl))
        (pss_one (ps_if (pt_cmpR op_gt (pe_callB (len_K K) (by rfl) T.b_len (by decide +kernel) (pa_cons (pv 3) pa_nil)) pe_int (nomark _))
        (pss_cons (ps_set (i := 5) nd rfl (Or.inl rfl) (pe_callS G_l_pick (hr.mono (by decide)) (by rfl) T.g_l_pick T.F_l_pick.kp T.d_l_pick (fun σ => passAt (takes_of rfl rfl rfl rfl) σ) (pa_cons (pv 1) (pa_cons (pe_op op_add pe_int (pe_op op_mul pe_int (pv 4))) (pa_cons (pe_callB (len_K K) (by rfl) T.b_len (by decide +kernel) (pa_cons (pv 2) pa_nil)) pa_nil)))))
      (pss_cons (ps_set (i := 6) nd rfl (Or.inl rfl) (pe_callS G_l_pick (hr.mono (by decide)) (by rfl) T.g_l_pick T.F_l_pick.kp T.d_l_pick (fun σ => passAt (takes_of rfl rfl rfl rfl) σ) (pa_cons (pv 1) (pa_cons (pe_op op_add pe_int (pe_op op_mul pe_int (pv 4))) (pa_cons (pe_ix (ix_lK K) (pv 2) (pv 5) (fun _ _ => rfl)) pa_nil)))))
      (pss_cons (ps_set (i := 7) nd rfl (Or.inl rfl) (pe_callS G_l_pick (hr.mono (by decide)) (by rfl) T.g_l_pick T.F_l_pick.kp T.d_l_pick (fun σ => passAt (takes_of rfl rfl rfl rfl) σ) (pa_cons (pv 1) (pa_cons (pe_op op_add pe_int (pe_op op_mul pe_int (pv 4))) (pa_cons (pe_ix (ix_lK K) (pv 2) (pv 5) (fun _ _ => rfl)) pa_nil)))))
      (pss_one (ps_asg (pe_tup (pa_cons (pv 5) (pa_cons (pv 6) (pa_cons (pv 5) (pa_cons (pv 7) pa_nil))))) (pg_sub (pv 3) (pe_callS G_l_pick (hr.mono (by decide)) (by rfl) T.g_l_pick T.F_l_pick.kp T.d_l_pick (fun σ => passAt (takes_of rfl rfl rfl rfl) σ) (pa_cons (pv 1) (pa_cons (pe_op op_add pe_int (pe_op op_mul pe_int (pv 4))) (pa_cons (pe_callB (len_K K) (by rfl) T.b_len (by decide +kernel) (pa_cons (pv 3) pa_nil)) pa_nil)))) set_list))))))
        pss_nil)))
      (pss_one (ps_ret (pe_tup (pa_cons (pv 2) (pa_cons (pv 3) pa_nil))))))))), ?_⟩
  try dsimp only [cxOf]
  obtain ⟨draws_here, extra, nb, h⟩ := h
  refine Zm.body (js := [0, 1, 2, 3, 4, 5, 6, 7]) (m := l_world_m draws_here extra) nb h ?_
  refine zm_to (Γ2 := [(.val (dList (d := dInt)) draws_here), (.val (dList (d := dInt)) extra), .no, .no, .no, .no, .no, .no]) rfl ?_
  delta l_world_m
  refine zm_if (te_eq (te_test (we_eqS (re_w (we_call3 hs_l_pick rfl (we_var rfl) we_int we_int)) (re_w we_int))) rfl) ?_ ?_
  · exact zm_retO (oe_eq (oe_call2 hs_l_crowd rfl (we_var rfl) (we_var rfl)) rfl)
  · refine zm_skip ?_
    refine zm_set (i := 0) rfl (by decide) (we_eq (we_call4 hs_l_rich rfl (we_var rfl) (we_var rfl) (we_add (re_w we_int) (re_w (we_call3 hs_l_pick rfl (we_var rfl) we_int we_int))) (we_add (re_w we_int) (re_w (we_call3 hs_l_pick rfl (we_var rfl) we_int we_int)))) rfl) fun draws_here_8 => ?_
    refine zm_setP (i := 2) (j := 3) rfl rfl rfl rfl (by decide) (by decide) (oe_eq (oe_call3 hs_l_web rfl (we_var rfl) we_int we_int) rfl) fun t9 => ?_
    refine zm_for [4, 5, 6, 7] (fun s10 => [(.val (dList (d := dInt)) draws_here_8), (.val (dList (d := dInt)) extra), (.own (dList (d := dInt)) (oList (d := dInt)) none t9.1), (.own (dList (d := (dT4 (d1 := dInt) (d2 := dInt) (d3 := dInt) (d4 := dInt)))) (oList (d := (dT4 (d1 := dInt) (d2 := dInt) (d3 := dInt) (d4 := dInt)))) none s10), .no, .no, .no, .no]) t9.2 (wlen 8 (by exact rfl) (by exact rfl) (by decide)) rfl (fun _ => (wlen 8 (by exact rfl) (by exact rfl) (by decide))) (ie_eq (ie_range (re_w (we_call3 hs_l_pick rfl (we_var rfl) we_int we_int))) rfl) (fun s10 x12 => (a_name rfl ⟨(wlen 8 (by exact rfl) (by exact rfl) (by decide)), ?_⟩)) fun s19 => ?_
    · refine zm_last ?_
      refine zm_ifP (te_eq (te_test (we_gt (re_w (we_len (re_varO rfl))) (re_w we_int))) rfl) ?_ ?_
      · refine zm_assoc ?_
        refine zm_set (i := 5) rfl (by decide) (we_eq (we_call3 hs_l_pick rfl (we_var rfl) (we_add (re_w we_int) (re_w (we_mulCl (re_w we_int) (re_w (we_var rfl))))) (we_len (re_varO rfl))) rfl) fun place_13 => ?_
        refine zm_assoc ?_
        refine zm_set (i := 6) rfl (by decide) (we_eq (we_call3 hs_l_pick rfl (we_var rfl) (we_add (re_w we_int) (re_w (we_mulCl (re_w we_int) (re_w (we_var rfl))))) (we_ixO rfl (re_w (we_var rfl)))) rfl) fun side_15 => ?_
        refine zm_assoc ?_
        refine zm_set (i := 7) rfl (by decide) (we_eq (we_call3 hs_l_pick rfl (we_var rfl) (we_add (re_w we_int) (re_w (we_mulCl (re_w we_int) (re_w (we_var rfl))))) (we_ixO rfl (re_w (we_var rfl)))) rfl) fun far_17 => ?_
        refine zm_setIx (i := 3) rfl (by decide) (we_eq (we_tup4 (we_var rfl) (we_var rfl) (we_var rfl) (we_var rfl)) rfl) (re_eq (re_w (we_call3 hs_l_pick rfl (we_var rfl) (we_add (re_w we_int) (re_w (we_mulCl (re_w we_int) (re_w (we_var rfl))))) (we_len (re_varO rfl)))) rfl) fun ties_18 => ?_
        exact zm_nextL rfl
      · refine zm_skip ?_
        exact zm_nextL rfl
    · refine zm_last ?_
      exact zm_retP (i := 2) (j := 3) rfl rfl rfl
end K41

namespace K41
open PySem L2 G PM
set_option maxHeartbeats 4000000 in
theorem ok_p_check_end {P : Program} {w : World} {K : PySem.W.Frag} {mg : Str → Option Value} {base : Heap} (T : Txt K mg) (G_x_UnknownPlace : FnOk P w K mg base (L2.CX P w) 1 T.i_UnknownPlace T.fx_UnknownPlace ["self", "place"] (spX1 (T.A.tx .UnknownPlace) "place")) (G_x_UnknownSide : FnOk P w K mg base (L2.CX P w) 1 T.i_UnknownSide T.fx_UnknownSide ["self", "place", "side"] (spX2 (T.A.tx .UnknownSide) "place" "side")) : FnOk P w K mg base (L2.CX P w) 3 T.a_p_check_end T.f_p_check_end ["sides", "place", "side"] (sp_p_check_end ⟨P, w, K⟩ T.A) := by
  have nd := sc_p_check_end.nd
  refine T.F_p_check_end.okX sc_p_check_end (fun vs H Q E h => ?_) (fun cdv A outer s H vs Q E hr h => ?_)
  · exact sp_p_check_end_len h
  have hu := hu_of hr
  refine ⟨_, (pss_cons (ps_if (PW.pt (pw_or (pt_cmpR op_lt (pv 1) pe_int (nomark _)) (pw_or1 (pt_cmpR op_ge (pv 1) (pe_callB (len_K K) (by rfl) T.b_len (by decide +kernel) (pa_cons (pv 0) pa_nil)) (nomark _)))))
        (pss_one (ps_raise rfl (takes_of rfl rfl rfl rfl) (pmk_oex T.x_UnknownPlace.T T.x_UnknownPlace.init T.x_UnknownPlace.fn G_x_UnknownPlace (hr.mono (by decide)) T.dx_UnknownPlace .nil passF (by rfl) T.g_UnknownPlace (pa_cons (pv 1) pa_nil))))
        pss_nil)
      (pss_one (ps_if (PW.pt (pw_or (pt_cmpR op_lt (pv 2) pe_int (nomark _)) (pw_or1 (pt_cmpR op_ge (pv 2) (pe_ix (ix_lK K) (pv 0) (pv 1) (fun _ _ => rfl)) (nomark _)))))
        (pss_one (ps_raise rfl (takes_of rfl rfl rfl rfl) (pmk_oex T.x_UnknownSide.T T.x_UnknownSide.init T.x_UnknownSide.fn G_x_UnknownSide (hr.mono (by decide)) T.dx_UnknownSide .nil passF (by rfl) T.g_UnknownSide (pa_cons (pv 1) (pa_cons (pv 2) pa_nil)))))
        pss_nil))), ?_⟩
  try dsimp only [cxOf]
  obtain ⟨sides, place, side, nb, h⟩ := h
  refine Zm.body (js := [0, 1, 2]) (m := p_check_end_m sides place side) nb h ?_
  refine zm_to (Γ2 := [(.val (dList (d := dInt)) sides), (.val dInt place), (.val dInt side)]) rfl ?_
  delta p_check_end_m
  refine zm_ifP (te_eq (te_orP (te_test (we_lt (re_w (we_var rfl)) (re_w we_int))) (te_test (we_ge (re_w (we_var rfl)) (re_w (we_len (re_w (we_var rfl))))))) rfl) ?_ ?_
  · exact zm_raise1 rfl rfl (re_eq (re_w (we_var rfl)) rfl)
  · refine zm_skip ?_
    refine zm_last ?_
    refine zm_if (te_eq (te_or (te_test (we_lt (re_w (we_var rfl)) (re_w we_int))) (te_test (we_ge (re_w (we_var rfl)) (re_w (we_ix (we_var rfl) (re_w (we_var rfl))))))) rfl) ?_ ?_
    · exact zm_raise2 rfl rfl (re_eq (re_w (we_var rfl)) rfl) (re_eq (re_w (we_var rfl)) rfl)
    · refine zm_skip ?_
      exact zm_end
end K41

namespace K41
open PySem L2 G PM
set_option maxHeartbeats 4000000 in
theorem ok_m_WebX_initX {P : Program} {w : World} {K : PySem.W.Frag} {mg : Str → Option Value} {base : Heap} (T : Txt K mg) (G_p_check_end : FnOk P w K mg base (L2.CX P w) 3 T.a_p_check_end T.f_p_check_end ["sides", "place", "side"] (sp_p_check_end ⟨P, w, K⟩ T.A)) (G_x_BadSides : FnOk P w K mg base (L2.CX P w) 1 T.i_BadSides T.fx_BadSides ["self", "place"] (spX1 (T.A.tx .BadSides) "place")) (G_x_TooLarge : FnOk P w K mg base (L2.CX P w) 1 T.i_TooLarge T.fx_TooLarge ["self", "limit"] (spX1 (T.A.tx .TooLarge) "limit")) : FnOk P w K mg base (L2.CX P w) 4 T.a_m_WebX_initX T.f_m_WebX_initX ["self", "sides", "ties"] (sp_m_WebX_initX ⟨P, w, K⟩ T.A) := by
  have nd := sc_m_WebX_initX.nd
  refine T.F_m_WebX_initX.okX sc_m_WebX_initX (fun vs H Q E h => ?_) (fun cdv A outer s H vs Q E hr h => ?_)
  · exact sp_m_WebX_initX_len h
  have hu := hu_of hr
  refine ⟨_, (pss_cons (ps_if (pt_cmpR op_gt (pe_callB (len_K K) (by rfl) T.b_len (by decide +kernel) (pa_cons (pv 1) pa_nil)) (con_K K (pv 0) rfl) (nomark _))
        (pss_one (ps_raise rfl (takes_of rfl rfl rfl rfl) (pmk_oex T.x_TooLarge.T T.x_TooLarge.init T.x_TooLarge.fn G_x_TooLarge (hr.mono (by decide)) T.dx_TooLarge .nil passF (by rfl) T.g_TooLarge (pa_cons (con_K K (pv 0) rfl) pa_nil))))
        pss_nil)
      (pss_cons (ps_if (pt_cmpR op_gt (pe_callB (len_K K) (by rfl) T.b_len (by decide +kernel) (pa_cons (pv 2) pa_nil)) (con_K K (pv 0) rfl) (nomark _))
        (pss_one (ps_raise rfl (takes_of rfl rfl rfl rfl) (pmk_oex T.x_TooLarge.T T.x_TooLarge.init T.x_TooLarge.fn G_x_TooLarge (hr.mono (by decide)) T.dx_TooLarge .nil passF (by rfl) T.g_TooLarge (pa_cons (con_K K (pv 0) rfl) pa_nil))))
        pss_nil)
      (pss_cons (ps_for (passes_of rfl) rfl (pi_enum (by rfl) T.b_enumerate (pa_cons (pv 1) pa_nil)) (pg_tupK (n := 2) K (by rfl) (pgs_cons (pg_name (i := 3) nd rfl (Or.inl rfl)) (pgs_cons (pg_name (i := 4) nd rfl (Or.inl rfl)) pgs_nil)))
        (pss_one (ps_if (PW.pt (pw_or (pt_cmpR op_lt (pv 4) pe_int (nomark _)) (pw_or1 (pt_cmpR op_gt (pv 4) (con_K K (pv 0) rfl) (nomark _)))))
        (pss_one (ps_raise rfl (takes_of rfl rfl rfl rfl) (pmk_oex T.x_BadSides.T T.x_BadSides.init T.x_BadSides.fn G_x_BadSides (hr.mono (by decide)) T.dx_BadSides .nil passF (by rfl) T.g_BadSides (pa_cons (pv 3) pa_nil))))
        pss_nil)))
      (pss_cons (ps_for (passes_of rfl) rfl (pi_lK K (pv 2)) (pg_tupK (n := 4) K (by rfl) (pgs_cons (pg_name (i := 5) nd rfl (Or.inl rfl)) (pgs_cons (pg_name (i := 6) nd rfl (Or.inl rfl)) (pgs_cons (pg_name (i := 7) nd rfl (Or.inl rfl)) (pgs_cons (pg_name (i := 8) nd rfl (Or.inl rfl)) pgs_nil)))))
        (pss_cons (ps_expr (pe_callS G_p_check_end (hr.mono (by decide)) (by rfl) T.g_p_check_end T.F_p_check_end.kp T.d_p_check_end (fun σ => passAt (takes_of rfl rfl rfl rfl) σ) (pa_cons (pv 1) (pa_cons (pv 5) (pa_cons (pv 6) pa_nil)))))
      (pss_one (ps_expr (pe_callS G_p_check_end (hr.mono (by decide)) (by rfl) T.g_p_check_end T.F_p_check_end.kp T.d_p_check_end (fun σ => passAt (takes_of rfl rfl rfl rfl) σ) (pa_cons (pv 1) (pa_cons (pv 7) (pa_cons (pv 8) pa_nil))))))))
      (pss_cons (ps_fld (pv 0) (pe_callTy (tuple_K K) (by rfl) T.b_tuple (by decide +kernel) (pa_cons (pv 1) pa_nil)) rfl)
      (pss_one (ps_fld (pv 0) (pe_callTy (tuple_K K) (by rfl) T.b_tuple (by decide +kernel) (pa_cons (pe_lc (own := [("one", 5), ("side", 6), ("other", 7), ("far_side", 8)]) (by rfl) nd (pi_lB K (pv 2)) (blkOk_by (own := [("one", 5), ("side", 6), ("other", 7), ("far_side", 8)]) (N := N_m_WebX_initX) (sc := defScope s_m_WebX_initX) (by decide +kernel)) (fun _ _ _ _ _ => (pg_tupK (n := 4) K (by rfl) (pgs_cons (pg_name (i := 5) nd rfl (Or.inl rfl)) (pgs_cons (pg_name (i := 6) nd rfl (Or.inl rfl)) (pgs_cons (pg_name (i := 7) nd rfl (Or.inl rfl)) (pgs_cons (pg_name (i := 8) nd rfl (Or.inl rfl)) pgs_nil)))))) (fun _ _ _ _ _ => pts_nil) (fun _ _ _ _ _ => (pe_tup (pa_cons (pv 5) (pa_cons (pv 6) (pa_cons (pv 7) (pa_cons (pv 8) pa_nil))))))) pa_nil)) rfl))))))), ?_⟩
  try dsimp only [cxOf]
  obtain ⟨sides, ties, nb, h⟩ := h
  refine Zm.bodyI (js := [0, 1, 2, 3, 4, 5, 6, 7, 8]) (m := m_WebX_initX_m sides ties) nb h fun pp => ?_
  generalize (⟨()⟩ : Ob0) = x0
  refine zm_to (Γ2 := [(.own (dOb0 (T.A.ob .Web)) (oOb0 (T.A.ob .Web)) (some (.ref pp)) x0), (.val (dList (d := dInt)) sides), (.val (dList (d := (dT4 (d1 := dInt) (d2 := dInt) (d3 := dInt) (d4 := dInt)))) ties), .no, .no, .no, .no, .no, .no]) rfl ?_
  delta m_WebX_initX_m
  refine zm_ifP (te_eq (te_test (we_gt (re_w (we_len (re_w (we_var rfl)))) (re_w (we_con isI0 T.c_Web T.k_Web_MOST_PLACES (by decide) (re_varO rfl))))) rfl) ?_ ?_
  · exact zm_raise1 rfl rfl (re_eq (re_w (we_con isI0 T.c_Web T.k_Web_MOST_PLACES (by decide) (re_varO rfl))) rfl)
  · refine zm_skip ?_
    refine zm_ifP (te_eq (te_test (we_gt (re_w (we_len (re_w (we_var rfl)))) (re_w (we_con isI0 T.c_Web T.k_Web_MOST_TIES (by decide) (re_varO rfl))))) rfl) ?_ ?_
    · exact zm_raise1 rfl rfl (re_eq (re_w (we_con isI0 T.c_Web T.k_Web_MOST_TIES (by decide) (re_varO rfl))) rfl)
    · refine zm_skip ?_
      refine zm_for [3, 4] (fun (_ : Unit) => [(.own (dOb0 (T.A.ob .Web)) (oOb0 (T.A.ob .Web)) (some (.ref pp)) x0), (.val (dList (d := dInt)) sides), (.val (dList (d := (dT4 (d1 := dInt) (d2 := dInt) (d3 := dInt) (d4 := dInt)))) ties), .no, .no, .no, .no, .no, .no]) () (wlen 9 (by exact rfl) (by exact rfl) (by decide)) rfl (fun _ => (wlen 9 (by exact rfl) (by exact rfl) (by decide))) (ie_eq (ie_enum (we_var rfl)) rfl) (fun _ x2 => (a_pair rfl (a_name rfl (a_name rfl ⟨(wlen 9 (by exact rfl) (by exact rfl) (by decide)), ?_⟩)))) fun _ => ?_
      · refine zm_last ?_
        refine zm_ifP (te_eq (te_orP (te_test (we_lt (re_w (we_var rfl)) (re_w we_int))) (te_test (we_gt (re_w (we_var rfl)) (re_w (we_con isI0 T.c_Web T.k_Web_MOST_SIDES (by decide) (re_varO rfl)))))) rfl) ?_ ?_
        · exact zm_raise1 rfl rfl (re_eq (re_w (we_var rfl)) rfl)
        · refine zm_skip ?_
          exact zm_nextL rfl
      · refine zm_for [5, 6, 7, 8] (fun (_ : Unit) => [(.own (dOb0 (T.A.ob .Web)) (oOb0 (T.A.ob .Web)) (some (.ref pp)) x0), (.val (dList (d := dInt)) sides), (.val (dList (d := (dT4 (d1 := dInt) (d2 := dInt) (d3 := dInt) (d4 := dInt)))) ties), .no, .no, .no, .no, .no, .no]) () (wlen 9 (by exact rfl) (by exact rfl) (by decide)) rfl (fun _ => (wlen 9 (by exact rfl) (by exact rfl) (by decide))) (ie_eq (ie_list (we_var rfl)) rfl) (fun _ x5 => (a_T4 rfl (a_name rfl (a_name rfl (a_name rfl (a_name rfl ⟨(wlen 9 (by exact rfl) (by exact rfl) (by decide)), ?_⟩)))))) fun _ => ?_
        · refine zm_drop (re_eq (re_w (we_call3 hs_p_check_end rfl (we_var rfl) (we_var rfl) (we_var rfl))) rfl) ?_
          refine zm_last ?_
          refine zm_drop (re_eq (re_w (we_call3 hs_p_check_end rfl (we_var rfl) (we_var rfl) (we_var rfl))) rfl) ?_
          exact zm_nextL rfl
        · refine zm_fld1 (i := 0) rfl (by decide) T.c_Web T.n_Web_sides (we_eq (we_tupOf (we_var rfl)) rfl) fun f_7 => ?_
          refine zm_last ?_
          refine zm_fld2 (i := 0) rfl (by decide) rfl T.c_Web T.n_Web_ties (we_eq (we_tupOf (we_o (oe_lc (tg_tup' (tgs_cons' (tg_name' (by decide)) (tgs_cons' (tg_name' (by decide)) (tgs_cons' (tg_name' (by decide)) (tgs_cons' (tg_name' (by decide)) tgs_nil'))))) (ic_list (we_var rfl)) fun x8 => (a_T4 rfl (a_name rfl (a_name rfl (a_name rfl (a_name rfl ⟨te_yes, (we_tup4 (we_var rfl) (we_var rfl) (we_var rfl) (we_var rfl))⟩)))))))) rfl) fun f_10 => ?_
          exact zm_endI rfl
end K41

namespace K41
open PySem L2 G PM
set_option maxHeartbeats 4000000 in
theorem ok_l_firsts {P : Program} {w : World} {K : PySem.W.Frag} {mg : Str → Option Value} {base : Heap} (T : Txt K mg) : FnOk P w K mg base (L2.CX P w) 1 T.a_l_firsts T.f_l_firsts ["_law_sides"] (sp_l_firsts ⟨P, w, K⟩ T.A) := by
  have nd := sc_l_firsts.nd
  refine T.F_l_firsts.okX sc_l_firsts (fun vs H Q E h => ?_) (fun cdv A outer s H vs Q E hr h => ?_)
  · exact sp_l_firsts_len h
  have hu := hu_of hr
  refine ⟨_, (pss_cons (ps_set (i := 1) nd rfl (Or.inl rfl) (pe_lst pa_nil))
      (pss_cons (ps_set (i := 2) nd rfl (Or.inl rfl) pe_int)
      (pss_cons (ps_for (passes_of rfl) rfl (pi_lK K (pv 0)) (pg_name (i := 3) nd rfl (Or.inl rfl))
        (pss_cons (ps_expr (bm_K K PySem.F.plainAttrs_list PySem.F.slot_list_append PySem.F.type_list_append mt_append (pv 1) (pa_cons (pv 2) pa_nil)))
      (pss_cons (ps_set (i := 2) nd rfl (Or.inl rfl) (pe_op op_add (pv 2) pe_int))
      (pss_one (ps_if (pt_cmpR op_gt (pv 3) pe_int (nomark _))
        (pss_one (ps_set (i := 2) nd rfl (Or.inl rfl) (pe_op op_add (pv 2) (pv 3))))
        pss_nil)))))
      (pss_one (ps_ret (pe_tup (pa_cons (pv 1) (pa_cons (pv 2) pa_nil)))))))), ?_⟩
  try dsimp only [cxOf]
  obtain ⟨sides, nb, h⟩ := h
  refine Zm.body (js := [0, 1, 2, 3]) (m := l_firsts_m sides) nb h ?_
  refine zm_to (Γ2 := [(.val (dList (d := dInt)) sides), .no, .no, .no]) rfl ?_
  delta l_firsts_m
  refine zm_setO (i := 1) rfl (by decide) (oe_eq (oe_lst0 (d := dInt)) rfl) fun firsts_here_1 => ?_
  refine zm_set (i := 2) rfl (by decide) (we_eq we_int rfl) fun many_2 => ?_
  refine zm_for [3] (fun s3 => [(.val (dList (d := dInt)) sides), (.own (dList (d := dInt)) (oList (d := dInt)) none s3.1), (.val dInt s3.2), .no]) (firsts_here_1, many_2) (wlen 4 (by exact rfl) (by exact rfl) (by decide)) rfl (fun _ => (wlen 4 (by exact rfl) (by exact rfl) (by decide))) (ie_eq (ie_list (we_var rfl)) rfl) (fun s3 x4 => (a_name rfl ⟨(wlen 4 (by exact rfl) (by exact rfl) (by decide)), ?_⟩)) fun s8 => ?_
  · refine zm_append (i := 1) rfl (by decide) (we_eq (we_var rfl) rfl) fun firsts_here_5 => ?_
    refine zm_set (i := 2) rfl (by decide) (we_eq (we_add (re_w (we_var rfl)) (re_w we_int)) rfl) fun many_6 => ?_
    refine zm_last ?_
    refine zm_ifP (te_eq (te_test (we_gt (re_w (we_var rfl)) (re_w we_int))) rfl) ?_ ?_
    · refine zm_set (i := 2) rfl (by decide) (we_eq (we_add (re_w (we_var rfl)) (re_w (we_var rfl))) rfl) fun many_7 => ?_
      exact zm_nextL rfl
    · refine zm_skip ?_
      exact zm_nextL rfl
  · refine zm_last ?_
    refine zm_own 2 rfl (by decide) ?_
    exact zm_retP (i := 1) (j := 2) rfl rfl rfl
end K41

namespace K41
open PySem L2 G PM
set_option maxHeartbeats 4000000 in
theorem ok_m_WebX_containsX {P : Program} {w : World} {K : PySem.W.Frag} {mg : Str → Option Value} {base : Heap} (T : Txt K mg) : FnOk P w K mg base (L2.CX P w) 1 T.a_m_WebX_containsX T.f_m_WebX_containsX ["self", "place"] (sp_m_WebX_containsX ⟨P, w, K⟩ T.A) := by
  have nd := sc_m_WebX_containsX.nd
  refine T.F_m_WebX_containsX.okX sc_m_WebX_containsX (fun vs H Q E h => ?_) (fun cdv A outer s H vs Q E hr h => ?_)
  · exact sp_m_WebX_containsX_len h
  have hu := hu_of hr
  refine ⟨_, (pss_one (ps_ret (pe_chain op_le op_lt pe_int (pv 1) (pe_callB (len_K K) (by rfl) T.b_len (by decide +kernel) (pa_cons (fld_K K (pv 0) rfl) pa_nil))))), ?_⟩
  try dsimp only [cxOf]
  obtain ⟨self, place, nb, h⟩ := h
  refine Zm.body (js := [0, 1]) (m := m_WebX_containsX_m self place) nb h ?_
  refine zm_to (Γ2 := [(.val (dWeb T.A) self), (.val dInt place)]) rfl ?_
  delta m_WebX_containsX_m
  refine zm_last ?_
  exact zm_ret (we_eq (we_chainP (re_w we_int) (re_w (we_var rfl)) (re_w (we_lenT (re_w (we_fld (isF_Web_sides T.A) T.c_Web T.n_Web_sides (we_var rfl)))))) rfl)
end K41

namespace K41
open PySem L2 G PM
set_option maxHeartbeats 4000000 in
theorem ok_p_check_place {P : Program} {w : World} {K : PySem.W.Frag} {mg : Str → Option Value} {base : Heap} (T : Txt K mg) (G_m_WebX_containsX : FnOk P w K mg base (L2.CX P w) 1 T.a_m_WebX_containsX T.f_m_WebX_containsX ["self", "place"] (sp_m_WebX_containsX ⟨P, w, K⟩ T.A)) (G_x_UnknownPlace : FnOk P w K mg base (L2.CX P w) 1 T.i_UnknownPlace T.fx_UnknownPlace ["self", "place"] (spX1 (T.A.tx .UnknownPlace) "place")) : FnOk P w K mg base (L2.CX P w) 3 T.a_p_check_place T.f_p_check_place ["web", "place"] (sp_p_check_place ⟨P, w, K⟩ T.A) := by
  have nd := sc_p_check_place.nd
  refine T.F_p_check_place.okX sc_p_check_place (fun vs H Q E h => ?_) (fun cdv A outer s H vs Q E hr h => ?_)
  · exact sp_p_check_place_len h
  have hu := hu_of hr
  refine ⟨_, (pss_one (ps_if (pt_cmpR (op_niO T.me_m_WebX_containsX G_m_WebX_containsX (hr.mono (by decide)) T.d_m_WebX_containsX (fun σ => passFS σ)) (pv 1) (pv 0) (by with_unfolding_all rfl))
        (pss_one (ps_raise rfl (takes_of rfl rfl rfl rfl) (pmk_oex T.x_UnknownPlace.T T.x_UnknownPlace.init T.x_UnknownPlace.fn G_x_UnknownPlace (hr.mono (by decide)) T.dx_UnknownPlace .nil passF (by rfl) T.g_UnknownPlace (pa_cons (pv 1) pa_nil))))
        pss_nil)), ?_⟩
  try dsimp only [cxOf]
  obtain ⟨web, place, nb, h⟩ := h
  refine Zm.body (js := [0, 1]) (m := p_check_place_m web place) nb h ?_
  refine zm_to (Γ2 := [(.val (dWeb T.A) web), (.val dInt place)]) rfl ?_
  delta p_check_place_m
  refine zm_last ?_
  refine zm_if (te_eq (te_test (we_inO hs_m_WebX_containsX (isI_Web T.A) (we_var rfl) (we_var rfl))) rfl) ?_ ?_
  · exact zm_raise1 rfl rfl (re_eq (re_w (we_var rfl)) rfl)
  · refine zm_skip ?_
    exact zm_end
end K41

namespace K41
open PySem L2 G PM
set_option maxHeartbeats 4000000 in
theorem ok_p_first_pairs {P : Program} {w : World} {K : PySem.W.Frag} {mg : Str → Option Value} {base : Heap} (T : Txt K mg) : FnOk P w K mg base (L2.CX P w) 1 T.a_p_first_pairs T.f_p_first_pairs ["web"] (sp_p_first_pairs ⟨P, w, K⟩ T.A) := by
  have nd := sc_p_first_pairs.nd
  refine T.F_p_first_pairs.okX sc_p_first_pairs (fun vs H Q E h => ?_) (fun cdv A outer s H vs Q E hr h => ?_)
  · exact sp_p_first_pairs_len h
  have hu := hu_of hr
  refine ⟨_, (pss_cons (ps_set (i := 1) nd rfl (Or.inl rfl) (pe_lst (pa_cons pe_int pa_nil)))
      (pss_cons (ps_for (passes_of rfl) rfl (pi_tK K (fld_K K (pv 0) rfl)) (pg_name (i := 2) nd rfl (Or.inl rfl))
        (pss_one (ps_expr (bm_K K PySem.F.plainAttrs_list PySem.F.slot_list_append PySem.F.type_list_append mt_append (pv 1) (pa_cons (pe_op op_add (pe_ix (ix_lK K) (pv 1) (pe_un un_neg pe_int) (fun _ _ => rfl)) (pe_ifExp (pt_cmpR op_lt (pv 2) pe_int (nomark _)) pe_int (pe_op op_add (pv 2) pe_int))) pa_nil)))))
      (pss_one (ps_ret (pv 1))))), ?_⟩
  try dsimp only [cxOf]
  obtain ⟨web, nb, h⟩ := h
  refine Zm.body (js := [0, 1, 2]) (m := p_first_pairs_m web) nb h ?_
  refine zm_to (Γ2 := [(.val (dWeb T.A) web), .no, .no]) rfl ?_
  delta p_first_pairs_m
  refine zm_setO (i := 1) rfl (by decide) (oe_eq (oe_lstN (wle_cons we_int wle_nil) (asLenS asLen0) (by decide)) rfl) fun firsts_1 => ?_
  refine zm_for [2] (fun s2 => [(.val (dWeb T.A) web), (.own (dList (d := dInt)) (oList (d := dInt)) none s2), .no]) firsts_1 rfl rfl (fun _ => rfl) (ie_eq (ie_tup (we_fld (isF_Web_sides T.A) T.c_Web T.n_Web_sides (we_var rfl))) rfl) (fun s2 x3 => (a_name rfl ⟨rfl, ?_⟩)) fun s7 => ?_
  · refine zm_last ?_
    refine zm_append (i := 1) rfl (by decide) (we_eq (we_add (re_w (we_ixO rfl (re_w (we_neg (re_w we_int))))) (re_w (we_ifP (te_test (we_lt (re_w (we_var rfl)) (re_w we_int))) we_int (we_add (re_w (we_var rfl)) (re_w we_int))))) rfl) fun firsts_6 => ?_
    exact zm_nextL rfl
  · refine zm_last ?_
    exact zm_retV rfl
end K41

namespace K41
open PySem L2 G PM
set_option maxHeartbeats 4000000 in
theorem ok_m_WebX_iterX {P : Program} {w : World} {K : PySem.W.Frag} {mg : Str → Option Value} {base : Heap} (T : Txt K mg) : FnN P w K mg base (L2.CX P w) 1 T.a_m_WebX_iterX T.f_m_WebX_iterX ["self"] (fun n => spIter n K (T.A.ob .Web) "ties") := by
  have nd := sc_m_WebX_iterX.nd
  refine fnN T.F_m_WebX_iterX sc_m_WebX_iterX (fun n vs H Q E h => spIter_len h) (fun cdv A outer s H vs Q E hr h => ?_)
  have hu := hu_of hr
  refine ⟨_, (pss_one (ps_ret (pe_callB iter_tK (by rfl) T.b_iter (by decide +kernel) (pa_cons (fld_K K (pv 0) rfl) pa_nil)))), ?_⟩
  exact iter_body T.c_Web T.n_Web_ties rfl h
end K41

namespace K41
open PySem L2 G PM
set_option maxHeartbeats 4000000 in
theorem ok_p_seat {P : Program} {w : World} {K : PySem.W.Frag} {mg : Str → Option Value} {base : Heap} (T : Txt K mg) : FnOk P w K mg base (L2.CX P w) 1 T.a_p_seat T.f_p_seat ["web", "first", "place", "side"] (sp_p_seat ⟨P, w, K⟩ T.A) := by
  have nd := sc_p_seat.nd
  refine T.F_p_seat.okX sc_p_seat (fun vs H Q E h => ?_) (fun cdv A outer s H vs Q E hr h => ?_)
  · exact sp_p_seat_len h
  have hu := hu_of hr
  refine ⟨_, (pss_cons (ps_if (pt_cmpR op_lt (pe_ix (ix_tK K) (fld_K K (pv 0) rfl) (pv 2) (fun _ _ => rfl)) pe_int (nomark _))
        (pss_one (ps_ret (pe_op op_add (pe_op op_mul pe_int (pv 1)) (pv 3))))
        pss_nil)
      (pss_one (ps_ret (pe_op op_mul pe_int (pe_op op_add (pv 1) (pv 3)))))), ?_⟩
  try dsimp only [cxOf]
  obtain ⟨web, first, place, side, nb, h⟩ := h
  refine Zm.body (js := [0, 1, 2, 3]) (m := p_seat_m web first place side) nb h ?_
  refine zm_to (Γ2 := [(.val (dWeb T.A) web), (.val dInt first), (.val dInt place), (.val dInt side)]) rfl ?_
  delta p_seat_m
  refine zm_if (te_eq (te_test (we_lt (re_w (we_ixT (we_fld (isF_Web_sides T.A) T.c_Web T.n_Web_sides (we_var rfl)) (re_w (we_var rfl)))) (re_w we_int))) rfl) ?_ ?_
  · exact zm_ret (we_eq (we_add (re_w (we_mulCl (re_w we_int) (re_w (we_var rfl)))) (re_w (we_var rfl))) rfl)
  · refine zm_skip ?_
    refine zm_last ?_
    exact zm_ret (we_eq (we_mulCl (re_w we_int) (re_w (we_add (re_w (we_var rfl)) (re_w (we_var rfl))))) rfl)
end K41

namespace K41
open PySem L2 G PM
set_option maxHeartbeats 4000000 in
theorem ok_p_inner_ties {P : Program} {w : World} {K : PySem.W.Frag} {mg : Str → Option Value} {base : Heap} (T : Txt K mg) : FnOk P w K mg base (L2.CX P w) 1 T.a_p_inner_ties T.f_p_inner_ties ["first", "many"] (sp_p_inner_ties ⟨P, w, K⟩ T.A) := by
  have nd := sc_p_inner_ties.nd
  refine T.F_p_inner_ties.okX sc_p_inner_ties (fun vs H Q E h => ?_) (fun cdv A outer s H vs Q E hr h => ?_)
  · exact sp_p_inner_ties_len h
  have hu := hu_of hr
  refine ⟨_, (pss_cons (ps_set (i := 2) nd rfl (Or.inr rfl) (pe_op op_mul pe_int (pe_op op_add (pv 0) (pv 1))))
      (pss_one (ps_ret (pe_lc2 (own := [("side", 3), ("end", 4)]) (vs1 := [4]) (by rfl) nd (pi_range1 (by rfl) T.b_range (pa_cons (pv 1) pa_nil)) (blkOk_by (own := [("side", 3), ("end", 4)]) (N := N_p_inner_ties) (sc := defScope s_p_inner_ties) (by decide +kernel)) (by decide) (fun _ _ _ _ _ => (pg_name (i := 3) nd rfl (Or.inl rfl))) (fun _ _ _ _ _ => pts_nil) (fun _ _ _ _ _ => (pi_tB K (pe_tup (pa_cons (pv 2) (pa_cons (pe_op op_add (pv 2) pe_int) pa_nil))))) (fun _ _ _ _ _ => (pg_name (i := 4) nd rfl (Or.inl rfl))) (fun _ _ _ _ _ => pts_nil) (fun _ _ _ _ _ => (pe_tup (pa_cons (pe_op op_add (pe_op op_mul pe_int (pe_op op_add (pv 0) (pv 3))) pe_int) (pa_cons (pv 4) pa_nil)))) )))), ?_⟩
  try dsimp only [cxOf]
  obtain ⟨first, many, nb, h⟩ := h
  refine Zm.body (js := [0, 1, 2, 3, 4]) (m := p_inner_ties_m first many) nb h ?_
  refine zm_to (Γ2 := [(.val dInt first), (.val dInt many), .no, .no, .no]) rfl ?_
  delta p_inner_ties_m
  refine zm_set (i := 2) rfl (by decide) (we_eq (we_mulCl (re_w we_int) (re_w (we_add (re_w (we_var rfl)) (re_w (we_var rfl))))) rfl) fun middle_1 => ?_
  refine zm_last ?_
  exact zm_retO (oe_eq (oe_lc2 (tg_name' (by decide)) (tg_name' (by decide)) (iw_range (re_w (we_var rfl))) fun x2 => (a_name rfl ⟨te_yes, (iw_tup (we_pairL (we_tup2 (we_var rfl) (we_add (re_w (we_var rfl)) (re_w we_int))))), fun x3 => (a_name rfl ⟨te_yes, (we_tup2 (we_add (re_w (we_mulCl (re_w we_int) (re_w (we_add (re_w (we_var rfl)) (re_w (we_var rfl)))))) (re_w we_int)) (we_var rfl))⟩)⟩)) rfl)
end K41

namespace K41
open PySem L2 G PM
set_option maxHeartbeats 4000000 in
theorem ok_m_PairedWebX_initX {P : Program} {w : World} {K : PySem.W.Frag} {mg : Str → Option Value} {base : Heap} (T : Txt K mg) (G_x_TooLarge : FnOk P w K mg base (L2.CX P w) 1 T.i_TooLarge T.fx_TooLarge ["self", "limit"] (spX1 (T.A.tx .TooLarge) "limit")) (G_x_UnknownPoint : FnOk P w K mg base (L2.CX P w) 1 T.i_UnknownPoint T.fx_UnknownPoint ["self", "point"] (spX1 (T.A.tx .UnknownPoint) "point")) : FnOk P w K mg base (L2.CX P w) 3 T.a_m_PairedWebX_initX T.f_m_PairedWebX_initX ["self", "pairs", "free"] (sp_m_PairedWebX_initX ⟨P, w, K⟩ T.A) := by
  have nd := sc_m_PairedWebX_initX.nd
  refine T.F_m_PairedWebX_initX.okX sc_m_PairedWebX_initX (fun vs H Q E h => ?_) (fun cdv A outer s H vs Q E hr h => ?_)
  · exact sp_m_PairedWebX_initX_len h
  have hu := hu_of hr
  refine ⟨_, (pss_cons (ps_if (pt_cmpR op_gt (pv 1) (con_K K (pv 0) rfl) (nomark _))
        (pss_one (ps_raise rfl (takes_of rfl rfl rfl rfl) (pmk_oex T.x_TooLarge.T T.x_TooLarge.init T.x_TooLarge.fn G_x_TooLarge (hr.mono (by decide)) T.dx_TooLarge .nil passF (by rfl) T.g_TooLarge (pa_cons (con_K K (pv 0) rfl) pa_nil))))
        pss_nil)
      (pss_cons (ps_if (pt_cmpR op_gt (pe_callB (len_K K) (by rfl) T.b_len (by decide +kernel) (pa_cons (pv 2) pa_nil)) (con_K K (pv 0) rfl) (nomark _))
        (pss_one (ps_raise rfl (takes_of rfl rfl rfl rfl) (pmk_oex T.x_TooLarge.T T.x_TooLarge.init T.x_TooLarge.fn G_x_TooLarge (hr.mono (by decide)) T.dx_TooLarge .nil passF (by rfl) T.g_TooLarge (pa_cons (con_K K (pv 0) rfl) pa_nil))))
        pss_nil)
      (pss_cons (ps_for (passes_of rfl) rfl (pi_lK K (pv 2)) (pg_name (i := 3) nd rfl (Or.inl rfl))
        (pss_one (ps_for (passes_of rfl) rfl (pi_tK K (pv 3)) (pg_name (i := 4) nd rfl (Or.inl rfl))
        (pss_one (ps_if (PW.pt (pw_or (pt_cmpR op_lt (pv 4) pe_int (nomark _)) (pw_or1 (pt_cmpR op_ge (pv 4) (pe_op op_mul pe_int (pv 1)) (nomark _)))))
        (pss_one (ps_raise rfl (takes_of rfl rfl rfl rfl) (pmk_oex T.x_UnknownPoint.T T.x_UnknownPoint.init T.x_UnknownPoint.fn G_x_UnknownPoint (hr.mono (by decide)) T.dx_UnknownPoint .nil passF (by rfl) T.g_UnknownPoint (pa_cons (pv 4) pa_nil))))
        pss_nil)))))
      (pss_cons (ps_fld (pv 0) (pv 1) rfl)
      (pss_one (ps_fld (pv 0) (pe_callTy (tuple_K K) (by rfl) T.b_tuple (by decide +kernel) (pa_cons (pe_lc (own := [("one", 5), ("other", 6)]) (by rfl) nd (pi_lB K (pv 2)) (blkOk_by (own := [("one", 5), ("other", 6)]) (N := N_m_PairedWebX_initX) (sc := defScope s_m_PairedWebX_initX) (by decide +kernel)) (fun _ _ _ _ _ => (pg_tupK (n := 2) K (by rfl) (pgs_cons (pg_name (i := 5) nd rfl (Or.inl rfl)) (pgs_cons (pg_name (i := 6) nd rfl (Or.inl rfl)) pgs_nil)))) (fun _ _ _ _ _ => pts_nil) (fun _ _ _ _ _ => (pe_tup (pa_cons (pv 5) (pa_cons (pv 6) pa_nil))))) pa_nil)) rfl)))))), ?_⟩
  try dsimp only [cxOf]
  obtain ⟨pairs, free, nb, h⟩ := h
  refine Zm.bodyI (js := [0, 1, 2, 3, 4, 5, 6]) (m := m_PairedWebX_initX_m pairs free) nb h fun pp => ?_
  generalize (⟨()⟩ : Ob0) = x0
  refine zm_to (Γ2 := [(.own (dOb0 (T.A.ob .PairedWeb)) (oOb0 (T.A.ob .PairedWeb)) (some (.ref pp)) x0), (.val dInt pairs), (.val (dList (d := (dPair (d1 := dInt) (d2 := dInt)))) free), .no, .no, .no, .no]) rfl ?_
  delta m_PairedWebX_initX_m
  refine zm_ifP (te_eq (te_test (we_gt (re_w (we_var rfl)) (re_w (we_con isI0 T.c_PairedWeb T.k_PairedWeb_MOST_PAIRS (by decide) (re_varO rfl))))) rfl) ?_ ?_
  · exact zm_raise1 rfl rfl (re_eq (re_w (we_con isI0 T.c_PairedWeb T.k_PairedWeb_MOST_PAIRS (by decide) (re_varO rfl))) rfl)
  · refine zm_skip ?_
    refine zm_ifP (te_eq (te_test (we_gt (re_w (we_len (re_w (we_var rfl)))) (re_w (we_con isI0 T.c_PairedWeb T.k_PairedWeb_MOST_FREE (by decide) (re_varO rfl))))) rfl) ?_ ?_
    · exact zm_raise1 rfl rfl (re_eq (re_w (we_con isI0 T.c_PairedWeb T.k_PairedWeb_MOST_FREE (by decide) (re_varO rfl))) rfl)
    · refine zm_skip ?_
      refine zm_for [3, 4] (fun (_ : Unit) => [(.own (dOb0 (T.A.ob .PairedWeb)) (oOb0 (T.A.ob .PairedWeb)) (some (.ref pp)) x0), (.val dInt pairs), (.val (dList (d := (dPair (d1 := dInt) (d2 := dInt)))) free), .no, .no, .no, .no]) () rfl rfl (fun _ => rfl) (ie_eq (ie_list (we_var rfl)) rfl) (fun _ x2 => (a_name rfl ⟨rfl, ?_⟩)) fun _ => ?_
      · refine zm_last ?_
        refine zm_for [4] (fun (_ : Unit) => [(.own (dOb0 (T.A.ob .PairedWeb)) (oOb0 (T.A.ob .PairedWeb)) (some (.ref pp)) x0), (.val dInt pairs), (.val (dList (d := (dPair (d1 := dInt) (d2 := dInt)))) free), (.val (dPair (d1 := dInt) (d2 := dInt)) x2), .no, .no, .no]) () rfl rfl (fun _ => rfl) (ie_eq (ie_tup (we_pairL (we_var rfl))) rfl) (fun _ x4 => (a_name rfl ⟨rfl, ?_⟩)) fun _ => ?_
        · refine zm_last ?_
          refine zm_ifP (te_eq (te_orP (te_test (we_lt (re_w (we_var rfl)) (re_w we_int))) (te_test (we_ge (re_w (we_var rfl)) (re_w (we_mulCl (re_w we_int) (re_w (we_var rfl))))))) rfl) ?_ ?_
          · exact zm_raise1 rfl rfl (re_eq (re_w (we_var rfl)) rfl)
          · refine zm_skip ?_
            exact zm_nextL rfl
        · exact zm_nextL rfl
      · refine zm_fld1 (i := 0) rfl (by decide) T.c_PairedWeb T.n_PairedWeb_pairs (we_eq (we_var rfl) rfl) fun f_8 => ?_
        refine zm_last ?_
        refine zm_fld2 (i := 0) rfl (by decide) rfl T.c_PairedWeb T.n_PairedWeb_free (we_eq (we_tupOf (we_o (oe_lc (tg_tup' (tgs_cons' (tg_name' (by decide)) (tgs_cons' (tg_name' (by decide)) tgs_nil'))) (ic_list (we_var rfl)) fun x9 => (a_pair rfl (a_name rfl (a_name rfl ⟨te_yes, (we_tup2 (we_var rfl) (we_var rfl))⟩)))))) rfl) fun f_11 => ?_
        exact zm_endI rfl
end K41

namespace K41
open PySem L2 G PM
set_option maxHeartbeats 4000000 in
theorem ok_p_paired_of_web {P : Program} {w : World} {K : PySem.W.Frag} {mg : Str → Option Value} {base : Heap} (T : Txt K mg) (G_p_first_pairs : FnOk P w K mg base (L2.CX P w) 1 T.a_p_first_pairs T.f_p_first_pairs ["web"] (sp_p_first_pairs ⟨P, w, K⟩ T.A)) (G_m_WebX_iterX : FnN P w K mg base (L2.CX P w) 1 T.a_m_WebX_iterX T.f_m_WebX_iterX ["self"] (fun n => spIter n K (T.A.ob .Web) "ties")) (G_p_seat : FnOk P w K mg base (L2.CX P w) 1 T.a_p_seat T.f_p_seat ["web", "first", "place", "side"] (sp_p_seat ⟨P, w, K⟩ T.A)) (G_p_inner_ties : FnOk P w K mg base (L2.CX P w) 1 T.a_p_inner_ties T.f_p_inner_ties ["first", "many"] (sp_p_inner_ties ⟨P, w, K⟩ T.A)) (G_m_PairedWebX_initX : FnOk P w K mg base (L2.CX P w) 3 T.a_m_PairedWebX_initX T.f_m_PairedWebX_initX ["self", "pairs", "free"] (sp_m_PairedWebX_initX ⟨P, w, K⟩ T.A)) : FnOk P w K mg base (L2.CX P w) 5 T.a_p_paired_of_web T.f_p_paired_of_web ["web"] (sp_p_paired_of_web ⟨P, w, K⟩ T.A) := by
  have nd := sc_p_paired_of_web.nd
  refine T.F_p_paired_of_web.okX sc_p_paired_of_web (fun vs H Q E h => ?_) (fun cdv A outer s H vs Q E hr h => ?_)
  · exact sp_p_paired_of_web_len h
  have hu := hu_of hr
  refine ⟨_, (pss_cons (ps_set (i := 1) nd rfl (Or.inl rfl) (pe_callS G_p_first_pairs (hr.mono (by decide)) (by rfl) T.g_p_first_pairs T.F_p_first_pairs.kp T.d_p_first_pairs (fun σ => passAt (takes_of rfl rfl rfl rfl) σ) (pa_cons (pv 0) pa_nil)))
      (pss_cons (ps_set (i := 2) nd rfl (Or.inl rfl) (pe_lst pa_nil))
      (pss_cons (ps_for (passes_of rfl) rfl (pi_own (pv 0) T.me_m_WebX_iterX G_m_WebX_iterX (hr.mono (by decide)) T.d_m_WebX_iterX (fun σ => passFS σ)) (pg_tupK (n := 4) K (by rfl) (pgs_cons (pg_name (i := 3) nd rfl (Or.inl rfl)) (pgs_cons (pg_name (i := 4) nd rfl (Or.inl rfl)) (pgs_cons (pg_name (i := 5) nd rfl (Or.inl rfl)) (pgs_cons (pg_name (i := 6) nd rfl (Or.inl rfl)) pgs_nil)))))
        (pss_one (ps_expr (bm_K K PySem.F.plainAttrs_list PySem.F.slot_list_append PySem.F.type_list_append mt_append (pv 2) (pa_cons (pe_tup (pa_cons (pe_callS G_p_seat (hr.mono (by decide)) (by rfl) T.g_p_seat T.F_p_seat.kp T.d_p_seat (fun σ => passAt (takes_of rfl rfl rfl rfl) σ) (pa_cons (pv 0) (pa_cons (pe_ix (ix_lK K) (pv 1) (pv 3) (fun _ _ => rfl)) (pa_cons (pv 3) (pa_cons (pv 4) pa_nil))))) (pa_cons (pe_callS G_p_seat (hr.mono (by decide)) (by rfl) T.g_p_seat T.F_p_seat.kp T.d_p_seat (fun σ => passAt (takes_of rfl rfl rfl rfl) σ) (pa_cons (pv 0) (pa_cons (pe_ix (ix_lK K) (pv 1) (pv 5) (fun _ _ => rfl)) (pa_cons (pv 5) (pa_cons (pv 6) pa_nil))))) pa_nil))) pa_nil)))))
      (pss_cons (ps_for (passes_of rfl) rfl (pi_enumT (by rfl) T.b_enumerate (pa_cons (fld_K K (pv 0) rfl) pa_nil)) (pg_tupK (n := 2) K (by rfl) (pgs_cons (pg_name (i := 7) nd rfl (Or.inl rfl)) (pgs_cons (pg_name (i := 8) nd rfl (Or.inl rfl)) pgs_nil)))
        (pss_one (ps_if (pt_cmpR op_gt (pv 8) pe_int (nomark _))
        (pss_one (ps_aug (i := 2) nd rfl (Or.inl rfl) (pe_callS G_p_inner_ties (hr.mono (by decide)) (by rfl) T.g_p_inner_ties T.F_p_inner_ties.kp T.d_p_inner_ties (fun σ => passAt (takes_of rfl rfl rfl rfl) σ) (pa_cons (pe_ix (ix_lK K) (pv 1) (pv 7) (fun _ _ => rfl)) (pa_cons (pv 8) pa_nil))) ip_ext))
        pss_nil)))
      (pss_one (ps_ret (pe_makeS T.mk_PairedWeb G_m_PairedWebX_initX (hr.mono (by decide)) (by rfl) T.g_PairedWeb T.d_m_PairedWebX_initX (fun σ => passAt (takes_of rfl rfl rfl rfl) σ) (pa_cons (pe_ix (ix_lK K) (pv 1) (pe_un un_neg pe_int) (fun _ _ => rfl)) (pa_cons (pv 2) pa_nil))))))))), ?_⟩
  try dsimp only [cxOf]
  obtain ⟨web, nb, h⟩ := h
  refine Zm.body (js := [0, 1, 2, 3, 4, 5, 6, 7, 8]) (m := p_paired_of_web_m web) nb h ?_
  refine zm_to (Γ2 := [(.val (dWeb T.A) web), .no, .no, .no, .no, .no, .no, .no, .no]) rfl ?_
  delta p_paired_of_web_m
  refine zm_set (i := 1) rfl (by decide) (we_eq (we_o (oe_call1 hs_p_first_pairs rfl (we_var rfl))) rfl) fun firsts_1 => ?_
  refine zm_setO (i := 2) rfl (by decide) (oe_eq (oe_lst0 (d := (dPair (d1 := dInt) (d2 := dInt)))) rfl) fun free_2 => ?_
  refine zm_for [3, 4, 5, 6] (fun s3 => [(.val (dWeb T.A) web), (.val (dList (d := dInt)) firsts_1), (.own (dList (d := (dPair (d1 := dInt) (d2 := dInt)))) (oList (d := (dPair (d1 := dInt) (d2 := dInt)))) none s3), .no, .no, .no, .no, .no, .no]) free_2 rfl rfl (fun _ => rfl) (ie_eq (ie_tup (we_fldC (isF_Web_ties T.A) (we_var rfl))) rfl) (fun s3 x4 => (a_T4 rfl (a_name rfl (a_name rfl (a_name rfl (a_name rfl ⟨rfl, ?_⟩)))))) fun s10 => ?_
  · refine zm_last ?_
    refine zm_append (i := 2) rfl (by decide) (we_eq (we_tup2 (we_call4 hs_p_seat rfl (we_var rfl) (we_ix (we_var rfl) (re_w (we_var rfl))) (we_var rfl) (we_var rfl)) (we_call4 hs_p_seat rfl (we_var rfl) (we_ix (we_var rfl) (re_w (we_var rfl))) (we_var rfl) (we_var rfl))) rfl) fun free_9 => ?_
    exact zm_nextL rfl
  · refine zm_for [7, 8] (fun s11 => [(.val (dWeb T.A) web), (.val (dList (d := dInt)) firsts_1), (.own (dList (d := (dPair (d1 := dInt) (d2 := dInt)))) (oList (d := (dPair (d1 := dInt) (d2 := dInt)))) none s11), .no, .no, .no, .no, .no, .no]) s10 rfl rfl (fun _ => rfl) (ie_eq (ie_enumT (we_fld (isF_Web_sides T.A) T.c_Web T.n_Web_sides (we_var rfl))) rfl) (fun s11 x12 => (a_pair rfl (a_name rfl (a_name rfl ⟨rfl, ?_⟩)))) fun s15 => ?_
    · refine zm_last ?_
      refine zm_ifP (te_eq (te_test (we_gt (re_w (we_var rfl)) (re_w we_int))) rfl) ?_ ?_
      · refine zm_extO (i := 2) rfl (by decide) (oe_eq (oe_call2 hs_p_inner_ties rfl (we_ix (we_var rfl) (re_w (we_var rfl))) (we_var rfl)) rfl) fun free_14 => ?_
        exact zm_nextL rfl
      · refine zm_skip ?_
        exact zm_nextL rfl
    · refine zm_last ?_
      refine zm_frz 2 rfl (by decide) ?_
      exact zm_retO (oe_eq (oe_make2 hs_m_PairedWebX_initX rfl (we_ix (we_var rfl) (re_w (we_neg (re_w we_int)))) (we_var rfl)) rfl)
end K41

namespace K41
open PySem L2 G PM
set_option maxHeartbeats 4000000 in
theorem ok_p_pair_at {P : Program} {w : World} {K : PySem.W.Frag} {mg : Str → Option Value} {base : Heap} (T : Txt K mg) (G_m_WebX_containsX : FnOk P w K mg base (L2.CX P w) 1 T.a_m_WebX_containsX T.f_m_WebX_containsX ["self", "place"] (sp_m_WebX_containsX ⟨P, w, K⟩ T.A)) (G_p_first_pairs : FnOk P w K mg base (L2.CX P w) 1 T.a_p_first_pairs T.f_p_first_pairs ["web"] (sp_p_first_pairs ⟨P, w, K⟩ T.A)) (G_x_UnknownPlace : FnOk P w K mg base (L2.CX P w) 1 T.i_UnknownPlace T.fx_UnknownPlace ["self", "place"] (spX1 (T.A.tx .UnknownPlace) "place")) : FnOk P w K mg base (L2.CX P w) 3 T.a_p_pair_at T.f_p_pair_at ["web", "place"] (sp_p_pair_at ⟨P, w, K⟩ T.A) := by
  have nd := sc_p_pair_at.nd
  refine T.F_p_pair_at.okX sc_p_pair_at (fun vs H Q E h => ?_) (fun cdv A outer s H vs Q E hr h => ?_)
  · exact sp_p_pair_at_len h
  have hu := hu_of hr
  refine ⟨_, (pss_cons (ps_if (pt_cmpR (op_niO T.me_m_WebX_containsX G_m_WebX_containsX (hr.mono (by decide)) T.d_m_WebX_containsX (fun σ => passFS σ)) (pv 1) (pv 0) (by with_unfolding_all rfl))
        (pss_one (ps_raise rfl (takes_of rfl rfl rfl rfl) (pmk_oex T.x_UnknownPlace.T T.x_UnknownPlace.init T.x_UnknownPlace.fn G_x_UnknownPlace (hr.mono (by decide)) T.dx_UnknownPlace .nil passF (by rfl) T.g_UnknownPlace (pa_cons (pv 1) pa_nil))))
        pss_nil)
      (pss_cons (ps_set (i := 2) nd rfl (Or.inl rfl) (pe_ix (ix_lK K) (pe_callS G_p_first_pairs (hr.mono (by decide)) (by rfl) T.g_p_first_pairs T.F_p_first_pairs.kp T.d_p_first_pairs (fun σ => passAt (takes_of rfl rfl rfl rfl) σ) (pa_cons (pv 0) pa_nil)) (pv 1) (fun _ _ => rfl)))
      (pss_cons (ps_if (pt_cmpR op_lt (pe_ix (ix_tK K) (fld_K K (pv 0) rfl) (pv 1) (fun _ _ => rfl)) pe_int (nomark _))
        (pss_one (ps_ret (pv 2)))
        pss_nil)
      (pss_one (ps_ret (pe_op op_add (pv 2) (pe_ix (ix_tK K) (fld_K K (pv 0) rfl) (pv 1) (fun _ _ => rfl)))))))), ?_⟩
  try dsimp only [cxOf]
  obtain ⟨web, place, nb, h⟩ := h
  refine Zm.body (js := [0, 1, 2]) (m := p_pair_at_m web place) nb h ?_
  refine zm_to (Γ2 := [(.val (dWeb T.A) web), (.val dInt place), .no]) rfl ?_
  delta p_pair_at_m
  refine zm_if (te_eq (te_test (we_inO hs_m_WebX_containsX (isI_Web T.A) (we_var rfl) (we_var rfl))) rfl) ?_ ?_
  · exact zm_raise1 rfl rfl (re_eq (re_w (we_var rfl)) rfl)
  · refine zm_skip ?_
    refine zm_set (i := 2) rfl (by decide) (we_eq (we_ix (we_o (oe_call1 hs_p_first_pairs rfl (we_var rfl))) (re_w (we_var rfl))) rfl) fun first_3 => ?_
    refine zm_if (te_eq (te_test (we_lt (re_w (we_ixT (we_fld (isF_Web_sides T.A) T.c_Web T.n_Web_sides (we_var rfl)) (re_w (we_var rfl)))) (re_w we_int))) rfl) ?_ ?_
    · exact zm_ret (we_eq (we_var rfl) rfl)
    · refine zm_skip ?_
      refine zm_last ?_
      exact zm_ret (we_eq (we_add (re_w (we_var rfl)) (re_w (we_ixT (we_fld (isF_Web_sides T.A) T.c_Web T.n_Web_sides (we_var rfl)) (re_w (we_var rfl))))) rfl)
end K41

namespace K41
open PySem L2 G PM
set_option maxHeartbeats 4000000 in
theorem ok_m_PairedWeb_points {P : Program} {w : World} {K : PySem.W.Frag} {mg : Str → Option Value} {base : Heap} (T : Txt K mg) : FnOk P w K mg base (L2.CX P w) 1 T.a_m_PairedWeb_points T.f_m_PairedWeb_points ["self"] (sp_m_PairedWeb_points ⟨P, w, K⟩ T.A) := by
  have nd := sc_m_PairedWeb_points.nd
  refine T.F_m_PairedWeb_points.okX sc_m_PairedWeb_points (fun vs H Q E h => ?_) (fun cdv A outer s H vs Q E hr h => ?_)
  · exact sp_m_PairedWeb_points_len h
  have hu := hu_of hr
  refine ⟨_, (pss_one (ps_ret (pe_op op_mul pe_int (fld_K K (pv 0) rfl)))), ?_⟩
  try dsimp only [cxOf]
  obtain ⟨self, nb, h⟩ := h
  refine Zm.body (js := [0]) (m := m_PairedWeb_points_m self) nb h ?_
  refine zm_to (Γ2 := [(.val (dPairedWeb T.A) self)]) rfl ?_
  delta m_PairedWeb_points_m
  refine zm_last ?_
  exact zm_ret (we_eq (we_mulCl (re_w we_int) (re_w (we_fld (isF_PairedWeb_pairs T.A) T.c_PairedWeb T.n_PairedWeb_pairs (we_var rfl)))) rfl)
end K41

namespace K41
open PySem L2 G PM
set_option maxHeartbeats 4000000 in
theorem ok_m_PairedWeb_all_ties {P : Program} {w : World} {K : PySem.W.Frag} {mg : Str → Option Value} {base : Heap} (T : Txt K mg) : FnOk P w K mg base (L2.CX P w) 1 T.a_m_PairedWeb_all_ties T.f_m_PairedWeb_all_ties ["self"] (sp_m_PairedWeb_all_ties ⟨P, w, K⟩ T.A) := by
  have nd := sc_m_PairedWeb_all_ties.nd
  refine T.F_m_PairedWeb_all_ties.okX sc_m_PairedWeb_all_ties (fun vs H Q E h => ?_) (fun cdv A outer s H vs Q E hr h => ?_)
  · exact sp_m_PairedWeb_all_ties_len h
  have hu := hu_of hr
  refine ⟨_, (pss_one (ps_ret (pe_op (catT_K K) (pe_callTy (tuple_K K) (by rfl) T.b_tuple (by decide +kernel) (pa_cons (pe_lc (own := [("pair", 1)]) (by rfl) nd (pi_range1 (by rfl) T.b_range (pa_cons (fld_K K (pv 0) rfl) pa_nil)) (blkOk_by (own := [("pair", 1)]) (N := N_m_PairedWeb_all_ties) (sc := defScope s_m_PairedWeb_all_ties) (by decide +kernel)) (fun _ _ _ _ _ => (pg_name (i := 1) nd rfl (Or.inl rfl))) (fun _ _ _ _ _ => pts_nil) (fun _ _ _ _ _ => (pe_tup (pa_cons (pe_op op_mul pe_int (pv 1)) (pa_cons (pe_op op_add (pe_op op_mul pe_int (pv 1)) pe_int) pa_nil))))) pa_nil)) (fld_K K (pv 0) rfl)))), ?_⟩
  try dsimp only [cxOf]
  obtain ⟨self, nb, h⟩ := h
  refine Zm.body (js := [0, 1]) (m := m_PairedWeb_all_ties_m self) nb h ?_
  refine zm_to (Γ2 := [(.val (dPairedWeb T.A) self), .no]) rfl ?_
  delta m_PairedWeb_all_ties_m
  refine zm_last ?_
  exact zm_ret (we_eq (we_catT (we_tupOf (we_o (oe_lc (tg_name' (by decide)) (ic_range (re_w (we_fld (isF_PairedWeb_pairs T.A) T.c_PairedWeb T.n_PairedWeb_pairs (we_var rfl)))) fun x1 => (a_name rfl ⟨te_yes, (we_tup2 (we_mulCl (re_w we_int) (re_w (we_var rfl))) (we_add (re_w (we_mulCl (re_w we_int) (re_w (we_var rfl)))) (re_w we_int)))⟩)))) (we_fld (isF_PairedWeb_free T.A) T.c_PairedWeb T.n_PairedWeb_free (we_var rfl))) rfl)
end K41

namespace K41
open PySem L2 G PM
set_option maxHeartbeats 4000000 in
theorem ok_p_place_graph {P : Program} {w : World} {K : PySem.W.Frag} {mg : Str → Option Value} {base : Heap} (T : Txt K mg) (G_p_check_place : FnOk P w K mg base (L2.CX P w) 3 T.a_p_check_place T.f_p_check_place ["web", "place"] (sp_p_check_place ⟨P, w, K⟩ T.A)) (G_p_paired_of_web : FnOk P w K mg base (L2.CX P w) 5 T.a_p_paired_of_web T.f_p_paired_of_web ["web"] (sp_p_paired_of_web ⟨P, w, K⟩ T.A)) (G_p_pair_at : FnOk P w K mg base (L2.CX P w) 3 T.a_p_pair_at T.f_p_pair_at ["web", "place"] (sp_p_pair_at ⟨P, w, K⟩ T.A)) (G_m_PairedWeb_points : FnOk P w K mg base (L2.CX P w) 1 T.a_m_PairedWeb_points T.f_m_PairedWeb_points ["self"] (sp_m_PairedWeb_points ⟨P, w, K⟩ T.A)) (G_m_PairedWeb_all_ties : FnOk P w K mg base (L2.CX P w) 1 T.a_m_PairedWeb_all_ties T.f_m_PairedWeb_all_ties ["self"] (sp_m_PairedWeb_all_ties ⟨P, w, K⟩ T.A)) : FnOk P w K mg base (L2.CX P w) 6 T.a_p_place_graph T.f_p_place_graph ["web", "place"] (sp_p_place_graph ⟨P, w, K⟩ T.A) := by
  have nd := sc_p_place_graph.nd
  refine T.F_p_place_graph.okX sc_p_place_graph (fun vs H Q E h => ?_) (fun cdv A outer s H vs Q E hr h => ?_)
  · exact sp_p_place_graph_len h
  have hu := hu_of hr
  refine ⟨_, (pss_cons (ps_expr (pe_callS G_p_check_place (hr.mono (by decide)) (by rfl) T.g_p_check_place T.F_p_check_place.kp T.d_p_check_place (fun σ => passAt (takes_of rfl rfl rfl rfl) σ) (pa_cons (pv 0) (pa_cons (pv 1) pa_nil))))
      (pss_cons (ps_set (i := 2) nd rfl (Or.inl rfl) (pe_callS G_p_paired_of_web (hr.mono (by decide)) (by rfl) T.g_p_paired_of_web T.F_p_paired_of_web.kp T.d_p_paired_of_web (fun σ => passAt (takes_of rfl rfl rfl rfl) σ) (pa_cons (pv 0) pa_nil)))
      (pss_cons (ps_set (i := 3) nd rfl (Or.inr rfl) (pe_callS G_p_pair_at (hr.mono (by decide)) (by rfl) T.g_p_pair_at T.F_p_pair_at.kp T.d_p_pair_at (fun σ => passAt (takes_of rfl rfl rfl rfl) σ) (pa_cons (pv 0) (pa_cons (pv 1) pa_nil))))
      (pss_one (ps_ret (pe_tup (pa_cons (pe_listRg rfl (by rfl) T.b_list (prg_1 (by rfl) T.b_range (pe_prop (pv 2) T.c_PairedWeb T.p_m_PairedWeb_points G_m_PairedWeb_points (hr.mono (by decide)) T.d_m_PairedWeb_points .nil passF rfl))) (pa_cons (pe_lc (own := [("number", 4), ("tie", 5)]) (by rfl) nd (pi_enTB K (by rfl) T.b_enumerate (pa_cons (pe_prop (pv 2) T.c_PairedWeb T.p_m_PairedWeb_all_ties G_m_PairedWeb_all_ties (hr.mono (by decide)) T.d_m_PairedWeb_all_ties .nil passF rfl) pa_nil)) (blkOk_by (own := [("number", 4), ("tie", 5)]) (N := N_p_place_graph) (sc := defScope s_p_place_graph) (by decide +kernel)) (fun _ _ _ _ _ => (pg_tupK (n := 2) K (by rfl) (pgs_cons (pg_name (i := 4) nd rfl (Or.inl rfl)) (pgs_cons (pg_name (i := 5) nd rfl (Or.inl rfl)) pgs_nil)))) (fun _ _ _ _ _ => (pts_one (pt_cmpR op_ne (pv 4) (pv 3) (nomark _)))) (fun _ _ _ _ _ => (pv 5))) pa_nil)))))))), ?_⟩
  try dsimp only [cxOf]
  obtain ⟨web, place, nb, h⟩ := h
  refine Zm.body (js := [0, 1, 2, 3, 4, 5]) (m := p_place_graph_m web place) nb h ?_
  refine zm_to (Γ2 := [(.val (dWeb T.A) web), (.val dInt place), .no, .no, .no, .no]) rfl ?_
  delta p_place_graph_m
  refine zm_drop (re_eq (re_w (we_call2 hs_p_check_place rfl (we_var rfl) (we_var rfl))) rfl) ?_
  refine zm_set (i := 2) rfl (by decide) (we_eq (we_o (oe_call1 hs_p_paired_of_web rfl (we_var rfl))) rfl) fun paired_1 => ?_
  refine zm_set (i := 3) rfl (by decide) (we_eq (we_call2 hs_p_pair_at rfl (we_var rfl) (we_var rfl)) rfl) fun pair_2 => ?_
  refine zm_last ?_
  exact zm_retO (oe_eq (oe_pairO (oe_listRg1 (re_w (we_prop hs_m_PairedWeb_points (isI_PairedWeb T.A) (we_var rfl)))) (oe_lc (tg_tup' (tgs_cons' (tg_name' (by decide)) (tgs_cons' (tg_name' (by decide)) tgs_nil'))) (ic_enumT (we_prop hs_m_PairedWeb_all_ties (isI_PairedWeb T.A) (we_var rfl))) fun x5 => (a_pair rfl (a_name rfl (a_name rfl ⟨(te_test (we_neS (re_w (we_var rfl)) (re_w (we_var rfl)))), (we_var rfl)⟩))))) rfl)
end K41

namespace K41
open PySem L2 G PM
set_option maxHeartbeats 4000000 in
theorem ok_p_check_tie {P : Program} {w : World} {K : PySem.W.Frag} {mg : Str → Option Value} {base : Heap} (T : Txt K mg) (G_x_UnknownTie : FnOk P w K mg base (L2.CX P w) 1 T.i_UnknownTie T.fx_UnknownTie ["self", "tie"] (spX1 (T.A.tx .UnknownTie) "tie")) : FnOk P w K mg base (L2.CX P w) 3 T.a_p_check_tie T.f_p_check_tie ["web", "tie"] (sp_p_check_tie ⟨P, w, K⟩ T.A) := by
  have nd := sc_p_check_tie.nd
  refine T.F_p_check_tie.okX sc_p_check_tie (fun vs H Q E h => ?_) (fun cdv A outer s H vs Q E hr h => ?_)
  · exact sp_p_check_tie_len h
  have hu := hu_of hr
  refine ⟨_, (pss_one (ps_if (PW.pt (pw_or (pt_cmpR op_lt (pv 1) pe_int (nomark _)) (pw_or1 (pt_cmpR op_ge (pv 1) (pe_callB (len_K K) (by rfl) T.b_len (by decide +kernel) (pa_cons (fld_K K (pv 0) rfl) pa_nil)) (nomark _)))))
        (pss_one (ps_raise rfl (takes_of rfl rfl rfl rfl) (pmk_oex T.x_UnknownTie.T T.x_UnknownTie.init T.x_UnknownTie.fn G_x_UnknownTie (hr.mono (by decide)) T.dx_UnknownTie .nil passF (by rfl) T.g_UnknownTie (pa_cons (pv 1) pa_nil))))
        pss_nil)), ?_⟩
  try dsimp only [cxOf]
  obtain ⟨web, tie, nb, h⟩ := h
  refine Zm.body (js := [0, 1]) (m := p_check_tie_m web tie) nb h ?_
  refine zm_to (Γ2 := [(.val (dWeb T.A) web), (.val dInt tie)]) rfl ?_
  delta p_check_tie_m
  refine zm_last ?_
  refine zm_ifP (te_eq (te_orP (te_test (we_lt (re_w (we_var rfl)) (re_w we_int))) (te_test (we_ge (re_w (we_var rfl)) (re_w (we_lenT (re_w (we_fld (isF_Web_ties T.A) T.c_Web T.n_Web_ties (we_var rfl)))))))) rfl) ?_ ?_
  · exact zm_raise1 rfl rfl (re_eq (re_w (we_var rfl)) rfl)
  · refine zm_skip ?_
    exact zm_end
end K41

namespace K41
open PySem L2 G PM
set_option maxHeartbeats 4000000 in
theorem ok_p_tie_graph {P : Program} {w : World} {K : PySem.W.Frag} {mg : Str → Option Value} {base : Heap} (T : Txt K mg) (G_p_check_tie : FnOk P w K mg base (L2.CX P w) 3 T.a_p_check_tie T.f_p_check_tie ["web", "tie"] (sp_p_check_tie ⟨P, w, K⟩ T.A)) (G_p_paired_of_web : FnOk P w K mg base (L2.CX P w) 5 T.a_p_paired_of_web T.f_p_paired_of_web ["web"] (sp_p_paired_of_web ⟨P, w, K⟩ T.A)) (G_m_PairedWeb_points : FnOk P w K mg base (L2.CX P w) 1 T.a_m_PairedWeb_points T.f_m_PairedWeb_points ["self"] (sp_m_PairedWeb_points ⟨P, w, K⟩ T.A)) (G_m_PairedWeb_all_ties : FnOk P w K mg base (L2.CX P w) 1 T.a_m_PairedWeb_all_ties T.f_m_PairedWeb_all_ties ["self"] (sp_m_PairedWeb_all_ties ⟨P, w, K⟩ T.A)) : FnOk P w K mg base (L2.CX P w) 6 T.a_p_tie_graph T.f_p_tie_graph ["web", "tie"] (sp_p_tie_graph ⟨P, w, K⟩ T.A) := by
  have nd := sc_p_tie_graph.nd
  refine T.F_p_tie_graph.okX sc_p_tie_graph (fun vs H Q E h => ?_) (fun cdv A outer s H vs Q E hr h => ?_)
  · exact sp_p_tie_graph_len h
  have hu := hu_of hr
  refine ⟨_, (pss_cons (ps_expr (pe_callS G_p_check_tie (hr.mono (by decide)) (by rfl) T.g_p_check_tie T.F_p_check_tie.kp T.d_p_check_tie (fun σ => passAt (takes_of rfl rfl rfl rfl) σ) (pa_cons (pv 0) (pa_cons (pv 1) pa_nil))))
      (pss_cons (ps_set (i := 2) nd rfl (Or.inr rfl) (pe_callS G_p_paired_of_web (hr.mono (by decide)) (by rfl) T.g_p_paired_of_web T.F_p_paired_of_web.kp T.d_p_paired_of_web (fun σ => passAt (takes_of rfl rfl rfl rfl) σ) (pa_cons (pv 0) pa_nil)))
      (pss_one (ps_ret (pe_tup (pa_cons (pe_lc (own := [("point", 3)]) (by rfl) nd (pi_range1 (by rfl) T.b_range (pa_cons (pe_prop (pv 2) T.c_PairedWeb T.p_m_PairedWeb_points G_m_PairedWeb_points (hr.mono (by decide)) T.d_m_PairedWeb_points .nil passF rfl) pa_nil)) (blkOk_by (own := [("point", 3)]) (N := N_p_tie_graph) (sc := defScope s_p_tie_graph) (by decide +kernel)) (fun _ _ _ _ _ => (pg_name (i := 3) nd rfl (Or.inl rfl))) (fun _ _ _ _ _ => (pts_one (pt_cmpR (op_niK K) (pv 3) (pe_ix (ix_tK K) (fld_K K (pv 2) rfl) (pv 1) (fun _ _ => rfl)) (by with_unfolding_all rfl)))) (fun _ _ _ _ _ => (pv 3))) (pa_cons (pe_callTy (list_K K) (by rfl) T.b_list (by decide +kernel) (pa_cons (pe_prop (pv 2) T.c_PairedWeb T.p_m_PairedWeb_all_ties G_m_PairedWeb_all_ties (hr.mono (by decide)) T.d_m_PairedWeb_all_ties .nil passF rfl) pa_nil)) pa_nil))))))), ?_⟩
  try dsimp only [cxOf]
  obtain ⟨web, tie, nb, h⟩ := h
  refine Zm.body (js := [0, 1, 2, 3]) (m := p_tie_graph_m web tie) nb h ?_
  refine zm_to (Γ2 := [(.val (dWeb T.A) web), (.val dInt tie), .no, .no]) rfl ?_
  delta p_tie_graph_m
  refine zm_drop (re_eq (re_w (we_call2 hs_p_check_tie rfl (we_var rfl) (we_var rfl))) rfl) ?_
  refine zm_set (i := 2) rfl (by decide) (we_eq (we_o (oe_call1 hs_p_paired_of_web rfl (we_var rfl))) rfl) fun paired_1 => ?_
  refine zm_last ?_
  exact zm_retO (oe_eq (oe_pairO (oe_lc (tg_name' (by decide)) (ic_range (re_w (we_prop hs_m_PairedWeb_points (isI_PairedWeb T.A) (we_var rfl)))) fun x3 => (a_name rfl ⟨(te_test (we_notinP2 (re_w (we_var rfl)) (we_ixT (we_fld (isF_PairedWeb_free T.A) T.c_PairedWeb T.n_PairedWeb_free (we_var rfl)) (re_w (we_var rfl))))), (we_var rfl)⟩)) (oe_listOfT (we_prop hs_m_PairedWeb_all_ties (isI_PairedWeb T.A) (we_var rfl)))) rfl)
end K41

namespace K41
open PySem L2 G PM
set_option maxHeartbeats 4000000 in
theorem ok_p_cycle_through_place {P : Program} {w : World} {K : PySem.W.Frag} {mg : Str → Option Value} {base : Heap} (T : Txt K mg) (G_p_check_place : FnOk P w K mg base (L2.CX P w) 3 T.a_p_check_place T.f_p_check_place ["web", "place"] (sp_p_check_place ⟨P, w, K⟩ T.A)) (G_p_paired_of_web : FnOk P w K mg base (L2.CX P w) 5 T.a_p_paired_of_web T.f_p_paired_of_web ["web"] (sp_p_paired_of_web ⟨P, w, K⟩ T.A)) : FnOk P w K mg base (L2.CX P w) 6 T.a_p_cycle_through_place T.f_p_cycle_through_place ["web", "place"] (sp_p_cycle_through_place ⟨P, w, K⟩ T.A) := by
  have nd := sc_p_cycle_through_place.nd
  refine T.F_p_cycle_through_place.okX sc_p_cycle_through_place (fun vs H Q E h => ?_) (fun cdv A outer s H vs Q E hr h => ?_)
  · exact sp_p_cycle_through_place_len h
  have hu := hu_of hr
  refine ⟨_, (pss_cons (ps_expr (pe_callS G_p_check_place (hr.mono (by decide)) (by rfl) T.g_p_check_place T.F_p_check_place.kp T.d_p_check_place (fun σ => passAt (takes_of rfl rfl rfl rfl) σ) (pa_cons (pv 0) (pa_cons (pv 1) pa_nil))))
      (pss_cons (ps_set (i := 2) nd rfl (Or.inr rfl) (pe_callS G_p_paired_of_web (hr.mono (by decide)) (by rfl) T.g_p_paired_of_web T.F_p_paired_of_web.kp T.d_p_paired_of_web (fun σ => passAt (takes_of rfl rfl rfl rfl) σ) (pa_cons (pv 0) pa_nil)))
      pss_no)), ?_⟩
  try dsimp only [cxOf]
  obtain ⟨web, place, nb, h⟩ := h
  refine Zm.body (js := [0, 1, 2, 3, 4, 5, 6, 7, 8, 9, 10, 11, 12, 13, 14]) (m := p_cycle_through_place_m web place) nb h ?_
  refine zm_to (Γ2 := [(.val (dWeb T.A) web), (.val dInt place), .no, .no, .no, .no, .no, .no, .no, .no, .no, .no, .no, .no, .no]) rfl ?_
  delta p_cycle_through_place_m
  refine zm_drop (re_eq (re_w (we_call2 hs_p_check_place rfl (we_var rfl) (we_var rfl))) rfl) ?_
  refine zm_set (i := 2) rfl (by decide) (we_eq (we_o (oe_call1 hs_p_paired_of_web rfl (we_var rfl))) rfl) fun paired_1 => ?_
  exact zm_no
end K41

namespace K41
open PySem L2 G PM
set_option maxHeartbeats 4000000 in
theorem ok_p_tie_answer {P : Program} {w : World} {K : PySem.W.Frag} {mg : Str → Option Value} {base : Heap} (T : Txt K mg) : FnOk P w K mg base (L2.CX P w) 1 T.a_p_tie_answer T.f_p_tie_answer ["web", "paired", "tie"] (sp_p_tie_answer ⟨P, w, K⟩ T.A) := by
  have nd := sc_p_tie_answer.nd
  refine T.F_p_tie_answer.okX sc_p_tie_answer (fun vs H Q E h => ?_) (fun cdv A outer s H vs Q E hr h => ?_)
  · exact sp_p_tie_answer_len h
  have hu := hu_of hr
  refine ⟨_, (pss_cons (ps_asg (pe_ix (ix_tK K) (fld_K K (pv 1) rfl) (pv 2) (fun _ _ => rfl)) (pg_tupK (n := 2) K (by rfl) (pgs_cons (pg_name (i := 3) nd rfl (Or.inl rfl)) (pgs_cons (pg_name (i := 4) nd rfl (Or.inl rfl)) pgs_nil))))
      pss_no), ?_⟩
  try dsimp only [cxOf]
  obtain ⟨web, paired, tie, nb, h⟩ := h
  refine Zm.body (js := [0, 1, 2, 3, 4, 5, 6]) (m := p_tie_answer_m web paired tie) nb h ?_
  refine zm_to (Γ2 := [(.val (dWeb T.A) web), (.val (dPairedWeb T.A) paired), (.val dInt tie), .no, .no, .no, .no]) rfl ?_
  delta p_tie_answer_m
  refine zm_setG (we_eq (we_ixT (we_fld (isF_PairedWeb_free T.A) T.c_PairedWeb T.n_PairedWeb_free (we_var rfl)) (re_w (we_var rfl))) rfl) fun t1 => (a_pair rfl (a_name rfl (a_name rfl ⟨rfl, ?_⟩)))
  exact zm_no
end K41

namespace K41
open PySem L2 G PM
set_option maxHeartbeats 4000000 in
theorem ok_p_cycle_through_tie {P : Program} {w : World} {K : PySem.W.Frag} {mg : Str → Option Value} {base : Heap} (T : Txt K mg) (G_p_check_tie : FnOk P w K mg base (L2.CX P w) 3 T.a_p_check_tie T.f_p_check_tie ["web", "tie"] (sp_p_check_tie ⟨P, w, K⟩ T.A)) (G_p_paired_of_web : FnOk P w K mg base (L2.CX P w) 5 T.a_p_paired_of_web T.f_p_paired_of_web ["web"] (sp_p_paired_of_web ⟨P, w, K⟩ T.A)) (G_p_tie_answer : FnOk P w K mg base (L2.CX P w) 1 T.a_p_tie_answer T.f_p_tie_answer ["web", "paired", "tie"] (sp_p_tie_answer ⟨P, w, K⟩ T.A)) : FnOk P w K mg base (L2.CX P w) 6 T.a_p_cycle_through_tie T.f_p_cycle_through_tie ["web", "tie"] (sp_p_cycle_through_tie ⟨P, w, K⟩ T.A) := by
  have nd := sc_p_cycle_through_tie.nd
  refine T.F_p_cycle_through_tie.okX sc_p_cycle_through_tie (fun vs H Q E h => ?_) (fun cdv A outer s H vs Q E hr h => ?_)
  · exact sp_p_cycle_through_tie_len h
  have hu := hu_of hr
  refine ⟨_, (pss_cons (ps_expr (pe_callS G_p_check_tie (hr.mono (by decide)) (by rfl) T.g_p_check_tie T.F_p_check_tie.kp T.d_p_check_tie (fun σ => passAt (takes_of rfl rfl rfl rfl) σ) (pa_cons (pv 0) (pa_cons (pv 1) pa_nil))))
      (pss_one (ps_ret (pe_callS G_p_tie_answer (hr.mono (by decide)) (by rfl) T.g_p_tie_answer T.F_p_tie_answer.kp T.d_p_tie_answer (fun σ => passAt (takes_of rfl rfl rfl rfl) σ) (pa_cons (pv 0) (pa_cons (pe_callS G_p_paired_of_web (hr.mono (by decide)) (by rfl) T.g_p_paired_of_web T.F_p_paired_of_web.kp T.d_p_paired_of_web (fun σ => passAt (takes_of rfl rfl rfl rfl) σ) (pa_cons (pv 0) pa_nil)) (pa_cons (pv 1) pa_nil))))))), ?_⟩
  try dsimp only [cxOf]
  obtain ⟨web, tie, nb, h⟩ := h
  refine Zm.body (js := [0, 1]) (m := p_cycle_through_tie_m web tie) nb h ?_
  refine zm_to (Γ2 := [(.val (dWeb T.A) web), (.val dInt tie)]) rfl ?_
  delta p_cycle_through_tie_m
  refine zm_drop (re_eq (re_w (we_call2 hs_p_check_tie rfl (we_var rfl) (we_var rfl))) rfl) ?_
  refine zm_last ?_
  exact zm_ret (we_eq (we_call3 hs_p_tie_answer rfl (we_var rfl) (we_o (oe_call1 hs_p_paired_of_web rfl (we_var rfl))) (we_var rfl)) rfl)
end K41

namespace K41
open PySem L2 G PM
set_option maxHeartbeats 4000000 in
theorem ok_p_on_cycles {P : Program} {w : World} {K : PySem.W.Frag} {mg : Str → Option Value} {base : Heap} (T : Txt K mg) (G_p_paired_of_web : FnOk P w K mg base (L2.CX P w) 5 T.a_p_paired_of_web T.f_p_paired_of_web ["web"] (sp_p_paired_of_web ⟨P, w, K⟩ T.A)) : FnOk P w K mg base (L2.CX P w) 6 T.a_p_on_cycles T.f_p_on_cycles ["web"] (sp_p_on_cycles ⟨P, w, K⟩ T.A) := by
  have nd := sc_p_on_cycles.nd
  refine T.F_p_on_cycles.okX sc_p_on_cycles (fun vs H Q E h => ?_) (fun cdv A outer s H vs Q E hr h => ?_)
  · exact sp_p_on_cycles_len h
  have hu := hu_of hr
  refine ⟨_, (pss_cons (ps_set (i := 1) nd rfl (Or.inl rfl) (pe_callS G_p_paired_of_web (hr.mono (by decide)) (by rfl) T.g_p_paired_of_web T.F_p_paired_of_web.kp T.d_p_paired_of_web (fun σ => passAt (takes_of rfl rfl rfl rfl) σ) (pa_cons (pv 0) pa_nil)))
      pss_no), ?_⟩
  try dsimp only [cxOf]
  obtain ⟨web, nb, h⟩ := h
  refine Zm.body (js := [0, 1, 2, 3, 4, 5, 6, 7, 8]) (m := p_on_cycles_m web) nb h ?_
  refine zm_to (Γ2 := [(.val (dWeb T.A) web), .no, .no, .no, .no, .no, .no, .no, .no]) rfl ?_
  delta p_on_cycles_m
  refine zm_set (i := 1) rfl (by decide) (we_eq (we_o (oe_call1 hs_p_paired_of_web rfl (we_var rfl))) rfl) fun paired_1 => ?_
  exact zm_no
end K41

namespace K41
open PySem L2 G PM
set_option maxHeartbeats 4000000 in
theorem ok_l_told {P : Program} {w : World} {K : PySem.W.Frag} {mg : Str → Option Value} {base : Heap} (T : Txt K mg) (G_p_place_graph : FnOk P w K mg base (L2.CX P w) 6 T.a_p_place_graph T.f_p_place_graph ["web", "place"] (sp_p_place_graph ⟨P, w, K⟩ T.A)) (G_p_tie_graph : FnOk P w K mg base (L2.CX P w) 6 T.a_p_tie_graph T.f_p_tie_graph ["web", "tie"] (sp_p_tie_graph ⟨P, w, K⟩ T.A)) (G_p_cycle_through_place : FnOk P w K mg base (L2.CX P w) 6 T.a_p_cycle_through_place T.f_p_cycle_through_place ["web", "place"] (sp_p_cycle_through_place ⟨P, w, K⟩ T.A)) (G_p_cycle_through_tie : FnOk P w K mg base (L2.CX P w) 6 T.a_p_cycle_through_tie T.f_p_cycle_through_tie ["web", "tie"] (sp_p_cycle_through_tie ⟨P, w, K⟩ T.A)) (G_p_on_cycles : FnOk P w K mg base (L2.CX P w) 6 T.a_p_on_cycles T.f_p_on_cycles ["web"] (sp_p_on_cycles ⟨P, w, K⟩ T.A)) : FnOk P w K mg base (L2.CX P w) 7 T.a_l_told T.f_l_told ["_law_deed", "_law_web_here", "_law_number"] (sp_l_told ⟨P, w, K⟩ T.A) := by
  have nd := sc_l_told.nd
  refine T.F_l_told.okX sc_l_told (fun vs H Q E h => ?_) (fun cdv A outer s H vs Q E hr h => ?_)
  · exact sp_l_told_len h
  have hu := hu_of hr
  refine ⟨_, (pss_one (try_as K (i := 3) rfl rfl nd rfl rfl ⟨rfl, by decide, .inl T.g_ComesapartError⟩ (takes_of rfl rfl rfl rfl) (fun W pn xe tk po => (pss_cons (ps_if (pt_cmpR op_eq (pv 0) pe_int (nomark _))
        (pss_one (ps_ret (pe_tup (pa_cons pe_str (pa_cons (pe_callS G_p_place_graph (hr.mono (by decide)) (by rfl) T.g_p_place_graph T.F_p_place_graph.kp T.d_p_place_graph (fun σ => passAt tk σ) (pa_cons (pv 1) (pa_cons (pv 2) pa_nil))) pa_nil)))))
        pss_nil)
      (pss_cons (ps_if (pt_cmpR op_eq (pv 0) pe_int (nomark _))
        (pss_one (ps_ret (pe_tup (pa_cons pe_str (pa_cons (pe_callS G_p_tie_graph (hr.mono (by decide)) (by rfl) T.g_p_tie_graph T.F_p_tie_graph.kp T.d_p_tie_graph (fun σ => passAt tk σ) (pa_cons (pv 1) (pa_cons (pv 2) pa_nil))) pa_nil)))))
        pss_nil)
      (pss_cons (ps_if (pt_cmpR op_eq (pv 0) pe_int (nomark _))
        (pss_one (ps_ret (pe_tup (pa_cons pe_str (pa_cons (pe_callS G_p_cycle_through_place (hr.mono (by decide)) (by rfl) T.g_p_cycle_through_place T.F_p_cycle_through_place.kp T.d_p_cycle_through_place (fun σ => passAt tk σ) (pa_cons (pv 1) (pa_cons (pv 2) pa_nil))) pa_nil)))))
        pss_nil)
      (pss_cons (ps_if (pt_cmpR op_eq (pv 0) pe_int (nomark _))
        (pss_one (ps_ret (pe_tup (pa_cons pe_str (pa_cons (pe_callS G_p_cycle_through_tie (hr.mono (by decide)) (by rfl) T.g_p_cycle_through_tie T.F_p_cycle_through_tie.kp T.d_p_cycle_through_tie (fun σ => passAt tk σ) (pa_cons (pv 1) (pa_cons (pv 2) pa_nil))) pa_nil)))))
        pss_nil)
      (pss_one (ps_ret (pe_tup (pa_cons pe_str (pa_cons (pe_callS G_p_on_cycles (hr.mono (by decide)) (by rfl) T.g_p_on_cycles T.F_p_on_cycles.kp T.d_p_on_cycles (fun σ => passAt tk σ) (pa_cons (pv 1) pa_nil)) pa_nil)))))))))) (fun a oe cls d pn hz hf => (pss_cons (ps_set (i := 4) nd rfl (Or.inl rfl) (pe_lst (pa_cons (pe_callB (call_isX hz hf) (by rfl) T.b_isinstance (by decide +kernel) (pa_cons (pv 3) (pa_cons (pe_glob (v := .ref (T.A.tx .TooLarge)) (by rfl) T.g_TooLarge rfl) pa_nil))) (pa_cons (pe_callB (call_isX hz hf) (by rfl) T.b_isinstance (by decide +kernel) (pa_cons (pv 3) (pa_cons (pe_glob (v := .ref (T.A.tx .UnknownPlace)) (by rfl) T.g_UnknownPlace rfl) pa_nil))) (pa_cons (pe_callB (call_isX hz hf) (by rfl) T.b_isinstance (by decide +kernel) (pa_cons (pv 3) (pa_cons (pe_glob (v := .ref (T.A.tx .UnknownTie)) (by rfl) T.g_UnknownTie rfl) pa_nil))) pa_nil)))))
      (pss_cons (ps_if (PW.pt (pw_or (pt_not (pt_val (pe_callB (call_isX hz hf) (by rfl) T.b_isinstance (by decide +kernel) (pa_cons (pv 3) (pa_cons (pe_bltn (v := .ty "ValueError") (by rfl) T.b_ValueError (by decide +kernel) rfl) pa_nil))))) (pw_or1 (pt_cmpR op_ne (bm_K K PySem.F.plainAttrs_list PySem.F.slot_list_count PySem.F.type_list_count (lcountB_K K) (pv 4) (pa_cons pe_bl pa_nil)) pe_int (nomark _)))))
        (pss_one (ps_ret (pe_tup (pa_cons pe_str pa_nil))))
        pss_nil)
      (pss_cons (ps_if (pt_val (pe_ix (ix_lK K) (pv 4) pe_int (fun _ _ => rfl)))
        (pss_one (ps_ret (pe_tup (pa_cons pe_str (pa_cons (pe_xf T.xf_TooLarge T.no_TooLarge_limit hz hf (pv 3)) pa_nil)))))
        pss_nil)
      (pss_cons (ps_if (pt_val (pe_ix (ix_lK K) (pv 4) pe_int (fun _ _ => rfl)))
        (pss_one (ps_ret (pe_tup (pa_cons pe_str (pa_cons (pe_xf T.xf_UnknownPlace T.no_UnknownPlace_place hz hf (pv 3)) pa_nil)))))
        pss_nil)
      (pss_one (ps_ret (pe_tup (pa_cons pe_str (pa_cons (pe_xf T.xf_UnknownTie T.no_UnknownTie_tie hz hf (pv 3)) pa_nil)))))))))))), ?_⟩
  try dsimp only [cxOf]
  obtain ⟨deed, web_here, number, nb, h⟩ := h
  refine Zm.body (js := [0, 1, 2, 3, 4]) (m := l_told_m deed web_here number) nb h ?_
  refine zm_to (Γ2 := [(.val dInt deed), (.val (dWeb T.A) web_here), (.val dInt number), .no, .no]) rfl ?_
  delta l_told_m
  refine zm_last ?_
  refine zm_tryT (js := [0, 1, 2, 3, 4]) [] (i := 3) rfl ⟨_, rfl⟩ (by decide) (by decide) T.hx_ComesapartError (fun W kb => ?_) (fun px11 a dd hkn hp => ?_)
  · refine zm_ifP (te_eq (te_test (we_eqS (re_w (we_var rfl)) (re_w we_int))) rfl) ?_ ?_
    · exact zm_retO (oe_eq (oe_p2U (we_UI we_str) (oe_PU (oe_call2 hs_p_place_graph rfl (we_var rfl) (we_var rfl)))) rfl)
    · refine zm_skip ?_
      refine zm_ifP (te_eq (te_test (we_eqS (re_w (we_var rfl)) (re_w we_int))) rfl) ?_ ?_
      · exact zm_retO (oe_eq (oe_p2U (we_UI we_str) (oe_PU (oe_call2 hs_p_tie_graph rfl (we_var rfl) (we_var rfl)))) rfl)
      · refine zm_skip ?_
        refine zm_ifP (te_eq (te_test (we_eqS (re_w (we_var rfl)) (re_w we_int))) rfl) ?_ ?_
        · exact zm_retO (oe_eq (oe_UIU (we_tupV2 (we_UI we_str) (we_UI (we_call2 hs_p_cycle_through_place rfl (we_var rfl) (we_var rfl))))) rfl)
        · refine zm_skip ?_
          refine zm_ifP (te_eq (te_test (we_eqS (re_w (we_var rfl)) (re_w we_int))) rfl) ?_ ?_
          · exact zm_retO (oe_eq (oe_UIU (we_tupV2 (we_UI we_str) (we_UI (we_call2 hs_p_cycle_through_tie rfl (we_var rfl) (we_var rfl))))) rfl)
          · refine zm_skip ?_
            refine zm_last ?_
            exact zm_retO (oe_eq (oe_UIU (we_tupV2 (we_UI we_str) (we_UI (we_call1 hs_p_on_cycles rfl (we_var rfl))))) rfl)
  · refine zm_set (i := 4) rfl (by decide) (we_eq (we_o (oe_lstN (wle_cons (we_isX (b := fun c => XC.isA c .TooLarge) rfl hkn T.exc (fun u e => by cases e; rfl) T.kx_TooLarge) (wle_cons (we_isX (b := fun c => XC.isA c .UnknownPlace) rfl hkn T.exc (fun u e => by cases e; rfl) T.kx_UnknownPlace) (wle_cons (we_isX (b := fun c => XC.isA c .UnknownTie) rfl hkn T.exc (fun u e => by cases e; rfl) T.kx_UnknownTie) wle_nil))) (asLenS (asLenS (asLenS asLen0))) (by decide))) rfl) fun classes_12 => ?_
    refine zm_ifP (te_eq (te_orP (te_not (te_B (we_isX (b := fun _ => true) rfl hkn T.exc (fun u e => by cases e; rfl) T.kx_ValueError))) (te_test (we_neS (re_w (we_countB (we_var rfl) we_bl)) (re_w we_int)))) rfl) ?_ ?_
    · exact zm_retO (oe_eq (oe_UIU (we_UI (we_tup1 we_str))) rfl)
    · refine zm_skip ?_
      refine zm_if (te_eq (te_B (we_ix (we_var rfl) (re_w we_int))) rfl) ?_ ?_
      · exact zm_retO (oe_eq (oe_UIU (we_tupV2 (we_UI we_str) (we_UI (we_xf rfl rfl)))) rfl)
      · refine zm_skip ?_
        refine zm_if (te_eq (te_B (we_ix (we_var rfl) (re_w we_int))) rfl) ?_ ?_
        · exact zm_retO (oe_eq (oe_UIU (we_tupV2 (we_UI we_str) (we_UI (we_xf rfl rfl)))) rfl)
        · refine zm_skip ?_
          refine zm_last ?_
          exact zm_retO (oe_eq (oe_UIU (we_tupV2 (we_UI we_str) (we_UI (we_xf rfl rfl)))) rfl)
end K41

namespace K41
open PySem L2 G PM
set_option maxHeartbeats 4000000 in
theorem ok_l_same {P : Program} {w : World} {K : PySem.W.Frag} {mg : Str → Option Value} {base : Heap} (T : Txt K mg) : ∀ n : Nat, FnOk P w K mg base (L2.CX P w) (n + 1) T.a_l_same T.f_l_same ["_law_told_here", "_law_due_here"] (sp_l_same n ⟨P, w, K⟩ T.A) := by
  have nd := sc_l_same.nd
  intro n
  induction n with
  | zero =>
    refine T.F_l_same.okX sc_l_same (fun vs H Q E h => ?_) (fun cdv A outer s H vs Q E hr h => ?_)
    · exact sp_l_same_len h
    · obtain ⟨told_here, due_here, nb, _⟩ := h; exact absurd rfl nb
  | succ fl G_l_same =>
    refine T.F_l_same.okX sc_l_same (fun vs H Q E h => ?_) (fun cdv A outer s H vs Q E hr h => ?_)
    · exact sp_l_same_len h
    have hu := hu_of hr
    refine ⟨_, (pss_cons (ps_if (pt_cmpR op_isN (pv 1) pe_non (nomark _))
        (pss_one (ps_ret (pe_cmpR op_isN (pv 0) pe_non (nomark _))))
        pss_nil)
      (pss_cons (ps_if (pt_val (pe_callB (isi_K K) (by rfl) T.b_isinstance (by decide +kernel) (pa_cons (pv 1) (pa_cons (pe_bltn (v := .ty "bool") (by rfl) T.b_bool (by decide +kernel) rfl) pa_nil))))
        (pss_one (ps_ret (pe_and (pe_callB (isi_K K) (by rfl) T.b_isinstance (by decide +kernel) (pa_cons (pv 0) (pa_cons (pe_bltn (v := .ty "bool") (by rfl) T.b_bool (by decide +kernel) rfl) pa_nil))) (pe_one (pe_cmpR (op_eqDK K (hu64 hr)) (pv 0) (pv 1) (nomark _))))))
        pss_nil)
      (pss_cons (ps_if (pt_val (pe_callB (isi_K K) (by rfl) T.b_isinstance (by decide +kernel) (pa_cons (pv 1) (pa_cons (pe_bltn (v := .ty "int") (by rfl) T.b_int (by decide +kernel) rfl) pa_nil))))
        (pss_one (ps_ret (pe_and (pe_callB (isi_K K) (by rfl) T.b_isinstance (by decide +kernel) (pa_cons (pv 0) (pa_cons (pe_bltn (v := .ty "int") (by rfl) T.b_int (by decide +kernel) rfl) pa_nil))) (pe_and (pe_not (pe_callB (isi_K K) (by rfl) T.b_isinstance (by decide +kernel) (pa_cons (pv 0) (pa_cons (pe_bltn (v := .ty "bool") (by rfl) T.b_bool (by decide +kernel) rfl) pa_nil)))) (pe_one (pe_cmpR (op_eqDK K (hu64 hr)) (pv 0) (pv 1) (nomark _)))))))
        pss_nil)
      (pss_cons (ps_if (pt_val (pe_callB (isi_K K) (by rfl) T.b_isinstance (by decide +kernel) (pa_cons (pv 1) (pa_cons (pe_bltn (v := .ty "str") (by rfl) T.b_str (by decide +kernel) rfl) pa_nil))))
        (pss_one (ps_ret (pe_and (pe_callB (isi_K K) (by rfl) T.b_isinstance (by decide +kernel) (pa_cons (pv 0) (pa_cons (pe_bltn (v := .ty "str") (by rfl) T.b_str (by decide +kernel) rfl) pa_nil))) (pe_one (pe_cmpR (op_eqDK K (hu64 hr)) (pv 0) (pv 1) (nomark _))))))
        pss_nil)
      (pss_cons (ps_if (PW.pt (pw_and (pt_val (pe_callB (isi_K K) (by rfl) T.b_isinstance (by decide +kernel) (pa_cons (pv 1) (pa_cons (pe_bltn (v := .ty "list") (by rfl) T.b_list (by decide +kernel) rfl) pa_nil)))) (pw_and1 (pt_not (pt_val (pe_callB (isi_K K) (by rfl) T.b_isinstance (by decide +kernel) (pa_cons (pv 0) (pa_cons (pe_bltn (v := .ty "list") (by rfl) T.b_list (by decide +kernel) rfl) pa_nil))))))))
        (pss_one (ps_ret pe_bl))
        pss_nil)
      (pss_cons (ps_if (PW.pt (pw_and (pt_val (pe_callB (isi_K K) (by rfl) T.b_isinstance (by decide +kernel) (pa_cons (pv 1) (pa_cons (pe_bltn (v := .ty "tuple") (by rfl) T.b_tuple (by decide +kernel) rfl) pa_nil)))) (pw_and1 (pt_not (pt_val (pe_callB (isi_K K) (by rfl) T.b_isinstance (by decide +kernel) (pa_cons (pv 0) (pa_cons (pe_bltn (v := .ty "tuple") (by rfl) T.b_tuple (by decide +kernel) rfl) pa_nil))))))))
        (pss_one (ps_ret pe_bl))
        pss_nil)
      (pss_cons (ps_if (pt_cmpR op_ne (pe_callB (len_K K) (by rfl) T.b_len (by decide +kernel) (pa_cons (pv 0) pa_nil)) (pe_callB (len_K K) (by rfl) T.b_len (by decide +kernel) (pa_cons (pv 1) pa_nil)) (nomark _))
        (pss_one (ps_ret pe_bl))
        pss_nil)
      (pss_cons (ps_for (passes_of rfl) rfl (pi_range1 (by rfl) T.b_range (pa_cons (pe_callB (len_K K) (by rfl) T.b_len (by decide +kernel) (pa_cons (pv 1) pa_nil)) pa_nil)) (pg_name (i := 2) nd rfl (Or.inl rfl))
        (pss_one (ps_if (pt_not (pt_val (pe_callS G_l_same (hr.mono (by omega)) (by rfl) T.g_l_same T.F_l_same.kp T.d_l_same (fun σ => passAt (takes_of rfl rfl rfl rfl) σ) (pa_cons (pe_ix (ix_qK K) (pv 0) (pv 2) (fun _ _ => rfl)) (pa_cons (pe_ix (ix_qK K) (pv 1) (pv 2) (fun _ _ => rfl)) pa_nil)))))
        (pss_one (ps_ret pe_bl))
        pss_nil)))
      (pss_one (ps_ret pe_bl)))))))))), ?_⟩
    try dsimp only [cxOf]
    obtain ⟨told_here, due_here, nb, h⟩ := h
    refine Zm.body (js := [0, 1, 2]) (m := l_same_m (fl + 1) told_here due_here) nb h ?_
    refine zm_to (Γ2 := [(.val dU told_here), (.val dU due_here), .no]) rfl ?_
    show Zm _ _ _ _ _ _ (l_same_step (l_same_m fl) told_here due_here)
    delta l_same_step
    refine zm_ifP (te_eq (te_test (we_isNU (re_w (we_var rfl)))) rfl) ?_ ?_
    · exact zm_ret (we_eq (we_isNU (re_w (we_var rfl))) rfl)
    · refine zm_skip ?_
      refine zm_ifP (te_eq (te_B (we_isU (by decide) (re_w (we_var rfl)))) rfl) ?_ ?_
      · exact zm_ret (we_eq (we_and (we_isU (by decide) (re_w (we_var rfl))) (we_eqU (re_w (we_var rfl)) (re_w (we_var rfl)))) rfl)
      · refine zm_skip ?_
        refine zm_ifP (te_eq (te_B (we_isU (by decide) (re_w (we_var rfl)))) rfl) ?_ ?_
        · exact zm_ret (we_eq (we_and (we_isU (by decide) (re_w (we_var rfl))) (we_and (we_not (we_isU (by decide) (re_w (we_var rfl)))) (we_eqU (re_w (we_var rfl)) (re_w (we_var rfl))))) rfl)
        · refine zm_skip ?_
          refine zm_ifP (te_eq (te_B (we_isU (by decide) (re_w (we_var rfl)))) rfl) ?_ ?_
          · exact zm_ret (we_eq (we_and (we_isU (by decide) (re_w (we_var rfl))) (we_eqU (re_w (we_var rfl)) (re_w (we_var rfl)))) rfl)
          · refine zm_skip ?_
            refine zm_ifP (te_eq (te_andP (te_B (we_isU (by decide) (re_w (we_var rfl)))) (te_not (te_B (we_isU (by decide) (re_w (we_var rfl)))))) rfl) ?_ ?_
            · exact zm_ret (we_eq we_bl rfl)
            · refine zm_skip ?_
              refine zm_ifP (te_eq (te_andP (te_B (we_isU (by decide) (re_w (we_var rfl)))) (te_not (te_B (we_isU (by decide) (re_w (we_var rfl)))))) rfl) ?_ ?_
              · exact zm_ret (we_eq we_bl rfl)
              · refine zm_skip ?_
                refine zm_if (te_eq (te_test (we_neS (re_w (we_lenQ (re_w (we_sqU (we_var rfl))))) (re_w (we_lenQ (re_w (we_sqU (we_var rfl))))))) rfl) ?_ ?_
                · exact zm_ret (we_eq we_bl rfl)
                · refine zm_skip ?_
                  refine zm_forC [2] (fun (_ : Unit) => [(.val dU told_here), (.val dU due_here), .no]) (fun r => .val dBool r) () (wlen 3 (by exact rfl) (by exact rfl) (by decide)) rfl (fun _ => (wlen 3 (by exact rfl) (by exact rfl) (by decide))) (ie_eq (ie_range (re_w (we_lenQ (re_w (we_sqU (we_var rfl)))))) rfl) (fun _ x8 => (a_name rfl ⟨(wlen 3 (by exact rfl) (by exact rfl) (by decide)), ?_⟩)) rt_KF fun _ => ?_
                  · refine zm_last ?_
                    refine zm_if (te_eq (te_not (te_B (we_call2 hs_l_same rfl (we_ixQ (we_sqU (we_var rfl)) (re_w (we_var rfl))) (we_ixQ (we_sqU (we_var rfl)) (re_w (we_var rfl)))))) rfl) ?_ ?_
                    · exact zm_retC (we_eq we_bl rfl)
                    · refine zm_skip ?_
                      exact zm_nextC rfl
                  · refine zm_last ?_
                    exact zm_ret (we_eq we_bl rfl)
end K41

namespace K41
open PySem L2 G PM
set_option maxHeartbeats 4000000 in
theorem ok_l_refused {P : Program} {w : World} {K : PySem.W.Frag} {mg : Str → Option Value} {base : Heap} (T : Txt K mg) (G_l_pick : FnOk P w K mg base (L2.CX P w) 1 T.a_l_pick T.f_l_pick ["_law_draws_here", "_law_k", "_law_many"] (sp_l_pick ⟨P, w, K⟩ T.A)) (G_l_told : FnOk P w K mg base (L2.CX P w) 7 T.a_l_told T.f_l_told ["_law_deed", "_law_web_here", "_law_number"] (sp_l_told ⟨P, w, K⟩ T.A)) (G_l_same : ∀ n : Nat, FnOk P w K mg base (L2.CX P w) (n + 1) T.a_l_same T.f_l_same ["_law_told_here", "_law_due_here"] (sp_l_same n ⟨P, w, K⟩ T.A)) : FnOk P w K mg base (L2.CX P w) 11 T.a_l_refused T.f_l_refused ["_law_web_here", "_law_sides", "_law_ties", "_law_draws_here", "_law_at"] (sp_l_refused ⟨P, w, K⟩ T.A) := by
  have nd := sc_l_refused.nd
  refine T.F_l_refused.okX sc_l_refused (fun vs H Q E h => ?_) (fun cdv A outer s H vs Q E hr h => ?_)
  · exact sp_l_refused_len h
  have hu := hu_of hr
  refine ⟨_, (pss_cons (ps_for (passes_of rfl) rfl (pi_range1 (by rfl) T.b_range (pa_cons pe_int pa_nil)) (pg_name (i := 5) nd rfl (Or.inl rfl))
        (pss_cons (ps_set (i := 6) nd rfl (Or.inl rfl) (pe_ix (ix_lK K) (pe_lst (pa_cons (pe_un un_neg pe_int) (pa_cons (pe_un un_neg pe_int) (pa_cons (pe_op op_add (pe_op op_pow pe_int pe_int) (pv 5)) pa_nil)))) (pe_callS G_l_pick (hr.mono (by decide)) (by rfl) T.g_l_pick T.F_l_pick.kp T.d_l_pick (fun σ => passAt (takes_of rfl rfl rfl rfl) σ) (pa_cons (pv 3) (pa_cons (pe_op op_add (pv 4) (pv 5)) (pa_cons pe_int pa_nil)))) (fun _ _ => rfl)))
      (pss_cons (ps_for (passes_of rfl) rfl (pi_lK K (pe_lst (pa_cons (pv 6) (pa_cons (pe_callB (len_K K) (by rfl) T.b_len (by decide +kernel) (pa_cons (pv 1) pa_nil)) pa_nil)))) (pg_name (i := 7) nd rfl (Or.inl rfl))
        (pss_one (ps_for (passes_of rfl) rfl (pi_lK K (pe_lst (pa_cons pe_int (pa_cons pe_int pa_nil)))) (pg_name (i := 8) nd rfl (Or.inl rfl))
        (pss_one (ps_if (pt_not (pt_val (pe_callS (G_l_same 9) (hr.mono (by decide)) (by rfl) T.g_l_same T.F_l_same.kp T.d_l_same (fun σ => passAt (takes_of rfl rfl rfl rfl) σ) (pa_cons (pe_callS G_l_told (hr.mono (by decide)) (by rfl) T.g_l_told T.F_l_told.kp T.d_l_told (fun σ => passAt (takes_of rfl rfl rfl rfl) σ) (pa_cons (pv 8) (pa_cons (pv 0) (pa_cons (pv 7) pa_nil)))) (pa_cons (pe_tup (pa_cons pe_str (pa_cons (pv 7) pa_nil))) pa_nil)))))
        (pss_one (ps_ret pe_bl))
        pss_nil)))))
      (pss_one (ps_for (passes_of rfl) rfl (pi_lK K (pe_lst (pa_cons (pv 6) (pa_cons (pe_callB (len_K K) (by rfl) T.b_len (by decide +kernel) (pa_cons (pv 2) pa_nil)) pa_nil)))) (pg_name (i := 9) nd rfl (Or.inl rfl))
        (pss_one (ps_for (passes_of rfl) rfl (pi_lK K (pe_lst (pa_cons pe_int (pa_cons pe_int pa_nil)))) (pg_name (i := 8) nd rfl (Or.inl rfl))
        (pss_one (ps_if (pt_not (pt_val (pe_callS (G_l_same 9) (hr.mono (by decide)) (by rfl) T.g_l_same T.F_l_same.kp T.d_l_same (fun σ => passAt (takes_of rfl rfl rfl rfl) σ) (pa_cons (pe_callS G_l_told (hr.mono (by decide)) (by rfl) T.g_l_told T.F_l_told.kp T.d_l_told (fun σ => passAt (takes_of rfl rfl rfl rfl) σ) (pa_cons (pv 8) (pa_cons (pv 0) (pa_cons (pv 9) pa_nil)))) (pa_cons (pe_tup (pa_cons pe_str (pa_cons (pv 9) pa_nil))) pa_nil)))))
        (pss_one (ps_ret pe_bl))
        pss_nil)))))))))
      (pss_one (ps_ret pe_bl))), ?_⟩
  try dsimp only [cxOf]
  obtain ⟨web_here, sides, ties, draws_here, at_, nb, h⟩ := h
  refine Zm.body (js := [0, 1, 2, 3, 4, 5, 6, 7, 8, 9]) (m := l_refused_m web_here sides ties draws_here at_) nb h ?_
  refine zm_to (Γ2 := [(.val (dWeb T.A) web_here), (.val (dList (d := dInt)) sides), (.val (dList (d := (dT4 (d1 := dInt) (d2 := dInt) (d3 := dInt) (d4 := dInt)))) ties), (.val (dList (d := dInt)) draws_here), (.val dInt at_), .no, .no, .no, .no, .no]) rfl ?_
  delta l_refused_m
  refine zm_forC [5, 6, 7, 8, 9] (fun (_ : Unit) => [(.val (dWeb T.A) web_here), (.val (dList (d := dInt)) sides), (.val (dList (d := (dT4 (d1 := dInt) (d2 := dInt) (d3 := dInt) (d4 := dInt)))) ties), (.val (dList (d := dInt)) draws_here), (.val dInt at_), .no, .no, .no, .no, .no]) (fun r => .val dBool r) () (wlen 10 (by exact rfl) (by exact rfl) (by decide)) rfl (fun _ => (wlen 10 (by exact rfl) (by exact rfl) (by decide))) (ie_eq (ie_range (re_w we_int)) rfl) (fun _ x2 => (a_name rfl ⟨(wlen 10 (by exact rfl) (by exact rfl) (by decide)), ?_⟩)) rt_KF fun _ => ?_
  · refine zm_set (i := 6) rfl (by decide) (we_eq (we_ix (we_o (oe_lstN (wle_cons (we_neg (re_w we_int)) (wle_cons (we_neg (re_w we_int)) (wle_cons (we_add (re_w (we_powC (c := 1000000000000000000000000000000) (re_w we_int) (re_w we_int) (by decide))) (re_w (we_var rfl))) wle_nil))) (asLenS (asLenS (asLenS asLen0))) (by decide))) (re_w (we_call3 hs_l_pick rfl (we_var rfl) (we_add (re_w (we_var rfl)) (re_w (we_var rfl))) we_int))) rfl) fun number_4 => ?_
    refine zm_forC [7, 8] (fun (_ : Unit) => [(.val (dWeb T.A) web_here), (.val (dList (d := dInt)) sides), (.val (dList (d := (dT4 (d1 := dInt) (d2 := dInt) (d3 := dInt) (d4 := dInt)))) ties), (.val (dList (d := dInt)) draws_here), (.val dInt at_), (.val dInt x2), (.val dInt number_4), .no, .no, .no]) (fun r => .val dBool r) () (wlen 10 (by exact rfl) (by exact rfl) (by decide)) rfl (fun _ => (wlen 10 (by exact rfl) (by exact rfl) (by decide))) (ie_eq (ie_list (we_o (oe_lstN (wle_cons (we_var rfl) (wle_cons (we_len (re_w (we_var rfl))) wle_nil)) (asLenS (asLenS asLen0)) (by decide)))) rfl) (fun _ x6 => (a_name rfl ⟨(wlen 10 (by exact rfl) (by exact rfl) (by decide)), ?_⟩)) rt_KC fun _ => ?_
    · refine zm_last ?_
      refine zm_forC [8] (fun (_ : Unit) => [(.val (dWeb T.A) web_here), (.val (dList (d := dInt)) sides), (.val (dList (d := (dT4 (d1 := dInt) (d2 := dInt) (d3 := dInt) (d4 := dInt)))) ties), (.val (dList (d := dInt)) draws_here), (.val dInt at_), (.val dInt x2), (.val dInt number_4), (.val dInt x6), .no, .no]) (fun r => .val dBool r) () (wlen 10 (by exact rfl) (by exact rfl) (by decide)) rfl (fun _ => (wlen 10 (by exact rfl) (by exact rfl) (by decide))) (ie_eq (ie_list (we_o (oe_lstN (wle_cons we_int (wle_cons we_int wle_nil)) (asLenS (asLenS asLen0)) (by decide)))) rfl) (fun _ x8 => (a_name rfl ⟨(wlen 10 (by exact rfl) (by exact rfl) (by decide)), ?_⟩)) rt_KC fun _ => ?_
      · refine zm_last ?_
        refine zm_if (te_eq (te_not (te_B (we_call2 hs_l_same rfl (we_o (oe_call3 hs_l_told rfl (we_var rfl) (we_var rfl) (we_var rfl))) (we_U (we_tup2 we_str (we_var rfl)))))) rfl) ?_ ?_
        · exact zm_retC (we_eq we_bl rfl)
        · refine zm_skip ?_
          exact zm_nextC rfl
      · exact zm_nextC rfl
    · refine zm_last ?_
      refine zm_forC [8, 9] (fun (_ : Unit) => [(.val (dWeb T.A) web_here), (.val (dList (d := dInt)) sides), (.val (dList (d := (dT4 (d1 := dInt) (d2 := dInt) (d3 := dInt) (d4 := dInt)))) ties), (.val (dList (d := dInt)) draws_here), (.val dInt at_), (.val dInt x2), (.val dInt number_4), .no, .no, .no]) (fun r => .val dBool r) () (wlen 10 (by exact rfl) (by exact rfl) (by decide)) rfl (fun _ => (wlen 10 (by exact rfl) (by exact rfl) (by decide))) (ie_eq (ie_list (we_o (oe_lstN (wle_cons (we_var rfl) (wle_cons (we_len (re_w (we_var rfl))) wle_nil)) (asLenS (asLenS asLen0)) (by decide)))) rfl) (fun _ x17 => (a_name rfl ⟨(wlen 10 (by exact rfl) (by exact rfl) (by decide)), ?_⟩)) rt_KC fun _ => ?_
      · refine zm_last ?_
        refine zm_forC [8] (fun (_ : Unit) => [(.val (dWeb T.A) web_here), (.val (dList (d := dInt)) sides), (.val (dList (d := (dT4 (d1 := dInt) (d2 := dInt) (d3 := dInt) (d4 := dInt)))) ties), (.val (dList (d := dInt)) draws_here), (.val dInt at_), (.val dInt x2), (.val dInt number_4), .no, .no, (.val dInt x17)]) (fun r => .val dBool r) () (wlen 10 (by exact rfl) (by exact rfl) (by decide)) rfl (fun _ => (wlen 10 (by exact rfl) (by exact rfl) (by decide))) (ie_eq (ie_list (we_o (oe_lstN (wle_cons we_int (wle_cons we_int wle_nil)) (asLenS (asLenS asLen0)) (by decide)))) rfl) (fun _ x19 => (a_name rfl ⟨(wlen 10 (by exact rfl) (by exact rfl) (by decide)), ?_⟩)) rt_KC fun _ => ?_
        · refine zm_last ?_
          refine zm_if (te_eq (te_not (te_B (we_call2 hs_l_same rfl (we_o (oe_call3 hs_l_told rfl (we_var rfl) (we_var rfl) (we_var rfl))) (we_U (we_tup2 we_str (we_var rfl)))))) rfl) ?_ ?_
          · exact zm_retC (we_eq we_bl rfl)
          · refine zm_skip ?_
            exact zm_nextC rfl
        · exact zm_nextC rfl
      · exact zm_nextC rfl
  · refine zm_last ?_
    exact zm_ret (we_eq we_bl rfl)
end K41

namespace K41
open PySem L2 G PM
set_option maxHeartbeats 4000000 in
theorem ok_l_large {P : Program} {w : World} {K : PySem.W.Frag} {mg : Str → Option Value} {base : Heap} (T : Txt K mg) (G_l_told : FnOk P w K mg base (L2.CX P w) 7 T.a_l_told T.f_l_told ["_law_deed", "_law_web_here", "_law_number"] (sp_l_told ⟨P, w, K⟩ T.A)) (G_l_same : ∀ n : Nat, FnOk P w K mg base (L2.CX P w) (n + 1) T.a_l_same T.f_l_same ["_law_told_here", "_law_due_here"] (sp_l_same n ⟨P, w, K⟩ T.A)) : FnOk P w K mg base (L2.CX P w) 11 T.a_l_large T.f_l_large ["_law_web_here", "_law_sides", "_law_ties", "_law_limit"] (sp_l_large ⟨P, w, K⟩ T.A) := by
  have nd := sc_l_large.nd
  refine T.F_l_large.okX sc_l_large (fun vs H Q E h => ?_) (fun cdv A outer s H vs Q E hr h => ?_)
  · exact sp_l_large_len h
  have hu := hu_of hr
  refine ⟨_, (pss_cons (ps_if (pt_not (pt_val (pe_callS (G_l_same 9) (hr.mono (by decide)) (by rfl) T.g_l_same T.F_l_same.kp T.d_l_same (fun σ => passAt (takes_of rfl rfl rfl rfl) σ) (pa_cons (pe_callS G_l_told (hr.mono (by decide)) (by rfl) T.g_l_told T.F_l_told.kp T.d_l_told (fun σ => passAt (takes_of rfl rfl rfl rfl) σ) (pa_cons pe_int (pa_cons (pv 0) (pa_cons pe_int pa_nil)))) (pa_cons (pe_tup (pa_cons pe_str (pa_cons (pv 3) pa_nil))) pa_nil)))))
        (pss_one (ps_ret pe_bl))
        pss_nil)
      (pss_cons (ps_for (passes_of rfl) rfl (pi_range1 (by rfl) T.b_range (pa_cons pe_int pa_nil)) (pg_name (i := 4) nd rfl (Or.inl rfl))
        (pss_cons (ps_set (i := 5) nd rfl (Or.inl rfl) (pe_op op_sub (pe_callB (len_K K) (by rfl) T.b_len (by decide +kernel) (pa_cons (pv 1) pa_nil)) pe_int))
      (pss_cons (ps_if (PW.pt (pw_or (pt_cmpR op_eq (pv 4) pe_int (nomark _)) (pw_or1 (pt_cmpR op_eq (pv 4) pe_int (nomark _)))))
        (pss_one (ps_set (i := 5) nd rfl (Or.inl rfl) (pe_op op_sub (pe_callB (len_K K) (by rfl) T.b_len (by decide +kernel) (pa_cons (pv 2) pa_nil)) pe_int)))
        pss_nil)
      (pss_one (ps_if (pt_not (pt_val (pe_callS (G_l_same 9) (hr.mono (by decide)) (by rfl) T.g_l_same T.F_l_same.kp T.d_l_same (fun σ => passAt (takes_of rfl rfl rfl rfl) σ) (pa_cons (pe_callS G_l_told (hr.mono (by decide)) (by rfl) T.g_l_told T.F_l_told.kp T.d_l_told (fun σ => passAt (takes_of rfl rfl rfl rfl) σ) (pa_cons (pv 4) (pa_cons (pv 0) (pa_cons (pv 5) pa_nil)))) (pa_cons (pe_tup (pa_cons pe_str (pa_cons (pv 3) pa_nil))) pa_nil)))))
        (pss_one (ps_ret pe_bl))
        pss_nil)))))
      (pss_one (ps_ret pe_bl)))), ?_⟩
  try dsimp only [cxOf]
  obtain ⟨web_here, sides, ties, limit, nb, h⟩ := h
  refine Zm.body (js := [0, 1, 2, 3, 4, 5]) (m := l_large_m web_here sides ties limit) nb h ?_
  refine zm_to (Γ2 := [(.val (dWeb T.A) web_here), (.val (dList (d := dInt)) sides), (.val (dList (d := (dT4 (d1 := dInt) (d2 := dInt) (d3 := dInt) (d4 := dInt)))) ties), (.val dInt limit), .no, .no]) rfl ?_
  delta l_large_m
  refine zm_if (te_eq (te_not (te_B (we_call2 hs_l_same rfl (we_o (oe_call3 hs_l_told rfl we_int (we_var rfl) we_int)) (we_U (we_tup2 we_str (we_var rfl)))))) rfl) ?_ ?_
  · exact zm_ret (we_eq we_bl rfl)
  · refine zm_skip ?_
    refine zm_forC [4, 5] (fun (_ : Unit) => [(.val (dWeb T.A) web_here), (.val (dList (d := dInt)) sides), (.val (dList (d := (dT4 (d1 := dInt) (d2 := dInt) (d3 := dInt) (d4 := dInt)))) ties), (.val dInt limit), .no, .no]) (fun r => .val dBool r) () (wlen 6 (by exact rfl) (by exact rfl) (by decide)) rfl (fun _ => (wlen 6 (by exact rfl) (by exact rfl) (by decide))) (ie_eq (ie_range (re_w we_int)) rfl) (fun _ x4 => (a_name rfl ⟨(wlen 6 (by exact rfl) (by exact rfl) (by decide)), ?_⟩)) rt_KF fun _ => ?_
    · refine zm_set (i := 5) rfl (by decide) (we_eq (we_sub (re_w (we_len (re_w (we_var rfl)))) (re_w we_int)) rfl) fun number_5 => ?_
      refine zm_join [] (fun s7 => [(.val (dWeb T.A) web_here), (.val (dList (d := dInt)) sides), (.val (dList (d := (dT4 (d1 := dInt) (d2 := dInt) (d3 := dInt) (d4 := dInt)))) ties), (.val dInt limit), (.val dInt x4), (.val dInt s7)]) (fun _ => (wlen 6 (by exact rfl) (by exact rfl) (by decide))) ?_ fun s7 => ?_
      · refine zm_last (zm_ifP (te_eq (te_orP (te_test (we_eqS (re_w (we_var rfl)) (re_w we_int))) (te_test (we_eqS (re_w (we_var rfl)) (re_w we_int)))) rfl) ?_ ?_)
        · refine zm_set (i := 5) rfl (by decide) (we_eq (we_sub (re_w (we_len (re_w (we_var rfl)))) (re_w we_int)) rfl) fun number_6 => ?_
          exact zm_nextJ rfl
        · refine zm_skip ?_
          exact zm_nextJ rfl
      · refine zm_last ?_
        refine zm_if (te_eq (te_not (te_B (we_call2 hs_l_same rfl (we_o (oe_call3 hs_l_told rfl (we_var rfl) (we_var rfl) (we_var rfl))) (we_U (we_tup2 we_str (we_var rfl)))))) rfl) ?_ ?_
        · exact zm_retC (we_eq we_bl rfl)
        · refine zm_skip ?_
          exact zm_nextC rfl
    · refine zm_last ?_
      exact zm_ret (we_eq we_bl rfl)
end K41

namespace K41
open PySem L2 G PM
set_option maxHeartbeats 4000000 in
theorem ok_l_point {P : Program} {w : World} {K : PySem.W.Frag} {mg : Str → Option Value} {base : Heap} (T : Txt K mg) : FnOk P w K mg base (L2.CX P w) 1 T.a_l_point T.f_l_point ["_law_sides", "_law_firsts_here", "_law_place", "_law_side"] (sp_l_point ⟨P, w, K⟩ T.A) := by
  have nd := sc_l_point.nd
  refine T.F_l_point.okX sc_l_point (fun vs H Q E h => ?_) (fun cdv A outer s H vs Q E hr h => ?_)
  · exact sp_l_point_len h
  have hu := hu_of hr
  refine ⟨_, (pss_cons (ps_if (pt_cmpR op_gt (pe_ix (ix_lK K) (pv 0) (pv 2) (fun _ _ => rfl)) pe_int (nomark _))
        (pss_one (ps_ret (pe_op op_mul pe_int (pe_op op_add (pe_ix (ix_lK K) (pv 1) (pv 2) (fun _ _ => rfl)) (pv 3)))))
        pss_nil)
      (pss_one (ps_ret (pe_op op_add (pe_op op_mul pe_int (pe_ix (ix_lK K) (pv 1) (pv 2) (fun _ _ => rfl))) (pv 3))))), ?_⟩
  try dsimp only [cxOf]
  obtain ⟨sides, firsts_here, place, side, nb, h⟩ := h
  refine Zm.body (js := [0, 1, 2, 3]) (m := l_point_m sides firsts_here place side) nb h ?_
  refine zm_to (Γ2 := [(.val (dList (d := dInt)) sides), (.val (dList (d := dInt)) firsts_here), (.val dInt place), (.val dInt side)]) rfl ?_
  delta l_point_m
  refine zm_if (te_eq (te_test (we_gt (re_w (we_ix (we_var rfl) (re_w (we_var rfl)))) (re_w we_int))) rfl) ?_ ?_
  · exact zm_ret (we_eq (we_mulCl (re_w we_int) (re_w (we_add (re_w (we_ix (we_var rfl) (re_w (we_var rfl)))) (re_w (we_var rfl))))) rfl)
  · refine zm_skip ?_
    refine zm_last ?_
    exact zm_ret (we_eq (we_add (re_w (we_mulCl (re_w we_int) (re_w (we_ix (we_var rfl) (re_w (we_var rfl)))))) (re_w (we_var rfl))) rfl)
end K41

namespace K41
open PySem L2 G PM
set_option maxHeartbeats 4000000 in
theorem ok_l_free {P : Program} {w : World} {K : PySem.W.Frag} {mg : Str → Option Value} {base : Heap} (T : Txt K mg) (G_l_firsts : FnOk P w K mg base (L2.CX P w) 1 T.a_l_firsts T.f_l_firsts ["_law_sides"] (sp_l_firsts ⟨P, w, K⟩ T.A)) (G_l_point : FnOk P w K mg base (L2.CX P w) 1 T.a_l_point T.f_l_point ["_law_sides", "_law_firsts_here", "_law_place", "_law_side"] (sp_l_point ⟨P, w, K⟩ T.A)) : FnOk P w K mg base (L2.CX P w) 2 T.a_l_free T.f_l_free ["_law_sides", "_law_ties"] (sp_l_free ⟨P, w, K⟩ T.A) := by
  have nd := sc_l_free.nd
  refine T.F_l_free.okX sc_l_free (fun vs H Q E h => ?_) (fun cdv A outer s H vs Q E hr h => ?_)
  · exact sp_l_free_len h
  have hu := hu_of hr
  refine ⟨_, (pss_cons (ps_set (i := 2) nd rfl (Or.inl rfl) (pe_ix (ix_tK K) (pe_callS G_l_firsts (hr.mono (by decide)) (by rfl) T.g_l_firsts T.F_l_firsts.kp T.d_l_firsts (fun σ => passAt (takes_of rfl rfl rfl rfl) σ) (pa_cons (pv 0) pa_nil)) pe_int (fun _ _ => rfl)))
      (pss_cons (ps_set (i := 3) nd rfl (Or.inl rfl) (pe_lst pa_nil))
      (pss_cons (ps_for (passes_of rfl) rfl (pi_lK K (pv 1)) (pg_tupK (n := 4) K (by rfl) (pgs_cons (pg_name (i := 4) nd rfl (Or.inl rfl)) (pgs_cons (pg_name (i := 5) nd rfl (Or.inl rfl)) (pgs_cons (pg_name (i := 6) nd rfl (Or.inl rfl)) (pgs_cons (pg_name (i := 7) nd rfl (Or.inl rfl)) pgs_nil)))))
        (pss_one (ps_expr (bm_K K PySem.F.plainAttrs_list PySem.F.slot_list_append PySem.F.type_list_append mt_append (pv 3) (pa_cons (pe_tup (pa_cons (pe_callS G_l_point (hr.mono (by decide)) (by rfl) T.g_l_point T.F_l_point.kp T.d_l_point (fun σ => passAt (takes_of rfl rfl rfl rfl) σ) (pa_cons (pv 0) (pa_cons (pv 2) (pa_cons (pv 4) (pa_cons (pv 5) pa_nil))))) (pa_cons (pe_callS G_l_point (hr.mono (by decide)) (by rfl) T.g_l_point T.F_l_point.kp T.d_l_point (fun σ => passAt (takes_of rfl rfl rfl rfl) σ) (pa_cons (pv 0) (pa_cons (pv 2) (pa_cons (pv 6) (pa_cons (pv 7) pa_nil))))) pa_nil))) pa_nil)))))
      (pss_cons (ps_for (passes_of rfl) rfl (pi_range1 (by rfl) T.b_range (pa_cons (pe_callB (len_K K) (by rfl) T.b_len (by decide +kernel) (pa_cons (pv 0) pa_nil)) pa_nil)) (pg_name (i := 8) nd rfl (Or.inl rfl))
        (pss_one (ps_if (pt_cmpR op_gt (pe_ix (ix_lK K) (pv 0) (pv 8) (fun _ _ => rfl)) pe_int (nomark _))
        (pss_cons (ps_set (i := 9) nd rfl (Or.inl rfl) (pe_op op_mul pe_int (pe_op op_add (pe_ix (ix_lK K) (pv 2) (pv 8) (fun _ _ => rfl)) (pe_ix (ix_lK K) (pv 0) (pv 8) (fun _ _ => rfl)))))
      (pss_one (ps_for (passes_of rfl) rfl (pi_range1 (by rfl) T.b_range (pa_cons (pe_ix (ix_lK K) (pv 0) (pv 8) (fun _ _ => rfl)) pa_nil)) (pg_name (i := 5) nd rfl (Or.inl rfl))
        (pss_cons (ps_set (i := 10) nd rfl (Or.inl rfl) (pe_op op_add (pe_callS G_l_point (hr.mono (by decide)) (by rfl) T.g_l_point T.F_l_point.kp T.d_l_point (fun σ => passAt (takes_of rfl rfl rfl rfl) σ) (pa_cons (pv 0) (pa_cons (pv 2) (pa_cons (pv 8) (pa_cons (pv 5) pa_nil))))) pe_int))
      (pss_cons (ps_expr (bm_K K PySem.F.plainAttrs_list PySem.F.slot_list_append PySem.F.type_list_append mt_append (pv 3) (pa_cons (pe_tup (pa_cons (pv 10) (pa_cons (pv 9) pa_nil))) pa_nil)))
      (pss_one (ps_expr (bm_K K PySem.F.plainAttrs_list PySem.F.slot_list_append PySem.F.type_list_append mt_append (pv 3) (pa_cons (pe_tup (pa_cons (pv 10) (pa_cons (pe_op op_add (pv 9) pe_int) pa_nil))) pa_nil)))))))))
        pss_nil)))
      (pss_one (ps_ret (pv 3))))))), ?_⟩
  try dsimp only [cxOf]
  obtain ⟨sides, ties, nb, h⟩ := h
  refine Zm.body (js := [0, 1, 2, 3, 4, 5, 6, 7, 8, 9, 10]) (m := l_free_m sides ties) nb h ?_
  refine zm_to (Γ2 := [(.val (dList (d := dInt)) sides), (.val (dList (d := (dT4 (d1 := dInt) (d2 := dInt) (d3 := dInt) (d4 := dInt)))) ties), .no, .no, .no, .no, .no, .no, .no, .no, .no]) rfl ?_
  delta l_free_m
  refine zm_set (i := 2) rfl (by decide) (we_eq (we_fst (we_o (oe_call1 hs_l_firsts rfl (we_var rfl)))) rfl) fun firsts_here_2 => ?_
  refine zm_setO (i := 3) rfl (by decide) (oe_eq (oe_lst0 (d := (dPair (d1 := dInt) (d2 := dInt)))) rfl) fun free_here_3 => ?_
  refine zm_for [4, 5, 6, 7] (fun s4 => [(.val (dList (d := dInt)) sides), (.val (dList (d := (dT4 (d1 := dInt) (d2 := dInt) (d3 := dInt) (d4 := dInt)))) ties), (.val (dList (d := dInt)) firsts_here_2), (.own (dList (d := (dPair (d1 := dInt) (d2 := dInt)))) (oList (d := (dPair (d1 := dInt) (d2 := dInt)))) none s4), .no, .no, .no, .no, .no, .no, .no]) free_here_3 (wlen 11 (by exact rfl) (by exact rfl) (by decide)) rfl (fun _ => (wlen 11 (by exact rfl) (by exact rfl) (by decide))) (ie_eq (ie_list (we_var rfl)) rfl) (fun s4 x5 => (a_T4 rfl (a_name rfl (a_name rfl (a_name rfl (a_name rfl ⟨(wlen 11 (by exact rfl) (by exact rfl) (by decide)), ?_⟩)))))) fun s9 => ?_
  · refine zm_last ?_
    refine zm_append (i := 3) rfl (by decide) (we_eq (we_tup2 (we_call4 hs_l_point rfl (we_var rfl) (we_var rfl) (we_var rfl) (we_var rfl)) (we_call4 hs_l_point rfl (we_var rfl) (we_var rfl) (we_var rfl) (we_var rfl))) rfl) fun free_here_8 => ?_
    exact zm_nextL rfl
  · refine zm_for [5, 8, 9, 10] (fun s10 => [(.val (dList (d := dInt)) sides), (.val (dList (d := (dT4 (d1 := dInt) (d2 := dInt) (d3 := dInt) (d4 := dInt)))) ties), (.val (dList (d := dInt)) firsts_here_2), (.own (dList (d := (dPair (d1 := dInt) (d2 := dInt)))) (oList (d := (dPair (d1 := dInt) (d2 := dInt)))) none s10), .no, .no, .no, .no, .no, .no, .no]) s9 (wlen 11 (by exact rfl) (by exact rfl) (by decide)) rfl (fun _ => (wlen 11 (by exact rfl) (by exact rfl) (by decide))) (ie_eq (ie_range (re_w (we_len (re_w (we_var rfl))))) rfl) (fun s10 x11 => (a_name rfl ⟨(wlen 11 (by exact rfl) (by exact rfl) (by decide)), ?_⟩)) fun s27 => ?_
    · refine zm_last ?_
      refine zm_if (te_eq (te_test (we_gt (re_w (we_ix (we_var rfl) (re_w (we_var rfl)))) (re_w we_int))) rfl) ?_ ?_
      · refine zm_assoc ?_
        refine zm_set (i := 9) rfl (by decide) (we_eq (we_mulCl (re_w we_int) (re_w (we_add (re_w (we_ix (we_var rfl) (re_w (we_var rfl)))) (re_w (we_ix (we_var rfl) (re_w (we_var rfl))))))) rfl) fun middle_16 => ?_
        refine zm_for [5, 10] (fun s17 => [(.val (dList (d := dInt)) sides), (.val (dList (d := (dT4 (d1 := dInt) (d2 := dInt) (d3 := dInt) (d4 := dInt)))) ties), (.val (dList (d := dInt)) firsts_here_2), (.own (dList (d := (dPair (d1 := dInt) (d2 := dInt)))) (oList (d := (dPair (d1 := dInt) (d2 := dInt)))) none s17), .no, .no, .no, .no, (.val dInt x11), (.val dInt middle_16), .no]) s10 (wlen 11 (by exact rfl) (by exact rfl) (by decide)) rfl (fun _ => (wlen 11 (by exact rfl) (by exact rfl) (by decide))) (ie_eq (ie_range (re_w (we_ix (we_var rfl) (re_w (we_var rfl))))) rfl) (fun s17 x19 => (a_name rfl ⟨(wlen 11 (by exact rfl) (by exact rfl) (by decide)), ?_⟩)) fun s24 => ?_
        · refine zm_set (i := 10) rfl (by decide) (we_eq (we_add (re_w (we_call4 hs_l_point rfl (we_var rfl) (we_var rfl) (we_var rfl) (we_var rfl))) (re_w we_int)) rfl) fun inner_21 => ?_
          refine zm_append (i := 3) rfl (by decide) (we_eq (we_tup2 (we_var rfl) (we_var rfl)) rfl) fun free_here_22 => ?_
          refine zm_last ?_
          refine zm_append (i := 3) rfl (by decide) (we_eq (we_tup2 (we_var rfl) (we_add (re_w (we_var rfl)) (re_w we_int))) rfl) fun free_here_23 => ?_
          exact zm_nextL rfl
        · exact zm_nextL rfl
      · refine zm_skip ?_
        exact zm_nextL rfl
    · refine zm_last ?_
      exact zm_retV rfl
end K41

namespace K41
open PySem L2 G PM
set_option maxHeartbeats 4000000 in
theorem ok_l_due {P : Program} {w : World} {K : PySem.W.Frag} {mg : Str → Option Value} {base : Heap} (T : Txt K mg) (G_l_firsts : FnOk P w K mg base (L2.CX P w) 1 T.a_l_firsts T.f_l_firsts ["_law_sides"] (sp_l_firsts ⟨P, w, K⟩ T.A)) (G_l_free : FnOk P w K mg base (L2.CX P w) 2 T.a_l_free T.f_l_free ["_law_sides", "_law_ties"] (sp_l_free ⟨P, w, K⟩ T.A)) : FnOk P w K mg base (L2.CX P w) 3 T.a_l_due T.f_l_due ["_law_deed", "_law_sides", "_law_ties", "_law_number"] (sp_l_due ⟨P, w, K⟩ T.A) := by
  have nd := sc_l_due.nd
  refine T.F_l_due.okX sc_l_due (fun vs H Q E h => ?_) (fun cdv A outer s H vs Q E hr h => ?_)
  · exact sp_l_due_len h
  have hu := hu_of hr
  refine ⟨_, (pss_cons (ps_asg (pe_callS G_l_firsts (hr.mono (by decide)) (by rfl) T.g_l_firsts T.F_l_firsts.kp T.d_l_firsts (fun σ => passAt (takes_of rfl rfl rfl rfl) σ) (pa_cons (pv 1) pa_nil)) (pg_tupK (n := 2) K (by rfl) (pgs_cons (pg_name (i := 4) nd rfl (Or.inl rfl)) (pgs_cons (pg_name (i := 5) nd rfl (Or.inl rfl)) pgs_nil))))
      (pss_cons (ps_set (i := 6) nd rfl (Or.inr rfl) (pe_callS G_l_free (hr.mono (by decide)) (by rfl) T.g_l_free T.F_l_free.kp T.d_l_free (fun σ => passAt (takes_of rfl rfl rfl rfl) σ) (pa_cons (pv 1) (pa_cons (pv 2) pa_nil))))
      (pss_cons (ps_if (pt_cmpR op_eq (pv 0) pe_int (nomark _))
        (pss_cons (ps_setLc (i := 7) (own := [("_law_point_here", 11)]) (by rfl) nd rfl rfl (sw_true rfl rfl rfl (by decide +kernel)) (pi_range1 (by rfl) T.b_range (pa_cons (pe_op op_mul pe_int (pv 5)) pa_nil)) (blkOk_by (own := [("_law_point_here", 11)]) (N := N_l_due) (sc := defScope s_l_due) (by decide +kernel)) (fun _ _ _ _ _ => (pg_name (i := 11) nd rfl (Or.inl rfl))) (fun _ _ _ _ _ => (pts_one (pt_cmpR (op_niK K) (pv 11) (pe_ix (ix_lK K) (pv 6) (pv 3) (fun _ _ => rfl)) (by with_unfolding_all rfl)))) (fun _ _ _ _ _ => (pv 11)))
      (pss_one (ps_ret (pe_tup (pa_cons pe_str (pa_cons (pe_tup (pa_cons (pv 7) (pa_cons (pe_op op_catR (pe_lc (own := [("_law_pair", 10)]) (by rfl) nd (pi_range1 (by rfl) T.b_range (pa_cons (pv 5) pa_nil)) (blkOk_by (own := [("_law_pair", 10)]) (N := N_l_due) (sc := defScope s_l_due) (by decide +kernel)) (fun _ _ _ _ _ => (pg_name (i := 10) nd rfl (Or.inl rfl))) (fun _ _ _ _ _ => pts_nil) (fun _ _ _ _ _ => (pe_tup (pa_cons (pe_op op_mul pe_int (pv 10)) (pa_cons (pe_op op_add (pe_op op_mul pe_int (pv 10)) pe_int) pa_nil))))) (pv 6)) pa_nil))) pa_nil))))))
        pss_nil)
      (pss_cons (ps_set (i := 8) nd rfl (Or.inr rfl) (pe_ix (ix_lK K) (pv 4) (pv 3) (fun _ _ => rfl)))
      (pss_cons (ps_if (pt_cmpR op_gt (pe_ix (ix_lK K) (pv 1) (pv 3) (fun _ _ => rfl)) pe_int (nomark _))
        (pss_one (ps_set (i := 8) nd rfl (Or.inr rfl) (pe_op op_add (pv 8) (pe_ix (ix_lK K) (pv 1) (pv 3) (fun _ _ => rfl)))))
        pss_nil)
      (pss_cons (ps_setLc (i := 9) (own := [("_law_pair", 10)]) (by rfl) nd rfl rfl (sw_true rfl rfl rfl (by decide +kernel)) (pi_range1 (by rfl) T.b_range (pa_cons (pv 5) pa_nil)) (blkOk_by (own := [("_law_pair", 10)]) (N := N_l_due) (sc := defScope s_l_due) (by decide +kernel)) (fun _ _ _ _ _ => (pg_name (i := 10) nd rfl (Or.inl rfl))) (fun _ _ _ _ _ => (pts_one (pt_cmpR op_ne (pv 10) (pv 8) (nomark _)))) (fun _ _ _ _ _ => (pe_tup (pa_cons (pe_op op_mul pe_int (pv 10)) (pa_cons (pe_op op_add (pe_op op_mul pe_int (pv 10)) pe_int) pa_nil)))))
      (pss_one (ps_ret (pe_tup (pa_cons pe_str (pa_cons (pe_tup (pa_cons (pe_listRg rfl (by rfl) T.b_list (prg_1 (by rfl) T.b_range (pe_op op_mul pe_int (pv 5)))) (pa_cons (pe_op op_catR (pv 9) (pv 6)) pa_nil))) pa_nil))))))))))), ?_⟩
  try dsimp only [cxOf]
  obtain ⟨deed, sides, ties, number, nb, h⟩ := h
  refine Zm.body (js := [0, 1, 2, 3, 4, 5, 6, 7, 8, 9, 10, 11]) (m := l_due_m deed sides ties number) nb h ?_
  refine zm_to (Γ2 := [(.val dInt deed), (.val (dList (d := dInt)) sides), (.val (dList (d := (dT4 (d1 := dInt) (d2 := dInt) (d3 := dInt) (d4 := dInt)))) ties), (.val dInt number), .no, .no, .no, .no, .no, .no, .no, .no]) rfl ?_
  delta l_due_m
  refine zm_setG (we_eq (we_o (oe_call1 hs_l_firsts rfl (we_var rfl))) rfl) fun t1 => (a_pair rfl (a_name rfl (a_name rfl ⟨(wlen 12 (by exact rfl) (by exact rfl) (by decide)), ?_⟩)))
  refine zm_set (i := 6) rfl (by decide) (we_eq (we_o (oe_call2 hs_l_free rfl (we_var rfl) (we_var rfl))) rfl) fun free_here_2 => ?_
  refine zm_ifP (te_eq (te_test (we_eqS (re_w (we_var rfl)) (re_w we_int))) rfl) ?_ ?_
  · refine zm_assoc ?_
    refine zm_set (i := 7) rfl (by decide) (we_eq (we_o (oe_lc (tg_name' (by decide)) (ic_range (re_w (we_mulCl (re_w we_int) (re_w (we_var rfl))))) fun x3 => (a_name rfl ⟨(te_test (we_notinP2 (re_w (we_var rfl)) (we_ix (we_var rfl) (re_w (we_var rfl))))), (we_var rfl)⟩))) rfl) fun points_5 => ?_
    exact zm_ret (we_eq (we_tup2 we_str (we_tup2 (we_var rfl) (we_o (oe_cat (we_o (oe_lc (tg_name' (by decide)) (ic_range (re_w (we_var rfl))) fun x6 => (a_name rfl ⟨te_yes, (we_tup2 (we_mulCl (re_w we_int) (re_w (we_var rfl))) (we_add (re_w (we_mulCl (re_w we_int) (re_w (we_var rfl)))) (re_w we_int)))⟩))) (we_var rfl))))) rfl)
  · refine zm_skip ?_
    refine zm_set (i := 8) rfl (by decide) (we_eq (we_ix (we_var rfl) (re_w (we_var rfl))) rfl) fun left_out_10 => ?_
    refine zm_join [] (fun s14 => [(.val dInt deed), (.val (dList (d := dInt)) sides), (.val (dList (d := (dT4 (d1 := dInt) (d2 := dInt) (d3 := dInt) (d4 := dInt)))) ties), (.val dInt number), (.val (dList (d := dInt)) t1.1), (.val dInt t1.2), (.val (dList (d := (dPair (d1 := dInt) (d2 := dInt)))) free_here_2), .no, (.val dInt s14), .no, .no, .no]) (fun _ => (wlen 12 (by exact rfl) (by exact rfl) (by decide))) ?_ fun s14 => ?_
    · refine zm_last (zm_if (te_eq (te_test (we_gt (re_w (we_ix (we_var rfl) (re_w (we_var rfl)))) (re_w we_int))) rfl) ?_ ?_)
      · refine zm_set (i := 8) rfl (by decide) (we_eq (we_add (re_w (we_var rfl)) (re_w (we_ix (we_var rfl) (re_w (we_var rfl))))) rfl) fun left_out_13 => ?_
        exact zm_nextJ rfl
      · refine zm_skip ?_
        exact zm_nextJ rfl
    · refine zm_set (i := 9) rfl (by decide) (we_eq (we_o (oe_lc (tg_name' (by decide)) (ic_range (re_w (we_var rfl))) fun x15 => (a_name rfl ⟨(te_test (we_neS (re_w (we_var rfl)) (re_w (we_var rfl)))), (we_tup2 (we_mulCl (re_w we_int) (re_w (we_var rfl))) (we_add (re_w (we_mulCl (re_w we_int) (re_w (we_var rfl)))) (re_w we_int)))⟩))) rfl) fun pairs_16 => ?_
      refine zm_last ?_
      exact zm_ret (we_eq (we_tup2 we_str (we_tup2 (we_o (oe_listRg1 (re_w (we_mulCl (re_w we_int) (re_w (we_var rfl)))))) (we_o (oe_cat (we_var rfl) (we_var rfl))))) rfl)
end K41

namespace K41
open PySem L2 G PM
set_option maxHeartbeats 4000000 in
theorem ok_l_graphs_right {P : Program} {w : World} {K : PySem.W.Frag} {mg : Str → Option Value} {base : Heap} (T : Txt K mg) (G_l_told : FnOk P w K mg base (L2.CX P w) 7 T.a_l_told T.f_l_told ["_law_deed", "_law_web_here", "_law_number"] (sp_l_told ⟨P, w, K⟩ T.A)) (G_l_due : FnOk P w K mg base (L2.CX P w) 3 T.a_l_due T.f_l_due ["_law_deed", "_law_sides", "_law_ties", "_law_number"] (sp_l_due ⟨P, w, K⟩ T.A)) (G_l_same : ∀ n : Nat, FnOk P w K mg base (L2.CX P w) (n + 1) T.a_l_same T.f_l_same ["_law_told_here", "_law_due_here"] (sp_l_same n ⟨P, w, K⟩ T.A)) : FnOk P w K mg base (L2.CX P w) 11 T.a_l_graphs_right T.f_l_graphs_right ["_law_web_here", "_law_sides", "_law_ties"] (sp_l_graphs_right ⟨P, w, K⟩ T.A) := by
  have nd := sc_l_graphs_right.nd
  refine T.F_l_graphs_right.okX sc_l_graphs_right (fun vs H Q E h => ?_) (fun cdv A outer s H vs Q E hr h => ?_)
  · exact sp_l_graphs_right_len h
  have hu := hu_of hr
  refine ⟨_, (pss_cons (ps_for (passes_of rfl) rfl (pi_range1 (by rfl) T.b_range (pa_cons pe_int pa_nil)) (pg_name (i := 3) nd rfl (Or.inl rfl))
        (pss_cons (ps_set (i := 4) nd rfl (Or.inl rfl) (pe_ix (ix_lK K) (pe_lst (pa_cons (pe_callB (len_K K) (by rfl) T.b_len (by decide +kernel) (pa_cons (pv 1) pa_nil)) (pa_cons (pe_callB (len_K K) (by rfl) T.b_len (by decide +kernel) (pa_cons (pv 2) pa_nil)) pa_nil))) (pv 3) (fun _ _ => rfl)))
      (pss_cons (ps_set (i := 5) nd rfl (Or.inl rfl) (pv 4))
      (pss_cons (ps_if (pt_cmpR op_gt (pv 4) pe_int (nomark _))
        (pss_one (ps_set (i := 5) nd rfl (Or.inl rfl) pe_int))
        pss_nil)
      (pss_one (ps_for (passes_of rfl) rfl (pi_range1 (by rfl) T.b_range (pa_cons (pv 5) pa_nil)) (pg_name (i := 6) nd rfl (Or.inl rfl))
        (pss_cons (ps_set (i := 7) nd rfl (Or.inl rfl) (pe_op op_fdiv (pe_op op_mul (pe_op op_sub (pv 4) pe_int) (pv 6)) (pe_callB (call_max2 rfl) (by rfl) T.b_max (by decide +kernel) (pa_cons pe_int (pa_cons (pe_op op_sub (pv 5) pe_int) pa_nil)))))
      (pss_cons (ps_set (i := 8) nd rfl (Or.inl rfl) (pe_callS G_l_told (hr.mono (by decide)) (by rfl) T.g_l_told T.F_l_told.kp T.d_l_told (fun σ => passAt (takes_of rfl rfl rfl rfl) σ) (pa_cons (pv 3) (pa_cons (pv 0) (pa_cons (pv 7) pa_nil)))))
      (pss_cons (ps_set (i := 9) nd rfl (Or.inl rfl) (pe_callS G_l_due (hr.mono (by decide)) (by rfl) T.g_l_due T.F_l_due.kp T.d_l_due (fun σ => passAt (takes_of rfl rfl rfl rfl) σ) (pa_cons (pv 3) (pa_cons (pv 1) (pa_cons (pv 2) (pa_cons (pv 7) pa_nil))))))
      (pss_cons (ps_if (pt_not (pt_val (pe_callS (G_l_same 9) (hr.mono (by decide)) (by rfl) T.g_l_same T.F_l_same.kp T.d_l_same (fun σ => passFS σ) (pa_cons (pv 8) (pa_cons (pv 9) pa_nil)))))
        (pss_one (ps_ret pe_bl))
        pss_nil)
      (pss_cons (ps_asg (pe_ix (ix_tK K) (pv 8) pe_int (fun _ _ => rfl)) (pg_tupK (n := 2) K (by rfl) (pgs_cons (pg_name (i := 10) nd rfl (Or.inl rfl)) (pgs_cons (pg_name (i := 11) nd rfl (Or.inl rfl)) pgs_nil))))
      (pss_cons (ps_expr (bm_K K PySem.F.plainAttrs_list PySem.F.slot_list_append PySem.F.type_list_append mt_append (pv 10) (pa_cons (pe_un un_neg pe_int) pa_nil)))
      (pss_cons (ps_expr (bm_K K PySem.F.plainAttrs_list PySem.F.slot_list_append PySem.F.type_list_append mt_append (pv 11) (pa_cons (pe_tup (pa_cons (pe_un un_neg pe_int) (pa_cons (pe_un un_neg pe_int) pa_nil))) pa_nil)))
      (pss_one (ps_if (PW.pt (pw_and (pt_cmpR op_lt (pv 6) pe_int (nomark _)) (pw_and1 (pt_not (pt_val (pe_callS (G_l_same 9) (hr.mono (by decide)) (by rfl) T.g_l_same T.F_l_same.kp T.d_l_same (fun σ => passAt (takes_of rfl rfl rfl rfl) σ) (pa_cons (pe_callS G_l_told (hr.mono (by decide)) (by rfl) T.g_l_told T.F_l_told.kp T.d_l_told (fun σ => passAt (takes_of rfl rfl rfl rfl) σ) (pa_cons (pv 3) (pa_cons (pv 0) (pa_cons (pv 7) pa_nil)))) (pa_cons (pv 9) pa_nil))))))))
        (pss_one (ps_ret pe_bl))
        pss_nil)))))))))))))))
      (pss_one (ps_ret pe_bl))), ?_⟩
  try dsimp only [cxOf]
  obtain ⟨web_here, sides, ties, nb, h⟩ := h
  refine Zm.body (js := [0, 1, 2, 3, 4, 5, 6, 7, 8, 9, 10, 11]) (m := l_graphs_right_m web_here sides ties) nb h ?_
  refine zm_to (Γ2 := [(.val (dWeb T.A) web_here), (.val (dList (d := dInt)) sides), (.val (dList (d := (dT4 (d1 := dInt) (d2 := dInt) (d3 := dInt) (d4 := dInt)))) ties), .no, .no, .no, .no, .no, .no, .no, .no, .no]) rfl ?_
  delta l_graphs_right_m
  refine zm_forC [3, 4, 5, 6, 7, 8, 9, 10, 11] (fun (_ : Unit) => [(.val (dWeb T.A) web_here), (.val (dList (d := dInt)) sides), (.val (dList (d := (dT4 (d1 := dInt) (d2 := dInt) (d3 := dInt) (d4 := dInt)))) ties), .no, .no, .no, .no, .no, .no, .no, .no, .no]) (fun r => .val dBool r) () (wlen 12 (by exact rfl) (by exact rfl) (by decide)) rfl (fun _ => (wlen 12 (by exact rfl) (by exact rfl) (by decide))) (ie_eq (ie_range (re_w we_int)) rfl) (fun _ x2 => (a_name rfl ⟨(wlen 12 (by exact rfl) (by exact rfl) (by decide)), ?_⟩)) rt_KF fun _ => ?_
  · refine zm_set (i := 4) rfl (by decide) (we_eq (we_ix (we_o (oe_lstN (wle_cons (we_len (re_w (we_var rfl))) (wle_cons (we_len (re_w (we_var rfl))) wle_nil)) (asLenS (asLenS asLen0)) (by decide))) (re_w (we_var rfl))) rfl) fun size_3 => ?_
    refine zm_set (i := 5) rfl (by decide) (we_eq (we_var rfl) rfl) fun count_4 => ?_
    refine zm_join [] (fun s6 => [(.val (dWeb T.A) web_here), (.val (dList (d := dInt)) sides), (.val (dList (d := (dT4 (d1 := dInt) (d2 := dInt) (d3 := dInt) (d4 := dInt)))) ties), (.val dInt x2), (.val dInt size_3), (.val dInt s6), .no, .no, .no, .no, .no, .no]) (fun _ => (wlen 12 (by exact rfl) (by exact rfl) (by decide))) ?_ fun s6 => ?_
    · refine zm_last (zm_ifP (te_eq (te_test (we_gt (re_w (we_var rfl)) (re_w we_int))) rfl) ?_ ?_)
      · refine zm_set (i := 5) rfl (by decide) (we_eq we_int rfl) fun count_5 => ?_
        exact zm_nextJ rfl
      · refine zm_skip ?_
        exact zm_nextJ rfl
    · refine zm_last ?_
      refine zm_forC [6, 7, 8, 9, 10, 11] (fun (_ : Unit) => [(.val (dWeb T.A) web_here), (.val (dList (d := dInt)) sides), (.val (dList (d := (dT4 (d1 := dInt) (d2 := dInt) (d3 := dInt) (d4 := dInt)))) ties), (.val dInt x2), (.val dInt size_3), (.val dInt s6), .no, .no, .no, .no, .no, .no]) (fun r => .val dBool r) () (wlen 12 (by exact rfl) (by exact rfl) (by decide)) rfl (fun _ => (wlen 12 (by exact rfl) (by exact rfl) (by decide))) (ie_eq (ie_range (re_w (we_var rfl))) rfl) (fun _ x8 => (a_name rfl ⟨(wlen 12 (by exact rfl) (by exact rfl) (by decide)), ?_⟩)) rt_KC fun _ => ?_
      · refine zm_set (i := 7) rfl (by decide) (we_eq (we_fdiv (re_w (we_mul (re_w (we_sub (re_w (we_var rfl)) (re_w we_int))) (re_w (we_var rfl)))) (re_w (we_max2 (re_w we_int) (re_w (we_sub (re_w (we_var rfl)) (re_w we_int)))))) rfl) fun number_10 => ?_
        refine zm_setO (i := 8) rfl (by decide) (oe_eq (oe_call3 hs_l_told rfl (we_var rfl) (we_var rfl) (we_var rfl)) rfl) fun told_here_11 => ?_
        refine zm_set (i := 9) rfl (by decide) (we_eq (we_call4 hs_l_due rfl (we_var rfl) (we_var rfl) (we_var rfl) (we_var rfl)) rfl) fun due_here_12 => ?_
        refine zm_if (te_eq (te_not (te_B (we_borrow 8 rfl (we_call2 hs_l_same rfl (we_var rfl) (we_U (we_var rfl)))))) rfl) ?_ ?_
        · exact zm_retC (we_eq we_bl rfl)
        · refine zm_skip ?_
          refine zm_takeU2 (i := 8) (j1 := 10) (j2 := 11) rfl rfl rfl rfl rfl rfl rfl (by decide) (by decide) (by decide) (re_eq (re_w we_int) rfl) fun p14 => ?_
          refine zm_appUU (i := 10) rfl (by decide) (we_eq (we_UI (we_neg (re_w we_int))) rfl) fun points_15 => ?_
          refine zm_appUU (i := 11) rfl (by decide) (we_eq (we_tupV2 (we_UI (we_neg (re_w we_int))) (we_UI (we_neg (re_w we_int)))) rfl) fun rest_16 => ?_
          refine zm_last ?_
          refine zm_if (te_eq (te_and (te_test (we_lt (re_w (we_var rfl)) (re_w we_int))) (te_not (te_B (we_call2 hs_l_same rfl (we_o (oe_call3 hs_l_told rfl (we_var rfl) (we_var rfl) (we_var rfl))) (we_U (we_var rfl)))))) rfl) ?_ ?_
          · exact zm_retC (we_eq we_bl rfl)
          · refine zm_skip ?_
            exact zm_nextC rfl
      · exact zm_nextC rfl
  · refine zm_last ?_
    exact zm_ret (we_eq we_bl rfl)
end K41

namespace K41
open PySem L2 G PM
set_option maxHeartbeats 4000000 in
theorem ok_law {P : Program} {w : World} {K : PySem.W.Frag} {mg : Str → Option Value} {base : Heap} (T : Txt K mg) (G_l_seed : FnOk P w K mg base (L2.CX P w) 1 T.a_l_seed T.f_l_seed ["_law_script", "_law_k"] (sp_l_seed ⟨P, w, K⟩ T.A)) (G_l_draws : FnOk P w K mg base (L2.CX P w) 1 T.a_l_draws T.f_l_draws ["_law_cell", "_law_many"] (sp_l_draws ⟨P, w, K⟩ T.A)) (G_l_world : FnOk P w K mg base (L2.CX P w) 3 T.a_l_world T.f_l_world ["_law_draws_here", "_law_extra"] (sp_l_world ⟨P, w, K⟩ T.A)) (G_m_WebX_initX : FnOk P w K mg base (L2.CX P w) 4 T.a_m_WebX_initX T.f_m_WebX_initX ["self", "sides", "ties"] (sp_m_WebX_initX ⟨P, w, K⟩ T.A)) (G_l_firsts : FnOk P w K mg base (L2.CX P w) 1 T.a_l_firsts T.f_l_firsts ["_law_sides"] (sp_l_firsts ⟨P, w, K⟩ T.A)) (G_l_refused : FnOk P w K mg base (L2.CX P w) 11 T.a_l_refused T.f_l_refused ["_law_web_here", "_law_sides", "_law_ties", "_law_draws_here", "_law_at"] (sp_l_refused ⟨P, w, K⟩ T.A)) (G_l_large : FnOk P w K mg base (L2.CX P w) 11 T.a_l_large T.f_l_large ["_law_web_here", "_law_sides", "_law_ties", "_law_limit"] (sp_l_large ⟨P, w, K⟩ T.A)) (G_l_free : FnOk P w K mg base (L2.CX P w) 2 T.a_l_free T.f_l_free ["_law_sides", "_law_ties"] (sp_l_free ⟨P, w, K⟩ T.A)) (G_l_graphs_right : FnOk P w K mg base (L2.CX P w) 11 T.a_l_graphs_right T.f_l_graphs_right ["_law_web_here", "_law_sides", "_law_ties"] (sp_l_graphs_right ⟨P, w, K⟩ T.A)) (G_l_web : FnOk P w K mg base (L2.CX P w) 2 T.a_l_web T.f_l_web ["_law_draws_here", "_law_most_places", "_law_most_ties"] (sp_l_web ⟨P, w, K⟩ T.A)) : FnOk P w K mg base CX0 12 T.a_law T.f_law ["_law_script"] (sp_law ⟨P, w, K⟩) := by
  have nd := sc_law.nd
  refine T.F_law.ok sc_law (fun vs H Q E h => ?_) (fun cdv A outer s H vs Q E hr h => ?_)
  · exact sp_law_len h
  have hu := hu_of hr
  refine ⟨_, (pss_cons (ps_set (i := 1) nd rfl (Or.inl rfl) (pe_callS G_l_draws (hr.mono (by decide)) (by rfl) T.g_l_draws T.F_l_draws.kp T.d_l_draws (fun σ => passFS σ) (pa_cons (pe_callS G_l_seed (hr.mono (by decide)) (by rfl) T.g_l_seed T.F_l_seed.kp T.d_l_seed (fun σ => passFS σ) (pa_cons (pv 0) (pa_cons pe_int pa_nil))) (pa_cons pe_int pa_nil))))
      (pss_cons (ps_set (i := 2) nd rfl (Or.inl rfl) (pe_callS G_l_draws (hr.mono (by decide)) (by rfl) T.g_l_draws T.F_l_draws.kp T.d_l_draws (fun σ => passFS σ) (pa_cons (pe_callS G_l_seed (hr.mono (by decide)) (by rfl) T.g_l_seed T.F_l_seed.kp T.d_l_seed (fun σ => passFS σ) (pa_cons (pv 0) (pa_cons pe_int pa_nil))) (pa_cons pe_int pa_nil))))
      (pss_cons (ps_asg (pe_callS G_l_world (hr.mono (by decide)) (by rfl) T.g_l_world T.F_l_world.kp T.d_l_world (fun σ => passFS σ) (pa_cons (pv 1) (pa_cons (pv 2) pa_nil))) (pg_tupK (n := 2) K (by rfl) (pgs_cons (pg_name (i := 3) nd rfl (Or.inl rfl)) (pgs_cons (pg_name (i := 4) nd rfl (Or.inl rfl)) pgs_nil))))
      (pss_cons (ps_set (i := 5) nd rfl (Or.inl rfl) (pe_makeS T.mk_Web G_m_WebX_initX (hr.mono (by decide)) (by rfl) T.g_Web T.d_m_WebX_initX (fun σ => passFS σ) (pa_cons (pv 3) (pa_cons (pv 4) pa_nil))))
      (pss_cons (ps_set (i := 6) nd rfl (Or.inl rfl) (pe_ix (ix_tK K) (pe_callS G_l_firsts (hr.mono (by decide)) (by rfl) T.g_l_firsts T.F_l_firsts.kp T.d_l_firsts (fun σ => passFS σ) (pa_cons (pv 3) pa_nil)) pe_int (fun _ _ => rfl)))
      (pss_cons (ps_if (pt_not (pt_val (pe_callS G_l_refused (hr.mono (by decide)) (by rfl) T.g_l_refused T.F_l_refused.kp T.d_l_refused (fun σ => passFS σ) (pa_cons (pv 5) (pa_cons (pv 3) (pa_cons (pv 4) (pa_cons (pv 2) (pa_cons pe_int pa_nil))))))))
        (pss_one (ps_ret pe_bl))
        pss_nil)
      (pss_cons (ps_if (pt_cmpR op_gt (pv 6) pe_int (nomark _))
        (pss_one (ps_ret (pe_callS G_l_large (hr.mono (by decide)) (by rfl) T.g_l_large T.F_l_large.kp T.d_l_large (fun σ => passFS σ) (pa_cons (pv 5) (pa_cons (pv 3) (pa_cons (pv 4) (pa_cons pe_int pa_nil)))))))
        pss_nil)
      (pss_cons (ps_if (pt_cmpR op_gt (pe_callB (len_K K) (by rfl) T.b_len (by decide +kernel) (pa_cons (pe_callS G_l_free (hr.mono (by decide)) (by rfl) T.g_l_free T.F_l_free.kp T.d_l_free (fun σ => passFS σ) (pa_cons (pv 3) (pa_cons (pv 4) pa_nil))) pa_nil)) pe_int (nomark _))
        (pss_one (ps_ret (pe_callS G_l_large (hr.mono (by decide)) (by rfl) T.g_l_large T.F_l_large.kp T.d_l_large (fun σ => passFS σ) (pa_cons (pv 5) (pa_cons (pv 3) (pa_cons (pv 4) (pa_cons pe_int pa_nil)))))))
        pss_nil)
      (pss_cons (ps_if (pt_not (pt_val (pe_callS G_l_graphs_right (hr.mono (by decide)) (by rfl) T.g_l_graphs_right T.F_l_graphs_right.kp T.d_l_graphs_right (fun σ => passFS σ) (pa_cons (pv 5) (pa_cons (pv 3) (pa_cons (pv 4) pa_nil))))))
        (pss_one (ps_ret pe_bl))
        pss_nil)
      (pss_cons (ps_asg (pe_callS G_l_web (hr.mono (by decide)) (by rfl) T.g_l_web T.F_l_web.kp T.d_l_web (fun σ => passFS σ) (pa_cons (pe_callS G_l_draws (hr.mono (by decide)) (by rfl) T.g_l_draws T.F_l_draws.kp T.d_l_draws (fun σ => passFS σ) (pa_cons (pe_callS G_l_seed (hr.mono (by decide)) (by rfl) T.g_l_seed T.F_l_seed.kp T.d_l_seed (fun σ => passFS σ) (pa_cons (pv 0) (pa_cons pe_int pa_nil))) (pa_cons pe_int pa_nil))) (pa_cons pe_int (pa_cons pe_int pa_nil)))) (pg_tupK (n := 2) K (by rfl) (pgs_cons (pg_name (i := 7) nd rfl (Or.inl rfl)) (pgs_cons (pg_name (i := 8) nd rfl (Or.inl rfl)) pgs_nil))))
      (pss_cons (ps_set (i := 9) nd rfl (Or.inl rfl) (pe_makeS T.mk_Web G_m_WebX_initX (hr.mono (by decide)) (by rfl) T.g_Web T.d_m_WebX_initX (fun σ => passFS σ) (pa_cons (pv 7) (pa_cons (pv 8) pa_nil))))
      (pss_cons (ps_if (pt_not (pt_val (pe_callS G_l_graphs_right (hr.mono (by decide)) (by rfl) T.g_l_graphs_right T.F_l_graphs_right.kp T.d_l_graphs_right (fun σ => passFS σ) (pa_cons (pv 9) (pa_cons (pv 7) (pa_cons (pv 8) pa_nil))))))
        (pss_one (ps_ret pe_bl))
        pss_nil)
      (pss_one (ps_ret (pe_and (pe_callS G_l_graphs_right (hr.mono (by decide)) (by rfl) T.g_l_graphs_right T.F_l_graphs_right.kp T.d_l_graphs_right (fun σ => passFS σ) (pa_cons (pv 5) (pa_cons (pv 3) (pa_cons (pv 4) pa_nil)))) (pe_one (pe_callS G_l_refused (hr.mono (by decide)) (by rfl) T.g_l_refused T.F_l_refused.kp T.d_l_refused (fun σ => passFS σ) (pa_cons (pv 5) (pa_cons (pv 3) (pa_cons (pv 4) (pa_cons (pv 2) (pa_cons pe_int pa_nil)))))))))))))))))))))), ?_⟩
  try dsimp only [cxOf]
  obtain ⟨script, e, h⟩ := h
  refine Zm.body0 (tx := T.A.tx) (js := [0, 1, 2, 3, 4, 5, 6, 7, 8, 9]) (m := law_m script) e h ?_
  refine zm_to (Γ2 := [(.val (dSq (d := dInt)) script), .no, .no, .no, .no, .no, .no, .no, .no, .no]) rfl ?_
  delta law_m
  refine zm_set (i := 1) rfl (by decide) (we_eq (we_o (oe_call2 hs_l_draws rfl (we_call2 hs_l_seed rfl (we_var rfl) we_int) we_int)) rfl) fun draws_here_2 => ?_
  refine zm_set (i := 2) rfl (by decide) (we_eq (we_o (oe_call2 hs_l_draws rfl (we_call2 hs_l_seed rfl (we_var rfl) we_int) we_int)) rfl) fun extra_4 => ?_
  refine zm_setG (we_eq (we_o (oe_call2 hs_l_world rfl (we_var rfl) (we_var rfl))) rfl) fun t5 => (a_pair rfl (a_name rfl (a_name rfl ⟨(wlen 10 (by exact rfl) (by exact rfl) (by decide)), ?_⟩)))
  refine zm_set (i := 5) rfl (by decide) (we_eq (we_o (oe_make2 hs_m_WebX_initX rfl (we_var rfl) (we_var rfl))) rfl) fun web_here_6 => ?_
  refine zm_set (i := 6) rfl (by decide) (we_eq (we_snd (we_o (oe_call1 hs_l_firsts rfl (we_var rfl)))) rfl) fun many_8 => ?_
  refine zm_if (te_eq (te_not (te_B (we_call5 hs_l_refused rfl (we_var rfl) (we_var rfl) (we_var rfl) (we_var rfl) we_int))) rfl) ?_ ?_
  · exact zm_ret (we_eq we_bl rfl)
  · refine zm_skip ?_
    refine zm_ifP (te_eq (te_test (we_gt (re_w (we_var rfl)) (re_w we_int))) rfl) ?_ ?_
    · exact zm_ret (we_eq (we_call4 hs_l_large rfl (we_var rfl) (we_var rfl) (we_var rfl) we_int) rfl)
    · refine zm_skip ?_
      refine zm_if (te_eq (te_test (we_gt (re_w (we_len (re_w (we_o (oe_call2 hs_l_free rfl (we_var rfl) (we_var rfl)))))) (re_w we_int))) rfl) ?_ ?_
      · exact zm_ret (we_eq (we_call4 hs_l_large rfl (we_var rfl) (we_var rfl) (we_var rfl) we_int) rfl)
      · refine zm_skip ?_
        refine zm_if (te_eq (te_not (te_B (we_call3 hs_l_graphs_right rfl (we_var rfl) (we_var rfl) (we_var rfl)))) rfl) ?_ ?_
        · exact zm_ret (we_eq we_bl rfl)
        · refine zm_skip ?_
          refine zm_setG (we_eq (we_o (oe_call3 hs_l_web rfl (we_o (oe_call2 hs_l_draws rfl (we_call2 hs_l_seed rfl (we_var rfl) we_int) we_int)) we_int we_int)) rfl) fun t16 => (a_pair rfl (a_name rfl (a_name rfl ⟨(wlen 10 (by exact rfl) (by exact rfl) (by decide)), ?_⟩)))
          refine zm_set (i := 9) rfl (by decide) (we_eq (we_o (oe_make2 hs_m_WebX_initX rfl (we_var rfl) (we_var rfl))) rfl) fun other_17 => ?_
          refine zm_if (te_eq (te_not (te_B (we_call3 hs_l_graphs_right rfl (we_var rfl) (we_var rfl) (we_var rfl)))) rfl) ?_ ?_
          · exact zm_ret (we_eq we_bl rfl)
          · refine zm_skip ?_
            refine zm_last ?_
            exact zm_ret (we_eq (we_and (we_call3 hs_l_graphs_right rfl (we_var rfl) (we_var rfl) (we_var rfl)) (we_call5 hs_l_refused rfl (we_var rfl) (we_var rfl) (we_var rfl) (we_var rfl) we_int)) rfl)
end K41

namespace K41
open PySem L2 G PM
set_option maxHeartbeats 0 in
theorem all_mk {w : World} {K : PySem.W.Frag} {h : Heap} {mg : Str → Option Value} {fa : Addr} (X : K.In h) (G : h.Ns mainGlobals mg) (hfa : mg "law" = some (.ref fa))
    {C_PairedWeb : Addr}
    {C_Web : Addr}
    {t_PairedWeb_MOST_FREE : _}
    {t_PairedWeb_MOST_PAIRS : _}
    {t_Web_MOST_PLACES : _}
    {t_Web_MOST_SIDES : _}
    {t_Web_MOST_TIES : _}
    {D_BadSides : Addr}
    {D_ComesapartError : Addr}
    {D_TooLarge : Addr}
    {D_UnknownPlace : Addr}
    {D_UnknownPoint : Addr}
    {D_UnknownSide : Addr}
    {D_UnknownTie : Addr}
    {od0 an0 : Option Addr} {sl0 : Array (Option Value)} {oc0 kV0 dc0 pm0 cd0 ct0 : Value} {f0 : Addr}
    {od1 an1 : Option Addr} {sl1 : Array (Option Value)} {oc1 kV1 dc1 pm1 cd1 ct1 : Value} {f1 : Addr}
    {od2 an2 : Option Addr} {sl2 : Array (Option Value)} {oc2 kV2 dc2 pm2 cd2 ct2 : Value} {f2 : Addr}
    {od3 an3 : Option Addr} {sl3 : Array (Option Value)} {oc3 kV3 dc3 pm3 cd3 ct3 : Value} {f3 : Addr}
    {od4 an4 : Option Addr} {sl4 : Array (Option Value)} {oc4 kV4 dc4 pm4 cd4 ct4 : Value} {f4 : Addr}
    {od5 an5 : Option Addr} {sl5 : Array (Option Value)} {oc5 kV5 dc5 pm5 cd5 ct5 : Value} {f5 : Addr}
    {od6 an6 : Option Addr} {sl6 : Array (Option Value)} {oc6 kV6 dc6 pm6 cd6 ct6 : Value} {f6 : Addr}
    {od7 an7 : Option Addr} {sl7 : Array (Option Value)} {oc7 kV7 dc7 pm7 cd7 ct7 : Value} {f7 : Addr}
    {od8 an8 : Option Addr} {sl8 : Array (Option Value)} {oc8 kV8 dc8 pm8 cd8 ct8 : Value} {f8 : Addr}
    {od9 an9 : Option Addr} {sl9 : Array (Option Value)} {oc9 kV9 dc9 pm9 cd9 ct9 : Value} {f9 : Addr}
    {od10 an10 : Option Addr} {sl10 : Array (Option Value)} {oc10 kV10 dc10 pm10 cd10 ct10 : Value} {f10 : Addr}
    {od11 an11 : Option Addr} {sl11 : Array (Option Value)} {oc11 kV11 dc11 pm11 cd11 ct11 : Value} {f11 : Addr}
    {od12 an12 : Option Addr} {sl12 : Array (Option Value)} {oc12 kV12 dc12 pm12 cd12 ct12 : Value} {f12 : Addr}
    {od13 an13 : Option Addr} {sl13 : Array (Option Value)} {oc13 kV13 dc13 pm13 cd13 ct13 : Value} {f13 : Addr}
    {od14 an14 : Option Addr} {sl14 : Array (Option Value)} {oc14 kV14 dc14 pm14 cd14 ct14 : Value} {f14 : Addr}
    {od15 an15 : Option Addr} {sl15 : Array (Option Value)} {oc15 kV15 dc15 pm15 cd15 ct15 : Value} {f15 : Addr}
    {od16 an16 : Option Addr} {sl16 : Array (Option Value)} {oc16 kV16 dc16 pm16 cd16 ct16 : Value} {f16 : Addr}
    {od17 an17 : Option Addr} {sl17 : Array (Option Value)} {oc17 kV17 dc17 pm17 cd17 ct17 : Value} {f17 : Addr}
    {od18 an18 : Option Addr} {sl18 : Array (Option Value)} {oc18 kV18 dc18 pm18 cd18 ct18 : Value} {f18 : Addr}
    {od19 an19 : Option Addr} {sl19 : Array (Option Value)} {oc19 kV19 dc19 pm19 cd19 ct19 : Value} {f19 : Addr}
    {r19 : Addr} {rest19 : List Value}
    {od20 an20 : Option Addr} {sl20 : Array (Option Value)} {oc20 kV20 dc20 pm20 cd20 ct20 : Value} {f20 : Addr}
    {r20 : Addr} {rest20 : List Value}
    {od21 an21 : Option Addr} {sl21 : Array (Option Value)} {oc21 kV21 dc21 pm21 cd21 ct21 : Value} {f21 : Addr}
    {od22 an22 : Option Addr} {sl22 : Array (Option Value)} {oc22 kV22 dc22 pm22 cd22 ct22 : Value} {f22 : Addr}
    {od23 an23 : Option Addr} {sl23 : Array (Option Value)} {oc23 kV23 dc23 pm23 cd23 ct23 : Value} {f23 : Addr}
    {od24 an24 : Option Addr} {sl24 : Array (Option Value)} {oc24 kV24 dc24 pm24 cd24 ct24 : Value} {f24 : Addr}
    {od25 an25 : Option Addr} {sl25 : Array (Option Value)} {oc25 kV25 dc25 pm25 cd25 ct25 : Value} {f25 : Addr}
    {od26 an26 : Option Addr} {sl26 : Array (Option Value)} {oc26 kV26 dc26 pm26 cd26 ct26 : Value} {f26 : Addr}
    {od27 an27 : Option Addr} {sl27 : Array (Option Value)} {oc27 kV27 dc27 pm27 cd27 ct27 : Value} {f27 : Addr}
    {od28 an28 : Option Addr} {sl28 : Array (Option Value)} {oc28 kV28 dc28 pm28 cd28 ct28 : Value} {f28 : Addr}
    {od29 an29 : Option Addr} {sl29 : Array (Option Value)} {oc29 kV29 dc29 pm29 cd29 ct29 : Value} {f29 : Addr}
    {od30 an30 : Option Addr} {sl30 : Array (Option Value)} {oc30 kV30 dc30 pm30 cd30 ct30 : Value} {f30 : Addr}
    {od31 an31 : Option Addr} {sl31 : Array (Option Value)} {oc31 kV31 dc31 pm31 cd31 ct31 : Value} {f31 : Addr}
    {od32 an32 : Option Addr} {sl32 : Array (Option Value)} {oc32 kV32 dc32 pm32 cd32 ct32 : Value} {f32 : Addr}
    {od33 an33 : Option Addr} {sl33 : Array (Option Value)} {oc33 kV33 dc33 pm33 cd33 ct33 : Value} {f33 : Addr}
    {od34 an34 : Option Addr} {sl34 : Array (Option Value)} {oc34 kV34 dc34 pm34 cd34 ct34 : Value} {f34 : Addr}
    {od35 an35 : Option Addr} {sl35 : Array (Option Value)} {oc35 kV35 dc35 pm35 cd35 ct35 : Value} {f35 : Addr}
    {od36 an36 : Option Addr} {sl36 : Array (Option Value)} {oc36 kV36 dc36 pm36 cd36 ct36 : Value} {f36 : Addr}
    {xo_BadSides xd_BadSides : Option Addr} {xs_BadSides xt_BadSides xu_BadSides : Array (Option Value)} {xa_BadSides xb_BadSides xc_BadSides xdc_BadSides xpm_BadSides xct_BadSides : Value} {xf_BadSides cc_BadSides cda_BadSides : Addr} {xe_BadSides : Option Addr} {vs_BadSides : Array Value} {cdx_BadSides : ClassData}
    {nm_BadSides q_BadSides : Str} {N_BadSides : Addr} {bs_BadSides bm_BadSides : List Value} {sn_BadSides : _} {sub_BadSides : _} {ab_BadSides : _} {col_BadSides : _} {dd_BadSides : _} {k0_BadSides : _} {k1_BadSides : _} {k2_BadSides : _} {k3_BadSides : _} {k5_BadSides : _}
    {fl_BadSides : Str} {tf_BadSides : _}
    {xo_TooLarge xd_TooLarge : Option Addr} {xs_TooLarge xt_TooLarge xu_TooLarge : Array (Option Value)} {xa_TooLarge xb_TooLarge xc_TooLarge xdc_TooLarge xpm_TooLarge xct_TooLarge : Value} {xf_TooLarge cc_TooLarge cda_TooLarge : Addr} {xe_TooLarge : Option Addr} {vs_TooLarge : Array Value} {cdx_TooLarge : ClassData}
    {nm_TooLarge q_TooLarge : Str} {N_TooLarge : Addr} {bs_TooLarge bm_TooLarge : List Value} {sn_TooLarge : _} {sub_TooLarge : _} {ab_TooLarge : _} {col_TooLarge : _} {dd_TooLarge : _} {k0_TooLarge : _} {k1_TooLarge : _} {k2_TooLarge : _} {k3_TooLarge : _} {k5_TooLarge : _}
    {fl_TooLarge : Str} {tf_TooLarge : _}
    {xo_UnknownPlace xd_UnknownPlace : Option Addr} {xs_UnknownPlace xt_UnknownPlace xu_UnknownPlace : Array (Option Value)} {xa_UnknownPlace xb_UnknownPlace xc_UnknownPlace xdc_UnknownPlace xpm_UnknownPlace xct_UnknownPlace : Value} {xf_UnknownPlace cc_UnknownPlace cda_UnknownPlace : Addr} {xe_UnknownPlace : Option Addr} {vs_UnknownPlace : Array Value} {cdx_UnknownPlace : ClassData}
    {nm_UnknownPlace q_UnknownPlace : Str} {N_UnknownPlace : Addr} {bs_UnknownPlace bm_UnknownPlace : List Value} {sn_UnknownPlace : _} {sub_UnknownPlace : _} {ab_UnknownPlace : _} {col_UnknownPlace : _} {dd_UnknownPlace : _} {k0_UnknownPlace : _} {k1_UnknownPlace : _} {k2_UnknownPlace : _} {k3_UnknownPlace : _} {k5_UnknownPlace : _}
    {fl_UnknownPlace : Str} {tf_UnknownPlace : _}
    {xo_UnknownPoint xd_UnknownPoint : Option Addr} {xs_UnknownPoint xt_UnknownPoint xu_UnknownPoint : Array (Option Value)} {xa_UnknownPoint xb_UnknownPoint xc_UnknownPoint xdc_UnknownPoint xpm_UnknownPoint xct_UnknownPoint : Value} {xf_UnknownPoint cc_UnknownPoint cda_UnknownPoint : Addr} {xe_UnknownPoint : Option Addr} {vs_UnknownPoint : Array Value} {cdx_UnknownPoint : ClassData}
    {nm_UnknownPoint q_UnknownPoint : Str} {N_UnknownPoint : Addr} {bs_UnknownPoint bm_UnknownPoint : List Value} {sn_UnknownPoint : _} {sub_UnknownPoint : _} {ab_UnknownPoint : _} {col_UnknownPoint : _} {dd_UnknownPoint : _} {k0_UnknownPoint : _} {k1_UnknownPoint : _} {k2_UnknownPoint : _} {k3_UnknownPoint : _} {k5_UnknownPoint : _}
    {fl_UnknownPoint : Str} {tf_UnknownPoint : _}
    {xo_UnknownSide xd_UnknownSide : Option Addr} {xs_UnknownSide xt_UnknownSide xu_UnknownSide : Array (Option Value)} {xa_UnknownSide xb_UnknownSide xc_UnknownSide xdc_UnknownSide xpm_UnknownSide xct_UnknownSide : Value} {xf_UnknownSide cc_UnknownSide cda_UnknownSide : Addr} {xe_UnknownSide : Option Addr} {vs_UnknownSide : Array Value} {cdx_UnknownSide : ClassData}
    {nm_UnknownSide q_UnknownSide : Str} {N_UnknownSide : Addr} {bs_UnknownSide bm_UnknownSide : List Value} {sn_UnknownSide : _} {sub_UnknownSide : _} {ab_UnknownSide : _} {col_UnknownSide : _} {dd_UnknownSide : _} {k0_UnknownSide : _} {k1_UnknownSide : _} {k2_UnknownSide : _} {k3_UnknownSide : _} {k5_UnknownSide : _}
    {fl_UnknownSide : Str} {tf_UnknownSide : _}
    {xo_UnknownTie xd_UnknownTie : Option Addr} {xs_UnknownTie xt_UnknownTie xu_UnknownTie : Array (Option Value)} {xa_UnknownTie xb_UnknownTie xc_UnknownTie xdc_UnknownTie xpm_UnknownTie xct_UnknownTie : Value} {xf_UnknownTie cc_UnknownTie cda_UnknownTie : Addr} {xe_UnknownTie : Option Addr} {vs_UnknownTie : Array Value} {cdx_UnknownTie : ClassData}
    {nm_UnknownTie q_UnknownTie : Str} {N_UnknownTie : Addr} {bs_UnknownTie bm_UnknownTie : List Value} {sn_UnknownTie : _} {sub_UnknownTie : _} {ab_UnknownTie : _} {col_UnknownTie : _} {dd_UnknownTie : _} {k0_UnknownTie : _} {k1_UnknownTie : _} {k2_UnknownTie : _} {k3_UnknownTie : _} {k5_UnknownTie : _}
    {fl_UnknownTie : Str} {tf_UnknownTie : _}
    {cdy_ComesapartError : ClassData}
    {cdy_TooLarge : ClassData}
    {cdy_UnknownPlace : ClassData}
    {cdy_UnknownTie : ClassData}
    (q0 : PySem.W.nsIn K mainGlobals "PairedWeb" = some (some (.ref C_PairedWeb)))
    (q1 : PySem.W.plainGet K C_PairedWeb Str.empty = true)
    (q2 : PySem.W.hasDictIn K C_PairedWeb = true)
    (q3 : PySem.W.plainOver K C_PairedWeb = true)
    (q4 : PySem.W.findIn K (.ref C_PairedWeb) "__setattr__" = some (some (.builtin "object.__setattr__")))
    (q5 : PySem.W.nsIn K mainGlobals "Web" = some (some (.ref C_Web)))
    (q6 : PySem.W.plainGet K C_Web Str.empty = true)
    (q7 : PySem.W.hasDictIn K C_Web = true)
    (q8 : PySem.W.plainOver K C_Web = true)
    (q9 : PySem.W.findIn K (.ref C_Web) "__setattr__" = some (some (.builtin "object.__setattr__")))
    (q10 : PySem.W.findIn K (.ref C_PairedWeb) "free" = some none)
    (q11 : PySem.W.findIn K (.ref C_PairedWeb) "pairs" = some none)
    (q12 : PySem.W.findIn K (.ref C_Web) "sides" = some none)
    (q13 : PySem.W.findIn K (.ref C_Web) "ties" = some none)
    (q14 : PySem.W.findIn K (.ref C_PairedWeb) "MOST_FREE" = some (some (.int 200 t_PairedWeb_MOST_FREE)))
    (q15 : PySem.W.specialIn K (.int 200 t_PairedWeb_MOST_FREE) "__get__" = some none)
    (q16 : PySem.W.findIn K (.ref C_PairedWeb) "MOST_PAIRS" = some (some (.int 100 t_PairedWeb_MOST_PAIRS)))
    (q17 : PySem.W.specialIn K (.int 100 t_PairedWeb_MOST_PAIRS) "__get__" = some none)
    (q18 : PySem.W.findIn K (.ref C_Web) "MOST_PLACES" = some (some (.int 200 t_Web_MOST_PLACES)))
    (q19 : PySem.W.specialIn K (.int 200 t_Web_MOST_PLACES) "__get__" = some none)
    (q20 : PySem.W.findIn K (.ref C_Web) "MOST_SIDES" = some (some (.int 4 t_Web_MOST_SIDES)))
    (q21 : PySem.W.specialIn K (.int 4 t_Web_MOST_SIDES) "__get__" = some none)
    (q22 : PySem.W.findIn K (.ref C_Web) "MOST_TIES" = some (some (.int 300 t_Web_MOST_TIES)))
    (q23 : PySem.W.specialIn K (.int 300 t_Web_MOST_TIES) "__get__" = some none)
    (q24 : PySem.W.nsIn K mainGlobals "BadSides" = some (some (.ref D_BadSides)))
    (q25 : PySem.W.nsIn K mainGlobals "ComesapartError" = some (some (.ref D_ComesapartError)))
    (q26 : PySem.W.nsIn K mainGlobals "TooLarge" = some (some (.ref D_TooLarge)))
    (q27 : PySem.W.nsIn K mainGlobals "UnknownPlace" = some (some (.ref D_UnknownPlace)))
    (q28 : PySem.W.nsIn K mainGlobals "UnknownPoint" = some (some (.ref D_UnknownPoint)))
    (q29 : PySem.W.nsIn K mainGlobals "UnknownSide" = some (some (.ref D_UnknownSide)))
    (q30 : PySem.W.nsIn K mainGlobals "UnknownTie" = some (some (.ref D_UnknownTie)))
    (q31 : PySem.W.nsIn K mainGlobals "_law_seed" = some (some (.ref f0)))
    (q32 : K.lookup f0 = some ⟨oc0, od0, .func (PySem.W.fnOf "_law_seed" "_law_seed" (defArgs s_l_seed) (defBody s_l_seed) (defScope s_l_seed) .none kV0 dc0 pm0 an0 cd0 ct0), sl0⟩)
    (q33 : PySem.W.codeIn K cd0 "_law_seed" = true)
    (q34 : PySem.W.keepIn K (.ref f0) = true)
    (q35 : PySem.W.nsIn K mainGlobals "_law_draws" = some (some (.ref f1)))
    (q36 : K.lookup f1 = some ⟨oc1, od1, .func (PySem.W.fnOf "_law_draws" "_law_draws" (defArgs s_l_draws) (defBody s_l_draws) (defScope s_l_draws) .none kV1 dc1 pm1 an1 cd1 ct1), sl1⟩)
    (q37 : PySem.W.codeIn K cd1 "_law_draws" = true)
    (q38 : PySem.W.keepIn K (.ref f1) = true)
    (q39 : PySem.W.nsIn K mainGlobals "_law_pick" = some (some (.ref f2)))
    (q40 : K.lookup f2 = some ⟨oc2, od2, .func (PySem.W.fnOf "_law_pick" "_law_pick" (defArgs s_l_pick) (defBody s_l_pick) (defScope s_l_pick) .none kV2 dc2 pm2 an2 cd2 ct2), sl2⟩)
    (q41 : PySem.W.codeIn K cd2 "_law_pick" = true)
    (q42 : PySem.W.keepIn K (.ref f2) = true)
    (q43 : PySem.W.nsIn K mainGlobals "_law_crowd" = some (some (.ref f3)))
    (q44 : K.lookup f3 = some ⟨oc3, od3, .func (PySem.W.fnOf "_law_crowd" "_law_crowd" (defArgs s_l_crowd) (defBody s_l_crowd) (defScope s_l_crowd) .none kV3 dc3 pm3 an3 cd3 ct3), sl3⟩)
    (q45 : PySem.W.codeIn K cd3 "_law_crowd" = true)
    (q46 : PySem.W.keepIn K (.ref f3) = true)
    (q47 : PySem.W.nsIn K mainGlobals "_law_rich" = some (some (.ref f4)))
    (q48 : K.lookup f4 = some ⟨oc4, od4, .func (PySem.W.fnOf "_law_rich" "_law_rich" (defArgs s_l_rich) (defBody s_l_rich) (defScope s_l_rich) .none kV4 dc4 pm4 an4 cd4 ct4), sl4⟩)
    (q49 : PySem.W.codeIn K cd4 "_law_rich" = true)
    (q50 : PySem.W.keepIn K (.ref f4) = true)
    (q51 : PySem.W.nsIn K mainGlobals "_law_web" = some (some (.ref f5)))
    (q52 : K.lookup f5 = some ⟨oc5, od5, .func (PySem.W.fnOf "_law_web" "_law_web" (defArgs s_l_web) (defBody s_l_web) (defScope s_l_web) .none kV5 dc5 pm5 an5 cd5 ct5), sl5⟩)
    (q53 : PySem.W.codeIn K cd5 "_law_web" = true)
    (q54 : PySem.W.keepIn K (.ref f5) = true)
    (q55 : PySem.W.nsIn K mainGlobals "_law_world" = some (some (.ref f6)))
    (q56 : K.lookup f6 = some ⟨oc6, od6, .func (PySem.W.fnOf "_law_world" "_law_world" (defArgs s_l_world) (defBody s_l_world) (defScope s_l_world) .none kV6 dc6 pm6 an6 cd6 ct6), sl6⟩)
    (q57 : PySem.W.codeIn K cd6 "_law_world" = true)
    (q58 : PySem.W.keepIn K (.ref f6) = true)
    (q59 : PySem.W.nsIn K mainGlobals "check_end" = some (some (.ref f7)))
    (q60 : K.lookup f7 = some ⟨oc7, od7, .func (PySem.W.fnOf "check_end" "check_end" (defArgs s_p_check_end) (defBody s_p_check_end) (defScope s_p_check_end) .none kV7 dc7 pm7 an7 cd7 ct7), sl7⟩)
    (q61 : PySem.W.codeIn K cd7 "check_end" = true)
    (q62 : PySem.W.keepIn K (.ref f7) = true)
    (q63 : PySem.W.findIn K (.ref C_Web) "__init__" = some (some (.ref f8)))
    (q64 : PySem.W.isFn K (.ref f8) = true)
    (q65 : K.lookup f8 = some ⟨oc8, od8, .func (PySem.W.fnOf "__init__" "Web.__init__" (defArgs s_m_WebX_initX) (defBody s_m_WebX_initX) (defScope s_m_WebX_initX) .none kV8 dc8 pm8 an8 cd8 ct8), sl8⟩)
    (q66 : PySem.W.codeIn K cd8 "Web.__init__" = true)
    (q67 : PySem.W.keepIn K (.ref f8) = true)
    (q68 : PySem.W.makesIn K C_Web = true)
    (q69 : PySem.W.keepIn K (.ref C_Web) = true)
    (q70 : PySem.W.nsIn K mainGlobals "_law_firsts" = some (some (.ref f9)))
    (q71 : K.lookup f9 = some ⟨oc9, od9, .func (PySem.W.fnOf "_law_firsts" "_law_firsts" (defArgs s_l_firsts) (defBody s_l_firsts) (defScope s_l_firsts) .none kV9 dc9 pm9 an9 cd9 ct9), sl9⟩)
    (q72 : PySem.W.codeIn K cd9 "_law_firsts" = true)
    (q73 : PySem.W.keepIn K (.ref f9) = true)
    (q74 : PySem.W.findIn K (.ref C_Web) "__contains__" = some (some (.ref f10)))
    (q75 : PySem.W.isFn K (.ref f10) = true)
    (q76 : K.lookup f10 = some ⟨oc10, od10, .func (PySem.W.fnOf "__contains__" "Web.__contains__" (defArgs s_m_WebX_containsX) (defBody s_m_WebX_containsX) (defScope s_m_WebX_containsX) .none kV10 dc10 pm10 an10 cd10 ct10), sl10⟩)
    (q77 : PySem.W.codeIn K cd10 "Web.__contains__" = true)
    (q78 : PySem.W.keepIn K (.ref f10) = true)
    (q79 : PySem.W.nsIn K mainGlobals "check_place" = some (some (.ref f11)))
    (q80 : K.lookup f11 = some ⟨oc11, od11, .func (PySem.W.fnOf "check_place" "check_place" (defArgs s_p_check_place) (defBody s_p_check_place) (defScope s_p_check_place) .none kV11 dc11 pm11 an11 cd11 ct11), sl11⟩)
    (q81 : PySem.W.codeIn K cd11 "check_place" = true)
    (q82 : PySem.W.keepIn K (.ref f11) = true)
    (q83 : PySem.W.nsIn K mainGlobals "first_pairs" = some (some (.ref f12)))
    (q84 : K.lookup f12 = some ⟨oc12, od12, .func (PySem.W.fnOf "first_pairs" "first_pairs" (defArgs s_p_first_pairs) (defBody s_p_first_pairs) (defScope s_p_first_pairs) .none kV12 dc12 pm12 an12 cd12 ct12), sl12⟩)
    (q85 : PySem.W.codeIn K cd12 "first_pairs" = true)
    (q86 : PySem.W.keepIn K (.ref f12) = true)
    (q87 : PySem.W.findIn K (.ref C_Web) "__iter__" = some (some (.ref f13)))
    (q88 : PySem.W.isFn K (.ref f13) = true)
    (q89 : K.lookup f13 = some ⟨oc13, od13, .func (PySem.W.fnOf "__iter__" "Web.__iter__" (defArgs s_m_WebX_iterX) (defBody s_m_WebX_iterX) (defScope s_m_WebX_iterX) .none kV13 dc13 pm13 an13 cd13 ct13), sl13⟩)
    (q90 : PySem.W.codeIn K cd13 "Web.__iter__" = true)
    (q91 : PySem.W.keepIn K (.ref f13) = true)
    (q92 : PySem.W.nsIn K mainGlobals "seat" = some (some (.ref f14)))
    (q93 : K.lookup f14 = some ⟨oc14, od14, .func (PySem.W.fnOf "seat" "seat" (defArgs s_p_seat) (defBody s_p_seat) (defScope s_p_seat) .none kV14 dc14 pm14 an14 cd14 ct14), sl14⟩)
    (q94 : PySem.W.codeIn K cd14 "seat" = true)
    (q95 : PySem.W.keepIn K (.ref f14) = true)
    (q96 : PySem.W.nsIn K mainGlobals "inner_ties" = some (some (.ref f15)))
    (q97 : K.lookup f15 = some ⟨oc15, od15, .func (PySem.W.fnOf "inner_ties" "inner_ties" (defArgs s_p_inner_ties) (defBody s_p_inner_ties) (defScope s_p_inner_ties) .none kV15 dc15 pm15 an15 cd15 ct15), sl15⟩)
    (q98 : PySem.W.codeIn K cd15 "inner_ties" = true)
    (q99 : PySem.W.keepIn K (.ref f15) = true)
    (q100 : PySem.W.findIn K (.ref C_PairedWeb) "__init__" = some (some (.ref f16)))
    (q101 : PySem.W.isFn K (.ref f16) = true)
    (q102 : K.lookup f16 = some ⟨oc16, od16, .func (PySem.W.fnOf "__init__" "PairedWeb.__init__" (defArgs s_m_PairedWebX_initX) (defBody s_m_PairedWebX_initX) (defScope s_m_PairedWebX_initX) .none kV16 dc16 pm16 an16 cd16 ct16), sl16⟩)
    (q103 : PySem.W.codeIn K cd16 "PairedWeb.__init__" = true)
    (q104 : PySem.W.keepIn K (.ref f16) = true)
    (q105 : PySem.W.makesIn K C_PairedWeb = true)
    (q106 : PySem.W.keepIn K (.ref C_PairedWeb) = true)
    (q107 : PySem.W.nsIn K mainGlobals "paired_of_web" = some (some (.ref f17)))
    (q108 : K.lookup f17 = some ⟨oc17, od17, .func (PySem.W.fnOf "paired_of_web" "paired_of_web" (defArgs s_p_paired_of_web) (defBody s_p_paired_of_web) (defScope s_p_paired_of_web) .none kV17 dc17 pm17 an17 cd17 ct17), sl17⟩)
    (q109 : PySem.W.codeIn K cd17 "paired_of_web" = true)
    (q110 : PySem.W.keepIn K (.ref f17) = true)
    (q111 : PySem.W.nsIn K mainGlobals "pair_at" = some (some (.ref f18)))
    (q112 : K.lookup f18 = some ⟨oc18, od18, .func (PySem.W.fnOf "pair_at" "pair_at" (defArgs s_p_pair_at) (defBody s_p_pair_at) (defScope s_p_pair_at) .none kV18 dc18 pm18 an18 cd18 ct18), sl18⟩)
    (q113 : PySem.W.codeIn K cd18 "pair_at" = true)
    (q114 : PySem.W.keepIn K (.ref f18) = true)
    (q115 : PySem.W.findIn K (.ref C_PairedWeb) "points" = some (some (.ref r19)))
    (q116 : PySem.W.specialIn K (.ref r19) "__get__" = some (some (.builtin "property.__get__")))
    (q117 : PySem.W.takesIn K (.ref r19) = some true)
    (q118 : PySem.W.recIn K r19 "property" = some (.ref f19 :: rest19))
    (q119 : K.lookup f19 = some ⟨oc19, od19, .func (PySem.W.fnOf "points" "PairedWeb.points" (defArgs s_m_PairedWeb_points) (defBody s_m_PairedWeb_points) (defScope s_m_PairedWeb_points) .none kV19 dc19 pm19 an19 cd19 ct19), sl19⟩)
    (q120 : PySem.W.codeIn K cd19 "PairedWeb.points" = true)
    (q121 : PySem.W.keepIn K (.ref f19) = true)
    (q122 : PySem.W.findIn K (.ref C_PairedWeb) "all_ties" = some (some (.ref r20)))
    (q123 : PySem.W.specialIn K (.ref r20) "__get__" = some (some (.builtin "property.__get__")))
    (q124 : PySem.W.takesIn K (.ref r20) = some true)
    (q125 : PySem.W.recIn K r20 "property" = some (.ref f20 :: rest20))
    (q126 : K.lookup f20 = some ⟨oc20, od20, .func (PySem.W.fnOf "all_ties" "PairedWeb.all_ties" (defArgs s_m_PairedWeb_all_ties) (defBody s_m_PairedWeb_all_ties) (defScope s_m_PairedWeb_all_ties) .none kV20 dc20 pm20 an20 cd20 ct20), sl20⟩)
    (q127 : PySem.W.codeIn K cd20 "PairedWeb.all_ties" = true)
    (q128 : PySem.W.keepIn K (.ref f20) = true)
    (q129 : PySem.W.nsIn K mainGlobals "place_graph" = some (some (.ref f21)))
    (q130 : K.lookup f21 = some ⟨oc21, od21, .func (PySem.W.fnOf "place_graph" "place_graph" (defArgs s_p_place_graph) (defBody s_p_place_graph) (defScope s_p_place_graph) .none kV21 dc21 pm21 an21 cd21 ct21), sl21⟩)
    (q131 : PySem.W.codeIn K cd21 "place_graph" = true)
    (q132 : PySem.W.keepIn K (.ref f21) = true)
    (q133 : PySem.W.nsIn K mainGlobals "check_tie" = some (some (.ref f22)))
    (q134 : K.lookup f22 = some ⟨oc22, od22, .func (PySem.W.fnOf "check_tie" "check_tie" (defArgs s_p_check_tie) (defBody s_p_check_tie) (defScope s_p_check_tie) .none kV22 dc22 pm22 an22 cd22 ct22), sl22⟩)
    (q135 : PySem.W.codeIn K cd22 "check_tie" = true)
    (q136 : PySem.W.keepIn K (.ref f22) = true)
    (q137 : PySem.W.nsIn K mainGlobals "tie_graph" = some (some (.ref f23)))
    (q138 : K.lookup f23 = some ⟨oc23, od23, .func (PySem.W.fnOf "tie_graph" "tie_graph" (defArgs s_p_tie_graph) (defBody s_p_tie_graph) (defScope s_p_tie_graph) .none kV23 dc23 pm23 an23 cd23 ct23), sl23⟩)
    (q139 : PySem.W.codeIn K cd23 "tie_graph" = true)
    (q140 : PySem.W.keepIn K (.ref f23) = true)
    (q141 : PySem.W.nsIn K mainGlobals "cycle_through_place" = some (some (.ref f24)))
    (q142 : K.lookup f24 = some ⟨oc24, od24, .func (PySem.W.fnOf "cycle_through_place" "cycle_through_place" (defArgs s_p_cycle_through_place) (defBody s_p_cycle_through_place) (defScope s_p_cycle_through_place) .none kV24 dc24 pm24 an24 cd24 ct24), sl24⟩)
    (q143 : PySem.W.codeIn K cd24 "cycle_through_place" = true)
    (q144 : PySem.W.keepIn K (.ref f24) = true)
    (q145 : PySem.W.nsIn K mainGlobals "tie_answer" = some (some (.ref f25)))
    (q146 : K.lookup f25 = some ⟨oc25, od25, .func (PySem.W.fnOf "tie_answer" "tie_answer" (defArgs s_p_tie_answer) (defBody s_p_tie_answer) (defScope s_p_tie_answer) .none kV25 dc25 pm25 an25 cd25 ct25), sl25⟩)
    (q147 : PySem.W.codeIn K cd25 "tie_answer" = true)
    (q148 : PySem.W.keepIn K (.ref f25) = true)
    (q149 : PySem.W.nsIn K mainGlobals "cycle_through_tie" = some (some (.ref f26)))
    (q150 : K.lookup f26 = some ⟨oc26, od26, .func (PySem.W.fnOf "cycle_through_tie" "cycle_through_tie" (defArgs s_p_cycle_through_tie) (defBody s_p_cycle_through_tie) (defScope s_p_cycle_through_tie) .none kV26 dc26 pm26 an26 cd26 ct26), sl26⟩)
    (q151 : PySem.W.codeIn K cd26 "cycle_through_tie" = true)
    (q152 : PySem.W.keepIn K (.ref f26) = true)
    (q153 : PySem.W.nsIn K mainGlobals "on_cycles" = some (some (.ref f27)))
    (q154 : K.lookup f27 = some ⟨oc27, od27, .func (PySem.W.fnOf "on_cycles" "on_cycles" (defArgs s_p_on_cycles) (defBody s_p_on_cycles) (defScope s_p_on_cycles) .none kV27 dc27 pm27 an27 cd27 ct27), sl27⟩)
    (q155 : PySem.W.codeIn K cd27 "on_cycles" = true)
    (q156 : PySem.W.keepIn K (.ref f27) = true)
    (q157 : PySem.W.nsIn K mainGlobals "_law_told" = some (some (.ref f28)))
    (q158 : K.lookup f28 = some ⟨oc28, od28, .func (PySem.W.fnOf "_law_told" "_law_told" (defArgs s_l_told) (defBody s_l_told) (defScope s_l_told) .none kV28 dc28 pm28 an28 cd28 ct28), sl28⟩)
    (q159 : PySem.W.codeIn K cd28 "_law_told" = true)
    (q160 : PySem.W.keepIn K (.ref f28) = true)
    (q161 : PySem.W.nsIn K mainGlobals "_law_same" = some (some (.ref f29)))
    (q162 : K.lookup f29 = some ⟨oc29, od29, .func (PySem.W.fnOf "_law_same" "_law_same" (defArgs s_l_same) (defBody s_l_same) (defScope s_l_same) .none kV29 dc29 pm29 an29 cd29 ct29), sl29⟩)
    (q163 : PySem.W.codeIn K cd29 "_law_same" = true)
    (q164 : PySem.W.keepIn K (.ref f29) = true)
    (q165 : PySem.W.nsIn K mainGlobals "_law_refused" = some (some (.ref f30)))
    (q166 : K.lookup f30 = some ⟨oc30, od30, .func (PySem.W.fnOf "_law_refused" "_law_refused" (defArgs s_l_refused) (defBody s_l_refused) (defScope s_l_refused) .none kV30 dc30 pm30 an30 cd30 ct30), sl30⟩)
    (q167 : PySem.W.codeIn K cd30 "_law_refused" = true)
    (q168 : PySem.W.keepIn K (.ref f30) = true)
    (q169 : PySem.W.nsIn K mainGlobals "_law_large" = some (some (.ref f31)))
    (q170 : K.lookup f31 = some ⟨oc31, od31, .func (PySem.W.fnOf "_law_large" "_law_large" (defArgs s_l_large) (defBody s_l_large) (defScope s_l_large) .none kV31 dc31 pm31 an31 cd31 ct31), sl31⟩)
    (q171 : PySem.W.codeIn K cd31 "_law_large" = true)
    (q172 : PySem.W.keepIn K (.ref f31) = true)
    (q173 : PySem.W.nsIn K mainGlobals "_law_point" = some (some (.ref f32)))
    (q174 : K.lookup f32 = some ⟨oc32, od32, .func (PySem.W.fnOf "_law_point" "_law_point" (defArgs s_l_point) (defBody s_l_point) (defScope s_l_point) .none kV32 dc32 pm32 an32 cd32 ct32), sl32⟩)
    (q175 : PySem.W.codeIn K cd32 "_law_point" = true)
    (q176 : PySem.W.keepIn K (.ref f32) = true)
    (q177 : PySem.W.nsIn K mainGlobals "_law_free" = some (some (.ref f33)))
    (q178 : K.lookup f33 = some ⟨oc33, od33, .func (PySem.W.fnOf "_law_free" "_law_free" (defArgs s_l_free) (defBody s_l_free) (defScope s_l_free) .none kV33 dc33 pm33 an33 cd33 ct33), sl33⟩)
    (q179 : PySem.W.codeIn K cd33 "_law_free" = true)
    (q180 : PySem.W.keepIn K (.ref f33) = true)
    (q181 : PySem.W.nsIn K mainGlobals "_law_due" = some (some (.ref f34)))
    (q182 : K.lookup f34 = some ⟨oc34, od34, .func (PySem.W.fnOf "_law_due" "_law_due" (defArgs s_l_due) (defBody s_l_due) (defScope s_l_due) .none kV34 dc34 pm34 an34 cd34 ct34), sl34⟩)
    (q183 : PySem.W.codeIn K cd34 "_law_due" = true)
    (q184 : PySem.W.keepIn K (.ref f34) = true)
    (q185 : PySem.W.nsIn K mainGlobals "_law_graphs_right" = some (some (.ref f35)))
    (q186 : K.lookup f35 = some ⟨oc35, od35, .func (PySem.W.fnOf "_law_graphs_right" "_law_graphs_right" (defArgs s_l_graphs_right) (defBody s_l_graphs_right) (defScope s_l_graphs_right) .none kV35 dc35 pm35 an35 cd35 ct35), sl35⟩)
    (q187 : PySem.W.codeIn K cd35 "_law_graphs_right" = true)
    (q188 : PySem.W.keepIn K (.ref f35) = true)
    (q189 : PySem.W.nsIn K mainGlobals "law" = some (some (.ref f36)))
    (q190 : K.lookup f36 = some ⟨oc36, od36, .func (PySem.W.fnOf "law" "law" (defArgs s_law) (defBody s_law) (defScope s_law) .none kV36 dc36 pm36 an36 cd36 ct36), sl36⟩)
    (q191 : PySem.W.codeIn K cd36 "law" = true)
    (q192 : PySem.W.keepIn K (.ref f36) = true)
    (q193 : PySem.W.nsIn K mainGlobals "super" = some none)
    (q194 : PySem.W.nsIn K PySem.cStatics "thirdparty.any" = some none)
    (q195 : K.lookup D_BadSides = some (excClassObj nm_BadSides q_BadSides D_BadSides N_BadSides bs_BadSides bm_BadSides true sn_BadSides sub_BadSides ab_BadSides col_BadSides dd_BadSides k0_BadSides k1_BadSides k2_BadSides k3_BadSides k5_BadSides "ValueError.__new__"))
    (q196 : PySem.HandSPX.refsVE bm_BadSides = true)
    (q197 : PySem.W.findIn K (.ref D_BadSides) "__setattr__" = some (some (.builtin "object.__setattr__")))
    (q198 : PySem.W.subIn K (.ref D_BadSides) (.type "BaseException") = some true)
    (q199 : PySem.W.typeIn K (.ref D_BadSides) = some (.type "type"))
    (q200 : PySem.W.keepIn K (.ref D_BadSides) = true)
    (q201 : PySem.W.clsIn K D_BadSides = some cdx_BadSides)
    (q202 : PySem.W.mroIn K D_BadSides (.ref D_BadSides) = some true)
    (q203 : PySem.W.ks_superIn K D_BadSides D_BadSides "__init__" = some (some (.builtin "ValueError.__init__")))
    (q204 : PySem.W.subIn K (.ref D_BadSides) (.type "ValueError") = some true)
    (q205 : PySem.W.findIn K (.ref D_BadSides) "__init__" = some (some (.ref xf_BadSides)))
    (q206 : PySem.W.typeIn K (.ref xf_BadSides) = some (.type "function"))
    (q207 : K.lookup xf_BadSides = some ⟨xa_BadSides, xo_BadSides, .func ((initNF "__init__" "BadSides.__init__" ((clsB (topS 5)).getD 0 (.Pass ⟨0, 0, 0, 0⟩)) cc_BadSides cda_BadSides).fd xdc_BadSides xpm_BadSides xct_BadSides), xs_BadSides⟩)
    (q208 : K.lookup cc_BadSides = some ⟨xb_BadSides, xd_BadSides, .cell (some (.ref D_BadSides)), xt_BadSides⟩)
    (q209 : K.lookup cda_BadSides = some ⟨xc_BadSides, xe_BadSides, .fields vs_BadSides, xu_BadSides⟩)
    (q210 : PySem.W.codeIn K (.ref cda_BadSides) "BadSides.__init__" = true)
    (q211 : vs_BadSides[2]? = some (.str fl_BadSides tf_BadSides))
    (q212 : ((PySem.Challenge.rw_comesapart_k41_graphs_of_places_and_ties.prog.main.file : Str) == fl_BadSides) = true)
    (q213 : PySem.W.findIn K (.ref D_BadSides) "place" = some none)
    (q214 : K.lookup D_TooLarge = some (excClassObj nm_TooLarge q_TooLarge D_TooLarge N_TooLarge bs_TooLarge bm_TooLarge true sn_TooLarge sub_TooLarge ab_TooLarge col_TooLarge dd_TooLarge k0_TooLarge k1_TooLarge k2_TooLarge k3_TooLarge k5_TooLarge "ValueError.__new__"))
    (q215 : PySem.HandSPX.refsVE bm_TooLarge = true)
    (q216 : PySem.W.findIn K (.ref D_TooLarge) "__setattr__" = some (some (.builtin "object.__setattr__")))
    (q217 : PySem.W.subIn K (.ref D_TooLarge) (.type "BaseException") = some true)
    (q218 : PySem.W.typeIn K (.ref D_TooLarge) = some (.type "type"))
    (q219 : PySem.W.keepIn K (.ref D_TooLarge) = true)
    (q220 : PySem.W.clsIn K D_TooLarge = some cdx_TooLarge)
    (q221 : PySem.W.mroIn K D_TooLarge (.ref D_TooLarge) = some true)
    (q222 : PySem.W.ks_superIn K D_TooLarge D_TooLarge "__init__" = some (some (.builtin "ValueError.__init__")))
    (q223 : PySem.W.subIn K (.ref D_TooLarge) (.type "ValueError") = some true)
    (q224 : PySem.W.findIn K (.ref D_TooLarge) "__init__" = some (some (.ref xf_TooLarge)))
    (q225 : PySem.W.typeIn K (.ref xf_TooLarge) = some (.type "function"))
    (q226 : K.lookup xf_TooLarge = some ⟨xa_TooLarge, xo_TooLarge, .func ((initNF "__init__" "TooLarge.__init__" ((clsB (topS 3)).getD 0 (.Pass ⟨0, 0, 0, 0⟩)) cc_TooLarge cda_TooLarge).fd xdc_TooLarge xpm_TooLarge xct_TooLarge), xs_TooLarge⟩)
    (q227 : K.lookup cc_TooLarge = some ⟨xb_TooLarge, xd_TooLarge, .cell (some (.ref D_TooLarge)), xt_TooLarge⟩)
    (q228 : K.lookup cda_TooLarge = some ⟨xc_TooLarge, xe_TooLarge, .fields vs_TooLarge, xu_TooLarge⟩)
    (q229 : PySem.W.codeIn K (.ref cda_TooLarge) "TooLarge.__init__" = true)
    (q230 : vs_TooLarge[2]? = some (.str fl_TooLarge tf_TooLarge))
    (q231 : ((PySem.Challenge.rw_comesapart_k41_graphs_of_places_and_ties.prog.main.file : Str) == fl_TooLarge) = true)
    (q232 : PySem.W.findIn K (.ref D_TooLarge) "limit" = some none)
    (q233 : K.lookup D_UnknownPlace = some (excClassObj nm_UnknownPlace q_UnknownPlace D_UnknownPlace N_UnknownPlace bs_UnknownPlace bm_UnknownPlace true sn_UnknownPlace sub_UnknownPlace ab_UnknownPlace col_UnknownPlace dd_UnknownPlace k0_UnknownPlace k1_UnknownPlace k2_UnknownPlace k3_UnknownPlace k5_UnknownPlace "ValueError.__new__"))
    (q234 : PySem.HandSPX.refsVE bm_UnknownPlace = true)
    (q235 : PySem.W.findIn K (.ref D_UnknownPlace) "__setattr__" = some (some (.builtin "object.__setattr__")))
    (q236 : PySem.W.subIn K (.ref D_UnknownPlace) (.type "BaseException") = some true)
    (q237 : PySem.W.typeIn K (.ref D_UnknownPlace) = some (.type "type"))
    (q238 : PySem.W.keepIn K (.ref D_UnknownPlace) = true)
    (q239 : PySem.W.clsIn K D_UnknownPlace = some cdx_UnknownPlace)
    (q240 : PySem.W.mroIn K D_UnknownPlace (.ref D_UnknownPlace) = some true)
    (q241 : PySem.W.ks_superIn K D_UnknownPlace D_UnknownPlace "__init__" = some (some (.builtin "ValueError.__init__")))
    (q242 : PySem.W.subIn K (.ref D_UnknownPlace) (.type "ValueError") = some true)
    (q243 : PySem.W.findIn K (.ref D_UnknownPlace) "__init__" = some (some (.ref xf_UnknownPlace)))
    (q244 : PySem.W.typeIn K (.ref xf_UnknownPlace) = some (.type "function"))
    (q245 : K.lookup xf_UnknownPlace = some ⟨xa_UnknownPlace, xo_UnknownPlace, .func ((initNF "__init__" "UnknownPlace.__init__" ((clsB (topS 4)).getD 0 (.Pass ⟨0, 0, 0, 0⟩)) cc_UnknownPlace cda_UnknownPlace).fd xdc_UnknownPlace xpm_UnknownPlace xct_UnknownPlace), xs_UnknownPlace⟩)
    (q246 : K.lookup cc_UnknownPlace = some ⟨xb_UnknownPlace, xd_UnknownPlace, .cell (some (.ref D_UnknownPlace)), xt_UnknownPlace⟩)
    (q247 : K.lookup cda_UnknownPlace = some ⟨xc_UnknownPlace, xe_UnknownPlace, .fields vs_UnknownPlace, xu_UnknownPlace⟩)
    (q248 : PySem.W.codeIn K (.ref cda_UnknownPlace) "UnknownPlace.__init__" = true)
    (q249 : vs_UnknownPlace[2]? = some (.str fl_UnknownPlace tf_UnknownPlace))
    (q250 : ((PySem.Challenge.rw_comesapart_k41_graphs_of_places_and_ties.prog.main.file : Str) == fl_UnknownPlace) = true)
    (q251 : PySem.W.findIn K (.ref D_UnknownPlace) "place" = some none)
    (q252 : K.lookup D_UnknownPoint = some (excClassObj nm_UnknownPoint q_UnknownPoint D_UnknownPoint N_UnknownPoint bs_UnknownPoint bm_UnknownPoint true sn_UnknownPoint sub_UnknownPoint ab_UnknownPoint col_UnknownPoint dd_UnknownPoint k0_UnknownPoint k1_UnknownPoint k2_UnknownPoint k3_UnknownPoint k5_UnknownPoint "ValueError.__new__"))
    (q253 : PySem.HandSPX.refsVE bm_UnknownPoint = true)
    (q254 : PySem.W.findIn K (.ref D_UnknownPoint) "__setattr__" = some (some (.builtin "object.__setattr__")))
    (q255 : PySem.W.subIn K (.ref D_UnknownPoint) (.type "BaseException") = some true)
    (q256 : PySem.W.typeIn K (.ref D_UnknownPoint) = some (.type "type"))
    (q257 : PySem.W.keepIn K (.ref D_UnknownPoint) = true)
    (q258 : PySem.W.clsIn K D_UnknownPoint = some cdx_UnknownPoint)
    (q259 : PySem.W.mroIn K D_UnknownPoint (.ref D_UnknownPoint) = some true)
    (q260 : PySem.W.ks_superIn K D_UnknownPoint D_UnknownPoint "__init__" = some (some (.builtin "ValueError.__init__")))
    (q261 : PySem.W.subIn K (.ref D_UnknownPoint) (.type "ValueError") = some true)
    (q262 : PySem.W.findIn K (.ref D_UnknownPoint) "__init__" = some (some (.ref xf_UnknownPoint)))
    (q263 : PySem.W.typeIn K (.ref xf_UnknownPoint) = some (.type "function"))
    (q264 : K.lookup xf_UnknownPoint = some ⟨xa_UnknownPoint, xo_UnknownPoint, .func ((initNF "__init__" "UnknownPoint.__init__" ((clsB (topS 8)).getD 0 (.Pass ⟨0, 0, 0, 0⟩)) cc_UnknownPoint cda_UnknownPoint).fd xdc_UnknownPoint xpm_UnknownPoint xct_UnknownPoint), xs_UnknownPoint⟩)
    (q265 : K.lookup cc_UnknownPoint = some ⟨xb_UnknownPoint, xd_UnknownPoint, .cell (some (.ref D_UnknownPoint)), xt_UnknownPoint⟩)
    (q266 : K.lookup cda_UnknownPoint = some ⟨xc_UnknownPoint, xe_UnknownPoint, .fields vs_UnknownPoint, xu_UnknownPoint⟩)
    (q267 : PySem.W.codeIn K (.ref cda_UnknownPoint) "UnknownPoint.__init__" = true)
    (q268 : vs_UnknownPoint[2]? = some (.str fl_UnknownPoint tf_UnknownPoint))
    (q269 : ((PySem.Challenge.rw_comesapart_k41_graphs_of_places_and_ties.prog.main.file : Str) == fl_UnknownPoint) = true)
    (q270 : PySem.W.findIn K (.ref D_UnknownPoint) "point" = some none)
    (q271 : K.lookup D_UnknownSide = some (excClassObj nm_UnknownSide q_UnknownSide D_UnknownSide N_UnknownSide bs_UnknownSide bm_UnknownSide true sn_UnknownSide sub_UnknownSide ab_UnknownSide col_UnknownSide dd_UnknownSide k0_UnknownSide k1_UnknownSide k2_UnknownSide k3_UnknownSide k5_UnknownSide "ValueError.__new__"))
    (q272 : PySem.HandSPX.refsVE bm_UnknownSide = true)
    (q273 : PySem.W.findIn K (.ref D_UnknownSide) "__setattr__" = some (some (.builtin "object.__setattr__")))
    (q274 : PySem.W.subIn K (.ref D_UnknownSide) (.type "BaseException") = some true)
    (q275 : PySem.W.typeIn K (.ref D_UnknownSide) = some (.type "type"))
    (q276 : PySem.W.keepIn K (.ref D_UnknownSide) = true)
    (q277 : PySem.W.clsIn K D_UnknownSide = some cdx_UnknownSide)
    (q278 : PySem.W.mroIn K D_UnknownSide (.ref D_UnknownSide) = some true)
    (q279 : PySem.W.ks_superIn K D_UnknownSide D_UnknownSide "__init__" = some (some (.builtin "ValueError.__init__")))
    (q280 : PySem.W.subIn K (.ref D_UnknownSide) (.type "ValueError") = some true)
    (q281 : PySem.W.findIn K (.ref D_UnknownSide) "__init__" = some (some (.ref xf_UnknownSide)))
    (q282 : PySem.W.typeIn K (.ref xf_UnknownSide) = some (.type "function"))
    (q283 : K.lookup xf_UnknownSide = some ⟨xa_UnknownSide, xo_UnknownSide, .func ((initNF "__init__" "UnknownSide.__init__" ((clsB (topS 6)).getD 0 (.Pass ⟨0, 0, 0, 0⟩)) cc_UnknownSide cda_UnknownSide).fd xdc_UnknownSide xpm_UnknownSide xct_UnknownSide), xs_UnknownSide⟩)
    (q284 : K.lookup cc_UnknownSide = some ⟨xb_UnknownSide, xd_UnknownSide, .cell (some (.ref D_UnknownSide)), xt_UnknownSide⟩)
    (q285 : K.lookup cda_UnknownSide = some ⟨xc_UnknownSide, xe_UnknownSide, .fields vs_UnknownSide, xu_UnknownSide⟩)
    (q286 : PySem.W.codeIn K (.ref cda_UnknownSide) "UnknownSide.__init__" = true)
    (q287 : vs_UnknownSide[2]? = some (.str fl_UnknownSide tf_UnknownSide))
    (q288 : ((PySem.Challenge.rw_comesapart_k41_graphs_of_places_and_ties.prog.main.file : Str) == fl_UnknownSide) = true)
    (q289 : PySem.W.findIn K (.ref D_UnknownSide) "place" = some none)
    (q290 : PySem.W.findIn K (.ref D_UnknownSide) "side" = some none)
    (q291 : K.lookup D_UnknownTie = some (excClassObj nm_UnknownTie q_UnknownTie D_UnknownTie N_UnknownTie bs_UnknownTie bm_UnknownTie true sn_UnknownTie sub_UnknownTie ab_UnknownTie col_UnknownTie dd_UnknownTie k0_UnknownTie k1_UnknownTie k2_UnknownTie k3_UnknownTie k5_UnknownTie "ValueError.__new__"))
    (q292 : PySem.HandSPX.refsVE bm_UnknownTie = true)
    (q293 : PySem.W.findIn K (.ref D_UnknownTie) "__setattr__" = some (some (.builtin "object.__setattr__")))
    (q294 : PySem.W.subIn K (.ref D_UnknownTie) (.type "BaseException") = some true)
    (q295 : PySem.W.typeIn K (.ref D_UnknownTie) = some (.type "type"))
    (q296 : PySem.W.keepIn K (.ref D_UnknownTie) = true)
    (q297 : PySem.W.clsIn K D_UnknownTie = some cdx_UnknownTie)
    (q298 : PySem.W.mroIn K D_UnknownTie (.ref D_UnknownTie) = some true)
    (q299 : PySem.W.ks_superIn K D_UnknownTie D_UnknownTie "__init__" = some (some (.builtin "ValueError.__init__")))
    (q300 : PySem.W.subIn K (.ref D_UnknownTie) (.type "ValueError") = some true)
    (q301 : PySem.W.findIn K (.ref D_UnknownTie) "__init__" = some (some (.ref xf_UnknownTie)))
    (q302 : PySem.W.typeIn K (.ref xf_UnknownTie) = some (.type "function"))
    (q303 : K.lookup xf_UnknownTie = some ⟨xa_UnknownTie, xo_UnknownTie, .func ((initNF "__init__" "UnknownTie.__init__" ((clsB (topS 7)).getD 0 (.Pass ⟨0, 0, 0, 0⟩)) cc_UnknownTie cda_UnknownTie).fd xdc_UnknownTie xpm_UnknownTie xct_UnknownTie), xs_UnknownTie⟩)
    (q304 : K.lookup cc_UnknownTie = some ⟨xb_UnknownTie, xd_UnknownTie, .cell (some (.ref D_UnknownTie)), xt_UnknownTie⟩)
    (q305 : K.lookup cda_UnknownTie = some ⟨xc_UnknownTie, xe_UnknownTie, .fields vs_UnknownTie, xu_UnknownTie⟩)
    (q306 : PySem.W.codeIn K (.ref cda_UnknownTie) "UnknownTie.__init__" = true)
    (q307 : vs_UnknownTie[2]? = some (.str fl_UnknownTie tf_UnknownTie))
    (q308 : ((PySem.Challenge.rw_comesapart_k41_graphs_of_places_and_ties.prog.main.file : Str) == fl_UnknownTie) = true)
    (q309 : PySem.W.findIn K (.ref D_UnknownTie) "tie" = some none)
    (q310 : PySem.W.findIn K (.ref D_TooLarge) "limit" = some none)
    (q311 : PySem.W.findIn K (.ref D_UnknownPlace) "place" = some none)
    (q312 : PySem.W.findIn K (.ref D_UnknownTie) "tie" = some none)
    (q313 : PySem.W.findIn K (.ref D_TooLarge) "__getattribute__" = some (some (.builtin "BaseException.__getattribute__")))
    (q314 : PySem.W.findIn K (.ref D_TooLarge) "__getattr__" = some none)
    (q315 : PySem.W.subIn K (.ref D_TooLarge) (.type "BaseException") = some true)
    (q316 : PySem.W.hasDictIn K D_TooLarge = true)
    (q317 : PySem.W.findIn K (.ref D_UnknownPlace) "__getattribute__" = some (some (.builtin "BaseException.__getattribute__")))
    (q318 : PySem.W.findIn K (.ref D_UnknownPlace) "__getattr__" = some none)
    (q319 : PySem.W.subIn K (.ref D_UnknownPlace) (.type "BaseException") = some true)
    (q320 : PySem.W.hasDictIn K D_UnknownPlace = true)
    (q321 : PySem.W.findIn K (.ref D_UnknownTie) "__getattribute__" = some (some (.builtin "BaseException.__getattribute__")))
    (q322 : PySem.W.findIn K (.ref D_UnknownTie) "__getattr__" = some none)
    (q323 : PySem.W.subIn K (.ref D_UnknownTie) (.type "BaseException") = some true)
    (q324 : PySem.W.hasDictIn K D_UnknownTie = true)
    (q325 : PySem.W.specialIn K (.builtin "object.__class__") "__get__" = some (some (.builtin "getset_descriptor.__get__")))
    (q326 : PySem.W.takesIn K (.builtin "object.__class__") = some true)
    (q327 : PySem.W.findIn K (.ref D_BadSides) "__getattribute__" = some (some (.builtin "BaseException.__getattribute__")))
    (q328 : PySem.W.findIn K (.ref D_BadSides) "__getattr__" = some none)
    (q329 : PySem.W.subIn K (.ref D_BadSides) (.type "BaseException") = some true)
    (q330 : PySem.W.hasDictIn K D_BadSides = true)
    (q331 : PySem.W.findIn K (.ref D_BadSides) "__class__" = some (some (.builtin "object.__class__")))
    (q332 : PySem.W.mroIn K D_BadSides (.type "object") = some true)
    (q333 : PySem.W.findIn K (.ref D_TooLarge) "__getattribute__" = some (some (.builtin "BaseException.__getattribute__")))
    (q334 : PySem.W.findIn K (.ref D_TooLarge) "__getattr__" = some none)
    (q335 : PySem.W.subIn K (.ref D_TooLarge) (.type "BaseException") = some true)
    (q336 : PySem.W.hasDictIn K D_TooLarge = true)
    (q337 : PySem.W.findIn K (.ref D_TooLarge) "__class__" = some (some (.builtin "object.__class__")))
    (q338 : PySem.W.mroIn K D_TooLarge (.type "object") = some true)
    (q339 : PySem.W.findIn K (.ref D_UnknownPlace) "__getattribute__" = some (some (.builtin "BaseException.__getattribute__")))
    (q340 : PySem.W.findIn K (.ref D_UnknownPlace) "__getattr__" = some none)
    (q341 : PySem.W.subIn K (.ref D_UnknownPlace) (.type "BaseException") = some true)
    (q342 : PySem.W.hasDictIn K D_UnknownPlace = true)
    (q343 : PySem.W.findIn K (.ref D_UnknownPlace) "__class__" = some (some (.builtin "object.__class__")))
    (q344 : PySem.W.mroIn K D_UnknownPlace (.type "object") = some true)
    (q345 : PySem.W.findIn K (.ref D_UnknownPoint) "__getattribute__" = some (some (.builtin "BaseException.__getattribute__")))
    (q346 : PySem.W.findIn K (.ref D_UnknownPoint) "__getattr__" = some none)
    (q347 : PySem.W.subIn K (.ref D_UnknownPoint) (.type "BaseException") = some true)
    (q348 : PySem.W.hasDictIn K D_UnknownPoint = true)
    (q349 : PySem.W.findIn K (.ref D_UnknownPoint) "__class__" = some (some (.builtin "object.__class__")))
    (q350 : PySem.W.mroIn K D_UnknownPoint (.type "object") = some true)
    (q351 : PySem.W.findIn K (.ref D_UnknownSide) "__getattribute__" = some (some (.builtin "BaseException.__getattribute__")))
    (q352 : PySem.W.findIn K (.ref D_UnknownSide) "__getattr__" = some none)
    (q353 : PySem.W.subIn K (.ref D_UnknownSide) (.type "BaseException") = some true)
    (q354 : PySem.W.hasDictIn K D_UnknownSide = true)
    (q355 : PySem.W.findIn K (.ref D_UnknownSide) "__class__" = some (some (.builtin "object.__class__")))
    (q356 : PySem.W.mroIn K D_UnknownSide (.type "object") = some true)
    (q357 : PySem.W.findIn K (.ref D_UnknownTie) "__getattribute__" = some (some (.builtin "BaseException.__getattribute__")))
    (q358 : PySem.W.findIn K (.ref D_UnknownTie) "__getattr__" = some none)
    (q359 : PySem.W.subIn K (.ref D_UnknownTie) (.type "BaseException") = some true)
    (q360 : PySem.W.hasDictIn K D_UnknownTie = true)
    (q361 : PySem.W.findIn K (.ref D_UnknownTie) "__class__" = some (some (.builtin "object.__class__")))
    (q362 : PySem.W.mroIn K D_UnknownTie (.type "object") = some true)
    (q363 : PySem.W.clsIn K D_ComesapartError = some cdy_ComesapartError)
    (q364 : PySem.W.typeIn K (.ref D_ComesapartError) = some (.type "type"))
    (q365 : PySem.W.clsIn K D_TooLarge = some cdy_TooLarge)
    (q366 : PySem.W.typeIn K (.ref D_TooLarge) = some (.type "type"))
    (q367 : PySem.W.clsIn K D_UnknownPlace = some cdy_UnknownPlace)
    (q368 : PySem.W.typeIn K (.ref D_UnknownPlace) = some (.type "type"))
    (q369 : PySem.W.clsIn K D_UnknownTie = some cdy_UnknownTie)
    (q370 : PySem.W.typeIn K (.ref D_UnknownTie) = some (.type "type"))
    (q371 : PySem.W.subIn K (.ref D_BadSides) (.ref D_ComesapartError) = some true)
    (q372 : PySem.W.subIn K (.ref D_BadSides) (.ref D_TooLarge) = some false)
    (q373 : PySem.W.subIn K (.ref D_BadSides) (.ref D_UnknownPlace) = some false)
    (q374 : PySem.W.subIn K (.ref D_BadSides) (.ref D_UnknownTie) = some false)
    (q375 : PySem.W.subIn K (.ref D_TooLarge) (.ref D_ComesapartError) = some true)
    (q376 : PySem.W.subIn K (.ref D_TooLarge) (.ref D_TooLarge) = some true)
    (q377 : PySem.W.subIn K (.ref D_TooLarge) (.ref D_UnknownPlace) = some false)
    (q378 : PySem.W.subIn K (.ref D_TooLarge) (.ref D_UnknownTie) = some false)
    (q379 : PySem.W.subIn K (.ref D_UnknownPlace) (.ref D_ComesapartError) = some true)
    (q380 : PySem.W.subIn K (.ref D_UnknownPlace) (.ref D_TooLarge) = some false)
    (q381 : PySem.W.subIn K (.ref D_UnknownPlace) (.ref D_UnknownPlace) = some true)
    (q382 : PySem.W.subIn K (.ref D_UnknownPlace) (.ref D_UnknownTie) = some false)
    (q383 : PySem.W.subIn K (.ref D_UnknownPoint) (.ref D_ComesapartError) = some true)
    (q384 : PySem.W.subIn K (.ref D_UnknownPoint) (.ref D_TooLarge) = some false)
    (q385 : PySem.W.subIn K (.ref D_UnknownPoint) (.ref D_UnknownPlace) = some false)
    (q386 : PySem.W.subIn K (.ref D_UnknownPoint) (.ref D_UnknownTie) = some false)
    (q387 : PySem.W.subIn K (.ref D_UnknownSide) (.ref D_ComesapartError) = some true)
    (q388 : PySem.W.subIn K (.ref D_UnknownSide) (.ref D_TooLarge) = some false)
    (q389 : PySem.W.subIn K (.ref D_UnknownSide) (.ref D_UnknownPlace) = some false)
    (q390 : PySem.W.subIn K (.ref D_UnknownSide) (.ref D_UnknownTie) = some false)
    (q391 : PySem.W.subIn K (.ref D_UnknownTie) (.ref D_ComesapartError) = some true)
    (q392 : PySem.W.subIn K (.ref D_UnknownTie) (.ref D_TooLarge) = some false)
    (q393 : PySem.W.subIn K (.ref D_UnknownTie) (.ref D_UnknownPlace) = some false)
    (q394 : PySem.W.subIn K (.ref D_UnknownTie) (.ref D_UnknownTie) = some true)
    (q395 : PySem.W.subIn K (.ref D_ComesapartError) (.type "BaseException") = some true)
    (q396 : D_BadSides ≠ D_TooLarge)
    (q397 : D_UnknownPlace ≠ D_TooLarge)
    (q398 : D_UnknownPoint ≠ D_TooLarge)
    (q399 : D_UnknownSide ≠ D_TooLarge)
    (q400 : D_UnknownTie ≠ D_TooLarge)
    (q401 : D_BadSides ≠ D_UnknownPlace)
    (q402 : D_TooLarge ≠ D_UnknownPlace)
    (q403 : D_UnknownPoint ≠ D_UnknownPlace)
    (q404 : D_UnknownSide ≠ D_UnknownPlace)
    (q405 : D_UnknownTie ≠ D_UnknownPlace)
    (q406 : D_BadSides ≠ D_UnknownTie)
    (q407 : D_TooLarge ≠ D_UnknownTie)
    (q408 : D_UnknownPlace ≠ D_UnknownTie)
    (q409 : D_UnknownPoint ≠ D_UnknownTie)
    (q410 : D_UnknownSide ≠ D_UnknownTie)
    (q411 : PySem.W.subIn K (.ref D_BadSides) (.type "ValueError") = some true)
    (q412 : PySem.W.subIn K (.ref D_TooLarge) (.type "ValueError") = some true)
    (q413 : PySem.W.subIn K (.ref D_UnknownPlace) (.type "ValueError") = some true)
    (q414 : PySem.W.subIn K (.ref D_UnknownPoint) (.type "ValueError") = some true)
    (q415 : PySem.W.subIn K (.ref D_UnknownSide) (.type "ValueError") = some true)
    (q416 : PySem.W.subIn K (.ref D_UnknownTie) (.type "ValueError") = some true)
    (q417 : PySem.W.nsIn K mainGlobals "ValueError" = some none)
    (q418 : PySem.W.nsIn K mainGlobals "abs" = some none)
    (q419 : PySem.W.nsIn K mainGlobals "bool" = some none)
    (q420 : PySem.W.nsIn K mainGlobals "enumerate" = some none)
    (q421 : PySem.W.nsIn K mainGlobals "int" = some none)
    (q422 : PySem.W.nsIn K mainGlobals "isinstance" = some none)
    (q423 : PySem.W.nsIn K mainGlobals "iter" = some none)
    (q424 : PySem.W.nsIn K mainGlobals "len" = some none)
    (q425 : PySem.W.nsIn K mainGlobals "list" = some none)
    (q426 : PySem.W.nsIn K mainGlobals "max" = some none)
    (q427 : PySem.W.nsIn K mainGlobals "range" = some none)
    (q428 : PySem.W.nsIn K mainGlobals "str" = some none)
    (q429 : PySem.W.nsIn K mainGlobals "sum" = some none)
    (q430 : PySem.W.nsIn K mainGlobals "tuple" = some none)
    : ∃ fd : FuncData, (∀ (s : Shared) (v : Value), BindsTo s fd ⟨[v], []⟩ [("_law_script", v)]) ∧ ∀ base : Heap, K.In base → base.Ns mainGlobals mg → FnOk PySem.Challenge.rw_comesapart_k41_graphs_of_places_and_ties.prog w K mg base CX0 12 fa fd ["_law_script"] (sp_law ⟨PySem.Challenge.rw_comesapart_k41_graphs_of_places_and_ties.prog, w, K⟩) := by
  have e := hfa.symm.trans (PySem.W.mg_of X G q189)
  cases e
  have F0 := fun_mk (st := s_l_seed) q32 q33 q34
  have d0 := F0.binds (ps := ["_law_script", "_law_k"]) fun _ _ _ _ _ _ us hl => match us, hl with | [_, _], _ => rfl
  have F1 := fun_mk (st := s_l_draws) q36 q37 q38
  have d1 := F1.binds (ps := ["_law_cell", "_law_many"]) fun _ _ _ _ _ _ us hl => match us, hl with | [_, _], _ => rfl
  have F2 := fun_mk (st := s_l_pick) q40 q41 q42
  have d2 := F2.binds (ps := ["_law_draws_here", "_law_k", "_law_many"]) fun _ _ _ _ _ _ us hl => match us, hl with | [_, _, _], _ => rfl
  have F3 := fun_mk (st := s_l_crowd) q44 q45 q46
  have d3 := F3.binds (ps := ["_law_draws_here", "_law_extra"]) fun _ _ _ _ _ _ us hl => match us, hl with | [_, _], _ => rfl
  have F4 := fun_mk (st := s_l_rich) q48 q49 q50
  have d4 := F4.binds (ps := ["_law_draws_here", "_law_more", "_law_many", "_law_count"]) fun _ _ _ _ _ _ us hl => match us, hl with | [_, _, _, _], _ => rfl
  have F5 := fun_mk (st := s_l_web) q52 q53 q54
  have d5 := F5.binds (ps := ["_law_draws_here", "_law_most_places", "_law_most_ties"]) fun _ _ _ _ _ _ us hl => match us, hl with | [_, _, _], _ => rfl
  have F6 := fun_mk (st := s_l_world) q56 q57 q58
  have d6 := F6.binds (ps := ["_law_draws_here", "_law_extra"]) fun _ _ _ _ _ _ us hl => match us, hl with | [_, _], _ => rfl
  have F7 := fun_mk (st := s_p_check_end) q60 q61 q62
  have d7 := F7.binds (ps := ["sides", "place", "side"]) fun _ _ _ _ _ _ us hl => match us, hl with | [_, _, _], _ => rfl
  have F8 := fun_mk (st := s_m_WebX_initX) q65 q66 q67
  have d8 := F8.binds (ps := ["self", "sides", "ties"]) fun _ _ _ _ _ _ us hl => match us, hl with | [_, _, _], _ => rfl
  have F9 := fun_mk (st := s_l_firsts) q71 q72 q73
  have d9 := F9.binds (ps := ["_law_sides"]) fun _ _ _ _ _ _ us hl => match us, hl with | [_], _ => rfl
  have F10 := fun_mk (st := s_m_WebX_containsX) q76 q77 q78
  have d10 := F10.binds (ps := ["self", "place"]) fun _ _ _ _ _ _ us hl => match us, hl with | [_, _], _ => rfl
  have F11 := fun_mk (st := s_p_check_place) q80 q81 q82
  have d11 := F11.binds (ps := ["web", "place"]) fun _ _ _ _ _ _ us hl => match us, hl with | [_, _], _ => rfl
  have F12 := fun_mk (st := s_p_first_pairs) q84 q85 q86
  have d12 := F12.binds (ps := ["web"]) fun _ _ _ _ _ _ us hl => match us, hl with | [_], _ => rfl
  have F13 := fun_mk (st := s_m_WebX_iterX) q89 q90 q91
  have d13 := F13.binds (ps := ["self"]) fun _ _ _ _ _ _ us hl => match us, hl with | [_], _ => rfl
  have F14 := fun_mk (st := s_p_seat) q93 q94 q95
  have d14 := F14.binds (ps := ["web", "first", "place", "side"]) fun _ _ _ _ _ _ us hl => match us, hl with | [_, _, _, _], _ => rfl
  have F15 := fun_mk (st := s_p_inner_ties) q97 q98 q99
  have d15 := F15.binds (ps := ["first", "many"]) fun _ _ _ _ _ _ us hl => match us, hl with | [_, _], _ => rfl
  have F16 := fun_mk (st := s_m_PairedWebX_initX) q102 q103 q104
  have d16 := F16.binds (ps := ["self", "pairs", "free"]) fun _ _ _ _ _ _ us hl => match us, hl with | [_, _, _], _ => rfl
  have F17 := fun_mk (st := s_p_paired_of_web) q108 q109 q110
  have d17 := F17.binds (ps := ["web"]) fun _ _ _ _ _ _ us hl => match us, hl with | [_], _ => rfl
  have F18 := fun_mk (st := s_p_pair_at) q112 q113 q114
  have d18 := F18.binds (ps := ["web", "place"]) fun _ _ _ _ _ _ us hl => match us, hl with | [_, _], _ => rfl
  have F19 := fun_mk (st := s_m_PairedWeb_points) q119 q120 q121
  have d19 := F19.binds (ps := ["self"]) fun _ _ _ _ _ _ us hl => match us, hl with | [_], _ => rfl
  have F20 := fun_mk (st := s_m_PairedWeb_all_ties) q126 q127 q128
  have d20 := F20.binds (ps := ["self"]) fun _ _ _ _ _ _ us hl => match us, hl with | [_], _ => rfl
  have F21 := fun_mk (st := s_p_place_graph) q130 q131 q132
  have d21 := F21.binds (ps := ["web", "place"]) fun _ _ _ _ _ _ us hl => match us, hl with | [_, _], _ => rfl
  have F22 := fun_mk (st := s_p_check_tie) q134 q135 q136
  have d22 := F22.binds (ps := ["web", "tie"]) fun _ _ _ _ _ _ us hl => match us, hl with | [_, _], _ => rfl
  have F23 := fun_mk (st := s_p_tie_graph) q138 q139 q140
  have d23 := F23.binds (ps := ["web", "tie"]) fun _ _ _ _ _ _ us hl => match us, hl with | [_, _], _ => rfl
  have F24 := fun_mk (st := s_p_cycle_through_place) q142 q143 q144
  have d24 := F24.binds (ps := ["web", "place"]) fun _ _ _ _ _ _ us hl => match us, hl with | [_, _], _ => rfl
  have F25 := fun_mk (st := s_p_tie_answer) q146 q147 q148
  have d25 := F25.binds (ps := ["web", "paired", "tie"]) fun _ _ _ _ _ _ us hl => match us, hl with | [_, _, _], _ => rfl
  have F26 := fun_mk (st := s_p_cycle_through_tie) q150 q151 q152
  have d26 := F26.binds (ps := ["web", "tie"]) fun _ _ _ _ _ _ us hl => match us, hl with | [_, _], _ => rfl
  have F27 := fun_mk (st := s_p_on_cycles) q154 q155 q156
  have d27 := F27.binds (ps := ["web"]) fun _ _ _ _ _ _ us hl => match us, hl with | [_], _ => rfl
  have F28 := fun_mk (st := s_l_told) q158 q159 q160
  have d28 := F28.binds (ps := ["_law_deed", "_law_web_here", "_law_number"]) fun _ _ _ _ _ _ us hl => match us, hl with | [_, _, _], _ => rfl
  have F29 := fun_mk (st := s_l_same) q162 q163 q164
  have d29 := F29.binds (ps := ["_law_told_here", "_law_due_here"]) fun _ _ _ _ _ _ us hl => match us, hl with | [_, _], _ => rfl
  have F30 := fun_mk (st := s_l_refused) q166 q167 q168
  have d30 := F30.binds (ps := ["_law_web_here", "_law_sides", "_law_ties", "_law_draws_here", "_law_at"]) fun _ _ _ _ _ _ us hl => match us, hl with | [_, _, _, _, _], _ => rfl
  have F31 := fun_mk (st := s_l_large) q170 q171 q172
  have d31 := F31.binds (ps := ["_law_web_here", "_law_sides", "_law_ties", "_law_limit"]) fun _ _ _ _ _ _ us hl => match us, hl with | [_, _, _, _], _ => rfl
  have F32 := fun_mk (st := s_l_point) q174 q175 q176
  have d32 := F32.binds (ps := ["_law_sides", "_law_firsts_here", "_law_place", "_law_side"]) fun _ _ _ _ _ _ us hl => match us, hl with | [_, _, _, _], _ => rfl
  have F33 := fun_mk (st := s_l_free) q178 q179 q180
  have d33 := F33.binds (ps := ["_law_sides", "_law_ties"]) fun _ _ _ _ _ _ us hl => match us, hl with | [_, _], _ => rfl
  have F34 := fun_mk (st := s_l_due) q182 q183 q184
  have d34 := F34.binds (ps := ["_law_deed", "_law_sides", "_law_ties", "_law_number"]) fun _ _ _ _ _ _ us hl => match us, hl with | [_, _, _, _], _ => rfl
  have F35 := fun_mk (st := s_l_graphs_right) q186 q187 q188
  have d35 := F35.binds (ps := ["_law_web_here", "_law_sides", "_law_ties"]) fun _ _ _ _ _ _ us hl => match us, hl with | [_, _, _], _ => rfl
  have F36 := fun_mk (st := s_law) q190 q191 q192
  have d36 := F36.binds (ps := ["_law_script"]) fun _ _ _ _ _ _ us hl => match us, hl with | [_], _ => rfl
  let T : Txt K mg := {
    A := ⟨fun c => match c with | .BadSides => D_BadSides | .ComesapartError => D_ComesapartError | .TooLarge => D_TooLarge | .UnknownPlace => D_UnknownPlace | .UnknownPoint => D_UnknownPoint | .UnknownSide => D_UnknownSide | .UnknownTie => D_UnknownTie | _ => 0, fun c => match c with | .PairedWeb => C_PairedWeb | .Web => C_Web | _ => 0⟩
    g_PairedWeb := PySem.W.mg_of X G q0
    c_PairedWeb := ⟨q1, q2, q3, q4⟩
    g_Web := PySem.W.mg_of X G q5
    c_Web := ⟨q6, q7, q8, q9⟩
    n_PairedWeb_free := q10
    n_PairedWeb_pairs := q11
    n_Web_sides := q12
    n_Web_ties := q13
    u_PairedWeb_MOST_FREE := _
    k_PairedWeb_MOST_FREE := ⟨q14, ⟨_, rfl⟩, q15, by decide +kernel⟩
    u_PairedWeb_MOST_PAIRS := _
    k_PairedWeb_MOST_PAIRS := ⟨q16, ⟨_, rfl⟩, q17, by decide +kernel⟩
    u_Web_MOST_PLACES := _
    k_Web_MOST_PLACES := ⟨q18, ⟨_, rfl⟩, q19, by decide +kernel⟩
    u_Web_MOST_SIDES := _
    k_Web_MOST_SIDES := ⟨q20, ⟨_, rfl⟩, q21, by decide +kernel⟩
    u_Web_MOST_TIES := _
    k_Web_MOST_TIES := ⟨q22, ⟨_, rfl⟩, q23, by decide +kernel⟩
    g_BadSides := PySem.W.mg_of X G q24
    g_ComesapartError := PySem.W.mg_of X G q25
    g_TooLarge := PySem.W.mg_of X G q26
    g_UnknownPlace := PySem.W.mg_of X G q27
    g_UnknownPoint := PySem.W.mg_of X G q28
    g_UnknownSide := PySem.W.mg_of X G q29
    g_UnknownTie := PySem.W.mg_of X G q30
    g_l_seed := PySem.W.mg_of X G q31
    a_l_seed := _
    f_l_seed := _
    F_l_seed := F0
    d_l_seed := d0
    g_l_draws := PySem.W.mg_of X G q35
    a_l_draws := _
    f_l_draws := _
    F_l_draws := F1
    d_l_draws := d1
    g_l_pick := PySem.W.mg_of X G q39
    a_l_pick := _
    f_l_pick := _
    F_l_pick := F2
    d_l_pick := d2
    g_l_crowd := PySem.W.mg_of X G q43
    a_l_crowd := _
    f_l_crowd := _
    F_l_crowd := F3
    d_l_crowd := d3
    g_l_rich := PySem.W.mg_of X G q47
    a_l_rich := _
    f_l_rich := _
    F_l_rich := F4
    d_l_rich := d4
    g_l_web := PySem.W.mg_of X G q51
    a_l_web := _
    f_l_web := _
    F_l_web := F5
    d_l_web := d5
    g_l_world := PySem.W.mg_of X G q55
    a_l_world := _
    f_l_world := _
    F_l_world := F6
    d_l_world := d6
    g_p_check_end := PySem.W.mg_of X G q59
    a_p_check_end := _
    f_p_check_end := _
    F_p_check_end := F7
    d_p_check_end := d7
    a_m_WebX_initX := _
    f_m_WebX_initX := _
    F_m_WebX_initX := F8
    d_m_WebX_initX := d8
    mk_Web := ⟨q68, q63, q64, q69⟩
    g_l_firsts := PySem.W.mg_of X G q70
    a_l_firsts := _
    f_l_firsts := _
    F_l_firsts := F9
    d_l_firsts := d9
    a_m_WebX_containsX := _
    f_m_WebX_containsX := _
    F_m_WebX_containsX := F10
    d_m_WebX_containsX := d10
    me_m_WebX_containsX := ⟨q74, q75, q78⟩
    g_p_check_place := PySem.W.mg_of X G q79
    a_p_check_place := _
    f_p_check_place := _
    F_p_check_place := F11
    d_p_check_place := d11
    g_p_first_pairs := PySem.W.mg_of X G q83
    a_p_first_pairs := _
    f_p_first_pairs := _
    F_p_first_pairs := F12
    d_p_first_pairs := d12
    a_m_WebX_iterX := _
    f_m_WebX_iterX := _
    F_m_WebX_iterX := F13
    d_m_WebX_iterX := d13
    me_m_WebX_iterX := ⟨q87, q88, q91⟩
    g_p_seat := PySem.W.mg_of X G q92
    a_p_seat := _
    f_p_seat := _
    F_p_seat := F14
    d_p_seat := d14
    g_p_inner_ties := PySem.W.mg_of X G q96
    a_p_inner_ties := _
    f_p_inner_ties := _
    F_p_inner_ties := F15
    d_p_inner_ties := d15
    a_m_PairedWebX_initX := _
    f_m_PairedWebX_initX := _
    F_m_PairedWebX_initX := F16
    d_m_PairedWebX_initX := d16
    mk_PairedWeb := ⟨q105, q100, q101, q106⟩
    g_p_paired_of_web := PySem.W.mg_of X G q107
    a_p_paired_of_web := _
    f_p_paired_of_web := _
    F_p_paired_of_web := F17
    d_p_paired_of_web := d17
    g_p_pair_at := PySem.W.mg_of X G q111
    a_p_pair_at := _
    f_p_pair_at := _
    F_p_pair_at := F18
    d_p_pair_at := d18
    a_m_PairedWeb_points := _
    f_m_PairedWeb_points := _
    F_m_PairedWeb_points := F19
    d_m_PairedWeb_points := d19
    q_m_PairedWeb_points := _
    p_m_PairedWeb_points := ⟨q115, q116, q117, ⟨_, q118⟩⟩
    a_m_PairedWeb_all_ties := _
    f_m_PairedWeb_all_ties := _
    F_m_PairedWeb_all_ties := F20
    d_m_PairedWeb_all_ties := d20
    q_m_PairedWeb_all_ties := _
    p_m_PairedWeb_all_ties := ⟨q122, q123, q124, ⟨_, q125⟩⟩
    g_p_place_graph := PySem.W.mg_of X G q129
    a_p_place_graph := _
    f_p_place_graph := _
    F_p_place_graph := F21
    d_p_place_graph := d21
    g_p_check_tie := PySem.W.mg_of X G q133
    a_p_check_tie := _
    f_p_check_tie := _
    F_p_check_tie := F22
    d_p_check_tie := d22
    g_p_tie_graph := PySem.W.mg_of X G q137
    a_p_tie_graph := _
    f_p_tie_graph := _
    F_p_tie_graph := F23
    d_p_tie_graph := d23
    g_p_cycle_through_place := PySem.W.mg_of X G q141
    a_p_cycle_through_place := _
    f_p_cycle_through_place := _
    F_p_cycle_through_place := F24
    d_p_cycle_through_place := d24
    g_p_tie_answer := PySem.W.mg_of X G q145
    a_p_tie_answer := _
    f_p_tie_answer := _
    F_p_tie_answer := F25
    d_p_tie_answer := d25
    g_p_cycle_through_tie := PySem.W.mg_of X G q149
    a_p_cycle_through_tie := _
    f_p_cycle_through_tie := _
    F_p_cycle_through_tie := F26
    d_p_cycle_through_tie := d26
    g_p_on_cycles := PySem.W.mg_of X G q153
    a_p_on_cycles := _
    f_p_on_cycles := _
    F_p_on_cycles := F27
    d_p_on_cycles := d27
    g_l_told := PySem.W.mg_of X G q157
    a_l_told := _
    f_l_told := _
    F_l_told := F28
    d_l_told := d28
    g_l_same := PySem.W.mg_of X G q161
    a_l_same := _
    f_l_same := _
    F_l_same := F29
    d_l_same := d29
    g_l_refused := PySem.W.mg_of X G q165
    a_l_refused := _
    f_l_refused := _
    F_l_refused := F30
    d_l_refused := d30
    g_l_large := PySem.W.mg_of X G q169
    a_l_large := _
    f_l_large := _
    F_l_large := F31
    d_l_large := d31
    g_l_point := PySem.W.mg_of X G q173
    a_l_point := _
    f_l_point := _
    F_l_point := F32
    d_l_point := d32
    g_l_free := PySem.W.mg_of X G q177
    a_l_free := _
    f_l_free := _
    F_l_free := F33
    d_l_free := d33
    g_l_due := PySem.W.mg_of X G q181
    a_l_due := _
    f_l_due := _
    F_l_due := F34
    d_l_due := d34
    g_l_graphs_right := PySem.W.mg_of X G q185
    a_l_graphs_right := _
    f_l_graphs_right := _
    F_l_graphs_right := F35
    d_l_graphs_right := d35
    g_law := PySem.W.mg_of X G q189
    a_law := _
    f_law := _
    F_law := F36
    d_law := d36
    i_BadSides := xf_BadSides
    fx_BadSides := (initNF "__init__" "BadSides.__init__" ((clsB (topS 5)).getD 0 (.Pass ⟨0, 0, 0, 0⟩)) cc_BadSides cda_BadSides).fd xdc_BadSides xpm_BadSides xct_BadSides
    x_BadSides := ⟨⟨⟨_, _, _, _, _, _, _, _, _, _, _, _, _, _, _, q195, q196⟩, q197, q198, q199, q200⟩, ⟨_, q201⟩, q202, q203, q204, q205, q206⟩
    dx_BadSides := fun s us _ hl => BindsTo.of_eq (match us, hl with | [_, _], _ => rfl)
    i_TooLarge := xf_TooLarge
    fx_TooLarge := (initNF "__init__" "TooLarge.__init__" ((clsB (topS 3)).getD 0 (.Pass ⟨0, 0, 0, 0⟩)) cc_TooLarge cda_TooLarge).fd xdc_TooLarge xpm_TooLarge xct_TooLarge
    x_TooLarge := ⟨⟨⟨_, _, _, _, _, _, _, _, _, _, _, _, _, _, _, q214, q215⟩, q216, q217, q218, q219⟩, ⟨_, q220⟩, q221, q222, q223, q224, q225⟩
    dx_TooLarge := fun s us _ hl => BindsTo.of_eq (match us, hl with | [_, _], _ => rfl)
    i_UnknownPlace := xf_UnknownPlace
    fx_UnknownPlace := (initNF "__init__" "UnknownPlace.__init__" ((clsB (topS 4)).getD 0 (.Pass ⟨0, 0, 0, 0⟩)) cc_UnknownPlace cda_UnknownPlace).fd xdc_UnknownPlace xpm_UnknownPlace xct_UnknownPlace
    x_UnknownPlace := ⟨⟨⟨_, _, _, _, _, _, _, _, _, _, _, _, _, _, _, q233, q234⟩, q235, q236, q237, q238⟩, ⟨_, q239⟩, q240, q241, q242, q243, q244⟩
    dx_UnknownPlace := fun s us _ hl => BindsTo.of_eq (match us, hl with | [_, _], _ => rfl)
    i_UnknownPoint := xf_UnknownPoint
    fx_UnknownPoint := (initNF "__init__" "UnknownPoint.__init__" ((clsB (topS 8)).getD 0 (.Pass ⟨0, 0, 0, 0⟩)) cc_UnknownPoint cda_UnknownPoint).fd xdc_UnknownPoint xpm_UnknownPoint xct_UnknownPoint
    x_UnknownPoint := ⟨⟨⟨_, _, _, _, _, _, _, _, _, _, _, _, _, _, _, q252, q253⟩, q254, q255, q256, q257⟩, ⟨_, q258⟩, q259, q260, q261, q262, q263⟩
    dx_UnknownPoint := fun s us _ hl => BindsTo.of_eq (match us, hl with | [_, _], _ => rfl)
    i_UnknownSide := xf_UnknownSide
    fx_UnknownSide := (initNF "__init__" "UnknownSide.__init__" ((clsB (topS 6)).getD 0 (.Pass ⟨0, 0, 0, 0⟩)) cc_UnknownSide cda_UnknownSide).fd xdc_UnknownSide xpm_UnknownSide xct_UnknownSide
    x_UnknownSide := ⟨⟨⟨_, _, _, _, _, _, _, _, _, _, _, _, _, _, _, q271, q272⟩, q273, q274, q275, q276⟩, ⟨_, q277⟩, q278, q279, q280, q281, q282⟩
    dx_UnknownSide := fun s us _ hl => BindsTo.of_eq (match us, hl with | [_, _, _], _ => rfl)
    i_UnknownTie := xf_UnknownTie
    fx_UnknownTie := (initNF "__init__" "UnknownTie.__init__" ((clsB (topS 7)).getD 0 (.Pass ⟨0, 0, 0, 0⟩)) cc_UnknownTie cda_UnknownTie).fd xdc_UnknownTie xpm_UnknownTie xct_UnknownTie
    x_UnknownTie := ⟨⟨⟨_, _, _, _, _, _, _, _, _, _, _, _, _, _, _, q291, q292⟩, q293, q294, q295, q296⟩, ⟨_, q297⟩, q298, q299, q300, q301, q302⟩
    dx_UnknownTie := fun s us _ hl => BindsTo.of_eq (match us, hl with | [_, _], _ => rfl)
    no_TooLarge_limit := q310
    no_UnknownPlace_place := q311
    no_UnknownTie_tie := q312
    xf_TooLarge := ⟨q313, q314, q315, q316⟩
    xf_UnknownPlace := ⟨q317, q318, q319, q320⟩
    xf_UnknownTie := ⟨q321, q322, q323, q324⟩
    exc := fun c hc => by
      revert hc
      cases c with
      | NotAPairing => exact fun h => absurd h (by decide)
      | NothingToUndo => exact fun h => absurd h (by decide)
      | NothingToRedo => exact fun h => absurd h (by decide)
      | BadLabel => exact fun h => absurd h (by decide)
      | NameTaken => exact fun h => absurd h (by decide)
      | NoSuchName => exact fun h => absurd h (by decide)
      | StillTied => exact fun h => absurd h (by decide)
      | ComesapartError => exact fun h => absurd h (by decide)
      | TooLarge => exact fun _ => ⟨q333, q334, q335, q336, q337, q325, q326, q338⟩
      | BadLine => exact fun h => absurd h (by decide)
      | UnknownPlace => exact fun _ => ⟨q339, q340, q341, q342, q343, q325, q326, q344⟩
      | BadSides => exact fun _ => ⟨q327, q328, q329, q330, q331, q325, q326, q332⟩
      | UnknownSide => exact fun _ => ⟨q351, q352, q353, q354, q355, q325, q326, q356⟩
      | UnknownTie => exact fun _ => ⟨q357, q358, q359, q360, q361, q325, q326, q362⟩
      | BadStep => exact fun h => absurd h (by decide)
      | Repeated => exact fun h => absurd h (by decide)
      | NotATurningCycle => exact fun h => absurd h (by decide)
      | UnknownPoint => exact fun _ => ⟨q345, q346, q347, q348, q349, q325, q326, q350⟩
      | UnknownPair => exact fun h => absurd h (by decide)
      | SamePoint => exact fun h => absurd h (by decide)
      | NoLinks => exact fun h => absurd h (by decide)
      | BadLink => exact fun h => absurd h (by decide)
      | BadNode => exact fun h => absurd h (by decide)
      | UnknownTerm => exact fun h => absurd h (by decide)
      | NotSameSteps => exact fun h => absurd h (by decide)
      | NoFacing => exact fun h => absurd h (by decide)
      | NotARing => exact fun h => absurd h (by decide)
      | NotAJoint => exact fun h => absurd h (by decide)
      | NotShut => exact fun h => absurd h (by decide)
      | BadCut => exact fun h => absurd h (by decide)
      | NoSuchCut => exact fun h => absurd h (by decide)
      | Locked => exact fun h => absurd h (by decide)
      | Nothing => exact fun h => absurd h (by decide)
      | BadName => exact fun h => absurd h (by decide)
      | BadSign => exact fun h => absurd h (by decide)
      | BadMove => exact fun h => absurd h (by decide)
      | NoTerm => exact fun h => absurd h (by decide)
      | NeverOpened => exact fun h => absurd h (by decide)
      | BoundTwice => exact fun h => absurd h (by decide)
      | UnknownName => exact fun h => absurd h (by decide)
      | UsedTwice => exact fun h => absurd h (by decide)
      | NotUsed => exact fun h => absurd h (by decide)
      | NotARedex => exact fun h => absurd h (by decide)
      | NotBalanced => exact fun h => absurd h (by decide)
      | NotAnArrow => exact fun h => absurd h (by decide)
      | NotAPermutation => exact fun h => absurd h (by decide)
      | BadSetting => exact fun h => absurd h (by decide)
      | BadSigns => exact fun h => absurd h (by decide)
      | BadChoice => exact fun h => absurd h (by decide)
      | NotOuter => exact fun h => absurd h (by decide)
    hx_ComesapartError := fun c hc => by
      revert hc
      cases c with
      | NotAPairing => exact fun h => absurd h (by decide)
      | NothingToUndo => exact fun h => absurd h (by decide)
      | NothingToRedo => exact fun h => absurd h (by decide)
      | BadLabel => exact fun h => absurd h (by decide)
      | NameTaken => exact fun h => absurd h (by decide)
      | NoSuchName => exact fun h => absurd h (by decide)
      | StillTied => exact fun h => absurd h (by decide)
      | ComesapartError => exact fun h => absurd h (by decide)
      | TooLarge => exact fun _ => exm_ref q395 q363 q364 q375
      | BadLine => exact fun h => absurd h (by decide)
      | UnknownPlace => exact fun _ => exm_ref q395 q363 q364 q379
      | BadSides => exact fun _ => exm_ref q395 q363 q364 q371
      | UnknownSide => exact fun _ => exm_ref q395 q363 q364 q387
      | UnknownTie => exact fun _ => exm_ref q395 q363 q364 q391
      | BadStep => exact fun h => absurd h (by decide)
      | Repeated => exact fun h => absurd h (by decide)
      | NotATurningCycle => exact fun h => absurd h (by decide)
      | UnknownPoint => exact fun _ => exm_ref q395 q363 q364 q383
      | UnknownPair => exact fun h => absurd h (by decide)
      | SamePoint => exact fun h => absurd h (by decide)
      | NoLinks => exact fun h => absurd h (by decide)
      | BadLink => exact fun h => absurd h (by decide)
      | BadNode => exact fun h => absurd h (by decide)
      | UnknownTerm => exact fun h => absurd h (by decide)
      | NotSameSteps => exact fun h => absurd h (by decide)
      | NoFacing => exact fun h => absurd h (by decide)
      | NotARing => exact fun h => absurd h (by decide)
      | NotAJoint => exact fun h => absurd h (by decide)
      | NotShut => exact fun h => absurd h (by decide)
      | BadCut => exact fun h => absurd h (by decide)
      | NoSuchCut => exact fun h => absurd h (by decide)
      | Locked => exact fun h => absurd h (by decide)
      | Nothing => exact fun h => absurd h (by decide)
      | BadName => exact fun h => absurd h (by decide)
      | BadSign => exact fun h => absurd h (by decide)
      | BadMove => exact fun h => absurd h (by decide)
      | NoTerm => exact fun h => absurd h (by decide)
      | NeverOpened => exact fun h => absurd h (by decide)
      | BoundTwice => exact fun h => absurd h (by decide)
      | UnknownName => exact fun h => absurd h (by decide)
      | UsedTwice => exact fun h => absurd h (by decide)
      | NotUsed => exact fun h => absurd h (by decide)
      | NotARedex => exact fun h => absurd h (by decide)
      | NotBalanced => exact fun h => absurd h (by decide)
      | NotAnArrow => exact fun h => absurd h (by decide)
      | NotAPermutation => exact fun h => absurd h (by decide)
      | BadSetting => exact fun h => absurd h (by decide)
      | BadSigns => exact fun h => absurd h (by decide)
      | BadChoice => exact fun h => absurd h (by decide)
      | NotOuter => exact fun h => absurd h (by decide)
    kx_TooLarge := fun c hc => by
      revert hc
      cases c with
      | NotAPairing => exact fun h => absurd h (by decide)
      | NothingToUndo => exact fun h => absurd h (by decide)
      | NothingToRedo => exact fun h => absurd h (by decide)
      | BadLabel => exact fun h => absurd h (by decide)
      | NameTaken => exact fun h => absurd h (by decide)
      | NoSuchName => exact fun h => absurd h (by decide)
      | StillTied => exact fun h => absurd h (by decide)
      | ComesapartError => exact fun h => absurd h (by decide)
      | TooLarge => exact fun _ => kit_refT q365 q366 q376
      | BadLine => exact fun h => absurd h (by decide)
      | UnknownPlace => exact fun _ => kit_refF q397 q365 q366 q380
      | BadSides => exact fun _ => kit_refF q396 q365 q366 q372
      | UnknownSide => exact fun _ => kit_refF q399 q365 q366 q388
      | UnknownTie => exact fun _ => kit_refF q400 q365 q366 q392
      | BadStep => exact fun h => absurd h (by decide)
      | Repeated => exact fun h => absurd h (by decide)
      | NotATurningCycle => exact fun h => absurd h (by decide)
      | UnknownPoint => exact fun _ => kit_refF q398 q365 q366 q384
      | UnknownPair => exact fun h => absurd h (by decide)
      | SamePoint => exact fun h => absurd h (by decide)
      | NoLinks => exact fun h => absurd h (by decide)
      | BadLink => exact fun h => absurd h (by decide)
      | BadNode => exact fun h => absurd h (by decide)
      | UnknownTerm => exact fun h => absurd h (by decide)
      | NotSameSteps => exact fun h => absurd h (by decide)
      | NoFacing => exact fun h => absurd h (by decide)
      | NotARing => exact fun h => absurd h (by decide)
      | NotAJoint => exact fun h => absurd h (by decide)
      | NotShut => exact fun h => absurd h (by decide)
      | BadCut => exact fun h => absurd h (by decide)
      | NoSuchCut => exact fun h => absurd h (by decide)
      | Locked => exact fun h => absurd h (by decide)
      | Nothing => exact fun h => absurd h (by decide)
      | BadName => exact fun h => absurd h (by decide)
      | BadSign => exact fun h => absurd h (by decide)
      | BadMove => exact fun h => absurd h (by decide)
      | NoTerm => exact fun h => absurd h (by decide)
      | NeverOpened => exact fun h => absurd h (by decide)
      | BoundTwice => exact fun h => absurd h (by decide)
      | UnknownName => exact fun h => absurd h (by decide)
      | UsedTwice => exact fun h => absurd h (by decide)
      | NotUsed => exact fun h => absurd h (by decide)
      | NotARedex => exact fun h => absurd h (by decide)
      | NotBalanced => exact fun h => absurd h (by decide)
      | NotAnArrow => exact fun h => absurd h (by decide)
      | NotAPermutation => exact fun h => absurd h (by decide)
      | BadSetting => exact fun h => absurd h (by decide)
      | BadSigns => exact fun h => absurd h (by decide)
      | BadChoice => exact fun h => absurd h (by decide)
      | NotOuter => exact fun h => absurd h (by decide)
    kx_UnknownPlace := fun c hc => by
      revert hc
      cases c with
      | NotAPairing => exact fun h => absurd h (by decide)
      | NothingToUndo => exact fun h => absurd h (by decide)
      | NothingToRedo => exact fun h => absurd h (by decide)
      | BadLabel => exact fun h => absurd h (by decide)
      | NameTaken => exact fun h => absurd h (by decide)
      | NoSuchName => exact fun h => absurd h (by decide)
      | StillTied => exact fun h => absurd h (by decide)
      | ComesapartError => exact fun h => absurd h (by decide)
      | TooLarge => exact fun _ => kit_refF q402 q367 q368 q377
      | BadLine => exact fun h => absurd h (by decide)
      | UnknownPlace => exact fun _ => kit_refT q367 q368 q381
      | BadSides => exact fun _ => kit_refF q401 q367 q368 q373
      | UnknownSide => exact fun _ => kit_refF q404 q367 q368 q389
      | UnknownTie => exact fun _ => kit_refF q405 q367 q368 q393
      | BadStep => exact fun h => absurd h (by decide)
      | Repeated => exact fun h => absurd h (by decide)
      | NotATurningCycle => exact fun h => absurd h (by decide)
      | UnknownPoint => exact fun _ => kit_refF q403 q367 q368 q385
      | UnknownPair => exact fun h => absurd h (by decide)
      | SamePoint => exact fun h => absurd h (by decide)
      | NoLinks => exact fun h => absurd h (by decide)
      | BadLink => exact fun h => absurd h (by decide)
      | BadNode => exact fun h => absurd h (by decide)
      | UnknownTerm => exact fun h => absurd h (by decide)
      | NotSameSteps => exact fun h => absurd h (by decide)
      | NoFacing => exact fun h => absurd h (by decide)
      | NotARing => exact fun h => absurd h (by decide)
      | NotAJoint => exact fun h => absurd h (by decide)
      | NotShut => exact fun h => absurd h (by decide)
      | BadCut => exact fun h => absurd h (by decide)
      | NoSuchCut => exact fun h => absurd h (by decide)
      | Locked => exact fun h => absurd h (by decide)
      | Nothing => exact fun h => absurd h (by decide)
      | BadName => exact fun h => absurd h (by decide)
      | BadSign => exact fun h => absurd h (by decide)
      | BadMove => exact fun h => absurd h (by decide)
      | NoTerm => exact fun h => absurd h (by decide)
      | NeverOpened => exact fun h => absurd h (by decide)
      | BoundTwice => exact fun h => absurd h (by decide)
      | UnknownName => exact fun h => absurd h (by decide)
      | UsedTwice => exact fun h => absurd h (by decide)
      | NotUsed => exact fun h => absurd h (by decide)
      | NotARedex => exact fun h => absurd h (by decide)
      | NotBalanced => exact fun h => absurd h (by decide)
      | NotAnArrow => exact fun h => absurd h (by decide)
      | NotAPermutation => exact fun h => absurd h (by decide)
      | BadSetting => exact fun h => absurd h (by decide)
      | BadSigns => exact fun h => absurd h (by decide)
      | BadChoice => exact fun h => absurd h (by decide)
      | NotOuter => exact fun h => absurd h (by decide)
    kx_UnknownTie := fun c hc => by
      revert hc
      cases c with
      | NotAPairing => exact fun h => absurd h (by decide)
      | NothingToUndo => exact fun h => absurd h (by decide)
      | NothingToRedo => exact fun h => absurd h (by decide)
      | BadLabel => exact fun h => absurd h (by decide)
      | NameTaken => exact fun h => absurd h (by decide)
      | NoSuchName => exact fun h => absurd h (by decide)
      | StillTied => exact fun h => absurd h (by decide)
      | ComesapartError => exact fun h => absurd h (by decide)
      | TooLarge => exact fun _ => kit_refF q407 q369 q370 q378
      | BadLine => exact fun h => absurd h (by decide)
      | UnknownPlace => exact fun _ => kit_refF q408 q369 q370 q382
      | BadSides => exact fun _ => kit_refF q406 q369 q370 q374
      | UnknownSide => exact fun _ => kit_refF q410 q369 q370 q390
      | UnknownTie => exact fun _ => kit_refT q369 q370 q394
      | BadStep => exact fun h => absurd h (by decide)
      | Repeated => exact fun h => absurd h (by decide)
      | NotATurningCycle => exact fun h => absurd h (by decide)
      | UnknownPoint => exact fun _ => kit_refF q409 q369 q370 q386
      | UnknownPair => exact fun h => absurd h (by decide)
      | SamePoint => exact fun h => absurd h (by decide)
      | NoLinks => exact fun h => absurd h (by decide)
      | BadLink => exact fun h => absurd h (by decide)
      | BadNode => exact fun h => absurd h (by decide)
      | UnknownTerm => exact fun h => absurd h (by decide)
      | NotSameSteps => exact fun h => absurd h (by decide)
      | NoFacing => exact fun h => absurd h (by decide)
      | NotARing => exact fun h => absurd h (by decide)
      | NotAJoint => exact fun h => absurd h (by decide)
      | NotShut => exact fun h => absurd h (by decide)
      | BadCut => exact fun h => absurd h (by decide)
      | NoSuchCut => exact fun h => absurd h (by decide)
      | Locked => exact fun h => absurd h (by decide)
      | Nothing => exact fun h => absurd h (by decide)
      | BadName => exact fun h => absurd h (by decide)
      | BadSign => exact fun h => absurd h (by decide)
      | BadMove => exact fun h => absurd h (by decide)
      | NoTerm => exact fun h => absurd h (by decide)
      | NeverOpened => exact fun h => absurd h (by decide)
      | BoundTwice => exact fun h => absurd h (by decide)
      | UnknownName => exact fun h => absurd h (by decide)
      | UsedTwice => exact fun h => absurd h (by decide)
      | NotUsed => exact fun h => absurd h (by decide)
      | NotARedex => exact fun h => absurd h (by decide)
      | NotBalanced => exact fun h => absurd h (by decide)
      | NotAnArrow => exact fun h => absurd h (by decide)
      | NotAPermutation => exact fun h => absurd h (by decide)
      | BadSetting => exact fun h => absurd h (by decide)
      | BadSigns => exact fun h => absurd h (by decide)
      | BadChoice => exact fun h => absurd h (by decide)
      | NotOuter => exact fun h => absurd h (by decide)
    kx_ValueError := fun c hc => by
      revert hc
      cases c with
      | NotAPairing => exact fun h => absurd h (by decide)
      | NothingToUndo => exact fun h => absurd h (by decide)
      | NothingToRedo => exact fun h => absurd h (by decide)
      | BadLabel => exact fun h => absurd h (by decide)
      | NameTaken => exact fun h => absurd h (by decide)
      | NoSuchName => exact fun h => absurd h (by decide)
      | StillTied => exact fun h => absurd h (by decide)
      | ComesapartError => exact fun h => absurd h (by decide)
      | TooLarge => exact fun _ => kit_VE q412
      | BadLine => exact fun h => absurd h (by decide)
      | UnknownPlace => exact fun _ => kit_VE q413
      | BadSides => exact fun _ => kit_VE q411
      | UnknownSide => exact fun _ => kit_VE q415
      | UnknownTie => exact fun _ => kit_VE q416
      | BadStep => exact fun h => absurd h (by decide)
      | Repeated => exact fun h => absurd h (by decide)
      | NotATurningCycle => exact fun h => absurd h (by decide)
      | UnknownPoint => exact fun _ => kit_VE q414
      | UnknownPair => exact fun h => absurd h (by decide)
      | SamePoint => exact fun h => absurd h (by decide)
      | NoLinks => exact fun h => absurd h (by decide)
      | BadLink => exact fun h => absurd h (by decide)
      | BadNode => exact fun h => absurd h (by decide)
      | UnknownTerm => exact fun h => absurd h (by decide)
      | NotSameSteps => exact fun h => absurd h (by decide)
      | NoFacing => exact fun h => absurd h (by decide)
      | NotARing => exact fun h => absurd h (by decide)
      | NotAJoint => exact fun h => absurd h (by decide)
      | NotShut => exact fun h => absurd h (by decide)
      | BadCut => exact fun h => absurd h (by decide)
      | NoSuchCut => exact fun h => absurd h (by decide)
      | Locked => exact fun h => absurd h (by decide)
      | Nothing => exact fun h => absurd h (by decide)
      | BadName => exact fun h => absurd h (by decide)
      | BadSign => exact fun h => absurd h (by decide)
      | BadMove => exact fun h => absurd h (by decide)
      | NoTerm => exact fun h => absurd h (by decide)
      | NeverOpened => exact fun h => absurd h (by decide)
      | BoundTwice => exact fun h => absurd h (by decide)
      | UnknownName => exact fun h => absurd h (by decide)
      | UsedTwice => exact fun h => absurd h (by decide)
      | NotUsed => exact fun h => absurd h (by decide)
      | NotARedex => exact fun h => absurd h (by decide)
      | NotBalanced => exact fun h => absurd h (by decide)
      | NotAnArrow => exact fun h => absurd h (by decide)
      | NotAPermutation => exact fun h => absurd h (by decide)
      | BadSetting => exact fun h => absurd h (by decide)
      | BadSigns => exact fun h => absurd h (by decide)
      | BadChoice => exact fun h => absurd h (by decide)
      | NotOuter => exact fun h => absurd h (by decide)
    b_ValueError := PySem.W.mg_none_of X G q417
    b_abs := PySem.W.mg_none_of X G q418
    b_bool := PySem.W.mg_none_of X G q419
    b_enumerate := PySem.W.mg_none_of X G q420
    b_int := PySem.W.mg_none_of X G q421
    b_isinstance := PySem.W.mg_none_of X G q422
    b_iter := PySem.W.mg_none_of X G q423
    b_len := PySem.W.mg_none_of X G q424
    b_list := PySem.W.mg_none_of X G q425
    b_max := PySem.W.mg_none_of X G q426
    b_range := PySem.W.mg_none_of X G q427
    b_str := PySem.W.mg_none_of X G q428
    b_sum := PySem.W.mg_none_of X G q429
    b_tuple := PySem.W.mg_none_of X G q430
  }
  have G_x_BadSides : ∀ base : Heap, FnOk PySem.Challenge.rw_comesapart_k41_graphs_of_places_and_ties.prog w K mg base (L2.CX PySem.Challenge.rw_comesapart_k41_graphs_of_places_and_ties.prog w) 1 T.i_BadSides T.fx_BadSides ["self", "place"] (spX1 (T.A.tx .BadSides) "place") := fun base => fok_exc1 (k := 0) (ar := ((defArgs ((clsB (topS 5)).getD 0 (.Pass ⟨0, 0, 0, 0⟩))).posonlyargs ++ (defArgs ((clsB (topS 5)).getD 0 (.Pass ⟨0, 0, 0, 0⟩))).args).headD ⟨"", none, ⟨0, 0, 0, 0⟩⟩) (F := initNF "__init__" "BadSides.__init__" ((clsB (topS 5)).getD 0 (.Pass ⟨0, 0, 0, 0⟩)) cc_BadSides cda_BadSides) (D := D_BadSides) (f := xf_BadSides) (show NdefX.NScope ["self", "place", "__class__"] ["self", "place"] ["__class__"] (defScope ((clsB (topS 5)).getD 0 (.Pass ⟨0, 0, 0, 0⟩))) from NdefX.nscope_by (by decide +kernel)) rfl rfl (by decide +kernel) (by decide +kernel) (by decide) (by decide) (show (defScope ((clsB (topS 5)).getD 0 (.Pass ⟨0, 0, 0, 0⟩))).names.lookup ("super" : PySem.Str) = some NameKind.globalImplicit from by decide +kernel) q207 rfl q208 q209 q211 q210 q212 T.x_BadSides q213 (PySem.W.mg_none_of X G q193) (by decide +kernel) q194 (by intro _; rfl)
  have G_x_TooLarge : ∀ base : Heap, FnOk PySem.Challenge.rw_comesapart_k41_graphs_of_places_and_ties.prog w K mg base (L2.CX PySem.Challenge.rw_comesapart_k41_graphs_of_places_and_ties.prog w) 1 T.i_TooLarge T.fx_TooLarge ["self", "limit"] (spX1 (T.A.tx .TooLarge) "limit") := fun base => fok_exc1 (k := 0) (ar := ((defArgs ((clsB (topS 3)).getD 0 (.Pass ⟨0, 0, 0, 0⟩))).posonlyargs ++ (defArgs ((clsB (topS 3)).getD 0 (.Pass ⟨0, 0, 0, 0⟩))).args).headD ⟨"", none, ⟨0, 0, 0, 0⟩⟩) (F := initNF "__init__" "TooLarge.__init__" ((clsB (topS 3)).getD 0 (.Pass ⟨0, 0, 0, 0⟩)) cc_TooLarge cda_TooLarge) (D := D_TooLarge) (f := xf_TooLarge) (show NdefX.NScope ["self", "limit", "__class__"] ["self", "limit"] ["__class__"] (defScope ((clsB (topS 3)).getD 0 (.Pass ⟨0, 0, 0, 0⟩))) from NdefX.nscope_by (by decide +kernel)) rfl rfl (by decide +kernel) (by decide +kernel) (by decide) (by decide) (show (defScope ((clsB (topS 3)).getD 0 (.Pass ⟨0, 0, 0, 0⟩))).names.lookup ("super" : PySem.Str) = some NameKind.globalImplicit from by decide +kernel) q226 rfl q227 q228 q230 q229 q231 T.x_TooLarge q232 (PySem.W.mg_none_of X G q193) (by decide +kernel) q194 (by intro _; rfl)
  have G_x_UnknownPlace : ∀ base : Heap, FnOk PySem.Challenge.rw_comesapart_k41_graphs_of_places_and_ties.prog w K mg base (L2.CX PySem.Challenge.rw_comesapart_k41_graphs_of_places_and_ties.prog w) 1 T.i_UnknownPlace T.fx_UnknownPlace ["self", "place"] (spX1 (T.A.tx .UnknownPlace) "place") := fun base => fok_exc1 (k := 0) (ar := ((defArgs ((clsB (topS 4)).getD 0 (.Pass ⟨0, 0, 0, 0⟩))).posonlyargs ++ (defArgs ((clsB (topS 4)).getD 0 (.Pass ⟨0, 0, 0, 0⟩))).args).headD ⟨"", none, ⟨0, 0, 0, 0⟩⟩) (F := initNF "__init__" "UnknownPlace.__init__" ((clsB (topS 4)).getD 0 (.Pass ⟨0, 0, 0, 0⟩)) cc_UnknownPlace cda_UnknownPlace) (D := D_UnknownPlace) (f := xf_UnknownPlace) (show NdefX.NScope ["self", "place", "__class__"] ["self", "place"] ["__class__"] (defScope ((clsB (topS 4)).getD 0 (.Pass ⟨0, 0, 0, 0⟩))) from NdefX.nscope_by (by decide +kernel)) rfl rfl (by decide +kernel) (by decide +kernel) (by decide) (by decide) (show (defScope ((clsB (topS 4)).getD 0 (.Pass ⟨0, 0, 0, 0⟩))).names.lookup ("super" : PySem.Str) = some NameKind.globalImplicit from by decide +kernel) q245 rfl q246 q247 q249 q248 q250 T.x_UnknownPlace q251 (PySem.W.mg_none_of X G q193) (by decide +kernel) q194 (by intro _; rfl)
  have G_x_UnknownPoint : ∀ base : Heap, FnOk PySem.Challenge.rw_comesapart_k41_graphs_of_places_and_ties.prog w K mg base (L2.CX PySem.Challenge.rw_comesapart_k41_graphs_of_places_and_ties.prog w) 1 T.i_UnknownPoint T.fx_UnknownPoint ["self", "point"] (spX1 (T.A.tx .UnknownPoint) "point") := fun base => fok_exc1 (k := 0) (ar := ((defArgs ((clsB (topS 8)).getD 0 (.Pass ⟨0, 0, 0, 0⟩))).posonlyargs ++ (defArgs ((clsB (topS 8)).getD 0 (.Pass ⟨0, 0, 0, 0⟩))).args).headD ⟨"", none, ⟨0, 0, 0, 0⟩⟩) (F := initNF "__init__" "UnknownPoint.__init__" ((clsB (topS 8)).getD 0 (.Pass ⟨0, 0, 0, 0⟩)) cc_UnknownPoint cda_UnknownPoint) (D := D_UnknownPoint) (f := xf_UnknownPoint) (show NdefX.NScope ["self", "point", "__class__"] ["self", "point"] ["__class__"] (defScope ((clsB (topS 8)).getD 0 (.Pass ⟨0, 0, 0, 0⟩))) from NdefX.nscope_by (by decide +kernel)) rfl rfl (by decide +kernel) (by decide +kernel) (by decide) (by decide) (show (defScope ((clsB (topS 8)).getD 0 (.Pass ⟨0, 0, 0, 0⟩))).names.lookup ("super" : PySem.Str) = some NameKind.globalImplicit from by decide +kernel) q264 rfl q265 q266 q268 q267 q269 T.x_UnknownPoint q270 (PySem.W.mg_none_of X G q193) (by decide +kernel) q194 (by intro _; rfl)
  have G_x_UnknownSide : ∀ base : Heap, FnOk PySem.Challenge.rw_comesapart_k41_graphs_of_places_and_ties.prog w K mg base (L2.CX PySem.Challenge.rw_comesapart_k41_graphs_of_places_and_ties.prog w) 1 T.i_UnknownSide T.fx_UnknownSide ["self", "place", "side"] (spX2 (T.A.tx .UnknownSide) "place" "side") := fun base => fok_exc2 (k := 0) (ar := ((defArgs ((clsB (topS 6)).getD 0 (.Pass ⟨0, 0, 0, 0⟩))).posonlyargs ++ (defArgs ((clsB (topS 6)).getD 0 (.Pass ⟨0, 0, 0, 0⟩))).args).headD ⟨"", none, ⟨0, 0, 0, 0⟩⟩) (F := initNF "__init__" "UnknownSide.__init__" ((clsB (topS 6)).getD 0 (.Pass ⟨0, 0, 0, 0⟩)) cc_UnknownSide cda_UnknownSide) (D := D_UnknownSide) (f := xf_UnknownSide) (show NdefX.NScope ["self", "place", "side", "__class__"] ["self", "place", "side"] ["__class__"] (defScope ((clsB (topS 6)).getD 0 (.Pass ⟨0, 0, 0, 0⟩))) from NdefX.nscope_by (by decide +kernel)) rfl rfl (by decide +kernel) (by decide +kernel) (by decide) (by decide) (by decide) (by decide) (show (defScope ((clsB (topS 6)).getD 0 (.Pass ⟨0, 0, 0, 0⟩))).names.lookup ("super" : PySem.Str) = some NameKind.globalImplicit from by decide +kernel) q283 rfl q284 q285 q287 q286 q288 T.x_UnknownSide q289 q290 (PySem.W.mg_none_of X G q193) (by decide +kernel) q194 (by intro _; rfl)
  have G_x_UnknownTie : ∀ base : Heap, FnOk PySem.Challenge.rw_comesapart_k41_graphs_of_places_and_ties.prog w K mg base (L2.CX PySem.Challenge.rw_comesapart_k41_graphs_of_places_and_ties.prog w) 1 T.i_UnknownTie T.fx_UnknownTie ["self", "tie"] (spX1 (T.A.tx .UnknownTie) "tie") := fun base => fok_exc1 (k := 0) (ar := ((defArgs ((clsB (topS 7)).getD 0 (.Pass ⟨0, 0, 0, 0⟩))).posonlyargs ++ (defArgs ((clsB (topS 7)).getD 0 (.Pass ⟨0, 0, 0, 0⟩))).args).headD ⟨"", none, ⟨0, 0, 0, 0⟩⟩) (F := initNF "__init__" "UnknownTie.__init__" ((clsB (topS 7)).getD 0 (.Pass ⟨0, 0, 0, 0⟩)) cc_UnknownTie cda_UnknownTie) (D := D_UnknownTie) (f := xf_UnknownTie) (show NdefX.NScope ["self", "tie", "__class__"] ["self", "tie"] ["__class__"] (defScope ((clsB (topS 7)).getD 0 (.Pass ⟨0, 0, 0, 0⟩))) from NdefX.nscope_by (by decide +kernel)) rfl rfl (by decide +kernel) (by decide +kernel) (by decide) (by decide) (show (defScope ((clsB (topS 7)).getD 0 (.Pass ⟨0, 0, 0, 0⟩))).names.lookup ("super" : PySem.Str) = some NameKind.globalImplicit from by decide +kernel) q303 rfl q304 q305 q307 q306 q308 T.x_UnknownTie q309 (PySem.W.mg_none_of X G q193) (by decide +kernel) q194 (by intro _; rfl)
  refine ⟨PySem.W.fnOf "law" "law" (defArgs s_law) (defBody s_law) (defScope s_law) .none kV36 dc36 pm36 an36 cd36 ct36, fun s v => .of_eq rfl, fun base _ _ => ?_⟩
  have G_l_seed := ok_l_seed (P := PySem.Challenge.rw_comesapart_k41_graphs_of_places_and_ties.prog) (w := w) (base := base) T
  have G_l_draws := ok_l_draws (P := PySem.Challenge.rw_comesapart_k41_graphs_of_places_and_ties.prog) (w := w) (base := base) T
  have G_l_pick := ok_l_pick (P := PySem.Challenge.rw_comesapart_k41_graphs_of_places_and_ties.prog) (w := w) (base := base) T
  have G_l_crowd := ok_l_crowd (P := PySem.Challenge.rw_comesapart_k41_graphs_of_places_and_ties.prog) (w := w) (base := base) T G_l_pick
  have G_l_rich := ok_l_rich (P := PySem.Challenge.rw_comesapart_k41_graphs_of_places_and_ties.prog) (w := w) (base := base) T G_l_pick
  have G_l_web := ok_l_web (P := PySem.Challenge.rw_comesapart_k41_graphs_of_places_and_ties.prog) (w := w) (base := base) T G_l_pick
  have G_l_world := ok_l_world (P := PySem.Challenge.rw_comesapart_k41_graphs_of_places_and_ties.prog) (w := w) (base := base) T G_l_pick G_l_crowd G_l_rich G_l_web
  have G_p_check_end := ok_p_check_end (P := PySem.Challenge.rw_comesapart_k41_graphs_of_places_and_ties.prog) (w := w) (base := base) T (G_x_UnknownPlace base) (G_x_UnknownSide base)
  have G_m_WebX_initX := ok_m_WebX_initX (P := PySem.Challenge.rw_comesapart_k41_graphs_of_places_and_ties.prog) (w := w) (base := base) T G_p_check_end (G_x_BadSides base) (G_x_TooLarge base)
  have G_l_firsts := ok_l_firsts (P := PySem.Challenge.rw_comesapart_k41_graphs_of_places_and_ties.prog) (w := w) (base := base) T
  have G_m_WebX_containsX := ok_m_WebX_containsX (P := PySem.Challenge.rw_comesapart_k41_graphs_of_places_and_ties.prog) (w := w) (base := base) T
  have G_p_check_place := ok_p_check_place (P := PySem.Challenge.rw_comesapart_k41_graphs_of_places_and_ties.prog) (w := w) (base := base) T G_m_WebX_containsX (G_x_UnknownPlace base)
  have G_p_first_pairs := ok_p_first_pairs (P := PySem.Challenge.rw_comesapart_k41_graphs_of_places_and_ties.prog) (w := w) (base := base) T
  have G_m_WebX_iterX := ok_m_WebX_iterX (P := PySem.Challenge.rw_comesapart_k41_graphs_of_places_and_ties.prog) (w := w) (base := base) T
  have G_p_seat := ok_p_seat (P := PySem.Challenge.rw_comesapart_k41_graphs_of_places_and_ties.prog) (w := w) (base := base) T
  have G_p_inner_ties := ok_p_inner_ties (P := PySem.Challenge.rw_comesapart_k41_graphs_of_places_and_ties.prog) (w := w) (base := base) T
  have G_m_PairedWebX_initX := ok_m_PairedWebX_initX (P := PySem.Challenge.rw_comesapart_k41_graphs_of_places_and_ties.prog) (w := w) (base := base) T (G_x_TooLarge base) (G_x_UnknownPoint base)
  have G_p_paired_of_web := ok_p_paired_of_web (P := PySem.Challenge.rw_comesapart_k41_graphs_of_places_and_ties.prog) (w := w) (base := base) T G_p_first_pairs G_m_WebX_iterX G_p_seat G_p_inner_ties G_m_PairedWebX_initX
  have G_p_pair_at := ok_p_pair_at (P := PySem.Challenge.rw_comesapart_k41_graphs_of_places_and_ties.prog) (w := w) (base := base) T G_m_WebX_containsX G_p_first_pairs (G_x_UnknownPlace base)
  have G_m_PairedWeb_points := ok_m_PairedWeb_points (P := PySem.Challenge.rw_comesapart_k41_graphs_of_places_and_ties.prog) (w := w) (base := base) T
  have G_m_PairedWeb_all_ties := ok_m_PairedWeb_all_ties (P := PySem.Challenge.rw_comesapart_k41_graphs_of_places_and_ties.prog) (w := w) (base := base) T
  have G_p_place_graph := ok_p_place_graph (P := PySem.Challenge.rw_comesapart_k41_graphs_of_places_and_ties.prog) (w := w) (base := base) T G_p_check_place G_p_paired_of_web G_p_pair_at G_m_PairedWeb_points G_m_PairedWeb_all_ties
  have G_p_check_tie := ok_p_check_tie (P := PySem.Challenge.rw_comesapart_k41_graphs_of_places_and_ties.prog) (w := w) (base := base) T (G_x_UnknownTie base)
  have G_p_tie_graph := ok_p_tie_graph (P := PySem.Challenge.rw_comesapart_k41_graphs_of_places_and_ties.prog) (w := w) (base := base) T G_p_check_tie G_p_paired_of_web G_m_PairedWeb_points G_m_PairedWeb_all_ties
  have G_p_cycle_through_place := ok_p_cycle_through_place (P := PySem.Challenge.rw_comesapart_k41_graphs_of_places_and_ties.prog) (w := w) (base := base) T G_p_check_place G_p_paired_of_web
  have G_p_tie_answer := ok_p_tie_answer (P := PySem.Challenge.rw_comesapart_k41_graphs_of_places_and_ties.prog) (w := w) (base := base) T
  have G_p_cycle_through_tie := ok_p_cycle_through_tie (P := PySem.Challenge.rw_comesapart_k41_graphs_of_places_and_ties.prog) (w := w) (base := base) T G_p_check_tie G_p_paired_of_web G_p_tie_answer
  have G_p_on_cycles := ok_p_on_cycles (P := PySem.Challenge.rw_comesapart_k41_graphs_of_places_and_ties.prog) (w := w) (base := base) T G_p_paired_of_web
  have G_l_told := ok_l_told (P := PySem.Challenge.rw_comesapart_k41_graphs_of_places_and_ties.prog) (w := w) (base := base) T G_p_place_graph G_p_tie_graph G_p_cycle_through_place G_p_cycle_through_tie G_p_on_cycles
  have G_l_same := ok_l_same (P := PySem.Challenge.rw_comesapart_k41_graphs_of_places_and_ties.prog) (w := w) (base := base) T
  have G_l_refused := ok_l_refused (P := PySem.Challenge.rw_comesapart_k41_graphs_of_places_and_ties.prog) (w := w) (base := base) T G_l_pick G_l_told G_l_same
  have G_l_large := ok_l_large (P := PySem.Challenge.rw_comesapart_k41_graphs_of_places_and_ties.prog) (w := w) (base := base) T G_l_told G_l_same
  have G_l_point := ok_l_point (P := PySem.Challenge.rw_comesapart_k41_graphs_of_places_and_ties.prog) (w := w) (base := base) T
  have G_l_free := ok_l_free (P := PySem.Challenge.rw_comesapart_k41_graphs_of_places_and_ties.prog) (w := w) (base := base) T G_l_firsts G_l_point
  have G_l_due := ok_l_due (P := PySem.Challenge.rw_comesapart_k41_graphs_of_places_and_ties.prog) (w := w) (base := base) T G_l_firsts G_l_free
  have G_l_graphs_right := ok_l_graphs_right (P := PySem.Challenge.rw_comesapart_k41_graphs_of_places_and_ties.prog) (w := w) (base := base) T G_l_told G_l_due G_l_same
  have G_law := ok_law (P := PySem.Challenge.rw_comesapart_k41_graphs_of_places_and_ties.prog) (w := w) (base := base) T G_l_seed G_l_draws G_l_world G_m_WebX_initX G_l_firsts G_l_refused G_l_large G_l_free G_l_graphs_right G_l_web
  exact G_law
end K41

open PySem PySem.W PyProof.Rows
set_option maxRecDepth 100000 in
set_option maxHeartbeats 0 in
theorem PySem.Challenge.cw_comesapart_k41_graphs_of_places_and_ties_holds : PySem.Challenge.rw_comesapart_k41_graphs_of_places_and_ties.Holds := by
  w_on; o_law; k_head; (case hw => w_witness2)
  k_fill
  refine L2.walk_of (l := PySem.Challenge.rw_comesapart_k41_graphs_of_places_and_ties) (n := 63) (k := 12) (x := "_law_script") (CX := fun _ => L2.CX0) (sp := fun w => K41.sp_law ⟨PySem.Challenge.rw_comesapart_k41_graphs_of_places_and_ties.prog, w, _⟩) rfl (by decide) rfl ⟨rfl, by decide, by decide⟩ (fun w h Y => PySem.W.kIn_of Y) ?F (fun w _ a ns hl _ hS => ⟨⟨ns⟩, K41.law_plain ns hl, G.Fn.script hS⟩) (fun _ _ _ _ _ h => h)
  case F =>
    intro w mg fa h KX G hmg
    refine' K41.all_mk KX G hmg ?q0 ?q1 ?q2 ?q3 ?q4 ?q5 ?q6 ?q7 ?q8 ?q9 ?q10 ?q11 ?q12 ?q13 ?q14 ?q15 ?q16 ?q17 ?q18 ?q19 ?q20 ?q21 ?q22 ?q23 ?q24 ?q25 ?q26 ?q27 ?q28 ?q29 ?q30 ?q31 ?q32 ?q33 ?q34 ?q35 ?q36 ?q37 ?q38 ?q39 ?q40 ?q41 ?q42 ?q43 ?q44 ?q45 ?q46 ?q47 ?q48 ?q49 ?q50 ?q51 ?q52 ?q53 ?q54 ?q55 ?q56 ?q57 ?q58 ?q59 ?q60 ?q61 ?q62 ?q63 ?q64 ?q65 ?q66 ?q67 ?q68 ?q69 ?q70 ?q71 ?q72 ?q73 ?q74 ?q75 ?q76 ?q77 ?q78 ?q79 ?q80 ?q81 ?q82 ?q83 ?q84 ?q85 ?q86 ?q87 ?q88 ?q89 ?q90 ?q91 ?q92 ?q93 ?q94 ?q95 ?q96 ?q97 ?q98 ?q99 ?q100 ?q101 ?q102 ?q103 ?q104 ?q105 ?q106 ?q107 ?q108 ?q109 ?q110 ?q111 ?q112 ?q113 ?q114 ?q115 ?q116 ?q117 ?q118 ?q119 ?q120 ?q121 ?q122 ?q123 ?q124 ?q125 ?q126 ?q127 ?q128 ?q129 ?q130 ?q131 ?q132 ?q133 ?q134 ?q135 ?q136 ?q137 ?q138 ?q139 ?q140 ?q141 ?q142 ?q143 ?q144 ?q145 ?q146 ?q147 ?q148 ?q149 ?q150 ?q151 ?q152 ?q153 ?q154 ?q155 ?q156 ?q157 ?q158 ?q159 ?q160 ?q161 ?q162 ?q163 ?q164 ?q165 ?q166 ?q167 ?q168 ?q169 ?q170 ?q171 ?q172 ?q173 ?q174 ?q175 ?q176 ?q177 ?q178 ?q179 ?q180 ?q181 ?q182 ?q183 ?q184 ?q185 ?q186 ?q187 ?q188 ?q189 ?q190 ?q191 ?q192 ?q193 ?q194 ?q195 ?q196 ?q197 ?q198 ?q199 ?q200 ?q201 ?q202 ?q203 ?q204 ?q205 ?q206 ?q207 ?q208 ?q209 ?q210 ?q211 ?q212 ?q213 ?q214 ?q215 ?q216 ?q217 ?q218 ?q219 ?q220 ?q221 ?q222 ?q223 ?q224 ?q225 ?q226 ?q227 ?q228 ?q229 ?q230 ?q231 ?q232 ?q233 ?q234 ?q235 ?q236 ?q237 ?q238 ?q239 ?q240 ?q241 ?q242 ?q243 ?q244 ?q245 ?q246 ?q247 ?q248 ?q249 ?q250 ?q251 ?q252 ?q253 ?q254 ?q255 ?q256 ?q257 ?q258 ?q259 ?q260 ?q261 ?q262 ?q263 ?q264 ?q265 ?q266 ?q267 ?q268 ?q269 ?q270 ?q271 ?q272 ?q273 ?q274 ?q275 ?q276 ?q277 ?q278 ?q279 ?q280 ?q281 ?q282 ?q283 ?q284 ?q285 ?q286 ?q287 ?q288 ?q289 ?q290 ?q291 ?q292 ?q293 ?q294 ?q295 ?q296 ?q297 ?q298 ?q299 ?q300 ?q301 ?q302 ?q303 ?q304 ?q305 ?q306 ?q307 ?q308 ?q309 ?q310 ?q311 ?q312 ?q313 ?q314 ?q315 ?q316 ?q317 ?q318 ?q319 ?q320 ?q321 ?q322 ?q323 ?q324 ?q325 ?q326 ?q327 ?q328 ?q329 ?q330 ?q331 ?q332 ?q333 ?q334 ?q335 ?q336 ?q337 ?q338 ?q339 ?q340 ?q341 ?q342 ?q343 ?q344 ?q345 ?q346 ?q347 ?q348 ?q349 ?q350 ?q351 ?q352 ?q353 ?q354 ?q355 ?q356 ?q357 ?q358 ?q359 ?q360 ?q361 ?q362 ?q363 ?q364 ?q365 ?q366 ?q367 ?q368 ?q369 ?q370 ?q371 ?q372 ?q373 ?q374 ?q375 ?q376 ?q377 ?q378 ?q379 ?q380 ?q381 ?q382 ?q383 ?q384 ?q385 ?q386 ?q387 ?q388 ?q389 ?q390 ?q391 ?q392 ?q393 ?q394 ?q395 ?q396 ?q397 ?q398 ?q399 ?q400 ?q401 ?q402 ?q403 ?q404 ?q405 ?q406 ?q407 ?q408 ?q409 ?q410 ?q411 ?q412 ?q413 ?q414 ?q415 ?q416 ?q417 ?q418 ?q419 ?q420 ?q421 ?q422 ?q423 ?q424 ?q425 ?q426 ?q427 ?q428 ?q429 ?q430
    (case q0 => k_is)
    (case q1 => k_is)
    (case q2 => k_is)
    (case q3 => k_is)
    (case q4 => k_is)
    (case q5 => k_is)
    (case q6 => k_is)
    (case q7 => k_is)
    (case q8 => k_is)
    (case q9 => k_is)
    (case q10 => k_is)
    (case q11 => k_is)
    (case q12 => k_is)
    (case q13 => k_is)
    (case q14 => k_is)
    (case q15 => k_is)
    (case q16 => k_is)
    (case q17 => k_is)
    (case q18 => k_is)
    (case q19 => k_is)
    (case q20 => k_is)
    (case q21 => k_is)
    (case q22 => k_is)
    (case q23 => k_is)
    (case q24 => k_is)
    (case q25 => k_is)
    (case q26 => k_is)
    (case q27 => k_is)
    (case q28 => k_is)
    (case q29 => k_is)
    (case q30 => k_is)
    (case q31 => k_is)
    (case q32 => k_is)
    (case q33 => k_is)
    (case q34 => k_is)
    (case q35 => k_is)
    (case q36 => k_is)
    (case q37 => k_is)
    (case q38 => k_is)
    (case q39 => k_is)
    (case q40 => k_is)
    (case q41 => k_is)
    (case q42 => k_is)
    (case q43 => k_is)
    (case q44 => k_is)
    (case q45 => k_is)
    (case q46 => k_is)
    (case q47 => k_is)
    (case q48 => k_is)
    (case q49 => k_is)
    (case q50 => k_is)
    (case q51 => k_is)
    (case q52 => k_is)
    (case q53 => k_is)
    (case q54 => k_is)
    (case q55 => k_is)
    (case q56 => k_is)
    (case q57 => k_is)
    (case q58 => k_is)
    (case q59 => k_is)
    (case q60 => k_is)
    (case q61 => k_is)
    (case q62 => k_is)
    (case q63 => k_is)
    (case q64 => k_is)
    (case q65 => k_is)
    (case q66 => k_is)
    (case q67 => k_is)
    (case q68 => k_is)
    (case q69 => k_is)
    (case q70 => k_is)
    (case q71 => k_is)
    (case q72 => k_is)
    (case q73 => k_is)
    (case q74 => k_is)
    (case q75 => k_is)
    (case q76 => k_is)
    (case q77 => k_is)
    (case q78 => k_is)
    (case q79 => k_is)
    (case q80 => k_is)
    (case q81 => k_is)
    (case q82 => k_is)
    (case q83 => k_is)
    (case q84 => k_is)
    (case q85 => k_is)
    (case q86 => k_is)
    (case q87 => k_is)
    (case q88 => k_is)
    (case q89 => k_is)
    (case q90 => k_is)
    (case q91 => k_is)
    (case q92 => k_is)
    (case q93 => k_is)
    (case q94 => k_is)
    (case q95 => k_is)
    (case q96 => k_is)
    (case q97 => k_is)
    (case q98 => k_is)
    (case q99 => k_is)
    (case q100 => k_is)
    (case q101 => k_is)
    (case q102 => k_is)
    (case q103 => k_is)
    (case q104 => k_is)
    (case q105 => k_is)
    (case q106 => k_is)
    (case q107 => k_is)
    (case q108 => k_is)
    (case q109 => k_is)
    (case q110 => k_is)
    (case q111 => k_is)
    (case q112 => k_is)
    (case q113 => k_is)
    (case q114 => k_is)
    (case q115 => k_is)
    (case q116 => k_is)
    (case q117 => k_is)
    (case q118 => k_is)
    (case q119 => k_is)
    (case q120 => k_is)
    (case q121 => k_is)
    (case q122 => k_is)
    (case q123 => k_is)
    (case q124 => k_is)
    (case q125 => k_is)
    (case q126 => k_is)
    (case q127 => k_is)
    (case q128 => k_is)
    (case q129 => k_is)
    (case q130 => k_is)
    (case q131 => k_is)
    (case q132 => k_is)
    (case q133 => k_is)
    (case q134 => k_is)
    (case q135 => k_is)
    (case q136 => k_is)
    (case q137 => k_is)
    (case q138 => k_is)
    (case q139 => k_is)
    (case q140 => k_is)
    (case q141 => k_is)
    (case q142 => k_is)
    (case q143 => k_is)
    (case q144 => k_is)
    (case q145 => k_is)
    (case q146 => k_is)
    (case q147 => k_is)
    (case q148 => k_is)
    (case q149 => k_is)
    (case q150 => k_is)
    (case q151 => k_is)
    (case q152 => k_is)
    (case q153 => k_is)
    (case q154 => k_is)
    (case q155 => k_is)
    (case q156 => k_is)
    (case q157 => k_is)
    (case q158 => k_is)
    (case q159 => k_is)
    (case q160 => k_is)
    (case q161 => k_is)
    (case q162 => k_is)
    (case q163 => k_is)
    (case q164 => k_is)
    (case q165 => k_is)
    (case q166 => k_is)
    (case q167 => k_is)
    (case q168 => k_is)
    (case q169 => k_is)
    (case q170 => k_is)
    (case q171 => k_is)
    (case q172 => k_is)
    (case q173 => k_is)
    (case q174 => k_is)
    (case q175 => k_is)
    (case q176 => k_is)
    (case q177 => k_is)
    (case q178 => k_is)
    (case q179 => k_is)
    (case q180 => k_is)
    (case q181 => k_is)
    (case q182 => k_is)
    (case q183 => k_is)
    (case q184 => k_is)
    (case q185 => k_is)
    (case q186 => k_is)
    (case q187 => k_is)
    (case q188 => k_is)
    (case q189 => k_is)
    (case q190 => k_is)
    (case q191 => k_is)
    (case q192 => k_is)
    (case q193 => k_is)
    (case q194 => k_is)
    (case q195 => k_is)
    (case q196 => decide +kernel)
    (case q197 => k_is)
    (case q198 => k_is)
    (case q199 => k_is)
    (case q200 => k_is)
    (case q201 => k_is)
    (case q202 => k_is)
    (case q203 => ks_is)
    (case q204 => k_is)
    (case q205 => k_is)
    (case q206 => k_is)
    (case q207 => k_is)
    (case q208 => k_is)
    (case q209 => k_is)
    (case q210 => k_is)
    (case q211 => rfl)
    (case q212 => decide +kernel)
    (case q213 => k_is)
    (case q214 => k_is)
    (case q215 => decide +kernel)
    (case q216 => k_is)
    (case q217 => k_is)
    (case q218 => k_is)
    (case q219 => k_is)
    (case q220 => k_is)
    (case q221 => k_is)
    (case q222 => ks_is)
    (case q223 => k_is)
    (case q224 => k_is)
    (case q225 => k_is)
    (case q226 => k_is)
    (case q227 => k_is)
    (case q228 => k_is)
    (case q229 => k_is)
    (case q230 => rfl)
    (case q231 => decide +kernel)
    (case q232 => k_is)
    (case q233 => k_is)
    (case q234 => decide +kernel)
    (case q235 => k_is)
    (case q236 => k_is)
    (case q237 => k_is)
    (case q238 => k_is)
    (case q239 => k_is)
    (case q240 => k_is)
    (case q241 => ks_is)
    (case q242 => k_is)
    (case q243 => k_is)
    (case q244 => k_is)
    (case q245 => k_is)
    (case q246 => k_is)
    (case q247 => k_is)
    (case q248 => k_is)
    (case q249 => rfl)
    (case q250 => decide +kernel)
    (case q251 => k_is)
    (case q252 => k_is)
    (case q253 => decide +kernel)
    (case q254 => k_is)
    (case q255 => k_is)
    (case q256 => k_is)
    (case q257 => k_is)
    (case q258 => k_is)
    (case q259 => k_is)
    (case q260 => ks_is)
    (case q261 => k_is)
    (case q262 => k_is)
    (case q263 => k_is)
    (case q264 => k_is)
    (case q265 => k_is)
    (case q266 => k_is)
    (case q267 => k_is)
    (case q268 => rfl)
    (case q269 => decide +kernel)
    (case q270 => k_is)
    (case q271 => k_is)
    (case q272 => decide +kernel)
    (case q273 => k_is)
    (case q274 => k_is)
    (case q275 => k_is)
    (case q276 => k_is)
    (case q277 => k_is)
    (case q278 => k_is)
    (case q279 => ks_is)
    (case q280 => k_is)
    (case q281 => k_is)
    (case q282 => k_is)
    (case q283 => k_is)
    (case q284 => k_is)
    (case q285 => k_is)
    (case q286 => k_is)
    (case q287 => rfl)
    (case q288 => decide +kernel)
    (case q289 => k_is)
    (case q290 => k_is)
    (case q291 => k_is)
    (case q292 => decide +kernel)
    (case q293 => k_is)
    (case q294 => k_is)
    (case q295 => k_is)
    (case q296 => k_is)
    (case q297 => k_is)
    (case q298 => k_is)
    (case q299 => ks_is)
    (case q300 => k_is)
    (case q301 => k_is)
    (case q302 => k_is)
    (case q303 => k_is)
    (case q304 => k_is)
    (case q305 => k_is)
    (case q306 => k_is)
    (case q307 => rfl)
    (case q308 => decide +kernel)
    (case q309 => k_is)
    (case q310 => k_is)
    (case q311 => k_is)
    (case q312 => k_is)
    (case q313 => k_is)
    (case q314 => k_is)
    (case q315 => k_is)
    (case q316 => k_is)
    (case q317 => k_is)
    (case q318 => k_is)
    (case q319 => k_is)
    (case q320 => k_is)
    (case q321 => k_is)
    (case q322 => k_is)
    (case q323 => k_is)
    (case q324 => k_is)
    (case q325 => k_is)
    (case q326 => k_is)
    (case q327 => k_is)
    (case q328 => k_is)
    (case q329 => k_is)
    (case q330 => k_is)
    (case q331 => k_is)
    (case q332 => k_is)
    (case q333 => k_is)
    (case q334 => k_is)
    (case q335 => k_is)
    (case q336 => k_is)
    (case q337 => k_is)
    (case q338 => k_is)
    (case q339 => k_is)
    (case q340 => k_is)
    (case q341 => k_is)
    (case q342 => k_is)
    (case q343 => k_is)
    (case q344 => k_is)
    (case q345 => k_is)
    (case q346 => k_is)
    (case q347 => k_is)
    (case q348 => k_is)
    (case q349 => k_is)
    (case q350 => k_is)
    (case q351 => k_is)
    (case q352 => k_is)
    (case q353 => k_is)
    (case q354 => k_is)
    (case q355 => k_is)
    (case q356 => k_is)
    (case q357 => k_is)
    (case q358 => k_is)
    (case q359 => k_is)
    (case q360 => k_is)
    (case q361 => k_is)
    (case q362 => k_is)
    (case q363 => k_is)
    (case q364 => k_is)
    (case q365 => k_is)
    (case q366 => k_is)
    (case q367 => k_is)
    (case q368 => k_is)
    (case q369 => k_is)
    (case q370 => k_is)
    (case q371 => k_is)
    (case q372 => k_is)
    (case q373 => k_is)
    (case q374 => k_is)
    (case q375 => k_is)
    (case q376 => k_is)
    (case q377 => k_is)
    (case q378 => k_is)
    (case q379 => k_is)
    (case q380 => k_is)
    (case q381 => k_is)
    (case q382 => k_is)
    (case q383 => k_is)
    (case q384 => k_is)
    (case q385 => k_is)
    (case q386 => k_is)
    (case q387 => k_is)
    (case q388 => k_is)
    (case q389 => k_is)
    (case q390 => k_is)
    (case q391 => k_is)
    (case q392 => k_is)
    (case q393 => k_is)
    (case q394 => k_is)
    (case q395 => k_is)
    (case q396 => decide)
    (case q397 => decide)
    (case q398 => decide)
    (case q399 => decide)
    (case q400 => decide)
    (case q401 => decide)
    (case q402 => decide)
    (case q403 => decide)
    (case q404 => decide)
    (case q405 => decide)
    (case q406 => decide)
    (case q407 => decide)
    (case q408 => decide)
    (case q409 => decide)
    (case q410 => decide)
    (case q411 => k_is)
    (case q412 => k_is)
    (case q413 => k_is)
    (case q414 => k_is)
    (case q415 => k_is)
    (case q416 => k_is)
    (case q417 => k_is)
    (case q418 => k_is)
    (case q419 => k_is)
    (case q420 => k_is)
    (case q421 => k_is)
    (case q422 => k_is)
    (case q423 => k_is)
    (case q424 => k_is)
    (case q425 => k_is)
    (case q426 => k_is)
    (case q427 => k_is)
    (case q428 => k_is)
    (case q429 => k_is)
    (case q430 => k_is)

